import PyProof.Rows.All
import HandS.ForMost
import HandS.HeadHook1
import HandS.Defaults
import HandS.IsInst
import HandS.TupAny
import HandS.TupMul
import HandS.Style
import HandS.Text
import KE.GoesEnum
import KE.KTurns
import HandS.DictComp
import HandS.SortKw
import HandS.Small
import HandS.More
import HandS.Conv
import HandS.HeadHook3
import HandS.SortInts
import KE.KSortTupAny
import HandS.SetFor
import HandS.Strs
import HandS.Zip
import KE.SortKeyHeap
import HandS.Exc
import HandS.ExcValue
import KE.KStateDown
import HandS.Ends
import HandS.Words
import HandS.WordsExc
import HandS.Head0
import HandS.Head1
import HandS.Head2
import HandS.HeadEnd
import Wide.Once
import PySem.Challenge.RW_showcues_k77_whole_clocks
set_option Elab.async false
/-! PA -/
set_option autoImplicit false
set_option maxRecDepth 100000
set_option linter.all false
namespace PX
open PySem PySem.Spec PyProof.Rows L2
inductive T where
  | non | bl (b : Bool) | int (i : Int) | str (x : Str)
  | tup (ts : List T) | lst (ts : List T) | dct (kts : List (Key × T)) | obj (c : Str) (fs : List (Str × T))
  | scr (ns : List Int) | raw (v : V)
mutual
def tcB (K : PySem.W.Frag) : T → Value → Bool
  | .non, .none => true
  | .bl b, .bool c => b == c
  | .int i, .int j _ => decide (i = j)
  | .str x, .str y _ => decide (x = y)
  | .tup ts, .ref a => (match K.lookup a with
    | some ⟨.type c, _, .seq its _, _⟩ => decide (c = "tuple") && (decide (its.size ≤ 1000) && tcsB K ts its.toList)
    | _ => false)
  | _, _ => false
def tcsB (K : PySem.W.Frag) : List T → List Value → Bool
  | [], [] => true
  | t :: ts, v :: vs => tcB K t v && tcsB K ts vs
  | _, _ => false
end
def gloB (K : PySem.W.Frag) (x : Str) (t : T) : Bool := match PySem.W.nsIn K mainGlobals x with
  | some (some v) => tcB K t v
  | _ => false
def kdB (K : PySem.W.Frag) (x : Str) (tab : List (Str × T)) : Bool := tab.all fun p => match PySem.W.nsIn K (He.ga K x) p.1 with
  | some (some u) => tcB K p.2 u
  | _ => false
def isCB (K : PySem.W.Frag) (c : Str) : Bool := He.eqO (PySem.W.findIn K (.ref (He.ga K c)) "__class__") (some (some (.builtin "object.__class__"))) && (He.eqO (PySem.W.specialIn K (.builtin "object.__class__") "__get__") (some (some (.builtin "getset_descriptor.__get__"))) &&
  (decide (PySem.W.takesIn K (.builtin "object.__class__") = some true) && decide (PySem.W.mroIn K (He.ga K c) (.type "object") = some true)))
structure Ck where
  glo : List (Str × T)
  kd : List (Str × List (Str × T))
  isc : List Str
def Ck.ok (k : Ck) (K : PySem.W.Frag) : Bool := (k.glo.all fun p => gloB K p.1 p.2) && ((k.kd.all fun p => kdB K p.1 p.2) && k.isc.all fun c => isCB K c)
abbrev AlP : Type := He.AlT × Bool
def kTabs (k : Ck) : List He.Tab := k.kd.map fun p => ((fun K => He.ga K p.1), p.2.map (·.1))
def obsP (fa : List He.Fa) (fn : List He.DefD) (k : Ck) (K : PySem.W.Frag) : AlP := (He.obsT fa fn (kTabs k) K, k.ok K)
def valP (fn : List He.DefD) (k : Ck) (w : World) : AlP := (He.valT fn (kTabs k) w, true)
def SaysP (fa : List He.Fa) (fn : List He.DefD) (k : Ck) (w : World) (K : PySem.W.Frag) : Prop := obsP fa fn k K = valP fn k w
end PX
/-! DT -/
set_option autoImplicit false
set_option maxRecDepth 100000
set_option linter.all false
set_option maxHeartbeats 0
namespace Go
open PySem L2 PX
def t_LAST_TICK : T := .int 999
def t_LEAST_FOLLOW : T := .int 1
def t_LEAST_NUMBER : T := .int 1
def t_LEAST_TOP : T := .int 1
def t_LETTERS : T := .str "abcdefghijklmnopqrstuvwxyz"
def t_LONGEST : T := .int 8
def t_MOST_ACTS : T := .int 60
def t_MOST_BACK : T := .int 5
def t_MOST_CHANNELS : T := .int 8
def t_MOST_CUES : T := .int 20
def t_MOST_FADE : T := .int 5
def t_MOST_FOLLOW : T := .int 5
def t_MOST_NUMBER_acts : T := .int 999
def t_MOST_NUMBER_cueforms : T := .int 999
def t_MOST_TIMES : T := .int 60
def t_MOST_TOP : T := .int 9
def t_NEVER : T := .int (-1)
def t_NOBODY : T := .tup [.tup [], .int 0]
def t_PARTS : T := .int 5
def t_STILL : T := .tup [.int 0, .int 0, .int 0, .int 0]
def t_WAIT : T := .tup [.str "wait"]
def k_SIZES : List (Str × T) := [("go", .int 1), ("back", .int 1), ("jump", .int 2), ("hold", .int 3), ("free", .int 2), ("wait", .int 1)]
def k_WORDS : List (Str × T) := [("all", .bl true), ("back", .bl true), ("black", .bl true), ("cue", .bl true), ("cut", .bl true), ("drop", .bl true), ("edit", .bl true), ("fade", .bl true), ("follow", .bl true), ("free", .bl true), ("go", .bl true), ("hold", .bl true), ("in", .bl true), ("jump", .bl true), ("no", .bl true), ("none", .bl true), ("now", .bl true), ("put", .bl true), ("snap", .bl true), ("to", .bl true), ("undo", .bl true), ("wait", .bl true), ("whole", .bl true), ("yes", .bl true)]
abbrev PR : Program := PySem.Challenge.pw_showcues_k77_whole_clocks
def top (i : Nat) : Stmt := PR.main.body.getD i (.Pass ⟨0, 0, 0, 0⟩)
def d__law_draw : He.DefD := ⟨("_law_draw", none), "_law_draw", "_law_draw", defArgs (top 98), defBody (top 98), defScope (top 98), [], []⟩
def d__law_pick : He.DefD := ⟨("_law_pick", none), "_law_pick", "_law_pick", defArgs (top 99), defBody (top 99), defScope (top 99), [], []⟩
def d__law_cue : He.DefD := ⟨("_law_cue", none), "_law_cue", "_law_cue", defArgs (top 105), defBody (top 105), defScope (top 105), [], []⟩
def d__law_cues : He.DefD := ⟨("_law_cues", none), "_law_cues", "_law_cues", defArgs (top 106), defBody (top 106), defScope (top 106), [], []⟩
def d__law_woven : He.DefD := ⟨("_law_woven", none), "_law_woven", "_law_woven", defArgs (top 120), defBody (top 120), defScope (top 120), [], []⟩
def d__law_first : He.DefD := ⟨("_law_first", none), "_law_first", "_law_first", defArgs (top 113), defBody (top 113), defScope (top 113), [], []⟩
def d__law_level : He.DefD := ⟨("_law_level", none), "_law_level", "_law_level", defArgs (top 108), defBody (top 108), defScope (top 108), [], []⟩
def d__law_look : He.DefD := ⟨("_law_look", none), "_law_look", "_law_look", defArgs (top 115), defBody (top 115), defScope (top 115), [], []⟩
def d__law_meaning : He.DefD := ⟨("_law_meaning", none), "_law_meaning", "_law_meaning", defArgs (top 107), defBody (top 107), defScope (top 107), [], []⟩
def d__law_sent : He.DefD := ⟨("_law_sent", none), "_law_sent", "_law_sent", defArgs (top 109), defBody (top 109), defScope (top 109), [], []⟩
def d__law_brought : He.DefD := ⟨("_law_brought", none), "_law_brought", "_law_brought", defArgs (top 110), defBody (top 110), defScope (top 110), [], []⟩
def d__law_due : He.DefD := ⟨("_law_due", none), "_law_due", "_law_due", defArgs (top 111), defBody (top 111), defScope (top 111), [], []⟩
def d__law_started : He.DefD := ⟨("_law_started", none), "_law_started", "_law_started", defArgs (top 112), defBody (top 112), defScope (top 112), [], []⟩
def d__law_done : He.DefD := ⟨("_law_done", none), "_law_done", "_law_done", defArgs (top 114), defBody (top 114), defScope (top 114), [], []⟩
def d__law_log : He.DefD := ⟨("_law_log", none), "_law_log", "_law_log", defArgs (top 121), defBody (top 121), defScope (top 121), [], []⟩
def d__law_same : He.DefD := ⟨("_law_same", none), "_law_same", "_law_same", defArgs (top 100), defBody (top 100), defScope (top 100), [], []⟩
def d__law_is_word : He.DefD := ⟨("_law_is_word", none), "_law_is_word", "_law_is_word", defArgs (top 101), defBody (top 101), defScope (top 101), [], []⟩
def d__law_is_name : He.DefD := ⟨("_law_is_name", none), "_law_is_name", "_law_is_name", defArgs (top 102), defBody (top 102), defScope (top 102), [], []⟩
def d__law_name : He.DefD := ⟨("_law_name", none), "_law_name", "_law_name", defArgs (top 103), defBody (top 103), defScope (top 103), [], []⟩
def d__law_rig : He.DefD := ⟨("_law_rig", none), "_law_rig", "_law_rig", defArgs (top 104), defBody (top 104), defScope (top 104), [], []⟩
def d__law_act : He.DefD := ⟨("_law_act", none), "_law_act", "_law_act", defArgs (top 116), defBody (top 116), defScope (top 116), [], []⟩
def d__law_tick : He.DefD := ⟨("_law_tick", none), "_law_tick", "_law_tick", defArgs (top 119), defBody (top 119), defScope (top 119), [], []⟩
def d__law_clock : He.DefD := ⟨("_law_clock", none), "_law_clock", "_law_clock", defArgs (top 118), defBody (top 118), defScope (top 118), [], []⟩
def d_are_letters : He.DefD := ⟨("are_letters", none), "are_letters", "are_letters", defArgs (top 14), defBody (top 14), defScope (top 14), [], []⟩
def d_is_name : He.DefD := ⟨("is_name", none), "is_name", "is_name", defArgs (top 15), defBody (top 15), defScope (top 15), [], []⟩
def d_first_wrong_name : He.DefD := ⟨("first_wrong_name", none), "first_wrong_name", "first_wrong_name", defArgs (top 17), defBody (top 17), defScope (top 17), [], []⟩
def d_need_channels : He.DefD := ⟨("need_channels", none), "need_channels", "need_channels", defArgs (top 46), defBody (top 46), defScope (top 46), [], []⟩
def d_is_whole : He.DefD := ⟨("is_whole", none), "is_whole", "is_whole", defArgs (top 19), defBody (top 19), defScope (top 19), [], []⟩
def d_is_number : He.DefD := ⟨("is_number", none), "is_number", "is_number", defArgs (top 20), defBody (top 20), defScope (top 20), [], []⟩
def d_need_number : He.DefD := ⟨("need_number", none), "need_number", "need_number", defArgs (top 22), defBody (top 22), defScope (top 22), [], []⟩
def d_Rig___init__ : He.DefD := ⟨("Rig", some "__init__"), "__init__", "Rig.__init__", defArgs (inClass (top 47) 0), defBody (inClass (top 47) 0), defScope (inClass (top 47) 0), [], []⟩
def d_need_rig : He.DefD := ⟨("need_rig", none), "need_rig", "need_rig", defArgs (top 48), defBody (top 48), defScope (top 48), [], []⟩
def d_is_follow : He.DefD := ⟨("is_follow", none), "is_follow", "is_follow", defArgs (top 60), defBody (top 60), defScope (top 60), [], []⟩
def d_is_truth : He.DefD := ⟨("is_truth", none), "is_truth", "is_truth", defArgs (top 21), defBody (top 21), defScope (top 21), [], []⟩
def d_is_cue_number : He.DefD := ⟨("is_cue_number", none), "is_cue_number", "is_cue_number", defArgs (top 57), defBody (top 57), defScope (top 57), [], []⟩
def d_is_known : He.DefD := ⟨("is_known", none), "is_known", "is_known", defArgs (top 16), defBody (top 16), defScope (top 16), [], []⟩
def d_is_level : He.DefD := ⟨("is_level", none), "is_level", "is_level", defArgs (top 49), defBody (top 49), defScope (top 49), [], []⟩
def d_is_move : He.DefD := ⟨("is_move", none), "is_move", "is_move", defArgs (top 58), defBody (top 58), defScope (top 58), [], []⟩
def d_are_moves : He.DefD := ⟨("are_moves", none), "are_moves", "are_moves", defArgs (top 59), defBody (top 59), defScope (top 59), [], []⟩
def d_is_cue : He.DefD := ⟨("is_cue", none), "is_cue", "is_cue", defArgs (top 61), defBody (top 61), defScope (top 61), [], []⟩
def d_first_wrong_cue : He.DefD := ⟨("first_wrong_cue", none), "first_wrong_cue", "first_wrong_cue", defArgs (top 66), defBody (top 66), defScope (top 66), [], []⟩
def d_need_cues : He.DefD := ⟨("need_cues", none), "need_cues", "need_cues", defArgs (top 67), defBody (top 67), defScope (top 67), [], []⟩
def d_meaning_behind : He.DefD := ⟨("meaning_behind", none), "meaning_behind", "meaning_behind", defArgs (top 62), defBody (top 62), defScope (top 62), [], []⟩
def d_meanings : He.DefD := ⟨("meanings", none), "meanings", "meanings", defArgs (top 63), defBody (top 63), defScope (top 63), [], []⟩
def d_CueList___init__ : He.DefD := ⟨("CueList", some "__init__"), "__init__", "CueList.__init__", defArgs (inClass (top 68) 0), defBody (inClass (top 68) 0), defScope (inClass (top 68) 0), [], []⟩
def d_need_list : He.DefD := ⟨("need_list", none), "need_list", "need_list", defArgs (top 69), defBody (top 69), defScope (top 69), [], []⟩
def d_need_back : He.DefD := ⟨("need_back", none), "need_back", "need_back", defArgs (top 33), defBody (top 33), defScope (top 33), [], []⟩
def d_has_act_size : He.DefD := ⟨("has_act_size", none), "has_act_size", "has_act_size", defArgs (top 29), defBody (top 29), defScope (top 29), [], []⟩
def d_is_act : He.DefD := ⟨("is_act", none), "is_act", "is_act", defArgs (top 30), defBody (top 30), defScope (top 30), [], []⟩
def d_first_wrong_act : He.DefD := ⟨("first_wrong_act", none), "first_wrong_act", "first_wrong_act", defArgs (top 31), defBody (top 31), defScope (top 31), [], []⟩
def d_need_acts : He.DefD := ⟨("need_acts", none), "need_acts", "need_acts", defArgs (top 32), defBody (top 32), defScope (top 32), [], []⟩
def d_need_acted : He.DefD := ⟨("need_acted", none), "need_acted", "need_acted", defArgs (top 86), defBody (top 86), defScope (top 86), [], []⟩
def d_Score_senders_of : He.DefD := ⟨("Score", some "senders_of"), "senders_of", "Score.senders_of", defArgs (inClass (top 80) 1), defBody (inClass (top 80) 1), defScope (inClass (top 80) 1), [], []⟩
def d_Score___init__ : He.DefD := ⟨("Score", some "__init__"), "__init__", "Score.__init__", defArgs (inClass (top 80) 0), defBody (inClass (top 80) 0), defScope (inClass (top 80) 0), [], []⟩
def d_Score_first : He.DefD := ⟨("Score", some "first"), "first", "Score.first", defArgs (inClass (top 80) 10), defBody (inClass (top 80) 10), defScope (inClass (top 80) 10), [], []⟩
def d_Score_follow_of : He.DefD := ⟨("Score", some "follow_of"), "follow_of", "Score.follow_of", defArgs (inClass (top 80) 3), defBody (inClass (top 80) 3), defScope (inClass (top 80) 3), [], []⟩
def d_Score_starting : He.DefD := ⟨("Score", some "starting"), "starting", "Score.starting", defArgs (inClass (top 80) 4), defBody (inClass (top 80) 4), defScope (inClass (top 80) 4), [], []⟩
def d_Score_passing : He.DefD := ⟨("Score", some "passing"), "passing", "Score.passing", defArgs (inClass (top 80) 6), defBody (inClass (top 80) 6), defScope (inClass (top 80) 6), [], []⟩
def d_Score_jumping : He.DefD := ⟨("Score", some "jumping"), "jumping", "Score.jumping", defArgs (inClass (top 80) 5), defBody (inClass (top 80) 5), defScope (inClass (top 80) 5), [], []⟩
def d_Score_moved : He.DefD := ⟨("Score", some "moved"), "moved", "Score.moved", defArgs (inClass (top 80) 7), defBody (inClass (top 80) 7), defScope (inClass (top 80) 7), [], []⟩
def d_held_behind : He.DefD := ⟨("held_behind", none), "held_behind", "held_behind", defArgs (top 81), defBody (top 81), defScope (top 81), [], []⟩
def d_resting : He.DefD := ⟨("resting", none), "resting", "resting", defArgs (top 72), defBody (top 72), defScope (top 72), [], []⟩
def d_ticked : He.DefD := ⟨("ticked", none), "ticked", "ticked", defArgs (top 75), defBody (top 75), defScope (top 75), [], []⟩
def d_level_of : He.DefD := ⟨("level_of", none), "level_of", "level_of", defArgs (top 74), defBody (top 74), defScope (top 74), [], []⟩
def d_sent : He.DefD := ⟨("sent", none), "sent", "sent", defArgs (top 76), defBody (top 76), defScope (top 76), [], []⟩
def d_Score_run_behind : He.DefD := ⟨("Score", some "run_behind"), "run_behind", "Score.run_behind", defArgs (inClass (top 80) 8), defBody (inClass (top 80) 8), defScope (inClass (top 80) 8), [], []⟩
def d_Score_behind : He.DefD := ⟨("Score", some "behind"), "behind", "Score.behind", defArgs (inClass (top 80) 11), defBody (inClass (top 80) 11), defScope (inClass (top 80) 11), [], []⟩
def d_Score_stages : He.DefD := ⟨("Score", some "stages"), "stages", "Score.stages", defArgs (inClass (top 80) 13), defBody (inClass (top 80) 13), defScope (inClass (top 80) 13), [], []⟩
def d_Score_look : He.DefD := ⟨("Score", some "look"), "look", "Score.look", defArgs (inClass (top 80) 14), defBody (inClass (top 80) 14), defScope (inClass (top 80) 14), [], []⟩
def d_log_of : He.DefD := ⟨("log_of", none), "log_of", "log_of", defArgs (top 91), defBody (top 91), defScope (top 91), [], []⟩
def d_log : He.DefD := ⟨("log", none), "log", "log", defArgs (top 92), defBody (top 92), defScope (top 92), [], []⟩
def d_looks_of : He.DefD := ⟨("looks_of", none), "looks_of", "looks_of", defArgs (top 87), defBody (top 87), defScope (top 87), [], []⟩
def d_looks : He.DefD := ⟨("looks", none), "looks", "looks", defArgs (top 89), defBody (top 89), defScope (top 89), [], []⟩
def d_stage_behind : He.DefD := ⟨("stage_behind", none), "stage_behind", "stage_behind", defArgs (top 88), defBody (top 88), defScope (top 88), [], []⟩
def d_rests : He.DefD := ⟨("rests", none), "rests", "rests", defArgs (top 73), defBody (top 73), defScope (top 73), [], []⟩
def d_stage_rests : He.DefD := ⟨("stage_rests", none), "stage_rests", "stage_rests", defArgs (top 82), defBody (top 82), defScope (top 82), [], []⟩
def d_waits_of : He.DefD := ⟨("waits_of", none), "waits_of", "waits_of", defArgs (top 94), defBody (top 94), defScope (top 94), [], []⟩
def d_settles : He.DefD := ⟨("settles", none), "settles", "settles", defArgs (top 95), defBody (top 95), defScope (top 95), [], []⟩
def d__law_settles : He.DefD := ⟨("_law_settles", none), "_law_settles", "_law_settles", defArgs (top 122), defBody (top 122), defScope (top 122), [], []⟩
def d_is_time : He.DefD := ⟨("is_time", none), "is_time", "is_time", defArgs (top 37), defBody (top 37), defScope (top 37), [], []⟩
def d_first_wrong_time : He.DefD := ⟨("first_wrong_time", none), "first_wrong_time", "first_wrong_time", defArgs (top 38), defBody (top 38), defScope (top 38), [], []⟩
def d_need_clock : He.DefD := ⟨("need_clock", none), "need_clock", "need_clock", defArgs (top 39), defBody (top 39), defScope (top 39), [], []⟩
def d_acts_at : He.DefD := ⟨("acts_at", none), "acts_at", "acts_at", defArgs (top 40), defBody (top 40), defScope (top 40), [], []⟩
def d_woven_acts : He.DefD := ⟨("woven_acts", none), "woven_acts", "woven_acts", defArgs (top 41), defBody (top 41), defScope (top 41), [], []⟩
def d_woven : He.DefD := ⟨("woven", none), "woven", "woven", defArgs (top 84), defBody (top 84), defScope (top 84), [], []⟩
def d__law_right : He.DefD := ⟨("_law_right", none), "_law_right", "_law_right", defArgs (top 123), defBody (top 123), defScope (top 123), [], []⟩
def d__law_pot : He.DefD := ⟨("_law_pot", none), "_law_pot", "_law_pot", defArgs (top 97), defBody (top 97), defScope (top 97), [], []⟩
def d_law : He.DefD := ⟨("law", none), "law", "law", defArgs (top 124), defBody (top 124), defScope (top 124), [], []⟩
def fnL : List He.DefD := [d__law_draw, d__law_pick, d__law_cue, d__law_cues, d__law_woven, d__law_first, d__law_level, d__law_look, d__law_meaning, d__law_sent, d__law_brought, d__law_due, d__law_started, d__law_done, d__law_log, d__law_same, d__law_is_word, d__law_is_name, d__law_name, d__law_rig, d__law_act, d__law_tick, d__law_clock, d_are_letters, d_is_name, d_first_wrong_name, d_need_channels, d_is_whole, d_is_number, d_need_number, d_Rig___init__, d_need_rig, d_is_follow, d_is_truth, d_is_cue_number, d_is_known, d_is_level, d_is_move, d_are_moves, d_is_cue, d_first_wrong_cue, d_need_cues, d_meaning_behind, d_meanings, d_CueList___init__, d_need_list, d_need_back, d_has_act_size, d_is_act, d_first_wrong_act, d_need_acts, d_need_acted, d_Score_senders_of, d_Score___init__, d_Score_first, d_Score_follow_of, d_Score_starting, d_Score_passing, d_Score_jumping, d_Score_moved, d_held_behind, d_resting, d_ticked, d_level_of, d_sent, d_Score_run_behind, d_Score_behind, d_Score_stages, d_Score_look, d_log_of, d_log, d_looks_of, d_looks, d_stage_behind, d_rests, d_stage_rests, d_waits_of, d_settles, d__law_settles, d_is_time, d_first_wrong_time, d_need_clock, d_acts_at, d_woven_acts, d_woven, d__law_right, d__law_pot, d_law]
def fa0 : List He.Fa := [.free "abs", .free "all", .free "any", .free "bool", .free "dict", .free "divmod", .free "enumerate", .free "int", .free "isinstance", .free "len", .free "list", .free "max", .free "min", .free "range", .free "set", .free "sorted", .free "str", .free "sum", .free "tuple", .free "zip", .glo "SIZES", .glo "WORDS", .cls "CueList", .noat "CueList" "cues", .noat "CueList" "means"]
def fa1 : List He.Fa := [.noat "CueList" "parts", .noat "CueList" "places", .noat "CueList" "rig", .cls "Rig", .noat "Rig" "channels", .noat "Rig" "parts", .noat "Rig" "top", .cls "Score", .noat "Score" "back", .noat "Score" "channels", .noat "Score" "cues", .noat "Score" "everybody", .noat "Score" "means", .noat "Score" "places", .noat "Score" "rows", .noat "Score" "senders", .glo "CueList", .glo "Rig", .glo "_law_draw", .glo "_law_pick", .glo "_law_cue", .glo "_law_cues", .glo "_law_woven", .glo "_law_first", .glo "_law_level"]
def fa2 : List He.Fa := [.glo "_law_look", .glo "_law_meaning", .glo "_law_sent", .glo "_law_brought", .glo "_law_due", .glo "_law_started", .glo "_law_done", .glo "_law_log", .glo "_law_same", .glo "_law_is_word", .glo "_law_is_name", .glo "_law_name", .glo "_law_rig", .glo "_law_act", .glo "_law_tick", .glo "_law_clock", .glo "are_letters", .glo "is_name", .glo "first_wrong_name", .glo "need_channels", .glo "is_whole", .glo "is_number", .glo "need_number", .mkr "Rig", .glo "need_rig"]
def fa3 : List He.Fa := [.glo "is_follow", .glo "is_truth", .glo "is_cue_number", .glo "is_known", .glo "is_level", .glo "is_move", .glo "are_moves", .glo "is_cue", .glo "first_wrong_cue", .glo "need_cues", .glo "meaning_behind", .glo "meanings", .mkr "CueList", .glo "need_list", .glo "need_back", .glo "has_act_size", .glo "is_act", .glo "first_wrong_act", .glo "need_acts", .glo "need_acted", .meth "Score" "senders_of", .mkr "Score", .glo "Score", .meth "Score" "first", .meth "Score" "follow_of"]
def fa4 : List He.Fa := [.meth "Score" "starting", .meth "Score" "passing", .meth "Score" "jumping", .meth "Score" "moved", .glo "held_behind", .glo "resting", .glo "ticked", .glo "level_of", .glo "sent", .meth "Score" "run_behind", .meth "Score" "behind", .meth "Score" "stages", .meth "Score" "look", .glo "log_of", .glo "log", .glo "looks_of", .glo "looks", .glo "stage_behind", .glo "rests", .glo "stage_rests", .glo "waits_of", .glo "settles", .glo "_law_settles", .glo "is_time", .glo "first_wrong_time"]
def fa5 : List He.Fa := [.glo "need_clock", .glo "acts_at", .glo "woven_acts", .glo "woven", .glo "_law_right", .glo "_law_pot", .glo "law"]
def faL : List He.Fa := fa0 ++ fa1 ++ fa2 ++ fa3 ++ fa4 ++ fa5
def gl0 : List (Str × T) := [("LAST_TICK", t_LAST_TICK), ("LEAST_FOLLOW", t_LEAST_FOLLOW), ("LEAST_NUMBER", t_LEAST_NUMBER), ("LEAST_TOP", t_LEAST_TOP), ("LETTERS", t_LETTERS), ("LONGEST", t_LONGEST), ("MOST_ACTS", t_MOST_ACTS), ("MOST_BACK", t_MOST_BACK), ("MOST_CHANNELS", t_MOST_CHANNELS), ("MOST_CUES", t_MOST_CUES), ("MOST_FADE", t_MOST_FADE), ("MOST_FOLLOW", t_MOST_FOLLOW), ("MOST_NUMBER_acts", t_MOST_NUMBER_acts), ("MOST_NUMBER_cueforms", t_MOST_NUMBER_cueforms), ("MOST_TIMES", t_MOST_TIMES), ("MOST_TOP", t_MOST_TOP), ("NEVER", t_NEVER), ("NOBODY", t_NOBODY), ("PARTS", t_PARTS), ("STILL", t_STILL)]
def gl1 : List (Str × T) := [("WAIT", t_WAIT)]
def glL : List (Str × T) := gl0 ++ gl1
def ckL : Ck := ⟨glL, [("SIZES", k_SIZES), ("WORDS", k_WORDS)], ["CueList", "Rig"]⟩
def lawI : Nat := 124
def loose0 : List Str := ["_wall", "ShowError", "NotARig", "NotAList", "InvalidNumber", "InvalidChannels", "InvalidCues", "InvalidActs", "InvalidClock", "LETTERS", "LONGEST", "WORDS", "are_letters", "is_name", "is_known", "first_wrong_name", "is_whole", "is_number", "is_truth", "need_number", "WAIT", "MOST_ACTS", "MOST_NUMBER_acts", "MOST_BACK", "SIZES"]
def loose1 : List Str := ["has_act_size", "is_act", "first_wrong_act", "need_acts", "need_back", "MOST_TIMES", "LAST_TICK", "is_time", "first_wrong_time", "need_clock", "acts_at", "woven_acts", "MOST_CHANNELS", "LEAST_TOP", "MOST_TOP", "need_channels", "Rig", "need_rig", "is_level", "LEAST_NUMBER", "MOST_NUMBER_cueforms", "MOST_FADE", "LEAST_FOLLOW", "MOST_FOLLOW", "PARTS"]
def loose2 : List Str := ["is_cue_number", "is_move", "are_moves", "is_follow", "is_cue", "meaning_behind", "meanings", "MOST_CUES", "first_wrong_cue", "need_cues", "CueList", "need_list", "STILL", "resting", "rests", "level_of", "ticked", "sent", "NEVER", "NOBODY", "Score", "held_behind", "stage_rests", "woven", "need_acted"]
def loose3 : List Str := ["looks_of", "stage_behind", "looks", "log_of", "log", "waits_of", "settles", "_law_pot", "_law_draw", "_law_pick", "_law_same", "_law_is_word", "_law_is_name", "_law_name", "_law_rig", "_law_cue", "_law_cues", "_law_meaning", "_law_level", "_law_sent", "_law_brought", "_law_due", "_law_started", "_law_first", "_law_done"]
def loose4 : List Str := ["_law_look", "_law_act", "_law_change", "_law_clock", "_law_tick", "_law_woven", "_law_log", "_law_settles", "_law_right"]
def loose : List Str := loose0 ++ loose1 ++ loose2 ++ loose3 ++ loose4
def as0 : List Nat := [3, 20, 21, 30, 31, 32, 47, 48, 50, 51, 66, 67, 69, 70, 85, 86, 88, 89, 104, 105, 107, 108, 123, 124, 126]
def as1 : List Nat := [127, 142, 143, 145, 146, 161, 162, 164, 165, 168, 173, 174, 180, 181, 187, 188, 194, 195, 201, 202, 208, 209, 215, 216, 222]
def as2 : List Nat := [223, 224, 225, 231, 232, 238, 239, 245, 246, 252, 253, 259, 260, 266, 267, 273, 274, 280, 281, 285, 286, 292, 293, 299, 300]
def as3 : List Nat := [313, 314, 320, 321, 323, 324, 325, 326, 334, 335, 341, 342, 348, 349, 355, 356, 360, 361, 367, 368, 374, 375, 379, 380, 386]
def as4 : List Nat := [387, 393, 394, 400, 401, 412, 413, 419, 420, 426, 427, 433, 434, 438, 439, 445, 446, 448, 449, 450, 451, 459, 460, 461, 467]
def as5 : List Nat := [468, 474, 475, 481, 482, 488, 489, 495, 496, 497, 498, 509, 510, 514, 515, 519, 520, 526, 527, 533, 534, 540, 541, 547, 548]
def as6 : List Nat := [554, 555, 561, 562, 568, 569, 575, 576, 580, 581, 587, 588, 594, 595, 599, 600, 602, 603, 604, 605, 611, 612, 616, 617, 623]
def as7 : List Nat := [624, 630, 631, 635, 636, 642, 643, 649, 650, 656, 657, 663, 664, 670, 671, 677, 678, 684, 685, 691, 692, 698, 699, 703, 704]
def as8 : List Nat := [708, 709, 715, 716, 720, 721, 727, 728, 734, 735, 741, 742, 746, 747, 753, 754, 760, 761, 767, 768, 774, 775, 779, 780, 786]
def as9 : List Nat := [787, 791, 792, 796, 797, 801, 802, 815, 816, 822, 823, 829, 830, 836, 837, 841, 842, 848, 849, 855, 856]
def asL : List Nat := as0 ++ as1 ++ as2 ++ as3 ++ as4 ++ as5 ++ as6 ++ as7 ++ as8 ++ as9
open PySem PySem.Spec PySem.W PyProof.Rows L2 PX
abbrev R : PySem.W.OpenRow := PySem.W.OpenLaw.row PySem.Challenge.rw_showcues_k77_whole_clocks
def hk : PySem.W.Hook where
  α := AlP
  obs := fun s => obsP faL fnL ckL (He.frG s.heap.get? asL)
  val := fun w => valP fnL ckL w
  says := fun w h => ∃ K : PySem.W.Frag, K.In h ∧ SaysP faL fnL ckL w K
  of := fun _ _ e => ⟨_, He.frG_in, e⟩
  keeps := fun _ _ _ ⟨K, hK, c⟩ k => ⟨K, PySem.W.Frag.In.keeps hK k, c⟩
def ob (s : PySem.W.SharedT) : AlP := obsP faL fnL ckL (He.frG (HandSHeadRun.getT s) asL)
theorem ob_eq (s : PySem.W.SharedT) : ob s = hk.obs s.abs := by
  have e : HandSHeadRun.getT s = s.abs.heap.get? := funext (HandSHeadRun.getT_eq s)
  show obsP faL fnL ckL (He.frG (HandSHeadRun.getT s) asL) = obsP faL fnL ckL (He.frG s.abs.heap.get? asL)
  rw [e]

theorem run_f (w : World) (os : OsState) : (HandSHeadRun.endF (HandSHeadRun.stepQ (HandSHeadRun.denQ HandSHeadRun.tabQ) R.prog (w.withFollow "special-get-raises" false)) 7000 R.prog (w.withFollow "special-get-raises" false) os).map (fun s => (HandSHeadRun.looksF R.prog (boot_heap (w.withFollow "special-get-raises" false).params) s.abs, HandSHeadRun.seenQ (PySem.W.view R.prog [lawI]) loose (importedModules R.prog.main.body) (fun s => PySem.W.xlAt (PySem.W.view R.prog [lawI]) [] s && PySem.W.recOk R.toRowW.records s) s.abs, ob s)) = some (true, PySem.W.openGood (PySem.W.view R.prog [lawI]) loose, hk.val (w.withFollow "special-get-raises" false)) := by kernel_rfl
theorem run_t (w : World) (os : OsState) : (HandSHeadRun.endF (HandSHeadRun.stepQ (HandSHeadRun.denQ HandSHeadRun.tabQ) R.prog (w.withFollow "special-get-raises" true)) 7000 R.prog (w.withFollow "special-get-raises" true) os).map (fun s => (HandSHeadRun.looksF R.prog (boot_heap (w.withFollow "special-get-raises" true).params) s.abs, HandSHeadRun.seenQ (PySem.W.view R.prog [lawI]) loose (importedModules R.prog.main.body) (fun s => PySem.W.xlAt (PySem.W.view R.prog [lawI]) [] s && PySem.W.recOk R.toRowW.records s) s.abs, ob s)) = some (true, PySem.W.openGood (PySem.W.view R.prog [lawI]) loose, hk.val (w.withFollow "special-get-raises" true)) := by kernel_rfl
theorem run (w : World) : HandSHeadRun.RunEq R (PySem.W.view R.prog [lawI]) hk ob 7000 loose w :=
  PySem.W.byRow2 "special-get-raises" (P := fun w => HandSHeadRun.RunEq R (PySem.W.view R.prog [lawI]) hk ob 7000 loose w) (fun w => run_f w) (fun w => run_t w) w
end Go
/-! PX1 -/
set_option autoImplicit false
set_option maxRecDepth 100000
set_option linter.all false
namespace PX
open PySem L2

/-! ### pure values -/

mutual
/-- the value v is the pure value t, over the heap G -/
inductive IsT (K : PySem.W.Frag) (G : Hp) : V → T → Prop
  | non : IsT K G .non .non
  | bl (b : Bool) : IsT K G (.bl b) (.bl b)
  | int (i : Int) : IsT K G (.int i) (.int i)
  | str (x : Str) : IsT K G (.str x) (.str x)
  | tup {a : Addr} {vs : List V} {ts : List T} : SqT K G a vs → IsTs K G vs ts → IsT K G (.ref a) (.tup ts)
  | lst {a : Addr} {vs : List V} {ts : List T} : G a = some (.lst vs) → IsTs K G vs ts → IsT K G (.ref a) (.lst ts)
  | dct {a : Addr} {kvs : List (Key × V)} {kts : List (Key × T)} : G a = some (.dK kvs) → kvs.map (·.1) = kts.map (·.1) → IsTs K G (kvs.map (·.2)) (kts.map (·.2)) → IsT K G (.ref a) (.dct kts)
  | obj {a dx : Addr} {c : Str} {fvs : List (Str × V)} {fts : List (Str × T)} : G a = some (.ins (He.ga K c) dx fvs) → fvs.map (·.1) = fts.map (·.1) → IsTs K G (fvs.map (·.2)) (fts.map (·.2)) → IsT K G (.ref a) (.obj c fts)
  | scr {a : Addr} {ns : List Int} : SqL K G a (ns.map V.int) → IsT K G (.ref a) (.scr ns)
  | raw (v : V) : IsT K G v (.raw v)
inductive IsTs (K : PySem.W.Frag) (G : Hp) : List V → List T → Prop
  | nil : IsTs K G [] []
  | cons {v : V} {t : T} {vs : List V} {ts : List T} : IsT K G v t → IsTs K G vs ts → IsTs K G (v :: vs) (t :: ts)
end

def Le (G G' : Hp) : Prop := ∀ a o, G a = some o → G' a = some o
theorem Le.refl (G : Hp) : Le G G := fun _ _ h => h
theorem Le.trans {G G' G'' : Hp} (a : Le G G') (b : Le G' G'') : Le G G'' := fun c o h => b c o (a c o h)
theorem Le.sqT {K : PySem.W.Frag} {G G' : Hp} (h : Le G G') {a : Addr} {xs : List V} (q : SqT K G a xs) : SqT K G' a xs := by
  rcases q with (q | ⟨o, q⟩) | q
  · exact .inl (.inl (h _ _ q))
  · exact .inl (.inr ⟨o, h _ _ q⟩)
  · exact .inr q
theorem Le.sqL {K : PySem.W.Frag} {G G' : Hp} (h : Le G G') {a : Addr} {xs : List V} (q : SqL K G a xs) : SqL K G' a xs := by
  rcases q with (q | ⟨o, q⟩) | q
  · exact .inl (.inl (h _ _ q))
  · exact .inl (.inr ⟨o, h _ _ q⟩)
  · exact .inr q
mutual
theorem IsT.mono {K : PySem.W.Frag} {G G' : Hp} (h : Le G G') : ∀ {v : V} {t : T}, IsT K G v t → IsT K G' v t
  | _, _, .non => .non
  | _, _, .bl b => .bl b
  | _, _, .int i => .int i
  | _, _, .str x => .str x
  | _, _, .tup q r => .tup (h.sqT q) (IsTs.mono h r)
  | _, _, .lst q r => .lst (h _ _ q) (IsTs.mono h r)
  | _, _, .dct q e r => .dct (h _ _ q) e (IsTs.mono h r)
  | _, _, .obj q e r => .obj (h _ _ q) e (IsTs.mono h r)
  | _, _, .scr q => .scr (h.sqL q)
  | _, _, .raw v => .raw v
theorem IsTs.mono {K : PySem.W.Frag} {G G' : Hp} (h : Le G G') : ∀ {vs : List V} {ts : List T}, IsTs K G vs ts → IsTs K G' vs ts
  | _, _, .nil => .nil
  | _, _, .cons a b => .cons (IsT.mono h a) (IsTs.mono h b)
end
section
variable {K : PySem.W.Frag} {G : Hp} {vs : List V} {ts : List T}
theorem IsTs.length (r : IsTs K G vs ts) : vs.length = ts.length := by
  induction vs generalizing ts with
  | nil => cases r; rfl
  | cons v vs ih => cases r with | cons a b => rw [List.length_cons, List.length_cons, ih b]
theorem IsTs.get (r : IsTs K G vs ts) {i : Nat} {t : T} (e : ts[i]? = some t) : ∃ v, vs[i]? = some v ∧ IsT K G v t := by
  induction vs generalizing ts i with
  | nil => cases r; cases e
  | cons v vs ih =>
    cases r with
    | cons a b =>
      cases i with
      | zero => cases e; exact ⟨v, rfl, a⟩
      | succ i => exact ih b e
theorem IsTs.append {vs' : List V} {ts' : List T} (r : IsTs K G vs ts) (r' : IsTs K G vs' ts') : IsTs K G (vs ++ vs') (ts ++ ts') := by
  induction vs generalizing ts with
  | nil => cases r; exact r'
  | cons v vs ih => cases r with | cons a b => exact .cons a (ih b)
theorem IsTs.set {v : V} {t : T} (r : IsTs K G vs ts) (i : Nat) (q : IsT K G v t) : IsTs K G (vs.set i v) (ts.set i t) := by
  induction vs generalizing ts i with
  | nil => cases r; exact .nil
  | cons w vs ih =>
    cases r with
    | cons a b =>
      cases i with
      | zero => exact .cons q b
      | succ i => exact .cons a (ih b i)
theorem IsTs.take (r : IsTs K G vs ts) (n : Nat) : IsTs K G (vs.take n) (ts.take n) := by
  induction vs generalizing ts n with
  | nil => cases r; rw [List.take_nil, List.take_nil]; exact .nil
  | cons w vs ih =>
    cases r with
    | cons a b =>
      cases n with
      | zero => exact .nil
      | succ n => exact .cons a (ih b n)
theorem IsTs.drop (r : IsTs K G vs ts) (n : Nat) : IsTs K G (vs.drop n) (ts.drop n) := by
  induction vs generalizing ts n with
  | nil => cases r; rw [List.drop_nil, List.drop_nil]; exact .nil
  | cons w vs ih =>
    cases r with
    | cons a b =>
      cases n with
      | zero => exact .cons a b
      | succ n => exact ih b n
theorem IsTs.eraseIdx (r : IsTs K G vs ts) (n : Nat) : IsTs K G (vs.eraseIdx n) (ts.eraseIdx n) := by
  induction vs generalizing ts n with
  | nil => cases r; exact .nil
  | cons w vs ih =>
    cases r with
    | cons a b =>
      cases n with
      | zero => exact b
      | succ n => exact .cons a (ih b n)
theorem IsTs.replicate (r : IsTs K G vs ts) (n : Nat) : IsTs K G (List.replicate n vs).flatten (List.replicate n ts).flatten := by
  induction n with
  | zero => exact .nil
  | succ n ih => rw [List.replicate_succ, List.replicate_succ, List.flatten_cons, List.flatten_cons]; exact r.append ih
theorem IsTs.ints {ns : List Int} : ∀ {vs : List V}, IsTs K G vs (ns.map T.int) → vs = ns.map V.int := by
  induction ns with
  | nil => intro vs r; cases r; rfl
  | cons n ns ih => intro vs r; cases r with | cons a b => cases a; rw [ih b]; rfl
theorem IsTs.strs {ns : List Str} : ∀ {vs : List V}, IsTs K G vs (ns.map T.str) → vs = ns.map V.str := by
  induction ns with
  | nil => intro vs r; cases r; rfl
  | cons n ns ih => intro vs r; cases r with | cons a b => cases a; rw [ih b]; rfl
theorem IsTs.of_ints (ns : List Int) : IsTs K G (ns.map V.int) (ns.map T.int) := by
  induction ns with
  | nil => exact .nil
  | cons n ns ih => exact .cons (.int n) ih
theorem IsTs.of_strs (ns : List Str) : IsTs K G (ns.map V.str) (ns.map T.str) := by
  induction ns with
  | nil => exact .nil
  | cons n ns ih => exact .cons (.str n) ih
end

/-! ### steps -/
/-- H', G' behind H, G; the things at C may have changed -/
structure Ext (C : Addr → Prop) (H G H' G' : Hp) : Prop where
  g : Le G G'
  k : ∀ a o, H a = some o → ¬ C a → H' a = some o
  d : ∀ a o, H a = some o → ∃ o', H' a = some o'
  n : ∀ a o, G' a = some o → G a = some o ∨ H a = none
theorem Ext.refl (C : Addr → Prop) (H G : Hp) : Ext C H G H G := ⟨Le.refl G, fun _ _ h _ => h, fun _ o h => ⟨o, h⟩, fun _ _ h => .inl h⟩
theorem Ext.trans {C C' : Addr → Prop} {H G H' G' H'' G'' : Hp} (a : Ext C H G H' G') (b : Ext C' H' G' H'' G'') (hc : ∀ x, C' x → C x) : Ext C H G H'' G'' where
  g := a.g.trans b.g
  k := fun x o h n => b.k x o (a.k x o h n) fun z => n (hc x z)
  d := fun x o h => let ⟨o', h'⟩ := a.d x o h; b.d x o' h'
  n := fun x o h => by
    rcases b.n x o h with q | q
    · exact a.n x o q
    · cases e : H x with
      | none => exact .inr rfl
      | some u =>
        obtain ⟨o', h'⟩ := a.d x u e
        rw [q] at h'; cases h'
theorem Ext.free {C : Addr → Prop} {H G H' G' : Hp} (a : Ext C H G H' G') {p : Addr} (h : H' p = none) : H p = none := by
  cases e : H p with
  | none => rfl
  | some u =>
    obtain ⟨o', h'⟩ := a.d p u e
    rw [h] at h'; cases h'

inductive Sl where
  | no | im (t : T) | cl (b : Bool) (t : T)
abbrev Rho := List Sl
structure Fr where
  H0 : Hp
  G0 : Hp
  B : Addr → Prop
/-- the thing at p of H, over G -/
def CellAt (K : PySem.W.Frag) (G H : Hp) (p : Addr) : T → Prop
  | .lst ts => ∃ vs, H p = some (.lst vs) ∧ IsTs K G vs ts
  | .dct kts => ∃ kvs : List (Key × V), H p = some (.dK kvs) ∧ kvs.map (·.1) = kts.map (·.1) ∧ IsTs K G (kvs.map (·.2)) (kts.map (·.2))
  | .obj c fts => ∃ dx fvs, H p = some (.ins (He.ga K c) dx fvs) ∧ fvs.map (·.1) = fts.map (·.1) ∧ IsTs K G (fvs.map (·.2)) (fts.map (·.2))
  | _ => False
theorem CellAt.mono {K : PySem.W.Frag} {G H G' H' : Hp} {p : Addr} {t : T} (h : CellAt K G H p t) (hg : Le G G') (hp : ∀ o, H p = some o → H' p = some o) : CellAt K G' H' p t := by
  cases t with
  | lst ts => obtain ⟨vs, e, r⟩ := h; exact ⟨vs, hp _ e, r.mono hg⟩
  | dct kts => obtain ⟨kvs, e, k, r⟩ := h; exact ⟨kvs, hp _ e, k, r.mono hg⟩
  | obj c fts => obtain ⟨dx, fvs, e, k, r⟩ := h; exact ⟨dx, fvs, hp _ e, k, r.mono hg⟩
  | _ => exact h.elim
theorem CellAt.some_ {K : PySem.W.Frag} {G H : Hp} {p : Addr} {t : T} (h : CellAt K G H p t) : ∃ o, H p = some o := by
  cases t with
  | lst ts => obtain ⟨vs, e, r⟩ := h; exact ⟨_, e⟩
  | dct kts => obtain ⟨kvs, e, k, r⟩ := h; exact ⟨_, e⟩
  | obj c fts => obtain ⟨dx, fvs, e, k, r⟩ := h; exact ⟨_, e⟩
  | _ => exact h.elim
/-- frozen, a cell is a value -/
theorem CellAt.isT {K : PySem.W.Frag} {G H : Hp} {p : Addr} {t : T} (h : CellAt K G H p t) (hg : Le G H) : IsT K H (.ref p) t := by
  cases t with
  | lst ts => obtain ⟨vs, e, r⟩ := h; exact .lst e (r.mono hg)
  | dct kts => obtain ⟨kvs, e, k, r⟩ := h; exact .dct e k (r.mono hg)
  | obj c fts => obtain ⟨dx, fvs, e, k, r⟩ := h; exact .obj e k (r.mono hg)
  | _ => exact h.elim

def IsCell (σ : St) (ρ : Rho) (a : Addr) : Prop := ∃ (i : Nat) (b : Bool) (t : T), ρ[i]? = some (Sl.cl b t) ∧ σ[i]? = some (some (V.ref a))
structure Rep (K : PySem.W.Frag) (F : Fr) (H G : Hp) (σ : St) (ρ : Rho) : Prop where
  sub : Le G H
  im : ∀ (i : Nat) (t : T), ρ[i]? = some (Sl.im t) → ∃ v, σ[i]? = some (some v) ∧ IsT K G v t
  cl : ∀ (i : Nat) (b : Bool) (t : T), ρ[i]? = some (Sl.cl b t) → ∃ p, σ[i]? = some (some (V.ref p)) ∧ G p = none ∧ CellAt K G H p t ∧ (b = true → F.H0 p = none) ∧ (b = false → F.B p)
  ap : ∀ (i j : Nat) (b c : Bool) (t u : T) (p : Addr), ρ[i]? = some (Sl.cl b t) → ρ[j]? = some (Sl.cl c u) → σ[i]? = some (some (V.ref p)) → σ[j]? = some (some (V.ref p)) → i = j
  keep : ∀ a o, F.H0 a = some o → ¬ F.B a → H a = some o
  g0 : Le F.G0 G
  new : ∀ a o, G a = some o → F.G0 a = some o ∨ F.H0 a = none
  dom : ∀ a o, F.H0 a = some o → ∃ o', H a = some o'
  len : ρ.length = σ.length
structure Stp (K : PySem.W.Frag) (F : Fr) (σ : St) (H G : Hp) (ρ : Rho) (H' G' : Hp) (ρ' : Rho) : Prop where
  ext : Ext (IsCell σ ρ) H G H' G'
  rep : Rep K F H' G' σ ρ'
  cs : ∀ a, IsCell σ ρ' a → IsCell σ ρ a
section
variable {K : PySem.W.Frag} {F : Fr} {σ : St} {H G H' G' H'' G'' : Hp} {ρ ρ' ρ'' : Rho}
theorem Stp.refl (R : Rep K F H G σ ρ) : Stp K F σ H G ρ H G ρ := ⟨Ext.refl _ _ _, R, fun _ h => h⟩
theorem Stp.trans (a : Stp K F σ H G ρ H' G' ρ') (b : Stp K F σ H' G' ρ' H'' G'' ρ'') : Stp K F σ H G ρ H'' G'' ρ'' :=
  ⟨a.ext.trans b.ext a.cs, b.rep, fun x h => a.cs x (b.cs x h)⟩
theorem Stp.le (a : Stp K F σ H G ρ H' G' ρ') : Le G G' := a.ext.g
theorem Rep.cell_some (R : Rep K F H G σ ρ) {a : Addr} (h : IsCell σ ρ a) : ∃ o, H a = some o := by
  obtain ⟨i, b, t, e, s⟩ := h
  obtain ⟨p, e1, _, c, _⟩ := R.cl i b t e
  rw [s] at e1; cases e1
  exact c.some_
theorem Rep.cell_g (R : Rep K F H G σ ρ) {a : Addr} (h : IsCell σ ρ a) : G a = none := by
  obtain ⟨i, b, t, e, s⟩ := h
  obtain ⟨p, e1, g, _⟩ := R.cl i b t e
  rw [s] at e1; cases e1
  exact g
theorem upd_le {p : Addr} {o : HO} (h : H p = none) : Le H (upd H p o) := fun b x e => by rw [upd_ne (ne_of_none e h)]; exact e
theorem upd_le2 {p : Addr} {o : HO} (h : H p = none) (hg : Le G H) : Le G (upd G p o) := upd_le (by
  cases e : G p with
  | none => rfl
  | some u => rw [hg _ _ e] at h; cases h)
theorem Le.none_ {p : Addr} (hg : Le G H) (h : H p = none) : G p = none := by
  cases e : G p with
  | none => rfl
  | some u => rw [hg _ _ e] at h; cases h
/-- the heap grows; G too, within it -/
theorem Rep.grow (R : Rep K F H G σ ρ) (hH : Le H H') (hG : Le G G') (hs : Le G' H') (hn : ∀ a o, G' a = some o → G a = some o ∨ H a = none) : Stp K F σ H G ρ H' G' ρ := by
  refine ⟨⟨hG, fun a o h _ => hH a o h, fun a o h => ⟨o, hH a o h⟩, hn⟩, ?_, fun _ h => h⟩
  refine ⟨hs, fun i t e => ?_, fun i b t e => ?_, R.ap, fun a o e n => hH _ _ (R.keep a o e n), R.g0.trans hG, fun a o e => ?_, fun a o e => ?_, R.len⟩
  · obtain ⟨v, e1, q⟩ := R.im i t e
    exact ⟨v, e1, q.mono hG⟩
  · obtain ⟨p, e1, g, c, f1, f2⟩ := R.cl i b t e
    refine ⟨p, e1, ?_, c.mono hG fun o q => hH _ _ q, f1, f2⟩
    cases q : G' p with
    | none => rfl
    | some u =>
      rcases hn p u q with z | z
      · rw [g] at z; cases z
      · obtain ⟨o, z'⟩ := c.some_
        rw [z] at z'; cases z'
  · rcases hn a o e with z | z
    · exact R.new a o z
    · cases q : F.H0 a with
      | none => exact .inr rfl
      | some u =>
        obtain ⟨o', z'⟩ := R.dom a u q
        rw [z] at z'; cases z'
  · obtain ⟨o', z⟩ := R.dom a o e
    exact ⟨o', hH _ _ z⟩
/-- a new thing, frozen at once -/
theorem Rep.alloc (R : Rep K F H G σ ρ) {p : Addr} (o : HO) (hp : H p = none) : Stp K F σ H G ρ (upd H p o) (upd G p o) ρ := by
  refine R.grow (upd_le hp) (upd_le2 hp R.sub) (fun b x e => ?_) fun b x e => ?_
  · by_cases hb : b = p
    · subst hb; rw [upd_same] at e ⊢; exact e
    · rw [upd_ne hb] at e ⊢; exact R.sub b x e
  · by_cases hb : b = p
    · subst hb; exact .inr hp
    · rw [upd_ne hb] at e; exact .inl e
/-- .. not frozen -/
theorem Rep.allocH (R : Rep K F H G σ ρ) {p : Addr} (o : HO) (hp : H p = none) : Stp K F σ H G ρ (upd H p o) G ρ :=
  R.grow (upd_le hp) (Le.refl _) (R.sub.trans (upd_le hp)) fun _ _ e => .inl e
theorem set_some {α : Type} {l : List α} {i j : Nat} {x y : α} (h : (l.set i x)[j]? = some y) : (j = i ∧ y = x ∧ i < l.length) ∨ (j ≠ i ∧ l[j]? = some y) := by
  by_cases e : j = i
  · subst e
    by_cases hl : j < l.length
    · rw [List.getElem?_set_self hl] at h
      cases h
      exact .inl ⟨rfl, rfl, hl⟩
    · rw [List.getElem?_eq_none (by rw [List.length_set]; omega)] at h
      cases h
  · rw [List.getElem?_set_ne (Ne.symm e)] at h
    exact .inr ⟨e, h⟩
/-- a slot: a value, or a new thing of one's own -/
inductive KV (K : PySem.W.Frag) (F : Fr) (G H : Hp) (σ : L2.St) (ρ : Rho) : V → Sl → Prop
  | im {v : V} {t : T} : IsT K G v t → KV K F G H σ ρ v (.im t)
  | cl {p : Addr} {t : T} : F.H0 p = none → G p = none → ¬ IsCell σ ρ p → CellAt K G H p t → KV K F G H σ ρ (.ref p) (.cl true t)
theorem Rep.set (R : Rep K F H G σ ρ) (i : Nat) {v : V} {k : Sl} (q : KV K F G H σ ρ v k) : Rep K F H G (σ.set i (some v)) (ρ.set i k) := by
  have old : ∀ j, j ≠ i → (σ.set i (some v))[j]? = σ[j]? := fun j n => List.getElem?_set_ne (Ne.symm n)
  have new : i < ρ.length → (σ.set i (some v))[i]? = some (some v) := fun h => List.getElem?_set_self (by rw [← R.len]; exact h)
  refine ⟨R.sub, fun j t e => ?_, fun j b t e => ?_, fun j k' b c t u p e1 e2 z1 z2 => ?_, R.keep, R.g0, R.new, R.dom, by rw [List.length_set, List.length_set]; exact R.len⟩
  · rcases set_some e with ⟨rfl, e1, hl⟩ | ⟨n, e1⟩
    · subst e1
      cases q with | im q => exact ⟨v, new hl, q⟩
    · rw [old j n]; exact R.im j t e1
  · rcases set_some e with ⟨rfl, e1, hl⟩ | ⟨n, e1⟩
    · subst e1
      cases q with | cl q1 q2 q3 q4 => exact ⟨_, new hl, q2, q4, fun _ => q1, fun z => by cases z⟩
    · rw [old j n]; exact R.cl j b t e1
  · rcases set_some e1 with ⟨rfl, f1, hl⟩ | ⟨n1, f1⟩
    · rcases set_some e2 with ⟨rfl, f2, _⟩ | ⟨n2, f2⟩
      · rfl
      · rw [new hl] at z1
        rw [old k' n2] at z2
        cases z1
        cases f1
        cases q with | cl q1 q2 q3 q4 => exact (q3 ⟨k', c, u, f2, z2⟩).elim
    · rcases set_some e2 with ⟨rfl, f2, hl⟩ | ⟨n2, f2⟩
      · rw [new hl] at z2
        rw [old j n1] at z1
        cases z2
        cases f2
        cases q with | cl q1 q2 q3 q4 => exact (q3 ⟨j, b, t, f1, z1⟩).elim
      · rw [old j n1] at z1
        rw [old k' n2] at z2
        exact R.ap j k' b c t u p f1 f2 z1 z2
/-- one cell is turned -/
theorem Rep.mut (R : Rep K F H G σ ρ) {i : Nat} {b : Bool} {t t' : T} {p : Addr} (e : ρ[i]? = some (Sl.cl b t)) (s : σ[i]? = some (some (V.ref p))) (E : Ext (· = p) H G H' G') (hs : Le G' H') (hg : G' p = none) (hc : CellAt K G' H' p t') :
    Stp K F σ H G ρ H' G' (ρ.set i (.cl b t')) := by
  obtain ⟨p', e1, g, c, f1, f2⟩ := R.cl i b t e
  rw [s] at e1; cases e1
  have ic : IsCell σ ρ p := ⟨i, b, t, e, s⟩
  refine ⟨⟨E.g, fun a o h n => E.k a o h fun z => n (by rw [z]; exact ic), E.d, E.n⟩, ?_, fun a h => ?_⟩
  · refine ⟨hs, fun j u e2 => ?_, fun j c2 u e2 => ?_, fun j k c2 d2 u w q e2 e3 z2 z3 => ?_, fun a o h n => ?_, R.g0.trans E.g, fun a o h => ?_, fun a o h => ?_, by rw [List.length_set]; exact R.len⟩
    · rcases set_some e2 with ⟨_, z, _⟩ | ⟨n, e3⟩
      · cases z
      · obtain ⟨v, e4, q⟩ := R.im j u e3
        exact ⟨v, e4, q.mono E.g⟩
    · rcases set_some e2 with ⟨rfl, z, _⟩ | ⟨n, e3⟩
      · cases z
        exact ⟨p, s, hg, hc, f1, f2⟩
      · obtain ⟨q, e4, g2, c3, f3, f4⟩ := R.cl j c2 u e3
        have np : q ≠ p := fun z => by
          subst z
          exact n (R.ap j i c2 b u t q e3 e e4 s)
        refine ⟨q, e4, ?_, c3.mono E.g fun o h => E.k q o h np, f3, f4⟩
        cases y : G' q with
        | none => rfl
        | some o =>
          rcases E.n q o y with z | z
          · rw [g2] at z; cases z
          · obtain ⟨o2, z2⟩ := c3.some_
            rw [z] at z2; cases z2
    · have f : ∀ j c2 u, (ρ.set i (Sl.cl b t'))[j]? = some (Sl.cl c2 u) → ∃ c3 u3, ρ[j]? = some (Sl.cl c3 u3) := fun j c2 u h => by
        rcases set_some h with ⟨rfl, _, _⟩ | ⟨_, h⟩
        · exact ⟨b, t, e⟩
        · exact ⟨c2, u, h⟩
      obtain ⟨_, _, h1⟩ := f j c2 u e2
      obtain ⟨_, _, h2⟩ := f k d2 w e3
      exact R.ap j k _ _ _ _ q h1 h2 z2 z3
    · refine E.k a o (R.keep a o h n) fun z => ?_
      subst z
      cases b with
      | true => rw [f1 rfl] at h; cases h
      | false => exact n (f2 rfl)
    · rcases E.n a o h with z | z
      · exact R.new a o z
      · cases q : F.H0 a with
        | none => exact .inr rfl
        | some u =>
          obtain ⟨o', z'⟩ := R.dom a u q
          rw [z] at z'; cases z'
    · obtain ⟨o', z⟩ := R.dom a o h
      exact E.d a o' z
  · obtain ⟨j, c2, u, e2, s2⟩ := h
    rcases set_some e2 with ⟨rfl, _, _⟩ | ⟨_, e3⟩
    · rw [s] at s2; cases s2; exact ic
    · exact ⟨j, c2, u, e3, s2⟩
/-- a cell of one's own is frozen -/
theorem Rep.freezeAt (R : Rep K F H G σ ρ) {i : Nat} {t : T} (e : ρ[i]? = some (Sl.cl true t)) : ∃ p o, σ[i]? = some (some (V.ref p)) ∧ H p = some o ∧ G p = none ∧ Le G (upd G p o) ∧ Rep K F H (upd G p o) σ (ρ.set i (.im t)) := by
  obtain ⟨p, e1, g, c, f1, f2⟩ := R.cl i true t e
  obtain ⟨o, ho⟩ := c.some_
  have hG : Le G (upd G p o) := fun a x h => by rw [upd_ne (fun z => by subst z; rw [g] at h; cases h)]; exact h
  have q : IsT K (upd G p o) (.ref p) t := by
    cases t with
    | lst ts => obtain ⟨vs, e2, r⟩ := c; rw [ho] at e2; cases e2; exact .lst upd_same (r.mono hG)
    | dct kts => obtain ⟨kvs, e2, k, r⟩ := c; rw [ho] at e2; cases e2; exact .dct upd_same k (r.mono hG)
    | obj c fts => obtain ⟨dx, fvs, e2, k, r⟩ := c; rw [ho] at e2; cases e2; exact .obj upd_same k (r.mono hG)
    | _ => exact c.elim
  refine ⟨p, o, e1, ho, g, hG, ⟨fun a x h => ?_, fun j u h => ?_, fun j b u h => ?_, fun j k b c t u q h1 h2 z1 z2 => ?_, R.keep, R.g0.trans hG, fun a x h => ?_, R.dom, by rw [List.length_set]; exact R.len⟩⟩
  · by_cases z : a = p
    · subst z; rw [upd_same] at h; rw [← h]; exact ho
    · rw [upd_ne z] at h; exact R.sub a x h
  · rcases set_some h with ⟨rfl, z, _⟩ | ⟨n, h⟩
    · cases z; exact ⟨_, e1, q⟩
    · obtain ⟨v, h2, r⟩ := R.im j u h
      exact ⟨v, h2, r.mono hG⟩
  · rcases set_some h with ⟨_, z, _⟩ | ⟨n, h⟩
    · cases z
    · obtain ⟨r, h2, g2, c2, f3, f4⟩ := R.cl j b u h
      refine ⟨r, h2, ?_, c2.mono hG fun _ y => y, f3, f4⟩
      rw [upd_ne (fun z => by subst z; exact n (R.ap j i b true u t r h e h2 e1))]
      exact g2
  · rcases set_some h1 with ⟨_, z, _⟩ | ⟨_, h1⟩
    · cases z
    · rcases set_some h2 with ⟨_, z, _⟩ | ⟨_, h2⟩
      · cases z
      · exact R.ap j k b c t u q h1 h2 z1 z2
  · by_cases z : a = p
    · subst z; exact .inr (f1 rfl)
    · rw [upd_ne z] at h; exact R.new a x h
theorem Rep.freeze (R : Rep K F H G σ ρ) {i : Nat} {t : T} (e : ρ[i]? = some (Sl.cl true t)) : ∃ G', Le G G' ∧ Rep K F H G' σ (ρ.set i (.im t)) := by
  obtain ⟨p, o, _, _, _, h1, h2⟩ := R.freezeAt e
  exact ⟨_, h1, h2⟩
end
end PX
/-! PX2 -/
set_option autoImplicit false
set_option maxRecDepth 100000
set_option linter.all false
namespace PX
open PySem L2

/-! ### readings -/
def tX (K : PySem.W.Frag) (F : Fr) (f : Rho → Option (T × Rho)) : TE := fun σ H Q =>
  ∃ G ρ t ρ', Rep K F H G σ ρ ∧ f ρ = some (t, ρ') ∧ ∀ v H' G', Stp K F σ H G ρ H' G' ρ' → IsT K G' v t → Q v H'
def tXT (K : PySem.W.Frag) (F : Fr) (f : Rho → Option (Bool × Rho)) : TT := fun σ H Q =>
  ∃ G ρ b ρ', Rep K F H G σ ρ ∧ f ρ = some (b, ρ') ∧ ∀ H' G', Stp K F σ H G ρ H' G' ρ' → Q b H'
def tXA (K : PySem.W.Frag) (F : Fr) (f : Rho → Option (List T × Rho)) : TA := fun σ H Q =>
  ∃ G ρ ts ρ', Rep K F H G σ ρ ∧ f ρ = some (ts, ρ') ∧ ∀ vs H' G', Stp K F σ H G ρ H' G' ρ' → IsTs K G' vs ts → Q vs H'
abbrev PX (X : Cx) (F : Fr) (e : Expr) (f : Rho → Option (T × Rho)) : Prop := PE X e (tX X.K F f)
abbrev PXT (X : Cx) (F : Fr) (e : Expr) (f : Rho → Option (Bool × Rho)) : Prop := PT X e (tXT X.K F f)
abbrev PXW (X : Cx) (F : Fr) (e : Expr) (f : Rho → Option (Bool × Rho)) : Prop := PW X e (tXT X.K F f)
abbrev PXA (X : Cx) (F : Fr) (es : List Expr) (f : Rho → Option (List T × Rho)) : Prop := PA X es (tXA X.K F f)
theorem _root_.L2.PE.weak {X : Cx} {e : Expr} {t t' : TE} (h : PE X e t) (w : ∀ σ H Q, t' σ H Q → t σ H Q) : PE X e t' := ⟨fun pins s σ H Q I q => h.run pins s σ H Q I (w σ H Q q)⟩
theorem _root_.L2.PT.weak {X : Cx} {e : Expr} {t t' : TT} (h : PT X e t) (w : ∀ σ H Q, t' σ H Q → t σ H Q) : PT X e t' := ⟨fun pins s σ H Q I q => h.run pins s σ H Q I (w σ H Q q)⟩
theorem _root_.L2.PW.weak {X : Cx} {e : Expr} {t t' : TT} (h : PW X e t) (w : ∀ σ H Q, t' σ H Q → t σ H Q) : PW X e t' := ⟨fun wh pins s σ H Q I q => h.run wh pins s σ H Q I (w σ H Q q)⟩
theorem _root_.L2.PA.weak {X : Cx} {es : List Expr} {t t' : TA} (h : PA X es t) (w : ∀ σ H Q, t' σ H Q → t σ H Q) : PA X es t' := ⟨fun pos pins s σ H Q I q => h.run pos pins s σ H Q I (w σ H Q q)⟩
theorem _root_.L2.PS.weak {X : Cx} {st : Stmt} {t t' : TS} (h : PS X st t) (w : ∀ D σ H, t' D σ H → t D σ H) : PS X st t' := ⟨fun pins s σ H D I q => h.run pins s σ H D I (w D σ H q)⟩
theorem _root_.L2.PSs.weak {X : Cx} {st : List Stmt} {t t' : TS} (h : PSs X st t) (w : ∀ D σ H, t' D σ H → t D σ H) : PSs X st t' := ⟨fun pins s σ H D I q => h.run pins s σ H D I (w D σ H q)⟩

section
variable {X : Cx} {F : Fr} {K : PySem.W.Frag}

/-! ### names, constants -/
def v (i : Nat) : Rho → Option (T × Rho) := fun ρ => match ρ[i]? with
  | some (Sl.im t) => some (t, ρ)
  | _ => none
def c (t : T) : Rho → Option (T × Rho) := fun ρ => some (t, ρ)
theorem tVar_v {i : Nat} {σ : L2.St} {H : Hp} {Q : VK} (h : tX K F (v i) σ H Q) : tVar i σ H Q := by
  obtain ⟨G, ρ, t, ρ', R, e, k⟩ := h
  unfold v at e
  split at e
  · rename_i t' et
    cases e
    obtain ⟨w, ew, q⟩ := R.im i _ et
    exact ⟨w, ew, k w H G (.refl R) q⟩
  · cases e
theorem px_v (i : Nat) {x : Str} {pos : Pos} (hN : X.N[i]? = some x := by rfl) (hv : Vis X.env.scope x := by first | exact Or.inl rfl | exact Or.inr (Or.inl rfl) | exact Or.inr (Or.inr rfl)) (hd : (x == ("__debug__" : Str)) = false := by decide) (hcd : (x == ("__classdict__" : Str)) = false := by decide) : PX X F (.Name x pos) (v i) :=
  (pe_var hN hv hd hcd).weak fun _ _ _ h => tVar_v h
theorem tC_c {w : V} {t : T} {σ : L2.St} {H : Hp} {Q : VK} (q : ∀ G, IsT K G w t) (h : tX K F (c t) σ H Q) : tC w σ H Q := by
  obtain ⟨G, ρ, t', ρ', R, e, k⟩ := h
  cases e
  exact k w H G (.refl R) (q G)
theorem px_int {i j pos} : PX X F (.Constant (.int i) j pos) (c (.int i)) := pe_int.weak fun _ _ _ h => tC_c (fun _ => .int i) h
theorem px_bl {b j pos} : PX X F (.Constant (.bool b) j pos) (c (.bl b)) := pe_bl.weak fun _ _ _ h => tC_c (fun _ => .bl b) h
theorem px_non {j pos} : PX X F (.Constant .none j pos) (c .non) := pe_non.weak fun _ _ _ h => tC_c (fun _ => .non) h
theorem px_str {x j pos} : PX X F (.Constant (.str x) j pos) (c (.str x)) := pe_str.weak fun _ _ _ h => tC_c (fun _ => .str x) h
/-- a constant of the module -/
structure Glo (K : PySem.W.Frag) (mg : Str → Option Value) (x : Str) (t : T) : Prop where
  ex : ∃ (u : Value) (w : V), mg x = some u ∧ RelV w u ∧ ∀ G, IsT K G w t
theorem px_g {x : Str} {t : T} {pos : Pos} (g : Glo X.K X.mg x t) (hg : Gl X x) (hd : (x == ("__debug__" : Str)) = false := by decide) : PX X F (.Name x pos) (c t) := by
  obtain ⟨u, w, hm, r, q⟩ := g.ex
  exact (pe_glob hg hm r hd).weak fun _ _ _ h => tC_c q h

/-! ### two parts, one after the other -/
def s1 (fa : Rho → Option (T × Rho)) (S : T → Option T) : Rho → Option (T × Rho) := fun ρ => match fa ρ with
  | some (x, ρ1) => (match S x with
    | some t => some (t, ρ1)
    | none => none)
  | none => none
def s2 (fa fb : Rho → Option (T × Rho)) (S : T → T → Option T) : Rho → Option (T × Rho) := fun ρ => match fa ρ with
  | some (x, ρ1) => (match fb ρ1 with
    | some (y, ρ2) => (match S x y with
      | some t => some (t, ρ2)
      | none => none)
    | none => none)
  | none => none
/-- what follows an evaluation, by values -/
theorem tX_bind {fa : Rho → Option (T × Rho)} {σ : L2.St} {H : Hp} {Q : VK} {G : Hp} {ρ ρ1 : Rho} {x : T} (R : Rep K F H G σ ρ) (e : fa ρ = some (x, ρ1)) (k : ∀ v H' G', Stp K F σ H G ρ H' G' ρ1 → IsT K G' v x → Q v H') : tX K F fa σ H Q :=
  ⟨G, ρ, x, ρ1, R, e, k⟩
/-- by values: r is served by S -/
def OpS (K : PySem.W.Frag) (r : R2) (S : T → T → Option T) : Prop := ∀ {F : Fr} {σ : L2.St} {H G : Hp} {ρ : Rho} {v1 v2 : V} {x y t : T} {Q : VK}, Rep K F H G σ ρ → IsT K G v1 x → IsT K G v2 y → S x y = some t →
  (∀ w H' G', Stp K F σ H G ρ H' G' ρ → IsT K G' w t → Q w H') → r v1 v2 H Q
def UnS (K : PySem.W.Frag) (r : V → Hp → VK → Prop) (S : T → Option T) : Prop := ∀ {F : Fr} {σ : L2.St} {H G : Hp} {ρ : Rho} {v1 : V} {x t : T} {Q : VK}, Rep K F H G σ ρ → IsT K G v1 x → S x = some t →
  (∀ w H' G', Stp K F σ H G ρ H' G' ρ → IsT K G' w t → Q w H') → r v1 H Q
def CallS (K : PySem.W.Frag) (r : List V → Hp → VK → Prop) (S : List T → Option T) : Prop := ∀ {F : Fr} {σ : L2.St} {H G : Hp} {ρ : Rho} {vs : List V} {xs : List T} {t : T} {Q : VK}, Rep K F H G σ ρ → IsTs K G vs xs → S xs = some t →
  (∀ w H' G', Stp K F σ H G ρ H' G' ρ → IsT K G' w t → Q w H') → r vs H Q
theorem tOp_s2 {r : R2} {S : T → T → Option T} {fa fb : Rho → Option (T × Rho)} {σ : L2.St} {H : Hp} {Q : VK} (ho : OpS K r S) (h : tX K F (s2 fa fb S) σ H Q) : tOp r (tX K F fa) (tX K F fb) σ H Q := by
  obtain ⟨G, ρ, t, ρ', R, e, k⟩ := h
  unfold s2 at e
  split at e
  · rename_i x ρ1 e1
    split at e
    · rename_i y ρ2 e2
      split at e
      · rename_i t' e3
        cases e
        refine tX_bind R e1 fun v1 H1 G1 p1 q1 => tX_bind p1.rep e2 fun v2 H2 G2 p2 q2 => ?_
        exact ho p2.rep (q1.mono p2.le) q2 e3 fun w H' G' p3 q3 => k w H' G' ((p1.trans p2).trans p3) q3
      · cases e
    · cases e
  · cases e
theorem tUn_s1 {r : V → Hp → VK → Prop} {S : T → Option T} {fa : Rho → Option (T × Rho)} {σ : L2.St} {H : Hp} {Q : VK} (ho : UnS K r S) (h : tX K F (s1 fa S) σ H Q) : tUn r (tX K F fa) σ H Q := by
  obtain ⟨G, ρ, t, ρ', R, e, k⟩ := h
  unfold s1 at e
  split at e
  · rename_i x ρ1 e1
    split at e
    · rename_i t' e3
      cases e
      refine tX_bind R e1 fun v1 H1 G1 p1 q1 => ?_
      exact ho p1.rep q1 e3 fun w H' G' p3 q3 => k w H' G' (p1.trans p3) q3
    · cases e
  · cases e
variable {a b : Expr} {fa fb : Rho → Option (T × Rho)} {pos : Pos}
theorem px_op {op : Operator} {r : R2} {S : T → T → Option T} (ho : OpR X (binaryOp op) r) (hs : OpS X.K r S) (ha : PX X F a fa) (hb : PX X F b fb) : PX X F (.BinOp a op b pos) (s2 fa fb S) :=
  (pe_op ho ha hb).weak fun _ _ _ h => tOp_s2 hs h
theorem px_un {op : UnaryOp} {r : V → Hp → VK → Prop} {S : T → Option T} (ho : UnR X (unaryOp op) r) (hs : UnS X.K r S) (ha : PX X F a fa) : PX X F (.UnaryOp op a pos) (s1 fa S) :=
  (pe_un ho ha).weak fun _ _ _ h => tUn_s1 hs h
theorem px_cmp {op : CmpOp} {r : R2} {S : T → T → Option T} (ho : OpR X (compareOp op) r) (hs : OpS X.K r S) (ha : PX X F a fa) (hb : PX X F b fb) (hm : behindInMarks op b = false) : PX X F (.Compare a [op] [b] pos) (s2 fa fb S) :=
  (pe_cmpR ho ha hb hm).weak fun _ _ _ h => tOp_s2 hs h
/-- a value that is a bool, as a test -/
def tb (fa : Rho → Option (T × Rho)) : Rho → Option (Bool × Rho) := fun ρ => match fa ρ with
  | some (.bl b, ρ1) => some (b, ρ1)
  | _ => none
theorem tTest_tb {fa : Rho → Option (T × Rho)} {t : TE} (w : ∀ σ H Q, tX K F fa σ H Q → t σ H Q) {σ : L2.St} {H : Hp} {Q : Bool → Hp → Prop} (h : tXT K F (tb fa) σ H Q) : t σ H fun x H1 => ∃ c, x = .bl c ∧ Q c H1 := by
  obtain ⟨G, ρ, b, ρ', R, e, k⟩ := h
  unfold tb at e
  split at e
  · rename_i b' ρ1 e1
    cases e
    exact w σ H _ ⟨G, ρ, _, _, R, e1, fun v H' G' p q => by cases q; exact ⟨_, rfl, k H' G' p⟩⟩
  · cases e
theorem pxt_cmp {op : CmpOp} {r : R2} {S : T → T → Option T} (ho : OpR X (compareOp op) r) (hs : OpS X.K r S) (ha : PX X F a fa) (hb : PX X F b fb) (hm : behindInMarks op b = false) : PXT X F (.Compare a [op] [b] pos) (tb (s2 fa fb S)) :=
  (pt_cmpR ho ha hb hm).weak fun _ _ _ h => tTest_tb (fun _ _ _ q => tOp_s2 hs q) h
theorem pxt_val (ha : PX X F a fa) (he : ∀ whole, isTrue a X.env whole = (do let v ← whole; standAt a.pos; holding [v] (truthy v)) := by intro _; rfl) : PXT X F a (tb fa) :=
  (pt_val ha he).weak fun _ _ _ h => tTest_tb (fun _ _ _ q => q) h
/-! ### and, or, not -/
variable {ta tb' : Rho → Option (Bool × Rho)} {rest : List Expr}
def tnot (fa : Rho → Option (Bool × Rho)) : Rho → Option (Bool × Rho) := fun ρ => match fa ρ with
  | some (b, ρ1) => some (!b, ρ1)
  | none => none
def tand (fa fb : Rho → Option (Bool × Rho)) : Rho → Option (Bool × Rho) := fun ρ => match fa ρ with
  | some (true, ρ1) => fb ρ1
  | some (false, ρ1) => some (false, ρ1)
  | none => none
def tor (fa fb : Rho → Option (Bool × Rho)) : Rho → Option (Bool × Rho) := fun ρ => match fa ρ with
  | some (true, ρ1) => some (true, ρ1)
  | some (false, ρ1) => fb ρ1
  | none => none
theorem tXT_bind {f : Rho → Option (Bool × Rho)} {σ : L2.St} {H : Hp} {Q : Bool → Hp → Prop} {G : Hp} {ρ ρ1 : Rho} {x : Bool} (R : Rep K F H G σ ρ) (e : f ρ = some (x, ρ1)) (k : ∀ H' G', Stp K F σ H G ρ H' G' ρ1 → Q x H') : tXT K F f σ H Q :=
  ⟨G, ρ, x, ρ1, R, e, k⟩
theorem pxt_not (ha : PXT X F a ta) : PXT X F (.UnaryOp .Not a pos) (tnot ta) := (pt_not ha).weak fun σ H Q h => by
  obtain ⟨G, ρ, b, ρ', R, e, k⟩ := h
  unfold tnot at e
  split at e
  · rename_i b' ρ1 e1
    cases e
    exact tXT_bind R e1 k
  · cases e
theorem pxw_one_and (ha : PXT X F a ta) : PXW X F (.BoolOp .And [a] pos) ta := pw_and1 ha
theorem pxw_one_or (ha : PXT X F a ta) : PXW X F (.BoolOp .Or [a] pos) ta := pw_or1 ha
theorem pxw_and (ha : PXT X F a ta) (hb : PXW X F (.BoolOp .And (b :: rest) pos) tb') : PXW X F (.BoolOp .And (a :: b :: rest) pos) (tand ta tb') := (pw_and ha hb).weak fun σ H Q h => by
  obtain ⟨G, ρ, b, ρ', R, e, k⟩ := h
  unfold tand at e
  split at e
  · rename_i ρ1 e1
    exact tXT_bind R e1 fun H1 G1 p1 => by
      rw [if_pos rfl]
      exact tXT_bind p1.rep e fun H2 G2 p2 => k H2 G2 (p1.trans p2)
  · rename_i ρ1 e1
    cases e
    exact tXT_bind R e1 fun H1 G1 p1 => by
      rw [if_neg (by decide)]
      exact k H1 G1 p1
  · cases e
theorem pxw_or (ha : PXT X F a ta) (hb : PXW X F (.BoolOp .Or (b :: rest) pos) tb') : PXW X F (.BoolOp .Or (a :: b :: rest) pos) (tor ta tb') := (pw_or ha hb).weak fun σ H Q h => by
  obtain ⟨G, ρ, b, ρ', R, e, k⟩ := h
  unfold tor at e
  split at e
  · rename_i ρ1 e1
    cases e
    exact tXT_bind R e1 fun H1 G1 p1 => by
      rw [if_pos rfl]
      exact k H1 G1 p1
  · rename_i ρ1 e1
    exact tXT_bind R e1 fun H1 G1 p1 => by
      rw [if_neg (by decide)]
      exact tXT_bind p1.rep e fun H2 G2 p2 => k H2 G2 (p1.trans p2)
  · cases e
theorem pxt_w (ha : PXW X F a ta) : PXT X F a ta := ha.pt
/-- .. as values: all but the last are bools -/
def vnot (fa : Rho → Option (T × Rho)) : Rho → Option (T × Rho) := fun ρ => match fa ρ with
  | some (.bl b, ρ1) => some (.bl !b, ρ1)
  | _ => none
def vand (fa fb : Rho → Option (T × Rho)) : Rho → Option (T × Rho) := fun ρ => match fa ρ with
  | some (.bl true, ρ1) => fb ρ1
  | some (.bl false, ρ1) => some (.bl false, ρ1)
  | _ => none
def vor (fa fb : Rho → Option (T × Rho)) : Rho → Option (T × Rho) := fun ρ => match fa ρ with
  | some (.bl true, ρ1) => some (.bl true, ρ1)
  | some (.bl false, ρ1) => fb ρ1
  | _ => none
theorem px_one {op : BoolOp} (ha : PX X F a fa) : PX X F (.BoolOp op [a] pos) fa := pe_one ha
theorem px_not (ha : PX X F a fa) : PX X F (.UnaryOp .Not a pos) (vnot fa) := (pe_not ha).weak fun σ H Q h => by
  obtain ⟨G, ρ, t, ρ', R, e, k⟩ := h
  unfold vnot at e
  split at e
  · rename_i b ρ1 e1
    cases e
    exact tX_bind R e1 fun v H1 G1 p1 q1 => by cases q1; exact ⟨_, rfl, k _ H1 G1 p1 (.bl _)⟩
  · cases e
theorem px_and (ha : PX X F a fa) (hb : PX X F (.BoolOp .And (b :: rest) pos) fb) : PX X F (.BoolOp .And (a :: b :: rest) pos) (vand fa fb) := (pe_and ha hb).weak fun σ H Q h => by
  obtain ⟨G, ρ, t, ρ', R, e, k⟩ := h
  unfold vand at e
  split at e
  · rename_i ρ1 e1
    refine tX_bind R e1 fun v H1 G1 p1 q1 => ?_
    cases q1
    refine ⟨true, rfl, ?_⟩
    rw [if_pos rfl]
    exact tX_bind p1.rep e fun v H2 G2 p2 q2 => k v H2 G2 (p1.trans p2) q2
  · rename_i ρ1 e1
    cases e
    refine tX_bind R e1 fun v H1 G1 p1 q1 => ?_
    cases q1
    refine ⟨false, rfl, ?_⟩
    rw [if_neg (by decide)]
    exact k _ H1 G1 p1 (.bl _)
  · cases e
theorem px_or (ha : PX X F a fa) (hb : PX X F (.BoolOp .Or (b :: rest) pos) fb) : PX X F (.BoolOp .Or (a :: b :: rest) pos) (vor fa fb) := (pe_or ha hb).weak fun σ H Q h => by
  obtain ⟨G, ρ, t, ρ', R, e, k⟩ := h
  unfold vor at e
  split at e
  · rename_i ρ1 e1
    cases e
    refine tX_bind R e1 fun v H1 G1 p1 q1 => ?_
    cases q1
    refine ⟨true, rfl, ?_⟩
    rw [if_pos rfl]
    exact k _ H1 G1 p1 (.bl _)
  · rename_i ρ1 e1
    refine tX_bind R e1 fun v H1 G1 p1 q1 => ?_
    cases q1
    refine ⟨false, rfl, ?_⟩
    rw [if_neg (by decide)]
    exact tX_bind p1.rep e fun v H2 G2 p2 q2 => k v H2 G2 (p1.trans p2) q2
  · cases e
/-- a if t else b -/
def ifx (ft : Rho → Option (Bool × Rho)) (fa fb : Rho → Option (T × Rho)) : Rho → Option (T × Rho) := fun ρ => match ft ρ with
  | some (true, ρ1) => fa ρ1
  | some (false, ρ1) => fb ρ1
  | none => none
theorem px_if {q : Expr} (hq : PXT X F q ta) (ha : PX X F a fa) (hb : PX X F b fb) : PX X F (.IfExp q a b pos) (ifx ta fa fb) := (pe_ifExp hq ha hb).weak fun σ H Q h => by
  obtain ⟨G, ρ, t, ρ', R, e, k⟩ := h
  unfold ifx at e
  split at e
  · rename_i ρ1 e1
    exact tXT_bind R e1 fun H1 G1 p1 => by
      rw [if_pos rfl]
      exact tX_bind p1.rep e fun v H2 G2 p2 q2 => k v H2 G2 (p1.trans p2) q2
  · rename_i ρ1 e1
    exact tXT_bind R e1 fun H1 G1 p1 => by
      rw [if_neg (by decide)]
      exact tX_bind p1.rep e fun v H2 G2 p2 q2 => k v H2 G2 (p1.trans p2) q2
  · cases e
/-! ### arguments, displays -/
def anil : Rho → Option (List T × Rho) := fun ρ => some ([], ρ)
def acons (fa : Rho → Option (T × Rho)) (fs : Rho → Option (List T × Rho)) : Rho → Option (List T × Rho) := fun ρ => match fa ρ with
  | some (x, ρ1) => (match fs ρ1 with
    | some (xs, ρ2) => some (x :: xs, ρ2)
    | none => none)
  | none => none
theorem tXA_bind {f : Rho → Option (List T × Rho)} {σ : L2.St} {H : Hp} {Q : List V → Hp → Prop} {G : Hp} {ρ ρ1 : Rho} {xs : List T} (R : Rep K F H G σ ρ) (e : f ρ = some (xs, ρ1)) (k : ∀ vs H' G', Stp K F σ H G ρ H' G' ρ1 → IsTs K G' vs xs → Q vs H') : tXA K F f σ H Q :=
  ⟨G, ρ, xs, ρ1, R, e, k⟩
variable {es : List Expr} {fs : Rho → Option (List T × Rho)}
theorem pxa_nil : PXA X F [] anil := pa_nil.weak fun σ H Q h => by
  obtain ⟨G, ρ, t, ρ', R, e, k⟩ := h
  cases e
  exact k [] H G (.refl R) .nil
theorem pxa_cons (ha : PX X F a fa) (hr : PXA X F es fs) (hs : starEach (a :: es) X.env = (false, eval a X.env) :: starEach es X.env := by rfl) : PXA X F (a :: es) (acons fa fs) := (pa_cons ha hr hs).weak fun σ H Q h => by
  obtain ⟨G, ρ, t, ρ', R, e, k⟩ := h
  unfold acons at e
  split at e
  · rename_i x ρ1 e1
    split at e
    · rename_i xs ρ2 e2
      cases e
      exact tX_bind R e1 fun v1 H1 G1 p1 q1 => tXA_bind p1.rep e2 fun vs H2 G2 p2 q2 => k _ H2 G2 (p1.trans p2) (.cons (q1.mono p2.le) q2)
    · cases e
  · cases e
/-- what the arguments lead to -/
def sA (fs : Rho → Option (List T × Rho)) (S : List T → Option T) : Rho → Option (T × Rho) := fun ρ => match fs ρ with
  | some (xs, ρ1) => (match S xs with
    | some t => some (t, ρ1)
    | none => none)
  | none => none
theorem tCB_sA {r : List V → Hp → VK → Prop} {S : List T → Option T} {σ : L2.St} {H : Hp} {Q : VK} (hs : CallS K r S) (h : tX K F (sA fs S) σ H Q) : tCB r (tXA K F fs) σ H Q := by
  obtain ⟨G, ρ, t, ρ', R, e, k⟩ := h
  unfold sA at e
  split at e
  · rename_i xs ρ1 e1
    split at e
    · rename_i t' e2
      cases e
      exact tXA_bind R e1 fun vs H1 G1 p1 q1 => hs p1.rep q1 e2 fun w H2 G2 p2 q2 => k w H2 G2 (p1.trans p2) q2
    · cases e
  · cases e
def mkTup (xs : List T) : Option T := if xs.length ≤ 1000 then some (.tup xs) else none
def mkLst (xs : List T) : Option T := if xs.length ≤ 1000 then some (.lst xs) else none
theorem le_line {n : Nat} (h : n ≤ 1000) : n ≤ sizeLine := Nat.le_trans h (by decide)
theorem lt_line {n : Nat} (h : n ≤ 1000) : n < sizeLine := Nat.lt_of_le_of_lt h (by decide)
theorem tup_ok : CallS K (fun xs H Q => xs.length ≤ sizeLine ∧ ∀ p, H p = none → Q (.ref p) (upd H p (.tup xs))) mkTup := by
  intro F σ H G ρ vs xs t Q R r e k
  unfold mkTup at e
  split at e
  · rename_i hl
    cases e
    refine ⟨by rw [r.length]; exact le_line hl, fun p hp => ?_⟩
    have st := R.alloc (.tup vs) hp
    exact k _ _ _ st (.tup (.inl (.inl upd_same)) (r.mono st.le))
  · cases e
theorem lst_ok : CallS K (fun xs H Q => xs.length ≤ sizeLine ∧ ∀ p, H p = none → Q (.ref p) (upd H p (.lst xs))) mkLst := by
  intro F σ H G ρ vs xs t Q R r e k
  unfold mkLst at e
  split at e
  · rename_i hl
    cases e
    refine ⟨by rw [r.length]; exact le_line hl, fun p hp => ?_⟩
    have st := R.alloc (.lst vs) hp
    exact k _ _ _ st (.lst upd_same (r.mono st.le))
  · cases e
theorem px_tup {x1} (h : PXA X F es fs) : PX X F (.Tuple es x1 pos) (sA fs mkTup) := (pe_tup h).weak fun _ _ _ q => tCB_sA tup_ok q
theorem px_lst (h : PXA X F es fs) : PX X F (.List es pos) (sA fs mkLst) := (pe_lst h).weak fun _ _ _ q => tCB_sA lst_ok q
/-! ### built-ins -/
theorem px_B {id : String} {x : Str} {p : Pos} {e : Expr} {r : List V → Hp → VK → Prop} {S : List T → Option T} (hc : CallR X (.builtin id) r) (hs : CallS X.K r S) (hg : Gl X x) (hm : X.mg x = none) (hv : bootBuiltins x = some (.builtin id)) (ha : PXA X F (e :: es) fs) (hn : x ≠ "__name__" := by decide) (hdb : (x == ("__debug__" : Str)) = false := by decide)
    (he : starEach (e :: es) X.env = (false, eval e X.env) :: starEach es X.env := by rfl) (hpl : (backTo pos (starEach es X.env)).any (·.1) = false := by rfl) : PX X F (.Call (.Name x p) (e :: es) [] pos) (sA fs S) :=
  (pe_callB hc hg hm hv ha hn hdb he hpl).weak fun _ _ _ q => tCB_sA hs q
theorem px_Ty {T' : String} {x : Str} {p : Pos} {e : Expr} {r : List V → Hp → VK → Prop} {S : List T → Option T} (hc : CallR X (.type T') r) (hs : CallS X.K r S) (hg : Gl X x) (hm : X.mg x = none) (hv : bootBuiltins x = some (.type T')) (ha : PXA X F (e :: es) fs) (hn : x ≠ "__name__" := by decide) (hdb : (x == ("__debug__" : Str)) = false := by decide)
    (he : starEach (e :: es) X.env = (false, eval e X.env) :: starEach es X.env := by rfl) (hpl : (backTo pos (starEach es X.env)).any (·.1) = false := by rfl) : PX X F (.Call (.Name x p) (e :: es) [] pos) (sA fs S) :=
  (pe_callTy hc hg hm hv ha hn hdb he hpl).weak fun _ _ _ q => tCB_sA hs q
end
end PX
/-! PX3 -/
set_option autoImplicit false
set_option maxRecDepth 100000
set_option linter.all false
namespace PX
open PySem L2

inductive Out where
  | nx (ρ : Rho) | rt (t : T) (ρ : Rho) | bk (ρ : Rho) | ct (ρ : Rho) | rn (t : T) (ρ : Rho)
def Out.says (K : PySem.W.Frag) (F : Fr) (D : Ends) (G0 : Hp) : Out → Prop
  | .nx ρ => ∀ σ H G, Rep K F H G σ ρ → Le G0 G → D.nx σ H
  | .rt t ρ => ∀ v σ H G, Rep K F H G σ ρ → Le G0 G → IsT K G v t → D.rt v H
  | .bk ρ => ∀ σ H G, Rep K F H G σ ρ → Le G0 G → D.bk σ H
  | .ct ρ => ∀ σ H G, Rep K F H G σ ρ → Le G0 G → D.ct σ H
  | .rn t ρ => ∀ p σ H G, Rep K F H G σ ρ → Le G0 G → F.H0 p = none → G p = none → ¬ IsCell σ ρ p → CellAt K G H p t → D.rt (.ref p) H
theorem Out.says_mono {K : PySem.W.Frag} {F : Fr} {D : Ends} {G0 G1 : Hp} (h : Le G0 G1) : ∀ {o : Out}, Out.says K F D G0 o → Out.says K F D G1 o
  | .nx _, s => fun σ H G R l => s σ H G R (h.trans l)
  | .rt _ _, s => fun v σ H G R l q => s v σ H G R (h.trans l) q
  | .bk _, s => fun σ H G R l => s σ H G R (h.trans l)
  | .ct _, s => fun σ H G R l => s σ H G R (h.trans l)
  | .rn _ _, s => fun p σ H G R l q1 q2 q3 q4 => s p σ H G R (h.trans l) q1 q2 q3 q4
abbrev Blk := Rho → Option Out
def tXS (K : PySem.W.Frag) (F : Fr) (f : Blk) : TS := fun D σ H => ∃ G ρ o, Rep K F H G σ ρ ∧ f ρ = some o ∧ Out.says K F D G o
abbrev PXS (X : Cx) (F : Fr) (st : Stmt) (f : Blk) : Prop := PS X st (tXS X.K F f)
abbrev PXB (X : Cx) (F : Fr) (st : List Stmt) (f : Blk) : Prop := PSs X st (tXS X.K F f)

/-! ### blocks -/
def bnil : Blk := fun ρ => some (.nx ρ)
def bseq (f g : Blk) : Blk := fun ρ => match f ρ with
  | some (.nx ρ1) => g ρ1
  | some (.rt t ρ1) => some (.rt t ρ1)
  | some (.bk ρ1) => some (.bk ρ1)
  | some (.ct ρ1) => some (.ct ρ1)
  | some (.rn t ρ1) => some (.rn t ρ1)
  | none => none
section
variable {X : Cx} {F : Fr} {K : PySem.W.Frag} {st : Stmt} {rest : List Stmt} {f g : Blk} {pos : Pos} {e a : Expr} {fe fa : Rho → Option (T × Rho)} {ft : Rho → Option (Bool × Rho)}
theorem pxb_nil : PXB X F [] bnil := pss_nil.weak fun D σ H h => by
  obtain ⟨G, ρ, o, R, e, s⟩ := h
  cases e
  exact s σ H G R (Le.refl _)
theorem pxb_cons (h1 : PXS X F st f) (h2 : PXB X F rest g) : PXB X F (st :: rest) (bseq f g) := (pss_cons h1 h2).weak fun D σ H h => by
  obtain ⟨G, ρ, o, R, e, s⟩ := h
  unfold bseq at e
  split at e
  · rename_i ρ1 e1
    exact ⟨G, ρ, _, R, e1, fun σ' H' G' R' l => ⟨G', ρ1, o, R', e, Out.says_mono l s⟩⟩
  all_goals first
    | (rename_i e1; cases e; exact ⟨G, ρ, _, R, e1, s⟩)
    | cases e
theorem pxb_one (h1 : PXS X F st f) : PXB X F [st] f := (pss_one h1)
/-- a cell of one's own is changed no more -/
def frz (i : Nat) (f : Blk) : Blk := fun ρ => match ρ[i]? with
  | some (Sl.cl true t) => f (ρ.set i (.im t))
  | _ => none
theorem pxb_frz (i : Nat) (h : PXB X F rest f) : PXB X F rest (frz i f) := PSs.weak h fun D σ H h => by
  obtain ⟨G, ρ, o, R, e, s⟩ := h
  unfold frz at e
  split at e
  · rename_i t e1
    obtain ⟨G', l, R'⟩ := R.freeze e1
    exact ⟨G', _, o, R', e, Out.says_mono l s⟩
  · cases e
/-! ### small statements -/
def ret (fe : Rho → Option (T × Rho)) : Blk := fun ρ => match fe ρ with
  | some (t, ρ1) => some (.rt t ρ1)
  | none => none
theorem pxs_ret (he : PX X F e fe) : PXS X F (.Return (some e) pos) (ret fe) := (ps_ret he).weak fun D σ H h => by
  obtain ⟨G, ρ, o, R, e, s⟩ := h
  unfold ret at e
  split at e
  · rename_i t ρ1 e1
    cases e
    exact tX_bind R e1 fun v H' G' p q => s v σ H' G' p.rep p.le q
  · cases e
def retN : Blk := fun ρ => some (.rt .non ρ)
theorem pxs_retN : PXS X F (.Return none pos) retN := ps_retN.weak fun D σ H h => by
  obtain ⟨G, ρ, o, R, e, s⟩ := h
  cases e
  exact s _ σ H G R (Le.refl _) .non
theorem pxs_pass : PXS X F (.Pass pos) bnil := ps_pass.weak fun D σ H h => by
  obtain ⟨G, ρ, o, R, e, s⟩ := h
  cases e
  exact s σ H G R (Le.refl _)
def bbk : Blk := fun ρ => some (.bk ρ)
def bct : Blk := fun ρ => some (.ct ρ)
theorem pxs_break : PXS X F (.Break pos) bbk := ps_break.weak fun D σ H h => by
  obtain ⟨G, ρ, o, R, e, s⟩ := h
  cases e
  exact s σ H G R (Le.refl _)
theorem pxs_continue : PXS X F (.Continue pos) bct := ps_continue.weak fun D σ H h => by
  obtain ⟨G, ρ, o, R, e, s⟩ := h
  cases e
  exact s σ H G R (Le.refl _)
def bno : Blk := fun _ => none
theorem pxs_never : PXS X F st bno := ps_never.weak fun D σ H h => by
  obtain ⟨G, ρ, o, R, e, s⟩ := h
  cases e
def drop (fe : Rho → Option (T × Rho)) : Blk := fun ρ => match fe ρ with
  | some (_, ρ1) => some (.nx ρ1)
  | none => none
theorem pxs_expr (he : PX X F e fe) (hs : swapsWith e none pos.line X.env = pure false := by rfl) : PXS X F (.Expr e pos) (drop fe) := (ps_expr he hs).weak fun D σ H h => by
  obtain ⟨G, ρ, o, R, e, s⟩ := h
  unfold drop at e
  split at e
  · rename_i t ρ1 e1
    cases e
    exact tX_bind R e1 fun v H' G' p q => s σ H' G' p.rep p.le
  · cases e
def biff (ft : Rho → Option (Bool × Rho)) (f g : Blk) : Blk := fun ρ => match ft ρ with
  | some (true, ρ1) => f ρ1
  | some (false, ρ1) => g ρ1
  | none => none
theorem pxs_if {b b2 : List Stmt} (hc : PXT X F e ft) (ha : PXB X F b f) (hb : PXB X F b2 g) : PXS X F (.If e b b2 pos) (biff ft f g) := (ps_if hc ha hb).weak fun D σ H h => by
  obtain ⟨G, ρ, o, R, e, s⟩ := h
  unfold biff at e
  split at e
  · rename_i ρ1 e1
    refine tXT_bind R e1 fun H1 G1 p1 => ?_
    rw [if_pos rfl]
    exact ⟨G1, ρ1, o, p1.rep, e, Out.says_mono p1.le s⟩
  · rename_i ρ1 e1
    refine tXT_bind R e1 fun H1 G1 p1 => ?_
    rw [if_neg (by decide)]
    exact ⟨G1, ρ1, o, p1.rep, e, Out.says_mono p1.le s⟩
  · cases e
/-! ### kinds: a value, or a new thing to be changed -/
def tXK (K : PySem.W.Frag) (F : Fr) (f : Rho → Option (Sl × Rho)) : TE := fun σ H Q =>
  ∃ G ρ k ρ', Rep K F H G σ ρ ∧ f ρ = some (k, ρ') ∧ ∀ v H' G', Stp K F σ H G ρ H' G' ρ' → KV K F G' H' σ ρ' v k → (∀ p t, v = .ref p → k = .cl true t → H p = none) → Q v H'
abbrev PXK (X : Cx) (F : Fr) (e : Expr) (f : Rho → Option (Sl × Rho)) : Prop := PE X e (tXK X.K F f)
def im (fe : Rho → Option (T × Rho)) : Rho → Option (Sl × Rho) := fun ρ => match fe ρ with
  | some (t, ρ1) => some (.im t, ρ1)
  | none => none
def cl (fe : Rho → Option (T × Rho)) : Rho → Option (Sl × Rho) := fun ρ => match fe ρ with
  | some (t, ρ1) => some (.cl true t, ρ1)
  | none => none
theorem pxk_im (he : PX X F e fe) : PXK X F e (im fe) := PE.weak he fun σ H Q h => by
  obtain ⟨G, ρ, k, ρ', R, e, s⟩ := h
  unfold im at e
  split at e
  · rename_i t ρ1 e1
    cases e
    exact tX_bind R e1 fun v H' G' p q => s v H' G' p (.im q) fun _ _ _ z => by cases z
  · cases e
/-- an expression that makes a new thing -/
def tXN (K : PySem.W.Frag) (F : Fr) (f : Rho → Option (T × Rho)) : TE := fun σ H Q =>
  ∃ G ρ t ρ', Rep K F H G σ ρ ∧ f ρ = some (t, ρ') ∧ ∀ p H' G', Stp K F σ H G ρ H' G' ρ' → H p = none → G' p = none → CellAt K G' H' p t → Q (.ref p) H'
abbrev PXN (X : Cx) (F : Fr) (e : Expr) (f : Rho → Option (T × Rho)) : Prop := PE X e (tXN X.K F f)
theorem Rep.not_base {σ : L2.St} {H G : Hp} {ρ : Rho} (R : Rep K F H G σ ρ) {p : Addr} (h : H p = none) : F.H0 p = none := by
  cases e : F.H0 p with
  | none => rfl
  | some o =>
    obtain ⟨o', z⟩ := R.dom p o e
    rw [h] at z; cases z
theorem Rep.not_cell {σ : L2.St} {H G : Hp} {ρ : Rho} (R : Rep K F H G σ ρ) {p : Addr} (h : H p = none) : ¬ IsCell σ ρ p := fun z => by
  obtain ⟨o, e⟩ := R.cell_some z
  rw [h] at e; cases e
theorem pxk_cl (he : PXN X F e fe) : PXK X F e (cl fe) := PE.weak he fun σ H Q h => by
  obtain ⟨G, ρ, k, ρ', R, e, s⟩ := h
  unfold cl at e
  split at e
  · rename_i t ρ1 e1
    cases e
    refine ⟨G, ρ, t, _, R, e1, fun p H' G' st hp hg hc => ?_⟩
    exact s _ H' G' st (.cl (R.not_base hp) hg (fun z => R.not_cell hp (st.cs p z)) hc) fun q _ z _ => by cases z; exact hp
  · cases e
/-- frozen at once -/
theorem tXN_of {σ : L2.St} {H : Hp} {Q : VK} (h : tX K F fe σ H Q) : tXN K F fe σ H Q := by
  obtain ⟨G, ρ, t, ρ', R, e, s⟩ := h
  refine ⟨G, ρ, t, ρ', R, e, fun p H' G' st hp hg hc => ?_⟩
  obtain ⟨o, ho⟩ := hc.some_
  have hG : Le G' (upd G' p o) := fun a x h => by rw [upd_ne (fun z => by subst z; rw [hg] at h; cases h)]; exact h
  have q : IsT K (upd G' p o) (.ref p) t := by
    cases t with
    | lst ts => obtain ⟨vs, e2, r⟩ := hc; rw [ho] at e2; cases e2; exact .lst upd_same (r.mono hG)
    | dct kts => obtain ⟨kvs, e2, k, r⟩ := hc; rw [ho] at e2; cases e2; exact .dct upd_same k (r.mono hG)
    | obj c fts => obtain ⟨dx, fvs, e2, k, r⟩ := hc; rw [ho] at e2; cases e2; exact .obj upd_same k (r.mono hG)
    | _ => exact hc.elim
  have nc : ¬ IsCell σ ρ' p := fun z => R.not_cell hp (st.cs p z)
  refine s _ H' _ ⟨⟨st.ext.g.trans hG, st.ext.k, st.ext.d, fun a x h => ?_⟩, ?_, st.cs⟩ q
  · by_cases z : a = p
    · subst z; exact .inr hp
    · rw [upd_ne z] at h; exact st.ext.n a x h
  · have R' := st.rep
    refine ⟨fun a x h => ?_, fun j u h => ?_, fun j b u h => ?_, R'.ap, R'.keep, R'.g0.trans hG, fun a x h => ?_, R'.dom, R'.len⟩
    · by_cases z : a = p
      · subst z; rw [upd_same] at h; rw [← h]; exact ho
      · rw [upd_ne z] at h; exact R'.sub a x h
    · obtain ⟨v, h2, r⟩ := R'.im j u h
      exact ⟨v, h2, r.mono hG⟩
    · obtain ⟨r, h2, g2, c2, f3, f4⟩ := R'.cl j b u h
      refine ⟨r, h2, ?_, c2.mono hG fun _ y => y, f3, f4⟩
      rw [upd_ne (fun z => by subst z; exact nc ⟨j, b, u, h, h2⟩)]
      exact g2
    · by_cases z : a = p
      · subst z; exact .inr (R.not_base hp)
      · rw [upd_ne z] at h; exact R'.new a x h
theorem px_n (he : PXN X F e fe) : PX X F e fe := PE.weak he fun σ H Q h => tXN_of h
theorem tXK_im {σ : L2.St} {H : Hp} {Q : VK} (h : tXK K F (im fe) σ H Q) : tXN K F fe σ H Q := tXN_of (by
  obtain ⟨G, ρ, k, ρ', R, e, s⟩ := h
  unfold im at e
  split at e
  · rename_i t ρ1 e1
    cases e
    exact tX_bind R e1 fun v H' G' p q => s v H' G' p (.im q) fun _ _ _ z => by cases z
  · cases e)
def retC (fe : Rho → Option (T × Rho)) : Blk := fun ρ => match fe ρ with
  | some (t, ρ1) => some (.rn t ρ1)
  | none => none
theorem pxs_retC (he : PXN X F e fe) : PXS X F (.Return (some e) pos) (retC fe) := (ps_ret he).weak fun D σ H h => by
  obtain ⟨G, ρ, o, R, e, s⟩ := h
  unfold retC at e
  split at e
  · rename_i t ρ1 e1
    cases e
    exact ⟨G, ρ, t, ρ1, R, e1, fun p H' G' st hp hg hc => s p σ H' G' st.rep st.le (R.not_base hp) hg (fun z => R.not_cell hp (st.cs p z)) hc⟩
  · cases e
/-! ### names stored -/
def bset (i : Nat) (fk : Rho → Option (Sl × Rho)) : Blk := fun ρ => match fk ρ with
  | some (k, ρ1) => some (.nx (ρ1.set i k))
  | none => none
theorem bset_ok {i : Nat} {fk : Rho → Option (Sl × Rho)} {D : Ends} {σ : L2.St} {H : Hp} (h : tXS K F (bset i fk) D σ H) : tAsg (tXK K F fk) (gName i) D σ H := by
  obtain ⟨G, ρ, o, R, e, s⟩ := h
  unfold bset at e
  split at e
  · rename_i k ρ1 e1
    cases e
    exact ⟨G, ρ, k, ρ1, R, e1, fun v H' G' st q _ => s _ H' G' (st.rep.set i q) st.le⟩
  · cases e
theorem pxs_set {i : Nat} {x : Str} {pos' : Pos} {fk : Rho → Option (Sl × Rho)} (hN : X.N.Nodup) (he : PXK X F e fk) (hi : X.N[i]? = some x := by rfl) (hx : Loc X.env.scope x := by first | exact Or.inl rfl | exact Or.inr rfl) (hs : swapsWith e (some (.Name x pos')) pos.line X.env = pure false := by rfl)
    (hf : X.fn x = true ∨ X.env.scope.names.lookup x = some .local := by first | exact .inl rfl | exact .inr rfl | assumption) : PXS X F (.Assign [.Name x pos'] e pos) (bset i fk) :=
  (ps_set hN hi hx he hs hf).weak fun _ _ _ h => bset_ok h
/-! ### targets (names alone) -/
def Off (sl : List Nat) (σ σ' : L2.St) : Prop := σ'.length = σ.length ∧ ∀ j, j ∉ sl → σ'[j]? = σ[j]?
def tXG (K : PySem.W.Frag) (F : Fr) (sl : List Nat) (g : T → Rho → Option Rho) : TG := fun v σ H Q =>
  ∃ G ρ t ρ', Rep K F H G σ ρ ∧ IsT K G v t ∧ g t ρ = some ρ' ∧ ∀ σ', Rep K F H G σ' ρ' → Off sl σ σ' → (∀ a, IsCell σ' ρ' a → IsCell σ ρ a) → Q σ' H
abbrev PXG (X : Cx) (F : Fr) (tg : Expr) (sl : List Nat) (g : T → Rho → Option Rho) : Prop := PG X tg (tXG X.K F sl g)
def gn (i : Nat) : T → Rho → Option Rho := fun t ρ => some (ρ.set i (.im t))
theorem _root_.L2.PG.weak {X : Cx} {tg : Expr} {t t' : TG} (h : PG X tg t) (w : ∀ v σ H Q, t' v σ H Q → t v σ H Q) : PG X tg t' := ⟨fun pins s σ H v u Q I r q => h.run pins s σ H v u Q I r (w v σ H Q q)⟩
theorem _root_.L2.PGs.weak {X : Cx} {ts : List Expr} {t t' : TGs} (h : PGs X ts t) (w : ∀ v σ H Q, t' v σ H Q → t v σ H Q) : PGs X ts t' := ⟨fun pins s σ H v u Q I r q => h.run pins s σ H v u Q I r (w v σ H Q q)⟩
theorem pxg_n (i : Nat) {x : Str} {pos : Pos} (hN : X.N.Nodup) (hi : X.N[i]? = some x := by rfl) (hx : Loc X.env.scope x := by first | exact Or.inl rfl | exact Or.inr rfl) (hf : X.fn x = true ∨ X.env.scope.names.lookup x = some .local := by first | exact .inl rfl | exact .inr rfl | assumption) : PXG X F (.Name x pos) [i] (gn i) :=
  (pg_name hN hi hx hf).weak fun v σ H Q h => by
    obtain ⟨G, ρ, t, ρ', R, q, e, s⟩ := h
    cases e
    exact s _ (R.set i (.im q)) ⟨List.length_set, fun j hj => List.getElem?_set_ne (fun z => hj (by rw [z]; exact List.mem_cons_self))⟩ fun a ⟨j, b, t', e, z⟩ => by
      rcases set_some e with ⟨_, y, _⟩ | ⟨n, e⟩
      · cases y
      · rw [List.getElem?_set_ne (Ne.symm n)] at z
        exact ⟨j, b, t', e, z⟩
/-- several, one after the other -/
def tXGs (K : PySem.W.Frag) (F : Fr) (sl : List Nat) (g : List T → Rho → Option Rho) : TGs := fun vs σ H Q =>
  ∃ G ρ ts ρ', Rep K F H G σ ρ ∧ IsTs K G vs ts ∧ g ts ρ = some ρ' ∧ ∀ σ', Rep K F H G σ' ρ' → Off sl σ σ' → (∀ a, IsCell σ' ρ' a → IsCell σ ρ a) → Q σ' H
abbrev PXGs (X : Cx) (F : Fr) (tgs : List Expr) (sl : List Nat) (g : List T → Rho → Option Rho) : Prop := PGs X tgs (tXGs X.K F sl g)
def gnil : List T → Rho → Option Rho := fun ts ρ => match ts with
  | [] => some ρ
  | _ => none
def gcons (g : T → Rho → Option Rho) (gs : List T → Rho → Option Rho) : List T → Rho → Option Rho := fun ts ρ => match ts with
  | t :: r => (match g t ρ with
    | some ρ1 => gs r ρ1
    | none => none)
  | [] => none
theorem pxgs_nil : PXGs X F [] [] gnil := pgs_nil.weak fun v σ H Q h => by
  obtain ⟨G, ρ, ts, ρ', R, q, e, s⟩ := h
  unfold gnil at e
  split at e
  · cases e
    cases q
    exact ⟨rfl, s σ R ⟨rfl, fun _ _ => rfl⟩ fun _ h => h⟩
  · cases e
theorem pxgs_cons {tg : Expr} {tgs : List Expr} {sl sls : List Nat} {g : T → Rho → Option Rho} {gs : List T → Rho → Option Rho} (h1 : PXG X F tg sl g) (h2 : PXGs X F tgs sls gs)
    (hs : (assignEach (tg :: tgs) X.env).map (·.2) = assign tg X.env :: (assignEach tgs X.env).map (·.2) := by rfl) : PXGs X F (tg :: tgs) (sl ++ sls) (gcons g gs) := (pgs_cons h1 h2 hs).weak fun v σ H Q h => by
  obtain ⟨G, ρ, ts, ρ', R, q, e, s⟩ := h
  unfold gcons at e
  split at e
  · rename_i t r
    split at e
    · rename_i ρ1 e1
      cases q with
      | cons q1 q2 =>
        refine ⟨_, _, rfl, G, ρ, t, ρ1, R, q1, e1, fun σ1 R1 n1 c1 => ⟨G, ρ1, r, ρ', R1, q2, e, fun σ2 R2 n2 c2 => s σ2 R2 ⟨n2.1.trans n1.1, fun j hj => ?_⟩ fun a h => c1 a (c2 a h)⟩⟩
        rw [List.mem_append, not_or] at hj
        rw [n2.2 j hj.2, n1.2 j hj.1]
    · cases e
  · cases e
def gt (n : Nat) (gs : List T → Rho → Option Rho) : T → Rho → Option Rho := fun t ρ => match t with
  | .tup ts => if ts.length = n then gs ts ρ else none
  | _ => none
theorem pxg_t {n : Nat} {tgs : List Expr} {k : Nat} {sl : List Nat} {gs : List T → Rho → Option Rho} (hc : X.calm = true) (h : PXGs X F tgs sl gs) (hn : (assignEach tgs X.env).length = n := by rfl) (hst : (assignEach tgs X.env).findIdx? (·.1) = none := by rfl) :
    PXG X F (.Tuple tgs k pos) sl (gt n gs) := (pg_tup hc h hn hst).weak fun v σ H Q h => by
  obtain ⟨G, ρ, t, ρ', R, q, e, s⟩ := h
  unfold gt at e
  split at e
  · rename_i ts
    split at e
    · rename_i hl
      cases q with
      | tup q1 q2 => exact ⟨_, _, rfl, R.sub.sqT q1, by rw [q2.length]; exact hl, G, ρ, ts, ρ', R, q2, e, s⟩
    · cases e
  · cases e
def basg (fe : Rho → Option (T × Rho)) (g : T → Rho → Option Rho) : Blk := fun ρ => match fe ρ with
  | some (t, ρ1) => (match g t ρ1 with
    | some ρ2 => some (.nx ρ2)
    | none => none)
  | none => none
theorem pxs_asg {tg : Expr} {sl : List Nat} {gg : T → Rho → Option Rho} (he : PX X F e fe) (hg : PXG X F tg sl gg) (hs : swapsWithSole [tg] e pos.line X.env = pure false := by rfl) (hw : swappedStores [tg] e X.env = pure none := by rfl)
    (h1 : (assignEach [tg] X.env).map (·.2) = [assign tg X.env] := by rfl) : PXS X F (.Assign [tg] e pos) (basg fe gg) := (ps_asg he hg hs hw h1).weak fun D σ H h => by
  obtain ⟨G, ρ, o, R, e, s⟩ := h
  unfold basg at e
  split at e
  · rename_i t ρ1 e1
    split at e
    · rename_i ρ2 e2
      cases e
      exact tX_bind R e1 fun v H1 G1 p1 q1 => ⟨G1, ρ1, t, ρ2, p1.rep, q1, e2, fun σ' R' _ _ => s σ' H1 G1 R' p1.le⟩
    · cases e
  · cases e
/-! ### what is walked -/
structure Walks (K : PySem.W.Frag) (G0 : Hp) (J : It) (items : List T) : Prop where
  go : ∀ (F : Fr) (σ : L2.St) (ρ : Rho) (H G : Hp) (i : Nat) (t : T), Rep K F H G σ ρ → Le G0 G → items[i]? = some t → J.go i H ∧ ∀ x H', J.yld i H x H' → ∃ G', Stp K F σ H G ρ H' G' ρ ∧ IsT K G' x t
  stop : ∀ H G, Le G H → Le G0 G → J.stop items.length H
def tXI (K : PySem.W.Frag) (F : Fr) (f : Rho → Option (List T × Rho)) : TI := fun σ H R =>
  ∃ G ρ ts ρ', Rep K F H G σ ρ ∧ f ρ = some (ts, ρ') ∧ ∀ J H' G', Stp K F σ H G ρ H' G' ρ' → Walks K G' J ts → R J H'
structure PXI (X : Cx) (F : Fr) (tg iter : Expr) (f : Rho → Option (List T × Rho)) : Prop where
  pi : PI X tg iter (tXI X.K F f)
theorem _root_.L2.PI.weak {X : Cx} {tg iter : Expr} {t t' : TI} (h : PI X tg iter t) (w : ∀ σ H R, t' σ H R → t σ H R) : PI X tg iter t' := ⟨fun pins s σ H R I q => h.run pins s σ H R I (w σ H R q)⟩
/-! ### for -/
def loop (g : T → Rho → Option Rho) (f : Blk) : List T → Blk
  | [], ρ => some (.nx ρ)
  | t :: r, ρ => match g t ρ with
    | some ρ1 => (match f ρ1 with
      | some (.nx ρ2) => loop g f r ρ2
      | some (.ct ρ2) => loop g f r ρ2
      | some (.bk ρ2) => some (.nx ρ2)
      | some (.rt v ρ2) => some (.rt v ρ2)
      | some (.rn v ρ2) => some (.rn v ρ2)
      | none => none)
    | none => none
def bfor (fi : Rho → Option (List T × Rho)) (g : T → Rho → Option Rho) (f : Blk) : Blk := fun ρ => match fi ρ with
  | some (ts, ρ1) => loop g f ts ρ1
  | none => none
theorem pxs_for {tg iter : Expr} {body : List Stmt} {sl : List Nat} {fi : Rho → Option (List T × Rho)} {gg : T → Rho → Option Rho} (hc : X.calm = true) (hp : PassesOwn (model X.prog X.w) X.A X.env X.xe) (hi : PXI X F tg iter fi) (hg : PXG X F tg sl gg) (hb : PXB X F body f)
    (hs : ∀ x, foldedSetIterable iter X.env x = pure x := by intro _; rfl) : PXS X F (.For tg iter body [] pos) (bfor fi gg f) := (ps_for hp hc hi.pi hg hb hs).weak fun D σ H h => by
  obtain ⟨G, ρ, o, R, e, s⟩ := h
  unfold bfor at e
  split at e
  · rename_i ts ρ1 e1
    refine ⟨G, ρ, ts, ρ1, R, e1, fun J H1 G1 p1 wk => ?_⟩
    refine ⟨fun i m σ' H' => i + m = ts.length ∧ ∃ G' ρ', Rep X.K F H' G' σ' ρ' ∧ Le G1 G' ∧ loop gg f (ts.drop i) ρ' = some o, ⟨ts.length, by omega, G1, ρ1, p1.rep, Le.refl _, e⟩, ?_⟩
    rintro i m σ2 H2 ⟨em, G2, ρ2, R2, le2, e2⟩
    by_cases hl : i < ts.length
    · have ed : ts.drop i = ts[i] :: ts.drop (i + 1) := (List.drop_eq_getElem_cons hl)
      rw [ed] at e2
      unfold loop at e2
      obtain ⟨hgo, hy⟩ := wk.go F σ2 ρ2 H2 G2 i ts[i] R2 le2 (List.getElem?_eq_getElem hl)
      refine .inr ⟨hgo, fun σ' H' => ∃ G' ρ', Rep X.K F H' G' σ' ρ' ∧ Le G1 G' ∧ loop gg f (ts.drop (i + 1)) ρ' = some o, fun σ' H' n => ⟨m - 1, by omega, by omega, n⟩, fun x H3 y => ?_⟩
      obtain ⟨G3, p3, q3⟩ := hy x H3 y
      split at e2
      · rename_i ρ3 e3
        refine ⟨G3, ρ2, ts[i], ρ3, p3.rep, q3, e3, fun σ4 R4 _ _ => ?_⟩
        split at e2
        · rename_i ρ5 e5
          exact ⟨G3, ρ3, _, R4, e5, fun σ' H' G' R' l => ⟨G', ρ5, R', (le2.trans p3.le).trans l, e2⟩⟩
        · rename_i ρ5 e5
          exact ⟨G3, ρ3, _, R4, e5, fun σ' H' G' R' l => ⟨G', ρ5, R', (le2.trans p3.le).trans l, e2⟩⟩
        · rename_i ρ5 e5
          cases e2
          exact ⟨G3, ρ3, _, R4, e5, fun σ' H' G' R' l => s σ' H' G' R' (((p1.le.trans le2).trans p3.le).trans l)⟩
        · rename_i v ρ5 e5
          cases e2
          exact ⟨G3, ρ3, _, R4, e5, fun w σ' H' G' R' l q => s w σ' H' G' R' (((p1.le.trans le2).trans p3.le).trans l) q⟩
        · rename_i v ρ5 e5
          cases e2
          exact ⟨G3, ρ3, _, R4, e5, fun w σ' H' G' R' l q1 q2 q3 q4 => s w σ' H' G' R' (((p1.le.trans le2).trans p3.le).trans l) q1 q2 q3 q4⟩
        · cases e2
      · cases e2
    · have el : i = ts.length := by omega
      subst el
      rw [List.drop_length] at e2
      unfold loop at e2
      cases e2
      exact .inl ⟨wk.stop H2 G2 R2.sub le2, s σ2 H2 G2 R2 (p1.le.trans le2)⟩
  · cases e
end
end PX
/-! PX4 -/
set_option autoImplicit false
set_option maxRecDepth 100000
set_option linter.all false
namespace PX
open PySem L2

/-! ### promises -/
def spP (K : PySem.W.Frag) (d : List T → Option T) : Sp := fun vs H Q _ => ∃ G ts t, Le G H ∧ IsTs K G vs ts ∧ d ts = some t ∧
  ∀ w H' G', Ext (fun _ => False) H G H' G' → Le G' H' → IsT K G' w t → Q w H'
def spR (K : PySem.W.Frag) (d : T → List T → Option (T × T)) : Sp := fun vs H Q _ => ∃ G p vs' c ts t c', vs = .ref p :: vs' ∧ Le G H ∧ G p = none ∧ CellAt K G H p c ∧ IsTs K G vs' ts ∧ d c ts = some (t, c') ∧
  ∀ w H' G', Ext (· = p) H G H' G' → Le G' H' → G' p = none → CellAt K G' H' p c' → IsT K G' w t → Q w H'
/-- what comes out of a body -/
def runP (n N : Nat) (f : Blk) (ts : List T) : Option T := if ts.length = n then (match f (ts.map Sl.im ++ List.replicate (N - n) Sl.no) with
  | some (.rt t _) => some t
  | some (.nx _) => some .non
  | _ => none) else none
def runR (n N : Nat) (f : Blk) (c : T) (ts : List T) : Option (T × T) := if ts.length + 1 = n then (match f (Sl.cl false c :: (ts.map Sl.im ++ List.replicate (N - n) Sl.no)) with
  | some (.rt t ρ) => (match ρ[0]? with
    | some (Sl.cl false c') => some (t, c')
    | _ => none)
  | some (.nx ρ) => (match ρ[0]? with
    | some (Sl.cl false c') => some (.non, c')
    | _ => none)
  | _ => none) else none
/-- .. a new thing -/
def spN (K : PySem.W.Frag) (d : List T → Option T) : Sp := fun vs H Q _ => ∃ G ts t, Le G H ∧ IsTs K G vs ts ∧ d ts = some t ∧
  ∀ p H' G', Ext (fun _ => False) H G H' G' → Le G' H' → H p = none → G' p = none → CellAt K G' H' p t → Q (.ref p) H'
def runN (n N : Nat) (f : Blk) (ts : List T) : Option T := if ts.length = n then (match f (ts.map Sl.im ++ List.replicate (N - n) Sl.no) with
  | some (.rn t _) => some t
  | _ => none) else none
theorem start_im {K : PySem.W.Frag} {G : Hp} {vs : List V} {ts : List T} (r : IsTs K G vs ts) {m : Nat} {i : Nat} {t : T} (e : (ts.map Sl.im ++ List.replicate m Sl.no)[i]? = some (Sl.im t)) : ∃ v, (vs.map some ++ List.replicate m none)[i]? = some (some v) ∧ IsT K G v t := by
  by_cases h : i < ts.length
  · rw [List.getElem?_append_left (by simpa using h), List.getElem?_map] at e
    rw [List.getElem?_append_left (by rw [List.length_map, r.length]; exact h), List.getElem?_map]
    cases e2 : ts[i]? with
    | none => rw [e2] at e; cases e
    | some u =>
      rw [e2] at e
      cases e
      obtain ⟨v, h1, h2⟩ := r.get e2
      rw [h1]
      exact ⟨v, rfl, h2⟩
  · rw [List.getElem?_append_right (by simpa using h), List.getElem?_replicate] at e
    split at e <;> cases e
theorem start_no {ts : List T} {m : Nat} {i : Nat} {b : Bool} {t : T} (e : (ts.map Sl.im ++ List.replicate m Sl.no)[i]? = some (Sl.cl b t)) : False := by
  by_cases h : i < ts.length
  · rw [List.getElem?_append_left (by simpa using h), List.getElem?_map] at e
    cases e2 : ts[i]? with
    | none => rw [e2] at e; cases e
    | some u => rw [e2] at e; cases e
  · rw [List.getElem?_append_right (by simpa using h), List.getElem?_replicate] at e
    split at e <;> cases e
theorem rep_start {K : PySem.W.Frag} {G H : Hp} {N ps : List Str} {vs : List V} {ts : List T} (hs : Le G H) (r : IsTs K G vs ts) (hn : ts.length ≤ N.length) :
    Rep K ⟨H, G, fun _ => False⟩ H G (L2.start N vs) (ts.map Sl.im ++ List.replicate (N.length - ts.length) Sl.no) := by
  have hl := r.length
  unfold L2.start
  rw [← hl]
  refine ⟨hs, fun i t e => ?_, fun i b t e => (start_no e).elim, fun i j b c t u p e _ _ _ => (start_no e).elim, fun _ _ h _ => h, Le.refl _, fun _ _ h => .inl h, fun a o h => ⟨o, h⟩, by simp [hl]⟩
  exact start_im r e
theorem rep_startR {K : PySem.W.Frag} {G H : Hp} {N ps : List Str} {p : Addr} {vs : List V} {c : T} {ts : List T} (hs : Le G H) (hg : G p = none) (hc : CellAt K G H p c) (r : IsTs K G vs ts) (hn : ts.length + 1 ≤ N.length) :
    Rep K ⟨H, G, (· = p)⟩ H G (L2.start N (.ref p :: vs)) (Sl.cl false c :: (ts.map Sl.im ++ List.replicate (N.length - (ts.length + 1)) Sl.no)) := by
  have hl := r.length
  unfold L2.start
  rw [show (V.ref p :: vs).length = ts.length + 1 by rw [List.length_cons, hl]]
  show Rep K _ H G (some (V.ref p) :: (vs.map some ++ List.replicate (N.length - (ts.length + 1)) none)) _
  refine ⟨hs, fun i t e => ?_, fun i b t e => ?_, fun i j b c t u q e1 e2 _ _ => ?_, fun _ _ h _ => h, Le.refl _, fun _ _ h => .inl h, fun a o h => ⟨o, h⟩, by simp [hl]⟩
  · cases i with
    | zero => cases e
    | succ i => exact start_im r e
  · cases i with
    | zero => cases e; exact ⟨p, rfl, hg, hc, (fun z => by cases z), fun _ => rfl⟩
    | succ i => exact (start_no e).elim
  · cases i with
    | zero =>
      cases j with
      | zero => rfl
      | succ j => exact (start_no e2).elim
    | succ i => exact (start_no e1).elim

/-! ### defs -/
section
variable {P : Program} {w : World} {K : PySem.W.Frag} {mg : Str → Option Value} {base : Heap}
theorem fnP {x qual : Str} {params : Arguments} {body : List Stmt} {scope : Scope} {dvs : List V} {kws : List (Str × V)} {f : Addr} {fd : FuncData} {N ps : List Str} {k : Nat} {fb : Blk} (D : FunD K x qual params body scope dvs kws f fd) (S : FnScope N ps scope) (n : Nat) (hn : ps.length = n) (hN : n ≤ N.length)
    (hb : ∀ (X : Cx) (F : Fr) (cdv : Value) (A : Around) (outer : List Env) (s : Shared) (H : Hp) (E : XK), Room k (A.deeper (PyProof.Rows.envOfC qual scope s.heap.objs.size f cdv)) → X = cxOf CX0 P w K mg base N qual scope f cdv A outer s H E → PXB X F body fb) :
    FnOk P w K mg base CX0 (k + 1) f fd ps (spP K (runP n N.length fb)) := by
  refine D.ok S (fun vs H Q E h => ?_) fun cdv A outer s H vs Q E hr h => ?_
  · obtain ⟨G, ts, t, hs, r, e, _⟩ := h
    unfold runP at e
    split at e
    · rename_i hl
      rw [r.length, hl, hn]
    · cases e
  · obtain ⟨G, ts, t, hs, r, e, q⟩ := h
    refine ⟨_, hb _ ⟨H, G, fun _ => False⟩ cdv A outer s H E hr rfl, ?_⟩
    unfold runP at e
    split at e
    · rename_i hl
      have R := rep_start (N := N) (ps := ps) hs r (by omega)
      rw [hl] at R
      split at e
      · rename_i t' ρ' e'
        cases e
        refine ⟨G, _, _, R, e', fun v σ' H' G' R' l z => q v H' G' ⟨R'.g0, R'.keep, R'.dom, R'.new⟩ R'.sub z⟩
      · rename_i ρ' e'
        cases e
        refine ⟨G, _, _, R, e', fun σ' H' G' R' l => q .non H' G' ⟨R'.g0, R'.keep, R'.dom, R'.new⟩ R'.sub .non⟩
      · cases e
    · cases e
theorem fnN {x qual : Str} {params : Arguments} {body : List Stmt} {scope : Scope} {dvs : List V} {kws : List (Str × V)} {f : Addr} {fd : FuncData} {N ps : List Str} {k : Nat} {fb : Blk} (D : FunD K x qual params body scope dvs kws f fd) (S : FnScope N ps scope) (n : Nat) (hn : ps.length = n) (hN : n ≤ N.length)
    (hb : ∀ (X : Cx) (F : Fr) (cdv : Value) (A : Around) (outer : List Env) (s : Shared) (H : Hp) (E : XK), Room k (A.deeper (PyProof.Rows.envOfC qual scope s.heap.objs.size f cdv)) → X = cxOf CX0 P w K mg base N qual scope f cdv A outer s H E → PXB X F body fb) :
    FnOk P w K mg base CX0 (k + 1) f fd ps (spN K (runN n N.length fb)) := by
  refine D.ok S (fun vs H Q E h => ?_) fun cdv A outer s H vs Q E hr h => ?_
  · obtain ⟨G, ts, t, hs, r, e, _⟩ := h
    unfold runN at e
    split at e
    · rename_i hl
      rw [r.length, hl, hn]
    · cases e
  · obtain ⟨G, ts, t, hs, r, e, q⟩ := h
    refine ⟨_, hb _ ⟨H, G, fun _ => False⟩ cdv A outer s H E hr rfl, ?_⟩
    unfold runN at e
    split at e
    · rename_i hl
      have R := rep_start (N := N) (ps := ps) hs r (by omega)
      rw [hl] at R
      split at e
      · rename_i t' ρ' e'
        cases e
        refine ⟨G, _, _, R, e', fun p σ' H' G' R' l z1 z2 z3 z4 => q p H' G' ⟨R'.g0, R'.keep, R'.dom, R'.new⟩ R'.sub z1 z2 z4⟩
      · cases e
    · cases e
theorem fnR {x qual : Str} {params : Arguments} {body : List Stmt} {scope : Scope} {dvs : List V} {kws : List (Str × V)} {f : Addr} {fd : FuncData} {N ps : List Str} {k : Nat} {fb : Blk} (D : FunD K x qual params body scope dvs kws f fd) (S : FnScope N ps scope) (n : Nat) (hn : ps.length = n) (hN : n ≤ N.length)
    (hb : ∀ (X : Cx) (F : Fr) (cdv : Value) (A : Around) (outer : List Env) (s : Shared) (H : Hp) (E : XK), Room k (A.deeper (PyProof.Rows.envOfC qual scope s.heap.objs.size f cdv)) → X = cxOf CX0 P w K mg base N qual scope f cdv A outer s H E → PXB X F body fb) :
    FnOk P w K mg base CX0 (k + 1) f fd ps (spR K (runR n N.length fb)) := by
  refine D.ok S (fun vs H Q E h => ?_) fun cdv A outer s H vs Q E hr h => ?_
  · obtain ⟨G, p, vs', c, ts, t, c', ev, hs, hg, hc, r, e, _⟩ := h
    unfold runR at e
    split at e
    · rename_i hl
      rw [ev, List.length_cons, r.length, hl, hn]
    · cases e
  · obtain ⟨G, p, vs', c, ts, t, c', ev, hs, hg, hc, r, e, q⟩ := h
    subst ev
    refine ⟨_, hb _ ⟨H, G, (· = p)⟩ cdv A outer s H E hr rfl, ?_⟩
    unfold runR at e
    split at e
    · rename_i hl
      have R := rep_startR (N := N) (ps := ps) hs hg hc r (by omega)
      rw [hl] at R
      have fin : ∀ {σ' H' G' ρ' c2}, Rep K ⟨H, G, (· = p)⟩ H' G' σ' ρ' → ρ'[0]? = some (Sl.cl false c2) → G' p = none ∧ CellAt K G' H' p c2 := fun R' z => by
        obtain ⟨p', _, g', c3, _, f2⟩ := R'.cl 0 false _ z
        have ep : p' = p := f2 rfl
        subst ep
        exact ⟨g', c3⟩
      split at e
      · rename_i t' ρ' e'
        split at e
        · rename_i c2 z0
          cases e
          refine ⟨G, _, _, R, e', fun v σ' H' G' R' l z => q v H' G' ⟨R'.g0, R'.keep, R'.dom, R'.new⟩ R'.sub (fin R' z0).1 (fin R' z0).2 z⟩
        · cases e
      · rename_i ρ' e'
        split at e
        · rename_i c2 z0
          cases e
          refine ⟨G, _, _, R, e', fun σ' H' G' R' l => q .non H' G' ⟨R'.g0, R'.keep, R'.dom, R'.new⟩ R'.sub (fin R' z0).1 (fin R' z0).2 .non⟩
        · cases e
      · cases e
    · cases e
/-- a def that may be called by its name -/
structure Cal (P : Program) (w : World) (K : PySem.W.Frag) (mg : Str → Option Value) (base : Heap) (k : Nat) (x : Str) (sp : Sp) : Prop where
  ex : ∃ (f : Addr) (fd : FuncData) (ps : List Str), FnOk P w K mg base CX0 k f fd ps sp ∧ mg x = some (.ref f) ∧ PySem.W.keepIn K (.ref f) = true ∧ Binds K fd ps []
/-- a method -/
structure Mth (P : Program) (w : World) (K : PySem.W.Frag) (mg : Str → Option Value) (base : Heap) (k : Nat) (c m : Str) (sp : Sp) : Prop where
  ex : ∃ (f : Addr) (fd : FuncData) (ps : List Str), Cls K (He.ga K c) ∧ Meth K (He.ga K c) m f ∧ FnOk P w K mg base CX0 k f fd ps sp ∧ Binds K fd ps []
/-- a class that may be made -/
structure Mkr (P : Program) (w : World) (K : PySem.W.Frag) (mg : Str → Option Value) (base : Heap) (k : Nat) (c : Str) (sp : Sp) : Prop where
  ex : ∃ (f : Addr) (fd : FuncData) (ps : List Str), Mk K (He.ga K c) f ∧ mg c = some (.ref (He.ga K c)) ∧ FnOk P w K mg base CX0 k f fd ps sp ∧ Binds K fd ps []
end

/-! ### calls -/
section
variable {X : Cx} {F : Fr} {K : PySem.W.Frag} {pos p apos : Pos} {e o : Expr} {es : List Expr} {fs : Rho → Option (List T × Rho)} {fo : Rho → Option (T × Rho)} {x m c : Str} {k j : Nat}
theorem spP_ok (d : List T → Option T) : CallS K (fun vs H Q => spP K d (vs ++ []) H Q E0) d := by
  intro F σ H G ρ vs xs t Q R r e q
  rw [List.append_nil]
  exact ⟨G, xs, t, R.sub, r, e, fun w H' G' E hs z => q w H' G' (R.grow (fun a o h => E.k a o h id) E.g hs E.n) z⟩
theorem px_call {d : List T → Option T} (cal : Cal X.prog X.w X.K X.mg X.base k x (spP X.K d)) (hr : Room j X.A) (hk : k ≤ j) (ha : PXA X F (e :: es) fs) (hg : Gl X x := by rfl)
    (hdb : (x == ("__debug__" : Str)) = false := by decide) (he : starEach (e :: es) X.env = (false, eval e X.env) :: starEach es X.env := by rfl) (hpl : (backTo pos (starEach es X.env)).any (·.1) = false := by rfl) :
    PX X F (.Call (.Name x p) (e :: es) [] pos) (sA fs d) := by
  obtain ⟨f, fd, ps, Fn, hm, kp, b⟩ := cal.ex
  exact (pe_call Fn (hr.mono hk) hg hm kp b .nil pass0 ha hdb he hpl).weak fun _ _ _ q => tCB_sA (spP_ok d) q
/-- f(..), that makes a new thing -/
theorem pxn_call {d : List T → Option T} (cal : Cal X.prog X.w X.K X.mg X.base k x (spN X.K d)) (hr : Room j X.A) (hk : k ≤ j) (ha : PXA X F (e :: es) fs) (hg : Gl X x := by rfl)
    (hdb : (x == ("__debug__" : Str)) = false := by decide) (he : starEach (e :: es) X.env = (false, eval e X.env) :: starEach es X.env := by rfl) (hpl : (backTo pos (starEach es X.env)).any (·.1) = false := by rfl) :
    PXN X F (.Call (.Name x p) (e :: es) [] pos) (sA fs d) := by
  obtain ⟨f, fd, ps, Fn, hm, kp, b⟩ := cal.ex
  exact (pe_call Fn (hr.mono hk) hg hm kp b .nil pass0 ha hdb he hpl).weak fun σ H Q q => by
    obtain ⟨G, ρ, t, ρ', R, e, q⟩ := q
    unfold sA at e
    split at e
    · rename_i xs ρ1 e1
      split at e
      · rename_i t' e2
        cases e
        refine tXA_bind R e1 fun vs H1 G1 p1 r1 => ?_
        rw [List.append_nil]
        exact ⟨G1, xs, _, p1.rep.sub, r1, e2, fun p H2 G2 E hs hp hg hc => q p H2 G2 (p1.trans (p1.rep.grow (fun a o h => E.k a o h id) E.g hs E.n)) (p1.ext.free hp) hg hc⟩
      · cases e
    · cases e
/-- f(cell, e, ..): the cell may be changed -/
def sR (i : Nat) (fs : Rho → Option (List T × Rho)) (d : T → List T → Option (T × T)) : Rho → Option (T × Rho) := fun ρ => match ρ[i]? with
  | some (Sl.cl _ _) => (match fs ρ with
    | some (xs, ρ1) => (match ρ1[i]? with
      | some (Sl.cl b c) => (match d c xs with
        | some (t, c') => some (t, ρ1.set i (.cl b c'))
        | none => none)
      | _ => none)
    | none => none)
  | _ => none
theorem sR_ok {i : Nat} {d : T → List T → Option (T × T)} {σ : L2.St} {H : Hp} {Q : VK} (h : tX K F (sR i fs d) σ H Q) : tCall (spR K d) [] E0 (tCons (tVar i) (tXA K F fs)) σ H Q := by
  obtain ⟨G, ρ, t, ρ', R, e, q⟩ := h
  unfold sR at e
  split at e
  · rename_i b0 c0 e0
    split at e
    · rename_i xs ρ1 e1
      split at e
      · rename_i b c e2
        split at e
        · rename_i t' c' e3
          cases e
          obtain ⟨p, s0, _⟩ := R.cl i b0 c0 e0
          refine ⟨_, s0, tXA_bind R e1 fun vs H1 G1 p1 r1 => ?_⟩
          obtain ⟨p', s1, g1, c1, _⟩ := p1.rep.cl i b c e2
          rw [s0] at s1
          cases s1
          rw [List.append_nil]
          refine ⟨G1, p, vs, c, xs, _, c', rfl, p1.rep.sub, g1, c1, r1, e3, fun w H2 G2 E hs hg hc z => q w H2 G2 (p1.trans (p1.rep.mut e2 s0 E hs hg hc)) z⟩
        · cases e
      · cases e
    · cases e
  · cases e
theorem px_callR {d : T → List T → Option (T × T)} (i : Nat) {y : Str} {py : Pos} (cal : Cal X.prog X.w X.K X.mg X.base k x (spR X.K d)) (hr : Room j X.A) (hk : k ≤ j) (ha : PXA X F es fs) (hg : Gl X x := by rfl) (hN : X.N[i]? = some y := by rfl) (hv : Vis X.env.scope y := by first | exact Or.inl rfl | exact Or.inr (Or.inl rfl) | exact Or.inr (Or.inr rfl))
    (hd : (y == ("__debug__" : Str)) = false := by decide) (hcd : (y == ("__classdict__" : Str)) = false := by decide) (hdb : (x == ("__debug__" : Str)) = false := by decide) (he : starEach (.Name y py :: es) X.env = (false, eval (.Name y py) X.env) :: starEach es X.env := by rfl) (hpl : (backTo pos (starEach es X.env)).any (·.1) = false := by rfl) :
    PX X F (.Call (.Name x p) (.Name y py :: es) [] pos) (sR i fs d) := by
  obtain ⟨f, fd, ps, Fn, hm, kp, b⟩ := cal.ex
  exact (pe_call Fn (hr.mono hk) hg hm kp b .nil pass0 (pa_cons (pv i hN hv hd hcd) ha he) hdb he hpl).weak fun _ _ _ q => sR_ok q
/-- f(new thing, e, ..) -/
def sRN (fe : Rho → Option (T × Rho)) (fs : Rho → Option (List T × Rho)) (d : T → List T → Option (T × T)) : Rho → Option (T × Rho) := fun ρ => match fe ρ with
  | some (c, ρ1) => (match fs ρ1 with
    | some (xs, ρ2) => (match d c xs with
      | some (t, _) => some (t, ρ2)
      | none => none)
    | none => none)
  | none => none
theorem px_callRN {d : T → List T → Option (T × T)} {fe : Rho → Option (T × Rho)} (cal : Cal X.prog X.w X.K X.mg X.base k x (spR X.K d)) (hr : Room j X.A) (hk : k ≤ j) (h0 : PXN X F e fe) (ha : PXA X F es fs) (hg : Gl X x := by rfl)
    (hdb : (x == ("__debug__" : Str)) = false := by decide) (he : starEach (e :: es) X.env = (false, eval e X.env) :: starEach es X.env := by rfl) (hpl : (backTo pos (starEach es X.env)).any (·.1) = false := by rfl) :
    PX X F (.Call (.Name x p) (e :: es) [] pos) (sRN fe fs d) := by
  obtain ⟨f, fd, ps, Fn, hm, kp, b⟩ := cal.ex
  refine (pe_call Fn (hr.mono hk) hg hm kp b .nil pass0 (pa_cons h0 ha he) hdb he hpl).weak fun σ H Q h => ?_
  obtain ⟨G, ρ, t, ρ', R, e, q⟩ := h
  unfold sRN at e
  split at e
  · rename_i c ρ1 e1
    split at e
    · rename_i xs ρ2 e2
      split at e
      · rename_i t' c' e3
        cases e
        refine ⟨G, ρ, c, ρ1, R, e1, fun p H1 G1 p1 hp hg hc => ?_⟩
        refine tXA_bind p1.rep e2 fun vs H2 G2 p2 r2 => ?_
        show spR X.K d ((V.ref p :: vs) ++ []) H2 Q E0
        rw [List.append_nil]
        have nc : ¬ IsCell σ ρ1 p := fun z => R.not_cell hp (p1.cs p z)
        obtain ⟨o, ho⟩ := hc.some_
        have g2 : G2 p = none := by
          cases y : G2 p with
          | none => rfl
          | some o2 =>
            rcases p2.ext.n p o2 y with z | z
            · rw [hg] at z; cases z
            · rw [ho] at z; cases z
        have nc2 : ¬ IsCell σ ρ' p := fun z => nc (p2.cs p z)
        refine ⟨G2, p, vs, c, xs, _, c', rfl, p2.rep.sub, g2, hc.mono p2.le (fun o y => p2.ext.k p o y nc), r2, e3, fun w H3 G3 E hs hg3 hc3 z => ?_⟩
        have st12 := p1.trans p2
        refine q w H3 G3 ⟨⟨st12.ext.g.trans E.g, fun a o y n => ?_, fun a o y => ?_, fun a o y => ?_⟩, ?_, st12.cs⟩ z
        · have na : a ≠ p := fun z => by subst z; rw [hp] at y; cases y
          exact E.k a o (st12.ext.k a o y n) na
        · obtain ⟨o2, y2⟩ := st12.ext.d a o y
          exact E.d a o2 y2
        · rcases E.n a o y with z | z
          · exact st12.ext.n a o z
          · exact .inr (st12.ext.free z)
        · have R2 := p2.rep
          have hp0 : F.H0 p = none := by
            cases y : F.H0 p with
            | none => rfl
            | some o2 =>
              obtain ⟨o3, y3⟩ := R.dom p o2 y
              rw [hp] at y3; cases y3
          refine ⟨hs, fun i u y => ?_, fun i b u y => ?_, R2.ap, fun a o y n => ?_, R2.g0.trans E.g, fun a o y => ?_, fun a o y => ?_, R2.len⟩
          · obtain ⟨v, y1, y2⟩ := R2.im i u y
            exact ⟨v, y1, y2.mono E.g⟩
          · obtain ⟨r, y1, y2, y3, y4, y5⟩ := R2.cl i b u y
            have nr : r ≠ p := fun z => by subst z; exact nc2 ⟨i, b, u, y, y1⟩
            refine ⟨r, y1, ?_, y3.mono E.g fun o z => E.k r o z nr, y4, y5⟩
            cases y6 : G3 r with
            | none => rfl
            | some o2 =>
              rcases E.n r o2 y6 with z | z
              · rw [y2] at z; cases z
              · obtain ⟨o3, y7⟩ := y3.some_
                rw [z] at y7; cases y7
          · exact E.k a o (R2.keep a o y n) fun z => by subst z; rw [hp0] at y; cases y
          · rcases E.n a o y with z | z
            · exact R2.new a o z
            · cases y1 : F.H0 a with
              | none => exact .inr rfl
              | some o2 =>
                obtain ⟨o3, y2⟩ := R2.dom a o2 y1
                rw [z] at y2; cases y2
          · obtain ⟨o2, y2⟩ := R2.dom a o y
            exact E.d a o2 y2
      · cases e
    · cases e
  · cases e
/-! ### attributes, methods -/
theorem look_of {K : PySem.W.Frag} {G : Hp} {f : Str} : ∀ {fvs : List (Str × V)} {fts : List (Str × T)}, fvs.map (·.1) = fts.map (·.1) → IsTs K G (fvs.map (·.2)) (fts.map (·.2)) → (fts.lookup f = none → fvs.lookup f = none) ∧ ∀ t, fts.lookup f = some t → ∃ v, fvs.lookup f = some v ∧ IsT K G v t
  | [], [], _, _ => ⟨fun _ => rfl, fun _ h => by cases h⟩
  | [], _ :: _, e, _ => by cases e
  | _ :: _, [], e, _ => by cases e
  | (a, v) :: fvs, (b, t) :: fts, e, r => by
    have e1 : a = b := (List.cons.inj e).1
    have e2 : fvs.map (·.1) = fts.map (·.1) := (List.cons.inj e).2
    subst e1
    cases r with
    | cons q r =>
      obtain ⟨ih1, ih2⟩ := look_of e2 r
      refine ⟨fun h => ?_, fun u h => ?_⟩
      · rw [List.lookup_cons] at h ⊢
        cases z : (f == a) with
        | true => rw [z] at h; cases h
        | false => rw [z] at h; exact ih1 h
      · rw [List.lookup_cons] at h ⊢
        cases z : (f == a) with
        | true => rw [z] at h; cases h; exact ⟨v, rfl, q⟩
        | false => rw [z] at h; exact ih2 u h
/-- a class's facts for an attribute -/
structure Att (K : PySem.W.Frag) (c f : Str) : Prop where
  cl : Cls K (He.ga K c)
  no : NoAttr K (He.ga K c) f
def fld (c f : Str) : T → Option T := fun t => match t with
  | .obj c' fts => if c' = c then fts.lookup f else none
  | _ => none
theorem px_fld {f : Str} (c : Str) (at_ : Att X.K c f) (he : PX X F e fo) (hb : attributeBase e f X.env (eval e X.env) = eval e X.env := by rfl) : PX X F (.Attribute e f pos) (s1 fo (fld c f)) := (pe_fld he hb).weak fun σ H Q h => by
  obtain ⟨G, ρ, t, ρ', R, e, q⟩ := h
  unfold s1 at e
  split at e
  · rename_i y ρ1 e1
    split at e
    · rename_i t' e2
      cases e
      refine tX_bind R e1 fun v H1 G1 p1 q1 => ?_
      unfold fld at e2
      split at e2
      · rename_i c' fts
        split at e2
        · rename_i ec
          subst ec
          cases q1 with
          | obj q1 k1 r1 =>
            obtain ⟨w, l, z⟩ := (look_of k1 r1).2 _ e2
            exact ⟨_, _, _, _, w, rfl, p1.rep.sub _ _ q1, at_.cl, at_.no, l, q w H1 G1 p1 z⟩
        · cases e2
      · cases e2
    · cases e
  · cases e
/-- .. of a cell -/
def fldC (i : Nat) (c f : Str) : Rho → Option (T × Rho) := fun ρ => match ρ[i]? with
  | some (Sl.cl _ t) => (match fld c f t with
    | some u => some (u, ρ)
    | none => none)
  | _ => none
theorem px_fldC {f y : Str} {py : Pos} (i : Nat) (c : Str) (at_ : Att X.K c f) (hN : X.N[i]? = some y := by rfl) (hv : Vis X.env.scope y := by first | exact Or.inl rfl | exact Or.inr (Or.inl rfl) | exact Or.inr (Or.inr rfl)) (hd : (y == ("__debug__" : Str)) = false := by decide) (hcd : (y == ("__classdict__" : Str)) = false := by decide)
    (hb : attributeBase (.Name y py) f X.env (eval (.Name y py) X.env) = eval (.Name y py) X.env := by rfl) : PX X F (.Attribute (.Name y py) f pos) (fldC i c f) := (pe_fld (pv i hN hv hd hcd) hb).weak fun σ H Q h => by
  obtain ⟨G, ρ, t, ρ', R, e, q⟩ := h
  unfold fldC at e
  split at e
  · rename_i b t' e1
    split at e
    · rename_i u e2
      cases e
      obtain ⟨p, s, g, cc, _⟩ := R.cl i b t' e1
      unfold fld at e2
      split at e2
      · rename_i c' fts
        split at e2
        · rename_i ec
          subst ec
          obtain ⟨dx, fvs, ho, k1, r1⟩ := cc
          obtain ⟨w, l, z⟩ := (look_of k1 r1).2 _ e2
          exact ⟨_, s, _, _, _, _, w, rfl, ho, at_.cl, at_.no, l, q w H G (.refl R) z⟩
        · cases e2
      · cases e2
    · cases e
  · cases e
/-- o.m(..) -/
def sM (c m : Str) (fo : Rho → Option (T × Rho)) (fs : Rho → Option (List T × Rho)) (d : List T → Option T) : Rho → Option (T × Rho) := fun ρ => match fo ρ with
  | some (.obj c' fts, ρ1) => if c' = c ∧ fts.lookup m = none then (match fs ρ1 with
      | some (xs, ρ2) => (match d (.obj c' fts :: xs) with
        | some t => some (t, ρ2)
        | none => none)
      | none => none) else none
  | _ => none
theorem sM_ok {d : List T → Option T} {σ : L2.St} {H : Hp} {Q : VK} (h : tX K F (sM c m fo fs d) σ H Q) : tMeth (He.ga K c) m (spP K d) [] E0 (tX K F fo) (tXA K F fs) σ H Q := by
  obtain ⟨G, ρ, t, ρ', R, e, q⟩ := h
  unfold sM at e
  split at e
  · rename_i c' fts ρ1 e1
    split at e
    · rename_i hc
      obtain ⟨ec, hl⟩ := hc
      subst ec
      split at e
      · rename_i xs ρ2 e2
        split at e
        · rename_i t' e3
          cases e
          refine tX_bind R e1 fun v H1 G1 p1 q1 => ?_
          have q1' := q1
          cases q1 with
          | obj z1 k1 r1 =>
            refine ⟨_, _, _, rfl, p1.rep.sub _ _ z1, (look_of k1 r1).1 hl, tXA_bind p1.rep e2 fun vs H2 G2 p2 r2 => ?_⟩
            exact spP_ok d p2.rep (.cons (q1'.mono p2.le) r2) e3 fun w H3 G3 p3 q3 => q w H3 G3 ((p1.trans p2).trans p3) q3
        · cases e
      · cases e
    · cases e
  · cases e
theorem px_meth {d : List T → Option T} {pl : Sem Bool} (mt : Mth X.prog X.w X.K X.mg X.base k c m (spP X.K d)) (hr : Room j X.A) (hk : k ≤ j) (he : PX X F o fo) (ha : PXA X F (e :: es) fs)
    (hst : starEach (e :: es) X.env = (false, eval e X.env) :: starEach es X.env := by rfl) (hpl : (backTo pos (starEach es X.env)).any (·.1) = false := by rfl)
    (ht : eval (.Call (.Attribute o m apos) (e :: es) [] pos) X.env = (do
      let ov ← eval o X.env
      standAt apos.atName
      let (f, first) ← holding [ov] (getMethod ov m pl)
      callWith pos f first (backTo pos (starEach (e :: es) X.env)) (backToKw pos (keywordEach [] X.env))) := by rfl) :
    PX X F (.Call (.Attribute o m apos) (e :: es) [] pos) (sM c m fo fs d) := by
  obtain ⟨f, fd, ps, hc, hm, Fn, b⟩ := mt.ex
  exact (pe_meth (pl := pl) he hc hm Fn (hr.mono hk) b .nil pass0 ha hst hpl ht).weak fun _ _ _ q => sM_ok q
theorem px_meth0 {d : List T → Option T} {pl : Sem Bool} (mt : Mth X.prog X.w X.K X.mg X.base k c m (spP X.K d)) (hr : Room j X.A) (hk : k ≤ j) (he : PX X F o fo)
    (ht : eval (.Call (.Attribute o m apos) [] [] pos) X.env = (do
      let ov ← eval o X.env
      standAt apos.atName
      let (f, first) ← holding [ov] (getMethod ov m pl)
      callWith pos f first (backTo pos (starEach [] X.env)) (backToKw pos (keywordEach [] X.env))) := by rfl) :
    PX X F (.Call (.Attribute o m apos) [] [] pos) (sM c m fo anil d) := by
  obtain ⟨f, fd, ps, hc, hm, Fn, b⟩ := mt.ex
  refine (pe_meth0 (pl := pl) he hc hm Fn (hr.mono hk) b .nil pass0 ht).weak fun σ H Q q => ?_
  obtain ⟨v, H1⟩ := (⟨σ, H⟩ : L2.St × Hp)
  have z := sM_ok q
  obtain ⟨G, ρ, t, ρ', R, e, q⟩ := q
  unfold sM at e
  split at e
  · rename_i c' fts ρ1 e1
    split at e
    · rename_i hc
      obtain ⟨ec, hl⟩ := hc
      subst ec
      unfold anil at e
      split at e
      · rename_i xs ρ2 e2
        cases e2
        split at e
        · rename_i t' e3
          cases e
          refine tX_bind R e1 fun v H1 G1 p1 q1 => ?_
          have q1' := q1
          cases q1 with
          | obj z1 k1 r1 =>
            refine ⟨_, _, _, rfl, p1.rep.sub _ _ z1, (look_of k1 r1).1 hl, ?_⟩
            exact spP_ok d p1.rep (.cons q1' .nil) e3 fun w H3 G3 p3 q3 => q w H3 G3 (p1.trans p3) q3
        · cases e
      · cases e
    · cases e
  · cases e
/-- a cell's own method, that may change it -/
theorem CellAt.lookN {G H : Hp} {p : Addr} {fts : List (Str × T)} (h : CellAt K G H p (.obj c fts)) (hl : fts.lookup m = none) : ∃ dx fvs, H p = some (.ins (He.ga K c) dx fvs) ∧ fvs.lookup m = none := by
  obtain ⟨dx, fvs, ho, k1, r1⟩ := h
  exact ⟨dx, fvs, ho, (look_of k1 r1).1 hl⟩
def sMR (i : Nat) (c m : Str) (fs : Rho → Option (List T × Rho)) (d : T → List T → Option (T × T)) : Rho → Option (T × Rho) := fun ρ => match ρ[i]? with
  | some (Sl.cl _ (.obj c0 fts)) => if c0 = c ∧ fts.lookup m = none then sR i fs d ρ else none
  | _ => none
theorem px_methR {d : T → List T → Option (T × T)} {pl : Sem Bool} {y : Str} {py : Pos} (i : Nat) (mt : Mth X.prog X.w X.K X.mg X.base k c m (spR X.K d)) (hr : Room j X.A) (hk : k ≤ j) (ha : PXA X F (e :: es) fs) (hN : X.N[i]? = some y := by rfl) (hv : Vis X.env.scope y := by first | exact Or.inl rfl | exact Or.inr (Or.inl rfl) | exact Or.inr (Or.inr rfl))
    (hd : (y == ("__debug__" : Str)) = false := by decide) (hcd : (y == ("__classdict__" : Str)) = false := by decide)
    (hst : starEach (e :: es) X.env = (false, eval e X.env) :: starEach es X.env := by rfl) (hpl : (backTo pos (starEach es X.env)).any (·.1) = false := by rfl)
    (ht : eval (.Call (.Attribute (.Name y py) m apos) (e :: es) [] pos) X.env = (do
      let ov ← eval (.Name y py) X.env
      standAt apos.atName
      let (f, first) ← holding [ov] (getMethod ov m pl)
      callWith pos f first (backTo pos (starEach (e :: es) X.env)) (backToKw pos (keywordEach [] X.env))) := by rfl) :
    PX X F (.Call (.Attribute (.Name y py) m apos) (e :: es) [] pos) (sMR i c m fs d) := by
  obtain ⟨f, fd, ps, hc, hm, Fn, b⟩ := mt.ex
  refine (pe_meth (pl := pl) (pv i hN hv hd hcd) hc hm Fn (hr.mono hk) b .nil pass0 ha hst hpl ht).weak fun σ H Q h => ?_
  obtain ⟨G, ρ, t, ρ', R, e, q⟩ := h
  unfold sMR at e
  split at e
  · rename_i b0 c0 fts e0
    split at e
    · rename_i hcl
      obtain ⟨ec, hl⟩ := hcl
      subst ec
      obtain ⟨p, s0, g0, cc, _⟩ := R.cl i b0 _ e0
      obtain ⟨dx, fvs, ho, hn⟩ := cc.lookN hl
      obtain ⟨w, sw, z⟩ := sR_ok (fs := fs) (d := d) ⟨G, ρ, t, ρ', R, e, q⟩
      rw [s0] at sw
      cases sw
      exact ⟨_, s0, p, dx, fvs, rfl, ho, hn, z⟩
    · cases e
  · cases e
/-! ### self.f = e, within a method that makes self -/
def putT (f : Str) (t : T) : List (Str × T) → List (Str × T)
  | [] => [(f, t)]
  | (g, u) :: r => if g = f then (g, t) :: r else (g, u) :: putT f t r
theorem put_of {K : PySem.W.Frag} {G : Hp} {f : Str} {v : V} {t : T} (q : IsT K G v t) : ∀ {fvs : List (Str × V)} {fts : List (Str × T)}, fvs.map (·.1) = fts.map (·.1) → IsTs K G (fvs.map (·.2)) (fts.map (·.2)) →
    (putF f v fvs).map (·.1) = (putT f t fts).map (·.1) ∧ IsTs K G ((putF f v fvs).map (·.2)) ((putT f t fts).map (·.2))
  | [], [], _, _ => ⟨rfl, .cons q .nil⟩
  | [], _ :: _, e, _ => by cases e
  | _ :: _, [], e, _ => by cases e
  | (a, w) :: fvs, (b, u) :: fts, e, r => by
    have e1 : a = b := (List.cons.inj e).1
    have e2 : fvs.map (·.1) = fts.map (·.1) := (List.cons.inj e).2
    subst e1
    cases r with
    | cons z r =>
      obtain ⟨ih1, ih2⟩ := put_of (f := f) q e2 r
      unfold putF putT
      by_cases h : a = f
      · rw [if_pos h, if_pos h]
        exact ⟨congrArg (a :: ·) e2, .cons q r⟩
      · rw [if_neg h, if_neg h]
        exact ⟨congrArg (a :: ·) ih1, .cons z ih2⟩
theorem len_of {fvs : List (Str × V)} {fts : List (Str × T)} (e : fvs.map (·.1) = fts.map (·.1)) : fvs.length = fts.length := by
  have := congrArg List.length e
  simpa using this
def bput (i : Nat) (c f : Str) (fe : Rho → Option (T × Rho)) : Blk := fun ρ => match ρ[i]? with
  | some (Sl.cl _ _) => (match fe ρ with
    | some (t, ρ1) => (match ρ1[i]? with
      | some (Sl.cl b (.obj c' fts)) => if c' = c ∧ fts.length < 1000 then some (.nx (ρ1.set i (.cl b (.obj c' (putT f t fts))))) else none
      | _ => none)
    | none => none)
  | _ => none
theorem Rep.put {σ : L2.St} {H G : Hp} {ρ : Rho} (R : Rep K F H G σ ρ) {i : Nat} {b : Bool} {t t' : T} {p : Addr} {o : HO} (e : ρ[i]? = some (Sl.cl b t)) (s : σ[i]? = some (some (V.ref p))) (hc : CellAt K G (upd H p o) p t') : Stp K F σ H G ρ (upd H p o) G (ρ.set i (.cl b t')) := by
  obtain ⟨p', e1, g, c, _⟩ := R.cl i b t e
  rw [s] at e1; cases e1
  refine R.mut e s ⟨Le.refl _, fun a x h n => by rw [upd_ne n]; exact h, fun a x h => ?_, fun a x h => .inl h⟩ (fun a x h => ?_) g hc
  · by_cases z : a = p
    · exact ⟨o, by rw [z, upd_same]⟩
    · exact ⟨x, by rw [upd_ne z]; exact h⟩
  · rw [upd_ne (fun z => by subst z; rw [g] at h; cases h)]
    exact R.sub a x h
theorem pxs_put {value : Expr} {fv : Rho → Option (T × Rho)} {f y : Str} {py pos' : Pos} (i : Nat) (c : Str) (at_ : Att X.K c f) (hv : PX X F value fv) (hN : X.N[i]? = some y := by rfl) (hvi : Vis X.env.scope y := by first | exact Or.inl rfl | exact Or.inr (Or.inl rfl) | exact Or.inr (Or.inr rfl))
    (hd : (y == ("__debug__" : Str)) = false := by decide) (hcd : (y == ("__classdict__" : Str)) = false := by decide) (hs : swapsWith value (some (.Attribute (.Name y py) f pos')) pos.line X.env = pure false := by rfl) :
    PXS X F (.Assign [.Attribute (.Name y py) f pos'] value pos) (bput i c f fv) := (ps_fld (pv i hN hvi hd hcd) hv hs).weak fun D σ H h => by
  obtain ⟨G, ρ, o, R, e, s⟩ := h
  unfold bput at e
  split at e
  · split at e
    · rename_i t ρ1 e1
      split at e
      · rename_i b c' fts e2
        split at e
        · rename_i hc
          obtain ⟨ec, hl⟩ := hc
          subst ec
          cases e
          refine tX_bind R e1 fun v H1 G1 p1 q1 => ?_
          obtain ⟨p, s0, g1, cc, _⟩ := p1.rep.cl i b _ e2
          have cc' := cc
          obtain ⟨dx, fvs, ho, k1, r1⟩ := cc
          refine ⟨_, s0, p, _, dx, fvs, rfl, ho, at_.cl, at_.no, by rw [len_of k1]; exact hl, ?_⟩
          obtain ⟨k2, r2⟩ := put_of (f := f) q1 k1 r1
          have st := p1.rep.put (t' := .obj c' (putT f t fts)) e2 s0 ⟨dx, _, upd_same, k2, r2⟩
          exact s σ _ _ st.rep (p1.le.trans st.le)
        · cases e
      · cases e
    · cases e
  · cases e
/-! ### C(..) -/
def mk (c : Str) (fs : Rho → Option (List T × Rho)) (d : T → List T → Option (T × T)) : Rho → Option (T × Rho) := fun ρ => match fs ρ with
  | some (xs, ρ1) => (match d (.obj c []) xs with
    | some (.non, t) => some (t, ρ1)
    | _ => none)
  | none => none
theorem pxn_mk {d : T → List T → Option (T × T)} (mkr : Mkr X.prog X.w X.K X.mg X.base k c (spR X.K d)) (hr : Room j X.A) (hk : k + 1 ≤ j) (ha : PXA X F (e :: es) fs) (hg : Gl X c := by rfl)
    (hdb : (c == ("__debug__" : Str)) = false := by decide) (he : starEach (e :: es) X.env = (false, eval e X.env) :: starEach es X.env := by rfl) (hpl : (backTo pos (starEach es X.env)).any (·.1) = false := by rfl) :
    PXN X F (.Call (.Name c p) (e :: es) [] pos) (mk c fs d) := by
  obtain ⟨f, fd, ps, M, hm, Fn, b⟩ := mkr.ex
  refine (pe_make M Fn (hr.mono hk) hg hm b .nil pass0 ha hdb he hpl).weak fun σ H Q h => ?_
  obtain ⟨G, ρ, t, ρ', R, e, q⟩ := h
  unfold mk at e
  split at e
  · rename_i xs ρ1 e1
    split at e
    · rename_i t' e2
      cases e
      refine tXA_bind R e1 fun vs H1 G1 p1 r1 x dx hx hdx ndx => ?_
      have le1 : Le H1 (upd H1 dx (.own x)) := upd_le hdx
      have hx2 : (upd H1 dx (.own x)) x = none := by rw [upd_ne (Ne.symm ndx)]; exact hx
      have le2 : Le H1 (upd (upd H1 dx (.own x)) x (.ins (He.ga X.K c) dx [])) := le1.trans (upd_le hx2)
      have hgx : G1 x = none := p1.rep.sub.none_ hx
      rw [List.append_nil]
      refine ⟨G1, x, vs, .obj c [], xs, .non, _, rfl, p1.rep.sub.trans le2, hgx, ⟨dx, [], upd_same, rfl, .nil⟩, r1, e2, fun w H2 G2 E hs hg hc z => ?_⟩
      cases z
      refine ⟨rfl, ?_⟩
      have st := p1.rep.grow (H' := H2) (G' := G2) (fun a o h => E.k a o (le2 a o h) fun z => by subst z; rw [hx] at h; cases h) E.g hs (fun a o h => by
        rcases E.n a o h with z | z
        · exact .inl z
        · refine .inr ?_
          cases y : H1 a with
          | none => rfl
          | some u => rw [le2 a u y] at z; cases z)
      refine q x H2 G2 (p1.trans st) ?_ hg hc
      exact p1.ext.free hx
    · cases e
  · cases e
/-! ### while -/
def wloop (ft : Rho → Option (Bool × Rho)) (f : Blk) : Nat → Blk
  | 0, _ => none
  | n + 1, ρ => match ft ρ with
    | some (true, ρ1) => (match f ρ1 with
      | some (.nx ρ2) => wloop ft f n ρ2
      | some (.ct ρ2) => wloop ft f n ρ2
      | some (.bk ρ2) => some (.nx ρ2)
      | some (.rt v ρ2) => some (.rt v ρ2)
      | some (.rn v ρ2) => some (.rn v ρ2)
      | none => none)
    | some (false, ρ1) => some (.nx ρ1)
    | none => none
theorem pxs_while {body : List Stmt} {ft : Rho → Option (Bool × Rho)} {f : Blk} (n : Nat) (hp : PassesOwn (model X.prog X.w) X.A X.env X.xe) (hc : PXT X F e ft) (hb : PXB X F body f) : PXS X F (.While e body [] pos) (wloop ft f n) := (ps_while hp hc hb).weak fun D σ H h => by
  obtain ⟨G, ρ, o, R, e, s⟩ := h
  refine ⟨fun m σ' H' => ∃ G' ρ', Rep X.K F H' G' σ' ρ' ∧ Le G G' ∧ wloop ft f m ρ' = some o, ⟨n, G, ρ, R, Le.refl _, e⟩, ?_⟩
  rintro m σ1 H1 ⟨G1, ρ1, R1, l1, e1⟩
  cases m with
  | zero => cases e1
  | succ m =>
    unfold wloop at e1
    split at e1
    · rename_i ρ2 e2
      refine tXT_bind R1 e2 fun H2 G2 p2 => ?_
      rw [if_pos rfl]
      refine ⟨fun σ' H' => ∃ G' ρ', Rep X.K F H' G' σ' ρ' ∧ Le G G' ∧ wloop ft f m ρ' = some o, fun σ' H' z => ⟨m, Nat.lt_succ_self _, z⟩, ?_⟩
      split at e1
      · rename_i ρ3 e3
        exact ⟨G2, ρ2, _, p2.rep, e3, fun σ' H' G' R' l => ⟨G', ρ3, R', (l1.trans p2.le).trans l, e1⟩⟩
      · rename_i ρ3 e3
        exact ⟨G2, ρ2, _, p2.rep, e3, fun σ' H' G' R' l => ⟨G', ρ3, R', (l1.trans p2.le).trans l, e1⟩⟩
      · rename_i ρ3 e3
        cases e1
        exact ⟨G2, ρ2, _, p2.rep, e3, fun σ' H' G' R' l => s σ' H' G' R' ((l1.trans p2.le).trans l)⟩
      · rename_i v ρ3 e3
        cases e1
        exact ⟨G2, ρ2, _, p2.rep, e3, fun w σ' H' G' R' l q => s w σ' H' G' R' ((l1.trans p2.le).trans l) q⟩
      · rename_i v ρ3 e3
        cases e1
        exact ⟨G2, ρ2, _, p2.rep, e3, fun w σ' H' G' R' l q1 q2 q3 q4 => s w σ' H' G' R' ((l1.trans p2.le).trans l) q1 q2 q3 q4⟩
      · cases e1
    · rename_i ρ2 e2
      cases e1
      refine tXT_bind R1 e2 fun H2 G2 p2 => ?_
      rw [if_neg (by decide)]
      exact s σ1 H2 G2 p2.rep (l1.trans p2.le)
    · cases e1
end
end PX
/-! PX5 -/
set_option autoImplicit false
set_option maxRecDepth 100000
set_option linter.all false
namespace PX
open PySem L2

section
variable {K : PySem.W.Frag}
/-! ### two ints -/
def ii (h : Int → Int → T) : T → T → Option T := fun x y => match x, y with
  | .int i, .int j => some (h i j)
  | _, _ => none
def iic (c : Int → Int → Bool) (h : Int → Int → T) : T → T → Option T := fun x y => match x, y with
  | .int i, .int j => if c i j then some (h i j) else none
  | _, _ => none
theorem os_ii {g : Int → Int → V} {h : Int → Int → T} (hg : ∀ i j G, IsT K G (g i j) (h i j)) : OpS K (rI0 g) (ii h) := by
  intro F σ H G ρ v1 v2 x y t Q R q1 q2 e k
  unfold ii at e
  split at e
  · cases e; cases q1; cases q2
    exact ⟨_, _, rfl, rfl, k _ H G (.refl R) (hg _ _ _)⟩
  · cases e
theorem os_iic {C : Int → Int → Prop} {c : Int → Int → Bool} {g : Int → Int → V} {h : Int → Int → T} (hc : ∀ i j, c i j = true → C i j) (hg : ∀ i j G, IsT K G (g i j) (h i j)) : OpS K (rI C g) (iic c h) := by
  intro F σ H G ρ v1 v2 x y t Q R q1 q2 e k
  unfold iic at e
  split at e
  · split at e
    · rename_i hb
      cases e; cases q1; cases q2
      exact ⟨_, _, rfl, rfl, hc _ _ hb, k _ H G (.refl R) (hg _ _ _)⟩
    · cases e
  · cases e
def oAdd := ii fun i j => .int (i + j)
def oSub := ii fun i j => .int (i - j)
def cMul (i j : Int) : Bool := decide (i.natAbs < 18446744073709551616 ∨ j.natAbs < 18446744073709551616)
def oMul := iic cMul fun i j => .int (i * j)
def cDiv (i j : Int) : Bool := decide (0 < j ∧ j.natAbs < 1073741824)
def oDiv := iic cDiv fun i j => .int (i / j)
def cMod (i j : Int) : Bool := decide (0 < j)
def oMod := iic cMod fun i j => .int (i % j)
def cPow (i j : Int) : Bool := decide (0 ≤ j ∧ j ≤ 1000000 ∧ i.natAbs < 2 ^ 64)
def oPow := iic cPow fun i j => .int (i ^ j.toNat)
def oLt := ii fun i j => .bl (decide (i < j))
def oLe := ii fun i j => .bl (decide (i ≤ j))
def oGt := ii fun i j => .bl (decide (j < i))
def oGe := ii fun i j => .bl (decide (j ≤ i))
theorem s_add : OpS K (rI0 fun i j => .int (i + j)) oAdd := os_ii fun _ _ _ => .int _
theorem s_sub : OpS K (rI0 fun i j => .int (i - j)) oSub := os_ii fun _ _ _ => .int _
theorem c_mul_ok (i j : Int) (h : cMul i j = true) : CMul i j := by
  have h : i.natAbs < 18446744073709551616 ∨ j.natAbs < 18446744073709551616 := of_decide_eq_true h
  rcases h with h | h
  · exact .inl ⟨by omega, by omega⟩
  · exact .inr ⟨by omega, by omega⟩
theorem c_div_ok (i j : Int) (h : cDiv i j = true) : CDiv i j := by
  have h : 0 < j ∧ j.natAbs < 1073741824 := of_decide_eq_true h
  exact ⟨h.1, by omega⟩
theorem s_mul : OpS K (rI CMul fun i j => .int (i * j)) oMul := os_iic c_mul_ok fun _ _ _ => .int _
theorem s_div : OpS K (rI CDiv fun i j => .int (i / j)) oDiv := os_iic c_div_ok fun _ _ _ => .int _
theorem s_mod : OpS K (rI (fun _ j => 0 < j) fun i j => .int (i % j)) oMod := os_iic (fun _ _ h => of_decide_eq_true h) fun _ _ _ => .int _
theorem s_pow : OpS K (rI CPow fun i j => .int (i ^ j.toNat)) oPow := os_iic (fun _ _ h => of_decide_eq_true h) fun _ _ _ => .int _
theorem s_lt : OpS K (rI0 fun i j => .bl (decide (i < j))) oLt := os_ii fun _ _ _ => .bl _
theorem s_le : OpS K (rI0 fun i j => .bl (decide (i ≤ j))) oLe := os_ii fun _ _ _ => .bl _
theorem s_gt : OpS K (rI0 fun i j => .bl (decide (j < i))) oGt := os_ii fun _ _ _ => .bl _
theorem s_ge : OpS K (rI0 fun i j => .bl (decide (j ≤ i))) oGe := os_ii fun _ _ _ => .bl _
def oNeg : T → Option T := fun x => match x with
  | .int i => some (.int (-i))
  | _ => none
theorem s_neg : UnS K (rU fun i => .int (-i)) oNeg := by
  intro F σ H G ρ v1 x t Q R q1 e k
  unfold oNeg at e
  split at e
  · cases e; cases q1
    exact ⟨_, rfl, k _ H G (.refl R) (.int _)⟩
  · cases e
/-! ### texts -/
def ss (h : Str → Str → T) : T → T → Option T := fun x y => match x, y with
  | .str i, .str j => some (h i j)
  | _, _ => none
def oLtS := ss fun i j => .bl (decide (i.cps.toList < j.cps.toList))
def oLeS := ss fun i j => .bl (!decide (j.cps.toList < i.cps.toList))
def oInS := ss fun i j => .bl (!(Builtin.Str.occurrences j i 0 j.length 1).isEmpty)
theorem s_ltS : OpS K (fun x y H Q => ∃ i j, x = .str i ∧ y = .str j ∧ Q (.bl (decide (i.cps.toList < j.cps.toList))) H) oLtS := by
  intro F σ H G ρ v1 v2 x y t Q R q1 q2 e k
  unfold oLtS ss at e
  split at e
  · cases e; cases q1; cases q2
    exact ⟨_, _, rfl, rfl, k _ H G (.refl R) (.bl _)⟩
  · cases e
theorem s_leS : OpS K (fun x y H Q => ∃ i j, x = .str i ∧ y = .str j ∧ Q (.bl (!decide (j.cps.toList < i.cps.toList))) H) oLeS := by
  intro F σ H G ρ v1 v2 x y t Q R q1 q2 e k
  unfold oLeS ss at e
  split at e
  · cases e; cases q1; cases q2
    exact ⟨_, _, rfl, rfl, k _ H G (.refl R) (.bl _)⟩
  · cases e
theorem s_inS : OpS K (fun x y H Q => ∃ i j, x = .str i ∧ y = .str j ∧ Q (.bl (!(Builtin.Str.occurrences j i 0 j.length 1).isEmpty)) H) oInS := by
  intro F σ H G ρ v1 v2 x y t Q R q1 q2 e k
  unfold oInS ss at e
  split at e
  · cases e; cases q1; cases q2
    exact ⟨_, _, rfl, rfl, k _ H G (.refl R) (.bl _)⟩
  · cases e
def oAddS : T → T → Option T := fun x y => match x, y with
  | .str i, .str j => if i.length + j.length ≤ 1000 then some (.str (i ++ j)) else none
  | _, _ => none
theorem s_addS : OpS K (fun x y H Q => ∃ i j, x = .str i ∧ y = .str j ∧ i.length + j.length ≤ sizeLine ∧ Q (.str (i ++ j)) H) oAddS := by
  intro F σ H G ρ v1 v2 x y t Q R q1 q2 e k
  unfold oAddS at e
  split at e
  · split at e
    · rename_i hl
      cases e; cases q1; cases q2
      exact ⟨_, _, rfl, rfl, le_line hl, k _ H G (.refl R) (.str _)⟩
    · cases e
  · cases e
/-! ### flat values -/
def flat : T → Option V
  | .non => some .non
  | .bl b => some (.bl b)
  | .int i => some (.int i)
  | .str x => some (.str x)
  | _ => none
theorem flat_is {G : Hp} {x : T} {w v : V} (h : flat x = some w) (q : IsT K G v x) : v = w := by
  cases x <;> first | (cases h; cases q; rfl) | cases h
theorem flat_V {x : T} {w : V} (h : flat x = some w) : flatV w = true := by
  cases x <;> first | (cases h; rfl) | cases h
theorem flat_scal {x : T} {w : V} (h : flat x = some w) : ∀ {y : T} {u : V}, flat y = some u → scal w u = true ∨ True := fun _ => .inr trivial
def flats : List T → Option (List V)
  | [] => some []
  | x :: r => match flat x, flats r with
    | some w, some ws => some (w :: ws)
    | _, _ => none
theorem flats_is {G : Hp} : ∀ {xs : List T} {ws vs : List V}, flats xs = some ws → IsTs K G vs xs → vs = ws ∧ ws.all flatV = true
  | [], _, _, h, q => by cases h; cases q; exact ⟨rfl, rfl⟩
  | x :: r, ws, vs, h, q => by
    unfold flats at h
    split at h
    · rename_i w ws' h1 h2
      cases h
      cases q with
      | cons a b =>
        obtain ⟨e1, e2⟩ := flats_is h2 b
        rw [flat_is h1 a, e1]
        exact ⟨rfl, by rw [List.all_cons, flat_V h1, e2]; rfl⟩
    · cases h
/-- x in a list, a tuple of flat things -/
def oIn (neg : Bool) : T → T → Option T := fun x y => match flat x, y with
  | some w, .tup ts => (match flats ts with
    | some ws => some (.bl (if neg then !inV w ws else inV w ws))
    | none => none)
  | some w, .lst ts => (match flats ts with
    | some ws => some (.bl (if neg then !inV w ws else inV w ws))
    | none => none)
  | _, _ => none
theorem s_in {neg : Bool} : OpS K (rIn K neg) (oIn neg) := by
  intro F σ H G ρ v1 v2 x y t Q R q1 q2 e k
  unfold oIn at e
  split at e
  · rename_i w ts e1
    split at e
    · rename_i ws e2
      cases e
      cases q2 with
      | tup z r =>
        obtain ⟨h1, h2⟩ := flats_is e2 r
        subst h1
        rw [flat_is e1 q1]
        exact ⟨_, _, rfl, .inr (R.sub.sqT z), flat_V e1, h2, k _ H G (.refl R) (.bl _)⟩
    · cases e
  · rename_i w ts e1
    split at e
    · rename_i ws e2
      cases e
      cases q2 with
      | lst z r =>
        obtain ⟨h1, h2⟩ := flats_is e2 r
        subst h1
        rw [flat_is e1 q1]
        exact ⟨_, _, rfl, .inl (.inl (.inl (R.sub _ _ z))), flat_V e1, h2, k _ H G (.refl R) (.bl _)⟩
    · cases e
  · cases e
/-! ### equality, at any depth -/
mutual
def data : T → Option PyData
  | .non => some .none
  | .bl b => some (.bool b)
  | .int i => some (.int i)
  | .str x => some (.str x)
  | .tup ts => match datas ts with
    | some ds => some (.tuple ds)
    | none => none
  | .lst ts => match datas ts with
    | some ds => some (.list ds)
    | none => none
  | _ => none
def datas : List T → Option (List PyData)
  | [] => some []
  | t :: r => match data t, datas r with
    | some d, some ds => some (d :: ds)
    | _, _ => none
end
mutual
theorem dp_of {G H : Hp} (hs : Le G H) : ∀ {t : T} {v : V} {d : PyData}, IsT K G v t → data t = some d → Dp K H v d
  | .non, _, _, q, e => by cases q; unfold data at e; cases e; exact .non
  | .bl b, _, _, q, e => by cases q; unfold data at e; cases e; exact .bl b
  | .int i, _, _, q, e => by cases q; unfold data at e; cases e; exact .int i
  | .str x, _, _, q, e => by cases q; unfold data at e; cases e; exact .str x
  | .tup ts, _, _, q, e => by
    unfold data at e
    split at e
    · rename_i ds e1
      cases e
      cases q with | tup z r => exact .tup (hs.sqT z) (dps_of hs r e1)
    · cases e
  | .lst ts, _, _, q, e => by
    unfold data at e
    split at e
    · rename_i ds e1
      cases e
      cases q with | lst z r => exact .lst (.inl (.inl (hs _ _ z))) (dps_of hs r e1)
    · cases e
  | .dct _, _, _, _, e => by unfold data at e; cases e
  | .obj _ _, _, _, _, e => by unfold data at e; cases e
  | .scr _, _, _, _, e => by unfold data at e; cases e
  | .raw _, _, _, _, e => by unfold data at e; cases e
theorem dps_of {G H : Hp} (hs : Le G H) : ∀ {ts : List T} {vs : List V} {ds : List PyData}, IsTs K G vs ts → datas ts = some ds → DpAll K H vs ds
  | [], _, _, q, e => by cases q; unfold datas at e; cases e; exact .nil
  | t :: r, _, _, q, e => by
    unfold datas at e
    split at e
    · rename_i d ds e1 e2
      cases e
      cases q with | cons a b => exact .cons (dp_of hs a e1) (dps_of hs b e2)
    · cases e
end
def oEq (neg : Bool) : T → T → Option T := fun x y => match data x, data y with
  | some d, some e => if SeqAt.shaped d && SeqAt.shaped e then some (.bl (if neg then !PyData.eqv d e else PyData.eqv d e)) else none
  | _, _ => none
theorem s_eqD : OpS K (rEqD K) (oEq false) := by
  intro F σ H G ρ v1 v2 x y t Q R q1 q2 e k
  unfold oEq at e
  split at e
  · rename_i d e' h1 h2
    split at e
    · rename_i hs
      obtain ⟨hs1, hs2⟩ := Bool.and_eq_true_iff.mp hs
      cases e
      exact ⟨d, e', dp_of R.sub q1 h1, dp_of R.sub q2 h2, hs1, hs2, k _ H G (.refl R) (.bl _)⟩
    · cases e
  · cases e
theorem s_neD : OpS K (rNeD K) (oEq true) := by
  intro F σ H G ρ v1 v2 x y t Q R q1 q2 e k
  unfold oEq at e
  split at e
  · rename_i d e' h1 h2
    split at e
    · rename_i hs
      obtain ⟨hs1, hs2⟩ := Bool.and_eq_true_iff.mp hs
      cases e
      exact ⟨d, e', dp_of R.sub q1 h1, dp_of R.sub q2 h2, hs1, hs2, k _ H G (.refl R) (.bl _)⟩
    · cases e
  · cases e
/-- is None -/
def isN : T → Bool
  | .non => true
  | _ => false
def rawN : T → Bool
  | .raw _ => true
  | _ => false
def oIsN (neg : Bool) : T → T → Option T := fun x y => match y with
  | .non => if rawN x then none else some (.bl (if neg then !isN x else isN x))
  | _ => none
theorem isN_is {G : Hp} {v : V} {x : T} (q : IsT K G v x) (h : rawN x = false) : decide (v = .non) = isN x := by
  cases q <;> first | rfl | cases h
theorem s_isN : OpS K (fun x y H Q => y = .non ∧ Q (.bl (decide (x = .non))) H) (oIsN false) := by
  intro F σ H G ρ v1 v2 x y t Q R q1 q2 e k
  unfold oIsN at e
  split at e
  · split at e
    · cases e
    · rename_i hr
      cases e; cases q2
      refine ⟨rfl, ?_⟩
      rw [isN_is q1 (by simpa using hr)]
      exact k _ H G (.refl R) (.bl _)
  · cases e
theorem s_notN : OpS K (fun x y H Q => y = .non ∧ Q (.bl (!decide (x = .non))) H) (oIsN true) := by
  intro F σ H G ρ v1 v2 x y t Q R q1 q2 e k
  unfold oIsN at e
  split at e
  · split at e
    · cases e
    · rename_i hr
      cases e; cases q2
      refine ⟨rfl, ?_⟩
      rw [isN_is q1 (by simpa using hr)]
      exact k _ H G (.refl R) (.bl _)
  · cases e
/-! ### items, slices -/
def oIx : T → T → Option T := fun x y => match x, y with
  | .tup ts, .int i => atI ts i
  | .lst ts, .int i => atI ts i
  | .str z, .int i => if z.length ≤ 1000 then (match atI z.cps.toList i with
    | some c => some (.str ⟨#[c]⟩)
    | none => none) else none
  | .scr ns, .int i => (match atI ns i with
    | some n => some (.int n)
    | none => none)
  | _, _ => none
theorem atI_ts {G : Hp} {vs : List V} {ts : List T} {i : Int} {t : T} (r : IsTs K G vs ts) (e : atI ts i = some t) : ∃ v, atI vs i = some v ∧ IsT K G v t := by
  unfold atI at e ⊢
  rw [r.length]
  cases h : ixN ts.length i with
  | none => rw [h] at e; cases e
  | some j =>
    rw [h] at e
    exact r.get e
theorem atI_ints {ns : List Int} {i n : Int} (e : atI ns i = some n) : atI (ns.map V.int) i = some (.int n) := by
  unfold atI at e ⊢
  rw [List.length_map]
  cases h : ixN ns.length i with
  | none => rw [h] at e; cases e
  | some j =>
    rw [h] at e
    show (ns.map V.int)[j]? = _
    rw [List.getElem?_map, show ns[j]? = some n from e]
    rfl
theorem s_ix : OpS K (rIx K) oIx := by
  intro F σ H G ρ v1 v2 x y t Q R q1 q2 e k
  unfold oIx at e
  split at e
  · cases q1 with
    | tup z r =>
      cases q2
      obtain ⟨v, h, q⟩ := atI_ts r e
      exact .inr (.inl ⟨_, _, _, v, rfl, rfl, R.sub.sqT z, h, k _ H G (.refl R) q⟩)
  · cases q1 with
    | lst z r =>
      cases q2
      obtain ⟨v, h, q⟩ := atI_ts r e
      exact .inl ⟨_, _, _, v, rfl, rfl, .inl (.inl (R.sub _ _ z)), h, k _ H G (.refl R) q⟩
  · split at e
    · rename_i hl
      split at e
      · rename_i c h
        cases e; cases q1; cases q2
        exact .inr (.inr ⟨_, _, c, rfl, rfl, le_line hl, h, k _ H G (.refl R) (.str _)⟩)
      · cases e
    · cases e
  · split at e
    · rename_i n h
      cases e
      cases q1 with
      | scr z =>
        cases q2
        exact .inl ⟨_, _, _, _, rfl, rfl, R.sub.sqL z, atI_ints h, k _ H G (.refl R) (.int _)⟩
    · cases e
  · cases e
variable {X : Cx} {F : Fr} {pos p2 : Pos} {e a b : Expr} {fa fb : Rho → Option (T × Rho)}
theorem px_ix (ha : PX X F a fa) (hb : PX X F b fb) (hs : PlainIx b := by exact fun _ _ => rfl) : PX X F (.Subscript a b pos) (s2 fa fb oIx) := (pe_ix ix_seq ha hb hs).weak fun _ _ _ h => tOp_s2 s_ix h
/-- slices -/
def tXO (K : PySem.W.Frag) (F : Fr) (f : Rho → Option (Option Int × Rho)) : TO := fun σ H Q => ∃ G ρ o ρ', Rep K F H G σ ρ ∧ f ρ = some (o, ρ') ∧ ∀ H' G', Stp K F σ H G ρ H' G' ρ' → Q o H'
abbrev PXO (X : Cx) (F : Fr) (e : Option Expr) (f : Rho → Option (Option Int × Rho)) : Prop := PO X e (tXO X.K F f)
theorem _root_.L2.PO.weak {X : Cx} {e : Option Expr} {t t' : TO} (h : PO X e t) (w : ∀ σ H Q, t' σ H Q → t σ H Q) : PO X e t' := ⟨fun pins s σ H Q I q => h.run pins s σ H Q I (w σ H Q q)⟩
def onone : Rho → Option (Option Int × Rho) := fun ρ => some (none, ρ)
def osome (fa : Rho → Option (T × Rho)) : Rho → Option (Option Int × Rho) := fun ρ => match fa ρ with
  | some (.int i, ρ1) => some (some i, ρ1)
  | _ => none
theorem pxo_none : PXO X F none onone := po_none.weak fun σ H Q h => by
  obtain ⟨G, ρ, o, ρ', R, e, k⟩ := h
  cases e
  exact k H G (.refl R)
theorem pxo_some (ha : PX X F a fa) : PXO X F (some a) (osome fa) := (po_some ha).weak fun σ H Q h => by
  obtain ⟨G, ρ, o, ρ', R, e, k⟩ := h
  unfold osome at e
  split at e
  · rename_i i ρ1 e1
    cases e
    exact tX_bind R e1 fun v H1 G1 p1 q1 => by cases q1; exact ⟨_, rfl, k H1 G1 p1⟩
  · cases e
def cutT (xs : List T) (lo hi : Option Int) : List T := (xs.drop (HT.sIx xs.length 0 lo)).take (HT.sIx xs.length xs.length hi - HT.sIx xs.length 0 lo)
theorem cut_is {G : Hp} {vs : List V} {ts : List T} (r : IsTs K G vs ts) (lo hi : Option Int) : IsTs K G (cutV vs lo hi) (cutT ts lo hi) := by
  unfold cutV cutT
  rw [r.length]
  exact (r.drop _).take _
theorem cutT_length (xs : List T) (lo hi : Option Int) : (cutT xs lo hi).length ≤ xs.length := by
  unfold cutT
  rw [List.length_take, List.length_drop]
  omega
def oSl (x : T) (lo hi : Option Int) : Option T := match x with
  | .tup ts => some (.tup (cutT ts lo hi))
  | .lst ts => some (.lst (cutT ts lo hi))
  | .scr ns => some (.lst (cutT (ns.map T.int) lo hi))
  | .str z => if z.length ≤ 1000 then some (.str (cutS z lo hi)) else none
  | _ => none
def sl (fa : Rho → Option (T × Rho)) (fl fh : Rho → Option (Option Int × Rho)) : Rho → Option (T × Rho) := fun ρ => match fa ρ with
  | some (x, ρ1) => (match fl ρ1 with
    | some (lo, ρ2) => (match fh ρ2 with
      | some (hi, ρ3) => (match oSl x lo hi with
        | some t => some (t, ρ3)
        | none => none)
      | none => none)
    | none => none)
  | none => none
theorem px_sl {lo hi : Option Expr} {fl fh : Rho → Option (Option Int × Rho)} (ha : PX X F a fa) (hl : PXO X F lo fl) (hh : PXO X F hi fh) : PX X F (.Subscript a (.Slice lo hi none p2) pos) (sl fa fl fh) :=
  (pe_slice (SlR.or (SlR.or sl_list sl_tupA) sl_str) ha hl hh).weak fun σ H Q h => by
    obtain ⟨G, ρ, t, ρ', R, e, k⟩ := h
    unfold sl at e
    split at e
    · rename_i x ρ1 e1
      split at e
      · rename_i lo' ρ2 e2
        split at e
        · rename_i hi' ρ3 e3
          split at e
          · rename_i t' e4
            cases e
            refine tX_bind R e1 fun v H1 G1 p1 q1 => ⟨G1, ρ1, lo', ρ2, p1.rep, e2, fun H2 G2 p2 => ⟨G2, ρ2, hi', _, p2.rep, e3, fun H3 G3 p3 => ?_⟩⟩
            have pp := (p1.trans p2).trans p3
            have q3 := q1.mono (p2.le.trans p3.le)
            unfold oSl at e4
            split at e4
            · cases e4
              cases q3 with
              | @tup _ vs _ z r =>
                refine .inl (.inr ⟨_, _, rfl, p3.rep.sub.sqT z, fun hc => ?_, fun _ p hp => ?_⟩)
                · refine k _ H3 G3 pp (.tup z ?_)
                  have q := cut_is r lo' hi'
                  unfold cutV at q
                  rw [hc.1, hc.2] at q
                  simpa using q
                · have st := p3.rep.alloc (.tup (cutV vs lo' hi')) hp
                  exact k _ _ _ (pp.trans st) (.tup (.inl (.inl upd_same)) ((cut_is r lo' hi').mono st.le))
            · cases e4
              cases q3 with
              | @lst _ vs _ z r =>
                refine .inl (.inl ⟨_, _, rfl, .inl (.inl (p3.rep.sub _ _ z)), fun p hp => ?_⟩)
                have st := p3.rep.alloc (.lst (cutV vs lo' hi')) hp
                exact k _ _ _ (pp.trans st) (.lst upd_same ((cut_is r lo' hi').mono st.le))
            · rename_i ns
              cases e4
              cases q3 with
              | scr z =>
                refine .inl (.inl ⟨_, _, rfl, p3.rep.sub.sqL z, fun p hp => ?_⟩)
                have st := p3.rep.alloc (.lst (cutV (ns.map V.int) lo' hi')) hp
                exact k _ _ _ (pp.trans st) (.lst upd_same ((cut_is (IsTs.of_ints _) lo' hi').mono st.le))
            · rename_i zz
              split at e4
              · rename_i hz
                cases e4
                cases q3
                exact .inr ⟨zz, rfl, le_line hz, k _ H3 G3 pp (.str _)⟩
              · cases e4
            · cases e4
          · cases e
        · cases e
      · cases e
    · cases e
end
end PX
/-! PX6 -/
set_option autoImplicit false
set_option maxRecDepth 100000
set_option linter.all false
namespace PySem
open Sem (wp)
set_option maxHeartbeats 1000000 in
theorem meets_enumerate_new1B {v : Value} {o : Obj} {H : Heap → Prop} (B : Begins v o H) :
    Meets (Builtin.«enumerate.__new__» ⟨[.type "enumerate", v], []⟩) (fun _ R s => H s.heap ∧
      R (.ok (.ret (.ref (s.heap.push o).objs.size))) { s with heap := (s.heap.push o).push { cls := .type "enumerate", data := .fields #[.none, .bool false, .ref s.heap.objs.size, rawInt 0, .none, .none] } }) :=
  .of_wp fun prog w A R s h => by
    obtain ⟨hp, g, d, tk, os⟩ := s; obtain ⟨h1, h⟩ := h
    have hsub := sub_enumerate
    have q1 : ∀ {A' : Around} {E : Value → Shared → Prop} {Q : Value → Shared → Prop}, Q (.ref hp.objs.size) ⟨hp.push o, g, d, tk, os⟩ → wpAny (model prog w) A' (pyIter v) Q E ⟨hp, g, d, tk, os⟩ :=
      fun q => B.iter prog w _ _ ⟨hp, g, d, tk, os⟩ _ h1 q
    wp_walk using q1
    refine wpAny_stack_any fun st => wpAny_pure ?_
    split
    · rename_i c _ _ _ _ _
      cases (c == Value.type "enumerate")
      · wp_walk using q1
        exact ⟨_, rfl, h⟩
      · wp_walk using q1
        exact ⟨_, rfl, h⟩
    · wp_walk using q1
      exact ⟨_, rfl, h⟩
theorem enum_begins1 {prog : Program} {w : World} {A : Around} {E : Value → Shared → Prop} {s : Shared} {v : Value} {o : Obj} {H : Heap → Prop} {Q : Value → Shared → Prop} (B : Begins v o H) (h1 : H s.heap)
    (h : ∀ h', IsEnum h' (s.heap.objs.size + 1) s.heap.objs.size 0 .none → h'.get? s.heap.objs.size = some o → h'.objs.size = s.heap.objs.size + 2 →
      (∀ b o, s.heap.get? b = some o → h'.get? b = some o) → Q (.ref (s.heap.objs.size + 1)) { s with heap := h' }) :
    wpAny (model prog w) A (call (.type "enumerate") [v]) Q E s := by
  refine callType_new F.called_enumerate (by decide) (F.typeCall_enumerate_1 _) (F.newCall_enumerate_1 _) (fun obj => F.args_object_init_2 obj _) F.entry_enumerate_new
    (meets_enumerate_new1B B) ⟨h1, ?_⟩
  have hz : (s.heap.push o).objs.size = s.heap.objs.size + 1 := Heap.size_push ..
  show _ ∧ _
  rw [hz]
  have he : IsEnum ((s.heap.push o).push { cls := .type "enumerate", data := .fields #[.none, .bool false, .ref s.heap.objs.size, rawInt 0, .none, .none] }) (s.heap.objs.size + 1) s.heap.objs.size 0 .none := by
    have := Heap.get?_push_size (s.heap.push o) (o := { cls := .type "enumerate", data := .fields #[.none, .bool false, .ref s.heap.objs.size, rawInt 0, .none, .none] }) rfl
    rw [hz] at this; exact this
  refine ⟨⟨_, he, rfl⟩, h _ he (Heap.get?_push_of_some _ (Heap.get?_push_size _ B.free)) (by rw [Heap.size_push, hz]) fun b o x => Heap.get?_push_of_some _ (Heap.get?_push_of_some _ x)⟩
end PySem
namespace PX
open PySem L2

/-! ### a source: a list (true), a tuple (false) -/
def SqK (k : Bool) (K : PySem.W.Frag) (H : Hp) (a : Addr) (vs : List V) : Prop := match k with
  | true => SqL K H a vs
  | false => SqT K H a vs
def IterK (k : Bool) (h : Heap) (it a : Addr) (i : Nat) : Prop := match k with
  | true => h.IsListIter it a i
  | false => h.IsTupleIter it a i
def ItemsK (k : Bool) (h : Heap) (a : Addr) (its : Array Value) : Prop := match k with
  | true => h.IsList a its
  | false => h.IsTuple a its
def iterO (k : Bool) (a : Addr) : Obj := match k with
  | true => { cls := .type "list_iterator", data := .fields #[.ref a, .int 0 0] }
  | false => { cls := .type "tuple_iterator", data := .fields #[.ref a, .int 0 0] }
section
variable {X : Cx} {pins : List (Addr × Obj)} {σ : L2.St} {H : Hp} {s : Shared} {a : Addr} {vs : List V} {k : Bool}
theorem srcK (I : Inv X pins σ H s) (h : SqK k X.K H a vs) : ∃ its : List Value, Vals vs its ∧ ItemsK k s.heap a its.toArray := by
  cases k with
  | true => obtain ⟨its, r, p, _⟩ := I.list h; exact ⟨its, r, p.isList⟩
  | false => obtain ⟨its, r, p, _⟩ := I.tuple h; exact ⟨its, r, p⟩
theorem lt_itemsK {h : Heap} {its : Array Value} (p : ItemsK k h a its) : a < h.objs.size := by
  cases k with
  | true => obtain ⟨o, e, _⟩ := p; exact Heap.lt_size e
  | false => obtain ⟨o, e, _⟩ := p; exact Heap.lt_size e
theorem iterK_some {h : Heap} {it : Addr} {i : Nat} (p : IterK k h it a i) : ∃ o, h.get? it = some o ∧ ∀ v, o.data ≠ .cell v := by
  cases k with
  | true => obtain ⟨o, e, _, d⟩ := p; exact ⟨o, e, fun v q => by rw [d] at q; cases q⟩
  | false => obtain ⟨o, e, _, d⟩ := p; exact ⟨o, e, fun v q => by rw [d] at q; cases q⟩
theorem iterK_at {h h' : Heap} {it : Addr} {i : Nat} (p : IterK k h it a i) (q : ∀ o, h.get? it = some o → h'.get? it = some o) : IterK k h' it a i := by
  cases k with
  | true => exact Heap.IsListIter.at p q
  | false => exact Heap.IsTupleIter.at p q
theorem drawsK {A : Around} (hh : A.handled = none) (it : Addr) (hne : a ≠ it) (its : Array Value) : Draws X.prog X.w A it [it, a] its.size (fun i v => its[i]? = some v) (fun i h => IterK k h it a i ∧ ItemsK k h a its) := by
  cases k with
  | true => exact Draws.list hh it a hne its
  | false => exact Draws.tuple hh it a hne its
theorem beginsK (its : Array Value) : Begins (.ref a) (iterO k a) fun h => ItemsK k h a its := by
  cases k with
  | true => exact begins_list a its
  | false => exact begins_tuple a its
theorem iterK_new {h : Heap} {it : Addr} (e : h.get? it = some (iterO k a)) : IterK k h it a 0 := by
  cases k with
  | true => exact ⟨_, e, rfl, rfl⟩
  | false => exact ⟨_, e, rfl, rfl⟩
end
/-! ### enumerate -/
def IteK (k : Bool) (K : PySem.W.Frag) (a : Addr) (vs : List V) : It :=
  ⟨fun i H => SqK k K H a vs ∧ i < vs.length, fun i H v H' => ∃ T x, v = .ref T ∧ H T = none ∧ H' = upd H T (.tup [.int (i : Nat), x]) ∧ vs[i]? = some x, fun i H => SqK k K H a vs ∧ i = vs.length⟩
theorem turn_enumK {P : Program} {w : World} {K : PySem.W.Frag} {elts : List Expr} {kk : Nat} {tpos : Pos} (k : Bool) (a e it : Addr) (vs : List V) :
    Turn P w K (.Tuple elts kk tpos) (IteK k K a vs) [e, it] e (fun i h => (∃ old, IsEnum h e it ((i : Nat) : Int) old) ∧ IterK k h it a i ∧ e ≠ it ∧ a ≠ it ∧ a ≠ e) where
  mem := by simp
  obj := fun i h st b hb => by
    obtain ⟨⟨old, he⟩, hit, _⟩ := st
    have e' : b = e ∨ b = it := by simpa using hb
    rcases e' with z | z
    · rw [z]; exact ⟨_, he, fun v q => nomatch q⟩
    · rw [z]; exact iterK_some hit
  keep := fun i h h' st q => let ⟨⟨old, he⟩, hi, hne, h2, h3⟩ := st; ⟨⟨old, q e (by simp) _ he⟩, iterK_at hi (fun o z => q it (by simp) o z), hne, h2, h3⟩
  item := by
    intro X hP hw hK hc i pins s σ H E I hf st hg
    subst hP hw hK
    obtain ⟨⟨old, he⟩, hit, hne, hai, hae⟩ := st
    obtain ⟨hq, hlt⟩ := hg
    obtain ⟨its, rv, p⟩ := srcK I hq
    have hl := rv.length
    obtain ⟨x, hx⟩ : ∃ x, vs[i]? = some x := ⟨vs[i], List.getElem?_eq_getElem hlt⟩
    obtain ⟨u, hu, ru⟩ := rv.get hx
    have hel : e < s.heap.objs.size := Heap.lt_size he
    have hil : it < s.heap.objs.size := by obtain ⟨o, q, _⟩ := iterK_some hit; exact Heap.lt_size q
    have hA : X.A.in1.handled = none := by have := I.ok.hd hc; exact this
    refine wpAny_pyNext_enum_itemC (drawsK (X := X) (k := k) hA it hai its.toArray) he ⟨hit, p⟩ (by simp; omega) hne (by simp; exact ⟨hne, Ne.symm hae⟩) fun x' h' tk hx' ho hs' hT hsz hk => ?_
    have ex : x' = u := by
      have z : its[i]? = some x' := by simpa using hx'
      rw [hu] at z; exact (Option.some.inj z).symm
    subst ex
    refine ⟨_, rfl, wpAny_letOwnedTupleGo_enum (s := { s with heap := h', toks := tk + 1 }) ho fun h'' he' sb => ?_⟩
    have hT2 : h''.get? s.heap.objs.size = some { cls := .type "tuple", data := .seq #[.int i tk, x'] } := (sb.2 _ (Nat.ne_of_gt hel)).trans hT
    have new : ObjOk X.prog X.w (upd H s.heap.objs.size (.tup [.int (i : Nat), x])) h'' s.heap.objs.size (.tup [.int (i : Nat), x]) :=
      ⟨by show 2 ≤ sizeLine; decide, [.int i tk, x'], .cons ⟨_, rfl⟩ (.cons ru .nil), ⟨_, hT2, rfl, _, rfl⟩⟩
    have I1 : Inv X pins σ (upd H s.heap.objs.size (.tup [.int (i : Nat), x])) { s with heap := h'', toks := tk + 1 } :=
      I.turnedNew (ch := [e, it]) (fun b ob hb q => (sb.2 b (fun z => hb (by simp [z]))).trans (hk b ob (fun z => hb (by simp [z])) (fun z => hb (by simp [z])) q)) hf (Nat.le_refl _) new
    refine ⟨.ref s.heap.objs.size, _, I1, rfl, ⟨_, x, rfl, I.hok.fresh (Nat.le_refl _), rfl, hx⟩, ⟨⟨x', ?_⟩, iterK_at hs'.1 (fun o q => (sb.2 it (Ne.symm hne)).trans q), hne, hai, hae⟩, fun b hb => ?_⟩
    · have e1 : ((i + 1 : Nat) : Int) = (i : Int) + 1 := by omega
      rw [e1]; exact he'
    · have hb' : b < s.heap.objs.size := by
        have e' : b = e ∨ b = it := by simpa using hb
        rcases e' with z | z
        · rw [z]; exact hel
        · rw [z]; exact hil
      rw [upd_ne (Nat.ne_of_lt hb')]
      exact (hf b hb).1
  done := by
    intro X hP hw hK hc i pins s σ H E I hf st hg
    subst hP hw hK
    obtain ⟨⟨old, he⟩, hit, hne, hai, hae⟩ := st
    obtain ⟨hq, hlt⟩ := hg
    obtain ⟨its, rv, p⟩ := srcK I hq
    obtain ⟨f0, f1, f2, f3, f4, f5⟩ := hf it (by simp)
    have hl := rv.length
    have hA : X.A.in1.handled = none := by have := I.ok.hd hc; exact this
    have ei : i = its.toArray.size := by simp; omega
    subst ei
    exact wpAny_pyNext_enum_endD (drawsK (X := X) (k := k) hA it hai its.toArray) he ⟨hit, p⟩ fun h' eb => ⟨rfl, I.turned (t' := s.toks) (fun b o hb q => eb b o hb q) f0 f1 f3 f4 f5⟩
  self := fun A i s Q E st h => let ⟨⟨_, he⟩, _⟩ := st; wpAny_pyIter_enum he h
def iEnumK (k : Bool) (K : PySem.W.Frag) (ta : TA) : TI := fun σ H R => ta σ H fun vs H1 => ∃ a xs, vs = [.ref a] ∧ SqK k K H1 a xs ∧ R (IteK k K a xs) H1
theorem pi_enumK (k : Bool) {X : Cx} {e : Expr} {ta : TA} {p pos tpos : Pos} {elts : List Expr} {kk : Nat} (hg : Gl X "enumerate") (hm : X.mg "enumerate" = none) (ha : PA X [e] ta) (hs : starEach [e] X.env = [(false, eval e X.env)] := by rfl) :
    PI X (.Tuple elts kk tpos) (.Call (.Name "enumerate" p) [e] [] pos) (iEnumK k X.K ta) := by
  refine ⟨fun pins s σ H R I h => ?_⟩
  refine PyProof.Rows.Call_ (ld_blt I hg hm PyProof.Rows.boot_enumerate (PyProof.Rows.callWith_type1 (thn (ha.run pos pins s σ H _ I h) fun us s1 ⟨vs, H1, I1, r1, q1⟩ => ?_) hs rfl))
  obtain ⟨a, xs, ex, hq, q⟩ := q1
  subst ex
  cases r1 with
  | cons r rr =>
    cases rr
    cases r
    obtain ⟨its, rv, p'⟩ := srcK I1 hq
    refine enum_begins1 (beginsK (k := k) (a := a) its.toArray) p' fun h' he hit hsz hk => wpAny_pyIter_enum he ?_
    have I2 : Inv X pins σ H1 { s1 with heap := h' } := I1.kept (t' := s1.toks) hk
    have hlt := lt_itemsK p'
    refine ⟨s1.heap.objs.size + 1, [s1.heap.objs.size + 1, s1.heap.objs.size], _, _, H1, rfl, I2, turn_enumK k a (s1.heap.objs.size + 1) s1.heap.objs.size xs, ⟨⟨.none, he⟩, iterK_new hit, Nat.succ_ne_self _, Nat.ne_of_lt hlt, Nat.ne_of_lt (Nat.lt_succ_of_lt hlt)⟩, fun b hb => ?_, q⟩
    have e' : b = s1.heap.objs.size + 1 ∨ b = s1.heap.objs.size := by simpa using hb
    have hle : s1.heap.objs.size ≤ b := by
      rcases e' with z | z
      · rw [z]; exact Nat.le_add_right _ _
      · rw [z]; exact Nat.le_refl _
    exact I1.fpOk hle (I1.hok.fresh hle)
end PX
/-! PX7 -/
set_option autoImplicit false
set_option maxRecDepth 100000
set_option linter.all false
namespace PX
open PySem L2

/-! ### zip of two, a list or a tuple each -/
def ItzK (k1 k2 : Bool) (K : PySem.W.Frag) (a b : Addr) (xs ys : List V) : It :=
  ⟨fun i H => SqK k1 K H a xs ∧ SqK k2 K H b ys ∧ i < xs.length ∧ i < ys.length,
    fun i H v H' => ∃ T x y, v = .ref T ∧ H T = none ∧ H' = upd H T (.tup [x, y]) ∧ xs[i]? = some x ∧ ys[i]? = some y,
    fun i H => SqK k1 K H a xs ∧ SqK k2 K H b ys ∧ i ≤ xs.length ∧ i ≤ ys.length ∧ (i = xs.length ∨ i = ys.length)⟩
theorem neA {N : Addr} {i j : Nat} (h : i ≠ j) : (N + i : Addr) ≠ N + j := fun e => h (Nat.add_left_cancel e)
theorem neB {N : Addr} {i : Nat} (h : i ≠ 0) : (N + i : Addr) ≠ N := fun e => h (Nat.add_left_cancel (n := N) (m := i) (k := 0) e)
theorem sep_lt {N a b : Addr} (h1 : a < N) (h2 : b < N) : ZipSep2 (N + 4) (N + 2) (N + 3) N (N + 1) [N, a] [N + 1, b] :=
  zip_sep2 (fp1 := [a]) (fp2 := [b]) (by intro c hc; have : c = a := by simpa using hc
                                         subst this; exact h1) (by intro c hc; have : c = b := by simpa using hc
                                                                   subst this; exact h2)
theorem turn_zipK {P : Program} {w : World} {K : PySem.W.Frag} {elts : List Expr} {kk : Nat} {tpos : Pos} (k1 k2 : Bool) (a b N : Addr) (xs ys : List V) (ha : a < N) (hb : b < N) :
    Turn P w K (.Tuple elts kk tpos) (ItzK k1 k2 K a b xs ys) [N + 4, N + 2, N + 3, N, N + 1] (N + 4) (fun i h => IsZip h (N + 4) (N + 2) (N + 3) .none ∧ IsTupOf2 h (N + 2) (.ref N) (.ref (N + 1)) ∧ (∃ x y, IsTupOf2 h (N + 3) x y) ∧ IterK k1 h N a i ∧ IterK k2 h (N + 1) b i) where
  mem := by simp
  obj := fun i h st c hc => by
    obtain ⟨hz, hTI, ⟨x, y, hTO⟩, h1, h2⟩ := st
    have e' : c = N + 4 ∨ c = N + 2 ∨ c = N + 3 ∨ c = N ∨ c = N + 1 := by simpa using hc
    rcases e' with q | q | q | q | q
    · rw [q]; exact ⟨_, hz, fun v q => nomatch q⟩
    · rw [q]; exact ⟨_, hTI, fun v q => nomatch q⟩
    · rw [q]; exact ⟨_, hTO, fun v q => nomatch q⟩
    · rw [q]; exact iterK_some h1
    · rw [q]; exact iterK_some h2
  keep := fun i h h' st k => by
    obtain ⟨hz, hTI, ⟨x, y, hTO⟩, h1, h2⟩ := st
    exact ⟨k _ (by simp) _ hz, k _ (by simp) _ hTI, ⟨x, y, k _ (by simp) _ hTO⟩, iterK_at h1 (fun o q => k N (by simp) o q), iterK_at h2 (fun o q => k (N + 1) (by simp) o q)⟩
  item := by
    intro X hP hw hK hc i pins s σ H E I hf st hg
    subst hP hw hK
    obtain ⟨hz, hTI, ⟨x0, y0, hTO⟩, h1, h2⟩ := st
    obtain ⟨hqx, hqy, l1, l2⟩ := hg
    obtain ⟨its, rv, p⟩ := srcK I hqx
    obtain ⟨its2, rv2, p2⟩ := srcK I hqy
    have z1 := rv.length
    have z2 := rv2.length
    obtain ⟨x, hx⟩ : ∃ x, xs[i]? = some x := ⟨xs[i], List.getElem?_eq_getElem l1⟩
    obtain ⟨y, hy⟩ : ∃ y, ys[i]? = some y := ⟨ys[i], List.getElem?_eq_getElem l2⟩
    obtain ⟨u, hu, ru⟩ := rv.get hx
    obtain ⟨u2, hu2, ru2⟩ := rv2.get hy
    have hzl : N + 4 < s.heap.objs.size := Heap.lt_size hz
    have hA : X.A.in1.handled = none := by have := I.ok.hd hc; exact this
    have D1 := drawsK (X := X) (k := k1) (a := a) hA N (Nat.ne_of_lt ha) its.toArray
    have D2 := drawsK (X := X) (k := k2) (a := b) hA (N + 1) (Nat.ne_of_lt (Nat.lt_succ_of_lt hb)) its2.toArray
    refine wpAny_pyNext_zipD2_item (sep_lt ha hb) D1 D2 hz hTI hTO ⟨h1, p⟩ ⟨h2, p2⟩ (by simp; omega) (by simp; omega) fun x1 x2 h' tk e1 e2 z' TO' s1' s2' hT hsz hk => ?_
    have q1 : x1 = u := by
      have z : its[i]? = some x1 := by simpa using e1
      rw [hu] at z; exact (Option.some.inj z).symm
    have q2 : x2 = u2 := by
      have z : its2[i]? = some x2 := by simpa using e2
      rw [hu2] at z; exact (Option.some.inj z).symm
    subst q1 q2
    refine ⟨_, rfl, wpAny_letOwnedTupleGo_zip (s := { s with heap := h', toks := tk }) z' fun h'' z'' sb => ?_⟩
    have ne4 : ∀ {c : Addr}, c ≠ N + 4 → ∀ o, h'.get? c = some o → h''.get? c = some o := fun n o q => (sb.2 _ n).trans q
    have hT2 : h''.get? s.heap.objs.size = some { cls := .type "tuple", data := .seq #[x1, x2] } := ne4 (Nat.ne_of_gt hzl) _ hT
    have new : ObjOk X.prog X.w (upd H s.heap.objs.size (.tup [x, y])) h'' s.heap.objs.size (.tup [x, y]) :=
      ⟨by show 2 ≤ sizeLine; decide, [x1, x2], .cons ru (.cons ru2 .nil), ⟨_, hT2, rfl, _, rfl⟩⟩
    have I1 : Inv X pins σ (upd H s.heap.objs.size (.tup [x, y])) { s with heap := h'', toks := tk } :=
      I.turnedNew (t' := tk) (ch := [N + 4, N + 2, N + 3, N, N + 1]) (fun c o hb q => ne4 (fun q' => hb (by simp [q'])) _ (hk c o (fun q' => hb (by simp [q'])) (fun q' => hb (by simp [q'])) (fun q' => hb (by simp [q'])) (fun q' => hb (by simp [q'])) q)) hf (Nat.le_refl _) new
    refine ⟨.ref s.heap.objs.size, _, I1, rfl, ⟨_, x, y, rfl, I.hok.fresh (Nat.le_refl _), rfl, hx, hy⟩, ⟨z'', ?_, ⟨x1, x2, ?_⟩, ?_, ?_⟩, fun c hcm => ?_⟩
    · exact ne4 (neA (by decide)) _ (hk _ _ (neA (by decide)) (neA (by decide)) (neB (by decide)) (neA (by decide)) hTI)
    · exact ne4 (neA (by decide)) _ TO'
    · exact iterK_at s1'.1 (fun o q => ne4 (neB (by decide)).symm _ q)
    · exact iterK_at s2'.1 (fun o q => ne4 (neA (by decide)) _ q)
    · have hlt : c < s.heap.objs.size := by
        have e' : c = N + 4 ∨ c = N + 2 ∨ c = N + 3 ∨ c = N ∨ c = N + 1 := by simpa using hcm
        rcases e' with q | q | q | q | q <;> (rw [q]; refine Nat.lt_of_le_of_lt ?_ hzl; first | exact Nat.add_le_add_left (by decide) N | exact Nat.le_add_right N 4)
      rw [upd_ne (Nat.ne_of_lt hlt)]
      exact (hf c hcm).1
  done := by
    intro X hP hw hK hc i pins s σ H E I hf st hg
    subst hP hw hK
    obtain ⟨hz, hTI, ⟨x0, y0, hTO⟩, h1, h2⟩ := st
    obtain ⟨hqx, hqy, l1, l2, hend⟩ := hg
    obtain ⟨its, rv, p⟩ := srcK I hqx
    obtain ⟨its2, rv2, p2⟩ := srcK I hqy
    have z1 := rv.length
    have z2 := rv2.length
    have hA : X.A.in1.handled = none := by have := I.ok.hd hc; exact this
    have D1 := drawsK (X := X) (k := k1) (a := a) hA N (Nat.ne_of_lt ha) its.toArray
    have D2 := drawsK (X := X) (k := k2) (a := b) hA (N + 1) (Nat.ne_of_lt (Nat.lt_succ_of_lt hb)) its2.toArray
    refine wpAny_pyNext_zipD2_end (sep_lt ha hb) D1 D2 hz hTI hTO ⟨h1, p⟩ ⟨h2, p2⟩ (by simp; omega) (by simp; omega) (by simp; omega) fun h' tk hk => ⟨rfl, I.turnedL (t' := tk) (ch := [N + 4, N + 2, N + 3, N, N + 1]) (fun c o hb q =>
      hk c o (fun q' => hb (by simp [q'])) (fun q' => hb (by simp [q'])) (fun q' => hb (by simp [q'])) (fun q' => hb (by simp [q'])) q) hf⟩
  self := fun A i s Q E st h => wpAny_pyIter_zip st.1 h
def iZipK (k1 k2 : Bool) (K : PySem.W.Frag) (ta : TA) : TI := fun σ H R => ta σ H fun vs H1 => ∃ a b xs ys, vs = [.ref a, .ref b] ∧ SqK k1 K H1 a xs ∧ SqK k2 K H1 b ys ∧ R (ItzK k1 k2 K a b xs ys) H1
theorem pi_zipK (k1 k2 : Bool) {X : Cx} {e e2 : Expr} {ta : TA} {p pos tpos : Pos} {elts : List Expr} {kk : Nat} (hg : Gl X "zip") (hm : X.mg "zip" = none) (ha : PA X [e, e2] ta)
    (hs : starEach [e, e2] X.env = (false, eval e X.env) :: starEach [e2] X.env := by rfl) (hpl : (backTo pos (starEach [e2] X.env)).any (·.1) = false := by rfl) :
    PI X (.Tuple elts kk tpos) (.Call (.Name "zip" p) [e, e2] [] pos) (iZipK k1 k2 X.K ta) := by
  refine ⟨fun pins s σ H R I h => ?_⟩
  refine PyProof.Rows.Call_ (ld_blt I hg hm PyProof.Rows.boot_zip (PyProof.Rows.callWith_type1 (thn (ha.run pos pins s σ H _ I h) fun us s1 ⟨vs, H1, I1, r1, q1⟩ => ?_) hs hpl))
  obtain ⟨a, b, xs, ys, ex, hqx, hqy, q⟩ := q1
  subst ex
  cases r1 with
  | cons r rr =>
    cases rr with
    | cons r' rr =>
      cases rr
      cases r
      cases r'
      have fresh5 : ∀ c, c ∈ [s1.heap.objs.size + 4, s1.heap.objs.size + 2, s1.heap.objs.size + 3, s1.heap.objs.size, s1.heap.objs.size + 1] → FpOk X pins H1 c := fun c hcm => by
        have e' : c = s1.heap.objs.size + 4 ∨ c = s1.heap.objs.size + 2 ∨ c = s1.heap.objs.size + 3 ∨ c = s1.heap.objs.size ∨ c = s1.heap.objs.size + 1 := by simpa using hcm
        have hle : s1.heap.objs.size ≤ c := by
          rcases e' with z | z | z | z | z
          · rw [z]; exact Nat.le_add_right _ _
          · rw [z]; exact Nat.le_add_right _ _
          · rw [z]; exact Nat.le_add_right _ _
          · rw [z]; exact Nat.le_refl _
          · rw [z]; exact Nat.le_add_right _ _
        exact I1.fpOk hle (I1.hok.fresh hle)
      obtain ⟨its, rv, p1⟩ := srcK I1 hqx
      obtain ⟨its2, rv2, p2⟩ := srcK I1 hqy
      refine zip_begins2 (beginsK (k := k1) (a := a) its.toArray) (beginsK (k := k2) (a := b) its2.toArray) p1 p2 fun h' hz hTI hTO h1 h2 hsz hk => wpAny_pyIter_zip hz ?_
      have I2 : Inv X pins σ H1 { s1 with heap := h' } := I1.kept (t' := s1.toks) hk
      exact ⟨s1.heap.objs.size + 4, [s1.heap.objs.size + 4, s1.heap.objs.size + 2, s1.heap.objs.size + 3, s1.heap.objs.size, s1.heap.objs.size + 1], _, _, H1, rfl, I2, turn_zipK k1 k2 a b _ xs ys (lt_itemsK p1) (lt_itemsK p2), ⟨hz, hTI, ⟨_, _, hTO⟩, iterK_new h1, iterK_new h2⟩, fresh5, q⟩

/-! ### what is walked, by pure values -/
def seqOf (k : Bool) : T → Option (List T) := fun t => match k, t with
  | true, .lst ts => some ts
  | false, .tup ts => some ts
  | true, .scr ns => some (ns.map T.int)
  | _, _ => none
theorem seqOf_is {K : PySem.W.Frag} {G : Hp} {k : Bool} {v : V} {t : T} {ts : List T} (q : IsT K G v t) (e : seqOf k t = some ts) : ∃ a vs, v = .ref a ∧ SqK k K G a vs ∧ IsTs K G vs ts := by
  unfold seqOf at e
  split at e
  · cases e; cases q with | lst z r => exact ⟨_, _, rfl, .inl (.inl z), r⟩
  · cases e; cases q with | tup z r => exact ⟨_, _, rfl, z, r⟩
  · cases e; cases q with | scr z => exact ⟨_, _, rfl, z, IsTs.of_ints _⟩
  · cases e
theorem Le.sqK {K : PySem.W.Frag} {G G' : Hp} (h : Le G G') {k : Bool} {a : Addr} {xs : List V} (q : SqK k K G a xs) : SqK k K G' a xs := by
  cases k with
  | true => exact h.sqL q
  | false => exact h.sqT q
def i1 (fe : Rho → Option (T × Rho)) (S : T → Option (List T)) : Rho → Option (List T × Rho) := fun ρ => match fe ρ with
  | some (t, ρ1) => (match S t with
    | some ts => some (ts, ρ1)
    | none => none)
  | none => none
def iA (fs : Rho → Option (List T × Rho)) (S : List T → Option (List T)) : Rho → Option (List T × Rho) := fun ρ => match fs ρ with
  | some (xs, ρ1) => (match S xs with
    | some ts => some (ts, ρ1)
    | none => none)
  | none => none
section
variable {X : Cx} {F : Fr} {K : PySem.W.Frag} {tg e e2 : Expr} {fe : Rho → Option (T × Rho)} {fs : Rho → Option (List T × Rho)} {p pos tpos : Pos} {elts : List Expr} {kk : Nat}
theorem pxi_list (he : PX X F e fe) : PXI X F tg e (i1 fe (seqOf true)) := ⟨(pi_list he).weak fun σ H R h => by
  obtain ⟨G, ρ, ts, ρ', Rp, e, k⟩ := h
  unfold i1 at e
  split at e
  · rename_i t ρ1 e1
    split at e
    · rename_i ts' e2
      cases e
      refine tX_bind Rp e1 fun v H1 G1 p1 q1 => ?_
      obtain ⟨a, vs, ev, sq, r⟩ := seqOf_is q1 e2
      refine ⟨a, ev, ⟨vs, p1.rep.sub.sqL sq⟩, k _ H1 G1 p1 ⟨fun F' σ' ρ' H' G' i t R' l ht => ?_, fun H' G' l1 l2 => ⟨vs, l1.sqL (l2.sqL sq), by rw [r.length]; exact Nat.le_refl _⟩⟩⟩
      obtain ⟨v, hv, q⟩ := r.get ht
      refine ⟨⟨vs, v, R'.sub.sqL (l.sqL sq), hv⟩, fun x H'' y => ?_⟩
      obtain ⟨e1, e2⟩ := y
      subst e1
      have z := e2 vs (R'.sub.sqL (l.sqL sq))
      rw [hv] at z
      cases z
      exact ⟨G', .refl R', q.mono l⟩
    · cases e
  · cases e⟩
theorem pxi_tup (he : PX X F e fe) : PXI X F tg e (i1 fe (seqOf false)) := ⟨(pi_tup he).weak fun σ H R h => by
  obtain ⟨G, ρ, ts, ρ', Rp, e, k⟩ := h
  unfold i1 at e
  split at e
  · rename_i t ρ1 e1
    split at e
    · rename_i ts' e2
      cases e
      refine tX_bind Rp e1 fun v H1 G1 p1 q1 => ?_
      obtain ⟨a, vs, ev, sq, r⟩ := seqOf_is q1 e2
      refine ⟨a, ev, ⟨vs, p1.rep.sub.sqT sq⟩, k _ H1 G1 p1 ⟨fun F' σ' ρ' H' G' i t R' l ht => ?_, fun H' G' l1 l2 => ⟨vs, l1.sqT (l2.sqT sq), by rw [r.length]; exact Nat.le_refl _⟩⟩⟩
      obtain ⟨v, hv, q⟩ := r.get ht
      refine ⟨⟨vs, v, R'.sub.sqT (l.sqT sq), hv⟩, fun x H'' y => ?_⟩
      obtain ⟨e1, e2⟩ := y
      subst e1
      have z := e2 vs (R'.sub.sqT (l.sqT sq))
      rw [hv] at z
      cases z
      exact ⟨G', .refl R', q.mono l⟩
    · cases e
  · cases e⟩
def chars : T → Option (List T) := fun t => match t with
  | .str x => some (x.cps.toList.map fun c => T.str ⟨#[c]⟩)
  | _ => none
theorem pxi_str (he : PX X F e fe) : PXI X F tg e (i1 fe chars) := ⟨(pi_str he).weak fun σ H R h => by
  obtain ⟨G, ρ, ts, ρ', Rp, e, k⟩ := h
  unfold i1 at e
  split at e
  · rename_i t ρ1 e1
    split at e
    · rename_i ts' e2
      cases e
      refine tX_bind Rp e1 fun v H1 G1 p1 q1 => ?_
      unfold chars at e2
      split at e2
      · rename_i x
        cases e2
        cases q1
        refine ⟨x, rfl, k _ H1 G1 p1 ⟨fun F' σ' ρ' H' G' i t R' l ht => ?_, fun H' G' l1 l2 => ?_⟩⟩
        · rw [List.getElem?_map] at ht
          cases hc : x.cps.toList[i]? with
          | none => rw [hc] at ht; cases ht
          | some c =>
            rw [hc] at ht
            cases ht
            have hi : i < x.cps.size := by
              obtain ⟨h1, _⟩ := List.getElem?_eq_some_iff.mp hc
              simpa using h1
            refine ⟨hi, fun y H'' z => ?_⟩
            obtain ⟨e1, c', h1, h2⟩ := z
            subst e1
            have h3 : x.cps[i]? = some c := by simpa using hc
            rw [h3] at h1
            cases h1
            subst h2
            exact ⟨G', .refl R', .str _⟩
        · show x.cps.size ≤ _
          simp
      · cases e2
    · cases e
  · cases e⟩
def rng1 : List T → Option (List T) := fun xs => match xs with
  | [.int j] => if j.natAbs ≤ 4096 then some ((List.range j.toNat).map fun (i : Nat) => T.int (0 + (i : Int))) else none
  | _ => none
def rng2 : List T → Option (List T) := fun xs => match xs with
  | [.int i, .int j] => if i.natAbs ≤ 4096 ∧ j.natAbs ≤ 4096 then some ((List.range (j - i).toNat).map fun (n : Nat) => T.int (i + (n : Int))) else none
  | _ => none
theorem walks_rng (G0 : Hp) (lo : Int) (n : Nat) : Walks K G0 (Itr lo n) ((List.range n).map fun (i : Nat) => T.int (lo + (i : Int))) :=
  ⟨(fun F' σ' ρ' H' G' i t R' l ht => by
    rw [List.getElem?_map] at ht
    by_cases hi : i < n
    · rw [List.getElem?_range hi] at ht
      cases ht
      refine ⟨hi, fun x H'' y => ?_⟩
      obtain ⟨e1, e2⟩ := y
      subst e1 e2
      exact ⟨G', .refl R', .int _⟩
    · rw [List.getElem?_eq_none (by simpa using hi)] at ht
      cases ht), fun H' G' l1 l2 => (by show n ≤ _; simp)⟩
theorem pxi_rng1 (hm : X.mg "range" = none) (ha : PXA X F [e] fs) (hg : Gl X "range" := by rfl) (hs : starEach [e] X.env = [(false, eval e X.env)] := by rfl) : PXI X F tg (.Call (.Name "range" p) [e] [] pos) (iA fs rng1) := ⟨(pi_range1 hg hm ha hs).weak fun σ H R h => by
  obtain ⟨G, ρ, ts, ρ', Rp, e, k⟩ := h
  unfold iA at e
  split at e
  · rename_i xs ρ1 e1
    split at e
    · rename_i ts' e2
      cases e
      refine tXA_bind Rp e1 fun vs H1 G1 p1 r1 => ?_
      unfold rng1 at e2
      split at e2
      · rename_i j
        split at e2
        · rename_i hj
          cases e2
          cases r1 with
          | cons q r => cases q; cases r; exact ⟨j, rfl, by omega, by omega, k _ H1 G1 p1 (walks_rng _ 0 _)⟩
        · cases e2
      · cases e2
    · cases e
  · cases e⟩
theorem pxi_rng2 (hm : X.mg "range" = none) (ha : PXA X F [e, e2] fs) (hg : Gl X "range" := by rfl) (hs : starEach [e, e2] X.env = [(false, eval e X.env), (false, eval e2 X.env)] := by rfl) (hs2 : starEach [e2] X.env = [(false, eval e2 X.env)] := by rfl) : PXI X F tg (.Call (.Name "range" p) [e, e2] [] pos) (iA fs rng2) := ⟨(pi_range2 hg hm ha hs hs2).weak fun σ H R h => by
  obtain ⟨G, ρ, ts, ρ', Rp, e, k⟩ := h
  unfold iA at e
  split at e
  · rename_i xs ρ1 e1
    split at e
    · rename_i ts' e2
      cases e
      refine tXA_bind Rp e1 fun vs H1 G1 p1 r1 => ?_
      unfold rng2 at e2
      split at e2
      · rename_i i j
        split at e2
        · rename_i hj
          cases e2
          cases r1 with
          | cons q r => cases r with | cons q2 r => cases q; cases q2; cases r; exact ⟨i, j, rfl, ⟨by omega, by omega, by omega, by omega⟩, k _ H1 G1 p1 (walks_rng _ _ _)⟩
        · cases e2
      · cases e2
    · cases e
  · cases e⟩
def enm (k : Bool) : List T → Option (List T) := fun xs => match xs with
  | [t] => (match seqOf k t with
    | some ts => some (ts.zipIdx.map fun q => T.tup [.int (q.2 : Int), q.1])
    | none => none)
  | _ => none
theorem pxi_enum (k : Bool) (hm : X.mg "enumerate" = none) (ha : PXA X F [e] fs) (hg : Gl X "enumerate" := by rfl) (hs : starEach [e] X.env = [(false, eval e X.env)] := by rfl) : PXI X F (.Tuple elts kk tpos) (.Call (.Name "enumerate" p) [e] [] pos) (iA fs (enm k)) := ⟨(pi_enumK k hg hm ha hs).weak fun σ H R h => by
  obtain ⟨G, ρ, ts, ρ', Rp, e, kk'⟩ := h
  unfold iA at e
  split at e
  · rename_i xs ρ1 e1
    split at e
    · rename_i ts' e2
      cases e
      refine tXA_bind Rp e1 fun vs H1 G1 p1 r1 => ?_
      unfold enm at e2
      split at e2
      · rename_i t
        split at e2
        · rename_i us e3
          cases e2
          cases r1 with
          | cons q r =>
            cases r
            obtain ⟨a, ws, ev, sq, r⟩ := seqOf_is q e3
            subst ev
            refine ⟨a, ws, rfl, p1.rep.sub.sqK sq, kk' _ H1 G1 p1 ⟨fun F' σ' ρ' H' G' i t R' l ht => ?_, fun H' G' l1 l2 => ?_⟩⟩
            · rw [List.getElem?_map, List.getElem?_zipIdx] at ht
              cases hu : us[i]? with
              | none => rw [hu] at ht; cases ht
              | some u =>
                rw [hu] at ht
                obtain ⟨v, hv, q⟩ := r.get hu
                have hi : i < ws.length := (List.getElem?_eq_some_iff.mp hv).1
                refine ⟨⟨R'.sub.sqK (l.sqK sq), hi⟩, fun x H'' y => ?_⟩
                obtain ⟨T', x', ev, hT, eH, hx⟩ := y
                subst ev eH
                rw [hv] at hx
                cases hx
                have st := R'.alloc (.tup [.int (i : Nat), v]) hT
                cases ht
                refine ⟨_, st, .tup (.inl (.inl upd_same)) (.cons ?_ (.cons (q.mono (l.trans st.le)) .nil))⟩
                simp only [Nat.zero_add]
                exact .int _
            · refine ⟨l1.sqK (l2.sqK sq), ?_⟩
              rw [List.length_map, List.length_zipIdx, r.length]
        · cases e2
      · cases e2
    · cases e
  · cases e⟩
def zp (k1 k2 : Bool) : List T → Option (List T) := fun xs => match xs with
  | [t, u] => (match seqOf k1 t, seqOf k2 u with
    | some ts, some us => some ((ts.zip us).map fun q => T.tup [q.1, q.2])
    | _, _ => none)
  | _ => none
theorem pxi_zip (k1 k2 : Bool) (hm : X.mg "zip" = none) (ha : PXA X F [e, e2] fs) (hg : Gl X "zip" := by rfl) (hs : starEach [e, e2] X.env = (false, eval e X.env) :: starEach [e2] X.env := by rfl) (hpl : (backTo pos (starEach [e2] X.env)).any (·.1) = false := by rfl) :
    PXI X F (.Tuple elts kk tpos) (.Call (.Name "zip" p) [e, e2] [] pos) (iA fs (zp k1 k2)) := ⟨(pi_zipK k1 k2 hg hm ha hs hpl).weak fun σ H R h => by
  obtain ⟨G, ρ, ts, ρ', Rp, e, kk'⟩ := h
  unfold iA at e
  split at e
  · rename_i xs ρ1 e1
    split at e
    · rename_i ts' e2
      cases e
      refine tXA_bind Rp e1 fun vs H1 G1 p1 r1 => ?_
      unfold zp at e2
      split at e2
      · rename_i t u
        split at e2
        · rename_i us1 us2 e3 e4
          cases e2
          cases r1 with
          | cons q r =>
            cases r with
            | cons q' r =>
              cases r
              obtain ⟨a, ws1, ev, sq1, r1⟩ := seqOf_is q e3
              subst ev
              obtain ⟨b, ws2, ev, sq2, r2⟩ := seqOf_is q' e4
              subst ev
              have l1 := r1.length
              have l2 := r2.length
              refine ⟨a, b, ws1, ws2, rfl, p1.rep.sub.sqK sq1, p1.rep.sub.sqK sq2, kk' _ H1 G1 p1 ⟨fun F' σ' ρ' H' G' i t R' l ht => ?_, fun H' G' l1' l2' => ?_⟩⟩
              · rw [List.getElem?_map] at ht
                cases hz : (us1.zip us2)[i]? with
                | none => rw [hz] at ht; cases ht
                | some z =>
                  obtain ⟨z1, z2⟩ := z
                  obtain ⟨h1, h2⟩ := List.getElem?_zip_eq_some.mp hz
                  rw [hz] at ht
                  cases ht
                  obtain ⟨v1, hv1, y1⟩ := r1.get h1
                  obtain ⟨v2, hv2, y2⟩ := r2.get h2
                  refine ⟨⟨R'.sub.sqK (l.sqK sq1), R'.sub.sqK (l.sqK sq2), (List.getElem?_eq_some_iff.mp hv1).1, (List.getElem?_eq_some_iff.mp hv2).1⟩, fun x H'' y => ?_⟩
                  obtain ⟨T', x1, x2, ev, hT, eH, hx1, hx2⟩ := y
                  subst ev eH
                  rw [hv1] at hx1
                  rw [hv2] at hx2
                  cases hx1
                  cases hx2
                  have st := R'.alloc (.tup [v1, v2]) hT
                  exact ⟨_, st, .tup (.inl (.inl upd_same)) (.cons (y1.mono (l.trans st.le)) (.cons (y2.mono (l.trans st.le)) .nil))⟩
              · refine ⟨l1'.sqK (l2'.sqK sq1), l1'.sqK (l2'.sqK sq2), ?_⟩
                rw [List.length_map, List.length_zip]
                omega
        · cases e2
      · cases e2
    · cases e
  · cases e⟩
end
end PX
/-! PX8 -/
set_option autoImplicit false
set_option maxRecDepth 100000
set_option linter.all false
namespace PX
open PySem L2

/-! ### a block's slots -/
def wipeR (ρ : Rho) : List Nat → Rho
  | [] => ρ
  | v :: vs => (wipeR ρ vs).set v Sl.no
theorem wipeR_length (ρ : Rho) : ∀ vs : List Nat, (wipeR ρ vs).length = ρ.length
  | [] => rfl
  | v :: vs => by unfold wipeR; rw [List.length_set, wipeR_length ρ vs]
theorem wipeR_some {ρ : Rho} {i : Nat} {x : Sl} : ∀ {vs : List Nat}, (wipeR ρ vs)[i]? = some x → x = Sl.no ∨ (ρ[i]? = some x ∧ i ∉ vs)
  | [], h => .inr ⟨h, by simp⟩
  | v :: vs, h => by
    unfold wipeR at h
    rcases set_some h with ⟨_, e, _⟩ | ⟨n, h⟩
    · exact .inl e
    · rcases wipeR_some h with e | ⟨h1, h2⟩
      · exact .inl e
      · exact .inr ⟨h1, by simp only [List.mem_cons, not_or]; exact ⟨n, h2⟩⟩
theorem wipe_out {σ : L2.St} {i : Nat} : ∀ {vs : List Nat}, i ∉ vs → (wipe σ vs)[i]? = σ[i]?
  | [], _ => rfl
  | v :: vs, h => by
    simp only [List.mem_cons, not_or] at h
    unfold wipe
    rw [List.getElem?_set_ne (Ne.symm h.1)]
    exact wipe_out h.2
theorem wipe_in {σ : L2.St} {i : Nat} : ∀ {vs : List Nat}, i ∈ vs → (wipe σ vs)[i]? = if i < σ.length then some none else none
  | [], h => by cases h
  | v :: vs, h => by
    unfold wipe
    by_cases e : i = v
    · subst e
      by_cases hl : i < σ.length
      · rw [List.getElem?_set_self (by rw [wipe_length]; exact hl), if_pos hl]
      · rw [List.getElem?_eq_none (by rw [List.length_set, wipe_length]; omega), if_neg hl]
    · rw [List.getElem?_set_ne (Ne.symm e)]
      exact wipe_in (by simpa [e] using h)
theorem wipe_off {sl vs : List Nat} (hsl : ∀ i ∈ sl, i ∈ vs) {σ σ' : L2.St} (h : Off sl (wipe σ vs) σ') : wipe σ' vs = wipe σ vs := by
  have hl : σ'.length = σ.length := h.1.trans (wipe_length σ vs)
  apply List.ext_getElem?
  intro j
  by_cases hj : j ∈ vs
  · rw [wipe_in hj, wipe_in hj, hl]
  · rw [wipe_out hj, wipe_out hj, h.2 j (fun z => hj (hsl j z)), wipe_out hj]
section
variable {K : PySem.W.Frag} {F : Fr} {σ σ' : L2.St} {H G H' G' : Hp} {ρ ρ' : Rho}
theorem Rep.slots (R : Rep K F H G σ ρ) (hl : ρ'.length = σ'.length) (h : ∀ (i : Nat) (x : Sl), ρ'[i]? = some x → x = Sl.no ∨ (ρ[i]? = some x ∧ σ'[i]? = σ[i]?)) : Rep K F H G σ' ρ' ∧ ∀ a, IsCell σ' ρ' a → IsCell σ ρ a := by
  refine ⟨⟨R.sub, fun i t e => ?_, fun i b t e => ?_, fun i j b c t u p e1 e2 z1 z2 => ?_, R.keep, R.g0, R.new, R.dom, hl⟩, fun a ⟨i, b, t, e, s⟩ => ?_⟩
  · rcases h i _ e with z | ⟨z1, z2⟩
    · cases z
    · rw [z2]; exact R.im i t z1
  · rcases h i _ e with z | ⟨z1, z2⟩
    · cases z
    · rw [z2]; exact R.cl i b t z1
  · rcases h i _ e1 with z | ⟨y1, y2⟩
    · cases z
    · rcases h j _ e2 with z | ⟨y3, y4⟩
      · cases z
      · rw [y2] at z1; rw [y4] at z2; exact R.ap i j b c t u p y1 y3 z1 z2
  · rcases h i _ e with z | ⟨z1, z2⟩
    · cases z
    · rw [z2] at s; exact ⟨i, b, t, z1, s⟩
theorem Rep.wiped (R : Rep K F H G σ ρ) (vs : List Nat) : Rep K F H G (wipe σ vs) (wipeR ρ vs) ∧ ∀ a, IsCell (wipe σ vs) (wipeR ρ vs) a → IsCell σ ρ a :=
  R.slots (by rw [wipeR_length, wipe_length]; exact R.len) fun i x h => by
    rcases wipeR_some h with e | ⟨h1, h2⟩
    · exact .inl e
    · exact .inr ⟨h1, wipe_out h2⟩
/-- back from a block: the slots of its own are forgotten -/
theorem Rep.back {vs : List Nat} (R : Rep K F H G (wipe σ vs) ρ) : Rep K F H G σ (wipeR ρ vs) ∧ ∀ a, IsCell σ (wipeR ρ vs) a → IsCell (wipe σ vs) ρ a :=
  R.slots (by rw [wipeR_length, R.len, wipe_length]) fun i x h => by
    rcases wipeR_some h with e | ⟨h1, h2⟩
    · exact .inl e
    · exact .inr ⟨h1, (wipe_out h2).symm⟩
theorem Rep.again {σ2 : L2.St} {vs : List Nat} (R : Rep K F H G σ2 ρ) (e : wipe σ2 vs = wipe σ vs) : Rep K F H G (wipe σ vs) (wipeR ρ vs) ∧ ∀ a, IsCell (wipe σ vs) (wipeR ρ vs) a → IsCell σ2 ρ a := by
  rw [← e]; exact R.wiped vs
/-- something else is changed -/
theorem Rep.other (R : Rep K F H G σ ρ) {p : Addr} {o : HO} (hg : G p = none) (hc : ¬ IsCell σ ρ p) (h0 : F.H0 p = none) : Rep K F (upd H p o) G σ ρ := by
  have ne : ∀ a x, G a = some x → a ≠ p := fun a x h z => by subst z; rw [hg] at h; cases h
  refine ⟨fun a x h => by rw [upd_ne (ne a x h)]; exact R.sub a x h, R.im, fun i b t e => ?_, R.ap, fun a x h n => ?_, R.g0, R.new, fun a x h => ?_, R.len⟩
  · obtain ⟨q, e1, g, c, f1, f2⟩ := R.cl i b t e
    refine ⟨q, e1, g, c.mono (Le.refl _) fun x h => ?_, f1, f2⟩
    rw [upd_ne (fun z => by subst z; exact hc ⟨i, b, t, e, e1⟩)]
    exact h
  · rw [upd_ne (fun z => by subst z; rw [h0] at h; cases h)]
    exact R.keep a x h n
  · by_cases z : a = p
    · exact ⟨o, by rw [z, upd_same]⟩
    · obtain ⟨o', q⟩ := R.dom a x h
      exact ⟨o', by rw [upd_ne z]; exact q⟩
theorem Ext.other {C : Addr → Prop} {H1 G1 : Hp} (E : Ext C H1 G1 H G) {p : Addr} {o : HO} (h1 : H1 p = none) : Ext C H1 G1 (upd H p o) G where
  g := E.g
  k := fun a x h n => by rw [upd_ne (fun z => by subst z; rw [h1] at h; cases h)]; exact E.k a x h n
  d := fun a x h => by
    obtain ⟨o', q⟩ := E.d a x h
    exact ⟨o', by rw [upd_ne (fun z => by subst z; rw [h1] at h; cases h)]; exact q⟩
  n := E.n
end
/-! ### comprehensions -/
def lcl (vs : List Nat) (g : T → Rho → Option Rho) (ft : Rho → Option (Bool × Rho)) (fe : Rho → Option (T × Rho)) : List T → List T → Rho → Option (List T × Rho)
  | [], acc, ρ => some (acc, ρ)
  | t :: r, acc, ρ => match g t ρ with
    | some ρ1 => (match ft ρ1 with
      | some (true, ρ2) => (match fe ρ2 with
        | some (x, ρ3) => if acc.length < 1000 then lcl vs g ft fe r (acc ++ [x]) (wipeR ρ3 vs) else none
        | none => none)
      | some (false, ρ2) => lcl vs g ft fe r acc (wipeR ρ2 vs)
      | none => none)
    | none => none
def lc (vs : List Nat) (fi : Rho → Option (List T × Rho)) (g : T → Rho → Option Rho) (ft : Rho → Option (Bool × Rho)) (fe : Rho → Option (T × Rho)) : Rho → Option (T × Rho) := fun ρ => match fi ρ with
  | some (ts, ρ1) => (match lcl vs g ft fe ts [] (wipeR ρ1 vs) with
    | some (xs, ρ2) => some (.lst xs, wipeR ρ2 vs)
    | none => none)
  | none => none
def tyes : Rho → Option (Bool × Rho) := fun ρ => some (true, ρ)
section
variable {X : Cx} {F : Fr} {K : PySem.W.Frag} {tg iter elt kx : Expr} {ifs : List Expr} {scope : Scope} {own : List (Str × Nat)} {pos : Pos} {sl : List Nat} {fi : Rho → Option (List T × Rho)} {gg : T → Rho → Option Rho} {ft : Rho → Option (Bool × Rho)} {fe fk : Rho → Option (T × Rho)}
theorem pxts_nil : PTs X [] (tXT X.K F tyes) := ⟨fun pins s σ H Q I h => pts_nil.run pins s σ H Q I (by
  obtain ⟨G, ρ, b, ρ', R, e, k⟩ := h
  cases e
  exact k H G (.refl R))⟩
theorem pxts_one {c : Expr} (h : PXT X F c ft) : PTs X [c] (tXT X.K F ft) := pts_one h
theorem lc_ok {σ : L2.St} {H : Hp} {Q : VK} (vs : List Nat) (hsl : ∀ i ∈ sl, i ∈ vs) (h : tXN K F (lc vs fi gg ft fe) σ H Q) : tLc (tXI K F fi) (tXG K F sl gg) (tXT K F ft) (tX K F fe) vs σ H Q := by
  obtain ⟨G, ρ, t, ρ', R, e, q⟩ := h
  unfold lc at e
  split at e
  · rename_i ts ρ1 e1
    split at e
    · rename_i xs ρ2 e2
      cases e
      refine ⟨G, ρ, ts, ρ1, R, e1, fun J H1 G1 p1 wk D hD => ?_⟩
      have hD0 : F.H0 D = none := p1.rep.not_base hD
      have hGD : G1 D = none := p1.rep.sub.none_ hD
      obtain ⟨Rb, cb⟩ := p1.rep.wiped vs
      have ncell : ∀ {σ' ρ'}, (∀ a, IsCell σ' ρ' a → IsCell σ ρ1 a) → ¬ IsCell σ' ρ' D := fun hc z => p1.rep.not_cell hD (hc D z)
      refine ⟨fun i m H' => i + m = ts.length ∧ ∃ G' ρb acc va, Rep K F H' G' (wipe σ vs) ρb ∧ Ext (IsCell σ ρ1) H1 G1 H' G' ∧ (∀ a, IsCell (wipe σ vs) ρb a → IsCell σ ρ1 a) ∧ H' D = some (.lst va) ∧ IsTs K G' va acc ∧ G' D = none ∧ lcl vs gg ft fe (ts.drop i) acc ρb = some (xs, ρ2),
        ⟨ts.length, by omega, G1, wipeR ρ1 vs, [], [], Rb.other hGD (ncell cb) hD0, (Ext.refl _ _ _).other hD, cb, upd_same, .nil, hGD, e2⟩, ?_⟩
      rintro i m H2 ⟨em, G2, ρb, acc, va, R2, E2, c2, hD2, r2, g2, e3⟩
      by_cases hl : i < ts.length
      · have ed : ts.drop i = ts[i] :: ts.drop (i + 1) := List.drop_eq_getElem_cons hl
        rw [ed] at e3
        unfold lcl at e3
        obtain ⟨hgo, hy⟩ := wk.go F _ ρb H2 G2 i ts[i] R2 E2.g (List.getElem?_eq_getElem hl)
        refine .inr ⟨hgo, fun H' => ∃ G' ρb acc va, Rep K F H' G' (wipe σ vs) ρb ∧ Ext (IsCell σ ρ1) H1 G1 H' G' ∧ (∀ a, IsCell (wipe σ vs) ρb a → IsCell σ ρ1 a) ∧ H' D = some (.lst va) ∧ IsTs K G' va acc ∧ G' D = none ∧ lcl vs gg ft fe (ts.drop (i + 1)) acc ρb = some (xs, ρ2), fun H' n => ⟨m - 1, by omega, by omega, n⟩, fun x H3 y => ?_⟩
        obtain ⟨G3, p3, q3⟩ := hy x H3 y
        have nb : ¬ IsCell (wipe σ vs) ρb D := ncell c2
        have stay : ∀ {H' G'}, Ext (IsCell (wipe σ vs) ρb) H2 G2 H' G' → H' D = some (.lst va) ∧ G' D = none := fun {H' G'} E => ⟨E.k D _ hD2 nb, by
          cases z : G' D with
          | none => rfl
          | some o =>
            rcases E.n D o z with y | y
            · rw [g2] at y; cases y
            · rw [hD2] at y; cases y⟩
        split at e3
        · rename_i ρ3 e4
          refine ⟨G3, ρb, ts[i], ρ3, p3.rep, q3, e4, fun σ4 R4 n4 c4 => ?_⟩
          have ew := wipe_off hsl n4
          refine ⟨ew, ?_⟩
          have c4' : ∀ a, IsCell σ4 ρ3 a → IsCell (wipe σ vs) ρb a := c4
          split at e3
          · rename_i ρ5 e5
            refine tXT_bind R4 e5 fun H5 G5 p5 => ?_
            rw [if_pos rfl]
            split at e3
            · rename_i x5 ρ6 e6
              split at e3
              · rename_i hz
                refine tX_bind p5.rep e6 fun y5 H6 G6 p6 q6 => ?_
                have p46 := p5.trans p6
                have E26 : Ext (IsCell (wipe σ vs) ρb) H2 G2 H6 G6 := p3.ext.trans p46.ext c4'
                obtain ⟨hD6, g6⟩ := stay E26
                obtain ⟨R7, c7⟩ := p6.rep.again ew
                have cc : ∀ a, IsCell (wipe σ vs) (wipeR ρ6 vs) a → IsCell σ ρ1 a := fun a z => c2 a (c4' a (p46.cs a (c7 a z)))
                have E16 : Ext (IsCell σ ρ1) H1 G1 H6 G6 := E2.trans E26 c2
                refine ⟨va, hD6, by rw [r2.length]; exact lt_line (Nat.le_of_lt hz), G6, wipeR ρ6 vs, acc ++ [x5], va ++ [y5], R7.other g6 (ncell cc) hD0, E16.other hD, cc, upd_same, (r2.mono E26.g).append (.cons q6 .nil), g6, e3⟩
              · cases e3
            · cases e3
          · rename_i ρ5 e5
            refine tXT_bind R4 e5 fun H5 G5 p5 => ?_
            rw [if_neg (by decide)]
            have E25 : Ext (IsCell (wipe σ vs) ρb) H2 G2 H5 G5 := p3.ext.trans p5.ext c4'
            obtain ⟨hD5, g5⟩ := stay E25
            obtain ⟨R7, c7⟩ := p5.rep.again ew
            have cc : ∀ a, IsCell (wipe σ vs) (wipeR ρ5 vs) a → IsCell σ ρ1 a := fun a z => c2 a (c4' a (p5.cs a (c7 a z)))
            exact ⟨G5, wipeR ρ5 vs, acc, va, R7, E2.trans E25 c2, cc, hD5, r2.mono E25.g, g5, e3⟩
          · cases e3
        · cases e3
      · have el : i = ts.length := by omega
        subst el
        rw [List.drop_length] at e3
        unfold lcl at e3
        cases e3
        refine .inl ⟨wk.stop H2 G2 R2.sub E2.g, ?_⟩
        obtain ⟨R5, c5⟩ := R2.back
        refine q D H2 G2 (p1.trans ⟨E2, R5, fun a z => c2 a (c5 a z)⟩) (p1.ext.free hD) g2 ⟨va, hD2, r2⟩
    · cases e
  · cases e
theorem pxn_lc (own : List (Str × Nat)) (hc : X.calm = true) (hN : X.N.Nodup) (hi : PXI X F tg iter fi) (ok : BlkOk X.N X.env.scope scope own) (hsl : ∀ i ∈ sl, i ∈ own.map (·.2))
    (hg : ∀ (s : Shared) (H : Hp) (C : Addr) (cl : List (Str × Addr)) (fp : List Addr), PXG (X.blk s H scope (compEnvC scope cl C X.env) fp) F tg sl gg)
    (ht : ∀ (s : Shared) (H : Hp) (C : Addr) (cl : List (Str × Addr)) (fp : List Addr), PTs (X.blk s H scope (compEnvC scope cl C X.env) fp) ifs (tXT X.K F ft))
    (he : ∀ (s : Shared) (H : Hp) (C : Addr) (cl : List (Str × Addr)) (fp : List Addr), PX (X.blk s H scope (compEnvC scope cl C X.env) fp) F elt fe) (hs : ∀ x, foldedSetIterable iter X.env x = pure x := by intro _; rfl) :
    PXN X F (.ListComp elt [⟨tg, iter, ifs, 0⟩] scope pos) (lc (own.map (·.2)) fi gg ft fe) :=
  (pe_lc hc hN hi.pi ok hg ht he hs).weak fun σ H Q h => lc_ok (own.map (·.2)) hsl h
/-- name = [..] on one line -/
theorem pxs_setLc {i : Nat} {y : Str} {py spos : Pos} {fk : (Rho → Option (T × Rho)) → Rho → Option (Sl × Rho)} (own : List (Str × Nat)) (hc : X.calm = true) (hN : X.N.Nodup) (hi : PXI X F tg iter fi) (ok : BlkOk X.N X.env.scope scope own) (hsl : ∀ i ∈ sl, i ∈ own.map (·.2))
    (hfk : ∀ K' F' f σ H Q, tXK K' F' (fk f) σ H Q → tXN K' F' f σ H Q)
    (hg : ∀ (s : Shared) (H : Hp) (C : Addr) (cl : List (Str × Addr)) (fp : List Addr), PXG (X.blk s H scope (compEnvC scope cl C X.env) fp) F tg sl gg)
    (ht : ∀ (s : Shared) (H : Hp) (C : Addr) (cl : List (Str × Addr)) (fp : List Addr), PTs (X.blk s H scope (compEnvC scope cl C X.env) fp) ifs (tXT X.K F ft))
    (he : ∀ (s : Shared) (H : Hp) (C : Addr) (cl : List (Str × Addr)) (fp : List Addr), PX (X.blk s H scope (compEnvC scope cl C X.env) fp) F elt fe)
    (hy : X.N[i]? = some y := by rfl) (hyl : X.env.scope.names.lookup y = some .local := by rfl) (hsw : swapsWith (.ListComp elt [⟨tg, iter, ifs, 0⟩] scope pos) (some (.Name y py)) spos.line X.env = pure true := by exact sw_true rfl rfl rfl (by decide +kernel)) (hs : ∀ x, foldedSetIterable iter X.env x = pure x := by intro _; rfl) :
    PXS X F (.Assign [.Name y py] (.ListComp elt [⟨tg, iter, ifs, 0⟩] scope pos) spos) (bset i (fk (lc (own.map (·.2)) fi gg ft fe))) :=
  (ps_setLc hc hN hy hyl hsw hi.pi ok hg ht he hs).weak fun D σ H h => by
    have z : tXK X.K F (fk (lc (own.map (·.2)) fi gg ft fe)) σ H (fun x H1 => gName i x σ H1 D.nx) := bset_ok h
    exact lc_ok (own.map (·.2)) hsl (hfk _ _ _ _ _ _ z)
/-- the two kinds of a new thing -/
theorem tXK_cl {f : Rho → Option (T × Rho)} {σ : L2.St} {H : Hp} {Q : VK} (h : tXK K F (cl f) σ H Q) : tXN K F f σ H Q := by
  obtain ⟨G, ρ, k, ρ', R, e, s⟩ := h
  unfold cl at e
  split at e
  · rename_i t ρ1 e1
    cases e
    refine ⟨G, ρ, t, _, R, e1, fun p H' G' st hp hg hc => ?_⟩
    exact s _ H' G' st (.cl (R.not_base hp) hg (fun z => R.not_cell hp (st.cs p z)) hc) fun q _ z _ => by cases z; exact hp
  · cases e
end
end PX
/-! PX9 -/
set_option autoImplicit false
set_option maxRecDepth 100000
set_option linter.all false
namespace PX
open PySem L2

section
variable {K : PySem.W.Frag}
/-! ### len -/
def oLen : List T → Option T := fun xs => match xs with
  | [.str x] => if x.length ≤ 1000 then some (.int x.length) else none
  | [.tup ts] => some (.int ts.length)
  | [.lst ts] => some (.int ts.length)
  | [.scr ns] => some (.int ns.length)
  | _ => none
theorem c_len : CallS K (fun xs H Q => ∃ x n, xs = [x] ∧ LenV K x H n ∧ Q (.int n) H) oLen := by
  intro F σ H G ρ vs xs t Q R r e k
  unfold oLen at e
  split at e
  · split at e
    · rename_i hl
      cases e
      cases r with | cons q r => cases q; cases r; exact ⟨_, _, rfl, ⟨le_line hl, rfl⟩, k _ H G (.refl R) (.int _)⟩
    · cases e
  · cases e
    cases r with
    | cons q r =>
      cases r
      cases q with
      | tup z r => exact ⟨_, _, rfl, .inr ⟨_, R.sub.sqT z, rfl⟩, by rw [r.length]; exact k _ H G (.refl R) (.int _)⟩
  · cases e
    cases r with
    | cons q r =>
      cases r
      cases q with
      | lst z r => exact ⟨_, _, rfl, .inl ⟨_, .inl (.inl (R.sub _ _ z)), rfl⟩, by rw [r.length]; exact k _ H G (.refl R) (.int _)⟩
  · cases e
    cases r with
    | cons q r =>
      cases r
      cases q with
      | scr z => exact ⟨_, _, rfl, .inl ⟨_, R.sub.sqL z, rfl⟩, by rw [List.length_map]; exact k _ H G (.refl R) (.int _)⟩
  · cases e
/-! ### truths of a list -/
def bls : List T → Option (List Bool)
  | [] => some []
  | .bl b :: r => match bls r with
    | some bs => some (b :: bs)
    | none => none
  | _ :: _ => none
theorem bls_is {G : Hp} : ∀ {ts : List T} {vs : List V} {bs : List Bool}, IsTs K G vs ts → bls ts = some bs → vs = bs.map V.bl
  | [], _, _, r, e => by cases r; cases e; rfl
  | t :: ts, _, bs, r, e => by
    cases r with
    | cons q r =>
      unfold bls at e
      split at e
      · rename_i h1; cases h1
      · rename_i h1
        split at e
        · rename_i bs' e2
          cases e
          cases h1
          cases q
          rw [bls_is r e2]
          rfl
        · cases e
      · cases e
def oAll : List T → Option T := fun xs => match xs with
  | [.lst ts] => match bls ts with
    | some bs => some (.bl (bs.all id))
    | none => none
  | _ => none
def oAny : List T → Option T := fun xs => match xs with
  | [.lst ts] => match bls ts with
    | some bs => some (.bl (bs.any id))
    | none => none
  | _ => none
theorem c_all : CallS K (rAll K) oAll := by
  intro F σ H G ρ vs xs t Q R r e k
  unfold oAll at e
  split at e
  · split at e
    · rename_i bs e2
      cases e
      cases r with
      | cons q r =>
        cases r
        cases q with
        | lst z r =>
          have := bls_is r e2
          subst this
          exact ⟨_, bs, rfl, .inl (.inl (R.sub _ _ z)), k _ H G (.refl R) (.bl _)⟩
    · cases e
  · cases e
theorem c_any : CallS K (rAny K) oAny := by
  intro F σ H G ρ vs xs t Q R r e k
  unfold oAny at e
  split at e
  · split at e
    · rename_i bs e2
      cases e
      cases r with
      | cons q r =>
        cases r
        cases q with
        | lst z r =>
          have := bls_is r e2
          subst this
          exact ⟨_, bs, rfl, .inl (.inl (R.sub _ _ z)), k _ H G (.refl R) (.bl _)⟩
    · cases e
  · cases e
/-! ### ints of a list -/
def intsL : List T → Option (List Int)
  | [] => some []
  | .int b :: r => match intsL r with
    | some bs => some (b :: bs)
    | none => none
  | _ :: _ => none
theorem intsL_is {G : Hp} : ∀ {ts : List T} {vs : List V} {bs : List Int}, IsTs K G vs ts → intsL ts = some bs → vs = bs.map V.int
  | [], _, _, r, e => by cases r; cases e; rfl
  | t :: ts, _, bs, r, e => by
    cases r with
    | cons q r =>
      unfold intsL at e
      split at e
      · rename_i h1; cases h1
      · rename_i h1
        split at e
        · rename_i bs' e2
          cases e
          cases h1
          cases q
          rw [intsL_is r e2]
          rfl
        · cases e
      · cases e
def oSum : List T → Option T := fun xs => match xs with
  | [.lst ts] => match intsL ts with
    | some ns => some (.int ns.sum)
    | none => none
  | _ => none
theorem c_sum : CallS K (rSum K) oSum := by
  intro F σ H G ρ vs xs t Q R r e k
  unfold oSum at e
  split at e
  · split at e
    · rename_i ns e2
      cases e
      cases r with
      | cons q r =>
        cases r
        cases q with
        | lst z r =>
          have := intsL_is r e2
          subst this
          exact ⟨_, ns, rfl, .inl (.inl (R.sub _ _ z)), k _ H G (.refl R) (.int _)⟩
    · cases e
  · cases e
def maxL : List Int → Option Int
  | [] => none
  | x :: r => some (r.foldl max x)
theorem foldl_max : ∀ (r : List Int) (x : Int), (r.foldl max x ∈ x :: r) ∧ ∀ y, y ∈ x :: r → y ≤ r.foldl max x
  | [], x => ⟨List.mem_cons_self, fun y h => by cases h with | head => exact Int.le_refl _ | tail _ h => cases h⟩
  | z :: r, x => by
    obtain ⟨h1, h2⟩ := foldl_max r (max x z)
    refine ⟨?_, fun y hy => ?_⟩
    · show r.foldl max (max x z) ∈ _
      rcases List.mem_cons.mp h1 with e | e
      · rw [e]
        by_cases hz : x ≤ z
        · rw [Int.max_eq_right hz]; exact List.mem_cons_of_mem _ List.mem_cons_self
        · rw [Int.max_eq_left (by omega)]; exact List.mem_cons_self
      · exact List.mem_cons_of_mem _ (List.mem_cons_of_mem _ e)
    · show y ≤ r.foldl max (max x z)
      have h3 : max x z ≤ r.foldl max (max x z) := h2 _ List.mem_cons_self
      rcases List.mem_cons.mp hy with e | e
      · rw [e]; omega
      · rcases List.mem_cons.mp e with e | e
        · rw [e]; omega
        · exact h2 y (List.mem_cons_of_mem _ e)
def oMax : List T → Option T := fun xs => match xs with
  | [.lst ts] => match intsL ts with
    | some ns => (match maxL ns with
      | some m => some (.int m)
      | none => none)
    | none => none
  | _ => none
theorem c_max : CallS K (rMax K) oMax := by
  intro F σ H G ρ vs xs t Q R r e k
  unfold oMax at e
  split at e
  · split at e
    · rename_i ns e2
      split at e
      · rename_i m e3
        cases e
        cases r with
        | cons q r =>
          cases r
          cases q with
          | lst z r =>
            have := intsL_is r e2
            subst this
            cases ns with
            | nil => cases e3
            | cons n ns =>
              cases e3
              refine ⟨_, n :: ns, rfl, .inl (.inl (R.sub _ _ z)), by simp, fun m' h1 h2 => ?_⟩
              obtain ⟨a1, a2⟩ := foldl_max ns n
              have : m' = ns.foldl max n := Int.le_antisymm (a2 _ h1) (h2 _ a1)
              rw [this]
              exact k _ H G (.refl R) (.int _)
      · cases e
    · cases e
  · cases e
/-! ### numbers -/
def oAbs : List T → Option T := fun xs => match xs with
  | [.int i] => some (.int (if i < 0 then -i else i))
  | _ => none
theorem c_abs : CallS K (fun xs H Q => ∃ i, xs = [.int i] ∧ Q (.int (if i < 0 then -i else i)) H) oAbs := by
  intro F σ H G ρ vs xs t Q R r e k
  unfold oAbs at e
  split at e
  · cases e
    cases r with | cons q r => cases q; cases r; exact ⟨_, rfl, k _ H G (.refl R) (.int _)⟩
  · cases e
def oInt : List T → Option T := fun xs => match xs with
  | [.int i] => some (.int i)
  | [.bl b] => some (.int (if b then 1 else 0))
  | _ => none
theorem c_int : CallS K (fun xs H Q => (∃ i, xs = [.int i] ∧ Q (.int i) H) ∨ ∃ k, xs = [.bl k] ∧ Q (.int (if k then 1 else 0)) H) oInt := by
  intro F σ H G ρ vs xs t Q R r e k
  unfold oInt at e
  split at e
  · cases e
    cases r with | cons q r => cases q; cases r; exact .inl ⟨_, rfl, k _ H G (.refl R) (.int _)⟩
  · cases e
    cases r with | cons q r => cases q; cases r; exact .inr ⟨_, rfl, k _ H G (.refl R) (.int _)⟩
  · cases e
def oMin2 : List T → Option T := fun xs => match xs with
  | [.int i, .int j] => some (.int (if j < i then j else i))
  | _ => none
theorem c_min2 : CallS K (fun xs H Q => ∃ i j, xs = [.int i, .int j] ∧ Q (.int (if j < i then j else i)) H) oMin2 := by
  intro F σ H G ρ vs xs t Q R r e k
  unfold oMin2 at e
  split at e
  · cases e
    cases r with | cons q r => cases r with | cons q2 r => cases q; cases q2; cases r; exact ⟨_, _, rfl, k _ H G (.refl R) (.int _)⟩
  · cases e
def oMax2 : List T → Option T := fun xs => match xs with
  | [.int i, .int j] => some (.int (if j > i then j else i))
  | _ => none
theorem c_max2 : CallS K (fun xs H Q => ∃ i j, xs = [.int i, .int j] ∧ Q (.int (if j > i then j else i)) H) oMax2 := by
  intro F σ H G ρ vs xs t Q R r e k
  unfold oMax2 at e
  split at e
  · cases e
    cases r with | cons q r => cases r with | cons q2 r => cases q; cases q2; cases r; exact ⟨_, _, rfl, k _ H G (.refl R) (.int _)⟩
  · cases e
def oDivmod : List T → Option T := fun xs => match xs with
  | [.int i, .int j] => if cDiv i j then some (.tup [.int (i / j), .int (i % j)]) else none
  | _ => none
theorem c_divmod : CallS K (fun xs H Q => ∃ i j, xs = [.int i, .int j] ∧ CDiv i j ∧ ∀ p, H p = none → Q (.ref p) (upd H p (.tup [.int (i / j), .int (i % j)]))) oDivmod := by
  intro F σ H G ρ vs xs t Q R r e k
  unfold oDivmod at e
  split at e
  · rename_i i j
    split at e
    · rename_i hc
      cases e
      cases r with
      | cons q r =>
        cases r with
        | cons q2 r =>
          cases q; cases q2; cases r
          refine ⟨i, j, rfl, (by have hc : 0 < j ∧ j.natAbs < 1073741824 := of_decide_eq_true hc; unfold CDiv; omega), fun p hp => ?_⟩
          have st := R.alloc (.tup [.int (i / j), .int (i % j)]) hp
          exact k _ _ _ st (.tup (.inl (.inl upd_same)) (.cons (.int _) (.cons (.int _) .nil)))
    · cases e
  · cases e
/-! ### tuple(..), list(..) -/
def oTuple : List T → Option T := fun xs => match xs with
  | [.lst ts] => some (.tup ts)
  | [.tup ts] => some (.tup ts)
  | _ => none
theorem c_tuple : CallS K (fun xs H Q => ∃ p ys, xs = [.ref p] ∧ ((SqL K H p ys ∧ ∀ l, H l = none → Q (.ref l) (upd H l (.tup ys))) ∨ (SqT K H p ys ∧ Q (.ref p) H))) oTuple := by
  intro F σ H G ρ vs xs t Q R r e k
  unfold oTuple at e
  split at e
  · cases e
    cases r with
    | cons q r =>
      cases r
      cases q with
      | @lst _ ws _ z r =>
        refine ⟨_, _, rfl, .inl ⟨.inl (.inl (R.sub _ _ z)), fun p hp => ?_⟩⟩
        have st := R.alloc (.tup ws) hp
        exact k _ _ _ st (.tup (.inl (.inl upd_same)) (r.mono st.le))
  · cases e
    cases r with
    | cons q r =>
      cases r
      cases q with
      | tup z r => exact ⟨_, _, rfl, .inr ⟨R.sub.sqT z, k _ H G (.refl R) (.tup z r)⟩⟩
  · cases e
/-- calls that make a new thing -/
def CallN (K : PySem.W.Frag) (r : List V → Hp → VK → Prop) (S : List T → Option T) : Prop := ∀ {F : Fr} {σ : L2.St} {H G : Hp} {ρ : Rho} {vs : List V} {xs : List T} {t : T} {Q : VK}, Rep K F H G σ ρ → IsTs K G vs xs → S xs = some t →
  (∀ p H' G', Stp K F σ H G ρ H' G' ρ → H p = none → G' p = none → CellAt K G' H' p t → Q (.ref p) H') → r vs H Q
theorem tCB_sN {F : Fr} {fs : Rho → Option (List T × Rho)} {r : List V → Hp → VK → Prop} {S : List T → Option T} {σ : L2.St} {H : Hp} {Q : VK} (hs : CallN K r S) (h : tXN K F (sA fs S) σ H Q) : tCB r (tXA K F fs) σ H Q := by
  obtain ⟨G, ρ, t, ρ', R, e, k⟩ := h
  unfold sA at e
  split at e
  · rename_i xs ρ1 e1
    split at e
    · rename_i t' e2
      cases e
      exact tXA_bind R e1 fun vs H1 G1 p1 q1 => hs p1.rep q1 e2 fun p H2 G2 p2 hp hg hc => k p H2 G2 (p1.trans p2) (p1.ext.free hp) hg hc
    · cases e
  · cases e
def oList : List T → Option T := fun xs => match xs with
  | [.lst ts] => some (.lst ts)
  | [.tup ts] => some (.lst ts)
  | _ => none
theorem newL {F : Fr} {σ : L2.St} {H G : Hp} {ρ : Rho} {vs : List V} {ts : List T} {Q : VK} (R : Rep K F H G σ ρ) (r : IsTs K G vs ts) (k : ∀ p H' G', Stp K F σ H G ρ H' G' ρ → H p = none → G' p = none → CellAt K G' H' p (.lst ts) → Q (.ref p) H') : ∀ p, H p = none → Q (.ref p) (upd H p (.lst vs)) := fun p hp =>
  k p _ G (R.allocH _ hp) hp (R.sub.none_ hp) ⟨vs, upd_same, r⟩
theorem c_list : CallN K (fun xs H Q => ∃ p ys, xs = [.ref p] ∧ (SqL K H p ys ∨ SqT K H p ys) ∧ ∀ l, H l = none → Q (.ref l) (upd H l (.lst ys))) oList := by
  intro F σ H G ρ vs xs t Q R r e k
  unfold oList at e
  split at e
  · cases e
    cases r with
    | cons q r =>
      cases r
      cases q with
      | lst z r => exact ⟨_, _, rfl, .inl (.inl (.inl (R.sub _ _ z))), newL R r k⟩
  · cases e
    cases r with
    | cons q r =>
      cases r
      cases q with
      | tup z r => exact ⟨_, _, rfl, .inr (R.sub.sqT z), newL R r k⟩
  · cases e
theorem lst_new : CallN K (fun xs H Q => xs.length ≤ sizeLine ∧ ∀ p, H p = none → Q (.ref p) (upd H p (.lst xs))) mkLst := by
  intro F σ H G ρ vs xs t Q R r e k
  unfold mkLst at e
  split at e
  · rename_i hl
    cases e
    exact ⟨by rw [r.length]; exact le_line hl, newL R r k⟩
  · cases e
/-! ### lists, tuples added, repeated -/
def oCat : T → T → Option T := fun x y => match x, y with
  | .lst a, .lst b => if a.length + b.length ≤ 1000 then some (.lst (a ++ b)) else none
  | _, _ => none
theorem s_cat : OpS K rCat oCat := by
  intro F σ H G ρ v1 v2 x y t Q R q1 q2 e k
  unfold oCat at e
  split at e
  · split at e
    · rename_i hl
      cases e
      cases q1 with
      | @lst _ w1 _ z1 r1 =>
        cases q2 with
        | @lst _ w2 _ z2 r2 =>
          refine ⟨_, _, _, _, rfl, rfl, R.sub _ _ z1, R.sub _ _ z2, by rw [r1.length, r2.length]; exact le_line hl, fun p hp => ?_⟩
          have st := R.alloc (.lst (w1 ++ w2)) hp
          exact k _ _ _ st (.lst upd_same ((r1.append r2).mono st.le))
    · cases e
  · cases e
def oCatT : T → T → Option T := fun x y => match x, y with
  | .tup a, .tup b => if a.length + b.length ≤ 1000 then some (.tup (a ++ b)) else none
  | _, _ => none
theorem s_catT : OpS K (rCatA K) oCatT := by
  intro F σ H G ρ v1 v2 x y t Q R q1 q2 e k
  unfold oCatT at e
  split at e
  · split at e
    · rename_i hl
      cases e
      cases q1 with
      | @tup _ w1 _ z1 r1 =>
        cases q2 with
        | @tup _ w2 _ z2 r2 =>
          refine ⟨_, _, _, _, rfl, rfl, R.sub.sqT z1, R.sub.sqT z2, by rw [r1.length, r2.length]; exact le_line hl, fun e1 => ?_, fun _ e2 => ?_, fun _ _ p hp => ?_⟩
          · subst e1; cases r1; exact k _ H G (.refl R) (.tup z2 (by simpa using r2))
          · subst e2; cases r2; exact k _ H G (.refl R) (.tup z1 (by simpa using r1))
          · have st := R.alloc (.tup (w1 ++ w2)) hp
            exact k _ _ _ st (.tup (.inl (.inl upd_same)) ((r1.append r2).mono st.le))
    · cases e
  · cases e
def oRepT : T → T → Option T := fun x y => match x, y with
  | .tup a, .int k => if a ≠ [] ∧ 2 ≤ k ∧ k ≤ 1000 ∧ a.length ≤ 1000 then some (.tup (List.replicate k.toNat a).flatten) else none
  | _, _ => none
theorem s_repT : OpS K (rRepT K) oRepT := by
  intro F σ H G ρ v1 v2 x y t Q R q1 q2 e k
  unfold oRepT at e
  split at e
  · rename_i a n
    split at e
    · rename_i hl
      obtain ⟨h1, h2, h3, h4⟩ := hl
      cases e
      cases q2
      cases q1 with
      | @tup _ w1 _ z1 r1 =>
        refine ⟨_, _, _, rfl, rfl, R.sub.sqT z1, fun z => ?_, h2, h3, by rw [r1.length]; exact h4, fun p hp => ?_⟩
        · subst z; cases r1; exact h1 rfl
        · have st := R.alloc (.tup (List.replicate n.toNat w1).flatten) hp
          exact k _ _ _ st (.tup (.inl (.inl upd_same)) ((r1.replicate _).mono st.le))
    · cases e
  · cases e
end
section
variable {X : Cx} {F : Fr} {pos p : Pos} {e : Expr} {es : List Expr} {fs : Rho → Option (List T × Rho)} {x : Str}
theorem pxn_B {id : String} {r : List V → Hp → VK → Prop} {S : List T → Option T} (hc : CallR X (.builtin id) r) (hs : CallN X.K r S) (hg : Gl X x) (hm : X.mg x = none) (hv : bootBuiltins x = some (.builtin id)) (ha : PXA X F (e :: es) fs) (hn : x ≠ "__name__" := by decide) (hdb : (x == ("__debug__" : Str)) = false := by decide)
    (he : starEach (e :: es) X.env = (false, eval e X.env) :: starEach es X.env := by rfl) (hpl : (backTo pos (starEach es X.env)).any (·.1) = false := by rfl) : PXN X F (.Call (.Name x p) (e :: es) [] pos) (sA fs S) :=
  (pe_callB hc hg hm hv ha hn hdb he hpl).weak fun _ _ _ q => tCB_sN hs q
theorem pxn_Ty {T' : String} {r : List V → Hp → VK → Prop} {S : List T → Option T} (hc : CallR X (.type T') r) (hs : CallN X.K r S) (hg : Gl X x) (hm : X.mg x = none) (hv : bootBuiltins x = some (.type T')) (ha : PXA X F (e :: es) fs) (hn : x ≠ "__name__" := by decide) (hdb : (x == ("__debug__" : Str)) = false := by decide)
    (he : starEach (e :: es) X.env = (false, eval e X.env) :: starEach es X.env := by rfl) (hpl : (backTo pos (starEach es X.env)).any (·.1) = false := by rfl) : PXN X F (.Call (.Name x p) (e :: es) [] pos) (sA fs S) :=
  (pe_callTy hc hg hm hv ha hn hdb he hpl).weak fun _ _ _ q => tCB_sN hs q
theorem pxn_lst (h : PXA X F es fs) : PXN X F (.List es pos) (sA fs mkLst) := (pe_lst h).weak fun _ _ _ q => tCB_sN lst_new q
end
end PX
/-! PX10 -/
set_option autoImplicit false
set_option maxRecDepth 100000
set_option linter.all false
namespace PX
open PySem L2

section
variable {K : PySem.W.Frag}
/-! ### isinstance -/
def tyN : T → Option String
  | .non => some "NoneType"
  | .bl _ => some "bool"
  | .int _ => some "int"
  | .str _ => some "str"
  | .tup _ => some "tuple"
  | .lst _ => some "list"
  | .dct _ => some "dict"
  | .scr _ => some "list"
  | _ => none
theorem Rd.tyL {H : Hp} {a : Addr} {xs : List V} (h : SqL K H a xs) : TyX K H (.ref a) (.type "list") := by
  rcases h with (h | ⟨o, h⟩) | ⟨o, its, n, h1, h2, _⟩
  · exact .base (.lst h)
  · exact .base (.frz h)
  · exact .kList h1 h2
theorem Rd.tyT {H : Hp} {a : Addr} {xs : List V} (h : SqT K H a xs) : TyX K H (.ref a) (.type "tuple") := by
  rcases h with (h | ⟨o, h⟩) | ⟨o, its, n, h1, h2, _⟩
  · exact .base (.tup h)
  · exact .fTuple h
  · exact .kTuple h1 h2
theorem tyN_is {G H : Hp} (hs : Le G H) {x : V} {t : T} {n : String} (q : IsT K G x t) (e : tyN t = some n) : TyX K H x (.type n) := by
  cases q with
  | non => cases e; exact .base .non
  | bl b => cases e; exact .base (.bl b)
  | int i => cases e; exact .base (.int i)
  | str x => cases e; exact .base (.str x)
  | tup z r => cases e; exact Rd.tyT (hs.sqT z)
  | lst z r => cases e; exact .base (.lst (hs _ _ z))
  | dct z _ r => cases e; exact .base (.dK (hs _ _ z))
  | obj z _ r => cases e
  | scr z => cases e; exact Rd.tyL (hs.sqL z)
  | raw v => cases e
/-- the kinds of a value a built-in type takes -/
def isA (n m : String) : Bool := n == m || (n == "bool" && m == "int")
def knownTy (n : String) : Bool := ["NoneType", "bool", "int", "str", "tuple", "list", "dict"].contains n
def isB (a b : String) : Option Bool := if knownTy a && knownTy b && b != "NoneType" then some (isA a b) else none
theorem isB_kit {a b : String} {r : Bool} (h : isB a b = some r) : kitB a b = some r := by
  unfold isB at h
  split at h
  · rename_i hk
    cases h
    have h1 : knownTy a = true := by revert hk; cases knownTy a <;> simp
    have h2 : knownTy b = true := by revert hk; cases knownTy b <;> simp
    have h3 : b ≠ "NoneType" := by
      intro z; subst z; simp at hk
    unfold knownTy at h1 h2
    simp only [List.contains_cons, List.contains_nil, Bool.or_false, Bool.or_eq_true, beq_iff_eq] at h1 h2
    rcases h1 with rfl | rfl | rfl | rfl | rfl | rfl | rfl <;> rcases h2 with rfl | rfl | rfl | rfl | rfl | rfl | rfl <;> first | exact absurd rfl h3 | decide +kernel
  · cases h
/-- isinstance(x, T) -/
def oIsB : List T → Option T := fun xs => match xs with
  | [x, .raw (.ty b)] => (match tyN x with
    | some a => (match isB a b with
      | some r => some (.bl r)
      | none => none)
    | none => none)
  | _ => none
theorem c_isB : CallS K (rIsi K) oIsB := by
  intro F σ H G ρ vs xs t Q R r e k
  unfold oIsB at e
  split at e
  · rename_i x b
    split at e
    · rename_i a e1
      split at e
      · rename_i r' e2
        cases e
        cases r with
        | cons q r =>
          cases r with
          | cons q2 r =>
            cases r
            cases q2
            exact ⟨_, _, _, _, r', rfl, .ty b, tyN_is R.sub q e1, kit_ty (isB_kit e2), k _ H G (.refl R) (.bl _)⟩
      · cases e
    · cases e
  · cases e
/-- isinstance(x, C): what the class's facts say -/
structure IsC (K : PySem.W.Frag) (c : Str) : Prop where
  cl : Cls K (He.ga K c)
  ha : PySem.W.findIn K (.ref (He.ga K c)) "__class__" = some (some (.builtin "object.__class__"))
  hn : PySem.W.specialIn K (.builtin "object.__class__") "__get__" = some (some (.builtin "getset_descriptor.__get__"))
  ht : PySem.W.takesIn K (.builtin "object.__class__") = some true
  hm : PySem.W.mroIn K (He.ga K c) (.type "object") = some true
/-- a class or a built-in type, as one looks at a value -/
def tyK (K : PySem.W.Frag) : T → Option Value
  | .obj c _ => some (.ref (He.ga K c))
  | t => (tyN t).map Value.type
def oIsC (K : PySem.W.Frag) (tab : List (Str × Bool)) (a : Addr) : List T → Option T := fun xs => match xs with
  | [.obj c _, .raw _] => (match tab.lookup c with
    | some b => some (.bl b)
    | none => none)
  | _ => none
/-- isinstance(o, C): tab tells of each class that may come whether it is C's -/
structure IsTab (K : PySem.W.Frag) (a : Addr) (tab : List (Str × Bool)) : Prop where
  all : ∀ c b, tab.lookup c = some b → IsC K c ∧ PySem.W.kitOne K (.ref (He.ga K c)) (.ref a) = some b
theorem c_isC {a : Addr} {tab : List (Str × Bool)} (h : IsTab K a tab) {F : Fr} {σ : L2.St} {H G : Hp} {ρ : Rho} {v : V} {c : Str} {fts : List (Str × T)} {b : Bool} {Q : VK} (R : Rep K F H G σ ρ) (q : IsT K G v (.obj c fts)) (e : tab.lookup c = some b)
    (k : Q (.bl b) H) : rIsi K [v, .ref a] H Q := by
  obtain ⟨ic, ko⟩ := h.all c b e
  cases q with
  | obj z _ _ => exact ⟨_, _, _, _, b, rfl, .own a, .base (.ins (R.sub _ _ z) ic.cl ic.ha ic.hn ic.ht ic.hm), ko, k⟩
end
/-! ### a method of a built-in type, of a value -/
section
variable {K : PySem.W.Frag}
def MtS (K : PySem.W.Frag) (T' : String) (r : V → List V → Hp → VK → Prop) (S : T → List T → Option T) : Prop := ∀ {F : Fr} {σ : L2.St} {H G : Hp} {ρ : Rho} {v : V} {x : T} {vs : List V} {xs : List T} {t : T} {Q : VK}, Rep K F H G σ ρ → IsT K G v x → IsTs K G vs xs → S x xs = some t →
  (∀ w H' G', Stp K F σ H G ρ H' G' ρ → IsT K G' w t → Q w H') → r v vs H Q
/-- the receiver's type -/
def isTyT (T' : String) : T → Bool
  | .str _ => T' == "str"
  | .lst _ => T' == "list"
  | .scr _ => T' == "list"
  | .dct _ => T' == "dict"
  | _ => false
theorem isTyT_is {T' : String} {G H : Hp} (hs : Le G H) {v : V} {x : T} (q : IsT K G v x) (e : isTyT T' x = true) : tyV K T' v H := by
  cases q with
  | str x => exact beq_iff_eq.mp e
  | lst z r => exact .inl ⟨beq_iff_eq.mp e, _, .inl (.inl (hs _ _ z))⟩
  | scr z => exact .inl ⟨beq_iff_eq.mp e, _, hs.sqL z⟩
  | dct z _ _ => exact .inr (.inr (.inl ⟨beq_iff_eq.mp e, .inl ⟨_, hs _ _ z⟩⟩))
  | _ => cases e
def sB (T' : String) (fo : Rho → Option (T × Rho)) (fs : Rho → Option (List T × Rho)) (S : T → List T → Option T) : Rho → Option (T × Rho) := fun ρ => match fo ρ with
  | some (x, ρ1) => if isTyT T' x then (match fs ρ1 with
    | some (xs, ρ2) => (match S x xs with
      | some t => some (t, ρ2)
      | none => none)
    | none => none) else none
  | none => none
theorem sB_ok {F : Fr} {T' : String} {r : V → List V → Hp → VK → Prop} {S : T → List T → Option T} {fo : Rho → Option (T × Rho)} {fs : Rho → Option (List T × Rho)} (hs : MtS K T' r S) {σ : L2.St} {H : Hp} {Q : VK} (h : tX K F (sB T' fo fs S) σ H Q) :
    tBM K T' r (tX K F fo) (tXA K F fs) σ H Q := by
  obtain ⟨G, ρ, t, ρ', R, e, k⟩ := h
  unfold sB at e
  split at e
  · rename_i x ρ1 e1
    split at e
    · rename_i hty
      split at e
      · rename_i xs ρ2 e2
        split at e
        · rename_i t' e3
          cases e
          refine tX_bind R e1 fun v H1 G1 p1 q1 => ⟨isTyT_is p1.rep.sub q1 hty, tXA_bind p1.rep e2 fun vs H2 G2 p2 r2 => ?_⟩
          exact hs p2.rep (q1.mono p2.le) r2 e3 fun w H3 G3 p3 q3 => k w H3 G3 ((p1.trans p2).trans p3) q3
        · cases e
      · cases e
    · cases e
  · cases e
/-- .. of a cell: it may be changed -/
def MtC (K : PySem.W.Frag) (r : V → List V → Hp → VK → Prop) (S : T → List T → Option (T × T)) : Prop := ∀ {G H : Hp} {p : Addr} {c : T} {vs : List V} {xs : List T} {t c' : T} {Q : VK}, Le G H → G p = none → CellAt K G H p c → IsTs K G vs xs → S c xs = some (t, c') →
  (∀ w o, CellAt K G (upd H p o) p c' → IsT K G w t → Q w (upd H p o)) → r (.ref p) vs H Q
def isTyC (T' : String) : T → Bool
  | .lst _ => T' == "list"
  | .dct _ => T' == "dict"
  | _ => false
theorem isTyC_is {T' : String} {G H : Hp} {p : Addr} {c : T} (q : CellAt K G H p c) (e : isTyC T' c = true) : tyV K T' (.ref p) H := by
  cases c with
  | lst ts => obtain ⟨vs, z, r⟩ := q; exact .inl ⟨beq_iff_eq.mp e, _, .inl (.inl z)⟩
  | dct kts => obtain ⟨kvs, z, _⟩ := q; exact .inr (.inr (.inl ⟨beq_iff_eq.mp e, .inl ⟨_, z⟩⟩))
  | _ => cases e
def sBC (T' : String) (i : Nat) (fs : Rho → Option (List T × Rho)) (S : T → List T → Option (T × T)) : Rho → Option (T × Rho) := fun ρ => match ρ[i]? with
  | some (Sl.cl _ c0) => if isTyC T' c0 then (match fs ρ with
    | some (xs, ρ1) => (match ρ1[i]? with
      | some (Sl.cl b c) => (match S c xs with
        | some (t, c') => some (t, ρ1.set i (.cl b c'))
        | none => none)
      | _ => none)
    | none => none) else none
  | _ => none
theorem sBC_ok {F : Fr} {T' : String} {i : Nat} {r : V → List V → Hp → VK → Prop} {S : T → List T → Option (T × T)} {fs : Rho → Option (List T × Rho)} (hs : MtC K r S) {σ : L2.St} {H : Hp} {Q : VK} (h : tX K F (sBC T' i fs S) σ H Q) :
    tBM K T' r (tVar i) (tXA K F fs) σ H Q := by
  obtain ⟨G, ρ, t, ρ', R, e, k⟩ := h
  unfold sBC at e
  split at e
  · rename_i b0 c0 e0
    split at e
    · rename_i hty
      split at e
      · rename_i xs ρ1 e1
        split at e
        · rename_i b c e2
          split at e
          · rename_i t' c' e3
            cases e
            obtain ⟨p, s0, _, cc0, _⟩ := R.cl i b0 c0 e0
            refine ⟨_, s0, isTyC_is cc0 hty, tXA_bind R e1 fun vs H1 G1 p1 r1 => ?_⟩
            obtain ⟨p', s1, g1, c1, _⟩ := p1.rep.cl i b c e2
            rw [s0] at s1
            cases s1
            exact hs p1.rep.sub g1 c1 r1 e3 fun w o cc q => k w _ _ (p1.trans (p1.rep.put e2 s0 cc)) q
          · cases e
        · cases e
      · cases e
    · cases e
  · cases e
/-! what the methods do -/
def oAppend : T → List T → Option (T × T) := fun c xs => match c, xs with
  | .lst ts, [y] => if ts.length < 1000 then some (.non, .lst (ts ++ [y])) else none
  | _, _ => none
theorem m_append : MtC K rAppend oAppend := by
  intro G H p c vs xs t c' Q hg hp cc r e k
  unfold oAppend at e
  split at e
  · split at e
    · rename_i hl
      cases e
      obtain ⟨ws, z, r1⟩ := cc
      cases r with
      | cons q r => cases r; exact ⟨p, ws, _, rfl, rfl, z, lt_line (by rw [r1.length]; omega), k _ _ ⟨_, upd_same, r1.append (.cons q .nil)⟩ .non⟩
    · cases e
  · cases e
def oExtend : T → List T → Option (T × T) := fun c xs => match c, xs with
  | .lst ts, [.lst us] => if ts.length + us.length ≤ 1000 then some (.non, .lst (ts ++ us)) else none
  | _, _ => none
theorem m_extend : MtC K rExtend oExtend := by
  intro G H p c vs xs t c' Q hg hp cc r e k
  unfold oExtend at e
  split at e
  · split at e
    · rename_i hl
      cases e
      obtain ⟨ws, z, r1⟩ := cc
      cases r with
      | cons q r =>
        cases r
        cases q with
        | lst z2 r2 => exact ⟨p, _, ws, _, rfl, rfl, z, hg _ _ z2, le_line (by rw [r1.length, r2.length]; omega), k _ _ ⟨_, upd_same, r1.append r2⟩ .non⟩
    · cases e
  · cases e
def oPopAt : T → List T → Option (T × T) := fun c xs => match c, xs with
  | .lst ts, [.int i] => (match ixN ts.length i with
    | some j => (match ts[j]? with
      | some t => if ts.length ≤ 1000 then some (t, .lst (ts.eraseIdx j)) else none
      | none => none)
    | none => none)
  | _, _ => none
theorem m_popAt : MtC K rPopAt oPopAt := by
  intro G H p c vs xs t c' Q hg hp cc r e k
  unfold oPopAt at e
  split at e
  · rename_i ts i
    split at e
    · rename_i j e1
      split at e
      · rename_i t' e2
        split at e
        · rename_i hl
          cases e
          obtain ⟨ws, z, r1⟩ := cc
          obtain ⟨h1, h2, h3, h4⟩ := ixN_seq e1
          obtain ⟨y, hy, qy⟩ := r1.get e2
          cases r with
          | cons q r =>
            cases r
            cases q
            exact ⟨p, ws, i, j, y, rfl, rfl, z, by omega, by omega, by rw [r1.length]; exact h1, hy, k _ _ ⟨_, upd_same, r1.eraseIdx j⟩ qy⟩
        · cases e
      · cases e
    · cases e
  · cases e
end
section
variable {X : Cx} {F : Fr} {pos p apos : Pos} {e a b cc : Expr} {es : List Expr} {fs : Rho → Option (List T × Rho)} {fa fb fc : Rho → Option (T × Rho)} {name : Str} {T' id : String} {r : V → List V → Hp → VK → Prop}
theorem px_bm {S : T → List T → Option T} (hs : MtS X.K T' r S) (pa : PlainAttrs T') (slot : Slot T' name id) (hty : typeOf (.builtin id) = pure (.type "method_descriptor")) (hm : MtR X id r) (ho : PX X F a fa) (ha : PXA X F (e :: es) fs)
    (hbase : attributeBase a name X.env (eval a X.env) = eval a X.env := by rfl)
    (hfew : ((backTo pos (starEach (e :: es) X.env)).all (fun x => !x.1) && (backToKw pos (keywordEach [] X.env)).all (fun x => x.1.isSome)
      && decide ((e :: es).length + ([] : List Keyword).length + (if ([] : List Keyword).isEmpty then 0 else 1) < 30)) = true := by rfl)
    (hline : (apos.endLine == pos.line) = true := by rfl) (hst : starEach (e :: es) X.env = (false, eval e X.env) :: starEach es X.env := by rfl) (hplain : (backTo pos (starEach es X.env)).any (·.1) = false := by rfl) :
    PX X F (.Call (.Attribute a name apos) (e :: es) [] pos) (sB T' fa fs S) := (pe_bm pa slot hty hm ho ha hbase hfew hline hst hplain).weak fun _ _ _ h => sB_ok hs h
theorem px_bmC {S : T → List T → Option (T × T)} (i : Nat) {y : Str} {py : Pos} (hs : MtC X.K r S) (pa : PlainAttrs T') (slot : Slot T' name id) (hty : typeOf (.builtin id) = pure (.type "method_descriptor")) (hm : MtR X id r) (ha : PXA X F (e :: es) fs)
    (hN : X.N[i]? = some y := by rfl) (hv : Vis X.env.scope y := by first | exact Or.inl rfl | exact Or.inr (Or.inl rfl) | exact Or.inr (Or.inr rfl)) (hd : (y == ("__debug__" : Str)) = false := by decide) (hcd : (y == ("__classdict__" : Str)) = false := by decide)
    (hbase : attributeBase (.Name y py) name X.env (eval (.Name y py) X.env) = eval (.Name y py) X.env := by rfl)
    (hfew : ((backTo pos (starEach (e :: es) X.env)).all (fun x => !x.1) && (backToKw pos (keywordEach [] X.env)).all (fun x => x.1.isSome)
      && decide ((e :: es).length + ([] : List Keyword).length + (if ([] : List Keyword).isEmpty then 0 else 1) < 30)) = true := by rfl)
    (hline : (apos.endLine == pos.line) = true := by rfl) (hst : starEach (e :: es) X.env = (false, eval e X.env) :: starEach es X.env := by rfl) (hplain : (backTo pos (starEach es X.env)).any (·.1) = false := by rfl) :
    PX X F (.Call (.Attribute (.Name y py) name apos) (e :: es) [] pos) (sBC T' i fs S) := (pe_bm pa slot hty hm (pv i hN hv hd hcd) ha hbase hfew hline hst hplain).weak fun _ _ _ h => sBC_ok hs h
theorem px_append (i : Nat) {y : Str} {py : Pos} (ha : PX X F e fa) (hN : X.N[i]? = some y := by rfl) (hv : Vis X.env.scope y := by first | exact Or.inl rfl | exact Or.inr (Or.inl rfl) | exact Or.inr (Or.inr rfl)) (hd : (y == ("__debug__" : Str)) = false := by decide) (hcd : (y == ("__classdict__" : Str)) = false := by decide)
    (hbase : attributeBase (.Name y py) "append" X.env (eval (.Name y py) X.env) = eval (.Name y py) X.env := by rfl) (hline : (apos.endLine == pos.line) = true := by rfl) (hst : starEach [e] X.env = (false, eval e X.env) :: starEach [] X.env := by rfl) :
    PX X F (.Call (.Attribute (.Name y py) "append" apos) [e] [] pos) (sBC "list" i (acons fa anil) oAppend) :=
  px_bmC i m_append PySem.F.plainAttrs_list PySem.F.slot_list_append PySem.F.type_list_append mt_append (pxa_cons ha pxa_nil hst) hN hv hd hcd hbase (by rw [hst]; rfl) hline hst rfl
end
end PX
/-! PX11 -/
set_option autoImplicit false
set_option maxRecDepth 100000
set_option linter.all false
namespace PX
open PySem L2

section
variable {X : Cx} {F : Fr} {pos p p2 apos : Pos} {e a b d : Expr} {es : List Expr} {fs : Rho → Option (List T × Rho)} {fa fb fc fo : Rho → Option (T × Rho)} {x y : Str} {py : Pos}
/-! ### isinstance, whole -/
def oIsT (n : String) : T → Option T := fun x => match tyN x with
  | some a => (match isB a n with
    | some r => some (.bl r)
    | none => none)
  | none => none
theorem px_isT (n : String) (hm : X.mg "isinstance" = none) (hmx : X.mg x = none) (ha : PX X F a fa) (hv : bootBuiltins x = some (.type n) := by rfl) (hg : Gl X "isinstance" := by rfl) (hgx : Gl X x := by rfl)
    (hn : x ≠ "__name__" := by decide) (hdb : (x == ("__debug__" : Str)) = false := by decide) (hv0 : bootBuiltins "isinstance" = some (.builtin "isinstance") := by rfl)
    (he : starEach [a, .Name x p2] X.env = (false, eval a X.env) :: starEach [.Name x p2] X.env := by rfl) (he2 : starEach [.Name x p2] X.env = (false, eval (.Name x p2) X.env) :: starEach [] X.env := by rfl) (hpl : (backTo pos (starEach [.Name x p2] X.env)).any (·.1) = false := by rfl) :
    PX X F (.Call (.Name "isinstance" p) [a, .Name x p2] [] pos) (s1 fa (oIsT n)) :=
  (pe_callB call_isi hg hm hv0 (pa_cons ha (pa_cons (pe_bltn hgx hmx hv (v := .ty n) rfl hn hdb) pa_nil he2) he) (by decide) (by decide) he hpl).weak fun σ H Q h => by
    obtain ⟨G, ρ, t, ρ', R, e, k⟩ := h
    unfold s1 at e
    split at e
    · rename_i z ρ1 e1
      split at e
      · rename_i t' e2
        cases e
        refine tX_bind R e1 fun v1 H1 G1 p1 q1 => ?_
        unfold oIsT at e2
        split at e2
        · rename_i m e3
          split at e2
          · rename_i r' e4
            cases e2
            exact ⟨_, _, _, _, r', rfl, .ty n, tyN_is p1.rep.sub q1 e3, kit_ty (isB_kit e4), k _ H1 G1 p1 (.bl _)⟩
          · cases e2
        · cases e2
      · cases e
    · cases e
/-- bs, cs: which built-in types, which classes are C's -/
structure IsTb (K : PySem.W.Frag) (a : Addr) (bs : List (String × Bool)) (cs : List (Str × Bool)) : Prop where
  bt : ∀ n b, bs.lookup n = some b → PySem.W.kitOne K (.type n) (.ref a) = some b
  own : ∀ c b, cs.lookup c = some b → IsC K c ∧ PySem.W.kitOne K (.ref (He.ga K c)) (.ref a) = some b
def oIsO (bs : List (String × Bool)) (cs : List (Str × Bool)) : T → Option T := fun x => match x with
  | .obj c _ => (match cs.lookup c with
    | some b => some (.bl b)
    | none => none)
  | x => (match tyN x with
    | some n => (match bs.lookup n with
      | some b => some (.bl b)
      | none => none)
    | none => none)
theorem px_isO (bs : List (String × Bool)) (cs : List (Str × Bool)) {C : Addr} (tb : IsTb X.K C bs cs) (hm : X.mg "isinstance" = none) (hmx : X.mg x = some (.ref C)) (ha : PX X F a fa) (hg : Gl X "isinstance" := by rfl) (hgx : Gl X x := by rfl)
    (hdb : (x == ("__debug__" : Str)) = false := by decide) (hv0 : bootBuiltins "isinstance" = some (.builtin "isinstance") := by rfl)
    (he : starEach [a, .Name x p2] X.env = (false, eval a X.env) :: starEach [.Name x p2] X.env := by rfl) (he2 : starEach [.Name x p2] X.env = (false, eval (.Name x p2) X.env) :: starEach [] X.env := by rfl) (hpl : (backTo pos (starEach [.Name x p2] X.env)).any (·.1) = false := by rfl) :
    PX X F (.Call (.Name "isinstance" p) [a, .Name x p2] [] pos) (s1 fa (oIsO bs cs)) :=
  (pe_callB call_isi hg hm hv0 (pa_cons ha (pa_cons (pe_glob hgx hmx (v := .ref C) rfl hdb) pa_nil he2) he) (by decide) (by decide) he hpl).weak fun σ H Q h => by
    obtain ⟨G, ρ, t, ρ', R, e, k⟩ := h
    unfold s1 at e
    split at e
    · rename_i z ρ1 e1
      split at e
      · rename_i t' e2
        cases e
        refine tX_bind R e1 fun v1 H1 G1 p1 q1 => ?_
        unfold oIsO at e2
        split at e2
        · rename_i c fts
          split at e2
          · rename_i b' e3
            cases e2
            obtain ⟨ic, ko⟩ := tb.own c b' e3
            cases q1 with
            | obj z _ _ => exact ⟨_, _, _, _, b', rfl, .own C, .base (.ins (p1.rep.sub _ _ z) ic.cl ic.ha ic.hn ic.ht ic.hm), ko, k _ H1 G1 p1 (.bl _)⟩
          · cases e2
        · split at e2
          · rename_i n e3
            split at e2
            · rename_i b' e4
              cases e2
              exact ⟨_, _, _, _, b', rfl, .own C, tyN_is p1.rep.sub q1 e3, tb.bt n b' e4, k _ H1 G1 p1 (.bl _)⟩
            · cases e2
          · cases e2
      · cases e
    · cases e
/-! ### an item of a cell -/
def ixC (i : Nat) (fb : Rho → Option (T × Rho)) : Rho → Option (T × Rho) := fun ρ => match ρ[i]? with
  | some (Sl.cl _ _) => (match fb ρ with
    | some (.int n, ρ1) => (match ρ1[i]? with
      | some (Sl.cl _ (.lst ts)) => (match atI ts n with
        | some t => some (t, ρ1)
        | none => none)
      | _ => none)
    | _ => none)
  | _ => none
theorem px_ixC (i : Nat) (hb : PX X F b fb) (hs : PlainIx b := by exact fun _ _ => rfl) (hN : X.N[i]? = some y := by rfl) (hv : Vis X.env.scope y := by first | exact Or.inl rfl | exact Or.inr (Or.inl rfl) | exact Or.inr (Or.inr rfl)) (hd : (y == ("__debug__" : Str)) = false := by decide) (hcd : (y == ("__classdict__" : Str)) = false := by decide) :
    PX X F (.Subscript (.Name y py) b pos) (ixC i fb) := (pe_ix ix_seq (pv i hN hv hd hcd) hb hs).weak fun σ H Q h => by
  obtain ⟨G, ρ, t, ρ', R, e, k⟩ := h
  unfold ixC at e
  split at e
  · rename_i b0 c0 e0
    split at e
    · rename_i n ρ1 e1
      split at e
      · rename_i b1 ts e2
        split at e
        · rename_i t' e3
          cases e
          obtain ⟨q, s0, _⟩ := R.cl i b0 c0 e0
          refine ⟨_, s0, tX_bind R e1 fun v1 H1 G1 p1 q1 => ?_⟩
          obtain ⟨q', s1, g1, cc, _⟩ := p1.rep.cl i b1 _ e2
          rw [s0] at s1
          cases s1
          obtain ⟨vs, z, r⟩ := cc
          cases q1
          obtain ⟨w, h1, h2⟩ := atI_ts r e3
          exact .inl ⟨_, _, _, w, rfl, rfl, .inl (.inl z), h1, k w H1 G1 p1 h2⟩
        · cases e
      · cases e
    · cases e
  · cases e
/-! ### a chain of comparisons -/
def chn (fa fb fc : Rho → Option (T × Rho)) (S S' : T → T → Option T) : Rho → Option (T × Rho) := fun ρ => match fa ρ with
  | some (x, ρ1) => (match fb ρ1 with
    | some (y, ρ2) => (match S x y with
      | some (.bl true) => (match fc ρ2 with
        | some (z, ρ3) => (match S' y z with
          | some t => some (t, ρ3)
          | none => none)
        | none => none)
      | some (.bl false) => some (.bl false, ρ2)
      | _ => none)
    | none => none)
  | none => none
theorem chn_ok {r r' : R2} {S S' : T → T → Option T} (hs : OpS X.K r S) (hs' : OpS X.K r' S') {σ : L2.St} {H : Hp} {Q : VK} (h : tX X.K F (chn fa fb fc S S') σ H Q) : tChain r r' (tX X.K F fa) (tX X.K F fb) (tX X.K F fc) σ H Q := by
  obtain ⟨G, ρ, t, ρ', R, e, k⟩ := h
  unfold chn at e
  split at e
  · rename_i x ρ1 e1
    split at e
    · rename_i y ρ2 e2
      split at e
      · rename_i e3
        split at e
        · rename_i z ρ3 e4
          split at e
          · rename_i t' e5
            cases e
            refine tX_bind R e1 fun v1 H1 G1 p1 q1 => tX_bind p1.rep e2 fun v2 H2 G2 p2 q2 => ?_
            refine hs p2.rep (q1.mono p2.le) q2 e3 fun w H3 G3 p3 q3 => ?_
            cases q3
            refine ⟨true, rfl, ?_⟩
            rw [if_pos rfl]
            refine tX_bind p3.rep e4 fun v3 H4 G4 p4 q4 => ?_
            exact hs' p4.rep ((q2.mono p3.le).mono p4.le) q4 e5 fun w' H5 G5 p5 q5 => k w' H5 G5 ((((p1.trans p2).trans p3).trans p4).trans p5) q5
          · cases e
        · cases e
      · rename_i e3
        cases e
        refine tX_bind R e1 fun v1 H1 G1 p1 q1 => tX_bind p1.rep e2 fun v2 H2 G2 p2 q2 => ?_
        refine hs p2.rep (q1.mono p2.le) q2 e3 fun w H3 G3 p3 q3 => ?_
        cases q3
        refine ⟨false, rfl, ?_⟩
        rw [if_neg (by decide)]
        exact k _ H3 G3 ((p1.trans p2).trans p3) (.bl _)
      · cases e
    · cases e
  · cases e
theorem px_chain {op op' : CmpOp} {r r' : R2} {S S' : T → T → Option T} (ho : OpR X (compareOp op) r) (hs : OpS X.K r S) (ho' : OpR X (compareOp op') r') (hs' : OpS X.K r' S') (ha : PX X F a fa) (hb : PX X F b fb) (hc : PX X F d fc)
    (hm : lastMarks [op, op'] [b, d] = false := by with_unfolding_all rfl) : PX X F (.Compare a [op, op'] [b, d] pos) (chn fa fb fc S S') := (pe_chain ho ho' ha hb hc hm).weak fun _ _ _ h => chn_ok hs hs' h
theorem pxt_chain {op op' : CmpOp} {r r' : R2} {S S' : T → T → Option T} (ho : OpR X (compareOp op) r) (hs : OpS X.K r S) (ho' : OpR X (compareOp op') r') (hs' : OpS X.K r' S') (ha : PX X F a fa) (hb : PX X F b fb) (hc : PX X F d fc)
    (hm : lastMarks [op, op'] [b, d] = false := by with_unfolding_all rfl) : PXT X F (.Compare a [op, op'] [b, d] pos) (tb (chn fa fb fc S S')) := (pt_chain ho ho' ha hb hc hm).weak fun _ _ _ h => tTest_tb (fun _ _ _ q => chn_ok hs hs' q) h
/-! ### a look at a cell of one's own: it stands as a value while e is evaluated -/
def flatS : T → Bool
  | .non => true
  | .bl _ => true
  | .int _ => true
  | .str _ => true
  | _ => false
def flatC : T → Bool
  | .lst ts => ts.all flatS
  | _ => false
/-- behind the look: values as before, the other cells as they are now (flat things alone in them) -/
def mrg : Rho → Rho → Option Rho
  | [], [] => some []
  | .im t :: r, _ :: r' => (mrg r r').map (.im t :: ·)
  | .no :: r, _ :: r' => (mrg r r').map (.no :: ·)
  | .cl _ _ :: r, .cl b t :: r' => if flatC t then (mrg r r').map (.cl b t :: ·) else none
  | _, _ => none
def vw (i : Nat) (f : Rho → Option (T × Rho)) : Rho → Option (T × Rho) := fun ρ => match ρ[i]? with
  | some (Sl.cl true t) => (match f (ρ.set i (.im t)) with
    | some (u, ρ') => if flatS u then (match mrg (ρ.set i .no) ρ' with
      | some ρ2 => some (u, ρ2.set i (.cl true t))
      | none => none) else none
    | none => none)
  | _ => none
theorem mrg_len : ∀ {ρ ρ' ρ2 : Rho}, mrg ρ ρ' = some ρ2 → ρ2.length = ρ.length
  | [], [], _, e => by cases e; rfl
  | [], _ :: _, _, e => by cases e
  | .im t :: r, [], _, e => by cases e
  | .no :: r, [], _, e => by cases e
  | .cl _ _ :: r, [], _, e => by cases e
  | .im t :: r, _ :: r', _, e => by
    unfold mrg at e
    cases h : mrg r r' with
    | none => rw [h] at e; cases e
    | some z => rw [h] at e; cases e; rw [List.length_cons, List.length_cons, mrg_len h]
  | .no :: r, _ :: r', _, e => by
    unfold mrg at e
    cases h : mrg r r' with
    | none => rw [h] at e; cases e
    | some z => rw [h] at e; cases e; rw [List.length_cons, List.length_cons, mrg_len h]
  | .cl _ _ :: r, .cl b t :: r', _, e => by
    unfold mrg at e
    split at e
    · cases h : mrg r r' with
      | none => rw [h] at e; cases e
      | some z => rw [h] at e; cases e; rw [List.length_cons, List.length_cons, mrg_len h]
    · cases e
  | .cl _ _ :: r, .im _ :: r', _, e => by cases e
  | .cl _ _ :: r, .no :: r', _, e => by cases e
theorem mrg_im : ∀ {ρ ρ' ρ2 : Rho}, mrg ρ ρ' = some ρ2 → ∀ {j : Nat} {t : T}, ρ2[j]? = some (Sl.im t) → ρ[j]? = some (Sl.im t)
  | [], [], _, e, j, t, h => by cases e; exact h
  | [], _ :: _, _, e, _, _, _ => by cases e
  | .im t :: r, [], _, e, _, _, _ => by cases e
  | .no :: r, [], _, e, _, _, _ => by cases e
  | .cl _ _ :: r, [], _, e, _, _, _ => by cases e
  | .im t :: r, _ :: r', _, e, j, u, h => by
    unfold mrg at e
    cases z : mrg r r' with
    | none => rw [z] at e; cases e
    | some w =>
      rw [z] at e; cases e
      cases j with
      | zero => exact h
      | succ j => exact mrg_im z h
  | .no :: r, _ :: r', _, e, j, u, h => by
    unfold mrg at e
    cases z : mrg r r' with
    | none => rw [z] at e; cases e
    | some w =>
      rw [z] at e; cases e
      cases j with
      | zero => exact h
      | succ j => exact mrg_im z h
  | .cl _ _ :: r, .cl b t :: r', _, e, j, u, h => by
    unfold mrg at e
    split at e
    · cases z : mrg r r' with
      | none => rw [z] at e; cases e
      | some w =>
        rw [z] at e; cases e
        cases j with
        | zero => cases h
        | succ j => exact mrg_im z h
    · cases e
  | .cl _ _ :: r, .im _ :: r', _, e, _, _, _ => by cases e
  | .cl _ _ :: r, .no :: r', _, e, _, _, _ => by cases e
theorem mrg_cl : ∀ {ρ ρ' ρ2 : Rho}, mrg ρ ρ' = some ρ2 → ∀ {j : Nat} {b : Bool} {t : T}, ρ2[j]? = some (Sl.cl b t) → ρ'[j]? = some (Sl.cl b t) ∧ flatC t = true ∧ ∃ b0 t0, ρ[j]? = some (Sl.cl b0 t0)
  | [], [], _, e, j, b, t, h => by cases e; cases h
  | [], _ :: _, _, e, _, _, _, _ => by cases e
  | .im t :: r, [], _, e, _, _, _, _ => by cases e
  | .no :: r, [], _, e, _, _, _, _ => by cases e
  | .cl _ _ :: r, [], _, e, _, _, _, _ => by cases e
  | .im t :: r, _ :: r', _, e, j, b, u, h => by
    unfold mrg at e
    cases z : mrg r r' with
    | none => rw [z] at e; cases e
    | some w =>
      rw [z] at e; cases e
      cases j with
      | zero => cases h
      | succ j => exact mrg_cl z h
  | .no :: r, _ :: r', _, e, j, b, u, h => by
    unfold mrg at e
    cases z : mrg r r' with
    | none => rw [z] at e; cases e
    | some w =>
      rw [z] at e; cases e
      cases j with
      | zero => cases h
      | succ j => exact mrg_cl z h
  | .cl b0 t0 :: r, .cl b t :: r', _, e, j, b', u, h => by
    unfold mrg at e
    split at e
    · rename_i hf
      cases z : mrg r r' with
      | none => rw [z] at e; cases e
      | some w =>
        rw [z] at e; cases e
        cases j with
        | zero => cases h; exact ⟨rfl, hf, b0, t0, rfl⟩
        | succ j => exact mrg_cl z h
    · cases e
  | .cl _ _ :: r, .im _ :: r', _, e, _, _, _, _ => by cases e
  | .cl _ _ :: r, .no :: r', _, e, _, _, _, _ => by cases e
theorem flatS_any {K : PySem.W.Frag} {G G' : Hp} {v : V} {t : T} (h : flatS t = true) (q : IsT K G v t) : IsT K G' v t := by
  cases q with
  | non => exact .non
  | bl b => exact .bl b
  | int i => exact .int i
  | str x => exact .str x
  | _ => cases h
theorem flatSs_any {K : PySem.W.Frag} {G G' : Hp} : ∀ {vs : List V} {ts : List T}, ts.all flatS = true → IsTs K G vs ts → IsTs K G' vs ts
  | _, [], _, q => by cases q; exact .nil
  | _, t :: r, h, q => by
    rw [List.all_cons, Bool.and_eq_true] at h
    cases q with | cons a b => exact .cons (flatS_any h.1 a) (flatSs_any h.2 b)
theorem flatC_any {K : PySem.W.Frag} {G G' H : Hp} {p : Addr} {t : T} (h : flatC t = true) (q : CellAt K G H p t) : CellAt K G' H p t := by
  cases t with
  | lst ts => obtain ⟨vs, z, r⟩ := q; exact ⟨vs, z, flatSs_any h r⟩
  | _ => cases h
theorem vw_ok {i : Nat} {f : Rho → Option (T × Rho)} {K : PySem.W.Frag} {σ : L2.St} {H : Hp} {Q : VK} (h : tX K F (vw i f) σ H Q) : tX K F f σ H Q := by
  obtain ⟨G, ρ, t, ρ', R, e, k⟩ := h
  unfold vw at e
  split at e
  · rename_i c e0
    split at e
    · rename_i u ρ1 e1
      split at e
      · rename_i hu
        split at e
        · rename_i ρ2 e2
          cases e
          obtain ⟨p, o, s0, ho, g0, l1, R1⟩ := R.freezeAt e0
          have hil : i < ρ.length := (List.getElem?_eq_some_iff.mp e0).1
          have hl2 : ρ2.length = ρ.length := by rw [mrg_len e2, List.length_set]
          refine ⟨upd G p o, ρ.set i (.im c), t, ρ1, R1, e1, fun v H' G1 st q => ?_⟩
          obtain ⟨_, s0', _, cc, fr, _⟩ := R.cl i true c e0
          rw [s0] at s0'
          cases s0'
          have gp : G1 p = some o := st.ext.g p o upd_same
          have hG : Le G (fun a => if a = p then none else G1 a) := fun a x h => by
            have n : a ≠ p := fun z => by subst z; rw [g0] at h; cases h
            show (if a = p then none else G1 a) = _
            rw [if_neg n]
            exact st.ext.g a x (by rw [upd_ne n]; exact h)
          have hlow : ∀ {a x}, (if a = p then none else G1 a) = some x → a ≠ p ∧ G1 a = some x := fun {a x} h => by
            by_cases n : a = p
            · rw [if_pos n] at h; cases h
            · rw [if_neg n] at h; exact ⟨n, h⟩
          have back : ∀ {a}, IsCell σ (ρ.set i (.im c)) a → IsCell σ ρ a ∧ a ≠ p := fun {a} ⟨j, b, u, h1, h2⟩ => by
            rcases set_some h1 with ⟨_, z, _⟩ | ⟨n, h1⟩
            · cases z
            · exact ⟨⟨j, b, u, h1, h2⟩, fun z => n (R.ap j i b true u c p h1 e0 (by rw [← z]; exact h2) s0)⟩
          have hp' : H' p = some o := st.ext.k p o ho fun z => (back z).2 rfl
          have up : ∀ {j b u}, (ρ2.set i (.cl true c))[j]? = some (Sl.cl b u) → (j = i ∧ b = true ∧ u = c) ∨ (j ≠ i ∧ ρ1[j]? = some (Sl.cl b u) ∧ flatC u = true ∧ ∃ b0 t0, ρ[j]? = some (Sl.cl b0 t0)) := fun {j b u} h => by
            rcases set_some h with ⟨rfl, z, _⟩ | ⟨n, h⟩
            · cases z; exact .inl ⟨rfl, rfl, rfl⟩
            · obtain ⟨h1, h2, b0, t0, h3⟩ := mrg_cl e2 h
              rw [List.getElem?_set_ne (Ne.symm n)] at h3
              exact .inr ⟨n, h1, h2, b0, t0, h3⟩
          refine k v H' (fun a => if a = p then none else G1 a) ⟨⟨hG, fun a x h n => st.ext.k a x h fun z => n (back z).1, st.ext.d, fun a x h => ?_⟩, ?_, fun a h => ?_⟩ (flatS_any hu q)
          · obtain ⟨n, h⟩ := hlow h
            rcases st.ext.n a x h with z | z
            · rw [upd_ne n] at z; exact .inl z
            · exact .inr z
          · refine ⟨fun a x h => st.rep.sub a x (hlow h).2, fun j u h => ?_, fun j b u h => ?_, fun j l b d u w r h1 h2 z1 z2 => ?_, st.rep.keep, R.g0.trans hG, fun a x h => st.rep.new a x (hlow h).2, st.rep.dom, by rw [List.length_set, hl2]; exact R.len⟩
            · rcases set_some h with ⟨_, z, _⟩ | ⟨n, h⟩
              · cases z
              · have h := mrg_im e2 h
                rw [List.getElem?_set_ne (Ne.symm n)] at h
                obtain ⟨w, h1, h2⟩ := R.im j u h
                exact ⟨w, h1, h2.mono hG⟩
            · rcases up h with ⟨rfl, rfl, rfl⟩ | ⟨n, h1, h2, _⟩
              · exact ⟨p, s0, if_pos rfl, cc.mono hG fun x y => by rw [ho] at y; cases y; exact hp', fr, fun z => by cases z⟩
              · obtain ⟨r, z1, z2, z3, z4, z5⟩ := st.rep.cl j b u h1
                refine ⟨r, z1, ?_, flatC_any h2 z3, z4, z5⟩
                show (if r = p then none else G1 r) = none
                by_cases z : r = p
                · exact if_pos z
                · rw [if_neg z]; exact z2
            · rcases up h1 with ⟨rfl, rfl, rfl⟩ | ⟨n1, f1, _⟩
              · rcases up h2 with ⟨rfl, _⟩ | ⟨n2, f2, _⟩
                · rfl
                · rw [s0] at z1
                  cases z1
                  obtain ⟨r, y1, y2, _⟩ := st.rep.cl l d w f2
                  rw [z2] at y1
                  cases y1
                  rw [gp] at y2
                  cases y2
              · rcases up h2 with ⟨rfl, rfl, rfl⟩ | ⟨n2, f2, _⟩
                · rw [s0] at z2
                  cases z2
                  obtain ⟨r, y1, y2, _⟩ := st.rep.cl j b u f1
                  rw [z1] at y1
                  cases y1
                  rw [gp] at y2
                  cases y2
                · exact st.rep.ap j l b d u w r f1 f2 z1 z2
          · obtain ⟨j, b, u, h1, h2⟩ := h
            rcases up h1 with ⟨rfl, _⟩ | ⟨_, _, _, b0, t0, h3⟩
            · exact ⟨j, true, c, e0, h2⟩
            · exact ⟨j, b0, t0, h3, h2⟩
        · cases e
      · cases e
    · cases e
  · cases e
theorem px_vw (i : Nat) (h : PX X F e fa) : PX X F e (vw i fa) := PE.weak h fun _ _ _ q => vw_ok q
/-- .. as a test -/
def vwT (i : Nat) (f : Rho → Option (Bool × Rho)) : Rho → Option (Bool × Rho) := fun ρ => match vw i (fun ρ => match f ρ with
    | some (b, ρ1) => some (.bl b, ρ1)
    | none => none) ρ with
  | some (.bl b, ρ1) => some (b, ρ1)
  | _ => none
theorem pxt_vw {ft : Rho → Option (Bool × Rho)} (i : Nat) (h : PXT X F e ft) : PXT X F e (vwT i ft) := PT.weak h fun σ H Q q => by
  obtain ⟨G, ρ, b, ρ', R, e, k⟩ := q
  unfold vwT at e
  split at e
  · rename_i b' ρ1 e1
    cases e
    have z : tX X.K F (fun ρ => match ft ρ with
      | some (b, ρ1) => some (.bl b, ρ1)
      | none => none) σ H (fun v H1 => ∀ b, v = .bl b → Q b H1) := vw_ok ⟨G, ρ, _, _, R, e1, fun v H' G' p q b e => by subst e; cases q; exact k H' G' p⟩
    obtain ⟨G2, ρ2, t2, ρ3, R2, e2, k2⟩ := z
    dsimp only at e2
    split at e2
    · rename_i b2 ρ4 e4
      cases e2
      exact ⟨G2, ρ2, b2, _, R2, e4, fun H' G' p => k2 _ H' G' p (.bl _) _ rfl⟩
    · cases e2
  · cases e
end
end PX
/-! PX12 -/
set_option autoImplicit false
set_option maxRecDepth 100000
set_option linter.all false
namespace PX
open PySem L2

/-! ### dicts: keys, values -/
def keyT : T → Option Key
  | .int i => some (.inl i)
  | .str x => some (.inr x)
  | _ => none
def keyTT : Key → T
  | .inl i => .int i
  | .inr x => .str x
def lkT (kts : List (Key × T)) (k : Key) : Option T := (kts.find? fun kt => decide (kt.1 = k)).map (·.2)
def putKT (kts : List (Key × T)) (k : Key) (t : T) : List (Key × T) :=
  if (kts.any fun kt => decide (kt.1 = k)) = true then kts.map (fun kt => if kt.1 = k then (kt.1, t) else kt) else kts ++ [(k, t)]
section
variable {K : PySem.W.Frag} {G : Hp}
theorem keyT_is {v : V} {t : T} {k : Key} (q : IsT K G v t) (e : keyT t = some k) : v = kV k := by
  cases t with
  | int i => cases e; cases q; rfl
  | str i => cases e; cases q; rfl
  | _ => cases e
theorem kv_cons {a b : Key} {v : V} {t : T} {kvs : List (Key × V)} {kts : List (Key × T)} (e : ((a, v) :: kvs).map (·.1) = ((b, t) :: kts).map (·.1)) (r : IsTs K G (((a, v) :: kvs).map (·.2)) (((b, t) :: kts).map (·.2))) :
    a = b ∧ kvs.map (·.1) = kts.map (·.1) ∧ IsT K G v t ∧ IsTs K G (kvs.map (·.2)) (kts.map (·.2)) := by
  refine ⟨(List.cons.inj e).1, (List.cons.inj e).2, ?_⟩
  cases r with | cons x y => exact ⟨x, y⟩
theorem lkT_is {k : Key} : ∀ {kvs : List (Key × V)} {kts : List (Key × T)}, kvs.map (·.1) = kts.map (·.1) → IsTs K G (kvs.map (·.2)) (kts.map (·.2)) → (lkT kts k = none → valV kvs k = none) ∧ ∀ t, lkT kts k = some t → ∃ v, valV kvs k = some v ∧ IsT K G v t
  | [], [], _, _ => ⟨fun _ => rfl, fun _ h => by cases h⟩
  | [], _ :: _, e, _ => by cases e
  | _ :: _, [], e, _ => by cases e
  | (a, v) :: kvs, (b, t) :: kts, e, r => by
    obtain ⟨e1, e2, q, r2⟩ := kv_cons e r
    subst e1
    obtain ⟨ih1, ih2⟩ := lkT_is (k := k) e2 r2
    by_cases h : a = k
    · subst h
      refine ⟨fun z => ?_, fun u z => ?_⟩
      · simp [lkT, List.find?_cons] at z
      · simp [lkT, List.find?_cons] at z
        subst z
        exact ⟨v, by simp [valV, List.find?_cons], q⟩
    · have h1 : lkT ((a, t) :: kts) k = lkT kts k := by simp [lkT, List.find?_cons, h]
      have h2 : valV ((a, v) :: kvs) k = valV kvs k := by simp [valV, List.find?_cons, h]
      rw [h1, h2]
      exact ⟨ih1, ih2⟩
theorem any_keys {k : Key} : ∀ {kvs : List (Key × V)} {kts : List (Key × T)}, kvs.map (·.1) = kts.map (·.1) → (kvs.any fun kv => decide (kv.1 = k)) = (kts.any fun kv => decide (kv.1 = k))
  | [], [], _ => rfl
  | [], _ :: _, e => by cases e
  | _ :: _, [], e => by cases e
  | (a, v) :: kvs, (b, t) :: kts, e => by
    have e1 : a = b := (List.cons.inj e).1
    have e2 : kvs.map (·.1) = kts.map (·.1) := (List.cons.inj e).2
    subst e1
    rw [List.any_cons, List.any_cons, any_keys e2]
theorem map_put {k : Key} {v : V} {t : T} (q : IsT K G v t) : ∀ {kvs : List (Key × V)} {kts : List (Key × T)}, kvs.map (·.1) = kts.map (·.1) → IsTs K G (kvs.map (·.2)) (kts.map (·.2)) →
    (kvs.map fun kv => if kv.1 = k then (kv.1, v) else kv).map (·.1) = (kts.map fun kv => if kv.1 = k then (kv.1, t) else kv).map (·.1) ∧ IsTs K G ((kvs.map fun kv => if kv.1 = k then (kv.1, v) else kv).map (·.2)) ((kts.map fun kv => if kv.1 = k then (kv.1, t) else kv).map (·.2))
  | [], [], _, _ => ⟨rfl, .nil⟩
  | [], _ :: _, e, _ => by cases e
  | _ :: _, [], e, _ => by cases e
  | (a, w) :: kvs, (b, u) :: kts, e, r => by
    obtain ⟨e1, e2, q2, r2⟩ := kv_cons e r
    subst e1
    obtain ⟨ih1, ih2⟩ := map_put (k := k) q e2 r2
    simp only [List.map_cons]
    by_cases h : a = k
    · rw [if_pos h, if_pos h]
      exact ⟨congrArg (a :: ·) ih1, .cons q ih2⟩
    · rw [if_neg h, if_neg h]
      exact ⟨congrArg (a :: ·) ih1, .cons q2 ih2⟩
theorem putKT_is {k : Key} {v : V} {t : T} (q : IsT K G v t) {kvs : List (Key × V)} {kts : List (Key × T)} (e : kvs.map (·.1) = kts.map (·.1)) (r : IsTs K G (kvs.map (·.2)) (kts.map (·.2))) :
    (putK kvs k v).map (·.1) = (putKT kts k t).map (·.1) ∧ IsTs K G ((putK kvs k v).map (·.2)) ((putKT kts k t).map (·.2)) := by
  unfold putK putKT
  rw [any_keys e]
  split
  · exact map_put q e r
  · rw [List.map_append, List.map_append, List.map_append, List.map_append, e]
    exact ⟨rfl, r.append (.cons q .nil)⟩
end
section
variable {K : PySem.W.Frag}
/-! ### subscripts: sequences, dicts -/
def rDIx : R2 := fun x y H Q => ∃ a v, x = .ref a ∧ DGet H a y (some v) ∧ Q v H
def rDInV (neg : Bool) : R2 := fun y x H Q => ∃ a o, x = .ref a ∧ DGet H a y o ∧ Q (.bl (if neg then !o.isSome else o.isSome)) H
theorem ix_dict {X : Cx} (hu : X.A.units + 1 < cLine) : IxR X rDIx := by
  intro value slice pins s σ H x y v u Q I rx ry h hs
  obtain ⟨a, w, rfl, g, q⟩ := h
  obtain rfl : v = Value.ref a := rx
  exact PyProof.Rows.tail_any (dict_typeIs I g) PySem.F.slot_dict_getitem.lookup (d_getItem hu I g ry fun w' s3 I3 rw' => ⟨w, H, I3, rw', q⟩) hs
theorem op_inD {X : Cx} (hu : X.A.units + 1 < cLine) : OpR X (compareOp .In) (rDInV false) := by
  intro pins s σ H y x iv u Q I ry rx h
  obtain ⟨a, o, rfl, g, q⟩ := h
  obtain rfl : u = Value.ref a := rx
  exact d_in hu I g ry fun s3 I3 => ⟨.bl o.isSome, H, I3, rfl, q⟩
theorem op_ninD {X : Cx} (hu : X.A.units + 1 < cLine) : OpR X (compareOp .NotIn) (rDInV true) := by
  intro pins s σ H y x iv u Q I ry rx h
  obtain ⟨a, o, rfl, g, q⟩ := h
  obtain rfl : u = Value.ref a := rx
  exact d_notIn hu I g ry fun s3 I3 => ⟨.bl (!o.isSome), H, I3, rfl, q⟩
/-- a[b], of a sequence or a dict -/
def oIt : T → T → Option T := fun x y => match x with
  | .dct kts => (match keyT y with
    | some k => lkT kts k
    | none => none)
  | x => oIx x y
theorem s_it : OpS K (fun x y H Q => rIx K x y H Q ∨ rDIx x y H Q) oIt := by
  intro F σ H G ρ v1 v2 x y t Q R q1 q2 e k
  unfold oIt at e
  split at e
  · rename_i kts
    split at e
    · rename_i kk e1
      cases q1 with
      | dct z e2 r =>
        obtain ⟨v, h, q⟩ := (lkT_is e2 r).2 _ e
        rw [keyT_is q2 e1]
        exact .inr ⟨_, v, rfl, .inl ⟨_, kk, .inl (R.sub _ _ z), rfl, h.symm⟩, k v H G (.refl R) q⟩
    · cases e
  · exact .inl (s_ix R q1 q2 e k)
/-- b in a: a list, tuple, text, dict -/
def oInG (neg : Bool) : T → T → Option T := fun x y => match y with
  | .dct kts => (match keyT x with
    | some k => some (.bl (if neg then !(lkT kts k).isSome else (lkT kts k).isSome))
    | none => none)
  | .str j => (match x with
    | .str i => some (.bl (if neg then !(!(Builtin.Str.occurrences j i 0 j.length 1).isEmpty) else !(Builtin.Str.occurrences j i 0 j.length 1).isEmpty))
    | _ => none)
  | y => oIn neg x y
def rInS (neg : Bool) : R2 := fun x y H Q => ∃ i j, x = .str i ∧ y = .str j ∧ Q (.bl (if neg then !(!(Builtin.Str.occurrences j i 0 j.length 1).isEmpty) else !(Builtin.Str.occurrences j i 0 j.length 1).isEmpty)) H
def rInG (K : PySem.W.Frag) (neg : Bool) : R2 := fun x y H Q => rIn K neg x y H Q ∨ rDInV neg x y H Q ∨ rInS neg x y H Q
theorem s_inG {neg : Bool} : OpS K (rInG K neg) (oInG neg) := by
  intro F σ H G ρ v1 v2 x y t Q R q1 q2 e k
  unfold oInG at e
  split at e
  · rename_i kts
    split at e
    · rename_i kk e1
      cases e
      cases q2 with
      | dct z e2 r =>
        rw [keyT_is q1 e1]
        refine .inr (.inl ⟨_, valV _ kk, rfl, .inl ⟨_, kk, .inl (R.sub _ _ z), rfl, rfl⟩, ?_⟩)
        obtain ⟨h1, h2⟩ := lkT_is (k := kk) e2 r
        cases hl : lkT kts kk with
        | none =>
          rw [hl] at k
          rw [h1 hl]
          exact k _ H G (.refl R) (.bl _)
        | some t =>
          rw [hl] at k
          obtain ⟨v, h3, _⟩ := h2 t hl
          rw [h3]
          exact k _ H G (.refl R) (.bl _)
    · cases e
  · split at e
    · cases e
      cases q1
      cases q2
      exact .inr (.inr ⟨_, _, rfl, rfl, k _ H G (.refl R) (.bl _)⟩)
    · cases e
  · exact .inl (s_in R q1 q2 e k)
/-! ### sums of all kinds -/
def oAddG : T → T → Option T := fun x y => match x with
  | .int _ => oAdd x y
  | .str _ => oAddS x y
  | .lst _ => oCat x y
  | .tup _ => oCatT x y
  | _ => none
def rAddS : R2 := fun x y H Q => ∃ i j, x = .str i ∧ y = .str j ∧ i.length + j.length ≤ sizeLine ∧ Q (.str (i ++ j)) H
def rAddG (K : PySem.W.Frag) : R2 := fun x y H Q => rI0 (fun i j => .int (i + j)) x y H Q ∨ rAddS x y H Q ∨ rCat x y H Q ∨ rCatA K x y H Q
theorem s_addG : OpS K (rAddG K) oAddG := by
  intro F σ H G ρ v1 v2 x y t Q R q1 q2 e k
  unfold oAddG at e
  split at e
  · exact .inl (s_add R q1 q2 e k)
  · exact .inr (.inl (s_addS R q1 q2 e k))
  · exact .inr (.inr (.inl (s_cat R q1 q2 e k)))
  · exact .inr (.inr (.inr (s_catT R q1 q2 e k)))
  · cases e
/-- order: ints, texts -/
def oLtG : T → T → Option T := fun x y => match x with
  | .int _ => oLt x y
  | .str _ => oLtS x y
  | _ => none
def oLeG : T → T → Option T := fun x y => match x with
  | .int _ => oLe x y
  | .str _ => oLeS x y
  | _ => none
def rLtS : R2 := fun x y H Q => ∃ i j, x = .str i ∧ y = .str j ∧ Q (.bl (decide (i.cps.toList < j.cps.toList))) H
def rLeS : R2 := fun x y H Q => ∃ i j, x = .str i ∧ y = .str j ∧ Q (.bl (!decide (j.cps.toList < i.cps.toList))) H
theorem s_ltG : OpS K (fun x y H Q => rI0 (fun i j => .bl (decide (i < j))) x y H Q ∨ rLtS x y H Q) oLtG := by
  intro F σ H G ρ v1 v2 x y t Q R q1 q2 e k
  unfold oLtG at e
  split at e
  · exact .inl (s_lt R q1 q2 e k)
  · exact .inr (s_ltS R q1 q2 e k)
  · cases e
theorem s_leG : OpS K (fun x y H Q => rI0 (fun i j => .bl (decide (i ≤ j))) x y H Q ∨ rLeS x y H Q) oLeG := by
  intro F σ H G ρ v1 v2 x y t Q R q1 q2 e k
  unfold oLeG at e
  split at e
  · exact .inl (s_le R q1 q2 e k)
  · exact .inr (s_leS R q1 q2 e k)
  · cases e
/-! ### products -/
def oMulG : T → T → Option T := fun x y => match x with
  | .int _ => oMul x y
  | .tup a => (match y with
    | .int k => if k = 1 then some (.tup a) else oRepT x y
    | _ => none)
  | _ => none
def rRep1 (K : PySem.W.Frag) : R2 := fun x y H Q => ∃ l xs, x = .ref l ∧ y = .int 1 ∧ SqT K H l xs ∧ Q (.ref l) H
def rMulG (K : PySem.W.Frag) : R2 := fun x y H Q => rI CMul (fun i j => .int (i * j)) x y H Q ∨ rRepT K x y H Q ∨ rRep1 K x y H Q
theorem s_mulG : OpS K (rMulG K) oMulG := by
  intro F σ H G ρ v1 v2 x y t Q R q1 q2 e k
  unfold oMulG at e
  split at e
  · exact .inl (s_mul R q1 q2 e k)
  · split at e
    · split at e
      · rename_i h1
        subst h1
        cases e
        cases q2
        cases q1 with
        | tup z r => exact .inr (.inr ⟨_, _, rfl, rfl, R.sub.sqT z, k _ H G (.refl R) (.tup z r)⟩)
      · exact .inr (.inl (s_repT R q1 q2 e k))
    · cases e
  · cases e
end
section
variable {X : Cx} {F : Fr} {pos p p2 apos : Pos} {e a b d : Expr} {fa fb fd : Rho → Option (T × Rho)} {x y : Str} {py : Pos}
theorem px_it (hu : X.A.units + 1 < cLine) (ha : PX X F a fa) (hb : PX X F b fb) (hs : PlainIx b := by exact fun _ _ => rfl) : PX X F (.Subscript a b pos) (s2 fa fb oIt) := (pe_ix (ix_seq.or (ix_dict hu)) ha hb hs).weak fun _ _ _ h => tOp_s2 s_it h
theorem op_inG (hu : X.A.units + 1 < cLine) : OpR X (compareOp .In) (rInG X.K false) := op_in_seq.or ((op_inD hu).or op_in_str)
theorem op_ninG (hu : X.A.units + 1 < cLine) : OpR X (compareOp .NotIn) (rInG X.K true) := op_notIn_seq.or ((op_ninD hu).or op_notIn_str)
/-! ### d.get(k, x) -/
def oGet : T → T → T → Option T := fun d y z => match d with
  | .dct kts => (match keyT y with
    | some k => some ((lkT kts k).getD z)
    | none => none)
  | _ => none
def isDct : T → Bool
  | .dct _ => true
  | _ => false
def sG (fd fa fb : Rho → Option (T × Rho)) : Rho → Option (T × Rho) := fun ρ => match fd ρ with
  | some (x, ρ1) => if isDct x then (match fa ρ1 with
    | some (y, ρ2) => (match fb ρ2 with
      | some (z, ρ3) => (match oGet x y z with
        | some t => some (t, ρ3)
        | none => none)
      | none => none)
    | none => none) else none
  | none => none
theorem px_get (hu : X.A.units + 1 < cLine) (hd : PX X F d fd) (ha : PX X F a fa) (hb : PX X F b fb) (m : M2 X d "get" apos a b pos := by exact ⟨rfl, rfl, rfl, rfl⟩) : PX X F (.Call (.Attribute d "get" apos) [a, b] [] pos) (sG fd fa fb) := (pe_dget2 hu hd ha hb m).weak fun σ H Q h => by
  obtain ⟨G, ρ, t, ρ', R, e, k⟩ := h
  unfold sG at e
  split at e
  · rename_i x ρ1 e1
    split at e
    · rename_i hx
      split at e
      · rename_i y ρ2 e2
        split at e
        · rename_i z ρ3 e3
          split at e
          · rename_i t' e4
            cases e
            refine tX_bind R e1 fun v1 H1 G1 p1 q1 => ?_
            unfold oGet at e4
            split at e4
            · rename_i kts
              split at e4
              · rename_i kk e5
                cases e4
                cases q1 with
                | dct z1 k1 r1 =>
                  refine ⟨_, rfl, .inl ⟨_, .inl (p1.rep.sub _ _ z1)⟩, tX_bind p1.rep e2 fun v2 H2 G2 p2 q2 => tX_bind p2.rep e3 fun v3 H3 G3 p3 q3 => ?_⟩
                  have l3 := p2.le.trans p3.le
                  rw [keyT_is q2 e5]
                  refine ⟨valV _ kk, .inl ⟨_, kk, .inl (p3.rep.sub _ _ (l3 _ _ z1)), rfl, rfl⟩, ?_⟩
                  obtain ⟨h1, h2⟩ := lkT_is (k := kk) k1 r1
                  have st := (p1.trans p2).trans p3
                  cases hl : lkT kts kk with
                  | none =>
                    rw [hl] at k
                    rw [h1 hl]
                    exact k _ H3 G3 st q3
                  | some t =>
                    rw [hl] at k
                    obtain ⟨v, h3, h4⟩ := h2 t hl
                    rw [h3]
                    exact k _ H3 G3 st (h4.mono l3)
              · cases e4
            · cases e4
          · cases e
        · cases e
      · cases e
    · cases e
  · cases e
/-! ### cell[i] = v -/
def setC : T → T → T → Option T := fun c y v => match c with
  | .dct kts => (match keyT y with
    | some k => if kts.length < 1000 then some (.dct (putKT kts k v)) else none
    | none => none)
  | .lst ts => (match y with
    | .int n => (match ixN ts.length n with
      | some j => some (.lst (ts.set j v))
      | none => none)
    | _ => none)
  | _ => none
def rSetG : TSet := fun o i v H Q => rSetL o i v H Q ∨ rSetD o i v H Q
theorem set_any (hu : X.A.units + 1 < cLine) : PSet X rSetG := by
  intro pins s σ H o i v ov iv u Q I ro ri rv h
  rcases h with h | h
  · exact set_list pins s σ H o i v ov iv u Q I ro ri rv h
  · exact set_dict hu pins s σ H o i v ov iv u Q I ro ri rv h
theorem setC_ok {K : PySem.W.Frag} {G H : Hp} {p : Addr} {c y v c' : T} {vy vv : V} {Q : Hp → Prop} (cc : CellAt K G H p c) (qy : IsT K G vy y) (qv : IsT K G vv v) (e : setC c y v = some c') (k : ∀ o, CellAt K G (upd H p o) p c' → Q (upd H p o)) : rSetG (.ref p) vy vv H Q := by
  unfold setC at e
  split at e
  · rename_i kts
    split at e
    · rename_i kk e1
      split at e
      · rename_i hl
        cases e
        obtain ⟨kvs, z, k1, r1⟩ := cc
        rw [keyT_is qy e1]
        obtain ⟨h1, h2⟩ := putKT_is (k := kk) qv k1 r1
        have hlen : kvs.length = kts.length := by simpa using congrArg List.length k1
        exact .inr ⟨p, _, rfl, .inl ⟨kvs, kk, z, rfl, lt_line (by omega), rfl⟩, k _ ⟨_, upd_same, h1, h2⟩⟩
      · cases e
    · cases e
  · rename_i ts
    split at e
    · rename_i n
      split at e
      · rename_i j e1
        cases e
        obtain ⟨vs, z, r⟩ := cc
        cases qy
        exact .inl ⟨p, vs, n, j, rfl, rfl, z, by rw [r.length]; exact e1, k _ ⟨_, upd_same, r.set j qv⟩⟩
      · cases e
    · cases e
  · cases e
/-- the target cell[e] -/
def gsub (i : Nat) (fb : Rho → Option (T × Rho)) : T → Rho → Option Rho := fun v ρ => match fb ρ with
  | some (y, ρ1) => (match ρ1[i]? with
    | some (Sl.cl b c) => (match setC c y v with
      | some c' => some (ρ1.set i (.cl b c'))
      | none => none)
    | _ => none)
  | none => none
def bsub (i : Nat) (fb fe : Rho → Option (T × Rho)) : Blk := fun ρ => match ρ[i]? with
  | some (Sl.cl _ _) => (match fe ρ with
    | some (v, ρ1) => (match gsub i fb v ρ1 with
      | some ρ2 => some (.nx ρ2)
      | none => none)
    | none => none)
  | _ => none
theorem gsub_ok {K : PySem.W.Frag} {i : Nat} {σ : L2.St} {H G : Hp} {ρ ρ' : Rho} {v : V} {t : T} {p : Addr} {Q : L2.St → Hp → Prop} (R : Rep K F H G σ ρ) (s0 : σ[i]? = some (some (V.ref p))) (q : IsT K G v t) (e : gsub i fb t ρ = some ρ')
    (k : ∀ H' G', Stp K F σ H G ρ H' G' ρ' → Q σ H') : gSub (tVar i) (tX K F fb) rSetG v σ H Q := by
  unfold gsub at e
  split at e
  · rename_i y ρ1 e1
    split at e
    · rename_i b c e2
      split at e
      · rename_i c' e3
        cases e
        refine ⟨_, s0, tX_bind R e1 fun w H1 G1 p1 q1 => ?_⟩
        obtain ⟨p', s1, g1, cc, _⟩ := p1.rep.cl i b c e2
        rw [s0] at s1
        cases s1
        exact setC_ok cc q1 (q.mono p1.le) e3 fun o cc' => k _ _ (p1.trans (p1.rep.put e2 s0 cc'))
      · cases e
    · cases e
  · cases e
theorem pxs_sub (i : Nat) (hu : X.A.units + 1 < cLine) (he : PX X F e fa) (hb : PX X F b fb) (hN : X.N[i]? = some y := by rfl) (hv : Vis X.env.scope y := by first | exact Or.inl rfl | exact Or.inr (Or.inl rfl) | exact Or.inr (Or.inr rfl)) (hd : (y == ("__debug__" : Str)) = false := by decide) (hcd : (y == ("__classdict__" : Str)) = false := by decide)
    (ha : ∀ v, assign (.Subscript (.Name y py) b p2) X.env v = (do
      let ov ← holding [v] (eval (.Name y py) X.env)
      let iv ← holding [v, ov] (eval b X.env)
      standAt p2
      holding [v, ov, iv] (setItem ov iv v)
      release [v, ov, iv] []) := by intro _; rfl)
    (hs : swapsWithSole [.Subscript (.Name y py) b p2] e pos.line X.env = pure false := by rfl) (hw : swappedStores [.Subscript (.Name y py) b p2] e X.env = pure none := by rfl)
    (h1 : (assignEach [.Subscript (.Name y py) b p2] X.env).map (·.2) = [assign (.Subscript (.Name y py) b p2) X.env] := by rfl) :
    PXS X F (.Assign [.Subscript (.Name y py) b p2] e pos) (bsub i fb fa) := (ps_asg he (pg_sub (pv i hN hv hd hcd) hb (set_any hu) ha) hs hw h1).weak fun D σ H h => by
  obtain ⟨G, ρ, o, R, e, s⟩ := h
  unfold bsub at e
  split at e
  · rename_i b0 c0 e0
    split at e
    · rename_i v ρ1 e1
      split at e
      · rename_i ρ2 e2
        cases e
        obtain ⟨q, s0, _⟩ := R.cl i b0 c0 e0
        exact tX_bind R e1 fun w H1 G1 p1 q1 => gsub_ok p1.rep s0 q1 e2 fun H2 G2 p2 => s σ H2 G2 p2.rep (p1.le.trans p2.le)
      · cases e
    · cases e
  · cases e
/-- cell[e], name = a pair -/
def bsub2 (i : Nat) (fb : Rho → Option (T × Rho)) (j : Nat) (fe : Rho → Option (T × Rho)) : Blk := fun ρ => match ρ[i]? with
  | some (Sl.cl _ _) => (match fe ρ with
    | some (.tup [v, w], ρ1) => (match gsub i fb v ρ1 with
      | some ρ2 => some (.nx (ρ2.set j (.im w)))
      | none => none)
    | _ => none)
  | _ => none
theorem pxs_sub2 {z : Str} {pz pt : Pos} {kt : Nat} (i j : Nat) (hc : X.calm = true) (nd : X.N.Nodup) (hu : X.A.units + 1 < cLine) (he : PX X F e fa) (hb : PX X F b fb) (hN : X.N[i]? = some y := by rfl) (hv : Vis X.env.scope y := by first | exact Or.inl rfl | exact Or.inr (Or.inl rfl) | exact Or.inr (Or.inr rfl))
    (hz : X.N[j]? = some z := by rfl) (hzl : Loc X.env.scope z := by first | exact Or.inl rfl | exact Or.inr rfl) (hf : X.fn z = true ∨ X.env.scope.names.lookup z = some .local := by first | exact .inl rfl | exact .inr rfl | assumption)
    (hd : (y == ("__debug__" : Str)) = false := by decide) (hcd : (y == ("__classdict__" : Str)) = false := by decide)
    (ha : ∀ v, assign (.Subscript (.Name y py) b p2) X.env v = (do
      let ov ← holding [v] (eval (.Name y py) X.env)
      let iv ← holding [v, ov] (eval b X.env)
      standAt p2
      holding [v, ov, iv] (setItem ov iv v)
      release [v, ov, iv] []) := by intro _; rfl)
    (hs1 : (assignEach [.Subscript (.Name y py) b p2, .Name z pz] X.env).map (·.2) = assign (.Subscript (.Name y py) b p2) X.env :: (assignEach [.Name z pz] X.env).map (·.2) := by rfl)
    (hs2 : (assignEach [.Name z pz] X.env).map (·.2) = assign (.Name z pz) X.env :: (assignEach [] X.env).map (·.2) := by rfl)
    (hn : (assignEach [.Subscript (.Name y py) b p2, .Name z pz] X.env).length = 2 := by rfl) (hst : (assignEach [.Subscript (.Name y py) b p2, .Name z pz] X.env).findIdx? (·.1) = none := by rfl)
    (hs : swapsWithSole [.Tuple [.Subscript (.Name y py) b p2, .Name z pz] kt pt] e pos.line X.env = pure false := by rfl) (hw : swappedStores [.Tuple [.Subscript (.Name y py) b p2, .Name z pz] kt pt] e X.env = pure none := by rfl)
    (h1 : (assignEach [.Tuple [.Subscript (.Name y py) b p2, .Name z pz] kt pt] X.env).map (·.2) = [assign (.Tuple [.Subscript (.Name y py) b p2, .Name z pz] kt pt) X.env] := by rfl) :
    PXS X F (.Assign [.Tuple [.Subscript (.Name y py) b p2, .Name z pz] kt pt] e pos) (bsub2 i fb j fa) :=
  (ps_asg he (pg_tup hc (pgs_cons (pg_sub (pv i hN hv hd hcd) hb (set_any hu) ha) (pgs_cons (pg_name nd hz hzl hf) pgs_nil hs2) hs1) hn hst) hs hw h1).weak fun D σ H h => by
  obtain ⟨G, ρ, o, R, e, s⟩ := h
  unfold bsub2 at e
  split at e
  · rename_i b0 c0 e0
    split at e
    · rename_i v w ρ1 e1
      split at e
      · rename_i ρ2 e2
        cases e
        obtain ⟨q, s0, _⟩ := R.cl i b0 c0 e0
        refine tX_bind R e1 fun u H1 G1 p1 q1 => ?_
        cases q1 with
        | tup z1 r1 =>
          cases r1 with
          | cons a1 r1 =>
            cases r1 with
            | cons a2 r1 =>
              cases r1
              refine ⟨_, _, rfl, p1.rep.sub.sqT z1, rfl, _, _, rfl, ?_⟩
              exact gsub_ok p1.rep s0 a1 e2 fun H2 G2 p2 => ⟨_, _, rfl, rfl, s _ H2 G2 (p2.rep.set j (.im (a2.mono p2.le))) (p1.le.trans p2.le)⟩
      · cases e
    · cases e
  · cases e
end
end PX
/-! PX13 -/
set_option autoImplicit false
set_option maxRecDepth 100000
set_option linter.all false
namespace PX
open PySem L2

/-! ### dicts made by comprehensions -/
def dcl (vs : List Nat) (g : T → Rho → Option Rho) (ft : Rho → Option (Bool × Rho)) (fk fe : Rho → Option (T × Rho)) : List T → List (Key × T) → Rho → Option (List (Key × T) × Rho)
  | [], acc, ρ => some (acc, ρ)
  | t :: r, acc, ρ => match g t ρ with
    | some ρ1 => (match ft ρ1 with
      | some (true, ρ2) => (match fk ρ2 with
        | some (y, ρ3) => (match fe ρ3 with
          | some (x, ρ4) => (match keyT y with
            | some k => if acc.length < 1000 then dcl vs g ft fk fe r (putKT acc k x) (wipeR ρ4 vs) else none
            | none => none)
          | none => none)
        | none => none)
      | some (false, ρ2) => dcl vs g ft fk fe r acc (wipeR ρ2 vs)
      | none => none)
    | none => none
def dc (vs : List Nat) (fi : Rho → Option (List T × Rho)) (g : T → Rho → Option Rho) (ft : Rho → Option (Bool × Rho)) (fk fe : Rho → Option (T × Rho)) : Rho → Option (T × Rho) := fun ρ => match fi ρ with
  | some (ts, ρ1) => (match dcl vs g ft fk fe ts [] (wipeR ρ1 vs) with
    | some (xs, ρ2) => some (.dct xs, wipeR ρ2 vs)
    | none => none)
  | none => none
section
variable {X : Cx} {F : Fr} {K : PySem.W.Frag} {tg iter elt kx : Expr} {ifs : List Expr} {scope : Scope} {own : List (Str × Nat)} {pos : Pos} {sl : List Nat} {fi : Rho → Option (List T × Rho)} {gg : T → Rho → Option Rho} {ft : Rho → Option (Bool × Rho)} {fe fk : Rho → Option (T × Rho)}
theorem dc_ok {σ : L2.St} {H : Hp} {Q : VK} (vs : List Nat) (hsl : ∀ i ∈ sl, i ∈ vs) (h : tXN K F (dc vs fi gg ft fk fe) σ H Q) : tDc (tXI K F fi) (tXG K F sl gg) (tXT K F ft) (tX K F fk) (tX K F fe) vs σ H Q := by
  obtain ⟨G, ρ, t, ρ', R, e, q⟩ := h
  unfold dc at e
  split at e
  · rename_i ts ρ1 e1
    split at e
    · rename_i xs ρ2 e2
      cases e
      refine ⟨G, ρ, ts, ρ1, R, e1, fun J H1 G1 p1 wk D hD => ?_⟩
      have hD0 : F.H0 D = none := p1.rep.not_base hD
      have hGD : G1 D = none := p1.rep.sub.none_ hD
      obtain ⟨Rb, cb⟩ := p1.rep.wiped vs
      have ncell : ∀ {σ' ρ'}, (∀ a, IsCell σ' ρ' a → IsCell σ ρ1 a) → ¬ IsCell σ' ρ' D := fun hc z => p1.rep.not_cell hD (hc D z)
      refine ⟨fun i m H' => i + m = ts.length ∧ ∃ G' ρb acc, ∃ va : List (Key × V), Rep K F H' G' (wipe σ vs) ρb ∧ Ext (IsCell σ ρ1) H1 G1 H' G' ∧ (∀ a, IsCell (wipe σ vs) ρb a → IsCell σ ρ1 a) ∧ H' D = some (.dK va) ∧ (va.map (·.1) = acc.map (·.1) ∧ IsTs K G' (va.map (·.2)) (acc.map (·.2))) ∧ G' D = none ∧ dcl vs gg ft fk fe (ts.drop i) acc ρb = some (xs, ρ2),
        ⟨ts.length, by omega, G1, wipeR ρ1 vs, [], [], Rb.other hGD (ncell cb) hD0, (Ext.refl _ _ _).other hD, cb, upd_same, ⟨rfl, .nil⟩, hGD, e2⟩, ?_⟩
      rintro i m H2 ⟨em, G2, ρb, acc, va, R2, E2, c2, hD2, ⟨k2, r2⟩, g2, e3⟩
      by_cases hl : i < ts.length
      · have ed : ts.drop i = ts[i] :: ts.drop (i + 1) := List.drop_eq_getElem_cons hl
        rw [ed] at e3
        unfold dcl at e3
        obtain ⟨hgo, hy⟩ := wk.go F _ ρb H2 G2 i ts[i] R2 E2.g (List.getElem?_eq_getElem hl)
        refine .inr ⟨hgo, fun H' => ∃ G' ρb acc, ∃ va : List (Key × V), Rep K F H' G' (wipe σ vs) ρb ∧ Ext (IsCell σ ρ1) H1 G1 H' G' ∧ (∀ a, IsCell (wipe σ vs) ρb a → IsCell σ ρ1 a) ∧ H' D = some (.dK va) ∧ (va.map (·.1) = acc.map (·.1) ∧ IsTs K G' (va.map (·.2)) (acc.map (·.2))) ∧ G' D = none ∧ dcl vs gg ft fk fe (ts.drop (i + 1)) acc ρb = some (xs, ρ2),
          fun H' n => ⟨m - 1, by omega, by omega, n⟩, fun x H3 y => ?_⟩
        obtain ⟨G3, p3, q3⟩ := hy x H3 y
        have nb : ¬ IsCell (wipe σ vs) ρb D := ncell c2
        have stay : ∀ {H' G'}, Ext (IsCell (wipe σ vs) ρb) H2 G2 H' G' → H' D = some (.dK va) ∧ G' D = none := fun {H' G'} E => ⟨E.k D _ hD2 nb, by
          cases z : G' D with
          | none => rfl
          | some o =>
            rcases E.n D o z with y | y
            · rw [g2] at y; cases y
            · rw [hD2] at y; cases y⟩
        split at e3
        · rename_i ρ3 e4
          refine ⟨G3, ρb, ts[i], ρ3, p3.rep, q3, e4, fun σ4 R4 n4 c4 => ?_⟩
          have ew := wipe_off hsl n4
          refine ⟨ew, ?_⟩
          have c4' : ∀ a, IsCell σ4 ρ3 a → IsCell (wipe σ vs) ρb a := c4
          split at e3
          · rename_i ρ5 e5
            refine tXT_bind R4 e5 fun H5 G5 p5 => ?_
            rw [if_pos rfl]
            split at e3
            · rename_i y5 ρ6 e6
              split at e3
              · rename_i x5 ρ7 e7
                split at e3
                · rename_i kk e8
                  split at e3
                  · rename_i hz
                    refine tX_bind p5.rep e6 fun vy H6 G6 p6 q6 => tX_bind p6.rep e7 fun vx H7 G7 p7 q7 => ?_
                    have p47 := (p5.trans p6).trans p7
                    have E27 : Ext (IsCell (wipe σ vs) ρb) H2 G2 H7 G7 := p3.ext.trans p47.ext c4'
                    obtain ⟨hD7, g7⟩ := stay E27
                    obtain ⟨R8, c8⟩ := p7.rep.again ew
                    have cc : ∀ a, IsCell (wipe σ vs) (wipeR ρ7 vs) a → IsCell σ ρ1 a := fun a z => c2 a (c4' a (p47.cs a (c8 a z)))
                    have E17 : Ext (IsCell σ ρ1) H1 G1 H7 G7 := E2.trans E27 c2
                    have hlen : va.length = acc.length := by simpa using congrArg List.length k2
                    obtain ⟨k3, r3⟩ := putKT_is (k := kk) q7 k2 (r2.mono E27.g)
                    exact ⟨va, kk, keyT_is q6 e8, hD7, lt_line (by omega), G7, wipeR ρ7 vs, putKT acc kk x5, putK va kk vx, R8.other g7 (ncell cc) hD0, E17.other hD, cc, upd_same, ⟨k3, r3⟩, g7, e3⟩
                  · cases e3
                · cases e3
              · cases e3
            · cases e3
          · rename_i ρ5 e5
            refine tXT_bind R4 e5 fun H5 G5 p5 => ?_
            rw [if_neg (by decide)]
            have E25 : Ext (IsCell (wipe σ vs) ρb) H2 G2 H5 G5 := p3.ext.trans p5.ext c4'
            obtain ⟨hD5, g5⟩ := stay E25
            obtain ⟨R7, c7⟩ := p5.rep.again ew
            have cc : ∀ a, IsCell (wipe σ vs) (wipeR ρ5 vs) a → IsCell σ ρ1 a := fun a z => c2 a (c4' a (p5.cs a (c7 a z)))
            exact ⟨G5, wipeR ρ5 vs, acc, va, R7, E2.trans E25 c2, cc, hD5, ⟨k2, r2.mono E25.g⟩, g5, e3⟩
          · cases e3
        · cases e3
      · have el : i = ts.length := by omega
        subst el
        rw [List.drop_length] at e3
        unfold dcl at e3
        cases e3
        refine .inl ⟨wk.stop H2 G2 R2.sub E2.g, ?_⟩
        obtain ⟨R5, c5⟩ := R2.back
        refine q D H2 G2 (p1.trans ⟨E2, R5, fun a z => c2 a (c5 a z)⟩) (p1.ext.free hD) g2 ⟨va, hD2, k2, r2⟩
    · cases e
  · cases e
theorem pxn_dc (own : List (Str × Nat)) (hc : X.calm = true) (hN : X.N.Nodup) (hi : PXI X F tg iter fi) (ok : BlkOk X.N X.env.scope scope own) (hsl : ∀ i ∈ sl, i ∈ own.map (·.2))
    (hg : ∀ (s : Shared) (H : Hp) (C : Addr) (cl : List (Str × Addr)) (fp : List Addr), PXG (X.blk s H scope (compEnvC scope cl C X.env) fp) F tg sl gg)
    (ht : ∀ (s : Shared) (H : Hp) (C : Addr) (cl : List (Str × Addr)) (fp : List Addr), PTs (X.blk s H scope (compEnvC scope cl C X.env) fp) ifs (tXT X.K F ft))
    (hk : ∀ (s : Shared) (H : Hp) (C : Addr) (cl : List (Str × Addr)) (fp : List Addr), PX (X.blk s H scope (compEnvC scope cl C X.env) fp) F kx fk)
    (he : ∀ (s : Shared) (H : Hp) (C : Addr) (cl : List (Str × Addr)) (fp : List Addr), PX (X.blk s H scope (compEnvC scope cl C X.env) fp) F elt fe) (hs : ∀ x, foldedSetIterable iter X.env x = pure x := by intro _; rfl) :
    PXN X F (.DictComp kx elt [⟨tg, iter, ifs, 0⟩] scope pos) (dc (own.map (·.2)) fi gg ft fk fe) :=
  (pe_dc hc hN hi.pi ok hg ht hk he hs).weak fun σ H Q h => dc_ok (own.map (·.2)) hsl h
end
section
variable {X : Cx} {F : Fr} {pos p p2 apos : Pos} {e a b d : Expr} {fa fb fd : Rho → Option (T × Rho)} {x y z : Str} {px py pz pt pt2 : Pos} {kt k2 : Nat} {ka kb kc : Rho → Option (Sl × Rho)}
/-! ### several names at once, kinds -/
theorem KV.stp {K : PySem.W.Frag} {σ : L2.St} {H G H' G' : Hp} {ρ ρ' : Rho} {v : V} {k : Sl} (q : KV K F G H σ ρ v k) (st : Stp K F σ H G ρ H' G' ρ') : KV K F G' H' σ ρ' v k := by
  cases q with
  | im q => exact .im (q.mono st.le)
  | @cl p t q1 q2 q3 q4 =>
    refine .cl q1 ?_ (fun z => q3 (st.cs _ z)) (q4.mono st.le fun o z => st.ext.k _ _ z q3)
    cases y : G' p with
    | none => rfl
    | some o =>
      rcases st.ext.n _ o y with z | z
      · rw [q2] at z; cases z
      · obtain ⟨o2, y2⟩ := q4.some_
        rw [z] at y2; cases y2
theorem KV.some_ {K : PySem.W.Frag} {σ : L2.St} {H G : Hp} {ρ : Rho} {p : Addr} {t : T} (q : KV K F G H σ ρ (.ref p) (.cl true t)) : ∃ o, H p = some o := by
  cases q with | cl q1 q2 q3 q4 => exact q4.some_
/-- a slot that is set: another thing that is new to it stays so -/
theorem KV.set {K : PySem.W.Frag} {σ : L2.St} {H G : Hp} {ρ : Rho} {v w : V} {k l : Sl} {i : Nat} (q : KV K F G H σ ρ w l) (hv : ∀ p t, v = .ref p → k = .cl true t → ∀ u, w = .ref p → l = .cl true u → False) (kc : ∀ b t, k = .cl b t → b = true) : KV K F G H (σ.set i (some v)) (ρ.set i k) w l := by
  cases q with
  | im q => exact .im q
  | @cl p t q1 q2 q3 q4 =>
    refine .cl q1 q2 (fun ⟨j, b, u, h1, h2⟩ => ?_) q4
    rcases set_some h1 with ⟨rfl, h3, hl⟩ | ⟨n, h3⟩
    · have hb := kc b u h3.symm
      subst hb
      rcases set_some h2 with ⟨_, h4, _⟩ | ⟨n, h4⟩
      · exact hv p u (Option.some.inj h4).symm h3.symm t rfl rfl
      · exact n rfl
    · rw [List.getElem?_set_ne (Ne.symm n)] at h2
      exact q3 ⟨j, b, u, h3, h2⟩
theorem KV.own {K : PySem.W.Frag} {σ : L2.St} {H G : Hp} {ρ : Rho} {v : V} {k : Sl} (q : KV K F G H σ ρ v k) : ∀ b t, k = .cl b t → b = true := fun b t e => by
  cases q with
  | im q => cases e
  | cl _ _ _ _ => cases e; rfl
def bpar2 (i j : Nat) (ka kb : Rho → Option (Sl × Rho)) : Blk := fun ρ => match ka ρ with
  | some (k1, ρ1) => (match kb ρ1 with
    | some (k2, ρ2) => some (.nx ((ρ2.set i k1).set j k2))
    | none => none)
  | none => none
theorem pxs_par2 (i j : Nat) (hc : X.calm = true) (hN : X.N.Nodup) (ha : PXK X F a ka) (hb : PXK X F b kb) (hi : X.N[i]? = some x := by rfl) (hj : X.N[j]? = some y := by rfl) (hij : i ≠ j := by decide)
    (hx : X.env.scope.names.lookup x = some .local := by rfl) (hy : X.env.scope.names.lookup y = some .local := by rfl)
    (hs1 : starEach [a, b] X.env = (false, eval a X.env) :: starEach [b] X.env := by rfl) (hs2 : starEach [b] X.env = (false, eval b X.env) :: starEach [] X.env := by rfl)
    (hw : swappedStores [.Tuple [.Name x px, .Name y py] kt pt] (.Tuple [a, b] k2 pt2) X.env = pure (some [x, y]) := by rfl)
    (hs : swapsWithSole [.Tuple [.Name x px, .Name y py] kt pt] (.Tuple [a, b] k2 pt2) pos.line X.env = pure false := by rfl) :
    PXS X F (.Assign [.Tuple [.Name x px, .Name y py] kt pt] (.Tuple [a, b] k2 pt2) pos) (bpar2 i j ka kb) :=
  (ps_par hc hN hi hj hij hx hy (pa_cons ha (pa_cons hb pa_nil hs2) hs1) hw hs).weak fun D σ H h => by
  obtain ⟨G, ρ, o, R, e, s⟩ := h
  unfold bpar2 at e
  split at e
  · rename_i k1 ρ1 e1
    split at e
    · rename_i k2 ρ2 e2
      cases e
      refine ⟨G, ρ, k1, ρ1, R, e1, fun v H1 G1 p1 q1 f1 => ⟨G1, ρ1, k2, ρ2, p1.rep, e2, fun w H2 G2 p2 q2 f2 => ⟨v, w, rfl, ?_⟩⟩⟩
      have q1' := q1.stp p2
      have R2 := p2.rep.set i q1'
      have q2' : KV X.K F G2 H2 (σ.set i (some v)) (ρ2.set i k1) w k2 := q2.set (fun p t ev ek u ew el => by
        subst ev ek
        have hf := f2 p u ew el
        obtain ⟨o, ho⟩ := q1.some_
        rw [hf] at ho; cases ho) q1.own
      exact s _ H2 G2 (R2.set j q2') (p1.trans p2).le
    · cases e
  · cases e
def bpar3 (i j l : Nat) (ka kb kc : Rho → Option (Sl × Rho)) : Blk := fun ρ => match ka ρ with
  | some (k1, ρ1) => (match kb ρ1 with
    | some (k2, ρ2) => (match kc ρ2 with
      | some (k3, ρ3) => some (.nx (((ρ3.set i k1).set j k2).set l k3))
      | none => none)
    | none => none)
  | none => none
theorem pxs_par3 (i j l : Nat) (hc : X.calm = true) (hN : X.N.Nodup) (ha : PXK X F a ka) (hb : PXK X F b kb) (hd : PXK X F d kc) (hi : X.N[i]? = some x := by rfl) (hj : X.N[j]? = some y := by rfl) (hl : X.N[l]? = some z := by rfl) (hij : i ≠ j := by decide) (hil : i ≠ l := by decide) (hjl : j ≠ l := by decide)
    (hx : X.env.scope.names.lookup x = some .local := by rfl) (hy : X.env.scope.names.lookup y = some .local := by rfl) (hz : X.env.scope.names.lookup z = some .local := by rfl)
    (hs1 : starEach [a, b, d] X.env = (false, eval a X.env) :: starEach [b, d] X.env := by rfl) (hs2 : starEach [b, d] X.env = (false, eval b X.env) :: starEach [d] X.env := by rfl) (hs3 : starEach [d] X.env = (false, eval d X.env) :: starEach [] X.env := by rfl)
    (hw : swappedStores [.Tuple [.Name x px, .Name y py, .Name z pz] kt pt] (.Tuple [a, b, d] k2 pt2) X.env = pure (some [x, y, z]) := by rfl)
    (hs : swapsWithSole [.Tuple [.Name x px, .Name y py, .Name z pz] kt pt] (.Tuple [a, b, d] k2 pt2) pos.line X.env = pure false := by rfl) :
    PXS X F (.Assign [.Tuple [.Name x px, .Name y py, .Name z pz] kt pt] (.Tuple [a, b, d] k2 pt2) pos) (bpar3 i j l ka kb kc) :=
  (ps_par3 hc hN hi hj hl hij hil hjl hx hy hz (pa_cons ha (pa_cons hb (pa_cons hd pa_nil hs3) hs2) hs1) hw hs).weak fun D σ H h => by
  obtain ⟨G, ρ, o, R, e, s⟩ := h
  unfold bpar3 at e
  split at e
  · rename_i k1 ρ1 e1
    split at e
    · rename_i k2 ρ2 e2
      split at e
      · rename_i k3 ρ3 e3
        cases e
        refine ⟨G, ρ, k1, ρ1, R, e1, fun v H1 G1 p1 q1 f1 => ⟨G1, ρ1, k2, ρ2, p1.rep, e2, fun w H2 G2 p2 q2 f2 => ⟨G2, ρ2, k3, ρ3, p2.rep, e3, fun u H3 G3 p3 q3 f3 => ⟨v, w, u, rfl, ?_⟩⟩⟩⟩
        have q1' := q1.stp p2
        have q1'' := q1'.stp p3
        have q2'' := q2.stp p3
        have R3 := p3.rep.set i q1''
        have n12 : ∀ p t, v = V.ref p → k1 = .cl true t → ∀ u', w = .ref p → k2 = .cl true u' → False := fun p t ev ek u' ew el => by
          subst ev ek
          have hf := f2 p u' ew el
          obtain ⟨o, ho⟩ := q1.some_
          rw [hf] at ho; cases ho
        have n13 : ∀ p t, v = V.ref p → k1 = .cl true t → ∀ u', u = .ref p → k3 = .cl true u' → False := fun p t ev ek u' ew el => by
          subst ev ek
          have hf := f3 p u' ew el
          obtain ⟨o, ho⟩ := q1'.some_
          rw [hf] at ho; cases ho
        have n23 : ∀ p t, w = V.ref p → k2 = .cl true t → ∀ u', u = .ref p → k3 = .cl true u' → False := fun p t ev ek u' ew el => by
          subst ev ek
          have hf := f3 p u' ew el
          obtain ⟨o, ho⟩ := q2.some_
          rw [hf] at ho; cases ho
        have q2s := q2''.set (i := i) n12 q1.own
        have q3s := q3.set (i := i) n13 q1.own
        have R4 := R3.set j q2s
        have q3t := q3s.set (i := j) n23 q2.own
        exact s _ H3 G3 (R4.set l q3t) ((p1.trans p2).trans p3).le
      · cases e
    · cases e
  · cases e
end
end PX
/-! PX14 -/
set_option autoImplicit false
set_option maxRecDepth 100000
set_option linter.all false
namespace PX
open PySem L2

section
variable {X : Cx} {F : Fr} {pos p p2 apos : Pos} {e a b d : Expr} {es : List Expr} {fs : Rho → Option (List T × Rho)} {fa fb fd : Rho → Option (T × Rho)} {x y z : Str} {py : Pos}
theorem op_addG : OpR X (binaryOp .Add) (rAddG X.K) := op_add.or (OpR.or op_add_str (op_cat.or op_catA))
theorem op_ltG : OpR X (compareOp .Lt) (fun x y H Q => rI0 (fun i j => .bl (decide (i < j))) x y H Q ∨ rLtS x y H Q) := op_lt.or op_lt_str
theorem op_leG : OpR X (compareOp .LtE) (fun x y H Q => rI0 (fun i j => .bl (decide (i ≤ j))) x y H Q ∨ rLeS x y H Q) := op_le.or op_le_str
/-! ### dicts of the module -/
structure KDt (w : World) (K : PySem.W.Frag) (mg : Str → Option Value) (x : Str) (tab : List (Str × T)) : Prop where
  ex : ∃ (q : Addr) (es : Array DictEntry) (n : Nat), KDict K w q es n ∧ mg x = some (.ref q) ∧ (∀ z t, tab.lookup z = some t → ∃ u0 v0, PySem.W.nsIn K q z = some (some u0) ∧ RelV v0 u0 ∧ ∀ G, IsT K G v0 t) ∧ ∀ z, tab.lookup z = none → PySem.W.nsIn K q z = some none
def oInK (neg : Bool) (tab : List (Str × T)) : T → Option T := fun y => match y with
  | .str z => some (.bl (if neg then !(tab.lookup z).isSome else (tab.lookup z).isSome))
  | _ => none
def oItK (tab : List (Str × T)) : T → Option T := fun y => match y with
  | .str z => tab.lookup z
  | _ => none
theorem KDt.has {w : World} {K : PySem.W.Frag} {mg : Str → Option Value} {tab : List (Str × T)} {q : Addr} (h1 : ∀ z t, tab.lookup z = some t → ∃ u0 v0, PySem.W.nsIn K q z = some (some u0) ∧ RelV v0 u0 ∧ ∀ G, IsT K G v0 t) (h2 : ∀ z, tab.lookup z = none → PySem.W.nsIn K q z = some none) (z : Str) :
    ∃ r : Option Value, PySem.W.nsIn K q z = some r ∧ r.isSome = (tab.lookup z).isSome := by
  cases hl : tab.lookup z with
  | none => exact ⟨none, h2 z hl, rfl⟩
  | some t =>
    obtain ⟨u0, v0, h, _⟩ := h1 z t hl
    exact ⟨some u0, h, rfl⟩
theorem px_inK {tab : List (Str × T)} (g : KDt X.w X.K X.mg x tab) (ha : PX X F a fa) (hg : Gl X x := by rfl) (hd : (x == ("__debug__" : Str)) = false := by decide) (hm : behindInMarks .In (.Name x p) = false := by with_unfolding_all rfl) : PX X F (.Compare a [.In] [.Name x p] pos) (s1 fa (oInK false tab)) := by
  obtain ⟨q, es, n, D, hmg, h1, h2⟩ := g.ex
  refine (pe_cmpR (op_in_kd D) ha (pe_glob hg hmg (v := .ref q) rfl hd) hm).weak fun σ H Q h => ?_
  obtain ⟨G, ρ, t, ρ', R, e, k⟩ := h
  unfold s1 at e
  split at e
  · rename_i y ρ1 e1
    split at e
    · rename_i t' e2
      cases e
      refine tX_bind R e1 fun v1 H1 G1 p1 q1 => ?_
      unfold oInK at e2
      split at e2
      · rename_i z
        cases e2
        cases q1
        obtain ⟨r, hr, hs⟩ := KDt.has (w := X.w) (mg := X.mg) h1 h2 z
        refine ⟨z, r, rfl, rfl, hr, ?_⟩
        rw [hs]
        exact k _ H1 G1 p1 (.bl _)
      · cases e2
    · cases e
  · cases e
theorem px_ninK {tab : List (Str × T)} (g : KDt X.w X.K X.mg x tab) (ha : PX X F a fa) (hg : Gl X x := by rfl) (hd : (x == ("__debug__" : Str)) = false := by decide) (hm : behindInMarks .NotIn (.Name x p) = false := by with_unfolding_all rfl) : PX X F (.Compare a [.NotIn] [.Name x p] pos) (s1 fa (oInK true tab)) := by
  obtain ⟨q, es, n, D, hmg, h1, h2⟩ := g.ex
  refine (pe_cmpR (op_notIn_kd D) ha (pe_glob hg hmg (v := .ref q) rfl hd) hm).weak fun σ H Q h => ?_
  obtain ⟨G, ρ, t, ρ', R, e, k⟩ := h
  unfold s1 at e
  split at e
  · rename_i y ρ1 e1
    split at e
    · rename_i t' e2
      cases e
      refine tX_bind R e1 fun v1 H1 G1 p1 q1 => ?_
      unfold oInK at e2
      split at e2
      · rename_i z
        cases e2
        cases q1
        obtain ⟨r, hr, hs⟩ := KDt.has (w := X.w) (mg := X.mg) h1 h2 z
        refine ⟨z, r, rfl, rfl, hr, ?_⟩
        rw [hs]
        exact k _ H1 G1 p1 (.bl _)
      · cases e2
    · cases e
  · cases e
theorem px_itK {tab : List (Str × T)} (g : KDt X.w X.K X.mg x tab) (ha : PX X F a fa) (hg : Gl X x := by rfl) (hd : (x == ("__debug__" : Str)) = false := by decide) (hs : PlainIx a := by exact fun _ _ => rfl) : PX X F (.Subscript (.Name x p) a pos) (s1 fa (oItK tab)) := by
  obtain ⟨q, es, n, D, hmg, h1, h2⟩ := g.ex
  refine (pe_ix ix_kdict (pe_glob hg hmg (v := .ref q) rfl hd) ha hs).weak fun σ H Q h => ?_
  obtain ⟨G, ρ, t, ρ', R, e, k⟩ := h
  unfold s1 at e
  split at e
  · rename_i y ρ1 e1
    split at e
    · rename_i t' e2
      cases e
      refine tX_bind R e1 fun v1 H1 G1 p1 q1 => ?_
      unfold oItK at e2
      split at e2
      · rename_i z
        cases q1
        obtain ⟨u0, v0, h3, h4, h5⟩ := h1 z _ e2
        exact ⟨q, z, v0, rfl, rfl, ⟨es, n, u0, D.at_, D.lit, h3, h4⟩, k _ H1 G1 p1 (h5 _)⟩
      · cases e2
    · cases e
  · cases e
/-! ### list.index, of a value -/
end
section
variable {K : PySem.W.Frag}
def idxV (w : V) : List V → Nat → Option Nat
  | [], _ => none
  | v :: r, n => if eqV v w then some n else idxV w r (n + 1)
theorem idxV_is {w : V} : ∀ {ws : List V} {n j : Nat}, idxV w ws n = some j → ∃ i, j = n + i ∧ (∃ z, ws[i]? = some z ∧ eqV z w = true) ∧ ∀ m z', m < i → ws[m]? = some z' → eqV z' w = false
  | [], _, _, e => by cases e
  | v :: r, n, j, e => by
    unfold idxV at e
    split at e
    · rename_i h
      cases e
      exact ⟨0, by omega, ⟨v, rfl, h⟩, fun m _ hm => by omega⟩
    · rename_i h
      obtain ⟨i, h1, ⟨z, h2, h3⟩, h4⟩ := idxV_is e
      refine ⟨i + 1, by omega, ⟨z, h2, h3⟩, fun m z' hm hz => ?_⟩
      cases m with
      | zero => cases hz; simpa using h
      | succ m => exact h4 m z' (by omega) hz
def oIndex : T → List T → Option T := fun c xs => match c, xs with
  | .lst ts, [y] => (match flat y, flats ts with
    | some w, some ws => (match idxV w ws 0 with
      | some j => some (.int (j : Int))
      | none => none)
    | _, _ => none)
  | _, _ => none
theorem m_index : MtS K "list" (rIndex K) oIndex := by
  intro F σ H G ρ v x vs xs t Q R q r e k
  unfold oIndex at e
  split at e
  · split at e
    · rename_i w ws e1 e2
      split at e
      · rename_i j e3
        cases e
        cases q with
        | lst z r1 =>
          cases r with
          | cons q1 r =>
            cases r
            obtain ⟨h1, h2⟩ := flats_is e2 r1
            subst h1
            obtain ⟨i, hj, ⟨z', h3, h4⟩, h5⟩ := idxV_is e3
            rw [Nat.zero_add] at hj
            subst hj
            rw [flat_is e1 q1]
            exact ⟨_, _, _, j, z', rfl, rfl, .inl (.inl (R.sub _ _ z)), flat_V e1, h2, h3, h4, fun m z hm hz => h5 m z hm hz, k _ H G (.refl R) (.int _)⟩
      · cases e
    · cases e
  · cases e
/-! ### dict(pairs), list(dict), sorted(texts) -/
def prs : List T → Option (List (Key × T))
  | [] => some []
  | .tup [y, t] :: r => match keyT y, prs r with
    | some k, some l => some ((k, t) :: l)
    | _, _ => none
  | _ :: _ => none
def mergeKT (kts more : List (Key × T)) : List (Key × T) := more.foldl (fun acc kt => putKT acc kt.1 kt.2) kts
theorem merge_is {G : Hp} : ∀ {more : List (Key × V)} {moret : List (Key × T)} {kvs : List (Key × V)} {kts : List (Key × T)}, more.map (·.1) = moret.map (·.1) → IsTs K G (more.map (·.2)) (moret.map (·.2)) → kvs.map (·.1) = kts.map (·.1) → IsTs K G (kvs.map (·.2)) (kts.map (·.2)) →
    (mergeK kvs more).map (·.1) = (mergeKT kts moret).map (·.1) ∧ IsTs K G ((mergeK kvs more).map (·.2)) ((mergeKT kts moret).map (·.2))
  | [], [], _, _, _, _, e, r => ⟨e, r⟩
  | [], _ :: _, _, _, e, _, _, _ => by cases e
  | _ :: _, [], _, _, e, _, _, _ => by cases e
  | (a, v) :: more, (b, t) :: moret, kvs, kts, e1, r1, e, r => by
    obtain ⟨h1, h2, h3, h4⟩ := kv_cons e1 r1
    subst h1
    obtain ⟨h5, h6⟩ := putKT_is (k := a) h3 e r
    exact merge_is (more := more) (moret := moret) (kvs := putK kvs a v) (kts := putKT kts a t) h2 h4 h5 h6
theorem prs_is {G H : Hp} (hs : Le G H) : ∀ {ts : List T} {vs : List V} {kts : List (Key × T)}, IsTs K G vs ts → prs ts = some kts → ∃ (ps : List Addr) (kvs : List (Key × V)), vs = ps.map V.ref ∧ Paired (fun p kv => SqT K H p [kV kv.1, kv.2]) ps kvs ∧ kvs.map (·.1) = kts.map (·.1) ∧ IsTs K G (kvs.map (·.2)) (kts.map (·.2))
  | [], _, _, r, e => by cases r; cases e; exact ⟨[], [], rfl, .nil, rfl, .nil⟩
  | t0 :: r0, vs, kts, r, e => by
    unfold prs at e
    split at e
    · rename_i h; cases h
    · rename_i y t r' h
      cases h
      split at e
      · rename_i k l e1 e2
        cases e
        cases r with
        | cons q r =>
          obtain ⟨ps, kvs, h1, h2, h3, h4⟩ := prs_is hs r e2
          subst h1
          cases q with
          | tup z r2 =>
            cases r2 with
            | cons a1 r2 =>
              cases r2 with
              | cons a2 r2 =>
                cases r2
                have ek := keyT_is a1 e1
                subst ek
                exact ⟨_ :: ps, (k, _) :: kvs, rfl, .cons (hs.sqT z) h2, congrArg (k :: ·) h3, .cons a2 h4⟩
      · cases e
    · cases e
def oDictP : List T → Option T := fun xs => match xs with
  | [.lst ts] => (match prs ts with
    | some kts => some (.dct (mergeKT [] kts))
    | none => none)
  | _ => none
theorem c_dictP : CallN K (fun xs H Q => ∃ (a : Addr) (ps : List Addr) (kvs : List (Key × V)), xs = [.ref a] ∧ SqL K H a (ps.map V.ref) ∧ Paired (fun p kv => SqT K H p [kV kv.1, kv.2]) ps kvs ∧ ∀ p, H p = none → Q (.ref p) (upd H p (.dK (mergeK [] kvs)))) oDictP := by
  intro F σ H G ρ vs xs t Q R r e k
  unfold oDictP at e
  split at e
  · split at e
    · rename_i kts e1
      cases e
      cases r with
      | cons q r =>
        cases r
        cases q with
        | lst z r1 =>
          obtain ⟨ps, kvs, h1, h2, h3, h4⟩ := prs_is R.sub r1 e1
          subst h1
          obtain ⟨h5, h6⟩ := merge_is (kvs := []) (kts := []) h3 h4 rfl .nil
          refine ⟨_, ps, kvs, rfl, .inl (.inl (R.sub _ _ z)), h2, fun p hp => ?_⟩
          exact k p _ G (R.allocH _ hp) hp (R.sub.none_ hp) ⟨_, upd_same, h5, h6⟩
    · cases e
  · cases e
def oListD : List T → Option T := fun xs => match xs with
  | [.dct kts] => some (.lst (kts.map fun kt => keyTT kt.1))
  | _ => none
theorem keys_is {G : Hp} : ∀ {kvs : List (Key × V)} {kts : List (Key × T)}, kvs.map (·.1) = kts.map (·.1) → IsTs K G (kvs.map fun kv => kV kv.1) (kts.map fun kt => keyTT kt.1)
  | [], [], _ => .nil
  | [], _ :: _, e => by cases e
  | _ :: _, [], e => by cases e
  | (a, _) :: kvs, (b, _) :: kts, e => by
    have e1 : a = b := (List.cons.inj e).1
    have e2 : kvs.map (·.1) = kts.map (·.1) := (List.cons.inj e).2
    subst e1
    refine .cons ?_ (keys_is e2)
    cases a with
    | inl i => exact .int i
    | inr x => exact .str x
theorem c_listD : CallN K rListD oListD := by
  intro F σ H G ρ vs xs t Q R r e k
  unfold oListD at e
  split at e
  · cases e
    cases r with
    | cons q r =>
      cases r
      cases q with
      | dct z e2 r1 => exact ⟨_, _, rfl, R.sub _ _ z, fun p hp => k p _ G (R.allocH _ hp) hp (R.sub.none_ hp) ⟨_, upd_same, keys_is e2⟩⟩
  · cases e
/-- list(..) of a list, a tuple, a dict -/
def oListG : List T → Option T := fun xs => match xs with
  | [.dct _] => oListD xs
  | _ => oList xs
def rListG (K : PySem.W.Frag) : List V → Hp → VK → Prop := fun xs H Q => (∃ p ys, xs = [.ref p] ∧ (SqL K H p ys ∨ SqT K H p ys) ∧ ∀ l, H l = none → Q (.ref l) (upd H l (.lst ys))) ∨ rListD xs H Q
theorem c_listG : CallN K (rListG K) oListG := by
  intro F σ H G ρ vs xs t Q R r e k
  unfold oListG at e
  split at e
  · exact .inr (c_listD R r e k)
  · exact .inl (c_list R r e k)
theorem call_listG {X : Cx} (hc : X.calm = true) : CallR X (.type "list") (rListG X.K) := by
  intro pins s σ H xs us Q I r h
  rcases h with h | h
  · exact call_list_of pins s σ H xs us Q I r h
  · exact call_list_dK hc pins s σ H xs us Q I r h
end
end PX
/-! PX15 -/
set_option autoImplicit false
set_option maxRecDepth 100000
set_option linter.all false
set_option maxHeartbeats 4000000
namespace PX
open PySem PySem.Spec PyProof.Rows L2

/-- a tuple once: the tuple itself -/
theorem tup_once (l : Addr) (its : Array Value) (n : Nat) (dd : Option Addr) (sl : Array (Option Value)) (u : Tok) :
    Meets (Builtin.«tuple.__mul__» ⟨[.ref l, .int 1 u], []⟩) (fun _ R s => s.heap.get? l = some { cls := .type "tuple", dict := dd, data := .seq its n, slots := sl } ∧ R (.ok (.ret (.ref l))) { s with toks := s.toks }) :=
  .of_wp fun prog w A R s h => by
    obtain ⟨hp, g, d, tk, os⟩ := s
    obtain ⟨e, q⟩ := h
    have f1 := AutoSeq1.idx_int
    have c1 : (its.isEmpty || (1 : Int) == 1) = true := by simp
    wp_walk using wpAny_loadPart' e
    exact ⟨_, rfl, q⟩
theorem op_rep1 {X : Cx} : OpR X (binaryOp .Mult) (rRep1 X.K) := by
  intro pins s σ H x y vx vy Q I rx ry h
  obtain ⟨l, xs, rfl, rfl, hT, q⟩ := h
  cases rx
  obtain ⟨tk, rfl⟩ := ry
  obtain ⟨its, rel, ⟨⟨kind, own, part, slots⟩, at_, isK, cnt, isD⟩, _⟩ := I.tuple hT
  simp only at isK isD
  subst isK isD
  have ty : s.TypeIs (.ref l) "tuple" := ⟨_, at_, rfl⟩
  have last : ∀ B : Around, wpAny (model X.prog X.w) B (call (.builtin "tuple.__mul__") [.ref l, .int 1 tk]) (EP X pins σ Q) X.xe s := fun B =>
    call_meets F.slot_tuple_mul ty F.entry_tuple_mul (F.args_tuple_mul_2 _ _) (tup_once l its.toArray cnt own slots tk) ⟨at_, .ref l, H, I.tok s.toks, rfl, q⟩
  refine wpAny_binaryOp_repeat_ref (T := "tuple") (U := "int") (by decide) ty (fun s' => typeIs_int s' 1 tk) noFill_tuple_mul F.fills_int_mul F.slot_int_rmul repeat_tuple F.slot_int_index.lookup
    (call_meets F.slot_int_rmul (typeIs_int s 1 tk) F.entry_int_rmul (F.args_int_rmul_2 _ _) (int_rmul_tuple 1 tk l its.toArray cnt own slots) ?_)
  exact ⟨at_, rfl, ty, last _⟩
theorem op_mulG {X : Cx} : OpR X (binaryOp .Mult) (rMulG X.K) := op_mul.or (op_repT.or op_rep1)
/-! ### what is walked, of any kind -/
def isL : T → Bool
  | .lst _ => true
  | .scr _ => true
  | _ => false
def anyOf : T → Option (List T) := fun t => match t with
  | .str _ => chars t
  | t => seqOf (isL t) t
def enmA : List T → Option (List T) := fun xs => match xs with
  | [t] => enm (isL t) xs
  | _ => none
def zpA : List T → Option (List T) := fun xs => match xs with
  | [t, u] => zp (isL t) (isL u) xs
  | _ => none
section
variable {X : Cx} {F : PX.Fr} {tg e e2 : Expr} {fe : Rho → Option (T × Rho)} {fs : Rho → Option (List T × Rho)} {p pos tpos : Pos} {elts : List Expr} {kk : Nat}
theorem pxi_any (he : PX X F e fe) : PXI X F tg e (i1 fe anyOf) := ⟨⟨fun pins s σ H R I h => by
  obtain ⟨G, ρ, ts, ρ', Rp, e1, k⟩ := h
  unfold i1 at e1
  split at e1
  · rename_i t ρ1 e2
    split at e1
    · rename_i us e3
      cases e1
      unfold anyOf at e3
      split at e3
      · refine (pxi_str he).pi.run pins s σ H R I ⟨G, ρ, ts, _, Rp, ?_, k⟩
        unfold i1
        rw [e2]
        dsimp only
        rw [e3]
      · cases hk : isL t with
        | true =>
          rw [hk] at e3
          refine (pxi_list he).pi.run pins s σ H R I ⟨G, ρ, ts, _, Rp, ?_, k⟩
          unfold i1
          rw [e2]
          dsimp only
          rw [e3]
        | false =>
          rw [hk] at e3
          refine (pxi_tup he).pi.run pins s σ H R I ⟨G, ρ, ts, _, Rp, ?_, k⟩
          unfold i1
          rw [e2]
          dsimp only
          rw [e3]
    · cases e1
  · cases e1⟩⟩
theorem pxi_enumA (hm : X.mg "enumerate" = none) (ha : PXA X F [e] fs) (hg : Gl X "enumerate" := by rfl) (hs : starEach [e] X.env = [(false, eval e X.env)] := by rfl) : PXI X F (.Tuple elts kk tpos) (.Call (.Name "enumerate" p) [e] [] pos) (iA fs enmA) := ⟨⟨fun pins s σ H R I h => by
  obtain ⟨G, ρ, ts, ρ', Rp, e1, k⟩ := h
  unfold iA at e1
  split at e1
  · rename_i xs ρ1 e2
    split at e1
    · rename_i us e3
      cases e1
      unfold enmA at e3
      split at e3
      · rename_i t
        refine (pxi_enum (isL t) hm ha hg hs).pi.run pins s σ H R I ⟨G, ρ, ts, _, Rp, ?_, k⟩
        unfold iA
        rw [e2]
        dsimp only
        rw [e3]
      · cases e3
    · cases e1
  · cases e1⟩⟩
theorem pxi_zipA (hm : X.mg "zip" = none) (ha : PXA X F [e, e2] fs) (hg : Gl X "zip" := by rfl) (hs : starEach [e, e2] X.env = (false, eval e X.env) :: starEach [e2] X.env := by rfl) (hpl : (backTo pos (starEach [e2] X.env)).any (·.1) = false := by rfl) :
    PXI X F (.Tuple elts kk tpos) (.Call (.Name "zip" p) [e, e2] [] pos) (iA fs zpA) := ⟨⟨fun pins s σ H R I h => by
  obtain ⟨G, ρ, ts, ρ', Rp, e1, k⟩ := h
  unfold iA at e1
  split at e1
  · rename_i xs ρ1 e2
    split at e1
    · rename_i us e3
      cases e1
      unfold zpA at e3
      split at e3
      · rename_i t u
        refine (pxi_zip (isL t) (isL u) hm ha hg hs hpl).pi.run pins s σ H R I ⟨G, ρ, ts, _, Rp, ?_, k⟩
        unfold iA
        rw [e2]
        dsimp only
        rw [e3]
      · cases e3
    · cases e1
  · cases e1⟩⟩
end
/-! ### room -/
theorem u1 {k : Nat} {A : Around} (r : Room k A) : A.units + 1 < cLine := by have := r.units; omega
end PX
/-! PX16 -/
set_option autoImplicit false
set_option maxRecDepth 100000
set_option linter.all false
set_option maxHeartbeats 4000000
namespace PX
open PySem PySem.Spec PyProof.Rows L2
section
variable {X : Cx} {F : PX.Fr} {K : PySem.W.Frag} {tg iter vx kx : Expr} {ifs : List Expr} {scope : Scope} {pos : Pos} {sl : List Nat} {fi : Rho → Option (List T × Rho)} {gg : T → Rho → Option Rho} {ft : Rho → Option (Bool × Rho)} {fe fk : Rho → Option (T × Rho)}
theorem swd_true {gs : List Comprehension} {py : Pos} {y : Str} {l : Nat} {env : Env} (h1 : env.scope.kind = .function) (h2 : env.scope.names.lookup y = some .local) (h3 : (py.line == pos.line) = true)
    (h4 : (scope.names.any fun (n, k) => n == y && (k == .local || k == .cell)) = false) : swapsWith (.DictComp kx vx gs scope pos) (some (.Name y py)) l env = pure true := by
  have q1 : env.kindOf y = some .local := h2
  have q2 : env.blockKind = .function := by
    unfold Env.blockKind
    rw [h1]
    rfl
  unfold swapsWith
  simp only [q2, q1, h4, Expr.pos, h3]
  rfl
/-- name = {..} on one line -/
theorem pxs_setDc {i : Nat} {y : Str} {py spos : Pos} {mk : (Rho → Option (T × Rho)) → Rho → Option (Sl × Rho)} (own : List (Str × Nat)) (hc : X.calm = true) (hN : X.N.Nodup) (hi : PXI X F tg iter fi) (ok : BlkOk X.N X.env.scope scope own) (hsl : ∀ i ∈ sl, i ∈ own.map (·.2))
    (hfk : ∀ K' F' f σ H Q, tXK K' F' (mk f) σ H Q → tXN K' F' f σ H Q)
    (hg : ∀ (s : Shared) (H : Hp) (C : Addr) (cl : List (Str × Addr)) (fp : List Addr), PXG (X.blk s H scope (compEnvC scope cl C X.env) fp) F tg sl gg)
    (ht : ∀ (s : Shared) (H : Hp) (C : Addr) (cl : List (Str × Addr)) (fp : List Addr), PTs (X.blk s H scope (compEnvC scope cl C X.env) fp) ifs (tXT X.K F ft))
    (hk : ∀ (s : Shared) (H : Hp) (C : Addr) (cl : List (Str × Addr)) (fp : List Addr), PX (X.blk s H scope (compEnvC scope cl C X.env) fp) F kx fk)
    (he : ∀ (s : Shared) (H : Hp) (C : Addr) (cl : List (Str × Addr)) (fp : List Addr), PX (X.blk s H scope (compEnvC scope cl C X.env) fp) F vx fe)
    (hy : X.N[i]? = some y := by rfl) (hyl : X.env.scope.names.lookup y = some .local := by rfl) (hsw : swapsWith (.DictComp kx vx [⟨tg, iter, ifs, 0⟩] scope pos) (some (.Name y py)) spos.line X.env = pure true := by exact swd_true rfl rfl rfl (by decide +kernel)) (hs : ∀ x, foldedSetIterable iter X.env x = pure x := by intro _; rfl) :
    PXS X F (.Assign [.Name y py] (.DictComp kx vx [⟨tg, iter, ifs, 0⟩] scope pos) spos) (bset i (mk (dc (own.map (·.2)) fi gg ft fk fe))) := by
  refine ⟨fun pins s σ H D I h => ?_⟩
  have z0 : tXK X.K F (mk (dc (own.map (·.2)) fi gg ft fk fe)) σ H (fun x H1 => gName i x σ H1 D.nx) := bset_ok h
  have z := dc_ok (own.map (·.2)) hsl (hfk _ _ _ _ _ _ z0)
  rw [exec_Assign_Name_used _ _ _ _ hsw]
  refine wpAny_bind (wpAny_standAt (wpAny_bind ?_))
  show wpAny _ X.A (do let _ ← comprehension (.DictComp kx vx [⟨tg, iter, ifs, 0⟩] scope pos) scope X.env (firstIterPos [⟨tg, iter, ifs, 0⟩] pos) newDict false (eval iter X.env) (some (assign (.Name y py) X.env))) _ _ s
  refine wpAny_bind (thn (dc_core (Qf := fun _ t => SP X pins D .next t) hc hN I hi.pi ok hg ht hk he hs z fun L C t m H1 J q n f => ?_) fun _ t q => wpAny_pure (wpAny_pure q))
  show wpAny _ _ (assign (.Name y py) X.env (.ref L)) _ _ _
  refine wpAny_assign_Name (store_ok2 (v := V.ref L) J hN hy (.inl hyl) rfl (fun t2 J2 stored => ?_) (.inr hyl))
  obtain ⟨a, sb, at_⟩ := stored
  obtain ⟨g0, g1, g2, g3, g4, g5⟩ := f
  have apart : C ≠ a := by
    rcases at_ with u | u
    · rw [u]; exact g1
    · exact fun v => g4 y a u v.symm
  refine ⟨m, n.sameBut sb apart, fun h3 sb3 => ⟨_, H1, J2.turned (t' := t2.toks) (fun b o hb e => (sb3.2 b hb).trans e) g0 g1 g3 g4 g5, q⟩⟩
end
/-! ### calls by keyword alone -/
section
variable {P : Program} {w : World} {K : PySem.W.Frag} {mg : Str → Option Value} {base : Heap}
def perm {α : Type} (π : List Nat) (l : List α) : List α := π.filterMap fun i => l[i]?
def kg (π : List Nat) {α : Type} (us ws : List α) : List α := match us with
  | [] => perm π ws
  | _ => []
theorem vals_at {xs : List V} {us : List Value} (r : Vals xs us) (i : Nat) : (∃ x u, xs[i]? = some x ∧ us[i]? = some u ∧ RelV x u) ∨ (xs[i]? = none ∧ us[i]? = none) := by
  cases h : xs[i]? with
  | none =>
    refine .inr ⟨rfl, ?_⟩
    rw [List.getElem?_eq_none_iff] at h ⊢
    rw [← r.length]
    exact h
  | some x =>
    obtain ⟨u, h1, h2⟩ := r.get h
    exact .inl ⟨x, u, rfl, h1, h2⟩
theorem vals_perm {xs : List V} {us : List Value} (r : Vals xs us) : ∀ π : List Nat, Vals (perm π xs) (perm π us)
  | [] => .nil
  | i :: π => by
    have ih := vals_perm r π
    unfold perm at ih ⊢
    rw [List.filterMap_cons, List.filterMap_cons]
    rcases vals_at r i with ⟨x, u, h1, h2, h3⟩ | ⟨h1, h2⟩
    · rw [h1, h2]; exact .cons h3 ih
    · rw [h1, h2]; exact ih
/-- a def that may be called by keywords ks; π: where each parameter's value stands -/
structure CalK (P : Program) (w : World) (K : PySem.W.Frag) (mg : Str → Option Value) (base : Heap) (k : Nat) (x : Str) (ks : List Str) (π : List Nat) (sp : Sp) : Prop where
  ex : ∃ (f : Addr) (fd : FuncData) (ps : List Str), FnOk P w K mg base CX0 k f fd ps sp ∧ mg x = some (.ref f) ∧ PySem.W.keepIn K (.ref f) = true ∧ KBinds K fd ps ks (kg π) (kg π)
theorem kbinds_of {x qual : Str} {params : Arguments} {body : List Stmt} {scope : Scope} {kws : List (Str × V)} {f : Addr} {fd : FuncData} {ps ks : List Str} {π : List Nat} (D : FunD K x qual params body scope [] kws f fd) (hp : ps.length ≠ 0)
    (h : ∀ (kV doc pm : Value) (an : Option Addr) (cdv ct : Value) (ws : List Value), (perm π ws).length = ps.length → bindArgs (PySem.W.fnOf x qual params body scope .none kV doc pm an cdv ct) ⟨[], ks.zip ws⟩ = pure (ps.zip (perm π ws))) : KBinds K fd ps ks (kg π) (kg π) := by
  refine ⟨fun s us ws X hl => ?_, fun {vs us zs ws} r rz => ?_⟩
  · obtain ⟨oc, od, dV, kV, doc, pm, an, cdv, ct, osl, rfl, lk, hcd, hD, hK⟩ := D.ex
    have hdV : dV = .none := by
      rcases hD with ⟨_, e⟩ | ⟨e, _⟩
      · exact e
      · exact absurd rfl e
    subst hdV
    cases us with
    | cons u us => exact absurd hl.symm hp
    | nil => exact BindsTo.of_eq (h kV doc pm an cdv ct ws hl)
  · cases r with
    | nil => exact vals_perm rz π
    | cons _ _ => exact .nil
end
section
variable {X : Cx} {F : PX.Fr} {pos p : Pos} {e : Expr} {fe : Rho → Option (T × Rho)} {fs : Rho → Option (List T × Rho)} {kws : List Keyword} {x : Str} {k j : Nat} {ks : List Str} {π : List Nat} {nm : Option Str} {kpos : Pos}
abbrev PXK' (X : Cx) (F : PX.Fr) (kws : List Keyword) (f : Rho → Option (List T × Rho)) : Prop := PK X kws (tXA X.K F f)
theorem _root_.L2.PK.weak {X : Cx} {kws : List Keyword} {t t' : TA} (h : PK X kws t) (w : ∀ σ H Q, t' σ H Q → t σ H Q) : PK X kws t' := ⟨fun pos pins s σ H Q I q => h.run pos pins s σ H Q I (w σ H Q q)⟩
theorem pxk_nil : PXK' X F [] anil := pk_nil.weak fun σ H Q h => by
  obtain ⟨G, ρ, t, ρ', R, e, k⟩ := h
  cases e
  exact k [] H G (.refl R) .nil
theorem pxk_cons (ha : PX X F e fe) (hr : PXK' X F kws fs) : PXK' X F (⟨nm, e, kpos⟩ :: kws) (acons fe fs) := (pk_cons ha hr).weak fun σ H Q h => by
  obtain ⟨G, ρ, t, ρ', R, e, k⟩ := h
  unfold acons at e
  split at e
  · rename_i x ρ1 e1
    split at e
    · rename_i xs ρ2 e2
      cases e
      exact tX_bind R e1 fun v1 H1 G1 p1 q1 => tXA_bind p1.rep e2 fun vs H2 G2 p2 q2 => k _ H2 G2 (p1.trans p2) (.cons (q1.mono p2.le) q2)
    · cases e
  · cases e
/-- f(k = v, ..) -/
def sK (π : List Nat) (fs : Rho → Option (List T × Rho)) (d : List T → Option T) : Rho → Option (T × Rho) := sA fs fun xs => d (perm π xs)
theorem isTs_perm {K : PySem.W.Frag} {G : Hp} {vs : List V} {ts : List T} (r : IsTs K G vs ts) : ∀ π : List Nat, IsTs K G (perm π vs) (perm π ts)
  | [] => .nil
  | i :: π => by
    have ih := isTs_perm r π
    unfold perm at ih ⊢
    rw [List.filterMap_cons, List.filterMap_cons]
    cases h : ts[i]? with
    | none =>
      have : vs[i]? = none := by
        rw [List.getElem?_eq_none_iff] at h ⊢
        rw [r.length]; exact h
      rw [this]; exact ih
    | some t =>
      obtain ⟨v, h1, h2⟩ := r.get h
      rw [h1]
      exact .cons h2 ih
theorem px_callK {d : List T → Option T} (cal : CalK X.prog X.w X.K X.mg X.base k x ks π (spP X.K d)) (hr : Room j X.A) (hk : k ≤ j) (ha : PXK' X F kws fs) (hg : Gl X x := by rfl)
    (hall : (backToKw pos (keywordEach kws X.env)).all (·.1.isSome) = true := by rfl) (hks : (backToKw pos (keywordEach kws X.env)).filterMap (·.1) = ks := by rfl) (hdb : (x == ("__debug__" : Str)) = false := by decide)
    (hpl : ((backTo pos (starEach [] X.env)).any (·.1) || (backToKw pos (keywordEach kws X.env)).any (·.1.isNone)) = false := by rfl) :
    PX X F (.Call (.Name x p) [] kws pos) (sK π fs d) := by
  obtain ⟨f, fd, ps, Fn, hm, kp, b⟩ := cal.ex
  refine ⟨fun pins s σ H Q I h => ?_⟩
  obtain ⟨G, ρ, t, ρ', R, e, q⟩ := h
  unfold sK sA at e
  split at e
  · rename_i xs ρ1 e1
    split at e
    · rename_i t' e2
      cases e
      refine wpAny_Call_Name_kw (ld_glob I hg hm ?_ hdb)
      refine PySem.W.callWith_KW0 (h₀ := X.base) I.ok.mod.kin kp hall (thn (ha.run pos pins s σ H (fun vs H1 => spP X.K d (kg π [] vs) H1 Q E0) I (tXA_bind R e1 fun vs H1 G1 p1 r1 => ?_)) fun us s1 y => ?_) hpl
      · exact ⟨G1, perm π xs, _, p1.rep.sub, isTs_perm r1 π, e2, fun w H2 G2 E hs z => q w H2 G2 (p1.trans (p1.rep.grow (fun a o h => E.k a o h id) E.g hs E.n)) z⟩
      · obtain ⟨vs, H1, I1, r1, z⟩ := y
        refine ⟨I1.kIn, ?_⟩
        rw [hks]
        exact run_fnk (vs := []) (us := []) Fn (hr.mono hk) b pass0 I1 .nil r1 z
    · cases e
  · cases e
end
end PX
/-! PX17 -/
set_option autoImplicit false
set_option maxRecDepth 100000
set_option linter.all false
namespace PX
open PySem PySem.Spec PyProof.Rows L2

/-! ### constants that stand in the written part -/
mutual
theorem tcB_ok {K : PySem.W.Frag} : ∀ {t : T} {v : Value}, tcB K t v = true → ∃ w : V, RelV w v ∧ ∀ G, IsT K G w t
  | .non, v, h => by
    cases v <;> first | exact ⟨.non, rfl, fun _ => .non⟩ | (unfold tcB at h; cases h)
  | .bl b, v, h => by
    cases v with
    | bool c => unfold tcB at h; cases (beq_iff_eq.mp h); exact ⟨.bl b, rfl, fun _ => .bl b⟩
    | _ => unfold tcB at h; cases h
  | .int i, v, h => by
    cases v with
    | int j t => unfold tcB at h; cases (of_decide_eq_true h); exact ⟨.int i, ⟨t, rfl⟩, fun _ => .int i⟩
    | _ => unfold tcB at h; cases h
  | .str i, v, h => by
    cases v with
    | str j t => unfold tcB at h; cases (of_decide_eq_true h); exact ⟨.str i, ⟨t, rfl⟩, fun _ => .str i⟩
    | _ => unfold tcB at h; cases h
  | .tup ts, v, h => by
    cases v with
    | ref a =>
      unfold tcB at h
      split at h
      · rename_i c _ its n _ e
        obtain ⟨h1, h2⟩ := He.ba h
        obtain ⟨h3, h4⟩ := He.ba h2
        cases (of_decide_eq_true h1)
        obtain ⟨ws, r, q⟩ := tcsB_ok h4
        exact ⟨.ref a, rfl, fun G => .tup (.inr ⟨_, its, n, e, rfl, rfl, le_line (of_decide_eq_true h3), r⟩) (q G)⟩
      · cases h
    | _ => unfold tcB at h; cases h
  | .lst _, v, h => by unfold tcB at h; cases h
  | .dct _, v, h => by unfold tcB at h; cases h
  | .obj _ _, v, h => by unfold tcB at h; cases h
  | .scr _, v, h => by unfold tcB at h; cases h
  | .raw _, v, h => by unfold tcB at h; cases h
theorem tcsB_ok {K : PySem.W.Frag} : ∀ {ts : List T} {vs : List Value}, tcsB K ts vs = true → ∃ ws : List V, Vals ws vs ∧ ∀ G, IsTs K G ws ts
  | [], vs, h => by
    cases vs with
    | nil => exact ⟨[], .nil, fun _ => .nil⟩
    | cons _ _ => unfold tcsB at h; cases h
  | t :: ts, vs, h => by
    cases vs with
    | nil => unfold tcsB at h; cases h
    | cons v vs =>
      unfold tcsB at h
      obtain ⟨h1, h2⟩ := He.ba h
      obtain ⟨w, r, q⟩ := tcB_ok h1
      obtain ⟨ws, rs, qs⟩ := tcsB_ok h2
      exact ⟨w :: ws, .cons r rs, fun G => .cons (q G) (qs G)⟩
end
section
variable {K : PySem.W.Frag} {h : Heap} {mg : Str → Option Value} {w : World}
theorem gloB_ok (X : K.In h) (G : h.Ns mainGlobals mg) {x : Str} {t : T} (c : gloB K x t = true) : Glo K mg x t := by
  unfold gloB at c
  split at c
  · rename_i v e
    obtain ⟨u, r, q⟩ := tcB_ok c
    exact ⟨v, u, PySem.W.mg_of X G e, r, q⟩
  · cases c
/-! dicts of the module -/
theorem find_keys {z : Str} : ∀ {l : List DictEntry} {ks : List Str}, l.map He.keyOf = (ks.map fun k => some (k, PyData.keyHash w.params k)) → z ∉ ks → (l.find? (·.key.isStr z) = none ∧ l.any (·.refKey) = false)
  | [], _, _, _ => ⟨rfl, rfl⟩
  | e :: r, [], h, _ => by cases h
  | e :: r, k :: ks, h, n => by
    have h1 : He.keyOf e :: r.map He.keyOf = some (k, PyData.keyHash w.params k) :: (ks.map fun k => some (k, PyData.keyHash w.params k)) := h
    injection h1 with h2 h3
    simp only [List.mem_cons, not_or] at n
    obtain ⟨i1, i2⟩ := find_keys h3 n.2
    unfold He.keyOf at h2
    split at h2
    · rename_i y t q
      obtain ⟨hy, _⟩ := Prod.mk.inj (Option.some.inj h2)
      subst hy
      have e1 : e.key.isStr z = false := by
        rw [q]
        cases hh : (Value.str y t).isStr z with
        | false => rfl
        | true =>
          rw [PySem.W.isStr_of] at hh
          have hz : (y == z) = true := hh
          exact absurd (beq_iff_eq.mp hz).symm n.1
      have e2 : e.refKey = false := by
        unfold DictEntry.refKey
        rw [q]
      refine ⟨?_, ?_⟩
      · rw [List.find?_cons, e1]; exact i1
      · rw [List.any_cons, e2]; exact i2
    · cases h2
theorem lookup_mem {α : Type} {z : Str} {t : α} : ∀ {tab : List (Str × α)}, tab.lookup z = some t → (z, t) ∈ tab
  | [], h => by cases h
  | (a, b) :: r, h => by
    rw [List.lookup_cons] at h
    cases e : z == a with
    | true =>
      rw [e] at h
      cases h
      rw [beq_iff_eq.mp e]
      exact List.mem_cons_self
    | false =>
      rw [e] at h
      exact List.mem_cons_of_mem _ (lookup_mem h)
theorem lookup_not {α : Type} {z : Str} : ∀ {tab : List (Str × α)}, tab.lookup z = none → z ∉ tab.map (·.1)
  | [], _ => by simp
  | (a, b) :: r, h => by
    rw [List.lookup_cons] at h
    cases e : z == a with
    | true => rw [e] at h; cases h
    | false =>
      rw [e] at h
      simp only [List.map_cons, List.mem_cons, not_or]
      exact ⟨fun z => by rw [z] at e; simp at e, lookup_not h⟩
theorem kdB_ok (X : K.In h) (G : h.Ns mainGlobals mg) {x : Str} {tab : List (Str × T)} (c0 : (He.Fa.glo x).ok K = true) (c1 : He.dicW K (He.ga K x) = some (He.keysIn w.params (tab.map (·.1)))) (c2 : kdB K x tab = true) : KDt w K mg x tab := by
  obtain ⟨es, n, D⟩ := He.dicW_ok c1
  refine ⟨He.ga K x, es, n, D, He.glo_ok X G c0, fun z t hz => ?_, fun z hz => ?_⟩
  · have m := List.all_eq_true.mp c2 _ (lookup_mem hz)
    split at m
    · rename_i u e
      obtain ⟨v0, r, q⟩ := tcB_ok m
      exact ⟨u, v0, e, r, q⟩
    · cases m
  · have nz := lookup_not hz
    have hd : es.toList.map He.keyOf = He.keysIn w.params (tab.map (·.1)) := by
      have e0 := D.at_
      unfold He.dicW at c1
      rw [e0] at c1
      dsimp only at c1
      split at c1
      · exact Option.some.inj c1
      · cases c1
    obtain ⟨f1, f2⟩ := find_keys (w := w) hd nz
    unfold PySem.W.nsIn
    rw [D.at_]
    dsimp only
    rw [f1]
    dsimp only
    rw [f2]
    rfl
end
/-! classes: isinstance -/
theorem isCB_ok {K : PySem.W.Frag} {c : Str} (cl : Cls K (He.ga K c)) (h : isCB K c = true) : IsC K c := by
  obtain ⟨h1, h2⟩ := He.ba h
  obtain ⟨h3, h4⟩ := He.ba h2
  obtain ⟨h5, h6⟩ := He.ba h4
  exact ⟨cl, He.eqO_ok h1, He.eqO_ok h3, of_decide_eq_true h5, of_decide_eq_true h6⟩
theorem kit_self {K : PySem.W.Frag} {a : Addr} : PySem.W.kitOne K (.ref a) (.ref a) = some true := by
  unfold PySem.W.kitOne
  rw [if_pos (by simp)]
theorem tb_self {K : PySem.W.Frag} {c : Str} (ic : IsC K c) : IsTb K (He.ga K c) [] [(c, true)] := by
  refine ⟨fun n b h => (by cases h), fun d b h => ?_⟩
  rw [List.lookup_cons] at h
  cases e : d == c with
  | true =>
    rw [e] at h
    cases h
    rw [beq_iff_eq.mp e]
    exact ⟨ic, kit_self⟩
  | false => rw [e] at h; cases h
/-! ### what is looked at -/
section
variable {fa : List He.Fa} {fn : List He.DefD} {k : Ck} {w : World} {K : PySem.W.Frag} {h : Heap} {mg : Str → Option Value}
theorem SaysP.t (c : SaysP fa fn k w K) : He.SaysT fa fn (kTabs k) w K := congrArg (fun z : AlP => z.1) c
theorem SaysP.d (c : SaysP fa fn k w K) : He.SaysD fa fn K := c.t.d
theorem SaysP.ck (c : SaysP fa fn k w K) : k.ok K = true := congrArg (fun z : AlP => z.2) c
theorem SaysP.glo (c : SaysP fa fn k w K) (X : K.In h) (G : h.Ns mainGlobals mg) (i : Nat) {x : Str} {t : T} (e : k.glo[i]? = some (x, t) := by rfl) : Glo K mg x t :=
  gloB_ok X G (List.all_eq_true.mp (He.ba c.ck).1 (x, t) (List.mem_of_getElem? e))
theorem SaysP.isc (c : SaysP fa fn k w K) (i : Nat) {x : Str} (cl : Cls K (He.ga K x)) (e : k.isc[i]? = some x := by rfl) : IsC K x :=
  isCB_ok cl (List.all_eq_true.mp (He.ba (He.ba c.ck).2).2 x (List.mem_of_getElem? e))
theorem SaysP.kd (c : SaysP fa fn k w K) (X : K.In h) (G : h.Ns mainGlobals mg) (i : Nat) {x : Str} {tab : List (Str × T)} (c0 : (He.Fa.glo x).ok K = true) (e : k.kd[i]? = some (x, tab) := by rfl) : KDt w K mg x tab := by
  refine kdB_ok X G c0 ?_ (List.all_eq_true.mp (He.ba (He.ba c.ck).2).1 (x, tab) (List.mem_of_getElem? e))
  have e1 : (kTabs k).map (fun t => He.dicW K (t.1 K)) = (kTabs k).map fun t => some (He.keysIn w.params t.2) := congrArg (fun z : He.AlT => z.2) c.t
  have e2 : ((kTabs k).map (fun t => He.dicW K (t.1 K)))[i]? = ((kTabs k).map fun t => some (He.keysIn w.params t.2))[i]? := by rw [e1]
  unfold kTabs at e2
  rw [List.getElem?_map, List.getElem?_map, List.getElem?_map, List.getElem?_map, e] at e2
  exact Option.some.inj e2
end
end PX
/-! PX18 -/
set_option autoImplicit false
set_option maxRecDepth 100000
set_option linter.all false
namespace PX
open PySem L2

theorem fn_zero {P : Program} {w : World} {K : PySem.W.Frag} {mg : Str → Option Value} {base : Heap} {f : Addr} {fd : FuncData} {ps : List Str} : FnOk P w K mg base CX0 0 f fd ps (spP K fun _ => none) :=
  ⟨fun vs H Q E h => (by obtain ⟨_, _, _, _, _, e, _⟩ := h; cases e), fun A outer s H args us vs Q E hr he hb hv h => (by obtain ⟨_, _, _, _, _, e, _⟩ := h; cases e)⟩
/-! ### sorted(..) of texts, of ints -/
def leS (a b : Str) : Bool := !decide (b.cps.toList < a.cps.toList)
def srtS (xs : List Str) : List Str := xs.mergeSort leS
def srtI (xs : List Int) : List Int := xs.mergeSort fun a b => decide (a ≤ b)
theorem leS_iff {a b : Str} : leS a b = true ↔ a.cps.toList ≤ b.cps.toList := by
  unfold leS
  rw [Bool.not_eq_true', decide_eq_false_iff_not]
  exact Iff.rfl
theorem leS_anti {a b : Str} (h1 : leS a b = true) (h2 : leS b a = true) : a = b := by
  have e := List.le_antisymm (leS_iff.mp h1) (leS_iff.mp h2)
  cases a; cases b
  simp only at e
  rw [Array.toList_inj] at e
  rw [e]
theorem leS_trans {a b c : Str} (h1 : leS a b = true) (h2 : leS b c = true) : leS a c = true := leS_iff.mpr (List.le_trans (leS_iff.mp h1) (leS_iff.mp h2))
theorem leS_total (a b : Str) : (leS a b || leS b a) = true := by
  rcases List.le_total a.cps.toList b.cps.toList with h | h
  · rw [leS_iff.mpr h]; rfl
  · rw [leS_iff.mpr h, Bool.or_true]
theorem srtS_pair (xs : List Str) : (srtS xs).Pairwise fun a b => leS a b = true := List.pairwise_mergeSort (le := leS) (fun _ _ _ h1 h2 => leS_trans h1 h2) (fun a b => leS_total a b) xs
theorem srtS_perm (xs : List Str) : (srtS xs).Perm xs := List.mergeSort_perm xs leS
theorem rising_pair : ∀ (ys : List Str) (x : Str), PyProof.Rows.risingS x ys = true → (x :: ys).Pairwise fun a b => leS a b = true
  | [], x, _ => List.pairwise_singleton _ _
  | y :: r, x, h => by
    unfold PyProof.Rows.risingS at h
    simp only [Bool.and_eq_true] at h
    have ih := rising_pair r y h.2
    refine List.Pairwise.cons (fun z hz => ?_) ih
    have hxy : leS x y = true := by
      have z := h.1
      rw [PyProof.Rows.ltCps_eq] at z
      exact z
    rcases List.mem_cons.mp hz with e | e
    · rw [e]; exact hxy
    · exact leS_trans hxy (List.rel_of_pairwise_cons ih e)
theorem sortedS_is {xs ys : List Str} (p : ys.Perm xs) (s : PyProof.Rows.sortedS ys = true) : ys = srtS xs := by
  have hp : ys.Pairwise fun a b => leS a b = true := by
    cases ys with
    | nil => exact .nil
    | cons y r => exact rising_pair r y s
  exact List.Perm.eq_of_pairwise (fun a b _ _ => leS_anti) hp (srtS_pair xs) (p.trans (srtS_perm xs).symm)
theorem srtI_is {xs ys : List Int} (p : ys.Perm xs) (s : ys.Pairwise (· ≤ ·)) : ys = srtI xs := by
  have h : (srtI xs).Pairwise fun a b => decide (a ≤ b) = true := List.pairwise_mergeSort (fun a b c h1 h2 => by simp at h1 h2 ⊢; omega) (fun a b => by simp; omega) xs
  exact List.Perm.eq_of_pairwise (le := fun a b => decide (a ≤ b) = true) (fun a b _ _ h1 h2 => by simp at h1 h2; omega) (s.imp fun h => decide_eq_true h) h (p.trans (List.mergeSort_perm xs _).symm)
def strL : List T → Option (List Str)
  | [] => some []
  | .str x :: r => (strL r).map (x :: ·)
  | _ :: _ => none
theorem strL_is {K : PySem.W.Frag} {G : Hp} : ∀ {ts : List T} {vs : List V} {xs : List Str}, IsTs K G vs ts → strL ts = some xs → vs = xs.map V.str
  | [], _, _, r, e => by cases r; cases e; rfl
  | t :: ts, _, xs, r, e => by
    cases r with
    | cons q r =>
      unfold strL at e
      split at e
      · rename_i h; cases h
      · rename_i x r' h
        cases h
        cases z : strL ts with
        | none => rw [z] at e; cases e
        | some ys =>
          rw [z] at e
          cases e
          cases q
          rw [strL_is r z]
          rfl
      · cases e
section
variable {K : PySem.W.Frag}
/-- sorted(..) of texts (fewer than 64), of ints -/
def oSort : List T → Option T := fun xs => match xs with
  | [.lst ts] => (match strL ts with
    | some ss => if ss.length < 64 then some (.lst ((srtS ss).map T.str)) else none
    | none => (match intsL ts with
      | some ns => some (.lst ((srtI ns).map T.int))
      | none => none))
  | _ => none
def rSortG (K : PySem.W.Frag) : List V → Hp → VK → Prop := fun vs H Q => rSortedS K vs H Q ∨ rSortedI K vs H Q
theorem call_sortG {X : Cx} : CallR X (.builtin "sorted") (rSortG X.K) := by
  intro pins s σ H xs us Q I r h
  rcases h with h | h
  · exact cr_sortedS pins s σ H xs us Q I r h
  · exact cr_sortedI pins s σ H xs us Q I r h
theorem c_sortG : CallN K (rSortG K) oSort := by
  intro F σ H G ρ vs xs t Q R r e k
  unfold oSort at e
  split at e
  · split at e
    · rename_i ss e1
      split at e
      · rename_i hl
        cases e
        cases r with
        | cons q r =>
          cases r
          cases q with
          | lst z r1 =>
            have hv := strL_is r1 e1
            subst hv
            refine .inl ⟨_, ss, rfl, .inl (.inl (R.sub _ _ z)), hl, fun ys p pm so hp => ?_⟩
            rw [sortedS_is pm so]
            exact k p _ G (R.allocH _ hp) hp (R.sub.none_ hp) ⟨_, upd_same, IsTs.of_strs _⟩
      · cases e
    · split at e
      · rename_i ns e1
        cases e
        cases r with
        | cons q r =>
          cases r
          cases q with
          | lst z r1 =>
            have hv := intsL_is r1 e1
            subst hv
            refine .inr ⟨_, ns, rfl, .inl (.inl (R.sub _ _ z)), fun ys p pm so hp => ?_⟩
            rw [srtI_is pm so]
            exact k p _ G (R.allocH _ hp) hp (R.sub.none_ hp) ⟨_, upd_same, IsTs.of_ints _⟩
      · cases e
  · cases e
end
end PX
/-! PX19 -/
set_option autoImplicit false
set_option maxRecDepth 100000
set_option linter.all false
set_option maxHeartbeats 4000000
namespace PX
open PySem PySem.Spec PyProof.Rows L2

/-! ### pairs (text, int), by the text, then by the int -/
def ltSI (p q : Str × Int) : Bool := if p.1 = q.1 then decide (p.2 < q.2) else decide (p.1.cps.toList < q.1.cps.toList)
theorem str_tri {a b : Str} (h1 : ¬ a.cps.toList < b.cps.toList) (h2 : ¬ b.cps.toList < a.cps.toList) : a = b :=
  leS_anti (by unfold leS; simpa using h2) (by unfold leS; simpa using h1)
theorem ltSI_iff {p q : Str × Int} : ltSI p q = true ↔ p.1.cps.toList < q.1.cps.toList ∨ (p.1 = q.1 ∧ p.2 < q.2) := by
  unfold ltSI
  by_cases e : p.1 = q.1
  · rw [if_pos e, decide_eq_true_eq, e]
    constructor
    · exact fun h => .inr ⟨rfl, h⟩
    · rintro (h | h)
      · exact absurd h (List.lt_irrefl _)
      · exact h.2
  · rw [if_neg e, decide_eq_true_eq]
    exact ⟨.inl, fun h => h.elim id fun h => absurd h.1 e⟩
theorem ltSI_no {p q : Str × Int} : ltSI p q = false ↔ ¬ (p.1.cps.toList < q.1.cps.toList ∨ (p.1 = q.1 ∧ p.2 < q.2)) := by
  rw [← ltSI_iff]
  cases ltSI p q <;> simp
theorem swo_SI {α : Type} (k : α → Str × Int) : SrtO.Swo fun v u => ltSI (k v) (k u) := by
  refine ⟨fun x y h => ltSI_no.mpr ?_, fun x y z h1 h2 => ltSI_no.mpr ?_⟩
  · rcases ltSI_iff.mp h with a | ⟨a1, a2⟩
    · rintro (b | ⟨b1, _⟩)
      · exact List.lt_asymm a b
      · rw [b1] at a; exact List.lt_irrefl _ a
    · rintro (b | ⟨_, b2⟩)
      · rw [a1] at b; exact List.lt_irrefl _ b
      · omega
  · have a := ltSI_no.mp h1
    have b := ltSI_no.mp h2
    rw [not_or] at a b
    rintro (c | ⟨c1, c2⟩)
    · have d : (k z).1.cps.toList ≤ (k x).1.cps.toList := by
        have e1 : (k y).1.cps.toList ≤ (k x).1.cps.toList ∨ True := .inr trivial
        exact absurd c (fun c => by
          have f1 : (k x).1.cps.toList ≤ (k y).1.cps.toList := a.1
          have f2 : (k y).1.cps.toList ≤ (k z).1.cps.toList := b.1
          exact (List.le_trans f1 f2) c)
      have f1 : (k x).1.cps.toList ≤ (k y).1.cps.toList := a.1
      have f2 : (k y).1.cps.toList ≤ (k z).1.cps.toList := b.1
      exact (List.le_trans f1 f2) c
    · have f1 : (k x).1.cps.toList ≤ (k y).1.cps.toList := a.1
      have f2 : (k y).1.cps.toList ≤ (k z).1.cps.toList := b.1
      have e1 : (k x).1 = (k y).1 := by
        refine leS_anti (leS_iff.mpr f1) (leS_iff.mpr ?_)
        rw [← c1]
        exact f2
      have e2 : (k y).1 = (k z).1 := by rw [← e1]; exact c1.symm
      have a2 : ¬ (k y).2 < (k x).2 := fun h => a.2 ⟨e1.symm, h⟩
      have b2 : ¬ (k z).2 < (k y).2 := fun h => b.2 ⟨e2.symm, h⟩
      omega
/-- v is such a pair -/
def PS (h : Heap) (v : Value) (p : Str × Int) : Prop := ∃ a o t u n, v = Value.ref a ∧ h.get? a = some o ∧ o.cls = .type "tuple" ∧ o.data = .seq #[.str p.1 t, .int p.2 u] n
theorem PS.keeps {h h' : Heap} {v : Value} {p : Str × Int} (x : PS h v p) (kp : ∀ b o, h.get? b = some o → o.cls = .type "tuple" → h'.get? b = some o) : PS h' v p := by
  obtain ⟨a, o, t, u, n, e, ho, hc, hd⟩ := x
  exact ⟨a, o, t, u, n, e, kp _ _ ho hc, hc, hd⟩
section
variable {prog : Program} {w : World} {A : Around} {E : Value → Shared → Prop} {s : Shared}
theorem ps_cmp {vs : List Value} {k : Value → Str × Int} (hp : ∀ v ∈ vs, PS s.heap v (k v)) : SrtO.Cmp prog w A s (tuples' true) (fun p => p.1 ∈ vs) (SrtO.lt2 fun v u => ltSI (k v) (k u)) := by
  intro p q m1 m2
  obtain ⟨a1, o1, t1, u1, n1, e1, g1, c1, d1⟩ := hp _ m1
  obtain ⟨a2, o2, t2, u2, n2, e2, g2, c2, d2⟩ := hp _ m2
  show wpAny (model prog w) A (keyLt' (tuples' true) p.1 q.1) (fun r s' => s' = s ∧ r = ltSI (k p.1) (k q.1)) (fun _ _ => False) s
  generalize k p.1 = x at d1 ⊢
  generalize k q.1 = y at d2 ⊢
  rw [e1, e2]
  refine PySem.W.kat_lt g1 d1 g2 d2 ?_
  show PySem.W.KatLex prog w A true (decide (2 < 2)) _ [(.str x.1 t1, .str y.1 t2), (.int x.2 u1, .int y.2 u2)] 0 s
  refine PySem.W.kat_cons (wpAny_eqBool_str ?_)
  refine PySem.W.kat_go (fun z => ?_) fun z => ?_
  · have ex : x.1 = y.1 := of_decide_eq_true z
    refine PySem.W.kat_yes (PySem.W.kat_cons (wpAny_eqBool_int ?_))
    refine PySem.W.kat_go (fun z2 => ?_) fun z2 => ?_
    · have ey : x.2 = y.2 := by simpa using z2
      refine PySem.W.kat_yes (PySem.W.kat_nil ⟨rfl, ?_⟩)
      unfold ltSI
      rw [if_pos ex, ey]
      exact (decide_eq_false (Int.lt_irrefl _)).symm
    · refine PySem.W.kat_no (oneLt_any_int ⟨rfl, ?_⟩)
      unfold ltSI
      rw [if_pos ex]
  · have ex : ¬ x.1 = y.1 := of_decide_eq_false z
    refine PySem.W.kat_no (oneLt_any_str ⟨rfl, ?_⟩)
    unfold ltSI
    rw [if_neg ex]
theorem ps_firsts {h : Heap} {k : Value → Str × Int} : ∀ {vs : List Value}, (∀ v ∈ vs, PS h v (k v)) → ∃ fs, TupsOf h (fun i => i == 0) vs fs ∧ fs.length = vs.length
  | [], _ => ⟨[], .nil, rfl⟩
  | v :: vs, hp => by
    obtain ⟨fs, h1, h2⟩ := ps_firsts (vs := vs) fun u m => hp u (List.mem_cons_of_mem _ m)
    obtain ⟨a, o, t, u, n, e, g, c, d⟩ := hp v List.mem_cons_self
    exact ⟨.str (k v).1 t :: fs, .cons ⟨a, o, _, n, e, g, c, d, rfl, ⟨fun z => (by cases z), fun _ => ⟨_, _, rfl⟩⟩⟩ h1, by rw [List.length_cons, List.length_cons, h2]⟩
theorem ps_sortable {a : Addr} {vs : List Value} {k : Value → Str × Int} (h0 : 0 < vs.length) (hp : ∀ v ∈ vs, PS s.heap v (k v)) (ha : ∀ o, s.heap.get? a = some o → o.cls ≠ .type "tuple") : SrtO.SortableO prog w A s a vs fun v u => ltSI (k v) (k u) := by
  intro h' keep
  have hp' : ∀ v ∈ vs, PS h' v (k v) := fun v m => (hp v m).keeps fun b o e c => keep b o (fun z => by subst z; exact ha o e c) e
  obtain ⟨fs, f1, f2⟩ := ps_firsts hp'
  exact ⟨tuples' true, fun Q E hq => tup_kind (s := { s with heap := h' }) (by omega) f1 hq, ps_cmp (s := { s with heap := h' }) hp'⟩
end
/-- the pair at a value, as the heap has it -/
def kH (h : Heap) : Value → Str × Int
  | .ref a => (match h.get? a with
    | some o => (match o.data with
      | .seq xs _ => (match xs.toList with
        | [.str x _, .int i _] => (x, i)
        | _ => (Str.empty, 0))
      | _ => (Str.empty, 0))
    | none => (Str.empty, 0))
  | _ => (Str.empty, 0)
theorem PS.kH {h : Heap} {v : Value} {p : Str × Int} (x : PS h v p) : PX.kH h v = p := by
  obtain ⟨a, o, t, u, n, e, g, c, d⟩ := x
  subst e
  show (match h.get? a with
    | some o => (match o.data with
      | .seq xs _ => (match xs.toList with
        | [.str x _, .int i _] => (x, i)
        | _ => (Str.empty, 0))
      | _ => (Str.empty, 0))
    | none => (Str.empty, 0)) = p
  rw [g]
  dsimp only
  rw [d]
def rSortSI (K : PySem.W.Frag) : List V → Hp → VK → Prop := fun vs H Q => ∃ (a : Addr) (xs : List V) (ps : List (Str × Int)) (P : V → Str × Int → Prop), vs = [V.ref a] ∧ SqL K H a xs ∧ (∀ x p, P x p → ∃ t, x = V.ref t ∧ SqT K H t [.str p.1, .int p.2]) ∧ Paired P xs ps ∧
  ∀ ys qs p, Paired P ys qs → qs.Pairwise (fun x y => ltSI y x = false) → qs.Perm ps → H p = none → Q (.ref p) (upd H p (.lst ys))
theorem paired_at {α β : Type} {P : α → β → Prop} : ∀ {xs : List α} {ps : List β}, Paired P xs ps → ∀ x ∈ xs, ∃ p, P x p
  | _, _, .nil, x, m => by cases m
  | _, _, .cons h t, x, m => by
    rcases List.mem_cons.mp m with e | e
    · rw [e]; exact ⟨_, h⟩
    · exact paired_at t x e
theorem cr_sortSI {X : Cx} : CallR X (.builtin "sorted") (rSortSI X.K) := by
  intro pins s σ H vs us Q I r h
  obtain ⟨a, xs, ps, P, rfl, hs, hP, hx, q⟩ := h
  obtain ⟨its, rv, pl, hz⟩ := I.list hs
  obtain ⟨u, rfl, ru⟩ := vals1 r
  obtain rfl : u = Value.ref a := ru
  obtain ⟨e1, e2⟩ := refs_back rv fun x m => by
    obtain ⟨p, hp⟩ := paired_at hx x m
    obtain ⟨t, e, _⟩ := hP x p hp
    exact ⟨t, e⟩
  have one : ∀ {t : Addr} {p : Str × Int}, SqT X.K H t [.str p.1, .int p.2] → PS s.heap (.ref t) p := fun {t p} ht => by
    obtain ⟨its2, r2, tp, _⟩ := I.tuple ht
    obtain ⟨o, ho, hc, n, hd⟩ := tp
    obtain ⟨u1, u2, rfl, ri, rj⟩ := vals2 r2
    obtain ⟨t1, rfl⟩ := ri
    obtain ⟨t2, rfl⟩ := rj
    exact ⟨t, o, t1, t2, n, rfl, ho, hc, hd⟩
  have all : ∀ {xs : List V} {its : List Value} {ps : List (Str × Int)}, Vals xs its → Paired P xs ps → its.map (PX.kH s.heap) = ps ∧ ∀ v ∈ its, PS s.heap v (PX.kH s.heap v) ∧ P (backV v) (PX.kH s.heap v) := by
    intro xs its ps rv hx
    induction hx generalizing its with
    | nil => cases rv; exact ⟨rfl, fun v m => by cases m⟩
    | @cons x p xs ps h t ih =>
      cases rv with
      | @cons _ u _ us r rr =>
        obtain ⟨i1, i2⟩ := ih rr
        obtain ⟨b, eb, sq⟩ := hP x p h
        subst eb
        obtain rfl : u = Value.ref b := r
        have z := one sq
        have ez := z.kH
        refine ⟨by rw [List.map_cons, ez, i1], fun v m => ?_⟩
        rcases List.mem_cons.mp m with e | e
        · rw [e, ez]; exact ⟨z, h⟩
        · exact i2 v e
  obtain ⟨m1, m2⟩ := all rv hx
  have hz' : its.length ≤ sizeLine := by rw [← rv.length]; exact hz
  refine SrtO.sorted_ord (swo_SI (PX.kH s.heap)) pl.isList hz' (fun h2 h₁ b hb kk => ?_) fun out h1 h2 => ?_
  · refine ps_sortable (s := { s with heap := h₁ }) (by omega) (fun v hm => (m2 v hm).1.keeps fun b o e _ => (kk b o e).2) fun o e c => ?_
    have e' : some o = some (seqObj "list" its.toArray 0) := e.symm.trans hb
    cases e'
    exact absurd (Value.type.inj c) (by decide)
  · have h3 : ∀ u ∈ out, ∃ a, u = Value.ref a := fun u hu => e2 u (h2.perm.mem_iff.mp hu)
    obtain ⟨n, hn⟩ := sortedAll_at s.heap its out.toArray
    have hpair : ∀ {l : List Value}, (∀ u ∈ l, u ∈ its) → Paired P (l.map backV) (l.map (PX.kH s.heap)) := by
      intro l
      induction l with
      | nil => intro _; exact .nil
      | cons u l ih => intro hl; exact .cons (m2 u (hl u List.mem_cons_self)).2 (ih fun v m => hl v (List.mem_cons_of_mem _ m))
    refine ⟨.ref _, upd H (s.heap.objs.size + 1) (.lst (out.map backV)), I.laid (t' := s.toks) (fun _ _ => sortedAll_old) (Nat.le_succ _) ⟨?_, out, n, vals_back h3, hn⟩, rfl,
      q _ _ _ (hpair fun u hu => h2.perm.mem_iff.mp hu) (List.pairwise_map.mpr h1) (by rw [← m1]; exact h2.perm.map _) (I.hok.fresh (Nat.le_succ _))⟩
    rw [List.length_map, h2.perm.length_eq]
    exact hz'
/-! the reading -/
def mkSI (p : Str × Int) : T := .tup [.str p.1, .int p.2]
def leSI (p q : Str × Int) : Bool := !ltSI q p
def srtP (ps : List (Str × Int)) : List (Str × Int) := ps.mergeSort leSI
theorem srtP_is {ps qs : List (Str × Int)} (h1 : qs.Pairwise (fun x y => ltSI y x = false)) (h2 : qs.Perm ps) : qs = srtP ps := by
  have tot : ∀ a b, (leSI a b || leSI b a) = true := fun a b => by
    unfold leSI
    cases h : ltSI b a with
    | false => rfl
    | true =>
      have z : ltSI a b = false := (swo_SI (α := Str × Int) id).asym b a h
      rw [z]
      rfl
  have tr : ∀ a b c, leSI a b = true → leSI b c = true → leSI a c = true := fun a b c x y => by
    unfold leSI at x y ⊢
    rw [Bool.not_eq_true'] at x y ⊢
    exact (swo_SI (α := Str × Int) id).tr a b c x y
  have h3 : (srtP ps).Pairwise fun a b => leSI a b = true := List.pairwise_mergeSort tr tot ps
  refine List.Perm.eq_of_pairwise (le := fun a b => leSI a b = true) (fun a b _ _ x y => ?_) (h1.imp fun h => by unfold leSI; rw [h]; rfl) h3 (h2.trans (List.mergeSort_perm ps leSI).symm)
  unfold leSI at x y
  rw [Bool.not_eq_true'] at x y
  have x' := ltSI_no.mp x
  have y' := ltSI_no.mp y
  rw [not_or] at x' y'
  have e : a.1 = b.1 := str_tri y'.1 x'.1
  have e2 : a.2 = b.2 := by
    have z1 : ¬ b.2 < a.2 := fun h => x'.2 ⟨e.symm, h⟩
    have z2 : ¬ a.2 < b.2 := fun h => y'.2 ⟨e, h⟩
    omega
  exact Prod.ext e e2
def prSI : List T → Option (List (Str × Int))
  | [] => some []
  | .tup [.str x, .int i] :: r => (prSI r).map ((x, i) :: ·)
  | _ :: _ => none
section
variable {K : PySem.W.Frag} {G : Hp}
theorem prSI_is : ∀ {ts : List T} {vs : List V} {ps : List (Str × Int)}, IsTs K G vs ts → prSI ts = some ps → Paired (fun x p => PX.IsT K G x (mkSI p)) vs ps
  | [], _, _, r, e => by cases r; cases e; exact .nil
  | t :: ts, _, ps, r, e => by
    cases r with
    | cons q r =>
      unfold prSI at e
      split at e
      · rename_i h; cases h
      · rename_i x i r' h
        cases h
        cases z : prSI ts with
        | none => rw [z] at e; cases e
        | some qs =>
          rw [z] at e
          cases e
          exact .cons q (prSI_is r z)
      · cases e
theorem prSI_back : ∀ {vs : List V} {ps : List (Str × Int)}, Paired (fun x p => PX.IsT K G x (mkSI p)) vs ps → IsTs K G vs (ps.map mkSI)
  | _, _, .nil => .nil
  | _, _, .cons h t => .cons h (prSI_back t)
def oSortP : List T → Option T := fun xs => match xs with
  | [.lst ts] => (match prSI ts with
    | some ps => some (.lst ((srtP ps).map mkSI))
    | none => none)
  | _ => none
theorem c_sortSI : CallN K (rSortSI K) oSortP := by
  intro F σ H G ρ vs xs t Q R r e k
  unfold oSortP at e
  split at e
  · split at e
    · rename_i ps e1
      cases e
      cases r with
      | cons q r =>
        cases r
        cases q with
        | lst z r1 =>
          refine ⟨_, _, ps, fun x p => PX.IsT K G x (mkSI p), rfl, .inl (.inl (R.sub _ _ z)), fun x p h => ?_, prSI_is r1 e1, fun ys qs p hpr ho pm hp => ?_⟩
          · unfold mkSI at h
            cases h with
            | tup z2 r2 =>
              cases r2 with
              | cons a1 r2 =>
                cases r2 with
                | cons a2 r2 =>
                  cases r2
                  cases a1
                  cases a2
                  exact ⟨_, rfl, R.sub.sqT z2⟩
          · rw [srtP_is ho pm] at hpr
            exact k p _ G (R.allocH _ hp) hp (R.sub.none_ hp) ⟨_, upd_same, prSI_back hpr⟩
    · cases e
  · cases e
/-- sorted(..): texts, ints, pairs (text, int) -/
def oSortA : List T → Option T := fun xs => match xs with
  | [.lst (.tup _ :: _)] => oSortP xs
  | _ => oSort xs
def rSortA (K : PySem.W.Frag) : List V → Hp → VK → Prop := fun vs H Q => rSortG K vs H Q ∨ rSortSI K vs H Q
theorem c_sortA : CallN K (rSortA K) oSortA := by
  intro F σ H G ρ vs xs t Q R r e k
  unfold oSortA at e
  split at e
  · exact .inr (c_sortSI R r e k)
  · exact .inl (c_sortG R r e k)
theorem call_sortA {X : Cx} : CallR X (.builtin "sorted") (rSortA X.K) := by
  intro pins s σ H xs us Q I r h
  rcases h with h | h
  · exact call_sortG pins s σ H xs us Q I r h
  · exact cr_sortSI pins s σ H xs us Q I r h
end
end PX
/-! PX20 -/
set_option autoImplicit false
set_option maxRecDepth 100000
set_option linter.all false
set_option maxHeartbeats 4000000
namespace PX
open PySem PySem.Spec PyProof.Rows L2

/-! ### set(a list of ints) -/
abbrev emptySet (w : World) : Obj := { cls := .type "set", dict := none, data := .set #[] 0 (.fresh 0 0 (!w.params.followText "set-order")) }
abbrev born (w : World) (s : Shared) : Shared := { s with heap := s.heap.push (emptySet w) }
/-- what set.__init__ leaves at the new set -/
def Filled (w : World) (s : Shared) (ns : List Int) (s2 : Shared) : Prop := ∃ (h2 : Heap) (tk c : Nat), s2 = { s with heap := h2, toks := tk } ∧ SetR w h2 s.heap.objs.size (fun j => decide (j ∈ ns)) c ∧ c ≤ ns.length ∧ ∀ b o, s.heap.get? b = some o → h2.get? b = some o
section
variable {P : Program} {w : World} {A : Around} {E : Value → Shared → Prop} {s : Shared}
/-- set.__init__(the new set, l) -/
theorem fill_ints {B : Around} {l : Addr} {items : Array Value} {ns : List Int} (hB : B.handled = none) (hl : s.heap.IsList l items) (hi : IntsAre items.toList ns) (hb : ns.length + 1 < scanBound) :
    wpAny (model P w) B (Builtin.«set.__init__» ⟨[.ref s.heap.objs.size, .ref l], []⟩) (fun r s2 => r = .done (.ret .none) ∧ Filled w s ns s2) E (born w s) := by
  have size : items.size = ns.length := by
    rw [← IntsAre.length hi, Array.length_toList]
  obtain ⟨⟨kind, own, part, slots⟩, at_, isK, cnt, isD⟩ := hl
  simp only at isK isD
  subst isK isD
  have below : l < s.heap.objs.size := Heap.lt_size at_
  have at2 : (born w s).heap.get? l = some { cls := .type "list", dict := own, data := .seq items cnt, slots := slots } := Heap.get?_push_of_some _ at_
  have isL : (born w s).heap.IsList l items := ⟨_, at2, rfl, cnt, rfl⟩
  have q1 := F.sub_list_set
  have q2 := F.sub_list_frozenset
  have q3 : (Value.type "list" == Value.type "dict") = false := by decide
  have q4 : (born w s).heap.get? s.heap.objs.size = some (emptySet w) := Heap.get?_push_size _ rfl
  have next : (born w s).heap.objs.size = s.heap.objs.size + 1 := Heap.size_push ..
  unfold Builtin.«set.__init__» noKeywords Builtin.Frozenset.updateFrom
  generalize hPI : pyIter = PI
  wp_walk
  subst hPI
  refine wpAny_pyIter_list isL (wpAny_bind (wpAny_runValue ?_))
  have apart : l ≠ (born w s).heap.objs.size := by
    rw [next]
    exact Nat.ne_of_lt (Nat.lt_succ_of_lt below)
  have out : s.heap.objs.size ∉ [(born w s).heap.objs.size, l] := by
    rw [next]
    simp only [List.mem_cons, List.not_mem_nil, or_false, not_or]
    exact ⟨Nat.ne_of_lt (Nat.lt_succ_self _), Nat.ne_of_gt below⟩
  have each : ∀ (i : Nat) (v : Value), items[i]? = some v → ∃ k t, ns[i]? = some k ∧ v = .int k t := fun i v hv => by
    have hlt : i < ns.length := by
      rw [← size]
      exact (Array.getElem?_eq_some_iff.mp hv).1
    obtain ⟨t, e⟩ := IntsAre.int_at hi i v (by rw [Array.getElem?_toList]; exact hv)
    rw [List.getD_eq_getElem?_getD, List.getElem?_eq_getElem hlt] at e
    exact ⟨ns[i], t, List.getElem?_eq_getElem hlt, e⟩
  have calm1 : B.in1.handled = none := by simp [hB]
  have start : ((born w s).heap.push { cls := .type "list_iterator", data := .fields #[.ref l, .int 0 0] }).get? s.heap.objs.size = some (emptySet w) := Heap.get?_push_of_some _ q4
  refine set_update_ints ((Walks.list calm1 _ l apart items).toS) s.heap.objs.size out ns size hb each (items.size - 0) 0 _ (by omega) (Nat.zero_le _) ⟨⟨_, Heap.get?_push_size _ rfl, rfl, rfl⟩, isL.push _⟩ ⟨0, Nat.le_refl 0, setR_new_at start⟩ fun s2 c moved few filled => ?_
  obtain ⟨h2, g2, d2, k2, o2⟩ := s2
  obtain rfl : g2 = s.gens := moved.gens
  obtain rfl : d2 = s.drawn := moved.drawn
  obtain rfl : o2 = s.os := moved.os
  refine wpAny_pure (wpAny_pure ⟨rfl, h2, k2, c, rfl, filled, by rw [← size]; exact few, fun b o e => ?_⟩)
  have hb0 : b < s.heap.objs.size := Heap.lt_size e
  refine moved.heap b o ?_ (Heap.get?_push_of_some _ (Heap.get?_push_of_some _ e))
  simp only [List.mem_cons, List.not_mem_nil, or_false, not_or]
  rw [Heap.size_push]
  exact ⟨Nat.ne_of_lt hb0, Nat.ne_of_lt (Nat.lt_succ_of_lt hb0)⟩
/-- set(l) -/
theorem call_set_ints {l : Addr} {items : Array Value} {ns : List Int} {Q : Value → Shared → Prop} (hh : A.handled = none) (hl : s.heap.IsList l items) (hi : IntsAre items.toList ns) (hb : ns.length + 1 < scanBound)
    (k : ∀ s2, Filled w s ns s2 → Q (.ref s.heap.objs.size) s2) : wpAny (model P w) A (call (.type "set") [.ref l]) Q E s := by
  obtain ⟨_, _, hmro⟩ := F.called_set.mro
  have c1 := F.called_set.made
  have c2 := F.called_set.sub
  refine wpAny_call (codeAny_of_tree ?_)
  show wpAny (model P w) _ (callAny (.type "set") ⟨[.ref l], []⟩) _ _ _
  refine wpAny_pure ⟨Code.quiet_builtin _ (by decide +kernel), codeAny_builtin F.entry_type_call ?_⟩
  rw [Around.under_plain (weight_type_call_type "set" [.ref l] []) rfl]
  have c3 := F.called_set.notType
  have c4 := F.called_set.canCreate
  have c5 := F.typeCall_set_1 (.ref l)
  repeat (any_goals (first | assumption | wp_step))
  refine codeAny_mono (code_set_led1 (.ref l) (E := E) (Q₁ := fun v t => v = .ref s.heap.objs.size ∧ t = born w s) ⟨rfl, rfl⟩) fun r t hr => ?_
  cases r with
  | error e => exact hr
  | ok fl =>
    cases fl with
    | ret v =>
      obtain ⟨rfl, rfl⟩ := hr
      have at_ : (born w s).heap.get? s.heap.objs.size = some (emptySet w) := Heap.get?_push_size _ rfl
      have ty : Shared.TypeIs (born w s) (.ref s.heap.objs.size) "set" := ⟨_, at_, rfl⟩
      have c6 := F.called_set.init.lookup
      have c7 := F.called_set.init.bind (.ref s.heap.objs.size)
      repeat (any_goals (first | assumption | wp_step))
      refine codeAny_mono (codeAny_call_builtin (R := wants (fun r s2 => r = .none ∧ Filled w s ns s2) E) F.called_set.init.plain F.entry_set_init (check_set_init_1 ty ?_)) fun r2 s2 hr2 => ?_
      · refine wpAny_mono (fill_ints (by simp [hh]) hl hi hb) (fun f t z => ?_) fun _ _ z => z
        obtain ⟨rfl, z⟩ := z
        exact ⟨rfl, z⟩
      · cases r2 with
        | error e => exact hr2
        | ok fl2 =>
          cases fl2 with
          | ret r =>
            obtain ⟨rfl, z⟩ := hr2
            repeat (any_goals (first | assumption | wp_step))
            exact k _ z
          | _ => exact hr2.elim
    | _ => exact hr.elim
end
def rSetL (K : PySem.W.Frag) (w : World) : List V → Hp → VK → Prop := fun xs H Q => ∃ (a : Addr) (ns : List Int), xs = [V.ref a] ∧ SqL K H a (ns.map V.int) ∧ ns.length < 62 ∧ ∀ p c, H p = none → c ≤ ns.length → Q (.ref p) (upd H p (SetO w p (fun j => decide (j ∈ ns)) c))
theorem cr_setL {X : Cx} (hc : X.calm = true) : CallR X (.type "set") (rSetL X.K X.w) := by
  intro pins s σ H xs us Q I r h
  obtain ⟨a, ns, rfl, hs, hn, q⟩ := h
  obtain ⟨its, rv, pl, hz⟩ := I.list hs
  obtain ⟨u, rfl, ru⟩ := vals1 r
  obtain rfl : u = Value.ref a := ru
  refine call_set_ints (ns := ns) (I.ok.hd hc) pl.isList rv.ints (by unfold scanBound; omega) fun s2 z => ?_
  obtain ⟨h2, tk, c, rfl, full, few, old⟩ := z
  exact ⟨.ref _, _, I.laid (t' := tk) (o := SetO X.w s.heap.objs.size (fun j => decide (j ∈ ns)) c) old (Nat.le_refl _) (setO_new full), rfl, q _ c (I.hok.fresh (Nat.le_refl _)) few⟩
/-! sorted(set(ints)) -/
def ddp : List Int → List Int
  | [] => []
  | x :: r => if x ∈ r then ddp r else x :: ddp r
theorem mem_ddp {k : Int} : ∀ {l : List Int}, k ∈ ddp l ↔ k ∈ l
  | [] => Iff.rfl
  | x :: r => by
    unfold ddp
    by_cases h : x ∈ r
    · rw [if_pos h, mem_ddp, List.mem_cons]
      exact ⟨.inr, fun z => z.elim (fun e => e ▸ h) id⟩
    · rw [if_neg h, List.mem_cons, List.mem_cons, mem_ddp]
theorem nodup_ddp : ∀ l : List Int, (ddp l).Nodup
  | [] => .nil
  | x :: r => by
    unfold ddp
    by_cases h : x ∈ r
    · rw [if_pos h]; exact nodup_ddp r
    · rw [if_neg h]
      exact List.nodup_cons.mpr ⟨fun z => h (mem_ddp.mp z), nodup_ddp r⟩
/-- the values, each once, upwards -/
def sset (ns : List Int) : List Int := srtI (ddp ns)
theorem sset_mem {ns : List Int} {k : Int} : k ∈ sset ns ↔ k ∈ ns := by
  unfold sset srtI
  rw [(List.mergeSort_perm _ _).mem_iff, mem_ddp]
theorem sset_up (ns : List Int) : (sset ns).Pairwise (· < ·) := by
  have h1 : (sset ns).Pairwise fun a b => decide (a ≤ b) = true := List.pairwise_mergeSort (fun a b c h1 h2 => by simp at h1 h2 ⊢; omega) (fun a b => by simp; omega) (ddp ns)
  have h2 : (sset ns).Nodup := (List.mergeSort_perm (ddp ns) _).nodup_iff.mpr (nodup_ddp ns)
  refine (h1.and h2).imp fun {a b} h => ?_
  have := of_decide_eq_true h.1
  have := h.2
  omega
theorem up_uniq : ∀ {l m : List Int}, l.Pairwise (· < ·) → m.Pairwise (· < ·) → (∀ k, k ∈ l ↔ k ∈ m) → l = m
  | [], [], _, _, _ => rfl
  | [], y :: m, _, _, h => by have := (h y).mpr List.mem_cons_self; cases this
  | x :: l, [], _, _, h => by have := (h x).mp List.mem_cons_self; cases this
  | x :: l, y :: m, hl, hm, h => by
    have hl' := List.pairwise_cons.mp hl
    have hm' := List.pairwise_cons.mp hm
    have e : x = y := by
      have h1 := (h x).mp List.mem_cons_self
      have h2 := (h y).mpr List.mem_cons_self
      rcases List.mem_cons.mp h1 with a | a
      · exact a
      · rcases List.mem_cons.mp h2 with b | b
        · exact b.symm
        · have := hm'.1 x a
          have := hl'.1 y b
          omega
    subst e
    refine congrArg (x :: ·) (up_uniq hl'.2 hm'.2 fun k => ⟨fun hk => ?_, fun hk => ?_⟩)
    · rcases List.mem_cons.mp ((h k).mp (List.mem_cons_of_mem _ hk)) with a | a
      · have := hl'.1 k hk; omega
      · exact a
    · rcases List.mem_cons.mp ((h k).mpr (List.mem_cons_of_mem _ hk)) with a | a
      · have := hm'.1 k hk; omega
      · exact a
def oSortSet : List T → Option T := fun xs => match xs with
  | [.lst ts] => (match intsL ts with
    | some ns => if ns.length < 62 then some (.lst ((sset ns).map T.int)) else none
    | none => none)
  | _ => none
section
variable {X : Cx} {F : PX.Fr} {e : Expr} {es : List Expr} {fs : Rho → Option (List T × Rho)} {p p2 pos pos2 : Pos}
theorem pxn_sortSet (hc : X.calm = true) (h1 : X.mg "sorted" = none) (h2 : X.mg "set" = none) (ha : PXA X F (e :: es) fs) (g1 : Gl X "sorted" := by rfl) (g2 : Gl X "set" := by rfl) (b1 : bootBuiltins "sorted" = some (.builtin "sorted") := by rfl) (b2 : bootBuiltins "set" = some (.type "set") := by rfl)
    (he : starEach (e :: es) X.env = (false, eval e X.env) :: starEach es X.env := by rfl) (hpl : (backTo pos2 (starEach es X.env)).any (·.1) = false := by rfl)
    (he2 : starEach [.Call (.Name "set" p2) (e :: es) [] pos2] X.env = (false, eval (.Call (.Name "set" p2) (e :: es) [] pos2) X.env) :: starEach [] X.env := by rfl) (hpl2 : (backTo pos (starEach [] X.env)).any (·.1) = false := by rfl) :
    PXN X F (.Call (.Name "sorted" p) [.Call (.Name "set" p2) (e :: es) [] pos2] [] pos) (sA fs oSortSet) :=
  (pe_callB (cr_sortedSet hc) g1 h1 b1 (pa_cons (pe_callTy (cr_setL hc) g2 h2 b2 ha (by decide) (by decide) he hpl) pa_nil he2) (by decide) (by decide) he2 hpl2).weak fun σ H Q h => by
    obtain ⟨G, ρ, t, ρ', R, e, k⟩ := h
    unfold sA at e
    split at e
    · rename_i xs ρ1 e1
      split at e
      · rename_i t' e2
        cases e
        refine tXA_bind R e1 fun vs H1 G1 p1 r1 => ?_
        unfold oSortSet at e2
        split at e2
        · split at e2
          · rename_i ns e3
            split at e2
            · rename_i hl
              cases e2
              cases r1 with
              | cons q r1 =>
                cases r1
                cases q with
                | lst z r2 =>
                  have hv := intsL_is r2 e3
                  subst hv
                  refine ⟨_, ns, rfl, .inl (.inl (p1.rep.sub _ _ z)), hl, fun S c hS hc' => ?_⟩
                  refine ⟨S, _, c, rfl, upd_same, by omega, fun ms q up mem hlen hq => ?_⟩
                  have em : ms = sset ns := up_uniq up (sset_up ns) fun k => by rw [mem k, sset_mem]; simp
                  rw [em]
                  have st1 := p1.rep.allocH (SetO X.w S (fun j => decide (j ∈ ns)) c) hS
                  have st2 := st1.rep.allocH (.lst ((sset ns).map V.int)) hq
                  exact k q _ G1 ((p1.trans st1).trans st2) ((p1.trans st1).ext.free hq) (st1.rep.sub.none_ hq) ⟨_, upd_same, IsTs.of_ints _⟩
            · cases e2
          · cases e2
        · cases e2
      · cases e
    · cases e
end
end PX
/-! SortK -/
set_option autoImplicit false
set_option maxRecDepth 100000
set_option linter.all false
set_option maxHeartbeats 4000000
namespace PX
open PySem L2 PySem.W PySem.Calls PyProof.Rows
/-! sorted(list, key = a def of one's own), the keys ints that rise already: a new list like it -/
def keyI (d : List T → Option T) (t : T) : Option Int := match d [t] with
  | some (.int n) => some n
  | _ => none
def keysI (d : List T → Option T) : List T → Option (List Int)
  | [] => some []
  | t :: ts => match keyI d t with
    | some n => (match keysI d ts with
      | some ns => some (n :: ns)
      | none => none)
    | none => none
def oSortK (d : List T → Option T) : T → Option T := fun x => match x with
  | .lst ts => (match keysI d ts with
    | some ns => if ns.length ≤ 1000 ∧ ns.Pairwise (· ≤ ·) then some (.lst ts) else none
    | none => none)
  | _ => none
theorem keysI_len {d : List T → Option T} : ∀ {ts : List T} {ns : List Int}, keysI d ts = some ns → ns.length = ts.length
  | [], ns, e => by cases e; rfl
  | t :: ts, ns, e => by
    unfold keysI at e
    split at e
    · split at e
      · rename_i n e1 ns' e2
        cases e
        rw [List.length_cons, List.length_cons, keysI_len e2]
      · cases e
    · cases e
theorem keysI_get {d : List T → Option T} : ∀ {ts : List T} {ns : List Int} {i : Nat} {t : T} {n : Int}, keysI d ts = some ns → ts[i]? = some t → ns[i]? = some n → d [t] = some (.int n)
  | [], ns, i, t, n, e, h, _ => by cases h
  | u :: ts, ns, i, t, n, e, h, h2 => by
    unfold keysI at e
    cases e1 : keyI d u with
    | none => rw [e1] at e; cases e
    | some m =>
      rw [e1] at e
      dsimp only at e
      cases e2 : keysI d ts with
      | none => rw [e2] at e; cases e
      | some ns' =>
        rw [e2] at e
        cases e
        cases i with
        | zero =>
          cases h
          cases h2
          unfold keyI at e1
          split at e1
          · cases e1; assumption
          · cases e1
        | succ i => exact keysI_get e2 h h2
section
variable {X : Cx} {pins : List (Addr × Obj)} {σ : L2.St} {H : Hp} {s : Shared}
theorem inv_sep (I : Inv X pins σ H s) {b : Addr} (hb : s.heap.objs.size ≤ b) : (b ∈ X.ex ∨ X.s_0.heap.objs.size ≤ b) ∧ b ≠ X.env.locals ∧ (∀ x c, X.env.cells.lookup x = some c → c ≠ b) ∧ ∀ p ∈ X.pn ++ pins, p.1 ≠ b := by
  refine ⟨.inr (Nat.le_trans I.sz hb), ?_, fun x c e => ?_, fun p hp => ?_⟩
  · obtain ⟨m, ⟨o, _, _, ho, _⟩, _⟩ := I.loc
    exact Nat.ne_of_gt (Nat.lt_of_lt_of_le (Heap.lt_size ho) hb)
  · obtain ⟨v, o, ho, _⟩ := I.cell x c e
    exact Nat.ne_of_lt (Nat.lt_of_lt_of_le (Heap.lt_size ho) hb)
  · exact Nat.ne_of_lt (Nat.lt_of_lt_of_le (Heap.lt_size (I.pin p hp).1) hb)
end
section
variable {X : Cx} {k : Nat} {f : Addr} {fd : FuncData} {ps : List Str} {d : List T → Option T}
def rSK (K : PySem.W.Frag) (f : Addr) (d : List T → Option T) : List V → List V → Hp → VK → Prop := fun vs zs H Q => ∃ (l : Addr) (ys : List V) (G : Hp) (ts : List T) (ns : List Int), vs = [.ref l] ∧ zs = [.ref f] ∧ SqL K H l ys ∧ Le G H ∧ IsTs K G ys ts ∧ keysI d ts = some ns ∧ ns.Pairwise (· ≤ ·) ∧ ns.length ≤ 1000 ∧
  ∀ p H' G', Ext (fun _ => False) H G H' G' → Le G' H' → H p = none → H' p = none → Q (.ref p) (upd H' p (.lst ys))
/-- the key of one item -/
theorem key_call {pins : List (Addr × Obj)} {σ : L2.St} {H G : Hp} {s : Shared} {A : Around} (Fn : FnOk X.prog X.w X.K X.mg X.base CX0 k f fd ps (spP X.K d)) (hr : Room k A) (hA : A.frames = X.A.frames) (b : Binds X.K fd ps []) (I : Inv X pins σ H s) {v : V} {u : Value} {t : T} {n : Int} (hv : RelV v u) (hG : Le G H) (ht : IsT X.K G v t) (hd : d [t] = some (.int n)) :
    wpAny (model X.prog X.w) A (call (.ref f) [u]) (fun r s' => ∃ tk H' G', r = .int n tk ∧ Inv X pins σ H' s' ∧ Ext (fun _ => False) H G H' G' ∧ Le G' H') (fun _ _ => False) s := by
  have I0 := I.env0
  have E1 : Env0 X.prog X.w X.K X.mg X.base A X.stack s H := ⟨by rw [hA]; exact I0.frames, I0.mod, I0.bs, I0.bsz, I0.funs, I0.frf, I0.hok, I0.bare⟩
  have sp : spP X.K d [v] H (fun w H' => w = V.int n ∧ ∃ G', Ext (fun _ => False) H G H' G' ∧ Le G' H') E0 :=
    ⟨G, [t], _, hG, .cons ht .nil, hd, fun w H' G' E hs q => by cases q; exact ⟨rfl, G', E, hs⟩⟩
  have hl := Fn.len _ _ _ _ sp
  refine wpAny_call (codeAny_mono (Fn.run A X.stack s H ⟨[u], []⟩ [u] [v] _ E0 hr E1 (by have := b s [u] I.kIn (by simpa using hl); simpa using this) (.cons hv .nil) sp) fun r s' hq => ?_)
  cases r with
  | error e => exact hq.elim
  | ok fl =>
    cases fl with
    | ret u =>
      obtain ⟨w, H', I', r, rfl, G', E, hs⟩ := I.after hq
      obtain ⟨tk, rfl⟩ : ∃ tk, u = .int n tk := r
      exact ⟨tk, H', G', rfl, I', E, hs⟩
    | next => exact False.elim hq
    | brk => exact False.elim hq
    | cont => exact False.elim hq
end

theorem each_vals {ys : List V} {ns : List Int} {us : List Value} (r : Vals ys us) (hl : ns.length = ys.length) : EachIs (fun (u : Value) (b : V × Int) => RelV b.1 u) us (ys.zip ns) := by
  induction r generalizing ns with
  | nil => cases ns with
    | nil => exact .nil
    | cons _ _ => cases hl
  | cons h t ih => cases ns with
    | nil => cases hl
    | cons n ns => exact .cons h (ih (by simpa using hl))
theorem vals_each {ys : List V} {ns : List Int} {us : List Value} (hl : ns.length = ys.length) (r : EachIs (fun (u : Value) (b : V × Int) => RelV b.1 u) us (ys.zip ns)) : Vals ys us := by
  induction ys generalizing ns us with
  | nil => cases r; exact .nil
  | cons y ys ih => cases ns with
    | nil => cases hl
    | cons n ns => cases r with
      | cons h t => exact .cons h (ih (by simpa using hl) t)
theorem each_intsAre {h : Heap} : ∀ {us : List Value} {ns : List Int}, IntsAre us ns → EachIs (fun v k => ∃ as, Reads h v k as) us (ns.map PyData.int)
  | _, _, .nil => .nil
  | _, _, .cons _ _ r => .cons ⟨[], .int _ _⟩ (each_intsAre r)

section
variable {X : Cx} {k : Nat} {f : Addr} {fd : FuncData} {ps : List Str} {d : List T → Option T}
/-- an address of one's own, apart from the frame's -/
def Sep (X : Cx) (pins : List (Addr × Obj)) (b : Addr) : Prop := ((b ∈ X.ex ∨ X.s_0.heap.objs.size ≤ b) ∧ b ≠ X.env.locals ∧ (∀ x c, X.env.cells.lookup x = some c → c ≠ b) ∧ ∀ p ∈ X.pn ++ pins, p.1 ≠ b) ∧ b ∉ X.fs
theorem sep_of {pins : List (Addr × Obj)} {σ : L2.St} {H : Hp} {s : Shared} (I : Inv X pins σ H s) {b : Addr} (hb : s.heap.objs.size ≤ b) : Sep X pins b := ⟨inv_sep I hb, I.nofs hb⟩
theorem sort_ident {ys : List V} {ns : List Int} (hup : ns.Pairwise (· ≤ ·)) : (ys.zip ns).mergeSort (dataLe false fun b => PyData.int b.2) = ys.zip ns := by
  rw [dataLe_int]
  refine List.mergeSort_of_pairwise ?_
  induction ys generalizing ns with
  | nil => exact .nil
  | cons y ys ih => cases ns with
    | nil => exact .nil
    | cons n ns =>
      rw [List.zip_cons_cons]
      have h := List.pairwise_cons.mp hup
      refine List.Pairwise.cons (fun p hp => ?_) (ih h.2)
      exact decide_eq_true (h.1 p.2 (List.of_mem_zip hp).2)
theorem keyU_rest {pins : List (Addr × Obj)} {σ : L2.St} {H G : Hp} {s1 : Shared} {A : Around} {D kS : Addr} {e1 : Nat} {its : List Value} {ys : List V} {ts : List T} {ns : List Int} {P : PySem.Fin → Shared → Prop} {E : Value → Shared → Prop}
    (Fn : FnOk X.prog X.w X.K X.mg X.base CX0 k f fd ps (spP X.K d)) (hr : Room k A) (hA : A.frames = X.A.frames) (b : Binds X.K fd ps []) (I : Inv X pins σ H s1) (sD : Sep X pins D) (sK : Sep X pins kS) (hDn : H D = none) (hKn : H kS = none) (hka : kS ≠ D)
    (nk : s1.heap.get? kS = some (seqObj "list" #[] 0)) (na : s1.heap.get? D = some (seqObj "list" #[] e1)) (hG : Le G H) (hT : IsTs X.K G ys ts) (hk : keysI d ts = some ns) (hup : ns.Pairwise (· ≤ ·)) (hn : ns.length ≤ 1000) (rv : Vals ys its) (hu : A.units < cLine)
    (h : ∀ H' G' s2, Ext (fun _ => False) H G H' G' → Le G' H' → H' D = none → Inv X pins σ (upd H' D (.lst ys)) s2 → P (.done (.ret .none)) s2) :
    wpAny (model X.prog X.w) A (ksk_rest D (.ref f) false its.toArray e1 (.ref kS)) P E s1 := by
  have hlen : ns.length = ys.length := by rw [keysI_len hk, hT.length]
  have hlv := rv.length
  have hZ : its.length ≤ sizeLine := by rw [← hlv, ← hlen]; exact Nat.le_trans hn (by decide)
  unfold ksk_rest
  refine wpAny_bind (wpAny_rule ?_)
  first
    | rw [List.forIn_toArray]
    | (rw [← Array.forIn_toList]; simp only [List.toList_toArray])
    | rw [← Array.forIn_toList]
  refine wpAny_bind (ksk_fold (fun i s' => ∃ H' G' kA e, Inv X pins σ H' s' ∧ Ext (fun _ => False) H G H' G' ∧ Le G' H' ∧ H' D = none ∧ H' kS = none ∧ s'.heap.get? kS = some (seqObj "list" kA e) ∧ s'.heap.get? D = some (seqObj "list" #[] e1) ∧ IntsAre kA.toList (ns.take i)) its 0 s1
    ⟨H, G, #[], 0, I, Ext.refl _ _ _, hG, hDn, hKn, nk, na, by rw [List.take_zero]; exact IntsAre.nil⟩ ?step ?done)
  case step =>
    rintro j x s' hx ⟨H', G', kA, e, I', E', hG', hD', hK', nk', na', hki⟩
    simp only [Nat.zero_add] at hki ⊢
    have hj : j < its.length := (List.getElem?_eq_some_iff.mp hx).1
    obtain ⟨n, hnj⟩ : ∃ n, ns[j]? = some n := ⟨_, List.getElem?_eq_getElem (by omega)⟩
    obtain ⟨t, htj⟩ : ∃ t, ts[j]? = some t := ⟨_, List.getElem?_eq_getElem (by rw [← hT.length]; omega)⟩
    obtain ⟨v, hv, ht⟩ := hT.get htj
    obtain ⟨u, hu', ru⟩ := rv.get hv
    rw [hx] at hu'
    cases hu'
    have I2 := I'.pins_of (pins' := pins ++ [(kS, seqObj "list" kA e), (D, seqObj "list" #[] e1)]) (fun p hp => by
      rcases List.mem_append.mp hp with hp | hp
      · exact I'.pin p (List.mem_append_right _ hp)
      · rcases List.mem_cons.mp hp with rfl | hp
        · exact ⟨nk', hK', sK.1.2.1, sK.2, fun v h => by cases h⟩
        · rw [List.mem_singleton.mp hp]
          exact ⟨na', hD', sD.1.2.1, sD.2, fun v h => by cases h⟩)
    refine wpAny_bind (wpAny_attempt (wpAny_mono (key_call (t := t) (n := n) Fn hr hA b I2 ru hG' (ht.mono E'.g) (keysI_get hk htj hnj)) (fun r s'' he => ?_) fun _ _ hF => hF.elim))
    obtain ⟨tk, H2, G2, rfl, I3, E2, hG2⟩ := he
    dsimp only
    have p1 := I3.pin (kS, seqObj "list" kA e) (List.mem_append_right _ (List.mem_append_right _ (.head _)))
    have p2 := I3.pin (D, seqObj "list" #[] e1) (List.mem_append_right _ (List.mem_append_right _ (.tail _ (.head _))))
    have hz : kA.size ≤ its.length := by
      have h1 := hki.length
      rw [Array.length_toList, List.length_take] at h1
      omega
    have s1' := Heap.SameBut.update s''.heap kS (Obj.mapSeq (·.push (Value.int n tk)))
    obtain ⟨c2, hc2⟩ : ∃ c2, (s''.heap.update kS (Obj.mapSeq (·.push (Value.int n tk)))).get? kS = some (seqObj "list" (kA.push (.int n tk)) c2) := ⟨_, get?_update_seq p1.1 (·.push (Value.int n tk))⟩
    have I4 : Inv X pins σ H2 s'' := I3.pins_of fun p hp => I3.pin p (List.mem_append_right _ (List.mem_append_left _ hp))
    refine wpAny_bind (listUpdate_at p1.1 rfl ?_ (Nat.le_trans hz hZ) (Nat.le_trans (Nat.le_of_eq (Array.size_push ..)) (Nat.succ_le_succ (Nat.le_trans hz hZ))))
    have ek : ns.take (j + 1) = ns.take j ++ [n] := by rw [List.take_add_one, hnj]; simp
    have ea : (kA.push (Value.int n tk)).toList = kA.toList ++ [Value.int n tk] := by simp
    refine wpAny_pure ⟨rfl, H2, G2, _, c2, ?_, E'.trans E2 (fun _ h => h), hG2, p2.2.1, p1.2.1, hc2, (s1'.2 D hka.symm).trans p2.1, ?_⟩
    · have := I4.turned (h' := s''.heap.update kS (Obj.mapSeq (·.push (Value.int n tk)))) (t' := s''.toks) (it := kS) (fun b o hb e => (s1'.2 b hb).trans e) p1.2.1 sK.1.2.1 sK.1.1 sK.1.2.2.1 sK.1.2.2.2
      exact this
    · rw [ea, ek]
      exact ksk_snoc hki
  case done =>
    rintro s' ⟨H', G', kA, e, I', E', hG', hD', hK', nk', na', hki⟩
    have hki' : IntsAre kA.toList ns := by
      have e3 : ns.take (0 + its.length) = ns := List.take_of_length_le (by omega)
      rw [e3] at hki
      exact hki
    have hk' := each_intsAre (h := s'.heap) hki'
    have hsz : kA.size = its.length := by
      have h1 := hki'.length
      rw [Array.length_toList] at h1
      omega
    have hal : AllAlike (ns.map PyData.int) := AllAlike.of fun _ _ => rfl
    have hsk : Sortable (ns.map PyData.int) := Sortable.others (enc := PyData.int) fun b => ⟨fun z => by injection z, fun xs z => by injection z⟩
    obtain ⟨G1, g1, g2⟩ := restrict s'.heap fun b => decide (b ≠ kS)
    obtain ⟨G3, g3, g4⟩ := restrict G1 fun b => decide (b ≠ D)
    have gk : ∀ b o, b ≠ kS → s'.heap.get? b = some o → G1.get? b = some o := fun b o hb e => by rw [g1 b (decide_eq_true hb)]; exact e
    have gk1 : ∀ b o, b ≠ D → G1.get? b = some o → G3.get? b = some o := fun b o hb e => by rw [g3 b (decide_eq_true hb)]; exact e
    have gs : ∀ b o, G1.get? b = some o → s'.heap.get? b = some o := fun b o e => by
      by_cases hb : b = kS
      · rw [hb, g2 kS (decide_eq_false fun z => z rfl)] at e; cases e
      · rw [← g1 b (decide_eq_true hb)]; exact e
    have gs1 : ∀ b o, G3.get? b = some o → G1.get? b = some o := fun b o e => by
      by_cases hb : b = D
      · rw [hb, g4 D (decide_eq_false fun z => z rfl)] at e; cases e
      · rw [← g3 b (decide_eq_true hb)]; exact e
    have I2 := (I'.turned (h' := G1) (t' := s'.toks) (it := kS) gk hK' sK.1.2.1 sK.1.1 sK.1.2.2.1 sK.1.2.2.2).turned (h' := G3) (t' := s'.toks) (it := D) gk1 hD' sD.1.2.1 sD.1.1 sD.1.2.2.1 sD.1.2.2.2
    refine wpAny_bind (listItems_at nk' rfl ?_)
    refine keyH_end (κ := dataKind s'.heap (ns.map PyData.int)) (h₁ := G1) (fun b o _ e => gs b o e) (g2 kS (decide_eq_false fun z => z rfl)) nk' na' hka (SortsAt.data (s := s') hk' hal hsk (bound_map fun _ _ => by simpa [PyData.depth] using hu)) hsz hZ fun h3 tk3 c k3 n3 => ?_
    have ko : KeyedOut false (ns.map PyData.int) its (sortVals (dataKind s'.heap (ns.map PyData.int)) false kA.toList its) := ⟨s'.heap, kA.toList, hal, rfl, hk'⟩
    have em : (ys.zip ns).map (fun b => PyData.int b.2) = ns.map PyData.int := by
      rw [show (fun b : V × Int => PyData.int b.2) = PyData.int ∘ Prod.snd from rfl, ← List.map_map, List.map_snd_zip (by omega)]
    have er := keyedOut_each (bs := ys.zip ns) (fun b => PyData.int b.2) (by rw [em]; exact ko) (each_vals rv hlen)
    rw [sort_ident hup] at er
    have vr := vals_each hlen er
    have fin := I2.laidN (h' := h3) (a := D) (o := .lst ys) (t' := tk3) (fun b o e => k3 b o (fun z => by rw [z, g4 D (decide_eq_false fun z => z rfl)] at e; cases e) (gs1 b o e)) (g4 D (decide_eq_false fun z => z rfl)) hD'
      ⟨by rw [← hlen]; exact Nat.le_trans hn (by decide), _, c, vr, n3⟩
    exact h H' G' _ E' hG' hD' fin
end
section
variable {X : Cx} {k : Nat} {f : Addr} {fd : FuncData} {ps : List Str} {d : List T → Option T}
theorem cr_sortK (Fn : FnOk X.prog X.w X.K X.mg X.base CX0 k f fd ps (spP X.K d)) (hr : Room (k + 2) X.A) (b : Binds X.K fd ps []) : CallRK X (.builtin "sorted") [Str.ofString "key"] (rSK X.K f d) := by
  intro pins s σ H vs zs us ws Q I r rz h
  obtain ⟨l, ys, G, ts, ns, rfl, rfl, hs, hG, hT, hk, hup, hn, q⟩ := h
  obtain rfl := Vals.ref1 r
  obtain rfl := Vals.ref1 rz
  obtain ⟨its, rv, hl, hz⟩ := I.list hs
  have hlen : ns.length = ys.length := by rw [keysI_len hk, hT.length]
  have hlv := rv.length
  have hZ : its.length ≤ sizeLine := by rw [← hlv]; exact hz
  refine sorted_of_sort (A := X.A) hl.isList hZ (ksk_s1 _ _) (fun _ => ksk_l1 _ _) fun E' => ?_
  show wpAny _ _ (Builtin.«list.sort» ⟨[.ref (s.heap.objs.size + 1)], [(Str.ofString "key", .ref f)]⟩) _ _ _
  rw [ksk_t1]
  have ho := copyHeap_at s.heap its
  have hD : s.heap.objs.size + 1 < (copyHeap s.heap its).objs.size := Heap.lt_size ho
  obtain ⟨e1, ho1⟩ : ∃ e1, ((copyHeap s.heap its).update (s.heap.objs.size + 1) (Obj.mapSeq fun _ => (#[] : Array Value))).get? (s.heap.objs.size + 1) = some (seqObj "list" #[] e1) := ⟨_, get?_update_seq ho fun _ => #[]⟩
  have hkS : (((copyHeap s.heap its).update (s.heap.objs.size + 1) (Obj.mapSeq fun _ => (#[] : Array Value))).push (seqObj "tuple" its.toArray 0)).objs.size = (copyHeap s.heap its).objs.size + 1 := by rw [size_push', Heap.size_update]
  have old : ∀ b o, s.heap.get? b = some o → ((((copyHeap s.heap its).update (s.heap.objs.size + 1) (Obj.mapSeq fun _ => (#[] : Array Value))).push (seqObj "tuple" its.toArray 0)).push (seqObj "list" #[] 0)).get? b = some o := fun b o e => by
    refine Heap.get?_push_of_some _ (Heap.get?_push_of_some _ ?_)
    rw [Heap.get?_update_ne _ _ _ _ (Nat.ne_of_lt (Nat.lt_succ_of_lt (Heap.lt_size e)))]
    exact copyHeap_old e
  have nk := Heap.get?_push_size (((copyHeap s.heap its).update (s.heap.objs.size + 1) (Obj.mapSeq fun _ => (#[] : Array Value))).push (seqObj "tuple" its.toArray 0)) (o := seqObj "list" #[] 0) rfl
  have na := Heap.get?_push_of_some (seqObj "list" #[] 0) (Heap.get?_push_of_some (seqObj "tuple" its.toArray 0) ho1)
  unfold ksk_tree
  refine wpAny_bind (listItems_at ho rfl ?_)
  refine wpAny_bind (listUpdate_at ho rfl ?_ (by rw [List.size_toArray]; exact hZ) (Nat.zero_le _))
  refine wpAny_bind (seqEpoch_at ho1 rfl ?_)
  refine wpAny_bind (wpAny_newTuple ?_ (by show its.length ≤ _; exact hZ))
  refine wpAny_bind (wpAny_newList ?_ (Nat.zero_le _))
  refine wpAny_holding ?_
  generalize hS : ((copyHeap s.heap its).update (s.heap.objs.size + 1) (Obj.mapSeq fun _ => (#[] : Array Value))).push (seqObj "tuple" its.toArray 0) = h2 at *
  have hDk : s.heap.objs.size + 1 < h2.objs.size := by rw [hkS]; exact Nat.lt_succ_of_lt hD
  have I3 : Inv X pins σ H { s with heap := h2.push (seqObj "list" #[] 0) } := by
    have := I.kept (t' := s.toks) old
    exact this
  have hle : s.heap.objs.size ≤ h2.objs.size := Nat.le_of_lt (Nat.lt_trans (Nat.lt_succ_self _) hDk)
  exact keyU_rest (s1 := { s with heap := h2.push (seqObj "list" #[] 0) }) (A := X.A.in1.in1) Fn hr.in1.in1 rfl b I3 (sep_of I (Nat.le_succ _)) (sep_of I hle) (I.hok.fresh (Nat.le_succ _)) (I.hok.fresh hle) (Nat.ne_of_gt hDk) nk na hG hT hk hup hn rv hr.in1.in1.units0
    fun H' G' s2 E2 hG2 hD2 I2 => ⟨rfl, .ref _, _, I2, rfl, q _ H' G' E2 hG2 (I.hok.fresh (Nat.le_succ _)) hD2⟩
end
section
variable {X : Cx} {F : PX.Fr} {e : Expr} {fe : Rho → Option (T × Rho)} {p p2 pos : Pos}
theorem pe_fname {K : PySem.W.Frag} {x : Str} {a : Addr} {pos : Pos} (hg : Gl X x) (hm : X.mg x = some (.ref a)) (hd : (x == ("__debug__" : Str)) = false) : PE X (.Name x pos) (tC (.ref a)) := pe_glob hg hm rfl hd
theorem pxn_sortK {j k : Nat} {f : Str} {d : List T → Option T} {kp : Pos} (c : Cal X.prog X.w X.K X.mg X.base k f (spP X.K d)) (hr : Room j X.A) (hk : k + 2 ≤ j) (h : X.mg "sorted" = none) (he : PX X F e fe) (g1 : Gl X "sorted" := by rfl) (g2 : Gl X f := by rfl) (b1 : bootBuiltins "sorted" = some (.builtin "sorted") := by rfl)
    (hd : (f == ("__debug__" : Str)) = false := by decide) (he1 : backTo pos (starEach [e] X.env) = (false, eval e X.env) :: backTo pos (starEach [] X.env) := by rfl) (he2 : starEach [e] X.env = (false, eval e X.env) :: starEach [] X.env := by rfl) (hpl : (backTo pos (starEach [e] X.env)).any (·.1) = false := by rfl)
    (hall : (backToKw pos (keywordEach [⟨some "key", .Name f p2, kp⟩] X.env)).all (·.1.isSome) = true := by rfl) (hnone : (backToKw pos (keywordEach [⟨some "key", .Name f p2, kp⟩] X.env)).any (·.1.isNone) = false := by rfl) (hks : (backToKw pos (keywordEach [⟨some "key", .Name f p2, kp⟩] X.env)).filterMap (·.1) = [Str.ofString "key"] := by rfl) :
    PXN X F (.Call (.Name "sorted" p) [e] [⟨some "key", .Name f p2, kp⟩] pos) (s1 fe (oSortK d)) := by
  obtain ⟨fa, fd, ps, Fn, hm, kp', b⟩ := c.ex
  refine (pe_callBK (cr_sortK Fn (hr.mono hk) b) g1 h b1 (pa_cons he pa_nil he2) (pk_cons (pe_fname (K := X.K) g2 hm hd) pk_nil) (by decide) (by decide) he1 hpl hall hnone hks).weak fun σ H Q q => ?_
  obtain ⟨G, ρ, t, ρ', R, e, q⟩ := q
  unfold s1 at e
  split at e
  · rename_i x ρ1 e1
    split at e
    · rename_i t' e2
      cases e
      unfold oSortK at e2
      split at e2
      · split at e2
        · rename_i ns e3
          split at e2
          · rename_i hl
            cases e2
            refine tX_bind R e1 fun v H1 G1 p1 r1 => ?_
            cases r1 with
            | @lst _ ws _ z r2 =>
              refine ⟨_, ws, G1, _, ns, rfl, rfl, .inl (.inl (p1.rep.sub _ _ z)), p1.rep.sub, r2, e3, hl.2, hl.1, fun D H' G' E hs hp hp' => ?_⟩
              have st1 := p1.rep.grow (fun a o h => E.k a o h id) E.g hs E.n
              have st2 := st1.rep.allocH (.lst ws) hp'
              exact q D _ G' ((p1.trans st1).trans st2) (p1.ext.free hp) (st1.rep.sub.none_ hp') ⟨_, upd_same, r2.mono E.g⟩
          · cases e2
        · cases e2
      · cases e2
    · cases e
  · cases e
end
end PX
/-! PX21 -/
set_option autoImplicit false
set_option maxRecDepth 100000
set_option linter.all false
namespace PX
open PySem L2
/-! ### the readings, applied: for simp -/
@[simp] theorem ap_v (i : Nat) (ρ : Rho) : PX.v i ρ = (match ρ[i]? with
  | some (Sl.im t) => some (t, ρ)
  | _ => none) := rfl
@[simp] theorem ap_c (t : T) (ρ : Rho) : PX.c t ρ = (some (t, ρ)) := rfl
@[simp] theorem ap_s1 (fa : Rho → Option (T × Rho)) (S : T → Option T) (ρ : Rho) : PX.s1 fa S ρ = (match fa ρ with
  | some (x, ρ1) => (match S x with
    | some t => some (t, ρ1)
    | none => none)
  | none => none) := rfl
@[simp] theorem ap_s2 (fa fb : Rho → Option (T × Rho)) (S : T → T → Option T) (ρ : Rho) : PX.s2 fa fb S ρ = (match fa ρ with
  | some (x, ρ1) => (match fb ρ1 with
    | some (y, ρ2) => (match S x y with
      | some t => some (t, ρ2)
      | none => none)
    | none => none)
  | none => none) := rfl
@[simp] theorem ap_tb (fa : Rho → Option (T × Rho)) (ρ : Rho) : PX.tb fa ρ = (match fa ρ with
  | some (.bl b, ρ1) => some (b, ρ1)
  | _ => none) := rfl
@[simp] theorem ap_tnot (fa : Rho → Option (Bool × Rho)) (ρ : Rho) : PX.tnot fa ρ = (match fa ρ with
  | some (b, ρ1) => some (!b, ρ1)
  | none => none) := rfl
@[simp] theorem ap_tand (fa fb : Rho → Option (Bool × Rho)) (ρ : Rho) : PX.tand fa fb ρ = (match fa ρ with
  | some (true, ρ1) => fb ρ1
  | some (false, ρ1) => some (false, ρ1)
  | none => none) := rfl
@[simp] theorem ap_tor (fa fb : Rho → Option (Bool × Rho)) (ρ : Rho) : PX.tor fa fb ρ = (match fa ρ with
  | some (true, ρ1) => some (true, ρ1)
  | some (false, ρ1) => fb ρ1
  | none => none) := rfl
@[simp] theorem ap_vnot (fa : Rho → Option (T × Rho)) (ρ : Rho) : PX.vnot fa ρ = (match fa ρ with
  | some (.bl b, ρ1) => some (.bl !b, ρ1)
  | _ => none) := rfl
@[simp] theorem ap_vand (fa fb : Rho → Option (T × Rho)) (ρ : Rho) : PX.vand fa fb ρ = (match fa ρ with
  | some (.bl true, ρ1) => fb ρ1
  | some (.bl false, ρ1) => some (.bl false, ρ1)
  | _ => none) := rfl
@[simp] theorem ap_vor (fa fb : Rho → Option (T × Rho)) (ρ : Rho) : PX.vor fa fb ρ = (match fa ρ with
  | some (.bl true, ρ1) => some (.bl true, ρ1)
  | some (.bl false, ρ1) => fb ρ1
  | _ => none) := rfl
@[simp] theorem ap_ifx (ft : Rho → Option (Bool × Rho)) (fa fb : Rho → Option (T × Rho)) (ρ : Rho) : PX.ifx ft fa fb ρ = (match ft ρ with
  | some (true, ρ1) => fa ρ1
  | some (false, ρ1) => fb ρ1
  | none => none) := rfl
@[simp] theorem ap_anil  (ρ : Rho) : PX.anil  ρ = (some ([], ρ)) := rfl
@[simp] theorem ap_acons (fa : Rho → Option (T × Rho)) (fs : Rho → Option (List T × Rho)) (ρ : Rho) : PX.acons fa fs ρ = (match fa ρ with
  | some (x, ρ1) => (match fs ρ1 with
    | some (xs, ρ2) => some (x :: xs, ρ2)
    | none => none)
  | none => none) := rfl
@[simp] theorem ap_sA (fs : Rho → Option (List T × Rho)) (S : List T → Option T) (ρ : Rho) : PX.sA fs S ρ = (match fs ρ with
  | some (xs, ρ1) => (match S xs with
    | some t => some (t, ρ1)
    | none => none)
  | none => none) := rfl
@[simp] theorem ap_bnil  (ρ : Rho) : PX.bnil  ρ = (some (.nx ρ)) := rfl
@[simp] theorem ap_bseq (f g : Blk) (ρ : Rho) : PX.bseq f g ρ = (match f ρ with
  | some (.nx ρ1) => g ρ1
  | some (.rt t ρ1) => some (.rt t ρ1)
  | some (.bk ρ1) => some (.bk ρ1)
  | some (.ct ρ1) => some (.ct ρ1)
  | some (.rn t ρ1) => some (.rn t ρ1)
  | none => none) := rfl
@[simp] theorem ap_frz (i : Nat) (f : Blk) (ρ : Rho) : PX.frz i f ρ = (match ρ[i]? with
  | some (Sl.cl true t) => f (ρ.set i (.im t))
  | _ => none) := rfl
@[simp] theorem ap_ret (fe : Rho → Option (T × Rho)) (ρ : Rho) : PX.ret fe ρ = (match fe ρ with
  | some (t, ρ1) => some (.rt t ρ1)
  | none => none) := rfl
@[simp] theorem ap_retN  (ρ : Rho) : PX.retN  ρ = (some (.rt .non ρ)) := rfl
@[simp] theorem ap_bbk  (ρ : Rho) : PX.bbk  ρ = (some (.bk ρ)) := rfl
@[simp] theorem ap_bct  (ρ : Rho) : PX.bct  ρ = (some (.ct ρ)) := rfl
@[simp] theorem ap_drop (fe : Rho → Option (T × Rho)) (ρ : Rho) : PX.drop fe ρ = (match fe ρ with
  | some (_, ρ1) => some (.nx ρ1)
  | none => none) := rfl
@[simp] theorem ap_biff (ft : Rho → Option (Bool × Rho)) (f g : Blk) (ρ : Rho) : PX.biff ft f g ρ = (match ft ρ with
  | some (true, ρ1) => f ρ1
  | some (false, ρ1) => g ρ1
  | none => none) := rfl
@[simp] theorem ap_im (fe : Rho → Option (T × Rho)) (ρ : Rho) : PX.im fe ρ = (match fe ρ with
  | some (t, ρ1) => some (.im t, ρ1)
  | none => none) := rfl
@[simp] theorem ap_cl (fe : Rho → Option (T × Rho)) (ρ : Rho) : PX.cl fe ρ = (match fe ρ with
  | some (t, ρ1) => some (.cl true t, ρ1)
  | none => none) := rfl
@[simp] theorem ap_retC (fe : Rho → Option (T × Rho)) (ρ : Rho) : PX.retC fe ρ = (match fe ρ with
  | some (t, ρ1) => some (.rn t ρ1)
  | none => none) := rfl
@[simp] theorem ap_bset (i : Nat) (fk : Rho → Option (Sl × Rho)) (ρ : Rho) : PX.bset i fk ρ = (match fk ρ with
  | some (k, ρ1) => some (.nx (ρ1.set i k))
  | none => none) := rfl
@[simp] theorem ap_gn (i : Nat) (t : T) (ρ : Rho) : PX.gn i t ρ = (some (ρ.set i (.im t))) := rfl
@[simp] theorem ap_gnil  (ts : List T) (ρ : Rho) : PX.gnil  ts ρ = (match ts with
  | [] => some ρ
  | _ => none) := rfl
@[simp] theorem ap_gcons (g : T → Rho → Option Rho) (gs : List T → Rho → Option Rho) (ts : List T) (ρ : Rho) : PX.gcons g gs ts ρ = (match ts with
  | t :: r => (match g t ρ with
    | some ρ1 => gs r ρ1
    | none => none)
  | [] => none) := rfl
@[simp] theorem ap_gt (n : Nat) (gs : List T → Rho → Option Rho) (t : T) (ρ : Rho) : PX.gt n gs t ρ = (match t with
  | .tup ts => if ts.length = n then gs ts ρ else none
  | _ => none) := rfl
@[simp] theorem ap_basg (fe : Rho → Option (T × Rho)) (g : T → Rho → Option Rho) (ρ : Rho) : PX.basg fe g ρ = (match fe ρ with
  | some (t, ρ1) => (match g t ρ1 with
    | some ρ2 => some (.nx ρ2)
    | none => none)
  | none => none) := rfl
@[simp] theorem ap_bfor (fi : Rho → Option (List T × Rho)) (g : T → Rho → Option Rho) (f : Blk) (ρ : Rho) : PX.bfor fi g f ρ = (match fi ρ with
  | some (ts, ρ1) => loop g f ts ρ1
  | none => none) := rfl
@[simp] theorem ap_sR (i : Nat) (fs : Rho → Option (List T × Rho)) (d : T → List T → Option (T × T)) (ρ : Rho) : PX.sR i fs d ρ = (match ρ[i]? with
  | some (Sl.cl _ _) => (match fs ρ with
    | some (xs, ρ1) => (match ρ1[i]? with
      | some (Sl.cl b c) => (match d c xs with
        | some (t, c') => some (t, ρ1.set i (.cl b c'))
        | none => none)
      | _ => none)
    | none => none)
  | _ => none) := rfl
@[simp] theorem ap_sRN (fe : Rho → Option (T × Rho)) (fs : Rho → Option (List T × Rho)) (d : T → List T → Option (T × T)) (ρ : Rho) : PX.sRN fe fs d ρ = (match fe ρ with
  | some (c, ρ1) => (match fs ρ1 with
    | some (xs, ρ2) => (match d c xs with
      | some (t, _) => some (t, ρ2)
      | none => none)
    | none => none)
  | none => none) := rfl
@[simp] theorem ap_fldC (i : Nat) (c f : Str) (ρ : Rho) : PX.fldC i c f ρ = (match ρ[i]? with
  | some (Sl.cl _ t) => (match fld c f t with
    | some u => some (u, ρ)
    | none => none)
  | _ => none) := rfl
@[simp] theorem ap_sM (c m : Str) (fo : Rho → Option (T × Rho)) (fs : Rho → Option (List T × Rho)) (d : List T → Option T) (ρ : Rho) : PX.sM c m fo fs d ρ = (match fo ρ with
  | some (.obj c' fts, ρ1) => if c' = c ∧ fts.lookup m = none then (match fs ρ1 with
      | some (xs, ρ2) => (match d (.obj c' fts :: xs) with
        | some t => some (t, ρ2)
        | none => none)
      | none => none) else none
  | _ => none) := rfl
@[simp] theorem ap_sMR (i : Nat) (c m : Str) (fs : Rho → Option (List T × Rho)) (d : T → List T → Option (T × T)) (ρ : Rho) : PX.sMR i c m fs d ρ = (match ρ[i]? with
  | some (Sl.cl _ (.obj c0 fts)) => if c0 = c ∧ fts.lookup m = none then sR i fs d ρ else none
  | _ => none) := rfl
@[simp] theorem ap_bput (i : Nat) (c f : Str) (fe : Rho → Option (T × Rho)) (ρ : Rho) : PX.bput i c f fe ρ = (match ρ[i]? with
  | some (Sl.cl _ _) => (match fe ρ with
    | some (t, ρ1) => (match ρ1[i]? with
      | some (Sl.cl b (.obj c' fts)) => if c' = c ∧ fts.length < 1000 then some (.nx (ρ1.set i (.cl b (.obj c' (putT f t fts))))) else none
      | _ => none)
    | none => none)
  | _ => none) := rfl
@[simp] theorem ap_mk (c : Str) (fs : Rho → Option (List T × Rho)) (d : T → List T → Option (T × T)) (ρ : Rho) : PX.mk c fs d ρ = (match fs ρ with
  | some (xs, ρ1) => (match d (.obj c []) xs with
    | some (.non, t) => some (t, ρ1)
    | _ => none)
  | none => none) := rfl
@[simp] theorem ap_onone  (ρ : Rho) : PX.onone  ρ = (some (none, ρ)) := rfl
@[simp] theorem ap_osome (fa : Rho → Option (T × Rho)) (ρ : Rho) : PX.osome fa ρ = (match fa ρ with
  | some (.int i, ρ1) => some (some i, ρ1)
  | _ => none) := rfl
@[simp] theorem ap_sl (fa : Rho → Option (T × Rho)) (fl fh : Rho → Option (Option Int × Rho)) (ρ : Rho) : PX.sl fa fl fh ρ = (match fa ρ with
  | some (x, ρ1) => (match fl ρ1 with
    | some (lo, ρ2) => (match fh ρ2 with
      | some (hi, ρ3) => (match oSl x lo hi with
        | some t => some (t, ρ3)
        | none => none)
      | none => none)
    | none => none)
  | none => none) := rfl
@[simp] theorem ap_i1 (fe : Rho → Option (T × Rho)) (S : T → Option (List T)) (ρ : Rho) : PX.i1 fe S ρ = (match fe ρ with
  | some (t, ρ1) => (match S t with
    | some ts => some (ts, ρ1)
    | none => none)
  | none => none) := rfl
@[simp] theorem ap_iA (fs : Rho → Option (List T × Rho)) (S : List T → Option (List T)) (ρ : Rho) : PX.iA fs S ρ = (match fs ρ with
  | some (xs, ρ1) => (match S xs with
    | some ts => some (ts, ρ1)
    | none => none)
  | none => none) := rfl
@[simp] theorem ap_lc (vs : List Nat) (fi : Rho → Option (List T × Rho)) (g : T → Rho → Option Rho) (ft : Rho → Option (Bool × Rho)) (fe : Rho → Option (T × Rho)) (ρ : Rho) : PX.lc vs fi g ft fe ρ = (match fi ρ with
  | some (ts, ρ1) => (match lcl vs g ft fe ts [] (wipeR ρ1 vs) with
    | some (xs, ρ2) => some (.lst xs, wipeR ρ2 vs)
    | none => none)
  | none => none) := rfl
@[simp] theorem ap_tyes  (ρ : Rho) : PX.tyes  ρ = (some (true, ρ)) := rfl
@[simp] theorem ap_sB (T' : String) (fo : Rho → Option (T × Rho)) (fs : Rho → Option (List T × Rho)) (S : T → List T → Option T) (ρ : Rho) : PX.sB T' fo fs S ρ = (match fo ρ with
  | some (x, ρ1) => if isTyT T' x then (match fs ρ1 with
    | some (xs, ρ2) => (match S x xs with
      | some t => some (t, ρ2)
      | none => none)
    | none => none) else none
  | none => none) := rfl
@[simp] theorem ap_sBC (T' : String) (i : Nat) (fs : Rho → Option (List T × Rho)) (S : T → List T → Option (T × T)) (ρ : Rho) : PX.sBC T' i fs S ρ = (match ρ[i]? with
  | some (Sl.cl _ c0) => if isTyC T' c0 then (match fs ρ with
    | some (xs, ρ1) => (match ρ1[i]? with
      | some (Sl.cl b c) => (match S c xs with
        | some (t, c') => some (t, ρ1.set i (.cl b c'))
        | none => none)
      | _ => none)
    | none => none) else none
  | _ => none) := rfl
@[simp] theorem ap_ixC (i : Nat) (fb : Rho → Option (T × Rho)) (ρ : Rho) : PX.ixC i fb ρ = (match ρ[i]? with
  | some (Sl.cl _ _) => (match fb ρ with
    | some (.int n, ρ1) => (match ρ1[i]? with
      | some (Sl.cl _ (.lst ts)) => (match atI ts n with
        | some t => some (t, ρ1)
        | none => none)
      | _ => none)
    | _ => none)
  | _ => none) := rfl
@[simp] theorem ap_chn (fa fb fc : Rho → Option (T × Rho)) (S S' : T → T → Option T) (ρ : Rho) : PX.chn fa fb fc S S' ρ = (match fa ρ with
  | some (x, ρ1) => (match fb ρ1 with
    | some (y, ρ2) => (match S x y with
      | some (.bl true) => (match fc ρ2 with
        | some (z, ρ3) => (match S' y z with
          | some t => some (t, ρ3)
          | none => none)
        | none => none)
      | some (.bl false) => some (.bl false, ρ2)
      | _ => none)
    | none => none)
  | none => none) := rfl
@[simp] theorem ap_vw (i : Nat) (f : Rho → Option (T × Rho)) (ρ : Rho) : PX.vw i f ρ = (match ρ[i]? with
  | some (Sl.cl true t) => (match f (ρ.set i (.im t)) with
    | some (u, ρ') => if flatS u then (match mrg (ρ.set i .no) ρ' with
      | some ρ2 => some (u, ρ2.set i (.cl true t))
      | none => none) else none
    | none => none)
  | _ => none) := rfl
@[simp] theorem ap_vwT (i : Nat) (f : Rho → Option (Bool × Rho)) (ρ : Rho) : PX.vwT i f ρ = (match vw i (fun ρ => match f ρ with
    | some (b, ρ1) => some (.bl b, ρ1)
    | none => none) ρ with
  | some (.bl b, ρ1) => some (b, ρ1)
  | _ => none) := rfl
@[simp] theorem ap_sG (fd fa fb : Rho → Option (T × Rho)) (ρ : Rho) : PX.sG fd fa fb ρ = (match fd ρ with
  | some (x, ρ1) => if isDct x then (match fa ρ1 with
    | some (y, ρ2) => (match fb ρ2 with
      | some (z, ρ3) => (match oGet x y z with
        | some t => some (t, ρ3)
        | none => none)
      | none => none)
    | none => none) else none
  | none => none) := rfl
@[simp] theorem ap_gsub (i : Nat) (fb : Rho → Option (T × Rho)) (v : T) (ρ : Rho) : PX.gsub i fb v ρ = (match fb ρ with
  | some (y, ρ1) => (match ρ1[i]? with
    | some (Sl.cl b c) => (match setC c y v with
      | some c' => some (ρ1.set i (.cl b c'))
      | none => none)
    | _ => none)
  | none => none) := rfl
@[simp] theorem ap_bsub (i : Nat) (fb fe : Rho → Option (T × Rho)) (ρ : Rho) : PX.bsub i fb fe ρ = (match ρ[i]? with
  | some (Sl.cl _ _) => (match fe ρ with
    | some (v, ρ1) => (match gsub i fb v ρ1 with
      | some ρ2 => some (.nx ρ2)
      | none => none)
    | none => none)
  | _ => none) := rfl
@[simp] theorem ap_bsub2 (i : Nat) (fb : Rho → Option (T × Rho)) (j : Nat) (fe : Rho → Option (T × Rho)) (ρ : Rho) : PX.bsub2 i fb j fe ρ = (match ρ[i]? with
  | some (Sl.cl _ _) => (match fe ρ with
    | some (.tup [v, w], ρ1) => (match gsub i fb v ρ1 with
      | some ρ2 => some (.nx (ρ2.set j (.im w)))
      | none => none)
    | _ => none)
  | _ => none) := rfl
@[simp] theorem ap_dc (vs : List Nat) (fi : Rho → Option (List T × Rho)) (g : T → Rho → Option Rho) (ft : Rho → Option (Bool × Rho)) (fk fe : Rho → Option (T × Rho)) (ρ : Rho) : PX.dc vs fi g ft fk fe ρ = (match fi ρ with
  | some (ts, ρ1) => (match dcl vs g ft fk fe ts [] (wipeR ρ1 vs) with
    | some (xs, ρ2) => some (.dct xs, wipeR ρ2 vs)
    | none => none)
  | none => none) := rfl
@[simp] theorem ap_bpar2 (i j : Nat) (ka kb : Rho → Option (Sl × Rho)) (ρ : Rho) : PX.bpar2 i j ka kb ρ = (match ka ρ with
  | some (k1, ρ1) => (match kb ρ1 with
    | some (k2, ρ2) => some (.nx ((ρ2.set i k1).set j k2))
    | none => none)
  | none => none) := rfl
@[simp] theorem ap_bpar3 (i j l : Nat) (ka kb kc : Rho → Option (Sl × Rho)) (ρ : Rho) : PX.bpar3 i j l ka kb kc ρ = (match ka ρ with
  | some (k1, ρ1) => (match kb ρ1 with
    | some (k2, ρ2) => (match kc ρ2 with
      | some (k3, ρ3) => some (.nx (((ρ3.set i k1).set j k2).set l k3))
      | none => none)
    | none => none)
  | none => none) := rfl
end PX
/-! PX22 -/
set_option autoImplicit false
set_option maxRecDepth 100000
set_option linter.all false
namespace PX
open PySem L2
/-! ### loops, by an invariant -/
theorem loop_inv {g : T → Rho → Option Rho} {f : Blk} (I : Nat → Rho → Prop) : ∀ (ts : List T) (n : Nat) (ρ : Rho), I n ρ → (∀ i t ρ, ts[i]? = some t → I (n + i) ρ → ∃ ρ1 ρ2, g t ρ = some ρ1 ∧ (f ρ1 = some (.nx ρ2) ∨ f ρ1 = some (.ct ρ2)) ∧ I (n + i + 1) ρ2) →
    ∃ ρ', loop g f ts ρ = some (.nx ρ') ∧ I (n + ts.length) ρ'
  | [], n, ρ, h0, _ => ⟨ρ, rfl, h0⟩
  | t :: ts, n, ρ, h0, hs => by
    obtain ⟨ρ1, ρ2, h1, h2, h3⟩ := hs 0 t ρ rfl h0
    obtain ⟨ρ', h4, h5⟩ := loop_inv I ts (n + 1) ρ2 h3 fun i u r hu hi => by
      have := hs (i + 1) u r hu (by rw [show n + (i + 1) = n + 1 + i by omega]; exact hi)
      rw [show n + 1 + i + 1 = n + (i + 1) + 1 by omega]
      exact this
    refine ⟨ρ', ?_, by rw [List.length_cons, show n + (ts.length + 1) = n + 1 + ts.length by omega]; exact h5⟩
    unfold loop
    rw [h1]
    dsimp only
    rcases h2 with h2 | h2 <;> rw [h2] <;> exact h4
/-! ### list comprehensions, by a function -/
theorem lcl_map {vs : List Nat} {g : T → Rho → Option Rho} {ft : Rho → Option (Bool × Rho)} {fe : Rho → Option (T × Rho)} {ρ : Rho} (F : T → T) : ∀ (ts acc : List T), (∀ t ∈ ts, ∃ ρ1, g t ρ = some ρ1 ∧ ft ρ1 = some (true, ρ1) ∧ fe ρ1 = some (F t, ρ1) ∧ wipeR ρ1 vs = ρ) → acc.length + ts.length ≤ 1000 →
    lcl vs g ft fe ts acc ρ = some (acc ++ ts.map F, ρ)
  | [], acc, _, _ => by simp [lcl]
  | t :: ts, acc, h, hl => by
    obtain ⟨ρ1, h1, h2, h3, h4⟩ := h t List.mem_cons_self
    rw [List.length_cons] at hl
    unfold lcl
    rw [h1]
    dsimp only
    rw [h2]
    dsimp only
    rw [h3]
    dsimp only
    rw [if_pos (by omega), h4, lcl_map F ts (acc ++ [F t]) (fun u m => h u (List.mem_cons_of_mem _ m)) (by rw [List.length_append, List.length_singleton]; omega)]
    simp
/-- .. with a condition -/
theorem lcl_filter {vs : List Nat} {g : T → Rho → Option Rho} {ft : Rho → Option (Bool × Rho)} {fe : Rho → Option (T × Rho)} {ρ : Rho} (c : T → Bool) (F : T → T) : ∀ (ts acc : List T),
    (∀ t ∈ ts, ∃ ρ1, g t ρ = some ρ1 ∧ ft ρ1 = some (c t, ρ1) ∧ (c t = true → fe ρ1 = some (F t, ρ1)) ∧ wipeR ρ1 vs = ρ) → acc.length + ts.length ≤ 1000 →
    lcl vs g ft fe ts acc ρ = some (acc ++ (ts.filter c).map F, ρ)
  | [], acc, _, _ => by simp [lcl]
  | t :: ts, acc, h, hl => by
    obtain ⟨ρ1, h1, h2, h3, h4⟩ := h t List.mem_cons_self
    rw [List.length_cons] at hl
    unfold lcl
    rw [h1]
    dsimp only
    rw [h2]
    cases hc : c t with
    | true =>
      dsimp only
      rw [h3 hc]
      dsimp only
      rw [if_pos (by omega), h4, lcl_filter c F ts (acc ++ [F t]) (fun u m => h u (List.mem_cons_of_mem _ m)) (by rw [List.length_append, List.length_singleton]; omega), List.filter_cons_of_pos hc]
      simp
    | false =>
      dsimp only
      rw [h4, lcl_filter c F ts acc (fun u m => h u (List.mem_cons_of_mem _ m)) (by omega), List.filter_cons_of_neg (by rw [hc]; decide)]
/-! ### dict comprehensions -/
theorem putKT_len (kts : List (Key × T)) (k : Key) (t : T) : (putKT kts k t).length ≤ kts.length + 1 := by
  unfold putKT
  split
  · rw [List.length_map]; omega
  · rw [List.length_append, List.length_singleton]; omega
theorem dcl_filter {vs : List Nat} {g : T → Rho → Option Rho} {ft : Rho → Option (Bool × Rho)} {fk fe : Rho → Option (T × Rho)} {ρ : Rho} (c : T → Bool) (k : T → Key) (F : T → T) : ∀ (ts : List T) (acc : List (Key × T)),
    (∀ t ∈ ts, ∃ ρ1, g t ρ = some ρ1 ∧ ft ρ1 = some (c t, ρ1) ∧ (c t = true → ∃ y, fk ρ1 = some (y, ρ1) ∧ keyT y = some (k t) ∧ fe ρ1 = some (F t, ρ1)) ∧ wipeR ρ1 vs = ρ) → acc.length + ts.length ≤ 1000 →
    dcl vs g ft fk fe ts acc ρ = some ((ts.filter c).foldl (fun a t => putKT a (k t) (F t)) acc, ρ)
  | [], acc, _, _ => by simp [dcl]
  | t :: ts, acc, h, hl => by
    obtain ⟨ρ1, h1, h2, h3, h4⟩ := h t List.mem_cons_self
    rw [List.length_cons] at hl
    unfold dcl
    rw [h1]
    dsimp only
    rw [h2]
    cases hc : c t with
    | true =>
      obtain ⟨y, y1, y2, y3⟩ := h3 hc
      dsimp only
      rw [y1]
      dsimp only
      rw [y3]
      dsimp only
      rw [y2]
      dsimp only
      have hp := putKT_len acc (k t) (F t)
      rw [if_pos (by omega), h4, dcl_filter c k F ts _ (fun u m => h u (List.mem_cons_of_mem _ m)) (by omega), List.filter_cons_of_pos hc]
      rfl
    | false =>
      dsimp only
      rw [h4, dcl_filter c k F ts acc (fun u m => h u (List.mem_cons_of_mem _ m)) (by omega), List.filter_cons_of_neg (by rw [hc]; decide)]
/-! ### equality of small things -/
theorem oEq_str {neg : Bool} {a b : Str} (ha : PyData.strOk a = true) (hb : PyData.strOk b = true) : oEq neg (.str a) (.str b) = some (.bl (if neg then !(a == b) else a == b)) := by simp [oEq, data, SeqAt.shaped, PyData.eqv, PyData.canLay0, PyData.depth, ha, hb]
@[simp] theorem oEq_int {neg : Bool} {a b : Int} : oEq neg (.int a) (.int b) = some (.bl (if neg then !(a == b) else a == b)) := by simp [oEq, data, SeqAt.shaped, PyData.eqv, PyData.canLay0, PyData.depth]
@[simp] theorem oEq_bl {neg : Bool} {a b : Bool} : oEq neg (.bl a) (.bl b) = some (.bl (if neg then !(a == b) else a == b)) := by simp [oEq, data, SeqAt.shaped, PyData.eqv, PyData.canLay0, PyData.depth]
end PX
/-! PX23 -/
set_option autoImplicit false
set_option maxRecDepth 100000
set_option linter.all false
namespace PX
open PySem L2
/-! ### a cell compared: the other cells stand as they are -/
def cmpC (i : Nat) (fb : Rho → Option (T × Rho)) (S : T → T → Option T) : Rho → Option (T × Rho) := fun ρ => match ρ[i]? with
  | some (Sl.cl _ _) => (match fb ρ with
    | some (y, ρ1) => (match ρ1[i]? with
      | some (Sl.cl _ t) => (match S t y with
        | some (.bl r) => some (.bl r, ρ1)
        | _ => none)
      | _ => none)
    | none => none)
  | _ => none
section
variable {X : Cx} {F : PX.Fr} {K : PySem.W.Frag} {b : Expr} {fb : Rho → Option (T × Rho)} {pos : Pos}
theorem rep_all (H : Hp) : Rep K ⟨H, H, fun _ => False⟩ H H [] [] :=
  ⟨Le.refl _, (fun _ _ e => nomatch e), (fun _ _ _ e => nomatch e), (fun _ _ _ _ _ _ _ e => nomatch e), fun _ _ h _ => h, Le.refl _, fun _ _ h => .inl h, fun _ o h => ⟨o, h⟩, rfl⟩
theorem tOp_cmpC {i : Nat} {r : R2} {S : T → T → Option T} {σ : L2.St} {H : Hp} {Q : VK} (hs : OpS K r S) (h : tX K F (cmpC i fb S) σ H Q) : tOp r (tVar i) (tX K F fb) σ H Q := by
  obtain ⟨G, ρ, t, ρ', R, e, k⟩ := h
  unfold cmpC at e
  split at e
  · rename_i b0 c0 e0
    split at e
    · rename_i y ρ1 e1
      split at e
      · rename_i b1 t1 e2
        split at e
        · rename_i r1 e3
          cases e
          obtain ⟨p, s0, _⟩ := R.cl i b0 c0 e0
          refine ⟨_, s0, tX_bind R e1 fun v2 H1 G1 p1 q2 => ?_⟩
          obtain ⟨p', s1, g1, c1, _⟩ := p1.rep.cl i b1 t1 e2
          rw [s0] at s1
          cases s1
          refine hs (rep_all H1) (c1.isT p1.rep.sub) (q2.mono p1.rep.sub) e3 fun w H' G' st q => ?_
          cases q
          have hk : Le H1 H' := fun a o h => st.rep.keep a o h id
          exact k _ H' G1 (p1.trans (p1.rep.grow hk (Le.refl _) (p1.rep.sub.trans hk) fun _ _ h => .inl h)) (.bl _)
        · cases e
      · cases e
    · cases e
  · cases e
theorem px_cmpC (i : Nat) {x : Str} {p : Pos} {op : CmpOp} {r : R2} {S : T → T → Option T} (ho : OpR X (compareOp op) r) (hs : OpS X.K r S) (hb : PX X F b fb) (hm : behindInMarks op b = false) (hN : X.N[i]? = some x := by rfl) (hv : Vis X.env.scope x := by first | exact Or.inl rfl | exact Or.inr (Or.inl rfl) | exact Or.inr (Or.inr rfl)) (hd : (x == ("__debug__" : Str)) = false := by decide) (hcd : (x == ("__classdict__" : Str)) = false := by decide) :
    PX X F (.Compare (.Name x p) [op] [b] pos) (cmpC i fb S) := (pe_cmpR ho (pv i hN hv hd hcd) hb hm).weak fun _ _ _ h => tOp_cmpC hs h
theorem pxt_cmpC (i : Nat) {x : Str} {p : Pos} {op : CmpOp} {r : R2} {S : T → T → Option T} (ho : OpR X (compareOp op) r) (hs : OpS X.K r S) (hb : PX X F b fb) (hm : behindInMarks op b = false) (hN : X.N[i]? = some x := by rfl) (hv : Vis X.env.scope x := by first | exact Or.inl rfl | exact Or.inr (Or.inl rfl) | exact Or.inr (Or.inr rfl)) (hd : (x == ("__debug__" : Str)) = false := by decide) (hcd : (x == ("__classdict__" : Str)) = false := by decide) :
    PXT X F (.Compare (.Name x p) [op] [b] pos) (tb (cmpC i fb S)) := (pt_cmpR ho (pv i hN hv hd hcd) hb hm).weak fun _ _ _ h => tTest_tb (fun _ _ _ q => tOp_cmpC hs q) h
end
/-! ### an item of a cell, a list or a dict -/
def itC : T → T → Option T := fun c y => match c with
  | .lst ts => (match y with
    | .int n => atI ts n
    | _ => none)
  | .dct kts => (match keyT y with
    | some k => lkT kts k
    | none => none)
  | _ => none
def ixG (i : Nat) (fb : Rho → Option (T × Rho)) : Rho → Option (T × Rho) := fun ρ => match ρ[i]? with
  | some (Sl.cl _ _) => (match fb ρ with
    | some (y, ρ1) => (match ρ1[i]? with
      | some (Sl.cl _ c) => (match itC c y with
        | some t => some (t, ρ1)
        | none => none)
      | _ => none)
    | none => none)
  | _ => none
section
variable {X : Cx} {F : PX.Fr} {b : Expr} {fb : Rho → Option (T × Rho)} {pos py : Pos} {y : Str}
theorem px_ixG (i : Nat) (hu : X.A.units + 1 < cLine) (hb : PX X F b fb) (hs : PlainIx b := by exact fun _ _ => rfl) (hN : X.N[i]? = some y := by rfl) (hv : Vis X.env.scope y := by first | exact Or.inl rfl | exact Or.inr (Or.inl rfl) | exact Or.inr (Or.inr rfl)) (hd : (y == ("__debug__" : Str)) = false := by decide) (hcd : (y == ("__classdict__" : Str)) = false := by decide) :
    PX X F (.Subscript (.Name y py) b pos) (ixG i fb) := (pe_ix (IxR.or ix_seq (ix_dict hu)) (pv i hN hv hd hcd) hb hs).weak fun σ H Q h => by
  obtain ⟨G, ρ, t, ρ', R, e, k⟩ := h
  unfold ixG at e
  split at e
  · rename_i b0 c0 e0
    split at e
    · rename_i y' ρ1 e1
      split at e
      · rename_i b1 c1 e2
        split at e
        · rename_i t' e3
          cases e
          obtain ⟨q, s0, _⟩ := R.cl i b0 c0 e0
          refine ⟨_, s0, tX_bind R e1 fun v1 H1 G1 p1 q1 => ?_⟩
          obtain ⟨q', s1, g1, cc, _⟩ := p1.rep.cl i b1 _ e2
          rw [s0] at s1
          cases s1
          unfold itC at e3
          split at e3
          · split at e3
            · obtain ⟨vs, z, r⟩ := cc
              cases q1
              obtain ⟨w, h1, h2⟩ := atI_ts r e3
              exact .inl (.inl ⟨_, _, _, w, rfl, rfl, .inl (.inl z), h1, k w H1 G1 p1 h2⟩)
            · cases e3
          · split at e3
            · rename_i kk ek
              obtain ⟨kvs, z, e4, r⟩ := cc
              obtain ⟨v, h, q⟩ := (lkT_is e4 r).2 _ e3
              rw [keyT_is q1 ek]
              exact .inr ⟨_, v, rfl, .inl ⟨_, kk, .inl z, rfl, h.symm⟩, k v H1 G1 p1 q⟩
            · cases e3
          · cases e3
        · cases e
      · cases e
    · cases e
  · cases e
end
@[simp] theorem ap_ixG (i : Nat) (fb : Rho → Option (T × Rho)) (ρ : Rho) : ixG i fb ρ = (match ρ[i]? with
  | some (Sl.cl _ _) => (match fb ρ with
    | some (y, ρ1) => (match ρ1[i]? with
      | some (Sl.cl _ c) => (match itC c y with
        | some t => some (t, ρ1)
        | none => none)
      | _ => none)
    | none => none)
  | _ => none) := rfl
@[simp] theorem ap_cmpC (i : Nat) (fb : Rho → Option (T × Rho)) (S : T → T → Option T) (ρ : Rho) : cmpC i fb S ρ = (match ρ[i]? with
  | some (Sl.cl _ _) => (match fb ρ with
    | some (y, ρ1) => (match ρ1[i]? with
      | some (Sl.cl _ t) => (match S t y with
        | some (.bl r) => some (.bl r, ρ1)
        | _ => none)
      | _ => none)
    | none => none)
  | _ => none) := rfl
end PX
/-! B77 -/
set_option autoImplicit false
set_option maxRecDepth 100000
set_option linter.all false
set_option maxHeartbeats 4000000
namespace Go
open PySem L2 PX
def b_CueList : List (String × Bool) := []
def c_CueList : List (Str × Bool) := [("CueList", true)]
def b_Rig : List (String × Bool) := []
def c_Rig : List (Str × Bool) := [("Rig", true)]
def W__law_woven : Nat := 1000
def W_waits_of : Nat := 1000
def B__law_draw : Blk := bseq (biff (tb (s2 (ixG 0 (c (.int 0))) (c (.int 0)) (oGt))) (bseq (bsub2 0 (c (.int 0)) 2 (sA (acons (ixG 0 (c (.int 0))) (acons (v 1) (anil))) oDivmod)) (ret (v 2))) (bnil)) (bseq (bsub 0 (c (.int 2)) (s2 (ixG 0 (c (.int 2))) (c (.int 1)) oAddG)) (bseq (bsub 0 (c (.int 1)) (s2 (sA (acons (s2 (s2 (s2 (ixG 0 (c (.int 1))) (s2 (s2 (sA (acons (ixG 0 (c (.int 1))) (anil)) oInt) (c (.int 10007)) oMod) (c (.int 20011)) oAddG) oMulG) (s2 (c (.int 60013)) (ixG 0 (c (.int 2))) oMulG) oAddG) (c (.int 61)) oAddG) (anil)) oInt) (c (.int 2147483563)) oMod)) (ret (s2 (sA (acons (s2 (ixG 0 (c (.int 1))) (c (.int 97)) oDiv) (anil)) oInt) (v 1) oMod))))
def P__law_draw : T → List T → Option (T × T) := runR 2 3 B__law_draw
def B__law_pick : Blk := ret (s2 (v 1) (sR 0 (acons (sA (acons (v 1) (anil)) oLen) (anil)) P__law_draw) oIt)
def P__law_pick : T → List T → Option (T × T) := runR 2 2 B__law_pick
def B__law_cue : Blk := bseq (bpar2 3 4 (cl (sA (anil) mkLst)) (im (sR 0 (acons (sA (acons (c (.int 0)) (acons (c (.int 0)) (acons (c (.int 1)) (acons (c (.int 2)) (acons (c (.int 3)) (acons (c (.int 4)) (acons (c (.int 5)) (anil)))))))) mkTup) (anil)) P__law_pick))) (bseq (bfor (i1 (s2 (v 1) (c (.int 0)) oIt) anyOf) (gn 5) (biff (tb (s2 (sR 0 (acons (c (.int 5)) (anil)) P__law_draw) (c (.int 2)) (oLtG))) (drop (sBC "list" 3 (acons (sA (acons (v 5) (acons (sR 0 (acons (s2 (s2 (v 1) (c (.int 1)) oIt) (c (.int 1)) oAddG) (anil)) P__law_draw) (anil))) mkTup) (anil)) oAppend)) (bnil))) (bseq (bset 6 (im (ifx (tb (s2 (sR 0 (acons (c (.int 3)) (anil)) P__law_draw) (c (.int 0)) (oGt))) (c .non) (s2 (c (.int 1)) (sR 0 (acons (c (.int 5)) (anil)) P__law_draw) oAddG)))) (frz 3 (ret (sA (acons (v 2) (acons (sA (acons (v 3) (anil)) oTuple) (acons (v 4) (acons (v 6) (acons (s2 (sR 0 (acons (c (.int 5)) (anil)) P__law_draw) (c (.int 0)) (oEq false)) (anil)))))) mkTup)))))
def P__law_cue : T → List T → Option (T × T) := runR 3 7 B__law_cue
def B__law_cues : Blk := bseq (bset 3 (cl (sA (anil) mkLst))) (bseq (bfor (iA (acons (v 2) (anil)) rng1) (gn 4) (drop (sBC "list" 3 (acons (s2 (c (.int 1)) (sR 0 (acons (sR 0 (acons (sA (acons (c (.int 20)) (acons (c (.int 999)) (anil))) mkTup) (anil)) P__law_pick) (anil)) P__law_draw) oAddG) (anil)) oAppend))) (bseq (bset 5 (cl (sA (anil) mkLst))) (frz 3 (bseq (bfor (i1 (sA (acons (v 3) (anil)) oSortSet) anyOf) (gn 6) (drop (sBC "list" 5 (acons (sR 0 (acons (v 1) (acons (v 6) (anil))) P__law_cue) (anil)) oAppend))) (frz 5 (ret (sA (acons (v 5) (anil)) oTuple)))))))
def P__law_cues : T → List T → Option (T × T) := runR 3 7 B__law_cues
def B__law_woven : Blk := bseq (bpar3 2 3 4 (im (c (.int 0))) (cl (sA (acons (v 0) (anil)) oListG)) (cl (sA (anil) mkLst))) (bseq (bfor (i1 (s2 (sA (acons (v 1) (anil)) oListG) (sA (acons (sA (anil) mkTup) (anil)) mkLst) oAddG) anyOf) (gn 5) (bseq (wloop (tand (tb (cmpC 3 (sA (anil) mkLst) (oEq true))) (tb (s2 (s2 (ixG 3 (c (.int 0))) (c (.int 0)) oIt) (v 2) (oEq false)))) (drop (sBC "list" 4 (acons (s2 (sBC "list" 3 (acons (c (.int 0)) (anil)) oPopAt) (c (.int 1)) oIt) (anil)) oAppend)) W__law_woven) (biff (tb (s2 (v 5) (sA (anil) mkTup) (oEq true))) (bseq (drop (sBC "list" 4 (acons (v 5) (anil)) oAppend)) (bset 2 (im (s2 (v 2) (sA (acons (s2 (v 5) (sA (acons (c (.str "wait")) (anil)) mkTup) (oEq false)) (anil)) oInt) oAddG)))) (bnil)))) (frz 4 (ret (sA (acons (v 4) (anil)) oTuple))))
def P__law_woven : List T → Option T := runP 2 6 B__law_woven
def B__law_first : Blk := ret (sA (acons (s2 (sA (acons (sA (acons (c (.int 0)) (acons (c (.int 0)) (acons (c (.int 0)) (acons (c (.int 0)) (anil))))) mkTup) (anil)) mkTup) (sA (acons (s2 (v 0) (c (.int 0)) oIt) (anil)) oLen) oMulG) (acons (s1 (c (.int 1)) oNeg) (acons (s1 (c (.int 1)) oNeg) (acons (sA (anil) mkTup) (anil))))) mkTup)
def P__law_first : List T → Option T := runP 1 1 B__law_first
def B__law_level : Blk := bseq (basg (v 0) (gt 4 (gcons (gn 1) (gcons (gn 2) (gcons (gn 3) (gcons (gn 4) (gnil))))))) (ret (ifx (tb (s2 (v 3) (v 4) (oLtG))) (s2 (v 1) (s2 (s2 (s2 (v 2) (v 1) oSub) (v 3) oMulG) (v 4) oDiv) oAddG) (v 2)))
def P__law_level : List T → Option T := runP 1 5 B__law_level
def B__law_look : Blk := bseq (bset 2 (im (sA (acons (sA (acons (s2 (v 1) (c (.int 3)) oIt) (anil)) oListG) (anil)) oDictP))) (ret (sA (acons (lc [3] (iA (acons (sA (acons (s2 (v 0) (c (.int 0)) oIt) (anil)) oLen) (anil)) rng1) (gn 3) (tyes) (sG (v 2) (s2 (s2 (v 0) (c (.int 0)) oIt) (v 3) oIt) (sA (acons (s2 (s2 (v 1) (c (.int 0)) oIt) (v 3) oIt) (anil)) P__law_level))) (anil)) oTuple))
def P__law_look : List T → Option T := runP 2 4 B__law_look
def B__law_meaning : Blk := bseq (bset 3 (cl (sA (acons (lc [9] (i1 (s2 (v 0) (c (.int 0)) oIt) anyOf) (gn 9) (tyes) (sA (acons (v 9) (acons (c (.int 0)) (anil))) mkTup)) (anil)) oDictP))) (bseq (bfor (i1 (sl (v 1) (onone) (osome (s2 (v 2) (c (.int 1)) oAddG))) anyOf) (gt 5 (gcons (gn 4) (gcons (gn 5) (gcons (gn 6) (gcons (gn 7) (gcons (gn 8) (gnil))))))) (bfor (i1 (v 5) anyOf) (gt 2 (gcons (gn 9) (gcons (gn 10) (gnil)))) (bsub 3 (v 9) (v 10)))) (ret (lc [9] (i1 (s2 (v 0) (c (.int 0)) oIt) anyOf) (gn 9) (tyes) (ixG 3 (v 9)))))
def P__law_meaning : List T → Option T := runP 3 11 B__law_meaning
def B__law_sent : Blk := bseq (biff (tb (s2 (s2 (v 0) (c (.int 1)) oIt) (v 1) (oEq false))) (ret (v 0)) (bnil)) (bseq (bset 3 (im (sA (acons (v 0) (anil)) P__law_level))) (ret (ifx (tor (tb (s2 (v 2) (c (.int 0)) (oEq false))) (tb (s2 (v 3) (v 1) (oEq false)))) (sA (acons (v 1) (acons (v 1) (acons (c (.int 0)) (acons (c (.int 0)) (anil))))) mkTup) (sA (acons (v 3) (acons (v 1) (acons (c (.int 0)) (acons (v 2) (anil))))) mkTup))))
def P__law_sent : List T → Option T := runP 3 4 B__law_sent
def B__law_brought : Blk := bseq (bset 6 (im (sA (acons (v 0) (acons (v 1) (acons (v 3) (anil)))) P__law_meaning))) (bseq (bset 7 (cl (sA (acons (s2 (v 2) (c (.int 0)) oIt) (anil)) oListG))) (bseq (bfor (iA (acons (vw 7 (sA (acons (v 7) (anil)) oLen)) (anil)) rng1) (gn 8) (biff (tb (s2 (s2 (s2 (v 0) (c (.int 0)) oIt) (v 8) oIt) (v 5) (oInG false))) (bsub 7 (v 8) (sA (acons (ixG 7 (v 8)) (acons (s2 (v 6) (v 8) oIt) (acons (v 4) (anil)))) P__law_sent)) (bnil))) (frz 7 (ret (sA (acons (v 7) (anil)) oTuple)))))
def P__law_brought : List T → Option T := runP 6 9 B__law_brought
def B__law_due : Blk := ret (ifx (tand (tb (s2 (s2 (s2 (v 0) (v 1) oIt) (c (.int 3)) oIt) (c .non) (oIsN true))) (tb (s2 (s2 (v 1) (c (.int 1)) oAddG) (sA (acons (v 0) (anil)) oLen) (oLtG)))) (s2 (s2 (v 0) (v 1) oIt) (c (.int 3)) oIt) (s1 (c (.int 1)) oNeg))
def P__law_due : List T → Option T := runP 2 2 B__law_due
def B__law_started : Blk := bseq (basg (s2 (v 1) (v 3) oIt) (gt 5 (gcons (gn 4) (gcons (gn 5) (gcons (gn 6) (gcons (gn 7) (gcons (gn 8) (gnil)))))))) (bseq (bset 9 (im (ifx (tb (v 8)) (s2 (v 0) (c (.int 0)) oIt) (lc [10, 11] (i1 (v 5) anyOf) (gt 2 (gcons (gn 10) (gcons (gn 11) (gnil)))) (tyes) (v 10))))) (ret (sA (acons (sA (acons (v 0) (acons (v 1) (acons (v 2) (acons (v 3) (acons (v 6) (acons (v 9) (anil))))))) P__law_brought) (acons (v 3) (acons (sA (acons (v 1) (acons (v 3) (anil))) P__law_due) (acons (s2 (v 2) (c (.int 3)) oIt) (anil))))) mkTup)))
def P__law_started : List T → Option T := runP 4 12 B__law_started
def B__law_done : Blk := bseq (basg (v 3) (gt 4 (gcons (gn 5) (gcons (gn 6) (gcons (gn 7) (gcons (gn 8) (gnil))))))) (bseq (bset 9 (im (lc [17] (i1 (v 1) anyOf) (gn 17) (tyes) (s2 (v 17) (c (.int 0)) oIt)))) (bseq (biff (tb (s2 (s2 (v 4) (c (.int 0)) oIt) (c (.str "go")) (oEq false))) (ret (ifx (tb (s2 (s2 (v 6) (c (.int 1)) oAddG) (sA (acons (v 1) (anil)) oLen) (oLtG))) (sA (acons (v 0) (acons (v 1) (acons (v 3) (acons (s2 (v 6) (c (.int 1)) oAddG) (anil))))) P__law_started) (v 3))) (bnil)) (bseq (biff (tb (s2 (s2 (v 4) (c (.int 0)) oIt) (c (.str "back")) (oEq false))) (bseq (biff (tb (s2 (v 6) (s1 (c (.int 1)) oNeg) (oEq false))) (ret (v 3)) (bnil)) (ret (sA (acons (sA (acons (v 0) (acons (v 1) (acons (v 3) (acons (s2 (v 6) (c (.int 1)) oSub) (acons (v 2) (acons (s2 (v 0) (c (.int 0)) oIt) (anil))))))) P__law_brought) (acons (s2 (v 6) (c (.int 1)) oSub) (acons (s1 (c (.int 1)) oNeg) (acons (v 8) (anil))))) mkTup))) (bnil)) (bseq (biff (tb (s2 (s2 (v 4) (c (.int 0)) oIt) (c (.str "jump")) (oEq false))) (bseq (biff (tb (s2 (s2 (v 4) (c (.int 1)) oIt) (v 9) (oInG true))) (ret (v 3)) (bnil)) (bseq (bset 10 (im (sB "list" (v 9) (acons (s2 (v 4) (c (.int 1)) oIt) (anil)) oIndex))) (ret (sA (acons (sA (acons (v 0) (acons (v 1) (acons (v 3) (acons (v 10) (acons (s2 (s2 (v 1) (v 10) oIt) (c (.int 2)) oIt) (acons (s2 (v 0) (c (.int 0)) oIt) (anil))))))) P__law_brought) (acons (v 10) (acons (sA (acons (v 1) (acons (v 10) (anil))) P__law_due) (acons (v 8) (anil))))) mkTup)))) (bnil)) (bseq (biff (tb (s2 (s2 (v 4) (c (.int 0)) oIt) (sA (acons (c (.str "hold")) (acons (c (.str "free")) (anil))) mkTup) (oInG false))) (bseq (bset 11 (im (s2 (lc [18] (i1 (v 8) anyOf) (gn 18) (tb (s2 (s2 (v 18) (c (.int 0)) oIt) (s2 (v 4) (c (.int 1)) oIt) (oEq true))) (v 18)) (ifx (tb (s2 (s2 (v 4) (c (.int 0)) oIt) (c (.str "hold")) (oEq false))) (sA (acons (sl (v 4) (osome (c (.int 1))) (onone)) (anil)) mkLst) (sA (anil) mkLst)) oAddG))) (ret (sA (acons (v 5) (acons (v 6) (acons (v 7) (acons (sA (acons (sA (acons (v 11) (anil)) oSortA) (anil)) oTuple) (anil))))) mkTup))) (bnil)) (bseq (bset 12 (cl (sA (anil) mkLst))) (bseq (bfor (i1 (v 5) anyOf) (gt 4 (gcons (gn 13) (gcons (gn 14) (gcons (gn 15) (gcons (gn 16) (gnil)))))) (drop (sBC "list" 12 (acons (ifx (tb (s2 (s2 (v 15) (c (.int 1)) oAddG) (v 16) (oLtG))) (sA (acons (v 13) (acons (v 14) (acons (s2 (v 15) (c (.int 1)) oAddG) (acons (v 16) (anil))))) mkTup) (sA (acons (v 14) (acons (v 14) (acons (c (.int 0)) (acons (c (.int 0)) (anil))))) mkTup)) (anil)) oAppend))) (frz 12 (bseq (bset 3 (im (sA (acons (sA (acons (v 12) (anil)) oTuple) (acons (v 6) (acons (ifx (tb (s2 (v 7) (c (.int 0)) (oGt))) (s2 (v 7) (c (.int 1)) oSub) (v 7)) (acons (v 8) (anil))))) mkTup))) (ret (ifx (tb (s2 (v 7) (c (.int 1)) (oEq false))) (sA (acons (v 0) (acons (v 1) (acons (v 3) (acons (s2 (v 6) (c (.int 1)) oAddG) (anil))))) P__law_started) (v 3))))))))))))
def P__law_done : List T → Option T := runP 5 19 B__law_done
def B__law_log : Blk := bseq (bpar3 4 5 6 (im (sA (acons (v 0) (anil)) P__law_first)) (im (c (.int 0))) (cl (sA (anil) mkLst))) (bseq (bset 7 (cl (sA (acons (sA (acons (v 0) (acons (v 4) (anil))) P__law_look) (anil)) mkLst))) (bseq (bfor (i1 (v 3) anyOf) (gn 8) (bseq (bset 4 (im (sA (acons (v 0) (acons (v 1) (acons (v 2) (acons (v 4) (acons (v 8) (anil)))))) P__law_done))) (bseq (bset 5 (im (s2 (v 5) (sA (acons (s2 (v 8) (sA (acons (c (.str "wait")) (anil)) mkTup) (oEq false)) (anil)) oInt) oAddG))) (bseq (drop (sBC "list" 7 (acons (sA (acons (v 0) (acons (v 4) (anil))) P__law_look) (anil)) oAppend)) (drop (sBC "list" 6 (acons (sA (acons (v 5) (acons (s2 (v 4) (c (.int 1)) oIt) (acons (ixG 7 (s1 (c (.int 1)) oNeg)) (anil)))) mkTup) (anil)) oAppend)))))) (frz 7 (frz 6 (ret (sA (acons (sA (acons (v 6) (anil)) oTuple) (acons (sA (acons (v 7) (anil)) oTuple) (acons (v 4) (anil)))) mkTup))))))
def P__law_log : List T → Option T := runP 4 9 B__law_log
def B__law_same (d : List T → Option T) : Blk := bseq (biff (tor (tand (tb (s1 (v 1) (oIsT "tuple"))) (tb (s1 (v 0) (oIsT "tuple")))) (tand (tb (s1 (v 1) (oIsT "list"))) (tb (s1 (v 0) (oIsT "list"))))) (ret (vand (s2 (sA (acons (v 0) (anil)) oLen) (sA (acons (v 1) (anil)) oLen) (oEq false)) (sA (acons (lc [2] (iA (acons (sA (acons (v 1) (anil)) oLen) (anil)) rng1) (gn 2) (tyes) (sA (acons (s2 (v 0) (v 2) oIt) (acons (s2 (v 1) (v 2) oIt) (anil))) d)) (anil)) oAll))) (bnil)) (bseq (biff (tor (tb (s1 (v 1) (oIsT "tuple"))) (tor (tb (s1 (v 1) (oIsT "list"))) (tb (s2 (s1 (v 1) (oIsT "bool")) (s1 (v 0) (oIsT "bool")) (oEq true))))) (ret (c (.bl false))) (bnil)) (bseq (biff (tor (tb (s2 (s1 (v 1) (oIsT "int")) (s1 (v 0) (oIsT "int")) (oEq true))) (tb (s2 (s1 (v 1) (oIsT "str")) (s1 (v 0) (oIsT "str")) (oEq true)))) (ret (c (.bl false))) (bnil)) (ret (ifx (tb (s2 (v 1) (c .non) (oIsN false))) (s2 (v 0) (c .non) (oIsN false)) (s2 (v 0) (v 1) (oEq false))))))
def Q__law_same : Nat → List T → Option T
  | 0 => fun _ => none
  | m + 1 => runP 2 3 (B__law_same (Q__law_same m))
def P__law_same : List T → Option T := Q__law_same 9
def B__law_is_word : Blk := ret (vand (s2 (v 0) (c (.str "")) (oEq true)) (sA (acons (lc [1] (i1 (v 0) anyOf) (gn 1) (tyes) (s2 (v 1) (c (.str "abcdefghijklmnopqrstuvwxyz")) (oInG false))) (anil)) oAll))
def P__law_is_word : List T → Option T := runP 1 2 B__law_is_word
def B__law_is_name : Blk := bseq (bset 1 (im (sA (acons (c (.str "all")) (acons (c (.str "back")) (acons (c (.str "black")) (acons (c (.str "cue")) (acons (c (.str "cut")) (acons (c (.str "drop")) (acons (c (.str "edit")) (acons (c (.str "fade")) (acons (c (.str "free")) (acons (c (.str "go")) (acons (c (.str "hold")) (acons (c (.str "in")) (acons (c (.str "jump")) (acons (c (.str "no")) (acons (c (.str "none")) (anil)))))))))))))))) mkLst))) (bseq (bset 1 (im (s2 (v 1) (sA (acons (c (.str "now")) (acons (c (.str "put")) (acons (c (.str "snap")) (acons (c (.str "to")) (acons (c (.str "undo")) (acons (c (.str "wait")) (acons (c (.str "yes")) (acons (c (.str "follow")) (acons (c (.str "whole")) (anil)))))))))) mkLst) oAddG))) (ret (vand (s1 (v 0) (oIsT "str")) (vand (sA (acons (v 0) (anil)) P__law_is_word) (vand (s2 (sA (acons (v 0) (anil)) oLen) (c (.int 9)) (oLtG)) (s2 (v 0) (v 1) (oInG true)))))))
def P__law_is_name : List T → Option T := runP 1 2 B__law_is_name
def B__law_name : Blk := bseq (basg (sA (acons (c (.str "abcdefghijklmnopqrstuvwxyz")) (acons (c (.str "")) (anil))) mkTup) (gt 2 (gcons (gn 2) (gcons (gn 3) (gnil))))) (bseq (bfor (iA (acons (sR 0 (acons (sA (acons (c (.int 1)) (acons (c (.int 1)) (acons (c (.int 1)) (acons (c (.int 2)) (acons (c (.int 3)) (acons (c (.int 8)) (anil))))))) mkTup) (anil)) P__law_pick) (anil)) rng1) (gn 4) (bset 3 (im (s2 (v 3) (sR 0 (acons (v 2) (anil)) P__law_pick) oAddG)))) (bseq (bset 3 (im (ifx (tb (s2 (sR 0 (acons (c (.int 14)) (anil)) P__law_draw) (c (.int 0)) (oEq false))) (sR 0 (acons (sA (acons (c (.str "top")) (acons (c (.str "channels")) (acons (c (.str "jumps")) (acons (c (.str "place")) (acons (c (.str "due")) (acons (c (.str "held")) (anil))))))) mkTup) (anil)) P__law_pick) (v 3)))) (bseq (bset 5 (im (s2 (sA (acons (v 3) (anil)) mkLst) (lc [6] (i1 (v 2) anyOf) (gn 6) (tyes) (s2 (sl (v 3) (onone) (osome (c (.int 7)))) (v 6) oAddG)) oAddG))) (ret (s2 (lc [7] (i1 (v 5) anyOf) (gn 7) (tand (tb (sA (acons (v 7) (anil)) P__law_is_name)) (tb (s2 (v 7) (v 1) (oInG true)))) (v 7)) (c (.int 0)) oIt)))))
def P__law_name : T → List T → Option (T × T) := runR 2 8 B__law_name
def B__law_rig : Blk := bseq (bset 3 (cl (sA (anil) mkLst))) (bseq (bfor (iA (acons (v 1) (anil)) rng1) (gn 4) (drop (sBC "list" 3 (acons (vw 3 (sR 0 (acons (v 3) (anil)) P__law_name)) (anil)) oAppend))) (frz 3 (ret (sA (acons (sA (acons (sA (acons (v 3) (anil)) oSortA) (anil)) oTuple) (acons (v 2) (anil))) mkTup))))
def P__law_rig : T → List T → Option (T × T) := runR 3 5 B__law_rig
def B__law_act : Blk := bseq (bpar2 3 4 (im (sR 0 (acons (c (.int 12)) (anil)) P__law_draw)) (im (lc [6] (i1 (v 2) anyOf) (gn 6) (tyes) (s2 (v 6) (c (.int 0)) oIt)))) (bseq (biff (tb (s2 (v 3) (c (.int 3)) (oLtG))) (ret (sA (acons (c (.str "go")) (anil)) mkTup)) (bnil)) (bseq (biff (tb (s2 (v 3) (c (.int 3)) (oEq false))) (ret (sA (acons (c (.str "back")) (anil)) mkTup)) (bnil)) (bseq (biff (tb (s2 (v 3) (c (.int 6)) (oLtG))) (ret (sA (acons (c (.str "jump")) (acons (ifx (tand (tb (s2 (v 4) (sA (anil) mkLst) (oEq true))) (tb (s2 (sR 0 (acons (c (.int 6)) (anil)) P__law_draw) (c (.int 0)) (oGt)))) (sR 0 (acons (v 4) (anil)) P__law_pick) (s2 (c (.int 1)) (sR 0 (acons (c (.int 999)) (anil)) P__law_draw) oAddG)) (anil))) mkTup)) (bnil)) (bseq (biff (tb (s2 (v 3) (c (.int 10)) (oLtG))) (ret (sA (acons (c (.str "wait")) (anil)) mkTup)) (bnil)) (bseq (bset 5 (im (sR 0 (acons (s2 (v 1) (c (.int 0)) oIt) (anil)) P__law_pick))) (ret (ifx (tb (s2 (sR 0 (acons (c (.int 2)) (anil)) P__law_draw) (c (.int 0)) (oEq false))) (sA (acons (c (.str "hold")) (acons (v 5) (acons (sR 0 (acons (s2 (s2 (v 1) (c (.int 1)) oIt) (c (.int 1)) oAddG) (anil)) P__law_draw) (anil)))) mkTup) (sA (acons (c (.str "free")) (acons (v 5) (anil))) mkTup))))))))
def P__law_act : T → List T → Option (T × T) := runR 3 7 B__law_act
def B__law_tick : Blk := ret (s2 (v 0) (c (.int 0)) oIt)
def P__law_tick : List T → Option T := runP 1 1 B__law_tick
def B__law_clock : Blk := bseq (bpar2 5 6 (cl (sA (anil) mkLst)) (im (c (.int 0)))) (bseq (bfor (iA (acons (v 3) (anil)) rng1) (gn 7) (bseq (bset 8 (im (sR 0 (acons (v 1) (acons (v 2) (anil))) P__law_act))) (bseq (bset 6 (im (sA (acons (v 4) (acons (s2 (v 6) (sR 0 (acons (sA (acons (c (.int 0)) (acons (c (.int 0)) (acons (c (.int 1)) (acons (c (.int 2)) (acons (c (.int 5)) (anil)))))) mkTup) (anil)) P__law_pick) oAddG) (anil))) oMin2))) (biff (tb (s2 (v 8) (sA (acons (c (.str "wait")) (anil)) mkTup) (oEq true))) (drop (sBC "list" 5 (acons (sA (acons (v 6) (acons (v 8) (anil))) mkTup) (anil)) oAppend)) (bnil))))) (frz 5 (ret (sl (sA (acons (s1 (v 5) (oSortK P__law_tick)) (anil)) oTuple) (onone) (osome (c (.int 60)))))))
def P__law_clock : T → List T → Option (T × T) := runR 5 9 B__law_clock
def B_are_letters : Blk := ret (vand (s1 (v 0) (oIsT "str")) (vand (s2 (v 0) (c (.str "")) (oEq true)) (sA (acons (lc [1] (i1 (v 0) anyOf) (gn 1) (tyes) (s2 (v 1) (c t_LETTERS) (oInG false))) (anil)) oAll)))
def P_are_letters : List T → Option T := runP 1 2 B_are_letters
def B_is_name : Blk := ret (vand (sA (acons (v 0) (anil)) P_are_letters) (vand (s2 (sA (acons (v 0) (anil)) oLen) (c t_LONGEST) (oLeG)) (s1 (v 0) (oInK true k_WORDS))))
def P_is_name : List T → Option T := runP 1 1 B_is_name
def B_first_wrong_name : Blk := bseq (bfor (iA (acons (v 0) (anil)) enmA) (gt 2 (gcons (gn 1) (gcons (gn 2) (gnil)))) (biff (tor (tnot (tb (sA (acons (v 2) (anil)) P_is_name))) (tand (tb (s2 (v 1) (c (.int 0)) (oGt))) (tb (s2 (v 2) (s2 (v 0) (s2 (v 1) (c (.int 1)) oSub) oIt) (oLeG))))) (ret (v 1)) (bnil))) (ret (c .non))
def P_first_wrong_name : List T → Option T := runP 1 3 B_first_wrong_name
def B_need_channels : Blk := bseq (biff (tor (tnot (tb (s1 (v 0) (oIsT "tuple")))) (tb (s2 (sA (acons (v 0) (anil)) oLen) (c (.int 0)) (oEq false)))) (bno) (bnil)) (bseq (bset 1 (im (sA (acons (sl (v 0) (onone) (osome (c t_MOST_CHANNELS))) (anil)) P_first_wrong_name))) (bseq (biff (tb (s2 (v 1) (c .non) (oIsN true))) (bno) (bnil)) (biff (tb (s2 (sA (acons (v 0) (anil)) oLen) (c t_MOST_CHANNELS) (oGt))) (bno) (bnil))))
def P_need_channels : List T → Option T := runP 1 2 B_need_channels
def B_is_whole : Blk := ret (vand (s1 (v 0) (oIsT "int")) (vnot (s1 (v 0) (oIsT "bool"))))
def P_is_whole : List T → Option T := runP 1 1 B_is_whole
def B_is_number : Blk := ret (vand (sA (acons (v 0) (anil)) P_is_whole) (chn (v 1) (v 0) (v 2) oLeG oLeG))
def P_is_number : List T → Option T := runP 3 3 B_is_number
def B_need_number : Blk := biff (tnot (tb (sA (acons (v 0) (acons (v 1) (acons (v 2) (anil)))) P_is_number))) (bno) (bnil)
def P_need_number : List T → Option T := runP 3 3 B_need_number
def B_Rig___init__ : Blk := bseq (drop (sA (acons (v 1) (anil)) P_need_channels)) (bseq (drop (sA (acons (v 2) (acons (c t_LEAST_TOP) (acons (c t_MOST_TOP) (anil)))) P_need_number)) (bseq (bput 0 "Rig" "channels" (v 1)) (bseq (bput 0 "Rig" "top" (v 2)) (bput 0 "Rig" "parts" (sA (acons (v 1) (acons (v 2) (anil))) mkTup)))))
def P_Rig___init__ : T → List T → Option (T × T) := runR 3 3 B_Rig___init__
def B_need_rig : Blk := biff (tnot (tb (s1 (v 0) (oIsO b_Rig c_Rig)))) (bno) (bnil)
def P_need_rig : List T → Option T := runP 1 1 B_need_rig
def B_is_follow : Blk := ret (vor (s2 (v 0) (c .non) (oIsN false)) (sA (acons (v 0) (acons (c t_LEAST_FOLLOW) (acons (c t_MOST_FOLLOW) (anil)))) P_is_number))
def P_is_follow : List T → Option T := runP 1 1 B_is_follow
def B_is_truth : Blk := ret (s1 (v 0) (oIsT "bool"))
def P_is_truth : List T → Option T := runP 1 1 B_is_truth
def B_is_cue_number : Blk := ret (sA (acons (v 0) (acons (c t_LEAST_NUMBER) (acons (c t_MOST_NUMBER_cueforms) (anil)))) P_is_number)
def P_is_cue_number : List T → Option T := runP 1 1 B_is_cue_number
def B_is_known : Blk := ret (vand (s1 (v 0) (oIsT "str")) (s2 (v 0) (v 1) (oInG false)))
def P_is_known : List T → Option T := runP 2 2 B_is_known
def B_is_level : Blk := ret (sA (acons (v 1) (acons (c (.int 0)) (acons (s1 (v 0) (fld "Rig" "top")) (anil)))) P_is_number)
def P_is_level : List T → Option T := runP 2 2 B_is_level
def B_is_move : Blk := bseq (biff (tor (tnot (tb (s1 (v 1) (oIsT "tuple")))) (tb (s2 (sA (acons (v 1) (anil)) oLen) (c (.int 2)) (oEq true)))) (ret (c (.bl false))) (bnil)) (ret (vand (sA (acons (s2 (v 1) (c (.int 0)) oIt) (acons (s1 (v 0) (fld "Rig" "channels")) (anil))) P_is_known) (sA (acons (v 0) (acons (s2 (v 1) (c (.int 1)) oIt) (anil))) P_is_level)))
def P_is_move : List T → Option T := runP 2 2 B_is_move
def B_are_moves : Blk := bseq (biff (tor (tnot (tb (s1 (v 1) (oIsT "tuple")))) (tnot (tb (sA (acons (lc [2] (i1 (v 1) anyOf) (gn 2) (tyes) (sA (acons (v 0) (acons (v 2) (anil))) P_is_move)) (anil)) oAll)))) (ret (c (.bl false))) (bnil)) (ret (sA (acons (lc [3] (iA (acons (c (.int 1)) (acons (sA (acons (v 1) (anil)) oLen) (anil))) rng2) (gn 3) (tyes) (s2 (s2 (s2 (v 1) (s2 (v 3) (c (.int 1)) oSub) oIt) (c (.int 0)) oIt) (s2 (s2 (v 1) (v 3) oIt) (c (.int 0)) oIt) (oLtG))) (anil)) oAll))
def P_are_moves : List T → Option T := runP 2 4 B_are_moves
def B_is_cue : Blk := bseq (biff (tor (tnot (tb (s1 (v 1) (oIsT "tuple")))) (tb (s2 (sA (acons (v 1) (anil)) oLen) (c t_PARTS) (oEq true)))) (ret (c (.bl false))) (bnil)) (bseq (biff (tor (tnot (tb (sA (acons (s2 (v 1) (c (.int 0)) oIt) (anil)) P_is_cue_number))) (tnot (tb (sA (acons (v 0) (acons (s2 (v 1) (c (.int 1)) oIt) (anil))) P_are_moves)))) (ret (c (.bl false))) (bnil)) (ret (vand (sA (acons (s2 (v 1) (c (.int 2)) oIt) (acons (c (.int 0)) (acons (c t_MOST_FADE) (anil)))) P_is_number) (vand (sA (acons (s2 (v 1) (c (.int 3)) oIt) (anil)) P_is_follow) (sA (acons (s2 (v 1) (c (.int 4)) oIt) (anil)) P_is_truth)))))
def P_is_cue : List T → Option T := runP 2 2 B_is_cue
def B_first_wrong_cue : Blk := bseq (bfor (iA (acons (v 1) (anil)) enmA) (gt 2 (gcons (gn 2) (gcons (gn 3) (gnil)))) (bseq (biff (tor (tb (s2 (v 2) (c t_MOST_CUES) (oEq false))) (tnot (tb (sA (acons (v 0) (acons (v 3) (anil))) P_is_cue)))) (ret (v 2)) (bnil)) (biff (tand (tb (s2 (v 2) (c (.int 0)) (oGt))) (tb (s2 (s2 (v 3) (c (.int 0)) oIt) (s2 (s2 (v 1) (s2 (v 2) (c (.int 1)) oSub) oIt) (c (.int 0)) oIt) (oLeG)))) (ret (v 2)) (bnil)))) (ret (c .non))
def P_first_wrong_cue : List T → Option T := runP 2 4 B_first_wrong_cue
def B_need_cues : Blk := bseq (biff (tnot (tb (s1 (v 1) (oIsT "tuple")))) (bno) (bnil)) (bseq (bset 2 (im (sA (acons (v 0) (acons (v 1) (anil))) P_first_wrong_cue))) (biff (tb (s2 (v 2) (c .non) (oIsN true))) (bno) (bnil)))
def P_need_cues : List T → Option T := runP 2 3 B_need_cues
def B_meaning_behind : Blk := bseq (bset 3 (im (dc [4, 5] (i1 (s2 (v 2) (c (.int 1)) oIt) anyOf) (gt 2 (gcons (gn 4) (gcons (gn 5) (gnil)))) (tyes) (v 4) (v 5)))) (ret (sA (acons (lc [4, 5] (iA (acons (s1 (v 0) (fld "Rig" "channels")) (acons (v 1) (anil))) zpA) (gt 2 (gcons (gn 4) (gcons (gn 5) (gnil)))) (tyes) (sG (v 3) (v 4) (v 5))) (anil)) oTuple))
def P_meaning_behind : List T → Option T := runP 3 6 B_meaning_behind
def B_meanings : Blk := bseq (bset 2 (cl (sA (acons (s2 (sA (acons (c (.int 0)) (anil)) mkTup) (sA (acons (s1 (v 0) (fld "Rig" "channels")) (anil)) oLen) oMulG) (anil)) mkLst))) (bseq (bfor (i1 (v 1) anyOf) (gn 3) (drop (sBC "list" 2 (acons (sA (acons (v 0) (acons (ixG 2 (s1 (c (.int 1)) oNeg)) (acons (v 3) (anil)))) P_meaning_behind) (anil)) oAppend))) (frz 2 (ret (sA (acons (v 2) (anil)) oTuple))))
def P_meanings : List T → Option T := runP 2 4 B_meanings
def B_CueList___init__ : Blk := bseq (drop (sA (acons (v 1) (anil)) P_need_rig)) (bseq (drop (sA (acons (v 1) (acons (v 2) (anil))) P_need_cues)) (bseq (bput 0 "CueList" "rig" (v 1)) (bseq (bput 0 "CueList" "cues" (v 2)) (bseq (bput 0 "CueList" "parts" (sA (acons (s1 (v 1) (fld "Rig" "parts")) (acons (v 2) (anil))) mkTup)) (bseq (bput 0 "CueList" "means" (sA (acons (v 1) (acons (v 2) (anil))) P_meanings)) (bput 0 "CueList" "places" (dc [3, 4] (iA (acons (v 2) (anil)) enmA) (gt 2 (gcons (gn 3) (gcons (gn 4) (gnil)))) (tyes) (s2 (v 4) (c (.int 0)) oIt) (v 3))))))))
def P_CueList___init__ : T → List T → Option (T × T) := runR 3 5 B_CueList___init__
def B_need_list : Blk := biff (tnot (tb (s1 (v 0) (oIsO b_CueList c_CueList)))) (bno) (bnil)
def P_need_list : List T → Option T := runP 1 1 B_need_list
def B_need_back : Blk := drop (sA (acons (v 0) (acons (c (.int 0)) (acons (c t_MOST_BACK) (anil)))) P_need_number)
def P_need_back : List T → Option T := runP 1 1 B_need_back
def B_has_act_size : Blk := bseq (biff (tor (tnot (tb (s1 (v 0) (oIsT "tuple")))) (tor (tb (s2 (sA (acons (v 0) (anil)) oLen) (c (.int 0)) (oEq false))) (tnot (tb (s1 (s2 (v 0) (c (.int 0)) oIt) (oIsT "str")))))) (ret (c (.bl false))) (bnil)) (ret (vand (s1 (s2 (v 0) (c (.int 0)) oIt) (oInK false k_SIZES)) (s2 (sA (acons (v 0) (anil)) oLen) (s1 (s2 (v 0) (c (.int 0)) oIt) (oItK k_SIZES)) (oEq false))))
def P_has_act_size : List T → Option T := runP 1 1 B_has_act_size
def B_is_act : Blk := bseq (biff (tnot (tb (sA (acons (v 1) (anil)) P_has_act_size))) (ret (c (.bl false))) (bnil)) (bseq (biff (tb (s2 (s2 (v 1) (c (.int 0)) oIt) (c (.str "jump")) (oEq false))) (ret (sA (acons (s2 (v 1) (c (.int 1)) oIt) (acons (c (.int 1)) (acons (c t_MOST_NUMBER_acts) (anil)))) P_is_number)) (bnil)) (bseq (biff (tb (s2 (s2 (v 1) (c (.int 0)) oIt) (c (.str "free")) (oEq false))) (ret (sA (acons (s2 (v 1) (c (.int 1)) oIt) (acons (s1 (v 0) (fld "Rig" "channels")) (anil))) P_is_known)) (bnil)) (bseq (biff (tb (s2 (s2 (v 1) (c (.int 0)) oIt) (c (.str "hold")) (oEq false))) (ret (vand (sA (acons (s2 (v 1) (c (.int 1)) oIt) (acons (s1 (v 0) (fld "Rig" "channels")) (anil))) P_is_known) (sA (acons (s2 (v 1) (c (.int 2)) oIt) (acons (c (.int 0)) (acons (s1 (v 0) (fld "Rig" "top")) (anil)))) P_is_number))) (bnil)) (ret (c (.bl true))))))
def P_is_act : List T → Option T := runP 2 2 B_is_act
def B_first_wrong_act : Blk := bseq (bfor (iA (acons (v 1) (anil)) enmA) (gt 2 (gcons (gn 2) (gcons (gn 3) (gnil)))) (biff (tor (tb (s2 (v 2) (c t_MOST_ACTS) (oEq false))) (tnot (tb (sA (acons (v 0) (acons (v 3) (anil))) P_is_act)))) (ret (v 2)) (bnil))) (ret (c .non))
def P_first_wrong_act : List T → Option T := runP 2 4 B_first_wrong_act
def B_need_acts : Blk := bseq (biff (tnot (tb (s1 (v 1) (oIsT "tuple")))) (bno) (bnil)) (bseq (bset 2 (im (sA (acons (v 0) (acons (v 1) (anil))) P_first_wrong_act))) (biff (tb (s2 (v 2) (c .non) (oIsN true))) (bno) (bnil)))
def P_need_acts : List T → Option T := runP 2 3 B_need_acts
def B_need_acted : Blk := bseq (drop (sA (acons (v 0) (anil)) P_need_list)) (bseq (drop (sA (acons (v 1) (anil)) P_need_back)) (drop (sA (acons (s1 (v 0) (fld "CueList" "rig")) (acons (v 2) (anil))) P_need_acts)))
def P_need_acted : List T → Option T := runP 3 3 B_need_acted
def B_Score_senders_of : Blk := bseq (biff (tb (s2 (v 1) (c (.int 4)) oIt)) (ret (fldC 0 "Score" "everybody")) (bnil)) (bseq (bset 2 (im (dc [3, 4] (i1 (s2 (v 1) (c (.int 1)) oIt) anyOf) (gt 2 (gcons (gn 3) (gcons (gn 4) (gnil)))) (tyes) (v 3) (c (.bl true))))) (ret (dc [5, 3] (iA (acons (fldC 0 "Score" "channels") (anil)) enmA) (gt 2 (gcons (gn 5) (gcons (gn 3) (gnil)))) (tb (s2 (v 3) (v 2) (oInG false))) (v 5) (c (.bl true)))))
def P_Score_senders_of : T → List T → Option (T × T) := runR 2 6 B_Score_senders_of
def B_Score___init__ : Blk := bseq (bput 0 "Score" "cues" (v 1)) (bseq (bput 0 "Score" "back" (v 2)) (bseq (bput 0 "Score" "rows" (s1 (v 1) (fld "CueList" "cues"))) (bseq (bput 0 "Score" "channels" (s1 (s1 (v 1) (fld "CueList" "rig")) (fld "Rig" "channels"))) (bseq (bput 0 "Score" "means" (s1 (v 1) (fld "CueList" "means"))) (bseq (bput 0 "Score" "places" (s1 (v 1) (fld "CueList" "places"))) (bseq (bput 0 "Score" "everybody" (dc [3] (iA (acons (sA (acons (fldC 0 "Score" "channels") (anil)) oLen) (anil)) rng1) (gn 3) (tyes) (v 3) (c (.bl true)))) (bput 0 "Score" "senders" (lc [4] (i1 (fldC 0 "Score" "rows") anyOf) (gn 4) (tyes) (sMR 0 "Score" "senders_of" (acons (v 4) (anil)) P_Score_senders_of)))))))))
def P_Score___init__ : T → List T → Option (T × T) := runR 3 5 B_Score___init__
def B_Score_first : Blk := ret (sA (acons (s2 (sA (acons (c t_STILL) (anil)) mkTup) (sA (acons (s1 (v 0) (fld "Score" "channels")) (anil)) oLen) oMulG) (acons (s1 (c (.int 1)) oNeg) (acons (c t_NEVER) (acons (sA (anil) mkTup) (anil))))) mkTup)
def P_Score_first : List T → Option T := runP 1 1 B_Score_first
def B_Score_follow_of : Blk := bseq (bset 2 (im (s2 (s2 (s1 (v 0) (fld "Score" "rows")) (v 1) oIt) (c (.int 3)) oIt))) (ret (ifx (tor (tb (s2 (v 2) (c .non) (oIsN false))) (tb (s2 (s2 (v 1) (c (.int 1)) oAddG) (sA (acons (s1 (v 0) (fld "Score" "rows")) (anil)) oLen) (oEq false)))) (c t_NEVER) (v 2)))
def P_Score_follow_of : List T → Option T := runP 2 3 B_Score_follow_of
def B_Score_starting : Blk := ret (sA (acons (v 1) (acons (sM "Score" "follow_of" (v 0) (acons (v 1) (anil)) P_Score_follow_of) (acons (sA (acons (s2 (s1 (v 0) (fld "Score" "senders")) (v 1) oIt) (acons (s2 (s2 (s1 (v 0) (fld "Score" "rows")) (v 1) oIt) (c (.int 2)) oIt) (anil))) mkTup) (anil)))) mkTup)
def P_Score_starting : List T → Option T := runP 2 2 B_Score_starting
def B_Score_passing : Blk := bseq (biff (tb (s2 (v 2) (c (.int 1)) (oEq false))) (ret (sM "Score" "starting" (v 0) (acons (s2 (v 1) (c (.int 1)) oAddG) (anil)) P_Score_starting)) (bnil)) (ret (sA (acons (v 1) (acons (ifx (tb (s2 (v 2) (c (.int 1)) (oGt))) (s2 (v 2) (c (.int 1)) oSub) (v 2)) (acons (c t_NOBODY) (anil)))) mkTup))
def P_Score_passing : List T → Option T := runP 3 3 B_Score_passing
def B_Score_jumping : Blk := bseq (biff (tb (s2 (v 3) (s1 (v 0) (fld "Score" "places")) (oInG true))) (ret (sA (acons (v 1) (acons (v 2) (acons (c t_NOBODY) (anil)))) mkTup)) (bnil)) (bseq (bset 4 (im (s2 (s1 (v 0) (fld "Score" "places")) (v 3) oIt))) (ret (sA (acons (v 4) (acons (sM "Score" "follow_of" (v 0) (acons (v 4) (anil)) P_Score_follow_of) (acons (sA (acons (s1 (v 0) (fld "Score" "everybody")) (acons (s2 (s2 (s1 (v 0) (fld "Score" "rows")) (v 4) oIt) (c (.int 2)) oIt) (anil))) mkTup) (anil)))) mkTup)))
def P_Score_jumping : List T → Option T := runP 4 5 B_Score_jumping
def B_Score_moved : Blk := bseq (bset 4 (im (s2 (v 3) (c (.int 0)) oIt))) (bseq (biff (tb (s2 (v 4) (c (.str "wait")) (oEq false))) (ret (sM "Score" "passing" (v 0) (acons (v 1) (acons (v 2) (anil))) P_Score_passing)) (bnil)) (bseq (biff (tb (s2 (v 4) (c (.str "jump")) (oEq false))) (ret (sM "Score" "jumping" (v 0) (acons (v 1) (acons (v 2) (acons (s2 (v 3) (c (.int 1)) oIt) (anil)))) P_Score_jumping)) (bnil)) (bseq (biff (tand (tb (s2 (v 4) (c (.str "go")) (oEq false))) (tb (s2 (s2 (v 1) (c (.int 1)) oAddG) (sA (acons (s1 (v 0) (fld "Score" "rows")) (anil)) oLen) (oLtG)))) (ret (sM "Score" "starting" (v 0) (acons (s2 (v 1) (c (.int 1)) oAddG) (anil)) P_Score_starting)) (bnil)) (bseq (biff (tand (tb (s2 (v 4) (c (.str "back")) (oEq false))) (tb (s2 (v 1) (c (.int 0)) (oGe)))) (ret (sA (acons (s2 (v 1) (c (.int 1)) oSub) (acons (c t_NEVER) (acons (sA (acons (s1 (v 0) (fld "Score" "everybody")) (acons (s1 (v 0) (fld "Score" "back")) (anil))) mkTup) (anil)))) mkTup)) (bnil)) (ret (sA (acons (v 1) (acons (v 2) (acons (c t_NOBODY) (anil)))) mkTup))))))
def P_Score_moved : List T → Option T := runP 4 5 B_Score_moved
def B_held_behind : Blk := bseq (bset 2 (cl (dc [3, 4] (i1 (v 0) anyOf) (gt 2 (gcons (gn 3) (gcons (gn 4) (gnil)))) (tb (s2 (v 3) (s2 (v 1) (c (.int 1)) oIt) (oEq true))) (v 3) (v 4)))) (bseq (biff (tb (s2 (s2 (v 1) (c (.int 0)) oIt) (c (.str "hold")) (oEq false))) (bsub 2 (s2 (v 1) (c (.int 1)) oIt) (s2 (v 1) (c (.int 2)) oIt)) (bnil)) (frz 2 (ret (sA (acons (lc [3] (i1 (sA (acons (sA (acons (v 2) (anil)) oListG) (anil)) oSortA) anyOf) (gn 3) (tyes) (sA (acons (v 3) (acons (s2 (v 2) (v 3) oIt) (anil))) mkTup)) (anil)) oTuple))))
def P_held_behind : List T → Option T := runP 2 5 B_held_behind
def B_resting : Blk := ret (sA (acons (v 0) (acons (v 0) (acons (c (.int 0)) (acons (c (.int 0)) (anil))))) mkTup)
def P_resting : List T → Option T := runP 1 1 B_resting
def B_ticked : Blk := bseq (basg (v 0) (gt 4 (gcons (gn 1) (gcons (gn 2) (gcons (gn 3) (gcons (gn 4) (gnil))))))) (bseq (biff (tb (s2 (v 3) (v 4) (oGe))) (ret (v 0)) (bnil)) (ret (ifx (tb (s2 (s2 (v 3) (c (.int 1)) oAddG) (v 4) (oLtG))) (sA (acons (v 1) (acons (v 2) (acons (s2 (v 3) (c (.int 1)) oAddG) (acons (v 4) (anil))))) mkTup) (sA (acons (v 2) (anil)) P_resting))))
def P_ticked : List T → Option T := runP 1 5 B_ticked
def B_level_of : Blk := bseq (basg (v 0) (gt 4 (gcons (gn 1) (gcons (gn 2) (gcons (gn 3) (gcons (gn 4) (gnil))))))) (ret (ifx (tb (s2 (v 3) (v 4) (oLtG))) (s2 (v 1) (s2 (s2 (s2 (v 2) (v 1) oSub) (v 3) oMulG) (v 4) oDiv) oAddG) (v 2)))
def P_level_of : List T → Option T := runP 1 5 B_level_of
def B_sent : Blk := bseq (biff (tb (s2 (s2 (v 0) (c (.int 1)) oIt) (v 1) (oEq false))) (ret (v 0)) (bnil)) (bseq (bset 3 (im (sA (acons (v 0) (anil)) P_level_of))) (ret (ifx (tor (tb (s2 (v 2) (c (.int 0)) (oEq false))) (tb (s2 (v 3) (v 1) (oEq false)))) (sA (acons (v 1) (anil)) P_resting) (sA (acons (v 3) (acons (v 1) (acons (c (.int 0)) (acons (v 2) (anil))))) mkTup))))
def P_sent : List T → Option T := runP 3 4 B_sent
def B_Score_run_behind : Blk := bseq (bset 6 (im (ifx (tb (s2 (s2 (v 3) (c (.int 0)) oIt) (c (.str "wait")) (oEq false))) (sA (acons (v 2) (anil)) P_ticked) (v 2)))) (bseq (basg (v 5) (gt 2 (gcons (gn 7) (gcons (gn 8) (gnil))))) (ret (ifx (tb (s2 (v 1) (v 7) (oInG false))) (sA (acons (v 6) (acons (s2 (s2 (s1 (v 0) (fld "Score" "means")) (s2 (v 4) (c (.int 1)) oAddG) oIt) (v 1) oIt) (acons (v 8) (anil)))) P_sent) (v 6))))
def P_Score_run_behind : List T → Option T := runP 6 9 B_Score_run_behind
def B_Score_behind : Blk := bseq (basg (v 1) (gt 4 (gcons (gn 3) (gcons (gn 4) (gcons (gn 5) (gcons (gn 6) (gnil))))))) (bseq (biff (tb (s2 (s2 (v 2) (c (.int 0)) oIt) (sA (acons (c (.str "hold")) (acons (c (.str "free")) (anil))) mkTup) (oInG false))) (ret (sA (acons (v 3) (acons (v 4) (acons (v 5) (acons (sA (acons (v 6) (acons (v 2) (anil))) P_held_behind) (anil))))) mkTup)) (bnil)) (bseq (basg (sM "Score" "moved" (v 0) (acons (v 4) (acons (v 5) (acons (v 2) (anil)))) P_Score_moved) (gt 3 (gcons (gn 4) (gcons (gn 5) (gcons (gn 7) (gnil)))))) (ret (sA (acons (sA (acons (lc [8, 9] (iA (acons (v 3) (anil)) enmA) (gt 2 (gcons (gn 8) (gcons (gn 9) (gnil)))) (tyes) (sM "Score" "run_behind" (v 0) (acons (v 8) (acons (v 9) (acons (v 2) (acons (v 4) (acons (v 7) (anil)))))) P_Score_run_behind)) (anil)) oTuple) (acons (v 4) (acons (v 5) (acons (v 6) (anil))))) mkTup))))
def P_Score_behind : List T → Option T := runP 3 10 B_Score_behind
def B_Score_stages : Blk := bseq (bset 2 (cl (sA (acons (sM "Score" "first" (v 0) anil P_Score_first) (anil)) mkLst))) (bseq (bfor (i1 (v 1) anyOf) (gn 3) (drop (sBC "list" 2 (acons (sM "Score" "behind" (v 0) (acons (ixG 2 (s1 (c (.int 1)) oNeg)) (acons (v 3) (anil))) P_Score_behind) (anil)) oAppend))) (frz 2 (ret (v 2))))
def P_Score_stages : List T → Option T := runP 2 4 B_Score_stages
def B_Score_look : Blk := bseq (bset 2 (im (dc [3, 4] (i1 (s2 (v 1) (c (.int 3)) oIt) anyOf) (gt 2 (gcons (gn 3) (gcons (gn 4) (gnil)))) (tyes) (v 3) (v 4)))) (ret (sA (acons (lc [3, 5] (iA (acons (s1 (v 0) (fld "Score" "channels")) (acons (s2 (v 1) (c (.int 0)) oIt) (anil))) zpA) (gt 2 (gcons (gn 3) (gcons (gn 5) (gnil)))) (tyes) (sG (v 2) (v 3) (sA (acons (v 5) (anil)) P_level_of))) (anil)) oTuple))
def P_Score_look : List T → Option T := runP 2 6 B_Score_look
def B_log_of : Blk := bseq (bpar3 3 4 5 (im (mk "Score" (acons (v 0) (acons (v 1) (anil))) P_Score___init__)) (cl (sA (anil) mkLst)) (im (c (.int 0)))) (bseq (bfor (iA (acons (v 2) (acons (sl (sM "Score" "stages" (v 3) (acons (v 2) (anil)) P_Score_stages) (osome (c (.int 1))) (onone)) (anil))) zpA) (gt 2 (gcons (gn 6) (gcons (gn 7) (gnil)))) (bseq (bset 5 (im (ifx (tb (s2 (v 6) (c t_WAIT) (oEq false))) (s2 (v 5) (c (.int 1)) oAddG) (v 5)))) (drop (sBC "list" 4 (acons (sA (acons (v 5) (acons (s2 (v 7) (c (.int 1)) oIt) (acons (sM "Score" "look" (v 3) (acons (v 7) (anil)) P_Score_look) (anil)))) mkTup) (anil)) oAppend)))) (frz 4 (ret (sA (acons (v 4) (anil)) oTuple))))
def P_log_of : List T → Option T := runP 3 8 B_log_of
def B_log : Blk := bseq (drop (sA (acons (v 0) (acons (v 1) (acons (v 2) (anil)))) P_need_acted)) (ret (sA (acons (v 0) (acons (v 1) (acons (v 2) (anil)))) P_log_of))
def P_log : List T → Option T := runP 3 3 B_log
def B_looks_of : Blk := bseq (bset 3 (im (mk "Score" (acons (v 0) (acons (v 1) (anil))) P_Score___init__))) (ret (sA (acons (lc [4] (i1 (sM "Score" "stages" (v 3) (acons (v 2) (anil)) P_Score_stages) anyOf) (gn 4) (tyes) (sM "Score" "look" (v 3) (acons (v 4) (anil)) P_Score_look)) (anil)) oTuple))
def P_looks_of : List T → Option T := runP 3 5 B_looks_of
def B_looks : Blk := bseq (drop (sA (acons (v 0) (acons (v 1) (acons (v 2) (anil)))) P_need_acted)) (ret (sA (acons (v 0) (acons (v 1) (acons (v 2) (anil)))) P_looks_of))
def P_looks : List T → Option T := runP 3 3 B_looks
def B_stage_behind : Blk := bseq (drop (sA (acons (v 0) (acons (v 1) (acons (v 2) (anil)))) P_need_acted)) (ret (s2 (sM "Score" "stages" (mk "Score" (acons (v 0) (acons (v 1) (anil))) P_Score___init__) (acons (v 2) (anil)) P_Score_stages) (s1 (c (.int 1)) oNeg) oIt))
def P_stage_behind : List T → Option T := runP 3 3 B_stage_behind
def B_rests : Blk := ret (s2 (s2 (v 0) (c (.int 2)) oIt) (s2 (v 0) (c (.int 3)) oIt) (oGe))
def P_rests : List T → Option T := runP 1 1 B_rests
def B_stage_rests : Blk := ret (vand (sA (acons (lc [1] (i1 (s2 (v 0) (c (.int 0)) oIt) anyOf) (gn 1) (tyes) (sA (acons (v 1) (anil)) P_rests)) (anil)) oAll) (s2 (s2 (v 0) (c (.int 2)) oIt) (c t_NEVER) (oEq false)))
def P_stage_rests : List T → Option T := runP 1 2 B_stage_rests
def B_waits_of : Blk := bseq (bpar2 2 3 (im (v 1)) (im (c (.int 0)))) (bseq (wloop (tnot (tb (sA (acons (v 2) (anil)) P_stage_rests))) (bpar2 2 3 (im (sM "Score" "behind" (v 0) (acons (v 2) (acons (c t_WAIT) (anil))) P_Score_behind)) (im (s2 (v 3) (c (.int 1)) oAddG))) W_waits_of) (ret (v 3)))
def P_waits_of : List T → Option T := runP 2 4 B_waits_of
def B_settles : Blk := bseq (drop (sA (acons (v 0) (acons (v 1) (acons (v 2) (anil)))) P_need_acted)) (bseq (bset 3 (im (mk "Score" (acons (v 0) (acons (v 1) (anil))) P_Score___init__))) (ret (sA (acons (v 3) (acons (s2 (sM "Score" "stages" (v 3) (acons (v 2) (anil)) P_Score_stages) (s1 (c (.int 1)) oNeg) oIt) (anil))) P_waits_of)))
def P_settles : List T → Option T := runP 3 4 B_settles
def B__law_settles : Blk := bseq (bfor (iA (acons (c (.int 200)) (anil)) rng1) (gn 4) (bseq (biff (tand (tb (s2 (s2 (v 3) (c (.int 2)) oIt) (s1 (c (.int 1)) oNeg) (oEq false))) (tnot (tb (sA (acons (lc [5, 6, 7, 8] (i1 (s2 (v 3) (c (.int 0)) oIt) anyOf) (gt 4 (gcons (gn 5) (gcons (gn 6) (gcons (gn 7) (gcons (gn 8) (gnil)))))) (tyes) (s2 (v 7) (v 8) (oLtG))) (anil)) oAny)))) (ret (v 4)) (bnil)) (bset 3 (im (sA (acons (v 0) (acons (v 1) (acons (v 2) (acons (v 3) (acons (sA (acons (c (.str "wait")) (anil)) mkTup) (anil)))))) P__law_done))))) (ret (s1 (c (.int 1)) oNeg))
def P__law_settles : List T → Option T := runP 4 9 B__law_settles
def B_is_time : Blk := bseq (biff (tor (tnot (tb (s1 (v 1) (oIsT "tuple")))) (tb (s2 (sA (acons (v 1) (anil)) oLen) (c (.int 2)) (oEq true)))) (ret (c (.bl false))) (bnil)) (ret (vand (sA (acons (s2 (v 1) (c (.int 0)) oIt) (acons (c (.int 0)) (acons (c t_LAST_TICK) (anil)))) P_is_number) (vand (sA (acons (v 0) (acons (s2 (v 1) (c (.int 1)) oIt) (anil))) P_is_act) (s2 (s2 (v 1) (c (.int 1)) oIt) (c t_WAIT) (oEq true)))))
def P_is_time : List T → Option T := runP 2 2 B_is_time
def B_first_wrong_time : Blk := bseq (bfor (iA (acons (v 1) (anil)) enmA) (gt 2 (gcons (gn 2) (gcons (gn 3) (gnil)))) (bseq (biff (tor (tb (s2 (v 2) (c t_MOST_TIMES) (oEq false))) (tnot (tb (sA (acons (v 0) (acons (v 3) (anil))) P_is_time)))) (ret (v 2)) (bnil)) (biff (tand (tb (s2 (v 2) (c (.int 0)) (oGt))) (tb (s2 (s2 (v 3) (c (.int 0)) oIt) (s2 (s2 (v 1) (s2 (v 2) (c (.int 1)) oSub) oIt) (c (.int 0)) oIt) (oLtG)))) (ret (v 2)) (bnil)))) (ret (c .non))
def P_first_wrong_time : List T → Option T := runP 2 4 B_first_wrong_time
def B_need_clock : Blk := bseq (biff (tnot (tb (s1 (v 1) (oIsT "tuple")))) (bno) (bnil)) (bseq (bset 2 (im (sA (acons (v 0) (acons (v 1) (anil))) P_first_wrong_time))) (biff (tb (s2 (v 2) (c .non) (oIsN true))) (bno) (bnil)))
def P_need_clock : List T → Option T := runP 2 3 B_need_clock
def B_acts_at : Blk := retC (lc [2, 3] (i1 (v 0) anyOf) (gt 2 (gcons (gn 2) (gcons (gn 3) (gnil)))) (tb (s2 (v 2) (v 1) (oEq false))) (v 3))
def P_acts_at : List T → Option T := runN 2 4 B_acts_at
def B_woven_acts : Blk := bseq (bpar2 2 3 (cl (sA (acons (v 0) (acons (c (.int 0)) (anil))) P_acts_at)) (im (c (.int 0)))) (bseq (bfor (i1 (v 1) anyOf) (gn 4) (bseq (drop (sBC "list" 2 (acons (v 4) (anil)) oAppend)) (biff (tb (s2 (v 4) (c t_WAIT) (oEq false))) (bseq (bset 3 (im (s2 (v 3) (c (.int 1)) oAddG))) (drop (sBC "list" 2 (acons (sA (acons (v 0) (acons (v 3) (anil))) P_acts_at) (anil)) oExtend))) (bnil)))) (frz 2 (ret (sA (acons (v 2) (anil)) oTuple))))
def P_woven_acts : List T → Option T := runP 2 5 B_woven_acts
def B_woven : Blk := bseq (drop (sA (acons (v 0) (anil)) P_need_rig)) (bseq (drop (sA (acons (v 0) (acons (v 1) (anil))) P_need_clock)) (bseq (drop (sA (acons (v 0) (acons (v 2) (anil))) P_need_acts)) (ret (sA (acons (v 1) (acons (v 2) (anil))) P_woven_acts))))
def P_woven : List T → Option T := runP 3 3 B_woven
def B__law_right : Blk := bseq (bpar2 5 6 (im (sR 0 (acons (s2 (c (.int 1)) (sR 0 (acons (c (.int 4)) (anil)) P__law_draw) oAddG) (acons (s2 (c (.int 1)) (sR 0 (acons (c (.int 9)) (anil)) P__law_draw) oAddG) (anil))) P__law_rig)) (im (sR 0 (acons (c (.int 6)) (anil)) P__law_draw))) (bseq (bset 1 (im (sR 0 (acons (v 5) (acons (v 1) (anil))) P__law_cues))) (bseq (bpar3 7 8 9 (im (sR 0 (acons (v 5) (acons (v 1) (acons (v 2) (acons (v 4) (anil))))) P__law_clock)) (cl (sA (anil) mkLst)) (im (mk "Rig" (acons (s2 (v 5) (c (.int 0)) oIt) (acons (s2 (v 5) (c (.int 1)) oIt) (anil))) P_Rig___init__))) (bseq (bfor (iA (acons (v 3) (anil)) rng1) (gn 10) (drop (sBC "list" 8 (acons (ifx (tb (s2 (sR 0 (acons (c (.int 2)) (anil)) P__law_draw) (c (.int 0)) (oEq false))) (sA (acons (c (.str "wait")) (anil)) mkTup) (sR 0 (acons (v 5) (acons (v 1) (anil))) P__law_act)) (anil)) oAppend))) (frz 8 (bseq (bpar2 8 11 (im (sA (acons (v 8) (anil)) oTuple)) (im (mk "CueList" (acons (v 9) (acons (v 1) (anil))) P_CueList___init__))) (bseq (bset 12 (im (sA (acons (v 7) (acons (v 8) (anil))) P__law_woven))) (bseq (biff (tor (tnot (tb (sA (acons (sA (acons (v 9) (acons (v 7) (acons (v 8) (anil)))) P_woven) (acons (v 12) (anil))) P__law_same))) (tnot (tb (sA (acons (sK [2, 1, 0] (acons (v 8) (acons (v 7) (acons (v 9) (anil)))) P_woven) (acons (v 12) (anil))) P__law_same)))) (ret (c (.bl false))) (bnil)) (bseq (biff (tor (tnot (tb (sA (acons (sA (acons (v 9) (acons (sA (anil) mkTup) (acons (v 8) (anil)))) P_woven) (acons (v 8) (anil))) P__law_same))) (tnot (tb (sA (acons (sA (acons (v 9) (acons (v 7) (acons (sA (anil) mkTup) (anil)))) P_woven) (acons (sA (acons (v 7) (acons (sA (anil) mkTup) (anil))) P__law_woven) (anil))) P__law_same)))) (ret (c (.bl false))) (bnil)) (bseq (biff (tand (tb (s2 (v 7) (sA (anil) mkTup) (oEq true))) (tnot (tb (sA (acons (sA (acons (v 9) (acons (sl (v 7) (osome (s1 (c (.int 1)) oNeg)) (onone)) (acons (s2 (sA (acons (sA (acons (c (.str "wait")) (anil)) mkTup) (anil)) mkTup) (c (.int 60)) oMulG) (anil)))) P_woven) (acons (sA (acons (sl (v 7) (osome (s1 (c (.int 1)) oNeg)) (onone)) (acons (s2 (sA (acons (sA (acons (c (.str "wait")) (anil)) mkTup) (anil)) mkTup) (c (.int 60)) oMulG) (anil))) P__law_woven) (anil))) P__law_same)))) (ret (c (.bl false))) (bnil)) (bseq (bset 12 (im (sl (v 12) (onone) (osome (c (.int 60)))))) (bseq (basg (sA (acons (v 5) (acons (v 1) (acons (v 6) (acons (v 12) (anil))))) P__law_log) (gt 3 (gcons (gn 13) (gcons (gn 14) (gcons (gn 15) (gnil)))))) (bseq (bset 16 (im (sA (acons (sA (acons (v 11) (acons (v 6) (acons (v 12) (anil)))) P_log) (acons (sA (acons (v 11) (acons (v 6) (acons (v 12) (anil)))) P_looks) (acons (sA (acons (v 11) (acons (v 6) (acons (v 12) (anil)))) P_stage_behind) (acons (sA (acons (v 11) (acons (v 6) (acons (v 12) (anil)))) P_settles) (anil))))) mkLst))) (ret (sA (acons (v 16) (acons (sA (acons (v 13) (acons (v 14) (acons (v 15) (acons (sA (acons (v 5) (acons (v 1) (acons (v 6) (acons (v 15) (anil))))) P__law_settles) (anil))))) mkLst) (anil))) P__law_same))))))))))))))
def P__law_right : T → List T → Option (T × T) := runR 5 17 B__law_right
def B__law_pot : Blk := bseq (bset 2 (im (ifx (tb (s2 (v 1) (sA (acons (v 0) (anil)) oLen) (oLtG))) (sA (acons (s2 (v 0) (v 1) oIt) (anil)) oInt) (s2 (s2 (s2 (c (.int 7907)) (v 1) oMulG) (c (.int 37)) oAddG) (s2 (sA (acons (sA (acons (sl (v 0) (onone) (osome (c (.int 3)))) (anil)) oSum) (anil)) oInt) (c (.int 1000033)) oMod) oAddG)))) (bseq (bset 3 (im (s2 (c (.int 920011)) (s2 (c (.int 6949)) (v 1) oMulG) oAddG))) (bseq (bfor (i1 (s2 (sl (v 0) (onone) (osome (c (.int 7)))) (sA (acons (v 2) (anil)) mkLst) oAddG) anyOf) (gn 4) (bset 3 (im (s2 (sA (acons (s2 (s2 (s2 (v 3) (c (.int 69621)) oMulG) (s2 (sA (acons (v 4) (anil)) oInt) (c (.int 2147483563)) oMod) oAddG) (c (.int 23)) oAddG) (anil)) oInt) (c (.int 2147483563)) oMod)))) (retC (sA (acons (ifx (tor (tb (s2 (v 2) (c (.int 0)) (oLtG))) (tb (s2 (v 2) (s2 (c (.int 10)) (c (.int 18)) oPow) (oGe)))) (sA (acons (v 2) (anil)) oAbs) (c (.int 0))) (acons (v 3) (acons (c (.int 0)) (anil)))) mkLst))))
def P__law_pot : List T → Option T := runN 2 5 B__law_pot
def B_law : Blk := bseq (biff (tnot (tb (sRN (sA (acons (v 0) (acons (c (.int 4)) (anil))) P__law_pot) (acons (c (.int 20)) (acons (c (.int 70)) (acons (c (.int 60)) (acons (c (.int 999)) (anil))))) P__law_right))) (ret (c (.bl false))) (bnil)) (bseq (bfor (iA (acons (sA (acons (c (.int 2)) (acons (sA (acons (sA (acons (v 0) (anil)) oLen) (acons (c (.int 3)) (anil))) oMin2) (anil))) oMax2) (anil)) rng1) (gn 1) (bseq (bset 2 (cl (sA (acons (v 0) (acons (v 1) (anil))) P__law_pot))) (biff (tnot (tb (sR 2 (acons (sR 2 (acons (c (.int 8)) (anil)) P__law_draw) (acons (sR 2 (acons (c (.int 17)) (anil)) P__law_draw) (acons (sR 2 (acons (c (.int 31)) (anil)) P__law_draw) (acons (sR 2 (acons (sA (acons (c (.int 3)) (acons (c (.int 12)) (acons (c (.int 40)) (anil)))) mkTup) (anil)) P__law_pick) (anil))))) P__law_right))) (ret (c (.bl false))) (bnil)))) (ret (c (.bl true))))
def P_law : List T → Option T := runP 1 3 B_law
end Go
/-! Tm77 -/
set_option autoImplicit false
set_option maxRecDepth 100000
set_option linter.all false
set_option maxHeartbeats 4000000
namespace Go
open PySem L2 PX
-- printed by gen_terms.py
def N__law_draw : List Str := ["pot", "many", "digit"]
def N__law_pick : List Str := ["pot", "some"]
def N__law_cue : List Str := ["pot", "rig", "number", "moves", "fade", "channel", "follow"]
def N__law_cues : List Str := ["pot", "rig", "many", "numbers", "turn", "found", "number"]
def N__law_woven : List Str := ["clock", "acts", "tick", "left", "found", "act"]
def N__law_first : List Str := ["rig"]
def N__law_level : List Str := ["run", "start", "end", "age", "long"]
def N__law_look : List Str := ["rig", "stage", "held", "at"]
def N__law_meaning : List Str := ["rig", "cues", "place", "found", "number", "moves", "fade", "follow", "whole", "channel", "level"]
def N__law_sent : List Str := ["run", "level", "long", "now"]
def N__law_brought : List Str := ["rig", "cues", "stage", "place", "long", "channels", "due", "runs", "at"]
def N__law_due : List Str := ["cues", "place"]
def N__law_started : List Str := ["rig", "cues", "stage", "place", "number", "moves", "fade", "follow", "whole", "channels", "channel", "level"]
def N__law_done : List Str := ["rig", "cues", "back", "stage", "act", "runs", "place", "due", "held", "numbers", "at", "more", "later", "start", "end", "age", "long", "cue", "pair"]
def N__law_log : List Str := ["rig", "cues", "back", "acts", "stage", "tick", "found", "shown", "act"]
def N__law_same : List Str := ["told", "due", "at"]
def N__law_is_word : List Str := ["text", "sign"]
def N__law_is_name : List Str := ["value", "bad"]
def N__law_name : List Str := ["pot", "taken", "signs", "found", "turn", "more", "sign", "each"]
def N__law_rig : List Str := ["pot", "many", "top", "found", "turn"]
def N__law_act : List Str := ["pot", "rig", "cues", "way", "numbers", "channel", "cue"]
def N__law_tick : List Str := ["pair"]
def N__law_clock : List Str := ["pot", "rig", "cues", "many", "top", "found", "tick", "turn", "act"]
def N_are_letters : List Str := ["value", "sign"]
def N_is_name : List Str := ["value"]
def N_first_wrong_name : List Str := ["values", "index", "value"]
def N_need_channels : List Str := ["channels", "wrong"]
def N_is_whole : List Str := ["value"]
def N_is_number : List Str := ["value", "low", "high"]
def N_need_number : List Str := ["value", "low", "high"]
def N_Rig___init__ : List Str := ["self", "channels", "top"]
def N_need_rig : List Str := ["value"]
def N_is_follow : List Str := ["value"]
def N_is_truth : List Str := ["value"]
def N_is_cue_number : List Str := ["value"]
def N_is_known : List Str := ["value", "known"]
def N_is_level : List Str := ["rig", "value"]
def N_is_move : List Str := ["rig", "value"]
def N_are_moves : List Str := ["rig", "value", "move", "index"]
def N_is_cue : List Str := ["rig", "value"]
def N_first_wrong_cue : List Str := ["rig", "value", "index", "cue"]
def N_need_cues : List Str := ["rig", "cues", "wrong"]
def N_meaning_behind : List Str := ["rig", "means", "cue", "levels", "channel", "level"]
def N_meanings : List Str := ["rig", "cues", "found", "cue"]
def N_CueList___init__ : List Str := ["self", "rig", "cues", "place", "cue"]
def N_need_list : List Str := ["value"]
def N_need_back : List Str := ["value"]
def N_has_act_size : List Str := ["value"]
def N_is_act : List Str := ["rig", "value"]
def N_first_wrong_act : List Str := ["rig", "value", "index", "act"]
def N_need_acts : List Str := ["rig", "acts", "wrong"]
def N_need_acted : List Str := ["cues", "back", "acts"]
def N_Score_senders_of : List Str := ["self", "cue", "moved", "channel", "level", "at"]
def N_Score___init__ : List Str := ["self", "cues", "back", "at", "cue"]
def N_Score_first : List Str := ["self"]
def N_Score_follow_of : List Str := ["self", "place", "follow"]
def N_Score_starting : List Str := ["self", "place"]
def N_Score_passing : List Str := ["self", "place", "due"]
def N_Score_jumping : List Str := ["self", "place", "due", "number", "goal"]
def N_Score_moved : List Str := ["self", "place", "due", "act", "word"]
def N_held_behind : List Str := ["held", "act", "table", "channel", "level"]
def N_resting : List Str := ["level"]
def N_ticked : List Str := ["run", "begin", "end", "age", "long"]
def N_level_of : List Str := ["run", "begin", "end", "age", "long"]
def N_sent : List Str := ["run", "level", "long", "here"]
def N_Score_run_behind : List Str := ["self", "at", "run", "act", "place", "sending", "here", "whom", "long"]
def N_Score_behind : List Str := ["self", "stage", "act", "runs", "place", "due", "held", "sending", "at", "run"]
def N_Score_stages : List Str := ["self", "acts", "found", "act"]
def N_Score_look : List Str := ["self", "stage", "held", "channel", "level", "run"]
def N_log_of : List Str := ["cues", "back", "acts", "score", "found", "tick", "act", "stage"]
def N_log : List Str := ["cues", "back", "acts"]
def N_looks_of : List Str := ["cues", "back", "acts", "score", "stage"]
def N_looks : List Str := ["cues", "back", "acts"]
def N_stage_behind : List Str := ["cues", "back", "acts"]
def N_rests : List Str := ["run"]
def N_stage_rests : List Str := ["stage", "run"]
def N_waits_of : List Str := ["score", "stage", "here", "many"]
def N_settles : List Str := ["cues", "back", "acts", "score"]
def N__law_settles : List Str := ["rig", "cues", "back", "stage", "many", "start", "end", "age", "long"]
def N_is_time : List Str := ["rig", "value"]
def N_first_wrong_time : List Str := ["rig", "value", "index", "time"]
def N_need_clock : List Str := ["rig", "clock", "wrong"]
def N_acts_at : List Str := ["clock", "tick", "at", "act"]
def N_woven_acts : List Str := ["clock", "acts", "found", "tick", "act"]
def N_woven : List Str := ["rig", "clock", "acts"]
def N__law_right : List Str := ["pot", "cues", "pairs", "many", "top", "rig", "back", "clock", "acts", "made", "turn", "show", "due", "logged", "shown", "stage", "told"]
def N__law_pot : List Str := ["script", "turn", "cell", "stirred", "each"]
def N_law : List Str := ["script", "turn", "pot"]
section facts
structure Fx (P : Program) (w : World) (K : PySem.W.Frag) (mg : Str → Option Value) (base : Heap) : Prop where
  g_LAST_TICK : Glo K mg "LAST_TICK" t_LAST_TICK
  g_LEAST_FOLLOW : Glo K mg "LEAST_FOLLOW" t_LEAST_FOLLOW
  g_LEAST_NUMBER : Glo K mg "LEAST_NUMBER" t_LEAST_NUMBER
  g_LEAST_TOP : Glo K mg "LEAST_TOP" t_LEAST_TOP
  g_LETTERS : Glo K mg "LETTERS" t_LETTERS
  g_LONGEST : Glo K mg "LONGEST" t_LONGEST
  g_MOST_ACTS : Glo K mg "MOST_ACTS" t_MOST_ACTS
  g_MOST_BACK : Glo K mg "MOST_BACK" t_MOST_BACK
  g_MOST_CHANNELS : Glo K mg "MOST_CHANNELS" t_MOST_CHANNELS
  g_MOST_CUES : Glo K mg "MOST_CUES" t_MOST_CUES
  g_MOST_FADE : Glo K mg "MOST_FADE" t_MOST_FADE
  g_MOST_FOLLOW : Glo K mg "MOST_FOLLOW" t_MOST_FOLLOW
  g_MOST_NUMBER_acts : Glo K mg "MOST_NUMBER_acts" t_MOST_NUMBER_acts
  g_MOST_NUMBER_cueforms : Glo K mg "MOST_NUMBER_cueforms" t_MOST_NUMBER_cueforms
  g_MOST_TIMES : Glo K mg "MOST_TIMES" t_MOST_TIMES
  g_MOST_TOP : Glo K mg "MOST_TOP" t_MOST_TOP
  g_NEVER : Glo K mg "NEVER" t_NEVER
  g_NOBODY : Glo K mg "NOBODY" t_NOBODY
  g_PARTS : Glo K mg "PARTS" t_PARTS
  g_STILL : Glo K mg "STILL" t_STILL
  g_WAIT : Glo K mg "WAIT" t_WAIT
  n_abs : mg "abs" = none
  n_all : mg "all" = none
  n_any : mg "any" = none
  n_bool : mg "bool" = none
  n_dict : mg "dict" = none
  n_divmod : mg "divmod" = none
  n_enumerate : mg "enumerate" = none
  n_int : mg "int" = none
  n_isinstance : mg "isinstance" = none
  n_len : mg "len" = none
  n_list : mg "list" = none
  n_max : mg "max" = none
  n_min : mg "min" = none
  n_range : mg "range" = none
  n_set : mg "set" = none
  n_sorted : mg "sorted" = none
  n_str : mg "str" = none
  n_sum : mg "sum" = none
  n_tuple : mg "tuple" = none
  n_zip : mg "zip" = none
  k_SIZES : KDt w K mg "SIZES" k_SIZES
  k_WORDS : KDt w K mg "WORDS" k_WORDS
  a_CueList_cues : Att K "CueList" "cues"
  a_CueList_means : Att K "CueList" "means"
  a_CueList_parts : Att K "CueList" "parts"
  a_CueList_places : Att K "CueList" "places"
  a_CueList_rig : Att K "CueList" "rig"
  a_Rig_channels : Att K "Rig" "channels"
  a_Rig_parts : Att K "Rig" "parts"
  a_Rig_top : Att K "Rig" "top"
  a_Score_back : Att K "Score" "back"
  a_Score_channels : Att K "Score" "channels"
  a_Score_cues : Att K "Score" "cues"
  a_Score_everybody : Att K "Score" "everybody"
  a_Score_means : Att K "Score" "means"
  a_Score_places : Att K "Score" "places"
  a_Score_rows : Att K "Score" "rows"
  a_Score_senders : Att K "Score" "senders"
  i_CueList : IsTb K (He.ga K "CueList") b_CueList c_CueList
  c_CueList : mg "CueList" = some (.ref (He.ga K "CueList"))
  i_Rig : IsTb K (He.ga K "Rig") b_Rig c_Rig
  c_Rig : mg "Rig" = some (.ref (He.ga K "Rig"))
  f__law_draw : ∃ f fd, FunD K "_law_draw" "_law_draw" (defArgs (top 98)) (defBody (top 98)) (defScope (top 98)) [] [] f fd ∧ mg "_law_draw" = some (.ref f)
  f__law_pick : ∃ f fd, FunD K "_law_pick" "_law_pick" (defArgs (top 99)) (defBody (top 99)) (defScope (top 99)) [] [] f fd ∧ mg "_law_pick" = some (.ref f)
  f__law_cue : ∃ f fd, FunD K "_law_cue" "_law_cue" (defArgs (top 105)) (defBody (top 105)) (defScope (top 105)) [] [] f fd ∧ mg "_law_cue" = some (.ref f)
  f__law_cues : ∃ f fd, FunD K "_law_cues" "_law_cues" (defArgs (top 106)) (defBody (top 106)) (defScope (top 106)) [] [] f fd ∧ mg "_law_cues" = some (.ref f)
  f__law_woven : ∃ f fd, FunD K "_law_woven" "_law_woven" (defArgs (top 120)) (defBody (top 120)) (defScope (top 120)) [] [] f fd ∧ mg "_law_woven" = some (.ref f)
  f__law_first : ∃ f fd, FunD K "_law_first" "_law_first" (defArgs (top 113)) (defBody (top 113)) (defScope (top 113)) [] [] f fd ∧ mg "_law_first" = some (.ref f)
  f__law_level : ∃ f fd, FunD K "_law_level" "_law_level" (defArgs (top 108)) (defBody (top 108)) (defScope (top 108)) [] [] f fd ∧ mg "_law_level" = some (.ref f)
  f__law_look : ∃ f fd, FunD K "_law_look" "_law_look" (defArgs (top 115)) (defBody (top 115)) (defScope (top 115)) [] [] f fd ∧ mg "_law_look" = some (.ref f)
  f__law_meaning : ∃ f fd, FunD K "_law_meaning" "_law_meaning" (defArgs (top 107)) (defBody (top 107)) (defScope (top 107)) [] [] f fd ∧ mg "_law_meaning" = some (.ref f)
  f__law_sent : ∃ f fd, FunD K "_law_sent" "_law_sent" (defArgs (top 109)) (defBody (top 109)) (defScope (top 109)) [] [] f fd ∧ mg "_law_sent" = some (.ref f)
  f__law_brought : ∃ f fd, FunD K "_law_brought" "_law_brought" (defArgs (top 110)) (defBody (top 110)) (defScope (top 110)) [] [] f fd ∧ mg "_law_brought" = some (.ref f)
  f__law_due : ∃ f fd, FunD K "_law_due" "_law_due" (defArgs (top 111)) (defBody (top 111)) (defScope (top 111)) [] [] f fd ∧ mg "_law_due" = some (.ref f)
  f__law_started : ∃ f fd, FunD K "_law_started" "_law_started" (defArgs (top 112)) (defBody (top 112)) (defScope (top 112)) [] [] f fd ∧ mg "_law_started" = some (.ref f)
  f__law_done : ∃ f fd, FunD K "_law_done" "_law_done" (defArgs (top 114)) (defBody (top 114)) (defScope (top 114)) [] [] f fd ∧ mg "_law_done" = some (.ref f)
  f__law_log : ∃ f fd, FunD K "_law_log" "_law_log" (defArgs (top 121)) (defBody (top 121)) (defScope (top 121)) [] [] f fd ∧ mg "_law_log" = some (.ref f)
  f__law_same : ∃ f fd, FunD K "_law_same" "_law_same" (defArgs (top 100)) (defBody (top 100)) (defScope (top 100)) [] [] f fd ∧ mg "_law_same" = some (.ref f)
  f__law_is_word : ∃ f fd, FunD K "_law_is_word" "_law_is_word" (defArgs (top 101)) (defBody (top 101)) (defScope (top 101)) [] [] f fd ∧ mg "_law_is_word" = some (.ref f)
  f__law_is_name : ∃ f fd, FunD K "_law_is_name" "_law_is_name" (defArgs (top 102)) (defBody (top 102)) (defScope (top 102)) [] [] f fd ∧ mg "_law_is_name" = some (.ref f)
  f__law_name : ∃ f fd, FunD K "_law_name" "_law_name" (defArgs (top 103)) (defBody (top 103)) (defScope (top 103)) [] [] f fd ∧ mg "_law_name" = some (.ref f)
  f__law_rig : ∃ f fd, FunD K "_law_rig" "_law_rig" (defArgs (top 104)) (defBody (top 104)) (defScope (top 104)) [] [] f fd ∧ mg "_law_rig" = some (.ref f)
  f__law_act : ∃ f fd, FunD K "_law_act" "_law_act" (defArgs (top 116)) (defBody (top 116)) (defScope (top 116)) [] [] f fd ∧ mg "_law_act" = some (.ref f)
  f__law_tick : ∃ f fd, FunD K "_law_tick" "_law_tick" (defArgs (top 119)) (defBody (top 119)) (defScope (top 119)) [] [] f fd ∧ mg "_law_tick" = some (.ref f)
  f__law_clock : ∃ f fd, FunD K "_law_clock" "_law_clock" (defArgs (top 118)) (defBody (top 118)) (defScope (top 118)) [] [] f fd ∧ mg "_law_clock" = some (.ref f)
  f_are_letters : ∃ f fd, FunD K "are_letters" "are_letters" (defArgs (top 14)) (defBody (top 14)) (defScope (top 14)) [] [] f fd ∧ mg "are_letters" = some (.ref f)
  f_is_name : ∃ f fd, FunD K "is_name" "is_name" (defArgs (top 15)) (defBody (top 15)) (defScope (top 15)) [] [] f fd ∧ mg "is_name" = some (.ref f)
  f_first_wrong_name : ∃ f fd, FunD K "first_wrong_name" "first_wrong_name" (defArgs (top 17)) (defBody (top 17)) (defScope (top 17)) [] [] f fd ∧ mg "first_wrong_name" = some (.ref f)
  f_need_channels : ∃ f fd, FunD K "need_channels" "need_channels" (defArgs (top 46)) (defBody (top 46)) (defScope (top 46)) [] [] f fd ∧ mg "need_channels" = some (.ref f)
  f_is_whole : ∃ f fd, FunD K "is_whole" "is_whole" (defArgs (top 19)) (defBody (top 19)) (defScope (top 19)) [] [] f fd ∧ mg "is_whole" = some (.ref f)
  f_is_number : ∃ f fd, FunD K "is_number" "is_number" (defArgs (top 20)) (defBody (top 20)) (defScope (top 20)) [] [] f fd ∧ mg "is_number" = some (.ref f)
  f_need_number : ∃ f fd, FunD K "need_number" "need_number" (defArgs (top 22)) (defBody (top 22)) (defScope (top 22)) [] [] f fd ∧ mg "need_number" = some (.ref f)
  f_Rig___init__ : ∃ f fd, FunD K "__init__" "Rig.__init__" (defArgs (inClass (top 47) 0)) (defBody (inClass (top 47) 0)) (defScope (inClass (top 47) 0)) [] [] f fd ∧ Mk K (He.ga K "Rig") f ∧ mg "Rig" = some (.ref (He.ga K "Rig"))
  f_need_rig : ∃ f fd, FunD K "need_rig" "need_rig" (defArgs (top 48)) (defBody (top 48)) (defScope (top 48)) [] [] f fd ∧ mg "need_rig" = some (.ref f)
  f_is_follow : ∃ f fd, FunD K "is_follow" "is_follow" (defArgs (top 60)) (defBody (top 60)) (defScope (top 60)) [] [] f fd ∧ mg "is_follow" = some (.ref f)
  f_is_truth : ∃ f fd, FunD K "is_truth" "is_truth" (defArgs (top 21)) (defBody (top 21)) (defScope (top 21)) [] [] f fd ∧ mg "is_truth" = some (.ref f)
  f_is_cue_number : ∃ f fd, FunD K "is_cue_number" "is_cue_number" (defArgs (top 57)) (defBody (top 57)) (defScope (top 57)) [] [] f fd ∧ mg "is_cue_number" = some (.ref f)
  f_is_known : ∃ f fd, FunD K "is_known" "is_known" (defArgs (top 16)) (defBody (top 16)) (defScope (top 16)) [] [] f fd ∧ mg "is_known" = some (.ref f)
  f_is_level : ∃ f fd, FunD K "is_level" "is_level" (defArgs (top 49)) (defBody (top 49)) (defScope (top 49)) [] [] f fd ∧ mg "is_level" = some (.ref f)
  f_is_move : ∃ f fd, FunD K "is_move" "is_move" (defArgs (top 58)) (defBody (top 58)) (defScope (top 58)) [] [] f fd ∧ mg "is_move" = some (.ref f)
  f_are_moves : ∃ f fd, FunD K "are_moves" "are_moves" (defArgs (top 59)) (defBody (top 59)) (defScope (top 59)) [] [] f fd ∧ mg "are_moves" = some (.ref f)
  f_is_cue : ∃ f fd, FunD K "is_cue" "is_cue" (defArgs (top 61)) (defBody (top 61)) (defScope (top 61)) [] [] f fd ∧ mg "is_cue" = some (.ref f)
  f_first_wrong_cue : ∃ f fd, FunD K "first_wrong_cue" "first_wrong_cue" (defArgs (top 66)) (defBody (top 66)) (defScope (top 66)) [] [] f fd ∧ mg "first_wrong_cue" = some (.ref f)
  f_need_cues : ∃ f fd, FunD K "need_cues" "need_cues" (defArgs (top 67)) (defBody (top 67)) (defScope (top 67)) [] [] f fd ∧ mg "need_cues" = some (.ref f)
  f_meaning_behind : ∃ f fd, FunD K "meaning_behind" "meaning_behind" (defArgs (top 62)) (defBody (top 62)) (defScope (top 62)) [] [] f fd ∧ mg "meaning_behind" = some (.ref f)
  f_meanings : ∃ f fd, FunD K "meanings" "meanings" (defArgs (top 63)) (defBody (top 63)) (defScope (top 63)) [] [] f fd ∧ mg "meanings" = some (.ref f)
  f_CueList___init__ : ∃ f fd, FunD K "__init__" "CueList.__init__" (defArgs (inClass (top 68) 0)) (defBody (inClass (top 68) 0)) (defScope (inClass (top 68) 0)) [] [] f fd ∧ Mk K (He.ga K "CueList") f ∧ mg "CueList" = some (.ref (He.ga K "CueList"))
  f_need_list : ∃ f fd, FunD K "need_list" "need_list" (defArgs (top 69)) (defBody (top 69)) (defScope (top 69)) [] [] f fd ∧ mg "need_list" = some (.ref f)
  f_need_back : ∃ f fd, FunD K "need_back" "need_back" (defArgs (top 33)) (defBody (top 33)) (defScope (top 33)) [] [] f fd ∧ mg "need_back" = some (.ref f)
  f_has_act_size : ∃ f fd, FunD K "has_act_size" "has_act_size" (defArgs (top 29)) (defBody (top 29)) (defScope (top 29)) [] [] f fd ∧ mg "has_act_size" = some (.ref f)
  f_is_act : ∃ f fd, FunD K "is_act" "is_act" (defArgs (top 30)) (defBody (top 30)) (defScope (top 30)) [] [] f fd ∧ mg "is_act" = some (.ref f)
  f_first_wrong_act : ∃ f fd, FunD K "first_wrong_act" "first_wrong_act" (defArgs (top 31)) (defBody (top 31)) (defScope (top 31)) [] [] f fd ∧ mg "first_wrong_act" = some (.ref f)
  f_need_acts : ∃ f fd, FunD K "need_acts" "need_acts" (defArgs (top 32)) (defBody (top 32)) (defScope (top 32)) [] [] f fd ∧ mg "need_acts" = some (.ref f)
  f_need_acted : ∃ f fd, FunD K "need_acted" "need_acted" (defArgs (top 86)) (defBody (top 86)) (defScope (top 86)) [] [] f fd ∧ mg "need_acted" = some (.ref f)
  f_Score_senders_of : ∃ f fd, FunD K "senders_of" "Score.senders_of" (defArgs (inClass (top 80) 1)) (defBody (inClass (top 80) 1)) (defScope (inClass (top 80) 1)) [] [] f fd ∧ Cls K (He.ga K "Score") ∧ Meth K (He.ga K "Score") "senders_of" f
  f_Score___init__ : ∃ f fd, FunD K "__init__" "Score.__init__" (defArgs (inClass (top 80) 0)) (defBody (inClass (top 80) 0)) (defScope (inClass (top 80) 0)) [] [] f fd ∧ Mk K (He.ga K "Score") f ∧ mg "Score" = some (.ref (He.ga K "Score"))
  f_Score_first : ∃ f fd, FunD K "first" "Score.first" (defArgs (inClass (top 80) 10)) (defBody (inClass (top 80) 10)) (defScope (inClass (top 80) 10)) [] [] f fd ∧ Cls K (He.ga K "Score") ∧ Meth K (He.ga K "Score") "first" f
  f_Score_follow_of : ∃ f fd, FunD K "follow_of" "Score.follow_of" (defArgs (inClass (top 80) 3)) (defBody (inClass (top 80) 3)) (defScope (inClass (top 80) 3)) [] [] f fd ∧ Cls K (He.ga K "Score") ∧ Meth K (He.ga K "Score") "follow_of" f
  f_Score_starting : ∃ f fd, FunD K "starting" "Score.starting" (defArgs (inClass (top 80) 4)) (defBody (inClass (top 80) 4)) (defScope (inClass (top 80) 4)) [] [] f fd ∧ Cls K (He.ga K "Score") ∧ Meth K (He.ga K "Score") "starting" f
  f_Score_passing : ∃ f fd, FunD K "passing" "Score.passing" (defArgs (inClass (top 80) 6)) (defBody (inClass (top 80) 6)) (defScope (inClass (top 80) 6)) [] [] f fd ∧ Cls K (He.ga K "Score") ∧ Meth K (He.ga K "Score") "passing" f
  f_Score_jumping : ∃ f fd, FunD K "jumping" "Score.jumping" (defArgs (inClass (top 80) 5)) (defBody (inClass (top 80) 5)) (defScope (inClass (top 80) 5)) [] [] f fd ∧ Cls K (He.ga K "Score") ∧ Meth K (He.ga K "Score") "jumping" f
  f_Score_moved : ∃ f fd, FunD K "moved" "Score.moved" (defArgs (inClass (top 80) 7)) (defBody (inClass (top 80) 7)) (defScope (inClass (top 80) 7)) [] [] f fd ∧ Cls K (He.ga K "Score") ∧ Meth K (He.ga K "Score") "moved" f
  f_held_behind : ∃ f fd, FunD K "held_behind" "held_behind" (defArgs (top 81)) (defBody (top 81)) (defScope (top 81)) [] [] f fd ∧ mg "held_behind" = some (.ref f)
  f_resting : ∃ f fd, FunD K "resting" "resting" (defArgs (top 72)) (defBody (top 72)) (defScope (top 72)) [] [] f fd ∧ mg "resting" = some (.ref f)
  f_ticked : ∃ f fd, FunD K "ticked" "ticked" (defArgs (top 75)) (defBody (top 75)) (defScope (top 75)) [] [] f fd ∧ mg "ticked" = some (.ref f)
  f_level_of : ∃ f fd, FunD K "level_of" "level_of" (defArgs (top 74)) (defBody (top 74)) (defScope (top 74)) [] [] f fd ∧ mg "level_of" = some (.ref f)
  f_sent : ∃ f fd, FunD K "sent" "sent" (defArgs (top 76)) (defBody (top 76)) (defScope (top 76)) [] [] f fd ∧ mg "sent" = some (.ref f)
  f_Score_run_behind : ∃ f fd, FunD K "run_behind" "Score.run_behind" (defArgs (inClass (top 80) 8)) (defBody (inClass (top 80) 8)) (defScope (inClass (top 80) 8)) [] [] f fd ∧ Cls K (He.ga K "Score") ∧ Meth K (He.ga K "Score") "run_behind" f
  f_Score_behind : ∃ f fd, FunD K "behind" "Score.behind" (defArgs (inClass (top 80) 11)) (defBody (inClass (top 80) 11)) (defScope (inClass (top 80) 11)) [] [] f fd ∧ Cls K (He.ga K "Score") ∧ Meth K (He.ga K "Score") "behind" f
  f_Score_stages : ∃ f fd, FunD K "stages" "Score.stages" (defArgs (inClass (top 80) 13)) (defBody (inClass (top 80) 13)) (defScope (inClass (top 80) 13)) [] [] f fd ∧ Cls K (He.ga K "Score") ∧ Meth K (He.ga K "Score") "stages" f
  f_Score_look : ∃ f fd, FunD K "look" "Score.look" (defArgs (inClass (top 80) 14)) (defBody (inClass (top 80) 14)) (defScope (inClass (top 80) 14)) [] [] f fd ∧ Cls K (He.ga K "Score") ∧ Meth K (He.ga K "Score") "look" f
  f_log_of : ∃ f fd, FunD K "log_of" "log_of" (defArgs (top 91)) (defBody (top 91)) (defScope (top 91)) [] [] f fd ∧ mg "log_of" = some (.ref f)
  f_log : ∃ f fd, FunD K "log" "log" (defArgs (top 92)) (defBody (top 92)) (defScope (top 92)) [] [] f fd ∧ mg "log" = some (.ref f)
  f_looks_of : ∃ f fd, FunD K "looks_of" "looks_of" (defArgs (top 87)) (defBody (top 87)) (defScope (top 87)) [] [] f fd ∧ mg "looks_of" = some (.ref f)
  f_looks : ∃ f fd, FunD K "looks" "looks" (defArgs (top 89)) (defBody (top 89)) (defScope (top 89)) [] [] f fd ∧ mg "looks" = some (.ref f)
  f_stage_behind : ∃ f fd, FunD K "stage_behind" "stage_behind" (defArgs (top 88)) (defBody (top 88)) (defScope (top 88)) [] [] f fd ∧ mg "stage_behind" = some (.ref f)
  f_rests : ∃ f fd, FunD K "rests" "rests" (defArgs (top 73)) (defBody (top 73)) (defScope (top 73)) [] [] f fd ∧ mg "rests" = some (.ref f)
  f_stage_rests : ∃ f fd, FunD K "stage_rests" "stage_rests" (defArgs (top 82)) (defBody (top 82)) (defScope (top 82)) [] [] f fd ∧ mg "stage_rests" = some (.ref f)
  f_waits_of : ∃ f fd, FunD K "waits_of" "waits_of" (defArgs (top 94)) (defBody (top 94)) (defScope (top 94)) [] [] f fd ∧ mg "waits_of" = some (.ref f)
  f_settles : ∃ f fd, FunD K "settles" "settles" (defArgs (top 95)) (defBody (top 95)) (defScope (top 95)) [] [] f fd ∧ mg "settles" = some (.ref f)
  f__law_settles : ∃ f fd, FunD K "_law_settles" "_law_settles" (defArgs (top 122)) (defBody (top 122)) (defScope (top 122)) [] [] f fd ∧ mg "_law_settles" = some (.ref f)
  f_is_time : ∃ f fd, FunD K "is_time" "is_time" (defArgs (top 37)) (defBody (top 37)) (defScope (top 37)) [] [] f fd ∧ mg "is_time" = some (.ref f)
  f_first_wrong_time : ∃ f fd, FunD K "first_wrong_time" "first_wrong_time" (defArgs (top 38)) (defBody (top 38)) (defScope (top 38)) [] [] f fd ∧ mg "first_wrong_time" = some (.ref f)
  f_need_clock : ∃ f fd, FunD K "need_clock" "need_clock" (defArgs (top 39)) (defBody (top 39)) (defScope (top 39)) [] [] f fd ∧ mg "need_clock" = some (.ref f)
  f_acts_at : ∃ f fd, FunD K "acts_at" "acts_at" (defArgs (top 40)) (defBody (top 40)) (defScope (top 40)) [] [] f fd ∧ mg "acts_at" = some (.ref f)
  f_woven_acts : ∃ f fd, FunD K "woven_acts" "woven_acts" (defArgs (top 41)) (defBody (top 41)) (defScope (top 41)) [] [] f fd ∧ mg "woven_acts" = some (.ref f)
  f_woven : ∃ f fd, FunD K "woven" "woven" (defArgs (top 84)) (defBody (top 84)) (defScope (top 84)) [] [] f fd ∧ mg "woven" = some (.ref f)
  f__law_right : ∃ f fd, FunD K "_law_right" "_law_right" (defArgs (top 123)) (defBody (top 123)) (defScope (top 123)) [] [] f fd ∧ mg "_law_right" = some (.ref f)
  f__law_pot : ∃ f fd, FunD K "_law_pot" "_law_pot" (defArgs (top 97)) (defBody (top 97)) (defScope (top 97)) [] [] f fd ∧ mg "_law_pot" = some (.ref f)
  f_law : ∃ f fd, FunD K "law" "law" (defArgs (top 124)) (defBody (top 124)) (defScope (top 124)) [] [] f fd ∧ mg "law" = some (.ref f)
end facts
section
variable {P : Program} {w : World} {K : PySem.W.Frag} {mg : Str → Option Value} {base : Heap}
theorem sc__law_draw : FnScope N__law_draw ["pot", "many"] (defScope (top 98)) := ⟨rfl, rfl, rfl, by decide +kernel, rfl, by decide +kernel, by decide +kernel⟩
theorem ok__law_draw (fx : Fx P w K mg base) {f : Addr} {fd : FuncData} (D : FunD K "_law_draw" "_law_draw" (defArgs (top 98)) (defBody (top 98)) (defScope (top 98)) [] [] f fd) : FnOk P w K mg base CX0 1 f fd ["pot", "many"] (spR K P__law_draw) := by
  refine fnR (N := N__law_draw) (fb := B__law_draw) D sc__law_draw 2 rfl (by decide) fun X F cdv A outer s H E hr hX => ?_
  subst hX
  have nd := sc__law_draw.nd
  exact pxb_cons (pxs_if (pxt_cmp op_gt s_gt (px_ixG 0 (u1 hr) (px_int)) (px_int) (nomark _)) (pxb_cons (pxs_sub2 0 2 rfl nd (u1 hr) (px_B call_divmod c_divmod rfl fx.n_divmod rfl (pxa_cons (px_ixG 0 (u1 hr) (px_int)) (pxa_cons (px_v 1) (pxa_nil)))) (px_int)) (pxb_one (pxs_ret (px_v 2)))) (pxb_nil)) (pxb_cons (pxs_sub 0 (u1 hr) (px_op op_addG s_addG (px_ixG 0 (u1 hr) (px_int)) (px_int)) (px_int)) (pxb_cons (pxs_sub 0 (u1 hr) (px_op op_mod s_mod (px_Ty call_int1 c_int rfl fx.n_int rfl (pxa_cons (px_op op_addG s_addG (px_op op_addG s_addG (px_op op_mulG s_mulG (px_ixG 0 (u1 hr) (px_int)) (px_op op_addG s_addG (px_op op_mod s_mod (px_Ty call_int1 c_int rfl fx.n_int rfl (pxa_cons (px_ixG 0 (u1 hr) (px_int)) (pxa_nil))) (px_int)) (px_int))) (px_op op_mulG s_mulG (px_int) (px_ixG 0 (u1 hr) (px_int)))) (px_int)) (pxa_nil))) (px_int)) (px_int)) (pxb_one (pxs_ret (px_op op_mod s_mod (px_Ty call_int1 c_int rfl fx.n_int rfl (pxa_cons (px_op op_fdiv s_div (px_ixG 0 (u1 hr) (px_int)) (px_int)) (pxa_nil))) (px_v 1))))))
theorem C__law_draw (fx : Fx P w K mg base) : Cal P w K mg base 1 "_law_draw" (spR K P__law_draw) := by
  obtain ⟨f, fd, D, hm⟩ := fx.f__law_draw
  exact ⟨f, fd, ["pot", "many"], ok__law_draw fx D, hm, D.kp, D.bindsN (fun _ _ _ _ _ _ us hu => by match us, hu with | [_, _], _ => rfl)⟩
theorem sc__law_pick : FnScope N__law_pick ["pot", "some"] (defScope (top 99)) := ⟨rfl, rfl, rfl, by decide +kernel, rfl, by decide +kernel, by decide +kernel⟩
theorem ok__law_pick (fx : Fx P w K mg base) {f : Addr} {fd : FuncData} (D : FunD K "_law_pick" "_law_pick" (defArgs (top 99)) (defBody (top 99)) (defScope (top 99)) [] [] f fd) : FnOk P w K mg base CX0 2 f fd ["pot", "some"] (spR K P__law_pick) := by
  refine fnR (N := N__law_pick) (fb := B__law_pick) D sc__law_pick 2 rfl (by decide) fun X F cdv A outer s H E hr hX => ?_
  subst hX
  have nd := sc__law_pick.nd
  exact pxb_one (pxs_ret (px_it (u1 hr) (px_v 1) (px_callR 0 (C__law_draw fx) hr (by decide) (pxa_cons (px_B call_len c_len rfl fx.n_len rfl (pxa_cons (px_v 1) (pxa_nil))) (pxa_nil)))))
theorem C__law_pick (fx : Fx P w K mg base) : Cal P w K mg base 2 "_law_pick" (spR K P__law_pick) := by
  obtain ⟨f, fd, D, hm⟩ := fx.f__law_pick
  exact ⟨f, fd, ["pot", "some"], ok__law_pick fx D, hm, D.kp, D.bindsN (fun _ _ _ _ _ _ us hu => by match us, hu with | [_, _], _ => rfl)⟩
theorem sc__law_cue : FnScope N__law_cue ["pot", "rig", "number"] (defScope (top 105)) := ⟨rfl, rfl, rfl, by decide +kernel, rfl, by decide +kernel, by decide +kernel⟩
theorem ok__law_cue (fx : Fx P w K mg base) {f : Addr} {fd : FuncData} (D : FunD K "_law_cue" "_law_cue" (defArgs (top 105)) (defBody (top 105)) (defScope (top 105)) [] [] f fd) : FnOk P w K mg base CX0 3 f fd ["pot", "rig", "number"] (spR K P__law_cue) := by
  refine fnR (N := N__law_cue) (fb := B__law_cue) D sc__law_cue 3 rfl (by decide) fun X F cdv A outer s H E hr hX => ?_
  subst hX
  have nd := sc__law_cue.nd
  exact pxb_cons (pxs_par2 3 4 rfl nd (pxk_cl (pxn_lst (pxa_nil))) (pxk_im (px_callR 0 (C__law_pick fx) hr (by decide) (pxa_cons (px_tup (pxa_cons (px_int) (pxa_cons (px_int) (pxa_cons (px_int) (pxa_cons (px_int) (pxa_cons (px_int) (pxa_cons (px_int) (pxa_cons (px_int) (pxa_nil))))))))) (pxa_nil))))) (pxb_cons (pxs_for rfl PassesOwn.leaving (pxi_any (px_it (u1 hr) (px_v 1) (px_int))) (pxg_n 5 nd) (pxb_one (pxs_if (pxt_cmp op_ltG s_ltG (px_callR 0 (C__law_draw fx) hr (by decide) (pxa_cons (px_int) (pxa_nil))) (px_int) (nomark _)) (pxb_one (pxs_expr (px_bmC 3 m_append PySem.F.plainAttrs_list PySem.F.slot_list_append PySem.F.type_list_append mt_append (pxa_cons (px_tup (pxa_cons (px_v 5) (pxa_cons (px_callR 0 (C__law_draw fx) hr (by decide) (pxa_cons (px_op op_addG s_addG (px_it (u1 hr) (px_v 1) (px_int)) (px_int)) (pxa_nil))) (pxa_nil)))) (pxa_nil))))) (pxb_nil)))) (pxb_cons (pxs_set (i := 6) nd (pxk_im (px_if (pxt_cmp op_gt s_gt (px_callR 0 (C__law_draw fx) hr (by decide) (pxa_cons (px_int) (pxa_nil))) (px_int) (nomark _)) (px_non) (px_op op_addG s_addG (px_int) (px_callR 0 (C__law_draw fx) hr (by decide) (pxa_cons (px_int) (pxa_nil))))))) (pxb_frz 3 (pxb_one (pxs_ret (px_tup (pxa_cons (px_v 2) (pxa_cons (px_Ty call_tuple_of c_tuple rfl fx.n_tuple rfl (pxa_cons (px_v 3) (pxa_nil))) (pxa_cons (px_v 4) (pxa_cons (px_v 6) (pxa_cons (px_cmp (op_eqD hr.units) s_eqD (px_callR 0 (C__law_draw fx) hr (by decide) (pxa_cons (px_int) (pxa_nil))) (px_int) (nomark _)) (pxa_nil))))))))))))
theorem C__law_cue (fx : Fx P w K mg base) : Cal P w K mg base 3 "_law_cue" (spR K P__law_cue) := by
  obtain ⟨f, fd, D, hm⟩ := fx.f__law_cue
  exact ⟨f, fd, ["pot", "rig", "number"], ok__law_cue fx D, hm, D.kp, D.bindsN (fun _ _ _ _ _ _ us hu => by match us, hu with | [_, _, _], _ => rfl)⟩
theorem sc__law_cues : FnScope N__law_cues ["pot", "rig", "many"] (defScope (top 106)) := ⟨rfl, rfl, rfl, by decide +kernel, rfl, by decide +kernel, by decide +kernel⟩
theorem ok__law_cues (fx : Fx P w K mg base) {f : Addr} {fd : FuncData} (D : FunD K "_law_cues" "_law_cues" (defArgs (top 106)) (defBody (top 106)) (defScope (top 106)) [] [] f fd) : FnOk P w K mg base CX0 4 f fd ["pot", "rig", "many"] (spR K P__law_cues) := by
  refine fnR (N := N__law_cues) (fb := B__law_cues) D sc__law_cues 3 rfl (by decide) fun X F cdv A outer s H E hr hX => ?_
  subst hX
  have nd := sc__law_cues.nd
  exact pxb_cons (pxs_set (i := 3) nd (pxk_cl (pxn_lst (pxa_nil)))) (pxb_cons (pxs_for rfl PassesOwn.leaving (pxi_rng1 fx.n_range (pxa_cons (px_v 2) (pxa_nil))) (pxg_n 4 nd) (pxb_one (pxs_expr (px_bmC 3 m_append PySem.F.plainAttrs_list PySem.F.slot_list_append PySem.F.type_list_append mt_append (pxa_cons (px_op op_addG s_addG (px_int) (px_callR 0 (C__law_draw fx) hr (by decide) (pxa_cons (px_callR 0 (C__law_pick fx) hr (by decide) (pxa_cons (px_tup (pxa_cons (px_int) (pxa_cons (px_int) (pxa_nil)))) (pxa_nil))) (pxa_nil)))) (pxa_nil)))))) (pxb_cons (pxs_set (i := 5) nd (pxk_cl (pxn_lst (pxa_nil)))) (pxb_frz 3 (pxb_cons (pxs_for rfl PassesOwn.leaving (pxi_any (px_n (pxn_sortSet rfl fx.n_sorted fx.n_set (pxa_cons (px_v 3) (pxa_nil))))) (pxg_n 6 nd) (pxb_one (pxs_expr (px_bmC 5 m_append PySem.F.plainAttrs_list PySem.F.slot_list_append PySem.F.type_list_append mt_append (pxa_cons (px_callR 0 (C__law_cue fx) hr (by decide) (pxa_cons (px_v 1) (pxa_cons (px_v 6) (pxa_nil)))) (pxa_nil)))))) (pxb_frz 5 (pxb_one (pxs_ret (px_Ty call_tuple_of c_tuple rfl fx.n_tuple rfl (pxa_cons (px_v 5) (pxa_nil))))))))))
theorem C__law_cues (fx : Fx P w K mg base) : Cal P w K mg base 4 "_law_cues" (spR K P__law_cues) := by
  obtain ⟨f, fd, D, hm⟩ := fx.f__law_cues
  exact ⟨f, fd, ["pot", "rig", "many"], ok__law_cues fx D, hm, D.kp, D.bindsN (fun _ _ _ _ _ _ us hu => by match us, hu with | [_, _, _], _ => rfl)⟩
theorem sc__law_woven : FnScope N__law_woven ["clock", "acts"] (defScope (top 120)) := ⟨rfl, rfl, rfl, by decide +kernel, rfl, by decide +kernel, by decide +kernel⟩
theorem ok__law_woven (fx : Fx P w K mg base) {f : Addr} {fd : FuncData} (D : FunD K "_law_woven" "_law_woven" (defArgs (top 120)) (defBody (top 120)) (defScope (top 120)) [] [] f fd) : FnOk P w K mg base CX0 1 f fd ["clock", "acts"] (spP K P__law_woven) := by
  refine fnP (N := N__law_woven) (fb := B__law_woven) D sc__law_woven 2 rfl (by decide) fun X F cdv A outer s H E hr hX => ?_
  subst hX
  have nd := sc__law_woven.nd
  exact pxb_cons (pxs_par3 2 3 4 rfl nd (pxk_im (px_int)) (pxk_cl (pxn_Ty (call_listG rfl) c_listG rfl fx.n_list rfl (pxa_cons (px_v 0) (pxa_nil)))) (pxk_cl (pxn_lst (pxa_nil)))) (pxb_cons (pxs_for rfl PassesOwn.leaving (pxi_any (px_op op_addG s_addG (px_n (pxn_Ty (call_listG rfl) c_listG rfl fx.n_list rfl (pxa_cons (px_v 1) (pxa_nil)))) (px_n (pxn_lst (pxa_cons (px_tup (pxa_nil)) (pxa_nil)))))) (pxg_n 5 nd) (pxb_cons (pxs_while W__law_woven PassesOwn.leaving (pxt_w (pxw_and (pxt_cmpC 3 (op_neD hr.units) s_neD (px_n (pxn_lst (pxa_nil))) (nomark _)) (pxw_one_and (pxt_cmp (op_eqD hr.units) s_eqD (px_it (u1 hr) (px_ixG 3 (u1 hr) (px_int)) (px_int)) (px_v 2) (nomark _))))) (pxb_one (pxs_expr (px_bmC 4 m_append PySem.F.plainAttrs_list PySem.F.slot_list_append PySem.F.type_list_append mt_append (pxa_cons (px_it (u1 hr) (px_bmC 3 m_popAt PySem.F.plainAttrs_list PySem.F.slot_list_pop PySem.F.type_list_pop mt_popAt (pxa_cons (px_int) (pxa_nil))) (px_int)) (pxa_nil)))))) (pxb_one (pxs_if (pxt_cmp (op_neD hr.units) s_neD (px_v 5) (px_tup (pxa_nil)) (nomark _)) (pxb_cons (pxs_expr (px_bmC 4 m_append PySem.F.plainAttrs_list PySem.F.slot_list_append PySem.F.type_list_append mt_append (pxa_cons (px_v 5) (pxa_nil)))) (pxb_one (pxs_set (i := 2) nd (pxk_im (px_op op_addG s_addG (px_v 2) (px_Ty call_int1 c_int rfl fx.n_int rfl (pxa_cons (px_cmp (op_eqD hr.units) s_eqD (px_v 5) (px_tup (pxa_cons (px_str) (pxa_nil))) (nomark _)) (pxa_nil)))))))) (pxb_nil))))) (pxb_frz 4 (pxb_one (pxs_ret (px_Ty call_tuple_of c_tuple rfl fx.n_tuple rfl (pxa_cons (px_v 4) (pxa_nil)))))))
theorem C__law_woven (fx : Fx P w K mg base) : Cal P w K mg base 1 "_law_woven" (spP K P__law_woven) := by
  obtain ⟨f, fd, D, hm⟩ := fx.f__law_woven
  exact ⟨f, fd, ["clock", "acts"], ok__law_woven fx D, hm, D.kp, D.bindsN (fun _ _ _ _ _ _ us hu => by match us, hu with | [_, _], _ => rfl)⟩
theorem sc__law_first : FnScope N__law_first ["rig"] (defScope (top 113)) := ⟨rfl, rfl, rfl, by decide +kernel, rfl, by decide +kernel, by decide +kernel⟩
theorem ok__law_first (fx : Fx P w K mg base) {f : Addr} {fd : FuncData} (D : FunD K "_law_first" "_law_first" (defArgs (top 113)) (defBody (top 113)) (defScope (top 113)) [] [] f fd) : FnOk P w K mg base CX0 1 f fd ["rig"] (spP K P__law_first) := by
  refine fnP (N := N__law_first) (fb := B__law_first) D sc__law_first 1 rfl (by decide) fun X F cdv A outer s H E hr hX => ?_
  subst hX
  have nd := sc__law_first.nd
  exact pxb_one (pxs_ret (px_tup (pxa_cons (px_op op_mulG s_mulG (px_tup (pxa_cons (px_tup (pxa_cons (px_int) (pxa_cons (px_int) (pxa_cons (px_int) (pxa_cons (px_int) (pxa_nil)))))) (pxa_nil))) (px_B call_len c_len rfl fx.n_len rfl (pxa_cons (px_it (u1 hr) (px_v 0) (px_int)) (pxa_nil)))) (pxa_cons (px_un un_neg s_neg (px_int)) (pxa_cons (px_un un_neg s_neg (px_int)) (pxa_cons (px_tup (pxa_nil)) (pxa_nil)))))))
theorem C__law_first (fx : Fx P w K mg base) : Cal P w K mg base 1 "_law_first" (spP K P__law_first) := by
  obtain ⟨f, fd, D, hm⟩ := fx.f__law_first
  exact ⟨f, fd, ["rig"], ok__law_first fx D, hm, D.kp, D.bindsN (fun _ _ _ _ _ _ us hu => by match us, hu with | [_], _ => rfl)⟩
theorem sc__law_level : FnScope N__law_level ["run"] (defScope (top 108)) := ⟨rfl, rfl, rfl, by decide +kernel, rfl, by decide +kernel, by decide +kernel⟩
theorem ok__law_level (fx : Fx P w K mg base) {f : Addr} {fd : FuncData} (D : FunD K "_law_level" "_law_level" (defArgs (top 108)) (defBody (top 108)) (defScope (top 108)) [] [] f fd) : FnOk P w K mg base CX0 1 f fd ["run"] (spP K P__law_level) := by
  refine fnP (N := N__law_level) (fb := B__law_level) D sc__law_level 1 rfl (by decide) fun X F cdv A outer s H E hr hX => ?_
  subst hX
  have nd := sc__law_level.nd
  exact pxb_cons (pxs_asg (px_v 0) (pxg_t rfl (pxgs_cons (pxg_n 1 nd) (pxgs_cons (pxg_n 2 nd) (pxgs_cons (pxg_n 3 nd) (pxgs_cons (pxg_n 4 nd) (pxgs_nil))))))) (pxb_one (pxs_ret (px_if (pxt_cmp op_ltG s_ltG (px_v 3) (px_v 4) (nomark _)) (px_op op_addG s_addG (px_v 1) (px_op op_fdiv s_div (px_op op_mulG s_mulG (px_op op_sub s_sub (px_v 2) (px_v 1)) (px_v 3)) (px_v 4))) (px_v 2))))
theorem C__law_level (fx : Fx P w K mg base) : Cal P w K mg base 1 "_law_level" (spP K P__law_level) := by
  obtain ⟨f, fd, D, hm⟩ := fx.f__law_level
  exact ⟨f, fd, ["run"], ok__law_level fx D, hm, D.kp, D.bindsN (fun _ _ _ _ _ _ us hu => by match us, hu with | [_], _ => rfl)⟩
theorem sc__law_look : FnScope N__law_look ["rig", "stage"] (defScope (top 115)) := ⟨rfl, rfl, rfl, by decide +kernel, rfl, by decide +kernel, by decide +kernel⟩
theorem ok__law_look (fx : Fx P w K mg base) {f : Addr} {fd : FuncData} (D : FunD K "_law_look" "_law_look" (defArgs (top 115)) (defBody (top 115)) (defScope (top 115)) [] [] f fd) : FnOk P w K mg base CX0 2 f fd ["rig", "stage"] (spP K P__law_look) := by
  refine fnP (N := N__law_look) (fb := B__law_look) D sc__law_look 2 rfl (by decide) fun X F cdv A outer s H E hr hX => ?_
  subst hX
  have nd := sc__law_look.nd
  exact pxb_cons (pxs_set (i := 2) nd (pxk_im (px_n (pxn_Ty (call_dictP rfl) c_dictP rfl fx.n_dict rfl (pxa_cons (px_n (pxn_Ty (call_listG rfl) c_listG rfl fx.n_list rfl (pxa_cons (px_it (u1 hr) (px_v 1) (px_int)) (pxa_nil)))) (pxa_nil)))))) (pxb_one (pxs_ret (px_Ty call_tuple_of c_tuple rfl fx.n_tuple rfl (pxa_cons (px_n (pxn_lc [("at", 3)] rfl nd (pxi_rng1 fx.n_range (pxa_cons (px_B call_len c_len rfl fx.n_len rfl (pxa_cons (px_it (u1 hr) (px_v 0) (px_int)) (pxa_nil))) (pxa_nil))) (blkOk_by (N := N__law_look) (sc := defScope (top 115)) (by decide +kernel)) (by decide) (fun _ _ _ _ _ => pxg_n 3 nd) (fun _ _ _ _ _ => pxts_nil) (fun _ _ _ _ _ => px_get (u1 hr) (px_v 2) (px_it (u1 hr) (px_it (u1 hr) (px_v 0) (px_int)) (px_v 3)) (px_call (C__law_level fx) hr (by decide) (pxa_cons (px_it (u1 hr) (px_it (u1 hr) (px_v 1) (px_int)) (px_v 3)) (pxa_nil)))))) (pxa_nil)))))
theorem C__law_look (fx : Fx P w K mg base) : Cal P w K mg base 2 "_law_look" (spP K P__law_look) := by
  obtain ⟨f, fd, D, hm⟩ := fx.f__law_look
  exact ⟨f, fd, ["rig", "stage"], ok__law_look fx D, hm, D.kp, D.bindsN (fun _ _ _ _ _ _ us hu => by match us, hu with | [_, _], _ => rfl)⟩
theorem sc__law_meaning : FnScope N__law_meaning ["rig", "cues", "place"] (defScope (top 107)) := ⟨rfl, rfl, rfl, by decide +kernel, rfl, by decide +kernel, by decide +kernel⟩
theorem ok__law_meaning (fx : Fx P w K mg base) {f : Addr} {fd : FuncData} (D : FunD K "_law_meaning" "_law_meaning" (defArgs (top 107)) (defBody (top 107)) (defScope (top 107)) [] [] f fd) : FnOk P w K mg base CX0 1 f fd ["rig", "cues", "place"] (spP K P__law_meaning) := by
  refine fnP (N := N__law_meaning) (fb := B__law_meaning) D sc__law_meaning 3 rfl (by decide) fun X F cdv A outer s H E hr hX => ?_
  subst hX
  have nd := sc__law_meaning.nd
  exact pxb_cons (pxs_set (i := 3) nd (pxk_cl (pxn_Ty (call_dictP rfl) c_dictP rfl fx.n_dict rfl (pxa_cons (px_n (pxn_lc [("channel", 9)] rfl nd (pxi_any (px_it (u1 hr) (px_v 0) (px_int))) (blkOk_by (N := N__law_meaning) (sc := defScope (top 107)) (by decide +kernel)) (by decide) (fun _ _ _ _ _ => pxg_n 9 nd) (fun _ _ _ _ _ => pxts_nil) (fun _ _ _ _ _ => px_tup (pxa_cons (px_v 9) (pxa_cons (px_int) (pxa_nil)))))) (pxa_nil))))) (pxb_cons (pxs_for rfl PassesOwn.leaving (pxi_any (px_sl (px_v 1) (pxo_none) (pxo_some (px_op op_addG s_addG (px_v 2) (px_int))))) (pxg_t rfl (pxgs_cons (pxg_n 4 nd) (pxgs_cons (pxg_n 5 nd) (pxgs_cons (pxg_n 6 nd) (pxgs_cons (pxg_n 7 nd) (pxgs_cons (pxg_n 8 nd) (pxgs_nil))))))) (pxb_one (pxs_for rfl PassesOwn.leaving (pxi_any (px_v 5)) (pxg_t rfl (pxgs_cons (pxg_n 9 nd) (pxgs_cons (pxg_n 10 nd) (pxgs_nil)))) (pxb_one (pxs_sub 3 (u1 hr) (px_v 10) (px_v 9)))))) (pxb_one (pxs_ret (px_n (pxn_lc [("channel", 9)] rfl nd (pxi_any (px_it (u1 hr) (px_v 0) (px_int))) (blkOk_by (N := N__law_meaning) (sc := defScope (top 107)) (by decide +kernel)) (by decide) (fun _ _ _ _ _ => pxg_n 9 nd) (fun _ _ _ _ _ => pxts_nil) (fun _ _ _ _ _ => px_ixG 3 (u1 hr) (px_v 9)))))))
theorem C__law_meaning (fx : Fx P w K mg base) : Cal P w K mg base 1 "_law_meaning" (spP K P__law_meaning) := by
  obtain ⟨f, fd, D, hm⟩ := fx.f__law_meaning
  exact ⟨f, fd, ["rig", "cues", "place"], ok__law_meaning fx D, hm, D.kp, D.bindsN (fun _ _ _ _ _ _ us hu => by match us, hu with | [_, _, _], _ => rfl)⟩
theorem sc__law_sent : FnScope N__law_sent ["run", "level", "long"] (defScope (top 109)) := ⟨rfl, rfl, rfl, by decide +kernel, rfl, by decide +kernel, by decide +kernel⟩
theorem ok__law_sent (fx : Fx P w K mg base) {f : Addr} {fd : FuncData} (D : FunD K "_law_sent" "_law_sent" (defArgs (top 109)) (defBody (top 109)) (defScope (top 109)) [] [] f fd) : FnOk P w K mg base CX0 2 f fd ["run", "level", "long"] (spP K P__law_sent) := by
  refine fnP (N := N__law_sent) (fb := B__law_sent) D sc__law_sent 3 rfl (by decide) fun X F cdv A outer s H E hr hX => ?_
  subst hX
  have nd := sc__law_sent.nd
  exact pxb_cons (pxs_if (pxt_cmp (op_eqD hr.units) s_eqD (px_it (u1 hr) (px_v 0) (px_int)) (px_v 1) (nomark _)) (pxb_one (pxs_ret (px_v 0))) (pxb_nil)) (pxb_cons (pxs_set (i := 3) nd (pxk_im (px_call (C__law_level fx) hr (by decide) (pxa_cons (px_v 0) (pxa_nil))))) (pxb_one (pxs_ret (px_if (pxt_w (pxw_or (pxt_cmp (op_eqD hr.units) s_eqD (px_v 2) (px_int) (nomark _)) (pxw_one_or (pxt_cmp (op_eqD hr.units) s_eqD (px_v 3) (px_v 1) (nomark _))))) (px_tup (pxa_cons (px_v 1) (pxa_cons (px_v 1) (pxa_cons (px_int) (pxa_cons (px_int) (pxa_nil)))))) (px_tup (pxa_cons (px_v 3) (pxa_cons (px_v 1) (pxa_cons (px_int) (pxa_cons (px_v 2) (pxa_nil))))))))))
theorem C__law_sent (fx : Fx P w K mg base) : Cal P w K mg base 2 "_law_sent" (spP K P__law_sent) := by
  obtain ⟨f, fd, D, hm⟩ := fx.f__law_sent
  exact ⟨f, fd, ["run", "level", "long"], ok__law_sent fx D, hm, D.kp, D.bindsN (fun _ _ _ _ _ _ us hu => by match us, hu with | [_, _, _], _ => rfl)⟩
theorem sc__law_brought : FnScope N__law_brought ["rig", "cues", "stage", "place", "long", "channels"] (defScope (top 110)) := ⟨rfl, rfl, rfl, by decide +kernel, rfl, by decide +kernel, by decide +kernel⟩
theorem ok__law_brought (fx : Fx P w K mg base) {f : Addr} {fd : FuncData} (D : FunD K "_law_brought" "_law_brought" (defArgs (top 110)) (defBody (top 110)) (defScope (top 110)) [] [] f fd) : FnOk P w K mg base CX0 3 f fd ["rig", "cues", "stage", "place", "long", "channels"] (spP K P__law_brought) := by
  refine fnP (N := N__law_brought) (fb := B__law_brought) D sc__law_brought 6 rfl (by decide) fun X F cdv A outer s H E hr hX => ?_
  subst hX
  have nd := sc__law_brought.nd
  exact pxb_cons (pxs_set (i := 6) nd (pxk_im (px_call (C__law_meaning fx) hr (by decide) (pxa_cons (px_v 0) (pxa_cons (px_v 1) (pxa_cons (px_v 3) (pxa_nil))))))) (pxb_cons (pxs_set (i := 7) nd (pxk_cl (pxn_Ty (call_listG rfl) c_listG rfl fx.n_list rfl (pxa_cons (px_it (u1 hr) (px_v 2) (px_int)) (pxa_nil))))) (pxb_cons (pxs_for rfl PassesOwn.leaving (pxi_rng1 fx.n_range (pxa_cons (px_vw 7 (px_B call_len c_len rfl fx.n_len rfl (pxa_cons (px_v 7) (pxa_nil)))) (pxa_nil))) (pxg_n 8 nd) (pxb_one (pxs_if (pxt_cmp (op_inG (u1 hr)) s_inG (px_it (u1 hr) (px_it (u1 hr) (px_v 0) (px_int)) (px_v 8)) (px_v 5) (by with_unfolding_all rfl)) (pxb_one (pxs_sub 7 (u1 hr) (px_call (C__law_sent fx) hr (by decide) (pxa_cons (px_ixG 7 (u1 hr) (px_v 8)) (pxa_cons (px_it (u1 hr) (px_v 6) (px_v 8)) (pxa_cons (px_v 4) (pxa_nil))))) (px_v 8))) (pxb_nil)))) (pxb_frz 7 (pxb_one (pxs_ret (px_Ty call_tuple_of c_tuple rfl fx.n_tuple rfl (pxa_cons (px_v 7) (pxa_nil))))))))
theorem C__law_brought (fx : Fx P w K mg base) : Cal P w K mg base 3 "_law_brought" (spP K P__law_brought) := by
  obtain ⟨f, fd, D, hm⟩ := fx.f__law_brought
  exact ⟨f, fd, ["rig", "cues", "stage", "place", "long", "channels"], ok__law_brought fx D, hm, D.kp, D.bindsN (fun _ _ _ _ _ _ us hu => by match us, hu with | [_, _, _, _, _, _], _ => rfl)⟩
theorem sc__law_due : FnScope N__law_due ["cues", "place"] (defScope (top 111)) := ⟨rfl, rfl, rfl, by decide +kernel, rfl, by decide +kernel, by decide +kernel⟩
theorem ok__law_due (fx : Fx P w K mg base) {f : Addr} {fd : FuncData} (D : FunD K "_law_due" "_law_due" (defArgs (top 111)) (defBody (top 111)) (defScope (top 111)) [] [] f fd) : FnOk P w K mg base CX0 1 f fd ["cues", "place"] (spP K P__law_due) := by
  refine fnP (N := N__law_due) (fb := B__law_due) D sc__law_due 2 rfl (by decide) fun X F cdv A outer s H E hr hX => ?_
  subst hX
  have nd := sc__law_due.nd
  exact pxb_one (pxs_ret (px_if (pxt_w (pxw_and (pxt_cmp op_notN s_notN (px_it (u1 hr) (px_it (u1 hr) (px_v 0) (px_v 1)) (px_int)) (px_non) (nomark _)) (pxw_one_and (pxt_cmp op_ltG s_ltG (px_op op_addG s_addG (px_v 1) (px_int)) (px_B call_len c_len rfl fx.n_len rfl (pxa_cons (px_v 0) (pxa_nil))) (nomark _))))) (px_it (u1 hr) (px_it (u1 hr) (px_v 0) (px_v 1)) (px_int)) (px_un un_neg s_neg (px_int))))
theorem C__law_due (fx : Fx P w K mg base) : Cal P w K mg base 1 "_law_due" (spP K P__law_due) := by
  obtain ⟨f, fd, D, hm⟩ := fx.f__law_due
  exact ⟨f, fd, ["cues", "place"], ok__law_due fx D, hm, D.kp, D.bindsN (fun _ _ _ _ _ _ us hu => by match us, hu with | [_, _], _ => rfl)⟩
theorem sc__law_started : FnScope N__law_started ["rig", "cues", "stage", "place"] (defScope (top 112)) := ⟨rfl, rfl, rfl, by decide +kernel, rfl, by decide +kernel, by decide +kernel⟩
theorem ok__law_started (fx : Fx P w K mg base) {f : Addr} {fd : FuncData} (D : FunD K "_law_started" "_law_started" (defArgs (top 112)) (defBody (top 112)) (defScope (top 112)) [] [] f fd) : FnOk P w K mg base CX0 4 f fd ["rig", "cues", "stage", "place"] (spP K P__law_started) := by
  refine fnP (N := N__law_started) (fb := B__law_started) D sc__law_started 4 rfl (by decide) fun X F cdv A outer s H E hr hX => ?_
  subst hX
  have nd := sc__law_started.nd
  exact pxb_cons (pxs_asg (px_it (u1 hr) (px_v 1) (px_v 3)) (pxg_t rfl (pxgs_cons (pxg_n 4 nd) (pxgs_cons (pxg_n 5 nd) (pxgs_cons (pxg_n 6 nd) (pxgs_cons (pxg_n 7 nd) (pxgs_cons (pxg_n 8 nd) (pxgs_nil)))))))) (pxb_cons (pxs_set (i := 9) nd (pxk_im (px_if (pxt_val (px_v 8)) (px_it (u1 hr) (px_v 0) (px_int)) (px_n (pxn_lc [("channel", 10), ("level", 11)] rfl nd (pxi_any (px_v 5)) (blkOk_by (N := N__law_started) (sc := defScope (top 112)) (by decide +kernel)) (by decide) (fun _ _ _ _ _ => pxg_t rfl (pxgs_cons (pxg_n 10 nd) (pxgs_cons (pxg_n 11 nd) (pxgs_nil)))) (fun _ _ _ _ _ => pxts_nil) (fun _ _ _ _ _ => px_v 10)))))) (pxb_one (pxs_ret (px_tup (pxa_cons (px_call (C__law_brought fx) hr (by decide) (pxa_cons (px_v 0) (pxa_cons (px_v 1) (pxa_cons (px_v 2) (pxa_cons (px_v 3) (pxa_cons (px_v 6) (pxa_cons (px_v 9) (pxa_nil)))))))) (pxa_cons (px_v 3) (pxa_cons (px_call (C__law_due fx) hr (by decide) (pxa_cons (px_v 1) (pxa_cons (px_v 3) (pxa_nil)))) (pxa_cons (px_it (u1 hr) (px_v 2) (px_int)) (pxa_nil)))))))))
theorem C__law_started (fx : Fx P w K mg base) : Cal P w K mg base 4 "_law_started" (spP K P__law_started) := by
  obtain ⟨f, fd, D, hm⟩ := fx.f__law_started
  exact ⟨f, fd, ["rig", "cues", "stage", "place"], ok__law_started fx D, hm, D.kp, D.bindsN (fun _ _ _ _ _ _ us hu => by match us, hu with | [_, _, _, _], _ => rfl)⟩
theorem sc__law_done : FnScope N__law_done ["rig", "cues", "back", "stage", "act"] (defScope (top 114)) := ⟨rfl, rfl, rfl, by decide +kernel, rfl, by decide +kernel, by decide +kernel⟩
theorem ok__law_done (fx : Fx P w K mg base) {f : Addr} {fd : FuncData} (D : FunD K "_law_done" "_law_done" (defArgs (top 114)) (defBody (top 114)) (defScope (top 114)) [] [] f fd) : FnOk P w K mg base CX0 5 f fd ["rig", "cues", "back", "stage", "act"] (spP K P__law_done) := by
  refine fnP (N := N__law_done) (fb := B__law_done) D sc__law_done 5 rfl (by decide) fun X F cdv A outer s H E hr hX => ?_
  subst hX
  have nd := sc__law_done.nd
  exact pxb_cons (pxs_asg (px_v 3) (pxg_t rfl (pxgs_cons (pxg_n 5 nd) (pxgs_cons (pxg_n 6 nd) (pxgs_cons (pxg_n 7 nd) (pxgs_cons (pxg_n 8 nd) (pxgs_nil))))))) (pxb_cons (pxs_setLc (i := 9) [("cue", 17)] rfl nd (pxi_any (px_v 1)) (blkOk_by (N := N__law_done) (sc := defScope (top 114)) (by decide +kernel)) (by decide) (fun _ _ _ _ _ _ z => tXK_im z) (fun _ _ _ _ _ => pxg_n 17 nd) (fun _ _ _ _ _ => pxts_nil) (fun _ _ _ _ _ => px_it (u1 hr) (px_v 17) (px_int))) (pxb_cons (pxs_if (pxt_cmp (op_eqD hr.units) s_eqD (px_it (u1 hr) (px_v 4) (px_int)) (px_str) (nomark _)) (pxb_one (pxs_ret (px_if (pxt_cmp op_ltG s_ltG (px_op op_addG s_addG (px_v 6) (px_int)) (px_B call_len c_len rfl fx.n_len rfl (pxa_cons (px_v 1) (pxa_nil))) (nomark _)) (px_call (C__law_started fx) hr (by decide) (pxa_cons (px_v 0) (pxa_cons (px_v 1) (pxa_cons (px_v 3) (pxa_cons (px_op op_addG s_addG (px_v 6) (px_int)) (pxa_nil)))))) (px_v 3)))) (pxb_nil)) (pxb_cons (pxs_if (pxt_cmp (op_eqD hr.units) s_eqD (px_it (u1 hr) (px_v 4) (px_int)) (px_str) (nomark _)) (pxb_cons (pxs_if (pxt_cmp (op_eqD hr.units) s_eqD (px_v 6) (px_un un_neg s_neg (px_int)) (nomark _)) (pxb_one (pxs_ret (px_v 3))) (pxb_nil)) (pxb_one (pxs_ret (px_tup (pxa_cons (px_call (C__law_brought fx) hr (by decide) (pxa_cons (px_v 0) (pxa_cons (px_v 1) (pxa_cons (px_v 3) (pxa_cons (px_op op_sub s_sub (px_v 6) (px_int)) (pxa_cons (px_v 2) (pxa_cons (px_it (u1 hr) (px_v 0) (px_int)) (pxa_nil)))))))) (pxa_cons (px_op op_sub s_sub (px_v 6) (px_int)) (pxa_cons (px_un un_neg s_neg (px_int)) (pxa_cons (px_v 8) (pxa_nil))))))))) (pxb_nil)) (pxb_cons (pxs_if (pxt_cmp (op_eqD hr.units) s_eqD (px_it (u1 hr) (px_v 4) (px_int)) (px_str) (nomark _)) (pxb_cons (pxs_if (pxt_cmp (op_ninG (u1 hr)) s_inG (px_it (u1 hr) (px_v 4) (px_int)) (px_v 9) (by with_unfolding_all rfl)) (pxb_one (pxs_ret (px_v 3))) (pxb_nil)) (pxb_cons (pxs_set (i := 10) nd (pxk_im (px_bm m_index PySem.F.plainAttrs_list PySem.F.slot_list_index PySem.F.type_list_index mt_index (px_v 9) (pxa_cons (px_it (u1 hr) (px_v 4) (px_int)) (pxa_nil))))) (pxb_one (pxs_ret (px_tup (pxa_cons (px_call (C__law_brought fx) hr (by decide) (pxa_cons (px_v 0) (pxa_cons (px_v 1) (pxa_cons (px_v 3) (pxa_cons (px_v 10) (pxa_cons (px_it (u1 hr) (px_it (u1 hr) (px_v 1) (px_v 10)) (px_int)) (pxa_cons (px_it (u1 hr) (px_v 0) (px_int)) (pxa_nil)))))))) (pxa_cons (px_v 10) (pxa_cons (px_call (C__law_due fx) hr (by decide) (pxa_cons (px_v 1) (pxa_cons (px_v 10) (pxa_nil)))) (pxa_cons (px_v 8) (pxa_nil)))))))))) (pxb_nil)) (pxb_cons (pxs_if (pxt_cmp (op_inG (u1 hr)) s_inG (px_it (u1 hr) (px_v 4) (px_int)) (px_tup (pxa_cons (px_str) (pxa_cons (px_str) (pxa_nil)))) (by with_unfolding_all rfl)) (pxb_cons (pxs_set (i := 11) nd (pxk_im (px_op op_addG s_addG (px_n (pxn_lc [("pair", 18)] rfl nd (pxi_any (px_v 8)) (blkOk_by (N := N__law_done) (sc := defScope (top 114)) (by decide +kernel)) (by decide) (fun _ _ _ _ _ => pxg_n 18 nd) (fun _ _ _ _ _ => pxts_one (pxt_cmp (op_neD hr.units) s_neD (px_it (u1 hr) (px_v 18) (px_int)) (px_it (u1 hr) (px_v 4) (px_int)) (nomark _))) (fun _ _ _ _ _ => px_v 18))) (px_if (pxt_cmp (op_eqD hr.units) s_eqD (px_it (u1 hr) (px_v 4) (px_int)) (px_str) (nomark _)) (px_n (pxn_lst (pxa_cons (px_sl (px_v 4) (pxo_some (px_int)) (pxo_none)) (pxa_nil)))) (px_n (pxn_lst (pxa_nil))))))) (pxb_one (pxs_ret (px_tup (pxa_cons (px_v 5) (pxa_cons (px_v 6) (pxa_cons (px_v 7) (pxa_cons (px_Ty call_tuple_of c_tuple rfl fx.n_tuple rfl (pxa_cons (px_n (pxn_B call_sortA c_sortA rfl fx.n_sorted rfl (pxa_cons (px_v 11) (pxa_nil)))) (pxa_nil))) (pxa_nil))))))))) (pxb_nil)) (pxb_cons (pxs_set (i := 12) nd (pxk_cl (pxn_lst (pxa_nil)))) (pxb_cons (pxs_for rfl PassesOwn.leaving (pxi_any (px_v 5)) (pxg_t rfl (pxgs_cons (pxg_n 13 nd) (pxgs_cons (pxg_n 14 nd) (pxgs_cons (pxg_n 15 nd) (pxgs_cons (pxg_n 16 nd) (pxgs_nil)))))) (pxb_one (pxs_expr (px_bmC 12 m_append PySem.F.plainAttrs_list PySem.F.slot_list_append PySem.F.type_list_append mt_append (pxa_cons (px_if (pxt_cmp op_ltG s_ltG (px_op op_addG s_addG (px_v 15) (px_int)) (px_v 16) (nomark _)) (px_tup (pxa_cons (px_v 13) (pxa_cons (px_v 14) (pxa_cons (px_op op_addG s_addG (px_v 15) (px_int)) (pxa_cons (px_v 16) (pxa_nil)))))) (px_tup (pxa_cons (px_v 14) (pxa_cons (px_v 14) (pxa_cons (px_int) (pxa_cons (px_int) (pxa_nil))))))) (pxa_nil)))))) (pxb_frz 12 (pxb_cons (pxs_set (i := 3) nd (pxk_im (px_tup (pxa_cons (px_Ty call_tuple_of c_tuple rfl fx.n_tuple rfl (pxa_cons (px_v 12) (pxa_nil))) (pxa_cons (px_v 6) (pxa_cons (px_if (pxt_cmp op_gt s_gt (px_v 7) (px_int) (nomark _)) (px_op op_sub s_sub (px_v 7) (px_int)) (px_v 7)) (pxa_cons (px_v 8) (pxa_nil)))))))) (pxb_one (pxs_ret (px_if (pxt_cmp (op_eqD hr.units) s_eqD (px_v 7) (px_int) (nomark _)) (px_call (C__law_started fx) hr (by decide) (pxa_cons (px_v 0) (pxa_cons (px_v 1) (pxa_cons (px_v 3) (pxa_cons (px_op op_addG s_addG (px_v 6) (px_int)) (pxa_nil)))))) (px_v 3)))))))))))))
theorem C__law_done (fx : Fx P w K mg base) : Cal P w K mg base 5 "_law_done" (spP K P__law_done) := by
  obtain ⟨f, fd, D, hm⟩ := fx.f__law_done
  exact ⟨f, fd, ["rig", "cues", "back", "stage", "act"], ok__law_done fx D, hm, D.kp, D.bindsN (fun _ _ _ _ _ _ us hu => by match us, hu with | [_, _, _, _, _], _ => rfl)⟩
theorem sc__law_log : FnScope N__law_log ["rig", "cues", "back", "acts"] (defScope (top 121)) := ⟨rfl, rfl, rfl, by decide +kernel, rfl, by decide +kernel, by decide +kernel⟩
theorem ok__law_log (fx : Fx P w K mg base) {f : Addr} {fd : FuncData} (D : FunD K "_law_log" "_law_log" (defArgs (top 121)) (defBody (top 121)) (defScope (top 121)) [] [] f fd) : FnOk P w K mg base CX0 6 f fd ["rig", "cues", "back", "acts"] (spP K P__law_log) := by
  refine fnP (N := N__law_log) (fb := B__law_log) D sc__law_log 4 rfl (by decide) fun X F cdv A outer s H E hr hX => ?_
  subst hX
  have nd := sc__law_log.nd
  exact pxb_cons (pxs_par3 4 5 6 rfl nd (pxk_im (px_call (C__law_first fx) hr (by decide) (pxa_cons (px_v 0) (pxa_nil)))) (pxk_im (px_int)) (pxk_cl (pxn_lst (pxa_nil)))) (pxb_cons (pxs_set (i := 7) nd (pxk_cl (pxn_lst (pxa_cons (px_call (C__law_look fx) hr (by decide) (pxa_cons (px_v 0) (pxa_cons (px_v 4) (pxa_nil)))) (pxa_nil))))) (pxb_cons (pxs_for rfl PassesOwn.leaving (pxi_any (px_v 3)) (pxg_n 8 nd) (pxb_cons (pxs_set (i := 4) nd (pxk_im (px_call (C__law_done fx) hr (by decide) (pxa_cons (px_v 0) (pxa_cons (px_v 1) (pxa_cons (px_v 2) (pxa_cons (px_v 4) (pxa_cons (px_v 8) (pxa_nil))))))))) (pxb_cons (pxs_set (i := 5) nd (pxk_im (px_op op_addG s_addG (px_v 5) (px_Ty call_int1 c_int rfl fx.n_int rfl (pxa_cons (px_cmp (op_eqD hr.units) s_eqD (px_v 8) (px_tup (pxa_cons (px_str) (pxa_nil))) (nomark _)) (pxa_nil)))))) (pxb_cons (pxs_expr (px_bmC 7 m_append PySem.F.plainAttrs_list PySem.F.slot_list_append PySem.F.type_list_append mt_append (pxa_cons (px_call (C__law_look fx) hr (by decide) (pxa_cons (px_v 0) (pxa_cons (px_v 4) (pxa_nil)))) (pxa_nil)))) (pxb_one (pxs_expr (px_bmC 6 m_append PySem.F.plainAttrs_list PySem.F.slot_list_append PySem.F.type_list_append mt_append (pxa_cons (px_tup (pxa_cons (px_v 5) (pxa_cons (px_it (u1 hr) (px_v 4) (px_int)) (pxa_cons (px_ixG 7 (u1 hr) (px_un un_neg s_neg (px_int))) (pxa_nil))))) (pxa_nil))))))))) (pxb_frz 7 (pxb_frz 6 (pxb_one (pxs_ret (px_tup (pxa_cons (px_Ty call_tuple_of c_tuple rfl fx.n_tuple rfl (pxa_cons (px_v 6) (pxa_nil))) (pxa_cons (px_Ty call_tuple_of c_tuple rfl fx.n_tuple rfl (pxa_cons (px_v 7) (pxa_nil))) (pxa_cons (px_v 4) (pxa_nil)))))))))))
theorem C__law_log (fx : Fx P w K mg base) : Cal P w K mg base 6 "_law_log" (spP K P__law_log) := by
  obtain ⟨f, fd, D, hm⟩ := fx.f__law_log
  exact ⟨f, fd, ["rig", "cues", "back", "acts"], ok__law_log fx D, hm, D.kp, D.bindsN (fun _ _ _ _ _ _ us hu => by match us, hu with | [_, _, _, _], _ => rfl)⟩
theorem sc__law_same : FnScope N__law_same ["told", "due"] (defScope (top 100)) := ⟨rfl, rfl, rfl, by decide +kernel, rfl, by decide +kernel, by decide +kernel⟩
theorem ok__law_same (fx : Fx P w K mg base) (m : Nat) (ih : Cal P w K mg base m "_law_same" (spP K (Q__law_same m))) {f : Addr} {fd : FuncData} (D : FunD K "_law_same" "_law_same" (defArgs (top 100)) (defBody (top 100)) (defScope (top 100)) [] [] f fd) : FnOk P w K mg base CX0 (m + 1) f fd ["told", "due"] (spP K (Q__law_same (m + 1))) := by
  refine fnP (N := N__law_same) (fb := B__law_same (Q__law_same m)) D sc__law_same 2 rfl (by decide) fun X F cdv A outer s H E hr hX => ?_
  subst hX
  have nd := sc__law_same.nd
  exact pxb_cons (pxs_if (pxt_w (pxw_or (pxt_w (pxw_and (pxt_val (px_isT "tuple" fx.n_isinstance fx.n_tuple (px_v 1))) (pxw_one_and (pxt_val (px_isT "tuple" fx.n_isinstance fx.n_tuple (px_v 0)))))) (pxw_one_or (pxt_w (pxw_and (pxt_val (px_isT "list" fx.n_isinstance fx.n_list (px_v 1))) (pxw_one_and (pxt_val (px_isT "list" fx.n_isinstance fx.n_list (px_v 0))))))))) (pxb_one (pxs_ret (px_and (px_cmp (op_eqD hr.units) s_eqD (px_B call_len c_len rfl fx.n_len rfl (pxa_cons (px_v 0) (pxa_nil))) (px_B call_len c_len rfl fx.n_len rfl (pxa_cons (px_v 1) (pxa_nil))) (nomark _)) (px_one (px_B (cr_all rfl) c_all rfl fx.n_all rfl (pxa_cons (px_n (pxn_lc [("at", 2)] rfl nd (pxi_rng1 fx.n_range (pxa_cons (px_B call_len c_len rfl fx.n_len rfl (pxa_cons (px_v 1) (pxa_nil))) (pxa_nil))) (blkOk_by (N := N__law_same) (sc := defScope (top 100)) (by decide +kernel)) (by decide) (fun _ _ _ _ _ => pxg_n 2 nd) (fun _ _ _ _ _ => pxts_nil) (fun _ _ _ _ _ => px_call ih hr (Nat.le_refl _) (pxa_cons (px_it (u1 hr) (px_v 0) (px_v 2)) (pxa_cons (px_it (u1 hr) (px_v 1) (px_v 2)) (pxa_nil)))))) (pxa_nil))))))) (pxb_nil)) (pxb_cons (pxs_if (pxt_w (pxw_or (pxt_val (px_isT "tuple" fx.n_isinstance fx.n_tuple (px_v 1))) (pxw_or (pxt_val (px_isT "list" fx.n_isinstance fx.n_list (px_v 1))) (pxw_one_or (pxt_cmp (op_neD hr.units) s_neD (px_isT "bool" fx.n_isinstance fx.n_bool (px_v 1)) (px_isT "bool" fx.n_isinstance fx.n_bool (px_v 0)) (nomark _)))))) (pxb_one (pxs_ret (px_bl))) (pxb_nil)) (pxb_cons (pxs_if (pxt_w (pxw_or (pxt_cmp (op_neD hr.units) s_neD (px_isT "int" fx.n_isinstance fx.n_int (px_v 1)) (px_isT "int" fx.n_isinstance fx.n_int (px_v 0)) (nomark _)) (pxw_one_or (pxt_cmp (op_neD hr.units) s_neD (px_isT "str" fx.n_isinstance fx.n_str (px_v 1)) (px_isT "str" fx.n_isinstance fx.n_str (px_v 0)) (nomark _))))) (pxb_one (pxs_ret (px_bl))) (pxb_nil)) (pxb_one (pxs_ret (px_if (pxt_cmp op_isN s_isN (px_v 1) (px_non) (nomark _)) (px_cmp op_isN s_isN (px_v 0) (px_non) (nomark _)) (px_cmp (op_eqD hr.units) s_eqD (px_v 0) (px_v 1) (nomark _)))))))
theorem CQ__law_same (fx : Fx P w K mg base) : ∀ m, Cal P w K mg base m "_law_same" (spP K (Q__law_same m))
  | 0 => by
    obtain ⟨f, fd, D, hm⟩ := fx.f__law_same
    exact ⟨f, fd, ["told", "due"], fn_zero, hm, D.kp, D.bindsN (fun _ _ _ _ _ _ us hu => by match us, hu with | [_, _], _ => rfl)⟩
  | m + 1 => by
    have ih := CQ__law_same fx m
    obtain ⟨f, fd, D, hm⟩ := fx.f__law_same
    exact ⟨f, fd, ["told", "due"], ok__law_same fx m ih D, hm, D.kp, D.bindsN (fun _ _ _ _ _ _ us hu => by match us, hu with | [_, _], _ => rfl)⟩
theorem C__law_same (fx : Fx P w K mg base) : Cal P w K mg base 9 "_law_same" (spP K P__law_same) := CQ__law_same fx 9
theorem sc__law_is_word : FnScope N__law_is_word ["text"] (defScope (top 101)) := ⟨rfl, rfl, rfl, by decide +kernel, rfl, by decide +kernel, by decide +kernel⟩
theorem ok__law_is_word (fx : Fx P w K mg base) {f : Addr} {fd : FuncData} (D : FunD K "_law_is_word" "_law_is_word" (defArgs (top 101)) (defBody (top 101)) (defScope (top 101)) [] [] f fd) : FnOk P w K mg base CX0 1 f fd ["text"] (spP K P__law_is_word) := by
  refine fnP (N := N__law_is_word) (fb := B__law_is_word) D sc__law_is_word 1 rfl (by decide) fun X F cdv A outer s H E hr hX => ?_
  subst hX
  have nd := sc__law_is_word.nd
  exact pxb_one (pxs_ret (px_and (px_cmp (op_neD hr.units) s_neD (px_v 0) (px_str) (nomark _)) (px_one (px_B (cr_all rfl) c_all rfl fx.n_all rfl (pxa_cons (px_n (pxn_lc [("sign", 1)] rfl nd (pxi_any (px_v 0)) (blkOk_by (N := N__law_is_word) (sc := defScope (top 101)) (by decide +kernel)) (by decide) (fun _ _ _ _ _ => pxg_n 1 nd) (fun _ _ _ _ _ => pxts_nil) (fun _ _ _ _ _ => px_cmp (op_inG (u1 hr)) s_inG (px_v 1) (px_str) (by with_unfolding_all rfl)))) (pxa_nil))))))
theorem C__law_is_word (fx : Fx P w K mg base) : Cal P w K mg base 1 "_law_is_word" (spP K P__law_is_word) := by
  obtain ⟨f, fd, D, hm⟩ := fx.f__law_is_word
  exact ⟨f, fd, ["text"], ok__law_is_word fx D, hm, D.kp, D.bindsN (fun _ _ _ _ _ _ us hu => by match us, hu with | [_], _ => rfl)⟩
theorem sc__law_is_name : FnScope N__law_is_name ["value"] (defScope (top 102)) := ⟨rfl, rfl, rfl, by decide +kernel, rfl, by decide +kernel, by decide +kernel⟩
theorem ok__law_is_name (fx : Fx P w K mg base) {f : Addr} {fd : FuncData} (D : FunD K "_law_is_name" "_law_is_name" (defArgs (top 102)) (defBody (top 102)) (defScope (top 102)) [] [] f fd) : FnOk P w K mg base CX0 2 f fd ["value"] (spP K P__law_is_name) := by
  refine fnP (N := N__law_is_name) (fb := B__law_is_name) D sc__law_is_name 1 rfl (by decide) fun X F cdv A outer s H E hr hX => ?_
  subst hX
  have nd := sc__law_is_name.nd
  exact pxb_cons (pxs_set (i := 1) nd (pxk_im (px_n (pxn_lst (pxa_cons (px_str) (pxa_cons (px_str) (pxa_cons (px_str) (pxa_cons (px_str) (pxa_cons (px_str) (pxa_cons (px_str) (pxa_cons (px_str) (pxa_cons (px_str) (pxa_cons (px_str) (pxa_cons (px_str) (pxa_cons (px_str) (pxa_cons (px_str) (pxa_cons (px_str) (pxa_cons (px_str) (pxa_cons (px_str) (pxa_nil)))))))))))))))))))) (pxb_cons (pxs_set (i := 1) nd (pxk_im (px_op op_addG s_addG (px_v 1) (px_n (pxn_lst (pxa_cons (px_str) (pxa_cons (px_str) (pxa_cons (px_str) (pxa_cons (px_str) (pxa_cons (px_str) (pxa_cons (px_str) (pxa_cons (px_str) (pxa_cons (px_str) (pxa_cons (px_str) (pxa_nil))))))))))))))) (pxb_one (pxs_ret (px_and (px_isT "str" fx.n_isinstance fx.n_str (px_v 0)) (px_and (px_call (C__law_is_word fx) hr (by decide) (pxa_cons (px_v 0) (pxa_nil))) (px_and (px_cmp op_ltG s_ltG (px_B call_len c_len rfl fx.n_len rfl (pxa_cons (px_v 0) (pxa_nil))) (px_int) (nomark _)) (px_one (px_cmp (op_ninG (u1 hr)) s_inG (px_v 0) (px_v 1) (by with_unfolding_all rfl)))))))))
theorem C__law_is_name (fx : Fx P w K mg base) : Cal P w K mg base 2 "_law_is_name" (spP K P__law_is_name) := by
  obtain ⟨f, fd, D, hm⟩ := fx.f__law_is_name
  exact ⟨f, fd, ["value"], ok__law_is_name fx D, hm, D.kp, D.bindsN (fun _ _ _ _ _ _ us hu => by match us, hu with | [_], _ => rfl)⟩
theorem sc__law_name : FnScope N__law_name ["pot", "taken"] (defScope (top 103)) := ⟨rfl, rfl, rfl, by decide +kernel, rfl, by decide +kernel, by decide +kernel⟩
theorem ok__law_name (fx : Fx P w K mg base) {f : Addr} {fd : FuncData} (D : FunD K "_law_name" "_law_name" (defArgs (top 103)) (defBody (top 103)) (defScope (top 103)) [] [] f fd) : FnOk P w K mg base CX0 3 f fd ["pot", "taken"] (spR K P__law_name) := by
  refine fnR (N := N__law_name) (fb := B__law_name) D sc__law_name 2 rfl (by decide) fun X F cdv A outer s H E hr hX => ?_
  subst hX
  have nd := sc__law_name.nd
  exact pxb_cons (pxs_asg (px_tup (pxa_cons (px_str) (pxa_cons (px_str) (pxa_nil)))) (pxg_t rfl (pxgs_cons (pxg_n 2 nd) (pxgs_cons (pxg_n 3 nd) (pxgs_nil))))) (pxb_cons (pxs_for rfl PassesOwn.leaving (pxi_rng1 fx.n_range (pxa_cons (px_callR 0 (C__law_pick fx) hr (by decide) (pxa_cons (px_tup (pxa_cons (px_int) (pxa_cons (px_int) (pxa_cons (px_int) (pxa_cons (px_int) (pxa_cons (px_int) (pxa_cons (px_int) (pxa_nil)))))))) (pxa_nil))) (pxa_nil))) (pxg_n 4 nd) (pxb_one (pxs_set (i := 3) nd (pxk_im (px_op op_addG s_addG (px_v 3) (px_callR 0 (C__law_pick fx) hr (by decide) (pxa_cons (px_v 2) (pxa_nil)))))))) (pxb_cons (pxs_set (i := 3) nd (pxk_im (px_if (pxt_cmp (op_eqD hr.units) s_eqD (px_callR 0 (C__law_draw fx) hr (by decide) (pxa_cons (px_int) (pxa_nil))) (px_int) (nomark _)) (px_callR 0 (C__law_pick fx) hr (by decide) (pxa_cons (px_tup (pxa_cons (px_str) (pxa_cons (px_str) (pxa_cons (px_str) (pxa_cons (px_str) (pxa_cons (px_str) (pxa_cons (px_str) (pxa_nil)))))))) (pxa_nil))) (px_v 3)))) (pxb_cons (pxs_set (i := 5) nd (pxk_im (px_op op_addG s_addG (px_n (pxn_lst (pxa_cons (px_v 3) (pxa_nil)))) (px_n (pxn_lc [("sign", 6)] rfl nd (pxi_any (px_v 2)) (blkOk_by (N := N__law_name) (sc := defScope (top 103)) (by decide +kernel)) (by decide) (fun _ _ _ _ _ => pxg_n 6 nd) (fun _ _ _ _ _ => pxts_nil) (fun _ _ _ _ _ => px_op op_addG s_addG (px_sl (px_v 3) (pxo_none) (pxo_some (px_int))) (px_v 6))))))) (pxb_one (pxs_ret (px_it (u1 hr) (px_n (pxn_lc [("each", 7)] rfl nd (pxi_any (px_v 5)) (blkOk_by (N := N__law_name) (sc := defScope (top 103)) (by decide +kernel)) (by decide) (fun _ _ _ _ _ => pxg_n 7 nd) (fun _ _ _ _ _ => pxts_one (pxt_w (pxw_and (pxt_val (px_call (C__law_is_name fx) hr (by decide) (pxa_cons (px_v 7) (pxa_nil)))) (pxw_one_and (pxt_cmp (op_ninG (u1 hr)) s_inG (px_v 7) (px_v 1) (by with_unfolding_all rfl)))))) (fun _ _ _ _ _ => px_v 7))) (px_int)))))))
theorem C__law_name (fx : Fx P w K mg base) : Cal P w K mg base 3 "_law_name" (spR K P__law_name) := by
  obtain ⟨f, fd, D, hm⟩ := fx.f__law_name
  exact ⟨f, fd, ["pot", "taken"], ok__law_name fx D, hm, D.kp, D.bindsN (fun _ _ _ _ _ _ us hu => by match us, hu with | [_, _], _ => rfl)⟩
theorem sc__law_rig : FnScope N__law_rig ["pot", "many", "top"] (defScope (top 104)) := ⟨rfl, rfl, rfl, by decide +kernel, rfl, by decide +kernel, by decide +kernel⟩
theorem ok__law_rig (fx : Fx P w K mg base) {f : Addr} {fd : FuncData} (D : FunD K "_law_rig" "_law_rig" (defArgs (top 104)) (defBody (top 104)) (defScope (top 104)) [] [] f fd) : FnOk P w K mg base CX0 4 f fd ["pot", "many", "top"] (spR K P__law_rig) := by
  refine fnR (N := N__law_rig) (fb := B__law_rig) D sc__law_rig 3 rfl (by decide) fun X F cdv A outer s H E hr hX => ?_
  subst hX
  have nd := sc__law_rig.nd
  exact pxb_cons (pxs_set (i := 3) nd (pxk_cl (pxn_lst (pxa_nil)))) (pxb_cons (pxs_for rfl PassesOwn.leaving (pxi_rng1 fx.n_range (pxa_cons (px_v 1) (pxa_nil))) (pxg_n 4 nd) (pxb_one (pxs_expr (px_bmC 3 m_append PySem.F.plainAttrs_list PySem.F.slot_list_append PySem.F.type_list_append mt_append (pxa_cons (px_vw 3 (px_callR 0 (C__law_name fx) hr (by decide) (pxa_cons (px_v 3) (pxa_nil)))) (pxa_nil)))))) (pxb_frz 3 (pxb_one (pxs_ret (px_tup (pxa_cons (px_Ty call_tuple_of c_tuple rfl fx.n_tuple rfl (pxa_cons (px_n (pxn_B call_sortA c_sortA rfl fx.n_sorted rfl (pxa_cons (px_v 3) (pxa_nil)))) (pxa_nil))) (pxa_cons (px_v 2) (pxa_nil))))))))
theorem C__law_rig (fx : Fx P w K mg base) : Cal P w K mg base 4 "_law_rig" (spR K P__law_rig) := by
  obtain ⟨f, fd, D, hm⟩ := fx.f__law_rig
  exact ⟨f, fd, ["pot", "many", "top"], ok__law_rig fx D, hm, D.kp, D.bindsN (fun _ _ _ _ _ _ us hu => by match us, hu with | [_, _, _], _ => rfl)⟩
theorem sc__law_act : FnScope N__law_act ["pot", "rig", "cues"] (defScope (top 116)) := ⟨rfl, rfl, rfl, by decide +kernel, rfl, by decide +kernel, by decide +kernel⟩
theorem ok__law_act (fx : Fx P w K mg base) {f : Addr} {fd : FuncData} (D : FunD K "_law_act" "_law_act" (defArgs (top 116)) (defBody (top 116)) (defScope (top 116)) [] [] f fd) : FnOk P w K mg base CX0 3 f fd ["pot", "rig", "cues"] (spR K P__law_act) := by
  refine fnR (N := N__law_act) (fb := B__law_act) D sc__law_act 3 rfl (by decide) fun X F cdv A outer s H E hr hX => ?_
  subst hX
  have nd := sc__law_act.nd
  exact pxb_cons (pxs_par2 3 4 rfl nd (pxk_im (px_callR 0 (C__law_draw fx) hr (by decide) (pxa_cons (px_int) (pxa_nil)))) (pxk_im (px_n (pxn_lc [("cue", 6)] rfl nd (pxi_any (px_v 2)) (blkOk_by (N := N__law_act) (sc := defScope (top 116)) (by decide +kernel)) (by decide) (fun _ _ _ _ _ => pxg_n 6 nd) (fun _ _ _ _ _ => pxts_nil) (fun _ _ _ _ _ => px_it (u1 hr) (px_v 6) (px_int)))))) (pxb_cons (pxs_if (pxt_cmp op_ltG s_ltG (px_v 3) (px_int) (nomark _)) (pxb_one (pxs_ret (px_tup (pxa_cons (px_str) (pxa_nil))))) (pxb_nil)) (pxb_cons (pxs_if (pxt_cmp (op_eqD hr.units) s_eqD (px_v 3) (px_int) (nomark _)) (pxb_one (pxs_ret (px_tup (pxa_cons (px_str) (pxa_nil))))) (pxb_nil)) (pxb_cons (pxs_if (pxt_cmp op_ltG s_ltG (px_v 3) (px_int) (nomark _)) (pxb_one (pxs_ret (px_tup (pxa_cons (px_str) (pxa_cons (px_if (pxt_w (pxw_and (pxt_cmp (op_neD hr.units) s_neD (px_v 4) (px_n (pxn_lst (pxa_nil))) (nomark _)) (pxw_one_and (pxt_cmp op_gt s_gt (px_callR 0 (C__law_draw fx) hr (by decide) (pxa_cons (px_int) (pxa_nil))) (px_int) (nomark _))))) (px_callR 0 (C__law_pick fx) hr (by decide) (pxa_cons (px_v 4) (pxa_nil))) (px_op op_addG s_addG (px_int) (px_callR 0 (C__law_draw fx) hr (by decide) (pxa_cons (px_int) (pxa_nil))))) (pxa_nil)))))) (pxb_nil)) (pxb_cons (pxs_if (pxt_cmp op_ltG s_ltG (px_v 3) (px_int) (nomark _)) (pxb_one (pxs_ret (px_tup (pxa_cons (px_str) (pxa_nil))))) (pxb_nil)) (pxb_cons (pxs_set (i := 5) nd (pxk_im (px_callR 0 (C__law_pick fx) hr (by decide) (pxa_cons (px_it (u1 hr) (px_v 1) (px_int)) (pxa_nil))))) (pxb_one (pxs_ret (px_if (pxt_cmp (op_eqD hr.units) s_eqD (px_callR 0 (C__law_draw fx) hr (by decide) (pxa_cons (px_int) (pxa_nil))) (px_int) (nomark _)) (px_tup (pxa_cons (px_str) (pxa_cons (px_v 5) (pxa_cons (px_callR 0 (C__law_draw fx) hr (by decide) (pxa_cons (px_op op_addG s_addG (px_it (u1 hr) (px_v 1) (px_int)) (px_int)) (pxa_nil))) (pxa_nil))))) (px_tup (pxa_cons (px_str) (pxa_cons (px_v 5) (pxa_nil))))))))))))
theorem C__law_act (fx : Fx P w K mg base) : Cal P w K mg base 3 "_law_act" (spR K P__law_act) := by
  obtain ⟨f, fd, D, hm⟩ := fx.f__law_act
  exact ⟨f, fd, ["pot", "rig", "cues"], ok__law_act fx D, hm, D.kp, D.bindsN (fun _ _ _ _ _ _ us hu => by match us, hu with | [_, _, _], _ => rfl)⟩
theorem sc__law_tick : FnScope N__law_tick ["pair"] (defScope (top 119)) := ⟨rfl, rfl, rfl, by decide +kernel, rfl, by decide +kernel, by decide +kernel⟩
theorem ok__law_tick (fx : Fx P w K mg base) {f : Addr} {fd : FuncData} (D : FunD K "_law_tick" "_law_tick" (defArgs (top 119)) (defBody (top 119)) (defScope (top 119)) [] [] f fd) : FnOk P w K mg base CX0 1 f fd ["pair"] (spP K P__law_tick) := by
  refine fnP (N := N__law_tick) (fb := B__law_tick) D sc__law_tick 1 rfl (by decide) fun X F cdv A outer s H E hr hX => ?_
  subst hX
  have nd := sc__law_tick.nd
  exact pxb_one (pxs_ret (px_it (u1 hr) (px_v 0) (px_int)))
theorem C__law_tick (fx : Fx P w K mg base) : Cal P w K mg base 1 "_law_tick" (spP K P__law_tick) := by
  obtain ⟨f, fd, D, hm⟩ := fx.f__law_tick
  exact ⟨f, fd, ["pair"], ok__law_tick fx D, hm, D.kp, D.bindsN (fun _ _ _ _ _ _ us hu => by match us, hu with | [_], _ => rfl)⟩
theorem sc__law_clock : FnScope N__law_clock ["pot", "rig", "cues", "many", "top"] (defScope (top 118)) := ⟨rfl, rfl, rfl, by decide +kernel, rfl, by decide +kernel, by decide +kernel⟩
theorem ok__law_clock (fx : Fx P w K mg base) {f : Addr} {fd : FuncData} (D : FunD K "_law_clock" "_law_clock" (defArgs (top 118)) (defBody (top 118)) (defScope (top 118)) [] [] f fd) : FnOk P w K mg base CX0 4 f fd ["pot", "rig", "cues", "many", "top"] (spR K P__law_clock) := by
  refine fnR (N := N__law_clock) (fb := B__law_clock) D sc__law_clock 5 rfl (by decide) fun X F cdv A outer s H E hr hX => ?_
  subst hX
  have nd := sc__law_clock.nd
  exact pxb_cons (pxs_par2 5 6 rfl nd (pxk_cl (pxn_lst (pxa_nil))) (pxk_im (px_int))) (pxb_cons (pxs_for rfl PassesOwn.leaving (pxi_rng1 fx.n_range (pxa_cons (px_v 3) (pxa_nil))) (pxg_n 7 nd) (pxb_cons (pxs_set (i := 8) nd (pxk_im (px_callR 0 (C__law_act fx) hr (by decide) (pxa_cons (px_v 1) (pxa_cons (px_v 2) (pxa_nil)))))) (pxb_cons (pxs_set (i := 6) nd (pxk_im (px_B (call_min2 rfl) c_min2 rfl fx.n_min rfl (pxa_cons (px_v 4) (pxa_cons (px_op op_addG s_addG (px_v 6) (px_callR 0 (C__law_pick fx) hr (by decide) (pxa_cons (px_tup (pxa_cons (px_int) (pxa_cons (px_int) (pxa_cons (px_int) (pxa_cons (px_int) (pxa_cons (px_int) (pxa_nil))))))) (pxa_nil)))) (pxa_nil)))))) (pxb_one (pxs_if (pxt_cmp (op_neD hr.units) s_neD (px_v 8) (px_tup (pxa_cons (px_str) (pxa_nil))) (nomark _)) (pxb_one (pxs_expr (px_bmC 5 m_append PySem.F.plainAttrs_list PySem.F.slot_list_append PySem.F.type_list_append mt_append (pxa_cons (px_tup (pxa_cons (px_v 6) (pxa_cons (px_v 8) (pxa_nil)))) (pxa_nil))))) (pxb_nil)))))) (pxb_frz 5 (pxb_one (pxs_ret (px_sl (px_Ty call_tuple_of c_tuple rfl fx.n_tuple rfl (pxa_cons (px_n (pxn_sortK (C__law_tick fx) hr (by decide) fx.n_sorted (px_v 5))) (pxa_nil))) (pxo_none) (pxo_some (px_int)))))))
theorem C__law_clock (fx : Fx P w K mg base) : Cal P w K mg base 4 "_law_clock" (spR K P__law_clock) := by
  obtain ⟨f, fd, D, hm⟩ := fx.f__law_clock
  exact ⟨f, fd, ["pot", "rig", "cues", "many", "top"], ok__law_clock fx D, hm, D.kp, D.bindsN (fun _ _ _ _ _ _ us hu => by match us, hu with | [_, _, _, _, _], _ => rfl)⟩
theorem sc_are_letters : FnScope N_are_letters ["value"] (defScope (top 14)) := ⟨rfl, rfl, rfl, by decide +kernel, rfl, by decide +kernel, by decide +kernel⟩
theorem ok_are_letters (fx : Fx P w K mg base) {f : Addr} {fd : FuncData} (D : FunD K "are_letters" "are_letters" (defArgs (top 14)) (defBody (top 14)) (defScope (top 14)) [] [] f fd) : FnOk P w K mg base CX0 1 f fd ["value"] (spP K P_are_letters) := by
  refine fnP (N := N_are_letters) (fb := B_are_letters) D sc_are_letters 1 rfl (by decide) fun X F cdv A outer s H E hr hX => ?_
  subst hX
  have nd := sc_are_letters.nd
  exact pxb_one (pxs_ret (px_and (px_isT "str" fx.n_isinstance fx.n_str (px_v 0)) (px_and (px_cmp (op_neD hr.units) s_neD (px_v 0) (px_str) (nomark _)) (px_one (px_B (cr_all rfl) c_all rfl fx.n_all rfl (pxa_cons (px_n (pxn_lc [("sign", 1)] rfl nd (pxi_any (px_v 0)) (blkOk_by (N := N_are_letters) (sc := defScope (top 14)) (by decide +kernel)) (by decide) (fun _ _ _ _ _ => pxg_n 1 nd) (fun _ _ _ _ _ => pxts_nil) (fun _ _ _ _ _ => px_cmp (op_inG (u1 hr)) s_inG (px_v 1) (px_g fx.g_LETTERS rfl) (by with_unfolding_all rfl)))) (pxa_nil)))))))
theorem C_are_letters (fx : Fx P w K mg base) : Cal P w K mg base 1 "are_letters" (spP K P_are_letters) := by
  obtain ⟨f, fd, D, hm⟩ := fx.f_are_letters
  exact ⟨f, fd, ["value"], ok_are_letters fx D, hm, D.kp, D.bindsN (fun _ _ _ _ _ _ us hu => by match us, hu with | [_], _ => rfl)⟩
theorem sc_is_name : FnScope N_is_name ["value"] (defScope (top 15)) := ⟨rfl, rfl, rfl, by decide +kernel, rfl, by decide +kernel, by decide +kernel⟩
theorem ok_is_name (fx : Fx P w K mg base) {f : Addr} {fd : FuncData} (D : FunD K "is_name" "is_name" (defArgs (top 15)) (defBody (top 15)) (defScope (top 15)) [] [] f fd) : FnOk P w K mg base CX0 2 f fd ["value"] (spP K P_is_name) := by
  refine fnP (N := N_is_name) (fb := B_is_name) D sc_is_name 1 rfl (by decide) fun X F cdv A outer s H E hr hX => ?_
  subst hX
  have nd := sc_is_name.nd
  exact pxb_one (pxs_ret (px_and (px_call (C_are_letters fx) hr (by decide) (pxa_cons (px_v 0) (pxa_nil))) (px_and (px_cmp op_leG s_leG (px_B call_len c_len rfl fx.n_len rfl (pxa_cons (px_v 0) (pxa_nil))) (px_g fx.g_LONGEST rfl) (nomark _)) (px_one (px_ninK fx.k_WORDS (px_v 0))))))
theorem C_is_name (fx : Fx P w K mg base) : Cal P w K mg base 2 "is_name" (spP K P_is_name) := by
  obtain ⟨f, fd, D, hm⟩ := fx.f_is_name
  exact ⟨f, fd, ["value"], ok_is_name fx D, hm, D.kp, D.bindsN (fun _ _ _ _ _ _ us hu => by match us, hu with | [_], _ => rfl)⟩
theorem sc_first_wrong_name : FnScope N_first_wrong_name ["values"] (defScope (top 17)) := ⟨rfl, rfl, rfl, by decide +kernel, rfl, by decide +kernel, by decide +kernel⟩
theorem ok_first_wrong_name (fx : Fx P w K mg base) {f : Addr} {fd : FuncData} (D : FunD K "first_wrong_name" "first_wrong_name" (defArgs (top 17)) (defBody (top 17)) (defScope (top 17)) [] [] f fd) : FnOk P w K mg base CX0 3 f fd ["values"] (spP K P_first_wrong_name) := by
  refine fnP (N := N_first_wrong_name) (fb := B_first_wrong_name) D sc_first_wrong_name 1 rfl (by decide) fun X F cdv A outer s H E hr hX => ?_
  subst hX
  have nd := sc_first_wrong_name.nd
  exact pxb_cons (pxs_for rfl PassesOwn.leaving (pxi_enumA fx.n_enumerate (pxa_cons (px_v 0) (pxa_nil))) (pxg_t rfl (pxgs_cons (pxg_n 1 nd) (pxgs_cons (pxg_n 2 nd) (pxgs_nil)))) (pxb_one (pxs_if (pxt_w (pxw_or (pxt_not (pxt_val (px_call (C_is_name fx) hr (by decide) (pxa_cons (px_v 2) (pxa_nil))))) (pxw_one_or (pxt_w (pxw_and (pxt_cmp op_gt s_gt (px_v 1) (px_int) (nomark _)) (pxw_one_and (pxt_cmp op_leG s_leG (px_v 2) (px_it (u1 hr) (px_v 0) (px_op op_sub s_sub (px_v 1) (px_int))) (nomark _)))))))) (pxb_one (pxs_ret (px_v 1))) (pxb_nil)))) (pxb_one (pxs_ret (px_non)))
theorem C_first_wrong_name (fx : Fx P w K mg base) : Cal P w K mg base 3 "first_wrong_name" (spP K P_first_wrong_name) := by
  obtain ⟨f, fd, D, hm⟩ := fx.f_first_wrong_name
  exact ⟨f, fd, ["values"], ok_first_wrong_name fx D, hm, D.kp, D.bindsN (fun _ _ _ _ _ _ us hu => by match us, hu with | [_], _ => rfl)⟩
theorem sc_need_channels : FnScope N_need_channels ["channels"] (defScope (top 46)) := ⟨rfl, rfl, rfl, by decide +kernel, rfl, by decide +kernel, by decide +kernel⟩
theorem ok_need_channels (fx : Fx P w K mg base) {f : Addr} {fd : FuncData} (D : FunD K "need_channels" "need_channels" (defArgs (top 46)) (defBody (top 46)) (defScope (top 46)) [] [] f fd) : FnOk P w K mg base CX0 4 f fd ["channels"] (spP K P_need_channels) := by
  refine fnP (N := N_need_channels) (fb := B_need_channels) D sc_need_channels 1 rfl (by decide) fun X F cdv A outer s H E hr hX => ?_
  subst hX
  have nd := sc_need_channels.nd
  exact pxb_cons (pxs_if (pxt_w (pxw_or (pxt_not (pxt_val (px_isT "tuple" fx.n_isinstance fx.n_tuple (px_v 0)))) (pxw_one_or (pxt_cmp (op_eqD hr.units) s_eqD (px_B call_len c_len rfl fx.n_len rfl (pxa_cons (px_v 0) (pxa_nil))) (px_int) (nomark _))))) (pxb_one (pxs_never)) (pxb_nil)) (pxb_cons (pxs_set (i := 1) nd (pxk_im (px_call (C_first_wrong_name fx) hr (by decide) (pxa_cons (px_sl (px_v 0) (pxo_none) (pxo_some (px_g fx.g_MOST_CHANNELS rfl))) (pxa_nil))))) (pxb_cons (pxs_if (pxt_cmp op_notN s_notN (px_v 1) (px_non) (nomark _)) (pxb_one (pxs_never)) (pxb_nil)) (pxb_one (pxs_if (pxt_cmp op_gt s_gt (px_B call_len c_len rfl fx.n_len rfl (pxa_cons (px_v 0) (pxa_nil))) (px_g fx.g_MOST_CHANNELS rfl) (nomark _)) (pxb_one (pxs_never)) (pxb_nil)))))
theorem C_need_channels (fx : Fx P w K mg base) : Cal P w K mg base 4 "need_channels" (spP K P_need_channels) := by
  obtain ⟨f, fd, D, hm⟩ := fx.f_need_channels
  exact ⟨f, fd, ["channels"], ok_need_channels fx D, hm, D.kp, D.bindsN (fun _ _ _ _ _ _ us hu => by match us, hu with | [_], _ => rfl)⟩
theorem sc_is_whole : FnScope N_is_whole ["value"] (defScope (top 19)) := ⟨rfl, rfl, rfl, by decide +kernel, rfl, by decide +kernel, by decide +kernel⟩
theorem ok_is_whole (fx : Fx P w K mg base) {f : Addr} {fd : FuncData} (D : FunD K "is_whole" "is_whole" (defArgs (top 19)) (defBody (top 19)) (defScope (top 19)) [] [] f fd) : FnOk P w K mg base CX0 1 f fd ["value"] (spP K P_is_whole) := by
  refine fnP (N := N_is_whole) (fb := B_is_whole) D sc_is_whole 1 rfl (by decide) fun X F cdv A outer s H E hr hX => ?_
  subst hX
  have nd := sc_is_whole.nd
  exact pxb_one (pxs_ret (px_and (px_isT "int" fx.n_isinstance fx.n_int (px_v 0)) (px_one (px_not (px_isT "bool" fx.n_isinstance fx.n_bool (px_v 0))))))
theorem C_is_whole (fx : Fx P w K mg base) : Cal P w K mg base 1 "is_whole" (spP K P_is_whole) := by
  obtain ⟨f, fd, D, hm⟩ := fx.f_is_whole
  exact ⟨f, fd, ["value"], ok_is_whole fx D, hm, D.kp, D.bindsN (fun _ _ _ _ _ _ us hu => by match us, hu with | [_], _ => rfl)⟩
theorem sc_is_number : FnScope N_is_number ["value", "low", "high"] (defScope (top 20)) := ⟨rfl, rfl, rfl, by decide +kernel, rfl, by decide +kernel, by decide +kernel⟩
theorem ok_is_number (fx : Fx P w K mg base) {f : Addr} {fd : FuncData} (D : FunD K "is_number" "is_number" (defArgs (top 20)) (defBody (top 20)) (defScope (top 20)) [] [] f fd) : FnOk P w K mg base CX0 2 f fd ["value", "low", "high"] (spP K P_is_number) := by
  refine fnP (N := N_is_number) (fb := B_is_number) D sc_is_number 3 rfl (by decide) fun X F cdv A outer s H E hr hX => ?_
  subst hX
  have nd := sc_is_number.nd
  exact pxb_one (pxs_ret (px_and (px_call (C_is_whole fx) hr (by decide) (pxa_cons (px_v 0) (pxa_nil))) (px_one (px_chain op_leG s_leG op_leG s_leG (px_v 1) (px_v 0) (px_v 2)))))
theorem C_is_number (fx : Fx P w K mg base) : Cal P w K mg base 2 "is_number" (spP K P_is_number) := by
  obtain ⟨f, fd, D, hm⟩ := fx.f_is_number
  exact ⟨f, fd, ["value", "low", "high"], ok_is_number fx D, hm, D.kp, D.bindsN (fun _ _ _ _ _ _ us hu => by match us, hu with | [_, _, _], _ => rfl)⟩
theorem sc_need_number : FnScope N_need_number ["value", "low", "high"] (defScope (top 22)) := ⟨rfl, rfl, rfl, by decide +kernel, rfl, by decide +kernel, by decide +kernel⟩
theorem ok_need_number (fx : Fx P w K mg base) {f : Addr} {fd : FuncData} (D : FunD K "need_number" "need_number" (defArgs (top 22)) (defBody (top 22)) (defScope (top 22)) [] [] f fd) : FnOk P w K mg base CX0 3 f fd ["value", "low", "high"] (spP K P_need_number) := by
  refine fnP (N := N_need_number) (fb := B_need_number) D sc_need_number 3 rfl (by decide) fun X F cdv A outer s H E hr hX => ?_
  subst hX
  have nd := sc_need_number.nd
  exact pxb_one (pxs_if (pxt_not (pxt_val (px_call (C_is_number fx) hr (by decide) (pxa_cons (px_v 0) (pxa_cons (px_v 1) (pxa_cons (px_v 2) (pxa_nil))))))) (pxb_one (pxs_never)) (pxb_nil))
theorem C_need_number (fx : Fx P w K mg base) : Cal P w K mg base 3 "need_number" (spP K P_need_number) := by
  obtain ⟨f, fd, D, hm⟩ := fx.f_need_number
  exact ⟨f, fd, ["value", "low", "high"], ok_need_number fx D, hm, D.kp, D.bindsN (fun _ _ _ _ _ _ us hu => by match us, hu with | [_, _, _], _ => rfl)⟩
theorem sc_Rig___init__ : FnScope N_Rig___init__ ["self", "channels", "top"] (defScope (inClass (top 47) 0)) := ⟨rfl, rfl, rfl, by decide +kernel, rfl, by decide +kernel, by decide +kernel⟩
theorem ok_Rig___init__ (fx : Fx P w K mg base) {f : Addr} {fd : FuncData} (D : FunD K "__init__" "Rig.__init__" (defArgs (inClass (top 47) 0)) (defBody (inClass (top 47) 0)) (defScope (inClass (top 47) 0)) [] [] f fd) : FnOk P w K mg base CX0 5 f fd ["self", "channels", "top"] (spR K P_Rig___init__) := by
  refine fnR (N := N_Rig___init__) (fb := B_Rig___init__) D sc_Rig___init__ 3 rfl (by decide) fun X F cdv A outer s H E hr hX => ?_
  subst hX
  have nd := sc_Rig___init__.nd
  exact pxb_cons (pxs_expr (px_call (C_need_channels fx) hr (by decide) (pxa_cons (px_v 1) (pxa_nil)))) (pxb_cons (pxs_expr (px_call (C_need_number fx) hr (by decide) (pxa_cons (px_v 2) (pxa_cons (px_g fx.g_LEAST_TOP rfl) (pxa_cons (px_g fx.g_MOST_TOP rfl) (pxa_nil)))))) (pxb_cons (pxs_put 0 "Rig" fx.a_Rig_channels (px_v 1)) (pxb_cons (pxs_put 0 "Rig" fx.a_Rig_top (px_v 2)) (pxb_one (pxs_put 0 "Rig" fx.a_Rig_parts (px_tup (pxa_cons (px_v 1) (pxa_cons (px_v 2) (pxa_nil)))))))))
theorem M_Rig (fx : Fx P w K mg base) : Mkr P w K mg base 5 "Rig" (spR K P_Rig___init__) := by
  obtain ⟨f, fd, D, hk, hm⟩ := fx.f_Rig___init__
  exact ⟨f, fd, ["self", "channels", "top"], hk, hm, ok_Rig___init__ fx D, D.bindsN (fun _ _ _ _ _ _ us hu => by match us, hu with | [_, _, _], _ => rfl)⟩
theorem sc_need_rig : FnScope N_need_rig ["value"] (defScope (top 48)) := ⟨rfl, rfl, rfl, by decide +kernel, rfl, by decide +kernel, by decide +kernel⟩
theorem ok_need_rig (fx : Fx P w K mg base) {f : Addr} {fd : FuncData} (D : FunD K "need_rig" "need_rig" (defArgs (top 48)) (defBody (top 48)) (defScope (top 48)) [] [] f fd) : FnOk P w K mg base CX0 1 f fd ["value"] (spP K P_need_rig) := by
  refine fnP (N := N_need_rig) (fb := B_need_rig) D sc_need_rig 1 rfl (by decide) fun X F cdv A outer s H E hr hX => ?_
  subst hX
  have nd := sc_need_rig.nd
  exact pxb_one (pxs_if (pxt_not (pxt_val (px_isO b_Rig c_Rig fx.i_Rig fx.n_isinstance fx.c_Rig (px_v 0)))) (pxb_one (pxs_never)) (pxb_nil))
theorem C_need_rig (fx : Fx P w K mg base) : Cal P w K mg base 1 "need_rig" (spP K P_need_rig) := by
  obtain ⟨f, fd, D, hm⟩ := fx.f_need_rig
  exact ⟨f, fd, ["value"], ok_need_rig fx D, hm, D.kp, D.bindsN (fun _ _ _ _ _ _ us hu => by match us, hu with | [_], _ => rfl)⟩
theorem sc_is_follow : FnScope N_is_follow ["value"] (defScope (top 60)) := ⟨rfl, rfl, rfl, by decide +kernel, rfl, by decide +kernel, by decide +kernel⟩
theorem ok_is_follow (fx : Fx P w K mg base) {f : Addr} {fd : FuncData} (D : FunD K "is_follow" "is_follow" (defArgs (top 60)) (defBody (top 60)) (defScope (top 60)) [] [] f fd) : FnOk P w K mg base CX0 3 f fd ["value"] (spP K P_is_follow) := by
  refine fnP (N := N_is_follow) (fb := B_is_follow) D sc_is_follow 1 rfl (by decide) fun X F cdv A outer s H E hr hX => ?_
  subst hX
  have nd := sc_is_follow.nd
  exact pxb_one (pxs_ret (px_or (px_cmp op_isN s_isN (px_v 0) (px_non) (nomark _)) (px_one (px_call (C_is_number fx) hr (by decide) (pxa_cons (px_v 0) (pxa_cons (px_g fx.g_LEAST_FOLLOW rfl) (pxa_cons (px_g fx.g_MOST_FOLLOW rfl) (pxa_nil))))))))
theorem C_is_follow (fx : Fx P w K mg base) : Cal P w K mg base 3 "is_follow" (spP K P_is_follow) := by
  obtain ⟨f, fd, D, hm⟩ := fx.f_is_follow
  exact ⟨f, fd, ["value"], ok_is_follow fx D, hm, D.kp, D.bindsN (fun _ _ _ _ _ _ us hu => by match us, hu with | [_], _ => rfl)⟩
theorem sc_is_truth : FnScope N_is_truth ["value"] (defScope (top 21)) := ⟨rfl, rfl, rfl, by decide +kernel, rfl, by decide +kernel, by decide +kernel⟩
theorem ok_is_truth (fx : Fx P w K mg base) {f : Addr} {fd : FuncData} (D : FunD K "is_truth" "is_truth" (defArgs (top 21)) (defBody (top 21)) (defScope (top 21)) [] [] f fd) : FnOk P w K mg base CX0 1 f fd ["value"] (spP K P_is_truth) := by
  refine fnP (N := N_is_truth) (fb := B_is_truth) D sc_is_truth 1 rfl (by decide) fun X F cdv A outer s H E hr hX => ?_
  subst hX
  have nd := sc_is_truth.nd
  exact pxb_one (pxs_ret (px_isT "bool" fx.n_isinstance fx.n_bool (px_v 0)))
theorem C_is_truth (fx : Fx P w K mg base) : Cal P w K mg base 1 "is_truth" (spP K P_is_truth) := by
  obtain ⟨f, fd, D, hm⟩ := fx.f_is_truth
  exact ⟨f, fd, ["value"], ok_is_truth fx D, hm, D.kp, D.bindsN (fun _ _ _ _ _ _ us hu => by match us, hu with | [_], _ => rfl)⟩
theorem sc_is_cue_number : FnScope N_is_cue_number ["value"] (defScope (top 57)) := ⟨rfl, rfl, rfl, by decide +kernel, rfl, by decide +kernel, by decide +kernel⟩
theorem ok_is_cue_number (fx : Fx P w K mg base) {f : Addr} {fd : FuncData} (D : FunD K "is_cue_number" "is_cue_number" (defArgs (top 57)) (defBody (top 57)) (defScope (top 57)) [] [] f fd) : FnOk P w K mg base CX0 3 f fd ["value"] (spP K P_is_cue_number) := by
  refine fnP (N := N_is_cue_number) (fb := B_is_cue_number) D sc_is_cue_number 1 rfl (by decide) fun X F cdv A outer s H E hr hX => ?_
  subst hX
  have nd := sc_is_cue_number.nd
  exact pxb_one (pxs_ret (px_call (C_is_number fx) hr (by decide) (pxa_cons (px_v 0) (pxa_cons (px_g fx.g_LEAST_NUMBER rfl) (pxa_cons (px_g fx.g_MOST_NUMBER_cueforms rfl) (pxa_nil))))))
theorem C_is_cue_number (fx : Fx P w K mg base) : Cal P w K mg base 3 "is_cue_number" (spP K P_is_cue_number) := by
  obtain ⟨f, fd, D, hm⟩ := fx.f_is_cue_number
  exact ⟨f, fd, ["value"], ok_is_cue_number fx D, hm, D.kp, D.bindsN (fun _ _ _ _ _ _ us hu => by match us, hu with | [_], _ => rfl)⟩
theorem sc_is_known : FnScope N_is_known ["value", "known"] (defScope (top 16)) := ⟨rfl, rfl, rfl, by decide +kernel, rfl, by decide +kernel, by decide +kernel⟩
theorem ok_is_known (fx : Fx P w K mg base) {f : Addr} {fd : FuncData} (D : FunD K "is_known" "is_known" (defArgs (top 16)) (defBody (top 16)) (defScope (top 16)) [] [] f fd) : FnOk P w K mg base CX0 1 f fd ["value", "known"] (spP K P_is_known) := by
  refine fnP (N := N_is_known) (fb := B_is_known) D sc_is_known 2 rfl (by decide) fun X F cdv A outer s H E hr hX => ?_
  subst hX
  have nd := sc_is_known.nd
  exact pxb_one (pxs_ret (px_and (px_isT "str" fx.n_isinstance fx.n_str (px_v 0)) (px_one (px_cmp (op_inG (u1 hr)) s_inG (px_v 0) (px_v 1) (by with_unfolding_all rfl)))))
theorem C_is_known (fx : Fx P w K mg base) : Cal P w K mg base 1 "is_known" (spP K P_is_known) := by
  obtain ⟨f, fd, D, hm⟩ := fx.f_is_known
  exact ⟨f, fd, ["value", "known"], ok_is_known fx D, hm, D.kp, D.bindsN (fun _ _ _ _ _ _ us hu => by match us, hu with | [_, _], _ => rfl)⟩
theorem sc_is_level : FnScope N_is_level ["rig", "value"] (defScope (top 49)) := ⟨rfl, rfl, rfl, by decide +kernel, rfl, by decide +kernel, by decide +kernel⟩
theorem ok_is_level (fx : Fx P w K mg base) {f : Addr} {fd : FuncData} (D : FunD K "is_level" "is_level" (defArgs (top 49)) (defBody (top 49)) (defScope (top 49)) [] [] f fd) : FnOk P w K mg base CX0 3 f fd ["rig", "value"] (spP K P_is_level) := by
  refine fnP (N := N_is_level) (fb := B_is_level) D sc_is_level 2 rfl (by decide) fun X F cdv A outer s H E hr hX => ?_
  subst hX
  have nd := sc_is_level.nd
  exact pxb_one (pxs_ret (px_call (C_is_number fx) hr (by decide) (pxa_cons (px_v 1) (pxa_cons (px_int) (pxa_cons (px_fld "Rig" fx.a_Rig_top (px_v 0)) (pxa_nil))))))
theorem C_is_level (fx : Fx P w K mg base) : Cal P w K mg base 3 "is_level" (spP K P_is_level) := by
  obtain ⟨f, fd, D, hm⟩ := fx.f_is_level
  exact ⟨f, fd, ["rig", "value"], ok_is_level fx D, hm, D.kp, D.bindsN (fun _ _ _ _ _ _ us hu => by match us, hu with | [_, _], _ => rfl)⟩
theorem sc_is_move : FnScope N_is_move ["rig", "value"] (defScope (top 58)) := ⟨rfl, rfl, rfl, by decide +kernel, rfl, by decide +kernel, by decide +kernel⟩
theorem ok_is_move (fx : Fx P w K mg base) {f : Addr} {fd : FuncData} (D : FunD K "is_move" "is_move" (defArgs (top 58)) (defBody (top 58)) (defScope (top 58)) [] [] f fd) : FnOk P w K mg base CX0 4 f fd ["rig", "value"] (spP K P_is_move) := by
  refine fnP (N := N_is_move) (fb := B_is_move) D sc_is_move 2 rfl (by decide) fun X F cdv A outer s H E hr hX => ?_
  subst hX
  have nd := sc_is_move.nd
  exact pxb_cons (pxs_if (pxt_w (pxw_or (pxt_not (pxt_val (px_isT "tuple" fx.n_isinstance fx.n_tuple (px_v 1)))) (pxw_one_or (pxt_cmp (op_neD hr.units) s_neD (px_B call_len c_len rfl fx.n_len rfl (pxa_cons (px_v 1) (pxa_nil))) (px_int) (nomark _))))) (pxb_one (pxs_ret (px_bl))) (pxb_nil)) (pxb_one (pxs_ret (px_and (px_call (C_is_known fx) hr (by decide) (pxa_cons (px_it (u1 hr) (px_v 1) (px_int)) (pxa_cons (px_fld "Rig" fx.a_Rig_channels (px_v 0)) (pxa_nil)))) (px_one (px_call (C_is_level fx) hr (by decide) (pxa_cons (px_v 0) (pxa_cons (px_it (u1 hr) (px_v 1) (px_int)) (pxa_nil))))))))
theorem C_is_move (fx : Fx P w K mg base) : Cal P w K mg base 4 "is_move" (spP K P_is_move) := by
  obtain ⟨f, fd, D, hm⟩ := fx.f_is_move
  exact ⟨f, fd, ["rig", "value"], ok_is_move fx D, hm, D.kp, D.bindsN (fun _ _ _ _ _ _ us hu => by match us, hu with | [_, _], _ => rfl)⟩
theorem sc_are_moves : FnScope N_are_moves ["rig", "value"] (defScope (top 59)) := ⟨rfl, rfl, rfl, by decide +kernel, rfl, by decide +kernel, by decide +kernel⟩
theorem ok_are_moves (fx : Fx P w K mg base) {f : Addr} {fd : FuncData} (D : FunD K "are_moves" "are_moves" (defArgs (top 59)) (defBody (top 59)) (defScope (top 59)) [] [] f fd) : FnOk P w K mg base CX0 5 f fd ["rig", "value"] (spP K P_are_moves) := by
  refine fnP (N := N_are_moves) (fb := B_are_moves) D sc_are_moves 2 rfl (by decide) fun X F cdv A outer s H E hr hX => ?_
  subst hX
  have nd := sc_are_moves.nd
  exact pxb_cons (pxs_if (pxt_w (pxw_or (pxt_not (pxt_val (px_isT "tuple" fx.n_isinstance fx.n_tuple (px_v 1)))) (pxw_one_or (pxt_not (pxt_val (px_B (cr_all rfl) c_all rfl fx.n_all rfl (pxa_cons (px_n (pxn_lc [("move", 2)] rfl nd (pxi_any (px_v 1)) (blkOk_by (N := N_are_moves) (sc := defScope (top 59)) (by decide +kernel)) (by decide) (fun _ _ _ _ _ => pxg_n 2 nd) (fun _ _ _ _ _ => pxts_nil) (fun _ _ _ _ _ => px_call (C_is_move fx) hr (by decide) (pxa_cons (px_v 0) (pxa_cons (px_v 2) (pxa_nil)))))) (pxa_nil)))))))) (pxb_one (pxs_ret (px_bl))) (pxb_nil)) (pxb_one (pxs_ret (px_B (cr_all rfl) c_all rfl fx.n_all rfl (pxa_cons (px_n (pxn_lc [("index", 3)] rfl nd (pxi_rng2 fx.n_range (pxa_cons (px_int) (pxa_cons (px_B call_len c_len rfl fx.n_len rfl (pxa_cons (px_v 1) (pxa_nil))) (pxa_nil)))) (blkOk_by (N := N_are_moves) (sc := defScope (top 59)) (by decide +kernel)) (by decide) (fun _ _ _ _ _ => pxg_n 3 nd) (fun _ _ _ _ _ => pxts_nil) (fun _ _ _ _ _ => px_cmp op_ltG s_ltG (px_it (u1 hr) (px_it (u1 hr) (px_v 1) (px_op op_sub s_sub (px_v 3) (px_int))) (px_int)) (px_it (u1 hr) (px_it (u1 hr) (px_v 1) (px_v 3)) (px_int)) (nomark _)))) (pxa_nil)))))
theorem C_are_moves (fx : Fx P w K mg base) : Cal P w K mg base 5 "are_moves" (spP K P_are_moves) := by
  obtain ⟨f, fd, D, hm⟩ := fx.f_are_moves
  exact ⟨f, fd, ["rig", "value"], ok_are_moves fx D, hm, D.kp, D.bindsN (fun _ _ _ _ _ _ us hu => by match us, hu with | [_, _], _ => rfl)⟩
theorem sc_is_cue : FnScope N_is_cue ["rig", "value"] (defScope (top 61)) := ⟨rfl, rfl, rfl, by decide +kernel, rfl, by decide +kernel, by decide +kernel⟩
theorem ok_is_cue (fx : Fx P w K mg base) {f : Addr} {fd : FuncData} (D : FunD K "is_cue" "is_cue" (defArgs (top 61)) (defBody (top 61)) (defScope (top 61)) [] [] f fd) : FnOk P w K mg base CX0 6 f fd ["rig", "value"] (spP K P_is_cue) := by
  refine fnP (N := N_is_cue) (fb := B_is_cue) D sc_is_cue 2 rfl (by decide) fun X F cdv A outer s H E hr hX => ?_
  subst hX
  have nd := sc_is_cue.nd
  exact pxb_cons (pxs_if (pxt_w (pxw_or (pxt_not (pxt_val (px_isT "tuple" fx.n_isinstance fx.n_tuple (px_v 1)))) (pxw_one_or (pxt_cmp (op_neD hr.units) s_neD (px_B call_len c_len rfl fx.n_len rfl (pxa_cons (px_v 1) (pxa_nil))) (px_g fx.g_PARTS rfl) (nomark _))))) (pxb_one (pxs_ret (px_bl))) (pxb_nil)) (pxb_cons (pxs_if (pxt_w (pxw_or (pxt_not (pxt_val (px_call (C_is_cue_number fx) hr (by decide) (pxa_cons (px_it (u1 hr) (px_v 1) (px_int)) (pxa_nil))))) (pxw_one_or (pxt_not (pxt_val (px_call (C_are_moves fx) hr (by decide) (pxa_cons (px_v 0) (pxa_cons (px_it (u1 hr) (px_v 1) (px_int)) (pxa_nil))))))))) (pxb_one (pxs_ret (px_bl))) (pxb_nil)) (pxb_one (pxs_ret (px_and (px_call (C_is_number fx) hr (by decide) (pxa_cons (px_it (u1 hr) (px_v 1) (px_int)) (pxa_cons (px_int) (pxa_cons (px_g fx.g_MOST_FADE rfl) (pxa_nil))))) (px_and (px_call (C_is_follow fx) hr (by decide) (pxa_cons (px_it (u1 hr) (px_v 1) (px_int)) (pxa_nil))) (px_one (px_call (C_is_truth fx) hr (by decide) (pxa_cons (px_it (u1 hr) (px_v 1) (px_int)) (pxa_nil)))))))))
theorem C_is_cue (fx : Fx P w K mg base) : Cal P w K mg base 6 "is_cue" (spP K P_is_cue) := by
  obtain ⟨f, fd, D, hm⟩ := fx.f_is_cue
  exact ⟨f, fd, ["rig", "value"], ok_is_cue fx D, hm, D.kp, D.bindsN (fun _ _ _ _ _ _ us hu => by match us, hu with | [_, _], _ => rfl)⟩
theorem sc_first_wrong_cue : FnScope N_first_wrong_cue ["rig", "value"] (defScope (top 66)) := ⟨rfl, rfl, rfl, by decide +kernel, rfl, by decide +kernel, by decide +kernel⟩
theorem ok_first_wrong_cue (fx : Fx P w K mg base) {f : Addr} {fd : FuncData} (D : FunD K "first_wrong_cue" "first_wrong_cue" (defArgs (top 66)) (defBody (top 66)) (defScope (top 66)) [] [] f fd) : FnOk P w K mg base CX0 7 f fd ["rig", "value"] (spP K P_first_wrong_cue) := by
  refine fnP (N := N_first_wrong_cue) (fb := B_first_wrong_cue) D sc_first_wrong_cue 2 rfl (by decide) fun X F cdv A outer s H E hr hX => ?_
  subst hX
  have nd := sc_first_wrong_cue.nd
  exact pxb_cons (pxs_for rfl PassesOwn.leaving (pxi_enumA fx.n_enumerate (pxa_cons (px_v 1) (pxa_nil))) (pxg_t rfl (pxgs_cons (pxg_n 2 nd) (pxgs_cons (pxg_n 3 nd) (pxgs_nil)))) (pxb_cons (pxs_if (pxt_w (pxw_or (pxt_cmp (op_eqD hr.units) s_eqD (px_v 2) (px_g fx.g_MOST_CUES rfl) (nomark _)) (pxw_one_or (pxt_not (pxt_val (px_call (C_is_cue fx) hr (by decide) (pxa_cons (px_v 0) (pxa_cons (px_v 3) (pxa_nil))))))))) (pxb_one (pxs_ret (px_v 2))) (pxb_nil)) (pxb_one (pxs_if (pxt_w (pxw_and (pxt_cmp op_gt s_gt (px_v 2) (px_int) (nomark _)) (pxw_one_and (pxt_cmp op_leG s_leG (px_it (u1 hr) (px_v 3) (px_int)) (px_it (u1 hr) (px_it (u1 hr) (px_v 1) (px_op op_sub s_sub (px_v 2) (px_int))) (px_int)) (nomark _))))) (pxb_one (pxs_ret (px_v 2))) (pxb_nil))))) (pxb_one (pxs_ret (px_non)))
theorem C_first_wrong_cue (fx : Fx P w K mg base) : Cal P w K mg base 7 "first_wrong_cue" (spP K P_first_wrong_cue) := by
  obtain ⟨f, fd, D, hm⟩ := fx.f_first_wrong_cue
  exact ⟨f, fd, ["rig", "value"], ok_first_wrong_cue fx D, hm, D.kp, D.bindsN (fun _ _ _ _ _ _ us hu => by match us, hu with | [_, _], _ => rfl)⟩
theorem sc_need_cues : FnScope N_need_cues ["rig", "cues"] (defScope (top 67)) := ⟨rfl, rfl, rfl, by decide +kernel, rfl, by decide +kernel, by decide +kernel⟩
theorem ok_need_cues (fx : Fx P w K mg base) {f : Addr} {fd : FuncData} (D : FunD K "need_cues" "need_cues" (defArgs (top 67)) (defBody (top 67)) (defScope (top 67)) [] [] f fd) : FnOk P w K mg base CX0 8 f fd ["rig", "cues"] (spP K P_need_cues) := by
  refine fnP (N := N_need_cues) (fb := B_need_cues) D sc_need_cues 2 rfl (by decide) fun X F cdv A outer s H E hr hX => ?_
  subst hX
  have nd := sc_need_cues.nd
  exact pxb_cons (pxs_if (pxt_not (pxt_val (px_isT "tuple" fx.n_isinstance fx.n_tuple (px_v 1)))) (pxb_one (pxs_never)) (pxb_nil)) (pxb_cons (pxs_set (i := 2) nd (pxk_im (px_call (C_first_wrong_cue fx) hr (by decide) (pxa_cons (px_v 0) (pxa_cons (px_v 1) (pxa_nil)))))) (pxb_one (pxs_if (pxt_cmp op_notN s_notN (px_v 2) (px_non) (nomark _)) (pxb_one (pxs_never)) (pxb_nil))))
theorem C_need_cues (fx : Fx P w K mg base) : Cal P w K mg base 8 "need_cues" (spP K P_need_cues) := by
  obtain ⟨f, fd, D, hm⟩ := fx.f_need_cues
  exact ⟨f, fd, ["rig", "cues"], ok_need_cues fx D, hm, D.kp, D.bindsN (fun _ _ _ _ _ _ us hu => by match us, hu with | [_, _], _ => rfl)⟩
theorem sc_meaning_behind : FnScope N_meaning_behind ["rig", "means", "cue"] (defScope (top 62)) := ⟨rfl, rfl, rfl, by decide +kernel, rfl, by decide +kernel, by decide +kernel⟩
theorem ok_meaning_behind (fx : Fx P w K mg base) {f : Addr} {fd : FuncData} (D : FunD K "meaning_behind" "meaning_behind" (defArgs (top 62)) (defBody (top 62)) (defScope (top 62)) [] [] f fd) : FnOk P w K mg base CX0 1 f fd ["rig", "means", "cue"] (spP K P_meaning_behind) := by
  refine fnP (N := N_meaning_behind) (fb := B_meaning_behind) D sc_meaning_behind 3 rfl (by decide) fun X F cdv A outer s H E hr hX => ?_
  subst hX
  have nd := sc_meaning_behind.nd
  exact pxb_cons (pxs_set (i := 3) nd (pxk_im (px_n (pxn_dc [("channel", 4), ("level", 5)] rfl nd (pxi_any (px_it (u1 hr) (px_v 2) (px_int))) (blkOk_by (N := N_meaning_behind) (sc := defScope (top 62)) (by decide +kernel)) (by decide) (fun _ _ _ _ _ => pxg_t rfl (pxgs_cons (pxg_n 4 nd) (pxgs_cons (pxg_n 5 nd) (pxgs_nil)))) (fun _ _ _ _ _ => pxts_nil) (fun _ _ _ _ _ => px_v 4) (fun _ _ _ _ _ => px_v 5))))) (pxb_one (pxs_ret (px_Ty call_tuple_of c_tuple rfl fx.n_tuple rfl (pxa_cons (px_n (pxn_lc [("channel", 4), ("level", 5)] rfl nd (pxi_zipA fx.n_zip (pxa_cons (px_fld "Rig" fx.a_Rig_channels (px_v 0)) (pxa_cons (px_v 1) (pxa_nil)))) (blkOk_by (N := N_meaning_behind) (sc := defScope (top 62)) (by decide +kernel)) (by decide) (fun _ _ _ _ _ => pxg_t rfl (pxgs_cons (pxg_n 4 nd) (pxgs_cons (pxg_n 5 nd) (pxgs_nil)))) (fun _ _ _ _ _ => pxts_nil) (fun _ _ _ _ _ => px_get (u1 hr) (px_v 3) (px_v 4) (px_v 5)))) (pxa_nil)))))
theorem C_meaning_behind (fx : Fx P w K mg base) : Cal P w K mg base 1 "meaning_behind" (spP K P_meaning_behind) := by
  obtain ⟨f, fd, D, hm⟩ := fx.f_meaning_behind
  exact ⟨f, fd, ["rig", "means", "cue"], ok_meaning_behind fx D, hm, D.kp, D.bindsN (fun _ _ _ _ _ _ us hu => by match us, hu with | [_, _, _], _ => rfl)⟩
theorem sc_meanings : FnScope N_meanings ["rig", "cues"] (defScope (top 63)) := ⟨rfl, rfl, rfl, by decide +kernel, rfl, by decide +kernel, by decide +kernel⟩
theorem ok_meanings (fx : Fx P w K mg base) {f : Addr} {fd : FuncData} (D : FunD K "meanings" "meanings" (defArgs (top 63)) (defBody (top 63)) (defScope (top 63)) [] [] f fd) : FnOk P w K mg base CX0 2 f fd ["rig", "cues"] (spP K P_meanings) := by
  refine fnP (N := N_meanings) (fb := B_meanings) D sc_meanings 2 rfl (by decide) fun X F cdv A outer s H E hr hX => ?_
  subst hX
  have nd := sc_meanings.nd
  exact pxb_cons (pxs_set (i := 2) nd (pxk_cl (pxn_lst (pxa_cons (px_op op_mulG s_mulG (px_tup (pxa_cons (px_int) (pxa_nil))) (px_B call_len c_len rfl fx.n_len rfl (pxa_cons (px_fld "Rig" fx.a_Rig_channels (px_v 0)) (pxa_nil)))) (pxa_nil))))) (pxb_cons (pxs_for rfl PassesOwn.leaving (pxi_any (px_v 1)) (pxg_n 3 nd) (pxb_one (pxs_expr (px_bmC 2 m_append PySem.F.plainAttrs_list PySem.F.slot_list_append PySem.F.type_list_append mt_append (pxa_cons (px_call (C_meaning_behind fx) hr (by decide) (pxa_cons (px_v 0) (pxa_cons (px_ixG 2 (u1 hr) (px_un un_neg s_neg (px_int))) (pxa_cons (px_v 3) (pxa_nil))))) (pxa_nil)))))) (pxb_frz 2 (pxb_one (pxs_ret (px_Ty call_tuple_of c_tuple rfl fx.n_tuple rfl (pxa_cons (px_v 2) (pxa_nil)))))))
theorem C_meanings (fx : Fx P w K mg base) : Cal P w K mg base 2 "meanings" (spP K P_meanings) := by
  obtain ⟨f, fd, D, hm⟩ := fx.f_meanings
  exact ⟨f, fd, ["rig", "cues"], ok_meanings fx D, hm, D.kp, D.bindsN (fun _ _ _ _ _ _ us hu => by match us, hu with | [_, _], _ => rfl)⟩
theorem sc_CueList___init__ : FnScope N_CueList___init__ ["self", "rig", "cues"] (defScope (inClass (top 68) 0)) := ⟨rfl, rfl, rfl, by decide +kernel, rfl, by decide +kernel, by decide +kernel⟩
theorem ok_CueList___init__ (fx : Fx P w K mg base) {f : Addr} {fd : FuncData} (D : FunD K "__init__" "CueList.__init__" (defArgs (inClass (top 68) 0)) (defBody (inClass (top 68) 0)) (defScope (inClass (top 68) 0)) [] [] f fd) : FnOk P w K mg base CX0 9 f fd ["self", "rig", "cues"] (spR K P_CueList___init__) := by
  refine fnR (N := N_CueList___init__) (fb := B_CueList___init__) D sc_CueList___init__ 3 rfl (by decide) fun X F cdv A outer s H E hr hX => ?_
  subst hX
  have nd := sc_CueList___init__.nd
  exact pxb_cons (pxs_expr (px_call (C_need_rig fx) hr (by decide) (pxa_cons (px_v 1) (pxa_nil)))) (pxb_cons (pxs_expr (px_call (C_need_cues fx) hr (by decide) (pxa_cons (px_v 1) (pxa_cons (px_v 2) (pxa_nil))))) (pxb_cons (pxs_put 0 "CueList" fx.a_CueList_rig (px_v 1)) (pxb_cons (pxs_put 0 "CueList" fx.a_CueList_cues (px_v 2)) (pxb_cons (pxs_put 0 "CueList" fx.a_CueList_parts (px_tup (pxa_cons (px_fld "Rig" fx.a_Rig_parts (px_v 1)) (pxa_cons (px_v 2) (pxa_nil))))) (pxb_cons (pxs_put 0 "CueList" fx.a_CueList_means (px_call (C_meanings fx) hr (by decide) (pxa_cons (px_v 1) (pxa_cons (px_v 2) (pxa_nil))))) (pxb_one (pxs_put 0 "CueList" fx.a_CueList_places (px_n (pxn_dc [("place", 3), ("cue", 4)] rfl nd (pxi_enumA fx.n_enumerate (pxa_cons (px_v 2) (pxa_nil))) (blkOk_by (N := N_CueList___init__) (sc := defScope (inClass (top 68) 0)) (by decide +kernel)) (by decide) (fun _ _ _ _ _ => pxg_t rfl (pxgs_cons (pxg_n 3 nd) (pxgs_cons (pxg_n 4 nd) (pxgs_nil)))) (fun _ _ _ _ _ => pxts_nil) (fun _ _ _ _ _ => px_it (u1 hr) (px_v 4) (px_int)) (fun _ _ _ _ _ => px_v 3))))))))))
theorem M_CueList (fx : Fx P w K mg base) : Mkr P w K mg base 9 "CueList" (spR K P_CueList___init__) := by
  obtain ⟨f, fd, D, hk, hm⟩ := fx.f_CueList___init__
  exact ⟨f, fd, ["self", "rig", "cues"], hk, hm, ok_CueList___init__ fx D, D.bindsN (fun _ _ _ _ _ _ us hu => by match us, hu with | [_, _, _], _ => rfl)⟩
theorem sc_need_list : FnScope N_need_list ["value"] (defScope (top 69)) := ⟨rfl, rfl, rfl, by decide +kernel, rfl, by decide +kernel, by decide +kernel⟩
theorem ok_need_list (fx : Fx P w K mg base) {f : Addr} {fd : FuncData} (D : FunD K "need_list" "need_list" (defArgs (top 69)) (defBody (top 69)) (defScope (top 69)) [] [] f fd) : FnOk P w K mg base CX0 1 f fd ["value"] (spP K P_need_list) := by
  refine fnP (N := N_need_list) (fb := B_need_list) D sc_need_list 1 rfl (by decide) fun X F cdv A outer s H E hr hX => ?_
  subst hX
  have nd := sc_need_list.nd
  exact pxb_one (pxs_if (pxt_not (pxt_val (px_isO b_CueList c_CueList fx.i_CueList fx.n_isinstance fx.c_CueList (px_v 0)))) (pxb_one (pxs_never)) (pxb_nil))
theorem C_need_list (fx : Fx P w K mg base) : Cal P w K mg base 1 "need_list" (spP K P_need_list) := by
  obtain ⟨f, fd, D, hm⟩ := fx.f_need_list
  exact ⟨f, fd, ["value"], ok_need_list fx D, hm, D.kp, D.bindsN (fun _ _ _ _ _ _ us hu => by match us, hu with | [_], _ => rfl)⟩
theorem sc_need_back : FnScope N_need_back ["value"] (defScope (top 33)) := ⟨rfl, rfl, rfl, by decide +kernel, rfl, by decide +kernel, by decide +kernel⟩
theorem ok_need_back (fx : Fx P w K mg base) {f : Addr} {fd : FuncData} (D : FunD K "need_back" "need_back" (defArgs (top 33)) (defBody (top 33)) (defScope (top 33)) [] [] f fd) : FnOk P w K mg base CX0 4 f fd ["value"] (spP K P_need_back) := by
  refine fnP (N := N_need_back) (fb := B_need_back) D sc_need_back 1 rfl (by decide) fun X F cdv A outer s H E hr hX => ?_
  subst hX
  have nd := sc_need_back.nd
  exact pxb_one (pxs_expr (px_call (C_need_number fx) hr (by decide) (pxa_cons (px_v 0) (pxa_cons (px_int) (pxa_cons (px_g fx.g_MOST_BACK rfl) (pxa_nil))))))
theorem C_need_back (fx : Fx P w K mg base) : Cal P w K mg base 4 "need_back" (spP K P_need_back) := by
  obtain ⟨f, fd, D, hm⟩ := fx.f_need_back
  exact ⟨f, fd, ["value"], ok_need_back fx D, hm, D.kp, D.bindsN (fun _ _ _ _ _ _ us hu => by match us, hu with | [_], _ => rfl)⟩
theorem sc_has_act_size : FnScope N_has_act_size ["value"] (defScope (top 29)) := ⟨rfl, rfl, rfl, by decide +kernel, rfl, by decide +kernel, by decide +kernel⟩
theorem ok_has_act_size (fx : Fx P w K mg base) {f : Addr} {fd : FuncData} (D : FunD K "has_act_size" "has_act_size" (defArgs (top 29)) (defBody (top 29)) (defScope (top 29)) [] [] f fd) : FnOk P w K mg base CX0 1 f fd ["value"] (spP K P_has_act_size) := by
  refine fnP (N := N_has_act_size) (fb := B_has_act_size) D sc_has_act_size 1 rfl (by decide) fun X F cdv A outer s H E hr hX => ?_
  subst hX
  have nd := sc_has_act_size.nd
  exact pxb_cons (pxs_if (pxt_w (pxw_or (pxt_not (pxt_val (px_isT "tuple" fx.n_isinstance fx.n_tuple (px_v 0)))) (pxw_or (pxt_cmp (op_eqD hr.units) s_eqD (px_B call_len c_len rfl fx.n_len rfl (pxa_cons (px_v 0) (pxa_nil))) (px_int) (nomark _)) (pxw_one_or (pxt_not (pxt_val (px_isT "str" fx.n_isinstance fx.n_str (px_it (u1 hr) (px_v 0) (px_int))))))))) (pxb_one (pxs_ret (px_bl))) (pxb_nil)) (pxb_one (pxs_ret (px_and (px_inK fx.k_SIZES (px_it (u1 hr) (px_v 0) (px_int))) (px_one (px_cmp (op_eqD hr.units) s_eqD (px_B call_len c_len rfl fx.n_len rfl (pxa_cons (px_v 0) (pxa_nil))) (px_itK fx.k_SIZES (px_it (u1 hr) (px_v 0) (px_int))) (nomark _))))))
theorem C_has_act_size (fx : Fx P w K mg base) : Cal P w K mg base 1 "has_act_size" (spP K P_has_act_size) := by
  obtain ⟨f, fd, D, hm⟩ := fx.f_has_act_size
  exact ⟨f, fd, ["value"], ok_has_act_size fx D, hm, D.kp, D.bindsN (fun _ _ _ _ _ _ us hu => by match us, hu with | [_], _ => rfl)⟩
theorem sc_is_act : FnScope N_is_act ["rig", "value"] (defScope (top 30)) := ⟨rfl, rfl, rfl, by decide +kernel, rfl, by decide +kernel, by decide +kernel⟩
theorem ok_is_act (fx : Fx P w K mg base) {f : Addr} {fd : FuncData} (D : FunD K "is_act" "is_act" (defArgs (top 30)) (defBody (top 30)) (defScope (top 30)) [] [] f fd) : FnOk P w K mg base CX0 3 f fd ["rig", "value"] (spP K P_is_act) := by
  refine fnP (N := N_is_act) (fb := B_is_act) D sc_is_act 2 rfl (by decide) fun X F cdv A outer s H E hr hX => ?_
  subst hX
  have nd := sc_is_act.nd
  exact pxb_cons (pxs_if (pxt_not (pxt_val (px_call (C_has_act_size fx) hr (by decide) (pxa_cons (px_v 1) (pxa_nil))))) (pxb_one (pxs_ret (px_bl))) (pxb_nil)) (pxb_cons (pxs_if (pxt_cmp (op_eqD hr.units) s_eqD (px_it (u1 hr) (px_v 1) (px_int)) (px_str) (nomark _)) (pxb_one (pxs_ret (px_call (C_is_number fx) hr (by decide) (pxa_cons (px_it (u1 hr) (px_v 1) (px_int)) (pxa_cons (px_int) (pxa_cons (px_g fx.g_MOST_NUMBER_acts rfl) (pxa_nil))))))) (pxb_nil)) (pxb_cons (pxs_if (pxt_cmp (op_eqD hr.units) s_eqD (px_it (u1 hr) (px_v 1) (px_int)) (px_str) (nomark _)) (pxb_one (pxs_ret (px_call (C_is_known fx) hr (by decide) (pxa_cons (px_it (u1 hr) (px_v 1) (px_int)) (pxa_cons (px_fld "Rig" fx.a_Rig_channels (px_v 0)) (pxa_nil)))))) (pxb_nil)) (pxb_cons (pxs_if (pxt_cmp (op_eqD hr.units) s_eqD (px_it (u1 hr) (px_v 1) (px_int)) (px_str) (nomark _)) (pxb_one (pxs_ret (px_and (px_call (C_is_known fx) hr (by decide) (pxa_cons (px_it (u1 hr) (px_v 1) (px_int)) (pxa_cons (px_fld "Rig" fx.a_Rig_channels (px_v 0)) (pxa_nil)))) (px_one (px_call (C_is_number fx) hr (by decide) (pxa_cons (px_it (u1 hr) (px_v 1) (px_int)) (pxa_cons (px_int) (pxa_cons (px_fld "Rig" fx.a_Rig_top (px_v 0)) (pxa_nil))))))))) (pxb_nil)) (pxb_one (pxs_ret (px_bl))))))
theorem C_is_act (fx : Fx P w K mg base) : Cal P w K mg base 3 "is_act" (spP K P_is_act) := by
  obtain ⟨f, fd, D, hm⟩ := fx.f_is_act
  exact ⟨f, fd, ["rig", "value"], ok_is_act fx D, hm, D.kp, D.bindsN (fun _ _ _ _ _ _ us hu => by match us, hu with | [_, _], _ => rfl)⟩
theorem sc_first_wrong_act : FnScope N_first_wrong_act ["rig", "value"] (defScope (top 31)) := ⟨rfl, rfl, rfl, by decide +kernel, rfl, by decide +kernel, by decide +kernel⟩
theorem ok_first_wrong_act (fx : Fx P w K mg base) {f : Addr} {fd : FuncData} (D : FunD K "first_wrong_act" "first_wrong_act" (defArgs (top 31)) (defBody (top 31)) (defScope (top 31)) [] [] f fd) : FnOk P w K mg base CX0 4 f fd ["rig", "value"] (spP K P_first_wrong_act) := by
  refine fnP (N := N_first_wrong_act) (fb := B_first_wrong_act) D sc_first_wrong_act 2 rfl (by decide) fun X F cdv A outer s H E hr hX => ?_
  subst hX
  have nd := sc_first_wrong_act.nd
  exact pxb_cons (pxs_for rfl PassesOwn.leaving (pxi_enumA fx.n_enumerate (pxa_cons (px_v 1) (pxa_nil))) (pxg_t rfl (pxgs_cons (pxg_n 2 nd) (pxgs_cons (pxg_n 3 nd) (pxgs_nil)))) (pxb_one (pxs_if (pxt_w (pxw_or (pxt_cmp (op_eqD hr.units) s_eqD (px_v 2) (px_g fx.g_MOST_ACTS rfl) (nomark _)) (pxw_one_or (pxt_not (pxt_val (px_call (C_is_act fx) hr (by decide) (pxa_cons (px_v 0) (pxa_cons (px_v 3) (pxa_nil))))))))) (pxb_one (pxs_ret (px_v 2))) (pxb_nil)))) (pxb_one (pxs_ret (px_non)))
theorem C_first_wrong_act (fx : Fx P w K mg base) : Cal P w K mg base 4 "first_wrong_act" (spP K P_first_wrong_act) := by
  obtain ⟨f, fd, D, hm⟩ := fx.f_first_wrong_act
  exact ⟨f, fd, ["rig", "value"], ok_first_wrong_act fx D, hm, D.kp, D.bindsN (fun _ _ _ _ _ _ us hu => by match us, hu with | [_, _], _ => rfl)⟩
theorem sc_need_acts : FnScope N_need_acts ["rig", "acts"] (defScope (top 32)) := ⟨rfl, rfl, rfl, by decide +kernel, rfl, by decide +kernel, by decide +kernel⟩
theorem ok_need_acts (fx : Fx P w K mg base) {f : Addr} {fd : FuncData} (D : FunD K "need_acts" "need_acts" (defArgs (top 32)) (defBody (top 32)) (defScope (top 32)) [] [] f fd) : FnOk P w K mg base CX0 5 f fd ["rig", "acts"] (spP K P_need_acts) := by
  refine fnP (N := N_need_acts) (fb := B_need_acts) D sc_need_acts 2 rfl (by decide) fun X F cdv A outer s H E hr hX => ?_
  subst hX
  have nd := sc_need_acts.nd
  exact pxb_cons (pxs_if (pxt_not (pxt_val (px_isT "tuple" fx.n_isinstance fx.n_tuple (px_v 1)))) (pxb_one (pxs_never)) (pxb_nil)) (pxb_cons (pxs_set (i := 2) nd (pxk_im (px_call (C_first_wrong_act fx) hr (by decide) (pxa_cons (px_v 0) (pxa_cons (px_v 1) (pxa_nil)))))) (pxb_one (pxs_if (pxt_cmp op_notN s_notN (px_v 2) (px_non) (nomark _)) (pxb_one (pxs_never)) (pxb_nil))))
theorem C_need_acts (fx : Fx P w K mg base) : Cal P w K mg base 5 "need_acts" (spP K P_need_acts) := by
  obtain ⟨f, fd, D, hm⟩ := fx.f_need_acts
  exact ⟨f, fd, ["rig", "acts"], ok_need_acts fx D, hm, D.kp, D.bindsN (fun _ _ _ _ _ _ us hu => by match us, hu with | [_, _], _ => rfl)⟩
theorem sc_need_acted : FnScope N_need_acted ["cues", "back", "acts"] (defScope (top 86)) := ⟨rfl, rfl, rfl, by decide +kernel, rfl, by decide +kernel, by decide +kernel⟩
theorem ok_need_acted (fx : Fx P w K mg base) {f : Addr} {fd : FuncData} (D : FunD K "need_acted" "need_acted" (defArgs (top 86)) (defBody (top 86)) (defScope (top 86)) [] [] f fd) : FnOk P w K mg base CX0 6 f fd ["cues", "back", "acts"] (spP K P_need_acted) := by
  refine fnP (N := N_need_acted) (fb := B_need_acted) D sc_need_acted 3 rfl (by decide) fun X F cdv A outer s H E hr hX => ?_
  subst hX
  have nd := sc_need_acted.nd
  exact pxb_cons (pxs_expr (px_call (C_need_list fx) hr (by decide) (pxa_cons (px_v 0) (pxa_nil)))) (pxb_cons (pxs_expr (px_call (C_need_back fx) hr (by decide) (pxa_cons (px_v 1) (pxa_nil)))) (pxb_one (pxs_expr (px_call (C_need_acts fx) hr (by decide) (pxa_cons (px_fld "CueList" fx.a_CueList_rig (px_v 0)) (pxa_cons (px_v 2) (pxa_nil)))))))
theorem C_need_acted (fx : Fx P w K mg base) : Cal P w K mg base 6 "need_acted" (spP K P_need_acted) := by
  obtain ⟨f, fd, D, hm⟩ := fx.f_need_acted
  exact ⟨f, fd, ["cues", "back", "acts"], ok_need_acted fx D, hm, D.kp, D.bindsN (fun _ _ _ _ _ _ us hu => by match us, hu with | [_, _, _], _ => rfl)⟩
theorem sc_Score_senders_of : FnScope N_Score_senders_of ["self", "cue"] (defScope (inClass (top 80) 1)) := ⟨rfl, rfl, rfl, by decide +kernel, rfl, by decide +kernel, by decide +kernel⟩
theorem ok_Score_senders_of (fx : Fx P w K mg base) {f : Addr} {fd : FuncData} (D : FunD K "senders_of" "Score.senders_of" (defArgs (inClass (top 80) 1)) (defBody (inClass (top 80) 1)) (defScope (inClass (top 80) 1)) [] [] f fd) : FnOk P w K mg base CX0 1 f fd ["self", "cue"] (spR K P_Score_senders_of) := by
  refine fnR (N := N_Score_senders_of) (fb := B_Score_senders_of) D sc_Score_senders_of 2 rfl (by decide) fun X F cdv A outer s H E hr hX => ?_
  subst hX
  have nd := sc_Score_senders_of.nd
  exact pxb_cons (pxs_if (pxt_val (px_it (u1 hr) (px_v 1) (px_int))) (pxb_one (pxs_ret (px_fldC 0 "Score" fx.a_Score_everybody))) (pxb_nil)) (pxb_cons (pxs_set (i := 2) nd (pxk_im (px_n (pxn_dc [("channel", 3), ("level", 4)] rfl nd (pxi_any (px_it (u1 hr) (px_v 1) (px_int))) (blkOk_by (N := N_Score_senders_of) (sc := defScope (inClass (top 80) 1)) (by decide +kernel)) (by decide) (fun _ _ _ _ _ => pxg_t rfl (pxgs_cons (pxg_n 3 nd) (pxgs_cons (pxg_n 4 nd) (pxgs_nil)))) (fun _ _ _ _ _ => pxts_nil) (fun _ _ _ _ _ => px_v 3) (fun _ _ _ _ _ => px_bl))))) (pxb_one (pxs_ret (px_n (pxn_dc [("at", 5), ("channel", 3)] rfl nd (pxi_enumA fx.n_enumerate (pxa_cons (px_fldC 0 "Score" fx.a_Score_channels) (pxa_nil))) (blkOk_by (N := N_Score_senders_of) (sc := defScope (inClass (top 80) 1)) (by decide +kernel)) (by decide) (fun _ _ _ _ _ => pxg_t rfl (pxgs_cons (pxg_n 5 nd) (pxgs_cons (pxg_n 3 nd) (pxgs_nil)))) (fun _ _ _ _ _ => pxts_one (pxt_cmp (op_inG (u1 hr)) s_inG (px_v 3) (px_v 2) (by with_unfolding_all rfl))) (fun _ _ _ _ _ => px_v 5) (fun _ _ _ _ _ => px_bl))))))
theorem C_Score_senders_of (fx : Fx P w K mg base) : Mth P w K mg base 1 "Score" "senders_of" (spR K P_Score_senders_of) := by
  obtain ⟨f, fd, D, hc, hm⟩ := fx.f_Score_senders_of
  exact ⟨f, fd, ["self", "cue"], hc, hm, ok_Score_senders_of fx D, D.bindsN (fun _ _ _ _ _ _ us hu => by match us, hu with | [_, _], _ => rfl)⟩
theorem sc_Score___init__ : FnScope N_Score___init__ ["self", "cues", "back"] (defScope (inClass (top 80) 0)) := ⟨rfl, rfl, rfl, by decide +kernel, rfl, by decide +kernel, by decide +kernel⟩
theorem ok_Score___init__ (fx : Fx P w K mg base) {f : Addr} {fd : FuncData} (D : FunD K "__init__" "Score.__init__" (defArgs (inClass (top 80) 0)) (defBody (inClass (top 80) 0)) (defScope (inClass (top 80) 0)) [] [] f fd) : FnOk P w K mg base CX0 2 f fd ["self", "cues", "back"] (spR K P_Score___init__) := by
  refine fnR (N := N_Score___init__) (fb := B_Score___init__) D sc_Score___init__ 3 rfl (by decide) fun X F cdv A outer s H E hr hX => ?_
  subst hX
  have nd := sc_Score___init__.nd
  exact pxb_cons (pxs_put 0 "Score" fx.a_Score_cues (px_v 1)) (pxb_cons (pxs_put 0 "Score" fx.a_Score_back (px_v 2)) (pxb_cons (pxs_put 0 "Score" fx.a_Score_rows (px_fld "CueList" fx.a_CueList_cues (px_v 1))) (pxb_cons (pxs_put 0 "Score" fx.a_Score_channels (px_fld "Rig" fx.a_Rig_channels (px_fld "CueList" fx.a_CueList_rig (px_v 1)))) (pxb_cons (pxs_put 0 "Score" fx.a_Score_means (px_fld "CueList" fx.a_CueList_means (px_v 1))) (pxb_cons (pxs_put 0 "Score" fx.a_Score_places (px_fld "CueList" fx.a_CueList_places (px_v 1))) (pxb_cons (pxs_put 0 "Score" fx.a_Score_everybody (px_n (pxn_dc [("at", 3)] rfl nd (pxi_rng1 fx.n_range (pxa_cons (px_B call_len c_len rfl fx.n_len rfl (pxa_cons (px_fldC 0 "Score" fx.a_Score_channels) (pxa_nil))) (pxa_nil))) (blkOk_by (N := N_Score___init__) (sc := defScope (inClass (top 80) 0)) (by decide +kernel)) (by decide) (fun _ _ _ _ _ => pxg_n 3 nd) (fun _ _ _ _ _ => pxts_nil) (fun _ _ _ _ _ => px_v 3) (fun _ _ _ _ _ => px_bl)))) (pxb_one (pxs_put 0 "Score" fx.a_Score_senders (px_n (pxn_lc [("cue", 4)] rfl nd (pxi_any (px_fldC 0 "Score" fx.a_Score_rows)) (blkOk_by (N := N_Score___init__) (sc := defScope (inClass (top 80) 0)) (by decide +kernel)) (by decide) (fun _ _ _ _ _ => pxg_n 4 nd) (fun _ _ _ _ _ => pxts_nil) (fun _ _ _ _ _ => px_methR 0 (C_Score_senders_of fx) hr (by decide) (pxa_cons (px_v 4) (pxa_nil)))))))))))))
theorem M_Score (fx : Fx P w K mg base) : Mkr P w K mg base 2 "Score" (spR K P_Score___init__) := by
  obtain ⟨f, fd, D, hk, hm⟩ := fx.f_Score___init__
  exact ⟨f, fd, ["self", "cues", "back"], hk, hm, ok_Score___init__ fx D, D.bindsN (fun _ _ _ _ _ _ us hu => by match us, hu with | [_, _, _], _ => rfl)⟩
theorem sc_Score_first : FnScope N_Score_first ["self"] (defScope (inClass (top 80) 10)) := ⟨rfl, rfl, rfl, by decide +kernel, rfl, by decide +kernel, by decide +kernel⟩
theorem ok_Score_first (fx : Fx P w K mg base) {f : Addr} {fd : FuncData} (D : FunD K "first" "Score.first" (defArgs (inClass (top 80) 10)) (defBody (inClass (top 80) 10)) (defScope (inClass (top 80) 10)) [] [] f fd) : FnOk P w K mg base CX0 1 f fd ["self"] (spP K P_Score_first) := by
  refine fnP (N := N_Score_first) (fb := B_Score_first) D sc_Score_first 1 rfl (by decide) fun X F cdv A outer s H E hr hX => ?_
  subst hX
  have nd := sc_Score_first.nd
  exact pxb_one (pxs_ret (px_tup (pxa_cons (px_op op_mulG s_mulG (px_tup (pxa_cons (px_g fx.g_STILL rfl) (pxa_nil))) (px_B call_len c_len rfl fx.n_len rfl (pxa_cons (px_fld "Score" fx.a_Score_channels (px_v 0)) (pxa_nil)))) (pxa_cons (px_un un_neg s_neg (px_int)) (pxa_cons (px_g fx.g_NEVER rfl) (pxa_cons (px_tup (pxa_nil)) (pxa_nil)))))))
theorem C_Score_first (fx : Fx P w K mg base) : Mth P w K mg base 1 "Score" "first" (spP K P_Score_first) := by
  obtain ⟨f, fd, D, hc, hm⟩ := fx.f_Score_first
  exact ⟨f, fd, ["self"], hc, hm, ok_Score_first fx D, D.bindsN (fun _ _ _ _ _ _ us hu => by match us, hu with | [_], _ => rfl)⟩
theorem sc_Score_follow_of : FnScope N_Score_follow_of ["self", "place"] (defScope (inClass (top 80) 3)) := ⟨rfl, rfl, rfl, by decide +kernel, rfl, by decide +kernel, by decide +kernel⟩
theorem ok_Score_follow_of (fx : Fx P w K mg base) {f : Addr} {fd : FuncData} (D : FunD K "follow_of" "Score.follow_of" (defArgs (inClass (top 80) 3)) (defBody (inClass (top 80) 3)) (defScope (inClass (top 80) 3)) [] [] f fd) : FnOk P w K mg base CX0 1 f fd ["self", "place"] (spP K P_Score_follow_of) := by
  refine fnP (N := N_Score_follow_of) (fb := B_Score_follow_of) D sc_Score_follow_of 2 rfl (by decide) fun X F cdv A outer s H E hr hX => ?_
  subst hX
  have nd := sc_Score_follow_of.nd
  exact pxb_cons (pxs_set (i := 2) nd (pxk_im (px_it (u1 hr) (px_it (u1 hr) (px_fld "Score" fx.a_Score_rows (px_v 0)) (px_v 1)) (px_int)))) (pxb_one (pxs_ret (px_if (pxt_w (pxw_or (pxt_cmp op_isN s_isN (px_v 2) (px_non) (nomark _)) (pxw_one_or (pxt_cmp (op_eqD hr.units) s_eqD (px_op op_addG s_addG (px_v 1) (px_int)) (px_B call_len c_len rfl fx.n_len rfl (pxa_cons (px_fld "Score" fx.a_Score_rows (px_v 0)) (pxa_nil))) (nomark _))))) (px_g fx.g_NEVER rfl) (px_v 2))))
theorem C_Score_follow_of (fx : Fx P w K mg base) : Mth P w K mg base 1 "Score" "follow_of" (spP K P_Score_follow_of) := by
  obtain ⟨f, fd, D, hc, hm⟩ := fx.f_Score_follow_of
  exact ⟨f, fd, ["self", "place"], hc, hm, ok_Score_follow_of fx D, D.bindsN (fun _ _ _ _ _ _ us hu => by match us, hu with | [_, _], _ => rfl)⟩
theorem sc_Score_starting : FnScope N_Score_starting ["self", "place"] (defScope (inClass (top 80) 4)) := ⟨rfl, rfl, rfl, by decide +kernel, rfl, by decide +kernel, by decide +kernel⟩
theorem ok_Score_starting (fx : Fx P w K mg base) {f : Addr} {fd : FuncData} (D : FunD K "starting" "Score.starting" (defArgs (inClass (top 80) 4)) (defBody (inClass (top 80) 4)) (defScope (inClass (top 80) 4)) [] [] f fd) : FnOk P w K mg base CX0 2 f fd ["self", "place"] (spP K P_Score_starting) := by
  refine fnP (N := N_Score_starting) (fb := B_Score_starting) D sc_Score_starting 2 rfl (by decide) fun X F cdv A outer s H E hr hX => ?_
  subst hX
  have nd := sc_Score_starting.nd
  exact pxb_one (pxs_ret (px_tup (pxa_cons (px_v 1) (pxa_cons (px_meth (C_Score_follow_of fx) hr (by decide) (px_v 0) (pxa_cons (px_v 1) (pxa_nil))) (pxa_cons (px_tup (pxa_cons (px_it (u1 hr) (px_fld "Score" fx.a_Score_senders (px_v 0)) (px_v 1)) (pxa_cons (px_it (u1 hr) (px_it (u1 hr) (px_fld "Score" fx.a_Score_rows (px_v 0)) (px_v 1)) (px_int)) (pxa_nil)))) (pxa_nil))))))
theorem C_Score_starting (fx : Fx P w K mg base) : Mth P w K mg base 2 "Score" "starting" (spP K P_Score_starting) := by
  obtain ⟨f, fd, D, hc, hm⟩ := fx.f_Score_starting
  exact ⟨f, fd, ["self", "place"], hc, hm, ok_Score_starting fx D, D.bindsN (fun _ _ _ _ _ _ us hu => by match us, hu with | [_, _], _ => rfl)⟩
theorem sc_Score_passing : FnScope N_Score_passing ["self", "place", "due"] (defScope (inClass (top 80) 6)) := ⟨rfl, rfl, rfl, by decide +kernel, rfl, by decide +kernel, by decide +kernel⟩
theorem ok_Score_passing (fx : Fx P w K mg base) {f : Addr} {fd : FuncData} (D : FunD K "passing" "Score.passing" (defArgs (inClass (top 80) 6)) (defBody (inClass (top 80) 6)) (defScope (inClass (top 80) 6)) [] [] f fd) : FnOk P w K mg base CX0 3 f fd ["self", "place", "due"] (spP K P_Score_passing) := by
  refine fnP (N := N_Score_passing) (fb := B_Score_passing) D sc_Score_passing 3 rfl (by decide) fun X F cdv A outer s H E hr hX => ?_
  subst hX
  have nd := sc_Score_passing.nd
  exact pxb_cons (pxs_if (pxt_cmp (op_eqD hr.units) s_eqD (px_v 2) (px_int) (nomark _)) (pxb_one (pxs_ret (px_meth (C_Score_starting fx) hr (by decide) (px_v 0) (pxa_cons (px_op op_addG s_addG (px_v 1) (px_int)) (pxa_nil))))) (pxb_nil)) (pxb_one (pxs_ret (px_tup (pxa_cons (px_v 1) (pxa_cons (px_if (pxt_cmp op_gt s_gt (px_v 2) (px_int) (nomark _)) (px_op op_sub s_sub (px_v 2) (px_int)) (px_v 2)) (pxa_cons (px_g fx.g_NOBODY rfl) (pxa_nil)))))))
theorem C_Score_passing (fx : Fx P w K mg base) : Mth P w K mg base 3 "Score" "passing" (spP K P_Score_passing) := by
  obtain ⟨f, fd, D, hc, hm⟩ := fx.f_Score_passing
  exact ⟨f, fd, ["self", "place", "due"], hc, hm, ok_Score_passing fx D, D.bindsN (fun _ _ _ _ _ _ us hu => by match us, hu with | [_, _, _], _ => rfl)⟩
theorem sc_Score_jumping : FnScope N_Score_jumping ["self", "place", "due", "number"] (defScope (inClass (top 80) 5)) := ⟨rfl, rfl, rfl, by decide +kernel, rfl, by decide +kernel, by decide +kernel⟩
theorem ok_Score_jumping (fx : Fx P w K mg base) {f : Addr} {fd : FuncData} (D : FunD K "jumping" "Score.jumping" (defArgs (inClass (top 80) 5)) (defBody (inClass (top 80) 5)) (defScope (inClass (top 80) 5)) [] [] f fd) : FnOk P w K mg base CX0 2 f fd ["self", "place", "due", "number"] (spP K P_Score_jumping) := by
  refine fnP (N := N_Score_jumping) (fb := B_Score_jumping) D sc_Score_jumping 4 rfl (by decide) fun X F cdv A outer s H E hr hX => ?_
  subst hX
  have nd := sc_Score_jumping.nd
  exact pxb_cons (pxs_if (pxt_cmp (op_ninG (u1 hr)) s_inG (px_v 3) (px_fld "Score" fx.a_Score_places (px_v 0)) (by with_unfolding_all rfl)) (pxb_one (pxs_ret (px_tup (pxa_cons (px_v 1) (pxa_cons (px_v 2) (pxa_cons (px_g fx.g_NOBODY rfl) (pxa_nil))))))) (pxb_nil)) (pxb_cons (pxs_set (i := 4) nd (pxk_im (px_it (u1 hr) (px_fld "Score" fx.a_Score_places (px_v 0)) (px_v 3)))) (pxb_one (pxs_ret (px_tup (pxa_cons (px_v 4) (pxa_cons (px_meth (C_Score_follow_of fx) hr (by decide) (px_v 0) (pxa_cons (px_v 4) (pxa_nil))) (pxa_cons (px_tup (pxa_cons (px_fld "Score" fx.a_Score_everybody (px_v 0)) (pxa_cons (px_it (u1 hr) (px_it (u1 hr) (px_fld "Score" fx.a_Score_rows (px_v 0)) (px_v 4)) (px_int)) (pxa_nil)))) (pxa_nil))))))))
theorem C_Score_jumping (fx : Fx P w K mg base) : Mth P w K mg base 2 "Score" "jumping" (spP K P_Score_jumping) := by
  obtain ⟨f, fd, D, hc, hm⟩ := fx.f_Score_jumping
  exact ⟨f, fd, ["self", "place", "due", "number"], hc, hm, ok_Score_jumping fx D, D.bindsN (fun _ _ _ _ _ _ us hu => by match us, hu with | [_, _, _, _], _ => rfl)⟩
theorem sc_Score_moved : FnScope N_Score_moved ["self", "place", "due", "act"] (defScope (inClass (top 80) 7)) := ⟨rfl, rfl, rfl, by decide +kernel, rfl, by decide +kernel, by decide +kernel⟩
theorem ok_Score_moved (fx : Fx P w K mg base) {f : Addr} {fd : FuncData} (D : FunD K "moved" "Score.moved" (defArgs (inClass (top 80) 7)) (defBody (inClass (top 80) 7)) (defScope (inClass (top 80) 7)) [] [] f fd) : FnOk P w K mg base CX0 4 f fd ["self", "place", "due", "act"] (spP K P_Score_moved) := by
  refine fnP (N := N_Score_moved) (fb := B_Score_moved) D sc_Score_moved 4 rfl (by decide) fun X F cdv A outer s H E hr hX => ?_
  subst hX
  have nd := sc_Score_moved.nd
  exact pxb_cons (pxs_set (i := 4) nd (pxk_im (px_it (u1 hr) (px_v 3) (px_int)))) (pxb_cons (pxs_if (pxt_cmp (op_eqD hr.units) s_eqD (px_v 4) (px_str) (nomark _)) (pxb_one (pxs_ret (px_meth (C_Score_passing fx) hr (by decide) (px_v 0) (pxa_cons (px_v 1) (pxa_cons (px_v 2) (pxa_nil)))))) (pxb_nil)) (pxb_cons (pxs_if (pxt_cmp (op_eqD hr.units) s_eqD (px_v 4) (px_str) (nomark _)) (pxb_one (pxs_ret (px_meth (C_Score_jumping fx) hr (by decide) (px_v 0) (pxa_cons (px_v 1) (pxa_cons (px_v 2) (pxa_cons (px_it (u1 hr) (px_v 3) (px_int)) (pxa_nil))))))) (pxb_nil)) (pxb_cons (pxs_if (pxt_w (pxw_and (pxt_cmp (op_eqD hr.units) s_eqD (px_v 4) (px_str) (nomark _)) (pxw_one_and (pxt_cmp op_ltG s_ltG (px_op op_addG s_addG (px_v 1) (px_int)) (px_B call_len c_len rfl fx.n_len rfl (pxa_cons (px_fld "Score" fx.a_Score_rows (px_v 0)) (pxa_nil))) (nomark _))))) (pxb_one (pxs_ret (px_meth (C_Score_starting fx) hr (by decide) (px_v 0) (pxa_cons (px_op op_addG s_addG (px_v 1) (px_int)) (pxa_nil))))) (pxb_nil)) (pxb_cons (pxs_if (pxt_w (pxw_and (pxt_cmp (op_eqD hr.units) s_eqD (px_v 4) (px_str) (nomark _)) (pxw_one_and (pxt_cmp op_ge s_ge (px_v 1) (px_int) (nomark _))))) (pxb_one (pxs_ret (px_tup (pxa_cons (px_op op_sub s_sub (px_v 1) (px_int)) (pxa_cons (px_g fx.g_NEVER rfl) (pxa_cons (px_tup (pxa_cons (px_fld "Score" fx.a_Score_everybody (px_v 0)) (pxa_cons (px_fld "Score" fx.a_Score_back (px_v 0)) (pxa_nil)))) (pxa_nil))))))) (pxb_nil)) (pxb_one (pxs_ret (px_tup (pxa_cons (px_v 1) (pxa_cons (px_v 2) (pxa_cons (px_g fx.g_NOBODY rfl) (pxa_nil)))))))))))
theorem C_Score_moved (fx : Fx P w K mg base) : Mth P w K mg base 4 "Score" "moved" (spP K P_Score_moved) := by
  obtain ⟨f, fd, D, hc, hm⟩ := fx.f_Score_moved
  exact ⟨f, fd, ["self", "place", "due", "act"], hc, hm, ok_Score_moved fx D, D.bindsN (fun _ _ _ _ _ _ us hu => by match us, hu with | [_, _, _, _], _ => rfl)⟩
theorem sc_held_behind : FnScope N_held_behind ["held", "act"] (defScope (top 81)) := ⟨rfl, rfl, rfl, by decide +kernel, rfl, by decide +kernel, by decide +kernel⟩
theorem ok_held_behind (fx : Fx P w K mg base) {f : Addr} {fd : FuncData} (D : FunD K "held_behind" "held_behind" (defArgs (top 81)) (defBody (top 81)) (defScope (top 81)) [] [] f fd) : FnOk P w K mg base CX0 1 f fd ["held", "act"] (spP K P_held_behind) := by
  refine fnP (N := N_held_behind) (fb := B_held_behind) D sc_held_behind 2 rfl (by decide) fun X F cdv A outer s H E hr hX => ?_
  subst hX
  have nd := sc_held_behind.nd
  exact pxb_cons (pxs_set (i := 2) nd (pxk_cl (pxn_dc [("channel", 3), ("level", 4)] rfl nd (pxi_any (px_v 0)) (blkOk_by (N := N_held_behind) (sc := defScope (top 81)) (by decide +kernel)) (by decide) (fun _ _ _ _ _ => pxg_t rfl (pxgs_cons (pxg_n 3 nd) (pxgs_cons (pxg_n 4 nd) (pxgs_nil)))) (fun _ _ _ _ _ => pxts_one (pxt_cmp (op_neD hr.units) s_neD (px_v 3) (px_it (u1 hr) (px_v 1) (px_int)) (nomark _))) (fun _ _ _ _ _ => px_v 3) (fun _ _ _ _ _ => px_v 4)))) (pxb_cons (pxs_if (pxt_cmp (op_eqD hr.units) s_eqD (px_it (u1 hr) (px_v 1) (px_int)) (px_str) (nomark _)) (pxb_one (pxs_sub 2 (u1 hr) (px_it (u1 hr) (px_v 1) (px_int)) (px_it (u1 hr) (px_v 1) (px_int)))) (pxb_nil)) (pxb_frz 2 (pxb_one (pxs_ret (px_Ty call_tuple_of c_tuple rfl fx.n_tuple rfl (pxa_cons (px_n (pxn_lc [("channel", 3)] rfl nd (pxi_any (px_n (pxn_B call_sortA c_sortA rfl fx.n_sorted rfl (pxa_cons (px_n (pxn_Ty (call_listG rfl) c_listG rfl fx.n_list rfl (pxa_cons (px_v 2) (pxa_nil)))) (pxa_nil))))) (blkOk_by (N := N_held_behind) (sc := defScope (top 81)) (by decide +kernel)) (by decide) (fun _ _ _ _ _ => pxg_n 3 nd) (fun _ _ _ _ _ => pxts_nil) (fun _ _ _ _ _ => px_tup (pxa_cons (px_v 3) (pxa_cons (px_it (u1 hr) (px_v 2) (px_v 3)) (pxa_nil)))))) (pxa_nil)))))))
theorem C_held_behind (fx : Fx P w K mg base) : Cal P w K mg base 1 "held_behind" (spP K P_held_behind) := by
  obtain ⟨f, fd, D, hm⟩ := fx.f_held_behind
  exact ⟨f, fd, ["held", "act"], ok_held_behind fx D, hm, D.kp, D.bindsN (fun _ _ _ _ _ _ us hu => by match us, hu with | [_, _], _ => rfl)⟩
theorem sc_resting : FnScope N_resting ["level"] (defScope (top 72)) := ⟨rfl, rfl, rfl, by decide +kernel, rfl, by decide +kernel, by decide +kernel⟩
theorem ok_resting (fx : Fx P w K mg base) {f : Addr} {fd : FuncData} (D : FunD K "resting" "resting" (defArgs (top 72)) (defBody (top 72)) (defScope (top 72)) [] [] f fd) : FnOk P w K mg base CX0 1 f fd ["level"] (spP K P_resting) := by
  refine fnP (N := N_resting) (fb := B_resting) D sc_resting 1 rfl (by decide) fun X F cdv A outer s H E hr hX => ?_
  subst hX
  have nd := sc_resting.nd
  exact pxb_one (pxs_ret (px_tup (pxa_cons (px_v 0) (pxa_cons (px_v 0) (pxa_cons (px_int) (pxa_cons (px_int) (pxa_nil)))))))
theorem C_resting (fx : Fx P w K mg base) : Cal P w K mg base 1 "resting" (spP K P_resting) := by
  obtain ⟨f, fd, D, hm⟩ := fx.f_resting
  exact ⟨f, fd, ["level"], ok_resting fx D, hm, D.kp, D.bindsN (fun _ _ _ _ _ _ us hu => by match us, hu with | [_], _ => rfl)⟩
theorem sc_ticked : FnScope N_ticked ["run"] (defScope (top 75)) := ⟨rfl, rfl, rfl, by decide +kernel, rfl, by decide +kernel, by decide +kernel⟩
theorem ok_ticked (fx : Fx P w K mg base) {f : Addr} {fd : FuncData} (D : FunD K "ticked" "ticked" (defArgs (top 75)) (defBody (top 75)) (defScope (top 75)) [] [] f fd) : FnOk P w K mg base CX0 2 f fd ["run"] (spP K P_ticked) := by
  refine fnP (N := N_ticked) (fb := B_ticked) D sc_ticked 1 rfl (by decide) fun X F cdv A outer s H E hr hX => ?_
  subst hX
  have nd := sc_ticked.nd
  exact pxb_cons (pxs_asg (px_v 0) (pxg_t rfl (pxgs_cons (pxg_n 1 nd) (pxgs_cons (pxg_n 2 nd) (pxgs_cons (pxg_n 3 nd) (pxgs_cons (pxg_n 4 nd) (pxgs_nil))))))) (pxb_cons (pxs_if (pxt_cmp op_ge s_ge (px_v 3) (px_v 4) (nomark _)) (pxb_one (pxs_ret (px_v 0))) (pxb_nil)) (pxb_one (pxs_ret (px_if (pxt_cmp op_ltG s_ltG (px_op op_addG s_addG (px_v 3) (px_int)) (px_v 4) (nomark _)) (px_tup (pxa_cons (px_v 1) (pxa_cons (px_v 2) (pxa_cons (px_op op_addG s_addG (px_v 3) (px_int)) (pxa_cons (px_v 4) (pxa_nil)))))) (px_call (C_resting fx) hr (by decide) (pxa_cons (px_v 2) (pxa_nil)))))))
theorem C_ticked (fx : Fx P w K mg base) : Cal P w K mg base 2 "ticked" (spP K P_ticked) := by
  obtain ⟨f, fd, D, hm⟩ := fx.f_ticked
  exact ⟨f, fd, ["run"], ok_ticked fx D, hm, D.kp, D.bindsN (fun _ _ _ _ _ _ us hu => by match us, hu with | [_], _ => rfl)⟩
theorem sc_level_of : FnScope N_level_of ["run"] (defScope (top 74)) := ⟨rfl, rfl, rfl, by decide +kernel, rfl, by decide +kernel, by decide +kernel⟩
theorem ok_level_of (fx : Fx P w K mg base) {f : Addr} {fd : FuncData} (D : FunD K "level_of" "level_of" (defArgs (top 74)) (defBody (top 74)) (defScope (top 74)) [] [] f fd) : FnOk P w K mg base CX0 1 f fd ["run"] (spP K P_level_of) := by
  refine fnP (N := N_level_of) (fb := B_level_of) D sc_level_of 1 rfl (by decide) fun X F cdv A outer s H E hr hX => ?_
  subst hX
  have nd := sc_level_of.nd
  exact pxb_cons (pxs_asg (px_v 0) (pxg_t rfl (pxgs_cons (pxg_n 1 nd) (pxgs_cons (pxg_n 2 nd) (pxgs_cons (pxg_n 3 nd) (pxgs_cons (pxg_n 4 nd) (pxgs_nil))))))) (pxb_one (pxs_ret (px_if (pxt_cmp op_ltG s_ltG (px_v 3) (px_v 4) (nomark _)) (px_op op_addG s_addG (px_v 1) (px_op op_fdiv s_div (px_op op_mulG s_mulG (px_op op_sub s_sub (px_v 2) (px_v 1)) (px_v 3)) (px_v 4))) (px_v 2))))
theorem C_level_of (fx : Fx P w K mg base) : Cal P w K mg base 1 "level_of" (spP K P_level_of) := by
  obtain ⟨f, fd, D, hm⟩ := fx.f_level_of
  exact ⟨f, fd, ["run"], ok_level_of fx D, hm, D.kp, D.bindsN (fun _ _ _ _ _ _ us hu => by match us, hu with | [_], _ => rfl)⟩
theorem sc_sent : FnScope N_sent ["run", "level", "long"] (defScope (top 76)) := ⟨rfl, rfl, rfl, by decide +kernel, rfl, by decide +kernel, by decide +kernel⟩
theorem ok_sent (fx : Fx P w K mg base) {f : Addr} {fd : FuncData} (D : FunD K "sent" "sent" (defArgs (top 76)) (defBody (top 76)) (defScope (top 76)) [] [] f fd) : FnOk P w K mg base CX0 2 f fd ["run", "level", "long"] (spP K P_sent) := by
  refine fnP (N := N_sent) (fb := B_sent) D sc_sent 3 rfl (by decide) fun X F cdv A outer s H E hr hX => ?_
  subst hX
  have nd := sc_sent.nd
  exact pxb_cons (pxs_if (pxt_cmp (op_eqD hr.units) s_eqD (px_it (u1 hr) (px_v 0) (px_int)) (px_v 1) (nomark _)) (pxb_one (pxs_ret (px_v 0))) (pxb_nil)) (pxb_cons (pxs_set (i := 3) nd (pxk_im (px_call (C_level_of fx) hr (by decide) (pxa_cons (px_v 0) (pxa_nil))))) (pxb_one (pxs_ret (px_if (pxt_w (pxw_or (pxt_cmp (op_eqD hr.units) s_eqD (px_v 2) (px_int) (nomark _)) (pxw_one_or (pxt_cmp (op_eqD hr.units) s_eqD (px_v 3) (px_v 1) (nomark _))))) (px_call (C_resting fx) hr (by decide) (pxa_cons (px_v 1) (pxa_nil))) (px_tup (pxa_cons (px_v 3) (pxa_cons (px_v 1) (pxa_cons (px_int) (pxa_cons (px_v 2) (pxa_nil))))))))))
theorem C_sent (fx : Fx P w K mg base) : Cal P w K mg base 2 "sent" (spP K P_sent) := by
  obtain ⟨f, fd, D, hm⟩ := fx.f_sent
  exact ⟨f, fd, ["run", "level", "long"], ok_sent fx D, hm, D.kp, D.bindsN (fun _ _ _ _ _ _ us hu => by match us, hu with | [_, _, _], _ => rfl)⟩
theorem sc_Score_run_behind : FnScope N_Score_run_behind ["self", "at", "run", "act", "place", "sending"] (defScope (inClass (top 80) 8)) := ⟨rfl, rfl, rfl, by decide +kernel, rfl, by decide +kernel, by decide +kernel⟩
theorem ok_Score_run_behind (fx : Fx P w K mg base) {f : Addr} {fd : FuncData} (D : FunD K "run_behind" "Score.run_behind" (defArgs (inClass (top 80) 8)) (defBody (inClass (top 80) 8)) (defScope (inClass (top 80) 8)) [] [] f fd) : FnOk P w K mg base CX0 3 f fd ["self", "at", "run", "act", "place", "sending"] (spP K P_Score_run_behind) := by
  refine fnP (N := N_Score_run_behind) (fb := B_Score_run_behind) D sc_Score_run_behind 6 rfl (by decide) fun X F cdv A outer s H E hr hX => ?_
  subst hX
  have nd := sc_Score_run_behind.nd
  exact pxb_cons (pxs_set (i := 6) nd (pxk_im (px_if (pxt_cmp (op_eqD hr.units) s_eqD (px_it (u1 hr) (px_v 3) (px_int)) (px_str) (nomark _)) (px_call (C_ticked fx) hr (by decide) (pxa_cons (px_v 2) (pxa_nil))) (px_v 2)))) (pxb_cons (pxs_asg (px_v 5) (pxg_t rfl (pxgs_cons (pxg_n 7 nd) (pxgs_cons (pxg_n 8 nd) (pxgs_nil))))) (pxb_one (pxs_ret (px_if (pxt_cmp (op_inG (u1 hr)) s_inG (px_v 1) (px_v 7) (by with_unfolding_all rfl)) (px_call (C_sent fx) hr (by decide) (pxa_cons (px_v 6) (pxa_cons (px_it (u1 hr) (px_it (u1 hr) (px_fld "Score" fx.a_Score_means (px_v 0)) (px_op op_addG s_addG (px_v 4) (px_int))) (px_v 1)) (pxa_cons (px_v 8) (pxa_nil))))) (px_v 6)))))
theorem C_Score_run_behind (fx : Fx P w K mg base) : Mth P w K mg base 3 "Score" "run_behind" (spP K P_Score_run_behind) := by
  obtain ⟨f, fd, D, hc, hm⟩ := fx.f_Score_run_behind
  exact ⟨f, fd, ["self", "at", "run", "act", "place", "sending"], hc, hm, ok_Score_run_behind fx D, D.bindsN (fun _ _ _ _ _ _ us hu => by match us, hu with | [_, _, _, _, _, _], _ => rfl)⟩
theorem sc_Score_behind : FnScope N_Score_behind ["self", "stage", "act"] (defScope (inClass (top 80) 11)) := ⟨rfl, rfl, rfl, by decide +kernel, rfl, by decide +kernel, by decide +kernel⟩
theorem ok_Score_behind (fx : Fx P w K mg base) {f : Addr} {fd : FuncData} (D : FunD K "behind" "Score.behind" (defArgs (inClass (top 80) 11)) (defBody (inClass (top 80) 11)) (defScope (inClass (top 80) 11)) [] [] f fd) : FnOk P w K mg base CX0 5 f fd ["self", "stage", "act"] (spP K P_Score_behind) := by
  refine fnP (N := N_Score_behind) (fb := B_Score_behind) D sc_Score_behind 3 rfl (by decide) fun X F cdv A outer s H E hr hX => ?_
  subst hX
  have nd := sc_Score_behind.nd
  exact pxb_cons (pxs_asg (px_v 1) (pxg_t rfl (pxgs_cons (pxg_n 3 nd) (pxgs_cons (pxg_n 4 nd) (pxgs_cons (pxg_n 5 nd) (pxgs_cons (pxg_n 6 nd) (pxgs_nil))))))) (pxb_cons (pxs_if (pxt_cmp (op_inG (u1 hr)) s_inG (px_it (u1 hr) (px_v 2) (px_int)) (px_tup (pxa_cons (px_str) (pxa_cons (px_str) (pxa_nil)))) (by with_unfolding_all rfl)) (pxb_one (pxs_ret (px_tup (pxa_cons (px_v 3) (pxa_cons (px_v 4) (pxa_cons (px_v 5) (pxa_cons (px_call (C_held_behind fx) hr (by decide) (pxa_cons (px_v 6) (pxa_cons (px_v 2) (pxa_nil)))) (pxa_nil)))))))) (pxb_nil)) (pxb_cons (pxs_asg (px_meth (C_Score_moved fx) hr (by decide) (px_v 0) (pxa_cons (px_v 4) (pxa_cons (px_v 5) (pxa_cons (px_v 2) (pxa_nil))))) (pxg_t rfl (pxgs_cons (pxg_n 4 nd) (pxgs_cons (pxg_n 5 nd) (pxgs_cons (pxg_n 7 nd) (pxgs_nil)))))) (pxb_one (pxs_ret (px_tup (pxa_cons (px_Ty call_tuple_of c_tuple rfl fx.n_tuple rfl (pxa_cons (px_n (pxn_lc [("at", 8), ("run", 9)] rfl nd (pxi_enumA fx.n_enumerate (pxa_cons (px_v 3) (pxa_nil))) (blkOk_by (N := N_Score_behind) (sc := defScope (inClass (top 80) 11)) (by decide +kernel)) (by decide) (fun _ _ _ _ _ => pxg_t rfl (pxgs_cons (pxg_n 8 nd) (pxgs_cons (pxg_n 9 nd) (pxgs_nil)))) (fun _ _ _ _ _ => pxts_nil) (fun _ _ _ _ _ => px_meth (C_Score_run_behind fx) hr (by decide) (px_v 0) (pxa_cons (px_v 8) (pxa_cons (px_v 9) (pxa_cons (px_v 2) (pxa_cons (px_v 4) (pxa_cons (px_v 7) (pxa_nil))))))))) (pxa_nil))) (pxa_cons (px_v 4) (pxa_cons (px_v 5) (pxa_cons (px_v 6) (pxa_nil))))))))))
theorem C_Score_behind (fx : Fx P w K mg base) : Mth P w K mg base 5 "Score" "behind" (spP K P_Score_behind) := by
  obtain ⟨f, fd, D, hc, hm⟩ := fx.f_Score_behind
  exact ⟨f, fd, ["self", "stage", "act"], hc, hm, ok_Score_behind fx D, D.bindsN (fun _ _ _ _ _ _ us hu => by match us, hu with | [_, _, _], _ => rfl)⟩
theorem sc_Score_stages : FnScope N_Score_stages ["self", "acts"] (defScope (inClass (top 80) 13)) := ⟨rfl, rfl, rfl, by decide +kernel, rfl, by decide +kernel, by decide +kernel⟩
theorem ok_Score_stages (fx : Fx P w K mg base) {f : Addr} {fd : FuncData} (D : FunD K "stages" "Score.stages" (defArgs (inClass (top 80) 13)) (defBody (inClass (top 80) 13)) (defScope (inClass (top 80) 13)) [] [] f fd) : FnOk P w K mg base CX0 6 f fd ["self", "acts"] (spP K P_Score_stages) := by
  refine fnP (N := N_Score_stages) (fb := B_Score_stages) D sc_Score_stages 2 rfl (by decide) fun X F cdv A outer s H E hr hX => ?_
  subst hX
  have nd := sc_Score_stages.nd
  exact pxb_cons (pxs_set (i := 2) nd (pxk_cl (pxn_lst (pxa_cons (px_meth0 (C_Score_first fx) hr (by decide) (px_v 0)) (pxa_nil))))) (pxb_cons (pxs_for rfl PassesOwn.leaving (pxi_any (px_v 1)) (pxg_n 3 nd) (pxb_one (pxs_expr (px_bmC 2 m_append PySem.F.plainAttrs_list PySem.F.slot_list_append PySem.F.type_list_append mt_append (pxa_cons (px_meth (C_Score_behind fx) hr (by decide) (px_v 0) (pxa_cons (px_ixG 2 (u1 hr) (px_un un_neg s_neg (px_int))) (pxa_cons (px_v 3) (pxa_nil)))) (pxa_nil)))))) (pxb_frz 2 (pxb_one (pxs_ret (px_v 2)))))
theorem C_Score_stages (fx : Fx P w K mg base) : Mth P w K mg base 6 "Score" "stages" (spP K P_Score_stages) := by
  obtain ⟨f, fd, D, hc, hm⟩ := fx.f_Score_stages
  exact ⟨f, fd, ["self", "acts"], hc, hm, ok_Score_stages fx D, D.bindsN (fun _ _ _ _ _ _ us hu => by match us, hu with | [_, _], _ => rfl)⟩
theorem sc_Score_look : FnScope N_Score_look ["self", "stage"] (defScope (inClass (top 80) 14)) := ⟨rfl, rfl, rfl, by decide +kernel, rfl, by decide +kernel, by decide +kernel⟩
theorem ok_Score_look (fx : Fx P w K mg base) {f : Addr} {fd : FuncData} (D : FunD K "look" "Score.look" (defArgs (inClass (top 80) 14)) (defBody (inClass (top 80) 14)) (defScope (inClass (top 80) 14)) [] [] f fd) : FnOk P w K mg base CX0 2 f fd ["self", "stage"] (spP K P_Score_look) := by
  refine fnP (N := N_Score_look) (fb := B_Score_look) D sc_Score_look 2 rfl (by decide) fun X F cdv A outer s H E hr hX => ?_
  subst hX
  have nd := sc_Score_look.nd
  exact pxb_cons (pxs_set (i := 2) nd (pxk_im (px_n (pxn_dc [("channel", 3), ("level", 4)] rfl nd (pxi_any (px_it (u1 hr) (px_v 1) (px_int))) (blkOk_by (N := N_Score_look) (sc := defScope (inClass (top 80) 14)) (by decide +kernel)) (by decide) (fun _ _ _ _ _ => pxg_t rfl (pxgs_cons (pxg_n 3 nd) (pxgs_cons (pxg_n 4 nd) (pxgs_nil)))) (fun _ _ _ _ _ => pxts_nil) (fun _ _ _ _ _ => px_v 3) (fun _ _ _ _ _ => px_v 4))))) (pxb_one (pxs_ret (px_Ty call_tuple_of c_tuple rfl fx.n_tuple rfl (pxa_cons (px_n (pxn_lc [("channel", 3), ("run", 5)] rfl nd (pxi_zipA fx.n_zip (pxa_cons (px_fld "Score" fx.a_Score_channels (px_v 0)) (pxa_cons (px_it (u1 hr) (px_v 1) (px_int)) (pxa_nil)))) (blkOk_by (N := N_Score_look) (sc := defScope (inClass (top 80) 14)) (by decide +kernel)) (by decide) (fun _ _ _ _ _ => pxg_t rfl (pxgs_cons (pxg_n 3 nd) (pxgs_cons (pxg_n 5 nd) (pxgs_nil)))) (fun _ _ _ _ _ => pxts_nil) (fun _ _ _ _ _ => px_get (u1 hr) (px_v 2) (px_v 3) (px_call (C_level_of fx) hr (by decide) (pxa_cons (px_v 5) (pxa_nil)))))) (pxa_nil)))))
theorem C_Score_look (fx : Fx P w K mg base) : Mth P w K mg base 2 "Score" "look" (spP K P_Score_look) := by
  obtain ⟨f, fd, D, hc, hm⟩ := fx.f_Score_look
  exact ⟨f, fd, ["self", "stage"], hc, hm, ok_Score_look fx D, D.bindsN (fun _ _ _ _ _ _ us hu => by match us, hu with | [_, _], _ => rfl)⟩
theorem sc_log_of : FnScope N_log_of ["cues", "back", "acts"] (defScope (top 91)) := ⟨rfl, rfl, rfl, by decide +kernel, rfl, by decide +kernel, by decide +kernel⟩
theorem ok_log_of (fx : Fx P w K mg base) {f : Addr} {fd : FuncData} (D : FunD K "log_of" "log_of" (defArgs (top 91)) (defBody (top 91)) (defScope (top 91)) [] [] f fd) : FnOk P w K mg base CX0 7 f fd ["cues", "back", "acts"] (spP K P_log_of) := by
  refine fnP (N := N_log_of) (fb := B_log_of) D sc_log_of 3 rfl (by decide) fun X F cdv A outer s H E hr hX => ?_
  subst hX
  have nd := sc_log_of.nd
  exact pxb_cons (pxs_par3 3 4 5 rfl nd (pxk_im (px_n (pxn_mk (M_Score fx) hr (by decide) (pxa_cons (px_v 0) (pxa_cons (px_v 1) (pxa_nil)))))) (pxk_cl (pxn_lst (pxa_nil))) (pxk_im (px_int))) (pxb_cons (pxs_for rfl PassesOwn.leaving (pxi_zipA fx.n_zip (pxa_cons (px_v 2) (pxa_cons (px_sl (px_meth (C_Score_stages fx) hr (by decide) (px_v 3) (pxa_cons (px_v 2) (pxa_nil))) (pxo_some (px_int)) (pxo_none)) (pxa_nil)))) (pxg_t rfl (pxgs_cons (pxg_n 6 nd) (pxgs_cons (pxg_n 7 nd) (pxgs_nil)))) (pxb_cons (pxs_set (i := 5) nd (pxk_im (px_if (pxt_cmp (op_eqD hr.units) s_eqD (px_v 6) (px_g fx.g_WAIT rfl) (nomark _)) (px_op op_addG s_addG (px_v 5) (px_int)) (px_v 5)))) (pxb_one (pxs_expr (px_bmC 4 m_append PySem.F.plainAttrs_list PySem.F.slot_list_append PySem.F.type_list_append mt_append (pxa_cons (px_tup (pxa_cons (px_v 5) (pxa_cons (px_it (u1 hr) (px_v 7) (px_int)) (pxa_cons (px_meth (C_Score_look fx) hr (by decide) (px_v 3) (pxa_cons (px_v 7) (pxa_nil))) (pxa_nil))))) (pxa_nil))))))) (pxb_frz 4 (pxb_one (pxs_ret (px_Ty call_tuple_of c_tuple rfl fx.n_tuple rfl (pxa_cons (px_v 4) (pxa_nil)))))))
theorem C_log_of (fx : Fx P w K mg base) : Cal P w K mg base 7 "log_of" (spP K P_log_of) := by
  obtain ⟨f, fd, D, hm⟩ := fx.f_log_of
  exact ⟨f, fd, ["cues", "back", "acts"], ok_log_of fx D, hm, D.kp, D.bindsN (fun _ _ _ _ _ _ us hu => by match us, hu with | [_, _, _], _ => rfl)⟩
theorem sc_log : FnScope N_log ["cues", "back", "acts"] (defScope (top 92)) := ⟨rfl, rfl, rfl, by decide +kernel, rfl, by decide +kernel, by decide +kernel⟩
theorem ok_log (fx : Fx P w K mg base) {f : Addr} {fd : FuncData} (D : FunD K "log" "log" (defArgs (top 92)) (defBody (top 92)) (defScope (top 92)) [] [] f fd) : FnOk P w K mg base CX0 8 f fd ["cues", "back", "acts"] (spP K P_log) := by
  refine fnP (N := N_log) (fb := B_log) D sc_log 3 rfl (by decide) fun X F cdv A outer s H E hr hX => ?_
  subst hX
  have nd := sc_log.nd
  exact pxb_cons (pxs_expr (px_call (C_need_acted fx) hr (by decide) (pxa_cons (px_v 0) (pxa_cons (px_v 1) (pxa_cons (px_v 2) (pxa_nil)))))) (pxb_one (pxs_ret (px_call (C_log_of fx) hr (by decide) (pxa_cons (px_v 0) (pxa_cons (px_v 1) (pxa_cons (px_v 2) (pxa_nil)))))))
theorem C_log (fx : Fx P w K mg base) : Cal P w K mg base 8 "log" (spP K P_log) := by
  obtain ⟨f, fd, D, hm⟩ := fx.f_log
  exact ⟨f, fd, ["cues", "back", "acts"], ok_log fx D, hm, D.kp, D.bindsN (fun _ _ _ _ _ _ us hu => by match us, hu with | [_, _, _], _ => rfl)⟩
theorem sc_looks_of : FnScope N_looks_of ["cues", "back", "acts"] (defScope (top 87)) := ⟨rfl, rfl, rfl, by decide +kernel, rfl, by decide +kernel, by decide +kernel⟩
theorem ok_looks_of (fx : Fx P w K mg base) {f : Addr} {fd : FuncData} (D : FunD K "looks_of" "looks_of" (defArgs (top 87)) (defBody (top 87)) (defScope (top 87)) [] [] f fd) : FnOk P w K mg base CX0 7 f fd ["cues", "back", "acts"] (spP K P_looks_of) := by
  refine fnP (N := N_looks_of) (fb := B_looks_of) D sc_looks_of 3 rfl (by decide) fun X F cdv A outer s H E hr hX => ?_
  subst hX
  have nd := sc_looks_of.nd
  exact pxb_cons (pxs_set (i := 3) nd (pxk_im (px_n (pxn_mk (M_Score fx) hr (by decide) (pxa_cons (px_v 0) (pxa_cons (px_v 1) (pxa_nil))))))) (pxb_one (pxs_ret (px_Ty call_tuple_of c_tuple rfl fx.n_tuple rfl (pxa_cons (px_n (pxn_lc [("stage", 4)] rfl nd (pxi_any (px_meth (C_Score_stages fx) hr (by decide) (px_v 3) (pxa_cons (px_v 2) (pxa_nil)))) (blkOk_by (N := N_looks_of) (sc := defScope (top 87)) (by decide +kernel)) (by decide) (fun _ _ _ _ _ => pxg_n 4 nd) (fun _ _ _ _ _ => pxts_nil) (fun _ _ _ _ _ => px_meth (C_Score_look fx) hr (by decide) (px_v 3) (pxa_cons (px_v 4) (pxa_nil))))) (pxa_nil)))))
theorem C_looks_of (fx : Fx P w K mg base) : Cal P w K mg base 7 "looks_of" (spP K P_looks_of) := by
  obtain ⟨f, fd, D, hm⟩ := fx.f_looks_of
  exact ⟨f, fd, ["cues", "back", "acts"], ok_looks_of fx D, hm, D.kp, D.bindsN (fun _ _ _ _ _ _ us hu => by match us, hu with | [_, _, _], _ => rfl)⟩
theorem sc_looks : FnScope N_looks ["cues", "back", "acts"] (defScope (top 89)) := ⟨rfl, rfl, rfl, by decide +kernel, rfl, by decide +kernel, by decide +kernel⟩
theorem ok_looks (fx : Fx P w K mg base) {f : Addr} {fd : FuncData} (D : FunD K "looks" "looks" (defArgs (top 89)) (defBody (top 89)) (defScope (top 89)) [] [] f fd) : FnOk P w K mg base CX0 8 f fd ["cues", "back", "acts"] (spP K P_looks) := by
  refine fnP (N := N_looks) (fb := B_looks) D sc_looks 3 rfl (by decide) fun X F cdv A outer s H E hr hX => ?_
  subst hX
  have nd := sc_looks.nd
  exact pxb_cons (pxs_expr (px_call (C_need_acted fx) hr (by decide) (pxa_cons (px_v 0) (pxa_cons (px_v 1) (pxa_cons (px_v 2) (pxa_nil)))))) (pxb_one (pxs_ret (px_call (C_looks_of fx) hr (by decide) (pxa_cons (px_v 0) (pxa_cons (px_v 1) (pxa_cons (px_v 2) (pxa_nil)))))))
theorem C_looks (fx : Fx P w K mg base) : Cal P w K mg base 8 "looks" (spP K P_looks) := by
  obtain ⟨f, fd, D, hm⟩ := fx.f_looks
  exact ⟨f, fd, ["cues", "back", "acts"], ok_looks fx D, hm, D.kp, D.bindsN (fun _ _ _ _ _ _ us hu => by match us, hu with | [_, _, _], _ => rfl)⟩
theorem sc_stage_behind : FnScope N_stage_behind ["cues", "back", "acts"] (defScope (top 88)) := ⟨rfl, rfl, rfl, by decide +kernel, rfl, by decide +kernel, by decide +kernel⟩
theorem ok_stage_behind (fx : Fx P w K mg base) {f : Addr} {fd : FuncData} (D : FunD K "stage_behind" "stage_behind" (defArgs (top 88)) (defBody (top 88)) (defScope (top 88)) [] [] f fd) : FnOk P w K mg base CX0 7 f fd ["cues", "back", "acts"] (spP K P_stage_behind) := by
  refine fnP (N := N_stage_behind) (fb := B_stage_behind) D sc_stage_behind 3 rfl (by decide) fun X F cdv A outer s H E hr hX => ?_
  subst hX
  have nd := sc_stage_behind.nd
  exact pxb_cons (pxs_expr (px_call (C_need_acted fx) hr (by decide) (pxa_cons (px_v 0) (pxa_cons (px_v 1) (pxa_cons (px_v 2) (pxa_nil)))))) (pxb_one (pxs_ret (px_it (u1 hr) (px_meth (C_Score_stages fx) hr (by decide) (px_n (pxn_mk (M_Score fx) hr (by decide) (pxa_cons (px_v 0) (pxa_cons (px_v 1) (pxa_nil))))) (pxa_cons (px_v 2) (pxa_nil))) (px_un un_neg s_neg (px_int)))))
theorem C_stage_behind (fx : Fx P w K mg base) : Cal P w K mg base 7 "stage_behind" (spP K P_stage_behind) := by
  obtain ⟨f, fd, D, hm⟩ := fx.f_stage_behind
  exact ⟨f, fd, ["cues", "back", "acts"], ok_stage_behind fx D, hm, D.kp, D.bindsN (fun _ _ _ _ _ _ us hu => by match us, hu with | [_, _, _], _ => rfl)⟩
theorem sc_rests : FnScope N_rests ["run"] (defScope (top 73)) := ⟨rfl, rfl, rfl, by decide +kernel, rfl, by decide +kernel, by decide +kernel⟩
theorem ok_rests (fx : Fx P w K mg base) {f : Addr} {fd : FuncData} (D : FunD K "rests" "rests" (defArgs (top 73)) (defBody (top 73)) (defScope (top 73)) [] [] f fd) : FnOk P w K mg base CX0 1 f fd ["run"] (spP K P_rests) := by
  refine fnP (N := N_rests) (fb := B_rests) D sc_rests 1 rfl (by decide) fun X F cdv A outer s H E hr hX => ?_
  subst hX
  have nd := sc_rests.nd
  exact pxb_one (pxs_ret (px_cmp op_ge s_ge (px_it (u1 hr) (px_v 0) (px_int)) (px_it (u1 hr) (px_v 0) (px_int)) (nomark _)))
theorem C_rests (fx : Fx P w K mg base) : Cal P w K mg base 1 "rests" (spP K P_rests) := by
  obtain ⟨f, fd, D, hm⟩ := fx.f_rests
  exact ⟨f, fd, ["run"], ok_rests fx D, hm, D.kp, D.bindsN (fun _ _ _ _ _ _ us hu => by match us, hu with | [_], _ => rfl)⟩
theorem sc_stage_rests : FnScope N_stage_rests ["stage"] (defScope (top 82)) := ⟨rfl, rfl, rfl, by decide +kernel, rfl, by decide +kernel, by decide +kernel⟩
theorem ok_stage_rests (fx : Fx P w K mg base) {f : Addr} {fd : FuncData} (D : FunD K "stage_rests" "stage_rests" (defArgs (top 82)) (defBody (top 82)) (defScope (top 82)) [] [] f fd) : FnOk P w K mg base CX0 2 f fd ["stage"] (spP K P_stage_rests) := by
  refine fnP (N := N_stage_rests) (fb := B_stage_rests) D sc_stage_rests 1 rfl (by decide) fun X F cdv A outer s H E hr hX => ?_
  subst hX
  have nd := sc_stage_rests.nd
  exact pxb_one (pxs_ret (px_and (px_B (cr_all rfl) c_all rfl fx.n_all rfl (pxa_cons (px_n (pxn_lc [("run", 1)] rfl nd (pxi_any (px_it (u1 hr) (px_v 0) (px_int))) (blkOk_by (N := N_stage_rests) (sc := defScope (top 82)) (by decide +kernel)) (by decide) (fun _ _ _ _ _ => pxg_n 1 nd) (fun _ _ _ _ _ => pxts_nil) (fun _ _ _ _ _ => px_call (C_rests fx) hr (by decide) (pxa_cons (px_v 1) (pxa_nil))))) (pxa_nil))) (px_one (px_cmp (op_eqD hr.units) s_eqD (px_it (u1 hr) (px_v 0) (px_int)) (px_g fx.g_NEVER rfl) (nomark _)))))
theorem C_stage_rests (fx : Fx P w K mg base) : Cal P w K mg base 2 "stage_rests" (spP K P_stage_rests) := by
  obtain ⟨f, fd, D, hm⟩ := fx.f_stage_rests
  exact ⟨f, fd, ["stage"], ok_stage_rests fx D, hm, D.kp, D.bindsN (fun _ _ _ _ _ _ us hu => by match us, hu with | [_], _ => rfl)⟩
theorem sc_waits_of : FnScope N_waits_of ["score", "stage"] (defScope (top 94)) := ⟨rfl, rfl, rfl, by decide +kernel, rfl, by decide +kernel, by decide +kernel⟩
theorem ok_waits_of (fx : Fx P w K mg base) {f : Addr} {fd : FuncData} (D : FunD K "waits_of" "waits_of" (defArgs (top 94)) (defBody (top 94)) (defScope (top 94)) [] [] f fd) : FnOk P w K mg base CX0 6 f fd ["score", "stage"] (spP K P_waits_of) := by
  refine fnP (N := N_waits_of) (fb := B_waits_of) D sc_waits_of 2 rfl (by decide) fun X F cdv A outer s H E hr hX => ?_
  subst hX
  have nd := sc_waits_of.nd
  exact pxb_cons (pxs_par2 2 3 rfl nd (pxk_im (px_v 1)) (pxk_im (px_int))) (pxb_cons (pxs_while W_waits_of PassesOwn.leaving (pxt_not (pxt_val (px_call (C_stage_rests fx) hr (by decide) (pxa_cons (px_v 2) (pxa_nil))))) (pxb_one (pxs_par2 2 3 rfl nd (pxk_im (px_meth (C_Score_behind fx) hr (by decide) (px_v 0) (pxa_cons (px_v 2) (pxa_cons (px_g fx.g_WAIT rfl) (pxa_nil))))) (pxk_im (px_op op_addG s_addG (px_v 3) (px_int)))))) (pxb_one (pxs_ret (px_v 3))))
theorem C_waits_of (fx : Fx P w K mg base) : Cal P w K mg base 6 "waits_of" (spP K P_waits_of) := by
  obtain ⟨f, fd, D, hm⟩ := fx.f_waits_of
  exact ⟨f, fd, ["score", "stage"], ok_waits_of fx D, hm, D.kp, D.bindsN (fun _ _ _ _ _ _ us hu => by match us, hu with | [_, _], _ => rfl)⟩
theorem sc_settles : FnScope N_settles ["cues", "back", "acts"] (defScope (top 95)) := ⟨rfl, rfl, rfl, by decide +kernel, rfl, by decide +kernel, by decide +kernel⟩
theorem ok_settles (fx : Fx P w K mg base) {f : Addr} {fd : FuncData} (D : FunD K "settles" "settles" (defArgs (top 95)) (defBody (top 95)) (defScope (top 95)) [] [] f fd) : FnOk P w K mg base CX0 7 f fd ["cues", "back", "acts"] (spP K P_settles) := by
  refine fnP (N := N_settles) (fb := B_settles) D sc_settles 3 rfl (by decide) fun X F cdv A outer s H E hr hX => ?_
  subst hX
  have nd := sc_settles.nd
  exact pxb_cons (pxs_expr (px_call (C_need_acted fx) hr (by decide) (pxa_cons (px_v 0) (pxa_cons (px_v 1) (pxa_cons (px_v 2) (pxa_nil)))))) (pxb_cons (pxs_set (i := 3) nd (pxk_im (px_n (pxn_mk (M_Score fx) hr (by decide) (pxa_cons (px_v 0) (pxa_cons (px_v 1) (pxa_nil))))))) (pxb_one (pxs_ret (px_call (C_waits_of fx) hr (by decide) (pxa_cons (px_v 3) (pxa_cons (px_it (u1 hr) (px_meth (C_Score_stages fx) hr (by decide) (px_v 3) (pxa_cons (px_v 2) (pxa_nil))) (px_un un_neg s_neg (px_int))) (pxa_nil)))))))
theorem C_settles (fx : Fx P w K mg base) : Cal P w K mg base 7 "settles" (spP K P_settles) := by
  obtain ⟨f, fd, D, hm⟩ := fx.f_settles
  exact ⟨f, fd, ["cues", "back", "acts"], ok_settles fx D, hm, D.kp, D.bindsN (fun _ _ _ _ _ _ us hu => by match us, hu with | [_, _, _], _ => rfl)⟩
theorem sc__law_settles : FnScope N__law_settles ["rig", "cues", "back", "stage"] (defScope (top 122)) := ⟨rfl, rfl, rfl, by decide +kernel, rfl, by decide +kernel, by decide +kernel⟩
theorem ok__law_settles (fx : Fx P w K mg base) {f : Addr} {fd : FuncData} (D : FunD K "_law_settles" "_law_settles" (defArgs (top 122)) (defBody (top 122)) (defScope (top 122)) [] [] f fd) : FnOk P w K mg base CX0 6 f fd ["rig", "cues", "back", "stage"] (spP K P__law_settles) := by
  refine fnP (N := N__law_settles) (fb := B__law_settles) D sc__law_settles 4 rfl (by decide) fun X F cdv A outer s H E hr hX => ?_
  subst hX
  have nd := sc__law_settles.nd
  exact pxb_cons (pxs_for rfl PassesOwn.leaving (pxi_rng1 fx.n_range (pxa_cons (px_int) (pxa_nil))) (pxg_n 4 nd) (pxb_cons (pxs_if (pxt_w (pxw_and (pxt_cmp (op_eqD hr.units) s_eqD (px_it (u1 hr) (px_v 3) (px_int)) (px_un un_neg s_neg (px_int)) (nomark _)) (pxw_one_and (pxt_not (pxt_val (px_B (cr_any rfl) c_any rfl fx.n_any rfl (pxa_cons (px_n (pxn_lc [("start", 5), ("end", 6), ("age", 7), ("long", 8)] rfl nd (pxi_any (px_it (u1 hr) (px_v 3) (px_int))) (blkOk_by (N := N__law_settles) (sc := defScope (top 122)) (by decide +kernel)) (by decide) (fun _ _ _ _ _ => pxg_t rfl (pxgs_cons (pxg_n 5 nd) (pxgs_cons (pxg_n 6 nd) (pxgs_cons (pxg_n 7 nd) (pxgs_cons (pxg_n 8 nd) (pxgs_nil)))))) (fun _ _ _ _ _ => pxts_nil) (fun _ _ _ _ _ => px_cmp op_ltG s_ltG (px_v 7) (px_v 8) (nomark _)))) (pxa_nil)))))))) (pxb_one (pxs_ret (px_v 4))) (pxb_nil)) (pxb_one (pxs_set (i := 3) nd (pxk_im (px_call (C__law_done fx) hr (by decide) (pxa_cons (px_v 0) (pxa_cons (px_v 1) (pxa_cons (px_v 2) (pxa_cons (px_v 3) (pxa_cons (px_tup (pxa_cons (px_str) (pxa_nil))) (pxa_nil)))))))))))) (pxb_one (pxs_ret (px_un un_neg s_neg (px_int))))
theorem C__law_settles (fx : Fx P w K mg base) : Cal P w K mg base 6 "_law_settles" (spP K P__law_settles) := by
  obtain ⟨f, fd, D, hm⟩ := fx.f__law_settles
  exact ⟨f, fd, ["rig", "cues", "back", "stage"], ok__law_settles fx D, hm, D.kp, D.bindsN (fun _ _ _ _ _ _ us hu => by match us, hu with | [_, _, _, _], _ => rfl)⟩
theorem sc_is_time : FnScope N_is_time ["rig", "value"] (defScope (top 37)) := ⟨rfl, rfl, rfl, by decide +kernel, rfl, by decide +kernel, by decide +kernel⟩
theorem ok_is_time (fx : Fx P w K mg base) {f : Addr} {fd : FuncData} (D : FunD K "is_time" "is_time" (defArgs (top 37)) (defBody (top 37)) (defScope (top 37)) [] [] f fd) : FnOk P w K mg base CX0 4 f fd ["rig", "value"] (spP K P_is_time) := by
  refine fnP (N := N_is_time) (fb := B_is_time) D sc_is_time 2 rfl (by decide) fun X F cdv A outer s H E hr hX => ?_
  subst hX
  have nd := sc_is_time.nd
  exact pxb_cons (pxs_if (pxt_w (pxw_or (pxt_not (pxt_val (px_isT "tuple" fx.n_isinstance fx.n_tuple (px_v 1)))) (pxw_one_or (pxt_cmp (op_neD hr.units) s_neD (px_B call_len c_len rfl fx.n_len rfl (pxa_cons (px_v 1) (pxa_nil))) (px_int) (nomark _))))) (pxb_one (pxs_ret (px_bl))) (pxb_nil)) (pxb_one (pxs_ret (px_and (px_call (C_is_number fx) hr (by decide) (pxa_cons (px_it (u1 hr) (px_v 1) (px_int)) (pxa_cons (px_int) (pxa_cons (px_g fx.g_LAST_TICK rfl) (pxa_nil))))) (px_and (px_call (C_is_act fx) hr (by decide) (pxa_cons (px_v 0) (pxa_cons (px_it (u1 hr) (px_v 1) (px_int)) (pxa_nil)))) (px_one (px_cmp (op_neD hr.units) s_neD (px_it (u1 hr) (px_v 1) (px_int)) (px_g fx.g_WAIT rfl) (nomark _)))))))
theorem C_is_time (fx : Fx P w K mg base) : Cal P w K mg base 4 "is_time" (spP K P_is_time) := by
  obtain ⟨f, fd, D, hm⟩ := fx.f_is_time
  exact ⟨f, fd, ["rig", "value"], ok_is_time fx D, hm, D.kp, D.bindsN (fun _ _ _ _ _ _ us hu => by match us, hu with | [_, _], _ => rfl)⟩
theorem sc_first_wrong_time : FnScope N_first_wrong_time ["rig", "value"] (defScope (top 38)) := ⟨rfl, rfl, rfl, by decide +kernel, rfl, by decide +kernel, by decide +kernel⟩
theorem ok_first_wrong_time (fx : Fx P w K mg base) {f : Addr} {fd : FuncData} (D : FunD K "first_wrong_time" "first_wrong_time" (defArgs (top 38)) (defBody (top 38)) (defScope (top 38)) [] [] f fd) : FnOk P w K mg base CX0 5 f fd ["rig", "value"] (spP K P_first_wrong_time) := by
  refine fnP (N := N_first_wrong_time) (fb := B_first_wrong_time) D sc_first_wrong_time 2 rfl (by decide) fun X F cdv A outer s H E hr hX => ?_
  subst hX
  have nd := sc_first_wrong_time.nd
  exact pxb_cons (pxs_for rfl PassesOwn.leaving (pxi_enumA fx.n_enumerate (pxa_cons (px_v 1) (pxa_nil))) (pxg_t rfl (pxgs_cons (pxg_n 2 nd) (pxgs_cons (pxg_n 3 nd) (pxgs_nil)))) (pxb_cons (pxs_if (pxt_w (pxw_or (pxt_cmp (op_eqD hr.units) s_eqD (px_v 2) (px_g fx.g_MOST_TIMES rfl) (nomark _)) (pxw_one_or (pxt_not (pxt_val (px_call (C_is_time fx) hr (by decide) (pxa_cons (px_v 0) (pxa_cons (px_v 3) (pxa_nil))))))))) (pxb_one (pxs_ret (px_v 2))) (pxb_nil)) (pxb_one (pxs_if (pxt_w (pxw_and (pxt_cmp op_gt s_gt (px_v 2) (px_int) (nomark _)) (pxw_one_and (pxt_cmp op_ltG s_ltG (px_it (u1 hr) (px_v 3) (px_int)) (px_it (u1 hr) (px_it (u1 hr) (px_v 1) (px_op op_sub s_sub (px_v 2) (px_int))) (px_int)) (nomark _))))) (pxb_one (pxs_ret (px_v 2))) (pxb_nil))))) (pxb_one (pxs_ret (px_non)))
theorem C_first_wrong_time (fx : Fx P w K mg base) : Cal P w K mg base 5 "first_wrong_time" (spP K P_first_wrong_time) := by
  obtain ⟨f, fd, D, hm⟩ := fx.f_first_wrong_time
  exact ⟨f, fd, ["rig", "value"], ok_first_wrong_time fx D, hm, D.kp, D.bindsN (fun _ _ _ _ _ _ us hu => by match us, hu with | [_, _], _ => rfl)⟩
theorem sc_need_clock : FnScope N_need_clock ["rig", "clock"] (defScope (top 39)) := ⟨rfl, rfl, rfl, by decide +kernel, rfl, by decide +kernel, by decide +kernel⟩
theorem ok_need_clock (fx : Fx P w K mg base) {f : Addr} {fd : FuncData} (D : FunD K "need_clock" "need_clock" (defArgs (top 39)) (defBody (top 39)) (defScope (top 39)) [] [] f fd) : FnOk P w K mg base CX0 6 f fd ["rig", "clock"] (spP K P_need_clock) := by
  refine fnP (N := N_need_clock) (fb := B_need_clock) D sc_need_clock 2 rfl (by decide) fun X F cdv A outer s H E hr hX => ?_
  subst hX
  have nd := sc_need_clock.nd
  exact pxb_cons (pxs_if (pxt_not (pxt_val (px_isT "tuple" fx.n_isinstance fx.n_tuple (px_v 1)))) (pxb_one (pxs_never)) (pxb_nil)) (pxb_cons (pxs_set (i := 2) nd (pxk_im (px_call (C_first_wrong_time fx) hr (by decide) (pxa_cons (px_v 0) (pxa_cons (px_v 1) (pxa_nil)))))) (pxb_one (pxs_if (pxt_cmp op_notN s_notN (px_v 2) (px_non) (nomark _)) (pxb_one (pxs_never)) (pxb_nil))))
theorem C_need_clock (fx : Fx P w K mg base) : Cal P w K mg base 6 "need_clock" (spP K P_need_clock) := by
  obtain ⟨f, fd, D, hm⟩ := fx.f_need_clock
  exact ⟨f, fd, ["rig", "clock"], ok_need_clock fx D, hm, D.kp, D.bindsN (fun _ _ _ _ _ _ us hu => by match us, hu with | [_, _], _ => rfl)⟩
theorem sc_acts_at : FnScope N_acts_at ["clock", "tick"] (defScope (top 40)) := ⟨rfl, rfl, rfl, by decide +kernel, rfl, by decide +kernel, by decide +kernel⟩
theorem ok_acts_at (fx : Fx P w K mg base) {f : Addr} {fd : FuncData} (D : FunD K "acts_at" "acts_at" (defArgs (top 40)) (defBody (top 40)) (defScope (top 40)) [] [] f fd) : FnOk P w K mg base CX0 1 f fd ["clock", "tick"] (spN K P_acts_at) := by
  refine fnN (N := N_acts_at) (fb := B_acts_at) D sc_acts_at 2 rfl (by decide) fun X F cdv A outer s H E hr hX => ?_
  subst hX
  have nd := sc_acts_at.nd
  exact pxb_one (pxs_retC (pxn_lc [("at", 2), ("act", 3)] rfl nd (pxi_any (px_v 0)) (blkOk_by (N := N_acts_at) (sc := defScope (top 40)) (by decide +kernel)) (by decide) (fun _ _ _ _ _ => pxg_t rfl (pxgs_cons (pxg_n 2 nd) (pxgs_cons (pxg_n 3 nd) (pxgs_nil)))) (fun _ _ _ _ _ => pxts_one (pxt_cmp (op_eqD hr.units) s_eqD (px_v 2) (px_v 1) (nomark _))) (fun _ _ _ _ _ => px_v 3)))
theorem C_acts_at (fx : Fx P w K mg base) : Cal P w K mg base 1 "acts_at" (spN K P_acts_at) := by
  obtain ⟨f, fd, D, hm⟩ := fx.f_acts_at
  exact ⟨f, fd, ["clock", "tick"], ok_acts_at fx D, hm, D.kp, D.bindsN (fun _ _ _ _ _ _ us hu => by match us, hu with | [_, _], _ => rfl)⟩
theorem sc_woven_acts : FnScope N_woven_acts ["clock", "acts"] (defScope (top 41)) := ⟨rfl, rfl, rfl, by decide +kernel, rfl, by decide +kernel, by decide +kernel⟩
theorem ok_woven_acts (fx : Fx P w K mg base) {f : Addr} {fd : FuncData} (D : FunD K "woven_acts" "woven_acts" (defArgs (top 41)) (defBody (top 41)) (defScope (top 41)) [] [] f fd) : FnOk P w K mg base CX0 2 f fd ["clock", "acts"] (spP K P_woven_acts) := by
  refine fnP (N := N_woven_acts) (fb := B_woven_acts) D sc_woven_acts 2 rfl (by decide) fun X F cdv A outer s H E hr hX => ?_
  subst hX
  have nd := sc_woven_acts.nd
  exact pxb_cons (pxs_par2 2 3 rfl nd (pxk_cl (pxn_call (C_acts_at fx) hr (by decide) (pxa_cons (px_v 0) (pxa_cons (px_int) (pxa_nil))))) (pxk_im (px_int))) (pxb_cons (pxs_for rfl PassesOwn.leaving (pxi_any (px_v 1)) (pxg_n 4 nd) (pxb_cons (pxs_expr (px_bmC 2 m_append PySem.F.plainAttrs_list PySem.F.slot_list_append PySem.F.type_list_append mt_append (pxa_cons (px_v 4) (pxa_nil)))) (pxb_one (pxs_if (pxt_cmp (op_eqD hr.units) s_eqD (px_v 4) (px_g fx.g_WAIT rfl) (nomark _)) (pxb_cons (pxs_set (i := 3) nd (pxk_im (px_op op_addG s_addG (px_v 3) (px_int)))) (pxb_one (pxs_expr (px_bmC 2 m_extend PySem.F.plainAttrs_list PySem.F.slot_list_extend PySem.F.type_list_extend mt_extend (pxa_cons (px_n (pxn_call (C_acts_at fx) hr (by decide) (pxa_cons (px_v 0) (pxa_cons (px_v 3) (pxa_nil))))) (pxa_nil)))))) (pxb_nil))))) (pxb_frz 2 (pxb_one (pxs_ret (px_Ty call_tuple_of c_tuple rfl fx.n_tuple rfl (pxa_cons (px_v 2) (pxa_nil)))))))
theorem C_woven_acts (fx : Fx P w K mg base) : Cal P w K mg base 2 "woven_acts" (spP K P_woven_acts) := by
  obtain ⟨f, fd, D, hm⟩ := fx.f_woven_acts
  exact ⟨f, fd, ["clock", "acts"], ok_woven_acts fx D, hm, D.kp, D.bindsN (fun _ _ _ _ _ _ us hu => by match us, hu with | [_, _], _ => rfl)⟩
theorem sc_woven : FnScope N_woven ["rig", "clock", "acts"] (defScope (top 84)) := ⟨rfl, rfl, rfl, by decide +kernel, rfl, by decide +kernel, by decide +kernel⟩
theorem ok_woven (fx : Fx P w K mg base) {f : Addr} {fd : FuncData} (D : FunD K "woven" "woven" (defArgs (top 84)) (defBody (top 84)) (defScope (top 84)) [] [] f fd) : FnOk P w K mg base CX0 7 f fd ["rig", "clock", "acts"] (spP K P_woven) := by
  refine fnP (N := N_woven) (fb := B_woven) D sc_woven 3 rfl (by decide) fun X F cdv A outer s H E hr hX => ?_
  subst hX
  have nd := sc_woven.nd
  exact pxb_cons (pxs_expr (px_call (C_need_rig fx) hr (by decide) (pxa_cons (px_v 0) (pxa_nil)))) (pxb_cons (pxs_expr (px_call (C_need_clock fx) hr (by decide) (pxa_cons (px_v 0) (pxa_cons (px_v 1) (pxa_nil))))) (pxb_cons (pxs_expr (px_call (C_need_acts fx) hr (by decide) (pxa_cons (px_v 0) (pxa_cons (px_v 2) (pxa_nil))))) (pxb_one (pxs_ret (px_call (C_woven_acts fx) hr (by decide) (pxa_cons (px_v 1) (pxa_cons (px_v 2) (pxa_nil))))))))
theorem C_woven (fx : Fx P w K mg base) : Cal P w K mg base 7 "woven" (spP K P_woven) := by
  obtain ⟨f, fd, D, hm⟩ := fx.f_woven
  exact ⟨f, fd, ["rig", "clock", "acts"], ok_woven fx D, hm, D.kp, D.bindsN (fun _ _ _ _ _ _ us hu => by match us, hu with | [_, _, _], _ => rfl)⟩
theorem CK_woven_acts_clock_rig (fx : Fx P w K mg base) : CalK P w K mg base 7 "woven" ["acts", "clock", "rig"] [2, 1, 0] (spP K P_woven) := by
  obtain ⟨f, fd, D, hm⟩ := fx.f_woven
  exact ⟨f, fd, ["rig", "clock", "acts"], ok_woven fx D, hm, D.kp, kbinds_of D (by decide) (fun _ _ _ _ _ _ ws hl => by match ws, hl with | [], hl => exact absurd hl (by simp [perm]) | [_], hl => exact absurd hl (by simp [perm]) | [_, _], hl => exact absurd hl (by simp [perm]) | a0 :: a1 :: a2 :: _, _ => rfl)⟩
theorem sc__law_right : FnScope N__law_right ["pot", "cues", "pairs", "many", "top"] (defScope (top 123)) := ⟨rfl, rfl, rfl, by decide +kernel, rfl, by decide +kernel, by decide +kernel⟩
theorem ok__law_right (fx : Fx P w K mg base) {f : Addr} {fd : FuncData} (D : FunD K "_law_right" "_law_right" (defArgs (top 123)) (defBody (top 123)) (defScope (top 123)) [] [] f fd) : FnOk P w K mg base CX0 11 f fd ["pot", "cues", "pairs", "many", "top"] (spR K P__law_right) := by
  refine fnR (N := N__law_right) (fb := B__law_right) D sc__law_right 5 rfl (by decide) fun X F cdv A outer s H E hr hX => ?_
  subst hX
  have nd := sc__law_right.nd
  exact pxb_cons (pxs_par2 5 6 rfl nd (pxk_im (px_callR 0 (C__law_rig fx) hr (by decide) (pxa_cons (px_op op_addG s_addG (px_int) (px_callR 0 (C__law_draw fx) hr (by decide) (pxa_cons (px_int) (pxa_nil)))) (pxa_cons (px_op op_addG s_addG (px_int) (px_callR 0 (C__law_draw fx) hr (by decide) (pxa_cons (px_int) (pxa_nil)))) (pxa_nil))))) (pxk_im (px_callR 0 (C__law_draw fx) hr (by decide) (pxa_cons (px_int) (pxa_nil))))) (pxb_cons (pxs_set (i := 1) nd (pxk_im (px_callR 0 (C__law_cues fx) hr (by decide) (pxa_cons (px_v 5) (pxa_cons (px_v 1) (pxa_nil)))))) (pxb_cons (pxs_par3 7 8 9 rfl nd (pxk_im (px_callR 0 (C__law_clock fx) hr (by decide) (pxa_cons (px_v 5) (pxa_cons (px_v 1) (pxa_cons (px_v 2) (pxa_cons (px_v 4) (pxa_nil))))))) (pxk_cl (pxn_lst (pxa_nil))) (pxk_im (px_n (pxn_mk (M_Rig fx) hr (by decide) (pxa_cons (px_it (u1 hr) (px_v 5) (px_int)) (pxa_cons (px_it (u1 hr) (px_v 5) (px_int)) (pxa_nil))))))) (pxb_cons (pxs_for rfl PassesOwn.leaving (pxi_rng1 fx.n_range (pxa_cons (px_v 3) (pxa_nil))) (pxg_n 10 nd) (pxb_one (pxs_expr (px_bmC 8 m_append PySem.F.plainAttrs_list PySem.F.slot_list_append PySem.F.type_list_append mt_append (pxa_cons (px_if (pxt_cmp (op_eqD hr.units) s_eqD (px_callR 0 (C__law_draw fx) hr (by decide) (pxa_cons (px_int) (pxa_nil))) (px_int) (nomark _)) (px_tup (pxa_cons (px_str) (pxa_nil))) (px_callR 0 (C__law_act fx) hr (by decide) (pxa_cons (px_v 5) (pxa_cons (px_v 1) (pxa_nil))))) (pxa_nil)))))) (pxb_frz 8 (pxb_cons (pxs_par2 8 11 rfl nd (pxk_im (px_Ty call_tuple_of c_tuple rfl fx.n_tuple rfl (pxa_cons (px_v 8) (pxa_nil)))) (pxk_im (px_n (pxn_mk (M_CueList fx) hr (by decide) (pxa_cons (px_v 9) (pxa_cons (px_v 1) (pxa_nil))))))) (pxb_cons (pxs_set (i := 12) nd (pxk_im (px_call (C__law_woven fx) hr (by decide) (pxa_cons (px_v 7) (pxa_cons (px_v 8) (pxa_nil)))))) (pxb_cons (pxs_if (pxt_w (pxw_or (pxt_not (pxt_val (px_call (C__law_same fx) hr (by decide) (pxa_cons (px_call (C_woven fx) hr (by decide) (pxa_cons (px_v 9) (pxa_cons (px_v 7) (pxa_cons (px_v 8) (pxa_nil))))) (pxa_cons (px_v 12) (pxa_nil)))))) (pxw_one_or (pxt_not (pxt_val (px_call (C__law_same fx) hr (by decide) (pxa_cons (px_callK (CK_woven_acts_clock_rig fx) hr (by decide) (pxk_cons (px_v 8) (pxk_cons (px_v 7) (pxk_cons (px_v 9) (pxk_nil))))) (pxa_cons (px_v 12) (pxa_nil))))))))) (pxb_one (pxs_ret (px_bl))) (pxb_nil)) (pxb_cons (pxs_if (pxt_w (pxw_or (pxt_not (pxt_val (px_call (C__law_same fx) hr (by decide) (pxa_cons (px_call (C_woven fx) hr (by decide) (pxa_cons (px_v 9) (pxa_cons (px_tup (pxa_nil)) (pxa_cons (px_v 8) (pxa_nil))))) (pxa_cons (px_v 8) (pxa_nil)))))) (pxw_one_or (pxt_not (pxt_val (px_call (C__law_same fx) hr (by decide) (pxa_cons (px_call (C_woven fx) hr (by decide) (pxa_cons (px_v 9) (pxa_cons (px_v 7) (pxa_cons (px_tup (pxa_nil)) (pxa_nil))))) (pxa_cons (px_call (C__law_woven fx) hr (by decide) (pxa_cons (px_v 7) (pxa_cons (px_tup (pxa_nil)) (pxa_nil)))) (pxa_nil))))))))) (pxb_one (pxs_ret (px_bl))) (pxb_nil)) (pxb_cons (pxs_if (pxt_w (pxw_and (pxt_cmp (op_neD hr.units) s_neD (px_v 7) (px_tup (pxa_nil)) (nomark _)) (pxw_one_and (pxt_not (pxt_val (px_call (C__law_same fx) hr (by decide) (pxa_cons (px_call (C_woven fx) hr (by decide) (pxa_cons (px_v 9) (pxa_cons (px_sl (px_v 7) (pxo_some (px_un un_neg s_neg (px_int))) (pxo_none)) (pxa_cons (px_op op_mulG s_mulG (px_tup (pxa_cons (px_tup (pxa_cons (px_str) (pxa_nil))) (pxa_nil))) (px_int)) (pxa_nil))))) (pxa_cons (px_call (C__law_woven fx) hr (by decide) (pxa_cons (px_sl (px_v 7) (pxo_some (px_un un_neg s_neg (px_int))) (pxo_none)) (pxa_cons (px_op op_mulG s_mulG (px_tup (pxa_cons (px_tup (pxa_cons (px_str) (pxa_nil))) (pxa_nil))) (px_int)) (pxa_nil)))) (pxa_nil))))))))) (pxb_one (pxs_ret (px_bl))) (pxb_nil)) (pxb_cons (pxs_set (i := 12) nd (pxk_im (px_sl (px_v 12) (pxo_none) (pxo_some (px_int))))) (pxb_cons (pxs_asg (px_call (C__law_log fx) hr (by decide) (pxa_cons (px_v 5) (pxa_cons (px_v 1) (pxa_cons (px_v 6) (pxa_cons (px_v 12) (pxa_nil)))))) (pxg_t rfl (pxgs_cons (pxg_n 13 nd) (pxgs_cons (pxg_n 14 nd) (pxgs_cons (pxg_n 15 nd) (pxgs_nil)))))) (pxb_cons (pxs_set (i := 16) nd (pxk_im (px_n (pxn_lst (pxa_cons (px_call (C_log fx) hr (by decide) (pxa_cons (px_v 11) (pxa_cons (px_v 6) (pxa_cons (px_v 12) (pxa_nil))))) (pxa_cons (px_call (C_looks fx) hr (by decide) (pxa_cons (px_v 11) (pxa_cons (px_v 6) (pxa_cons (px_v 12) (pxa_nil))))) (pxa_cons (px_call (C_stage_behind fx) hr (by decide) (pxa_cons (px_v 11) (pxa_cons (px_v 6) (pxa_cons (px_v 12) (pxa_nil))))) (pxa_cons (px_call (C_settles fx) hr (by decide) (pxa_cons (px_v 11) (pxa_cons (px_v 6) (pxa_cons (px_v 12) (pxa_nil))))) (pxa_nil))))))))) (pxb_one (pxs_ret (px_call (C__law_same fx) hr (by decide) (pxa_cons (px_v 16) (pxa_cons (px_n (pxn_lst (pxa_cons (px_v 13) (pxa_cons (px_v 14) (pxa_cons (px_v 15) (pxa_cons (px_call (C__law_settles fx) hr (by decide) (pxa_cons (px_v 5) (pxa_cons (px_v 1) (pxa_cons (px_v 6) (pxa_cons (px_v 15) (pxa_nil)))))) (pxa_nil))))))) (pxa_nil))))))))))))))))))
theorem C__law_right (fx : Fx P w K mg base) : Cal P w K mg base 11 "_law_right" (spR K P__law_right) := by
  obtain ⟨f, fd, D, hm⟩ := fx.f__law_right
  exact ⟨f, fd, ["pot", "cues", "pairs", "many", "top"], ok__law_right fx D, hm, D.kp, D.bindsN (fun _ _ _ _ _ _ us hu => by match us, hu with | [_, _, _, _, _], _ => rfl)⟩
theorem sc__law_pot : FnScope N__law_pot ["script", "turn"] (defScope (top 97)) := ⟨rfl, rfl, rfl, by decide +kernel, rfl, by decide +kernel, by decide +kernel⟩
theorem ok__law_pot (fx : Fx P w K mg base) {f : Addr} {fd : FuncData} (D : FunD K "_law_pot" "_law_pot" (defArgs (top 97)) (defBody (top 97)) (defScope (top 97)) [] [] f fd) : FnOk P w K mg base CX0 1 f fd ["script", "turn"] (spN K P__law_pot) := by
  refine fnN (N := N__law_pot) (fb := B__law_pot) D sc__law_pot 2 rfl (by decide) fun X F cdv A outer s H E hr hX => ?_
  subst hX
  have nd := sc__law_pot.nd
  exact pxb_cons (pxs_set (i := 2) nd (pxk_im (px_if (pxt_cmp op_ltG s_ltG (px_v 1) (px_B call_len c_len rfl fx.n_len rfl (pxa_cons (px_v 0) (pxa_nil))) (nomark _)) (px_Ty call_int1 c_int rfl fx.n_int rfl (pxa_cons (px_it (u1 hr) (px_v 0) (px_v 1)) (pxa_nil))) (px_op op_addG s_addG (px_op op_addG s_addG (px_op op_mulG s_mulG (px_int) (px_v 1)) (px_int)) (px_op op_mod s_mod (px_Ty call_int1 c_int rfl fx.n_int rfl (pxa_cons (px_B (cr_sum rfl) c_sum rfl fx.n_sum rfl (pxa_cons (px_sl (px_v 0) (pxo_none) (pxo_some (px_int))) (pxa_nil))) (pxa_nil))) (px_int)))))) (pxb_cons (pxs_set (i := 3) nd (pxk_im (px_op op_addG s_addG (px_int) (px_op op_mulG s_mulG (px_int) (px_v 1))))) (pxb_cons (pxs_for rfl PassesOwn.leaving (pxi_any (px_op op_addG s_addG (px_sl (px_v 0) (pxo_none) (pxo_some (px_int))) (px_n (pxn_lst (pxa_cons (px_v 2) (pxa_nil)))))) (pxg_n 4 nd) (pxb_one (pxs_set (i := 3) nd (pxk_im (px_op op_mod s_mod (px_Ty call_int1 c_int rfl fx.n_int rfl (pxa_cons (px_op op_addG s_addG (px_op op_addG s_addG (px_op op_mulG s_mulG (px_v 3) (px_int)) (px_op op_mod s_mod (px_Ty call_int1 c_int rfl fx.n_int rfl (pxa_cons (px_v 4) (pxa_nil))) (px_int))) (px_int)) (pxa_nil))) (px_int)))))) (pxb_one (pxs_retC (pxn_lst (pxa_cons (px_if (pxt_w (pxw_or (pxt_cmp op_ltG s_ltG (px_v 2) (px_int) (nomark _)) (pxw_one_or (pxt_cmp op_ge s_ge (px_v 2) (px_op op_pow s_pow (px_int) (px_int)) (nomark _))))) (px_B call_abs c_abs rfl fx.n_abs rfl (pxa_cons (px_v 2) (pxa_nil))) (px_int)) (pxa_cons (px_v 3) (pxa_cons (px_int) (pxa_nil)))))))))
theorem C__law_pot (fx : Fx P w K mg base) : Cal P w K mg base 1 "_law_pot" (spN K P__law_pot) := by
  obtain ⟨f, fd, D, hm⟩ := fx.f__law_pot
  exact ⟨f, fd, ["script", "turn"], ok__law_pot fx D, hm, D.kp, D.bindsN (fun _ _ _ _ _ _ us hu => by match us, hu with | [_, _], _ => rfl)⟩
theorem sc_law : FnScope N_law ["script"] (defScope (top 124)) := ⟨rfl, rfl, rfl, by decide +kernel, rfl, by decide +kernel, by decide +kernel⟩
theorem ok_law (fx : Fx P w K mg base) {f : Addr} {fd : FuncData} (D : FunD K "law" "law" (defArgs (top 124)) (defBody (top 124)) (defScope (top 124)) [] [] f fd) : FnOk P w K mg base CX0 12 f fd ["script"] (spP K P_law) := by
  refine fnP (N := N_law) (fb := B_law) D sc_law 1 rfl (by decide) fun X F cdv A outer s H E hr hX => ?_
  subst hX
  have nd := sc_law.nd
  exact pxb_cons (pxs_if (pxt_not (pxt_val (px_callRN (C__law_right fx) hr (by decide) (pxn_call (C__law_pot fx) hr (by decide) (pxa_cons (px_v 0) (pxa_cons (px_int) (pxa_nil)))) (pxa_cons (px_int) (pxa_cons (px_int) (pxa_cons (px_int) (pxa_cons (px_int) (pxa_nil)))))))) (pxb_one (pxs_ret (px_bl))) (pxb_nil)) (pxb_cons (pxs_for rfl PassesOwn.leaving (pxi_rng1 fx.n_range (pxa_cons (px_B (call_max2 rfl) c_max2 rfl fx.n_max rfl (pxa_cons (px_int) (pxa_cons (px_B (call_min2 rfl) c_min2 rfl fx.n_min rfl (pxa_cons (px_B call_len c_len rfl fx.n_len rfl (pxa_cons (px_v 0) (pxa_nil))) (pxa_cons (px_int) (pxa_nil)))) (pxa_nil)))) (pxa_nil))) (pxg_n 1 nd) (pxb_cons (pxs_set (i := 2) nd (pxk_cl (pxn_call (C__law_pot fx) hr (by decide) (pxa_cons (px_v 0) (pxa_cons (px_v 1) (pxa_nil)))))) (pxb_one (pxs_if (pxt_not (pxt_val (px_callR 2 (C__law_right fx) hr (by decide) (pxa_cons (px_callR 2 (C__law_draw fx) hr (by decide) (pxa_cons (px_int) (pxa_nil))) (pxa_cons (px_callR 2 (C__law_draw fx) hr (by decide) (pxa_cons (px_int) (pxa_nil))) (pxa_cons (px_callR 2 (C__law_draw fx) hr (by decide) (pxa_cons (px_int) (pxa_nil))) (pxa_cons (px_callR 2 (C__law_pick fx) hr (by decide) (pxa_cons (px_tup (pxa_cons (px_int) (pxa_cons (px_int) (pxa_cons (px_int) (pxa_nil))))) (pxa_nil))) (pxa_nil)))))))) (pxb_one (pxs_ret (px_bl))) (pxb_nil))))) (pxb_one (pxs_ret (px_bl))))
theorem C_law (fx : Fx P w K mg base) : Cal P w K mg base 12 "law" (spP K P_law) := by
  obtain ⟨f, fd, D, hm⟩ := fx.f_law
  exact ⟨f, fd, ["script"], ok_law fx D, hm, D.kp, D.bindsN (fun _ _ _ _ _ _ us hu => by match us, hu with | [_], _ => rfl)⟩
end

end Go
/-! Fx77 -/
set_option autoImplicit false
set_option maxRecDepth 100000
set_option linter.all false
set_option maxHeartbeats 4000000
namespace Go
open PySem L2 PX
theorem fx_of {P : Program} {w : World} {K : PySem.W.Frag} {mg : Str → Option Value} {base h : Heap} (c : SaysP faL fnL ckL w K) (X : K.In h) (G : h.Ns mainGlobals mg) : Fx P w K mg base where
  g_LAST_TICK := c.glo X G 0
  g_LEAST_FOLLOW := c.glo X G 1
  g_LEAST_NUMBER := c.glo X G 2
  g_LEAST_TOP := c.glo X G 3
  g_LETTERS := c.glo X G 4
  g_LONGEST := c.glo X G 5
  g_MOST_ACTS := c.glo X G 6
  g_MOST_BACK := c.glo X G 7
  g_MOST_CHANNELS := c.glo X G 8
  g_MOST_CUES := c.glo X G 9
  g_MOST_FADE := c.glo X G 10
  g_MOST_FOLLOW := c.glo X G 11
  g_MOST_NUMBER_acts := c.glo X G 12
  g_MOST_NUMBER_cueforms := c.glo X G 13
  g_MOST_TIMES := c.glo X G 14
  g_MOST_TOP := c.glo X G 15
  g_NEVER := c.glo X G 16
  g_NOBODY := c.glo X G 17
  g_PARTS := c.glo X G 18
  g_STILL := c.glo X G 19
  g_WAIT := c.glo X G 20
  n_abs := He.free_ok X G (c.d.fact 0)
  n_all := He.free_ok X G (c.d.fact 1)
  n_any := He.free_ok X G (c.d.fact 2)
  n_bool := He.free_ok X G (c.d.fact 3)
  n_dict := He.free_ok X G (c.d.fact 4)
  n_divmod := He.free_ok X G (c.d.fact 5)
  n_enumerate := He.free_ok X G (c.d.fact 6)
  n_int := He.free_ok X G (c.d.fact 7)
  n_isinstance := He.free_ok X G (c.d.fact 8)
  n_len := He.free_ok X G (c.d.fact 9)
  n_list := He.free_ok X G (c.d.fact 10)
  n_max := He.free_ok X G (c.d.fact 11)
  n_min := He.free_ok X G (c.d.fact 12)
  n_range := He.free_ok X G (c.d.fact 13)
  n_set := He.free_ok X G (c.d.fact 14)
  n_sorted := He.free_ok X G (c.d.fact 15)
  n_str := He.free_ok X G (c.d.fact 16)
  n_sum := He.free_ok X G (c.d.fact 17)
  n_tuple := He.free_ok X G (c.d.fact 18)
  n_zip := He.free_ok X G (c.d.fact 19)
  k_SIZES := c.kd X G 0 (c.d.fact 20)
  k_WORDS := c.kd X G 1 (c.d.fact 21)
  a_CueList_cues := ⟨(He.cls_ok (c.d.fact 22)), He.noat_ok (c.d.fact 23)⟩
  a_CueList_means := ⟨(He.cls_ok (c.d.fact 22)), He.noat_ok (c.d.fact 24)⟩
  a_CueList_parts := ⟨(He.cls_ok (c.d.fact 22)), He.noat_ok (c.d.fact 25)⟩
  a_CueList_places := ⟨(He.cls_ok (c.d.fact 22)), He.noat_ok (c.d.fact 26)⟩
  a_CueList_rig := ⟨(He.cls_ok (c.d.fact 22)), He.noat_ok (c.d.fact 27)⟩
  a_Rig_channels := ⟨(He.cls_ok (c.d.fact 28)), He.noat_ok (c.d.fact 29)⟩
  a_Rig_parts := ⟨(He.cls_ok (c.d.fact 28)), He.noat_ok (c.d.fact 30)⟩
  a_Rig_top := ⟨(He.cls_ok (c.d.fact 28)), He.noat_ok (c.d.fact 31)⟩
  a_Score_back := ⟨(He.cls_ok (c.d.fact 32)), He.noat_ok (c.d.fact 33)⟩
  a_Score_channels := ⟨(He.cls_ok (c.d.fact 32)), He.noat_ok (c.d.fact 34)⟩
  a_Score_cues := ⟨(He.cls_ok (c.d.fact 32)), He.noat_ok (c.d.fact 35)⟩
  a_Score_everybody := ⟨(He.cls_ok (c.d.fact 32)), He.noat_ok (c.d.fact 36)⟩
  a_Score_means := ⟨(He.cls_ok (c.d.fact 32)), He.noat_ok (c.d.fact 37)⟩
  a_Score_places := ⟨(He.cls_ok (c.d.fact 32)), He.noat_ok (c.d.fact 38)⟩
  a_Score_rows := ⟨(He.cls_ok (c.d.fact 32)), He.noat_ok (c.d.fact 39)⟩
  a_Score_senders := ⟨(He.cls_ok (c.d.fact 32)), He.noat_ok (c.d.fact 40)⟩
  i_CueList := tb_self (c.isc 0 (He.cls_ok (c.d.fact 22)))
  c_CueList := He.glo_ok X G (c.d.fact 41)
  i_Rig := tb_self (c.isc 1 (He.cls_ok (c.d.fact 28)))
  c_Rig := He.glo_ok X G (c.d.fact 42)
  f__law_draw := let ⟨fd, D⟩ := c.d.def_ (d := d__law_draw) 0; ⟨_, fd, D, He.glo_ok X G (c.d.fact 43)⟩
  f__law_pick := let ⟨fd, D⟩ := c.d.def_ (d := d__law_pick) 1; ⟨_, fd, D, He.glo_ok X G (c.d.fact 44)⟩
  f__law_cue := let ⟨fd, D⟩ := c.d.def_ (d := d__law_cue) 2; ⟨_, fd, D, He.glo_ok X G (c.d.fact 45)⟩
  f__law_cues := let ⟨fd, D⟩ := c.d.def_ (d := d__law_cues) 3; ⟨_, fd, D, He.glo_ok X G (c.d.fact 46)⟩
  f__law_woven := let ⟨fd, D⟩ := c.d.def_ (d := d__law_woven) 4; ⟨_, fd, D, He.glo_ok X G (c.d.fact 47)⟩
  f__law_first := let ⟨fd, D⟩ := c.d.def_ (d := d__law_first) 5; ⟨_, fd, D, He.glo_ok X G (c.d.fact 48)⟩
  f__law_level := let ⟨fd, D⟩ := c.d.def_ (d := d__law_level) 6; ⟨_, fd, D, He.glo_ok X G (c.d.fact 49)⟩
  f__law_look := let ⟨fd, D⟩ := c.d.def_ (d := d__law_look) 7; ⟨_, fd, D, He.glo_ok X G (c.d.fact 50)⟩
  f__law_meaning := let ⟨fd, D⟩ := c.d.def_ (d := d__law_meaning) 8; ⟨_, fd, D, He.glo_ok X G (c.d.fact 51)⟩
  f__law_sent := let ⟨fd, D⟩ := c.d.def_ (d := d__law_sent) 9; ⟨_, fd, D, He.glo_ok X G (c.d.fact 52)⟩
  f__law_brought := let ⟨fd, D⟩ := c.d.def_ (d := d__law_brought) 10; ⟨_, fd, D, He.glo_ok X G (c.d.fact 53)⟩
  f__law_due := let ⟨fd, D⟩ := c.d.def_ (d := d__law_due) 11; ⟨_, fd, D, He.glo_ok X G (c.d.fact 54)⟩
  f__law_started := let ⟨fd, D⟩ := c.d.def_ (d := d__law_started) 12; ⟨_, fd, D, He.glo_ok X G (c.d.fact 55)⟩
  f__law_done := let ⟨fd, D⟩ := c.d.def_ (d := d__law_done) 13; ⟨_, fd, D, He.glo_ok X G (c.d.fact 56)⟩
  f__law_log := let ⟨fd, D⟩ := c.d.def_ (d := d__law_log) 14; ⟨_, fd, D, He.glo_ok X G (c.d.fact 57)⟩
  f__law_same := let ⟨fd, D⟩ := c.d.def_ (d := d__law_same) 15; ⟨_, fd, D, He.glo_ok X G (c.d.fact 58)⟩
  f__law_is_word := let ⟨fd, D⟩ := c.d.def_ (d := d__law_is_word) 16; ⟨_, fd, D, He.glo_ok X G (c.d.fact 59)⟩
  f__law_is_name := let ⟨fd, D⟩ := c.d.def_ (d := d__law_is_name) 17; ⟨_, fd, D, He.glo_ok X G (c.d.fact 60)⟩
  f__law_name := let ⟨fd, D⟩ := c.d.def_ (d := d__law_name) 18; ⟨_, fd, D, He.glo_ok X G (c.d.fact 61)⟩
  f__law_rig := let ⟨fd, D⟩ := c.d.def_ (d := d__law_rig) 19; ⟨_, fd, D, He.glo_ok X G (c.d.fact 62)⟩
  f__law_act := let ⟨fd, D⟩ := c.d.def_ (d := d__law_act) 20; ⟨_, fd, D, He.glo_ok X G (c.d.fact 63)⟩
  f__law_tick := let ⟨fd, D⟩ := c.d.def_ (d := d__law_tick) 21; ⟨_, fd, D, He.glo_ok X G (c.d.fact 64)⟩
  f__law_clock := let ⟨fd, D⟩ := c.d.def_ (d := d__law_clock) 22; ⟨_, fd, D, He.glo_ok X G (c.d.fact 65)⟩
  f_are_letters := let ⟨fd, D⟩ := c.d.def_ (d := d_are_letters) 23; ⟨_, fd, D, He.glo_ok X G (c.d.fact 66)⟩
  f_is_name := let ⟨fd, D⟩ := c.d.def_ (d := d_is_name) 24; ⟨_, fd, D, He.glo_ok X G (c.d.fact 67)⟩
  f_first_wrong_name := let ⟨fd, D⟩ := c.d.def_ (d := d_first_wrong_name) 25; ⟨_, fd, D, He.glo_ok X G (c.d.fact 68)⟩
  f_need_channels := let ⟨fd, D⟩ := c.d.def_ (d := d_need_channels) 26; ⟨_, fd, D, He.glo_ok X G (c.d.fact 69)⟩
  f_is_whole := let ⟨fd, D⟩ := c.d.def_ (d := d_is_whole) 27; ⟨_, fd, D, He.glo_ok X G (c.d.fact 70)⟩
  f_is_number := let ⟨fd, D⟩ := c.d.def_ (d := d_is_number) 28; ⟨_, fd, D, He.glo_ok X G (c.d.fact 71)⟩
  f_need_number := let ⟨fd, D⟩ := c.d.def_ (d := d_need_number) 29; ⟨_, fd, D, He.glo_ok X G (c.d.fact 72)⟩
  f_Rig___init__ := let ⟨fd, D⟩ := c.d.def_ (d := d_Rig___init__) 30; ⟨_, fd, D, He.mkr_ok (c.d.fact 73), He.glo_ok X G (c.d.fact 42)⟩
  f_need_rig := let ⟨fd, D⟩ := c.d.def_ (d := d_need_rig) 31; ⟨_, fd, D, He.glo_ok X G (c.d.fact 74)⟩
  f_is_follow := let ⟨fd, D⟩ := c.d.def_ (d := d_is_follow) 32; ⟨_, fd, D, He.glo_ok X G (c.d.fact 75)⟩
  f_is_truth := let ⟨fd, D⟩ := c.d.def_ (d := d_is_truth) 33; ⟨_, fd, D, He.glo_ok X G (c.d.fact 76)⟩
  f_is_cue_number := let ⟨fd, D⟩ := c.d.def_ (d := d_is_cue_number) 34; ⟨_, fd, D, He.glo_ok X G (c.d.fact 77)⟩
  f_is_known := let ⟨fd, D⟩ := c.d.def_ (d := d_is_known) 35; ⟨_, fd, D, He.glo_ok X G (c.d.fact 78)⟩
  f_is_level := let ⟨fd, D⟩ := c.d.def_ (d := d_is_level) 36; ⟨_, fd, D, He.glo_ok X G (c.d.fact 79)⟩
  f_is_move := let ⟨fd, D⟩ := c.d.def_ (d := d_is_move) 37; ⟨_, fd, D, He.glo_ok X G (c.d.fact 80)⟩
  f_are_moves := let ⟨fd, D⟩ := c.d.def_ (d := d_are_moves) 38; ⟨_, fd, D, He.glo_ok X G (c.d.fact 81)⟩
  f_is_cue := let ⟨fd, D⟩ := c.d.def_ (d := d_is_cue) 39; ⟨_, fd, D, He.glo_ok X G (c.d.fact 82)⟩
  f_first_wrong_cue := let ⟨fd, D⟩ := c.d.def_ (d := d_first_wrong_cue) 40; ⟨_, fd, D, He.glo_ok X G (c.d.fact 83)⟩
  f_need_cues := let ⟨fd, D⟩ := c.d.def_ (d := d_need_cues) 41; ⟨_, fd, D, He.glo_ok X G (c.d.fact 84)⟩
  f_meaning_behind := let ⟨fd, D⟩ := c.d.def_ (d := d_meaning_behind) 42; ⟨_, fd, D, He.glo_ok X G (c.d.fact 85)⟩
  f_meanings := let ⟨fd, D⟩ := c.d.def_ (d := d_meanings) 43; ⟨_, fd, D, He.glo_ok X G (c.d.fact 86)⟩
  f_CueList___init__ := let ⟨fd, D⟩ := c.d.def_ (d := d_CueList___init__) 44; ⟨_, fd, D, He.mkr_ok (c.d.fact 87), He.glo_ok X G (c.d.fact 41)⟩
  f_need_list := let ⟨fd, D⟩ := c.d.def_ (d := d_need_list) 45; ⟨_, fd, D, He.glo_ok X G (c.d.fact 88)⟩
  f_need_back := let ⟨fd, D⟩ := c.d.def_ (d := d_need_back) 46; ⟨_, fd, D, He.glo_ok X G (c.d.fact 89)⟩
  f_has_act_size := let ⟨fd, D⟩ := c.d.def_ (d := d_has_act_size) 47; ⟨_, fd, D, He.glo_ok X G (c.d.fact 90)⟩
  f_is_act := let ⟨fd, D⟩ := c.d.def_ (d := d_is_act) 48; ⟨_, fd, D, He.glo_ok X G (c.d.fact 91)⟩
  f_first_wrong_act := let ⟨fd, D⟩ := c.d.def_ (d := d_first_wrong_act) 49; ⟨_, fd, D, He.glo_ok X G (c.d.fact 92)⟩
  f_need_acts := let ⟨fd, D⟩ := c.d.def_ (d := d_need_acts) 50; ⟨_, fd, D, He.glo_ok X G (c.d.fact 93)⟩
  f_need_acted := let ⟨fd, D⟩ := c.d.def_ (d := d_need_acted) 51; ⟨_, fd, D, He.glo_ok X G (c.d.fact 94)⟩
  f_Score_senders_of := let ⟨fd, D⟩ := c.d.def_ (d := d_Score_senders_of) 52; ⟨_, fd, D, (He.cls_ok (c.d.fact 32)), He.meth_ok (c.d.fact 95)⟩
  f_Score___init__ := let ⟨fd, D⟩ := c.d.def_ (d := d_Score___init__) 53; ⟨_, fd, D, He.mkr_ok (c.d.fact 96), He.glo_ok X G (c.d.fact 97)⟩
  f_Score_first := let ⟨fd, D⟩ := c.d.def_ (d := d_Score_first) 54; ⟨_, fd, D, (He.cls_ok (c.d.fact 32)), He.meth_ok (c.d.fact 98)⟩
  f_Score_follow_of := let ⟨fd, D⟩ := c.d.def_ (d := d_Score_follow_of) 55; ⟨_, fd, D, (He.cls_ok (c.d.fact 32)), He.meth_ok (c.d.fact 99)⟩
  f_Score_starting := let ⟨fd, D⟩ := c.d.def_ (d := d_Score_starting) 56; ⟨_, fd, D, (He.cls_ok (c.d.fact 32)), He.meth_ok (c.d.fact 100)⟩
  f_Score_passing := let ⟨fd, D⟩ := c.d.def_ (d := d_Score_passing) 57; ⟨_, fd, D, (He.cls_ok (c.d.fact 32)), He.meth_ok (c.d.fact 101)⟩
  f_Score_jumping := let ⟨fd, D⟩ := c.d.def_ (d := d_Score_jumping) 58; ⟨_, fd, D, (He.cls_ok (c.d.fact 32)), He.meth_ok (c.d.fact 102)⟩
  f_Score_moved := let ⟨fd, D⟩ := c.d.def_ (d := d_Score_moved) 59; ⟨_, fd, D, (He.cls_ok (c.d.fact 32)), He.meth_ok (c.d.fact 103)⟩
  f_held_behind := let ⟨fd, D⟩ := c.d.def_ (d := d_held_behind) 60; ⟨_, fd, D, He.glo_ok X G (c.d.fact 104)⟩
  f_resting := let ⟨fd, D⟩ := c.d.def_ (d := d_resting) 61; ⟨_, fd, D, He.glo_ok X G (c.d.fact 105)⟩
  f_ticked := let ⟨fd, D⟩ := c.d.def_ (d := d_ticked) 62; ⟨_, fd, D, He.glo_ok X G (c.d.fact 106)⟩
  f_level_of := let ⟨fd, D⟩ := c.d.def_ (d := d_level_of) 63; ⟨_, fd, D, He.glo_ok X G (c.d.fact 107)⟩
  f_sent := let ⟨fd, D⟩ := c.d.def_ (d := d_sent) 64; ⟨_, fd, D, He.glo_ok X G (c.d.fact 108)⟩
  f_Score_run_behind := let ⟨fd, D⟩ := c.d.def_ (d := d_Score_run_behind) 65; ⟨_, fd, D, (He.cls_ok (c.d.fact 32)), He.meth_ok (c.d.fact 109)⟩
  f_Score_behind := let ⟨fd, D⟩ := c.d.def_ (d := d_Score_behind) 66; ⟨_, fd, D, (He.cls_ok (c.d.fact 32)), He.meth_ok (c.d.fact 110)⟩
  f_Score_stages := let ⟨fd, D⟩ := c.d.def_ (d := d_Score_stages) 67; ⟨_, fd, D, (He.cls_ok (c.d.fact 32)), He.meth_ok (c.d.fact 111)⟩
  f_Score_look := let ⟨fd, D⟩ := c.d.def_ (d := d_Score_look) 68; ⟨_, fd, D, (He.cls_ok (c.d.fact 32)), He.meth_ok (c.d.fact 112)⟩
  f_log_of := let ⟨fd, D⟩ := c.d.def_ (d := d_log_of) 69; ⟨_, fd, D, He.glo_ok X G (c.d.fact 113)⟩
  f_log := let ⟨fd, D⟩ := c.d.def_ (d := d_log) 70; ⟨_, fd, D, He.glo_ok X G (c.d.fact 114)⟩
  f_looks_of := let ⟨fd, D⟩ := c.d.def_ (d := d_looks_of) 71; ⟨_, fd, D, He.glo_ok X G (c.d.fact 115)⟩
  f_looks := let ⟨fd, D⟩ := c.d.def_ (d := d_looks) 72; ⟨_, fd, D, He.glo_ok X G (c.d.fact 116)⟩
  f_stage_behind := let ⟨fd, D⟩ := c.d.def_ (d := d_stage_behind) 73; ⟨_, fd, D, He.glo_ok X G (c.d.fact 117)⟩
  f_rests := let ⟨fd, D⟩ := c.d.def_ (d := d_rests) 74; ⟨_, fd, D, He.glo_ok X G (c.d.fact 118)⟩
  f_stage_rests := let ⟨fd, D⟩ := c.d.def_ (d := d_stage_rests) 75; ⟨_, fd, D, He.glo_ok X G (c.d.fact 119)⟩
  f_waits_of := let ⟨fd, D⟩ := c.d.def_ (d := d_waits_of) 76; ⟨_, fd, D, He.glo_ok X G (c.d.fact 120)⟩
  f_settles := let ⟨fd, D⟩ := c.d.def_ (d := d_settles) 77; ⟨_, fd, D, He.glo_ok X G (c.d.fact 121)⟩
  f__law_settles := let ⟨fd, D⟩ := c.d.def_ (d := d__law_settles) 78; ⟨_, fd, D, He.glo_ok X G (c.d.fact 122)⟩
  f_is_time := let ⟨fd, D⟩ := c.d.def_ (d := d_is_time) 79; ⟨_, fd, D, He.glo_ok X G (c.d.fact 123)⟩
  f_first_wrong_time := let ⟨fd, D⟩ := c.d.def_ (d := d_first_wrong_time) 80; ⟨_, fd, D, He.glo_ok X G (c.d.fact 124)⟩
  f_need_clock := let ⟨fd, D⟩ := c.d.def_ (d := d_need_clock) 81; ⟨_, fd, D, He.glo_ok X G (c.d.fact 125)⟩
  f_acts_at := let ⟨fd, D⟩ := c.d.def_ (d := d_acts_at) 82; ⟨_, fd, D, He.glo_ok X G (c.d.fact 126)⟩
  f_woven_acts := let ⟨fd, D⟩ := c.d.def_ (d := d_woven_acts) 83; ⟨_, fd, D, He.glo_ok X G (c.d.fact 127)⟩
  f_woven := let ⟨fd, D⟩ := c.d.def_ (d := d_woven) 84; ⟨_, fd, D, He.glo_ok X G (c.d.fact 128)⟩
  f__law_right := let ⟨fd, D⟩ := c.d.def_ (d := d__law_right) 85; ⟨_, fd, D, He.glo_ok X G (c.d.fact 129)⟩
  f__law_pot := let ⟨fd, D⟩ := c.d.def_ (d := d__law_pot) 86; ⟨_, fd, D, He.glo_ok X G (c.d.fact 130)⟩
  f_law := let ⟨fd, D⟩ := c.d.def_ (d := d_law) 87; ⟨_, fd, D, He.glo_ok X G (c.d.fact 131)⟩

end Go
/-! PX24 -/
set_option autoImplicit false
set_option maxRecDepth 100000
set_option linter.all false
namespace PX
open PySem L2
/-! ### the readings by bind and if: for simp -/
theorem bind_ite {α β : Type} (p : Prop) [Decidable p] (a b : Option α) (f : α → Option β) : (if p then a else b).bind f = if p then a.bind f else b.bind f := by split <;> rfl
theorem bind_ite' {α β : Type} (p : Bool) (a b : Option α) (f : α → Option β) : (bif p then a else b).bind f = bif p then a.bind f else b.bind f := by cases p <;> rfl
def unB : T → Option Bool
  | .bl b => some b
  | _ => none
@[simp] theorem unB_bl (b : Bool) : unB (.bl b) = some b := rfl
def unI : T → Option Int
  | .int b => some b
  | _ => none
@[simp] theorem unI_int (b : Int) : unI (.int b) = some b := rfl
def outV : Out → Option T
  | .rt t _ => some t
  | .nx _ => some .non
  | _ => none
@[simp] theorem outV_rt (t : T) (ρ : Rho) : outV (.rt t ρ) = some t := rfl
@[simp] theorem outV_nx (ρ : Rho) : outV (.nx ρ) = some .non := rfl
def outN (g : Blk) : Out → Option Out
  | .nx ρ => g ρ
  | .rt t ρ => some (.rt t ρ)
  | .bk ρ => some (.bk ρ)
  | .ct ρ => some (.ct ρ)
  | .rn t ρ => some (.rn t ρ)
@[simp] theorem outN_nx (g : Blk) (ρ : Rho) : outN g (.nx ρ) = g ρ := rfl
@[simp] theorem outN_rt (g : Blk) (t : T) (ρ : Rho) : outN g (.rt t ρ) = some (.rt t ρ) := rfl
@[simp] theorem outN_rn (g : Blk) (t : T) (ρ : Rho) : outN g (.rn t ρ) = some (.rn t ρ) := rfl
@[simp] theorem outN_bk (g : Blk) (ρ : Rho) : outN g (.bk ρ) = some (.bk ρ) := rfl
@[simp] theorem outN_ct (g : Blk) (ρ : Rho) : outN g (.ct ρ) = some (.ct ρ) := rfl
def slI : Option Sl → Option T
  | some (.im t) => some t
  | _ => none
@[simp] theorem slI_im (t : T) : slI (some (.im t)) = some t := rfl
def slC : Option Sl → Option (Bool × T)
  | some (.cl b t) => some (b, t)
  | _ => none
@[simp] theorem slC_cl (b : Bool) (t : T) : slC (some (.cl b t)) = some (b, t) := rfl
def outR (ρ0 : Option Sl) (t : T) : Option (T × T) := match ρ0 with
  | some (Sl.cl false c) => some (t, c)
  | _ => none
@[simp] theorem outR_cl (c t : T) : outR (some (Sl.cl false c)) t = some (t, c) := rfl
def outRR : Out → Option (T × T)
  | .rt t ρ => outR (ρ[0]?) t
  | .nx ρ => outR (ρ[0]?) .non
  | _ => none
@[simp] theorem outRR_rt (t : T) (ρ : Rho) : outRR (.rt t ρ) = outR (ρ[0]?) t := rfl
@[simp] theorem outRR_nx (ρ : Rho) : outRR (.nx ρ) = outR (ρ[0]?) .non := rfl
def outNN : Out → Option T
  | .rn t _ => some t
  | _ => none
@[simp] theorem outNN_rn (t : T) (ρ : Rho) : outNN (.rn t ρ) = some t := rfl
@[simp high] theorem bp_v (i : Nat) (ρ : Rho) : PX.v i ρ = (slI (ρ[i]?)).bind fun t => some (t, ρ) := by
  unfold PX.v slI; split <;> simp_all
@[simp high] theorem bp_s1 (fa : Rho → Option (T × Rho)) (S : T → Option T) (ρ : Rho) : PX.s1 fa S ρ = (fa ρ).bind fun p => (S p.1).bind fun t => some (t, p.2) := by
  unfold PX.s1
  rcases fa ρ with _ | ⟨x, ρ1⟩
  · rfl
  · dsimp only [Option.bind_some]; cases S x <;> rfl
@[simp high] theorem bp_s2 (fa fb : Rho → Option (T × Rho)) (S : T → T → Option T) (ρ : Rho) : PX.s2 fa fb S ρ = (fa ρ).bind fun p => (fb p.2).bind fun q => (S p.1 q.1).bind fun t => some (t, q.2) := by
  unfold PX.s2
  rcases fa ρ with _ | ⟨x, ρ1⟩
  · rfl
  · dsimp only [Option.bind_some]
    rcases fb ρ1 with _ | ⟨y, ρ2⟩
    · rfl
    · dsimp only [Option.bind_some]; cases S x y <;> rfl
@[simp high] theorem bp_tb (fa : Rho → Option (T × Rho)) (ρ : Rho) : PX.tb fa ρ = (fa ρ).bind fun p => (unB p.1).bind fun b => some (b, p.2) := by
  unfold PX.tb
  rcases fa ρ with _ | ⟨x, ρ1⟩
  · rfl
  · cases x <;> rfl
@[simp high] theorem bp_tnot (fa : Rho → Option (Bool × Rho)) (ρ : Rho) : PX.tnot fa ρ = (fa ρ).bind fun p => some (!p.1, p.2) := by
  unfold PX.tnot; cases fa ρ <;> rfl
@[simp high] theorem bp_tand (fa fb : Rho → Option (Bool × Rho)) (ρ : Rho) : PX.tand fa fb ρ = (fa ρ).bind fun p => if p.1 = true then fb p.2 else some (false, p.2) := by
  unfold PX.tand
  rcases fa ρ with _ | ⟨x, ρ1⟩
  · rfl
  · cases x <;> rfl
@[simp high] theorem bp_tor (fa fb : Rho → Option (Bool × Rho)) (ρ : Rho) : PX.tor fa fb ρ = (fa ρ).bind fun p => if p.1 = true then some (true, p.2) else fb p.2 := by
  unfold PX.tor
  rcases fa ρ with _ | ⟨x, ρ1⟩
  · rfl
  · cases x <;> rfl
@[simp high] theorem bp_vnot (fa : Rho → Option (T × Rho)) (ρ : Rho) : PX.vnot fa ρ = (fa ρ).bind fun p => (unB p.1).bind fun b => some (.bl !b, p.2) := by
  unfold PX.vnot
  rcases fa ρ with _ | ⟨x, ρ1⟩
  · rfl
  · cases x <;> rfl
@[simp high] theorem bp_vand (fa fb : Rho → Option (T × Rho)) (ρ : Rho) : PX.vand fa fb ρ = (fa ρ).bind fun p => (unB p.1).bind fun b => if b = true then fb p.2 else some (.bl false, p.2) := by
  unfold PX.vand
  rcases fa ρ with _ | ⟨x, ρ1⟩
  · rfl
  · cases x <;> first | rfl | (rename_i b; cases b <;> rfl)
@[simp high] theorem bp_vor (fa fb : Rho → Option (T × Rho)) (ρ : Rho) : PX.vor fa fb ρ = (fa ρ).bind fun p => (unB p.1).bind fun b => if b = true then some (.bl true, p.2) else fb p.2 := by
  unfold PX.vor
  rcases fa ρ with _ | ⟨x, ρ1⟩
  · rfl
  · cases x <;> first | rfl | (rename_i b; cases b <;> rfl)
@[simp high] theorem bp_ifx (ft : Rho → Option (Bool × Rho)) (fa fb : Rho → Option (T × Rho)) (ρ : Rho) : PX.ifx ft fa fb ρ = (ft ρ).bind fun p => if p.1 = true then fa p.2 else fb p.2 := by
  unfold PX.ifx
  rcases ft ρ with _ | ⟨x, ρ1⟩
  · rfl
  · cases x <;> rfl
@[simp high] theorem bp_acons (fa : Rho → Option (T × Rho)) (fs : Rho → Option (List T × Rho)) (ρ : Rho) : PX.acons fa fs ρ = (fa ρ).bind fun p => (fs p.2).bind fun q => some (p.1 :: q.1, q.2) := by
  unfold PX.acons
  rcases fa ρ with _ | ⟨x, ρ1⟩
  · rfl
  · dsimp only [Option.bind_some]; rcases fs ρ1 with _ | ⟨y, ρ2⟩ <;> rfl
@[simp high] theorem bp_sA (fs : Rho → Option (List T × Rho)) (S : List T → Option T) (ρ : Rho) : PX.sA fs S ρ = (fs ρ).bind fun p => (S p.1).bind fun t => some (t, p.2) := by
  unfold PX.sA
  rcases fs ρ with _ | ⟨x, ρ1⟩
  · rfl
  · dsimp only [Option.bind_some]; cases S x <;> rfl
@[simp high] theorem bp_bseq (f g : Blk) (ρ : Rho) : PX.bseq f g ρ = (f ρ).bind (outN g) := by
  unfold PX.bseq
  rcases f ρ with _ | o
  · rfl
  · cases o <;> rfl
@[simp high] theorem bp_ret (fe : Rho → Option (T × Rho)) (ρ : Rho) : PX.ret fe ρ = (fe ρ).bind fun p => some (.rt p.1 p.2) := by
  unfold PX.ret; cases fe ρ <;> rfl
@[simp high] theorem bp_retC (fe : Rho → Option (T × Rho)) (ρ : Rho) : PX.retC fe ρ = (fe ρ).bind fun p => some (.rn p.1 p.2) := by
  unfold PX.retC; cases fe ρ <;> rfl
@[simp high] theorem bp_drop (fe : Rho → Option (T × Rho)) (ρ : Rho) : PX.drop fe ρ = (fe ρ).bind fun p => some (.nx p.2) := by
  unfold PX.drop; cases fe ρ <;> rfl
@[simp high] theorem bp_biff (ft : Rho → Option (Bool × Rho)) (f g : Blk) (ρ : Rho) : PX.biff ft f g ρ = (ft ρ).bind fun p => if p.1 = true then f p.2 else g p.2 := by
  unfold PX.biff
  rcases ft ρ with _ | ⟨x, ρ1⟩
  · rfl
  · cases x <;> rfl
@[simp high] theorem bp_im (fe : Rho → Option (T × Rho)) (ρ : Rho) : PX.im fe ρ = (fe ρ).bind fun p => some (.im p.1, p.2) := by
  unfold PX.im; cases fe ρ <;> rfl
@[simp high] theorem bp_cl (fe : Rho → Option (T × Rho)) (ρ : Rho) : PX.cl fe ρ = (fe ρ).bind fun p => some (.cl true p.1, p.2) := by
  unfold PX.cl; cases fe ρ <;> rfl
@[simp high] theorem bp_bset (i : Nat) (fk : Rho → Option (Sl × Rho)) (ρ : Rho) : PX.bset i fk ρ = (fk ρ).bind fun p => some (.nx (p.2.set i p.1)) := by
  unfold PX.bset; cases fk ρ <;> rfl
@[simp high] theorem bp_gcons (g : T → Rho → Option Rho) (gs : List T → Rho → Option Rho) (t : T) (ts : List T) (ρ : Rho) : PX.gcons g gs (t :: ts) ρ = (g t ρ).bind (gs ts) := by
  unfold PX.gcons; dsimp only [Option.bind_some]; cases g t ρ <;> rfl
@[simp high] theorem bp_gnil (ρ : Rho) : PX.gnil [] ρ = some ρ := rfl
@[simp high] theorem bp_gt (n : Nat) (gs : List T → Rho → Option Rho) (ts : List T) (ρ : Rho) : PX.gt n gs (.tup ts) ρ = if ts.length = n then gs ts ρ else none := rfl
@[simp high] theorem bp_basg (fe : Rho → Option (T × Rho)) (g : T → Rho → Option Rho) (ρ : Rho) : PX.basg fe g ρ = (fe ρ).bind fun p => (g p.1 p.2).bind fun r => some (.nx r) := by
  unfold PX.basg
  rcases fe ρ with _ | ⟨x, ρ1⟩
  · rfl
  · dsimp only [Option.bind_some]; cases g x ρ1 <;> rfl
@[simp high] theorem bp_bfor (fi : Rho → Option (List T × Rho)) (g : T → Rho → Option Rho) (f : Blk) (ρ : Rho) : PX.bfor fi g f ρ = (fi ρ).bind fun p => loop g f p.1 p.2 := by
  unfold PX.bfor; cases fi ρ <;> rfl
@[simp high] theorem bp_frz (i : Nat) (f : Blk) (ρ : Rho) : PX.frz i f ρ = (slC (ρ[i]?)).bind fun p => if p.1 = true then f (ρ.set i (.im p.2)) else none := by
  unfold PX.frz
  rcases ρ[i]? with _ | (_ | _ | ⟨b, t⟩)
  · rfl
  · rfl
  · rfl
  · cases b <;> rfl
@[simp high] theorem bp_sR (i : Nat) (fs : Rho → Option (List T × Rho)) (d : T → List T → Option (T × T)) (ρ : Rho) : PX.sR i fs d ρ = (slC (ρ[i]?)).bind fun _ => (fs ρ).bind fun p => (slC (p.2[i]?)).bind fun c => (d c.2 p.1).bind fun r => some (r.1, p.2.set i (.cl c.1 r.2)) := by
  unfold PX.sR
  rcases ρ[i]? with _ | (_ | _ | ⟨b, t⟩)
  · rfl
  · rfl
  · rfl
  · dsimp only [slC_cl, Option.bind_some]
    rcases fs ρ with _ | ⟨xs, ρ1⟩
    · rfl
    · dsimp only [slC_cl, Option.bind_some]
      rcases ρ1[i]? with _ | (_ | _ | ⟨b, t⟩)
      · rfl
      · rfl
      · rfl
      · dsimp only [slC_cl, Option.bind_some]; cases d t xs <;> rfl
@[simp high] theorem bp_sRN (fe : Rho → Option (T × Rho)) (fs : Rho → Option (List T × Rho)) (d : T → List T → Option (T × T)) (ρ : Rho) : PX.sRN fe fs d ρ = (fe ρ).bind fun p => (fs p.2).bind fun q => (d p.1 q.1).bind fun r => some (r.1, q.2) := by
  unfold PX.sRN
  rcases fe ρ with _ | ⟨c, ρ1⟩
  · rfl
  · dsimp only [Option.bind_some]
    rcases fs ρ1 with _ | ⟨xs, ρ2⟩
    · rfl
    · dsimp only [Option.bind_some]; cases d c xs <;> rfl
@[simp high] theorem bp_fldC (i : Nat) (c f : Str) (ρ : Rho) : PX.fldC i c f ρ = (slC (ρ[i]?)).bind fun p => (fld c f p.2).bind fun u => some (u, ρ) := by
  unfold PX.fldC
  rcases ρ[i]? with _ | (_ | _ | ⟨b, t⟩)
  · rfl
  · rfl
  · rfl
  · dsimp only [slC_cl, Option.bind_some]; cases fld c f t <;> rfl
@[simp high] theorem bp_onone (ρ : Rho) : PX.onone ρ = some (none, ρ) := rfl
@[simp high] theorem bp_osome (fa : Rho → Option (T × Rho)) (ρ : Rho) : PX.osome fa ρ = (fa ρ).bind fun p => (unI p.1).bind fun i => some (some i, p.2) := by
  unfold PX.osome
  rcases fa ρ with _ | ⟨x, ρ1⟩
  · rfl
  · cases x <;> rfl
@[simp high] theorem bp_sl (fa : Rho → Option (T × Rho)) (fl fh : Rho → Option (Option Int × Rho)) (ρ : Rho) : PX.sl fa fl fh ρ = (fa ρ).bind fun p => (fl p.2).bind fun l => (fh l.2).bind fun h => (oSl p.1 l.1 h.1).bind fun t => some (t, h.2) := by
  unfold PX.sl
  rcases fa ρ with _ | ⟨x, ρ1⟩
  · rfl
  · dsimp only [Option.bind_some]
    rcases fl ρ1 with _ | ⟨l, ρ2⟩
    · rfl
    · dsimp only [Option.bind_some]
      rcases fh ρ2 with _ | ⟨h, ρ3⟩
      · rfl
      · dsimp only [Option.bind_some]; cases oSl x l h <;> rfl
@[simp high] theorem bp_i1 (fe : Rho → Option (T × Rho)) (S : T → Option (List T)) (ρ : Rho) : PX.i1 fe S ρ = (fe ρ).bind fun p => (S p.1).bind fun t => some (t, p.2) := by
  unfold PX.i1
  rcases fe ρ with _ | ⟨x, ρ1⟩
  · rfl
  · dsimp only [Option.bind_some]; cases S x <;> rfl
@[simp high] theorem bp_iA (fs : Rho → Option (List T × Rho)) (S : List T → Option (List T)) (ρ : Rho) : PX.iA fs S ρ = (fs ρ).bind fun p => (S p.1).bind fun t => some (t, p.2) := by
  unfold PX.iA
  rcases fs ρ with _ | ⟨x, ρ1⟩
  · rfl
  · dsimp only [Option.bind_some]; cases S x <;> rfl
@[simp high] theorem bp_lc (vs : List Nat) (fi : Rho → Option (List T × Rho)) (g : T → Rho → Option Rho) (ft : Rho → Option (Bool × Rho)) (fe : Rho → Option (T × Rho)) (ρ : Rho) : PX.lc vs fi g ft fe ρ = (fi ρ).bind fun p => (lcl vs g ft fe p.1 [] (wipeR p.2 vs)).bind fun q => some (.lst q.1, wipeR q.2 vs) := by
  unfold PX.lc
  rcases fi ρ with _ | ⟨x, ρ1⟩
  · rfl
  · dsimp only [Option.bind_some]; cases lcl vs g ft fe x [] (wipeR ρ1 vs) <;> rfl
@[simp high] theorem bp_dc (vs : List Nat) (fi : Rho → Option (List T × Rho)) (g : T → Rho → Option Rho) (ft : Rho → Option (Bool × Rho)) (fk fe : Rho → Option (T × Rho)) (ρ : Rho) : PX.dc vs fi g ft fk fe ρ = (fi ρ).bind fun p => (dcl vs g ft fk fe p.1 [] (wipeR p.2 vs)).bind fun q => some (.dct q.1, wipeR q.2 vs) := by
  unfold PX.dc
  rcases fi ρ with _ | ⟨x, ρ1⟩
  · rfl
  · dsimp only [Option.bind_some]; cases dcl vs g ft fk fe x [] (wipeR ρ1 vs) <;> rfl
@[simp high] theorem bp_sB (T' : String) (fo : Rho → Option (T × Rho)) (fs : Rho → Option (List T × Rho)) (S : T → List T → Option T) (ρ : Rho) : PX.sB T' fo fs S ρ = (fo ρ).bind fun p => if isTyT T' p.1 = true then (fs p.2).bind fun q => (S p.1 q.1).bind fun t => some (t, q.2) else none := by
  unfold PX.sB
  rcases fo ρ with _ | ⟨x, ρ1⟩
  · rfl
  · dsimp only [Option.bind_some]
    split
    · rcases fs ρ1 with _ | ⟨xs, ρ2⟩
      · rfl
      · dsimp only [Option.bind_some]; cases S x xs <;> rfl
    · rfl
@[simp high] theorem bp_sBC (T' : String) (i : Nat) (fs : Rho → Option (List T × Rho)) (S : T → List T → Option (T × T)) (ρ : Rho) : PX.sBC T' i fs S ρ = (slC (ρ[i]?)).bind fun c0 => if isTyC T' c0.2 = true then (fs ρ).bind fun p => (slC (p.2[i]?)).bind fun c => (S c.2 p.1).bind fun r => some (r.1, p.2.set i (.cl c.1 r.2)) else none := by
  unfold PX.sBC
  rcases ρ[i]? with _ | (_ | _ | ⟨b, t⟩)
  · rfl
  · rfl
  · rfl
  · dsimp only [slC_cl, Option.bind_some]
    split
    · rcases fs ρ with _ | ⟨xs, ρ1⟩
      · rfl
      · dsimp only [slC_cl, Option.bind_some]
        rcases ρ1[i]? with _ | (_ | _ | ⟨b, t⟩)
        · rfl
        · rfl
        · rfl
        · dsimp only [slC_cl, Option.bind_some]; cases S t xs <;> rfl
    · rfl
@[simp high] theorem bp_ixG (i : Nat) (fb : Rho → Option (T × Rho)) (ρ : Rho) : PX.ixG i fb ρ = (slC (ρ[i]?)).bind fun _ => (fb ρ).bind fun p => (slC (p.2[i]?)).bind fun c => (itC c.2 p.1).bind fun t => some (t, p.2) := by
  unfold PX.ixG
  rcases ρ[i]? with _ | (_ | _ | ⟨b, t⟩)
  · rfl
  · rfl
  · rfl
  · dsimp only [slC_cl, Option.bind_some]
    rcases fb ρ with _ | ⟨y, ρ1⟩
    · rfl
    · dsimp only [slC_cl, Option.bind_some]
      rcases ρ1[i]? with _ | (_ | _ | ⟨b, t⟩)
      · rfl
      · rfl
      · rfl
      · dsimp only [slC_cl, Option.bind_some]; cases itC t y <;> rfl
@[simp high] theorem bp_cmpC (i : Nat) (fb : Rho → Option (T × Rho)) (S : T → T → Option T) (ρ : Rho) : PX.cmpC i fb S ρ = (slC (ρ[i]?)).bind fun _ => (fb ρ).bind fun p => (slC (p.2[i]?)).bind fun c => (S c.2 p.1).bind fun t => (unB t).bind fun r => some (.bl r, p.2) := by
  unfold PX.cmpC
  rcases ρ[i]? with _ | (_ | _ | ⟨b, t⟩)
  · rfl
  · rfl
  · rfl
  · dsimp only [slC_cl, Option.bind_some]
    rcases fb ρ with _ | ⟨y, ρ1⟩
    · rfl
    · dsimp only [slC_cl, Option.bind_some]
      rcases ρ1[i]? with _ | (_ | _ | ⟨b, t⟩)
      · rfl
      · rfl
      · rfl
      · dsimp only [slC_cl, Option.bind_some]
        rcases S t y with _ | u
        · rfl
        · cases u <;> rfl
@[simp high] theorem bp_chn (fa fb fc : Rho → Option (T × Rho)) (S S' : T → T → Option T) (ρ : Rho) : PX.chn fa fb fc S S' ρ = (fa ρ).bind fun p => (fb p.2).bind fun q => (S p.1 q.1).bind fun t => (unB t).bind fun b => if b = true then (fc q.2).bind fun r => (S' q.1 r.1).bind fun u => some (u, r.2) else some (.bl false, q.2) := by
  unfold PX.chn
  rcases fa ρ with _ | ⟨x, ρ1⟩
  · rfl
  · dsimp only [Option.bind_some]
    rcases fb ρ1 with _ | ⟨y, ρ2⟩
    · rfl
    · dsimp only [Option.bind_some]
      rcases S x y with _ | u
      · rfl
      · cases u <;> first | rfl | skip
        rename_i b
        cases b
        · rfl
        · dsimp only [Option.bind_some, unB_bl, if_true]
          rcases fc ρ2 with _ | ⟨z, ρ3⟩
          · rfl
          · dsimp only [Option.bind_some]; cases S' y z <;> rfl
@[simp high] theorem bp_sG (fd fa fb : Rho → Option (T × Rho)) (ρ : Rho) : PX.sG fd fa fb ρ = (fd ρ).bind fun p => if isDct p.1 = true then (fa p.2).bind fun q => (fb q.2).bind fun r => (oGet p.1 q.1 r.1).bind fun t => some (t, r.2) else none := by
  unfold PX.sG
  rcases fd ρ with _ | ⟨x, ρ1⟩
  · rfl
  · dsimp only [Option.bind_some]
    split
    · rcases fa ρ1 with _ | ⟨y, ρ2⟩
      · rfl
      · dsimp only [Option.bind_some]
        rcases fb ρ2 with _ | ⟨z, ρ3⟩
        · rfl
        · dsimp only [Option.bind_some]; cases oGet x y z <;> rfl
    · rfl
@[simp high] theorem bp_gsub (i : Nat) (fb : Rho → Option (T × Rho)) (v : T) (ρ : Rho) : PX.gsub i fb v ρ = (fb ρ).bind fun p => (slC (p.2[i]?)).bind fun c => (setC c.2 p.1 v).bind fun c' => some (p.2.set i (.cl c.1 c')) := by
  unfold PX.gsub
  rcases fb ρ with _ | ⟨y, ρ1⟩
  · rfl
  · dsimp only [Option.bind_some]
    rcases ρ1[i]? with _ | (_ | _ | ⟨b, t⟩)
    · rfl
    · rfl
    · rfl
    · dsimp only [slC_cl, Option.bind_some]; cases setC t y v <;> rfl
@[simp high] theorem bp_bsub (i : Nat) (fb fe : Rho → Option (T × Rho)) (ρ : Rho) : PX.bsub i fb fe ρ = (slC (ρ[i]?)).bind fun _ => (fe ρ).bind fun p => (PX.gsub i fb p.1 p.2).bind fun r => some (.nx r) := by
  unfold PX.bsub
  rcases ρ[i]? with _ | (_ | _ | ⟨b, t⟩)
  · rfl
  · rfl
  · rfl
  · dsimp only [slC_cl, Option.bind_some]
    rcases fe ρ with _ | ⟨y, ρ1⟩
    · rfl
    · dsimp only [Option.bind_some]; cases PX.gsub i fb y ρ1 <;> rfl
@[simp high] theorem bp_bpar2 (i j : Nat) (ka kb : Rho → Option (Sl × Rho)) (ρ : Rho) : PX.bpar2 i j ka kb ρ = (ka ρ).bind fun p => (kb p.2).bind fun q => some (.nx ((q.2.set i p.1).set j q.1)) := by
  unfold PX.bpar2
  rcases ka ρ with _ | ⟨x, ρ1⟩
  · rfl
  · dsimp only [Option.bind_some]; cases kb ρ1 <;> rfl
@[simp high] theorem bp_bpar3 (i j l : Nat) (ka kb kc : Rho → Option (Sl × Rho)) (ρ : Rho) : PX.bpar3 i j l ka kb kc ρ = (ka ρ).bind fun p => (kb p.2).bind fun q => (kc q.2).bind fun r => some (.nx (((r.2.set i p.1).set j q.1).set l r.1)) := by
  unfold PX.bpar3
  rcases ka ρ with _ | ⟨x, ρ1⟩
  · rfl
  · dsimp only [Option.bind_some]
    rcases kb ρ1 with _ | ⟨y, ρ2⟩
    · rfl
    · dsimp only [Option.bind_some]; cases kc ρ2 <;> rfl
@[simp high] theorem bp_sM (c m : Str) (fo : Rho → Option (T × Rho)) (fs : Rho → Option (List T × Rho)) (d : List T → Option T) (ρ : Rho) {c' : Str} {fts : List (Str × T)} {ρ1 : Rho} (h : fo ρ = some (.obj c' fts, ρ1)) : PX.sM c m fo fs d ρ = if c' = c ∧ fts.lookup m = none then (fs ρ1).bind fun q => (d (.obj c' fts :: q.1)).bind fun t => some (t, q.2) else none := by
  unfold PX.sM
  rw [h]
  dsimp only
  split
  · rcases fs ρ1 with _ | ⟨xs, ρ2⟩
    · rfl
    · dsimp only [Option.bind_some]; cases d (.obj c' fts :: xs) <;> rfl
  · rfl
@[simp high] theorem bp_vw (i : Nat) (f : Rho → Option (T × Rho)) (ρ : Rho) : PX.vw i f ρ = (slC (ρ[i]?)).bind fun c => if c.1 = true then (f (ρ.set i (.im c.2))).bind fun p => if flatS p.1 = true then (mrg (ρ.set i .no) p.2).bind fun r => some (p.1, r.set i (.cl true c.2)) else none else none := by
  unfold PX.vw
  rcases ρ[i]? with _ | (_ | _ | ⟨b, t⟩)
  · rfl
  · rfl
  · rfl
  · cases b
    · rfl
    · dsimp only [slC_cl, Option.bind_some, if_true]
      rcases f (ρ.set i (.im t)) with _ | ⟨u, ρ'⟩
      · rfl
      · dsimp only [Option.bind_some, if_true]
        cases flatS u
        · rfl
        · show (match mrg (ρ.set i .no) ρ' with | some ρ2 => some (u, ρ2.set i (.cl true t)) | none => none) = _
          cases mrg (ρ.set i .no) ρ' <;> rfl
def mkO (r : T × T) : Option T := match r with
  | (.non, t) => some t
  | _ => none
@[simp] theorem mkO_non (t : T) : mkO (.non, t) = some t := rfl
@[simp high] theorem bp_mk (c : Str) (fs : Rho → Option (List T × Rho)) (d : T → List T → Option (T × T)) (ρ : Rho) : PX.mk c fs d ρ = (fs ρ).bind fun p => (d (.obj c []) p.1).bind fun r => (mkO r).bind fun t => some (t, p.2) := by
  unfold PX.mk
  rcases fs ρ with _ | ⟨xs, ρ1⟩
  · rfl
  · dsimp only [Option.bind_some]
    rcases d (.obj c []) xs with _ | ⟨u, t⟩
    · rfl
    · cases u <;> rfl
@[simp high] theorem runP_eq (n N : Nat) (f : Blk) (ts : List T) : runP n N f ts = if ts.length = n then (f (ts.map Sl.im ++ List.replicate (N - n) Sl.no)).bind outV else none := by
  unfold runP
  by_cases h : ts.length = n
  case neg => exact (if_neg h).trans (if_neg h).symm
  rw [if_pos h, if_pos h]
  rcases f (ts.map Sl.im ++ List.replicate (N - n) Sl.no) with _ | o
  · rfl
  · cases o <;> rfl
@[simp high] theorem runR_eq (n N : Nat) (f : Blk) (c : T) (ts : List T) : runR n N f c ts = if ts.length + 1 = n then (f (Sl.cl false c :: (ts.map Sl.im ++ List.replicate (N - n) Sl.no))).bind outRR else none := by
  unfold runR
  by_cases h : ts.length + 1 = n
  case neg => exact (if_neg h).trans (if_neg h).symm
  rw [if_pos h, if_pos h]
  rcases f (Sl.cl false c :: (ts.map Sl.im ++ List.replicate (N - n) Sl.no)) with _ | o
  · rfl
  · cases o <;> first | rfl | skip
    all_goals
      rename_i ρ
      simp only [Option.bind_some, outRR, outR]
      try (rcases ρ[0]? with _ | (_ | _ | ⟨b, t⟩) <;> first | rfl | (cases b <;> rfl))
end PX
/-! MA -/
set_option autoImplicit false
set_option maxRecDepth 100000
set_option linter.all false
namespace PX
open PySem L2
/-! ### values: for simp -/
@[simp] theorem oIt_tup (ts : List T) (i : Int) : oIt (.tup ts) (.int i) = atI ts i := rfl
@[simp] theorem oIt_lst (ts : List T) (i : Int) : oIt (.lst ts) (.int i) = atI ts i := rfl
@[simp] theorem oIt_dS (kts : List (Key × T)) (x : Str) : oIt (.dct kts) (.str x) = lkT kts (.inr x) := rfl
@[simp] theorem oIt_dI (kts : List (Key × T)) (i : Int) : oIt (.dct kts) (.int i) = lkT kts (.inl i) := rfl
@[simp] theorem itC_lst (ts : List T) (i : Int) : itC (.lst ts) (.int i) = atI ts i := rfl
@[simp] theorem itC_dS (kts : List (Key × T)) (x : Str) : itC (.dct kts) (.str x) = lkT kts (.inr x) := rfl
@[simp] theorem itC_dI (kts : List (Key × T)) (i : Int) : itC (.dct kts) (.int i) = lkT kts (.inl i) := rfl
theorem atI_nat {α : Type} (xs : List α) (n : Nat) : atI xs (n : Int) = xs[n]? := by
  unfold atI ixN
  by_cases h : n < xs.length
  · rw [if_pos (by omega), if_pos (by omega)]; rfl
  · rw [if_pos (by omega), if_neg (by omega), List.getElem?_eq_none (by omega)]; rfl
@[simp] theorem atI_0 {α : Type} (xs : List α) : atI xs 0 = xs[0]? := atI_nat xs 0
@[simp] theorem atI_1 {α : Type} (xs : List α) : atI xs 1 = xs[1]? := atI_nat xs 1
@[simp] theorem atI_2 {α : Type} (xs : List α) : atI xs 2 = xs[2]? := atI_nat xs 2
@[simp] theorem atI_3 {α : Type} (xs : List α) : atI xs 3 = xs[3]? := atI_nat xs 3
@[simp] theorem atI_4 {α : Type} (xs : List α) : atI xs 4 = xs[4]? := atI_nat xs 4
@[simp] theorem atI_nat' {α : Type} (xs : List α) (n : Nat) : atI xs (n : Int) = xs[n]? := atI_nat xs n
theorem atI_i {α : Type} (xs : List α) {i : Int} (h : 0 ≤ i) : atI xs i = xs[i.toNat]? := by
  have := atI_nat xs i.toNat
  rwa [Int.toNat_of_nonneg h] at this
theorem atI_last {α : Type} (xs : List α) (h : xs ≠ []) : atI xs (-1) = xs.getLast? := by
  unfold atI ixN
  have hl : 0 < xs.length := List.length_pos_iff.mpr h
  rw [if_neg (by omega), if_pos (by omega), List.getLast?_eq_getElem?]
  show xs[(-1 + (xs.length : Int)).toNat]? = _
  congr 1
  omega
@[simp] theorem oAddG_ii (a b : Int) : oAddG (.int a) (.int b) = some (.int (a + b)) := rfl
@[simp] theorem oAddG_ll (a b : List T) : oAddG (.lst a) (.lst b) = if a.length + b.length ≤ 1000 then some (.lst (a ++ b)) else none := rfl
@[simp] theorem oAddG_ss (a b : Str) : oAddG (.str a) (.str b) = if a.length + b.length ≤ 1000 then some (.str (a ++ b)) else none := rfl
@[simp] theorem oSub_ii (a b : Int) : oSub (.int a) (.int b) = some (.int (a - b)) := rfl
@[simp] theorem oNeg_i (a : Int) : oNeg (.int a) = some (.int (-a)) := rfl
theorem oMulG_ok {a b : Int} (h : (-18446744073709551616 < a ∧ a < 18446744073709551616) ∨ (-18446744073709551616 < b ∧ b < 18446744073709551616)) : oMulG (.int a) (.int b) = some (.int (a * b)) := by
  show oMul (.int a) (.int b) = _
  unfold oMul iic
  dsimp only
  exact if_pos (decide_eq_true (by omega))
theorem oDiv_ok {a b : Int} (h1 : 0 < b) (h2 : b < 1073741824) : oDiv (.int a) (.int b) = some (.int (a / b)) := by
  unfold oDiv iic
  dsimp only
  exact if_pos (decide_eq_true (by omega))
theorem oMod_ok {a b : Int} (h1 : 0 < b) : oMod (.int a) (.int b) = some (.int (a % b)) := by
  unfold oMod iic
  dsimp only
  exact if_pos (decide_eq_true h1)
@[simp] theorem oLtG_ii (a b : Int) : oLtG (.int a) (.int b) = some (.bl (decide (a < b))) := rfl
@[simp] theorem oLeG_ii (a b : Int) : oLeG (.int a) (.int b) = some (.bl (decide (a ≤ b))) := rfl
@[simp] theorem oGt_ii (a b : Int) : oGt (.int a) (.int b) = some (.bl (decide (b < a))) := rfl
@[simp] theorem oGe_ii (a b : Int) : oGe (.int a) (.int b) = some (.bl (decide (b ≤ a))) := rfl
@[simp] theorem oLtG_ss (a b : Str) : oLtG (.str a) (.str b) = some (.bl (decide (a.cps.toList < b.cps.toList))) := rfl
@[simp] theorem oLeG_ss (a b : Str) : oLeG (.str a) (.str b) = some (.bl (!decide (b.cps.toList < a.cps.toList))) := rfl
@[simp] theorem oLen_tup (ts : List T) : oLen [.tup ts] = some (.int ts.length) := rfl
@[simp] theorem oLen_lst (ts : List T) : oLen [.lst ts] = some (.int ts.length) := rfl
@[simp] theorem oLen_scr (ts : List Int) : oLen [.scr ts] = some (.int ts.length) := rfl
@[simp] theorem oLen_str (x : Str) : oLen [.str x] = if x.length ≤ 1000 then some (.int x.length) else none := rfl
@[simp] theorem mkTup_eq (xs : List T) : mkTup xs = if xs.length ≤ 1000 then some (.tup xs) else none := rfl
@[simp] theorem mkLst_eq (xs : List T) : mkLst xs = if xs.length ≤ 1000 then some (.lst xs) else none := rfl
@[simp] theorem oTuple_lst (ts : List T) : oTuple [.lst ts] = some (.tup ts) := rfl
@[simp] theorem oTuple_tup (ts : List T) : oTuple [.tup ts] = some (.tup ts) := rfl
@[simp] theorem oListG_lst (ts : List T) : oListG [.lst ts] = some (.lst ts) := rfl
@[simp] theorem oListG_tup (ts : List T) : oListG [.tup ts] = some (.lst ts) := rfl
@[simp] theorem oListG_dct (kts : List (Key × T)) : oListG [.dct kts] = some (.lst (kts.map fun kt => keyTT kt.1)) := rfl
@[simp] theorem oInt_i (i : Int) : oInt [.int i] = some (.int i) := rfl
@[simp] theorem oInt_b (b : Bool) : oInt [.bl b] = some (.int (if b then 1 else 0)) := rfl
@[simp] theorem oAbs_i (i : Int) : oAbs [.int i] = some (.int (if i < 0 then -i else i)) := rfl
@[simp] theorem oMin2_i (i j : Int) : oMin2 [.int i, .int j] = some (.int (if j < i then j else i)) := rfl
@[simp] theorem oMax2_i (i j : Int) : oMax2 [.int i, .int j] = some (.int (if j > i then j else i)) := rfl
@[simp] theorem oIsN_non (neg : Bool) : oIsN neg .non .non = some (.bl (!neg)) := by cases neg <;> rfl
@[simp] theorem oIsN_int (neg : Bool) (i : Int) : oIsN neg (.int i) .non = some (.bl neg) := by cases neg <;> rfl
@[simp] theorem oIsN_tup (neg : Bool) (i : List T) : oIsN neg (.tup i) .non = some (.bl neg) := by cases neg <;> rfl
@[simp] theorem oIsN_str (neg : Bool) (i : Str) : oIsN neg (.str i) .non = some (.bl neg) := by cases neg <;> rfl
@[simp] theorem oIsN_bl (neg : Bool) (i : Bool) : oIsN neg (.bl i) .non = some (.bl neg) := by cases neg <;> rfl
@[simp] theorem anyOf_tup (ts : List T) : anyOf (.tup ts) = some ts := rfl
@[simp] theorem anyOf_lst (ts : List T) : anyOf (.lst ts) = some ts := rfl
@[simp] theorem anyOf_str (x : Str) : anyOf (.str x) = some (x.cps.toList.map fun c => T.str ⟨#[c]⟩) := rfl
@[simp] theorem enmA_tup (ts : List T) : enmA [.tup ts] = some (ts.zipIdx.map fun q => T.tup [.int (q.2 : Int), q.1]) := rfl
@[simp] theorem enmA_lst (ts : List T) : enmA [.lst ts] = some (ts.zipIdx.map fun q => T.tup [.int (q.2 : Int), q.1]) := rfl
@[simp] theorem zpA_tt (ts us : List T) : zpA [.tup ts, .tup us] = some ((ts.zip us).map fun q => T.tup [q.1, q.2]) := rfl
@[simp] theorem zpA_tl (ts us : List T) : zpA [.tup ts, .lst us] = some ((ts.zip us).map fun q => T.tup [q.1, q.2]) := rfl
@[simp] theorem oAppend_lst (ts : List T) (t : T) : oAppend (.lst ts) [t] = if ts.length < 1000 then some (.non, .lst (ts ++ [t])) else none := by
  unfold oAppend
  rfl
@[simp] theorem isTyC_lst (ts : List T) : isTyC "list" (.lst ts) = true := by rfl
@[simp] theorem isTyT_lst (ts : List T) : isTyT "list" (.lst ts) = true := by rfl
theorem rng1_nat (n : Nat) (h : n ≤ 1000) : rng1 [.int (n : Int)] = some ((List.range n).map fun (i : Nat) => T.int (i : Int)) := by
  unfold rng1
  dsimp only
  rw [if_pos (by omega)]
  simp
@[simp] theorem oIsT_b (n : String) (b : Bool) : oIsT n (.bl b) = (isB "bool" n).map T.bl := by unfold oIsT; simp only [tyN]; cases isB "bool" n <;> rfl
@[simp] theorem oIsT_i (n : String) (b : Int) : oIsT n (.int b) = (isB "int" n).map T.bl := by unfold oIsT; simp only [tyN]; cases isB "int" n <;> rfl
@[simp] theorem oIsT_s (n : String) (b : Str) : oIsT n (.str b) = (isB "str" n).map T.bl := by unfold oIsT; simp only [tyN]; cases isB "str" n <;> rfl
@[simp] theorem oIsT_t (n : String) (b : List T) : oIsT n (.tup b) = (isB "tuple" n).map T.bl := by unfold oIsT; simp only [tyN]; cases isB "tuple" n <;> rfl
@[simp] theorem oIsT_l (n : String) (b : List T) : oIsT n (.lst b) = (isB "list" n).map T.bl := by unfold oIsT; simp only [tyN]; cases isB "list" n <;> rfl
@[simp] theorem oIsT_n (n : String) : oIsT n .non = (isB "NoneType" n).map T.bl := by unfold oIsT; simp only [tyN]; cases isB "NoneType" n <;> rfl
@[simp] theorem isB_1 : isB "bool" "int" = some true := by decide +kernel
@[simp] theorem isB_2 : isB "int" "int" = some true := by decide +kernel
@[simp] theorem isB_3 : isB "int" "bool" = some false := by decide +kernel
@[simp] theorem isB_4 : isB "bool" "bool" = some true := by decide +kernel
@[simp] theorem isB_5 : isB "str" "str" = some true := by decide +kernel
@[simp] theorem isB_6 : isB "str" "int" = some false := by decide +kernel
@[simp] theorem isB_7 : isB "str" "bool" = some false := by decide +kernel
@[simp] theorem isB_8 : isB "int" "str" = some false := by decide +kernel
@[simp] theorem isB_9 : isB "bool" "str" = some false := by decide +kernel
@[simp] theorem isB_10 : isB "tuple" "tuple" = some true := by decide +kernel
@[simp] theorem isB_11 : isB "tuple" "list" = some false := by decide +kernel
@[simp] theorem isB_12 : isB "list" "list" = some true := by decide +kernel
@[simp] theorem isB_13 : isB "list" "tuple" = some false := by decide +kernel
@[simp] theorem isB_14 : isB "str" "tuple" = some false := by decide +kernel
@[simp] theorem isB_15 : isB "str" "list" = some false := by decide +kernel
@[simp] theorem isB_16 : isB "int" "tuple" = some false := by decide +kernel
@[simp] theorem isB_17 : isB "int" "list" = some false := by decide +kernel
@[simp] theorem isB_18 : isB "bool" "tuple" = some false := by decide +kernel
@[simp] theorem isB_19 : isB "bool" "list" = some false := by decide +kernel
@[simp] theorem isB_20 : isB "NoneType" "tuple" = some false := by decide +kernel
@[simp] theorem isB_21 : isB "NoneType" "list" = some false := by decide +kernel
@[simp] theorem isB_22 : isB "NoneType" "bool" = some false := by decide +kernel
@[simp] theorem isB_23 : isB "NoneType" "int" = some false := by decide +kernel
@[simp] theorem isB_24 : isB "NoneType" "str" = some false := by decide +kernel
end PX
namespace Go
open PySem L2 PX
/-! ### runs -/
structure Rn where
  a : Int
  b : Int
  c : Int
  d : Int
def Rn.e (r : Rn) : T := .tup [.int r.a, .int r.b, .int r.c, .int r.d]
/-- a run that may stand: levels to 9, a fade to 5 -/
def Rn.ok (r : Rn) : Prop := 0 ≤ r.a ∧ r.a ≤ 9 ∧ 0 ≤ r.b ∧ r.b ≤ 9 ∧ 0 ≤ r.c ∧ ((r.c < r.d ∧ r.d ≤ 5) ∨ (r.c = 0 ∧ r.d = 0 ∧ r.a = r.b))
def lvl (r : Rn) : Int := if r.c < r.d then r.a + (r.b - r.a) * r.c / r.d else r.b
def snt (r : Rn) (l n : Int) : Rn := if r.b = l then r else if n = 0 ∨ lvl r = l then ⟨l, l, 0, 0⟩ else ⟨lvl r, l, 0, n⟩
def tck (r : Rn) : Rn := if r.c + 1 < r.d then ⟨r.a, r.b, r.c + 1, r.d⟩ else ⟨r.b, r.b, 0, 0⟩
theorem law_level (r : Rn) (h : r.ok) : P__law_level [r.e] = some (.int (lvl r)) := by
  obtain ⟨h1, h2, h3, h4, h5, h6⟩ := h
  unfold P__law_level B__law_level
  by_cases hc : r.c < r.d
  · have q1 : oMulG (.int (r.b - r.a)) (.int r.c) = some (.int ((r.b - r.a) * r.c)) := oMulG_ok (by omega)
    have q2 : oDiv (.int ((r.b - r.a) * r.c)) (.int r.d) = some (.int ((r.b - r.a) * r.c / r.d)) := oDiv_ok (by omega) (by omega)
    simp [Rn.e, lvl, hc, q1, q2]
  · simp [Rn.e, lvl, hc]
end Go
/-! MB -/
set_option autoImplicit false
set_option maxRecDepth 100000
set_option linter.all false
namespace Go
open PySem L2 PX
theorem law_sent (r : Rn) (h : r.ok) (l n : Int) : P__law_sent [r.e, .int l, .int n] = some (snt r l n).e := by
  have e := law_level r h
  unfold P__law_sent B__law_sent snt
  by_cases h1 : r.b = l
  · simp [Rn.e, h1]
  · by_cases h2 : n = 0
    · simp only [Rn.e] at e
      simp [Rn.e, h1, h2, e]
    · by_cases h3 : lvl r = l
      · simp only [Rn.e] at e
        simp [Rn.e, h1, h2, h3, e]
      · simp only [Rn.e] at e
        simp [Rn.e, h1, h2, h3, e]
theorem prg_level (r : Rn) (h : r.ok) : P_level_of [r.e] = some (.int (lvl r)) := by
  obtain ⟨h1, h2, h3, h4, h5, h6⟩ := h
  unfold P_level_of B_level_of
  by_cases hc : r.c < r.d
  · have q1 : oMulG (.int (r.b - r.a)) (.int r.c) = some (.int ((r.b - r.a) * r.c)) := oMulG_ok (by omega)
    have q2 : oDiv (.int ((r.b - r.a) * r.c)) (.int r.d) = some (.int ((r.b - r.a) * r.c / r.d)) := oDiv_ok (by omega) (by omega)
    simp [Rn.e, lvl, hc, q1, q2]
  · simp [Rn.e, lvl, hc]
theorem prg_resting (l : Int) : P_resting [.int l] = some (Rn.e ⟨l, l, 0, 0⟩) := by
  unfold P_resting B_resting
  simp [Rn.e]
theorem prg_sent (r : Rn) (h : r.ok) (l n : Int) : P_sent [r.e, .int l, .int n] = some (snt r l n).e := by
  have e := prg_level r h
  have e2 := prg_resting l
  unfold P_sent B_sent snt
  by_cases h1 : r.b = l
  · simp [Rn.e, h1]
  · by_cases h2 : n = 0
    · simp only [Rn.e] at e e2
      simp [Rn.e, h1, h2, e, e2]
    · by_cases h3 : lvl r = l
      · simp only [Rn.e] at e e2
        simp [Rn.e, h1, h2, h3, e, e2]
      · simp only [Rn.e] at e e2
        simp [Rn.e, h1, h2, h3, e, e2]
theorem prg_ticked (r : Rn) (h : r.ok) : P_ticked [r.e] = some (tck r).e := by
  obtain ⟨h1, h2, h3, h4, h5, h6⟩ := h
  have e2 := prg_resting r.b
  unfold P_ticked B_ticked tck
  simp only [Rn.e] at e2
  by_cases hc : r.c < r.d
  · by_cases hd : r.c + 1 < r.d
    · simp [Rn.e, show ¬ r.d ≤ r.c by omega, hd]
    · simp [Rn.e, show ¬ r.d ≤ r.c by omega, hd, e2]
  · obtain ⟨k1, k2, k3⟩ : r.c = 0 ∧ r.d = 0 ∧ r.a = r.b := by omega
    simp [Rn.e, k1, k2, k3]
theorem prg_rests (r : Rn) : P_rests [r.e] = some (.bl (decide (r.d ≤ r.c))) := by
  unfold P_rests B_rests
  simp [Rn.e]
theorem lvl_ok (r : Rn) (h : r.ok) : 0 ≤ lvl r ∧ lvl r ≤ 9 := by
  obtain ⟨h1, h2, h3, h4, h5, h6⟩ := h
  unfold lvl
  split
  · rename_i hc
    rcases h6 with ⟨_, h7⟩ | ⟨h7, h8, _⟩
    · have hd : 0 < r.d := by omega
      have hq : r.d * ((r.b - r.a) * r.c / r.d) + (r.b - r.a) * r.c % r.d = (r.b - r.a) * r.c := Int.mul_ediv_add_emod _ _
      have m1 := Int.emod_nonneg ((r.b - r.a) * r.c) (show r.d ≠ 0 by omega)
      have m2 := Int.emod_lt_of_pos ((r.b - r.a) * r.c) hd
      by_cases hs : 0 ≤ r.b - r.a
      · have p1 : 0 ≤ (r.b - r.a) * r.c := Int.mul_nonneg hs h5
        have p2 : (r.b - r.a) * r.c ≤ (r.b - r.a) * r.d := Int.mul_le_mul_of_nonneg_left (by omega) hs
        have d1 : 0 ≤ (r.b - r.a) * r.c / r.d := Int.ediv_nonneg p1 (by omega)
        have d2 : (r.b - r.a) * r.c / r.d ≤ r.b - r.a := Int.ediv_le_of_le_mul hd p2
        omega
      · have p1 : (r.b - r.a) * r.c ≤ 0 := Int.mul_nonpos_of_nonpos_of_nonneg (by omega) h5
        have p2 : (r.b - r.a) * r.d ≤ (r.b - r.a) * r.c := Int.mul_le_mul_of_nonpos_left (by omega) (by omega)
        have d1 : r.b - r.a ≤ (r.b - r.a) * r.c / r.d := Int.le_ediv_of_mul_le hd p2
        have d2 : (r.b - r.a) * r.c / r.d ≤ 0 := Int.ediv_le_of_le_mul hd (by omega)
        omega
    · omega
  · omega
theorem snt_ok (r : Rn) (h : r.ok) {l n : Int} (hl : 0 ≤ l ∧ l ≤ 9) (hn : 0 ≤ n ∧ n ≤ 5) : (snt r l n).ok := by
  have := lvl_ok r h
  unfold snt
  split
  · exact h
  · split
    · exact ⟨hl.1, hl.2, hl.1, hl.2, Int.le_refl _, .inr ⟨rfl, rfl, rfl⟩⟩
    · rename_i h2 h3
      exact ⟨this.1, this.2, hl.1, hl.2, Int.le_refl _, .inl ⟨by show (0 : Int) < n; omega, hn.2⟩⟩
theorem tck_ok (r : Rn) (h : r.ok) : (tck r).ok := by
  obtain ⟨h1, h2, h3, h4, h5, h6⟩ := h
  unfold tck
  split
  · rename_i hc
    exact ⟨h1, h2, h3, h4, by show 0 ≤ r.c + 1; omega, .inl ⟨hc, by show r.d ≤ 5; omega⟩⟩
  · exact ⟨h3, h4, h3, h4, Int.le_refl _, .inr ⟨rfl, rfl, rfl⟩⟩
/-! ### cues -/
structure Cu where
  n : Int
  mv : List (Str × Int)
  fd : Int
  fo : Option Int
  wh : Bool
def foE : Option Int → T
  | none => .non
  | some i => .int i
def Cu.e (c : Cu) : T := .tup [.int c.n, .tup (c.mv.map mkSI), .int c.fd, foE c.fo, .bl c.wh]
/-- a good name: small letters, one to eight, no bad word -/
def Nm (z : Str) : Prop := PyData.strOk z = true
structure Cu.ok (chs : List Str) (top : Int) (c : Cu) : Prop where
  n : 1 ≤ c.n ∧ c.n ≤ 999
  mv : ∀ m ∈ c.mv, m.1 ∈ chs ∧ 0 ≤ m.2 ∧ m.2 ≤ top
  up : (c.mv.map (·.1)).Pairwise fun a b => a.cps.toList < b.cps.toList
  fd : 0 ≤ c.fd ∧ c.fd ≤ 5
  fo : ∀ f, c.fo = some f → 1 ≤ f ∧ f ≤ 5
  len : c.mv.length ≤ 8
def mvFold (f : Str → Int) (mv : List (Str × Int)) : Str → Int := mv.foldl (fun f m x => if x = m.1 then m.2 else f x) f
def cuFold (f : Str → Int) (cs : List Cu) : Str → Int := cs.foldl (fun f c => mvFold f c.mv) f
/-- the level that a place means -/
def mean (cs : List Cu) (pl : Int) : Str → Int := cuFold (fun _ => 0) (cs.take (pl + 1).toNat)
def dS (chs : List Str) (f : Str → Int) : T := .dct (chs.map fun c => (Sum.inr c, T.int (f c)))
theorem lk_dS (chs : List Str) (f : Str → Int) (c : Str) (h : c ∈ chs) : lkT (chs.map fun c => ((Sum.inr c : Key), T.int (f c))) (Sum.inr c) = some (.int (f c)) := by
  unfold lkT
  induction chs with
  | nil => cases h
  | cons x xs ih =>
    rw [List.map_cons, List.find?_cons]
    by_cases e : x = c
    · subst e; simp
    · have : ¬ ((Sum.inr x : Key) = Sum.inr c) := fun z => e (Sum.inr.inj z)
      rw [decide_eq_false this]
      exact ih (by rcases List.mem_cons.mp h with z | z; exact (e z.symm).elim; exact z)
theorem put_dS (chs : List Str) (f : Str → Int) (c : Str) (l : Int) (h : c ∈ chs) : putKT (chs.map fun c => ((Sum.inr c : Key), T.int (f c))) (Sum.inr c) (.int l) = chs.map fun x => ((Sum.inr x : Key), T.int (if x = c then l else f x)) := by
  unfold putKT
  rw [if_pos (by rw [List.any_eq_true]; exact ⟨(Sum.inr c, .int (f c)), List.mem_map.mpr ⟨c, h, rfl⟩, decide_eq_true rfl⟩)]
  rw [List.map_map]
  refine List.map_congr_left fun x _ => ?_
  show (if (Sum.inr x : Key) = Sum.inr c then ((Sum.inr x : Key), T.int l) else (Sum.inr x, T.int (f x))) = _
  by_cases e : x = c
  · subst e; simp
  · have : ¬ ((Sum.inr x : Key) = Sum.inr c) := fun z => e (Sum.inr.inj z)
    rw [if_neg this, if_neg e]
theorem prs_zero (chs : List Str) : prs (chs.map fun c => T.tup [.str c, .int 0]) = some (chs.map fun c => ((Sum.inr c : Key), T.int 0)) := by
  induction chs with
  | nil => rfl
  | cons x xs ih => rw [List.map_cons, List.map_cons, prs, ih]; rfl
theorem putKT_new {kts : List (Key × T)} {k : Key} {t : T} (h : ∀ kt ∈ kts, kt.1 ≠ k) : putKT kts k t = kts ++ [(k, t)] := by
  unfold putKT
  rw [if_neg]
  intro z
  obtain ⟨kt, m, e⟩ := List.any_eq_true.mp z
  exact h kt m (of_decide_eq_true e)
theorem mergeKT_nodup : ∀ (more acc : List (Key × T)), ((acc ++ more).map (·.1)).Nodup → mergeKT acc more = acc ++ more
  | [], acc, _ => by simp [mergeKT]
  | kt :: more, acc, h => by
    unfold mergeKT
    rw [List.foldl_cons]
    have h2 : ∀ x ∈ acc, x.1 ≠ kt.1 := by
      intro x hx e
      rw [List.map_append, List.nodup_append] at h
      exact h.2.2 x.1 (List.mem_map.mpr ⟨x, hx, rfl⟩) kt.1 (by simp) e
    rw [putKT_new h2]
    have := mergeKT_nodup more (acc ++ [(kt.1, kt.2)]) (by simpa using h)
    unfold mergeKT at this
    rw [this]
    simp
theorem dict_zero (chs : List Str) (h : chs.Nodup) : oDictP [.lst (chs.map fun c => T.tup [.str c, .int 0])] = some (dS chs fun _ => 0) := by
  unfold oDictP
  dsimp only
  rw [prs_zero]
  dsimp only
  rw [mergeKT_nodup _ _ (by
    rw [List.nil_append, List.map_map]
    exact List.Pairwise.map _ (fun a b e z => e (Sum.inr.inj z)) h)]
  rfl
end Go
/-! MC -/
set_option autoImplicit false
set_option maxRecDepth 100000
set_option linter.all false
namespace PX
open PySem L2
@[simp] theorem wipeR_nil (ρ : Rho) : wipeR ρ [] = ρ := rfl
@[simp] theorem wipeR_cons (ρ : Rho) (v : Nat) (vs : List Nat) : wipeR ρ (v :: vs) = (wipeR ρ vs).set v Sl.no := rfl
theorem lcl_fn {α : Type} {vs : List Nat} {g : T → Rho → Option Rho} {ft : Rho → Option (Bool × Rho)} {fe : Rho → Option (T × Rho)} {ρ : Rho} (E F : α → T) (xs : List α) (h : ∀ x ∈ xs, ((g (E x) ρ).bind fun ρ1 => (ft ρ1).bind fun p => if p.1 = true then (fe p.2).bind fun q => some (q.1, wipeR q.2 vs) else none) = some (F x, ρ)) (hl : xs.length ≤ 1000) :
    lcl vs g ft fe (xs.map E) [] ρ = some (xs.map F, ρ) := by
  suffices ∀ (ys : List α) (acc : List T), (∀ x ∈ ys, x ∈ xs) → acc.length + ys.length ≤ 1000 → lcl vs g ft fe (ys.map E) acc ρ = some (acc ++ ys.map F, ρ) by
    simpa using this xs [] (fun _ h => h) (by simpa using hl)
  intro ys
  induction ys with
  | nil => intro acc _ _; simp [lcl]
  | cons y ys ih =>
    intro acc hm hl
    have h1 := h y (hm y List.mem_cons_self)
    rw [List.length_cons] at hl
    rw [List.map_cons]
    unfold lcl
    cases e1 : g (E y) ρ with
    | none => rw [e1] at h1; cases h1
    | some ρ1 =>
      rw [e1, Option.bind_some] at h1
      dsimp only
      cases e2 : ft ρ1 with
      | none => rw [e2] at h1; cases h1
      | some p =>
        obtain ⟨b, ρ2⟩ := p
        rw [e2, Option.bind_some] at h1
        cases b with
        | false => cases h1
        | true =>
          dsimp only at h1 ⊢
          rw [if_pos rfl] at h1
          cases e3 : fe ρ2 with
          | none => rw [e3] at h1; cases h1
          | some q =>
            obtain ⟨u, ρ3⟩ := q
            rw [e3] at h1
            have h2 := Option.some.inj h1
            have h3 : u = F y := congrArg (·.1) h2
            have h4 : wipeR ρ3 vs = ρ := congrArg (·.2) h2
            subst h3
            dsimp only
            rw [if_pos (by omega), h4, ih (acc ++ [F y]) (fun u m => hm u (List.mem_cons_of_mem _ m)) (by rw [List.length_append, List.length_singleton]; omega)]
            simp
theorem lcl_fil {α : Type} {vs : List Nat} {g : T → Rho → Option Rho} {ft : Rho → Option (Bool × Rho)} {fe : Rho → Option (T × Rho)} {ρ : Rho} (E F : α → T) (c : α → Bool) (xs : List α) (h : ∀ x ∈ xs, ((g (E x) ρ).bind fun ρ1 => (ft ρ1).bind fun p => if p.1 = true then (fe p.2).bind fun q => some (some q.1, wipeR q.2 vs) else some (none, wipeR p.2 vs)) = some (if c x = true then some (F x) else none, ρ)) (hl : xs.length ≤ 1000) :
    lcl vs g ft fe (xs.map E) [] ρ = some ((xs.filter c).map F, ρ) := by
  suffices ∀ (ys : List α) (acc : List T), (∀ x ∈ ys, x ∈ xs) → acc.length + ys.length ≤ 1000 → lcl vs g ft fe (ys.map E) acc ρ = some (acc ++ (ys.filter c).map F, ρ) by
    simpa using this xs [] (fun _ h => h) (by simpa using hl)
  intro ys
  induction ys with
  | nil => intro acc _ _; simp [lcl]
  | cons y ys ih =>
    intro acc hm hl
    have h1 := h y (hm y List.mem_cons_self)
    rw [List.length_cons] at hl
    rw [List.map_cons]
    unfold lcl
    cases e1 : g (E y) ρ with
    | none => rw [e1] at h1; cases h1
    | some ρ1 =>
      rw [e1, Option.bind_some] at h1
      dsimp only
      cases e2 : ft ρ1 with
      | none => rw [e2] at h1; cases h1
      | some p =>
        obtain ⟨b, ρ2⟩ := p
        rw [e2, Option.bind_some] at h1
        cases b with
        | false =>
          dsimp only at h1 ⊢
          have h2 := Option.some.inj h1
          have h3 : none = (if c y = true then some (F y) else none) := congrArg (·.1) h2
          have h4 : wipeR ρ2 vs = ρ := congrArg (·.2) h2
          have hc : c y = false := by
            cases z : c y with
            | false => rfl
            | true => rw [z] at h3; cases h3
          rw [h4, ih acc (fun u m => hm u (List.mem_cons_of_mem _ m)) (by omega), List.filter_cons_of_neg (by rw [hc]; decide)]
        | true =>
          dsimp only at h1 ⊢
          rw [if_pos rfl] at h1
          cases e3 : fe ρ2 with
          | none => rw [e3] at h1; cases h1
          | some q =>
            obtain ⟨u, ρ3⟩ := q
            rw [e3] at h1
            have h2 := Option.some.inj h1
            have h3 : some u = (if c y = true then some (F y) else none) := congrArg (·.1) h2
            have h4 : wipeR ρ3 vs = ρ := congrArg (·.2) h2
            have hc : c y = true := by
              cases z : c y with
              | true => rfl
              | false => rw [z] at h3; cases h3
            rw [hc, if_pos rfl] at h3
            cases h3
            dsimp only
            rw [if_pos (by omega), h4, ih (acc ++ [F y]) (fun u m => hm u (List.mem_cons_of_mem _ m)) (by rw [List.length_append, List.length_singleton]; omega), List.filter_cons_of_pos hc]
            simp
/-- a loop by a fold -/
theorem loop_fold {α S : Type} {g : T → Rho → Option Rho} {f : Blk} (E : α → T) (R : S → Rho → Prop) (step : S → α → S) : ∀ (xs : List α) (s : S) (ρ : Rho), R s ρ →
    (∀ (s : S) (x : α) (ρ : Rho), x ∈ xs → R s ρ → ∃ ρ2, (g (E x) ρ).bind f = some (.nx ρ2) ∧ R (step s x) ρ2) → ∃ ρ', loop g f (xs.map E) ρ = some (.nx ρ') ∧ R (xs.foldl step s) ρ'
  | [], s, ρ, h0, _ => ⟨ρ, rfl, h0⟩
  | x :: xs, s, ρ, h0, hs => by
    obtain ⟨ρ2, h1, h3⟩ := hs s x ρ List.mem_cons_self h0
    obtain ⟨ρ', h4, h5⟩ := loop_fold E R step xs (step s x) ρ2 h3 fun s y ρ m => hs s y ρ (List.mem_cons_of_mem _ m)
    refine ⟨ρ', ?_, h5⟩
    rw [List.map_cons]
    unfold loop
    cases e : g (E x) ρ with
    | none => rw [e] at h1; cases h1
    | some ρ1 =>
      rw [e, Option.bind_some] at h1
      dsimp only
      rw [h1]
      exact h4
/-- .. by an invariant that knows the place -/
theorem loop_ix {α : Type} {g : T → Rho → Option Rho} {f : Blk} (E : α → T) (R : List α → Rho → Prop) (all : List α) : ∀ (pre xs : List α) (ρ : Rho), all = pre ++ xs → R pre ρ →
    (∀ (pre : List α) (x : α) (post : List α) (ρ : Rho), all = pre ++ x :: post → R pre ρ → ∃ ρ2, (g (E x) ρ).bind f = some (.nx ρ2) ∧ R (pre ++ [x]) ρ2) → ∃ ρ', loop g f (xs.map E) ρ = some (.nx ρ') ∧ R all ρ'
  | pre, [], ρ, ha, h0, _ => ⟨ρ, rfl, by rw [ha, List.append_nil]; exact h0⟩
  | pre, x :: xs, ρ, ha, h0, hs => by
    obtain ⟨ρ2, h1, h3⟩ := hs pre x xs ρ ha h0
    obtain ⟨ρ', h4, h5⟩ := loop_ix E R all (pre ++ [x]) xs ρ2 (by rw [ha]; simp) h3 hs
    refine ⟨ρ', ?_, h5⟩
    rw [List.map_cons]
    unfold loop
    cases e : g (E x) ρ with
    | none => rw [e] at h1; cases h1
    | some ρ1 =>
      rw [e, Option.bind_some] at h1
      dsimp only
      rw [h1]
      exact h4
theorem cut_to {xs : List T} {i : Int} (h : 0 ≤ i) : cutT xs none (some i) = xs.take i.toNat := by
  have e : i = ((i.toNat : Nat) : Int) := by omega
  unfold cutT
  rw [HT.sIx_none, List.drop_zero, e, HT.sIx_nat, Nat.sub_zero, Int.toNat_natCast]
  rcases Nat.le_total i.toNat xs.length with z | z
  · rw [Nat.min_eq_left z]
  · rw [Nat.min_eq_right z, List.take_length, List.take_of_length_le z]
theorem flats_str (l : List Str) : flats (l.map T.str) = some (l.map V.str) := by
  induction l with
  | nil => rfl
  | cons x xs ih => rw [List.map_cons, flats, ih]; rfl
theorem flats_int (l : List Int) : flats (l.map T.int) = some (l.map V.int) := by
  induction l with
  | nil => rfl
  | cons x xs ih => rw [List.map_cons, flats, ih]; rfl
theorem inV_str (c : Str) (l : List Str) : inV (.str c) (l.map V.str) = decide (c ∈ l) := by
  unfold inV
  rw [List.any_map]
  apply Bool.eq_iff_iff.mpr
  rw [List.any_eq_true, decide_eq_true_iff]
  constructor
  · rintro ⟨y, hy, e⟩
    have : y = c := eq_of_beq e
    rw [← this]; exact hy
  · intro h; exact ⟨c, h, beq_self_eq_true c⟩
theorem inV_int (c : Int) (l : List Int) : inV (.int c) (l.map V.int) = decide (c ∈ l) := by
  unfold inV
  rw [List.any_map]
  apply Bool.eq_iff_iff.mpr
  rw [List.any_eq_true, decide_eq_true_iff]
  constructor
  · rintro ⟨y, hy, e⟩
    have : y = c := eq_of_beq e
    rw [← this]; exact hy
  · intro h; exact ⟨c, h, beq_self_eq_true c⟩
@[simp] theorem oInG_st (neg : Bool) (c : Str) (l : List Str) : oInG neg (.str c) (.tup (l.map T.str)) = some (.bl (if neg then !decide (c ∈ l) else decide (c ∈ l))) := by
  unfold oInG
  dsimp only
  unfold oIn
  simp only [flat, flats_str, inV_str]
@[simp] theorem oInG_sl (neg : Bool) (c : Str) (l : List Str) : oInG neg (.str c) (.lst (l.map T.str)) = some (.bl (if neg then !decide (c ∈ l) else decide (c ∈ l))) := by
  unfold oInG
  dsimp only
  unfold oIn
  simp only [flat, flats_str, inV_str]
@[simp] theorem oInG_il (neg : Bool) (c : Int) (l : List Int) : oInG neg (.int c) (.lst (l.map T.int)) = some (.bl (if neg then !decide (c ∈ l) else decide (c ∈ l))) := by
  unfold oInG
  dsimp only
  unfold oIn
  simp only [flat, flats_int, inV_int]
end PX
namespace Go
open PySem L2 PX
def rigE (chs : List Str) (top : Int) : T := .tup [.tup (chs.map T.str), .int top]
theorem mvFold_cons (f : Str → Int) (m : Str × Int) (r : List (Str × Int)) : mvFold f (m :: r) = mvFold (fun x => if x = m.1 then m.2 else f x) r := rfl
theorem law_meaning (chs : List Str) (top : Int) (cs : List Cu) (pl : Int) (hn : chs.Nodup) (hl : chs.length ≤ 8) (hc : ∀ c ∈ cs, c.ok chs top) (hp : -1 ≤ pl) :
    P__law_meaning [rigE chs top, .tup (cs.map Cu.e), .int pl] = some (.lst (chs.map fun c => .int (mean cs pl c))) := by
  have q1 : oSl (.tup (cs.map Cu.e)) none (some (pl + 1)) = some (.tup ((cs.take (pl + 1).toNat).map Cu.e)) := by
    show some (T.tup (cutT (cs.map Cu.e) none (some (pl + 1)))) = _
    rw [cut_to (by omega), List.map_take]
  unfold P__law_meaning B__law_meaning
  simp [rigE]
  rw [lcl_fn T.str (fun c => T.tup [.str c, .int 0]) chs (fun x hx => by simp [wipeR]) (by omega)]
  simp [dict_zero chs hn, q1, -List.map_take]
  obtain ⟨ρ', h1, ⟨j4, j5, j6, j7, j8, j9, j10, rfl⟩⟩ := loop_fold (g := gt 5 (gcons (gn 4) (gcons (gn 5) (gcons (gn 6) (gcons (gn 7) (gcons (gn 8) (gnil)))))))
    (f := bfor (i1 (v 5) anyOf) (gt 2 (gcons (gn 9) (gcons (gn 10) (gnil)))) (bsub 3 (v 9) (v 10))) Cu.e
    (fun f ρ => ∃ j4 j5 j6 j7 j8 j9 j10, ρ = [.im (rigE chs top), .im (.tup (cs.map Cu.e)), .im (.int pl), .cl true (dS chs f), j4, j5, j6, j7, j8, j9, j10])
    (fun f c => mvFold f c.mv) (cs.take (pl + 1).toNat) (fun _ => 0) _ ⟨.no, .no, .no, .no, .no, .no, .no, rfl⟩ (by
      rintro f c ρ hm ⟨j4, j5, j6, j7, j8, j9, j10, rfl⟩
      have ok := hc c (List.mem_of_mem_take hm)
      obtain ⟨ρ', h1, ⟨j9, j10, rfl⟩⟩ := loop_fold (g := gt 2 (gcons (gn 9) (gcons (gn 10) (gnil)))) (f := bsub 3 (v 9) (v 10)) mkSI
        (fun f ρ => ∃ j9 j10, ρ = [.im (rigE chs top), .im (.tup (cs.map Cu.e)), .im (.int pl), .cl true (dS chs f), .im (.int c.n), .im (.tup (c.mv.map mkSI)), .im (.int c.fd), .im (foE c.fo), .im (.bl c.wh), j9, j10])
        (fun f m x => if x = m.1 then m.2 else f x) c.mv f _ ⟨j9, j10, rfl⟩ (by
          rintro f m ρ hm ⟨j9, j10, rfl⟩
          have pd := put_dS chs f m.1 m.2 (ok.mv m hm).1
          refine ⟨[.im (rigE chs top), .im (.tup (cs.map Cu.e)), .im (.int pl), .cl true (dS chs fun x => if x = m.1 then m.2 else f x), .im (.int c.n), .im (.tup (c.mv.map mkSI)), .im (.int c.fd), .im (foE c.fo), .im (.bl c.wh), .im (.str m.1), .im (.int m.2)], ?_, ⟨_, _, rfl⟩⟩
          simp [mkSI, dS, setC, keyT, pd, show chs.length < 1000 by omega])
      refine ⟨[.im (rigE chs top), .im (.tup (cs.map Cu.e)), .im (.int pl), .cl true (dS chs (mvFold f c.mv)), .im (.int c.n), .im (.tup (c.mv.map mkSI)), .im (.int c.fd), .im (foE c.fo), .im (.bl c.wh), j9, j10], ?_, ⟨_, _, _, _, _, _, _, rfl⟩⟩
      simp [Cu.e]
      exact h1)
  simp only [rigE] at h1
  rw [h1]
  simp
  rw [lcl_fn T.str (fun c => T.int (mean cs pl c)) chs (fun x hx => by
    have := lk_dS chs (mean cs pl) x hx
    simp [mean, cuFold] at this
    simp [dS, mean, cuFold, wipeR, this]) (by omega)]
  simp
end Go
/-! MW -/
set_option autoImplicit false
set_option maxRecDepth 100000
set_option linter.all false
namespace PX
open PySem L2
theorem oEq_lit {a b : Str} {r : Bool} (h1 : PyData.strOk a = true) (h2 : PyData.strOk b = true) (h3 : (a == b) = r) : oEq false (.str a) (.str b) = some (.bl r) := by rw [oEq_str h1 h2, h3]; rfl
theorem wo_go : PyData.strOk "go" = true := by decide +kernel
theorem wo_back : PyData.strOk "back" = true := by decide +kernel
theorem wo_jump : PyData.strOk "jump" = true := by decide +kernel
theorem wo_hold : PyData.strOk "hold" = true := by decide +kernel
theorem wo_free : PyData.strOk "free" = true := by decide +kernel
theorem wo_wait : PyData.strOk "wait" = true := by decide +kernel
@[simp] theorem w_go_go : oEq false (.str "go") (.str "go") = some (.bl true) := oEq_lit wo_go wo_go (by decide +kernel)
@[simp] theorem w_go_back : oEq false (.str "go") (.str "back") = some (.bl false) := oEq_lit wo_go wo_back (by decide +kernel)
@[simp] theorem w_go_jump : oEq false (.str "go") (.str "jump") = some (.bl false) := oEq_lit wo_go wo_jump (by decide +kernel)
@[simp] theorem w_go_hold : oEq false (.str "go") (.str "hold") = some (.bl false) := oEq_lit wo_go wo_hold (by decide +kernel)
@[simp] theorem w_go_free : oEq false (.str "go") (.str "free") = some (.bl false) := oEq_lit wo_go wo_free (by decide +kernel)
@[simp] theorem w_go_wait : oEq false (.str "go") (.str "wait") = some (.bl false) := oEq_lit wo_go wo_wait (by decide +kernel)
@[simp] theorem w_back_go : oEq false (.str "back") (.str "go") = some (.bl false) := oEq_lit wo_back wo_go (by decide +kernel)
@[simp] theorem w_back_back : oEq false (.str "back") (.str "back") = some (.bl true) := oEq_lit wo_back wo_back (by decide +kernel)
@[simp] theorem w_back_jump : oEq false (.str "back") (.str "jump") = some (.bl false) := oEq_lit wo_back wo_jump (by decide +kernel)
@[simp] theorem w_back_hold : oEq false (.str "back") (.str "hold") = some (.bl false) := oEq_lit wo_back wo_hold (by decide +kernel)
@[simp] theorem w_back_free : oEq false (.str "back") (.str "free") = some (.bl false) := oEq_lit wo_back wo_free (by decide +kernel)
@[simp] theorem w_back_wait : oEq false (.str "back") (.str "wait") = some (.bl false) := oEq_lit wo_back wo_wait (by decide +kernel)
@[simp] theorem w_jump_go : oEq false (.str "jump") (.str "go") = some (.bl false) := oEq_lit wo_jump wo_go (by decide +kernel)
@[simp] theorem w_jump_back : oEq false (.str "jump") (.str "back") = some (.bl false) := oEq_lit wo_jump wo_back (by decide +kernel)
@[simp] theorem w_jump_jump : oEq false (.str "jump") (.str "jump") = some (.bl true) := oEq_lit wo_jump wo_jump (by decide +kernel)
@[simp] theorem w_jump_hold : oEq false (.str "jump") (.str "hold") = some (.bl false) := oEq_lit wo_jump wo_hold (by decide +kernel)
@[simp] theorem w_jump_free : oEq false (.str "jump") (.str "free") = some (.bl false) := oEq_lit wo_jump wo_free (by decide +kernel)
@[simp] theorem w_jump_wait : oEq false (.str "jump") (.str "wait") = some (.bl false) := oEq_lit wo_jump wo_wait (by decide +kernel)
@[simp] theorem w_hold_go : oEq false (.str "hold") (.str "go") = some (.bl false) := oEq_lit wo_hold wo_go (by decide +kernel)
@[simp] theorem w_hold_back : oEq false (.str "hold") (.str "back") = some (.bl false) := oEq_lit wo_hold wo_back (by decide +kernel)
@[simp] theorem w_hold_jump : oEq false (.str "hold") (.str "jump") = some (.bl false) := oEq_lit wo_hold wo_jump (by decide +kernel)
@[simp] theorem w_hold_hold : oEq false (.str "hold") (.str "hold") = some (.bl true) := oEq_lit wo_hold wo_hold (by decide +kernel)
@[simp] theorem w_hold_free : oEq false (.str "hold") (.str "free") = some (.bl false) := oEq_lit wo_hold wo_free (by decide +kernel)
@[simp] theorem w_hold_wait : oEq false (.str "hold") (.str "wait") = some (.bl false) := oEq_lit wo_hold wo_wait (by decide +kernel)
@[simp] theorem w_free_go : oEq false (.str "free") (.str "go") = some (.bl false) := oEq_lit wo_free wo_go (by decide +kernel)
@[simp] theorem w_free_back : oEq false (.str "free") (.str "back") = some (.bl false) := oEq_lit wo_free wo_back (by decide +kernel)
@[simp] theorem w_free_jump : oEq false (.str "free") (.str "jump") = some (.bl false) := oEq_lit wo_free wo_jump (by decide +kernel)
@[simp] theorem w_free_hold : oEq false (.str "free") (.str "hold") = some (.bl false) := oEq_lit wo_free wo_hold (by decide +kernel)
@[simp] theorem w_free_free : oEq false (.str "free") (.str "free") = some (.bl true) := oEq_lit wo_free wo_free (by decide +kernel)
@[simp] theorem w_free_wait : oEq false (.str "free") (.str "wait") = some (.bl false) := oEq_lit wo_free wo_wait (by decide +kernel)
@[simp] theorem w_wait_go : oEq false (.str "wait") (.str "go") = some (.bl false) := oEq_lit wo_wait wo_go (by decide +kernel)
@[simp] theorem w_wait_back : oEq false (.str "wait") (.str "back") = some (.bl false) := oEq_lit wo_wait wo_back (by decide +kernel)
@[simp] theorem w_wait_jump : oEq false (.str "wait") (.str "jump") = some (.bl false) := oEq_lit wo_wait wo_jump (by decide +kernel)
@[simp] theorem w_wait_hold : oEq false (.str "wait") (.str "hold") = some (.bl false) := oEq_lit wo_wait wo_hold (by decide +kernel)
@[simp] theorem w_wait_free : oEq false (.str "wait") (.str "free") = some (.bl false) := oEq_lit wo_wait wo_free (by decide +kernel)
@[simp] theorem w_wait_wait : oEq false (.str "wait") (.str "wait") = some (.bl true) := oEq_lit wo_wait wo_wait (by decide +kernel)
@[simp] theorem wi_go : oInG false (.str "go") (.tup [.str "hold", .str "free"]) = some (.bl false) := by have h := oInG_st false "go" ["hold", "free"]; rw [show decide (("go" : Str) ∈ (["hold", "free"] : List Str)) = false by decide +kernel] at h; exact h
@[simp] theorem wi_back : oInG false (.str "back") (.tup [.str "hold", .str "free"]) = some (.bl false) := by have h := oInG_st false "back" ["hold", "free"]; rw [show decide (("back" : Str) ∈ (["hold", "free"] : List Str)) = false by decide +kernel] at h; exact h
@[simp] theorem wi_jump : oInG false (.str "jump") (.tup [.str "hold", .str "free"]) = some (.bl false) := by have h := oInG_st false "jump" ["hold", "free"]; rw [show decide (("jump" : Str) ∈ (["hold", "free"] : List Str)) = false by decide +kernel] at h; exact h
@[simp] theorem wi_hold : oInG false (.str "hold") (.tup [.str "hold", .str "free"]) = some (.bl true) := by have h := oInG_st false "hold" ["hold", "free"]; rw [show decide (("hold" : Str) ∈ (["hold", "free"] : List Str)) = true by decide +kernel] at h; exact h
@[simp] theorem wi_free : oInG false (.str "free") (.tup [.str "hold", .str "free"]) = some (.bl true) := by have h := oInG_st false "free" ["hold", "free"]; rw [show decide (("free" : Str) ∈ (["hold", "free"] : List Str)) = true by decide +kernel] at h; exact h
@[simp] theorem wi_wait : oInG false (.str "wait") (.tup [.str "hold", .str "free"]) = some (.bl false) := by have h := oInG_st false "wait" ["hold", "free"]; rw [show decide (("wait" : Str) ∈ (["hold", "free"] : List Str)) = false by decide +kernel] at h; exact h
end PX
/-! MD -/
set_option autoImplicit false
set_option maxRecDepth 100000
set_option linter.all false
namespace PX
open PySem L2
theorem oMulG_rep (x : T) (n : Nat) (h1 : 1 ≤ n) (h2 : n ≤ 1000) : oMulG (.tup [x]) (.int (n : Int)) = some (.tup (List.replicate n x)) := by
  unfold oMulG
  dsimp only
  by_cases h : n = 1
  · subst h; rfl
  · rw [if_neg (by omega)]
    unfold oRepT
    dsimp only
    rw [if_pos ⟨by simp, by omega, by omega, by simp⟩]
    congr 2
    have : ((n : Int)).toNat = n := by omega
    rw [this]
    clear this h h1 h2
    induction n with
    | zero => rfl
    | succ n ih => rw [List.replicate_succ, List.flatten_cons, ih]; rfl
theorem setC_lst (ts : List T) (n : Nat) (v : T) (h : n < ts.length) : setC (.lst ts) (.int (n : Int)) v = some (.lst (ts.set n v)) := by
  unfold setC ixN
  dsimp only
  rw [if_pos (by omega), if_pos (by omega)]
  rfl
@[simp] theorem mrg_nil : mrg [] [] = some [] := by rw [mrg]
@[simp] theorem mrg_im_ (t : T) (r : Rho) (s : Sl) (r' : Rho) : mrg (.im t :: r) (s :: r') = (mrg r r').map (.im t :: ·) := by rw [mrg]
@[simp] theorem mrg_no_ (r : Rho) (s : Sl) (r' : Rho) : mrg (.no :: r) (s :: r') = (mrg r r').map (.no :: ·) := by rw [mrg]
@[simp] theorem flatS_int (i : Int) : flatS (.int i) = true := rfl
@[simp] theorem flatS_bl (i : Bool) : flatS (.bl i) = true := rfl
end PX
namespace Go
open PySem L2 PX
structure Sg where
  rs : List Rn
  pl : Int
  du : Int
  hd : List (Str × Int)
def Sg.e (s : Sg) : T := .tup [.tup (s.rs.map Rn.e), .int s.pl, .int s.du, .tup (s.hd.map mkSI)]
structure Sg.ok (chs : List Str) (top : Int) (cs : List Cu) (s : Sg) : Prop where
  len : s.rs.length = chs.length
  rs : ∀ r ∈ s.rs, r.ok
  pl : -1 ≤ s.pl ∧ s.pl < cs.length
  du : s.du = -1 ∨ (1 ≤ s.du ∧ s.du ≤ 5 ∧ s.pl + 1 < cs.length)
  hd : ∀ m ∈ s.hd, m.1 ∈ chs ∧ 0 ≤ m.2 ∧ m.2 ≤ top
  up : (s.hd.map (·.1)).Pairwise fun a b => a.cps.toList < b.cps.toList
/-- a good rig -/
structure RigOk (chs : List Str) (top : Int) : Prop where
  l1 : 1 ≤ chs.length
  l2 : chs.length ≤ 8
  up : chs.Pairwise fun a b => a.cps.toList < b.cps.toList
  nm : ∀ c ∈ chs, PyData.strOk c = true
  t1 : 1 ≤ top
  t2 : top ≤ 9
theorem RigOk.nd {chs : List Str} {top : Int} (h : RigOk chs top) : chs.Nodup := h.up.imp fun {a b} h e => by
  subst e; exact absurd h (List.lt_irrefl _)
def brt (chs : List Str) (rs : List Rn) (lv : Str → Int) (n : Int) (S : Str → Bool) : List Rn := (chs.zip rs).map fun p => if S p.1 = true then snt p.2 (lv p.1) n else p.2
theorem brt_len {chs : List Str} {rs : List Rn} {lv : Str → Int} {n : Int} {S : Str → Bool} (h : rs.length = chs.length) : (brt chs rs lv n S).length = chs.length := by
  unfold brt
  rw [List.length_map, List.length_zip, h, Nat.min_self]
theorem brt_get {chs : List Str} {rs : List Rn} {lv : Str → Int} {n : Int} {S : Str → Bool} {i : Nat} {c : Str} {r : Rn} (h1 : chs[i]? = some c) (h2 : rs[i]? = some r) : (brt chs rs lv n S)[i]? = some (if S c = true then snt r (lv c) n else r) := by
  unfold brt
  rw [List.getElem?_map, show (chs.zip rs)[i]? = some (c, r) from List.getElem?_zip_eq_some.mpr ⟨h1, h2⟩]
  rfl
theorem law_brought (chs : List Str) (top : Int) (cs : List Cu) (s : Sg) (pl n : Int) (ch : T) (S : Str → Bool) (hr : RigOk chs top) (hc : ∀ c ∈ cs, c.ok chs top) (hs : s.rs.length = chs.length) (hrs : ∀ r ∈ s.rs, r.ok) (hp : -1 ≤ pl)
    (hS : ∀ c ∈ chs, oInG false (.str c) ch = some (.bl (S c))) :
    P__law_brought [rigE chs top, .tup (cs.map Cu.e), s.e, .int pl, .int n, ch] = some (.tup ((brt chs s.rs (mean cs pl) n S).map Rn.e)) := by
  have hm := law_meaning chs top cs pl hr.nd hr.l2 hc hp
  have l2 := hr.l2
  simp only [rigE] at hm
  unfold P__law_brought B__law_brought
  simp [rigE, Sg.e, hm]
  rw [rng1_nat s.rs.length (by omega)]
  simp
  obtain ⟨ρ', h1, ⟨rs', j8, rfl, e1, e2⟩⟩ := loop_ix (g := gn 8)
    (f := biff (tb (s2 (s2 (s2 (v 0) (c (.int 0)) oIt) (v 8) oIt) (v 5) (oInG false))) (bsub 7 (v 8) (sA (acons (ixG 7 (v 8)) (acons (s2 (v 6) (v 8) oIt) (acons (v 4) (anil)))) P__law_sent)) (bnil)) (fun (i : Nat) => T.int (i : Int))
    (fun pre ρ => ∃ rs' j8, ρ = [.im (rigE chs top), .im (.tup (cs.map Cu.e)), .im s.e, .im (.int pl), .im (.int n), .im ch, .im (.lst (chs.map fun c => .int (mean cs pl c))), .cl true (.lst (rs'.map Rn.e)), j8] ∧ rs'.length = chs.length ∧
      ∀ j, rs'[j]? = if j < pre.length then (brt chs s.rs (mean cs pl) n S)[j]? else s.rs[j]?)
    (List.range s.rs.length) [] (List.range s.rs.length) _ rfl ⟨s.rs, .no, rfl, hs, fun j => by simp⟩ (by
      rintro pre x post ρ ha ⟨rs', j8, rfl, e1, e2⟩
      have hx : pre.length = x := by
        have h := congrArg (fun l => l[pre.length]?) ha
        simp at h
        have h2 := List.getElem?_eq_some_iff.mp h
        obtain ⟨h3, h4⟩ := h2
        simpa using h4
      have hlt : x < s.rs.length := by
        have h := congrArg List.length ha
        simp at h
        omega
      obtain ⟨cc, hcc⟩ : ∃ cc, chs[x]? = some cc := ⟨_, List.getElem?_eq_getElem (by omega)⟩
      obtain ⟨r, hrr⟩ : ∃ r, s.rs[x]? = some r := ⟨_, List.getElem?_eq_getElem hlt⟩
      have hr' : rs'[x]? = some r := by rw [e2 x, if_neg (by omega)]; exact hrr
      have hb := brt_get (lv := mean cs pl) (n := n) (S := S) hcc hrr
      have hSc := hS cc (List.mem_of_getElem? hcc)
      have hse := law_sent r (hrs r (List.mem_of_getElem? hrr)) (mean cs pl cc) n
      cases hz : S cc with
      | true =>
        refine ⟨[.im (rigE chs top), .im (.tup (cs.map Cu.e)), .im s.e, .im (.int pl), .im (.int n), .im ch, .im (.lst (chs.map fun c => .int (mean cs pl c))), .cl true (.lst ((rs'.set x (snt r (mean cs pl cc) n)).map Rn.e)), .im (.int (x : Int))], ?_, _, _, rfl, by rw [List.length_set]; exact e1, fun j => ?_⟩
        · simp [rigE, hcc, hSc, hz, hr', hse]
          rw [setC_lst _ _ _ (by rw [List.length_map]; omega), ← List.map_set]
          simp
        · rw [List.length_append, List.length_singleton, List.getElem?_set]
          by_cases hj : j = x
          · subst hj
            rw [if_pos rfl, if_pos (by omega), if_pos (by omega), hb, hz, if_pos rfl]
          · rw [if_neg (Ne.symm hj), e2 j]
            by_cases hjl : j < pre.length
            · rw [if_pos hjl, if_pos (by omega)]
            · rw [if_neg hjl, if_neg (by omega)]
      | false =>
        refine ⟨[.im (rigE chs top), .im (.tup (cs.map Cu.e)), .im s.e, .im (.int pl), .im (.int n), .im ch, .im (.lst (chs.map fun c => .int (mean cs pl c))), .cl true (.lst (rs'.map Rn.e)), .im (.int (x : Int))], ?_, _, _, rfl, e1, fun j => ?_⟩
        · simp [rigE, hcc, hSc, hz]
        · rw [e2 j, List.length_append, List.length_singleton]
          by_cases hj : j = x
          · subst hj
            rw [if_neg (by omega), if_pos (by omega), hb, hz, hrr]; rfl
          · by_cases hjl : j < pre.length
            · rw [if_pos hjl, if_pos (by omega)]
            · rw [if_neg hjl, if_neg (by omega)])
  simp only [rigE, Sg.e] at h1
  rw [h1]
  have e3 : rs' = brt chs s.rs (mean cs pl) n S := by
    refine List.ext_getElem? fun j => ?_
    rw [e2 j, List.length_range]
    by_cases hj : j < s.rs.length
    · rw [if_pos hj]
    · rw [if_neg hj, List.getElem?_eq_none (by omega), List.getElem?_eq_none (by rw [brt_len hs]; omega)]
  rw [e3]
  simp
end Go
/-! ME -/
set_option autoImplicit false
set_option maxRecDepth 100000
set_option linter.all false
namespace PX
open PySem L2
theorem cut_from {xs : List T} {i : Int} (h : 0 ≤ i) : cutT xs (some i) none = xs.drop i.toNat := by
  have e : i = ((i.toNat : Nat) : Int) := by omega
  unfold cutT
  rw [HT.sIx_none, e, HT.sIx_nat, Int.toNat_natCast]
  rcases Nat.le_total i.toNat xs.length with z | z
  · rw [Nat.min_eq_left z, List.take_of_length_le (by rw [List.length_drop]; omega)]
  · rw [Nat.min_eq_right z, List.drop_of_length_le (Nat.le_refl _), List.drop_of_length_le z]; simp
theorem prSI_map : ∀ l : List (Str × Int), prSI (l.map mkSI) = some l
  | [] => rfl
  | (x, i) :: r => by
    rw [List.map_cons]
    show (prSI (r.map mkSI)).map _ = _
    rw [prSI_map r]; rfl
theorem oSortA_SI (l : List (Str × Int)) : oSortA [.lst (l.map mkSI)] = some (.lst ((srtP l).map mkSI)) := by
  cases l with
  | nil =>
    show oSort [.lst []] = _
    simp [oSort, strL, srtS, srtP]
  | cons p r =>
    show oSortP [.lst ((p :: r).map mkSI)] = _
    unfold oSortP
    dsimp only
    rw [prSI_map]
theorem oIndex_int (l : List Int) (x : Int) (n : Nat) (h : l.idxOf? x = some n) : oIndex (.lst (l.map T.int)) [.int x] = some (.int n) := by
  unfold oIndex
  simp only [flat, flats_int]
  suffices ∀ (l : List Int) (k n : Nat), l.idxOf? x = some n → idxV (.int x) (l.map V.int) k = some (k + n) by
    rw [this l 0 n h]; simp
  intro l
  induction l with
  | nil => intro k n h; cases h
  | cons y ys ih =>
    intro k n h
    rw [List.map_cons, idxV]
    rw [List.idxOf?_cons] at h
    by_cases e : y = x
    · subst e
      rw [if_pos (by show (y == y) = true; simp)]
      simp at h
      subst h; rfl
    · rw [if_neg (by show ¬ (y == x) = true; simpa using e)]
      rw [if_neg (by simpa using e)] at h
      cases hq : ys.idxOf? x with
      | none => rw [hq] at h; cases h
      | some m =>
        rw [hq] at h
        have : n = m + 1 := (Option.some.inj h).symm
        rw [ih (k + 1) m hq, this]
        congr 1
        omega
end PX
namespace Go
open PySem L2 PX
theorem law_first (chs : List Str) (top : Int) (h1 : 1 ≤ chs.length) (h2 : chs.length ≤ 8) : P__law_first [rigE chs top] = some (Sg.e ⟨List.replicate chs.length ⟨0, 0, 0, 0⟩, -1, -1, []⟩) := by
  have := oMulG_rep (.tup [.int 0, .int 0, .int 0, .int 0]) chs.length h1 (by omega)
  unfold P__law_first B__law_first
  simp [rigE, Sg.e, this, Rn.e]
/-- in how many ticks the next cue comes -/
def dueO (cs : List Cu) (pl : Nat) : Int := match cs[pl]? with
  | some c => (match c.fo with
    | some f => if pl + 1 < cs.length then f else -1
    | none => -1)
  | none => -1
theorem law_due (cs : List Cu) (pl : Nat) (h : pl < cs.length) : P__law_due [.tup (cs.map Cu.e), .int pl] = some (.int (dueO cs pl)) := by
  obtain ⟨c, hc⟩ : ∃ c, cs[pl]? = some c := ⟨_, List.getElem?_eq_getElem h⟩
  unfold P__law_due B__law_due dueO
  rw [hc]
  cases hf : c.fo with
  | none => simp [hc, Cu.e, hf, foE]
  | some f =>
    by_cases hl : pl + 1 < cs.length
    · simp [hc, Cu.e, hf, foE, hl, show (pl : Int) + 1 < cs.length by omega]
    · simp [hc, Cu.e, hf, foE, hl, show ¬ (pl : Int) + 1 < cs.length by omega]
/-- whom the start of a cue sends -/
def sends (c : Cu) (x : Str) : Bool := c.wh || decide (x ∈ c.mv.map (·.1))
def startS (chs : List Str) (cs : List Cu) (s : Sg) (pl : Nat) (c : Cu) : Sg := ⟨brt chs s.rs (mean cs pl) c.fd (sends c), pl, dueO cs pl, s.hd⟩
theorem law_started (chs : List Str) (top : Int) (cs : List Cu) (s : Sg) (pl : Nat) (c : Cu) (hr : RigOk chs top) (hc : ∀ c ∈ cs, c.ok chs top) (hs : s.rs.length = chs.length) (hrs : ∀ r ∈ s.rs, r.ok) (hp : cs[pl]? = some c) :
    P__law_started [rigE chs top, .tup (cs.map Cu.e), s.e, .int pl] = some (startS chs cs s pl c).e := by
  have hlt : pl < cs.length := (List.getElem?_eq_some_iff.mp hp).1
  have hd := law_due cs pl hlt
  have ok := hc c (List.mem_of_getElem? hp)
  unfold P__law_started B__law_started
  cases hw : c.wh with
  | true =>
    have hb := law_brought chs top cs s pl c.fd (.tup (chs.map T.str)) (fun _ => true) hr hc hs hrs (by omega) (fun x hx => by rw [oInG_st]; simp [hx])
    have hS : sends c = fun _ => true := by funext x; unfold sends; rw [hw]; rfl
    simp only [rigE, Sg.e] at hb
    simp [rigE, Sg.e, hp, Cu.e, hw, hb, hd, startS, hS]
  | false =>
    have hb := law_brought chs top cs s pl c.fd (.lst ((c.mv.map (·.1)).map T.str)) (sends c) hr hc hs hrs (by omega) (fun x hx => by rw [oInG_sl]; simp [sends, hw])
    simp only [rigE, Sg.e] at hb
    simp [rigE, Sg.e, hp, Cu.e, hw, hd, startS]
    rw [lcl_fn mkSI (fun m => T.str m.1) c.mv (fun x hx => by simp [mkSI]) (by have := ok.len; omega)]
    rw [List.map_map] at hb
    simp only [Function.comp_def] at hb
    simp [hb, hd]
inductive Ac where
  | go | back | jump (n : Int) | wait | hold (c : Str) (l : Int) | free (c : Str)
def Ac.e : Ac → T
  | .go => .tup [.str "go"]
  | .back => .tup [.str "back"]
  | .jump n => .tup [.str "jump", .int n]
  | .wait => .tup [.str "wait"]
  | .hold c l => .tup [.str "hold", .str c, .int l]
  | .free c => .tup [.str "free", .str c]
def Ac.ok (chs : List Str) (top : Int) : Ac → Prop
  | .jump n => 1 ≤ n ∧ n ≤ 999
  | .hold c l => c ∈ chs ∧ 0 ≤ l ∧ l ≤ top
  | .free c => c ∈ chs
  | _ => True
def numAt (cs : List Cu) (n : Int) : Option Nat := (cs.map (·.n)).idxOf? n
def waitS (s : Sg) : Sg := ⟨s.rs.map tck, s.pl, if 0 < s.du then s.du - 1 else s.du, s.hd⟩
def step (chs : List Str) (cs : List Cu) (back : Int) (s : Sg) : Ac → Sg
  | .go => (match cs[(s.pl + 1).toNat]? with
    | some c => startS chs cs s (s.pl + 1).toNat c
    | none => s)
  | .back => if s.pl = -1 then s else ⟨brt chs s.rs (mean cs (s.pl - 1)) back (fun _ => true), s.pl - 1, -1, s.hd⟩
  | .jump n => (match numAt cs n with
    | some at_ => (match cs[at_]? with
      | some c => ⟨brt chs s.rs (mean cs at_) c.fd (fun _ => true), at_, dueO cs at_, s.hd⟩
      | none => s)
    | none => s)
  | .wait => if s.du = 1 then (match cs[(s.pl + 1).toNat]? with
      | some c => startS chs cs (waitS s) (s.pl + 1).toNat c
      | none => waitS s) else waitS s
  | .hold c l => ⟨s.rs, s.pl, s.du, srtP (s.hd.filter (fun p => p.1 != c) ++ [(c, l)])⟩
  | .free c => ⟨s.rs, s.pl, s.du, srtP (s.hd.filter (fun p => p.1 != c))⟩
theorem numAt_some {cs : List Cu} {n : Int} {i : Nat} (h : numAt cs n = some i) : ∃ c, cs[i]? = some c ∧ c.n = n := by
  unfold numAt at h
  rw [List.idxOf?_eq_some_iff] at h
  obtain ⟨h1, h2, _⟩ := h
  rw [List.length_map] at h1
  refine ⟨cs[i], List.getElem?_eq_getElem h1, ?_⟩
  simpa using h2
theorem numAt_none {cs : List Cu} {n : Int} (h : numAt cs n = none) : n ∉ cs.map (·.n) := by
  unfold numAt at h
  rwa [List.idxOf?_eq_none_iff] at h
theorem numAt_mem {cs : List Cu} {n : Int} {i : Nat} (h : numAt cs n = some i) : n ∈ cs.map (·.n) := by
  obtain ⟨c, h1, h2⟩ := numAt_some h
  exact List.mem_map.mpr ⟨c, List.mem_of_getElem? h1, h2⟩
end Go
/-! MF -/
set_option autoImplicit false
set_option maxRecDepth 100000
set_option linter.all false
namespace PX
open PySem L2
@[simp] theorem oSl_tup (ts : List T) (lo hi : Option Int) : oSl (.tup ts) lo hi = some (.tup (cutT ts lo hi)) := by unfold oSl; rfl
@[simp] theorem oSl_lst (ts : List T) (lo hi : Option Int) : oSl (.lst ts) lo hi = some (.lst (cutT ts lo hi)) := by unfold oSl; rfl
@[simp] theorem oSl_scr (ts : List Int) (lo hi : Option Int) : oSl (.scr ts) lo hi = some (.lst (cutT (ts.map T.int) lo hi)) := by unfold oSl; rfl
end PX
namespace Go
open PySem L2 PX
theorem nd_len {α : Type} [DecidableEq α] : ∀ (l m : List α), l.Nodup → (∀ x ∈ l, x ∈ m) → l.length ≤ m.length
  | [], _, _, _ => Nat.zero_le _
  | x :: l, m, h, hs => by
    have hx := hs x List.mem_cons_self
    have h2 := List.nodup_cons.mp h
    have := nd_len l (m.erase x) h2.2 fun y hy => (List.mem_erase_of_ne (fun e => h2.1 (by rw [← e]; exact hy))).mpr (hs y (List.mem_cons_of_mem _ hy))
    rw [List.length_erase_of_mem hx] at this
    have := List.length_pos_of_mem hx
    rw [List.length_cons]
    omega
theorem sg_len {chs : List Str} {top : Int} {cs : List Cu} {s : Sg} (h : s.ok chs top cs) (hr : RigOk chs top) : s.hd.length ≤ 8 := by
  have nd : (s.hd.map (·.1)).Nodup := h.up.imp fun {a b} h e => by subst e; exact absurd h (List.lt_irrefl _)
  have := nd_len _ chs nd (fun x hx => by obtain ⟨m, hm, rfl⟩ := List.mem_map.mp hx; exact (h.hd m hm).1)
  rw [List.length_map] at this
  have := hr.l2
  omega
theorem law_done (chs : List Str) (top : Int) (cs : List Cu) (back : Int) (s : Sg) (a : Ac) (hr : RigOk chs top) (hc : ∀ c ∈ cs, c.ok chs top) (hl : cs.length ≤ 20) (hs : s.ok chs top cs) (ha : a.ok chs top) :
    P__law_done [rigE chs top, .tup (cs.map Cu.e), .int back, s.e, a.e] = some (step chs cs back s a).e := by
  have l8 := sg_len hs hr
  have hnum : ∀ ρ : Rho, ρ.length = 19 → ρ[17]? = some .no → lcl [17] (gn 17) tyes (s2 (v 17) (c (.int 0)) oIt) (cs.map Cu.e) [] ρ = some (cs.map (fun c => T.int c.n), ρ) := fun ρ h1 h2 =>
    lcl_fn Cu.e (fun c => T.int c.n) cs (fun x hx => by
      have h3 : ρ.set 17 .no = ρ := by
        refine List.ext_getElem? fun j => ?_
        rw [List.getElem?_set]
        split
        · rename_i e; subst e; rw [if_pos (by omega), h2]
        · rfl
      have h4 : (ρ.set 17 (.im x.e))[17]? = some (.im x.e) := by rw [List.getElem?_set_self (by omega)]
      simp [h4]
      simp [Cu.e, List.set_set, h3]) (by omega)
  have hall : ∀ x ∈ chs, oInG false (.str x) (.tup (chs.map T.str)) = some (.bl true) := fun x hx => by rw [oInG_st]; simp [hx]
  cases a with
  | go =>
    unfold P__law_done B__law_done
    by_cases h : s.pl + 1 < cs.length
    · obtain ⟨c, hcc⟩ : ∃ c, cs[(s.pl + 1).toNat]? = some c := ⟨_, List.getElem?_eq_getElem (by have := hs.pl; omega)⟩
      have hst := law_started chs top cs s (s.pl + 1).toNat c hr hc hs.len hs.rs hcc
      rw [show (((s.pl + 1).toNat : Nat) : Int) = s.pl + 1 by have := hs.pl; omega] at hst
      simp only [rigE, Sg.e] at hst
      simp [rigE, Sg.e, Ac.e]
      rw [hnum _ rfl rfl]
      simp [h, hst, step, hcc]
    · have hcc : cs[(s.pl + 1).toNat]? = none := List.getElem?_eq_none (by have := hs.pl; omega)
      simp [rigE, Sg.e, Ac.e]
      rw [hnum _ rfl rfl]
      simp [h, step, hcc]
  | back =>
    unfold P__law_done B__law_done
    by_cases h : s.pl = -1
    · simp [rigE, Sg.e, Ac.e]
      rw [hnum _ rfl rfl]
      simp [h, step]
    · have hb := law_brought chs top cs s (s.pl - 1) back (.tup (chs.map T.str)) (fun _ => true) hr hc hs.len hs.rs (by have := hs.pl; omega) hall
      simp only [rigE, Sg.e] at hb
      simp [rigE, Sg.e, Ac.e]
      rw [hnum _ rfl rfl]
      simp [h, step, hb]
  | jump n =>
    unfold P__law_done B__law_done
    simp [rigE, Sg.e, Ac.e]
    rw [hnum _ rfl rfl]
    have hin := oInG_il true n (cs.map fun c : Cu => c.n)
    rw [List.map_map] at hin
    simp only [Function.comp_def] at hin
    cases hj : numAt cs n with
    | none =>
      have hno := numAt_none hj
      simp only [hno, decide_false] at hin
      simp [hin, step, hj]
    | some i =>
      obtain ⟨c, hcc, _⟩ := numAt_some hj
      have hlt : i < cs.length := (List.getElem?_eq_some_iff.mp hcc).1
      have hd := law_due cs i hlt
      have hb := law_brought chs top cs s i c.fd (.tup (chs.map T.str)) (fun _ => true) hr hc hs.len hs.rs (by omega) hall
      have hix := oIndex_int (cs.map fun c : Cu => c.n) n i hj
      rw [List.map_map] at hix
      simp only [Function.comp_def] at hix
      simp only [numAt_mem hj, decide_true] at hin
      simp only [rigE, Sg.e] at hb
      simp [hin, hix, hcc, Cu.e] 
      simp [step, hj, hcc, hb, hd]
  | wait =>
    unfold P__law_done B__law_done
    simp [rigE, Sg.e, Ac.e]
    rw [hnum _ rfl rfl]
    simp
    obtain ⟨ρ', h1, ⟨j13, j14, j15, j16, rfl⟩⟩ := loop_ix (g := gt 4 (gcons (gn 13) (gcons (gn 14) (gcons (gn 15) (gcons (gn 16) (gnil))))))
      (f := drop (sBC "list" 12 (acons (ifx (tb (s2 (s2 (v 15) (c (.int 1)) oAddG) (v 16) (oLtG))) (sA (acons (v 13) (acons (v 14) (acons (s2 (v 15) (c (.int 1)) oAddG) (acons (v 16) (anil))))) mkTup) (sA (acons (v 14) (acons (v 14) (acons (c (.int 0)) (acons (c (.int 0)) (anil))))) mkTup)) (anil)) oAppend)) Rn.e
      (fun (l : List Rn) ρ => ∃ j13 j14 j15 j16, ρ = [Sl.im (T.tup [T.tup (List.map T.str chs), T.int top]), Sl.im (T.tup (cs.map Cu.e)), Sl.im (T.int back), Sl.im s.e, Sl.im (Ac.e .wait), Sl.im (T.tup (s.rs.map Rn.e)), Sl.im (T.int s.pl), Sl.im (T.int s.du), Sl.im (T.tup (s.hd.map mkSI)), Sl.im (.lst (cs.map fun c => .int c.n)), .no, .no, .cl true (.lst ((l.map tck).map Rn.e)), j13, j14, j15, j16, .no, .no])
      s.rs [] s.rs _ rfl ⟨.no, .no, .no, .no, rfl⟩ (by
        rintro pre r post ρ ha ⟨j13, j14, j15, j16, rfl⟩
        have h1 : pre.length < 1000 := by
          have := congrArg List.length ha
          rw [hs.len, List.length_append] at this
          have := hr.l2
          omega
        refine ⟨[Sl.im (T.tup [T.tup (List.map T.str chs), T.int top]), Sl.im (T.tup (cs.map Cu.e)), Sl.im (T.int back), Sl.im s.e, Sl.im (Ac.e .wait), Sl.im (T.tup (s.rs.map Rn.e)), Sl.im (T.int s.pl), Sl.im (T.int s.du), Sl.im (T.tup (s.hd.map mkSI)), Sl.im (.lst (cs.map fun c => .int c.n)), .no, .no, .cl true (.lst (((pre ++ [r]).map tck).map Rn.e)), .im (.int r.a), .im (.int r.b), .im (.int r.c), .im (.int r.d), .no, .no], ?_, _, _, _, _, rfl⟩
        by_cases hd : r.c + 1 < r.d
        · simp [Rn.e, hd, tck, h1]
        · simp [Rn.e, hd, tck, h1])
    simp only [Sg.e, Ac.e, List.map_nil] at h1
    rw [h1]
    by_cases hdu : s.du = 1
    · have hlt : s.pl + 1 < cs.length := by have := hs.du; omega
      obtain ⟨c, hcc⟩ : ∃ c, cs[(s.pl + 1).toNat]? = some c := ⟨_, List.getElem?_eq_getElem (by have := hs.pl; omega)⟩
      have hst := law_started chs top cs (waitS s) (s.pl + 1).toNat c hr hc (by simp [waitS, hs.len]) (fun r hr' => by
        obtain ⟨r0, h0, rfl⟩ := List.mem_map.mp hr'
        exact tck_ok r0 (hs.rs r0 h0)) hcc
      rw [show (((s.pl + 1).toNat : Nat) : Int) = s.pl + 1 by have := hs.pl; omega] at hst
      simp only [rigE, Sg.e, waitS, hdu] at hst
      simp at hst
      simp [hdu, hst, step, hcc, waitS, Sg.e]
    · by_cases h0 : 0 < s.du
      · simp [hdu, h0, step, waitS, Sg.e]
      · simp [hdu, h0, step, waitS, Sg.e]
  | hold c l =>
    have hne : ∀ x ∈ s.hd, oEq true (.str x.1) (.str c) = some (.bl (x.1 != c)) := fun x hx => by
      rw [oEq_str (hr.nm _ (hs.hd x hx).1) (hr.nm _ ha.1)]; rfl
    unfold P__law_done B__law_done
    simp [rigE, Sg.e, Ac.e]
    rw [hnum _ rfl rfl]
    simp
    rw [lcl_fil mkSI mkSI (fun p => p.1 != c) s.hd (fun x hx => by
      have := hne x hx
      by_cases hq : x.1 = c
      · rw [hq] at this; simp [mkSI, hq, this]
      · simp [mkSI, this, hq]) (by omega)]
    simp
    have hlen := List.length_filter_le (fun p : Str × Int => p.1 != c) s.hd
    have hso := oSortA_SI (s.hd.filter (fun p => p.1 != c) ++ [(c, l)])
    rw [List.map_append] at hso
    simp only [List.map_cons, List.map_nil, mkSI] at hso
    simp [cut_from, mkSI, hso, step, Sg.e, show (s.hd.filter fun p => p.1 != c).length ≤ 999 by omega]
  | free c =>
    have hne : ∀ x ∈ s.hd, oEq true (.str x.1) (.str c) = some (.bl (x.1 != c)) := fun x hx => by
      rw [oEq_str (hr.nm _ (hs.hd x hx).1) (hr.nm _ ha)]; rfl
    unfold P__law_done B__law_done
    simp [rigE, Sg.e, Ac.e]
    rw [hnum _ rfl rfl]
    simp
    rw [lcl_fil mkSI mkSI (fun p => p.1 != c) s.hd (fun x hx => by
      have := hne x hx
      by_cases hq : x.1 = c
      · rw [hq] at this; simp [mkSI, hq, this]
      · simp [mkSI, this, hq]) (by omega)]
    simp
    have hlen := List.length_filter_le (fun p : Str × Int => p.1 != c) s.hd
    have hso := oSortA_SI (s.hd.filter (fun p => p.1 != c))
    simp [hso, step, Sg.e, show (s.hd.filter fun p => p.1 != c).length ≤ 1000 by omega]
end Go
/-! MG -/
set_option autoImplicit false
set_option maxRecDepth 100000
set_option linter.all false
namespace Go
open PySem L2 PX
/-! ### what a step keeps -/
theorem mvFold_ok {top : Int} : ∀ (mv : List (Str × Int)) (f : Str → Int), (∀ x, 0 ≤ f x ∧ f x ≤ top) → (∀ m ∈ mv, 0 ≤ m.2 ∧ m.2 ≤ top) → ∀ x, 0 ≤ mvFold f mv x ∧ mvFold f mv x ≤ top
  | [], f, hf, _, x => hf x
  | m :: r, f, hf, hm, x => by
    rw [mvFold_cons]
    refine mvFold_ok r _ (fun y => ?_) (fun m' h => hm m' (List.mem_cons_of_mem _ h)) x
    show 0 ≤ (if y = m.1 then m.2 else f y) ∧ (if y = m.1 then m.2 else f y) ≤ top
    split
    · exact hm m List.mem_cons_self
    · exact hf y
theorem cuFold_ok {chs : List Str} {top : Int} : ∀ (cs : List Cu) (f : Str → Int), (∀ x, 0 ≤ f x ∧ f x ≤ top) → (∀ c ∈ cs, c.ok chs top) → ∀ x, 0 ≤ cuFold f cs x ∧ cuFold f cs x ≤ top
  | [], f, hf, _, x => hf x
  | c :: r, f, hf, hc, x => by
    show 0 ≤ cuFold (mvFold f c.mv) r x ∧ _
    exact cuFold_ok r _ (mvFold_ok c.mv f hf fun m hm => ((hc c List.mem_cons_self).mv m hm).2) (fun c' h => hc c' (List.mem_cons_of_mem _ h)) x
theorem mean_ok {chs : List Str} {top : Int} {cs : List Cu} (ht : 0 ≤ top) (hc : ∀ c ∈ cs, c.ok chs top) (pl : Int) (x : Str) : 0 ≤ mean cs pl x ∧ mean cs pl x ≤ top :=
  cuFold_ok _ _ (fun _ => ⟨Int.le_refl _, ht⟩) (fun c h => hc c (List.mem_of_mem_take h)) x
theorem brt_ok {chs : List Str} {rs : List Rn} {lv : Str → Int} {n : Int} {S : Str → Bool} (hr : ∀ r ∈ rs, r.ok) (hl : ∀ x, 0 ≤ lv x ∧ lv x ≤ 9) (hn : 0 ≤ n ∧ n ≤ 5) : ∀ r ∈ brt chs rs lv n S, r.ok := by
  intro r h
  unfold brt at h
  obtain ⟨p, hp, rfl⟩ := List.mem_map.mp h
  have := hr p.2 (List.of_mem_zip hp).2
  split
  · exact snt_ok p.2 this (hl p.1) hn
  · exact this
theorem dueO_ok {chs : List Str} {top : Int} {cs : List Cu} {pl : Nat} (hc : ∀ c ∈ cs, c.ok chs top) : dueO cs pl = -1 ∨ (1 ≤ dueO cs pl ∧ dueO cs pl ≤ 5 ∧ (pl : Int) + 1 < cs.length) := by
  unfold dueO
  split
  · rename_i c hcc
    split
    · rename_i f hf
      split
      · have := (hc c (List.mem_of_getElem? hcc)).fo f hf
        exact .inr ⟨this.1, this.2, by omega⟩
      · exact .inl rfl
    · exact .inl rfl
  · exact .inl rfl
theorem startS_ok {chs : List Str} {top : Int} {cs : List Cu} {s : Sg} {pl : Nat} {c : Cu} (hr : RigOk chs top) (hc : ∀ c ∈ cs, c.ok chs top) (hs : s.ok chs top cs) (hp : cs[pl]? = some c) : (startS chs cs s pl c).ok chs top cs := by
  have hlt : pl < cs.length := (List.getElem?_eq_some_iff.mp hp).1
  have ok := hc c (List.mem_of_getElem? hp)
  refine ⟨brt_len hs.len, brt_ok hs.rs (fun x => ?_) ok.fd, ⟨by show (-1 : Int) ≤ (pl : Int); omega, by show (pl : Int) < cs.length; omega⟩, dueO_ok hc, hs.hd, hs.up⟩
  have := mean_ok (show 0 ≤ top by have := hr.t1; omega) hc pl x
  have := hr.t2
  omega
theorem leSI_tot (a b : Str × Int) : (leSI a b || leSI b a) = true := by
  unfold leSI
  cases h : ltSI b a with
  | false => rfl
  | true =>
    have z : ltSI a b = false := (swo_SI (α := Str × Int) id).asym b a h
    rw [z]
    rfl
theorem leSI_tr (a b c : Str × Int) (x : leSI a b = true) (y : leSI b c = true) : leSI a c = true := by
  unfold leSI at x y ⊢
  rw [Bool.not_eq_true'] at x y ⊢
  exact (swo_SI (α := Str × Int) id).tr a b c x y
theorem srtP_perm (l : List (Str × Int)) : (srtP l).Perm l := List.mergeSort_perm l leSI
theorem srtP_up {l : List (Str × Int)} (h : (l.map (·.1)).Nodup) : ((srtP l).map (·.1)).Pairwise fun a b => a.cps.toList < b.cps.toList := by
  have h1 : (srtP l).Pairwise fun a b => leSI a b = true := List.pairwise_mergeSort leSI_tr leSI_tot l
  have h2 : ((srtP l).map (·.1)).Nodup := ((srtP_perm l).map _).nodup_iff.mpr h
  rw [List.Nodup, List.pairwise_map] at h2
  rw [List.pairwise_map]
  refine (h1.and h2).imp fun {a b} h => ?_
  have z := h.1
  unfold leSI at z
  rw [Bool.not_eq_true'] at z
  have z' := ltSI_no.mp z
  rw [not_or] at z'
  rcases Classical.em (a.1.cps.toList < b.1.cps.toList) with w | w
  · exact w
  · exact (h.2 (str_tri w z'.1)).elim
theorem up_nd {l : List Str} (h : l.Pairwise fun a b => a.cps.toList < b.cps.toList) : l.Nodup := h.imp fun {a b} h e => by subst e; exact absurd h (List.lt_irrefl _)
theorem brtS_ok {chs : List Str} {top : Int} {cs : List Cu} {s : Sg} {p n pl du : Int} {S : Str → Bool} (hr : RigOk chs top) (hc : ∀ c ∈ cs, c.ok chs top) (hl : s.rs.length = chs.length) (hrs : ∀ r ∈ s.rs, r.ok) (hd : ∀ m ∈ s.hd, m.1 ∈ chs ∧ 0 ≤ m.2 ∧ m.2 ≤ top) (hu : (s.hd.map (·.1)).Pairwise fun a b => a.cps.toList < b.cps.toList)
    (hn : 0 ≤ n ∧ n ≤ 5) (hp : -1 ≤ pl ∧ pl < cs.length) (hdu : du = -1 ∨ (1 ≤ du ∧ du ≤ 5 ∧ pl + 1 < cs.length)) : (Sg.mk (brt chs s.rs (mean cs p) n S) pl du s.hd).ok chs top cs := by
  have h1 : (brt chs s.rs (mean cs p) n S).length = chs.length := brt_len hl
  have h2 : ∀ r ∈ brt chs s.rs (mean cs p) n S, r.ok := brt_ok hrs (fun x => by
    have := mean_ok (show 0 ≤ top by have := hr.t1; omega) hc p x
    have := hr.t2
    omega) hn
  exact ⟨h1, h2, hp, hdu, hd, hu⟩
theorem step_ok {chs : List Str} {top : Int} {cs : List Cu} {back : Int} {s : Sg} {a : Ac} (hr : RigOk chs top) (hc : ∀ c ∈ cs, c.ok chs top) (hb : 0 ≤ back ∧ back ≤ 5) (hs : s.ok chs top cs) (ha : a.ok chs top) : (step chs cs back s a).ok chs top cs := by
  have hm : ∀ (pl : Int) x, 0 ≤ mean cs pl x ∧ mean cs pl x ≤ 9 := fun pl x => by
    have := mean_ok (show 0 ≤ top by have := hr.t1; omega) hc pl x
    have := hr.t2
    omega
  have hp := hs.pl
  cases a with
  | go =>
    dsimp only [step]
    split
    · rename_i c hcc; exact startS_ok hr hc hs hcc
    · exact hs
  | back =>
    dsimp only [step]
    split
    · exact hs
    · exact brtS_ok hr hc hs.len hs.rs hs.hd hs.up hb (by omega) (.inl rfl)
  | jump n =>
    dsimp only [step]
    split
    · rename_i i hi
      split
      · rename_i c hcc
        have hlt : i < cs.length := (List.getElem?_eq_some_iff.mp hcc).1
        exact brtS_ok hr hc hs.len hs.rs hs.hd hs.up (hc c (List.mem_of_getElem? hcc)).fd (by omega) (dueO_ok hc)
      · exact hs
    · exact hs
  | wait =>
    have hw : (∀ r ∈ (waitS s).rs, r.ok) := fun r hr' => by
      obtain ⟨r0, h0, rfl⟩ := List.mem_map.mp hr'
      exact tck_ok r0 (hs.rs r0 h0)
    have hwl : (waitS s).rs.length = chs.length := by simp [waitS, hs.len]
    by_cases h1 : s.du = 1
    · have hlt : s.pl + 1 < cs.length := by have := hs.du; omega
      obtain ⟨c, hcc⟩ : ∃ c, cs[(s.pl + 1).toNat]? = some c := ⟨_, List.getElem?_eq_getElem (by omega)⟩
      have e : step chs cs back s .wait = startS chs cs (waitS s) (s.pl + 1).toNat c := by simp [step, h1, hcc]
      rw [e]
      have hlt' : (s.pl + 1).toNat < cs.length := by omega
      exact ⟨brt_len hwl, brt_ok hw (hm _) (hc c (List.mem_of_getElem? hcc)).fd, ⟨by show (-1 : Int) ≤ ((s.pl + 1).toNat : Int); omega, by show ((s.pl + 1).toNat : Int) < cs.length; omega⟩, dueO_ok hc, hs.hd, hs.up⟩
    · have e : step chs cs back s .wait = waitS s := by simp [step, h1]
      rw [e]
      refine ⟨hwl, hw, hs.pl, ?_, hs.hd, hs.up⟩
      show (if 0 < s.du then s.du - 1 else s.du) = -1 ∨ _
      have := hs.du
      show (if 0 < s.du then s.du - 1 else s.du) = -1 ∨ 1 ≤ (if 0 < s.du then s.du - 1 else s.du) ∧ (if 0 < s.du then s.du - 1 else s.du) ≤ 5 ∧ s.pl + 1 < cs.length
      split <;> omega
  | hold c l =>
    have nd : ((s.hd.filter (fun p => p.1 != c) ++ [(c, l)]).map (·.1)).Nodup := by
      rw [List.map_append, List.nodup_append]
      refine ⟨(up_nd hs.up).sublist (List.filter_sublist.map _), by simp, fun a ha b hb e => ?_⟩
      obtain ⟨m, hm, rfl⟩ := List.mem_map.mp ha
      have := (List.mem_filter.mp hm).2
      simp at hb this
      exact this (e.trans hb)
    refine ⟨hs.len, hs.rs, hs.pl, hs.du, fun m hm => ?_, srtP_up nd⟩
    have := (srtP_perm _).mem_iff.mp hm
    rcases List.mem_append.mp this with h | h
    · exact hs.hd m (List.mem_filter.mp h).1
    · rw [List.mem_singleton.mp h]; exact ha
  | free c =>
    have nd : ((s.hd.filter (fun p => p.1 != c)).map (·.1)).Nodup := (up_nd hs.up).sublist (List.filter_sublist.map _)
    refine ⟨hs.len, hs.rs, hs.pl, hs.du, fun m hm => ?_, srtP_up nd⟩
    have := (srtP_perm _).mem_iff.mp hm
    exact hs.hd m (List.mem_filter.mp this).1
theorem first_ok {chs : List Str} {top : Int} {cs : List Cu} : (Sg.mk (List.replicate chs.length ⟨0, 0, 0, 0⟩) (-1) (-1) []).ok chs top cs :=
  ⟨by simp, fun r h => by rw [List.eq_of_mem_replicate h]; exact ⟨by decide, by decide, by decide, by decide, by decide, .inr ⟨rfl, rfl, rfl⟩⟩, ⟨by simp, by show (-1 : Int) < _; omega⟩, .inl rfl, fun m h => (by cases h), .nil⟩
end Go
/-! MH -/
set_option autoImplicit false
set_option maxRecDepth 100000
set_option linter.all false
namespace PX
open PySem L2
theorem lkT_map {α : Type} (k : α → Str) (v : α → T) (l : List α) (c : Str) : lkT (l.map fun m => ((Sum.inr (k m) : Key), v m)) (Sum.inr c) = (l.find? fun m => decide (k m = c)).map v := by
  unfold lkT
  rw [List.find?_map, Option.map_map]
  have : ((fun kt : Key × T => decide (kt.1 = Sum.inr c)) ∘ fun m => ((Sum.inr (k m) : Key), v m)) = fun m => decide (k m = c) := by
    funext m
    show decide ((Sum.inr (k m) : Key) = Sum.inr c) = _
    by_cases h : k m = c
    · rw [h]; simp
    · rw [decide_eq_false h, decide_eq_false (fun z => h (Sum.inr.inj z))]
  rw [this]
  rfl
theorem prs_SI (l : List (Str × Int)) : prs (l.map mkSI) = some (l.map fun m => ((Sum.inr m.1 : Key), T.int m.2)) := by
  induction l with
  | nil => rfl
  | cons x xs ih =>
    rw [List.map_cons, List.map_cons]
    show prs (.tup [.str x.1, .int x.2] :: xs.map mkSI) = _
    rw [prs, ih]; rfl
theorem dict_nd {α : Type} (k : α → Str) (v : α → T) (l : List α) (h : (l.map k).Nodup) : mergeKT [] (l.map fun m => ((Sum.inr (k m) : Key), v m)) = l.map fun m => ((Sum.inr (k m) : Key), v m) := by
  have := Go.mergeKT_nodup (l.map fun m => ((Sum.inr (k m) : Key), v m)) [] (by
    rw [List.nil_append, List.map_map]
    rw [List.Nodup, List.pairwise_map] at h ⊢
    exact h.imp fun {a b} e z => e (Sum.inr.inj z))
  rw [this, List.nil_append]
theorem oDictP_SI (l : List (Str × Int)) (h : (l.map (·.1)).Nodup) : oDictP [.lst (l.map mkSI)] = some (.dct (l.map fun m => ((Sum.inr m.1 : Key), T.int m.2))) := by
  unfold oDictP
  dsimp only
  rw [prs_SI]
  dsimp only
  rw [dict_nd (fun m : Str × Int => m.1) (fun m => T.int m.2) l h]
@[simp] theorem isDct_d (kts : List (Key × T)) : isDct (.dct kts) = true := rfl
@[simp] theorem oGet_S (kts : List (Key × T)) (x : Str) (z : T) : oGet (.dct kts) (.str x) z = some ((lkT kts (Sum.inr x)).getD z) := by unfold oGet; rfl
end PX
namespace Go
open PySem L2 PX
def hlk (hd : List (Str × Int)) (c : Str) : Option Int := (hd.find? fun m => decide (m.1 = c)).map (·.2)
/-- the look of a stage -/
def look1 (chs : List Str) (s : Sg) : List Int := (chs.zip s.rs).map fun p => (hlk s.hd p.1).getD (lvl p.2)
def lookE (chs : List Str) (s : Sg) : T := .tup ((look1 chs s).map T.int)
theorem hlk_lk (hd : List (Str × Int)) (c : Str) (z : Int) : (lkT (hd.map fun m => ((Sum.inr m.1 : Key), T.int m.2)) (Sum.inr c)).getD (.int z) = .int ((hlk hd c).getD z) := by
  rw [lkT_map (fun m : Str × Int => m.1) (fun m => T.int m.2) hd c]
  unfold hlk
  cases hd.find? fun m => decide (m.1 = c) <;> rfl
theorem law_look (chs : List Str) (top : Int) (cs : List Cu) (s : Sg) (hr : RigOk chs top) (hs : s.ok chs top cs) : P__law_look [rigE chs top, s.e] = some (lookE chs s) := by
  have hd := oDictP_SI s.hd (up_nd hs.up)
  have l2 := hr.l2
  have hl := hs.len
  unfold P__law_look B__law_look
  simp [rigE, Sg.e, hd]
  rw [rng1_nat _ (by omega)]
  simp
  rw [lcl_fn (fun i : Nat => T.int (i : Int)) (fun i => T.int ((look1 chs s).getD i 0)) (List.range chs.length) (fun x hx => by
    have hx' := List.mem_range.mp hx
    obtain ⟨cc, hcc⟩ : ∃ cc, chs[x]? = some cc := ⟨_, List.getElem?_eq_getElem hx'⟩
    obtain ⟨r, hrr⟩ : ∃ r, s.rs[x]? = some r := ⟨_, List.getElem?_eq_getElem (by omega)⟩
    have hlv := law_level r (hs.rs r (List.mem_of_getElem? hrr))
    have hz : (chs.zip s.rs)[x]? = some (cc, r) := List.getElem?_zip_eq_some.mpr ⟨hcc, hrr⟩
    have hg : (look1 chs s)[x]?.getD 0 = (hlk s.hd cc).getD (lvl r) := by
      unfold look1
      rw [List.getElem?_map, hz]; rfl
    simp [hcc, hrr, hlv, hlk_lk, hg]) (by rw [List.length_range]; omega)]
  simp [lookE]
  refine List.ext_getElem? fun j => ?_
  have hll : (look1 chs s).length = chs.length := by unfold look1; rw [List.length_map, List.length_zip]; omega
  rw [List.getElem?_map, List.getElem?_map]
  by_cases hj : j < chs.length
  · rw [List.getElem?_range hj, List.getElem?_eq_getElem (by omega)]
    simp [hll, hj]
  · rw [List.getElem?_eq_none (by rw [List.length_range]; omega), List.getElem?_eq_none (by omega)]
    rfl
end Go
/-! MI -/
set_option autoImplicit false
set_option maxRecDepth 100000
set_option linter.all false
namespace PX
open PySem L2
@[simp] theorem atI_snoc {α : Type} (xs : List α) (a : α) : atI (xs ++ [a]) (-1) = some a := by
  rw [atI_last _ (by simp)]
  simp
@[simp] theorem atI_snoc' {α : Type} (x : α) (xs : List α) (a : α) : atI (x :: (xs ++ [a])) (-1) = some a := atI_snoc (x :: xs) a
end PX
namespace Go
open PySem L2 PX
def Ac.isW : Ac → Bool
  | .wait => true
  | _ => false
theorem ac_wait {chs : List Str} {top : Int} (hr : RigOk chs top) (neg : Bool) (a : Ac) (ha : a.ok chs top) : oEq neg a.e (.tup [.str "wait"]) = some (.bl (if neg then !a.isW else a.isW)) := by
  have hw := wo_wait
  have h1 : (("go" : Str) == ("wait" : Str)) = false := by decide +kernel
  have h2 : (("back" : Str) == ("wait" : Str)) = false := by decide +kernel
  have h3 : (("jump" : Str) == ("wait" : Str)) = false := by decide +kernel
  have h4 : (("hold" : Str) == ("wait" : Str)) = false := by decide +kernel
  have h5 : (("free" : Str) == ("wait" : Str)) = false := by decide +kernel
  unfold oEq
  cases a with
  | go => simp only [Ac.e, data, datas, SeqAt.shaped, PyData.eqv, PyData.eqvAll, PyData.canLay0, PyData.canLayAll0, wo_go, hw, h1, Ac.isW, PyData.depth, PyData.depthAll]; cases neg <;> rfl
  | back => simp only [Ac.e, data, datas, SeqAt.shaped, PyData.eqv, PyData.eqvAll, PyData.canLay0, PyData.canLayAll0, wo_back, hw, h2, Ac.isW, PyData.depth, PyData.depthAll]; cases neg <;> rfl
  | jump n => simp only [Ac.e, data, datas, SeqAt.shaped, PyData.eqv, PyData.eqvAll, PyData.canLay0, PyData.canLayAll0, wo_jump, hw, h3, Ac.isW, PyData.depth, PyData.depthAll]; cases neg <;> rfl
  | wait => simp only [Ac.e, data, datas, SeqAt.shaped, PyData.eqv, PyData.eqvAll, PyData.canLay0, PyData.canLayAll0, hw, Ac.isW, PyData.depth, PyData.depthAll, beq_self_eq_true]; cases neg <;> rfl
  | hold c l =>
    have hc := hr.nm c ha.1
    simp only [Ac.e, data, datas, SeqAt.shaped, PyData.eqv, PyData.eqvAll, PyData.canLay0, PyData.canLayAll0, wo_hold, hc, hw, h4, Ac.isW, PyData.depth, PyData.depthAll]; cases neg <;> rfl
  | free c =>
    have hc := hr.nm c ha
    simp only [Ac.e, data, datas, SeqAt.shaped, PyData.eqv, PyData.eqvAll, PyData.canLay0, PyData.canLayAll0, wo_free, hc, hw, h5, Ac.isW, PyData.depth, PyData.depthAll]; cases neg <;> rfl
/-! ### the log -/
def tickQ (chs : List Str) (cs : List Cu) (back : Int) (q : Sg × Int × List (Int × Sg)) (a : Ac) : Sg × Int × List (Int × Sg) :=
  (step chs cs back q.1 a, q.2.1 + (if a.isW = true then 1 else 0), q.2.2 ++ [(q.2.1 + (if a.isW = true then 1 else 0), step chs cs back q.1 a)])
def hist (chs : List Str) (cs : List Cu) (back : Int) (acts : List Ac) : Sg × Int × List (Int × Sg) := acts.foldl (tickQ chs cs back) (⟨List.replicate chs.length ⟨0, 0, 0, 0⟩, -1, -1, []⟩, 0, [])
theorem hist_snoc (chs : List Str) (cs : List Cu) (back : Int) (pre : List Ac) (a : Ac) : hist chs cs back (pre ++ [a]) = tickQ chs cs back (hist chs cs back pre) a := by
  unfold hist; rw [List.foldl_append]; rfl
def foundE (chs : List Str) (l : List (Int × Sg)) : List T := l.map fun p => .tup [.int p.1, .int p.2.pl, lookE chs p.2]
def shownE (chs : List Str) (s0 : Sg) (l : List (Int × Sg)) : List T := lookE chs s0 :: l.map fun p => lookE chs p.2
def sg0 (chs : List Str) : Sg := ⟨List.replicate chs.length ⟨0, 0, 0, 0⟩, -1, -1, []⟩
theorem hist_ok {chs : List Str} {top : Int} {cs : List Cu} {back : Int} (hr : RigOk chs top) (hc : ∀ c ∈ cs, c.ok chs top) (hb : 0 ≤ back ∧ back ≤ 5) : ∀ (acts : List Ac), (∀ a ∈ acts, a.ok chs top) → (hist chs cs back acts).1.ok chs top cs ∧ (hist chs cs back acts).2.2.length = acts.length ∧ ∀ p ∈ (hist chs cs back acts).2.2, p.2.ok chs top cs := by
  suffices ∀ (acts : List Ac) (q : Sg × Int × List (Int × Sg)), (∀ a ∈ acts, a.ok chs top) → q.1.ok chs top cs → (∀ p ∈ q.2.2, p.2.ok chs top cs) → (acts.foldl (tickQ chs cs back) q).1.ok chs top cs ∧ (acts.foldl (tickQ chs cs back) q).2.2.length = q.2.2.length + acts.length ∧ ∀ p ∈ (acts.foldl (tickQ chs cs back) q).2.2, p.2.ok chs top cs by
    intro acts ha
    have := this acts (sg0 chs, 0, []) ha (first_ok (chs := chs) (top := top) (cs := cs)) (fun p h => by cases h)
    simpa [hist, sg0] using this
  intro acts
  induction acts with
  | nil => intro q _ h1 h2; exact ⟨h1, by simp, h2⟩
  | cons a r ih =>
    intro q ha h1 h2
    have hs := step_ok hr hc hb h1 (ha a List.mem_cons_self)
    have := ih (tickQ chs cs back q a) (fun b hb => ha b (List.mem_cons_of_mem _ hb)) hs (fun p hp => by
      rcases List.mem_append.mp hp with h | h
      · exact h2 p h
      · rw [List.mem_singleton.mp h]; exact hs)
    refine ⟨this.1, ?_, this.2.2⟩
    rw [List.foldl_cons, this.2.1]
    simp [tickQ]
    omega
theorem law_log (chs : List Str) (top : Int) (cs : List Cu) (back : Int) (acts : List Ac) (hr : RigOk chs top) (hc : ∀ c ∈ cs, c.ok chs top) (hl : cs.length ≤ 20) (hb : 0 ≤ back ∧ back ≤ 5) (ha : ∀ a ∈ acts, a.ok chs top) (hal : acts.length ≤ 60) :
    P__law_log [rigE chs top, .tup (cs.map Cu.e), .int back, .tup (acts.map Ac.e)] = some (.tup [.tup (foundE chs (hist chs cs back acts).2.2), .tup (shownE chs (sg0 chs) (hist chs cs back acts).2.2), (hist chs cs back acts).1.e]) := by
  have hf := law_first chs top hr.l1 hr.l2
  have hk := law_look chs top cs (sg0 chs) hr first_ok
  change P__law_look [rigE chs top, (Sg.mk (List.replicate chs.length ⟨0, 0, 0, 0⟩) (-1) (-1) []).e] = _ at hk
  unfold P__law_log B__law_log
  simp [hf, hk]
  obtain ⟨ρ', h1, ⟨j8, rfl⟩⟩ := loop_ix (g := gn 8)
    (f := bseq (bset 4 (im (sA (acons (v 0) (acons (v 1) (acons (v 2) (acons (v 4) (acons (v 8) (anil)))))) P__law_done))) (bseq (bset 5 (im (s2 (v 5) (sA (acons (s2 (v 8) (sA (acons (c (.str "wait")) (anil)) mkTup) (oEq false)) (anil)) oInt) oAddG))) (bseq (drop (sBC "list" 7 (acons (sA (acons (v 0) (acons (v 4) (anil))) P__law_look) (anil)) oAppend)) (drop (sBC "list" 6 (acons (sA (acons (v 5) (acons (s2 (v 4) (c (.int 1)) oIt) (acons (ixG 7 (s1 (c (.int 1)) oNeg)) (anil)))) mkTup) (anil)) oAppend))))) Ac.e
    (fun (pre : List Ac) ρ => ∃ j8, ρ = [.im (rigE chs top), .im (.tup (cs.map Cu.e)), .im (.int back), .im (.tup (acts.map Ac.e)), .im (hist chs cs back pre).1.e, .im (.int (hist chs cs back pre).2.1), .cl true (.lst (foundE chs (hist chs cs back pre).2.2)), .cl true (.lst (shownE chs (sg0 chs) (hist chs cs back pre).2.2)), j8])
    acts [] acts _ rfl ⟨.no, rfl⟩ (by
      rintro pre a post ρ hsp ⟨j8, rfl⟩
      have haa : a.ok chs top := ha a (by rw [hsp]; simp)
      have hpre : ∀ b ∈ pre, b.ok chs top := fun b hb => ha b (by rw [hsp]; simp [hb])
      have hlp : pre.length < acts.length := by rw [hsp]; simp
      obtain ⟨k1, k2, k3⟩ := hist_ok hr hc hb pre hpre
      have hd := law_done chs top cs back (hist chs cs back pre).1 a hr hc hl k1 haa
      have hok := step_ok hr hc hb k1 haa
      have hlk := law_look chs top cs _ hr hok
      have hw := ac_wait hr false a haa
      refine ⟨[.im (rigE chs top), .im (.tup (cs.map Cu.e)), .im (.int back), .im (.tup (acts.map Ac.e)), .im (hist chs cs back (pre ++ [a])).1.e, .im (.int (hist chs cs back (pre ++ [a])).2.1), .cl true (.lst (foundE chs (hist chs cs back (pre ++ [a])).2.2)), .cl true (.lst (shownE chs (sg0 chs) (hist chs cs back (pre ++ [a])).2.2)), .im a.e], ?_, _, rfl⟩
      rw [hist_snoc]
      simp [hd, hw, hlk, tickQ, foundE, shownE, k2, show pre.length < 999 by omega]
      simp [Sg.e, show pre.length < 1000 by omega, show pre.length + 1 < 1000 by omega, k2])
  have e0 : (hist chs cs back []) = (sg0 chs, 0, []) := rfl
  rw [e0] at h1
  simp only [foundE, shownE, List.map_nil, sg0] at h1
  change loop _ _ _ _ = _ at h1
  rw [show lookE chs (sg0 chs) = lookE chs ⟨List.replicate chs.length ⟨0, 0, 0, 0⟩, -1, -1, []⟩ from rfl]
  rw [h1]
  simp [foundE, shownE, sg0]
end Go
/-! MJ -/
set_option autoImplicit false
set_option maxRecDepth 100000
set_option linter.all false
namespace PX
open PySem L2
theorem bls_map {α : Type} (f : α → Bool) : ∀ l : List α, bls (l.map fun x => T.bl (f x)) = some (l.map f)
  | [] => rfl
  | x :: l => by rw [List.map_cons, bls, bls_map f l]; rfl
theorem oAll_map {α : Type} (f : α → Bool) (l : List α) : oAll [.lst (l.map fun x => T.bl (f x))] = some (.bl (l.all f)) := by
  unfold oAll; dsimp only; rw [bls_map]; simp
theorem oAny_map {α : Type} (f : α → Bool) (l : List α) : oAny [.lst (l.map fun x => T.bl (f x))] = some (.bl (l.any f)) := by
  unfold oAny; dsimp only; rw [bls_map]; simp
end PX
namespace Go
open PySem L2 PX
def restS (s : Sg) : Bool := decide (s.du = -1) && !(s.rs.any fun r => decide (r.c < r.d))
def wIt (chs : List Str) (cs : List Cu) (back : Int) : Nat → Sg → Sg
  | 0, s => s
  | k + 1, s => wIt chs cs back k (step chs cs back s .wait)
def gapA (cs : List Cu) (s : Sg) : Int := s.du + 5 * ((cs.length : Int) - 2 - s.pl)
theorem settle_ex {chs : List Str} {top : Int} {cs : List Cu} {back : Int} (hr : RigOk chs top) (hc : ∀ c ∈ cs, c.ok chs top) (hb : 0 ≤ back ∧ back ≤ 5) : ∀ (N : Nat) (s : Sg), s.ok chs top cs →
    (s.du = -1 → ∀ r ∈ s.rs, r.d - r.c ≤ N) → (s.du ≠ -1 → gapA cs s + 5 ≤ N) → ∃ m, m ≤ N ∧ restS (wIt chs cs back m s) = true ∧ ∀ k, k < m → restS (wIt chs cs back k s) = false := by
  intro N
  induction N with
  | zero =>
    intro s hs h1 h2
    refine ⟨0, Nat.le_refl _, ?_, fun k hk => absurd hk (by omega)⟩
    show restS s = true
    have hdu : s.du = -1 := by
      rcases hs.du with h | h
      · exact h
      · have := h2 (by omega)
        unfold gapA at this
        omega
    unfold restS
    simp only [hdu, decide_true, Bool.true_and, Bool.not_eq_true']
    rw [List.any_eq_false]
    intro r hr'
    have := h1 hdu r hr'
    simp
    omega
  | succ N ih =>
    intro s hs h1 h2
    cases hrs : restS s with
    | true => exact ⟨0, Nat.zero_le _, hrs, fun k hk => absurd hk (by omega)⟩
    | false =>
      have hs' := step_ok hr hc hb hs (a := .wait) trivial
      have key : ((step chs cs back s .wait).du = -1 → ∀ r ∈ (step chs cs back s .wait).rs, r.d - r.c ≤ N) ∧ ((step chs cs back s .wait).du ≠ -1 → gapA cs (step chs cs back s .wait) + 5 ≤ N) := by
        by_cases hd1 : s.du = -1
        · have e : step chs cs back s .wait = ⟨s.rs.map tck, s.pl, s.du, s.hd⟩ := by
            have : ¬ (0 < s.du) := by omega
            simp [step, hd1, waitS]
          rw [e]
          refine ⟨fun _ r hr' => ?_, fun h => (h hd1).elim⟩
          obtain ⟨r0, hr0, rfl⟩ := List.mem_map.mp hr'
          have := h1 hd1 r0 hr0
          unfold tck
          split
          · show r0.d - (r0.c + 1) ≤ N; omega
          · show (0 : Int) - 0 ≤ N; omega
        · have hdu : 1 ≤ s.du ∧ s.du ≤ 5 ∧ s.pl + 1 < cs.length := by rcases hs.du with h | h; exact (hd1 h).elim; exact h
          have hg := h2 hd1
          have hp := hs.pl
          have hsd := hs'.du
          refine ⟨fun _ r hr' => ?_, fun hne => ?_⟩
          · have := hs'.rs r hr'
            unfold gapA at hg
            obtain ⟨_, _, _, _, h5, h6⟩ := this
            omega
          · unfold gapA at hg ⊢
            by_cases h1' : s.du = 1
            · obtain ⟨c, hcc⟩ : ∃ c, cs[(s.pl + 1).toNat]? = some c := ⟨_, List.getElem?_eq_getElem (by omega)⟩
              have e : step chs cs back s .wait = startS chs cs (waitS s) (s.pl + 1).toNat c := by simp [step, h1', hcc]
              rw [e] at hne hsd ⊢
              have e2 : (startS chs cs (waitS s) (s.pl + 1).toNat c).pl = s.pl + 1 := by show (((s.pl + 1).toNat : Nat) : Int) = _; omega
              rw [e2] at hsd ⊢
              omega
            · have e : step chs cs back s .wait = waitS s := by simp [step, h1']
              rw [e] at hne hsd ⊢
              have e2 : (waitS s).du = s.du - 1 := by show (if 0 < s.du then s.du - 1 else s.du) = _; rw [if_pos (by omega)]
              have e3 : (waitS s).pl = s.pl := rfl
              rw [e2, e3]
              omega
      obtain ⟨m, q1, q2, q3⟩ := ih _ hs' key.1 key.2
      refine ⟨m + 1, by omega, q2, fun k hk => ?_⟩
      cases k with
      | zero => exact hrs
      | succ k => exact q3 k (by omega)
theorem settle_105 {chs : List Str} {top : Int} {cs : List Cu} {back : Int} (hr : RigOk chs top) (hc : ∀ c ∈ cs, c.ok chs top) (hl : cs.length ≤ 20) (hb : 0 ≤ back ∧ back ≤ 5) (s : Sg) (hs : s.ok chs top cs) :
    ∃ m, m ≤ 110 ∧ restS (wIt chs cs back m s) = true ∧ ∀ k, k < m → restS (wIt chs cs back k s) = false := by
  refine settle_ex hr hc hb 110 s hs (fun _ r h => ?_) (fun h => ?_)
  · obtain ⟨_, _, _, _, h5, h6⟩ := hs.rs r h
    omega
  · have := hs.du
    have := hs.pl
    unfold gapA
    omega
theorem wIt_ok {chs : List Str} {top : Int} {cs : List Cu} {back : Int} (hr : RigOk chs top) (hc : ∀ c ∈ cs, c.ok chs top) (hb : 0 ≤ back ∧ back ≤ 5) : ∀ (k : Nat) (s : Sg), s.ok chs top cs → (wIt chs cs back k s).ok chs top cs
  | 0, s, hs => hs
  | k + 1, s, hs => wIt_ok hr hc hb k _ (step_ok hr hc hb hs (a := .wait) trivial)
theorem wIt_succ (chs : List Str) (cs : List Cu) (back : Int) : ∀ (k : Nat) (s : Sg), wIt chs cs back (k + 1) s = step chs cs back (wIt chs cs back k s) .wait
  | 0, s => rfl
  | k + 1, s => by
    show wIt chs cs back (k + 1) (step chs cs back s .wait) = _
    rw [wIt_succ chs cs back k]
    rfl
theorem law_settles (chs : List Str) (top : Int) (cs : List Cu) (back : Int) (s : Sg) (m : Nat) (hr : RigOk chs top) (hc : ∀ c ∈ cs, c.ok chs top) (hl : cs.length ≤ 20) (hb : 0 ≤ back ∧ back ≤ 5) (hs : s.ok chs top cs)
    (hm : m < 200) (h1 : restS (wIt chs cs back m s) = true) (h2 : ∀ k, k < m → restS (wIt chs cs back k s) = false) :
    P__law_settles [rigE chs top, .tup (cs.map Cu.e), .int back, s.e] = some (.int m) := by
  have tst : ∀ (k : Nat) (j4 : Sl), (tand (tb (s2 (s2 (v 3) (c (.int 2)) oIt) (s1 (c (.int 1)) oNeg) (oEq false))) (tnot (tb (sA (acons (lc [5, 6, 7, 8] (i1 (s2 (v 3) (c (.int 0)) oIt) anyOf) (gt 4 (gcons (gn 5) (gcons (gn 6) (gcons (gn 7) (gcons (gn 8) (gnil)))))) (tyes) (s2 (v 7) (v 8) (oLtG))) (anil)) oAny)))) [.im (rigE chs top), .im (.tup (cs.map Cu.e)), .im (.int back), .im (wIt chs cs back k s).e, j4, .no, .no, .no, .no] =
      some (restS (wIt chs cs back k s), [.im (rigE chs top), .im (.tup (cs.map Cu.e)), .im (.int back), .im (wIt chs cs back k s).e, j4, .no, .no, .no, .no]) := by
    intro k j4
    have hlen := (wIt_ok hr hc hb k s hs).len
    have l2 := hr.l2
    unfold restS
    by_cases hd : (wIt chs cs back k s).du = -1
    · simp [Sg.e, hd]
      rw [lcl_fn Rn.e (fun r => T.bl (decide (r.c < r.d))) (wIt chs cs back k s).rs (fun x hx => by simp [Rn.e]) (by omega)]
      simp [oAny_map]
    · simp [Sg.e, hd]
  have main : ∀ (k : Nat), k ≤ m → ∀ j4, ∃ ρ', loop (gn 4) (bseq (biff (tand (tb (s2 (s2 (v 3) (c (.int 2)) oIt) (s1 (c (.int 1)) oNeg) (oEq false))) (tnot (tb (sA (acons (lc [5, 6, 7, 8] (i1 (s2 (v 3) (c (.int 0)) oIt) anyOf) (gt 4 (gcons (gn 5) (gcons (gn 6) (gcons (gn 7) (gcons (gn 8) (gnil)))))) (tyes) (s2 (v 7) (v 8) (oLtG))) (anil)) oAny)))) (ret (v 4)) (bnil)) (bset 3 (im (sA (acons (v 0) (acons (v 1) (acons (v 2) (acons (v 3) (acons (sA (acons (c (.str "wait")) (anil)) mkTup) (anil)))))) P__law_done))))
      ((List.range' (m - k) (200 - (m - k))).map fun (i : Nat) => T.int (i : Int)) [.im (rigE chs top), .im (.tup (cs.map Cu.e)), .im (.int back), .im (wIt chs cs back (m - k) s).e, j4, .no, .no, .no, .no] = some (.rt (.int m) ρ') := by
    intro k
    induction k with
    | zero =>
      intro _ j4
      rw [show 200 - (m - 0) = (199 - m) + 1 by omega, List.range'_succ, List.map_cons]
      have t := tst m (.im (.int (m : Int)))
      rw [h1] at t
      refine ⟨[.im (rigE chs top), .im (.tup (cs.map Cu.e)), .im (.int back), .im (wIt chs cs back m s).e, .im (.int (m : Int)), .no, .no, .no, .no], ?_⟩
      unfold loop
      simp only [Nat.sub_zero, ap_gn, List.set_cons_succ, List.set_cons_zero, bp_bseq, bp_biff, t, Option.bind_some, if_true, bp_ret, bp_v, List.getElem?_cons_succ, List.getElem?_cons_zero, slI_im, outN_rt]
    | succ k ih =>
      intro hk j4
      rw [show 200 - (m - (k + 1)) = (200 - (m - k)) + 1 by omega, List.range'_succ, List.map_cons]
      have t := tst (m - (k + 1)) (.im (.int ((m - (k + 1) : Nat) : Int)))
      rw [h2 _ (by omega)] at t
      have hd := law_done chs top cs back (wIt chs cs back (m - (k + 1)) s) .wait hr hc hl (wIt_ok hr hc hb _ s hs) trivial
      rw [← wIt_succ, show m - (k + 1) + 1 = m - k by omega] at hd
      obtain ⟨ρ', h⟩ := ih (by omega) (.im (.int ((m - (k + 1) : Nat) : Int)))
      refine ⟨ρ', ?_⟩
      rw [show m - (k + 1) + 1 = m - k by omega]
      unfold loop
      simp only [ap_gn, List.set_cons_succ, List.set_cons_zero, bp_bseq, bp_biff, t, Option.bind_some, Bool.false_eq_true, if_false, ap_bnil, outN_nx]
      simp only [Ac.e] at hd
      simp [hd]
      exact h
  obtain ⟨ρ', h⟩ := main m (Nat.le_refl _) .no
  rw [Nat.sub_self] at h
  unfold P__law_settles B__law_settles
  have hrg := rng1_nat 200 (by omega)
  rw [List.range_eq_range'] at hrg
  have hrg' : rng1 [.int 200] = some ((List.range' 0 200).map fun (i : Nat) => T.int (i : Int)) := hrg
  simp only [runP_eq, List.length_cons, List.length_nil, bp_bseq, bp_bfor, bp_iA, bp_acons, ap_anil, ap_c, Option.bind_some, hrg']
  simp only [wIt] at h
  simp [h]
end Go
/-! MK -/
set_option autoImplicit false
set_option maxRecDepth 100000
set_option linter.all false
namespace PX
open PySem L2
/-- a value that == may look at -/
def Shp (k : Nat) (t : T) : Prop := ∃ d, data t = some d ∧ d.canLay0 = true ∧ d.depth ≤ k
theorem Shp.mono {k j : Nat} {t : T} (h : Shp k t) (hj : k ≤ j) : Shp j t := by
  obtain ⟨d, h1, h2, h3⟩ := h; exact ⟨d, h1, h2, by omega⟩
theorem shp_int (k : Nat) (i : Int) : Shp k (.int i) := ⟨.int i, by rw [data], rfl, Nat.zero_le _⟩
theorem shp_bl (k : Nat) (i : Bool) : Shp k (.bl i) := ⟨.bool i, by rw [data], rfl, Nat.zero_le _⟩
theorem shp_non (k : Nat) : Shp k .non := ⟨.none, by rw [data], rfl, Nat.zero_le _⟩
theorem shp_str (k : Nat) (x : Str) (h : PyData.strOk x = true) : Shp k (.str x) := ⟨.str x, by rw [data], by rw [PyData.canLay0]; exact h, Nat.zero_le _⟩
theorem shp_list {k : Nat} : ∀ {ts : List T}, (∀ t ∈ ts, Shp k t) → ∃ ds, datas ts = some ds ∧ PyData.canLayAll0 ds = true ∧ PyData.depthAll ds ≤ k ∧ ds.length = ts.length
  | [], _ => ⟨[], by rw [datas], rfl, Nat.zero_le _, rfl⟩
  | t :: r, h => by
    obtain ⟨d, h1, h2, h3⟩ := h t List.mem_cons_self
    obtain ⟨ds, e1, e2, e3, e4⟩ := shp_list fun u hu => h u (List.mem_cons_of_mem _ hu)
    refine ⟨d :: ds, by rw [datas, h1, e1], by rw [PyData.canLayAll0, h2, e2]; rfl, ?_, by rw [List.length_cons, List.length_cons, e4]⟩
    rw [PyData.depthAll]
    omega
theorem shp_tup {k : Nat} {ts : List T} (h : ∀ t ∈ ts, Shp k t) : Shp (k + 1) (.tup ts) := by
  obtain ⟨ds, e1, e2, e3, e4⟩ := shp_list h
  exact ⟨.tuple ds, by rw [data, e1], by rw [PyData.canLay0]; exact e2, by rw [PyData.depth]; omega⟩
theorem shp_lst {k : Nat} {ts : List T} (h : ∀ t ∈ ts, Shp k t) : Shp (k + 1) (.lst ts) := by
  obtain ⟨ds, e1, e2, e3, e4⟩ := shp_list h
  exact ⟨.list ds, by rw [data, e1], by rw [PyData.canLay0]; exact e2, by rw [PyData.depth]; omega⟩
theorem shaped_of {d : PyData} (h1 : d.canLay0 = true) (h2 : d.depth ≤ 64) : SeqAt.shaped d = true := by
  unfold SeqAt.shaped; rw [h1, decide_eq_true h2]; rfl
theorem oEq_nil_l (neg : Bool) (ts : List T) (h : ∀ t ∈ ts, Shp 50 t) : oEq neg (.lst ts) (.lst []) = some (.bl (if neg then !ts.isEmpty else ts.isEmpty)) := by
  obtain ⟨ds, e1, e2, e3, e4⟩ := shp_list h
  have hd : data (.lst ts) = some (.list ds) := by rw [data, e1]
  have h0 : data (.lst []) = some (.list []) := by rw [data, datas]
  unfold oEq
  rw [hd, h0]
  dsimp only
  rw [shaped_of (d := .list ds) (by rw [PyData.canLay0]; exact e2) (by rw [PyData.depth]; omega), shaped_of (d := .list []) rfl (by decide)]
  rw [Bool.and_self, if_pos rfl]
  cases ts with
  | nil =>
    rw [List.length_nil, List.length_eq_zero_iff] at e4
    rw [e4]; rfl
  | cons t r =>
    cases ds with
    | nil => cases e4
    | cons d ds => rw [PyData.eqv, PyData.eqvAll]; rfl
theorem oEq_nil_t (neg : Bool) (ts : List T) (h : ∀ t ∈ ts, Shp 50 t) : oEq neg (.tup ts) (.tup []) = some (.bl (if neg then !ts.isEmpty else ts.isEmpty)) := by
  obtain ⟨ds, e1, e2, e3, e4⟩ := shp_list h
  have hd : data (.tup ts) = some (.tuple ds) := by rw [data, e1]
  have h0 : data (.tup []) = some (.tuple []) := by rw [data, datas]
  unfold oEq
  rw [hd, h0]
  dsimp only
  rw [shaped_of (d := .tuple ds) (by rw [PyData.canLay0]; exact e2) (by rw [PyData.depth]; omega), shaped_of (d := .tuple []) rfl (by decide)]
  rw [Bool.and_self, if_pos rfl]
  cases ts with
  | nil =>
    rw [List.length_nil, List.length_eq_zero_iff] at e4
    rw [e4]; rfl
  | cons t r =>
    cases ds with
    | nil => cases e4
    | cons d ds => rw [PyData.eqv, PyData.eqvAll]; rfl
theorem oPop0 (t : T) (r : List T) (h : r.length < 1000) : oPopAt (.lst (t :: r)) [.int 0] = some (t, .lst r) := by
  unfold oPopAt ixN
  have : (t :: r).length ≤ 1000 := by rw [List.length_cons]; omega
  simp [this]
  omega
end PX
namespace Go
open PySem L2 PX
theorem ac_shp {chs : List Str} {top : Int} (hr : RigOk chs top) (a : Ac) (ha : a.ok chs top) : Shp 1 a.e := by
  cases a with
  | go =>
    refine shp_tup fun t h => ?_
    rw [List.mem_singleton.mp h]; exact shp_str _ _ wo_go
  | back =>
    refine shp_tup fun t h => ?_
    rw [List.mem_singleton.mp h]; exact shp_str _ _ wo_back
  | jump n =>
    refine shp_tup fun t h => ?_
    simp only [List.mem_cons, List.not_mem_nil, or_false] at h
    rcases h with rfl | rfl
    · exact shp_str _ _ wo_jump
    · exact shp_int _ _
  | wait =>
    refine shp_tup fun t h => ?_
    rw [List.mem_singleton.mp h]; exact shp_str _ _ wo_wait
  | hold c l =>
    refine shp_tup fun t h => ?_
    simp only [List.mem_cons, List.not_mem_nil, or_false] at h
    rcases h with rfl | rfl | rfl
    · exact shp_str _ _ wo_hold
    · exact shp_str _ _ (hr.nm _ ha.1)
    · exact shp_int _ _
  | free c =>
    refine shp_tup fun t h => ?_
    simp only [List.mem_cons, List.not_mem_nil, or_false] at h
    rcases h with rfl | rfl
    · exact shp_str _ _ wo_free
    · exact shp_str _ _ (hr.nm _ ha)
theorem ac_nil {chs : List Str} {top : Int} (hr : RigOk chs top) (neg : Bool) (a : Ac) (ha : a.ok chs top) : oEq neg a.e (.tup []) = some (.bl neg) := by
  cases a <;> (rw [Ac.e, oEq_nil_t]; cases neg <;> rfl) <;> skip
  all_goals
    intro t h
    have := ac_shp hr _ ha
    simp only [List.mem_cons, List.not_mem_nil, or_false] at h
    first
      | (rcases h with rfl; first | exact shp_str _ _ wo_go | exact shp_str _ _ wo_back | exact shp_str _ _ wo_wait)
      | (rcases h with rfl | rfl | rfl; exact shp_str _ _ wo_hold; exact shp_str _ _ (hr.nm _ ha.1); exact shp_int _ _)
      | (rcases h with rfl | rfl; exact shp_str _ _ wo_jump; exact shp_int _ _)
      | (rcases h with rfl | rfl; exact shp_str _ _ wo_free; exact shp_str _ _ (hr.nm _ ha))
/-! ### the clock -/
def tmE (p : Int × Ac) : T := .tup [.int p.1, p.2.e]
@[simp] theorem tm_0 (p : Int × Ac) : oIt (tmE p) (.int 0) = some (.int p.1) := by simp [tmE]
@[simp] theorem tm_1 (p : Int × Ac) : oIt (tmE p) (.int 1) = some p.2.e := by simp [tmE]
theorem tm_shp {chs : List Str} {top : Int} (hr : RigOk chs top) (p : Int × Ac) (ha : p.2.ok chs top) : Shp 2 (tmE p) := shp_tup fun t h => by
  simp only [List.mem_cons, List.not_mem_nil, or_false] at h
  rcases h with rfl | rfl
  · exact shp_int _ _
  · exact ac_shp hr _ ha
def oAc : Option Ac → T
  | some a => a.e
  | none => .tup []
def wq (q : List (Int × Ac) × Int × List Ac) (o : Option Ac) : List (Int × Ac) × Int × List Ac :=
  (q.1.dropWhile (fun p => decide (p.1 = q.2.1)), q.2.1 + (match o with
    | some a => if a.isW = true then 1 else 0
    | none => 0), q.2.2 ++ (q.1.takeWhile (fun p => decide (p.1 = q.2.1))).map (·.2) ++ o.toList)
theorem wq_len (q : List (Int × Ac) × Int × List Ac) (o : Option Ac) : (wq q o).1.length + (wq q o).2.2.length = q.1.length + q.2.2.length + o.toList.length := by
  have h : (q.1.takeWhile fun p => decide (p.1 = q.2.1)) ++ (q.1.dropWhile fun p => decide (p.1 = q.2.1)) = q.1 := List.takeWhile_append_dropWhile
  have := congrArg List.length h
  rw [List.length_append] at this
  simp only [wq, List.length_append, List.length_map]
  omega
theorem pop_loop {chs : List Str} {top : Int} (hr : RigOk chs top) (x0 x1 x5 : Sl) (t : Int) : ∀ (left : List (Int × Ac)) (found : List Ac) (n : Nat), left.length < n → (∀ p ∈ left, p.2.ok chs top) → left.length + found.length ≤ 200 →
    wloop (tand (tb (cmpC 3 (sA (anil) mkLst) (oEq true))) (tb (s2 (s2 (ixG 3 (c (.int 0))) (c (.int 0)) oIt) (v 2) (oEq false)))) (drop (sBC "list" 4 (acons (s2 (sBC "list" 3 (acons (c (.int 0)) (anil)) oPopAt) (c (.int 1)) oIt) (anil)) oAppend)) n
      [x0, x1, .im (.int t), .cl true (.lst (left.map tmE)), .cl true (.lst (found.map Ac.e)), x5] =
    some (.nx [x0, x1, .im (.int t), .cl true (.lst ((left.dropWhile fun p => decide (p.1 = t)).map tmE)), .cl true (.lst ((found ++ (left.takeWhile fun p => decide (p.1 = t)).map (·.2)).map Ac.e)), x5])
  | left, found, 0, h, _, _ => absurd h (by omega)
  | [], found, n + 1, _, _, _ => by
    have := oEq_nil_l true [] (fun t h => by cases h)
    unfold wloop
    simp [this]
  | p :: r, found, n + 1, hn, hok, hl => by
    have h1 := oEq_nil_l true ((p :: r).map tmE) (fun t h => by
      obtain ⟨q, hq, rfl⟩ := List.mem_map.mp h
      exact (tm_shp hr q (hok q hq)).mono (by omega))
    rw [List.map_cons] at h1
    rw [List.length_cons] at hn hl
    have hp := oPop0 (tmE p) (r.map tmE) (by rw [List.length_map]; omega)
    unfold wloop
    by_cases ht : p.1 = t
    · have ih := pop_loop hr x0 x1 x5 t r (found ++ [p.2]) n (by omega) (fun q hq => hok q (List.mem_cons_of_mem _ hq)) (by simp; omega)
      simp [h1, ht, hp, show found.length < 1000 by omega]
      simp [ht] at ih
      exact ih
    · have hb : (p.1 == t) = false := by simpa using ht
      simp [h1, ht, hp, hb]
theorem law_woven {chs : List Str} {top : Int} (hr : RigOk chs top) (clock : List (Int × Ac)) (acts : List Ac) (hk : ∀ p ∈ clock, p.2.ok chs top) (ha : ∀ a ∈ acts, a.ok chs top) (hl : clock.length + acts.length ≤ 190) :
    P__law_woven [.tup (clock.map tmE), .tup (acts.map Ac.e)] = some (.tup (((acts.map some ++ [none]).foldl wq (clock, 0, [])).2.2.map Ac.e)) := by
  unfold P__law_woven B__law_woven
  simp [show acts.length ≤ 999 by omega]
  have hmap : acts.map Ac.e ++ [T.tup []] = (acts.map some ++ [none]).map oAc := by
    rw [List.map_append, List.map_map]; rfl
  rw [hmap]
  obtain ⟨ρ', h1, ⟨j5, rfl, _⟩⟩ := loop_ix (g := gn 5)
    (f := bseq (wloop (tand (tb (cmpC 3 (sA (anil) mkLst) (oEq true))) (tb (s2 (s2 (ixG 3 (c (.int 0))) (c (.int 0)) oIt) (v 2) (oEq false)))) (drop (sBC "list" 4 (acons (s2 (sBC "list" 3 (acons (c (.int 0)) (anil)) oPopAt) (c (.int 1)) oIt) (anil)) oAppend)) W__law_woven) (biff (tb (s2 (v 5) (sA (anil) mkTup) (oEq true))) (bseq (drop (sBC "list" 4 (acons (v 5) (anil)) oAppend)) (bset 2 (im (s2 (v 2) (sA (acons (s2 (v 5) (sA (acons (c (.str "wait")) (anil)) mkTup) (oEq false)) (anil)) oInt) oAddG)))) (bnil))) oAc
    (fun (pre : List (Option Ac)) ρ => ∃ j5, ρ = [.im (.tup (clock.map tmE)), .im (.tup (acts.map Ac.e)), .im (.int (pre.foldl wq (clock, 0, [])).2.1), .cl true (.lst ((pre.foldl wq (clock, 0, [])).1.map tmE)), .cl true (.lst ((pre.foldl wq (clock, 0, [])).2.2.map Ac.e)), j5] ∧
      (∀ p ∈ (pre.foldl wq (clock, 0, [])).1, p ∈ clock) ∧ (pre.foldl wq (clock, 0, [])).1.length + (pre.foldl wq (clock, 0, [])).2.2.length ≤ clock.length + pre.length)
    (acts.map some ++ [none]) [] (acts.map some ++ [none]) _ rfl ⟨.no, rfl, fun p h => h, by simp⟩ (by
      rintro pre o post ρ hsp ⟨j5, rfl, hm, hlen⟩
      have hpl : pre.length ≤ acts.length := by
        have := congrArg List.length hsp
        simp at this
        omega
      have ho : o ∈ acts.map some ++ [none] := by rw [hsp]; simp
      have hpop := pop_loop hr (.im (.tup (clock.map tmE))) (.im (.tup (acts.map Ac.e))) (.im (oAc o)) (pre.foldl wq (clock, 0, [])).2.1 (pre.foldl wq (clock, 0, [])).1 (pre.foldl wq (clock, 0, [])).2.2 W__law_woven (by unfold W__law_woven; omega) (fun p hp => hk p (hm p hp)) (by omega)
      have hwl := wq_len (pre.foldl wq (clock, 0, [])) o
      refine ⟨[.im (.tup (clock.map tmE)), .im (.tup (acts.map Ac.e)), .im (.int ((pre ++ [o]).foldl wq (clock, 0, [])).2.1), .cl true (.lst (((pre ++ [o]).foldl wq (clock, 0, [])).1.map tmE)), .cl true (.lst (((pre ++ [o]).foldl wq (clock, 0, [])).2.2.map Ac.e)), .im (oAc o)], ?_, _, rfl, ?_, ?_⟩
      · rw [List.foldl_append]
        simp only [List.foldl_cons, List.foldl_nil]
        cases o with
        | none =>
          have := oEq_nil_t true [] (fun t h => by cases h)
          simp only [oAc] at hpop
          simp [oAc, hpop, this, wq]
        | some a =>
          have haa : a.ok chs top := by
            rcases List.mem_append.mp ho with h | h
            · obtain ⟨b, hb, e⟩ := List.mem_map.mp h
              exact Option.some.inj e ▸ ha b hb
            · simp at h
          have h2 := ac_nil hr true a haa
          have h3 := ac_wait hr false a haa
          simp only [wq, Option.toList, List.length_append, List.length_map] at hwl
          simp only [oAc] at hpop
          simp [oAc, hpop, h2, h3, wq]
          rw [if_pos (by simp at hwl; omega)]
          simp [h3]
      · rw [List.foldl_append]
        intro p hp
        exact hm p ((List.dropWhile_sublist _).subset hp)
      · rw [List.foldl_append]
        simp only [List.foldl_cons, List.foldl_nil, hwl, List.length_append, List.length_singleton]
        have : o.toList.length ≤ 1 := by cases o <;> simp
        omega)
  simp only [List.foldl_nil, List.map_nil] at h1
  rw [h1]
  simp
end Go
/-! M1 -/
set_option autoImplicit false
set_option maxRecDepth 100000
set_option linter.all false
namespace Go
open PySem L2 PX
/-! the draws -/
def IsPot (t : T) : Prop := ∃ a b c, t = .lst [.int a, .int b, .int c]
theorem draw_ok {p : T} (hp : IsPot p) {m : Int} (h1 : 0 < m) (h2 : m < 1073741824) : ∃ r p', P__law_draw p [.int m] = some (.int r, p') ∧ IsPot p' ∧ 0 ≤ r ∧ r < m := by
  obtain ⟨a, b, c, rfl⟩ := hp
  unfold P__law_draw runR B__law_draw
  by_cases ha : 0 < a
  · refine ⟨a % m, .lst [.int (a / m), .int b, .int c], ?_, ⟨_, _, _, rfl⟩, Int.emod_nonneg _ (by omega), Int.emod_lt_of_pos _ h1⟩
    have hd : cDiv a m = true := decide_eq_true ⟨h1, by omega⟩
    simp [oGt, ii, oDivmod, hd, setC, ixG, itC, atI, ixN, ha]
  · have q1 : -18446744073709551616 < b % 10007 + 20011 ∧ b % 10007 + 20011 < 18446744073709551616 := by omega
    refine ⟨(b * (b % 10007 + 20011) + 60013 * (c + 1) + 61) % 2147483563 / 97 % m, .lst [.int a, .int ((b * (b % 10007 + 20011) + 60013 * (c + 1) + 61) % 2147483563), .int (c + 1)], ?_, ⟨_, _, _, rfl⟩, Int.emod_nonneg _ (by omega), Int.emod_lt_of_pos _ h1⟩
    have k1 : cMul b (b % 10007 + 20011) = true := decide_eq_true (.inr (by omega))
    have k2 : cMul 60013 (c + 1) = true := decide_eq_true (.inl (by omega))
    simp [oGt, ii, setC, ixG, itC, atI, ixN, ha, h1, oAddG, oAdd, oMulG, oMul, iic, k1, k2, oMod, cMod, oDiv, cDiv, oInt]
/-- one of some -/
theorem pick_tup {p : T} (hp : IsPot p) {ts : List T} (h1 : 0 < ts.length) (h2 : ts.length < 1073741824) : ∃ t p', P__law_pick p [.tup ts] = some (t, p') ∧ IsPot p' ∧ t ∈ ts := by
  obtain ⟨r, p', e, hp', r0, r1⟩ := draw_ok hp (m := (ts.length : Int)) (by omega) (by omega)
  have hr : r.toNat < ts.length := by omega
  refine ⟨ts[r.toNat], p', ?_, hp', List.getElem_mem hr⟩
  unfold P__law_pick runR B__law_pick
  simp [oLen, e, oIt, oIx, atI, ixN, r0, r1, hr]
theorem pick_lst {p : T} (hp : IsPot p) {ts : List T} (h1 : 0 < ts.length) (h2 : ts.length < 1073741824) : ∃ t p', P__law_pick p [.lst ts] = some (t, p') ∧ IsPot p' ∧ t ∈ ts := by
  obtain ⟨r, p', e, hp', r0, r1⟩ := draw_ok hp (m := (ts.length : Int)) (by omega) (by omega)
  have hr : r.toNat < ts.length := by omega
  refine ⟨ts[r.toNat], p', ?_, hp', List.getElem_mem hr⟩
  unfold P__law_pick runR B__law_pick
  simp [oLen, e, oIt, oIx, atI, ixN, r0, r1, hr]
theorem pick_str {p : T} (hp : IsPot p) {z : Str} (h1 : 0 < z.length) (h2 : z.length ≤ 1000) : ∃ c p', P__law_pick p [.str z] = some (.str ⟨#[c]⟩, p') ∧ IsPot p' ∧ c ∈ z.cps.toList := by
  obtain ⟨r, p', e, hp', r0, r1⟩ := draw_ok hp (m := (z.length : Int)) (by omega) (by omega)
  have hl : z.cps.toList.length = z.length := by simp [Str.length]
  have hr : r.toNat < z.cps.toList.length := by omega
  have hr2 : r < (z.cps.toList.length : Int) := by omega
  refine ⟨z.cps.toList[r.toNat], p', ?_, hp', List.getElem_mem hr⟩
  have ix : atI z.cps.toList r = some z.cps.toList[r.toNat] := by
    unfold atI ixN
    rw [if_pos r0, if_pos hr2]
    exact List.getElem?_eq_getElem hr
  unfold P__law_pick runR B__law_pick
  simp only [List.length_cons, List.length_nil, List.map_cons, List.map_nil, List.replicate, List.cons_append, List.nil_append, ap_ret, ap_s2, ap_v, ap_sR, ap_acons, ap_anil, ap_sA, List.getElem?_cons_zero, List.getElem?_cons_succ, oLen, h2, if_true, e, List.set_cons_zero, oIt, oIx, ix]
end Go
/-! M2 -/
set_option autoImplicit false
set_option maxRecDepth 100000
set_option linter.all false
namespace Go
open PySem L2 PX
/-! names -/
def abc : Str := "abcdefghijklmnopqrstuvwxyz"
def Low (z : Str) : Prop := ∀ c ∈ z.cps.toList, c ∈ abc.cps.toList
theorem low_in : ∀ c ∈ abc.cps.toList, (Builtin.Str.occurrences abc ⟨#[c]⟩ 0 abc.length 1).isEmpty = false := by decide +kernel
theorem all_true {α : Type} (f : α → Bool) : ∀ (l : List α), (∀ x ∈ l, f x = true) → l.map (fun x => T.bl (f x)) = l.map (fun _ => T.bl true)
  | [], _ => rfl
  | x :: l, h => by rw [List.map_cons, List.map_cons, h x List.mem_cons_self, all_true f l fun y m => h y (List.mem_cons_of_mem _ m)]
theorem bls_rep : ∀ n : Nat, bls (List.replicate n (T.bl true)) = some (List.replicate n true)
  | 0 => rfl
  | n + 1 => by rw [List.replicate_succ, List.replicate_succ, bls, bls_rep n]
theorem low_bd : ∀ c ∈ abc.cps.toList, c < 0x110000 := by decide +kernel
theorem low_strOk {z : Str} (h : Low z) : PyData.strOk z = true := by
  unfold PyData.strOk
  rw [Array.all_eq_true']
  intro c hc
  exact decide_eq_true (low_bd c (h c (Array.mem_toList_iff.mpr hc)))
theorem word_ok {z : Str} (h0 : z ≠ "") (h1 : Low z) (h2 : z.length ≤ 1000) : P__law_is_word [.str z] = some (.bl true) := by
  unfold P__law_is_word runP B__law_is_word
  have hl : z.cps.toList.length = z.length := by simp [Str.length]
  have comp : lcl [1] (gn 1) tyes (s2 (v 1) (PX.c (T.str "abcdefghijklmnopqrstuvwxyz")) (oInG false)) (z.cps.toList.map fun c => T.str ⟨#[c]⟩) [] [Sl.im (T.str z), Sl.no] =
      some ([] ++ (z.cps.toList.map fun c => T.str ⟨#[c]⟩).map (fun _ => T.bl true), [Sl.im (T.str z), Sl.no]) := by
    refine lcl_map (fun _ => T.bl true) _ [] (fun t ht => ?_) (by rw [List.length_map, List.length_nil]; omega)
    obtain ⟨c, hc, rfl⟩ := List.mem_map.mp ht
    have hin := low_in c (h1 c hc)
    refine ⟨[Sl.im (T.str z), Sl.im (T.str ⟨#[c]⟩)], by simp, rfl, ?_, rfl⟩
    simp only [ap_s2, ap_v, ap_c, List.getElem?_cons_zero, List.getElem?_cons_succ, oInG]
    show some (T.bl (!(Builtin.Str.occurrences abc ⟨#[c]⟩ 0 abc.length 1).isEmpty), _) = _
    rw [hin]
    rfl
  have e0 : (z == "") = false := by simpa using h0
  have hb : bls ((z.cps.toList.map fun c => T.str ⟨#[c]⟩).map (fun _ => T.bl true)) = some (List.replicate z.cps.toList.length true) := by
    rw [List.map_map]
    have : (z.cps.toList.map ((fun _ => T.bl true) ∘ fun c => T.str ⟨#[c]⟩)) = List.replicate z.cps.toList.length (T.bl true) := by
      rw [List.eq_replicate_iff]
      exact ⟨by simp, fun b hb => by obtain ⟨_, _, rfl⟩ := List.mem_map.mp hb; rfl⟩
    rw [this, bls_rep]
  simp only [List.length_cons, List.length_nil, if_true, List.map_cons, List.map_nil, List.replicate, List.cons_append, List.nil_append, List.set_cons_succ, List.set_cons_zero, ap_ret, ap_vand, ap_s2, ap_v, ap_c, ap_sA, ap_acons, ap_anil, List.getElem?_cons_zero, oEq_str (a := z) (b := "") (low_strOk h1) (by decide +kernel), e0, Bool.not_false, ap_i1, ap_lc, i1, anyOf, chars, wipeR, lc, comp, oAll, hb]
  simp
def badL : List Str := ["all", "back", "black", "cue", "cut", "drop", "edit", "fade", "free", "go", "hold", "in", "jump", "no", "none", "now", "put", "snap", "to", "undo", "wait", "yes", "follow", "whole"]
theorem name_val {z : Str} (h0 : z ≠ "") (h1 : Low z) (h2 : z.length ≤ 1000) : P__law_is_name [.str z] = some (.bl (decide (z.length < 9) && !inV (.str z) (badL.map V.str))) := by
  unfold P__law_is_name runP B__law_is_name
  by_cases h : z.length < 9
  · have h' : (z.length : Int) < 9 := by omega
    simp [word_ok h0 h1 h2, oIsT, tyN, isB, knownTy, isA, mkLst, oAddG, oCat, oLen, h2, oLtG, oLt, ii, oInG, oIn, flat, flats, h, h', badL]
  · have h' : ¬ (z.length : Int) < 9 := by omega
    simp [word_ok h0 h1 h2, oIsT, tyN, isB, knownTy, isA, mkLst, oAddG, oCat, oLen, h2, oLtG, oLt, ii, h, h']
end Go
/-! M3 -/
set_option autoImplicit false
set_option maxRecDepth 100000
set_option linter.all false
namespace Go
open PySem L2 PX
theorem low_app {a b : Str} (ha : Low a) (hb : Low b) : Low (a ++ b) := by
  intro c hc
  have e : (a ++ b).cps.toList = a.cps.toList ++ b.cps.toList := by
    show (a.cps ++ b.cps).toList = _
    simp
  rw [e, List.mem_append] at hc
  rcases hc with h | h
  · exact ha c h
  · exact hb c h
theorem len_app (a b : Str) : (a ++ b).length = a.length + b.length := by
  show (a.cps ++ b.cps).size = _
  simp [Str.length]
theorem abc_len : abc.length = 26 := by decide +kernel
theorem rng1_mem {n : Int} (h : 0 ≤ n) (h2 : n < 1000) : rng1 [.int n] = some ((List.range n.toNat).map fun (i : Nat) => T.int (0 + (i : Int))) := by
  unfold rng1
  exact if_pos (by omega)
/-- the letters drawn for a name -/
theorem letters_loop {p : T} (hp : IsPot p) {tk : T} {x5 x6 x7 x4 : Sl} {n : Nat} (hn : n ≤ 20) :
    ∃ p' z y4, loop (gn 4) (bset 3 (im (s2 (v 3) (sR 0 (acons (v 2) (anil)) P__law_pick) oAddG))) ((List.range n).map fun (i : Nat) => T.int (0 + (i : Int))) [.cl false p, .im tk, .im (.str abc), .im (.str ""), x4, x5, x6, x7] = some (.nx [.cl false p', .im tk, .im (.str abc), .im (.str z), y4, x5, x6, x7]) ∧ IsPot p' ∧ Low z ∧ z.length = n := by
  have hlen : ((List.range n).map fun (i : Nat) => T.int (0 + (i : Int))).length = n := by simp
  obtain ⟨ρ', h1, p', z, y4, rfl, h2, h3, h4⟩ := loop_inv (g := gn 4) (f := bset 3 (im (s2 (v 3) (sR 0 (acons (v 2) (anil)) P__law_pick) oAddG)))
    (fun i ρ => ∃ p' z y4, ρ = [.cl false p', .im tk, .im (.str abc), .im (.str z), y4, x5, x6, x7] ∧ IsPot p' ∧ Low z ∧ z.length = i) ((List.range n).map fun (i : Nat) => T.int (0 + (i : Int))) 0 [.cl false p, .im tk, .im (.str abc), .im (.str ""), x4, x5, x6, x7]
    ⟨p, "", x4, rfl, hp, fun c hc => (by cases hc), rfl⟩ (fun i t ρ ht hI => by
      obtain ⟨p1, z, y4, rfl, q1, q2, q3⟩ := hI
      obtain ⟨c, p2, e, q4, q5⟩ := pick_str q1 (z := abc) (by rw [abc_len]; omega) (by rw [abc_len]; omega)
      have hi : i < n := by
        have := (List.getElem?_eq_some_iff.mp ht).1
        rw [hlen] at this
        exact this
      have one : (⟨#[c]⟩ : Str).length = 1 := rfl
      refine ⟨_, [.cl false p2, .im tk, .im (.str abc), .im (.str (z ++ ⟨#[c]⟩)), .im t, x5, x6, x7], rfl, .inl ?_, p2, z ++ ⟨#[c]⟩, .im t, rfl, q4, low_app q2 (fun d hd => ?_), by rw [len_app, q3, one]⟩
      · have hb : z.length + (⟨#[c]⟩ : Str).length ≤ 1000 := by rw [one, q3]; omega
        simp [gn, e, oAddG, oAddS, hb]
      · have : d = c := by simpa using hd
        rw [this]; exact q5)
  refine ⟨p', z, y4, h1, h2, h3, ?_⟩
  rw [hlen, Nat.zero_add] at h4
  exact h4
end Go
/-! M4 -/
set_option autoImplicit false
set_option maxRecDepth 100000
set_option linter.all false
namespace Go
open PySem L2 PX
/-- of distinct things within m there are no more than m has -/
theorem nodup_le {α : Type} [DecidableEq α] : ∀ {l m : List α}, l.Nodup → (∀ x ∈ l, x ∈ m) → l.length ≤ m.length
  | [], m, _, _ => Nat.zero_le _
  | x :: l, m, hn, hs => by
    have hx : x ∈ m := hs x List.mem_cons_self
    obtain ⟨h1, h2⟩ := List.nodup_cons.mp hn
    have := nodup_le (l := l) (m := m.erase x) h2 fun y hy => (List.mem_erase_of_ne (fun e : y = x => h1 (by rw [← e]; exact hy))).mpr (hs y (List.mem_cons_of_mem _ hy))
    rw [List.length_erase_of_mem hx] at this
    have hm : 0 < m.length := List.length_pos_of_mem hx
    rw [List.length_cons]
    omega
/-- words that differ in the last sign alone are two at most among the bad ones -/
theorem bad_two : ∀ b ∈ badL, (badL.filter fun x => decide (x.cps.toList.dropLast = b.cps.toList.dropLast)).length ≤ 2 := by decide +kernel
theorem app_cps (a b : Str) : (a ++ b).cps.toList = a.cps.toList ++ b.cps.toList := by
  show (a.cps ++ b.cps).toList = _
  simp
theorem app_inj {w : Str} {c d : Nat} (h : w ++ (⟨#[c]⟩ : Str) = w ++ (⟨#[d]⟩ : Str)) : c = d := by
  have h1 := congrArg (fun z : Str => z.cps.toList) h
  simp only [app_cps] at h1
  have h2 := List.append_cancel_left h1
  simpa using h2
theorem abc_nodup : abc.cps.toList.Nodup := by decide +kernel
theorem good_one (w : Str) (taken : List Str) (ht : taken.length ≤ 20) : ∃ c ∈ abc.cps.toList, w ++ (⟨#[c]⟩ : Str) ∉ badL ∧ w ++ (⟨#[c]⟩ : Str) ∉ taken := by
  refine Classical.byContradiction fun no => ?_
  have all : ∀ c ∈ abc.cps.toList, w ++ (⟨#[c]⟩ : Str) ∈ (badL.filter fun x => decide (x.cps.toList.dropLast = w.cps.toList)) ++ taken := fun c hc => by
    by_cases h1 : w ++ (⟨#[c]⟩ : Str) ∈ badL
    · refine List.mem_append.mpr (.inl (List.mem_filter.mpr ⟨h1, decide_eq_true ?_⟩))
      rw [app_cps]
      simp
    · by_cases h2 : w ++ (⟨#[c]⟩ : Str) ∈ taken
      · exact List.mem_append.mpr (.inr h2)
      · exact absurd ⟨c, hc, h1, h2⟩ no
  have two : (badL.filter fun x => decide (x.cps.toList.dropLast = w.cps.toList)).length ≤ 2 := by
    cases hf : badL.filter fun x => decide (x.cps.toList.dropLast = w.cps.toList) with
    | nil => simp
    | cons b r =>
      have hb : b ∈ badL.filter fun x => decide (x.cps.toList.dropLast = w.cps.toList) := by rw [hf]; exact List.mem_cons_self
      obtain ⟨b1, b2⟩ := List.mem_filter.mp hb
      have e : b.cps.toList.dropLast = w.cps.toList := of_decide_eq_true b2
      have := bad_two b b1
      rw [e, hf] at this
      exact this
  have hn : (abc.cps.toList.map fun c => w ++ (⟨#[c]⟩ : Str)).Nodup := List.pairwise_map.mpr (abc_nodup.imp fun h e => h (app_inj e))
  have := nodup_le hn fun x hx => by
    obtain ⟨c, hc, rfl⟩ := List.mem_map.mp hx
    exact all c hc
  rw [List.length_map, List.length_append] at this
  have l26 : abc.cps.toList.length = 26 := by decide +kernel
  omega
end Go
/-! ML -/
set_option autoImplicit false
set_option maxRecDepth 100000
set_option linter.all false
namespace PX
open PySem L2
@[simp] theorem fld_obj (c f : Str) (fts : List (Str × T)) : fld c f (.obj c fts) = fts.lookup f := by unfold fld; simp
@[simp] theorem bp_bput (i : Nat) (c f : Str) (fe : Rho → Option (T × Rho)) (ρ : Rho) {b0 : Bool} {t0 : T} (h : ρ[i]? = some (Sl.cl b0 t0)) : PX.bput i c f fe ρ = (fe ρ).bind fun p => (match p.2[i]? with
      | some (Sl.cl b (.obj c' fts)) => if c' = c ∧ fts.length < 1000 then some (.nx (p.2.set i (.cl b (.obj c' (putT f p.1 fts))))) else none
      | _ => none) := by
  unfold PX.bput
  rw [h]
  dsimp only
  cases fe ρ <;> rfl
@[simp] theorem outRN (n N : Nat) (f : Blk) (ts : List T) : runN n N f ts = if ts.length = n then (f (ts.map Sl.im ++ List.replicate (N - n) Sl.no)).bind outNN else none := by
  unfold runN
  by_cases h : ts.length = n
  case neg => exact (if_neg h).trans (if_neg h).symm
  rw [if_pos h, if_pos h]
  rcases f (ts.map Sl.im ++ List.replicate (N - n) Sl.no) with _ | o
  · rfl
  · cases o <;> rfl
/-- a loop all of whose turns go on, whatever they leave in the slots -/
theorem loop_pass {α : Type} {g : T → Rho → Option Rho} {f : Blk} (E : α → T) (R : Rho → Prop) : ∀ (xs : List α) (ρ : Rho), R ρ →
    (∀ (x : α) (ρ : Rho), x ∈ xs → R ρ → ∃ ρ2, (g (E x) ρ).bind f = some (.nx ρ2) ∧ R ρ2) → ∃ ρ', loop g f (xs.map E) ρ = some (.nx ρ') ∧ R ρ'
  | [], ρ, h0, _ => ⟨ρ, rfl, h0⟩
  | x :: xs, ρ, h0, hs => by
    obtain ⟨ρ2, h1, h3⟩ := hs x ρ List.mem_cons_self h0
    obtain ⟨ρ', h4, h5⟩ := loop_pass E R xs ρ2 h3 fun y ρ m => hs y ρ (List.mem_cons_of_mem _ m)
    refine ⟨ρ', ?_, h5⟩
    rw [List.map_cons]
    unfold loop
    cases e : g (E x) ρ with
    | none => rw [e] at h1; cases h1
    | some ρ1 =>
      rw [e, Option.bind_some] at h1
      dsimp only
      rw [h1]
      exact h4
end PX
namespace Go
open PySem L2 PX
@[simp] theorem whole_i (i : Int) : P_is_whole [.int i] = some (.bl true) := by unfold P_is_whole B_is_whole; simp
@[simp] theorem number_i (i lo hi : Int) : P_is_number [.int i, .int lo, .int hi] = some (.bl (decide (lo ≤ i) && decide (i ≤ hi))) := by
  unfold P_is_number B_is_number
  by_cases h : lo ≤ i <;> simp [h]
theorem need_number (i lo hi : Int) (h : lo ≤ i ∧ i ≤ hi) : P_need_number [.int i, .int lo, .int hi] = some .non := by
  unfold P_need_number B_need_number
  simp [h.1, h.2]
structure NmGood (z : Str) : Prop where
  ne : z ≠ ""
  low : Low z
  len : z.length ≤ 8
  word : oInK true k_WORDS (.str z) = some (.bl true)
theorem letters_ok {z : Str} (h0 : z ≠ "") (h1 : Low z) (h2 : z.length ≤ 1000) : P_are_letters [.str z] = some (.bl true) := by
  unfold P_are_letters B_are_letters
  have e0 : oEq true (.str z) (.str "") = some (.bl true) := by
    rw [oEq_str (low_strOk h1) (by decide +kernel)]
    have : (z == "") = false := by simpa using h0
    rw [this]; rfl
  have hl : z.cps.toList.length = z.length := by simp [Str.length]
  simp [e0]
  rw [lcl_fn (fun c => T.str ⟨#[c]⟩) (fun _ => T.bl true) z.cps.toList (fun c hc => by
    have hin := low_in c (h1 c hc)
    have : oInG false (.str ⟨#[c]⟩) t_LETTERS = some (.bl true) := by
      show some (T.bl (!(Builtin.Str.occurrences abc ⟨#[c]⟩ 0 abc.length 1).isEmpty)) = _
      rw [hin]; rfl
    simp [this]) (by omega)]
  have := oAll_map (fun _ : Nat => true) z.cps.toList
  simp [this]
theorem name_ok {z : Str} (h : NmGood z) : P_is_name [.str z] = some (.bl true) := by
  have h1 := letters_ok h.ne h.low (by have := h.len; omega)
  have h2 := h.word
  unfold P_is_name B_is_name
  have := h.len
  simp [h1, h2, t_LONGEST, show z.length ≤ 1000 by omega, show (z.length : Int) ≤ 8 by omega]
theorem wrong_name {chs : List Str} (hu : chs.Pairwise fun a b => a.cps.toList < b.cps.toList) (hg : ∀ c ∈ chs, NmGood c) : P_first_wrong_name [.tup (chs.map T.str)] = some .non := by
  unfold P_first_wrong_name B_first_wrong_name
  simp
  obtain ⟨ρ', h1, ⟨j1, j2, rfl⟩⟩ := loop_pass (g := gt 2 (gcons (gn 1) (gcons (gn 2) (gnil)))) (f := biff (tor (tnot (tb (sA (acons (v 2) (anil)) P_is_name))) (tand (tb (s2 (v 1) (c (.int 0)) (oGt))) (tb (s2 (v 2) (s2 (v 0) (s2 (v 1) (c (.int 1)) oSub) oIt) (oLeG))))) (ret (v 1)) (bnil))
    (fun q : T × Nat => T.tup [.int (q.2 : Int), q.1]) (fun ρ => ∃ j1 j2, ρ = [.im (.tup (chs.map T.str)), j1, j2]) (chs.map T.str).zipIdx _ ⟨.no, .no, rfl⟩ (by
      rintro ⟨x, i⟩ ρ hx ⟨j1, j2, rfl⟩
      have hi := List.mem_zipIdx_iff_getElem?.mp hx
      simp only [List.getElem?_map] at hi
      obtain ⟨cc, hcc, rfl⟩ := Option.map_eq_some_iff.mp hi
      have hn := name_ok (hg cc (List.mem_of_getElem? hcc))
      refine ⟨[.im (.tup (chs.map T.str)), .im (.int (i : Int)), .im (.str cc)], ?_, _, _, rfl⟩
      by_cases h0 : 0 < i
      · obtain ⟨dd, hdd⟩ : ∃ dd, chs[i - 1]? = some dd := ⟨_, List.getElem?_eq_getElem (by have := (List.getElem?_eq_some_iff.mp hcc).1; omega)⟩
        have hlt : dd.cps.toList < cc.cps.toList := by
          obtain ⟨a1, a2⟩ := List.getElem?_eq_some_iff.mp hcc
          obtain ⟨b1, b2⟩ := List.getElem?_eq_some_iff.mp hdd
          have := List.pairwise_iff_getElem.mp hu (i - 1) i b1 a1 (by omega)
          rwa [a2, b2] at this
        have e : (i : Int) - 1 = ((i - 1 : Nat) : Int) := by omega
        simp [hn, h0, e, hdd, hlt]
      · simp [hn, h0])
  rw [h1]
  simp
theorem need_channels_ok {chs : List Str} {top : Int} (hr : RigOk chs top) (hg : ∀ c ∈ chs, NmGood c) : P_need_channels [.tup (chs.map T.str)] = some .non := by
  have h1 := wrong_name hr.up hg
  have l1 := hr.l1
  have l2 := hr.l2
  unfold P_need_channels B_need_channels
  have hcut : cutT (chs.map T.str) none (some 8) = chs.map T.str := by
    rw [cut_to (by omega), List.take_of_length_le (by rw [List.length_map]; show _ ≤ 8; omega)]
  simp [t_MOST_CHANNELS, hcut, h1, show ¬ (8 : Int) < (chs.length : Int) by omega, show ¬ chs = [] by intro e; rw [e] at l1; simp at l1]
def rigO (chs : List Str) (top : Int) : T := .obj "Rig" [("channels", .tup (chs.map T.str)), ("top", .int top), ("parts", .tup [.tup (chs.map T.str), .int top])]
end Go
/-! MM -/
set_option autoImplicit false
set_option maxRecDepth 100000
set_option linter.all false
namespace Go
open PySem L2 PX
theorem rig_init {chs : List Str} {top : Int} (hr : RigOk chs top) (hg : ∀ c ∈ chs, NmGood c) : P_Rig___init__ (.obj "Rig" []) [.tup (chs.map T.str), .int top] = some (.non, rigO chs top) := by
  have h := need_channels_ok hr hg
  have h3 := need_number top 1 9 ⟨hr.t1, hr.t2⟩
  unfold P_Rig___init__ B_Rig___init__
  simp [h, h3, t_LEAST_TOP, t_MOST_TOP]
  rfl
theorem rig_ch (chs : List Str) (top : Int) : fld "Rig" "channels" (rigO chs top) = some (.tup (chs.map T.str)) := by rfl
theorem rig_top (chs : List Str) (top : Int) : fld "Rig" "top" (rigO chs top) = some (.int top) := by rfl
theorem rig_parts (chs : List Str) (top : Int) : fld "Rig" "parts" (rigO chs top) = some (.tup [.tup (chs.map T.str), .int top]) := by rfl
theorem rig_is (chs : List Str) (top : Int) : oIsO b_Rig c_Rig (rigO chs top) = some (.bl true) := by rfl
theorem need_rig_ok (chs : List Str) (top : Int) : P_need_rig [rigO chs top] = some .non := by
  unfold P_need_rig B_need_rig
  simp [rig_is]
theorem known_ok (chs : List Str) (c : Str) (h : c ∈ chs) : P_is_known [.str c, .tup (chs.map T.str)] = some (.bl true) := by
  unfold P_is_known B_is_known
  simp [h]
theorem level_ok (chs : List Str) (top l : Int) : P_is_level [rigO chs top, .int l] = some (.bl (decide (0 ≤ l) && decide (l ≤ top))) := by
  unfold P_is_level B_is_level
  simp [rig_top]
theorem move_ok (chs : List Str) (top : Int) (m : Str × Int) (h : m.1 ∈ chs ∧ 0 ≤ m.2 ∧ m.2 ≤ top) : P_is_move [rigO chs top, mkSI m] = some (.bl true) := by
  have h1 := known_ok chs m.1 h.1
  have h2 := level_ok chs top m.2
  unfold P_is_move B_is_move
  simp [mkSI, rig_ch, h1, h2, h.2.1, h.2.2]
theorem moves_ok (chs : List Str) (top : Int) (mv : List (Str × Int)) (h : ∀ m ∈ mv, m.1 ∈ chs ∧ 0 ≤ m.2 ∧ m.2 ≤ top) (hl : mv.length ≤ 8) (hu : (mv.map (·.1)).Pairwise fun a b => a.cps.toList < b.cps.toList) : P_are_moves [rigO chs top, .tup (mv.map mkSI)] = some (.bl true) := by
  unfold P_are_moves B_are_moves
  simp
  rw [lcl_fn mkSI (fun _ => T.bl true) mv (fun m hm => by simp [move_ok chs top m (h m hm)]) (by omega)]
  have h1 := oAll_map (fun _ : Str × Int => true) mv
  simp [h1]
  have hrg : rng2 [.int 1, .int (mv.length : Int)] = some ((List.range (mv.length - 1)).map fun (n : Nat) => T.int (1 + (n : Int))) := by
    unfold rng2
    dsimp only
    rw [if_pos (by omega)]
    rw [show ((mv.length : Int) - 1).toNat = mv.length - 1 by omega]
  rw [hrg]
  simp
  rw [lcl_fn (fun (n : Nat) => T.int (1 + (n : Int))) (fun _ => T.bl true) (List.range (mv.length - 1)) (fun n hn => by
    have hn' := List.mem_range.mp hn
    obtain ⟨a, ha⟩ : ∃ a, mv[n]? = some a := ⟨_, List.getElem?_eq_getElem (by omega)⟩
    obtain ⟨b, hb⟩ : ∃ b, mv[n + 1]? = some b := ⟨_, List.getElem?_eq_getElem (by omega)⟩
    have hlt : a.1.cps.toList < b.1.cps.toList := by
      have := List.pairwise_iff_getElem.mp hu n (n + 1) (by rw [List.length_map]; omega) (by rw [List.length_map]; omega) (by omega)
      obtain ⟨a1, a2⟩ := List.getElem?_eq_some_iff.mp ha
      obtain ⟨b1, b2⟩ := List.getElem?_eq_some_iff.mp hb
      simpa [a2, b2] using this
    have e4 : atI (mv.map mkSI) ((n : Int) + 1) = some (mkSI b) := by
      have := PX.atI_nat (mv.map mkSI) (n + 1)
      rw [List.getElem?_map, hb] at this
      exact this
    have e5 : atI (mv.map mkSI) (n : Int) = some (mkSI a) := by rw [PX.atI_nat, List.getElem?_map, ha]; rfl
    rw [show 1 + (n : Int) = (n : Int) + 1 by omega]
    simp [e4, e5, mkSI, hlt]) (by rw [List.length_range]; omega)]
  have h2 := oAll_map (fun _ : Nat => true) (List.range (mv.length - 1))
  simp [h2]
theorem cue_ok (chs : List Str) (top : Int) (c : Cu) (h : c.ok chs top) : P_is_cue [rigO chs top, c.e] = some (.bl true) := by
  have h1 := moves_ok chs top c.mv h.mv h.len h.up
  have h2 : P_is_cue_number [.int c.n] = some (.bl true) := by
    unfold P_is_cue_number B_is_cue_number
    simp [t_LEAST_NUMBER, t_MOST_NUMBER_cueforms, h.n.1, h.n.2]
  have h3 : P_is_follow [foE c.fo] = some (.bl true) := by
    unfold P_is_follow B_is_follow
    cases hf : c.fo with
    | none => simp [foE]
    | some f =>
      have := h.fo f hf
      simp [foE, t_LEAST_FOLLOW, t_MOST_FOLLOW, this.1, this.2]
  have h4 : P_is_truth [.bl c.wh] = some (.bl true) := by
    unfold P_is_truth B_is_truth
    simp
  unfold P_is_cue B_is_cue
  simp [Cu.e, t_PARTS, t_MOST_FADE, h1, h2, h3, h4, h.fd.1, h.fd.2]
theorem wrong_cue (chs : List Str) (top : Int) (cs : List Cu) (h : ∀ c ∈ cs, c.ok chs top) (hl : cs.length ≤ 20) (hu : cs.Pairwise fun a b => a.n < b.n) : P_first_wrong_cue [rigO chs top, .tup (cs.map Cu.e)] = some .non := by
  unfold P_first_wrong_cue B_first_wrong_cue
  simp
  obtain ⟨ρ', h1, ⟨j1, j2, rfl⟩⟩ := loop_pass (g := gt 2 (gcons (gn 2) (gcons (gn 3) (gnil)))) (f := bseq (biff (tor (tb (s2 (v 2) (c t_MOST_CUES) (oEq false))) (tnot (tb (sA (acons (v 0) (acons (v 3) (anil))) P_is_cue)))) (ret (v 2)) (bnil)) (biff (tand (tb (s2 (v 2) (c (.int 0)) (oGt))) (tb (s2 (s2 (v 3) (c (.int 0)) oIt) (s2 (s2 (v 1) (s2 (v 2) (c (.int 1)) oSub) oIt) (c (.int 0)) oIt) (oLeG)))) (ret (v 2)) (bnil)))
    (fun q : T × Nat => T.tup [.int (q.2 : Int), q.1]) (fun ρ => ∃ j1 j2, ρ = [.im (rigO chs top), .im (.tup (cs.map Cu.e)), j1, j2]) (cs.map Cu.e).zipIdx _ ⟨.no, .no, rfl⟩ (by
      rintro ⟨x, i⟩ ρ hx ⟨j1, j2, rfl⟩
      have hi := List.mem_zipIdx_iff_getElem?.mp hx
      simp only [List.getElem?_map] at hi
      obtain ⟨cc, hcc, rfl⟩ := Option.map_eq_some_iff.mp hi
      have hn := cue_ok chs top cc (h cc (List.mem_of_getElem? hcc))
      have hlt : i < cs.length := (List.getElem?_eq_some_iff.mp hcc).1
      refine ⟨[.im (rigO chs top), .im (.tup (cs.map Cu.e)), .im (.int (i : Int)), .im cc.e], ?_, _, _, rfl⟩
      have hcn : oIt cc.e (.int 0) = some (.int cc.n) := by simp [Cu.e]
      by_cases h0 : 0 < i
      · obtain ⟨dd, hdd⟩ : ∃ dd, cs[i - 1]? = some dd := ⟨_, List.getElem?_eq_getElem (by omega)⟩
        have hlt : dd.n < cc.n := by
          obtain ⟨a1, a2⟩ := List.getElem?_eq_some_iff.mp hcc
          obtain ⟨b1, b2⟩ := List.getElem?_eq_some_iff.mp hdd
          have := List.pairwise_iff_getElem.mp hu (i - 1) i b1 a1 (by omega)
          rwa [a2, b2] at this
        have e : (i : Int) - 1 = ((i - 1 : Nat) : Int) := by omega
        have hdn : oIt dd.e (.int 0) = some (.int dd.n) := by simp [Cu.e]
        simp [hn, h0, e, hdd, hcn, hdn, t_MOST_CUES, show ¬ (i : Int) = 20 by omega, show ¬ cc.n ≤ dd.n by omega]
      · simp [hn, h0, t_MOST_CUES, show ¬ (i : Int) = 20 by omega])
  rw [h1]
  simp
theorem need_cues_ok (chs : List Str) (top : Int) (cs : List Cu) (h : ∀ c ∈ cs, c.ok chs top) (hl : cs.length ≤ 20) (hu : cs.Pairwise fun a b => a.n < b.n) : P_need_cues [rigO chs top, .tup (cs.map Cu.e)] = some .non := by
  have := wrong_cue chs top cs h hl hu
  unfold P_need_cues B_need_cues
  simp [this]
end Go
/-! MN -/
set_option autoImplicit false
set_option maxRecDepth 100000
set_option linter.all false
namespace PX
open PySem L2
theorem dcl_fil {α : Type} {vs : List Nat} {g : T → Rho → Option Rho} {ft : Rho → Option (Bool × Rho)} {fk fe : Rho → Option (T × Rho)} {ρ : Rho} (E : α → T) (k : α → Key) (F : α → T) (c : α → Bool) (xs : List α)
    (h : ∀ x ∈ xs, ((g (E x) ρ).bind fun ρ1 => (ft ρ1).bind fun p => if p.1 = true then (fk p.2).bind fun y => (fe y.2).bind fun q => (keyT y.1).bind fun kk => some (some (kk, q.1), wipeR q.2 vs) else some (none, wipeR p.2 vs)) = some (if c x = true then some (k x, F x) else none, ρ)) (hn : (xs.map k).Nodup) (hl : xs.length ≤ 1000) :
    dcl vs g ft fk fe (xs.map E) [] ρ = some ((xs.filter c).map (fun x => (k x, F x)), ρ) := by
  suffices ∀ (ys : List α) (acc : List (Key × T)), (∀ x ∈ ys, x ∈ xs) → (ys.map k).Nodup → (∀ y ∈ ys, ∀ kt ∈ acc, kt.1 ≠ k y) → acc.length + ys.length ≤ 1000 → dcl vs g ft fk fe (ys.map E) acc ρ = some (acc ++ (ys.filter c).map (fun x => (k x, F x)), ρ) by
    simpa using this xs [] (fun _ h => h) hn (fun _ _ _ h => by cases h) (by simpa using hl)
  intro ys
  induction ys with
  | nil => intro acc _ _ _ _; simp [dcl]
  | cons y ys ih =>
    intro acc hm hnd hac hl
    have h1 := h y (hm y List.mem_cons_self)
    rw [List.length_cons] at hl
    rw [List.map_cons]
    have hnd' := List.nodup_cons.mp hnd
    unfold dcl
    cases e1 : g (E y) ρ with
    | none => rw [e1] at h1; cases h1
    | some ρ1 =>
      rw [e1, Option.bind_some] at h1
      dsimp only
      cases e2 : ft ρ1 with
      | none => rw [e2] at h1; cases h1
      | some p =>
        obtain ⟨b, ρ2⟩ := p
        rw [e2, Option.bind_some] at h1
        cases b with
        | false =>
          dsimp only at h1 ⊢
          have h2 := Option.some.inj h1
          have h3 : none = (if c y = true then some (k y, F y) else none) := congrArg (·.1) h2
          have h4 : wipeR ρ2 vs = ρ := congrArg (·.2) h2
          have hc : c y = false := by
            cases z : c y with
            | false => rfl
            | true => rw [z] at h3; cases h3
          rw [h4, ih acc (fun u m => hm u (List.mem_cons_of_mem _ m)) hnd'.2 (fun u hu => hac u (List.mem_cons_of_mem _ hu)) (by omega), List.filter_cons_of_neg (by rw [hc]; decide)]
        | true =>
          dsimp only at h1 ⊢
          rw [if_pos rfl] at h1
          cases e3 : fk ρ2 with
          | none => rw [e3] at h1; cases h1
          | some q =>
            obtain ⟨u, ρ3⟩ := q
            rw [e3, Option.bind_some] at h1
            dsimp only at h1 ⊢
            cases e4 : fe ρ3 with
            | none => rw [e4] at h1; cases h1
            | some q2 =>
              obtain ⟨w, ρ4⟩ := q2
              rw [e4, Option.bind_some] at h1
              dsimp only at h1 ⊢
              cases e5 : keyT u with
              | none => rw [e5] at h1; cases h1
              | some kk =>
                rw [e5, Option.bind_some] at h1
                have h2 := Option.some.inj h1
                have h3 : some (kk, w) = (if c y = true then some (k y, F y) else none) := congrArg (·.1) h2
                have h4 : wipeR ρ4 vs = ρ := congrArg (·.2) h2
                have hc : c y = true := by
                  cases z : c y with
                  | true => rfl
                  | false => rw [z] at h3; cases h3
                rw [hc, if_pos rfl] at h3
                cases h3
                dsimp only
                rw [if_pos (by omega), h4, Go.putKT_new (hac y List.mem_cons_self), ih (acc ++ [(k y, F y)]) (fun u m => hm u (List.mem_cons_of_mem _ m)) hnd'.2 (fun u hu kt hkt => by
                  rcases List.mem_append.mp hkt with z | z
                  · exact hac u (List.mem_cons_of_mem _ hu) kt z
                  · rw [List.mem_singleton.mp z]
                    intro e
                    exact hnd'.1 (List.mem_map.mpr ⟨u, hu, e.symm⟩)) (by rw [List.length_append, List.length_singleton]; omega), List.filter_cons_of_pos hc]
                simp
theorem dcl_fn {α : Type} {vs : List Nat} {g : T → Rho → Option Rho} {ft : Rho → Option (Bool × Rho)} {fk fe : Rho → Option (T × Rho)} {ρ : Rho} (E : α → T) (k : α → Key) (F : α → T) (xs : List α)
    (h : ∀ x ∈ xs, ((g (E x) ρ).bind fun ρ1 => (ft ρ1).bind fun p => if p.1 = true then (fk p.2).bind fun y => (fe y.2).bind fun q => (keyT y.1).bind fun kk => some (some (kk, q.1), wipeR q.2 vs) else some (none, wipeR p.2 vs)) = some (some (k x, F x), ρ)) (hn : (xs.map k).Nodup) (hl : xs.length ≤ 1000) :
    dcl vs g ft fk fe (xs.map E) [] ρ = some (xs.map (fun x => (k x, F x)), ρ) := by
  have := dcl_fil E k F (fun _ => true) xs (fun x hx => by simpa using h x hx) hn hl
  rw [List.filter_eq_self.mpr (fun _ _ => rfl)] at this
  exact this
@[simp] theorem putT_nil (f : Str) (t : T) : putT f t [] = [(f, t)] := rfl
@[simp] theorem putR1 (a0 a1 : T) : putT "top" a1 [(("channels" : Str), a0)] = [(("channels" : Str), a0), (("top" : Str), a1)] := by rfl
@[simp] theorem putR2 (a0 a1 a2 : T) : putT "parts" a2 [(("channels" : Str), a0), (("top" : Str), a1)] = [(("channels" : Str), a0), (("top" : Str), a1), (("parts" : Str), a2)] := by rfl
@[simp] theorem putC1 (a0 a1 : T) : putT "cues" a1 [(("rig" : Str), a0)] = [(("rig" : Str), a0), (("cues" : Str), a1)] := by rfl
@[simp] theorem putC2 (a0 a1 a2 : T) : putT "parts" a2 [(("rig" : Str), a0), (("cues" : Str), a1)] = [(("rig" : Str), a0), (("cues" : Str), a1), (("parts" : Str), a2)] := by rfl
@[simp] theorem putC3 (a0 a1 a2 a3 : T) : putT "means" a3 [(("rig" : Str), a0), (("cues" : Str), a1), (("parts" : Str), a2)] = [(("rig" : Str), a0), (("cues" : Str), a1), (("parts" : Str), a2), (("means" : Str), a3)] := by rfl
@[simp] theorem putC4 (a0 a1 a2 a3 a4 : T) : putT "places" a4 [(("rig" : Str), a0), (("cues" : Str), a1), (("parts" : Str), a2), (("means" : Str), a3)] = [(("rig" : Str), a0), (("cues" : Str), a1), (("parts" : Str), a2), (("means" : Str), a3), (("places" : Str), a4)] := by rfl
@[simp] theorem putS1 (a0 a1 : T) : putT "back" a1 [(("cues" : Str), a0)] = [(("cues" : Str), a0), (("back" : Str), a1)] := by rfl
@[simp] theorem putS2 (a0 a1 a2 : T) : putT "rows" a2 [(("cues" : Str), a0), (("back" : Str), a1)] = [(("cues" : Str), a0), (("back" : Str), a1), (("rows" : Str), a2)] := by rfl
@[simp] theorem putS3 (a0 a1 a2 a3 : T) : putT "channels" a3 [(("cues" : Str), a0), (("back" : Str), a1), (("rows" : Str), a2)] = [(("cues" : Str), a0), (("back" : Str), a1), (("rows" : Str), a2), (("channels" : Str), a3)] := by rfl
@[simp] theorem putS4 (a0 a1 a2 a3 a4 : T) : putT "means" a4 [(("cues" : Str), a0), (("back" : Str), a1), (("rows" : Str), a2), (("channels" : Str), a3)] = [(("cues" : Str), a0), (("back" : Str), a1), (("rows" : Str), a2), (("channels" : Str), a3), (("means" : Str), a4)] := by rfl
@[simp] theorem putS5 (a0 a1 a2 a3 a4 a5 : T) : putT "places" a5 [(("cues" : Str), a0), (("back" : Str), a1), (("rows" : Str), a2), (("channels" : Str), a3), (("means" : Str), a4)] = [(("cues" : Str), a0), (("back" : Str), a1), (("rows" : Str), a2), (("channels" : Str), a3), (("means" : Str), a4), (("places" : Str), a5)] := by rfl
@[simp] theorem putS6 (a0 a1 a2 a3 a4 a5 a6 : T) : putT "everybody" a6 [(("cues" : Str), a0), (("back" : Str), a1), (("rows" : Str), a2), (("channels" : Str), a3), (("means" : Str), a4), (("places" : Str), a5)] = [(("cues" : Str), a0), (("back" : Str), a1), (("rows" : Str), a2), (("channels" : Str), a3), (("means" : Str), a4), (("places" : Str), a5), (("everybody" : Str), a6)] := by rfl
@[simp] theorem putS7 (a0 a1 a2 a3 a4 a5 a6 a7 : T) : putT "senders" a7 [(("cues" : Str), a0), (("back" : Str), a1), (("rows" : Str), a2), (("channels" : Str), a3), (("means" : Str), a4), (("places" : Str), a5), (("everybody" : Str), a6)] = [(("cues" : Str), a0), (("back" : Str), a1), (("rows" : Str), a2), (("channels" : Str), a3), (("means" : Str), a4), (("places" : Str), a5), (("everybody" : Str), a6), (("senders" : Str), a7)] := by rfl
@[simp] theorem keyT_int (i : Int) : keyT (.int i) = some (.inl i) := rfl
@[simp] theorem keyT_str (x : Str) : keyT (.str x) = some (.inr x) := rfl
end PX
namespace Go
open PySem L2 PX
theorem mvFold_hlk : ∀ (mv : List (Str × Int)) (f : Str → Int) (c : Str), (mv.map (·.1)).Nodup → mvFold f mv c = (hlk mv c).getD (f c)
  | [], f, c, _ => rfl
  | m :: r, f, c, h => by
    have h' := List.nodup_cons.mp h
    rw [mvFold_cons, mvFold_hlk r _ c h'.2]
    unfold hlk
    rw [List.find?_cons]
    by_cases e : m.1 = c
    · rw [decide_eq_true e]
      have : r.find? (fun m => decide (m.1 = c)) = none := by
        rw [List.find?_eq_none]
        intro x hx
        simp
        intro z
        exact h'.1 (List.mem_map.mpr ⟨x, hx, z.trans e.symm⟩)
      rw [this]
      simp [e.symm]
    · rw [decide_eq_false e]
      simp [show ¬ c = m.1 from fun z => e z.symm]
theorem inr_nd {α : Type} (k : α → Str) (l : List α) (h : (l.map k).Nodup) : (l.map fun x => (Sum.inr (k x) : Key)).Nodup := by
  rw [List.Nodup, List.pairwise_map] at h ⊢
  exact h.imp fun {a b} e z => e (Sum.inr.inj z)
theorem inl_nd {α : Type} (k : α → Int) (l : List α) (h : (l.map k).Nodup) : (l.map fun x => (Sum.inl (k x) : Key)).Nodup := by
  rw [List.Nodup, List.pairwise_map] at h ⊢
  exact h.imp fun {a b} e z => e (Sum.inl.inj z)
def lvT (chs : List Str) (f : Str → Int) : T := .tup (chs.map fun c => .int (f c))
theorem meaning_behind (chs : List Str) (top : Int) (f : Str → Int) (c : Cu) (h : c.ok chs top) (hl : chs.length ≤ 8) : P_meaning_behind [rigO chs top, lvT chs f, c.e] = some (lvT chs (mvFold f c.mv)) := by
  unfold P_meaning_behind B_meaning_behind
  simp [Cu.e, lvT]
  rw [dcl_fn mkSI (fun m => Sum.inr m.1) (fun m => .int m.2) c.mv (fun m hm => by simp [mkSI]) (inr_nd (fun m : Str × Int => m.1) _ (up_nd h.up)) (by have := h.len; omega)]
  simp [rig_ch]
  rw [List.zip_map', List.map_map]
  rw [lcl_fn _ (fun ch => T.int (mvFold f c.mv ch)) chs (fun ch hch => by
    have e := hlk_lk c.mv ch (f ch)
    have e2 := mvFold_hlk c.mv f ch (up_nd h.up)
    simp [e, e2]) (by omega)]
  simp
def meanT (chs : List Str) (cs : List Cu) (k : Nat) : T := lvT chs (cuFold (fun _ => 0) (cs.take k))
theorem meanings_ok (chs : List Str) (top : Int) (cs : List Cu) (hr : RigOk chs top) (h : ∀ c ∈ cs, c.ok chs top) (hl : cs.length ≤ 20) : P_meanings [rigO chs top, .tup (cs.map Cu.e)] = some (.tup ((List.range (cs.length + 1)).map (meanT chs cs))) := by
  have h0 := oMulG_rep (.int 0) chs.length hr.l1 (by have := hr.l2; omega)
  unfold P_meanings B_meanings
  simp [rig_ch, h0]
  obtain ⟨ρ', h1, ⟨j3, rfl⟩⟩ := loop_ix (g := gn 3) (f := drop (sBC "list" 2 (acons (sA (acons (v 0) (acons (ixG 2 (s1 (c (.int 1)) oNeg)) (acons (v 3) (anil)))) P_meaning_behind) (anil)) oAppend)) Cu.e
    (fun (pre : List Cu) ρ => ∃ j3, ρ = [.im (rigO chs top), .im (.tup (cs.map Cu.e)), .cl true (.lst ((List.range (pre.length + 1)).map (meanT chs cs))), j3]) cs [] cs _ rfl ⟨.no, rfl⟩ (by
      rintro pre c post ρ hsp ⟨j3, rfl⟩
      have hlen : pre.length < cs.length := by rw [hsp]; simp
      have ok := h c (by rw [hsp]; simp)
      have hm := meaning_behind chs top (cuFold (fun _ => 0) (cs.take pre.length)) c ok hr.l2
      have e : mvFold (cuFold (fun _ => 0) (cs.take pre.length)) c.mv = cuFold (fun _ => 0) (cs.take (pre.length + 1)) := by
        rw [List.take_add_one, show cs[pre.length]? = some c by rw [hsp]; simp]
        unfold cuFold
        simp
      rw [e] at hm
      refine ⟨[.im (rigO chs top), .im (.tup (cs.map Cu.e)), .cl true (.lst ((List.range ((pre ++ [c]).length + 1)).map (meanT chs cs))), .im c.e], ?_, _, rfl⟩
      rw [List.length_append, List.length_singleton, List.range_succ, List.map_append, List.map_singleton, show pre.length + 1 + 1 = (pre.length + 1) + 1 from rfl, List.range_succ (n := pre.length + 1), List.map_append, List.range_succ, List.map_append]
      have hm' : P_meaning_behind [rigO chs top, meanT chs cs pre.length, c.e] = some (meanT chs cs (pre.length + 1)) := hm
      have hb : pre.length + 1 < 1000 := by omega
      simp [hm', hb])
  have e0 : meanT chs cs 0 = .tup (List.replicate chs.length (.int 0)) := by
    unfold meanT lvT cuFold
    simp
    exact List.eq_replicate_iff.mpr ⟨by simp, fun b hb => by obtain ⟨_, _, rfl⟩ := List.mem_map.mp hb; rfl⟩
  have e1 : (List.range (([] : List Cu).length + 1)).map (meanT chs cs) = [.tup (List.replicate chs.length (.int 0))] := by
    simp [List.range_succ, e0]
  rw [e1] at h1
  rw [h1]
  simp
end Go
namespace Go
open PySem L2 PX
def placesT (cs : List Cu) : T := .dct (cs.zipIdx.map fun q => (Sum.inl q.1.n, .int (q.2 : Int)))
def clF (chs : List Str) (top : Int) (cs : List Cu) : List (Str × T) := [("rig", rigO chs top), ("cues", .tup (cs.map Cu.e)), ("parts", .tup [.tup [.tup (chs.map T.str), .int top], .tup (cs.map Cu.e)]), ("means", .tup ((List.range (cs.length + 1)).map (meanT chs cs))), ("places", placesT cs)]
def clO (chs : List Str) (top : Int) (cs : List Cu) : T := .obj "CueList" (clF chs top cs)
theorem places_dcl (cs : List Cu) (hu : cs.Pairwise fun a b => a.n < b.n) : (cs.zipIdx.map fun q => q.1.n).Nodup := by
  rw [show (fun q : Cu × Nat => q.1.n) = (fun c : Cu => c.n) ∘ Prod.fst from rfl, ← List.map_map, List.zipIdx_map_fst, List.Nodup, List.pairwise_map]
  exact hu.imp fun {a b} h e => by omega
theorem cues_init (chs : List Str) (top : Int) (cs : List Cu) (hr : RigOk chs top) (h : ∀ c ∈ cs, c.ok chs top) (hl : cs.length ≤ 20) (hu : cs.Pairwise fun a b => a.n < b.n) :
    P_CueList___init__ (.obj "CueList" []) [rigO chs top, .tup (cs.map Cu.e)] = some (.non, clO chs top cs) := by
  have h1 := need_rig_ok chs top
  have h2 := need_cues_ok chs top cs h hl hu
  have h3 := meanings_ok chs top cs hr h hl
  unfold P_CueList___init__ B_CueList___init__
  simp [h1, h2, h3, rig_parts]
  rw [List.zipIdx_map, List.map_map]
  have hd := fun ρ hρ => dcl_fn (vs := [3, 4]) (g := gt 2 (gcons (gn 3) (gcons (gn 4) gnil))) (ft := tyes) (fk := s2 (v 4) (c (.int 0)) oIt) (fe := v 3) (ρ := ρ) ((fun q : T × Nat => T.tup [.int (q.2 : Int), q.1]) ∘ Prod.map Cu.e id) (fun q : Cu × Nat => Sum.inl q.1.n) (fun q => .int (q.2 : Int)) cs.zipIdx hρ (inl_nd (fun q : Cu × Nat => q.1.n) _ (places_dcl cs hu)) (by simp; omega)
  rw [hd _ (fun x hx => by simp [Cu.e])]
  simp
  rfl
end Go
/-! MO -/
set_option autoImplicit false
set_option maxRecDepth 100000
set_option linter.all false
namespace PX
open PySem L2
theorem oInG_dI (neg : Bool) (i : Int) (kts : List (Key × T)) : oInG neg (.int i) (.dct kts) = some (.bl (if neg then !(lkT kts (.inl i)).isSome else (lkT kts (.inl i)).isSome)) := by unfold oInG; rfl
theorem oInG_dS (neg : Bool) (i : Str) (kts : List (Key × T)) : oInG neg (.str i) (.dct kts) = some (.bl (if neg then !(lkT kts (.inr i)).isSome else (lkT kts (.inr i)).isSome)) := by unfold oInG; rfl
theorem lkT_mapI {α : Type} (k : α → Int) (v : α → T) (l : List α) (c : Int) : lkT (l.map fun m => ((Sum.inl (k m) : Key), v m)) (Sum.inl c) = (l.find? fun m => decide (k m = c)).map v := by
  unfold lkT
  rw [List.find?_map, Option.map_map]
  have : ((fun kt : Key × T => decide (kt.1 = Sum.inl c)) ∘ fun m => ((Sum.inl (k m) : Key), v m)) = fun m => decide (k m = c) := by
    funext m
    show decide ((Sum.inl (k m) : Key) = Sum.inl c) = _
    by_cases h : k m = c
    · rw [h]; simp
    · rw [decide_eq_false h, decide_eq_false (fun z => h (Sum.inl.inj z))]
  rw [this]
  rfl
end PX
namespace Go
open PySem L2 PX
def sendD (chs : List Str) (S : Str → Bool) : T := .dct ((chs.zipIdx.filter fun q => S q.1).map fun q => (Sum.inl (q.2 : Int), .bl true))
theorem in_sendD {chs : List Str} {S : Str → Bool} {i : Nat} {c : Str} (h : chs[i]? = some c) : oInG false (.int (i : Int)) (sendD chs S) = some (.bl (S c)) := by
  unfold sendD
  rw [oInG_dI, lkT_mapI (fun q : Str × Nat => (q.2 : Int)) (fun _ => T.bl true)]
  have : ((chs.zipIdx.filter fun q => S q.1).find? fun q => decide ((q.2 : Int) = (i : Int))).isSome = S c := by
    rw [Bool.eq_iff_iff, List.find?_isSome]
    constructor
    · rintro ⟨q, hq, e⟩
      obtain ⟨h1, h2⟩ := List.mem_filter.mp hq
      have h3 := List.mem_zipIdx_iff_getElem?.mp h1
      have h4 : q.2 = i := by have := of_decide_eq_true e; omega
      rw [h4, h] at h3
      cases h3; exact h2
    · intro hS
      exact ⟨(c, i), List.mem_filter.mpr ⟨List.mem_zipIdx_iff_getElem?.mpr h, hS⟩, decide_eq_true rfl⟩
  rw [Option.isSome_map, this]
  rfl
theorem every_eq (chs : List Str) : T.dct ((List.range chs.length).map fun (i : Nat) => ((Sum.inl (i : Int) : Key), T.bl true)) = sendD chs fun _ => true := by
  unfold sendD
  rw [List.filter_eq_self.mpr (fun _ _ => rfl), show (fun q : Str × Nat => ((Sum.inl (q.2 : Int) : Key), T.bl true)) = (fun (i : Nat) => ((Sum.inl (i : Int) : Key), T.bl true)) ∘ Prod.snd from rfl, ← List.map_map, List.zipIdx_map_snd, List.range_eq_range']
def scF7 (chs : List Str) (top : Int) (cs : List Cu) (back : Int) : List (Str × T) := [("cues", clO chs top cs), ("back", .int back), ("rows", .tup (cs.map Cu.e)), ("channels", .tup (chs.map T.str)), ("means", .tup ((List.range (cs.length + 1)).map (meanT chs cs))), ("places", placesT cs), ("everybody", sendD chs fun _ => true)]
def scF (chs : List Str) (top : Int) (cs : List Cu) (back : Int) : List (Str × T) := [("cues", clO chs top cs), ("back", .int back), ("rows", .tup (cs.map Cu.e)), ("channels", .tup (chs.map T.str)), ("means", .tup ((List.range (cs.length + 1)).map (meanT chs cs))), ("places", placesT cs), ("everybody", sendD chs fun _ => true), ("senders", .lst (cs.map fun c => sendD chs (sends c)))]
def scO (chs : List Str) (top : Int) (cs : List Cu) (back : Int) : T := .obj "Score" (scF chs top cs back)
theorem range_nd (n : Nat) : ((List.range n).map fun (i : Nat) => ((i : Int))).Nodup := by
  rw [List.Nodup, List.pairwise_map]
  exact List.nodup_range.imp fun {a b} h e => h (by omega)
theorem zip_nd (chs : List Str) : (chs.zipIdx.map fun q => ((q.2 : Int))).Nodup := by
  rw [show (fun q : Str × Nat => (q.2 : Int)) = (fun (i : Nat) => (i : Int)) ∘ Prod.snd from rfl, ← List.map_map, List.zipIdx_map_snd, ← List.range_eq_range']
  exact range_nd _
theorem senders_ok (chs : List Str) (top : Int) (cs : List Cu) (back : Int) (cu : Cu) (hl : chs.length ≤ 8) (h : cu.ok chs top) : P_Score_senders_of (.obj "Score" (scF7 chs top cs back)) [cu.e] = some (sendD chs (sends cu), .obj "Score" (scF7 chs top cs back)) := by
  have e1 : (scF7 chs top cs back).lookup ("everybody" : Str) = some (sendD chs fun _ => true) := by rfl
  have e2 : (scF7 chs top cs back).lookup ("channels" : Str) = some (.tup (chs.map T.str)) := by rfl
  unfold P_Score_senders_of B_Score_senders_of
  cases hw : cu.wh with
  | true =>
    have hS : sends cu = fun _ => true := by funext x; unfold sends; rw [hw]; rfl
    simp [Cu.e, hw, e1, hS]
  | false =>
    simp [Cu.e, hw, e2]
    rw [dcl_fn mkSI (fun m => Sum.inr m.1) (fun _ => .bl true) cu.mv (fun m hm => by simp [mkSI]) (inr_nd (fun m : Str × Int => m.1) _ (up_nd h.up)) (by have := h.len; omega)]
    simp [e2]
    rw [List.zipIdx_map, List.map_map]
    rw [dcl_fil ((fun q : T × Nat => T.tup [.int (q.2 : Int), q.1]) ∘ Prod.map T.str id) (fun q : Str × Nat => Sum.inl (q.2 : Int)) (fun _ => .bl true) (fun q => sends cu q.1) chs.zipIdx (fun q hq => by
      have hin : oInG false (.str q.1) (.dct (cu.mv.map fun m => ((Sum.inr m.1 : Key), T.bl true))) = some (.bl (sends cu q.1)) := by
        rw [oInG_dS, lkT_map (fun m : Str × Int => m.1) (fun _ => T.bl true), Option.isSome_map]
        have : (cu.mv.find? fun m => decide (m.1 = q.1)).isSome = sends cu q.1 := by
          unfold sends
          rw [hw, Bool.false_or, Bool.eq_iff_iff, List.find?_isSome, decide_eq_true_iff]
          constructor
          · rintro ⟨m, hm, e⟩; exact List.mem_map.mpr ⟨m, hm, of_decide_eq_true e⟩
          · intro hm; obtain ⟨m, hm, e⟩ := List.mem_map.mp hm; exact ⟨m, hm, decide_eq_true e⟩
        rw [this]; rfl
      cases hz : sends cu q.1 <;> simp [hin, hz]) (inl_nd (fun q : Str × Nat => (q.2 : Int)) _ (zip_nd chs)) (by simp; omega)]
    simp [sendD]
theorem score_init (chs : List Str) (top : Int) (cs : List Cu) (back : Int) (hl : chs.length ≤ 8) (hc : ∀ c ∈ cs, c.ok chs top) (hlc : cs.length ≤ 20) : P_Score___init__ (.obj "Score" []) [clO chs top cs, .int back] = some (.non, scO chs top cs back) := by
  have f1 : fld "CueList" "cues" (clO chs top cs) = some (.tup (cs.map Cu.e)) := by rfl
  have f2 : fld "CueList" "rig" (clO chs top cs) = some (rigO chs top) := by rfl
  have f3 : fld "CueList" "means" (clO chs top cs) = some (.tup ((List.range (cs.length + 1)).map (meanT chs cs))) := by rfl
  have f4 : fld "CueList" "places" (clO chs top cs) = some (placesT cs) := by rfl
  unfold P_Score___init__ B_Score___init__
  simp [f1, f2, f3, f4, rig_ch]
  have e2 : List.lookup ("channels" : Str) [(("cues" : Str), clO chs top cs), ("back", .int back), ("rows", .tup (cs.map Cu.e)), ("channels", .tup (chs.map T.str)), ("means", .tup ((List.range (cs.length + 1)).map (meanT chs cs))), ("places", placesT cs)] = some (.tup (chs.map T.str)) := by rfl
  rw [e2]
  simp
  rw [rng1_nat _ (by omega)]
  simp
  rw [dcl_fn (fun (i : Nat) => T.int (i : Int)) (fun (i : Nat) => Sum.inl (i : Int)) (fun _ => .bl true) (List.range chs.length) (fun i hi => by simp) (inl_nd (fun (i : Nat) => (i : Int)) _ (range_nd _)) (by simp; omega)]
  simp
  rw [every_eq]
  have e3 : List.lookup ("rows" : Str) (scF7 chs top cs back) = some (.tup (cs.map Cu.e)) := by rfl
  have e4 : List.lookup ("senders_of" : Str) (scF7 chs top cs back) = none := by rfl
  change _ = _ at e3
  unfold scF7 at e3 e4
  rw [e3]
  simp
  rw [lcl_fn Cu.e (fun cu => sendD chs (sends cu)) cs (fun cu hcu => by
    have := senders_ok chs top cs back cu hl (hc cu hcu)
    unfold scF7 at this
    simp [e4, this]) (by omega)]
  simp
  rfl
end Go
/-! MP -/
set_option autoImplicit false
set_option maxRecDepth 100000
set_option linter.all false
namespace Go
open PySem L2 PX
section
variable (chs : List Str) (top : Int) (cs : List Cu) (back : Int)
theorem sc_rows : (scF chs top cs back).lookup ("rows" : Str) = some (.tup (cs.map Cu.e)) := by rfl
theorem sc_back : (scF chs top cs back).lookup ("back" : Str) = some (.int back) := by rfl
theorem sc_ch : (scF chs top cs back).lookup ("channels" : Str) = some (.tup (chs.map T.str)) := by rfl
theorem sc_means : (scF chs top cs back).lookup ("means" : Str) = some (.tup ((List.range (cs.length + 1)).map (meanT chs cs))) := by rfl
theorem sc_places : (scF chs top cs back).lookup ("places" : Str) = some (placesT cs) := by rfl
theorem sc_every : (scF chs top cs back).lookup ("everybody" : Str) = some (sendD chs fun _ => true) := by rfl
theorem sc_senders : (scF chs top cs back).lookup ("senders" : Str) = some (.lst (cs.map fun c => sendD chs (sends c))) := by rfl
theorem m_follow_of : (scF chs top cs back).lookup ("follow_of" : Str) = none := by rfl
theorem m_starting : (scF chs top cs back).lookup ("starting" : Str) = none := by rfl
theorem m_passing : (scF chs top cs back).lookup ("passing" : Str) = none := by rfl
theorem m_jumping : (scF chs top cs back).lookup ("jumping" : Str) = none := by rfl
theorem m_moved : (scF chs top cs back).lookup ("moved" : Str) = none := by rfl
theorem m_run_behind : (scF chs top cs back).lookup ("run_behind" : Str) = none := by rfl
theorem m_behind : (scF chs top cs back).lookup ("behind" : Str) = none := by rfl
theorem m_stages : (scF chs top cs back).lookup ("stages" : Str) = none := by rfl
theorem m_look : (scF chs top cs back).lookup ("look" : Str) = none := by rfl
theorem m_first : (scF chs top cs back).lookup ("first" : Str) = none := by rfl
end
theorem sc_first (chs : List Str) (top : Int) (cs : List Cu) (back : Int) (h1 : 1 ≤ chs.length) (h2 : chs.length ≤ 8) : P_Score_first [scO chs top cs back] = some (sg0 chs).e := by
  have := oMulG_rep (.tup [.int 0, .int 0, .int 0, .int 0]) chs.length h1 (by omega)
  unfold P_Score_first B_Score_first
  simp [scO, sc_ch, t_STILL, t_NEVER, this, sg0, Sg.e, Rn.e]
theorem follow_ok (chs : List Str) (top : Int) (cs : List Cu) (back : Int) (pl : Nat) (h : pl < cs.length) : P_Score_follow_of [scO chs top cs back, .int pl] = some (.int (dueO cs pl)) := by
  obtain ⟨c, hc⟩ : ∃ c, cs[pl]? = some c := ⟨_, List.getElem?_eq_getElem h⟩
  unfold P_Score_follow_of B_Score_follow_of dueO
  rw [hc]
  cases hf : c.fo with
  | none => simp [scO, sc_rows, hc, Cu.e, hf, foE, t_NEVER]
  | some f =>
    by_cases hl : pl + 1 < cs.length
    · simp [scO, sc_rows, hc, Cu.e, hf, foE, t_NEVER, hl, show ¬ (pl : Int) + 1 = cs.length by omega]
    · simp [scO, sc_rows, hc, Cu.e, hf, foE, t_NEVER, hl, show (pl : Int) + 1 = cs.length by omega]
theorem starting_ok (chs : List Str) (top : Int) (cs : List Cu) (back : Int) (pl : Nat) (c : Cu) (h : cs[pl]? = some c) : P_Score_starting [scO chs top cs back, .int pl] = some (.tup [.int pl, .int (dueO cs pl), .tup [sendD chs (sends c), .int c.fd]]) := by
  have hf := follow_ok chs top cs back pl (List.getElem?_eq_some_iff.mp h).1
  unfold P_Score_starting B_Score_starting
  simp only [scO] at hf
  simp [scO, sc_rows, sc_senders, m_follow_of, hf, h, Cu.e]
def nobody : T := .tup [.tup [], .int 0]
theorem passing_one (chs : List Str) (top : Int) (cs : List Cu) (back : Int) (pl : Int) (c : Cu) (h0 : -1 ≤ pl) (h : cs[(pl + 1).toNat]? = some c) : P_Score_passing [scO chs top cs back, .int pl, .int 1] = some (.tup [.int (pl + 1), .int (dueO cs (pl + 1).toNat), .tup [sendD chs (sends c), .int c.fd]]) := by
  have hs := starting_ok chs top cs back (pl + 1).toNat c h
  rw [show (((pl + 1).toNat : Nat) : Int) = pl + 1 by omega] at hs
  unfold P_Score_passing B_Score_passing
  simp only [scO] at hs
  simp [scO, m_starting, hs]
theorem passing_no (chs : List Str) (top : Int) (cs : List Cu) (back : Int) (pl du : Int) (h : du ≠ 1) : P_Score_passing [scO chs top cs back, .int pl, .int du] = some (.tup [.int pl, .int (if 0 < du then du - 1 else du), nobody]) := by
  unfold P_Score_passing B_Score_passing
  by_cases h2 : 1 < du
  · simp [scO, h, h2, t_NOBODY, nobody, show 0 < du by omega]
  · simp [scO, h, h2, t_NOBODY, nobody, show ¬ 0 < du by omega]
theorem places_lk (cs : List Cu) (n : Int) : lkT (cs.zipIdx.map fun q => ((Sum.inl q.1.n : Key), T.int (q.2 : Int))) (Sum.inl n) = (numAt cs n).map fun (i : Nat) => T.int (i : Int) := by
  rw [lkT_mapI (fun q : Cu × Nat => q.1.n) (fun q => T.int (q.2 : Int))]
  unfold numAt
  suffices ∀ (l : List Cu) (k : Nat), ((l.zipIdx k).find? fun q => decide (q.1.n = n)).map (fun q => T.int (q.2 : Int)) = ((l.map (·.n)).idxOf? n).map fun (i : Nat) => T.int ((k + i : Nat) : Int) by
    have := this cs 0
    simp only [Nat.zero_add] at this
    exact this
  intro l
  induction l with
  | nil => intro k; rfl
  | cons c r ih =>
    intro k
    rw [List.zipIdx_cons, List.find?_cons, List.map_cons, List.idxOf?_cons]
    by_cases e : c.n = n
    · simp [e]
    · rw [decide_eq_false e]
      have := ih (k + 1)
      simp only [] at this ⊢
      rw [this, if_neg (by simpa using e), Option.map_map]
      congr 1
      funext i
      show T.int ((k + 1 + i : Nat) : Int) = T.int ((k + (i + 1) : Nat) : Int)
      rw [show k + 1 + i = k + (i + 1) by omega]
theorem jumping_none (chs : List Str) (top : Int) (cs : List Cu) (back : Int) (pl du n : Int) (h : numAt cs n = none) : P_Score_jumping [scO chs top cs back, .int pl, .int du, .int n] = some (.tup [.int pl, .int du, nobody]) := by
  have hlk := places_lk cs n
  rw [h] at hlk
  unfold P_Score_jumping B_Score_jumping
  simp [scO, sc_places, placesT, oInG_dI, hlk, t_NOBODY, nobody]
theorem jumping_some (chs : List Str) (top : Int) (cs : List Cu) (back : Int) (pl du n : Int) (i : Nat) (c : Cu) (h : numAt cs n = some i) (hc : cs[i]? = some c) : P_Score_jumping [scO chs top cs back, .int pl, .int du, .int n] = some (.tup [.int i, .int (dueO cs i), .tup [sendD chs (fun _ => true), .int c.fd]]) := by
  have hlk := places_lk cs n
  have hf := follow_ok chs top cs back i (List.getElem?_eq_some_iff.mp hc).1
  rw [h] at hlk
  unfold P_Score_jumping B_Score_jumping
  simp only [scO] at hf
  simp [scO, sc_places, sc_rows, sc_every, placesT, oInG_dI, hlk, m_follow_of, hf, hc, Cu.e]
/-- what an act makes: place, ticks, whom (as a table and as a test), how long -/
structure Mv where
  pl : Int
  du : Int
  W : T
  S : Str → Bool
  lo : Int
def mvd (chs : List Str) (cs : List Cu) (back : Int) (s : Sg) : Ac → Mv
  | .wait => if s.du = 1 then (match cs[(s.pl + 1).toNat]? with
      | some c => ⟨s.pl + 1, dueO cs (s.pl + 1).toNat, sendD chs (sends c), sends c, c.fd⟩
      | none => ⟨s.pl, s.du, .tup [], fun _ => false, 0⟩) else ⟨s.pl, if 0 < s.du then s.du - 1 else s.du, .tup [], fun _ => false, 0⟩
  | .jump n => (match numAt cs n with
    | some i => (match cs[i]? with
      | some c => ⟨i, dueO cs i, sendD chs (fun _ => true), fun _ => true, c.fd⟩
      | none => ⟨s.pl, s.du, .tup [], fun _ => false, 0⟩)
    | none => ⟨s.pl, s.du, .tup [], fun _ => false, 0⟩)
  | .go => (match cs[(s.pl + 1).toNat]? with
    | some c => ⟨s.pl + 1, dueO cs (s.pl + 1).toNat, sendD chs (sends c), sends c, c.fd⟩
    | none => ⟨s.pl, s.du, .tup [], fun _ => false, 0⟩)
  | .back => if s.pl = -1 then ⟨s.pl, s.du, .tup [], fun _ => false, 0⟩ else ⟨s.pl - 1, -1, sendD chs (fun _ => true), fun _ => true, back⟩
  | _ => ⟨s.pl, s.du, .tup [], fun _ => false, 0⟩
theorem moved_ok (chs : List Str) (top : Int) (cs : List Cu) (back : Int) (s : Sg) (a : Ac) (hs : s.ok chs top cs) (hh : (∀ c l, a ≠ .hold c l) ∧ (∀ c, a ≠ .free c)) :
    P_Score_moved [scO chs top cs back, .int s.pl, .int s.du, a.e] = some (.tup [.int (mvd chs cs back s a).pl, .int (mvd chs cs back s a).du, .tup [(mvd chs cs back s a).W, .int (mvd chs cs back s a).lo]]) := by
  have hp := hs.pl
  cases a with
  | hold c l => exact (hh.1 c l rfl).elim
  | free c => exact (hh.2 c rfl).elim
  | wait =>
    unfold P_Score_moved B_Score_moved
    by_cases h1 : s.du = 1
    · have hlt : s.pl + 1 < cs.length := by have := hs.du; omega
      obtain ⟨c, hcc⟩ : ∃ c, cs[(s.pl + 1).toNat]? = some c := ⟨_, List.getElem?_eq_getElem (by omega)⟩
      have := passing_one chs top cs back s.pl c hp.1 hcc
      simp only [scO] at this
      simp [scO, Ac.e, m_passing, h1, this, mvd, hcc]
    · have := passing_no chs top cs back s.pl s.du h1
      simp only [scO, nobody] at this
      simp [scO, Ac.e, m_passing, h1, this, mvd]
  | jump n =>
    unfold P_Score_moved B_Score_moved
    cases hn : numAt cs n with
    | none =>
      have := jumping_none chs top cs back s.pl s.du n hn
      simp only [scO, nobody] at this
      simp [scO, Ac.e, m_jumping, this, mvd, hn]
    | some i =>
      obtain ⟨c, hcc, _⟩ := numAt_some hn
      have := jumping_some chs top cs back s.pl s.du n i c hn hcc
      simp only [scO] at this
      simp [scO, Ac.e, m_jumping, this, mvd, hn, hcc]
  | go =>
    unfold P_Score_moved B_Score_moved
    by_cases h : s.pl + 1 < cs.length
    · obtain ⟨c, hcc⟩ : ∃ c, cs[(s.pl + 1).toNat]? = some c := ⟨_, List.getElem?_eq_getElem (by omega)⟩
      have := starting_ok chs top cs back (s.pl + 1).toNat c hcc
      rw [show (((s.pl + 1).toNat : Nat) : Int) = s.pl + 1 by omega] at this
      simp only [scO] at this
      simp [scO, Ac.e, sc_rows, m_starting, h, this, mvd, hcc]
    · have hcc : cs[(s.pl + 1).toNat]? = none := List.getElem?_eq_none (by omega)
      simp [scO, Ac.e, sc_rows, h, mvd, hcc, t_NOBODY]
  | back =>
    unfold P_Score_moved B_Score_moved
    by_cases h : s.pl = -1
    · simp [scO, Ac.e, h, mvd, t_NOBODY]
    · simp [scO, Ac.e, sc_every, sc_back, h, mvd, t_NEVER, show 0 ≤ s.pl by omega]
end Go
/-! MQ -/
set_option autoImplicit false
set_option maxRecDepth 100000
set_option linter.all false
namespace PX
open PySem L2
theorem strL_map : ∀ l : List Str, strL (l.map T.str) = some l
  | [] => rfl
  | x :: l => by rw [List.map_cons, strL, strL_map l]; rfl
theorem oSortA_str (l : List Str) (h : l.length < 64) : oSortA [.lst (l.map T.str)] = some (.lst ((srtS l).map T.str)) := by
  have e : oSort [.lst (l.map T.str)] = some (.lst ((srtS l).map T.str)) := by
    unfold oSort
    dsimp only
    rw [strL_map]
    dsimp only
    rw [if_pos h]
  cases l with
  | nil => exact e
  | cons x r => exact e
theorem leS_tot (a b : Str) : (leS a b || leS b a) = true := by
  unfold leS
  by_cases h : b.cps.toList < a.cps.toList
  · have : ¬ a.cps.toList < b.cps.toList := List.lt_asymm h
    simp [this]
  · simp [h]
theorem leS_tr (a b c : Str) (h1 : leS a b = true) (h2 : leS b c = true) : leS a c = true := by
  rw [leS_iff] at *
  exact List.le_trans h1 h2
theorem srtS_up {l : List Str} (h : l.Nodup) : (srtS l).Pairwise fun a b => a.cps.toList < b.cps.toList := by
  have h1 : (srtS l).Pairwise fun a b => leS a b = true := List.pairwise_mergeSort leS_tr leS_tot l
  have h2 : (srtS l).Nodup := (srtS_perm l).nodup_iff.mpr h
  refine (h1.and h2).imp fun {a b} h => ?_
  have z := leS_iff.mp h.1
  rcases Classical.em (a.cps.toList < b.cps.toList) with w | w
  · exact w
  · exact (h.2 (str_tri w (fun q => z q))).elim
end PX
namespace Go
open PySem L2 PX
theorem hlk_mem : ∀ {L : List (Str × Int)}, (L.map (·.1)).Nodup → ∀ {m : Str × Int}, m ∈ L → hlk L m.1 = some m.2
  | [], _, m, h => by cases h
  | x :: L, hn, m, h => by
    have hn' := List.nodup_cons.mp hn
    unfold hlk
    rw [List.find?_cons]
    rcases List.mem_cons.mp h with rfl | h
    · simp
    · have : x.1 ≠ m.1 := fun e => hn'.1 (List.mem_map.mpr ⟨m, h, e.symm⟩)
      rw [decide_eq_false this]
      exact hlk_mem hn'.2 h
theorem sorted_pairs {L : List (Str × Int)} (hn : (L.map (·.1)).Nodup) : (srtS (L.map (·.1))).map (fun k => (k, (hlk L k).getD 0)) = srtP L := by
  refine srtP_is ?_ ?_
  · rw [List.pairwise_map]
    refine (srtS_up hn).imp fun {a b} h => ?_
    refine ltSI_no.mpr ?_
    rintro (z | ⟨z, _⟩)
    · exact List.lt_asymm h z
    · have : b = a := z
      rw [this] at h; exact List.lt_irrefl _ h
  · refine ((srtS_perm (L.map (·.1))).map _).trans ?_
    rw [List.map_map]
    have : L.map ((fun k => (k, (hlk L k).getD 0)) ∘ fun m => m.1) = L := by
      rw [List.map_congr_left (g := id) fun m hm => by
        show (m.1, (hlk L m.1).getD 0) = m
        rw [hlk_mem hn hm]; rfl]
      simp
    rw [this]
theorem held_tail (L : List (Str × Int)) (hn : (L.map (·.1)).Nodup) (hl : L.length < 64) (h a : T) (j3 j4 : Sl) :
    (PX.frz 2 (ret (sA (acons (lc [3] (i1 (sA (acons (sA (acons (v 2) (anil)) oListG) (anil)) oSortA) anyOf) (gn 3) (tyes) (sA (acons (v 3) (acons (s2 (v 2) (v 3) oIt) (anil))) mkTup)) (anil)) oTuple))) [.im h, .im a, .cl true (.dct (L.map fun m => ((Sum.inr m.1 : Key), T.int m.2))), .no, j4] =
      some (.rt (.tup ((srtP L).map mkSI)) [.im h, .im a, .im (.dct (L.map fun m => ((Sum.inr m.1 : Key), T.int m.2))), .no, j4]) := by
  have hs := oSortA_str (L.map (·.1)) (by rw [List.length_map]; exact hl)
  rw [List.map_map] at hs
  have hs' : oSortA [.lst (L.map fun m => T.str m.1)] = some (.lst ((srtS (L.map (·.1))).map T.str)) := hs
  have hk : (L.map fun m => ((Sum.inr m.1 : Key), T.int m.2)).map (fun kt => keyTT kt.1) = L.map fun m => T.str m.1 := by
    rw [List.map_map]; rfl
  have hlen : (srtS (L.map (·.1))).length ≤ 1000 := by rw [(srtS_perm _).length_eq, List.length_map]; omega
  simp only [bp_frz, List.getElem?_cons_succ, List.getElem?_cons_zero, slC_cl, Option.bind_some, if_true, List.set_cons_succ, List.set_cons_zero, bp_ret, bp_sA, bp_acons, bp_lc, bp_i1, bp_v, slI_im, ap_anil, oListG_dct, hk, hs', anyOf_lst, wipeR_nil, wipeR_cons]
  rw [lcl_fn T.str (fun k => mkSI (k, (hlk L k).getD 0)) (srtS (L.map (·.1))) (fun k hk => by
    obtain ⟨m, hm, rfl⟩ := List.mem_map.mp ((srtS_perm _).mem_iff.mp hk)
    have h1 : lkT (L.map fun m => ((Sum.inr m.1 : Key), T.int m.2)) (Sum.inr m.1) = some (.int m.2) := by
      rw [lkT_map (fun m : Str × Int => m.1) (fun m => T.int m.2)]
      have := hlk_mem hn hm
      unfold hlk at this
      cases hf : L.find? fun x => decide (x.1 = m.1) with
      | none => rw [hf] at this; cases this
      | some y => rw [hf] at this; exact congrArg (fun i => some (T.int i)) (Option.some.inj this)
    simp [mkSI, h1, hlk_mem hn hm]) hlen]
  have e : (srtS (L.map (·.1))).map (fun k => mkSI (k, (hlk L k).getD 0)) = (srtP L).map mkSI := by
    rw [← sorted_pairs hn, List.map_map]; rfl
  simp [e]
theorem held_ok (chs : List Str) (top : Int) (cs : List Cu) (s : Sg) (hr : RigOk chs top) (hs : s.ok chs top cs) :
    (∀ c l, c ∈ chs → P_held_behind [.tup (s.hd.map mkSI), Ac.e (.hold c l)] = some (.tup ((srtP (s.hd.filter (fun p => p.1 != c) ++ [(c, l)])).map mkSI))) ∧
    (∀ c, c ∈ chs → P_held_behind [.tup (s.hd.map mkSI), Ac.e (.free c)] = some (.tup ((srtP (s.hd.filter (fun p => p.1 != c))).map mkSI))) := by
  have l8 := sg_len hs hr
  have hfl := fun c : Str => List.length_filter_le (fun p : Str × Int => p.1 != c) s.hd
  have nd0 : ∀ c : Str, ((s.hd.filter (fun p => p.1 != c)).map (·.1)).Nodup := fun c => (up_nd hs.up).sublist (List.filter_sublist.map _)
  have nd1 : ∀ (c : Str) (l : Int), ((s.hd.filter (fun p => p.1 != c) ++ [(c, l)]).map (·.1)).Nodup := fun c l => by
    rw [List.map_append, List.nodup_append]
    refine ⟨nd0 c, by simp, fun a ha b hb e => ?_⟩
    obtain ⟨m, hm, rfl⟩ := List.mem_map.mp ha
    have := (List.mem_filter.mp hm).2
    simp at hb this
    exact this (e.trans hb)
  have hne : ∀ c, c ∈ chs → ∀ x ∈ s.hd, oEq true (.str x.1) (.str c) = some (.bl (x.1 != c)) := fun c hc x hx => by
    rw [oEq_str (hr.nm _ (hs.hd x hx).1) (hr.nm _ hc)]; rfl
  refine ⟨fun c l hc => ?_, fun c hc => ?_⟩
  · have ht := fun h a j3 j4 => held_tail _ (nd1 c l) (by rw [List.length_append]; have := hfl c; simp; omega) h a j3 j4
    unfold P_held_behind B_held_behind
    simp [Ac.e, -bp_frz, -ap_frz]
    rw [dcl_fil mkSI (fun m => Sum.inr m.1) (fun m => .int m.2) (fun p => p.1 != c) s.hd (fun m hm => by
      have := hne c hc m hm
      by_cases hq : m.1 = c
      · rw [hq] at this; simp [mkSI, hq, this]
      · simp [mkSI, this, hq]) (inr_nd (fun m : Str × Int => m.1) _ (up_nd hs.up)) (by omega)]
    have hput : putKT ((s.hd.filter (fun p => p.1 != c)).map fun m => ((Sum.inr m.1 : Key), T.int m.2)) (Sum.inr c) (.int l) = (s.hd.filter (fun p => p.1 != c) ++ [(c, l)]).map fun m => ((Sum.inr m.1 : Key), T.int m.2) := by
      rw [putKT_new, List.map_append]
      · rfl
      · intro kt hkt e
        obtain ⟨m, hm, rfl⟩ := List.mem_map.mp hkt
        have := (List.mem_filter.mp hm).2
        simp at this
        exact this (Sum.inr.inj e)
    have hfc := hfl c
    simp [-bp_frz, -ap_frz, setC, hput, show (s.hd.filter fun p => p.1 != c).length < 1000 by omega]
    rw [List.map_append] at ht
    have ht' := ht (.tup (s.hd.map mkSI)) (.tup [.str "hold", .str c, .int l]) .no .no
    simp only [List.map_cons, List.map_nil] at ht'
    rw [ht']
    simp
  · have ht := fun h a j3 j4 => held_tail _ (nd0 c) (by have := hfl c; omega) h a j3 j4
    unfold P_held_behind B_held_behind
    simp [Ac.e, -bp_frz, -ap_frz]
    rw [dcl_fil mkSI (fun m => Sum.inr m.1) (fun m => .int m.2) (fun p => p.1 != c) s.hd (fun m hm => by
      have := hne c hc m hm
      by_cases hq : m.1 = c
      · rw [hq] at this; simp [mkSI, hq, this]
      · simp [mkSI, this, hq]) (inr_nd (fun m : Str × Int => m.1) _ (up_nd hs.up)) (by omega)]
    simp [-bp_frz, -ap_frz]
    have ht' := ht (.tup (s.hd.map mkSI)) (.tup [.str "free", .str c]) .no .no
    rw [ht']
    simp
end Go
/-! MR -/
set_option autoImplicit false
set_option maxRecDepth 100000
set_option linter.all false
namespace Go
open PySem L2 PX
theorem oInG_nil (i : Int) : oInG false (.int i) (.tup []) = some (.bl false) := by
  have := oInG_st false "" []
  unfold oInG
  dsimp only
  unfold oIn
  simp only [flat, flats]
  rfl
theorem run_behind_ok (chs : List Str) (top : Int) (cs : List Cu) (back : Int) (i : Nat) (c : Str) (r : Rn) (a : Ac) (pl lo : Int) (W : T) (b : Bool) (hr : r.ok) (hc : chs[i]? = some c) (hp : -1 ≤ pl ∧ pl < cs.length) (hW : oInG false (.int (i : Int)) W = some (.bl b)) :
    P_Score_run_behind [scO chs top cs back, .int i, r.e, a.e, .int pl, .tup [W, .int lo]] = some (if b = true then snt (if a.isW = true then tck r else r) (mean cs pl c) lo else (if a.isW = true then tck r else r)).e := by
  have ht := prg_ticked r hr
  have hm : atI ((List.range (cs.length + 1)).map (meanT chs cs)) (pl + 1) = some (meanT chs cs (pl + 1).toNat) := by
    rw [atI_i _ (by omega), List.getElem?_map, List.getElem?_range (by omega)]
    rfl
  have hmi : oIt (meanT chs cs (pl + 1).toNat) (.int (i : Int)) = some (.int (mean cs pl c)) := by
    unfold meanT lvT mean
    simp [hc]
  have hok : (if a.isW = true then tck r else r).ok := by
    split
    · exact tck_ok r hr
    · exact hr
  have hs := prg_sent (if a.isW = true then tck r else r) hok (mean cs pl c) lo
  unfold P_Score_run_behind B_Score_run_behind
  cases b with
  | true => cases a <;> simp only [Ac.isW, if_true, Bool.false_eq_true, if_false] at hs <;> simp [scO, Ac.e, Ac.isW, ht, hW, sc_means, hm, hmi, hs]
  | false => cases a <;> simp [scO, Ac.e, Ac.isW, ht, hW]
theorem brt_none (chs : List Str) (rs : List Rn) (lv : Str → Int) (n : Int) (h : rs.length = chs.length) : brt chs rs lv n (fun _ => false) = rs := by
  refine List.ext_getElem? fun j => ?_
  by_cases hj : j < rs.length
  · obtain ⟨c, hc⟩ : ∃ c, chs[j]? = some c := ⟨_, List.getElem?_eq_getElem (by omega)⟩
    obtain ⟨r, hr⟩ : ∃ r, rs[j]? = some r := ⟨_, List.getElem?_eq_getElem hj⟩
    rw [brt_get hc hr, hr]; rfl
  · rw [List.getElem?_eq_none (by rw [brt_len h]; omega), List.getElem?_eq_none (by omega)]
/-- the runs behind an act, of what it makes -/
def after (chs : List Str) (cs : List Cu) (back : Int) (s : Sg) (a : Ac) : List Rn := brt chs (if a.isW = true then s.rs.map tck else s.rs) (mean cs (mvd chs cs back s a).pl) (mvd chs cs back s a).lo (mvd chs cs back s a).S
theorem mvd_ok {chs : List Str} {top : Int} {cs : List Cu} {back : Int} {s : Sg} {a : Ac} (hs : s.ok chs top cs) : (-1 ≤ (mvd chs cs back s a).pl ∧ (mvd chs cs back s a).pl < cs.length) ∧ ∀ (i : Nat) (c : Str), chs[i]? = some c → oInG false (.int (i : Int)) (mvd chs cs back s a).W = some (.bl ((mvd chs cs back s a).S c)) := by
  have hp := hs.pl
  cases a with
  | wait =>
    by_cases h1 : s.du = 1
    · have hlt : s.pl + 1 < cs.length := by have := hs.du; omega
      obtain ⟨c, hcc⟩ : ∃ c, cs[(s.pl + 1).toNat]? = some c := ⟨_, List.getElem?_eq_getElem (by omega)⟩
      have e : mvd chs cs back s .wait = ⟨s.pl + 1, dueO cs (s.pl + 1).toNat, sendD chs (sends c), sends c, c.fd⟩ := by simp [mvd, h1, hcc]
      rw [e]
      exact ⟨⟨by show -1 ≤ s.pl + 1; omega, by show s.pl + 1 < _; omega⟩, fun i c' h => in_sendD h⟩
    · have e : mvd chs cs back s .wait = ⟨s.pl, if 0 < s.du then s.du - 1 else s.du, .tup [], fun _ => false, 0⟩ := by simp [mvd, h1]
      rw [e]
      exact ⟨hp, fun i c h => oInG_nil _⟩
  | jump n =>
    cases hn : numAt cs n with
    | none =>
      have e : mvd chs cs back s (.jump n) = ⟨s.pl, s.du, .tup [], fun _ => false, 0⟩ := by simp [mvd, hn]
      rw [e]
      exact ⟨hp, fun i c h => oInG_nil _⟩
    | some i =>
      obtain ⟨c, hcc, _⟩ := numAt_some hn
      have hlt : i < cs.length := (List.getElem?_eq_some_iff.mp hcc).1
      have e : mvd chs cs back s (.jump n) = ⟨i, dueO cs i, sendD chs (fun _ => true), fun _ => true, c.fd⟩ := by simp [mvd, hn, hcc]
      rw [e]
      exact ⟨⟨by show -1 ≤ (i : Int); omega, by show (i : Int) < _; omega⟩, fun i c' h => in_sendD (S := fun _ => true) h⟩
  | go =>
    by_cases h : s.pl + 1 < cs.length
    · obtain ⟨c, hcc⟩ : ∃ c, cs[(s.pl + 1).toNat]? = some c := ⟨_, List.getElem?_eq_getElem (by omega)⟩
      have e : mvd chs cs back s .go = ⟨s.pl + 1, dueO cs (s.pl + 1).toNat, sendD chs (sends c), sends c, c.fd⟩ := by simp [mvd, hcc]
      rw [e]
      exact ⟨⟨by show -1 ≤ s.pl + 1; omega, by show s.pl + 1 < _; omega⟩, fun i c' h => in_sendD h⟩
    · have hcc : cs[(s.pl + 1).toNat]? = none := List.getElem?_eq_none (by omega)
      have e : mvd chs cs back s .go = ⟨s.pl, s.du, .tup [], fun _ => false, 0⟩ := by simp [mvd, hcc]
      rw [e]
      exact ⟨hp, fun i c h => oInG_nil _⟩
  | back =>
    by_cases h : s.pl = -1
    · have e : mvd chs cs back s .back = ⟨s.pl, s.du, .tup [], fun _ => false, 0⟩ := by simp [mvd, h]
      rw [e]
      exact ⟨hp, fun i c h => oInG_nil _⟩
    · have e : mvd chs cs back s .back = ⟨s.pl - 1, -1, sendD chs (fun _ => true), fun _ => true, back⟩ := by simp [mvd, h]
      rw [e]
      exact ⟨⟨by show -1 ≤ s.pl - 1; omega, by show s.pl - 1 < _; omega⟩, fun i c' h => in_sendD (S := fun _ => true) h⟩
  | hold c l => exact ⟨hp, fun i c h => oInG_nil _⟩
  | free c => exact ⟨hp, fun i c h => oInG_nil _⟩
theorem step_mvd {chs : List Str} {top : Int} {cs : List Cu} {back : Int} {s : Sg} {a : Ac} (hs : s.ok chs top cs) (hh : (∀ c l, a ≠ .hold c l) ∧ (∀ c, a ≠ .free c)) :
    step chs cs back s a = ⟨after chs cs back s a, (mvd chs cs back s a).pl, (mvd chs cs back s a).du, s.hd⟩ := by
  have hp := hs.pl
  have hl := hs.len
  cases a with
  | hold c l => exact (hh.1 c l rfl).elim
  | free c => exact (hh.2 c rfl).elim
  | wait =>
    by_cases h1 : s.du = 1
    · have hlt : s.pl + 1 < cs.length := by have := hs.du; omega
      obtain ⟨c, hcc⟩ : ∃ c, cs[(s.pl + 1).toNat]? = some c := ⟨_, List.getElem?_eq_getElem (by omega)⟩
      have e1 : (((s.pl + 1).toNat : Nat) : Int) = s.pl + 1 := by omega
      simp [step, after, mvd, h1, hcc, startS, waitS, Ac.isW, e1]
    · simp [step, after, mvd, h1, waitS, Ac.isW, brt_none, hl]
  | jump n =>
    cases hn : numAt cs n with
    | none => simp [step, after, mvd, hn, Ac.isW, brt_none, hl]
    | some i =>
      obtain ⟨c, hcc, _⟩ := numAt_some hn
      simp [step, after, mvd, hn, hcc, Ac.isW]
  | go =>
    by_cases h : s.pl + 1 < cs.length
    · obtain ⟨c, hcc⟩ : ∃ c, cs[(s.pl + 1).toNat]? = some c := ⟨_, List.getElem?_eq_getElem (by omega)⟩
      have e1 : (((s.pl + 1).toNat : Nat) : Int) = s.pl + 1 := by omega
      simp [step, after, mvd, hcc, startS, Ac.isW, e1]
    · have hcc : cs[(s.pl + 1).toNat]? = none := List.getElem?_eq_none (by omega)
      simp [step, after, mvd, hcc, Ac.isW, brt_none, hl]
  | back =>
    by_cases h : s.pl = -1
    · simp [step, after, mvd, h, Ac.isW, brt_none, hl]
      rw [← h]
    · simp [step, after, mvd, h, Ac.isW]
theorem behind_ok (chs : List Str) (top : Int) (cs : List Cu) (back : Int) (s : Sg) (a : Ac) (hr : RigOk chs top) (hs : s.ok chs top cs) (ha : a.ok chs top) :
    P_Score_behind [scO chs top cs back, s.e, a.e] = some (step chs cs back s a).e := by
  have hh := held_ok chs top cs s hr hs
  have l2 := hr.l2
  have hlen := hs.len
  by_cases hf : (∀ c l, a ≠ .hold c l) ∧ (∀ c, a ≠ .free c)
  · have hm := moved_ok chs top cs back s a hs hf
    have hk := mvd_ok (chs := chs) (top := top) (cs := cs) (back := back) (a := a) hs
    have hst := step_mvd (back := back) hs hf
    rw [hst]
    have hw : oInG false (match a.e with | .tup (w :: _) => w | t => t) (.tup [.str "hold", .str "free"]) = some (.bl false) := by
      cases a with
      | hold c l => exact (hf.1 c l rfl).elim
      | free c => exact (hf.2 c rfl).elim
      | _ => simp [Ac.e]
    have h0 : ∃ w r, a.e = .tup (w :: r) ∧ oInG false w (.tup [.str "hold", .str "free"]) = some (.bl false) := by
      cases a with
      | hold c l => exact (hf.1 c l rfl).elim
      | free c => exact (hf.2 c rfl).elim
      | go => exact ⟨_, _, rfl, wi_go⟩
      | back => exact ⟨_, _, rfl, wi_back⟩
      | wait => exact ⟨_, _, rfl, wi_wait⟩
      | jump n => exact ⟨_, _, rfl, wi_jump⟩
    obtain ⟨w, r0, hae, hin⟩ := h0
    have hi0 : oIt a.e (.int 0) = some w := by rw [hae]; simp
    unfold P_Score_behind B_Score_behind
    simp only [scO] at hm
    simp [scO, Sg.e, hi0, hin, m_moved, hm]
    rw [List.zipIdx_map, List.map_map]
    have hrb : ∀ q ∈ s.rs.zipIdx, ∃ c, chs[q.2]? = some c ∧ P_Score_run_behind [scO chs top cs back, .int q.2, q.1.e, a.e, .int (mvd chs cs back s a).pl, .tup [(mvd chs cs back s a).W, .int (mvd chs cs back s a).lo]] = some (if (mvd chs cs back s a).S c = true then snt (if a.isW = true then tck q.1 else q.1) (mean cs (mvd chs cs back s a).pl c) (mvd chs cs back s a).lo else (if a.isW = true then tck q.1 else q.1)).e := fun q hq => by
      have hq' := List.mem_zipIdx_iff_getElem?.mp hq
      obtain ⟨c, hc⟩ : ∃ c, chs[q.2]? = some c := ⟨_, List.getElem?_eq_getElem (by have := (List.getElem?_eq_some_iff.mp hq').1; omega)⟩
      exact ⟨c, hc, run_behind_ok chs top cs back q.2 c q.1 a (mvd chs cs back s a).pl (mvd chs cs back s a).lo (mvd chs cs back s a).W ((mvd chs cs back s a).S c) (hs.rs q.1 (List.mem_of_getElem? hq')) hc hk.1 (hk.2 q.2 c hc)⟩
    have hall : s.rs.zipIdx.map (fun q => (((after chs cs back s a)[q.2]?).map Rn.e).getD .non) = (after chs cs back s a).map Rn.e := by
      have hla : (after chs cs back s a).length = chs.length := brt_len (by split <;> simp [hlen])
      refine List.ext_getElem? fun j => ?_
      rw [List.getElem?_map, List.getElem?_map, List.getElem?_zipIdx]
      by_cases hj : j < s.rs.length
      · obtain ⟨r, hr'⟩ : ∃ r, s.rs[j]? = some r := ⟨_, List.getElem?_eq_getElem hj⟩
        obtain ⟨r2, hr2⟩ : ∃ r, (after chs cs back s a)[j]? = some r := ⟨_, List.getElem?_eq_getElem (by omega)⟩
        simp [hr', hr2]
      · rw [List.getElem?_eq_none (l := s.rs) (by omega), List.getElem?_eq_none (by omega)]; rfl
    rw [lcl_fn ((fun q : T × Nat => T.tup [.int (q.2 : Int), q.1]) ∘ Prod.map Rn.e id) (fun q : Rn × Nat => (((after chs cs back s a)[q.2]?).map Rn.e).getD .non) s.rs.zipIdx (fun q hq => by
      obtain ⟨c, hc, h⟩ := hrb q hq
      have hq' := List.mem_zipIdx_iff_getElem?.mp hq
      have hg : (after chs cs back s a)[q.2]? = some (if (mvd chs cs back s a).S c = true then snt (if a.isW = true then tck q.1 else q.1) (mean cs (mvd chs cs back s a).pl c) (mvd chs cs back s a).lo else (if a.isW = true then tck q.1 else q.1)) := by
        unfold after
        refine brt_get hc ?_
        split
        · rw [List.getElem?_map, hq']; rfl
        · exact hq'
      simp only [scO] at h
      rw [hg]
      simp [m_run_behind, h]) (by simp; omega)]
    rw [hall]
    simp
  · cases a with
    | hold c l =>
      have := hh.1 c l ha.1
      unfold P_Score_behind B_Score_behind
      simp only [Ac.e] at this
      simp [scO, Sg.e, Ac.e, this, step]
    | free c =>
      have := hh.2 c ha
      unfold P_Score_behind B_Score_behind
      simp only [Ac.e] at this
      simp [scO, Sg.e, Ac.e, this, step]
    | go => exact (hf ⟨(fun _ _ h => nomatch h), (fun _ h => nomatch h)⟩).elim
    | back => exact (hf ⟨(fun _ _ h => nomatch h), (fun _ h => nomatch h)⟩).elim
    | wait => exact (hf ⟨(fun _ _ h => nomatch h), (fun _ h => nomatch h)⟩).elim
    | jump n => exact (hf ⟨(fun _ _ h => nomatch h), (fun _ h => nomatch h)⟩).elim
end Go
/-! MS -/
set_option autoImplicit false
set_option maxRecDepth 100000
set_option linter.all false
namespace PX
open PySem L2
@[simp] theorem oExtend_l (ts us : List T) : oExtend (.lst ts) [.lst us] = if ts.length + us.length ≤ 1000 then some (.non, .lst (ts ++ us)) else none := rfl
end PX
namespace Go
open PySem L2 PX
theorem sc_look (chs : List Str) (top : Int) (cs : List Cu) (back : Int) (s : Sg) (hr : RigOk chs top) (hs : s.ok chs top cs) : P_Score_look [scO chs top cs back, s.e] = some (lookE chs s) := by
  have l2 := hr.l2
  have hl := hs.len
  have l8 := sg_len hs hr
  unfold P_Score_look B_Score_look
  simp [scO, Sg.e]
  rw [dcl_fn mkSI (fun m => Sum.inr m.1) (fun m => .int m.2) s.hd (fun m hm => by simp [mkSI]) (inr_nd (fun m : Str × Int => m.1) _ (up_nd hs.up)) (by omega)]
  simp [sc_ch]
  rw [List.zip_map, List.map_map]
  rw [lcl_fn _ (fun p : Str × Rn => T.int ((hlk s.hd p.1).getD (lvl p.2))) (chs.zip s.rs) (fun p hp => by
    have hlv := prg_level p.2 (hs.rs p.2 (List.of_mem_zip hp).2)
    simp [hlv, hlk_lk]) (by rw [List.length_zip]; omega)]
  simp [lookE, look1]
def sgs (chs : List Str) (l : List (Int × Sg)) : List T := (sg0 chs).e :: l.map fun p => p.2.e
theorem stages_ok (chs : List Str) (top : Int) (cs : List Cu) (back : Int) (acts : List Ac) (hr : RigOk chs top) (hc : ∀ c ∈ cs, c.ok chs top) (hb : 0 ≤ back ∧ back ≤ 5) (ha : ∀ a ∈ acts, a.ok chs top) (hal : acts.length ≤ 60) :
    P_Score_stages [scO chs top cs back, .tup (acts.map Ac.e)] = some (.lst (sgs chs (hist chs cs back acts).2.2)) := by
  have hf := sc_first chs top cs back hr.l1 hr.l2
  unfold P_Score_stages B_Score_stages
  simp only [scO] at hf
  simp [scO, m_first, hf]
  have hlast : ∀ pre : List Ac, (sgs chs (hist chs cs back pre).2.2).getLast? = some (hist chs cs back pre).1.e := by
    intro pre
    rcases List.eq_nil_or_concat pre with rfl | ⟨p, a, rfl⟩
    · rfl
    · rw [List.concat_eq_append, hist_snoc]
      simp only [sgs, tickQ, List.map_append, List.map_cons, List.map_nil, ← List.cons_append, List.getLast?_append]
      simp
  obtain ⟨ρ', h1, ⟨j3, rfl⟩⟩ := loop_ix (g := gn 3) (f := drop (sBC "list" 2 (acons (sM "Score" "behind" (v 0) (acons (ixG 2 (s1 (c (.int 1)) oNeg)) (acons (v 3) (anil))) P_Score_behind) (anil)) oAppend)) Ac.e
    (fun (pre : List Ac) ρ => ∃ j3, ρ = [.im (.obj "Score" (scF chs top cs back)), .im (.tup (acts.map Ac.e)), .cl true (.lst (sgs chs (hist chs cs back pre).2.2)), j3]) acts [] acts _ rfl ⟨.no, rfl⟩ (by
      rintro pre a post ρ hsp ⟨j3, rfl⟩
      have haa : a.ok chs top := ha a (by rw [hsp]; simp)
      have hpre : ∀ b ∈ pre, b.ok chs top := fun b hb => ha b (by rw [hsp]; simp [hb])
      have hlp : pre.length < acts.length := by rw [hsp]; simp
      obtain ⟨k1, k2, k3⟩ := hist_ok hr hc hb pre hpre
      have hd := behind_ok chs top cs back (hist chs cs back pre).1 a hr k1 haa
      simp only [scO] at hd
      have hat : atI (sgs chs (hist chs cs back pre).2.2) (-1) = some (hist chs cs back pre).1.e := by
        rw [PX.atI_last _ (by simp [sgs])]; exact hlast pre
      have hsl : (sgs chs (hist chs cs back pre).2.2).length < 1000 := by simp [sgs, k2]; omega
      refine ⟨[.im (.obj "Score" (scF chs top cs back)), .im (.tup (acts.map Ac.e)), .cl true (.lst (sgs chs (hist chs cs back (pre ++ [a])).2.2)), .im a.e], ?_, _, rfl⟩
      rw [hist_snoc]
      simp [m_behind, hat, hd, hsl]
      simp [sgs, tickQ])
  have e0 : (hist chs cs back []) = (sg0 chs, 0, []) := rfl
  rw [e0] at h1
  simp only [sgs, List.map_nil] at h1
  rw [h1]
  simp [sgs]
theorem hist_tick (chs : List Str) (cs : List Cu) (back : Int) (acts : List Ac) : True := trivial
theorem wait_eq {chs : List Str} {top : Int} (hr : RigOk chs top) (a : Ac) (ha : a.ok chs top) : oEq false a.e t_WAIT = some (.bl a.isW) := ac_wait hr false a ha
/-- the pairs of an act and what stands behind it -/
def hz (acts : List Ac) (l : List (Int × Sg)) : List (Ac × Int × Sg) := acts.zip l
theorem log_of_ok (chs : List Str) (top : Int) (cs : List Cu) (back : Int) (acts : List Ac) (hr : RigOk chs top) (hc : ∀ c ∈ cs, c.ok chs top) (hl : cs.length ≤ 20) (hb : 0 ≤ back ∧ back ≤ 5) (ha : ∀ a ∈ acts, a.ok chs top) (hal : acts.length ≤ 60) :
    P_log_of [clO chs top cs, .int back, .tup (acts.map Ac.e)] = some (.tup (foundE chs (hist chs cs back acts).2.2)) := by
  have hi := score_init chs top cs back hr.l2 hc hl
  have hst := stages_ok chs top cs back acts hr hc hb ha hal
  unfold P_log_of B_log_of
  simp only [scO] at hi hst
  simp [hi, m_stages, hst]
  have hcut : cutT (sgs chs (hist chs cs back acts).2.2) (some 1) none = (hist chs cs back acts).2.2.map fun p => p.2.e := by
    rw [cut_from (by omega)]; rfl
  obtain ⟨_, hlen, hoks⟩ := hist_ok hr hc hb acts ha
  rw [hcut]
  rw [List.zip_map, List.map_map]
  have hpre : ∀ pre post : List Ac, acts = pre ++ post → (hist chs cs back acts).2.2.take pre.length = (hist chs cs back pre).2.2 := by
    intro pre post
    induction post generalizing pre with
    | nil =>
      intro h
      rw [List.append_nil] at h
      rw [← h, List.take_of_length_le (by omega)]
    | cons a r ih =>
      intro h
      have h2 := ih (pre ++ [a]) (by rw [h]; simp)
      rw [hist_snoc] at h2
      have hpl := (hist_ok hr hc hb pre (fun b hb' => ha b (by rw [h]; simp [hb']))).2.1
      rw [List.length_append, List.length_singleton] at h2
      have h3 : (hist chs cs back acts).2.2.take pre.length = ((hist chs cs back acts).2.2.take (pre.length + 1)).take pre.length := by rw [List.take_take, Nat.min_eq_left (by omega)]
      rw [h3, h2]
      simp only [tickQ]
      exact List.take_left' hpl
  obtain ⟨ρ', h1, ⟨j6, j7, rfl⟩⟩ := loop_ix (g := gt 2 (gcons (gn 6) (gcons (gn 7) (gnil)))) (f := bseq (bset 5 (im (ifx (tb (s2 (v 6) (c t_WAIT) (oEq false))) (s2 (v 5) (c (.int 1)) oAddG) (v 5)))) (drop (sBC "list" 4 (acons (sA (acons (v 5) (acons (s2 (v 7) (c (.int 1)) oIt) (acons (sM "Score" "look" (v 3) (acons (v 7) (anil)) P_Score_look) (anil)))) mkTup) (anil)) oAppend))) ((fun q : T × T => T.tup [q.1, q.2]) ∘ Prod.map Ac.e (fun p : Int × Sg => p.2.e))
    (fun (pre : List (Ac × Int × Sg)) ρ => ∃ j6 j7, ρ = [.im (clO chs top cs), .im (.int back), .im (.tup (acts.map Ac.e)), .im (.obj "Score" (scF chs top cs back)), .cl true (.lst (foundE chs (hist chs cs back (pre.map (·.1))).2.2)), .im (.int (hist chs cs back (pre.map (·.1))).2.1), j6, j7]) (acts.zip (hist chs cs back acts).2.2) [] (acts.zip (hist chs cs back acts).2.2) _ rfl ⟨.no, .no, rfl⟩ (by
      rintro pre ⟨a, t, s⟩ post ρ hsp ⟨j6, j7, rfl⟩
      have hz1 : acts = pre.map (·.1) ++ a :: post.map (·.1) := by
        have := congrArg (List.map Prod.fst) hsp
        rw [List.map_fst_zip (by omega)] at this
        rw [this]; simp
      have hz2 : (hist chs cs back acts).2.2 = pre.map (·.2) ++ (t, s) :: post.map (·.2) := by
        have := congrArg (List.map Prod.snd) hsp
        rw [List.map_snd_zip (by omega)] at this
        rw [this]; simp
      have haa : a.ok chs top := ha a (by rw [hz1]; simp)
      have hpp : ∀ b ∈ pre.map (·.1), b.ok chs top := fun b hb' => ha b (by rw [hz1]; simp at hb' ⊢; exact .inl hb')
      obtain ⟨k1, k2, k3⟩ := hist_ok hr hc hb (pre.map (·.1)) hpp
      have hts : (t, s) = ((hist chs cs back (pre.map (·.1))).2.1 + (if a.isW = true then 1 else 0), step chs cs back (hist chs cs back (pre.map (·.1))).1 a) := by
        have h := hpre (pre.map (·.1) ++ [a]) (post.map (·.1)) (by rw [hz1]; simp)
        rw [hist_snoc, hz2] at h
        have h' := congrArg (fun l => l[pre.length]?) h
        simp [tickQ] at h'
        have e : pre.length = (hist chs cs back (pre.map (·.1))).2.2.length := by rw [k2]; simp
        rw [List.getElem?_append_right (by rw [← e]; exact Nat.le_refl _)] at h'
        simp [← e] at h'
        exact Prod.ext h'.1 h'.2
      have hs : s.ok chs top cs := hoks (t, s) (by rw [hz2]; simp)
      have hlk := sc_look chs top cs back s hr hs
      simp only [scO] at hlk
      have hw := wait_eq hr a haa
      have hfl : (foundE chs (hist chs cs back (pre.map (·.1))).2.2).length < 1000 := by
        have : pre.length ≤ acts.length := by have := congrArg List.length hz1; simp at this; omega
        simp [foundE, k2]; omega
      have ht : t = (hist chs cs back (pre.map (·.1))).2.1 + (if a.isW = true then 1 else 0) := congrArg (·.1) hts
      have hss : s = step chs cs back (hist chs cs back (pre.map (·.1))).1 a := congrArg (·.2) hts
      have hpl : oIt s.e (.int 1) = some (.int s.pl) := by simp [Sg.e]
      refine ⟨[.im (clO chs top cs), .im (.int back), .im (.tup (acts.map Ac.e)), .im (.obj "Score" (scF chs top cs back)), .cl true (.lst (foundE chs (hist chs cs back ((pre ++ [(a, t, s)]).map (·.1))).2.2)), .im (.int (hist chs cs back ((pre ++ [(a, t, s)]).map (·.1))).2.1), .im a.e, .im s.e], ?_, _, _, rfl⟩
      rw [List.map_append, List.map_singleton, hist_snoc]
      cases hwa : a.isW with
      | true =>
        rw [hwa] at hw ht
        simp at ht
        simp [hw, m_look, hpl, hlk, hfl, tickQ, hwa, ← ht, ← hss]
        simp [foundE]
      | false =>
        rw [hwa] at hw ht
        simp at ht
        simp [hw, m_look, hpl, hlk, hfl, tickQ, hwa, ← ht, ← hss]
        simp [foundE])
  have e0 : (hist chs cs back []) = (sg0 chs, 0, []) := rfl
  rw [List.map_nil, e0] at h1
  simp only [foundE, List.map_nil] at h1
  rw [h1]
  simp [foundE, List.map_fst_zip, hlen]
end Go
/-! MT -/
set_option autoImplicit false
set_option maxRecDepth 100000
set_option linter.all false
namespace Go
open PySem L2 PX
theorem sz_go : oInK false k_SIZES (.str "go") = some (.bl true) ∧ oItK k_SIZES (.str "go") = some (.int 1) := by constructor <;> rfl
theorem sz_back : oInK false k_SIZES (.str "back") = some (.bl true) ∧ oItK k_SIZES (.str "back") = some (.int 1) := by constructor <;> rfl
theorem sz_jump : oInK false k_SIZES (.str "jump") = some (.bl true) ∧ oItK k_SIZES (.str "jump") = some (.int 2) := by constructor <;> rfl
theorem sz_wait : oInK false k_SIZES (.str "wait") = some (.bl true) ∧ oItK k_SIZES (.str "wait") = some (.int 1) := by constructor <;> rfl
theorem sz_hold : oInK false k_SIZES (.str "hold") = some (.bl true) ∧ oItK k_SIZES (.str "hold") = some (.int 3) := by constructor <;> rfl
theorem sz_free : oInK false k_SIZES (.str "free") = some (.bl true) ∧ oItK k_SIZES (.str "free") = some (.int 2) := by constructor <;> rfl
theorem act_size (a : Ac) : P_has_act_size [a.e] = some (.bl true) := by
  unfold P_has_act_size B_has_act_size
  cases a <;> simp [Ac.e, sz_go, sz_back, sz_jump, sz_wait, sz_hold, sz_free]
theorem is_act_ok (chs : List Str) (top : Int) (a : Ac) (ha : a.ok chs top) : P_is_act [rigO chs top, a.e] = some (.bl true) := by
  have h1 := act_size a
  unfold P_is_act B_is_act
  cases a with
  | go => simp [h1]; simp [Ac.e]
  | back => simp [h1]; simp [Ac.e]
  | wait => simp [h1]; simp [Ac.e]
  | jump n => simp [h1]; simp [Ac.e, t_MOST_NUMBER_acts, ha.1, ha.2]
  | hold c l =>
    have := known_ok chs c ha.1
    simp [h1]; simp [Ac.e, rig_ch, rig_top, this, ha.2.1, ha.2.2]
  | free c =>
    have := known_ok chs c ha
    simp [h1]; simp [Ac.e, rig_ch, this]
theorem wrong_act (chs : List Str) (top : Int) (acts : List Ac) (ha : ∀ a ∈ acts, a.ok chs top) (hal : acts.length ≤ 60) : P_first_wrong_act [rigO chs top, .tup (acts.map Ac.e)] = some .non := by
  unfold P_first_wrong_act B_first_wrong_act
  simp
  obtain ⟨ρ', h1, ⟨j1, j2, rfl⟩⟩ := loop_pass (g := gt 2 (gcons (gn 2) (gcons (gn 3) (gnil)))) (f := biff (tor (tb (s2 (v 2) (c t_MOST_ACTS) (oEq false))) (tnot (tb (sA (acons (v 0) (acons (v 3) (anil))) P_is_act)))) (ret (v 2)) (bnil))
    (fun q : T × Nat => T.tup [.int (q.2 : Int), q.1]) (fun ρ => ∃ j1 j2, ρ = [.im (rigO chs top), .im (.tup (acts.map Ac.e)), j1, j2]) (acts.map Ac.e).zipIdx _ ⟨.no, .no, rfl⟩ (by
      rintro ⟨x, i⟩ ρ hx ⟨j1, j2, rfl⟩
      have hi := List.mem_zipIdx_iff_getElem?.mp hx
      simp only [List.getElem?_map] at hi
      obtain ⟨a, haa, rfl⟩ := Option.map_eq_some_iff.mp hi
      have hn := is_act_ok chs top a (ha a (List.mem_of_getElem? haa))
      have hlt : i < acts.length := (List.getElem?_eq_some_iff.mp haa).1
      refine ⟨[.im (rigO chs top), .im (.tup (acts.map Ac.e)), .im (.int (i : Int)), .im a.e], ?_, _, _, rfl⟩
      simp [hn, t_MOST_ACTS, show ¬ (i : Int) = 60 by omega])
  rw [h1]
  simp
theorem need_acts_ok (chs : List Str) (top : Int) (acts : List Ac) (ha : ∀ a ∈ acts, a.ok chs top) (hal : acts.length ≤ 60) : P_need_acts [rigO chs top, .tup (acts.map Ac.e)] = some .non := by
  have := wrong_act chs top acts ha hal
  unfold P_need_acts B_need_acts
  simp [this]
theorem need_list_ok (chs : List Str) (top : Int) (cs : List Cu) : P_need_list [clO chs top cs] = some .non := by
  have h : oIsO b_CueList c_CueList (clO chs top cs) = some (.bl true) := by rfl
  unfold P_need_list B_need_list
  simp [h]
theorem need_back_ok (back : Int) (hb : 0 ≤ back ∧ back ≤ 5) : P_need_back [.int back] = some .non := by
  have h3 := need_number back 0 5 hb
  unfold P_need_back B_need_back
  simp [h3, t_MOST_BACK]
theorem need_acted_ok (chs : List Str) (top : Int) (cs : List Cu) (back : Int) (acts : List Ac) (hb : 0 ≤ back ∧ back ≤ 5) (ha : ∀ a ∈ acts, a.ok chs top) (hal : acts.length ≤ 60) : P_need_acted [clO chs top cs, .int back, .tup (acts.map Ac.e)] = some .non := by
  have h1 := need_list_ok chs top cs
  have h2 := need_back_ok back hb
  have h3 := need_acts_ok chs top acts ha hal
  have h4 : fld "CueList" "rig" (clO chs top cs) = some (rigO chs top) := by rfl
  unfold P_need_acted B_need_acted
  simp [h1, h2, h3, h4]
section
variable (chs : List Str) (top : Int) (cs : List Cu) (back : Int) (acts : List Ac) (hr : RigOk chs top) (hc : ∀ c ∈ cs, c.ok chs top) (hl : cs.length ≤ 20) (hb : 0 ≤ back ∧ back ≤ 5) (ha : ∀ a ∈ acts, a.ok chs top) (hal : acts.length ≤ 60)
include hr hc hl hb ha hal
theorem log_ok : P_log [clO chs top cs, .int back, .tup (acts.map Ac.e)] = some (.tup (foundE chs (hist chs cs back acts).2.2)) := by
  have h1 := need_acted_ok chs top cs back acts hb ha hal
  have h2 := log_of_ok chs top cs back acts hr hc hl hb ha hal
  unfold P_log B_log
  simp [h1, h2]
theorem looks_ok : P_looks [clO chs top cs, .int back, .tup (acts.map Ac.e)] = some (.tup (shownE chs (sg0 chs) (hist chs cs back acts).2.2)) := by
  have h1 := need_acted_ok chs top cs back acts hb ha hal
  have hi := score_init chs top cs back hr.l2 hc hl
  have hst := stages_ok chs top cs back acts hr hc hb ha hal
  obtain ⟨_, hlen, hoks⟩ := hist_ok hr hc hb acts ha
  have h2 : P_looks_of [clO chs top cs, .int back, .tup (acts.map Ac.e)] = some (.tup (shownE chs (sg0 chs) (hist chs cs back acts).2.2)) := by
    unfold P_looks_of B_looks_of
    simp only [scO] at hi hst
    simp [hi, m_stages, hst]
    have e : sgs chs (hist chs cs back acts).2.2 = (sg0 chs :: (hist chs cs back acts).2.2.map (·.2)).map Sg.e := by
      simp [sgs]
    rw [e]
    rw [lcl_fn Sg.e (lookE chs) (sg0 chs :: (hist chs cs back acts).2.2.map (·.2)) (fun s hs => by
      have hso : s.ok chs top cs := by
        rcases List.mem_cons.mp hs with rfl | h
        · exact first_ok
        · obtain ⟨p, hp, rfl⟩ := List.mem_map.mp h
          exact hoks p hp
      have := sc_look chs top cs back s hr hso
      simp only [scO] at this
      simp [m_look, this]) (by simp [hlen]; omega)]
    simp [shownE]
  unfold P_looks B_looks
  simp [h1, h2]
theorem stage_behind_ok : P_stage_behind [clO chs top cs, .int back, .tup (acts.map Ac.e)] = some (hist chs cs back acts).1.e := by
  have h1 := need_acted_ok chs top cs back acts hb ha hal
  have hi := score_init chs top cs back hr.l2 hc hl
  have hst := stages_ok chs top cs back acts hr hc hb ha hal
  have hlast : (sgs chs (hist chs cs back acts).2.2).getLast? = some (hist chs cs back acts).1.e := by
    rcases List.eq_nil_or_concat acts with rfl | ⟨p, a, rfl⟩
    · rfl
    · rw [List.concat_eq_append, hist_snoc]
      simp only [sgs, tickQ, List.map_append, List.map_cons, List.map_nil, ← List.cons_append, List.getLast?_append]
      simp
  have hat : atI (sgs chs (hist chs cs back acts).2.2) (-1) = some (hist chs cs back acts).1.e := by
    rw [PX.atI_last _ (by simp [sgs])]; exact hlast
  unfold P_stage_behind B_stage_behind
  simp only [scO] at hi hst
  simp [h1, hi, m_stages, hst, hat]
end
theorem stage_rests_ok (s : Sg) (hs : s.rs.length ≤ 8) : P_stage_rests [s.e] = some (.bl (restS s)) := by
  unfold P_stage_rests B_stage_rests
  simp [Sg.e]
  rw [lcl_fn Rn.e (fun r => T.bl (decide (r.d ≤ r.c))) s.rs (fun r hr' => by simp [prg_rests]) (by omega)]
  simp [oAll_map, t_NEVER]
  unfold restS
  by_cases hall : ∀ x ∈ s.rs, x.d ≤ x.c
  · have e : (s.rs.any fun r => decide (r.c < r.d)) = false := by
      rw [List.any_eq_false]; intro x hx; have := hall x hx; simp; omega
    rw [if_pos hall, e]
    simp
    by_cases h1 : s.du = -1 <;> simp [h1]
  · have e : (s.rs.any fun r => decide (r.c < r.d)) = true := by
      refine Classical.byContradiction fun h => hall fun x hx => ?_
      have h := List.any_eq_false.mp (Bool.not_eq_true _ ▸ h) x hx
      simp at h
      omega
    rw [if_neg hall, e]
    simp
theorem waits_ok (chs : List Str) (top : Int) (cs : List Cu) (back : Int) (s : Sg) (m : Nat) (hr : RigOk chs top) (hc : ∀ c ∈ cs, c.ok chs top) (hb : 0 ≤ back ∧ back ≤ 5) (hs : s.ok chs top cs)
    (hm : m < 200) (h1 : restS (wIt chs cs back m s) = true) (h2 : ∀ k, k < m → restS (wIt chs cs back k s) = false) :
    P_waits_of [scO chs top cs back, s.e] = some (.int m) := by
  have l2 := hr.l2
  have hrs : ∀ k, P_stage_rests [(wIt chs cs back k s).e] = some (.bl (restS (wIt chs cs back k s))) := fun k => stage_rests_ok _ (by rw [(wIt_ok hr hc hb k s hs).len]; exact l2)
  have main : ∀ (k : Nat), k ≤ m → ∀ n, k < n → wloop (tnot (tb (sA (acons (v 2) (anil)) P_stage_rests))) (bpar2 2 3 (im (sM "Score" "behind" (v 0) (acons (v 2) (acons (c t_WAIT) (anil))) P_Score_behind)) (im (s2 (v 3) (c (.int 1)) oAddG))) n
      [.im (.obj "Score" (scF chs top cs back)), .im s.e, .im (wIt chs cs back (m - k) s).e, .im (.int ((m - k : Nat) : Int))] = some (.nx [.im (.obj "Score" (scF chs top cs back)), .im s.e, .im (wIt chs cs back m s).e, .im (.int (m : Int))]) := by
    intro k
    induction k with
    | zero =>
      intro _ n hn
      obtain ⟨n, rfl⟩ : ∃ j, n = j + 1 := ⟨n - 1, by omega⟩
      have t := hrs m
      rw [h1] at t
      unfold wloop
      simp [t]
    | succ k ih =>
      intro hk n hn
      obtain ⟨n, rfl⟩ : ∃ j, n = j + 1 := ⟨n - 1, by omega⟩
      have t := hrs (m - (k + 1))
      rw [h2 _ (by omega)] at t
      have hd := behind_ok chs top cs back (wIt chs cs back (m - (k + 1)) s) .wait hr (wIt_ok hr hc hb _ s hs) trivial
      rw [← wIt_succ, show m - (k + 1) + 1 = m - k by omega] at hd
      have h := ih (by omega) n (by omega)
      have hw : t_WAIT = Ac.e .wait := rfl
      simp only [scO] at hd
      have e : ((m - (k + 1) : Nat) : Int) + 1 = ((m - k : Nat) : Int) := by omega
      unfold wloop
      simp [t, m_behind, hw, hd, e]
      exact h
  have h := main m (Nat.le_refl _) W_waits_of (by unfold W_waits_of; omega)
  rw [Nat.sub_self] at h
  unfold P_waits_of B_waits_of
  have h' : wloop (tnot (tb (sA (acons (v 2) (anil)) P_stage_rests))) (bpar2 2 3 (im (sM "Score" "behind" (v 0) (acons (v 2) (acons (c t_WAIT) (anil))) P_Score_behind)) (im (s2 (v 3) (c (.int 1)) oAddG))) W_waits_of
      [.im (.obj "Score" (scF chs top cs back)), .im s.e, .im s.e, .im (.int 0)] = some (.nx [.im (.obj "Score" (scF chs top cs back)), .im s.e, .im (wIt chs cs back m s).e, .im (.int (m : Int))]) := h
  simp only [scO]
  simp [h']
theorem settles_ok (chs : List Str) (top : Int) (cs : List Cu) (back : Int) (acts : List Ac) (m : Nat) (hr : RigOk chs top) (hc : ∀ c ∈ cs, c.ok chs top) (hl : cs.length ≤ 20) (hb : 0 ≤ back ∧ back ≤ 5) (ha : ∀ a ∈ acts, a.ok chs top) (hal : acts.length ≤ 60)
    (hm : m < 200) (h1 : restS (wIt chs cs back m (hist chs cs back acts).1) = true) (h2 : ∀ k, k < m → restS (wIt chs cs back k (hist chs cs back acts).1) = false) :
    P_settles [clO chs top cs, .int back, .tup (acts.map Ac.e)] = some (.int m) := by
  have hn := need_acted_ok chs top cs back acts hb ha hal
  have hi := score_init chs top cs back hr.l2 hc hl
  have hst := stages_ok chs top cs back acts hr hc hb ha hal
  have hlast : (sgs chs (hist chs cs back acts).2.2).getLast? = some (hist chs cs back acts).1.e := by
    rcases List.eq_nil_or_concat acts with rfl | ⟨p, a, rfl⟩
    · rfl
    · rw [List.concat_eq_append, hist_snoc]
      simp only [sgs, tickQ, List.map_append, List.map_cons, List.map_nil, ← List.cons_append, List.getLast?_append]
      simp
  have hat : atI (sgs chs (hist chs cs back acts).2.2) (-1) = some (hist chs cs back acts).1.e := by
    rw [PX.atI_last _ (by simp [sgs])]; exact hlast
  have hw := waits_ok chs top cs back (hist chs cs back acts).1 m hr hc hb (hist_ok hr hc hb acts ha).1 hm h1 h2
  unfold P_settles B_settles
  simp only [scO] at hi hst hw
  simp [hn, hi, m_stages, hst, hat, hw]
end Go
/-! MU -/
set_option autoImplicit false
set_option maxRecDepth 100000
set_option linter.all false
namespace Go
open PySem L2 PX
def atT (clock : List (Int × Ac)) (t : Int) : List Ac := (clock.filter fun p => decide (p.1 = t)).map (·.2)
theorem acts_at_ok (clock : List (Int × Ac)) (t : Int) (hl : clock.length ≤ 60) : P_acts_at [.tup (clock.map tmE), .int t] = some (.lst ((atT clock t).map Ac.e)) := by
  unfold P_acts_at B_acts_at
  simp
  rw [lcl_fil tmE (fun p => p.2.e) (fun p => decide (p.1 = t)) clock (fun p hp => by
    by_cases h : p.1 = t <;> simp [tmE, h]) (by omega)]
  simp [atT]
/-- the acts from a tick on -/
def goW (clock : List (Int × Ac)) : Int → List Ac → List Ac
  | _, [] => []
  | t, a :: r => if a.isW = true then a :: (atT clock (t + 1) ++ goW clock (t + 1) r) else a :: goW clock t r
def wvQ (clock : List (Int × Ac)) (q : Int × List Ac) (a : Ac) : Int × List Ac := if a.isW = true then (q.1 + 1, q.2 ++ [a] ++ atT clock (q.1 + 1)) else (q.1, q.2 ++ [a])
theorem wvQ_go (clock : List (Int × Ac)) : ∀ (acts : List Ac) (q : Int × List Ac), (acts.foldl (wvQ clock) q).2 = q.2 ++ goW clock q.1 acts
  | [], q => by simp [goW]
  | a :: r, q => by
    rw [List.foldl_cons, wvQ_go clock r]
    unfold wvQ
    cases h : a.isW with
    | true => simp [goW, h]
    | false => simp [goW, h]
/-- a good clock -/
structure ClkOk (chs : List Str) (top : Int) (clock : List (Int × Ac)) : Prop where
  len : clock.length ≤ 60
  up : (clock.map (·.1)).Pairwise (· ≤ ·)
  it : ∀ p ∈ clock, 0 ≤ p.1 ∧ p.1 ≤ 999 ∧ p.2.ok chs top ∧ p.2.isW = false
theorem at_len (clock : List (Int × Ac)) (t : Int) : (atT clock t).length + (clock.filter fun p => decide (t < p.1)).length ≤ (clock.filter fun p => decide (t ≤ p.1)).length := by
  unfold atT
  rw [List.length_map]
  induction clock with
  | nil => simp
  | cons p r ih =>
    simp only [List.filter_cons]
    by_cases h1 : p.1 = t
    · rw [if_pos (by simpa using h1), if_neg (by simp; omega), if_pos (by simp; omega)]
      simp only [List.length_cons]
      omega
    · rw [if_neg (by simpa using h1)]
      by_cases h2 : t < p.1
      · rw [if_pos (by simpa using h2), if_pos (by simp; omega)]
        simp only [List.length_cons]
        omega
      · rw [if_neg (by simpa using h2), if_neg (by simp; omega)]
        exact ih
theorem go_len (clock : List (Int × Ac)) : ∀ (acts : List Ac) (t : Int), (goW clock t acts).length ≤ acts.length + (clock.filter fun p => decide (t < p.1)).length
  | [], t => by simp [goW]
  | a :: r, t => by
    unfold goW
    split
    · have h1 := go_len clock r (t + 1)
      have h2 := at_len clock (t + 1)
      have e : (clock.filter fun p => decide (t + 1 ≤ p.1)) = clock.filter fun p => decide (t < p.1) := by
        congr 1
      rw [e] at h2
      simp only [List.length_cons, List.length_append]
      omega
    · have h1 := go_len clock r t
      simp only [List.length_cons]
      omega
theorem woven_acts_ok (chs : List Str) (top : Int) (clock : List (Int × Ac)) (acts : List Ac) (hr : RigOk chs top) (hk : ClkOk chs top clock) (ha : ∀ a ∈ acts, a.ok chs top) (hal : acts.length ≤ 60) :
    P_woven_acts [.tup (clock.map tmE), .tup (acts.map Ac.e)] = some (.tup ((atT clock 0 ++ goW clock 0 acts).map Ac.e)) := by
  have h0 := acts_at_ok clock 0 hk.len
  have hbound : ∀ pre : List Ac, pre.length ≤ 60 → (atT clock 0 ++ goW clock 0 pre).length ≤ 130 := fun pre hp => by
    have h1 := go_len clock pre 0
    have h2 := at_len clock 0
    have h3 := List.length_filter_le (fun p : Int × Ac => decide (0 ≤ p.1)) clock
    have := hk.len
    rw [List.length_append]
    omega
  unfold P_woven_acts B_woven_acts
  simp [h0]
  obtain ⟨ρ', h1, ⟨j4, rfl⟩⟩ := loop_ix (g := gn 4) (f := bseq (drop (sBC "list" 2 (acons (v 4) (anil)) oAppend)) (biff (tb (s2 (v 4) (c t_WAIT) (oEq false))) (bseq (bset 3 (im (s2 (v 3) (c (.int 1)) oAddG))) (drop (sBC "list" 2 (acons (sA (acons (v 0) (acons (v 3) (anil))) P_acts_at) (anil)) oExtend))) (bnil))) Ac.e
    (fun (pre : List Ac) ρ => ∃ j4, ρ = [.im (.tup (clock.map tmE)), .im (.tup (acts.map Ac.e)), .cl true (.lst ((pre.foldl (wvQ clock) (0, atT clock 0)).2.map Ac.e)), .im (.int (pre.foldl (wvQ clock) (0, atT clock 0)).1), j4]) acts [] acts _ rfl ⟨.no, rfl⟩ (by
      rintro pre a post ρ hsp ⟨j4, rfl⟩
      have haa : a.ok chs top := ha a (by rw [hsp]; simp)
      have hlp : pre.length < acts.length := by rw [hsp]; simp
      have hw := wait_eq hr a haa
      have hb1 := hbound (pre ++ [a]) (by simp; omega)
      rw [← wvQ_go clock (pre ++ [a]) (0, atT clock 0)] at hb1
      have hat := acts_at_ok clock ((pre.foldl (wvQ clock) (0, atT clock 0)).1 + 1) hk.len
      refine ⟨[.im (.tup (clock.map tmE)), .im (.tup (acts.map Ac.e)), .cl true (.lst (((pre ++ [a]).foldl (wvQ clock) (0, atT clock 0)).2.map Ac.e)), .im (.int ((pre ++ [a]).foldl (wvQ clock) (0, atT clock 0)).1), .im a.e], ?_, _, rfl⟩
      rw [List.foldl_append] at hb1 ⊢
      simp only [List.foldl_cons, List.foldl_nil] at hb1 ⊢
      generalize pre.foldl (wvQ clock) (0, atT clock 0) = q at *
      cases hwa : a.isW with
      | true =>
        rw [hwa] at hw
        have e : wvQ clock q a = (q.1 + 1, q.2 ++ [a] ++ atT clock (q.1 + 1)) := by unfold wvQ; rw [hwa]; rfl
        rw [e] at hb1 ⊢
        simp only [List.length_append, List.length_singleton] at hb1
        simp [hw, hat, show q.2.length < 1000 by omega]
        rw [if_pos (by omega)]
        simp
      | false =>
        rw [hwa] at hw
        have e : wvQ clock q a = (q.1, q.2 ++ [a]) := by unfold wvQ; rw [hwa]; rfl
        rw [e] at hb1 ⊢
        simp only [List.length_append, List.length_singleton] at hb1
        simp [hw, show q.2.length < 1000 by omega])
  simp only [List.foldl_nil] at h1
  rw [h1]
  have e := wvQ_go clock acts (0, atT clock 0)
  simp [e]
theorem is_time_ok (chs : List Str) (top : Int) (hr : RigOk chs top) (p : Int × Ac) (h : 0 ≤ p.1 ∧ p.1 ≤ 999 ∧ p.2.ok chs top ∧ p.2.isW = false) : P_is_time [rigO chs top, tmE p] = some (.bl true) := by
  have h1 := is_act_ok chs top p.2 h.2.2.1
  have h2 : oEq true p.2.e t_WAIT = some (.bl true) := by
    have := ac_wait hr true p.2 h.2.2.1
    rw [h.2.2.2] at this
    exact this
  unfold P_is_time B_is_time
  simp [tmE, t_LAST_TICK, h1, h2, h.1, h.2.1]
theorem need_clock_ok (chs : List Str) (top : Int) (hr : RigOk chs top) (clock : List (Int × Ac)) (hk : ClkOk chs top clock) : P_need_clock [rigO chs top, .tup (clock.map tmE)] = some .non := by
  have hf : P_first_wrong_time [rigO chs top, .tup (clock.map tmE)] = some .non := by
    unfold P_first_wrong_time B_first_wrong_time
    simp
    obtain ⟨ρ', h1, ⟨j1, j2, rfl⟩⟩ := loop_pass (g := gt 2 (gcons (gn 2) (gcons (gn 3) (gnil)))) (f := bseq (biff (tor (tb (s2 (v 2) (c t_MOST_TIMES) (oEq false))) (tnot (tb (sA (acons (v 0) (acons (v 3) (anil))) P_is_time)))) (ret (v 2)) (bnil)) (biff (tand (tb (s2 (v 2) (c (.int 0)) (oGt))) (tb (s2 (s2 (v 3) (c (.int 0)) oIt) (s2 (s2 (v 1) (s2 (v 2) (c (.int 1)) oSub) oIt) (c (.int 0)) oIt) (oLtG)))) (ret (v 2)) (bnil)))
      (fun q : T × Nat => T.tup [.int (q.2 : Int), q.1]) (fun ρ => ∃ j1 j2, ρ = [.im (rigO chs top), .im (.tup (clock.map tmE)), j1, j2]) (clock.map tmE).zipIdx _ ⟨.no, .no, rfl⟩ (by
        rintro ⟨x, i⟩ ρ hx ⟨j1, j2, rfl⟩
        have hi := List.mem_zipIdx_iff_getElem?.mp hx
        simp only [List.getElem?_map] at hi
        obtain ⟨p, hpp, rfl⟩ := Option.map_eq_some_iff.mp hi
        have hn := is_time_ok chs top hr p (hk.it p (List.mem_of_getElem? hpp))
        have hlt : i < clock.length := (List.getElem?_eq_some_iff.mp hpp).1
        have hl60 := hk.len
        refine ⟨[.im (rigO chs top), .im (.tup (clock.map tmE)), .im (.int (i : Int)), .im (tmE p)], ?_, _, _, rfl⟩
        by_cases h0 : 0 < i
        · obtain ⟨d, hdd⟩ : ∃ d, clock[i - 1]? = some d := ⟨_, List.getElem?_eq_getElem (by omega)⟩
          have hle : d.1 ≤ p.1 := by
            have := List.pairwise_iff_getElem.mp hk.up (i - 1) i (by rw [List.length_map]; omega) (by rw [List.length_map]; omega) (by omega)
            obtain ⟨a1, a2⟩ := List.getElem?_eq_some_iff.mp hpp
            obtain ⟨b1, b2⟩ := List.getElem?_eq_some_iff.mp hdd
            simpa [a2, b2] using this
          have e : (i : Int) - 1 = ((i - 1 : Nat) : Int) := by omega
          simp [hn, h0, e, hdd, t_MOST_TIMES, show ¬ (i : Int) = 60 by omega, show ¬ p.1 < d.1 by omega]
        · simp [hn, h0, t_MOST_TIMES, show ¬ (i : Int) = 60 by omega])
    rw [h1]
    simp
  unfold P_need_clock B_need_clock
  simp [hf]
theorem woven_ok (chs : List Str) (top : Int) (clock : List (Int × Ac)) (acts : List Ac) (hr : RigOk chs top) (hk : ClkOk chs top clock) (ha : ∀ a ∈ acts, a.ok chs top) (hal : acts.length ≤ 60) :
    P_woven [rigO chs top, .tup (clock.map tmE), .tup (acts.map Ac.e)] = some (.tup ((atT clock 0 ++ goW clock 0 acts).map Ac.e)) := by
  have h1 := need_rig_ok chs top
  have h2 := need_clock_ok chs top hr clock hk
  have h3 := need_acts_ok chs top acts ha hal
  have h4 := woven_acts_ok chs top clock acts hr hk ha hal
  unfold P_woven B_woven
  simp [h1, h2, h3, h4]
/-! the law's weaving is the same -/
theorem take_at {l : List (Int × Ac)} (hu : (l.map (·.1)).Pairwise (· ≤ ·)) {t : Int} (h : ∀ p ∈ l, t ≤ p.1) : l.takeWhile (fun p => decide (p.1 = t)) = l.filter (fun p => decide (p.1 = t)) ∧ l.dropWhile (fun p => decide (p.1 = t)) = l.filter (fun p => decide (t < p.1)) := by
  induction l with
  | nil => exact ⟨rfl, rfl⟩
  | cons p r ih =>
    rw [List.map_cons] at hu
    have hu' := List.pairwise_cons.mp hu
    have hp := h p List.mem_cons_self
    have ih' := ih hu'.2 fun q hq => h q (List.mem_cons_of_mem _ hq)
    by_cases e : p.1 = t
    · rw [List.takeWhile_cons_of_pos (by simpa using e), List.dropWhile_cons_of_pos (by simpa using e), List.filter_cons_of_pos (by simpa using e), List.filter_cons_of_neg (by simp; omega), ih'.1, ih'.2]
      exact ⟨rfl, rfl⟩
    · rw [List.takeWhile_cons_of_neg (by simpa using e), List.dropWhile_cons_of_neg (by simpa using e), List.filter_cons_of_neg (by simpa using e), List.filter_cons_of_pos (by simp; omega)]
      have hall : ∀ q ∈ r, t < q.1 := fun q hq => by
        have := hu'.1 q.1 (List.mem_map.mpr ⟨q, hq, rfl⟩)
        omega
      constructor
      · rw [List.filter_eq_nil_iff.mpr]
        intro q hq; have := hall q hq; simp; omega
      · rw [List.filter_eq_self.mpr]
        intro q hq; have := hall q hq; simpa using this
theorem filt_filt (clock : List (Int × Ac)) (t u : Int) (h : t ≤ u) : (clock.filter fun p => decide (t ≤ p.1)).filter (fun p => decide (p.1 = u)) = clock.filter (fun p => decide (p.1 = u)) := by
  rw [List.filter_filter]
  congr 1
  funext p
  by_cases h1 : p.1 = u
  · simp [h1, h]
  · simp [h1]
theorem filt_lt (clock : List (Int × Ac)) (t : Int) : (clock.filter fun p => decide (t ≤ p.1)).filter (fun p => decide (t < p.1)) = clock.filter (fun p => decide (t + 1 ≤ p.1)) := by
  rw [List.filter_filter]
  congr 1
  funext p
  by_cases h1 : t < p.1
  · simp [h1, show t ≤ p.1 by omega, show t + 1 ≤ p.1 by omega]
  · simp [h1, show ¬ t + 1 ≤ p.1 by omega]
/-- unpopped at t -/
theorem wq_eq {clock : List (Int × Ac)} (hu : (clock.map (·.1)).Pairwise (· ≤ ·)) : ∀ (acts : List Ac) (t : Int) (found : List Ac),
    ((acts.map some ++ [none]).foldl wq (clock.filter (fun p => decide (t ≤ p.1)), t, found)).2.2 = found ++ atT clock t ++ goW clock t acts ∧
    ((acts.map some ++ [none]).foldl wq (clock.filter (fun p => decide (t + 1 ≤ p.1)), t, found)).2.2 = found ++ goW clock t acts := by
  intro acts
  have hsub : ∀ t : Int, ((clock.filter (fun p => decide (t ≤ p.1))).map (·.1)).Pairwise (· ≤ ·) := fun t => hu.sublist (List.filter_sublist.map _)
  have h1 : ∀ t : Int, (clock.filter (fun p => decide (t ≤ p.1))).takeWhile (fun p => decide (p.1 = t)) = clock.filter (fun p => decide (p.1 = t)) ∧ (clock.filter (fun p => decide (t ≤ p.1))).dropWhile (fun p => decide (p.1 = t)) = clock.filter (fun p => decide (t + 1 ≤ p.1)) := fun t => by
    have := take_at (hsub t) (t := t) (fun p hp => of_decide_eq_true (List.mem_filter.mp hp).2)
    rw [filt_filt clock t t (Int.le_refl _), filt_lt] at this
    exact this
  have h2 : ∀ t : Int, (clock.filter (fun p => decide (t + 1 ≤ p.1))).takeWhile (fun p => decide (p.1 = t)) = [] ∧ (clock.filter (fun p => decide (t + 1 ≤ p.1))).dropWhile (fun p => decide (p.1 = t)) = clock.filter (fun p => decide (t + 1 ≤ p.1)) := fun t => by
    have := take_at (hsub (t + 1)) (t := t) (fun p hp => by have := of_decide_eq_true (List.mem_filter.mp hp).2; omega)
    rw [this.1, this.2]
    constructor
    · rw [List.filter_eq_nil_iff]
      intro p hp
      have := of_decide_eq_true (List.mem_filter.mp hp).2
      simp; omega
    · rw [List.filter_eq_self]
      intro p hp
      have := of_decide_eq_true (List.mem_filter.mp hp).2
      simp; omega
  induction acts with
  | nil =>
    intro t found
    simp only [List.map_nil, List.nil_append, List.foldl_cons, List.foldl_nil, wq, (h1 t).1, (h2 t).1, goW]
    simp [atT]
  | cons a r ih =>
    intro t found
    have e1 : wq (clock.filter (fun p => decide (t ≤ p.1)), t, found) (some a) = (clock.filter (fun p => decide (t + 1 ≤ p.1)), t + (if a.isW = true then 1 else 0), found ++ atT clock t ++ [a]) := by
      unfold wq
      simp only [(h1 t).1, (h1 t).2, Option.toList, atT]
    have e2 : wq (clock.filter (fun p => decide (t + 1 ≤ p.1)), t, found) (some a) = (clock.filter (fun p => decide (t + 1 ≤ p.1)), t + (if a.isW = true then 1 else 0), found ++ [a]) := by
      unfold wq
      simp only [(h2 t).1, (h2 t).2, Option.toList, List.map_nil, List.append_nil]
    simp only [List.map_cons, List.cons_append, List.foldl_cons, e1, e2]
    cases hw : a.isW with
    | true =>
      simp only [if_true]
      constructor
      · rw [(ih (t + 1) _).1]
        simp [goW, hw]
      · rw [(ih (t + 1) _).1]
        simp [goW, hw]
    | false =>
      simp only [Bool.false_eq_true, if_false, Int.add_zero]
      constructor
      · rw [(ih t _).2]
        simp [goW, hw]
      · rw [(ih t _).2]
        simp [goW, hw]
theorem law_prog_woven (chs : List Str) (top : Int) (clock : List (Int × Ac)) (acts : List Ac) (hr : RigOk chs top) (hk : ClkOk chs top clock) (ha : ∀ a ∈ acts, a.ok chs top) (hal : acts.length ≤ 60) :
    P__law_woven [.tup (clock.map tmE), .tup (acts.map Ac.e)] = some (.tup ((atT clock 0 ++ goW clock 0 acts).map Ac.e)) := by
  have h := law_woven hr clock acts (fun p hp => (hk.it p hp).2.2.1) ha (by have := hk.len; omega)
  have e : clock.filter (fun p => decide ((0 : Int) ≤ p.1)) = clock := by
    rw [List.filter_eq_self]
    intro p hp
    have := (hk.it p hp).1
    simpa using this
  have h2 := (wq_eq hk.up acts 0 []).1
  rw [e] at h2
  rw [h, h2, List.nil_append]
theorem goW_ok {chs : List Str} {top : Int} {clock : List (Int × Ac)} (hk : ClkOk chs top clock) : ∀ (acts : List Ac) (t : Int), (∀ a ∈ acts, a.ok chs top) → ∀ a ∈ goW clock t acts, a.ok chs top
  | [], t, _, a, h => by cases h
  | b :: r, t, hb, a, h => by
    unfold goW at h
    have hr := fun u => goW_ok hk r u fun c hc => hb c (List.mem_cons_of_mem _ hc)
    split at h
    · rcases List.mem_cons.mp h with rfl | h
      · exact hb _ List.mem_cons_self
      · rcases List.mem_append.mp h with h | h
        · unfold atT at h
          obtain ⟨p, hp, rfl⟩ := List.mem_map.mp h
          exact (hk.it p (List.mem_filter.mp hp).1).2.2.1
        · exact hr _ a h
    · rcases List.mem_cons.mp h with rfl | h
      · exact hb _ List.mem_cons_self
      · exact hr _ a h
theorem woven_acts_good {chs : List Str} {top : Int} {clock : List (Int × Ac)} (hk : ClkOk chs top clock) (acts : List Ac) (ha : ∀ a ∈ acts, a.ok chs top) : ∀ a ∈ atT clock 0 ++ goW clock 0 acts, a.ok chs top := fun a h => by
  rcases List.mem_append.mp h with h | h
  · unfold atT at h
    obtain ⟨p, hp, rfl⟩ := List.mem_map.mp h
    exact (hk.it p (List.mem_filter.mp hp).1).2.2.1
  · exact goW_ok hk acts 0 ha a h
theorem woven_empty (acts : List Ac) : atT [] 0 ++ goW [] 0 acts = acts := by
  suffices ∀ t, goW [] t acts = acts by simpa [atT] using this 0
  induction acts with
  | nil => intro t; rfl
  | cons a r ih => intro t; unfold goW; split <;> simp [atT, ih]
end Go
/-! M5 -/
set_option autoImplicit false
set_option maxRecDepth 100000
set_option linter.all false
namespace Go
open PySem L2 PX
def words6 : List Str := ["top", "channels", "jumps", "place", "due", "held"]
theorem words6_low : ∀ z ∈ words6, (∀ c ∈ z.cps.toList, c ∈ abc.cps.toList) ∧ 1 ≤ z.length ∧ z.length ≤ 8 := by decide +kernel
theorem rep_nos : List.replicate 6 Sl.no = [Sl.no, Sl.no, Sl.no, Sl.no, Sl.no, Sl.no] := rfl
/-- the first word of a name: drawn letters, or one of six -/
theorem first_word {p tk : T} (hp : IsPot p) : ∃ p' z y4, bseq (basg (sA (acons (PX.c (.str "abcdefghijklmnopqrstuvwxyz")) (acons (PX.c (.str "")) (anil))) mkTup) (gt 2 (gcons (gn 2) (gcons (gn 3) (gnil))))) (bseq (bfor (iA (acons (sR 0 (acons (sA (acons (PX.c (.int 1)) (acons (PX.c (.int 1)) (acons (PX.c (.int 1)) (acons (PX.c (.int 2)) (acons (PX.c (.int 3)) (acons (PX.c (.int 8)) (anil))))))) mkTup) (anil)) P__law_pick) (anil)) rng1) (gn 4) (bset 3 (im (s2 (v 3) (sR 0 (acons (v 2) (anil)) P__law_pick) oAddG)))) (bset 3 (im (ifx (tb (s2 (sR 0 (acons (PX.c (.int 14)) (anil)) P__law_draw) (PX.c (.int 0)) (oEq false))) (sR 0 (acons (sA (acons (PX.c (.str "top")) (acons (PX.c (.str "channels")) (acons (PX.c (.str "jumps")) (acons (PX.c (.str "place")) (acons (PX.c (.str "due")) (acons (PX.c (.str "held")) (anil))))))) mkTup) (anil)) P__law_pick) (v 3)))))
      [.cl false p, .im tk, .no, .no, .no, .no, .no, .no] = some (.nx [.cl false p', .im tk, .im (.str abc), .im (.str z), y4, .no, .no, .no]) ∧ IsPot p' ∧ Low z ∧ 1 ≤ z.length ∧ z.length ≤ 8 := by
  obtain ⟨t, p1, e1, hp1, m1⟩ := pick_tup hp (ts := [.int 1, .int 1, .int 1, .int 2, .int 3, .int 8]) (by simp) (by simp)
  obtain ⟨k, rfl, k1, k2⟩ : ∃ k : Nat, t = .int (k : Int) ∧ 1 ≤ k ∧ k ≤ 8 := by
    simp only [List.mem_cons, List.not_mem_nil, or_false] at m1
    rcases m1 with rfl | rfl | rfl | rfl | rfl | rfl
    · exact ⟨1, rfl, by omega, by omega⟩
    · exact ⟨1, rfl, by omega, by omega⟩
    · exact ⟨1, rfl, by omega, by omega⟩
    · exact ⟨2, rfl, by omega, by omega⟩
    · exact ⟨3, rfl, by omega, by omega⟩
    · exact ⟨8, rfl, by omega, by omega⟩
  obtain ⟨p2, z0, y4, e2, hp2, l2, n2⟩ := letters_loop hp1 (tk := tk) (x4 := .no) (x5 := .no) (x6 := .no) (x7 := .no) (n := k) (by omega)
  have er := rng1_mem (n := (k : Int)) (by omega) (by omega)
  obtain ⟨r, p3, e3, hp3, r0, r1⟩ := draw_ok hp2 (m := 14) (by omega) (by omega)
  rw [Int.toNat_natCast] at er
  simp only [Int.zero_add] at e2 er
  unfold abc at e2 ⊢
  by_cases hr : r = 0
  · subst hr
    obtain ⟨t, p4, e4, hp4, m4⟩ := pick_tup hp3 (ts := words6.map T.str) (by simp [words6]) (by simp [words6])
    obtain ⟨z, hz, rfl⟩ := List.mem_map.mp m4
    obtain ⟨w1, w2, w3⟩ := words6_low z hz
    refine ⟨p4, z, y4, ?_, hp4, w1, w2, w3⟩
    simp only [words6, List.map_cons, List.map_nil] at e4
    simp [mkTup, gn, gcons, gnil, gt, e1, er, e2, e3, e4]
  · refine ⟨p3, z0, y4, ?_, hp3, l2, by omega, by omega⟩
    have hr' : (r == 0) = false := by simpa using hr
    simp [mkTup, gn, gcons, gnil, gt, e1, er, e2, e3, hr']
end Go
/-! MV -/
set_option autoImplicit false
set_option maxRecDepth 100000
set_option linter.all false
namespace PX
open PySem L2
theorem inK_not {tab : List (Str × T)} {z : Str} (h : z ∉ tab.map (·.1)) : oInK true tab (.str z) = some (.bl true) := by
  unfold oInK
  dsimp only
  rw [if_pos rfl]
  congr 2
  induction tab with
  | nil => rfl
  | cons p r ih =>
    obtain ⟨a, t⟩ := p
    rw [List.map_cons, List.mem_cons, not_or] at h
    rw [List.lookup_cons]
    have e : (z == a) = false := by simpa using h.1
    rw [e]
    exact ih h.2
end PX
namespace Go
open PySem L2 PX
theorem words_bad : ∀ x ∈ k_WORDS.map (·.1), x ∈ badL := by decide +kernel
theorem good_of {z : Str} (h0 : z ≠ "") (h1 : Low z) (h2 : z.length ≤ 8) (h3 : z ∉ badL) : NmGood z := ⟨h0, h1, h2, inK_not fun h => h3 (words_bad z h)⟩
theorem cut7_low {z : Str} (h : Low z) (hi : Option Int) : Low (cutS z none hi) := fun c hc => by
  unfold cutS at hc
  simp only [List.toList_toArray] at hc
  exact h c (List.mem_of_mem_drop (List.mem_of_mem_take hc))
theorem cut7_len {z : Str} : (cutS z none (some 7)).length ≤ 7 := by
  unfold cutS
  show (((z.cps.toList.drop _).take _).toArray).size ≤ 7
  rw [List.size_toArray, List.length_take]
  have : HT.sIx z.length z.length (some 7) ≤ 7 := by
    have := HT.sIx_nat z.length z.length 7
    have e : ((7 : Nat) : Int) = 7 := rfl
    rw [e] at this
    rw [this]; omega
  omega
theorem ne_empty {z : Str} (h : 1 ≤ z.length) : z ≠ "" := fun e => by
  rw [e] at h
  revert h
  decide +kernel
theorem law_name {p : T} (hp : IsPot p) (taken : List Str) (ht : taken.length ≤ 20) : ∃ p' z, P__law_name p [.lst (taken.map T.str)] = some (.str z, p') ∧ IsPot p' ∧ NmGood z ∧ z ∉ taken := by
  obtain ⟨p', z, y4, e, hp', low, l1, l2⟩ := first_word hp (tk := .lst (taken.map T.str))
  have hcl : (cutS z none (some 7)).length ≤ 7 := cut7_len
  have hclow := cut7_low low (some 7)
  -- the candidates
  have cand : ∀ x ∈ z :: abc.cps.toList.map (fun c => cutS z none (some 7) ++ (⟨#[c]⟩ : Str)), x ≠ "" ∧ Low x ∧ x.length ≤ 8 := by
    intro x hx
    rcases List.mem_cons.mp hx with rfl | hx
    · exact ⟨ne_empty l1, low, l2⟩
    · obtain ⟨c, hc, rfl⟩ := List.mem_map.mp hx
      have one : (⟨#[c]⟩ : Str).length = 1 := rfl
      have hlen : (cutS z none (some 7) ++ (⟨#[c]⟩ : Str)).length = (cutS z none (some 7)).length + 1 := by rw [len_app, one]
      refine ⟨ne_empty (by omega), low_app hclow fun d hd => ?_, by omega⟩
      have : d = c := by simpa using hd
      rw [this]; exact hc
  have hl26 : abc.cps.toList.length = 26 := by decide +kernel
  let good : Str → Bool := fun x => decide (x ∉ badL) && decide (x ∉ taken)
  have hne : ((z :: abc.cps.toList.map (fun c => cutS z none (some 7) ++ (⟨#[c]⟩ : Str))).filter good) ≠ [] := by
    obtain ⟨c, hc, g1, g2⟩ := good_one (cutS z none (some 7)) taken ht
    intro h
    have := List.filter_eq_nil_iff.mp h (cutS z none (some 7) ++ (⟨#[c]⟩ : Str)) (List.mem_cons_of_mem _ (List.mem_map.mpr ⟨c, hc, rfl⟩))
    exact this (by simp [good, g1, g2])
  obtain ⟨w, r, hw⟩ := List.exists_cons_of_ne_nil hne
  have hwm : w ∈ (z :: abc.cps.toList.map (fun c => cutS z none (some 7) ++ (⟨#[c]⟩ : Str))).filter good := by rw [hw]; exact List.mem_cons_self
  obtain ⟨w1, w2⟩ := List.mem_filter.mp hwm
  obtain ⟨k1, k2, k3⟩ := cand w w1
  simp only [good, Bool.and_eq_true, decide_eq_true_eq] at w2
  refine ⟨p', w, ?_, hp', good_of k1 k2 k3 w2.1, w2.2⟩
  have hsl : oSl (.str z) none (some 7) = some (.str (cutS z none (some 7))) := by
    unfold oSl; dsimp only; rw [if_pos (by omega)]
  have inner : ∀ ρ : Rho, ρ = [.cl false p', .im (.lst (taken.map T.str)), .im (.str abc), .im (.str z), y4, .no, .no, .no] → lcl [6] (gn 6) tyes (s2 (sl (v 3) (onone) (osome (c (.int 7)))) (v 6) oAddG) (abc.cps.toList.map fun c => T.str ⟨#[c]⟩) [] ρ = some (abc.cps.toList.map (fun c => T.str (cutS z none (some 7) ++ (⟨#[c]⟩ : Str))), ρ) := by
    rintro ρ rfl
    refine lcl_fn (fun c => T.str ⟨#[c]⟩) _ _ (fun c hc => ?_) (by omega)
    have one : (⟨#[c]⟩ : Str).length = 1 := rfl
    simp [hsl, one, show (cutS z none (some 7)).length ≤ 999 by omega]
  have outer : ∀ ρ : Rho, ρ = [.cl false p', .im (.lst (taken.map T.str)), .im (.str abc), .im (.str z), y4, .im (.lst ((z :: abc.cps.toList.map (fun c => cutS z none (some 7) ++ (⟨#[c]⟩ : Str))).map T.str)), .no, .no] →
      lcl [7] (gn 7) (tand (tb (sA (acons (v 7) (anil)) P__law_is_name)) (tb (s2 (v 7) (v 1) (oInG true)))) (v 7) ((z :: abc.cps.toList.map (fun c => cutS z none (some 7) ++ (⟨#[c]⟩ : Str))).map T.str) [] ρ = some (((z :: abc.cps.toList.map (fun c => cutS z none (some 7) ++ (⟨#[c]⟩ : Str))).filter good).map T.str, ρ) := by
    rintro ρ rfl
    refine lcl_fil T.str T.str good _ (fun x hx => ?_) (by simp [hl26])
    obtain ⟨c1, c2, c3⟩ := cand x hx
    have hn := name_val c1 c2 (by omega)
    rw [inV_str, decide_eq_true (show x.length < 9 by omega), Bool.true_and] at hn
    by_cases b1 : x ∈ badL
    · simp [hn, b1, good]
    · by_cases b2 : x ∈ taken
      · simp [hn, b1, b2, good]
      · simp [hn, b1, b2, good]
  unfold P__law_name B__law_name
  have habc : (T.str "abcdefghijklmnopqrstuvwxyz") = T.str abc := rfl
  have split3 : ∀ (f g h i : Blk) (ρ : Rho), bseq f (bseq g (bseq h i)) ρ = (bseq f (bseq g h) ρ).bind (outN i) := by
    intro f g h i ρ
    simp only [bp_bseq]
    rcases f ρ with _ | (_ | _ | _ | _ | _) <;> simp only [Option.bind_some, Option.bind_none, outN_nx, outN_rt, outN_rn, outN_bk, outN_ct, bp_bseq]
    rename_i ρ1
    rcases g ρ1 with _ | (_ | _ | _ | _ | _) <;> simp only [Option.bind_some, Option.bind_none, outN_nx, outN_rt, outN_rn, outN_bk, outN_ct, bp_bseq]
  simp only [runR_eq, List.length_cons, List.length_nil, if_true, List.map_cons, List.map_nil]
  rw [split3]
  have e' : (Sl.cl false p :: ([Sl.im (.lst (taken.map T.str))] ++ List.replicate (8 - 2) Sl.no)) = [Sl.cl false p, .im (.lst (taken.map T.str)), .no, .no, .no, .no, .no, .no] := rfl
  rw [e', e]
  simp only [Option.bind_some, outN_nx]
  have i1 := inner _ rfl
  have o1 := outer _ rfl
  rw [hw] at o1
  have hset : ∀ (a b c d e : Sl), [a, b, c, d, e, Sl.no, Sl.no, Sl.no].set 6 Sl.no = [a, b, c, d, e, Sl.no, Sl.no, Sl.no] := fun _ _ _ _ _ => rfl
  simp only [bp_bseq, bp_bset, bp_im, bp_s2, bp_sA, bp_acons, bp_v, ap_anil, bp_lc, bp_i1, anyOf_str, Option.bind_some, List.getElem?_cons_succ, List.getElem?_cons_zero, slI_im, mkLst_eq, List.length_cons, List.length_nil, wipeR_cons, wipeR_nil, List.set_cons_succ, List.set_cons_zero, i1, Nat.zero_add, show (1 : Nat) ≤ 1000 from by decide, if_true, oAddG_ll, List.length_map, hl26, show 1 + 26 ≤ 1000 from by decide, outN_nx]
  rw [show [T.str z] ++ abc.cps.toList.map (fun c => T.str (cutS z none (some 7) ++ (⟨#[c]⟩ : Str))) = (z :: abc.cps.toList.map (fun c => cutS z none (some 7) ++ (⟨#[c]⟩ : Str))).map T.str by rw [List.map_cons, List.map_map]; rfl]
  simp only [bp_ret, bp_s2, bp_lc, bp_i1, bp_v, anyOf_lst, Option.bind_some, List.getElem?_cons_succ, List.getElem?_cons_zero, slI_im, wipeR_cons, wipeR_nil, List.set_cons_succ, List.set_cons_zero, o1]
  simp
end Go
/-! MX -/
set_option autoImplicit false
set_option maxRecDepth 100000
set_option linter.all false
namespace PX
open PySem L2
@[simp] theorem mrg_cl_ (b0 b : Bool) (t0 t : T) (r r' : Rho) : mrg (.cl b0 t0 :: r) (.cl b t :: r') = if flatC t = true then (mrg r r').map (.cl b t :: ·) else none := by rw [mrg]
@[simp] theorem flatS_str (x : Str) : flatS (.str x) = true := rfl
end PX
namespace Go
open PySem L2 PX
theorem pot_flat {p : T} (h : IsPot p) : flatC p = true := by
  obtain ⟨a, b, c, rfl⟩ := h; rfl
theorem law_rig {p : T} (hp : IsPot p) (many : Nat) (top : Int) (hm : 1 ≤ many ∧ many ≤ 8) (ht : 1 ≤ top ∧ top ≤ 9) :
    ∃ p' chs, P__law_rig p [.int many, .int top] = some (rigE chs top, p') ∧ IsPot p' ∧ RigOk chs top ∧ ∀ c ∈ chs, NmGood c := by
  obtain ⟨ρ', h1, ⟨p', found, j4, rfl, hp', hlen, hnd, hgood⟩⟩ := loop_ix (g := gn 4) (f := drop (sBC "list" 3 (acons (vw 3 (sR 0 (acons (v 3) (anil)) P__law_name)) (anil)) oAppend)) (fun (i : Nat) => T.int (i : Int))
    (fun (pre : List Nat) ρ => ∃ p found j4, ρ = [.cl false p, .im (.int many), .im (.int top), .cl true (.lst ((found : List Str).map T.str)), j4] ∧ IsPot p ∧ found.length = pre.length ∧ found.Nodup ∧ ∀ x ∈ found, NmGood x) (List.range many) [] (List.range many) [.cl false p, .im (.int many), .im (.int top), .cl true (.lst (([] : List Str).map T.str)), .no] rfl ⟨p, [], .no, rfl, hp, rfl, .nil, fun x h => by cases h⟩ (by
      rintro pre x post ρ hsp ⟨p, found, j4, rfl, hp, hlen, hnd, hgood⟩
      have hpl : pre.length < many := by have := congrArg List.length hsp; simp at this; omega
      obtain ⟨p2, z, e, hp2, hz, hzn⟩ := law_name hp found (by omega)
      have hf := pot_flat hp2
      refine ⟨[.cl false p2, .im (.int many), .im (.int top), .cl true (.lst ((found ++ [z]).map T.str)), .im (.int (x : Int))], ?_, p2, found ++ [z], _, rfl, hp2, by simp [hlen], ?_, ?_⟩
      · simp [e, hf, show found.length < 1000 by omega]
      · rw [List.nodup_append]
        exact ⟨hnd, by simp, fun a ha b hb e => by rw [List.mem_singleton.mp hb] at e; subst e; exact hzn ha⟩
      · intro x hx
        rcases List.mem_append.mp hx with h | h
        · exact hgood x h
        · rw [List.mem_singleton.mp h]; exact hz)
  rw [List.length_range] at hlen
  have hs := oSortA_str found (by omega)
  refine ⟨p', srtS found, ?_, hp', ⟨by rw [(srtS_perm found).length_eq]; omega, by rw [(srtS_perm found).length_eq]; omega, srtS_up hnd, fun c hc => low_strOk (hgood c ((srtS_perm found).mem_iff.mp hc)).low, ht.1, ht.2⟩, fun c hc => hgood c ((srtS_perm found).mem_iff.mp hc)⟩
  unfold P__law_rig B__law_rig
  simp only [List.map_nil] at h1
  simp
  rw [rng1_nat _ (by omega)]
  simp [h1, hs, rigE]
theorem law_cue {p : T} (hp : IsPot p) (chs : List Str) (top : Int) (number : Int) (hr : RigOk chs top) (hn : 1 ≤ number ∧ number ≤ 999) :
    ∃ p' c, P__law_cue p [rigE chs top, .int number] = some (Cu.e c, p') ∧ IsPot p' ∧ c.ok chs top ∧ c.n = number := by
  obtain ⟨t, p1, e1, hp1, m1⟩ := pick_tup hp (ts := [.int 0, .int 0, .int 1, .int 2, .int 3, .int 4, .int 5]) (by simp) (by simp)
  obtain ⟨fade, rfl, hf⟩ : ∃ f : Int, t = .int f ∧ 0 ≤ f ∧ f ≤ 5 := by
    simp only [List.mem_cons, List.not_mem_nil, or_false] at m1
    rcases m1 with rfl | rfl | rfl | rfl | rfl | rfl | rfl <;> exact ⟨_, rfl, by omega, by omega⟩
  obtain ⟨ρ', h1, ⟨p2, mv, j5, rfl, hp2, hsub, hmv⟩⟩ := loop_ix (g := gn 5) (f := biff (tb (s2 (sR 0 (acons (c (.int 5)) (anil)) P__law_draw) (c (.int 2)) (oLtG))) (drop (sBC "list" 3 (acons (sA (acons (v 5) (acons (sR 0 (acons (s2 (s2 (v 1) (c (.int 1)) oIt) (c (.int 1)) oAddG) (anil)) P__law_draw) (anil))) mkTup) (anil)) oAppend)) (bnil)) T.str
    (fun (pre : List Str) ρ => ∃ p mv j5, ρ = [.cl false p, .im (rigE chs top), .im (.int number), .cl true (.lst ((mv : List (Str × Int)).map mkSI)), .im (.int fade), j5, .no] ∧ IsPot p ∧ (mv.map (·.1)).Sublist pre ∧ ∀ m ∈ mv, 0 ≤ m.2 ∧ m.2 ≤ top) chs [] chs [.cl false p1, .im (rigE chs top), .im (.int number), .cl true (.lst (([] : List (Str × Int)).map mkSI)), .im (.int fade), .no, .no] rfl ⟨p1, [], .no, rfl, hp1, .slnil, fun m h => by cases h⟩ (by
      rintro pre x post ρ hsp ⟨p, mv, j5, rfl, hp, hsub, hmv⟩
      obtain ⟨r, p2, e2, hp2, r0, r1⟩ := draw_ok hp (m := 5) (by omega) (by omega)
      have hml : mv.length ≤ 8 := by
        have := hsub.length_le
        have h2 := congrArg List.length hsp
        have := hr.l2
        simp at this h2 ⊢
        simp at *
        omega
      by_cases hlt : r < 2
      · obtain ⟨l, p3, e3, hp3, l0, l1⟩ := draw_ok hp2 (m := top + 1) (by have := hr.t1; omega) (by have := hr.t2; omega)
        refine ⟨[.cl false p3, .im (rigE chs top), .im (.int number), .cl true (.lst ((mv ++ [(x, l)]).map mkSI)), .im (.int fade), .im (.str x), .no], ?_, p3, mv ++ [(x, l)], _, rfl, hp3, ?_, ?_⟩
        · simp [e2, hlt, rigE, e3, mkSI, show mv.length < 1000 by omega]
        · rw [List.map_append]
          exact hsub.append (List.Sublist.refl _)
        · intro m hm
          rcases List.mem_append.mp hm with h | h
          · exact hmv m h
          · rw [List.mem_singleton.mp h]; exact ⟨l0, by show l ≤ top; omega⟩
      · refine ⟨[.cl false p2, .im (rigE chs top), .im (.int number), .cl true (.lst (mv.map mkSI)), .im (.int fade), .im (.str x), .no], ?_, p2, mv, _, rfl, hp2, hsub.trans (List.sublist_append_left _ _), hmv⟩
        simp [e2, hlt])
  obtain ⟨r3, p3, e3, hp3, r30, r31⟩ := draw_ok hp2 (m := 3) (by omega) (by omega)
  have hmvl : mv.length ≤ 8 := by
    have h := hsub.length_le
    rw [List.length_map] at h
    have := hr.l2
    omega
  have okc : ∀ (fo : Option Int) (wh : Bool), (∀ f, fo = some f → 1 ≤ f ∧ f ≤ 5) → (Cu.mk number mv fade fo wh).ok chs top := fun fo wh hfo =>
    ⟨hn, fun m hm => ⟨hsub.subset (List.mem_map.mpr ⟨m, hm, rfl⟩), hmv m hm⟩, hr.up.sublist hsub, hf, hfo, hmvl⟩
  simp only [List.map_nil, rigE] at h1
  by_cases h3 : 0 < r3
  · obtain ⟨r5, p5, e5, hp5, _, _⟩ := draw_ok hp3 (m := 5) (by omega) (by omega)
    refine ⟨p5, ⟨number, mv, fade, none, r5 == 0⟩, ?_, hp5, okc none _ (fun f h => by cases h), rfl⟩
    unfold P__law_cue B__law_cue
    simp [e1, rigE, h1, e3, h3, e5, Cu.e, foE]
  · obtain ⟨r4, p4, e4, hp4, r40, r41⟩ := draw_ok hp3 (m := 5) (by omega) (by omega)
    obtain ⟨r5, p5, e5, hp5, _, _⟩ := draw_ok hp4 (m := 5) (by omega) (by omega)
    refine ⟨p5, ⟨number, mv, fade, some (1 + r4), r5 == 0⟩, ?_, hp5, okc _ _ (fun f h => by cases h; omega), rfl⟩
    unfold P__law_cue B__law_cue
    simp [e1, rigE, h1, e3, h3, e4, e5, Cu.e, foE]
end Go
/-! MY -/
set_option autoImplicit false
set_option maxRecDepth 100000
set_option linter.all false
namespace PX
open PySem L2
theorem intsL_map : ∀ l : List Int, intsL (l.map T.int) = some l
  | [] => rfl
  | x :: l => by rw [List.map_cons, intsL, intsL_map l]
theorem ddp_len : ∀ l : List Int, (ddp l).length ≤ l.length
  | [] => Nat.le_refl _
  | x :: r => by
    unfold ddp
    have := ddp_len r
    split
    · rw [List.length_cons]; omega
    · rw [List.length_cons, List.length_cons]; omega
theorem sset_len (l : List Int) : (sset l).length ≤ l.length := by
  unfold sset srtI
  rw [(List.mergeSort_perm _ _).length_eq]
  exact ddp_len l
theorem oSortSet_ints (l : List Int) (h : l.length < 62) : oSortSet [.lst (l.map T.int)] = some (.lst ((sset l).map T.int)) := by
  unfold oSortSet
  dsimp only
  rw [intsL_map]
  dsimp only
  rw [if_pos h]
theorem keysI_map {α : Type} {d : List T → Option T} (E : α → T) (k : α → Int) : ∀ (l : List α), (∀ x ∈ l, d [E x] = some (.int (k x))) → keysI d (l.map E) = some (l.map k)
  | [], _ => rfl
  | x :: l, h => by
    rw [List.map_cons]
    unfold keysI keyI
    rw [h x List.mem_cons_self]
    dsimp only
    rw [keysI_map E k l fun y hy => h y (List.mem_cons_of_mem _ hy)]
    rfl
theorem oSortK_up {α : Type} {d : List T → Option T} (E : α → T) (k : α → Int) (l : List α) (h : ∀ x ∈ l, d [E x] = some (.int (k x))) (hl : l.length ≤ 1000) (hu : (l.map k).Pairwise (· ≤ ·)) : oSortK d (.lst (l.map E)) = some (.lst (l.map E)) := by
  unfold oSortK
  dsimp only
  rw [keysI_map E k l h]
  dsimp only
  rw [if_pos ⟨by rw [List.length_map]; exact hl, hu⟩]
theorem oIt_scr (ns : List Int) (i : Int) : oIt (.scr ns) (.int i) = (atI ns i).bind fun n => some (.int n) := by
  show oIx (.scr ns) (.int i) = _
  unfold oIx
  dsimp only
  cases atI ns i <;> rfl
theorem oSum_map (l : List Int) : oSum [.lst (l.map T.int)] = some (.int l.sum) := by
  unfold oSum
  dsimp only
  rw [intsL_map]
end PX
namespace Go
open PySem L2 PX
theorem law_cues {p : T} (hp : IsPot p) (chs : List Str) (top : Int) (many : Nat) (hr : RigOk chs top) (hm : many ≤ 20) :
    ∃ (p' : T) (cs : List Cu), P__law_cues p [rigE chs top, .int many] = some (.tup (cs.map Cu.e), p') ∧ IsPot p' ∧ (∀ c ∈ cs, c.ok chs top) ∧ cs.length ≤ 20 ∧ cs.Pairwise fun a b => a.n < b.n := by
  obtain ⟨ρ', h1, ⟨p1, ns, j4, rfl, hp1, hlen, hns⟩⟩ := loop_ix (g := gn 4) (f := drop (sBC "list" 3 (acons (s2 (c (.int 1)) (sR 0 (acons (sR 0 (acons (sA (acons (c (.int 20)) (acons (c (.int 999)) (anil))) mkTup) (anil)) P__law_pick) (anil)) P__law_draw) oAddG) (anil)) oAppend)) (fun (i : Nat) => T.int (i : Int))
    (fun (pre : List Nat) ρ => ∃ p ns j4, ρ = [.cl false p, .im (rigE chs top), .im (.int many), .cl true (.lst ((ns : List Int).map T.int)), j4, .no, .no] ∧ IsPot p ∧ ns.length = pre.length ∧ ∀ n ∈ ns, 1 ≤ n ∧ n ≤ 999) (List.range many) [] (List.range many) [.cl false p, .im (rigE chs top), .im (.int many), .cl true (.lst (([] : List Int).map T.int)), .no, .no, .no] rfl ⟨p, [], .no, rfl, hp, rfl, fun n h => by cases h⟩ (by
      rintro pre x post ρ hsp ⟨p, ns, j4, rfl, hp, hlen, hns⟩
      have hpl : pre.length < many := by have := congrArg List.length hsp; simp at this; omega
      obtain ⟨t, p2, e2, hp2, m2⟩ := pick_tup hp (ts := [.int 20, .int 999]) (by simp) (by simp)
      obtain ⟨b, rfl, hb⟩ : ∃ b : Int, t = .int b ∧ 1 ≤ b ∧ b ≤ 999 := by
        simp only [List.mem_cons, List.not_mem_nil, or_false] at m2
        rcases m2 with rfl | rfl <;> exact ⟨_, rfl, by omega, by omega⟩
      obtain ⟨r, p3, e3, hp3, r0, r1⟩ := draw_ok hp2 (m := b) (by omega) (by omega)
      refine ⟨[.cl false p3, .im (rigE chs top), .im (.int many), .cl true (.lst ((ns ++ [1 + r]).map T.int)), .im (.int (x : Int)), .no, .no], ?_, p3, ns ++ [1 + r], _, rfl, hp3, by simp [hlen], ?_⟩
      · simp [e2, e3, show ns.length < 1000 by omega]
      · intro n hn
        rcases List.mem_append.mp hn with h | h
        · exact hns n h
        · rw [List.mem_singleton.mp h]; omega)
  rw [List.length_range] at hlen
  have hs := oSortSet_ints ns (by omega)
  have hsl := sset_len ns
  obtain ⟨ρ', h2, ⟨p2, cs, j6, rfl, hp2, hcn, hcs⟩⟩ := loop_ix (g := gn 6) (f := drop (sBC "list" 5 (acons (sR 0 (acons (v 1) (acons (v 6) (anil))) P__law_cue) (anil)) oAppend)) T.int
    (fun (pre : List Int) ρ => ∃ p cs j6, ρ = [.cl false p, .im (rigE chs top), .im (.int many), .im (.lst (ns.map T.int)), j4, .cl true (.lst ((cs : List Cu).map Cu.e)), j6] ∧ IsPot p ∧ cs.map (·.n) = pre ∧ ∀ c ∈ cs, c.ok chs top) (sset ns) [] (sset ns) [.cl false p1, .im (rigE chs top), .im (.int many), .im (.lst (ns.map T.int)), j4, .cl true (.lst (([] : List Cu).map Cu.e)), .no] rfl ⟨p1, [], .no, rfl, hp1, rfl, fun c h => by cases h⟩ (by
      rintro pre x post ρ hsp ⟨p, cs, j6, rfl, hp, hcn, hcs⟩
      have hx : x ∈ ns := sset_mem.mp (by rw [hsp]; simp)
      obtain ⟨p2, cu, e2, hp2, hok, hn⟩ := law_cue hp chs top x hr (hns x hx)
      have hcl : cs.length < 1000 := by
        have h := congrArg List.length hcn
        have h' := congrArg List.length hsp
        simp at h h'
        omega
      refine ⟨[.cl false p2, .im (rigE chs top), .im (.int many), .im (.lst (ns.map T.int)), j4, .cl true (.lst ((cs ++ [cu]).map Cu.e)), .im (.int x)], ?_, p2, cs ++ [cu], _, rfl, hp2, by simp [hcn, hn], ?_⟩
      · simp [e2, hcl]
      · intro c hc
        rcases List.mem_append.mp hc with h | h
        · exact hcs c h
        · rw [List.mem_singleton.mp h]; exact hok)
  have hcl : cs.length ≤ 20 := by
    have h := congrArg List.length hcn
    simp at h
    omega
  refine ⟨p2, cs, ?_, hp2, hcs, hcl, ?_⟩
  · unfold P__law_cues B__law_cues
    simp only [List.map_nil] at h1 h2
    simp
    rw [rng1_nat _ (by omega)]
    simp [h1, hs, h2]
  · have := sset_up ns
    rw [← hcn, List.pairwise_map] at this
    exact this
theorem law_act {p : T} (hp : IsPot p) (chs : List Str) (top : Int) (cs : List Cu) (hr : RigOk chs top) (hc : ∀ c ∈ cs, c.ok chs top) (hl : cs.length ≤ 20) :
    ∃ p' a, P__law_act p [rigE chs top, .tup (cs.map Cu.e)] = some (Ac.e a, p') ∧ IsPot p' ∧ a.ok chs top := by
  have hnum : ∀ (p : T) (j3 j4 j5 : Sl), lcl [6] (gn 6) tyes (s2 (v 6) (c (.int 0)) oIt) (cs.map Cu.e) [] [.cl false p, .im (rigE chs top), .im (.tup (cs.map Cu.e)), j3, j4, j5, .no] = some (cs.map (fun c => T.int c.n), [.cl false p, .im (rigE chs top), .im (.tup (cs.map Cu.e)), j3, j4, j5, .no]) := fun p j3 j4 j5 =>
    lcl_fn Cu.e (fun c => T.int c.n) cs (fun x hx => by simp [Cu.e]) (by omega)
  simp only [rigE] at hnum
  obtain ⟨w, p1, e1, hp1, w0, w1⟩ := draw_ok hp (m := 12) (by omega) (by omega)
  by_cases h3 : w < 3
  · refine ⟨p1, .go, ?_, hp1, trivial⟩
    unfold P__law_act B__law_act
    simp [e1, rigE, hnum, h3, Ac.e]
  by_cases h4 : w = 3
  · refine ⟨p1, .back, ?_, hp1, trivial⟩
    unfold P__law_act B__law_act
    simp [e1, rigE, hnum, h4, Ac.e]
  by_cases h6 : w < 6
  · have hnil := oEq_nil_l true (cs.map fun c => T.int c.n) (fun t ht => by
      obtain ⟨c, hc, rfl⟩ := List.mem_map.mp ht
      exact shp_int _ _)
    have fin : ∀ {p2 : T}, IsPot p2 → ∃ p' r, P__law_draw p2 [.int 999] = some (.int r, p') ∧ IsPot p' ∧ 0 ≤ r ∧ r < 999 := fun h => by
      obtain ⟨r, p', a, b, c, d⟩ := draw_ok h (m := 999) (by omega) (by omega)
      exact ⟨p', r, a, b, c, d⟩
    by_cases hcs : cs = []
    · obtain ⟨p3, r, e3, hp3, r0, r1⟩ := fin hp1
      refine ⟨p3, .jump (1 + r), ?_, hp3, by show 1 ≤ 1 + r ∧ 1 + r ≤ 999; omega⟩
      subst hcs
      unfold P__law_act B__law_act
      have hnum' := hnum
      simp only [List.map_nil] at hnum' hnil
      simp [e1, rigE, hnum', h3, h4, h6, Ac.e, hnil, e3]
    · have hne : (cs.map fun c => T.int c.n).isEmpty = false := by
        cases cs with
        | nil => exact (hcs rfl).elim
        | cons c r => rfl
      rw [hne] at hnil
      obtain ⟨r6, p2, e2, hp2, r60, r61⟩ := draw_ok hp1 (m := 6) (by omega) (by omega)
      by_cases hg : 0 < r6
      · obtain ⟨t, p3, e3, hp3, m3⟩ := pick_lst hp2 (ts := cs.map fun c => T.int c.n) (by rw [List.length_map]; exact List.length_pos_iff.mpr hcs) (by rw [List.length_map]; omega)
        obtain ⟨c, hcm, rfl⟩ := List.mem_map.mp m3
        refine ⟨p3, .jump c.n, ?_, hp3, (hc c hcm).n⟩
        unfold P__law_act B__law_act
        simp [e1, rigE, hnum, h3, h4, h6, Ac.e, hnil, e2, hg, e3]
      · obtain ⟨p3, r, e3, hp3, r0, r1⟩ := fin hp2
        refine ⟨p3, .jump (1 + r), ?_, hp3, by show 1 ≤ 1 + r ∧ 1 + r ≤ 999; omega⟩
        unfold P__law_act B__law_act
        simp [e1, rigE, hnum, h3, h4, h6, Ac.e, hnil, e2, hg, e3]
  by_cases h10 : w < 10
  · refine ⟨p1, .wait, ?_, hp1, trivial⟩
    unfold P__law_act B__law_act
    simp [e1, rigE, hnum, h3, h4, h6, h10, Ac.e]
  · have hl1 := hr.l1
    have hl2 := hr.l2
    obtain ⟨t, p2, e2, hp2, m2⟩ := pick_tup hp1 (ts := chs.map T.str) (by rw [List.length_map]; omega) (by rw [List.length_map]; omega)
    obtain ⟨ch, hch, rfl⟩ := List.mem_map.mp m2
    obtain ⟨r2, p3, e3, hp3, _, _⟩ := draw_ok hp2 (m := 2) (by omega) (by omega)
    by_cases hz : r2 = 0
    · obtain ⟨l, p4, e4, hp4, l0, l1⟩ := draw_ok hp3 (m := top + 1) (by have := hr.t1; omega) (by have := hr.t2; omega)
      refine ⟨p4, .hold ch l, ?_, hp4, hch, l0, by omega⟩
      unfold P__law_act B__law_act
      simp [e1, rigE, hnum, h3, h4, h6, h10, Ac.e, e2, e3, hz, e4]
    · refine ⟨p3, .free ch, ?_, hp3, hch⟩
      unfold P__law_act B__law_act
      simp [e1, rigE, hnum, h3, h4, h6, h10, Ac.e, e2, e3, hz]
end Go
/-! MZ -/
set_option autoImplicit false
set_option maxRecDepth 100000
set_option linter.all false
namespace Go
open PySem L2 PX
theorem tick_ok (q : Int × Ac) : P__law_tick [tmE q] = some (.int q.1) := by
  unfold P__law_tick B__law_tick
  simp
theorem law_clock {p : T} (hp : IsPot p) (chs : List Str) (top : Int) (cs : List Cu) (many : Nat) (last : Int) (hr : RigOk chs top) (hc : ∀ c ∈ cs, c.ok chs top) (hl : cs.length ≤ 20) (hm : many ≤ 70) (hlast : 0 ≤ last ∧ last ≤ 999) :
    ∃ (p' : T) (clock : List (Int × Ac)), P__law_clock p [rigE chs top, .tup (cs.map Cu.e), .int many, .int last] = some (.tup (clock.map tmE), p') ∧ IsPot p' ∧ ClkOk chs top clock := by
  obtain ⟨ρ', h1, ⟨p1, l, tick, j7, j8, rfl, hp1, hlen, htick, hup, hit⟩⟩ := loop_ix (g := gn 7) (f := bseq (bset 8 (im (sR 0 (acons (v 1) (acons (v 2) (anil))) P__law_act))) (bseq (bset 6 (im (sA (acons (v 4) (acons (s2 (v 6) (sR 0 (acons (sA (acons (c (.int 0)) (acons (c (.int 0)) (acons (c (.int 1)) (acons (c (.int 2)) (acons (c (.int 5)) (anil)))))) mkTup) (anil)) P__law_pick) oAddG) (anil))) oMin2))) (biff (tb (s2 (v 8) (sA (acons (c (.str "wait")) (anil)) mkTup) (oEq true))) (drop (sBC "list" 5 (acons (sA (acons (v 6) (acons (v 8) (anil))) mkTup) (anil)) oAppend)) (bnil)))) (fun (i : Nat) => T.int (i : Int))
    (fun (pre : List Nat) ρ => ∃ p l tick j7 j8, ρ = [.cl false p, .im (rigE chs top), .im (.tup (cs.map Cu.e)), .im (.int many), .im (.int last), .cl true (.lst ((l : List (Int × Ac)).map tmE)), .im (.int tick), j7, j8] ∧ IsPot p ∧ l.length ≤ pre.length ∧ (0 ≤ tick ∧ tick ≤ last) ∧ (l.map (·.1) ++ [tick]).Pairwise (· ≤ ·) ∧ ∀ q ∈ l, 0 ≤ q.1 ∧ q.1 ≤ 999 ∧ q.2.ok chs top ∧ q.2.isW = false)
    (List.range many) [] (List.range many) [.cl false p, .im (rigE chs top), .im (.tup (cs.map Cu.e)), .im (.int many), .im (.int last), .cl true (.lst (([] : List (Int × Ac)).map tmE)), .im (.int 0), .no, .no] rfl ⟨p, [], 0, .no, .no, rfl, hp, Nat.le_refl _, ⟨Int.le_refl _, hlast.1⟩, by simp, fun q h => by cases h⟩ (by
      rintro pre x post ρ hsp ⟨p, l, tick, j7, j8, rfl, hp, hlen, htick, hup, hit⟩
      have hpl : pre.length < many := by have := congrArg List.length hsp; simp at this; omega
      obtain ⟨p2, a, e2, hp2, ha⟩ := law_act hp chs top cs hr hc hl
      obtain ⟨t, p3, e3, hp3, m3⟩ := pick_tup hp2 (ts := [.int 0, .int 0, .int 1, .int 2, .int 5]) (by simp) (by simp)
      obtain ⟨d, rfl, hd⟩ : ∃ d : Int, t = .int d ∧ 0 ≤ d ∧ d ≤ 5 := by
        simp only [List.mem_cons, List.not_mem_nil, or_false] at m3
        rcases m3 with rfl | rfl | rfl | rfl | rfl <;> exact ⟨_, rfl, by omega, by omega⟩
      have hw := ac_wait hr true a ha
      obtain ⟨tk, htk, hk1, hk2, hk3⟩ : ∃ tk : Int, (if tick + d < last then tick + d else last) = tk ∧ tick ≤ tk ∧ tk ≤ last ∧ 0 ≤ tk := ⟨_, rfl, by split <;> omega, by split <;> omega, by split <;> omega⟩
      have hup2 : ∀ y ∈ l.map (·.1), y ≤ tk := fun y hy => by
        have := (List.pairwise_append.mp hup).2.2 y hy tick (by simp)
        omega
      have hup1 := (List.pairwise_append.mp hup).1
      cases hwa : a.isW with
      | true =>
        rw [hwa] at hw
        refine ⟨[.cl false p3, .im (rigE chs top), .im (.tup (cs.map Cu.e)), .im (.int many), .im (.int last), .cl true (.lst (l.map tmE)), .im (.int tk), .im (.int (x : Int)), .im a.e], ?_, p3, l, tk, _, _, rfl, hp3, by simp; omega, ⟨hk3, hk2⟩, ?_, hit⟩
        · simp [e2, e3, hw, htk]
        · rw [List.pairwise_append]
          exact ⟨hup1, by simp, fun y hy z hz => by rw [List.mem_singleton.mp hz]; exact hup2 y hy⟩
      | false =>
        rw [hwa] at hw
        refine ⟨[.cl false p3, .im (rigE chs top), .im (.tup (cs.map Cu.e)), .im (.int many), .im (.int last), .cl true (.lst ((l ++ [(tk, a)]).map tmE)), .im (.int tk), .im (.int (x : Int)), .im a.e], ?_, p3, l ++ [(tk, a)], tk, _, _, rfl, hp3, by simp; omega, ⟨hk3, hk2⟩, ?_, ?_⟩
        · simp [e2, e3, hw, htk, show l.length < 1000 by omega, tmE]
        · rw [List.map_append, List.pairwise_append]
          refine ⟨?_, by simp, fun y hy z hz => ?_⟩
          · rw [List.pairwise_append]
            exact ⟨hup1, by simp, fun y hy z hz => by simp at hz; rw [hz]; exact hup2 y hy⟩
          · rw [List.mem_singleton.mp hz]
            rcases List.mem_append.mp hy with h | h
            · exact hup2 y h
            · simp at h; rw [h]; exact Int.le_refl _
        · intro q hq
          rcases List.mem_append.mp hq with h | h
          · exact hit q h
          · rw [List.mem_singleton.mp h]; exact ⟨hk3, by show tk ≤ 999; omega, ha, hwa⟩)
  rw [List.length_range] at hlen
  have hup1 := (List.pairwise_append.mp hup).1
  have hs := oSortK_up (d := P__law_tick) tmE (fun q => q.1) l (fun q _ => tick_ok q) (by omega) hup1
  refine ⟨p1, l.take 60, ?_, hp1, ⟨by rw [List.length_take]; omega, ?_, fun q hq => hit q (List.mem_of_mem_take hq)⟩⟩
  · unfold P__law_clock B__law_clock
    simp only [List.map_nil] at h1
    simp
    rw [rng1_nat _ (by omega)]
    simp [h1, hs]
    rw [cut_to (by omega)]
    rfl
  · rw [List.map_take]
    exact hup1.sublist (List.take_sublist _ _)
theorem law_pot (ns : List Int) (turn : Nat) (ht : turn ≤ 4) : ∃ t, P__law_pot [.scr ns, .int turn] = some t ∧ IsPot t := by
  obtain ⟨cell, hcell⟩ : ∃ cell : Int, (ifx (tb (s2 (v 1) (sA (acons (v 0) (anil)) oLen) (oLtG))) (sA (acons (s2 (v 0) (v 1) oIt) (anil)) oInt) (s2 (s2 (s2 (c (.int 7907)) (v 1) oMulG) (c (.int 37)) oAddG) (s2 (sA (acons (sA (acons (sl (v 0) (onone) (osome (c (.int 3)))) (anil)) oSum) (anil)) oInt) (c (.int 1000033)) oMod) oAddG)) [.im (.scr ns), .im (.int (turn : Int)), .no, .no, .no] = some (.int cell, [.im (.scr ns), .im (.int (turn : Int)), .no, .no, .no]) := by
    by_cases h : turn < ns.length
    · obtain ⟨n, hn⟩ : ∃ n, ns[turn]? = some n := ⟨_, List.getElem?_eq_getElem h⟩
      refine ⟨n, ?_⟩
      simp [show (turn : Int) < (ns.length : Int) by omega, oIt_scr, hn]
    · have q1 : oMulG (.int 7907) (.int (turn : Int)) = some (.int (7907 * (turn : Int))) := oMulG_ok (by omega)
      have q2 := oSum_map (ns.take 3)
      have q3 : oMod (.int (ns.take 3).sum) (.int 1000033) = some (.int ((ns.take 3).sum % 1000033)) := oMod_ok (by omega)
      have q4 : cutT (ns.map T.int) none (some 3) = (ns.take 3).map T.int := by rw [cut_to (by omega), List.map_take]; rfl
      refine ⟨7907 * (turn : Int) + 37 + (ns.take 3).sum % 1000033, ?_⟩
      simp only [bp_ifx, bp_tb, bp_s2, bp_v, bp_sA, bp_acons, ap_anil, List.getElem?_cons_succ, List.getElem?_cons_zero, slI_im, Option.bind_some, oLen_scr, oLtG_ii, unB_bl, decide_eq_true_eq, show ¬ (turn : Int) < (ns.length : Int) by omega, if_false, ap_c, q1, oAddG_ii, bp_sl, bp_onone, bp_osome, unI_int, oSl_scr, q4, q2, oInt_i, q3]
  have hst : oMulG (.int 6949) (.int (turn : Int)) = some (.int (6949 * (turn : Int))) := oMulG_ok (by omega)
  have hcut : cutT (ns.map T.int) none (some 7) = (ns.take 7).map T.int := by rw [cut_to (by omega), List.map_take]; rfl
  obtain ⟨ρ', h1, ⟨st, j4, rfl⟩⟩ := loop_pass (g := gn 4) (f := bset 3 (im (s2 (sA (acons (s2 (s2 (s2 (v 3) (c (.int 69621)) oMulG) (s2 (sA (acons (v 4) (anil)) oInt) (c (.int 2147483563)) oMod) oAddG) (c (.int 23)) oAddG) (anil)) oInt) (c (.int 2147483563)) oMod))) T.int
    (fun ρ => ∃ (st : Int) (j4 : Sl), ρ = [.im (.scr ns), .im (.int (turn : Int)), .im (.int cell), .im (.int st), j4]) (ns.take 7 ++ [cell]) [.im (.scr ns), .im (.int (turn : Int)), .im (.int cell), .im (.int (920011 + 6949 * (turn : Int))), .no] ⟨_, _, rfl⟩ (by
      rintro x ρ hx ⟨st, j4, rfl⟩
      have q1 : oMulG (.int st) (.int 69621) = some (.int (st * 69621)) := oMulG_ok (by omega)
      have q2 : oMod (.int x) (.int 2147483563) = some (.int (x % 2147483563)) := oMod_ok (by omega)
      have q3 : oMod (.int (st * 69621 + x % 2147483563 + 23)) (.int 2147483563) = some (.int ((st * 69621 + x % 2147483563 + 23) % 2147483563)) := oMod_ok (by omega)
      refine ⟨[.im (.scr ns), .im (.int (turn : Int)), .im (.int cell), .im (.int ((st * 69621 + x % 2147483563 + 23) % 2147483563)), .im (.int x)], ?_, _, _, rfl⟩
      simp only [ap_gn, Option.bind_some, List.set_cons_succ, List.set_cons_zero, bp_bset, bp_im, bp_s2, bp_v, bp_sA, bp_acons, ap_anil, ap_c, List.getElem?_cons_succ, List.getElem?_cons_zero, slI_im, q1, q2, oInt_i, oAddG_ii, q3])
  rw [List.map_append, List.map_singleton] at h1
  have hp18 : oPow (.int 10) (.int 18) = some (.int 1000000000000000000) := by rfl
  refine ⟨.lst [.int (if cell < 0 ∨ 1000000000000000000 ≤ cell then (if cell < 0 then -cell else cell) else 0), .int st, .int 0], ?_, ⟨_, _, _, rfl⟩⟩
  unfold P__law_pot B__law_pot
  have hadd : ((ns.take 7).map T.int).length + 1 ≤ 1000 := by rw [List.length_map, List.length_take]; omega
  simp only [outRN, List.length_cons, List.length_nil, if_true, List.map_cons, List.map_nil, show List.replicate (5 - 2) Sl.no = [Sl.no, Sl.no, Sl.no] from rfl, List.cons_append, List.nil_append, bp_bseq, bp_bset, bp_im, hcell, Option.bind_some, outN_nx, List.set_cons_succ, List.set_cons_zero, bp_s2, ap_c, bp_v, List.getElem?_cons_succ, List.getElem?_cons_zero, slI_im, hst, oAddG_ii, bp_bfor, bp_i1, bp_sl, bp_onone, bp_osome, unI_int, oSl_scr, hcut, bp_sA, bp_acons, ap_anil, mkLst_eq, oAddG_ll, hadd, anyOf_lst, h1, show (0 + 1 : Nat) ≤ 1000 from by decide]
  by_cases hc0 : cell < 0
  · simp [hc0]
  · by_cases hc1 : 1000000000000000000 ≤ cell
    · simp [hc0, hp18, hc1]
    · simp [hc0, hp18, hc1]
end Go
/-! NA -/
set_option autoImplicit false
set_option maxRecDepth 100000
set_option linter.all false
namespace PX
open PySem L2
theorem perm3 (a b c : T) : perm [2, 1, 0] [a, b, c] = [c, b, a] := rfl
theorem cut_last {xs : List T} (h : xs ≠ []) : cutT xs (some (-1)) none = xs.drop (xs.length - 1) := by
  have hl : 0 < xs.length := List.length_pos_iff.mpr h
  unfold cutT
  have e : HT.sIx xs.length 0 (some (-1)) = xs.length - 1 := by
    unfold HT.sIx
    simp
    omega
  rw [HT.sIx_none, e]
  rw [List.take_of_length_le (by rw [List.length_drop]; omega)]
end PX
namespace Go
open PySem L2 PX
/-- a plain tree -/
def Lf (t : T) : Prop := t = .non ∨ (∃ b, t = .bl b) ∨ (∃ i, t = .int i) ∨ ∃ x, t = .str x ∧ PyData.strOk x = true
def Pl : Nat → T → Prop
  | 0, t => Lf t
  | d + 1, t => Lf t ∨ ∃ ts, (t = .tup ts ∨ t = .lst ts) ∧ ts.length ≤ 1000 ∧ ∀ u ∈ ts, Pl d u
theorem pl_int (d : Nat) (i : Int) : Pl d (.int i) := by
  cases d with
  | zero => exact .inr (.inr (.inl ⟨i, rfl⟩))
  | succ d => exact .inl (.inr (.inr (.inl ⟨i, rfl⟩)))
theorem pl_str (d : Nat) (x : Str) (h : PyData.strOk x = true) : Pl d (.str x) := by
  cases d with
  | zero => exact .inr (.inr (.inr ⟨x, rfl, h⟩))
  | succ d => exact .inl (.inr (.inr (.inr ⟨x, rfl, h⟩)))
theorem pl_tup {d : Nat} {ts : List T} (hl : ts.length ≤ 1000) (h : ∀ u ∈ ts, Pl d u) : Pl (d + 1) (.tup ts) := .inr ⟨ts, .inl rfl, hl, h⟩
theorem pl_lst {d : Nat} {ts : List T} (hl : ts.length ≤ 1000) (h : ∀ u ∈ ts, Pl d u) : Pl (d + 1) (.lst ts) := .inr ⟨ts, .inr rfl, hl, h⟩
theorem Lf.pl {t : T} (h : Lf t) (d : Nat) : Pl d t := by
  cases d with
  | zero => exact h
  | succ d => exact .inl h
theorem Pl.up {d : Nat} : ∀ {t : T}, Pl d t → Pl (d + 1) t := by
  induction d with
  | zero => intro t h; exact .inl h
  | succ d ih =>
    intro t h
    rcases h with h | ⟨ts, h1, h2, h3⟩
    · exact .inl h
    · exact .inr ⟨ts, h1, h2, fun u hu => ih (h3 u hu)⟩
theorem Pl.mono {d e : Nat} (h : d ≤ e) {t : T} (p : Pl d t) : Pl e t := by
  induction h with
  | refl => exact p
  | step _ ih => exact ih.up
theorem same_lf (d : List T → Option T) {t : T} (h : Lf t) : runP 2 3 (B__law_same d) [t, t] = some (.bl true) := by
  unfold B__law_same
  rcases h with rfl | ⟨b, rfl⟩ | ⟨i, rfl⟩ | ⟨x, rfl, hx⟩
  · simp
  · simp
  · simp
  · have := oEq_str (neg := false) hx hx
    simp [this]
theorem same_ok : ∀ (d : Nat) (t : T) (m : Nat), Pl d t → d ≤ m → Q__law_same (m + 1) [t, t] = some (.bl true) := by
  intro d
  induction d with
  | zero => intro t m h _; exact same_lf _ h
  | succ d ih =>
    intro t m h hm
    rcases h with h | ⟨ts, h1, h2, h3⟩
    · exact same_lf _ h
    · obtain ⟨m, rfl⟩ : ∃ k, m = k + 1 := ⟨m - 1, by omega⟩
      have key : ∀ (k : T), (k = .tup ts ∨ k = .lst ts) → lcl [2] (gn 2) tyes (sA (acons (s2 (v 0) (v 2) oIt) (acons (s2 (v 1) (v 2) oIt) (anil))) (Q__law_same (m + 1))) ((List.range ts.length).map fun (i : Nat) => T.int (i : Int)) [] [.im k, .im k, .no] = some ((List.range ts.length).map (fun _ => T.bl true), [.im k, .im k, .no]) := fun k hk =>
        lcl_fn (fun (i : Nat) => T.int (i : Int)) (fun _ => T.bl true) (List.range ts.length) (fun i hi => by
          have hi' := List.mem_range.mp hi
          obtain ⟨u, hu⟩ : ∃ u, ts[i]? = some u := ⟨_, List.getElem?_eq_getElem hi'⟩
          have hs := ih u m (h3 u (List.mem_of_getElem? hu)) (by omega)
          rcases hk with rfl | rfl <;> simp [hu, hs]) (by rw [List.length_range]; exact h2)
      have hall := oAll_map (fun _ : Nat => true) (List.range ts.length)
      show runP 2 3 (B__law_same (Q__law_same (m + 1))) [t, t] = _
      unfold B__law_same
      rcases h1 with rfl | rfl
      · have k := key (.tup ts) (.inl rfl)
        simp
        rw [rng1_nat _ h2]
        simp [k, hall]
      · have k := key (.lst ts) (.inr rfl)
        simp
        rw [rng1_nat _ h2]
        simp [k, hall]
theorem same_top {t : T} (h : Pl 8 t) : P__law_same [t, t] = some (.bl true) := same_ok 8 t 8 h (Nat.le_refl _)
theorem ac_pl {chs : List Str} {top : Int} (hr : RigOk chs top) (a : Ac) (ha : a.ok chs top) : Pl 1 a.e := by
  cases a with
  | go => exact pl_tup (by simp) fun u h => by rw [List.mem_singleton.mp h]; exact pl_str _ _ wo_go
  | back => exact pl_tup (by simp) fun u h => by rw [List.mem_singleton.mp h]; exact pl_str _ _ wo_back
  | wait => exact pl_tup (by simp) fun u h => by rw [List.mem_singleton.mp h]; exact pl_str _ _ wo_wait
  | jump n =>
    refine pl_tup (by simp) fun u h => ?_
    simp only [List.mem_cons, List.not_mem_nil, or_false] at h
    rcases h with rfl | rfl
    · exact pl_str _ _ wo_jump
    · exact pl_int _ _
  | hold c l =>
    refine pl_tup (by simp) fun u h => ?_
    simp only [List.mem_cons, List.not_mem_nil, or_false] at h
    rcases h with rfl | rfl | rfl
    · exact pl_str _ _ wo_hold
    · exact pl_str _ _ (hr.nm _ ha.1)
    · exact pl_int _ _
  | free c =>
    refine pl_tup (by simp) fun u h => ?_
    simp only [List.mem_cons, List.not_mem_nil, or_false] at h
    rcases h with rfl | rfl
    · exact pl_str _ _ wo_free
    · exact pl_str _ _ (hr.nm _ ha)
theorem acts_pl {chs : List Str} {top : Int} (hr : RigOk chs top) (l : List Ac) (ha : ∀ a ∈ l, a.ok chs top) (hl : l.length ≤ 1000) : Pl 2 (.tup (l.map Ac.e)) :=
  pl_tup (by rw [List.length_map]; exact hl) fun u hu => by
    obtain ⟨a, h, rfl⟩ := List.mem_map.mp hu
    exact ac_pl hr a (ha a h)
theorem look_pl {chs : List Str} {top : Int} {cs : List Cu} (hr : RigOk chs top) (s : Sg) (hs : s.ok chs top cs) : Pl 1 (lookE chs s) :=
  pl_tup (by unfold look1; have := hr.l2; have := hs.len; simp; omega) fun u hu => by
    obtain ⟨a, h, rfl⟩ := List.mem_map.mp hu
    exact pl_int _ _
theorem sg_pl {chs : List Str} {top : Int} {cs : List Cu} (hr : RigOk chs top) (s : Sg) (hs : s.ok chs top cs) : Pl 3 s.e := by
  have l8 := sg_len hs hr
  have l2 := hr.l2
  have hl := hs.len
  refine pl_tup (by simp) fun u hu => ?_
  simp only [List.mem_cons, List.not_mem_nil, or_false] at hu
  rcases hu with rfl | rfl | rfl | rfl
  · refine pl_tup (by rw [List.length_map]; omega) fun u hu => ?_
    obtain ⟨r, h, rfl⟩ := List.mem_map.mp hu
    refine pl_tup (by simp) fun u hu => ?_
    simp only [List.mem_cons, List.not_mem_nil, or_false] at hu
    rcases hu with rfl | rfl | rfl | rfl <;> exact pl_int _ _
  · exact pl_int _ _
  · exact pl_int _ _
  · refine pl_tup (by rw [List.length_map]; omega) fun u hu => ?_
    obtain ⟨m, h, rfl⟩ := List.mem_map.mp hu
    refine pl_tup (by simp) fun u hu => ?_
    simp only [List.mem_cons, List.not_mem_nil, or_false] at hu
    rcases hu with rfl | rfl
    · exact pl_str _ _ (hr.nm _ (hs.hd m h).1)
    · exact pl_int _ _
theorem found_pl {chs : List Str} {top : Int} {cs : List Cu} (hr : RigOk chs top) (l : List (Int × Sg)) (hl : l.length ≤ 60) (h : ∀ p ∈ l, p.2.ok chs top cs) : Pl 3 (.tup (foundE chs l)) := by
  refine pl_tup (by unfold foundE; rw [List.length_map]; omega) fun u hu => ?_
  obtain ⟨p, hp, rfl⟩ := List.mem_map.mp hu
  refine pl_tup (by simp) fun u hu => ?_
  simp only [List.mem_cons, List.not_mem_nil, or_false] at hu
  rcases hu with rfl | rfl | rfl
  · exact pl_int _ _
  · exact pl_int _ _
  · exact look_pl hr _ (h p hp)
theorem shown_pl {chs : List Str} {top : Int} {cs : List Cu} (hr : RigOk chs top) (l : List (Int × Sg)) (hl : l.length ≤ 60) (h : ∀ p ∈ l, p.2.ok chs top cs) : Pl 2 (.tup (shownE chs (sg0 chs) l)) := by
  refine pl_tup (by unfold shownE; simp; omega) fun u hu => ?_
  unfold shownE at hu
  rcases List.mem_cons.mp hu with rfl | hu
  · exact look_pl (cs := cs) hr _ first_ok
  · obtain ⟨p, hp, rfl⟩ := List.mem_map.mp hu
    exact look_pl hr _ (h p hp)
end Go
/-! NB -/
set_option autoImplicit false
set_option maxRecDepth 100000
set_option linter.all false
namespace Go
open PySem L2 PX
theorem clk_drop {chs : List Str} {top : Int} {clock : List (Int × Ac)} (h : ClkOk chs top clock) (n : Nat) : ClkOk chs top (clock.drop n) :=
  ⟨by rw [List.length_drop]; have := h.len; omega, by rw [List.map_drop]; exact h.up.sublist (List.drop_sublist _ _), fun p hp => h.it p (List.mem_of_mem_drop hp)⟩
theorem waits_ok60 (chs : List Str) (top : Int) : ∀ a ∈ List.replicate 60 Ac.wait, a.ok chs top := fun a h => by rw [List.eq_of_mem_replicate h]; trivial
theorem tm_nil {chs : List Str} {top : Int} (hr : RigOk chs top) (clock : List (Int × Ac)) (hk : ClkOk chs top clock) : oEq true (.tup (clock.map tmE)) (.tup []) = some (.bl (!clock.isEmpty)) := by
  rw [oEq_nil_t true _ (fun t ht => by
    obtain ⟨p, hp, rfl⟩ := List.mem_map.mp ht
    exact (tm_shp hr p (hk.it p hp).2.2.1).mono (by omega))]
  cases clock <;> rfl
/-- what the law asks of the program, made -/
theorem right_made (chs : List Str) (top : Int) (cs : List Cu) (back : Int) (clock : List (Int × Ac)) (acts : List Ac) (hr : RigOk chs top) (hg : ∀ c ∈ chs, NmGood c) (hc : ∀ c ∈ cs, c.ok chs top) (hl : cs.length ≤ 20) (hu : cs.Pairwise fun a b => a.n < b.n) (hb : 0 ≤ back ∧ back ≤ 5) (hk : ClkOk chs top clock) (ha : ∀ a ∈ acts, a.ok chs top) (hal : acts.length ≤ 60) :
    ∃ (W : List Ac), (∀ a ∈ W, a.ok chs top) ∧ W.length ≤ 1000 ∧
      P__law_woven [.tup (clock.map tmE), .tup (acts.map Ac.e)] = some (.tup (W.map Ac.e)) ∧ P_woven [rigO chs top, .tup (clock.map tmE), .tup (acts.map Ac.e)] = some (.tup (W.map Ac.e)) := by
  have h1 := law_prog_woven chs top clock acts hr hk ha hal
  have h2 := woven_ok chs top clock acts hr hk ha hal
  refine ⟨_, woven_acts_good hk acts ha, ?_, h1, h2⟩
  have e1 := go_len clock acts 0
  have e2 := at_len clock 0
  have e3 := List.length_filter_le (fun p : Int × Ac => decide (0 ≤ p.1)) clock
  have := hk.len
  rw [List.length_append]
  omega
theorem tail_made (chs : List Str) (top : Int) (cs : List Cu) (back : Int) (W : List Ac) (hr : RigOk chs top) (hc : ∀ c ∈ cs, c.ok chs top) (hl : cs.length ≤ 20) (hb : 0 ≤ back ∧ back ≤ 5) (ha : ∀ a ∈ W, a.ok chs top) (hal : W.length ≤ 60) :
    ∃ F S G M, P__law_log [rigE chs top, .tup (cs.map Cu.e), .int back, .tup (W.map Ac.e)] = some (.tup [F, S, G]) ∧ P_log [clO chs top cs, .int back, .tup (W.map Ac.e)] = some F ∧ P_looks [clO chs top cs, .int back, .tup (W.map Ac.e)] = some S ∧
      P_stage_behind [clO chs top cs, .int back, .tup (W.map Ac.e)] = some G ∧ P_settles [clO chs top cs, .int back, .tup (W.map Ac.e)] = some M ∧ P__law_settles [rigE chs top, .tup (cs.map Cu.e), .int back, G] = some M ∧
      P__law_same [.lst [F, S, G, M], .lst [F, S, G, M]] = some (.bl true) := by
  obtain ⟨k1, k2, k3⟩ := hist_ok hr hc hb W ha
  obtain ⟨m, m1, m2, m3⟩ := settle_105 hr hc hl hb _ k1
  refine ⟨_, _, _, _, law_log chs top cs back W hr hc hl hb ha hal, log_ok chs top cs back W hr hc hl hb ha hal, looks_ok chs top cs back W hr hc hl hb ha hal, stage_behind_ok chs top cs back W hr hc hl hb ha hal,
    settles_ok chs top cs back W m hr hc hl hb ha hal (by omega) m2 m3, law_settles chs top cs back _ m hr hc hl hb k1 (by omega) m2 m3, same_top ?_⟩
  refine (pl_lst (d := 3) (by simp) fun u hu => ?_).mono (by omega)
  simp only [List.mem_cons, List.not_mem_nil, or_false] at hu
  rcases hu with rfl | rfl | rfl | rfl
  · exact found_pl hr _ (by omega) k3
  · exact (shown_pl hr _ (by omega) k3).mono (by omega)
  · exact sg_pl hr _ k1
  · exact pl_int _ _
theorem law_right {p : T} (hp : IsPot p) (nc np na : Nat) (last : Int) (h1 : nc ≤ 20) (h2 : np ≤ 70) (h3 : na ≤ 60) (h4 : 0 ≤ last ∧ last ≤ 999) :
    ∃ p', P__law_right p [.int nc, .int np, .int na, .int last] = some (.bl true, p') ∧ IsPot p' := by
  obtain ⟨r4, p1, e1, hp1, r40, r41⟩ := draw_ok hp (m := 4) (by omega) (by omega)
  obtain ⟨r9, p2, e2, hp2, r90, r91⟩ := draw_ok hp1 (m := 9) (by omega) (by omega)
  obtain ⟨p3, chs, e3, hp3, hr, hg⟩ := law_rig hp2 (1 + r4.toNat) (1 + r9) (by omega) (by omega)
  rw [show (((1 + r4.toNat : Nat)) : Int) = 1 + r4 by omega] at e3
  obtain ⟨back, p4, e4, hp4, b0, b1⟩ := draw_ok hp3 (m := 6) (by omega) (by omega)
  obtain ⟨p5, cs, e5, hp5, hc, hl, hu⟩ := law_cues hp4 chs (1 + r9) nc hr h1
  obtain ⟨p6, clock, e6, hp6, hk⟩ := law_clock hp5 chs (1 + r9) cs np last hr hc hl h2 h4
  have hb : 0 ≤ back ∧ back ≤ 5 := by omega
  have hri := rig_init hr hg
  have hci := cues_init chs (1 + r9) cs hr hc hl hu
  -- the acts
  obtain ⟨ρ', hloop, ⟨p7, acts, j10, rfl, hp7, hal, ha⟩⟩ := loop_ix (g := gn 10) (f := drop (sBC "list" 8 (acons (ifx (tb (s2 (sR 0 (acons (c (.int 2)) (anil)) P__law_draw) (c (.int 0)) (oEq false))) (sA (acons (c (.str "wait")) (anil)) mkTup) (sR 0 (acons (v 5) (acons (v 1) (anil))) P__law_act)) (anil)) oAppend)) (fun (i : Nat) => T.int (i : Int))
    (fun (pre : List Nat) ρ => ∃ p acts j10, ρ = [.cl false p, .im (.tup (cs.map Cu.e)), .im (.int np), .im (.int na), .im (.int last), .im (rigE chs (1 + r9)), .im (.int back), .im (.tup (clock.map tmE)), .cl true (.lst ((acts : List Ac).map Ac.e)), .im (rigO chs (1 + r9)), j10, .no, .no, .no, .no, .no, .no] ∧ IsPot p ∧ acts.length = pre.length ∧ ∀ a ∈ acts, a.ok chs (1 + r9)) (List.range na) [] (List.range na)
    [.cl false p6, .im (.tup (cs.map Cu.e)), .im (.int np), .im (.int na), .im (.int last), .im (rigE chs (1 + r9)), .im (.int back), .im (.tup (clock.map tmE)), .cl true (.lst (([] : List Ac).map Ac.e)), .im (rigO chs (1 + r9)), .no, .no, .no, .no, .no, .no, .no] rfl ⟨p6, [], .no, rfl, hp6, rfl, fun a h => by cases h⟩ (by
      rintro pre x post ρ hsp ⟨p, acts, j10, rfl, hp, hlen, ha⟩
      have hpl : pre.length < na := by have := congrArg List.length hsp; simp at this; omega
      obtain ⟨r2, q1, f1, hq1, _, _⟩ := draw_ok hp (m := 2) (by omega) (by omega)
      by_cases hz : r2 = 0
      · refine ⟨[.cl false q1, .im (.tup (cs.map Cu.e)), .im (.int np), .im (.int na), .im (.int last), .im (rigE chs (1 + r9)), .im (.int back), .im (.tup (clock.map tmE)), .cl true (.lst ((acts ++ [Ac.wait]).map Ac.e)), .im (rigO chs (1 + r9)), .im (.int (x : Int)), .no, .no, .no, .no, .no, .no], ?_, q1, acts ++ [Ac.wait], _, rfl, hq1, by simp [hlen], fun a haa => ?_⟩
        · simp [f1, hz, show acts.length < 1000 by omega, Ac.e]
        · rcases List.mem_append.mp haa with h | h
          · exact ha a h
          · rw [List.mem_singleton.mp h]; trivial
      · obtain ⟨q2, a, f2, hq2, hao⟩ := law_act hq1 chs (1 + r9) cs hr hc hl
        refine ⟨[.cl false q2, .im (.tup (cs.map Cu.e)), .im (.int np), .im (.int na), .im (.int last), .im (rigE chs (1 + r9)), .im (.int back), .im (.tup (clock.map tmE)), .cl true (.lst ((acts ++ [a]).map Ac.e)), .im (rigO chs (1 + r9)), .im (.int (x : Int)), .no, .no, .no, .no, .no, .no], ?_, q2, acts ++ [a], _, rfl, hq2, by simp [hlen], fun a' haa => ?_⟩
        · simp [f1, hz, f2, show acts.length < 1000 by omega]
        · rcases List.mem_append.mp haa with h | h
          · exact ha a' h
          · rw [List.mem_singleton.mp h]; exact hao)
  rw [List.length_range] at hal
  have hal60 : acts.length ≤ 60 := by omega
  obtain ⟨W, w1, w2, w3, w4⟩ := right_made chs (1 + r9) cs back clock acts hr hg hc hl hu hb hk ha hal60
  have hsW := same_top ((acts_pl hr W w1 w2).mono (show 2 ≤ 8 by omega))
  -- without a clock
  have hk0 : ClkOk chs (1 + r9) [] := ⟨by simp, .nil, fun p h => by cases h⟩
  have v1 := woven_ok chs (1 + r9) [] acts hr hk0 ha hal60
  rw [woven_empty] at v1
  have hsA := same_top ((acts_pl hr acts ha (by omega)).mono (show 2 ≤ 8 by omega))
  -- without acts
  obtain ⟨W0, x1, x2, x3, x4⟩ := right_made chs (1 + r9) cs back clock [] hr hg hc hl hu hb hk (fun a h => by cases h) (by simp)
  have hsW0 := same_top ((acts_pl hr W0 x1 x2).mono (show 2 ≤ 8 by omega))
  -- the last pair, sixty waits
  obtain ⟨W1, y1, y2, y3, y4⟩ := right_made chs (1 + r9) cs back (clock.drop (clock.length - 1)) (List.replicate 60 Ac.wait) hr hg hc hl hu hb (clk_drop hk _) (waits_ok60 _ _) (by simp)
  have hsW1 := same_top ((acts_pl hr W1 y1 y2).mono (show 2 ≤ 8 by omega))
  have h60 := oMulG_rep (.tup [.str "wait"]) 60 (by omega) (by omega)
  have e60 : (List.replicate 60 Ac.wait).map Ac.e = List.replicate 60 (T.tup [.str "wait"]) := by rw [List.map_replicate]; rfl
  rw [e60] at y3 y4
  have hcn := tm_nil hr clock hk
  -- the rest
  obtain ⟨F, S, G, M, z1, z2, z3, z4, z5, z6, z7⟩ := tail_made chs (1 + r9) cs back (W.take 60) hr hc hl hb (fun a h => w1 a (List.mem_of_mem_take h)) (by rw [List.length_take]; omega)
  have hcut : cutT (W.map Ac.e) none (some 60) = (W.take 60).map Ac.e := by rw [cut_to (by omega), List.map_take]; rfl
  rw [List.map_take] at z1 z2 z3 z4 z5 hcut
  refine ⟨p7, ?_, hp7⟩
  unfold P__law_right B__law_right
  simp only [List.map_nil] at hloop v1 x3 x4
  have hr0 : oIt (rigE chs (1 + r9)) (.int 0) = some (.tup (chs.map T.str)) := by simp [rigE]
  have hr1 : oIt (rigE chs (1 + r9)) (.int 1) = some (.int (1 + r9)) := by simp [rigE]
  simp [e1, e2, e3, e4, e5, e6, hr0, hr1, hri]
  rw [rng1_nat _ (by omega)]
  simp [hloop, hci, w3, w4, hsW, v1, hsA, x3, x4, hsW0, perm3, PX.sK]
  have h60' : oMulG (.tup [.tup [.str "wait"]]) (.int 60) = some (.tup (List.replicate 60 (T.tup [.str "wait"]))) := h60
  by_cases hz : clock = []
  · rw [hz] at hcn
    simp only [List.map_nil, List.isEmpty_nil, Bool.not_true] at hcn
    simp [hz, hcn, hcut, z1, z2, z3, z4, z5, z6, z7]
  · have hne : clock.isEmpty = false := by
      cases clock with
      | nil => exact (hz rfl).elim
      | cons a r => rfl
    rw [hne] at hcn
    have hcl : cutT (clock.map tmE) (some (-1)) none = (clock.drop (clock.length - 1)).map tmE := by
      rw [cut_last (by simpa using hz), List.length_map, List.map_drop]
    have hcl' : oSl (.tup (clock.map tmE)) (some (-1)) none = some (.tup ((clock.drop (clock.length - 1)).map tmE)) := by rw [oSl_tup, hcl]
    simp only [hcn, h60', hcl', Option.bind_some, unB_bl, Bool.not_false, if_true, List.getElem?_cons_succ, List.getElem?_cons_zero, slI_im, y3, y4, hsW1, Bool.not_true, Bool.false_eq_true, if_false, outN_nx]
    simp [hcut, z1, z2, z3, z4, z5, z6, z7]
end Go
/-! NC -/
set_option autoImplicit false
set_option maxRecDepth 100000
set_option linter.all false
namespace Go
open PySem L2 PX
theorem law_true (ns : List Int) : P_law [.scr ns] = some (.bl true) := by
  obtain ⟨t4, e4, hp4⟩ := law_pot ns 4 (by omega)
  obtain ⟨q4, f4, _⟩ := law_right hp4 20 70 60 999 (by omega) (by omega) (by omega) (by omega)
  have e4' : P__law_pot [.scr ns, .int 4] = some t4 := e4
  have f4' : P__law_right t4 [.int 20, .int 70, .int 60, .int 999] = some (.bl true, q4) := f4
  obtain ⟨n, hn, hn3⟩ : ∃ n : Nat, (if (if (3 : Int) < (ns.length : Int) then 3 else (ns.length : Int)) > 2 then (if (3 : Int) < (ns.length : Int) then 3 else (ns.length : Int)) else 2) = (n : Int) ∧ n ≤ 3 := by
    by_cases h : 3 ≤ ns.length
    · refine ⟨3, ?_, by omega⟩
      split <;> split <;> omega
    · refine ⟨2, ?_, by omega⟩
      split <;> split <;> omega
  obtain ⟨ρ', h1, ⟨j1, j2, rfl⟩⟩ := loop_pass (g := gn 1) (f := bseq (bset 2 (cl (sA (acons (v 0) (acons (v 1) (anil))) P__law_pot))) (biff (tnot (tb (sR 2 (acons (sR 2 (acons (c (.int 8)) (anil)) P__law_draw) (acons (sR 2 (acons (c (.int 17)) (anil)) P__law_draw) (acons (sR 2 (acons (c (.int 31)) (anil)) P__law_draw) (acons (sR 2 (acons (sA (acons (c (.int 3)) (acons (c (.int 12)) (acons (c (.int 40)) (anil)))) mkTup) (anil)) P__law_pick) (anil))))) P__law_right))) (ret (c (.bl false))) (bnil))) (fun (i : Nat) => T.int (i : Int))
    (fun ρ => ∃ j1 j2, ρ = [.im (.scr ns), j1, j2]) (List.range n) [.im (.scr ns), .no, .no] ⟨_, _, rfl⟩ (by
      rintro x ρ hx ⟨j1, j2, rfl⟩
      have hx' := List.mem_range.mp hx
      obtain ⟨t, e, hp⟩ := law_pot ns x (by omega)
      obtain ⟨r8, p1, e1, hp1, a0, a1⟩ := draw_ok hp (m := 8) (by omega) (by omega)
      obtain ⟨r17, p2, e2, hp2, b0, b1⟩ := draw_ok hp1 (m := 17) (by omega) (by omega)
      obtain ⟨r31, p3, e3, hp3, c0, c1⟩ := draw_ok hp2 (m := 31) (by omega) (by omega)
      obtain ⟨u, p4, e5, hp4', m4⟩ := pick_tup hp3 (ts := [.int 3, .int 12, .int 40]) (by simp) (by simp)
      obtain ⟨l, rfl, hl⟩ : ∃ l : Int, u = .int l ∧ 0 ≤ l ∧ l ≤ 999 := by
        simp only [List.mem_cons, List.not_mem_nil, or_false] at m4
        rcases m4 with rfl | rfl | rfl <;> exact ⟨_, rfl, by omega, by omega⟩
      obtain ⟨p5, e6, hp5⟩ := law_right hp4' r8.toNat r17.toNat r31.toNat l (by omega) (by omega) (by omega) hl
      rw [Int.toNat_of_nonneg a0, Int.toNat_of_nonneg b0, Int.toNat_of_nonneg c0] at e6
      refine ⟨[.im (.scr ns), .im (.int (x : Int)), .cl true p5], ?_, _, _, rfl⟩
      simp [e, e1, e2, e3, e5, e6])
  have hrg := rng1_nat n (by omega)
  rw [← hn] at hrg
  unfold P_law B_law
  simp only [runP_eq, List.length_cons, List.length_nil, if_true, List.map_cons, List.map_nil, show List.replicate (3 - 1) Sl.no = [Sl.no, Sl.no] from rfl, List.cons_append, List.nil_append, bp_bseq, bp_biff, bp_tnot, bp_tb, bp_sRN, bp_sA, bp_acons, bp_v, ap_c, ap_anil, List.getElem?_cons_zero, slI_im, Option.bind_some, e4', f4', unB_bl, Bool.not_true, Bool.false_eq_true, if_false, ap_bnil, outN_nx, bp_bfor, bp_iA, oLen_scr, oMin2_i, oMax2_i, hrg, h1, bp_ret, outV_rt, Nat.zero_add]
end Go
/-! Fin77 -/
set_option autoImplicit false
set_option maxRecDepth 100000
set_option linter.all false
set_option maxHeartbeats 4000000
namespace Go
open PySem PySem.Spec PySem.W L2 PX
theorem facts77 {P : Program} {w : World} {K : PySem.W.Frag} {h : Heap} {mg : Str → Option Value} {f : Addr} (X : K.In h) (G : h.Ns mainGlobals mg) (hfa : mg ("law" : Str) = some (.ref f)) (c : SaysP faL fnL ckL w K) :
    ∃ fd : FuncData, (∀ (s : Shared) (v : Value), BindsTo s fd ⟨[v], []⟩ [("script", v)]) ∧ ∀ base : Heap, K.In base → base.Ns mainGlobals mg → FnOk P w K mg base CX0 100 f fd ["script"] (spP K P_law) := by
  have fx0 : Fx P w K mg h := fx_of c X G
  obtain ⟨fa, fd, D, hm⟩ := fx0.f_law
  rw [hfa] at hm
  cases hm
  have b := FunD.bindsA (ps := ["script"]) D fun _ _ _ _ _ _ us hl => match us, hl with | [_], _ => rfl
  exact ⟨fd, fun s v => b s [v] rfl, fun base _ _ => (ok_law (P := P) (w := w) (base := base) (fx_of c X G) D).mono (by decide)⟩
theorem law_sp {K : PySem.W.Frag} (H : Hp) (a : Addr) (ns : List Int) (hS : SqL K H a (ns.map V.int)) : spP K P_law [.ref a] H (fun v _ => v = .bl true) fun _ _ _ => False :=
  ⟨H, [.scr ns], _, Le.refl _, .cons (.scr hS) .nil, law_true ns, fun w H' G' _ _ q => by cases q; rfl⟩
end Go
/-! Head77 -/
set_option Elab.async false
set_option linter.all false
set_option maxRecDepth 100000
set_option maxHeartbeats 0
set_option autoImplicit false
namespace Go
open PySem PySem.Spec PySem.W PyProof.Rows L2 PX
end Go

open PySem PySem.W PySem.Calls PyProof.Rows
theorem PySem.Challenge.cw_showcues_k77_whole_clocks_holds : PySem.Challenge.rw_showcues_k77_whole_clocks.Holds := by
  w_on; o_law
  refine HandSHeadRun.head_any (r := OpenLaw.row PySem.Challenge.rw_showcues_k77_whole_clocks) (q := view (OpenLaw.row PySem.Challenge.rw_showcues_k77_whole_clocks).prog [Go.lawI]) (H := Go.hk) (ob := Go.ob) (M := 7000) (loose := Go.loose) (d := HandSHeadRun.topDef (OpenLaw.row PySem.Challenge.rw_showcues_k77_whole_clocks).prog Go.lawI) (kwd := []) Go.ob_eq
    (by kernel_rfl) (fun s => by kernel_rfl) Go.run (by kernel_rfl) (by kernel_rfl) (by kernel_rfl) (by rfl) (by first | assumption | decide +kernel) (by decide +kernel) ⟨rfl, rfl, rfl, rfl, rfl, by decide +kernel⟩ ?hw ?hc
  case hw => w_witness2
  case hc =>
    refine L2.walk_ofE (l := PySem.Challenge.rw_showcues_k77_whole_clocks) (n := 63) (k := 100) (x := "script") (CX := L2.CX0) rfl (by decide) (by kernel_rfl) ⟨rfl, by decide, by decide⟩ ?F (fun _ _ _ _ z => z)
    intro w mg fa h Y G hmg0
    obtain ⟨K, KX, c⟩ := Y
    have hmg : mg ("law" : PySem.Str) = some (.ref fa) := by
      have e : (HandSHeadRun.topDef (OpenLaw.row PySem.Challenge.rw_showcues_k77_whole_clocks).prog Go.lawI).name = ("law" : PySem.Str) := by kernel_rfl
      rw [← e]
      exact hmg0
    obtain ⟨fd, hb, hF⟩ := Go.facts77 (P := OpenLaw.row PySem.Challenge.rw_showcues_k77_whole_clocks |>.prog) (w := w) KX G hmg c
    exact ⟨K, fd, PX.spP K Go.P_law, KX, hb, fun H a ns _ _ hS => Go.law_sp H a ns hS, hF⟩
