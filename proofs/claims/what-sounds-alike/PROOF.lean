import PyProof.Rows.All
import Wide.All
import OpenK.AllK
import Wide.FinOn
import PySem.Challenge.RW_reedtapes_k39_whole_what_sounds_alike
import Wide.Once
import KE.KStateDown
import HandS.Head0
import HandS.Head1
import HandS.Head2
import HandS.HeadHook4
import HandS.HeadWalk
import HandS.ForMost
import HandS.Exc
import HandS.Codes
import HandS.Walk
import HandS.Evl
import HandS.Words
import HandS.WordsList
import HandS.Defaults
import KE.KUnpackStar
import PyProof.EqAt
import PyProof.NeKinds
import PyProof.InstNe
import HandS.OwnEq
import KE.KDictCopyH
import HandS.Conv
import HandS.TupSets
import HandS.DictTup
import KE.KDictOf
import KE.KDictKeyed
import HandS.SetKeys
import PyProof.DictCompW
import HandS.DictComp
import HandS.SetBool
import HandS.Strs
import KE.KeyNested
import KE.DataMinKey
import KE.KLam
import HandS.Lambda
import HandS.Spec
import HandS.TupAny
import HandS.TryOnly
import HandS.More
import HandS.Set
import HandS.Text
set_option Elab.async false
set_option linter.all false
set_option maxRecDepth 100000
/-! the text by places, the defs as data -/
namespace L2.RK
open PySem PySem.Spec PyProof.Rows L2
def top (i : Nat) : Stmt := PySem.Challenge.pw_reedtapes_k39_whole_what_sounds_alike.main.body.getD i (.Pass ⟨0, 0, 0, 0⟩)
abbrev sNeedTick : Stmt := top 9
abbrev sAheadOf : Stmt := top 13
abbrev sTimed : Stmt := top 14
abbrev sNextMoment : Stmt := top 15
abbrev sUnlike : Stmt := top 16
abbrev sForms : Stmt := top 22
abbrev sLeftBy : Stmt := top 23
abbrev sSizeOf : Stmt := top 24
abbrev sLaneOf : Stmt := top 25
abbrev sGroups : Stmt := top 26
abbrev sLanes : Stmt := top 27
abbrev sNextStands : Stmt := top 28
abbrev sThrifty : Stmt := top 29
abbrev sCommon : Stmt := top 35
abbrev sShare : Stmt := top 36
abbrev sNeedBeat : Stmt := top 37
abbrev sNeedPace : Stmt := top 38
abbrev sPaired : Stmt := top 41
abbrev sLone : Stmt := top 42
abbrev sLawBegin : Stmt := top 44
abbrev sLawPick : Stmt := top 45
abbrev sLawChannel : Stmt := top 46
abbrev sLawKey : Stmt := top 47
abbrev sLawWord : Stmt := top 48
abbrev sLawThing : Stmt := top 49
abbrev sLawSlowTrack : Stmt := top 50
abbrev sLawOne : Stmt := top 51
abbrev sLawPace : Stmt := top 52
abbrev sLawPairs : Stmt := top 53
abbrev sLaw : Stmt := top 54
abbrev sStandInit : Stmt := inClass (top 11) 0
abbrev sStandLen : Stmt := inClass (top 11) 1
abbrev sStandEq : Stmt := inClass (top 11) 2
abbrev sStandParts : Stmt := inClass (top 11) 3
abbrev sStandAfter : Stmt := inClass (top 11) 4
abbrev sStandSounds : Stmt := inClass (top 11) 5
abbrev sStandKnobs : Stmt := inClass (top 11) 6
abbrev sStandVoices : Stmt := inClass (top 11) 7
abbrev sMapInit : Stmt := inClass (top 39) 0
abbrev sMapPaces : Stmt := inClass (top 39) 7
abbrev sMapStretches : Stmt := inClass (top 39) 9
abbrev sMapMoment : Stmt := inClass (top 39) 10
/-- a def of the text as the head finds it -/
abbrev FnP (K : PySem.W.Frag) (x q : Str) (st : Stmt) (dvs : List V) (f : Addr) (fd : FuncData) : Prop := FunD K x q (defArgs st) (defBody st) (defScope st) dvs [] f fd
def dNeedTick : He.DefD := ⟨("need_tick", none), "need_tick", "need_tick", defArgs sNeedTick, defBody sNeedTick, defScope sNeedTick, [], []⟩
def dAheadOf : He.DefD := ⟨("ahead_of", none), "ahead_of", "ahead_of", defArgs sAheadOf, defBody sAheadOf, defScope sAheadOf, [], []⟩
def dTimed : He.DefD := ⟨("timed", none), "timed", "timed", defArgs sTimed, defBody sTimed, defScope sTimed, [], []⟩
def dNextMoment : He.DefD := ⟨("next_moment", none), "next_moment", "next_moment", defArgs sNextMoment, defBody sNextMoment, defScope sNextMoment, [], []⟩
def dUnlike : He.DefD := ⟨("unlike", none), "unlike", "unlike", defArgs sUnlike, defBody sUnlike, defScope sUnlike, [], []⟩
def dForms : He.DefD := ⟨("forms", none), "forms", "forms", defArgs sForms, defBody sForms, defScope sForms, [], []⟩
def dLeftBy : He.DefD := ⟨("left_by", none), "left_by", "left_by", defArgs sLeftBy, defBody sLeftBy, defScope sLeftBy, [], []⟩
def dSizeOf : He.DefD := ⟨("size_of", none), "size_of", "size_of", defArgs sSizeOf, defBody sSizeOf, defScope sSizeOf, [], []⟩
def dLaneOf : He.DefD := ⟨("lane_of", none), "lane_of", "lane_of", defArgs sLaneOf, defBody sLaneOf, defScope sLaneOf, [], []⟩
def dGroups : He.DefD := ⟨("groups", none), "groups", "groups", defArgs sGroups, defBody sGroups, defScope sGroups, [], []⟩
def dLanes : He.DefD := ⟨("lanes", none), "lanes", "lanes", defArgs sLanes, defBody sLanes, defScope sLanes, [], []⟩
def dNextStands : He.DefD := ⟨("next_stands", none), "next_stands", "next_stands", defArgs sNextStands, defBody sNextStands, defScope sNextStands, [], []⟩
def dThrifty : He.DefD := ⟨("thrifty", none), "thrifty", "thrifty", defArgs sThrifty, defBody sThrifty, defScope sThrifty, [], []⟩
def dCommon : He.DefD := ⟨("common", none), "common", "common", defArgs sCommon, defBody sCommon, defScope sCommon, [], []⟩
def dShare : He.DefD := ⟨("share", none), "share", "share", defArgs sShare, defBody sShare, defScope sShare, [], []⟩
def dNeedBeat : He.DefD := ⟨("need_beat", none), "need_beat", "need_beat", defArgs sNeedBeat, defBody sNeedBeat, defScope sNeedBeat, [], []⟩
def dNeedPace : He.DefD := ⟨("need_pace", none), "need_pace", "need_pace", defArgs sNeedPace, defBody sNeedPace, defScope sNeedPace, [], []⟩
def dPaired : He.DefD := ⟨("paired", none), "paired", "paired", defArgs sPaired, defBody sPaired, defScope sPaired, [], []⟩
def dLone : He.DefD := ⟨("lone", none), "lone", "lone", defArgs sLone, defBody sLone, defScope sLone, [], []⟩
def dLawBegin : He.DefD := ⟨("_law_begin", none), "_law_begin", "_law_begin", defArgs sLawBegin, defBody sLawBegin, defScope sLawBegin, [], []⟩
def dLawPick : He.DefD := ⟨("_law_pick", none), "_law_pick", "_law_pick", defArgs sLawPick, defBody sLawPick, defScope sLawPick, [], []⟩
def dLawChannel : He.DefD := ⟨("_law_channel", none), "_law_channel", "_law_channel", defArgs sLawChannel, defBody sLawChannel, defScope sLawChannel, [], []⟩
def dLawKey : He.DefD := ⟨("_law_key", none), "_law_key", "_law_key", defArgs sLawKey, defBody sLawKey, defScope sLawKey, [], []⟩
def dLawWord : He.DefD := ⟨("_law_word", none), "_law_word", "_law_word", defArgs sLawWord, defBody sLawWord, defScope sLawWord, [], []⟩
def dLawThing : He.DefD := ⟨("_law_thing", none), "_law_thing", "_law_thing", defArgs sLawThing, defBody sLawThing, defScope sLawThing, [], []⟩
def dLawSlowTrack : He.DefD := ⟨("_law_slow_track", none), "_law_slow_track", "_law_slow_track", defArgs sLawSlowTrack, defBody sLawSlowTrack, defScope sLawSlowTrack, [], []⟩
def dLawOne : He.DefD := ⟨("_law_one", none), "_law_one", "_law_one", defArgs sLawOne, defBody sLawOne, defScope sLawOne, [], []⟩
def dLawPace : He.DefD := ⟨("_law_pace", none), "_law_pace", "_law_pace", defArgs sLawPace, defBody sLawPace, defScope sLawPace, [], []⟩
def dLawPairs : He.DefD := ⟨("_law_pairs", none), "_law_pairs", "_law_pairs", defArgs sLawPairs, defBody sLawPairs, defScope sLawPairs, [], []⟩
def dLaw : He.DefD := ⟨("law", none), "law", "law", defArgs sLaw, defBody sLaw, defScope sLaw, [], []⟩
def dStandInit : He.DefD := ⟨("Stand", some "__init__"), "__init__", "Stand.__init__", defArgs sStandInit, defBody sStandInit, defScope sStandInit, [], []⟩
def dStandLen : He.DefD := ⟨("Stand", some "__len__"), "__len__", "Stand.__len__", defArgs sStandLen, defBody sStandLen, defScope sStandLen, [], []⟩
def dStandEq : He.DefD := ⟨("Stand", some "__eq__"), "__eq__", "Stand.__eq__", defArgs sStandEq, defBody sStandEq, defScope sStandEq, [], []⟩
def dStandParts : He.DefD := ⟨("Stand", some "parts"), "parts", "Stand.parts", defArgs sStandParts, defBody sStandParts, defScope sStandParts, [], []⟩
def dStandAfter : He.DefD := ⟨("Stand", some "after"), "after", "Stand.after", defArgs sStandAfter, defBody sStandAfter, defScope sStandAfter, [], []⟩
def dStandSounds : He.DefD := ⟨("Stand", some "sounds"), "sounds", "Stand.sounds", defArgs sStandSounds, defBody sStandSounds, defScope sStandSounds, [], []⟩
def dStandKnobs : He.DefD := ⟨("Stand", some "knobs"), "knobs", "Stand.knobs", defArgs sStandKnobs, defBody sStandKnobs, defScope sStandKnobs, [], []⟩
def dStandVoices : He.DefD := ⟨("Stand", some "voices"), "voices", "Stand.voices", defArgs sStandVoices, defBody sStandVoices, defScope sStandVoices, [], []⟩
def dMapInit : He.DefD := ⟨("Map", some "__init__"), "__init__", "Map.__init__", defArgs sMapInit, defBody sMapInit, defScope sMapInit, [.adr (He.dflAt ("Map", some "__init__") 0)], []⟩
def dMapPaces : He.DefD := ⟨("Map", some "paces"), "paces", "Map.paces", defArgs sMapPaces, defBody sMapPaces, defScope sMapPaces, [], []⟩
def dMapStretches : He.DefD := ⟨("Map", some "stretches"), "stretches", "Map.stretches", defArgs sMapStretches, defBody sMapStretches, defScope sMapStretches, [], []⟩
def dMapMoment : He.DefD := ⟨("Map", some "moment"), "moment", "Map.moment", defArgs sMapMoment, defBody sMapMoment, defScope sMapMoment, [], []⟩
def fn0 : List He.DefD := [dNeedTick, dAheadOf, dTimed, dNextMoment, dUnlike, dForms, dLeftBy, dSizeOf, dLaneOf, dGroups, dLanes, dNextStands, dThrifty, dCommon, dShare, dNeedBeat, dNeedPace, dPaired, dLone, dLawBegin]
def fn1 : List He.DefD := [dLawPick, dLawChannel, dLawKey, dLawWord, dLawThing, dLawSlowTrack, dLawOne, dLawPace, dLawPairs, dLaw, dStandInit, dStandLen, dStandEq, dStandParts, dStandAfter, dStandSounds, dStandKnobs, dStandVoices, dMapInit, dMapPaces]
def fn2 : List He.DefD := [dMapStretches, dMapMoment]
def fn : List He.DefD := fn0 ++ fn1 ++ fn2
def fa0 : List He.Fa := [.glo "need_tick", .glo "ahead_of", .glo "timed", .glo "next_moment", .glo "unlike", .glo "forms", .glo "left_by", .glo "size_of", .glo "lane_of", .glo "groups", .glo "lanes", .glo "next_stands", .glo "thrifty", .glo "common", .glo "share", .glo "need_beat", .glo "need_pace", .glo "paired", .glo "lone", .glo "_law_begin"]
def fa1 : List He.Fa := [.glo "_law_pick", .glo "_law_channel", .glo "_law_key", .glo "_law_word", .glo "_law_thing", .glo "_law_slow_track", .glo "_law_one", .glo "_law_pace", .glo "_law_pairs", .glo "law", .glo "Stand", .glo "Map", .glo "HEADS", .free "len", .free "isinstance", .free "dict", .free "sorted", .free "list", .free "range", .free "enumerate"]
def fa2 : List He.Fa := [.free "tuple", .free "min", .free "abs", .free "int", .free "ord", .int "MOST_TICK" 999999, .int "MARK" 240, .int "SOFT" 64, .int "MOST_FREE" 6, .int "USUAL" 500000, .int "MOST_BEAT" 960, .int "MOST_PACE" 16777215, .int "MOST_PACES" 20, .cls "Stand", .mkr "Stand", .cls "Map", .mkr "Map", .noat "Stand" "ringing", .noat "Stand" "turned", .noat "Stand" "chosen"]
def fa3 : List He.Fa := [.noat "Map" "ticks", .noat "Map" "known", .meth "Stand" "__init__", .meth "Stand" "__len__", .meth "Stand" "__eq__", .meth "Stand" "parts", .meth "Stand" "after", .meth "Stand" "sounds", .meth "Stand" "knobs", .meth "Stand" "voices", .meth "Map" "__init__", .meth "Map" "paces", .meth "Map" "stretches", .meth "Map" "moment"]
def fa : List He.Fa := fa0 ++ fa1 ++ fa2 ++ fa3
def names0 : List Str := ["_wall", "__name__", "TapeError", "BadBeat", "BadPace", "BadTick", "Full", "MOST_TICK", "need_tick", "Stand", "ahead_of", "timed", "next_moment", "unlike", "HEADS", "MARK", "SOFT", "MOST_FREE", "forms", "left_by"]
def names1 : List Str := ["size_of", "lane_of", "groups", "lanes", "next_stands", "thrifty", "USUAL", "MOST_BEAT", "MOST_PACE", "MOST_PACES", "common", "share", "need_beat", "need_pace", "Map", "paired", "lone", "_law_begin", "_law_pick", "_law_channel"]
def names2 : List Str := ["_law_key", "_law_word", "_law_thing", "_law_slow_track", "_law_one", "_law_pace", "_law_pairs"]
def names : List Str := names0 ++ names1 ++ names2
def ts : List He.Tab := [(fun K => He.ga K "HEADS", ["off", "on", "knob", "voice"])]
def tf : List He.Defn := [("thrifty", none)]
end L2.RK
/-! the top's facts by names -/
namespace L2.RK
open PySem PySem.Spec PyProof.Rows
def headsKV : List (Str × He.Dv) := [("off", .int 128), ("on", .int 144), ("knob", .int 160), ("voice", .int 176)]
def exB (K : PySem.W.Frag) : Bool :=
  He.eqO (PySem.W.findIn K (.ref (He.ga K "Stand")) "__ne__") (some (some (.builtin "object.__ne__"))) && (decide (PySem.W.mroIn K (He.ga K "Stand") (.type "object") = some true) && (
  He.eqO (PySem.W.findIn K (.ref (He.ga K "Stand")) "__class__") (some (some (.builtin "object.__class__"))) && (He.eqO (PySem.W.specialIn K (.builtin "object.__class__") "__get__") (some (some (.builtin "getset_descriptor.__get__"))) && (
  decide (PySem.W.takesIn K (.builtin "object.__class__") = some true) && (decide (PySem.W.kitOne K (.ref (He.ga K "Stand")) (.ref (He.ga K "Stand")) = some true) && He.valsB K (He.ga K "HEADS") headsKV)))))
/-- where a def of the top, a method stands -/
abbrev gA (K : PySem.W.Frag) (x : Str) : Addr := He.ga K x
abbrev mA (K : PySem.W.Frag) (C m : Str) : Addr := He.ma K (He.ga K C) m
structure Txt (K : PySem.W.Frag) (mg : Str → Option Value) (w : World) : Prop where
  gNeedTick : mg "need_tick" = some (.ref (gA K "need_tick"))
  fNeedTick : ∃ fd, FunD K "need_tick" "need_tick" (defArgs sNeedTick) (defBody sNeedTick) (defScope sNeedTick) [] [] (gA K "need_tick") fd
  gAheadOf : mg "ahead_of" = some (.ref (gA K "ahead_of"))
  fAheadOf : ∃ fd, FunD K "ahead_of" "ahead_of" (defArgs sAheadOf) (defBody sAheadOf) (defScope sAheadOf) [] [] (gA K "ahead_of") fd
  gTimed : mg "timed" = some (.ref (gA K "timed"))
  fTimed : ∃ fd, FunD K "timed" "timed" (defArgs sTimed) (defBody sTimed) (defScope sTimed) [] [] (gA K "timed") fd
  gNextMoment : mg "next_moment" = some (.ref (gA K "next_moment"))
  fNextMoment : ∃ fd, FunD K "next_moment" "next_moment" (defArgs sNextMoment) (defBody sNextMoment) (defScope sNextMoment) [] [] (gA K "next_moment") fd
  gUnlike : mg "unlike" = some (.ref (gA K "unlike"))
  fUnlike : ∃ fd, FunD K "unlike" "unlike" (defArgs sUnlike) (defBody sUnlike) (defScope sUnlike) [] [] (gA K "unlike") fd
  gForms : mg "forms" = some (.ref (gA K "forms"))
  fForms : ∃ fd, FunD K "forms" "forms" (defArgs sForms) (defBody sForms) (defScope sForms) [] [] (gA K "forms") fd
  gLeftBy : mg "left_by" = some (.ref (gA K "left_by"))
  fLeftBy : ∃ fd, FunD K "left_by" "left_by" (defArgs sLeftBy) (defBody sLeftBy) (defScope sLeftBy) [] [] (gA K "left_by") fd
  gSizeOf : mg "size_of" = some (.ref (gA K "size_of"))
  fSizeOf : ∃ fd, FunD K "size_of" "size_of" (defArgs sSizeOf) (defBody sSizeOf) (defScope sSizeOf) [] [] (gA K "size_of") fd
  gLaneOf : mg "lane_of" = some (.ref (gA K "lane_of"))
  fLaneOf : ∃ fd, FunD K "lane_of" "lane_of" (defArgs sLaneOf) (defBody sLaneOf) (defScope sLaneOf) [] [] (gA K "lane_of") fd
  gGroups : mg "groups" = some (.ref (gA K "groups"))
  fGroups : ∃ fd, FunD K "groups" "groups" (defArgs sGroups) (defBody sGroups) (defScope sGroups) [] [] (gA K "groups") fd
  gLanes : mg "lanes" = some (.ref (gA K "lanes"))
  fLanes : ∃ fd, FunD K "lanes" "lanes" (defArgs sLanes) (defBody sLanes) (defScope sLanes) [] [] (gA K "lanes") fd
  gNextStands : mg "next_stands" = some (.ref (gA K "next_stands"))
  fNextStands : ∃ fd, FunD K "next_stands" "next_stands" (defArgs sNextStands) (defBody sNextStands) (defScope sNextStands) [] [] (gA K "next_stands") fd
  gThrifty : mg "thrifty" = some (.ref (gA K "thrifty"))
  fThrifty : ∃ fd, FunD K "thrifty" "thrifty" (defArgs sThrifty) (defBody sThrifty) (defScope sThrifty) [] [] (gA K "thrifty") fd
  gCommon : mg "common" = some (.ref (gA K "common"))
  fCommon : ∃ fd, FunD K "common" "common" (defArgs sCommon) (defBody sCommon) (defScope sCommon) [] [] (gA K "common") fd
  gShare : mg "share" = some (.ref (gA K "share"))
  fShare : ∃ fd, FunD K "share" "share" (defArgs sShare) (defBody sShare) (defScope sShare) [] [] (gA K "share") fd
  gNeedBeat : mg "need_beat" = some (.ref (gA K "need_beat"))
  fNeedBeat : ∃ fd, FunD K "need_beat" "need_beat" (defArgs sNeedBeat) (defBody sNeedBeat) (defScope sNeedBeat) [] [] (gA K "need_beat") fd
  gNeedPace : mg "need_pace" = some (.ref (gA K "need_pace"))
  fNeedPace : ∃ fd, FunD K "need_pace" "need_pace" (defArgs sNeedPace) (defBody sNeedPace) (defScope sNeedPace) [] [] (gA K "need_pace") fd
  gPaired : mg "paired" = some (.ref (gA K "paired"))
  fPaired : ∃ fd, FunD K "paired" "paired" (defArgs sPaired) (defBody sPaired) (defScope sPaired) [] [] (gA K "paired") fd
  gLone : mg "lone" = some (.ref (gA K "lone"))
  fLone : ∃ fd, FunD K "lone" "lone" (defArgs sLone) (defBody sLone) (defScope sLone) [] [] (gA K "lone") fd
  gLawBegin : mg "_law_begin" = some (.ref (gA K "_law_begin"))
  fLawBegin : ∃ fd, FunD K "_law_begin" "_law_begin" (defArgs sLawBegin) (defBody sLawBegin) (defScope sLawBegin) [] [] (gA K "_law_begin") fd
  gLawPick : mg "_law_pick" = some (.ref (gA K "_law_pick"))
  fLawPick : ∃ fd, FunD K "_law_pick" "_law_pick" (defArgs sLawPick) (defBody sLawPick) (defScope sLawPick) [] [] (gA K "_law_pick") fd
  gLawChannel : mg "_law_channel" = some (.ref (gA K "_law_channel"))
  fLawChannel : ∃ fd, FunD K "_law_channel" "_law_channel" (defArgs sLawChannel) (defBody sLawChannel) (defScope sLawChannel) [] [] (gA K "_law_channel") fd
  gLawKey : mg "_law_key" = some (.ref (gA K "_law_key"))
  fLawKey : ∃ fd, FunD K "_law_key" "_law_key" (defArgs sLawKey) (defBody sLawKey) (defScope sLawKey) [] [] (gA K "_law_key") fd
  gLawWord : mg "_law_word" = some (.ref (gA K "_law_word"))
  fLawWord : ∃ fd, FunD K "_law_word" "_law_word" (defArgs sLawWord) (defBody sLawWord) (defScope sLawWord) [] [] (gA K "_law_word") fd
  gLawThing : mg "_law_thing" = some (.ref (gA K "_law_thing"))
  fLawThing : ∃ fd, FunD K "_law_thing" "_law_thing" (defArgs sLawThing) (defBody sLawThing) (defScope sLawThing) [] [] (gA K "_law_thing") fd
  gLawSlowTrack : mg "_law_slow_track" = some (.ref (gA K "_law_slow_track"))
  fLawSlowTrack : ∃ fd, FunD K "_law_slow_track" "_law_slow_track" (defArgs sLawSlowTrack) (defBody sLawSlowTrack) (defScope sLawSlowTrack) [] [] (gA K "_law_slow_track") fd
  gLawOne : mg "_law_one" = some (.ref (gA K "_law_one"))
  fLawOne : ∃ fd, FunD K "_law_one" "_law_one" (defArgs sLawOne) (defBody sLawOne) (defScope sLawOne) [] [] (gA K "_law_one") fd
  gLawPace : mg "_law_pace" = some (.ref (gA K "_law_pace"))
  fLawPace : ∃ fd, FunD K "_law_pace" "_law_pace" (defArgs sLawPace) (defBody sLawPace) (defScope sLawPace) [] [] (gA K "_law_pace") fd
  gLawPairs : mg "_law_pairs" = some (.ref (gA K "_law_pairs"))
  fLawPairs : ∃ fd, FunD K "_law_pairs" "_law_pairs" (defArgs sLawPairs) (defBody sLawPairs) (defScope sLawPairs) [] [] (gA K "_law_pairs") fd
  gLaw : mg "law" = some (.ref (gA K "law"))
  fLaw : ∃ fd, FunD K "law" "law" (defArgs sLaw) (defBody sLaw) (defScope sLaw) [] [] (gA K "law") fd
  mStandInit : Meth K (gA K "Stand") "__init__" (mA K "Stand" "__init__")
  fStandInit : ∃ fd, FunD K "__init__" "Stand.__init__" (defArgs sStandInit) (defBody sStandInit) (defScope sStandInit) [] [] (mA K "Stand" "__init__") fd
  mStandLen : Meth K (gA K "Stand") "__len__" (mA K "Stand" "__len__")
  fStandLen : ∃ fd, FunD K "__len__" "Stand.__len__" (defArgs sStandLen) (defBody sStandLen) (defScope sStandLen) [] [] (mA K "Stand" "__len__") fd
  mStandEq : Meth K (gA K "Stand") "__eq__" (mA K "Stand" "__eq__")
  fStandEq : ∃ fd, FunD K "__eq__" "Stand.__eq__" (defArgs sStandEq) (defBody sStandEq) (defScope sStandEq) [] [] (mA K "Stand" "__eq__") fd
  mStandParts : Meth K (gA K "Stand") "parts" (mA K "Stand" "parts")
  fStandParts : ∃ fd, FunD K "parts" "Stand.parts" (defArgs sStandParts) (defBody sStandParts) (defScope sStandParts) [] [] (mA K "Stand" "parts") fd
  mStandAfter : Meth K (gA K "Stand") "after" (mA K "Stand" "after")
  fStandAfter : ∃ fd, FunD K "after" "Stand.after" (defArgs sStandAfter) (defBody sStandAfter) (defScope sStandAfter) [] [] (mA K "Stand" "after") fd
  mStandSounds : Meth K (gA K "Stand") "sounds" (mA K "Stand" "sounds")
  fStandSounds : ∃ fd, FunD K "sounds" "Stand.sounds" (defArgs sStandSounds) (defBody sStandSounds) (defScope sStandSounds) [] [] (mA K "Stand" "sounds") fd
  mStandKnobs : Meth K (gA K "Stand") "knobs" (mA K "Stand" "knobs")
  fStandKnobs : ∃ fd, FunD K "knobs" "Stand.knobs" (defArgs sStandKnobs) (defBody sStandKnobs) (defScope sStandKnobs) [] [] (mA K "Stand" "knobs") fd
  mStandVoices : Meth K (gA K "Stand") "voices" (mA K "Stand" "voices")
  fStandVoices : ∃ fd, FunD K "voices" "Stand.voices" (defArgs sStandVoices) (defBody sStandVoices) (defScope sStandVoices) [] [] (mA K "Stand" "voices") fd
  mMapInit : Meth K (gA K "Map") "__init__" (mA K "Map" "__init__")
  fMapInit : ∃ fd, FunD K "__init__" "Map.__init__" (defArgs sMapInit) (defBody sMapInit) (defScope sMapInit) [.ref (He.dflAt ("Map", some "__init__") 0 K)] [] (mA K "Map" "__init__") fd
  mMapPaces : Meth K (gA K "Map") "paces" (mA K "Map" "paces")
  fMapPaces : ∃ fd, FunD K "paces" "Map.paces" (defArgs sMapPaces) (defBody sMapPaces) (defScope sMapPaces) [] [] (mA K "Map" "paces") fd
  mMapStretches : Meth K (gA K "Map") "stretches" (mA K "Map" "stretches")
  fMapStretches : ∃ fd, FunD K "stretches" "Map.stretches" (defArgs sMapStretches) (defBody sMapStretches) (defScope sMapStretches) [] [] (mA K "Map" "stretches") fd
  mMapMoment : Meth K (gA K "Map") "moment" (mA K "Map" "moment")
  fMapMoment : ∃ fd, FunD K "moment" "Map.moment" (defArgs sMapMoment) (defBody sMapMoment) (defScope sMapMoment) [] [] (mA K "Map" "moment") fd
  gStand : mg "Stand" = some (.ref (gA K "Stand"))
  cStand : Cls K (gA K "Stand")
  kStand : Mk K (gA K "Stand") (mA K "Stand" "__init__")
  gMap : mg "Map" = some (.ref (gA K "Map"))
  cMap : Cls K (gA K "Map")
  kMap : Mk K (gA K "Map") (mA K "Map" "__init__")
  gHEADS : mg "HEADS" = some (.ref (gA K "HEADS"))
  tHEADS : ∀ q ∈ headsKV, KDct K w (gA K "HEADS") q.1 (q.2.v K)
  nLen : mg "len" = none
  nIsinstance : mg "isinstance" = none
  nDict : mg "dict" = none
  nSorted : mg "sorted" = none
  nList : mg "list" = none
  nRange : mg "range" = none
  nEnumerate : mg "enumerate" = none
  nTuple : mg "tuple" = none
  nMin : mg "min" = none
  nAbs : mg "abs" = none
  nInt : mg "int" = none
  nOrd : mg "ord" = none
  iMOST_TICK : ∃ t, mg "MOST_TICK" = some (.int 999999 t)
  iMARK : ∃ t, mg "MARK" = some (.int 240 t)
  iSOFT : ∃ t, mg "SOFT" = some (.int 64 t)
  iMOST_FREE : ∃ t, mg "MOST_FREE" = some (.int 6 t)
  iUSUAL : ∃ t, mg "USUAL" = some (.int 500000 t)
  iMOST_BEAT : ∃ t, mg "MOST_BEAT" = some (.int 960 t)
  iMOST_PACE : ∃ t, mg "MOST_PACE" = some (.int 16777215 t)
  iMOST_PACES : ∃ t, mg "MOST_PACES" = some (.int 20 t)
  aStandRinging : NoAttr K (gA K "Stand") "ringing"
  aStandTurned : NoAttr K (gA K "Stand") "turned"
  aStandChosen : NoAttr K (gA K "Stand") "chosen"
  aMapTicks : NoAttr K (gA K "Map") "ticks"
  aMapKnown : NoAttr K (gA K "Map") "known"
  oNe : PySem.W.findIn K (.ref (gA K "Stand")) "__ne__" = some (some (.builtin "object.__ne__"))
  oOb : PySem.W.mroIn K (gA K "Stand") (.type "object") = some true
  oIs : C8.InsC K (gA K "Stand")
theorem txt_of {K : PySem.W.Frag} {mg : Str → Option Value} {w : World} {h h2 : Heap} (X : K.In h2) (G : h2.Ns mainGlobals mg) (c : He.SaysX fa fn ts tf exB w h K) : Txt K mg w := by
  have cd := c.t.d
  obtain ⟨e1, e2⟩ := He.ba c.more
  obtain ⟨e2, e3⟩ := He.ba e2
  obtain ⟨e3, e4⟩ := He.ba e3
  obtain ⟨e4, e5⟩ := He.ba e4
  obtain ⟨e5, e6⟩ := He.ba e5
  obtain ⟨e6, e7⟩ := He.ba e6
  obtain ⟨es, n, kd⟩ := c.t.tab 0 (t := (fun K => He.ga K "HEADS", ["off", "on", "knob", "voice"])) rfl
  have hcl : Cls K (gA K "Stand") := He.cls_ok (cd.fact 53 (f := .cls "Stand") rfl)
  exact {
    gNeedTick := He.glo_ok X G (cd.fact 0 (f := .glo "need_tick") rfl)
    fNeedTick := cd.def_ 0 (d := dNeedTick) rfl
    gAheadOf := He.glo_ok X G (cd.fact 1 (f := .glo "ahead_of") rfl)
    fAheadOf := cd.def_ 1 (d := dAheadOf) rfl
    gTimed := He.glo_ok X G (cd.fact 2 (f := .glo "timed") rfl)
    fTimed := cd.def_ 2 (d := dTimed) rfl
    gNextMoment := He.glo_ok X G (cd.fact 3 (f := .glo "next_moment") rfl)
    fNextMoment := cd.def_ 3 (d := dNextMoment) rfl
    gUnlike := He.glo_ok X G (cd.fact 4 (f := .glo "unlike") rfl)
    fUnlike := cd.def_ 4 (d := dUnlike) rfl
    gForms := He.glo_ok X G (cd.fact 5 (f := .glo "forms") rfl)
    fForms := cd.def_ 5 (d := dForms) rfl
    gLeftBy := He.glo_ok X G (cd.fact 6 (f := .glo "left_by") rfl)
    fLeftBy := cd.def_ 6 (d := dLeftBy) rfl
    gSizeOf := He.glo_ok X G (cd.fact 7 (f := .glo "size_of") rfl)
    fSizeOf := cd.def_ 7 (d := dSizeOf) rfl
    gLaneOf := He.glo_ok X G (cd.fact 8 (f := .glo "lane_of") rfl)
    fLaneOf := cd.def_ 8 (d := dLaneOf) rfl
    gGroups := He.glo_ok X G (cd.fact 9 (f := .glo "groups") rfl)
    fGroups := cd.def_ 9 (d := dGroups) rfl
    gLanes := He.glo_ok X G (cd.fact 10 (f := .glo "lanes") rfl)
    fLanes := cd.def_ 10 (d := dLanes) rfl
    gNextStands := He.glo_ok X G (cd.fact 11 (f := .glo "next_stands") rfl)
    fNextStands := cd.def_ 11 (d := dNextStands) rfl
    gThrifty := He.glo_ok X G (cd.fact 12 (f := .glo "thrifty") rfl)
    fThrifty := cd.def_ 12 (d := dThrifty) rfl
    gCommon := He.glo_ok X G (cd.fact 13 (f := .glo "common") rfl)
    fCommon := cd.def_ 13 (d := dCommon) rfl
    gShare := He.glo_ok X G (cd.fact 14 (f := .glo "share") rfl)
    fShare := cd.def_ 14 (d := dShare) rfl
    gNeedBeat := He.glo_ok X G (cd.fact 15 (f := .glo "need_beat") rfl)
    fNeedBeat := cd.def_ 15 (d := dNeedBeat) rfl
    gNeedPace := He.glo_ok X G (cd.fact 16 (f := .glo "need_pace") rfl)
    fNeedPace := cd.def_ 16 (d := dNeedPace) rfl
    gPaired := He.glo_ok X G (cd.fact 17 (f := .glo "paired") rfl)
    fPaired := cd.def_ 17 (d := dPaired) rfl
    gLone := He.glo_ok X G (cd.fact 18 (f := .glo "lone") rfl)
    fLone := cd.def_ 18 (d := dLone) rfl
    gLawBegin := He.glo_ok X G (cd.fact 19 (f := .glo "_law_begin") rfl)
    fLawBegin := cd.def_ 19 (d := dLawBegin) rfl
    gLawPick := He.glo_ok X G (cd.fact 20 (f := .glo "_law_pick") rfl)
    fLawPick := cd.def_ 20 (d := dLawPick) rfl
    gLawChannel := He.glo_ok X G (cd.fact 21 (f := .glo "_law_channel") rfl)
    fLawChannel := cd.def_ 21 (d := dLawChannel) rfl
    gLawKey := He.glo_ok X G (cd.fact 22 (f := .glo "_law_key") rfl)
    fLawKey := cd.def_ 22 (d := dLawKey) rfl
    gLawWord := He.glo_ok X G (cd.fact 23 (f := .glo "_law_word") rfl)
    fLawWord := cd.def_ 23 (d := dLawWord) rfl
    gLawThing := He.glo_ok X G (cd.fact 24 (f := .glo "_law_thing") rfl)
    fLawThing := cd.def_ 24 (d := dLawThing) rfl
    gLawSlowTrack := He.glo_ok X G (cd.fact 25 (f := .glo "_law_slow_track") rfl)
    fLawSlowTrack := cd.def_ 25 (d := dLawSlowTrack) rfl
    gLawOne := He.glo_ok X G (cd.fact 26 (f := .glo "_law_one") rfl)
    fLawOne := cd.def_ 26 (d := dLawOne) rfl
    gLawPace := He.glo_ok X G (cd.fact 27 (f := .glo "_law_pace") rfl)
    fLawPace := cd.def_ 27 (d := dLawPace) rfl
    gLawPairs := He.glo_ok X G (cd.fact 28 (f := .glo "_law_pairs") rfl)
    fLawPairs := cd.def_ 28 (d := dLawPairs) rfl
    gLaw := He.glo_ok X G (cd.fact 29 (f := .glo "law") rfl)
    fLaw := cd.def_ 29 (d := dLaw) rfl
    mStandInit := He.meth_ok (cd.fact 62 (f := .meth "Stand" "__init__") rfl)
    fStandInit := cd.def_ 30 (d := dStandInit) rfl
    mStandLen := He.meth_ok (cd.fact 63 (f := .meth "Stand" "__len__") rfl)
    fStandLen := cd.def_ 31 (d := dStandLen) rfl
    mStandEq := He.meth_ok (cd.fact 64 (f := .meth "Stand" "__eq__") rfl)
    fStandEq := cd.def_ 32 (d := dStandEq) rfl
    mStandParts := He.meth_ok (cd.fact 65 (f := .meth "Stand" "parts") rfl)
    fStandParts := cd.def_ 33 (d := dStandParts) rfl
    mStandAfter := He.meth_ok (cd.fact 66 (f := .meth "Stand" "after") rfl)
    fStandAfter := cd.def_ 34 (d := dStandAfter) rfl
    mStandSounds := He.meth_ok (cd.fact 67 (f := .meth "Stand" "sounds") rfl)
    fStandSounds := cd.def_ 35 (d := dStandSounds) rfl
    mStandKnobs := He.meth_ok (cd.fact 68 (f := .meth "Stand" "knobs") rfl)
    fStandKnobs := cd.def_ 36 (d := dStandKnobs) rfl
    mStandVoices := He.meth_ok (cd.fact 69 (f := .meth "Stand" "voices") rfl)
    fStandVoices := cd.def_ 37 (d := dStandVoices) rfl
    mMapInit := He.meth_ok (cd.fact 70 (f := .meth "Map" "__init__") rfl)
    fMapInit := cd.def_ 38 (d := dMapInit) rfl
    mMapPaces := He.meth_ok (cd.fact 71 (f := .meth "Map" "paces") rfl)
    fMapPaces := cd.def_ 39 (d := dMapPaces) rfl
    mMapStretches := He.meth_ok (cd.fact 72 (f := .meth "Map" "stretches") rfl)
    fMapStretches := cd.def_ 40 (d := dMapStretches) rfl
    mMapMoment := He.meth_ok (cd.fact 73 (f := .meth "Map" "moment") rfl)
    fMapMoment := cd.def_ 41 (d := dMapMoment) rfl
    gStand := He.glo_ok X G (cd.fact 30 (f := .glo "Stand") rfl)
    cStand := He.cls_ok (cd.fact 53 (f := .cls "Stand") rfl)
    kStand := He.mkr_ok (cd.fact 54 (f := .mkr "Stand") rfl)
    gMap := He.glo_ok X G (cd.fact 31 (f := .glo "Map") rfl)
    cMap := He.cls_ok (cd.fact 55 (f := .cls "Map") rfl)
    kMap := He.mkr_ok (cd.fact 56 (f := .mkr "Map") rfl)
    gHEADS := He.glo_ok X G (cd.fact 32 (f := .glo "HEADS") rfl)
    tHEADS := fun q hq => by
      obtain ⟨h1, h2⟩ := kd
      obtain ⟨u, h3, h4⟩ := He.valsB_ok e7 hq
      exact ⟨es, n, u, h1, h2, h3, h4⟩
    nLen := He.free_ok X G (cd.fact 33 (f := .free "len") rfl)
    nIsinstance := He.free_ok X G (cd.fact 34 (f := .free "isinstance") rfl)
    nDict := He.free_ok X G (cd.fact 35 (f := .free "dict") rfl)
    nSorted := He.free_ok X G (cd.fact 36 (f := .free "sorted") rfl)
    nList := He.free_ok X G (cd.fact 37 (f := .free "list") rfl)
    nRange := He.free_ok X G (cd.fact 38 (f := .free "range") rfl)
    nEnumerate := He.free_ok X G (cd.fact 39 (f := .free "enumerate") rfl)
    nTuple := He.free_ok X G (cd.fact 40 (f := .free "tuple") rfl)
    nMin := He.free_ok X G (cd.fact 41 (f := .free "min") rfl)
    nAbs := He.free_ok X G (cd.fact 42 (f := .free "abs") rfl)
    nInt := He.free_ok X G (cd.fact 43 (f := .free "int") rfl)
    nOrd := He.free_ok X G (cd.fact 44 (f := .free "ord") rfl)
    iMOST_TICK := He.int_ok X G (cd.fact 45 (f := .int "MOST_TICK" 999999) rfl)
    iMARK := He.int_ok X G (cd.fact 46 (f := .int "MARK" 240) rfl)
    iSOFT := He.int_ok X G (cd.fact 47 (f := .int "SOFT" 64) rfl)
    iMOST_FREE := He.int_ok X G (cd.fact 48 (f := .int "MOST_FREE" 6) rfl)
    iUSUAL := He.int_ok X G (cd.fact 49 (f := .int "USUAL" 500000) rfl)
    iMOST_BEAT := He.int_ok X G (cd.fact 50 (f := .int "MOST_BEAT" 960) rfl)
    iMOST_PACE := He.int_ok X G (cd.fact 51 (f := .int "MOST_PACE" 16777215) rfl)
    iMOST_PACES := He.int_ok X G (cd.fact 52 (f := .int "MOST_PACES" 20) rfl)
    aStandRinging := He.noat_ok (cd.fact 57 (f := .noat "Stand" "ringing") rfl)
    aStandTurned := He.noat_ok (cd.fact 58 (f := .noat "Stand" "turned") rfl)
    aStandChosen := He.noat_ok (cd.fact 59 (f := .noat "Stand" "chosen") rfl)
    aMapTicks := He.noat_ok (cd.fact 60 (f := .noat "Map" "ticks") rfl)
    aMapKnown := He.noat_ok (cd.fact 61 (f := .noat "Map" "known") rfl)
    oNe := He.eqO_ok e1
    oOb := of_decide_eq_true e2
    oIs := ⟨hcl, He.eqO_ok e3, He.eqO_ok e4, of_decide_eq_true e5, of_decide_eq_true e2, of_decide_eq_true e6⟩ }
end L2.RK
set_option maxHeartbeats 0
namespace L2.RK
open PySem PySem.Spec PyProof.Rows L2
abbrev R : PySem.W.OpenRow := PySem.W.OpenLaw.row PySem.Challenge.rw_reedtapes_k39_whole_what_sounds_alike
abbrev hk : PySem.W.Hook := He.hookX 6 fa fn ts tf exB
def ob (s : PySem.W.SharedT) : He.AlX := He.obsX 6 fa fn ts tf exB (HandSHeadRun.getT s)
theorem ob_eq (s : PySem.W.SharedT) : ob s = hk.obs s.abs := He.obsX_eq (HandSHeadRun.getT_eq s)
theorem runF (w : World) : HandSHeadRun.RunEq R (PySem.W.view R.prog [54]) hk ob 4000 (names.filter (· != "law")) (w.withFollow "special-get-raises" false) := by
  intro os
  kernel_rfl
theorem runT (w : World) : HandSHeadRun.RunEq R (PySem.W.view R.prog [54]) hk ob 4000 (names.filter (· != "law")) (w.withFollow "special-get-raises" true) := by
  intro os
  kernel_rfl
end L2.RK
/-! a, *b = x: a starred last target -/
namespace L2.RK
open PySem PySem.Spec PySem.W PyProof.Rows
section
variable {prog : Program} {w : World} {A : Around} {E : Value → Shared → Prop} {s : Shared}
theorem star_tuple {l : Addr} {items : Array Value} {i : Nat} {Q : List Value → Shared → Prop} (hl : IsTup s.heap l items) (hh : A.handled = none) (hi : i ≤ items.size) (hz : items.size ≤ sizeLine)
    (h : ∀ (h₂ : Heap) (tk : Nat), (∀ b o, s.heap.get? b = some o → h₂.get? b = some o) → Q (items.toList.take i ++ [.ref h₂.objs.size]) { s with heap := h₂.push { cls := .type "list", data := .seq (items.toList.drop i).toArray }, toks := tk }) :
    wpAny (model prog w) A (unpackItems (.ref l) (i + 1) (some i)) Q E s := by
  have hlt : l ≠ s.heap.objs.size := by obtain ⟨o, ho, _⟩ := hl; exact Nat.ne_of_lt (Heap.lt_size ho)
  unfold unpackItems
  refine wpAny_bind ?_
  unfold notIterableAtAll
  refine wpAny_bind (wpAny_specialOf hl.typeIs slot_tuple_iter.lookup ?_)
  refine wpAny_pure ?_
  simp only [Bool.false_eq_true, if_false]
  refine wpAny_bind (wpAny_holding (iter_tuple hl ?_))
  refine wpAny_bind (wpAny_holding (draw_tuple hlt i 0 _ _ ⟨_, Heap.get?_push_size _ rfl, rfl, rfl⟩ (hl.push _) (by omega) fun h₁ hit₁ hs₁ => ?_))
  have hl₁ : IsTup h₁ l items := (hl.push _).extBut hs₁.extBut hlt
  rw [Nat.zero_add] at hit₁
  obtain ⟨oi, hoi, _⟩ := id hit₁
  obtain ⟨ol, hol, _⟩ := id hl₁
  rw [List.drop_zero]
  have hfl : (items.toList.take i).length = i := by rw [List.length_take, Array.length_toList]; omega
  rw [if_neg (show ¬ ((items.toList.take i).length < i) by rw [hfl]; omega)]
  refine wpAny_bind (wpAny_holding (kun_collect (s := { s with heap := h₁ }) (T := "tuple_iterator") (.inr (.inr (.inr rfl))) (Walks.tuple (A := A.in1) hh s.heap.objs.size l hlt items) (fun j u st => st.1.typeIs) (k := i) (by omega) ⟨hit₁, hl₁⟩ (Heap.lt_size hoi) (Heap.lt_size hol) (fun h₂ tk hk => ?_) hz))
  show wpAny _ _ (if (items.toList.drop i).length < i + 1 - 1 - i then _ else _) _ _ _
  rw [if_neg (by omega)]
  show wpAny _ _ (newList ((items.toList.drop i).take ((items.toList.drop i).length - (i + 1 - 1 - i))) >>= fun d => pure (items.toList.take i ++ [d] ++ (items.toList.drop i).drop ((items.toList.drop i).length - (i + 1 - 1 - i)))) _ _ _
  rw [show (items.toList.drop i).length - (i + 1 - 1 - i) = (items.toList.drop i).length by omega, List.take_length, List.drop_length]
  have hsz : (items.toList.drop i).length ≤ sizeLine := by rw [List.length_drop, Array.length_toList]; omega
  refine wpAny_bind (wpAny_newList (s := { s with heap := h₂, toks := tk }) (wpAny_pure ?_) (by simpa using hsz))
  rw [List.append_nil]
  exact h _ _ fun b o e => hk b o (Nat.ne_of_lt (Heap.lt_size e)) (hs₁.extBut b o (Nat.ne_of_lt (Heap.lt_size e)) (Heap.get?_push_of_some _ e))
theorem star_list {l : Addr} {items : Array Value} {i : Nat} {Q : List Value → Shared → Prop} (hl : s.heap.IsList l items) (hh : A.handled = none) (hi : i ≤ items.size) (hz : items.size ≤ sizeLine)
    (h : ∀ (h₂ : Heap) (tk : Nat), (∀ b o, s.heap.get? b = some o → h₂.get? b = some o) → Q (items.toList.take i ++ [.ref h₂.objs.size]) { s with heap := h₂.push { cls := .type "list", data := .seq (items.toList.drop i).toArray }, toks := tk }) :
    wpAny (model prog w) A (unpackItems (.ref l) (i + 1) (some i)) Q E s := by
  have hlt : l ≠ s.heap.objs.size := by obtain ⟨o, ho, _⟩ := hl; exact Nat.ne_of_lt (Heap.lt_size ho)
  unfold unpackItems
  refine wpAny_bind ?_
  unfold notIterableAtAll
  refine wpAny_bind (wpAny_specialOf hl.typeIs slot_list_iter.lookup ?_)
  refine wpAny_pure ?_
  simp only [Bool.false_eq_true, if_false]
  refine wpAny_bind (wpAny_holding (wpAny_pyIter_list hl ?_))
  refine wpAny_bind (wpAny_holding (kun_draw hlt i 0 _ _ ⟨_, Heap.get?_push_size _ rfl, rfl, rfl⟩ (hl.push _) (by omega) fun h₁ hit₁ hs₁ => ?_))
  have hl₁ : h₁.IsList l items := (hl.push _).extBut hs₁.extBut hlt
  rw [Nat.zero_add] at hit₁
  obtain ⟨oi, hoi, _⟩ := id hit₁
  obtain ⟨ol, hol, _⟩ := id hl₁
  rw [List.drop_zero]
  have hfl : (items.toList.take i).length = i := by rw [List.length_take, Array.length_toList]; omega
  rw [if_neg (show ¬ ((items.toList.take i).length < i) by rw [hfl]; omega)]
  refine wpAny_bind (wpAny_holding (kun_collect (s := { s with heap := h₁ }) (T := "list_iterator") (.inr (.inr (.inl rfl))) (Walks.list (A := A.in1) hh s.heap.objs.size l hlt items) (fun j u st => st.1.typeIs) (k := i) (by omega) ⟨hit₁, hl₁⟩ (Heap.lt_size hoi) (Heap.lt_size hol) (fun h₂ tk hk => ?_) hz))
  show wpAny _ _ (if (items.toList.drop i).length < i + 1 - 1 - i then _ else _) _ _ _
  rw [if_neg (by omega)]
  show wpAny _ _ (newList ((items.toList.drop i).take ((items.toList.drop i).length - (i + 1 - 1 - i))) >>= fun d => pure (items.toList.take i ++ [d] ++ (items.toList.drop i).drop ((items.toList.drop i).length - (i + 1 - 1 - i)))) _ _ _
  rw [show (items.toList.drop i).length - (i + 1 - 1 - i) = (items.toList.drop i).length by omega, List.take_length, List.drop_length]
  have hsz : (items.toList.drop i).length ≤ sizeLine := by rw [List.length_drop, Array.length_toList]; omega
  refine wpAny_bind (wpAny_newList (s := { s with heap := h₂, toks := tk }) (wpAny_pure ?_) (by simpa using hsz))
  rw [List.append_nil]
  exact h _ _ fun b o e => hk b o (Nat.ne_of_lt (Heap.lt_size e)) (hs₁.extBut b o (Nat.ne_of_lt (Heap.lt_size e)) (Heap.get?_push_of_some _ e))
end
section
variable {X : Cx}
/-- n targets, then a starred one: the first n items, the rest as a new list -/
def gStar (K : PySem.W.Frag) (n : Nat) (t : TGs) : TG := fun v σ H Q => ∃ a xs, v = .ref a ∧ (SqT K H a xs ∨ SqL K H a xs) ∧ n ≤ xs.length ∧ ∀ D, H D = none → t (xs.take n ++ [.ref D]) σ (upd H D (.lst (xs.drop n))) Q
theorem pgs_star {e : Expr} {p : Pos} {t : TG} (h : PG X e t) (hs : (assignEach [.Starred e p] X.env).map (·.2) = [assign e X.env] := by rfl) : PGs X [.Starred e p] (gCons t gNil) := by
  refine ⟨fun pins s σ H vs us Q I r hw => ?_⟩
  obtain ⟨v, vr, e1, hw⟩ := hw
  subst e1
  cases r with
  | cons r rr =>
    rw [hs]
    refine assignInOrder_cons (thn (h.run pins s σ H _ _ _ I r hw) fun _ s1 ⟨σ1, H1, I1, q1⟩ => ?_)
    obtain ⟨e2, q1⟩ := q1
    subst e2
    cases rr
    exact assignInOrder_nil ⟨σ1, H1, I1, q1⟩
theorem pg_star {es : List Expr} {k : Nat} {t : TGs} {n : Nat} {pos : Pos} (hc : X.calm = true) (h : PGs X es t)
    (hn : (assignEach es X.env).length = n + 1 := by rfl) (hst : (assignEach es X.env).findIdx? (·.1) = some n := by rfl) : PG X (.Tuple es k pos) (gStar X.K n t) := by
  refine ⟨fun pins s σ H v u Q I r hw => ?_⟩
  obtain ⟨a, xs, e1, hq, hl, hw⟩ := hw
  subst e1
  obtain rfl : u = Value.ref a := r
  rw [assign_Tuple]
  refine wpAny_bind (wpAny_standAt ?_)
  unfold unpack
  rw [hn, hst]
  have fin : ∀ (its : List Value), Vals xs its → ∀ (h₂ : Heap) (tk : Nat), (∀ b o, s.heap.get? b = some o → h₂.get? b = some o) → xs.length ≤ sizeLine →
      wpAny (model X.prog X.w) X.A (assignInOrder ((assignEach es X.env).map (·.2)) (its.take n ++ [.ref h₂.objs.size])) (fun _ s' => ∃ σ' H', Inv X pins σ' H' s' ∧ Q σ' H') X.xe { s with heap := h₂.push { cls := .type "list", data := .seq (its.drop n).toArray }, toks := tk } := fun its rv h₂ tk kk hz => by
    have I2 : Inv X pins σ H { s with heap := h₂, toks := tk } := I.kept kk
    have hf : H h₂.objs.size = none := I2.hok.fresh (Nat.le_refl _)
    have I3 : Inv X pins σ (upd H h₂.objs.size (.lst (xs.drop n))) { s with heap := h₂.push { cls := .type "list", data := .seq (its.drop n).toArray }, toks := tk } :=
      I2.laid (t' := tk) (fun b o e => Heap.get?_push_of_some _ e) (Nat.le_refl _) ⟨by rw [List.length_drop]; omega, its.drop n, 0, rv.drop n, Heap.get?_push_size _ rfl⟩
    exact h.run pins _ σ _ _ _ Q I3 ((rv.take n).append (.cons (show L2.RelV (.ref h₂.objs.size) (Value.ref h₂.objs.size) from rfl) .nil)) (hw _ hf)
  rcases hq with hq | hq
  · obtain ⟨its, rv, ht, hz⟩ := I.tuple hq
    have hl2 := rv.length
    exact wpAny_bind (wpAny_holding (star_tuple ht (I.ok.hd hc) (by simp; omega) (by simp; omega) fun h₂ tk kk => fin its rv h₂ tk kk hz))
  · obtain ⟨its, rv, ht, hz⟩ := I.list hq
    have hl2 := rv.length
    exact wpAny_bind (wpAny_holding (star_list ht.isList (I.ok.hd hc) (by simp; omega) (by simp; omega) fun h₂ tk kk => fin its rv h₂ tk kk hz))
end
end L2.RK
/-! x == [], x != []: a list against an empty one -/
namespace L2.RK
open PySem PySem.Spec PySem.W PyProof.Rows
section
variable {X : Cx}
def rEqNil : R2 := fun x y H Q => ∃ a xs b, x = .ref a ∧ SqL X.K H a xs ∧ y = .ref b ∧ SqL X.K H b [] ∧ Q (.bl xs.isEmpty) H
def rNeNil : R2 := fun x y H Q => ∃ a xs b, x = .ref a ∧ SqL X.K H a xs ∧ y = .ref b ∧ SqL X.K H b [] ∧ Q (.bl (!xs.isEmpty)) H
theorem op_eqNil (hu : X.A.units < cLine) : OpR X (compareOp .Eq) (rEqNil (X := X)) := by
  intro pins s σ H x y v u Q I rx ry h
  obtain ⟨a, xs, b, rfl, ha, rfl, hb, q⟩ := h
  obtain rfl : v = Value.ref a := rx
  obtain rfl : u = Value.ref b := ry
  obtain ⟨its, rv, p, hz⟩ := I.list ha
  obtain ⟨its2, rv2, p2, hz2⟩ := I.list hb
  cases rv2
  cases rv with
  | nil => exact SeqAt.eq_listAt p.isList p2.isList rfl hu (fun j h1 => absurd h1 (by simp)) (e := fun _ => true) ⟨.bl _, H, I, rfl, q⟩
  | cons r rr => exact SeqAt.eq_list_lengthsAt p.isList p2.isList (by simp) hu ⟨.bl _, H, I, rfl, q⟩
theorem op_neNil (hu : X.A.units < cLine) : OpR X (compareOp .NotEq) (rNeNil (X := X)) := by
  intro pins s σ H x y v u Q I rx ry h
  obtain ⟨a, xs, b, rfl, ha, rfl, hb, q⟩ := h
  obtain rfl : v = Value.ref a := rx
  obtain rfl : u = Value.ref b := ry
  obtain ⟨its, rv, p, hz⟩ := I.list ha
  obtain ⟨its2, rv2, p2, hz2⟩ := I.list hb
  cases rv2
  cases rv with
  | nil => exact SeqAt.RcNeAt.lists p.isList p2.isList rfl hu (fun j h1 => absurd h1 (by simp)) (e := fun _ => true) _ _ _ _ ⟨.bl _, H, I, rfl, q⟩
  | cons r rr => exact SeqAt.RcNeAt.lists_lengths p.isList p2.isList (by simp) hu _ _ _ _ ⟨.bl _, H, I, rfl, q⟩
end
end L2.RK
/-! x != y by an own __eq__ (no own __ne__), len(x) by an own __len__ -/
namespace L2.RK
open PySem PySem.Spec PySem.W PyProof.Rows
section
variable {prog : Program} {w : World} {A : Around} {E : Value → Shared → Prop} {s : Shared} {K : PySem.W.Frag} {x C f : Addr} {ox : Obj} {od : Option Obj}
theorem isInst_object {M : Model} {h : Heap} (X : K.In h) (I : PySem.W.InstAt h x ox C od) (hm : PySem.W.mroIn K C (.type "object") = some true) : PySem.W.Looks M h (isInstance (.ref x) (.type "object")) true := by
  unfold isInstance
  exact I.type.andThen (PySem.W.looks_mroIn X hm)
theorem ne_own {b : Value} {tb : Value} {Q : Value → Shared → Prop} (hu : A.units + 1 < cLine) (X : K.In s.heap) (I : PySem.W.InstAt s.heap x ox C od) (hb : PySem.W.Looks (model prog w) s.heap (typeOf b) tb) (hn : PySem.W.notFirst K C tb = true)
    (hne : PySem.W.findIn K (.ref C) "__ne__" = some (some (.builtin "object.__ne__"))) (hs : PySem.W.findIn K (.ref C) "__eq__" = some (some (.ref f))) (hf : PySem.W.isFn K (.ref f) = true) (hm : PySem.W.mroIn K C (.type "object") = some true)
    (h : wpAny (model prog w) A.in1 (call (.ref f) [.ref x, b]) (fun v s' => ∃ k, v = .bool k ∧ Q (.bool (!k)) s') E s) : wpAny (model prog w) A (compareOp .NotEq (.ref x) b) Q E s := by
  have body : wpAny (model prog w) A.in1 (Builtin.«object.__ne__» ⟨[.ref x, b], []⟩) (fun r s' => ∃ k, r = .done (.ret (.bool (!k))) ∧ Q (.bool (!k)) s') E s := by
    unfold Builtin.«object.__ne__»
    refine wpAny_bind (wpAny_pure ?_)
    refine wpAny_bind (wpAny_cRoomFor (by show A.units + 1 < cLine; exact hu) ?_)
    refine wpAny_bind (m := callSpecialIfBound? (.ref x) (PySem.Str.ofString "__eq__") [b]) (PySem.W.ifBound_K X I hs hf (wpAny_mono h (fun v s' hv => ?_) fun _ _ e => e))
    obtain ⟨k, rfl, q⟩ := hv
    exact wpAny_bind (wpAny_truthy_bool (wpAny_pure ⟨k, rfl, q⟩))
  have one : wpAny (model prog w) A (tryCompare (.ref x) "__ne__" b) (fun r s' => ∃ k, r = some (.bool (!k)) ∧ Q (.bool (!k)) s') E s := by
    unfold tryCompare
    refine wpAny_bind (m := callSpecialIfBound? (.ref x) (PySem.Str.ofString "__ne__") [b]) ?_
    simp only [callSpecialIfBound?, bindSpecialIfBound?]
    refine wpAny_holding (wpAny_bind (wpAny_bind (wpAny_bind (I.type.here ((PySem.W.looks_findIn X hne).here ?_)))))
    refine wpAny_bind (wpAny_askSetting (wpAny_ite ?_))
    have fin : wpAny (model prog w) A (call (.builtin "object.__ne__") ([.ref x] ++ [b]) >>= fun v => pure (some v)) (fun v s' => wpAny (model prog w) A (match v with
        | some .notImplemented | none => (pure none : Sem (Option Value))
        | some v => pure (some v)) (fun r s' => ∃ k, r = some (.bool (!k)) ∧ Q (.bool (!k)) s') E s') E s := by
      refine wpAny_bind (wpAny_call (codeAny_call_builtin F.cmp_object.ne.plain F.cmpEntry_ne (PySem.W.check_slot F.cmpKind_ne F.cmpSplit_ne (isInst_object X I hm) (F.cmpArgs_ne _ _) (wpAny_mono body (fun r s' hr => ?_) fun _ _ e => e))))
      obtain ⟨k, rfl, q⟩ := hr
      exact wpAny_pure (wpAny_pure ⟨k, rfl, q⟩)
    split
    · exact wpAny_bind (by rw [F.cmp_object.ne.bind]; exact wpAny_pure (wpAny_pure (by exact fin)))
    · exact wpAny_tryCatch (wpAny_bind (by rw [F.cmp_object.ne.bind]; exact wpAny_pure (wpAny_pure (by exact fin))))
  show wpAny (model prog w) A (richCompare .NotEq (.ref x) b) Q E s
  unfold richCompare
  simp only [oneThing_ref]
  refine wpAny_holding (wpAny_bind (wpAny_cRoomFor (by omega) ?_))
  refine wpAny_bind (I.type.here (wpAny_bind (hb.here ?_)))
  split
  · rename_i q
    have e : PySem.W.subIn K tb (.ref C) = some false := by
      rcases Bool.or_eq_true_iff.mp hn with e | e
      · rw [beq_iff_eq.mp e] at q; simp at q
      · exact beq_iff_eq.mp e
    refine wpAny_bind ((PySem.W.looks_subIn X e).here ?_)
    simp only [Bool.false_eq_true, if_false]
    refine wpAny_bind (wpAny_mono one (fun r s' z => ?_) fun _ _ e => e)
    obtain ⟨v, rfl, hq⟩ := z
    exact wpAny_pure hq
  · refine wpAny_bind (wpAny_pure ?_)
    simp only [Bool.false_eq_true, if_false]
    refine wpAny_bind (wpAny_mono one (fun r s' z => ?_) fun _ _ e => e)
    obtain ⟨v, rfl, hq⟩ := z
    exact wpAny_pure hq
end
section
variable {X : Cx} {CX : CXT} {k n : Nat} {C f : Addr} {fd : FuncData} {ps : List Str} {sp : Sp} {E : XK}
/-- a call of a def of the text from within a built-in (one unit deeper) -/
theorem run_in1 {pins : List (Addr × Obj)} {σ : St} {H : Hp} {s : Shared} {Q : VK} {us : List Value} {vs : List V} (F : FnOk X.prog X.w X.K X.mg X.base CX n f fd ps sp) (hr : Room (n + 1) X.A) (hb : Binds X.K fd ps []) (hx : Passes CX X E)
    (I : Inv X pins σ H s) (r : Vals vs us) (h : sp vs H Q E) : wpAny (model X.prog X.w) X.A.in1 (call (.ref f) us) (EP X pins σ Q) X.xe s := by
  have hl : us.length = ps.length := by rw [← r.length]; exact F.len _ _ _ _ h
  have bb := hb s us I.kIn (by simpa using hl)
  rw [List.append_nil] at bb
  refine wpAny_call (codeAny_mono (F.run X.A.in1 X.stack s H ⟨us, []⟩ us vs Q E hr.in1 I.env0.in1 bb r h) fun r s' hq => ?_)
  cases r with
  | error e => exact hx pins σ H s e s' I hq
  | ok fl =>
    cases fl with
    | ret u => exact I.after hq
    | next => exact False.elim hq
    | brk => exact False.elim hq
    | cont => exact False.elim hq
structure OwnNe (K : PySem.W.Frag) (C f : Addr) : Prop where
  ne : PySem.W.findIn K (.ref C) "__ne__" = some (some (.builtin "object.__ne__"))
  eq : PySem.W.findIn K (.ref C) "__eq__" = some (some (.ref f))
  fn : PySem.W.isFn K (.ref f) = true
  ob : PySem.W.mroIn K C (.type "object") = some true
def rNeIns (C : Addr) (sp : Sp) (E : XK) : R2 := fun x y H Q => ∃ a b dx dy fs gs, x = .ref a ∧ y = .ref b ∧ H a = some (.ins C dx fs) ∧ H b = some (.ins C dy gs) ∧ sp [.ref a, .ref b] H (fun v H' => ∃ k, v = .bl k ∧ Q (.bl (!k)) H') E
theorem op_neIns (F : FnOk X.prog X.w X.K X.mg X.base CX n f fd ps sp) (hr : Room (n + 1) X.A) (hb : Binds X.K fd ps []) (hx : Passes CX X E) (O : OwnNe X.K C f) : OpR X (compareOp .NotEq) (rNeIns C sp E) := by
  intro pins s σ H x y v u Q I rx ry h
  obtain ⟨a, b, dx, dy, fs, gs, rfl, rfl, ha, hb', q⟩ := h
  obtain rfl : v = Value.ref a := rx
  obtain rfl : u = Value.ref b := ry
  obtain ⟨mA, J, _⟩ := ins_get I.hok ha
  obtain ⟨mB, J', _⟩ := ins_get I.hok hb'
  obtain ⟨od, J, _⟩ := J.look
  obtain ⟨od', J', _⟩ := J'.look
  have hu : X.A.units + 1 < cLine := hu_of hr
  refine ne_own hu I.kIn J J'.type (by simp [PySem.W.notFirst]) O.ne O.eq O.fn O.ob (thn (run_in1 F hr hb hx I (us := [.ref a, .ref b]) (.cons (show RelV (.ref a) (Value.ref a) from rfl) (.cons (show RelV (.ref b) (Value.ref b) from rfl) .nil)) q) fun z s1 hz => ?_)
  obtain ⟨zv, H1, I1, rz, k, rfl, q1⟩ := hz
  obtain rfl : z = Value.bool k := rz
  exact ⟨k, rfl, .bl (!k), H1, I1, rfl, q1⟩
/-- len(x), x an instance with an own __len__ -/
def rLenIns (C : Addr) (sp : Sp) (E : XK) : List V → Hp → VK → Prop := fun xs H Q => ∃ a dx fs, xs = [.ref a] ∧ H a = some (.ins C dx fs) ∧ sp [.ref a] H (fun v H' => ∃ i : Int, v = .int i ∧ 0 ≤ i ∧ i < 2 ^ 63 ∧ Q (.int i) H') E
theorem call_lenIns (F : FnOk X.prog X.w X.K X.mg X.base CX n f fd ps sp) (hr : Room (n + 1) X.A) (hb : Binds X.K fd ps []) (hx : Passes CX X E)
    (hs : PySem.W.findIn X.K (.ref C) "__len__" = some (some (.ref f))) (hf : PySem.W.isFn X.K (.ref f) = true) : CallR X (.builtin "len") (rLenIns C sp E) := by
  intro pins s σ H xs us Q I r h
  obtain ⟨a, dx, fs, rfl, ha, q⟩ := h
  obtain ⟨u, rfl, rx⟩ := vals1 r
  obtain rfl : u = Value.ref a := rx
  obtain ⟨mA, J, _⟩ := ins_get I.hok ha
  obtain ⟨od, J, _⟩ := J.look
  obtain ⟨m, hF⟩ := I.fr
  refine PySem.W.len_K hF I.ok.mod.kin J hs hf (thn (run_in1 F hr hb hx I (us := [.ref a]) (.cons (show RelV (.ref a) (Value.ref a) from rfl) .nil) q) fun z s1 hz => ?_)
  obtain ⟨zv, H1, I1, rz, i, rfl, h0, h1, q1⟩ := hz
  obtain ⟨t, rfl⟩ : ∃ t, z = Value.int i t := rz
  exact ⟨⟨h0, h1⟩, .int i, H1, I1.tok _, ⟨_, rfl⟩, q1⟩
end
end L2.RK
/-! sorted(d) of a dict keyed by pairs of ints, sorted(d.items()) of a dict from ints to ints -/
namespace L2.RK
open PySem PySem.Spec PySem.W PyProof.Rows
/-- the rank of a pair -/
def c2 (B : Int) (p : Int × Int) : Int := p.1 * B + p.2
/-- the pair of ints that stands at b -/
def pairAt (H : Hp) (b : Addr) : Int × Int := match H b with
  | some (.tup [.int i, .int j]) => (i, j)
  | _ => (0, 0)
theorem pairAt_of {H : Hp} {b : Addr} {i j : Int} (h : H b = some (.tup [.int i, .int j])) : pairAt H b = (i, j) := by
  unfold pairAt
  rw [h]
def InB (B : Int) (p : Int × Int) : Prop := (0 ≤ p.1 ∧ p.1 < B) ∧ (0 ≤ p.2 ∧ p.2 < B)
/-- at b a pair within the bound -/
def PairB (H : Hp) (B : Int) (b : Addr) : Prop := ∃ i j, H b = some (.tup [.int i, .int j]) ∧ InB B (i, j)
theorem PairB.same {H H' : Hp} {B : Int} {b : Addr} (e : ∀ b o, H b = some o → H' b = some o) (p : PairB H B b) : PairB H' B b := by
  obtain ⟨i, j, h, r⟩ := p
  exact ⟨i, j, e _ _ h, r⟩
theorem code_two (B i j : Int) : TS.code B [i, j] = c2 B (i, j) := by
  simp [TS.code, c2, Int.pow_succ]
section
variable {X : Cx} {pins : List (Addr × Obj)} {σ : St} {H : Hp} {s : Shared}
theorem refs_vals {bs : List Addr} {us : List Value} (r : Vals (bs.map V.ref) us) : us = bs.map Value.ref := by
  induction bs generalizing us with
  | nil => cases r; rfl
  | cons b bs ih =>
    cases r with
    | cons h t =>
      have h' : _ = Value.ref b := h
      rw [h', ih t]
      rfl
/-- a list of such pairs, sorted in place -/
theorem sort_pairs {A : Around} {E : Value → Shared → Prop} {Q : Value → Shared → Prop} {l : Addr} {bs : List Addr} {B : Int} (I : Inv X pins σ H s) (hl : H l = some (.lst (bs.map V.ref))) (h64 : bs.length < 64) (hx : ∀ b ∈ bs, PairB H B b)
    (q : ∀ (ys : List Addr), ys.Perm bs → ys.Pairwise (fun a b => c2 B (pairAt H a) ≤ c2 B (pairAt H b)) → ∀ s', Inv X pins σ (upd H l (.lst (ys.map V.ref))) s' → Q .none s') : wpAny (model X.prog X.w) A (call (.builtin "list.sort") [.ref l]) Q E s := by
  obtain ⟨hz, its, n, rv, ho⟩ := (show ObjOk X.prog X.w H s.heap l (.lst (bs.map V.ref)) from I.hok l _ hl)
  have e1 := refs_vals rv
  subst e1
  have tup : ∀ b ∈ bs, TS.TupInts s.heap (.ref b) [(pairAt H b).1, (pairAt H b).2] := fun b hb => by
    obtain ⟨i, j, hp, _⟩ := hx b hb
    rw [pairAt_of hp]
    exact tupI_raw I (ns := [i, j]) (SqT.of hp)
  refine TS.call_sort_tups (d := 2) (B := B) ho (by simpa using h64) (by decide) (fun v hv => ?_) fun out h1 h2 => ?_
  · obtain ⟨b, hb, rfl⟩ := List.mem_map.mp hv
    refine ⟨_, tup b hb, rfl, fun m hm => ?_⟩
    obtain ⟨i, j, hp, r⟩ := hx b hb
    rw [pairAt_of hp] at hm
    simp only [List.mem_cons, List.not_mem_nil, or_false] at hm
    rcases hm with rfl | rfl
    · exact r.1
    · exact r.2
  · obtain ⟨ys, hy, ey⟩ := perm_lift Value.ref h1 bs rfl
    have hyl : (ys.map V.ref).length ≤ sizeLine := by
      rw [List.length_map, hy.length_eq, ← List.length_map (as := bs) V.ref]
      exact hz
    obtain ⟨ep, he⟩ := PyProof.Rows.sortedHeap_at (vs := bs.map Value.ref) (out := out) ho
    refine q ys hy ?_ _ (I.write (t' := s.toks) (x := l) (e := l) (by rw [hl]; exact True.intro) (.inl rfl) (fun b u hb e => (PyProof.Rows.sortedHeap_old hb (Heap.lt_size e)).trans e) ⟨_, he⟩ ⟨hyl, out.toList, ep, ?_, by rw [Array.toArray_toList]; exact he⟩)
    · rw [← ey, List.pairwise_map] at h2
      refine List.Pairwise.imp_of_mem (fun {a b} ha hb h => ?_) h2
      rw [(tup a (hy.mem_iff.mp ha)).ints, (tup b (hy.mem_iff.mp hb)).ints, code_two, code_two] at h
      exact h
    · rw [← ey]
      exact vals_refs ys
/-- .. of a dict with tuple keys -/
def rSortDT (B : Int) : List V → Hp → VK → Prop := fun xs H Q => ∃ (d : Addr) (kvs : List (List Key × V)), xs = [.ref d] ∧ Rd H d (.dT kvs) ∧ kvs.length < 64 ∧ (∀ p ∈ kvs, ∃ i j, p.1 = [Sum.inl i, Sum.inl j] ∧ InB B (i, j)) ∧
  ∀ (bs ys : List Addr) (p : Addr), IsKeys H kvs bs → ys.Perm bs → ys.Pairwise (fun a b => c2 B (pairAt H a) ≤ c2 B (pairAt H b)) → H p = none → Q (.ref p) (upd H p (.lst (ys.map V.ref)))
theorem isKeys_mem {H : Hp} {kvs : List (List Key × V)} {bs : List Addr} (h : IsKeys H kvs bs) {b : Addr} (hb : b ∈ bs) : ∃ p ∈ kvs, H b = some (.tup (p.1.map kV)) := by
  induction h with
  | nil => cases hb
  | cons r t ih =>
    rcases List.mem_cons.mp hb with rfl | hb
    · exact ⟨_, List.mem_cons_self, r⟩
    · obtain ⟨p, hp, e⟩ := ih hb
      exact ⟨p, List.mem_cons_of_mem _ hp, e⟩
theorem call_sortedDT {B : Int} (hc : X.calm = true) : CallR X (.builtin "sorted") (rSortDT B) := by
  intro pins s σ H xs us Q I r h
  obtain ⟨d, kvs, rfl, hd, h64, hk, q⟩ := h
  obtain ⟨u, rfl, rx⟩ := vals1 r
  obtain rfl : u = Value.ref d := rx
  obtain ⟨z, hs, ks, pr, o, es, ep, ho, hx, hdt, he, hn⟩ := (show ObjOk X.prog X.w H s.heap d (.dT kvs) from hd.ok I.hok)
  have l1 : es.size = ks.length := size_of_entries he
  have l2 : kvs.length = ks.length := Paired.length pr
  refine Calls.call_function_entry PyProof.Rows.kind_sorted PyProof.Rows.plain_sorted PyProof.Rows.entry_sorted (PyProof.Rows.args_sorted1 _) ?_
  unfold Builtin.«sorted»
  refine wpAny_bind (m := checkCount "sorted" 1 1 _) (wpAny_pure ?_)
  refine wpAny_bind (PySem.W.kdu_collect (A := X.A.in1) (kdl_raw hs hx hdt) (I.ok.hd hc) ho (by omega) fun h' tk acc kp it => ?_)
  have ea : acc.toList = (ks.map fun x => x.2.1).map Value.ref := by
    have hl : acc.toList.length = ks.length := by rw [Array.length_toList, it.1]; exact l1
    refine List.ext_getElem? fun j => ?_
    rw [List.map_map, List.getElem?_map]
    rcases Nat.lt_or_ge j ks.length with hj | hj
    · obtain ⟨en, hen, hv⟩ := it.2 j (acc.toList[j]'(by omega)) (by rw [← Array.getElem?_toList]; exact List.getElem?_eq_getElem _)
      have qe := entry_at he j
      rw [hen, List.getElem?_eq_getElem hj] at qe
      have e2 : en = entryOfKey (tupleKind (mixKind X.prog X.w)) ks[j] := Option.some.inj qe
      rw [List.getElem?_eq_getElem (by omega), List.getElem?_eq_getElem hj, hv, e2]
      rfl
    · rw [List.getElem?_eq_none (by omega), List.getElem?_eq_none hj]
      rfl
  rw [ea]
  have I1 : Inv X pins σ H { s with heap := h', toks := tk } := I.kept kp
  have hbl : (ks.map fun x => x.2.1).length < 64 := by rw [List.length_map]; omega
  refine wpAny_bind (wpAny_newList ?_ (by rw [List.length_map, List.length_map, sizeLine_eq]; omega))
  have hf : H h'.objs.size = none := I1.hok.fresh (Nat.le_refl _)
  have I2 : Inv X pins σ (upd H h'.objs.size (.lst ((ks.map fun x => x.2.1).map V.ref))) { s with heap := h'.push { cls := .type "list", data := .seq ((ks.map fun x => x.2.1).map Value.ref).toArray }, toks := tk } :=
    I1.laid (t' := tk) (fun b o e => Heap.get?_push_of_some _ e) (Nat.le_refl _) ⟨by rw [List.length_map, sizeLine_eq]; omega, _, 0, vals_refs _, Heap.get?_push_size _ rfl⟩
  have ik : IsKeys H kvs (ks.map fun x => x.2.1) := isKeys_of pr
  have hpb : ∀ b ∈ (ks.map fun x => x.2.1), PairB H B b := fun b hb => by
    obtain ⟨p, hp, e⟩ := isKeys_mem ik hb
    obtain ⟨i, j, ep, r⟩ := hk p hp
    exact ⟨i, j, by rw [e, ep]; rfl, r⟩
  have sm : ∀ b o, H b = some o → (upd H h'.objs.size (.lst ((ks.map fun x => x.2.1).map V.ref))) b = some o := fun b o e => by rw [upd_ne (ne_of_none e hf)]; exact e
  refine wpAny_bind (wpAny_holding (sort_pairs (A := X.A.in1) I2 upd_same hbl (fun b hb => (hpb b hb).same sm) fun ys hy hp s' I3 => ?_))
  have same : ∀ b ∈ ys, pairAt (upd H h'.objs.size (.lst ((ks.map fun x => x.2.1).map V.ref))) b = pairAt H b := fun b hb => by
    obtain ⟨i, j, e, _⟩ := hpb b (hy.mem_iff.mp hb)
    rw [pairAt_of e, pairAt_of (sm _ _ e)]
  rw [upd_upd] at I3
  refine wpAny_pure ⟨_, rfl, .ref _, _, I3, rfl, q _ ys _ ik hy (List.Pairwise.imp_of_mem (fun {a b} ha hb h => ?_) hp) hf⟩
  rw [same a ha, same b hb] at h
  exact h
/-! ### d.items() of a dict from ints to ints, sorted -/
def rItemsK : V → List V → Hp → VK → Prop := fun x xs H Q => ∃ (a : Addr) (kvs : List (Key × V)), x = .ref a ∧ xs = [] ∧ H a = some (.dK kvs) ∧ ∀ p, H p = none → Q (.ref p) (upd H p (DX.itemsO p a))
theorem mt_itemsK : MtR X "dict.items" rItemsK := by
  intro pins s σ H x xs v us Q I rx rxs h
  obtain ⟨a, kvs, rfl, rfl, ha, q⟩ := h
  obtain rfl : v = Value.ref a := rx
  cases rxs
  obtain ⟨z, hd, vs, rel, dd⟩ := dk_of I.hok ha
  obtain ⟨ep, es, o, ho, hx, hdat, _⟩ : ∃ ep es o, s.heap.get? a = some o ∧ o.ExactDict ∧ o.data = .dict es ep ∧ True := by
    obtain ⟨o, es, ep, h1, h2, h3, _⟩ := dd
    exact ⟨ep, es, o, h1, h2, h3, trivial⟩
  refine DT.callItems (es := es) (ep := ep) hd ⟨o, ho, hx, hdat⟩ ?_
  have hf : H s.heap.objs.size = none := I.hok.fresh (Nat.le_refl _)
  exact ⟨.ref _, _, I.laid (t' := s.toks) (fun b o e => Heap.get?_push_of_some _ e) (Nat.le_refl _) (DX.itemsO_ok (Heap.get?_push_size _ rfl)), rfl, q _ hf⟩
def ntE (q : Int × Int) : Key × V := (Sum.inl q.1, V.int q.2)
theorem ent_at {P : Program} {w : World} : ∀ {ns : List (Int × Int)} {l : List DictEntry} {vs : List (Key × Value)}, Pairs (mixKind P w) l vs → KV (ns.map ntE) vs → ∀ (j : Nat) (e : DictEntry), l[j]? = some e → ∃ q t t', ns[j]? = some q ∧ e.key = .int q.1 t ∧ e.val = .int q.2 t'
  | [], _, _, .nil, _, j, e, h => by simp at h
  | [], _, _, .cons .., r, _, _, _ => by cases r
  | n :: ns, _, _, .nil, r, _, _, _ => by cases r
  | n :: ns, _, _, .cons (e := en) (kv := kv) h1 h2 t, r, j, e, h => by
    cases r with
    | cons r rr =>
      cases j with
      | zero =>
        have : en = e := by simpa using h
        subst this
        obtain ⟨r1, t', r2⟩ := r
        rw [← r1] at h1
        obtain ⟨t, e1⟩ := Value.isInt_shape (k := n.1) (v := en.key) h1
        exact ⟨n, t, t', rfl, e1, h2.trans r2⟩
      | succ j =>
        obtain ⟨q, a, b, h3, h4⟩ := ent_at t rr j e (by simpa using h)
        exact ⟨q, a, b, by simpa using h3, h4⟩
def rSortItems (B : Int) : List V → Hp → VK → Prop := fun vs H Q => ∃ (p a : Addr) (ns : List (Int × Int)), vs = [.ref p] ∧ H p = some (DX.itemsO p a) ∧ H a = some (.dK (ns.map ntE)) ∧ ns.length < 64 ∧ (∀ q ∈ ns, InB B q) ∧
  ∀ (H' : Hp) (l : Addr) (ys : List Addr), (∀ b o, H b = some o → H' b = some o) → H l = none → H' l = some (.lst (ys.map V.ref)) → (ys.map (pairAt H')).Perm ns → ys.Pairwise (fun a b => c2 B (pairAt H' a) ≤ c2 B (pairAt H' b)) → (∀ y ∈ ys, PairB H' B y) → Q (.ref l) H'
theorem call_sortedItems {B : Int} (hc : X.calm = true) : CallR X (.builtin "sorted") (rSortItems B) := by
  intro pins s σ H xs us Q I r h
  obtain ⟨p, a, ns, rfl, hp, ha, h64, hb, q⟩ := h
  obtain ⟨u, rfl, rx⟩ := vals1 r
  obtain rfl : u = Value.ref p := rx
  have view : s.heap.IsItemsView p a := (show ObjOk X.prog X.w H s.heap p (DX.itemsO p a) from I.hok p _ hp).1
  obtain ⟨z, hd, vs, rel, dd⟩ := dk_of I.hok ha
  obtain ⟨o, es, ep, ho, hx, hdat, hke, hvs, hnd⟩ := id dd
  have hh : X.A.handled = none := I.ok.hd hc
  have lv : es.size = ns.length := by
    have e1 := Paired.length rel
    rw [List.length_map] at e1
    rw [e1, ← Array.length_toList]
    exact hvs.length
  refine DT.sortedI (es := es) (ep := ep) hh view ⟨o, ho, hx, hdat⟩ (by rw [sizeLine_eq]; omega) fun h' tk as hk hlt hl hG => ?_
  have lak : as.length = ns.length := by omega
  have nd : as.Nodup := List.Pairwise.imp (fun h => Nat.ne_of_lt h) hG.rise
  have pr : ∀ (j : Nat) (b : Addr), as[j]? = some b → ∃ q t t', ns[j]? = some q ∧ h'.get? b = some { cls := .type "tuple", data := .seq #[.int q.1 t, .int q.2 t'] } := fun j b hj => by
    obtain ⟨en, he, hg⟩ := hG.pairs j b hj
    obtain ⟨q, t, t', h1, h2, h3⟩ := ent_at hvs rel j en (by rw [Array.getElem?_toList]; exact he)
    rw [h2, h3] at hg
    exact ⟨q, t, t', h1, hg⟩
  have I1 : Inv X pins σ H { s with heap := h', toks := tk } := I.kept hk
  have hf : H h'.objs.size = none := I1.hok.fresh (Nat.le_refl _)
  have ne0 : ∀ b o, h'.get? b = some o → b ≠ h'.objs.size := fun b o e => Nat.ne_of_lt (Heap.lt_size e)
  have I2 : Inv X pins σ (upd H h'.objs.size (.lst (as.map V.ref))) { s with heap := h'.push { cls := .type "list", data := .seq (as.map Value.ref).toArray }, toks := tk } :=
    I1.laid (t' := tk) (fun b o e => Heap.get?_push_of_some _ e) (Nat.le_refl _) ⟨by rw [List.length_map, sizeLine_eq]; omega, _, 0, vals_refs _, Heap.get?_push_size _ rfl⟩
  obtain ⟨H2, I3, g, qt⟩ := DX.takeT (P := fun b vs => ∃ (j : Nat) (q : Int × Int), as[j]? = some b ∧ ns[j]? = some q ∧ vs = [.int q.1, .int q.2]) I as _ I2 nd fun b hb' => by
    obtain ⟨j, hj⟩ := List.mem_iff_getElem?.mp hb'
    obtain ⟨q, t, t', hq, hg⟩ := pr j b hj
    have hbl : s.heap.objs.size ≤ b := Nat.le_of_lt (hG.above b hb')
    refine ⟨hbl, ?_, [.int q.1, .int q.2], ⟨j, q, hj, hq, rfl⟩, fun H3 => ⟨by rw [sizeLine_eq]; show 2 ≤ 16777216; omega, [.int q.1 t, .int q.2 t'], .cons ⟨_, rfl⟩ (.cons ⟨_, rfl⟩ .nil), ⟨_, Heap.get?_push_of_some _ hg, rfl, 0, rfl⟩⟩⟩
    rw [upd_ne (ne0 _ _ hg)]
    exact I.hok.fresh hbl
  have hl2 : H2 h'.objs.size = some (.lst (as.map V.ref)) := g _ _ upd_same
  have sm : ∀ b o, H b = some o → H2 b = some o := fun b o e => g b o (by rw [upd_ne (ne_of_none e hf)]; exact e)
  have at2 : ∀ (j : Nat) (b : Addr), as[j]? = some b → ∃ q, ns[j]? = some q ∧ H2 b = some (.tup [.int q.1, .int q.2]) := fun j b hj => by
    obtain ⟨vs', ⟨i, q, i1, i2, ev⟩, hH⟩ := qt b (List.mem_of_getElem? hj)
    have eij : i = j := (List.getElem?_inj (List.getElem?_eq_some_iff.mp i1).1 nd).mp (i1.trans hj.symm)
    subst eij
    rw [ev] at hH
    exact ⟨q, i2, hH⟩
  have pb : ∀ b ∈ as, PairB H2 B b := fun b hb' => by
    obtain ⟨j, hj⟩ := List.mem_iff_getElem?.mp hb'
    obtain ⟨q, hq, hH⟩ := at2 j b hj
    exact ⟨_, _, hH, hb q (List.mem_of_getElem? hq)⟩
  have emap : as.map (pairAt H2) = ns := by
    refine List.ext_getElem? fun j => ?_
    rw [List.getElem?_map]
    rcases Nat.lt_or_ge j as.length with hj | hj
    · obtain ⟨q, hq, hH⟩ := at2 j _ (List.getElem?_eq_getElem hj)
      rw [List.getElem?_eq_getElem hj, hq]
      exact congrArg some (pairAt_of hH)
    · rw [List.getElem?_eq_none hj, List.getElem?_eq_none (by omega)]
      rfl
  refine sort_pairs (A := X.A.in1) I3 hl2 (by omega) pb fun ys hy hpw s' I4 => ?_
  have nel : ∀ b ∈ as, b ≠ h'.objs.size := fun b hb' e => by
    obtain ⟨i, j, hH, _⟩ := pb b hb'
    rw [e, hl2] at hH
    cases hH
  have sm2 : ∀ b o, H b = some o → (upd H2 h'.objs.size (.lst (ys.map V.ref))) b = some o := fun b o e => by rw [upd_ne (ne_of_none e hf)]; exact sm b o e
  have same : ∀ b ∈ as, (upd H2 h'.objs.size (.lst (ys.map V.ref))) b = H2 b := fun b hb' => upd_ne (nel b hb')
  have pAt : ∀ b ∈ as, pairAt (upd H2 h'.objs.size (.lst (ys.map V.ref))) b = pairAt H2 b := fun b hb' => by unfold pairAt; rw [same b hb']
  refine ⟨.ref _, _, I4, rfl, q _ _ ys sm2 hf upd_same ?_ (List.Pairwise.imp_of_mem (fun {a b} ha' hb' h => ?_) hpw) fun y hy' => ?_⟩
  · rw [List.map_congr_left (g := pairAt H2) fun b hb' => pAt b (hy.mem_iff.mp hb'), ← emap]
    exact hy.map _
  · rw [pAt a (hy.mem_iff.mp ha'), pAt b (hy.mem_iff.mp hb')]
    exact h
  · obtain ⟨i, j, hH, r⟩ := pb y (hy.mem_iff.mp hy')
    exact ⟨i, j, by rw [same y (hy.mem_iff.mp hy')]; exact hH, r⟩
end
end L2.RK
/-! dict(d) of a dict keyed by pairs, d.setdefault of such a dict, text * int -/
namespace L2.RK
open PySem PySem.Spec PySem.W PyProof.Rows
/-! ### the hashes of pairs from [0, 16) x [0, 128) are all apart -/
def pairHash (c k : Nat) : Int := reduceHash (Builtin.Tuple.tupleHashOf [hashInt (c : Int), hashInt (k : Int)])
def resOf (n : Nat) : Nat := (pairHash (n / 128) (n % 128) % 30012).toNat
/-- marks: bit r of acc tells that r was met -/
def apartB : Nat → Nat → Nat → Bool
  | 0, _, _ => true
  | m + 1, n, acc => !acc.testBit (resOf n) && apartB m (n + 1) (acc ||| 1 <<< resOf n)
theorem apartB_out : ∀ (m n acc : Nat), apartB m n acc = true → ∀ i, n ≤ i → i < n + m → acc.testBit (resOf i) = false
  | 0, n, acc, _, i, h1, h2 => by omega
  | m + 1, n, acc, h, i, h1, h2 => by
    simp only [apartB, Bool.and_eq_true, Bool.not_eq_true'] at h
    rcases Nat.lt_or_ge n i with q | q
    · have z := apartB_out m (n + 1) _ h.2 i q (by omega)
      rw [Nat.testBit_or, Bool.or_eq_false_iff] at z
      exact z.1
    · obtain rfl : i = n := by omega
      exact h.1
theorem apartB_ne : ∀ (m n acc : Nat), apartB m n acc = true → ∀ i j, n ≤ i → i < j → j < n + m → resOf i ≠ resOf j
  | 0, n, acc, _, i, j, h1, h2, h3 => by omega
  | m + 1, n, acc, h, i, j, h1, h2, h3 => by
    simp only [apartB, Bool.and_eq_true, Bool.not_eq_true'] at h
    rcases Nat.lt_or_ge n i with q | q
    · exact apartB_ne m (n + 1) _ h.2 i j q h2 (by omega)
    · obtain rfl : i = n := by omega
      intro e
      have z := apartB_out m (i + 1) _ h.2 j h2 (by omega)
      rw [Nat.testBit_or, Bool.or_eq_false_iff, ← e, Nat.one_shiftLeft, Nat.testBit_two_pow_self] at z
      exact Bool.noConfusion z.2
theorem apart_all : apartB 2048 0 0 = true := by decide +kernel
theorem pairHash_inj {c k c' k' : Nat} (h1 : c < 16) (h2 : k < 128) (h3 : c' < 16) (h4 : k' < 128) (e : pairHash c k = pairHash c' k') : c = c' ∧ k = k' := by
  have r : resOf (c * 128 + k) = resOf (c' * 128 + k') := by
    unfold resOf
    rw [show (c * 128 + k) / 128 = c by omega, show (c * 128 + k) % 128 = k by omega, show (c' * 128 + k') / 128 = c' by omega, show (c' * 128 + k') % 128 = k' by omega, e]
  rcases Nat.lt_trichotomy (c * 128 + k) (c' * 128 + k') with q | q | q
  · exact absurd r (apartB_ne 2048 0 0 apart_all _ _ (Nat.zero_le _) q (by omega))
  · omega
  · exact absurd r.symm (apartB_ne 2048 0 0 apart_all _ _ (Nat.zero_le _) q (by omega))
/-- a key of such a dict -/
def CK (p : List Key) : Prop := ∃ c k : Nat, p = [Sum.inl (c : Int), Sum.inl (k : Int)] ∧ c < 16 ∧ k < 128
theorem hash_ck {P : Program} {w : World} {p q : List Key} (hp : CK p) (hq : CK q) (e : (tupleKind (mixKind P w)).hash p = (tupleKind (mixKind P w)).hash q) : p = q := by
  obtain ⟨c, k, rfl, h1, h2⟩ := hp
  obtain ⟨c', k', rfl, h3, h4⟩ := hq
  obtain ⟨rfl, rfl⟩ := pairHash_inj h1 h2 h3 h4 e
  rfl
theorem nodup_map {α β : Type} {f : α → β} : ∀ {l : List α}, l.Nodup → (∀ a ∈ l, ∀ b ∈ l, f a = f b → a = b) → (l.map f).Nodup
  | [], _, _ => List.nodup_nil
  | a :: l, h, hi => by
    rw [List.nodup_cons] at h
    rw [List.map_cons, List.nodup_cons]
    refine ⟨fun hm => ?_, nodup_map h.2 fun x hx y hy => hi x (List.mem_cons_of_mem _ hx) y (List.mem_cons_of_mem _ hy)⟩
    obtain ⟨b, hb, e⟩ := List.mem_map.mp hm
    exact h.1 (hi b (List.mem_cons_of_mem _ hb) a List.mem_cons_self e ▸ hb)
section
variable {X : Cx}
theorem kt_keys {H : Hp} {kvs : List (List Key × V)} {xs : List (List Key × Addr × Value)} (r : KT H kvs xs) : xs.map (·.1) = kvs.map (·.1) := by
  induction r with
  | nil => rfl
  | cons h t ih => rw [List.map_cons, List.map_cons, ih, h.1]
def rDictT : List V → Hp → VK → Prop := fun xs H Q => ∃ (a : Addr) (kvs : List (List Key × V)), xs = [.ref a] ∧ Rd H a (.dT kvs) ∧ (∀ p ∈ kvs, CK p.1) ∧ ∀ p, H p = none → Q (.ref p) (upd H p (.dT kvs))
theorem call_dictDT (hu : X.A.units + 2 < cLine) : CallR X (.type "dict") rDictT := by
  intro pins s σ H xs us Q I r q
  obtain ⟨a, kvs, rfl, hd, hk, q⟩ := q
  obtain ⟨u, rfl, rx⟩ := vals1 r
  obtain rfl : u = Value.ref a := rx
  obtain ⟨z, lo, more, rel, dd⟩ := dt_rd I.hok hd
  have hm : (s.heap.objs.size == sysModules) = false := beq_eq_false_iff_ne.mpr (Nat.ne_of_gt I.big)
  have hz : more.length ≤ sizeLine := by rw [← Paired.length rel]; exact z
  have hnd : (more.map (·.1)).Nodup := let ⟨_, _, _, _, _, _, _, _, hn⟩ := dd; hn
  have hck : ∀ x ∈ more, CK x.1 := fun x hx => by
    have m : x.1 ∈ kvs.map (·.1) := by rw [← kt_keys rel]; exact List.mem_map_of_mem hx
    obtain ⟨p, hp, e⟩ := List.mem_map.mp m
    rw [← e]
    exact hk p hp
  have hap : (more.map fun x => (tupleKind (mixKind X.prog X.w)).hash x.1).Nodup := by
    have e : (more.map fun x => (tupleKind (mixKind X.prog X.w)).hash x.1) = (more.map (·.1)).map (tupleKind (mixKind X.prog X.w)).hash := by rw [List.map_map]; rfl
    rw [e]
    refine nodup_map hnd fun p hp q hq => ?_
    obtain ⟨x, hx, rfl⟩ := List.mem_map.mp hp
    obtain ⟨y, hy, rfl⟩ := List.mem_map.mp hq
    exact hash_ck (hck x hx) (hck y hy)
  refine callType_codes (Q₁ := fun obj s₁ => obj = .ref s.heap.objs.size ∧ s₁ = { s with heap := s.heap.push { cls := .type "dict", data := .dict #[] } }) PySem.F.kt_called_dict (PySem.F.kt_typeCall_dict_1 _) PySem.F.entry_dict_init (kt_code_dict_new _ ⟨rfl, rfl⟩) ?_
  rintro obj s₁ ⟨rfl, rfl⟩
  have hnew : (s.heap.push { cls := .type "dict", data := .dict #[] }).DictOfH (tupleKind (mixKind X.prog X.w)) s.heap.objs.size [] := Heap.DictOfH.new s.heap
  have hstay : ∀ b o, s.heap.get? b = some o → (s.heap.push { cls := .type "dict", data := .dict #[] }).get? b = some o := fun b o e => Heap.get?_push_of_some _ e
  have I1 : Inv X pins σ H { s with heap := s.heap.push { cls := .type "dict", data := .dict #[] } } := I.kept (t' := s.toks) hstay
  obtain ⟨ob, es, ep, ho, h2, h3, h4, his, h5⟩ := id dd
  have dd' : (s.heap.push { cls := .type "dict", data := .dict #[] }).DictOfH (tupleKind (mixKind X.prog X.w)) a more :=
    dd.at' (fun o e => hstay a o e) fun x hx => tupleKind_stays.stays (fun b o _ _ e _ => hstay b o e) (his x hx)
  have hdo : s.heap.objs.size ≠ a := fun e => absurd (Heap.lt_size ho) (by rw [e]; exact Nat.lt_irrefl _)
  refine ⟨hnew.typeIs, PySem.F.args_dict_init_2 _ _, ?_⟩
  unfold Builtin.«dict.__init__»
  refine wpAny_bind ?_
  unfold Builtin.Dict.selfAndRest
  refine wpAny_bind (wpAny_notOrdered_dict hnew.typeIs ?_)
  show wpAny _ _ (pure (s.heap.objs.size, [Value.ref a])) _ _ _
  refine wpAny_pure ?_
  show wpAny _ _ (Builtin.Dict.updateFrom "dict.__init__" s.heap.objs.size (.ref a) [] .none) _ _ _
  refine updateFrom_dictH (knd := tupleKind (mixKind X.prog X.w)) .none (by show X.A.in1.in1.units < cLine; show X.A.units + 1 + 1 < cLine; omega) hdo lo hnew dd' (.inr ⟨fun x hx => tupleKind_stays.tuple (s := { s with heap := s.heap.push { cls := .type "dict", data := .dict #[] } }) (tupleKind_stays.stays (fun b o _ _ e _ => hstay b o e) (his x hx)), hap⟩) (by simpa using hz) fun h' hd' _ hs' => ?_
  rw [storedAllH_nil_of_nodup more hnd] at hd'
  obtain ⟨o', es', ep', ho', g2, g3, g4, _, g5⟩ := hd'
  have nw : H s.heap.objs.size = none := I.hok.fresh (Nat.le_refl _)
  have rel' : KT (upd H s.heap.objs.size (.dT kvs)) kvs more := rel.keeps fun b ys e => by rw [upd_ne (ne_of_none e nw)]; exact e
  exact ⟨rfl, .ref s.heap.objs.size, upd H s.heap.objs.size (.dT kvs), I.laid (t' := s.toks) (fun b u e => (hs'.2 b (Nat.ne_of_lt (Heap.lt_size e))).trans (hstay b u e)) (Nat.le_refl _)
    ⟨z, hm, more, rel', o', es', ep', ho', g2, g3, g4, g5⟩, rfl, q _ nw⟩
/-! ### d.setdefault(k, x) of a dict keyed by tuples -/
theorem d_setdT {pins : List (Addr × Obj)} {σ : St} {H : Hp} {s : Shared} {a b : Addr} {r : Value} {d : V} {k : List Key} {A : Around} {E : Value → Shared → Prop} {kvs : List (List Key × V)} {Q : Value → Shared → Prop} (hu : A.units + 1 < cLine) (I : Inv X pins σ H s) (e : H a = some (.dT kvs)) (eb : H b = some (.tup (k.map kV))) (rd : RelV d r) (hl : kvs.length < sizeLine)
    (h1 : ∀ v, valV kvs k = some v → ∀ (w' : Value) (s' : Shared), Inv X pins σ H s' → RelV v w' → Q w' s') (h2 : valV kvs k = none → ∀ (w' : Value) (s' : Shared), Inv X pins σ (upd H a (.dT (putK kvs k d))) s' → RelV d w' → Q w' s') :
    wpAny (model X.prog X.w) A (call (.builtin "dict.setdefault") [.ref a, .ref b, r]) Q E s := by
  obtain ⟨z, hd, xs, rel, dd⟩ := dt_of I.hok e
  have hz : xs.length ≤ sizeLine := by rw [← Paired.length rel]; exact z
  refine call_setdefault_heap (hsz := hz) (tupleKind_room_in1 hu) (key_of I.hok eb) hd dd (fun p hp => ?_) fun hn h' dd' hs => ?_
  · have q := rel.val k
    rw [hp] at q
    cases q0 : valV kvs k with
    | none => rw [q0] at q; exact (show False from q).elim
    | some v0 => rw [q0] at q; exact h1 v0 q0 _ _ (I.tok _) q
  · have q := rel.val k
    rw [hn] at q
    cases q0 : valV kvs k with
    | some v0 => rw [q0] at q; exact (show False from q).elim
    | none =>
      have hl2 : (putK kvs k d).length ≤ sizeLine := by
        have := length_putK kvs k d
        omega
      obtain ⟨q, es, ep, hq, g2, g3, g4, _, g5⟩ := dd'
      refine h2 q0 _ _ (d_write I (by rw [e]; exact True.intro) hs ⟨q, hq⟩ ⟨hl2, hd, _, (rel.put k eb rd).keeps fun c ys ec => ?_, q, es, ep, hq, g2, g3, g4, g5⟩) rd
      rw [upd_ne (ne_of ec e (fun z => nomatch z))]
      exact ec
def tDSetdT (td ty tx : TE) : TE := fun σ H Q => td σ H fun x H1 => ∃ a, x = .ref a ∧ IsD H1 a ∧ ty σ H1 fun y H2 => tx σ H2 fun z H3 => ∃ (kvs : List (List Key × V)) (k : List Key) (b : Addr), H3 a = some (.dT kvs) ∧ y = .ref b ∧ H3 b = some (.tup (k.map kV)) ∧ kvs.length < sizeLine ∧
  (∀ v, valV kvs k = some v → Q v H3) ∧ (valV kvs k = none → Q z (upd H3 a (.dT (putK kvs k z))))
theorem pe_dsetdT {o e f : Expr} {td ty tx : TE} {apos cpos : Pos} (hu : X.A.units + 1 < cLine) (ho : PE X o td) (he : PE X e ty) (hf : PE X f tx) (m : M2 X o "setdefault" apos e f cpos) : PE X (.Call (.Attribute o "setdefault" apos) [e, f] [] cpos) (tDSetdT td ty tx) := by
  refine ⟨fun pins s σ H Q I h => ?_⟩
  refine wpAny_Call_method m.base m.few m.line PySem.F.plainAttrs_dict PySem.F.slot_dict_setdefault PySem.F.type_dict_setdefault (thn (ho.run pins s σ H _ I h) fun u s1 ⟨x, H1, I1, rx, a, ex, d, q1⟩ => ?_)
  subst ex
  obtain rfl : u = Value.ref a := rx
  obtain ⟨t1, t2, _⟩ := isD_at I1 d
  refine ⟨t1, t2, ?_⟩
  rw [m.trees]
  refine Calls.callWith_builtin rfl (Calls.evalArgs_plain (Calls.spliced_cons (thn (he.run pins s1 σ H1 _ I1 q1) fun iv s2 ⟨y, H2, I2, ry, q2⟩ =>
    Calls.spliced_cons (thn (hf.run pins s2 σ H2 _ I2 q2) fun fv s3 ⟨z, H3, I3, rz, kvs, k, b, ea, ey, eb, hl, q3, q4⟩ => Calls.spliced_nil ?_))))
  subst ey
  obtain rfl : iv = Value.ref b := ry
  exact d_setdT hu I3 ea eb rz hl (fun v hv w' s4 I4 rw' => ⟨v, _, I4, rw', q3 v hv⟩) fun hn w' s4 I4 rw' => ⟨z, _, I4, rw', q4 hn⟩
/-! ### a one-sign text, so many times: some text of at most twelve signs -/
def rMulS : R2 := fun x y H Q => ∃ (z : Str) (n : Int), x = .str z ∧ y = .int n ∧ z.length = 1 ∧ 0 ≤ n ∧ n ≤ 12 ∧ ∀ z' : Str, z'.length ≤ 12 → Q (.str z') H
theorem rep_len (a : Array Nat) (ha : a.size = 1) : ∀ (n : Nat) (b : Array Nat), ((List.replicate n a).foldl (· ++ ·) b).size = b.size + n
  | 0, b => rfl
  | n + 1, b => by
    rw [List.replicate_succ, List.foldl_cons, rep_len a ha n (b ++ a), Array.size_append, ha]
    omega
theorem op_mulS : OpR X (binaryOp .Mult) rMulS := by
  intro pins s σ H x y v u Q I rx ry h
  obtain ⟨z, n, rfl, rfl, hz, h0, h12, q⟩ := h
  obtain ⟨t, rfl⟩ := rx
  obtain ⟨t', rfl⟩ := ry
  have hz' : z.cps.size = 1 := hz
  refine PySem.P.mul_str (by simp only [Bool.or_eq_false_iff, decide_eq_false_iff_not]; omega) (fun h1 _ => ?_) (fun h1 _ => ?_) ?_
  · rw [hz]
    have : (1 : Int) ≤ (2 ^ 63 - 1) / n := by
      rw [Int.le_ediv_iff_mul_le (by omega)]
      omega
    omega
  · rw [hz, Nat.one_mul]
    unfold Builtin.Str.tooLong
    simp only [decide_eq_false_iff_not, sizeLine_eq, Nat.not_lt]
    omega
  · split
    · exact ⟨by decide, .str _, H, I.tok _, ⟨_, rfl⟩, q _ (by decide)⟩
    · split
      · exact ⟨.str z, H, I, ⟨_, rfl⟩, q z (by omega)⟩
      · have hl : ((List.replicate n.toNat z.cps).foldl (· ++ ·) #[]).size = n.toNat := by rw [rep_len _ hz']; simp
        refine ⟨?_, .str _, H, I.tok _, ⟨_, rfl⟩, q _ ?_⟩
        · show ((List.replicate n.toNat z.cps).foldl (· ++ ·) #[]).size ≤ sizeLine
          rw [hl, sizeLine_eq]
          omega
        · show ((List.replicate n.toNat z.cps).foldl (· ++ ·) #[]).size ≤ 12
          rw [hl]
          omega
end
end L2.RK
/-! comprehensions that fill a container: the turn of the block once, for any container; sets of ints -/
namespace L2.RK
open PySem PySem.Spec PyProof.Rows
section
variable {X : Cx}
/-- the reading: u0 the empty container's content, kk what one turn's piece asks at the container D -/
def tCont (u0 : Addr → HO) (wi : TI) (g : TG) (tt : TT) (kk : Addr → St → Hp → (Hp → Prop) → Prop) (vs : List Nat) : TE := fun σ H Q => wi σ H fun J H1 => ∀ D, H1 D = none → ∃ W : Nat → Nat → Hp → Prop, (∃ m, W 0 m (upd H1 D (u0 D))) ∧
  ∀ i m H, W i m H → (J.stop i H ∧ Q (.ref D) H) ∨ (J.go i H ∧ ∃ Nx : Hp → Prop, (∀ H', Nx H' → ∃ m', m' < m ∧ W (i + 1) m' H') ∧
    ∀ x H', J.yld i H x H' → g x (wipe σ vs) H' fun σ2 H2 => wipe σ2 vs = wipe σ vs ∧ tt σ2 H2 fun b H3 => if b = true then kk D σ2 H3 Nx else Nx H3)
/-- what is to be known of the comprehension's form: how it begins, how its loop turns (inn: the piece that fills the container) -/
structure ContForm (X : Cx) (whole tg iter : Expr) (ifs : List Expr) (inn : Addr → Env → (Shared → Prop) → (Value → Shared → Prop) → Shared → Prop) : Prop where
  clause : clausesOf whole = [⟨tg, iter, ifs, 0⟩]
  begins : ∀ (it D : Addr) (ce : Env) (R : Result → Shared → Prop) (s : Shared), codeAny (model X.prog X.w) X.A (.compLoop whole 0 (.ref it) (.ref D) ce) R s →
    wpAny (model X.prog X.w) X.A (pyIter (.ref it)) (fun it' s' => codeAny (model X.prog X.w) X.A (.compLoop whole 0 it' (.ref D) ce) R s') (notedBy (model X.prog X.w) X.A ce fun x s' => R (.error x) s') s →
    codeAny (model X.prog X.w) X.A (.compStart whole 0 (.ref it) (.ref D) ce) R s
  turns : ∀ (it D : Addr) (ce : Env) (R : Result → Shared → Prop) (I : Nat → Shared → Prop),
    (∀ n s, I n s → wpAny (model X.prog X.w) X.A (pyNext (.ref it)) (fun r s₁ => match r with
      | none => R (.ok .next) s₁
      | some v => wpAny (model X.prog X.w) X.A (letOwnedTupleGo tg (.ref it) v) (fun _ s₂ => wpAny (model X.prog X.w) X.A (assign tg ce v) (fun _ s₃ =>
          wpAny (model X.prog X.w) X.A (forIn ifs true fun c r => if r = true then do let ok ← isTrue c ce (eval c ce); pure (ForInStep.yield ok) else pure (ForInStep.yield r)) (fun ok s₄ =>
            if ok = true then inn D ce (fun s' => ∃ m, m < n ∧ I m s') (notedBy (model X.prog X.w) X.A ce fun e s' => R (.error e) s') s₄ else ∃ m, m < n ∧ I m s₄)
          (notedBy (model X.prog X.w) X.A ce fun e s' => R (.error e) s') s₃) (notedBy (model X.prog X.w) X.A ce fun e s' => R (.error e) s') s₂) (notedBy (model X.prog X.w) X.A ce fun e s' => R (.error e) s') s₁)
      (notedBy (model X.prog X.w) X.A ce fun e s' => R (.error e) s') s) →
    ∀ (n : Nat) (s : Shared), I n s → codeAny (model X.prog X.w) X.A (.compLoop whole 0 (.ref it) (.ref D) ce) R s
/-- the container's making -/
structure ContNew (X : Cx) (mk : Sem Value) (o0 : Obj) (u0 : Addr → HO) : Prop where
  makes : ∀ (s : Shared) (Q : Value → Shared → Prop) (E : Value → Shared → Prop), Q (.ref s.heap.objs.size) { s with heap := s.heap.push o0 } → wpAny (model X.prog X.w) X.A mk Q E s
  good : ∀ (H : Hp) (h : Heap), sysModules < h.objs.size → ObjOk X.prog X.w H (h.push o0) h.objs.size (u0 h.objs.size)
  free : o0.isFreed = false
/-- the filling piece keeps its reading, in any block of this text -/
def ContStep (X : Cx) (scope : Scope) (kk : Addr → St → Hp → (Hp → Prop) → Prop) (inn : Addr → Env → (Shared → Prop) → (Value → Shared → Prop) → Shared → Prop) : Prop :=
  ∀ (s0 : Shared) (H0 : Hp) (C : Addr) (cl : List (Str × Addr)) (fp : List Addr) (D : Addr) (pins : List (Addr × Obj)) (σ : St) (H : Hp) (s : Shared) (Nx : Hp → Prop) (P : Shared → Prop) (En : Value → Shared → Prop),
    Inv (X.blk s0 H0 scope (compEnvC scope cl C X.env) fp) pins σ H s → kk D σ H Nx → (∀ s' H', Inv (X.blk s0 H0 scope (compEnvC scope cl C X.env) fp) pins σ H' s' → Nx H' → P s') → inn D (compEnvC scope cl C X.env) P En s
theorem cont_core {pins : List (Addr × Obj)} {s : Shared} {σ : St} {H : Hp} {Q : VK} {whole tg iter : Expr} {ifs : List Expr} {scope : Scope} {own : List (Str × Nat)} {pos' : Pos} {wi : TI} {g : TG} {tt : TT} {mk : Sem Value} {o0 : Obj} {u0 : Addr → HO}
    {kk : Addr → St → Hp → (Hp → Prop) → Prop} {inn : Addr → Env → (Shared → Prop) → (Value → Shared → Prop) → Shared → Prop}
    (hc : X.calm = true) (hN : X.N.Nodup) (I : Inv X pins σ H s) (hi : PI X tg iter wi) (ok : BlkOk X.N X.env.scope scope own) (F : ContForm X whole tg iter ifs inn) (M : ContNew X mk o0 u0) (S : ContStep X scope kk inn)
    (hg : ∀ (s : Shared) (H : Hp) (C : Addr) (cl : List (Str × Addr)) (fp : List Addr), PG (X.blk s H scope (compEnvC scope cl C X.env) fp) tg g) (ht : ∀ (s : Shared) (H : Hp) (C : Addr) (cl : List (Str × Addr)) (fp : List Addr), PTs (X.blk s H scope (compEnvC scope cl C X.env) fp) ifs tt)
    (hs : ∀ x, foldedSetIterable iter X.env x = pure x) (h : tCont u0 wi g tt kk (own.map (·.2)) σ H Q) :
    wpAny (model X.prog X.w) X.A (comprehension whole scope X.env pos' mk false (eval iter X.env) none) (EP X pins σ Q) X.xe s := by
  have cells : ∀ y ∈ scope.names, y.2 = .free → ∃ c, X.env.cells.lookup y.1 = some c := fun y hy e => (ok.free y hy e).elim (fun k => I.ok.has _ (.inl k)) fun k => I.ok.has _ (.inr k)
  refine wpAny_comprehension_free (use := none) F.clause hs (closure_ok cells) ok.kind (fun y hy e => by rw [ok.uniq y hy, e]) (thn (hi.run pins s σ H _ I h) fun xv s1 hx => thn hx fun itv s2 h2 => ?_)
  obtain ⟨it, fp, tn, J, H2, rfl, I2, T, st2, f2, q⟩ := h2
  refine M.makes _ _ _ (newEnv_comp ?_)
  generalize hD : s2.heap.objs.size = D
  have newD : H2 D = none := I2.hok.fresh (Nat.le_of_eq hD)
  obtain ⟨W, ⟨m0, w0⟩, turn⟩ := q D newD
  generalize hs3 : ({ s2 with heap := s2.heap.push o0 } : Shared) = s3
  have h3 : s3.heap = s2.heap.push o0 := by rw [← hs3]
  have I3 : Inv X pins σ (upd H2 D (u0 D)) s3 := by
    rw [← hs3, ← hD]
    exact I2.laid (t' := s2.toks) (fun b o e => Heap.get?_push_of_some _ e) (Nat.le_refl _) (M.good _ _ I2.big)
  have low : ∀ b ∈ fp, b < s2.heap.objs.size := fun b hb => let ⟨_, e, _⟩ := T.obj _ _ st2 b hb; Heap.lt_size e
  have f3 : ∀ b ∈ fp, FpOk X pins (upd H2 D (u0 D)) b ∧ b < s3.heap.objs.size := fun b hb =>
    ⟨⟨by rw [upd_ne (by rw [← hD]; exact Nat.ne_of_lt (low b hb))]; exact (f2 b hb).1, (f2 b hb).2⟩, by rw [h3, Heap.size_push]; exact Nat.lt_succ_of_lt (low b hb)⟩
  have st3 : tn 0 s3.heap := T.keep _ _ _ st2 fun b _ o e => by rw [h3]; exact Heap.get?_push_of_some _ e
  have I4 := block_start I3 ok hN f3
  have pg := hg s3 (upd H2 D (u0 D)) s3.heap.objs.size (cellsFrom (s3.heap.objs.size + 1) scope.names (cloFrom X.env.cells scope.names [])) fp
  have pt := ht s3 (upd H2 D (u0 D)) s3.heap.objs.size (cellsFrom (s3.heap.objs.size + 1) scope.names (cloFrom X.env.cells scope.names [])) fp
  have ps := S s3 (upd H2 D (u0 D)) s3.heap.objs.size (cellsFrom (s3.heap.objs.size + 1) scope.names (cloFrom X.env.cells scope.names [])) fp D
  show codeAny _ _ (.compStart whole 0 (.ref it) (.ref D) (compEnvC scope (cellsFrom (s3.heap.objs.size + 1) scope.names (cloFrom X.env.cells scope.names [])) s3.heap.objs.size X.env)) (compPost (model X.prog X.w) X.A X.xe none (EP X pins σ Q) (.ref D) s3.heap.objs.size) { s3 with heap := pushCells (s3.heap.push { cls := .type "dict", data := .dict #[] }) scope.names }
  have fresh3 : ∀ b ∈ fp, (upd H2 D (u0 D)) b = none := fun b hb => (f3 b hb).1.1
  generalize hce : compEnvC scope (cellsFrom (s3.heap.objs.size + 1) scope.names (cloFrom X.env.cells scope.names [])) s3.heap.objs.size X.env = ce at I4 pg pt ps ⊢
  have at_ : ce.locals = s3.heap.objs.size := by subst hce; rfl
  generalize hH3 : upd H2 D (u0 D) = H3 at I3 I4 pg pt ps w0 fresh3 f3
  generalize hs4 : ({ s3 with heap := pushCells (s3.heap.push { cls := .type "dict", data := .dict #[] }) scope.names } : Shared) = s4 at I4 ⊢
  have st4 : tn 0 s4.heap := T.keep _ _ _ st3 fun b _ o e => by rw [← hs4]; exact pushCells_keeps _ _ _ _ (Heap.get?_push_of_some _ e)
  generalize hY : X.blk s3 H3 scope ce fp = Y at I4 pg pt ps
  have stat : ∀ {σ' : St} {H' : Hp} {s' : Shared}, Inv Y [] σ' H' s' → (∀ b ∈ fp, H' b = none) → ∀ b ∈ fp, FpOk Y [] H' b := fun {σ' H' s'} I' hn b hb => by
    subst hY
    exact ⟨hn b hb, (I'.ok.exf b hb).1, I'.ok.exfs b hb, .inl hb, fun x c e => (I'.ok.exf b hb).2 x c e, fun p hp => absurd (show p ∈ ([] : List (Addr × Obj)) ++ [] from hp) (by simp)⟩
  have loop : codeAny (model X.prog X.w) X.A (.compLoop whole 0 (.ref it) (.ref D) ce) (compPost (model X.prog X.w) X.A X.xe none (EP X pins σ Q) (.ref D) s3.heap.objs.size) s4 := by
    refine F.turns it D ce _ (fun n s' => ∃ i H', Inv Y [] (wipe σ (own.map (·.2))) H' s' ∧ tn i s'.heap ∧ (∀ b ∈ fp, H' b = none) ∧ W i n H') ?_ m0 s4 ⟨0, H3, I4, st4, fresh3, w0⟩
    rintro n s5 ⟨i, H5, I5, st5, n5, w5⟩
    rcases turn i n H5 w5 with ⟨stop, qq⟩ | ⟨go, Nx, hNx, step⟩
    · subst hY
      refine thnF (T.done (X.blk s3 H3 scope ce fp) rfl rfl rfl hc i [] s5 _ H5 (fun _ _ => False) I5 (stat I5 n5) st5 stop) fun r s6 ⟨hr, I6⟩ => ?_
      subst hr
      have I7 : Inv X pins σ H5 s6 := I3.call' (ch := fp) I6.os I6.base I6.hok I6.bare fun b hb => let z := (f3 b hb).1.2; ⟨z.2.2.1, z.1, z.2.2.2.1, z.2.2.2.2⟩
      have nC : H5 s3.heap.objs.size = none := by
        have z : H5 ce.locals = none := I6.free
        rwa [at_] at z
      obtain ⟨m, hn, _⟩ := I6.loc
      have hn' : s6.heap.Ns ce.locals m := hn
      rw [at_] at hn'
      obtain ⟨g0, g1, g2, g3, g4, g5⟩ := I3.fpOk (Nat.le_refl _) nC
      exact ⟨m, hn', fun h'' sb => ⟨.ref D, H5, I7.turned (t' := s6.toks) (fun b o hb e => (sb.2 b hb).trans e) g0 g1 g3 g4 g5, rfl, qq⟩⟩
    · have ti : wpAny (model X.prog X.w) X.A (pyNext (.ref it)) (fun r s1 => ∃ u, r = some u ∧ wpAny (model X.prog X.w) X.A (letOwnedTupleGo tg (.ref it) u) (fun _ s2 => ∃ x H', Inv Y [] (wipe σ (own.map (·.2))) H' s2 ∧ RelV x u ∧ J.yld i H5 x H' ∧ tn (i + 1) s2.heap ∧ ∀ b ∈ fp, H' b = none) (fun _ _ => False) s1) (fun _ _ => False) s5 := by
        subst hY
        exact T.item (X.blk s3 H3 scope ce fp) rfl rfl rfl hc i [] s5 _ H5 (fun _ _ => False) I5 (stat I5 n5) st5 go
      refine thnF ti fun r s6 ⟨u, hr, h6⟩ => ?_
      subst hr
      refine thnF h6 fun _ s7 ⟨x, H7, I7, r7, y7, st7, n7⟩ => ?_
      have I7' := I7.pinned (stat I7 n7) (T.obj _ _ st7)
      have fin : ∀ {σ8 : St} {s' : Shared} {H' : Hp}, wipe σ8 (own.map (·.2)) = wipe σ (own.map (·.2)) → Inv Y ([] ++ pinsAt fp s7.heap) σ8 H' s' → Nx H' → ∃ m, m < n ∧ ∃ i H', Inv Y [] (wipe σ (own.map (·.2))) H' s' ∧ tn i s'.heap ∧ (∀ b ∈ fp, H' b = none) ∧ W i m H' := fun {σ8 s' H'} hw I' nx => by
        obtain ⟨m', hm, w'⟩ := hNx H' nx
        have pin' : ∀ b ∈ fp, ∀ o, s7.heap.get? b = some o → s'.heap.get? b = some o ∧ H' b = none := fun b hb o e =>
          let z := I'.pin (b, o) (List.mem_append_right _ (List.mem_append_right _ (mem_pinsAt hb e))); ⟨z.1, z.2.1⟩
        refine ⟨m', hm, i + 1, H', (I'.unpinned (pins := [])).weak (by rw [← hw, wipe_length]) (fun j v e => (wipe_some (by rw [hw]; exact e)).1), T.keep _ _ _ st7 fun b hb o e => (pin' b hb o e).1, fun b hb => ?_, w'⟩
        obtain ⟨o, e, _⟩ := T.obj _ _ st7 b hb
        exact (pin' b hb o e).2
      have a1 := pg.run (([] : List (Addr × Obj)) ++ pinsAt fp s7.heap) s7 _ H7 x u _ I7' r7 (step x H7 y7)
      have a2 : wpAny (model X.prog X.w) X.A (assign tg ce u) (fun _ s8 => ∃ σ8 H8, Inv Y ([] ++ pinsAt fp s7.heap) σ8 H8 s8 ∧ wipe σ8 (own.map (·.2)) = wipe σ (own.map (·.2)) ∧ tt σ8 H8 fun b H9 => if b = true then kk D σ8 H9 Nx else Nx H9) (fun _ _ => False) s7 := by
        subst hY
        exact a1
      refine thnF a2 fun _ s8 ⟨σ8, H8, I8, hw8, q8⟩ => ?_
      have b1 := pt.run _ s8 σ8 H8 _ I8 q8
      have b2 : wpAny (model X.prog X.w) X.A (forIn ifs true fun c r => if r = true then do let ok ← isTrue c ce (eval c ce); pure (ForInStep.yield ok) else pure (ForInStep.yield r)) (fun b s9 => ∃ H9, Inv Y ([] ++ pinsAt fp s7.heap) σ8 H9 s9 ∧ if b = true then kk D σ8 H9 Nx else Nx H9) (fun _ _ => False) s8 := by
        subst hY
        exact b1
      refine thnF b2 fun b s9 ⟨H9, I9, q9⟩ => ?_
      cases b with
      | false =>
        rw [if_neg Bool.false_ne_true] at q9 ⊢
        exact fin hw8 I9 q9
      | true =>
        rw [if_pos rfl] at q9 ⊢
        exact ps _ σ8 H9 s9 Nx _ _ I9 q9 fun s' H' I' nx => fin hw8 I' nx
  exact F.begins it D ce _ s4 loop (T.self X.A 0 _ _ _ st4 loop)
end
end L2.RK
/-! dicts keyed by ((ints), int); set comprehensions of ints, dict comprehensions over any walk -/
namespace L2.RK
open PySem PySem.Spec PyProof.Rows
/-! ### the data -/
abbrev NK : Type := List Int × Int
abbrev NE : Type := NK × Addr × Addr
def nk (k : NK) : NestedKey := .tup [.tup (k.1.map .num), .num k.2]
theorem map_num_inj : ∀ {a b : List Int}, a.map NestedKey.num = b.map NestedKey.num → a = b
  | [], [], _ => rfl
  | [], _ :: _, h => by simp at h
  | _ :: _, [], h => by simp at h
  | x :: a, y :: b, h => by
    simp only [List.map_cons, List.cons.injEq, NestedKey.num.injEq] at h
    rw [h.1, map_num_inj h.2]
theorem nk_inj {a b : NK} (h : nk a = nk b) : a = b := by
  obtain ⟨a1, a2⟩ := a
  obtain ⟨b1, b2⟩ := b
  simp only [nk, NestedKey.tup.injEq, List.cons.injEq, NestedKey.num.injEq, and_true] at h
  rw [map_num_inj h.1, h.2]
def nEnt (e : NE) : NestedKey × Addr × Value := (nk e.1, e.2.1, .ref e.2.2)
def lookN (xs : List NE) (k : NK) : Option (Addr × Addr) := (xs.find? fun e => decide (e.1 = k)).map (·.2)
def putN (xs : List NE) (k : NK) (a q : Addr) : List NE := if (lookN xs k).isSome then xs.map (fun e => if e.1 = k then (e.1, e.2.1, q) else e) else xs ++ [(k, a, q)]
theorem atKey_n (k : NK) : ∀ xs : List NE, atKey (xs.map nEnt) (nk k) = (lookN xs k).map fun p => (p.1, Value.ref p.2)
  | [] => rfl
  | e :: xs => by
    by_cases h : e.1 = k
    · simp [atKey, lookN, nEnt, h]
    · have h' : ¬ nk e.1 = nk k := fun z => h (nk_inj z)
      have ih := atKey_n k xs
      simp only [atKey, lookN, List.map_cons, List.find?_cons, nEnt, h, h', decide_false] at ih ⊢
      exact ih
theorem stored_n (xs : List NE) (k : NK) (a q : Addr) : storedH (xs.map nEnt) (nk k) a (.ref q) = (putN xs k a q).map nEnt := by
  unfold storedH putN
  rw [atKey_n, Option.isSome_map]
  split
  · rw [List.map_map, List.map_map]
    refine List.map_congr_left fun e _ => ?_
    show putAt (nk k) (.ref q) (nEnt e) = nEnt (if e.1 = k then _ else _)
    unfold putAt
    by_cases h : e.1 = k
    · rw [if_pos h, if_pos (show (nEnt e).1 = nk k from congrArg nk h)]
      rfl
    · rw [if_neg h, if_neg (show ¬ (nEnt e).1 = nk k from fun z => h (nk_inj z))]
  · simp [nEnt]
theorem lookN_mem {xs : List NE} {k : NK} {p : Addr × Addr} (h : lookN xs k = some p) : (k, p.1, p.2) ∈ xs := by
  unfold lookN at h
  obtain ⟨e, he, rfl⟩ := Option.map_eq_some_iff.mp h
  have e1 := List.find?_some he
  have e2 := List.mem_of_find?_eq_some he
  have e3 : e.1 = k := of_decide_eq_true e1
  rw [← e3]
  exact e2
theorem mem_putN {xs : List NE} {k : NK} {a q : Addr} {e : NE} (h : e ∈ putN xs k a q) : e ∈ xs ∨ (e.1 = k ∧ e.2.2 = q ∧ (e.2.1 = a ∨ ∃ e0 ∈ xs, e0.1 = k ∧ e0.2.1 = e.2.1)) := by
  unfold putN at h
  split at h
  · obtain ⟨e0, h0, rfl⟩ := List.mem_map.mp h
    by_cases q0 : e0.1 = k
    · rw [if_pos q0]
      exact .inr ⟨q0, rfl, .inr ⟨e0, h0, q0, rfl⟩⟩
    · rw [if_neg q0]
      exact .inl h0
  · rcases List.mem_append.mp h with h | h
    · exact .inl h
    · obtain rfl := List.mem_singleton.mp h
      exact .inr ⟨rfl, rfl, .inl rfl⟩
theorem putN_keys {xs : List NE} {k : NK} {a q : Addr} (hn : (xs.map (·.1)).Nodup) : ((putN xs k a q).map (·.1)).Nodup := by
  unfold putN
  cases h : lookN xs k with
  | some p =>
    rw [if_pos (show (some p).isSome = true from rfl), List.map_map]
    have e : ((fun e : NE => e.1) ∘ fun e => if e.1 = k then (e.1, e.2.1, q) else e) = fun e => e.1 := by
      funext e
      show (if e.1 = k then (e.1, e.2.1, q) else e).1 = e.1
      split <;> rfl
    rw [e]
    exact hn
  | none =>
    rw [if_neg (by simp), List.map_append, List.map_singleton]
    have hk : k ∉ xs.map (·.1) := fun hm => by
      obtain ⟨e, he, ek⟩ := List.mem_map.mp hm
      unfold lookN at h
      rw [Option.map_eq_none_iff, List.find?_eq_none] at h
      exact h e he (decide_eq_true ek)
    rw [List.nodup_append]
    refine ⟨hn, by simp, fun x hx y hy => ?_⟩
    obtain rfl := List.mem_singleton.mp hy
    rintro rfl
    exact hk hx
theorem putN_ne {xs : List NE} {k : NK} {a q : Addr} : putN xs k a q ≠ [] := by
  unfold putN
  cases h : lookN xs k with
  | some p =>
    rw [if_pos (show (some p).isSome = true from rfl)]
    intro e
    have := lookN_mem h
    rw [List.map_eq_nil_iff.mp e] at this
    cases this
  | none => simp
theorem putN_len {xs : List NE} {k : NK} {a q : Addr} : (putN xs k a q).length ≤ xs.length + 1 := by
  unfold putN
  split
  · rw [List.length_map]; omega
  · rw [List.length_append]; exact Nat.le_refl _
/-! ### in the heap -/
def NOk (P : Program) (w : World) (h : Heap) (d : Addr) (xs : List NE) : Prop := xs.length ≤ sizeLine ∧ (d == sysModules) = false ∧ ∃ o es ep, h.get? d = some o ∧ o.ExactDict ∧ o.data = .dict es ep ∧ es.toList = (xs.map nEnt).map (entryOfKey (nestedKind P w)) ∧ (xs.map (·.1)).Nodup
def NDict (P : Program) (w : World) (d : Addr) (xs : List NE) : HO := .ext fun h => NOk P w h d xs
theorem NOk.at_ {P : Program} {w : World} {h1 h2 : Heap} {d : Addr} {xs : List NE} (x : NOk P w h1 d xs) (k : ∀ o, h1.get? d = some o → h2.get? d = some o) : NOk P w h2 d xs := by
  obtain ⟨z, y, o, es, ep, ho, r⟩ := x
  exact ⟨z, y, o, es, ep, k o ho, r⟩
theorem ndict_new {P : Program} {w : World} {H : Hp} {h : Heap} {d : Addr} {xs : List NE} (x : NOk P w h d xs) : ObjOk P w H h d (NDict P w d xs) :=
  ⟨x, let ⟨_, _, o, _, _, ho, _⟩ := x; ⟨o, ho⟩, fun _ _ p k => p.at_ k⟩
/-- where a key's own tuple stands -/
def NKeyAt (H : Hp) (k : NK) (a : Addr) : Prop := ∃ pa, H a = some (.tup [.ref pa, .int k.2]) ∧ H pa = some (.tup (k.1.map V.int))
def NKeys (H : Hp) (xs : List NE) : Prop := ∀ e ∈ xs, NKeyAt H e.1 e.2.1
theorem NKeyAt.same {H H' : Hp} {k : NK} {a : Addr} (x : NKeyAt H k a) (s : ∀ b ys, H b = some (.tup ys) → H' b = some (.tup ys)) : NKeyAt H' k a := let ⟨pa, h1, h2⟩ := x; ⟨pa, s _ _ h1, s _ _ h2⟩
theorem NKeys.same {H H' : Hp} {xs : List NE} (x : NKeys H xs) (s : ∀ b ys, H b = some (.tup ys) → H' b = some (.tup ys)) : NKeys H' xs := fun e he => (x e he).same s
theorem NKeys.put {H : Hp} {xs : List NE} {k : NK} {a q : Addr} (x : NKeys H xs) (hk : NKeyAt H k a) : NKeys H (putN xs k a q) := fun e he => by
  rcases mem_putN he with h | ⟨rfl, _, h | ⟨e0, h0, h1, h2⟩⟩
  · exact x e h
  · rw [h]; exact hk
  · rw [← h2, ← h1]; exact x e0 h0
section
variable {X : Cx} {pins : List (Addr × Obj)} {σ : St} {H : Hp} {s : Shared} {d a : Addr} {xs : List NE} {k : NK} {A : Around} {E : Value → Shared → Prop}
theorem nested_nums {h : Heap} : ∀ {ps : List Int} {us : List Value}, Vals (ps.map V.int) us → NestedAll h (ps.map .num) us
  | [], _, .nil => .nil
  | p :: ps, _, .cons r t => by
    obtain ⟨u, rfl⟩ := r
    exact .cons (.int p u) (nested_nums t)
theorem depth_nums : ∀ ps : List Int, NestedKey.depthAll (ps.map .num) = 0
  | [] => rfl
  | p :: ps => by simp [NestedKey.depthAll, NestedKey.depth, depth_nums ps]
theorem nkey_is (I : Inv X pins σ H s) (x : NKeyAt H k a) : (nestedKind X.prog X.w).is s.heap (nk k) a := by
  obtain ⟨pa, h1, h2⟩ := x
  obtain ⟨_, its, rv, o, ho, hc, n, hd⟩ := (show ObjOk X.prog X.w H s.heap a (.tup [.ref pa, .int k.2]) from I.hok a _ h1)
  obtain ⟨_, its2, rv2, o2, ho2, hc2, n2, hd2⟩ := (show ObjOk X.prog X.w H s.heap pa (.tup (k.1.map V.int)) from I.hok pa _ h2)
  obtain ⟨u1, u2, rfl, r1, t, rfl⟩ := vals2 rv
  obtain rfl : u1 = Value.ref pa := r1
  exact ⟨.tup ho hc hd (.cons (.tup ho2 hc2 hd2 (by simpa using nested_nums rv2)) (.cons (.int _ _) .nil)), by simp [nk, NestedKey.depth, NestedKey.depthAll, depth_nums]⟩
theorem nd_rd (I : Inv X pins σ H s) (hd : Rd H d (NDict X.prog X.w d xs)) : NOk X.prog X.w s.heap d xs := (show ObjOk X.prog X.w H s.heap d (NDict X.prog X.w d xs) from hd.ok I.hok).1
theorem nd_of (I : Inv X pins σ H s) (hd : Rd H d (NDict X.prog X.w d xs)) (hk : NKeys H xs) : s.heap.DictOfH (nestedKind X.prog X.w) d (xs.map nEnt) := by
  obtain ⟨z, y, o, es, ep, ho, hx, hdt, he, hn⟩ := nd_rd I hd
  refine ⟨o, es, ep, ho, hx, hdt, he, fun x hx => ?_, ?_⟩
  · obtain ⟨e, he, rfl⟩ := List.mem_map.mp hx
    exact nkey_is I (hk e he)
  · rw [List.map_map]
    exact List.pairwise_map.mpr ((List.pairwise_map.mp hn).imp fun h z => h (nk_inj z))
/-- key not in d -/
def rNotInN : R2 := fun x y H Q => ∃ d xs k a, x = .ref a ∧ y = .ref d ∧ Rd H d (NDict X.prog X.w d xs) ∧ NKeys H xs ∧ NKeyAt H k a ∧ Q (.bl (!(lookN xs k).isSome)) H
theorem op_notInN (hu : X.A.units + 9 < cLine) : OpR X (compareOp .NotIn) (rNotInN (X := X)) := by
  intro pins s σ H x y v u Q I rx ry h
  obtain ⟨d, xs, k, a, rfl, rfl, hd, hk, ha, q⟩ := h
  obtain rfl : v = Value.ref a := rx
  obtain rfl : u = Value.ref d := ry
  refine notIn_keyed (knd := nestedKind X.prog X.w) (kvs := pairsH (xs.map nEnt)) (by show X.A.units + 1 + 8 < cLine; omega) (nkey_is I ha) (nd_rd I hd).2.1 ⟨_, nd_of I hd hk, rfl⟩ ?_
  rw [valueAt_pairsH, atKey_n, Option.isSome_map, Option.isSome_map]
  exact ⟨.bl _, H, I.tok _, rfl, q⟩
/-- d[key], it is there -/
def rGetN : R2 := fun x y H Q => ∃ d xs k a p, x = .ref d ∧ y = .ref a ∧ Rd H d (NDict X.prog X.w d xs) ∧ NKeys H xs ∧ NKeyAt H k a ∧ lookN xs k = some p ∧ Q (.ref p.2) H
theorem ix_n (hu : X.A.units + 9 < cLine) : IxR X (rGetN (X := X)) := by
  intro value slice pins s σ H x y v u Q I rx ry h hs
  obtain ⟨d, xs, k, a, p, rfl, rfl, hd, hk, ha, hp, q⟩ := h
  obtain rfl : v = Value.ref d := rx
  obtain rfl : u = Value.ref a := ry
  exact subscriptTail_builtinR (T := "dict") (x := .ref p.2) (nd_of I hd hk).typeIs slot_dict_getitem.lookup (wpAny_getItem_heap (knd := nestedKind X.prog X.w) (k := nk k) (p := (p.1, .ref p.2)) (by show X.A.units + 1 + 8 < cLine; omega) (nkey_is I ha) (nd_of I hd hk) (by rw [atKey_n, hp]; rfl)
    ⟨rfl, .ref p.2, H, I.tok _, rfl, q⟩) hs
theorem ndict_put {h' : Heap} {t' : Nat} {q : Addr} (I : Inv X pins σ H s) (hd : H d = some (NDict X.prog X.w d xs)) (hl : xs.length < sizeLine) (dd : h'.DictOfH (nestedKind X.prog X.w) d (storedH (xs.map nEnt) (nk k) a (.ref q))) (hs : Heap.SameBut d s.heap h') :
    Inv X pins σ (upd H d (NDict X.prog X.w d (putN xs k a q))) { s with heap := h', toks := t' } := by
  obtain ⟨o, es, ep, ho, hx, hdt, he, _, hn⟩ := dd
  have hk := nd_rd I (.inl hd)
  rw [stored_n] at he
  refine d_write I (by rw [hd]; exact True.intro) hs ⟨o, ho⟩ (ndict_new ⟨by have := putN_len (xs := xs) (k := k) (a := a) (q := q); omega, hk.2.1, o, es, ep, ho, hx, hdt, he, ?_⟩)
  obtain ⟨_, _, _, _, _, _, _, _, _, hn0⟩ := hk
  exact putN_keys hn0
/-- d[key] = an object -/
def tSetN : TSet := fun x i v H Q => ∃ d xs k a q, x = .ref d ∧ i = .ref a ∧ v = .ref q ∧ H d = some (NDict X.prog X.w d xs) ∧ NKeys H xs ∧ NKeyAt H k a ∧ xs.length < sizeLine ∧ Q (upd H d (NDict X.prog X.w d (putN xs k a q)))
theorem set_n (hu : X.A.units + 9 < cLine) : PSet X (tSetN (X := X)) := by
  intro pins s σ H o i v ov iv u Q I ro ri rv h
  obtain ⟨d, xs, k, a, q, rfl, rfl, rfl, hd, hk, ha, hl, q1⟩ := h
  obtain rfl : ov = Value.ref d := ro
  obtain rfl : iv = Value.ref a := ri
  obtain rfl : u = Value.ref q := rv
  exact wpAny_setItem_heap (knd := nestedKind X.prog X.w) (k := nk k) (hsz := by rw [List.length_map]; omega) (by show X.A.units + 1 + 8 < cLine; omega) (nkey_is I ha) (nd_of I (.inl hd) hk) fun h' dd hs => ⟨_, ndict_put I hd hl dd hs, q1⟩
theorem n_empty {P : Program} {w : World} {H : Hp} (h : Heap) (hb : sysModules < h.objs.size) : ObjOk P w H (h.push { cls := .type "dict", data := .dict #[] }) h.objs.size (NDict P w h.objs.size []) :=
  ndict_new ⟨Nat.zero_le _, beq_eq_false_iff_ne.mpr (Ne.symm (Nat.ne_of_lt hb)), _, #[], 0, Heap.get?_push_size _ rfl, ⟨rfl, rfl, rfl⟩, rfl, rfl, List.nodup_nil⟩
def tDNewN : TE := fun _ H Q => ∀ d, H d = none → Q (.ref d) (upd H d (NDict X.prog X.w d []))
theorem pe_dnewN {pos : Pos} : PE X (.Dict [] [] pos) (tDNewN (X := X)) := ⟨fun pins s σ H Q I h =>
  wpAny_Dict_empty ⟨.ref s.heap.objs.size, _, I.laid (a := s.heap.objs.size) (o := NDict X.prog X.w s.heap.objs.size []) (t' := s.toks) (fun _ _ q => Heap.get?_push_of_some _ q) (Nat.le_refl _) (n_empty s.heap I.big), rfl, h _ (I.hok.fresh (Nat.le_refl _))⟩⟩
end
/-! ### comprehensions -/
section
variable {X : Cx}
/-- W for a walk of known turns -/
theorem cont_it {J : It} {n : Nat} {G : Hp → Prop} {Y : Nat → Hp → V → Hp → Prop} (w : Walk J n G Y) {u0 : Addr → HO} {g : TG} {tt : TT} {kk : Addr → St → Hp → (Hp → Prop) → Prop} {vs : List Nat} {σ : St} {H1 : Hp} {D : Addr} {Qd : Hp → Prop} (Pv : Nat → Hp → Prop) (h0 : Pv 0 (upd H1 D (u0 D))) (hG : ∀ i H, i ≤ n → Pv i H → G H)
    (hs : ∀ i x H H', i < n → Pv i H → Y i H x H' → g x (wipe σ vs) H' fun σ2 H2 => wipe σ2 vs = wipe σ vs ∧ tt σ2 H2 fun b H3 => if b = true then kk D σ2 H3 (Pv (i + 1)) else Pv (i + 1) H3) (hd : ∀ H, Pv n H → Qd H) :
    ∃ W : Nat → Nat → Hp → Prop, (∃ m, W 0 m (upd H1 D (u0 D))) ∧ ∀ i m H, W i m H → (J.stop i H ∧ Qd H) ∨ (J.go i H ∧ ∃ Nx : Hp → Prop, (∀ H', Nx H' → ∃ m', m' < m ∧ W (i + 1) m' H') ∧
      ∀ x H', J.yld i H x H' → g x (wipe σ vs) H' fun σ2 H2 => wipe σ2 vs = wipe σ vs ∧ tt σ2 H2 fun b H3 => if b = true then kk D σ2 H3 Nx else Nx H3) := by
  refine ⟨fun i m H => m = n - i ∧ i ≤ n ∧ Pv i H, ⟨n, by simp, Nat.zero_le _, h0⟩, ?_⟩
  rintro i m H ⟨rfl, hi, p⟩
  rcases Nat.lt_or_ge i n with hlt | hge
  · exact .inr ⟨w.goes i H hlt (hG i H hi p), Pv (i + 1), fun H' p' => ⟨n - (i + 1), by omega, rfl, hlt, p'⟩, fun x H' y => hs i x H H' hlt p (w.yields i H x H' hlt (hG i H hi p) y)⟩
  · obtain rfl : i = n := by omega
    exact .inl ⟨w.stops H (hG _ H hi p), hd H p⟩
/-! {elt for ..}: ints -/
def innS (X : Cx) (elt : Expr) : Addr → Env → (Shared → Prop) → (Value → Shared → Prop) → Shared → Prop := fun D ce P En s => wpAny (model X.prog X.w) X.A (eval elt ce) (fun x s1 => wpAny (model X.prog X.w) X.A (call (.builtin "set.add") [.ref D, x]) (fun _ s2 => P s2) En s1) En s
theorem form_set {elt tg iter : Expr} {ifs : List Expr} {scope : Scope} {pos : Pos} : ContForm X (.SetComp elt [⟨tg, iter, ifs, 0⟩] scope pos) tg iter ifs (innS X elt) where
  clause := rfl
  begins := fun it D ce R s h1 h2 => PpSet.codeAny_compStart_set h1 h2
  turns := fun it D ce R I turn n s h => PpSet.compLoopS_any I turn n h
theorem new_set : ContNew X (newSet (.type "set")) { cls := .type "set", dict := none, data := .set #[] 0 (.fresh 0 0 (!X.w.params.followText "set-order")) } (fun D => SetO X.w D (fun _ => false) 0) where
  makes := fun s Q E h => PpSet.newSet_ok h
  good := fun H h _ => setO_new (setR_fresh X.w)
  free := rfl
def kkS (w : World) (te : TE) : Addr → St → Hp → (Hp → Prop) → Prop := fun D σ H Nx => te σ H fun y H1 => ∃ (c : Int) (S : Int → Bool) (n : Nat), y = .int c ∧ H1 D = some (SetO w D S n) ∧ n + 1 < scanBound ∧ Nx (upd H1 D (SetO w D (fun j => S j || decide (j = c)) (if S c = true then n else n + 1)))
theorem pe_scI {elt tg iter : Expr} {ifs : List Expr} {scope : Scope} {own : List (Str × Nat)} {pos : Pos} {wi : TI} {g : TG} {tt : TT} {te : TE} (hc : X.calm = true) (hN : X.N.Nodup) (hi : PI X tg iter wi) (ok : BlkOk X.N X.env.scope scope own)
    (hg : ∀ (s : Shared) (H : Hp) (C : Addr) (cl : List (Str × Addr)) (fp : List Addr), PG (X.blk s H scope (compEnvC scope cl C X.env) fp) tg g) (ht : ∀ (s : Shared) (H : Hp) (C : Addr) (cl : List (Str × Addr)) (fp : List Addr), PTs (X.blk s H scope (compEnvC scope cl C X.env) fp) ifs tt)
    (he : ∀ (s : Shared) (H : Hp) (C : Addr) (cl : List (Str × Addr)) (fp : List Addr), PE (X.blk s H scope (compEnvC scope cl C X.env) fp) elt te) (hs : ∀ x, foldedSetIterable iter X.env x = pure x := by intro _; rfl) :
    PE X (.SetComp elt [⟨tg, iter, ifs, 0⟩] scope pos) (tCont (fun D => SetO X.w D (fun _ => false) 0) wi g tt (kkS X.w te) (own.map (·.2))) := by
  refine ⟨fun pins s σ H Q I h => ?_⟩
  rw [PpSet.eval_SetComp]
  refine cont_core hc hN I hi ok form_set new_set (fun s0 H0 C cl fp D pins σ H s Nx P En I' hk fin => ?_) hg ht hs h
  refine thnF ((he s0 H0 C cl fp).run pins s σ H _ I' hk) fun z s1 ⟨y, H1, I1, r1, c, S, n, ey, hD, hz, nx⟩ => ?_
  subst ey
  obtain ⟨t, rfl⟩ : ∃ t, z = Value.int c t := r1
  have R := setO_get I1 hD
  refine setR_add R hz fun h' sb new => fin _ _ ?_ nx
  have ⟨o, _, _, _, ho, _⟩ := new
  exact I1.write (e := D) (t' := s1.toks + 1) (by rw [hD]; trivial) (.inl rfl) (fun b u hb hu => (sb.2 b hb).trans hu) ⟨o, ho⟩ (setO_new new)
/-! {k: v for ..} -/
def innD (X : Cx) (kx vx : Expr) : Addr → Env → (Shared → Prop) → (Value → Shared → Prop) → Shared → Prop := fun D ce P En s => wpAny (model X.prog X.w) X.A (eval kx ce) (fun x s1 => wpAny (model X.prog X.w) X.A (eval vx ce) (fun y s2 => wpAny (model X.prog X.w) X.A (dictSet D x y) (fun _ s3 => P s3) En s2) En s1) En s
theorem form_dict {kx vx tg iter : Expr} {ifs : List Expr} {scope : Scope} {pos : Pos} : ContForm X (.DictComp kx vx [⟨tg, iter, ifs, 0⟩] scope pos) tg iter ifs (innD X kx vx) where
  clause := rfl
  begins := fun it D ce R s h1 h2 => codeAny_compStart_dict h1 h2
  turns := fun it D ce R I turn n s h => compLoop_anyD I turn n h
theorem new_dict {u0 : Addr → HO} (g : ∀ (H : Hp) (h : Heap), sysModules < h.objs.size → ObjOk X.prog X.w H (h.push { cls := .type "dict", data := .dict #[] }) h.objs.size (u0 h.objs.size)) : ContNew X newDict { cls := .type "dict", data := .dict #[] } u0 where
  makes := fun s Q E h => wpAny_newObj_type h
  good := g
  free := rfl
def kkK (tk tv : TE) : Addr → St → Hp → (Hp → Prop) → Prop := fun D σ H Nx => tk σ H fun y H1 => tv σ H1 fun z H2 => ∃ kvs k, y = kV k ∧ H2 D = some (.dK kvs) ∧ kvs.length < sizeLine ∧ Nx (upd H2 D (.dK (putK kvs k z)))
def kkN (P : Program) (w : World) (tk tv : TE) : Addr → St → Hp → (Hp → Prop) → Prop := fun D σ H Nx => tk σ H fun y H1 => tv σ H1 fun z H2 => ∃ xs k a q, y = .ref a ∧ z = .ref q ∧ H2 D = some (NDict P w D xs) ∧ NKeys H2 xs ∧ NKeyAt H2 k a ∧ xs.length < sizeLine ∧ Nx (upd H2 D (NDict P w D (putN xs k a q)))
section
variable {kx vx tg iter : Expr} {ifs : List Expr} {scope : Scope} {own : List (Str × Nat)} {pos : Pos} {wi : TI} {g : TG} {tt : TT} {tk tv : TE}
theorem pe_dcK (hc : X.calm = true) (hN : X.N.Nodup) (hi : PI X tg iter wi) (ok : BlkOk X.N X.env.scope scope own)
    (hg : ∀ (s : Shared) (H : Hp) (C : Addr) (cl : List (Str × Addr)) (fp : List Addr), PG (X.blk s H scope (compEnvC scope cl C X.env) fp) tg g) (ht : ∀ (s : Shared) (H : Hp) (C : Addr) (cl : List (Str × Addr)) (fp : List Addr), PTs (X.blk s H scope (compEnvC scope cl C X.env) fp) ifs tt)
    (hk : ∀ (s : Shared) (H : Hp) (C : Addr) (cl : List (Str × Addr)) (fp : List Addr), PE (X.blk s H scope (compEnvC scope cl C X.env) fp) kx tk) (hv : ∀ (s : Shared) (H : Hp) (C : Addr) (cl : List (Str × Addr)) (fp : List Addr), PE (X.blk s H scope (compEnvC scope cl C X.env) fp) vx tv)
    (hs : ∀ x, foldedSetIterable iter X.env x = pure x := by intro _; rfl) : PE X (.DictComp kx vx [⟨tg, iter, ifs, 0⟩] scope pos) (tCont (fun _ => .dK []) wi g tt (kkK tk tv) (own.map (·.2))) := by
  refine ⟨fun pins s σ H Q I h => ?_⟩
  rw [arm_eval_DictComp]
  refine cont_core hc hN I hi ok form_dict (new_dict fun H h hb => dk_empty h hb) (fun s0 H0 C cl fp D pins σ H s Nx P En I' hkk fin => ?_) hg ht hs h
  refine thnF ((hk s0 H0 C cl fp).run pins s σ H _ I' hkk) fun z s1 ⟨y, H1, I1, r1, q1⟩ => ?_
  refine thnF ((hv s0 H0 C cl fp).run pins s1 σ H1 _ I1 q1) fun z2 s2 ⟨y2, H2, I2, r2, kvs, k, ey, hD, hz, nx⟩ => ?_
  subst ey
  exact d_dictSet (X := X.blk s0 H0 scope (compEnvC scope cl C X.env) fp) I2 hD hz r1 r2 fun s3 I3 => fin s3 _ I3 nx
theorem pe_dcN (hu : X.A.units + 9 < cLine) (hc : X.calm = true) (hN : X.N.Nodup) (hi : PI X tg iter wi) (ok : BlkOk X.N X.env.scope scope own)
    (hg : ∀ (s : Shared) (H : Hp) (C : Addr) (cl : List (Str × Addr)) (fp : List Addr), PG (X.blk s H scope (compEnvC scope cl C X.env) fp) tg g) (ht : ∀ (s : Shared) (H : Hp) (C : Addr) (cl : List (Str × Addr)) (fp : List Addr), PTs (X.blk s H scope (compEnvC scope cl C X.env) fp) ifs tt)
    (hk : ∀ (s : Shared) (H : Hp) (C : Addr) (cl : List (Str × Addr)) (fp : List Addr), PE (X.blk s H scope (compEnvC scope cl C X.env) fp) kx tk) (hv : ∀ (s : Shared) (H : Hp) (C : Addr) (cl : List (Str × Addr)) (fp : List Addr), PE (X.blk s H scope (compEnvC scope cl C X.env) fp) vx tv)
    (hs : ∀ x, foldedSetIterable iter X.env x = pure x := by intro _; rfl) : PE X (.DictComp kx vx [⟨tg, iter, ifs, 0⟩] scope pos) (tCont (fun D => NDict X.prog X.w D []) wi g tt (kkN X.prog X.w tk tv) (own.map (·.2))) := by
  refine ⟨fun pins s σ H Q I h => ?_⟩
  rw [arm_eval_DictComp]
  refine cont_core hc hN I hi ok form_dict (new_dict fun H h hb => n_empty h hb) (fun s0 H0 C cl fp D pins σ H s Nx P En I' hkk fin => ?_) hg ht hs h
  refine thnF ((hk s0 H0 C cl fp).run pins s σ H _ I' hkk) fun z s1 ⟨y, H1, I1, r1, q1⟩ => ?_
  refine thnF ((hv s0 H0 C cl fp).run pins s1 σ H1 _ I1 q1) fun z2 s2 ⟨y2, H2, I2, r2, xs, k, a, q, ey, ez, hD, hks, hka, hz, nx⟩ => ?_
  subst ey ez
  obtain rfl : z = Value.ref a := r1
  obtain rfl : z2 = Value.ref q := r2
  exact wpAny_dictSet_heap (knd := nestedKind X.prog X.w) (k := nk k) (hsz := by rw [List.length_map]; omega) (by show X.A.units + 8 < cLine; omega) (nkey_is (X := X.blk s0 H0 scope (compEnvC scope cl C X.env) fp) I2 hka) (nd_of (X := X.blk s0 H0 scope (compEnvC scope cl C X.env) fp) I2 (.inl hD) hks)
    fun h' dd hs => fin _ _ (ndict_put (X := X.blk s0 H0 scope (compEnvC scope cl C X.env) fp) I2 hD hz dd hs) nx
end
end
end L2.RK
/-! walks of a locked dict keyed by ((ints), int): its keys, its items -/
namespace L2.RK
open PySem PySem.Spec PyProof.Rows
section
variable {X : Cx} {pins : List (Addr × Obj)} {σ : St} {H : Hp} {s : Shared} {d : Addr} {o : Obj}
theorem frzN {xs : List NE} (I : Inv X pins σ H s) (h : H d = some (.frz o (NDict X.prog X.w d xs))) :
    (d == sysModules) = false ∧ s.heap.get? d = some o ∧ o.ExactDict ∧ ∃ (es : Array DictEntry) (ep : Nat), o.data = .dict es ep ∧ es.size = xs.length ∧ es.size ≤ sizeLine ∧
      ∀ (i : Nat) (e : NE), xs[i]? = some e → ∃ en : DictEntry, es[i]? = some en ∧ en.key = .ref e.2.1 ∧ en.val = .ref e.2.2 := by
  obtain ⟨hd, z⟩ := I.hok d _ h
  obtain ⟨z, y, o', es, ep, ho, hx, hdt, he, _⟩ := z.1
  rw [hd] at ho
  cases ho
  have l1 : es.size = (xs.map nEnt).length := size_of_entries he
  rw [List.length_map] at l1
  refine ⟨y, hd, hx, es, ep, hdt, l1, by omega, fun i e hi => ?_⟩
  have q := entry_at he i
  rw [List.getElem?_map, hi] at q
  exact ⟨_, q, rfl, rfl⟩
end
def Itkn (P : Program) (w : World) (d : Addr) (o : Obj) (xs : List NE) : It :=
  ⟨fun i H => H d = some (.frz o (NDict P w d xs)) ∧ i < xs.length, fun i H x H' => H' = H ∧ ∃ e, xs[i]? = some e ∧ x = .ref e.2.1, fun i H => H d = some (.frz o (NDict P w d xs)) ∧ xs.length ≤ i⟩
def Itin (P : Program) (w : World) (d : Addr) (o : Obj) (xs : List NE) : It :=
  ⟨fun i H => H d = some (.frz o (NDict P w d xs)) ∧ i < xs.length, fun i H x H' => ∃ T e, xs[i]? = some e ∧ x = .ref T ∧ H T = none ∧ H' = upd H T (.tup [.ref e.2.1, .ref e.2.2]), fun i H => H d = some (.frz o (NDict P w d xs)) ∧ xs.length ≤ i⟩
section
variable {P : Program} {w : World} {K : PySem.W.Frag} {tg : Expr} {d : Addr} {o : Obj} {es : Array DictEntry} {ep : Nat} {xs : List NE}
theorem walk_keysN : Walk (Itkn P w d o xs) xs.length (fun H => H d = some (.frz o (NDict P w d xs))) (fun i H x H' => H' = H ∧ ∃ e, xs[i]? = some e ∧ x = .ref e.2.1) :=
  ⟨fun _ _ hi q => ⟨q, hi⟩, fun _ q => ⟨q, Nat.le_refl _⟩, fun _ _ _ _ _ _ y => y⟩
theorem walk_itemsN : Walk (Itin P w d o xs) xs.length (fun H => H d = some (.frz o (NDict P w d xs))) (fun i H x H' => ∃ T e, xs[i]? = some e ∧ x = .ref T ∧ H T = none ∧ H' = upd H T (.tup [.ref e.2.1, .ref e.2.2])) :=
  ⟨fun _ _ hi q => ⟨q, hi⟩, fun _ q => ⟨q, Nat.le_refl _⟩, fun _ _ _ _ _ _ y => y⟩
theorem turn_keysN (it : Addr) (hod : o.data = .dict es ep) : Turn P w K tg (Itkn P w d o xs) [it] it (fun i h => h.IsKeyIter it d i xs.length ep) where
  mem := by simp
  obj := fun i h st b hb => by
    obtain rfl : b = it := by simpa using hb
    obtain ⟨oi, e, c, dd⟩ := st
    exact ⟨oi, e, fun v z => by rw [dd] at z; cases z⟩
  keep := fun i h h' st k => st.at fun oi e => k it (by simp) oi e
  item := by
    intro X hP hw hK hc i pins s σ H E I hf st hg
    subst hP hw hK
    obtain ⟨hd, hi⟩ := hg
    obtain ⟨f0, f1, f2, f3, f4, f5⟩ := hf it (by simp)
    obtain ⟨hs, hgd, hx, es', ep', hdt, hsz, _, ent⟩ := frzN I hd
    obtain ⟨rfl, rfl⟩ := dict_ep hod hdt
    obtain ⟨en, hen, hkey, _⟩ := ent i _ (List.getElem?_eq_getElem hi)
    refine next_key_item st hgd hdt hsz hen fun h' st' sb => ?_
    have I1 : Inv X pins σ H { s with heap := h' } := I.turned (t' := s.toks) (fun b ob hb e => (sb.2 b hb).trans e) f0 f1 f3 f4 f5
    obtain ⟨oi, e, c, dd⟩ := id st'
    exact ⟨en.key, rfl, go_of (s := { s with heap := h' }) e c dd (by decide) ⟨.ref (xs[i]).2.1, H, I1, hkey, ⟨rfl, _, List.getElem?_eq_getElem hi, rfl⟩, st', fun b hb => (hf b hb).1⟩⟩
  done := by
    intro X hP hw hK hc i pins s σ H E I hf st hg
    subst hP hw hK
    obtain ⟨hd, hi⟩ := hg
    obtain ⟨f0, f1, f2, f3, f4, f5⟩ := hf it (by simp)
    obtain ⟨hs, hgd, hx, es', ep', hdt, hsz, _, _⟩ := frzN I hd
    obtain ⟨rfl, rfl⟩ := dict_ep hod hdt
    exact next_key_end (I.ok.hd hc) st hgd hdt hsz hi fun h' eb => ⟨rfl, I.turned (t' := s.toks) (fun b ob hb e => eb b ob hb e) f0 f1 f3 f4 f5⟩
  self := fun A i s Q E st h => wpAny_pyIter_keyiter st h
theorem turn_itemsN {elts : List Expr} {kk : Nat} {tpos : Pos} (it : Addr) (hod : o.data = .dict es ep) :
    Turn P w K (.Tuple elts kk tpos) (Itin P w d o xs) [it] it (fun i h => ∃ ok ov, IsItemIter h it d i xs.length ep ok ov) where
  mem := by simp
  obj := fun i h st b hb => by
    obtain rfl : b = it := by simpa using hb
    obtain ⟨ok, ov, e⟩ := st
    exact ⟨_, e, fun v z => nomatch z⟩
  keep := fun i h h' st k => let ⟨ok, ov, e⟩ := st; ⟨ok, ov, k it (by simp) _ e⟩
  item := by
    intro X hP hw hK hc i pins s σ H E I hf st hg
    subst hP hw hK
    obtain ⟨hd, hi⟩ := hg
    obtain ⟨hs, hgd, hx, es', ep', hdt, hsz, _, ent⟩ := frzN I hd
    obtain ⟨rfl, rfl⟩ := dict_ep hod hdt
    obtain ⟨en, hen, hkey, hval⟩ := ent i _ (List.getElem?_eq_getElem hi)
    obtain ⟨ok, ov, he⟩ := st
    rw [← hsz] at he
    have hlt : it < s.heap.objs.size := Heap.lt_size he
    have hie : i < es'.size := by omega
    have een : es'[i] = en := by
      rw [Array.getElem?_eq_getElem hie] at hen
      exact Option.some.inj hen
    refine DT.nextI he ⟨o, hgd, hx, hdt⟩ hie fun h' ho hT hz hk => ?_
    rw [een, hkey, hval] at ho hT
    refine ⟨_, rfl, wpAny_letOwnedTupleGo_items (s := { s with heap := h' }) ho fun h'' he' sb => ?_⟩
    have hT2 : h''.get? s.heap.objs.size = some { cls := .type "tuple", data := .seq #[.ref (xs[i]).2.1, .ref (xs[i]).2.2] } := (sb.2 _ (Nat.ne_of_gt hlt)).trans hT
    have new : ObjOk X.prog X.w (upd H s.heap.objs.size (.tup [.ref (xs[i]).2.1, .ref (xs[i]).2.2])) h'' s.heap.objs.size (.tup [.ref (xs[i]).2.1, .ref (xs[i]).2.2]) :=
      ⟨by show 2 ≤ sizeLine; decide, [.ref (xs[i]).2.1, .ref (xs[i]).2.2], .cons rfl (.cons rfl .nil), ⟨_, hT2, rfl, _, rfl⟩⟩
    have I1 : Inv X pins σ (upd H s.heap.objs.size (.tup [.ref (xs[i]).2.1, .ref (xs[i]).2.2])) { s with heap := h'' } :=
      I.turnedNew (t' := s.toks) (ch := [it]) (fun b ob hb e => (sb.2 b (by simpa using hb)).trans (hk b ob (by simpa using hb) e)) hf (Nat.le_refl _) new
    refine ⟨.ref s.heap.objs.size, _, I1, rfl, ⟨_, _, List.getElem?_eq_getElem hi, rfl, I.hok.fresh (Nat.le_refl _), rfl⟩, ⟨_, _, by rw [← hsz]; exact he'⟩, fun b hb => ?_⟩
    obtain rfl : b = it := by simpa using hb
    rw [upd_ne (Nat.ne_of_lt hlt)]
    exact (hf b (by simp)).1
  done := by
    intro X hP hw hK hc i pins s σ H E I hf st hg
    subst hP hw hK
    obtain ⟨hd, hi⟩ := hg
    obtain ⟨f0, f1, f2, f3, f4, f5⟩ := hf it (by simp)
    obtain ⟨hs, hgd, hx, es', ep', hdt, hsz, _, ent⟩ := frzN I hd
    obtain ⟨rfl, rfl⟩ := dict_ep hod hdt
    obtain ⟨ok, ov, he⟩ := st
    rw [← hsz] at he
    exact DT.endI (I.ok.hd hc) he ⟨o, hgd, hx, hdt⟩ (by omega) fun h' eb => ⟨rfl, I.turned (t' := s.toks) (fun b ob hb e => eb b ob hb e) f0 f1 f3 f4 f5⟩
  self := fun A i s Q E st h => let ⟨_, _, e⟩ := st; PySem.W.kcp_self e h
end
section
variable {X : Cx} {tg e : Expr} {td : TE} {apos cpos : Pos}
def iKeysN (X : Cx) (td : TE) : TI := fun σ H R => td σ H fun x H1 => ∃ d o xs, x = .ref d ∧ H1 d = some (.frz o (NDict X.prog X.w d xs)) ∧ R (Itkn X.prog X.w d o xs) H1
def iItemsN (X : Cx) (td : TE) : TI := fun σ H R => td σ H fun x H1 => ∃ d o xs, x = .ref d ∧ H1 d = some (.frz o (NDict X.prog X.w d xs)) ∧ R (Itin X.prog X.w d o xs) H1
theorem pi_keysN (he : PE X e td) : PI X tg e (iKeysN X td) := by
  refine ⟨fun pins s σ H R I h => ?_⟩
  refine thn (he.run pins s σ H _ I h) fun u s1 ⟨x, H1, I1, rx, d, o, xs, ex, hd, q⟩ => ?_
  subst ex
  obtain rfl : u = Value.ref d := rx
  obtain ⟨hs, hgd, hx, es, ep, hdt, hsz, _, _⟩ := frzN I1 hd
  refine iter_keys hs hgd hx hdt (pi_one (tk := s1.toks) I1 _ (turn_keysN _ hdt) ⟨_, Heap.get?_push_size _ rfl, rfl, ?_⟩ q)
  rw [hsz] <;> rfl
theorem pi_itemsN {elts : List Expr} {kk : Nat} {tpos : Pos} (he : PE X e td) (hbase : attributeBase e "items" X.env (eval e X.env) = eval e X.env := by rfl) (hline : (apos.endLine == cpos.line) = true := by rfl) :
    PI X (.Tuple elts kk tpos) (.Call (.Attribute e "items" apos) [] [] cpos) (iItemsN X td) := by
  refine ⟨fun pins s σ H R I h => ?_⟩
  refine wpAny_Call_method (T := "dict") (id := "dict.items") hbase rfl hline F.plainAttrs_dict F.slot_dict_items F.type_dict_items (thn (he.run pins s σ H _ I h) fun u s1 ⟨x, H1, I1, rx, d, o, xs, ex, hd, q⟩ => ?_)
  subst ex
  obtain rfl : u = Value.ref d := rx
  obtain ⟨hs, hgd, hx, es, ep, hdt, hsz, _, _⟩ := frzN I1 hd
  refine ⟨⟨o, hgd, hx.1⟩, fun b z => by cases z; exact ⟨o, hgd, hx.2.1⟩, ?_⟩
  have I2 : Inv X pins σ H1 { s1 with heap := s1.heap.push { cls := .type "dict_items", data := .fields #[.ref d] } } := I1.kept (t' := s1.toks) fun b ob q => Heap.get?_push_of_some _ q
  have fin : wpAny (model X.prog X.w) X.A (pyIter (.ref s1.heap.objs.size)) (PIE X pins σ (.Tuple elts kk tpos) R) X.xe { s1 with heap := s1.heap.push { cls := .type "dict_items", data := .fields #[.ref d] } } := by
    refine DT.iterI (d := d) (es := es) (ep := ep) ⟨_, Heap.get?_push_size _ rfl, rfl, rfl⟩ ⟨o, Heap.get?_push_of_some _ hgd, hx, hdt⟩ (pi_one (tk := s1.toks) I2 _ (turn_itemsN _ hdt) ⟨.none, .none, ?_⟩ q)
    rw [← hsz]
    exact Heap.get?_push_size _ rfl
  show wpAny _ _ (callWith cpos (.builtin "dict.items") [.ref d] [] []) _ X.xe s1
  exact method_meetsIn F.slot_dict_items F.entry_dict_items rfl (PySem.evalArgs_none ⟨rfl, ⟨o, hgd, hx.1⟩, F.args_dict_items_1 _, _, DT.meetsItems (es := es) (ep := ep) hs, ⟨o, hgd, hx, hdt⟩, fin⟩)
end
end L2.RK
/-! min(list, key=lambda x: x[0]) over a list of tuples whose first item is an int -/
namespace L2.RK
open PySem PySem.Spec PyProof.Rows LamX
section
variable {prog : Program} {w : World} {A : Around} {E : Value → Shared → Prop} {s : Shared} {Q : Value → Shared → Prop}
/-- the lambda's call, by its function object and its code object -/
theorem kone_turn {qual : Str} {x : Str} {params : Arguments} {scope : Scope} {cl : List (Str × Addr)} {pm ctv : Value} {q c' p : Addr} {items : Array Value} {k : Int} {t : Tok} {p1 p2 p3 : Pos} {k0 : Nat}
    (hd : A.depth < recursionLimit) (hlim : s.heap.NoLimit) (hq : s.heap.get? q = some (PySem.W.kla_obj "<lambda>" qual params (.Subscript (.Name x p1) (.Constant (.int 0) k0 p2) p3) scope cl pm c' ctv))
    (hco : scope.isCoroutine = false) (hgen : scope.isGenerator = false) (hcd : s.heap.CodeRec (.ref c') qual) (hbind : ∀ (cv : Value) (v : Value), bindArgs (PySem.W.kla_fn "<lambda>" qual params (.Subscript (.Name x p1) (.Constant (.int 0) k0 p2) p3) scope cl pm cv ctv) ⟨[v], []⟩ = pure [(x, v)])
    (hsc : scope.names = [(x, .local)]) (hk : scope.kind = .function) (hp : IsTup s.heap p items) (h0 : items[0]? = some (.int k t)) (hz : items.size ≤ sizeLine) (hdb : (x == ("__debug__" : Str)) = false)
    (h : ∀ h' tk, (∀ b o, s.heap.get? b = some o → h'.get? b = some o) → s.toks ≤ tk → Q (.int k t) { s with heap := h', toks := tk }) : wpAny (model prog w) A (call (.ref q) [.ref p]) Q E s := by
  refine wpAny_call (PySem.W.kla_callFunE hd hq rfl hco hgen rfl hcd ?_)
  rw [hbind]
  have hl : scope.names.lookup x = some .local := by rw [hsc]; simp [List.lookup]
  refine wpAny_pure (wpAny_newFunctionEnv (fun y hy => by rw [hsc] at hy; rw [List.mem_singleton.mp hy]; intro z; cases z) (fun y hy => by rw [List.mem_singleton.mp hy]; exact hl) (fun h₁ hns hsb => ⟨hlim.fresh _ hsb, ?_⟩) hk)
  have kp : ∀ b o, s.heap.get? b = some o → h₁.get? b = some o := fun b o e => hsb.extBut b o (Nat.ne_of_lt (Heap.lt_size e)) (Heap.get?_push_of_some _ e)
  refine PySem.W.kla_codeExpr ?_
  refine Subscript_ (wpAny_Name (wpAny_loadName_local (v := .ref p) hk hl hns (by simp [List.lookup]) ?_) hdb)
  refine wpAny_Constant_int ?_
  obtain ⟨o, ho, hc, n, hdt⟩ := hp
  have ht : IsTup h₁ p items := ⟨o, kp _ _ ho, hc, n, hdt⟩
  have hn := line63
  have hpos : 0 < items.size := by
    rcases Nat.eq_zero_or_pos items.size with z | z
    · rw [Array.getElem?_eq_none (by omega)] at h0; cases h0
    · exact z
  refine subscriptTail_builtinR (x := .int k t) ⟨o, kp _ _ ho, hc⟩ slot_tuple_getitem.lookup (getItem_tuple (j := 0) ht (by omega) (by omega) (by rw [seqIndex_of (by omega) (by omega)]; rfl) h0 ⟨rfl, ?_⟩)
  exact h _ _ kp (by show s.toks ≤ s.toks + 1 + 1; omega)
end
/-- min(t, key=lambda x: x[0]): one of the list's tuples -/
def tMinK (K : PySem.W.Frag) (T : List (Addr × Str)) (t : TE) : TE := fun σ H Q => t σ H fun x H1 => Tabs T H1 ∧ ∃ (a : Addr) (xs : List V), x = .ref a ∧ SqL K H1 a xs ∧ 0 < xs.length ∧
  (∀ v ∈ xs, ∃ (p : Addr) (ys : List V) (k : Int), v = .ref p ∧ SqT K H1 p (.int k :: ys)) ∧ ∀ (v : V) (H2 : Hp), v ∈ xs → ExtN H1 H2 → Tabs T H2 → Q v H2
section
variable {X : Cx}
theorem SqT.extN {K : PySem.W.Frag} {H H' : Hp} {p : Addr} {xs : List V} (h : SqT K H p xs) (e : ExtN H H') : SqT K H' p xs := by
  rcases h with z | z
  · rcases z with z | ⟨o, z⟩
    · exact .inl (.inl (e _ _ z (fun ps q => by cases q)))
    · exact .inl (.inr ⟨o, e _ _ z (fun ps q => by cases q)⟩)
  · exact .inr z
theorem SqL.extN {K : PySem.W.Frag} {H H' : Hp} {p : Addr} {xs : List V} (h : SqL K H p xs) (e : ExtN H H') : SqL K H' p xs := by
  rcases h with z | z
  · rcases z with z | ⟨o, z⟩
    · exact .inl (.inl (e _ _ z (fun ps q => by cases q)))
    · exact .inl (.inr ⟨o, e _ _ z (fun ps q => by cases q)⟩)
  · exact .inr z
theorem pe_minK {T : List (Addr × Str)} {c P : Addr} {n : Nat} {e : Expr} {te : TE} {x : Str} {params : Arguments} {scope : Scope} {p p1 p2 p3 lpos kpos pos : Pos} {k0 : Nat} (he : PE X e te) (hg : Gl X "min") (hm : X.mg "min" = none)
    (TB : TabB X.base X.mg c P) (hcode : X.env.code = .ref c) (hmT : (P, X.env.qual ++ "<lambda>") ∈ T) (hu : ∀ p ∈ T, p.1 = P → p.2 = X.env.qual ++ "<lambda>") (hr : Room n X.A) (hdef : defaultsOf params X.env = ([], []))
    (hbind : ∀ (q : Str) (cl : List (Str × Addr)) (pm cv ctv v : Value), bindArgs (PySem.W.kla_fn "<lambda>" q params (.Subscript (.Name x p1) (.Constant (.int 0) k0 p2) p3) scope cl pm cv ctv) ⟨[v], []⟩ = pure [(x, v)])
    (hsc : scope.names = [(x, .local)]) (hk : scope.kind = .function) (hco : scope.isCoroutine = false) (hgen : scope.isGenerator = false) (hdb : (x == ("__debug__" : Str)) = false)
    (hst : backTo pos (starEach [e] X.env) = (false, eval e X.env) :: backTo pos (starEach [] X.env) := by rfl) (hpl : (backTo pos (starEach [e] X.env)).any (·.1) = false := by rfl) :
    PE X (.Call (.Name "min" p) [e] [⟨some "key", .Lambda params (.Subscript (.Name x p1) (.Constant (.int 0) k0 p2) p3) scope lpos, kpos⟩] pos) (tMinK X.K T te) := by
  refine ⟨fun pins s σ H Q I h => ?_⟩
  refine wpAny_Call_Name_kw (ld_blt (u := .builtin "min") I hg hm rfl ?_ (by decide) (by decide))
  refine PyProof.Rows.callWith_kw ?_ hst hpl
  rw [hst]
  refine Calls.spliced_cons (thn (he.run pins s σ H _ I h) fun u s1 ⟨v, H1, I1, r1, hT, a, xs, ev, hs, hlen, hall, q1⟩ => ?_)
  subst ev
  obtain rfl : u = Value.ref a := r1
  refine Calls.spliced_nil ?_
  refine wpAny_evalAll_cons (wpAny_bind ?_)
  refine lam_make2 I1 TB hcode hmT hu hT hdef (fun y hy e => by rw [hsc] at hy; rw [List.mem_singleton.mp hy] at e; cases e) fun f c' pm ctv H2 s2 I2 eN T2 hf hfn hfr hc => ?_
  refine wpAny_bind (wpAny_standAt (wpAny_pure (wpAny_evalAll_nil ?_)))
  have hs2 : SqL X.K H2 a xs := SqL.extN hs eN
  obtain ⟨its, rv, pl, hz⟩ := I2.list hs2
  have hl := rv.length
  have cR : s2.heap.CodeRec (.ref c') (X.env.qual ++ "<lambda>") := by
    obtain ⟨⟨oc, vs, t, e1, e2, e3⟩, _⟩ := I2.hok c' _ hc
    exact ⟨c', oc, vs, t, rfl, e1, e2, e3⟩
  have key : ∀ i : Nat, ∃ k : Int, ∀ v : Value, its[i]? = some v → ∃ (p : Addr) (items : Array Value) (t : Tok), v = Value.ref p ∧ IsTup s2.heap p items ∧ items[0]? = some (Value.int k t) ∧ items.size ≤ sizeLine := fun i => by
    cases e : its[i]? with
    | none => exact ⟨0, fun v z => by cases z⟩
    | some v =>
      have hi : i < its.length := (List.getElem?_eq_some_iff.mp e).1
      have ey : xs[i]? = some (xs[i]'(by omega)) := List.getElem?_eq_getElem (by omega)
      obtain ⟨u, eu, ru⟩ := rv.get ey
      rw [e] at eu; cases eu
      obtain ⟨p, ys, k, ek, hp⟩ := hall _ (List.mem_of_getElem? ey)
      rw [ek] at ru
      obtain ⟨it2, r2, pl2, hz2⟩ := I2.tuple (SqT.extN hp eN)
      cases r2 with
      | cons rr tl =>
        obtain ⟨t, rfl⟩ := rr
        refine ⟨k, fun v' z => ?_⟩
        cases z
        exact ⟨p, _, t, ru, pl2, rfl, by have := tl.length; simp at hz2 ⊢; omega⟩
  obtain ⟨kf, hkf⟩ := Classical.axiomOfChoice key
  let J : Shared → Prop := fun s' => (∀ b o, s2.heap.get? b = some o → s'.heap.get? b = some o) ∧ s'.gens = s2.gens ∧ s'.drawn = s2.drawn ∧ s'.os = s2.os
  show wpAny _ _ (call (.builtin "min") [.ref a] [(Str.ofString "key", .ref f)]) _ _ s2
  refine call_min_walkK (wpAny_pyIter_list pl.isList ?_)
  have hh : X.A.handled = none := hr.hd
  have lt2 : ∀ b o, s2.heap.get? b = some o → b < s2.heap.objs.size := fun b o e => Heap.lt_size e
  have hla : a < s2.heap.objs.size := by
    obtain ⟨o, e, _⟩ := pl.isList
    exact lt2 _ _ e
  have hsz : (s2.heap.push { cls := .type "list_iterator", data := .fields #[.ref a, .int 0 0] }).objs.size = s2.heap.objs.size + 1 := size_push' ..
  have haI : a ≠ s2.heap.objs.size := Nat.ne_of_lt hla
  have W := (Walks.list (prog := X.prog) (w := X.w) (A := X.A.in1) hh s2.heap.objs.size a haI its.toArray).toS
  refine ⟨s2.heap.objs.size, _, _, _, its.toArray.size, _, _, J, fun i k s' => ∃ t, k = Value.int (kf i) t, fun i j => decide (kf i < kf j), rfl, W, ?_, ?_, ?_, ⟨?_, ?_, ?_, ?_⟩, ?_, ?_⟩
  · obtain ⟨o, e, hcl, hdt⟩ := pl.isList
    exact ⟨⟨_, Heap.get?_push_size _ rfl, rfl, rfl⟩, ⟨o, Heap.get?_push_of_some _ e, hcl, hdt⟩⟩
  · intro b hb
    rw [hsz]
    rcases List.mem_cons.mp hb with e | hb
    · exact e ▸ Nat.lt_succ_self _
    · rw [List.mem_singleton.mp hb]; exact Nat.lt_succ_of_lt hla
  · rw [List.size_toArray]; omega
  · intro t t' ⟨j1, j2, j3, j4⟩ m
    refine ⟨fun b o e => m.heap b o (fun hb => ?_) (j1 b o e), (show t'.gens = t.gens from m.gens).trans j2, m.drawn.trans j3, m.os.trans j4⟩
    have hb' := lt2 b o e
    rcases List.mem_cons.mp hb with q | hb
    · rw [q] at hb'
      have hb2 : (s2.heap.push { cls := .type "list_iterator", data := .fields #[.ref a, .int 0 0] }).objs.size < s2.heap.objs.size := hb'
      rw [hsz] at hb2
      exact absurd hb2 (Nat.not_lt_of_le (Nat.le_succ _))
    · rw [List.mem_singleton.mp hb] at hb'
      exact absurd hb' (Nat.lt_irrefl _)
  · intro i k t t' hv _
    exact hv
  · intro i v t o Q' E' hi hP hJ hSt hS hQ
    have hP' : its[i]? = some v := by simpa using hP
    obtain ⟨p, items, tk0, rfl, hp, h0, hz0⟩ := hkf i v hP'
    obtain ⟨op, hop, hcp, hdp⟩ := hp
    refine kone_turn (k := kf i) (t := tk0) (items := items) (qual := X.env.qual ++ "<lambda>") (hd := by have := hr.depth; exact this) (I2.nolimit.keeps hJ.1) (hJ.1 _ _ hf) hco hgen (cR.keeps hJ.1) (fun cv v => hbind _ _ _ cv _ v) hsc hk ⟨op, hJ.1 _ _ hop, hcp, hdp⟩ h0 hz0 hdb ?_
    intro h' tk' kp hle
    exact hQ (.int (kf i) tk0) _ ⟨fun b o e => kp b o (hJ.1 b o e), hJ.2.1, hJ.2.2.1, hJ.2.2.2⟩ (W.frame _ _ _ _ hSt hle fun b _ o e => kp b o e) (kp _ _ hS) ⟨tk0, rfl⟩ (fun j k' z => z)
  · intro i j ki kj t Q' E' _ ⟨ti, hi⟩ ⟨tj, hj⟩ hq
    subst hi
    subst hj
    exact HT.rcLt_int _ _ _ _ _ _ _ _ _ _ hq
  · exact ⟨fun b o e => Heap.get?_push_of_some _ e, rfl, rfl, rfl⟩
  · intro v s' hP ⟨j1, j2, j3, j4⟩
    have hP' : its[argBest (fun i j => decide (kf i < kf j)) (its.toArray.size - 1)]? = some v := by simpa using hP
    obtain ⟨y, ey⟩ : ∃ y, xs[argBest (fun i j => decide (kf i < kf j)) (its.toArray.size - 1)]? = some y := by
      have hi := (List.getElem?_eq_some_iff.mp hP').1
      exact ⟨_, List.getElem?_eq_getElem (by omega)⟩
    obtain ⟨u, eu, ru⟩ := rv.get ey
    rw [hP'] at eu; cases eu
    have I3 : Inv X pins σ H2 { s2 with heap := s'.heap, toks := s'.toks } := I2.kept j1
    have es : s' = { s2 with heap := s'.heap, toks := s'.toks } := by
      cases s'
      simp only at j2 j3 j4
      subst j2; subst j3; subst j4
      rfl
    rw [es]
    exact ⟨y, H2, I3, ru, q1 y H2 (List.mem_of_getElem? ey) eN T2⟩
end
end L2.RK
/-! words for the walks -/
namespace L2.RK
open PySem PySem.Spec PyProof.Rows
/-- what callers ask of a def -/
def Has (P : Program) (w : World) (K : PySem.W.Frag) (mg : Str → Option Value) (base : Heap) (k : Nat) (f : Addr) (ps : List Str) (sp : Sp) : Prop :=
  ∃ fd, FnOk P w K mg base CX0 k f fd ps sp ∧ Binds K fd ps [] ∧ PySem.W.keepIn K (.ref f) = true
theorem Has.mono {P : Program} {w : World} {K : PySem.W.Frag} {mg : Str → Option Value} {base : Heap} {j k : Nat} {f : Addr} {ps : List Str} {sp : Sp} (h : Has P w K mg base j f ps sp) (l : j ≤ k) : Has P w K mg base k f ps sp := by
  obtain ⟨fd, a, b, c⟩ := h
  exact ⟨fd, a.mono l, b, c⟩
section
variable {K : PySem.W.Frag} {H H' : Hp} {a : Addr} {xs : List V}
theorem _root_.L2.Same.tupT (e : Same H H') (h : SqT K H a xs) : SqT K H' a xs := by
  rcases h with z | z
  · rcases z with z | ⟨o, z⟩
    · exact .inl (.inl (e _ _ z))
    · exact .inl (.inr ⟨o, e _ _ z⟩)
  · exact .inr z
theorem _root_.L2.Same.new {p : Addr} {o : HO} (h : H p = none) : Same H (upd H p o) := fun b u e => by rw [upd_ne (ne_of_none e h)]; exact e
theorem _root_.L2.Same.put {p : Addr} {o : HO} (e : Same H H') (h : H p = none) : Same H (upd H' p o) := fun b u q => by rw [upd_ne (ne_of_none q h)]; exact e b u q
theorem _root_.L2.Same.add {p : Addr} {o : HO} (e : Same H H') (h : H' p = none) : Same H (upd H' p o) := e.trans (Same.new h)
end
/-! lists of tuples: each item with its address -/
def refs {α : Type} (xs : List (Addr × α)) : List V := xs.map fun x => V.ref x.1
def TL {α : Type} (f : α → List V) (H : Hp) (xs : List (Addr × α)) : Prop := ∀ x ∈ xs, H x.1 = some (.tup (f x.2))
section
variable {α : Type} {f : α → List V} {H H' : Hp} {xs ys : List (Addr × α)}
theorem TL.same (h : TL f H xs) (e : Same H H') : TL f H' xs := fun x hx => e _ _ (h x hx)
theorem refs_len : (refs xs).length = xs.length := List.length_map ..
theorem refs_get {i : Nat} {v : V} (h : (refs xs)[i]? = some v) : ∃ x, xs[i]? = some x ∧ v = .ref x.1 := by
  unfold refs at h
  rw [List.getElem?_map] at h
  cases e : xs[i]? with
  | none => rw [e] at h; cases h
  | some x => rw [e] at h; exact ⟨x, rfl, (Option.some.inj h).symm⟩
theorem TL.nil : TL f H [] := fun x hx => by cases hx
theorem TL.at (h : TL f H xs) {i : Nat} {x : Addr × α} (e : xs[i]? = some x) : H x.1 = some (.tup (f x.2)) := h x (List.mem_of_getElem? e)
theorem refs_app : refs (xs ++ ys) = refs xs ++ refs ys := List.map_append ..
end
theorem filter_yes {α : Type} (p : α → Bool) (xs : List α) {x : α} (h : p x = true) : (xs ++ [x]).filter p = xs.filter p ++ [x] := by rw [List.filter_append, List.filter_cons_of_pos h, List.filter_nil]
theorem filter_no {α : Type} (p : α → Bool) (xs : List α) {x : α} (h : ¬ p x = true) : (xs ++ [x]).filter p = xs.filter p := by rw [List.filter_append, List.filter_cons_of_neg h, List.filter_nil, List.append_nil]
theorem take_snoc {α : Type} {xs : List α} {i : Nat} {z : α} (h : xs[i]? = some z) : xs.take (i + 1) = xs.take i ++ [z] := by rw [List.take_add_one, h]; rfl
def TriV (s : Int × Int × Int) : List V := [.int s.1, .int s.2.1, .int s.2.2]
theorem hu2_of {k : Nat} {A : Around} (r : Room k A) : A.units + 2 < cLine := by have := r.units; omega
theorem hu9_of {k : Nat} {A : Around} (r : Room k A) : A.units + 9 < cLine := by have := r.units; omega
theorem cut1 (xs : List V) : cutV xs (some 1) none = xs.drop 1 := by
  unfold cutV
  rw [show (some (1 : Int)) = some ((1 : Nat) : Int) from rfl, HT.sIx_nat, HT.sIx_none]
  cases xs with
  | nil => rfl
  | cons x r =>
    have : min 1 (x :: r).length = 1 := by rw [List.length_cons]; omega
    rw [this]
    show r.take (r.length + 1 - 1) = r
    rw [Nat.add_sub_cancel, List.take_length]
theorem whole1 {xs : List V} (h : HT.sIx xs.length 0 (some 1) = 0) : xs = [] := by
  rw [show (some (1 : Int)) = some ((1 : Nat) : Int) from rfl, HT.sIx_nat] at h
  cases xs with
  | nil => rfl
  | cons x r => rw [List.length_cons] at h; omega
theorem at0 {α : Type} {x : α} {r : List α} : atI (x :: r) 0 = some x := atI_nat (j := 0) rfl
theorem at1 {α : Type} {x y : α} {r : List α} : atI (x :: y :: r) 1 = some y := atI_nat (j := 1) rfl
theorem map_one {α β : Type} {f : α → β} {l : List α} {a : β} (h : l.map f = [a]) : ∃ y, l = [y] ∧ f y = a := by
  cases l with
  | nil => cases h
  | cons y r =>
    cases r with
    | nil => exact ⟨y, rfl, by simpa using h⟩
    | cons z r => simp at h
theorem ifY {c A B : Prop} [Decidable c] (h : c) (a : A) : if decide c = true then A else B := by rw [decide_eq_true h]; exact iteT a
theorem ifN {c A B : Prop} [Decidable c] (h : ¬ c) (b : B) : if decide c = true then A else B := by rw [decide_eq_false h]; exact iteF b
theorem ifNY {c A B : Prop} [Decidable c] (h : c) (b : B) : if (!decide c) = true then A else B := by rw [decide_eq_true h]; exact iteF b
theorem ifNN {c A B : Prop} [Decidable c] (h : ¬ c) (a : A) : if (!decide c) = true then A else B := by rw [decide_eq_false h]; exact iteT a
theorem fmod_of {a b : Int} (h : 0 < b) : Int.fmod a b = a % b := Int.fmod_eq_emod_of_nonneg a (by omega)
theorem fdiv_of {a b : Int} (h : 0 ≤ b) : Int.fdiv a b = a / b := Int.fdiv_eq_ediv_of_nonneg a h
end L2.RK
namespace L2.RK
open PySem PySem.Spec PyProof.Rows
/-! association lists by codes -/
section
variable {α β : Type}
def lookA (xs : List (Nat × α)) (i : Nat) : Option α := (xs.find? fun e => decide (e.1 = i)).map (·.2)
def putA (xs : List (Nat × α)) (i : Nat) (a : α) : List (Nat × α) := if (xs.any fun e => decide (e.1 = i)) = true then xs.map (fun e => if e.1 = i then (e.1, a) else e) else xs ++ [(i, a)]
theorem lookA_nil (i : Nat) : lookA ([] : List (Nat × α)) i = none := rfl
theorem lookA_cons (e : Nat × α) (r : List (Nat × α)) (i : Nat) : lookA (e :: r) i = if e.1 = i then some e.2 else lookA r i := by
  unfold lookA
  by_cases h : e.1 = i
  · rw [if_pos h, List.find?_cons_of_pos (by simpa using h)]; rfl
  · rw [if_neg h, List.find?_cons_of_neg (by simpa using h)]
theorem lookA_app (a b : List (Nat × α)) (i : Nat) : lookA (a ++ b) i = (lookA a i).or (lookA b i) := by
  induction a with
  | nil => rfl
  | cons e r ih =>
    rw [List.cons_append, lookA_cons, lookA_cons, ih]
    split <;> rfl
theorem lookA_set (i : Nat) (a : α) : ∀ (xs : List (Nat × α)) (j : Nat), lookA (xs.map fun e => if e.1 = i then (e.1, a) else e) j = if j = i ∧ (lookA xs i).isSome = true then some a else lookA xs j
  | [], j => by simp [lookA_nil]
  | e :: r, j => by
    rw [List.map_cons, lookA_cons, lookA_set i a r j, lookA_cons, lookA_cons]
    by_cases h1 : e.1 = i
    · by_cases h2 : j = i
      · subst h2; simp [h1]
      · simp [h1, h2]
        rw [if_neg (fun z => h2 z.symm), if_neg (fun z => h2 z.symm)]
    · by_cases h2 : j = i
      · subst h2; simp [h1]
      · simp [h1, h2]
theorem any_look {xs : List (Nat × α)} {i : Nat} : (xs.any fun e => decide (e.1 = i)) = (lookA xs i).isSome := by
  induction xs with
  | nil => rfl
  | cons e r ih => rw [List.any_cons, lookA_cons, ih]; by_cases h : e.1 = i <;> simp [h]
theorem lookA_put (xs : List (Nat × α)) (i : Nat) (a : α) (j : Nat) : lookA (putA xs i a) j = if j = i then some a else lookA xs j := by
  unfold putA
  by_cases h : (xs.any fun e => decide (e.1 = i)) = true
  · rw [if_pos h, lookA_set]
    rw [any_look] at h
    simp [h]
  · rw [if_neg h, lookA_app, lookA_cons]
    rw [any_look] at h
    have h' : lookA xs i = none := by cases e : lookA xs i with | none => rfl | some z => rw [e] at h; exact absurd rfl h
    by_cases h2 : j = i
    · subst h2; rw [h']; simp
    · rw [if_neg h2, if_neg (fun z => h2 z.symm), lookA_nil]; cases lookA xs j <;> rfl
theorem mem_putA {xs : List (Nat × α)} {i : Nat} {a : α} {e : Nat × α} (h : e ∈ putA xs i a) : e ∈ xs ∨ e = (i, a) := by
  unfold putA at h
  split at h
  · obtain ⟨y, hy, rfl⟩ := List.mem_map.mp h
    by_cases q : y.1 = i
    · rw [if_pos q]; exact .inr (by rw [q])
    · rw [if_neg q]; exact .inl hy
  · rcases List.mem_append.mp h with h | h
    · exact .inl h
    · exact .inr (List.mem_singleton.mp h)
theorem putA_keys {xs : List (Nat × α)} {i : Nat} {a : α} (h : (xs.map (·.1)).Nodup) : ((putA xs i a).map (·.1)).Nodup := by
  unfold putA
  split
  · rw [List.map_map]
    have : (xs.map ((·.1) ∘ fun e => if e.1 = i then (e.1, a) else e)) = xs.map (·.1) := by
      refine List.map_congr_left fun e _ => ?_
      show (if e.1 = i then (e.1, a) else e).1 = e.1
      split <;> rfl
    rw [this]; exact h
  · rename_i hn
    rw [List.map_append, List.nodup_append]
    refine ⟨h, by simp, fun x hx y hy => ?_⟩
    obtain ⟨e, he, rfl⟩ := List.mem_map.mp hx
    rw [List.map_cons, List.map_nil, List.mem_singleton] at hy
    subst hy
    intro z
    exact hn (List.any_eq_true.mpr ⟨e, he, by simpa using z⟩)
theorem putA_len {xs : List (Nat × α)} {i : Nat} {a : α} : (putA xs i a).length ≤ xs.length + 1 := by
  unfold putA
  split
  · rw [List.length_map]; omega
  · simp
theorem lookA_mem {xs : List (Nat × α)} {i : Nat} {a : α} (h : lookA xs i = some a) : (i, a) ∈ xs := by
  induction xs with
  | nil => cases h
  | cons e r ih =>
    rw [lookA_cons] at h
    split at h
    · rename_i q
      cases h
      rw [← q]; exact List.mem_cons_self
    · exact List.mem_cons_of_mem _ (ih h)
theorem mem_lookA {xs : List (Nat × α)} (hn : (xs.map (·.1)).Nodup) {e : Nat × α} (h : e ∈ xs) : lookA xs e.1 = some e.2 := by
  induction xs with
  | nil => cases h
  | cons y r ih =>
    obtain ⟨h1, h2⟩ := List.nodup_cons.mp (show (y.1 :: r.map (·.1)).Nodup from hn)
    rw [lookA_cons]
    rcases List.mem_cons.mp h with rfl | h
    · rw [if_pos rfl]
    · rw [if_neg (fun q => h1 (by rw [q]; exact List.mem_map_of_mem h)), ih h2 h]
theorem sum_ge (f : α → Nat) {xs : List α} {x : α} (h : x ∈ xs) : f x ≤ (xs.map f).sum := by
  induction xs with
  | nil => cases h
  | cons y r ih =>
    rw [List.map_cons, List.sum_cons]
    rcases List.mem_cons.mp h with rfl | h
    · omega
    · have := ih h; omega
theorem sum_put (f : α → Nat) {xs : List (Nat × α)} {i : Nat} {a : α} {k : Nat} (hn : (xs.map (·.1)).Nodup) (h : f a ≤ ((lookA xs i).map f).getD 0 + k) : ((putA xs i a).map fun e => f e.2).sum ≤ (xs.map fun e => f e.2).sum + k := by
  unfold putA
  by_cases q : (xs.any fun e => decide (e.1 = i)) = true
  · rw [if_pos q]
    clear q
    induction xs with
    | nil => simp
    | cons y r ih =>
      obtain ⟨h1, h2⟩ := List.nodup_cons.mp (show (y.1 :: r.map (·.1)).Nodup from hn)
      rw [lookA_cons] at h
      simp only [List.map_cons, List.sum_cons]
      by_cases z : y.1 = i
      · rw [if_pos z] at h ⊢
        have h' : f a ≤ f y.2 + k := h
        have e : (r.map fun e => if e.1 = i then (e.1, a) else e) = r := by
          conv => rhs; rw [← List.map_id r]
          refine List.map_congr_left fun e he => ?_
          rw [if_neg (fun q => h1 (by rw [z, ← q]; exact List.mem_map_of_mem he))]; rfl
        rw [e]
        show f a + _ ≤ _
        omega
      · rw [if_neg z] at h ⊢
        have := ih h2 h
        omega
  · rw [if_neg q, List.map_append, List.sum_append]
    rw [any_look] at q
    have e : lookA xs i = none := by cases e : lookA xs i with | none => rfl | some z => rw [e] at q; exact absurd rfl q
    rw [e] at h
    have h' : f a ≤ 0 + k := h
    simp
    omega
/-! what a sorted list of codes gives, one behind another -/
theorem flat_sorted {g : Nat → List β} : ∀ {is : List Nat} {n lo : Nat}, is.Pairwise (· < ·) → (∀ i ∈ is, lo ≤ i ∧ i < lo + n) → (∀ i, lo ≤ i → i < lo + n → i ∉ is → g i = []) → is.flatMap g = (List.range' lo n).flatMap g
  | [], 0, lo, _, _, _ => rfl
  | [], n + 1, lo, h1, h2, h3 => by
    rw [List.range'_succ, List.flatMap_cons, h3 lo (Nat.le_refl _) (by omega) (by simp), List.nil_append]
    exact flat_sorted (is := []) h1 (fun i hi => by cases hi) fun i a b c => h3 i (by omega) (by omega) c
  | i :: r, 0, lo, _, h2, _ => by have := h2 i List.mem_cons_self; omega
  | i :: r, n + 1, lo, h1, h2, h3 => by
    obtain ⟨h4, h5⟩ := List.pairwise_cons.mp h1
    rw [List.range'_succ, List.flatMap_cons (x := lo)]
    by_cases e : i = lo
    · subst e
      rw [List.flatMap_cons, flat_sorted (n := n) (lo := i + 1) h5 (fun j hj => ⟨h4 j hj, by have := (h2 j (List.mem_cons_of_mem _ hj)).2; omega⟩) fun j a b c => h3 j (by omega) (by omega) fun z => by
        rcases List.mem_cons.mp z with z | z
        · omega
        · exact c z]
    · have hi := h2 i List.mem_cons_self
      rw [h3 lo (Nat.le_refl _) (by omega) (fun z => by
        rcases List.mem_cons.mp z with z | z
        · exact e z.symm
        · have := h4 lo z; omega), List.nil_append]
      refine flat_sorted (is := i :: r) h1 (fun j hj => ?_) fun j a b c => h3 j (by omega) (by omega) c
      have := h2 j hj
      rcases List.mem_cons.mp hj with rfl | hj
      · omega
      · have := h4 j hj; omega
end
/-! things and what they do -/
inductive Th where
  | on (c k f : Nat) | off (c k f : Nat) | knob (c k v : Nat) | voice (c p : Nat) | mark (x : Str)
def thV : Th → List V
  | .on c k f => [.str "on", .int c, .int k, .int f]
  | .off c k f => [.str "off", .int c, .int k, .int f]
  | .knob c k v => [.str "knob", .int c, .int k, .int v]
  | .voice c p => [.str "voice", .int c, .int p]
  | .mark x => [.str "mark", .str x]
def ThOk : Th → Prop
  | .on c k f => c < 16 ∧ k < 128 ∧ f < 128
  | .off c k f => c < 16 ∧ k < 128 ∧ f < 128
  | .knob c k v => c < 16 ∧ k < 128 ∧ v < 128
  | .voice c p => c < 16 ∧ p < 128
  | .mark x => x.length ≤ 12
abbrev Ev : Type := Int × Th
def evV (e : Ev) : List V := .int e.1 :: thV e.2
structure Snd where
  ring : Nat → List Int
  knob : Nat → Int
  voice : Nat → Int
theorem Snd.same {S S' : Snd} (h1 : S.ring = S'.ring) (h2 : S.knob = S'.knob) (h3 : S.voice = S'.voice) : S = S' := by cases S; cases S'; simp only at h1 h2 h3; subst h1 h2 h3; rfl
def Snd.none : Snd := ⟨fun _ => [], fun _ => 0, fun _ => 0⟩
def setF {α : Type} (f : Nat → α) (i : Nat) (a : α) : Nat → α := fun j => if j = i then a else f j
def stepS (S : Snd) : Th → Snd
  | .on c k f => { S with ring := setF S.ring (c * 128 + k) (S.ring (c * 128 + k) ++ [(f : Int)]) }
  | .off c k _ => { S with ring := setF S.ring (c * 128 + k) ((S.ring (c * 128 + k)).drop 1) }
  | .knob c k v => { S with knob := setF S.knob (c * 128 + k) (v : Int) }
  | .voice c p => { S with voice := setF S.voice c (p : Int) }
  | .mark _ => S
/-- the sounds, the knobs, the voices as they are listed -/
def sndL (S : Snd) : List (Int × Int × Int) := (List.range' 0 2048).flatMap fun i => (S.ring i).map fun f => (((i / 128 : Nat) : Int), ((i % 128 : Nat) : Int), f)
def knobL (S : Snd) : List (Int × Int × Int) := (List.range' 0 2048).flatMap fun i => if S.knob i > 0 then [(((i / 128 : Nat) : Int), ((i % 128 : Nat) : Int), S.knob i)] else []
def voiceL (S : Snd) : List (Int × Int) := (List.range' 0 16).flatMap fun i => if S.voice i > 0 then [((i : Int), S.voice i)] else []
end L2.RK
namespace L2.RK
open PySem PySem.Spec PyProof.Rows
section
variable {P : Program} {w : World} {K : PySem.W.Frag} {mg : Str → Option Value} {base : Heap}
theorem scNeedTick : FnScope ["tick"] ["tick"] (defScope sNeedTick) := ⟨rfl, rfl, rfl, by decide +kernel, rfl, by decide +kernel, by decide +kernel⟩
def spNeedTick : Sp := fun vs H Q _ => ∃ n : Int, vs = [.int n] ∧ 0 ≤ n ∧ n ≤ 999999 ∧ Q .non H
theorem ok_need_tick (T : Txt K mg w) : Has P w K mg base 1 (gA K "need_tick") ["tick"] spNeedTick := by
  obtain ⟨fd, F⟩ := T.fNeedTick
  obtain ⟨t, hM⟩ := T.iMOST_TICK
  refine ⟨fd, F.ok scNeedTick (fun vs H Q E h => ?_) (fun cdv A outer s H vs Q E hr h => ⟨_, PSs.nox (pss_one (ps_if (pt_not (pt_chain op_le op_le pe_int (pv 0) (pe_glob (v := .int 999999) rfl hM ⟨_, rfl⟩))) (pss_one ps_never) pss_nil)), ?_⟩), F.bindsN fun _ _ _ _ _ _ us hl => match us, hl with | [_], _ => rfl, F.kp⟩
  · obtain ⟨n, rfl, _⟩ := h
    rfl
  · obtain ⟨n, rfl, h0, h1, q⟩ := h
    exact ⟨_, rfl, _, _, rfl, rfl, _, rfl, ifY h0 ⟨_, _, rfl, rfl, _, rfl, ifNY h1 q⟩⟩
theorem scNeedBeat : FnScope ["beat"] ["beat"] (defScope sNeedBeat) := ⟨rfl, rfl, rfl, by decide +kernel, rfl, by decide +kernel, by decide +kernel⟩
def spNeedBeat : Sp := fun vs H Q _ => ∃ n : Int, vs = [.int n] ∧ 1 ≤ n ∧ n ≤ 960 ∧ Q .non H
theorem ok_need_beat (T : Txt K mg w) : Has P w K mg base 1 (gA K "need_beat") ["beat"] spNeedBeat := by
  obtain ⟨fd, F⟩ := T.fNeedBeat
  obtain ⟨t, hM⟩ := T.iMOST_BEAT
  refine ⟨fd, F.ok scNeedBeat (fun vs H Q E h => ?_) (fun cdv A outer s H vs Q E hr h => ⟨_, PSs.nox (pss_one (ps_if (pt_not (pt_chain op_le op_le pe_int (pv 0) (pe_glob (v := .int 960) rfl hM ⟨_, rfl⟩))) (pss_one ps_never) pss_nil)), ?_⟩), F.bindsN fun _ _ _ _ _ _ us hl => match us, hl with | [_], _ => rfl, F.kp⟩
  · obtain ⟨n, rfl, _⟩ := h
    rfl
  · obtain ⟨n, rfl, h0, h1, q⟩ := h
    exact ⟨_, rfl, _, _, rfl, rfl, _, rfl, ifY h0 ⟨_, _, rfl, rfl, _, rfl, ifNY h1 q⟩⟩
theorem scNeedPace : FnScope ["pace"] ["pace"] (defScope sNeedPace) := ⟨rfl, rfl, rfl, by decide +kernel, rfl, by decide +kernel, by decide +kernel⟩
def spNeedPace : Sp := fun vs H Q _ => ∃ n : Int, vs = [.int n] ∧ 1 ≤ n ∧ n ≤ 16777215 ∧ Q .non H
theorem ok_need_pace (T : Txt K mg w) : Has P w K mg base 1 (gA K "need_pace") ["pace"] spNeedPace := by
  obtain ⟨fd, F⟩ := T.fNeedPace
  obtain ⟨t, hM⟩ := T.iMOST_PACE
  refine ⟨fd, F.ok scNeedPace (fun vs H Q E h => ?_) (fun cdv A outer s H vs Q E hr h => ⟨_, PSs.nox (pss_one (ps_if (pt_not (pt_chain op_le op_le pe_int (pv 0) (pe_glob (v := .int 16777215) rfl hM ⟨_, rfl⟩))) (pss_one ps_never) pss_nil)), ?_⟩), F.bindsN fun _ _ _ _ _ _ us hl => match us, hl with | [_], _ => rfl, F.kp⟩
  · obtain ⟨n, rfl, _⟩ := h
    rfl
  · obtain ⟨n, rfl, h0, h1, q⟩ := h
    exact ⟨_, rfl, _, _, rfl, rfl, _, rfl, ifY h0 ⟨_, _, rfl, rfl, _, rfl, ifNY h1 q⟩⟩
/-- a pair of ints at an address -/
def MomV (m : Int × Int) : List V := [.int m.1, .int m.2]
theorem scAheadOf : FnScope ["one", "other"] ["one", "other"] (defScope sAheadOf) := ⟨rfl, rfl, rfl, by decide +kernel, rfl, by decide +kernel, by decide +kernel⟩
def spAheadOf (K : PySem.W.Frag) : Sp := fun vs H Q _ => ∃ (a b : Addr) (m n : Int × Int), vs = [.ref a, .ref b] ∧ SqT K H a (MomV m) ∧ SqT K H b (MomV n) ∧ -(2 ^ 64) < m.2 ∧ m.2 < 2 ^ 64 ∧ -(2 ^ 64) < n.2 ∧ n.2 < 2 ^ 64 ∧ Q (.bl (decide (m.1 * n.2 < n.1 * m.2))) H
theorem ok_ahead_of (T : Txt K mg w) : Has P w K mg base 1 (gA K "ahead_of") ["one", "other"] (spAheadOf K) := by
  obtain ⟨fd, F⟩ := T.fAheadOf
  refine ⟨fd, F.ok scAheadOf (fun vs H Q E h => ?_) (fun cdv A outer s H vs Q E hr h => ⟨_, PSs.nox (pss_one (ps_ret (pe_cmpR op_lt (pe_op op_mul (pe_ix ix_tup (pv 0) pe_int (fun _ _ => rfl)) (pe_ix ix_tup (pv 1) pe_int (fun _ _ => rfl))) (pe_op op_mul (pe_ix ix_tup (pv 1) pe_int (fun _ _ => rfl)) (pe_ix ix_tup (pv 0) pe_int (fun _ _ => rfl))) (nomark _)))), ?_⟩), F.bindsN fun _ _ _ _ _ _ us hl => match us, hl with | [_, _], _ => rfl, F.kp⟩
  · obtain ⟨a, b, m, n, rfl, _⟩ := h
    rfl
  · obtain ⟨a, b, m, n, rfl, ha, hb, hm, hm2, hn, hn2, q⟩ := h
    exact ⟨_, rfl, _, _, _, _, rfl, rfl, ha, rfl, _, rfl, _, _, _, _, rfl, rfl, hb, rfl, _, _, rfl, rfl, .inr ⟨hn, hn2⟩, _, rfl, _, _, _, _, rfl, rfl, hb, rfl, _, rfl, _, _, _, _, rfl, rfl, ha, rfl, _, _, rfl, rfl, .inr ⟨hm, hm2⟩, _, _, rfl, rfl, q⟩
theorem gcd_step {x y : Int} (hx : 0 ≤ x) (hy : 0 ≤ y) : Int.gcd y (x % y) = Int.gcd x y := by
  obtain ⟨m, rfl⟩ := Int.eq_ofNat_of_zero_le hx
  obtain ⟨n, rfl⟩ := Int.eq_ofNat_of_zero_le hy
  show Nat.gcd n ((m : Int) % (n : Int)).natAbs = Nat.gcd m n
  rw [← Int.natCast_emod, Int.natAbs_natCast, Nat.gcd_comm m n, Nat.gcd_rec n m, Nat.gcd_comm]
theorem scCommon : FnScope ["one", "other"] ["one", "other"] (defScope sCommon) := ⟨rfl, rfl, rfl, by decide +kernel, rfl, by decide +kernel, by decide +kernel⟩
def spCommon : Sp := fun vs H Q _ => ∃ a b : Int, vs = [.int a, .int b] ∧ 0 ≤ a ∧ 0 ≤ b ∧ Q (.int (Int.gcd a b)) H
theorem ok_common (T : Txt K mg w) : Has P w K mg base 1 (gA K "common") ["one", "other"] spCommon := by
  obtain ⟨fd, F⟩ := T.fCommon
  refine ⟨fd, F.ok scCommon (fun vs H Q E h => ?_) (fun cdv A outer s H vs Q E hr h => ⟨_, PSs.nox (pss_cons (ps_while PassesOwn.never (pt_cmpR op_gt (pv 1) pe_int (nomark _))
      (pss_one (ps_par (i := 0) (j := 1) (by rfl) scCommon.nd rfl rfl (by decide) rfl rfl (pa_cons (pv 1) (pa_cons (pe_op op_modN (pv 0) (pv 1)) pa_nil)) (by rfl)))) (pss_one (ps_ret (pv 0)))), ?_⟩), F.bindsN fun _ _ _ _ _ _ us hl => match us, hl with | [_, _], _ => rfl, F.kp⟩
  · obtain ⟨a, b, rfl, _⟩ := h
    rfl
  · obtain ⟨a, b, rfl, ha, hb, q⟩ := h
    refine while_by (fun σ H' => H' = H ∧ ∃ x y : Int, σ = [some (.int x), some (.int y)] ∧ 0 ≤ x ∧ 0 ≤ y ∧ Int.gcd x y = Int.gcd a b) (fun σ _ => match σ with | [_, some (.int y)] => y.toNat | _ => 0) ⟨rfl, a, b, rfl, ha, hb, rfl⟩ ?_ ?_
    · rintro σ H' ⟨rfl, x, y, rfl, hx, hy, e⟩
      refine ⟨_, rfl, _, _, rfl, rfl, _, rfl, ?_⟩
      by_cases hp : y > 0
      · refine ifY hp ⟨_, rfl, _, rfl, _, rfl, _, _, rfl, rfl, by omega, _, _, rfl, ⟨rfl, _, _, rfl, hy, ?_, ?_⟩, ?_⟩
        · rw [fmod_of (by omega)]; exact Int.emod_nonneg _ (by omega)
        · rw [fmod_of (by omega), ← e]
          exact gcd_step hx hy
        · show (Int.fmod x y).toNat < y.toNat
          rw [fmod_of (by omega)]
          have := Int.emod_lt_of_pos x hp
          have := Int.emod_nonneg x (show y ≠ 0 by omega)
          omega
      · refine ifN hp ?_
        have : y = 0 := by omega
        subst this
        refine ⟨_, rfl, ?_⟩
        rw [Int.gcd_zero_right] at e
        have : x = (Int.gcd a b : Int) := by rw [← e]; omega
        rw [this]; exact q
    · intro σ H Q Q' f h
      obtain ⟨v, e1, i, j, e2, e3, k, e4, h2⟩ := h
      exact ⟨v, e1, i, j, e2, e3, k, e4, f _ _ h2⟩
theorem scShare : FnScope ["top", "bottom", "part"] ["top", "bottom"] (defScope sShare) := ⟨rfl, rfl, rfl, by decide +kernel, rfl, by decide +kernel, by decide +kernel⟩
/-- lowest terms -/
def low (a b : Int) : Int × Int := (a / (Int.gcd a b : Int), b / (Int.gcd a b : Int))
def spShare : Sp := fun vs H Q _ => ∃ a b : Int, vs = [.int a, .int b] ∧ 0 ≤ a ∧ 0 < b ∧ b < 1073741824 ∧ ∀ p, H p = none → Q (.ref p) (upd H p (.tup (MomV (low a b))))
theorem ok_share (T : Txt K mg w) : Has P w K mg base 2 (gA K "share") ["top", "bottom"] spShare := by
  obtain ⟨fd, F⟩ := T.fShare
  obtain ⟨fC, GC, bC, kC⟩ := ok_common (P := P) (base := base) T
  refine ⟨fd, F.ok scShare (fun vs H Q E h => ?_) (fun cdv A outer s H vs Q E hr h => ⟨_, PSs.nox (pss_cons (ps_set (i := 2) scShare.nd rfl (.inl rfl) (pe_call GC hr (by rfl) T.gCommon kC bC .nil pass0 (pa_cons (pe_callB call_abs (by rfl) T.nAbs (by decide +kernel) (pa_cons (pv 0) pa_nil)) (pa_cons (pv 1) pa_nil))))
      (pss_one (ps_ret (pe_tup (pa_cons (pe_op op_fdivN (pv 0) (pv 2)) (pa_cons (pe_op op_fdivN (pv 1) (pv 2)) pa_nil)))))), ?_⟩), F.bindsN fun _ _ _ _ _ _ us hl => match us, hl with | [_, _], _ => rfl, F.kp⟩
  · obtain ⟨a, b, rfl, _⟩ := h
    rfl
  · obtain ⟨a, b, rfl, ha, hb, hb2, q⟩ := h
    have g0 : 0 < Int.gcd a b := Int.gcd_pos_of_ne_zero_right _ (by omega)
    have g1 : Int.gcd a b ≤ b.toNat := by
      have := Nat.le_of_dvd (by omega) (Int.gcd_dvd_natAbs_right a b)
      omega
    have en : (if a < 0 then -a else a) = a := by rw [if_neg (by omega)]
    refine ⟨_, rfl, _, rfl, _, rfl, a, b, by rw [en]; rfl, ha, by omega, ?_⟩
    have sd : ((Int.gcd a b : Nat) : Int) ≠ 0 ∧ ((Int.gcd a b : Nat) : Int).natAbs < 1073741824 := by omega
    refine ⟨_, rfl, _, rfl, _, _, rfl, rfl, sd, _, rfl, _, rfl, _, _, rfl, rfl, sd, by show 2 ≤ sizeLine; decide, fun p hp => ?_⟩
    have := q p hp
    show Q (.ref p) (upd H p (.tup [.int (Int.fdiv a _), .int (Int.fdiv b _)]))
    rw [fdiv_of (by omega), fdiv_of (by omega)]
    exact this
end
end L2.RK
namespace L2.RK
open PySem PySem.Spec PyProof.Rows
/-! the class Stand -/
def ckey (i : Nat) : List Key := [Sum.inl ((i / 128 : Nat) : Int), Sum.inl ((i % 128 : Nat) : Int)]
theorem ckey_inj {i j : Nat} (h : ckey i = ckey j) : i = j := by
  unfold ckey at h
  injection h with h1 h2
  injection h2 with h2 _
  have a : ((i / 128 : Nat) : Int) = ((j / 128 : Nat) : Int) := Sum.inl.inj h1
  have b : ((i % 128 : Nat) : Int) = ((j % 128 : Nat) : Int) := Sum.inl.inj h2
  omega
theorem ckey_code {c k : Nat} (h : k < 128) : ckey (c * 128 + k) = [Sum.inl (c : Int), Sum.inl (k : Int)] := by
  unfold ckey
  rw [show (c * 128 + k) / 128 = c by omega, show (c * 128 + k) % 128 = k by omega]
abbrev RE : Type := Nat × Addr × List Int
def rE (e : RE) : List Key × V := (ckey e.1, .ref e.2.1)
def tE (e : Nat × Int) : List Key × V := (ckey e.1, .int e.2)
def cE (e : Nat × Int) : Key × V := (Sum.inl (e.1 : Int), .int e.2)
theorem valV_al {α κ : Type} [DecidableEq κ] {key : Nat → κ} {val : α → V} (hi : ∀ i j, key i = key j → i = j) (xs : List (Nat × α)) (i : Nat) : valV (xs.map fun e => (key e.1, val e.2)) (key i) = (lookA xs i).map val := by
  induction xs with
  | nil => rfl
  | cons e r ih =>
    rw [List.map_cons, lookA_cons]
    by_cases h : e.1 = i
    · rw [valV_pos (by rw [h]), if_pos h]; rfl
    · rw [valV_neg (fun z => h (hi _ _ z)), if_neg h, ih]
theorem putK_al {α κ : Type} [DecidableEq κ] {key : Nat → κ} {val : α → V} (hi : ∀ i j, key i = key j → i = j) (xs : List (Nat × α)) (i : Nat) (a : α) : putK (xs.map fun e => (key e.1, val e.2)) (key i) (val a) = (putA xs i a).map fun e => (key e.1, val e.2) := by
  unfold putK putA
  have ha : ((xs.map fun e => (key e.1, val e.2)).any fun kv => decide (kv.1 = key i)) = xs.any fun e => decide (e.1 = i) := by
    rw [List.any_map]
    congr 1
    funext e
    show decide (key e.1 = key i) = decide (e.1 = i)
    by_cases h : e.1 = i
    · rw [decide_eq_true h, decide_eq_true (by rw [h])]
    · rw [decide_eq_false h, decide_eq_false (fun z => h (hi _ _ z))]
  rw [ha]
  by_cases h : (xs.any fun e => decide (e.1 = i)) = true
  · rw [if_pos h, if_pos h, List.map_map, List.map_map]
    refine List.map_congr_left fun e _ => ?_
    show (if key e.1 = key i then (key e.1, val a) else (key e.1, val e.2)) = (fun e : Nat × α => (key e.1, val e.2)) (if e.1 = i then (e.1, a) else e)
    by_cases q : e.1 = i
    · rw [if_pos (by rw [q]), if_pos q]
    · rw [if_neg (fun z => q (hi _ _ z)), if_neg q]
  · rw [if_neg h, if_neg h, List.map_append]; rfl
theorem cI_inj : ∀ i j : Nat, (Sum.inl (i : Int) : Key) = Sum.inl (j : Int) → i = j := fun i j h => by have := Sum.inl.inj h; omega
structure StandR (K : PySem.W.Frag) (H : Hp) (p dx r t c : Addr) (rk : List RE) (tk ck : List (Nat × Int)) (n : Nat) : Prop where
  ins : H p = some (.ins (gA K "Stand") dx [("ringing", .ref r), ("turned", .ref t), ("chosen", .ref c)])
  hr : H r = some (.dT (rk.map rE))
  hf : ∀ e ∈ rk, H e.2.1 = some (.tup (e.2.2.map V.int))
  ht : H t = some (.dT (tk.map tE))
  hc : H c = some (.dK (ck.map cE))
  nr : (rk.map (·.1)).Nodup
  nt : (tk.map (·.1)).Nodup
  nc : (ck.map (·.1)).Nodup
  br : ∀ e ∈ rk, e.1 < 2048
  bt : ∀ e ∈ tk, e.1 < 2048
  bc : ∀ e ∈ ck, e.1 < 16
  lr : rk.length ≤ n
  lt : tk.length ≤ n
  lc : ck.length ≤ n
  sz : (rk.map fun e => e.2.2.length).sum ≤ n
  n60 : n ≤ 60
theorem StandR.same {K : PySem.W.Frag} {H H' : Hp} {p dx r t c : Addr} {rk : List RE} {tk ck : List (Nat × Int)} {n : Nat} (h : StandR K H p dx r t c rk tk ck n) (e : Same H H') : StandR K H' p dx r t c rk tk ck n :=
  { h with ins := e _ _ h.ins, hr := e _ _ h.hr, hf := fun x hx => e _ _ (h.hf x hx), ht := e _ _ h.ht, hc := e _ _ h.hc }
def sndOf (rk : List RE) (tk ck : List (Nat × Int)) : Snd := ⟨fun i => ((lookA rk i).map (·.2)).getD [], fun i => (lookA tk i).getD 0, fun i => (lookA ck i).getD 0⟩
def StandAt (K : PySem.W.Frag) (H : Hp) (p : Addr) (S : Snd) (n : Nat) : Prop := ∃ (dx r t c : Addr) (rk : List RE) (tk ck : List (Nat × Int)), StandR K H p dx r t c rk tk ck n ∧ S = sndOf rk tk ck
theorem StandAt.same {K : PySem.W.Frag} {H H' : Hp} {p : Addr} {S : Snd} {n : Nat} (h : StandAt K H p S n) (e : Same H H') : StandAt K H' p S n :=
  let ⟨dx, r, t, c, rk, tk, ck, a, b⟩ := h; ⟨dx, r, t, c, rk, tk, ck, a.same e, b⟩
section
variable {P : Program} {w : World} {K : PySem.W.Frag} {mg : Str → Option Value} {base : Heap}
theorem scStandInit : FnScope ["self"] ["self"] (defScope sStandInit) := ⟨rfl, rfl, rfl, by decide +kernel, rfl, by decide +kernel, by decide +kernel⟩
def spStandInit (K : PySem.W.Frag) : Sp := fun vs H Q _ => ∃ (o dx : Addr), vs = [.ref o] ∧ H o = some (.ins (gA K "Stand") dx []) ∧
  ∀ (H' : Hp) (r t c : Addr), (∀ b u, H b = some u → b ≠ o → H' b = some u) → H' o = some (.ins (gA K "Stand") dx [("ringing", .ref r), ("turned", .ref t), ("chosen", .ref c)]) → H' r = some (.dT []) → H' t = some (.dT []) → H' c = some (.dK []) → Q .non H'
theorem ok_stand_init (T : Txt K mg w) : Has P w K mg base 1 (mA K "Stand" "__init__") ["self"] (spStandInit K) := by
  obtain ⟨fd, F⟩ := T.fStandInit
  refine ⟨fd, F.ok scStandInit (fun vs H Q E h => ?_) (fun cdv A outer s H vs Q E hr h => ⟨_, PSs.nox (pss_cons (ps_fld (pv 0) pe_dnewT rfl) (pss_cons (ps_fld (pv 0) pe_dnewT rfl) (pss_one (ps_fld (pv 0) pe_dnewK rfl)))), ?_⟩), F.bindsN fun _ _ _ _ _ _ us hl => match us, hl with | [_], _ => rfl, F.kp⟩
  · obtain ⟨o, dx, rfl, _⟩ := h
    rfl
  · obtain ⟨o, dx, rfl, ho, q⟩ := h
    refine fun r nr => ?_
    have ro : r ≠ o := fun z => by rw [z, ho] at nr; cases nr
    refine ⟨_, rfl, o, _, dx, _, rfl, (by rw [upd_ne ro.symm]; exact ho), T.cStand, T.aStandRinging, by show 0 < 1000; decide, fun t nt => ?_⟩
    have to : t ≠ o := fun z => by rw [z, upd_same] at nt; cases nt
    have tr : t ≠ r := fun z => by rw [z, upd_ne ro, upd_same] at nt; cases nt
    refine ⟨_, rfl, o, _, dx, _, rfl, (by rw [upd_ne to.symm, upd_same]), T.cStand, T.aStandTurned, by show 1 < 1000; decide, fun c nc => ?_⟩
    have co : c ≠ o := fun z => by rw [z, upd_same] at nc; cases nc
    have ct : c ≠ t := fun z => by rw [z, upd_ne to, upd_same] at nc; cases nc
    have cr : c ≠ r := fun z => by rw [z, upd_ne ro, upd_ne tr.symm, upd_ne ro, upd_same] at nc; cases nc
    refine ⟨_, rfl, o, _, dx, _, rfl, (by rw [upd_ne co.symm, upd_same]), T.cStand, T.aStandChosen, by show 2 < 1000; decide, ?_⟩
    refine q _ r t c (fun b u e hb => ?_) (by rw [upd_same]; rfl) ?_ ?_ ?_
    · have step : ∀ {Hh : Hp} {a : Addr} {oo uu : HO}, Hh b = some u → Hh a = none → upd (upd Hh a oo) o uu b = some u := fun e1 e2 => by rw [upd_ne hb, upd_ne (ne_of_none e1 e2)]; exact e1
      exact step (step (step e nr) nt) nc
    · rw [upd_ne ro, upd_ne cr.symm, upd_ne ro, upd_ne tr.symm, upd_ne ro, upd_same]
    · rw [upd_ne to, upd_ne ct.symm, upd_ne to, upd_same]
    · rw [upd_ne co, upd_same]
end
end L2.RK
namespace L2.RK
open PySem PySem.Spec PyProof.Rows
/-! Stand.sounds, knobs, voices -/
/-- the code of the key at an address -/
def codeAt (H : Hp) (a : Addr) : Nat := (c2 128 (pairAt H a)).toNat
theorem codeAt_key {H : Hp} {a : Addr} {i : Nat} (h : H a = some (.tup ((ckey i).map kV))) : codeAt H a = i := by
  unfold codeAt
  rw [pairAt_of (i := ((i / 128 : Nat) : Int)) (j := ((i % 128 : Nat) : Int)) h]
  show (((i / 128 : Nat) : Int) * 128 + ((i % 128 : Nat) : Int)).toNat = i
  omega
theorem c2_key {H : Hp} {a : Addr} {i : Nat} (h : H a = some (.tup ((ckey i).map kV))) : c2 128 (pairAt H a) = i := by
  rw [pairAt_of (i := ((i / 128 : Nat) : Int)) (j := ((i % 128 : Nat) : Int)) h]
  show (((i / 128 : Nat) : Int) * 128 + ((i % 128 : Nat) : Int)) = i
  omega
theorem isKeys_codes {α : Type} {val : α → V} {H : Hp} : ∀ {xs : List (Nat × α)} {bs : List Addr}, IsKeys H (xs.map fun e => (ckey e.1, val e.2)) bs → bs.map (codeAt H) = xs.map (·.1) ∧ ∀ b ∈ bs, H b = some (.tup ((ckey (codeAt H b)).map kV))
  | [], _, .nil => ⟨rfl, fun b hb => by cases hb⟩
  | e :: r, _, .cons h t => by
    obtain ⟨h1, h2⟩ := isKeys_codes t
    have h' : H _ = some (.tup ((ckey e.1).map kV)) := h
    refine ⟨by rw [List.map_cons, List.map_cons, h1, codeAt_key h'], fun b hb => ?_⟩
    rcases List.mem_cons.mp hb with rfl | hb
    · rw [codeAt_key h']; exact h'
    · exact h2 b hb
theorem sorted_codes {α : Type} {val : α → V} {H : Hp} {xs : List (Nat × α)} {bs ys : List Addr} (h : IsKeys H (xs.map fun e => (ckey e.1, val e.2)) bs) (hp : ys.Perm bs) (hs : ys.Pairwise fun a b => c2 128 (pairAt H a) ≤ c2 128 (pairAt H b)) (hn : (xs.map (·.1)).Nodup) :
    (ys.map (codeAt H)).Perm (xs.map (·.1)) ∧ (ys.map (codeAt H)).Pairwise (· < ·) ∧ ∀ a ∈ ys, H a = some (.tup ((ckey (codeAt H a)).map kV)) := by
  obtain ⟨h1, h2⟩ := isKeys_codes h
  have hk : ∀ a ∈ ys, H a = some (.tup ((ckey (codeAt H a)).map kV)) := fun a ha => h2 a (hp.mem_iff.mp ha)
  have p1 : (ys.map (codeAt H)).Perm (xs.map (·.1)) := h1 ▸ hp.map _
  have nd : (ys.map (codeAt H)).Nodup := p1.nodup_iff.mpr hn
  refine ⟨p1, ?_, hk⟩
  have le : (ys.map (codeAt H)).Pairwise (· ≤ ·) := by
    rw [List.pairwise_map]
    refine List.Pairwise.imp_of_mem (fun {a b} ha hb q => ?_) hs
    rw [c2_key (hk a ha), c2_key (hk b hb)] at q
    omega
  exact List.Pairwise.imp (fun {a b} q => by have := q.1; have := q.2; omega) (le.and nd)
theorem inB_key {α : Type} {val : α → V} {xs : List (Nat × α)} (hb : ∀ e ∈ xs, e.1 < 2048) : ∀ p ∈ xs.map (fun e => (ckey e.1, val e.2)), ∃ i j, p.1 = [Sum.inl i, Sum.inl j] ∧ InB 128 (i, j) := fun p hp => by
  obtain ⟨e, he, rfl⟩ := List.mem_map.mp hp
  have := hb e he
  exact ⟨_, _, rfl, ⟨by show (0 : Int) ≤ ((e.1 / 128 : Nat) : Int); omega, by show ((e.1 / 128 : Nat) : Int) < 128; omega⟩, ⟨by show (0 : Int) ≤ ((e.1 % 128 : Nat) : Int); omega, by show ((e.1 % 128 : Nat) : Int) < 128; omega⟩⟩
theorem lookA_none {α : Type} {xs : List (Nat × α)} {i : Nat} (h : i ∉ xs.map (·.1)) : lookA xs i = none := by
  cases e : lookA xs i with
  | none => rfl
  | some a => exact absurd (List.mem_map_of_mem (f := (·.1)) (lookA_mem e)) h
theorem look_of_mem {α : Type} {xs : List (Nat × α)} {i : Nat} (h : i ∈ xs.map (·.1)) : ∃ a, lookA xs i = some a := by
  induction xs with
  | nil => cases h
  | cons e r ih =>
    rw [lookA_cons]
    by_cases q : e.1 = i
    · exact ⟨_, if_pos q⟩
    · rw [if_neg q]
      rcases List.mem_cons.mp h with z | z
      · exact absurd z.symm q
      · exact ih z
/-- an inner walk of a comprehension with two for -/
theorem inner_it {J : It} {n : Nat} {G : Hp → Prop} {Y : Nat → Hp → V → Hp → Prop} (w : Walk J n G Y) {g : TG} {tt : TT} {te : TE} {vs : List Nat} {σ : St} {H1 : Hp} {D : Addr} {Nx : Hp → Prop} (Pv : Nat → Hp → Prop) (h0 : Pv 0 H1) (hG : ∀ i H, i ≤ n → Pv i H → G H)
    (hs : ∀ i x H H', i < n → Pv i H → Y i H x H' → g x (wipe σ vs) H' fun σ2 H2 => wipe σ2 vs = wipe σ vs ∧ tt σ2 H2 fun b H3 =>
      if b = true then te σ2 H3 fun y H4 => ∃ acc, H4 D = some (.lst acc) ∧ acc.length < sizeLine ∧ Pv (i + 1) (upd H4 D (.lst (acc ++ [y]))) else Pv (i + 1) H3) (hd : ∀ H, Pv n H → Nx H) :
    ∃ W1 : Nat → Nat → Hp → Prop, (∃ m, W1 0 m H1) ∧ ∀ j k H, W1 j k H → (J.stop j H ∧ Nx H) ∨ (J.go j H ∧ ∃ Nx1 : Hp → Prop, (∀ H', Nx1 H' → ∃ k', k' < k ∧ W1 (j + 1) k' H') ∧
      ∀ x H', J.yld j H x H' → g x (wipe σ vs) H' fun σ3 H5 => wipe σ3 vs = wipe σ vs ∧ tt σ3 H5 fun b H6 => if b = true then te σ3 H6 fun y H7 => ∃ acc, H7 D = some (.lst acc) ∧ acc.length < sizeLine ∧ Nx1 (upd H7 D (.lst (acc ++ [y]))) else Nx1 H6) := by
  refine ⟨fun i m H => m = n - i ∧ i ≤ n ∧ Pv i H, ⟨n, by simp, Nat.zero_le _, h0⟩, ?_⟩
  rintro i m H ⟨rfl, hi, p⟩
  have q := hG i H hi p
  by_cases hlt : i < n
  · exact .inr ⟨w.goes i H hlt q, Pv (i + 1), fun H' p' => ⟨n - (i + 1), by omega, rfl, hlt, p'⟩, fun x H' y => hs i x H H' hlt p (w.yields i H x H' hlt q y)⟩
  · have e : i = n := by omega
    subst e
    exact .inl ⟨w.stops H q, hd H p⟩
theorem outer_it {J : It} {n : Nat} {G : Hp → Prop} {Y : Nat → Hp → V → Hp → Prop} (w : Walk J n G Y) {H1 : Hp} {D : Addr} {Qd : Hp → Prop} {T : Nat → V → Hp → (Hp → Prop) → Prop} (Pv : Nat → Hp → Prop) (h0 : Pv 0 (upd H1 D (.lst []))) (hG : ∀ i H, i ≤ n → Pv i H → G H)
    (hs : ∀ i x H H', i < n → Pv i H → Y i H x H' → T i x H' (Pv (i + 1))) (hd : ∀ H, Pv n H → Qd H) :
    ∃ W : Nat → Nat → Hp → Prop, (∃ m, W 0 m (upd H1 D (.lst []))) ∧ ∀ i m H, W i m H → (J.stop i H ∧ Qd H) ∨ (J.go i H ∧ ∃ Nx : Hp → Prop, (∀ H', Nx H' → ∃ m', m' < m ∧ W (i + 1) m' H') ∧ ∀ x H', J.yld i H x H' → T i x H' Nx) := by
  refine ⟨fun i m H => m = n - i ∧ i ≤ n ∧ Pv i H, ⟨n, by simp, Nat.zero_le _, h0⟩, ?_⟩
  rintro i m H ⟨rfl, hi, p⟩
  have q := hG i H hi p
  by_cases hlt : i < n
  · exact .inr ⟨w.goes i H hlt q, Pv (i + 1), fun H' p' => ⟨n - (i + 1), by omega, rfl, hlt, p'⟩, fun x H' y => hs i x H H' hlt p (w.yields i H x H' hlt q y)⟩
  · have e : i = n := by omega
    subst e
    exact .inl ⟨w.stops H q, hd H p⟩
theorem sum_flat {α : Type} (g : Nat → List α) : ∀ is : List Nat, (is.flatMap g).length = (is.map fun i => (g i).length).sum
  | [] => rfl
  | i :: r => by rw [List.flatMap_cons, List.length_append, List.map_cons, List.sum_cons, sum_flat g r]
/-- the sounds are no more than the stand's measure -/
theorem sndL_len {K : PySem.W.Frag} {H : Hp} {p dx r t c : Addr} {rk : List RE} {tk ck : List (Nat × Int)} {n : Nat} (h : StandR K H p dx r t c rk tk ck n) {is : List Nat} (hp : is.Perm (rk.map (·.1))) :
    (is.flatMap fun i => ((sndOf rk tk ck).ring i).map fun f => (((i / 128 : Nat) : Int), ((i % 128 : Nat) : Int), f)).length ≤ n := by
  rw [sum_flat]
  have e1 : (is.map fun i => (((sndOf rk tk ck).ring i).map fun f => (((i / 128 : Nat) : Int), ((i % 128 : Nat) : Int), f)).length) = is.map fun i => ((sndOf rk tk ck).ring i).length := by
    refine List.map_congr_left fun i _ => ?_
    rw [List.length_map]
  rw [e1, (hp.map _).sum_nat, List.map_map]
  have e2 : (rk.map ((fun i => ((sndOf rk tk ck).ring i).length) ∘ (·.1))) = rk.map fun e => e.2.2.length := by
    refine List.map_congr_left fun e he => ?_
    show (((lookA rk e.1).map (·.2)).getD []).length = _
    rw [mem_lookA h.nr he]; rfl
  rw [e2]
  exact h.sz
section
variable {P : Program} {w : World} {K : PySem.W.Frag} {mg : Str → Option Value} {base : Heap}
abbrev nSounds : List Str := ["self", "place", "force"]
theorem scStandSounds : FnScope nSounds ["self"] (defScope sStandSounds) := ⟨rfl, rfl, rfl, by decide +kernel, rfl, by decide +kernel, by decide +kernel⟩
def spSounds (K : PySem.W.Frag) : Sp := fun vs H Q _ => ∃ (o : Addr) (S : Snd) (n : Nat), vs = [.ref o] ∧ StandAt K H o S n ∧
  ∀ (H' : Hp) (l : Addr) (xs : List (Addr × (Int × Int × Int))), Same H H' → H l = none → H' l = some (.lst (refs xs)) → TL TriV H' xs → xs.map (·.2) = sndL S → xs.length ≤ n → Q (.ref l) H'
theorem ok_sounds (T : Txt K mg w) : Has P w K mg base 1 (mA K "Stand" "sounds") ["self"] (spSounds K) := by
  obtain ⟨fd, F⟩ := T.fStandSounds
  have nd := scStandSounds.nd
  refine ⟨fd, F.ok scStandSounds (fun vs H Q E h => ?_) (fun cdv A outer s H vs Q E hr h => ⟨_, PSs.nox (pss_one (ps_ret (pe_lc2 (own := [("place", 1), ("force", 2)]) (vs1 := [2]) (g := gName 1) (g1 := gName 2) (wi1 := iTup K (tDGet (tFld K (tVar 0) "ringing") (tVar 1))) (te := tOp (rCatA K) (tVar 1) (tTup (tCons (tVar 2) tNil)))
      (by rfl) nd (pi_list (pe_callB (call_sortedDT (B := 128) (by rfl)) (by rfl) T.nSorted (by decide +kernel) (pa_cons (pe_fld (pv 0) rfl) pa_nil))) (blkOk_by (N := nSounds) (sc := defScope sStandSounds) (by decide +kernel)) (by decide)
      (fun _ _ _ _ _ => pg_name (i := 1) nd rfl (.inl rfl) (.inr rfl)) (fun _ _ _ _ _ => pts_nil)
      (fun _ _ _ _ _ => pi_tup (pe_dget (hu_of hr) (pe_fld (pv 0) rfl) (pv 1) (fun _ _ => rfl))) (fun _ _ _ _ _ => pg_name (i := 2) nd rfl (.inl rfl) (.inr rfl)) (fun _ _ _ _ _ => pts_nil)
      (fun _ _ _ _ _ => pe_op op_catA (pv 1) (pe_tup (pa_cons (pv 2) pa_nil)))))), ?_⟩), F.bindsN fun _ _ _ _ _ _ us hl => match us, hl with | [_], _ => rfl, F.kp⟩
  · obtain ⟨o, S, n, rfl, _⟩ := h
    rfl
  · obtain ⟨o, S, n, rfl, ⟨dx, r, t, c, rk, tk, ck, R, rfl⟩, q⟩ := h
    refine ⟨_, rfl, o, _, dx, _, _, rfl, R.ins, T.cStand, T.aStandRinging, rfl, r, rk.map rE, rfl, .inl R.hr, by rw [List.length_map]; have := R.lr; have := R.n60; omega, inB_key (val := fun x : Addr × List Int => V.ref x.1) R.br, fun bs ys p hk hp hs np => ?_⟩
    obtain ⟨p1, p2, p3⟩ := sorted_codes (val := fun x : Addr × List Int => V.ref x.1) hk hp hs R.nr
    refine ⟨p, rfl, ⟨_, SqL.of upd_same⟩, fun D nD => ?_⟩
    generalize hS : sndOf rk tk ck = S at *
    generalize hg : (fun i : Nat => (S.ring i).map fun f => (((i / 128 : Nat) : Int), ((i % 128 : Nat) : Int), f)) = g
    have hlen : ((ys.map (codeAt H)).flatMap g).length ≤ n := by rw [← hg, ← hS]; exact sndL_len R p1
    have hall : (ys.map (codeAt H)).flatMap g = sndL S := by
      rw [← hg]
      refine flat_sorted p2 (fun i hi => ⟨Nat.zero_le _, ?_⟩) fun i _ _ hi => ?_
      · obtain ⟨e, he, rfl⟩ := List.mem_map.mp (p1.mem_iff.mp hi)
        have := R.br e he; omega
      · show List.map _ (S.ring i) = []
        rw [← hS]
        show List.map _ (((lookA rk i).map (·.2)).getD []) = []
        rw [lookA_none (fun z => hi (p1.mem_iff.mpr z))]; rfl
    have big : sizeLine > 1000 := by decide
    have n60 := R.n60
    have sH : Same H (upd H p (.lst (ys.map V.ref))) := Same.new np
    have Dp : D ≠ p := fun z => by rw [z, upd_same] at nD; cases nD
    have nD0 : H D = none := by rw [upd_ne Dp] at nD; exact nD
    refine outer_it (walk_list (K := K) (a := p) (xs := ys.map V.ref)) (fun i H' => Same (upd H p (.lst (ys.map V.ref))) H' ∧ ∃ fs : List (Addr × (Int × Int × Int)), H' D = some (.lst (refs fs)) ∧ TL TriV H' fs ∧ fs.map (·.2) = ((ys.map (codeAt H)).take i).flatMap g)
      ⟨Same.new nD, [], upd_same, TL.nil, rfl⟩ (fun i H' _ h => SqL.of (h.1 _ _ upd_same)) ?_ ?_
    · rintro i x H2 H3 hi ⟨s1, fs, h1, h2, h3⟩ ⟨rfl, hx⟩
      rw [List.getElem?_map] at hx
      obtain ⟨a, ha, rfl⟩ : ∃ a, ys[i]? = some a ∧ x = .ref a := by
        cases e : ys[i]? with
        | none => rw [e] at hx; cases hx
        | some a => rw [e] at hx; exact ⟨a, rfl, (Option.some.inj hx).symm⟩
      have am := List.mem_of_getElem? ha
      have ka := p3 a am
      have ka3 := s1 _ _ (sH _ _ ka)
      obtain ⟨⟨fa, forces⟩, hl⟩ := look_of_mem (xs := rk) (i := codeAt H a) (p1.mem_iff.mp (List.mem_map_of_mem am))
      have hrk := lookA_mem hl
      have hfa := R.hf _ hrk
      have hfa3 := s1 _ _ (sH _ _ hfa)
      have hins3 := s1 _ _ (sH _ _ R.ins)
      have hr3 := s1 _ _ (sH _ _ R.hr)
      have et : (ys.map (codeAt H)).take (i + 1) = (ys.map (codeAt H)).take i ++ [codeAt H a] := take_snoc (by rw [List.getElem?_map, ha]; rfl)
      have eg : g (codeAt H a) = forces.map fun f => (((codeAt H a / 128 : Nat) : Int), ((codeAt H a % 128 : Nat) : Int), f) := by
        rw [← hg, ← hS]
        show List.map _ (((lookA rk (codeAt H a)).map (·.2)).getD []) = _
        rw [hl]; rfl
      have le1 : (((ys.map (codeAt H)).take i).flatMap g ++ g (codeAt H a)).length ≤ n := by
        have e2 : (ys.map (codeAt H)).flatMap g = (((ys.map (codeAt H)).take i).flatMap g ++ g (codeAt H a)) ++ ((ys.map (codeAt H)).drop (i + 1)).flatMap g := by
          conv => lhs; rw [← List.take_append_drop (i + 1) (ys.map (codeAt H)), List.flatMap_append, et, List.flatMap_append]
          simp
        rw [e2, List.length_append] at hlen
        omega
      refine ⟨rfl, _, rfl, o, _, dx, _, _, rfl, hins3, T.cStand, T.aStandRinging, rfl, _, rfl, r, _, rfl, DGet.t (k := ckey (codeAt H a)) hr3 ka3 |> (fun z => (show valV (rk.map rE) (ckey (codeAt H a)) = some (V.ref fa) from by
          have := valV_al (val := fun x : Addr × List Int => V.ref x.1) (fun i j h => ckey_inj h) rk (codeAt H a)
          rw [hl] at this; exact this) ▸ z), fa, rfl, ⟨_, SqT.of hfa3⟩, ?_⟩
      refine inner_it (walk_tup (K := K) (a := fa) (xs := forces.map V.int)) (fun k H' => Same (upd H p (.lst (ys.map V.ref))) H' ∧ ∃ fs : List (Addr × (Int × Int × Int)), H' D = some (.lst (refs fs)) ∧ TL TriV H' fs ∧ fs.map (·.2) = ((ys.map (codeAt H)).take i).flatMap g ++ (g (codeAt H a)).take k)
        ⟨s1, fs, h1, h2, by rw [h3]; simp⟩ (fun k H' _ h => SqT.of (h.1 _ _ (sH _ _ hfa))) ?_ ?_
      · rintro k y H4 H5 hk ⟨s4, fs4, h4, h5, h6⟩ ⟨rfl, hy⟩
        rw [List.getElem?_map] at hy
        obtain ⟨f, hf, rfl⟩ : ∃ f, forces[k]? = some f ∧ y = .int f := by
          cases e : forces[k]? with
          | none => rw [e] at hy; cases hy
          | some a => rw [e] at hy; exact ⟨a, rfl, (Option.some.inj hy).symm⟩
        have ka5 := s4 _ _ (sH _ _ ka)
        refine ⟨rfl, _, rfl, _, rfl, by show 1 ≤ sizeLine; decide, fun u nu => ?_⟩
        have uD : u ≠ D := fun z => by rw [z, h4] at nu; cases nu
        refine ⟨a, u, (ckey (codeAt H a)).map kV, [.int f], rfl, rfl, SqT.of (by rw [upd_ne (ne_of_none ka5 nu)]; exact ka5), SqT.of upd_same, by show 2 + 1 ≤ sizeLine; decide, fun z => (nomatch z), fun _ z => (nomatch z), fun _ _ v nv => ?_⟩
        have vu : v ≠ u := fun z => by rw [z, upd_same] at nv; cases nv
        have nv0 : H5 v = none := by rw [upd_ne vu] at nv; exact nv
        have vD : v ≠ D := fun z => by rw [z, h4] at nv0; cases nv0
        have s6 : Same H5 (upd (upd H5 u (.tup [.int f])) v (.tup (TriV (((codeAt H a / 128 : Nat) : Int), ((codeAt H a % 128 : Nat) : Int), f)))) := (Same.new nu).trans (Same.new nv)
        refine ⟨_, s6 _ _ h4, ?_, ((s4.trans s6).put nD), fs4 ++ [(v, (((codeAt H a / 128 : Nat) : Int), ((codeAt H a % 128 : Nat) : Int), f))], ?_, ?_, ?_⟩
        · have e7 := congrArg List.length h6
          rw [List.length_map, List.length_append] at e7
          rw [List.length_append] at le1
          rw [List.length_take] at e7
          rw [refs_len]; omega
        · rw [upd_same, refs_app]; rfl
        · intro x hx
          rcases List.mem_append.mp hx with hx | hx
          · rw [upd_ne (ne_of (h5 x hx) h4 (by intro z; cases z))]; exact s6 _ _ (h5 x hx)
          · rw [List.mem_singleton.mp hx, upd_ne vD, upd_same]; rfl
        · rw [List.map_append, h6, take_snoc (xs := g (codeAt H a)) (i := k) (z := (((codeAt H a / 128 : Nat) : Int), ((codeAt H a % 128 : Nat) : Int), f)) (by rw [eg, List.getElem?_map, hf]; rfl)]
          simp
      · rintro H4 ⟨s4, fs4, h4, h5, h6⟩
        refine ⟨s4, fs4, h4, h5, ?_⟩
        rw [h6, et, List.flatMap_append]
        have : (forces.map V.int).length = (g (codeAt H a)).length := by rw [eg, List.length_map, List.length_map]
        rw [this, List.take_length]
        simp
    · rintro H2 ⟨s1, fs, h1, h2, h3⟩
      rw [List.length_map, show ys.length = (ys.map (codeAt H)).length by rw [List.length_map], List.take_length, hall] at h3
      refine q H2 D fs (sH.trans s1) nD0 h1 h2 h3 ?_
      have := congrArg List.length h3
      rw [List.length_map, ← hall] at this
      omega
end
end L2.RK
namespace L2.RK
open PySem PySem.Spec PyProof.Rows
theorem get_ref {ys : List Addr} {i : Nat} {x : V} (h : (ys.map V.ref)[i]? = some x) : ∃ a, ys[i]? = some a ∧ x = .ref a := by
  rw [List.getElem?_map] at h
  cases e : ys[i]? with
  | none => rw [e] at h; cases h
  | some a => rw [e] at h; exact ⟨a, rfl, (Option.some.inj h).symm⟩
theorem get_int {ys : List Int} {i : Nat} {x : V} (h : (ys.map V.int)[i]? = some x) : ∃ a, ys[i]? = some a ∧ x = .int a := by
  rw [List.getElem?_map] at h
  cases e : ys[i]? with
  | none => rw [e] at h; cases h
  | some a => rw [e] at h; exact ⟨a, rfl, (Option.some.inj h).symm⟩
theorem flat_le {α : Type} {g : Nat → List α} (h : ∀ i, (g i).length ≤ 1) : ∀ is : List Nat, (is.flatMap g).length ≤ is.length
  | [] => Nat.le_refl _
  | i :: r => by rw [List.flatMap_cons, List.length_append, List.length_cons]; have := h i; have := flat_le h r; omega
section
variable {P : Program} {w : World} {K : PySem.W.Frag} {mg : Str → Option Value} {base : Heap}
abbrev nKnobs : List Str := ["self", "place"]
theorem scStandKnobs : FnScope nKnobs ["self"] (defScope sStandKnobs) := ⟨rfl, rfl, rfl, by decide +kernel, rfl, by decide +kernel, by decide +kernel⟩
def spKnobs (K : PySem.W.Frag) : Sp := fun vs H Q _ => ∃ (o : Addr) (S : Snd) (n : Nat), vs = [.ref o] ∧ StandAt K H o S n ∧
  ∀ (H' : Hp) (l : Addr) (xs : List (Addr × (Int × Int × Int))), Same H H' → H l = none → H' l = some (.lst (refs xs)) → TL TriV H' xs → xs.map (·.2) = knobL S → xs.length ≤ n → Q (.ref l) H'
theorem ok_knobs (T : Txt K mg w) : Has P w K mg base 1 (mA K "Stand" "knobs") ["self"] (spKnobs K) := by
  obtain ⟨fd, F⟩ := T.fStandKnobs
  have nd := scStandKnobs.nd
  refine ⟨fd, F.ok scStandKnobs (fun vs H Q E h => ?_) (fun cdv A outer s H vs Q E hr h => ⟨_, PSs.nox (pss_one (ps_ret (pe_lc (own := [("place", 1)]) (g := gName 1)
      (tt := tTest (tOp (rI0 fun i j => .bl (decide (i > j))) (tDGet (tFld K (tVar 0) "turned") (tVar 1)) (tC (.int 0)))) (te := tOp (rCatA K) (tVar 1) (tTup (tCons (tDGet (tFld K (tVar 0) "turned") (tVar 1)) tNil)))
      (by rfl) nd (pi_list (pe_callB (call_sortedDT (B := 128) (by rfl)) (by rfl) T.nSorted (by decide +kernel) (pa_cons (pe_fld (pv 0) rfl) pa_nil))) (blkOk_by (N := nKnobs) (sc := defScope sStandKnobs) (by decide +kernel))
      (fun _ _ _ _ _ => pg_name (i := 1) nd rfl (.inl rfl) (.inr rfl)) (fun _ _ _ _ _ => pts_one (pt_cmpR op_gt (pe_dget (hu_of hr) (pe_fld (pv 0) rfl) (pv 1) (fun _ _ => rfl)) pe_int (nomark _)))
      (fun _ _ _ _ _ => pe_op op_catA (pv 1) (pe_tup (pa_cons (pe_dget (hu_of hr) (pe_fld (pv 0) rfl) (pv 1) (fun _ _ => rfl)) pa_nil)))))), ?_⟩), F.bindsN fun _ _ _ _ _ _ us hl => match us, hl with | [_], _ => rfl, F.kp⟩
  · obtain ⟨o, S, n, rfl, _⟩ := h
    rfl
  · obtain ⟨o, S, n, rfl, ⟨dx, r, t, c, rk, tk, ck, R, rfl⟩, q⟩ := h
    refine ⟨_, rfl, o, _, dx, _, _, rfl, R.ins, T.cStand, T.aStandTurned, rfl, t, tk.map tE, rfl, .inl R.ht, by rw [List.length_map]; have := R.lt; have := R.n60; omega, inB_key (val := V.int) R.bt, fun bs ys p hk hp hs np => ?_⟩
    obtain ⟨p1, p2, p3⟩ := sorted_codes (val := V.int) hk hp hs R.nt
    refine ⟨p, rfl, ⟨_, SqL.of upd_same⟩, fun D nD => ?_⟩
    generalize hS : sndOf rk tk ck = S at *
    generalize hg : (fun i : Nat => if S.knob i > 0 then [(((i / 128 : Nat) : Int), ((i % 128 : Nat) : Int), S.knob i)] else []) = g
    have hall : (ys.map (codeAt H)).flatMap g = knobL S := by
      rw [← hg]
      refine flat_sorted p2 (fun i hi => ⟨Nat.zero_le _, ?_⟩) fun i _ _ hi => ?_
      · obtain ⟨e, he, rfl⟩ := List.mem_map.mp (p1.mem_iff.mp hi)
        have := R.bt e he; omega
      · have e0 : S.knob i = 0 := by
          rw [← hS]
          show (lookA tk i).getD 0 = 0
          rw [lookA_none (fun z => hi (p1.mem_iff.mpr z))]; rfl
        show (if S.knob i > 0 then _ else _) = _
        rw [e0]; rfl
    have hlen1 : (ys.map (codeAt H)).length ≤ n := by rw [p1.length_eq, List.length_map]; exact R.lt
    have g1 : ∀ i, (g i).length ≤ 1 := fun i => by rw [← hg]; show (if _ then _ else _ : List _).length ≤ 1; split <;> simp
    have big : sizeLine > 1000 := by decide
    have n60 := R.n60
    have sH : Same H (upd H p (.lst (ys.map V.ref))) := Same.new np
    have Dp : D ≠ p := fun z => by rw [z, upd_same] at nD; cases nD
    have nD0 : H D = none := by rw [upd_ne Dp] at nD; exact nD
    refine lc_list (xs := ys.map V.ref) (fun i H' => Same (upd H p (.lst (ys.map V.ref))) H' ∧ ∃ fs : List (Addr × (Int × Int × Int)), H' D = some (.lst (refs fs)) ∧ TL TriV H' fs ∧ fs.map (·.2) = ((ys.map (codeAt H)).take i).flatMap g)
      ⟨Same.new nD, [], upd_same, TL.nil, rfl⟩ (fun i H' _ h => SqL.of (h.1 _ _ upd_same)) ?_ ?_
    · rintro i x H3 hx ⟨s1, fs, h1, h2, h3⟩
      obtain ⟨a, ha, rfl⟩ := get_ref hx
      have am := List.mem_of_getElem? ha
      have ka := p3 a am
      have ka3 := s1 _ _ (sH _ _ ka)
      obtain ⟨v, hl⟩ := look_of_mem (xs := tk) (i := codeAt H a) (p1.mem_iff.mp (List.mem_map_of_mem am))
      have hins3 := s1 _ _ (sH _ _ R.ins)
      have ht3 := s1 _ _ (sH _ _ R.ht)
      have et : (ys.map (codeAt H)).take (i + 1) = (ys.map (codeAt H)).take i ++ [codeAt H a] := take_snoc (by rw [List.getElem?_map, ha]; rfl)
      have ev : S.knob (codeAt H a) = v := by
        rw [← hS]
        show (lookA tk (codeAt H a)).getD 0 = v
        rw [hl]; rfl
      have dg : ∀ {Hh : Hp}, Hh t = some (.dT (tk.map tE)) → Hh a = some (.tup ((ckey (codeAt H a)).map kV)) → DGet Hh t (.ref a) (some (.int v)) := fun h5 h6 => by
        have z := DGet.t (k := ckey (codeAt H a)) h5 h6
        have y : valV (tk.map tE) (ckey (codeAt H a)) = some (.int v) := by
          have := valV_al (val := V.int) (fun i j h => ckey_inj h) tk (codeAt H a)
          rw [hl] at this; exact this
        rw [y] at z; exact z
      refine ⟨rfl, _, rfl, o, _, dx, _, _, rfl, hins3, T.cStand, T.aStandTurned, rfl, _, rfl, t, _, rfl, dg ht3 ka3, _, _, rfl, rfl, _, rfl, ?_⟩
      refine ite2 (fun hc => ?_) (fun hc => ?_)
      · have hc' : v > 0 := of_decide_eq_true hc
        refine ⟨_, rfl, _, rfl, o, _, dx, _, _, rfl, hins3, T.cStand, T.aStandTurned, rfl, _, rfl, t, _, rfl, dg ht3 ka3, by show 1 ≤ sizeLine; decide, fun u nu => ?_⟩
        have uD : u ≠ D := fun z => by rw [z, h1] at nu; cases nu
        refine ⟨a, u, (ckey (codeAt H a)).map kV, [.int v], rfl, rfl, SqT.of (by rw [upd_ne (ne_of_none ka3 nu)]; exact ka3), SqT.of upd_same, by show 2 + 1 ≤ sizeLine; decide, fun z => (nomatch z), fun _ z => (nomatch z), fun _ _ v' nv => ?_⟩
        have vu : v' ≠ u := fun z => by rw [z, upd_same] at nv; cases nv
        have nv0 : H3 v' = none := by rw [upd_ne vu] at nv; exact nv
        have vD : v' ≠ D := fun z => by rw [z, h1] at nv0; cases nv0
        have s6 : Same H3 (upd (upd H3 u (.tup [.int v])) v' (.tup (TriV (((codeAt H a / 128 : Nat) : Int), ((codeAt H a % 128 : Nat) : Int), v)))) := (Same.new nu).trans (Same.new nv)
        refine ⟨_, s6 _ _ h1, ?_, ((s1.trans s6).put nD), fs ++ [(v', (((codeAt H a / 128 : Nat) : Int), ((codeAt H a % 128 : Nat) : Int), v))], ?_, ?_, ?_⟩
        · have e7 := congrArg List.length h3
          have e8 := flat_le g1 ((ys.map (codeAt H)).take i)
          rw [List.length_take] at e8
          rw [List.length_map] at e7
          rw [refs_len]; omega
        · rw [upd_same, refs_app]; rfl
        · intro x hx
          rcases List.mem_append.mp hx with hx | hx
          · rw [upd_ne (ne_of (h2 x hx) h1 (by intro z; cases z))]; exact s6 _ _ (h2 x hx)
          · rw [List.mem_singleton.mp hx, upd_ne vD, upd_same]; rfl
        · rw [List.map_append, h3, et, List.flatMap_append]
          have : g (codeAt H a) = [(((codeAt H a / 128 : Nat) : Int), ((codeAt H a % 128 : Nat) : Int), v)] := by rw [← hg]; show (if _ then _ else _) = _; rw [ev, if_pos hc']
          rw [List.flatMap_cons, this]; rfl
      · have hc' : ¬ v > 0 := fun z => hc (decide_eq_true z)
        refine ⟨s1, fs, h1, h2, ?_⟩
        rw [h3, et, List.flatMap_append]
        have : g (codeAt H a) = [] := by rw [← hg]; show (if _ then _ else _) = _; rw [ev, if_neg hc']
        rw [List.flatMap_cons, this]; simp
    · rintro H2 ⟨s1, fs, h1, h2, h3⟩
      rw [List.length_map, show ys.length = (ys.map (codeAt H)).length by rw [List.length_map], List.take_length, hall] at h3
      refine q H2 D fs (sH.trans s1) nD0 h1 h2 h3 ?_
      have e7 := congrArg List.length h3
      have e8 := flat_le g1 (ys.map (codeAt H))
      rw [List.length_map, ← hall] at e7
      omega
abbrev nVoices : List Str := ["self", "channel"]
theorem scStandVoices : FnScope nVoices ["self"] (defScope sStandVoices) := ⟨rfl, rfl, rfl, by decide +kernel, rfl, by decide +kernel, by decide +kernel⟩
def spVoices (K : PySem.W.Frag) : Sp := fun vs H Q _ => ∃ (o : Addr) (S : Snd) (n : Nat), vs = [.ref o] ∧ StandAt K H o S n ∧
  ∀ (H' : Hp) (l : Addr) (xs : List (Addr × (Int × Int))), Same H H' → H l = none → H' l = some (.lst (refs xs)) → TL MomV H' xs → xs.map (·.2) = voiceL S → xs.length ≤ n → Q (.ref l) H'
theorem ok_voices (T : Txt K mg w) : Has P w K mg base 1 (mA K "Stand" "voices") ["self"] (spVoices K) := by
  obtain ⟨fd, F⟩ := T.fStandVoices
  have nd := scStandVoices.nd
  refine ⟨fd, F.ok scStandVoices (fun vs H Q E h => ?_) (fun cdv A outer s H vs Q E hr h => ⟨_, PSs.nox (pss_one (ps_ret (pe_lc (own := [("channel", 1)]) (g := gName 1)
      (tt := tTest (tOp (rI0 fun i j => .bl (decide (i > j))) (tDGet (tFld K (tVar 0) "chosen") (tVar 1)) (tC (.int 0)))) (te := tTup (tCons (tVar 1) (tCons (tDGet (tFld K (tVar 0) "chosen") (tVar 1)) tNil)))
      (by rfl) nd (pi_list (pe_callB (call_sortedDI (by rfl)) (by rfl) T.nSorted (by decide +kernel) (pa_cons (pe_fld (pv 0) rfl) pa_nil))) (blkOk_by (N := nVoices) (sc := defScope sStandVoices) (by decide +kernel))
      (fun _ _ _ _ _ => pg_name (i := 1) nd rfl (.inl rfl) (.inr rfl)) (fun _ _ _ _ _ => pts_one (pt_cmpR op_gt (pe_dget (hu_of hr) (pe_fld (pv 0) rfl) (pv 1) (fun _ _ => rfl)) pe_int (nomark _)))
      (fun _ _ _ _ _ => pe_tup (pa_cons (pv 1) (pa_cons (pe_dget (hu_of hr) (pe_fld (pv 0) rfl) (pv 1) (fun _ _ => rfl)) pa_nil)))))), ?_⟩), F.bindsN fun _ _ _ _ _ _ us hl => match us, hl with | [_], _ => rfl, F.kp⟩
  · obtain ⟨o, S, n, rfl, _⟩ := h
    rfl
  · obtain ⟨o, S, n, rfl, ⟨dx, r, t, c, rk, tk, ck, R, rfl⟩, q⟩ := h
    refine ⟨_, rfl, o, _, dx, _, _, rfl, R.ins, T.cStand, T.aStandChosen, rfl, c, ck.map cE, ck.map (fun e => (e.1 : Int)), rfl, .inl R.hc, by rw [List.map_map, List.map_map]; rfl, by rw [List.length_map]; have := R.lc; have := R.n60; omega, fun ys p hp hs np => ?_⟩
    refine ⟨p, rfl, ⟨_, SqL.of upd_same⟩, fun D nD => ?_⟩
    have p0 : ∀ y ∈ ys, ∃ i : Nat, y = (i : Int) ∧ i ∈ ck.map (·.1) := fun y hy => by
      obtain ⟨e, he, rfl⟩ := List.mem_map.mp (hp.mem_iff.mp hy)
      exact ⟨e.1, rfl, List.mem_map_of_mem he⟩
    have p1 : (ys.map Int.toNat).Perm (ck.map (·.1)) := by
      have := hp.map Int.toNat
      rw [List.map_map] at this
      exact this
    have p2 : (ys.map Int.toNat).Pairwise (· < ·) := by
      have nd2 : (ys.map Int.toNat).Nodup := p1.nodup_iff.mpr R.nc
      have le : (ys.map Int.toNat).Pairwise (· ≤ ·) := by
        rw [List.pairwise_map]
        exact List.Pairwise.imp (fun {a b} q => by omega) hs
      exact List.Pairwise.imp (fun {a b} q => by have := q.1; have := q.2; omega) (le.and nd2)
    generalize hS : sndOf rk tk ck = S at *
    generalize hg : (fun i : Nat => if S.voice i > 0 then [((i : Int), S.voice i)] else []) = g
    have hall : (ys.map Int.toNat).flatMap g = voiceL S := by
      rw [← hg]
      refine flat_sorted p2 (fun i hi => ⟨Nat.zero_le _, ?_⟩) fun i _ _ hi => ?_
      · obtain ⟨e, he, rfl⟩ := List.mem_map.mp (p1.mem_iff.mp hi)
        have := R.bc e he; omega
      · have e0 : S.voice i = 0 := by
          rw [← hS]
          show (lookA ck i).getD 0 = 0
          rw [lookA_none (fun z => hi (p1.mem_iff.mpr z))]; rfl
        show (if S.voice i > 0 then _ else _) = _
        rw [e0]; rfl
    have hlen1 : (ys.map Int.toNat).length ≤ n := by rw [p1.length_eq, List.length_map]; exact R.lc
    have g1 : ∀ i, (g i).length ≤ 1 := fun i => by rw [← hg]; show (if _ then _ else _ : List _).length ≤ 1; split <;> simp
    have big : sizeLine > 1000 := by decide
    have n60 := R.n60
    have sH : Same H (upd H p (.lst (ys.map V.int))) := Same.new np
    have Dp : D ≠ p := fun z => by rw [z, upd_same] at nD; cases nD
    have nD0 : H D = none := by rw [upd_ne Dp] at nD; exact nD
    refine lc_list (xs := ys.map V.int) (fun i H' => Same (upd H p (.lst (ys.map V.int))) H' ∧ ∃ fs : List (Addr × (Int × Int)), H' D = some (.lst (refs fs)) ∧ TL MomV H' fs ∧ fs.map (·.2) = ((ys.map Int.toNat).take i).flatMap g)
      ⟨Same.new nD, [], upd_same, TL.nil, rfl⟩ (fun i H' _ h => SqL.of (h.1 _ _ upd_same)) ?_ ?_
    · rintro i x H3 hx ⟨s1, fs, h1, h2, h3⟩
      obtain ⟨y, hy, rfl⟩ := get_int hx
      obtain ⟨a, rfl, ham⟩ := p0 y (List.mem_of_getElem? hy)
      obtain ⟨v, hl⟩ := look_of_mem (xs := ck) (i := a) ham
      have hins3 := s1 _ _ (sH _ _ R.ins)
      have hc3 := s1 _ _ (sH _ _ R.hc)
      have et : (ys.map Int.toNat).take (i + 1) = (ys.map Int.toNat).take i ++ [a] := take_snoc (by rw [List.getElem?_map, hy]; rfl)
      have ev : S.voice a = v := by
        rw [← hS]
        show (lookA ck a).getD 0 = v
        rw [hl]; rfl
      have dg : ∀ {Hh : Hp}, Hh c = some (.dK (ck.map cE)) → DGet Hh c (.int (a : Int)) (some (.int v)) := fun h5 => by
        have z := DGet.k (k := Sum.inl (a : Int)) h5
        have y : valV (ck.map cE) (Sum.inl (a : Int) : Key) = some (.int v) := by
          have := valV_al (val := V.int) cI_inj ck a
          rw [hl] at this; exact this
        rw [y] at z; exact z
      refine ⟨rfl, _, rfl, o, _, dx, _, _, rfl, hins3, T.cStand, T.aStandChosen, rfl, _, rfl, c, _, rfl, dg hc3, _, _, rfl, rfl, _, rfl, ?_⟩
      refine ite2 (fun hc => ?_) (fun hc => ?_)
      · have hc' : v > 0 := of_decide_eq_true hc
        refine ⟨_, rfl, _, rfl, o, _, dx, _, _, rfl, hins3, T.cStand, T.aStandChosen, rfl, _, rfl, c, _, rfl, dg hc3, by show 2 ≤ sizeLine; decide, fun u nu => ?_⟩
        have uD : u ≠ D := fun z => by rw [z, h1] at nu; cases nu
        have s6 : Same H3 (upd H3 u (.tup (MomV ((a : Int), v)))) := Same.new nu
        refine ⟨_, s6 _ _ h1, ?_, ((s1.trans s6).put nD), fs ++ [(u, ((a : Int), v))], ?_, ?_, ?_⟩
        · have e7 := congrArg List.length h3
          have e8 := flat_le g1 ((ys.map Int.toNat).take i)
          rw [List.length_take] at e8
          rw [List.length_map] at e7
          rw [refs_len]; omega
        · rw [upd_same, refs_app]; rfl
        · intro x hx
          rcases List.mem_append.mp hx with hx | hx
          · rw [upd_ne (ne_of (h2 x hx) h1 (by intro z; cases z))]; exact s6 _ _ (h2 x hx)
          · rw [List.mem_singleton.mp hx, upd_ne uD, upd_same]; rfl
        · rw [List.map_append, h3, et, List.flatMap_append]
          have : g a = [((a : Int), v)] := by rw [← hg]; show (if _ then _ else _) = _; rw [ev, if_pos hc']
          rw [List.flatMap_cons, this]; rfl
      · have hc' : ¬ v > 0 := fun z => hc (decide_eq_true z)
        refine ⟨s1, fs, h1, h2, ?_⟩
        rw [h3, et, List.flatMap_append]
        have : g a = [] := by rw [← hg]; show (if _ then _ else _) = _; rw [ev, if_neg hc']
        rw [List.flatMap_cons, this]; simp
    · rintro H2 ⟨s1, fs, h1, h2, h3⟩
      rw [List.length_map, show ys.length = (ys.map Int.toNat).length by rw [List.length_map], List.take_length, hall] at h3
      refine q H2 D fs (sH.trans s1) nD0 h1 h2 h3 ?_
      have e7 := congrArg List.length h3
      have e8 := flat_le g1 (ys.map Int.toNat)
      rw [List.length_map, ← hall] at e7
      omega
end
end L2.RK
namespace L2.RK
open PySem PySem.Spec PyProof.Rows
/-! Stand.parts, len, == -/
def triD (s : Int × Int × Int) : PyData := .tuple [.int s.1, .int s.2.1, .int s.2.2]
def pairD (s : Int × Int) : PyData := .tuple [.int s.1, .int s.2]
def partsD (S : Snd) : PyData := .list [.list ((sndL S).map triD), .list ((knobL S).map triD), .list ((voiceL S).map pairD)]
theorem can_tri : ∀ l : List (Int × Int × Int), PyData.canLayAll0 (l.map triD) = true
  | [] => by simp [PyData.canLayAll0]
  | x :: r => by rw [List.map_cons, PyData.canLayAll0, can_tri r]; simp [triD, PyData.canLay0, PyData.canLayAll0]
theorem can_pair : ∀ l : List (Int × Int), PyData.canLayAll0 (l.map pairD) = true
  | [] => by simp [PyData.canLayAll0]
  | x :: r => by rw [List.map_cons, PyData.canLayAll0, can_pair r]; simp [pairD, PyData.canLay0, PyData.canLayAll0]
theorem dep_tri : ∀ l : List (Int × Int × Int), PyData.depthAll (l.map triD) ≤ 1
  | [] => by simp [PyData.depthAll]
  | x :: r => by rw [List.map_cons, PyData.depthAll]; have := dep_tri r; simp [triD, PyData.depth, PyData.depthAll]; omega
theorem dep_pair : ∀ l : List (Int × Int), PyData.depthAll (l.map pairD) ≤ 1
  | [] => by simp [PyData.depthAll]
  | x :: r => by rw [List.map_cons, PyData.depthAll]; have := dep_pair r; simp [pairD, PyData.depth, PyData.depthAll]; omega
theorem parts_shaped (S : Snd) : SeqAt.shaped (partsD S) = true := by
  have h1 := dep_tri (sndL S)
  have h2 := dep_tri (knobL S)
  have h3 := dep_pair (voiceL S)
  refine Bool.and_eq_true_iff.mpr ⟨?_, decide_eq_true ?_⟩
  · simp only [partsD, PyData.canLay0, PyData.canLayAll0, can_tri, can_pair, Bool.and_true]
  · simp only [partsD, PyData.depth, PyData.depthAll]
    omega
mutual
theorem dp_same {K : PySem.W.Frag} {H H' : Hp} (e : Same H H') : ∀ (d : PyData) (v : V), Dp K H v d → Dp K H' v d
  | .none, _, h => by cases h; exact .non
  | .bool _, _, h => by cases h; exact .bl _
  | .int _, _, h => by cases h; exact .int _
  | .str _, _, h => by cases h; exact .str _
  | .list ds, _, h => by
    cases h with
    | lst h1 h2 => exact .lst (e.seq h1) (dpAll_same e ds _ h2)
  | .tuple ds, _, h => by
    cases h with
    | tup h1 h2 => exact .tup (e.tupT h1) (dpAll_same e ds _ h2)
  | .dict _, _, h => by cases h
theorem dpAll_same {K : PySem.W.Frag} {H H' : Hp} (e : Same H H') : ∀ (ds : List PyData) (vs : List V), DpAll K H vs ds → DpAll K H' vs ds
  | [], _, h => by cases h; exact .nil
  | d :: ds, _, h => by
    cases h with
    | cons h1 h2 => exact .cons (dp_same e d _ h1) (dpAll_same e ds _ h2)
end
theorem eqvAll_len : ∀ xs ys : List PyData, PyData.eqvAll xs ys = true → xs.length = ys.length
  | [], [], _ => rfl
  | [], _ :: _, h => by simp [PyData.eqvAll] at h
  | _ :: _, [], h => by simp [PyData.eqvAll] at h
  | x :: xs, y :: ys, h => by
    rw [PyData.eqvAll, Bool.and_eq_true] at h
    rw [List.length_cons, List.length_cons, eqvAll_len xs ys h.2]
theorem parts_ne {S S' : Snd} (h : (sndL S).length ≠ (sndL S').length) : PyData.eqv (partsD S) (partsD S') = false := by
  unfold partsD
  rw [PyData.eqv, PyData.eqvAll, PyData.eqv]
  cases e : PyData.eqvAll ((sndL S).map triD) ((sndL S').map triD) with
  | false => rfl
  | true =>
    have := eqvAll_len _ _ e
    rw [List.length_map, List.length_map] at this
    exact absurd this h
theorem parts_refl (S : Snd) : PyData.eqv (partsD S) (partsD S) = true := SeqAt.eqv_refl _ (SeqAt.canLay_of_shaped (parts_shaped S))
theorem dp_list {α : Type} {f : α → List V} {g : α → PyData} {K : PySem.W.Frag} {H : Hp} (hfg : ∀ (a : Addr) (x : α), H a = some (.tup (f x)) → Dp K H (.ref a) (g x)) : ∀ {xs : List (Addr × α)}, TL f H xs → DpAll K H (refs xs) ((xs.map (·.2)).map g)
  | [], _ => .nil
  | x :: r, h => .cons (hfg _ _ (h x List.mem_cons_self)) (dp_list hfg fun y hy => h y (List.mem_cons_of_mem _ hy))
section
variable {P : Program} {w : World} {K : PySem.W.Frag} {mg : Str → Option Value} {base : Heap}
theorem scStandParts : FnScope ["self"] ["self"] (defScope sStandParts) := ⟨rfl, rfl, rfl, by decide +kernel, rfl, by decide +kernel, by decide +kernel⟩
def spParts (K : PySem.W.Frag) : Sp := fun vs H Q _ => ∃ (o : Addr) (S : Snd) (n : Nat), vs = [.ref o] ∧ StandAt K H o S n ∧ ∀ (H' : Hp) (l : Addr), Same H H' → Dp K H' (.ref l) (partsD S) → Q (.ref l) H'
theorem ok_parts (T : Txt K mg w) : Has P w K mg base 2 (mA K "Stand" "parts") ["self"] (spParts K) := by
  obtain ⟨fd, F⟩ := T.fStandParts
  obtain ⟨f1, G1, b1, k1⟩ := ok_sounds (P := P) (base := base) T
  obtain ⟨f2, G2, b2, k2⟩ := ok_knobs (P := P) (base := base) T
  obtain ⟨f3, G3, b3, k3⟩ := ok_voices (P := P) (base := base) T
  refine ⟨fd, F.ok scStandParts (fun vs H Q E h => ?_) (fun cdv A outer s H vs Q E hr h => ⟨_, PSs.nox (pss_one (ps_ret (pe_lst (pa_cons (pe_meth0 (pv 0) T.cStand T.mStandSounds G1 hr b1 .nil pass0) (pa_cons (pe_meth0 (pv 0) T.cStand T.mStandKnobs G2 hr b2 .nil pass0) (pa_cons (pe_meth0 (pv 0) T.cStand T.mStandVoices G3 hr b3 .nil pass0) pa_nil)))))), ?_⟩), F.bindsN fun _ _ _ _ _ _ us hl => match us, hl with | [_], _ => rfl, F.kp⟩
  · obtain ⟨o, S, n, rfl, _⟩ := h
    rfl
  · obtain ⟨o, S, n, rfl, hS, q⟩ := h
    obtain ⟨dx, r, t, c, rk, tk, ck, R, _⟩ := id hS
    refine ⟨_, rfl, o, dx, _, rfl, R.ins, rfl, o, S, n, rfl, hS, fun H1 l1 xs1 s1 _ a1 a2 a3 _ => ?_⟩
    refine ⟨_, rfl, o, dx, _, rfl, (R.same s1).ins, rfl, o, S, n, rfl, hS.same s1, fun H2 l2 xs2 s2 _ b1 b2 b3 _ => ?_⟩
    refine ⟨_, rfl, o, dx, _, rfl, ((R.same s1).same s2).ins, rfl, o, S, n, rfl, (hS.same s1).same s2, fun H3 l3 xs3 s3 _ c1 c2 c3 _ => ?_⟩
    refine ⟨by show 3 ≤ sizeLine; decide, fun l nl => ?_⟩
    have s4 : Same H3 (upd H3 l (.lst [.ref l1, .ref l2, .ref l3])) := Same.new nl
    refine q _ l (((s1.trans s2).trans s3).trans s4) ?_
    have t3 : ∀ {Hh : Hp} (a : Addr) (x : Int × Int × Int), Hh a = some (.tup (TriV x)) → Dp K Hh (.ref a) (triD x) := fun a x h => .tup (SqT.of h) (.cons (.int _) (.cons (.int _) (.cons (.int _) .nil)))
    have t2 : ∀ {Hh : Hp} (a : Addr) (x : Int × Int), Hh a = some (.tup (MomV x)) → Dp K Hh (.ref a) (pairD x) := fun a x h => .tup (SqT.of h) (.cons (.int _) (.cons (.int _) .nil))
    refine .lst (SqL.of upd_same) (.cons (.lst (SqL.of (s4 _ _ (s3 _ _ (s2 _ _ a1)))) ?_) (.cons (.lst (SqL.of (s4 _ _ (s3 _ _ b1))) ?_) (.cons (.lst (SqL.of (s4 _ _ c1)) ?_) .nil)))
    · rw [← a3]; exact dp_list t3 (((a2.same s2).same s3).same s4)
    · rw [← b3]; exact dp_list t3 ((b2.same s3).same s4)
    · rw [← c3]; exact dp_list t2 (c2.same s4)
theorem scStandLen : FnScope ["self"] ["self"] (defScope sStandLen) := ⟨rfl, rfl, rfl, by decide +kernel, rfl, by decide +kernel, by decide +kernel⟩
def spLen (K : PySem.W.Frag) : Sp := fun vs H Q _ => ∃ (o : Addr) (S : Snd) (n : Nat), vs = [.ref o] ∧ StandAt K H o S n ∧ ∀ (H' : Hp), Same H H' → (sndL S).length ≤ n → Q (.int (sndL S).length) H'
theorem ok_len (T : Txt K mg w) : Has P w K mg base 2 (mA K "Stand" "__len__") ["self"] (spLen K) := by
  obtain ⟨fd, F⟩ := T.fStandLen
  obtain ⟨f1, G1, b1, k1⟩ := ok_sounds (P := P) (base := base) T
  refine ⟨fd, F.ok scStandLen (fun vs H Q E h => ?_) (fun cdv A outer s H vs Q E hr h => ⟨_, PSs.nox (pss_one (ps_ret (pe_callB call_len_seq (by rfl) T.nLen PySem.boot_len (pa_cons (pe_meth0 (pv 0) T.cStand T.mStandSounds G1 hr b1 .nil pass0) pa_nil)))), ?_⟩), F.bindsN fun _ _ _ _ _ _ us hl => match us, hl with | [_], _ => rfl, F.kp⟩
  · obtain ⟨o, S, n, rfl, _⟩ := h
    rfl
  · obtain ⟨o, S, n, rfl, hS, q⟩ := h
    obtain ⟨dx, r, t, c, rk, tk, ck, R, _⟩ := id hS
    refine ⟨_, rfl, o, dx, _, rfl, R.ins, rfl, o, S, n, rfl, hS, fun H1 l1 xs1 s1 _ a1 a2 a3 a4 => ⟨l1, _, rfl, .inl (SqL.of a1), ?_⟩⟩
    have e : (sndL S).length = xs1.length := by rw [← a3, List.length_map]
    rw [refs_len, ← e]
    exact q H1 s1 (by rw [e]; exact a4)
theorem scStandEq : FnScope ["self", "other"] ["self", "other"] (defScope sStandEq) := ⟨rfl, rfl, rfl, by decide +kernel, rfl, by decide +kernel, by decide +kernel⟩
def spEq (K : PySem.W.Frag) : Sp := fun vs H Q _ => ∃ (o p : Addr) (S S' : Snd) (n n' : Nat), vs = [.ref o, .ref p] ∧ StandAt K H o S n ∧ StandAt K H p S' n' ∧
  ∀ (H' : Hp) (k : Bool), Same H H' → (S = S' → k = true) → ((sndL S).length ≠ (sndL S').length → k = false) → Q (.bl k) H'
theorem ok_eq (T : Txt K mg w) : Has P w K mg base 3 (mA K "Stand" "__eq__") ["self", "other"] (spEq K) := by
  obtain ⟨fd, F⟩ := T.fStandEq
  obtain ⟨f1, G1, b1, k1⟩ := ok_parts (P := P) (base := base) T
  refine ⟨fd, F.ok scStandEq (fun vs H Q E h => ?_) (fun cdv A outer s H vs Q E hr h => ⟨_, PSs.nox (pss_one (ps_ret (pe_and (pe_callB (C8.call_isC T.oIs) (by rfl) T.nIsinstance (by decide +kernel) (pa_cons (pv 1) (pa_cons (pe_glob (v := .ref (gA K "Stand")) rfl T.gStand rfl) pa_nil)))
      (pe_one (pe_cmpR (op_eqD hr.units) (pe_meth0 (pv 0) T.cStand T.mStandParts G1 hr b1 .nil pass0) (pe_meth0 (pv 1) T.cStand T.mStandParts G1 hr b1 .nil pass0) (nomark _)))))), ?_⟩), F.bindsN fun _ _ _ _ _ _ us hl => match us, hl with | [_, _], _ => rfl, F.kp⟩
  · obtain ⟨o, p, S, S', n, n', rfl, _⟩ := h
    rfl
  · obtain ⟨o, p, S, S', n, n', rfl, hS, hS', q⟩ := h
    obtain ⟨dx, r, t, c, rk, tk, ck, R, _⟩ := id hS
    obtain ⟨dx', r', t', c', rk', tk', ck', R', _⟩ := id hS'
    refine ⟨_, rfl, p, dx', _, rfl, R'.ins, true, rfl, ?_⟩
    refine ⟨_, rfl, o, dx, _, rfl, R.ins, rfl, o, S, n, rfl, hS, fun H1 l1 s1 d1 => ?_⟩
    refine ⟨_, rfl, p, dx', _, rfl, (R'.same s1).ins, rfl, p, S', n', rfl, hS'.same s1, fun H2 l2 s2 d2 => ?_⟩
    refine ⟨partsD S, partsD S', dp_same s2 _ _ d1, d2, parts_shaped S, parts_shaped S', q H2 _ (s1.trans s2) (fun z => by rw [z]; exact parts_refl S') parts_ne⟩
end
end L2.RK
namespace L2.RK
open PySem PySem.Spec PyProof.Rows
/-! Stand.after -/
section
variable {P : Program} {w : World} {K : PySem.W.Frag} {mg : Str → Option Value} {base : Heap}
abbrev nAfter : List Str := ["self", "thing", "word", "things", "other", "channel", "key", "force", "here"]
theorem scStandAfter : FnScope nAfter ["self", "thing"] (defScope sStandAfter) := ⟨rfl, rfl, rfl, by decide +kernel, rfl, by decide +kernel, by decide +kernel⟩
def spAfter (K : PySem.W.Frag) : Sp := fun vs H Q _ => ∃ (o a : Addr) (S : Snd) (n : Nat) (t : Th), vs = [.ref o, .ref a] ∧ StandAt K H o S n ∧ n < 60 ∧ H a = some (.tup (thV t)) ∧ ThOk t ∧
  ∀ (H' : Hp) (p : Addr), Same H H' → StandAt K H' p (stepS S t) (n + 1) → Q (.ref p) H'
theorem ok_after (T : Txt K mg w) : Has P w K mg base 3 (mA K "Stand" "after") ["self", "thing"] (spAfter K) := by
  obtain ⟨fd, F⟩ := T.fStandAfter
  obtain ⟨f1, G1, b1, k1⟩ := ok_stand_init (P := P) (base := base) T
  have nd := scStandAfter.nd
  refine ⟨fd, F.ok scStandAfter (fun vs H Q E h => ?_) (fun cdv A outer s H vs Q E hr h => ⟨_, PSs.nox (pss_cons (ps_asg (pv 1) (pg_star (by rfl) (pgs_cons (pg_name (i := 2) nd rfl (.inl rfl)) (pgs_star (pg_name (i := 3) nd rfl (.inl rfl))))))
      (pss_cons (ps_set (i := 4) nd rfl (.inl rfl) (pe_make0 T.kStand G1 hr (by rfl) T.gStand b1 .nil pass0))
      (pss_cons (ps_fld (pv 4) (pe_callTy (call_dictDT (hu2_of hr)) (by rfl) T.nDict (by decide +kernel) (pa_cons (pe_fld (pv 0) rfl) pa_nil)) rfl)
      (pss_cons (ps_fld (pv 4) (pe_callTy (call_dictDT (hu2_of hr)) (by rfl) T.nDict (by decide +kernel) (pa_cons (pe_fld (pv 0) rfl) pa_nil)) rfl)
      (pss_cons (ps_fld (pv 4) (pe_callTy call_dictD (by rfl) T.nDict (by decide +kernel) (pa_cons (pe_fld (pv 0) rfl) pa_nil)) rfl)
      (pss_cons (ps_if (pt_cmpR op_eq (pv 2) pe_str (nomark _)) (pss_one (ps_dput (hu_of hr) (pe_fld (pv 4) rfl) (pe_tup (pa_cons (pe_ix ix_list (pv 3) pe_int (fun _ _ => rfl)) (pa_cons (pe_ix ix_list (pv 3) pe_int (fun _ _ => rfl)) pa_nil))) (pe_ix ix_list (pv 3) pe_int (fun _ _ => rfl)) rfl))
        (pss_one (ps_if (pt_cmpR op_eq (pv 2) pe_str (nomark _)) (pss_one (ps_dput (hu_of hr) (pe_fld (pv 4) rfl) (pe_ix ix_list (pv 3) pe_int (fun _ _ => rfl)) (pe_ix ix_list (pv 3) pe_int (fun _ _ => rfl)) rfl))
        (pss_one (ps_if (pt_cmpR op_ne (pv 2) pe_str (nomark _)) (pss_cons (ps_asg (pv 3) (pg_lst (by rfl) (pgs_cons (pg_name (i := 5) nd rfl (.inl rfl)) (pgs_cons (pg_name (i := 6) nd rfl (.inl rfl)) (pgs_cons (pg_name (i := 7) nd rfl (.inl rfl)) pgs_nil)))))
          (pss_cons (ps_set (i := 8) nd rfl (.inl rfl) (pe_dget2 (hu_of hr) (pe_fld (pv 0) rfl) (pe_tup (pa_cons (pv 5) (pa_cons (pv 6) pa_nil))) (pe_tup pa_nil) ⟨rfl, rfl, rfl, rfl⟩))
          (pss_one (ps_dput (hu_of hr) (pe_fld (pv 4) rfl) (pe_tup (pa_cons (pv 5) (pa_cons (pv 6) pa_nil))) (pe_ifExp (pt_cmpR op_eq (pv 2) pe_str (nomark _)) (pe_op op_catA (pv 8) (pe_tup (pa_cons (pv 7) pa_nil))) (pe_slice sl_tupA (pv 8) (po_some pe_int) po_none)) rfl)))) pss_nil)))))
      (pss_one (ps_ret (pv 4))))))))), ?_⟩), F.bindsN fun _ _ _ _ _ _ us hl => match us, hl with | [_, _], _ => rfl, F.kp⟩
  · obtain ⟨o, a, S, n, t, rfl, _⟩ := h
    rfl
  · obtain ⟨o, a, S, n, t, rfl, ⟨dx, r, tt, c, rk, tk, ck, R, rfl⟩, hn, ha, ht, q⟩ := h
    obtain ⟨wd, th, et⟩ : ∃ wd th, thV t = .str wd :: th := by cases t <;> exact ⟨_, _, rfl⟩
    rw [et] at ha
    refine ⟨_, rfl, a, _, rfl, .inl (SqT.of ha), by show 1 ≤ th.length + 1; omega, fun D nD => ⟨_, _, rfl, _, _, rfl, rfl, ?_⟩⟩
    refine fun x dx2 nx ndx nex => ⟨x, dx2, rfl, by rw [upd_same], fun H1 r0 t0 c0 keep hx0 hr0 ht0 hc0 => ⟨rfl, ?_⟩⟩
    have s01 : Same H (upd H D (.lst th)) := Same.new nD
    have s12 : Same (upd H D (.lst th)) H1 := Same.made nx ndx keep
    have sH1 : Same H H1 := s01.trans s12
    have nx0 : H x = none := s01.free nx
    have nD1 : H1 D = some (.lst th) := s12 _ _ upd_same
    have xD : x ≠ D := fun z => by rw [z, upd_same] at nx; cases nx
    have R1 := R.same sH1
    have ox : o ≠ x := ne_of_none R.ins nx0
    have ckT : ∀ {α : Type} {val : α → V} {xs : List (Nat × α)}, (∀ e ∈ xs, e.1 < 2048) → ∀ p ∈ xs.map (fun e => (ckey e.1, val e.2)), CK p.1 := fun hb p hp => by
      obtain ⟨e, he, rfl⟩ := List.mem_map.mp hp
      have := hb e he
      exact ⟨e.1 / 128, e.1 % 128, rfl, by omega, by omega⟩
    refine ⟨_, rfl, o, _, dx, _, _, rfl, R1.ins, T.cStand, T.aStandRinging, rfl, r, rk.map rE, rfl, .inl R1.hr, ckT (val := fun x : Addr × List Int => V.ref x.1) R.br, fun a1 na1 => ?_⟩
    have xa1 : x ≠ a1 := ne_of_none hx0 na1
    refine ⟨_, rfl, x, _, dx2, _, rfl, (by rw [upd_ne xa1]; exact hx0), T.cStand, T.aStandRinging, by show 3 < 1000; decide, ?_⟩
    generalize hH2 : upd (upd H1 a1 _) x _ = H2
    have st1 : ∀ b u, b ≠ x → H1 b = some u → H2 b = some u := fun b u hb e => by rw [← hH2, upd_ne hb, upd_ne (ne_of_none e na1)]; exact e
    have ha1 : H2 a1 = some (.dT (rk.map rE)) := by rw [← hH2, upd_ne xa1.symm, upd_same]
    have hx2 : H2 x = some (.ins (gA K "Stand") dx2 [("ringing", .ref a1), ("turned", .ref t0), ("chosen", .ref c0)]) := by rw [← hH2, upd_same]; rfl
    have xH : ∀ b u, H b = some u → b ≠ x := fun b u e => ne_of_none e nx0
    have sH2 : Same H H2 := fun b u e => st1 b u (xH b u e) (sH1 b u e)
    have R2 := R.same sH2
    refine ⟨_, rfl, o, _, dx, _, _, rfl, R2.ins, T.cStand, T.aStandTurned, rfl, tt, tk.map tE, rfl, .inl R2.ht, ckT (val := V.int) R.bt, fun a2 na2 => ?_⟩
    have xa2 : x ≠ a2 := ne_of_none hx2 na2
    refine ⟨_, rfl, x, _, dx2, _, rfl, (by rw [upd_ne xa2]; exact hx2), T.cStand, T.aStandTurned, by show 3 < 1000; decide, ?_⟩
    generalize hH3 : upd (upd H2 a2 _) x _ = H3
    have st2 : ∀ b u, b ≠ x → H2 b = some u → H3 b = some u := fun b u hb e => by rw [← hH3, upd_ne hb, upd_ne (ne_of_none e na2)]; exact e
    have ha2 : H3 a2 = some (.dT (tk.map tE)) := by rw [← hH3, upd_ne xa2.symm, upd_same]
    have hx3 : H3 x = some (.ins (gA K "Stand") dx2 [("ringing", .ref a1), ("turned", .ref a2), ("chosen", .ref c0)]) := by rw [← hH3, upd_same]; rfl
    have sH3 : Same H H3 := fun b u e => st2 b u (xH b u e) (sH2 b u e)
    have R3 := R.same sH3
    refine ⟨_, rfl, o, _, dx, _, _, rfl, R3.ins, T.cStand, T.aStandChosen, rfl, c, ck.map cE, rfl, .inl R3.hc, fun a3 na3 => ?_⟩
    have xa3 : x ≠ a3 := ne_of_none hx3 na3
    refine ⟨_, rfl, x, _, dx2, _, rfl, (by rw [upd_ne xa3]; exact hx3), T.cStand, T.aStandChosen, by show 3 < 1000; decide, ?_⟩
    generalize hH4 : upd (upd H3 a3 _) x _ = H4
    have st3 : ∀ b u, b ≠ x → H3 b = some u → H4 b = some u := fun b u hb e => by rw [← hH4, upd_ne hb, upd_ne (ne_of_none e na3)]; exact e
    have hx4 : H4 x = some (.ins (gA K "Stand") dx2 [("ringing", .ref a1), ("turned", .ref a2), ("chosen", .ref a3)]) := by rw [← hH4, upd_same]; rfl
    have h1 : H4 a1 = some (.dT (rk.map rE)) := st3 _ _ xa1.symm (st2 _ _ xa1.symm ha1)
    have h2 : H4 a2 = some (.dT (tk.map tE)) := st3 _ _ xa2.symm ha2
    have h3 : H4 a3 = some (.dK (ck.map cE)) := by rw [← hH4, upd_ne xa3.symm, upd_same]
    have hD : H4 D = some (.lst th) := st3 _ _ xD.symm (st2 _ _ xD.symm (st1 _ _ xD.symm nD1))
    have sH4 : Same H H4 := fun b u e => st3 b u (xH b u e) (sH3 b u e)
    have n1 : H a1 = none := sH1.free na1
    have n2 : H a2 = none := sH2.free na2
    have n3 : H a3 = none := sH3.free na3
    have d12 : a1 ≠ a2 := ne_of_none ha1 na2
    have hfx : ∀ e ∈ rk, H4 e.2.1 = some (.tup (e.2.2.map V.int)) := fun e he => sH4 _ _ (R.hf e he)
    clear hH2 hH3 hH4 st1 st2 st3 ha1 ha2 hx2 hx3 hx0 R1 R2 R3 sH2 sH3 na1 na2 na3 keep hr0 ht0 hc0 s12 nD1 nx ndx sH1
    have R4 := R.same sH4
    have n60 := R.n60
    have big : sizeLine > 1000 := by decide
    have lr := R.lr
    have lt := R.lt
    have lc := R.lc
    cases t with
    | mark z =>
      simp only [thV, List.cons.injEq, V.str.injEq] at et
      obtain ⟨rfl, rfl⟩ := et
      refine ⟨_, rfl, rfl, _, rfl, ifN (by decide) ⟨_, rfl, rfl, _, rfl, ifN (by decide) ⟨_, rfl, rfl, _, rfl, ifNY rfl ⟨_, rfl, q H4 x sH4 ⟨dx2, a1, a2, a3, rk, tk, ck, ?_, rfl⟩⟩⟩⟩⟩
      exact ⟨hx4, h1, hfx, h2, h3, R.nr, R.nt, R.nc, R.br, R.bt, R.bc, by omega, by omega, by omega, by have := R.sz; omega, by omega⟩
    | knob cc kk vv =>
      simp only [thV, List.cons.injEq, V.str.injEq] at et
      obtain ⟨rfl, rfl⟩ := et
      obtain ⟨b1, b2, b3⟩ : cc < 16 ∧ kk < 128 ∧ vv < 128 := ht
      refine ⟨_, rfl, rfl, _, rfl, ifY rfl ⟨_, rfl, D, _, _, _, rfl, rfl, SqL.of hD, rfl, _, rfl, x, _, dx2, _, _, rfl, hx4, T.cStand, T.aStandTurned, rfl, _, rfl, D, _, _, _, rfl, rfl, SqL.of hD, rfl, _, rfl, D, _, _, _, rfl, rfl, SqL.of hD, rfl, by show 2 ≤ sizeLine; decide, fun u nu => ?_⟩⟩
      have s5 : Same H4 (upd H4 u (.tup [.int cc, .int kk])) := Same.new nu
      refine ⟨a2, _, rfl, DPut.t (k := ckey (cc * 128 + kk)) (s5 _ _ h2) (by rw [upd_same, ckey_code b2]; rfl) (by rw [List.length_map]; omega), ?_⟩
      have e2 : putK (tk.map tE) (ckey (cc * 128 + kk)) (.int vv) = (putA tk (cc * 128 + kk) (vv : Int)).map tE := putK_al (val := V.int) (fun i j h => ckey_inj h) tk _ _
      have ne : ∀ b u', H4 b = some u' → b ≠ a2 → upd (upd H4 u (.tup [.int cc, .int kk])) a2 (.dT (putK (tk.map tE) (ckey (cc * 128 + kk)) (.int vv))) b = some u' := fun b u' e hb => by rw [upd_ne hb]; exact s5 _ _ e
      refine ⟨_, rfl, q _ x (fun b u' e => ne b u' (sH4 _ _ e) (ne_of_none e n2)) ⟨dx2, a1, a2, a3, rk, putA tk (cc * 128 + kk) (vv : Int), ck, ?_, ?_⟩⟩
      · refine ⟨ne _ _ hx4 (ne_of hx4 h2 (by intro z; cases z)), ne _ _ h1 d12, fun e he => ne _ _ (hfx e he) (ne_of (hfx e he) h2 (by intro z; cases z)), by rw [upd_same, e2], ne _ _ h3 (ne_of h3 h2 (by intro z; cases z)), R.nr, putA_keys R.nt, R.nc, R.br, fun e he => ?_, R.bc, by omega, ?_, by omega, by have := R.sz; omega, by omega⟩
        · rcases mem_putA he with he | he
          · exact R.bt e he
          · rw [he]; show cc * 128 + kk < 2048; omega
        · have := putA_len (xs := tk) (i := cc * 128 + kk) (a := (vv : Int)); omega
      · refine Snd.same rfl (funext fun j => ?_) rfl
        show setF _ _ _ j = (lookA (putA tk (cc * 128 + kk) (vv : Int)) j).getD 0
        rw [lookA_put]
        unfold setF
        by_cases hj : j = cc * 128 + kk
        · rw [if_pos hj, if_pos hj]; rfl
        · rw [if_neg hj, if_neg hj]; rfl
    | voice cc pp =>
      simp only [thV, List.cons.injEq, V.str.injEq] at et
      obtain ⟨rfl, rfl⟩ := et
      obtain ⟨b1, b2⟩ : cc < 16 ∧ pp < 128 := ht
      refine ⟨_, rfl, rfl, _, rfl, ifN (by decide) ⟨_, rfl, rfl, _, rfl, ifY rfl ⟨_, rfl, D, _, _, _, rfl, rfl, SqL.of hD, rfl, _, rfl, x, _, dx2, _, _, rfl, hx4, T.cStand, T.aStandChosen, rfl, _, rfl, D, _, _, _, rfl, rfl, SqL.of hD, rfl, a3, _, rfl, DPut.k (k := Sum.inl (cc : Int)) h3 (by rw [List.length_map]; omega), ?_⟩⟩⟩
      have e2 : putK (ck.map cE) (Sum.inl (cc : Int) : Key) (.int pp) = (putA ck cc (pp : Int)).map cE := putK_al (val := V.int) cI_inj ck _ _
      have ne : ∀ b u', H4 b = some u' → b ≠ a3 → upd H4 a3 (.dK (putK (ck.map cE) (Sum.inl (cc : Int) : Key) (.int pp))) b = some u' := fun b u' e hb => by rw [upd_ne hb]; exact e
      refine ⟨_, rfl, q _ x (fun b u' e => ne b u' (sH4 _ _ e) (ne_of_none e n3)) ⟨dx2, a1, a2, a3, rk, tk, putA ck cc (pp : Int), ?_, ?_⟩⟩
      · refine ⟨ne _ _ hx4 (ne_of hx4 h3 (by intro z; cases z)), ne _ _ h1 (ne_of h1 h3 (by intro z; cases z)), fun e he => ne _ _ (hfx e he) (ne_of (hfx e he) h3 (by intro z; cases z)), ne _ _ h2 (ne_of h2 h3 (by intro z; cases z)), by rw [upd_same, e2], R.nr, R.nt, putA_keys R.nc, R.br, R.bt, fun e he => ?_, by omega, by omega, ?_, by have := R.sz; omega, by omega⟩
        · rcases mem_putA he with he | he
          · exact R.bc e he
          · rw [he]; exact b1
        · have := putA_len (xs := ck) (i := cc) (a := (pp : Int)); omega
      · refine Snd.same rfl rfl (funext fun j => ?_)
        show setF _ _ _ j = (lookA (putA ck cc (pp : Int)) j).getD 0
        rw [lookA_put]
        unfold setF
        by_cases hj : j = cc
        · rw [if_pos hj, if_pos hj]; rfl
        · rw [if_neg hj, if_neg hj]; rfl
    | on cc kk ff =>
      simp only [thV, List.cons.injEq, V.str.injEq] at et
      obtain ⟨rfl, rfl⟩ := et
      obtain ⟨b1, b2, b3⟩ : cc < 16 ∧ kk < 128 ∧ ff < 128 := ht
      refine ⟨_, rfl, rfl, _, rfl, ifN (by decide) ⟨_, rfl, rfl, _, rfl, ifN (by decide) ⟨_, rfl, rfl, _, rfl, ifNN (by decide) ?_⟩⟩⟩
      refine ⟨_, rfl, D, _, rfl, SqL.of hD, rfl, _, _, rfl, _, _, rfl, _, _, rfl, rfl, ?_⟩
      have key : (ckey (cc * 128 + kk)).map kV = [V.int cc, V.int kk] := by rw [ckey_code b2]; rfl
      refine ⟨_, rfl, o, _, dx, _, _, rfl, R4.ins, T.cStand, T.aStandRinging, rfl, r, rfl, .inr ⟨_, .inl R4.hr⟩, _, rfl, _, rfl, by show 2 ≤ sizeLine; decide, fun u nu => ⟨by show 0 ≤ sizeLine; decide, fun e0 ne0 => ?_⟩⟩
      have s5 : Same H4 (upd H4 u (.tup [.int cc, .int kk])) := Same.new nu
      have s6 : Same H4 (upd (upd H4 u (.tup [.int cc, .int kk])) e0 (.tup [])) := s5.add ne0
      have he0 : upd (upd H4 u (.tup [.int cc, .int kk])) e0 (.tup []) e0 = some (.tup ([] : List V)) := upd_same
      have hu : upd (upd H4 u (.tup [.int cc, .int kk])) e0 (.tup []) u = some (.tup ((ckey (cc * 128 + kk)).map kV)) := by rw [upd_ne (fun z => by rw [z, upd_same] at ne0; cases ne0), upd_same, key]
      generalize upd (upd H4 u (.tup [.int cc, .int kk])) e0 (.tup []) = H6 at *
      refine ⟨_, DGet.t (k := ckey (cc * 128 + kk)) (s6 _ _ R4.hr) hu, ?_⟩
      have vl := valV_al (val := fun x : Addr × List Int => V.ref x.1) (fun i j h => ckey_inj h) rk (cc * 128 + kk)
      obtain ⟨hA, fs, eA, hfs, efs, lfs⟩ : ∃ (hA : Addr) (fs : List Int), (valV (rk.map rE) (ckey (cc * 128 + kk))).getD (.ref e0) = .ref hA ∧ H6 hA = some (.tup (fs.map V.int)) ∧ ((lookA rk (cc * 128 + kk)).map (·.2)).getD [] = fs ∧ fs.length ≤ n := by
        show ∃ (hA : Addr) (fs : List Int), (valV (rk.map fun e => (ckey e.1, V.ref e.2.1)) (ckey (cc * 128 + kk))).getD (.ref e0) = .ref hA ∧ _
        rw [vl]
        cases el : lookA rk (cc * 128 + kk) with
        | none => exact ⟨e0, [], rfl, he0, rfl, Nat.zero_le _⟩
        | some z =>
          have hz := lookA_mem el
          refine ⟨z.1, z.2, rfl, s6 _ _ (hfx _ hz), rfl, ?_⟩
          exact Nat.le_trans (sum_ge (fun e : RE => e.2.2.length) hz) R.sz
      rw [eA]
      have x6 := s6 _ _ hx4
      have fin : ∀ (H7 : Hp) (A7 : Addr) (nf : List Int), Same H6 H7 → H7 A7 = some (.tup (nf.map V.int)) → nf.length ≤ fs.length + 1 → nf = fs ++ [(ff : Int)] → 
          tFld K (tVar 4) "ringing" [some (.ref o), some (.ref a), some (.str "on"), some (.ref D), some (.ref x), some (.int cc), some (.int kk), some (.int ff), some (.ref hA)] H7 fun y H8 => tTup (tCons (tVar 5) (tCons (tVar 6) tNil)) [some (.ref o), some (.ref a), some (.str "on"), some (.ref D), some (.ref x), some (.int cc), some (.int kk), some (.int ff), some (.ref hA)] H8 fun y2 H9 => ∃ a H10, y = .ref a ∧ DPut H9 a y2 (.ref A7) H10 ∧ ∃ v, (some (some (V.ref x)) : Option (Option V)) = some (some v) ∧ Q v H10 := fun H7 A7 nf s7 h7 l7 e7 => by
        refine ⟨_, rfl, x, _, dx2, _, _, rfl, s7 _ _ x6, T.cStand, T.aStandRinging, rfl, _, rfl, _, rfl, by show 2 ≤ sizeLine; decide, fun v nv => ?_⟩
        have s8 : Same H7 (upd H7 v (.tup [.int cc, .int kk])) := Same.new nv
        have s48 : Same H4 (upd H7 v (.tup [.int cc, .int kk])) := (s6.trans s7).trans s8
        have hv : upd H7 v (.tup [.int cc, .int kk]) v = some (.tup ((ckey (cc * 128 + kk)).map kV)) := by rw [upd_same, key]
        generalize upd H7 v (.tup [.int cc, .int kk]) = H8 at *
        refine ⟨a1, _, rfl, DPut.t (k := ckey (cc * 128 + kk)) (s48 _ _ h1) hv (by rw [List.length_map]; omega), ?_⟩
        have e2 : putK (rk.map rE) (ckey (cc * 128 + kk)) (.ref A7) = (putA rk (cc * 128 + kk) (A7, nf)).map rE := putK_al (val := fun x : Addr × List Int => V.ref x.1) (fun i j h => ckey_inj h) rk _ (A7, nf)
        have ne : ∀ b u', H8 b = some u' → b ≠ a1 → upd H8 a1 (.dT (putK (rk.map rE) (ckey (cc * 128 + kk)) (.ref A7))) b = some u' := fun b u' e hb => by rw [upd_ne hb]; exact e
        refine ⟨_, rfl, q _ x (fun b u' e => ne b u' (s48 _ _ (sH4 _ _ e)) (ne_of_none e n1)) ⟨dx2, a1, a2, a3, putA rk (cc * 128 + kk) (A7, nf), tk, ck, ?_, ?_⟩⟩
        · refine ⟨ne _ _ (s48 _ _ hx4) (ne_of hx4 h1 (by intro z; cases z)), by rw [upd_same, e2], fun e he => ?_, ne _ _ (s48 _ _ h2) d12.symm, ne _ _ (s48 _ _ h3) (ne_of h3 h1 (by intro z; cases z)), putA_keys R.nr, R.nt, R.nc, fun e he => ?_, R.bt, R.bc, ?_, by omega, by omega, ?_, by omega⟩
          · rcases mem_putA he with he | he
            · exact ne _ _ (s48 _ _ (hfx e he)) (ne_of (hfx e he) h1 (by intro z; cases z))
            · rw [he]; exact ne _ _ (s8 _ _ h7) (ne_of (s8 _ _ h7) (s48 _ _ h1) (by intro z; cases z))
          · rcases mem_putA he with he | he
            · exact R.br e he
            · rw [he]; show cc * 128 + kk < 2048; omega
          · have := putA_len (xs := rk) (i := cc * 128 + kk) (a := (A7, nf)); omega
          · have := sum_put (fun a : Addr × List Int => a.2.length) (xs := rk) (i := cc * 128 + kk) (a := (A7, nf)) R.nr (k := 1) (by rw [show ((lookA rk (cc * 128 + kk)).map fun a => a.2.length).getD 0 = fs.length by rw [← efs]; cases lookA rk (cc * 128 + kk) <;> rfl]; exact l7)
            exact Nat.le_trans this (Nat.add_le_add_right R.sz 1)
        · refine Snd.same (funext fun j => ?_) rfl rfl
          show setF _ _ _ j = ((lookA (putA rk (cc * 128 + kk) (A7, nf)) j).map (·.2)).getD []
          rw [lookA_put]
          unfold setF
          by_cases hj : j = cc * 128 + kk
          · rw [if_pos hj, if_pos hj, e7, ← efs]; rfl
          · rw [if_neg hj, if_neg hj]; rfl
      refine ⟨_, rfl, rfl, _, rfl, ifY rfl ⟨_, rfl, _, rfl, by show 1 ≤ sizeLine; decide, fun wq nw => ?_⟩⟩
      have s9 : Same H6 (upd H6 wq (.tup [.int ff])) := Same.new nw
      refine ⟨hA, wq, _, _, rfl, rfl, SqT.of (s9 _ _ hfs), SqT.of upd_same, by show (fs.map V.int).length + 1 ≤ sizeLine; rw [List.length_map]; omega, fun z => ?_, fun _ z => (nomatch z), fun _ _ p np => ?_⟩
      · have z' : fs = [] := List.map_eq_nil_iff.mp z
        exact fin _ wq [(ff : Int)] s9 upd_same (by simp) (by rw [z']; rfl)
      · exact fin _ p (fs ++ [(ff : Int)]) (s9.add np) (by rw [upd_same, List.map_append]; rfl) (by simp) rfl
    | off cc kk ff =>
      simp only [thV, List.cons.injEq, V.str.injEq] at et
      obtain ⟨rfl, rfl⟩ := et
      obtain ⟨b1, b2, b3⟩ : cc < 16 ∧ kk < 128 ∧ ff < 128 := ht
      refine ⟨_, rfl, rfl, _, rfl, ifN (by decide) ⟨_, rfl, rfl, _, rfl, ifN (by decide) ⟨_, rfl, rfl, _, rfl, ifNN (by decide) ?_⟩⟩⟩
      refine ⟨_, rfl, D, _, rfl, SqL.of hD, rfl, _, _, rfl, _, _, rfl, _, _, rfl, rfl, ?_⟩
      have key : (ckey (cc * 128 + kk)).map kV = [V.int cc, V.int kk] := by rw [ckey_code b2]; rfl
      refine ⟨_, rfl, o, _, dx, _, _, rfl, R4.ins, T.cStand, T.aStandRinging, rfl, r, rfl, .inr ⟨_, .inl R4.hr⟩, _, rfl, _, rfl, by show 2 ≤ sizeLine; decide, fun u nu => ⟨by show 0 ≤ sizeLine; decide, fun e0 ne0 => ?_⟩⟩
      have s5 : Same H4 (upd H4 u (.tup [.int cc, .int kk])) := Same.new nu
      have s6 : Same H4 (upd (upd H4 u (.tup [.int cc, .int kk])) e0 (.tup [])) := s5.add ne0
      have he0 : upd (upd H4 u (.tup [.int cc, .int kk])) e0 (.tup []) e0 = some (.tup ([] : List V)) := upd_same
      have hu : upd (upd H4 u (.tup [.int cc, .int kk])) e0 (.tup []) u = some (.tup ((ckey (cc * 128 + kk)).map kV)) := by rw [upd_ne (fun z => by rw [z, upd_same] at ne0; cases ne0), upd_same, key]
      generalize upd (upd H4 u (.tup [.int cc, .int kk])) e0 (.tup []) = H6 at *
      refine ⟨_, DGet.t (k := ckey (cc * 128 + kk)) (s6 _ _ R4.hr) hu, ?_⟩
      have vl := valV_al (val := fun x : Addr × List Int => V.ref x.1) (fun i j h => ckey_inj h) rk (cc * 128 + kk)
      obtain ⟨hA, fs, eA, hfs, efs, lfs⟩ : ∃ (hA : Addr) (fs : List Int), (valV (rk.map rE) (ckey (cc * 128 + kk))).getD (.ref e0) = .ref hA ∧ H6 hA = some (.tup (fs.map V.int)) ∧ ((lookA rk (cc * 128 + kk)).map (·.2)).getD [] = fs ∧ fs.length ≤ n := by
        show ∃ (hA : Addr) (fs : List Int), (valV (rk.map fun e => (ckey e.1, V.ref e.2.1)) (ckey (cc * 128 + kk))).getD (.ref e0) = .ref hA ∧ _
        rw [vl]
        cases el : lookA rk (cc * 128 + kk) with
        | none => exact ⟨e0, [], rfl, he0, rfl, Nat.zero_le _⟩
        | some z =>
          have hz := lookA_mem el
          refine ⟨z.1, z.2, rfl, s6 _ _ (hfx _ hz), rfl, ?_⟩
          exact Nat.le_trans (sum_ge (fun e : RE => e.2.2.length) hz) R.sz
      rw [eA]
      have x6 := s6 _ _ hx4
      have fin : ∀ (H7 : Hp) (A7 : Addr) (nf : List Int), Same H6 H7 → H7 A7 = some (.tup (nf.map V.int)) → nf.length ≤ fs.length + 1 → nf = fs.drop 1 → 
          tFld K (tVar 4) "ringing" [some (.ref o), some (.ref a), some (.str "off"), some (.ref D), some (.ref x), some (.int cc), some (.int kk), some (.int ff), some (.ref hA)] H7 fun y H8 => tTup (tCons (tVar 5) (tCons (tVar 6) tNil)) [some (.ref o), some (.ref a), some (.str "off"), some (.ref D), some (.ref x), some (.int cc), some (.int kk), some (.int ff), some (.ref hA)] H8 fun y2 H9 => ∃ a H10, y = .ref a ∧ DPut H9 a y2 (.ref A7) H10 ∧ ∃ v, (some (some (V.ref x)) : Option (Option V)) = some (some v) ∧ Q v H10 := fun H7 A7 nf s7 h7 l7 e7 => by
        refine ⟨_, rfl, x, _, dx2, _, _, rfl, s7 _ _ x6, T.cStand, T.aStandRinging, rfl, _, rfl, _, rfl, by show 2 ≤ sizeLine; decide, fun v nv => ?_⟩
        have s8 : Same H7 (upd H7 v (.tup [.int cc, .int kk])) := Same.new nv
        have s48 : Same H4 (upd H7 v (.tup [.int cc, .int kk])) := (s6.trans s7).trans s8
        have hv : upd H7 v (.tup [.int cc, .int kk]) v = some (.tup ((ckey (cc * 128 + kk)).map kV)) := by rw [upd_same, key]
        generalize upd H7 v (.tup [.int cc, .int kk]) = H8 at *
        refine ⟨a1, _, rfl, DPut.t (k := ckey (cc * 128 + kk)) (s48 _ _ h1) hv (by rw [List.length_map]; omega), ?_⟩
        have e2 : putK (rk.map rE) (ckey (cc * 128 + kk)) (.ref A7) = (putA rk (cc * 128 + kk) (A7, nf)).map rE := putK_al (val := fun x : Addr × List Int => V.ref x.1) (fun i j h => ckey_inj h) rk _ (A7, nf)
        have ne : ∀ b u', H8 b = some u' → b ≠ a1 → upd H8 a1 (.dT (putK (rk.map rE) (ckey (cc * 128 + kk)) (.ref A7))) b = some u' := fun b u' e hb => by rw [upd_ne hb]; exact e
        refine ⟨_, rfl, q _ x (fun b u' e => ne b u' (s48 _ _ (sH4 _ _ e)) (ne_of_none e n1)) ⟨dx2, a1, a2, a3, putA rk (cc * 128 + kk) (A7, nf), tk, ck, ?_, ?_⟩⟩
        · refine ⟨ne _ _ (s48 _ _ hx4) (ne_of hx4 h1 (by intro z; cases z)), by rw [upd_same, e2], fun e he => ?_, ne _ _ (s48 _ _ h2) d12.symm, ne _ _ (s48 _ _ h3) (ne_of h3 h1 (by intro z; cases z)), putA_keys R.nr, R.nt, R.nc, fun e he => ?_, R.bt, R.bc, ?_, by omega, by omega, ?_, by omega⟩
          · rcases mem_putA he with he | he
            · exact ne _ _ (s48 _ _ (hfx e he)) (ne_of (hfx e he) h1 (by intro z; cases z))
            · rw [he]; exact ne _ _ (s8 _ _ h7) (ne_of (s8 _ _ h7) (s48 _ _ h1) (by intro z; cases z))
          · rcases mem_putA he with he | he
            · exact R.br e he
            · rw [he]; show cc * 128 + kk < 2048; omega
          · have := putA_len (xs := rk) (i := cc * 128 + kk) (a := (A7, nf)); omega
          · have := sum_put (fun a : Addr × List Int => a.2.length) (xs := rk) (i := cc * 128 + kk) (a := (A7, nf)) R.nr (k := 1) (by rw [show ((lookA rk (cc * 128 + kk)).map fun a => a.2.length).getD 0 = fs.length by rw [← efs]; cases lookA rk (cc * 128 + kk) <;> rfl]; exact l7)
            exact Nat.le_trans this (Nat.add_le_add_right R.sz 1)
        · refine Snd.same (funext fun j => ?_) rfl rfl
          show setF _ _ _ j = ((lookA (putA rk (cc * 128 + kk) (A7, nf)) j).map (·.2)).getD []
          rw [lookA_put]
          unfold setF
          by_cases hj : j = cc * 128 + kk
          · rw [if_pos hj, if_pos hj, e7, ← efs]; rfl
          · rw [if_neg hj, if_neg hj]; rfl
      refine ⟨_, rfl, rfl, _, rfl, ifN (by decide) ⟨_, rfl, ?_⟩⟩
      refine ⟨1, rfl, hA, fs.map V.int, rfl, SqT.of hfs, fun z => ?_, fun _ p np => ?_⟩
      · have z' : fs = [] := List.map_eq_nil_iff.mp (whole1 z.1)
        exact fin _ hA fs (Same.refl _) hfs (by omega) (by rw [z']; rfl)
      · exact fin _ p (fs.drop 1) (Same.new np) (by rw [upd_same, cut1, List.map_drop]) (by rw [List.length_drop]; omega) rfl
end
end L2.RK
namespace L2.RK
open PySem PySem.Spec PyProof.Rows
/-! paired, lone -/
theorem map_inj_of_nodup {α β : Type} {f : α → β} : ∀ {l : List α}, (l.map f).Nodup → ∀ {a b : α}, a ∈ l → b ∈ l → f a = f b → a = b
  | [], _, _, _, h, _, _ => by cases h
  | x :: r, hn, a, b, ha, hb, e => by
    obtain ⟨h1, h2⟩ := List.nodup_cons.mp (show (f x :: r.map f).Nodup from hn)
    rcases List.mem_cons.mp ha with qa | ha'
    · rcases List.mem_cons.mp hb with qb | hb'
      · rw [qa, qb]
      · exact absurd (show f x ∈ r.map f by rw [← qa, e]; exact List.mem_map_of_mem hb') h1
    · rcases List.mem_cons.mp hb with qb | hb'
      · exact absurd (show f x ∈ r.map f by rw [← qb, ← e]; exact List.mem_map_of_mem ha') h1
      · exact map_inj_of_nodup h2 ha' hb' e
theorem mem_putA2 {α : Type} {xs : List (Nat × α)} {i : Nat} {a b : α} (hp : lookA xs i = some b) {e : Nat × α} (h : e ∈ putA xs i a) : (e ∈ xs ∧ e.1 ≠ i) ∨ e = (i, a) := by
  unfold putA at h
  rw [any_look, hp] at h
  obtain ⟨y, hy, rfl⟩ := List.mem_map.mp (show e ∈ xs.map (fun e => if e.1 = i then (e.1, a) else e) from h)
  by_cases q : y.1 = i
  · rw [if_pos q]; exact .inr (by rw [q])
  · rw [if_neg q]; exact .inl ⟨hy, q⟩
theorem putA_new {α : Type} {xs : List (Nat × α)} {i : Nat} {a : α} (hp : lookA xs i = none) : putA xs i a = xs ++ [(i, a)] := by
  unfold putA
  rw [any_look, hp]; rfl
theorem putA_len2 {α : Type} {xs : List (Nat × α)} {i : Nat} {a b : α} (hp : lookA xs i = some b) : (putA xs i a).length = xs.length := by
  unfold putA
  rw [any_look, hp]
  exact List.length_map ..
theorem map_ref_inj : ∀ {a b : List Addr}, a.map V.ref = b.map V.ref → a = b
  | [], [], _ => rfl
  | [], _ :: _, h => by cases h
  | _ :: _, [], h => by cases h
  | x :: a, y :: b, h => by
    injection h with h1 h2
    injection h1 with h1
    rw [h1, map_ref_inj h2]
def isLone (S : Snd) : Th → Bool
  | .off c k _ => (S.ring (c * 128 + k)).isEmpty
  | _ => false
def loneF (S : Snd) (j : Nat) : List Th → List Nat
  | [] => []
  | t :: r => (if isLone S t then [j] else []) ++ loneF (stepS S t) (j + 1) r
theorem loneF_app : ∀ (a : List Th) (S : Snd) (j : Nat) (t : Th), loneF S j (a ++ [t]) = loneF S j a ++ (if isLone (a.foldl stepS S) t then [j + a.length] else [])
  | [], S, j, t => by
    show (if _ then _ else _) ++ [] = [] ++ (if _ then [j + 0] else _)
    rw [List.append_nil, List.nil_append, Nat.add_zero]; rfl
  | x :: r, S, j, t => by
    show _ ++ loneF _ _ (r ++ [t]) = (_ ++ loneF _ _ r) ++ _
    rw [loneF_app r, List.append_assoc, List.length_cons, List.foldl_cons]
    congr 2
    rw [show j + 1 + r.length = j + (r.length + 1) by omega]
theorem loneF_len : ∀ (a : List Th) (S : Snd) (j : Nat), (loneF S j a).length ≤ a.length
  | [], _, _ => Nat.le_refl _
  | x :: r, S, j => by
    show ((if _ then _ else _) ++ loneF _ _ r).length ≤ r.length + 1
    have := loneF_len r (stepS S x) (j + 1)
    rw [List.length_append]
    have : (if isLone S x then [j] else [] : List Nat).length ≤ 1 := by split <;> simp
    omega
structure PR (H0 H : Hp) (kd ed lo ov : Addr) (kn : List RE) (los : List Nat) (n : Nat) : Prop where
  sm : Same H0 H
  hk : H kd = some (.dT (kn.map rE))
  hl : ∀ e ∈ kn, H e.2.1 = some (.lst (e.2.2.map V.int)) ∧ e.2.1 ≠ lo ∧ e.2.1 ≠ ov ∧ H0 e.2.1 = none ∧ e.2.2.length ≤ n
  nk : (kn.map (·.1)).Nodup
  na : (kn.map (fun e => e.2.1)).Nodup
  he : ∃ kvs, H ed = some (.dK kvs) ∧ kvs.length ≤ n
  hlo : H lo = some (.lst (los.map fun j : Nat => V.int (j : Int)))
  hov : ∃ os, H ov = some (.lst os) ∧ os.length ≤ n
  ll : los.length ≤ n
  kl : kn.length ≤ n
  f1 : H0 kd = none
  f2 : H0 ed = none
  f3 : H0 lo = none
  f4 : H0 ov = none
  lv : lo ≠ ov
section
variable {H0 H H' : Hp} {kd ed lo ov : Addr} {kn : List RE} {los : List Nat} {n : Nat}
theorem PR.same (p : PR H0 H kd ed lo ov kn los n) (e : Same H H') : PR H0 H' kd ed lo ov kn los n :=
  { p with sm := p.sm.trans e, hk := e _ _ p.hk, hl := fun x hx => let ⟨a, b⟩ := p.hl x hx; ⟨e _ _ a, b⟩, he := let ⟨k, a, b⟩ := p.he; ⟨k, e _ _ a, b⟩, hlo := e _ _ p.hlo, hov := let ⟨k, a, b⟩ := p.hov; ⟨k, e _ _ a, b⟩ }
theorem PR.up {m : Nat} (p : PR H0 H kd ed lo ov kn los n) (h : n ≤ m) : PR H0 H kd ed lo ov kn los m :=
  { p with hl := fun x hx => let ⟨a, b, c, d, e⟩ := p.hl x hx; ⟨a, b, c, d, Nat.le_trans e h⟩, he := let ⟨k, a, b⟩ := p.he; ⟨k, a, Nat.le_trans b h⟩, hov := let ⟨k, a, b⟩ := p.hov; ⟨k, a, Nat.le_trans b h⟩, ll := Nat.le_trans p.ll h, kl := Nat.le_trans p.kl h }
/-- a list of the dict is set anew -/
theorem PR.setL {i : Nat} {A : Addr} {pos new : List Int} (p : PR H0 H kd ed lo ov kn los n) (hA : lookA kn i = some (A, pos)) (hn : new.length ≤ n) : PR H0 (upd H A (.lst (new.map V.int))) kd ed lo ov (putA kn i (A, new)) los n ∧ (kn.map rE) = ((putA kn i (A, new)).map rE) := by
  have hm := lookA_mem hA
  obtain ⟨a1, a2, a3, a4, a5⟩ := p.hl _ hm
  have er : (kn.map rE) = ((putA kn i (A, new)).map rE) := by
    unfold putA
    rw [any_look, hA]
    show _ = List.map rE (List.map _ kn)
    rw [List.map_map]
    refine List.map_congr_left fun e he => ?_
    show rE e = rE (if e.1 = i then (e.1, (A, new)) else e)
    by_cases q : e.1 = i
    · rw [if_pos q]
      have := mem_lookA p.nk he
      rw [q, hA] at this
      have e2 : e.2 = (A, pos) := (Option.some.inj this).symm
      show (ckey e.1, V.ref e.2.1) = (ckey e.1, V.ref A)
      rw [e2]
    · rw [if_neg q]
  have ea : ((putA kn i (A, new)).map (fun e => e.2.1)) = kn.map (fun e => e.2.1) := by
    have := congrArg (fun l => l.map (fun p : List Key × V => p.2)) er
    simp only [List.map_map] at this
    have e3 : ∀ l : List RE, l.map ((fun p : List Key × V => p.2) ∘ rE) = (l.map (fun e => e.2.1)).map V.ref := fun l => by rw [List.map_map]; rfl
    rw [e3, e3] at this
    exact (map_ref_inj this).symm
  obtain ⟨kvs, k1, k2⟩ := p.he
  obtain ⟨os, o1, o2⟩ := p.hov
  refine ⟨⟨p.sm.put a4, by rw [upd_ne (ne_of p.hk a1 (by intro z; cases z)), ← er]; exact p.hk, fun e he => ?_, putA_keys p.nk, by rw [ea]; exact p.na, ⟨kvs, by rw [upd_ne (ne_of k1 a1 (by intro z; cases z))]; exact k1, k2⟩, by rw [upd_ne a2.symm]; exact p.hlo, ⟨os, by rw [upd_ne a3.symm]; exact o1, o2⟩, p.ll, by rw [putA_len2 hA]; exact p.kl, p.f1, p.f2, p.f3, p.f4, p.lv⟩, er⟩
  rcases mem_putA2 hA he with ⟨he, hne⟩ | he
  · obtain ⟨b1, b2⟩ := p.hl e he
    have hz : e.2.1 ≠ A := fun z => hne (by rw [map_inj_of_nodup p.na he hm z])
    exact ⟨by rw [upd_ne hz]; exact b1, b2⟩
  · rw [he]
    exact ⟨upd_same, a2, a3, a4, hn⟩
/-- a new list comes into the dict -/
theorem PR.newL {i : Nat} {D : Addr} (p : PR H0 H kd ed lo ov kn los n) (hA : lookA kn i = none) (hD : H D = some (.lst [])) (hn : ∀ e ∈ kn, e.2.1 ≠ D) (h0 : H0 D = none) (dl : D ≠ lo) (dv : D ≠ ov) :
    PR H0 (upd H kd (.dT (putK (kn.map rE) (ckey i) (.ref D)))) kd ed lo ov (putA kn i (D, [])) los (n + 1) := by
  have e2 : putK (kn.map rE) (ckey i) (.ref D) = (putA kn i (D, [])).map rE := putK_al (val := fun x : Addr × List Int => V.ref x.1) (fun i j h => ckey_inj h) kn i (D, [])
  have keep : ∀ b u, b ≠ kd → H b = some u → upd H kd (.dT (putK (kn.map rE) (ckey i) (.ref D))) b = some u := fun b u hb e => by rw [upd_ne hb]; exact e
  obtain ⟨kvs, k1, k2⟩ := p.he
  obtain ⟨os, o1, o2⟩ := p.hov
  have lk : ∀ {b : Addr} {xs : List V}, H b = some (.lst xs) → b ≠ kd := fun h => ne_of h p.hk (by intro z; cases z)
  refine ⟨p.sm.put p.f1, by rw [upd_same, e2], fun e he => ?_, putA_keys p.nk, ?_, ⟨kvs, keep _ _ (ne_of k1 p.hk (by intro z; cases z)) k1, by omega⟩, keep _ _ (lk p.hlo) p.hlo, ⟨os, keep _ _ (lk o1) o1, by omega⟩, by have := p.ll; omega, by have := p.kl; have := putA_len (xs := kn) (i := i) (a := (D, ([] : List Int))); omega, p.f1, p.f2, p.f3, p.f4, p.lv⟩
  · rcases mem_putA he with he | he
    · obtain ⟨b1, b2, b3, b4, b5⟩ := p.hl e he
      exact ⟨keep _ _ (lk b1) b1, b2, b3, b4, by omega⟩
    · rw [he]
      exact ⟨keep _ _ (lk hD) hD, dl, dv, h0, Nat.zero_le _⟩
  · rw [putA_new hA, List.map_append, List.nodup_append]
    refine ⟨p.na, by simp, fun a ha b hb => ?_⟩
    obtain ⟨e, he, rfl⟩ := List.mem_map.mp ha
    rw [List.map_cons, List.map_nil, List.mem_singleton] at hb
    rw [hb]
    exact hn e he
theorem PR.setE {kvs : List (Key × V)} (p : PR H0 H kd ed lo ov kn los n) (h : kvs.length ≤ n) : PR H0 (upd H ed (.dK kvs)) kd ed lo ov kn los n := by
  obtain ⟨kv0, k1, k2⟩ := p.he
  obtain ⟨os, o1, o2⟩ := p.hov
  have lk : ∀ {b : Addr} {xs : List V}, H b = some (.lst xs) → b ≠ ed := fun h => ne_of h k1 (by intro z; cases z)
  exact { p with sm := p.sm.put p.f2, hk := by rw [upd_ne (ne_of p.hk k1 (by intro z; cases z))]; exact p.hk, hl := fun e he => let ⟨a, b⟩ := p.hl e he; ⟨by rw [upd_ne (lk a)]; exact a, b⟩, he := ⟨kvs, upd_same, h⟩, hlo := by rw [upd_ne (lk p.hlo)]; exact p.hlo, hov := ⟨os, by rw [upd_ne (lk o1)]; exact o1, o2⟩ }
theorem PR.setLo {l' : List Nat} (p : PR H0 H kd ed lo ov kn los n) (h : l'.length ≤ n) : PR H0 (upd H lo (.lst (l'.map fun j : Nat => V.int (j : Int)))) kd ed lo ov kn l' n := by
  obtain ⟨kv0, k1, k2⟩ := p.he
  obtain ⟨os, o1, o2⟩ := p.hov
  exact { p with sm := p.sm.put p.f3, hk := by rw [upd_ne (ne_of p.hk p.hlo (by intro z; cases z))]; exact p.hk, hl := fun e he => let ⟨a, b⟩ := p.hl e he; ⟨by rw [upd_ne b.1]; exact a, b⟩, he := ⟨kv0, by rw [upd_ne (ne_of k1 p.hlo (by intro z; cases z))]; exact k1, k2⟩, hlo := upd_same, hov := ⟨os, by rw [upd_ne p.lv.symm]; exact o1, o2⟩, ll := h }
theorem PR.setOv {os' : List V} (p : PR H0 H kd ed lo ov kn los n) (h : os'.length ≤ n) : PR H0 (upd H ov (.lst os')) kd ed lo ov kn los n := by
  obtain ⟨kv0, k1, k2⟩ := p.he
  obtain ⟨os, o1, o2⟩ := p.hov
  exact { p with sm := p.sm.put p.f4, hk := by rw [upd_ne (ne_of p.hk o1 (by intro z; cases z))]; exact p.hk, hl := fun e he => let ⟨a, b⟩ := p.hl e he; ⟨by rw [upd_ne b.2.1]; exact a, b⟩, he := ⟨kv0, by rw [upd_ne (ne_of k1 o1 (by intro z; cases z))]; exact k1, k2⟩, hlo := by rw [upd_ne p.lv]; exact p.hlo, hov := ⟨os', upd_same, h⟩ }
end
def Lens (kn : List RE) (S : Snd) : Prop := ∀ c, (((lookA kn c).map (·.2)).getD []).length = (S.ring c).length
theorem Lens.put {kn : List RE} {S : Snd} {i : Nat} {A : Addr} {pos : List Int} {r : List Int} (h : Lens kn S) (e : pos.length = r.length) : Lens (putA kn i (A, pos)) { S with ring := setF S.ring i r } := fun c => by
  rw [lookA_put]
  show _ = (setF S.ring i r c).length
  unfold setF
  by_cases q : c = i
  · rw [if_pos q, if_pos q]; exact e
  · rw [if_neg q, if_neg q]; exact h c
theorem Lens.new {kn : List RE} {S : Snd} {i : Nat} {A : Addr} (h : Lens kn S) (e : lookA kn i = none) : Lens (putA kn i (A, [])) S := fun c => by
  rw [lookA_put]
  by_cases q : c = i
  · rw [if_pos q]
    have := h i
    rw [e] at this
    rw [q]; exact this
  · rw [if_neg q]; exact h c
/-- setdefault: the list under the key -/
theorem setd_one {H0 H : Hp} {kd ed lo ov D : Addr} {kn : List RE} {los : List Nat} {n i : Nat} {S : Snd} {Qc : V → Hp → Prop} (p : PR H0 H kd ed lo ov kn los n) (hD : H D = some (.lst [])) (hn : ∀ e ∈ kn, e.2.1 ≠ D) (h0 : H0 D = none) (dl : D ≠ lo) (dv : D ≠ ov) (hs : Lens kn S)
    (h : ∀ (A : Addr) (kn' : List RE) (pos : List Int) (H' : Hp), PR H0 H' kd ed lo ov kn' los (n + 1) → lookA kn' i = some (A, pos) → pos.length ≤ n → Lens kn' S → (∀ b u, b ≠ kd → H b = some u → H' b = some u) → Qc (.ref A) H') :
    (∀ v, valV (kn.map rE) (ckey i) = some v → Qc v H) ∧ (valV (kn.map rE) (ckey i) = none → Qc (.ref D) (upd H kd (.dT (putK (kn.map rE) (ckey i) (.ref D))))) := by
  have vl : valV (kn.map rE) (ckey i) = (lookA kn i).map fun x => V.ref x.1 := valV_al (val := fun x : Addr × List Int => V.ref x.1) (fun i j h => ckey_inj h) kn i
  rw [vl]
  refine ⟨fun v hv => ?_, fun hv => ?_⟩
  · cases e : lookA kn i with
    | none => rw [e] at hv; cases hv
    | some z =>
      rw [e] at hv
      have hz : v = .ref z.1 := (Option.some.inj hv).symm
      rw [hz]
      exact h z.1 kn z.2 H (p.up (Nat.le_succ _)) e (p.hl _ (lookA_mem e)).2.2.2.2 hs fun b u _ q => q
  · have e : lookA kn i = none := by cases e : lookA kn i with | none => rfl | some z => rw [e] at hv; cases hv
    exact h D _ [] _ (p.newL e hD hn h0 dl dv) (by rw [lookA_put, if_pos rfl]) (Nat.zero_le _) (hs.new e) fun b u hb q => by rw [upd_ne hb]; exact q
section
variable {P : Program} {w : World} {K : PySem.W.Frag} {mg : Str → Option Value} {base : Heap}
abbrev nPaired : List Str := ["track", "known", "ends", "lone_ones", "over_ones", "at", "event", "word", "things", "here", "first"]
theorem scPaired : FnScope nPaired ["track"] (defScope sPaired) := ⟨rfl, rfl, rfl, by decide +kernel, rfl, by decide +kernel, by decide +kernel⟩
def lonesV (es : List (Addr × Ev)) : List V := (loneF Snd.none 0 (es.map fun e => e.2.2)).map fun j : Nat => V.int (j : Int)
def spPaired (K : PySem.W.Frag) : Sp := fun vs H Q _ => ∃ (t : Addr) (es : List (Addr × Ev)), vs = [.ref t] ∧ H t = some (.lst (refs es)) ∧ TL evV H es ∧ es.length ≤ 40 ∧ (∀ e ∈ es, ThOk e.2.2) ∧
  ∀ (H' : Hp) (p a b c : Addr), Same H H' → H' p = some (.tup [.ref a, .ref b, .ref c]) → H' b = some (.lst (lonesV es)) → Q (.ref p) H'
theorem ok_paired (T : Txt K mg w) : Has P w K mg base 1 (gA K "paired") ["track"] (spPaired K) := by
  obtain ⟨fd, F⟩ := T.fPaired
  have nd := scPaired.nd
  refine ⟨fd, F.ok scPaired (fun vs H Q E h => ?_) (fun cdv A outer s H vs Q E hr h => ⟨_, PSs.nox (
      pss_cons (ps_set (i := 1) nd rfl (.inl rfl) pe_dnewT) (pss_cons (ps_set (i := 2) nd rfl (.inl rfl) pe_dnewK) (pss_cons (ps_set (i := 3) nd rfl (.inl rfl) (pe_lst pa_nil)) (pss_cons (ps_set (i := 4) nd rfl (.inl rfl) (pe_lst pa_nil))
      (pss_cons (ps_for PassesOwn.never rfl (pi_enum (by rfl) T.nEnumerate (pa_cons (pv 0) pa_nil)) (pg_tup rfl (pgs_cons (pg_name (i := 5) nd rfl (.inl rfl)) (pgs_cons (pg_name (i := 6) nd rfl (.inl rfl)) pgs_nil)))
        (pss_cons (ps_asg (pe_slice sl_tup (pv 6) (po_some pe_int) po_none) (pg_star (by rfl) (pgs_cons (pg_name (i := 7) nd rfl (.inl rfl)) (pgs_star (pg_name (i := 8) nd rfl (.inl rfl))))))
        (pss_one (ps_if (pt_cmpR op_in_seq (pv 7) (pe_tup (pa_cons pe_str (pa_cons pe_str pa_nil))) (by rfl))
          (pss_cons (ps_set (i := 9) nd rfl (.inl rfl) (pe_dsetdT (hu_of hr) (pv 1) (pe_tup (pa_cons (pe_ix ix_list (pv 8) pe_int (fun _ _ => rfl)) (pa_cons (pe_ix ix_list (pv 8) pe_int (fun _ _ => rfl)) pa_nil))) (pe_lst pa_nil) ⟨rfl, rfl, rfl, rfl⟩))
          (pss_one (ps_if (pt_cmpR op_eq (pv 7) pe_str (nomark _))
            (pss_cons (ps_if (pt_cmpR op_gt (pe_callB call_len_seq (by rfl) T.nLen PySem.boot_len (pa_cons (pv 9) pa_nil)) pe_int (nomark _)) (pss_one (ps_expr (pe_bm PySem.F.plainAttrs_list PySem.F.slot_list_append PySem.F.type_list_append mt_append (pv 4) (pa_cons (pv 5) pa_nil)))) pss_nil)
            (pss_cons (ps_expr (pe_bm PySem.F.plainAttrs_list PySem.F.slot_list_append PySem.F.type_list_append mt_append (pv 9) (pa_cons (pv 5) pa_nil)))
            (pss_one (ps_dput (hu_of hr) (pv 2) (pv 5) pe_non rfl))))
            (pss_one (ps_if (pt_cmpR op_gt (pe_callB call_len_seq (by rfl) T.nLen PySem.boot_len (pa_cons (pv 9) pa_nil)) pe_int (nomark _))
              (pss_cons (ps_set (i := 10) nd rfl (.inl rfl) (pe_bm PySem.F.plainAttrs_list PySem.F.slot_list_pop PySem.F.type_list_pop mt_popAt (pv 9) (pa_cons pe_int pa_nil)))
              (pss_one (ps_dput (hu_of hr) (pv 2) (pv 10) (pv 5) rfl)))
              (pss_one (ps_expr (pe_bm PySem.F.plainAttrs_list PySem.F.slot_list_append PySem.F.type_list_append mt_append (pv 3) (pa_cons (pv 5) pa_nil)))))))))
          pss_nil))))
      (pss_one (ps_ret (pe_tup (pa_cons (pv 2) (pa_cons (pv 3) (pa_cons (pv 4) pa_nil))))))))))), ?_⟩), F.bindsN fun _ _ _ _ _ _ us hl => match us, hl with | [_], _ => rfl, F.kp⟩
  · obtain ⟨t, es, rfl, _⟩ := h
    rfl
  · obtain ⟨t, es, rfl, ht, he, hlen, hok, q⟩ := h
    have big : sizeLine > 1000 := by decide
    refine fun kd nkd => fun ed ned => ⟨by show 0 ≤ sizeLine; decide, fun lo nlo => ⟨by show 0 ≤ sizeLine; decide, fun ov nov => ?_⟩⟩
    have s1 : Same H (upd H kd (.dT [])) := Same.new nkd
    have s2 := s1.add (o := .dK []) ned
    have s3 := s2.add (o := .lst []) nlo
    have s4 := s3.add (o := .lst []) nov
    have P0 : PR H (upd (upd (upd (upd H kd (.dT [])) ed (.dK [])) lo (.lst [])) ov (.lst [])) kd ed lo ov [] [] 0 := by
      have ek : upd (upd (upd (upd H kd (.dT [])) ed (.dK [])) lo (.lst [])) ov (.lst []) kd = some (.dT []) := (Same.new nov) _ _ ((Same.new nlo) _ _ ((Same.new ned) _ _ upd_same))
      have ee : upd (upd (upd (upd H kd (.dT [])) ed (.dK [])) lo (.lst [])) ov (.lst []) ed = some (.dK []) := (Same.new nov) _ _ ((Same.new nlo) _ _ upd_same)
      have el : upd (upd (upd (upd H kd (.dT [])) ed (.dK [])) lo (.lst [])) ov (.lst []) lo = some (.lst []) := (Same.new nov) _ _ upd_same
      exact ⟨s4, ek, fun e he => (by cases he), List.nodup_nil, List.nodup_nil, ⟨[], ee, Nat.le_refl _⟩, el, ⟨[], upd_same, Nat.le_refl _⟩, Nat.le_refl _, Nat.le_refl _, nkd, s1.free ned, s2.free nlo, s3.free nov, ne_of_none upd_same nov⟩
    generalize upd (upd (upd (upd H kd (.dT [])) ed (.dK [])) lo (.lst [])) ov (.lst []) = H4 at *
    refine ⟨_, rfl, t, refs es, rfl, SqL.of (s4 _ _ ht), for_it (walk_enum (K := K) (a := t) (xs := refs es)) (fun i σ H' => (∃ x5 x6 x7 x8 x9 x10, σ = [some (.ref t), some (.ref kd), some (.ref ed), some (.ref lo), some (.ref ov), x5, x6, x7, x8, x9, x10]) ∧
      ∃ kn, PR H H' kd ed lo ov kn (loneF Snd.none 0 ((es.take i).map fun e => e.2.2)) i ∧ Lens kn (((es.take i).map fun e => e.2.2).foldl stepS Snd.none)) ⟨⟨_, _, _, _, _, _, rfl⟩, [], P0, fun c => rfl⟩ (fun i σ H' _ h => by obtain ⟨_, kn, p, _⟩ := h; exact SqL.of (p.sm _ _ ht)) ?_ ?_⟩
    · rintro i x σ H1 H2 hi ⟨⟨x5, x6, x7, x8, x9, x10, rfl⟩, kn, p, ls⟩ ⟨T0, xi, xe, rfl, nT, rfl, exi, exe⟩
      obtain rfl : V.int ((i : Nat) : Int) = xi := Option.some.inj exi
      obtain ⟨z, hz, rfl⟩ := refs_get exe
      have zm := List.mem_of_getElem? hz
      have hz0 := he z zm
      have okz := hok z zm
      have i40 : i < 40 := by
        have := (List.getElem?_eq_some_iff.mp hz).1
        omega
      have et : (es.take (i + 1)).map (fun e => e.2.2) = (es.take i).map (fun e => e.2.2) ++ [z.2.2] := by rw [take_snoc hz, List.map_append]; rfl
      have elen : ((es.take i).map fun e => e.2.2).length = i := by rw [List.length_map, List.length_take]; have := (List.getElem?_eq_some_iff.mp hz).1; omega
      rw [et, loneF_app, elen, Nat.zero_add, List.foldl_append]
      show gTup _ _ _ _ _ _ _
      generalize hS : ((es.take i).map fun e => e.2.2).foldl stepS Snd.none = S at *
      generalize loneF Snd.none 0 ((es.take i).map fun e => e.2.2) = los at *
      replace p := p.same (Same.new (o := .tup [.int ((i : Nat) : Int), .ref z.1]) nT)
      refine ⟨T0, _, rfl, SqT.of upd_same, rfl, _, _, rfl, _, _, rfl, rfl, ?_⟩
      generalize upd H1 T0 (.tup [.int ((i : Nat) : Int), .ref z.1]) = H2 at *
      refine ⟨_, rfl, 1, rfl, z.1, _, rfl, SqT.of (p.sm _ _ hz0), fun w => ?_, fun u nu => ?_⟩
      · have := whole1 w.1
        exact absurd this (by unfold evV; intro q; cases q)
      have ec : cutV (evV z.2) (some 1) none = thV z.2.2 := by rw [cut1]; rfl
      rw [ec]
      obtain ⟨wd, th, eth⟩ : ∃ wd th, thV z.2.2 = .str wd :: th := by cases z.2.2 <;> exact ⟨_, _, rfl⟩
      rw [eth]
      replace p := p.same (Same.new (o := .tup (.str wd :: th)) nu)
      refine ⟨u, _, rfl, .inl (SqT.of upd_same), by show 1 ≤ th.length + 1; omega, fun D nD => ⟨_, _, rfl, _, _, rfl, rfl, ?_⟩⟩
      replace p := p.same (Same.new (o := .lst th) nD)
      generalize hH3 : upd (upd H2 u _) D _ = H3
      have hD : H3 D = some (.lst th) := by rw [← hH3]; exact upd_same
      replace p : PR H H3 kd ed lo ov kn los i := by rw [← hH3]; exact p
      clear hH3 nD
      refine ⟨_, rfl, by show 2 ≤ sizeLine; decide, fun wt nwt => ⟨wt, _, rfl, .inr (SqT.of upd_same), rfl, rfl, _, rfl, ?_⟩⟩
      have hD4 : upd H3 wt (.tup [.str "on", .str "off"]) D = some (.lst th) := (Same.new nwt) _ _ hD
      replace p := p.same (Same.new (o := .tup [.str "on", .str "off"]) nwt)
      generalize upd H3 wt (.tup [.str "on", .str "off"]) = H5 at *
      have skip : isLone S z.2.2 = false → (stepS S z.2.2).ring = S.ring → (∃ y5 y6 y7 y8 y9 y10, [some (V.ref t), some (.ref kd), some (.ref ed), some (.ref lo), some (.ref ov), some (.int ((i : Nat) : Int)), some (.ref z.1), some (.str wd), some (.ref D), x9, x10] = [some (.ref t), some (.ref kd), some (.ref ed), some (.ref lo), some (.ref ov), y5, y6, y7, y8, y9, y10]) ∧
          ∃ kn, PR H H5 kd ed lo ov kn (los ++ (if isLone S z.2.2 then [i] else [])) (i + 1) ∧ Lens kn ([z.2.2].foldl stepS S) := fun e1 e2 => by
        refine ⟨⟨_, _, _, _, _, _, rfl⟩, kn, ?_, fun c => ?_⟩
        · rw [e1]
          show PR H H5 kd ed lo ov kn (los ++ []) (i + 1)
          rw [List.append_nil]; exact p.up (Nat.le_succ _)
        · show _ = ((stepS S z.2.2).ring c).length
          rw [e2]; exact ls c
      have lonL : ∀ (b : Bool), (los ++ (if b = true then [i] else [])).length ≤ i + 1 := fun b => by
        have := p.ll
        rw [List.length_append]; cases b <;> simp <;> omega
      cases ez : z.2.2 with
      | mark m =>
        rw [ez] at eth skip
        cases eth
        exact iteF (skip rfl rfl)
      | knob c k v =>
        rw [ez] at eth skip
        cases eth
        exact iteF (skip rfl rfl)
      | voice c v =>
        rw [ez] at eth skip
        cases eth
        exact iteF (skip rfl rfl)
      | on c k f =>
        rw [ez] at eth okz
        cases eth
        obtain ⟨b1, b2, b3⟩ : c < 16 ∧ k < 128 ∧ f < 128 := okz
        refine iteT ?_
        refine ⟨_, rfl, kd, rfl, .inr ⟨_, .inl p.hk⟩, _, rfl, D, _, _, _, rfl, rfl, SqL.of hD4, at0, _, rfl, D, _, _, _, rfl, rfl, SqL.of hD4, at1, by show 2 ≤ sizeLine; decide, fun kt nkt => ⟨by show 0 ≤ sizeLine; decide, fun D2 nD2 => ?_⟩⟩
        have key : (ckey (c * 128 + k)).map kV = [V.int c, V.int k] := by rw [ckey_code b2]; rfl
        have p1 := p.same (Same.new (o := .tup [.int c, .int k]) nkt)
        have p2 := p1.same (Same.new (o := .lst []) nD2)
        obtain ⟨os1, o3, _⟩ := p1.hov
        obtain ⟨os, o1, o2⟩ := p2.hov
        obtain ⟨kvs, q1, q2⟩ := p2.he
        have ovk := ne_of o1 p2.hk (by intro z; cases z)
        have edk := ne_of q1 p2.hk (by intro z; cases z)
        refine ⟨_, ckey (c * 128 + k), kt, p2.hk, rfl, by rw [upd_ne (fun z => by rw [z, upd_same] at nD2; cases nD2), upd_same, key], by rw [List.length_map]; have := p2.kl; omega, ?_⟩
        refine setd_one p2 upd_same (fun e he => ne_of_none (p1.hl e he).1 nD2) (p1.sm.free nD2) (ne_of_none p1.hlo nD2).symm (ne_of_none o3 nD2).symm ls fun A kn' pos Hc pc la lp lsc keep => ?_
        have lpos : pos.length = (S.ring (c * 128 + k)).length := by have := lsc (c * 128 + k); rw [la] at this; exact this
        have hov := keep _ _ ovk o1
        have hed := keep _ _ edk q1
        clear p p1 p2 ls key nkt nD2 keep hD4 o1 o3 q1 ovk edk
        obtain ⟨hA, al, av, a0, _⟩ := pc.hl _ (lookA_mem la)
        have em : (pos.map V.int ++ [V.int ((i : Nat) : Int)]) = (pos ++ [((i : Nat) : Int)]).map V.int := by simp
        refine ⟨_, rfl, rfl, _, rfl, ifY rfl ?_⟩
        refine ⟨_, rfl, A, _, rfl, .inl (SqL.of hA), _, _, rfl, rfl, _, rfl, ite2 (fun hc => ?_) (fun hc => ?_)⟩
        · refine ⟨_, rfl, .inl ⟨rfl, _, SqL.of hov⟩, _, rfl, ov, os, _, rfl, rfl, hov, by omega, ?_⟩
          have pd := pc.setOv (os' := os ++ [.int ((i : Nat) : Int)]) (by rw [List.length_append]; show os.length + 1 ≤ _; omega)
          have hA2 : upd Hc ov (.lst (os ++ [.int ((i : Nat) : Int)])) A = some (.lst (pos.map V.int)) := by rw [upd_ne av]; exact hA
          have hed3 : upd Hc ov (.lst (os ++ [.int ((i : Nat) : Int)])) ed = some (.dK kvs) := by rw [upd_ne (ne_of hed hov (by intro z; cases z))]; exact hed
          refine ⟨_, rfl, .inl ⟨rfl, _, SqL.of hA2⟩, _, rfl, A, _, _, rfl, rfl, hA2, by rw [List.length_map]; omega, ?_⟩
          rw [em]
          have pe := (pd.setL la (new := pos ++ [((i : Nat) : Int)]) (by simp; omega)).1
          have hed2 : upd (upd Hc ov (.lst (os ++ [.int ((i : Nat) : Int)]))) A (.lst ((pos ++ [((i : Nat) : Int)]).map V.int)) ed = some (.dK kvs) := by rw [upd_ne (ne_of hed3 hA2 (by intro z; cases z))]; exact hed3
          refine ⟨_, rfl, _, rfl, ed, _, rfl, DPut.k (k := Sum.inl ((i : Nat) : Int)) hed2 (by omega), ⟨_, _, _, _, _, _, rfl⟩, _, ?_, lsc.put (A := A) (pos := pos ++ [((i : Nat) : Int)]) (by simp only [List.length_append, lpos, List.length_cons, List.length_nil])⟩
          have : (los ++ (if isLone S (Th.on c k f) = true then [i] else [])) = los := by show los ++ [] = los; rw [List.append_nil]
          rw [this]
          exact pe.setE (by have := length_putK kvs (Sum.inl ((i : Nat) : Int)) V.non; omega)
        · refine ⟨_, rfl, .inl ⟨rfl, _, SqL.of hA⟩, _, rfl, A, _, _, rfl, rfl, hA, by rw [List.length_map]; omega, ?_⟩
          rw [em]
          have pe := (pc.setL la (new := pos ++ [((i : Nat) : Int)]) (by simp; omega)).1
          have hed2 : upd Hc A (.lst ((pos ++ [((i : Nat) : Int)]).map V.int)) ed = some (.dK kvs) := by rw [upd_ne (ne_of hed hA (by intro z; cases z))]; exact hed
          refine ⟨_, rfl, _, rfl, ed, _, rfl, DPut.k (k := Sum.inl ((i : Nat) : Int)) hed2 (by omega), ⟨_, _, _, _, _, _, rfl⟩, _, ?_, lsc.put (A := A) (pos := pos ++ [((i : Nat) : Int)]) (by simp only [List.length_append, lpos, List.length_cons, List.length_nil])⟩
          have : (los ++ (if isLone S (Th.on c k f) = true then [i] else [])) = los := by show los ++ [] = los; rw [List.append_nil]
          rw [this]
          exact pe.setE (by have := length_putK kvs (Sum.inl ((i : Nat) : Int)) V.non; omega)
      | off c k f =>
        rw [ez] at eth okz
        cases eth
        obtain ⟨b1, b2, b3⟩ : c < 16 ∧ k < 128 ∧ f < 128 := okz
        refine iteT ?_
        refine ⟨_, rfl, kd, rfl, .inr ⟨_, .inl p.hk⟩, _, rfl, D, _, _, _, rfl, rfl, SqL.of hD4, at0, _, rfl, D, _, _, _, rfl, rfl, SqL.of hD4, at1, by show 2 ≤ sizeLine; decide, fun kt nkt => ⟨by show 0 ≤ sizeLine; decide, fun D2 nD2 => ?_⟩⟩
        have key : (ckey (c * 128 + k)).map kV = [V.int c, V.int k] := by rw [ckey_code b2]; rfl
        have p1 := p.same (Same.new (o := .tup [.int c, .int k]) nkt)
        have p2 := p1.same (Same.new (o := .lst []) nD2)
        obtain ⟨os1, o3, _⟩ := p1.hov
        obtain ⟨os, o1, o2⟩ := p2.hov
        obtain ⟨kvs, q1, q2⟩ := p2.he
        have ovk := ne_of o1 p2.hk (by intro z; cases z)
        have edk := ne_of q1 p2.hk (by intro z; cases z)
        refine ⟨_, ckey (c * 128 + k), kt, p2.hk, rfl, by rw [upd_ne (fun z => by rw [z, upd_same] at nD2; cases nD2), upd_same, key], by rw [List.length_map]; have := p2.kl; omega, ?_⟩
        refine setd_one p2 upd_same (fun e he => ne_of_none (p1.hl e he).1 nD2) (p1.sm.free nD2) (ne_of_none p1.hlo nD2).symm (ne_of_none o3 nD2).symm ls fun A kn' pos Hc pc la lp lsc keep => ?_
        have lpos : pos.length = (S.ring (c * 128 + k)).length := by have := lsc (c * 128 + k); rw [la] at this; exact this
        have hov := keep _ _ ovk o1
        have hed := keep _ _ edk q1
        clear p p1 p2 ls key nkt nD2 keep hD4 o1 o3 q1 ovk edk
        obtain ⟨hA, al, av, a0, _⟩ := pc.hl _ (lookA_mem la)
        refine ⟨_, rfl, rfl, _, rfl, ifN (by decide) ?_⟩
        refine ⟨_, rfl, A, _, rfl, .inl (SqL.of hA), _, _, rfl, rfl, _, rfl, ite2 (fun hc => ?_) (fun hc => ?_)⟩
        · have hc' : ((pos.map V.int).length : Int) > 0 := of_decide_eq_true hc
          cases pos with
          | nil => exact absurd hc' (by decide)
          | cons y ps =>
            refine ⟨_, rfl, .inl ⟨rfl, _, SqL.of hA⟩, A, _, 0, 0, .int y, rfl, rfl, hA, by decide, by decide, by rw [seqIndex_of (by omega) (by rw [List.length_map, List.length_cons]; omega)]; rfl, rfl, ?_⟩
            have pe := (pc.setL la (new := ps) (by rw [List.length_cons] at lp; omega)).1
            have hed2 : upd Hc A (.lst (ps.map V.int)) ed = some (.dK kvs) := by rw [upd_ne (ne_of hed hA (by intro z; cases z))]; exact hed
            refine ⟨_, rfl, _, rfl, _, rfl, ed, _, rfl, DPut.k (k := Sum.inl y) hed2 (by omega), ⟨_, _, _, _, _, _, rfl⟩, _, ?_, lsc.put (A := A) (pos := ps) (by rw [List.length_drop, ← lpos, List.length_cons]; rfl)⟩
            have hl0 : isLone S (Th.off c k f) = false := by
              show (S.ring (c * 128 + k)).isEmpty = false
              cases er : S.ring (c * 128 + k) with
              | nil => rw [er] at lpos; cases lpos
              | cons => rfl
            have : (los ++ (if isLone S (Th.off c k f) = true then [i] else [])) = los := by rw [hl0]; show los ++ [] = los; rw [List.append_nil]
            rw [this]
            exact pe.setE (by have := length_putK kvs (Sum.inl y) (V.int ((i : Nat) : Int)); omega)
        · have hc' : ¬ ((pos.map V.int).length : Int) > 0 := fun z => hc (decide_eq_true z)
          have ep : pos = [] := by cases pos with | nil => rfl | cons => exact absurd (by rw [List.length_map, List.length_cons]; omega) hc'
          have er : S.ring (c * 128 + k) = [] := by rw [ep] at lpos; exact List.eq_nil_of_length_eq_zero lpos.symm
          have hl0 : isLone S (Th.off c k f) = true := by show (S.ring (c * 128 + k)).isEmpty = true; rw [er]; rfl
          have ll := pc.ll
          refine ⟨_, rfl, .inl ⟨rfl, _, SqL.of pc.hlo⟩, _, rfl, lo, _, _, rfl, rfl, pc.hlo, by rw [List.length_map]; omega, ⟨_, _, _, _, _, _, rfl⟩, kn', ?_, ?_⟩
          · rw [hl0]
            have ll2 := lonL true
            have pe := pc.setLo (l' := los ++ [i]) ll2
            have em : ((los ++ [i]).map fun j : Nat => V.int (j : Int)) = (los.map fun j : Nat => V.int (j : Int)) ++ [V.int ((i : Nat) : Int)] := by simp
            rw [em] at pe
            exact pe
          · intro cc
            rw [lsc cc]
            show _ = (setF S.ring (c * 128 + k) ((S.ring (c * 128 + k)).drop 1) cc).length
            unfold setF
            by_cases hcc : cc = c * 128 + k
            · rw [if_pos hcc, hcc, er]; rfl
            · rw [if_neg hcc]
    · rintro σ H1 ⟨⟨x5, x6, x7, x8, x9, x10, rfl⟩, kn, p, ls⟩
      rw [refs_len, List.take_length] at p
      refine ⟨_, rfl, _, rfl, _, rfl, by show 3 ≤ sizeLine; decide, fun p0 np => ?_⟩
      exact q _ p0 ed lo ov (p.sm.add np) upd_same (by rw [upd_ne (ne_of_none p.hlo np)]; exact p.hlo)
theorem scLone : FnScope ["track"] ["track"] (defScope sLone) := ⟨rfl, rfl, rfl, by decide +kernel, rfl, by decide +kernel, by decide +kernel⟩
def spLone (K : PySem.W.Frag) : Sp := fun vs H Q _ => ∃ (t : Addr) (es : List (Addr × Ev)), vs = [.ref t] ∧ H t = some (.lst (refs es)) ∧ TL evV H es ∧ es.length ≤ 40 ∧ (∀ e ∈ es, ThOk e.2.2) ∧
  ∀ (H' : Hp) (b : Addr), Same H H' → H' b = some (.lst (lonesV es)) → Q (.ref b) H'
theorem ok_lone (T : Txt K mg w) : Has P w K mg base 2 (gA K "lone") ["track"] (spLone K) := by
  obtain ⟨fd, F⟩ := T.fLone
  obtain ⟨f1, G1, b1, k1⟩ := ok_paired (P := P) (base := base) T
  refine ⟨fd, F.ok scLone (fun vs H Q E h => ?_) (fun cdv A outer s H vs Q E hr h => ⟨_, PSs.nox (pss_one (ps_ret (pe_ix ix_tup (pe_call G1 hr (by rfl) T.gPaired k1 b1 .nil pass0 (pa_cons (pv 0) pa_nil)) pe_int (fun _ _ => rfl)))), ?_⟩), F.bindsN fun _ _ _ _ _ _ us hl => match us, hl with | [_], _ => rfl, F.kp⟩
  · obtain ⟨t, es, rfl, _⟩ := h
    rfl
  · obtain ⟨t, es, rfl, ht, he, hlen, hok, q⟩ := h
    exact ⟨_, rfl, t, es, rfl, ht, he, hlen, hok, fun H1 p a b c s1 hp hb => ⟨p, _, _, _, rfl, rfl, SqT.of hp, at1, q H1 b s1 hb⟩⟩
end
end L2.RK
namespace L2.RK
open PySem PySem.Spec PyProof.Rows
/-! the class Map -/
structure MapOk (beat : Int) (qs : List (Int × Int)) : Prop where
  b0 : 1 ≤ beat
  b1 : beat ≤ 960
  srt : qs.Pairwise fun a b => a.1 < b.1
  len : qs.length ≤ 20
  tick : ∀ q ∈ qs, 0 ≤ q.1 ∧ q.1 ≤ 999999
  pace : ∀ q ∈ qs, 1 ≤ q.2 ∧ q.2 ≤ 16777215
def MapAt (K : PySem.W.Frag) (H : Hp) (o : Addr) (beat : Int) (qs : List (Int × Int)) : Prop :=
  ∃ (dx d : Addr) (ps : List (Int × Int)), H o = some (.ins (gA K "Map") dx [("ticks", .int beat), ("known", .ref d)]) ∧ H d = some (.dK (ps.map ntE)) ∧ ps.Perm qs
theorem MapAt.same {K : PySem.W.Frag} {H H' : Hp} {o : Addr} {beat : Int} {qs : List (Int × Int)} (h : MapAt K H o beat qs) (e : Same H H') : MapAt K H' o beat qs :=
  let ⟨dx, d, ps, h1, h2, h3⟩ := h; ⟨dx, d, ps, e _ _ h1, e _ _ h2, h3⟩
theorem valV_nt {ps : List (Int × Int)} {t : Int} (h : ∀ q ∈ ps, q.1 ≠ t) : valV (ps.map ntE) (Sum.inl t : Key) = none := by
  induction ps with
  | nil => rfl
  | cons p r ih =>
    rw [List.map_cons, valV_neg (fun z => h p List.mem_cons_self (Sum.inl.inj z))]
    exact ih fun q hq => h q (List.mem_cons_of_mem _ hq)
section
variable {P : Program} {w : World} {K : PySem.W.Frag} {mg : Str → Option Value} {base : Heap}
abbrev nMapInit : List Str := ["self", "beat", "paces", "tick", "pace"]
theorem scMapInit : FnScope nMapInit ["self", "beat", "paces"] (defScope sMapInit) := ⟨rfl, rfl, rfl, by decide +kernel, rfl, by decide +kernel, by decide +kernel⟩
def spMapInit (K : PySem.W.Frag) : Sp := fun vs H Q _ => ∃ (o dx l : Addr) (beat : Int) (xs : List (Addr × (Int × Int))) (qs : List (Int × Int)), vs = [.ref o, .int beat, .ref l] ∧ H o = some (.ins (gA K "Map") dx []) ∧
  H l = some (.lst (refs xs)) ∧ TL MomV H xs ∧ (xs.map (·.2)).Perm qs ∧ MapOk beat qs ∧ ∀ H', (∀ b u, H b = some u → b ≠ o → H' b = some u) → MapAt K H' o beat qs → Q .non H'
theorem ok_map_init (T : Txt K mg w) : Has P w K mg base 2 (mA K "Map" "__init__") ["self", "beat", "paces"] (spMapInit K) := by
  obtain ⟨fd, F⟩ := T.fMapInit
  obtain ⟨f1, G1, b1, k1⟩ := ok_need_tick (P := P) (base := base) T
  obtain ⟨f2, G2, b2, k2⟩ := ok_need_pace (P := P) (base := base) T
  obtain ⟨f3, G3, b3, k3⟩ := ok_need_beat (P := P) (base := base) T
  obtain ⟨t, hM⟩ := T.iMOST_PACES
  have nd := scMapInit.nd
  have bb : Binds K fd ["self", "beat", "paces"] [] := by
    obtain ⟨ds, h1, h2⟩ := F.binds1 (ps := ["self", "beat", "paces"]) 3 1 (by simp) rfl (fun T kV doc pm an cdv ct us its hl hi => match us, its, hl, hi with | [_, _, _], [_], _, _ => ⟨_, rfl, rfl⟩)
    cases h1
    exact h2
  refine ⟨fd, F.ok scMapInit (fun vs H Q E h => ?_) (fun cdv A outer s H vs Q E hr h => ⟨_, PSs.nox (pss_cons (ps_expr (pe_call G3 hr (by rfl) T.gNeedBeat k3 b3 .nil pass0 (pa_cons (pv 1) pa_nil)))
      (pss_cons (ps_for PassesOwn.never rfl (pi_list (pv 2)) (pg_tup rfl (pgs_cons (pg_name (i := 3) nd rfl (.inl rfl)) (pgs_cons (pg_name (i := 4) nd rfl (.inl rfl)) pgs_nil)))
        (pss_cons (ps_expr (pe_call G1 hr (by rfl) T.gNeedTick k1 b1 .nil pass0 (pa_cons (pv 3) pa_nil))) (pss_one (ps_expr (pe_call G2 hr (by rfl) T.gNeedPace k2 b2 .nil pass0 (pa_cons (pv 4) pa_nil))))))
      (pss_cons (ps_fld (pv 0) (pv 1) rfl)
      (pss_cons (ps_fld (pv 0) (pe_dcK (own := [("tick", 3), ("pace", 4)]) (g := gTup K 2 (gCons (gName 3) (gCons (gName 4) gNil))) (by rfl) nd (pi_list (pv 2)) (blkOk_by (N := nMapInit) (sc := defScope sMapInit) (by decide +kernel))
          (fun _ _ _ _ _ => pg_tup rfl (pgs_cons (pg_name (i := 3) nd rfl (.inl rfl) (.inr rfl)) (pgs_cons (pg_name (i := 4) nd rfl (.inl rfl) (.inr rfl)) pgs_nil))) (fun _ _ _ _ _ => pts_nil) (fun _ _ _ _ _ => pv 3) (fun _ _ _ _ _ => pv 4)) rfl)
      (pss_one (ps_if (pt_cmpR op_gt (pe_callB call_lenD (by rfl) T.nLen PySem.boot_len (pa_cons (pe_fld (pv 0) rfl) pa_nil)) (pe_glob (v := .int 20) rfl hM ⟨_, rfl⟩) (nomark _)) (pss_one ps_never) pss_nil)))))), ?_⟩), bb, F.kp⟩
  · obtain ⟨o, dx, l, beat, xs, qs, rfl, _⟩ := h
    rfl
  · obtain ⟨o, dx, l, beat, xs, qs, rfl, ho, hl, hx, hp, M, q⟩ := h
    refine ⟨_, rfl, beat, rfl, M.b0, M.b1, ?_⟩
    refine ⟨_, rfl, l, rfl, ⟨_, SqL.of hl⟩, for_list (xs := refs xs) (fun i σ H' => H' = H ∧ ∃ a b, σ = [some (.ref o), some (.int beat), some (.ref l), a, b]) ⟨rfl, _, _, rfl⟩ (fun i σ H' _ h => by obtain ⟨rfl, _⟩ := h; exact SqL.of hl) ?_ ?_⟩
    · rintro i x σ H' hi ⟨rfl, a, b, rfl⟩
      obtain ⟨z, hz, rfl⟩ := refs_get hi
      have hm := List.mem_of_getElem? hz
      have hq : z.2 ∈ qs := hp.mem_iff.mp (List.mem_map_of_mem hm)
      have t1 := M.tick _ hq
      have t2 := M.pace _ hq
      refine ⟨z.1, _, rfl, SqT.of (hx z hm), rfl, ?_⟩
      exact ⟨_, _, rfl, _, _, rfl, rfl, _, rfl, _, rfl, t1.1, t1.2, _, rfl, _, rfl, t2.1, t2.2, rfl, _, _, rfl⟩
    · rintro σ H' ⟨rfl, a, b, rfl⟩
      have hlen : xs.length ≤ 20 := by
        have h1 := hp.length_eq
        have h2 := M.len
        rw [List.length_map] at h1
        omega
      have nol : l ≠ o := ne_of hl ho (by intro z; cases z)
      refine ⟨_, rfl, _, rfl, o, _, dx, _, rfl, ho, T.cMap, T.aMapTicks, by show 0 < 1000; decide, ?_⟩
      generalize hH1 : upd H' o _ = H1
      have e1 : ∀ b u, b ≠ o → H' b = some u → H1 b = some u := fun b u hb e => by rw [← hH1, upd_ne hb]; exact e
      have hl1 : H1 l = some (.lst (refs xs)) := e1 _ _ nol hl
      have hx1 : TL MomV H1 xs := fun x hm => e1 _ _ (ne_of (hx x hm) ho (by intro z; cases z)) (hx x hm)
      have ho1 : H1 o = some (.ins (gA K "Map") dx [("ticks", .int beat)]) := by rw [← hH1, upd_same]; rfl
      refine ⟨_, rfl, l, rfl, ⟨_, SqL.of hl1⟩, fun D hD => cont_it (w := walk_list (K := K) (a := l) (xs := refs xs)) (fun i H2 => Same H1 H2 ∧ H2 D = some (.dK ((xs.take i).map fun x => ntE x.2)) ) ⟨Same.new hD, by rw [upd_same]⟩ (fun i H2 _ h => SqL.of (h.1 _ _ hl1)) ?_ ?_⟩
      · rintro i x H2 H3 hi ⟨sm, hd⟩ ⟨rfl, hx2⟩
        obtain ⟨z, hz, rfl⟩ := refs_get hx2
        have hm := List.mem_of_getElem? hz
        have hq : z.2 ∈ qs := hp.mem_iff.mp (List.mem_map_of_mem hm)
        refine ⟨z.1, _, rfl, SqT.of (sm _ _ (hx1 z hm)), rfl, ?_⟩
        refine ⟨_, _, rfl, _, _, rfl, rfl, rfl, _, rfl, _, rfl, _, Sum.inl z.2.1, rfl, hd, ?_, ?_, ?_⟩
        · rw [List.length_map, List.length_take]
          have : sizeLine > 100 := by decide
          omega
        · exact sm.put hD
        · rw [upd_same, List.take_add_one, hz]
          show some (HO.dK (putK _ _ _)) = _
          have hk : ((xs.take i).map fun x => ntE x.2) = ((xs.take i).map (·.2)).map ntE := by rw [List.map_map]; rfl
          rw [putK_new, List.map_append]
          · rfl
          · rw [hk]
            refine valV_nt fun q hq e => ?_
            have hnd : (xs.map fun x => x.2.1).Nodup := by
              have h1 : ((xs.map (·.2)).map (·.1)).Nodup := (hp.map _).nodup_iff.mpr (List.Pairwise.imp (fun h => Int.ne_of_lt h) (List.pairwise_map.mpr M.srt))
              rw [List.map_map] at h1
              exact h1
            obtain ⟨y, hy, rfl⟩ := List.mem_map.mp hq
            obtain ⟨j, hj, ej⟩ := List.mem_iff_getElem.mp hy
            rw [List.length_take] at hj
            rw [List.getElem_take] at ej
            have hi' : i < xs.length := by
              have := (List.getElem?_eq_some_iff.mp hz).1
              exact this
            have ez : xs[i] = z := (List.getElem?_eq_some_iff.mp hz).2
            have := (List.getElem_inj (i := j) (j := i) (h₀ := by rw [List.length_map]; omega) (h₁ := by rw [List.length_map]; omega) hnd).mp (by simp only [List.getElem_map]; rw [ej, ez]; exact e)
            omega
      · rintro H2 ⟨sm, hd⟩
        rw [refs_len, List.take_length] at hd
        refine ⟨_, rfl, o, _, dx, _, rfl, sm _ _ ho1, T.cMap, T.aMapKnown, by show 1 < 1000; decide, ?_⟩
        have oD : o ≠ D := fun z => by rw [← z, ho1] at hD; cases hD
        generalize hH3 : upd H2 o _ = H3
        have ho3 : H3 o = some (.ins (gA K "Map") dx [("ticks", .int beat), ("known", .ref D)]) := by rw [← hH3, upd_same]; rfl
        have hd3 : H3 D = some (.dK ((xs.map (·.2)).map ntE)) := by rw [← hH3, upd_ne oD.symm, hd, List.map_map]; rfl
        have e3 : ∀ b u, H' b = some u → b ≠ o → H3 b = some u := fun b u e hb => by rw [← hH3, upd_ne hb]; exact sm _ _ (e1 _ _ hb e)
        refine ⟨_, rfl, _, _, _, _, _, rfl, ho3, T.cMap, T.aMapKnown, rfl, D, _, rfl, hd3, _, _, rfl, rfl, _, rfl, ?_⟩
        have : ((xs.map (·.2)).map ntE).length ≤ 20 := by rw [List.length_map, hp.length_eq]; exact M.len
        refine ifN (by omega) ?_
        exact q H3 e3 ⟨dx, D, _, ho3, hd3, hp⟩
end
end L2.RK
namespace L2.RK
open PySem PySem.Spec PyProof.Rows
/-! Map.paces, stretches, moment -/
/-- two strictly rising lists of the same items are one -/
theorem sorted_unique {α : Type} {f : α → Int} : ∀ {xs ys : List α}, xs.Pairwise (fun a b => f a < f b) → ys.Pairwise (fun a b => f a < f b) → xs.Perm ys → xs = ys
  | [], ys, _, _, p => by have := p.length_eq; cases ys with | nil => rfl | cons _ _ => simp at this
  | x :: xs, [], _, _, p => by have := p.length_eq; simp at this
  | x :: xs, y :: ys, h1, h2, p => by
    have hx : x ∈ y :: ys := p.mem_iff.mp List.mem_cons_self
    have hy : y ∈ x :: xs := p.mem_iff.mpr List.mem_cons_self
    have e : x = y := by
      rcases List.mem_cons.mp hx with e | hx
      · exact e
      · rcases List.mem_cons.mp hy with e | hy
        · exact e.symm
        · have a := (List.pairwise_cons.mp h2).1 x hx
          have b := (List.pairwise_cons.mp h1).1 y hy
          omega
    subst e
    rw [sorted_unique (List.pairwise_cons.mp h1).2 (List.pairwise_cons.mp h2).2 (List.Perm.cons_inv p)]
def strF (at_ ahead old : Int) : List (Int × Int) → List (Int × Int × Int)
  | [] => []
  | (t, p) :: r => (t, ahead + (t - at_) * old, p) :: strF t (ahead + (t - at_) * old) p r
def numF (at_ ahead old : Int) : List (Int × Int) → Int → Int
  | [], t => ahead + (t - at_) * old
  | (t1, p) :: r, t => if t1 ≤ t then numF t1 (ahead + (t1 - at_) * old) p r t else ahead + (t - at_) * old
def momF (beat : Int) (qs : List (Int × Int)) (t : Int) : Int × Int := low (numF 0 0 500000 qs t) beat
theorem strF_late {t : Int} : ∀ (qs : List (Int × Int)) (at_ ahead old : Int), (∀ q ∈ qs, t < q.1) → (strF at_ ahead old qs).filter (fun s => decide (s.1 ≤ t)) = []
  | [], _, _, _, _ => rfl
  | (t1, p) :: r, at_, ahead, old, h => by
    have h1 : t < t1 := h (t1, p) List.mem_cons_self
    show List.filter _ ((t1, _, p) :: strF t1 _ p r) = []
    rw [List.filter_cons_of_neg (by simp; exact h1)]
    exact strF_late r _ _ _ fun q hq => h q (List.mem_cons_of_mem _ hq)
theorem str_last {t : Int} : ∀ (qs : List (Int × Int)) (at_ ahead old : Int), 0 ≤ at_ → at_ ≤ t → (qs.Pairwise fun a b => a.1 < b.1) → (∀ q ∈ qs, 0 ≤ q.1) →
    ∃ ini a b c, ((at_, ahead, old) :: strF at_ ahead old qs).filter (fun s => decide (s.1 ≤ t)) = ini ++ [(a, b, c)] ∧ b + (t - a) * c = numF at_ ahead old qs t ∧ 0 ≤ a ∧ a ≤ t
  | [], at_, ahead, old, h0, h, _, _ => ⟨[], at_, ahead, old, by rw [List.filter_cons_of_pos (by simpa using h)]; rfl, rfl, h0, h⟩
  | (t1, p) :: r, at_, ahead, old, h0, h, hs, hn => by
    obtain ⟨hs1, hs2⟩ := List.pairwise_cons.mp hs
    by_cases h1 : t1 ≤ t
    · obtain ⟨ini, a, b, c, e1, e2, e3⟩ := str_last r t1 (ahead + (t1 - at_) * old) p (hn _ List.mem_cons_self) h1 hs2 fun q hq => hn q (List.mem_cons_of_mem _ hq)
      refine ⟨(at_, ahead, old) :: ini, a, b, c, ?_, ?_, e3⟩
      · rw [List.filter_cons_of_pos (by simpa using h)]
        show _ :: List.filter _ ((t1, _, p) :: strF t1 _ p r) = _
        rw [e1]; rfl
      · rw [e2]; show _ = if t1 ≤ t then _ else _; rw [if_pos h1]
    · refine ⟨[], at_, ahead, old, ?_, ?_, h0, h⟩
      · rw [List.filter_cons_of_pos (by simpa using h), strF_late]
        · rfl
        · intro q hq
          rcases List.mem_cons.mp hq with rfl | hq
          · exact Int.not_le.mp h1
          · have : t1 < q.1 := hs1 q hq
            omega
      · show _ = if t1 ≤ t then _ else _
        rw [if_neg h1]
theorem numF_nonneg {t : Int} : ∀ (qs : List (Int × Int)) (at_ ahead old : Int), 0 ≤ ahead → 0 ≤ old → at_ ≤ t → (qs.Pairwise fun a b => a.1 < b.1) → (∀ q ∈ qs, at_ ≤ q.1 ∧ 0 ≤ q.2) → 0 ≤ numF at_ ahead old qs t
  | [], at_, ahead, old, h1, h2, h3, _, _ => by
    have : 0 ≤ (t - at_) * old := Int.mul_nonneg (by omega) h2
    show 0 ≤ ahead + (t - at_) * old
    omega
  | (t1, p) :: r, at_, ahead, old, h1, h2, h3, hs, hq => by
    obtain ⟨hs1, hs2⟩ := List.pairwise_cons.mp hs
    have hp := hq _ List.mem_cons_self
    show 0 ≤ if t1 ≤ t then _ else _
    by_cases h : t1 ≤ t
    · rw [if_pos h]
      have : 0 ≤ (t1 - at_) * old := Int.mul_nonneg (by have := hp.1; simp at this; omega) h2
      exact numF_nonneg r _ _ _ (by omega) hp.2 h hs2 fun q hm => ⟨by have : t1 < q.1 := hs1 q hm; omega, (hq q (List.mem_cons_of_mem _ hm)).2⟩
    · rw [if_neg h]
      have : 0 ≤ (t - at_) * old := Int.mul_nonneg (by omega) h2
      omega
abbrev stS (s : Int × Int × Int) (q : Int × Int) : Int × Int × Int := (q.1, s.2.1 + (q.1 - s.1) * s.2.2, q.2)
theorem str_fold : ∀ (qs : List (Int × Int)) (s : Int × Int × Int), ∃ ini, s :: strF s.1 s.2.1 s.2.2 qs = ini ++ [qs.foldl stS s]
  | [], s => ⟨[], rfl⟩
  | q :: r, s => by
    obtain ⟨ini, e⟩ := str_fold r (stS s q)
    exact ⟨s :: ini, by show s :: stS s q :: strF _ _ _ r = _; rw [e]; rfl⟩
theorem str_snoc (q : Int × Int) : ∀ (qs : List (Int × Int)) (s : Int × Int × Int), strF s.1 s.2.1 s.2.2 (qs ++ [q]) = strF s.1 s.2.1 s.2.2 qs ++ [stS (qs.foldl stS s) q]
  | [], s => rfl
  | p :: r, s => by
    show stS s p :: strF _ _ _ (r ++ [q]) = stS s p :: strF _ _ _ r ++ [_]
    rw [str_snoc q r (stS s p)]; rfl
theorem fold_fst : ∀ (qs : List (Int × Int)) (s : Int × Int × Int), 0 ≤ s.1 ∧ s.1 ≤ 999999 → (∀ q ∈ qs, 0 ≤ q.1 ∧ q.1 ≤ 999999) → 0 ≤ (qs.foldl stS s).1 ∧ (qs.foldl stS s).1 ≤ 999999
  | [], s, h, _ => h
  | p :: r, s, _, hq => fold_fst r (stS s p) (hq p List.mem_cons_self) fun q hm => hq q (List.mem_cons_of_mem _ hm)
section
variable {P : Program} {w : World} {K : PySem.W.Frag} {mg : Str → Option Value} {base : Heap}
theorem scMapPaces : FnScope ["self"] ["self"] (defScope sMapPaces) := ⟨rfl, rfl, rfl, by decide +kernel, rfl, by decide +kernel, by decide +kernel⟩
def spPaces (K : PySem.W.Frag) : Sp := fun vs H Q _ => ∃ (o : Addr) (beat : Int) (qs : List (Int × Int)), vs = [.ref o] ∧ MapAt K H o beat qs ∧ MapOk beat qs ∧
  ∀ (H' : Hp) (l : Addr) (xs : List (Addr × (Int × Int))), Same H H' → H l = none → H' l = some (.lst (refs xs)) → TL MomV H' xs → xs.map (·.2) = qs → Q (.ref l) H'
theorem ok_paces (T : Txt K mg w) : Has P w K mg base 1 (mA K "Map" "paces") ["self"] (spPaces K) := by
  obtain ⟨fd, F⟩ := T.fMapPaces
  refine ⟨fd, F.ok scMapPaces (fun vs H Q E h => ?_) (fun cdv A outer s H vs Q E hr h => ⟨_, PSs.nox (pss_one (ps_ret (pe_callB (call_sortedItems (B := 33554432) (by rfl)) (by rfl) T.nSorted (by decide +kernel)
      (pa_cons (pe_bm0 PySem.F.plainAttrs_dict PySem.F.slot_dict_items PySem.F.type_dict_items mt_itemsK (pe_fld (pv 0) rfl)) pa_nil)))), ?_⟩), F.bindsN fun _ _ _ _ _ _ us hl => match us, hl with | [_], _ => rfl, F.kp⟩
  · obtain ⟨o, beat, qs, rfl, _⟩ := h
    rfl
  · obtain ⟨o, beat, qs, rfl, ⟨dx, d, ps, ho, hd, hp⟩, M, q⟩ := h
    have hin : ∀ q ∈ ps, InB 33554432 q := fun z hz => by
      have h1 := M.tick z (hp.mem_iff.mp hz)
      have h2 := M.pace z (hp.mem_iff.mp hz)
      exact ⟨⟨by omega, by omega⟩, ⟨by omega, by omega⟩⟩
    refine ⟨_, rfl, o, _, dx, _, _, rfl, ho, T.cMap, T.aMapKnown, rfl, .inr (.inr (.inl ⟨rfl, .inl ⟨_, hd⟩⟩)), d, ps.map ntE, rfl, rfl, hd, fun p np => ?_⟩
    refine ⟨p, d, ps, rfl, upd_same, by rw [upd_ne (ne_of_none hd np)]; exact hd, by have := hp.length_eq; have := M.len; omega, hin, fun H' l ys sm nl hl perm pw pb => ?_⟩
    refine q H' l (ys.map fun a => (a, pairAt H' a)) ((Same.new np).trans sm) (by rcases Decidable.em (l = p) with z | z; · rw [z, upd_same] at nl; cases nl
                                                                                  · rw [upd_ne z] at nl; exact nl) (by rw [hl]; unfold refs; rw [List.map_map]; rfl) (fun x hx => ?_) ?_
    · obtain ⟨a, ha, rfl⟩ := List.mem_map.mp hx
      obtain ⟨i, j, e, _⟩ := pb a ha
      show H' a = some (.tup (MomV (pairAt H' a)))
      rw [pairAt_of e]; exact e
    · rw [List.map_map]
      show ys.map (pairAt H') = qs
      have hpp := perm.trans hp
      refine sorted_unique (f := fun q => q.1) ?_ M.srt hpp
      have nd : ((ys.map (pairAt H')).map (·.1)).Nodup := (hpp.map _).nodup_iff.mpr (List.Pairwise.imp (fun h => Int.ne_of_lt h) (List.pairwise_map.mpr M.srt))
      have nd2 := List.pairwise_map.mp nd
      have le : (ys.map (pairAt H')).Pairwise (fun a b => a.1 ≤ b.1) := by
        rw [List.pairwise_map]
        refine List.Pairwise.imp_of_mem (fun {a b} ha hb h => ?_) pw
        obtain ⟨i, j, e, b1⟩ := pb a ha
        obtain ⟨i', j', e', b2⟩ := pb b hb
        rw [pairAt_of e, pairAt_of e'] at h ⊢
        unfold c2 at h
        obtain ⟨⟨c1, c2⟩, ⟨c3, c4⟩⟩ := b1
        obtain ⟨⟨d1, d2⟩, ⟨d3, d4⟩⟩ := b2
        simp only at h c1 c2 c3 c4 d1 d2 d3 d4 ⊢
        omega
      exact List.Pairwise.imp (fun {a b} h => by have := h.1; have := h.2; omega) (le.and nd2)
abbrev nStr : List Str := ["self", "found", "tick", "pace", "at", "ahead", "old"]
theorem scMapStretches : FnScope nStr ["self"] (defScope sMapStretches) := ⟨rfl, rfl, rfl, by decide +kernel, rfl, by decide +kernel, by decide +kernel⟩
def spStretches (K : PySem.W.Frag) : Sp := fun vs H Q _ => ∃ (o : Addr) (beat : Int) (qs : List (Int × Int)), vs = [.ref o] ∧ MapAt K H o beat qs ∧ MapOk beat qs ∧
  ∀ (H' : Hp) (l : Addr) (xs : List (Addr × (Int × Int × Int))), Same H H' → H l = none → H' l = some (.lst (refs xs)) → TL TriV H' xs → xs.map (·.2) = (0, 0, 500000) :: strF 0 0 500000 qs → Q (.ref l) H'
theorem ok_stretches (T : Txt K mg w) : Has P w K mg base 2 (mA K "Map" "stretches") ["self"] (spStretches K) := by
  obtain ⟨fd, F⟩ := T.fMapStretches
  obtain ⟨f1, G1, b1, k1⟩ := ok_paces (P := P) (base := base) T
  obtain ⟨t, hU⟩ := T.iUSUAL
  have nd := scMapStretches.nd
  refine ⟨fd, F.ok scMapStretches (fun vs H Q E h => ?_) (fun cdv A outer s H vs Q E hr h => ⟨_, PSs.nox (pss_cons (ps_set (i := 1) nd rfl (.inl rfl) (pe_lst (pa_cons (pe_tup (pa_cons pe_int (pa_cons pe_int (pa_cons (pe_glob (v := .int 500000) rfl hU ⟨_, rfl⟩) pa_nil)))) pa_nil)))
      (pss_cons (ps_for PassesOwn.never rfl (pi_list (pe_meth0 (pv 0) T.cMap T.mMapPaces G1 hr b1 .nil pass0)) (pg_tup rfl (pgs_cons (pg_name (i := 2) nd rfl (.inl rfl)) (pgs_cons (pg_name (i := 3) nd rfl (.inl rfl)) pgs_nil)))
        (pss_cons (ps_asg (pe_ix ix_list (pv 1) (pe_un un_neg pe_int) (fun _ _ => rfl)) (pg_tup rfl (pgs_cons (pg_name (i := 4) nd rfl (.inl rfl)) (pgs_cons (pg_name (i := 5) nd rfl (.inl rfl)) (pgs_cons (pg_name (i := 6) nd rfl (.inl rfl)) pgs_nil)))))
        (pss_one (ps_expr (pe_bm PySem.F.plainAttrs_list PySem.F.slot_list_append PySem.F.type_list_append mt_append (pv 1) (pa_cons (pe_tup (pa_cons (pv 2) (pa_cons (pe_op op_add (pv 5) (pe_op op_mul (pe_op op_sub (pv 2) (pv 4)) (pv 6))) (pa_cons (pv 3) pa_nil)))) pa_nil))))))
      (pss_one (ps_ret (pv 1))))), ?_⟩), F.bindsN fun _ _ _ _ _ _ us hl => match us, hl with | [_], _ => rfl, F.kp⟩
  · obtain ⟨o, beat, qs, rfl, _⟩ := h
    rfl
  · obtain ⟨o, beat, qs, rfl, hM, M, q⟩ := h
    refine ⟨by show 3 ≤ sizeLine; decide, fun p np => ⟨by show 1 ≤ sizeLine; decide, fun l nl => ?_⟩⟩
    have hM2 := hM.same ((Same.new np).add (o := .lst [.ref p]) nl)
    have lp : l ≠ p := fun z => by rw [z, upd_same] at nl; cases nl
    have nl0 : H l = none := by rw [upd_ne lp] at nl; exact nl
    obtain ⟨dx, d, ps, ho, hd, hp⟩ := id hM2
    refine ⟨_, rfl, o, dx, _, rfl, ho, rfl, o, beat, qs, rfl, hM2, M, fun H1 pl xs sm npl hpl hx ex => ⟨_, rfl, ⟨_, SqL.of hpl⟩, ?_⟩⟩
    have sH : Same H H1 := ((Same.new np).add nl).trans sm
    have hl1 : H1 l = some (.lst [.ref p]) := sm _ _ upd_same
    have hp1 : H1 p = some (.tup (TriV (0, 0, 500000))) := sm _ _ (by rw [upd_ne lp.symm, upd_same]; rfl)
    have hxl : xs.length = qs.length := by rw [← ex, List.length_map]
    have pl_l : pl ≠ l := fun z => by rw [z, upd_same] at npl; cases npl
    refine for_list (xs := refs xs) (fun i σ H' => (∃ a b c d e, σ = [some (.ref o), some (.ref l), a, b, c, d, e]) ∧ Same H H' ∧ H' pl = some (.lst (refs xs)) ∧ TL MomV H' xs ∧ ∃ fs : List (Addr × (Int × Int × Int)), H' l = some (.lst (refs fs)) ∧ TL TriV H' fs ∧ fs.map (·.2) = (0, 0, 500000) :: strF 0 0 500000 (qs.take i)) ?_ ?_ ?_ ?_
    · exact ⟨⟨_, _, _, _, _, rfl⟩, sH, hpl, hx, [(p, (0, 0, 500000))], hl1, fun x hm => by rw [List.mem_singleton.mp hm]; exact hp1, rfl⟩
    · rintro i σ H' _ ⟨_, _, h, _⟩
      exact SqL.of h
    · rintro i x σ H' hi ⟨⟨a, b, c, d', e, rfl⟩, s1, h1, h2, fs, h3, h4, h5⟩
      obtain ⟨z, hz, rfl⟩ := refs_get hi
      have hm := List.mem_of_getElem? hz
      have hi' : i < qs.length := by rw [← hxl]; exact (List.getElem?_eq_some_iff.mp hz).1
      have eq' : qs[i]? = some z.2 := by rw [← ex, List.getElem?_map, hz]; rfl
      have hq : z.2 ∈ qs := List.mem_of_getElem? eq'
      obtain ⟨ini, ei⟩ := str_fold (qs.take i) (0, 0, 500000)
      rw [ei] at h5
      obtain ⟨fs1, fs2, rfl, e1, e2⟩ := List.map_eq_append_iff.mp h5
      obtain ⟨y, rfl, ey⟩ := map_one e2
      have hb := fold_fst (qs.take i) (0, 0, 500000) ⟨by decide, by decide⟩ fun q hm => M.tick q (List.mem_of_mem_take hm)
      have hy : H' y.1 = some (.tup (TriV y.2)) := h4 y (by simp)
      have tk := M.tick _ hq
      refine ⟨z.1, _, rfl, SqT.of (h2 z hm), rfl, _, _, rfl, _, _, rfl, rfl, ?_⟩
      refine ⟨_, rfl, _, rfl, l, _, _, _, rfl, rfl, SqL.of h3, by rw [refs_app]; exact atI_last _ _, y.1, _, rfl, SqT.of hy, rfl, _, _, rfl, _, _, rfl, _, _, rfl, rfl, ?_⟩
      refine ⟨_, rfl, .inl ⟨rfl, _, SqL.of h3⟩, _, rfl, _, rfl, _, rfl, _, rfl, _, _, rfl, rfl, _, rfl, _, _, rfl, rfl, .inl ⟨by rw [ey]; omega, by rw [ey]; omega⟩, _, _, rfl, rfl, _, rfl, by show 3 ≤ sizeLine; decide, fun T nT => ?_⟩
      have Tl : T ≠ l := fun z => by rw [z, h3] at nT; cases nT
      refine ⟨l, _, _, rfl, rfl, by rw [upd_ne Tl.symm]; exact h3, ?_, ?_⟩
      · have h6 := congrArg List.length h5
        have h7 := congrArg List.length ei
        have hq20 := M.len
        have : sizeLine > 1000 := by decide
        rw [refs_len]
        have e8 : ∀ (r : List (Int × Int)) (s : Int × Int × Int), (strF s.1 s.2.1 s.2.2 r).length = r.length := by
          intro r
          induction r with
          | nil => intro s; rfl
          | cons q r ih => intro s; show (stS s q :: strF _ _ _ r).length = _; rw [List.length_cons, ih (stS s q)]; rfl
        have h9 := e8 (qs.take i) (0, 0, 500000)
        rw [List.length_map] at h6
        rw [List.length_cons, h9, List.length_take] at h7
        omega
      · have s2 : Same H' (upd H' T (.tup (TriV (stS y.2 z.2)))) := Same.new nT
        refine ⟨⟨_, _, _, _, _, rfl⟩, (s1.add nT).put nl0, ?_, ?_, fs1 ++ [y] ++ [(T, stS y.2 z.2)], ?_, ?_, ?_⟩
        · rw [upd_ne pl_l]; exact s2 _ _ h1
        · intro x hx'; rw [upd_ne (ne_of (h2 x hx') h3 (by intro z; cases z))]; exact s2 _ _ (h2 x hx')
        · rw [upd_same, refs_app (xs := fs1 ++ [y])]; rfl
        · intro x hx'
          rcases List.mem_append.mp hx' with hx' | hx'
          · rw [upd_ne (ne_of (h4 x hx') h3 (by intro z; cases z))]; exact s2 _ _ (h4 x hx')
          · rw [List.mem_singleton.mp hx', upd_ne Tl, upd_same]; rfl
        · rw [List.map_append, h5, ← ei, List.take_add_one, eq']
          show _ = _ :: strF 0 0 500000 (qs.take i ++ [z.2])
          rw [str_snoc z.2 (qs.take i) (0, 0, 500000), ← ey]; rfl
    · rintro σ H' ⟨⟨a, b, c, d', e, rfl⟩, s1, h1, h2, fs, h3, h4, h5⟩
      refine ⟨_, rfl, q H' l fs s1 nl0 h3 h4 ?_⟩
      rw [h5, refs_len, hxl, List.take_length]
abbrev nMom : List Str := ["self", "tick", "at", "ahead", "pace", "one"]
theorem scMapMoment : FnScope nMom ["self", "tick"] (defScope sMapMoment) := ⟨rfl, rfl, rfl, by decide +kernel, rfl, by decide +kernel, by decide +kernel⟩
def spMoment (K : PySem.W.Frag) : Sp := fun vs H Q _ => ∃ (o : Addr) (beat t : Int) (qs : List (Int × Int)), vs = [.ref o, .int t] ∧ 0 ≤ t ∧ t ≤ 999999 ∧ MapAt K H o beat qs ∧ MapOk beat qs ∧
  ∀ (H' : Hp) (p : Addr), Same H H' → H' p = some (.tup (MomV (momF beat qs t))) → Q (.ref p) H'
theorem ok_moment (T : Txt K mg w) : Has P w K mg base 3 (mA K "Map" "moment") ["self", "tick"] (spMoment K) := by
  obtain ⟨fd, F⟩ := T.fMapMoment
  obtain ⟨f1, G1, b1, k1⟩ := ok_need_tick (P := P) (base := base) T
  obtain ⟨f2, G2, b2, k2⟩ := ok_stretches (P := P) (base := base) T
  obtain ⟨f3, G3, b3, k3⟩ := ok_share (P := P) (base := base) T
  have nd := scMapMoment.nd
  refine ⟨fd, F.ok scMapMoment (fun vs H Q E h => ?_) (fun cdv A outer s H vs Q E hr h => ⟨_, PSs.nox (pss_cons (ps_expr (pe_call G1 (hr.mono (by decide)) (by rfl) T.gNeedTick k1 b1 .nil pass0 (pa_cons (pv 1) pa_nil)))
      (pss_cons (ps_asg (pe_ix ix_list (pe_lc (own := [("one", 5)]) (g := gName 5) (tt := tTest (tOp (rI0 fun i j => .bl (decide (i ≤ j))) (tOp (rIxT K) (tVar 5) (tC (.int 0))) (tVar 1))) (by rfl) nd (pi_list (pe_meth0 (pv 0) T.cMap T.mMapStretches G2 hr b2 .nil pass0)) (blkOk_by (N := nMom) (sc := defScope sMapMoment) (by decide +kernel))
          (fun _ _ _ _ _ => pg_name (i := 5) nd rfl (.inl rfl) (.inr rfl)) (fun _ _ _ _ _ => pts_one (pt_cmpR op_le (pe_ix ix_tup (pv 5) pe_int (fun _ _ => rfl)) (pv 1) (nomark _))) (fun _ _ _ _ _ => pv 5)) (pe_un un_neg pe_int) (fun _ _ => rfl))
        (pg_tup rfl (pgs_cons (pg_name (i := 2) nd rfl (.inl rfl)) (pgs_cons (pg_name (i := 3) nd rfl (.inl rfl)) (pgs_cons (pg_name (i := 4) nd rfl (.inl rfl)) pgs_nil)))))
      (pss_one (ps_ret (pe_call G3 hr (by rfl) T.gShare k3 b3 .nil pass0 (pa_cons (pe_op op_add (pv 3) (pe_op op_mul (pe_op op_sub (pv 1) (pv 2)) (pv 4))) (pa_cons (pe_fld (pv 0) rfl) pa_nil))))))), ?_⟩), F.bindsN fun _ _ _ _ _ _ us hl => match us, hl with | [_, _], _ => rfl, F.kp⟩
  · obtain ⟨o, beat, t, qs, rfl, _⟩ := h
    rfl
  · obtain ⟨o, beat, t, qs, rfl, t0, t1, hM, M, q⟩ := h
    obtain ⟨dx, d, ps, ho, hd, hp⟩ := id hM
    refine ⟨_, rfl, t, rfl, t0, t1, ?_⟩
    refine ⟨_, rfl, o, dx, _, rfl, ho, rfl, o, beat, qs, rfl, hM, M, fun H1 sl xs sm nsl hsl hx ex => ⟨_, rfl, ⟨_, SqL.of hsl⟩, fun D nD => ?_⟩⟩
    refine lc_list (xs := refs xs) (fun i H' => Same H1 H' ∧ H' D = some (.lst (refs ((xs.take i).filter fun x => decide (x.2.1 ≤ t))))) ⟨Same.new nD, upd_same⟩ (fun i H' _ h => SqL.of (h.1 _ _ hsl)) ?_ ?_
    · rintro i x H' hi ⟨s1, h1⟩
      obtain ⟨z, hz, rfl⟩ := refs_get hi
      have hz' := s1 _ _ (hx z (List.mem_of_getElem? hz))
      have et : xs.take (i + 1) = xs.take i ++ [z] := by rw [List.take_add_one, hz]; rfl
      refine ⟨rfl, _, rfl, _, _, _, _, rfl, rfl, SqT.of hz', rfl, _, rfl, _, _, rfl, rfl, _, rfl, ?_⟩
      refine ite2 (fun hc => ⟨_, rfl, _, h1, ?_, s1.put nD, ?_⟩) (fun hc => ⟨s1, ?_⟩)
      · have h6 : (xs.map (·.2)).length = 1 + qs.length := by
          rw [ex, List.length_cons]
          have e8 : ∀ (r : List (Int × Int)) (s : Int × Int × Int), (strF s.1 s.2.1 s.2.2 r).length = r.length := by
            intro r
            induction r with
            | nil => intro s; rfl
            | cons q r ih => intro s; show (stS s q :: strF _ _ _ r).length = _; rw [List.length_cons, ih (stS s q)]; rfl
          rw [e8 qs (0, 0, 500000)]; omega
        rw [List.length_map] at h6
        have h7 := M.len
        have h8 := List.length_filter_le (fun x : Addr × (Int × Int × Int) => decide (x.2.1 ≤ t)) (xs.take i)
        rw [List.length_take] at h8
        have : sizeLine > 1000 := by decide
        rw [refs_len]; omega
      · have hc' : decide (z.2.1 ≤ t) = true := hc
        rw [upd_same, et, filter_yes (fun x : Addr × (Int × Int × Int) => decide (x.2.1 ≤ t)) _ hc', refs_app]; rfl
      · have hc' : ¬ decide (z.2.1 ≤ t) = true := hc
        rw [et, filter_no (fun x : Addr × (Int × Int × Int) => decide (x.2.1 ≤ t)) _ hc']; exact h1
    · rintro H' ⟨s1, h1⟩
      rw [refs_len, List.take_length] at h1
      obtain ⟨ini, a, b, c, e1, e2, e3, e4⟩ := str_last qs 0 0 500000 (Int.le_refl _) t0 M.srt fun q hq => (M.tick q hq).1
      have e5 : (xs.filter fun x => decide (x.2.1 ≤ t)).map (·.2) = ini ++ [(a, b, c)] := by
        rw [← e1, ← ex, List.filter_map]; rfl
      obtain ⟨fs1, fs2, e6, e7, e8⟩ := List.map_eq_append_iff.mp e5
      obtain ⟨y, rfl, ey⟩ := map_one e8
      rw [e6, refs_app] at h1
      have hy : y ∈ xs := (List.mem_filter.mp (show y ∈ xs.filter (fun x => decide (x.2.1 ≤ t)) by rw [e6]; simp)).1
      have hy2 := s1 _ _ (hx y hy)
      rw [ey] at hy2
      have ho2 := s1 _ _ (sm _ _ ho)
      refine ⟨_, rfl, D, _, _, _, rfl, rfl, SqL.of h1, atI_last _ _, y.1, _, rfl, SqT.of hy2, rfl, _, _, rfl, _, _, rfl, _, _, rfl, rfl, ?_⟩
      refine ⟨_, rfl, _, rfl, _, rfl, _, _, rfl, rfl, _, rfl, _, _, rfl, rfl, .inl ⟨by omega, by omega⟩, _, _, rfl, rfl, ?_⟩
      refine ⟨_, rfl, o, _, dx, _, _, rfl, ho2, T.cMap, T.aMapTicks, rfl, _, beat, rfl, ?_, by have := M.b0; omega, by have := M.b1; omega, fun p np => ?_⟩
      · rw [e2]
        exact numF_nonneg qs 0 0 500000 (by decide) (by decide) t0 M.srt fun q hq => ⟨(M.tick q hq).1, by have := (M.pace q hq).1; omega⟩
      · refine q _ p ((sm.trans s1).add np) ?_
        rw [upd_same, e2]; rfl
end
end L2.RK
namespace L2.RK
open PySem PySem.Spec PyProof.Rows
/-! timed, next_moment -/
abbrev Row : Type := Addr × Addr × Addr × (Int × Int) × Th
def RL (H : Hp) (rows : List Row) : Prop := ∀ x ∈ rows, H x.1 = some (.tup [.ref x.2.1, .ref x.2.2.1]) ∧ H x.2.1 = some (.tup (MomV x.2.2.2.1)) ∧ H x.2.2.1 = some (.tup (thV x.2.2.2.2))
theorem RL.same {H H' : Hp} {rows : List Row} (h : RL H rows) (e : Same H H') : RL H' rows := fun x hx => let ⟨a, b, c⟩ := h x hx; ⟨e _ _ a, e _ _ b, e _ _ c⟩
theorem RL.nil {H : Hp} : RL H [] := fun x hx => by cases hx
theorem thV_ne (t : Th) : thV t ≠ [] := by cases t <;> (intro z; cases z)
section
variable {P : Program} {w : World} {K : PySem.W.Frag} {mg : Str → Option Value} {base : Heap}
abbrev nTimed : List Str := ["track", "own", "event"]
theorem scTimed : FnScope nTimed ["track", "own"] (defScope sTimed) := ⟨rfl, rfl, rfl, by decide +kernel, rfl, by decide +kernel, by decide +kernel⟩
def spTimed (K : PySem.W.Frag) : Sp := fun vs H Q _ => ∃ (l o : Addr) (beat : Int) (qs : List (Int × Int)) (es : List (Addr × Ev)), vs = [.ref l, .ref o] ∧ H l = some (.lst (refs es)) ∧ TL evV H es ∧ es.length ≤ 100 ∧ (∀ e ∈ es, 0 ≤ e.2.1 ∧ e.2.1 ≤ 999999) ∧ MapAt K H o beat qs ∧ MapOk beat qs ∧
  ∀ (H' : Hp) (p : Addr) (rows : List Row), Same H H' → H' p = some (.lst (refs rows)) → RL H' rows → rows.map (fun x => x.2.2.2) = es.map (fun e => (momF beat qs e.2.1, e.2.2)) → Q (.ref p) H'
theorem ok_timed (T : Txt K mg w) : Has P w K mg base 4 (gA K "timed") ["track", "own"] (spTimed K) := by
  obtain ⟨fd, F⟩ := T.fTimed
  obtain ⟨f1, G1, b1, k1⟩ := ok_moment (P := P) (base := base) T
  have nd := scTimed.nd
  refine ⟨fd, F.ok scTimed (fun vs H Q E h => ?_) (fun cdv A outer s H vs Q E hr h => ⟨_, PSs.nox (pss_one (ps_ret (pe_lc (own := [("event", 2)]) (g := gName 2) (tt := tYes)
      (te := tTup (tCons (tMeth (gA K "Map") "moment" (spMoment K) [] E0 (tVar 1) (tCons (tOp (rIxT K) (tVar 2) (tC (.int 0))) tNil)) (tCons (tSl (rSlT K) (tVar 2) (tPart (tC (.int 1))) tNoPart) tNil)))
      (by rfl) nd (pi_list (pv 0)) (blkOk_by (N := nTimed) (sc := defScope sTimed) (by decide +kernel)) (fun _ _ _ _ _ => pg_name (i := 2) nd rfl (.inl rfl) (.inr rfl)) (fun _ _ _ _ _ => pts_nil)
      (fun _ _ _ _ _ => pe_tup (pa_cons (pe_meth (pv 1) T.cMap T.mMapMoment G1 hr b1 .nil pass0 (pa_cons (pe_ix ix_tup (pv 2) pe_int (fun _ _ => rfl)) pa_nil)) (pa_cons (pe_slice sl_tup (pv 2) (po_some pe_int) po_none) pa_nil)))))), ?_⟩), F.bindsN fun _ _ _ _ _ _ us hl => match us, hl with | [_, _], _ => rfl, F.kp⟩
  · obtain ⟨l, o, beat, qs, es, rfl, _⟩ := h
    rfl
  · obtain ⟨l, o, beat, qs, es, rfl, hl, he, hlen, htk, hM, M, q⟩ := h
    have big : sizeLine > 1000 := by decide
    refine ⟨_, rfl, l, rfl, ⟨_, SqL.of hl⟩, fun D nD => ?_⟩
    refine lc_list (xs := refs es) (fun i H' => Same H H' ∧ ∃ rows : List Row, H' D = some (.lst (refs rows)) ∧ RL H' rows ∧ rows.map (fun x => x.2.2.2) = (es.take i).map (fun e => (momF beat qs e.2.1, e.2.2)))
      ⟨Same.new nD, [], upd_same, RL.nil, rfl⟩ (fun i H' _ h => SqL.of (h.1 _ _ hl)) ?_ ?_
    · rintro i x H1 hx ⟨s1, rows, h1, h2, h3⟩
      obtain ⟨z, hz, rfl⟩ := refs_get hx
      have zm := List.mem_of_getElem? hz
      have hz1 := s1 _ _ (he z zm)
      obtain ⟨dx, d, ps, ho, hd, hp⟩ := id (hM.same s1)
      refine ⟨rfl, _, rfl, o, dx, _, rfl, ho, rfl, _, rfl, z.1, _, _, _, rfl, rfl, SqT.of hz1, at0, o, beat, z.2.1, qs, rfl, (htk z zm).1, (htk z zm).2, hM.same s1, M, fun H2 m s2 hm => ?_⟩
      refine ⟨_, rfl, 1, rfl, z.1, _, rfl, SqT.of (s2 _ _ hz1), fun w => ?_, fun u nu => ?_⟩
      · have := whole1 w.1
        exact absurd this (by unfold evV; intro q; cases q)
      · have ec : cutV (evV z.2) (some 1) none = thV z.2.2 := by rw [cut1]; rfl
        rw [ec]
        refine ⟨by show 2 ≤ sizeLine; decide, fun v nv => ?_⟩
        have s3 : Same H2 (upd H2 u (.tup (thV z.2.2))) := Same.new nu
        have s4 : Same H2 (upd (upd H2 u (.tup (thV z.2.2))) v (.tup [.ref m, .ref u])) := s3.add nv
        have s14 := s2.trans s4
        have vD : v ≠ D := fun e => by rw [e, s3 _ _ (s2 _ _ h1)] at nv; cases nv
        have uv : u ≠ v := ne_of_none upd_same nv
        refine ⟨_, s14 _ _ h1, ?_, (s1.trans s14).put nD, rows ++ [(v, m, u, momF beat qs z.2.1, z.2.2)], ?_, ?_, ?_⟩
        · have := congrArg List.length h3
          rw [List.length_map, List.length_map, List.length_take] at this
          rw [refs_len]; omega
        · rw [upd_same, refs_app]; rfl
        · intro y hy
          have nD' : ∀ {b : Addr} {xs : List V}, upd (upd H2 u (.tup (thV z.2.2))) v (.tup [.ref m, .ref u]) b = some (.tup xs) → upd (upd (upd H2 u (.tup (thV z.2.2))) v (.tup [.ref m, .ref u])) D (.lst (refs rows ++ [.ref v])) b = some (.tup xs) := fun e => by rw [upd_ne (ne_of e (s14 _ _ h1) (by intro z; cases z))]; exact e
          rcases List.mem_append.mp hy with hy | hy
          · obtain ⟨a1, a2, a3⟩ := h2 y hy
            exact ⟨nD' (s14 _ _ a1), nD' (s14 _ _ a2), nD' (s14 _ _ a3)⟩
          · rw [List.mem_singleton.mp hy]
            exact ⟨nD' upd_same, nD' (s4 _ _ hm), nD' (by rw [upd_ne uv, upd_same])⟩
        · rw [List.map_append, h3, take_snoc hz, List.map_append]; rfl
    · rintro H1 ⟨s1, rows, h1, h2, h3⟩
      rw [refs_len, List.take_length] at h3
      exact q H1 D rows s1 h1 h2 h3
theorem scNextMoment : FnScope ["rows", "others"] ["rows", "others"] (defScope sNextMoment) := ⟨rfl, rfl, rfl, by decide +kernel, rfl, by decide +kernel, by decide +kernel⟩
def headA (rows others : List Row) : Addr × (Int × Int) := match rows, others with
  | [], [] => (0, (0, 0))
  | r :: _, [] => (r.2.1, r.2.2.2.1)
  | [], o :: _ => (o.2.1, o.2.2.2.1)
  | r :: _, o :: _ => if o.2.2.2.1.1 * r.2.2.2.1.2 < r.2.2.2.1.1 * o.2.2.2.1.2 then (o.2.1, o.2.2.2.1) else (r.2.1, r.2.2.2.1)
def BdR (rows : List Row) : Prop := ∀ x ∈ rows, -(2 ^ 64) < x.2.2.2.1.2 ∧ x.2.2.2.1.2 < 2 ^ 64
def spNext : Sp := fun vs H Q _ => ∃ (a b : Addr) (rows others : List Row), vs = [.ref a, .ref b] ∧ H a = some (.lst (refs rows)) ∧ H b = some (.lst (refs others)) ∧ RL H rows ∧ RL H others ∧ BdR rows ∧ BdR others ∧ (rows ≠ [] ∨ others ≠ []) ∧ rows.length ≤ 100 ∧ others.length ≤ 100 ∧
  ∀ (H' : Hp), Same H H' → Q (.ref (headA rows others).1) H'
theorem ok_next (T : Txt K mg w) : Has P w K mg base 2 (gA K "next_moment") ["rows", "others"] spNext := by
  obtain ⟨fd, F⟩ := T.fNextMoment
  obtain ⟨f1, G1, b1, k1⟩ := ok_ahead_of (P := P) (base := base) T
  have nd := scNextMoment.nd
  refine ⟨fd, F.ok scNextMoment (fun vs H Q E h => ?_) (fun cdv A outer s H vs Q E hr h => ⟨_, PSs.nox (pss_cons (ps_if (PW.pt (pw_or (pt_cmpR (op_eqNil hr.units0) (pv 0) (pe_lst pa_nil) (nomark _)) (pw_or1 (pt_cmpR (op_eqNil hr.units0) (pv 1) (pe_lst pa_nil) (nomark _)))))
        (pss_one (ps_ret (pe_ix ix_tup (pe_ix ix_list (pe_op op_cat (pv 0) (pv 1)) pe_int (fun _ _ => rfl)) pe_int (fun _ _ => rfl)))) pss_nil)
      (pss_one (ps_ret (pe_ifExp (pt_val (pe_call G1 hr (by rfl) T.gAheadOf k1 b1 .nil pass0 (pa_cons (pe_ix ix_tup (pe_ix ix_list (pv 1) pe_int (fun _ _ => rfl)) pe_int (fun _ _ => rfl)) (pa_cons (pe_ix ix_tup (pe_ix ix_list (pv 0) pe_int (fun _ _ => rfl)) pe_int (fun _ _ => rfl)) pa_nil))))
        (pe_ix ix_tup (pe_ix ix_list (pv 1) pe_int (fun _ _ => rfl)) pe_int (fun _ _ => rfl)) (pe_ix ix_tup (pe_ix ix_list (pv 0) pe_int (fun _ _ => rfl)) pe_int (fun _ _ => rfl)))))), ?_⟩), F.bindsN fun _ _ _ _ _ _ us hl => match us, hl with | [_, _], _ => rfl, F.kp⟩
  · obtain ⟨a, b, rows, others, rfl, _⟩ := h
    rfl
  · obtain ⟨a, b, rows, others, rfl, ha, hb, hR, hO, bR, bO, hne, l1, l2, q⟩ := h
    have big : sizeLine > 1000 := by decide
    refine ⟨_, rfl, by show 0 ≤ sizeLine; decide, fun e1 n1 => ?_⟩
    have s1 : Same H (upd H e1 (.lst [])) := Same.new n1
    refine ⟨a, _, e1, rfl, SqL.of (s1 _ _ ha), rfl, SqL.of upd_same, _, rfl, ?_⟩
    have first : ∀ (H1 : Hp), Same H H1 → (rows = [] ∨ others = []) → tOp (rIxT K) (tOp (rIxL K) (tOp rCat (tVar 0) (tVar 1)) (tC (.int 0))) (tC (.int 0)) [some (.ref a), some (.ref b)] H1 Q := fun H1 sm h => by
      obtain ⟨y, r, er, eh⟩ : ∃ y r, rows ++ others = y :: r ∧ (headA rows others).1 = y.2.1 := by
        rcases h with h | h
        · subst h
          cases others with
          | nil => exact absurd hne (by simp)
          | cons y r => exact ⟨y, r, rfl, rfl⟩
        · subst h
          cases rows with
          | nil => exact absurd hne (by simp)
          | cons y r => exact ⟨y, r, by simp, rfl⟩
      have hy : RL H1 (rows ++ others) := fun x hx => by
        rcases List.mem_append.mp hx with hx | hx
        · exact hR.same sm x hx
        · exact hO.same sm x hx
      obtain ⟨y1, y2, y3⟩ := hy y (by rw [er]; exact List.mem_cons_self)
      refine ⟨_, rfl, _, rfl, a, b, _, _, rfl, rfl, sm _ _ ha, sm _ _ hb, by rw [refs_len, refs_len]; omega, fun p np => ?_⟩
      refine ⟨p, _, _, V.ref y.1, rfl, rfl, SqL.of upd_same, by rw [← refs_app, er]; exact at0, y.1, _, _, _, rfl, rfl, SqT.of (by rw [upd_ne (ne_of_none y1 np)]; exact y1), at0, ?_⟩
      rw [← eh]
      exact q _ (sm.add np)
    cases rows with
    | nil => exact iteT (first _ s1 (.inl rfl))
    | cons r rr =>
      refine iteF ⟨_, rfl, by show 0 ≤ sizeLine; decide, fun e2 n2 => ?_⟩
      have s2 := s1.add (o := .lst []) n2
      refine ⟨b, _, e2, rfl, SqL.of (s2 _ _ hb), rfl, SqL.of upd_same, _, rfl, ?_⟩
      cases others with
      | nil => exact iteT (first _ s2 (.inr rfl))
      | cons o oo =>
        refine iteF ?_
        obtain ⟨r1, r2, r3⟩ := (hR.same s2) r List.mem_cons_self
        obtain ⟨o1, o2, o3⟩ := (hO.same s2) o List.mem_cons_self
        refine ⟨_, rfl, b, _, _, _, rfl, rfl, SqL.of (s2 _ _ hb), at0, o.1, _, _, _, rfl, rfl, SqT.of o1, at0, ?_⟩
        refine ⟨_, rfl, a, _, _, _, rfl, rfl, SqL.of (s2 _ _ ha), at0, r.1, _, _, _, rfl, rfl, SqT.of r1, at0, ?_⟩
        refine ⟨_, _, _, _, rfl, SqT.of o2, SqT.of r2, (bO o List.mem_cons_self).1, (bO o List.mem_cons_self).2, (bR r List.mem_cons_self).1, (bR r List.mem_cons_self).2, _, rfl, ?_⟩
        have qq := q _ s2
        refine ite2 (fun hc => ?_) (fun hc => ?_)
        · have e : (headA (r :: rr) (o :: oo)).1 = o.2.1 := by
            show (if _ then _ else _ : Addr × (Int × Int)).1 = _
            rw [if_pos (of_decide_eq_true hc)]
          rw [e] at qq
          exact ⟨_, rfl, b, _, _, _, rfl, rfl, SqL.of (s2 _ _ hb), at0, o.1, _, _, _, rfl, rfl, SqT.of o1, at0, qq⟩
        · have e : (headA (r :: rr) (o :: oo)).1 = r.2.1 := by
            show (if _ then _ else _ : Addr × (Int × Int)).1 = _
            rw [if_neg (fun z => hc (decide_eq_true z))]
          rw [e] at qq
          exact ⟨_, rfl, a, _, _, _, rfl, rfl, SqL.of (s2 _ _ ha), at0, r.1, _, _, _, rfl, rfl, SqT.of r1, at0, qq⟩
end
end L2.RK
namespace L2.RK
open PySem PySem.Spec PyProof.Rows
/-! unlike -/
abbrev MT : Type := (Int × Int) × Th
def appS (S : Snd) (l : List MT) : Snd := l.foldl (fun S x => stepS S x.2) S
def headM (xs ys : List MT) : Int × Int := match xs, ys with
  | [], [] => (0, 0)
  | r :: _, [] => r.1
  | [], o :: _ => o.1
  | r :: _, o :: _ => if o.1.1 * r.1.2 < r.1.1 * o.1.2 then o.1 else r.1
def atM (m : Int × Int) (x : MT) : Bool := decide (x.1 = m)
inductive Run : List MT → List MT → Snd → Snd → Option ((Int × Int) × Nat × Nat) → Prop
  | done {S S' : Snd} : Run [] [] S S' none
  | same {xs ys : List MT} {S S' : Snd} {r : Option ((Int × Int) × Nat × Nat)} : (xs ≠ [] ∨ ys ≠ []) → appS S (xs.takeWhile (atM (headM xs ys))) = appS S' (ys.takeWhile (atM (headM xs ys))) →
      Run (xs.dropWhile (atM (headM xs ys))) (ys.dropWhile (atM (headM xs ys))) (appS S (xs.takeWhile (atM (headM xs ys)))) (appS S' (ys.takeWhile (atM (headM xs ys)))) r → Run xs ys S S' r
  | diff {xs ys : List MT} {S S' : Snd} : (xs ≠ [] ∨ ys ≠ []) → (sndL (appS S (xs.takeWhile (atM (headM xs ys))))).length ≠ (sndL (appS S' (ys.takeWhile (atM (headM xs ys))))).length →
      Run xs ys S S' (some (headM xs ys, (sndL (appS S (xs.takeWhile (atM (headM xs ys))))).length, (sndL (appS S' (ys.takeWhile (atM (headM xs ys))))).length))
theorem Run.step {xs ys : List MT} {S S' : Snd} {r : Option ((Int × Int) × Nat × Nat)} (h : Run xs ys S S' r) (hne : xs ≠ [] ∨ ys ≠ []) :
    (appS S (xs.takeWhile (atM (headM xs ys))) = appS S' (ys.takeWhile (atM (headM xs ys))) ∧ Run (xs.dropWhile (atM (headM xs ys))) (ys.dropWhile (atM (headM xs ys))) (appS S (xs.takeWhile (atM (headM xs ys)))) (appS S' (ys.takeWhile (atM (headM xs ys)))) r) ∨
    ((sndL (appS S (xs.takeWhile (atM (headM xs ys))))).length ≠ (sndL (appS S' (ys.takeWhile (atM (headM xs ys))))).length ∧ r = some (headM xs ys, (sndL (appS S (xs.takeWhile (atM (headM xs ys))))).length, (sndL (appS S' (ys.takeWhile (atM (headM xs ys))))).length)) := by
  cases h with
  | done => exact absurd hne (by simp)
  | same _ h1 h2 => exact .inl ⟨h1, h2⟩
  | diff _ h1 => exact .inr ⟨h1, rfl⟩
theorem Run.end_ {S S' : Snd} {r : Option ((Int × Int) × Nat × Nat)} (h : Run [] [] S S' r) : r = none := by
  cases h with
  | done => rfl
  | same h _ _ => exact absurd h (by simp)
  | diff h _ => exact absurd h (by simp)
def mt (x : Row) : MT := x.2.2.2
theorem headA_mt {rows others : List Row} : (headA rows others).2 = headM (rows.map mt) (others.map mt) := by
  cases rows with
  | nil => cases others <;> rfl
  | cons r rr =>
    cases others with
    | nil => rfl
    | cons o oo =>
      show (if _ then _ else _ : Addr × (Int × Int)).2 = if _ then _ else _
      by_cases h : o.2.2.2.1.1 * r.2.2.2.1.2 < r.2.2.2.1.1 * o.2.2.2.1.2
      · rw [if_pos h, if_pos (show (mt o).1.1 * (mt r).1.2 < (mt r).1.1 * (mt o).1.2 from h)]; rfl
      · rw [if_neg h, if_neg (show ¬ (mt o).1.1 * (mt r).1.2 < (mt r).1.1 * (mt o).1.2 from h)]; rfl
theorem headA_at {H : Hp} {rows others : List Row} (h1 : RL H rows) (h2 : RL H others) (hne : rows ≠ [] ∨ others ≠ []) : H (headA rows others).1 = some (.tup (MomV (headA rows others).2)) := by
  cases rows with
  | nil =>
    cases others with
    | nil => exact absurd hne (by simp)
    | cons o oo => exact (h2 o List.mem_cons_self).2.1
  | cons r rr =>
    cases others with
    | nil => exact (h1 r List.mem_cons_self).2.1
    | cons o oo =>
      show H (if _ then _ else _ : Addr × (Int × Int)).1 = some (.tup (MomV (if _ then _ else _ : Addr × (Int × Int)).2))
      by_cases h : o.2.2.2.1.1 * r.2.2.2.1.2 < r.2.2.2.1.1 * o.2.2.2.1.2
      · rw [if_pos h]; exact (h2 o List.mem_cons_self).2.1
      · rw [if_neg h]; exact (h1 r List.mem_cons_self).2.1
/-- the loop's step takes something -/
theorem head_takes {xs ys : List MT} (h : xs ≠ [] ∨ ys ≠ []) : (xs.dropWhile (atM (headM xs ys))).length + (ys.dropWhile (atM (headM xs ys))).length < xs.length + ys.length := by
  have le : ∀ (m : Int × Int) (l : List MT), (l.dropWhile (atM m)).length ≤ l.length := fun m l => by
    induction l with
    | nil => exact Nat.le_refl _
    | cons x r ih =>
      rw [List.dropWhile_cons]
      split
      · rw [List.length_cons]; omega
      · exact Nat.le_refl _
  have lt : ∀ (m : Int × Int) (x : MT) (l : List MT), x.1 = m → ((x :: l).dropWhile (atM m)).length < (x :: l).length := fun m x l e => by
    rw [List.dropWhile_cons, if_pos (by unfold atM; exact decide_eq_true e), List.length_cons]
    have := le m l; omega
  cases xs with
  | nil =>
    cases ys with
    | nil => exact absurd h (by simp)
    | cons y r =>
      have := lt (headM [] (y :: r)) y r rfl
      simp only [List.dropWhile_nil, List.length_nil]; omega
  | cons x r =>
    cases ys with
    | nil =>
      have := lt (headM (x :: r) []) x r rfl
      simp only [List.dropWhile_nil, List.length_nil]; omega
    | cons y s =>
      by_cases hc : y.1.1 * x.1.2 < x.1.1 * y.1.2
      · have e : headM (x :: r) (y :: s) = y.1 := if_pos hc
        have h1 := le (headM (x :: r) (y :: s)) (x :: r)
        have h2 := lt (headM (x :: r) (y :: s)) y s e.symm
        omega
      · have e : headM (x :: r) (y :: s) = x.1 := if_neg hc
        have h1 := lt (headM (x :: r) (y :: s)) x r e.symm
        have h2 := le (headM (x :: r) (y :: s)) (y :: s)
        omega
theorem pair_eqv (a b : Int × Int) : PyData.eqv (pairD a) (pairD b) = decide (a = b) := by
  unfold pairD
  simp only [PyData.eqv, PyData.eqvAll, Bool.and_true]
  rw [Bool.eq_iff_iff]
  simp [Prod.ext_iff]
theorem pair_shaped (a : Int × Int) : SeqAt.shaped (pairD a) = true := by
  unfold SeqAt.shaped pairD
  simp [PyData.canLay0, PyData.canLayAll0, PyData.depth, PyData.depthAll]
theorem dp_pair {K : PySem.W.Frag} {H : Hp} {a : Addr} {m : Int × Int} (h : H a = some (.tup (MomV m))) : Dp K H (.ref a) (pairD m) := .tup (SqT.of h) (.cons (.int _) (.cons (.int _) .nil))
structure US (K : PySem.W.Frag) (H0 H : Hp) (a b p1 p2 : Addr) (rows others : List Row) (S S' : Snd) : Prop where
  sm : Same H0 H
  ha : H a = some (.lst (refs rows))
  hb : H b = some (.lst (refs others))
  r1 : RL H rows
  r2 : RL H others
  b1 : BdR rows
  b2 : BdR others
  t1 : ∀ x ∈ rows, ThOk x.2.2.2.2
  t2 : ∀ x ∈ others, ThOk x.2.2.2.2
  s1 : ∃ n, StandAt K H p1 S n ∧ n + rows.length ≤ 60
  s2 : ∃ n, StandAt K H p2 S' n ∧ n + others.length ≤ 60
theorem US.same {K : PySem.W.Frag} {H0 H H' : Hp} {a b p1 p2 : Addr} {rows others : List Row} {S S' : Snd} (u : US K H0 H a b p1 p2 rows others S S') (e : Same H H') : US K H0 H' a b p1 p2 rows others S S' :=
  ⟨u.sm.trans e, e _ _ u.ha, e _ _ u.hb, u.r1.same e, u.r2.same e, u.b1, u.b2, u.t1, u.t2, let ⟨n, x, y⟩ := u.s1; ⟨n, x.same e, y⟩, let ⟨n, x, y⟩ := u.s2; ⟨n, x.same e, y⟩⟩
theorem in1 {X : Cx} {D : Ends} {H0 H : Hp} {vt vo vt' vo' : Option V} {a b p1 p2 pm : Addr} {rows others : List Row} {S S' : Snd} {x9 x10 : Option V} {m : Int × Int} (U : US X.K H0 H a b p1 p2 rows others S S') (hpm : H pm = some (.tup (MomV m)))
    (hd : ∀ (a' p' : Addr) (rows' : List Row) (Z : Snd) (z9 z10 : Option V) (H' : Hp), US X.K H0 H' a' b p' p2 rows' others Z S' → H' pm = some (.tup (MomV m)) → Z = appS S ((rows.map mt).takeWhile (atM m)) → rows'.map mt = (rows.map mt).dropWhile (atM m) → D.nx [vt, vo, vt', vo', some (.ref a'), some (.ref b), some (.ref p'), some (.ref p2), some (.ref pm), z9, z10] H') :
    tWhile (tAnd (tTest (tOp (rNeNil (X := X)) (tVar 4) (tLst tNil))) (tTest (tOp (rEqD X.K) (tOp (rIxT X.K) (tOp (rIxL X.K) (tVar 4) (tC (.int 0))) (tC (.int 0))) (tVar 8))))
      (tSeq (tAsg (tVar 4) (gStar X.K 1 (gCons (gTup X.K 2 (gCons (gName 9) (gCons (gName 10) gNil))) (gCons (gName 4) gNil)))) (tAsg (tMeth (gA X.K "Stand") "after" (spAfter X.K) [] E0 (tVar 6) (tCons (tVar 10) tNil)) (gName 6)))
      D [vt, vo, vt', vo', some (.ref a), some (.ref b), some (.ref p1), some (.ref p2), some (.ref pm), x9, x10] H := by
  refine ⟨fun k σ H' => ∃ (a' p' : Addr) (rows' : List Row) (Z : Snd) (z9 z10 : Option V), σ = [vt, vo, vt', vo', some (.ref a'), some (.ref b), some (.ref p'), some (.ref p2), some (.ref pm), z9, z10] ∧ US X.K H0 H' a' b p' p2 rows' others Z S' ∧ H' pm = some (.tup (MomV m)) ∧ appS Z ((rows'.map mt).takeWhile (atM m)) = appS S ((rows.map mt).takeWhile (atM m)) ∧ (rows'.map mt).dropWhile (atM m) = (rows.map mt).dropWhile (atM m) ∧ k = rows'.length, ⟨_, a, p1, rows, S, _, _, rfl, U, hpm, rfl, rfl, rfl⟩, ?_⟩
  rintro k σ H1 ⟨a', p', rs, Z, z9, z10, rfl, V1, hpm1, hT, hDw, rfl⟩
  have big : sizeLine > 1000 := by decide
  refine ⟨_, rfl, by show 0 ≤ sizeLine; decide, fun e1 n1 => ?_⟩
  have s1 : Same H1 (upd H1 e1 (.lst [])) := Same.new n1
  refine ⟨a', _, e1, rfl, SqL.of (s1 _ _ V1.ha), rfl, SqL.of upd_same, _, rfl, ?_⟩
  replace V1 := V1.same s1
  replace hpm1 := s1 _ _ hpm1
  generalize upd H1 e1 (.lst []) = H2 at *
  have stop : (rs.map mt).takeWhile (atM m) = [] → Z = appS S ((rows.map mt).takeWhile (atM m)) ∧ rs.map mt = (rows.map mt).dropWhile (atM m) := fun h => by
    rw [h] at hT
    refine ⟨hT, ?_⟩
    rw [← hDw]
    have := List.takeWhile_append_dropWhile (p := atM m) (l := rs.map mt)
    rw [h, List.nil_append] at this
    exact this.symm
  cases rs with
  | nil =>
    obtain ⟨e1, e2⟩ := stop rfl
    exact iteF (iteF (hd _ _ _ _ _ _ _ V1 hpm1 e1 e2))
  | cons y rr =>
    refine iteT ?_
    obtain ⟨y1, y2, y3⟩ := V1.r1 y List.mem_cons_self
    refine ⟨_, rfl, a', _, _, _, rfl, rfl, SqL.of V1.ha, at0, y.1, _, _, _, rfl, rfl, SqT.of y1, at0, _, rfl, pairD y.2.2.2.1, pairD m, dp_pair y2, dp_pair hpm1, pair_shaped _, pair_shaped _, _, rfl, ?_⟩
    rw [pair_eqv]
    refine ite2 (fun hc => ?_) (fun hc => ?_)
    · have hm : y.2.2.2.1 = m := of_decide_eq_true hc
      have hy : atM m (mt y) = true := decide_eq_true hm
      refine ⟨_, fun σ' H' h => ⟨_, Nat.lt_succ_self rr.length, h⟩, ?_⟩
      refine ⟨_, rfl, a', _, rfl, .inr (SqL.of V1.ha), by show 1 ≤ (refs rr).length + 1; omega, fun D nD => ?_⟩
      have s4 : Same H2 (upd H2 D (.lst (refs rr))) := Same.new nD
      obtain ⟨nn, st, hnn⟩ := V1.s1
      obtain ⟨dx, r, t, c, rk, tk, ck, R, _⟩ := id (st.same s4)
      refine ⟨_, _, rfl, y.1, _, rfl, SqT.of (s4 _ _ y1), rfl, _, _, rfl, _, _, rfl, rfl, _, _, rfl, rfl, ?_⟩
      refine ⟨_, rfl, p', dx, _, rfl, R.ins, rfl, _, rfl, p', y.2.2.1, Z, nn, y.2.2.2.2, rfl, st.same s4, by rw [List.length_cons] at hnn; omega, s4 _ _ y3, V1.t1 y List.mem_cons_self, fun H3 p3 s6 st3 => ?_⟩
      have s6' : Same H2 H3 := s4.trans s6
      have hT' : appS (stepS Z y.2.2.2.2) ((rr.map mt).takeWhile (atM m)) = appS S ((rows.map mt).takeWhile (atM m)) := by
        rw [← hT, List.map_cons, List.takeWhile_cons, if_pos hy]; rfl
      have hD' : (rr.map mt).dropWhile (atM m) = (rows.map mt).dropWhile (atM m) := by
        rw [← hDw, List.map_cons, List.dropWhile_cons, if_pos hy]
      exact ⟨D, p3, rr, stepS Z y.2.2.2.2, _, _, rfl, ⟨V1.sm.trans s6', s6 _ _ upd_same, s6' _ _ V1.hb, fun x hx => (V1.r1.same s6') x (List.mem_cons_of_mem _ hx), V1.r2.same s6', fun x hx => V1.b1 x (List.mem_cons_of_mem _ hx), V1.b2, fun x hx => V1.t1 x (List.mem_cons_of_mem _ hx), V1.t2, ⟨nn + 1, st3, by rw [List.length_cons] at hnn; omega⟩, let ⟨n, x, y⟩ := V1.s2; ⟨n, x.same s6', y⟩⟩, s6' _ _ hpm1, hT', hD', rfl⟩
    · have hm : ¬ atM m (mt y) = true := hc
      obtain ⟨e1, e2⟩ := stop (by rw [List.map_cons, List.takeWhile_cons, if_neg hm])
      exact hd _ _ _ _ _ _ _ V1 hpm1 e1 e2
theorem in2 {X : Cx} {D : Ends} {H0 H : Hp} {vt vo vt' vo' : Option V} {a b p1 p2 pm : Addr} {rows others : List Row} {S S' : Snd} {x9 x10 : Option V} {m : Int × Int} (U : US X.K H0 H a b p1 p2 rows others S S') (hpm : H pm = some (.tup (MomV m)))
    (hd : ∀ (a' p' : Addr) (rows' : List Row) (Z : Snd) (z9 z10 : Option V) (H' : Hp), US X.K H0 H' a a' p1 p' rows rows' S Z → H' pm = some (.tup (MomV m)) → Z = appS S' ((others.map mt).takeWhile (atM m)) → rows'.map mt = (others.map mt).dropWhile (atM m) → D.nx [vt, vo, vt', vo', some (.ref a), some (.ref a'), some (.ref p1), some (.ref p'), some (.ref pm), z9, z10] H') :
    tWhile (tAnd (tTest (tOp (rNeNil (X := X)) (tVar 5) (tLst tNil))) (tTest (tOp (rEqD X.K) (tOp (rIxT X.K) (tOp (rIxL X.K) (tVar 5) (tC (.int 0))) (tC (.int 0))) (tVar 8))))
      (tSeq (tAsg (tVar 5) (gStar X.K 1 (gCons (gTup X.K 2 (gCons (gName 9) (gCons (gName 10) gNil))) (gCons (gName 5) gNil)))) (tAsg (tMeth (gA X.K "Stand") "after" (spAfter X.K) [] E0 (tVar 7) (tCons (tVar 10) tNil)) (gName 7)))
      D [vt, vo, vt', vo', some (.ref a), some (.ref b), some (.ref p1), some (.ref p2), some (.ref pm), x9, x10] H := by
  refine ⟨fun k σ H' => ∃ (a' p' : Addr) (rows' : List Row) (Z : Snd) (z9 z10 : Option V), σ = [vt, vo, vt', vo', some (.ref a), some (.ref a'), some (.ref p1), some (.ref p'), some (.ref pm), z9, z10] ∧ US X.K H0 H' a a' p1 p' rows rows' S Z ∧ H' pm = some (.tup (MomV m)) ∧ appS Z ((rows'.map mt).takeWhile (atM m)) = appS S' ((others.map mt).takeWhile (atM m)) ∧ (rows'.map mt).dropWhile (atM m) = (others.map mt).dropWhile (atM m) ∧ k = rows'.length, ⟨_, b, p2, others, S', _, _, rfl, U, hpm, rfl, rfl, rfl⟩, ?_⟩
  rintro k σ H1 ⟨a', p', rs, Z, z9, z10, rfl, V1, hpm1, hT, hDw, rfl⟩
  have big : sizeLine > 1000 := by decide
  refine ⟨_, rfl, by show 0 ≤ sizeLine; decide, fun e1 n1 => ?_⟩
  have s1 : Same H1 (upd H1 e1 (.lst [])) := Same.new n1
  refine ⟨a', _, e1, rfl, SqL.of (s1 _ _ V1.hb), rfl, SqL.of upd_same, _, rfl, ?_⟩
  replace V1 := V1.same s1
  replace hpm1 := s1 _ _ hpm1
  generalize upd H1 e1 (.lst []) = H2 at *
  have stop : (rs.map mt).takeWhile (atM m) = [] → Z = appS S' ((others.map mt).takeWhile (atM m)) ∧ rs.map mt = (others.map mt).dropWhile (atM m) := fun h => by
    rw [h] at hT
    refine ⟨hT, ?_⟩
    rw [← hDw]
    have := List.takeWhile_append_dropWhile (p := atM m) (l := rs.map mt)
    rw [h, List.nil_append] at this
    exact this.symm
  cases rs with
  | nil =>
    obtain ⟨e1, e2⟩ := stop rfl
    exact iteF (iteF (hd _ _ _ _ _ _ _ V1 hpm1 e1 e2))
  | cons y rr =>
    refine iteT ?_
    obtain ⟨y1, y2, y3⟩ := V1.r2 y List.mem_cons_self
    refine ⟨_, rfl, a', _, _, _, rfl, rfl, SqL.of V1.hb, at0, y.1, _, _, _, rfl, rfl, SqT.of y1, at0, _, rfl, pairD y.2.2.2.1, pairD m, dp_pair y2, dp_pair hpm1, pair_shaped _, pair_shaped _, _, rfl, ?_⟩
    rw [pair_eqv]
    refine ite2 (fun hc => ?_) (fun hc => ?_)
    · have hm : y.2.2.2.1 = m := of_decide_eq_true hc
      have hy : atM m (mt y) = true := decide_eq_true hm
      refine ⟨_, fun σ' H' h => ⟨_, Nat.lt_succ_self rr.length, h⟩, ?_⟩
      refine ⟨_, rfl, a', _, rfl, .inr (SqL.of V1.hb), by show 1 ≤ (refs rr).length + 1; omega, fun D nD => ?_⟩
      have s4 : Same H2 (upd H2 D (.lst (refs rr))) := Same.new nD
      obtain ⟨nn, st, hnn⟩ := V1.s2
      obtain ⟨dx, r, t, c, rk, tk, ck, R, _⟩ := id (st.same s4)
      refine ⟨_, _, rfl, y.1, _, rfl, SqT.of (s4 _ _ y1), rfl, _, _, rfl, _, _, rfl, rfl, _, _, rfl, rfl, ?_⟩
      refine ⟨_, rfl, p', dx, _, rfl, R.ins, rfl, _, rfl, p', y.2.2.1, Z, nn, y.2.2.2.2, rfl, st.same s4, by rw [List.length_cons] at hnn; omega, s4 _ _ y3, V1.t2 y List.mem_cons_self, fun H3 p3 s6 st3 => ?_⟩
      have s6' : Same H2 H3 := s4.trans s6
      have hT' : appS (stepS Z y.2.2.2.2) ((rr.map mt).takeWhile (atM m)) = appS S' ((others.map mt).takeWhile (atM m)) := by
        rw [← hT, List.map_cons, List.takeWhile_cons, if_pos hy]; rfl
      have hD' : (rr.map mt).dropWhile (atM m) = (others.map mt).dropWhile (atM m) := by
        rw [← hDw, List.map_cons, List.dropWhile_cons, if_pos hy]
      exact ⟨D, p3, rr, stepS Z y.2.2.2.2, _, _, rfl, ⟨V1.sm.trans s6', s6' _ _ V1.ha, s6 _ _ upd_same, V1.r1.same s6', fun x hx => (V1.r2.same s6') x (List.mem_cons_of_mem _ hx), V1.b1, fun x hx => V1.b2 x (List.mem_cons_of_mem _ hx), V1.t1, fun x hx => V1.t2 x (List.mem_cons_of_mem _ hx), let ⟨n, x, y⟩ := V1.s1; ⟨n, x.same s6', y⟩, ⟨nn + 1, st3, by rw [List.length_cons] at hnn; omega⟩⟩, s6' _ _ hpm1, hT', hD', rfl⟩
    · have hm : ¬ atM m (mt y) = true := hc
      obtain ⟨e1, e2⟩ := stop (by rw [List.map_cons, List.takeWhile_cons, if_neg hm])
      exact hd _ _ _ _ _ _ _ V1 hpm1 e1 e2
theorem or_ne {X : Cx} {H : Hp} {σ : St} {a b : Addr} {rows others : List Row} {G1 G2 : Hp → Prop} (h4 : σ[4]? = some (some (.ref a))) (h5 : σ[5]? = some (some (.ref b))) (ha : H a = some (.lst (refs rows))) (hb : H b = some (.lst (refs others)))
    (h1 : rows ≠ [] ∨ others ≠ [] → ∀ H1, Same H H1 → G1 H1) (h2 : rows = [] → others = [] → ∀ H1, Same H H1 → G2 H1) :
    tOr (tTest (tOp (rNeNil (X := X)) (tVar 4) (tLst tNil))) (tTest (tOp (rNeNil (X := X)) (tVar 5) (tLst tNil))) σ H (fun b H1 => if b = true then G1 H1 else G2 H1) := by
  refine ⟨_, h4, by show 0 ≤ sizeLine; decide, fun e1 n1 => ?_⟩
  have s1 : Same H (upd H e1 (.lst [])) := Same.new n1
  refine ⟨a, _, e1, rfl, SqL.of (s1 _ _ ha), rfl, SqL.of upd_same, _, rfl, ?_⟩
  cases rows with
  | cons y rr => exact iteT (iteT (h1 (.inl (by simp)) _ s1))
  | nil =>
    refine iteF ⟨_, h5, by show 0 ≤ sizeLine; decide, fun e2 n2 => ?_⟩
    have s2 := s1.add (o := .lst []) n2
    refine ⟨b, _, e2, rfl, SqL.of (s2 _ _ hb), rfl, SqL.of upd_same, _, rfl, ?_⟩
    cases others with
    | cons y rr => exact iteT (h1 (.inr (by simp)) _ s2)
    | nil => exact iteF (h2 rfl rfl _ s2)
section
variable {P : Program} {w : World} {K : PySem.W.Frag} {mg : Str → Option Value} {base : Heap}
abbrev nUnlike : List Str := ["track", "own", "other", "theirs", "rows", "others", "mine", "yours", "moment", "when", "thing"]
theorem scUnlike : FnScope nUnlike ["track", "own", "other", "theirs"] (defScope sUnlike) := ⟨rfl, rfl, rfl, by decide +kernel, rfl, by decide +kernel, by decide +kernel⟩
def spUnlike (K : PySem.W.Frag) : Sp := fun vs H Q _ => ∃ (t o t' o' : Addr) (beat beat' : Int) (qs qs' : List (Int × Int)) (es es' : List (Addr × Ev)) (r : Option ((Int × Int) × Nat × Nat)), vs = [.ref t, .ref o, .ref t', .ref o'] ∧
  H t = some (.lst (refs es)) ∧ TL evV H es ∧ es.length ≤ 40 ∧ (∀ e ∈ es, 0 ≤ e.2.1 ∧ e.2.1 ≤ 999999 ∧ ThOk e.2.2) ∧ MapAt K H o beat qs ∧ MapOk beat qs ∧
  H t' = some (.lst (refs es')) ∧ TL evV H es' ∧ es'.length ≤ 40 ∧ (∀ e ∈ es', 0 ≤ e.2.1 ∧ e.2.1 ≤ 999999 ∧ ThOk e.2.2) ∧ MapAt K H o' beat' qs' ∧ MapOk beat' qs' ∧
  Run (es.map fun e => (momF beat qs e.2.1, e.2.2)) (es'.map fun e => (momF beat' qs' e.2.1, e.2.2)) Snd.none Snd.none r ∧
  ∀ H', Same H H' → match r with
    | none => Q .non H'
    | some (m, n1, n2) => ∀ (p pm p1 p2 : Addr) (S1 S2 : Snd) (k1 k2 : Nat), H' p = some (.tup [.ref pm, .ref p1, .ref p2]) → H' pm = some (.tup (MomV m)) → StandAt K H' p1 S1 k1 → StandAt K H' p2 S2 k2 → (sndL S1).length = n1 → (sndL S2).length = n2 → Q (.ref p) H'
theorem ok_unlike (T : Txt K mg w) : Has P w K mg base 6 (gA K "unlike") ["track", "own", "other", "theirs"] (spUnlike K) := by
  obtain ⟨fd, F⟩ := T.fUnlike
  obtain ⟨f1, G1, b1, k1⟩ := ok_timed (P := P) (base := base) T
  obtain ⟨f2, G2, b2, k2⟩ := ok_next (P := P) (base := base) T
  obtain ⟨f3, G3, b3, k3⟩ := ok_after (P := P) (base := base) T
  obtain ⟨f4, G4, b4, k4⟩ := ok_eq (P := P) (base := base) T
  obtain ⟨f5, G5, b5, k5⟩ := ok_stand_init (P := P) (base := base) T
  have nd := scUnlike.nd
  refine ⟨fd, F.ok scUnlike (fun vs H Q E h => ?_) (fun cdv A outer s H vs Q E hr h => ⟨_, PSs.nox (
      pss_cons (ps_par (i := 4) (j := 5) (by rfl) nd rfl rfl (by decide) rfl rfl (pa_cons (pe_call G1 (hr.mono (by decide)) (by rfl) T.gTimed k1 b1 .nil pass0 (pa_cons (pv 0) (pa_cons (pv 1) pa_nil))) (pa_cons (pe_call G1 (hr.mono (by decide)) (by rfl) T.gTimed k1 b1 .nil pass0 (pa_cons (pv 2) (pa_cons (pv 3) pa_nil))) pa_nil)) (by rfl))
      (pss_cons (ps_par (i := 6) (j := 7) (by rfl) nd rfl rfl (by decide) rfl rfl (pa_cons (pe_make0 T.kStand G5 (hr.mono (by decide)) (by rfl) T.gStand b5 .nil pass0) (pa_cons (pe_make0 T.kStand G5 (hr.mono (by decide)) (by rfl) T.gStand b5 .nil pass0) pa_nil)) (by rfl))
      (pss_cons (ps_while PassesOwn.never (PW.pt (pw_or (pt_cmpR (op_neNil hr.units0) (pv 4) (pe_lst pa_nil) (nomark _)) (pw_or1 (pt_cmpR (op_neNil hr.units0) (pv 5) (pe_lst pa_nil) (nomark _)))))
        (pss_cons (ps_set (i := 8) nd rfl (.inl rfl) (pe_call G2 (hr.mono (by decide)) (by rfl) T.gNextMoment k2 b2 .nil pass0 (pa_cons (pv 4) (pa_cons (pv 5) pa_nil))))
        (pss_cons (ps_while PassesOwn.never (PW.pt (pw_and (pt_cmpR (op_neNil hr.units0) (pv 4) (pe_lst pa_nil) (nomark _)) (pw_and1 (pt_cmpR (op_eqD hr.units) (pe_ix ix_tup (pe_ix ix_list (pv 4) pe_int (fun _ _ => rfl)) pe_int (fun _ _ => rfl)) (pv 8) (nomark _)))))
          (pss_cons (ps_asg (pv 4) (pg_star (by rfl) (pgs_cons (pg_tup rfl (pgs_cons (pg_name (i := 9) nd rfl (.inl rfl)) (pgs_cons (pg_name (i := 10) nd rfl (.inl rfl)) pgs_nil))) (pgs_star (pg_name (i := 4) nd rfl (.inl rfl))))))
          (pss_one (ps_set (i := 6) nd rfl (.inl rfl) (pe_meth (pv 6) T.cStand T.mStandAfter G3 (hr.mono (by decide)) b3 .nil pass0 (pa_cons (pv 10) pa_nil))))))
        (pss_cons (ps_while PassesOwn.never (PW.pt (pw_and (pt_cmpR (op_neNil hr.units0) (pv 5) (pe_lst pa_nil) (nomark _)) (pw_and1 (pt_cmpR (op_eqD hr.units) (pe_ix ix_tup (pe_ix ix_list (pv 5) pe_int (fun _ _ => rfl)) pe_int (fun _ _ => rfl)) (pv 8) (nomark _)))))
          (pss_cons (ps_asg (pv 5) (pg_star (by rfl) (pgs_cons (pg_tup rfl (pgs_cons (pg_name (i := 9) nd rfl (.inl rfl)) (pgs_cons (pg_name (i := 10) nd rfl (.inl rfl)) pgs_nil))) (pgs_star (pg_name (i := 5) nd rfl (.inl rfl))))))
          (pss_one (ps_set (i := 7) nd rfl (.inl rfl) (pe_meth (pv 7) T.cStand T.mStandAfter G3 (hr.mono (by decide)) b3 .nil pass0 (pa_cons (pv 10) pa_nil))))))
        (pss_one (ps_if (pt_cmpR (op_neIns G4 (hr.mono (by decide)) b4 pass0 ⟨T.oNe, T.mStandEq.at_, T.mStandEq.fn, T.oOb⟩) (pv 6) (pv 7) (nomark _)) (pss_one (ps_ret (pe_tup (pa_cons (pv 8) (pa_cons (pv 6) (pa_cons (pv 7) pa_nil)))))) pss_nil))))))
      (pss_one (ps_ret pe_non))))), ?_⟩), F.bindsN fun _ _ _ _ _ _ us hl => match us, hl with | [_, _, _, _], _ => rfl, F.kp⟩
  · obtain ⟨t, o, t', o', beat, beat', qs, qs', es, es', r, rfl, _⟩ := h
    rfl
  · obtain ⟨t, o, t', o', beat, beat', qs, qs', es, es', r, rfl, ht, he, le, ke, hM, M, ht', he', le', ke', hM', M', hrun, q⟩ := h
    have bdr : ∀ {beat : Int} {qs : List (Int × Int)} {es : List (Addr × Ev)} {rows : List Row}, MapOk beat qs → rows.map (fun x => x.2.2.2) = es.map (fun e => (momF beat qs e.2.1, e.2.2)) → (∀ e ∈ es, 0 ≤ e.2.1 ∧ e.2.1 ≤ 999999 ∧ ThOk e.2.2) → BdR rows ∧ ∀ x ∈ rows, ThOk x.2.2.2.2 := fun {beat qs es rows} M e k => by
      have key : ∀ x ∈ rows, (-(2 ^ 64) < x.2.2.2.1.2 ∧ x.2.2.2.1.2 < 2 ^ 64) ∧ ThOk x.2.2.2.2 := fun x hx => by
        have hm : x.2.2.2 ∈ es.map (fun e => (momF beat qs e.2.1, e.2.2)) := e ▸ List.mem_map_of_mem hx
        obtain ⟨y, hy, ey⟩ := List.mem_map.mp hm
        rw [← ey]
        refine ⟨?_, (k y hy).2.2⟩
        show -(2 ^ 64) < beat / _ ∧ beat / _ < 2 ^ 64
        have b0 := M.b0
        have b1 := M.b1
        have g0 : (0 : Int) ≤ ((Int.gcd (numF 0 0 500000 qs y.2.1) beat : Nat) : Int) := Int.natCast_nonneg _
        have h1 : beat / ((Int.gcd (numF 0 0 500000 qs y.2.1) beat : Nat) : Int) ≤ beat := Int.ediv_le_self _ (by omega)
        have h2 : 0 ≤ beat / ((Int.gcd (numF 0 0 500000 qs y.2.1) beat : Nat) : Int) := Int.ediv_nonneg (by omega) g0
        omega
      exact ⟨fun x hx => (key x hx).1, fun x hx => (key x hx).2⟩
    have fresh : ∀ {Hh H' : Hp} {x dx r t c : Addr}, H' x = some (.ins (gA K "Stand") dx [("ringing", .ref r), ("turned", .ref t), ("chosen", .ref c)]) → H' r = some (.dT []) → H' t = some (.dT []) → H' c = some (.dK []) → StandAt K H' x Snd.none 0 := fun {Hh H' x dx r t c} h1 h2 h3 h4 =>
      ⟨dx, r, t, c, [], [], [], ⟨h1, h2, fun e he => (by cases he), h3, h4, List.nodup_nil, List.nodup_nil, List.nodup_nil, fun e he => (by cases he), fun e he => (by cases he), fun e he => (by cases he), Nat.zero_le _, Nat.zero_le _, Nat.zero_le _, Nat.le_refl _, by omega⟩, rfl⟩
    refine ⟨_, rfl, _, rfl, t, o, beat, qs, es, rfl, ht, he, by omega, fun e h => ⟨(ke e h).1, (ke e h).2.1⟩, hM, M, fun H1 a0 rows0 s1 ha0 hR0 eR0 => ?_⟩
    refine ⟨_, rfl, _, rfl, t', o', beat', qs', es', rfl, s1 _ _ ht', he'.same s1, by omega, fun e h => ⟨(ke' e h).1, (ke' e h).2.1⟩, hM'.same s1, M', fun H2 b0 others0 s2 hb0 hO0 eO0 => ⟨_, _, rfl, ?_⟩⟩
    refine fun x dx nx ndx nex => ⟨x, dx, rfl, by rw [upd_same], fun H3 r3 t3 c3 keep3 hx3 hr3 ht3 hc3 => ⟨rfl, ?_⟩⟩
    have s3 : Same H2 H3 := Same.made nx ndx keep3
    refine fun y dy ny ndy ney => ⟨y, dy, rfl, by rw [upd_same], fun H4 r4 t4 c4 keep4 hx4 hr4 ht4 hc4 => ⟨rfl, _, _, rfl, ?_⟩⟩
    have s4 : Same H3 H4 := Same.made ny ndy keep4
    have B1 := bdr M eR0 ke
    have B2 := bdr M' eO0 ke'
    have lr0 : rows0.length = es.length := by have := congrArg List.length eR0; rw [List.length_map, List.length_map] at this; exact this
    have lo0 : others0.length = es'.length := by have := congrArg List.length eO0; rw [List.length_map, List.length_map] at this; exact this
    have U0 : US K H H4 a0 b0 x y rows0 others0 Snd.none Snd.none := ⟨((s1.trans s2).trans s3).trans s4, s4 _ _ (s3 _ _ (s2 _ _ ha0)), s4 _ _ (s3 _ _ hb0), ((hR0.same s2).same s3).same s4, (hO0.same s3).same s4, B1.1, B2.1, B1.2, B2.2,
      ⟨0, (fresh (Hh := H) hx3 hr3 ht3 hc3).same s4, by omega⟩, ⟨0, fresh (Hh := H) hx4 hr4 ht4 hc4, by omega⟩⟩
    have R0 : Run (rows0.map mt) (others0.map mt) Snd.none Snd.none r := by
      have e1 : rows0.map mt = es.map fun e => (momF beat qs e.2.1, e.2.2) := eR0
      have e2 : others0.map mt = es'.map fun e => (momF beat' qs' e.2.1, e.2.2) := eO0
      rw [e1, e2]; exact hrun
    refine ⟨fun m σ H' => ∃ (a b p1 p2 : Addr) (rows others : List Row) (S S' : Snd) (x8 x9 x10 : Option V), σ = [some (.ref t), some (.ref o), some (.ref t'), some (.ref o'), some (.ref a), some (.ref b), some (.ref p1), some (.ref p2), x8, x9, x10] ∧ US K H H' a b p1 p2 rows others S S' ∧ Run (rows.map mt) (others.map mt) S S' r ∧ m = rows.length + others.length,
      ⟨_, a0, b0, x, y, rows0, others0, Snd.none, Snd.none, _, _, _, rfl, U0, R0, rfl⟩, ?_⟩
    rintro m σ H' ⟨a, b, p1, p2, rows, others, S, S', x8, x9, x10, rfl, U, hr1, rfl⟩
    refine or_ne rfl rfl U.ha U.hb (fun hne H5 s5 => ?_) (fun e1 e2 H5 s5 => ?_)
    · replace U := U.same s5
      have hnm : rows.map mt ≠ [] ∨ others.map mt ≠ [] := by
        rcases hne with h | h
        · exact .inl fun z => h (List.map_eq_nil_iff.mp z)
        · exact .inr fun z => h (List.map_eq_nil_iff.mp z)
      have ht5 := head_takes hnm
      rw [List.length_map, List.length_map] at ht5
      have hst := hr1.step hnm
      obtain ⟨n1, st1, hn1⟩ := id U.s1
      obtain ⟨n2, st2, hn2⟩ := id U.s2
      refine ⟨_, fun σ' H' h => h, ?_⟩
      refine ⟨_, rfl, _, rfl, a, b, rows, others, rfl, U.ha, U.hb, U.r1, U.r2, U.b1, U.b2, hne, by omega, by omega, fun H6 s6 => ?_⟩
      have hpm := headA_at (U.r1.same s6) (U.r2.same s6) hne
      rw [headA_mt] at hpm
      generalize (headA rows others).1 = pm at *
      refine in1 (U.same s6) hpm fun a1 q1 rows1 Z1 z9 z10 H7 V1 hpm7 eZ1 er1 => ?_
      refine in2 V1 hpm7 fun b1 q2 others1 Z2 y9 y10 H8 V2 hpm8 eZ2 eo1 => ?_
      rw [← eZ1, ← er1, ← eZ2, ← eo1] at hst
      rw [← er1, ← eo1, List.length_map, List.length_map] at ht5
      obtain ⟨m1, sa1, hm1⟩ := id V2.s1
      obtain ⟨m2, sa2, hm2⟩ := id V2.s2
      obtain ⟨dx1, ra, ta, ca, rka, tka, cka, Ra, _⟩ := id sa1
      obtain ⟨dx2, rb, tb, cb, rkb, tkb, ckb, Rb, _⟩ := id sa2
      refine ⟨_, rfl, _, rfl, q1, q2, dx1, dx2, _, _, rfl, rfl, Ra.ins, Rb.ins, q1, q2, Z1, Z2, m1, m2, rfl, sa1, sa2, fun H9 k s9 hk1 hk2 => ⟨k, rfl, _, rfl, ?_⟩⟩
      rcases hst with ⟨e1, hr2⟩ | ⟨hne2, er⟩
      · rw [hk1 e1]
        refine iteF ⟨_, ht5, a1, b1, q1, q2, rows1, others1, Z1, Z2, _, _, _, rfl, V2.same s9, hr2, rfl⟩
      · rw [hk2 hne2]
        refine iteT ⟨_, rfl, _, rfl, _, rfl, by show 3 ≤ sizeLine; decide, fun p np => ?_⟩
        have s10 : Same H9 (upd H9 p (.tup [.ref pm, .ref q1, .ref q2])) := Same.new np
        have := q _ ((V2.sm.trans s9).trans s10)
        rw [er] at this
        exact this p pm q1 q2 Z1 Z2 m1 m2 upd_same (s10 _ _ (s9 _ _ hpm8)) ((sa1.same s9).same s10) ((sa2.same s9).same s10) rfl rfl
    · subst e1
      subst e2
      have er := hr1.end_
      have := q _ (U.sm.trans s5)
      rw [er] at this
      exact this
end
end L2.RK
namespace L2.RK
open PySem PySem.Spec PyProof.Rows
/-! forms, left_by, size_of, lane_of -/
def FmV (x : Int × Addr) : List V := [.int x.1, .ref x.2]
/-- heads as they are written; as they are left -/
def RawHead (h : Int) : Prop := h = 240 ∨ (128 ≤ h ∧ h < 192)
def HeadOk (h : Int) : Prop := h = 0 ∨ (128 ≤ h ∧ h < 192)
def FmsAt (H : Hp) (fs : List (Addr × (Int × Addr))) : Prop := TL FmV H fs ∧ ∀ x ∈ fs, RawHead x.2.1 ∧ ∃ ds : List V, H x.2.2 = some (.lst ds)
theorem FmsAt.same {H H' : Hp} {fs : List (Addr × (Int × Addr))} (h : FmsAt H fs) (e : Same H H') : FmsAt H' fs := ⟨h.1.same e, fun x hx => let ⟨a, ds, b⟩ := h.2 x hx; ⟨a, ds, e _ _ b⟩⟩
section
variable {P : Program} {w : World} {K : PySem.W.Frag} {mg : Str → Option Value} {base : Heap}
abbrev nForms : List Str := ["event", "word", "things", "channel", "data", "found", "sign"]
theorem scForms : FnScope nForms ["event"] (defScope sForms) := ⟨rfl, rfl, rfl, by decide +kernel, rfl, by decide +kernel, by decide +kernel⟩
def spForms : Sp := fun vs H Q _ => ∃ (a : Addr) (e : Ev), vs = [.ref a] ∧ H a = some (.tup (evV e)) ∧ ThOk e.2 ∧
  ∀ (H' : Hp) (l : Addr) (fs : List (Addr × (Int × Addr))), Same H H' → H' l = some (.lst (refs fs)) → FmsAt H' fs → fs ≠ [] → fs.length ≤ 2 → Q (.ref l) H'
theorem ok_forms (T : Txt K mg w) : Has P w K mg base 1 (gA K "forms") ["event"] spForms := by
  obtain ⟨fd, F⟩ := T.fForms
  obtain ⟨tm, hM⟩ := T.iMARK
  obtain ⟨tf, hF⟩ := T.iSOFT
  have nd := scForms.nd
  refine ⟨fd, F.ok scForms (fun vs H Q E h => ?_) (fun cdv A outer s H vs Q E hr h => ⟨_, PSs.nox (
      pss_cons (ps_asg (pe_slice sl_tup (pv 0) (po_some pe_int) po_none) (pg_star (by rfl) (pgs_cons (pg_name (i := 1) nd rfl (.inl rfl)) (pgs_star (pg_name (i := 2) nd rfl (.inl rfl))))))
      (pss_cons (ps_if (pt_cmpR op_eq (pv 1) pe_str (nomark _))
        (pss_one (ps_ret (pe_lst (pa_cons (pe_tup (pa_cons (pe_glob (v := .int 240) rfl hM ⟨_, rfl⟩) (pa_cons
          (pe_op op_cat (pe_lst (pa_cons (pe_callB call_len_str (by rfl) T.nLen PySem.boot_len (pa_cons (pe_ix ix_list (pv 2) pe_int (fun _ _ => rfl)) pa_nil)) pa_nil))
            (pe_lc (own := [("sign", 6)]) (g := gName 6) (by rfl) nd (pi_str (pe_ix ix_list (pv 2) pe_int (fun _ _ => rfl))) (blkOk_by (N := nForms) (sc := defScope sForms) (by decide +kernel)) (fun _ _ _ _ _ => pg_name (i := 6) nd rfl (.inl rfl) (.inr rfl)) (fun _ _ _ _ _ => pts_nil)
              (fun _ _ _ _ _ => pe_callB call_ord (by rfl) T.nOrd (by decide +kernel) (pa_cons (pv 6) pa_nil)))) pa_nil))) pa_nil)))) pss_nil)
      (pss_cons (ps_asg (pv 2) (pg_star (by rfl) (pgs_cons (pg_name (i := 3) nd rfl (.inl rfl)) (pgs_star (pg_name (i := 4) nd rfl (.inl rfl))))))
      (pss_cons (ps_set (i := 5) nd rfl (.inl rfl) (pe_lst (pa_cons (pe_tup (pa_cons (pe_op op_add (pe_ix ix_kdict (pe_glob (v := .ref (gA K "HEADS")) rfl T.gHEADS rfl) (pv 1) (fun _ _ => rfl)) (pv 3)) (pa_cons (pv 4) pa_nil))) pa_nil)))
      (pss_cons (ps_if (PW.pt (pw_and (pt_cmpR op_eq (pv 1) pe_str (nomark _)) (pw_and1 (pt_cmpR op_eq (pe_ix ix_list (pv 4) pe_int (fun _ _ => rfl)) (pe_glob (v := .int 64) rfl hF ⟨_, rfl⟩) (nomark _)))))
        (pss_one (ps_expr (pe_bm PySem.F.plainAttrs_list PySem.F.slot_list_append PySem.F.type_list_append mt_append (pv 5) (pa_cons (pe_tup (pa_cons (pe_op op_add (pe_ix ix_kdict (pe_glob (v := .ref (gA K "HEADS")) rfl T.gHEADS rfl) pe_str (fun _ _ => rfl)) (pv 3)) (pa_cons (pe_lst (pa_cons (pe_ix ix_list (pv 4) pe_int (fun _ _ => rfl)) (pa_cons pe_int pa_nil))) pa_nil))) pa_nil)))) pss_nil)
      (pss_one (ps_ret (pv 5)))))))), ?_⟩), F.bindsN fun _ _ _ _ _ _ us hl => match us, hl with | [_], _ => rfl, F.kp⟩
  · obtain ⟨a, e, rfl, _⟩ := h
    rfl
  · obtain ⟨a, e, rfl, ha, hok, q⟩ := h
    have big : sizeLine > 1000 := by decide
    refine ⟨_, rfl, 1, rfl, a, _, rfl, SqT.of ha, fun w => ?_, fun u nu => ?_⟩
    · have := whole1 w.1
      exact absurd this (by unfold evV; intro q; cases q)
    have ec : cutV (evV e) (some 1) none = thV e.2 := by rw [cut1]; rfl
    rw [ec]
    obtain ⟨wd, th, eth⟩ : ∃ wd th, thV e.2 = .str wd :: th := by cases e.2 <;> exact ⟨_, _, rfl⟩
    rw [eth]
    refine ⟨u, _, rfl, .inl (SqT.of upd_same), by show 1 ≤ th.length + 1; omega, fun D nD => ⟨_, _, rfl, _, _, rfl, rfl, ?_⟩⟩
    generalize hH1 : upd (upd H u _) D _ = H1
    have s1 : Same H H1 := by rw [← hH1]; exact (Same.new nu).add nD
    have hD : H1 D = some (.lst th) := by rw [← hH1]; exact upd_same
    clear hH1 nD nu ha
    have rest : ∀ (c : Nat) (hv : Int) (ds : List V), c < 16 → th = .int c :: ds → wd ≠ "mark" → (wd = "off" → ∃ k f : Int, ds = [.int k, .int f]) → KDct K w (gA K "HEADS") wd (.int hv) → 128 ≤ hv → hv ≤ 176 →
        tSeq (tAsg (tVar 2) (gStar K 1 (gCons (gName 3) (gCons (gName 4) gNil))))
          (tSeq (tAsg (tLst (tCons (tTup (tCons (tOp (rI0 fun i j => .int (i + j)) (tOp (rIxD K w) (tC (.ref (gA K "HEADS"))) (tVar 1)) (tVar 3)) (tCons (tVar 4) tNil))) tNil)) (gName 5))
          (tSeq (tIfS (tAnd (tTest (tOp rEq (tVar 1) (tC (.str "off")))) (tTest (tOp rEq (tOp (rIxL K) (tVar 4) (tC (.int 1))) (tC (.int 64)))))
            (tDrop (tBM K "list" rAppend (tVar 5) (tCons (tTup (tCons (tOp (rI0 fun i j => .int (i + j)) (tOp (rIxD K w) (tC (.ref (gA K "HEADS"))) (tC (.str "on"))) (tVar 3)) (tCons (tLst (tCons (tOp (rIxL K) (tVar 4) (tC (.int 0))) (tCons (tC (.int 0)) tNil))) tNil))) tNil))) tNext)
          (tRet (tVar 5)))) ⟨fun _ H' => Q .non H', Q, fun _ _ => False, fun _ _ => False⟩ [some (.ref a), some (.str wd), some (.ref D), none, none, none, none] H1 := by
      intro c hv ds hc hth hm hoff hk h1 h2
      subst hth
      refine ⟨_, rfl, D, _, rfl, .inr (SqL.of hD), by show 1 ≤ ds.length + 1; omega, fun D2 nD2 => ⟨_, _, rfl, _, _, rfl, rfl, ?_⟩⟩
      have s2 : Same H1 (upd H1 D2 (.lst ds)) := Same.new nD2
      have hD2 : upd H1 D2 (.lst ((V.int c :: ds).drop 1)) D2 = some (.lst ds) := upd_same
      generalize hH2 : upd H1 D2 _ = H2
      replace hD2 : H2 D2 = some (.lst ds) := by rw [← hH2]; exact hD2
      replace s2 : Same H1 H2 := by rw [← hH2]; exact s2
      clear hH2 nD2
      refine ⟨_, rfl, _, _, _, rfl, rfl, hk, _, rfl, _, _, rfl, rfl, _, rfl, by show 2 ≤ sizeLine; decide, fun t1 nt1 => ⟨by show 1 ≤ sizeLine; decide, fun l nl => ?_⟩⟩
      have s3 : Same H2 (upd (upd H2 t1 (.tup (FmV (hv + c, D2)))) l (.lst [.ref t1])) := (Same.new nt1).add nl
      have hl3 : upd (upd H2 t1 (.tup (FmV (hv + c, D2)))) l (.lst [.ref t1]) l = some (.lst (refs [(t1, (hv + (c : Int), D2))])) := upd_same
      have ht1 : upd (upd H2 t1 (.tup (FmV (hv + c, D2)))) l (.lst [.ref t1]) t1 = some (.tup (FmV (hv + c, D2))) := (Same.new nl) _ _ upd_same
      have tl : t1 ≠ l := ne_of_none upd_same nl
      have dl : D2 ≠ l := ne_of_none ((Same.new (o := .tup (FmV (hv + c, D2))) nt1) _ _ hD2) nl
      have sH : Same H (upd (upd H2 t1 (.tup (FmV (hv + c, D2)))) l (.lst [.ref t1])) := (s1.trans s2).trans s3
      have nl0 : H l = none := ((s1.trans s2).add (o := .tup (FmV (hv + c, D2))) nt1).free nl
      have hD3 := s3 _ _ hD2
      generalize hH3 : upd (upd H2 t1 _) l _ = H3
      replace hl3 : H3 l = some (.lst (refs [(t1, (hv + (c : Int), D2))])) := by rw [← hH3]; exact hl3
      replace ht1 : H3 t1 = some (.tup (FmV (hv + c, D2))) := by rw [← hH3]; exact ht1
      replace sH : Same H H3 := by rw [← hH3]; exact sH
      replace hD3 : H3 D2 = some (.lst ds) := by rw [← hH3]; exact hD3
      clear hH3 s3 nt1 nl
      have raw : RawHead (hv + (c : Int)) := .inr ⟨by omega, by omega⟩
      have fin : Q (.ref l) H3 := q H3 l [(t1, (hv + (c : Int), D2))] sH hl3 ⟨fun x hx => by rw [List.mem_singleton.mp hx]; exact ht1, fun x hx => by rw [List.mem_singleton.mp hx]; exact ⟨raw, ds, hD3⟩⟩ (by simp) (by simp)
      refine ⟨_, rfl, rfl, _, rfl, ?_⟩
      refine ite2 (fun ho => ?_) (fun ho => ⟨_, rfl, fin⟩)
      have ho' : wd = "off" := by have := of_decide_eq_true ho; injection this
      obtain ⟨k, f, rfl⟩ := hoff ho'
      refine ⟨_, rfl, D2, _, _, _, rfl, rfl, SqL.of hD3, at1, rfl, _, rfl, ?_⟩
      refine ite2 (fun hf => ?_) (fun hf => ⟨_, rfl, fin⟩)
      refine ⟨_, rfl, .inl ⟨rfl, _, SqL.of hl3⟩, _, _, _, rfl, rfl, T.tHEADS ("on", .int 144) (by simp [headsKV]), _, rfl, _, _, rfl, rfl, _, rfl, D2, _, _, _, rfl, rfl, SqL.of hD3, at0, by show 2 ≤ sizeLine; decide, fun g1 ng1 => ⟨by show 2 ≤ sizeLine; decide, fun t2 nt2 => ?_⟩⟩
      have s4 : Same H3 (upd (upd H3 g1 (.lst [.int k, .int 0])) t2 (.tup (FmV ((144 : Int) + c, g1)))) := (Same.new ng1).add nt2
      have t2l : t2 ≠ l := fun z => by rw [z, (Same.new ng1) _ _ hl3] at nt2; cases nt2
      have g1l : g1 ≠ l := fun z => by rw [z, hl3] at ng1; cases ng1
      have g1t2 : g1 ≠ t2 := ne_of_none upd_same nt2
      refine ⟨l, _, _, rfl, rfl, s4 _ _ hl3, by show 1 < sizeLine; decide, _, rfl, ?_⟩
      refine q _ l [(t1, (hv + (c : Int), D2)), (t2, ((144 : Int) + (c : Int), g1))] ((sH.trans s4).put nl0) (by rw [upd_same]; rfl) ⟨fun x hx => ?_, fun x hx => ?_⟩ (by simp) (by simp)
      · rcases List.mem_cons.mp hx with rfl | hx
        · rw [upd_ne tl]; exact s4 _ _ ht1
        · rw [List.mem_singleton.mp hx, upd_ne t2l, upd_same]; rfl
      · rcases List.mem_cons.mp hx with rfl | hx
        · exact ⟨raw, _, by show upd _ l _ D2 = _; rw [upd_ne dl]; exact s4 _ _ hD3⟩
        · rw [List.mem_singleton.mp hx]
          exact ⟨.inr ⟨by show (128 : Int) ≤ 144 + c; omega, by show (144 : Int) + c < 192; omega⟩, _, by rw [upd_ne g1l, upd_ne g1t2, upd_same]⟩
    cases ee : e.2 with
    | mark x =>
      rw [ee] at eth hok
      cases eth
      have hx : x.length ≤ 12 := hok
      refine ⟨_, rfl, rfl, _, rfl, ifY rfl ?_⟩
      refine ⟨_, rfl, D, _, _, _, rfl, rfl, SqL.of hD, at0, x, rfl, by omega, by show 1 ≤ sizeLine; decide, fun l1 nl1 => ?_⟩
      have s2 : Same H1 (upd H1 l1 (.lst [.int (x.length : Nat)])) := Same.new nl1
      have hl1 : upd H1 l1 (.lst [.int (x.length : Nat)]) l1 = some (.lst [.int (x.length : Nat)]) := upd_same
      have hD2 := s2 _ _ hD
      generalize hH2 : upd H1 l1 _ = H2
      replace s2 : Same H1 H2 := by rw [← hH2]; exact s2
      replace hl1 : H2 l1 = some (.lst [.int (x.length : Nat)]) := by rw [← hH2]; exact hl1
      replace hD2 : H2 D = some (.lst [.str x]) := by rw [← hH2]; exact hD2
      clear hH2 nl1
      refine ⟨_, rfl, D, _, _, _, rfl, rfl, SqL.of hD2, at0, x, rfl, fun D3 nD3 => ?_⟩
      refine lc_it (walk_str (z := x)) (fun i H' => Same H2 H' ∧ ∃ acc, H' D3 = some (.lst acc) ∧ acc.length = i) ⟨Same.new nD3, [], upd_same, rfl⟩ (fun _ _ _ _ => trivial) ?_ ?_
      · rintro i v H3 H4 hi ⟨s3, acc, h1, h2⟩ ⟨rfl, cc, hcc, rfl⟩
        have hi' : i < 13 := by
          have : x.cps.size = x.length := rfl
          omega
        exact ⟨rfl, _, rfl, _, rfl, rfl, acc, h1, by omega, s3.put nD3, acc ++ [_], upd_same, by rw [List.length_append, h2]; rfl⟩
      · rintro H3 ⟨s3, acc, h1, h2⟩
        have hx2 : x.cps.size = x.length := rfl
        refine ⟨l1, D3, _, _, rfl, rfl, s3 _ _ hl1, h1, by show 1 + acc.length ≤ sizeLine; omega, fun p np => ⟨by show 2 ≤ sizeLine; decide, fun t1 nt1 => ⟨by show 1 ≤ sizeLine; decide, fun l nl => ?_⟩⟩⟩
        have s4 : Same H3 (upd (upd H3 p (.lst ([.int (x.length : Nat)] ++ acc))) t1 (.tup [.int 240, .ref p])) := (Same.new np).add nt1
        refine q _ l [(t1, ((240 : Int), p))] ((((s1.trans s2).trans s3).trans s4).add nl) upd_same ⟨fun y hy => ?_, fun y hy => ?_⟩ (by simp) (by simp)
        · rw [List.mem_singleton.mp hy]
          exact (Same.new nl) _ _ upd_same
        · rw [List.mem_singleton.mp hy]
          exact ⟨.inl rfl, _, (Same.new nl) _ _ ((Same.new nt1) _ _ upd_same)⟩
    | on c k f =>
      rw [ee] at eth hok
      cases eth
      exact ⟨_, rfl, rfl, _, rfl, ifN (by decide) (rest c 144 _ hok.1 rfl (by decide) (fun z => absurd z (by decide)) (T.tHEADS ("on", .int 144) (by simp [headsKV])) (by decide) (by decide))⟩
    | off c k f =>
      rw [ee] at eth hok
      cases eth
      exact ⟨_, rfl, rfl, _, rfl, ifN (by decide) (rest c 128 _ hok.1 rfl (by decide) (fun z => ⟨_, _, rfl⟩) (T.tHEADS ("off", .int 128) (by simp [headsKV])) (by decide) (by decide))⟩
    | knob c k f =>
      rw [ee] at eth hok
      cases eth
      exact ⟨_, rfl, rfl, _, rfl, ifN (by decide) (rest c 160 _ hok.1 rfl (by decide) (fun z => absurd z (by decide)) (T.tHEADS ("knob", .int 160) (by simp [headsKV])) (by decide) (by decide))⟩
    | voice c k =>
      rw [ee] at eth hok
      cases eth
      exact ⟨_, rfl, rfl, _, rfl, ifN (by decide) (rest c 176 _ hok.1 rfl (by decide) (fun z => absurd z (by decide)) (T.tHEADS ("voice", .int 176) (by simp [headsKV])) (by decide) (by decide))⟩
theorem scLeftBy : FnScope ["head"] ["head"] (defScope sLeftBy) := ⟨rfl, rfl, rfl, by decide +kernel, rfl, by decide +kernel, by decide +kernel⟩
def spLeftBy : Sp := fun vs H Q _ => ∃ h : Int, vs = [.int h] ∧ RawHead h ∧ ∀ h' : Int, HeadOk h' → Q (.int h') H
theorem ok_left_by (T : Txt K mg w) : Has P w K mg base 1 (gA K "left_by") ["head"] spLeftBy := by
  obtain ⟨fd, F⟩ := T.fLeftBy
  obtain ⟨tm, hM⟩ := T.iMARK
  refine ⟨fd, F.ok scLeftBy (fun vs H Q E h => ?_) (fun cdv A outer s H vs Q E hr h => ⟨_, PSs.nox (pss_one (ps_ret (pe_ifExp (pt_cmpR op_eq (pv 0) (pe_glob (v := .int 240) rfl hM ⟨_, rfl⟩) (nomark _)) pe_int (pv 0)))), ?_⟩), F.bindsN fun _ _ _ _ _ _ us hl => match us, hl with | [_], _ => rfl, F.kp⟩
  · obtain ⟨h, rfl, _⟩ := h
    rfl
  · obtain ⟨hd, rfl, hr0, q⟩ := h
    refine ⟨_, rfl, rfl, _, rfl, ite2 (fun hc => q 0 (.inl rfl)) (fun hc => ⟨_, rfl, q hd (hr0.elim (fun z => absurd (decide_eq_true (by rw [z])) hc) .inr)⟩)⟩
theorem scSizeOf : FnScope ["ahead", "form", "head", "data"] ["ahead", "form"] (defScope sSizeOf) := ⟨rfl, rfl, rfl, by decide +kernel, rfl, by decide +kernel, by decide +kernel⟩
def spSizeOf : Sp := fun vs H Q _ => ∃ (h h2 : Int) (f d : Addr) (ds : List V), vs = [.int h, .ref f] ∧ H f = some (.tup (FmV (h2, d))) ∧ H d = some (.lst ds) ∧ ∀ n : Int, Q (.int n) H
theorem ok_size_of (T : Txt K mg w) : Has P w K mg base 1 (gA K "size_of") ["ahead", "form"] spSizeOf := by
  obtain ⟨fd, F⟩ := T.fSizeOf
  have nd := scSizeOf.nd
  refine ⟨fd, F.ok scSizeOf (fun vs H Q E h => ?_) (fun cdv A outer s H vs Q E hr h => ⟨_, PSs.nox (pss_cons (ps_asg (pv 1) (pg_tup rfl (pgs_cons (pg_name (i := 2) nd rfl (.inl rfl)) (pgs_cons (pg_name (i := 3) nd rfl (.inl rfl)) pgs_nil))))
      (pss_one (ps_ret (pe_op op_add (pe_callB call_len_seq (by rfl) T.nLen PySem.boot_len (pa_cons (pv 3) pa_nil)) (pe_callTy call_int1 (by rfl) T.nInt (by decide +kernel) (pa_cons (pe_cmpR op_ne (pv 2) (pv 0) (nomark _)) pa_nil)))))), ?_⟩), F.bindsN fun _ _ _ _ _ _ us hl => match us, hl with | [_, _], _ => rfl, F.kp⟩
  · obtain ⟨h, h2, f, d, ds, rfl, _⟩ := h
    rfl
  · obtain ⟨hh, h2, f, d, ds, rfl, hf, hd, q⟩ := h
    exact ⟨_, rfl, f, _, rfl, SqT.of hf, rfl, _, _, rfl, _, _, rfl, rfl, _, rfl, d, _, rfl, .inl (SqL.of hd), _, rfl, _, rfl, rfl, .inr ⟨_, rfl, _, _, rfl, rfl, q _⟩⟩
/-- the lane of a thing -/
def laneT : Th → Int
  | .mark _ => -1
  | .on c _ _ => c
  | .off c _ _ => c
  | .knob c _ _ => c
  | .voice c _ => c
theorem scLaneOf : FnScope ["event"] ["event"] (defScope sLaneOf) := ⟨rfl, rfl, rfl, by decide +kernel, rfl, by decide +kernel, by decide +kernel⟩
def spLaneOf : Sp := fun vs H Q _ => ∃ (a : Addr) (e : Ev), vs = [.ref a] ∧ H a = some (.tup (evV e)) ∧ Q (.int (laneT e.2)) H
theorem ok_lane_of (T : Txt K mg w) : Has P w K mg base 1 (gA K "lane_of") ["event"] spLaneOf := by
  obtain ⟨fd, F⟩ := T.fLaneOf
  refine ⟨fd, F.ok scLaneOf (fun vs H Q E h => ?_) (fun cdv A outer s H vs Q E hr h => ⟨_, PSs.nox (pss_one (ps_ret (pe_ifExp (pt_cmpR op_eq (pe_ix ix_tup (pv 0) pe_int (fun _ _ => rfl)) pe_str (nomark _)) (pe_un un_neg pe_int) (pe_ix ix_tup (pv 0) pe_int (fun _ _ => rfl))))), ?_⟩), F.bindsN fun _ _ _ _ _ _ us hl => match us, hl with | [_], _ => rfl, F.kp⟩
  · obtain ⟨a, e, rfl, _⟩ := h
    rfl
  · obtain ⟨a, ⟨tk, t⟩, rfl, ha, q⟩ := h
    cases t with
    | mark x => exact ⟨_, rfl, a, _, _, _, rfl, rfl, SqT.of ha, at1, rfl, _, rfl, ifY rfl ⟨_, rfl, q⟩⟩
    | on c k f => exact ⟨_, rfl, a, _, _, _, rfl, rfl, SqT.of ha, at1, rfl, _, rfl, ifN (by decide) ⟨_, rfl, a, _, _, _, rfl, rfl, SqT.of ha, atI_nat (j := 2) rfl, q⟩⟩
    | off c k f => exact ⟨_, rfl, a, _, _, _, rfl, rfl, SqT.of ha, at1, rfl, _, rfl, ifN (by decide) ⟨_, rfl, a, _, _, _, rfl, rfl, SqT.of ha, atI_nat (j := 2) rfl, q⟩⟩
    | knob c k f => exact ⟨_, rfl, a, _, _, _, rfl, rfl, SqT.of ha, at1, rfl, _, rfl, ifN (by decide) ⟨_, rfl, a, _, _, _, rfl, rfl, SqT.of ha, atI_nat (j := 2) rfl, q⟩⟩
    | voice c k => exact ⟨_, rfl, a, _, _, _, rfl, rfl, SqT.of ha, at1, rfl, _, rfl, ifN (by decide) ⟨_, rfl, a, _, _, _, rfl, rfl, SqT.of ha, atI_nat (j := 2) rfl, q⟩⟩
end
end L2.RK
namespace L2.RK
open PySem PySem.Spec PyProof.Rows
/-! groups, lanes -/
abbrev AEv : Type := Addr × Ev
abbrev Grp : Type := Addr × List AEv
def lk (e : AEv) : Int := laneT e.2.2
/-- lists of events, each at its address -/
def GL (H : Hp) (gs : List Grp) : Prop := ∀ g ∈ gs, H g.1 = some (.lst (refs g.2))
theorem GL.same {H H' : Hp} {gs : List Grp} (h : GL H gs) (e : Same H H') : GL H' gs := fun g hg => e _ _ (h g hg)
theorem filter_t {α : Type} (l : List α) (p : α → Bool) (h : ∀ x, p x = true) : l.filter p = l := List.filter_eq_self.mpr fun x _ => h x
def lcScope : Expr → Scope
  | .ListComp _ _ s _ => s
  | _ => defScope (.Pass ⟨0, 0, 0, 0⟩)
/-- how a group falls into rows: by a key -/
structure LaneKey (key : AEv → Int) (names : List Int) (g : List AEv) : Prop where
  nd : names.Nodup
  cov : ∀ e ∈ g, key e ∈ names
  fine : ∀ mid : List AEv, (∀ n : Int, mid.filter (fun e => decide (key e = n)) = g.filter (fun e => decide (key e = n))) → ∀ c : Int, mid.filter (fun e => decide (lk e = c)) = g.filter (fun e => decide (lk e = c))
  size : (names.length = 1) ∨ (names.length ≤ 6 ∧ g.length ≤ 6)
section
variable {P : Program} {w : World} {K : PySem.W.Frag} {mg : Str → Option Value} {base : Heap}
abbrev nLanes : List Str := ["group", "names", "event", "name"]
theorem scLanes : FnScope nLanes ["group"] (defScope sLanes) := ⟨rfl, rfl, rfl, by decide +kernel, rfl, by decide +kernel, by decide +kernel⟩
def spLanes : Sp := fun vs H Q _ => ∃ (a : Addr) (g : List AEv), vs = [.ref a] ∧ H a = some (.lst (refs g)) ∧ TL evV H g ∧ g.length ≤ 40 ∧ g ≠ [] ∧
  ∀ (H' : Hp) (l : Addr) (rs : List Grp) (key : AEv → Int) (names : List Int), Same H H' → H' l = some (.lst (refs rs)) → GL H' rs → LaneKey key names g → rs.map (·.2) = names.map (fun n => g.filter fun e => decide (key e = n)) → Q (.ref l) H'
def lanesOut : Expr := match defBody sLanes with
  | [_, _, .Return (some e) _] => e
  | _ => .Constant .none 0 ⟨0, 0, 0, 0⟩
def lanesSc : Scope := { lcScope lanesOut with names := [((".0" : Str), .local), ("name", .cell), ("group", .cell)] }
theorem ok_lanes (T : Txt K mg w) : Has P w K mg base 2 (gA K "lanes") ["group"] spLanes := by
  obtain ⟨fd, F⟩ := T.fLanes
  obtain ⟨f1, G1, b1, k1⟩ := ok_lane_of (P := P) (base := base) T
  obtain ⟨tm, hM⟩ := T.iMOST_FREE
  have nd := scLanes.nd
  refine ⟨fd, F.ok scLanes (fun vs H Q E h => ?_) (fun cdv A outer s H vs Q E hr h => ⟨_, PSs.nox (
      pss_cons (ps_if (pt_cmpR op_gt (pe_callB call_len_seq (by rfl) T.nLen PySem.boot_len (pa_cons (pv 0) pa_nil)) (pe_glob (v := .int 6) rfl hM ⟨_, rfl⟩) (nomark _)) (pss_one (ps_ret (pe_lst (pa_cons (pv 0) pa_nil)))) pss_nil)
      (pss_cons (ps_set (i := 1) nd rfl (.inl rfl) (pe_callB (cr_sortedSet (by rfl)) (by rfl) T.nSorted (by decide +kernel) (pa_cons
        (pe_scI (own := [("event", 2)]) (g := gName 2) (tt := tYes) (te := tCall spLaneOf [] E0 (tCons (tVar 2) tNil)) (by rfl) nd (pi_list (pv 0)) (blkOk_by (N := nLanes) (sc := defScope sLanes) (by decide +kernel)) (fun _ _ _ _ _ => pg_name (i := 2) nd rfl (.inl rfl) (.inr rfl)) (fun _ _ _ _ _ => pts_nil)
          (fun _ _ _ _ _ => pe_call G1 hr (by rfl) T.gLaneOf k1 b1 .nil pass0 (pa_cons (pv 2) pa_nil))) pa_nil)))
      (pss_one (ps_ret (pe_lc (own := [("name", 3)]) (g := gName 3) (tt := tYes) (te := tLc (iList K (tVar 0)) (gName 2) (tTest (tOp rEq (tCall spLaneOf [] E0 (tCons (tVar 2) tNil)) (tVar 3))) (tVar 2) [2]) (by rfl) nd (pi_list (pv 1)) (blkOk_by (N := nLanes) (sc := defScope sLanes) (by decide +kernel))
        (fun _ _ _ _ _ => pg_name (i := 3) nd rfl (.inr rfl) (.inl rfl)) (fun _ _ _ _ _ => pts_nil)
        (fun _ _ _ _ _ => pe_lc (own := [("event", 2)]) (g := gName 2) (by rfl) nd (pi_list (pv 0)) (blkOk_by (N := nLanes) (sc := lanesSc) (by decide +kernel)) (fun _ _ _ _ _ => pg_name (i := 2) nd rfl (.inl rfl) (.inr rfl))
          (fun _ _ _ _ _ => pts_one (pt_cmpR op_eq (pe_call G1 hr (by rfl) T.gLaneOf k1 b1 .nil pass0 (pa_cons (pv 2) pa_nil)) (pv 3) (nomark _))) (fun _ _ _ _ _ => pv 2))))))), ?_⟩), F.bindsN fun _ _ _ _ _ _ us hl => match us, hl with | [_], _ => rfl, F.kp⟩
  · obtain ⟨a, g, rfl, _⟩ := h
    rfl
  · obtain ⟨a, g, rfl, ha, hg, hlen, hne, q⟩ := h
    have big : sizeLine > 1000 := by decide
    have e0 : ∀ l : List AEv, l.filter (fun e => decide ((0 : Int) = 0)) = l := fun l => filter_t l _ (fun _ => decide_eq_true rfl)
    refine ⟨_, rfl, a, _, rfl, .inl (SqL.of ha), _, _, rfl, rfl, _, rfl, ite2 (fun hc => ?_) (fun hc => ?_)⟩
    · refine ⟨_, rfl, by show 1 ≤ sizeLine; decide, fun l nl => ?_⟩
      refine q _ l [(a, g)] (fun _ => 0) [0] (Same.new nl) upd_same (fun x hx => ?_) ⟨by simp, fun e he => by simp, fun mid hm c => ?_, .inl rfl⟩ ?_
      · rw [List.mem_singleton.mp hx]; exact (Same.new nl) _ _ ha
      · have := hm 0
        rw [e0 mid, e0 g] at this
        rw [this]
      · show [g] = [g.filter (fun e => decide ((0 : Int) = 0))]
        rw [e0 g]
    · have h6 : g.length ≤ 6 := by
        have : ¬ ((refs g).length : Int) > 6 := fun z => hc (decide_eq_true z)
        rw [refs_len] at this
        omega
      refine ⟨_, rfl, a, rfl, ⟨_, SqL.of ha⟩, fun D nD => ?_⟩
      refine cont_it (walk_list (K := K) (a := a) (xs := refs g)) (u0 := fun D => SetO w D (fun _ => false) 0) (fun i H' => Same H H' ∧ ∃ n S, H' D = some (SetO w D S n) ∧ (∀ k : Int, S k = true ↔ ∃ e ∈ g.take i, lk e = k) ∧ n ≤ i) ⟨Same.new nD, 0, _, upd_same, fun k => ?_, Nat.le_refl _⟩ (fun i H' _ h => SqL.of (h.1 _ _ ha)) ?_ ?_
      · constructor
        · intro z; cases z
        · rintro ⟨e, he, _⟩; cases he
      · rintro i x H1 H2 hi ⟨s1, n, S, h1, h2, h3⟩ ⟨rfl, hx⟩
        obtain ⟨z, hz, rfl⟩ := refs_get hx
        have zm := List.mem_of_getElem? hz
        have sb : scanBound > 1000 := by decide
        have i40 := (List.getElem?_eq_some_iff.mp hz).1
        refine ⟨rfl, _, rfl, z.1, z.2, rfl, s1 _ _ (hg z zm), laneT z.2.2, S, n, rfl, h1, by omega, s1.put nD, _, _, upd_same, fun k => ?_, ?_⟩
        · rw [take_snoc hz]
          constructor
          · intro hk
            rcases Bool.or_eq_true_iff.mp hk with hk | hk
            · obtain ⟨e, he, ee⟩ := (h2 k).mp hk
              exact ⟨e, List.mem_append_left _ he, ee⟩
            · exact ⟨z, by simp, (of_decide_eq_true hk).symm⟩
          · rintro ⟨e, he, ee⟩
            rcases List.mem_append.mp he with he | he
            · exact Bool.or_eq_true_iff.mpr (.inl ((h2 k).mpr ⟨e, he, ee⟩))
            · rw [List.mem_singleton.mp he] at ee
              exact Bool.or_eq_true_iff.mpr (.inr (decide_eq_true ee.symm))
        · split <;> omega
      · rintro H1 ⟨s1, n, S, h1, h2, h3⟩
        rw [refs_len, List.take_length] at h2
        rw [refs_len] at h3
        refine ⟨D, S, n, rfl, h1, by omega, fun ns p srt mem nlen np => ?_⟩
        have sH : Same H (upd H1 p (.lst (ns.map V.int))) := s1.add np
        have hp : upd H1 p (.lst (ns.map V.int)) p = some (.lst (ns.map V.int)) := upd_same
        generalize upd H1 p (.lst (ns.map V.int)) = H2 at *
        have nsnd : ns.Nodup := List.Pairwise.imp (fun h => Int.ne_of_lt h) srt
        refine ⟨_, rfl, p, rfl, ⟨_, SqL.of hp⟩, fun D2 nD2 => ?_⟩
        have nD20 : H D2 = none := sH.free nD2
        refine lc_list (xs := ns.map V.int) (fun i H' => Same H2 H' ∧ ∃ rs : List Grp, H' D2 = some (.lst (refs rs)) ∧ GL H' rs ∧ (∀ r ∈ rs, r.1 ≠ D2) ∧ rs.map (·.2) = (ns.take i).map fun n => g.filter fun e => decide (lk e = n))
          ⟨Same.new nD2, [], upd_same, fun r hr => (by cases hr), fun r hr => (by cases hr), rfl⟩ (fun i H' _ h => SqL.of (h.1 _ _ hp)) ?_ ?_
        · rintro i x H3 hi ⟨s3, rs, r1, r2, r3, r4⟩
          obtain ⟨nm, hn, rfl⟩ := get_int hi
          have i6 := (List.getElem?_eq_some_iff.mp hn).1
          refine ⟨rfl, _, rfl, a, rfl, ⟨_, SqL.of (s3 _ _ (sH _ _ ha))⟩, fun D3 nD3 => ?_⟩
          have d32 : D3 ≠ D2 := fun z => by rw [z, r1] at nD3; cases nD3
          refine lc_list (xs := refs g) (fun j H' => Same H3 H' ∧ H' D3 = some (.lst (refs ((g.take j).filter fun e => decide (lk e = nm))))) ⟨Same.new nD3, upd_same⟩ (fun j H' _ h => SqL.of (h.1 _ _ (s3 _ _ (sH _ _ ha)))) ?_ ?_
          · rintro j y H4 hj ⟨s4, q1⟩
            obtain ⟨z, hz, rfl⟩ := refs_get hj
            have zm := List.mem_of_getElem? hz
            refine ⟨rfl, _, rfl, z.1, z.2, rfl, s4 _ _ (s3 _ _ (sH _ _ (hg z zm))), _, rfl, rfl, _, rfl, ite2 (fun hc => ?_) (fun hc => ?_)⟩
            · have e1 : lk z = nm := by have := of_decide_eq_true hc; injection this
              have h8 := List.length_filter_le (fun e => decide (lk e = nm)) (g.take j)
              rw [List.length_take] at h8
              refine ⟨_, rfl, _, q1, by rw [refs_len]; exact Nat.lt_of_le_of_lt h8 (by omega), s4.put nD3, ?_⟩
              rw [upd_same, take_snoc hz, filter_yes (fun e => decide (lk e = nm)) _ (decide_eq_true e1), refs_app]; rfl
            · have e1 : ¬ lk z = nm := fun q => hc (decide_eq_true (by rw [← q]; rfl))
              refine ⟨s4, ?_⟩
              rw [take_snoc hz, filter_no (fun e => decide (lk e = nm)) _ (by simpa using e1)]; exact q1
          · rintro H4 ⟨s4, q1⟩
            rw [refs_len, List.take_length] at q1
            have l4 := congrArg List.length r4
            rw [List.length_map, List.length_map, List.length_take] at l4
            refine ⟨_, s4 _ _ r1, by rw [refs_len]; omega, (s3.trans s4).put nD2, rs ++ [(D3, g.filter fun e => decide (lk e = nm))], ?_, ?_, ?_, ?_⟩
            · rw [upd_same, refs_app]; rfl
            · intro r hr
              rcases List.mem_append.mp hr with hr | hr
              · rw [upd_ne (r3 r hr)]; exact s4 _ _ (r2 r hr)
              · rw [List.mem_singleton.mp hr, upd_ne d32]; exact q1
            · intro r hr
              rcases List.mem_append.mp hr with hr | hr
              · exact r3 r hr
              · rw [List.mem_singleton.mp hr]; exact d32
            · rw [List.map_append, r4, take_snoc hn, List.map_append]; rfl
        · rintro H3 ⟨s3, rs, r1, r2, r3, r4⟩
          rw [List.length_map, List.take_length] at r4
          refine q _ D2 rs lk ns (sH.trans s3) r1 r2 ⟨nsnd, fun e he => (mem _).mpr ((h2 _).mpr ⟨e, he, rfl⟩), fun mid hm c => hm c, .inr ⟨by omega, h6⟩⟩ r4
abbrev nGroups : List Str := ["track", "found", "event"]
theorem scGroups : FnScope nGroups ["track"] (defScope sGroups) := ⟨rfl, rfl, rfl, by decide +kernel, rfl, by decide +kernel, by decide +kernel⟩
def OneTick (g : List AEv) : Prop := ∃ τ : Int, ∀ e ∈ g, e.2.1 = τ
def spGroups : Sp := fun vs H Q _ => ∃ (a : Addr) (es : List AEv), vs = [.ref a] ∧ H a = some (.lst (refs es)) ∧ TL evV H es ∧ es.length ≤ 40 ∧
  ∀ (H' : Hp) (l : Addr) (gs : List Grp), Same H H' → H' l = some (.lst (refs gs)) → GL H' gs → (gs.map (·.2)).flatten = es → (∀ g ∈ gs, g.2 ≠ [] ∧ OneTick g.2) → Q (.ref l) H'
structure GR (H0 H : Hp) (fo : Addr) (gs : List Grp) (n : Nat) : Prop where
  sm : Same H0 H
  hf : H fo = some (.lst (refs gs))
  gl : GL H gs
  f0 : H0 fo = none
  fr : ∀ g ∈ gs, H0 g.1 = none ∧ g.1 ≠ fo
  nd : (gs.map (·.1)).Nodup
  len : (∀ g ∈ gs, g.2.length ≤ n) ∧ gs.length ≤ n ∧ n ≤ 40
theorem GR.same {H0 H H' : Hp} {fo : Addr} {gs : List Grp} {n : Nat} (p : GR H0 H fo gs n) (e : Same H H') : GR H0 H' fo gs n := { p with sm := p.sm.trans e, hf := e _ _ p.hf, gl := p.gl.same e }
theorem GR.new {H0 H : Hp} {fo D : Addr} {gs : List Grp} {n : Nat} (p : GR H0 H fo gs n) (nD : H D = none) (hn : n < 40) : GR H0 (upd (upd H D (.lst [])) fo (.lst (refs gs ++ [.ref D]))) fo (gs ++ [(D, [])]) (n + 1) := by
  have s1 : Same H (upd H D (.lst [])) := Same.new nD
  have Df : D ≠ fo := fun z => by rw [z, p.hf] at nD; cases nD
  refine ⟨(p.sm.trans s1).put p.f0, by rw [upd_same, refs_app]; rfl, fun g hg => ?_, p.f0, fun g hg => ?_, ?_, ?_⟩
  · rcases List.mem_append.mp hg with hg | hg
    · rw [upd_ne (p.fr g hg).2]; exact s1 _ _ (p.gl g hg)
    · rw [List.mem_singleton.mp hg, upd_ne Df, upd_same]; rfl
  · rcases List.mem_append.mp hg with hg | hg
    · exact p.fr g hg
    · rw [List.mem_singleton.mp hg]; exact ⟨p.sm.free nD, Df⟩
  · rw [List.map_append, List.nodup_append]
    refine ⟨p.nd, by simp, fun x hx y hy => ?_⟩
    obtain ⟨g, hg, rfl⟩ := List.mem_map.mp hx
    rw [List.map_cons, List.map_nil, List.mem_singleton] at hy
    rw [hy]
    exact ne_of_none (p.gl g hg) nD
  · obtain ⟨a, b, c⟩ := p.len
    refine ⟨fun g hg => ?_, by rw [List.length_append]; show gs.length + 1 ≤ n + 1; omega, by omega⟩
    rcases List.mem_append.mp hg with hg | hg
    · have := a g hg; omega
    · rw [List.mem_singleton.mp hg]; exact Nat.zero_le _
theorem GR.app {H0 H : Hp} {fo A : Addr} {ini : List Grp} {L : List AEv} {e : AEv} {n m : Nat} (p : GR H0 H fo (ini ++ [(A, L)]) n) (hm : L.length + 1 ≤ m) (hn : n ≤ m) (h40 : m ≤ 40) : GR H0 (upd H A (.lst (refs L ++ [.ref e.1]))) fo (ini ++ [(A, L ++ [e])]) m := by
  have hA := p.fr (A, L) (List.mem_append_right _ (List.mem_singleton.mpr rfl))
  obtain ⟨a, b, c⟩ := p.len
  refine ⟨p.sm.put hA.1, by rw [upd_ne hA.2.symm, p.hf]; rw [refs_app, refs_app]; rfl, fun g hg => ?_, p.f0, fun g hg => ?_, ?_, fun g hg => ?_, by rw [List.length_append] at b ⊢; show ini.length + 1 ≤ m; have : ini.length + 1 ≤ n := b; omega, h40⟩
  · rcases List.mem_append.mp hg with hg | hg
    · have hne : g.1 ≠ A := by
        have := p.nd
        rw [List.map_append, List.nodup_append] at this
        exact this.2.2 _ (List.mem_map_of_mem hg) _ (List.mem_singleton.mpr rfl)
      rw [upd_ne hne]; exact p.gl g (List.mem_append_left _ hg)
    · rw [List.mem_singleton.mp hg, upd_same, refs_app]; rfl
  · rcases List.mem_append.mp hg with hg | hg
    · exact p.fr g (List.mem_append_left _ hg)
    · rw [List.mem_singleton.mp hg]; exact hA
  · have := p.nd
    rw [List.map_append] at this ⊢
    exact this
  · rcases List.mem_append.mp hg with hg | hg
    · have := a g (List.mem_append_left _ hg); omega
    · rw [List.mem_singleton.mp hg, List.length_append]; exact hm
theorem snoc_of {α : Type} : ∀ (l : List α), l = [] ∨ ∃ ini x, l = ini ++ [x]
  | [] => .inl rfl
  | x :: r => by
    rcases snoc_of r with rfl | ⟨ini, y, rfl⟩
    · exact .inr ⟨[], x, rfl⟩
    · exact .inr ⟨x :: ini, y, rfl⟩
theorem ok_groups (T : Txt K mg w) : Has P w K mg base 1 (gA K "groups") ["track"] spGroups := by
  obtain ⟨fd, F⟩ := T.fGroups
  have nd := scGroups.nd
  refine ⟨fd, F.ok scGroups (fun vs H Q E h => ?_) (fun cdv A outer s H vs Q E hr h => ⟨_, PSs.nox (
      pss_cons (ps_set (i := 1) nd rfl (.inl rfl) (pe_lst pa_nil))
      (pss_cons (ps_for PassesOwn.never rfl (pi_list (pv 0)) (pg_name (i := 2) nd rfl (.inl rfl))
        (pss_cons (ps_if (PW.pt (pw_or (pt_cmpR (op_eqNil hr.units0) (pv 1) (pe_lst pa_nil) (nomark _)) (pw_or1 (pt_cmpR op_ne (pe_ix ix_tup (pe_ix ix_list (pe_ix ix_list (pv 1) (pe_un un_neg pe_int) (fun _ _ => rfl)) pe_int (fun _ _ => rfl)) pe_int (fun _ _ => rfl)) (pe_ix ix_tup (pv 2) pe_int (fun _ _ => rfl)) (nomark _)))))
          (pss_one (ps_expr (pe_bm PySem.F.plainAttrs_list PySem.F.slot_list_append PySem.F.type_list_append mt_append (pv 1) (pa_cons (pe_lst pa_nil) pa_nil)))) pss_nil)
        (pss_one (ps_expr (pe_bm PySem.F.plainAttrs_list PySem.F.slot_list_append PySem.F.type_list_append mt_append (pe_ix ix_list (pv 1) (pe_un un_neg pe_int) (fun _ _ => rfl)) (pa_cons (pv 2) pa_nil))))))
      (pss_one (ps_ret (pv 1))))), ?_⟩), F.bindsN fun _ _ _ _ _ _ us hl => match us, hl with | [_], _ => rfl, F.kp⟩
  · obtain ⟨a, es, rfl, _⟩ := h
    rfl
  · obtain ⟨a, es, rfl, ha, he, hlen, q⟩ := h
    have big : sizeLine > 1000 := by decide
    refine ⟨by show 0 ≤ sizeLine; decide, fun fo nfo => ?_⟩
    have s1 : Same H (upd H fo (.lst [])) := Same.new nfo
    have P0 : GR H (upd H fo (.lst [])) fo [] 0 := ⟨s1, upd_same, fun g hg => (by cases hg), nfo, fun g hg => (by cases hg), List.nodup_nil, fun g hg => (by cases hg), Nat.le_refl _, by omega⟩
    refine ⟨_, rfl, a, rfl, ⟨_, SqL.of (s1 _ _ ha)⟩, for_list (xs := refs es) (fun i σ H' => (∃ x2, σ = [some (.ref a), some (.ref fo), x2]) ∧ ∃ gs : List Grp, GR H H' fo gs i ∧ (gs.map (·.2)).flatten = es.take i ∧ ∀ g ∈ gs, g.2 ≠ [] ∧ OneTick g.2) ⟨⟨_, rfl⟩, [], P0, rfl, fun g hg => (by cases hg)⟩ (fun i σ H' _ h => by obtain ⟨_, gs, p, _⟩ := h; exact SqL.of (p.sm _ _ ha)) ?_ ?_⟩
    · rintro i x σ H1 hi ⟨⟨x2, rfl⟩, gs, p, hfl, hone⟩
      obtain ⟨z, hz, rfl⟩ := refs_get hi
      have zm := List.mem_of_getElem? hz
      have i40 : i < 40 := by have := (List.getElem?_eq_some_iff.mp hz).1; omega
      have et := take_snoc hz
      refine ⟨_, rfl, by show 0 ≤ sizeLine; decide, fun e1 n1 => ?_⟩
      have p1 := p.same (Same.new (o := .lst []) n1)
      refine ⟨fo, _, e1, rfl, SqL.of p1.hf, rfl, SqL.of upd_same, _, rfl, ?_⟩
      generalize upd H1 e1 (.lst []) = H2 at *
      rcases snoc_of gs with rfl | ⟨ini, ⟨A, L⟩, rfl⟩
      · refine iteT (iteT ?_)
        refine ⟨_, rfl, .inl ⟨rfl, _, SqL.of p1.hf⟩, by show 0 ≤ sizeLine; decide, fun D nD => ?_⟩
        have pf := (Same.new (o := .lst []) nD) _ _ p1.hf
        refine ⟨fo, _, _, rfl, rfl, pf, by rw [refs_len]; show 0 < sizeLine; omega, ?_⟩
        have p2 := p1.new nD i40
        have hA := p2.gl (D, []) (by simp)
        refine ⟨_, rfl, _, rfl, fo, _, _, _, rfl, rfl, SqL.of p2.hf, rfl, .inl ⟨rfl, _, SqL.of hA⟩, _, rfl, D, _, _, rfl, rfl, hA, by show 0 < sizeLine; omega, ⟨_, rfl⟩, [(D, [z])], p2.app (ini := []) (e := z) (by show 1 ≤ i + 1; omega) (Nat.le_refl _) (by omega), ?_, ?_⟩
        · rw [et, ← hfl]; rfl
        · intro g hg
          rw [List.mem_singleton.mp hg]
          exact ⟨by simp, z.2.1, fun e he => by rw [List.mem_singleton.mp he]⟩
      · have hA := p1.gl (A, L) (by simp)
        obtain ⟨hLn, τ, hτ⟩ := hone (A, L) (by simp)
        obtain ⟨y, r, rfl⟩ : ∃ y r, L = y :: r := by cases L with | nil => exact absurd rfl hLn | cons y r => exact ⟨y, r, rfl⟩
        have ym : y ∈ es := by
          have : y ∈ ((ini ++ [(A, y :: r)]).map (·.2)).flatten := by simp
          rw [hfl] at this
          exact List.mem_of_mem_take this
        have hy := p1.sm _ _ (he y ym)
        have hz2 := p1.sm _ _ (he z zm)
        have hne : (refs (ini ++ [(A, y :: r)])).isEmpty = false := by rw [refs_app]; cases refs ini <;> rfl
        rw [hne]
        refine iteF ⟨_, rfl, _, rfl, fo, _, _, _, rfl, rfl, SqL.of p1.hf, by rw [refs_app]; exact atI_last _ _, A, _, _, _, rfl, rfl, SqL.of hA, at0, y.1, _, _, _, rfl, rfl, SqT.of hy, at0, _, rfl, z.1, _, _, _, rfl, rfl, SqT.of hz2, at0, rfl, _, rfl, ?_⟩
        by_cases htk : y.2.1 = z.2.1
        · refine ifNY (by rw [htk]) ?_
          obtain ⟨l1, l2, l3⟩ := p1.len
          have lL := l1 (A, y :: r) (by simp)
          refine ⟨_, rfl, _, rfl, fo, _, _, V.ref A, rfl, rfl, SqL.of p1.hf, by rw [refs_app]; exact atI_last _ _, .inl ⟨rfl, _, SqL.of hA⟩, _, rfl, A, _, _, rfl, rfl, hA, by rw [refs_len]; have : (y :: r).length ≤ i := lL; omega, ⟨_, rfl⟩, _, p1.app (e := z) (by have : (y :: r).length ≤ i := lL; omega) (Nat.le_succ _) (by omega), ?_, ?_⟩
          · rw [et, ← hfl]; simp
          · intro g hg
            rcases List.mem_append.mp hg with hg | hg
            · exact hone g (List.mem_append_left _ hg)
            · rw [List.mem_singleton.mp hg]
              refine ⟨by simp, τ, fun e he => ?_⟩
              rcases List.mem_append.mp he with he | he
              · exact hτ e he
              · rw [List.mem_singleton.mp he, ← htk]; exact hτ y List.mem_cons_self
        · refine ifNN (fun q => htk (by injection q)) ?_
          refine ⟨_, rfl, .inl ⟨rfl, _, SqL.of p1.hf⟩, by show 0 ≤ sizeLine; decide, fun D nD => ?_⟩
          have pf := (Same.new (o := .lst []) nD) _ _ p1.hf
          obtain ⟨l1, l2, l3⟩ := p1.len
          refine ⟨fo, _, _, rfl, rfl, pf, by rw [refs_len]; omega, ?_⟩
          have p2 := p1.new nD i40
          have hA := p2.gl (D, []) (by simp)
          refine ⟨_, rfl, _, rfl, fo, _, _, V.ref D, rfl, rfl, SqL.of p2.hf, by rw [refs_app]; exact atI_last _ _, .inl ⟨rfl, _, SqL.of hA⟩, _, rfl, D, _, _, rfl, rfl, hA, by show 0 < sizeLine; omega, ⟨_, rfl⟩, _, p2.app (e := z) (by show 1 ≤ i + 1; omega) (Nat.le_refl _) (by omega), ?_, ?_⟩
          · rw [et, ← hfl]; simp
          · intro g hg
            rcases List.mem_append.mp hg with hg | hg
            · exact hone g hg
            · rw [List.mem_singleton.mp hg]
              exact ⟨by simp, z.2.1, fun e he => by rw [List.mem_singleton.mp he]⟩
    · rintro σ H1 ⟨⟨x2, rfl⟩, gs, p, hfl, hone⟩
      rw [refs_len, List.take_length] at hfl
      exact ⟨_, rfl, q H1 fo gs p.sm p.hf p.gl hfl hone⟩
end
end L2.RK
namespace L2.RK
open PySem PySem.Spec PyProof.Rows
/-! plain: how orders are mixed from rows -/
/-- the number of distinct small numbers -/
theorem nodup_lt : ∀ (N : Nat) (l : List Nat), l.Nodup → (∀ x ∈ l, x < N) → l.length ≤ N
  | 0, [], _, _ => Nat.le_refl _
  | 0, x :: r, _, h => absurd (h x List.mem_cons_self) (by omega)
  | N + 1, l, hn, h => by
    have h1 := nodup_lt N (l.filter fun x => decide (x ≠ N)) (List.Pairwise.filter _ hn) fun x hx => by
      obtain ⟨a, b⟩ := List.mem_filter.mp hx
      have := h x a
      have : x ≠ N := by simpa using b
      omega
    have h2 : ∀ l : List Nat, l.Nodup → l.length ≤ (l.filter fun x => decide (x ≠ N)).length + 1 := by
      intro l
      induction l with
      | nil => intro _; exact Nat.zero_le _
      | cons x r ih =>
        intro hn
        obtain ⟨a, b⟩ := List.nodup_cons.mp hn
        by_cases hx : x = N
        · subst hx
          rw [List.filter_cons_of_neg (by simp), List.filter_eq_self.mpr]
          · exact Nat.le_refl _
          · intro y hy
            have : y ≠ x := fun z => a (z ▸ hy)
            simpa using this
        · rw [List.filter_cons_of_pos (by simpa using hx), List.length_cons, List.length_cons]
          have := ih b
          omega
    have := h2 l hn
    omega
def encL (b : Nat) : List Nat → Nat
  | [] => 0
  | p :: r => p + b * encL b r
theorem encL_lt {b : Nat} (hb : 0 < b) : ∀ ps : List Nat, (∀ p ∈ ps, p < b) → encL b ps < b ^ ps.length
  | [], _ => by show 0 < b ^ 0; simp
  | p :: r, h => by
    have h1 := encL_lt hb r fun q hq => h q (List.mem_cons_of_mem _ hq)
    have h2 := h p List.mem_cons_self
    show p + b * encL b r < b ^ (r.length + 1)
    rw [Nat.pow_succ]
    have : b * (encL b r + 1) ≤ b * b ^ r.length := Nat.mul_le_mul_left _ h1
    rw [Nat.mul_add] at this
    rw [Nat.mul_comm (b ^ r.length)]
    omega
theorem encL_inj {b : Nat} : ∀ ps qs : List Nat, ps.length = qs.length → (∀ p ∈ ps, p < b) → (∀ p ∈ qs, p < b) → encL b ps = encL b qs → ps = qs
  | [], [], _, _, _, _ => rfl
  | [], _ :: _, h, _, _, _ => by cases h
  | _ :: _, [], h, _, _, _ => by cases h
  | p :: r, q :: s, h, h1, h2, e => by
    have a1 := h1 p List.mem_cons_self
    have a2 := h2 q List.mem_cons_self
    have e' : p + b * encL b r = q + b * encL b s := e
    have m1 : (p + b * encL b r) % b = p := by rw [Nat.add_mul_mod_self_left, Nat.mod_eq_of_lt a1]
    have m2 : (q + b * encL b s) % b = q := by rw [Nat.add_mul_mod_self_left, Nat.mod_eq_of_lt a2]
    have epq : p = q := by rw [← m1, ← m2, e']
    subst epq
    have e2 : b * encL b r = b * encL b s := by omega
    have e3 : encL b r = encL b s := Nat.eq_of_mul_eq_mul_left (by omega) e2
    rw [encL_inj r s (by simpa using h) (fun x hx => h1 x (List.mem_cons_of_mem _ hx)) (fun x hx => h2 x (List.mem_cons_of_mem _ hx)) e3]
def hcode (h : Int) : Nat := if h = 0 then 0 else (h - 127).toNat
theorem hcode_lt {h : Int} (x : HeadOk h) : hcode h < 65 := by
  unfold hcode
  rcases x with x | ⟨a, b⟩
  · rw [if_pos x]; omega
  · rw [if_neg (by omega)]; omega
theorem hcode_inj {h h' : Int} (x : HeadOk h) (y : HeadOk h') (e : hcode h = hcode h') : h = h' := by
  unfold hcode at e
  rcases x with x | ⟨a, b⟩
  · rcases y with y | ⟨c, d⟩
    · rw [x, y]
    · rw [if_pos x, if_neg (by omega)] at e; omega
  · rcases y with y | ⟨c, d⟩
    · rw [if_neg (by omega), if_pos y] at e; omega
    · rw [if_neg (by omega), if_neg (by omega)] at e; omega
def KeyB (b R : Nat) (k : NK) : Prop := HeadOk k.2 ∧ ∃ ps : List Nat, k.1 = ps.map (fun n : Nat => (n : Int)) ∧ ps.length = R ∧ ∀ p ∈ ps, p < b
def kcode (b : Nat) (k : NK) : Nat := encL b (k.1.map Int.toNat) * 65 + hcode k.2
theorem toNat_map (ps : List Nat) : (ps.map (fun n : Nat => (n : Int))).map Int.toNat = ps := by
  rw [List.map_map]
  conv => rhs; rw [← List.map_id ps]
  rfl
theorem keys_bound {b R : Nat} (hb : 0 < b) {ks : List NK} (hn : ks.Nodup) (h : ∀ k ∈ ks, KeyB b R k) : ks.length ≤ b ^ R * 65 := by
  have inj : ∀ k ∈ ks, ∀ k' ∈ ks, kcode b k = kcode b k' → k = k' := fun k hk k' hk' e => by
    obtain ⟨h1, ps, e1, l1, b1⟩ := h k hk
    obtain ⟨h2, qs, e2, l2, b2⟩ := h k' hk'
    unfold kcode at e
    rw [e1, e2, toNat_map, toNat_map] at e
    have c1 := hcode_lt h1
    have c2 := hcode_lt h2
    have e3 : encL b ps = encL b qs := by omega
    have e4 : hcode k.2 = hcode k'.2 := by omega
    have e5 := encL_inj ps qs (by omega) b1 b2 e3
    have e6 := hcode_inj h1 h2 e4
    refine Prod.ext ?_ e6
    rw [e1, e2, e5]
  have := nodup_lt (b ^ R * 65) (ks.map (kcode b)) (nodup_map hn inj) fun x hx => by
    obtain ⟨k, hk, rfl⟩ := List.mem_map.mp hx
    obtain ⟨h1, ps, e1, l1, b1⟩ := h k hk
    unfold kcode
    rw [e1, toNat_map]
    have c1 := hcode_lt h1
    have c2 := encL_lt hb ps b1
    rw [l1] at c2
    have : (encL b ps + 1) * 65 ≤ b ^ R * 65 := Nat.mul_le_mul_right _ c2
    omega
  rw [List.length_map] at this
  exact this
/-- a list falls into its parts -/
theorem parts_len {α : Type} {key : α → Int} : ∀ {names : List Int}, names.Nodup → ∀ l : List α, (∀ e ∈ l, key e ∈ names) → l.length = (names.map fun n => (l.filter fun e => decide (key e = n)).length).sum
  | [], _, l, h => by
    cases l with
    | nil => rfl
    | cons x r => exact absurd (h x List.mem_cons_self) (by simp)
  | n :: ns, hn, l, h => by
    obtain ⟨h1, h2⟩ := List.nodup_cons.mp hn
    have e1 := parts_len h2 (l.filter fun e => decide (key e ≠ n)) fun e he => by
      obtain ⟨a, b⟩ := List.mem_filter.mp he
      have b' : key e ≠ n := by simpa using b
      rcases List.mem_cons.mp (h e a) with z | z
      · exact absurd z b'
      · exact z
    have e2 : (ns.map fun m => ((l.filter fun e => decide (key e ≠ n)).filter fun e => decide (key e = m)).length) = ns.map fun m => (l.filter fun e => decide (key e = m)).length := by
      refine List.map_congr_left fun m hm => ?_
      rw [List.filter_filter]
      congr 1
      refine List.filter_congr fun e _ => ?_
      by_cases q : key e = m
      · have : key e ≠ n := fun z => h1 (by rw [← z, q]; exact hm)
        simp [q, show m ≠ n from fun z => this (q.trans z)]
      · simp [q]
    rw [e2] at e1
    rw [List.map_cons, List.sum_cons, ← e1]
    clear e1 e2 h h1 h2 hn
    induction l with
    | nil => rfl
    | cons x r ih =>
      by_cases q : key x = n
      · rw [List.filter_cons_of_pos (by simpa using q), List.filter_cons_of_neg (by simpa using q), List.length_cons, List.length_cons, ih]; omega
      · rw [List.filter_cons_of_neg (by simpa using q), List.filter_cons_of_pos (by simpa using q), List.length_cons, List.length_cons, ih]; omega
theorem sum_eq_each {α : Type} (f g : α → Nat) : ∀ l : List α, (∀ x ∈ l, f x ≤ g x) → (l.map f).sum = (l.map g).sum → ∀ x ∈ l, f x = g x
  | [], _, _, x, hx => by cases hx
  | y :: r, h, e, x, hx => by
    rw [List.map_cons, List.map_cons, List.sum_cons, List.sum_cons] at e
    have h1 := h y List.mem_cons_self
    have le : ∀ l : List α, (∀ x ∈ l, f x ≤ g x) → (l.map f).sum ≤ (l.map g).sum := by
      intro l
      induction l with
      | nil => intro _; exact Nat.le_refl _
      | cons z s ih =>
        intro hh
        rw [List.map_cons, List.map_cons, List.sum_cons, List.sum_cons]
        have := hh z List.mem_cons_self
        have := ih fun q hq => hh q (List.mem_cons_of_mem _ hq)
        omega
    have h2 := le r fun q hq => h q (List.mem_cons_of_mem _ hq)
    rcases List.mem_cons.mp hx with rfl | hx
    · omega
    · exact sum_eq_each f g r (fun q hq => h q (List.mem_cons_of_mem _ hq)) (by omega) x hx
/-- an arrangement: each lane's own order, the ticks as they were -/
structure Arr (es os : List AEv) : Prop where
  lane : ∀ c : Int, os.filter (fun e => decide (lk e = c)) = es.filter (fun e => decide (lk e = c))
  tick : os.map (fun e => e.2.1) = es.map (fun e => e.2.1)
theorem Arr.nil : Arr [] [] := ⟨fun _ => rfl, rfl⟩
theorem Arr.app {a b c d : List AEv} (x : Arr a b) (y : Arr c d) : Arr (a ++ c) (b ++ d) := ⟨fun n => by rw [List.filter_append, List.filter_append, x.lane, y.lane], by rw [List.map_append, List.map_append, x.tick, y.tick]⟩
theorem Arr.len {a b : List AEv} (x : Arr a b) : b.length = a.length := by have := congrArg List.length x.tick; rwa [List.length_map, List.length_map] at this
theorem Arr.mem {a b : List AEv} (x : Arr a b) {e : AEv} (h : e ∈ b) : e ∈ a := by
  have : e ∈ b.filter (fun y => decide (lk y = lk e)) := List.mem_filter.mpr ⟨h, by simp⟩
  rw [x.lane] at this
  exact (List.mem_filter.mp this).1
def rowOf (key : AEv → Int) (g : List AEv) (n : Int) : List AEv := g.filter fun e => decide (key e = n)
structure OkP (key : AEv → Int) (names : List Int) (g done : List AEv) (ps : List Nat) (os : List AEv) (s : Nat) : Prop where
  len : ps.length = names.length
  mix : ∃ base mid : List AEv, os = base ++ mid ∧ Arr done base ∧ (∀ (i : Nat) (n : Int) (p : Nat), names[i]? = some n → ps[i]? = some p → mid.filter (fun e => decide (key e = n)) = (rowOf key g n).take p ∧ p ≤ (rowOf key g n).length) ∧ (∀ e ∈ mid, key e ∈ names) ∧ mid.length = s
theorem OkP.start {key : AEv → Int} {names : List Int} {g done base : List AEv} (h : Arr done base) : OkP key names g done (names.map fun _ => 0) base 0 :=
  ⟨List.length_map .., base, [], (List.append_nil _).symm, h, fun i n p h1 h2 => by
    rw [List.getElem?_map, h1] at h2
    obtain rfl : 0 = p := Option.some.inj h2
    exact ⟨rfl, Nat.zero_le _⟩, fun e he => (by cases he), rfl⟩
theorem OkP.bound {key : AEv → Int} {names : List Int} {g done : List AEv} {ps : List Nat} {os : List AEv} {s : Nat} (x : OkP key names g done ps os s) : ∀ p ∈ ps, p < g.length + 1 := fun p hp => by
  obtain ⟨base, mid, _, _, h, _⟩ := x.mix
  obtain ⟨i, hi, e⟩ := List.mem_iff_getElem.mp hp
  have h2 : i < names.length := by rw [← x.len]; exact hi
  have := (h i names[i] p (List.getElem?_eq_getElem h2) (by rw [List.getElem?_eq_getElem hi, e])).2
  have h3 := List.length_filter_le (fun e => decide (key e = names[i])) g
  have h4 : (rowOf key g names[i]).length ≤ g.length := h3
  omega
theorem place_inj {α : Type} {l : List α} (hn : l.Nodup) {i j : Nat} {x : α} (a : l[i]? = some x) (b : l[j]? = some x) : i = j := by
  obtain ⟨ha, ea⟩ := List.getElem?_eq_some_iff.mp a
  obtain ⟨hb, eb⟩ := List.getElem?_eq_some_iff.mp b
  exact (List.getElem_inj (h₀ := ha) (h₁ := hb) hn).mp (ea.trans eb.symm)
/-- one step -/
theorem OkP.step {key : AEv → Int} {names : List Int} {g done : List AEv} {ps : List Nat} {os : List AEv} {s i p : Nat} {n : Int} {e : AEv} (x : OkP key names g done ps os s) (hn : names.Nodup) (h1 : names[i]? = some n) (h2 : ps[i]? = some p) (h3 : (rowOf key g n)[p]? = some e) :
    OkP key names g done (ps.set i (p + 1)) (os ++ [e]) (s + 1) := by
  obtain ⟨base, mid, rfl, ha, h, hk, hl⟩ := x.mix
  have ke : key e = n := by
    have := List.mem_of_getElem? h3
    simpa [rowOf] using (List.mem_filter.mp this).2
  refine ⟨by rw [List.length_set]; exact x.len, base, mid ++ [e], by rw [List.append_assoc], ha, fun j m q e1 e2 => ?_, fun y hy => ?_, by rw [List.length_append, hl]; rfl⟩
  · by_cases hij : j = i
    · subst hij
      rw [h1] at e1
      obtain rfl : n = m := Option.some.inj e1
      have hi : j < ps.length := (List.getElem?_eq_some_iff.mp h2).1
      rw [List.getElem?_set_self hi] at e2
      obtain rfl : p + 1 = q := Option.some.inj e2
      rw [filter_yes (fun e => decide (key e = n)) _ (decide_eq_true ke), (h j n p h1 h2).1, take_snoc h3]
      exact ⟨rfl, (List.getElem?_eq_some_iff.mp h3).1⟩
    · rw [List.getElem?_set_ne (fun z => hij z.symm)] at e2
      have hne : key e ≠ m := fun z => by
        rw [ke] at z
        subst z
        exact hij (place_inj hn e1 h1)
      rw [filter_no (fun e => decide (key e = m)) _ (by simpa using hne)]
      exact h j m q e1 e2
  · rcases List.mem_append.mp hy with hy | hy
    · exact hk y hy
    · rw [List.mem_singleton.mp hy, ke]
      exact List.mem_of_getElem? h1
/-- somewhere a row goes on -/
theorem OkP.goes {key : AEv → Int} {names : List Int} {g done : List AEv} {ps : List Nat} {os : List AEv} {s : Nat} (x : OkP key names g done ps os s) (L : LaneKey key names g) (hs : s < g.length) : ∃ (i : Nat) (n : Int) (p : Nat), names[i]? = some n ∧ ps[i]? = some p ∧ p < (rowOf key g n).length := by
  obtain ⟨base, mid, rfl, ha, h, hk, hl⟩ := x.mix
  refine Classical.byContradiction fun hno => ?_
  have e1 := parts_len L.nd mid hk
  have e2 := parts_len L.nd g L.cov
  have e3 : (names.map fun n => (mid.filter fun e => decide (key e = n)).length) = names.map fun n => (g.filter fun e => decide (key e = n)).length := by
    refine List.map_congr_left fun n hn => ?_
    obtain ⟨i, hi, en⟩ := List.mem_iff_getElem.mp hn
    have hi2 : i < ps.length := by rw [x.len]; exact hi
    have a := h i n ps[i] (by rw [List.getElem?_eq_getElem hi, en]) (List.getElem?_eq_getElem hi2)
    have b : ¬ ps[i] < (rowOf key g n).length := fun z => hno ⟨i, n, ps[i], by rw [List.getElem?_eq_getElem hi, en], List.getElem?_eq_getElem hi2, z⟩
    rw [a.1, List.take_of_length_le (by omega)]; rfl
  rw [e3, ← e2, hl] at e1
  omega
/-- the rows are through -/
theorem OkP.full {key : AEv → Int} {names : List Int} {g done : List AEv} {ps : List Nat} {os : List AEv} (x : OkP key names g done ps os g.length) (L : LaneKey key names g) (ot : OneTick g) : Arr (done ++ g) os := by
  obtain ⟨base, mid, rfl, ha, h, hk, hl⟩ := x.mix
  have e1 := parts_len L.nd mid hk
  have e2 := parts_len L.nd g L.cov
  have each : ∀ n ∈ names, (mid.filter fun e => decide (key e = n)).length ≤ (g.filter fun e => decide (key e = n)).length ∧ ∃ p, mid.filter (fun e => decide (key e = n)) = (rowOf key g n).take p := fun n hn => by
    obtain ⟨i, hi, en⟩ := List.mem_iff_getElem.mp hn
    have hi2 : i < ps.length := by rw [x.len]; exact hi
    have a := h i n ps[i] (by rw [List.getElem?_eq_getElem hi, en]) (List.getElem?_eq_getElem hi2)
    refine ⟨?_, ps[i], a.1⟩
    rw [a.1, List.length_take]
    exact Nat.min_le_right _ _
  have e3 := sum_eq_each (fun n => (mid.filter fun e => decide (key e = n)).length) (fun n => (g.filter fun e => decide (key e = n)).length) names (fun n hn => (each n hn).1) (by omega)
  have key_eq : ∀ n : Int, mid.filter (fun e => decide (key e = n)) = g.filter (fun e => decide (key e = n)) := fun n => by
    by_cases hn : n ∈ names
    · obtain ⟨p, ep⟩ := (each n hn).2
      have l1 := e3 n hn
      rw [ep] at l1 ⊢
      rw [List.length_take] at l1
      exact List.take_of_length_le (by show (rowOf key g n).length ≤ p; have : min p (rowOf key g n).length = (rowOf key g n).length := l1; omega)
    · rw [List.filter_eq_nil_iff.mpr, List.filter_eq_nil_iff.mpr]
      · intro e he z
        exact hn (by have := L.cov e he; rwa [of_decide_eq_true z] at this)
      · intro e he z
        exact hn (by have := hk e he; rwa [of_decide_eq_true z] at this)
  have lane := L.fine mid key_eq
  have memg : ∀ e ∈ mid, e ∈ g := fun e he => by
    have : e ∈ mid.filter (fun y => decide (key y = key e)) := List.mem_filter.mpr ⟨he, by simp⟩
    rw [key_eq] at this
    exact (List.mem_filter.mp this).1
  obtain ⟨τ, hτ⟩ := ot
  have const : ∀ l : List AEv, (∀ e ∈ l, e.2.1 = τ) → l.map (fun e => e.2.1) = List.replicate l.length τ := by
    intro l
    induction l with
    | nil => intro _; rfl
    | cons y r ih => intro hh; rw [List.map_cons, ih fun e he => hh e (List.mem_cons_of_mem _ he), hh y List.mem_cons_self]; rfl
  exact ha.app ⟨lane, by rw [const mid fun e he => hτ e (memg e he), const g hτ, hl]⟩
end L2.RK
namespace L2.RK
open PySem PySem.Spec PyProof.Rows
/-! plain law: what sounds alike -/
def appE (S : Snd) (l : List Ev) : Snd := l.foldl (fun S e => stepS S e.2) S
theorem appE_app (S : Snd) (a b : List Ev) : appE S (a ++ b) = appE (appE S a) b := List.foldl_append ..
def upTo (m : Int) (l : List Ev) : List Ev := l.filter fun e => decide (e.1 ≤ m)
def past (m : Int) (l : List Ev) : List Ev := l.filter fun e => decide (m < e.1)
def mtE (M : Int → Int × Int) (e : Ev) : MT := (M e.1, e.2)
theorem appS_mtE (M : Int → Int × Int) : ∀ (l : List Ev) (S : Snd), appS S (l.map (mtE M)) = appE S l
  | [], _ => rfl
  | e :: r, S => appS_mtE M r (stepS S e.2)
structure Tk (l : List Ev) : Prop where
  srt : l.Pairwise fun a b => a.1 ≤ b.1
  nn : ∀ e ∈ l, 0 ≤ e.1
structure MonoM (M : Int → Int × Int) : Prop where
  inj : ∀ s t, 0 ≤ s → 0 ≤ t → M s = M t → s = t
  ahead : ∀ s t, 0 ≤ s → 0 ≤ t → ((M s).1 * (M t).2 < (M t).1 * (M s).2 ↔ s < t)
theorem Tk.sub {a b : List Ev} (h : Tk b) (s : a.Sublist b) : Tk a := ⟨h.srt.sublist s, fun e he => h.nn e (s.subset he)⟩
theorem Tk.past {l : List Ev} (h : Tk l) (m : Int) : Tk (past m l) := h.sub List.filter_sublist
theorem split_at {l : List Ev} (h : l.Pairwise fun a b => a.1 ≤ b.1) (m : Int) : upTo m l ++ past m l = l := by
  unfold upTo past
  induction l with
  | nil => rfl
  | cons e r ih =>
    obtain ⟨h1, h2⟩ := List.pairwise_cons.mp h
    by_cases c : e.1 ≤ m
    · rw [List.filter_cons_of_pos (by simpa using c), List.filter_cons_of_neg (by simp; omega), List.cons_append, ih h2]
    · have e1 : (e :: r).filter (fun e => decide (e.1 ≤ m)) = [] := List.filter_eq_nil_iff.mpr fun x hx => by
        rcases List.mem_cons.mp hx with rfl | hx
        · simpa using c
        · have := h1 x hx
          simp only [decide_eq_true_eq]; omega
      have e2 : (e :: r).filter (fun e => decide (m < e.1)) = e :: r := List.filter_eq_self.mpr fun x hx => by
        rcases List.mem_cons.mp hx with rfl | hx
        · simp only [decide_eq_true_eq]; omega
        · have := h1 x hx
          simp only [decide_eq_true_eq]; omega
      rw [e1, e2]; rfl
theorem upTo_max {l : List Ev} (h : l.Pairwise fun a b => a.1 ≤ b.1) (k m : Int) (hk : k ≤ m) : upTo m l = upTo k l ++ upTo m (past k l) := by
  conv => lhs; rw [← split_at h k]
  unfold upTo
  rw [List.filter_append]
  congr 1
  exact List.filter_eq_self.mpr fun x hx => by
    have := (List.mem_filter.mp hx).2
    simp only [decide_eq_true_eq] at this ⊢; omega
theorem upTo_past_lo {l : List Ev} {k m : Int} (hk : m ≤ k) : upTo m (past k l) = [] := List.filter_eq_nil_iff.mpr fun x hx => by
  have := (List.mem_filter.mp hx).2
  simp only [decide_eq_true_eq] at this ⊢; omega
theorem takeW {M : Int → Int × Int} (hM : MonoM M) {h : Int} (h0 : 0 ≤ h) : ∀ {l : List Ev}, Tk l → (∀ e ∈ l, h ≤ e.1) → (l.map (mtE M)).takeWhile (atM (M h)) = (upTo h l).map (mtE M) ∧ (l.map (mtE M)).dropWhile (atM (M h)) = (past h l).map (mtE M)
  | [], _, _ => ⟨rfl, rfl⟩
  | e :: r, T, hl => by
    have ih := takeW hM h0 (l := r) (T.sub (List.sublist_cons_self ..)) fun x hx => hl x (List.mem_cons_of_mem _ hx)
    have hle := hl e List.mem_cons_self
    by_cases c : e.1 = h
    · have ca : atM (M h) (mtE M e) = true := by unfold atM mtE; simp [c]
      unfold upTo past at ih ⊢
      rw [List.map_cons, List.takeWhile_cons_of_pos ca, List.dropWhile_cons_of_pos ca, ih.1, ih.2, List.filter_cons_of_pos (by simp; omega), List.filter_cons_of_neg (by simp; omega)]
      exact ⟨rfl, rfl⟩
    · have ca : ¬ atM (M h) (mtE M e) = true := by
        unfold atM mtE
        simp only [decide_eq_true_eq]
        exact fun z => c (hM.inj _ _ (T.nn e List.mem_cons_self) h0 z)
      obtain ⟨h1, h2⟩ := List.pairwise_cons.mp T.srt
      have e1 : upTo h (e :: r) = [] := List.filter_eq_nil_iff.mpr fun x hx => by
        rcases List.mem_cons.mp hx with rfl | hx
        · simp only [decide_eq_true_eq]; omega
        · have := h1 x hx
          simp only [decide_eq_true_eq]; omega
      have e2 : past h (e :: r) = e :: r := List.filter_eq_self.mpr fun x hx => by
        rcases List.mem_cons.mp hx with rfl | hx
        · simp only [decide_eq_true_eq]; omega
        · have := h1 x hx
          simp only [decide_eq_true_eq]; omega
      rw [e1, e2, List.map_cons, List.takeWhile_cons_of_neg ca, List.dropWhile_cons_of_neg ca]
      exact ⟨rfl, rfl⟩
def headT (xs ys : List Ev) : Int := match xs, ys with
  | [], [] => 0
  | r :: _, [] => r.1
  | [], o :: _ => o.1
  | r :: _, o :: _ => if o.1 < r.1 then o.1 else r.1
theorem headT_ok {M : Int → Int × Int} (hM : MonoM M) {xs ys : List Ev} (X : Tk xs) (Y : Tk ys) (hne : xs ≠ [] ∨ ys ≠ []) : 0 ≤ headT xs ys ∧ headM (xs.map (mtE M)) (ys.map (mtE M)) = M (headT xs ys) ∧ (∀ e ∈ xs, headT xs ys ≤ e.1) ∧ (∀ e ∈ ys, headT xs ys ≤ e.1) ∧
    (past (headT xs ys) xs).length + (past (headT xs ys) ys).length < xs.length + ys.length := by
  have lo : ∀ {l : List Ev} {e : Ev} {r : List Ev}, l = e :: r → Tk l → ∀ x ∈ l, e.1 ≤ x.1 := fun {l e r} q T x hx => by
    rw [q] at hx T
    rcases List.mem_cons.mp hx with rfl | hx
    · exact Int.le_refl _
    · exact (List.pairwise_cons.mp T.srt).1 x hx
  have len : ∀ (l : List Ev) (k : Int), (past k l).length ≤ l.length := fun l k => List.length_filter_le ..
  have lt : ∀ {e : Ev} {r : List Ev} {k : Int}, e.1 ≤ k → (past k (e :: r)).length < (e :: r).length := fun {e r k} h => by
    unfold past
    rw [List.filter_cons_of_neg (by simp; omega)]
    have := len r k
    unfold past at this
    rw [List.length_cons]; omega
  match xs, ys with
  | [], [] => exact absurd hne (by simp)
  | r :: xs, [] => exact ⟨X.nn r List.mem_cons_self, rfl, lo rfl X, fun e he => (by cases he), by have := lt (e := r) (r := xs) (k := r.1) (Int.le_refl _); show (past r.1 (r :: xs)).length + 0 < (r :: xs).length + 0; omega⟩
  | [], o :: ys => exact ⟨Y.nn o List.mem_cons_self, rfl, fun e he => (by cases he), lo rfl Y, by have := lt (e := o) (r := ys) (k := o.1) (Int.le_refl _); show 0 + (past o.1 (o :: ys)).length < 0 + (o :: ys).length; omega⟩
  | r :: xs, o :: ys =>
    have r0 := X.nn r List.mem_cons_self
    have o0 := Y.nn o List.mem_cons_self
    have hx := lo rfl X
    have hy := lo rfl Y
    have ea : (M o.1).1 * (M r.1).2 < (M r.1).1 * (M o.1).2 ↔ o.1 < r.1 := hM.ahead _ _ o0 r0
    by_cases c : o.1 < r.1
    · have e1 : headT (r :: xs) (o :: ys) = o.1 := if_pos c
      have e2 : headM ((r :: xs).map (mtE M)) ((o :: ys).map (mtE M)) = M o.1 := if_pos (ea.mpr c)
      rw [e1, e2]
      refine ⟨o0, rfl, fun e he => ?_, hy, ?_⟩
      · have := hx e he; omega
      · have := lt (e := o) (r := ys) (k := o.1) (Int.le_refl _)
        have := len (r :: xs) o.1
        omega
    · have e1 : headT (r :: xs) (o :: ys) = r.1 := if_neg c
      have e2 : headM ((r :: xs).map (mtE M)) ((o :: ys).map (mtE M)) = M r.1 := if_neg fun z => c (ea.mp z)
      rw [e1, e2]
      refine ⟨r0, rfl, hx, fun e he => ?_, ?_⟩
      · have := hy e he; omega
      · have := lt (e := r) (r := xs) (k := r.1) (Int.le_refl _)
        have := len (o :: ys) r.1
        omega
theorem run_none {M : Int → Int × Int} (hM : MonoM M) : ∀ (n : Nat) (xs ys : List Ev) (S S' : Snd), xs.length + ys.length ≤ n → Tk xs → Tk ys → (∀ m, appE S (upTo m xs) = appE S' (upTo m ys)) → Run (xs.map (mtE M)) (ys.map (mtE M)) S S' none
  | 0, xs, ys, S, S', hn, _, _, _ => by
    obtain rfl : xs = [] := List.eq_nil_of_length_eq_zero (by omega)
    obtain rfl : ys = [] := List.eq_nil_of_length_eq_zero (by omega)
    exact .done
  | n + 1, xs, ys, S, S', hn, X, Y, hl => by
    by_cases hne : xs ≠ [] ∨ ys ≠ []
    · obtain ⟨h0, eM, hx, hy, hlt⟩ := headT_ok hM X Y hne
      have t1 := takeW hM h0 X hx
      have t2 := takeW hM h0 Y hy
      refine .same (by simpa using hne) ?_ ?_
      · rw [eM, t1.1, t2.1, appS_mtE, appS_mtE]; exact hl _
      · rw [eM, t1.1, t2.1, t1.2, t2.2, appS_mtE, appS_mtE]
        refine run_none hM n _ _ _ _ (by omega) (X.past _) (Y.past _) fun m => ?_
        by_cases c : m ≤ headT xs ys
        · rw [upTo_past_lo c, upTo_past_lo c]; exact hl _
        · have h1 := upTo_max X.srt (headT xs ys) m (by omega)
          have h2 := upTo_max Y.srt (headT xs ys) m (by omega)
          rw [← appE_app, ← appE_app, ← h1, ← h2]; exact hl m
    · obtain rfl : xs = [] := Decidable.byContradiction fun z => hne (.inl z)
      obtain rfl : ys = [] := Decidable.byContradiction fun z => hne (.inr z)
      exact .done
theorem run_diff {M : Int → Int × Int} (hM : MonoM M) (T : Int) : ∀ (n : Nat) (xs ys : List Ev) (S S' : Snd), xs.length + ys.length ≤ n → Tk xs → Tk ys → (∀ m, m < T → appE S (upTo m xs) = appE S' (upTo m ys)) →
    (sndL (appE S (upTo T xs))).length ≠ (sndL (appE S' (upTo T ys))).length → (∃ e ∈ ys, e.1 = T) → Run (xs.map (mtE M)) (ys.map (mtE M)) S S' (some (M T, (sndL (appE S (upTo T xs))).length, (sndL (appE S' (upTo T ys))).length))
  | 0, xs, ys, S, S', hn, _, _, _, _, ⟨e, he, _⟩ => by
    obtain rfl : ys = [] := List.eq_nil_of_length_eq_zero (by omega)
    cases he
  | n + 1, xs, ys, S, S', hn, X, Y, hl, hd, ⟨e, he, ee⟩ => by
    have hne : xs ≠ [] ∨ ys ≠ [] := .inr fun z => by rw [z] at he; cases he
    obtain ⟨h0, eM, hx, hy, hlt⟩ := headT_ok hM X Y hne
    have t1 := takeW hM h0 X hx
    have t2 := takeW hM h0 Y hy
    have hT : headT xs ys ≤ T := by rw [← ee]; exact hy e he
    have hne2 : xs.map (mtE M) ≠ [] ∨ ys.map (mtE M) ≠ [] := by simpa using hne
    by_cases c : headT xs ys = T
    · have := Run.diff (S := S) (S' := S') hne2 (by rw [eM, t1.1, t2.1, appS_mtE, appS_mtE, c]; exact hd)
      rw [eM, t1.1, t2.1, appS_mtE, appS_mtE, c] at this
      exact this
    · have h1 := upTo_max X.srt (headT xs ys) T hT
      have h2 := upTo_max Y.srt (headT xs ys) T hT
      refine .same hne2 ?_ ?_
      · rw [eM, t1.1, t2.1, appS_mtE, appS_mtE]; exact hl _ (by omega)
      · rw [eM, t1.1, t2.1, t1.2, t2.2, appS_mtE, appS_mtE]
        have ih := run_diff hM T n (past (headT xs ys) xs) (past (headT xs ys) ys) (appE S (upTo (headT xs ys) xs)) (appE S' (upTo (headT xs ys) ys)) (by omega) (X.past _) (Y.past _) (fun m hm => ?_) (by rw [← appE_app, ← appE_app, ← h1, ← h2]; exact hd)
          ⟨e, List.mem_filter.mpr ⟨he, by simp only [decide_eq_true_eq]; omega⟩, ee⟩
        · rw [← appE_app, ← appE_app, ← h1, ← h2] at ih
          exact ih
        · by_cases c2 : m ≤ headT xs ys
          · rw [upTo_past_lo c2, upTo_past_lo c2]; exact hl _ (by omega)
          · have h1 := upTo_max X.srt (headT xs ys) m (by omega)
            have h2 := upTo_max Y.srt (headT xs ys) m (by omega)
            rw [← appE_app, ← appE_app, ← h1, ← h2]; exact hl m hm
end L2.RK
namespace L2.RK
open PySem PySem.Spec PyProof.Rows
/-! next_stands -/
/-- a price and an order, at an address -/
def SV (H : Hp) (v : Addr) (os : List AEv) : Prop := ∃ (pr : Int) (o : Addr), H v = some (.tup [.int pr, .ref o]) ∧ H o = some (.lst (refs os))
theorem SV.same {H H' : Hp} {v : Addr} {os : List AEv} (h : SV H v os) (e : Same H H') : SV H' v os := let ⟨pr, o, a, b⟩ := h; ⟨pr, o, e _ _ a, e _ _ b⟩
def OkK (key : AEv → Int) (names : List Int) (g done : List AEv) (k : NK) (os : List AEv) (s : Nat) : Prop := HeadOk k.2 ∧ ∃ ps : List Nat, k.1 = ps.map (fun n : Nat => (n : Int)) ∧ OkP key names g done ps os s
structure StOk (key : AEv → Int) (names : List Int) (g done : List AEv) (s : Nat) (H : Hp) (xs : List NE) : Prop where
  keys : NKeys H xs
  nd : (xs.map (·.1)).Nodup
  ent : ∀ e ∈ xs, ∃ os, SV H e.2.2 os ∧ OkK key names g done e.1 os s
theorem StOk.same {key : AEv → Int} {names : List Int} {g done : List AEv} {s : Nat} {H H' : Hp} {xs : List NE} (h : StOk key names g done s H xs) (e : Same H H') : StOk key names g done s H' xs :=
  ⟨h.keys.same fun b ys q => e _ _ q, h.nd, fun x hx => let ⟨os, a, b⟩ := h.ent x hx; ⟨os, a.same e, b⟩⟩
theorem StOk.size {key : AEv → Int} {names : List Int} {g done : List AEv} {s : Nat} {H : Hp} {xs : List NE} (h : StOk key names g done s H xs) (L : LaneKey key names g) (hg : g.length ≤ 40) : xs.length < sizeLine := by
  have h1 := keys_bound (b := g.length + 1) (R := names.length) (by omega) h.nd fun k hk => by
    obtain ⟨e, he, rfl⟩ := List.mem_map.mp hk
    obtain ⟨os, _, hh, ps, e1, ok⟩ := h.ent e he
    exact ⟨hh, ps, e1, ok.len, ok.bound⟩
  rw [List.length_map] at h1
  have big : sizeLine = 16777216 := by decide
  rw [big]
  rcases L.size with z | ⟨z1, z2⟩
  · rw [z, Nat.pow_one] at h1; omega
  · have h2 : (g.length + 1) ^ names.length ≤ 7 ^ names.length := Nat.pow_le_pow_left (by omega) _
    have h3 : 7 ^ names.length ≤ 7 ^ 6 := Nat.pow_le_pow_right (by omega) z1
    have h4 : (7 : Nat) ^ 6 = 117649 := by decide
    omega
theorem StOk.put {key : AEv → Int} {names : List Int} {g done : List AEv} {s : Nat} {H : Hp} {xs : List NE} {k : NK} {a q : Addr} {os : List AEv} (h : StOk key names g done s H xs) (hk : NKeyAt H k a) (hq : SV H q os) (ho : OkK key names g done k os s) : StOk key names g done s H (putN xs k a q) :=
  ⟨h.keys.put hk, putN_keys h.nd, fun e he => by
    rcases mem_putN he with he | ⟨e1, e2, _⟩
    · exact h.ent e he
    · rw [e1, e2]; exact ⟨os, hq, ho⟩⟩
theorem StOk.ofTL {key : AEv → Int} {names : List Int} {g done : List AEv} {s : Nat} {H H' : Hp} {xs : List NE} (h : StOk key names g done s H xs) (e1 : ∀ b ys, H b = some (.tup ys) → H' b = some (.tup ys)) (e2 : ∀ b ys, H b = some (.lst ys) → H' b = some (.lst ys)) : StOk key names g done s H' xs :=
  ⟨h.keys.same e1, h.nd, fun x hx => let ⟨os, ⟨pr, o, a, b⟩, c⟩ := h.ent x hx; ⟨os, ⟨pr, o, e1 _ _ a, e2 _ _ b⟩, c⟩⟩
/-- all but one stays -/
def SB (f : Addr) (H H' : Hp) : Prop := ∀ b o, b ≠ f → H b = some o → H' b = some o
theorem noPart {σ : St} {H : Hp} {Q : Option Int → Hp → Prop} (h : Q none H) : tNoPart σ H Q := h
theorem sl_one {K : PySem.W.Frag} {Qc : VK} {H : Hp} {a : Addr} {xs ys : List V} {lo hi : Option Int} (ha : H a = some (.tup xs)) (e : cutV xs lo hi = ys) (e2 : HT.sIx xs.length 0 lo = 0 ∧ HT.sIx xs.length xs.length hi = xs.length → ys = xs)
    (h : ∀ (A : Addr) (H' : Hp), Same H H' → H' A = some (.tup ys) → Qc (.ref A) H') : rSlA K (.ref a) lo hi H Qc :=
  ⟨a, xs, rfl, SqT.of ha, fun w => h a H (Same.refl _) (by rw [e2 w]; exact ha), fun _ p np => h p _ (Same.new np) (by rw [upd_same, e])⟩
theorem cat_one {K : PySem.W.Frag} {Qc : VK} {H : Hp} {a b : Addr} {xs ys : List V} (ha : H a = some (.tup xs)) (hb : H b = some (.tup ys)) (hl : xs.length + ys.length ≤ sizeLine) (h : ∀ (A : Addr) (H' : Hp), Same H H' → H' A = some (.tup (xs ++ ys)) → Qc (.ref A) H') : rCatA K (.ref a) (.ref b) H Qc :=
  ⟨a, b, xs, ys, rfl, rfl, SqT.of ha, SqT.of hb, hl, fun e => h b H (Same.refl _) (by rw [e]; exact hb), fun _ e => h a H (Same.refl _) (by rw [e, List.append_nil]; exact ha), fun _ _ p np => h p _ (Same.new np) upd_same⟩
theorem cut_take (xs : List V) (j : Nat) (hj : j ≤ xs.length) : cutV xs none (some (j : Int)) = xs.take j := by
  unfold cutV
  rw [HT.sIx_nat, HT.sIx_none, List.drop_zero, Nat.sub_zero, Nat.min_eq_left hj]
theorem cut_drop (xs : List V) (j : Nat) (hj : j ≤ xs.length) : cutV xs (some (j : Int)) none = xs.drop j := by
  unfold cutV
  rw [HT.sIx_nat, HT.sIx_none, Nat.min_eq_left hj, List.take_of_length_le]
  rw [List.length_drop]
  exact Nat.le_refl _
theorem set_split {α : Type} {l : List α} {i : Nat} {a : α} (h : i < l.length) : l.set i a = l.take i ++ [a] ++ l.drop (i + 1) := by
  rw [List.set_eq_take_append_cons_drop, if_pos h]; simp
theorem notin_or {X : Cx} {σ : St} {H : Hp} {Ga Gb : Hp → Prop} {fo ka : Addr} {ys : List NE} {k : NK} {tot : Int} (h2 : σ[2]? = some (some (.ref fo))) (h12 : σ[12]? = some (some (.ref ka))) (h13 : σ[13]? = some (some (.int tot))) (hf : H fo = some (NDict X.prog X.w fo ys)) (hk : NKeys H ys) (hka : NKeyAt H k ka)
    (hv : ∀ e ∈ ys, ∃ os, SV H e.2.2 os) (ga : Ga H) (gb : ys ≠ [] → Gb H) :
    tOr (tTest (tOp (rNotInN (X := X)) (tVar 12) (tVar 2))) (tTest (tOp (rI0 fun i j => .bl (decide (i < j))) (tVar 13) (tOp (rIxT X.K) (tOp (rGetN (X := X)) (tVar 2) (tVar 12)) (tC (.int 0))))) σ H (fun b H1 => if b = true then Ga H1 else Gb H1) := by
  refine ⟨_, h12, _, h2, fo, ys, k, ka, rfl, rfl, .inl hf, hk, hka, _, rfl, ?_⟩
  cases e : lookN ys k with
  | none => exact iteT (iteT ga)
  | some p =>
    have hm := lookN_mem e
    obtain ⟨os, pr, o, v1, v2⟩ := hv _ hm
    refine iteF ⟨_, h13, _, h2, _, h12, fo, ys, k, ka, p, rfl, rfl, .inl hf, hk, hka, e, p.2, _, _, _, rfl, rfl, SqT.of v1, at0, _, _, rfl, rfl, _, rfl, ite2 (fun _ => ga) (fun _ => gb (fun z => by rw [z] at hm; cases hm))⟩
section
variable {P : Program} {w : World} {K : PySem.W.Frag} {mg : Str → Option Value} {base : Heap}
abbrev nNext : List Str := ["rows", "stands", "found", "places", "ahead", "price_here", "order", "lane", "row", "event", "later", "form", "key", "total"]
theorem scNextStands : FnScope nNext ["rows", "stands"] (defScope sNextStands) := ⟨rfl, rfl, rfl, by decide +kernel, rfl, by decide +kernel, by decide +kernel⟩
def spNextStands (P : Program) (w : World) : Sp := fun vs H Q _ => ∃ (r d : Addr) (rs : List Grp) (xs : List NE) (key : AEv → Int) (names : List Int) (g done : List AEv) (s : Nat), vs = [.ref r, .ref d] ∧ H r = some (.lst (refs rs)) ∧ GL H rs ∧ rs.map (·.2) = names.map (rowOf key g) ∧
  TL evV H g ∧ (∀ e ∈ g, ThOk e.2.2) ∧ g.length ≤ 40 ∧ done.length ≤ 40 ∧ LaneKey key names g ∧ H d = some (NDict P w d xs) ∧ StOk key names g done s H xs ∧ xs ≠ [] ∧ s < g.length ∧
  ∀ (H' : Hp) (f : Addr) (ys : List NE), Same H H' → H f = none → H' f = some (NDict P w f ys) → StOk key names g done (s + 1) H' ys → ys ≠ [] → Q (.ref f) H'
theorem ok_next_stands (T : Txt K mg w) : Has P w K mg base 2 (gA K "next_stands") ["rows", "stands"] (spNextStands P w) := by
  obtain ⟨fd, F⟩ := T.fNextStands
  obtain ⟨f1, G1, b1, k1⟩ := ok_forms (P := P) (base := base) T
  obtain ⟨f2, G2, b2, k2⟩ := ok_left_by (P := P) (base := base) T
  obtain ⟨f3, G3, b3, k3⟩ := ok_size_of (P := P) (base := base) T
  have nd := scNextStands.nd
  refine ⟨fd, F.ok scNextStands (fun vs H Q E h => ?_) (fun cdv A outer s H vs Q E hr h => ⟨_, PSs.nox (
      pss_cons (ps_set (i := 2) nd rfl (.inl rfl) pe_dnewN)
      (pss_cons (ps_lock (ps_for PassesOwn.never rfl (pi_itemsN (pv 1)) (pg_tup rfl (pgs_cons (pg_tup rfl (pgs_cons (pg_name (i := 3) nd rfl (.inl rfl)) (pgs_cons (pg_name (i := 4) nd rfl (.inl rfl)) pgs_nil))) (pgs_cons (pg_tup rfl (pgs_cons (pg_name (i := 5) nd rfl (.inl rfl)) (pgs_cons (pg_name (i := 6) nd rfl (.inl rfl)) pgs_nil))) pgs_nil)))
        (pss_one (ps_for PassesOwn.never rfl (pi_enum (by rfl) T.nEnumerate (pa_cons (pv 0) pa_nil)) (pg_tup rfl (pgs_cons (pg_name (i := 7) nd rfl (.inl rfl)) (pgs_cons (pg_name (i := 8) nd rfl (.inl rfl)) pgs_nil)))
          (pss_one (ps_if (pt_cmpR op_lt (pe_ix ix_tup (pv 3) (pv 7) (fun _ _ => rfl)) (pe_callB call_len_seq (by rfl) T.nLen PySem.boot_len (pa_cons (pv 8) pa_nil)) (nomark _))
            (pss_cons (ps_set (i := 9) nd rfl (.inl rfl) (pe_ix ix_list (pv 8) (pe_ix ix_tup (pv 3) (pv 7) (fun _ _ => rfl)) (fun _ _ => rfl)))
            (pss_cons (ps_set (i := 10) nd rfl (.inl rfl) (pe_op op_catA (pe_op op_catA (pe_slice sl_tupA (pv 3) po_none (po_some (pv 7))) (pe_tup (pa_cons (pe_op op_add (pe_ix ix_tup (pv 3) (pv 7) (fun _ _ => rfl)) pe_int) pa_nil))) (pe_slice sl_tupA (pv 3) (po_some (pe_op op_add (pv 7) pe_int)) po_none)))
            (pss_one (ps_for PassesOwn.never rfl (pi_list (pe_call G1 hr (by rfl) T.gForms k1 b1 .nil pass0 (pa_cons (pv 9) pa_nil))) (pg_name (i := 11) nd rfl (.inl rfl))
              (pss_cons (ps_set (i := 12) nd rfl (.inl rfl) (pe_tup (pa_cons (pv 10) (pa_cons (pe_call G2 hr (by rfl) T.gLeftBy k2 b2 .nil pass0 (pa_cons (pe_ix ix_tup (pv 11) pe_int (fun _ _ => rfl)) pa_nil)) pa_nil))))
              (pss_cons (ps_set (i := 13) nd rfl (.inl rfl) (pe_op op_add (pv 5) (pe_call G3 hr (by rfl) T.gSizeOf k3 b3 .nil pass0 (pa_cons (pv 4) (pa_cons (pv 11) pa_nil)))))
              (pss_one (ps_if (PW.pt (pw_or (pt_cmpR (op_notInN (hu9_of hr)) (pv 12) (pv 2) (by rfl)) (pw_or1 (pt_cmpR op_lt (pv 13) (pe_ix ix_tup (pe_ix (ix_n (hu9_of hr)) (pv 2) (pv 12) (fun _ _ => rfl)) pe_int (fun _ _ => rfl)) (nomark _)))))
                (pss_one (ps_asg (pe_tup (pa_cons (pv 13) (pa_cons (pe_op op_cat (pv 6) (pe_lst (pa_cons (pv 9) pa_nil))) pa_nil))) (pg_sub (pv 2) (pv 12) (set_n (hu9_of hr))))) pss_nil))))))))
            pss_nil))))))
      (pss_one (ps_ret (pv 2))))), ?_⟩), F.bindsN fun _ _ _ _ _ _ us hl => match us, hl with | [_, _], _ => rfl, F.kp⟩
  · obtain ⟨r, d, rs, xs, key, names, g, done, s, rfl, _⟩ := h
    rfl
  · obtain ⟨r, d, rs, xs, key, names, g, done, s', rfl, hr0, hgl, erows, hg, hth, g40, d40, L, hd, S0, xne, slt, q⟩ := h
    have big : sizeLine > 1000 := by decide
    refine fun fo nfo => ?_
    have fod : d ≠ fo := ne_of_none hd nfo
    have s1 : Same H (upd H fo (NDict P w fo [])) := Same.new nfo
    refine ⟨d, _, s1 _ _ hd, trivial, fun od => ?_⟩
    generalize hHB : upd H d (.frz od (NDict P w d xs)) = HB
    have HBd : HB d = some (.frz od (NDict P w d xs)) := by rw [← hHB, upd_same]
    have HBo : ∀ b o, b ≠ d → H b = some o → HB b = some o := fun b o hb e => by rw [← hHB, upd_ne hb]; exact e
    have HBf : HB fo = none := by rw [← hHB, upd_ne fod.symm]; exact nfo
    have HBt : ∀ b ys, H b = some (.tup ys) → HB b = some (.tup ys) := fun b ys e => HBo b _ (ne_of e hd (by unfold NDict; intro z; cases z)) e
    have HBl : ∀ b ys, H b = some (.lst ys) → HB b = some (.lst ys) := fun b ys e => HBo b _ (ne_of e hd (by unfold NDict; intro z; cases z)) e
    have S1 : StOk key names g done s' HB xs := S0.ofTL HBt HBl
    have sHB : Same HB (upd (upd H fo (NDict P w fo [])) d (.frz od (NDict P w d xs))) := fun b o e => by
      by_cases hb : b = d
      · rw [hb] at e ⊢; rw [HBd] at e; rw [upd_same]; exact e
      · rw [upd_ne hb]
        rw [← hHB, upd_ne hb] at e
        exact s1 _ _ e
    have N0 : ∀ σ' : St, ∃ ys, Same HB (upd (upd H fo (NDict P w fo [])) d (.frz od (NDict P w d xs))) ∧ upd (upd H fo (NDict P w fo [])) d (.frz od (NDict P w d xs)) fo = some (NDict P w fo ys) ∧ StOk key names g done (s' + 1) (upd (upd H fo (NDict P w fo [])) d (.frz od (NDict P w d xs))) ys ∧ (0 < 0 → ys ≠ []) := fun _ =>
      ⟨[], sHB, by rw [upd_ne fod.symm, upd_same], ⟨fun e he => (by cases he), List.nodup_nil, fun e he => (by cases he)⟩, fun z => absurd z (by omega)⟩
    have hr2 : HB r = some (.lst (refs rs)) := HBl _ _ hr0
    refine ⟨_, rfl, d, od, xs, rfl, upd_same, for_it (walk_itemsN (d := d) (o := od) (xs := xs)) (fun i σ H' => (∃ x3 x4 x5 x6 x7 x8 x9 x10 x11 x12 x13, σ = [some (.ref r), some (.ref d), some (.ref fo), x3, x4, x5, x6, x7, x8, x9, x10, x11, x12, x13]) ∧
      ∃ ys, Same HB H' ∧ H' fo = some (NDict P w fo ys) ∧ StOk key names g done (s' + 1) H' ys ∧ (0 < i → ys ≠ [])) ⟨⟨_, _, _, _, _, _, _, _, _, _, _, rfl⟩, N0 []⟩ (fun i σ H' _ h => by obtain ⟨_, ys, sm, _⟩ := h; exact sm _ _ HBd) ?_ ?_⟩
    · rintro i x σ H1 H2 hi ⟨⟨x3, x4, x5, x6, x7, x8, x9, x10, x11, x12, x13, rfl⟩, ys, sm, hf, st, yn⟩ ⟨T0, e, he, rfl, nT, rfl⟩
      have em := List.mem_of_getElem? he
      obtain ⟨pa, k1, k2⟩ := S1.keys e em
      obtain ⟨os, ⟨pr, o, v1, v2⟩, hk0, ps, ek, ok⟩ := S1.ent e em
      have sT : Same H1 (upd H1 T0 (.tup [.ref e.2.1, .ref e.2.2])) := Same.new nT
      refine ⟨T0, _, rfl, SqT.of upd_same, rfl, _, _, rfl, e.2.1, _, rfl, SqT.of (sT _ _ (sm _ _ k1)), rfl, _, _, rfl, _, _, rfl, rfl, _, _, rfl, ⟨e.2.2, _, rfl, SqT.of (sT _ _ (sm _ _ v1)), rfl, _, _, rfl, _, _, rfl, rfl, rfl, ?_⟩⟩
      replace sm := sm.trans sT
      replace hf := sT _ _ hf
      replace st := st.same sT
      generalize upd H1 T0 (.tup [.ref e.2.1, .ref e.2.2]) = H2 at *
      have lrs : rs.length = names.length := by have := congrArg List.length erows; rw [List.length_map, List.length_map] at this; exact this
      refine ⟨_, rfl, r, refs rs, rfl, SqL.of (sm _ _ hr2), for_it (walk_enum (K := K) (a := r) (xs := refs rs)) (fun j σ H' => (∃ x7 x8 x9 x10 x11 x12 x13, σ = [some (.ref r), some (.ref d), some (.ref fo), some (.ref pa), some (.int e.1.2), some (.int pr), some (.ref o), x7, x8, x9, x10, x11, x12, x13]) ∧
        ∃ ys, Same HB H' ∧ H' fo = some (NDict P w fo ys) ∧ StOk key names g done (s' + 1) H' ys ∧ (ys ≠ [] ∨ ∀ (j' : Nat) (n : Int) (p : Nat), j' < j → names[j']? = some n → ps[j']? = some p → ¬ p < (rowOf key g n).length)) ⟨⟨_, _, _, _, _, _, _, rfl⟩, ys, sm, hf, st, .inr fun j' n p z => absurd z (Nat.not_lt_zero _)⟩ (fun j σ H' _ h => by obtain ⟨_, ys, sm, _⟩ := h; exact SqL.of (sm _ _ hr2)) ?_ ?_⟩
      · rintro j y σ H3 H4 hj ⟨⟨y7, y8, y9, y10, y11, y12, y13, rfl⟩, ys, sm, hf, st, prog⟩ ⟨T1, xi, xr, rfl, nT1, rfl, exi, exr⟩
        obtain rfl : V.int ((j : Nat) : Int) = xi := Option.some.inj exi
        obtain ⟨rw_, hrw, rfl⟩ := refs_get exr
        have jl := (List.getElem?_eq_some_iff.mp hrw).1
        have sT1 : Same H3 (upd H3 T1 (.tup [.int ((j : Nat) : Int), .ref rw_.1])) := Same.new nT1
        refine ⟨T1, _, rfl, SqT.of upd_same, rfl, _, _, rfl, _, _, rfl, rfl, ?_⟩
        replace sm := sm.trans sT1
        replace hf := sT1 _ _ hf
        replace st := st.same sT1
        generalize upd H3 T1 (.tup [.int ((j : Nat) : Int), .ref rw_.1]) = H4 at *
        obtain ⟨nm, hnm⟩ : ∃ nm, names[j]? = some nm := ⟨_, List.getElem?_eq_getElem (by omega)⟩
        obtain ⟨p, hp⟩ : ∃ p, ps[j]? = some p := ⟨_, List.getElem?_eq_getElem (by rw [ok.len]; omega)⟩
        have erw : rw_.2 = rowOf key g nm := by
          have h1 : (rs.map (·.2))[j]? = some rw_.2 := by rw [List.getElem?_map, hrw]; rfl
          rw [erows, List.getElem?_map, hnm] at h1
          exact (Option.some.inj h1).symm
        have hrow := sm _ _ (HBl _ _ (hgl rw_ (List.mem_of_getElem? hrw)))
        rw [erw] at hrow
        have hpa := sm _ _ k2
        have hpa' : H4 pa = some (.tup (ps.map fun n : Nat => V.int (n : Int))) := by rw [hpa, ek, List.map_map]; rfl
        have hpj : (ps.map fun n : Nat => V.int (n : Int))[j]? = some (.int (p : Int)) := by rw [List.getElem?_map, hp]; rfl
        refine ⟨_, rfl, _, rfl, pa, _, _, _, rfl, rfl, SqT.of hpa', atI_nat hpj, _, rfl, rw_.1, _, rfl, .inl (SqL.of hrow), _, _, rfl, rfl, _, rfl, ite2 (fun hc => ?_) (fun hc => ?_)⟩
        · have hlt : p < (rowOf key g nm).length := by
            have : ((p : Nat) : Int) < ((refs (rowOf key g nm)).length : Int) := of_decide_eq_true hc
            rw [refs_len] at this
            omega
          obtain ⟨ev, hev⟩ : ∃ ev, (rowOf key g nm)[p]? = some ev := ⟨_, List.getElem?_eq_getElem hlt⟩
          have evg : ev ∈ g := (List.mem_filter.mp (List.mem_of_getElem? hev)).1
          have hre : (refs (rowOf key g nm))[p]? = some (.ref ev.1) := by unfold refs; rw [List.getElem?_map, hev]; rfl
          have hevH := HBt _ _ (hg ev evg)
          have jps : j < ps.length := (List.getElem?_eq_some_iff.mp hp).1
          refine ⟨_, rfl, _, rfl, _, rfl, pa, _, _, _, rfl, rfl, SqT.of hpa', atI_nat hpj, rw_.1, _, _, _, rfl, rfl, SqL.of hrow, atI_nat hre, ?_⟩
          refine ⟨_, rfl, _, rfl, _, rfl, ?_⟩
          have lL : (ps.map fun n : Nat => V.int (n : Int)).length = ps.length := List.length_map ..
          refine sl_one hpa' (cut_take _ j (by rw [lL]; omega)) (fun w => by have := w.2; rw [HT.sIx_nat, lL] at this; omega) fun A1 H5 s5 hA1 => ?_
          refine ⟨_, rfl, _, rfl, pa, _, _, _, rfl, rfl, SqT.of (s5 _ _ hpa'), atI_nat hpj, _, _, rfl, rfl, by show 1 ≤ sizeLine; decide, fun u nu => ?_⟩
          have su : Same H5 (upd H5 u (.tup [.int ((p : Int) + 1)])) := Same.new nu
          have ltk : ((ps.map fun n : Nat => V.int (n : Int)).take j).length ≤ ps.length := by rw [List.length_take, lL]; exact Nat.min_le_right _ _
          have psl : ps.length ≤ 40 := by
            rw [ok.len]
            rcases L.size with z | z
            · omega
            · omega
          refine cat_one (su _ _ hA1) upd_same (by show _ + 1 ≤ sizeLine; omega) fun A2 H6 s6 hA2 => ?_
          have s46 : Same H4 H6 := (s5.trans su).trans s6
          refine ⟨_, rfl, _, rfl, _, _, rfl, rfl, ((j + 1 : Nat) : Int), rfl, ?_⟩
          refine noPart ?_
          refine sl_one (s46 _ _ hpa') (cut_drop _ (j + 1) (by rw [lL]; omega)) (fun w => by have := w.1; rw [HT.sIx_nat, lL] at this; omega) fun A3 H7 s7 hA3 => ?_
          refine cat_one (s7 _ _ hA2) hA3 (by rw [List.length_append, List.length_drop, lL]; show _ + 1 + _ ≤ sizeLine; omega) fun la H8 s8 hla => ?_
          have s48 : Same H4 H8 := (s46.trans s7).trans s8
          have hla2 : H8 la = some (.tup (((ps.set j (p + 1)).map fun n : Nat => (n : Int)).map V.int)) := by
            rw [hla, List.map_map, set_split jps, List.map_append, List.map_append, List.map_take, List.map_drop]; rfl
          replace sm := sm.trans s48
          replace hf := s48 _ _ hf
          replace st := st.same s48
          clear hla hA1 hA2 hA3 nu su s5 s6 s7 s8 s46 s48 hpa hpa' hrow
          refine ⟨_, rfl, ev.1, ev.2, rfl, sm _ _ hevH, hth ev evg, fun H9 fl fs s9 hfl hfs fne flen => ⟨fl, rfl, ⟨_, SqL.of hfl⟩, ?_⟩⟩
          have la9 := s9 _ _ hla2
          have hf9 := s9 _ _ hf
          have ko : ∀ h', HeadOk h' → OkK key names g done ((ps.set j (p + 1)).map fun n : Nat => (n : Int), h') (os ++ [ev]) (s' + 1) := fun h' hh => ⟨hh, ps.set j (p + 1), rfl, ok.step L.nd hnm hp hev⟩
          have olen : os.length ≤ 80 := by
            obtain ⟨base, mid, e1, e2, e3, e4, e5⟩ := ok.mix
            have := e2.len
            rw [e1, List.length_append]
            omega
          refine for_list (xs := refs fs) (fun t σ H' => (∃ x11 x12 x13, σ = [some (.ref r), some (.ref d), some (.ref fo), some (.ref pa), some (.int e.1.2), some (.int pr), some (.ref o), some (.int ((j : Nat) : Int)), some (.ref rw_.1), some (.ref ev.1), some (.ref la), x11, x12, x13]) ∧
            SB fo H9 H' ∧ ∃ ys, Same HB H' ∧ H' fo = some (NDict P w fo ys) ∧ StOk key names g done (s' + 1) H' ys ∧ (0 < t → ys ≠ [])) ⟨⟨_, _, _, rfl⟩, fun b o _ q => q, ys, sm.trans s9, s9 _ _ hf, st.same s9, fun z => absurd z (by omega)⟩ (fun t σ H' _ h => SqL.of (h.2.1 _ _ (ne_of hfl (s9 _ _ hf) (by unfold NDict; intro z; cases z)) hfl)) ?_ ?_
          · rintro t y σ Ha ht ⟨⟨z11, z12, z13, rfl⟩, sb, ys, sm, hf, st, yn⟩
            obtain ⟨f, hfm, rfl⟩ := refs_get ht
            have fm := List.mem_of_getElem? hfm
            have kt : ∀ b xs, H9 b = some (.tup xs) → Ha b = some (.tup xs) := fun b xs q => sb b _ (ne_of q hf9 (by unfold NDict; intro z; cases z)) q
            have kl : ∀ b xs, H9 b = some (.lst xs) → Ha b = some (.lst xs) := fun b xs q => sb b _ (ne_of q hf9 (by unfold NDict; intro z; cases z)) q
            have hf1 := kt _ _ (hfs.1 f fm)
            obtain ⟨raw, ds, hds9⟩ := hfs.2 f fm
            have hds := kl _ _ hds9
            have hla := kt _ _ la9
            have ho := sm _ _ v2
            refine ⟨_, rfl, _, rfl, f.1, _, _, _, rfl, rfl, SqT.of hf1, at0, f.2.1, rfl, raw, fun h' hh => ⟨by show 2 ≤ sizeLine; decide, fun ka nka => ?_⟩⟩
            have sk : Same Ha (upd Ha ka (.tup [.ref la, .int h'])) := Same.new nka
            have hka : upd Ha ka (.tup [.ref la, .int h']) ka = some (.tup [.ref la, .int h']) := upd_same
            generalize upd Ha ka (.tup [.ref la, .int h']) = Hb at *
            refine ⟨_, rfl, _, rfl, _, rfl, e.1.2, f.2.1, f.1, f.2.2, ds, rfl, sk _ _ hf1, sk _ _ hds, fun n => ⟨_, _, rfl, rfl, ?_⟩⟩
            have kat : NKeyAt Hb ((ps.set j (p + 1)).map fun n : Nat => (n : Int), h') ka := ⟨la, hka, sk _ _ hla⟩
            have stb := st.same sk
            refine notin_or rfl rfl rfl (sk _ _ hf) stb.keys kat (fun x hx => let ⟨os, a, _⟩ := stb.ent x hx; ⟨os, a⟩) ?_ (fun hne => ?_)
            · refine ⟨_, rfl, _, rfl, _, rfl, by show 1 ≤ sizeLine; decide, fun l1 nl1 => ⟨o, l1, _, _, rfl, rfl, (Same.new nl1) _ _ (sk _ _ ho), upd_same, by rw [refs_len]; show _ + 1 ≤ sizeLine; omega, fun l2 nl2 => ⟨by show 2 ≤ sizeLine; decide, fun va nva => ?_⟩⟩⟩
              have s10 : Same Hb (upd (upd (upd Hb l1 (.lst [.ref ev.1])) l2 (.lst (refs os ++ [.ref ev.1]))) va (.tup [.int (pr + n), .ref l2])) := ((Same.new nl1).add nl2).add nva
              have sv : SV (upd (upd (upd Hb l1 (.lst [.ref ev.1])) l2 (.lst (refs os ++ [.ref ev.1]))) va (.tup [.int (pr + n), .ref l2])) va (os ++ [ev]) := ⟨pr + n, l2, upd_same, (Same.new nva) _ _ (by rw [upd_same, refs_app]; rfl)⟩
              generalize hHc : upd (upd (upd Hb l1 _) l2 _) va _ = Hc
              replace s10 : Same Hb Hc := by rw [← hHc]; exact s10
              replace sv : SV Hc va (os ++ [ev]) := by rw [← hHc]; exact sv
              clear hHc nva nl2 nl1
              have stc := stb.same s10
              have hfc := s10 _ _ (sk _ _ hf)
              have katc := kat.same fun b xs q => s10 _ _ q
              refine ⟨_, rfl, _, rfl, fo, ys, _, ka, va, rfl, rfl, rfl, hfc, stc.keys, katc, stc.size L g40, ⟨_, _, _, rfl⟩, fun b o' hb q => ?_, _, ?_, upd_same, ?_, fun _ => putN_ne⟩
              · rw [upd_ne hb]; exact s10 _ _ (sk _ _ (sb b o' hb q))
              · exact ((sm.trans sk).trans s10).put HBf
              · have stp := stc.put katc sv (ko h' hh)
                refine stp.ofTL (fun b xs q => ?_) (fun b xs q => ?_)
                · rw [upd_ne (ne_of q hfc (by unfold NDict; intro z; cases z))]; exact q
                · rw [upd_ne (ne_of q hfc (by unfold NDict; intro z; cases z))]; exact q
            · exact ⟨⟨_, _, _, rfl⟩, fun b o' hb q => sk _ _ (sb b o' hb q), ys, sm.trans sk, sk _ _ hf, stb, fun _ => hne⟩
          · rintro σ Ha ⟨⟨z11, z12, z13, rfl⟩, sb, ys, sm, hf, st, yn⟩
            refine ⟨⟨_, _, _, _, _, _, _, rfl⟩, ys, sm, hf, st, .inl (yn (by rw [refs_len]; exact List.length_pos_iff.mpr fne))⟩
        · refine ⟨⟨_, _, _, _, _, _, _, rfl⟩, ys, sm, hf, st, ?_⟩
          rcases prog with z | z
          · exact .inl z
          · refine .inr fun j' n' p' h1 h2 h3 => ?_
            rcases Nat.lt_or_ge j' j with q1 | q1
            · exact z j' n' p' q1 h2 h3
            · have : j' = j := by omega
              subst this
              rw [hnm] at h2
              rw [hp] at h3
              cases h2
              cases h3
              intro q2
              exact hc (decide_eq_true (by rw [refs_len]; omega))
      · rintro σ H3 ⟨⟨y7, y8, y9, y10, y11, y12, y13, rfl⟩, ys, sm, hf, st, prog⟩
        refine ⟨⟨_, _, _, _, _, _, _, _, _, _, _, rfl⟩, ys, sm, hf, st, fun _ => ?_⟩
        rcases prog with z | z
        · exact z
        · obtain ⟨j', n', p', h1, h2, h3⟩ := ok.goes L slt
          have := (List.getElem?_eq_some_iff.mp h1).1
          exact absurd h3 (z j' n' p' (by rw [refs_len]; omega) h1 h2)
    · rintro σ H1 ⟨⟨x3, x4, x5, x6, x7, x8, x9, x10, x11, x12, x13, rfl⟩, ys, sm, hf, st, yn⟩
      have hd1 := sm _ _ HBd
      refine ⟨hd1, _, rfl, ?_⟩
      have nt : ∀ b ys, H1 b = some (.tup ys) → upd H1 d (NDict P w d xs) b = some (.tup ys) := fun b ys q => by rw [upd_ne (ne_of q hd1 (by intro z; cases z))]; exact q
      have nl : ∀ b ys, H1 b = some (.lst ys) → upd H1 d (NDict P w d xs) b = some (.lst ys) := fun b ys q => by rw [upd_ne (ne_of q hd1 (by intro z; cases z))]; exact q
      refine q _ fo ys (fun b o e => ?_) nfo (by rw [upd_ne fod.symm]; exact hf) (st.ofTL nt nl) (yn (List.length_pos_iff.mpr xne))
      by_cases hb : b = d
      · rw [hb, upd_same, ← e, hb, hd]
      · rw [upd_ne hb]; exact sm _ _ (HBo b o hb e)
end
end L2.RK
namespace L2.RK
open PySem PySem.Spec PyProof.Rows
/-! thrifty -/
abbrev thrP (K : PySem.W.Frag) : Addr × Addr := He.cT K ("thrifty", none)
abbrev thrQ : Str := (("thrifty" : Str) ++ ".<locals>.") ++ "<lambda>"
def thrT (K : PySem.W.Frag) : List (Addr × Str) := [((thrP K).2, thrQ)]
/-- a def's walk that knows its own code object -/
theorem okC {P : Program} {w : World} {K : PySem.W.Frag} {mg : Str → Option Value} {base : Heap} {x qual : Str} {params : Arguments} {body : List Stmt} {scope : Scope} {dvs : List V} {kws : List (Str × V)} {f : Addr} {fd : FuncData} {CX : CXT} {N ps : List Str} {k : Nat} {sp : Sp}
    (F : FunD K x qual params body scope dvs kws f fd) (S : FnScope N ps scope) (len : ∀ vs H Q E, sp vs H Q E → vs.length = ps.length)
    (hbody : ∀ (c : Addr), (∀ p : Str × Option Str, He.fAd K p = f → He.codeOf K p = c) → ∀ (A : Around) (outer : List Env) (s : Shared) (H : Hp) (vs : List V) (Q : VK) (E : XK), Room k (A.deeper (envOfC qual scope s.heap.objs.size f (.ref c))) → sp vs H Q E →
      ∃ t, PSs (cxOf CX P w K mg base N qual scope f (.ref c) A outer s H E) body t ∧ t { nx := fun _ H' => Q .non H', rt := Q } (start N vs) H) : FnOk P w K mg base CX (k + 1) f fd ps sp := by
  obtain ⟨oc, od, dV, kV, doc, pm, an, cdv, ct, osl, rfl, lk, hcd, _, _⟩ := F.ex
  obtain ⟨c, rfl⟩ := He.codeIn_ref hcd
  exact fn_of lk hcd S len fun A outer s H vs Q E hr hsp => hbody c (fun p hp => He.codeOf_eq (by rw [hp]; exact lk) rfl) A outer s H vs Q E hr hsp
/-- what is known: heads, prices, orders -/
def KnOk (H : Hp) (done : List AEv) (kvs : List (Key × V)) : Prop := kvs ≠ [] ∧ kvs.length < sizeLine ∧ ∀ q ∈ kvs, ∃ (h : Int) (v : Addr) (os : List AEv), q = (Sum.inl h, .ref v) ∧ HeadOk h ∧ SV H v os ∧ Arr done os
theorem KnOk.same {H H' : Hp} {done : List AEv} {kvs : List (Key × V)} (h : KnOk H done kvs) (e : Same H H') : KnOk H' done kvs := ⟨h.1, h.2.1, fun q hq => let ⟨a, v, os, b, c, d, f⟩ := h.2.2 q hq; ⟨a, v, os, b, c, d.same e, f⟩⟩
theorem SV.ofTL {H H' : Hp} {v : Addr} {os : List AEv} (h : SV H v os) (e1 : ∀ b ys, H b = some (.tup ys) → H' b = some (.tup ys)) (e2 : ∀ b ys, H b = some (.lst ys) → H' b = some (.lst ys)) : SV H' v os := let ⟨pr, o, a, b⟩ := h; ⟨pr, o, e1 _ _ a, e2 _ _ b⟩
theorem KnOk.ofTL {H H' : Hp} {done : List AEv} {kvs : List (Key × V)} (h : KnOk H done kvs) (e1 : ∀ b ys, H b = some (.tup ys) → H' b = some (.tup ys)) (e2 : ∀ b ys, H b = some (.lst ys) → H' b = some (.lst ys)) : KnOk H' done kvs := ⟨h.1, h.2.1, fun q hq => let ⟨a, v, os, b, c, d, f⟩ := h.2.2 q hq; ⟨a, v, os, b, c, d.ofTL e1 e2, f⟩⟩
theorem valV_some {κ : Type} [DecidableEq κ] {kvs : List (κ × V)} {q : κ × V} (h : q ∈ kvs) : ∃ v, valV kvs q.1 = some v ∧ (q.1, v) ∈ kvs := by
  induction kvs with
  | nil => cases h
  | cons y r ih =>
    by_cases e : y.1 = q.1
    · exact ⟨y.2, by rw [valV_pos e], by rw [← e]; exact List.mem_cons_self⟩
    · rw [valV_neg e]
      rcases List.mem_cons.mp h with z | z
      · exact absurd (by rw [z]) e
      · obtain ⟨v, a, b⟩ := ih z
        exact ⟨v, a, List.mem_cons_of_mem _ b⟩
theorem mem_putK {κ : Type} [DecidableEq κ] {kvs : List (κ × V)} {k : κ} {v : V} {q : κ × V} (h : q ∈ putK kvs k v) : q ∈ kvs ∨ q = (k, v) := by
  unfold putK at h
  split at h
  · obtain ⟨y, hy, rfl⟩ := List.mem_map.mp h
    by_cases e : y.1 = k
    · rw [if_pos e]; exact .inr (by rw [e])
    · rw [if_neg e]; exact .inl hy
  · rcases List.mem_append.mp h with h | h
    · exact .inl h
    · exact .inr (List.mem_singleton.mp h)
theorem putK_ne {κ : Type} [DecidableEq κ] {kvs : List (κ × V)} {k : κ} {v : V} : putK kvs k v ≠ [] := by
  unfold putK
  split
  · rename_i h
    intro z
    rw [List.map_eq_nil_iff] at z
    rw [z] at h; cases h
  · simp
theorem lookN_of {xs : List NE} (hn : (xs.map (·.1)).Nodup) {e : NE} (h : e ∈ xs) : lookN xs e.1 = some e.2 := by
  unfold lookN
  induction xs with
  | nil => cases h
  | cons y r ih =>
    obtain ⟨h1, h2⟩ := List.nodup_cons.mp (show (y.1 :: r.map (·.1)).Nodup from hn)
    rcases List.mem_cons.mp h with rfl | h
    · rw [List.find?_cons_of_pos (by simp)]; rfl
    · have hne : ¬ y.1 = e.1 := fun z => h1 (by rw [z]; exact List.mem_map_of_mem h)
      rw [List.find?_cons_of_neg (by simpa using hne)]
      exact ih h2 h
section
variable {P : Program} {w : World} {K : PySem.W.Frag} {mg : Str → Option Value} {base : Heap}
abbrev nThr : List Str := ["track", "known", "group", "rows", "begun", "stands", "step", "row", "head", "places"]
theorem scThrifty : FnScope nThr ["track"] (defScope sThrifty) := ⟨rfl, rfl, rfl, by decide +kernel, rfl, by decide +kernel, by decide +kernel⟩
def spThrifty (K : PySem.W.Frag) : Sp := fun vs H Q _ => ∃ (t : Addr) (es : List AEv), vs = [.ref t] ∧ H t = some (.lst (refs es)) ∧ TL evV H es ∧ es.length ≤ 40 ∧ (∀ e ∈ es, ThOk e.2.2) ∧ LamX.Tabs (thrT K) H ∧
  ∀ (H' : Hp) (r : Addr) (os : List AEv), LamX.ExtN H H' → LamX.Tabs (thrT K) H' → H' r = some (.lst (refs os)) → Arr es os → Q (.ref r) H'
theorem ok_thrifty (T : Txt K mg w) (TB : LamX.TabB base mg (thrP K).1 (thrP K).2) : Has P w K mg base 3 (gA K "thrifty") ["track"] (spThrifty K) := by
  obtain ⟨fd, F⟩ := T.fThrifty
  obtain ⟨f1, G1, b1, k1⟩ := ok_groups (P := P) (base := base) T
  obtain ⟨f2, G2, b2, k2⟩ := ok_lanes (P := P) (base := base) T
  obtain ⟨f3, G3, b3, k3⟩ := ok_next_stands (P := P) (base := base) T
  have nd := scThrifty.nd
  refine ⟨fd, okC F scThrifty (fun vs H Q E h => ?_) (fun c hcode A outer s H vs Q E hr h => ⟨_, PSs.nox (
      pss_cons (ps_set (i := 1) nd rfl (.inr rfl) (pe_disp (pps_cons pe_int (pe_tup (pa_cons pe_int (pa_cons (pe_lst pa_nil) pa_nil))) pps_nil) (by rfl) (by rfl) (fun z => by cases z) (by decide)))
      (pss_cons (ps_for PassesOwn.never rfl (pi_list (pe_call G1 (hr.mono (by decide)) (by rfl) T.gGroups k1 b1 .nil pass0 (pa_cons (pv 0) pa_nil))) (pg_name (i := 2) nd rfl (.inl rfl))
        (pss_cons (ps_set (i := 3) nd rfl (.inl rfl) (pe_call G2 hr (by rfl) T.gLanes k2 b2 .nil pass0 (pa_cons (pv 2) pa_nil)))
        (pss_cons (ps_set (i := 4) nd rfl (.inr rfl) (pe_callTy call_tuple_of (by rfl) T.nTuple (by decide +kernel) (pa_cons (pe_lc (own := [("row", 7)]) (g := gName 7) (by rfl) nd (pi_list (pv 3)) (blkOk_by (N := nThr) (sc := defScope sThrifty) (by decide +kernel)) (fun _ _ _ _ _ => pg_name (i := 7) nd rfl (.inl rfl) (.inr rfl)) (fun _ _ _ _ _ => pts_nil) (fun _ _ _ _ _ => pe_int)) pa_nil)))
        (pss_cons (ps_set (i := 5) nd rfl (.inr rfl) (pe_lock (pe_dcN (own := [("head", 8)]) (g := gName 8) (hu9_of hr) (by rfl) nd (pi_keys (pv 1)) (blkOk_by (N := nThr) (sc := defScope sThrifty) (by decide +kernel)) (fun _ _ _ _ _ => pg_name (i := 8) nd rfl (.inl rfl) (.inr rfl)) (fun _ _ _ _ _ => pts_nil)
            (fun _ _ _ _ _ => pe_tup (pa_cons (pv 4) (pa_cons (pv 8) pa_nil))) (fun _ _ _ _ _ => pe_dget (hu_of hr) (pv 1) (pv 8) (fun _ _ => rfl)))))
        (pss_cons (ps_for PassesOwn.never rfl (pi_range1 rfl T.nRange (pa_cons (pe_callB call_len_seq (by rfl) T.nLen PySem.boot_len (pa_cons (pv 2) pa_nil)) pa_nil)) (pg_name (i := 6) nd rfl (.inl rfl))
          (pss_one (ps_set (i := 5) nd rfl (.inr rfl) (pe_call G3 hr (by rfl) T.gNextStands k3 b3 .nil pass0 (pa_cons (pv 3) (pa_cons (pv 5) pa_nil))))))
        (pss_one (ps_set (i := 1) nd rfl (.inr rfl) (pe_lock (pe_dcK (own := [("places", 9), ("head", 8)]) (g := gTup K 2 (gCons (gName 9) (gCons (gName 8) gNil))) (tv := tOp (rGetN (X := cxOf CX0 P w K mg base nThr "thrifty" (defScope sThrifty) (gA K "thrifty") (.ref c) A outer s H E)) (tVar 5) (tTup (tCons (tVar 9) (tCons (tVar 8) tNil)))) (by rfl) nd (pi_keysN (pv 5)) (blkOk_by (N := nThr) (sc := defScope sThrifty) (by decide +kernel))
            (fun _ _ _ _ _ => pg_tup rfl (pgs_cons (pg_name (i := 9) nd rfl (.inl rfl) (.inr rfl)) (pgs_cons (pg_name (i := 8) nd rfl (.inl rfl) (.inr rfl)) pgs_nil))) (fun _ _ _ _ _ => pts_nil) (fun _ _ _ _ _ => pv 8)
            (fun _ _ _ _ _ => pe_ix (ix_n (hu9_of hr)) (pv 5) (pe_tup (pa_cons (pv 9) (pa_cons (pv 8) pa_nil))) (fun _ _ => rfl)))))))))))
      (pss_one (ps_ret (pe_ix ix_tup (pe_minK (T := thrT K) (c := c) (P := (thrP K).2) (pe_lock (pe_lc (own := [("head", 8)]) (g := gName 8) (by rfl) nd (pi_keys (pv 1)) (blkOk_by (N := nThr) (sc := defScope sThrifty) (by decide +kernel)) (fun _ _ _ _ _ => pg_name (i := 8) nd rfl (.inl rfl) (.inr rfl)) (fun _ _ _ _ _ => pts_nil) (fun _ _ _ _ _ => pe_dget (hu_of hr) (pv 1) (pv 8) (fun _ _ => rfl))))
          (by rfl) T.nMin (by rw [← hcode ("thrifty", none) rfl]; exact TB) rfl (List.mem_singleton.mpr rfl) (fun p hp _ => by rw [List.mem_singleton.mp hp]; rfl) hr rfl (fun _ _ _ _ _ _ => rfl) rfl rfl rfl rfl rfl) pe_int (fun _ _ => rfl)))))), ?_⟩), F.bindsN fun _ _ _ _ _ _ us hl => match us, hl with | [_], _ => rfl, F.kp⟩
  · obtain ⟨t, es, rfl, _⟩ := h
    rfl
  · obtain ⟨t, es, rfl, ht, he, hlen, hth, hT, q⟩ := h
    have big : sizeLine > 1000 := by decide
    refine fun kd0 nk0 => ⟨by show 0 ≤ sizeLine; decide, fun l0 nl0 => ⟨by show 2 ≤ sizeLine; decide, fun v0 nv0 => ?_⟩⟩
    have hk1 : upd (upd (upd H kd0 (.dK [])) l0 (.lst [])) v0 (.tup [.int 0, .ref l0]) kd0 = some (.dK []) := (Same.new nv0) _ _ ((Same.new nl0) _ _ upd_same)
    have hl1 : upd (upd (upd H kd0 (.dK [])) l0 (.lst [])) v0 (.tup [.int 0, .ref l0]) l0 = some (.lst []) := (Same.new nv0) _ _ upd_same
    have hv1 : upd (upd (upd H kd0 (.dK [])) l0 (.lst [])) v0 (.tup [.int 0, .ref l0]) v0 = some (.tup [.int 0, .ref l0]) := upd_same
    have s0 : Same H (upd (upd (upd H kd0 (.dK [])) l0 (.lst [])) v0 (.tup [.int 0, .ref l0])) := ((Same.new nk0).add nl0).add nv0
    refine ⟨hk1, [(Sum.inl 0, .ref v0)], rfl, by show 1 ≤ 15; decide, ?_⟩
    generalize upd (upd (upd H kd0 (.dK [])) l0 (.lst [])) v0 (.tup [.int 0, .ref l0]) = Hx at *
    have s1 : Same H (upd Hx kd0 (.dK [(Sum.inl 0, .ref v0)])) := s0.put nk0
    have K1 : KnOk (upd Hx kd0 (.dK [(Sum.inl 0, .ref v0)])) [] [(Sum.inl 0, .ref v0)] := ⟨by simp, by show 1 < sizeLine; omega, fun q hq => by
      rw [List.mem_singleton.mp hq]
      exact ⟨0, v0, [], rfl, .inl rfl, ⟨0, l0, by rw [upd_ne (ne_of hv1 hk1 (by intro z; cases z))]; exact hv1, by rw [upd_ne (ne_of hl1 hk1 (by intro z; cases z))]; exact hl1⟩, Arr.nil⟩⟩
    have hkd1 : upd Hx kd0 (.dK (mergeK [] [(Sum.inl 0, .ref v0)])) kd0 = some (.dK [(Sum.inl 0, .ref v0)]) := upd_same
    generalize hH1 : upd Hx kd0 _ = H1
    replace s1 : Same H H1 := by rw [← hH1]; exact s1
    replace K1 : KnOk H1 [] [(Sum.inl 0, .ref v0)] := by rw [← hH1]; exact K1
    replace hkd1 : H1 kd0 = some (.dK [(Sum.inl 0, .ref v0)]) := by rw [← hH1]; exact hkd1
    clear hH1 hk1 hl1 hv1 s0 nl0 nv0
    refine ⟨_, rfl, t, es, rfl, s1 _ _ ht, he.same s1, hlen, fun H2 gl gs s2 hgl hGL hflat hone => ⟨gl, rfl, ⟨_, SqL.of hgl⟩, ?_⟩⟩
    have s12 := s1.trans s2
    have ges : ∀ g ∈ gs, ∀ e ∈ g.2, e ∈ es := fun g hg e he => by rw [← hflat]; exact List.mem_flatten.mpr ⟨g.2, List.mem_map_of_mem hg, he⟩
    have glen : ∀ g ∈ gs, g.2.length ≤ 40 := fun g hg => by
      have : g.2.length ≤ (gs.map (·.2)).flatten.length := List.Sublist.length_le (List.sublist_flatten_of_mem (List.mem_map_of_mem hg))
      rw [hflat] at this; omega
    have dlen : ∀ i, ((gs.take i).map (·.2)).flatten.length ≤ 40 := fun i => by
      have e1 : (gs.map (·.2)).flatten = ((gs.take i).map (·.2)).flatten ++ ((gs.drop i).map (·.2)).flatten := by rw [← List.flatten_append, ← List.map_append, List.take_append_drop]
      have := congrArg List.length e1
      rw [hflat, List.length_append] at this
      omega
    refine for_list (xs := refs gs) (fun i σ H' => (∃ (kd : Addr) (x2 x3 x4 x5 x6 x7 x8 x9 : Option V), σ = [some (.ref t), some (.ref kd), x2, x3, x4, x5, x6, x7, x8, x9] ∧ ∃ kvs, H' kd = some (.dK kvs) ∧ KnOk H' ((gs.take i).map (·.2)).flatten kvs) ∧ Same H2 H')
      ⟨⟨kd0, _, _, _, _, _, _, _, _, rfl, _, s2 _ _ hkd1, K1.same s2⟩, Same.refl _⟩ (fun i σ H' _ h => SqL.of (h.2 _ _ hgl)) ?_ ?_
    · rintro i x σ H3 hi ⟨⟨kd, x2, x3, x4, x5, x6, x7, x8, x9, rfl, kvs, hkd, KO⟩, s3⟩
      obtain ⟨G, hG, rfl⟩ := refs_get hi
      have Gm := List.mem_of_getElem? hG
      have hGe := s3 _ _ (hGL G Gm)
      have gTL : TL evV H3 G.2 := fun e h => s3 _ _ (s12 _ _ (he e (ges G Gm e h)))
      have gTh : ∀ e ∈ G.2, ThOk e.2.2 := fun e h => hth e (ges G Gm e h)
      obtain ⟨gne, gone⟩ := hone G Gm
      generalize hdone : ((gs.take i).map (·.2)).flatten = done at *
      have dl : done.length ≤ 40 := by rw [← hdone]; exact dlen i
      refine ⟨_, rfl, G.1, G.2, rfl, hGe, gTL, glen G Gm, gne, fun H4 rl rs key names s4 hrl hrs L er => ?_⟩
      refine ⟨_, rfl, rl, rfl, ⟨_, SqL.of hrl⟩, fun D nD => ?_⟩
      refine lc_list (xs := refs rs) (fun j H' => Same H4 H' ∧ H' D = some (.lst ((rs.take j).map fun _ => V.int 0))) ⟨Same.new nD, upd_same⟩ (fun j H' _ h => SqL.of (h.1 _ _ hrl)) ?_ ?_
      · rintro j y H5 hj ⟨s5, h5⟩
        obtain ⟨z, hz, rfl⟩ := refs_get hj
        have lrs : rs.length = names.length := by have := congrArg List.length er; rw [List.length_map, List.length_map] at this; exact this
        have := L.size
        refine ⟨rfl, _, h5, by rw [List.length_map, List.length_take]; omega, s5.put nD, ?_⟩
        rw [upd_same, take_snoc hz, List.map_append]; rfl
      · rintro H5 ⟨s5, h5⟩
        rw [refs_len, List.take_length] at h5
        refine ⟨D, _, rfl, .inl ⟨SqL.of h5, fun bg nbg => ?_⟩⟩
        have s56 : Same H5 (upd H5 bg (.tup (rs.map fun _ => V.int 0))) := Same.new nbg
        have hbg : upd H5 bg (.tup (rs.map fun _ => V.int 0)) bg = some (.tup (((names.map fun _ => (0 : Nat)).map fun n : Nat => (n : Int)).map V.int)) := by
          have lrs : rs.length = names.length := by have := congrArg List.length er; rw [List.length_map, List.length_map] at this; exact this
          rw [upd_same, List.map_map, List.map_map]
          show some (HO.tup (rs.map fun _ => V.int 0)) = some (HO.tup (names.map fun _ => V.int 0))
          rw [List.map_const', List.map_const', lrs]
        have s36 : Same H3 (upd H5 bg (.tup (rs.map fun _ => V.int 0))) := (s4.trans s5).trans s56
        have hrl6 := s56 _ _ (s5 _ _ hrl)
        have hrs6 := (hrs.same s5).same s56
        generalize upd H5 bg (.tup (rs.map fun _ => V.int 0)) = H6 at *
        have hkd6 := s36 _ _ hkd
        have K6 := KO.same s36
        clear h5 nbg nD s56 s5 s4 hrl hrs
        refine ⟨kd, _, hkd6, trivial, fun od => ⟨_, rfl, kd, od, rfl, .inl ⟨kvs, upd_same, fun sd nsd => ?_⟩⟩⟩
        have lt : ∀ b ys, H6 b = some (.tup ys) → upd H6 kd (.frz od (.dK kvs)) b = some (.tup ys) := fun b ys q => by rw [upd_ne (ne_of q hkd6 (by intro z; cases z))]; exact q
        have ll : ∀ b ys, H6 b = some (.lst ys) → upd H6 kd (.frz od (.dK kvs)) b = some (.lst ys) := fun b ys q => by rw [upd_ne (ne_of q hkd6 (by intro z; cases z))]; exact q
        have K7 := K6.ofTL lt ll
        have hbg7 := lt _ _ hbg
        have hkd7 : upd H6 kd (.frz od (.dK kvs)) kd = some (.frz od (.dK kvs)) := upd_same
        have back : ∀ (Ha : Hp), Same (upd H6 kd (.frz od (.dK kvs))) Ha → Same H6 (upd Ha kd (.dK kvs)) := fun Ha sa b o q => by
          by_cases hb : b = kd
          · rw [hb, upd_same, ← q, hb, hkd6]
          · rw [upd_ne hb]; exact sa _ _ (by rw [upd_ne hb]; exact q)
        generalize upd H6 kd (.frz od (.dK kvs)) = H7 at *
        refine cont_it (walk_keys (d := kd) (o := od) (kvs := kvs)) (u0 := fun D => NDict P w D []) (fun j H' => Same H7 H' ∧ ∃ xs, H' sd = some (NDict P w sd xs) ∧ StOk key names G.2 done 0 H' xs ∧ (0 < j → xs ≠ []))
          ⟨Same.new nsd, [], upd_same, ⟨fun e he => (by cases he), List.nodup_nil, fun e he => (by cases he)⟩, fun z => absurd z (by omega)⟩ (fun j H' _ h => h.1 _ _ hkd7) ?_ ?_
        · rintro j x Ha Hb hj ⟨sa, xs, ha, st, xn⟩ ⟨rfl, k, v, hkv, rfl⟩
          have qm := List.mem_of_getElem? hkv
          obtain ⟨hh, va, os, eq, hok, sv, ar⟩ := K7.2.2 _ qm
          obtain rfl : k = Sum.inl hh := congrArg Prod.fst eq
          obtain ⟨vv, hvv, hvm⟩ := valV_some qm
          obtain ⟨h2, va2, os2, eq2, _, sv2, ar2⟩ := K7.2.2 _ hvm
          have e1 : vv = .ref va2 := congrArg Prod.snd eq2
          refine ⟨rfl, _, rfl, _, rfl, by show 2 ≤ sizeLine; decide, fun ka nka => ?_⟩
          have sb : Same Hb (upd Hb ka (.tup [.ref bg, .int hh])) := Same.new nka
          have hka : upd Hb ka (.tup [.ref bg, kV (Sum.inl hh)]) ka = some (.tup [.ref bg, .int hh]) := upd_same
          generalize hHc : upd Hb ka _ = Hc
          replace sb : Same Hb Hc := by rw [← hHc]; exact sb
          replace hka : Hc ka = some (.tup [.ref bg, .int hh]) := by rw [← hHc]; exact hka
          clear hHc nka
          have sc := sa.trans sb
          have kat : NKeyAt Hc ((names.map fun _ => (0 : Nat)).map fun n : Nat => (n : Int), hh) ka := ⟨bg, hka, sc _ _ hbg7⟩
          have stc := st.same sb
          have hsc := sb _ _ ha
          refine ⟨_, rfl, _, rfl, kd, vv, rfl, .inl ⟨kvs, Sum.inl hh, .inr ⟨od, sc _ _ hkd7⟩, rfl, hvv.symm⟩, xs, _, ka, va2, rfl, e1, hsc, stc.keys, kat, stc.size L (glen G Gm), sc.put nsd, _, upd_same, ?_, fun _ => putN_ne⟩
          have stp := stc.put kat (sv2.same sc) (os := os2) ⟨hok, names.map fun _ => 0, rfl, OkP.start ar2⟩
          refine stp.ofTL (fun b xs q => ?_) (fun b xs q => ?_)
          · rw [upd_ne (ne_of q hsc (by unfold NDict; intro z; cases z))]; exact q
          · rw [upd_ne (ne_of q hsc (by unfold NDict; intro z; cases z))]; exact q
        · rintro Ha ⟨sa, xs, ha, st, xn⟩
          have hka := sa _ _ hkd7
          refine ⟨hka, ?_⟩
          have s68 := back Ha sa
          have skd : sd ≠ kd := fun z => by rw [z, hkd7] at nsd; cases nsd
          have h8 : upd Ha kd (.dK kvs) sd = some (NDict P w sd xs) := by rw [upd_ne skd]; exact ha
          have st8 : StOk key names G.2 done 0 (upd Ha kd (.dK kvs)) xs := st.ofTL (fun b ys q => by rw [upd_ne (ne_of q hka (by intro z; cases z))]; exact q) (fun b ys q => by rw [upd_ne (ne_of q hka (by intro z; cases z))]; exact q)
          have xne := xn (List.length_pos_iff.mpr KO.1)
          generalize upd Ha kd (.dK kvs) = H8 at *
          have s38 := s36.trans s68
          refine ⟨_, rfl, G.1, _, rfl, .inl (SqL.of (s38 _ _ hGe)), _, rfl, by rw [refs_len]; have := glen G Gm; omega, by rw [refs_len]; have := glen G Gm; omega, ?_⟩
          refine for_range (lo := 0) (n := (refs G.2).length) (fun s σ H' => (∃ (sd : Addr) (y6 : Option V), σ = [some (.ref t), some (.ref kd), some (.ref G.1), some (.ref rl), some (.ref bg), some (.ref sd), y6, x7, x8, x9] ∧ ∃ xs, H' sd = some (NDict P w sd xs) ∧ StOk key names G.2 done s H' xs ∧ xs ≠ []) ∧ Same H8 H')
            ⟨⟨sd, _, rfl, xs, h8, st8, xne⟩, Same.refl _⟩ ?_ ?_
          · rintro s σ Hs hs ⟨⟨sd1, y6, rfl, xs1, hx1, st1, xne1⟩, ss⟩
            rw [refs_len] at hs
            have s3s := s38.trans ss
            refine ⟨_, rfl, _, rfl, rl, sd1, rs, xs1, key, names, G.2, done, s, rfl, ss _ _ (s68 _ _ hrl6), (hrs6.same s68).same ss, er, (gTL.same s38).same ss, gTh, glen G Gm, dl, L, hx1, st1, xne1, hs, fun H' f ys sm nf hf st' yne => ⟨⟨f, _, rfl, ys, hf, st', yne⟩, ss.trans sm⟩⟩
          · rintro σ Hs ⟨⟨sd1, y6, rfl, xs1, hx1, st1, xne1⟩, ss⟩
            rw [refs_len] at st1
            have s3s := s38.trans ss
            refine ⟨sd1, _, hx1, trivial, fun od1 => ⟨_, rfl, sd1, od1, xs1, rfl, upd_same, fun nk nnk => ?_⟩⟩
            have lt9 : ∀ b ys, Hs b = some (.tup ys) → upd Hs sd1 (.frz od1 (NDict P w sd1 xs1)) b = some (.tup ys) := fun b ys q => by rw [upd_ne (ne_of q hx1 (by unfold NDict; intro z; cases z))]; exact q
            have ll9 : ∀ b ys, Hs b = some (.lst ys) → upd Hs sd1 (.frz od1 (NDict P w sd1 xs1)) b = some (.lst ys) := fun b ys q => by rw [upd_ne (ne_of q hx1 (by unfold NDict; intro z; cases z))]; exact q
            have st9 := st1.ofTL lt9 ll9
            have hx9 : upd Hs sd1 (.frz od1 (NDict P w sd1 xs1)) sd1 = some (.frz od1 (NDict P w sd1 xs1)) := upd_same
            have back9 : ∀ (Ha : Hp), Same (upd Hs sd1 (.frz od1 (NDict P w sd1 xs1))) Ha → Same Hs (upd Ha sd1 (NDict P w sd1 xs1)) := fun Ha sa b o q => by
              by_cases hb : b = sd1
              · rw [hb, upd_same, ← q, hb, hx1]
              · rw [upd_ne hb]; exact sa _ _ (by rw [upd_ne hb]; exact q)
            generalize upd Hs sd1 (.frz od1 (NDict P w sd1 xs1)) = H9 at *
            have xsl := st1.size L (glen G Gm)
            refine cont_it (walk_keysN (P := P) (w := w) (d := sd1) (o := od1) (xs := xs1)) (u0 := fun _ => .dK []) (fun j H' => Same H9 H' ∧ ∃ kvs', H' nk = some (.dK kvs') ∧ kvs'.length ≤ j ∧ (0 < j → kvs' ≠ []) ∧ ∀ q ∈ kvs', ∃ (h : Int) (v : Addr) (os : List AEv), q = (Sum.inl h, V.ref v) ∧ HeadOk h ∧ SV H' v os ∧ Arr (done ++ G.2) os)
              ⟨Same.new nnk, [], upd_same, Nat.le_refl _, fun z => absurd z (by omega), fun q hq => (by cases hq)⟩ (fun j H' _ h => h.1 _ _ hx9) ?_ ?_
            · rintro j x Hb Hc hj ⟨sb, kvs', hk', kl, kn, kall⟩ ⟨rfl, e, hee, rfl⟩
              have em := List.mem_of_getElem? hee
              obtain ⟨pa, p1, p2⟩ := st9.keys e em
              obtain ⟨os, sv, hok, ps, eps, okp⟩ := st9.ent e em
              refine ⟨e.2.1, _, rfl, SqT.of (sb _ _ p1), rfl, _, _, rfl, _, _, rfl, rfl, rfl, _, rfl, _, rfl, _, rfl, _, rfl, by show 2 ≤ sizeLine; decide, fun ka nka => ?_⟩
              have sd2 : Same Hc (upd Hc ka (.tup [.ref pa, .int e.1.2])) := Same.new nka
              have hka : upd Hc ka (.tup [.ref pa, .int e.1.2]) ka = some (.tup [.ref pa, .int e.1.2]) := upd_same
              generalize upd Hc ka (.tup [.ref pa, .int e.1.2]) = Hd at *
              have sd9 := sb.trans sd2
              have kat : NKeyAt Hd e.1 ka := ⟨pa, hka, sd9 _ _ p2⟩
              have hkd := sd2 _ _ hk'
              have jl : j < xs1.length := hj
              refine ⟨sd1, xs1, e.1, ka, e.2, rfl, rfl, .inr ⟨od1, sd9 _ _ hx9⟩, (st9.same sd9).keys, kat, lookN_of st9.nd em, kvs', Sum.inl e.1.2, rfl, hkd, by omega, sd9.put nnk, _, upd_same, Nat.le_trans (length_putK _ _ _) (Nat.succ_le_succ kl), fun _ => putK_ne, fun q hq => ?_⟩
              have lift : ∀ {v : Addr} {os : List AEv}, SV Hd v os → SV (upd Hd nk (.dK (putK kvs' (Sum.inl e.1.2) (.ref e.2.2)))) v os := fun h => h.ofTL (fun b ys q => by rw [upd_ne (ne_of q hkd (by intro z; cases z))]; exact q) (fun b ys q => by rw [upd_ne (ne_of q hkd (by intro z; cases z))]; exact q)
              rcases mem_putK hq with hq | hq
              · obtain ⟨h1, v1, o1, a1, a2, a3, a4⟩ := kall q hq
                exact ⟨h1, v1, o1, a1, a2, lift (a3.same sd2), a4⟩
              · exact ⟨e.1.2, e.2.2, os, hq, hok, lift (sv.same sd9), okp.full L gone⟩
            · rintro Hb ⟨sb, kvs', hk', kl, kn, kall⟩
              have hx10 := sb _ _ hx9
              refine ⟨hx10, ⟨nk, _, _, _, _, _, _, _, _, rfl, kvs', ?_, kn (List.length_pos_iff.mpr xne1), Nat.lt_of_le_of_lt kl xsl, fun q hq => ?_⟩, (s3.trans s3s).trans (back9 Hb sb)⟩
              · rw [upd_ne (fun z => by rw [z, hx9] at nnk; cases nnk)]; exact hk'
              · obtain ⟨h1, v1, o1, a1, a2, a3, a4⟩ := kall q hq
                refine ⟨h1, v1, o1, a1, a2, a3.ofTL (fun b ys q => by rw [upd_ne (ne_of q hx10 (by intro z; cases z))]; exact q) (fun b ys q => by rw [upd_ne (ne_of q hx10 (by intro z; cases z))]; exact q), ?_⟩
                rw [take_snoc hG, List.map_append, List.flatten_append, hdone]
                show Arr (done ++ (G.2 ++ [])) o1
                rw [List.append_nil]; exact a4
    · rintro σ H3 ⟨⟨kd, x2, x3, x4, x5, x6, x7, x8, x9, rfl, kvs, hkd, KO⟩, s3⟩
      rw [refs_len, List.take_length, hflat] at KO
      refine ⟨kd, _, hkd, trivial, fun od => ⟨_, rfl, kd, od, rfl, .inl ⟨kvs, upd_same, fun D nD => ?_⟩⟩⟩
      have lt : ∀ b ys, H3 b = some (.tup ys) → upd H3 kd (.frz od (.dK kvs)) b = some (.tup ys) := fun b ys q => by rw [upd_ne (ne_of q hkd (by intro z; cases z))]; exact q
      have ll : ∀ b ys, H3 b = some (.lst ys) → upd H3 kd (.frz od (.dK kvs)) b = some (.lst ys) := fun b ys q => by rw [upd_ne (ne_of q hkd (by intro z; cases z))]; exact q
      have hkd7 : upd H3 kd (.frz od (.dK kvs)) kd = some (.frz od (.dK kvs)) := upd_same
      have back : ∀ (Ha : Hp), Same (upd H3 kd (.frz od (.dK kvs))) Ha → Same H3 (upd Ha kd (.dK kvs)) := fun Ha sa b o q => by
        by_cases hb : b = kd
        · rw [hb, upd_same, ← q, hb, hkd]
        · rw [upd_ne hb]; exact sa _ _ (by rw [upd_ne hb]; exact q)
      generalize upd H3 kd (.frz od (.dK kvs)) = H7 at *
      refine lc_it (walk_keys (d := kd) (o := od) (kvs := kvs)) (fun j H' => Same H7 H' ∧ ∃ acc, H' D = some (.lst acc) ∧ acc.length = j ∧ ∀ v ∈ acc, ∃ q ∈ kvs, v = q.2) ⟨Same.new nD, [], upd_same, rfl, fun v hv => (by cases hv)⟩ (fun j H' _ h => h.1 _ _ hkd7) ?_ ?_
      · rintro j x Ha Hb hj ⟨sa, acc, h1, h2, h3⟩ ⟨rfl, k, v, hkv, rfl⟩
        have qm := List.mem_of_getElem? hkv
        obtain ⟨hh, va, os, eq, hok, sv, ar⟩ := KO.2.2 _ qm
        obtain rfl : k = Sum.inl hh := congrArg Prod.fst eq
        obtain ⟨vv, hvv, hvm⟩ := valV_some qm
        have k2 := KO.2.1
        refine ⟨rfl, _, rfl, _, rfl, kd, vv, rfl, .inl ⟨kvs, Sum.inl hh, .inr ⟨od, sa _ _ hkd7⟩, rfl, hvv.symm⟩, acc, h1, by omega, sa.put nD, acc ++ [vv], upd_same, by rw [List.length_append, h2]; rfl, fun y hy => ?_⟩
        rcases List.mem_append.mp hy with hy | hy
        · exact h3 y hy
        · rw [List.mem_singleton.mp hy]; exact ⟨_, hvm, rfl⟩
      · rintro Ha ⟨sa, acc, h1, h2, h3⟩
        refine ⟨sa _ _ hkd7, ?_⟩
        have s8 := back Ha sa
        have Dk : D ≠ kd := fun z => by rw [z, hkd7] at nD; cases nD
        have h8 : upd Ha kd (.dK kvs) D = some (.lst acc) := by rw [upd_ne Dk]; exact h1
        generalize upd Ha kd (.dK kvs) = H8 at *
        have sH8 : Same H H8 := (s12.trans s3).trans s8
        have val : ∀ v ∈ acc, ∃ (p o : Addr) (pr : Int) (os : List AEv), v = .ref p ∧ H8 p = some (.tup [.int pr, .ref o]) ∧ H8 o = some (.lst (refs os)) ∧ Arr es os := fun v hv => by
          obtain ⟨q, hq, rfl⟩ := h3 v hv
          obtain ⟨h1, v1, o1, a1, a2, ⟨pr, o, b1, b2⟩, a4⟩ := KO.2.2 q hq
          exact ⟨v1, o, pr, o1, by rw [a1], s8 _ _ b1, s8 _ _ b2, a4⟩
        refine ⟨hT.ext sH8, D, acc, rfl, SqL.of h8, by rw [h2]; exact List.length_pos_iff.mpr KO.1, fun v hv => ?_, fun v H9 hv eN T9 => ?_⟩
        · obtain ⟨p, o, pr, os, e1, e2, e3, e4⟩ := val v hv
          exact ⟨p, _, pr, e1, SqT.of e2⟩
        · obtain ⟨p, o, pr, os, rfl, e2, e3, e4⟩ := val v hv
          refine ⟨p, _, _, V.ref o, rfl, rfl, SqT.of (eN _ _ e2 (fun ps z => by cases z)), at1, ?_⟩
          exact q H9 o os ((LamX.ExtN.of sH8).trans eN) T9 (eN _ _ e3 (fun ps z => by cases z)) e4
end
end L2.RK
namespace L2.RK
open PySem PySem.Spec PyProof.Rows
/-! plain law: moments -/
theorem low_parts (a b : Int) (hb : 0 < b) : ∃ g : Int, 0 < g ∧ a = (low a b).1 * g ∧ b = (low a b).2 * g := by
  refine ⟨(Int.gcd a b : Int), ?_, ?_, ?_⟩
  · have := Int.gcd_pos_of_ne_zero_right a (show b ≠ 0 by omega)
    omega
  · exact (Int.ediv_mul_cancel (Int.gcd_dvd_left ..)).symm
  · exact (Int.ediv_mul_cancel (Int.gcd_dvd_right ..)).symm
theorem low_ahead (a c b : Int) (hb : 0 < b) : (low a b).1 * (low c b).2 < (low c b).1 * (low a b).2 ↔ a < c := by
  obtain ⟨g, g0, ea, eb⟩ := low_parts a b hb
  obtain ⟨k, k0, ec, eb2⟩ := low_parts c b hb
  have h1 : (low a b).1 * (low c b).2 * (g * k) = a * b := by
    calc (low a b).1 * (low c b).2 * (g * k) = ((low a b).1 * g) * ((low c b).2 * k) := by ac_rfl
      _ = a * b := by rw [← ea, ← eb2]
  have h2 : (low c b).1 * (low a b).2 * (g * k) = c * b := by
    calc (low c b).1 * (low a b).2 * (g * k) = ((low c b).1 * k) * ((low a b).2 * g) := by ac_rfl
      _ = c * b := by rw [← ec, ← eb]
  have gk : 0 < g * k := Int.mul_pos g0 k0
  constructor
  · intro h
    have := Int.mul_lt_mul_of_pos_right h gk
    rw [h1, h2] at this
    exact Int.lt_of_mul_lt_mul_right this (by omega)
  · intro h
    have := Int.mul_lt_mul_of_pos_right h hb
    rw [← h1, ← h2] at this
    exact Int.lt_of_mul_lt_mul_right this (by omega)
theorem low_scale (a b k : Int) (hk : 0 < k) : low (k * a) (k * b) = low a b := by
  unfold low
  have e : ((Int.gcd (k * a) (k * b) : Nat) : Int) = k * (Int.gcd a b : Int) := by
    rw [Int.gcd_mul_left]
    rw [Int.natCast_mul, Int.natAbs_of_nonneg (by omega)]
  rw [e, Int.mul_ediv_mul_of_pos _ _ hk, Int.mul_ediv_mul_of_pos _ _ hk]
theorem numF_ge {t : Int} : ∀ (qs : List (Int × Int)) (at_ ahead old : Int), 0 ≤ old → at_ ≤ t → (qs.Pairwise fun a b => a.1 < b.1) → (∀ q ∈ qs, at_ ≤ q.1 ∧ 1 ≤ q.2) → ahead ≤ numF at_ ahead old qs t
  | [], at_, ahead, old, h1, h2, _, _ => by
    have : 0 ≤ (t - at_) * old := Int.mul_nonneg (by omega) h1
    show ahead ≤ ahead + (t - at_) * old
    omega
  | (t1, p) :: r, at_, ahead, old, h1, h2, hs, hq => by
    obtain ⟨hs1, hs2⟩ := List.pairwise_cons.mp hs
    have hp := hq _ List.mem_cons_self
    show ahead ≤ if t1 ≤ t then _ else _
    by_cases h : t1 ≤ t
    · rw [if_pos h]
      have h3 : 0 ≤ (t1 - at_) * old := Int.mul_nonneg (by have := hp.1; simp at this; omega) h1
      have := numF_ge r t1 (ahead + (t1 - at_) * old) p (by have := hp.2; simp at this; omega) h hs2 fun q hm => ⟨by have : t1 < q.1 := hs1 q hm; omega, (hq q (List.mem_cons_of_mem _ hm)).2⟩
      omega
    · rw [if_neg h]
      have : 0 ≤ (t - at_) * old := Int.mul_nonneg (by omega) h1
      omega
theorem numF_mono {s t : Int} (st : s < t) : ∀ (qs : List (Int × Int)) (at_ ahead old : Int), 1 ≤ old → at_ ≤ s → (qs.Pairwise fun a b => a.1 < b.1) → (∀ q ∈ qs, at_ ≤ q.1 ∧ 1 ≤ q.2) → numF at_ ahead old qs s < numF at_ ahead old qs t
  | [], at_, ahead, old, h1, h2, _, _ => by
    have : (s - at_) * old < (t - at_) * old := Int.mul_lt_mul_of_pos_right (by omega) (by omega)
    show ahead + (s - at_) * old < ahead + (t - at_) * old
    omega
  | (t1, p) :: r, at_, ahead, old, h1, h2, hs, hq => by
    obtain ⟨hs1, hs2⟩ := List.pairwise_cons.mp hs
    have hp := hq _ List.mem_cons_self
    have hp1 : at_ ≤ t1 := hp.1
    have hp2 : 1 ≤ p := hp.2
    have hr : ∀ q ∈ r, t1 ≤ q.1 ∧ 1 ≤ q.2 := fun q hm => ⟨by have : t1 < q.1 := hs1 q hm; omega, (hq q (List.mem_cons_of_mem _ hm)).2⟩
    show (if t1 ≤ s then _ else _) < if t1 ≤ t then _ else _
    by_cases hs' : t1 ≤ s
    · rw [if_pos hs', if_pos (by omega)]
      exact numF_mono st r _ _ _ hp2 hs' hs2 hr
    · rw [if_neg hs']
      by_cases ht : t1 ≤ t
      · rw [if_pos ht]
        have h3 := numF_ge r t1 (ahead + (t1 - at_) * old) p (by omega) ht hs2 hr
        have h4 : (s - at_) * old < (t1 - at_) * old := Int.mul_lt_mul_of_pos_right (by omega) (by omega)
        omega
      · rw [if_neg ht]
        have : (s - at_) * old < (t - at_) * old := Int.mul_lt_mul_of_pos_right (by omega) (by omega)
        omega
theorem numF_scale {k t : Int} (hk : 0 < k) : ∀ (qs : List (Int × Int)) (at_ ahead old : Int), numF (k * at_) (k * ahead) old (qs.map fun q => (k * q.1, q.2)) (k * t) = k * numF at_ ahead old qs t
  | [], at_, ahead, old => by
    show k * ahead + (k * t - k * at_) * old = k * (ahead + (t - at_) * old)
    rw [Int.mul_add, ← Int.mul_sub, Int.mul_assoc]
  | (t1, p) :: r, at_, ahead, old => by
    have e : k * ahead + (k * t1 - k * at_) * old = k * (ahead + (t1 - at_) * old) := by rw [Int.mul_add, ← Int.mul_sub, Int.mul_assoc]
    show (if k * t1 ≤ k * t then numF (k * t1) (k * ahead + (k * t1 - k * at_) * old) p (r.map fun q => (k * q.1, q.2)) (k * t) else k * ahead + (k * t - k * at_) * old) = k * (if t1 ≤ t then _ else _)
    by_cases h : t1 ≤ t
    · rw [if_pos h, if_pos (Int.mul_le_mul_of_nonneg_left h (by omega)), e]
      exact numF_scale hk r t1 _ p
    · rw [if_neg h, if_neg (fun z => h (Int.le_of_mul_le_mul_left z hk)), Int.mul_add, ← Int.mul_sub, Int.mul_assoc]
theorem momF_mono {beat : Int} {qs : List (Int × Int)} (M : MapOk beat qs) : MonoM (momF beat qs) := by
  have b0 : 0 < beat := by have := M.b0; omega
  have mono : ∀ s t, 0 ≤ s → s < t → numF 0 0 500000 qs s < numF 0 0 500000 qs t := fun s t h1 h2 => numF_mono h2 qs 0 0 500000 (by decide) h1 M.srt fun q hq => ⟨(M.tick q hq).1, (M.pace q hq).1⟩
  have ah : ∀ s t, 0 ≤ s → 0 ≤ t → ((momF beat qs s).1 * (momF beat qs t).2 < (momF beat qs t).1 * (momF beat qs s).2 ↔ s < t) := fun s t hs ht => by
    unfold momF
    rw [low_ahead _ _ _ b0]
    constructor
    · intro h
      refine Decidable.byContradiction fun z => ?_
      rcases Int.lt_or_eq_of_le (Int.not_lt.mp z) with q | q
      · have := mono t s ht q; omega
      · rw [q] at h; omega
    · exact mono s t hs
  refine ⟨fun s t hs ht e => ?_, ah⟩
  have h1 := ah s t hs ht
  have h2 := ah t s ht hs
  rw [e] at h1 h2
  refine Decidable.byContradiction fun z => ?_
  rcases Int.lt_or_gt_of_ne z with q | q
  · exact absurd (h1.mpr q) (Int.lt_irrefl _)
  · exact absurd (h2.mpr q) (Int.lt_irrefl _)
def scaleQ (k : Int) (qs : List (Int × Int)) : List (Int × Int) := qs.map fun q => (k * q.1, q.2)
theorem momF_scale {k t beat : Int} {qs : List (Int × Int)} (hk : 0 < k) : momF (k * beat) (scaleQ k qs) (k * t) = momF beat qs t := by
  unfold momF scaleQ
  have := numF_scale (t := t) hk qs 0 0 500000
  rw [Int.mul_zero] at this
  rw [this, low_scale _ _ _ hk]
/-! states by lanes -/
theorem ring_lane {i : Nat} : ∀ (l : List Ev) (S S' : Snd), (∀ e ∈ l, ThOk e.2) → S.ring i = S'.ring i → S.knob i = S'.knob i → (appE S l).ring i = (appE S' (l.filter fun e => decide (laneT e.2 = ((i / 128 : Nat) : Int)))).ring i ∧ (appE S l).knob i = (appE S' (l.filter fun e => decide (laneT e.2 = ((i / 128 : Nat) : Int)))).knob i
  | [], S, S', _, h1, h2 => ⟨h1, h2⟩
  | (n, t) :: r, S, S', hok, h1, h2 => by
    have hr : ∀ e ∈ r, ThOk e.2 := fun e he => hok e (List.mem_cons_of_mem _ he)
    have ht : ThOk t := hok _ List.mem_cons_self
    by_cases c : laneT t = ((i / 128 : Nat) : Int)
    · rw [List.filter_cons_of_pos (by simpa using c)]
      refine ring_lane r (stepS S t) (stepS S' t) hr ?_ ?_
      · cases t with
        | on c k f => show setF _ _ _ i = setF _ _ _ i; unfold setF; split <;> simp_all
        | off c k f => show setF _ _ _ i = setF _ _ _ i; unfold setF; split <;> simp_all
        | _ => exact h1
      · cases t with
        | knob c k v => show setF _ _ _ i = setF _ _ _ i; unfold setF; split <;> simp_all
        | _ => exact h2
    · rw [List.filter_cons_of_neg (by simpa using c)]
      refine ring_lane r (stepS S t) S' hr ?_ ?_
      · cases t with
        | on c' k f => rw [← h1]; refine if_neg fun z => c ?_; have := ht.2.1; show (c' : Int) = _; omega
        | off c' k f => rw [← h1]; refine if_neg fun z => c ?_; have := ht.2.1; show (c' : Int) = _; omega
        | _ => exact h1
      · cases t with
        | knob c' k v => rw [← h2]; refine if_neg fun z => c ?_; have := ht.2.1; show (c' : Int) = _; omega
        | _ => exact h2
theorem voice_lane {i : Nat} : ∀ (l : List Ev) (S S' : Snd), S.voice i = S'.voice i → (appE S l).voice i = (appE S' (l.filter fun e => decide (laneT e.2 = (i : Int)))).voice i
  | [], S, S', h1 => h1
  | (n, t) :: r, S, S', h1 => by
    by_cases c : laneT t = (i : Int)
    · rw [List.filter_cons_of_pos (by simpa using c)]
      refine voice_lane r (stepS S t) (stepS S' t) ?_
      cases t with
      | voice c p => show setF _ _ _ i = setF _ _ _ i; unfold setF; split <;> simp_all
      | _ => exact h1
    · rw [List.filter_cons_of_neg (by simpa using c)]
      refine voice_lane r (stepS S t) S' ?_
      cases t with
      | voice c' p => rw [← h1]; refine if_neg fun z => c ?_; show (c' : Int) = _; omega
      | _ => exact h1
theorem lanes_same {a b : List Ev} (ha : ∀ e ∈ a, ThOk e.2) (hb : ∀ e ∈ b, ThOk e.2) (h : ∀ c : Int, a.filter (fun e => decide (laneT e.2 = c)) = b.filter (fun e => decide (laneT e.2 = c))) (S : Snd) : appE S a = appE S b := by
  refine Snd.same (funext fun i => ?_) (funext fun i => ?_) (funext fun i => ?_)
  · rw [(ring_lane a S S ha rfl rfl).1, h, ← (ring_lane b S S hb rfl rfl).1]
  · rw [(ring_lane a S S ha rfl rfl).2, h, ← (ring_lane b S S hb rfl rfl).2]
  · rw [voice_lane a S S rfl, h, ← voice_lane b S S rfl]
theorem arr_like {es os : List AEv} (A : Arr es os) (hok : ∀ e ∈ es, ThOk e.2.2) (S : Snd) (m : Int) : appE S (upTo m (es.map (·.2))) = appE S (upTo m (os.map (·.2))) := by
  have key : ∀ (l : List AEv) (c : Int), (upTo m (l.map (·.2))).filter (fun e => decide (laneT e.2 = c)) = ((l.filter fun e => decide (lk e = c)).filter fun e => decide (e.2.1 ≤ m)).map (·.2) := fun l c => by
    unfold upTo
    rw [List.filter_filter, List.filter_filter, List.filter_map]
    congr 1
    refine List.filter_congr fun x _ => ?_
    show (decide (laneT x.2.2 = c) && decide (x.2.1 ≤ m)) = (decide (x.2.1 ≤ m) && decide (lk x = c))
    rw [Bool.and_comm]; rfl
  refine lanes_same (fun e he => ?_) (fun e he => ?_) (fun c => ?_) S
  · obtain ⟨x, hx, rfl⟩ := List.mem_map.mp (List.mem_filter.mp he).1
    exact hok x hx
  · obtain ⟨x, hx, rfl⟩ := List.mem_map.mp (List.mem_filter.mp he).1
    exact hok x (A.mem hx)
  · rw [key, key, A.lane]
/-! lone offs and marks -/
def isMark : Th → Bool
  | .mark _ => true
  | _ => false
def plainF (S : Snd) : List Ev → List Ev
  | [] => []
  | e :: r => (if isLone S e.2 || isMark e.2 then [] else [e]) ++ plainF (stepS S e.2) r
theorem step_dull {S : Snd} {t : Th} (h : (isLone S t || isMark t) = true) : stepS S t = S := by
  cases t with
  | off c k f =>
    have : S.ring (c * 128 + k) = [] := by simpa [isLone, isMark] using h
    refine Snd.same (funext fun i => ?_) rfl rfl
    show (if i = c * 128 + k then (S.ring (c * 128 + k)).drop 1 else S.ring i) = S.ring i
    split
    · rename_i e; rw [e, this]; rfl
    · rfl
  | mark x => rfl
  | _ => simp [isLone, isMark] at h
theorem plain_sub : ∀ (l : List Ev) (S : Snd), (plainF S l).Sublist l
  | [], _ => List.Sublist.slnil
  | e :: r, S => by
    unfold plainF
    split
    · exact (plain_sub r _).cons _
    · exact (plain_sub r _).cons₂ _
theorem plain_app : ∀ (a : List Ev) (S : Snd) (e : Ev), plainF S (a ++ [e]) = plainF S a ++ (if isLone (appE S a) e.2 || isMark e.2 then [] else [e])
  | [], S, e => by show _ ++ [] = [] ++ _; rw [List.append_nil, List.nil_append]; rfl
  | x :: r, S, e => by
    show _ ++ plainF _ (r ++ [e]) = (_ ++ plainF _ r) ++ _
    rw [plain_app r, List.append_assoc]; rfl
theorem plain_like : ∀ (l : List Ev) (S : Snd), (l.Pairwise fun a b => a.1 ≤ b.1) → ∀ m, appE S (upTo m l) = appE S (upTo m (plainF S l))
  | [], _, _, _ => rfl
  | e :: r, S, h, m => by
    obtain ⟨h1, h2⟩ := List.pairwise_cons.mp h
    have ih := plain_like r (stepS S e.2) h2 m
    by_cases c : e.1 ≤ m
    · have e1 : upTo m (e :: r) = e :: upTo m r := List.filter_cons_of_pos (by simpa using c)
      rw [e1]
      show appE (stepS S e.2) (upTo m r) = _
      rw [ih]
      show _ = appE S (upTo m ((if _ then _ else _) ++ _))
      by_cases d : (isLone S e.2 || isMark e.2) = true
      · rw [if_pos d, List.nil_append, step_dull d]
      · rw [if_neg d]
        have e2 : upTo m ([e] ++ plainF (stepS S e.2) r) = e :: upTo m (plainF (stepS S e.2) r) := List.filter_cons_of_pos (by simpa using c)
        rw [e2]; rfl
    · have none : ∀ l : List Ev, l.Sublist (e :: r) → upTo m l = [] := fun l hl => List.filter_eq_nil_iff.mpr fun x hx => by
        rcases List.mem_cons.mp (hl.subset hx) with q | q
        · rw [q]; simpa using c
        · have := h1 x q; simp only [decide_eq_true_eq]; omega
      rw [none _ (List.Sublist.refl _), none _ (plain_sub _ _)]
end L2.RK
namespace L2.RK
open PySem PySem.Spec PyProof.Rows
/-! the law's draws -/
def SBd (f : Addr) (H H' : Hp) : Prop := ∀ b o, b ≠ f → H b = some o → H' b = some o
theorem SBd.refl {f : Addr} {H : Hp} : SBd f H H := fun _ _ _ h => h
theorem SBd.trans {f : Addr} {H H1 H2 : Hp} (a : SBd f H H1) (b : SBd f H1 H2) : SBd f H H2 := fun c o h q => b c o h (a c o h q)
theorem SBd.ofSame {f : Addr} {H H' : Hp} (a : Same H H') : SBd f H H' := fun c o _ q => a c o q
theorem SBd.self {f : Addr} {H : Hp} {o : HO} : SBd f H (upd H f o) := fun b u hb q => by rw [upd_ne hb]; exact q
structure DrawAt (H : Hp) (d cs : Addr) : Prop where
  ex : ∃ (ns : List Int) (i : Nat) (a b c : Int), H d = some (.lst [.ref cs, .int (i : Int), .int a, .int b, .int c]) ∧ H cs = some (.lst (ns.map V.int)) ∧ cs ≠ d ∧ ns.length ≤ 100 ∧ 0 ≤ b ∧ b < 1000000007
theorem DrawAt.same {H H' : Hp} {d cs : Addr} (h : DrawAt H d cs) (e : Same H H') : DrawAt H' d cs := let ⟨ns, i, a, b, c, h1, h2, h3⟩ := h.ex; ⟨ns, i, a, b, c, e _ _ h1, e _ _ h2, h3⟩
theorem DrawAt.free {H : Hp} {d cs t : Addr} (h : DrawAt H d cs) (n : H t = none) : t ≠ d ∧ t ≠ cs := by
  obtain ⟨ns, i, a, b, c, h1, h2, h3⟩ := h.ex
  exact ⟨fun z => (by rw [z, h1] at n; cases n), fun z => (by rw [z, h2] at n; cases n)⟩
theorem DrawAt.put {H : Hp} {d cs t : Addr} {o : HO} (h : DrawAt H d cs) (n : t ≠ d ∧ t ≠ cs) : DrawAt (upd H t o) d cs := by
  obtain ⟨ns, i, a, b, c, h1, h2, h3⟩ := h.ex
  exact ⟨ns, i, a, b, c, by rw [upd_ne n.1.symm]; exact h1, by rw [upd_ne n.2.symm]; exact h2, h3⟩
theorem SBd.new {H H' : Hp} {d t : Addr} {o : HO} (s : SBd d H H') (n : H t = none) : SBd d H (upd H' t o) := fun b u hb e => by
  by_cases hL : b = t
  · rw [hL, n] at e; cases e
  · rw [upd_ne hL]; exact s _ _ hb e
section
variable {P : Program} {w : World} {K : PySem.W.Frag} {mg : Str → Option Value} {base : Heap}
abbrev nPick : List Str := ["_law_draw", "_law_many", "_law_cell", "_law_got"]
theorem scLawPick : FnScope nPick ["_law_draw", "_law_many"] (defScope sLawPick) := ⟨rfl, rfl, rfl, by decide +kernel, rfl, by decide +kernel, by decide +kernel⟩
def spPick : Sp := fun vs H Q _ => ∃ (d cs : Addr) (many : Int), vs = [.ref d, .int many] ∧ DrawAt H d cs ∧ 1 ≤ many ∧ many < 1073741824 ∧ ∀ (H' : Hp) (r : Int), SBd d H H' → DrawAt H' d cs → 0 ≤ r → r < many → Q (.int r) H'
theorem ok_pick (T : Txt K mg w) : Has P w K mg base 1 (gA K "_law_pick") ["_law_draw", "_law_many"] spPick := by
  obtain ⟨fd, F⟩ := T.fLawPick
  have nd := scLawPick.nd
  refine ⟨fd, F.ok scLawPick (fun vs H Q E h => ?_) (fun cdv A outer s H vs Q E hr h => ⟨_, PSs.nox (
      C8.pss_cut (ps_if (PW.pt (pw_and (pt_cmpR op_lt (pe_ix ix_list (pv 0) pe_int (fun _ _ => rfl)) (pv 1) (nomark _)) (pw_and1 (pt_cmpR op_lt (pe_ix ix_list (pv 0) pe_int (fun _ _ => rfl)) (pe_callB call_len_seq (by rfl) T.nLen PySem.boot_len (pa_cons (pe_ix ix_list (pv 0) pe_int (fun _ _ => rfl)) pa_nil)) (nomark _)))))
        (pss_cons (ps_set (i := 2) nd rfl (.inl rfl) (pe_ix ix_list (pe_ix ix_list (pv 0) pe_int (fun _ _ => rfl)) (pe_ix ix_list (pv 0) pe_int (fun _ _ => rfl)) (fun _ _ => rfl)))
        (pss_cons (ps_asg (pe_op op_add (pe_ix ix_list (pv 0) pe_int (fun _ _ => rfl)) pe_int) (pg_sub (pv 0) pe_int set_list))
        (pss_cons (ps_asg pe_int (pg_sub (pv 0) pe_int set_list))
        (pss_one (ps_if (pt_cmpR op_ge (pv 2) (pe_op op_pow pe_int pe_int) (nomark _)) (pss_one (ps_asg (pv 2) (pg_sub (pv 0) pe_int set_list)))
          (pss_one (ps_asg (pe_op op_modN (pe_op op_add (pe_ix ix_list (pv 0) pe_int (fun _ _ => rfl)) (pv 2)) pe_int) (pg_sub (pv 0) pe_int set_list)))))))) pss_nil)
      (pss_cons (ps_if (pt_cmpR op_ge (pe_ix ix_list (pv 0) pe_int (fun _ _ => rfl)) (pv 1) (nomark _))
        (pss_cons (ps_set (i := 3) nd rfl (.inl rfl) (pe_op op_modN (pe_ix ix_list (pv 0) pe_int (fun _ _ => rfl)) (pv 1)))
        (pss_cons (ps_asg (pe_op op_fdivN (pe_ix ix_list (pv 0) pe_int (fun _ _ => rfl)) (pv 1)) (pg_sub (pv 0) pe_int set_list))
        (pss_one (ps_ret (pv 3))))) pss_nil)
      (pss_cons (ps_asg (pe_op op_add (pe_ix ix_list (pv 0) pe_int (fun _ _ => rfl)) pe_int) (pg_sub (pv 0) pe_int set_list))
      (pss_cons (ps_asg (pe_op op_modN (pe_op op_add (pe_op op_add (pe_op op_pow (pe_ix ix_list (pv 0) pe_int (fun _ _ => rfl)) pe_int) (pe_op op_mul pe_int (pe_ix ix_list (pv 0) pe_int (fun _ _ => rfl)))) pe_int) pe_int) (pg_sub (pv 0) pe_int set_list))
      (pss_one (ps_ret (pe_op op_modN (pe_op op_fdivN (pe_ix ix_list (pv 0) pe_int (fun _ _ => rfl)) pe_int) (pv 1)))))))), ?_⟩), F.bindsN fun _ _ _ _ _ _ us hl => match us, hl with | [_, _], _ => rfl, F.kp⟩
  · obtain ⟨d, cs, many, rfl, _⟩ := h
    rfl
  · obtain ⟨d, cs, many, rfl, ⟨ns, i, a, b, c, hd, hcs, cd, nl, b0, b1⟩, m0, m1, q⟩ := h
    refine ⟨fun σ' H' => (∃ x2, σ' = [some (.ref d), some (.int many), x2, none]) ∧ SBd d H H' ∧ ∃ (i : Nat) (a b c : Int), H' d = some (.lst [.ref cs, .int (i : Int), .int a, .int b, .int c]) ∧ 0 ≤ b ∧ b < 1000000007, ?_, ?_⟩
    · refine ⟨_, rfl, d, _, _, _, rfl, rfl, SqL.of hd, atI_nat (j := 2) rfl, _, rfl, _, _, rfl, rfl, _, rfl, ite2 (fun h1 => ?_) (fun h1 => ⟨⟨_, rfl⟩, SBd.refl, i, a, b, c, hd, b0, b1⟩)⟩
      refine ⟨_, rfl, d, _, _, _, rfl, rfl, SqL.of hd, at1, _, rfl, d, _, _, _, rfl, rfl, SqL.of hd, at0, cs, _, rfl, .inl (SqL.of hcs), _, _, rfl, rfl, _, rfl, ite2 (fun h2 => ?_) (fun h2 => ⟨⟨_, rfl⟩, SBd.refl, i, a, b, c, hd, b0, b1⟩)⟩
      have hi : i < ns.length := by
        have : (i : Int) < ((ns.map V.int).length : Int) := of_decide_eq_true h2
        rw [List.length_map] at this
        omega
      obtain ⟨cell, hcell⟩ : ∃ cell, ns[i]? = some cell := ⟨_, List.getElem?_eq_getElem hi⟩
      have hc2 : (ns.map V.int)[i]? = some (.int cell) := by rw [List.getElem?_map, hcell]; rfl
      refine ⟨_, rfl, d, _, _, _, rfl, rfl, SqL.of hd, at0, _, rfl, d, _, _, _, rfl, rfl, SqL.of hd, at1, cs, _, _, _, rfl, rfl, SqL.of hcs, atI_nat hc2, ?_⟩
      refine ⟨_, rfl, d, _, _, _, rfl, rfl, SqL.of hd, at1, _, _, rfl, rfl, _, rfl, d, _, _, 1, rfl, rfl, hd, rfl, ?_⟩
      refine ⟨_, rfl, d, _, _, 2, rfl, rfl, upd_same, rfl, ?_⟩
      rw [upd_upd]
      refine ⟨_, rfl, _, _, rfl, rfl, ⟨by decide, by decide, by decide⟩, _, _, rfl, rfl, _, rfl, ite2 (fun h3 => ?_) (fun h3 => ?_)⟩
      · refine ⟨_, rfl, _, rfl, d, _, _, 2, rfl, rfl, upd_same, rfl, ?_⟩
        rw [upd_upd]
        exact ⟨⟨_, rfl⟩, SBd.self, i + 1, cell, b, c, upd_same, b0, b1⟩
      · refine ⟨_, rfl, d, _, _, _, rfl, rfl, SqL.of upd_same, atI_nat (j := 3) rfl, _, rfl, _, _, rfl, rfl, _, _, rfl, rfl, by show (1000000007 : Int) ≠ 0; decide, _, rfl, d, _, _, 3, rfl, rfl, upd_same, rfl, ?_⟩
        rw [upd_upd]
        have e1 : Int.fmod (b + cell) 1000000007 = (b + cell) % 1000000007 := fmod_of (by decide)
        refine ⟨⟨_, rfl⟩, SBd.self, i + 1, 0, Int.fmod (b + cell) 1000000007, c, upd_same, ?_, ?_⟩
        · rw [e1]; exact Int.emod_nonneg _ (by decide)
        · rw [e1]; exact Int.emod_lt_of_pos _ (by decide)
    · rintro σ' H1 ⟨⟨x2, rfl⟩, sb, i, a, b, c, hd, b0, b1⟩
      have hcs1 := sb _ _ cd hcs
      have fin : ∀ (H' : Hp) (i : Nat) (a b c r : Int), SBd d H H' → H' d = some (.lst [.ref cs, .int (i : Int), .int a, .int b, .int c]) → 0 ≤ b → b < 1000000007 → 0 ≤ r → r < many → Q (.int r) H' := fun H' i a b c r s h1 h2 h3 h4 h5 => q H' r s ⟨ns, i, a, b, c, h1, s _ _ cd hcs, cd, nl, h2, h3⟩ h4 h5
      refine ⟨_, rfl, d, _, _, _, rfl, rfl, SqL.of hd, atI_nat (j := 2) rfl, _, rfl, _, _, rfl, rfl, _, rfl, ite2 (fun h1 => ?_) (fun h1 => ?_)⟩
      · refine ⟨_, rfl, d, _, _, _, rfl, rfl, SqL.of hd, atI_nat (j := 2) rfl, _, rfl, _, _, rfl, rfl, by omega, ?_⟩
        refine ⟨_, rfl, d, _, _, _, rfl, rfl, SqL.of hd, atI_nat (j := 2) rfl, _, rfl, _, _, rfl, rfl, ⟨by omega, by omega⟩, _, rfl, d, _, _, 2, rfl, rfl, hd, rfl, _, rfl, ?_⟩
        have e1 : Int.fmod a many = a % many := fmod_of (by omega)
        exact fin _ i (Int.fdiv a many) b c _ (sb.trans SBd.self) upd_same b0 b1 (by rw [e1]; exact Int.emod_nonneg _ (by omega)) (by rw [e1]; exact Int.emod_lt_of_pos _ (by omega))
      · refine ⟨_, rfl, d, _, _, _, rfl, rfl, SqL.of hd, atI_nat (j := 4) rfl, _, _, rfl, rfl, _, rfl, d, _, _, 4, rfl, rfl, hd, rfl, ?_⟩
        refine ⟨_, rfl, d, _, _, _, rfl, rfl, SqL.of upd_same, atI_nat (j := 3) rfl, _, _, rfl, rfl, ⟨by decide, by decide, by omega⟩, _, rfl, d, _, _, _, rfl, rfl, SqL.of upd_same, atI_nat (j := 4) rfl, _, _, rfl, rfl, .inl ⟨by decide, by decide⟩, _, _, rfl, rfl, _, _, rfl, rfl, _, _, rfl, rfl, by show (1000000007 : Int) ≠ 0; decide, _, rfl, d, _, _, 3, rfl, rfl, upd_same, rfl, ?_⟩
        rw [upd_upd]
        refine ⟨_, rfl, d, _, _, _, rfl, rfl, SqL.of upd_same, atI_nat (j := 3) rfl, _, _, rfl, rfl, ⟨by decide, by decide⟩, _, rfl, _, _, rfl, rfl, by omega, ?_⟩
        refine fin _ i a _ (c + 1) _ (sb.trans SBd.self) upd_same ?_ ?_ ?_ ?_
        · rw [fmod_of (by decide)]; exact Int.emod_nonneg _ (by decide)
        · rw [fmod_of (by decide)]; exact Int.emod_lt_of_pos _ (by decide)
        · rw [fmod_of (by omega)]; exact Int.emod_nonneg _ (by omega)
        · rw [fmod_of (by omega)]; exact Int.emod_lt_of_pos _ (by omega)
end
end L2.RK
namespace L2.RK
open PySem PySem.Spec PyProof.Rows
/-! the law's smaller draws -/
theorem Has.imp {P : Program} {w : World} {K : PySem.W.Frag} {mg : Str → Option Value} {base : Heap} {k : Nat} {f : Addr} {ps : List Str} {sp sp' : Sp} (h : Has P w K mg base k f ps sp) (i : ∀ vs H Q E, sp' vs H Q E → sp vs H Q E) : Has P w K mg base k f ps sp' := by
  obtain ⟨fd, a, b, c⟩ := h
  exact ⟨fd, a.imp i, b, c⟩
theorem joinL_len : ∀ ps : List (List Nat), (∀ p ∈ ps, p.length = 1) → (TL.joinL [] ps).length = ps.length
  | [], _ => rfl
  | [p], h => h p (List.mem_singleton.mpr rfl)
  | p :: q :: r, h => by
    show (p ++ ([] ++ TL.joinL [] (q :: r))).length = _
    rw [List.nil_append, List.length_append, joinL_len (q :: r) (fun x hx => h x (List.mem_cons_of_mem _ hx)), h p List.mem_cons_self, List.length_cons (a := p)]
    omega
theorem join_len {ys : List Str} (h : ∀ y ∈ ys, y.length = 1) : (Txt.join "" ys).length = ys.length := by
  rw [TL.join_eq, TL.len_tl, TL.tl_join]
  show (TL.joinL [] (ys.map TL.tl)).length = _
  rw [joinL_len, List.length_map]
  intro p hp
  obtain ⟨y, hy, rfl⟩ := List.mem_map.mp hp
  rw [← TL.len_tl]; exact h y hy
section
variable {P : Program} {w : World} {K : PySem.W.Frag} {mg : Str → Option Value} {base : Heap}
def spPickN : Sp := fun vs H Q _ => ∃ (d cs : Addr) (many : Int), vs = [.ref d, .int many] ∧ DrawAt H d cs ∧ 1 ≤ many ∧ many < 1073741824 ∧ ∀ (H' : Hp) (r : Nat), SBd d H H' → DrawAt H' d cs → (r : Int) < many → Q (.int (r : Int)) H'
theorem ok_pickN (T : Txt K mg w) : Has P w K mg base 1 (gA K "_law_pick") ["_law_draw", "_law_many"] spPickN :=
  (ok_pick T).imp fun vs H Q E h => by
    obtain ⟨d, cs, many, e, D, h1, h2, q⟩ := h
    refine ⟨d, cs, many, e, D, h1, h2, fun H' r s D' r0 r1 => ?_⟩
    obtain ⟨n, rfl⟩ := Int.eq_ofNat_of_zero_le r0
    exact q H' n s D' r1
theorem scLawBegin : FnScope ["_law_script"] ["_law_script"] (defScope sLawBegin) := ⟨rfl, rfl, rfl, by decide +kernel, rfl, by decide +kernel, by decide +kernel⟩
def spBegin (K : PySem.W.Frag) : Sp := fun vs H Q _ => ∃ (a : Addr) (ns : List Int), vs = [.ref a] ∧ SqL K H a (ns.map V.int) ∧ ∀ (H' : Hp) (d cs : Addr), Same H H' → H d = none → H cs = none → DrawAt H' d cs → Q (.ref d) H'
theorem ok_begin (T : Txt K mg w) : Has P w K mg base 1 (gA K "_law_begin") ["_law_script"] (spBegin K) := by
  obtain ⟨fd, F⟩ := T.fLawBegin
  refine ⟨fd, F.ok scLawBegin (fun vs H Q E h => ?_) (fun cdv A outer s H vs Q E hr h => ⟨_, PSs.nox (pss_one (ps_ret (pe_lst (pa_cons (pe_callTy call_list_of (by rfl) T.nList (by decide +kernel) (pa_cons (pe_slice sl_list (pv 0) po_none (po_some pe_int)) pa_nil)) (pa_cons pe_int (pa_cons pe_int (pa_cons pe_int (pa_cons pe_int pa_nil)))))))), ?_⟩), F.bindsN fun _ _ _ _ _ _ us hl => match us, hl with | [_], _ => rfl, F.kp⟩
  · obtain ⟨a, ns, rfl, _⟩ := h
    rfl
  · obtain ⟨a, ns, rfl, ha, q⟩ := h
    refine ⟨_, rfl, 63, rfl, a, _, rfl, ha, fun p np => ⟨p, _, rfl, .inl (SqL.of upd_same), fun cs ncs => ⟨by show 5 ≤ sizeLine; decide, fun d nd => ?_⟩⟩⟩
    have e : cutV (ns.map V.int) none (some 63) = (ns.take 63).map V.int := by
      unfold cutV
      rw [show (some (63 : Int)) = some ((63 : Nat) : Int) from rfl, HT.sIx_nat, HT.sIx_none, List.drop_zero, Nat.sub_zero, List.length_map, List.map_take]
      rw [List.take_eq_take_min (i := 63), List.length_map]
    rw [e] at ncs nd ⊢
    have s1 : Same H (upd (upd H p (.lst ((ns.take 63).map V.int))) cs (.lst ((ns.take 63).map V.int))) := (Same.new np).add ncs
    refine q _ d cs (s1.add nd) (s1.free nd) ((Same.new np).free ncs) ⟨ns.take 63, 0, 0, 1, 0, upd_same, (Same.new nd) _ _ upd_same, ne_of_none upd_same nd, by rw [List.length_take]; omega, by decide, by decide⟩
theorem scLawChannel : FnScope ["_law_draw"] ["_law_draw"] (defScope sLawChannel) := ⟨rfl, rfl, rfl, by decide +kernel, rfl, by decide +kernel, by decide +kernel⟩
def spUpTo (n : Nat) : Sp := fun vs H Q _ => ∃ d cs : Addr, vs = [.ref d] ∧ DrawAt H d cs ∧ ∀ (H' : Hp) (r : Nat), SBd d H H' → DrawAt H' d cs → r < n → Q (.int (r : Int)) H'
theorem ok_channel (T : Txt K mg w) : Has P w K mg base 2 (gA K "_law_channel") ["_law_draw"] (spUpTo 16) := by
  obtain ⟨fd, F⟩ := T.fLawChannel
  obtain ⟨f1, G1, b1, k1⟩ := ok_pickN (P := P) (base := base) T
  refine ⟨fd, F.ok scLawChannel (fun vs H Q E h => ?_) (fun cdv A outer s H vs Q E hr h => ⟨_, PSs.nox (pss_one (ps_ret (pe_ix ix_tup (pe_tup (pa_cons (pe_call G1 hr (by rfl) T.gLawPick k1 b1 .nil pass0 (pa_cons (pv 0) (pa_cons pe_int pa_nil))) (pa_cons (pe_call G1 hr (by rfl) T.gLawPick k1 b1 .nil pass0 (pa_cons (pv 0) (pa_cons pe_int pa_nil))) pa_nil)))
      (pe_call G1 hr (by rfl) T.gLawPick k1 b1 .nil pass0 (pa_cons (pv 0) (pa_cons pe_int pa_nil))) (fun _ _ => rfl)))), ?_⟩), F.bindsN fun _ _ _ _ _ _ us hl => match us, hl with | [_], _ => rfl, F.kp⟩
  · obtain ⟨d, cs, rfl, _⟩ := h
    rfl
  · obtain ⟨d, cs, rfl, D, q⟩ := h
    refine ⟨_, rfl, d, cs, 3, rfl, D, by decide, by decide, fun H1 r1 s1 D1 l1 => ⟨_, rfl, d, cs, 16, rfl, D1, by decide, by decide, fun H2 r2 s2 D2 l2 => ⟨by show 2 ≤ sizeLine; decide, fun t nt => ?_⟩⟩⟩
    have D3 := D2.same (Same.new (o := .tup [.int r1, .int r2]) nt)
    refine ⟨_, rfl, d, cs, 2, rfl, D3, by decide, by decide, fun H4 r s4 D4 l4 => ?_⟩
    have td : t ≠ d := (D2.free nt).1
    have ht := s4 t _ td upd_same
    have sb : SBd d H H4 := ((s1.trans s2).trans (SBd.ofSame (Same.new nt))).trans s4
    match r, l4 with
    | 0, _ => exact ⟨t, _, _, _, rfl, rfl, SqT.of ht, at0, q H4 r1 sb D4 (by omega)⟩
    | 1, _ => exact ⟨t, _, _, _, rfl, rfl, SqT.of ht, at1, q H4 r2 sb D4 (by omega)⟩
    | r + 2, h => exact absurd h (by omega)
theorem scLawKey : FnScope ["_law_draw"] ["_law_draw"] (defScope sLawKey) := ⟨rfl, rfl, rfl, by decide +kernel, rfl, by decide +kernel, by decide +kernel⟩
theorem ok_key (T : Txt K mg w) : Has P w K mg base 2 (gA K "_law_key") ["_law_draw"] (spUpTo 128) := by
  obtain ⟨fd, F⟩ := T.fLawKey
  obtain ⟨f1, G1, b1, k1⟩ := ok_pickN (P := P) (base := base) T
  refine ⟨fd, F.ok scLawKey (fun vs H Q E h => ?_) (fun cdv A outer s H vs Q E hr h => ⟨_, PSs.nox (pss_one (ps_ret (pe_ix ix_tup (pe_tup (pa_cons (pe_op op_add pe_int (pe_call G1 hr (by rfl) T.gLawPick k1 b1 .nil pass0 (pa_cons (pv 0) (pa_cons pe_int pa_nil)))) (pa_cons (pe_call G1 hr (by rfl) T.gLawPick k1 b1 .nil pass0 (pa_cons (pv 0) (pa_cons pe_int pa_nil))) pa_nil)))
      (pe_call G1 hr (by rfl) T.gLawPick k1 b1 .nil pass0 (pa_cons (pv 0) (pa_cons pe_int pa_nil))) (fun _ _ => rfl)))), ?_⟩), F.bindsN fun _ _ _ _ _ _ us hl => match us, hl with | [_], _ => rfl, F.kp⟩
  · obtain ⟨d, cs, rfl, _⟩ := h
    rfl
  · obtain ⟨d, cs, rfl, D, q⟩ := h
    refine ⟨_, rfl, d, cs, 3, rfl, D, by decide, by decide, fun H1 r1 s1 D1 l1 => ⟨_, _, rfl, rfl, _, rfl, d, cs, 128, rfl, D1, by decide, by decide, fun H2 r2 s2 D2 l2 => ⟨by show 2 ≤ sizeLine; decide, fun t nt => ?_⟩⟩⟩
    have D3 := D2.same (Same.new (o := .tup [.int (60 + (r1 : Int)), .int r2]) nt)
    refine ⟨_, rfl, d, cs, 2, rfl, D3, by decide, by decide, fun H4 r s4 D4 l4 => ?_⟩
    have td : t ≠ d := (D2.free nt).1
    have ht := s4 t _ td upd_same
    have sb : SBd d H H4 := ((s1.trans s2).trans (SBd.ofSame (Same.new nt))).trans s4
    match r, l4 with
    | 0, _ => exact ⟨t, _, _, _, rfl, rfl, SqT.of ht, at0, by have := q H4 (60 + r1) sb D4 (by omega); simpa using this⟩
    | 1, _ => exact ⟨t, _, _, _, rfl, rfl, SqT.of ht, at1, q H4 r2 sb D4 (by omega)⟩
    | r + 2, h => exact absurd h (by omega)
abbrev nWord : List Str := ["_law_draw", "_law_most", "_law_signs", "_law_k"]
theorem scLawWord : FnScope nWord ["_law_draw", "_law_most"] (defScope sLawWord) := ⟨rfl, rfl, rfl, by decide +kernel, rfl, by decide +kernel, by decide +kernel⟩
def spWord : Sp := fun vs H Q _ => ∃ d cs : Addr, vs = [.ref d, .int 12] ∧ DrawAt H d cs ∧ ∀ (H' : Hp) (x : Str), SBd d H H' → DrawAt H' d cs → x.length ≤ 12 → Q (.str x) H'
theorem ok_word (T : Txt K mg w) : Has P w K mg base 2 (gA K "_law_word") ["_law_draw", "_law_most"] spWord := by
  obtain ⟨fd, F⟩ := T.fLawWord
  obtain ⟨f1, G1, b1, k1⟩ := ok_pickN (P := P) (base := base) T
  have nd := scLawWord.nd
  refine ⟨fd, F.ok scLawWord (fun vs H Q E h => ?_) (fun cdv A outer s H vs Q E hr h => ⟨_, PSs.nox (
      pss_cons (ps_set (i := 2) nd rfl (.inr rfl) pe_str)
      (pss_cons (ps_if (pt_cmpR op_eq (pe_call G1 hr (by rfl) T.gLawPick k1 b1 .nil pass0 (pa_cons (pv 0) (pa_cons pe_int pa_nil))) pe_int (nomark _))
        (pss_one (ps_ret (pe_op op_mulS (pe_ix ix_str (pv 2) (pe_call G1 hr (by rfl) T.gLawPick k1 b1 .nil pass0 (pa_cons (pv 0) (pa_cons pe_int pa_nil))) (fun _ _ => rfl)) (pe_call G1 hr (by rfl) T.gLawPick k1 b1 .nil pass0 (pa_cons (pv 0) (pa_cons (pe_op op_add (pv 1) pe_int) pa_nil)))))) pss_nil)
      (pss_one (ps_ret (pe_join pe_str (pe_lc (own := [("_law_k", 3)]) (g := gName 3) (te := tOp rIxS (tVar 2) (tCall spPickN [] E0 (tCons (tVar 0) (tCons (tC (.int 37)) tNil)))) (by rfl) nd (pi_range1 rfl T.nRange (pa_cons (pe_call G1 hr (by rfl) T.gLawPick k1 b1 .nil pass0 (pa_cons (pv 0) (pa_cons (pe_op op_add (pv 1) pe_int) pa_nil))) pa_nil)) (blkOk_by (N := nWord) (sc := defScope sLawWord) (by decide +kernel))
        (fun _ _ _ _ _ => pg_name (i := 3) nd rfl (.inl rfl) (.inr rfl)) (fun _ _ _ _ _ => pts_nil) (fun _ _ _ _ _ => pe_ix ix_str (pv 2) (pe_call G1 hr (by rfl) T.gLawPick k1 b1 .nil pass0 (pa_cons (pv 0) (pa_cons pe_int pa_nil))) (fun _ _ => rfl)))))))), ?_⟩), F.bindsN fun _ _ _ _ _ _ us hl => match us, hl with | [_, _], _ => rfl, F.kp⟩
  · obtain ⟨d, cs, rfl, _⟩ := h
    rfl
  · obtain ⟨d, cs, rfl, D, q⟩ := h
    have signs : ∀ r : Nat, (r : Int) < 37 → ∃ c, atI (("abcdefghijklmnopqrstuvwxyz0123456789 " : Str).cps.toList) (r : Int) = some c := fun r hr => by
      have hl : ("abcdefghijklmnopqrstuvwxyz0123456789 " : Str).cps.toList.length = 37 := by decide +kernel
      exact ⟨_, atI_nat (List.getElem?_eq_getElem (by omega))⟩
    have sl : ("abcdefghijklmnopqrstuvwxyz0123456789 " : Str).length ≤ sizeLine := by decide +kernel
    refine ⟨_, rfl, d, cs, 2, rfl, D, by decide, by decide, fun H1 r1 s1 D1 l1 => ⟨rfl, _, rfl, ite2 (fun h1 => ?_) (fun h1 => ?_)⟩⟩
    · refine ⟨_, rfl, _, rfl, d, cs, 37, rfl, D1, by decide, by decide, fun H2 r2 s2 D2 l2 => ?_⟩
      obtain ⟨c, hc⟩ := signs r2 l2
      refine ⟨_, _, c, rfl, rfl, sl, hc, _, rfl, _, rfl, _, _, rfl, rfl, d, cs, 13, rfl, D2, by decide, by decide, fun H3 r3 s3 D3 l3 => ⟨_, _, rfl, rfl, rfl, by omega, by omega, fun x hx => q H3 x ((s1.trans s2).trans s3) D3 hx⟩⟩
    · refine ⟨⟨_, rfl⟩, _, rfl, _, rfl, _, _, rfl, rfl, d, cs, 13, rfl, D1, by decide, by decide, fun H2 r2 s2 D2 l2 => ?_⟩
      refine ⟨_, rfl, by omega, by omega, fun L nL => ?_⟩
      have Ld := D2.free nL
      refine lc_range (lo := 0) (n := r2) (fun i H' => SBd d H2 H' ∧ DrawAt H' d cs ∧ ∃ ys : List Str, H' L = some (.lst (ys.map V.str)) ∧ ys.length = i ∧ ∀ y ∈ ys, y.length = 1) ⟨SBd.ofSame (Same.new nL), D2.same (Same.new nL), [], upd_same, rfl, fun y hy => (by cases hy)⟩ ?_ ?_
      · rintro i H3 hi ⟨s3, D3, ys, h3, h4, h5⟩
        refine ⟨rfl, _, rfl, _, rfl, d, cs, 37, rfl, D3, by decide, by decide, fun H4 r4 s4 D4 l4 => ?_⟩
        obtain ⟨c, hc⟩ := signs r4 l4
        have h6 := s4 _ _ Ld.1 h3
        have i13 : i < 13 := by omega
        have big : sizeLine > 1000 := by decide
        refine ⟨_, _, c, rfl, rfl, sl, hc, _, h6, by rw [List.length_map]; omega, (s3.trans s4).new nL, D4.put Ld, ys ++ [⟨#[c]⟩], ?_, by rw [List.length_append, h4]; rfl, fun y hy => ?_⟩
        · rw [upd_same, List.map_append]; rfl
        · rcases List.mem_append.mp hy with hy | hy
          · exact h5 y hy
          · rw [List.mem_singleton.mp hy]; rfl
      · rintro H3 ⟨s3, D3, ys, h3, h4, h5⟩
        refine ⟨"", L, ys, rfl, rfl, .inl (SqL.of h3), ?_, q H3 _ ((s1.trans s2).trans s3) D3 (by rw [join_len h5]; omega)⟩
        have : (ys.map (·.length)).sum = ys.length := by
          clear h3 h4
          induction ys with
          | nil => rfl
          | cons y r ih => rw [List.map_cons, List.sum_cons, ih fun z hz => h5 z (List.mem_cons_of_mem _ hz), h5 y List.mem_cons_self, List.length_cons]; omega
        rw [this]
        show ys.length + ys.length * 0 ≤ _
        omega
end
end L2.RK
namespace L2.RK
open PySem PySem.Spec PyProof.Rows
/-! the law's draws of events -/
section
variable {P : Program} {w : World} {K : PySem.W.Frag} {mg : Str → Option Value} {base : Heap}
abbrev nThing : List Str := ["_law_draw", "_law_kind", "_law_channel_here"]
theorem scLawThing : FnScope nThing ["_law_draw"] (defScope sLawThing) := ⟨rfl, rfl, rfl, by decide +kernel, rfl, by decide +kernel, by decide +kernel⟩
def spThing : Sp := fun vs H Q _ => ∃ d cs : Addr, vs = [.ref d] ∧ DrawAt H d cs ∧ ∀ (H' : Hp) (p : Addr) (th : Th), SBd d H H' → DrawAt H' d cs → H' p = some (.tup (thV th)) → ThOk th → Q (.ref p) H'
theorem ok_thing (T : Txt K mg w) : Has P w K mg base 3 (gA K "_law_thing") ["_law_draw"] spThing := by
  obtain ⟨fd, F⟩ := T.fLawThing
  obtain ⟨f1, G1, b1, k1⟩ := (ok_pickN (P := P) (base := base) T).mono (k := 2) (by omega)
  obtain ⟨f2, G2, b2, k2⟩ := ok_channel (P := P) (base := base) T
  obtain ⟨f3, G3, b3, k3⟩ := ok_key (P := P) (base := base) T
  obtain ⟨f4, G4, b4, k4⟩ := ok_word (P := P) (base := base) T
  have nd := scLawThing.nd
  refine ⟨fd, F.ok scLawThing (fun vs H Q E h => ?_) (fun cdv A outer s H vs Q E hr h => ⟨_, PSs.nox (
      pss_cons (ps_set (i := 1) nd rfl (.inl rfl) (pe_call G1 hr (by rfl) T.gLawPick k1 b1 .nil pass0 (pa_cons (pv 0) (pa_cons pe_int pa_nil))))
      (pss_cons (ps_set (i := 2) nd rfl (.inl rfl) (pe_call G2 hr (by rfl) T.gLawChannel k2 b2 .nil pass0 (pa_cons (pv 0) pa_nil)))
      (pss_cons (ps_if (pt_cmpR op_lt (pv 1) pe_int (nomark _))
        (pss_one (ps_ret (pe_tup (pa_cons pe_str (pa_cons (pv 2) (pa_cons (pe_call G3 hr (by rfl) T.gLawKey k3 b3 .nil pass0 (pa_cons (pv 0) pa_nil)) (pa_cons (pe_op op_add pe_int (pe_call G1 hr (by rfl) T.gLawPick k1 b1 .nil pass0 (pa_cons (pv 0) (pa_cons pe_int pa_nil)))) pa_nil))))))) pss_nil)
      (pss_cons (ps_if (pt_cmpR op_lt (pv 1) pe_int (nomark _))
        (pss_one (ps_ret (pe_tup (pa_cons pe_str (pa_cons (pv 2) (pa_cons (pe_call G3 hr (by rfl) T.gLawKey k3 b3 .nil pass0 (pa_cons (pv 0) pa_nil)) (pa_cons (pe_ix ix_tup (pe_tup (pa_cons pe_int (pa_cons (pe_call G1 hr (by rfl) T.gLawPick k1 b1 .nil pass0 (pa_cons (pv 0) (pa_cons pe_int pa_nil))) pa_nil))) (pe_call G1 hr (by rfl) T.gLawPick k1 b1 .nil pass0 (pa_cons (pv 0) (pa_cons pe_int pa_nil))) (fun _ _ => rfl)) pa_nil))))))) pss_nil)
      (pss_cons (ps_if (pt_cmpR op_lt (pv 1) pe_int (nomark _))
        (pss_one (ps_ret (pe_tup (pa_cons pe_str (pa_cons (pv 2) (pa_cons (pe_ix ix_tup (pe_tup (pa_cons (pe_call G1 hr (by rfl) T.gLawPick k1 b1 .nil pass0 (pa_cons (pv 0) (pa_cons pe_int pa_nil))) (pa_cons (pe_call G1 hr (by rfl) T.gLawPick k1 b1 .nil pass0 (pa_cons (pv 0) (pa_cons pe_int pa_nil))) pa_nil))) (pe_call G1 hr (by rfl) T.gLawPick k1 b1 .nil pass0 (pa_cons (pv 0) (pa_cons pe_int pa_nil))) (fun _ _ => rfl)) (pa_cons (pe_call G1 hr (by rfl) T.gLawPick k1 b1 .nil pass0 (pa_cons (pv 0) (pa_cons pe_int pa_nil))) pa_nil))))))) pss_nil)
      (pss_cons (ps_if (pt_cmpR op_eq (pv 1) pe_int (nomark _))
        (pss_one (ps_ret (pe_tup (pa_cons pe_str (pa_cons (pv 2) (pa_cons (pe_call G1 hr (by rfl) T.gLawPick k1 b1 .nil pass0 (pa_cons (pv 0) (pa_cons pe_int pa_nil))) pa_nil)))))) pss_nil)
      (pss_one (ps_ret (pe_tup (pa_cons pe_str (pa_cons (pe_call G4 hr (by rfl) T.gLawWord k4 b4 .nil pass0 (pa_cons (pv 0) (pa_cons pe_int pa_nil))) pa_nil))))))))))), ?_⟩), F.bindsN fun _ _ _ _ _ _ us hl => match us, hl with | [_], _ => rfl, F.kp⟩
  · obtain ⟨d, cs, rfl, _⟩ := h
    rfl
  · obtain ⟨d, cs, rfl, D, q⟩ := h
    have big : sizeLine > 1000 := by decide
    refine ⟨_, rfl, d, cs, 12, rfl, D, by decide, by decide, fun H1 kd s1 D1 l1 => ?_⟩
    refine ⟨_, rfl, d, cs, rfl, D1, fun H2 c s2 D2 l2 => ?_⟩
    have s12 := s1.trans s2
    refine ⟨_, rfl, _, _, rfl, rfl, _, rfl, ite2 (fun h1 => ?_) (fun h1 => ?_)⟩
    · refine ⟨_, rfl, _, rfl, d, cs, rfl, D2, fun H3 k s3 D3 l3 => ⟨_, rfl, d, cs, 127, rfl, D3, by decide, by decide, fun H4 f s4 D4 l4 => ⟨_, _, rfl, rfl, by show 4 ≤ sizeLine; omega, fun p np => ?_⟩⟩⟩
      refine q _ p (.on c k (1 + f)) (((s12.trans s3).trans s4).trans (SBd.ofSame (Same.new np))) (D4.same (Same.new np)) (by rw [upd_same]; rfl) ?_
      refine ⟨?_, ?_, ?_⟩ <;> omega
    refine ⟨_, rfl, _, _, rfl, rfl, _, rfl, ite2 (fun h2 => ?_) (fun h2 => ?_)⟩
    · refine ⟨_, rfl, _, rfl, d, cs, rfl, D2, fun H3 k s3 D3 l3 => ⟨_, rfl, d, cs, 128, rfl, D3, by decide, by decide, fun H4 f s4 D4 l4 => ⟨by show 2 ≤ sizeLine; omega, fun t nt => ?_⟩⟩⟩
      have tn := D4.free nt
      refine ⟨_, rfl, d, cs, 2, rfl, D4.put tn, by decide, by decide, fun H5 r s5 D5 l5 => ?_⟩
      have ht := s5 t _ tn.1 upd_same
      have sb : SBd d H H5 := (((s12.trans s3).trans s4).trans (SBd.ofSame (Same.new nt))).trans s5
      have fin : ∀ g : Nat, g < 128 → ∀ (p : Addr), H5 p = none → Q (.ref p) (upd H5 p (.tup [.str "off", .int c, .int k, .int g])) := fun g hg p np =>
        q _ p (.off c k g) (sb.trans (SBd.ofSame (Same.new np))) (D5.same (Same.new np)) (by rw [upd_same]; rfl) (by refine ⟨?_, ?_, ?_⟩ <;> omega)
      match r, l5 with
      | 0, _ => exact ⟨t, _, _, _, rfl, rfl, SqT.of ht, at0, by show 4 ≤ sizeLine; omega, fun p np => fin 64 (by omega) p np⟩
      | 1, _ => exact ⟨t, _, _, _, rfl, rfl, SqT.of ht, at1, by show 4 ≤ sizeLine; omega, fun p np => fin f (by omega) p np⟩
      | r + 2, h => exact absurd h (by omega)
    refine ⟨_, rfl, _, _, rfl, rfl, _, rfl, ite2 (fun h3 => ?_) (fun h3 => ?_)⟩
    · refine ⟨_, rfl, _, rfl, d, cs, 3, rfl, D2, by decide, by decide, fun H3 k s3 D3 l3 => ⟨_, rfl, d, cs, 128, rfl, D3, by decide, by decide, fun H4 f s4 D4 l4 => ⟨by show 2 ≤ sizeLine; omega, fun t nt => ?_⟩⟩⟩
      have tn := D4.free nt
      refine ⟨_, rfl, d, cs, 2, rfl, D4.put tn, by decide, by decide, fun H5 r s5 D5 l5 => ?_⟩
      have ht := s5 t _ tn.1 upd_same
      have sb : SBd d H H5 := (((s12.trans s3).trans s4).trans (SBd.ofSame (Same.new nt))).trans s5
      match r, l5 with
      | 0, _ => exact ⟨t, _, _, _, rfl, rfl, SqT.of ht, at0, _, rfl, d, cs, 128, rfl, D5, by decide, by decide, fun H6 y s6 D6 l6 => ⟨by show 4 ≤ sizeLine; omega, fun p np => q _ p (.knob c k y) ((sb.trans s6).trans (SBd.ofSame (Same.new np))) (D6.same (Same.new np)) (by rw [upd_same]; rfl) (by refine ⟨?_, ?_, ?_⟩ <;> omega)⟩⟩
      | 1, _ => exact ⟨t, _, _, _, rfl, rfl, SqT.of ht, at1, _, rfl, d, cs, 128, rfl, D5, by decide, by decide, fun H6 y s6 D6 l6 => ⟨by show 4 ≤ sizeLine; omega, fun p np => q _ p (.knob c f y) ((sb.trans s6).trans (SBd.ofSame (Same.new np))) (D6.same (Same.new np)) (by rw [upd_same]; rfl) (by refine ⟨?_, ?_, ?_⟩ <;> omega)⟩⟩
      | r + 2, h => exact absurd h (by omega)
    refine ⟨_, rfl, rfl, _, rfl, ite2 (fun h4 => ?_) (fun h4 => ?_)⟩
    · refine ⟨_, rfl, _, rfl, d, cs, 128, rfl, D2, by decide, by decide, fun H3 y s3 D3 l3 => ⟨by show 3 ≤ sizeLine; omega, fun p np => ?_⟩⟩
      exact q _ p (.voice c y) ((s12.trans s3).trans (SBd.ofSame (Same.new np))) (D3.same (Same.new np)) (by rw [upd_same]; rfl) (by refine ⟨?_, ?_⟩ <;> omega)
    · refine ⟨_, rfl, d, cs, rfl, D2, fun H3 x s3 D3 l3 => ⟨by show 2 ≤ sizeLine; omega, fun p np => ?_⟩⟩
      exact q _ p (.mark x) ((s12.trans s3).trans (SBd.ofSame (Same.new np))) (D3.same (Same.new np)) (by rw [upd_same]; rfl) l3
end
end L2.RK
namespace L2.RK
open PySem PySem.Spec PyProof.Rows
/-! slow tracks, paces, pairs -/
theorem TL.sbd {α : Type} {f : α → List V} {H H' : Hp} {xs : List (Addr × α)} {d cs : Addr} (h : TL f H xs) (D : DrawAt H d cs) (s : SBd d H H') : TL f H' xs := fun x hx => by
  refine s _ _ (fun z => ?_) (h x hx)
  obtain ⟨ns, i, a, b, c, h1, _⟩ := D.ex
  have := h x hx
  rw [z, h1] at this; cases this
theorem TL.app {α : Type} {f : α → List V} {H : Hp} {xs : List (Addr × α)} {x : Addr × α} (h : TL f H xs) (hx : H x.1 = some (.tup (f x.2))) : TL f H (xs ++ [x]) := fun y hy => by
  rcases List.mem_append.mp hy with hy | hy
  · exact h y hy
  · rw [List.mem_singleton.mp hy]; exact hx
theorem TL.putL {α : Type} {f : α → List V} {H : Hp} {xs : List (Addr × α)} {L : Addr} {ys zs : List V} (h : TL f H xs) (hl : H L = some (.lst ys)) : TL f (upd H L (.lst zs)) xs := fun y hy => by
  rw [upd_ne (ne_of (h y hy) hl (by intro z; cases z))]; exact h y hy
theorem DrawAt.putL {H : Hp} {d cs L : Addr} {o : HO} (h : DrawAt H d cs) (l : L ≠ d ∧ L ≠ cs) : DrawAt (upd H L o) d cs := h.put l
structure TrOk (n : Nat) (top : Int) (es : List Ev) : Prop where
  len : es.length ≤ n
  srt : es.Pairwise fun a b => a.1 ≤ b.1
  bd : ∀ e ∈ es, 0 ≤ e.1 ∧ e.1 ≤ top
  ok : ∀ e ∈ es, ThOk e.2
section
variable {P : Program} {w : World} {K : PySem.W.Frag} {mg : Str → Option Value} {base : Heap}
abbrev nSlow : List Str := ["_law_draw", "_law_most", "_law_found", "_law_tick", "_law_k"]
theorem scLawSlow : FnScope nSlow ["_law_draw", "_law_most"] (defScope sLawSlowTrack) := ⟨rfl, rfl, rfl, by decide +kernel, rfl, by decide +kernel, by decide +kernel⟩
def spSlow : Sp := fun vs H Q _ => ∃ d cs : Addr, vs = [.ref d, .int 30] ∧ DrawAt H d cs ∧ ∀ (H' : Hp) (p : Addr) (es : List (Addr × Ev)), SBd d H H' → DrawAt H' d cs → H p = none → H' p = some (.lst (refs es)) → TL evV H' es → TrOk 30 1200 (es.map (·.2)) → Q (.ref p) H'
theorem ok_slow (T : Txt K mg w) : Has P w K mg base 4 (gA K "_law_slow_track") ["_law_draw", "_law_most"] spSlow := by
  obtain ⟨fd, F⟩ := T.fLawSlowTrack
  obtain ⟨f1, G1, b1, k1⟩ := (ok_pickN (P := P) (base := base) T).mono (k := 3) (by omega)
  obtain ⟨f2, G2, b2, k2⟩ := ok_thing (P := P) (base := base) T
  have nd := scLawSlow.nd
  refine ⟨fd, F.ok scLawSlow (fun vs H Q E h => ?_) (fun cdv A outer s H vs Q E hr h => ⟨_, PSs.nox (
      pss_cons (ps_set (i := 2) nd rfl (.inl rfl) (pe_lst pa_nil))
      (pss_cons (ps_set (i := 3) nd rfl (.inl rfl) pe_int)
      (pss_cons (ps_for PassesOwn.never rfl (pi_range1 rfl T.nRange (pa_cons (pe_call G1 hr (by rfl) T.gLawPick k1 b1 .nil pass0 (pa_cons (pv 0) (pa_cons (pe_op op_add (pv 1) pe_int) pa_nil))) pa_nil)) (pg_name (i := 4) nd rfl (.inl rfl))
        (pss_cons (ps_set (i := 3) nd rfl (.inl rfl) (pe_op op_add (pv 3) (pe_call G1 hr (by rfl) T.gLawPick k1 b1 .nil pass0 (pa_cons (pv 0) (pa_cons (pe_ix ix_tup (pe_tup (pa_cons pe_int (pa_cons pe_int (pa_cons pe_int pa_nil)))) (pe_call G1 hr (by rfl) T.gLawPick k1 b1 .nil pass0 (pa_cons (pv 0) (pa_cons pe_int pa_nil))) (fun _ _ => rfl)) pa_nil)))))
        (pss_one (ps_expr (pe_bm PySem.F.plainAttrs_list PySem.F.slot_list_append PySem.F.type_list_append mt_append (pv 2) (pa_cons (pe_op op_catA (pe_tup (pa_cons (pv 3) pa_nil)) (pe_call G2 hr (by rfl) T.gLawThing k2 b2 .nil pass0 (pa_cons (pv 0) pa_nil))) pa_nil))))))
      (pss_one (ps_ret (pv 2)))))), ?_⟩), F.bindsN fun _ _ _ _ _ _ us hl => match us, hl with | [_, _], _ => rfl, F.kp⟩
  · obtain ⟨d, cs, rfl, _⟩ := h
    rfl
  · obtain ⟨d, cs, rfl, D, q⟩ := h
    have big : sizeLine > 1000 := by decide
    refine ⟨by show 0 ≤ sizeLine; omega, fun L nL => ?_⟩
    have Ld := D.free nL
    refine ⟨_, rfl, _, rfl, _, _, rfl, rfl, d, cs, 31, rfl, D.put Ld, by decide, by decide, fun H1 r s1 D1 l1 => ?_⟩
    refine ⟨_, rfl, by omega, by omega, for_range (lo := 0) (n := r) (fun i σ H' => ∃ (t : Int) (x4 : Option V), σ = [some (.ref d), some (.int 30), some (.ref L), some (.int t), x4] ∧ SBd d H H' ∧ DrawAt H' d cs ∧ 0 ≤ t ∧ t ≤ 40 * i ∧
      ∃ es : List (Addr × Ev), H' L = some (.lst (refs es)) ∧ TL evV H' es ∧ TrOk i t (es.map fun e => e.2)) ?_ ?_ ?_⟩
    · exact ⟨0, none, rfl, (SBd.ofSame (Same.new nL)).trans s1, D1, by omega, by omega, [], s1 _ _ Ld.1 upd_same, TL.nil, ⟨Nat.le_refl _, List.Pairwise.nil, fun e he => (by cases he), fun e he => (by cases he)⟩⟩
    · rintro i σ H2 hi ⟨t, x4, rfl, s2, D2, t0, t1, es, h1, h2, h3⟩
      refine ⟨_, rfl, _, rfl, by show 3 ≤ sizeLine; omega, fun t3 nt => ?_⟩
      have tn := D2.free nt
      refine ⟨_, rfl, d, cs, 3, rfl, D2.put tn, by decide, by decide, fun H3 r3 s3 D3 l3 => ?_⟩
      have ht := s3 t3 _ tn.1 upd_same
      obtain ⟨m, hm, m1, m40⟩ : ∃ m : Int, atI [V.int 1, V.int 4, V.int 40] (r3 : Int) = some (V.int m) ∧ 1 ≤ m ∧ m ≤ 40 := by
        match r3, l3 with
        | 0, _ => exact ⟨1, rfl, by decide, by decide⟩
        | 1, _ => exact ⟨4, rfl, by decide, by decide⟩
        | 2, _ => exact ⟨40, rfl, by decide, by decide⟩
        | r + 3, h => exact absurd h (by omega)
      refine ⟨t3, _, _, _, rfl, rfl, SqT.of ht, hm, d, cs, m, rfl, D3, m1, by omega, fun H4 g s4 D4 l4 => ⟨_, _, rfl, rfl, ?_⟩⟩
      have s24 : SBd d H2 H4 := ((SBd.ofSame (Same.new nt)).trans s3).trans s4
      have hL4 := s24 _ _ Ld.1 h1
      have h24 := h2.sbd D2 s24
      refine ⟨_, rfl, .inl ⟨rfl, _, SqL.of hL4⟩, _, rfl, by show 1 ≤ sizeLine; omega, fun a na => ?_⟩
      have an := D4.free na
      refine ⟨_, rfl, d, cs, rfl, D4.put an, fun H5 b th s5 D5 hb ok => ?_⟩
      have s45 : SBd d H4 H5 := (SBd.ofSame (Same.new na)).trans s5
      have ha5 := s5 a _ an.1 upd_same
      have h25 := h24.sbd D4 s45
      have hL5 := s45 _ _ Ld.1 hL4
      refine cat_one ha5 hb (by have : (thV th).length ≤ 4 := by cases th <;> simp [thV]
                                show 1 + _ ≤ sizeLine; omega) fun A H6 s6 hA => ?_
      have hL6 := s6 _ _ hL5
      have hz := h3.len
      rw [List.length_map] at hz
      refine ⟨L, _, _, rfl, rfl, hL6, by rw [refs_len]; omega, t + g, _, rfl, ?_, (D5.same s6).put Ld, by omega, by omega, es ++ [(A, (t + g, th))], by rw [upd_same, refs_app]; rfl, ?_, ?_⟩
      · exact ((s2.trans (s24.trans s45)).trans (SBd.ofSame s6)).new nL
      · exact ((h25.same s6).app (x := (A, (t + g, th))) hA).putL hL6
      · rw [List.map_append]
        refine ⟨by rw [List.length_append, List.length_map]; exact Nat.succ_le_succ hz, ?_, ?_, ?_⟩
        · refine List.pairwise_append.mpr ⟨h3.srt, List.pairwise_singleton _ _, fun x hx y hy => ?_⟩
          rw [List.map_cons, List.map_nil, List.mem_singleton] at hy
          rw [hy]
          have := h3.bd x hx
          show x.1 ≤ t + g
          omega
        · intro e he
          rcases List.mem_append.mp he with he | he
          · have := h3.bd e he; omega
          · rw [List.map_cons, List.map_nil, List.mem_singleton] at he
            rw [he]
            show 0 ≤ t + (g : Int) ∧ t + (g : Int) ≤ t + g
            omega
        · intro e he
          rcases List.mem_append.mp he with he | he
          · exact h3.ok e he
          · rw [List.map_cons, List.map_nil, List.mem_singleton] at he
            rw [he]; exact ok
    · rintro σ H2 ⟨t, x4, rfl, s2, D2, t0, t1, es, h1, h2, h3⟩
      exact ⟨_, rfl, q H2 L es s2 D2 nL h1 h2 ⟨by have := h3.len; omega, h3.srt, fun e he => by have := h3.bd e he; omega, h3.ok⟩⟩
theorem scLawOne : FnScope ["_law_draw", "_law_some"] ["_law_draw", "_law_some"] (defScope sLawOne) := ⟨rfl, rfl, rfl, by decide +kernel, rfl, by decide +kernel, by decide +kernel⟩
def spOne (K : PySem.W.Frag) : Sp := fun vs H Q _ => ∃ (d cs l : Addr) (ns : List Int), vs = [.ref d, .ref l] ∧ DrawAt H d cs ∧ H l = some (.lst (ns.map V.int)) ∧ l ≠ d ∧ 1 ≤ ns.length ∧ ns.length ≤ 100 ∧ ∀ (H' : Hp) (x : Int), SBd d H H' → DrawAt H' d cs → x ∈ ns → Q (.int x) H'
theorem ok_one (T : Txt K mg w) : Has P w K mg base 2 (gA K "_law_one") ["_law_draw", "_law_some"] (spOne K) := by
  obtain ⟨fd, F⟩ := T.fLawOne
  obtain ⟨f1, G1, b1, k1⟩ := ok_pickN (P := P) (base := base) T
  refine ⟨fd, F.ok scLawOne (fun vs H Q E h => ?_) (fun cdv A outer s H vs Q E hr h => ⟨_, PSs.nox (
      pss_one (ps_ret (pe_ix ix_list (pv 1) (pe_call G1 hr (by rfl) T.gLawPick k1 b1 .nil pass0 (pa_cons (pv 0) (pa_cons (pe_callB call_len_seq (by rfl) T.nLen PySem.boot_len (pa_cons (pv 1) pa_nil)) pa_nil))) (fun _ _ => rfl)))), ?_⟩), F.bindsN fun _ _ _ _ _ _ us hl => match us, hl with | [_, _], _ => rfl, F.kp⟩
  · obtain ⟨d, cs, l, ns, rfl, _⟩ := h
    rfl
  · obtain ⟨d, cs, l, ns, rfl, D, hl, ld, n1, n2, q⟩ := h
    refine ⟨_, rfl, _, rfl, _, rfl, l, _, rfl, .inl (SqL.of hl), d, cs, (ns.length : Int), by rw [List.length_map]; rfl, D, by omega, by omega, fun H1 r s1 D1 l1 => ?_⟩
    have hr : r < ns.length := by omega
    refine ⟨l, _, _, _, rfl, rfl, SqL.of (s1 _ _ ld hl), atI_nat (by rw [List.getElem?_map, List.getElem?_eq_getElem hr]; rfl), q H1 _ s1 D1 (List.getElem_mem hr)⟩
theorem scLawPace : FnScope ["_law_draw"] ["_law_draw"] (defScope sLawPace) := ⟨rfl, rfl, rfl, by decide +kernel, rfl, by decide +kernel, by decide +kernel⟩
def spPace : Sp := fun vs H Q _ => ∃ (d cs : Addr), vs = [.ref d] ∧ DrawAt H d cs ∧ ∀ (H' : Hp) (x : Int), SBd d H H' → DrawAt H' d cs → 1 ≤ x → x ≤ 16777215 → Q (.int x) H'
theorem ok_pace (T : Txt K mg w) : Has P w K mg base 3 (gA K "_law_pace") ["_law_draw"] spPace := by
  obtain ⟨fd, F⟩ := T.fLawPace
  obtain ⟨f1, G1, b1, k1⟩ := (ok_pickN (P := P) (base := base) T).mono (k := 2) (by omega)
  obtain ⟨f2, G2, b2, k2⟩ := ok_one (P := P) (base := base) T
  refine ⟨fd, F.ok scLawPace (fun vs H Q E h => ?_) (fun cdv A outer s H vs Q E hr h => ⟨_, PSs.nox (
      pss_one (ps_ret (pe_call G2 hr (by rfl) T.gLawOne k2 b2 .nil pass0 (pa_cons (pv 0) (pa_cons (pe_lst (pa_cons pe_int (pa_cons pe_int (pa_cons pe_int (pa_cons (pe_op op_add pe_int (pe_call G1 hr (by rfl) T.gLawPick k1 b1 .nil pass0 (pa_cons (pv 0) (pa_cons pe_int pa_nil))))
        (pa_cons (pe_op op_add pe_int (pe_call G1 hr (by rfl) T.gLawPick k1 b1 .nil pass0 (pa_cons (pv 0) (pa_cons pe_int pa_nil)))) (pa_cons pe_int pa_nil))))))) pa_nil))))), ?_⟩), F.bindsN fun _ _ _ _ _ _ us hl => match us, hl with | [_], _ => rfl, F.kp⟩
  · obtain ⟨d, cs, rfl, _⟩ := h
    rfl
  · obtain ⟨d, cs, rfl, D, q⟩ := h
    refine ⟨_, rfl, _, rfl, d, cs, 16777215, rfl, D, by decide, by decide, fun H1 r1 s1 D1 l1 => ⟨_, _, rfl, rfl, _, rfl, d, cs, 9, rfl, D1, by decide, by decide, fun H2 r2 s2 D2 l2 => ⟨_, _, rfl, rfl, by show 6 ≤ sizeLine; decide, fun L nL => ?_⟩⟩⟩
    have Ld := D2.free nL
    refine ⟨d, cs, L, [500000, 1, 16777215, 1 + (r1 : Int), 1 + (r2 : Int), 250000], rfl, D2.put Ld, upd_same, Ld.1, by show 1 ≤ 6; decide, by show 6 ≤ 100; decide, fun H3 x s3 D3 hx => ?_⟩
    have hb : 1 ≤ x ∧ x ≤ 16777215 := by
      simp only [List.mem_cons, List.not_mem_nil, or_false] at hx
      omega
    exact q H3 x (((s1.trans s2).trans (SBd.ofSame (Same.new nL))).trans s3) D3 hb.1 hb.2
abbrev nPairs : List Str := ["_law_known", "_law_tick"]
theorem scLawPairs : FnScope nPairs ["_law_known"] (defScope sLawPairs) := ⟨rfl, rfl, rfl, by decide +kernel, rfl, by decide +kernel, by decide +kernel⟩
theorem valV_mem {ps : List (Int × Int)} {q : Int × Int} (hn : (ps.map (·.1)).Nodup) (h : q ∈ ps) : valV (ps.map ntE) (Sum.inl q.1 : Key) = some (.int q.2) := by
  induction ps with
  | nil => cases h
  | cons p r ih =>
    obtain ⟨h1, h2⟩ := List.nodup_cons.mp (show (p.1 :: r.map (·.1)).Nodup from hn)
    rw [List.map_cons]
    rcases List.mem_cons.mp h with rfl | h
    · exact valV_pos rfl
    · rw [valV_neg (fun z => h1 (by rw [Sum.inl.inj z]; exact List.mem_map_of_mem h))]
      exact ih h2 h
theorem perm_vals {ps : List (Int × Int)} (hn : (ps.map (·.1)).Nodup) {ts : List Int} (h : ts.Perm (ps.map (·.1))) : ∃ qs : List (Int × Int), qs.map (·.1) = ts ∧ qs.Perm ps := by
  induction ts generalizing ps with
  | nil =>
    have := h.length_eq
    rw [List.length_map] at this
    cases ps with
    | nil => exact ⟨[], rfl, .refl _⟩
    | cons _ _ => cases this
  | cons t r ih =>
    obtain ⟨p, hp, e⟩ := List.mem_map.mp (h.mem_iff.mp List.mem_cons_self)
    obtain ⟨a, b, rfl⟩ := List.append_of_mem hp
    have pm : (a ++ p :: b).Perm (p :: (a ++ b)) := List.perm_middle
    have h2 : (t :: r).Perm (p.1 :: (a ++ b).map (·.1)) := h.trans (pm.map _)
    rw [e] at h2
    obtain ⟨qs, e1, e2⟩ := ih (ps := a ++ b) ((List.nodup_cons.mp (show (p.1 :: (a ++ b).map (·.1)).Nodup from (pm.map _).nodup_iff.mp hn)).2) h2.cons_inv
    exact ⟨p :: qs, by rw [List.map_cons, e1, e], (e2.cons p).trans pm.symm⟩
def spPairs : Sp := fun vs H Q _ => ∃ (d : Addr) (ps : List (Int × Int)), vs = [.ref d] ∧ H d = some (.dK (ps.map ntE)) ∧ (ps.map (·.1)).Nodup ∧ ps.length ≤ 20 ∧ ∀ (H' : Hp) (p : Addr) (xs : List (Addr × (Int × Int))), Same H H' → H' p = some (.lst (refs xs)) → TL MomV H' xs → (xs.map (·.2)).Perm ps → Q (.ref p) H'
theorem ok_pairs (T : Txt K mg w) : Has P w K mg base 1 (gA K "_law_pairs") ["_law_known"] spPairs := by
  obtain ⟨fd, F⟩ := T.fLawPairs
  have nd := scLawPairs.nd
  refine ⟨fd, F.ok scLawPairs (fun vs H Q E h => ?_) (fun cdv A outer s H vs Q E hr h => ⟨_, PSs.nox (
      pss_one (ps_ret (pe_lc (own := [("_law_tick", 1)]) (g := gName 1) (te := tTup (tCons (tVar 1) (tCons (tDGet (tVar 0) (tVar 1)) tNil))) (by rfl) nd (pi_list (pe_callB cr_sorted (by rfl) T.nSorted (by decide +kernel) (pa_cons (pe_callTy (call_list_dK (by rfl)) (by rfl) T.nList (by decide +kernel) (pa_cons (pv 0) pa_nil)) pa_nil))) (blkOk_by (N := nPairs) (sc := defScope sLawPairs) (by decide +kernel))
        (fun _ _ _ _ _ => pg_name (i := 1) nd rfl (.inl rfl) (.inr rfl)) (fun _ _ _ _ _ => pts_nil) (fun _ _ _ _ _ => pe_tup (pa_cons (pv 1) (pa_cons (pe_dget (hu_of hr) (pv 0) (pv 1) (fun _ _ => rfl)) pa_nil)))))), ?_⟩), F.bindsN fun _ _ _ _ _ _ us hl => match us, hl with | [_], _ => rfl, F.kp⟩
  · obtain ⟨d, ps, rfl, _⟩ := h
    rfl
  · obtain ⟨d, ps, rfl, hd, hn, hl, q⟩ := h
    have big : sizeLine > 1000 := by decide
    refine ⟨_, rfl, d, _, rfl, hd, fun l nl => ?_⟩
    refine ⟨l, ps.map (·.1), rfl, SqL.of (by rw [upd_same, List.map_map, List.map_map]; rfl), by rw [List.length_map]; omega, fun ts a perm srt na => ?_⟩
    have sa : Same H (upd (upd H l _) a (.lst (ts.map V.int))) := (Same.new (o := .lst ((ps.map ntE).map fun kv => kV kv.1)) nl).add na
    generalize hH1 : upd (upd H l _) a (.lst (ts.map V.int)) = H1
    rw [hH1] at sa
    have ha : H1 a = some (.lst (ts.map V.int)) := by rw [← hH1, upd_same]
    obtain ⟨qs, e1, e2⟩ := perm_vals hn perm
    have hql : qs.length ≤ 20 := by rw [e2.length_eq]; exact hl
    refine ⟨a, rfl, ⟨_, SqL.of ha⟩, fun D nD => ?_⟩
    refine lc_list (xs := ts.map V.int) (fun i H' => Same H1 H' ∧ ∃ xs : List (Addr × (Int × Int)), H' D = some (.lst (refs xs)) ∧ TL MomV H' xs ∧ xs.map (·.2) = qs.take i) ⟨Same.new nD, [], upd_same, TL.nil, rfl⟩ (fun i H' _ h => SqL.of (h.1 _ _ ha)) ?_ ?_
    · rintro i x H2 hx ⟨s1, xs, h1, h2, h3⟩
      rw [← e1, List.map_map, List.getElem?_map] at hx
      cases hz : qs[i]? with
      | none => rw [hz] at hx; cases hx
      | some z =>
        rw [hz] at hx
        obtain rfl : V.int z.1 = x := Option.some.inj hx
        have zm : z ∈ ps := e2.mem_iff.mp (List.mem_of_getElem? hz)
        refine ⟨rfl, _, rfl, _, rfl, _, rfl, d, _, rfl, .inl ⟨_, Sum.inl z.1, .inl (s1 _ _ (sa _ _ hd)), rfl, (valV_mem hn zm).symm⟩, by show 2 ≤ sizeLine; omega, fun v nv => ?_⟩
        have hx3 := congrArg List.length h3
        rw [List.length_map, List.length_take] at hx3
        refine ⟨_, (Same.new nv) _ _ h1, by rw [refs_len]; omega, (s1.add nv).put nD, xs ++ [(v, z)], by rw [upd_same, refs_app]; rfl, ?_, ?_⟩
        · exact ((h2.same (Same.new nv)).app (x := (v, z)) upd_same).putL ((Same.new nv) _ _ h1)
        · rw [List.map_append, h3, take_snoc hz]; rfl
    · rintro H2 ⟨s1, xs, h1, h2, h3⟩
      rw [List.length_map, ← e1, List.length_map, List.take_length] at h3
      exact q H2 D xs (sa.trans s1) h1 h2 (by rw [h3]; exact e2)
end
end L2.RK
namespace L2.RK
open PySem PySem.Spec PyProof.Rows
/-! plain law: the law's calls -/
def Both (M : Int → Int × Int) (es : List Ev) (M' : Int → Int × Int) (ys : List Ev) : Prop := Run (es.map (mtE M)) (ys.map (mtE M')) Snd.none Snd.none none ∧ Run (ys.map (mtE M')) (es.map (mtE M)) Snd.none Snd.none none
theorem both_of {M : Int → Int × Int} (hM : MonoM M) {xs ys : List Ev} (X : Tk xs) (Y : Tk ys) (h : ∀ m, appE Snd.none (upTo m xs) = appE Snd.none (upTo m ys)) : Both M xs M ys :=
  ⟨run_none hM _ _ _ _ _ (Nat.le_refl _) X Y h, run_none hM _ _ _ _ _ (Nat.le_refl _) Y X fun m => (h m).symm⟩
theorem TrOk.tk {n : Nat} {top : Int} {es : List Ev} (h : TrOk n top es) : Tk es := ⟨h.srt, fun e he => (h.bd e he).1⟩
theorem tk_ticks {a b : List Ev} (h : Tk a) (e : b.map (·.1) = a.map (·.1)) : Tk b := by
  refine ⟨?_, fun x hx => ?_⟩
  · have h1 : (a.map (·.1)).Pairwise (· ≤ ·) := List.pairwise_map.mpr h.srt
    rw [← e] at h1
    exact List.pairwise_map.mp h1
  · have h1 : x.1 ∈ a.map (·.1) := by rw [← e]; exact List.mem_map_of_mem hx
    obtain ⟨y, hy, ey⟩ := List.mem_map.mp h1
    rw [← ey]; exact h.nn y hy
theorem arr_ticks {es os : List AEv} (A : Arr es os) : (os.map (·.2)).map (·.1) = (es.map (·.2)).map (·.1) := by
  rw [List.map_map, List.map_map]; exact A.tick
theorem both_arr {M : Int → Int × Int} (hM : MonoM M) {es os : List AEv} (X : Tk (es.map (·.2))) (A : Arr es os) (hok : ∀ e ∈ es, ThOk e.2.2) : Both M (es.map (·.2)) M (os.map (·.2)) :=
  both_of hM X (tk_ticks X (arr_ticks A)) fun m => arr_like A hok _ m
theorem both_plain {M : Int → Int × Int} (hM : MonoM M) {es : List Ev} (X : Tk es) : Both M es M (plainF Snd.none es) :=
  both_of hM X (X.sub (plain_sub _ _)) fun m => plain_like es _ X.srt m
def scE (k : Int) (e : Ev) : Ev := (k * e.1, e.2)
theorem appE_map {f : Ev → Ev} (hf : ∀ e, (f e).2 = e.2) : ∀ (l : List Ev) (S : Snd), appE S (l.map f) = appE S l
  | [], _ => rfl
  | e :: r, S => by
    show appE (stepS S (f e).2) (r.map f) = appE (stepS S e.2) r
    rw [hf, appE_map hf r]
theorem scale_upTo {k : Int} (hk : 0 < k) (m : Int) (xs : List Ev) : upTo (k * m) (xs.map (scE k)) = (upTo m xs).map (scE k) := by
  unfold upTo
  rw [List.filter_map]
  congr 1
  refine List.filter_congr fun e _ => ?_
  show decide (k * e.1 ≤ k * m) = decide (e.1 ≤ m)
  exact decide_eq_decide.mpr ⟨fun h => Int.le_of_mul_le_mul_left h hk, fun h => Int.mul_le_mul_of_nonneg_left h (by omega)⟩
theorem scale_like {k : Int} (hk : 0 < k) (m : Int) (xs : List Ev) (S : Snd) : appE S (upTo (k * m) (xs.map (scE k))) = appE S (upTo m xs) := by
  rw [scale_upTo hk, appE_map (f := scE k) (fun _ => rfl)]
theorem scale_mt {k beat : Int} {qs : List (Int × Int)} (hk : 0 < k) (xs : List Ev) : (xs.map (scE k)).map (mtE (momF (k * beat) (scaleQ k qs))) = xs.map (mtE (momF beat qs)) := by
  rw [List.map_map]
  refine List.map_congr_left fun e _ => ?_
  show (momF (k * beat) (scaleQ k qs) (k * e.1), e.2) = (momF beat qs e.1, e.2)
  rw [momF_scale hk]
theorem both_wide {k beat : Int} {qs : List (Int × Int)} (hk : 0 < k) (M : MapOk beat qs) {es : List Ev} (X : Tk es) : Both (momF beat qs) es (momF (k * beat) (scaleQ k qs)) (es.map (scE k)) := by
  unfold Both
  rw [scale_mt hk]
  exact both_of (momF_mono M) X X fun _ => rfl
theorem both_wideArr {k beat : Int} {qs : List (Int × Int)} (hk : 0 < k) (M : MapOk beat qs) {es : List Ev} (X : Tk es) {W os : List AEv} (e : W.map (·.2) = es.map (scE k)) (A : Arr W os) (hok : ∀ e ∈ W, ThOk e.2.2) :
    Both (momF beat qs) es (momF (k * beat) (scaleQ k qs)) (os.map (·.2)) := by
  have tk : (os.map (·.2)).map (·.1) = (es.map (scE k)).map (·.1) := by rw [arr_ticks A, e]
  have hu : ∃ us : List Ev, os.map (·.2) = us.map (scE k) ∧ us.map (·.1) = es.map (·.1) := by
    generalize os.map (·.2) = o at tk
    clear X A hok e
    induction es generalizing o with
    | nil =>
      rw [List.map_nil, List.map_nil, List.map_eq_nil_iff] at tk
      exact ⟨[], by rw [tk]; rfl, rfl⟩
    | cons x r ih =>
      cases o with
      | nil => cases tk
      | cons y o =>
        injection tk with t1 t2
        obtain ⟨us, a, b⟩ := ih o t2
        exact ⟨(x.1, y.2) :: us, by
          rw [List.map_cons, ← a]
          show y :: o = (k * x.1, y.2) :: o
          rw [show k * x.1 = y.1 from t1.symm], by rw [List.map_cons, List.map_cons, b]⟩
  obtain ⟨us, e1, e2⟩ := hu
  unfold Both
  rw [e1, scale_mt hk]
  refine both_of (momF_mono M) X (tk_ticks X e2) fun m => ?_
  have h1 := arr_like A hok Snd.none (k * m)
  rw [e, e1, scale_like hk, scale_like hk] at h1
  exact h1
theorem MapOk.scale {k beat : Int} {qs : List (Int × Int)} (M : MapOk beat qs) (h1 : 1 ≤ k) (h2 : k ≤ 16) (hb : beat ≤ 60) (ht : ∀ q ∈ qs, q.1 ≤ 1000) : MapOk (k * beat) (scaleQ k qs) := by
  have kb : 1 ≤ k * beat := Int.mul_pos (by omega) (by have := M.b0; omega)
  refine ⟨kb, ?_, ?_, by unfold scaleQ; rw [List.length_map]; exact M.len, fun q hq => ?_, fun q hq => ?_⟩
  · have h3 : k * beat ≤ 16 * beat := Int.mul_le_mul_of_nonneg_right h2 (by have := M.b0; omega)
    omega
  · unfold scaleQ
    refine List.pairwise_map.mpr (M.srt.imp fun h => ?_)
    exact Int.mul_lt_mul_of_pos_left h (by omega)
  · obtain ⟨p, hp, rfl⟩ := List.mem_map.mp hq
    have a := M.tick p hp
    have b := ht p hp
    have h3 : 0 ≤ k * p.1 := Int.mul_nonneg (by omega) a.1
    have h4 : k * p.1 ≤ 16 * p.1 := Int.mul_le_mul_of_nonneg_right h2 a.1
    show 0 ≤ k * p.1 ∧ k * p.1 ≤ 999999
    omega
  · obtain ⟨p, hp, rfl⟩ := List.mem_map.mp hq
    exact M.pace p hp
/-! one event more -/
def bell (T : Int) : Ev := (T, .on 3 99 127)
def moreE (T : Int) (es : List Ev) : List Ev := (upTo T es ++ [bell T]) ++ past T es
theorem snd_on (S : Snd) : (sndL (stepS S (.on 3 99 127))).length = (sndL S).length + 1 := by
  have len : ∀ S : Snd, (sndL S).length = ((List.range' 0 2048).map fun i => (S.ring i).length).sum := fun S => by
    unfold sndL
    rw [List.length_flatMap]
    congr 1
    exact List.map_congr_left fun i _ => List.length_map ..
  rw [len, len]
  have e : List.range' 0 2048 = List.range' 0 483 ++ (483 :: List.range' 484 1564) := by decide +kernel
  have out : ∀ l : List Nat, 483 ∉ l → (l.map fun i => ((stepS S (.on 3 99 127)).ring i).length) = l.map fun i => (S.ring i).length := fun l hl => List.map_congr_left fun i hi => by
    show (if i = 483 then _ else S.ring i).length = _
    rw [if_neg fun z => hl (by rw [← z]; exact hi)]
  rw [e, List.map_append, List.map_append, List.sum_append, List.sum_append, List.map_cons, List.map_cons, List.sum_cons, List.sum_cons, out _ (fun z => by rw [List.mem_range'_1] at z; omega), out _ (fun z => by rw [List.mem_range'_1] at z; omega)]
  have : ((stepS S (.on 3 99 127)).ring 483).length = (S.ring 483).length + 1 := by
    show (if 483 = 483 then S.ring 483 ++ [((127 : Nat) : Int)] else S.ring 483).length = _
    rw [if_pos rfl, List.length_append]; rfl
  rw [this]
  omega
theorem sum_one {f g : Nat → Nat} (i : Nat) : ∀ (l : List Nat), l.Nodup → (∀ j, j ≠ i → g j ≤ f j) → g i ≤ f i + 1 → (l.map g).sum ≤ (l.map f).sum + 1
  | [], _, _, _ => Nat.zero_le _
  | j :: r, hn, h1, h2 => by
    obtain ⟨n1, n2⟩ := List.nodup_cons.mp hn
    rw [List.map_cons, List.map_cons, List.sum_cons, List.sum_cons]
    by_cases c : j = i
    · subst c
      have : ∀ l : List Nat, j ∉ l → (l.map g).sum ≤ (l.map f).sum := fun l => by
        induction l with
        | nil => intro _; exact Nat.le_refl _
        | cons x r ih =>
          intro hx
          rw [List.mem_cons, not_or] at hx
          have a := ih hx.2
          have b := h1 x (fun z => hx.1 z.symm)
          rw [List.map_cons, List.map_cons, List.sum_cons, List.sum_cons]
          omega
      have := this r n1
      omega
    · have a := sum_one i r n2 h1 h2
      have b := h1 j c
      omega
theorem snd_len (S : Snd) : (sndL S).length = ((List.range' 0 2048).map fun i => (S.ring i).length).sum := by
  unfold sndL
  rw [List.length_flatMap]
  congr 1
  exact List.map_congr_left fun i _ => List.length_map ..
theorem snd_step (S : Snd) (t : Th) : (sndL (stepS S t)).length ≤ (sndL S).length + 1 := by
  rw [snd_len, snd_len]
  have nd : (List.range' 0 2048).Nodup := List.nodup_range'
  cases t with
  | on c k f =>
    refine sum_one (c * 128 + k) _ nd (fun j hj => ?_) ?_
    · show (if j = c * 128 + k then _ else S.ring j).length ≤ _
      rw [if_neg hj]; exact Nat.le_refl _
    · show (if c * 128 + k = c * 128 + k then S.ring (c * 128 + k) ++ [(f : Int)] else _).length ≤ _
      rw [if_pos rfl, List.length_append]; exact Nat.le_refl _
  | off c k f =>
    refine sum_one (c * 128 + k) _ nd (fun j hj => ?_) ?_
    · show (if j = c * 128 + k then _ else S.ring j).length ≤ _
      rw [if_neg hj]; exact Nat.le_refl _
    · show (if c * 128 + k = c * 128 + k then (S.ring (c * 128 + k)).drop 1 else _).length ≤ _
      rw [if_pos rfl, List.length_drop]; omega
  | knob c k v => exact Nat.le_succ _
  | voice c p => exact Nat.le_succ _
  | mark x => exact Nat.le_succ _
theorem snd_le : ∀ (l : List Ev) (S : Snd), (sndL (appE S l)).length ≤ (sndL S).length + l.length
  | [], _ => Nat.le_refl _
  | e :: r, S => by
    have a := snd_le r (stepS S e.2)
    have b := snd_step S e.2
    show (sndL (appE (stepS S e.2) r)).length ≤ _
    rw [List.length_cons]; omega
theorem snd_none : (sndL Snd.none).length = 0 := by
  rw [snd_len]
  have : ((List.range' 0 2048).map fun i => (Snd.none.ring i).length) = (List.range' 0 2048).map fun _ => 0 := rfl
  rw [this]
  have z : ∀ l : List Nat, (l.map fun _ => 0).sum = 0 := fun l => by
    induction l with
    | nil => rfl
    | cons x r ih => rw [List.map_cons, List.sum_cons, ih]
  exact z _
theorem more_tk {es : List Ev} (X : Tk es) {T : Int} (hT : 0 ≤ T) : Tk (moreE T es) := by
  unfold moreE
  refine ⟨List.pairwise_append.mpr ⟨List.pairwise_append.mpr ⟨X.srt.sublist List.filter_sublist, List.pairwise_singleton _ _, fun a ha b hb => ?_⟩, X.srt.sublist List.filter_sublist, fun a ha b hb => ?_⟩, fun a ha => ?_⟩
  · rw [List.mem_singleton.mp hb]
    have := (List.mem_filter.mp ha).2
    simp only [decide_eq_true_eq] at this
    exact this
  · have h1 := (List.mem_filter.mp hb).2
    simp only [decide_eq_true_eq] at h1
    rcases List.mem_append.mp ha with ha | ha
    · have := (List.mem_filter.mp ha).2
      simp only [decide_eq_true_eq] at this
      omega
    · rw [List.mem_singleton.mp ha]
      show T ≤ b.1
      omega
  · rcases List.mem_append.mp ha with ha | ha
    · rcases List.mem_append.mp ha with ha | ha
      · exact X.nn a (List.mem_filter.mp ha).1
      · rw [List.mem_singleton.mp ha]; exact hT
    · exact X.nn a (List.mem_filter.mp ha).1
theorem more_run {beat : Int} {qs : List (Int × Int)} (M : MapOk beat qs) {es : List Ev} (X : Tk es) {T : Int} (hT : 0 ≤ T) : ∃ n : Nat, n ≤ es.length ∧ Run (es.map (mtE (momF beat qs))) ((moreE T es).map (mtE (momF beat qs))) Snd.none Snd.none (some (momF beat qs T, n, n + 1)) := by
  have uT : upTo T (moreE T es) = upTo T es ++ [bell T] := by
    unfold moreE
    have e1 : upTo T (upTo T es) = upTo T es := List.filter_eq_self.mpr fun x hx => (List.mem_filter.mp hx).2
    have e2 : upTo T [bell T] = [bell T] := List.filter_cons_of_pos (by show decide (T ≤ T) = true; simp)
    have e3 : upTo T (past T es) = [] := upTo_past_lo (Int.le_refl _)
    show List.filter _ _ = _
    rw [List.filter_append, List.filter_append]
    unfold upTo at e1 e2 e3 ⊢
    rw [e1, e2, e3]
    exact List.append_nil _
  have lo : ∀ m, m < T → upTo m (moreE T es) = upTo m es := fun m hm => by
    unfold moreE
    have e1 : upTo m (upTo T es) = upTo m es := by
      unfold upTo
      rw [List.filter_filter]
      refine List.filter_congr fun x _ => ?_
      by_cases c : x.1 ≤ m
      · simp [c]; omega
      · simp [c]
    have e2 : upTo m [bell T] = [] := List.filter_cons_of_neg (by show ¬ decide (T ≤ m) = true; simp; omega)
    have e3 : upTo m (past T es) = [] := upTo_past_lo (by omega)
    show List.filter _ _ = _
    rw [List.filter_append, List.filter_append]
    unfold upTo at e1 e2 e3 ⊢
    rw [e1, e2, e3]
    rw [List.append_nil, List.append_nil]
  have st : (sndL (appE Snd.none (upTo T (moreE T es)))).length = (sndL (appE Snd.none (upTo T es))).length + 1 := by
    rw [uT, appE_app]
    exact snd_on _
  have r := run_diff (momF_mono M) T _ es (moreE T es) Snd.none Snd.none (Nat.le_refl _) X (more_tk X hT) (fun m hm => by rw [lo m hm]) (by omega) ⟨bell T, by unfold moreE; simp, rfl⟩
  rw [st] at r
  refine ⟨_, ?_, r⟩
  have h1 := snd_le (upTo T es) Snd.none
  have h2 : (upTo T es).length ≤ es.length := List.length_filter_le ..
  rw [snd_none] at h1
  omega
end L2.RK
namespace L2.RK
open PySem PySem.Spec PyProof.Rows
/-! law: what stays -/
theorem MapAt.sbd {K : PySem.W.Frag} {H H' : Hp} {o d cs : Addr} {beat : Int} {qs : List (Int × Int)} (h : MapAt K H o beat qs) (D : DrawAt H d cs) (s : SBd d H H') : MapAt K H' o beat qs := by
  obtain ⟨dx, e, ps, h1, h2, h3⟩ := h
  obtain ⟨ns, i, a, b, c, g, _⟩ := D.ex
  exact ⟨dx, e, ps, s _ _ (fun z => by rw [z, g] at h1; cases h1) h1, s _ _ (fun z => by rw [z, g] at h2; cases h2) h2, h3⟩
theorem MapAt.extN {K : PySem.W.Frag} {H H' : Hp} {o : Addr} {beat : Int} {qs : List (Int × Int)} (h : MapAt K H o beat qs) (s : LamX.ExtN H H') : MapAt K H' o beat qs := by
  obtain ⟨dx, e, ps, h1, h2, h3⟩ := h
  exact ⟨dx, e, ps, s _ _ h1 (fun _ z => by cases z), s _ _ h2 (fun _ z => by cases z), h3⟩
theorem TL.extN {α : Type} {f : α → List V} {H H' : Hp} {xs : List (Addr × α)} (h : TL f H xs) (s : LamX.ExtN H H') : TL f H' xs := fun x hx => s _ _ (h x hx) (fun _ z => by cases z)
theorem DrawAt.extN {H H' : Hp} {d cs : Addr} (h : DrawAt H d cs) (s : LamX.ExtN H H') : DrawAt H' d cs := by
  obtain ⟨ns, i, a, b, c, h1, h2, h3⟩ := h.ex
  exact ⟨ns, i, a, b, c, s _ _ h1 (fun _ z => by cases z), s _ _ h2 (fun _ z => by cases z), h3⟩
theorem Tabs_sbd {T : List (Addr × Str)} {H H' : Hp} {d cs : Addr} (h : LamX.Tabs T H) (D : DrawAt H d cs) (s : SBd d H H') : LamX.Tabs T H' := fun p hp => by
  obtain ⟨ps, h1, h2, h3⟩ := h p hp
  obtain ⟨ns, i, a, b, c, g, _⟩ := D.ex
  refine ⟨ps, s _ _ (fun z => by rw [z, g] at h1; cases h1) h1, h2, fun pos cv hc => ?_⟩
  obtain ⟨c', e1, e2⟩ := h3 pos cv hc
  exact ⟨c', e1, s _ _ (fun z => by rw [z, g] at e2; cases e2) e2⟩
theorem lst_extN {H H' : Hp} {a : Addr} {xs : List V} (s : LamX.ExtN H H') (h : H a = some (.lst xs)) : H' a = some (.lst xs) := s _ _ h (fun _ z => by cases z)
theorem tup_extN {H H' : Hp} {a : Addr} {xs : List V} (s : LamX.ExtN H H') (h : H a = some (.tup xs)) : H' a = some (.tup xs) := s _ _ h (fun _ z => by cases z)
theorem sort_qs {ps : List (Int × Int)} (hn : (ps.map (·.1)).Nodup) : ∃ qs : List (Int × Int), ps.Perm qs ∧ qs.Pairwise fun a b => a.1 < b.1 := by
  refine ⟨ps.mergeSort (fun a b => decide (a.1 ≤ b.1)), (List.mergeSort_perm ..).symm, ?_⟩
  have h1 := List.pairwise_mergeSort (le := fun a b : Int × Int => decide (a.1 ≤ b.1)) (fun a b c h1 h2 => by simp only [decide_eq_true_eq] at *; omega) (fun a b => by simp only [Bool.or_eq_true, decide_eq_true_eq]; omega) ps
  have h2 : ((ps.mergeSort (fun a b => decide (a.1 ≤ b.1))).map (·.1)).Nodup := ((List.mergeSort_perm ps _).map _).nodup_iff.mpr hn
  refine List.Pairwise.imp₂ (R := fun a b => decide (a.1 ≤ b.1) = true) (S := fun a b => a.1 ≠ b.1) (fun a b h3 h4 => ?_) h1 (List.pairwise_map.mp h2)
  simp only [decide_eq_true_eq] at h3
  omega
theorem merge_nt : ∀ (l acc : List (Int × Int)), (acc.map (·.1)).Nodup → ∃ ps : List (Int × Int), mergeK (acc.map ntE) (l.map ntE) = ps.map ntE ∧ (ps.map (·.1)).Nodup ∧ (∀ q ∈ ps, q ∈ acc ∨ q ∈ l) ∧ ps.length ≤ acc.length + l.length
  | [], acc, h => ⟨acc, rfl, h, fun q hq => .inl hq, Nat.le_refl _⟩
  | q :: r, acc, h => by
    have key : ∃ a2 : List (Int × Int), putK (acc.map ntE) (Sum.inl q.1 : Key) (.int q.2) = a2.map ntE ∧ (a2.map (·.1)).Nodup ∧ (∀ x ∈ a2, x ∈ acc ∨ x = q) ∧ a2.length ≤ acc.length + 1 := by
      unfold putK
      by_cases c : ((acc.map ntE).any fun kv => decide (kv.1 = (Sum.inl q.1 : Key))) = true
      · refine ⟨acc.map fun x => if x.1 = q.1 then q else x, ?_, ?_, fun x hx => ?_, by rw [List.length_map]; omega⟩
        · rw [if_pos c, List.map_map, List.map_map]
          refine List.map_congr_left fun x _ => ?_
          show (if (Sum.inl x.1 : Key) = Sum.inl q.1 then ((Sum.inl x.1 : Key), V.int q.2) else ntE x) = ntE (if x.1 = q.1 then q else x)
          by_cases e : x.1 = q.1
          · rw [if_pos (by rw [e]), if_pos e]; show ((Sum.inl x.1 : Key), V.int q.2) = (Sum.inl q.1, V.int q.2); rw [e]
          · rw [if_neg (fun z => e (Sum.inl.inj z)), if_neg e]
        · have : ((acc.map fun x => if x.1 = q.1 then q else x).map (·.1)) = acc.map (·.1) := by
            rw [List.map_map]
            refine List.map_congr_left fun x _ => ?_
            show (if x.1 = q.1 then q else x).1 = x.1
            split
            · rename_i e; exact e.symm
            · rfl
          rw [this]; exact h
        · obtain ⟨y, hy, rfl⟩ := List.mem_map.mp hx
          split
          · exact .inr rfl
          · exact .inl hy
      · refine ⟨acc ++ [q], ?_, ?_, fun x hx => ?_, by rw [List.length_append]; exact Nat.le_refl _⟩
        · rw [if_neg c, List.map_append]; rfl
        · rw [List.map_append, List.nodup_append]
          refine ⟨h, by simp, fun x hx y hy => ?_⟩
          obtain ⟨e, he, rfl⟩ := List.mem_map.mp hx
          rw [List.map_cons, List.map_nil, List.mem_singleton] at hy
          subst hy
          intro z
          exact c (List.any_eq_true.mpr ⟨ntE e, List.mem_map_of_mem he, by show decide ((Sum.inl e.1 : Key) = Sum.inl q.1) = true; rw [z]; exact decide_eq_true rfl⟩)
        · rcases List.mem_append.mp hx with hx | hx
          · exact .inl hx
          · exact .inr (List.mem_singleton.mp hx)
    obtain ⟨a2, e1, n2, m2, l2⟩ := key
    obtain ⟨ps, e3, n3, m3, l3⟩ := merge_nt r a2 n2
    refine ⟨ps, ?_, n3, fun x hx => ?_, by rw [List.length_cons]; omega⟩
    · rw [← e3, ← e1]; rfl
    · rcases m3 x hx with hx | hx
      · rcases m2 x hx with hx | hx
        · exact .inl hx
        · exact .inr (by rw [hx]; exact List.mem_cons_self)
      · exact .inr (List.mem_cons_of_mem _ hx)
theorem paired_nt {K : PySem.W.Frag} {H : Hp} : ∀ {xs : List (Addr × (Int × Int))}, TL MomV H xs → Paired (fun (p : Addr) (kv : Key × V) => SqT K H p [kV kv.1, kv.2]) (xs.map (·.1)) ((xs.map (·.2)).map ntE)
  | [], _ => .nil
  | x :: r, h => .cons (SqT.of (h x List.mem_cons_self)) (paired_nt fun y hy => h y (List.mem_cons_of_mem _ hy))
/-- another track with its map, that sounds like es -/
structure Oth (K : PySem.W.Frag) (H : Hp) (beat : Int) (qs : List (Int × Int)) (es : List AEv) (t o : Addr) : Prop where
  ex : ∃ (os : List AEv) (beat' : Int) (qs' : List (Int × Int)), H t = some (.lst (refs os)) ∧ TL evV H os ∧ os.length ≤ 40 ∧ (∀ e ∈ os, 0 ≤ e.2.1 ∧ e.2.1 ≤ 999999 ∧ ThOk e.2.2) ∧ MapAt K H o beat' qs' ∧ MapOk beat' qs' ∧ Both (momF beat qs) (es.map (·.2)) (momF beat' qs') (os.map (·.2))
theorem Oth.extN {K : PySem.W.Frag} {H H' : Hp} {beat : Int} {qs : List (Int × Int)} {es : List AEv} {t o : Addr} (h : Oth K H beat qs es t o) (s : LamX.ExtN H H') : Oth K H' beat qs es t o := by
  obtain ⟨os, b, q, h1, h2, h3, h4, h5, h6, h7⟩ := h.ex
  exact ⟨os, b, q, lst_extN s h1, h2.extN s, h3, h4, h5.extN s, h6, h7⟩
def PairV (p : Addr × Addr) : List V := [.ref p.1, .ref p.2]
/-- what the first half of the law leaves -/
structure Half (K : PySem.W.Frag) (H : Hp) (d cs t o kd : Addr) (es : List AEv) (beat k : Int) (ps qs : List (Int × Int)) : Prop where
  D : DrawAt H d cs
  td : t ≠ d
  ht : H t = some (.lst (refs es))
  he : TL evV H es
  T : TrOk 30 1200 (es.map (·.2))
  b1 : beat ≤ 60
  k0 : 1 ≤ k
  k1 : k ≤ 16
  hk : H kd = some (.dK (ps.map ntE))
  nd : (ps.map (·.1)).Nodup
  pq : ps.Perm qs
  ql : qs.length ≤ 5
  qt : ∀ q ∈ qs, q.1 ≤ 1000
  M : MapOk beat qs
  O : MapAt K H o beat qs
  tb : LamX.Tabs (thrT K) H
theorem Half.same {K : PySem.W.Frag} {H H' : Hp} {d cs t o kd : Addr} {es : List AEv} {beat k : Int} {ps qs : List (Int × Int)} (h : Half K H d cs t o kd es beat k ps qs) (s : Same H H') : Half K H' d cs t o kd es beat k ps qs :=
  { h with D := h.D.same s, ht := s _ _ h.ht, he := h.he.same s, hk := s _ _ h.hk, O := h.O.same s, tb := h.tb.ext s }
theorem Half.bd {K : PySem.W.Frag} {H : Hp} {d cs t o kd : Addr} {es : List AEv} {beat k : Int} {ps qs : List (Int × Int)} (h : Half K H d cs t o kd es beat k ps qs) : es.length ≤ 30 ∧ (∀ e ∈ es, 0 ≤ e.2.1 ∧ e.2.1 ≤ 1200 ∧ ThOk e.2.2) ∧ ∀ e ∈ es, 0 ≤ e.2.1 ∧ e.2.1 ≤ 999999 ∧ ThOk e.2.2 := by
  have h1 := h.T.len
  rw [List.length_map] at h1
  have h2 : ∀ e ∈ es, 0 ≤ e.2.1 ∧ e.2.1 ≤ 1200 ∧ ThOk e.2.2 := fun e he => by
    have a := h.T.bd e.2 (List.mem_map_of_mem he)
    exact ⟨a.1, a.2, h.T.ok e.2 (List.mem_map_of_mem he)⟩
  exact ⟨h1, h2, fun e he => by obtain ⟨a, b, c⟩ := h2 e he; exact ⟨a, by omega, c⟩⟩
end L2.RK
namespace L2.RK
open PySem PySem.Spec PyProof.Rows
theorem loneF_mem : ∀ (l : List Ev) (S : Snd) (j i : Nat), i ∈ loneF S j (l.map (·.2)) ↔ j ≤ i ∧ ∃ e, l[i - j]? = some e ∧ isLone (appE S (l.take (i - j))) e.2 = true
  | [], S, j, i => by
    constructor
    · intro h; cases h
    · rintro ⟨_, e, h, _⟩; simp at h
  | x :: r, S, j, i => by
    show i ∈ (if isLone S x.2 then [j] else []) ++ loneF (stepS S x.2) (j + 1) (r.map (·.2)) ↔ _
    rw [List.mem_append, loneF_mem r (stepS S x.2) (j + 1) i]
    constructor
    · rintro (h | ⟨h1, e, h2, h3⟩)
      · by_cases c : isLone S x.2 = true
        · rw [if_pos c, List.mem_singleton] at h
          subst h
          refine ⟨Nat.le_refl _, x, by rw [Nat.sub_self]; rfl, ?_⟩
          rw [Nat.sub_self]; exact c
        · rw [if_neg c] at h; cases h
      · refine ⟨by omega, e, ?_, ?_⟩
        · rw [show i - j = (i - (j + 1)) + 1 by omega]; exact h2
        · rw [show i - j = (i - (j + 1)) + 1 by omega]; exact h3
    · rintro ⟨h1, e, h2, h3⟩
      by_cases c : i = j
      · subst c
        rw [Nat.sub_self] at h2 h3
        obtain rfl : x = e := Option.some.inj h2
        have h3 : isLone S x.2 = true := h3
        exact .inl (by rw [if_pos h3]; exact List.mem_singleton.mpr rfl)
      · refine .inr ⟨by omega, e, ?_, ?_⟩
        · rw [show i - j = (i - (j + 1)) + 1 by omega] at h2; exact h2
        · rw [show i - j = (i - (j + 1)) + 1 by omega] at h3; exact h3
theorem inV_nat {i : Nat} {js : List Nat} : inV (.int (i : Int)) (js.map fun j : Nat => V.int (j : Int)) = decide (i ∈ js) := by
  unfold inV
  rw [List.any_map]
  induction js with
  | nil => rfl
  | cons j r ih =>
    rw [List.any_cons, ih]
    show (((j : Int) == (i : Int)) || decide (i ∈ r)) = decide (i ∈ j :: r)
    rw [Bool.eq_iff_iff]
    simp only [Bool.or_eq_true, beq_iff_eq, decide_eq_true_eq, List.mem_cons]
    exact ⟨fun h => h.imp (fun h => by omega) id, fun h => h.imp (fun h => by omega) id⟩
theorem flat_ints {α : Type} {f : α → Int} (js : List α) : (js.map fun j => V.int (f j)).all flatV = true := List.all_eq_true.mpr fun x hx => by
  obtain ⟨j, _, rfl⟩ := List.mem_map.mp hx; rfl
theorem evV_one (e : Ev) : ∃ x : Str, atI (evV e) 1 = some (.str x) ∧ (decide (V.str x = V.str "mark")) = isMark e.2 := by
  obtain ⟨n, t⟩ := e
  have h1 : decide (V.str "on" = V.str "mark") = false := by decide +kernel
  have h2 : decide (V.str "off" = V.str "mark") = false := by decide +kernel
  have h3 : decide (V.str "knob" = V.str "mark") = false := by decide +kernel
  have h4 : decide (V.str "voice" = V.str "mark") = false := by decide +kernel
  have h5 : decide (V.str "mark" = V.str "mark") = true := by decide +kernel
  cases t with
  | on => exact ⟨_, rfl, h1⟩
  | off => exact ⟨_, rfl, h2⟩
  | knob => exact ⟨_, rfl, h3⟩
  | voice => exact ⟨_, rfl, h4⟩
  | mark => exact ⟨_, rfl, h5⟩
/-- what the second half of the law leaves -/
structure Full (K : PySem.W.Frag) (H : Hp) (d cs t o kd o2 wd pl : Addr) (es : List AEv) (beat k : Int) (ps qs : List (Int × Int)) : Prop where
  h : Half K H d cs t o kd es beat k ps qs
  O2 : MapAt K H o2 (k * beat) (scaleQ k qs)
  W : ∃ ws : List AEv, H wd = some (.lst (refs ws)) ∧ TL evV H ws ∧ ws.map (·.2) = (es.map (·.2)).map (scE k)
  P : ∃ os : List AEv, H pl = some (.lst (refs os)) ∧ TL evV H os ∧ os.map (·.2) = plainF Snd.none (es.map (·.2))
end L2.RK
namespace L2.RK
open PySem PySem.Spec PyProof.Rows
theorem Half.extN {K : PySem.W.Frag} {H H' : Hp} {d cs t o kd : Addr} {es : List AEv} {beat k : Int} {ps qs : List (Int × Int)} (h : Half K H d cs t o kd es beat k ps qs) (s : LamX.ExtN H H') (tb : LamX.Tabs (thrT K) H') : Half K H' d cs t o kd es beat k ps qs :=
  { h with D := h.D.extN s, ht := lst_extN s h.ht, he := h.he.extN s, hk := s _ _ h.hk (fun _ z => by cases z), O := h.O.extN s, tb := tb }
theorem Oth.of {K : PySem.W.Frag} {H : Hp} {beat beat' : Int} {qs qs' : List (Int × Int)} {es os : List AEv} {t o : Addr} (ht : H t = some (.lst (refs os))) (he : TL evV H os) (hn : os.length ≤ 40) (hb : ∀ e ∈ os, 0 ≤ e.2.1 ∧ e.2.1 ≤ 999999 ∧ ThOk e.2.2) (O : MapAt K H o beat' qs') (M : MapOk beat' qs') (B : Both (momF beat qs) (es.map (·.2)) (momF beat' qs') (os.map (·.2))) : Oth K H beat qs es t o := ⟨os, beat', qs', ht, he, hn, hb, O, M, B⟩
theorem mapped_bd {os : List AEv} {l : List Ev} {p : Ev → Prop} (e : os.map (·.2) = l) (h : ∀ x ∈ l, p x) : ∀ x ∈ os, p x.2 := fun x hx => h _ (by rw [← e]; exact List.mem_map_of_mem hx)
theorem run_map {M : Int → Int × Int} (es : List AEv) : (es.map (·.2)).map (mtE M) = es.map fun e => (M e.2.1, e.2.2) := by rw [List.map_map]; rfl
end L2.RK
namespace L2.RK
open PySem PySem.Spec PyProof.Rows
/-! law -/
section
variable {P : Program} {w : World} {K : PySem.W.Frag} {mg : Str → Option Value} {base : Heap}
abbrev nLaw : List Str := ["_law_script", "_law_draw", "_law_track", "_law_beat", "_law_known", "_law_own", "_law_times", "_law_tick", "_law_great", "_law_wide", "_law_bare", "_law_plain", "_law_other", "_law_theirs", "_law_more", "_law_found", "_law_k", "_law_event", "_law_at"]
theorem scLaw : FnScope nLaw ["_law_script"] (defScope sLaw) := ⟨rfl, rfl, rfl, by decide +kernel, rfl, by decide +kernel, by decide +kernel⟩
def spLaw (K : PySem.W.Frag) : Sp := fun vs H Q _ => ∃ (a : Addr) (ns : List Int), vs = [.ref a] ∧ SqL K H a (ns.map V.int) ∧ LamX.Tabs (thrT K) H ∧ ∀ H', Q (.bl true) H'
theorem ok_law (T : Txt K mg w) (TB : LamX.TabB base mg (thrP K).1 (thrP K).2) {fd : FuncData} (F : FunD K "law" "law" (defArgs sLaw) (defBody sLaw) (defScope sLaw) [] [] (gA K "law") fd) : FnOk P w K mg base CX0 7 (gA K "law") fd ["_law_script"] (spLaw K) := by
  obtain ⟨f1, G1, b1, k1⟩ := ok_begin (P := P) (base := base) T
  obtain ⟨f2, G2, b2, k2⟩ := ok_slow (P := P) (base := base) T
  obtain ⟨f3, G3, b3, k3⟩ := ok_pickN (P := P) (base := base) T
  obtain ⟨f4, G4, b4, k4⟩ := ok_pace (P := P) (base := base) T
  obtain ⟨f5, G5, b5, k5⟩ := ok_pairs (P := P) (base := base) T
  obtain ⟨f6, G6, b6, k6⟩ := ok_map_init (P := P) (base := base) T
  obtain ⟨f7, G7, b7, k7⟩ := ok_lone (P := P) (base := base) T
  obtain ⟨f8, G8, b8, k8⟩ := ok_thrifty (P := P) (base := base) T TB
  obtain ⟨f9, G9, b9, k9⟩ := ok_unlike (P := P) (base := base) T
  obtain ⟨fA, GA, bA, kA⟩ := ok_moment (P := P) (base := base) T
  obtain ⟨fB, GB, bB, kB⟩ := ok_len (P := P) (base := base) T
  have nd := scLaw.nd
  refine F.ok scLaw (fun vs H Q E h => ?_) (fun cdv A outer s H vs Q E hr h => ⟨_, PSs.nox (
      pss_cons (ps_set (i := 1) nd rfl (.inr rfl) (pe_call G1 (hr.mono (by decide)) (by rfl) T.gLawBegin k1 b1 .nil pass0 (pa_cons (pv 0) pa_nil)))
      (pss_cons (ps_set (i := 2) nd rfl (.inr rfl) (pe_call G2 (hr.mono (by decide)) (by rfl) T.gLawSlowTrack k2 b2 .nil pass0 (pa_cons (pv 1) (pa_cons pe_int pa_nil))))
      (pss_cons (ps_set (i := 3) nd rfl (.inl rfl) (pe_op op_add pe_int (pe_call G3 (hr.mono (by decide)) (by rfl) T.gLawPick k3 b3 .nil pass0 (pa_cons (pv 1) (pa_cons pe_int pa_nil)))))
      (pss_cons (ps_set (i := 4) nd rfl (.inr rfl) (pe_callTy (call_dictP (by rfl)) (by rfl) T.nDict (by decide +kernel) (pa_cons
        (pe_lc (own := [("_law_k", 16)]) (g := gName 16) (te := tTup (tCons (tCall spPickN [] E0 (tCons (tVar 1) (tCons (tC (.int 900)) tNil))) (tCons (tCall spPace [] E0 (tCons (tVar 1) tNil)) tNil))) (by rfl) nd (pi_range1 rfl T.nRange (pa_cons (pe_call G3 (hr.mono (by decide)) (by rfl) T.gLawPick k3 b3 .nil pass0 (pa_cons (pv 1) (pa_cons pe_int pa_nil))) pa_nil)) (blkOk_by (N := nLaw) (sc := defScope sLaw) (by decide +kernel))
          (fun _ _ _ _ _ => pg_name (i := 16) nd rfl (.inl rfl) (.inr rfl)) (fun _ _ _ _ _ => pts_nil) (fun _ _ _ _ _ => pe_tup (pa_cons (pe_call G3 (hr.mono (by decide)) (by rfl) T.gLawPick k3 b3 .nil pass0 (pa_cons (pv 1) (pa_cons pe_int pa_nil))) (pa_cons (pe_call G4 (hr.mono (by decide)) (by rfl) T.gLawPace k4 b4 .nil pass0 (pa_cons (pv 1) pa_nil)) pa_nil)))) pa_nil)))
      (pss_cons (ps_set (i := 5) nd rfl (.inl rfl) (pe_make T.kMap G6 (hr.mono (by decide)) (by rfl) T.gMap b6 .nil pass0 (pa_cons (pv 3) (pa_cons (pe_call G5 (hr.mono (by decide)) (by rfl) T.gLawPairs k5 b5 .nil pass0 (pa_cons (pv 4) pa_nil)) pa_nil))))
      (C8.pss_cut (ps_set (i := 6) nd rfl (.inr rfl) (pe_op op_add pe_int (pe_call G3 (hr.mono (by decide)) (by rfl) T.gLawPick k3 b3 .nil pass0 (pa_cons (pv 1) (pa_cons pe_int pa_nil)))))
      (pss_cons (ps_set (i := 8) nd rfl (.inl rfl) (pe_make T.kMap G6 (hr.mono (by decide)) (by rfl) T.gMap b6 .nil pass0 (pa_cons (pe_op op_mul (pv 3) (pv 6)) (pa_cons
        (pe_lock (pe_lc (own := [("_law_tick", 7)]) (g := gName 7) (te := tTup (tCons (tOp (rI CMul fun i j => .int (i * j)) (tVar 7) (tVar 6)) (tCons (tDGet (tVar 4) (tVar 7)) tNil))) (by rfl) nd (pi_keys (pv 4)) (blkOk_by (N := nLaw) (sc := defScope sLaw) (by decide +kernel))
          (fun _ _ _ _ _ => pg_name (i := 7) nd rfl (.inl rfl) (.inr rfl)) (fun _ _ _ _ _ => pts_nil) (fun _ _ _ _ _ => pe_tup (pa_cons (pe_op op_mul (pv 7) (pv 6)) (pa_cons (pe_dget (hu_of hr) (pv 4) (pv 7) (fun _ _ => rfl)) pa_nil))))) pa_nil))))
      (pss_cons (ps_setLc (i := 9) (own := [("_law_event", 17)]) (g := gName 17) (te := tOp (rCatA K) (tTup (tCons (tOp (rI CMul fun i j => .int (i * j)) (tOp (rIxT K) (tVar 17) (tC (.int 0))) (tVar 6)) tNil)) (tSl (rSlA K) (tVar 17) (tPart (tC (.int 1))) tNoPart)) (by rfl) nd rfl rfl (sw_true rfl rfl (by rfl) (by rfl)) (pi_list (pv 2)) (blkOk_by (N := nLaw) (sc := defScope sLaw) (by decide +kernel))
          (fun _ _ _ _ _ => pg_name (i := 17) nd rfl (.inl rfl) (.inr rfl)) (fun _ _ _ _ _ => pts_nil) (fun _ _ _ _ _ => pe_op op_catA (pe_tup (pa_cons (pe_op op_mul (pe_ix ix_tup (pv 17) pe_int (fun _ _ => rfl)) (pv 6)) pa_nil)) (pe_slice sl_tupA (pv 17) (po_some pe_int) po_none)))
      (pss_cons (ps_set (i := 10) nd rfl (.inr rfl) (pe_call G7 (hr.mono (by decide)) (by rfl) T.gLone k7 b7 .nil pass0 (pa_cons (pv 2) pa_nil)))
      (C8.pss_cut (ps_setLc (i := 11) (own := [("_law_at", 18)]) (g := gName 18) (tt := tAnd (tTest (tOp (rIn K true) (tVar 18) (tVar 10))) (tTest (tOp rNe (tOp (rIxT K) (tOp (rIxL K) (tVar 2) (tVar 18)) (tC (.int 1))) (tC (.str "mark"))))) (te := tOp (rIxL K) (tVar 2) (tVar 18)) (by rfl) nd rfl rfl (sw_true rfl rfl (by rfl) (by rfl))
          (pi_range1 rfl T.nRange (pa_cons (pe_callB call_len_seq (by rfl) T.nLen PySem.boot_len (pa_cons (pv 2) pa_nil)) pa_nil)) (blkOk_by (N := nLaw) (sc := defScope sLaw) (by decide +kernel))
          (fun _ _ _ _ _ => pg_name (i := 18) nd rfl (.inl rfl) (.inr rfl)) (fun _ _ _ _ _ => pts_one (PW.pt (pw_and (pt_cmpR op_notIn_seq (pv 18) (pv 10) (by rfl)) (pw_and1 (pt_cmpR op_ne (pe_ix ix_tup (pe_ix ix_list (pv 2) (pv 18) (fun _ _ => rfl)) pe_int (fun _ _ => rfl)) pe_str (nomark _))))))
          (fun _ _ _ _ _ => pe_ix ix_list (pv 2) (pv 18) (fun _ _ => rfl)))
      (pss_cons (ps_for PassesOwn.never rfl (pi_list (pe_lst (pa_cons (pe_tup (pa_cons (pv 2) (pa_cons (pv 5) pa_nil)))
          (pa_cons (pe_tup (pa_cons (pe_call G8 (hr.mono (by decide)) (by rfl) T.gThrifty k8 b8 .nil pass0 (pa_cons (pv 2) pa_nil)) (pa_cons (pv 5) pa_nil)))
          (pa_cons (pe_tup (pa_cons (pv 11) (pa_cons (pv 5) pa_nil)))
          (pa_cons (pe_tup (pa_cons (pv 9) (pa_cons (pv 8) pa_nil)))
          (pa_cons (pe_tup (pa_cons (pe_call G8 (hr.mono (by decide)) (by rfl) T.gThrifty k8 b8 .nil pass0 (pa_cons (pv 9) pa_nil)) (pa_cons (pv 8) pa_nil))) pa_nil)))))))
          (pg_tup rfl (pgs_cons (pg_name (i := 12) nd rfl (.inl rfl)) (pgs_cons (pg_name (i := 13) nd rfl (.inl rfl)) pgs_nil)))
        (pss_one (ps_if (PW.pt (pw_or (pt_cmp (pc_notN (pe_call G9 (hr.mono (by decide)) (by rfl) T.gUnlike k9 b9 .nil pass0 (pa_cons (pv 2) (pa_cons (pv 5) (pa_cons (pv 12) (pa_cons (pv 13) pa_nil)))))))
            (pw_or1 (pt_cmp (pc_notN (pe_call G9 (hr.mono (by decide)) (by rfl) T.gUnlike k9 b9 .nil pass0 (pa_cons (pv 12) (pa_cons (pv 13) (pa_cons (pv 2) (pa_cons (pv 5) pa_nil))))))))))
          (pss_one (ps_ret pe_bl)) pss_nil)))
      (pss_cons (ps_set (i := 7) nd rfl (.inr rfl) (pe_call G3 (hr.mono (by decide)) (by rfl) T.gLawPick k3 b3 .nil pass0 (pa_cons (pv 1) (pa_cons pe_int pa_nil))))
      (pss_cons (ps_set (i := 14) nd rfl (.inl rfl) (pe_op op_cat (pe_lc (own := [("_law_event", 17)]) (g := gName 17) (tt := tTest (tOp (rI0 fun i j => .bl (decide (i ≤ j))) (tOp (rIxT K) (tVar 17) (tC (.int 0))) (tVar 7))) (te := tVar 17) (by rfl) nd (pi_list (pv 2)) (blkOk_by (N := nLaw) (sc := defScope sLaw) (by decide +kernel))
          (fun _ _ _ _ _ => pg_name (i := 17) nd rfl (.inl rfl) (.inr rfl)) (fun _ _ _ _ _ => pts_one (pt_cmpR op_le (pe_ix ix_tup (pv 17) pe_int (fun _ _ => rfl)) (pv 7) (nomark _))) (fun _ _ _ _ _ => pv 17))
          (pe_lst (pa_cons (pe_tup (pa_cons (pv 7) (pa_cons pe_str (pa_cons pe_int (pa_cons pe_int (pa_cons pe_int pa_nil)))))) pa_nil))))
      (pss_cons (ps_set (i := 14) nd rfl (.inl rfl) (pe_op op_cat (pv 14) (pe_lc (own := [("_law_event", 17)]) (g := gName 17) (tt := tTest (tOp (rI0 fun i j => .bl (decide (i > j))) (tOp (rIxT K) (tVar 17) (tC (.int 0))) (tVar 7))) (te := tVar 17) (by rfl) nd (pi_list (pv 2)) (blkOk_by (N := nLaw) (sc := defScope sLaw) (by decide +kernel))
          (fun _ _ _ _ _ => pg_name (i := 17) nd rfl (.inl rfl) (.inr rfl)) (fun _ _ _ _ _ => pts_one (pt_cmpR op_gt (pe_ix ix_tup (pv 17) pe_int (fun _ _ => rfl)) (pv 7) (nomark _))) (fun _ _ _ _ _ => pv 17))))
      (pss_cons (ps_set (i := 15) nd rfl (.inl rfl) (pe_call G9 (hr.mono (by decide)) (by rfl) T.gUnlike k9 b9 .nil pass0 (pa_cons (pv 2) (pa_cons (pv 5) (pa_cons (pv 14) (pa_cons (pv 5) pa_nil))))))
      (pss_one (ps_ret (pe_and (pe_cmp (pc_notN (pv 15))) (pe_and (pe_cmpR (op_eqD hr.units) (pe_ix ix_tup (pv 15) pe_int (fun _ _ => rfl)) (pe_meth (pv 5) T.cMap T.mMapMoment GA (hr.mono (by decide)) bA .nil pass0 (pa_cons (pv 7) pa_nil)) (nomark _))
        (pe_one (pe_cmpR op_eq (pe_callB (call_lenIns GB (hr.mono (by decide)) bB pass0 T.mStandLen.at_ T.mStandLen.fn) (by rfl) T.nLen PySem.boot_len (pa_cons (pe_ix ix_tup (pv 15) pe_int (fun _ _ => rfl)) pa_nil)) (pe_op op_add (pe_callB (call_lenIns GB (hr.mono (by decide)) bB pass0 T.mStandLen.at_ T.mStandLen.fn) (by rfl) T.nLen PySem.boot_len (pa_cons (pe_ix ix_tup (pv 15) pe_int (fun _ _ => rfl)) pa_nil)) pe_int) (nomark _)))))))))))))))))))))), ?_⟩)
  · obtain ⟨a, ns, rfl, _⟩ := h
    rfl
  · obtain ⟨a, ns, rfl, ha, hT, q⟩ := h
    have big : sizeLine > 1000 := by decide
    refine ⟨_, rfl, a, ns, rfl, ha, fun H1 d cs s1 nd0 ncs0 D1 => ?_⟩
    have T1 := hT.ext s1
    refine ⟨_, rfl, d, cs, rfl, D1, fun H2 t es s2 D2 nt ht2 he2 tr => ?_⟩
    have T2 := Tabs_sbd T1 D1 s2
    have td : t ≠ d := (D1.free nt).1
    refine ⟨_, rfl, d, cs, 60, rfl, D2, by decide, by decide, fun H3 b s3 D3 l3 => ⟨_, _, rfl, rfl, ?_⟩⟩
    refine ⟨_, rfl, d, cs, 6, rfl, D3, by decide, by decide, fun H4 r s4 D4 l4 => ⟨_, rfl, by omega, by omega, fun L nL => ?_⟩⟩
    refine lc_range (lo := 0) (n := r) (fun i H' => SBd d H4 H' ∧ DrawAt H' d cs ∧ ∃ xs : List (Addr × (Int × Int)), H' L = some (.lst (refs xs)) ∧ TL MomV H' xs ∧ xs.length = i ∧ ∀ x ∈ xs, (0 ≤ x.2.1 ∧ x.2.1 ≤ 1000) ∧ 1 ≤ x.2.2 ∧ x.2.2 ≤ 16777215) ⟨SBd.ofSame (Same.new nL), D4.same (Same.new nL), [], upd_same, TL.nil, rfl, fun x hx => (by cases hx)⟩ ?_ ?_
    · rintro i H5 hi ⟨s5, D5, xs, h1, h2, h3, h4⟩
      refine ⟨rfl, _, rfl, d, cs, 900, rfl, D5, by decide, by decide, fun H6 g s6 D6 l6 => ⟨_, rfl, d, cs, rfl, D6, fun H7 x s7 D7 x1 x2 => ⟨by show 2 ≤ sizeLine; omega, fun v nv => ?_⟩⟩⟩
      have Ld := D4.free nL
      have s57 := s6.trans s7
      have h17 := s57 _ _ Ld.1 h1
      refine ⟨_, (Same.new nv) _ _ h17, by rw [refs_len]; omega, ((s5.trans s57).trans (SBd.ofSame (Same.new nv))).new nL, (D7.same (Same.new nv)).put Ld, xs ++ [(v, ((g : Int), x))], by rw [upd_same, refs_app]; rfl, ?_, by rw [List.length_append, h3]; rfl, fun y hy => ?_⟩
      · exact (((h2.sbd D5 s57).same (Same.new nv)).app (x := (v, ((g : Int), x))) upd_same).putL ((Same.new nv) _ _ h17)
      · rcases List.mem_append.mp hy with hy | hy
        · exact h4 y hy
        · rw [List.mem_singleton.mp hy]
          refine ⟨⟨?_, ?_⟩, x1, x2⟩
          · show 0 ≤ (g : Int); omega
          · show (g : Int) ≤ 1000; omega
    · rintro H5 ⟨s5, D5, xs, h1, h2, h3, h4⟩
      refine ⟨L, xs.map (·.1), (xs.map (·.2)).map ntE, rfl, SqL.of (by rw [h1]; unfold refs; rw [List.map_map]; rfl), paired_nt h2, fun kd nkd => ?_⟩
      obtain ⟨ps, ep, pn, pm, pl⟩ := merge_nt (xs.map (·.2)) [] List.nodup_nil
      have hk6 : upd H5 kd (.dK (mergeK [] ((xs.map (·.2)).map ntE))) kd = some (.dK (ps.map ntE)) := by rw [upd_same, ← ep]; rfl
      have s56 : Same H5 (upd H5 kd (.dK (mergeK [] ((xs.map (·.2)).map ntE)))) := Same.new nkd
      generalize upd H5 kd (.dK (mergeK [] ((xs.map (·.2)).map ntE))) = H6 at *
      have pl5 : ps.length ≤ 5 := by
        rw [List.length_map, h3] at pl
        have : ([] : List (Int × Int)).length = 0 := rfl
        omega
      refine ⟨_, rfl, _, rfl, kd, ps, rfl, hk6, pn, by omega, fun H7 l ys s7 hl7 hy7 perm => fun o dx no ndx dxo => ?_⟩
      obtain ⟨qs, pq, srt⟩ := sort_qs pn
      have hq : ∀ z ∈ qs, (0 ≤ z.1 ∧ z.1 ≤ 1000) ∧ 1 ≤ z.2 ∧ z.2 ≤ 16777215 := fun z hz => by
        rcases pm z (pq.mem_iff.mpr hz) with hz | hz
        · cases hz
        · obtain ⟨x, hx, rfl⟩ := List.mem_map.mp hz
          exact h4 x hx
      have ql : qs.length ≤ 5 := by rw [← pq.length_eq]; exact pl5
      have M : MapOk (1 + (b : Int)) qs := ⟨by omega, by omega, srt, by omega, fun z hz => by have := (hq z hz).1; omega, fun z hz => (hq z hz).2⟩
      have s78 : Same H7 (upd (upd H7 dx (.own o)) o (.ins (gA K "Map") dx [])) := (Same.new ndx).put no
      refine ⟨o, dx, l, 1 + (b : Int), ys, qs, rfl, upd_same, s78 _ _ hl7, hy7.same s78, perm.trans pq, M, fun H8 keep hM => ⟨rfl, ?_⟩⟩
      have s79 : Same H7 H8 := fun c u e => keep _ _ (s78 _ _ e) (ne_of_none e no)
      have s59 : Same H5 H8 := (s56.trans s7).trans s79
      have Ld := D4.free nL
      have sd : SBd d H2 H8 := ((s3.trans s4).trans s5).trans (SBd.ofSame s59)
      have Hf : Half K H8 d cs t o kd es (1 + (b : Int)) 1 ps qs :=
        { D := D5.same s59, td := td, ht := sd _ _ td ht2, he := he2.sbd D2 sd, T := tr, b1 := by omega, k0 := by decide, k1 := by decide, hk := (s7.trans s79) _ _ hk6, nd := pn, pq := pq, ql := ql, qt := fun z hz => (hq z hz).1.2, M := M, O := hM, tb := Tabs_sbd T2 D2 sd }
      refine ⟨fun σ' H' => ∃ (x0 : Option V) (beat k : Int), σ' = [x0, some (.ref d), some (.ref t), some (.int beat), some (.ref kd), some (.ref o), some (.int k), none, none, none, none, none, none, none, none, none, none, none, none] ∧ Half K H' d cs t o kd es beat k ps qs, ?_, ?_⟩
      · have kd_d : kd ≠ d := (D5.free nkd).1
        refine ⟨_, rfl, d, cs, 16, rfl, Hf.D, by decide, by decide, fun H9 m s9 D9 l9 => ⟨_, _, rfl, rfl, _, _, _, rfl, ?_⟩⟩
        exact { Hf with D := D9, ht := s9 _ _ td Hf.ht, he := Hf.he.sbd Hf.D s9, k0 := by omega, k1 := by omega, hk := s9 _ _ kd_d Hf.hk, O := Hf.O.sbd Hf.D s9, tb := Tabs_sbd Hf.tb Hf.D s9 }
      · rintro σ H9 ⟨x0, beat, k, rfl, Hh⟩
        obtain ⟨e30, eb, ebb⟩ := Hh.bd
        have b0 := Hh.M.b0
        have b1 := Hh.b1
        have k0 := Hh.k0
        have k1 := Hh.k1
        have pl5 : ps.length ≤ 5 := by rw [Hh.pq.length_eq]; exact Hh.ql
        refine ⟨_, rfl, _, rfl, _, _, rfl, rfl, .inl ⟨by omega, by omega⟩, ?_⟩
        refine ⟨kd, _, Hh.hk, trivial, fun od => ⟨_, rfl, kd, od, rfl, .inl ⟨_, upd_same, fun L nL => ?_⟩⟩⟩
        have hkB : upd H9 kd (.frz od (.dK (ps.map ntE))) kd = some (.frz od (.dK (ps.map ntE))) := upd_same
        have back : ∀ (Ha : Hp), Same (upd H9 kd (.frz od (.dK (ps.map ntE)))) Ha → Same H9 (upd Ha kd (.dK (ps.map ntE))) := fun Ha sa b o q => by
          by_cases hb : b = kd
          · rw [hb, upd_same, ← q, hb, Hh.hk]
          · rw [upd_ne hb]; exact sa _ _ (by rw [upd_ne hb]; exact q)
        generalize upd H9 kd (.frz od (.dK (ps.map ntE))) = HB at *
        refine lc_it (walk_keys (d := kd) (o := od) (kvs := ps.map ntE)) (fun j H' => Same HB H' ∧ ∃ xs : List (Addr × (Int × Int)), H' L = some (.lst (refs xs)) ∧ TL MomV H' xs ∧ xs.map (·.2) = (scaleQ k ps).take j) ⟨Same.new nL, [], upd_same, TL.nil, rfl⟩ (fun j H' _ h => h.1 _ _ hkB) ?_ ?_
        · rintro j x Ha Hb hj ⟨sa, xs, h1, h2, h3⟩ ⟨rfl, kk, v, hkv, rfl⟩
          rw [List.getElem?_map] at hkv
          cases hz : ps[j]? with
          | none => rw [hz] at hkv; cases hkv
          | some z =>
            rw [hz] at hkv
            obtain ⟨rfl, rfl⟩ : Sum.inl z.1 = kk ∧ V.int z.2 = v := Prod.mk.injEq .. |>.mp (Option.some.inj hkv)
            have zm := List.mem_of_getElem? hz
            have zq := Hh.pq.mem_iff.mp zm
            have zb := Hh.qt z zq
            have zt := Hh.M.tick z zq
            have hx3 := congrArg List.length h3
            rw [List.length_map, List.length_take] at hx3
            have hx4 : (scaleQ k ps).length ≤ 5 := by unfold scaleQ; rw [List.length_map]; exact pl5
            refine ⟨rfl, _, rfl, _, rfl, _, _, rfl, rfl, .inl ⟨by omega, by omega⟩, _, rfl, _, rfl, kd, V.int z.2, rfl, .inl ⟨_, Sum.inl z.1, .inr ⟨od, sa _ _ hkB⟩, rfl, (valV_mem Hh.nd zm).symm⟩, by show 2 ≤ sizeLine; omega, fun v nv => ?_⟩
            refine ⟨_, (Same.new nv) _ _ h1, by rw [refs_len]; omega, (sa.add nv).put nL, xs ++ [(v, (k * z.1, z.2))], by rw [upd_same, refs_app]; rfl, ?_, ?_⟩
            · exact ((h2.same (Same.new nv)).app (x := (v, (k * z.1, z.2))) (by rw [upd_same, Int.mul_comm]; rfl)).putL ((Same.new nv) _ _ h1)
            · have : (scaleQ k ps)[j]? = some (k * z.1, z.2) := by unfold scaleQ; rw [List.getElem?_map, hz]; rfl
              rw [List.map_append, h3, take_snoc this]; rfl
        · rintro Ha ⟨sa, xs, h1, h2, h3⟩
          refine ⟨sa _ _ hkB, fun o2 dx no ndx dxo => ?_⟩
          have s8 := back Ha sa
          have hkA := sa _ _ hkB
          have Lk : L ≠ kd := fun z => by rw [z, hkB] at nL; cases nL
          have h1' : upd Ha kd (.dK (ps.map ntE)) L = some (.lst (refs xs)) := by rw [upd_ne Lk]; exact h1
          have h2' : TL MomV (upd Ha kd (.dK (ps.map ntE))) xs := fun y hy => by rw [upd_ne (ne_of (h2 y hy) hkA (by intro z; cases z))]; exact h2 y hy
          generalize upd Ha kd (.dK (ps.map ntE)) = H10 at *
          rw [List.length_map, show ps.length = (scaleQ k ps).length by unfold scaleQ; rw [List.length_map], List.take_length] at h3
          have s1011 : Same H10 (upd (upd H10 dx (.own o2)) o2 (.ins (gA K "Map") dx [])) := (Same.new ndx).put no
          have M2 : MapOk (k * beat) (scaleQ k qs) := Hh.M.scale k0 k1 b1 Hh.qt
          refine ⟨o2, dx, L, k * beat, xs, scaleQ k qs, by rw [Int.mul_comm k beat]; rfl, upd_same, s1011 _ _ h1', h2'.same s1011, by rw [h3]; exact Hh.pq.map _, M2, fun H11 keep hM2 => ⟨rfl, ?_⟩⟩
          have s11 : Same H9 H11 := fun c u e => keep _ _ (s1011 _ _ (s8 _ _ e)) (ne_of_none (s8 _ _ e) no)
          have Hh := Hh.same s11
          -- wide
          refine ⟨_, rfl, t, rfl, ⟨_, SqL.of Hh.ht⟩, fun wd nwd => ?_⟩
          refine lc_list (xs := refs es) (fun i H' => Same H11 H' ∧ ∃ ws : List AEv, H' wd = some (.lst (refs ws)) ∧ TL evV H' ws ∧ ws.map (·.2) = ((es.map (·.2)).map (scE k)).take i) ⟨Same.new nwd, [], upd_same, TL.nil, rfl⟩ (fun i H' _ h => SqL.of (h.1 _ _ Hh.ht)) ?_ ?_
          · rintro i x Ha hx ⟨sa, ws, h1, h2, h3⟩
            obtain ⟨z, hz, rfl⟩ := refs_get hx
            have zm := List.mem_of_getElem? hz
            have hz1 := sa _ _ (Hh.he z zm)
            have zb := eb z zm
            have hw3 := congrArg List.length h3
            rw [List.length_map, List.length_take, List.length_map, List.length_map] at hw3
            refine ⟨rfl, _, rfl, z.1, _, _, _, rfl, rfl, SqT.of hz1, at0, _, rfl, _, _, rfl, rfl, .inl ⟨by omega, by omega⟩, by show 1 ≤ sizeLine; omega, fun u nu => ?_⟩
            have su : Same Ha (upd Ha u (.tup [.int (z.2.1 * k)])) := Same.new nu
            have hu : upd Ha u (.tup [.int (z.2.1 * k)]) u = some (.tup [.int (z.2.1 * k)]) := upd_same
            refine ⟨_, rfl, 1, rfl, noPart (sl_one (ys := thV z.2.2) (su _ _ hz1) (by rw [cut1]; rfl) (fun w => ?_) fun A Hc sc hA => ?_)⟩
            · have := whole1 w.1
              exact absurd this (by unfold evV; intro z; cases z)
            · refine cat_one (sc _ _ hu) hA (by have : (thV z.2.2).length ≤ 4 := by cases z.2.2 <;> simp [thV]
                                                show 1 + _ ≤ sizeLine; omega) fun B Hd sd hB => ?_
              have s14 := (su.trans sc).trans sd
              have hw := s14 _ _ h1
              refine ⟨_, hw, by rw [refs_len]; omega, (sa.trans s14).put nwd, ws ++ [(B, scE k z.2)], by rw [upd_same, refs_app]; rfl, ((h2.same s14).app (x := (B, scE k z.2)) (by rw [hB]; show some (HO.tup (V.int (z.2.1 * k) :: thV z.2.2)) = some (HO.tup (V.int (k * z.2.1) :: thV z.2.2)); rw [Int.mul_comm])).putL hw, ?_⟩
              have : ((es.map (·.2)).map (scE k))[i]? = some (scE k z.2) := by rw [List.getElem?_map, List.getElem?_map, hz]; rfl
              rw [List.map_append, h3, take_snoc this]; rfl
          · rintro H12 ⟨s12, ws, h1, h2, h3⟩
            rw [refs_len, show es.length = ((es.map (·.2)).map (scE k)).length by rw [List.length_map, List.length_map], List.take_length] at h3
            have Hh := Hh.same s12
            replace hM2 := hM2.same s12
            -- bare
            refine ⟨_, rfl, t, es, rfl, Hh.ht, Hh.he, by omega, fun e he => (eb e he).2.2, fun H13 br s13 hbr => ?_⟩
            have Hh := Hh.same s13
            replace hM2 := hM2.same s13
            replace h1 := s13 _ _ h1
            replace h2 := h2.same s13
            -- plain
            refine ⟨fun σ' H' => ∃ (x0 y7 y10 : Option V) (pl : Addr), σ' = [x0, some (.ref d), some (.ref t), some (.int beat), some (.ref kd), some (.ref o), some (.int k), y7, some (.ref o2), some (.ref wd), y10, some (.ref pl), none, none, none, none, none, none, none] ∧ Full K H' d cs t o kd o2 wd pl es beat k ps qs, ?_, ?_⟩
            · refine ⟨_, rfl, t, _, rfl, .inl (SqL.of Hh.ht), _, rfl, by show -2 ^ 62 ≤ (((refs es).length : Nat) : Int); omega, by show (((refs es).length : Nat) : Int) < 2 ^ 62; rw [refs_len]; omega, fun pl npl => ?_⟩
              refine lc_range (lo := 0) (n := (refs es).length) (fun i H' => Same H13 H' ∧ ∃ os : List AEv, H' pl = some (.lst (refs os)) ∧ TL evV H' os ∧ os.length ≤ i ∧ os.map (·.2) = plainF Snd.none ((es.map (·.2)).take i)) ⟨Same.new npl, [], upd_same, TL.nil, Nat.le_refl _, rfl⟩ ?_ ?_
              · rintro i Ha hi ⟨sa, os, g1, g2, g3, g4⟩
                rw [Int.zero_add]
                rw [refs_len] at hi
                obtain ⟨z, hz⟩ : ∃ z, es[i]? = some z := ⟨_, List.getElem?_eq_getElem hi⟩
                have zm := List.mem_of_getElem? hz
                have hz1 := sa _ _ (Hh.he z zm)
                have hti : atI (refs es) (i : Int) = some (.ref z.1) := atI_nat (by unfold refs; rw [List.getElem?_map, hz]; rfl)
                have hev : (es.map (·.2))[i]? = some z.2 := by rw [List.getElem?_map, hz]; rfl
                have hin : inV (.int (i : Int)) (lonesV es) = isLone (appE Snd.none ((es.map (·.2)).take i)) z.2.2 := by
                  unfold lonesV
                  rw [inV_nat, show (es.map fun e => e.2.2) = (es.map (·.2)).map (·.2) by rw [List.map_map]; rfl, Bool.eq_iff_iff, decide_eq_true_eq, loneF_mem, Nat.sub_zero]
                  constructor
                  · rintro ⟨_, e, e1, e2⟩
                    rw [hev] at e1
                    obtain rfl := Option.some.inj e1
                    exact e2
                  · exact fun h => ⟨Nat.zero_le _, _, hev, h⟩
                have step : plainF Snd.none ((es.map (·.2)).take (i + 1)) = plainF Snd.none ((es.map (·.2)).take i) ++ (if isLone (appE Snd.none ((es.map (·.2)).take i)) z.2.2 || isMark z.2.2 then [] else [z.2]) := by
                  rw [take_snoc hev, plain_app]
                obtain ⟨ex, hx1, hx2⟩ := evV_one z.2
                refine ⟨rfl, _, rfl, _, rfl, br, lonesV es, rfl, .inl (SqL.of (sa _ _ hbr)), rfl, flat_ints _, _, rfl, ?_⟩
                show if (!inV (.int (i : Int)) (lonesV es)) = true then _ else _
                rw [hin]
                by_cases c : isLone (appE Snd.none ((es.map (·.2)).take i)) z.2.2 = true
                · rw [c]
                  rw [c, Bool.true_or, if_pos rfl, List.append_nil] at step
                  exact iteF (iteF ⟨sa, os, g1, g2, by omega, by rw [step]; exact g4⟩)
                · rw [Bool.not_eq_true] at c
                  rw [c]
                  rw [c, Bool.false_or] at step
                  refine iteT ⟨_, rfl, _, rfl, t, _, _, _, rfl, rfl, SqL.of (sa _ _ Hh.ht), hti, z.1, _, _, _, rfl, rfl, SqT.of hz1, hx1, rfl, _, rfl, ?_⟩
                  rw [hx2]
                  by_cases c2 : isMark z.2.2 = true
                  · rw [c2]
                    rw [c2, if_pos rfl, List.append_nil] at step
                    exact iteF ⟨sa, os, g1, g2, by omega, by rw [step]; exact g4⟩
                  · rw [Bool.not_eq_true] at c2
                    rw [c2]
                    rw [c2, if_neg (by simp)] at step
                    refine iteT ⟨_, rfl, _, rfl, t, _, _, _, rfl, rfl, SqL.of (sa _ _ Hh.ht), hti, _, g1, by rw [refs_len]; omega, sa.put npl, os ++ [z], by rw [upd_same, refs_app]; rfl, (g2.app (x := z) hz1).putL g1, by rw [List.length_append]; exact Nat.succ_le_succ g3, by rw [List.map_append, step, g4]; rfl⟩
              · rintro H14 ⟨s14, os, g1, g2, g3, g4⟩
                rw [refs_len, show es.length = (es.map (·.2)).length by rw [List.length_map], List.take_length] at g4
                exact ⟨x0, _, _, pl, rfl, ⟨Hh.same s14, hM2.same s14, ⟨ws, s14 _ _ h1, h2.same s14, h3⟩, ⟨os, g1, g2, g4⟩⟩⟩
            · rintro σ H14 ⟨x0, y7, y10, pl, rfl, Fu⟩
              have Hh := Fu.h
              obtain ⟨ws, w1, w2, w3⟩ := Fu.W
              obtain ⟨os, p1, p2, p3⟩ := Fu.P
              have hM2 := Fu.O2
              have X := Hh.T.tk
              have MM := momF_mono Hh.M
              have wlen : ws.length = es.length := by have := congrArg List.length w3; rwa [List.length_map, List.length_map, List.length_map] at this
              have wb : ∀ e ∈ ws, 0 ≤ e.2.1 ∧ e.2.1 ≤ 999999 ∧ ThOk e.2.2 := mapped_bd (p := fun e => 0 ≤ e.1 ∧ e.1 ≤ 999999 ∧ ThOk e.2) w3 fun x hx => by
                obtain ⟨y, hy, rfl⟩ := List.mem_map.mp hx
                obtain ⟨z, hz, rfl⟩ := List.mem_map.mp hy
                obtain ⟨a1, a2, a3⟩ := eb z hz
                have h3 : 0 ≤ k * z.2.1 := Int.mul_nonneg (by omega) a1
                have h4 : k * z.2.1 ≤ 16 * z.2.1 := Int.mul_le_mul_of_nonneg_right k1 a1
                exact ⟨h3, by show k * z.2.1 ≤ 999999; omega, a3⟩
              have pb : ∀ e ∈ os, 0 ≤ e.2.1 ∧ e.2.1 ≤ 999999 ∧ ThOk e.2.2 := mapped_bd (p := fun e => 0 ≤ e.1 ∧ e.1 ≤ 999999 ∧ ThOk e.2) p3 fun x hx => by
                obtain ⟨z, hz, rfl⟩ := List.mem_map.mp ((plain_sub _ _).subset hx)
                exact ebb z hz
              have plen : os.length ≤ es.length := by
                have := (plain_sub (es.map (·.2)) Snd.none).length_le
                rw [← p3, List.length_map, List.length_map] at this
                exact this
              -- the five pairs
              refine ⟨_, rfl, _, rfl, by show 2 ≤ sizeLine; omega, fun a1 n1 => ?_⟩
              have E1 : LamX.ExtN H14 (upd H14 a1 (.tup [.ref t, .ref o])) := .of (Same.new n1)
              have A1 : upd H14 a1 (.tup [.ref t, .ref o]) a1 = some (.tup [.ref t, .ref o]) := upd_same
              have T1 := Hh.tb.ext (Same.new (o := .tup [.ref t, .ref o]) n1)
              generalize upd H14 a1 (.tup [.ref t, .ref o]) = J1 at *
              refine ⟨_, rfl, t, es, rfl, lst_extN E1 Hh.ht, Hh.he.extN E1, by omega, fun e he => (eb e he).2.2, T1, fun J2 r1 os1 E2 T2 hr1 Ar1 => ?_⟩
              refine ⟨_, rfl, by show 2 ≤ sizeLine; omega, fun a2 n2 => ?_⟩
              have E3 : LamX.ExtN J2 (upd J2 a2 (.tup [.ref r1, .ref o])) := .of (Same.new n2)
              have A2 : upd J2 a2 (.tup [.ref r1, .ref o]) a2 = some (.tup [.ref r1, .ref o]) := upd_same
              have T3 := T2.ext (Same.new (o := .tup [.ref r1, .ref o]) n2)
              generalize upd J2 a2 (.tup [.ref r1, .ref o]) = J3 at *
              refine ⟨_, rfl, _, rfl, by show 2 ≤ sizeLine; omega, fun a3 n3 => ?_⟩
              have E4 : LamX.ExtN J3 (upd J3 a3 (.tup [.ref pl, .ref o])) := .of (Same.new n3)
              have A3 : upd J3 a3 (.tup [.ref pl, .ref o]) a3 = some (.tup [.ref pl, .ref o]) := upd_same
              have T4 := T3.ext (Same.new (o := .tup [.ref pl, .ref o]) n3)
              generalize upd J3 a3 (.tup [.ref pl, .ref o]) = J4 at *
              refine ⟨_, rfl, _, rfl, by show 2 ≤ sizeLine; omega, fun a4 n4 => ?_⟩
              have E5 : LamX.ExtN J4 (upd J4 a4 (.tup [.ref wd, .ref o2])) := .of (Same.new n4)
              have A4 : upd J4 a4 (.tup [.ref wd, .ref o2]) a4 = some (.tup [.ref wd, .ref o2]) := upd_same
              have T5 := T4.ext (Same.new (o := .tup [.ref wd, .ref o2]) n4)
              generalize upd J4 a4 (.tup [.ref wd, .ref o2]) = J5 at *
              have E15 := (((E1.trans E2).trans E3).trans E4).trans E5
              refine ⟨_, rfl, wd, ws, rfl, lst_extN E15 w1, w2.extN E15, by omega, fun e he => (wb e he).2.2, T5, fun J6 r2 os2 E6 T6 hr2 Ar2 => ?_⟩
              refine ⟨_, rfl, by show 2 ≤ sizeLine; omega, fun a5 n5 => ?_⟩
              have E7 : LamX.ExtN J6 (upd J6 a5 (.tup [.ref r2, .ref o2])) := .of (Same.new n5)
              have A5 : upd J6 a5 (.tup [.ref r2, .ref o2]) a5 = some (.tup [.ref r2, .ref o2]) := upd_same
              have T7 := T6.ext (Same.new (o := .tup [.ref r2, .ref o2]) n5)
              generalize upd J6 a5 (.tup [.ref r2, .ref o2]) = J7 at *
              refine ⟨by show 5 ≤ sizeLine; omega, fun L nL => ?_⟩
              have E8 : LamX.ExtN J7 (upd J7 L (.lst [.ref a1, .ref a2, .ref a3, .ref a4, .ref a5])) := .of (Same.new nL)
              have AL : upd J7 L (.lst [.ref a1, .ref a2, .ref a3, .ref a4, .ref a5]) L = some (.lst [.ref a1, .ref a2, .ref a3, .ref a4, .ref a5]) := upd_same
              have T8 := T7.ext (Same.new (o := .lst [.ref a1, .ref a2, .ref a3, .ref a4, .ref a5]) nL)
              generalize upd J7 L (.lst [.ref a1, .ref a2, .ref a3, .ref a4, .ref a5]) = J8 at *
              have F78 := E7.trans E8
              have F68 := E6.trans F78
              have F58 := E5.trans F68
              have F48 := E4.trans F58
              have F38 := E3.trans F48
              have F28 := E2.trans F38
              have F18 := E1.trans F28
              have Hh8 := Hh.extN F18 T8
              have bnd : ∀ {xs ys : List AEv}, Arr xs ys → (∀ e ∈ xs, 0 ≤ e.2.1 ∧ e.2.1 ≤ 999999 ∧ ThOk e.2.2) → ∀ e ∈ ys, 0 ≤ e.2.1 ∧ e.2.1 ≤ 999999 ∧ ThOk e.2.2 := fun A h e he => h e (A.mem he)
              have tl : ∀ {xs ys : List AEv}, Arr xs ys → TL evV J8 xs → TL evV J8 ys := fun A h e he => h e (A.mem he)
              have rowsOk : ∀ x ∈ [(a1, (t, o)), (a2, (r1, o)), (a3, (pl, o)), (a4, (wd, o2)), (a5, (r2, o2))], J8 x.1 = some (.tup (PairV x.2)) ∧ Oth K J8 beat qs es x.2.1 x.2.2 := by
                intro x hx
                simp only [List.mem_cons, List.not_mem_nil, or_false] at hx
                have M2 := M2
                rcases hx with rfl | rfl | rfl | rfl | rfl
                · exact ⟨tup_extN F28 A1, .of Hh8.ht Hh8.he (by omega) ebb Hh8.O Hh8.M (both_of MM X X fun _ => rfl)⟩
                · exact ⟨tup_extN F48 A2, .of (lst_extN F38 hr1) (tl Ar1 Hh8.he) (by rw [Ar1.len]; omega) (bnd Ar1 ebb) Hh8.O Hh8.M (both_arr MM X Ar1 fun e he => (eb e he).2.2)⟩
                · exact ⟨tup_extN (E5.trans F68) A3, .of (lst_extN F18 p1) (p2.extN F18) (by omega) pb Hh8.O Hh8.M (by rw [p3]; exact both_plain MM X)⟩
                · exact ⟨tup_extN F68 A4, .of (lst_extN F18 w1) (w2.extN F18) (by omega) wb (hM2.extN F18) M2 (by rw [w3]; exact both_wide (by omega) Hh.M X)⟩
                · exact ⟨tup_extN E8 A5, .of (lst_extN F78 hr2) (tl Ar2 (w2.extN F18)) (by rw [Ar2.len]; omega) (bnd Ar2 wb) (hM2.extN F18) M2 (both_wideArr (by omega) Hh.M X w3 Ar2 fun e he => (wb e he).2.2)⟩
              refine ⟨L, rfl, ⟨_, SqL.of AL⟩, for_list (xs := refs [(a1, (t, o)), (a2, (r1, o)), (a3, (pl, o)), (a4, (wd, o2)), (a5, (r2, o2))]) (fun i σ H' => (∃ y12 y13, σ = [x0, some (.ref d), some (.ref t), some (.int beat), some (.ref kd), some (.ref o), some (.int k), y7, some (.ref o2), some (.ref wd), y10, some (.ref pl), y12, y13, none, none, none, none, none]) ∧ Same J8 H')
                ⟨⟨_, _, rfl⟩, Same.refl _⟩ (fun i σ H' _ h => SqL.of (h.2 _ _ AL)) ?_ ?_⟩
              · rintro i x σ Ha hx ⟨⟨y12, y13, rfl⟩, sa⟩
                obtain ⟨z, hz, rfl⟩ := refs_get hx
                obtain ⟨z1, z2⟩ := rowsOk z (List.mem_of_getElem? hz)
                have Ha8 := Hh8.same sa
                obtain ⟨os', beat', qs', g1, g2, g3, g4, g5, g6, g7, g8⟩ := (z2.extN (.of sa)).ex
                rw [run_map, run_map] at g7 g8
                refine ⟨z.1, _, rfl, SqT.of (sa _ _ z1), rfl, _, _, rfl, _, _, rfl, rfl, ?_⟩
                refine ⟨_, rfl, _, rfl, _, rfl, _, rfl, t, o, z.2.1, z.2.2, beat, beat', qs, qs', es, os', none, rfl, Ha8.ht, Ha8.he, by omega, ebb, Ha8.O, Ha8.M, g1, g2, g3, g4, g5, g6, g7, fun Hb sb => ?_⟩
                refine ⟨_, rfl, ifNY rfl ?_⟩
                have Hb8 := Ha8.same sb
                refine ⟨_, rfl, _, rfl, _, rfl, _, rfl, z.2.1, z.2.2, t, o, beat', beat, qs', qs, os', es, none, rfl, sb _ _ g1, g2.same sb, g3, g4, g5.same sb, g6, Hb8.ht, Hb8.he, by omega, ebb, Hb8.O, Hb8.M, g8, fun Hc sc => ?_⟩
                exact ⟨_, rfl, ifNY rfl ⟨⟨_, _, rfl⟩, (sa.trans sb).trans sc⟩⟩
              · rintro σ J9 ⟨⟨y12, y13, rfl⟩, s9⟩
                have Hh := Hh8.same s9
                refine ⟨_, rfl, d, cs, 3000, rfl, Hh.D, by decide, by decide, fun K1 tk s10 D10 l10 => ?_⟩
                have Hh : Half K K1 d cs t o kd es beat k ps qs := { Hh with D := D10, ht := s10 _ _ Hh.td Hh.ht, he := Hh.he.sbd Hh.D s10, hk := s10 _ _ (fun z => by obtain ⟨_, _, _, _, _, g, _⟩ := Hh.D.ex; have := Hh.hk; rw [z, g] at this; cases this) Hh.hk, O := Hh.O.sbd Hh.D s10, tb := Tabs_sbd Hh.tb Hh.D s10 }
                have evs : ∀ (i : Nat) (z : AEv), es[i]? = some z → (es.map (·.2))[i]? = some z.2 := fun i z hz => by rw [List.getElem?_map, hz]; rfl
                have upS : ∀ (p : Ev → Bool) (i : Nat) (z : AEv), es[i]? = some z → ((es.map (·.2)).take (i + 1)).filter p = ((es.map (·.2)).take i).filter p ++ (if p z.2 = true then [z.2] else []) := fun p i z hz => by
                  rw [take_snoc (evs i z hz), List.filter_append]
                  congr 1
                  by_cases c : p z.2 = true
                  · rw [if_pos c]; exact List.filter_cons_of_pos c
                  · rw [if_neg c]; exact List.filter_cons_of_neg c
                have fullT : (es.map (·.2)).take es.length = es.map (·.2) := by rw [show es.length = (es.map (·.2)).length by rw [List.length_map], List.take_length]
                -- up to the tick
                refine ⟨_, rfl, t, rfl, ⟨_, SqL.of Hh.ht⟩, fun L1 nL1 => ?_⟩
                refine lc_list (xs := refs es) (fun i H' => Same K1 H' ∧ ∃ us : List AEv, H' L1 = some (.lst (refs us)) ∧ TL evV H' us ∧ us.length ≤ i ∧ us.map (·.2) = upTo (tk : Int) ((es.map (·.2)).take i)) ⟨Same.new nL1, [], upd_same, TL.nil, Nat.le_refl _, rfl⟩ (fun i H' _ h => SqL.of (h.1 _ _ Hh.ht)) ?_ ?_
                · rintro i x Ha hx ⟨sa, us, g1, g2, g3, g4⟩
                  obtain ⟨z, hz, rfl⟩ := refs_get hx
                  have zm := List.mem_of_getElem? hz
                  have il := (List.getElem?_eq_some_iff.mp hz).1
                  have hz1 := sa _ _ (Hh.he z zm)
                  have st := upS (fun e => decide (e.1 ≤ (tk : Int))) i z hz
                  refine ⟨rfl, _, rfl, z.1, _, _, _, rfl, rfl, SqT.of hz1, at0, _, rfl, _, _, rfl, rfl, _, rfl, ite2 (fun c => ?_) (fun c => ?_)⟩
                  · rw [if_pos c] at st
                    exact ⟨_, rfl, _, g1, by rw [refs_len]; omega, sa.put nL1, us ++ [z], by rw [upd_same, refs_app]; rfl, (g2.app (x := z) hz1).putL g1, by rw [List.length_append]; exact Nat.succ_le_succ g3, by rw [List.map_append, g4]; exact st.symm⟩
                  · rw [if_neg c, List.append_nil] at st
                    exact ⟨sa, us, g1, g2, by omega, g4.trans st.symm⟩
                rintro K2 ⟨s11, us, u1, u2, u3, u4⟩
                rw [refs_len] at u3 u4
                rw [fullT] at u4
                -- the bell
                refine ⟨_, rfl, by show 5 ≤ sizeLine; omega, fun ab nab => ⟨by show 1 ≤ sizeLine; omega, fun L2 nL2 => ?_⟩⟩
                have hab : upd K2 ab (.tup [.int (tk : Int), .str "on", .int 3, .int 99, .int 127]) ab = some (.tup (evV (bell (tk : Int)))) := upd_same
                have s12 : Same K2 (upd K2 ab (.tup [.int (tk : Int), .str "on", .int 3, .int 99, .int 127])) := Same.new nab
                generalize upd K2 ab (.tup [.int (tk : Int), .str "on", .int 3, .int 99, .int 127]) = K3 at *
                have hL2 : upd K3 L2 (.lst [.ref ab]) L2 = some (.lst [.ref ab]) := upd_same
                have s13 : Same K3 (upd K3 L2 (.lst [.ref ab])) := Same.new nL2
                generalize upd K3 L2 (.lst [.ref ab]) = K4 at *
                refine ⟨L1, L2, refs us, [.ref ab], rfl, rfl, (s12.trans s13) _ _ u1, hL2, by rw [refs_len]; show _ + 1 ≤ sizeLine; omega, fun L3 nL3 => ?_⟩
                have hL3 : upd K4 L3 (.lst (refs us ++ [.ref ab])) L3 = some (.lst (refs (us ++ [(ab, bell (tk : Int))]))) := by rw [upd_same, refs_app]; rfl
                have s14 : Same K4 (upd K4 L3 (.lst (refs us ++ [.ref ab]))) := Same.new nL3
                generalize upd K4 L3 (.lst (refs us ++ [.ref ab])) = K5 at *
                have s25 := (s12.trans s13).trans s14
                have Hh := Hh.same (s11.trans s25)
                have m2 : TL evV K5 (us ++ [(ab, bell (tk : Int))]) := (u2.same s25).app ((s13.trans s14) _ _ hab)
                have ml : (us ++ [(ab, bell (tk : Int))]).length ≤ es.length + 1 := by rw [List.length_append]; exact Nat.succ_le_succ u3
                have mv : (us ++ [(ab, bell (tk : Int))]).map (·.2) = upTo (tk : Int) (es.map (·.2)) ++ [bell (tk : Int)] := by rw [List.map_append, u4]; rfl
                generalize us ++ [(ab, bell (tk : Int))] = ms at *
                -- past the tick
                refine ⟨_, rfl, _, rfl, t, rfl, ⟨_, SqL.of Hh.ht⟩, fun L4 nL4 => ?_⟩
                refine lc_list (xs := refs es) (fun i H' => Same K5 H' ∧ ∃ us : List AEv, H' L4 = some (.lst (refs us)) ∧ TL evV H' us ∧ us.length ≤ i ∧ us.map (·.2) = past (tk : Int) ((es.map (·.2)).take i)) ⟨Same.new nL4, [], upd_same, TL.nil, Nat.le_refl _, rfl⟩ (fun i H' _ h => SqL.of (h.1 _ _ Hh.ht)) ?_ ?_
                · rintro i x Ha hx ⟨sa, us, g1, g2, g3, g4⟩
                  obtain ⟨z, hz, rfl⟩ := refs_get hx
                  have zm := List.mem_of_getElem? hz
                  have il := (List.getElem?_eq_some_iff.mp hz).1
                  have hz1 := sa _ _ (Hh.he z zm)
                  have st := upS (fun e => decide ((tk : Int) < e.1)) i z hz
                  refine ⟨rfl, _, rfl, z.1, _, _, _, rfl, rfl, SqT.of hz1, at0, _, rfl, _, _, rfl, rfl, _, rfl, ite2 (fun c => ?_) (fun c => ?_)⟩
                  · have c : decide ((tk : Int) < z.2.1) = true := c
                    rw [if_pos c] at st
                    exact ⟨_, rfl, _, g1, by rw [refs_len]; omega, sa.put nL4, us ++ [z], by rw [upd_same, refs_app]; rfl, (g2.app (x := z) hz1).putL g1, by rw [List.length_append]; exact Nat.succ_le_succ g3, by rw [List.map_append, g4]; exact st.symm⟩
                  · have c : ¬ decide ((tk : Int) < z.2.1) = true := c
                    rw [if_neg c, List.append_nil] at st
                    exact ⟨sa, us, g1, g2, by omega, g4.trans st.symm⟩
                rintro K6 ⟨s16, ls, v1, v2, v3, v4⟩
                rw [refs_len] at v3 v4
                rw [fullT] at v4
                refine ⟨L3, L4, refs ms, refs ls, rfl, rfl, s16 _ _ hL3, v1, by rw [refs_len, refs_len]; omega, fun L5 nL5 => ?_⟩
                have hL5 : upd K6 L5 (.lst (refs ms ++ refs ls)) L5 = some (.lst (refs (ms ++ ls))) := by rw [upd_same, refs_app]
                have s17 : Same K6 (upd K6 L5 (.lst (refs ms ++ refs ls))) := Same.new nL5
                generalize upd K6 L5 (.lst (refs ms ++ refs ls)) = K7 at *
                have Hh := Hh.same (s16.trans s17)
                have t2 : TL evV K7 (ms ++ ls) := fun x hx => (List.mem_append.mp hx).elim (fun h => (s16.trans s17) _ _ (m2 x h)) (fun h => s17 _ _ (v2 x h))
                have tv : (ms ++ ls).map (·.2) = moreE (tk : Int) (es.map (·.2)) := by rw [List.map_append, mv, v4]; rfl
                have t0 : (0 : Int) ≤ (tk : Int) := by omega
                have tn : (ms ++ ls).length ≤ 40 ∧ True := ⟨by
                  have e1 : (upTo (tk : Int) (es.map (·.2))).length + (past (tk : Int) (es.map (·.2))).length = es.length := by
                    have h := congrArg List.length (split_at X.srt (tk : Int))
                    rw [List.length_append, List.length_map] at h
                    exact h
                  have e2 : (ms ++ ls).length = (upTo (tk : Int) (es.map (·.2))).length + 1 + (past (tk : Int) (es.map (·.2))).length := by
                    have h := congrArg List.length tv
                    rw [List.length_map] at h
                    rw [h]
                    unfold moreE
                    rw [List.length_append, List.length_append]
                    rfl
                  rw [e2]
                  omega, trivial⟩
                have tb : ∀ e ∈ ms ++ ls, 0 ≤ e.2.1 ∧ e.2.1 ≤ 999999 ∧ ThOk e.2.2 := mapped_bd (p := fun e => 0 ≤ e.1 ∧ e.1 ≤ 999999 ∧ ThOk e.2) tv fun x hx => by
                  have old : x ∈ es.map (·.2) → 0 ≤ x.1 ∧ x.1 ≤ 999999 ∧ ThOk x.2 := fun h => by
                    obtain ⟨z, hz, rfl⟩ := List.mem_map.mp h
                    exact ebb z hz
                  rcases List.mem_append.mp hx with hx | hx
                  · rcases List.mem_append.mp hx with hx | hx
                    · exact old (List.mem_filter.mp hx).1
                    · rw [List.mem_singleton.mp hx]
                      exact ⟨t0, by show (tk : Int) ≤ 999999; omega, by show 3 < 16 ∧ 99 < 128 ∧ 127 < 128; decide⟩
                  · exact old (List.mem_filter.mp hx).1
                obtain ⟨n, nle, run⟩ := more_run Hh.M X t0
                rw [List.length_map] at nle
                rw [← tv, run_map, run_map] at run
                refine ⟨_, rfl, _, rfl, _, rfl, _, rfl, t, o, L5, o, beat, beat, qs, qs, es, ms ++ ls, some (momF beat qs (tk : Int), n, n + 1), rfl, Hh.ht, Hh.he, by omega, ebb, Hh.O, Hh.M, hL5, t2, tn.1, tb, Hh.O, Hh.M, run, fun K8 s18 p pm q1 q2 S1 S2 k1 k2 hp hpm hq1 hq2 l1 l2 => ?_⟩
                have Hh := Hh.same s18
                refine ⟨_, rfl, _, rfl, ifNN (by intro z; cases z) ?_⟩
                obtain ⟨mdx, md, mps, hO, _, _⟩ := id Hh.O
                refine ⟨_, rfl, p, _, _, _, rfl, rfl, SqT.of hp, at0, _, rfl, o, mdx, _, rfl, hO, rfl, _, rfl, o, beat, (tk : Int), qs, rfl, t0, by omega, Hh.O, Hh.M, fun K9 pm2 s19 hpm2 => ?_⟩
                refine ⟨pairD (momF beat qs (tk : Int)), pairD (momF beat qs (tk : Int)), dp_pair (s19 _ _ hpm), dp_pair hpm2, pair_shaped _, pair_shaped _, _, rfl, ?_⟩
                rw [pair_eqv, decide_eq_true (rfl : momF beat qs (tk : Int) = momF beat qs (tk : Int))]
                refine iteT ?_
                replace hp := s19 _ _ hp
                replace hq1 := hq1.same s19
                replace hq2 := hq2.same s19
                obtain ⟨i2, d2, hi2⟩ : ∃ (i2 : List (Str × V)) (d2 : Addr), K9 q2 = some (.ins (gA K "Stand") d2 i2) := by
                  obtain ⟨dx, r, tt, c, rk, tk', ck, R, _⟩ := id hq2
                  exact ⟨_, _, R.ins⟩
                refine ⟨_, rfl, p, _, _, _, rfl, rfl, SqT.of hp, atI_nat (j := 2) rfl, q2, d2, i2, rfl, hi2, q2, S2, k2, rfl, hq2, fun K10 s20 n20 => ⟨_, rfl, by omega, by rw [l2]; omega, ?_⟩⟩
                replace hq1 := hq1.same s20
                obtain ⟨i1, d1, hi1⟩ : ∃ (i1 : List (Str × V)) (d1 : Addr), K10 q1 = some (.ins (gA K "Stand") d1 i1) := by
                  obtain ⟨dx, r, tt, c, rk, tk', ck, R, _⟩ := id hq1
                  exact ⟨_, _, R.ins⟩
                refine ⟨_, rfl, p, _, _, _, rfl, rfl, SqT.of (s20 _ _ hp), at1, q1, d1, i1, rfl, hi1, q1, S1, k1, rfl, hq1, fun K11 s21 n21 => ⟨_, rfl, by omega, by rw [l1]; omega, ?_⟩⟩
                refine ⟨_, _, rfl, rfl, rfl, ?_⟩
                rw [l1, l2]
                have e : decide (V.int ((n + 1 : Nat) : Int) = V.int ((n : Int) + 1)) = true := decide_eq_true rfl
                show Q (.bl (decide (V.int ((n + 1 : Nat) : Int) = V.int ((n : Int) + 1)))) K11
                rw [e]
                exact q K11
end
end L2.RK
namespace L2.RK
open PySem PySem.Spec PyProof.Rows L2
theorem law_at {w : World} {K : PySem.W.Frag} {h : Heap} {mg : Str → Option Value} {fx : Addr} (X : K.In h) (G : h.Ns mainGlobals mg) (hfx : mg ("law" : Str) = some (.ref fx)) (c : He.SaysX fa fn ts tf exB w h K) :
    LamX.LawAtS PySem.Challenge.rw_reedtapes_k39_whole_what_sounds_alike w K CX0 7 63 "_law_script" mg fx h := by
  have T : Txt K mg w := txt_of X G c
  obtain ⟨fd, F⟩ := T.fLaw
  have e := hfx.symm.trans T.gLaw
  cases e
  have b := FunD.bindsA (ps := ["_law_script"]) F fun _ _ _ _ _ _ us hl => match us, hl with | [_], _ => rfl
  refine ⟨fd, [thrP K], spLaw K, fun p hp => ?_, fun p hp => ?_, fun p hp => ?_, fun s u => b s [u] rfl, fun H a ns _ _ hT hS => ⟨a, ns, rfl, hS, fun p hp => ?_, fun _ => rfl⟩, fun base _ _ hB => ok_law T (hB _ (List.mem_singleton.mpr rfl)) F⟩
  · rw [List.mem_singleton.mp hp]; exact c.empty ("thrifty", none) (List.mem_singleton.mpr rfl)
  · rw [List.mem_singleton.mp hp]; exact c.out ("thrifty", none) (List.mem_singleton.mpr rfl)
  · rw [List.mem_singleton.mp hp]; exact PySem.W.codeHd_of_K X (c.hd ("thrifty", none) (List.mem_singleton.mpr rfl))
  · rw [List.mem_singleton.mp hp]; exact LamX.TabS.nil (hT _ (List.mem_singleton.mpr rfl))
end L2.RK
open PySem PySem.W PySem.Calls PyProof.Rows
theorem PySem.Challenge.cw_reedtapes_k39_whole_what_sounds_alike_holds : PySem.Challenge.rw_reedtapes_k39_whole_what_sounds_alike.Holds := by
  w_on; o_law
  refine HandSHeadRun.head_any (r := OpenLaw.row PySem.Challenge.rw_reedtapes_k39_whole_what_sounds_alike) (q := view (OpenLaw.row PySem.Challenge.rw_reedtapes_k39_whole_what_sounds_alike).prog [54]) (H := L2.RK.hk) (ob := L2.RK.ob) (M := 4000) (loose := L2.RK.names.filter (· != "law")) (d := HandSHeadRun.topDef (OpenLaw.row PySem.Challenge.rw_reedtapes_k39_whole_what_sounds_alike).prog 54) (kwd := []) L2.RK.ob_eq
    (by kernel_rfl) (fun s => by kernel_rfl) (PySem.W.byRow2 "special-get-raises" L2.RK.runF L2.RK.runT) (by kernel_rfl) (by kernel_rfl) (by kernel_rfl) (by rfl) (by first | assumption | decide +kernel) (by decide +kernel) ⟨rfl, rfl, rfl, rfl, rfl, by decide +kernel⟩ ?hw ?hc
  case hw => w_witness2
  case hc =>
    refine LamX.walk_ofTsE (l := PySem.Challenge.rw_reedtapes_k39_whole_what_sounds_alike) (n := 63) (k := 7) (x := "_law_script") (CX := fun _ => L2.CX0) rfl (by decide) (by kernel_rfl) ⟨rfl, by decide, by decide⟩ ?F (fun _ _ _ _ _ z => z)
    intro w mg fx h Y G hmg0
    obtain ⟨K, KX, c⟩ := Y
    have hmg : mg ("law" : PySem.Str) = some (.ref fx) := by
      have e : (HandSHeadRun.topDef (OpenLaw.row PySem.Challenge.rw_reedtapes_k39_whole_what_sounds_alike).prog 54).name = ("law" : PySem.Str) := by kernel_rfl
      rw [← e]
      exact hmg0
    exact ⟨K, KX, L2.RK.law_at KX G hmg c⟩
