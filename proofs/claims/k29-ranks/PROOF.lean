import PyProof.Rows.All
import Wide.All
import OpenK.AllK
import Wide.FinOn
import KE.KStateDown
import HandS.ForMost
import HandS.ForExc
import HandS.Defaults
import HandS.Head0
import HandS.Head1
import HandS.Head2
import HandS.HeadEnd
import HandS.HeadHook1
import HandS.HeadHook2
import HandS.More
import HandS.Conv
import HandS.SetKeys
import HandS.DictComp
import HandS.IsInst
import HandS.SetFor
import HandS.Walk
import HandS.ClsMeth
import PySem.Challenge.RW_castoff_k29_ranks
set_option Elab.async false
set_option linter.all false
set_option maxRecDepth 100000
set_option maxHeartbeats 0
/-! The text by places; the facts of the top by names; the run of the top. Printed by gen_head.py. -/
namespace K29
open PySem PySem.Spec PyProof.Rows L2
def top (i : Nat) : Stmt := PySem.Challenge.pw_castoff_k29_ranks.main.body.getD i (.Pass ⟨0, 0, 0, 0⟩)
abbrev sIsWhole : Stmt := top 10
abbrev sNeedPlaces : Stmt := top 13
abbrev sCheckAsks : Stmt := top 16
abbrev sIsName : Stmt := top 27
abbrev sLawCell : Stmt := top 30
abbrev sLawStream : Stmt := top 31
abbrev sLawNames : Stmt := top 32
abbrev sLawRows : Stmt := top 33
abbrev sLawPlaces : Stmt := top 34
abbrev sLawAsks : Stmt := top 35
abbrev sLawRooms : Stmt := top 36
abbrev sLawNext : Stmt := top 37
abbrev sLawDue : Stmt := top 38
abbrev sLawRank : Stmt := top 39
abbrev sLawAllRanks : Stmt := top 40
abbrev sLawCounted : Stmt := top 41
abbrev sLawLeast : Stmt := top 42
abbrev sLawLed : Stmt := top 43
abbrev sLawMade : Stmt := top 44
abbrev sLaw : Stmt := top 45
abbrev sRule_Init : Stmt := inClass (top 18) 0
abbrev sRule_Asked : Stmt := inClass (top 18) 1
abbrev sRule_Choice : Stmt := inClass (top 18) 2
abbrev sRule_Gone : Stmt := inClass (top 18) 3
abbrev sRule_Came : Stmt := inClass (top 18) 4
abbrev sRanked_Init : Stmt := inClass (top 19) 0
abbrev sRanked_Asked : Stmt := inClass (top 19) 1
abbrev sRanked_Rank : Stmt := inClass (top 19) 2
abbrev sRanked_Choice : Stmt := inClass (top 19) 3
abbrev sFirst_Init : Stmt := inClass (top 21) 0
abbrev sFirst_Came : Stmt := inClass (top 21) 1
abbrev sFirst_Rank : Stmt := inClass (top 21) 2
abbrev sHalving_Init : Stmt := inClass (top 22) 0
abbrev sHalving_Asked : Stmt := inClass (top 22) 1
abbrev sHalving_Rank : Stmt := inClass (top 22) 2
abbrev sHalving_Counts : Stmt := inClass (top 22) 3
abbrev sFarthest_Init : Stmt := inClass (top 23) 0
abbrev sFarthest_Coming : Stmt := inClass (top 23) 1
abbrev sFarthest_Rank : Stmt := inClass (top 23) 2
abbrev sStock_Init : Stmt := inClass (top 28) 0
abbrev sStock_Has : Stmt := inClass (top 28) 2
abbrev sStock_RoomOf : Stmt := inClass (top 28) 5
def dIsWhole : He.DefD := ⟨("is_whole", none), "is_whole", "is_whole", defArgs sIsWhole, defBody sIsWhole, defScope sIsWhole, [], []⟩
def dNeedPlaces : He.DefD := ⟨("need_places", none), "need_places", "need_places", defArgs sNeedPlaces, defBody sNeedPlaces, defScope sNeedPlaces, [], []⟩
def dCheckAsks : He.DefD := ⟨("check_asks", none), "check_asks", "check_asks", defArgs sCheckAsks, defBody sCheckAsks, defScope sCheckAsks, [], []⟩
def dIsName : He.DefD := ⟨("is_name", none), "is_name", "is_name", defArgs sIsName, defBody sIsName, defScope sIsName, [], []⟩
def dLawCell : He.DefD := ⟨("_law_cell", none), "_law_cell", "_law_cell", defArgs sLawCell, defBody sLawCell, defScope sLawCell, [], []⟩
def dLawStream : He.DefD := ⟨("_law_stream", none), "_law_stream", "_law_stream", defArgs sLawStream, defBody sLawStream, defScope sLawStream, [], []⟩
def dLawNames : He.DefD := ⟨("_law_names", none), "_law_names", "_law_names", defArgs sLawNames, defBody sLawNames, defScope sLawNames, [], []⟩
def dLawRows : He.DefD := ⟨("_law_rows", none), "_law_rows", "_law_rows", defArgs sLawRows, defBody sLawRows, defScope sLawRows, [], []⟩
def dLawPlaces : He.DefD := ⟨("_law_places", none), "_law_places", "_law_places", defArgs sLawPlaces, defBody sLawPlaces, defScope sLawPlaces, [], []⟩
def dLawAsks : He.DefD := ⟨("_law_asks", none), "_law_asks", "_law_asks", defArgs sLawAsks, defBody sLawAsks, defScope sLawAsks, [], []⟩
def dLawRooms : He.DefD := ⟨("_law_rooms", none), "_law_rooms", "_law_rooms", defArgs sLawRooms, defBody sLawRooms, defScope sLawRooms, [], []⟩
def dLawNext : He.DefD := ⟨("_law_next", none), "_law_next", "_law_next", defArgs sLawNext, defBody sLawNext, defScope sLawNext, [], []⟩
def dLawDue : He.DefD := ⟨("_law_due", none), "_law_due", "_law_due", defArgs sLawDue, defBody sLawDue, defScope sLawDue, [], []⟩
def dLawRank : He.DefD := ⟨("_law_rank", none), "_law_rank", "_law_rank", defArgs sLawRank, defBody sLawRank, defScope sLawRank, [], []⟩
def dLawAllRanks : He.DefD := ⟨("_law_all_ranks", none), "_law_all_ranks", "_law_all_ranks", defArgs sLawAllRanks, defBody sLawAllRanks, defScope sLawAllRanks, [], []⟩
def dLawCounted : He.DefD := ⟨("_law_counted", none), "_law_counted", "_law_counted", defArgs sLawCounted, defBody sLawCounted, defScope sLawCounted, [], []⟩
def dLawLeast : He.DefD := ⟨("_law_least", none), "_law_least", "_law_least", defArgs sLawLeast, defBody sLawLeast, defScope sLawLeast, [], []⟩
def dLawLed : He.DefD := ⟨("_law_led", none), "_law_led", "_law_led", defArgs sLawLed, defBody sLawLed, defScope sLawLed, [], []⟩
def dLawMade : He.DefD := ⟨("_law_made", none), "_law_made", "_law_made", defArgs sLawMade, defBody sLawMade, defScope sLawMade, [], []⟩
def dLaw : He.DefD := ⟨("law", none), "law", "law", defArgs sLaw, defBody sLaw, defScope sLaw, [], []⟩
def dRule_Init : He.DefD := ⟨("Rule", some "__init__"), "__init__", "Rule.__init__", defArgs sRule_Init, defBody sRule_Init, defScope sRule_Init, [], []⟩
def dRanked_Init : He.DefD := ⟨("Ranked", some "__init__"), "__init__", "Ranked.__init__", defArgs sRanked_Init, defBody sRanked_Init, defScope sRanked_Init, [], []⟩
def dRanked_Asked : He.DefD := ⟨("Ranked", some "asked"), "asked", "Ranked.asked", defArgs sRanked_Asked, defBody sRanked_Asked, defScope sRanked_Asked, [], []⟩
def dRanked_Rank : He.DefD := ⟨("Ranked", some "rank"), "rank", "Ranked.rank", defArgs sRanked_Rank, defBody sRanked_Rank, defScope sRanked_Rank, [], []⟩
def dRanked_Choice : He.DefD := ⟨("Ranked", some "choice"), "choice", "Ranked.choice", defArgs sRanked_Choice, defBody sRanked_Choice, defScope sRanked_Choice, [], []⟩
def dRanked_Gone : He.DefD := ⟨("Ranked", some "gone"), "gone", "Rule.gone", defArgs sRule_Gone, defBody sRule_Gone, defScope sRule_Gone, [], []⟩
def dRanked_Came : He.DefD := ⟨("Ranked", some "came"), "came", "Rule.came", defArgs sRule_Came, defBody sRule_Came, defScope sRule_Came, [], []⟩
def dOldest_Init : He.DefD := ⟨("Oldest", some "__init__"), "__init__", "Ranked.__init__", defArgs sRanked_Init, defBody sRanked_Init, defScope sRanked_Init, [], []⟩
def dOldest_Asked : He.DefD := ⟨("Oldest", some "asked"), "asked", "Ranked.asked", defArgs sRanked_Asked, defBody sRanked_Asked, defScope sRanked_Asked, [], []⟩
def dOldest_Rank : He.DefD := ⟨("Oldest", some "rank"), "rank", "Ranked.rank", defArgs sRanked_Rank, defBody sRanked_Rank, defScope sRanked_Rank, [], []⟩
def dOldest_Choice : He.DefD := ⟨("Oldest", some "choice"), "choice", "Ranked.choice", defArgs sRanked_Choice, defBody sRanked_Choice, defScope sRanked_Choice, [], []⟩
def dOldest_Gone : He.DefD := ⟨("Oldest", some "gone"), "gone", "Rule.gone", defArgs sRule_Gone, defBody sRule_Gone, defScope sRule_Gone, [], []⟩
def dOldest_Came : He.DefD := ⟨("Oldest", some "came"), "came", "Rule.came", defArgs sRule_Came, defBody sRule_Came, defScope sRule_Came, [], []⟩
def dFirst_Init : He.DefD := ⟨("First", some "__init__"), "__init__", "First.__init__", defArgs sFirst_Init, defBody sFirst_Init, defScope sFirst_Init, [], []⟩
def dFirst_Asked : He.DefD := ⟨("First", some "asked"), "asked", "Ranked.asked", defArgs sRanked_Asked, defBody sRanked_Asked, defScope sRanked_Asked, [], []⟩
def dFirst_Rank : He.DefD := ⟨("First", some "rank"), "rank", "First.rank", defArgs sFirst_Rank, defBody sFirst_Rank, defScope sFirst_Rank, [], []⟩
def dFirst_Choice : He.DefD := ⟨("First", some "choice"), "choice", "Ranked.choice", defArgs sRanked_Choice, defBody sRanked_Choice, defScope sRanked_Choice, [], []⟩
def dFirst_Gone : He.DefD := ⟨("First", some "gone"), "gone", "Rule.gone", defArgs sRule_Gone, defBody sRule_Gone, defScope sRule_Gone, [], []⟩
def dFirst_Came : He.DefD := ⟨("First", some "came"), "came", "First.came", defArgs sFirst_Came, defBody sFirst_Came, defScope sFirst_Came, [], []⟩
def dHalving_Init : He.DefD := ⟨("Halving", some "__init__"), "__init__", "Halving.__init__", defArgs sHalving_Init, defBody sHalving_Init, defScope sHalving_Init, [.int 8], []⟩
def dHalving_Asked : He.DefD := ⟨("Halving", some "asked"), "asked", "Halving.asked", defArgs sHalving_Asked, defBody sHalving_Asked, defScope sHalving_Asked, [], []⟩
def dHalving_Rank : He.DefD := ⟨("Halving", some "rank"), "rank", "Halving.rank", defArgs sHalving_Rank, defBody sHalving_Rank, defScope sHalving_Rank, [], []⟩
def dHalving_Choice : He.DefD := ⟨("Halving", some "choice"), "choice", "Ranked.choice", defArgs sRanked_Choice, defBody sRanked_Choice, defScope sRanked_Choice, [], []⟩
def dHalving_Gone : He.DefD := ⟨("Halving", some "gone"), "gone", "Rule.gone", defArgs sRule_Gone, defBody sRule_Gone, defScope sRule_Gone, [], []⟩
def dHalving_Came : He.DefD := ⟨("Halving", some "came"), "came", "Rule.came", defArgs sRule_Came, defBody sRule_Came, defScope sRule_Came, [], []⟩
def dFarthest_Init : He.DefD := ⟨("Farthest", some "__init__"), "__init__", "Farthest.__init__", defArgs sFarthest_Init, defBody sFarthest_Init, defScope sFarthest_Init, [], []⟩
def dFarthest_Asked : He.DefD := ⟨("Farthest", some "asked"), "asked", "Ranked.asked", defArgs sRanked_Asked, defBody sRanked_Asked, defScope sRanked_Asked, [], []⟩
def dFarthest_Rank : He.DefD := ⟨("Farthest", some "rank"), "rank", "Farthest.rank", defArgs sFarthest_Rank, defBody sFarthest_Rank, defScope sFarthest_Rank, [], []⟩
def dFarthest_Choice : He.DefD := ⟨("Farthest", some "choice"), "choice", "Ranked.choice", defArgs sRanked_Choice, defBody sRanked_Choice, defScope sRanked_Choice, [], []⟩
def dFarthest_Gone : He.DefD := ⟨("Farthest", some "gone"), "gone", "Rule.gone", defArgs sRule_Gone, defBody sRule_Gone, defScope sRule_Gone, [], []⟩
def dFarthest_Came : He.DefD := ⟨("Farthest", some "came"), "came", "Rule.came", defArgs sRule_Came, defBody sRule_Came, defScope sRule_Came, [], []⟩
def dHalving_Counts : He.DefD := ⟨("Halving", some "counts"), "counts", "Halving.counts", defArgs sHalving_Counts, defBody sHalving_Counts, defScope sHalving_Counts, [], []⟩
def dFarthest_Coming : He.DefD := ⟨("Farthest", some "coming"), "coming", "Farthest.coming", defArgs sFarthest_Coming, defBody sFarthest_Coming, defScope sFarthest_Coming, [], []⟩
def dStock_Init : He.DefD := ⟨("Stock", some "__init__"), "__init__", "Stock.__init__", defArgs sStock_Init, defBody sStock_Init, defScope sStock_Init, [], []⟩
def dStock_Has : He.DefD := ⟨("Stock", some "has"), "has", "Stock.has", defArgs sStock_Has, defBody sStock_Has, defScope sStock_Has, [], []⟩
def dStock_RoomOf : He.DefD := ⟨("Stock", some "room_of"), "room_of", "Stock.room_of", defArgs sStock_RoomOf, defBody sStock_RoomOf, defScope sStock_RoomOf, [], []⟩
def fn : List He.DefD := [dIsWhole, dNeedPlaces, dCheckAsks, dIsName, dLawCell, dLawStream, dLawNames, dLawRows, dLawPlaces, dLawAsks, dLawRooms, dLawNext, dLawDue, dLawRank, dLawAllRanks, dLawCounted, dLawLeast, dLawLed, dLawMade, dLaw, dRule_Init, dRanked_Init, dRanked_Asked, dRanked_Rank, dRanked_Choice, dRanked_Gone, dRanked_Came, dOldest_Init, dOldest_Asked, dOldest_Rank, dOldest_Choice, dOldest_Gone, dOldest_Came, dFirst_Init, dFirst_Asked, dFirst_Rank, dFirst_Choice, dFirst_Gone, dFirst_Came, dHalving_Init, dHalving_Asked, dHalving_Rank, dHalving_Choice, dHalving_Gone, dHalving_Came, dFarthest_Init, dFarthest_Asked, dFarthest_Rank, dFarthest_Choice, dFarthest_Gone, dFarthest_Came, dHalving_Counts, dFarthest_Coming, dStock_Init, dStock_Has, dStock_RoomOf]
def fa0 : List He.Fa := [.glo "is_whole", .glo "need_places", .glo "check_asks", .glo "is_name", .glo "_law_cell", .glo "_law_stream", .glo "_law_names", .glo "_law_rows", .glo "_law_places", .glo "_law_asks", .glo "_law_rooms", .glo "_law_next", .glo "_law_due", .glo "_law_rank", .glo "_law_all_ranks", .glo "_law_counted", .glo "_law_least", .glo "_law_led", .glo "_law_made", .glo "law", .glo "Rule", .glo "Ranked", .glo "Oldest", .glo "First", .glo "Halving", .glo "Farthest", .glo "Stock", .free "isinstance", .free "int", .free "bool"]
def fa1 : List He.Fa := [.free "str", .free "len", .free "enumerate", .free "list", .free "dict", .free "range", .free "max", .free "sum", .free "tuple", .int "MOST_PLACES" 1000000, .int "MOST_ASKS" 200, .str "LETTERS" "abcdefghijklmnopqrstuvwxyz", .str "FIGURES" "0123456789", .cls "Ranked", .mkr "Ranked", .cls "Oldest", .mkr "Oldest", .cls "First", .mkr "First", .cls "Halving", .mkr "Halving", .cls "Farthest", .mkr "Farthest", .cls "Stock", .mkr "Stock", .meth "Ranked" "asked", .meth "Ranked" "rank", .meth "Ranked" "choice", .meth "Ranked" "gone", .meth "Ranked" "came"]
def fa2 : List He.Fa := [.meth "Oldest" "asked", .meth "Oldest" "rank", .meth "Oldest" "choice", .meth "Oldest" "gone", .meth "Oldest" "came", .meth "First" "asked", .meth "First" "rank", .meth "First" "choice", .meth "First" "gone", .meth "First" "came", .meth "Halving" "asked", .meth "Halving" "rank", .meth "Halving" "choice", .meth "Halving" "gone", .meth "Halving" "came", .meth "Farthest" "asked", .meth "Farthest" "rank", .meth "Farthest" "choice", .meth "Farthest" "gone", .meth "Farthest" "came", .meth "Halving" "counts", .meth "Farthest" "coming", .meth "Stock" "has", .meth "Stock" "room_of", .noat "Ranked" "stock", .noat "Ranked" "places", .noat "Ranked" "now", .noat "Ranked" "last", .noat "Oldest" "stock", .noat "Oldest" "places"]
def fa3 : List He.Fa := [.noat "Oldest" "now", .noat "Oldest" "last", .noat "First" "stock", .noat "First" "places", .noat "First" "now", .noat "First" "last", .noat "Halving" "stock", .noat "Halving" "places", .noat "Halving" "now", .noat "Halving" "last", .noat "Farthest" "stock", .noat "Farthest" "places", .noat "Farthest" "now", .noat "Farthest" "last", .noat "First" "when", .noat "Halving" "turn", .noat "Halving" "tally", .noat "Farthest" "never", .noat "Farthest" "times", .noat "Stock" "costs", .noat "Stock" "rooms"]
def fa : List He.Fa := fa0 ++ fa1 ++ fa2 ++ fa3
/-- a class's own def read off the class: C.__init__ -/
def clsB (K : PySem.W.Frag) (x : Str) (m : Str) : Bool := PySem.W.readsIn K (He.ga K x) (.type "type") && (He.eqO (PySem.W.specialIn K (.ref (He.ga K x)) "__getattribute__") (some (some (.builtin "type.__getattribute__"))) &&
  (match PySem.W.findCls K (.ref (He.ga K x)) (.type "type") m with
    | some (.val (.ref a)) => decide (a = He.ma K (He.ga K x) m)
    | _ => false))
def exB (K : PySem.W.Frag) : Bool := clsB K "Rule" "__init__" && clsB K "Ranked" "__init__"
def frK (g : Addr → Option Obj) : PySem.W.Frag := He.frG g (cStatics :: He.asD g 6)
def obsK (K : PySem.W.Frag) : He.AlD × Bool := (He.obsD fa fn K, exB K)
abbrev hk : PySem.W.Hook where
  α := He.AlD × Bool
  obs := fun s => obsK (frK s.heap.get?)
  val := fun _ => (He.valD fn, true)
  says := fun _ h => ∃ K : PySem.W.Frag, K.In h ∧ He.SaysD fa fn K ∧ exB K = true
  of := fun _ _ e => ⟨_, He.frG_in, congrArg (fun z : He.AlD × Bool => z.1) e, congrArg (fun z : He.AlD × Bool => z.2) e⟩
  keeps := fun _ _ _ says more => says.elim fun K hs => ⟨K, PySem.W.Frag.In.keeps hs.1 more, hs.2⟩
abbrev R : PySem.W.OpenRow := PySem.W.OpenLaw.row PySem.Challenge.rw_castoff_k29_ranks
def ob (s : PySem.W.SharedT) : He.AlD × Bool := obsK (frK (HandSHeadRun.getT s))
theorem ob_eq (s : PySem.W.SharedT) : ob s = hk.obs s.abs := by
  have e : HandSHeadRun.getT s = s.abs.heap.get? := funext (HandSHeadRun.getT_eq s)
  show obsK (frK (HandSHeadRun.getT s)) = obsK (frK s.abs.heap.get?)
  rw [e]
def loose1 : List Str := ["_wall", "CastError", "NoName", "NoNumber", "Twice", "TooMany", "Unknown", "TooWide", "is_whole", "MOST_PLACES", "need_places", "MOST_ASKS", "check_asks", "Rule", "Ranked", "Oldest", "First", "Halving", "Farthest", "LETTERS", "FIGURES", "is_name", "Stock"]
def loose2 : List Str := ["_law_cell", "_law_stream", "_law_names", "_law_rows", "_law_places", "_law_asks", "_law_rooms", "_law_next", "_law_due", "_law_rank", "_law_all_ranks", "_law_counted", "_law_least", "_law_led", "_law_made"]
def loose : List Str := loose1 ++ loose2
theorem run (w : World) : HandSHeadRun.RunEq R (PySem.W.view R.prog [45]) hk ob 20000 loose w := by
  intro os
  kernel_rfl
end K29
/-! One lemma a fact of the top; calls in short. Printed by gen_txt.py. -/
namespace K29
open PySem PySem.Spec PyProof.Rows L2
structure Txt (K : PySem.W.Frag) (mg : Str → Option Value) : Prop where
  says : He.SaysD fa fn K
  ex : exB K = true
  hp : ∃ h : Heap, K.In h ∧ h.Ns mainGlobals mg
section
variable {K : PySem.W.Frag} {mg : Str → Option Value}
theorem Txt.fact (T : Txt K mg) (i : Nat) {f : He.Fa} (h : fa[i]? = some f) : f.ok K = true := T.says.fact i h
theorem Txt.glo (T : Txt K mg) (i : Nat) {x : Str} (h : fa[i]? = some (.glo x)) : mg x = some (.ref (He.ga K x)) :=
  let ⟨_, X, G⟩ := T.hp
  He.glo_ok X G (T.fact i h)
theorem Txt.free (T : Txt K mg) (i : Nat) {x : Str} (h : fa[i]? = some (.free x)) : mg x = none :=
  let ⟨_, X, G⟩ := T.hp
  He.free_ok X G (T.fact i h)
theorem Txt.int (T : Txt K mg) (i : Nat) {x : Str} {n : Int} (h : fa[i]? = some (.int x n)) : ∃ u, mg x = some u ∧ RelV (.int n) u :=
  let ⟨_, X, G⟩ := T.hp
  let ⟨t, e⟩ := He.int_ok X G (T.fact i h)
  ⟨_, e, t, rfl⟩
theorem Txt.str (T : Txt K mg) (i : Nat) {x z : Str} (h : fa[i]? = some (.str x z)) : ∃ u, mg x = some u ∧ RelV (.str z) u :=
  let ⟨_, X, G⟩ := T.hp
  let ⟨t, e⟩ := He.str_ok X G (T.fact i h)
  ⟨_, e, t, rfl⟩

theorem Txt.g_is_whole (T : Txt K mg) : mg "is_whole" = some (.ref (He.ga K "is_whole")) := T.glo 0 (by rfl)
theorem Txt.g_need_places (T : Txt K mg) : mg "need_places" = some (.ref (He.ga K "need_places")) := T.glo 1 (by rfl)
theorem Txt.g_check_asks (T : Txt K mg) : mg "check_asks" = some (.ref (He.ga K "check_asks")) := T.glo 2 (by rfl)
theorem Txt.g_is_name (T : Txt K mg) : mg "is_name" = some (.ref (He.ga K "is_name")) := T.glo 3 (by rfl)
theorem Txt.g_law_cell (T : Txt K mg) : mg "_law_cell" = some (.ref (He.ga K "_law_cell")) := T.glo 4 (by rfl)
theorem Txt.g_law_stream (T : Txt K mg) : mg "_law_stream" = some (.ref (He.ga K "_law_stream")) := T.glo 5 (by rfl)
theorem Txt.g_law_names (T : Txt K mg) : mg "_law_names" = some (.ref (He.ga K "_law_names")) := T.glo 6 (by rfl)
theorem Txt.g_law_rows (T : Txt K mg) : mg "_law_rows" = some (.ref (He.ga K "_law_rows")) := T.glo 7 (by rfl)
theorem Txt.g_law_places (T : Txt K mg) : mg "_law_places" = some (.ref (He.ga K "_law_places")) := T.glo 8 (by rfl)
theorem Txt.g_law_asks (T : Txt K mg) : mg "_law_asks" = some (.ref (He.ga K "_law_asks")) := T.glo 9 (by rfl)
theorem Txt.g_law_rooms (T : Txt K mg) : mg "_law_rooms" = some (.ref (He.ga K "_law_rooms")) := T.glo 10 (by rfl)
theorem Txt.g_law_next (T : Txt K mg) : mg "_law_next" = some (.ref (He.ga K "_law_next")) := T.glo 11 (by rfl)
theorem Txt.g_law_due (T : Txt K mg) : mg "_law_due" = some (.ref (He.ga K "_law_due")) := T.glo 12 (by rfl)
theorem Txt.g_law_rank (T : Txt K mg) : mg "_law_rank" = some (.ref (He.ga K "_law_rank")) := T.glo 13 (by rfl)
theorem Txt.g_law_all_ranks (T : Txt K mg) : mg "_law_all_ranks" = some (.ref (He.ga K "_law_all_ranks")) := T.glo 14 (by rfl)
theorem Txt.g_law_counted (T : Txt K mg) : mg "_law_counted" = some (.ref (He.ga K "_law_counted")) := T.glo 15 (by rfl)
theorem Txt.g_law_least (T : Txt K mg) : mg "_law_least" = some (.ref (He.ga K "_law_least")) := T.glo 16 (by rfl)
theorem Txt.g_law_led (T : Txt K mg) : mg "_law_led" = some (.ref (He.ga K "_law_led")) := T.glo 17 (by rfl)
theorem Txt.g_law_made (T : Txt K mg) : mg "_law_made" = some (.ref (He.ga K "_law_made")) := T.glo 18 (by rfl)
theorem Txt.g_law (T : Txt K mg) : mg "law" = some (.ref (He.ga K "law")) := T.glo 19 (by rfl)
theorem Txt.g_Rule (T : Txt K mg) : mg "Rule" = some (.ref (He.ga K "Rule")) := T.glo 20 (by rfl)
theorem Txt.g_Ranked (T : Txt K mg) : mg "Ranked" = some (.ref (He.ga K "Ranked")) := T.glo 21 (by rfl)
theorem Txt.g_Oldest (T : Txt K mg) : mg "Oldest" = some (.ref (He.ga K "Oldest")) := T.glo 22 (by rfl)
theorem Txt.g_First (T : Txt K mg) : mg "First" = some (.ref (He.ga K "First")) := T.glo 23 (by rfl)
theorem Txt.g_Halving (T : Txt K mg) : mg "Halving" = some (.ref (He.ga K "Halving")) := T.glo 24 (by rfl)
theorem Txt.g_Farthest (T : Txt K mg) : mg "Farthest" = some (.ref (He.ga K "Farthest")) := T.glo 25 (by rfl)
theorem Txt.g_Stock (T : Txt K mg) : mg "Stock" = some (.ref (He.ga K "Stock")) := T.glo 26 (by rfl)
theorem Txt.z_isinstance (T : Txt K mg) : mg "isinstance" = none := T.free 27 (by rfl)
theorem Txt.z_int (T : Txt K mg) : mg "int" = none := T.free 28 (by rfl)
theorem Txt.z_bool (T : Txt K mg) : mg "bool" = none := T.free 29 (by rfl)
theorem Txt.z_str (T : Txt K mg) : mg "str" = none := T.free 30 (by rfl)
theorem Txt.z_len (T : Txt K mg) : mg "len" = none := T.free 31 (by rfl)
theorem Txt.z_enumerate (T : Txt K mg) : mg "enumerate" = none := T.free 32 (by rfl)
theorem Txt.z_list (T : Txt K mg) : mg "list" = none := T.free 33 (by rfl)
theorem Txt.z_dict (T : Txt K mg) : mg "dict" = none := T.free 34 (by rfl)
theorem Txt.z_range (T : Txt K mg) : mg "range" = none := T.free 35 (by rfl)
theorem Txt.z_max (T : Txt K mg) : mg "max" = none := T.free 36 (by rfl)
theorem Txt.z_sum (T : Txt K mg) : mg "sum" = none := T.free 37 (by rfl)
theorem Txt.z_tuple (T : Txt K mg) : mg "tuple" = none := T.free 38 (by rfl)
theorem Txt.i_MOST_PLACES (T : Txt K mg) : ∃ u, mg "MOST_PLACES" = some u ∧ RelV (.int 1000000) u := T.int 39 (by rfl)
theorem Txt.i_MOST_ASKS (T : Txt K mg) : ∃ u, mg "MOST_ASKS" = some u ∧ RelV (.int 200) u := T.int 40 (by rfl)
theorem Txt.s_LETTERS (T : Txt K mg) : ∃ u, mg "LETTERS" = some u ∧ RelV (.str "abcdefghijklmnopqrstuvwxyz") u := T.str 41 (by rfl)
theorem Txt.s_FIGURES (T : Txt K mg) : ∃ u, mg "FIGURES" = some u ∧ RelV (.str "0123456789") u := T.str 42 (by rfl)
theorem Txt.c_Ranked (T : Txt K mg) : Cls K (He.ga K "Ranked") := He.cls_ok (T.fact 43 (by rfl))
theorem Txt.m_Ranked (T : Txt K mg) : Mk K (He.ga K "Ranked") (He.ma K (He.ga K "Ranked") "__init__") := He.mkr_ok (T.fact 44 (by rfl))
theorem Txt.c_Oldest (T : Txt K mg) : Cls K (He.ga K "Oldest") := He.cls_ok (T.fact 45 (by rfl))
theorem Txt.m_Oldest (T : Txt K mg) : Mk K (He.ga K "Oldest") (He.ma K (He.ga K "Oldest") "__init__") := He.mkr_ok (T.fact 46 (by rfl))
theorem Txt.c_First (T : Txt K mg) : Cls K (He.ga K "First") := He.cls_ok (T.fact 47 (by rfl))
theorem Txt.m_First (T : Txt K mg) : Mk K (He.ga K "First") (He.ma K (He.ga K "First") "__init__") := He.mkr_ok (T.fact 48 (by rfl))
theorem Txt.c_Halving (T : Txt K mg) : Cls K (He.ga K "Halving") := He.cls_ok (T.fact 49 (by rfl))
theorem Txt.m_Halving (T : Txt K mg) : Mk K (He.ga K "Halving") (He.ma K (He.ga K "Halving") "__init__") := He.mkr_ok (T.fact 50 (by rfl))
theorem Txt.c_Farthest (T : Txt K mg) : Cls K (He.ga K "Farthest") := He.cls_ok (T.fact 51 (by rfl))
theorem Txt.m_Farthest (T : Txt K mg) : Mk K (He.ga K "Farthest") (He.ma K (He.ga K "Farthest") "__init__") := He.mkr_ok (T.fact 52 (by rfl))
theorem Txt.c_Stock (T : Txt K mg) : Cls K (He.ga K "Stock") := He.cls_ok (T.fact 53 (by rfl))
theorem Txt.m_Stock (T : Txt K mg) : Mk K (He.ga K "Stock") (He.ma K (He.ga K "Stock") "__init__") := He.mkr_ok (T.fact 54 (by rfl))
theorem Txt.me_Ranked_asked (T : Txt K mg) : Meth K (He.ga K "Ranked") "asked" (He.ma K (He.ga K "Ranked") "asked") := He.meth_ok (T.fact 55 (by rfl))
theorem Txt.me_Ranked_rank (T : Txt K mg) : Meth K (He.ga K "Ranked") "rank" (He.ma K (He.ga K "Ranked") "rank") := He.meth_ok (T.fact 56 (by rfl))
theorem Txt.me_Ranked_choice (T : Txt K mg) : Meth K (He.ga K "Ranked") "choice" (He.ma K (He.ga K "Ranked") "choice") := He.meth_ok (T.fact 57 (by rfl))
theorem Txt.me_Ranked_gone (T : Txt K mg) : Meth K (He.ga K "Ranked") "gone" (He.ma K (He.ga K "Ranked") "gone") := He.meth_ok (T.fact 58 (by rfl))
theorem Txt.me_Ranked_came (T : Txt K mg) : Meth K (He.ga K "Ranked") "came" (He.ma K (He.ga K "Ranked") "came") := He.meth_ok (T.fact 59 (by rfl))
theorem Txt.me_Oldest_asked (T : Txt K mg) : Meth K (He.ga K "Oldest") "asked" (He.ma K (He.ga K "Oldest") "asked") := He.meth_ok (T.fact 60 (by rfl))
theorem Txt.me_Oldest_rank (T : Txt K mg) : Meth K (He.ga K "Oldest") "rank" (He.ma K (He.ga K "Oldest") "rank") := He.meth_ok (T.fact 61 (by rfl))
theorem Txt.me_Oldest_choice (T : Txt K mg) : Meth K (He.ga K "Oldest") "choice" (He.ma K (He.ga K "Oldest") "choice") := He.meth_ok (T.fact 62 (by rfl))
theorem Txt.me_Oldest_gone (T : Txt K mg) : Meth K (He.ga K "Oldest") "gone" (He.ma K (He.ga K "Oldest") "gone") := He.meth_ok (T.fact 63 (by rfl))
theorem Txt.me_Oldest_came (T : Txt K mg) : Meth K (He.ga K "Oldest") "came" (He.ma K (He.ga K "Oldest") "came") := He.meth_ok (T.fact 64 (by rfl))
theorem Txt.me_First_asked (T : Txt K mg) : Meth K (He.ga K "First") "asked" (He.ma K (He.ga K "First") "asked") := He.meth_ok (T.fact 65 (by rfl))
theorem Txt.me_First_rank (T : Txt K mg) : Meth K (He.ga K "First") "rank" (He.ma K (He.ga K "First") "rank") := He.meth_ok (T.fact 66 (by rfl))
theorem Txt.me_First_choice (T : Txt K mg) : Meth K (He.ga K "First") "choice" (He.ma K (He.ga K "First") "choice") := He.meth_ok (T.fact 67 (by rfl))
theorem Txt.me_First_gone (T : Txt K mg) : Meth K (He.ga K "First") "gone" (He.ma K (He.ga K "First") "gone") := He.meth_ok (T.fact 68 (by rfl))
theorem Txt.me_First_came (T : Txt K mg) : Meth K (He.ga K "First") "came" (He.ma K (He.ga K "First") "came") := He.meth_ok (T.fact 69 (by rfl))
theorem Txt.me_Halving_asked (T : Txt K mg) : Meth K (He.ga K "Halving") "asked" (He.ma K (He.ga K "Halving") "asked") := He.meth_ok (T.fact 70 (by rfl))
theorem Txt.me_Halving_rank (T : Txt K mg) : Meth K (He.ga K "Halving") "rank" (He.ma K (He.ga K "Halving") "rank") := He.meth_ok (T.fact 71 (by rfl))
theorem Txt.me_Halving_choice (T : Txt K mg) : Meth K (He.ga K "Halving") "choice" (He.ma K (He.ga K "Halving") "choice") := He.meth_ok (T.fact 72 (by rfl))
theorem Txt.me_Halving_gone (T : Txt K mg) : Meth K (He.ga K "Halving") "gone" (He.ma K (He.ga K "Halving") "gone") := He.meth_ok (T.fact 73 (by rfl))
theorem Txt.me_Halving_came (T : Txt K mg) : Meth K (He.ga K "Halving") "came" (He.ma K (He.ga K "Halving") "came") := He.meth_ok (T.fact 74 (by rfl))
theorem Txt.me_Farthest_asked (T : Txt K mg) : Meth K (He.ga K "Farthest") "asked" (He.ma K (He.ga K "Farthest") "asked") := He.meth_ok (T.fact 75 (by rfl))
theorem Txt.me_Farthest_rank (T : Txt K mg) : Meth K (He.ga K "Farthest") "rank" (He.ma K (He.ga K "Farthest") "rank") := He.meth_ok (T.fact 76 (by rfl))
theorem Txt.me_Farthest_choice (T : Txt K mg) : Meth K (He.ga K "Farthest") "choice" (He.ma K (He.ga K "Farthest") "choice") := He.meth_ok (T.fact 77 (by rfl))
theorem Txt.me_Farthest_gone (T : Txt K mg) : Meth K (He.ga K "Farthest") "gone" (He.ma K (He.ga K "Farthest") "gone") := He.meth_ok (T.fact 78 (by rfl))
theorem Txt.me_Farthest_came (T : Txt K mg) : Meth K (He.ga K "Farthest") "came" (He.ma K (He.ga K "Farthest") "came") := He.meth_ok (T.fact 79 (by rfl))
theorem Txt.me_Halving_counts (T : Txt K mg) : Meth K (He.ga K "Halving") "counts" (He.ma K (He.ga K "Halving") "counts") := He.meth_ok (T.fact 80 (by rfl))
theorem Txt.me_Farthest_coming (T : Txt K mg) : Meth K (He.ga K "Farthest") "coming" (He.ma K (He.ga K "Farthest") "coming") := He.meth_ok (T.fact 81 (by rfl))
theorem Txt.me_Stock_has (T : Txt K mg) : Meth K (He.ga K "Stock") "has" (He.ma K (He.ga K "Stock") "has") := He.meth_ok (T.fact 82 (by rfl))
theorem Txt.me_Stock_room_of (T : Txt K mg) : Meth K (He.ga K "Stock") "room_of" (He.ma K (He.ga K "Stock") "room_of") := He.meth_ok (T.fact 83 (by rfl))
theorem Txt.n_Ranked_stock (T : Txt K mg) : NoAttr K (He.ga K "Ranked") "stock" := He.noat_ok (T.fact 84 (by rfl))
theorem Txt.n_Ranked_places (T : Txt K mg) : NoAttr K (He.ga K "Ranked") "places" := He.noat_ok (T.fact 85 (by rfl))
theorem Txt.n_Ranked_now (T : Txt K mg) : NoAttr K (He.ga K "Ranked") "now" := He.noat_ok (T.fact 86 (by rfl))
theorem Txt.n_Ranked_last (T : Txt K mg) : NoAttr K (He.ga K "Ranked") "last" := He.noat_ok (T.fact 87 (by rfl))
theorem Txt.n_Oldest_stock (T : Txt K mg) : NoAttr K (He.ga K "Oldest") "stock" := He.noat_ok (T.fact 88 (by rfl))
theorem Txt.n_Oldest_places (T : Txt K mg) : NoAttr K (He.ga K "Oldest") "places" := He.noat_ok (T.fact 89 (by rfl))
theorem Txt.n_Oldest_now (T : Txt K mg) : NoAttr K (He.ga K "Oldest") "now" := He.noat_ok (T.fact 90 (by rfl))
theorem Txt.n_Oldest_last (T : Txt K mg) : NoAttr K (He.ga K "Oldest") "last" := He.noat_ok (T.fact 91 (by rfl))
theorem Txt.n_First_stock (T : Txt K mg) : NoAttr K (He.ga K "First") "stock" := He.noat_ok (T.fact 92 (by rfl))
theorem Txt.n_First_places (T : Txt K mg) : NoAttr K (He.ga K "First") "places" := He.noat_ok (T.fact 93 (by rfl))
theorem Txt.n_First_now (T : Txt K mg) : NoAttr K (He.ga K "First") "now" := He.noat_ok (T.fact 94 (by rfl))
theorem Txt.n_First_last (T : Txt K mg) : NoAttr K (He.ga K "First") "last" := He.noat_ok (T.fact 95 (by rfl))
theorem Txt.n_Halving_stock (T : Txt K mg) : NoAttr K (He.ga K "Halving") "stock" := He.noat_ok (T.fact 96 (by rfl))
theorem Txt.n_Halving_places (T : Txt K mg) : NoAttr K (He.ga K "Halving") "places" := He.noat_ok (T.fact 97 (by rfl))
theorem Txt.n_Halving_now (T : Txt K mg) : NoAttr K (He.ga K "Halving") "now" := He.noat_ok (T.fact 98 (by rfl))
theorem Txt.n_Halving_last (T : Txt K mg) : NoAttr K (He.ga K "Halving") "last" := He.noat_ok (T.fact 99 (by rfl))
theorem Txt.n_Farthest_stock (T : Txt K mg) : NoAttr K (He.ga K "Farthest") "stock" := He.noat_ok (T.fact 100 (by rfl))
theorem Txt.n_Farthest_places (T : Txt K mg) : NoAttr K (He.ga K "Farthest") "places" := He.noat_ok (T.fact 101 (by rfl))
theorem Txt.n_Farthest_now (T : Txt K mg) : NoAttr K (He.ga K "Farthest") "now" := He.noat_ok (T.fact 102 (by rfl))
theorem Txt.n_Farthest_last (T : Txt K mg) : NoAttr K (He.ga K "Farthest") "last" := He.noat_ok (T.fact 103 (by rfl))
theorem Txt.n_First_when (T : Txt K mg) : NoAttr K (He.ga K "First") "when" := He.noat_ok (T.fact 104 (by rfl))
theorem Txt.n_Halving_turn (T : Txt K mg) : NoAttr K (He.ga K "Halving") "turn" := He.noat_ok (T.fact 105 (by rfl))
theorem Txt.n_Halving_tally (T : Txt K mg) : NoAttr K (He.ga K "Halving") "tally" := He.noat_ok (T.fact 106 (by rfl))
theorem Txt.n_Farthest_never (T : Txt K mg) : NoAttr K (He.ga K "Farthest") "never" := He.noat_ok (T.fact 107 (by rfl))
theorem Txt.n_Farthest_times (T : Txt K mg) : NoAttr K (He.ga K "Farthest") "times" := He.noat_ok (T.fact 108 (by rfl))
theorem Txt.n_Stock_costs (T : Txt K mg) : NoAttr K (He.ga K "Stock") "costs" := He.noat_ok (T.fact 109 (by rfl))
theorem Txt.n_Stock_rooms (T : Txt K mg) : NoAttr K (He.ga K "Stock") "rooms" := He.noat_ok (T.fact 110 (by rfl))
abbrev FnP (K : PySem.W.Frag) (x qual : Str) (st : Stmt) (dvs : List V) (f : Addr) : Prop := ∃ fd, FunD K x qual (defArgs st) (defBody st) (defScope st) dvs [] f fd
theorem Txt.fIsWhole (T : Txt K mg) : FnP K "is_whole" "is_whole" sIsWhole [] (He.ga K "is_whole") := T.says.def_ 0 (d := dIsWhole) (by rfl)
theorem Txt.fNeedPlaces (T : Txt K mg) : FnP K "need_places" "need_places" sNeedPlaces [] (He.ga K "need_places") := T.says.def_ 1 (d := dNeedPlaces) (by rfl)
theorem Txt.fCheckAsks (T : Txt K mg) : FnP K "check_asks" "check_asks" sCheckAsks [] (He.ga K "check_asks") := T.says.def_ 2 (d := dCheckAsks) (by rfl)
theorem Txt.fIsName (T : Txt K mg) : FnP K "is_name" "is_name" sIsName [] (He.ga K "is_name") := T.says.def_ 3 (d := dIsName) (by rfl)
theorem Txt.fLawCell (T : Txt K mg) : FnP K "_law_cell" "_law_cell" sLawCell [] (He.ga K "_law_cell") := T.says.def_ 4 (d := dLawCell) (by rfl)
theorem Txt.fLawStream (T : Txt K mg) : FnP K "_law_stream" "_law_stream" sLawStream [] (He.ga K "_law_stream") := T.says.def_ 5 (d := dLawStream) (by rfl)
theorem Txt.fLawNames (T : Txt K mg) : FnP K "_law_names" "_law_names" sLawNames [] (He.ga K "_law_names") := T.says.def_ 6 (d := dLawNames) (by rfl)
theorem Txt.fLawRows (T : Txt K mg) : FnP K "_law_rows" "_law_rows" sLawRows [] (He.ga K "_law_rows") := T.says.def_ 7 (d := dLawRows) (by rfl)
theorem Txt.fLawPlaces (T : Txt K mg) : FnP K "_law_places" "_law_places" sLawPlaces [] (He.ga K "_law_places") := T.says.def_ 8 (d := dLawPlaces) (by rfl)
theorem Txt.fLawAsks (T : Txt K mg) : FnP K "_law_asks" "_law_asks" sLawAsks [] (He.ga K "_law_asks") := T.says.def_ 9 (d := dLawAsks) (by rfl)
theorem Txt.fLawRooms (T : Txt K mg) : FnP K "_law_rooms" "_law_rooms" sLawRooms [] (He.ga K "_law_rooms") := T.says.def_ 10 (d := dLawRooms) (by rfl)
theorem Txt.fLawNext (T : Txt K mg) : FnP K "_law_next" "_law_next" sLawNext [] (He.ga K "_law_next") := T.says.def_ 11 (d := dLawNext) (by rfl)
theorem Txt.fLawDue (T : Txt K mg) : FnP K "_law_due" "_law_due" sLawDue [] (He.ga K "_law_due") := T.says.def_ 12 (d := dLawDue) (by rfl)
theorem Txt.fLawRank (T : Txt K mg) : FnP K "_law_rank" "_law_rank" sLawRank [] (He.ga K "_law_rank") := T.says.def_ 13 (d := dLawRank) (by rfl)
theorem Txt.fLawAllRanks (T : Txt K mg) : FnP K "_law_all_ranks" "_law_all_ranks" sLawAllRanks [] (He.ga K "_law_all_ranks") := T.says.def_ 14 (d := dLawAllRanks) (by rfl)
theorem Txt.fLawCounted (T : Txt K mg) : FnP K "_law_counted" "_law_counted" sLawCounted [] (He.ga K "_law_counted") := T.says.def_ 15 (d := dLawCounted) (by rfl)
theorem Txt.fLawLeast (T : Txt K mg) : FnP K "_law_least" "_law_least" sLawLeast [] (He.ga K "_law_least") := T.says.def_ 16 (d := dLawLeast) (by rfl)
theorem Txt.fLawLed (T : Txt K mg) : FnP K "_law_led" "_law_led" sLawLed [] (He.ga K "_law_led") := T.says.def_ 17 (d := dLawLed) (by rfl)
theorem Txt.fLawMade (T : Txt K mg) : FnP K "_law_made" "_law_made" sLawMade [] (He.ga K "_law_made") := T.says.def_ 18 (d := dLawMade) (by rfl)
theorem Txt.fLaw (T : Txt K mg) : FnP K "law" "law" sLaw [] (He.ga K "law") := T.says.def_ 19 (d := dLaw) (by rfl)
theorem Txt.fRule_Init (T : Txt K mg) : FnP K "__init__" "Rule.__init__" sRule_Init [] (He.ma K (He.ga K "Rule") "__init__") := T.says.def_ 20 (d := dRule_Init) (by rfl)
theorem Txt.fRanked_Init (T : Txt K mg) : FnP K "__init__" "Ranked.__init__" sRanked_Init [] (He.ma K (He.ga K "Ranked") "__init__") := T.says.def_ 21 (d := dRanked_Init) (by rfl)
theorem Txt.fRanked_Asked (T : Txt K mg) : FnP K "asked" "Ranked.asked" sRanked_Asked [] (He.ma K (He.ga K "Ranked") "asked") := T.says.def_ 22 (d := dRanked_Asked) (by rfl)
theorem Txt.fRanked_Rank (T : Txt K mg) : FnP K "rank" "Ranked.rank" sRanked_Rank [] (He.ma K (He.ga K "Ranked") "rank") := T.says.def_ 23 (d := dRanked_Rank) (by rfl)
theorem Txt.fRanked_Choice (T : Txt K mg) : FnP K "choice" "Ranked.choice" sRanked_Choice [] (He.ma K (He.ga K "Ranked") "choice") := T.says.def_ 24 (d := dRanked_Choice) (by rfl)
theorem Txt.fRanked_Gone (T : Txt K mg) : FnP K "gone" "Rule.gone" sRule_Gone [] (He.ma K (He.ga K "Ranked") "gone") := T.says.def_ 25 (d := dRanked_Gone) (by rfl)
theorem Txt.fRanked_Came (T : Txt K mg) : FnP K "came" "Rule.came" sRule_Came [] (He.ma K (He.ga K "Ranked") "came") := T.says.def_ 26 (d := dRanked_Came) (by rfl)
theorem Txt.fOldest_Init (T : Txt K mg) : FnP K "__init__" "Ranked.__init__" sRanked_Init [] (He.ma K (He.ga K "Oldest") "__init__") := T.says.def_ 27 (d := dOldest_Init) (by rfl)
theorem Txt.fOldest_Asked (T : Txt K mg) : FnP K "asked" "Ranked.asked" sRanked_Asked [] (He.ma K (He.ga K "Oldest") "asked") := T.says.def_ 28 (d := dOldest_Asked) (by rfl)
theorem Txt.fOldest_Rank (T : Txt K mg) : FnP K "rank" "Ranked.rank" sRanked_Rank [] (He.ma K (He.ga K "Oldest") "rank") := T.says.def_ 29 (d := dOldest_Rank) (by rfl)
theorem Txt.fOldest_Choice (T : Txt K mg) : FnP K "choice" "Ranked.choice" sRanked_Choice [] (He.ma K (He.ga K "Oldest") "choice") := T.says.def_ 30 (d := dOldest_Choice) (by rfl)
theorem Txt.fOldest_Gone (T : Txt K mg) : FnP K "gone" "Rule.gone" sRule_Gone [] (He.ma K (He.ga K "Oldest") "gone") := T.says.def_ 31 (d := dOldest_Gone) (by rfl)
theorem Txt.fOldest_Came (T : Txt K mg) : FnP K "came" "Rule.came" sRule_Came [] (He.ma K (He.ga K "Oldest") "came") := T.says.def_ 32 (d := dOldest_Came) (by rfl)
theorem Txt.fFirst_Init (T : Txt K mg) : FnP K "__init__" "First.__init__" sFirst_Init [] (He.ma K (He.ga K "First") "__init__") := T.says.def_ 33 (d := dFirst_Init) (by rfl)
theorem Txt.fFirst_Asked (T : Txt K mg) : FnP K "asked" "Ranked.asked" sRanked_Asked [] (He.ma K (He.ga K "First") "asked") := T.says.def_ 34 (d := dFirst_Asked) (by rfl)
theorem Txt.fFirst_Rank (T : Txt K mg) : FnP K "rank" "First.rank" sFirst_Rank [] (He.ma K (He.ga K "First") "rank") := T.says.def_ 35 (d := dFirst_Rank) (by rfl)
theorem Txt.fFirst_Choice (T : Txt K mg) : FnP K "choice" "Ranked.choice" sRanked_Choice [] (He.ma K (He.ga K "First") "choice") := T.says.def_ 36 (d := dFirst_Choice) (by rfl)
theorem Txt.fFirst_Gone (T : Txt K mg) : FnP K "gone" "Rule.gone" sRule_Gone [] (He.ma K (He.ga K "First") "gone") := T.says.def_ 37 (d := dFirst_Gone) (by rfl)
theorem Txt.fFirst_Came (T : Txt K mg) : FnP K "came" "First.came" sFirst_Came [] (He.ma K (He.ga K "First") "came") := T.says.def_ 38 (d := dFirst_Came) (by rfl)
theorem Txt.fHalving_Init (T : Txt K mg) : FnP K "__init__" "Halving.__init__" sHalving_Init [.int 8] (He.ma K (He.ga K "Halving") "__init__") := T.says.def_ 39 (d := dHalving_Init) (by rfl)
theorem Txt.fHalving_Asked (T : Txt K mg) : FnP K "asked" "Halving.asked" sHalving_Asked [] (He.ma K (He.ga K "Halving") "asked") := T.says.def_ 40 (d := dHalving_Asked) (by rfl)
theorem Txt.fHalving_Rank (T : Txt K mg) : FnP K "rank" "Halving.rank" sHalving_Rank [] (He.ma K (He.ga K "Halving") "rank") := T.says.def_ 41 (d := dHalving_Rank) (by rfl)
theorem Txt.fHalving_Choice (T : Txt K mg) : FnP K "choice" "Ranked.choice" sRanked_Choice [] (He.ma K (He.ga K "Halving") "choice") := T.says.def_ 42 (d := dHalving_Choice) (by rfl)
theorem Txt.fHalving_Gone (T : Txt K mg) : FnP K "gone" "Rule.gone" sRule_Gone [] (He.ma K (He.ga K "Halving") "gone") := T.says.def_ 43 (d := dHalving_Gone) (by rfl)
theorem Txt.fHalving_Came (T : Txt K mg) : FnP K "came" "Rule.came" sRule_Came [] (He.ma K (He.ga K "Halving") "came") := T.says.def_ 44 (d := dHalving_Came) (by rfl)
theorem Txt.fFarthest_Init (T : Txt K mg) : FnP K "__init__" "Farthest.__init__" sFarthest_Init [] (He.ma K (He.ga K "Farthest") "__init__") := T.says.def_ 45 (d := dFarthest_Init) (by rfl)
theorem Txt.fFarthest_Asked (T : Txt K mg) : FnP K "asked" "Ranked.asked" sRanked_Asked [] (He.ma K (He.ga K "Farthest") "asked") := T.says.def_ 46 (d := dFarthest_Asked) (by rfl)
theorem Txt.fFarthest_Rank (T : Txt K mg) : FnP K "rank" "Farthest.rank" sFarthest_Rank [] (He.ma K (He.ga K "Farthest") "rank") := T.says.def_ 47 (d := dFarthest_Rank) (by rfl)
theorem Txt.fFarthest_Choice (T : Txt K mg) : FnP K "choice" "Ranked.choice" sRanked_Choice [] (He.ma K (He.ga K "Farthest") "choice") := T.says.def_ 48 (d := dFarthest_Choice) (by rfl)
theorem Txt.fFarthest_Gone (T : Txt K mg) : FnP K "gone" "Rule.gone" sRule_Gone [] (He.ma K (He.ga K "Farthest") "gone") := T.says.def_ 49 (d := dFarthest_Gone) (by rfl)
theorem Txt.fFarthest_Came (T : Txt K mg) : FnP K "came" "Rule.came" sRule_Came [] (He.ma K (He.ga K "Farthest") "came") := T.says.def_ 50 (d := dFarthest_Came) (by rfl)
theorem Txt.fHalving_Counts (T : Txt K mg) : FnP K "counts" "Halving.counts" sHalving_Counts [] (He.ma K (He.ga K "Halving") "counts") := T.says.def_ 51 (d := dHalving_Counts) (by rfl)
theorem Txt.fFarthest_Coming (T : Txt K mg) : FnP K "coming" "Farthest.coming" sFarthest_Coming [] (He.ma K (He.ga K "Farthest") "coming") := T.says.def_ 52 (d := dFarthest_Coming) (by rfl)
theorem Txt.fStock_Init (T : Txt K mg) : FnP K "__init__" "Stock.__init__" sStock_Init [] (He.ma K (He.ga K "Stock") "__init__") := T.says.def_ 53 (d := dStock_Init) (by rfl)
theorem Txt.fStock_Has (T : Txt K mg) : FnP K "has" "Stock.has" sStock_Has [] (He.ma K (He.ga K "Stock") "has") := T.says.def_ 54 (d := dStock_Has) (by rfl)
theorem Txt.fStock_RoomOf (T : Txt K mg) : FnP K "room_of" "Stock.room_of" sStock_RoomOf [] (He.ma K (He.ga K "Stock") "room_of") := T.says.def_ 55 (d := dStock_RoomOf) (by rfl)
end
/-- a def that may be called: its promise at level k, its parameters, all of them handed in -/
structure Cal (P : Program) (w : World) (K : PySem.W.Frag) (mg : Str → Option Value) (base : Heap) (k : Nat) (f : Addr) (ps : List Str) (sp : Sp) : Prop where
  ex : ∃ fd, FnOk P w K mg base CX0 k f fd ps sp ∧ Binds K fd ps []
  kp : (PySem.W.keepIn K (.ref f)) = true
section
variable {P : Program} {w : World} {K : PySem.W.Frag} {mg : Str → Option Value} {base : Heap}
theorem Cal.up {k j : Nat} {f : Addr} {ps : List Str} {sp : Sp} (F : Cal P w K mg base k f ps sp) (h : k ≤ j) : Cal P w K mg base j f ps sp :=
  let ⟨fd, a, b⟩ := F.ex
  ⟨⟨fd, a.mono h, b⟩, F.kp⟩
theorem Cal.weak {k : Nat} {f : Addr} {ps : List Str} {sp sp' : Sp} (F : Cal P w K mg base k f ps sp) (h : ∀ vs H Q E, sp' vs H Q E → sp vs H Q E) : Cal P w K mg base k f ps sp' :=
  let ⟨fd, a, b⟩ := F.ex
  ⟨⟨fd, a.imp h, b⟩, F.kp⟩
/-- from the def's text (no defaults), its names and its body's walk -/
theorem cal_of {x qual : Str} {st : Stmt} {f : Addr} {N ps : List Str} {k : Nat} {sp : Sp} (F : FnP K x qual st [] f) (S : FnScope N ps (defScope st)) (len : ∀ vs H Q E, sp vs H Q E → vs.length = ps.length)
    (bnd : ∀ (kV doc pm : Value) (an : Option Addr) (cdv ct : Value) (us : List Value), us.length = ps.length → bindArgs (PySem.W.fnOf x qual (defArgs st) (defBody st) (defScope st) .none kV doc pm an cdv ct) ⟨us, []⟩ = pure (ps.zip us))
    (hb : ∀ (cdv : Value) (A : Around) (outer : List Env) (s : Shared) (H : Hp) (vs : List V) (Q : VK) (E : XK), Room k (A.deeper (envOfC qual (defScope st) s.heap.objs.size f cdv)) → sp vs H Q E →
      ∃ t, PSs (cxOf CX0 P w K mg base N qual (defScope st) f cdv A outer s H E).nox (defBody st) t ∧ t { nx := fun _ H' => Q .non H', rt := Q } (start N vs) H) : Cal P w K mg base (k + 1) f ps sp := by
  obtain ⟨fd, F⟩ := F
  refine ⟨⟨fd, F.ok S len fun cdv A outer s H vs Q E hr hs => ?_, F.bindsN bnd⟩, F.kp⟩
  obtain ⟨t, h1, h2⟩ := hb cdv A outer s H vs Q E hr hs
  exact ⟨t, h1.nox, h2⟩
end
section
variable {X : Cx} {j k : Nat} {f C : Addr} {ps : List Str} {sp : Sp} {x m : Str} {p pos apos : Pos} {e o : Expr} {es : List Expr} {ta : TE} {t : TA}
/-- f(e, ..) -/
theorem pe_cal (F : Cal X.prog X.w X.K X.mg X.base j f ps sp) (hr : Room k X.A) (hm : X.mg x = some (.ref f)) (ha : PA X (e :: es) t) (hk : j ≤ k := by decide) (hg : Gl X x := by rfl) (hdb : (x == ("__debug__" : Str)) = false := by decide)
    (hst : starEach (e :: es) X.env = (false, eval e X.env) :: starEach es X.env := by rfl)
    (hpl : (backTo pos (starEach es X.env)).any (·.1) = false := by rfl) :
    PE X (.Call (.Name x p) (e :: es) [] pos) (tCall sp [] E0 t) := by
  obtain ⟨fd, G, b⟩ := F.ex
  exact pe_call G (hr.mono hk) hg hm F.kp b .nil pass0 ha hdb hst hpl
/-- o.m(e, ..), an instance of C -/
theorem pe_me {pl : Sem Bool} (c : Cls X.K C) (hm : Meth X.K C m f) (F : Cal X.prog X.w X.K X.mg X.base j f ps sp) (hr : Room k X.A) (ho : PE X o ta) (ha : PA X (e :: es) t) (hk : j ≤ k := by decide)
    (hst : starEach (e :: es) X.env = (false, eval e X.env) :: starEach es X.env := by rfl) (hpl : (backTo pos (starEach es X.env)).any (·.1) = false := by rfl)
    (ht : eval (.Call (.Attribute o m apos) (e :: es) [] pos) X.env = (do let v ← eval o X.env; standAt apos.atName; let (g, us) ← holding [v] (getMethod v m pl); callWith pos g us (backTo pos (starEach (e :: es) X.env)) (backToKw pos (keywordEach [] X.env))) := by rfl) :
    PE X (.Call (.Attribute o m apos) (e :: es) [] pos) (tMeth C m sp [] E0 ta t) := by
  obtain ⟨fd, G, b⟩ := F.ex
  exact pe_meth ho c hm G (hr.mono hk) b .nil pass0 ha hst hpl ht
/-- o.m() -/
theorem pe_me0 {pl : Sem Bool} (c : Cls X.K C) (hm : Meth X.K C m f) (F : Cal X.prog X.w X.K X.mg X.base j f ps sp) (hr : Room k X.A) (ho : PE X o ta) (hk : j ≤ k := by decide)
    (ht : eval (.Call (.Attribute o m apos) [] [] pos) X.env = (do let v ← eval o X.env; standAt apos.atName; let (g, us) ← holding [v] (getMethod v m pl); callWith pos g us (backTo pos (starEach [] X.env)) (backToKw pos (keywordEach [] X.env))) := by rfl) :
    PE X (.Call (.Attribute o m apos) [] [] pos) (tMeth C m sp [] E0 ta tNil) := by
  obtain ⟨fd, G, b⟩ := F.ex
  exact pe_meth0 ho c hm G (hr.mono hk) b .nil pass0 ht
/-- C(e, ..) -/
theorem pe_mk (M : Mk X.K C f) (F : Cal X.prog X.w X.K X.mg X.base j f ps sp) (hr : Room k X.A) (hm : X.mg x = some (.ref C)) (ha : PA X (e :: es) t) (hk : j + 1 ≤ k := by decide) (hg : Gl X x := by rfl) (hdb : (x == ("__debug__" : Str)) = false := by decide)
    (hst : starEach (e :: es) X.env = (false, eval e X.env) :: starEach es X.env := by rfl)
    (hpl : (backTo pos (starEach es X.env)).any (·.1) = false := by rfl) :
    PE X (.Call (.Name x p) (e :: es) [] pos) (tMake C sp [] E0 t) := by
  obtain ⟨fd, G, b⟩ := F.ex
  exact pe_make M G (hr.mono hk) hg hm b .nil pass0 ha hdb hst hpl
/-- C.m(e, ..), a def read off the class -/
theorem pe_off {pl : Sem Bool} (hc : clsB X.K x m = true) (F : Cal X.prog X.w X.K X.mg X.base j (He.ma X.K (He.ga X.K x) m) ps sp) (hr : Room k X.A) (hm : X.mg x = some (.ref (He.ga X.K x))) (ha : PA X (e :: es) t) (hk : j ≤ k := by decide) (hg : Gl X x := by rfl)
    (hdb : (x == ("__debug__" : Str)) = false := by decide)
    (hst : starEach (e :: es) X.env = (false, eval e X.env) :: starEach es X.env := by rfl) (hpl : (backTo pos (starEach es X.env)).any (·.1) = false := by rfl)
    (ht : eval (.Call (.Attribute (.Name x p) m apos) (e :: es) [] pos) X.env = (do let v ← eval (.Name x p) X.env; standAt apos.atName; let (g, us) ← holding [v] (getMethod v m pl); callWith pos g us (backTo pos (starEach (e :: es) X.env)) (backToKw pos (keywordEach [] X.env))) := by rfl) :
    PE X (.Call (.Attribute (.Name x p) m apos) (e :: es) [] pos) (tCall sp [] E0 t) := by
  obtain ⟨fd, G, b⟩ := F.ex
  unfold clsB at hc
  obtain ⟨c1, hc⟩ := He.ba hc
  obtain ⟨c2, c3⟩ := He.ba hc
  have e3 : PySem.W.findCls X.K (.ref (He.ga X.K x)) (.type "type") m = some (.val (.ref (He.ma X.K (He.ga X.K x) m))) := by
    cases q : PySem.W.findCls X.K (.ref (He.ga X.K x)) (.type "type") m with
    | none => rw [q] at c3; cases c3
    | some r =>
      rw [q] at c3
      cases r with
      | get _ _ _ _ => cases c3
      | val v =>
        cases v with
        | ref a => rw [of_decide_eq_true (show decide (a = He.ma X.K (He.ga X.K x) m) = true from c3)]
        | _ => cases c3
  refine ⟨fun pins s σ H Q I h => ?_⟩
  refine PySem.W.methodCall_KW (pl := pl) (ld_glob I hg hm ?_ hdb) ht
  refine PySem.W.method_cls I.kIn (He.eqO_ok c2) (PySem.W.cls_value I.kIn c1 e3 (handed_of (v := .ref (He.ma X.K (He.ga X.K x) m)) rfl) ?_)
  refine PySem.W.callWith_K (h₀ := X.base) I.ok.mod.kin F.kp (thn (ha.run pos pins _ σ H _ (I.tok _) h) fun us s1 ⟨vs, H1, I1, r, q⟩ => ⟨I1.kIn, ?_⟩) hst hpl
  exact run_fn G (hr.mono hk) b .nil pass0 I1 r q
end
/-! ### list.remove of texts -/
def eqz (z : Str) (v : Value) : Bool := match v with
  | .str y _ => decide (y = z)
  | _ => false
theorem strs_at : ∀ {ys : List Str} {us : List Value} {i : Nat} {y : Str}, Vals (ys.map V.str) us → ys[i]? = some y → ∃ t, us[i]? = some (.str y t) := by
  intro ys us i y r h
  obtain ⟨u, e, q⟩ := r.get (i := i) (x := .str y) (by rw [List.getElem?_map, h]; rfl)
  obtain ⟨t, rfl⟩ := q
  exact ⟨t, e⟩
theorem eqz_gives {z : Str} {t : Tok} {ys : List Str} {us : List Value} (r : Vals (ys.map V.str) us) : ∀ u ∈ us, MeetsSeq.EqGives u (.str z t) (eqz z u) := by
  intro u hu
  obtain ⟨i, hi, e⟩ := List.mem_iff_getElem.mp hu
  have hl := r.length
  rw [List.length_map] at hl
  obtain ⟨t', q⟩ := strs_at (i := i) (y := ys[i]) r (List.getElem?_eq_getElem (by omega))
  rw [List.getElem?_eq_getElem hi, e] at q
  cases q
  intro prog w A E s Q h
  exact wpAny_eqBool_str h
def rRemS : V → List V → Hp → VK → Prop := fun x xs H Q => ∃ (l : Addr) (ys : List Str) (z : Str) (j : Nat), x = .ref l ∧ xs = [.str z] ∧ H l = some (.lst (ys.map V.str)) ∧ ys[j]? = some z ∧ (∀ m : Nat, m < j → ys[m]? ≠ some z) ∧
  Q .non (upd H l (.lst ((ys.eraseIdx j).map V.str)))
theorem erase_mapS : ∀ (l : List Str) (j : Nat), (l.map V.str).eraseIdx j = (l.eraseIdx j).map V.str
  | [], j => by simp
  | a :: r, 0 => by simp
  | a :: r, j + 1 => by
    have ih := erase_mapS r j
    simp [ih]
theorem mt_removeS {X : Cx} : MtM X "list.remove" rRemS := by
  intro pn sh σ H recv args rv av Q Iv hrv hav hyp
  obtain ⟨l, ys, z, j, rfl, rfl, hH, hj, hfirst, fin⟩ := hyp
  cases hrv
  obtain ⟨arg, rfl, harg⟩ := hav.one
  obtain ⟨tk, rfl⟩ := harg
  obtain ⟨hbig, items, n, hvals, hlen, hobj⟩ := Iv.lstM hH
  rw [List.length_map] at hlen hbig
  have hjy : j < ys.length := (List.getElem?_eq_some_iff.mp hj).1
  have hji : j < items.toArray.size := (List.size_toArray (as := items)).symm ▸ (hlen ▸ hjy)
  have there : ∀ (m : Nat) (hm : m < items.toArray.size) (y : Str), ys[m]? = some y → ∃ t, items.toArray[m] = .str y t := fun m hm y hy => by
    obtain ⟨t, ht⟩ := strs_at hvals hy
    obtain ⟨_, he⟩ := List.getElem?_eq_some_iff.mp ht
    exact ⟨t, by simpa using he⟩
  have hit : eqz z items.toArray[j] = true := by
    obtain ⟨t, ht⟩ := there j hji z hj
    rw [ht]
    exact decide_eq_true rfl
  have miss : ∀ (m : Nat) (hm : m < items.toArray.size), m < j → eqz z items.toArray[m] = false := fun m hm hmj => by
    obtain ⟨t, ht⟩ := there m hm ys[m] (List.getElem?_eq_getElem (Nat.lt_trans hmj hjy))
    rw [ht]
    exact decide_eq_false fun same => hfirst m hmj (same ▸ List.getElem?_eq_getElem (Nat.lt_trans hmj hjy))
  have law := MeetsSeq.list_remove l items.toArray n (.str z tk) (eqz z) (fun y hy => eqz_gives hvals y (by simpa using hy)) j hji hit miss (by rw [List.size_toArray, ← hlen]; exact hbig)
  have rest : Vals ((ys.eraseIdx j).map V.str) (items.eraseIdx j) := erase_mapS ys j ▸ hvals.eraseIdx j
  have size : ((ys.eraseIdx j).map V.str).length ≤ sizeLine := by
    rw [List.length_map]
    exact Nat.le_trans (len_erase ys j) hbig
  have same : items.toArray.eraseIdxIfInBounds j = (items.eraseIdx j).toArray := List.eraseIdxIfInBounds_toArray ..
  exact call_meets PySem.F.slot_list_remove ⟨_, hobj, rfl⟩ PySem.F.entry_list_remove (PySem.F.args_list_remove_2 _ _) law ⟨hobj, .non, _, Iv.lset (its' := items.eraseIdx j) (t' := sh.toks) hH hobj same rest size, rfl, fin⟩
end K29
/-! The data of a run, the promises. -/
namespace K29
open PySem PySem.Spec PyProof.Rows L2
@[simp] theorem nn_stock_places : ¬ (("stock" : Str) = "places") := by decide +kernel
@[simp] theorem nb_stock_places : (("stock" : Str) == "places") = false := by decide +kernel
@[simp] theorem nn_stock_now : ¬ (("stock" : Str) = "now") := by decide +kernel
@[simp] theorem nb_stock_now : (("stock" : Str) == "now") = false := by decide +kernel
@[simp] theorem nn_stock_last : ¬ (("stock" : Str) = "last") := by decide +kernel
@[simp] theorem nb_stock_last : (("stock" : Str) == "last") = false := by decide +kernel
@[simp] theorem nn_stock_when : ¬ (("stock" : Str) = "when") := by decide +kernel
@[simp] theorem nb_stock_when : (("stock" : Str) == "when") = false := by decide +kernel
@[simp] theorem nn_stock_turn : ¬ (("stock" : Str) = "turn") := by decide +kernel
@[simp] theorem nb_stock_turn : (("stock" : Str) == "turn") = false := by decide +kernel
@[simp] theorem nn_stock_tally : ¬ (("stock" : Str) = "tally") := by decide +kernel
@[simp] theorem nb_stock_tally : (("stock" : Str) == "tally") = false := by decide +kernel
@[simp] theorem nn_stock_never : ¬ (("stock" : Str) = "never") := by decide +kernel
@[simp] theorem nb_stock_never : (("stock" : Str) == "never") = false := by decide +kernel
@[simp] theorem nn_stock_times : ¬ (("stock" : Str) = "times") := by decide +kernel
@[simp] theorem nb_stock_times : (("stock" : Str) == "times") = false := by decide +kernel
@[simp] theorem nn_stock_costs : ¬ (("stock" : Str) = "costs") := by decide +kernel
@[simp] theorem nb_stock_costs : (("stock" : Str) == "costs") = false := by decide +kernel
@[simp] theorem nn_stock_rooms : ¬ (("stock" : Str) = "rooms") := by decide +kernel
@[simp] theorem nb_stock_rooms : (("stock" : Str) == "rooms") = false := by decide +kernel
@[simp] theorem nn_stock_asked : ¬ (("stock" : Str) = "asked") := by decide +kernel
@[simp] theorem nb_stock_asked : (("stock" : Str) == "asked") = false := by decide +kernel
@[simp] theorem nn_stock_rank : ¬ (("stock" : Str) = "rank") := by decide +kernel
@[simp] theorem nb_stock_rank : (("stock" : Str) == "rank") = false := by decide +kernel
@[simp] theorem nn_stock_choice : ¬ (("stock" : Str) = "choice") := by decide +kernel
@[simp] theorem nb_stock_choice : (("stock" : Str) == "choice") = false := by decide +kernel
@[simp] theorem nn_stock_gone : ¬ (("stock" : Str) = "gone") := by decide +kernel
@[simp] theorem nb_stock_gone : (("stock" : Str) == "gone") = false := by decide +kernel
@[simp] theorem nn_stock_came : ¬ (("stock" : Str) = "came") := by decide +kernel
@[simp] theorem nb_stock_came : (("stock" : Str) == "came") = false := by decide +kernel
@[simp] theorem nn_stock_counts : ¬ (("stock" : Str) = "counts") := by decide +kernel
@[simp] theorem nb_stock_counts : (("stock" : Str) == "counts") = false := by decide +kernel
@[simp] theorem nn_stock_coming : ¬ (("stock" : Str) = "coming") := by decide +kernel
@[simp] theorem nb_stock_coming : (("stock" : Str) == "coming") = false := by decide +kernel
@[simp] theorem nn_stock_has : ¬ (("stock" : Str) = "has") := by decide +kernel
@[simp] theorem nb_stock_has : (("stock" : Str) == "has") = false := by decide +kernel
@[simp] theorem nn_stock_room_of : ¬ (("stock" : Str) = "room_of") := by decide +kernel
@[simp] theorem nb_stock_room_of : (("stock" : Str) == "room_of") = false := by decide +kernel
@[simp] theorem nn_places_stock : ¬ (("places" : Str) = "stock") := by decide +kernel
@[simp] theorem nb_places_stock : (("places" : Str) == "stock") = false := by decide +kernel
@[simp] theorem nn_places_now : ¬ (("places" : Str) = "now") := by decide +kernel
@[simp] theorem nb_places_now : (("places" : Str) == "now") = false := by decide +kernel
@[simp] theorem nn_places_last : ¬ (("places" : Str) = "last") := by decide +kernel
@[simp] theorem nb_places_last : (("places" : Str) == "last") = false := by decide +kernel
@[simp] theorem nn_places_when : ¬ (("places" : Str) = "when") := by decide +kernel
@[simp] theorem nb_places_when : (("places" : Str) == "when") = false := by decide +kernel
@[simp] theorem nn_places_turn : ¬ (("places" : Str) = "turn") := by decide +kernel
@[simp] theorem nb_places_turn : (("places" : Str) == "turn") = false := by decide +kernel
@[simp] theorem nn_places_tally : ¬ (("places" : Str) = "tally") := by decide +kernel
@[simp] theorem nb_places_tally : (("places" : Str) == "tally") = false := by decide +kernel
@[simp] theorem nn_places_never : ¬ (("places" : Str) = "never") := by decide +kernel
@[simp] theorem nb_places_never : (("places" : Str) == "never") = false := by decide +kernel
@[simp] theorem nn_places_times : ¬ (("places" : Str) = "times") := by decide +kernel
@[simp] theorem nb_places_times : (("places" : Str) == "times") = false := by decide +kernel
@[simp] theorem nn_places_costs : ¬ (("places" : Str) = "costs") := by decide +kernel
@[simp] theorem nb_places_costs : (("places" : Str) == "costs") = false := by decide +kernel
@[simp] theorem nn_places_rooms : ¬ (("places" : Str) = "rooms") := by decide +kernel
@[simp] theorem nb_places_rooms : (("places" : Str) == "rooms") = false := by decide +kernel
@[simp] theorem nn_places_asked : ¬ (("places" : Str) = "asked") := by decide +kernel
@[simp] theorem nb_places_asked : (("places" : Str) == "asked") = false := by decide +kernel
@[simp] theorem nn_places_rank : ¬ (("places" : Str) = "rank") := by decide +kernel
@[simp] theorem nb_places_rank : (("places" : Str) == "rank") = false := by decide +kernel
@[simp] theorem nn_places_choice : ¬ (("places" : Str) = "choice") := by decide +kernel
@[simp] theorem nb_places_choice : (("places" : Str) == "choice") = false := by decide +kernel
@[simp] theorem nn_places_gone : ¬ (("places" : Str) = "gone") := by decide +kernel
@[simp] theorem nb_places_gone : (("places" : Str) == "gone") = false := by decide +kernel
@[simp] theorem nn_places_came : ¬ (("places" : Str) = "came") := by decide +kernel
@[simp] theorem nb_places_came : (("places" : Str) == "came") = false := by decide +kernel
@[simp] theorem nn_places_counts : ¬ (("places" : Str) = "counts") := by decide +kernel
@[simp] theorem nb_places_counts : (("places" : Str) == "counts") = false := by decide +kernel
@[simp] theorem nn_places_coming : ¬ (("places" : Str) = "coming") := by decide +kernel
@[simp] theorem nb_places_coming : (("places" : Str) == "coming") = false := by decide +kernel
@[simp] theorem nn_places_has : ¬ (("places" : Str) = "has") := by decide +kernel
@[simp] theorem nb_places_has : (("places" : Str) == "has") = false := by decide +kernel
@[simp] theorem nn_places_room_of : ¬ (("places" : Str) = "room_of") := by decide +kernel
@[simp] theorem nb_places_room_of : (("places" : Str) == "room_of") = false := by decide +kernel
@[simp] theorem nn_now_stock : ¬ (("now" : Str) = "stock") := by decide +kernel
@[simp] theorem nb_now_stock : (("now" : Str) == "stock") = false := by decide +kernel
@[simp] theorem nn_now_places : ¬ (("now" : Str) = "places") := by decide +kernel
@[simp] theorem nb_now_places : (("now" : Str) == "places") = false := by decide +kernel
@[simp] theorem nn_now_last : ¬ (("now" : Str) = "last") := by decide +kernel
@[simp] theorem nb_now_last : (("now" : Str) == "last") = false := by decide +kernel
@[simp] theorem nn_now_when : ¬ (("now" : Str) = "when") := by decide +kernel
@[simp] theorem nb_now_when : (("now" : Str) == "when") = false := by decide +kernel
@[simp] theorem nn_now_turn : ¬ (("now" : Str) = "turn") := by decide +kernel
@[simp] theorem nb_now_turn : (("now" : Str) == "turn") = false := by decide +kernel
@[simp] theorem nn_now_tally : ¬ (("now" : Str) = "tally") := by decide +kernel
@[simp] theorem nb_now_tally : (("now" : Str) == "tally") = false := by decide +kernel
@[simp] theorem nn_now_never : ¬ (("now" : Str) = "never") := by decide +kernel
@[simp] theorem nb_now_never : (("now" : Str) == "never") = false := by decide +kernel
@[simp] theorem nn_now_times : ¬ (("now" : Str) = "times") := by decide +kernel
@[simp] theorem nb_now_times : (("now" : Str) == "times") = false := by decide +kernel
@[simp] theorem nn_now_costs : ¬ (("now" : Str) = "costs") := by decide +kernel
@[simp] theorem nb_now_costs : (("now" : Str) == "costs") = false := by decide +kernel
@[simp] theorem nn_now_rooms : ¬ (("now" : Str) = "rooms") := by decide +kernel
@[simp] theorem nb_now_rooms : (("now" : Str) == "rooms") = false := by decide +kernel
@[simp] theorem nn_now_asked : ¬ (("now" : Str) = "asked") := by decide +kernel
@[simp] theorem nb_now_asked : (("now" : Str) == "asked") = false := by decide +kernel
@[simp] theorem nn_now_rank : ¬ (("now" : Str) = "rank") := by decide +kernel
@[simp] theorem nb_now_rank : (("now" : Str) == "rank") = false := by decide +kernel
@[simp] theorem nn_now_choice : ¬ (("now" : Str) = "choice") := by decide +kernel
@[simp] theorem nb_now_choice : (("now" : Str) == "choice") = false := by decide +kernel
@[simp] theorem nn_now_gone : ¬ (("now" : Str) = "gone") := by decide +kernel
@[simp] theorem nb_now_gone : (("now" : Str) == "gone") = false := by decide +kernel
@[simp] theorem nn_now_came : ¬ (("now" : Str) = "came") := by decide +kernel
@[simp] theorem nb_now_came : (("now" : Str) == "came") = false := by decide +kernel
@[simp] theorem nn_now_counts : ¬ (("now" : Str) = "counts") := by decide +kernel
@[simp] theorem nb_now_counts : (("now" : Str) == "counts") = false := by decide +kernel
@[simp] theorem nn_now_coming : ¬ (("now" : Str) = "coming") := by decide +kernel
@[simp] theorem nb_now_coming : (("now" : Str) == "coming") = false := by decide +kernel
@[simp] theorem nn_now_has : ¬ (("now" : Str) = "has") := by decide +kernel
@[simp] theorem nb_now_has : (("now" : Str) == "has") = false := by decide +kernel
@[simp] theorem nn_now_room_of : ¬ (("now" : Str) = "room_of") := by decide +kernel
@[simp] theorem nb_now_room_of : (("now" : Str) == "room_of") = false := by decide +kernel
@[simp] theorem nn_last_stock : ¬ (("last" : Str) = "stock") := by decide +kernel
@[simp] theorem nb_last_stock : (("last" : Str) == "stock") = false := by decide +kernel
@[simp] theorem nn_last_places : ¬ (("last" : Str) = "places") := by decide +kernel
@[simp] theorem nb_last_places : (("last" : Str) == "places") = false := by decide +kernel
@[simp] theorem nn_last_now : ¬ (("last" : Str) = "now") := by decide +kernel
@[simp] theorem nb_last_now : (("last" : Str) == "now") = false := by decide +kernel
@[simp] theorem nn_last_when : ¬ (("last" : Str) = "when") := by decide +kernel
@[simp] theorem nb_last_when : (("last" : Str) == "when") = false := by decide +kernel
@[simp] theorem nn_last_turn : ¬ (("last" : Str) = "turn") := by decide +kernel
@[simp] theorem nb_last_turn : (("last" : Str) == "turn") = false := by decide +kernel
@[simp] theorem nn_last_tally : ¬ (("last" : Str) = "tally") := by decide +kernel
@[simp] theorem nb_last_tally : (("last" : Str) == "tally") = false := by decide +kernel
@[simp] theorem nn_last_never : ¬ (("last" : Str) = "never") := by decide +kernel
@[simp] theorem nb_last_never : (("last" : Str) == "never") = false := by decide +kernel
@[simp] theorem nn_last_times : ¬ (("last" : Str) = "times") := by decide +kernel
@[simp] theorem nb_last_times : (("last" : Str) == "times") = false := by decide +kernel
@[simp] theorem nn_last_costs : ¬ (("last" : Str) = "costs") := by decide +kernel
@[simp] theorem nb_last_costs : (("last" : Str) == "costs") = false := by decide +kernel
@[simp] theorem nn_last_rooms : ¬ (("last" : Str) = "rooms") := by decide +kernel
@[simp] theorem nb_last_rooms : (("last" : Str) == "rooms") = false := by decide +kernel
@[simp] theorem nn_last_asked : ¬ (("last" : Str) = "asked") := by decide +kernel
@[simp] theorem nb_last_asked : (("last" : Str) == "asked") = false := by decide +kernel
@[simp] theorem nn_last_rank : ¬ (("last" : Str) = "rank") := by decide +kernel
@[simp] theorem nb_last_rank : (("last" : Str) == "rank") = false := by decide +kernel
@[simp] theorem nn_last_choice : ¬ (("last" : Str) = "choice") := by decide +kernel
@[simp] theorem nb_last_choice : (("last" : Str) == "choice") = false := by decide +kernel
@[simp] theorem nn_last_gone : ¬ (("last" : Str) = "gone") := by decide +kernel
@[simp] theorem nb_last_gone : (("last" : Str) == "gone") = false := by decide +kernel
@[simp] theorem nn_last_came : ¬ (("last" : Str) = "came") := by decide +kernel
@[simp] theorem nb_last_came : (("last" : Str) == "came") = false := by decide +kernel
@[simp] theorem nn_last_counts : ¬ (("last" : Str) = "counts") := by decide +kernel
@[simp] theorem nb_last_counts : (("last" : Str) == "counts") = false := by decide +kernel
@[simp] theorem nn_last_coming : ¬ (("last" : Str) = "coming") := by decide +kernel
@[simp] theorem nb_last_coming : (("last" : Str) == "coming") = false := by decide +kernel
@[simp] theorem nn_last_has : ¬ (("last" : Str) = "has") := by decide +kernel
@[simp] theorem nb_last_has : (("last" : Str) == "has") = false := by decide +kernel
@[simp] theorem nn_last_room_of : ¬ (("last" : Str) = "room_of") := by decide +kernel
@[simp] theorem nb_last_room_of : (("last" : Str) == "room_of") = false := by decide +kernel
@[simp] theorem nn_when_stock : ¬ (("when" : Str) = "stock") := by decide +kernel
@[simp] theorem nb_when_stock : (("when" : Str) == "stock") = false := by decide +kernel
@[simp] theorem nn_when_places : ¬ (("when" : Str) = "places") := by decide +kernel
@[simp] theorem nb_when_places : (("when" : Str) == "places") = false := by decide +kernel
@[simp] theorem nn_when_now : ¬ (("when" : Str) = "now") := by decide +kernel
@[simp] theorem nb_when_now : (("when" : Str) == "now") = false := by decide +kernel
@[simp] theorem nn_when_last : ¬ (("when" : Str) = "last") := by decide +kernel
@[simp] theorem nb_when_last : (("when" : Str) == "last") = false := by decide +kernel
@[simp] theorem nn_when_turn : ¬ (("when" : Str) = "turn") := by decide +kernel
@[simp] theorem nb_when_turn : (("when" : Str) == "turn") = false := by decide +kernel
@[simp] theorem nn_when_tally : ¬ (("when" : Str) = "tally") := by decide +kernel
@[simp] theorem nb_when_tally : (("when" : Str) == "tally") = false := by decide +kernel
@[simp] theorem nn_when_never : ¬ (("when" : Str) = "never") := by decide +kernel
@[simp] theorem nb_when_never : (("when" : Str) == "never") = false := by decide +kernel
@[simp] theorem nn_when_times : ¬ (("when" : Str) = "times") := by decide +kernel
@[simp] theorem nb_when_times : (("when" : Str) == "times") = false := by decide +kernel
@[simp] theorem nn_when_costs : ¬ (("when" : Str) = "costs") := by decide +kernel
@[simp] theorem nb_when_costs : (("when" : Str) == "costs") = false := by decide +kernel
@[simp] theorem nn_when_rooms : ¬ (("when" : Str) = "rooms") := by decide +kernel
@[simp] theorem nb_when_rooms : (("when" : Str) == "rooms") = false := by decide +kernel
@[simp] theorem nn_when_asked : ¬ (("when" : Str) = "asked") := by decide +kernel
@[simp] theorem nb_when_asked : (("when" : Str) == "asked") = false := by decide +kernel
@[simp] theorem nn_when_rank : ¬ (("when" : Str) = "rank") := by decide +kernel
@[simp] theorem nb_when_rank : (("when" : Str) == "rank") = false := by decide +kernel
@[simp] theorem nn_when_choice : ¬ (("when" : Str) = "choice") := by decide +kernel
@[simp] theorem nb_when_choice : (("when" : Str) == "choice") = false := by decide +kernel
@[simp] theorem nn_when_gone : ¬ (("when" : Str) = "gone") := by decide +kernel
@[simp] theorem nb_when_gone : (("when" : Str) == "gone") = false := by decide +kernel
@[simp] theorem nn_when_came : ¬ (("when" : Str) = "came") := by decide +kernel
@[simp] theorem nb_when_came : (("when" : Str) == "came") = false := by decide +kernel
@[simp] theorem nn_when_counts : ¬ (("when" : Str) = "counts") := by decide +kernel
@[simp] theorem nb_when_counts : (("when" : Str) == "counts") = false := by decide +kernel
@[simp] theorem nn_when_coming : ¬ (("when" : Str) = "coming") := by decide +kernel
@[simp] theorem nb_when_coming : (("when" : Str) == "coming") = false := by decide +kernel
@[simp] theorem nn_when_has : ¬ (("when" : Str) = "has") := by decide +kernel
@[simp] theorem nb_when_has : (("when" : Str) == "has") = false := by decide +kernel
@[simp] theorem nn_when_room_of : ¬ (("when" : Str) = "room_of") := by decide +kernel
@[simp] theorem nb_when_room_of : (("when" : Str) == "room_of") = false := by decide +kernel
@[simp] theorem nn_turn_stock : ¬ (("turn" : Str) = "stock") := by decide +kernel
@[simp] theorem nb_turn_stock : (("turn" : Str) == "stock") = false := by decide +kernel
@[simp] theorem nn_turn_places : ¬ (("turn" : Str) = "places") := by decide +kernel
@[simp] theorem nb_turn_places : (("turn" : Str) == "places") = false := by decide +kernel
@[simp] theorem nn_turn_now : ¬ (("turn" : Str) = "now") := by decide +kernel
@[simp] theorem nb_turn_now : (("turn" : Str) == "now") = false := by decide +kernel
@[simp] theorem nn_turn_last : ¬ (("turn" : Str) = "last") := by decide +kernel
@[simp] theorem nb_turn_last : (("turn" : Str) == "last") = false := by decide +kernel
@[simp] theorem nn_turn_when : ¬ (("turn" : Str) = "when") := by decide +kernel
@[simp] theorem nb_turn_when : (("turn" : Str) == "when") = false := by decide +kernel
@[simp] theorem nn_turn_tally : ¬ (("turn" : Str) = "tally") := by decide +kernel
@[simp] theorem nb_turn_tally : (("turn" : Str) == "tally") = false := by decide +kernel
@[simp] theorem nn_turn_never : ¬ (("turn" : Str) = "never") := by decide +kernel
@[simp] theorem nb_turn_never : (("turn" : Str) == "never") = false := by decide +kernel
@[simp] theorem nn_turn_times : ¬ (("turn" : Str) = "times") := by decide +kernel
@[simp] theorem nb_turn_times : (("turn" : Str) == "times") = false := by decide +kernel
@[simp] theorem nn_turn_costs : ¬ (("turn" : Str) = "costs") := by decide +kernel
@[simp] theorem nb_turn_costs : (("turn" : Str) == "costs") = false := by decide +kernel
@[simp] theorem nn_turn_rooms : ¬ (("turn" : Str) = "rooms") := by decide +kernel
@[simp] theorem nb_turn_rooms : (("turn" : Str) == "rooms") = false := by decide +kernel
@[simp] theorem nn_turn_asked : ¬ (("turn" : Str) = "asked") := by decide +kernel
@[simp] theorem nb_turn_asked : (("turn" : Str) == "asked") = false := by decide +kernel
@[simp] theorem nn_turn_rank : ¬ (("turn" : Str) = "rank") := by decide +kernel
@[simp] theorem nb_turn_rank : (("turn" : Str) == "rank") = false := by decide +kernel
@[simp] theorem nn_turn_choice : ¬ (("turn" : Str) = "choice") := by decide +kernel
@[simp] theorem nb_turn_choice : (("turn" : Str) == "choice") = false := by decide +kernel
@[simp] theorem nn_turn_gone : ¬ (("turn" : Str) = "gone") := by decide +kernel
@[simp] theorem nb_turn_gone : (("turn" : Str) == "gone") = false := by decide +kernel
@[simp] theorem nn_turn_came : ¬ (("turn" : Str) = "came") := by decide +kernel
@[simp] theorem nb_turn_came : (("turn" : Str) == "came") = false := by decide +kernel
@[simp] theorem nn_turn_counts : ¬ (("turn" : Str) = "counts") := by decide +kernel
@[simp] theorem nb_turn_counts : (("turn" : Str) == "counts") = false := by decide +kernel
@[simp] theorem nn_turn_coming : ¬ (("turn" : Str) = "coming") := by decide +kernel
@[simp] theorem nb_turn_coming : (("turn" : Str) == "coming") = false := by decide +kernel
@[simp] theorem nn_turn_has : ¬ (("turn" : Str) = "has") := by decide +kernel
@[simp] theorem nb_turn_has : (("turn" : Str) == "has") = false := by decide +kernel
@[simp] theorem nn_turn_room_of : ¬ (("turn" : Str) = "room_of") := by decide +kernel
@[simp] theorem nb_turn_room_of : (("turn" : Str) == "room_of") = false := by decide +kernel
@[simp] theorem nn_tally_stock : ¬ (("tally" : Str) = "stock") := by decide +kernel
@[simp] theorem nb_tally_stock : (("tally" : Str) == "stock") = false := by decide +kernel
@[simp] theorem nn_tally_places : ¬ (("tally" : Str) = "places") := by decide +kernel
@[simp] theorem nb_tally_places : (("tally" : Str) == "places") = false := by decide +kernel
@[simp] theorem nn_tally_now : ¬ (("tally" : Str) = "now") := by decide +kernel
@[simp] theorem nb_tally_now : (("tally" : Str) == "now") = false := by decide +kernel
@[simp] theorem nn_tally_last : ¬ (("tally" : Str) = "last") := by decide +kernel
@[simp] theorem nb_tally_last : (("tally" : Str) == "last") = false := by decide +kernel
@[simp] theorem nn_tally_when : ¬ (("tally" : Str) = "when") := by decide +kernel
@[simp] theorem nb_tally_when : (("tally" : Str) == "when") = false := by decide +kernel
@[simp] theorem nn_tally_turn : ¬ (("tally" : Str) = "turn") := by decide +kernel
@[simp] theorem nb_tally_turn : (("tally" : Str) == "turn") = false := by decide +kernel
@[simp] theorem nn_tally_never : ¬ (("tally" : Str) = "never") := by decide +kernel
@[simp] theorem nb_tally_never : (("tally" : Str) == "never") = false := by decide +kernel
@[simp] theorem nn_tally_times : ¬ (("tally" : Str) = "times") := by decide +kernel
@[simp] theorem nb_tally_times : (("tally" : Str) == "times") = false := by decide +kernel
@[simp] theorem nn_tally_costs : ¬ (("tally" : Str) = "costs") := by decide +kernel
@[simp] theorem nb_tally_costs : (("tally" : Str) == "costs") = false := by decide +kernel
@[simp] theorem nn_tally_rooms : ¬ (("tally" : Str) = "rooms") := by decide +kernel
@[simp] theorem nb_tally_rooms : (("tally" : Str) == "rooms") = false := by decide +kernel
@[simp] theorem nn_tally_asked : ¬ (("tally" : Str) = "asked") := by decide +kernel
@[simp] theorem nb_tally_asked : (("tally" : Str) == "asked") = false := by decide +kernel
@[simp] theorem nn_tally_rank : ¬ (("tally" : Str) = "rank") := by decide +kernel
@[simp] theorem nb_tally_rank : (("tally" : Str) == "rank") = false := by decide +kernel
@[simp] theorem nn_tally_choice : ¬ (("tally" : Str) = "choice") := by decide +kernel
@[simp] theorem nb_tally_choice : (("tally" : Str) == "choice") = false := by decide +kernel
@[simp] theorem nn_tally_gone : ¬ (("tally" : Str) = "gone") := by decide +kernel
@[simp] theorem nb_tally_gone : (("tally" : Str) == "gone") = false := by decide +kernel
@[simp] theorem nn_tally_came : ¬ (("tally" : Str) = "came") := by decide +kernel
@[simp] theorem nb_tally_came : (("tally" : Str) == "came") = false := by decide +kernel
@[simp] theorem nn_tally_counts : ¬ (("tally" : Str) = "counts") := by decide +kernel
@[simp] theorem nb_tally_counts : (("tally" : Str) == "counts") = false := by decide +kernel
@[simp] theorem nn_tally_coming : ¬ (("tally" : Str) = "coming") := by decide +kernel
@[simp] theorem nb_tally_coming : (("tally" : Str) == "coming") = false := by decide +kernel
@[simp] theorem nn_tally_has : ¬ (("tally" : Str) = "has") := by decide +kernel
@[simp] theorem nb_tally_has : (("tally" : Str) == "has") = false := by decide +kernel
@[simp] theorem nn_tally_room_of : ¬ (("tally" : Str) = "room_of") := by decide +kernel
@[simp] theorem nb_tally_room_of : (("tally" : Str) == "room_of") = false := by decide +kernel
@[simp] theorem nn_never_stock : ¬ (("never" : Str) = "stock") := by decide +kernel
@[simp] theorem nb_never_stock : (("never" : Str) == "stock") = false := by decide +kernel
@[simp] theorem nn_never_places : ¬ (("never" : Str) = "places") := by decide +kernel
@[simp] theorem nb_never_places : (("never" : Str) == "places") = false := by decide +kernel
@[simp] theorem nn_never_now : ¬ (("never" : Str) = "now") := by decide +kernel
@[simp] theorem nb_never_now : (("never" : Str) == "now") = false := by decide +kernel
@[simp] theorem nn_never_last : ¬ (("never" : Str) = "last") := by decide +kernel
@[simp] theorem nb_never_last : (("never" : Str) == "last") = false := by decide +kernel
@[simp] theorem nn_never_when : ¬ (("never" : Str) = "when") := by decide +kernel
@[simp] theorem nb_never_when : (("never" : Str) == "when") = false := by decide +kernel
@[simp] theorem nn_never_turn : ¬ (("never" : Str) = "turn") := by decide +kernel
@[simp] theorem nb_never_turn : (("never" : Str) == "turn") = false := by decide +kernel
@[simp] theorem nn_never_tally : ¬ (("never" : Str) = "tally") := by decide +kernel
@[simp] theorem nb_never_tally : (("never" : Str) == "tally") = false := by decide +kernel
@[simp] theorem nn_never_times : ¬ (("never" : Str) = "times") := by decide +kernel
@[simp] theorem nb_never_times : (("never" : Str) == "times") = false := by decide +kernel
@[simp] theorem nn_never_costs : ¬ (("never" : Str) = "costs") := by decide +kernel
@[simp] theorem nb_never_costs : (("never" : Str) == "costs") = false := by decide +kernel
@[simp] theorem nn_never_rooms : ¬ (("never" : Str) = "rooms") := by decide +kernel
@[simp] theorem nb_never_rooms : (("never" : Str) == "rooms") = false := by decide +kernel
@[simp] theorem nn_never_asked : ¬ (("never" : Str) = "asked") := by decide +kernel
@[simp] theorem nb_never_asked : (("never" : Str) == "asked") = false := by decide +kernel
@[simp] theorem nn_never_rank : ¬ (("never" : Str) = "rank") := by decide +kernel
@[simp] theorem nb_never_rank : (("never" : Str) == "rank") = false := by decide +kernel
@[simp] theorem nn_never_choice : ¬ (("never" : Str) = "choice") := by decide +kernel
@[simp] theorem nb_never_choice : (("never" : Str) == "choice") = false := by decide +kernel
@[simp] theorem nn_never_gone : ¬ (("never" : Str) = "gone") := by decide +kernel
@[simp] theorem nb_never_gone : (("never" : Str) == "gone") = false := by decide +kernel
@[simp] theorem nn_never_came : ¬ (("never" : Str) = "came") := by decide +kernel
@[simp] theorem nb_never_came : (("never" : Str) == "came") = false := by decide +kernel
@[simp] theorem nn_never_counts : ¬ (("never" : Str) = "counts") := by decide +kernel
@[simp] theorem nb_never_counts : (("never" : Str) == "counts") = false := by decide +kernel
@[simp] theorem nn_never_coming : ¬ (("never" : Str) = "coming") := by decide +kernel
@[simp] theorem nb_never_coming : (("never" : Str) == "coming") = false := by decide +kernel
@[simp] theorem nn_never_has : ¬ (("never" : Str) = "has") := by decide +kernel
@[simp] theorem nb_never_has : (("never" : Str) == "has") = false := by decide +kernel
@[simp] theorem nn_never_room_of : ¬ (("never" : Str) = "room_of") := by decide +kernel
@[simp] theorem nb_never_room_of : (("never" : Str) == "room_of") = false := by decide +kernel
@[simp] theorem nn_times_stock : ¬ (("times" : Str) = "stock") := by decide +kernel
@[simp] theorem nb_times_stock : (("times" : Str) == "stock") = false := by decide +kernel
@[simp] theorem nn_times_places : ¬ (("times" : Str) = "places") := by decide +kernel
@[simp] theorem nb_times_places : (("times" : Str) == "places") = false := by decide +kernel
@[simp] theorem nn_times_now : ¬ (("times" : Str) = "now") := by decide +kernel
@[simp] theorem nb_times_now : (("times" : Str) == "now") = false := by decide +kernel
@[simp] theorem nn_times_last : ¬ (("times" : Str) = "last") := by decide +kernel
@[simp] theorem nb_times_last : (("times" : Str) == "last") = false := by decide +kernel
@[simp] theorem nn_times_when : ¬ (("times" : Str) = "when") := by decide +kernel
@[simp] theorem nb_times_when : (("times" : Str) == "when") = false := by decide +kernel
@[simp] theorem nn_times_turn : ¬ (("times" : Str) = "turn") := by decide +kernel
@[simp] theorem nb_times_turn : (("times" : Str) == "turn") = false := by decide +kernel
@[simp] theorem nn_times_tally : ¬ (("times" : Str) = "tally") := by decide +kernel
@[simp] theorem nb_times_tally : (("times" : Str) == "tally") = false := by decide +kernel
@[simp] theorem nn_times_never : ¬ (("times" : Str) = "never") := by decide +kernel
@[simp] theorem nb_times_never : (("times" : Str) == "never") = false := by decide +kernel
@[simp] theorem nn_times_costs : ¬ (("times" : Str) = "costs") := by decide +kernel
@[simp] theorem nb_times_costs : (("times" : Str) == "costs") = false := by decide +kernel
@[simp] theorem nn_times_rooms : ¬ (("times" : Str) = "rooms") := by decide +kernel
@[simp] theorem nb_times_rooms : (("times" : Str) == "rooms") = false := by decide +kernel
@[simp] theorem nn_times_asked : ¬ (("times" : Str) = "asked") := by decide +kernel
@[simp] theorem nb_times_asked : (("times" : Str) == "asked") = false := by decide +kernel
@[simp] theorem nn_times_rank : ¬ (("times" : Str) = "rank") := by decide +kernel
@[simp] theorem nb_times_rank : (("times" : Str) == "rank") = false := by decide +kernel
@[simp] theorem nn_times_choice : ¬ (("times" : Str) = "choice") := by decide +kernel
@[simp] theorem nb_times_choice : (("times" : Str) == "choice") = false := by decide +kernel
@[simp] theorem nn_times_gone : ¬ (("times" : Str) = "gone") := by decide +kernel
@[simp] theorem nb_times_gone : (("times" : Str) == "gone") = false := by decide +kernel
@[simp] theorem nn_times_came : ¬ (("times" : Str) = "came") := by decide +kernel
@[simp] theorem nb_times_came : (("times" : Str) == "came") = false := by decide +kernel
@[simp] theorem nn_times_counts : ¬ (("times" : Str) = "counts") := by decide +kernel
@[simp] theorem nb_times_counts : (("times" : Str) == "counts") = false := by decide +kernel
@[simp] theorem nn_times_coming : ¬ (("times" : Str) = "coming") := by decide +kernel
@[simp] theorem nb_times_coming : (("times" : Str) == "coming") = false := by decide +kernel
@[simp] theorem nn_times_has : ¬ (("times" : Str) = "has") := by decide +kernel
@[simp] theorem nb_times_has : (("times" : Str) == "has") = false := by decide +kernel
@[simp] theorem nn_times_room_of : ¬ (("times" : Str) = "room_of") := by decide +kernel
@[simp] theorem nb_times_room_of : (("times" : Str) == "room_of") = false := by decide +kernel
@[simp] theorem nn_costs_stock : ¬ (("costs" : Str) = "stock") := by decide +kernel
@[simp] theorem nb_costs_stock : (("costs" : Str) == "stock") = false := by decide +kernel
@[simp] theorem nn_costs_places : ¬ (("costs" : Str) = "places") := by decide +kernel
@[simp] theorem nb_costs_places : (("costs" : Str) == "places") = false := by decide +kernel
@[simp] theorem nn_costs_now : ¬ (("costs" : Str) = "now") := by decide +kernel
@[simp] theorem nb_costs_now : (("costs" : Str) == "now") = false := by decide +kernel
@[simp] theorem nn_costs_last : ¬ (("costs" : Str) = "last") := by decide +kernel
@[simp] theorem nb_costs_last : (("costs" : Str) == "last") = false := by decide +kernel
@[simp] theorem nn_costs_when : ¬ (("costs" : Str) = "when") := by decide +kernel
@[simp] theorem nb_costs_when : (("costs" : Str) == "when") = false := by decide +kernel
@[simp] theorem nn_costs_turn : ¬ (("costs" : Str) = "turn") := by decide +kernel
@[simp] theorem nb_costs_turn : (("costs" : Str) == "turn") = false := by decide +kernel
@[simp] theorem nn_costs_tally : ¬ (("costs" : Str) = "tally") := by decide +kernel
@[simp] theorem nb_costs_tally : (("costs" : Str) == "tally") = false := by decide +kernel
@[simp] theorem nn_costs_never : ¬ (("costs" : Str) = "never") := by decide +kernel
@[simp] theorem nb_costs_never : (("costs" : Str) == "never") = false := by decide +kernel
@[simp] theorem nn_costs_times : ¬ (("costs" : Str) = "times") := by decide +kernel
@[simp] theorem nb_costs_times : (("costs" : Str) == "times") = false := by decide +kernel
@[simp] theorem nn_costs_rooms : ¬ (("costs" : Str) = "rooms") := by decide +kernel
@[simp] theorem nb_costs_rooms : (("costs" : Str) == "rooms") = false := by decide +kernel
@[simp] theorem nn_costs_asked : ¬ (("costs" : Str) = "asked") := by decide +kernel
@[simp] theorem nb_costs_asked : (("costs" : Str) == "asked") = false := by decide +kernel
@[simp] theorem nn_costs_rank : ¬ (("costs" : Str) = "rank") := by decide +kernel
@[simp] theorem nb_costs_rank : (("costs" : Str) == "rank") = false := by decide +kernel
@[simp] theorem nn_costs_choice : ¬ (("costs" : Str) = "choice") := by decide +kernel
@[simp] theorem nb_costs_choice : (("costs" : Str) == "choice") = false := by decide +kernel
@[simp] theorem nn_costs_gone : ¬ (("costs" : Str) = "gone") := by decide +kernel
@[simp] theorem nb_costs_gone : (("costs" : Str) == "gone") = false := by decide +kernel
@[simp] theorem nn_costs_came : ¬ (("costs" : Str) = "came") := by decide +kernel
@[simp] theorem nb_costs_came : (("costs" : Str) == "came") = false := by decide +kernel
@[simp] theorem nn_costs_counts : ¬ (("costs" : Str) = "counts") := by decide +kernel
@[simp] theorem nb_costs_counts : (("costs" : Str) == "counts") = false := by decide +kernel
@[simp] theorem nn_costs_coming : ¬ (("costs" : Str) = "coming") := by decide +kernel
@[simp] theorem nb_costs_coming : (("costs" : Str) == "coming") = false := by decide +kernel
@[simp] theorem nn_costs_has : ¬ (("costs" : Str) = "has") := by decide +kernel
@[simp] theorem nb_costs_has : (("costs" : Str) == "has") = false := by decide +kernel
@[simp] theorem nn_costs_room_of : ¬ (("costs" : Str) = "room_of") := by decide +kernel
@[simp] theorem nb_costs_room_of : (("costs" : Str) == "room_of") = false := by decide +kernel
@[simp] theorem nn_rooms_stock : ¬ (("rooms" : Str) = "stock") := by decide +kernel
@[simp] theorem nb_rooms_stock : (("rooms" : Str) == "stock") = false := by decide +kernel
@[simp] theorem nn_rooms_places : ¬ (("rooms" : Str) = "places") := by decide +kernel
@[simp] theorem nb_rooms_places : (("rooms" : Str) == "places") = false := by decide +kernel
@[simp] theorem nn_rooms_now : ¬ (("rooms" : Str) = "now") := by decide +kernel
@[simp] theorem nb_rooms_now : (("rooms" : Str) == "now") = false := by decide +kernel
@[simp] theorem nn_rooms_last : ¬ (("rooms" : Str) = "last") := by decide +kernel
@[simp] theorem nb_rooms_last : (("rooms" : Str) == "last") = false := by decide +kernel
@[simp] theorem nn_rooms_when : ¬ (("rooms" : Str) = "when") := by decide +kernel
@[simp] theorem nb_rooms_when : (("rooms" : Str) == "when") = false := by decide +kernel
@[simp] theorem nn_rooms_turn : ¬ (("rooms" : Str) = "turn") := by decide +kernel
@[simp] theorem nb_rooms_turn : (("rooms" : Str) == "turn") = false := by decide +kernel
@[simp] theorem nn_rooms_tally : ¬ (("rooms" : Str) = "tally") := by decide +kernel
@[simp] theorem nb_rooms_tally : (("rooms" : Str) == "tally") = false := by decide +kernel
@[simp] theorem nn_rooms_never : ¬ (("rooms" : Str) = "never") := by decide +kernel
@[simp] theorem nb_rooms_never : (("rooms" : Str) == "never") = false := by decide +kernel
@[simp] theorem nn_rooms_times : ¬ (("rooms" : Str) = "times") := by decide +kernel
@[simp] theorem nb_rooms_times : (("rooms" : Str) == "times") = false := by decide +kernel
@[simp] theorem nn_rooms_costs : ¬ (("rooms" : Str) = "costs") := by decide +kernel
@[simp] theorem nb_rooms_costs : (("rooms" : Str) == "costs") = false := by decide +kernel
@[simp] theorem nn_rooms_asked : ¬ (("rooms" : Str) = "asked") := by decide +kernel
@[simp] theorem nb_rooms_asked : (("rooms" : Str) == "asked") = false := by decide +kernel
@[simp] theorem nn_rooms_rank : ¬ (("rooms" : Str) = "rank") := by decide +kernel
@[simp] theorem nb_rooms_rank : (("rooms" : Str) == "rank") = false := by decide +kernel
@[simp] theorem nn_rooms_choice : ¬ (("rooms" : Str) = "choice") := by decide +kernel
@[simp] theorem nb_rooms_choice : (("rooms" : Str) == "choice") = false := by decide +kernel
@[simp] theorem nn_rooms_gone : ¬ (("rooms" : Str) = "gone") := by decide +kernel
@[simp] theorem nb_rooms_gone : (("rooms" : Str) == "gone") = false := by decide +kernel
@[simp] theorem nn_rooms_came : ¬ (("rooms" : Str) = "came") := by decide +kernel
@[simp] theorem nb_rooms_came : (("rooms" : Str) == "came") = false := by decide +kernel
@[simp] theorem nn_rooms_counts : ¬ (("rooms" : Str) = "counts") := by decide +kernel
@[simp] theorem nb_rooms_counts : (("rooms" : Str) == "counts") = false := by decide +kernel
@[simp] theorem nn_rooms_coming : ¬ (("rooms" : Str) = "coming") := by decide +kernel
@[simp] theorem nb_rooms_coming : (("rooms" : Str) == "coming") = false := by decide +kernel
@[simp] theorem nn_rooms_has : ¬ (("rooms" : Str) = "has") := by decide +kernel
@[simp] theorem nb_rooms_has : (("rooms" : Str) == "has") = false := by decide +kernel
@[simp] theorem nn_rooms_room_of : ¬ (("rooms" : Str) = "room_of") := by decide +kernel
@[simp] theorem nb_rooms_room_of : (("rooms" : Str) == "room_of") = false := by decide +kernel
@[simp] theorem nn_asked_stock : ¬ (("asked" : Str) = "stock") := by decide +kernel
@[simp] theorem nb_asked_stock : (("asked" : Str) == "stock") = false := by decide +kernel
@[simp] theorem nn_asked_places : ¬ (("asked" : Str) = "places") := by decide +kernel
@[simp] theorem nb_asked_places : (("asked" : Str) == "places") = false := by decide +kernel
@[simp] theorem nn_asked_now : ¬ (("asked" : Str) = "now") := by decide +kernel
@[simp] theorem nb_asked_now : (("asked" : Str) == "now") = false := by decide +kernel
@[simp] theorem nn_asked_last : ¬ (("asked" : Str) = "last") := by decide +kernel
@[simp] theorem nb_asked_last : (("asked" : Str) == "last") = false := by decide +kernel
@[simp] theorem nn_asked_when : ¬ (("asked" : Str) = "when") := by decide +kernel
@[simp] theorem nb_asked_when : (("asked" : Str) == "when") = false := by decide +kernel
@[simp] theorem nn_asked_turn : ¬ (("asked" : Str) = "turn") := by decide +kernel
@[simp] theorem nb_asked_turn : (("asked" : Str) == "turn") = false := by decide +kernel
@[simp] theorem nn_asked_tally : ¬ (("asked" : Str) = "tally") := by decide +kernel
@[simp] theorem nb_asked_tally : (("asked" : Str) == "tally") = false := by decide +kernel
@[simp] theorem nn_asked_never : ¬ (("asked" : Str) = "never") := by decide +kernel
@[simp] theorem nb_asked_never : (("asked" : Str) == "never") = false := by decide +kernel
@[simp] theorem nn_asked_times : ¬ (("asked" : Str) = "times") := by decide +kernel
@[simp] theorem nb_asked_times : (("asked" : Str) == "times") = false := by decide +kernel
@[simp] theorem nn_asked_costs : ¬ (("asked" : Str) = "costs") := by decide +kernel
@[simp] theorem nb_asked_costs : (("asked" : Str) == "costs") = false := by decide +kernel
@[simp] theorem nn_asked_rooms : ¬ (("asked" : Str) = "rooms") := by decide +kernel
@[simp] theorem nb_asked_rooms : (("asked" : Str) == "rooms") = false := by decide +kernel
@[simp] theorem nn_rank_stock : ¬ (("rank" : Str) = "stock") := by decide +kernel
@[simp] theorem nb_rank_stock : (("rank" : Str) == "stock") = false := by decide +kernel
@[simp] theorem nn_rank_places : ¬ (("rank" : Str) = "places") := by decide +kernel
@[simp] theorem nb_rank_places : (("rank" : Str) == "places") = false := by decide +kernel
@[simp] theorem nn_rank_now : ¬ (("rank" : Str) = "now") := by decide +kernel
@[simp] theorem nb_rank_now : (("rank" : Str) == "now") = false := by decide +kernel
@[simp] theorem nn_rank_last : ¬ (("rank" : Str) = "last") := by decide +kernel
@[simp] theorem nb_rank_last : (("rank" : Str) == "last") = false := by decide +kernel
@[simp] theorem nn_rank_when : ¬ (("rank" : Str) = "when") := by decide +kernel
@[simp] theorem nb_rank_when : (("rank" : Str) == "when") = false := by decide +kernel
@[simp] theorem nn_rank_turn : ¬ (("rank" : Str) = "turn") := by decide +kernel
@[simp] theorem nb_rank_turn : (("rank" : Str) == "turn") = false := by decide +kernel
@[simp] theorem nn_rank_tally : ¬ (("rank" : Str) = "tally") := by decide +kernel
@[simp] theorem nb_rank_tally : (("rank" : Str) == "tally") = false := by decide +kernel
@[simp] theorem nn_rank_never : ¬ (("rank" : Str) = "never") := by decide +kernel
@[simp] theorem nb_rank_never : (("rank" : Str) == "never") = false := by decide +kernel
@[simp] theorem nn_rank_times : ¬ (("rank" : Str) = "times") := by decide +kernel
@[simp] theorem nb_rank_times : (("rank" : Str) == "times") = false := by decide +kernel
@[simp] theorem nn_rank_costs : ¬ (("rank" : Str) = "costs") := by decide +kernel
@[simp] theorem nb_rank_costs : (("rank" : Str) == "costs") = false := by decide +kernel
@[simp] theorem nn_rank_rooms : ¬ (("rank" : Str) = "rooms") := by decide +kernel
@[simp] theorem nb_rank_rooms : (("rank" : Str) == "rooms") = false := by decide +kernel
@[simp] theorem nn_choice_stock : ¬ (("choice" : Str) = "stock") := by decide +kernel
@[simp] theorem nb_choice_stock : (("choice" : Str) == "stock") = false := by decide +kernel
@[simp] theorem nn_choice_places : ¬ (("choice" : Str) = "places") := by decide +kernel
@[simp] theorem nb_choice_places : (("choice" : Str) == "places") = false := by decide +kernel
@[simp] theorem nn_choice_now : ¬ (("choice" : Str) = "now") := by decide +kernel
@[simp] theorem nb_choice_now : (("choice" : Str) == "now") = false := by decide +kernel
@[simp] theorem nn_choice_last : ¬ (("choice" : Str) = "last") := by decide +kernel
@[simp] theorem nb_choice_last : (("choice" : Str) == "last") = false := by decide +kernel
@[simp] theorem nn_choice_when : ¬ (("choice" : Str) = "when") := by decide +kernel
@[simp] theorem nb_choice_when : (("choice" : Str) == "when") = false := by decide +kernel
@[simp] theorem nn_choice_turn : ¬ (("choice" : Str) = "turn") := by decide +kernel
@[simp] theorem nb_choice_turn : (("choice" : Str) == "turn") = false := by decide +kernel
@[simp] theorem nn_choice_tally : ¬ (("choice" : Str) = "tally") := by decide +kernel
@[simp] theorem nb_choice_tally : (("choice" : Str) == "tally") = false := by decide +kernel
@[simp] theorem nn_choice_never : ¬ (("choice" : Str) = "never") := by decide +kernel
@[simp] theorem nb_choice_never : (("choice" : Str) == "never") = false := by decide +kernel
@[simp] theorem nn_choice_times : ¬ (("choice" : Str) = "times") := by decide +kernel
@[simp] theorem nb_choice_times : (("choice" : Str) == "times") = false := by decide +kernel
@[simp] theorem nn_choice_costs : ¬ (("choice" : Str) = "costs") := by decide +kernel
@[simp] theorem nb_choice_costs : (("choice" : Str) == "costs") = false := by decide +kernel
@[simp] theorem nn_choice_rooms : ¬ (("choice" : Str) = "rooms") := by decide +kernel
@[simp] theorem nb_choice_rooms : (("choice" : Str) == "rooms") = false := by decide +kernel
@[simp] theorem nn_gone_stock : ¬ (("gone" : Str) = "stock") := by decide +kernel
@[simp] theorem nb_gone_stock : (("gone" : Str) == "stock") = false := by decide +kernel
@[simp] theorem nn_gone_places : ¬ (("gone" : Str) = "places") := by decide +kernel
@[simp] theorem nb_gone_places : (("gone" : Str) == "places") = false := by decide +kernel
@[simp] theorem nn_gone_now : ¬ (("gone" : Str) = "now") := by decide +kernel
@[simp] theorem nb_gone_now : (("gone" : Str) == "now") = false := by decide +kernel
@[simp] theorem nn_gone_last : ¬ (("gone" : Str) = "last") := by decide +kernel
@[simp] theorem nb_gone_last : (("gone" : Str) == "last") = false := by decide +kernel
@[simp] theorem nn_gone_when : ¬ (("gone" : Str) = "when") := by decide +kernel
@[simp] theorem nb_gone_when : (("gone" : Str) == "when") = false := by decide +kernel
@[simp] theorem nn_gone_turn : ¬ (("gone" : Str) = "turn") := by decide +kernel
@[simp] theorem nb_gone_turn : (("gone" : Str) == "turn") = false := by decide +kernel
@[simp] theorem nn_gone_tally : ¬ (("gone" : Str) = "tally") := by decide +kernel
@[simp] theorem nb_gone_tally : (("gone" : Str) == "tally") = false := by decide +kernel
@[simp] theorem nn_gone_never : ¬ (("gone" : Str) = "never") := by decide +kernel
@[simp] theorem nb_gone_never : (("gone" : Str) == "never") = false := by decide +kernel
@[simp] theorem nn_gone_times : ¬ (("gone" : Str) = "times") := by decide +kernel
@[simp] theorem nb_gone_times : (("gone" : Str) == "times") = false := by decide +kernel
@[simp] theorem nn_gone_costs : ¬ (("gone" : Str) = "costs") := by decide +kernel
@[simp] theorem nb_gone_costs : (("gone" : Str) == "costs") = false := by decide +kernel
@[simp] theorem nn_gone_rooms : ¬ (("gone" : Str) = "rooms") := by decide +kernel
@[simp] theorem nb_gone_rooms : (("gone" : Str) == "rooms") = false := by decide +kernel
@[simp] theorem nn_came_stock : ¬ (("came" : Str) = "stock") := by decide +kernel
@[simp] theorem nb_came_stock : (("came" : Str) == "stock") = false := by decide +kernel
@[simp] theorem nn_came_places : ¬ (("came" : Str) = "places") := by decide +kernel
@[simp] theorem nb_came_places : (("came" : Str) == "places") = false := by decide +kernel
@[simp] theorem nn_came_now : ¬ (("came" : Str) = "now") := by decide +kernel
@[simp] theorem nb_came_now : (("came" : Str) == "now") = false := by decide +kernel
@[simp] theorem nn_came_last : ¬ (("came" : Str) = "last") := by decide +kernel
@[simp] theorem nb_came_last : (("came" : Str) == "last") = false := by decide +kernel
@[simp] theorem nn_came_when : ¬ (("came" : Str) = "when") := by decide +kernel
@[simp] theorem nb_came_when : (("came" : Str) == "when") = false := by decide +kernel
@[simp] theorem nn_came_turn : ¬ (("came" : Str) = "turn") := by decide +kernel
@[simp] theorem nb_came_turn : (("came" : Str) == "turn") = false := by decide +kernel
@[simp] theorem nn_came_tally : ¬ (("came" : Str) = "tally") := by decide +kernel
@[simp] theorem nb_came_tally : (("came" : Str) == "tally") = false := by decide +kernel
@[simp] theorem nn_came_never : ¬ (("came" : Str) = "never") := by decide +kernel
@[simp] theorem nb_came_never : (("came" : Str) == "never") = false := by decide +kernel
@[simp] theorem nn_came_times : ¬ (("came" : Str) = "times") := by decide +kernel
@[simp] theorem nb_came_times : (("came" : Str) == "times") = false := by decide +kernel
@[simp] theorem nn_came_costs : ¬ (("came" : Str) = "costs") := by decide +kernel
@[simp] theorem nb_came_costs : (("came" : Str) == "costs") = false := by decide +kernel
@[simp] theorem nn_came_rooms : ¬ (("came" : Str) = "rooms") := by decide +kernel
@[simp] theorem nb_came_rooms : (("came" : Str) == "rooms") = false := by decide +kernel
@[simp] theorem nn_counts_stock : ¬ (("counts" : Str) = "stock") := by decide +kernel
@[simp] theorem nb_counts_stock : (("counts" : Str) == "stock") = false := by decide +kernel
@[simp] theorem nn_counts_places : ¬ (("counts" : Str) = "places") := by decide +kernel
@[simp] theorem nb_counts_places : (("counts" : Str) == "places") = false := by decide +kernel
@[simp] theorem nn_counts_now : ¬ (("counts" : Str) = "now") := by decide +kernel
@[simp] theorem nb_counts_now : (("counts" : Str) == "now") = false := by decide +kernel
@[simp] theorem nn_counts_last : ¬ (("counts" : Str) = "last") := by decide +kernel
@[simp] theorem nb_counts_last : (("counts" : Str) == "last") = false := by decide +kernel
@[simp] theorem nn_counts_when : ¬ (("counts" : Str) = "when") := by decide +kernel
@[simp] theorem nb_counts_when : (("counts" : Str) == "when") = false := by decide +kernel
@[simp] theorem nn_counts_turn : ¬ (("counts" : Str) = "turn") := by decide +kernel
@[simp] theorem nb_counts_turn : (("counts" : Str) == "turn") = false := by decide +kernel
@[simp] theorem nn_counts_tally : ¬ (("counts" : Str) = "tally") := by decide +kernel
@[simp] theorem nb_counts_tally : (("counts" : Str) == "tally") = false := by decide +kernel
@[simp] theorem nn_counts_never : ¬ (("counts" : Str) = "never") := by decide +kernel
@[simp] theorem nb_counts_never : (("counts" : Str) == "never") = false := by decide +kernel
@[simp] theorem nn_counts_times : ¬ (("counts" : Str) = "times") := by decide +kernel
@[simp] theorem nb_counts_times : (("counts" : Str) == "times") = false := by decide +kernel
@[simp] theorem nn_counts_costs : ¬ (("counts" : Str) = "costs") := by decide +kernel
@[simp] theorem nb_counts_costs : (("counts" : Str) == "costs") = false := by decide +kernel
@[simp] theorem nn_counts_rooms : ¬ (("counts" : Str) = "rooms") := by decide +kernel
@[simp] theorem nb_counts_rooms : (("counts" : Str) == "rooms") = false := by decide +kernel
@[simp] theorem nn_coming_stock : ¬ (("coming" : Str) = "stock") := by decide +kernel
@[simp] theorem nb_coming_stock : (("coming" : Str) == "stock") = false := by decide +kernel
@[simp] theorem nn_coming_places : ¬ (("coming" : Str) = "places") := by decide +kernel
@[simp] theorem nb_coming_places : (("coming" : Str) == "places") = false := by decide +kernel
@[simp] theorem nn_coming_now : ¬ (("coming" : Str) = "now") := by decide +kernel
@[simp] theorem nb_coming_now : (("coming" : Str) == "now") = false := by decide +kernel
@[simp] theorem nn_coming_last : ¬ (("coming" : Str) = "last") := by decide +kernel
@[simp] theorem nb_coming_last : (("coming" : Str) == "last") = false := by decide +kernel
@[simp] theorem nn_coming_when : ¬ (("coming" : Str) = "when") := by decide +kernel
@[simp] theorem nb_coming_when : (("coming" : Str) == "when") = false := by decide +kernel
@[simp] theorem nn_coming_turn : ¬ (("coming" : Str) = "turn") := by decide +kernel
@[simp] theorem nb_coming_turn : (("coming" : Str) == "turn") = false := by decide +kernel
@[simp] theorem nn_coming_tally : ¬ (("coming" : Str) = "tally") := by decide +kernel
@[simp] theorem nb_coming_tally : (("coming" : Str) == "tally") = false := by decide +kernel
@[simp] theorem nn_coming_never : ¬ (("coming" : Str) = "never") := by decide +kernel
@[simp] theorem nb_coming_never : (("coming" : Str) == "never") = false := by decide +kernel
@[simp] theorem nn_coming_times : ¬ (("coming" : Str) = "times") := by decide +kernel
@[simp] theorem nb_coming_times : (("coming" : Str) == "times") = false := by decide +kernel
@[simp] theorem nn_coming_costs : ¬ (("coming" : Str) = "costs") := by decide +kernel
@[simp] theorem nb_coming_costs : (("coming" : Str) == "costs") = false := by decide +kernel
@[simp] theorem nn_coming_rooms : ¬ (("coming" : Str) = "rooms") := by decide +kernel
@[simp] theorem nb_coming_rooms : (("coming" : Str) == "rooms") = false := by decide +kernel
@[simp] theorem nn_has_stock : ¬ (("has" : Str) = "stock") := by decide +kernel
@[simp] theorem nb_has_stock : (("has" : Str) == "stock") = false := by decide +kernel
@[simp] theorem nn_has_places : ¬ (("has" : Str) = "places") := by decide +kernel
@[simp] theorem nb_has_places : (("has" : Str) == "places") = false := by decide +kernel
@[simp] theorem nn_has_now : ¬ (("has" : Str) = "now") := by decide +kernel
@[simp] theorem nb_has_now : (("has" : Str) == "now") = false := by decide +kernel
@[simp] theorem nn_has_last : ¬ (("has" : Str) = "last") := by decide +kernel
@[simp] theorem nb_has_last : (("has" : Str) == "last") = false := by decide +kernel
@[simp] theorem nn_has_when : ¬ (("has" : Str) = "when") := by decide +kernel
@[simp] theorem nb_has_when : (("has" : Str) == "when") = false := by decide +kernel
@[simp] theorem nn_has_turn : ¬ (("has" : Str) = "turn") := by decide +kernel
@[simp] theorem nb_has_turn : (("has" : Str) == "turn") = false := by decide +kernel
@[simp] theorem nn_has_tally : ¬ (("has" : Str) = "tally") := by decide +kernel
@[simp] theorem nb_has_tally : (("has" : Str) == "tally") = false := by decide +kernel
@[simp] theorem nn_has_never : ¬ (("has" : Str) = "never") := by decide +kernel
@[simp] theorem nb_has_never : (("has" : Str) == "never") = false := by decide +kernel
@[simp] theorem nn_has_times : ¬ (("has" : Str) = "times") := by decide +kernel
@[simp] theorem nb_has_times : (("has" : Str) == "times") = false := by decide +kernel
@[simp] theorem nn_has_costs : ¬ (("has" : Str) = "costs") := by decide +kernel
@[simp] theorem nb_has_costs : (("has" : Str) == "costs") = false := by decide +kernel
@[simp] theorem nn_has_rooms : ¬ (("has" : Str) = "rooms") := by decide +kernel
@[simp] theorem nb_has_rooms : (("has" : Str) == "rooms") = false := by decide +kernel
@[simp] theorem nn_room_of_stock : ¬ (("room_of" : Str) = "stock") := by decide +kernel
@[simp] theorem nb_room_of_stock : (("room_of" : Str) == "stock") = false := by decide +kernel
@[simp] theorem nn_room_of_places : ¬ (("room_of" : Str) = "places") := by decide +kernel
@[simp] theorem nb_room_of_places : (("room_of" : Str) == "places") = false := by decide +kernel
@[simp] theorem nn_room_of_now : ¬ (("room_of" : Str) = "now") := by decide +kernel
@[simp] theorem nb_room_of_now : (("room_of" : Str) == "now") = false := by decide +kernel
@[simp] theorem nn_room_of_last : ¬ (("room_of" : Str) = "last") := by decide +kernel
@[simp] theorem nb_room_of_last : (("room_of" : Str) == "last") = false := by decide +kernel
@[simp] theorem nn_room_of_when : ¬ (("room_of" : Str) = "when") := by decide +kernel
@[simp] theorem nb_room_of_when : (("room_of" : Str) == "when") = false := by decide +kernel
@[simp] theorem nn_room_of_turn : ¬ (("room_of" : Str) = "turn") := by decide +kernel
@[simp] theorem nb_room_of_turn : (("room_of" : Str) == "turn") = false := by decide +kernel
@[simp] theorem nn_room_of_tally : ¬ (("room_of" : Str) = "tally") := by decide +kernel
@[simp] theorem nb_room_of_tally : (("room_of" : Str) == "tally") = false := by decide +kernel
@[simp] theorem nn_room_of_never : ¬ (("room_of" : Str) = "never") := by decide +kernel
@[simp] theorem nb_room_of_never : (("room_of" : Str) == "never") = false := by decide +kernel
@[simp] theorem nn_room_of_times : ¬ (("room_of" : Str) = "times") := by decide +kernel
@[simp] theorem nb_room_of_times : (("room_of" : Str) == "times") = false := by decide +kernel
@[simp] theorem nn_room_of_costs : ¬ (("room_of" : Str) = "costs") := by decide +kernel
@[simp] theorem nb_room_of_costs : (("room_of" : Str) == "costs") = false := by decide +kernel
@[simp] theorem nn_room_of_rooms : ¬ (("room_of" : Str) = "rooms") := by decide +kernel
@[simp] theorem nb_room_of_rooms : (("room_of" : Str) == "rooms") = false := by decide +kernel
theorem iteDF {c : Prop} [Decidable c] {A B : Prop} (h : ¬ c) (b : B) : if decide c = true then A else B := by
  rw [decide_eq_false h]
  exact iteF b
theorem iteDT {c : Prop} [Decidable c] {A B : Prop} (h : c) (a : A) : if decide c = true then A else B := by
  rw [decide_eq_true h]
  exact iteT a
theorem iteNF {c : Prop} [Decidable c] {A B : Prop} (h : c) (b : B) : if (!decide c) = true then A else B := by
  rw [decide_eq_true h]
  exact iteF b
theorem iteNT {c : Prop} [Decidable c] {A B : Prop} (h : ¬ c) (a : A) : if (!decide c) = true then A else B := by
  rw [decide_eq_false h]
  exact iteT a
theorem iteBF {c : Bool} {A B : Prop} (h : c = false) (b : B) : if c = true then A else B := by
  rw [h]
  exact iteF b
theorem iteBT {c : Bool} {A B : Prop} (h : c = true) (a : A) : if c = true then A else B := by
  rw [h]
  exact iteT a
theorem ite2D {c : Prop} [Decidable c] {A B : Prop} (h1 : c → A) (h2 : ¬ c → B) : if decide c = true then A else B := by
  by_cases h : c
  · exact iteDT h (h1 h)
  · exact iteDF h (h2 h)
/-! ### names, rows, the stock -/
def LET : Str := "abcdefghijklmnopqrstuvwxyz"
def FIG : Str := "0123456789"
structure NmOk (z : Str) : Prop where
  lo : 1 ≤ z.length
  hi : z.length ≤ 8
  all : ∀ c ∈ z.cps.toList, c ∈ LET.cps.toList ∨ c ∈ FIG.cps.toList
  first : ∃ c, z.cps[0]? = some c ∧ c ∈ LET.cps.toList
abbrev Row3 := Str × Int × Int
def rowV (r : Row3) : List V := [.str r.1, .int r.2.1, .int r.2.2]
def RowsAt (H : Hp) (p : Addr) (rows : List Row3) : Prop := ∃ ts : List Addr, H p = some (.lst (ts.map V.ref)) ∧ ts.length = rows.length ∧ ∀ (i : Nat) (t : Addr) (r : Row3), ts[i]? = some t → rows[i]? = some r → H t = some (.tup (rowV r))
theorem RowsAt.same {H H' : Hp} {p : Addr} {rows : List Row3} (r : RowsAt H p rows) (s : Same H H') : RowsAt H' p rows :=
  let ⟨ts, a, b, c⟩ := r
  ⟨ts, s _ _ a, b, fun i t r h1 h2 => s _ _ (c i t r h1 h2)⟩
structure RowsOk (rows : List Row3) : Prop where
  nd : (rows.map (·.1)).Nodup
  nm : ∀ r ∈ rows, NmOk r.1
  co : ∀ r ∈ rows, 0 ≤ r.2.1 ∧ r.2.1 ≤ 1000
  ro : ∀ r ∈ rows, 1 ≤ r.2.2 ∧ r.2.2 ≤ 1000
  lo : 1 ≤ rows.length
  hi : rows.length ≤ 60
/-! ### dicts from texts to ints -/
abbrev DI := List (Str × Int)
def enc (d : DI) : List (Key × V) := d.map fun p => ((Sum.inr p.1 : Key), V.int p.2)
def lk (d : DI) (z : Str) : Int := ((d.find? fun p => decide (p.1 = z)).map (·.2)).getD 0
def put (d : DI) (z : Str) (i : Int) : DI := if (d.any fun p => decide (p.1 = z)) = true then d.map (fun p => if p.1 = z then (p.1, i) else p) else d ++ [(z, i)]
def keys (d : DI) : List Str := d.map (·.1)
theorem enc_len (d : DI) : (enc d).length = d.length := List.length_map ..
theorem inr_eq (a z : Str) : ((Sum.inr a : Key) = Sum.inr z) = (a = z) := propext ⟨fun h => Sum.inr.inj h, fun h => by rw [h]⟩
theorem valV_enc (d : DI) (z : Str) : valV (enc d) (Sum.inr z : Key) = ((d.find? fun p => decide (p.1 = z)).map fun p => V.int p.2) := by
  unfold valV enc
  induction d with
  | nil => rfl
  | cons p r ih =>
    by_cases h : p.1 = z
    · simp [h]
    · simp only [List.map_cons, List.find?_cons, inr_eq, h, decide_false] at ih ⊢
      exact ih
theorem get_enc (d : DI) (z : Str) : (valV (enc d) (Sum.inr z : Key)).getD (.int 0) = .int (lk d z) := by
  rw [valV_enc]
  unfold lk
  cases d.find? fun p => decide (p.1 = z) <;> rfl
theorem has_enc {d : DI} {z : Str} (h : z ∈ keys d) : valV (enc d) (Sum.inr z : Key) = some (.int (lk d z)) := by
  rw [valV_enc]
  unfold lk
  cases e : d.find? fun p => decide (p.1 = z) with
  | some q => rfl
  | none =>
    obtain ⟨p, hp, e2⟩ := List.mem_map.mp h
    exact absurd (decide_eq_true e2) (by simpa using List.find?_eq_none.mp e p hp)
theorem any_enc (d : DI) (z : Str) : ((enc d).any fun kv => decide (kv.1 = (Sum.inr z : Key))) = d.any fun p => decide (p.1 = z) := by
  unfold enc
  induction d with
  | nil => rfl
  | cons p r ih =>
    simp only [List.map_cons, List.any_cons, ih, inr_eq]
theorem put_enc (d : DI) (z : Str) (i : Int) : putK (enc d) (Sum.inr z : Key) (.int i) = enc (put d z i) := by
  unfold putK put
  rw [any_enc]
  split
  · unfold enc
    rw [List.map_map]; rw [List.map_map]
    refine List.map_congr_left fun p _ => ?_
    by_cases h : p.1 = z
    · simp [h]
    · simp [h]
  · unfold enc
    rw [List.map_append]
    rfl
theorem put_len (d : DI) (z : Str) (i : Int) : (put d z i).length ≤ d.length + 1 := by
  unfold put
  split
  · rw [List.length_map]; omega
  · rw [List.length_append]; exact Nat.le_refl _
theorem any_keys {d : DI} {z : Str} (h : z ∈ keys d) : (d.any fun p => decide (p.1 = z)) = true := by
  obtain ⟨p, hp, e⟩ := List.mem_map.mp h
  exact List.any_eq_true.mpr ⟨_, hp, decide_eq_true e⟩
theorem put_keys {d : DI} {z : Str} (i : Int) (h : z ∈ keys d) : keys (put d z i) = keys d := by
  unfold put keys
  rw [if_pos (any_keys h), List.map_map]
  refine List.map_congr_left fun p _ => ?_
  by_cases e : p.1 = z
  · simp [e]
  · simp [e]
def half1 (d : DI) (z : Str) : DI := put d z (lk d z / 2)
def halfN (d : DI) (zs : List Str) : DI := zs.foldl half1 d
def halve (d : DI) : DI := halfN d (keys d)
theorem half_keys : ∀ (zs : List Str) (d : DI), (∀ z ∈ zs, z ∈ keys d) → keys (halfN d zs) = keys d
  | [], d, _ => rfl
  | z :: r, d, h => by
    have e : keys (half1 d z) = keys d := put_keys _ (h z (List.mem_cons_self ..))
    show keys (halfN (half1 d z) r) = keys d
    rw [half_keys r (half1 d z) fun y hy => by rw [e]; exact h y (List.mem_cons_of_mem _ hy), e]
theorem halve_keys (d : DI) : keys (halve d) = keys d := half_keys _ _ fun _ h => h
theorem keys_len (d : DI) : (keys d).length = d.length := List.length_map ..
theorem halve_len (d : DI) : (halve d).length = d.length := by rw [← keys_len, halve_keys, keys_len]
theorem halfN_snoc (d : DI) (zs : List Str) (z : Str) : halfN d (zs ++ [z]) = half1 (halfN d zs) z := by
  unfold halfN
  rw [List.foldl_append]
  rfl
/-! ### the state of a run: how many asks, last, when it was put, counts -/
structure RS where
  now : Nat
  L : DI
  W : DI
  T : DI
def RS.zero : RS := ⟨0, [], [], []⟩
def turned (turn : Int) (s : RS) : DI := if 0 < s.now ∧ (s.now : Int) % turn = 0 then halve s.T else s.T
def RS.asked (turn : Int) (z : Str) (s : RS) : RS := ⟨s.now + 1, put s.L z ((s.now : Int) + 1), s.W, put (turned turn s) z (lk (turned turn s) z + 1)⟩
def RS.came (z : Str) (s : RS) : RS := { s with W := put s.W z (s.now : Int) }
theorem turned_len (turn : Int) (s : RS) : (turned turn s).length = s.T.length := by
  unfold turned
  split
  · exact halve_len _
  · rfl
structure RS.Le (n : Nat) (s : RS) : Prop where
  l : s.L.length ≤ n
  w : s.W.length ≤ n
  t : s.T.length ≤ n
theorem RS.Le.asked {n : Nat} {s : RS} (h : s.Le n) (turn : Int) (z : Str) : (s.asked turn z).Le (n + 1) :=
  ⟨Nat.le_trans (put_len _ _ _) (Nat.succ_le_succ h.l), Nat.le_succ_of_le h.w, Nat.le_trans (put_len _ _ _) (by rw [turned_len]; exact Nat.succ_le_succ h.t)⟩
theorem RS.Le.came {n : Nat} {s : RS} (h : s.Le n) (z : Str) : (s.came z).Le (n + 1) :=
  ⟨Nat.le_succ_of_le h.l, Nat.le_trans (put_len _ _ _) (Nat.succ_le_succ h.w), Nat.le_succ_of_le h.t⟩
/-! ### the next ask -/
def nxt (asks : List Str) (z : Str) (now : Nat) : Int :=
  match (List.range asks.length).find? (fun k => decide (now ≤ k) && decide (asks[k]? = some z)) with
  | some k => (k : Int) + 1
  | none => (asks.length : Int) + 1
theorem nxt_at {asks : List Str} {z : Str} {now k : Nat} (h1 : now ≤ k) (h2 : asks[k]? = some z) (h3 : ∀ j, now ≤ j → j < k → asks[j]? ≠ some z) : nxt asks z now = (k : Int) + 1 := by
  have hk : k < asks.length := (List.getElem?_eq_some_iff.mp h2).1
  have e : (List.range asks.length).find? (fun k => decide (now ≤ k) && decide (asks[k]? = some z)) = some k := by
    rw [List.find?_range_eq_some]
    refine ⟨by simp [h1, h2], List.mem_range.mpr hk, fun j hj => ?_⟩
    by_cases hn : now ≤ j
    · simp [h3 j hn hj]
    · simp [hn]
  unfold nxt
  rw [e]
theorem nxt_no {asks : List Str} {z : Str} {now : Nat} (h : ∀ j, now ≤ j → asks[j]? ≠ some z) : nxt asks z now = (asks.length : Int) + 1 := by
  have e : (List.range asks.length).find? (fun k => decide (now ≤ k) && decide (asks[k]? = some z)) = none := by
    rw [List.find?_eq_none]
    intro j _
    by_cases hn : now ≤ j
    · simp [h j hn]
    · simp [hn]
  unfold nxt
  rw [e]
/-- the rank that is due -/
def rk (wh : Nat) (asks : List Str) (s : RS) (z : Str) : List Int :=
  if wh < 2 then [lk s.L z] else if wh = 2 then [lk s.W z] else if wh = 3 then [lk s.T z, lk s.L z] else [0 - nxt asks z s.now, lk s.L z]
/-! ### where things stand -/
def stF (dc dr : Addr) : List (Str × V) := [("costs", .ref dc), ("rooms", .ref dr)]
def costsD (rows : List Row3) : DI := rows.map fun r => (r.1, r.2.1)
def roomsD (rows : List Row3) : DI := rows.map fun r => (r.1, r.2.2)
def StockAt (C : Addr) (H : Hp) (p : Addr) (rows : List Row3) : Prop := ∃ dx dc dr, H p = some (.ins C dx (stF dc dr)) ∧ H dc = some (.dK (enc (costsD rows))) ∧ H dr = some (.dK (enc (roomsD rows)))
theorem StockAt.same {C : Addr} {H H' : Hp} {p : Addr} {rows : List Row3} (r : StockAt C H p rows) (s : Same H H') : StockAt C H' p rows :=
  let ⟨dx, dc, dr, a, b, c⟩ := r
  ⟨dx, dc, dr, s _ _ a, s _ _ b, s _ _ c⟩
/-- all that was tracked stands as it was, but what F names -/
def But (F : List Addr) (H H' : Hp) : Prop := ∀ b o, H b = some o → b ∉ F → H' b = some o
theorem But.of_same {F : List Addr} {H H' : Hp} (s : Same H H') : But F H H' := fun b o e _ => s b o e
theorem But.trans {F : List Addr} {H H1 H2 : Hp} (a : But F H H1) (b : But F H1 H2) : But F H H2 := fun c o e n => b c o (a c o e n) n
theorem But.mono {F G : List Addr} {H H' : Hp} (a : But F H H') (h : ∀ b ∈ F, b ∈ G) : But G H H' := fun c o e n => a c o e fun z => n (h c z)
theorem But.seq {K : PySem.W.Frag} {F : List Addr} {H H' : Hp} {a : Addr} {xs : List V} (e : But F H H') (hn : a ∉ F) (h : SqL K H a xs) : SqL K H' a xs := by
  rcases h with (lst | ⟨o, frozen⟩) | written
  · exact .inl (.inl (e _ _ lst hn))
  · exact .inl (.inr ⟨o, e _ _ frozen hn⟩)
  · exact .inr written
theorem same_upd {H : Hp} {a : Addr} {o : HO} (h : H a = none) : Same H (upd H a o) := fun b u e => by
  rw [upd_ne (ne_of_none e h)]
  exact e
theorem Same.updN {H H' : Hp} {a : Addr} {o : HO} (s : Same H H') (h : H a = none) : Same H (upd H' a o) := fun b u e => by
  rw [upd_ne (ne_of_none e h)]
  exact s b u e
theorem But.updI {F : List Addr} {H H' : Hp} {a : Addr} {o : HO} (s : But F H H') (h : a ∈ F) : But F H (upd H' a o) := fun b u e n => by
  have : b ≠ a := fun q => n (by rw [q]; exact h)
  rw [upd_ne this]
  exact s b u e n
theorem But.updN {F : List Addr} {H H' : Hp} {a : Addr} {o : HO} (s : But F H H') (h : H a = none) : But F H (upd H' a o) := fun b u e n => by
  rw [upd_ne (ne_of_none e h)]
  exact s b u e n
structure KeptAt (H : Hp) (kp k0 k1 k2 : Addr) (s : RS) : Prop where
  l : H kp = some (.lst [.ref k0, .ref k1, .ref k2])
  d0 : H k0 = some (.dK (enc s.L))
  d1 : H k1 = some (.dK (enc s.W))
  d2 : H k2 = some (.dK (enc s.T))
  n01 : k0 ≠ k1
  n02 : k0 ≠ k2
  n12 : k1 ≠ k2
theorem KeptAt.same {H H' : Hp} {kp k0 k1 k2 : Addr} {s : RS} (k : KeptAt H kp k0 k1 k2 s) (e : Same H H') : KeptAt H' kp k0 k1 k2 s := ⟨e _ _ k.l, e _ _ k.d0, e _ _ k.d1, e _ _ k.d2, k.n01, k.n02, k.n12⟩
/-! ### an object of a rule: its first four attributes, then others -/
def rX (st : V) (pl n : Int) (d : Addr) (ex : List (Str × V)) : List (Str × V) := ("stock", st) :: ("places", .int pl) :: ("now", .int n) :: ("last", .ref d) :: ex
theorem rX_now {st : V} {pl n : Int} {d : Addr} {ex : List (Str × V)} : (rX st pl n d ex).lookup ("now" : Str) = some (.int n) := by simp [rX, List.lookup]
theorem rX_last {st : V} {pl n : Int} {d : Addr} {ex : List (Str × V)} : (rX st pl n d ex).lookup ("last" : Str) = some (.ref d) := by simp [rX, List.lookup]
theorem rX_putnow {st : V} {pl n m : Int} {d : Addr} {ex : List (Str × V)} : putF "now" (.int m) (rX st pl n d ex) = rX st pl m d ex := by simp [rX, putF]
theorem rX_mk {st : V} {pl : Int} {d : Addr} : putF "last" (.ref d) (putF "now" (.int 0) (putF "places" (.int pl) (putF "stock" st []))) = rX st pl 0 d [] := by simp [rX, putF]
/-- what a class of a rule has -/
structure RC (K : PySem.W.Frag) (C : Addr) : Prop where
  cl : Cls K C
  nS : NoAttr K C "stock"
  nP : NoAttr K C "places"
  nN : NoAttr K C "now"
  nL : NoAttr K C "last"
section
variable {K : PySem.W.Frag} {mg : Str → Option Value}
theorem Txt.rRanked (T : Txt K mg) : RC K (He.ga K "Ranked") := ⟨T.c_Ranked, T.n_Ranked_stock, T.n_Ranked_places, T.n_Ranked_now, T.n_Ranked_last⟩
theorem Txt.rOldest (T : Txt K mg) : RC K (He.ga K "Oldest") := ⟨T.c_Oldest, T.n_Oldest_stock, T.n_Oldest_places, T.n_Oldest_now, T.n_Oldest_last⟩
theorem Txt.rFirst (T : Txt K mg) : RC K (He.ga K "First") := ⟨T.c_First, T.n_First_stock, T.n_First_places, T.n_First_now, T.n_First_last⟩
theorem Txt.rHalving (T : Txt K mg) : RC K (He.ga K "Halving") := ⟨T.c_Halving, T.n_Halving_stock, T.n_Halving_places, T.n_Halving_now, T.n_Halving_last⟩
theorem Txt.rFarthest (T : Txt K mg) : RC K (He.ga K "Farthest") := ⟨T.c_Farthest, T.n_Farthest_stock, T.n_Farthest_places, T.n_Farthest_now, T.n_Farthest_last⟩
end
/-! ### the promises of a rule's methods, R: the rule stands at p in the state s, over the addresses F -/
abbrev RR := RS → List Addr → Hp → Addr → Prop
def spRank (R : RR) (f : RS → Str → List Int) : Sp := fun vs H Q _ => ∃ (s : RS) (F : List Addr) (p : Addr) (z : Str), vs = [.ref p, .str z] ∧ R s F H p ∧
  ∀ H' t, Same H H' → H t = none → H' t = some (.tup ((f s z).map V.int)) → Q (.ref t) H'
def spAsked (R : RR) (turn : Int) : Sp := fun vs H Q _ => ∃ (s : RS) (F : List Addr) (p : Addr) (z : Str), vs = [.ref p, .str z] ∧ R s F H p ∧ s.Le 900 ∧
  ∀ H', R (s.asked turn z) F H' p → But F H H' → Q .non H'
def spCame (R : RR) : Sp := fun vs H Q _ => ∃ (s : RS) (F : List Addr) (p : Addr) (z : Str), vs = [.ref p, .str z] ∧ R s F H p ∧ s.Le 900 ∧
  ∀ H', R (s.came z) F H' p → But F H H' → Q .non H'
def spGone : Sp := fun vs H Q _ => ∃ (x y : V), vs = [x, y] ∧ Q .non H
def spChoice (K : PySem.W.Frag) (R : RR) (f : RS → Str → List Int) : Sp := fun vs H Q _ => ∃ (s : RS) (F : List Addr) (p l : Addr) (zs : List Str), vs = [.ref p, .ref l] ∧ R s F H p ∧ SqL K H l (zs.map V.str) ∧ 1 ≤ zs.length ∧
  ∀ H' z, Same H H' → z ∈ zs → (∀ y ∈ zs, HT.lexLt (f s y) (f s z) = false) → Q (.str z) H'
def spCounts (R : RR) : Sp := fun vs H Q _ => ∃ (s : RS) (F : List Addr) (p : Addr), vs = [.ref p] ∧ R s F H p ∧ ∀ H' q, Same H H' → H q = none → H' q = some (.dK (enc s.T)) → Q (.ref q) H'
/-- a rule's class with its methods, which-th of the five, over these asks, this turn -/
structure Bun (P : Program) (w : World) (K : PySem.W.Frag) (mg : Str → Option Value) (base : Heap) (wh : Nat) (asks : List Str) (turn : Int) where
  C : Addr
  cl : Cls K C
  R : RR
  keep : ∀ {s : RS} {F : List Addr} {H H' : Hp} {p : Addr}, R s F H p → (∀ b ∈ F, ∀ o, H b = some o → H' b = some o) → R s F H' p
  occ : ∀ {s : RS} {F : List Addr} {H : Hp} {p : Addr}, R s F H p → ∀ b ∈ F, H b ≠ none
  look : ∀ {s : RS} {F : List Addr} {H : Hp} {p : Addr}, R s F H p → ∃ dx fs, H p = some (.ins C dx fs) ∧ fs.lookup ("asked" : Str) = none ∧ fs.lookup ("rank" : Str) = none ∧ fs.lookup ("choice" : Str) = none ∧
    fs.lookup ("gone" : Str) = none ∧ fs.lookup ("came" : Str) = none ∧ fs.lookup ("counts" : Str) = none
  rank : ∃ f, Meth K C "rank" f ∧ Cal P w K mg base 4 f ["self", "name"] (spRank R (rk wh asks))
  asked : ∃ f, Meth K C "asked" f ∧ Cal P w K mg base 4 f ["self", "name"] (spAsked R turn)
  came : ∃ f, Meth K C "came" f ∧ Cal P w K mg base 4 f ["self", "name"] (spCame R)
  gone : ∃ f, Meth K C "gone" f ∧ Cal P w K mg base 4 f ["self", "name"] spGone
  choice : ∃ f, Meth K C "choice" f ∧ Cal P w K mg base 6 f ["self", "lying"] (spChoice K R (rk wh asks))
  counts : wh = 3 → ∃ f, Meth K C "counts" f ∧ Cal P w K mg base 4 f ["self"] (spCounts R)
theorem Bun.same {P : Program} {w : World} {K : PySem.W.Frag} {mg : Str → Option Value} {base : Heap} {wh : Nat} {asks : List Str} {turn : Int} (B : Bun P w K mg base wh asks turn) {s : RS} {F : List Addr} {H H' : Hp} {p : Addr}
    (h : B.R s F H p) (e : Same H H') : B.R s F H' p := B.keep h fun b _ o q => e b o q
/-! ### lists of texts -/
theorem str_at {zs : List Str} {i : Nat} {x : V} (h : (zs.map V.str)[i]? = some x) : ∃ z, zs[i]? = some z ∧ x = .str z := by
  rw [List.getElem?_map] at h
  cases e : zs[i]? with
  | none => (rw [e] at h; cases h)
  | some z => rw [e] at h; exact ⟨z, rfl, (Option.some.inj h).symm⟩
theorem int_at {zs : List Int} {i : Nat} {x : V} (h : (zs.map V.int)[i]? = some x) : ∃ z, zs[i]? = some z ∧ x = .int z := by
  rw [List.getElem?_map] at h
  cases e : zs[i]? with
  | none => (rw [e] at h; cases h)
  | some z => rw [e] at h; exact ⟨z, rfl, (Option.some.inj h).symm⟩
theorem flat_strs (zs : List Str) : (zs.map V.str).all flatV = true := by
  induction zs with
  | nil => rfl
  | cons z r ih => rw [List.map_cons, List.all_cons, ih]; rfl
theorem inV_strs (z : Str) (zs : List Str) : inV (.str z) (zs.map V.str) = decide (z ∈ zs) := by
  unfold inV
  induction zs with
  | nil => rfl
  | cons y r ih =>
    rw [List.map_cons, List.any_cons, ih]
    by_cases h : y = z
    · subst h
      simp [eqV]
    · have h' : ¬ z = y := fun q => h q.symm
      have : eqV (.str y) (.str z) = false := by
        unfold eqV
        simp [h]
      rw [this]
      simp [h']
end K29
/-! is_whole, need_places, Rule's and Ranked's methods. -/
namespace K29
open PySem PySem.Spec PyProof.Rows L2
section
variable {P : Program} {w : World} {K : PySem.W.Frag} {mg : Str → Option Value} {base : Heap}
theorem sc_whole : FnScope ["thing"] ["thing"] (defScope sIsWhole) := ⟨rfl, rfl, rfl, by decide +kernel, rfl, by decide +kernel, by decide +kernel⟩
def spWhole : Sp := fun vs H Q _ => ∃ i : Int, vs = [.int i] ∧ Q (.bl true) H
theorem ok_whole (T : Txt K mg) : Cal P w K mg base 1 (He.ga K "is_whole") ["thing"] spWhole := by
  refine cal_of T.fIsWhole sc_whole (fun vs H Q E h => ?_) (fun _ _ _ _ _ _ us hl => match us, hl with | [_], _ => rfl) (fun cdv A outer s H vs Q E hr h => ?_)
  · obtain ⟨i, rfl, _⟩ := h; rfl
  · obtain ⟨i, rfl, k⟩ := h
    refine ⟨_, pss_one (ps_ret (pe_and (pe_callB call_isi (by rfl) T.z_isinstance (by decide +kernel) (pa_cons (pv 0) (pa_cons (pe_bltn (v := .ty "int") (by rfl) T.z_int (by decide +kernel) rfl) pa_nil)))
      (pe_one (pe_not (pe_callB call_isi (by rfl) T.z_isinstance (by decide +kernel) (pa_cons (pv 0) (pa_cons (pe_bltn (v := .ty "bool") (by rfl) T.z_bool (by decide +kernel) rfl) pa_nil))))))), ?_⟩
    refine ⟨_, rfl, _, _, .type "int", .type "int", true, rfl, .ty _, .base (.int _), kit_ty (by decide +kernel), _, rfl, iteT ?_⟩
    exact ⟨_, rfl, _, _, .type "int", .type "bool", false, rfl, .ty _, .base (.int _), kit_ty (by decide +kernel), _, rfl, k⟩
theorem sc_need : FnScope ["places"] ["places"] (defScope sNeedPlaces) := ⟨rfl, rfl, rfl, by decide +kernel, rfl, by decide +kernel, by decide +kernel⟩
def spNeed : Sp := fun vs H Q _ => ∃ i : Int, vs = [.int i] ∧ 1 ≤ i ∧ i ≤ 1000000 ∧ Q (.int i) H
theorem ok_need (T : Txt K mg) : Cal P w K mg base 2 (He.ga K "need_places") ["places"] spNeed := by
  refine cal_of T.fNeedPlaces sc_need (fun vs H Q E h => ?_) (fun _ _ _ _ _ _ us hl => match us, hl with | [_], _ => rfl) (fun cdv A outer s H vs Q E hr h => ?_)
  · obtain ⟨i, rfl, _⟩ := h; rfl
  · obtain ⟨i, rfl, h1, h2, k⟩ := h
    obtain ⟨u, hm, hrel⟩ := T.i_MOST_PLACES
    refine ⟨_, pss_cons (ps_if (PW.pt (pw_or (pt_not (pt_val (pe_cal (ok_whole T) hr T.g_is_whole (pa_cons (pv 0) pa_nil))))
        (pw_or (pt_cmpR op_lt (pv 0) pe_int (nomark _)) (pw_or1 (pt_cmpR op_gt (pv 0) (pe_glob (by rfl) hm hrel) (nomark _)))))) pss_never pss_nil)
      (pss_one (ps_ret (pv 0))), ?_⟩
    refine ⟨_, rfl, i, rfl, true, rfl, iteF ?_⟩
    refine ⟨_, rfl, _, _, rfl, rfl, _, rfl, iteDF (by omega) ?_⟩
    refine ⟨_, rfl, _, _, rfl, rfl, _, rfl, iteDF (by omega) ?_⟩
    exact ⟨_, rfl, k⟩
/-! ### Rule -/
theorem sc_rule : FnScope ["self", "stock", "places"] ["self", "stock", "places"] (defScope sRule_Init) := ⟨rfl, rfl, rfl, by decide +kernel, rfl, by decide +kernel, by decide +kernel⟩
def spRule (K : PySem.W.Frag) : Sp := fun vs H Q _ => ∃ (C p dx : Addr) (st : V) (pl : Int), vs = [.ref p, st, .int pl] ∧ RC K C ∧ H p = some (.ins C dx []) ∧ 1 ≤ pl ∧ pl ≤ 1000000 ∧
  ∀ H', H' p = some (.ins C dx (putF "places" (.int pl) (putF "stock" st []))) → But [p] H H' → Q .non H'
theorem ok_rule (T : Txt K mg) : Cal P w K mg base 3 (He.ma K (He.ga K "Rule") "__init__") ["self", "stock", "places"] (spRule K) := by
  refine cal_of T.fRule_Init sc_rule (fun vs H Q E h => ?_) (fun _ _ _ _ _ _ us hl => match us, hl with | [_, _, _], _ => rfl) (fun cdv A outer s H vs Q E hr h => ?_)
  · obtain ⟨C, p, dx, st, pl, rfl, _⟩ := h; rfl
  · obtain ⟨C, p, dx, st, pl, rfl, R, hp, h1, h2, k⟩ := h
    refine ⟨_, pss_cons (ps_fld (pv 0) (pv 1) rfl) (pss_one (ps_fld (pv 0) (pe_cal (ok_need T) hr T.g_need_places (pa_cons (pv 2) pa_nil)) rfl)), ?_⟩
    refine ⟨_, rfl, _, rfl, p, C, dx, _, rfl, hp, R.cl, R.nS, (by show 0 < 1000; decide), ?_⟩
    refine ⟨_, rfl, pl, rfl, h1, h2, _, rfl, p, C, dx, _, rfl, upd_same, R.cl, R.nP, (by show 1 < 1000; decide), ?_⟩
    refine k _ upd_same fun b o e n => ?_
    have n' : b ≠ p := fun q => n (by simp [q])
    rw [upd_ne n', upd_ne n']
    exact e
theorem sc_gone : FnScope ["self", "name"] ["self", "name"] (defScope sRule_Gone) := ⟨rfl, rfl, rfl, by decide +kernel, rfl, by decide +kernel, by decide +kernel⟩
theorem ok_gone {f : Addr} (F : FnP K "gone" "Rule.gone" sRule_Gone [] f) : Cal P w K mg base 1 f ["self", "name"] spGone := by
  refine cal_of F sc_gone (fun vs H Q E h => ?_) (fun _ _ _ _ _ _ us hl => match us, hl with | [_, _], _ => rfl) (fun cdv A outer s H vs Q E hr h => ?_)
  · obtain ⟨x, y, rfl, _⟩ := h; rfl
  · obtain ⟨x, y, rfl, k⟩ := h
    exact ⟨_, pss_one (ps_ret pe_non), k⟩
theorem sc_came : FnScope ["self", "name"] ["self", "name"] (defScope sRule_Came) := ⟨rfl, rfl, rfl, by decide +kernel, rfl, by decide +kernel, by decide +kernel⟩
theorem ok_came0 {f : Addr} (F : FnP K "came" "Rule.came" sRule_Came [] f) : Cal P w K mg base 1 f ["self", "name"] spGone := by
  refine cal_of F sc_came (fun vs H Q E h => ?_) (fun _ _ _ _ _ _ us hl => match us, hl with | [_, _], _ => rfl) (fun cdv A outer s H vs Q E hr h => ?_)
  · obtain ⟨x, y, rfl, _⟩ := h; rfl
  · obtain ⟨x, y, rfl, k⟩ := h
    exact ⟨_, pss_one (ps_ret pe_non), k⟩
/-! ### Ranked -/
theorem sc_ranked : FnScope ["self", "stock", "places"] ["self", "stock", "places"] (defScope sRanked_Init) := ⟨rfl, rfl, rfl, by decide +kernel, rfl, by decide +kernel, by decide +kernel⟩
def spRanked (K : PySem.W.Frag) : Sp := fun vs H Q _ => ∃ (C p dx : Addr) (st : V) (pl : Int), vs = [.ref p, st, .int pl] ∧ RC K C ∧ H p = some (.ins C dx []) ∧ 1 ≤ pl ∧ pl ≤ 1000000 ∧
  ∀ H' d, H d = none → H' p = some (.ins C dx (rX st pl 0 d [])) → H' d = some (.dK []) → But [p] H H' → Q .non H'
theorem ok_ranked (T : Txt K mg) {f : Addr} (F : FnP K "__init__" "Ranked.__init__" sRanked_Init [] f) : Cal P w K mg base 4 f ["self", "stock", "places"] (spRanked K) := by
  refine cal_of F sc_ranked (fun vs H Q E h => ?_) (fun _ _ _ _ _ _ us hl => match us, hl with | [_, _, _], _ => rfl) (fun cdv A outer s H vs Q E hr h => ?_)
  · obtain ⟨C, p, dx, st, pl, rfl, _⟩ := h; rfl
  · obtain ⟨C, p, dx, st, pl, rfl, R, hp, h1, h2, k⟩ := h
    have ex := He.ba (show (clsB K "Rule" "__init__" && clsB K "Ranked" "__init__") = true from T.ex)
    refine ⟨_, pss_cons (ps_expr (pe_off ex.1 (ok_rule T) hr T.g_Rule (pa_cons (pv 0) (pa_cons (pv 1) (pa_cons (pv 2) pa_nil)))))
      (pss_cons (ps_fld (pv 0) pe_int rfl) (pss_one (ps_fld (pv 0) pe_dnewK rfl))), ?_⟩
    refine ⟨_, rfl, _, rfl, _, rfl, C, p, dx, st, pl, rfl, R, hp, h1, h2, fun H1 g1 b1 => ?_⟩
    refine ⟨_, rfl, p, C, dx, _, rfl, g1, R.cl, R.nN, (by simp [putF]), ?_⟩
    intro d hd
    have npd : p ≠ d := fun q => by rw [← q, upd_same] at hd; cases hd
    have hd1 : H1 d = none := by rw [upd_ne npd.symm] at hd; exact hd
    have hd0 : H d = none := by
      cases q : H d with
      | none => rfl
      | some o => rw [b1 d o q (by simp [npd.symm])] at hd1; cases hd1
    refine ⟨_, rfl, p, C, dx, _, rfl, (by rw [upd_ne npd]; exact upd_same), R.cl, R.nL, (by simp [putF]), ?_⟩
    refine k _ d hd0 (by rw [upd_same, rX_mk]) (by rw [upd_ne npd.symm]; exact upd_same) fun b o e n => ?_
    have n' : b ≠ p := fun q => n (by simp [q])
    rw [upd_ne n', upd_ne (ne_of_none e hd0), upd_ne n']
    exact b1 b o e n
theorem sc_rasked : FnScope ["self", "name"] ["self", "name"] (defScope sRanked_Asked) := ⟨rfl, rfl, rfl, by decide +kernel, rfl, by decide +kernel, by decide +kernel⟩
def spRAsked (K : PySem.W.Frag) : Sp := fun vs H Q _ => ∃ (C p dx d : Addr) (st : V) (pl n : Int) (ex : List (Str × V)) (L : DI) (z : Str), vs = [.ref p, .str z] ∧ RC K C ∧ H p = some (.ins C dx (rX st pl n d ex)) ∧ ex.length ≤ 10 ∧ H d = some (.dK (enc L)) ∧ L.length ≤ 900 ∧
  ∀ H', H' p = some (.ins C dx (rX st pl (n + 1) d ex)) → H' d = some (.dK (enc (put L z (n + 1)))) → But [p, d] H H' → Q .non H'
theorem ok_rasked {f : Addr} (F : FnP K "asked" "Ranked.asked" sRanked_Asked [] f) : Cal P w K mg base 1 f ["self", "name"] (spRAsked K) := by
  refine cal_of F sc_rasked (fun vs H Q E h => ?_) (fun _ _ _ _ _ _ us hl => match us, hl with | [_, _], _ => rfl) (fun cdv A outer s H vs Q E hr h => ?_)
  · obtain ⟨C, p, dx, d, st, pl, n, ex, L, z, rfl, _⟩ := h; rfl
  · obtain ⟨C, p, dx, d, st, pl, n, ex, L, z, rfl, R, hp, hx, hd, hl, k⟩ := h
    have hu := hu_of hr
    have ndp : d ≠ p := ne_of hd hp (by intro q; cases q)
    refine ⟨_, pss_cons (ps_fld (pv 0) (pe_op op_add (pe_fld (pv 0) rfl) pe_int) rfl) (pss_one (ps_dput hu (pe_fld (pv 0) rfl) (pv 1) (pe_fld (pv 0) rfl) rfl)), ?_⟩
    refine ⟨_, rfl, p, C, dx, _, _, rfl, hp, R.cl, R.nN, rX_now, _, _, rfl, rfl, _, rfl, p, C, dx, _, rfl, hp, R.cl, R.nN, (by simp [rX]; omega), ?_⟩
    rw [rX_putnow]
    refine ⟨_, rfl, p, C, dx, _, _, rfl, upd_same, R.cl, R.nN, rX_now, _, rfl, p, C, dx, _, _, rfl, upd_same, R.cl, R.nL, rX_last, _, rfl, d, _, rfl,
      DPut.k (k := Sum.inr z) (by rw [upd_ne ndp]; exact hd) (small1000 (by rw [enc_len]; omega)), ?_⟩
    refine k _ (by rw [upd_ne ndp.symm]; exact upd_same) (by rw [upd_same, put_enc]) fun b o e n => ?_
    have n1 : b ≠ p := fun q => n (by simp [q])
    have n2 : b ≠ d := fun q => n (by simp [q])
    rw [upd_ne n2, upd_ne n1]
    exact e
theorem sc_rrank : FnScope ["self", "name"] ["self", "name"] (defScope sRanked_Rank) := ⟨rfl, rfl, rfl, by decide +kernel, rfl, by decide +kernel, by decide +kernel⟩
def spRRank (K : PySem.W.Frag) : Sp := fun vs H Q _ => ∃ (C p dx d : Addr) (st : V) (pl n : Int) (ex : List (Str × V)) (L : DI) (z : Str), vs = [.ref p, .str z] ∧ RC K C ∧ H p = some (.ins C dx (rX st pl n d ex)) ∧ H d = some (.dK (enc L)) ∧
  ∀ t, H t = none → Q (.ref t) (upd H t (.tup [.int (lk L z)]))
theorem ok_rrank {f : Addr} (F : FnP K "rank" "Ranked.rank" sRanked_Rank [] f) : Cal P w K mg base 1 f ["self", "name"] (spRRank K) := by
  refine cal_of F sc_rrank (fun vs H Q E h => ?_) (fun _ _ _ _ _ _ us hl => match us, hl with | [_, _], _ => rfl) (fun cdv A outer s H vs Q E hr h => ?_)
  · obtain ⟨C, p, dx, d, st, pl, n, ex, L, z, rfl, _⟩ := h; rfl
  · obtain ⟨C, p, dx, d, st, pl, n, ex, L, z, rfl, R, hp, hd, k⟩ := h
    have hu := hu_of hr
    refine ⟨_, pss_one (ps_ret (pe_tup (pa_cons (pe_dget2 hu (pe_fld (pv 0) rfl) (pv 1) pe_int ⟨rfl, rfl, rfl, rfl⟩) pa_nil))), ?_⟩
    refine ⟨_, rfl, p, C, dx, _, _, rfl, hp, R.cl, R.nL, rX_last, d, rfl, .inl ⟨_, .inl hd⟩, _, rfl, _, DGet.k (k := Sum.inr z) hd, (by show 1 ≤ sizeLine; decide), fun t ht => ?_⟩
    rw [get_enc]
    exact k t ht
end
end K29
/-! choice; First, Halving. -/
namespace K29
open PySem PySem.Spec PyProof.Rows L2
/-! ### the order of ranks -/
theorem lex_irr : ∀ a : List Int, HT.lexLt a a = false
  | [] => rfl
  | x :: r => by
    have ih := lex_irr r
    simp [HT.lexLt, ih]
theorem lex_tr : ∀ {a b c : List Int}, HT.lexLt a b = true → HT.lexLt b c = true → HT.lexLt a c = true
  | [], b, [], h1, h2 => by cases b <;> simp [HT.lexLt] at h1 h2
  | [], _, _ :: _, _, _ => rfl
  | _ :: _, [], _, h1, _ => by simp [HT.lexLt] at h1
  | _ :: _, _ :: _, [], _, h2 => by simp [HT.lexLt] at h2
  | x :: a, y :: b, z :: c, h1, h2 => by
    simp only [HT.lexLt] at h1 h2 ⊢
    split at h1
    · rename_i e1
      subst e1
      split at h2
      · rename_i e2
        subst e2
        rw [if_pos rfl]
        exact lex_tr h1 h2
      · rename_i e2
        rw [if_neg e2]
        exact h2
    · rename_i e1
      have q1 := of_decide_eq_true h1
      split at h2
      · rename_i e2
        subst e2
        rw [if_neg e1]
        exact h1
      · have q2 := of_decide_eq_true h2
        rw [if_neg (by omega)]
        exact (decide_eq_true (by omega))
section
variable {P : Program} {w : World} {K : PySem.W.Frag} {mg : Str → Option Value} {base : Heap}
theorem sc_choice : FnScope ["self", "lying", "pick", "least", "name", "here"] ["self", "lying"] (defScope sRanked_Choice) := ⟨rfl, rfl, rfl, by decide +kernel, rfl, by decide +kernel, by decide +kernel⟩
theorem ok_choice {C f fr : Addr} {R : RR} {g : RS → Str → List Int} (cl : Cls K C) (same : ∀ {s : RS} {F : List Addr} {H H' : Hp} {p : Addr}, R s F H p → Same H H' → R s F H' p)
    (look : ∀ {s : RS} {F : List Addr} {H : Hp} {p : Addr}, R s F H p → ∃ dx fs, H p = some (.ins C dx fs) ∧ fs.lookup ("rank" : Str) = none)
    (mr : Meth K C "rank" fr) (kr : Cal P w K mg base 4 fr ["self", "name"] (spRank R g)) (F : FnP K "choice" "Ranked.choice" sRanked_Choice [] f) : Cal P w K mg base 5 f ["self", "lying"] (spChoice K R g) := by
  refine cal_of F sc_choice (fun vs H Q E h => ?_) (fun _ _ _ _ _ _ us hl => match us, hl with | [_, _], _ => rfl) (fun cdv A outer st H vs Q E hr h => ?_)
  · obtain ⟨s, F0, p, l, zs, rfl, _⟩ := h; rfl
  · obtain ⟨s, F0, p, l, zs, rfl, hR, hS, hl, k⟩ := h
    refine ⟨_, pss_cons (ps_set (i := 2) sc_choice.nd rfl (Or.inl rfl) (pe_ix ix_list (pv 1) pe_int (fun _ _ => rfl)))
      (pss_cons (ps_set (i := 3) sc_choice.nd rfl (Or.inl rfl) (pe_me cl mr kr hr (pv 0) (pa_cons (pv 2) pa_nil)))
      (pss_cons (ps_for PassesOwn.never rfl (pi_list (pv 1)) (pg_name (i := 4) sc_choice.nd rfl (Or.inl rfl))
        (pss_cons (ps_set (i := 5) sc_choice.nd rfl (Or.inl rfl) (pe_me cl mr kr hr (pv 0) (pa_cons (pv 4) pa_nil)))
        (pss_one (ps_if (pt_cmpR (op_ltT hr.units0) (pv 5) (pv 3) (nomark _))
          (pss_cons (ps_set (i := 2) sc_choice.nd rfl (Or.inl rfl) (pv 4)) (pss_one (ps_set (i := 3) sc_choice.nd rfl (Or.inl rfl) (pv 5)))) pss_nil))))
      (pss_one (ps_ret (pv 2))))), ?_⟩
    obtain ⟨z0, hz0⟩ : ∃ z0, zs[0]? = some z0 := ⟨zs[0], List.getElem?_eq_getElem (by omega)⟩
    have hz0' : (zs.map V.str)[0]? = some (.str z0) := by rw [List.getElem?_map, hz0]; rfl
    obtain ⟨dx, fs, hp, hno⟩ := look hR
    refine ⟨_, rfl, l, _, _, _, rfl, rfl, hS, at_of (j := 0) rfl hz0', ?_⟩
    refine ⟨_, rfl, p, dx, fs, rfl, hp, hno, _, rfl, s, F0, p, z0, rfl, hR, fun H1 t1 s1 n1 h1 => ?_⟩
    refine ⟨_, rfl, l, rfl, ⟨_, s1.seq hS⟩, for_list (K := K) (a := l) (xs := zs.map V.str) (fun i σ H2 => ∃ (pk : Str) (t : Addr) (v4 v5 : Option V),
      σ = [some (.ref p), some (.ref l), some (.str pk), some (.ref t), v4, v5] ∧ Same H H2 ∧ H2 t = some (.tup ((g s pk).map V.int)) ∧ pk ∈ zs ∧ ∀ j y, j < i → zs[j]? = some y → HT.lexLt (g s y) (g s pk) = false)
      ⟨z0, t1, none, none, rfl, s1, h1, List.mem_of_getElem? hz0, fun j y hj _ => absurd hj (Nat.not_lt_zero _)⟩ (fun i σ H2 _ ⟨_, _, _, _, _, s2, _⟩ => s2.seq hS) ?_ ?_⟩
    · rintro i x σ H2 hi ⟨pk, t, v4, v5, rfl, s2, ht, hm, hall⟩
      obtain ⟨z, hz, rfl⟩ := str_at hi
      obtain ⟨dx2, fs2, hp2, hno2⟩ := look (same hR s2)
      refine ⟨_, rfl, p, dx2, fs2, rfl, hp2, hno2, _, rfl, s, F0, p, z, rfl, same hR s2, fun H3 t3 s3 n3 h3 => ?_⟩
      refine ⟨_, rfl, _, rfl, t3, t, _, _, rfl, rfl, SqT.of h3, SqT.of (s3 _ _ ht), _, rfl, ?_⟩
      by_cases e : HT.lexLt (g s z) (g s pk) = true
      · refine iteBT e ?_
        refine ⟨_, rfl, _, rfl, z, t3, _, _, rfl, s2.trans s3, h3, List.mem_of_getElem? hz, fun j y hj hy => ?_⟩
        by_cases hji : j = i
        · subst hji
          rw [hz] at hy
          cases hy
          exact lex_irr _
        · have o := hall j y (by omega) hy
          cases q : HT.lexLt (g s y) (g s z) with
          | false => rfl
          | true => rw [lex_tr q e] at o; cases o
      · have e' : HT.lexLt (g s z) (g s pk) = false := by simpa using e
        refine iteBF e' ?_
        refine ⟨pk, t, _, _, rfl, s2.trans s3, s3 _ _ ht, hm, fun j y hj hy => ?_⟩
        by_cases hji : j = i
        · subst hji
          rw [hz] at hy
          cases hy
          exact e'
        · exact hall j y (by omega) hy
    · rintro σ H2 ⟨pk, t, v4, v5, rfl, s2, ht, hm, hall⟩
      refine ⟨_, rfl, k H2 pk s2 hm fun y hy => ?_⟩
      obtain ⟨j, hj, e⟩ := (List.mem_iff_getElem.mp hy)
      exact hall j y (by rw [List.length_map]; exact hj) (by rw [List.getElem?_eq_getElem hj, e])
/-! ### First -/
theorem rX_when {st : V} {pl n : Int} {d e : Addr} : (rX st pl n d [("when", .ref e)]).lookup ("when" : Str) = some (.ref e) := by simp [rX, List.lookup]
theorem rX_putwhen {st : V} {pl n : Int} {d e : Addr} : putF "when" (.ref e) (rX st pl n d []) = rX st pl n d [("when", .ref e)] := by simp [rX, putF]
theorem sc_first : FnScope ["self", "stock", "places"] ["self", "stock", "places"] (defScope sFirst_Init) := ⟨rfl, rfl, rfl, by decide +kernel, rfl, by decide +kernel, by decide +kernel⟩
def spFirst (K : PySem.W.Frag) : Sp := fun vs H Q _ => ∃ (C p dx : Addr) (st : V) (pl : Int), vs = [.ref p, st, .int pl] ∧ RC K C ∧ NoAttr K C "when" ∧ H p = some (.ins C dx []) ∧ 1 ≤ pl ∧ pl ≤ 1000000 ∧
  ∀ H' d e, H d = none → H e = none → d ≠ e → H' p = some (.ins C dx (rX st pl 0 d [("when", .ref e)])) → H' d = some (.dK []) → H' e = some (.dK []) → But [p] H H' → Q .non H'
theorem ok_first (T : Txt K mg) : Cal P w K mg base 5 (He.ma K (He.ga K "First") "__init__") ["self", "stock", "places"] (spFirst K) := by
  refine cal_of T.fFirst_Init sc_first (fun vs H Q E h => ?_) (fun _ _ _ _ _ _ us hl => match us, hl with | [_, _, _], _ => rfl) (fun cdv A outer s H vs Q E hr h => ?_)
  · obtain ⟨C, p, dx, st, pl, rfl, _⟩ := h; rfl
  · obtain ⟨C, p, dx, st, pl, rfl, R, nW, hp, h1, h2, k⟩ := h
    have ex := He.ba (show (clsB K "Rule" "__init__" && clsB K "Ranked" "__init__") = true from T.ex)
    refine ⟨_, pss_cons (ps_expr (pe_off ex.2 (ok_ranked T T.fRanked_Init) hr T.g_Ranked (pa_cons (pv 0) (pa_cons (pv 1) (pa_cons (pv 2) pa_nil)))))
      (pss_one (ps_fld (pv 0) pe_dnewK rfl)), ?_⟩
    refine ⟨_, rfl, _, rfl, _, rfl, C, p, dx, st, pl, rfl, R, hp, h1, h2, fun H1 d hd g1 g2 b1 => ?_⟩
    intro e he
    have npe : p ≠ e := ne_of_none g1 he
    have nde : d ≠ e := ne_of_none g2 he
    have he0 : H e = none := by
      cases q : H e with
      | none => rfl
      | some o => rw [b1 e o q (by simp [npe.symm])] at he; cases he
    have npd : p ≠ d := ne_of_none hp hd
    refine ⟨_, rfl, p, C, dx, _, rfl, (by rw [upd_ne npe]; exact g1), R.cl, nW, (by simp [rX]), ?_⟩
    refine k _ d e hd he0 nde (by rw [upd_same, rX_putwhen]) (by rw [upd_ne npd.symm, upd_ne nde]; exact g2) (by rw [upd_ne npe.symm]; exact upd_same) fun b o q n => ?_
    have n' : b ≠ p := fun q => n (by simp [q])
    rw [upd_ne n', upd_ne (ne_of_none q he0)]
    exact b1 b o q n
theorem sc_fcame : FnScope ["self", "name"] ["self", "name"] (defScope sFirst_Came) := ⟨rfl, rfl, rfl, by decide +kernel, rfl, by decide +kernel, by decide +kernel⟩
def spFCame (K : PySem.W.Frag) : Sp := fun vs H Q _ => ∃ (C p dx d e : Addr) (st : V) (pl n : Int) (W : DI) (z : Str), vs = [.ref p, .str z] ∧ RC K C ∧ NoAttr K C "when" ∧ H p = some (.ins C dx (rX st pl n d [("when", .ref e)])) ∧ H e = some (.dK (enc W)) ∧ W.length ≤ 900 ∧
  Q .non (upd H e (.dK (enc (put W z n))))
theorem ok_fcame {f : Addr} (F : FnP K "came" "First.came" sFirst_Came [] f) : Cal P w K mg base 1 f ["self", "name"] (spFCame K) := by
  refine cal_of F sc_fcame (fun vs H Q E h => ?_) (fun _ _ _ _ _ _ us hl => match us, hl with | [_, _], _ => rfl) (fun cdv A outer s H vs Q E hr h => ?_)
  · obtain ⟨C, p, dx, d, e, st, pl, n, W, z, rfl, _⟩ := h; rfl
  · obtain ⟨C, p, dx, d, e, st, pl, n, W, z, rfl, R, nW, hp, he, hl, k⟩ := h
    have hu := hu_of hr
    refine ⟨_, pss_one (ps_dput hu (pe_fld (pv 0) rfl) (pv 1) (pe_fld (pv 0) rfl) rfl), ?_⟩
    refine ⟨_, rfl, p, C, dx, _, _, rfl, hp, R.cl, R.nN, rX_now, _, rfl, p, C, dx, _, _, rfl, hp, R.cl, nW, rX_when, _, rfl, e, _, rfl,
      DPut.k (k := Sum.inr z) he (small1000 (by rw [enc_len]; omega)), ?_⟩
    rw [put_enc]
    exact k
theorem sc_frank : FnScope ["self", "name"] ["self", "name"] (defScope sFirst_Rank) := ⟨rfl, rfl, rfl, by decide +kernel, rfl, by decide +kernel, by decide +kernel⟩
def spFRank (K : PySem.W.Frag) : Sp := fun vs H Q _ => ∃ (C p dx d e : Addr) (st : V) (pl n : Int) (W : DI) (z : Str), vs = [.ref p, .str z] ∧ RC K C ∧ NoAttr K C "when" ∧ H p = some (.ins C dx (rX st pl n d [("when", .ref e)])) ∧ H e = some (.dK (enc W)) ∧
  ∀ t, H t = none → Q (.ref t) (upd H t (.tup [.int (lk W z)]))
theorem ok_frank {f : Addr} (F : FnP K "rank" "First.rank" sFirst_Rank [] f) : Cal P w K mg base 1 f ["self", "name"] (spFRank K) := by
  refine cal_of F sc_frank (fun vs H Q E h => ?_) (fun _ _ _ _ _ _ us hl => match us, hl with | [_, _], _ => rfl) (fun cdv A outer s H vs Q E hr h => ?_)
  · obtain ⟨C, p, dx, d, e, st, pl, n, W, z, rfl, _⟩ := h; rfl
  · obtain ⟨C, p, dx, d, e, st, pl, n, W, z, rfl, R, nW, hp, he, k⟩ := h
    have hu := hu_of hr
    refine ⟨_, pss_one (ps_ret (pe_tup (pa_cons (pe_dget2 hu (pe_fld (pv 0) rfl) (pv 1) pe_int ⟨rfl, rfl, rfl, rfl⟩) pa_nil))), ?_⟩
    refine ⟨_, rfl, p, C, dx, _, _, rfl, hp, R.cl, nW, rX_when, e, rfl, .inl ⟨_, .inl he⟩, _, rfl, _, DGet.k (k := Sum.inr z) he, (by show 1 ≤ sizeLine; decide), fun t ht => ?_⟩
    rw [get_enc]
    exact k t ht
/-! ### Halving -/
abbrev hX (t : Int) (e : Addr) : List (Str × V) := [("turn", .int t), ("tally", .ref e)]
theorem rX_turn {st : V} {pl n t : Int} {d e : Addr} : (rX st pl n d (hX t e)).lookup ("turn" : Str) = some (.int t) := by simp [rX, List.lookup]
theorem rX_tally {st : V} {pl n t : Int} {d e : Addr} : (rX st pl n d (hX t e)).lookup ("tally" : Str) = some (.ref e) := by simp [rX, List.lookup]
theorem rX_putturn {st : V} {pl n t : Int} {d : Addr} : putF "turn" (.int t) (rX st pl n d []) = rX st pl n d [("turn", .int t)] := by simp [rX, putF]
theorem rX_puttally {st : V} {pl n t : Int} {d e : Addr} : putF "tally" (.ref e) (rX st pl n d [("turn", .int t)]) = rX st pl n d (hX t e) := by simp [rX, putF]
theorem cal_ofD {x qual : Str} {st : Stmt} {f : Addr} {N ps : List Str} {k : Nat} {sp : Sp} {dv : V} (F : FnP K x qual st [dv] f) (S : FnScope N ps (defScope st)) (len : ∀ vs H Q E, sp vs H Q E → vs.length = ps.length)
    (bnd : ∀ (T : Addr) (kV doc pm : Value) (an : Option Addr) (cdv ct : Value) (us its : List Value), us.length = ps.length → its.length = 1 →
      ∃ k, bindArgs (PySem.W.fnOf x qual (defArgs st) (defBody st) (defScope st) (.ref T) kV doc pm an cdv ct) ⟨us, []⟩ = seqItems? (.ref T) >>= k ∧ k (some its.toArray) = pure (ps.zip us))
    (hb : ∀ (cdv : Value) (A : Around) (outer : List Env) (s : Shared) (H : Hp) (vs : List V) (Q : VK) (E : XK), Room k (A.deeper (envOfC qual (defScope st) s.heap.objs.size f cdv)) → sp vs H Q E →
      ∃ t, PSs (cxOf CX0 P w K mg base N qual (defScope st) f cdv A outer s H E).nox (defBody st) t ∧ t { nx := fun _ H' => Q .non H', rt := Q } (start N vs) H) : Cal P w K mg base (k + 1) f ps sp := by
  obtain ⟨fd, F⟩ := F
  refine ⟨⟨fd, F.ok S len fun cdv A outer s H vs Q E hr hs => ?_, ?_⟩, F.kp⟩
  · obtain ⟨t, h1, h2⟩ := hb cdv A outer s H vs Q E hr hs
    exact ⟨t, h1.nox, h2⟩
  · obtain ⟨ds, hv, hbd⟩ := F.binds1 (ps := ps) ps.length 1 (by simp) (by simp) fun T kV doc pm an cdv ct us its h1 h2 => by
      obtain ⟨k, e1, e2⟩ := bnd T kV doc pm an cdv ct us its h1 h2
      refine ⟨k, e1, ?_⟩
      have e3 : its.drop 1 = [] := List.drop_eq_nil_of_le (by rw [h2]; exact Nat.le_refl _)
      rw [e3, List.append_nil]
      exact e2
    have : ds = [] := by cases hv; rfl
    rw [this] at hbd
    exact hbd
theorem sc_halv : FnScope ["self", "stock", "places", "turn"] ["self", "stock", "places", "turn"] (defScope sHalving_Init) := ⟨rfl, rfl, rfl, by decide +kernel, rfl, by decide +kernel, by decide +kernel⟩
def spHalv (K : PySem.W.Frag) : Sp := fun vs H Q _ => ∃ (C p dx : Addr) (st : V) (pl t : Int), vs = [.ref p, st, .int pl, .int t] ∧ RC K C ∧ NoAttr K C "turn" ∧ NoAttr K C "tally" ∧ H p = some (.ins C dx []) ∧ 1 ≤ pl ∧ pl ≤ 1000000 ∧ 1 ≤ t ∧ t ≤ 200 ∧
  ∀ H' d e, H d = none → H e = none → d ≠ e → H' p = some (.ins C dx (rX st pl 0 d (hX t e))) → H' d = some (.dK []) → H' e = some (.dK []) → But [p] H H' → Q .non H'
theorem ok_halv (T : Txt K mg) : Cal P w K mg base 5 (He.ma K (He.ga K "Halving") "__init__") ["self", "stock", "places", "turn"] (spHalv K) := by
  refine cal_ofD T.fHalving_Init sc_halv (fun vs H Q E h => ?_) (fun _ _ _ _ _ _ _ us its hl h2 => match us, hl, its, h2 with | [_, _, _, _], _, [_], _ => ⟨_, rfl, rfl⟩) (fun cdv A outer s H vs Q E hr h => ?_)
  · obtain ⟨C, p, dx, st, pl, t, rfl, _⟩ := h; rfl
  · obtain ⟨C, p, dx, st, pl, t, rfl, R, nT, nY, hp, h1, h2, h3, h4, k⟩ := h
    have ex := He.ba (show (clsB K "Rule" "__init__" && clsB K "Ranked" "__init__") = true from T.ex)
    refine ⟨_, pss_cons (ps_expr (pe_off ex.2 (ok_ranked T T.fRanked_Init) hr T.g_Ranked (pa_cons (pv 0) (pa_cons (pv 1) (pa_cons (pv 2) pa_nil)))))
      (pss_cons (ps_if (PW.pt (pw_or (pt_not (pt_val (pe_cal (ok_whole T) hr T.g_is_whole (pa_cons (pv 3) pa_nil))))
        (pw_or (pt_cmpR op_lt (pv 3) pe_int (nomark _)) (pw_or1 (pt_cmpR op_gt (pv 3) pe_int (nomark _)))))) pss_never pss_nil)
      (pss_cons (ps_fld (pv 0) (pv 3) rfl) (pss_one (ps_fld (pv 0) pe_dnewK rfl)))), ?_⟩
    refine ⟨_, rfl, _, rfl, _, rfl, C, p, dx, st, pl, rfl, R, hp, h1, h2, fun H1 d hd g1 g2 b1 => ?_⟩
    refine ⟨_, rfl, t, rfl, true, rfl, iteF ?_⟩
    refine ⟨_, rfl, _, _, rfl, rfl, _, rfl, iteDF (by omega) ?_⟩
    refine ⟨_, rfl, _, _, rfl, rfl, _, rfl, iteDF (by omega) ?_⟩
    have npd : p ≠ d := ne_of_none hp hd
    refine ⟨_, rfl, _, rfl, p, C, dx, _, rfl, g1, R.cl, nT, (by simp [rX]), ?_⟩
    rw [rX_putturn]
    intro e he
    have npe : p ≠ e := fun q => by rw [← q, upd_same] at he; cases he
    have he1 : H1 e = none := by rw [upd_ne npe.symm] at he; exact he
    have nde : d ≠ e := ne_of_none g2 he1
    have he0 : H e = none := by
      cases q : H e with
      | none => rfl
      | some o => rw [b1 e o q (by simp [npe.symm])] at he1; cases he1
    refine ⟨_, rfl, p, C, dx, _, rfl, (by rw [upd_ne npe]; exact upd_same), R.cl, nY, (by simp [rX]), ?_⟩
    rw [rX_puttally]
    refine k _ d e hd he0 nde upd_same (by rw [upd_ne npd.symm, upd_ne nde, upd_ne npd.symm]; exact g2) (by rw [upd_ne npe.symm]; exact upd_same) fun b o q n => ?_
    have n' : b ≠ p := fun q => n (by simp [q])
    rw [upd_ne n', upd_ne (ne_of_none q he0), upd_ne n']
    exact b1 b o q n
theorem keysV (d : DI) : ((enc d).map fun kv => kV kv.1) = (keys d).map V.str := by
  unfold enc keys
  rw [List.map_map]; rw [List.map_map]
  rfl
/-- the loop that halves: the dict at e, the keys' list at q -/
theorem sc_hasked : FnScope ["self", "name", "other"] ["self", "name"] (defScope sHalving_Asked) := ⟨rfl, rfl, rfl, by decide +kernel, rfl, by decide +kernel, by decide +kernel⟩
def spHAsked (K : PySem.W.Frag) : Sp := fun vs H Q _ => ∃ (C p dx d e : Addr) (st : V) (pl t : Int) (s : RS) (z : Str), vs = [.ref p, .str z] ∧ RC K C ∧ NoAttr K C "turn" ∧ NoAttr K C "tally" ∧ H p = some (.ins C dx (rX st pl (s.now : Int) d (hX t e))) ∧
  H d = some (.dK (enc s.L)) ∧ H e = some (.dK (enc s.T)) ∧ d ≠ e ∧ s.Le 900 ∧ 1 ≤ t ∧
  ∀ H', H' p = some (.ins C dx (rX st pl ((s.now : Int) + 1) d (hX t e))) → H' d = some (.dK (enc (s.asked t z).L)) → H' e = some (.dK (enc (s.asked t z).T)) → But [p, d, e] H H' → Q .non H'
theorem ok_hasked (T : Txt K mg) {f : Addr} (F : FnP K "asked" "Halving.asked" sHalving_Asked [] f) : Cal P w K mg base 1 f ["self", "name"] (spHAsked K) := by
  refine cal_of F sc_hasked (fun vs H Q E h => ?_) (fun _ _ _ _ _ _ us hl => match us, hl with | [_, _], _ => rfl) (fun cdv A outer st0 H vs Q E hr h => ?_)
  · obtain ⟨C, p, dx, d, e, st, pl, t, s, z, rfl, _⟩ := h; rfl
  · obtain ⟨C, p, dx, d, e, st, pl, t, s, z, rfl, R, nT, nY, hp, hd, he, nde, hle, ht, k⟩ := h
    have hu := hu_of hr
    have ndp : d ≠ p := ne_of hd hp (by intro q; cases q)
    have nep : e ≠ p := ne_of he hp (by intro q; cases q)
    refine ⟨_, pss_cons (ps_if (PW.pt (pw_and (pt_cmpR op_gt (pe_fld (pv 0) rfl) pe_int (nomark _)) (pw_and1 (pt_cmpR op_eq (pe_op op_mod (pe_fld (pv 0) rfl) (pe_fld (pv 0) rfl)) pe_int (nomark _)))))
        (pss_one (ps_for PassesOwn.never rfl (pi_list (pe_callTy (call_list_dK rfl) (by rfl) T.z_list (by decide +kernel) (pa_cons (pe_fld (pv 0) rfl) pa_nil))) (pg_name (i := 2) sc_hasked.nd rfl (Or.inl rfl))
          (pss_one (ps_dput hu (pe_fld (pv 0) rfl) (pv 2) (pe_op op_fdiv (pe_dget hu (pe_fld (pv 0) rfl) (pv 2) (fun _ _ => rfl)) pe_int) rfl)))) pss_nil)
      (pss_cons (ps_fld (pv 0) (pe_op op_add (pe_fld (pv 0) rfl) pe_int) rfl)
      (pss_cons (ps_dput hu (pe_fld (pv 0) rfl) (pv 1) (pe_fld (pv 0) rfl) rfl)
      (pss_one (ps_dput hu (pe_fld (pv 0) rfl) (pv 1) (pe_op op_add (pe_dget2 hu (pe_fld (pv 0) rfl) (pv 1) pe_int ⟨rfl, rfl, rfl, rfl⟩) pe_int) rfl)))), ?_⟩
    -- what follows the halving
    have tail : ∀ (v2 : Option V) (H1 : Hp), H1 p = some (.ins C dx (rX st pl (s.now : Int) d (hX t e))) → H1 d = some (.dK (enc s.L)) → H1 e = some (.dK (enc (turned t s))) → But [e] H H1 →
        tSeq (sFld K (tVar 0) (tOp (rI0 fun i j => .int (i + j)) (tFld K (tVar 0) "now") (tC (.int 1))) "now") (tSeq (sDPut (tFld K (tVar 0) "last") (tVar 1) (tFld K (tVar 0) "now"))
          (sDPut (tFld K (tVar 0) "tally") (tVar 1) (tOp (rI0 fun i j => .int (i + j)) (tDGet2 (tFld K (tVar 0) "tally") (tVar 1) (tC (.int 0))) (tC (.int 1))))) { nx := fun _ H' => Q .non H', rt := Q } [some (.ref p), some (.str z), v2] H1 := by
      intro v2 H1 hp1 hd1 he1 b1
      refine ⟨_, rfl, p, C, dx, _, _, rfl, hp1, R.cl, R.nN, rX_now, _, _, rfl, rfl, _, rfl, p, C, dx, _, rfl, hp1, R.cl, R.nN, (by simp [rX]), ?_⟩
      rw [rX_putnow]
      refine ⟨_, rfl, p, C, dx, _, _, rfl, upd_same, R.cl, R.nN, rX_now, _, rfl, p, C, dx, _, _, rfl, upd_same, R.cl, R.nL, rX_last, _, rfl, d, _, rfl,
        DPut.k (k := Sum.inr z) (by rw [upd_ne ndp]; exact hd1) (small1000 (by rw [enc_len]; exact Nat.le_trans hle.l (by decide))), ?_⟩
      rw [put_enc]
      have gp : (upd (upd H1 p (.ins C dx (rX st pl ((s.now : Int) + 1) d (hX t e)))) d (.dK (enc (put s.L z ((s.now : Int) + 1))))) p = some (.ins C dx (rX st pl ((s.now : Int) + 1) d (hX t e))) := by rw [upd_ne ndp.symm]; exact upd_same
      have ge : (upd (upd H1 p (.ins C dx (rX st pl ((s.now : Int) + 1) d (hX t e)))) d (.dK (enc (put s.L z ((s.now : Int) + 1))))) e = some (.dK (enc (turned t s))) := by rw [upd_ne nde.symm, upd_ne nep]; exact he1
      refine ⟨_, rfl, p, C, dx, _, _, rfl, gp, R.cl, nY, rX_tally, e, rfl, .inl ⟨_, .inl ge⟩, _, rfl, _, DGet.k (k := Sum.inr z) ge, ?_⟩
      rw [get_enc]
      refine ⟨_, _, rfl, rfl, _, rfl, p, C, dx, _, _, rfl, gp, R.cl, nY, rX_tally, _, rfl, e, _, rfl, DPut.k (k := Sum.inr z) ge (small1000 (by rw [enc_len, turned_len]; exact Nat.le_trans hle.t (by decide))), ?_⟩
      rw [put_enc]
      refine k _ (by rw [upd_ne nep.symm]; exact gp) (by rw [upd_ne nde]; exact upd_same) upd_same fun b o q n => ?_
      have n1 : b ≠ p := fun q => n (by simp [q])
      have n2 : b ≠ d := fun q => n (by simp [q])
      have n3 : b ≠ e := fun q => n (by simp [q])
      rw [upd_ne n3, upd_ne n2, upd_ne n1]
      exact b1 b o q (by simp [n3])
    refine ⟨_, rfl, p, C, dx, _, _, rfl, hp, R.cl, R.nN, rX_now, _, _, rfl, rfl, _, rfl, ite2D (fun hpos => ?_) (fun hpos => ?_)⟩
    · refine ⟨_, rfl, p, C, dx, _, _, rfl, hp, R.cl, R.nN, rX_now, _, rfl, p, C, dx, _, _, rfl, hp, R.cl, nT, rX_turn, _, _, rfl, rfl, (by show (0 : Int) < t; omega), rfl, _, rfl, ite2D (fun hz => ?_) (fun hz => ?_)⟩
      · have hz' : (s.now : Int) % t = 0 := V.int.inj hz
        have et : turned t s = halve s.T := if_pos ⟨by omega, hz'⟩
        refine ⟨_, rfl, p, C, dx, _, _, rfl, hp, R.cl, nY, rX_tally, e, _, rfl, he, fun q hq => ?_⟩
        rw [keysV]
        have nqp : p ≠ q := ne_of_none hp hq
        have nqd : d ≠ q := ne_of_none hd hq
        have nqe : e ≠ q := ne_of_none he hq
        refine ⟨q, rfl, ⟨_, SqL.of upd_same⟩, for_list (K := K) (a := q) (xs := (keys s.T).map V.str) (fun i σ H2 => ∃ v : Option V, σ = [some (.ref p), some (.str z), v] ∧ H2 p = some (.ins C dx (rX st pl (s.now : Int) d (hX t e))) ∧
          H2 d = some (.dK (enc s.L)) ∧ H2 q = some (.lst ((keys s.T).map V.str)) ∧ H2 e = some (.dK (enc (halfN s.T ((keys s.T).take i)))) ∧ But [e] H H2)
          ⟨none, rfl, by rw [upd_ne nqp]; exact hp, by rw [upd_ne nqd]; exact hd, upd_same, by rw [upd_ne nqe]; exact he, (But.of_same (Same.refl H)).updN hq⟩ (fun i σ H2 _ ⟨_, _, _, _, g, _⟩ => SqL.of g) ?_ ?_⟩
        · rintro i x σ H2 hi ⟨v, rfl, gp, gd, gq, ge, gb⟩
          obtain ⟨y, hy, rfl⟩ := str_at hi
          have ks : keys (halfN s.T ((keys s.T).take i)) = keys s.T := half_keys _ _ fun a ha => List.mem_of_mem_take ha
          have hyk : y ∈ keys (halfN s.T ((keys s.T).take i)) := by rw [ks]; exact List.mem_of_getElem? hy
          have hlen : (halfN s.T ((keys s.T).take i)).length = s.T.length := by rw [← keys_len, ks, keys_len]
          refine ⟨_, rfl, p, C, dx, _, _, rfl, gp, R.cl, nY, rX_tally, _, rfl, e, _, rfl, (by rw [← has_enc hyk]; exact DGet.k (k := Sum.inr y) ge), _, _, rfl, rfl, ⟨by decide, by decide⟩, ?_⟩
          refine ⟨_, rfl, p, C, dx, _, _, rfl, gp, R.cl, nY, rX_tally, _, rfl, e, _, rfl, DPut.k (k := Sum.inr y) ge (small1000 (by rw [enc_len, hlen]; exact Nat.le_trans hle.t (by decide))), ?_⟩
          rw [put_enc]
          have et2 : (keys s.T).take (i + 1) = (keys s.T).take i ++ [y] := by rw [List.take_add_one, hy]; rfl
          refine ⟨_, rfl, by rw [upd_ne nep.symm]; exact gp, by rw [upd_ne nde]; exact gd, by rw [upd_ne nqe.symm]; exact gq, ?_, gb.updI (by simp)⟩
          rw [upd_same, et2, halfN_snoc]
          rfl
        · rintro σ H2 ⟨v, rfl, gp, gd, gq, ge, gb⟩
          refine tail v H2 gp gd ?_ gb
          rw [ge, et, List.length_map, List.take_length]
          rfl
      · have et : turned t s = s.T := if_neg fun q => hz (congrArg V.int q.2)
        exact tail none H hp hd (by rw [et]; exact he) (But.of_same (Same.refl H))
    · have et : turned t s = s.T := if_neg fun q => hpos (by omega)
      refine iteF ?_
      exact tail none H hp hd (by rw [et]; exact he) (But.of_same (Same.refl H))
theorem sc_hrank : FnScope ["self", "name"] ["self", "name"] (defScope sHalving_Rank) := ⟨rfl, rfl, rfl, by decide +kernel, rfl, by decide +kernel, by decide +kernel⟩
def spHRank (K : PySem.W.Frag) : Sp := fun vs H Q _ => ∃ (C p dx d e : Addr) (st : V) (pl n t : Int) (L D : DI) (z : Str), vs = [.ref p, .str z] ∧ RC K C ∧ NoAttr K C "tally" ∧ H p = some (.ins C dx (rX st pl n d (hX t e))) ∧ H d = some (.dK (enc L)) ∧ H e = some (.dK (enc D)) ∧
  ∀ t, H t = none → Q (.ref t) (upd H t (.tup [.int (lk D z), .int (lk L z)]))
theorem ok_hrank {f : Addr} (F : FnP K "rank" "Halving.rank" sHalving_Rank [] f) : Cal P w K mg base 1 f ["self", "name"] (spHRank K) := by
  refine cal_of F sc_hrank (fun vs H Q E h => ?_) (fun _ _ _ _ _ _ us hl => match us, hl with | [_, _], _ => rfl) (fun cdv A outer s H vs Q E hr h => ?_)
  · obtain ⟨C, p, dx, d, e, st, pl, n, t, L, D, z, rfl, _⟩ := h; rfl
  · obtain ⟨C, p, dx, d, e, st, pl, n, t, L, D, z, rfl, R, nY, hp, hd, he, k⟩ := h
    have hu := hu_of hr
    refine ⟨_, pss_one (ps_ret (pe_tup (pa_cons (pe_dget2 hu (pe_fld (pv 0) rfl) (pv 1) pe_int ⟨rfl, rfl, rfl, rfl⟩) (pa_cons (pe_dget2 hu (pe_fld (pv 0) rfl) (pv 1) pe_int ⟨rfl, rfl, rfl, rfl⟩) pa_nil)))), ?_⟩
    refine ⟨_, rfl, p, C, dx, _, _, rfl, hp, R.cl, nY, rX_tally, e, rfl, .inl ⟨_, .inl he⟩, _, rfl, _, DGet.k (k := Sum.inr z) he,
      _, rfl, p, C, dx, _, _, rfl, hp, R.cl, R.nL, rX_last, d, rfl, .inl ⟨_, .inl hd⟩, _, rfl, _, DGet.k (k := Sum.inr z) hd, (by show 2 ≤ sizeLine; decide), fun t ht => ?_⟩
    rw [get_enc, get_enc]
    exact k t ht
theorem sc_counts : FnScope ["self"] ["self"] (defScope sHalving_Counts) := ⟨rfl, rfl, rfl, by decide +kernel, rfl, by decide +kernel, by decide +kernel⟩
def spHCounts (K : PySem.W.Frag) : Sp := fun vs H Q _ => ∃ (C p dx d e : Addr) (st : V) (pl n t : Int) (D : DI), vs = [.ref p] ∧ RC K C ∧ NoAttr K C "tally" ∧ H p = some (.ins C dx (rX st pl n d (hX t e))) ∧ H e = some (.dK (enc D)) ∧
  ∀ q, H q = none → Q (.ref q) (upd H q (.dK (enc D)))
theorem ok_counts (T : Txt K mg) {f : Addr} (F : FnP K "counts" "Halving.counts" sHalving_Counts [] f) : Cal P w K mg base 1 f ["self"] (spHCounts K) := by
  refine cal_of F sc_counts (fun vs H Q E h => ?_) (fun _ _ _ _ _ _ us hl => match us, hl with | [_], _ => rfl) (fun cdv A outer s H vs Q E hr h => ?_)
  · obtain ⟨C, p, dx, d, e, st, pl, n, t, D, rfl, _⟩ := h; rfl
  · obtain ⟨C, p, dx, d, e, st, pl, n, t, D, rfl, R, nY, hp, he, k⟩ := h
    refine ⟨_, pss_one (ps_ret (pe_callTy call_dictD (by rfl) T.z_dict (by decide +kernel) (pa_cons (pe_fld (pv 0) rfl) pa_nil))), ?_⟩
    exact ⟨_, rfl, p, C, dx, _, _, rfl, hp, R.cl, nY, rX_tally, e, _, rfl, .inl he, k⟩
end
end K29
/-! is_name, Stock, check_asks. -/
namespace K29
open PySem PySem.Spec PyProof.Rows L2
theorem no_enc {d : DI} {z : Str} (h : z ∉ keys d) : valV (enc d) (Sum.inr z : Key) = none := by
  rw [valV_enc]
  have : (d.find? fun p => decide (p.1 = z)) = none := by
    rw [List.find?_eq_none]
    intro p hp
    have : p.1 ≠ z := fun e => h (List.mem_map.mpr ⟨p, hp, e⟩)
    simpa using this
  rw [this]
  rfl
theorem put_new {d : DI} {z : Str} (i : Int) (h : z ∉ keys d) : put d z i = d ++ [(z, i)] := by
  unfold put
  rw [if_neg]
  intro q
  obtain ⟨p, hp, e⟩ := (List.any_eq_true.mp q)
  exact h (List.mem_map.mpr ⟨_, hp, of_decide_eq_true e⟩)
theorem costs_keys (rows : List Row3) : keys (costsD rows) = rows.map (·.1) := by
  unfold keys costsD
  rw [List.map_map]
  rfl
theorem rooms_keys (rows : List Row3) : keys (roomsD rows) = rows.map (·.1) := by
  unfold keys roomsD
  rw [List.map_map]
  rfl
theorem take_at {α : Type} {l : List α} {i : Nat} {x : α} (h : l[i]? = some x) : l.take (i + 1) = l.take i ++ [x] := by
  rw [List.take_add_one, h]
  rfl
theorem nodup_take {rows : List Row3} (h : (rows.map (·.1)).Nodup) {i : Nat} {r : Row3} (e : rows[i]? = some r) : r.1 ∉ (rows.take i).map (·.1) := by
  intro q
  rw [List.map_take] at q
  obtain ⟨j, hj, ej⟩ := List.mem_iff_getElem.mp q
  rw [List.length_take] at hj
  have e1 : (rows.map (·.1))[j]? = some r.1 := by
    rw [List.getElem_take] at ej
    rw [← ej]
    exact List.getElem?_eq_getElem (by omega)
  have e2 : (rows.map (·.1))[i]? = some r.1 := by rw [List.getElem?_map, e]; rfl
  have := nd_ix h e1 e2
  omega
section
variable {P : Program} {w : World} {K : PySem.W.Frag} {mg : Str → Option Value} {base : Heap}
theorem sc_isname : FnScope ["thing", "sign"] ["thing"] (defScope sIsName) := ⟨rfl, rfl, rfl, by decide +kernel, rfl, by decide +kernel, by decide +kernel⟩
def spIsName : Sp := fun vs H Q _ => ∃ z : Str, vs = [.str z] ∧ NmOk z ∧ Q (.bl true) H
theorem small8 {n : Nat} (h : n ≤ 8) : n ≤ sizeLine := Nat.le_trans h (by decide)
theorem ok_isname (T : Txt K mg) : Cal P w K mg base 1 (He.ga K "is_name") ["thing"] spIsName := by
  refine cal_of T.fIsName sc_isname (fun vs H Q E h => ?_) (fun _ _ _ _ _ _ us hl => match us, hl with | [_], _ => rfl) (fun cdv A outer s H vs Q E hr h => ?_)
  · obtain ⟨z, rfl, _⟩ := h; rfl
  · obtain ⟨z, rfl, N, k⟩ := h
    obtain ⟨uL, hL, rL⟩ := T.s_LETTERS
    obtain ⟨uF, hF, rF⟩ := T.s_FIGURES
    refine ⟨_, pss_cons (ps_if (PW.pt (pw_or (pt_not (pt_val (pe_callB call_isi (by rfl) T.z_isinstance (by decide +kernel) (pa_cons (pv 0) (pa_cons (pe_bltn (v := .ty "str") (by rfl) T.z_str (by decide +kernel) rfl) pa_nil)))))
        (pw_or (pt_cmpR op_lt (pe_callB call_len_str (by rfl) T.z_len PySem.boot_len (pa_cons (pv 0) pa_nil)) pe_int (nomark _)) (pw_or1 (pt_cmpR op_gt (pe_callB call_len_str (by rfl) T.z_len PySem.boot_len (pa_cons (pv 0) pa_nil)) pe_int (nomark _)))))) pss_never pss_nil)
      (pss_cons (ps_for PassesOwn.never rfl (pi_str (pv 0)) (pg_name (i := 1) sc_isname.nd rfl (Or.inl rfl))
        (pss_one (ps_if (PW.pt (pw_and (pt_cmpR op_notIn_sign (pv 1) (pe_glob (by rfl) hL rL) (by rfl)) (pw_and1 (pt_cmpR op_notIn_sign (pv 1) (pe_glob (by rfl) hF rF) (by rfl))))) pss_never pss_nil)))
      (pss_one (ps_ret (pe_cmpR op_in_sign (pe_ix ix_str (pv 0) pe_int (fun _ _ => rfl)) (pe_glob (by rfl) hL rL) (by rfl))))), ?_⟩
    have hlo := N.lo
    have hhi := N.hi
    refine ⟨_, rfl, _, _, .type "str", .type "str", true, rfl, .ty _, .base (.str _), kit_ty (by decide +kernel), _, rfl, iteF ?_⟩
    refine ⟨_, rfl, _, rfl, small8 hhi, _, _, rfl, rfl, _, rfl, iteDF (by omega) ?_⟩
    refine ⟨_, rfl, _, rfl, small8 hhi, _, _, rfl, rfl, _, rfl, iteDF (by omega) ?_⟩
    refine ⟨_, rfl, z, rfl, for_it (walk_str (z := z)) (fun i σ H2 => ∃ v : Option V, σ = [some (.str z), v] ∧ H2 = H) ⟨none, rfl, rfl⟩ (fun _ _ _ _ _ => trivial) ?_ ?_⟩
    · rintro i x σ H2 H3 hi ⟨v, rfl, rfl⟩ ⟨rfl, c, hc, rfl⟩
      have hm : c ∈ z.cps.toList := by
        obtain ⟨h1, h2⟩ := Array.getElem?_eq_some_iff.mp hc
        rw [← h2]
        exact Array.getElem_mem_toList h1
      refine ⟨_, rfl, c, _, rfl, rfl, _, rfl, ?_⟩
      by_cases hcl : c ∈ LET.cps.toList
      · refine iteNF hcl ?_
        exact iteF ⟨_, rfl, rfl⟩
      · refine iteNT hcl ?_
        refine ⟨_, rfl, c, _, rfl, rfl, _, rfl, ?_⟩
        have hcf : c ∈ FIG.cps.toList := (N.all c hm).resolve_left hcl
        exact iteNF hcf ⟨_, rfl, rfl⟩
    · rintro σ H2 ⟨v, rfl, rfl⟩
      obtain ⟨c, hc, hcl⟩ := N.first
      refine ⟨_, rfl, z, _, c, rfl, rfl, small8 hhi, atI_nat (j := 0) (by rw [Array.getElem?_toList]; exact hc), c, _, rfl, rfl, ?_⟩
      have e : decide (c ∈ LET.cps.toList) = true := decide_eq_true hcl
      show Q (.bl (decide (c ∈ LET.cps.toList))) _
      rw [e]
      exact k
/-! ### Stock -/
theorem stF_costs (dc dr : Addr) : (stF dc dr).lookup ("costs" : Str) = some (.ref dc) := by simp [stF, List.lookup]
theorem stF_rooms (dc dr : Addr) : (stF dc dr).lookup ("rooms" : Str) = some (.ref dr) := by simp [stF, List.lookup]
theorem stF_has (dc dr : Addr) : (stF dc dr).lookup ("has" : Str) = none := by simp [stF, List.lookup]
theorem stF_room_of (dc dr : Addr) : (stF dc dr).lookup ("room_of" : Str) = none := by simp [stF, List.lookup]
theorem stF_mk (dc dr : Addr) : putF "rooms" (.ref dr) (putF "costs" (.ref dc) []) = stF dc dr := by simp [stF, putF]
theorem sc_stock : FnScope ["self", "rows", "name", "cost", "room"] ["self", "rows"] (defScope sStock_Init) := ⟨rfl, rfl, rfl, by decide +kernel, rfl, by decide +kernel, by decide +kernel⟩
def spStock (K : PySem.W.Frag) : Sp := fun vs H Q _ => ∃ (p dx r : Addr) (rows : List Row3), vs = [.ref p, .ref r] ∧ H p = some (.ins (He.ga K "Stock") dx []) ∧ RowsAt H r rows ∧ RowsOk rows ∧
  ∀ H', StockAt (He.ga K "Stock") H' p rows → But [p] H H' → Q .non H'
theorem ten30 : (10 : Int) ^ ((30 : Int).toNat) = 1000000000000000000000000000000 := by decide
theorem ok_stock (T : Txt K mg) : Cal P w K mg base 2 (He.ma K (He.ga K "Stock") "__init__") ["self", "rows"] (spStock K) := by
  refine cal_of T.fStock_Init sc_stock (fun vs H Q E h => ?_) (fun _ _ _ _ _ _ us hl => match us, hl with | [_, _], _ => rfl) (fun cdv A outer s H vs Q E hr h => ?_)
  · obtain ⟨p, dx, r, rows, rfl, _⟩ := h; rfl
  · obtain ⟨p, dx, r, rows, rfl, hp, hR, O, k⟩ := h
    have hu := hu_of hr
    obtain ⟨ts, hl, htl, hts⟩ := id hR
    refine ⟨_, pss_cons (ps_if (pt_cmpR op_gt (pe_callB call_len_seq (by rfl) T.z_len PySem.boot_len (pa_cons (pv 1) pa_nil)) pe_int (nomark _)) pss_never pss_nil)
      (pss_cons (ps_fld (pv 0) pe_dnewK rfl) (pss_cons (ps_fld (pv 0) pe_dnewK rfl)
      (pss_one (ps_for PassesOwn.never rfl (pi_list (pv 1)) (pg_tup rfl (pgs_cons (pg_name (i := 2) sc_stock.nd rfl (Or.inl rfl)) (pgs_cons (pg_name (i := 3) sc_stock.nd rfl (Or.inl rfl)) (pgs_cons (pg_name (i := 4) sc_stock.nd rfl (Or.inl rfl)) pgs_nil))))
        (pss_cons (ps_if (pt_not (pt_val (pe_cal (ok_isname T) hr T.g_is_name (pa_cons (pv 2) pa_nil)))) pss_never pss_nil)
        (pss_cons (ps_if (pt_cmp (pc_din hu (pv 2) (pe_fld (pv 0) rfl))) pss_never pss_nil)
        (pss_cons (ps_if (PW.pt (pw_or (pt_not (pt_val (pe_cal (ok_whole T) hr T.g_is_whole (pa_cons (pv 3) pa_nil))))
          (pw_or (pt_cmpR op_lt (pv 3) pe_int (nomark _)) (pw_or1 (pt_cmpR op_gt (pv 3) (pe_op op_pow pe_int pe_int) (nomark _)))))) pss_never pss_nil)
        (pss_cons (ps_if (PW.pt (pw_or (pt_not (pt_val (pe_cal (ok_whole T) hr T.g_is_whole (pa_cons (pv 4) pa_nil))))
          (pw_or (pt_cmpR op_lt (pv 4) pe_int (nomark _)) (pw_or1 (pt_cmpR op_gt (pv 4) pe_int (nomark _)))))) pss_never pss_nil)
        (pss_cons (ps_dput hu (pe_fld (pv 0) rfl) (pv 2) (pv 3) rfl)
        (pss_one (ps_dput hu (pe_fld (pv 0) rfl) (pv 2) (pv 4) rfl))))))))))), ?_⟩
    refine ⟨_, rfl, r, _, rfl, .inl (SqL.of hl), _, _, rfl, rfl, _, rfl, iteDF (by rw [List.length_map, htl]; have := O.hi; omega) ?_⟩
    intro dc hdc
    have npc : p ≠ dc := ne_of_none hp hdc
    refine ⟨_, rfl, p, _, dx, _, rfl, (by rw [upd_ne npc]; exact hp), T.c_Stock, T.n_Stock_costs, (by show 0 < 1000; decide), ?_⟩
    intro dr hdr
    have npr : p ≠ dr := fun q => by rw [← q, upd_same] at hdr; cases hdr
    have ncr : dc ≠ dr := fun q => by rw [← q, upd_ne npc.symm, upd_same] at hdr; cases hdr
    have hdr0 : H dr = none := by rw [upd_ne npr.symm, upd_ne ncr.symm] at hdr; exact hdr
    refine ⟨_, rfl, p, _, dx, _, rfl, (by rw [upd_ne npr]; exact upd_same), T.c_Stock, T.n_Stock_rooms, (by simp [putF]), ?_⟩
    rw [stF_mk]
    have nrp : r ≠ p := ne_of hl hp (by intro q; cases q)
    have b0 : But [p] H (upd (upd (upd (upd H dc (.dK [])) p (.ins (He.ga K "Stock") dx (putF "costs" (.ref dc) []))) dr (.dK [])) p (.ins (He.ga K "Stock") dx (stF dc dr))) := (((But.of_same (Same.refl H)).updN hdc).updI (by simp) |>.updN hdr0).updI (by simp)
    have rowsAt : ∀ {H2 : Hp}, But [p] H H2 → H2 r = some (.lst (ts.map V.ref)) ∧ ∀ (i : Nat) (t : Addr) (q : Row3), ts[i]? = some t → rows[i]? = some q → H2 t = some (.tup (rowV q)) := fun {H2} b => ⟨b _ _ hl (by simp [nrp]), fun i t q h1 h2 => by
      have ht := hts i t q h1 h2
      exact b _ _ ht (by simp [ne_of ht hp (by intro q; cases q)])⟩
    refine ⟨_, rfl, r, rfl, ⟨_, SqL.of (rowsAt b0).1⟩, for_list (K := K) (a := r) (xs := ts.map V.ref) (fun i σ H2 => ∃ v2 v3 v4 : Option V, σ = [some (.ref p), some (.ref r), v2, v3, v4] ∧ H2 p = some (.ins (He.ga K "Stock") dx (stF dc dr)) ∧
        H2 dc = some (.dK (enc (costsD (rows.take i)))) ∧ H2 dr = some (.dK (enc (roomsD (rows.take i)))) ∧ But [p] H H2)
      ⟨none, none, none, rfl, upd_same, by rw [upd_ne npc.symm, upd_ne ncr, upd_ne npc.symm]; exact upd_same, by rw [upd_ne npr.symm]; exact upd_same, b0⟩ (fun i σ H2 _ ⟨_, _, _, _, _, _, _, b⟩ => SqL.of (rowsAt b).1) ?_ ?_⟩
    · rintro i x σ H2 hi ⟨v2, v3, v4, rfl, gp, gc, gr, gb⟩
      obtain ⟨t, ht, rfl⟩ : ∃ t, ts[i]? = some t ∧ x = .ref t := by
        rw [List.getElem?_map] at hi
        cases e : ts[i]? with
        | none => rw [e] at hi; cases hi
        | some t => rw [e] at hi; exact ⟨t, rfl, (Option.some.inj hi).symm⟩
      have hil : i < rows.length := by rw [← htl]; exact (List.getElem?_eq_some_iff.mp ht).1
      obtain ⟨q, hq⟩ : ∃ q, rows[i]? = some q := ⟨rows[i], List.getElem?_eq_getElem hil⟩
      have hqm : q ∈ rows := List.mem_of_getElem? hq
      have hT := (rowsAt gb).2 i t q ht hq
      obtain ⟨z, c, m⟩ := q
      refine ⟨t, _, rfl, SqT.of hT, rfl, _, _, rfl, _, _, rfl, _, _, rfl, rfl, ?_⟩
      have hco := O.co _ hqm
      have hro := O.ro _ hqm
      have hnot : z ∉ (rows.take i).map (·.1) := nodup_take O.nd hq
      -- is_name
      refine ⟨_, rfl, z, rfl, O.nm _ hqm, true, rfl, iteF ?_⟩
      -- name in self.costs
      refine ⟨_, rfl, _, rfl, p, _, dx, _, _, rfl, gp, T.c_Stock, T.n_Stock_costs, stF_costs _ _, dc, _, rfl, DGet.k (k := Sum.inr z) gc, _, rfl, ?_⟩
      rw [no_enc (by rw [costs_keys]; exact hnot)]
      refine iteF ?_
      -- the cost
      refine ⟨_, rfl, c, rfl, true, rfl, iteF ?_⟩
      refine ⟨_, rfl, _, _, rfl, rfl, _, rfl, iteDF (by have := hco.1; simp at this; omega) ?_⟩
      refine ⟨_, rfl, _, _, rfl, rfl, ⟨by decide, by decide, by decide⟩, _, _, rfl, rfl, _, rfl, iteDF (by rw [ten30]; have := hco.2; simp at this; omega) ?_⟩
      -- the room
      refine ⟨_, rfl, m, rfl, true, rfl, iteF ?_⟩
      refine ⟨_, rfl, _, _, rfl, rfl, _, rfl, iteDF (by have := hro.1; simp at this; omega) ?_⟩
      refine ⟨_, rfl, _, _, rfl, rfl, _, rfl, iteDF (by have := hro.2; simp at this; omega) ?_⟩
      -- the stores
      have lenT : (rows.take i).length ≤ 60 := by rw [List.length_take]; have := O.hi; omega
      refine ⟨_, rfl, _, rfl, p, _, dx, _, _, rfl, gp, T.c_Stock, T.n_Stock_costs, stF_costs _ _, _, rfl, dc, _, rfl, DPut.k (k := Sum.inr z) gc (small1000 (by rw [enc_len]; unfold costsD; rw [List.length_map]; omega)), ?_⟩
      rw [put_enc, put_new _ (by rw [costs_keys]; exact hnot)]
      have gp' : (upd H2 dc (.dK (enc (costsD (rows.take i) ++ [(z, c)])))) p = some (.ins (He.ga K "Stock") dx (stF dc dr)) := by rw [upd_ne npc]; exact gp
      refine ⟨_, rfl, _, rfl, p, _, dx, _, _, rfl, gp', T.c_Stock, T.n_Stock_rooms, stF_rooms _ _, _, rfl, dr, _, rfl, DPut.k (k := Sum.inr z) (by rw [upd_ne ncr.symm]; exact gr) (small1000 (by rw [enc_len]; unfold roomsD; rw [List.length_map]; omega)), ?_⟩
      rw [put_enc, put_new _ (by rw [rooms_keys]; exact hnot)]
      refine ⟨_, _, _, rfl, by rw [upd_ne npr]; exact gp', ?_, ?_, (gb.updN hdc).updN hdr0⟩
      · rw [upd_ne ncr, upd_same, take_at hq]
        unfold costsD
        rw [List.map_append]
        rfl
      · rw [upd_same, take_at hq]
        unfold roomsD
        rw [List.map_append]
        rfl
    · rintro σ H2 ⟨v2, v3, v4, rfl, gp, gc, gr, gb⟩
      rw [List.length_map, htl, List.take_length] at gc gr
      exact k H2 ⟨dx, dc, dr, gp, gc, gr⟩ gb
theorem sc_has : FnScope ["self", "name"] ["self", "name"] (defScope sStock_Has) := ⟨rfl, rfl, rfl, by decide +kernel, rfl, by decide +kernel, by decide +kernel⟩
def spHas (K : PySem.W.Frag) : Sp := fun vs H Q _ => ∃ (p : Addr) (rows : List Row3) (z : Str), vs = [.ref p, .str z] ∧ StockAt (He.ga K "Stock") H p rows ∧ z ∈ rows.map (·.1) ∧ Q (.bl true) H
theorem ok_has (T : Txt K mg) : Cal P w K mg base 1 (He.ma K (He.ga K "Stock") "has") ["self", "name"] (spHas K) := by
  refine cal_of T.fStock_Has sc_has (fun vs H Q E h => ?_) (fun _ _ _ _ _ _ us hl => match us, hl with | [_, _], _ => rfl) (fun cdv A outer s H vs Q E hr h => ?_)
  · obtain ⟨p, rows, z, rfl, _⟩ := h; rfl
  · obtain ⟨p, rows, z, rfl, ⟨dx, dc, dr, hp, hc, hd⟩, hz, k⟩ := h
    have hu := hu_of hr
    refine ⟨_, pss_one (ps_ret (pe_cmp (pc_din hu (pv 1) (pe_fld (pv 0) rfl)))), ?_⟩
    refine ⟨_, rfl, _, rfl, p, _, dx, _, _, rfl, hp, T.c_Stock, T.n_Stock_costs, stF_costs _ _, dc, _, rfl, DGet.k (k := Sum.inr z) hc, ?_⟩
    rw [has_enc (by rw [costs_keys]; exact hz)]
    exact k
theorem sc_roomof : FnScope ["self", "name"] ["self", "name"] (defScope sStock_RoomOf) := ⟨rfl, rfl, rfl, by decide +kernel, rfl, by decide +kernel, by decide +kernel⟩
def spRoomOf (K : PySem.W.Frag) : Sp := fun vs H Q _ => ∃ (p : Addr) (rows : List Row3) (z : Str), vs = [.ref p, .str z] ∧ StockAt (He.ga K "Stock") H p rows ∧ z ∈ rows.map (·.1) ∧ Q (.int (lk (roomsD rows) z)) H
theorem ok_roomof (T : Txt K mg) : Cal P w K mg base 1 (He.ma K (He.ga K "Stock") "room_of") ["self", "name"] (spRoomOf K) := by
  refine cal_of T.fStock_RoomOf sc_roomof (fun vs H Q E h => ?_) (fun _ _ _ _ _ _ us hl => match us, hl with | [_, _], _ => rfl) (fun cdv A outer s H vs Q E hr h => ?_)
  · obtain ⟨p, rows, z, rfl, _⟩ := h; rfl
  · obtain ⟨p, rows, z, rfl, ⟨dx, dc, dr, hp, hc, hd⟩, hz, k⟩ := h
    have hu := hu_of hr
    have hg := has_enc (d := roomsD rows) (z := z) (by rw [rooms_keys]; exact hz)
    refine ⟨_, pss_cons (ps_if (pt_cmp (pc_dnotin hu (pv 1) (pe_fld (pv 0) rfl))) pss_never pss_nil) (pss_one (ps_ret (pe_dget hu (pe_fld (pv 0) rfl) (pv 1) (fun _ _ => rfl)))), ?_⟩
    refine ⟨_, rfl, _, rfl, p, _, dx, _, _, rfl, hp, T.c_Stock, T.n_Stock_rooms, stF_rooms _ _, dr, _, rfl, DGet.k (k := Sum.inr z) hd, _, rfl, ?_⟩
    rw [hg]
    refine iteF ?_
    exact ⟨_, rfl, p, _, dx, _, _, rfl, hp, T.c_Stock, T.n_Stock_rooms, stF_rooms _ _, _, rfl, dr, _, rfl, by rw [← hg]; exact DGet.k (k := Sum.inr z) hd, k⟩
/-! ### check_asks -/
theorem sc_check : FnScope ["stock", "asks", "places", "at", "name"] ["stock", "asks", "places"] (defScope sCheckAsks) := ⟨rfl, rfl, rfl, by decide +kernel, rfl, by decide +kernel, by decide +kernel⟩
def spCheck (K : PySem.W.Frag) : Sp := fun vs H Q _ => ∃ (p a : Addr) (pl : Int) (rows : List Row3) (asks : List Str), vs = [.ref p, .ref a, .int pl] ∧ StockAt (He.ga K "Stock") H p rows ∧ SqL K H a (asks.map V.str) ∧ asks.length ≤ 200 ∧
  (∀ z ∈ asks, z ∈ rows.map (·.1) ∧ lk (roomsD rows) z ≤ pl) ∧ 1 ≤ pl ∧ pl ≤ 1000000 ∧ ∀ H', Same H H' → Q (.bl true) H'
theorem ok_check (T : Txt K mg) : Cal P w K mg base 3 (He.ga K "check_asks") ["stock", "asks", "places"] (spCheck K) := by
  refine cal_of T.fCheckAsks sc_check (fun vs H Q E h => ?_) (fun _ _ _ _ _ _ us hl => match us, hl with | [_, _, _], _ => rfl) (fun cdv A outer s H vs Q E hr h => ?_)
  · obtain ⟨p, a, pl, rows, asks, rfl, _⟩ := h; rfl
  · obtain ⟨p, a, pl, rows, asks, rfl, hS, ha, hlen, hall, h1, h2, k⟩ := h
    obtain ⟨u, hm, hrel⟩ := T.i_MOST_ASKS
    refine ⟨_, pss_cons (ps_expr (pe_cal (ok_need T) hr T.g_need_places (pa_cons (pv 2) pa_nil)))
      (pss_cons (ps_if (pt_cmpR op_gt (pe_callB call_len_seq (by rfl) T.z_len PySem.boot_len (pa_cons (pv 1) pa_nil)) (pe_glob (by rfl) hm hrel) (nomark _)) pss_never pss_nil)
      (pss_cons (ps_for PassesOwn.never rfl (pi_enum (by rfl) T.z_enumerate (pa_cons (pv 1) pa_nil)) (pg_tup rfl (pgs_cons (pg_name (i := 3) sc_check.nd rfl (Or.inl rfl)) (pgs_cons (pg_name (i := 4) sc_check.nd rfl (Or.inl rfl)) pgs_nil)))
        (pss_cons (ps_if (pt_not (pt_val (pe_me T.c_Stock T.me_Stock_has (ok_has T) hr (pv 0) (pa_cons (pv 4) pa_nil)))) pss_never pss_nil)
        (pss_one (ps_if (pt_cmpR op_gt (pe_me T.c_Stock T.me_Stock_room_of (ok_roomof T) hr (pv 0) (pa_cons (pv 4) pa_nil)) (pv 2) (nomark _)) pss_never pss_nil))))
      (pss_one (ps_ret pe_bl)))), ?_⟩
    refine ⟨_, rfl, pl, rfl, h1, h2, ?_⟩
    refine ⟨_, rfl, a, _, rfl, .inl ha, _, _, rfl, rfl, _, rfl, iteDF (by rw [List.length_map]; omega) ?_⟩
    refine ⟨_, rfl, a, _, rfl, ha, for_it (walk_enum (K := K) (a := a) (xs := asks.map V.str)) (fun i σ H2 => ∃ v3 v4 : Option V, σ = [some (.ref p), some (.ref a), some (.int pl), v3, v4] ∧ Same H H2)
      ⟨none, none, rfl, Same.refl H⟩ (fun i σ H2 _ ⟨_, _, _, s2⟩ => s2.seq ha) ?_ ?_⟩
    · rintro i x σ H2 H3 hi ⟨v3, v4, rfl, s2⟩ ⟨t, x1, x2, rfl, ht, rfl, e1, e2⟩
      cases e1
      obtain ⟨z, hz, rfl⟩ := str_at e2
      have s3 : Same H (upd H2 t (.tup [.int (i : Nat), .str z])) := fun b o e => by
        rw [upd_ne (ne_of_none (s2 b o e) ht)]
        exact s2 b o e
      obtain ⟨hz1, hz2⟩ := hall z (List.mem_of_getElem? hz)
      have hS3 := hS.same s3
      obtain ⟨dx, dc, dr, hp, _, _⟩ := id hS3
      refine ⟨t, _, rfl, SqT.of upd_same, rfl, _, _, rfl, _, _, rfl, rfl, ?_⟩
      refine ⟨_, rfl, p, dx, _, rfl, hp, stF_has _ _, _, rfl, p, rows, z, rfl, hS3, hz1, true, rfl, iteF ?_⟩
      refine ⟨_, rfl, p, dx, _, rfl, hp, stF_room_of _ _, _, rfl, p, rows, z, rfl, hS3, hz1, ?_⟩
      refine ⟨_, rfl, _, _, rfl, rfl, _, rfl, iteDF (by omega) ?_⟩
      exact ⟨_, _, rfl, s3⟩
    · rintro σ H2 ⟨v3, v4, rfl, s2⟩
      exact k H2 s2
end
end K29
/-! Farthest. -/
namespace K29
open PySem PySem.Spec PyProof.Rows L2
/-! ### the numbers of the asks for a thing -/
def posN (asks : List Str) (n : Nat) (z : Str) : List Nat := (List.range n).filter fun k => decide (asks[k]? = some z)
def posI (asks : List Str) (n : Nat) (z : Str) : List Int := (posN asks n z).map fun k => ((k : Nat) : Int) + 1
theorem posI_hit {asks : List Str} {i : Nat} {z : Str} (h : asks[i]? = some z) : posI asks (i + 1) z = posI asks i z ++ [(i : Int) + 1] := by
  unfold posI posN
  rw [List.range_succ, List.filter_append, List.map_append]
  simp [h]
theorem posI_miss {asks : List Str} {i : Nat} {z : Str} (h : asks[i]? ≠ some z) : posI asks (i + 1) z = posI asks i z := by
  unfold posI posN
  rw [List.range_succ, List.filter_append, List.map_append]
  simp [h]
theorem posI_len (asks : List Str) (n : Nat) (z : Str) : (posI asks n z).length ≤ n := by
  unfold posI posN
  rw [List.length_map]
  exact Nat.le_trans (List.length_filter_le _ _) (by rw [List.length_range]; exact Nat.le_refl _)
theorem posN_mem {asks : List Str} {n k : Nat} {z : Str} : k ∈ posN asks n z ↔ k < n ∧ asks[k]? = some z := by
  unfold posN
  rw [List.mem_filter, List.mem_range, decide_eq_true_eq]
theorem posN_lt {asks : List Str} {n i j a b : Nat} {z : Str} (ha : (posN asks n z)[i]? = some a) (hb : (posN asks n z)[j]? = some b) (h : a < b) : i < j := by
  have pw : (posN asks n z).Pairwise (· < ·) := List.Pairwise.filter _ List.pairwise_lt_range
  obtain ⟨hi, ea⟩ := List.getElem?_eq_some_iff.mp ha
  obtain ⟨hj, eb⟩ := List.getElem?_eq_some_iff.mp hb
  rcases Nat.lt_trichotomy i j with q | q | q
  · exact q
  · subst q
    rw [ea] at eb
    omega
  · have := List.pairwise_iff_getElem.mp pw j i hj hi q
    rw [ea, eb] at this
    omega
theorem nxt_hit {asks : List Str} {z : Str} {now j : Nat} {v : Int} (h : (posI asks asks.length z)[j]? = some v) (hv : (now : Int) < v) (hb : ∀ i u, i < j → (posI asks asks.length z)[i]? = some u → u ≤ (now : Int)) : nxt asks z now = v := by
  unfold posI at h hb
  rw [List.getElem?_map] at h
  obtain ⟨k, hk, e⟩ := Option.map_eq_some_iff.mp h
  obtain ⟨_, h2⟩ := posN_mem.mp (List.mem_of_getElem? hk)
  rw [← e]
  refine nxt_at (by omega) h2 fun m h3 h4 h5 => ?_
  have hm : m ∈ posN asks asks.length z := posN_mem.mpr ⟨(List.getElem?_eq_some_iff.mp h5).1, h5⟩
  obtain ⟨i, hi, ei⟩ := List.mem_iff_getElem.mp hm
  have hi' : (posN asks asks.length z)[i]? = some m := by rw [List.getElem?_eq_getElem hi, ei]
  have := hb i ((m : Int) + 1) (posN_lt hi' hk h4) (by rw [List.getElem?_map, hi']; rfl)
  omega
theorem nxt_none {asks : List Str} {z : Str} {now : Nat} (hb : ∀ u ∈ posI asks asks.length z, u ≤ (now : Int)) : nxt asks z now = (asks.length : Int) + 1 := by
  refine nxt_no fun m h3 h5 => ?_
  have hm : m ∈ posN asks asks.length z := posN_mem.mpr ⟨(List.getElem?_eq_some_iff.mp h5).1, h5⟩
  have := hb ((m : Int) + 1) (List.mem_map.mpr ⟨m, hm, rfl⟩)
  omega
/-! ### the dict from names to the lists of these numbers -/
abbrev TB := List (Str × Addr)
def encR (tb : TB) : List (Key × V) := tb.map fun p => ((Sum.inr p.1 : Key), V.ref p.2)
theorem valV_encR (tb : TB) (z : Str) : valV (encR tb) (Sum.inr z : Key) = ((tb.find? fun p => decide (p.1 = z)).map fun p => V.ref p.2) := by
  unfold valV encR
  induction tb with
  | nil => rfl
  | cons p r ih =>
    by_cases h : p.1 = z
    · simp [h]
    · simp only [List.map_cons, List.find?_cons, inr_eq, h, decide_false] at ih ⊢
      exact ih
theorem valR_some {tb : TB} {z : Str} {v : V} (h : valV (encR tb) (Sum.inr z : Key) = some v) : ∃ l, v = .ref l ∧ (z, l) ∈ tb := by
  rw [valV_encR] at h
  obtain ⟨p, hp, e⟩ := Option.map_eq_some_iff.mp h
  have h1 := List.mem_of_find?_eq_some hp
  have h2 : p.1 = z := of_decide_eq_true (List.find?_some (p := fun p : Str × Addr => decide (p.1 = z)) hp)
  obtain ⟨a, b⟩ := p
  have h2' : a = z := h2
  subst h2'
  exact ⟨b, e.symm, h1⟩
theorem valR_none {tb : TB} {z : Str} (h : valV (encR tb) (Sum.inr z : Key) = none) : z ∉ tb.map (·.1) := by
  rw [valV_encR] at h
  have h1 := List.find?_eq_none.mp (Option.map_eq_none_iff.mp h)
  intro q
  obtain ⟨p, hp, e⟩ := (List.mem_map.mp q)
  have := h1 p hp
  simp [e] at this
theorem putR_new {tb : TB} {z : Str} {l : Addr} (h : z ∉ tb.map (·.1)) : putK (encR tb) (Sum.inr z : Key) (.ref l) = encR (tb ++ [(z, l)]) := by
  unfold putK
  rw [if_neg]
  · unfold encR
    rw [List.map_append]
    rfl
  · intro q
    obtain ⟨kv, hkv, e⟩ := List.any_eq_true.mp q
    unfold encR at hkv
    obtain ⟨p, hp, e2⟩ := List.mem_map.mp hkv
    subst e2
    exact h (List.mem_map.mpr ⟨p, hp, Sum.inr.inj (of_decide_eq_true e)⟩)
structure TimesAt (H : Hp) (e : Addr) (asks : List Str) (n : Nat) (tb : TB) : Prop where
  d : H e = some (.dK (encR tb))
  nd : (tb.map (·.2)).Nodup
  at_ : ∀ z l, (z, l) ∈ tb → H l = some (.lst ((posI asks n z).map V.int))
  no : ∀ z, z ∉ tb.map (·.1) → posI asks n z = []
  len : tb.length ≤ n
  one : ∀ z l m, (z, l) ∈ tb → (z, m) ∈ tb → l = m
theorem TimesAt.keep {H H' : Hp} {e : Addr} {asks : List Str} {n : Nat} {tb : TB} (t : TimesAt H e asks n tb) (k : ∀ b, b = e ∨ b ∈ tb.map (·.2) → ∀ o, H b = some o → H' b = some o) : TimesAt H' e asks n tb :=
  ⟨k _ (.inl rfl) _ t.d, t.nd, fun z l h => k _ (.inr (List.mem_map.mpr ⟨_, h, rfl⟩)) _ (t.at_ z l h), t.no, t.len, t.one⟩
theorem TimesAt.nil {H : Hp} {e : Addr} {asks : List Str} (h : H e = some (.dK [])) : TimesAt H e asks 0 [] :=
  ⟨h, List.nodup_nil, fun _ _ q => absurd q List.not_mem_nil, fun _ _ => rfl, Nat.le_refl _, fun _ _ _ q _ => absurd q List.not_mem_nil⟩
theorem nd_snd {tb : TB} (h : (tb.map (·.2)).Nodup) {z y : Str} {l : Addr} (a : (z, l) ∈ tb) (b : (y, l) ∈ tb) : z = y := by
  obtain ⟨i, hi, e1⟩ := List.mem_iff_getElem.mp a
  obtain ⟨j, hj, e2⟩ := List.mem_iff_getElem.mp b
  have q1 : (tb.map (·.2))[i]? = some l := by rw [List.getElem?_map, List.getElem?_eq_getElem hi, e1]; rfl
  have q2 : (tb.map (·.2))[j]? = some l := by rw [List.getElem?_map, List.getElem?_eq_getElem hj, e2]; rfl
  have q := nd_ix h q1 q2
  subst q
  rw [e1] at e2
  exact congrArg Prod.fst e2
theorem TimesAt.hit {H : Hp} {e l : Addr} {asks : List Str} {i : Nat} {tb : TB} {z : Str} (t : TimesAt H e asks i tb) (hm : (z, l) ∈ tb) (hz : asks[i]? = some z) (he : e ∉ tb.map (·.2)) :
    TimesAt (upd H l (.lst ((posI asks i z).map V.int ++ [.int ((i : Int) + 1)]))) e asks (i + 1) tb := by
  have nle : e ≠ l := fun q => he (List.mem_map.mpr ⟨_, hm, q.symm⟩)
  refine ⟨by rw [upd_ne nle]; exact t.d, t.nd, fun y m hy => ?_, fun y hy => ?_, Nat.le_succ_of_le t.len, t.one⟩
  · by_cases q : m = l
    · subst q
      have := nd_snd t.nd hm hy
      subst this
      rw [upd_same, posI_hit hz, List.map_append]
      rfl
    · rw [upd_ne q]
      have nyz : asks[i]? ≠ some y := fun q2 => by
        rw [hz] at q2
        have e2 : z = y := Option.some.inj q2
        subst e2
        -- one name stands once: the first of its places is the found one; both are in tb
        exact q (t.one _ _ _ hy hm)
      rw [posI_miss nyz]
      exact t.at_ y m hy
  · have nyz : asks[i]? ≠ some y := fun q2 => by
      rw [hz] at q2
      have e2 : z = y := Option.some.inj q2
      subst e2
      exact hy (List.mem_map.mpr ⟨_, hm, rfl⟩)
    rw [posI_miss nyz]
    exact t.no y hy
theorem TimesAt.new {H : Hp} {e l : Addr} {asks : List Str} {i : Nat} {tb : TB} {z : Str} (t : TimesAt H e asks i tb) (hk : z ∉ tb.map (·.1)) (hl : l ∉ tb.map (·.2)) (hz : asks[i]? = some z) (he : e ∉ tb.map (·.2)) (nle : l ≠ e) :
    TimesAt (upd (upd H e (.dK (encR (tb ++ [(z, l)])))) l (.lst ([] ++ [.int ((i : Int) + 1)]))) e asks (i + 1) (tb ++ [(z, l)]) := by
  have hp0 : posI asks (i + 1) z = [(i : Int) + 1] := by rw [posI_hit hz, t.no z hk]; rfl
  refine ⟨by rw [upd_ne nle.symm]; exact upd_same, ?_, fun y m hy => ?_, fun y hy => ?_, by rw [List.length_append]; exact Nat.succ_le_succ t.len, fun y m m' h1 h2 => ?_⟩
  · rw [List.map_append]
    exact nd_snoc t.nd hl
  · rcases List.mem_append.mp hy with q | q
    · have nml : m ≠ l := fun q2 => hl (List.mem_map.mpr ⟨_, q, q2⟩)
      have nme : m ≠ e := fun q2 => he (List.mem_map.mpr ⟨_, q, q2⟩)
      have nyz : asks[i]? ≠ some y := fun q2 => by
        rw [hz] at q2
        have e2 : z = y := Option.some.inj q2
        subst e2
        exact hk (List.mem_map.mpr ⟨_, q, rfl⟩)
      rw [upd_ne nml, upd_ne nme, posI_miss nyz]
      exact t.at_ y m q
    · have q2 := List.mem_singleton.mp q
      cases q2
      rw [upd_same, hp0]
      rfl
  · rw [List.map_append] at hy
    have h1 : y ∉ tb.map (·.1) := fun q => hy (List.mem_append.mpr (.inl q))
    have nyz : asks[i]? ≠ some y := fun q2 => by
      rw [hz] at q2
      have e2 : z = y := Option.some.inj q2
      subst e2
      exact hy (List.mem_append.mpr (.inr (by simp)))
    rw [posI_miss nyz]
    exact t.no y h1
  · rcases List.mem_append.mp h1 with q1 | q1
    · rcases List.mem_append.mp h2 with q2 | q2
      · exact t.one y m m' q1 q2
      · have q3 := List.mem_singleton.mp q2
        cases q3
        exact absurd (List.mem_map.mpr ⟨_, q1, rfl⟩) hk
    · have q3 := List.mem_singleton.mp q1
      cases q3
      rcases List.mem_append.mp h2 with q2 | q2
      · exact absurd (List.mem_map.mpr ⟨_, q2, rfl⟩) hk
      · have q4 := List.mem_singleton.mp q2
        cases q4
        rfl
/-! ### the class -/
abbrev fX (nv : Int) (e : Addr) : List (Str × V) := [("never", .int nv), ("times", .ref e)]
theorem rX_never {st : V} {pl n t : Int} {d e : Addr} : (rX st pl n d (fX t e)).lookup ("never" : Str) = some (.int t) := by simp [rX, List.lookup]
theorem rX_times {st : V} {pl n t : Int} {d e : Addr} : (rX st pl n d (fX t e)).lookup ("times" : Str) = some (.ref e) := by simp [rX, List.lookup]
theorem rX_nocoming {st : V} {pl n t : Int} {d e : Addr} : (rX st pl n d (fX t e)).lookup ("coming" : Str) = none := by simp [rX, List.lookup]
theorem rX_putnever {st : V} {pl n t : Int} {d : Addr} : putF "never" (.int t) (rX st pl n d []) = rX st pl n d [("never", .int t)] := by simp [rX, putF]
theorem rX_puttimes {st : V} {pl n t : Int} {d e : Addr} : putF "times" (.ref e) (rX st pl n d [("never", .int t)]) = rX st pl n d (fX t e) := by simp [rX, putF]
section
variable {P : Program} {w : World} {K : PySem.W.Frag} {mg : Str → Option Value} {base : Heap}
theorem sc_far : FnScope ["self", "stock", "places", "asks", "number", "name"] ["self", "stock", "places", "asks"] (defScope sFarthest_Init) := ⟨rfl, rfl, rfl, by decide +kernel, rfl, by decide +kernel, by decide +kernel⟩
def spFar (K : PySem.W.Frag) : Sp := fun vs H Q _ => ∃ (C p dx sp a : Addr) (pl : Int) (rows : List Row3) (asks : List Str), vs = [.ref p, .ref sp, .int pl, .ref a] ∧ RC K C ∧ NoAttr K C "never" ∧ NoAttr K C "times" ∧ H p = some (.ins C dx []) ∧
  StockAt (He.ga K "Stock") H sp rows ∧ SqL K H a (asks.map V.str) ∧ sp ≠ p ∧ a ≠ p ∧ asks.length ≤ 200 ∧ (∀ z ∈ asks, z ∈ rows.map (·.1) ∧ lk (roomsD rows) z ≤ pl) ∧ 1 ≤ pl ∧ pl ≤ 1000000 ∧
  ∀ H' d e tb, H d = none → H e = none → (∀ b ∈ tb.map (·.2), H b = none) → d ≠ e → d ∉ tb.map (·.2) → e ∉ tb.map (·.2) → H' p = some (.ins C dx (rX (.ref sp) pl 0 d (fX ((asks.length : Int) + 1) e))) → H' d = some (.dK []) → TimesAt H' e asks asks.length tb → But [p] H H' → Q .non H'
theorem ok_far (T : Txt K mg) : Cal P w K mg base 5 (He.ma K (He.ga K "Farthest") "__init__") ["self", "stock", "places", "asks"] (spFar K) := by
  refine cal_of T.fFarthest_Init sc_far (fun vs H Q E h => ?_) (fun _ _ _ _ _ _ us hl => match us, hl with | [_, _, _, _], _ => rfl) (fun cdv A outer s H vs Q E hr h => ?_)
  · obtain ⟨C, p, dx, sp, a, pl, rows, asks, rfl, _⟩ := h; rfl
  · obtain ⟨C, p, dx, sp, a, pl, rows, asks, rfl, R, nN, nT, hp, hS, ha, nsp, nap, hlen, hall, h1, h2, k⟩ := h
    have hu := hu_of hr
    have ex := He.ba (show (clsB K "Rule" "__init__" && clsB K "Ranked" "__init__") = true from T.ex)
    refine ⟨_, pss_cons (ps_expr (pe_cal (ok_check T) hr T.g_check_asks (pa_cons (pv 1) (pa_cons (pv 3) (pa_cons (pv 2) pa_nil)))))
      (pss_cons (ps_expr (pe_off ex.2 (ok_ranked T T.fRanked_Init) hr T.g_Ranked (pa_cons (pv 0) (pa_cons (pv 1) (pa_cons (pv 2) pa_nil)))))
      (pss_cons (ps_fld (pv 0) (pe_op op_add (pe_callB call_len_seq (by rfl) T.z_len PySem.boot_len (pa_cons (pv 3) pa_nil)) pe_int) rfl)
      (pss_cons (ps_fld (pv 0) pe_dnewK rfl)
      (pss_one (ps_for PassesOwn.never rfl (pi_enum (by rfl) T.z_enumerate (pa_cons (pv 3) pa_nil)) (pg_tup rfl (pgs_cons (pg_name (i := 4) sc_far.nd rfl (Or.inl rfl)) (pgs_cons (pg_name (i := 5) sc_far.nd rfl (Or.inl rfl)) pgs_nil)))
        (pss_one (ps_expr (pe_bm PySem.F.plainAttrs_list PySem.F.slot_list_append PySem.F.type_list_append mt_append (pe_dsetd (pe_fld (pv 0) rfl) (pv 5) (pe_lst pa_nil) ⟨rfl, rfl, rfl, rfl⟩) (pa_cons (pe_op op_add (pv 4) pe_int) pa_nil))))))))), ?_⟩
    refine ⟨_, rfl, _, rfl, _, rfl, sp, a, pl, rows, asks, rfl, hS, ha, hlen, hall, h1, h2, fun H0 s0 => ?_⟩
    refine ⟨_, rfl, _, rfl, _, rfl, C, p, dx, .ref sp, pl, rfl, R, s0 _ _ hp, h1, h2, fun H1 d hd g1 g2 b1 => ?_⟩
    have b01 : But [p] H H1 := (But.of_same s0).trans b1
    have ha1 : SqL K H1 a (asks.map V.str) := b01.seq (by simp [nap]) ha
    refine ⟨_, rfl, a, _, rfl, .inl ha1, _, _, rfl, rfl, _, rfl, p, C, dx, _, rfl, g1, R.cl, nN, (by simp [rX]), ?_⟩
    rw [rX_putnever, List.length_map]
    have hd0 : H d = none := s0.free hd
    have npd : p ≠ d := ne_of_none hp hd0
    intro e he
    have npe : p ≠ e := fun q => by rw [← q, upd_same] at he; cases he
    have he1 : H1 e = none := by rw [upd_ne npe.symm] at he; exact he
    have nde : d ≠ e := ne_of_none g2 he1
    have he0 : H e = none := by
      cases q : H e with
      | none => rfl
      | some o => rw [b01 e o q (by simp [npe.symm])] at he1; cases he1
    refine ⟨_, rfl, p, C, dx, _, rfl, (by rw [upd_ne npe]; exact upd_same), R.cl, nT, (by simp [rX]), ?_⟩
    rw [rX_puttimes]
    have b2 : ∀ {o1 o2 o3 : HO}, But [p] H (upd (upd (upd H1 p o1) e o2) p o3) := ((b01.updI (by simp)).updN he0).updI (by simp)
    refine ⟨_, rfl, a, _, rfl, b2.seq (by simp [nap]) ha, for_it (walk_enum (K := K) (a := a) (xs := asks.map V.str)) (fun i σ H2 => ∃ (v4 v5 : Option V) (tb : TB), σ = [some (.ref p), some (.ref sp), some (.int pl), some (.ref a), v4, v5] ∧
        H2 p = some (.ins C dx (rX (.ref sp) pl 0 d (fX ((asks.length : Int) + 1) e))) ∧ H2 d = some (.dK []) ∧ TimesAt H2 e asks i tb ∧ (∀ b ∈ tb.map (·.2), H b = none) ∧ d ∉ tb.map (·.2) ∧ e ∉ tb.map (·.2) ∧ But [p] H H2)
      ⟨none, none, [], rfl, upd_same, by rw [upd_ne npd.symm, upd_ne nde, upd_ne npd.symm]; exact g2, .nil (by rw [upd_ne npe.symm]; exact upd_same), fun b h => absurd h List.not_mem_nil, List.not_mem_nil, List.not_mem_nil, b2⟩
      (fun i σ H2 _ ⟨_, _, _, _, _, _, _, _, _, _, b⟩ => b.seq (by simp [nap]) ha) ?_ ?_⟩
    · rintro i x σ H2 H3 hi ⟨v4, v5, tb, rfl, gp, gd, gt, gf, gdn, gen, gb⟩ ⟨t, x1, x2, rfl, ht, rfl, e1, e2⟩
      cases e1
      obtain ⟨z, hz, rfl⟩ := str_at e2
      rw [List.length_map] at hi
      -- the pair is new
      have s3 : Same H2 (upd H2 t (.tup [.int (i : Nat), .str z])) := same_upd ht
      have ht0 : H t = none := by
        cases q : H t with
        | none => rfl
        | some o =>
          by_cases hq : t = p
          · subst hq; rw [gp] at ht; cases ht
          · rw [gb t o q (by simp [hq])] at ht; cases ht
      have gb3 : But [p] H (upd H2 t (.tup [.int (i : Nat), .str z])) := gb.updN ht0
      have gp3 := s3 _ _ gp
      have gd3 := s3 _ _ gd
      have gt3 : TimesAt (upd H2 t (.tup [.int (i : Nat), .str z])) e asks i tb := gt.keep fun b _ o q => s3 b o q
      have gT : (upd H2 t (.tup [.int (i : Nat), .str z])) t = some (.tup [.int (i : Nat), .str z]) := upd_same
      refine ⟨t, [.int (i : Nat), .str z], rfl, SqT.of gT, rfl, _, _, rfl, _, _, rfl, rfl, ?_⟩
      generalize upd H2 t (.tup [.int (i : Nat), .str z]) = H4 at gb3 gp3 gd3 gt3 s3 gT ⊢
      have hlp : ∀ l ∈ tb.map (·.2), l ≠ p := fun l hl q => by
        have := gf l hl
        rw [q, hp] at this
        cases this
      refine ⟨_, rfl, p, C, dx, _, _, rfl, gp3, R.cl, nT, rX_times, e, rfl, .inl ⟨_, .inl gt3.d⟩, _, rfl, Nat.zero_le _, fun l hl => ?_⟩
      have nel : e ≠ l := ne_of_none gt3.d hl
      have ndl : d ≠ l := ne_of_none gd3 hl
      have npl : p ≠ l := ne_of_none gp3 hl
      have hl0 : H l = none := by
        cases q : H l with
        | none => rfl
        | some o => rw [gb3 l o q (by simp [npl.symm])] at hl; cases hl
      have nlt : ∀ m ∈ tb.map (·.2), m ≠ l := fun m hm q => by
        obtain ⟨⟨y, m'⟩, hy, e3⟩ := List.mem_map.mp hm
        have e4 : m' = m := e3
        subst e4
        have := gt3.at_ y m' hy
        rw [q, hl] at this
        cases this
      have gt5 : TimesAt (upd H4 l (.lst [])) e asks i tb := gt3.keep fun b hb o q => by
        rw [upd_ne (ne_of_none q hl)]
        exact q
      refine ⟨encR tb, Sum.inr z, gt5.d, rfl, small1000 (by unfold encR; rw [List.length_map]; have := gt5.len; omega), fun v hv => ?_, fun hv => ?_⟩
      · obtain ⟨m, rfl, hm⟩ := valR_some hv
        have gm := gt5.at_ z m hm
        have hmm : m ∈ tb.map (·.2) := List.mem_map.mpr ⟨_, hm, rfl⟩
        have nml := nlt m hmm
        refine ⟨.inl ⟨rfl, _, SqL.of gm⟩, _, rfl, _, _, rfl, rfl, m, _, _, rfl, rfl, gm, small1000 (by rw [List.length_map]; have := posI_len asks i z; omega), ?_⟩
        have nmd : d ≠ m := fun q => gdn (by rw [q]; exact hmm)
        refine ⟨_, _, tb, rfl, by rw [upd_ne (hlp m hmm).symm, upd_ne npl]; exact gp3, by rw [upd_ne nmd, upd_ne ndl]; exact gd3, gt5.hit hm hz gen, gf, gdn, gen, (gb3.updN hl0).updN (gf m hmm)⟩
      · have hk := valR_none hv
        rw [putR_new hk]
        have gl : (upd (upd H4 l (.lst [])) e (.dK (encR (tb ++ [(z, l)])))) l = some (.lst []) := by rw [upd_ne nel.symm]; exact upd_same
        refine ⟨.inl ⟨rfl, _, SqL.of gl⟩, _, rfl, _, _, rfl, rfl, l, _, _, rfl, rfl, gl, by decide, ?_⟩
        refine ⟨_, _, tb ++ [(z, l)], rfl, by rw [upd_ne npl, upd_ne npe, upd_ne npl]; exact gp3, by rw [upd_ne ndl, upd_ne nde, upd_ne ndl]; exact gd3, gt5.new hk (fun q => nlt l q rfl) hz gen nel.symm, ?_, ?_, ?_, ((gb3.updN hl0).updN he0).updN hl0⟩
        · intro b hb
          rw [List.map_append] at hb
          rcases List.mem_append.mp hb with q | q
          · exact gf b q
          · have q2 := List.mem_singleton.mp q
            rw [q2]
            exact hl0
        · rw [List.map_append]
          intro q
          rcases (List.mem_append.mp q) with q | q
          · exact gdn q
          · exact ndl (List.mem_singleton.mp q)
        · rw [List.map_append]
          intro q
          rcases (List.mem_append.mp q) with q | q
          · exact gen q
          · exact nel (List.mem_singleton.mp q)
    · rintro σ H2 ⟨v4, v5, tb, rfl, gp, gd, gt, gf, gdn, gen, gb⟩
      rw [List.length_map] at gt
      exact k H2 d e tb hd0 he0 gf nde gdn gen gp gd gt gb
theorem sc_coming : FnScope ["self", "name", "number"] ["self", "name"] (defScope sFarthest_Coming) := ⟨rfl, rfl, rfl, by decide +kernel, rfl, by decide +kernel, by decide +kernel⟩
def spComing (K : PySem.W.Frag) : Sp := fun vs H Q _ => ∃ (C p dx d e : Addr) (st : V) (pl : Int) (n : Nat) (asks : List Str) (tb : TB) (z : Str), vs = [.ref p, .str z] ∧ RC K C ∧ NoAttr K C "never" ∧ NoAttr K C "times" ∧
  H p = some (.ins C dx (rX st pl (n : Int) d (fX ((asks.length : Int) + 1) e))) ∧ TimesAt H e asks asks.length tb ∧ ∀ H', Same H H' → Q (.int (nxt asks z n)) H'
theorem ok_coming {f : Addr} (F : FnP K "coming" "Farthest.coming" sFarthest_Coming [] f) : Cal P w K mg base 1 f ["self", "name"] (spComing K) := by
  refine cal_of F sc_coming (fun vs H Q E h => ?_) (fun _ _ _ _ _ _ us hl => match us, hl with | [_, _], _ => rfl) (fun cdv A outer s H vs Q E hr h => ?_)
  · obtain ⟨C, p, dx, d, e, st, pl, n, asks, tb, z, rfl, _⟩ := h; rfl
  · obtain ⟨C, p, dx, d, e, st, pl, n, asks, tb, z, rfl, R, nN, nT, hp, ht, k⟩ := h
    have hu := hu_of hr
    refine ⟨_, pss_cons (ps_for PassesOwn.never rfl (pi_list (pe_dget2 hu (pe_fld (pv 0) rfl) (pv 1) (pe_lst pa_nil) ⟨rfl, rfl, rfl, rfl⟩)) (pg_name (i := 2) sc_coming.nd rfl (Or.inl rfl))
        (pss_one (ps_if (pt_cmpR op_gt (pv 2) (pe_fld (pv 0) rfl) (nomark _)) (pss_one (ps_ret (pv 2))) pss_nil)))
      (pss_one (ps_ret (pe_fld (pv 0) rfl))), ?_⟩
    refine ⟨_, rfl, p, C, dx, _, _, rfl, hp, R.cl, nT, rX_times, e, rfl, .inl ⟨_, .inl ht.d⟩, _, rfl, Nat.zero_le _, fun l hl => ?_⟩
    have s1 : Same H (upd H l (.lst [])) := same_upd hl
    refine ⟨_, DGet.k (k := Sum.inr z) (s1 _ _ ht.d), ?_⟩
    -- which list it is
    obtain ⟨m, hm, hL⟩ : ∃ m, (valV (encR tb) (Sum.inr z : Key)).getD (.ref l) = .ref m ∧ (upd H l (.lst [])) m = some (.lst ((posI asks asks.length z).map V.int)) := by
      cases q : valV (encR tb) (Sum.inr z : Key) with
      | some v =>
        obtain ⟨m, rfl, hm⟩ := valR_some q
        exact ⟨m, rfl, s1 _ _ (ht.at_ z m hm)⟩
      | none => exact ⟨l, rfl, by rw [upd_same, ht.no z (valR_none q)]; rfl⟩
    rw [hm]
    refine ⟨m, rfl, ⟨_, SqL.of hL⟩, for_list (K := K) (a := m) (xs := (posI asks asks.length z).map V.int) (fun i σ H2 => ∃ v : Option V, σ = [some (.ref p), some (.str z), v] ∧ H2 = upd H l (.lst []) ∧ ∀ j u, j < i → (posI asks asks.length z)[j]? = some u → u ≤ (n : Int))
      ⟨none, rfl, rfl, fun j u h _ => absurd h (Nat.not_lt_zero _)⟩ (fun i σ H2 _ ⟨_, _, e, _⟩ => by rw [e]; exact SqL.of hL) ?_ ?_⟩
    · rintro i x σ H2 hi ⟨v, rfl, rfl, hb⟩
      obtain ⟨u, hu2, rfl⟩ := int_at hi
      refine ⟨_, rfl, _, rfl, p, C, dx, _, _, rfl, s1 _ _ hp, R.cl, R.nN, rX_now, _, _, rfl, rfl, _, rfl, ite2D (fun hlt => ?_) (fun hlt => ?_)⟩
      · refine ⟨_, rfl, ?_⟩
        have e2 : nxt asks z n = u := nxt_hit hu2 hlt hb
        have := k _ s1
        rw [e2] at this
        exact this
      · refine ⟨_, rfl, rfl, fun j y hj hy => ?_⟩
        by_cases q : j = i
        · subst q
          rw [hu2] at hy
          cases hy
          omega
        · exact hb j y (by omega) hy
    · rintro σ H2 ⟨v, rfl, rfl, hb⟩
      refine ⟨_, rfl, p, C, dx, _, _, rfl, s1 _ _ hp, R.cl, nN, rX_never, ?_⟩
      have e2 : nxt asks z n = (asks.length : Int) + 1 := nxt_none fun u hu => by
        obtain ⟨j, hj, ej⟩ := List.mem_iff_getElem.mp hu
        exact hb j u (by rw [List.length_map]; exact hj) (by rw [List.getElem?_eq_getElem hj, ej])
      have := k _ s1
      rw [e2] at this
      exact this
theorem sc_farank : FnScope ["self", "name"] ["self", "name"] (defScope sFarthest_Rank) := ⟨rfl, rfl, rfl, by decide +kernel, rfl, by decide +kernel, by decide +kernel⟩
def spFaRank (K : PySem.W.Frag) (C : Addr) : Sp := fun vs H Q _ => ∃ (p dx d e : Addr) (st : V) (pl : Int) (n : Nat) (asks : List Str) (tb : TB) (L : DI) (z : Str), vs = [.ref p, .str z] ∧
  H p = some (.ins C dx (rX st pl (n : Int) d (fX ((asks.length : Int) + 1) e))) ∧ TimesAt H e asks asks.length tb ∧ H d = some (.dK (enc L)) ∧ ∀ H' t, Same H H' → H t = none → H' t = some (.tup [.int (0 - nxt asks z n), .int (lk L z)]) → Q (.ref t) H'
theorem ok_farank {C f fc : Addr} (R : RC K C) (nN : NoAttr K C "never") (nT : NoAttr K C "times") (mc : Meth K C "coming" fc) (Fc : FnP K "coming" "Farthest.coming" sFarthest_Coming [] fc) (F : FnP K "rank" "Farthest.rank" sFarthest_Rank [] f) :
    Cal P w K mg base 2 f ["self", "name"] (spFaRank K C) := by
  refine cal_of F sc_farank (fun vs H Q E h => ?_) (fun _ _ _ _ _ _ us hl => match us, hl with | [_, _], _ => rfl) (fun cdv A outer s H vs Q E hr h => ?_)
  · obtain ⟨p, dx, d, e, st, pl, n, asks, tb, L, z, rfl, _⟩ := h; rfl
  · obtain ⟨p, dx, d, e, st, pl, n, asks, tb, L, z, rfl, hp, ht, hd, k⟩ := h
    have hu := hu_of hr
    refine ⟨_, pss_one (ps_ret (pe_tup (pa_cons (pe_op op_sub pe_int (pe_me R.cl mc (ok_coming Fc) hr (pv 0) (pa_cons (pv 1) pa_nil))) (pa_cons (pe_dget2 hu (pe_fld (pv 0) rfl) (pv 1) pe_int ⟨rfl, rfl, rfl, rfl⟩) pa_nil)))), ?_⟩
    refine ⟨_, rfl, p, dx, _, rfl, hp, rX_nocoming, _, rfl, C, p, dx, d, e, st, pl, n, asks, tb, z, rfl, R, nN, nT, hp, ht, fun H1 s1 => ?_⟩
    refine ⟨_, _, rfl, rfl, _, rfl, p, C, dx, _, _, rfl, s1 _ _ hp, R.cl, R.nL, rX_last, d, rfl, .inl ⟨_, .inl (s1 _ _ hd)⟩, _, rfl, _, DGet.k (k := Sum.inr z) (s1 _ _ hd), (by show 2 ≤ sizeLine; decide), fun t ht1 => ?_⟩
    rw [get_enc]
    exact k _ t (fun b o q => by rw [upd_ne (ne_of_none (s1 _ _ q) ht1)]; exact s1 _ _ q) (s1.free ht1) upd_same
end
end K29
/-! The five classes as bundles; _law_made. -/
namespace K29
open PySem PySem.Spec PyProof.Rows L2
section
variable {P : Program} {w : World} {K : PySem.W.Frag} {mg : Str → Option Value} {base : Heap}
theorem cast1 (n : Nat) : ((n + 1 : Nat) : Int) = (n : Int) + 1 := by omega
/-! ### Ranked, Oldest -/
def RRanked (C : Addr) : RR := fun s F H p => ∃ (dx d : Addr) (st : V) (pl : Int), F = [p, d] ∧ H p = some (.ins C dx (rX st pl (s.now : Int) d [])) ∧ H d = some (.dK (enc s.L))
def bunRanked {C fr fa fc fg fh : Addr} {wh : Nat} (hw : wh < 2) (asks : List Str) (turn : Int) (rc : RC K C) (mr : Meth K C "rank" fr) (Fr : FnP K "rank" "Ranked.rank" sRanked_Rank [] fr) (ma : Meth K C "asked" fa) (Fa : FnP K "asked" "Ranked.asked" sRanked_Asked [] fa)
    (mc : Meth K C "came" fc) (Fc : FnP K "came" "Rule.came" sRule_Came [] fc) (mg' : Meth K C "gone" fg) (Fg : FnP K "gone" "Rule.gone" sRule_Gone [] fg) (mh : Meth K C "choice" fh) (Fh : FnP K "choice" "Ranked.choice" sRanked_Choice [] fh) : Bun P w K mg base wh asks turn :=
  have look : ∀ {s : RS} {F : List Addr} {H : Hp} {p : Addr}, RRanked C s F H p → ∃ dx fs, H p = some (.ins C dx fs) ∧ fs.lookup ("asked" : Str) = none ∧ fs.lookup ("rank" : Str) = none ∧ fs.lookup ("choice" : Str) = none ∧
      fs.lookup ("gone" : Str) = none ∧ fs.lookup ("came" : Str) = none ∧ fs.lookup ("counts" : Str) = none := fun ⟨dx, d, st, pl, _, hp, _⟩ =>
    ⟨dx, _, hp, by simp [rX, List.lookup], by simp [rX, List.lookup], by simp [rX, List.lookup], by simp [rX, List.lookup], by simp [rX, List.lookup], by simp [rX, List.lookup]⟩
  have keep : ∀ {s : RS} {F : List Addr} {H H' : Hp} {p : Addr}, RRanked C s F H p → (∀ b ∈ F, ∀ o, H b = some o → H' b = some o) → RRanked C s F H' p := fun ⟨dx, d, st, pl, e, hp, hd⟩ k =>
    ⟨dx, d, st, pl, e, k _ (by simp [e]) _ hp, k _ (by simp [e]) _ hd⟩
  have rank : Cal P w K mg base 4 fr ["self", "name"] (spRank (RRanked C) (rk wh asks)) := (ok_rrank Fr).up (by decide) |>.weak fun vs H Q E ⟨s, F, p, z, e, ⟨dx, d, st, pl, _, hp, hd⟩, k⟩ =>
    ⟨C, p, dx, d, st, pl, _, _, s.L, z, e, rc, hp, hd, fun t ht => k _ t (same_upd ht) ht (by rw [upd_same]; unfold rk; rw [if_pos hw]; rfl)⟩
  have lookR : ∀ {s : RS} {F : List Addr} {H : Hp} {p : Addr}, RRanked C s F H p → ∃ dx fs, H p = some (.ins C dx fs) ∧ fs.lookup ("rank" : Str) = none := fun {s F H p} h => by
    obtain ⟨dx, fs, a, _, b, _⟩ := look h
    exact ⟨dx, fs, a, b⟩
  have choice : Cal P w K mg base 6 fh ["self", "lying"] (spChoice K (RRanked C) (rk wh asks)) := Cal.up (ok_choice rc.cl (fun h e => keep h fun b _ o q => e b o q) lookR mr rank Fh) (by decide)
  { C := C, cl := rc.cl, R := RRanked C, keep := keep
    occ := fun ⟨dx, d, st, pl, e, hp, hd⟩ b hb => by
      rw [e] at hb
      rcases List.mem_cons.mp hb with q | q
      · rw [q, hp]; simp
      · rw [List.mem_singleton.mp q, hd]; simp
    look := look
    rank := ⟨fr, mr, rank⟩
    asked := ⟨fa, ma, (ok_rasked Fa).up (by decide) |>.weak fun vs H Q E ⟨s, F, p, z, e, ⟨dx, d, st, pl, eF, hp, hd⟩, hl, k⟩ =>
      ⟨C, p, dx, d, st, pl, _, _, s.L, z, e, rc, hp, by simp, hd, hl.l, fun H' g1 g2 b => k H' ⟨dx, d, st, pl, eF, by rw [show (s.asked turn z).now = s.now + 1 from rfl, cast1]; exact g1, g2⟩ (by rw [eF]; exact b)⟩⟩
    came := ⟨fc, mc, (ok_came0 Fc).up (by decide) |>.weak fun vs H Q E ⟨s, F, p, z, e, h, hl, k⟩ => ⟨_, _, e, k H h (But.of_same (Same.refl H))⟩⟩
    gone := ⟨fg, mg', (ok_gone Fg).up (by decide)⟩
    choice := ⟨fh, mh, choice⟩
    counts := fun q => absurd hw (by omega) }
/-! ### First -/
def RFirst (C : Addr) : RR := fun s F H p => ∃ (dx d e : Addr) (st : V) (pl : Int), F = [p, d, e] ∧ d ≠ e ∧ H p = some (.ins C dx (rX st pl (s.now : Int) d [("when", .ref e)])) ∧ H d = some (.dK (enc s.L)) ∧ H e = some (.dK (enc s.W))
def bunFirst (T : Txt K mg) (asks : List Str) (turn : Int) : Bun P w K mg base 2 asks turn :=
  have look : ∀ {s : RS} {F : List Addr} {H : Hp} {p : Addr}, RFirst (He.ga K "First") s F H p → ∃ dx fs, H p = some (.ins (He.ga K "First") dx fs) ∧ fs.lookup ("asked" : Str) = none ∧ fs.lookup ("rank" : Str) = none ∧ fs.lookup ("choice" : Str) = none ∧
      fs.lookup ("gone" : Str) = none ∧ fs.lookup ("came" : Str) = none ∧ fs.lookup ("counts" : Str) = none := fun ⟨dx, d, e, st, pl, _, _, hp, _⟩ =>
    ⟨dx, _, hp, by simp [rX, List.lookup], by simp [rX, List.lookup], by simp [rX, List.lookup], by simp [rX, List.lookup], by simp [rX, List.lookup], by simp [rX, List.lookup]⟩
  have keep : ∀ {s : RS} {F : List Addr} {H H' : Hp} {p : Addr}, RFirst (He.ga K "First") s F H p → (∀ b ∈ F, ∀ o, H b = some o → H' b = some o) → RFirst (He.ga K "First") s F H' p := fun ⟨dx, d, e, st, pl, eF, n, hp, hd, he⟩ k =>
    ⟨dx, d, e, st, pl, eF, n, k _ (by simp [eF]) _ hp, k _ (by simp [eF]) _ hd, k _ (by simp [eF]) _ he⟩
  have rank : Cal P w K mg base 4 (He.ma K (He.ga K "First") "rank") ["self", "name"] (spRank (RFirst (He.ga K "First")) (rk 2 asks)) := (ok_frank T.fFirst_Rank).up (by decide) |>.weak fun vs H Q E ⟨s, F, p, z, ev, ⟨dx, d, e, st, pl, _, _, hp, hd, he⟩, k⟩ =>
    ⟨_, p, dx, d, e, st, pl, _, s.W, z, ev, T.rFirst, T.n_First_when, hp, he, fun t ht => k _ t (same_upd ht) ht (by rw [upd_same]; rfl)⟩
  have lookR : ∀ {s : RS} {F : List Addr} {H : Hp} {p : Addr}, RFirst (He.ga K "First") s F H p → ∃ dx fs, H p = some (.ins (He.ga K "First") dx fs) ∧ fs.lookup ("rank" : Str) = none := fun {s F H p} h => by
    obtain ⟨dx, fs, a, _, b, _⟩ := look h
    exact ⟨dx, fs, a, b⟩
  have choice : Cal P w K mg base 6 (He.ma K (He.ga K "First") "choice") ["self", "lying"] (spChoice K (RFirst (He.ga K "First")) (rk 2 asks)) := Cal.up (ok_choice T.c_First (fun h e => keep h fun b _ o q => e b o q) lookR T.me_First_rank rank T.fFirst_Choice) (by decide)
  { C := He.ga K "First", cl := T.c_First, R := RFirst (He.ga K "First"), keep := keep
    occ := fun ⟨dx, d, e, st, pl, eF, n, hp, hd, he⟩ b hb => by
      rw [eF] at hb
      rcases List.mem_cons.mp hb with q | q
      · rw [q, hp]; simp
      · rcases (List.mem_cons.mp q) with q | q
        · rw [q, hd]; simp
        · rw [List.mem_singleton.mp q, he]; simp
    look := look
    rank := ⟨_, T.me_First_rank, rank⟩
    asked := ⟨_, T.me_First_asked, (ok_rasked T.fFirst_Asked).up (by decide) |>.weak fun vs H Q E ⟨s, F, p, z, ev, ⟨dx, d, e, st, pl, eF, n, hp, hd, he⟩, hl, k⟩ =>
      ⟨_, p, dx, d, st, pl, _, _, s.L, z, ev, T.rFirst, hp, by simp, hd, hl.l, fun H' g1 g2 b => k H' ⟨dx, d, e, st, pl, eF, n, by rw [show (s.asked turn z).now = s.now + 1 from rfl, cast1]; exact g1, g2,
        b e _ he (by simp [n.symm, ne_of he hp (by intro q; cases q)])⟩ (by rw [eF]; exact b.mono fun x hx => by rcases List.mem_cons.mp hx with q | q <;> simp_all)⟩⟩
    came := ⟨_, T.me_First_came, (ok_fcame T.fFirst_Came).up (by decide) |>.weak fun vs H Q E ⟨s, F, p, z, ev, ⟨dx, d, e, st, pl, eF, n, hp, hd, he⟩, hl, k⟩ =>
      ⟨_, p, dx, d, e, st, pl, _, s.W, z, ev, T.rFirst, T.n_First_when, hp, he, hl.w, k _ ⟨dx, d, e, st, pl, eF, n, by rw [upd_ne (ne_of hp he (by intro q; cases q))]; exact hp, by rw [upd_ne n]; exact hd, upd_same⟩
        ((But.of_same (Same.refl H)).updI (by simp [eF]))⟩⟩
    gone := ⟨_, T.me_First_gone, (ok_gone T.fFirst_Gone).up (by decide)⟩
    choice := ⟨_, T.me_First_choice, choice⟩
    counts := fun q => absurd q (by decide) }
/-! ### Halving -/
def RHalv (C : Addr) (turn : Int) : RR := fun s F H p => ∃ (dx d e : Addr) (st : V) (pl : Int), F = [p, d, e] ∧ d ≠ e ∧ H p = some (.ins C dx (rX st pl (s.now : Int) d (hX turn e))) ∧ H d = some (.dK (enc s.L)) ∧ H e = some (.dK (enc s.T))
def bunHalv (T : Txt K mg) (asks : List Str) {turn : Int} (ht : 1 ≤ turn) : Bun P w K mg base 3 asks turn :=
  have look : ∀ {s : RS} {F : List Addr} {H : Hp} {p : Addr}, RHalv (He.ga K "Halving") turn s F H p → ∃ dx fs, H p = some (.ins (He.ga K "Halving") dx fs) ∧ fs.lookup ("asked" : Str) = none ∧ fs.lookup ("rank" : Str) = none ∧ fs.lookup ("choice" : Str) = none ∧
      fs.lookup ("gone" : Str) = none ∧ fs.lookup ("came" : Str) = none ∧ fs.lookup ("counts" : Str) = none := fun ⟨dx, d, e, st, pl, _, _, hp, _⟩ =>
    ⟨dx, _, hp, by simp [rX, List.lookup], by simp [rX, List.lookup], by simp [rX, List.lookup], by simp [rX, List.lookup], by simp [rX, List.lookup], by simp [rX, List.lookup]⟩
  have keep : ∀ {s : RS} {F : List Addr} {H H' : Hp} {p : Addr}, RHalv (He.ga K "Halving") turn s F H p → (∀ b ∈ F, ∀ o, H b = some o → H' b = some o) → RHalv (He.ga K "Halving") turn s F H' p := fun ⟨dx, d, e, st, pl, eF, n, hp, hd, he⟩ k =>
    ⟨dx, d, e, st, pl, eF, n, k _ (by simp [eF]) _ hp, k _ (by simp [eF]) _ hd, k _ (by simp [eF]) _ he⟩
  have rank : Cal P w K mg base 4 (He.ma K (He.ga K "Halving") "rank") ["self", "name"] (spRank (RHalv (He.ga K "Halving") turn) (rk 3 asks)) := (ok_hrank T.fHalving_Rank).up (by decide) |>.weak fun vs H Q E ⟨s, F, p, z, ev, ⟨dx, d, e, st, pl, _, _, hp, hd, he⟩, k⟩ =>
    ⟨_, p, dx, d, e, st, pl, _, turn, s.L, s.T, z, ev, T.rHalving, T.n_Halving_tally, hp, hd, he, fun t ht => k _ t (same_upd ht) ht (by rw [upd_same]; rfl)⟩
  have lookR : ∀ {s : RS} {F : List Addr} {H : Hp} {p : Addr}, RHalv (He.ga K "Halving") turn s F H p → ∃ dx fs, H p = some (.ins (He.ga K "Halving") dx fs) ∧ fs.lookup ("rank" : Str) = none := fun {s F H p} h => by
    obtain ⟨dx, fs, a, _, b, _⟩ := look h
    exact ⟨dx, fs, a, b⟩
  have choice : Cal P w K mg base 6 (He.ma K (He.ga K "Halving") "choice") ["self", "lying"] (spChoice K (RHalv (He.ga K "Halving") turn) (rk 3 asks)) := Cal.up (ok_choice T.c_Halving (fun h e => keep h fun b _ o q => e b o q) lookR T.me_Halving_rank rank T.fHalving_Choice) (by decide)
  { C := He.ga K "Halving", cl := T.c_Halving, R := RHalv (He.ga K "Halving") turn, keep := keep
    occ := fun ⟨dx, d, e, st, pl, eF, n, hp, hd, he⟩ b hb => by
      rw [eF] at hb
      rcases List.mem_cons.mp hb with q | q
      · rw [q, hp]; simp
      · rcases (List.mem_cons.mp q) with q | q
        · rw [q, hd]; simp
        · rw [List.mem_singleton.mp q, he]; simp
    look := look
    rank := ⟨_, T.me_Halving_rank, rank⟩
    asked := ⟨_, T.me_Halving_asked, (ok_hasked T T.fHalving_Asked).up (by decide) |>.weak fun vs H Q E ⟨s, F, p, z, ev, ⟨dx, d, e, st, pl, eF, n, hp, hd, he⟩, hl, k⟩ =>
      ⟨_, p, dx, d, e, st, pl, turn, s, z, ev, T.rHalving, T.n_Halving_turn, T.n_Halving_tally, hp, hd, he, n, hl, ht, fun H' g1 g2 g3 b => k H' ⟨dx, d, e, st, pl, eF, n, by rw [show (s.asked turn z).now = s.now + 1 from rfl, cast1]; exact g1, g2, g3⟩ (by rw [eF]; exact b)⟩⟩
    came := ⟨_, T.me_Halving_came, (ok_came0 T.fHalving_Came).up (by decide) |>.weak fun vs H Q E ⟨s, F, p, z, e, h, hl, k⟩ => ⟨_, _, e, k H h (But.of_same (Same.refl H))⟩⟩
    gone := ⟨_, T.me_Halving_gone, (ok_gone T.fHalving_Gone).up (by decide)⟩
    choice := ⟨_, T.me_Halving_choice, choice⟩
    counts := fun _ => ⟨_, T.me_Halving_counts, (ok_counts T T.fHalving_Counts).up (by decide) |>.weak fun vs H Q E ⟨s, F, p, ev, ⟨dx, d, e, st, pl, eF, n, hp, hd, he⟩, k⟩ =>
      ⟨_, p, dx, d, e, st, pl, _, turn, s.T, ev, T.rHalving, T.n_Halving_tally, hp, he, fun q hq => k _ q (same_upd hq) hq upd_same⟩⟩ }
/-! ### Farthest -/
def RFar (C : Addr) (asks : List Str) : RR := fun s F H p => ∃ (dx d e : Addr) (st : V) (pl : Int) (tb : TB), F = p :: d :: e :: tb.map (·.2) ∧ d ≠ e ∧ d ∉ tb.map (·.2) ∧ H p = some (.ins C dx (rX st pl (s.now : Int) d (fX ((asks.length : Int) + 1) e))) ∧
  H d = some (.dK (enc s.L)) ∧ TimesAt H e asks asks.length tb
def bunFar (T : Txt K mg) (asks : List Str) (turn : Int) : Bun P w K mg base 4 asks turn :=
  have look : ∀ {s : RS} {F : List Addr} {H : Hp} {p : Addr}, RFar (He.ga K "Farthest") asks s F H p → ∃ dx fs, H p = some (.ins (He.ga K "Farthest") dx fs) ∧ fs.lookup ("asked" : Str) = none ∧ fs.lookup ("rank" : Str) = none ∧ fs.lookup ("choice" : Str) = none ∧
      fs.lookup ("gone" : Str) = none ∧ fs.lookup ("came" : Str) = none ∧ fs.lookup ("counts" : Str) = none := fun ⟨dx, d, e, st, pl, _, _, _, _, hp, _⟩ =>
    ⟨dx, _, hp, by simp [rX, List.lookup], by simp [rX, List.lookup], by simp [rX, List.lookup], by simp [rX, List.lookup], by simp [rX, List.lookup], by simp [rX, List.lookup]⟩
  have keep : ∀ {s : RS} {F : List Addr} {H H' : Hp} {p : Addr}, RFar (He.ga K "Farthest") asks s F H p → (∀ b ∈ F, ∀ o, H b = some o → H' b = some o) → RFar (He.ga K "Farthest") asks s F H' p := fun ⟨dx, d, e, st, pl, tb, eF, n, n2, hp, hd, he⟩ k =>
    ⟨dx, d, e, st, pl, tb, eF, n, n2, k _ (by simp [eF]) _ hp, k _ (by simp [eF]) _ hd, he.keep fun b hb o q => k b (by rw [eF]; rcases hb with q | q <;> simp_all) o q⟩
  have rank : Cal P w K mg base 4 (He.ma K (He.ga K "Farthest") "rank") ["self", "name"] (spRank (RFar (He.ga K "Farthest") asks) (rk 4 asks)) :=
    (ok_farank T.rFarthest T.n_Farthest_never T.n_Farthest_times T.me_Farthest_coming T.fFarthest_Coming T.fFarthest_Rank).up (by decide) |>.weak fun vs H Q E ⟨s, F, p, z, ev, ⟨dx, d, e, st, pl, tb, _, _, _, hp, hd, he⟩, k⟩ =>
    ⟨p, dx, d, e, st, pl, s.now, asks, tb, s.L, z, ev, hp, he, hd, fun H' t s1 ht g => k H' t s1 ht (by rw [g]; rfl)⟩
  have lookR : ∀ {s : RS} {F : List Addr} {H : Hp} {p : Addr}, RFar (He.ga K "Farthest") asks s F H p → ∃ dx fs, H p = some (.ins (He.ga K "Farthest") dx fs) ∧ fs.lookup ("rank" : Str) = none := fun {s F H p} h => by
    obtain ⟨dx, fs, a, _, b, _⟩ := look h
    exact ⟨dx, fs, a, b⟩
  have choice : Cal P w K mg base 6 (He.ma K (He.ga K "Farthest") "choice") ["self", "lying"] (spChoice K (RFar (He.ga K "Farthest") asks) (rk 4 asks)) := Cal.up (ok_choice T.c_Farthest (fun h e => keep h fun b _ o q => e b o q) lookR T.me_Farthest_rank rank T.fFarthest_Choice) (by decide)
  { C := He.ga K "Farthest", cl := T.c_Farthest, R := RFar (He.ga K "Farthest") asks, keep := keep
    occ := fun ⟨dx, d, e, st, pl, tb, eF, n, n2, hp, hd, he⟩ b hb => by
      rw [eF] at hb
      rcases List.mem_cons.mp hb with q | q
      · rw [q, hp]; simp
      · rcases (List.mem_cons.mp q) with q | q
        · rw [q, hd]; simp
        · rcases (List.mem_cons.mp q) with q | q
          · rw [q, he.d]; simp
          · obtain ⟨⟨y, m⟩, hy, e3⟩ := List.mem_map.mp q
            have e4 : m = b := e3
            subst e4
            rw [he.at_ y m hy]; simp
    look := look
    rank := ⟨_, T.me_Farthest_rank, rank⟩
    asked := ⟨_, T.me_Farthest_asked, (ok_rasked T.fFarthest_Asked).up (by decide) |>.weak fun vs H Q E ⟨s, F, p, z, ev, ⟨dx, d, e, st, pl, tb, eF, n, n2, hp, hd, he⟩, hl, k⟩ =>
      ⟨_, p, dx, d, st, pl, _, _, s.L, z, ev, T.rFarthest, hp, by simp, hd, hl.l, fun H' g1 g2 b => k H' ⟨dx, d, e, st, pl, tb, eF, n, n2, by rw [show (s.asked turn z).now = s.now + 1 from rfl, cast1]; exact g1, g2,
        he.keep fun c hc o q => b c o q (by
          rcases hc with hc | hc
          · subst hc
            rw [he.d] at q
            simp [n.symm, ne_of he.d hp (by intro q; cases q)]
          · obtain ⟨⟨y, m⟩, hy, e3⟩ := List.mem_map.mp hc
            have e4 : m = c := e3
            subst e4
            have h1 : m ≠ p := ne_of (he.at_ y m hy) hp (by intro q; cases q)
            have h2 : m ≠ d := fun q2 => n2 (by rw [← q2]; exact hc)
            simp [h1, h2])⟩ (by rw [eF]; exact b.mono fun x hx => by rcases List.mem_cons.mp hx with q | q <;> simp_all)⟩⟩
    came := ⟨_, T.me_Farthest_came, (ok_came0 T.fFarthest_Came).up (by decide) |>.weak fun vs H Q E ⟨s, F, p, z, e, h, hl, k⟩ => ⟨_, _, e, k H h (But.of_same (Same.refl H))⟩⟩
    gone := ⟨_, T.me_Farthest_gone, (ok_gone T.fFarthest_Gone).up (by decide)⟩
    choice := ⟨_, T.me_Farthest_choice, choice⟩
    counts := fun q => absurd q (by decide) }
/-! ### _law_made -/
theorem sc_made : FnScope ["_law_which", "_law_stock", "_law_places_here", "_law_asks_here", "_law_turn"] ["_law_which", "_law_stock", "_law_places_here", "_law_asks_here", "_law_turn"] (defScope sLawMade) := ⟨rfl, rfl, rfl, by decide +kernel, rfl, by decide +kernel, by decide +kernel⟩
def spMade (P : Program) (w : World) (K : PySem.W.Frag) (mg : Str → Option Value) (base : Heap) : Sp := fun vs H Q _ => ∃ (wh : Nat) (sp a : Addr) (pl turn : Int) (rows : List Row3) (asks : List Str), vs = [.int (wh : Int), .ref sp, .int pl, .ref a, .int turn] ∧ wh < 5 ∧
  StockAt (He.ga K "Stock") H sp rows ∧ H a = some (.lst (asks.map V.str)) ∧ asks.length ≤ 200 ∧ (∀ z ∈ asks, z ∈ rows.map (·.1) ∧ lk (roomsD rows) z ≤ pl) ∧ 1 ≤ pl ∧ pl ≤ 1000000 ∧ 1 ≤ turn ∧ turn ≤ 200 ∧
  ∀ (B : Bun P w K mg base wh asks turn) F H' p, B.R .zero F H' p → (∀ b ∈ F, H b = none) → Same H H' → Q (.ref p) H'
theorem eqI {i j : Int} (h : i = j) : decide (V.int i = V.int j) = true := decide_eq_true (by rw [h])
theorem neI {i j : Int} (h : ¬ i = j) : decide (V.int i = V.int j) = false := decide_eq_false fun q => h (V.int.inj q)
theorem free2 {H : Hp} {x dx d C : Addr} (h : (upd (upd H dx (.own x)) x (.ins C dx [])) d = none) : H d = none := by
  have n1 : d ≠ x := fun q => by rw [q, upd_same] at h; cases h
  rw [upd_ne n1] at h
  have n2 : d ≠ dx := fun q => by rw [q, upd_same] at h; cases h
  rw [upd_ne n2] at h
  exact h
theorem same2 {H H' : Hp} {x dx C : Addr} (nx : H x = none) (nd : H dx = none) (b : But [x] (upd (upd H dx (.own x)) x (.ins C dx [])) H') : Same H H' := fun c o e => by
  have n1 := ne_of_none e nx
  exact b c o (by rw [upd_ne n1, upd_ne (ne_of_none e nd)]; exact e) (by simp [n1])
theorem ok_made (T : Txt K mg) : Cal P w K mg base 7 (He.ga K "_law_made") ["_law_which", "_law_stock", "_law_places_here", "_law_asks_here", "_law_turn"] (spMade P w K mg base) := by
  refine cal_of T.fLawMade sc_made (fun vs H Q E h => ?_) (fun _ _ _ _ _ _ us hl => match us, hl with | [_, _, _, _, _], _ => rfl) (fun cdv A outer s H vs Q E hr h => ?_)
  · obtain ⟨wh, sp, a, pl, turn, rows, asks, rfl, _⟩ := h; rfl
  · obtain ⟨wh, sp, a, pl, turn, rows, asks, rfl, hw, hS, ha, hlen, hall, h1, h2, h3, h4, k⟩ := h
    refine ⟨_, pss_cons (ps_if (pt_cmpR op_eq (pv 0) pe_int (nomark _)) (pss_one (ps_ret (pe_mk T.m_Ranked (ok_ranked T T.fRanked_Init) hr T.g_Ranked (pa_cons (pv 1) (pa_cons (pv 2) pa_nil))))) pss_nil)
      (pss_cons (ps_if (pt_cmpR op_eq (pv 0) pe_int (nomark _)) (pss_one (ps_ret (pe_mk T.m_Oldest (ok_ranked T T.fOldest_Init) hr T.g_Oldest (pa_cons (pv 1) (pa_cons (pv 2) pa_nil))))) pss_nil)
      (pss_cons (ps_if (pt_cmpR op_eq (pv 0) pe_int (nomark _)) (pss_one (ps_ret (pe_mk T.m_First (ok_first T) hr T.g_First (pa_cons (pv 1) (pa_cons (pv 2) pa_nil))))) pss_nil)
      (pss_cons (ps_if (pt_cmpR op_eq (pv 0) pe_int (nomark _)) (pss_one (ps_ret (pe_mk T.m_Halving (ok_halv T) hr T.g_Halving (pa_cons (pv 1) (pa_cons (pv 2) (pa_cons (pv 4) pa_nil)))))) pss_nil)
      (pss_one (ps_ret (pe_mk T.m_Farthest (ok_far T) hr T.g_Farthest (pa_cons (pv 1) (pa_cons (pv 2) (pa_cons (pv 3) pa_nil))))))))), ?_⟩
    have plainR : ∀ (C fr fa fc fg fh : Addr) (hw : wh < 2) (rc : RC K C) (mr : Meth K C "rank" fr) (Fr : FnP K "rank" "Ranked.rank" sRanked_Rank [] fr) (ma : Meth K C "asked" fa) (Fa : FnP K "asked" "Ranked.asked" sRanked_Asked [] fa)
        (mc : Meth K C "came" fc) (Fc : FnP K "came" "Rule.came" sRule_Came [] fc) (mg' : Meth K C "gone" fg) (Fg : FnP K "gone" "Rule.gone" sRule_Gone [] fg) (mh : Meth K C "choice" fh) (Fh : FnP K "choice" "Ranked.choice" sRanked_Choice [] fh),
        tMake C (spRanked K) [] E0 (tCons (tVar 1) (tCons (tVar 2) tNil)) [some (.int (wh : Int)), some (.ref sp), some (.int pl), some (.ref a), some (.int turn)] H Q := by
      intro C fr fa fc fg fh hw rc mr Fr ma Fa mc Fc mg' Fg mh Fh
      refine ⟨_, rfl, _, rfl, fun x dx nx ndx ne => ?_⟩
      refine ⟨C, x, dx, _, pl, rfl, rc, upd_same, h1, h2, fun H' d hd g1 g2 b => ⟨rfl, ?_⟩⟩
      refine k (bunRanked hw asks turn rc mr Fr ma Fa mc Fc mg' Fg mh Fh) [x, d] H' x (show RRanked C _ _ _ _ from ⟨dx, d, _, pl, rfl, g1, g2⟩) (fun c hc => ?_) (same2 nx ndx b)
      rcases List.mem_cons.mp hc with q | q
      · rw [q]; exact nx
      · rw [List.mem_singleton.mp q]; exact free2 hd
    match wh, hw, k, plainR with
    | 0, _, k, plainR =>
      refine ⟨_, rfl, rfl, _, rfl, iteBT (eqI rfl) ?_⟩
      exact plainR _ _ _ _ _ _ (by decide) T.rRanked T.me_Ranked_rank T.fRanked_Rank T.me_Ranked_asked T.fRanked_Asked T.me_Ranked_came T.fRanked_Came T.me_Ranked_gone T.fRanked_Gone T.me_Ranked_choice T.fRanked_Choice
    | 1, _, k, plainR =>
      refine ⟨_, rfl, rfl, _, rfl, iteBF (neI (by decide)) ?_⟩
      refine ⟨_, rfl, rfl, _, rfl, iteBT (eqI rfl) ?_⟩
      exact plainR _ _ _ _ _ _ (by decide) T.rOldest T.me_Oldest_rank T.fOldest_Rank T.me_Oldest_asked T.fOldest_Asked T.me_Oldest_came T.fOldest_Came T.me_Oldest_gone T.fOldest_Gone T.me_Oldest_choice T.fOldest_Choice
    | 2, _, k, plainR =>
      refine ⟨_, rfl, rfl, _, rfl, iteBF (neI (by decide)) ?_⟩
      refine ⟨_, rfl, rfl, _, rfl, iteBF (neI (by decide)) ?_⟩
      refine ⟨_, rfl, rfl, _, rfl, iteBT (eqI rfl) ?_⟩
      refine ⟨_, rfl, _, rfl, fun x dx nx ndx ne => ?_⟩
      refine ⟨_, x, dx, _, pl, rfl, T.rFirst, T.n_First_when, upd_same, h1, h2, fun H' d e hd he nde g1 g2 g3 b => ⟨rfl, ?_⟩⟩
      refine k (bunFirst T asks turn) [x, d, e] H' x (show RFirst _ _ _ _ _ from ⟨dx, d, e, _, pl, rfl, nde, g1, g2, g3⟩) (fun c hc => ?_) (same2 nx ndx b)
      rcases List.mem_cons.mp hc with q | q
      · rw [q]; exact nx
      · rcases (List.mem_cons.mp q) with q | q
        · rw [q]; exact free2 hd
        · rw [List.mem_singleton.mp q]; exact free2 he
    | 3, _, k, plainR =>
      refine ⟨_, rfl, rfl, _, rfl, iteBF (neI (by decide)) ?_⟩
      refine ⟨_, rfl, rfl, _, rfl, iteBF (neI (by decide)) ?_⟩
      refine ⟨_, rfl, rfl, _, rfl, iteBF (neI (by decide)) ?_⟩
      refine ⟨_, rfl, rfl, _, rfl, iteBT (eqI rfl) ?_⟩
      refine ⟨_, rfl, _, rfl, _, rfl, fun x dx nx ndx ne => ?_⟩
      refine ⟨_, x, dx, _, pl, turn, rfl, T.rHalving, T.n_Halving_turn, T.n_Halving_tally, upd_same, h1, h2, h3, h4, fun H' d e hd he nde g1 g2 g3 b => ⟨rfl, ?_⟩⟩
      refine k (bunHalv T asks h3) [x, d, e] H' x (show RHalv _ _ _ _ _ _ from ⟨dx, d, e, _, pl, rfl, nde, g1, g2, g3⟩) (fun c hc => ?_) (same2 nx ndx b)
      rcases List.mem_cons.mp hc with q | q
      · rw [q]; exact nx
      · rcases (List.mem_cons.mp q) with q | q
        · rw [q]; exact free2 hd
        · rw [List.mem_singleton.mp q]; exact free2 he
    | 4, _, k, plainR =>
      refine ⟨_, rfl, rfl, _, rfl, iteBF (neI (by decide)) ?_⟩
      refine ⟨_, rfl, rfl, _, rfl, iteBF (neI (by decide)) ?_⟩
      refine ⟨_, rfl, rfl, _, rfl, iteBF (neI (by decide)) ?_⟩
      refine ⟨_, rfl, rfl, _, rfl, iteBF (neI (by decide)) ?_⟩
      refine ⟨_, rfl, _, rfl, _, rfl, fun x dx nx ndx ne => ?_⟩
      have s2 : Same H (upd (upd H dx (.own x)) x (.ins (He.ga K "Farthest") dx [])) := fun c o e => by
        rw [upd_ne (ne_of_none e nx), upd_ne (ne_of_none e ndx)]
        exact e
      obtain ⟨dxs, dcs, drs, hps, _, _⟩ := id hS
      refine ⟨_, x, dx, sp, a, pl, rows, asks, rfl, T.rFarthest, T.n_Farthest_never, T.n_Farthest_times, upd_same, hS.same s2, SqL.of (s2 _ _ ha), ne_of_none hps nx, ne_of_none ha nx, hlen, hall, h1, h2,
        fun H' d e tb hd he hf nde hdn hen g1 g2 g3 b => ⟨rfl, ?_⟩⟩
      refine k (bunFar T asks turn) (x :: d :: e :: tb.map (·.2)) H' x (show RFar _ _ _ _ _ _ from ⟨dx, d, e, _, pl, tb, rfl, nde, hdn, g1, g2, g3⟩) (fun c hc => ?_) (same2 nx ndx b)
      rcases List.mem_cons.mp hc with q | q
      · rw [q]; exact nx
      · rcases (List.mem_cons.mp q) with q | q
        · rw [q]; exact free2 hd
        · rcases (List.mem_cons.mp q) with q | q
          · rw [q]; exact free2 he
          · exact free2 (hf c q)
end
end K29
/-! The law's own helpers: next, due, rank, all ranks, counted, least. -/
namespace K29
open PySem PySem.Spec PyProof.Rows L2
theorem pt_when {X : Cx} {c : Prop} {e : Expr} {t : TT} (h : c → PT X e t) : PT X e (fun σ H Q => c ∧ t σ H Q) := ⟨fun pins s σ H Q I hq => (h hq.1).run pins s σ H Q I hq.2⟩
theorem vInt {i j : Int} : (V.int i = V.int j) = (i = j) := propext ⟨V.int.inj, fun h => by rw [h]⟩
theorem vStr {i j : Str} : (V.str i = V.str j) = (i = j) := propext ⟨V.str.inj, fun h => by rw [h]⟩
section
variable {P : Program} {w : World} {K : PySem.W.Frag} {mg : Str → Option Value} {base : Heap}
theorem sc_next : FnScope ["_law_asks_here", "_law_name", "_law_now", "_law_k"] ["_law_asks_here", "_law_name", "_law_now"] (defScope sLawNext) := ⟨rfl, rfl, rfl, by decide +kernel, rfl, by decide +kernel, by decide +kernel⟩
def spNext (K : PySem.W.Frag) : Sp := fun vs H Q _ => ∃ (a : Addr) (asks : List Str) (z : Str) (n : Nat), vs = [.ref a, .str z, .int (n : Int)] ∧ SqL K H a (asks.map V.str) ∧ asks.length ≤ 200 ∧ n ≤ 200 ∧ Q (.int (nxt asks z n)) H
theorem ok_next (T : Txt K mg) : Cal P w K mg base 1 (He.ga K "_law_next") ["_law_asks_here", "_law_name", "_law_now"] (spNext K) := by
  refine cal_of T.fLawNext sc_next (fun vs H Q E h => ?_) (fun _ _ _ _ _ _ us hl => match us, hl with | [_, _, _], _ => rfl) (fun cdv A outer s H vs Q E hr h => ?_)
  · obtain ⟨a, asks, z, n, rfl, _⟩ := h; rfl
  · obtain ⟨a, asks, z, n, rfl, hS, hl, hn, k⟩ := h
    refine ⟨_, pss_cons (ps_for PassesOwn.never rfl (pi_range2 (by rfl) T.z_range (pa_cons (pv 2) (pa_cons (pe_callB call_len_seq (by rfl) T.z_len PySem.boot_len (pa_cons (pv 0) pa_nil)) pa_nil))) (pg_name (i := 3) sc_next.nd rfl (Or.inl rfl))
        (pss_one (ps_if (pt_cmpR op_eq (pe_ix ix_list (pv 0) (pv 3) (fun _ _ => rfl)) (pv 1) (nomark _)) (pss_one (ps_ret (pe_op op_add (pv 3) pe_int))) pss_nil)))
      (pss_one (ps_ret (pe_op op_add (pe_callB call_len_seq (by rfl) T.z_len PySem.boot_len (pa_cons (pv 0) pa_nil)) pe_int))), ?_⟩
    refine ⟨_, rfl, _, rfl, a, _, rfl, .inl hS, (n : Int), ((asks.map V.str).length : Int), rfl, ⟨by omega, by omega, by rw [List.length_map]; omega, by rw [List.length_map]; omega⟩, ?_⟩
    rw [List.length_map]
    refine for_range (lo := (n : Int)) (n := ((asks.length : Int) - n).toNat) (fun i σ H2 => ∃ v : Option V, σ = [some (.ref a), some (.str z), some (.int (n : Int)), v] ∧ H2 = H ∧ ∀ j, n ≤ j → j < n + i → asks[j]? ≠ some z) ⟨none, rfl, rfl, fun j h1 h2 => by omega⟩ ?_ ?_
    · rintro i σ H2 hi ⟨v, rfl, rfl, hno⟩
      have hlt : n + i < asks.length := by omega
      obtain ⟨y, hy⟩ : ∃ y, asks[n + i]? = some y := ⟨asks[n + i], List.getElem?_eq_getElem hlt⟩
      have hy' : (asks.map V.str)[n + i]? = some (.str y) := by rw [List.getElem?_map, hy]; rfl
      refine ⟨_, rfl, _, rfl, a, _, _, _, rfl, rfl, hS, at_of (j := n + i) (by omega) hy', _, rfl, rfl, _, rfl, ite2D (fun he => ?_) (fun he => ?_)⟩
      · have he' : y = z := V.str.inj he
        subst he'
        refine ⟨_, rfl, _, _, rfl, rfl, ?_⟩
        have e2 : nxt asks y n = ((n + i : Nat) : Int) + 1 := nxt_at (by omega) hy fun j h1 h2 => hno j h1 h2
        have e3 : (n : Int) + (i : Int) + 1 = nxt asks y n := by rw [e2]; omega
        show Q (.int ((n : Int) + (i : Int) + 1)) _
        rw [e3]
        exact k
      · refine ⟨_, rfl, rfl, fun j h1 h2 => ?_⟩
        by_cases q : j = n + i
        · subst q
          rw [hy]
          exact fun q2 => he (congrArg V.str (Option.some.inj q2))
        · exact hno j h1 (by omega)
    · rintro σ H2 ⟨v, rfl, rfl, hno⟩
      refine ⟨_, rfl, a, _, rfl, .inl hS, _, _, rfl, rfl, ?_⟩
      have e2 : nxt asks z n = (asks.length : Int) + 1 := nxt_no fun j h1 h2 => by
        have hj : j < asks.length := (List.getElem?_eq_some_iff.mp h2).1
        exact hno j h1 (by omega) h2
      rw [List.length_map]
      show Q (.int ((asks.length : Int) + 1)) _
      rw [← e2]
      exact k
theorem sc_due : FnScope ["_law_which", "_law_kept", "_law_asks_here", "_law_name", "_law_now", "_law_last"] ["_law_which", "_law_kept", "_law_asks_here", "_law_name", "_law_now"] (defScope sLawDue) := ⟨rfl, rfl, rfl, by decide +kernel, rfl, by decide +kernel, by decide +kernel⟩
def spDue (K : PySem.W.Frag) : Sp := fun vs H Q _ => ∃ (wh : Nat) (kp k0 k1 k2 a : Addr) (asks : List Str) (z : Str) (s : RS), vs = [.int (wh : Int), .ref kp, .ref a, .str z, .int (s.now : Int)] ∧ wh < 5 ∧ KeptAt H kp k0 k1 k2 s ∧ SqL K H a (asks.map V.str) ∧ asks.length ≤ 200 ∧ s.now ≤ 200 ∧
  ∀ t, H t = none → Q (.ref t) (upd H t (.tup ((rk wh asks s z).map V.int)))
theorem ok_due (T : Txt K mg) : Cal P w K mg base 2 (He.ga K "_law_due") ["_law_which", "_law_kept", "_law_asks_here", "_law_name", "_law_now"] (spDue K) := by
  refine cal_of T.fLawDue sc_due (fun vs H Q E h => ?_) (fun _ _ _ _ _ _ us hl => match us, hl with | [_, _, _, _, _], _ => rfl) (fun cdv A outer st H vs Q E hr h => ?_)
  · obtain ⟨wh, kp, k0, k1, k2, a, asks, z, s, rfl, _⟩ := h; rfl
  · obtain ⟨wh, kp, k0, k1, k2, a, asks, z, s, rfl, hw, hk, hS, hl, hn, k⟩ := h
    have hu := hu_of hr
    refine ⟨_, pss_cons (ps_set (i := 5) sc_due.nd rfl (Or.inl rfl) (pe_dget2 hu (pe_ix ix_list (pv 1) pe_int (fun _ _ => rfl)) (pv 3) pe_int ⟨rfl, rfl, rfl, rfl⟩))
      (pss_cons (ps_if (pt_cmpR op_lt (pv 0) pe_int (nomark _)) (pss_one (ps_ret (pe_tup (pa_cons (pv 5) pa_nil)))) pss_nil)
      (pss_cons (ps_if (pt_cmpR op_eq (pv 0) pe_int (nomark _)) (pss_one (ps_ret (pe_tup (pa_cons (pe_dget2 hu (pe_ix ix_list (pv 1) pe_int (fun _ _ => rfl)) (pv 3) pe_int ⟨rfl, rfl, rfl, rfl⟩) pa_nil)))) pss_nil)
      (pss_cons (ps_if (pt_cmpR op_eq (pv 0) pe_int (nomark _)) (pss_one (ps_ret (pe_tup (pa_cons (pe_dget2 hu (pe_ix ix_list (pv 1) pe_int (fun _ _ => rfl)) (pv 3) pe_int ⟨rfl, rfl, rfl, rfl⟩) (pa_cons (pv 5) pa_nil))))) pss_nil)
      (pss_one (ps_ret (pe_tup (pa_cons (pe_op op_sub pe_int (pe_cal (ok_next T) hr T.g_law_next (pa_cons (pv 2) (pa_cons (pv 3) (pa_cons (pv 4) pa_nil))))) (pa_cons (pv 5) pa_nil)))))))), ?_⟩
    refine ⟨_, rfl, kp, _, _, _, rfl, rfl, SqL.of hk.l, at_of (j := 0) rfl rfl, k0, rfl, .inl ⟨_, .inl hk.d0⟩, _, rfl, _, DGet.k (k := Sum.inr z) hk.d0, ?_⟩
    rw [get_enc]
    refine ⟨_, rfl, _, _, rfl, rfl, _, rfl, ite2D (fun h2 => ?_) (fun h2 => ?_)⟩
    · refine ⟨_, rfl, (by show 1 ≤ sizeLine; decide), fun t ht => ?_⟩
      have e : rk wh asks s z = [lk s.L z] := if_pos (by omega)
      have := k t ht
      rw [e] at this
      exact this
    · have n2 : ¬ wh < 2 := by omega
      refine ⟨_, rfl, rfl, _, rfl, ite2D (fun h3 => ?_) (fun h3 => ?_)⟩
      · have h3' : wh = 2 := by have := V.int.inj h3; omega
        refine ⟨_, rfl, kp, _, _, _, rfl, rfl, SqL.of hk.l, at_of (j := 1) rfl rfl, k1, rfl, .inl ⟨_, .inl hk.d1⟩, _, rfl, _, DGet.k (k := Sum.inr z) hk.d1, (by show 1 ≤ sizeLine; decide), fun t ht => ?_⟩
        rw [get_enc]
        have e : rk wh asks s z = [lk s.W z] := by unfold rk; rw [if_neg n2, if_pos h3']
        have := k t ht
        rw [e] at this
        exact this
      · have n3 : ¬ wh = 2 := fun q => h3 (by rw [q]; rfl)
        refine ⟨_, rfl, rfl, _, rfl, ite2D (fun h4 => ?_) (fun h4 => ?_)⟩
        · have h4' : wh = 3 := by have := V.int.inj h4; omega
          refine ⟨_, rfl, kp, _, _, _, rfl, rfl, SqL.of hk.l, at_of (j := 2) rfl rfl, k2, rfl, .inl ⟨_, .inl hk.d2⟩, _, rfl, _, DGet.k (k := Sum.inr z) hk.d2, _, rfl, (by show 2 ≤ sizeLine; decide), fun t ht => ?_⟩
          rw [get_enc]
          have e : rk wh asks s z = [lk s.T z, lk s.L z] := by unfold rk; rw [if_neg n2, if_neg n3, if_pos h4']
          have := k t ht
          rw [e] at this
          exact this
        · have n4 : ¬ wh = 3 := fun q => h4 (by rw [q]; rfl)
          refine ⟨_, rfl, _, rfl, _, rfl, a, asks, z, s.now, rfl, hS, hl, hn, _, _, rfl, rfl, _, rfl, (by show 2 ≤ sizeLine; decide), fun t ht => ?_⟩
          have e : rk wh asks s z = [0 - nxt asks z s.now, lk s.L z] := by unfold rk; rw [if_neg n2, if_neg n3, if_neg n4]
          have := k t ht
          rw [e] at this
          exact this
theorem dpInts {H : Hp} : ∀ ns : List Int, DpAll K H (ns.map V.int) (ns.map PyData.int)
  | [] => .nil
  | n :: r => .cons (.int n) (dpInts r)
theorem canInts : ∀ ns : List Int, PyData.canLayAll0 (ns.map PyData.int) = true
  | [] => rfl
  | n :: r => by
    have ih := canInts r
    simp [PyData.canLayAll0, PyData.canLay0, ih]
theorem canTup (ns : List Int) : (PyData.tuple (ns.map PyData.int)).canLay0 = true := by
  have := canInts ns
  simpa [PyData.canLay0] using this
theorem depInts : ∀ ns : List Int, PyData.depthAll (ns.map PyData.int) ≤ 2
  | [] => by (simp [PyData.depthAll])
  | n :: r => by
    have ih := depInts r
    simp only [PyData.depthAll, PyData.depth, List.map_cons]
    omega
theorem shapedInts (ns : List Int) : SeqAt.shaped (.tuple (ns.map PyData.int)) = true := by
  have h2 := depInts ns
  unfold SeqAt.shaped
  rw [canTup, Bool.true_and]
  refine decide_eq_true ?_
  simp only [PyData.depth]
  omega
theorem sc_lrank : FnScope ["_law_found", "_law_due_here", "_law_number"] ["_law_found", "_law_due_here"] (defScope sLawRank) := ⟨rfl, rfl, rfl, by decide +kernel, rfl, by decide +kernel, by decide +kernel⟩
def spLRank : Sp := fun vs H Q _ => ∃ (t u : Addr) (ns : List Int), vs = [.ref t, .ref u] ∧ H t = some (.tup (ns.map V.int)) ∧ H u = some (.tup (ns.map V.int)) ∧ Q (.bl true) H
theorem ok_lrank (T : Txt K mg) : Cal P w K mg base 1 (He.ga K "_law_rank") ["_law_found", "_law_due_here"] spLRank := by
  refine cal_of T.fLawRank sc_lrank (fun vs H Q E h => ?_) (fun _ _ _ _ _ _ us hl => match us, hl with | [_, _], _ => rfl) (fun cdv A outer st H vs Q E hr h => ?_)
  · obtain ⟨t, u, ns, rfl, _⟩ := h; rfl
  · obtain ⟨t, u, ns, rfl, ht, hu', k⟩ := h
    refine ⟨_, pss_cons (ps_if (PW.pt (pw_or (pt_not (pt_val (pe_callB call_isi (by rfl) T.z_isinstance (by decide +kernel) (pa_cons (pv 0) (pa_cons (pe_bltn (v := .ty "tuple") (by rfl) T.z_tuple (by decide +kernel) rfl) pa_nil)))))
        (pw_or1 (pt_cmpR (op_neD hr.units) (pv 0) (pv 1) (nomark _))))) pss_never pss_nil)
      (pss_cons (ps_for PassesOwn.never rfl (pi_tup (pv 0)) (pg_name (i := 2) sc_lrank.nd rfl (Or.inl rfl))
        (pss_one (ps_if (PW.pt (pw_or (pt_not (pt_val (pe_callB call_isi (by rfl) T.z_isinstance (by decide +kernel) (pa_cons (pv 2) (pa_cons (pe_bltn (v := .ty "int") (by rfl) T.z_int (by decide +kernel) rfl) pa_nil)))))
          (pw_or1 (pt_val (pe_callB call_isi (by rfl) T.z_isinstance (by decide +kernel) (pa_cons (pv 2) (pa_cons (pe_bltn (v := .ty "bool") (by rfl) T.z_bool (by decide +kernel) rfl) pa_nil))))))) pss_never pss_nil)))
      (pss_one (ps_ret pe_bl))), ?_⟩
    refine ⟨_, rfl, _, _, .type "tuple", .type "tuple", true, rfl, .ty _, .base (.tup ht), kit_ty (by decide +kernel), _, rfl, iteF ?_⟩
    refine ⟨_, rfl, _, rfl, .tuple (ns.map PyData.int), .tuple (ns.map PyData.int), .tup (SqT.of ht) (dpInts ns), .tup (SqT.of hu') (dpInts ns), shapedInts ns, shapedInts ns, _, rfl, ?_⟩
    rw [SeqAt.eqv_refl _ (canTup ns)]
    refine iteF ?_
    refine ⟨_, rfl, t, rfl, ⟨_, SqT.of ht⟩, for_tup (K := K) (a := t) (xs := ns.map V.int) (fun i σ H2 => ∃ v : Option V, σ = [some (.ref t), some (.ref u), v] ∧ H2 = H) ⟨none, rfl, rfl⟩ (fun i σ H2 _ ⟨_, _, e⟩ => by rw [e]; exact SqT.of ht) ?_ ?_⟩
    · rintro i x σ H2 hi ⟨v, rfl, rfl⟩
      obtain ⟨n, hn, rfl⟩ := int_at hi
      refine ⟨_, rfl, _, _, .type "int", .type "int", true, rfl, .ty _, .base (.int _), kit_ty (by decide +kernel), _, rfl, iteF ?_⟩
      refine ⟨_, rfl, _, _, .type "int", .type "bool", false, rfl, .ty _, .base (.int _), kit_ty (by decide +kernel), _, rfl, iteF ?_⟩
      exact ⟨_, rfl, rfl⟩
    · rintro σ H2 ⟨v, rfl, rfl⟩
      exact k
theorem sc_all : FnScope ["_law_rule", "_law_which", "_law_kept", "_law_asks_here", "_law_now", "_law_names_here", "_law_name"] ["_law_rule", "_law_which", "_law_kept", "_law_asks_here", "_law_now", "_law_names_here"] (defScope sLawAllRanks) := ⟨rfl, rfl, rfl, by decide +kernel, rfl, by decide +kernel, by decide +kernel⟩
def spAll (P : Program) (w : World) (K : PySem.W.Frag) (mg : Str → Option Value) (base : Heap) : Sp := fun vs H Q _ => ∃ (wh : Nat) (asks : List Str) (turn : Int) (B : Bun P w K mg base wh asks turn) (s : RS) (F : List Addr) (p kp k0 k1 k2 a nl : Addr) (zs : List Str),
  vs = [.ref p, .int (wh : Int), .ref kp, .ref a, .int (s.now : Int), .ref nl] ∧ wh < 5 ∧ B.R s F H p ∧ KeptAt H kp k0 k1 k2 s ∧ SqL K H a (asks.map V.str) ∧ SqL K H nl (zs.map V.str) ∧ asks.length ≤ 200 ∧ s.now ≤ 200 ∧ ∀ H', Same H H' → Q (.bl true) H'
theorem ok_all (T : Txt K mg) : Cal P w K mg base 5 (He.ga K "_law_all_ranks") ["_law_rule", "_law_which", "_law_kept", "_law_asks_here", "_law_now", "_law_names_here"] (spAll P w K mg base) := by
  refine cal_of T.fLawAllRanks sc_all (fun vs H Q E h => ?_) (fun _ _ _ _ _ _ us hl => match us, hl with | [_, _, _, _, _, _], _ => rfl) (fun cdv A outer st H vs Q E hr h => ?_)
  · obtain ⟨wh, asks, turn, B, s, F, p, kp, k0, k1, k2, a, nl, zs, rfl, _⟩ := h; rfl
  · obtain ⟨wh, asks, turn, B, s, F, p, kp, k0, k1, k2, a, nl, zs, rfl, hw, hR, hk, ha, hn, hl, hnow, k⟩ := h
    obtain ⟨fr, mr, kr⟩ := B.rank
    refine ⟨_, pss_cons (ps_for PassesOwn.never rfl (pi_list (pv 5)) (pg_name (i := 6) sc_all.nd rfl (Or.inl rfl))
        (pss_one (ps_if (pt_not (pt_val (pe_cal (ok_lrank T) hr T.g_law_rank (pa_cons (pe_me B.cl mr kr hr (pv 0) (pa_cons (pv 6) pa_nil))
          (pa_cons (pe_cal (ok_due T) hr T.g_law_due (pa_cons (pv 1) (pa_cons (pv 2) (pa_cons (pv 3) (pa_cons (pv 6) (pa_cons (pv 4) pa_nil)))))) pa_nil))))) pss_never pss_nil)))
      (pss_one (ps_ret pe_bl)), ?_⟩
    refine ⟨_, rfl, nl, rfl, ⟨_, hn⟩, for_list (K := K) (a := nl) (xs := zs.map V.str) (fun i σ H2 => ∃ v : Option V, σ = [some (.ref p), some (.int (wh : Int)), some (.ref kp), some (.ref a), some (.int (s.now : Int)), some (.ref nl), v] ∧ Same H H2)
      ⟨none, rfl, Same.refl H⟩ (fun i σ H2 _ ⟨_, _, s2⟩ => s2.seq hn) ?_ ?_⟩
    · rintro i x σ H2 hi ⟨v, rfl, s2⟩
      obtain ⟨z, hz, rfl⟩ := str_at hi
      obtain ⟨dx, fs, hp, _, hno, _⟩ := B.look (B.same hR s2)
      refine ⟨_, rfl, p, dx, fs, rfl, hp, hno, _, rfl, s, F, p, z, rfl, B.same hR s2, fun H3 t s3 ht gt => ?_⟩
      refine ⟨_, rfl, _, rfl, _, rfl, _, rfl, _, rfl, wh, kp, k0, k1, k2, a, asks, z, s, rfl, hw, hk.same (s2.trans s3), (s2.trans s3).seq ha, hl, hnow, fun u hu => ?_⟩
      refine ⟨t, u, _, rfl, by rw [upd_ne (ne_of_none gt hu)]; exact gt, upd_same, true, rfl, iteF ?_⟩
      exact ⟨_, rfl, fun b o q => by rw [upd_ne (ne_of_none (s3 _ _ (s2 _ _ q)) hu)]; exact s3 _ _ (s2 _ _ q)⟩
    · rintro σ H2 ⟨v, rfl, s2⟩
      exact k H2 s2
theorem sc_counted : FnScope ["_law_kept", "_law_name", "_law_now", "_law_turn", "_law_other"] ["_law_kept", "_law_name", "_law_now", "_law_turn"] (defScope sLawCounted) := ⟨rfl, rfl, rfl, by decide +kernel, rfl, by decide +kernel, by decide +kernel⟩
def spCounted : Sp := fun vs H Q _ => ∃ (kp k0 k1 k2 : Addr) (s : RS) (z : Str) (turn : Int), vs = [.ref kp, .str z, .int ((s.now : Int) + 1), .int turn] ∧ KeptAt H kp k0 k1 k2 s ∧ s.Le 900 ∧ 1 ≤ turn ∧
  ∀ H', KeptAt H' kp k0 k1 k2 (s.asked turn z) → But [k0, k2] H H' → Q .non H'
theorem ok_counted (T : Txt K mg) : Cal P w K mg base 1 (He.ga K "_law_counted") ["_law_kept", "_law_name", "_law_now", "_law_turn"] spCounted := by
  refine cal_of T.fLawCounted sc_counted (fun vs H Q E h => ?_) (fun _ _ _ _ _ _ us hl => match us, hl with | [_, _, _, _], _ => rfl) (fun cdv A outer st H vs Q E hr h => ?_)
  · obtain ⟨kp, k0, k1, k2, s, z, turn, rfl, _⟩ := h; rfl
  · obtain ⟨kp, k0, k1, k2, s, z, turn, rfl, hk, hle, ht, k⟩ := h
    have hu := hu_of hr
    refine ⟨_, pss_cons (ps_if (PW.pt (pw_and (pt_cmpR op_gt (pv 2) pe_int (nomark _)) (pw_and1 (pt_cmpR op_eq (pe_op op_mod (pe_op op_sub (pv 2) pe_int) (pv 3)) pe_int (nomark _)))))
        (pss_one (ps_for PassesOwn.never rfl (pi_list (pe_callTy (call_list_dK rfl) (by rfl) T.z_list (by decide +kernel) (pa_cons (pe_ix ix_list (pv 0) pe_int (fun _ _ => rfl)) pa_nil))) (pg_name (i := 4) sc_counted.nd rfl (Or.inl rfl))
          (pss_one (ps_dput hu (pe_ix ix_list (pv 0) pe_int (fun _ _ => rfl)) (pv 4) (pe_op op_fdiv (pe_dget hu (pe_ix ix_list (pv 0) pe_int (fun _ _ => rfl)) (pv 4) (fun _ _ => rfl)) pe_int) rfl)))) pss_nil)
      (pss_cons (ps_dput hu (pe_ix ix_list (pv 0) pe_int (fun _ _ => rfl)) (pv 1) (pv 2) rfl)
      (pss_one (ps_dput hu (pe_ix ix_list (pv 0) pe_int (fun _ _ => rfl)) (pv 1) (pe_op op_add (pe_dget2 hu (pe_ix ix_list (pv 0) pe_int (fun _ _ => rfl)) (pv 1) pe_int ⟨rfl, rfl, rfl, rfl⟩) pe_int) rfl))), ?_⟩
    obtain ⟨hkl, h0, h1, h2, n01, n02, n12⟩ := hk
    have np0 : kp ≠ k0 := ne_of hkl h0 (by intro q; cases q)
    have np2 : kp ≠ k2 := ne_of hkl h2 (by intro q; cases q)
    have tail : ∀ (v4 : Option V) (H1 : Hp), H1 kp = some (.lst [.ref k0, .ref k1, .ref k2]) → H1 k0 = some (.dK (enc s.L)) → H1 k1 = some (.dK (enc s.W)) → H1 k2 = some (.dK (enc (turned turn s))) → But [k0, k2] H H1 →
        tSeq (sDPut (tOp (rIxL K) (tVar 0) (tC (.int 0))) (tVar 1) (tVar 2)) (sDPut (tOp (rIxL K) (tVar 0) (tC (.int 2))) (tVar 1) (tOp (rI0 fun i j => .int (i + j)) (tDGet2 (tOp (rIxL K) (tVar 0) (tC (.int 2))) (tVar 1) (tC (.int 0))) (tC (.int 1))))
          { nx := fun _ H' => Q .non H', rt := Q } [some (.ref kp), some (.str z), some (.int ((s.now : Int) + 1)), some (.int turn), v4] H1 := by
      intro v4 H1 gl g0 g1 g2 gb
      refine ⟨_, rfl, _, rfl, kp, _, _, _, rfl, rfl, SqL.of gl, at_of (j := 0) rfl rfl, _, rfl, k0, _, rfl, DPut.k (k := Sum.inr z) g0 (small1000 (by rw [enc_len]; exact Nat.le_trans hle.l (by decide))), ?_⟩
      rw [put_enc]
      have gl' : (upd H1 k0 (.dK (enc (put s.L z ((s.now : Int) + 1))))) kp = some (.lst [.ref k0, .ref k1, .ref k2]) := by rw [upd_ne np0]; exact gl
      have g2' : (upd H1 k0 (.dK (enc (put s.L z ((s.now : Int) + 1))))) k2 = some (.dK (enc (turned turn s))) := by rw [upd_ne n02.symm]; exact g2
      refine ⟨_, rfl, kp, _, _, _, rfl, rfl, SqL.of gl', at_of (j := 2) rfl rfl, k2, rfl, .inl ⟨_, .inl g2'⟩, _, rfl, _, DGet.k (k := Sum.inr z) g2', ?_⟩
      rw [get_enc]
      refine ⟨_, _, rfl, rfl, _, rfl, kp, _, _, _, rfl, rfl, SqL.of gl', at_of (j := 2) rfl rfl, _, rfl, k2, _, rfl, DPut.k (k := Sum.inr z) g2' (small1000 (by rw [enc_len, turned_len]; exact Nat.le_trans hle.t (by decide))), ?_⟩
      rw [put_enc]
      refine k _ ⟨by rw [upd_ne np2]; exact gl', by rw [upd_ne n02]; exact upd_same, by rw [upd_ne n12, upd_ne n01.symm]; exact g1, upd_same, n01, n02, n12⟩ ((gb.updI (by simp)).updI (by simp))
    refine ⟨_, rfl, _, _, rfl, rfl, _, rfl, ite2D (fun hpos => ?_) (fun hpos => ?_)⟩
    · refine ⟨_, rfl, _, _, rfl, rfl, _, rfl, _, _, rfl, rfl, (by show (0 : Int) < turn; omega), rfl, _, rfl, ite2D (fun hz => ?_) (fun hz => ?_)⟩
      · have hz' : ((s.now : Int) + 1 - 1) % turn = 0 := V.int.inj hz
        have hz2 : (s.now : Int) % turn = 0 := by rw [← hz']; congr 1; omega
        have et : turned turn s = halve s.T := if_pos ⟨by omega, hz2⟩
        refine ⟨_, rfl, kp, _, _, _, rfl, rfl, SqL.of hkl, at_of (j := 2) rfl rfl, k2, _, rfl, h2, fun q hq => ?_⟩
        rw [keysV]
        have nqp : kp ≠ q := ne_of_none hkl hq
        have nq0 : k0 ≠ q := ne_of_none h0 hq
        have nq1 : k1 ≠ q := ne_of_none h1 hq
        have nq2 : k2 ≠ q := ne_of_none h2 hq
        refine ⟨q, rfl, ⟨_, SqL.of upd_same⟩, for_list (K := K) (a := q) (xs := (keys s.T).map V.str) (fun i σ H2 => ∃ v : Option V, σ = [some (.ref kp), some (.str z), some (.int ((s.now : Int) + 1)), some (.int turn), v] ∧ H2 kp = some (.lst [.ref k0, .ref k1, .ref k2]) ∧
          H2 k0 = some (.dK (enc s.L)) ∧ H2 k1 = some (.dK (enc s.W)) ∧ H2 q = some (.lst ((keys s.T).map V.str)) ∧ H2 k2 = some (.dK (enc (halfN s.T ((keys s.T).take i)))) ∧ But [k0, k2] H H2)
          ⟨none, rfl, by rw [upd_ne nqp]; exact hkl, by rw [upd_ne nq0]; exact h0, by rw [upd_ne nq1]; exact h1, upd_same, by rw [upd_ne nq2]; exact h2, (But.of_same (Same.refl H)).updN hq⟩ (fun i σ H2 _ ⟨_, _, _, _, _, g, _⟩ => SqL.of g) ?_ ?_⟩
        · rintro i x σ H2 hi ⟨v, rfl, gl, g0, g1, gq, g2, gb⟩
          obtain ⟨y, hy, rfl⟩ := str_at hi
          have ks : keys (halfN s.T ((keys s.T).take i)) = keys s.T := half_keys _ _ fun a ha => List.mem_of_mem_take ha
          have hyk : y ∈ keys (halfN s.T ((keys s.T).take i)) := by rw [ks]; exact List.mem_of_getElem? hy
          have hlen : (halfN s.T ((keys s.T).take i)).length = s.T.length := by rw [← keys_len, ks, keys_len]
          refine ⟨_, rfl, kp, _, _, _, rfl, rfl, SqL.of gl, at_of (j := 2) rfl rfl, _, rfl, k2, _, rfl, (by rw [← has_enc hyk]; exact DGet.k (k := Sum.inr y) g2), _, _, rfl, rfl, ⟨by decide, by decide⟩, ?_⟩
          refine ⟨_, rfl, kp, _, _, _, rfl, rfl, SqL.of gl, at_of (j := 2) rfl rfl, _, rfl, k2, _, rfl, DPut.k (k := Sum.inr y) g2 (small1000 (by rw [enc_len, hlen]; exact Nat.le_trans hle.t (by decide))), ?_⟩
          rw [put_enc]
          have et2 : (keys s.T).take (i + 1) = (keys s.T).take i ++ [y] := by rw [List.take_add_one, hy]; rfl
          refine ⟨_, rfl, by rw [upd_ne np2]; exact gl, by rw [upd_ne n02]; exact g0, by rw [upd_ne n12]; exact g1, by rw [upd_ne nq2.symm]; exact gq, ?_, gb.updI (by simp)⟩
          rw [upd_same, et2, halfN_snoc]
          rfl
        · rintro σ H2 ⟨v, rfl, gl, g0, g1, gq, g2, gb⟩
          refine tail v H2 gl g0 g1 ?_ gb
          rw [g2, et, List.length_map, List.take_length]
          rfl
      · have et : turned turn s = s.T := if_neg fun q => hz (congrArg V.int (by rw [← q.2]; congr 1; omega))
        exact tail none H hkl h0 h1 (by rw [et]; exact h2) (But.of_same (Same.refl H))
    · have et : turned turn s = s.T := if_neg fun q => hpos (by omega)
      refine iteF ?_
      exact tail none H hkl h0 h1 (by rw [et]; exact h2) (But.of_same (Same.refl H))
theorem sc_least : FnScope ["_law_rule", "_law_pick", "_law_lying", "_law_name"] ["_law_rule", "_law_pick", "_law_lying"] (defScope sLawLeast) := ⟨rfl, rfl, rfl, by decide +kernel, rfl, by decide +kernel, by decide +kernel⟩
def spLeast (P : Program) (w : World) (K : PySem.W.Frag) (mg : Str → Option Value) (base : Heap) : Sp := fun vs H Q _ => ∃ (wh : Nat) (asks : List Str) (turn : Int) (B : Bun P w K mg base wh asks turn) (s : RS) (F : List Addr) (p l : Addr) (zs : List Str) (pick : Str),
  vs = [.ref p, .str pick, .ref l] ∧ B.R s F H p ∧ SqL K H l (zs.map V.str) ∧ pick ∈ zs ∧ (∀ y ∈ zs, HT.lexLt (rk wh asks s y) (rk wh asks s pick) = false) ∧ ∀ H', Same H H' → Q (.bl true) H'
theorem ok_least (T : Txt K mg) : Cal P w K mg base 5 (He.ga K "_law_least") ["_law_rule", "_law_pick", "_law_lying"] (spLeast P w K mg base) := by
  refine cal_of T.fLawLeast sc_least (fun vs H Q E h => ?_) (fun _ _ _ _ _ _ us hl => match us, hl with | [_, _, _], _ => rfl) (fun cdv A outer st H vs Q E hr h => ?_)
  · obtain ⟨wh, asks, turn, B, s, F, p, l, zs, pick, rfl, _⟩ := h; rfl
  · obtain ⟨wh, asks, turn, B, s, F, p, l, zs, pick, rfl, hR, hl, hm, hall, k⟩ := h
    obtain ⟨fr, mr, kr⟩ := B.rank
    refine ⟨_, pss_cons (ps_if (pt_cmpR op_notIn_seq (pv 1) (pv 2) (by rfl)) pss_never pss_nil)
      (pss_cons (ps_for PassesOwn.never rfl (pi_list (pv 2)) (pg_name (i := 3) sc_least.nd rfl (Or.inl rfl))
        (pss_one (ps_if (pt_cmpR (op_ltT hr.units0) (pe_me B.cl mr kr hr (pv 0) (pa_cons (pv 3) pa_nil)) (pe_me B.cl mr kr hr (pv 0) (pa_cons (pv 1) pa_nil)) (nomark _)) pss_never pss_nil)))
      (pss_one (ps_ret pe_bl))), ?_⟩
    refine ⟨_, rfl, _, rfl, l, _, rfl, .inl hl, rfl, flat_strs zs, _, rfl, ?_⟩
    rw [inV_strs, decide_eq_true hm]
    refine iteF ?_
    refine ⟨_, rfl, l, rfl, ⟨_, hl⟩, for_list (K := K) (a := l) (xs := zs.map V.str) (fun i σ H2 => ∃ v : Option V, σ = [some (.ref p), some (.str pick), some (.ref l), v] ∧ Same H H2) ⟨none, rfl, Same.refl H⟩ (fun i σ H2 _ ⟨_, _, s2⟩ => s2.seq hl) ?_ ?_⟩
    · rintro i x σ H2 hi ⟨v, rfl, s2⟩
      obtain ⟨z, hz, rfl⟩ := str_at hi
      obtain ⟨dx, fs, hp, _, hno, _⟩ := B.look (B.same hR s2)
      refine ⟨_, rfl, p, dx, fs, rfl, hp, hno, _, rfl, s, F, p, z, rfl, B.same hR s2, fun H3 t s3 ht gt => ?_⟩
      refine ⟨_, rfl, p, dx, fs, rfl, s3 _ _ hp, hno, _, rfl, s, F, p, pick, rfl, B.same hR (s2.trans s3), fun H4 u s4 hu gu => ?_⟩
      refine ⟨t, u, _, _, rfl, rfl, SqT.of (s4 _ _ gt), SqT.of gu, _, rfl, iteBF (hall z (List.mem_of_getElem? hz)) ?_⟩
      exact ⟨_, rfl, (s2.trans s3).trans s4⟩
    · rintro σ H2 ⟨v, rfl, s2⟩
      exact k H2 s2
end
end K29
/-! _law_led: the rule led by hand. -/
namespace K29
open PySem PySem.Spec PyProof.Rows L2
theorem seq_no {c : TT} {t R : TS} {D : Ends} {σ : L2.St} {H : Hp} (G : Hp → Prop) (hc : ∀ Q : Bool → Hp → Prop, (∀ H', G H' → Q false H') → c σ H Q) (hr : ∀ H', G H' → R D σ H') : tSeq (tIfS c t tNext) R D σ H :=
  hc _ fun H' g => iteF (hr H' g)
theorem seq_while {c : TT} {tb R : TS} {D : Ends} {σ : L2.St} {H : Hp} (W : Nat → L2.St → Hp → Prop) (h0 : ∃ m, W m σ H)
    (turn : ∀ m σ H, W m σ H → ∀ Y : L2.St → Hp → Prop, Y σ H → c σ H fun b H1 => if b = true then ∃ N : L2.St → Hp → Prop, (∀ σ' H', N σ' H' → ∃ m', m' < m ∧ W m' σ' H') ∧ tb { D with nx := N, ct := N, bk := Y } σ H1 else Y σ H1)
    (after : ∀ m σ H, W m σ H → R D σ H) : tSeq (tWhile c tb) R D σ H := ⟨W, h0, fun m σ H hW => turn m σ H hW (R D) (after m σ H hW)⟩
/-! ### the sum of the rooms -/
def sumR (d : DI) (zs : List Str) : Int := (zs.map (lk d)).sum
theorem sumR_snoc (d : DI) (zs : List Str) (z : Str) : sumR d (zs ++ [z]) = sumR d zs + lk d z := by
  unfold sumR
  rw [List.map_append, List.sum_append]
  simp
theorem sumR_erase (d : DI) : ∀ {zs : List Str} {j : Nat} {z : Str}, zs[j]? = some z → sumR d (zs.eraseIdx j) = sumR d zs - lk d z
  | [], j, z, h => by simp at h
  | y :: r, 0, z, h => by
    have e : y = z := Option.some.inj h
    subst e
    unfold sumR
    rw [List.eraseIdx_cons_zero, List.map_cons, List.sum_cons]
    omega
  | y :: r, j + 1, z, h => by
    have ih := sumR_erase d (zs := r) (j := j) (z := z) h
    unfold sumR at ih ⊢
    rw [List.eraseIdx_cons_succ, List.map_cons, List.sum_cons, List.map_cons, List.sum_cons, ih]
    omega
theorem first_in : ∀ {zs : List Str} {z : Str}, z ∈ zs → ∃ j : Nat, zs[j]? = some z ∧ ∀ m : Nat, m < j → zs[m]? ≠ some z
  | [], _, h => (absurd h List.not_mem_nil)
  | y :: r, z, h => by
    by_cases e : y = z
    · exact ⟨0, by rw [e]; rfl, fun m hm => absurd hm (Nat.not_lt_zero _)⟩
    · have h2 : z ∈ r := by
        rcases (List.mem_cons.mp h) with q | q
        · exact absurd q.symm e
        · exact q
      obtain ⟨j, h3, h4⟩ := first_in h2
      refine ⟨j + 1, h3, fun m hm => ?_⟩
      cases m with
      | zero => exact fun q => e (Option.some.inj q)
      | succ m => exact h4 m (by omega)
theorem put_nd {d : DI} {z : Str} (i : Int) (h : (keys d).Nodup) : (keys (put d z i)).Nodup := by
  by_cases hz : z ∈ keys d
  · rw [put_keys _ hz]
    exact h
  · unfold put
    rw [if_neg]
    · unfold keys
      rw [List.map_append]
      exact nd_snoc h hz
    · intro q
      obtain ⟨p, hp, e⟩ := (List.any_eq_true.mp q)
      exact hz (List.mem_map.mpr ⟨p, hp, of_decide_eq_true e⟩)
theorem asked_nd {s : RS} (turn : Int) (z : Str) (h : (keys s.T).Nodup) : (keys (s.asked turn z).T).Nodup := by
  refine put_nd _ ?_
  unfold turned
  split
  · rw [halve_keys]; exact h
  · exact h
theorem enc_self {d : DI} (h : (keys d).Nodup) : ∀ p ∈ enc d, valV (enc d) p.1 = some p.2 ∧ flatB p.2 = true := by
  intro p hp
  obtain ⟨q, hq, e⟩ := List.mem_map.mp hp
  subst e
  refine ⟨?_, rfl⟩
  have hk : q.1 ∈ keys d := List.mem_map.mpr ⟨q, hq, rfl⟩
  show valV (enc d) (Sum.inr q.1 : Key) = some (.int q.2)
  rw [has_enc hk]
  have : lk d q.1 = q.2 := by
    unfold lk
    cases e : d.find? fun p => decide (p.1 = q.1) with
    | none =>
      have := List.find?_eq_none.mp e q hq
      simp at this
    | some r =>
      have h1 := List.mem_of_find?_eq_some e
      have h2 : r.1 = q.1 := of_decide_eq_true (List.find?_some (p := fun p : Str × Int => decide (p.1 = q.1)) e)
      obtain ⟨i, hi, e1⟩ := List.mem_iff_getElem.mp h1
      obtain ⟨j, hj, e2⟩ := List.mem_iff_getElem.mp hq
      have q1 : (keys d)[i]? = some q.1 := by unfold keys; rw [List.getElem?_map, List.getElem?_eq_getElem hi, e1, ← h2]; rfl
      have q2 : (keys d)[j]? = some q.1 := by unfold keys; rw [List.getElem?_map, List.getElem?_eq_getElem hj, e2]; rfl
      have q3 := nd_ix h q1 q2
      subst q3
      rw [e1] at e2
      rw [e2]
      rfl
  rw [this]
section
variable {P : Program} {w : World} {K : PySem.W.Frag} {mg : Str → Option Value} {base : Heap}
/-- where all stands while the rule is led -/
structure LedAt {wh : Nat} {asks : List Str} {turn : Int} (B : Bun P w K mg base wh asks turn) (rows : List Row3) (F : List Addr) (p kp k0 k1 k2 ly a rd : Addr) (H : Hp) (s : RS) (zs : List Str) : Prop where
  r : B.R s F H p
  k : KeptAt H kp k0 k1 k2 s
  y : H ly = some (.lst (zs.map V.str))
  a : H a = some (.lst (asks.map V.str))
  d : H rd = some (.dK (enc (roomsD rows)))
structure Sep (F : List Addr) (kp k0 k1 k2 ly a rd : Addr) : Prop where
  f : ∀ b ∈ F, b ≠ kp ∧ b ≠ k0 ∧ b ≠ k1 ∧ b ≠ k2 ∧ b ≠ ly ∧ b ≠ a ∧ b ≠ rd
  a : a ≠ k0 ∧ a ≠ k1 ∧ a ≠ k2 ∧ a ≠ ly
  d : rd ≠ k0 ∧ rd ≠ k1 ∧ rd ≠ k2 ∧ rd ≠ ly
  y : ly ≠ k0 ∧ ly ≠ k1 ∧ ly ≠ k2 ∧ ly ≠ kp
section
variable {wh : Nat} {asks : List Str} {turn : Int} {B : Bun P w K mg base wh asks turn} {rows : List Row3} {F : List Addr} {p kp k0 k1 k2 ly a rd : Addr} {H H' : Hp} {s : RS} {zs : List Str}
theorem LedAt.same (L : LedAt B rows F p kp k0 k1 k2 ly a rd H s zs) (e : Same H H') : LedAt B rows F p kp k0 k1 k2 ly a rd H' s zs := ⟨B.same L.r e, L.k.same e, e _ _ L.y, e _ _ L.a, e _ _ L.d⟩
theorem Sep.nF (S : Sep F kp k0 k1 k2 ly a rd) : kp ∉ F ∧ k0 ∉ F ∧ k1 ∉ F ∧ k2 ∉ F ∧ ly ∉ F ∧ a ∉ F ∧ rd ∉ F :=
  ⟨fun h => (S.f _ h).1 rfl, fun h => (S.f _ h).2.1 rfl, fun h => (S.f _ h).2.2.1 rfl, fun h => (S.f _ h).2.2.2.1 rfl, fun h => (S.f _ h).2.2.2.2.1 rfl, fun h => (S.f _ h).2.2.2.2.2.1 rfl, fun h => (S.f _ h).2.2.2.2.2.2 rfl⟩
/-- the rule has moved -/
theorem LedAt.rule (L : LedAt B rows F p kp k0 k1 k2 ly a rd H s zs) (S : Sep F kp k0 k1 k2 ly a rd) {s' : RS} (hk : KeptAt H kp k0 k1 k2 s') (hr : B.R s' F H' p) (b : But F H H') : LedAt B rows F p kp k0 k1 k2 ly a rd H' s' zs :=
  let ⟨n1, n2, n3, n4, n5, n6, n7⟩ := S.nF
  ⟨hr, ⟨b _ _ hk.l n1, b _ _ hk.d0 n2, b _ _ hk.d1 n3, b _ _ hk.d2 n4, hk.n01, hk.n02, hk.n12⟩, b _ _ L.y n5, b _ _ L.a n6, b _ _ L.d n7⟩
/-- the shelf's list is another -/
theorem LedAt.lying (L : LedAt B rows F p kp k0 k1 k2 ly a rd H s zs) (S : Sep F kp k0 k1 k2 ly a rd) (ys : List Str) : LedAt B rows F p kp k0 k1 k2 ly a rd (upd H ly (.lst (ys.map V.str))) s ys :=
  ⟨B.keep L.r fun b hb o e => by rw [upd_ne (S.f b hb).2.2.2.2.1]; exact e,
    ⟨by rw [upd_ne S.y.2.2.2.symm]; exact L.k.l, by rw [upd_ne S.y.1.symm]; exact L.k.d0, by rw [upd_ne S.y.2.1.symm]; exact L.k.d1, by rw [upd_ne S.y.2.2.1.symm]; exact L.k.d2, L.k.n01, L.k.n02, L.k.n12⟩,
    upd_same, by rw [upd_ne S.a.2.2.2]; exact L.a, by rw [upd_ne S.d.2.2.2]; exact L.d⟩
end
theorem sc_led : FnScope ["_law_rule", "_law_which", "_law_asks_here", "_law_rooms_here", "_law_places_here", "_law_turn", "_law_kept", "_law_lying", "_law_left", "_law_k", "_law_name", "_law_pick"]
    ["_law_rule", "_law_which", "_law_asks_here", "_law_rooms_here", "_law_places_here", "_law_turn"] (defScope sLawLed) := ⟨rfl, rfl, rfl, by decide +kernel, rfl, by decide +kernel, by decide +kernel⟩
def spLed (P : Program) (w : World) (K : PySem.W.Frag) (mg : Str → Option Value) (base : Heap) : Sp := fun vs H Q _ => ∃ (wh : Nat) (asks : List Str) (turn : Int) (B : Bun P w K mg base wh asks turn) (rows : List Row3) (F : List Addr) (p a rd : Addr) (pl : Int),
  vs = [.ref p, .int (wh : Int), .ref a, .ref rd, .int pl, .int turn] ∧ wh < 5 ∧ B.R .zero F H p ∧ H a = some (.lst (asks.map V.str)) ∧ H rd = some (.dK (enc (roomsD rows))) ∧ a ∉ F ∧ rd ∉ F ∧ asks.length ≤ 60 ∧ 1 ≤ turn ∧
  (∀ z ∈ asks, z ∈ rows.map (·.1) ∧ lk (roomsD rows) z ≤ pl) ∧ ∀ H', Q (.bl true) H'
theorem ok_led (T : Txt K mg) : Cal P w K mg base 7 (He.ga K "_law_led") ["_law_rule", "_law_which", "_law_asks_here", "_law_rooms_here", "_law_places_here", "_law_turn"] (spLed P w K mg base) := by
  refine cal_of T.fLawLed sc_led (fun vs H Q E h => ?_) (fun _ _ _ _ _ _ us hl => match us, hl with | [_, _, _, _, _, _], _ => rfl) (fun cdv A outer st H vs Q E hr h => ?_)
  · obtain ⟨wh, asks, turn, B, rows, F, p, a, rd, pl, rfl, _⟩ := h; rfl
  · obtain ⟨wh, asks, turn, B, rows, F, p, a, rd, pl, rfl, hw, hR, ha, hd, naF, ndF, hl, ht, hall, k⟩ := h
    have hu := hu_of hr
    obtain ⟨fa, ma, ka⟩ := B.asked
    obtain ⟨fh, mh, kh⟩ := B.choice
    obtain ⟨fg, mg', kg⟩ := B.gone
    obtain ⟨fc, mc, kc⟩ := B.came
    have hcnt : ∀ h : wh = 3, Meth K B.C "counts" (Classical.choose (B.counts h)) ∧ Cal P w K mg base 4 (Classical.choose (B.counts h)) ["self"] (spCounts B.R) := fun h => Classical.choose_spec (B.counts h)
    refine ⟨_, pss_cons (ps_set (i := 6) sc_led.nd rfl (Or.inl rfl) (pe_lst (pa_cons pe_dnewK (pa_cons pe_dnewK (pa_cons pe_dnewK pa_nil)))))
      (pss_cons (ps_set (i := 7) sc_led.nd rfl (Or.inl rfl) (pe_lst pa_nil))
      (pss_cons (ps_set (i := 8) sc_led.nd rfl (Or.inl rfl) (pv 4))
      (pss_cons (ps_for PassesOwn.never rfl (pi_enum (by rfl) T.z_enumerate (pa_cons (pv 2) pa_nil)) (pg_tup rfl (pgs_cons (pg_name (i := 9) sc_led.nd rfl (Or.inl rfl)) (pgs_cons (pg_name (i := 10) sc_led.nd rfl (Or.inl rfl)) pgs_nil)))
        (pss_cons (ps_expr (pe_cal (ok_counted T) hr T.g_law_counted (pa_cons (pv 6) (pa_cons (pv 10) (pa_cons (pe_op op_add (pv 9) pe_int) (pa_cons (pv 5) pa_nil))))))
        (pss_cons (ps_expr (pe_me B.cl ma ka hr (pv 0) (pa_cons (pv 10) pa_nil)))
        (pss_cons (ps_if (PW.pt (pw_and (pt_cmpR op_eq (pv 1) pe_int (nomark _)) (pw_and1 (pt_when (c := wh = 3) fun h3 => pt_cmpR (op_ne_dictA hr.units0) (pe_me0 B.cl (hcnt h3).1 (hcnt h3).2 hr (pv 0)) (pe_ix ix_list (pv 6) pe_int (fun _ _ => rfl)) (nomark _))))) pss_never pss_nil)
        (pss_cons (ps_if (pt_not (pt_val (pe_cal (ok_all T) hr T.g_law_all_ranks (pa_cons (pv 0) (pa_cons (pv 1) (pa_cons (pv 6) (pa_cons (pv 2) (pa_cons (pe_op op_add (pv 9) pe_int)
            (pa_cons (pe_callTy (call_list_dK rfl) (by rfl) T.z_list (by decide +kernel) (pa_cons (pv 3) pa_nil)) pa_nil))))))))) pss_never pss_nil)
        (pss_cons (ps_while PassesOwn.never (PW.pt (pw_and (pt_cmpR op_notIn_seq (pv 10) (pv 7) (by rfl)) (pw_and1 (pt_cmpR op_lt (pv 8) (pe_dget hu (pv 3) (pv 10) (fun _ _ => rfl)) (nomark _)))))
          (pss_cons (ps_set (i := 11) sc_led.nd rfl (Or.inl rfl) (pe_me B.cl mh kh hr (pv 0) (pa_cons (pe_callTy call_list_of (by rfl) T.z_list (by decide +kernel) (pa_cons (pv 7) pa_nil)) pa_nil)))
          (pss_cons (ps_if (pt_not (pt_val (pe_cal (ok_least T) hr T.g_law_least (pa_cons (pv 0) (pa_cons (pv 11) (pa_cons (pv 7) pa_nil)))))) pss_never pss_nil)
          (pss_cons (ps_expr (pe_bm PySem.F.plainAttrs_list PySem.F.slot_list_remove PySem.F.type_list_remove mt_removeS (pv 7) (pa_cons (pv 11) pa_nil)))
          (pss_cons (ps_set (i := 8) sc_led.nd rfl (Or.inl rfl) (pe_op op_add (pv 8) (pe_dget hu (pv 3) (pv 11) (fun _ _ => rfl))))
          (pss_one (ps_expr (pe_me B.cl mg' kg hr (pv 0) (pa_cons (pv 11) pa_nil)))))))))
        (pss_one (ps_if (pt_cmpR op_notIn_seq (pv 10) (pv 7) (by rfl))
          (pss_cons (ps_expr (pe_bm PySem.F.plainAttrs_list PySem.F.slot_list_append PySem.F.type_list_append mt_append (pv 7) (pa_cons (pv 10) pa_nil)))
          (pss_cons (ps_set (i := 8) sc_led.nd rfl (Or.inl rfl) (pe_op op_sub (pv 8) (pe_dget hu (pv 3) (pv 10) (fun _ _ => rfl))))
          (pss_cons (ps_expr (pe_me B.cl mc kc hr (pv 0) (pa_cons (pv 10) pa_nil)))
          (pss_one (ps_dput hu (pe_ix ix_list (pv 6) pe_int (fun _ _ => rfl)) (pv 10) (pe_op op_add (pv 9) pe_int) rfl))))) pss_nil))))))))
      (pss_one (ps_ret pe_bl))))), ?_⟩
    -- kept = [{}, {}, {}]; lying = []; left = places
    intro k0 hk0 k1 hk1 k2 hk2
    have n01 : k0 ≠ k1 := fun q => by rw [← q, upd_same] at hk1; cases hk1
    have hk1' : H k1 = none := by rw [upd_ne n01.symm] at hk1; exact hk1
    have n12 : k1 ≠ k2 := fun q => by rw [← q, upd_same] at hk2; cases hk2
    have hk2a : (upd H k0 (.dK [])) k2 = none := by rw [upd_ne n12.symm] at hk2; exact hk2
    have n02 : k0 ≠ k2 := fun q => by rw [← q, upd_same] at hk2a; cases hk2a
    have hk2' : H k2 = none := by rw [upd_ne n02.symm] at hk2a; exact hk2a
    refine ⟨(by show 3 ≤ sizeLine; decide), fun kp hkp => ?_⟩
    have g0 : (upd (upd (upd H k0 (.dK [])) k1 (.dK [])) k2 (.dK [])) k0 = some (.dK []) := by rw [upd_ne n02, upd_ne n01]; exact upd_same
    have g1 : (upd (upd (upd H k0 (.dK [])) k1 (.dK [])) k2 (.dK [])) k1 = some (.dK []) := by rw [upd_ne n12]; exact upd_same
    have g2 : (upd (upd (upd H k0 (.dK [])) k1 (.dK [])) k2 (.dK [])) k2 = some (.dK []) := upd_same
    have sA : Same H (upd (upd (upd H k0 (.dK [])) k1 (.dK [])) k2 (.dK [])) := Same.updN (Same.updN (same_upd hk0) hk1') hk2'
    generalize upd (upd (upd H k0 (.dK [])) k1 (.dK [])) k2 (.dK []) = HA at hkp g0 g1 g2 sA ⊢
    have npk0 : kp ≠ k0 := (ne_of_none g0 hkp).symm
    have npk1 : kp ≠ k1 := (ne_of_none g1 hkp).symm
    have npk2 : kp ≠ k2 := (ne_of_none g2 hkp).symm
    have hkp0 : H kp = none := sA.free hkp
    have sB : Same H (upd HA kp (.lst [.ref k0, .ref k1, .ref k2])) := Same.updN sA hkp0
    have gl : (upd HA kp (.lst [.ref k0, .ref k1, .ref k2])) kp = some (.lst [.ref k0, .ref k1, .ref k2]) := upd_same
    have g0' : (upd HA kp (.lst [.ref k0, .ref k1, .ref k2])) k0 = some (.dK []) := by rw [upd_ne npk0.symm]; exact g0
    have g1' : (upd HA kp (.lst [.ref k0, .ref k1, .ref k2])) k1 = some (.dK []) := by rw [upd_ne npk1.symm]; exact g1
    have g2' : (upd HA kp (.lst [.ref k0, .ref k1, .ref k2])) k2 = some (.dK []) := by rw [upd_ne npk2.symm]; exact g2
    show tAsg (tLst tNil) _ _ _ _
    generalize upd HA kp (.lst [.ref k0, .ref k1, .ref k2]) = HB at sB gl g0' g1' g2' ⊢
    refine ⟨Nat.zero_le _, fun ly hly => ?_⟩
    have nyp : ly ≠ kp := (ne_of_none gl hly).symm
    have ny0 : ly ≠ k0 := (ne_of_none g0' hly).symm
    have ny1 : ly ≠ k1 := (ne_of_none g1' hly).symm
    have ny2 : ly ≠ k2 := (ne_of_none g2' hly).symm
    have hly0 : H ly = none := sB.free hly
    have S : Sep F kp k0 k1 k2 ly a rd := ⟨fun b hb => by
        obtain ⟨o, ho⟩ := Option.ne_none_iff_exists'.mp (B.occ hR b hb)
        exact ⟨ne_of_none ho hkp0, ne_of_none ho hk0, ne_of_none ho hk1', ne_of_none ho hk2', ne_of_none ho hly0, fun q => naF (by rw [← q]; exact hb), fun q => ndF (by rw [← q]; exact hb)⟩,
      ⟨ne_of_none ha hk0, ne_of_none ha hk1', ne_of_none ha hk2', ne_of_none ha hly0⟩, ⟨ne_of_none hd hk0, ne_of_none hd hk1', ne_of_none hd hk2', ne_of_none hd hly0⟩, ⟨ny0, ny1, ny2, nyp⟩⟩
    have sC : Same H (upd HB ly (.lst [])) := Same.updN sB hly0
    have L0 : LedAt B rows F p kp k0 k1 k2 ly a rd (upd HB ly (.lst [])) .zero [] := ⟨B.same hR sC, ⟨by rw [upd_ne nyp.symm]; exact gl, by rw [upd_ne ny0.symm]; exact g0', by rw [upd_ne ny1.symm]; exact g1', by rw [upd_ne ny2.symm]; exact g2', n01, n02, n12⟩,
      upd_same, sC _ _ ha, sC _ _ hd⟩
    refine ⟨_, rfl, ?_⟩
    generalize upd HB ly (.lst []) = HC at L0 sC ⊢
    -- the loop over the asks
    refine ⟨_, rfl, a, _, rfl, SqL.of L0.a, for_it (walk_enum (K := K) (a := a) (xs := asks.map V.str)) (fun i σ H2 => ∃ (s : RS) (zs : List Str) (v9 v10 v11 : Option V),
        σ = [some (.ref p), some (.int (wh : Int)), some (.ref a), some (.ref rd), some (.int pl), some (.int turn), some (.ref kp), some (.ref ly), some (.int (pl - sumR (roomsD rows) zs)), v9, v10, v11] ∧
        s.now = i ∧ s.Le (2 * i) ∧ (keys s.T).Nodup ∧ zs.length ≤ i ∧ (∀ y ∈ zs, y ∈ rows.map (·.1)) ∧ LedAt B rows F p kp k0 k1 k2 ly a rd H2 s zs)
      ⟨.zero, [], none, none, none, by simp [sumR, L2.start], rfl, ⟨Nat.le_refl _, Nat.le_refl _, Nat.le_refl _⟩, List.nodup_nil, Nat.le_refl _, fun y h => absurd h List.not_mem_nil, L0⟩ (fun i σ H2 _ ⟨_, _, _, _, _, _, _, _, _, _, _, L⟩ => SqL.of L.a) ?_ ?_⟩
    · rintro i x σ H2 H3 hi ⟨s, zs, v9, v10, v11, rfl, rfl, hle, hnd, hzl, hzs, L⟩ ⟨t, x1, x2, rfl, htn, rfl, e1, e2⟩
      cases e1
      obtain ⟨z, hz, rfl⟩ := str_at e2
      rw [List.length_map] at hi
      have hi60 : s.now < 60 := by omega
      obtain ⟨hzr, hzp⟩ := hall z (List.mem_of_getElem? hz)
      have hzk : z ∈ keys (roomsD rows) := by
        unfold keys roomsD
        rw [List.map_map]
        exact hzr
      have L3 := L.same (same_upd (o := .tup [.int ((s.now : Nat) : Int), .str z]) htn)
      refine ⟨t, [.int ((s.now : Nat) : Int), .str z], rfl, SqT.of upd_same, rfl, _, _, rfl, _, _, rfl, rfl, ?_⟩
      generalize upd H2 t (.tup [.int ((s.now : Nat) : Int), .str z]) = H4 at L3 ⊢
      have hle9 : s.Le 900 := ⟨Nat.le_trans hle.l (by omega), Nat.le_trans hle.w (by omega), Nat.le_trans hle.t (by omega)⟩
      -- _law_counted
      refine ⟨_, rfl, _, rfl, _, rfl, _, _, rfl, rfl, _, rfl, kp, k0, k1, k2, s, z, turn, rfl, L3.k, hle9, ht, fun H5 K5 b5 => ?_⟩
      have R5 : B.R s F H5 p := B.keep L3.r fun b hb o e => b5 b o e (by simp [(S.f b hb).2.1, (S.f b hb).2.2.2.1])
      have y5 := b5 _ _ L3.y (by simp [S.y.1, S.y.2.2.1])
      have a5 := b5 _ _ L3.a (by simp [S.a.1, S.a.2.2.1])
      have d5 := b5 _ _ L3.d (by simp [S.d.1, S.d.2.2.1])
      -- rule.asked
      obtain ⟨dx, fs, hp5, hn1, _⟩ := B.look R5
      refine ⟨_, rfl, p, dx, fs, rfl, hp5, hn1, _, rfl, s, F, p, z, rfl, R5, hle9, fun H6 R6 b6 => ?_⟩
      have nF := S.nF
      have L6 : LedAt B rows F p kp k0 k1 k2 ly a rd H6 (s.asked turn z) zs := ⟨R6, ⟨b6 _ _ K5.l nF.1, b6 _ _ K5.d0 nF.2.1, b6 _ _ K5.d1 nF.2.2.1, b6 _ _ K5.d2 nF.2.2.2.1, K5.n01, K5.n02, K5.n12⟩, b6 _ _ y5 nF.2.2.2.2.1, b6 _ _ a5 nF.2.2.2.2.2.1, b6 _ _ d5 nF.2.2.2.2.2.2⟩
      have nd6 := asked_nd (s := s) turn z hnd
      have le6 : (s.asked turn z).Le (2 * s.now + 1) := hle.asked turn z
      have now6 : ((s.asked turn z).now : Int) = (s.now : Int) + 1 := by
        show ((s.now + 1 : Nat) : Int) = _
        omega
      have nowN : (s.asked turn z).now = s.now + 1 := rfl
      generalize s.asked turn z = s6 at L6 nd6 le6 now6 nowN R6 K5 ⊢
      -- the counts
      try dsimp only
      refine seq_no (fun H' => Same H6 H') (fun Y hY => ?_) (fun H7 s7 => ?_)
      · refine ⟨_, rfl, rfl, _, rfl, ite2D (fun h3 => ?_) (fun h3 => hY _ (Same.refl _))⟩
        have h3' : wh = 3 := by have := V.int.inj h3; omega
        obtain ⟨dx6, fs6, hp6, _, _, _, _, _, hn6⟩ := B.look L6.r
        refine ⟨h3', _, rfl, p, dx6, fs6, rfl, hp6, hn6, s6, F, p, rfl, L6.r, fun H7 q s7 hq gq => ?_⟩
        refine ⟨_, rfl, kp, _, _, _, rfl, rfl, SqL.of (s7 _ _ L6.k.l), at_of (j := 2) rfl rfl, q, k2, _, _, rfl, rfl, gq, s7 _ _ L6.k.d2, rfl, enc_self nd6, _, rfl, ?_⟩
        exact hY _ s7
      -- all ranks
      have L7 := L6.same s7
      clear L6 s7
      try dsimp only
      refine seq_no (fun H' => Same H7 H') (fun Y hY => ?_) (fun H8 s8 => ?_)
      · refine ⟨_, rfl, _, rfl, _, rfl, _, rfl, _, rfl, _, _, rfl, rfl, _, rfl, rd, _, rfl, L7.d, fun q hq => ?_⟩
        rw [keysV]
        have sq : Same H7 (upd H7 q (.lst ((keys (roomsD rows)).map V.str))) := same_upd hq
        refine ⟨wh, asks, turn, B, s6, F, p, kp, k0, k1, k2, a, q, keys (roomsD rows), by rw [now6]; rfl, hw, B.same L7.r sq, L7.k.same sq, SqL.of (sq _ _ L7.a), SqL.of upd_same, by omega, by omega, fun H8 s8 => ?_⟩
        exact ⟨true, rfl, hY _ (sq.trans s8)⟩
      have L8 := L7.same s8
      clear L7 s8
      -- the while
      try dsimp only
      refine seq_while (fun m σ H' => ∃ (ys : List Str) (v : Option V), m = ys.length ∧ ys.length ≤ zs.length ∧ (∀ y ∈ ys, y ∈ rows.map (·.1)) ∧
          σ = [some (.ref p), some (.int (wh : Int)), some (.ref a), some (.ref rd), some (.int pl), some (.int turn), some (.ref kp), some (.ref ly), some (.int (pl - sumR (roomsD rows) ys)), some (.int (s.now : Int)), some (.str z), v] ∧
          LedAt B rows F p kp k0 k1 k2 ly a rd H' s6 ys) ⟨zs.length, zs, v11, rfl, Nat.le_refl _, hzs, rfl, L8⟩ ?_ ?_
      · rintro m σ H9 ⟨ys, v, rfl, hyl, hys, rfl, L9⟩ Y hY
        refine ⟨_, rfl, _, rfl, ly, _, rfl, .inl (SqL.of L9.y), rfl, flat_strs ys, _, rfl, ?_⟩
        rw [inV_strs]
        by_cases hzy : z ∈ ys
        · rw [decide_eq_true hzy]
          exact iteF hY
        · rw [decide_eq_false hzy]
          refine iteT ?_
          refine ⟨_, rfl, _, rfl, _, rfl, rd, _, rfl, (by rw [← has_enc hzk]; exact DGet.k (k := Sum.inr z) L9.d), _, _, rfl, rfl, _, rfl, ite2D (fun hlt => ?_) (fun _ => hY)⟩
          -- something lies there
          have hne : 1 ≤ ys.length := by
            cases ys with
            | nil =>
              have e0 : sumR (roomsD rows) [] = 0 := rfl
              rw [e0] at hlt
              omega
            | cons y r => simp
          refine ⟨fun σ' H' => ∃ (us : List Str) (v : Option V), us.length < ys.length ∧ (∀ y ∈ us, y ∈ rows.map (·.1)) ∧
              σ' = [some (.ref p), some (.int (wh : Int)), some (.ref a), some (.ref rd), some (.int pl), some (.int turn), some (.ref kp), some (.ref ly), some (.int (pl - sumR (roomsD rows) us)), some (.int (s.now : Int)), some (.str z), v] ∧
              LedAt B rows F p kp k0 k1 k2 ly a rd H' s6 us, fun σ' H' ⟨us, v, h1, h2, h3, h4⟩ => ⟨us.length, h1, us, v, rfl, by omega, h2, h3, h4⟩, ?_⟩
          -- pick = rule.choice(list(lying))
          obtain ⟨dx9, fs9, hp9, _, _, hn9, _⟩ := B.look L9.r
          refine ⟨_, rfl, p, dx9, fs9, rfl, hp9, hn9, _, rfl, ly, _, rfl, .inl (SqL.of L9.y), fun q hq => ?_⟩
          have sq : Same H9 (upd H9 q (.lst (ys.map V.str))) := same_upd hq
          refine ⟨s6, F, p, q, ys, rfl, B.same L9.r sq, SqL.of upd_same, hne, fun HA pk sA hpk hmin => ?_⟩
          have LA := (L9.same sq).same sA
          -- _law_least
          try dsimp only
          refine seq_no (fun H' => Same HA H') (fun Y2 hY2 => ?_) (fun HB sB => ?_)
          · exact ⟨_, rfl, _, rfl, _, rfl, wh, asks, turn, B, s6, F, p, ly, ys, pk, rfl, LA.r, SqL.of LA.y, hpk, hmin, fun H' s' => ⟨true, rfl, hY2 _ s'⟩⟩
          have LB := LA.same sB
          -- lying.remove(pick)
          obtain ⟨j, hj, hjn⟩ := first_in hpk
          have hpr : pk ∈ rows.map (·.1) := hys pk hpk
          have hpkk : pk ∈ keys (roomsD rows) := by
            unfold keys roomsD
            rw [List.map_map]
            exact hpr
          refine ⟨_, rfl, .inl ⟨rfl, _, SqL.of LB.y⟩, _, rfl, ly, ys, pk, j, rfl, rfl, LB.y, hj, hjn, ?_⟩
          have LC := LB.lying S (ys.eraseIdx j)
          generalize upd HB ly (.lst ((ys.eraseIdx j).map V.str)) = HC2 at LC ⊢
          refine ⟨_, rfl, _, rfl, _, rfl, rd, _, rfl, (by rw [← has_enc hpkk]; exact DGet.k (k := Sum.inr pk) LC.d), _, _, rfl, rfl, ?_⟩
          obtain ⟨dxc, fsc, hpc, _, _, _, hnc, _⟩ := B.look LC.r
          refine ⟨_, rfl, p, dxc, fsc, rfl, hpc, hnc, _, rfl, _, _, rfl, ?_⟩
          have hjl : j < ys.length := (List.getElem?_eq_some_iff.mp hj).1
          refine ⟨ys.eraseIdx j, some (.str pk), by rw [List.length_eraseIdx_of_lt hjl]; omega, fun y hy => hys y (List.mem_of_mem_eraseIdx hy), ?_, LC⟩
          have e : pl - sumR (roomsD rows) ys + lk (roomsD rows) pk = pl - sumR (roomsD rows) (ys.eraseIdx j) := by
            rw [sumR_erase _ hj]
            omega
          rw [← e]
          rfl
      · rintro m σ H9 ⟨ys, v, rfl, hyl, hys, rfl, L9⟩
        refine ⟨_, rfl, _, rfl, ly, _, rfl, .inl (SqL.of L9.y), rfl, flat_strs ys, _, rfl, ?_⟩
        rw [inV_strs]
        by_cases hzy : z ∈ ys
        · rw [decide_eq_true hzy]
          refine iteF ?_
          exact ⟨s6, ys, _, _, _, rfl, nowN, ⟨Nat.le_trans le6.l (by omega), Nat.le_trans le6.w (by omega), Nat.le_trans le6.t (by omega)⟩, nd6, by omega, hys, L9⟩
        · rw [decide_eq_false hzy]
          refine iteT ?_
          -- lying.append(name)
          refine ⟨_, rfl, .inl ⟨rfl, _, SqL.of L9.y⟩, _, rfl, ly, _, _, rfl, rfl, L9.y, small1000 (by rw [List.length_map]; omega), ?_⟩
          have eL : ys.map V.str ++ [V.str z] = (ys ++ [z]).map V.str := by rw [List.map_append]; rfl
          rw [eL]
          have LA := L9.lying S (ys ++ [z])
          generalize upd H9 ly (.lst ((ys ++ [z]).map V.str)) = HA at LA ⊢
          -- left = left - rooms[name]
          refine ⟨_, rfl, _, rfl, _, rfl, rd, _, rfl, (by rw [← has_enc hzk]; exact DGet.k (k := Sum.inr z) LA.d), _, _, rfl, rfl, ?_⟩
          -- rule.came(name)
          obtain ⟨dxc, fsc, hpc, _, _, _, _, hnc, _⟩ := B.look LA.r
          have le69 : s6.Le 900 := ⟨Nat.le_trans le6.l (by omega), Nat.le_trans le6.w (by omega), Nat.le_trans le6.t (by omega)⟩
          refine ⟨_, rfl, p, dxc, fsc, rfl, hpc, hnc, _, rfl, s6, F, p, z, rfl, LA.r, le69, fun HB RB bB => ?_⟩
          have nF := S.nF
          have kl := bB _ _ LA.k.l nF.1
          have kd1 := bB _ _ LA.k.d1 nF.2.2.1
          -- kept[1][name] = k + 1
          refine ⟨_, rfl, _, _, rfl, rfl, _, rfl, kp, _, _, _, rfl, rfl, SqL.of kl, at_of (j := 1) rfl rfl, _, rfl, k1, _, rfl, DPut.k (k := Sum.inr z) kd1 (small1000 (by rw [enc_len]; exact Nat.le_trans le69.w (by decide))), ?_⟩
          rw [put_enc]
          have nk1p : kp ≠ k1 := ne_of kl kd1 (by intro q; cases q)
          refine ⟨s6.came z, ys ++ [z], some (.int (s.now : Int)), some (.str z), v, ?_, nowN, ?_, nd6, by rw [List.length_append]; simp; omega, fun y hy => ?_, ?_⟩
          · have e : pl - sumR (roomsD rows) ys - lk (roomsD rows) z = pl - sumR (roomsD rows) (ys ++ [z]) := by
              rw [sumR_snoc]
              omega
            rw [← e]
            rfl
          · have q := le6.came z
            exact ⟨Nat.le_trans q.l (by omega), Nat.le_trans q.w (by omega), Nat.le_trans q.t (by omega)⟩
          · rcases List.mem_append.mp hy with q | q
            · exact hys y q
            · rw [List.mem_singleton.mp q]; exact hzr
          · refine ⟨B.keep RB fun b hb o e => by rw [upd_ne (S.f b hb).2.2.1]; exact e, ⟨by rw [upd_ne nk1p]; exact kl, by rw [upd_ne LA.k.n01]; exact bB _ _ LA.k.d0 nF.2.1, ?_, by rw [upd_ne LA.k.n12.symm]; exact bB _ _ LA.k.d2 nF.2.2.2.1, LA.k.n01, LA.k.n02, LA.k.n12⟩,
              by rw [upd_ne S.y.2.1]; exact bB _ _ LA.y nF.2.2.2.2.1, by rw [upd_ne S.a.2.1]; exact bB _ _ LA.a nF.2.2.2.2.2.1, by rw [upd_ne S.d.2.1]; exact bB _ _ LA.d nF.2.2.2.2.2.2⟩
            rw [upd_same]
            show some (HO.dK (enc (put s6.W z ((s.now : Int) + 1)))) = some (HO.dK (enc (put s6.W z (s6.now : Int))))
            rw [now6]
    · rintro σ H2 ⟨s, zs, v9, v10, v11, rfl, _⟩
      exact k H2
end
end K29
/-! The names that the law draws: plain lists of codes. -/
namespace K29
open PySem PySem.Spec PyProof.Rows L2
def mk (l : List Nat) : Str := ⟨l.toArray⟩
theorem mk_codes (l : List Nat) : (mk l).cps.toList = l := by simp [mk]
theorem mk_len (l : List Nat) : (mk l).length = l.length := by
  show (mk l).cps.size = l.length
  simp [mk]
theorem mk_of (z : Str) : mk z.cps.toList = z := by
  obtain ⟨c⟩ := z
  simp [mk]
theorem mk_add (a b : List Nat) : mk a ++ mk b = mk (a ++ b) := by
  show (⟨(mk a).cps ++ (mk b).cps⟩ : Str) = mk (a ++ b)
  simp [mk]
theorem mk_inj {a b : List Nat} (h : mk a = mk b) : a = b := by rw [← mk_codes a, h, mk_codes]
theorem cut_to (l : List Nat) (k : Nat) : cutS (mk l) none (some (k : Int)) = mk (l.take k) := by
  unfold cutS
  rw [mk_codes, mk_len, HT.sIx_none, HT.sIx_nat, List.drop_zero, Nat.sub_zero]
  show mk (l.take (min k l.length)) = mk (l.take k)
  congr 1
  by_cases h : k ≤ l.length
  · rw [Nat.min_eq_left h]
  · rw [Nat.min_eq_right (by omega), List.take_length, List.take_of_length_le (by omega)]
theorem cut_from (l : List Nat) (k : Nat) : cutS (mk l) (some (k : Int)) none = mk (l.drop k) := by
  unfold cutS
  rw [mk_codes, mk_len, HT.sIx_none, HT.sIx_nat]
  show mk ((l.drop (min k l.length)).take (l.length - min k l.length)) = mk (l.drop k)
  congr 1
  by_cases h : k ≤ l.length
  · rw [Nat.min_eq_left h, List.take_of_length_le (by rw [List.length_drop]; omega)]
  · rw [Nat.min_eq_right (by omega), Nat.sub_self, List.take_zero, List.drop_eq_nil_of_le (by omega)]
/-! ### the signs -/
def SG : Str := "abcdefghijklmnopqrstuvwxyz0123456789"
def sg (j : Nat) : Nat := SG.cps.toList.getD j 0
theorem SG_len : SG.cps.toList.length = 36 := by decide +kernel
theorem sg_at {x : Int} (h0 : 0 ≤ x) (h1 : x < 36) : atI SG.cps.toList x = some (sg x.toNat) := by
  have e : x = ((x.toNat : Nat) : Int) := by omega
  rw [e]
  refine atI_nat ?_
  have hl : x.toNat < SG.cps.toList.length := by rw [SG_len]; omega
  rw [List.getElem?_eq_getElem hl]
  unfold sg
  rw [(List.getD_eq_getElem?_getD)]
  simp only [Int.toNat_natCast]
  rw [List.getElem?_eq_getElem hl]
  rfl
def Aln (c : Nat) : Prop := c ∈ LET.cps.toList ∨ c ∈ FIG.cps.toList
theorem sg_letter : ∀ j, j < 26 → sg j ∈ LET.cps.toList := by decide +kernel
theorem sg_aln' : ∀ j, j < 36 → sg j ∈ LET.cps.toList ∨ sg j ∈ FIG.cps.toList := by decide +kernel
theorem sg_aln (j : Nat) (h : j < 36) : Aln (sg j) := sg_aln' j h
theorem sg_val : ∀ j, j < 26 → sg j = 97 + j := by decide +kernel
theorem zz_aln : Aln 122 := .inl (by decide +kernel)
theorem mod26 (x : Int) : 0 ≤ x % 26 ∧ x % 26 < 26 := ⟨Int.emod_nonneg _ (by decide), Int.emod_lt_of_pos _ (by decide)⟩
theorem mod36 (x : Int) : 0 ≤ x % 36 ∧ x % 36 < 36 := ⟨Int.emod_nonneg _ (by decide), Int.emod_lt_of_pos _ (by decide)⟩
theorem sg26 (x : Int) : sg (x % 26).toNat ∈ LET.cps.toList := sg_letter _ (by have := mod26 x; omega)
theorem sg26_inj {x y : Int} (h : sg (x % 26).toNat = sg (y % 26).toNat) : x % 26 = y % 26 := by
  have h1 := mod26 x
  have h2 := mod26 y
  rw [sg_val _ (by omega), sg_val _ (by omega)] at h
  omega
theorem nm_of {l : List Nat} (h1 : 1 ≤ l.length) (h2 : l.length ≤ 8) (h3 : ∀ c ∈ l, Aln c) (h4 : ∃ c, l[0]? = some c ∧ c ∈ LET.cps.toList) : NmOk (mk l) := by
  refine ⟨by rw [mk_len]; exact h1, by rw [mk_len]; exact h2, by rw [mk_codes]; exact h3, ?_⟩
  obtain ⟨c, hc, hl⟩ := h4
  refine ⟨c, ?_, hl⟩
  rw [← Array.getElem?_toList, mk_codes]
  exact hc
theorem nodup_range {α : Type} (f : Nat → α) (n : Nat) (h : ∀ i j, i < n → j < n → i < j → f i ≠ f j) : ((List.range n).map f).Nodup := by
  unfold List.Nodup
  rw [List.pairwise_map]
  have := List.pairwise_lt_range (n := n)
  exact List.Pairwise.imp_of_mem (fun {a b} ha hb hab => h a b (List.mem_range.mp ha) (List.mem_range.mp hb) hab) this
/-! ### names that begin alike -/
def nmA (t : List Nat) (c : Int) (k : Nat) : List Nat := [sg ((c / 4 + ((k / 8 : Nat) : Int)) % 26).toNat] ++ t.take (k % 8)
theorem nmA_ok {t : List Nat} (ht : t.length = 7) (ha : ∀ x ∈ t, Aln x) (c : Int) (k : Nat) : NmOk (mk (nmA t c k)) := by
  have hl : (nmA t c k).length = 1 + k % 8 := by
    unfold nmA
    rw [List.length_append, List.length_take, ht]
    simp
    omega
  refine nm_of (by omega) (by omega) (fun x hx => ?_) ⟨_, rfl, sg26 _⟩
  rcases List.mem_append.mp hx with q | q
  · rw [List.mem_singleton.mp q]
    exact .inl (sg26 _)
  · exact ha x (List.mem_of_mem_take q)
theorem nmA_nd {t : List Nat} (ht : t.length = 7) (c : Int) {m : Nat} (hm : m ≤ 60) : ((List.range m).map fun k => mk (nmA t c k)).Nodup := by
  refine nodup_range _ _ fun i j hi hj hij h => ?_
  have e := mk_inj h
  unfold nmA at e
  have el := congrArg List.length e
  rw [List.length_append, List.length_append, List.length_take, List.length_take, ht] at el
  simp only [List.length_singleton] at el
  have e0 : sg ((c / 4 + ((i / 8 : Nat) : Int)) % 26).toNat = sg ((c / 4 + ((j / 8 : Nat) : Int)) % 26).toNat := (List.cons.inj e).1
  have e1 := sg26_inj e0
  omega
/-! ### names alike but at one place -/
def nmB (b : List Nat) (at_ : Nat) (c : Int) (k : Nat) : List Nat := b.take at_ ++ [sg ((c / 1296 + (k : Int)) % 26).toNat] ++ b.drop (at_ + 1) ++ [122, 122].take (k / 26)
theorem nmB_len {b : List Nat} {at_ : Nat} (h : at_ < b.length) (c : Int) {k : Nat} (hk : k < 60) : (nmB b at_ c k).length = b.length + k / 26 := by
  unfold nmB
  simp only [List.length_append, List.length_take, List.length_drop, List.length_singleton, List.length_cons, List.length_nil]
  omega
theorem nmB_at {b : List Nat} {at_ : Nat} (h : at_ < b.length) (c : Int) (k : Nat) : (nmB b at_ c k)[at_]? = some (sg ((c / 1296 + (k : Int)) % 26).toNat) := by
  unfold nmB
  rw [List.append_assoc, List.append_assoc, List.getElem?_append_right (by rw [List.length_take]; omega), List.length_take, Nat.min_eq_left (by omega), Nat.sub_self]
  rfl
theorem nmB_ok {b : List Nat} {at_ : Nat} (h : at_ < b.length) (hb : b.length ≤ 6) (ha : ∀ x ∈ b, Aln x) (h0 : ∃ x, b[0]? = some x ∧ x ∈ LET.cps.toList) (c : Int) {k : Nat} (hk : k < 60) : NmOk (mk (nmB b at_ c k)) := by
  have hl := nmB_len h c hk
  refine nm_of (by omega) (by omega) (fun x hx => ?_) ?_
  · unfold nmB at hx
    rcases List.mem_append.mp hx with q | q
    · rcases (List.mem_append.mp q) with q | q
      · rcases (List.mem_append.mp q) with q | q
        · exact ha x (List.mem_of_mem_take q)
        · rw [List.mem_singleton.mp q]
          exact .inl (sg26 _)
      · exact ha x (List.mem_of_mem_drop q)
    · have q2 := List.mem_of_mem_take q
      have : x = 122 := by simpa using q2
      rw [this]
      exact zz_aln
  · by_cases hz : at_ = 0
    · subst hz
      exact ⟨_, nmB_at h c k, sg26 _⟩
    · obtain ⟨x, hx, hxl⟩ := h0
      refine ⟨x, ?_, hxl⟩
      unfold nmB
      rw [List.append_assoc, List.append_assoc, List.getElem?_append_left (by rw [List.length_take]; omega), List.getElem?_take]
      rw [if_pos (by omega)]
      exact hx
theorem nmB_nd {b : List Nat} {at_ : Nat} (h : at_ < b.length) (c : Int) {m : Nat} (hm : m ≤ 60) : ((List.range m).map fun k => mk (nmB b at_ c k)).Nodup := by
  refine nodup_range _ _ fun i j hi hj hij hh => ?_
  have e := mk_inj hh
  have el := congrArg List.length e
  rw [nmB_len h c (by omega), nmB_len h c (by omega)] at el
  have ea := congrArg (fun l => l[at_]?) e
  have ea : (nmB b at_ c i)[at_]? = (nmB b at_ c j)[at_]? := ea
  rw [nmB_at h, nmB_at h] at ea
  have e1 := sg26_inj (Option.some.inj ea)
  omega
end K29
/-! The law's helpers that draw: cell, stream, names. -/
namespace K29
open PySem PySem.Spec PyProof.Rows L2
theorem seq_join {c : TT} {t u R : TS} {D : Ends} {σ : L2.St} {H : Hp} (G : L2.St → Hp → Prop) (h : ∀ Y : L2.St → Hp → Prop, (∀ σ' H', G σ' H' → Y σ' H') → tIfS c t u { D with nx := Y } σ H) (hr : ∀ σ' H', G σ' H' → R D σ' H') : tSeq (tIfS c t u) R D σ H := h (R D) hr
section
variable {P : Program} {w : World} {K : PySem.W.Frag} {mg : Str → Option Value} {base : Heap}
theorem sc_cell : FnScope ["_law_script", "_law_k"] ["_law_script", "_law_k"] (defScope sLawCell) := ⟨rfl, rfl, rfl, by decide +kernel, rfl, by decide +kernel, by decide +kernel⟩
def spCellK (K : PySem.W.Frag) : Sp := fun vs H Q _ => ∃ (a : Addr) (ns : List Int) (k : Nat), vs = [.ref a, .int (k : Int)] ∧ SqL K H a (ns.map V.int) ∧ ∀ v : Int, Q (.int v) H
theorem ok_cell (T : Txt K mg) : Cal P w K mg base 1 (He.ga K "_law_cell") ["_law_script", "_law_k"] (spCellK K) := by
  refine cal_of T.fLawCell sc_cell (fun vs H Q E h => ?_) (fun _ _ _ _ _ _ us hl => match us, hl with | [_, _], _ => rfl) (fun cdv A outer st H vs Q E hr h => ?_)
  · obtain ⟨a, ns, k, rfl, _⟩ := h; rfl
  · obtain ⟨a, ns, k, rfl, hS, q⟩ := h
    refine ⟨_, pss_cons (ps_if (pt_cmpR op_lt (pv 1) (pe_callB call_len_seq (by rfl) T.z_len PySem.boot_len (pa_cons (pv 0) pa_nil)) (nomark _)) (pss_one (ps_ret (pe_ix ix_list (pv 0) (pv 1) (fun _ _ => rfl)))) pss_nil) (pss_one (ps_ret pe_int)), ?_⟩
    refine ⟨_, rfl, _, rfl, a, _, rfl, .inl hS, _, _, rfl, rfl, _, rfl, ite2D (fun hlt => ?_) (fun hlt => q 0)⟩
    rw [List.length_map] at hlt
    have hk : k < ns.length := by omega
    refine ⟨_, rfl, _, rfl, a, _, _, _, rfl, rfl, hS, at_of (j := k) (v := .int ns[k]) rfl (by rw [List.getElem?_map, List.getElem?_eq_getElem hk]; rfl), q _⟩
theorem sc_stream : FnScope ["_law_cell_here", "_law_many", "_law_found", "_law_number", "_law_k"] ["_law_cell_here", "_law_many"] (defScope sLawStream) := ⟨rfl, rfl, rfl, by decide +kernel, rfl, by decide +kernel, by decide +kernel⟩
def spStream : Sp := fun vs H Q _ => ∃ (c : Int) (m : Nat), vs = [.int c, .int (m : Int)] ∧ m ≤ 900 ∧ ∀ H' p (xs : List Int), Same H H' → H p = none → H' p = some (.lst (xs.map V.int)) → xs.length = m → Q (.ref p) H'
theorem ok_stream (T : Txt K mg) : Cal P w K mg base 1 (He.ga K "_law_stream") ["_law_cell_here", "_law_many"] spStream := by
  refine cal_of T.fLawStream sc_stream (fun vs H Q E h => ?_) (fun _ _ _ _ _ _ us hl => match us, hl with | [_, _], _ => rfl) (fun cdv A outer st H vs Q E hr h => ?_)
  · obtain ⟨c, m, rfl, _⟩ := h; rfl
  · obtain ⟨c, m, rfl, hm, k⟩ := h
    refine ⟨_, pss_cons (ps_set (i := 2) sc_stream.nd rfl (Or.inl rfl) (pe_lst pa_nil))
      (pss_cons (ps_set (i := 3) sc_stream.nd rfl (Or.inl rfl) (pe_op op_add (pe_op op_mod (pv 0) pe_int) pe_int))
      (pss_cons (ps_for PassesOwn.never rfl (pi_range1 rfl T.z_range (pa_cons (pv 1) pa_nil)) (pg_name (i := 4) sc_stream.nd rfl (Or.inl rfl))
        (pss_cons (ps_set (i := 3) sc_stream.nd rfl (Or.inl rfl) (pe_op op_mod (pe_op op_add (pe_op op_add (pe_op op_mul (pv 3) pe_int) (pe_op op_mul pe_int (pv 4))) pe_int) pe_int))
        (pss_one (ps_expr (pe_bm PySem.F.plainAttrs_list PySem.F.slot_list_append PySem.F.type_list_append mt_append (pv 2) (pa_cons (pe_op op_fdiv (pv 3) pe_int) pa_nil))))))
      (pss_one (ps_ret (pv 2))))), ?_⟩
    refine ⟨Nat.zero_le _, fun p hp => ?_⟩
    refine ⟨_, rfl, _, _, rfl, rfl, (by show (0 : Int) < 2147483629; decide), _, _, rfl, rfl, ?_⟩
    refine ⟨_, rfl, (m : Int), rfl, by omega, by omega, ?_⟩
    rw [Int.toNat_natCast]
    refine for_range (lo := 0) (n := m) (fun i σ H2 => ∃ (n : Int) (xs : List Int) (v : Option V), σ = [some (.int c), some (.int (m : Int)), some (.ref p), some (.int n), v] ∧ H2 p = some (.lst (xs.map V.int)) ∧ xs.length = i ∧ Same H H2)
      ⟨_, [], none, rfl, upd_same, rfl, same_upd hp⟩ ?_ ?_
    · rintro i σ H2 hi ⟨n, xs, v, rfl, g, hl, s2⟩
      refine ⟨_, rfl, _, _, rfl, rfl, .inr ⟨by decide, by decide⟩, _, rfl, _, _, rfl, rfl, .inl ⟨by decide, by decide⟩, _, _, rfl, rfl, _, _, rfl, rfl, _, _, rfl, rfl, (by show (0 : Int) < 2147483647; decide), ?_⟩
      refine ⟨_, rfl, .inl ⟨rfl, _, SqL.of g⟩, _, rfl, _, _, rfl, rfl, ⟨by decide, by decide⟩, p, _, _, rfl, rfl, g, small1000 (by rw [List.length_map]; omega), ?_⟩
      exact ⟨_, xs ++ [_], _, rfl, by rw [upd_same, List.map_append]; rfl, by rw [List.length_append, hl]; rfl, Same.updN s2 hp⟩
    · rintro σ H2 ⟨n, xs, v, rfl, g, hl, s2⟩
      exact ⟨_, rfl, k H2 p xs s2 hp g hl⟩
/-! ### names -/
theorem joinL_flat : ∀ ys : List (List Nat), TL.joinL [] ys = ys.flatten
  | [] => rfl
  | [p] => by simp [TL.joinL]
  | p :: q :: r => by
    have ih := joinL_flat (q :: r)
    simp only [TL.joinL, ih, List.nil_append, List.flatten_cons]
theorem one_flat : ∀ t : List Nat, ((t.map fun c => (⟨#[c]⟩ : Str)).map fun z => z.cps.toList).flatten = t
  | [] => rfl
  | c :: r => by
    have ih := one_flat r
    simp only [List.map_cons, List.flatten_cons, ih]
    rfl
theorem join_mk (t : List Nat) : Txt.join "" (t.map fun c => (⟨#[c]⟩ : Str)) = mk t := by
  rw [TL.join_eq]
  have h : (Str.join "" (t.map fun c => (⟨#[c]⟩ : Str))).cps.toList = TL.joinL ("" : Str).cps.toList ((t.map fun c => (⟨#[c]⟩ : Str)).map fun z => z.cps.toList) := TL.tl_join "" (t.map fun c => (⟨#[c]⟩ : Str))
  have h2 : ("" : Str).cps.toList = [] := by decide +kernel
  rw [h2, joinL_flat, one_flat] at h
  rw [← mk_of (Str.join "" (t.map fun c => (⟨#[c]⟩ : Str))), h]
abbrev nNames : List Str := ["_law_cell_here", "_law_many", "_law_signs", "_law_k", "_law_tail", "_law_size", "_law_at", "_law_base", "_law_names_here", "_law_sign"]
theorem sc_names : FnScope nNames ["_law_cell_here", "_law_many"] (defScope sLawNames) := ⟨rfl, rfl, rfl, by decide +kernel, rfl, by decide +kernel, by decide +kernel⟩
def spNames : Sp := fun vs H Q _ => ∃ (c : Int) (m : Nat), vs = [.int c, .int (m : Int)] ∧ m ≤ 60 ∧ ∀ H' p (zs : List Str), Same H H' → H p = none → H' p = some (.lst (zs.map V.str)) → zs.length = m → zs.Nodup → (∀ z ∈ zs, NmOk z) → Q (.ref p) H'
theorem cut_toI (l : List Nat) {x : Int} (h : 0 ≤ x) : cutS (mk l) none (some x) = mk (l.take x.toNat) := by
  obtain ⟨k, rfl⟩ : ∃ k : Nat, x = (k : Int) := ⟨x.toNat, by omega⟩
  rw [cut_to, Int.toNat_natCast]
theorem cut_fromI (l : List Nat) {x : Int} (h : 0 ≤ x) : cutS (mk l) (some x) none = mk (l.drop x.toNat) := by
  obtain ⟨k, rfl⟩ : ∃ k : Nat, x = (k : Int) := ⟨x.toNat, by omega⟩
  rw [cut_from, Int.toNat_natCast]
theorem ones_sum : ∀ t : List Nat, ((t.map fun c => (⟨#[c]⟩ : Str)).map (·.length)).sum = t.length
  | [] => rfl
  | c :: r => by
    have ih := ones_sum r
    simp only [ih, List.map_cons, List.sum_cons, List.length_cons]
    show (1 + r.length) = (r.length + 1)
    omega
theorem range_snoc {α : Type} (f : Nat → α) (i : Nat) : (List.range (i + 1)).map f = (List.range i).map f ++ [f i] := by
  rw [List.range_succ, List.map_append]
  rfl
theorem yes_of {σ : L2.St} {H : Hp} {Q : Bool → Hp → Prop} (h : Q true H) : tYes σ H Q := h
theorem zz_mk : ("zz" : Str) = mk [122, 122] := by decide +kernel
theorem SG_small : SG.length ≤ sizeLine := by decide +kernel
theorem small60 {n : Nat} (h : n ≤ 1000) : n ≤ sizeLine := Nat.le_of_lt (small1000 h)
theorem add_mk {a b : List Nat} {H : Hp} {Q : VK} (hl : a.length + b.length ≤ 1000) (h : Q (.str (mk (a ++ b))) H) : (mk a).length + (mk b).length ≤ sizeLine ∧ Q (.str (mk a ++ mk b)) H := by
  rw [mk_len, mk_len, mk_add]
  exact ⟨small60 hl, h⟩
theorem ok_names (T : Txt K mg) : Cal P w K mg base 1 (He.ga K "_law_names") ["_law_cell_here", "_law_many"] spNames := by
  refine cal_of T.fLawNames sc_names (fun vs H Q E h => ?_) (fun _ _ _ _ _ _ us hl => match us, hl with | [_, _], _ => rfl) (fun cdv A outer st H vs Q E hr h => ?_)
  · obtain ⟨c, m, rfl, _⟩ := h; rfl
  · obtain ⟨c, m, rfl, hm, k⟩ := h
    refine ⟨_, pss_cons (ps_set (i := 2) sc_names.nd rfl (Or.inr rfl) pe_str)
      (pss_cons (ps_set (i := 4) sc_names.nd rfl (Or.inr rfl) (pe_join pe_str (pe_lc (own := [("_law_k", 3)]) (g := gName 3) (tt := tYes) rfl sc_names.nd (pi_range2 (by rfl) T.z_range (pa_cons pe_int (pa_cons pe_int pa_nil)))
          (blkOk_by (own := [("_law_k", 3)]) (N := nNames) (sc := defScope sLawNames) (by decide +kernel)) (fun _ _ _ _ _ => pg_name (i := 3) sc_names.nd rfl (Or.inl rfl)) (fun _ _ _ _ _ => pts_nil)
          (fun _ _ _ _ _ => pe_ix ix_str (pv 2) (pe_op op_mod (pe_op op_add (pe_op op_fdiv (pv 0) pe_int) (pe_op op_mul (pe_op op_mul pe_int (pv 3)) (pv 3))) pe_int) (fun _ _ => rfl)))))
      (pss_cons (ps_if (pt_cmpR op_eq (pe_op op_mod (pv 0) pe_int) pe_int (nomark _)) (pss_one (ps_ret (pe_lc (own := [("_law_k", 3)]) (g := gName 3) (tt := tYes) rfl sc_names.nd (pi_range1 rfl T.z_range (pa_cons (pv 1) pa_nil))
          (blkOk_by (own := [("_law_k", 3)]) (N := nNames) (sc := defScope sLawNames) (by decide +kernel)) (fun _ _ _ _ _ => pg_name (i := 3) sc_names.nd rfl (Or.inl rfl)) (fun _ _ _ _ _ => pts_nil)
          (fun _ _ _ _ _ => pe_op op_add_str (pe_ix ix_str (pv 2) (pe_op op_mod (pe_op op_add (pe_op op_fdiv (pv 0) pe_int) (pe_op op_fdiv (pv 3) pe_int)) pe_int) (fun _ _ => rfl)) (pe_slice sl_str (pv 4) po_none (po_some (pe_op op_mod (pv 3) pe_int))))))) pss_nil)
      (pss_cons (ps_set (i := 5) sc_names.nd rfl (Or.inl rfl) (pe_op op_add pe_int (pe_op op_mod (pe_op op_fdiv (pv 0) pe_int) pe_int)))
      (pss_cons (ps_set (i := 6) sc_names.nd rfl (Or.inl rfl) (pe_op op_mod (pe_op op_fdiv (pv 0) pe_int) (pv 5)))
      (pss_cons (ps_set (i := 7) sc_names.nd rfl (Or.inl rfl) (pe_op op_add_str (pe_ix ix_str (pv 2) (pe_op op_mod (pe_op op_fdiv (pv 0) pe_int) pe_int) (fun _ _ => rfl)) (pe_slice sl_str (pv 4) po_none (po_some (pe_op op_sub (pv 5) pe_int)))))
      (pss_cons (ps_set (i := 8) sc_names.nd rfl (Or.inl rfl) (pe_lst pa_nil))
      (pss_cons (ps_for PassesOwn.never rfl (pi_range1 rfl T.z_range (pa_cons (pv 1) pa_nil)) (pg_name (i := 3) sc_names.nd rfl (Or.inl rfl))
        (pss_cons (ps_set (i := 9) sc_names.nd rfl (Or.inl rfl) (pe_ix ix_str (pv 2) (pe_op op_mod (pe_op op_add (pe_op op_fdiv (pv 0) pe_int) (pv 3)) pe_int) (fun _ _ => rfl)))
        (pss_one (ps_expr (pe_bm PySem.F.plainAttrs_list PySem.F.slot_list_append PySem.F.type_list_append mt_append (pv 8) (pa_cons
          (pe_op op_add_str (pe_op op_add_str (pe_op op_add_str (pe_slice sl_str (pv 7) po_none (po_some (pv 6))) (pv 9)) (pe_slice sl_str (pv 7) (po_some (pe_op op_add (pv 6) pe_int)) po_none)) (pe_slice sl_str pe_str po_none (po_some (pe_op op_fdiv (pv 3) pe_int)))) pa_nil))))))
      (pss_one (ps_ret (pv 8)))))))))), ?_⟩
    -- tail
    refine ⟨⟨_, rfl⟩, 1, 8, rfl, ⟨by decide, by decide, by decide, by decide⟩, fun D hD => lc_range (lo := 1) (n := 7) (fun i H2 => ∃ t : List Nat, t.length = i ∧ (∀ x ∈ t, Aln x) ∧ H2 D = some (.lst ((t.map fun c => (⟨#[c]⟩ : Str)).map V.str)) ∧ Same H H2)
      ⟨[], rfl, fun x h => absurd h List.not_mem_nil, upd_same, same_upd hD⟩ ?_ ?_⟩
    · rintro i H2 hi ⟨t, hl, ha, g, s2⟩
      refine ⟨rfl, yes_of ?_⟩
      have h36 := mod36 (c / 36 + 5 * (1 + (i : Int)) * (1 + (i : Int)))
      refine ⟨_, rfl, _, rfl, _, _, rfl, rfl, ⟨by decide, by decide⟩, _, rfl, _, _, rfl, rfl, .inl ⟨by decide, by decide⟩, _, rfl, _, _, rfl, rfl, .inr ⟨by omega, by omega⟩, _, _, rfl, rfl, _, _, rfl, rfl, (by show (0 : Int) < 36; decide), SG, _, _, rfl, rfl, SG_small, sg_at h36.1 h36.2, ?_⟩
      refine ⟨_, g, small1000 (by rw [List.length_map, List.length_map]; omega), t ++ [sg ((c / 36 + 5 * (1 + (i : Int)) * (1 + (i : Int))) % 36).toNat], by rw [List.length_append, hl]; rfl, fun x hx => ?_, by rw [upd_same, List.map_append, List.map_append]; rfl, Same.updN s2 hD⟩
      rcases List.mem_append.mp hx with q | q
      · exact ha x q
      · rw [List.mem_singleton.mp q]
        exact sg_aln _ (by omega)
    · rintro H1 ⟨t, ht, ha, g, s1⟩
      refine ⟨"", D, _, rfl, rfl, .inl (SqL.of g), by rw [ones_sum, ht, List.length_map, ht]; decide +kernel, ?_⟩
      rw [join_mk]
      -- if cell % 4 == 3
      refine ⟨_, rfl, _, _, rfl, rfl, (by show (0 : Int) < 4; decide), rfl, _, rfl, ite2D (fun h3 => ?_) (fun h3 => ?_)⟩
      · refine ⟨_, rfl, (m : Int), rfl, by omega, by omega, ?_⟩
        rw [Int.toNat_natCast]
        intro D2 hD2
        have hD0 : H D2 = none := s1.free hD2
        refine lc_range (lo := 0) (n := m) (fun i H2 => H2 D2 = some (.lst (((List.range i).map fun k => mk (nmA t c k)).map V.str)) ∧ Same H H2) ⟨upd_same, Same.updN s1 hD0⟩ ?_ ?_
        · rintro i H2 hi ⟨g2, s2⟩
          refine ⟨rfl, yes_of ?_⟩
          have h26 := mod26 (c / 4 + (0 + (i : Int)) / 8)
          refine ⟨_, rfl, _, rfl, _, _, rfl, rfl, ⟨by decide, by decide⟩, _, rfl, _, _, rfl, rfl, ⟨by decide, by decide⟩, _, _, rfl, rfl, _, _, rfl, rfl, (by show (0 : Int) < 26; decide), SG, _, _, rfl, rfl, SG_small, sg_at h26.1 (by omega), ?_⟩
          have h8 : 0 ≤ (0 + (i : Int)) % 8 := Int.emod_nonneg _ (by decide)
          refine ⟨_, rfl, _, rfl, _, _, rfl, rfl, (by show (0 : Int) < 8; decide), _, rfl, mk t, rfl, by rw [mk_len, ht]; decide, ?_⟩
          have e8 : ((0 + (i : Int)) % 8).toNat = i % 8 := by omega
          rw [cut_toI t h8, e8]
          refine ⟨mk [sg ((c / 4 + (0 + (i : Int)) / 8) % 26).toNat], mk (t.take (i % 8)), rfl, rfl, ?_⟩
          have e4 : (0 + (i : Int)) / 8 = ((i / 8 : Nat) : Int) := by omega
          rw [e4]
          refine ⟨by rw [mk_len, mk_len]; exact small60 (by simp only [List.length_take, List.length_cons, List.length_nil, ht]; omega), ?_⟩
          rw [mk_add]
          refine ⟨_, g2, small1000 (by rw [List.length_map, List.length_map, List.length_range]; omega), ?_, Same.updN s2 hD0⟩
          rw [upd_same, range_snoc, List.map_append]
          rfl
        · rintro H2 ⟨g2, s2⟩
          refine k H2 D2 _ s2 hD0 g2 (by rw [List.length_map, List.length_range]) (nmA_nd ht c hm) fun z hz => ?_
          obtain ⟨i, _, e⟩ := List.mem_map.mp hz
          rw [← e]
          exact nmA_ok ht ha c i
      · -- size, at, base
        have h6 : 0 ≤ c / 4 % 6 ∧ c / 4 % 6 < 6 := ⟨Int.emod_nonneg _ (by decide), Int.emod_lt_of_pos _ (by decide)⟩
        refine ⟨_, rfl, _, _, rfl, rfl, ⟨by decide, by decide⟩, _, _, rfl, rfl, (by show (0 : Int) < 6; decide), _, _, rfl, rfl, ?_⟩
        have hS : ∃ S : Int, S = 1 + c / 4 % 6 := ⟨_, rfl⟩
        obtain ⟨S, eS⟩ := hS
        show (tSeq _ _) _ [some (.int c), some (.int (m : Int)), some (.str SG), none, some (.str (mk t)), some (.int (1 + c / 4 % 6)), none, none, none, none] H1
        rw [← eS]
        have hSl : 1 ≤ S := by omega
        have hSh : S ≤ 6 := by omega
        have hA : 0 ≤ c / 24 % S ∧ c / 24 % S < S := ⟨Int.emod_nonneg _ (by omega), Int.emod_lt_of_pos _ (by omega)⟩
        refine ⟨_, rfl, _, _, rfl, rfl, ⟨by decide, by decide⟩, _, rfl, _, _, rfl, rfl, (by show (0 : Int) < S; omega), ?_⟩
        obtain ⟨A, eA⟩ : ∃ A : Int, A = c / 24 % S := ⟨_, rfl⟩
        show (tSeq _ _) _ [some (.int c), some (.int (m : Int)), some (.str SG), none, some (.str (mk t)), some (.int S), some (.int (c / 24 % S)), none, none, none] H1
        rw [← eA] at hA ⊢
        have h26 := mod26 (c / 36)
        refine ⟨_, rfl, _, rfl, _, _, rfl, rfl, ⟨by decide, by decide⟩, _, _, rfl, rfl, (by show (0 : Int) < 26; decide), SG, _, _, rfl, rfl, SG_small, sg_at h26.1 (by omega), ?_⟩
        refine ⟨_, rfl, _, rfl, _, _, rfl, rfl, _, rfl, mk t, rfl, by rw [mk_len, ht]; decide, ?_⟩
        rw [cut_toI t (by omega)]
        refine ⟨mk [sg (c / 36 % 26).toNat], mk (t.take (S - 1).toNat), rfl, rfl, ?_⟩
        refine ⟨by rw [mk_len, mk_len]; exact small60 (by simp only [List.length_take, List.length_cons, List.length_nil, ht]; omega), ?_⟩
        rw [mk_add]
        obtain ⟨b, eb⟩ : ∃ b : List Nat, b = [sg (c / 36 % 26).toNat] ++ t.take (S - 1).toNat := ⟨_, rfl⟩
        rw [← eb]
        have hbl : b.length = S.toNat := by
          rw [eb, List.length_append, List.length_take, ht]
          simp
          omega
        have hba : ∀ x ∈ b, Aln x := fun x hx => by
          rw [eb] at hx
          rcases List.mem_append.mp hx with q | q
          · rw [List.mem_singleton.mp q]
            exact .inl (sg26 _)
          · exact ha x (List.mem_of_mem_take q)
        have hb0 : ∃ x, b[0]? = some x ∧ x ∈ LET.cps.toList := ⟨_, by rw [eb]; rfl, sg26 _⟩
        have hAt : A.toNat < b.length := by omega
        -- the loop
        refine ⟨Nat.zero_le _, fun p hp => ?_⟩
        have hp0 : H p = none := s1.free hp
        refine ⟨_, rfl, (m : Int), rfl, by omega, by omega, ?_⟩
        rw [Int.toNat_natCast]
        refine for_range (lo := 0) (n := m) (fun i σ H2 => ∃ v3 v9 : Option V, σ = [some (.int c), some (.int (m : Int)), some (.str SG), v3, some (.str (mk t)), some (.int S), some (.int A), some (.str (mk b)), some (.ref p), v9] ∧
            H2 p = some (.lst (((List.range i).map fun k => mk (nmB b A.toNat c k)).map V.str)) ∧ Same H H2) ⟨none, none, rfl, upd_same, Same.updN s1 hp0⟩ ?_ ?_
        · rintro i σ H2 hi ⟨v3, v9, rfl, g2, s2⟩
          have h26 := mod26 (c / 1296 + (0 + (i : Int)))
          refine ⟨_, rfl, _, rfl, _, _, rfl, rfl, ⟨by decide, by decide⟩, _, rfl, _, _, rfl, rfl, _, _, rfl, rfl, (by show (0 : Int) < 26; decide), SG, _, _, rfl, rfl, SG_small, sg_at h26.1 (by omega), ?_⟩
          have hbs : (mk b).length ≤ sizeLine := by rw [mk_len, hbl]; exact small60 (by omega)
          refine ⟨_, rfl, .inl ⟨rfl, _, SqL.of g2⟩, _, rfl, _, rfl, _, rfl, mk b, rfl, hbs, ?_⟩
          rw [cut_toI b hA.1]
          refine ⟨_, rfl, mk (b.take A.toNat), mk [sg ((c / 1296 + (0 + (i : Int))) % 26).toNat], rfl, rfl, by rw [mk_len, mk_len]; exact small60 (by simp only [List.length_append, List.length_take, List.length_drop, List.length_cons, List.length_nil]; omega), ?_⟩
          rw [mk_add]
          refine ⟨_, rfl, _, rfl, _, _, rfl, rfl, _, rfl, mk b, rfl, hbs, ?_⟩
          rw [cut_fromI b (by omega)]
          have eA1 : (A + 1).toNat = A.toNat + 1 := by omega
          rw [eA1]
          refine ⟨mk (b.take A.toNat ++ [sg ((c / 1296 + (0 + (i : Int))) % 26).toNat]), mk (b.drop (A.toNat + 1)), rfl, rfl, by rw [mk_len, mk_len]; exact small60 (by simp only [List.length_append, List.length_take, List.length_drop, List.length_cons, List.length_nil]; omega), ?_⟩
          rw [mk_add]
          refine ⟨_, rfl, _, _, rfl, rfl, ⟨by decide, by decide⟩, _, rfl, "zz", rfl, by decide, ?_⟩
          have h0 : 0 ≤ (0 + (i : Int)) / 26 := by omega
          rw [zz_mk, cut_toI _ h0]
          have e26 : ((0 + (i : Int)) / 26).toNat = i / 26 := by omega
          rw [e26]
          refine ⟨mk (b.take A.toNat ++ [sg ((c / 1296 + (0 + (i : Int))) % 26).toNat] ++ b.drop (A.toNat + 1)), mk ([122, 122].take (i / 26)), rfl, rfl, by rw [mk_len, mk_len]; exact small60 (by simp only [List.length_append, List.length_take, List.length_drop, List.length_cons, List.length_nil]; omega), ?_⟩
          rw [mk_add]
          refine ⟨p, _, _, rfl, rfl, g2, small1000 (by rw [List.length_map, List.length_map, List.length_range]; omega), ?_⟩
          refine ⟨_, _, rfl, ?_, Same.updN s2 hp0⟩
          have e0 : (0 + (i : Int)) = (i : Int) := by omega
          rw [upd_same, range_snoc, List.map_append, e0]
          rfl
        · rintro σ H2 ⟨v3, v9, rfl, g2, s2⟩
          refine ⟨_, rfl, k H2 p _ s2 hp0 g2 (by rw [List.length_map, List.length_range]) (nmB_nd hAt c hm) fun z hz => ?_⟩
          obtain ⟨i, hi, e⟩ := List.mem_map.mp hz
          rw [← e]
          exact nmB_ok hAt (by omega) hba hb0 c (by have := List.mem_range.mp hi; omega)
end
end K29
/-! The law's helpers that draw: rows, rooms, places, asks. -/
namespace K29
open PySem PySem.Spec PyProof.Rows L2
def rowsF (m : Nat) (zs : List Str) (xs : List Int) (W : Int) : List Row3 := (List.range m).map fun j => (zs.getD j "", xs.getD j 0 % 1000, 1 + xs.getD (m + j) 0 % W)
theorem rowsF_len (m : Nat) (zs : List Str) (xs : List Int) (W : Int) : (rowsF m zs xs W).length = m := by
  unfold rowsF
  rw [List.length_map]; rw [List.length_range]
theorem rowsF_names {m : Nat} {zs : List Str} (xs : List Int) (W : Int) (h : zs.length = m) : (rowsF m zs xs W).map (·.1) = zs := by
  unfold rowsF
  rw [List.map_map]
  refine List.ext_getElem (by rw [List.length_map, List.length_range, h]) fun i h1 h2 => ?_
  rw [List.getElem_map, List.getElem_range]
  show zs.getD i "" = zs[i]
  rw [List.getD_eq_getElem?_getD, List.getElem?_eq_getElem h2]
  rfl
theorem rowsF_ok {m : Nat} {zs : List Str} {xs : List Int} {W : Int} (h : zs.length = m) (h1 : 1 ≤ m) (h2 : m ≤ 60) (nd : zs.Nodup) (nm : ∀ z ∈ zs, NmOk z) (hW : 1 ≤ W ∧ W ≤ 1000) : RowsOk (rowsF m zs xs W) := by
  have e := rowsF_names xs W h
  refine ⟨by rw [e]; exact nd, fun r hr => nm _ (by rw [← e]; exact List.mem_map.mpr ⟨r, hr, rfl⟩), fun r hr => ?_, fun r hr => ?_, by rw [rowsF_len]; exact h1, by rw [rowsF_len]; exact h2⟩
  · obtain ⟨j, _, q⟩ := List.mem_map.mp hr
    rw [← q]
    show 0 ≤ xs.getD j 0 % 1000 ∧ xs.getD j 0 % 1000 ≤ 1000
    omega
  · obtain ⟨j, _, q⟩ := List.mem_map.mp hr
    rw [← q]
    show 1 ≤ 1 + xs.getD (m + j) 0 % W ∧ 1 + xs.getD (m + j) 0 % W ≤ 1000
    have a1 := Int.emod_nonneg (xs.getD (m + j) 0) (show W ≠ 0 by omega)
    have a2 := Int.emod_lt_of_pos (xs.getD (m + j) 0) (show 0 < W by omega)
    omega
theorem room_in {rows : List Row3} {z : Str} (h : z ∈ rows.map (·.1)) : ∃ r ∈ rows, lk (roomsD rows) z = r.2.2 := by
  have hk : z ∈ keys (roomsD rows) := by rw [rooms_keys]; exact h
  unfold lk
  cases e : (roomsD rows).find? fun p => decide (p.1 = z) with
  | none =>
    obtain ⟨p, hp, q⟩ := List.mem_map.mp hk
    have := List.find?_eq_none.mp e p hp
    simp [q] at this
  | some q =>
    have h1 := List.mem_of_find?_eq_some e
    obtain ⟨r, hr, q2⟩ := List.mem_map.mp h1
    exact ⟨r, hr, by rw [← q2]; rfl⟩
theorem sum_between : ∀ {l : List Int}, (∀ x ∈ l, 1 ≤ x ∧ x ≤ 1000) → (l.length : Int) ≤ l.sum ∧ l.sum ≤ 1000 * (l.length : Int)
  | [], _ => by simp
  | x :: r, h => by
    have ih := sum_between (l := r) fun y hy => h y (List.mem_cons_of_mem _ hy)
    have hx := h x (List.mem_cons_self ..)
    rw [List.sum_cons]; rw [List.length_cons]
    omega
theorem seq_asgC {v : V} {i : Nat} {R : TS} {D : Ends} {σ : L2.St} {H : Hp} (h : R D (σ.set i (some v)) H) : tSeq (tAsg (tC v) (gName i)) R D σ H := h
def rLenS (K : PySem.W.Frag) : List V → Hp → VK → Prop := fun xs H Q => ∃ p ys, xs = [V.ref p] ∧ (SqL K H p ys ∨ SqT K H p ys) ∧ Q (V.int (ys.length : Nat)) H
theorem lenS {X : Cx} : CallR X (.builtin "len") (rLenS X.K) := call_len_seq
section
variable {P : Program} {w : World} {K : PySem.W.Frag} {mg : Str → Option Value} {base : Heap}
abbrev nRows : List Str := ["_law_script", "_law_cell_here", "_law_many", "_law_names_here", "_law_wide", "_law_xs", "_law_k"]
theorem sc_rows : FnScope nRows ["_law_script"] (defScope sLawRows) := ⟨rfl, rfl, rfl, by decide +kernel, rfl, by decide +kernel, by decide +kernel⟩
def spRows (K : PySem.W.Frag) : Sp := fun vs H Q _ => ∃ (a : Addr) (ns : List Int), vs = [.ref a] ∧ SqL K H a (ns.map V.int) ∧ ∀ H' p rows, Same H H' → RowsAt H' p rows → RowsOk rows → Q (.ref p) H'
theorem wide_at (v : Int) : ∃ W : Int, (1 ≤ W ∧ W ≤ 1000) ∧ atI [V.int 1, V.int 4, V.int 1000] (v % 3) = some (V.int W) := by
  have h : v % 3 = 0 ∨ v % 3 = 1 ∨ v % 3 = 2 := by omega
  rcases h with h | h | h
  · exact ⟨1, by omega, at_of (j := 0) h rfl⟩
  · exact ⟨4, by omega, at_of (j := 1) h rfl⟩
  · exact ⟨1000, by omega, at_of (j := 2) h rfl⟩
theorem ok_rows (T : Txt K mg) : Cal P w K mg base 2 (He.ga K "_law_rows") ["_law_script"] (spRows K) := by
  refine cal_of T.fLawRows sc_rows (fun vs H Q E h => ?_) (fun _ _ _ _ _ _ us hl => match us, hl with | [_], _ => rfl) (fun cdv A outer st H vs Q E hr h => ?_)
  · obtain ⟨a, ns, rfl, _⟩ := h; rfl
  · obtain ⟨a, ns, rfl, hS, k⟩ := h
    refine ⟨_, pss_cons (ps_set (i := 1) sc_rows.nd rfl (Or.inl rfl) (pe_cal (ok_cell T) hr T.g_law_cell (pa_cons (pv 0) (pa_cons pe_int pa_nil))))
      (pss_cons (ps_set (i := 2) sc_rows.nd rfl (Or.inr rfl) (pe_op op_add pe_int (pe_op op_mod (pv 1) pe_int)))
      (pss_cons (ps_if (pt_cmpR op_eq (pe_op op_mod (pe_op op_fdiv (pv 1) pe_int) pe_int) pe_int (nomark _)) (pss_one (ps_set (i := 2) sc_rows.nd rfl (Or.inr rfl) (pe_op op_add pe_int (pe_op op_mod (pe_op op_fdiv (pv 1) pe_int) pe_int)))) pss_nil)
      (pss_cons (ps_set (i := 3) sc_rows.nd rfl (Or.inr rfl) (pe_cal (ok_names T) hr T.g_law_names (pa_cons (pe_cal (ok_cell T) hr T.g_law_cell (pa_cons (pv 0) (pa_cons pe_int pa_nil))) (pa_cons (pv 2) pa_nil))))
      (pss_cons (ps_set (i := 4) sc_rows.nd rfl (Or.inr rfl) (pe_ix ix_list (pe_lst (pa_cons pe_int (pa_cons pe_int (pa_cons pe_int pa_nil)))) (pe_op op_mod (pe_cal (ok_cell T) hr T.g_law_cell (pa_cons (pv 0) (pa_cons pe_int pa_nil))) pe_int) (fun _ _ => rfl)))
      (pss_cons (ps_set (i := 5) sc_rows.nd rfl (Or.inr rfl) (pe_cal (ok_stream T) hr T.g_law_stream (pa_cons (pe_cal (ok_cell T) hr T.g_law_cell (pa_cons (pv 0) (pa_cons pe_int pa_nil))) (pa_cons (pe_op op_mul pe_int (pv 2)) pa_nil))))
      (pss_one (ps_ret (pe_lc (own := [("_law_k", 6)]) (g := gName 6) (tt := tYes) rfl sc_rows.nd (pi_range1 rfl T.z_range (pa_cons (pv 2) pa_nil))
          (blkOk_by (own := [("_law_k", 6)]) (N := nRows) (sc := defScope sLawRows) (by decide +kernel)) (fun _ _ _ _ _ => pg_name (i := 6) sc_rows.nd rfl (Or.inl rfl)) (fun _ _ _ _ _ => pts_nil)
          (fun _ _ _ _ _ => pe_tup (pa_cons (pe_ix (r := rIxL K) ix_list (pv 3) (pv 6) (fun _ _ => rfl)) (pa_cons (pe_op op_mod (pe_ix (r := rIxL K) ix_list (pv 5) (pv 6) (fun _ _ => rfl)) pe_int)
            (pa_cons (pe_op op_add pe_int (pe_op op_mod (pe_ix (r := rIxL K) ix_list (pv 5) (pe_op op_add (pv 2) (pv 6)) (fun _ _ => rfl)) (pv 4))) pa_nil)))))))))))), ?_⟩
    refine ⟨_, rfl, a, ns, 0, rfl, hS, fun c => ?_⟩
    refine ⟨_, rfl, _, _, rfl, rfl, (by show (0 : Int) < 8; decide), _, _, rfl, rfl, ?_⟩
    dsimp only [gName]
    refine seq_join (fun σ' H' => ∃ m : Nat, 1 ≤ m ∧ m ≤ 60 ∧ σ' = [some (.ref a), some (.int c), some (.int (m : Int)), none, none, none, none] ∧ H' = H) (fun Y hY => ?_) ?_
    · have h8 : 0 ≤ c % 8 ∧ c % 8 < 8 := ⟨Int.emod_nonneg _ (by decide), Int.emod_lt_of_pos _ (by decide)⟩
      have h41 : 0 ≤ c / 72 % 41 ∧ c / 72 % 41 < 41 := ⟨Int.emod_nonneg _ (by decide), Int.emod_lt_of_pos _ (by decide)⟩
      refine ⟨_, rfl, _, _, rfl, rfl, ⟨by decide, by decide⟩, _, _, rfl, rfl, (by show (0 : Int) < 9; decide), rfl, _, rfl, ite2D (fun _ => ?_) (fun _ => ?_)⟩
      · refine ⟨_, rfl, _, _, rfl, rfl, ⟨by decide, by decide⟩, _, _, rfl, rfl, (by show (0 : Int) < 41; decide), _, _, rfl, rfl, ?_⟩
        refine hY _ _ ⟨(20 + c / 72 % 41).toNat, by omega, by omega, ?_, rfl⟩
        rw [show (((20 + c / 72 % 41).toNat : Nat) : Int) = 20 + c / 72 % 41 by omega]
        rfl
      · refine hY _ _ ⟨(1 + c % 8).toNat, by omega, by omega, ?_, rfl⟩
        rw [show (((1 + c % 8).toNat : Nat) : Int) = 1 + c % 8 by omega]
        rfl
    · rintro σ H1 ⟨m, hm1, hm2, rfl, rfl⟩
      -- the names
      refine ⟨_, rfl, a, ns, 1, rfl, hS, fun c1 => ?_⟩
      refine ⟨_, rfl, c1, m, rfl, hm2, fun H2 p3 zs s2 hp3 g3 hzl hnd hnm => ?_⟩
      -- wide
      refine ⟨(by show 3 ≤ sizeLine; decide), fun l hl => ?_⟩
      have s3 : Same H1 (upd H2 l (.lst [.int 1, .int 4, .int 1000])) := fun b o e => by
        rw [upd_ne (ne_of_none (s2 b o e) hl)]
        exact s2 b o e
      have g3' : (upd H2 l (.lst [.int 1, .int 4, .int 1000])) p3 = some (.lst (zs.map V.str)) := by rw [upd_ne (ne_of_none g3 hl)]; exact g3
      refine ⟨_, rfl, a, ns, 2, rfl, s3.seq hS, fun c2 => ?_⟩
      obtain ⟨W, hW, eW⟩ := wide_at c2
      refine ⟨_, _, rfl, rfl, (by show (0 : Int) < 3; decide), l, _, _, _, rfl, rfl, SqL.of upd_same, eW, ?_⟩
      generalize upd H2 l (.lst [.int 1, .int 4, .int 1000]) = H3 at s3 g3' ⊢
      -- the stream
      refine ⟨_, rfl, a, ns, 2, rfl, s3.seq hS, fun c3 => ?_⟩
      refine ⟨_, rfl, _, _, rfl, rfl, .inl ⟨by decide, by decide⟩, c3, 2 * m, by rw [show ((2 * m : Nat) : Int) = 2 * (m : Int) by omega]; rfl, by omega, fun H4 p5 xs s4 hp5 g5 hxl => ?_⟩
      have g3'' := s4 _ _ g3'
      -- the rows
      refine ⟨_, rfl, (m : Int), rfl, by omega, by omega, ?_⟩
      rw [Int.toNat_natCast]
      intro D hD
      refine lc_range (lo := 0) (n := m) (fun i H5 => ∃ ts : List Addr, H5 D = some (.lst (ts.map V.ref)) ∧ ts.length = i ∧ Same H4 H5 ∧ ∀ (j : Nat) (t : Addr) (r : Row3), ts[j]? = some t → (rowsF m zs xs W)[j]? = some r → H5 t = some (.tup (rowV r)))
        ⟨[], upd_same, rfl, same_upd hD, fun j t r h _ => by simp at h⟩ ?_ ?_
      · rintro i H5 hi ⟨ts, gD, htl, s5, hts⟩
        refine ⟨rfl, yes_of ?_⟩
        obtain ⟨z, hz⟩ : ∃ z, zs[i]? = some z := ⟨zs[i], List.getElem?_eq_getElem (by omega)⟩
        obtain ⟨x, hx⟩ : ∃ x, xs[i]? = some x := ⟨xs[i], List.getElem?_eq_getElem (by omega)⟩
        obtain ⟨y, hy⟩ : ∃ y, xs[m + i]? = some y := ⟨xs[m + i], List.getElem?_eq_getElem (by omega)⟩
        have hz' : (zs.map V.str)[i]? = some (.str z) := by rw [List.getElem?_map, hz]; rfl
        have hx' : (xs.map V.int)[i]? = some (.int x) := by rw [List.getElem?_map, hx]; rfl
        have hy' : (xs.map V.int)[m + i]? = some (.int y) := by rw [List.getElem?_map, hy]; rfl
        refine ⟨_, rfl, _, rfl, p3, _, _, _, rfl, rfl, SqL.of (s5 _ _ g3''), at_of (j := i) (by omega) hz', ?_⟩
        refine ⟨_, rfl, _, rfl, p5, _, _, _, rfl, rfl, SqL.of (s5 _ _ g5), at_of (j := i) (by omega) hx', _, _, rfl, rfl, (by show (0 : Int) < 1000; decide), ?_⟩
        refine ⟨_, rfl, _, rfl, _, rfl, _, _, rfl, rfl, p5, _, _, _, rfl, rfl, SqL.of (s5 _ _ g5), at_of (j := m + i) (by omega) hy', _, rfl, _, _, rfl, rfl, (by show (0 : Int) < W; omega), _, _, rfl, rfl, (by show 3 ≤ sizeLine; decide), fun t ht => ?_⟩
        have nDt : D ≠ t := ne_of_none gD ht
        have hR : (rowsF m zs xs W)[i]? = some (z, x % 1000, 1 + y % W) := by
          unfold rowsF
          rw [List.getElem?_map, List.getElem?_range hi]
          simp only [Option.map_some, List.getD_eq_getElem?_getD, hz, hx, hy, Option.getD_some]
        refine ⟨_, by rw [upd_ne nDt]; exact gD, small1000 (by rw [List.length_map]; omega), ts ++ [t], by rw [upd_same, List.map_append]; rfl, by rw [List.length_append, htl]; rfl, fun b o e => ?_, fun j u r hj hr => ?_⟩
        · have e5 := s5 b o e
          rw [upd_ne (ne_of_none e hD), upd_ne (ne_of_none e5 ht)]
          exact e5
        · by_cases q : j < ts.length
          · rw [List.getElem?_append_left q] at hj
            have e5 := hts j u r hj hr
            rw [upd_ne (ne_of e5 gD (by intro q; cases q)), upd_ne (ne_of_none e5 ht)]
            exact e5
          · rw [List.getElem?_append_right (by omega)] at hj
            have hj0 : j - ts.length = 0 := by
              have := (List.getElem?_eq_some_iff.mp hj).1
              simp at this
              omega
            rw [hj0] at hj
            have eu : t = u := Option.some.inj hj
            have ej : j = i := by omega
            subst eu
            rw [ej, hR] at hr
            cases hr
            rw [upd_ne nDt.symm, upd_same]
            rfl
      · rintro H5 ⟨ts, gD, htl, s5, hts⟩
        exact k H5 D (rowsF m zs xs W) ((s3.trans s4).trans s5) ⟨ts, gD, by rw [rowsF_len, htl], hts⟩ (rowsF_ok hzl hm1 hm2 hnd hnm hW)
/-! ### rooms -/
theorem sc_rooms : FnScope ["_law_rows_here", "_law_rooms_here", "_law_name", "_law_cost", "_law_room"] ["_law_rows_here"] (defScope sLawRooms) := ⟨rfl, rfl, rfl, by decide +kernel, rfl, by decide +kernel, by decide +kernel⟩
def spRooms : Sp := fun vs H Q _ => ∃ (r : Addr) (rows : List Row3), vs = [.ref r] ∧ RowsAt H r rows ∧ RowsOk rows ∧ ∀ H' p, Same H H' → H p = none → H' p = some (.dK (enc (roomsD rows))) → Q (.ref p) H'
theorem ok_rooms (T : Txt K mg) : Cal P w K mg base 1 (He.ga K "_law_rooms") ["_law_rows_here"] spRooms := by
  refine cal_of T.fLawRooms sc_rooms (fun vs H Q E h => ?_) (fun _ _ _ _ _ _ us hl => match us, hl with | [_], _ => rfl) (fun cdv A outer st H vs Q E hr h => ?_)
  · obtain ⟨r, rows, rfl, _⟩ := h; rfl
  · obtain ⟨r, rows, rfl, hR, O, k⟩ := h
    have hu := hu_of hr
    obtain ⟨ts, hl, htl, hts⟩ := id hR
    refine ⟨_, pss_cons (ps_set (i := 1) sc_rooms.nd rfl (Or.inl rfl) pe_dnewK)
      (pss_cons (ps_for PassesOwn.never rfl (pi_list (pv 0)) (pg_tup rfl (pgs_cons (pg_name (i := 2) sc_rooms.nd rfl (Or.inl rfl)) (pgs_cons (pg_name (i := 3) sc_rooms.nd rfl (Or.inl rfl)) (pgs_cons (pg_name (i := 4) sc_rooms.nd rfl (Or.inl rfl)) pgs_nil))))
        (pss_one (ps_dput hu (pv 1) (pv 2) (pv 4) rfl)))
      (pss_one (ps_ret (pv 1)))), ?_⟩
    intro d hd
    refine ⟨_, rfl, r, rfl, ⟨_, SqL.of (same_upd hd _ _ hl)⟩, for_list (K := K) (a := r) (xs := ts.map V.ref) (fun i σ H2 => ∃ v2 v3 v4 : Option V, σ = [some (.ref r), some (.ref d), v2, v3, v4] ∧ H2 d = some (.dK (enc (roomsD (rows.take i)))) ∧ Same H H2)
      ⟨none, none, none, rfl, upd_same, same_upd hd⟩ (fun i σ H2 _ ⟨_, _, _, _, _, s2⟩ => SqL.of (s2 _ _ hl)) ?_ ?_⟩
    · rintro i x σ H2 hi ⟨v2, v3, v4, rfl, g, s2⟩
      obtain ⟨t, ht, rfl⟩ : ∃ t, ts[i]? = some t ∧ x = .ref t := by
        rw [List.getElem?_map] at hi
        cases e : ts[i]? with
        | none => rw [e] at hi; cases hi
        | some t => rw [e] at hi; exact ⟨t, rfl, (Option.some.inj hi).symm⟩
      have hil : i < rows.length := by rw [← htl]; exact (List.getElem?_eq_some_iff.mp ht).1
      obtain ⟨q, hq⟩ : ∃ q, rows[i]? = some q := ⟨rows[i], List.getElem?_eq_getElem hil⟩
      have hT := s2 _ _ (hts i t q ht hq)
      have hnot := nodup_take O.nd hq
      have lenT : (rows.take i).length ≤ 60 := by rw [List.length_take]; have := O.hi; omega
      obtain ⟨z, c, m⟩ := q
      refine ⟨t, _, rfl, SqT.of hT, rfl, _, _, rfl, _, _, rfl, _, _, rfl, rfl, ?_⟩
      refine ⟨_, rfl, _, rfl, _, rfl, d, _, rfl, DPut.k (k := Sum.inr z) g (small1000 (by rw [enc_len]; unfold roomsD; rw [List.length_map]; omega)), ?_⟩
      rw [put_enc, put_new _ (by rw [rooms_keys]; exact hnot)]
      refine ⟨_, _, _, rfl, ?_, Same.updN s2 hd⟩
      rw [upd_same, take_at hq]
      unfold roomsD
      rw [List.map_append]
      rfl
    · rintro σ H2 ⟨v2, v3, v4, rfl, g, s2⟩
      rw [List.length_map, htl, List.take_length] at g
      exact ⟨_, rfl, k H2 d s2 hd g⟩
/-! ### places -/
abbrev nPlaces : List Str := ["_law_rows_here", "_law_cell_here", "_law_rooms_here", "_law_row"]
theorem sc_places : FnScope nPlaces ["_law_rows_here", "_law_cell_here"] (defScope sLawPlaces) := ⟨rfl, rfl, rfl, by decide +kernel, rfl, by decide +kernel, by decide +kernel⟩
def spPlaces : Sp := fun vs H Q _ => ∃ (r : Addr) (c : Int) (rows : List Row3), vs = [.ref r, .int c] ∧ RowsAt H r rows ∧ RowsOk rows ∧ ∀ H' (v : Int), Same H H' → (∀ q ∈ rows, q.2.2 ≤ v) → 1 ≤ v → v ≤ 1000000 → Q (.int v) H'
theorem ten6 : (10 : Int) ^ ((6 : Int).toNat) = 1000000 := by decide
theorem ok_places (T : Txt K mg) : Cal P w K mg base 1 (He.ga K "_law_places") ["_law_rows_here", "_law_cell_here"] spPlaces := by
  refine cal_of T.fLawPlaces sc_places (fun vs H Q E h => ?_) (fun _ _ _ _ _ _ us hl => match us, hl with | [_, _], _ => rfl) (fun cdv A outer st H vs Q E hr h => ?_)
  · obtain ⟨r, c, rows, rfl, _⟩ := h; rfl
  · obtain ⟨r, c, rows, rfl, hR, O, k⟩ := h
    obtain ⟨ts, hl, htl, hts⟩ := id hR
    refine ⟨_, pss_cons (ps_setLc (i := 2) (own := [("_law_row", 3)]) (g := gName 3) (tt := tYes) rfl sc_places.nd rfl rfl (sw_true rfl rfl rfl (by decide +kernel)) (pi_list (pv 0))
          (blkOk_by (own := [("_law_row", 3)]) (N := nPlaces) (sc := defScope sLawPlaces) (by decide +kernel)) (fun _ _ _ _ _ => pg_name (i := 3) sc_places.nd rfl (Or.inl rfl)) (fun _ _ _ _ _ => pts_nil)
          (fun _ _ _ _ _ => pe_ix (r := rIxT K) ix_tup (pv 3) pe_int (fun _ _ => rfl)))
      (pss_cons (ps_if (pt_cmpR op_eq (pe_op op_mod (pe_op op_fdiv (pv 1) pe_int) pe_int) pe_int (nomark _)) (pss_one (ps_ret (pe_op op_pow pe_int pe_int))) pss_nil)
      (pss_one (ps_ret (pe_op op_add (pe_callB (cr_max rfl) (by rfl) T.z_max (by decide +kernel) (pa_cons (pv 2) pa_nil)) (pe_op op_mod (pv 1) (pe_callB (cr_sum rfl) (by rfl) T.z_sum (by decide +kernel) (pa_cons (pv 2) pa_nil))))))), ?_⟩
    refine ⟨_, rfl, r, rfl, ⟨_, SqL.of hl⟩, fun D hD => lc_list (K := K) (a := r) (xs := ts.map V.ref) (fun i H2 => H2 D = some (.lst (((rows.take i).map (·.2.2)).map V.int)) ∧ Same H H2) ⟨upd_same, same_upd hD⟩ (fun i H2 _ ⟨_, s2⟩ => SqL.of (s2 _ _ hl)) ?_ ?_⟩
    · rintro i x H2 hi ⟨g, s2⟩
      obtain ⟨t, ht, rfl⟩ : ∃ t, ts[i]? = some t ∧ x = .ref t := by
        rw [List.getElem?_map] at hi
        cases e : ts[i]? with
        | none => rw [e] at hi; cases hi
        | some t => rw [e] at hi; exact ⟨t, rfl, (Option.some.inj hi).symm⟩
      have hil : i < rows.length := by rw [← htl]; exact (List.getElem?_eq_some_iff.mp ht).1
      obtain ⟨q, hq⟩ : ∃ q, rows[i]? = some q := ⟨rows[i], List.getElem?_eq_getElem hil⟩
      have hT := s2 _ _ (hts i t q ht hq)
      refine ⟨rfl, yes_of ?_⟩
      refine ⟨_, rfl, t, _, _, _, rfl, rfl, SqT.of hT, at_of (j := 2) rfl rfl, _, g, small1000 (by rw [List.length_map, List.length_map, List.length_take]; have := O.hi; omega), ?_, Same.updN s2 hD⟩
      rw [upd_same, take_at hq, List.map_append, List.map_append]
      rfl
    · rintro H2 ⟨g, s2⟩
      rw [List.length_map, htl, List.take_length] at g
      have hro : ∀ x ∈ rows.map (·.2.2), 1 ≤ x ∧ x ≤ 1000 := fun x hx => by
        obtain ⟨q, hq, e⟩ := List.mem_map.mp hx
        rw [← e]
        exact O.ro q hq
      have hlen : (rows.map (·.2.2)).length = rows.length := List.length_map ..
      refine ⟨_, rfl, _, _, rfl, rfl, ⟨by decide, by decide⟩, _, _, rfl, rfl, (by show (0 : Int) < 17; decide), rfl, _, rfl, ite2D (fun _ => ?_) (fun _ => ?_)⟩
      · refine ⟨_, _, rfl, rfl, ⟨by decide, by decide, by decide⟩, ?_⟩
        have := k H2 1000000 s2 (fun q hq => by have := (O.ro q hq).2; omega) (by decide) (by decide)
        rw [← ten6] at this
        exact this
      · refine ⟨_, rfl, D, _, rfl, SqL.of g, by rw [hlen]; have := O.lo; omega, fun mx hmx hle => ?_⟩
        have hs := sum_between hro
        rw [hlen] at hs
        have lo := O.lo
        have hi := O.hi
        refine ⟨_, rfl, _, rfl, D, _, rfl, SqL.of g, _, _, rfl, rfl, (by show (0 : Int) < (rows.map (·.2.2)).sum; omega), _, _, rfl, rfl, ?_⟩
        have h1 := Int.emod_nonneg c (show (rows.map (·.2.2)).sum ≠ 0 by omega)
        have h2 := Int.emod_lt_of_pos c (show 0 < (rows.map (·.2.2)).sum by omega)
        have h3 := hro mx hmx
        refine k H2 _ s2 (fun q hq => ?_) (by omega) (by omega)
        have := hle _ (List.mem_map.mpr ⟨q, hq, rfl⟩)
        omega
/-! ### asks -/
abbrev nAsks : List Str := ["_law_script", "_law_rows_here", "_law_most", "_law_picks", "_law_pick"]
theorem sc_asks : FnScope nAsks ["_law_script", "_law_rows_here"] (defScope sLawAsks) := ⟨rfl, rfl, rfl, by decide +kernel, rfl, by decide +kernel, by decide +kernel⟩
def spAsks (K : PySem.W.Frag) : Sp := fun vs H Q _ => ∃ (a r : Addr) (ns : List Int) (rows : List Row3), vs = [.ref a, .ref r] ∧ SqL K H a (ns.map V.int) ∧ ns.length ≤ 63 ∧ RowsAt H r rows ∧ RowsOk rows ∧
  ∀ H' p (zs : List Str), Same H H' → H p = none → H' p = some (.lst (zs.map V.str)) → zs.length ≤ 500 → (∀ z ∈ zs, z ∈ rows.map (·.1)) → Q (.ref p) H'
theorem cut_ints (ns : List Int) (lo hi : Option Int) : ∃ ms : List Int, cutV (ns.map V.int) lo hi = ms.map V.int ∧ ms.length ≤ ns.length := by
  refine ⟨(ns.drop (HT.sIx (ns.map V.int).length 0 lo)).take (HT.sIx (ns.map V.int).length (ns.map V.int).length hi - HT.sIx (ns.map V.int).length 0 lo), ?_, ?_⟩
  · unfold cutV
    rw [List.map_take]; rw [List.map_drop]
  · rw [List.length_take, List.length_drop]
    omega
theorem ok_asks (T : Txt K mg) : Cal P w K mg base 2 (He.ga K "_law_asks") ["_law_script", "_law_rows_here"] (spAsks K) := by
  refine cal_of T.fLawAsks sc_asks (fun vs H Q E h => ?_) (fun _ _ _ _ _ _ us hl => match us, hl with | [_, _], _ => rfl) (fun cdv A outer st H vs Q E hr h => ?_)
  · obtain ⟨a, r, ns, rows, rfl, _⟩ := h; rfl
  · obtain ⟨a, r, ns, rows, rfl, hS, hnl, hR, O, k⟩ := h
    obtain ⟨ts, hl, htl, hts⟩ := id hR
    refine ⟨_, pss_cons (ps_set (i := 2) sc_asks.nd rfl (Or.inl rfl) pe_int)
      (pss_cons (ps_if (pt_cmpR op_eq (pe_op op_mod (pe_cal (ok_cell T) hr T.g_law_cell (pa_cons (pv 0) (pa_cons pe_int pa_nil))) pe_int) pe_int (nomark _)) (pss_one (ps_set (i := 2) sc_asks.nd rfl (Or.inl rfl) pe_int)) pss_nil)
      (pss_cons (ps_set (i := 3) sc_asks.nd rfl (Or.inl rfl) (pe_op op_cat (pe_slice sl_list (pv 0) (po_some pe_int) (po_some pe_int))
        (pe_cal (ok_stream T) hr T.g_law_stream (pa_cons (pe_cal (ok_cell T) hr T.g_law_cell (pa_cons (pv 0) (pa_cons pe_int pa_nil))) (pa_cons (pe_op op_mod (pe_cal (ok_cell T) hr T.g_law_cell (pa_cons (pv 0) (pa_cons pe_int pa_nil))) (pv 2)) pa_nil)))))
      (pss_one (ps_ret (pe_lc (own := [("_law_pick", 4)]) (g := gName 4) (tt := tYes) rfl sc_asks.nd (pi_list (pv 3))
          (blkOk_by (own := [("_law_pick", 4)]) (N := nAsks) (sc := defScope sLawAsks) (by decide +kernel)) (fun _ _ _ _ _ => pg_name (i := 4) sc_asks.nd rfl (Or.inl rfl)) (fun _ _ _ _ _ => pts_nil)
          (fun _ _ _ _ _ => pe_ix (r := rIxT K) ix_tup (pe_ix (r := rIxL K) ix_list (pv 1) (pe_op op_mod (pv 4) (pe_callB (r := rLenS K) lenS (by rfl) T.z_len PySem.boot_len (pa_cons (pv 1) pa_nil))) (fun _ _ => rfl)) pe_int (fun _ _ => rfl))))))), ?_⟩
    refine seq_asgC ?_
    refine seq_join (fun σ' H' => ∃ M : Nat, 1 ≤ M ∧ M ≤ 139 ∧ σ' = [some (.ref a), some (.ref r), some (.int (M : Int)), none, none] ∧ H' = H) (fun Y hY => ?_) ?_
    · refine ⟨_, rfl, a, ns, 4, rfl, hS, fun c => ?_⟩
      refine ⟨_, _, rfl, rfl, (by show (0 : Int) < 4; decide), rfl, _, rfl, ite2D (fun _ => ?_) (fun _ => ?_)⟩
      · exact hY _ _ ⟨139, by decide, by decide, rfl, rfl⟩
      · exact hY _ _ ⟨30, by decide, by decide, rfl, rfl⟩
    · rintro σ H1 ⟨M, hM1, hM2, rfl, rfl⟩
      obtain ⟨ms, ems, hms⟩ := cut_ints ns (some 8) (some 68)
      refine ⟨_, rfl, _, rfl, _, rfl, a, _, rfl, hS, fun l hl' => ?_⟩
      rw [ems]
      have s1 : Same H1 (upd H1 l (.lst (ms.map V.int))) := same_upd hl'
      have gl : (upd H1 l (.lst (ms.map V.int))) l = some (.lst (ms.map V.int)) := upd_same
      refine ⟨_, rfl, a, ns, 4, rfl, s1.seq hS, fun c4 => ?_⟩
      refine ⟨_, rfl, a, ns, 5, rfl, s1.seq hS, fun c5 => ?_⟩
      have h0 := Int.emod_nonneg c5 (show (M : Int) ≠ 0 by omega)
      have h1 := Int.emod_lt_of_pos c5 (show 0 < (M : Int) by omega)
      refine ⟨_, rfl, _, _, rfl, rfl, (by show (0 : Int) < (M : Int); omega), c4, (c5 % (M : Int)).toNat, by rw [show (((c5 % (M : Int)).toNat : Nat) : Int) = c5 % (M : Int) by omega]; rfl, by omega, fun H2 q xs s2 hq gq hxl => ?_⟩
      refine ⟨l, q, _, _, rfl, rfl, s2 _ _ gl, gq, small60 (by rw [List.length_map, List.length_map]; omega), fun u hu => ?_⟩
      have s3 : Same H1 (upd H2 u (.lst (ms.map V.int ++ xs.map V.int))) := fun b o e => by
        have e2 := s2 _ _ (s1 b o e)
        rw [upd_ne (ne_of_none e2 hu)]
        exact e2
      have gu : (upd H2 u (.lst (ms.map V.int ++ xs.map V.int))) u = some (.lst ((ms ++ xs).map V.int)) := by rw [upd_same, List.map_append]
      refine ⟨_, rfl, u, rfl, ⟨_, SqL.of gu⟩, fun D hD => ?_⟩
      generalize upd H2 u (.lst (ms.map V.int ++ xs.map V.int)) = H3 at s3 gu hD ⊢
      refine lc_list (K := K) (a := u) (xs := (ms ++ xs).map V.int) (fun i H4 => ∃ zs : List Str, H4 D = some (.lst (zs.map V.str)) ∧ zs.length = i ∧ (∀ z ∈ zs, z ∈ rows.map (·.1)) ∧ Same H3 H4)
        ⟨[], upd_same, rfl, fun z h => absurd h List.not_mem_nil, same_upd hD⟩ (fun i H4 _ ⟨_, _, _, _, s4⟩ => SqL.of (s4 _ _ gu)) ?_ ?_
      · rintro i x H4 hi ⟨zs, gD, hzl, hzs, s4⟩
        obtain ⟨y, hy, rfl⟩ := int_at hi
        have hi2 : i < (ms ++ xs).length := (List.getElem?_eq_some_iff.mp hy).1
        rw [List.length_append] at hi2
        refine ⟨rfl, yes_of ?_⟩
        have gr : H4 r = some (.lst (ts.map V.ref)) := s4 _ _ (s3 _ _ hl)
        have lo := O.lo
        have g0 := Int.emod_nonneg y (show ((ts.map V.ref).length : Int) ≠ 0 by rw [List.length_map]; omega)
        have g1 := Int.emod_lt_of_pos y (show 0 < ((ts.map V.ref).length : Int) by rw [List.length_map]; omega)
        have hj : (y % ((ts.map V.ref).length : Int)).toNat < ts.length := by rw [List.length_map] at g0 g1 ⊢; omega
        obtain ⟨t, ht⟩ : ∃ t, ts[(y % ((ts.map V.ref).length : Int)).toNat]? = some t := ⟨_, List.getElem?_eq_getElem hj⟩
        obtain ⟨q, hq⟩ : ∃ q, rows[(y % ((ts.map V.ref).length : Int)).toNat]? = some q := ⟨_, List.getElem?_eq_getElem (by omega)⟩
        have hT := s4 _ _ (s3 _ _ (hts _ t q ht hq))
        refine ⟨_, rfl, _, rfl, _, rfl, r, _, rfl, .inl (SqL.of gr), _, _, rfl, rfl, (by rw [List.length_map]; omega), r, _, _, _, rfl, rfl, SqL.of gr, at_of (j := (y % ((ts.map V.ref).length : Int)).toNat) (v := .ref t) (by omega) (by rw [List.getElem?_map, ht]; rfl), ?_⟩
        refine ⟨t, _, _, _, rfl, rfl, SqT.of hT, at_of (j := 0) rfl rfl, ?_⟩
        refine ⟨_, gD, small1000 (by rw [List.length_map]; omega), zs ++ [q.1], by rw [upd_same, List.map_append]; rfl, by rw [List.length_append, hzl]; rfl, fun z hz => ?_, Same.updN s4 hD⟩
        rcases List.mem_append.mp hz with q2 | q2
        · exact hzs z q2
        · rw [List.mem_singleton.mp q2]
          exact List.mem_map.mpr ⟨q, List.mem_of_getElem? hq, rfl⟩
      · rintro H4 ⟨zs, gD, hzl, hzs, s4⟩
        refine k H4 D zs (s3.trans s4) (s3.free hD) gD ?_ hzs
        rw [hzl, List.length_map, List.length_append]
        omega
end
end K29
/-! The law, the end. -/
namespace K29
open PySem PySem.Spec PyProof.Rows L2
theorem kept_new {H : Hp} {k0 k1 k2 kp : Addr} (hk0 : H k0 = none) (hk1 : (upd H k0 (.dK [])) k1 = none) (hk2 : (upd (upd H k0 (.dK [])) k1 (.dK [])) k2 = none) (hkp : (upd (upd (upd H k0 (.dK [])) k1 (.dK [])) k2 (.dK [])) kp = none) :
    Same H (upd (upd (upd (upd H k0 (.dK [])) k1 (.dK [])) k2 (.dK [])) kp (.lst [.ref k0, .ref k1, .ref k2])) ∧ KeptAt (upd (upd (upd (upd H k0 (.dK [])) k1 (.dK [])) k2 (.dK [])) kp (.lst [.ref k0, .ref k1, .ref k2])) kp k0 k1 k2 .zero := by
  have n01 : k0 ≠ k1 := fun q => by rw [← q, upd_same] at hk1; cases hk1
  have hk1' : H k1 = none := by rw [upd_ne n01.symm] at hk1; exact hk1
  have n12 : k1 ≠ k2 := fun q => by rw [← q, upd_same] at hk2; cases hk2
  have hk2a : (upd H k0 (.dK [])) k2 = none := by rw [upd_ne n12.symm] at hk2; exact hk2
  have n02 : k0 ≠ k2 := fun q => by rw [← q, upd_same] at hk2a; cases hk2a
  have hk2' : H k2 = none := by rw [upd_ne n02.symm] at hk2a; exact hk2a
  have g0 : (upd (upd (upd H k0 (.dK [])) k1 (.dK [])) k2 (.dK [])) k0 = some (.dK []) := by rw [upd_ne n02, upd_ne n01]; exact upd_same
  have g1 : (upd (upd (upd H k0 (.dK [])) k1 (.dK [])) k2 (.dK [])) k1 = some (.dK []) := by rw [upd_ne n12]; exact upd_same
  have g2 : (upd (upd (upd H k0 (.dK [])) k1 (.dK [])) k2 (.dK [])) k2 = some (.dK []) := upd_same
  have sA : Same H (upd (upd (upd H k0 (.dK [])) k1 (.dK [])) k2 (.dK [])) := Same.updN (Same.updN (same_upd hk0) hk1') hk2'
  refine ⟨Same.updN sA (sA.free hkp), upd_same, ?_, ?_, ?_, n01, n02, n12⟩
  · rw [upd_ne (ne_of_none g0 hkp)]; exact g0
  · rw [upd_ne (ne_of_none g1 hkp)]; exact g1
  · rw [upd_ne (ne_of_none g2 hkp)]; exact g2
theorem cut60 (zs : List Str) : cutV (zs.map V.str) none (some 60) = (zs.take 60).map V.str := by
  unfold cutV
  rw [HT.sIx_none, show (some (60 : Int)) = some ((60 : Nat) : Int) from rfl, HT.sIx_nat, List.drop_zero, Nat.sub_zero, List.map_take]
  by_cases h : 60 ≤ (zs.map V.str).length
  · rw [Nat.min_eq_left h]
  · rw [Nat.min_eq_right (by omega), List.take_of_length_le (Nat.le_refl _)]; rw [List.take_of_length_le (by omega)]
section
variable {P : Program} {w : World} {K : PySem.W.Frag} {mg : Str → Option Value} {base : Heap}
theorem sc_law : FnScope ["_law_script", "_law_rows_here", "_law_rooms_here", "_law_places_here", "_law_asks_here", "_law_turn", "_law_stock", "_law_which", "_law_rule"] ["_law_script"] (defScope sLaw) := ⟨rfl, rfl, rfl, by decide +kernel, rfl, by decide +kernel, by decide +kernel⟩
def spLaw (K : PySem.W.Frag) : Sp := fun vs H Q _ => ∃ (a : Addr) (ns : List Int), vs = [.ref a] ∧ SqL K H a (ns.map V.int) ∧ ns.length ≤ 63 ∧ ∀ H', Q (.bl true) H'
theorem ok_law (T : Txt K mg) {f : Addr} {fd : FuncData} (F : FunD K "law" "law" (defArgs sLaw) (defBody sLaw) (defScope sLaw) [] [] f fd) : FnOk P w K mg base CX0 8 f fd ["_law_script"] (spLaw K) := by
  refine F.ok sc_law (fun vs H Q E h => ?_) (fun cdv A outer st H vs Q E hr h => ?_)
  · obtain ⟨a, ns, rfl, _⟩ := h; rfl
  · obtain ⟨a, ns, rfl, hS, hnl, k⟩ := h
    suffices hh : ∃ t, PSs (cxOf CX0 P w K mg base ["_law_script", "_law_rows_here", "_law_rooms_here", "_law_places_here", "_law_asks_here", "_law_turn", "_law_stock", "_law_which", "_law_rule"] "law" (defScope sLaw) f cdv A outer st H E).nox (defBody sLaw) t ∧
        t { nx := fun _ H' => Q .non H', rt := Q } (L2.start ["_law_script", "_law_rows_here", "_law_rooms_here", "_law_places_here", "_law_asks_here", "_law_turn", "_law_stock", "_law_which", "_law_rule"] [.ref a]) H by
      obtain ⟨t, h1, h2⟩ := hh
      exact ⟨t, h1.nox, h2⟩
    refine ⟨_, pss_cons (ps_set (i := 1) sc_law.nd rfl (Or.inl rfl) (pe_cal (ok_rows T) hr T.g_law_rows (pa_cons (pv 0) pa_nil)))
      (pss_cons (ps_set (i := 2) sc_law.nd rfl (Or.inl rfl) (pe_cal (ok_rooms T) hr T.g_law_rooms (pa_cons (pv 1) pa_nil)))
      (pss_cons (ps_set (i := 3) sc_law.nd rfl (Or.inl rfl) (pe_cal (ok_places T) hr T.g_law_places (pa_cons (pv 1) (pa_cons (pe_cal (ok_cell T) hr T.g_law_cell (pa_cons (pv 0) (pa_cons pe_int pa_nil))) pa_nil))))
      (pss_cons (ps_set (i := 4) sc_law.nd rfl (Or.inl rfl) (pe_slice sl_list (pe_cal (ok_asks T) hr T.g_law_asks (pa_cons (pv 0) (pa_cons (pv 1) pa_nil))) po_none (po_some pe_int)))
      (pss_cons (ps_set (i := 5) sc_law.nd rfl (Or.inl rfl) (pe_op op_add pe_int (pe_op op_mod (pe_cal (ok_cell T) hr T.g_law_cell (pa_cons (pv 0) (pa_cons pe_int pa_nil))) pe_int)))
      (pss_cons (ps_set (i := 6) sc_law.nd rfl (Or.inl rfl) (pe_mk T.m_Stock (ok_stock T) hr T.g_Stock (pa_cons (pe_callTy call_list_of (by rfl) T.z_list (by decide +kernel) (pa_cons (pv 1) pa_nil)) pa_nil)))
      (pss_cons (ps_set (i := 7) sc_law.nd rfl (Or.inl rfl) (pe_op op_mod (pe_cal (ok_cell T) hr T.g_law_cell (pa_cons (pv 0) (pa_cons pe_int pa_nil))) pe_int))
      (pss_cons (ps_set (i := 8) sc_law.nd rfl (Or.inl rfl) (pe_cal (ok_made T) hr T.g_law_made (pa_cons (pv 7) (pa_cons (pv 6) (pa_cons (pv 3) (pa_cons (pe_callTy call_list_of (by rfl) T.z_list (by decide +kernel) (pa_cons (pv 4) pa_nil)) (pa_cons (pv 5) pa_nil)))))))
      (pss_cons (ps_if (pt_not (pt_val (pe_cal (ok_all T) hr T.g_law_all_ranks (pa_cons (pv 8) (pa_cons (pv 7) (pa_cons (pe_lst (pa_cons pe_dnewK (pa_cons pe_dnewK (pa_cons pe_dnewK pa_nil)))) (pa_cons (pv 4) (pa_cons pe_int
          (pa_cons (pe_callTy (call_list_dK rfl) (by rfl) T.z_list (by decide +kernel) (pa_cons (pv 2) pa_nil)) pa_nil))))))))) pss_never pss_nil)
      (pss_one (ps_ret (pe_cal (ok_led T) hr T.g_law_led (pa_cons (pv 8) (pa_cons (pv 7) (pa_cons (pv 4) (pa_cons (pv 2) (pa_cons (pv 3) (pa_cons (pv 5) pa_nil))))))))))))))))), ?_⟩
    -- rows, rooms, places
    refine ⟨_, rfl, a, ns, rfl, hS, fun H1 r rows s1 hR O => ?_⟩
    refine ⟨_, rfl, r, rows, rfl, hR, O, fun H2 rd s2 hrd grd => ?_⟩
    have s12 := s1.trans s2
    refine ⟨_, rfl, _, rfl, a, ns, 3, rfl, s12.seq hS, fun c3 => ?_⟩
    refine ⟨r, c3, rows, rfl, hR.same s2, O, fun H3 pl s3 hpl hp1 hp2 => ?_⟩
    have s13 := s12.trans s3
    have hR3 := (hR.same s2).same s3
    have grd3 := s3 _ _ grd
    -- asks
    refine ⟨_, rfl, _, rfl, a, r, ns, rows, rfl, s13.seq hS, hnl, hR3, O, fun H4 q zs s4 hq gq hzl hzs => ?_⟩
    refine ⟨60, rfl, q, _, rfl, SqL.of gq, fun u hu => ?_⟩
    rw [cut60]
    obtain ⟨asks, eas⟩ : ∃ asks : List Str, asks = zs.take 60 := ⟨_, rfl⟩
    have hal : asks.length ≤ 60 := by rw [eas, List.length_take]; omega
    have hall : ∀ z ∈ asks, z ∈ rows.map (·.1) ∧ lk (roomsD rows) z ≤ pl := fun z hz => by
      have h1 := hzs z (by rw [eas] at hz; exact List.mem_of_mem_take hz)
      obtain ⟨b, hb, e⟩ := room_in h1
      exact ⟨h1, by rw [e]; exact hpl b hb⟩
    rw [← eas]
    have s5 : Same H4 (upd H4 u (.lst (asks.map V.str))) := same_upd hu
    have gu : (upd H4 u (.lst (asks.map V.str))) u = some (.lst (asks.map V.str)) := upd_same
    have s15 := (s13.trans s4).trans s5
    have hR5 := (hR3.same s4).same s5
    have grd5 := s5 _ _ (s4 _ _ grd3)
    generalize upd H4 u (.lst (asks.map V.str)) = H5 at gu s15 hR5 grd5 ⊢
    -- turn
    refine ⟨_, rfl, a, ns, 7, rfl, s15.seq hS, fun c7 => ?_⟩
    have h9 : 0 ≤ c7 % 9 ∧ c7 % 9 < 9 := ⟨Int.emod_nonneg _ (by decide), Int.emod_lt_of_pos _ (by decide)⟩
    refine ⟨_, _, rfl, rfl, (by show (0 : Int) < 9; decide), _, _, rfl, rfl, ?_⟩
    -- Stock(list(rows))
    obtain ⟨ts, hl, htl, hts⟩ := id hR5
    refine ⟨_, rfl, r, _, rfl, .inl (SqL.of hl), fun l hl2 => ?_⟩
    have s6 : Same H5 (upd H5 l (.lst (ts.map V.ref))) := same_upd hl2
    have hR6 : RowsAt (upd H5 l (.lst (ts.map V.ref))) l rows := ⟨ts, upd_same, htl, fun i t b h1 h2 => s6 _ _ (hts i t b h1 h2)⟩
    have gu6 := s6 _ _ gu
    have grd6 := s6 _ _ grd5
    have s16 := s15.trans s6
    generalize upd H5 l (.lst (ts.map V.ref)) = H6 at hR6 gu6 grd6 s16 ⊢
    refine fun x dx nx ndx ne => ?_
    have sx : Same H6 (upd (upd H6 dx (.own x)) x (.ins (He.ga K "Stock") dx [])) := fun b o e => by
      rw [upd_ne (ne_of_none e nx), upd_ne (ne_of_none e ndx)]
      exact e
    refine ⟨x, dx, l, rows, rfl, upd_same, hR6.same sx, O, fun H7 hSt b7 => ⟨rfl, ?_⟩⟩
    have s67 : Same H6 H7 := same2 nx ndx b7
    have gu7 := s67 _ _ gu6
    have grd7 := s67 _ _ grd6
    have s17 := s16.trans s67
    -- which
    refine ⟨_, rfl, a, ns, 6, rfl, s17.seq hS, fun c6 => ?_⟩
    refine ⟨_, _, rfl, rfl, (by show (0 : Int) < 5; decide), ?_⟩
    obtain ⟨wh, hwh, ewh⟩ : ∃ wh : Nat, wh < 5 ∧ c6 % 5 = (wh : Int) := by
      have h5 : 0 ≤ c6 % 5 ∧ c6 % 5 < 5 := ⟨Int.emod_nonneg _ (by decide), Int.emod_lt_of_pos _ (by decide)⟩
      exact ⟨(c6 % 5).toNat, by omega, by omega⟩
    obtain ⟨turn, eturn⟩ : ∃ turn : Int, 1 + c7 % 9 = turn := ⟨_, rfl⟩
    dsimp only
    rw [ewh, eturn]
    -- _law_made
    refine ⟨_, rfl, _, rfl, _, rfl, _, rfl, u, _, rfl, .inl (SqL.of gu7), fun l2 hl2' => ?_⟩
    have s8 : Same H7 (upd H7 l2 (.lst (asks.map V.str))) := same_upd hl2'
    have gl2 : (upd H7 l2 (.lst (asks.map V.str))) l2 = some (.lst (asks.map V.str)) := upd_same
    have gu8 := s8 _ _ gu7
    have grd8 := s8 _ _ grd7
    have hSt8 := hSt.same s8
    have s18 := s17.trans s8
    generalize upd H7 l2 (.lst (asks.map V.str)) = H8 at gl2 gu8 grd8 hSt8 s18 ⊢
    refine ⟨_, rfl, wh, x, l2, pl, turn, rows, asks, rfl, hwh, hSt8, gl2, by omega, hall, hp1, hp2, by omega, by omega, fun B F H9 p hB hF s9 => ?_⟩
    have nuF : u ∉ F := fun h => by rw [hF u h] at gu8; cases gu8
    have ndF : rd ∉ F := fun h => by rw [hF rd h] at grd8; cases grd8
    have gu9 := s9 _ _ gu8
    have grd9 := s9 _ _ grd8
    -- all ranks ahead of the first ask
    dsimp only [gName]
    refine seq_no (fun H' => Same H9 H') (fun Y hY => ?_) (fun HA sA => ?_)
    · refine ⟨_, rfl, _, rfl, ?_⟩
      intro k0 hk0 k1 hk1 k2 hk2
      refine ⟨(by show 3 ≤ sizeLine; decide), fun kp hkp => ?_⟩
      obtain ⟨sk, hk⟩ := kept_new hk0 hk1 hk2 hkp
      dsimp only
      generalize upd (upd (upd (upd H9 k0 (.dK [])) k1 (.dK [])) k2 (.dK [])) kp (.lst [.ref k0, .ref k1, .ref k2]) = HB at sk hk ⊢
      refine ⟨_, rfl, _, rfl, rd, _, rfl, sk _ _ grd9, fun v hv => ?_⟩
      rw [keysV]
      have sv : Same HB (upd HB v (.lst ((keys (roomsD rows)).map V.str))) := same_upd hv
      exact ⟨wh, asks, turn, B, .zero, F, p, kp, k0, k1, k2, u, v, keys (roomsD rows), rfl, hwh, B.same (B.same hB sk) sv, hk.same sv, SqL.of (sv _ _ (sk _ _ gu9)), SqL.of upd_same, by omega, by decide, fun H' s' => ⟨true, rfl, hY _ ((sk.trans sv).trans s')⟩⟩
    · exact ⟨_, rfl, _, rfl, _, rfl, _, rfl, _, rfl, _, rfl, wh, asks, turn, B, rows, F, p, u, rd, pl, rfl, hwh, B.same hB sA, sA _ _ gu9, sA _ _ grd9, nuF, ndF, hal, by omega, hall, k⟩
end
theorem facts {P : Program} {w : World} {K : PySem.W.Frag} {h : Heap} {mg : Str → Option Value} {f : Addr} (X : K.In h) (G : h.Ns mainGlobals mg) (hfa : mg ("law" : Str) = some (.ref f)) (c : He.SaysD fa fn K ∧ exB K = true) :
    ∃ fd : FuncData, (∀ (s : Shared) (v : Value), BindsTo s fd ⟨[v], []⟩ [("_law_script", v)]) ∧ ∀ base : Heap, K.In base → base.Ns mainGlobals mg → FnOk P w K mg base CX0 8 f fd ["_law_script"] (spLaw K) := by
  have T : Txt K mg := ⟨c.1, c.2, h, X, G⟩
  obtain ⟨fd, F⟩ := T.fLaw
  have e := hfa.symm.trans T.g_law
  cases e
  have b := FunD.bindsA (ps := ["_law_script"]) F fun _ _ _ _ _ _ us hl => match us, hl with | [_], _ => rfl
  exact ⟨fd, fun s v => b s [v] rfl, fun base _ _ => ok_law T F⟩
end K29
open PySem PySem.W PySem.Calls PyProof.Rows
set_option maxRecDepth 100000 in
set_option maxHeartbeats 0 in
theorem PySem.Challenge.cw_castoff_k29_ranks_holds : PySem.Challenge.rw_castoff_k29_ranks.Holds := by
  w_on; o_law
  refine HandSHeadRun.head_any (r := K29.R) (q := view K29.R.prog [45]) (H := K29.hk) (ob := K29.ob) (M := 20000) (loose := K29.loose) (d := HandSHeadRun.topDef K29.R.prog 45) (kwd := []) K29.ob_eq
    (by kernel_rfl) (fun s => by kernel_rfl) K29.run (by kernel_rfl) (by kernel_rfl) (by kernel_rfl) (by rfl) (by first | assumption | decide +kernel) (by decide +kernel) ⟨rfl, rfl, rfl, rfl, rfl, by decide +kernel⟩ ?hw ?hc
  case hw => w_witness2
  case hc =>
    refine L2.walk_ofE (l := PySem.Challenge.rw_castoff_k29_ranks) (n := 63) (k := 8) (x := "_law_script") (CX := L2.CX0) rfl (by decide) (by kernel_rfl) ⟨rfl, by decide, by decide⟩ ?F (fun _ _ _ _ z => z)
    intro w mg fa h Y G hmg0
    obtain ⟨K, KX, c⟩ := Y
    have hmg : mg ("law" : PySem.Str) = some (.ref fa) := by
      have e : (HandSHeadRun.topDef K29.R.prog 45).name = ("law" : PySem.Str) := by kernel_rfl
      rw [← e]
      exact hmg0
    obtain ⟨fd, hb, hF⟩ := K29.facts (P := PySem.Challenge.rw_castoff_k29_ranks.prog) (w := w) KX G hmg c
    exact ⟨K, fd, K29.spLaw K, KX, hb, fun H a ns hl _ hS => ⟨a, ns, rfl, hS, hl, fun _ => rfl⟩, hF⟩
