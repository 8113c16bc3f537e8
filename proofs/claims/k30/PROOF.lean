import PyProof.Rows.All
import Wide.All
import OpenK.AllK
import Wide.FinOn
import HandS.Codes
import HandS.Words
import HandS.Property
import HandS.Defaults
import KE.KStateDown
import HandS.WordsExc
import HandS.Head0
import HandS.Head1
import HandS.Head2
import HandS.HeadEnd
import HandS.HeadHook1
import HandS.HeadHook2
import HandS.GenOver
import HandS.GenYield
import HandS.GenList
import HandS.Comp
import HandS.Ends
import HandS.ForMost
import HandS.TupSets
import HandS.Sort
import HandS.SortOrd
import HandS.SortRule
import HandS.Deep
import HandS.Iter
import PyProof.Draws
import PyProof.EnumMake
import HandS.Conv
import PyProof.TupleOfGen
import HandS.DictComp
import HandS.Style
import HandS.Star
import HandS.OwnEq
import HandS.Walk
import HandS.SetKeys
import HandS.IsInst
import HandS.NoneIn
import HandS.Strs
import HandS.Flow
import HandS.Wide
import HandS.TupAny
import HandS.More
import PyProof.TupleOfSeq
import PySem.Challenge.RW_roomdials_k30_whole_bridges_rings_and_si
set_option Elab.async false
set_option linter.all false
set_option maxRecDepth 100000
set_option maxHeartbeats 4000000
/-! T0: the text by places. -/
namespace Yf
open PySem PySem.Spec PyProof.Rows L2
/-- the i-th statement of the top -/
def tp (i : Nat) : Stmt := PySem.Challenge.pw_roomdials_k30_whole_bridges_rings_and_si.main.body.getD i (.Pass ⟨0, 0, 0, 0⟩)
abbrev sJoined : Stmt := tp 15
abbrev sSteps : Stmt := tp 16
abbrev sReached : Stmt := tp 17
abbrev sLevel : Stmt := tp 18
abbrev sSides : Stmt := tp 19
abbrev sOdd : Stmt := tp 20
abbrev sRings : Stmt := tp 21
abbrev sBridges : Stmt := tp 22
abbrev sIsName : Stmt := tp 27
abbrev sIsInt : Stmt := tp 28
abbrev sBetween : Stmt := tp 29
abbrev sWrong : Stmt := tp 30
abbrev sWInit : Stmt := inClass (tp 31) 0
abbrev sWLen : Stmt := inClass (tp 31) 8
abbrev sPairOf : Stmt := tp 34
abbrev sBInit : Stmt := inClass (tp 38) 3
abbrev sPrepare : Stmt := inClass (tp 38) 4
abbrev sSortedPairs : Stmt := inClass (tp 38) 5
abbrev sCheck : Stmt := inClass (tp 38) 6
abbrev sRooms : Stmt := inClass (tp 38) 10
abbrev sCorridors : Stmt := inClass (tp 38) 11
abbrev sSidesP : Stmt := inClass (tp 38) 12
abbrev sBridgesP : Stmt := inClass (tp 38) 13
abbrev sOddP : Stmt := inClass (tp 38) 14
abbrev sCorrOf : Stmt := inClass (tp 38) 15
abbrev sNeigh : Stmt := inClass (tp 38) 16
abbrev sBank : Stmt := inClass (tp 38) 17
abbrev sPaths : Stmt := inClass (tp 38) 18
abbrev sPathsOn : Stmt := inClass (tp 38) 19
abbrev sBIn : Stmt := inClass (tp 38) 22
abbrev sBegin : Stmt := tp 40
abbrev sDraw : Stmt := tp 41
abbrev sPick : Stmt := tp 42
abbrev sShuffled : Stmt := tp 43
abbrev sNames : Stmt := tp 44
abbrev sLPair : Stmt := tp 45
abbrev sDrawn : Stmt := tp 46
abbrev sBuilt : Stmt := tp 47
abbrev sNear : Stmt := tp 48
abbrev sTwo : Stmt := tp 49
abbrev sSome : Stmt := tp 50
abbrev sMixed : Stmt := tp 51
abbrev sMiddled : Stmt := tp 52
abbrev sLaw : Stmt := tp 53
abbrev abc : Str := "abcdefghijklmnopqrstuvwxyz"
end Yf
set_option Elab.async false
set_option linter.all false
set_option maxRecDepth 100000
set_option maxHeartbeats 4000000
/-! H1: the head's facts, read by a hook of our own. -/
namespace Yf
open PySem PySem.Spec PyProof.Rows L2
/-- a def by where it stands -/
structure DefA where
  at_ : PySem.W.Frag → Addr
  name : Str
  qual : Str
  st : Stmt
  dfl : List He.Dv := []
def DefA.val (d : DefA) : He.FnW := some (d.name, d.qual, C8.fnArgs d.st, .stmts (C8.fnBody d.st), C8.fnScope d.st, mainGlobals, [], builtinsNs)
def fnA (K : PySem.W.Frag) (a : Addr) : He.FnW := match K.lookup a with
  | some ⟨_, _, .func fd, _⟩ => some (fd.name, fd.qualname, fd.params, fd.body, fd.scope, fd.globals, fd.closure, fd.builtins)
  | _ => none
def DefA.ok (K : PySem.W.Frag) (d : DefA) : Bool := match K.lookup (d.at_ K) with
  | some ⟨_, _, .func fd, _⟩ => PySem.W.codeIn K fd.code d.qual && He.dflB K fd.defaults (d.dfl.map (He.Dv.v K))
  | _ => false
theorem DefA.fun_ {K : PySem.W.Frag} {d : DefA} (e : fnA K (d.at_ K) = d.val) (c : d.ok K = true) : ∃ fd, C8.Fun K d.name d.qual d.st (d.at_ K) fd ∧ DflV K fd.defaults (d.dfl.map (He.Dv.v K)) := by
  unfold fnA at e
  unfold DefA.ok at c
  cases q : K.lookup (d.at_ K) with
  | none =>
    rw [q] at c
    cases c
  | some o =>
    obtain ⟨oc, od, dt, osl⟩ := o
    rw [q] at c e
    cases dt with
    | func fd =>
      obtain ⟨n1, n2, n3, n4, n5, n6, n7, n8, n9, n10, n11, n12, n13, n14, n15⟩ := fd
      have e2 : (some (n1, n2, n3, n4, n5, n6, n7, n15) : He.FnW) = some (d.name, d.qual, C8.fnArgs d.st, .stmts (C8.fnBody d.st), C8.fnScope d.st, mainGlobals, [], builtinsNs) := e
      simp only [Option.some.injEq, Prod.mk.injEq] at e2
      obtain ⟨h1, h2, h3, h4, h5, h6, h7, h8⟩ := e2
      subst h1 h2 h3 h4 h5 h6 h7 h8
      obtain ⟨k1, k2⟩ := He.ba (show (PySem.W.codeIn K n13 d.qual && He.dflB K n8 (d.dfl.map (He.Dv.v K))) = true from c)
      exact ⟨_, ⟨oc, od, n8, n9, n10, n11, n12, n13, n14, osl, rfl, q, k1⟩, He.dflB_ok k2⟩
    | _ => cases c
/-! ### own checks -/
def gloB (K : PySem.W.Frag) (x : Str) : Bool := (He.Fa.glo x).ok K && (He.Fa.keep x).ok K
def gAt (K : PySem.W.Frag) (C f : Str) : Addr := match PySem.W.recIn K (He.ma K (He.ga K C) f) "property" with
  | some (.ref g :: _) => g
  | _ => 0
def propB (K : PySem.W.Frag) (C f : Str) : Bool := He.eqO (PySem.W.findIn K (.ref (He.ga K C)) f) (some (some (.ref (He.ma K (He.ga K C) f)))) && (He.eqO (PySem.W.specialIn K (.ref (He.ma K (He.ga K C) f)) "__get__") (some (some (.builtin "property.__get__"))) &&
  (decide (PySem.W.takesIn K (.ref (He.ma K (He.ga K C) f)) = some true) && (match PySem.W.recIn K (He.ma K (He.ga K C) f) "property" with
    | some (.ref _ :: _) => true
    | _ => false)))
theorem propB_ok {K : PySem.W.Frag} {C f : Str} (h : propB K C f = true) : PropOf K (He.ga K C) f (He.ma K (He.ga K C) f) (gAt K C f) := by
  obtain ⟨h1, h⟩ := He.ba h
  obtain ⟨h2, h⟩ := He.ba h
  obtain ⟨h3, h4⟩ := He.ba h
  refine ⟨He.eqO_ok h1, He.eqO_ok h2, of_decide_eq_true h3, ?_⟩
  unfold gAt
  split at h4
  · rename_i g rest e
    rw [e]
    exact ⟨rest, rfl⟩
  · cases h4
def conB (K : PySem.W.Frag) (C f : Str) (i : Int) : Bool := !PySem.W.copiedNames.contains f && (match PySem.W.findIn K (.ref (He.ga K C)) f with
  | some (some (.int j t)) => decide (j = i) && He.eqO (PySem.W.specialIn K (.int j t) "__get__") (some none)
  | _ => false)
theorem conB_ok {K : PySem.W.Frag} {C f : Str} {i : Int} (h : conB K C f i = true) : ∃ u, Con K (He.ga K C) f (.int i) u := by
  obtain ⟨h1, h⟩ := He.ba h
  split at h
  · rename_i j t e
    obtain ⟨h2, h3⟩ := He.ba h
    have e2 := of_decide_eq_true h2
    subst e2
    exact ⟨.int j t, e, ⟨t, rfl⟩, He.eqO_ok h3, by simpa using h1⟩
  · cases h
def tup0B (K : PySem.W.Frag) (a : Addr) : Bool := match K.lookup a with
  | some ⟨.type c, _, .seq its _, _⟩ => decide (c = "tuple") && decide (its.size = 0)
  | _ => false
theorem tup0B_ok {K : PySem.W.Frag} {a : Addr} (h : tup0B K a = true) (H : Hp) : SqT K H a [] := by
  unfold tup0B at h
  split at h
  · rename_i c od its n sl q
    obtain ⟨h1, h2⟩ := He.ba h
    have h2 := of_decide_eq_true h2
    refine .inr ⟨_, its, n, q, congrArg Value.type (of_decide_eq_true h1), rfl, by rw [h2]; exact Nat.zero_le _, ?_⟩
    have e : its = #[] := Array.eq_empty_of_size_eq_zero h2
    rw [e]
    exact .nil
  · cases h
/-! ### the Hook -/
abbrev AlY : Type := Bool × List He.FnW
def obsY (ex : PySem.W.Frag → Bool) (fn : List DefA) (K : PySem.W.Frag) : AlY := (ex K && fn.all fun d => d.ok K, fn.map fun d => fnA K (d.at_ K))
def valY (fn : List DefA) : AlY := (true, fn.map DefA.val)
def SaysY (ex : PySem.W.Frag → Bool) (fn : List DefA) (K : PySem.W.Frag) : Prop := obsY ex fn K = valY fn
def obsYG (as : (Addr → Option Obj) → List Addr) (ex : PySem.W.Frag → Bool) (fn : List DefA) (g : Addr → Option Obj) : AlY := obsY ex fn (He.frG g (as g))
def hookY (as : (Addr → Option Obj) → List Addr) (ex : PySem.W.Frag → Bool) (fn : List DefA) : PySem.W.Hook where
  α := AlY
  obs := fun s => obsYG as ex fn s.heap.get?
  val := fun _ => valY fn
  says := fun _ h => ∃ K : PySem.W.Frag, K.In h ∧ SaysY ex fn K
  of := fun _ _ e => ⟨_, He.frG_in, e⟩
  keeps := fun _ _ _ ⟨K, hK, c⟩ k => ⟨K, PySem.W.Frag.In.keeps hK k, c⟩
theorem obsYG_eq {as : (Addr → Option Obj) → List Addr} {ex : PySem.W.Frag → Bool} {fn : List DefA} {g : Addr → Option Obj} {s : Shared} (h : ∀ a, g a = s.heap.get? a) : obsYG as ex fn g = (hookY as ex fn).obs s := by
  have e : g = s.heap.get? := funext h
  rw [e] <;> rfl
section
variable {ex : PySem.W.Frag → Bool} {fn : List DefA} {K : PySem.W.Frag}
theorem SaysY.more (c : SaysY ex fn K) : ex K = true := (He.ba (show (ex K && fn.all fun d => d.ok K) = true from congrArg (fun z : AlY => z.1) c)).1
theorem SaysY.def_ (c : SaysY ex fn K) (i : Nat) {d : DefA} (h : fn[i]? = some d := by rfl) : ∃ fd, C8.Fun K d.name d.qual d.st (d.at_ K) fd ∧ DflV K fd.defaults (d.dfl.map (He.Dv.v K)) := by
  have c2 := (He.ba (show (ex K && fn.all fun d => d.ok K) = true from congrArg (fun z : AlY => z.1) c)).2
  have e : fn.map (fun d => fnA K (d.at_ K)) = fn.map DefA.val := congrArg (fun z : AlY => z.2) c
  have e2 : (fn.map fun d => fnA K (d.at_ K))[i]? = (fn.map DefA.val)[i]? := by rw [e]
  rw [List.getElem?_map, List.getElem?_map, h] at e2
  exact DefA.fun_ (Option.some.inj e2) (List.all_eq_true.mp c2 d (List.mem_of_getElem? h))
end
/-! ### this program's -/
def dG (x : Str) (st : Stmt) (dfl : List He.Dv := []) : DefA := ⟨fun K => He.ga K x, x, x, st, dfl⟩
def dM (C m qual : Str) (st : Stmt) : DefA := ⟨fun K => He.ma K (He.ga K C) m, m, qual, st, []⟩
def dP (C m qual : Str) (st : Stmt) : DefA := ⟨fun K => gAt K C m, m, qual, st, []⟩
def fn1 : List DefA := [dG "joined_rooms" sJoined, dG "steps_from" sSteps [.adr (He.dflAt ("steps_from", none) 0)], dG "reached_from" sReached [.adr (He.dflAt ("reached_from", none) 0)], dG "level_corridor" sLevel, dG "sides_of" sSides, dG "odd_ring_of" sOdd, dG "on_rings" sRings, dG "bridges_of" sBridges, dG "is_name" sIsName, dG "is_integer" sIsInt, dG "is_between" sBetween, dG "wrong_place" sWrong, dG "pair_of" sPairOf]
def fn2 : List DefA := [dM "Walk" "__init__" "Walk.__init__" sWInit, dM "Walk" "__len__" "Walk.__len__" sWLen, dM "Building" "__init__" "Building.__init__" sBInit, dM "Building" "prepare" "Building.prepare" sPrepare, dM "Building" "sorted_pairs" "Building.sorted_pairs" sSortedPairs, dM "Building" "check_connected" "Building.check_connected" sCheck,
  dM "Building" "corridor_of" "Building.corridor_of" sCorrOf, dM "Building" "neighbours" "Building.neighbours" sNeigh, dM "Building" "bank" "Building.bank" sBank, dM "Building" "paths" "Building.paths" sPaths, dM "Building" "paths_on" "Building.paths_on" sPathsOn, dM "Building" "__contains__" "Building.__contains__" sBIn,
  dP "Building" "rooms" "Building.rooms" sRooms, dP "Building" "corridors" "Building.corridors" sCorridors, dP "Building" "sides" "Building.sides" sSidesP, dP "Building" "bridges" "Building.bridges" sBridgesP, dP "Building" "odd_ring" "Building.odd_ring" sOddP]
def fn3 : List DefA := [dG "_law_begin" sBegin, dG "_law_draw" sDraw, dG "_law_pick" sPick, dG "_law_shuffled" sShuffled, dG "_law_names" sNames, dG "_law_pair" sLPair, dG "_law_drawn" sDrawn, dG "_law_built" sBuilt, dG "_law_near" sNear, dG "_law_two_sided" sTwo, dG "_law_some_plan" sSome, dG "_law_is_mixed" sMixed, dG "_law_middled" sMiddled, dG "law" sLaw]
def gl1 : List Str := ["joined_rooms", "steps_from", "reached_from", "level_corridor", "sides_of", "odd_ring_of", "on_rings", "bridges_of", "is_name", "is_integer", "is_between", "wrong_place", "pair_of"]
def gl2 : List Str := ["_law_begin", "_law_draw", "_law_pick", "_law_shuffled", "_law_names", "_law_pair", "_law_drawn", "_law_built", "_law_near", "_law_two_sided", "_law_some_plan", "_law_is_mixed", "_law_middled", "law"]
def fr1 : List Str := ["len", "sorted", "min", "list", "tuple", "dict", "int", "isinstance", "all", "range", "enumerate", "str", "bool"]
def pr1 : List Str := ["rooms", "corridors", "sides", "bridges", "odd_ring"]
def me1 : List Str := ["prepare", "sorted_pairs", "check_connected", "corridor_of", "neighbours", "bank", "paths", "paths_on", "__contains__"]
def na1 : List Str := ["sizes", "pairs", "near", "own_sides", "own_ring", "own_bridges"]
def na2 : List Str := ["own_rooms", "entered", "key"]
/-- the parts of ex -/
def ex1 (K : PySem.W.Frag) : List Bool := [gl1.all (gloB K), gl2.all (gloB K), fr1.all fun x => (He.Fa.free x).ok K, (He.Fa.glo "Walk").ok K && (He.Fa.glo "Building").ok K,
  (He.Fa.str "LETTERS" abc).ok K && (He.Fa.int "LONGEST_NAME" 8).ok K, (He.Fa.int "MOST" 10001).ok K && (He.Fa.int "MOST_SIZE_buildings" 1000000000).ok K,
  (He.Fa.cls "Building").ok K && (He.Fa.cls "Walk").ok K, (He.Fa.mkr "Building").ok K && (He.Fa.mkr "Walk").ok K]
def ex2 (K : PySem.W.Frag) : List Bool := [na1.all fun f => (He.Fa.noat "Building" f).ok K, na2.all fun f => (He.Fa.noat "Walk" f).ok K,
  me1.all fun m => (He.Fa.meth "Building" m).ok K, (He.Fa.meth "Walk" "__len__").ok K, pr1.all fun f => propB K "Building" f,
  conB K "Building" "MOST_ROOMS" 24 && conB K "Building" "MOST_CORRIDORS" 40, tup0B K (He.dflAt ("steps_from", none) 0 K) && tup0B K (He.dflAt ("reached_from", none) 0 K)]
def exY (K : PySem.W.Frag) : Bool := (ex1 K).all id && (ex2 K).all id
abbrev rowR : PySem.W.OpenRow := PySem.W.OpenLaw.row PySem.Challenge.rw_roomdials_k30_whole_bridges_rings_and_si
abbrev fnY : List DefA := fn1 ++ fn2 ++ fn3
/-- what the facts look at: the module's names, the two classes' methods and properties, their codes and defaults -/
def refY (g : Addr → Option Obj) (a : Addr) : List Addr := match g a with
  | some o => (match o.data with
    | .func fd => He.refV fd.code ++ He.refV fd.defaults
    | .cls cd => [cd.ns]
    | .dict es _ => es.toList.flatMap fun e => He.refV e.val
    | .fields vs => vs.toList.flatMap He.refV
    | _ => [])
  | none => []
def rootY (g : Addr → Option Obj) : List Addr := ((["Walk", "Building"] : List Str) ++ (gl1 ++ gl2)).map fun x => He.ga (He.frG g [mainGlobals]) x
def clsY (g : Addr → Option Obj) : List Addr := (["Walk", "Building"] : List Str).flatMap fun x => (refY g (He.ga (He.frG g [mainGlobals]) x)).flatMap (refY g)
def getY (g : Addr → Option Obj) : List Addr := (clsY g).flatMap fun a => match g a with
  | some ⟨.type c, _, .fields vs, _⟩ => if c = "property" then vs.toList.flatMap He.refV else []
  | _ => []
def codY (g : Addr → Option Obj) (as : List Addr) : List Addr := as.flatMap fun a => match g a with
  | some ⟨_, _, .func fd, _⟩ => He.refV fd.code
  | _ => []
def seqY (g : Addr → Option Obj) (as : List Addr) : List Addr := as.flatMap fun a => match g a with
  | some ⟨_, _, .seq its _, _⟩ => its.toList.flatMap He.refV
  | _ => []
def asY (g : Addr → Option Obj) : List Addr := mainGlobals :: (rootY g ++ ((rootY g).flatMap (refY g) ++ (clsY g ++ (getY g ++ (codY g (clsY g) ++ (codY g (getY g) ++ seqY g ((rootY g).flatMap (refY g))))))))
abbrev hkY : PySem.W.Hook := hookY asY exY fnY
def KY (s : PySem.W.SharedT) : PySem.W.Frag := He.frG (HandSHeadRun.getT s) (asY (HandSHeadRun.getT s))
def obY (s : PySem.W.SharedT) : AlY := obsYG asY exY fnY (HandSHeadRun.getT s)
theorem obY_eq (s : PySem.W.SharedT) : obY s = hkY.obs s.abs := obsYG_eq (HandSHeadRun.getT_eq s)
def lo1 : List PySem.Str := ["_wall", "RoomdialsError", "InvalidName", "InvalidSize", "InvalidCorridor", "TooLarge", "NotConnected", "InvalidText", "UnknownRoom", "UnknownCorridor", "InvalidWalk", "NotJoined", "OutOfRange", "joined_rooms", "steps_from", "reached_from", "level_corridor", "sides_of", "odd_ring_of", "on_rings"]
def lo2 : List PySem.Str := ["bridges_of", "LETTERS", "LONGEST_NAME", "MOST", "is_name", "is_integer", "is_between", "wrong_place", "Walk", "MOST_SIZE_buildings", "pair_of", "size_in", "is_room_line", "is_corridor_line", "Building", "_law_begin", "_law_draw", "_law_pick", "_law_shuffled", "_law_names", "_law_pair", "_law_drawn", "_law_built", "_law_near", "_law_two_sided", "_law_some_plan", "_law_is_mixed", "_law_middled"]
end Yf
set_option Elab.async false
set_option linter.all false
set_option maxRecDepth 100000
set_option maxHeartbeats 0
/-! H3: the run of the top by the kernel. -/
namespace Yf
open PySem PySem.W PySem.Calls PyProof.Rows HandSHeadRun
theorem runY (w : World) : HandSHeadRun.RunEq rowR (PySem.W.view rowR.prog [53]) hkY obY 30000 (lo1 ++ lo2) w := by
  intro os
  kernel_rfl
end Yf
set_option Elab.async false
set_option linter.all false
set_option maxRecDepth 100000
set_option maxHeartbeats 4000000
/-! G1: a machine that lets a generator sleep in «yield from» over a generator, and what runs on it. -/
namespace Yf
open PySem
open Sem (wp)

/-- a suspension that the machine lets pass while nothing is registered -/
def Mild (s : Shared) (c : Code) (g : Bool) (fs : List Frame) : Prop :=
  fs.any Frame.guarded = false ∧ (g = false ∨ ∃ (a : Addr) (rest : List Value) (kw : List (Str × Value)) (o : Obj) (n : Nat),
    c = .builtin "proto.yield_from" ⟨.ref a :: rest, kw⟩ ∧ s.heap.get? a = some o ∧ o.genNumber? = some n)
theorem mild_quiet {s : Shared} {v g l k c p fs} (h : (End.susp v g l k c p fs).quiet = true) : Mild s c g fs := by
  have q : (!(g || fs.any Frame.guarded)) = true := h
  cases g with
  | true => cases q
  | false =>
    refine ⟨?_, .inl rfl⟩
    cases e : fs.any Frame.guarded with
    | false => rfl
    | true => rw [e] at q; cases q

/-- one step: a calm one, or a mild suspension -/
inductive Stp (M : Model) : Shared → Thread → Shared → Thread → Prop
  | calm {s : Shared} {t : Thread} {s' : Shared} {t' : Thread} : M.step s t = .go s' t' → Stp M s t s' t'
  | mild {s : Shared} {v : Value} {g₀ : Bool} {l₀ : List Value} {k₀ : Resume → Sem PySem.Fin} {c : Code} {p : Pos} {st fs : List Frame} {g : Nat} {k : GenResult → Sem PySem.Fin} {c' : Code} {p' : Pos} {rest : List Frame} :
      splitAtGen st = some (fs, (g, k, c', p'), rest) → Mild s c g₀ fs →
      Stp M s ⟨.yield v g₀ l₀ k₀, c, p, st⟩ (s.setGen g (End.susp v g₀ l₀ k₀ c p fs).genState) ⟨k (.yielded v), c', p', rest⟩
/-- steps over a base of frames, to an end -/
inductive To (M : Model) (base : List Frame) : Shared → Sem PySem.Fin → Code → Pos → List Frame → Shared → End → Prop
  | out {s : Shared} {t : Sem PySem.Fin} {c : Code} {p : Pos} {pre : List Frame} {e : End} : Exits e t c p pre → To M base s t c p pre s e
  | go {s : Shared} {t : Sem PySem.Fin} {c : Code} {p : Pos} {pre : List Frame} {s₁ : Shared} {t₁ : Sem PySem.Fin} {c₁ : Code} {p₁ : Pos} {pre₁ : List Frame} {s' : Shared} {e : End} :
      Stp M s ⟨t, c, p, pre ++ base⟩ s₁ ⟨t₁, c₁, p₁, pre₁ ++ base⟩ → To M base s₁ t₁ c₁ p₁ pre₁ s' e → To M base s t c p pre s' e

variable {M : Model}
theorem To.reach {base : List Frame} {s : Shared} {t : Sem PySem.Fin} {c : Code} {p : Pos} {pre : List Frame} {s' : Shared} {e : End} (h : Reach M base s t c p pre s' e) : To M base s t c p pre s' e := by
  induction h with
  | exit hx => exact .out hx
  | step hs _ ih => exact .go (.calm hs) ih
theorem To.onto {base B : List Frame} {s : Shared} {t : Sem PySem.Fin} {c : Code} {p : Pos} {pre : List Frame} {s₁ : Shared} {e₁ : End} {s' : Shared} {e : End} (h : To M (B ++ base) s t c p pre s₁ e₁)
    (next : ∀ t' c' p' pre', Exits e₁ t' c' p' pre' → To M base s₁ t' c' p' (pre' ++ B) s' e) : To M base s t c p (pre ++ B) s' e := by
  induction h with
  | out hx => exact next _ _ _ _ hx
  | go hs _ ih => exact .go (by rw [List.append_assoc, List.append_assoc]; exact hs) (ih next)

/-- from a tree under frames to an end, whatever stands below -/
def Goes (M : Model) (Γ : Ctx) (p : Pos) (t : Sem PySem.Fin) (fs : List Frame) (s : Shared) (e : End) (s' : Shared) : Prop :=
  ∀ base, Γ.Fits base → To M base s t Γ.code p fs s' e
section
variable {Γ : Ctx} {p p₁ : Pos} {t t₁ : Sem PySem.Fin} {fs : List Frame} {s s₁ s' : Shared} {e : End}
theorem goes_runs (h : Runs M Γ p t fs s e s') : Goes M Γ p t fs s e s' := fun base hf => .reach (runs_reach h base hf)
theorem goes_head (hs : ∀ base, Γ.Fits base → M.step s ⟨t, Γ.code, p, fs ++ base⟩ = .go s₁ ⟨t₁, Γ.code, p₁, fs ++ base⟩) (h : Goes M Γ p₁ t₁ fs s₁ e s') : Goes M Γ p t fs s e s' :=
  fun base hf => .go (.calm (hs base hf)) (h base hf)
theorem goes_call {c' : Code} {h : Option Value} {g : Bool} {l : List Value} {k : Result → Sem PySem.Fin} (x : Goes M (Γ.goto c') p (M.den c') (.ret k h g l Γ.code p [] :: fs) s e s') : Goes M Γ p (.call c' h g l k) fs s e s' :=
  fun base hf => .go (pre₁ := .ret k h g l Γ.code p [] :: fs) (.calm (step_call ..)) (x base (hf.goto _))
theorem goes_pop {k : Result → Sem PySem.Fin} {h : Option Value} {g : Bool} {l : List Value} {c₁ : Code} {kp : List Value} (r : Result) (x : Goes M (Γ.goto c₁) p₁ (k r) fs s e s') :
    Goes M Γ p (leafOf r) (.ret k h g l c₁ p₁ kp :: fs) s e s' :=
  fun base hf => .go (pre₁ := fs) (.calm (step_leaf_ret ..)) (x base (hf.goto _))
theorem goes_again {c' : Code} (hq : c'.quiet = true) (x : Goes M (Γ.goto c') p (M.den c') fs s e s') : Goes M Γ p (.pure (.again c')) fs s e s' :=
  fun base hf => .go (pre₁ := fs) (.calm (step_again _ _ _ _ _ _ hq)) (x base (hf.goto _))
theorem goes_yield {v : Value} {g : Bool} {l : List Value} {k : Resume → Sem PySem.Fin} (hfs : splitAtGen fs = none) : Goes M Γ p (.yield v g l k) fs s (.susp v g l k Γ.code p fs) s :=
  fun base _ => .out ⟨rfl, rfl, rfl, rfl, hfs⟩
theorem goes_leaf (r : Result) : Goes M Γ p (leafOf r) [] s (.ret r) s := fun base _ => .out ⟨rfl, rfl⟩
/-- a code that returns, then the rest -/
theorem goes_ret {c' : Code} {h : Option Value} {g : Bool} {l : List Value} {k : Result → Sem PySem.Fin} {r : Result} (x : Returns M ((Γ.over fs).enter c' h p) p s r s₁) (y : Goes M Γ p (k r) fs s₁ e s') : Goes M Γ p (.call c' h g l k) fs s e s' := by
  intro base hf
  refine .go (pre₁ := .ret k h g l Γ.code p [] :: fs) (.calm (step_call ..)) ?_
  have z := To.reach (runs_reach x (.ret k h g l Γ.code p [] :: (fs ++ base)) ((hf.over fs).enter c' k h g l p []))
  refine To.onto (B := .ret k h g l Γ.code p [] :: fs) (pre := []) z ?_
  rintro _ _ _ _ ⟨rfl, rfl⟩
  exact .go (pre₁ := fs) (.calm (step_leaf_ret ..)) (y base hf)
end

/-- out of a generator: its end, or a mild suspension -/
def MildE (s : Shared) : End → Prop
  | .ret _ => True
  | .susp _ g _ _ c _ fs => Mild s c g fs
theorem out_gen {e₁ : End} {t' : Sem PySem.Fin} {c' : Code} {p' : Pos} {pre' : List Frame} (s₁ : Shared) (g : Nat) (k : GenResult → Sem PySem.Fin) (l : List Value) (c : Code) (p : Pos) (st : List Frame) (hx : Exits e₁ t' c' p' pre') (hq : MildE s₁ e₁) :
    Stp M s₁ ⟨t', c', p', pre' ++ .gen g k l c p :: st⟩ (s₁.setGen g e₁.genState) ⟨k e₁.result, c, p, st⟩ := by
  cases e₁ with
  | ret r => obtain ⟨rfl, rfl⟩ := hx; exact .calm (step_leaf_gen ..)
  | susp v g₀ l₀ k₀ c₀ p₀ fs =>
    obtain ⟨rfl, rfl, rfl, rfl, hfs⟩ := hx
    exact .mild (by rw [splitAtGen_append_none _ hfs, splitAtGen_gen]; simp) hq
section
variable {Γ : Ctx} {p : Pos} {fs : List Frame} {s s₁ s' : Shared} {e e₁ : End} {g : Nat} {l : List Value} {k : GenResult → Sem PySem.Fin}
theorem goes_fresh {c : Code} (hg : s.gens[g]? = some (.fresh c)) (x : Goes M ((Γ.over fs).wake c p) p (M.den c) [] (s.setGen g .running) e₁ s₁) (hq : MildE s₁ e₁) (y : Goes M Γ p (k e₁.result) fs (s₁.setGen g e₁.genState) e s') :
    Goes M Γ p (.resume g (.send .none) l k) fs s e s' := by
  intro base hf
  refine .go (pre₁ := .gen g k l Γ.code p :: fs) (.calm (step_resume_fresh _ _ _ _ _ _ _ hg)) ?_
  have z := x (.gen g k l Γ.code p :: (fs ++ base)) ((hf.over fs).wake c g k l p)
  refine To.onto (B := .gen g k l Γ.code p :: fs) (pre := []) z ?_
  intro t' c' p' pre' hx
  refine .go (pre₁ := fs) ?_ (y base hf)
  rw [List.append_assoc, List.cons_append]
  exact out_gen _ _ _ _ _ _ _ hx hq
theorem goes_slept {r : Resume} {k₀ : Resume → Sem PySem.Fin} {l₀ : List Value} {c₀ : Code} {p₀ : Pos} {fs₀ : List Frame} {cl : Bool} (hg : s.gens[g]? = some (.suspended k₀ l₀ c₀ p₀ fs₀ cl)) (x : Goes M ((Γ.over fs).wake c₀ p) p₀ (k₀ r) fs₀ (s.setGen g .running) e₁ s₁) (hq : MildE s₁ e₁)
    (y : Goes M Γ p (k e₁.result) fs (s₁.setGen g e₁.genState) e s') : Goes M Γ p (.resume g r l k) fs s e s' := by
  intro base hf
  refine .go (pre₁ := fs₀ ++ .gen g k l Γ.code p :: fs) (.calm (by rw [List.append_assoc, List.cons_append]; exact step_resume_suspended _ _ _ _ _ _ _ _ hg)) ?_
  have z := x (.gen g k l Γ.code p :: (fs ++ base)) ((hf.over fs).wake c₀ g k l p)
  refine To.onto (B := .gen g k l Γ.code p :: fs) z ?_
  intro t' c' p' pre' hx
  refine .go (pre₁ := fs) ?_ (y base hf)
  rw [List.append_assoc, List.cons_append]
  exact out_gen _ _ _ _ _ _ _ hx hq
/-- a generator that the library's own logic wakes -/
theorem goes_wakes {r : Resume} {res : GenResult} (h : Wakes M (Γ.over fs) p g r s res s₁) (y : Goes M Γ p (k res) fs s₁ e s') : Goes M Γ p (.resume g r l k) fs s e s' := by
  unfold Wakes at h
  cases hg : s.gens[g]? with
  | none => rw [hg] at h; exact h.elim
  | some gs =>
    rw [hg] at h
    cases gs with
    | fresh c =>
      cases r with
      | send v =>
        cases v with
        | none =>
          obtain ⟨e₁, s₂, hr, hq, rfl, rfl⟩ := h
          refine goes_fresh hg (goes_runs hr) ?_ y
          cases e₁ with
          | ret _ => trivial
          | susp => exact mild_quiet hq
        | _ => obtain ⟨rfl, rfl⟩ := h; exact goes_head (fun base _ => step_resume_justStarted _ _ _ _ _ _ _ hg (fun z => nomatch z)) y
      | throw x => obtain ⟨rfl, rfl⟩ := h; exact goes_head (fun base _ => step_resume_throwFresh _ _ _ _ _ _ _ _ hg) y
    | suspended k₀ l₀ c₀ p₀ fs₀ cl =>
      obtain ⟨e₁, s₂, hr, hq, rfl, rfl⟩ := h
      refine goes_slept hg (goes_runs hr) ?_ y
      cases e₁ with
      | ret _ => trivial
      | susp => exact mild_quiet hq
    | running => obtain ⟨rfl, rfl⟩ := h; exact goes_head (fun base _ => step_resume_running _ _ _ _ _ _ _ _ hg) y
    | finished => obtain ⟨rfl, rfl⟩ := h; exact goes_head (fun base _ => step_resume_finished _ _ _ _ _ _ _ _ hg) y
end

/-- a tree of the library's logic, then one's own -/
theorem goes_wrap {α : Type} {Γ : Ctx} {fs : List Frame} {Φ : End → Shared → Prop} (K : α → Sem PySem.Fin) (H : Value → Sem PySem.Fin) (gd : Bool → Bool) (lv : List Value → List Value) (m : Sem α) :
    ∀ {Q : α → Pos → Shared → Prop} {E : Value → Pos → Shared → Prop} {p : Pos} {s : Shared}, wp M (Γ.over fs) m Q E p s →
      (∀ a p' s', Q a p' s' → ∃ e s'', Goes M Γ p' (K a) fs s' e s'' ∧ Φ e s'') → (∀ x p' s', E x p' s' → ∃ e s'', Goes M Γ p' (H x) fs s' e s'' ∧ Φ e s'') →
      ∃ e s'', Goes M Γ p (m.wrap K H gd lv) fs s e s'' ∧ Φ e s'' := by
  induction m with
  | pure a => intro Q E p s h hQ _; exact hQ a p s h
  | raise x => intro Q E p s h _ hE; exact hE x p s h
  | unsupported what => intro Q E p s h; exact h.elim
  | finish x => intro Q E p s h; exact h.elim
  | register a k => intro Q E p s h; exact h.elim
  | yield v g l k => intro Q E p s h; exact h.elim
  | fork c k => intro Q E p s h; exact h.elim
  | await a f d l k => intro Q E p s h; exact h.elim
  | rule tag k ih => intro Q E p s h hQ hE; obtain ⟨e, s'', hr, hΦ⟩ := ih () h hQ hE; exact ⟨e, s'', goes_head (fun _ _ => step_rule ..) hr, hΦ⟩
  | «at» p' k ih => intro Q E p s h hQ hE; obtain ⟨e, s'', hr, hΦ⟩ := ih () h hQ hE; exact ⟨e, s'', goes_head (fun _ _ => step_at ..) hr, hΦ⟩
  | load a part k ih =>
    intro Q E p s h hQ hE; obtain ⟨o, ho, h⟩ := h
    obtain ⟨e, s'', hr, hΦ⟩ := ih o h hQ hE; exact ⟨e, s'', goes_head (fun _ _ => step_load _ _ _ _ _ _ _ ho) hr, hΦ⟩
  | update a part f k ih =>
    intro Q E p s h hQ hE; obtain ⟨ha, h⟩ := h
    obtain ⟨e, s'', hr, hΦ⟩ := ih () h hQ hE; exact ⟨e, s'', goes_head (fun _ _ => step_update _ _ _ _ _ _ _ _ ha) hr, hΦ⟩
  | alloc o k ih => intro Q E p s h hQ hE; obtain ⟨e, s'', hr, hΦ⟩ := ih _ h hQ hE; exact ⟨e, s'', goes_head (fun _ _ => step_alloc ..) hr, hΦ⟩
  | loadIfAlive a k ih => intro Q E p s h hQ hE; obtain ⟨e, s'', hr, hΦ⟩ := ih _ h hQ hE; exact ⟨e, s'', goes_head (fun _ _ => step_loadIfAlive ..) hr, hΦ⟩
  | point l k ih => intro Q E p s h hQ hE; obtain ⟨e, s'', hr, hΦ⟩ := ih _ h hQ hE; exact ⟨e, s'', goes_head (fun _ _ => step_point ..) hr, hΦ⟩
  | fresh k ih => intro Q E p s h hQ hE; obtain ⟨e, s'', hr, hΦ⟩ := ih _ h hQ hE; exact ⟨e, s'', goes_head (fun _ _ => step_fresh ..) hr, hΦ⟩
  | ask k ih => intro Q E p s h hQ hE; obtain ⟨e, s'', hr, hΦ⟩ := ih _ h hQ hE; exact ⟨e, s'', goes_head (fun _ _ => step_ask ..) hr, hΦ⟩
  | choose src n k ih =>
    intro Q E p s h hQ hE; obtain ⟨hn, h⟩ := h
    obtain ⟨e, s'', hr, hΦ⟩ := ih _ h hQ hE; exact ⟨e, s'', goes_head (fun _ _ => step_choose _ _ _ _ _ _ _ hn) hr, hΦ⟩
  | os q l k ih => intro Q E p s h hQ hE; obtain ⟨e, s'', hr, hΦ⟩ := ih _ h hQ hE; exact ⟨e, s'', goes_head (fun _ _ => step_os ..) hr, hΦ⟩
  | call c h g l k ih =>
    intro Q E p s hw hQ hE; obtain ⟨r, s₁, hret, hw⟩ := hw
    obtain ⟨e, s'', hr, hΦ⟩ := ih r hw hQ hE; exact ⟨e, s'', goes_ret hret hr, hΦ⟩
  | handled own k ih =>
    intro Q E p s h hQ hE; obtain ⟨e, s'', hr, hΦ⟩ := ih _ h hQ hE
    refine ⟨e, s'', goes_head (fun base hf => ?_) hr, hΦ⟩
    have hf' := hf.over fs
    refine (step_handled ..).trans ?_
    cases own
    · rw [hf'.handled]; rfl
    · rw [hf'.own]; rfl
  | newGen c k ih => intro Q E p s h hQ hE; obtain ⟨e, s'', hr, hΦ⟩ := ih _ h hQ hE; exact ⟨e, s'', goes_head (fun _ _ => step_newGen ..) hr, hΦ⟩
  | genState g k ih =>
    intro Q E p s h hQ hE; obtain ⟨st, hg, h⟩ := h
    obtain ⟨e, s'', hr, hΦ⟩ := ih _ h hQ hE; exact ⟨e, s'', goes_head (fun _ _ => step_genState _ _ _ _ _ _ hg) hr, hΦ⟩
  | resume g r l k ih =>
    intro Q E p s h hQ hE; obtain ⟨res, s₁, hwk, h⟩ := h
    obtain ⟨e, s'', hr, hΦ⟩ := ih res h hQ hE
    exact ⟨e, s'', goes_wakes hwk hr, hΦ⟩
  | stack k ih =>
    intro Q E p s h hQ hE; obtain ⟨e, s'', hr, hΦ⟩ := ih _ h hQ hE
    refine ⟨e, s'', goes_head (fun base hf => ?_) hr, hΦ⟩
    have hf' := hf.over fs
    refine (step_stack ..).trans ?_
    rw [hf'.below]; rfl
  | thread k ih => intro Q E p s h hQ hE; obtain ⟨e, s'', hr, hΦ⟩ := ih _ h hQ hE; exact ⟨e, s'', goes_head (fun _ _ => step_thread ..) hr, hΦ⟩

/-! ### segments -/
def EndOf (R : GenEnd) (Y : Protocol) (n : Nat) (go : Code → Sem PySem.Fin → List Frame → Shared → Prop) (s₀ : Shared) (e : End) (s' : Shared) : Prop :=
  match e with
  | .ret r => R n s₀ r s'
  | .susp v g _ k c _ fs => Mild s' c g fs ∧ Y (n - 1) s₀ v s' fun r s'' => go c (k r) fs s''
/-- as Seg, over Goes -/
def Sg (M : Model) (A : Around) (R : GenEnd) (Y : Protocol) : Nat → Shared → Code → Sem PySem.Fin → List Frame → Shared → Prop
  | 0 => fun s₀ c t fs s => ∀ Γ p, Γ.code = c → Γ.Woken A → ∃ e s', Goes M Γ p t fs s e s' ∧ EndOf R Y 0 (fun _ _ _ _ => False) s₀ e s'
  | n + 1 => fun s₀ c t fs s => ∀ Γ p, Γ.code = c → Γ.Woken A → ∃ e s', Goes M Γ p t fs s e s' ∧ EndOf R Y (n + 1) (fun c' t' fs' s'' => Sg M A R Y n s'' c' t' fs' s'') s₀ e s'
def Sg.next (M : Model) (A : Around) (R : GenEnd) (Y : Protocol) : Nat → Code → Sem PySem.Fin → List Frame → Shared → Prop
  | 0 => fun _ _ _ _ => False
  | n + 1 => fun c t fs s'' => Sg M A R Y n s'' c t fs s''
theorem sg_iff {A : Around} {R : GenEnd} {Y : Protocol} {n : Nat} {s₀ : Shared} {c : Code} {t : Sem PySem.Fin} {fs : List Frame} {s : Shared} :
    Sg M A R Y n s₀ c t fs s ↔ ∀ Γ p, Γ.code = c → Γ.Woken A → ∃ e s', Goes M Γ p t fs s e s' ∧ EndOf R Y n (Sg.next M A R Y n) s₀ e s' := by
  cases n <;> rfl
section
variable {A : Around} {R : GenEnd} {Y : Protocol} {n : Nat} {s₀ : Shared} {c : Code} {fs : List Frame} {s : Shared}
theorem sg_wrap {α : Type} {m : Sem α} {K : α → Sem PySem.Fin} {H : Value → Sem PySem.Fin} {gd : Bool → Bool} {lv : List Value → List Value}
    (h : wpAny M (A.over c fs) m (fun a s' => Sg M A R Y n s₀ c (K a) fs s') (fun x s' => Sg M A R Y n s₀ c (H x) fs s') s) : Sg M A R Y n s₀ c (m.wrap K H gd lv) fs s := by
  rw [sg_iff]
  rintro Γ p rfl hΓ
  exact goes_wrap K H gd lv m (h (Γ.over fs) p (hΓ.over fs)) (fun a p' s' h' => sg_iff.mp h' Γ p' rfl hΓ) (fun x p' s' h' => sg_iff.mp h' Γ p' rfl hΓ)
theorem sg_bind {α : Type} {m : Sem α} {K : α → Sem PySem.Fin}
    (h : wpAny M (A.over c fs) m (fun a s' => Sg M A R Y n s₀ c (K a) fs s') (fun x s' => Sg M A R Y n s₀ c (.raise x) fs s') s) : Sg M A R Y n s₀ c (m >>= K) fs s := by
  rw [Sem.bind_eq_wrap']; exact sg_wrap h
/-- a bind within a wrap -/
theorem sg_bindw {α β : Type} {m : Sem α} {f : α → Sem β} {K : β → Sem PySem.Fin} {J : Value → Sem PySem.Fin} {gd : Bool → Bool} {lv : List Value → List Value}
    (h : wpAny M (A.over c fs) m (fun a s' => Sg M A R Y n s₀ c ((f a).wrap K J gd lv) fs s') (fun x s' => Sg M A R Y n s₀ c (J x) fs s') s) : Sg M A R Y n s₀ c ((m >>= f).wrap K J gd lv) fs s := by
  rw [Sem.bind_eq_wrap', Sem.wrap_wrap]; exact sg_wrap h
theorem sg_at {p' : Pos} {k : Unit → Sem PySem.Fin} (h : Sg M A R Y n s₀ c (k ()) fs s) : Sg M A R Y n s₀ c (.at p' k) fs s :=
  sg_wrap (m := standAt p') (K := k) (H := .raise) (gd := id) (lv := id) (wpAny_standAt h)
theorem sg_point {l : List Value} {k : Unit → Sem PySem.Fin} (h : Sg M A R Y n s₀ c (k ()) fs s) : Sg M A R Y n s₀ c (.point l k) fs s :=
  sg_wrap (m := point) (K := k) (H := .raise) (gd := id) (lv := fun _ => l) (wpAny_point h)
theorem sg_rule {tag : String} {k : Unit → Sem PySem.Fin} (h : Sg M A R Y n s₀ c (k ()) fs s) : Sg M A R Y n s₀ c (.rule tag k) fs s :=
  sg_wrap (m := rule tag) (K := k) (H := .raise) (gd := id) (lv := id) (wpAny_rule h)
theorem sg_call {c' : Code} {h : Option Value} {g : Bool} {l : List Value} {k : Result → Sem PySem.Fin} (hc : ∀ p, Sg M A R Y n s₀ c' (M.den c') (.ret k h g l c p [] :: fs) s) : Sg M A R Y n s₀ c (.call c' h g l k) fs s := by
  rw [sg_iff]
  rintro Γ p rfl hΓ
  obtain ⟨e, s', hr, he⟩ := sg_iff.mp (hc p) (Γ.goto c') p rfl (hΓ.goto c')
  exact ⟨e, s', goes_call hr, he⟩
theorem sg_leaf {k : Result → Sem PySem.Fin} {h : Option Value} {g : Bool} {l : List Value} {c₁ : Code} {p₁ : Pos} {kp : List Value} (r : Result) (hk : Sg M A R Y n s₀ c₁ (k r) fs s) : Sg M A R Y n s₀ c (leafOf r) (.ret k h g l c₁ p₁ kp :: fs) s := by
  rw [sg_iff]
  rintro Γ p rfl hΓ
  obtain ⟨e, s', hr, he⟩ := sg_iff.mp hk (Γ.goto c₁) p₁ rfl (hΓ.goto c₁)
  exact ⟨e, s', goes_pop r hr, he⟩
theorem sg_again {c' : Code} (hq : c'.quiet = true) (hc : Sg M A R Y n s₀ c' (M.den c') fs s) : Sg M A R Y n s₀ c (.pure (.again c')) fs s := by
  rw [sg_iff]
  rintro Γ p rfl hΓ
  obtain ⟨e, s', hr, he⟩ := sg_iff.mp hc (Γ.goto c') p rfl (hΓ.goto c')
  exact ⟨e, s', goes_again hq hr, he⟩
theorem sg_end (r : Result) (h : R n s₀ r s) : Sg M A R Y n s₀ c (leafOf r) [] s := by
  rw [sg_iff]
  rintro Γ p rfl _
  exact ⟨.ret r, s, goes_leaf r, h⟩
theorem sg_yield {v : Value} {g : Bool} {l : List Value} {k : Resume → Sem PySem.Fin} (hfs : splitAtGen fs = none) (hm : Mild s c g fs)
    (h : Y n s₀ v s fun r s'' => Sg M A R Y n s'' c (k r) fs s'') : Sg M A R Y (n + 1) s₀ c (.yield v g l k) fs s := by
  rintro Γ p rfl _
  exact ⟨_, s, goes_yield hfs, hm, h⟩
/-- how a generator goes on -/
def Ready (M : Model) (A : Around) (R : GenEnd) (Y : Protocol) (n : Nat) (gs : GenState) (r : Resume) (s : Shared) : Prop :=
  match gs with
  | .fresh c => r = .send .none ∧ Sg M A R Y n s c (M.den c) [] s
  | .suspended k _ c _ fs _ => Sg M A R Y n s c (k r) fs s
  | _ => False
theorem sg_resume {R' : GenEnd} {Y' : Protocol} {m : Nat} {g : Nat} {gs : GenState} {r : Resume} {l : List Value} {k : GenResult → Sem PySem.Fin} (hg : s.gens[g]? = some gs)
    (hgo : Ready M (A.over c fs) R' Y' m gs r (s.setGen g .running))
    (hR : ∀ x s₁, R' m (s.setGen g .running) x s₁ → Sg M A R Y n s₀ c (k (End.ret x).result) fs (s₁.setGen g .finished))
    (hY : ∀ v s₁ gs', Y' (m - 1) (s.setGen g .running) v s₁ (fun r' s'' => match m with | 0 => False | m + 1 => Ready M (A.over c fs) R' Y' m gs' r' s'') →
      Sg M A R Y n s₀ c (k (.yielded v)) fs (s₁.setGen g gs')) : Sg M A R Y n s₀ c (.resume g r l k) fs s := by
  rw [sg_iff]
  rintro Γ p rfl hΓ
  have hw : ∀ c', ((Γ.over fs).wake c' p).Woken (A.over Γ.code fs) := fun c' => (hΓ.over fs).wake c' p
  have fin : ∀ e₁ s₁, EndOf R' Y' m (Sg.next M (A.over Γ.code fs) R' Y' m) (s.setGen g .running) e₁ s₁ →
      MildE s₁ e₁ ∧ ∃ e s', Goes M Γ p (k e₁.result) fs (s₁.setGen g e₁.genState) e s' ∧ EndOf R Y n (Sg.next M A R Y n) s₀ e s' := by
    intro e₁ s₁ he
    cases e₁ with
    | ret x => exact ⟨trivial, sg_iff.mp (hR x s₁ he) Γ p rfl hΓ⟩
    | susp v g₀ l₀ k₀ c₀ p₀ fs₀ =>
      refine ⟨he.1, sg_iff.mp (hY v s₁ _ ?_) Γ p rfl hΓ⟩
      cases m with
      | zero => exact he.2
      | succ m => exact he.2
  cases gs with
  | fresh c =>
    obtain ⟨rfl, hs⟩ := hgo
    obtain ⟨e₁, s₁, hr, he⟩ := sg_iff.mp hs ((Γ.over fs).wake c p) p rfl (hw c)
    obtain ⟨hm, e, s', h1, h2⟩ := fin e₁ s₁ he
    exact ⟨e, s', goes_fresh hg hr hm h1, h2⟩
  | suspended k₀ l₀ c₀ p₀ fs₀ cl =>
    obtain ⟨e₁, s₁, hr, he⟩ := sg_iff.mp hgo ((Γ.over fs).wake c₀ p) p₀ rfl (hw c₀)
    obtain ⟨hm, e, s', h1, h2⟩ := fin e₁ s₁ he
    exact ⟨e, s', goes_slept hg hr hm h1, h2⟩
  | running => exact hgo.elim
  | finished => exact hgo.elim
end
/-- the protocol and the end may be weakened -/
theorem sg_imp {A : Around} {R R' : GenEnd} {Y Y' : Protocol} (hR : ∀ n s₀ r s, R n s₀ r s → R' n s₀ r s)
    (hY : ∀ n s₀ v s kap kap', (∀ r s', kap r s' → kap' r s') → Y n s₀ v s kap → Y' n s₀ v s kap') : ∀ (n : Nat) {s₀ : Shared} {c : Code} {t : Sem PySem.Fin} {fs : List Frame} {s : Shared}, Sg M A R Y n s₀ c t fs s → Sg M A R' Y' n s₀ c t fs s := by
  intro n
  induction n with
  | zero =>
    intro s₀ c t fs s h
    rw [sg_iff] at h ⊢
    intro Γ p hc hΓ
    obtain ⟨e, s', hr, he⟩ := h Γ p hc hΓ
    refine ⟨e, s', hr, ?_⟩
    cases e with
    | ret r => exact hR _ _ _ _ he
    | susp v g l k c' p' fs' => exact ⟨he.1, hY _ _ _ _ _ _ (fun _ _ z => z) he.2⟩
  | succ n ih =>
    intro s₀ c t fs s h
    rw [sg_iff] at h ⊢
    intro Γ p hc hΓ
    obtain ⟨e, s', hr, he⟩ := h Γ p hc hΓ
    refine ⟨e, s', hr, ?_⟩
    cases e with
    | ret r => exact hR _ _ _ _ he
    | susp v g l k c' p' fs' => exact ⟨he.1, hY _ _ _ _ _ _ (fun _ _ z => ih z) he.2⟩
end Yf
set_option Elab.async false
set_option linter.all false
set_option maxRecDepth 100000
set_option maxHeartbeats 4000000
/-! G4: trees under a segment. -/
namespace Yf
open PySem
/-- a tree that is run under a segment: what holds behind it. yl: it may hand out -/
def W2 (M : Model) (A : Around) (R : GenEnd) (Y : Protocol) (yl : Bool) (c : Code) (fs : List Frame) {α : Type} (m : Sem α) (Q : Nat → Shared → α → Shared → Prop) (E : Nat → Shared → Value → Shared → Prop) (n : Nat) (s₀ s : Shared) : Prop :=
  ∀ (K : α → Sem PySem.Fin) (J : Value → Sem PySem.Fin) (gd : Bool → Bool) (lv : List Value → List Value), (yl = true → gd false = false) →
    (∀ n' s₀' a s', Q n' s₀' a s' → Sg M A R Y n' s₀' c (K a) fs s') → (∀ n' s₀' x s', E n' s₀' x s' → Sg M A R Y n' s₀' c (J x) fs s') → Sg M A R Y n s₀ c (m.wrap K J gd lv) fs s
/-- no exception -/
abbrev noX : Nat → Shared → Value → Shared → Prop := fun _ _ _ _ => False
/-- a code that is called from there -/
def C2 (M : Model) (A : Around) (R : GenEnd) (Y : Protocol) (yl : Bool) (c : Code) (fs : List Frame) (c' : Code) (P : Nat → Shared → Result → Shared → Prop) (n : Nat) (s₀ s : Shared) : Prop :=
  ∀ (k : Result → Sem PySem.Fin) (g : Bool) (l : List Value) (p : Pos), (yl = true → g = false) → (∀ n' s₀' r s', P n' s₀' r s' → Sg M A R Y n' s₀' c (k r) fs s') →
    Sg M A R Y n s₀ c' (M.den c') (.ret k none g l c p [] :: fs) s
section
variable {M : Model} {A : Around} {R : GenEnd} {Y : Protocol} {yl : Bool} {c : Code} {fs : List Frame} {α β : Type} {n : Nat} {s₀ s : Shared} {Q Q' : Nat → Shared → α → Shared → Prop} {E E' : Nat → Shared → Value → Shared → Prop}
theorem w2_of {m : Sem α} (h : wpAny M (A.over c fs) m (fun a s' => Q n s₀ a s') (fun x s' => E n s₀ x s') s) : W2 M A R Y yl c fs m Q E n s₀ s :=
  fun K J gd lv _ hK hJ => sg_wrap (wpAny_mono h (fun a s' q => hK n s₀ a s' q) fun x s' q => hJ n s₀ x s' q)
theorem w2_mono {m : Sem α} (h : W2 M A R Y yl c fs m Q E n s₀ s) (hQ : ∀ n' s₀' a s', Q n' s₀' a s' → Q' n' s₀' a s') (hE : ∀ n' s₀' x s', E n' s₀' x s' → E' n' s₀' x s') : W2 M A R Y yl c fs m Q' E' n s₀ s :=
  fun K J gd lv hg hK hJ => h K J gd lv hg (fun n' s₀' a s' q => hK n' s₀' a s' (hQ _ _ _ _ q)) fun n' s₀' x s' q => hJ n' s₀' x s' (hE _ _ _ _ q)
theorem w2_yl {m : Sem α} (h : W2 M A R Y false c fs m Q E n s₀ s) : W2 M A R Y yl c fs m Q E n s₀ s := fun K J gd lv _ hK hJ => h K J gd lv (fun z => Bool.noConfusion z) hK hJ
theorem w2_pure {a : α} (h : Q n s₀ a s) : W2 M A R Y yl c fs (pure a) Q E n s₀ s := fun _ _ _ _ _ hK _ => hK n s₀ a s h
theorem w2_raise {x : Value} (h : E n s₀ x s) : W2 M A R Y yl c fs (Sem.raise x : Sem α) Q E n s₀ s := fun _ _ _ _ _ _ hJ => hJ n s₀ x s h
theorem w2_bind {m : Sem α} {f : α → Sem β} {Q : Nat → Shared → β → Shared → Prop} (h : W2 M A R Y yl c fs m (fun n' s₀' a s' => W2 M A R Y yl c fs (f a) Q E n' s₀' s') E n s₀ s) : W2 M A R Y yl c fs (m >>= f) Q E n s₀ s := by
  intro K J gd lv hg hK hJ
  rw [Sem.bind_eq_wrap' m f, Sem.wrap_wrap]
  exact h _ J gd lv hg (fun n' s₀' a s' q => q K J gd lv hg hK hJ) hJ
theorem w2_onRaise {m : Sem α} {h : Value → Sem Unit} (x : W2 M A R Y yl c fs m Q (fun n' s₀' e s' => W2 M A R Y yl c fs (h e) (fun n₁ s₁ _ s₂ => E n₁ s₁ e s₂) E n' s₀' s') n s₀ s) : W2 M A R Y yl c fs (m.onRaise h) Q E n s₀ s := by
  intro K J gd lv hg hK hJ
  rw [Sem.onRaise_eq_wrap, Sem.wrap_wrap]
  refine x _ _ (fun g => gd (id g)) (fun l => lv (id l)) hg (fun n' s₀' a s' q => hK n' s₀' a s' q) fun n' s₀' e s' q => ?_
  rw [Sem.bind_eq_wrap, Sem.wrap_wrap]
  exact q _ _ _ _ hg (fun n₁ s₁ _ s₂ z => hJ n₁ s₁ e s₂ z) hJ
theorem w2_keep {m : Sem α} {vs : List Value} (x : W2 M A R Y yl c fs m Q E n s₀ s) : W2 M A R Y yl c fs (m.keep vs) Q E n s₀ s := by
  intro K J gd lv hg hK hJ
  rw [Sem.keep_eq_wrap, Sem.wrap_wrap]
  exact x _ _ _ _ hg (fun n' s₀' a s' q => hK n' s₀' a s' q) fun n' s₀' e s' q => hJ n' s₀' e s' q
theorem w2_holding {m : Sem α} {vs : List Value} (x : W2 M A R Y yl c fs m Q E n s₀ s) : W2 M A R Y yl c fs (holding vs m) Q E n s₀ s := by
  unfold holding
  split
  · exact x
  · exact w2_keep x
/-- what is raised becomes a value; nothing is handed out within -/
theorem w2_attempt {m : Sem α} {Q : Nat → Shared → Except Value α → Shared → Prop} (x : W2 M A R Y false c fs m (fun n' s₀' a s' => Q n' s₀' (.ok a) s') (fun n' s₀' e s' => Q n' s₀' (.error e) s') n s₀ s) : W2 M A R Y yl c fs m.attempt Q E n s₀ s := by
  intro K J gd lv _ hK _
  unfold Sem.attempt
  rw [Sem.tryCatch_eq_wrap, Sem.bind_eq_wrap, Sem.wrap_wrap, Sem.wrap_wrap]
  exact x _ _ _ _ (fun z => Bool.noConfusion z) (fun n' s₀' a s' q => hK n' s₀' _ s' q) fun n' s₀' e s' q => hK n' s₀' _ s' q
theorem w2_tryCatch {m : Sem α} {h : Value → Sem α} (x : W2 M A R Y false c fs m Q (fun n' s₀' e s' => W2 M A R Y yl c fs (h e) Q E n' s₀' s') n s₀ s) : W2 M A R Y yl c fs (m.tryCatch h) Q E n s₀ s := by
  intro K J gd lv hg hK hJ
  rw [Sem.tryCatch_eq_wrap, Sem.wrap_wrap]
  exact x _ _ _ _ (fun z => Bool.noConfusion z) (fun n' s₀' a s' q => hK n' s₀' _ s' q) fun n' s₀' e s' q => q K J gd lv hg hK hJ
theorem w2_at {p : Pos} {f : Unit → Sem α} (h : W2 M A R Y yl c fs (f ()) Q E n s₀ s) : W2 M A R Y yl c fs (standAt p >>= f) Q E n s₀ s := w2_bind (w2_of (wpAny_standAt h))
theorem w2_eq {m : Sem α} {a : α} {f : α → Sem β} {Q : Nat → Shared → β → Shared → Prop} (e : m = pure a) (h : W2 M A R Y yl c fs (f a) Q E n s₀ s) : W2 M A R Y yl c fs (m >>= f) Q E n s₀ s := by
  rw [e]; exact w2_bind (w2_pure h)
/-- a code is run -/
theorem w2_run {c' : Code} {P : Nat → Shared → Result → Shared → Prop} {Q : Nat → Shared → Flow → Shared → Prop} (h : C2 M A R Y yl c fs c' P n s₀ s) (hP : ∀ n' s₀' r s', P n' s₀' r s' → match r with | .ok f => Q n' s₀' f s' | .error e => E n' s₀' e s') :
    W2 M A R Y yl c fs (run c') Q E n s₀ s := by
  intro K J gd lv hg hK hJ
  show Sg M A R Y n s₀ c (.call c' none (gd false) (lv []) fun r => ((match r with | .ok f => (.pure f : Sem Flow) | .error e => .raise e).wrap K J gd lv)) fs s
  refine sg_call fun p => h _ _ _ p hg fun n' s₀' r s' q => ?_
  have z := hP n' s₀' r s' q
  cases r with
  | ok f => exact hK n' s₀' f s' z
  | error e => exact hJ n' s₀' e s' z
theorem wrap_self (m : Sem α) : m.wrap .pure .raise id id = m := by
  induction m <;> simp only [Sem.wrap, id, *]
/-- a code's own tree -/
theorem c2_tree {c' : Code} {P : Nat → Shared → Result → Shared → Prop} (h : ∀ (k : Result → Sem PySem.Fin) (g : Bool) (l : List Value) (p : Pos), (yl = true → g = false) → W2 M A R Y yl c' (.ret k none g l c p [] :: fs) (M.den c')
    (fun n' s₀' fin s' => (∃ f, fin = .done f ∧ P n' s₀' (.ok f) s') ∨ (∃ c₁, fin = .again c₁ ∧ c₁.quiet = true ∧ C2 M A R Y yl c fs c₁ P n' s₀' s')) (fun n' s₀' e s' => P n' s₀' (.error e) s') n s₀ s) : C2 M A R Y yl c fs c' P n s₀ s := by
  intro k g l p hg hk
  have z := h k g l p hg (fun fin => .pure fin) .raise id id (fun _ => rfl) (fun n' s₀' fin s' q => ?_) fun n' s₀' e s' q => sg_leaf (.error e) (hk n' s₀' _ s' q)
  · exact (wrap_self (M.den c')) ▸ z
  · rcases q with ⟨f, rfl, q⟩ | ⟨c₁, rfl, hq, q⟩
    · exact sg_leaf (.ok f) (hk n' s₀' _ s' q)
    · exact sg_again hq (q k g l p hg hk)
end
end Yf
set_option Elab.async false
set_option linter.all false
set_option maxRecDepth 100000
set_option maxHeartbeats 4000000
/-! G5: statements that hand out, and statements around what only such runs do. -/
namespace Yf
open PySem PySem.Spec PyProof.Rows L2 GenW

/-- the generators up to g are bare -/
def LowB (g : Nat) (gens : Array GenState) : Prop := ∀ (i : Nat) x, i ≤ g → gens[i]? = some x → x.bare = true
theorem LowB.of {g : Nat} {gens : Array GenState} (h : AllBare gens) : LowB g gens := fun _ x _ e => h x (Array.mem_of_getElem? e)
/-- while a generator sleeps: all stands but the objects at C; the states of the younger generators stand -/
structure Slp (C : List Addr) (g : Nat) (s s' : Shared) : Prop where
  os : s'.os = s.os
  low : LowB g s'.gens
  keep : ∀ b o, b ∉ C → s.heap.get? b = some o → s'.heap.get? b = some o
  own : ∀ b ∈ C, ∃ o, s'.heap.get? b = some o ∧ ∀ v, o.data ≠ .cell v
  old : ∀ (i : Nat) x, g < i → s.gens[i]? = some x → s'.gens[i]? = some x
  new : ∀ (i : Nat) x, g < i → s.gens[i]? = none → s'.gens[i]? = some x → x.bare = true
  sz : g < s'.gens.size
theorem Slp.bare {C : List Addr} {g : Nat} {s s' : Shared} (h : Slp C g s s') (hb : AllBare s.gens) : AllBare s'.gens := fun x hx => by
  obtain ⟨i, hi, e⟩ := Array.mem_iff_getElem.mp hx
  have e' : s'.gens[i]? = some x := by rw [Array.getElem?_eq_getElem hi, e]
  by_cases hg : i ≤ g
  · exact h.low i x hg e'
  · cases q : s.gens[i]? with
    | none => exact h.new i x (by omega) q e'
    | some y =>
      have := h.old i y (by omega) q
      rw [e'] at this; cases this
      exact hb x (Array.mem_of_getElem? q)
/-- what a run is about: what the world may change, the generator's number, how many it hands out, what -/
structure Gp where
  C : List Addr
  g : Nat
  N : Nat
  Out : Nat → V → Hp → Prop
/-- without its generators -/
def clr (s : Shared) : Shared := { s with gens := #[] }
theorem inv_clr {X : Cx} {pins : List (Addr × Obj)} {σ : L2.St} {H : Hp} {s : Shared} (I : Inv X pins σ H s) : Inv X pins σ H (clr s) :=
  ⟨I.ok, I.os, fun x hx => by simp [clr] at hx, I.base, I.loc, I.cell, I.free, I.freeC, I.pin, I.hok, I.len⟩
theorem inv_unclr {X : Cx} {pins : List (Addr × Obj)} {σ : L2.St} {H : Hp} {s : Shared} (I : Inv X pins σ H (clr s)) (hb : AllBare s.gens) : Inv X pins σ H s :=
  ⟨I.ok, I.os, hb, I.base, I.loc, I.cell, I.free, I.freeC, I.pin, I.hok, I.len⟩
theorem inv_same {X : Cx} {pins : List (Addr × Obj)} {σ : L2.St} {H : Hp} {s s' : Shared} (I : Inv X pins σ H (clr s)) (ho : s'.os = s.os) (hh : s'.heap = s.heap) : Inv X pins σ H (clr s') := by
  obtain ⟨h', g', d', t', o'⟩ := s'
  obtain rfl : o' = s.os := ho
  obtain rfl : h' = s.heap := hh
  exact ⟨I.ok, I.os, fun x hx => by simp [clr] at hx, I.base, I.loc, I.cell, I.free, I.freeC, I.pin, I.hok, I.len⟩
section
variable {X : Cx} {G : Gp}
/-- the objects at C stood at the last wake -/
def CAt (G : Gp) (s₀ : Shared) : Prop := ∀ b ∈ G.C, ∃ o, s₀.heap.get? b = some o ∧ ∀ v, o.data ≠ .cell v
/-- .. and the generator stands in the table -/
def CAs (G : Gp) (s₀ s : Shared) : Prop := CAt G s₀ ∧ (G.C ≠ [] → G.g < s.gens.size)
theorem CAs.mono {G : Gp} {s₀ s s' : Shared} (h : CAs G s₀ s) (z : s.gens.size ≤ s'.gens.size) : CAs G s₀ s' := ⟨h.1, fun q => Nat.lt_of_lt_of_le (h.2 q) z⟩
theorem w2_ofg {M : Model} {A : Around} {R : GenEnd} {Y : Protocol} {yl : Bool} {c : Code} {fs : List Frame} {α : Type} {n : Nat} {s₀ s : Shared} {Q : Nat → Shared → α → Shared → Prop} {E : Nat → Shared → Value → Shared → Prop} {m : Sem α}
    (h : wpAny M (A.over c fs) m (fun a s' => s.gens.size ≤ s'.gens.size → Q n s₀ a s') (fun x s' => E n s₀ x s') s) : W2 M A R Y yl c fs m Q E n s₀ s :=
  w2_of (wpAny_gsz (Nat.le_refl _) (wpAny_mono h (fun _ _ z => z) fun _ _ z _ => z))
/-- C may change amid this frame's run -/
def COk (X : Cx) (G : Gp) (ip : List (Addr × Obj)) : Prop :=
  ∀ b ∈ G.C, (b ∈ X.ex ∨ X.s_0.heap.objs.size ≤ b) ∧ b ≠ X.env.locals ∧ (∀ x c, X.env.cells.lookup x = some c → c ≠ b) ∧ b ∉ X.fs ∧ ∀ p ∈ X.pn ++ ip, p.1 ≠ b
abbrev GI (X : Cx) (G : Gp) (ip : List (Addr × Obj)) (s₀ : Shared) (σ : L2.St) (H : Hp) (s : Shared) : Prop := Inv X (pinsAt G.C s₀.heap ++ ip) σ H s
theorem drop_pins {ip : List (Addr × Obj)} {s₀ : Shared} {σ : L2.St} {H : Hp} {s : Shared} (I : GI X G ip s₀ σ H s) : Inv X ip σ H s := I.pins_of fun p hp => I.pin p (List.mem_append_right _ (List.mem_append_right _ hp))
theorem c_free {ip : List (Addr × Obj)} {s₀ : Shared} {σ : L2.St} {H : Hp} {s : Shared} (hc : CAt G s₀) (I : GI X G ip s₀ σ H s) : ∀ b ∈ G.C, H b = none := fun b hb => by
  obtain ⟨o, e, _⟩ := hc b hb
  exact (I.pin (b, o) (List.mem_append_right _ (List.mem_append_left _ (mem_pinsAt hb e)))).2.1
theorem c_same {ip : List (Addr × Obj)} {s₀ : Shared} {σ : L2.St} {H : Hp} {s : Shared} (I : GI X G ip s₀ σ H s) : ∀ b ∈ G.C, ∀ o, s₀.heap.get? b = some o → s.heap.get? b = some o := fun b hb o e =>
  (I.pin (b, o) (List.mem_append_right _ (List.mem_append_left _ (mem_pinsAt hb e)))).1
/-- the pins of C anew -/
theorem re_pin {ip : List (Addr × Obj)} {s₀ : Shared} {σ : L2.St} {H : Hp} {s : Shared} (hok : COk X G ip) (hf : ∀ b ∈ G.C, H b = none) (hs : ∀ b ∈ G.C, ∀ o, s₀.heap.get? b = some o → s.heap.get? b = some o ∧ ∀ v, o.data ≠ .cell v) (I : Inv X ip σ H s) : GI X G ip s₀ σ H s :=
  I.pins_of fun p hp => (List.mem_append.mp hp).elim (fun z => by
    obtain ⟨hb, e⟩ := of_pinsAt z
    obtain ⟨_, h1, _, h2, _⟩ := hok p.1 hb
    obtain ⟨h3, h4⟩ := hs p.1 hb p.2 e
    exact ⟨h3, hf p.1 hb, h1, h2, h4⟩) fun z => I.pin p (List.mem_append_right _ z)
/-- the objects at ch have changed, and nothing else that was there -/
theorem turned_at {ip : List (Addr × Obj)} {σ : L2.St} {H : Hp} {s s' : Shared} {C : List Addr} (I : Inv X ip σ H (clr s)) (hok : ∀ b ∈ C, (b ∈ X.ex ∨ X.s_0.heap.objs.size ≤ b) ∧ b ≠ X.env.locals ∧ (∀ x c, X.env.cells.lookup x = some c → c ≠ b) ∧ ∀ p ∈ X.pn ++ ip, p.1 ≠ b)
    (hf : ∀ b ∈ C, H b = none) (ho : s'.os = s.os) (keep : ∀ b o, b ∉ C → s.heap.get? b = some o → s'.heap.get? b = some o) : Inv X ip σ H (clr s') := by
  obtain ⟨h', g', d', t', o'⟩ := s'
  obtain rfl : o' = s.os := ho
  have nt : ∀ b u, H b = some u → b ∉ C := fun b u q hb => by rw [hf b hb] at q; cases q
  show Inv X ip σ H { clr s with heap := h', gens := #[], drawn := d', toks := t' }
  refine Inv.step (s := clr s) I (h' := h') (g' := #[]) (t' := t') (d' := d') (ch := C) hok (fun b ob _ _ hc q _ => keep b ob hc q) (fun b ob _ _ hc q _ => ⟨ob.slots, keep b ob hc q⟩) (fun _ _ _ _ n => n) (fun b ob hc q => ⟨ob, keep b ob hc q⟩)
    (fun _ _ q => q) (fun _ _ _ q => q) (fun b ps q => ⟨#[], by rw [q]; simp⟩) (fun m hm => ?_) (fun b u q => ?_) (fun x hx => by simp at hx)
  · obtain ⟨ob, es, ep, ho, r⟩ := hm
    exact ⟨ob, es, ep, keep _ ob (fun z => (hok _ z).2.1 rfl) ho, r⟩
  · refine (I.hok b u q).stay (fun c v hc y => keep c v ?_ y) (fun _ y => y) fun _ _ y => y
    rcases hc with y | y
    · rw [y]; exact nt b u q
    · exact nt c _ y
theorem woken {ip : List (Addr × Obj)} {s₀ : Shared} {σ : L2.St} {H : Hp} {s s' : Shared} (hok : COk X G ip) (hc : CAt G s₀) (I : GI X G ip s₀ σ H (clr s)) (z : Slp G.C G.g s s') : GI X G ip s' σ H (clr s') :=
  re_pin hok (c_free hc I) (fun b hb o e => ⟨e, by obtain ⟨o', e', d⟩ := z.own b hb; rw [e] at e'; cases e'; exact d⟩)
    (turned_at (drop_pins I) (fun b hb => ⟨(hok b hb).1, (hok b hb).2.1, (hok b hb).2.2.1, (hok b hb).2.2.2.2⟩) (c_free hc I) z.os z.keep)

/-! ### the protocol -/
def GY (X : Cx) (G : Gp) : Protocol := fun n s₀ v s kap => ∃ (j : Nat) (x : V) (ip : List (Addr × Obj)) (σ : L2.St) (H : Hp), n + 1 + j = G.N ∧ RelV x v ∧ LowB G.g s.gens ∧ CAs G s₀ s ∧ GI X G ip s₀ σ H (clr s) ∧ G.Out j x H ∧ ∀ s', Slp G.C G.g s s' → kap (.send .none) s'
structure GEn where
  nx : Nat → L2.St → Hp → Prop
  rt : Nat → VK
  bk : Nat → L2.St → Hp → Prop := fun _ _ _ => False
  ct : Nat → L2.St → Hp → Prop := fun _ _ _ => False
def GEn.at (D : GEn) (j : Nat) : Ends := { nx := D.nx j, rt := D.rt j, bk := D.bk j, ct := D.ct j }
/-- what is wanted behind a statement: (the group, what follows, how many are out, slots, heap) -/
abbrev TGn := Gp → GEn → Nat → L2.St → Hp → Prop
def GSP (X : Cx) (G : Gp) (ip : List (Addr × Obj)) (s₀ : Shared) (D : GEn) (j : Nat) (f : Flow) (s : Shared) : Prop :=
  match f with
  | .next => ∃ σ H, GI X G ip s₀ σ H s ∧ D.nx j σ H
  | .brk => ∃ σ H, GI X G ip s₀ σ H s ∧ D.bk j σ H
  | .cont => ∃ σ H, GI X G ip s₀ σ H s ∧ D.ct j σ H
  | .ret u => ∃ v σ H, GI X G ip s₀ σ H s ∧ RelV v u ∧ D.rt j v H
/-- where the code stands -/
structure GC (X : Cx) (G : Gp) (yl : Bool) (Y : Protocol) (ip : List (Addr × Obj)) (A : Around) (c : Code) (fs : List Frame) : Prop where
  over : A.over c fs = X.A
  split : yl = true → splitAtGen fs = none
  guard : yl = true → fs.any Frame.guarded = false
  cok : COk X G ip
  y : yl = true → ∀ n s₀ v s kap, GY X G n s₀ v s kap → Y n s₀ v s kap
  xe : ∀ e s, X.xe e s → False
  ne : yl = true → G.C ≠ []
  co : yl = false → G.C = []
structure GS (X : Cx) (yl : Bool) (st : Stmt) (t : TGn) : Prop where
  run : ∀ (G : Gp) (Y : Protocol) (A : Around) (R : GenEnd) (c : Code) (fs : List Frame) (ip : List (Addr × Obj)) (n j : Nat) (s₀ s : Shared) (σ : L2.St) (H : Hp) (D : GEn), GC X G yl Y ip A c fs → n + j = G.N → CAs G s₀ s → GI X G ip s₀ σ H s → t G D j σ H →
    W2 (model X.prog X.w) A R Y yl c fs (exec st X.env) (fun n' s₀' f s' => ∃ j', n' + j' = G.N ∧ CAs G s₀' s' ∧ GSP X G ip s₀' D j' f s') noX n s₀ s
structure GSs (X : Cx) (yl : Bool) (st : List Stmt) (t : TGn) : Prop where
  run : ∀ (G : Gp) (Y : Protocol) (A : Around) (R : GenEnd) (c : Code) (fs : List Frame) (ip : List (Addr × Obj)) (n j : Nat) (s₀ s : Shared) (σ : L2.St) (H : Hp) (D : GEn), GC X G yl Y ip A c fs → n + j = G.N → CAs G s₀ s → GI X G ip s₀ σ H s → t G D j σ H →
    W2 (model X.prog X.w) A R Y yl c fs (execs st X.env) (fun n' s₀' f s' => ∃ j', n' + j' = G.N ∧ CAs G s₀' s' ∧ GSP X G ip s₀' D j' f s') noX n s₀ s
end

section
variable {X : Cx} {yl : Bool} {st : Stmt} {rest : List Stmt}
theorem sp_gsp {G : Gp} {ip : List (Addr × Obj)} {s₀ s : Shared} {D : GEn} {j : Nat} {f : Flow} (h : SP X (pinsAt G.C s₀.heap ++ ip) (D.at j) f s) : GSP X G ip s₀ D j f s := by
  cases f <;> exact h
/-- a statement, a block that the hand layer reads -/
def tPlain (t : TS) : TGn := fun _ D j σ H => t (D.at j) σ H
theorem gs_ps {t : TS} (h : PS X st t) : GS X yl st (tPlain t) := ⟨fun G Y A R c fs ip n j s₀ s σ H D g hn hc hI ht => w2_ofg (by
  rw [g.over]
  exact wpAny_mono (h.run _ s σ H (D.at j) hI ht) (fun f s' hs hz => ⟨j, hn, hc.mono hz, sp_gsp hs⟩) fun x s' hx => (g.xe x s' hx).elim)⟩
theorem gss_pss {t : TS} (h : PSs X rest t) : GSs X yl rest (tPlain t) := ⟨fun G Y A R c fs ip n j s₀ s σ H D g hn hc hI ht => w2_ofg (by
  rw [g.over]
  exact wpAny_mono (h.run _ s σ H (D.at j) hI ht) (fun f s' hs hz => ⟨j, hn, hc.mono hz, sp_gsp hs⟩) fun x s' hx => (g.xe x s' hx).elim)⟩
def tG0 : TGn := fun _ D j σ H => D.nx j σ H
theorem gss_nil : GSs X yl [] tG0 := ⟨fun G Y A R c fs ip n j s₀ s σ H D g hn hc hI ht => by
  rw [execs_nil]
  exact w2_pure ⟨j, hn, hc, σ, H, hI, ht⟩⟩
def tGThen (t u : TGn) : TGn := fun G D j σ H => t G { D with nx := fun j' σ' H' => u G D j' σ' H' } j σ H
theorem gss_cons {t u : TGn} (a : GS X yl st t) (b : GSs X yl rest u) : GSs X yl (st :: rest) (tGThen t u) := ⟨fun G Y A R c fs ip n j s₀ s σ H D g hn hc hI ht => by
  rw [execs_cons]
  refine w2_bind (w2_mono (a.run G Y A R c fs ip n j s₀ s σ H { D with nx := fun j' σ' H' => u G D j' σ' H' } g hn hc hI ht) (fun n' s₀' f s' ⟨j', hn', hc', hs⟩ => ?_) fun _ _ _ _ z => z)
  cases f with
  | next =>
    obtain ⟨σ', H', I', q⟩ := hs
    exact b.run G Y A R c fs ip n' j' s₀' s' σ' H' D g hn' hc' I' q
  | brk => exact w2_pure ⟨j', hn', hc', hs⟩
  | cont => exact w2_pure ⟨j', hn', hc', hs⟩
  | ret u => exact w2_pure ⟨j', hn', hc', hs⟩⟩
def tGOne (t : TGn) : TGn := tGThen t tG0
theorem gss_one {t : TGn} (a : GS X yl st t) : GSs X yl [st] (tGOne t) := gss_cons a gss_nil
def tGIf (c : TT) (t u : TGn) : TGn := fun G D j σ H => c σ H fun b H1 => if b = true then t G D j σ H1 else u G D j σ H1
theorem gs_if {test : Expr} {a b : List Stmt} {pos : Pos} {tc : TT} {t u : TGn} (hc : PT X test tc) (ha : GSs X yl a t) (hb : GSs X yl b u) : GS X yl (.If test a b pos) (tGIf tc t u) := ⟨fun G Y A R c fs ip n j s₀ s σ H D g hn hC hI ht => by
  rw [exec_If]
  refine w2_at (w2_bind (w2_ofg ?_))
  rw [g.over]
  refine wpAny_mono (hc.run _ s σ H _ hI ht) (fun d s' ⟨H1, I1, q⟩ hz => ?_) fun x s' hx => (g.xe x s' hx).elim
  cases d with
  | true => exact ha.run G Y A R c fs ip n j s₀ s' σ H1 D g hn (hC.mono hz) I1 q
  | false => exact hb.run G Y A R c fs ip n j s₀ s' σ H1 D g hn (hC.mono hz) I1 q⟩

/-! ### yield -/
def tGYield (te : TE) : TGn := fun G D j σ H => j < G.N ∧ te σ H fun x H1 => G.Out j x H1 ∧ D.nx (j + 1) σ H1
theorem gs_yield {e : Expr} {yp pos : Pos} {te : TE} (he : PE X e te) (hco : X.env.scope.isCoroutine = false := by rfl) (hi : interactive X.env = false := by rfl) : GS X true (.Expr (.Yield (some e) yp) pos) (tGYield te) := by
  refine ⟨fun G Y A R c fs ip n j s₀ s σ H D g hn hC hI ht => ?_⟩
  obtain ⟨hlt, ht⟩ := ht
  obtain ⟨n, rfl⟩ : ∃ m, n = m + 1 := ⟨n - 1, by omega⟩
  rw [exec_Expr X.env _ pos hi rfl]
  refine w2_at ?_
  have hy : ∀ v, yieldOut X.env v = yieldValue v := fun v => by simp only [yieldOut, hco, Bool.false_eq_true, if_false]
  show W2 _ _ _ _ _ _ _ ((eval e X.env >>= fun v => (standAt yp >>= fun _ => yieldOut X.env v)) >>= fun x => dropValue (.Yield (some e) yp) pos x) _ _ _ _ _
  refine w2_bind (w2_bind (w2_ofg ?_))
  rw [g.over]
  refine wpAny_mono (he.run _ s σ H _ hI ht) (fun v s1 ⟨x, H1, I1, rv, ho, q⟩ hz => ?_) fun x s' hx => (g.xe x s' hx).elim
  refine w2_at ?_
  rw [hy]
  intro K J gd lv hg hK _
  show Sg (model X.prog X.w) A R Y (n + 1) s₀ c (.yield v (gd false) (lv []) _) fs s1
  refine sg_yield (g.split rfl) ⟨g.guard rfl, .inl (hg rfl)⟩ ?_
  refine g.y rfl n s₀ v s1 _ ⟨j, x, ip, σ, H1, by omega, rv, LowB.of I1.bare, hC.mono hz, inv_clr I1, ho, fun s2 z => ?_⟩
  refine hK n s2 _ s2 ?_
  show W2 _ _ _ _ _ _ _ (dropValue (.Yield (some e) yp) pos .none) _ _ _ _ _
  exact w2_pure ⟨j + 1, by omega, ⟨z.own, fun _ => z.sz⟩, σ, H1, inv_unclr (woken g.cok hC.1 (inv_clr I1) z) (z.bare I1.bare), q⟩

/-! ### for -/
def tGFor (wi : TI) (gt : TG) (tb : TGn) : TGn := fun G D j σ H => wi σ H fun J H1 => ∃ W : Nat → Nat → Nat → L2.St → Hp → Prop, (∃ m, W 0 m j σ H1) ∧ ∀ i m j σ H, W i m j σ H →
  (J.stop i H ∧ D.nx j σ H) ∨ (J.go i H ∧ ∃ N : Nat → L2.St → Hp → Prop, (∀ j' σ' H', N j' σ' H' → ∃ m', m' < m ∧ W (i + 1) m' j' σ' H') ∧ ∀ x H', J.yld i H x H' → gt x σ H' fun σ2 H2 => tb G { D with nx := N, ct := N, bk := D.nx } j σ2 H2)
theorem gc_loop {G : Gp} {Y : Protocol} {ip ip' : List (Addr × Obj)} {A : Around} {c c' : Code} {fs : List Frame} {k : Result → Sem PySem.Fin} {b : Bool} {l kp : List Value} {p : Pos} (g : GC X G yl Y ip A c fs) (hb : yl = true → b = false) (hw : c'.weight = 0) (hu : c'.cUnits = 0) (hk : COk X G ip') :
    GC X G yl Y ip' A c' (.ret k none b l c p kp :: fs) where
  over := (over_loop hw hu).trans g.over
  split := fun z => by
    show (splitAtGen fs).map _ = none
    rw [g.split z]; rfl
  guard := fun z => by
    show (b || fs.any Frame.guarded) = false
    rw [hb z, g.guard z]; rfl
  cok := hk
  y := g.y
  xe := g.xe
  ne := g.ne
  co := g.co
theorem gs_for {tg iter : Expr} {body : List Stmt} {wi : TI} {gt : TG} {tb : TGn} {pos : Pos} (hc : X.calm = true) (hi : PI X tg iter wi) (hg : PG X tg gt) (hb : GSs X yl body tb)
    (hs : ∀ x, foldedSetIterable iter X.env x = pure x := by intro _; rfl) : GS X yl (.For tg iter body [] pos) (tGFor wi gt tb) := by
  refine ⟨fun G Y A R c fs ip n j s₀ s σ H D g hn hC hI ht => ?_⟩
  rw [exec_For]
  refine w2_at (w2_bind (w2_ofg ?_))
  rw [g.over]
  refine wpAny_mono (hi.run _ s σ H _ hI ht) (fun v s1 h1 hz1 => ?_) fun x s' hx => (g.xe x s' hx).elim
  refine w2_eq (hs v) (w2_at (w2_bind (w2_holding (w2_ofg ?_))))
  rw [g.over]
  refine wpAny_mono h1 (fun itv s2 h2 hz2 => ?_) fun x s' hx => (g.xe x s' hx).elim
  obtain ⟨it, fp, tn, J, H2, e, I2, T, st2, f2, W, ⟨m0, w0⟩, turn⟩ := h2
  subst e
  have apart : ∀ b ∈ fp, ∀ b' ∈ G.C, b' ≠ b := fun b hb b' hb' => by
    obtain ⟨o, e, _⟩ := hC.1 b' hb'
    exact (f2 b hb).2.2.2.2.2 (b', o) (List.mem_append_right _ (List.mem_append_left _ (mem_pinsAt hb' e)))
  have stat : ∀ {s₁ : Shared} {H' : Hp}, (∀ b ∈ fp, H' b = none) → ∀ b ∈ fp, FpOk X (pinsAt G.C s₁.heap ++ ip) H' b := fun {s₁ H'} hn b hb => by
    obtain ⟨_, q1, q2, q3, q4, q5⟩ := f2 b hb
    refine ⟨hn b hb, q1, q2, q3, q4, fun p hp => ?_⟩
    rcases List.mem_append.mp hp with z | z
    · exact q5 p (List.mem_append_left _ z)
    · rcases List.mem_append.mp z with z | z
      · exact apart b hb p.1 (of_pinsAt z).1
      · exact q5 p (List.mem_append_right _ (List.mem_append_right _ z))
  have cok' : ∀ h, COk X G (ip ++ pinsAt fp h) := fun h b hb => by
    obtain ⟨q1, q2, q3, q4, q5⟩ := g.cok b hb
    refine ⟨q1, q2, q3, q4, fun p hp => ?_⟩
    rcases List.mem_append.mp hp with z | z
    · exact q5 p (List.mem_append_left _ z)
    · rcases List.mem_append.mp z with z | z
      · exact q5 p (List.mem_append_right _ z)
      · exact fun q => apart p.1 (of_pinsAt z).1 b hb q.symm
  have loop : ∀ (m n j i : Nat) (s₀ s : Shared) (σ : L2.St) (H : Hp), n + j = G.N → CAs G s₀ s → GI X G ip s₀ σ H s → tn i s.heap → (∀ b ∈ fp, H b = none) → W i m j σ H →
      C2 (model X.prog X.w) A R Y yl c fs (.forLoop tg (.ref it) body [] X.env) (fun n' s₀' r s' => ∃ f, r = .ok f ∧ ∃ j', n' + j' = G.N ∧ CAs G s₀' s' ∧ GSP X G ip s₀' D j' f s') n s₀ s := by
    intro m
    induction m using Nat.strongRecOn with
    | ind m ih =>
      intro n j i s₀ s3 σ3 H3 hn hC I3 st3 fr3 w3
      refine c2_tree fun k b l p hb' => ?_
      have gl : GC X G yl Y ip A (.forLoop tg (.ref it) body [] X.env) (.ret k none b l c p [] :: fs) := gc_loop g hb' rfl rfl g.cok
      show W2 _ _ _ _ _ _ _ ((forTurn tg (.ref it) body [] X.env).onRaise (fun x => do noteFrame x X.env; theTreesLotGoes x)) _ _ _ _ _
      refine w2_onRaise (w2_mono (Q := fun n' s₀' fin s' => (∃ f, fin = Fin.done f ∧ ∃ f', (.ok f : Result) = .ok f' ∧ ∃ j', n' + j' = G.N ∧ CAs G s₀' s' ∧ GSP X G ip s₀' D j' f' s') ∨
        (∃ c₁, fin = Fin.again c₁ ∧ c₁.quiet = true ∧ C2 (model X.prog X.w) A R Y yl c fs c₁ (fun n' s₀' r s' => ∃ f, r = .ok f ∧ ∃ j', n' + j' = G.N ∧ CAs G s₀' s' ∧ GSP X G ip s₀' D j' f s') n' s₀' s')) (E := noX) ?_ (fun _ _ _ _ z => z) fun _ _ _ _ z => z.elim)
      unfold forTurn
      refine w2_at (w2_bind (w2_onRaise ?_))
      rcases turn i m j σ3 H3 w3 with ⟨stop, qn⟩ | ⟨go, N, hN, step⟩
      · refine w2_ofg ?_
        rw [gl.over]
        refine wpAny_mono (T.done X rfl rfl rfl hc i _ s3 σ3 H3 (fun _ _ => False) I3 (stat fr3) st3 stop) (fun r s4 ⟨hr, I4⟩ hz4 => ?_) fun _ _ z => z.elim
        subst hr
        refine w2_pure (.inr ⟨_, rfl, rfl, c2_tree fun k b l p hb' => ?_⟩)
        have gb : GC X G yl Y ip A (.block [] X.env) (.ret k none b l c p [] :: fs) := gc_loop g hb' rfl rfl g.cok
        show W2 _ _ _ _ _ _ _ ((execs [] X.env).onRaise (fun x => do noteFrame x X.env; theTreesLotGoes x) >>= fun f => pure (PySem.Fin.done f)) _ _ _ _ _
        rw [execs_nil]
        exact w2_bind (w2_onRaise (w2_pure (w2_pure (.inl ⟨_, rfl, .next, rfl, j, hn, hC.mono hz4, σ3, H3, I4, qn⟩))))
      · refine w2_ofg ?_
        rw [gl.over]
        refine wpAny_mono (T.item X rfl rfl rfl hc i _ s3 σ3 H3 (fun _ _ => False) I3 (stat fr3) st3 go) (fun r s4 ⟨u, hr, h4⟩ hz4 => ?_) fun _ _ z => z.elim
        subst hr
        refine w2_bind (w2_ofg ?_)
        rw [gl.over]
        refine wpAny_mono h4 (fun _ s5 ⟨x, H5, I5, r5, y5, st5, fr5⟩ hz5 => ?_) fun _ _ z => z.elim
        have I5' : GI X G (ip ++ pinsAt fp s5.heap) s₀ σ3 H5 s5 := by
          have z := I5.pinned (stat fr5) (T.obj _ _ st5)
          rwa [List.append_assoc] at z
        refine w2_bind (w2_ofg ?_)
        rw [gl.over]
        refine wpAny_mono (hg.run _ s5 σ3 H5 x u _ I5' r5 (step x H5 y5)) (fun _ s6 ⟨σ6, H6, I6, q6⟩ hz6 => ?_) fun x s' hx => (g.xe x s' hx).elim
        have gl' : GC X G yl Y (ip ++ pinsAt fp s5.heap) A (.forLoop tg (.ref it) body [] X.env) (.ret k none b l c p [] :: fs) := gc_loop g hb' rfl rfl (cok' _)
        refine w2_bind (w2_mono (hb.run G Y A R _ _ _ n j s₀ s6 σ6 H6 _ gl' hn (((hC.mono hz4).mono hz5).mono hz6) I6 q6) (fun n' s₀' f s7 ⟨j', hn', hC', q7⟩ => ?_) fun _ _ _ _ z => z)
        have back : ∀ {σ7 : L2.St} {H7 : Hp}, GI X G (ip ++ pinsAt fp s5.heap) s₀' σ7 H7 s7 → GI X G ip s₀' σ7 H7 s7 := fun {σ7 H7} I7 => by
          have z : Inv X ((pinsAt G.C s₀'.heap ++ ip) ++ pinsAt fp s5.heap) σ7 H7 s7 := by rw [List.append_assoc]; exact I7
          exact z.unpinned
        have again : ∀ {σ7 : L2.St} {H7 : Hp}, GI X G (ip ++ pinsAt fp s5.heap) s₀' σ7 H7 s7 → N j' σ7 H7 →
            C2 (model X.prog X.w) A R Y yl c fs (.forLoop tg (.ref it) body [] X.env) (fun n' s₀' r s' => ∃ f, r = .ok f ∧ ∃ j', n' + j' = G.N ∧ CAs G s₀' s' ∧ GSP X G ip s₀' D j' f s') n' s₀' s7 := fun {σ7 H7} I7 n7 => by
          obtain ⟨m', hm, w7⟩ := hN j' σ7 H7 n7
          have pf : ∀ b ∈ fp, ∀ o, s5.heap.get? b = some o → s7.heap.get? b = some o ∧ H7 b = none := fun b hb o e => by
            have z := I7.pin (b, o) (List.mem_append_right _ (List.mem_append_right _ (List.mem_append_right _ (mem_pinsAt hb e))))
            exact ⟨z.1, z.2.1⟩
          refine ih m' hm n' j' (i + 1) s₀' s7 σ7 H7 hn' hC' (back I7) (T.keep _ _ _ st5 fun b hb o e => (pf b hb o e).1) (fun b hb => ?_) w7
          obtain ⟨o, e, _⟩ := T.obj _ _ st5 b hb
          exact (pf b hb o e).2
        cases f with
        | next => obtain ⟨σ7, H7, I7, n7⟩ := q7; exact w2_pure (.inr ⟨_, rfl, rfl, again I7 n7⟩)
        | cont => obtain ⟨σ7, H7, I7, n7⟩ := q7; exact w2_pure (.inr ⟨_, rfl, rfl, again I7 n7⟩)
        | brk => obtain ⟨σ7, H7, I7, q7⟩ := q7; exact w2_pure (.inl ⟨_, rfl, .next, rfl, j', hn', hC', σ7, H7, back I7, q7⟩)
        | ret v => obtain ⟨x7, σ7, H7, I7, r7, q7⟩ := q7; exact w2_pure (.inl ⟨_, rfl, .ret v, rfl, j', hn', hC', x7, σ7, H7, back I7, r7, q7⟩)
  unfold runOwn
  refine w2_onRaise (w2_run (P := fun n' s₀' r s' => ∃ f, r = .ok f ∧ ∃ j', n' + j' = G.N ∧ CAs G s₀' s' ∧ GSP X G ip s₀' D j' f s') (loop m0 n j 0 s₀ s2 σ H2 hn ((hC.mono hz1).mono hz2) I2 st2 (fun b hb => (f2 b hb).1) w0) fun n' s₀' r s' q => ?_)
  obtain ⟨f, rfl, q⟩ := q
  exact q
end
end Yf
set_option Elab.async false
set_option linter.all false
set_option maxRecDepth 100000
set_option maxHeartbeats 4000000
/-! G6: a generator's object, its next turn. -/
namespace Yf
open PySem PySem.Spec PyProof.Rows L2 GenW

/-- a generator's object, no delegator sleeps over it -/
def GenAt (h : Heap) (a : Addr) (g : Nat) : Prop :=
  ∃ (o : Obj) (nm qn : Value), h.get? a = some o ∧ o.cls = .type "generator" ∧ o.data = .fields #[.int g 0, nm, qn] ∧ ∀ (k : Int) t, o.slots[0]? = some (some (.int k t)) → k ≤ 0
theorem GenAt.typeIs {s : Shared} {a g} (x : GenAt s.heap a g) : s.TypeIs (.ref a) "generator" := let ⟨o, _, _, ho, hc, _⟩ := x; ⟨o, ho, hc⟩
theorem GenAt.of {h : Heap} {a g} (x : h.IsGen a g) : GenAt h a g := let ⟨o, nm, qn, ho, hc, hd, hs⟩ := x; ⟨o, nm, qn, ho, hc, hd, fun k t e => by rw [hs] at e; simp at e⟩
theorem GenAt.at {h h' : Heap} {a g} (x : GenAt h a g) (hk : ∀ o, h.get? a = some o → h'.get? a = some o) : GenAt h' a g := let ⟨o, nm, qn, ho, r⟩ := x; ⟨o, nm, qn, hk _ ho, r⟩
theorem wpAny_genNum {M : Model} {A : Around} {E : Value → Shared → Prop} {s : Shared} {a : Addr} {g : Nat} {Q : Nat → Shared → Prop} (hg : GenAt s.heap a g) (h : Q g s) :
    wpAny M A (Builtin.Generator.genNumber (.ref a)) Q E s := by
  obtain ⟨o, nm, qn, ho, _, hd, hsl⟩ := hg
  unfold Builtin.Generator.genNumber
  refine wpAny_bind (wpAny_load ho ?_)
  rw [hd]
  have fin : wpAny M A (pure ((g : Int).toNat)) Q E s := by
    rw [Int.toNat_natCast]; exact wpAny_pure h
  try dsimp only
  split
  · rename_i k t e
    have hk := hsl _ _ e
    rw [if_neg (by omega)]
    exact fin
  · exact fin

theorem over_ret {A : Around} {c c' : Code} {fs : List Frame} {k : Result → Sem PySem.Fin} {g : Bool} {l kp : List Value} {p : Pos} :
    A.over c' (.ret k none g l c p kp :: fs) = (A.over c fs).under c' := by
  have e2 : A.depth + frameCount ((Frame.ret k none g l c p kp :: fs).map Frame.where_) + c'.weight = A.depth + frameCount (fs.map Frame.where_) + c.weight + c'.weight := by
    show A.depth + frameCount ((c, p) :: fs.map Frame.where_) + c'.weight = _
    rw [frameCount_cons]; omega
  have e3 : pushEnvs c'.envs (pushEnvs (envsOf ((Frame.ret k none g l c p kp :: fs).map Frame.where_)) A.frames) = pushEnvs c'.envs (pushEnvs c.envs (pushEnvs (envsOf (fs.map Frame.where_)) A.frames)) := by
    show pushEnvs c'.envs (pushEnvs (envsOf ((c, p) :: fs.map Frame.where_)) A.frames) = _
    rw [envsOf_cons]
    simp only [pushEnvs_eq]
    cases A.frames <;> simp [List.append_assoc]
  have e4 : pushGuards c'.guards (pushGuards (guardsOf ((Frame.ret k none g l c p kp :: fs).map Frame.where_)) A.guards) = pushGuards c'.guards (pushGuards c.guards (pushGuards (guardsOf (fs.map Frame.where_)) A.guards)) := by
    show pushGuards c'.guards (pushGuards (guardsOf ((c, p) :: fs.map Frame.where_)) A.guards) = _
    rw [guardsOf_cons]
    simp only [pushGuards_eq]
    cases A.guards <;> simp [List.append_assoc]
  have e5 : A.units + unitsOf ((Frame.ret k none g l c p kp :: fs).map Frame.where_) + c'.cUnits = A.units + unitsOf (fs.map Frame.where_) + c.cUnits + c'.cUnits := by
    show A.units + unitsOf ((c, p) :: fs.map Frame.where_) + c'.cUnits = _
    rw [unitsOf_cons]; omega
  show (⟨(marksOver (Frame.ret k none g l c p kp :: fs) (A.handled, A.handled)).1, A.depth + frameCount ((Frame.ret k none g l c p kp :: fs).map Frame.where_) + c'.weight,
    pushEnvs c'.envs (pushEnvs (envsOf ((Frame.ret k none g l c p kp :: fs).map Frame.where_)) A.frames), pushGuards c'.guards (pushGuards (guardsOf ((Frame.ret k none g l c p kp :: fs).map Frame.where_)) A.guards),
    A.units + unitsOf ((Frame.ret k none g l c p kp :: fs).map Frame.where_) + c'.cUnits⟩ : Around) = _
  rw [e2, e3, e4, e5]
  rfl

section
variable {M : Model} {A : Around} {R : GenEnd} {Y : Protocol} {yl : Bool} {c : Code} {fs : List Frame} {n : Nat} {s₀ s : Shared}
/-- a generator is woken -/
theorem w2_resume {g m : Nat} {gs : GenState} {r : Resume} {R' : GenEnd} {Y' : Protocol} {Q : Nat → Shared → GenResult → Shared → Prop} {E : Nat → Shared → Value → Shared → Prop} (hg : s.gens[g]? = some gs)
    (hgo : Ready M (A.over c fs) R' Y' m gs r (s.setGen g .running))
    (hR : ∀ x s₁, R' m (s.setGen g .running) x s₁ → Q n s₀ (End.ret x).result (s₁.setGen g .finished))
    (hY : ∀ v s₁ gs', Y' (m - 1) (s.setGen g .running) v s₁ (fun r' s'' => match m with | 0 => False | m + 1 => Ready M (A.over c fs) R' Y' m gs' r' s'') → Q n s₀ (.yielded v) (s₁.setGen g gs')) :
    W2 M A R Y yl c fs (resume g r) Q E n s₀ s := by
  intro K J gd lv _ hK _
  show Sg M A R Y n s₀ c (.resume g r (lv []) fun res => K res) fs s
  exact sg_resume hg hgo (fun x s₁ h => hK n s₀ _ _ (hR x s₁ h)) fun v s₁ gs' h => hK n s₀ _ _ (hY v s₁ gs' h)
end
section
variable {P : Program} {w : World} {A : Around} {R : GenEnd} {Y : Protocol} {yl : Bool} {c : Code} {fs : List Frame} {n : Nat} {s₀ s : Shared}
/-- a call of a plain built-in -/
theorem w2_builtin {id : String} {args : Args} {b : Builtin} {Q : Nat → Shared → Value → Shared → Prop} {E : Nat → Shared → Value → Shared → Prop} (hq : plainId id = true) (hb : entryFor table id = some b)
    (hchk : ∀ A', wpAny (model P w) A' (checkBuiltinCall id args) (fun _ s' => s' = s) (fun _ _ => False) s)
    (h : ∀ (k : Result → Sem PySem.Fin) (g : Bool) (l : List Value) (p : Pos), (yl = true → g = false) → W2 (model P w) A R Y yl (.builtin id args) (.ret k none g l c p [] :: fs) (b args) (fun n' s₀' fin s' => ∃ v, fin = .done (.ret v) ∧ Q n' s₀' v s') E n s₀ s) :
    W2 (model P w) A R Y yl c fs (call (.builtin id) args.pos args.kw) Q E n s₀ s := by
  unfold call runValue
  refine w2_bind (w2_run (P := fun n' s₀' r s' => match r with | .ok f => ∃ v, f = .ret v ∧ Q n' s₀' v s' | .error e => E n' s₀' e s') ?_ fun n' s₀' r s' q => ?_)
  · refine c2_tree fun k g l p hg => ?_
    show W2 _ _ _ _ _ _ _ (do checkBuiltinCall id args; again (.builtin id args)) _ _ _ _ _
    refine w2_bind (w2_of (wpAny_mono (hchk _) (fun _ s' e => ?_) fun _ _ z => z.elim))
    subst e
    refine w2_pure (.inr ⟨_, rfl, plainId_quiet hq _, c2_tree fun k g l p hg => ?_⟩)
    show W2 _ _ _ _ _ _ _ (match entryFor table id with | some b => b args | none => unsupported ((withoutEnding? id "#data").getD id)) _ _ _ _ _
    rw [hb]
    refine w2_mono (h k g l p hg) (fun n' s₀' fin s' ⟨v, e, q⟩ => .inl ⟨_, e, v, rfl, q⟩) fun _ _ _ _ z => z
  · cases r with
    | ok f =>
      obtain ⟨v, rfl, q⟩ := q
      exact w2_pure q
    | error e => exact q
/-- the next turn of a generator -/
theorem w2_next {a : Addr} {g m : Nat} {gs : GenState} {R' : GenEnd} {Y' : Protocol} {Q : Nat → Shared → Option Value → Shared → Prop} {E : Nat → Shared → Value → Shared → Prop} (hh : (A.over c fs).handled = none) (hl : s.heap.NoLimit)
    (hroom : (A.over c fs).depth < recursionLimit) (hg : GenAt s.heap a g) (hgs : s.gens[g]? = some gs) (hgo : Ready (model P w) (A.over c fs).in1 R' Y' m gs (.send .none) (s.setGen g .running))
    (hR : ∀ r s₁, R' m (s.setGen g .running) r s₁ → (r = .ok (.ret .none) ∨ r = .ok .next) ∧ ∀ e h', StopX e h' → (∀ b o, s₁.heap.get? b = some o → h'.get? b = some o) → E n s₀ e { s₁.setGen g .finished with heap := h' })
    (hY : ∀ v s₁ gs', Y' (m - 1) (s.setGen g .running) v s₁ (fun r' s'' => match m with | 0 => False | m + 1 => Ready (model P w) (A.over c fs).in1 R' Y' m gs' r' s'') → Q n s₀ (some v) (s₁.setGen g gs')) :
    W2 (model P w) A R Y yl c fs (callSpecial? (.ref a) "__next__") Q E n s₀ s := by
  simp only [callSpecial?]
  refine w2_bind (w2_of (wpAny_specialOf hg.typeIs slot_gen_next.lookup ?_))
  simp only [slot_gen_next.bind]
  refine w2_holding (w2_bind (w2_pure (w2_bind ?_)))
  show W2 _ _ _ _ _ _ _ (call (.builtin "generator.__next__") (⟨[.ref a], []⟩ : Args).pos (⟨[.ref a], []⟩ : Args).kw) _ _ _ _ _
  refine w2_builtin (slot_gen_next.plain) entry_gen_next (fun A' => slot_gen_next.check _ _ _ _ _ _ _ _ hg.typeIs (args_gen_next _) rfl) fun k gg l p hgg => ?_
  show W2 _ _ _ _ _ _ _ (Builtin.Generator.genWake (.ref a) (.send .none)) _ _ _ _ _
  have eA : A.over (.builtin "generator.__next__" ⟨[.ref a], []⟩) (.ret k none gg l c p [] :: fs) = (A.over c fs).in1 := by
    rw [over_ret, Around.under_plainId slot_gen_next.plain]
  unfold Builtin.Generator.genWake
  refine w2_bind (w2_holding (w2_of (wpAny_genNum hg ?_)))
  refine w2_bind (w2_of (wpAny_genState hgs ?_))
  have body : W2 (model P w) A R Y yl (.builtin "generator.__next__" ⟨[.ref a], []⟩) (.ret k none gg l c p [] :: fs) (do
      match ← resume g (.send .none) with
      | .yielded v => ret v
      | .returned v =>
        if v == .none then raiseNew (← newExc (.type "StopIteration") [])
        rule "generator.return-value"; throw (← newExc (.type "StopIteration") [v])
      | .raised e =>
        if let .throw _ := (Resume.send .none) then
          if gs.status == GenStatus.fresh then rule "generator.throw.into-fresh"; throw e
        Builtin.Generator.genLeft (.ref a) e
      | .running => rule "generator.already-executing"; raiseError "ValueError" "generator already executing"
      | .justStarted => rule "generator.send-to-fresh"; raiseError "TypeError" "can't send non-None value to a just-started generator"
      | .finished =>
        match (Resume.send .none) with
        | .send _ => raiseNew (← newExc (.type "StopIteration") [])
        | .throw e => throw e) (fun n' s₀' fin s' => ∃ v, fin = Fin.done (.ret v) ∧ W2 (model P w) A R Y yl c fs (pure (some v)) Q E n' s₀' s') E n s₀ s := by
    refine w2_bind (w2_resume hgs (by rw [eA]; exact hgo) (fun r s₁ hr => ?_) fun v s₁ gs' hv => ?_)
    · obtain ⟨hr, hx⟩ := hR r s₁ hr
      have hres : End.result (.ret r) = .returned .none := by
        rcases hr with hr | hr <;> rw [hr] <;> rfl
      rw [hres]
      show W2 _ _ _ _ _ _ _ (newExc (.type "StopIteration") [] >>= _) _ _ _ _ _
      refine w2_of ?_
      rw [eA]
      refine wpAny_bind ?_
      simp only [newExc, newTuple]
      refine wpAny_bind (wpAny_newObj_type ?_ (by size_fits))
      refine wpAny_bind (m := firstArgMember _ _) (wpAny_of_eq (a := Value.none) (by first | rfl | (simp only [firstArgMember]; rfl)) ?_)
      refine wpAny_newObj_type ?_ (by size_fits)
      simp only [raiseNew]
      refine wpAny_bind (wpAny_bind (wpAny_handled ?_))
      first | rw [show (A.over c fs).in1.handled = none from hh] | rw [hh]
      refine wpAny_throw ?_
      refine hx _ _ ⟨_, _, _, rfl, Heap.get?_push_size _ rfl, rfl, rfl, ?_⟩ fun b o hb => Heap.get?_push_of_some _ (Heap.get?_push_of_some _ hb)
      first
        | rfl
        | (rw [Array.getElem?_append_left (by decide)]; rfl)
        | kernel_rfl
    · refine w2_pure ⟨v, rfl, w2_pure ?_⟩
      rw [eA] at hv
      exact hY v s₁ gs' hv
  cases gs with
  | running => exact hgo.elim
  | finished => exact hgo.elim
  | fresh c1 =>
    refine w2_bind (w2_of ?_)
    rw [eA]
    exact wpAny_roomToWake hl hroom body
  | suspended k1 l1 c1 p1 fs1 cl1 =>
    refine w2_bind (w2_of ?_)
    rw [eA]
    exact wpAny_roomToWake hl hroom body
end
end Yf
set_option Elab.async false
set_option linter.all false
set_option maxRecDepth 100000
set_option maxHeartbeats 4000000
/-! G7: generators made by a call of a generator def. -/
namespace Yf
open PySem PySem.Spec PyProof.Rows L2 GenW

/-- a generator's end -/
def REnd2 (P : Program) (w : World) (outer : List Env) (H : Hp) (sc : Shared) (C : List Addr) (g : Nat) (F : Hp → Prop) : GenEnd := fun n s₀ r s1 =>
  (r = .ok (.ret .none) ∨ r = .ok .next) ∧ n = 0 ∧ g < s1.gens.size ∧ ∃ H', s1.os = sc.os ∧ AllBare s1.gens ∧ Un (frs outer) C H H' sc.heap s1.heap ∧ HOk P w H' s1.heap ∧ (∀ b ∈ C, H' b = none) ∧ (∀ b ∈ C, ∀ o, s₀.heap.get? b = some o → s1.heap.get? b = some o) ∧ F H'
/-- a generator's item -/
def YItem2 (P : Program) (w : World) (outer : List Env) (H : Hp) (sc : Shared) (C : List Addr) (g N : Nat) (O : Nat → V → Hp → Prop) : Protocol := fun n s₀ v s1 kap =>
  ∃ (j : Nat) (x : V) (H' : Hp), n + 1 + j = N ∧ RelV x v ∧ LowB g s1.gens ∧ g < s1.gens.size ∧ s1.os = sc.os ∧ Un (frs outer) C H H' sc.heap s1.heap ∧ HOk P w H' s1.heap ∧ s1.heap.NoLimit ∧ (∀ b ∈ C, H' b = none) ∧ (∀ b ∈ C, ∀ o, s₀.heap.get? b = some o → s1.heap.get? b = some o) ∧ O j x H' ∧
    ∀ s', Slp C g s1 s' → kap (.send .none) s'
/-- what a generator may change: its own object, older things that nobody tracks, newer things -/
structure COf (base : Heap) (outer : List Env) (H : Hp) (sc s' s2 : Shared) (a : Addr) (C : List Addr) : Prop where
  own : a ∈ C
  place : ∀ b ∈ C, b = a ∨ b < sc.heap.objs.size ∨ s'.heap.objs.size ≤ b
  old : ∀ b ∈ C, b < sc.heap.objs.size → base.get? b = none ∧ b ∉ frs outer ∧ H b = none
  cat : ∀ b ∈ C, ∃ o, s2.heap.get? b = some o ∧ ∀ v, o.data ≠ .cell v
/-- a generator that has not begun: it will hand out N things, as O says, and end as F says -/
def Made (P : Program) (w : World) (base : Heap) (k : Nat) (outer : List Env) (H : Hp) (sc : Shared) (N : Nat) (O : Nat → V → Hp → Prop) (F : Hp → Prop) (u : Value) (s' : Shared) : Prop :=
  ∃ (a : Addr) (g : Nat) (c : Code), u = .ref a ∧ sc.heap.objs.size < a ∧ a < s'.heap.objs.size ∧ GenAt s'.heap a g ∧ s'.gens = sc.gens.push (.fresh c) ∧ g = sc.gens.size ∧ s'.os = sc.os ∧ (∀ b o, sc.heap.get? b = some o → s'.heap.get? b = some o) ∧
    ∀ (A : Around) (C : List Addr) (s2 : Shared), Room k A → A.frames = some outer → COf base outer H sc s' s2 a C → (∀ b o, s'.heap.get? b = some o → s2.heap.get? b = some o) → s2.os = sc.os → AllBare s2.gens → g < s2.gens.size →
      Sg (model P w) A (REnd2 P w outer H sc C g F) (YItem2 P w outer H sc C g N O) N s2 c ((model P w).den c) [] s2
/-- a generator def's promise -/
abbrev SpN := List V → Hp → Nat → (Nat → V → Hp → Prop) → (Hp → Prop) → Prop
structure GFn2 (P : Program) (w : World) (K : PySem.W.Frag) (mg : Str → Option Value) (base : Heap) (k : Nat) (f : Addr) (fd : FuncData) (ps : List Str) (sp : SpN) : Prop where
  len : ∀ vs H N O F, sp vs H N O F → vs.length = ps.length
  run : ∀ (A : Around) (outer : List Env) (s : Shared) (H : Hp) (args : Args) (us : List Value) (vs : List V) (N : Nat) (O : Nat → V → Hp → Prop) (F : Hp → Prop), Room k A → Env0 P w K mg base A outer s H → BindsTo s fd args (ps.zip us) → Vals vs us → sp vs H N O F →
    codeAny (model P w) A (.call (.ref f) args) (fun r s' => match r with | .ok (.ret u) => Made P w base k outer H s N O F u s' | _ => False) s

/-- the context of a generator def's body -/
def gx (P : Program) (w : World) (K : PySem.W.Frag) (mg : Str → Option Value) (base : Heap) (N : List Str) (qual : Str) (scope : Scope) (f : Addr) (cd : Value) (A : Around) (outer : List Env) (s : Shared) (H : Hp) (C : List Addr) : Cx :=
  { cxOf C8.CX0 P w K mg base N qual scope f cd A outer s H (fun _ _ _ => False) with
    ex := C
    xe := fun _ _ => False }
theorem inv_start2 {P : Program} {w : World} {K : PySem.W.Frag} {mg : Str → Option Value} {base : Heap} {N ps : List Str} {qual : Str} {scope : Scope} {f : Addr} {cd : Value} {A : Around} {outer : List Env} {s s1 s' s2 : Shared} {H : Hp} {us : List Value} {vs : List V} {C : List Addr} {a : Addr}
    (S : GScope N ps scope) (hd : A.handled = none) (e0 : Env0 P w K mg base A outer s H) (hl : vs.length = ps.length) (r : Vals vs us) (hs : s1.heap.objs.size ≤ a) (hs' : a < s'.heap.objs.size) (hC : COf base outer H s s' s2 a C)
    (x : InCallC s s.heap.objs.size (bindL (envOfC qual scope s.heap.objs.size f cd).kindOf (ps.zip us) fun _ => none) (cellsFrom (s.heap.objs.size + 1) scope.names []) (bindC (envOfC qual scope s.heap.objs.size f cd).kindOf (ps.zip us) fun _ => none) s1) :
    Inv (gx P w K mg base N qual scope f cd A outer s H C) [] (L2.start N vs) H s1 := by
  have hpl : ps.length ≤ N.length := by have := congrArg List.length S.pre; rw [List.length_take] at this; omega
  have lt1 : s.heap.objs.size < s1.heap.objs.size := x.toInCall.ns.lt
  have cellC : ∀ y c, (cellsFrom (s.heap.objs.size + 1) scope.names []).lookup y = some c → s.heap.objs.size < c ∧ c < s1.heap.objs.size := fun y c e => by
    refine ⟨x.above y c (PySem.mem_of_lookup e), ?_⟩
    obtain ⟨ob, ho, _⟩ := x.cell y c e
    exact Heap.lt_size ho
  have exf : ∀ b ∈ C, b ≠ s.heap.objs.size ∧ ∀ y c, (cellsFrom (s.heap.objs.size + 1) scope.names []).lookup y = some c → c ≠ b := fun b hb => by
    refine ⟨?_, fun y c e => ?_⟩
    · intro q
      rcases hC.place b hb with z | z | z
      · rw [← z, q] at hs; exact absurd (Nat.lt_of_lt_of_le lt1 hs) (Nat.lt_irrefl _)
      · rw [q] at z; exact absurd z (Nat.lt_irrefl _)
      · rw [q] at z; exact absurd (Nat.lt_of_lt_of_le (Nat.lt_of_lt_of_le lt1 hs) (Nat.le_trans (Nat.le_of_lt hs') z)) (Nat.lt_irrefl _)
    · have cc := cellC y c e
      intro q
      rw [q] at cc
      have c1 := cc.1
      have c2 := cc.2
      rcases hC.place b hb with z | z | z
      · rw [z] at c2; exact absurd (Nat.lt_of_lt_of_le c2 hs) (Nat.lt_irrefl _)
      · exact absurd (Nat.lt_trans c1 z) (Nat.lt_irrefl _)
      · exact absurd (Nat.lt_of_lt_of_le (Nat.lt_of_lt_of_le c2 hs) (Nat.le_trans (Nat.le_of_lt hs') z)) (Nat.lt_irrefl _)
  have nofr : ∀ b ∈ C, b ∉ frs outer := fun b hb hm => by
    obtain ⟨_, o, ho, _⟩ := e0.funs.mem hm
    have h1 := Heap.lt_size ho
    exact (hC.old b hb h1).2.1 hm
  obtain ⟨h1, tk, rfl, hk⟩ := x.done
  refine ⟨⟨e0.mod, S.kind, rfl, rfl, Nat.le_refl _, fun y z c h1 h2 => ?_, fun y hy => ?_, fun y c _ h => ?_, fun _ => hd, Around.frames_deeper e0.frames, .inr ⟨rfl, rfl⟩, exf, e0.bs, e0.bsz, fun b o e hb => ?_, nofr, e0.funs, e0.frf⟩,
    rfl, e0.bare, Un.kept hk, ⟨_, x.toInCall.ns, fun i y v h1 h2 h3 => ?_⟩, fun y c h => ⟨_, x.cell y c h⟩, e0.hok.fresh (Nat.le_refl _), fun y c h => ?_, fun p hp => absurd (show p ∈ ([] : List (Addr × Obj)) from hp) (by simp), e0.hok.kept hk, ?_⟩
  · exact name_of_addr x.apart (PySem.mem_of_lookup h1) (PySem.mem_of_lookup h2)
  · have hy : scope.names.lookup y = some .cell ∨ scope.names.lookup y = some .free := hy
    rcases hy with hy | hy
    · exact cell_has hy
    · exact absurd rfl (S.nofree _ (PySem.mem_of_lookup hy))
  · exact Nat.le_of_lt (x.above y c (PySem.mem_of_lookup h))
  · have e : base.get? b = some o := e
    have hlt := Nat.lt_of_lt_of_le (Heap.lt_size e) e0.bsz
    have := (hC.old b hb hlt).1
    rw [e] at this; cases this
  · have hi : i < vs.length := by
      unfold L2.start at h2
      by_cases hi : i < vs.length
      · exact hi
      · rw [List.getElem?_append_right (by simpa using hi)] at h2
        rw [List.getElem?_replicate] at h2
        split at h2 <;> cases h2
    have ha : vs[i]? = some v := by
      unfold L2.start at h2
      rw [List.getElem?_append_left (by simpa using hi), List.getElem?_map] at h2
      cases e : vs[i]? with
      | none => rw [e] at h2; cases h2
      | some a => rw [e] at h2; cases h2; rfl
    obtain ⟨u, hu, rv⟩ := r.get ha
    have hp : ps[i]? = some y := by
      rw [← S.pre, List.getElem?_take_of_lt (by omega)]; exact h1
    have ndP : ps.Nodup := by rw [← S.pre]; exact S.nd.sublist (List.take_sublist _ _)
    refine ⟨u, rv, ?_⟩
    rcases S.par y (List.mem_of_getElem? hp) with k | k
    · exact .inl ⟨k, bindL_get ndP hp hu k⟩
    · obtain ⟨c, e⟩ := cell_has (n := s.heap.objs.size + 1) k
      refine .inr ⟨.inl k, c, e, ?_⟩
      have q := x.cell y c e
      rw [bindC_get ndP hp hu (by show scope.names.lookup y ≠ _; rw [k]; decide)] at q
      exact q
  · exact e0.hok.fresh (Nat.le_of_lt (x.above y c (PySem.mem_of_lookup h)))
  · unfold L2.start
    show _ = N.length
    rw [List.length_append, List.length_map, List.length_replicate]
    omega

/-- a def's code under a segment -/
theorem sg_func {P : Program} {w : World} {A : Around} {R : GenEnd} {Y : Protocol} {n : Nat} {s₀ s : Shared} {body : List Stmt} {env : Env} {fs : List Frame}
    (h : Sg (model P w) A R Y n s₀ (.func body env) ((execs body env).wrap (fun f => .pure (.done (.ret (match f with | .ret v => v | _ => .none))))
      (fun e => (leaving env e).wrap (fun _ => .raise e) .raise id id) id id) fs s) :
    Sg (model P w) A R Y n s₀ (.func body env) ((model P w).den (.func body env)) fs s := by
  show Sg _ A R Y n s₀ _ (.point [] fun _ => ((execs body env).onRaise (leaving env)) >>= _) fs s
  refine sg_point ?_
  rw [Sem.onRaise_eq_wrap, Sem.bind_eq_wrap', Sem.wrap_wrap]
  rw [Sem.wrap_congr (execs body env) _ _ (K' := fun f => .pure (.done (.ret (match f with | .ret v => v | _ => .none))))
    (H' := fun e => (leaving env e).wrap (fun _ => .raise e) .raise id id) (fun f => by cases f <;> rfl)
    (fun e => by rw [Sem.bind_eq_wrap, Sem.wrap_wrap]; rfl)]
  exact h

/-- THE RULE: a generator def, by its body -/
theorem gfn2_of {P : Program} {w : World} {K : PySem.W.Frag} {mg : Str → Option Value} {base : Heap} {k : Nat} {f : Addr} {name qual : Str} {params : Arguments} {body : List Stmt} {scope : Scope} {dV kV doc pm cdv ct oc : Value} {an od : Option Addr}
    {osl : Array (Option Value)} {N ps : List Str} {sp : SpN} (lk : K.lookup f = some ⟨oc, od, .func (PySem.W.fnOf name qual params body scope dV kV doc pm an cdv ct), osl⟩) (hcd : PySem.W.codeIn K cdv qual = true) (S : GScope N ps scope)
    (len : ∀ vs H n O F, sp vs H n O F → vs.length = ps.length)
    (hbody : ∀ (A : Around) (outer : List Env) (s : Shared) (H : Hp) (vs : List V) (n : Nat) (O : Nat → V → Hp → Prop) (F : Hp → Prop) (C : List Addr), Room k (A.deeper (envOfC qual scope s.heap.objs.size f cdv)) → sp vs H n O F →
      ∃ t : TGn, GSs (gx P w K mg base N qual scope f cdv A outer s H C) true body t ∧ ∀ g, t ⟨C, g, n, O⟩ { nx := fun j _ H' => j = n ∧ F H', rt := fun j v H' => v = .non ∧ j = n ∧ F H' } 0 (L2.start N vs) H) :
    GFn2 P w K mg base (k + 1) f (PySem.W.fnOf name qual params body scope dV kV doc pm an cdv ct) ps sp := by
  refine ⟨len, fun A outer s H args us vs n O F hr e0 hb r hsp => ?_⟩
  have hl := len _ _ _ _ _ hsp
  have KX : K.In s.heap := e0.mod.kin.keeps fun b o e => (e0.bs b o e).1
  have lim : s.heap.NoLimit := e0.mod.nolimit.keeps fun b o e => (e0.bs b o e).1
  have hkind : ∀ y ∈ ps.zip us, scope.names.lookup y.1 = some .local ∨ (scope.names.lookup y.1 = some .cell ∧ ((cellsFrom (s.heap.objs.size + 1) scope.names []).lookup y.1).isSome = true) := fun ⟨n, v⟩ hy => by
    rcases S.par n (List.of_mem_zip hy).1 with q | q
    · exact .inl q
    · exact .inr ⟨q, PySem.W.cellsFrom_some _ _ _ (.inl q)⟩
  refine codeAny_call_generator hr.depth (KX _ _ lk) rfl S.co S.gen rfl (PySem.W.codeRec_of KX hcd) (hb _ _ _ _ ?_)
  refine wpAny_newFunctionEnv_cells S.kind hkind fun env he s1 x => ?_
  subst he
  have lim1 : s1.heap.NoLimit := lim.keeps x.toInCall.keep
  refine ⟨lim1, ?_⟩
  obtain ⟨h1, tk, es1, hk1⟩ := x.done
  have os1 : s1.os = s.os := by rw [es1]
  have gen1 : s1.gens = s.gens := by rw [es1]
  have lt1 : s.heap.objs.size < s1.heap.objs.size := x.toInCall.ns.lt
  have kp1 : ∀ b o, s.heap.get? b = some o → s1.heap.get? b = some o := x.toInCall.keep
  have main : ∀ (go : Obj) (nm qn : Value) (tk2 : Nat), go.cls = .type "generator" → go.data = .fields #[.int s1.gens.size 0, nm, qn] → go.slots = #[] → (∀ h : Heap, (h.push go).get? h.objs.size = some go) →
      Made P w base (k + 1) outer H s n O F (.ref s1.heap.objs.size) { s1 with gens := s1.gens.push (.fresh (.func body (envOfC qual scope s.heap.objs.size f cdv))), toks := tk2, heap := s1.heap.push go } := by
    intro go nm qn tk2 hgc hgd0 hgs hgp
    have hpushed : (s1.heap.push go).get? s1.heap.objs.size = some go := hgp _
    have hsz : (s1.heap.push go).objs.size = s1.heap.objs.size + 1 := Heap.size_push ..
    refine ⟨s1.heap.objs.size, s1.gens.size, _, rfl, lt1, ?_, .of ⟨go, nm, qn, hpushed, hgc, hgd0, hgs⟩, by rw [gen1], by rw [gen1], os1, fun b o e => Heap.get?_push_of_some _ (kp1 b o e), ?_⟩
    · show _ < (s1.heap.push _).objs.size
      rw [Heap.size_push]; exact Nat.lt_succ_self _
    intro Aw C s2 hrw hfr hC hk2 hos hba hgz
    have e0w : Env0 P w K mg base Aw outer s H := ⟨hfr, e0.mod, e0.bs, e0.bsz, e0.funs, e0.frf, e0.hok, e0.bare⟩
    obtain ⟨t, ht, hq⟩ := hbody Aw outer s H vs n O F C (hrw.deeper _) hsp
    generalize hX : gx P w K mg base N qual scope f cdv Aw outer s H C = X at ht
    have I1 : Inv X [] (L2.start N vs) H s1 := by
      rw [← hX]
      exact inv_start2 S hrw.hd e0w hl r (Nat.le_refl _) (by show _ < (s1.heap.push go).objs.size; omega) hC x
    have kp2 : ∀ b o, s1.heap.get? b = some o → s2.heap.get? b = some o := fun b o e => hk2 b o (Heap.get?_push_of_some _ e)
    have I2 : Inv X [] (L2.start N vs) H s2 :=
      I1.call' (ch := []) (hos.trans os1.symm) (Un.kept kp2) (I1.hok.kept kp2) hba fun b z => by simp at z
    have hCn : ∀ b ∈ C, H b = none := fun b hb => by
      rcases hC.place b hb with z | z | z
      · exact I1.hok.fresh (Nat.le_of_eq z.symm)
      · exact (hC.old b hb z).2.2
      · have z : (s1.heap.push go).objs.size ≤ b := z
        exact I1.hok.fresh (by omega)
    have eex : X.ex = C := by rw [← hX]; rfl
    have epn : X.pn = [] := by rw [← hX]; rfl
    have hCok : ∀ G : Gp, G.C = C → COk X G [] := fun G hG b hb => by
      rw [hG] at hb
      have h1 := I1.ok.exf b (by rw [eex]; exact hb)
      exact ⟨.inl (by rw [eex]; exact hb), h1.1, h1.2, I1.ok.exfs b (by rw [eex]; exact hb), fun p hp => by rw [epn] at hp; simp at hp⟩
    let G : Gp := ⟨C, s1.gens.size, n, O⟩
    have hG : GI X G [] s2 (L2.start N vs) H s2 := re_pin (hCok G rfl) hCn (fun b hb o e => ⟨e, by obtain ⟨o', e', d⟩ := hC.cat b hb; rw [e] at e'; cases e'; exact d⟩) I2
    have fin : ∀ {s₀' s' : Shared} {ip : List (Addr × Obj)} {σ' : L2.St} {H' : Hp}, CAt G s₀' → GI X G ip s₀' σ' H' (clr s') →
        s'.os = s.os ∧ Un (frs outer) C H H' s.heap s'.heap ∧ HOk P w H' s'.heap ∧ s'.heap.NoLimit ∧ (∀ b ∈ C, H' b = none) ∧ (∀ b ∈ C, ∀ o, s₀'.heap.get? b = some o → s'.heap.get? b = some o) := fun {s₀' s' ip σ' H'} hc hI => by
      have h1 := hI.os
      have h2 := hI.base
      have h3 := hI.hok
      have h4 := hI.nolimit
      have h5 := c_free (G := G) hc hI
      have h6 := c_same (G := G) hI
      rw [← hX] at h1 h2 h3
      exact ⟨h1, h2, h3, h4, h5, h6⟩
    refine sg_func ?_
    have gc : GC X G true (YItem2 P w outer H s C s1.gens.size n O) [] Aw (.func body (envOfC qual scope s.heap.objs.size f cdv)) [] := by
      refine ⟨?_, fun _ => rfl, fun _ => rfl, hCok G rfl, fun _ n' s₀' v s' kap hY => ?_, fun e s' hx => by rw [← hX] at hx; exact hx, fun _ => List.ne_nil_of_mem hC.own, fun z => Bool.noConfusion z⟩
      · rw [over_func, ← hX]; rfl
      · obtain ⟨j, xx, ip, σ', H', hn, rv, hlow, hc, hI, ho, hk⟩ := hY
        obtain ⟨f1, f2, f3, f4, f5, f6⟩ := fin hc.1 hI
        exact ⟨j, xx, H', hn, rv, hlow, hc.2 (List.ne_nil_of_mem hC.own), f1, f2, f3, f4, f5, f6, ho, hk⟩
    have z := ht.run G _ Aw (REnd2 P w outer H s C s1.gens.size F) _ [] [] n 0 s2 s2 _ H _ gc (Nat.add_zero _) ⟨hC.cat, fun _ => hgz⟩ hG (hq _)
    have eenv : X.env = envOfC qual scope s.heap.objs.size f cdv := by rw [← hX]; rfl
    have eprog : X.prog = P := by rw [← hX]; rfl
    have ew : X.w = w := by rw [← hX]; rfl
    rw [eprog, ew] at z
    rw [← eenv]
    rw [← eenv] at z
    refine z _ _ id id (fun _ => rfl) (fun n' s₀' fl s' hs => ?_) fun n' s₀' e s' hs => hs.elim
    obtain ⟨j', hn', hc', hs⟩ := hs
    cases fl with
    | next =>
      obtain ⟨σ', H', hI, e1, e2⟩ := hs
      obtain ⟨f1, f2, f3, f4, f5, f6⟩ := fin hc'.1 (inv_clr hI)
      exact sg_end (.ok (.ret .none)) ⟨.inl rfl, by have : n' + j' = n := hn'; omega, hc'.2 (List.ne_nil_of_mem hC.own), H', f1, hI.bare, f2, f3, f5, f6, e2⟩
    | brk => obtain ⟨_, _, _, q⟩ := hs; exact False.elim q
    | cont => obtain ⟨_, _, _, q⟩ := hs; exact False.elim q
    | ret u =>
      obtain ⟨v, σ', H', hI, rv, ev, e1, e2⟩ := hs
      subst ev
      obtain rfl : u = Value.none := rv
      obtain ⟨f1, f2, f3, f4, f5, f6⟩ := fin hc'.1 (inv_clr hI)
      exact sg_end (.ok (.ret .none)) ⟨.inl rfl, by have : n' + j' = n := hn'; omega, hc'.2 (List.ne_nil_of_mem hC.own), H', f1, hI.bare, f2, f3, f5, f6, e2⟩
  exact main _ _ _ _ rfl rfl rfl fun h => Heap.get?_push_size _ rfl
end Yf
set_option Elab.async false
set_option linter.all false
set_option maxRecDepth 100000
set_option maxHeartbeats 4000000
/-! G8: «yield from» over a generator. -/
namespace Yf
open PySem PySem.Spec PyProof.Rows L2 GenW

theorem close_gen : ∃ v, typeLookup (.type "generator") "close" = pure (some v) := ⟨.builtin "generator.close", by rw [typeLookup_type, builtinLookup_eq_fast]; kernel_rfl⟩
theorem pyIter_gen {P : Program} {w : World} {A : Around} {E : Value → Shared → Prop} {s : Shared} {a : Addr} {g : Nat} {Q : Value → Shared → Prop} (hg : GenAt s.heap a g) (h : Q (.ref a) s) :
    wpAny (model P w) A (pyIter (.ref a)) Q E s := by
  refine wpAny_pyIter_slot hg.typeIs slot_gen_iter (wpAny_call_entry slot_gen_iter hg.typeIs entry_gen_iter ?_ (args_gen_iter _))
  show wpAny _ _ (ret (.ref a)) _ _ s
  exact wpAny_pure ⟨_, rfl, "generator", _, hg.typeIs, slot_gen_next.lookup, h⟩
/-- a generator's object while a delegator sleeps over it -/
def SleepAt (h : Heap) (a : Addr) (g : Nat) : Prop :=
  ∃ (o : Obj) (nm qn : Value) (k : Int), h.get? a = some o ∧ o.cls = .type "generator" ∧ o.data = .fields #[.int g 0, nm, qn] ∧ o.slots[0]? = some (some (.int k 0)) ∧ k ≤ 1
theorem slot0 {xs : Array (Option Value)} {v : Option Value} : ((xs ++ Array.replicate (0 + 1 - xs.size) none).setIfInBounds 0 v)[0]? = some v := by
  have : 0 < (xs ++ Array.replicate (0 + 1 - xs.size) (none : Option Value)).size := by
    rw [Array.size_append, Array.size_replicate]; omega
  rw [Array.getElem?_setIfInBounds_self_of_lt this]
section
variable {M : Model} {A : Around} {E : Value → Shared → Prop} {s : Shared} {a : Addr} {g : Nat} {Q : Unit → Shared → Prop}
theorem sleep_on (hg : GenAt s.heap a g) (h : ∀ h', SleepAt h' a g → (∀ b o, b ≠ a → s.heap.get? b = some o → h'.get? b = some o) → Q () { s with heap := h' }) : wpAny M A (Builtin.Generator.sleptOver (.ref a) true) Q E s := by
  obtain ⟨o, nm, qn, ho, hc, hd, hs⟩ := hg
  unfold Builtin.Generator.sleptOver
  refine wpAny_bind (wpAny_load ho ?_)
  have hng : ¬ ((Value.type "generator" != Value.type "generator") = true) := by decide
  rw [hc, if_neg hng]
  unfold setSlotAt
  dsimp only
  rw [if_neg (by rw [sizeLine_eq]; omega)]
  refine wpAny_updatePart ho (h _ ⟨_, nm, qn, _, Heap.get?_update_self _ ho (by simp [Obj.isFreed, hd]), hc, hd, slot0, ?_⟩ fun b o' hb e => (Heap.get?_update_other _ _ (Ne.symm hb)).trans e)
  simp only [if_true]
  split
  · rename_i e
    have := hs _ _ e
    omega
  · omega
theorem sleep_off (hg : SleepAt s.heap a g) (h : ∀ h', GenAt h' a g → (∀ b o, b ≠ a → s.heap.get? b = some o → h'.get? b = some o) → Q () { s with heap := h' }) : wpAny M A (Builtin.Generator.sleptOver (.ref a) false) Q E s := by
  obtain ⟨o, nm, qn, k, ho, hc, hd, hs, hk⟩ := hg
  unfold Builtin.Generator.sleptOver
  refine wpAny_bind (wpAny_load ho ?_)
  have hng : ¬ ((Value.type "generator" != Value.type "generator") = true) := by decide
  rw [hc, if_neg hng]
  unfold setSlotAt
  dsimp only
  rw [if_neg (by rw [sizeLine_eq]; omega)]
  simp only [hs]
  refine wpAny_updatePart ho (h _ ⟨_, nm, qn, Heap.get?_update_self _ ho (by simp [Obj.isFreed, hd]), hc, hd, fun k' t e => ?_⟩ fun b o' hb e => (Heap.get?_update_other _ _ (Ne.symm hb)).trans e)
  have e2 := e
  rw [show (some (some (Value.int k' t)) : Option (Option Value)) = some (some (Value.int k' t)) from rfl] at e2
  have q : some (some (rawInt (k - 1))) = some (some (Value.int k' t)) := by rw [← e2]; exact slot0.symm
  have q2 : rawInt (k - 1) = Value.int k' t := Option.some.inj (Option.some.inj q)
  unfold rawInt at q2
  injection q2 with q3 _
  omega
end

/-- an expression whose value is a generator that has not begun -/
abbrev TG2 := L2.St → Hp → Nat → (Nat → V → Hp → Prop) → (Hp → Prop) → Prop
structure PGen2 (X : Cx) (k : Nat) (e : Expr) (tg : TG2) : Prop where
  run : ∀ (pins : List (Addr × Obj)) (s : Shared) (σ : L2.St) (H : Hp) (N : Nat) (O : Nat → V → Hp → Prop) (F : Hp → Prop), Inv X pins σ H s → tg σ H N O F → wpAny (model X.prog X.w) X.A (eval e X.env)
    (fun u s' => ∃ H1 sc, Inv X pins σ H1 sc ∧ Made X.prog X.w X.base k X.stack H1 sc N O F u s') X.xe s
theorem room_nest {k : Nat} {A : Around} (r : Room k A) (h : A.units + 16 * k + 202 < cLine) : Room k A.in1.in1 := ⟨r.hd, r.dp, by show A.units + 1 + 1 + 16 * k + 200 < _; omega⟩
theorem room_in1 {k : Nat} {A : Around} (r : Room (k + 1) A) : Room k A.in1.in1 := ⟨r.hd, by have := r.dp; show A.depth + 3 * k + 5 < _; omega, by have := r.un; show A.units + 1 + 1 + 16 * k + 200 < _; omega⟩

section
variable {X : Cx}
theorem w2_app {M : Model} {A : Around} {R : GenEnd} {Y : Protocol} {yl : Bool} {c : Code} {fs : List Frame} {α : Type} {m : Sem α} {Q : Nat → Shared → α → Shared → Prop} {E : Nat → Shared → Value → Shared → Prop} {n : Nat} {s₀ s : Shared} {K : α → Sem PySem.Fin} {J : Value → Sem PySem.Fin} {gd : Bool → Bool} {lv : List Value → List Value}
    (hgd : yl = true → gd false = false) (hK : ∀ n' s₀' a s', Q n' s₀' a s' → Sg M A R Y n' s₀' c (K a) fs s') (hJ : ∀ n' s₀' x s', E n' s₀' x s' → Sg M A R Y n' s₀' c (J x) fs s') (h : W2 M A R Y yl c fs m Q E n s₀ s) : Sg M A R Y n s₀ c (m.wrap K J gd lv) fs s := h K J gd lv hgd hK hJ
abbrev yfCode (a : Addr) : Code := .builtin "proto.yield_from" ⟨[.ref a, .bool false, .none], []⟩
/-- where the turns of «yield from» stand -/
structure YT (X : Cx) (G : Gp) (outer : List Env) (H1 : Hp) (sc : Shared) (N1 : Nat) (O : Nat → V → Hp → Prop) (F : Hp → Prop) (B : Around) (a : Addr) (g1 : Nat) (m : Nat) (s₀ s : Shared) : Prop where
  nl : s.heap.NoLimit
  gen : GenAt s.heap a g1
  cas : CAs G s₀ s
  same : ∀ b ∈ G.C, ∀ o, s₀.heap.get? b = some o → s.heap.get? b = some o
  go : ∃ gs, s.gens[g1]? = some gs ∧ Ready (model X.prog X.w) B (REnd2 X.prog X.w outer H1 sc (a :: G.C) g1 F) (YItem2 X.prog X.w outer H1 sc (a :: G.C) g1 N1 O) m gs (.send .none) (s.setGen g1 .running)

theorem setGen_ne {s : Shared} {g i : Nat} {x : GenState} (h : i ≠ g) : (s.setGen g x).gens[i]? = s.gens[i]? := by
  show (s.gens.setIfInBounds g x)[i]? = _
  rw [Array.getElem?_setIfInBounds_ne (Ne.symm h)]

theorem c2_yf {G : Gp} {yl : Bool} {Y : Protocol} {ip : List (Addr × Obj)} {A : Around} {R : GenEnd} {c : Code} {fs : List Frame} {σ : L2.St} {H1 : Hp} {sc : Shared} {N1 j0 : Nat} {O : Nat → V → Hp → Prop} {F : Hp → Prop} {D : GEn} {a : Addr} {g1 : Nat} (g : GC X G true Y ip A c fs)
    (hd : X.A.handled = none) (hdp : X.A.depth < recursionLimit) (I : Inv X ip σ H1 sc) (hN : j0 + N1 ≤ G.N) (hg1 : G.g < g1) (hfree : ∀ b ∈ G.C, H1 b = none) (haC : a ∉ G.C) (ha : sc.heap.objs.size < a) 
    (hO : ∀ i x H', O i x H' → G.Out (j0 + i) x H') (hF : ∀ H', F H' → D.nx (j0 + N1) σ H') :
    ∀ (m n i : Nat) (s₀ s : Shared), m + i = N1 → n + (j0 + i) = G.N → YT X G X.stack H1 sc N1 O F X.A.in1.in1 a g1 m s₀ s →
      C2 (model X.prog X.w) A R Y true c fs (yfCode a) (fun n' s₀' r s' => r = .ok (.ret .none) ∧ ∃ j', n' + j' = G.N ∧ CAs G s₀' s' ∧ GSP X G ip s₀' D j' .next s') n s₀ s := by
  have hcok := g.cok
  have cbase : ∀ b ∈ G.C, (b ∈ X.ex ∨ X.s_0.heap.objs.size ≤ b) ∧ b ≠ X.env.locals ∧ (∀ x c, X.env.cells.lookup x = some c → c ≠ b) ∧ ∀ p ∈ X.pn ++ ip, p.1 ≠ b := fun b hb => by
    obtain ⟨q1, q2, q3, _, q5⟩ := hcok b hb
    exact ⟨q1, q2, q3, q5⟩
  have abase : (a ∈ X.ex ∨ X.s_0.heap.objs.size ≤ a) ∧ a ≠ X.env.locals ∧ (∀ x c, X.env.cells.lookup x = some c → c ≠ a) ∧ ∀ p ∈ X.pn ++ ip, p.1 ≠ a := by
    refine ⟨.inr (Nat.le_trans I.sz (Nat.le_of_lt ha)), Nat.ne_of_gt (Nat.lt_trans I.lt ha), fun x c e z => ?_, fun p hp z => ?_⟩
    · obtain ⟨v, o, ho, _⟩ := I.cell x c e
      have := Heap.lt_size ho
      rw [z] at this
      exact absurd (Nat.lt_trans ha this) (Nat.lt_irrefl _)
    · have h1 := (I.pin p hp).1
      have := Heap.lt_size h1
      rw [z] at this
      exact absurd (Nat.lt_trans ha this) (Nat.lt_irrefl _)
  have cc : ∀ b ∈ a :: G.C, (b ∈ X.ex ∨ X.s_0.heap.objs.size ≤ b) ∧ b ≠ X.env.locals ∧ (∀ x c, X.env.cells.lookup x = some c → c ≠ b) ∧ ∀ p ∈ X.pn ++ ip, p.1 ≠ b := fun b hb => by
    rcases List.mem_cons.mp hb with z | z
    · rw [z]; exact abase
    · exact cbase b z
  have gi : ∀ {s₀ s' : Shared} {H' : Hp}, CAt G s₀ → s'.os = sc.os → Un (frs X.stack) (a :: G.C) H1 H' sc.heap s'.heap → HOk X.prog X.w H' s'.heap → (∀ b ∈ a :: G.C, H' b = none) → (∀ b ∈ G.C, ∀ o, s₀.heap.get? b = some o → s'.heap.get? b = some o) →
      GI X G ip s₀ σ H' (clr s') := fun {s₀ s' H'} hc os un hok fr same => by
    refine re_pin hcok (fun b hb => fr b (List.mem_cons_of_mem _ hb)) (fun b hb o e => ⟨same b hb o e, ?_⟩) ((inv_clr I).call' (s' := clr s') (ch := a :: G.C) os un hok (fun x hx => by simp [clr] at hx) cc)
    obtain ⟨o', e', d⟩ := hc b hb
    rw [e] at e'; cases e'
    exact d
  intro m
  induction m with
  | zero =>
    intro n i s₀ s hmi hn T
    refine c2_tree fun k gg l p hgg => ?_
    have eA : A.over (yfCode a) (.ret k none gg l c p [] :: fs) = X.A.in1 := by
      rw [over_ret, Around.under_plainId plain_yf, g.over]
    show W2 _ _ _ _ _ _ _ ((model X.prog X.w).den (.builtin "proto.yield_from" ⟨[.ref a, .bool false, .none], []⟩)) _ _ _ _ _
    rw [den_yf]
    unfold Builtin.«proto.yield_from»
    dsimp only
    refine w2_bind (w2_pure ?_)
    try dsimp only
    refine w2_bind (w2_attempt (w2_holding ?_))
    rw [if_neg Bool.false_ne_true, if_pos (show (Value.none == Value.none) = true from rfl)]
    refine w2_bind (w2_of (wpAny_rule (w2_bind ?_)))
    obtain ⟨gs, hgs, hgo⟩ := T.go
    refine w2_next (m := 0) (by rw [eA]; exact hd) T.nl (by rw [eA]; exact hdp) T.gen hgs (by rw [eA]; exact hgo) (fun r s₁ hr => ?_) fun v s₁ gs' hv => ?_
    · obtain ⟨hr, _, sz1, H', os1, bare1, un1, hok1, fr1, same1, hF1⟩ := hr
      refine ⟨hr, fun e h' hS hk => ?_⟩
      obtain ⟨ax, ox, vs, rfl, hoa, hcls, hdat, h5⟩ := hS
      try dsimp only
      refine w2_bind (w2_of (wpAny_endsTurn hoa hcls ?_))
      try dsimp only
      rw [if_pos rfl]
      first
        | refine w2_bind (w2_of (wpAny_rule ?_))
        | (rw [if_neg Bool.false_ne_true]; refine w2_bind (w2_of (wpAny_rule ?_)))
        | (rw [if_neg Bool.false_ne_true]; refine w2_bind (w2_pure ?_); refine w2_bind (w2_of (wpAny_rule ?_)))
      refine w2_bind (w2_of (wpAny_field hoa hdat h5 ?_))
      have hsz : (s₁.setGen g1 .finished).gens.size = s₁.gens.size := setGen_size _ _ _
      refine w2_pure (.inl ⟨_, rfl, rfl, j0 + i, hn, ⟨T.cas.1, fun _ => by show G.g < (s₁.setGen g1 .finished).gens.size; omega⟩, σ, H', ?_, ?_⟩)
      · exact inv_unclr (gi (s' := { s₁.setGen g1 .finished with heap := h' }) T.cas.1 os1 (un1.trans (Un.kept hk)) (hok1.kept hk) fr1 fun b hb o e => hk _ _ (same1 b (List.mem_cons_of_mem _ hb) o (T.same b hb o e))) (allBare_setGen bare1 rfl)
      · have : i = N1 := by omega
        rw [this]; exact hF H' hF1
    · obtain ⟨j, x, H', _, _, low1, sz1, _, _, _, _, _, same1, _, hk⟩ := hv
      refine (hk s₁ ⟨rfl, low1, fun _ _ _ e => e, fun b hb => ?_, fun _ _ _ e => e, fun _ _ _ e1 e2 => (by rw [e1] at e2; cases e2), sz1⟩).elim
      rcases List.mem_cons.mp hb with z | z
      · obtain ⟨o, nm, qn, ho, hc, hdd, hs⟩ := T.gen
        rw [z]
        exact ⟨o, same1 a List.mem_cons_self o ho, fun v q => by rw [hdd] at q; cases q⟩
      · obtain ⟨o, ho, d⟩ := T.cas.1 b z
        exact ⟨o, same1 b hb o (T.same b z o ho), d⟩
  | succ m ih =>
    intro n i s₀ s hmi hn T
    obtain ⟨n, rfl⟩ : ∃ k, n = k + 1 := ⟨n - 1, by omega⟩
    refine c2_tree fun k gg l p hgg => ?_
    have eA : A.over (yfCode a) (.ret k none gg l c p [] :: fs) = X.A.in1 := by
      rw [over_ret, Around.under_plainId plain_yf, g.over]
    show W2 _ _ _ _ _ _ _ ((model X.prog X.w).den (.builtin "proto.yield_from" ⟨[.ref a, .bool false, .none], []⟩)) _ _ _ _ _
    rw [den_yf]
    unfold Builtin.«proto.yield_from»
    dsimp only
    refine w2_bind (w2_pure ?_)
    try dsimp only
    refine w2_bind (w2_attempt (w2_holding ?_))
    rw [if_neg Bool.false_ne_true, if_pos (show (Value.none == Value.none) = true from rfl)]
    refine w2_bind (w2_of (wpAny_rule (w2_bind ?_)))
    obtain ⟨gs, hgs, hgo⟩ := T.go
    refine w2_next (m := m + 1) (by rw [eA]; exact hd) T.nl (by rw [eA]; exact hdp) T.gen hgs (by rw [eA]; exact hgo) (fun r s₁ hr => ?_) fun v s₁ gs' hv => ?_
    · exact absurd hr.2.1 (by omega)
    · rw [eA] at hv
      obtain ⟨j, x, H', hj, rv, low1, sz1, os1, un1, hok1, nl1, fr1, same1, ho1, hk⟩ := hv
      have hj : j = i := by omega
      subst hj
      refine w2_pure ?_
      try dsimp only
      have gen1 : GenAt (s₁.setGen g1 gs').heap a g1 := T.gen.at fun o e => same1 a List.mem_cons_self o e
      refine w2_bind (w2_of (wpAny_typeOf gen1.typeIs ?_))
      try dsimp only
      obtain ⟨vc, hvc⟩ := close_gen
      refine w2_bind (w2_of (wpAny_of_eq hvc ?_))
      refine w2_bind (w2_pure ?_)
      refine w2_bind (w2_of (sleep_on gen1 fun hy slp ky => ?_))
      -- asleep
      intro K J gd lv hgd hK hJ
      show Sg (model X.prog X.w) A R Y (n + 1) s₀ (yfCode a) (.yield v (gd true) (lv []) fun woken => ((Builtin.Generator.sleptOver (.ref a) false >>= fun _ => (match woken with
        | .send v => (match v with | .ref _ => newList [v] | _ => pure v) >>= fun z => again (.builtin "proto.yield_from" ⟨[.ref a, .bool false, z], []⟩)
        | .throw e => (match e with | .ref _ => newList [e] | _ => pure e) >>= fun z => again (.builtin "proto.yield_from" ⟨[.ref a, .bool true, z], []⟩)) : Sem PySem.Fin)).wrap K J gd lv) (.ret k none gg l c p [] :: fs) _
      have hC' : ∀ b ∈ G.C, b ≠ a := fun b hb z => haC (z ▸ hb)
      have szn : (s₁.setGen g1 gs').gens.size = s₁.gens.size := setGen_size _ _ _
      have samey : ∀ b ∈ G.C, ∀ o, s₀.heap.get? b = some o → hy.get? b = some o := fun b hb o e => ky b o (hC' b hb) (same1 b (List.mem_cons_of_mem _ hb) o (T.same b hb o e))
      have uny : Un (frs X.stack) (a :: G.C) H1 H' sc.heap hy := un1.trans ⟨fun b o e _ _ hx => ky b o (fun z => hx (by rw [z]; exact List.mem_cons_self)) e, fun b o e _ _ hx => ⟨o.slots, ky b o (fun z => hx (by rw [z]; exact List.mem_cons_self)) e⟩, fun _ _ _ q _ => q,
        fun b o e hx => ⟨o, ky b o (fun z => hx (by rw [z]; exact List.mem_cons_self)) e⟩, fun _ _ q => q, fun _ _ _ q => q, fun _ _ q => ⟨#[], by rw [q]; simp⟩⟩
      have hoky : HOk X.prog X.w H' hy := fun b u e => by
        have nt : ∀ d w, H' d = some w → d ≠ a := fun d w q z => by rw [z, fr1 a List.mem_cons_self] at q; cases q
        refine (hok1 b u e).stay (fun d o hd q => ky d o ?_ q) (fun _ q => q) fun _ _ q => q
        rcases hd with z | z
        · rw [z]; exact nt b u e
        · exact nt d _ z
      refine sg_yield ?_ ⟨?_, .inr ⟨a, [.bool false, .none], [], ?_⟩⟩ ?_
      · show (splitAtGen fs).map _ = none
        rw [g.split rfl]; rfl
      · show (gg || fs.any Frame.guarded) = false
        rw [hgg rfl, g.guard rfl]; rfl
      · obtain ⟨o, nm, qn, kk, ho, hcl, hda, _⟩ := slp
        exact ⟨o, g1, rfl, ho, by unfold Obj.genNumber?; rw [hcl, hda]; rfl⟩
      · refine g.y rfl _ _ _ _ _ ⟨j0 + j, x, ip, σ, H', by omega, rv, fun i' y hi e => ?_, ⟨T.cas.1, fun _ => by show G.g < (s₁.setGen g1 gs').gens.size; omega⟩, gi (s' := { s₁.setGen g1 gs' with heap := hy }) T.cas.1 os1 uny hoky fr1 samey, hO j x H' ho1, fun s'' z => ?_⟩
        · refine low1 i' y (by omega) ?_
          have e : (s₁.setGen g1 gs').gens[i']? = some y := e
          rw [setGen_ne (by omega)] at e
          exact e
        -- awake
        obtain ⟨zos, zlow, zkeep, zown, zold, znew, zsz⟩ := z
        have slp2 : SleepAt s''.heap a g1 := by
          obtain ⟨o, nm, qn, kk, ho, r⟩ := slp
          exact ⟨o, nm, qn, kk, zkeep a o haC ho, r⟩
        show Sg (model X.prog X.w) A R Y n s'' (yfCode a) (((Builtin.Generator.sleptOver (.ref a) false >>= fun _ => (pure Value.none >>= fun z => again (.builtin "proto.yield_from" ⟨[.ref a, .bool false, z], []⟩)) : Sem PySem.Fin)).wrap K J gd lv) (.ret k none gg l c p [] :: fs) s''
        refine w2_app hgd hK hJ ?_
        · refine w2_bind (w2_of (sleep_off slp2 fun h3 gen3 k3 => ?_))
          refine w2_bind (w2_pure (w2_pure (.inr ⟨_, rfl, plainId_quiet plain_yf _, ?_⟩)))
          refine ih n (j + 1) s'' _ (by omega) (by omega) ⟨?_, gen3, ⟨zown, fun _ => zsz⟩, fun b hb o e => k3 b o (hC' b hb) e, gs', ?_, ?_⟩
          · exact I.ok.mod.nolimit.keeps fun b o e => by
              have nb : ∀ d, (d ∈ X.ex ∨ X.s_0.heap.objs.size ≤ d) → b ≠ d := fun d hd z => by
                rcases hd with q | q
                · exact I.ok.noex b o e (z ▸ q)
                · have h1 := Heap.lt_size e
                  have h2 := I.ok.bsz
                  rw [z] at h1
                  exact absurd (Nat.lt_of_lt_of_le (Nat.lt_of_lt_of_le h1 h2) q) (Nat.lt_irrefl _)
              refine k3 b o (nb a abase.1) (zkeep b o (fun hm => nb b (cbase b hm).1 rfl) ?_)
              exact (gi (s' := { s₁.setGen g1 gs' with heap := hy }) T.cas.1 os1 uny hoky fr1 samey).bk b o e
          · exact zold g1 gs' hg1 (setGen_at sz1)
          · have sz3 : g1 < s''.gens.size := (Array.getElem?_eq_some_iff.mp (zold g1 gs' hg1 (setGen_at sz1))).1
            have sz4 : ∀ h, (({ s'' with heap := h } : Shared).setGen g1 .running).gens.size = s''.gens.size := fun h => setGen_size _ _ _
            refine hk _ ⟨zos, fun i' y hi e => ?_, fun b o hb e => ?_, fun b hb => ?_, fun i' y hi e => ?_, fun i' y hi e1 e2 => ?_, by rw [sz4]; exact sz3⟩
            · by_cases h1 : i' = g1
              · subst h1
                rw [setGen_at (by show i' < s''.gens.size; exact sz3)] at e
                cases e; rfl
              · rw [setGen_ne h1] at e
                have e : s''.gens[i']? = some y := e
                by_cases h2 : i' ≤ G.g
                · exact zlow i' y h2 e
                · cases q : (s₁.setGen g1 gs').gens[i']? with
                  | none => exact znew i' y (by omega) q e
                  | some y' =>
                    have := zold i' y' (by omega) q
                    rw [e] at this; cases this
                    rw [setGen_ne h1] at q
                    exact low1 i' y hi q
            · have hb' : b ≠ a ∧ b ∉ G.C := by simpa using hb
              exact k3 b o hb'.1 (zkeep b o hb'.2 (ky b o hb'.1 e))
            · rcases List.mem_cons.mp hb with z | z
              · obtain ⟨o, nm, qn, ho, hcl, hda, _⟩ := gen3
                rw [z]
                exact ⟨o, ho, fun v q => by rw [hda] at q; cases q⟩
              · obtain ⟨o, ho, d⟩ := zown b z
                exact ⟨o, k3 b o (hC' b z) ho, d⟩
            · rw [setGen_ne (by omega)]
              refine zold i' y (by omega) ?_
              show (s₁.setGen g1 gs').gens[i']? = some y
              rw [setGen_ne (by omega)]; exact e
            · rw [setGen_ne (by omega)] at e2
              refine znew i' y (by omega) ?_ e2
              show (s₁.setGen g1 gs').gens[i']? = none
              rw [setGen_ne (by omega)]; exact e1
end
end Yf
set_option Elab.async false
set_option linter.all false
set_option maxRecDepth 100000
set_option maxHeartbeats 4000000
/-! G9: the statement «yield from g(..)»; generators made by methods. -/
namespace Yf
open PySem PySem.Spec PyProof.Rows L2 GenW

/-- an expression whose value is a generator that has not begun -/
structure PGen3 (X : Cx) (k : Nat) (e : Expr) (tg : TG2) : Prop where
  run : ∀ (pins : List (Addr × Obj)) (s : Shared) (σ : L2.St) (H : Hp) (N : Nat) (O : Nat → V → Hp → Prop) (F : Hp → Prop), Inv X pins σ H s → tg σ H N O F → wpAny (model X.prog X.w) X.A (eval e X.env)
    (fun u s' => ∃ H1 sc, Inv X pins σ H1 sc ∧ s.gens.size ≤ sc.gens.size ∧ Made X.prog X.w X.base k X.stack H1 sc N O F u s') X.xe s
theorem thn' {M : Model} {A : Around} {α : Type} {m : Sem α} {Q : α → Shared → Prop} {Q' : α → Shared → Prop} {E : Value → Shared → Prop} {s : Shared} {n : Nat} (h : wpAny M A m Q E s) (hQ : ∀ a s', Q a s' → n ≤ s'.gens.size → Q' a s') :
    wpAny M A m (fun a s' => n ≤ s'.gens.size → Q' a s') (fun e s' => n ≤ s'.gens.size → E e s') s := wpAny_mono h (fun a s' q z => hQ a s' q z) fun _ _ q _ => q
section
variable {X : Cx} {k : Nat} {e : Expr} {tg : TG2} {yp pos : Pos}
/-- what a generator may change, from where the calling frame stands -/
theorem cof {G : Gp} {ip : List (Addr × Obj)} {σ : L2.St} {H1 : Hp} {s₀ sc s' s2 : Shared} {a : Addr} (hok : COk X G ip) (hC : CAt G s₀) (I : GI X G ip s₀ σ H1 sc) (hlt : sc.heap.objs.size < a) (ha : ∃ o, s2.heap.get? a = some o ∧ ∀ v, o.data ≠ .cell v) (h2 : ∀ b o, sc.heap.get? b = some o → s2.heap.get? b = some o) :
    COf X.base X.stack H1 sc s' s2 a (a :: G.C) := by
  have old : ∀ b ∈ G.C, ∃ o, sc.heap.get? b = some o ∧ ∀ v, o.data ≠ .cell v := fun b hb => by
    obtain ⟨o, e, d⟩ := hC b hb
    exact ⟨o, c_same I b hb o e, d⟩
  have nb : ∀ b, (b ∈ X.ex ∨ X.s_0.heap.objs.size ≤ b) → X.base.get? b = none := fun b hd => by
    cases e : X.base.get? b with
    | none => rfl
    | some o =>
      rcases hd with q | q
      · exact (I.ok.noex b o e q).elim
      · have h1 := Heap.lt_size e
        have h2 := I.ok.bsz
        exact absurd (Nat.lt_of_lt_of_le (Nat.lt_of_lt_of_le h1 h2) q) (Nat.lt_irrefl _)
  refine ⟨List.mem_cons_self, fun b hb => ?_, fun b hb hlt' => ?_, fun b hb => ?_⟩
  · rcases List.mem_cons.mp hb with z | z
    · exact .inl z
    · obtain ⟨o, e, _⟩ := old b z
      exact .inr (.inl (Heap.lt_size e))
  · rcases List.mem_cons.mp hb with z | z
    · rw [z] at hlt'; exact absurd (Nat.lt_trans hlt hlt') (Nat.lt_irrefl _)
    · obtain ⟨q1, q2, q3, q4, q5⟩ := hok b z
      refine ⟨nb b q1, fun hm => ?_, c_free hC I b z⟩
      rcases List.mem_cons.mp (I.stkSub b hm) with y | y
      · exact q2 y
      · exact q4 y
  · rcases List.mem_cons.mp hb with z | z
    · rw [z]; exact ha
    · obtain ⟨o, e, d⟩ := old b z
      exact ⟨o, h2 b o e, d⟩
def tGFrom2 (tg : TG2) : TGn := fun G D j σ H => ∃ N1, j + N1 ≤ G.N ∧ tg σ H N1 (fun i x H' => G.Out (j + i) x H') (fun H' => D.nx (j + N1) σ H')
theorem gs_yieldFrom2 (he : PGen3 X k e tg) (hr : Room k X.A.in1.in1) (hi : interactive X.env = false := by rfl) : GS X true (.Expr (.YieldFrom e yp) pos) (tGFrom2 tg) := by
  refine ⟨fun G Y A R c fs ip n j s₀ s σ H D g hn hC hI ht => ?_⟩
  obtain ⟨N1, hN, ht⟩ := ht
  rw [exec_Expr X.env _ pos hi rfl]
  refine w2_at ?_
  show W2 _ _ _ _ _ _ _ ((eval e X.env >>= fun v => (standAt yp >>= fun _ => yieldFrom X.env v)) >>= fun x => dropValue (.YieldFrom e yp) pos x) _ _ _ _ _
  refine w2_bind (w2_bind (w2_of ?_))
  rw [g.over]
  refine wpAny_mono (he.run _ s σ H N1 _ _ hI ht) (fun v s' ⟨H1, sc, I1, hz, a, g1, c1, ev, ha1, ha2, hgen, hgens, hg1, hos, hkp, wake⟩ => ?_) fun x s' hx => (g.xe x s' hx).elim
  subst ev
  refine w2_at ?_
  unfold yieldFrom
  refine w2_bind (w2_of (wpAny_typeOf hgen.typeIs ?_))
  rw [if_neg (by decide)]
  refine w2_bind (w2_holding (w2_of (pyIter_gen hgen ?_)))
  unfold runValue
  have hlt : G.g < g1 := by
    have := hC.2 (g.ne rfl)
    omega
  have hsz : s'.gens.size = sc.gens.size + 1 := by rw [hgens, Array.size_push]
  have hgs : s'.gens[g1]? = some (.fresh c1) := by rw [hgens, hg1]; simp
  have haC : a ∉ G.C := fun hm => by
    obtain ⟨o, e, _⟩ := hC.1 a hm
    exact absurd (Nat.lt_trans ha1 (Heap.lt_size (c_same I1 a hm o e))) (Nat.lt_irrefl _)
  refine w2_bind (w2_run (c2_yf (X := X) (G := G) (yl := true) (D := D) (O := fun i x H' => G.Out (j + i) x H') (F := fun H' => D.nx (j + N1) σ H') (N1 := N1) (j0 := j) g hr.hd hr.depth (drop_pins I1) hN hlt (c_free hC.1 I1) haC ha1 (fun _ _ _ z => z) (fun _ z => z) N1 n 0 s₀ s' (Nat.add_zero _) (by omega) ?_) fun n' s₀' r s1 hq => ?_)
  · refine ⟨I1.nolimit.keeps hkp, hgen, ⟨hC.1, fun _ => by omega⟩, fun b hb o e => hkp b o (c_same I1 b hb o e), .fresh c1, hgs, rfl, ?_⟩
    have ga : ∃ o, s'.heap.get? a = some o ∧ ∀ v, o.data ≠ .cell v := by
      obtain ⟨o, nm, qn, ho, _, hd, _⟩ := hgen
      exact ⟨o, ho, fun v q => by rw [hd] at q; cases q⟩
    refine wake X.A.in1.in1 (a :: G.C) (s'.setGen g1 .running) hr I1.ok.frames (cof g.cok hC.1 I1 ha1 ga hkp) (fun _ _ e => e) hos (allBare_setGen (by rw [hgens]; exact AllBare.push I1.bare rfl) rfl) ?_
    rw [show (s'.setGen g1 .running).gens.size = s'.gens.size from setGen_size _ _ _]
    omega
  · obtain ⟨rfl, j', hn', hc', hs'⟩ := hq
    refine w2_pure ?_
    show W2 _ _ _ _ _ _ _ (dropValue (.YieldFrom e yp) pos .none) _ _ _ _ _
    exact w2_pure ⟨j', hn', hc', hs'⟩

/-! ### generators made by a method -/
theorem run_gfn2 {fd : FuncData} {f : Addr} {ps : List Str} {ds : List Value} {dvs : List V} {sp : SpN} {pins : List (Addr × Obj)} {σ : L2.St} {H : Hp} {s : Shared} {us : List Value} {vs : List V} {N : Nat} {O : Nat → V → Hp → Prop} {F : Hp → Prop} {E1 : Value → Shared → Prop} (Fn : GFn2 X.prog X.w X.K X.mg X.base k f fd ps sp)
    (hr : Room k X.A) (hb : Binds X.K fd ps ds) (hd : Vals dvs ds) (I : Inv X pins σ H s) (r : Vals vs us) (h : sp (vs ++ dvs) H N O F) :
    wpAny (model X.prog X.w) X.A (call (.ref f) us) (fun u s' => Made X.prog X.w X.base k X.stack H s N O F u s') E1 s := by
  have r2 : Vals (vs ++ dvs) (us ++ ds) := r.append hd
  have hl2 : (us ++ ds).length = ps.length := by rw [← r2.length]; exact Fn.len _ _ _ _ _ h
  refine wpAny_call (codeAny_mono (Fn.run X.A X.stack s H ⟨us, []⟩ (us ++ ds) (vs ++ dvs) N O F hr I.env0 (hb s us I.kIn hl2) r2 h) fun r s' hq => ?_)
  cases r with
  | error e => exact False.elim hq
  | ok fl =>
    cases fl with
    | ret u => exact hq
    | next => exact False.elim hq
    | brk => exact False.elim hq
    | cont => exact False.elim hq
def tMethN (C : Addr) (m : Str) (sp : SpN) (ta : TE) (t : TA) : TG2 := fun σ H N O F => ta σ H fun x H1 => ∃ a dx fs, x = .ref a ∧ H1 a = some (.ins C dx fs) ∧ fs.lookup m = none ∧ t σ H1 fun vs H2 => sp (x :: (vs ++ [])) H2 N O F
/-- o.m(e, ..) of a generator method -/
theorem pgen3_meth {C f : Addr} {m : Str} {fd : FuncData} {ps : List Str} {sp : SpN} {apos pos' : Pos} {ta : TE} {o : Expr} {pl : Sem Bool} {e : Expr} {es : List Expr} {t : TA} (he : PE X o ta) (c : Cls X.K C) (hm : Meth X.K C m f) (Fn : GFn2 X.prog X.w X.K X.mg X.base k f fd ps sp) (hr : Room k X.A) (hb : Binds X.K fd ps []) (ha : PA X (e :: es) t)
    (hst : starEach (e :: es) X.env = (false, eval e X.env) :: starEach es X.env := by rfl) (hpl : (backTo pos' (starEach es X.env)).any (·.1) = false := by rfl)
    (ht : eval (.Call (.Attribute o m apos) (e :: es) [] pos') X.env = (do
      let ov ← eval o X.env
      standAt apos.atName
      let (f, first) ← holding [ov] (getMethod ov m pl)
      callWith pos' f first (backTo pos' (starEach (e :: es) X.env)) (backToKw pos' (keywordEach [] X.env))) := by rfl) :
    PGen3 X k (.Call (.Attribute o m apos) (e :: es) [] pos') (tMethN C m sp ta t) := by
  refine ⟨fun pins s σ H N O F I h => ?_⟩
  refine PySem.W.methodCall_KW (pl := pl) (wpAny_gsz (Nat.le_refl _) (thn' (he.run pins s σ H _ I h) fun u s1 ⟨x, H1, I1, rx, a, dx, fs, ex, ea, l, q⟩ hz1 => ?_)) ht
  subst ex
  obtain rfl : u = Value.ref a := rx
  refine getmeth_ok I1 ea c hm l ?_
  refine PySem.W.callWith_K (first := [.ref a]) (h₀ := X.base) I.ok.mod.kin hm.kp (wpAny_gsz (Nat.le_refl _) (thn' (ha.run pos' pins s1 σ H1 _ I1 q) fun us s2 ⟨vs, H2, I2, r, q2⟩ hz2 => ⟨I2.kIn, ?_⟩)) hst hpl
  exact wpAny_mono (run_gfn2 (us := .ref a :: us) (vs := .ref a :: vs) (E1 := fun _ _ => False) Fn hr hb .nil I2 (.cons rfl r) q2) (fun u s' hM => ⟨H2, s2, I2, Nat.le_trans hz1 hz2, hM⟩) fun _ _ z => z.elim
end
end Yf
set_option Elab.async false
set_option linter.all false
set_option maxRecDepth 100000
set_option maxHeartbeats 4000000
/-! G10: a list comprehension over a generator. -/
namespace Yf
open PySem PySem.Spec PyProof.Rows L2 GenW

section
variable {P : Program} {w : World} {A : Around} {R : GenEnd} {Y : Protocol} {yl : Bool} {c : Code} {fs : List Frame} {n : Nat} {s₀ s : Shared}
/-- pyNext of a generator -/
theorem w2_pyNext {a : Addr} {g m : Nat} {gs : GenState} {R' : GenEnd} {Y' : Protocol} {Q : Nat → Shared → Option Value → Shared → Prop} {E : Nat → Shared → Value → Shared → Prop} (hh : (A.over c fs).handled = none) (hl : s.heap.NoLimit)
    (hroom : (A.over c fs).depth < recursionLimit) (hg : GenAt s.heap a g) (hgs : s.gens[g]? = some gs) (hgo : Ready (model P w) (A.over c fs).in1 R' Y' m gs (.send .none) (s.setGen g .running))
    (hR : ∀ r s₁, R' m (s.setGen g .running) r s₁ → (r = .ok (.ret .none) ∨ r = .ok .next) ∧ ∀ h', (∀ b o, s₁.heap.get? b = some o → h'.get? b = some o) → Q n s₀ none { s₁.setGen g .finished with heap := h' })
    (hY : ∀ v s₁ gs', Y' (m - 1) (s.setGen g .running) v s₁ (fun r' s'' => match m with | 0 => False | m + 1 => Ready (model P w) (A.over c fs).in1 R' Y' m gs' r' s'') → Q n s₀ (some v) (s₁.setGen g gs')) :
    W2 (model P w) A R Y yl c fs (pyNext (.ref a)) Q E n s₀ s := by
  unfold pyNext
  refine w2_bind (w2_attempt (w2_next hh hl hroom hg hgs hgo (fun r s₁ hr => ?_) fun v s₁ gs' hv => ?_))
  · obtain ⟨h1, h2⟩ := hR r s₁ hr
    refine ⟨h1, fun e h' hS hk => ?_⟩
    obtain ⟨ax, ox, vs, rfl, hoa, hcls, hdat, h5⟩ := hS
    try dsimp only
    refine w2_bind (w2_of (wpAny_isInstance (T := "StopIteration") (b := true) ⟨_, hoa, hcls⟩ isSubtype_stop ?_))
    exact w2_pure (h2 h' hk)
  · exact w2_pure (hY v s₁ gs' hv)
end

/-- the turns of the comprehension: D the new list, L the block's names -/
structure CT (X : Cx) (H1 : Hp) (sc : Shared) (N1 : Nat) (O : Nat → V → Hp → Prop) (F : Hp → Prop) (W : Nat → V → Prop) (a D L : Addr) (g1 : Nat) (m i : Nat) (s : Shared) : Prop where
  nl : s.heap.NoLimit
  gen : GenAt s.heap a g1
  acc : ∃ (arr : Array Value) (cnt : Nat) (ys : List V), s.heap.get? D = some (lstObj arr cnt) ∧ Vals ys arr.toList ∧ ys.length = i ∧ ∀ j y, ys[j]? = some y → W j y
  ns : ∃ mp, s.heap.Ns L mp
  go : ∃ gs, s.gens[g1]? = some gs ∧ Ready (model X.prog X.w) X.A.in1 (REnd2 X.prog X.w X.stack H1 sc [a, D, L] g1 F) (YItem2 X.prog X.w X.stack H1 sc [a, D, L] g1 N1 O) m gs (.send .none) (s.setGen g1 .running)
/-- the item's part: what stands in the name, what is appended -/
structure EltOk (X : Cx) (scope : Scope) (x : Str) (elt : Expr) (O : Nat → V → Hp → Prop) (W : Nat → V → Prop) : Prop where
  run : ∀ (cenv : Env) (s : Shared) (mp : Str → Option Value) (j : Nat) (y : V) (v : Value) (H' : Hp), cenv.scope.names = scope.names → cenv.scope.kind = .function → cenv.kindOf x = some .local → cenv.globals = X.env.globals → cenv.builtins = X.env.builtins → s.heap.Ns cenv.locals mp → mp x = some v → RelV y v → HOk X.prog X.w H' s.heap → O j y H' →
    (∀ b o, X.base.get? b = some o → s.heap.get? b = some o) → Mod X.K X.mg X.base → X.env.globals = mainGlobals → X.env.builtins = builtinsNs → wpAny (model X.prog X.w) X.A (eval elt cenv) (fun u s' => Keeps s s' ∧ ∃ z, RelV z u ∧ W j z) (fun _ _ => False) s

section
variable {X : Cx}
theorem c2_comp {A : Around} {R : GenEnd} {Y : Protocol} {c : Code} {fs : List Frame} {n : Nat} {s₀ : Shared} {pins : List (Addr × Obj)} {σ : L2.St} {H1 : Hp} {sc : Shared} {N1 : Nat} {O : Nat → V → Hp → Prop} {F : Hp → Prop} {W : Nat → V → Prop} {a D L : Addr} {g1 : Nat}
    {elt iter : Expr} {x : Str} {px pos : Pos} {scope : Scope} {cenv : Env} (over : A.over c fs = X.A) (hd : X.A.handled = none) (hdp : X.A.depth < recursionLimit) (I : Inv X pins σ H1 sc) (hN : N1 ≤ sizeLine)
    (ha : sc.heap.objs.size < a) (haD : a < D) (hDL : D < L) (hloc : cenv.locals = L) (hgl : cenv.globals = X.env.globals) (hbl : cenv.builtins = X.env.builtins) (hx : cenv.kindOf x = some .local) (hp : (cenv.scope.kind == .class || (cenv.scope.kind == .module && cenv.locals != cenv.globals)) = false) (hsn : cenv.scope.names = scope.names) (hkd : cenv.scope.kind = .function) (hel : EltOk X scope x elt O W) :
    ∀ (m i : Nat) (s : Shared), m + i = N1 → CT X H1 sc N1 O F W a D L g1 m i s →
      C2 (model X.prog X.w) A R Y false c fs (.compLoop (.ListComp elt [⟨.Name x px, iter, [], 0⟩] scope pos) 0 (.ref a) (.ref D) cenv) (fun n' s₀' r s' => n' = n ∧ s₀' = s₀ ∧ r = .ok .next ∧
        ∃ H' ys mp, Inv X pins σ (upd H' D (.lst ys)) s' ∧ F H' ∧ H' D = none ∧ H' L = none ∧ ys.length = N1 ∧ (∀ j y, ys[j]? = some y → W j y) ∧ s'.heap.Ns L mp) n s₀ s := by
  have aD : sc.heap.objs.size < D := Nat.lt_trans ha haD
  have aL : sc.heap.objs.size < L := Nat.lt_trans aD hDL
  have young : ∀ b, sc.heap.objs.size < b → (b ∈ X.ex ∨ X.s_0.heap.objs.size ≤ b) ∧ b ≠ X.env.locals ∧ (∀ x c, X.env.cells.lookup x = some c → c ≠ b) ∧ ∀ p ∈ X.pn ++ pins, p.1 ≠ b := fun b hb => by
    refine ⟨.inr (Nat.le_trans I.sz (Nat.le_of_lt hb)), Nat.ne_of_gt (Nat.lt_trans I.lt hb), fun x c e z => ?_, fun p hp z => ?_⟩
    · obtain ⟨v, o, ho, _⟩ := I.cell x c e
      have := Heap.lt_size ho
      rw [z] at this
      exact absurd (Nat.lt_trans hb this) (Nat.lt_irrefl _)
    · have h1 := (I.pin p hp).1
      have := Heap.lt_size h1
      rw [z] at this
      exact absurd (Nat.lt_trans hb this) (Nat.lt_irrefl _)
  have hex : ExOk X pins [a, D, L] := fun b hb => by
    have hb : b = a ∨ b = D ∨ b = L := by simpa using hb
    rcases hb with z | z | z
    · rw [z]; exact young a ha
    · rw [z]; exact young D aD
    · rw [z]; exact young L aL
  have nDL : D ≠ L := Nat.ne_of_lt hDL
  have naD : a ≠ D := Nat.ne_of_lt haD
  have naL : a ≠ L := Nat.ne_of_lt (Nat.lt_trans haD hDL)
  have mD : D ∈ [a, D, L] := by simp
  have mL : L ∈ [a, D, L] := by simp
  have ma : a ∈ [a, D, L] := by simp
  have nsObj : ∀ {h : Heap} {mp : Str → Option Value}, h.Ns L mp → ∃ o, h.get? L = some o ∧ ∀ v, o.data ≠ .cell v := fun {h mp} hn => by
    obtain ⟨o, es, ep, ho, hd, _⟩ := hn
    exact ⟨o, ho, fun v q => by rw [hd] at q; cases q⟩
  have genObj : ∀ {h : Heap}, GenAt h a g1 → ∃ o, h.get? a = some o ∧ ∀ v, o.data ≠ .cell v := fun {h} hg => by
    obtain ⟨o, nm, qn, ho, _, hdd, _⟩ := hg
    exact ⟨o, ho, fun v q => by rw [hdd] at q; cases q⟩
  intro m
  induction m with
  | zero =>
    intro i s hmi T
    refine c2_tree fun k gg l p hgg => ?_
    have eA : A.over (.compLoop (.ListComp elt [⟨.Name x px, iter, [], 0⟩] scope pos) 0 (.ref a) (.ref D) cenv) (.ret k none gg l c p [] :: fs) = X.A := (over_loop rfl rfl).trans over
    show W2 _ _ _ _ _ _ _ ((compTurn (.ListComp elt [⟨.Name x px, iter, [], 0⟩] scope pos) 0 (.ref a) (.ref D) cenv).onRaise (fun x => do noteFrame x cenv; theTreesLotGoes x)) _ _ _ _ _
    rw [compTurn_list1]
    refine w2_onRaise (w2_at ?_)
    obtain ⟨gs, hgs, hgo⟩ := T.go
    obtain ⟨arr, cnt, ys, hD, rys, hlen, hW⟩ := T.acc
    obtain ⟨mp, hns⟩ := T.ns
    refine w2_bind (w2_pyNext (m := 0) (by rw [eA]; exact hd) T.nl (by rw [eA]; exact hdp) T.gen hgs (by rw [eA]; exact hgo) (fun r s₁ hr => ?_) fun v s₁ gs' hv => ?_)
    · obtain ⟨hr, _, sz1, H', os1, bare1, un1, hok1, fr1, same1, hF1⟩ := hr
      refine ⟨hr, fun h' hk => ?_⟩
      refine w2_pure (.inl ⟨_, rfl, rfl, rfl, rfl, H', ys, mp, ?_, hF1, fr1 D mD, fr1 L mL, by omega, hW, hns.at' fun o e => hk _ _ (same1 L mL o e)⟩)
      exact I.drained (Nat.le_of_lt aD) (by omega) (hk _ _ (same1 D mD _ hD)) rys hex os1 (allBare_setGen bare1 rfl) (un1.trans (Un.kept hk)) (hok1.kept hk) (fr1 D mD)
    · obtain ⟨j, x, H', _, _, low1, sz1, _, _, _, _, _, same1, _, hk⟩ := hv
      refine (hk s₁ ⟨rfl, low1, fun _ _ _ e => e, fun b hb => ?_, fun _ _ _ e => e, fun _ _ _ e1 e2 => (by rw [e1] at e2; cases e2), sz1⟩).elim
      have hb' : b = a ∨ b = D ∨ b = L := by simpa using hb
      rcases hb' with z | z | z
      · obtain ⟨o, ho, d⟩ := genObj T.gen
        rw [z]; exact ⟨o, same1 a ma o ho, d⟩
      · rw [z]; exact ⟨_, same1 D mD _ hD, fun v q => by cases q⟩
      · obtain ⟨o, ho, d⟩ := nsObj hns
        rw [z]; exact ⟨o, same1 L mL o ho, d⟩
  | succ m ih =>
    intro i s hmi T
    refine c2_tree fun k gg l p hgg => ?_
    have eA : A.over (.compLoop (.ListComp elt [⟨.Name x px, iter, [], 0⟩] scope pos) 0 (.ref a) (.ref D) cenv) (.ret k none gg l c p [] :: fs) = X.A := (over_loop rfl rfl).trans over
    show W2 _ _ _ _ _ _ _ ((compTurn (.ListComp elt [⟨.Name x px, iter, [], 0⟩] scope pos) 0 (.ref a) (.ref D) cenv).onRaise (fun x => do noteFrame x cenv; theTreesLotGoes x)) _ _ _ _ _
    rw [compTurn_list1]
    refine w2_onRaise (w2_at ?_)
    obtain ⟨gs, hgs, hgo⟩ := T.go
    obtain ⟨arr, cnt, ys, hD, rys, hlen, hW⟩ := T.acc
    obtain ⟨mp, hns⟩ := T.ns
    refine w2_bind (w2_pyNext (m := m + 1) (by rw [eA]; exact hd) T.nl (by rw [eA]; exact hdp) T.gen hgs (by rw [eA]; exact hgo) (fun r s₁ hr => ?_) fun v s₁ gs' hv => ?_)
    · exact absurd hr.2.1 (by omega)
    rw [eA] at hv
    obtain ⟨j, y, H', hj, rv, low1, sz1, os1, un1, hok1, nl1, fr1, same1, ho1, hk⟩ := hv
    have hj : j = i := by omega
    subst hj
    try dsimp only
    refine w2_bind (w2_of (wpAny_of_eq (rfl : letOwnedTupleGo (.Name x px) (.ref a) v = pure ()) ?_))
    refine w2_bind (w2_of (wpAny_assign_Name (wpAny_storeName_local (s := s₁.setGen g1 gs') hx (m := mp) (by rw [hloc]; exact hns.at' fun o e => same1 L mL o e) (fun h₂ hn₂ hs₂ => ?_) hp)))
    have k2 : ∀ b o, b ≠ L → s₁.heap.get? b = some o → h₂.get? b = some o := fun b o hb e => hs₂.extBut b o (by rw [hloc]; exact hb) e
    refine w2_bind (w2_bind (w2_of ?_))
    rw [eA]
    have base1 : ∀ b o, X.base.get? b = some o → s₁.heap.get? b = some o := fun b o e => by
      have e1 := I.bs b o e
      refine un1.keep b o e1.1 e1.2 (fun hm => ?_) fun hm => ?_
      · rcases List.mem_cons.mp (I.stkSub b hm) with z | z
        · have h1 := Heap.lt_size e
          have h2 := Nat.le_trans I.ok.bsz I.ok.above
          rw [z] at h1
          exact absurd (Nat.lt_of_lt_of_le h1 h2) (Nat.lt_irrefl _)
        · exact I.ok.nofr e z
      · have h1 := Nat.lt_of_lt_of_le (Heap.lt_size e) (Nat.le_trans I.ok.bsz I.sz)
        have hm : b = a ∨ b = D ∨ b = L := by simpa using hm
        rcases hm with z | z | z <;> rw [z] at h1
        · exact absurd (Nat.lt_trans h1 ha) (Nat.lt_irrefl _)
        · exact absurd (Nat.lt_trans h1 aD) (Nat.lt_irrefl _)
        · exact absurd (Nat.lt_trans h1 aL) (Nat.lt_irrefl _)
    have nbL : ∀ b o, X.base.get? b = some o → b ≠ L := fun b o e z => by
      have h1 := Nat.lt_of_lt_of_le (Heap.lt_size e) (Nat.le_trans I.ok.bsz I.sz)
      rw [z] at h1; exact absurd (Nat.lt_trans h1 aL) (Nat.lt_irrefl _)
    have nbD : ∀ b o, X.base.get? b = some o → b ≠ D := fun b o e z => by
      have h1 := Nat.lt_of_lt_of_le (Heap.lt_size e) (Nat.le_trans I.ok.bsz I.sz)
      rw [z] at h1; exact absurd (Nat.lt_trans h1 aD) (Nat.lt_irrefl _)
    have nt : ∀ d u, H' d = some u → d ≠ L := fun d u q z => by rw [z, fr1 L mL] at q; cases q
    have hok2 : HOk X.prog X.w H' h₂ := fun b u e => by
      refine (hok1 b u e).stay (fun d o hdd q => k2 d o ?_ q) (fun _ q => q) fun _ _ q => q
      rcases hdd with z | z
      · rw [z]; exact nt b u e
      · exact nt d _ z
    refine wpAny_mono (hel.run cenv { s₁.setGen g1 gs' with heap := h₂, toks := (s₁.setGen g1 gs').toks + 1 } _ j y v H' hsn hkd hx hgl hbl hn₂ (by simp) rv hok2 ho1 (fun b o e => k2 b o (nbL b o e) (base1 b o e)) I.ok.mod I.ok.glob I.ok.blt) (fun u s3 hu => ?_) fun _ _ z => z.elim
    obtain ⟨⟨h3, tk3, rfl, k3⟩, z, rz, hz⟩ := hu
    have hD3 : h3.get? D = some { cls := .type "list", data := .seq arr cnt } := k3 _ _ (k2 _ _ nDL (same1 D mD _ hD))
    have harr : arr.size = ys.length := by
      have e1 := rys.length
      have e2 : arr.toList.length = arr.size := by simp
      omega
    refine w2_bind (w2_of (append_at (hsz := by rw [harr, hlen]; omega) hD3 fun h4 sb4 hD4 => ?_))
    refine w2_pure (w2_pure (.inr ⟨_, rfl, rfl, ?_⟩))
    have k4 : ∀ b o, b ≠ D → h3.get? b = some o → h4.get? b = some o := fun b o hb e => (sb4.2 b hb).trans e
    have up : ∀ b o, b ≠ D → b ≠ L → s₁.heap.get? b = some o → h4.get? b = some o := fun b o h1 h2 e => k4 b o h1 (k3 b o (k2 b o h2 e))
    have gen4 : GenAt h4 a g1 := T.gen.at fun o e => up a o naD naL (same1 a ma o e)
    have ns4 : ∃ mp, h4.Ns L mp := by
      refine ⟨_, Heap.Ns.at' (h := h₂) (by rw [← hloc]; exact hn₂) fun o e => k4 L o (Ne.symm nDL) (k3 L o e)⟩
    refine ih (j + 1) _ (by omega) ⟨?_, gen4, ⟨arr.push u, cnt + 1, ys ++ [z], hD4, ?_, by simp [hlen], fun j' y' e => ?_⟩, ns4, gs', ?_, ?_⟩
    · exact I.ok.mod.nolimit.keeps fun b o e => up b o (nbD b o e) (nbL b o e) (base1 b o e)
    · rw [Array.toList_push]; exact rys.append (.cons rz .nil)
    · by_cases hlt : j' < ys.length
      · rw [List.getElem?_append_left hlt] at e
        exact hW j' y' e
      · rw [List.getElem?_append_right (by omega)] at e
        have : j' - ys.length = 0 := by
          cases hq : j' - ys.length with
          | zero => rfl
          | succ q => rw [hq] at e; simp at e
        rw [this] at e
        simp at e
        subst e
        have : j' = j := by omega
        rw [this]; exact hz
    · exact setGen_at sz1
    · have sz5 : g1 < (s₁.setGen g1 gs').gens.size := by
        rw [show (s₁.setGen g1 gs').gens.size = s₁.gens.size from setGen_size _ _ _]; exact sz1
      have sz4 : ∀ h tk, (({ s₁.setGen g1 gs' with heap := h, toks := tk } : Shared).setGen g1 .running).gens.size = s₁.gens.size := fun h tk => (setGen_size _ _ _).trans (setGen_size _ _ _)
      refine hk _ ⟨os1.symm ▸ rfl, fun i' x' hi e => ?_, fun b o hb e => ?_, fun b hb => ?_, fun i' x' hi e => ?_, fun i' x' hi e1 e2 => ?_, by rw [sz4]; exact sz1⟩
      · by_cases h1 : i' = g1
        · subst h1
          rw [setGen_at (by exact sz5)] at e
          cases e; rfl
        · rw [setGen_ne h1] at e
          have e : (s₁.setGen g1 gs').gens[i']? = some x' := e
          rw [setGen_ne h1] at e
          exact low1 i' x' hi e
      · have hb' : b ≠ a ∧ b ≠ D ∧ b ≠ L := by simpa using hb
        exact up b o hb'.2.1 hb'.2.2 e
      · have hb' : b = a ∨ b = D ∨ b = L := by simpa using hb
        rcases hb' with q | q | q
        · rw [q]; exact genObj gen4
        · rw [q]; exact ⟨_, hD4, fun v q => by cases q⟩
        · obtain ⟨mp4, hn4⟩ := ns4
          rw [q]; exact nsObj hn4
      · rw [setGen_ne (by omega)]
        show (s₁.setGen g1 gs').gens[i']? = some x'
        rw [setGen_ne (by omega)]; exact e
      · rw [setGen_ne (by omega)] at e2
        have e2 : (s₁.setGen g1 gs').gens[i']? = some x' := e2
        rw [setGen_ne (by omega), e1] at e2
        cases e2
end
end Yf
set_option Elab.async false
set_option linter.all false
set_option maxRecDepth 100000
set_option maxHeartbeats 4000000
/-! G11: the comprehension as a whole; what stands around it. -/
namespace Yf
open PySem PySem.Spec PyProof.Rows L2 GenW

section
variable {M : Model} {A : Around} {R : GenEnd} {Y : Protocol} {yl : Bool} {c : Code} {fs : List Frame} {α : Type} {n : Nat} {s₀ s : Shared} {Q : Nat → Shared → α → Shared → Prop} {E : Nat → Shared → Value → Shared → Prop}
theorem w2_standIf {b : Prop} [Decidable b] {p : Pos} {f : PUnit → Sem α} (h : W2 M A R Y yl c fs (f ()) Q E n s₀ s) : W2 M A R Y yl c fs (if b then (standAt p >>= f) else f ()) Q E n s₀ s := by
  split
  · exact w2_at h
  · exact h
end
/-- a comprehension's scope: no captured names -/
structure LcSc (scope : Scope) (x : Str) : Prop where
  kind : scope.kind = .function
  nofree : ∀ y ∈ scope.names, y.2 ≠ .free ∧ y.2 ≠ .cell
  uniq : ∀ y ∈ scope.names, y.2 = .local → scope.names.lookup y.1 = some .local
  x : scope.names.lookup x = some .local
def lcSc (scope : Scope) (x : Str) : Bool := (match scope.kind with | .function => true | _ => false) && scope.names.all (fun y => !(y.2 == .free) && !(y.2 == .cell)) && scope.names.all (fun y => decide (scope.names.lookup y.1 = some y.2)) && decide (scope.names.lookup x = some .local)
theorem lcSc_by {scope : Scope} {x : Str} (h : lcSc scope x = true) : LcSc scope x := by
  unfold lcSc at h
  simp only [Bool.and_eq_true, List.all_eq_true, decide_eq_true_eq, Bool.not_eq_true', beq_eq_false_iff_ne, ne_eq] at h
  obtain ⟨⟨⟨h1, h2⟩, h3⟩, h4⟩ := h
  refine ⟨?_, h2, fun y hy e => by rw [h3 y hy, e], h4⟩
  split at h1
  · assumption
  · cases h1
theorem cloFrom_none {cells : List (Str × Addr)} : ∀ {names : List (Str × NameKind)} {acc : List (Str × Addr)}, (∀ y ∈ names, y.2 ≠ .free) → cloFrom cells names acc = acc
  | [], _, _ => rfl
  | (n, k) :: r, acc, h => by
    unfold cloFrom
    rw [if_neg (by have := h (n, k) List.mem_cons_self; simpa using this)]
    exact cloFrom_none fun y hy => h y (List.mem_cons_of_mem _ hy)
theorem pushCells_none : ∀ {names : List (Str × NameKind)} {h : Heap}, (∀ y ∈ names, y.2 ≠ .cell) → pushCells h names = h
  | [], _, _ => rfl
  | (n, k) :: r, h, hn => by
    unfold pushCells
    rw [if_neg (by have := hn (n, k) List.mem_cons_self; simpa using this)]
    exact pushCells_none fun y hy => hn y (List.mem_cons_of_mem _ hy)
theorem relabel_names {scope : Scope} {env : Env} (h : ∀ y ∈ scope.names, y.2 ≠ .free) : (relabel scope env).names = scope.names := by
  have key : ∀ (l : List (Str × NameKind)), (∀ y ∈ l, y.2 ≠ .free) → (l.map fun (n, k) => if (k == NameKind.free && env.scope.kind == .function && env.kindOf n == some .cell) = true then (n, NameKind.cell) else (n, k)) = l := by
    intro l
    induction l with
    | nil => intro _; rfl
    | cons y r ih =>
      intro hl
      obtain ⟨n, k⟩ := y
      rw [List.map_cons, ih fun y hy => hl y (List.mem_cons_of_mem _ hy)]
      have := hl (n, k) List.mem_cons_self
      have e : (k == NameKind.free) = false := by simpa using this
      simp [e]
  exact key _ h
section
variable {X : Cx}
theorem w2_comp {A : Around} {R : GenEnd} {Y : Protocol} {c : Code} {fs : List Frame} {n : Nat} {s₀ s : Shared} {pins : List (Addr × Obj)} {σ : L2.St} {H : Hp} {k N : Nat} {tg : TG2} {O : Nat → V → Hp → Prop} {F : Hp → Prop} {W : Nat → V → Prop}
    {elt iter : Expr} {x : Str} {px pos pos' : Pos} {scope : Scope} {use : Option (Value → Sem Unit)} {Q : Nat → Shared → Value → Shared → Prop} (over : A.over c fs = X.A) (he : PGen3 X k iter tg) (hr : Room k X.A.in1) (hxe : ∀ e s, X.xe e s → False) (I : Inv X pins σ H s) (ht : tg σ H N O F) (hN : N ≤ sizeLine)
    (hsc : LcSc scope x) (hel : EltOk X scope x elt O W) (hs : ∀ x, foldedSetIterable iter X.env x = pure x)
    (post : ∀ D L mp sE H' ys, Inv X pins σ (upd H' D (.lst ys)) sE → F H' → H' D = none → ys.length = N → (∀ j y, ys[j]? = some y → W j y) → sE.heap.Ns L mp → FpOk X pins (upd H' D (.lst ys)) L →
      compPost (model X.prog X.w) X.A (fun _ _ => False) use (fun v s' => Q n s₀ v s') (.ref D) L (.ok .next) sE) :
    W2 (model X.prog X.w) A R Y false c fs (comprehension (.ListComp elt [⟨.Name x px, iter, [], 0⟩] scope pos) scope X.env pos' (newList []) false (eval iter X.env) use) Q noX n s₀ s := by
  have hclos : closureFor scope X.env = pure (cloFrom X.env.cells scope.names []) := closure_ok fun y hy e => absurd e (hsc.nofree y hy).1
  have hkind := hsc.kind
  have hcl : cloFrom X.env.cells scope.names [] = [] := cloFrom_none fun y hy => (hsc.nofree y hy).1
  rw [hcl] at hclos
  unfold comprehension
  rw [hclos, show clausesOf (.ListComp elt [⟨.Name x px, iter, [], 0⟩] scope pos) = [⟨.Name x px, iter, [], 0⟩] from rfl]
  refine w2_bind (w2_of ?_)
  rw [over]
  refine wpAny_mono (he.run pins s σ H N O F I ht) (fun v s' ⟨H1, sc, I1, _, a, g1, c1, ev, ha1, ha2, hgen, hgens, hg1, hos, hkp, wake⟩ => ?_) fun e s' hx => (hxe e s' hx).elim
  subst ev
  refine w2_at (w2_bind (w2_of (wpAny_of_eq (hs _) (w2_bind (w2_holding (w2_of (pyIter_gen hgen ?_)))))))
  refine w2_standIf ?_
  refine w2_bind (w2_of (wpAny_newObj_type ?_ (by show 0 ≤ sizeLine; decide)))
  refine w2_bind (w2_pure (w2_bind (w2_of (newEnv_comp ?_))))
  dsimp only
  have nl' : s'.heap.NoLimit := I1.nolimit.keeps hkp
  have hD : (s'.heap.push { cls := .type "list", data := .seq ([] : List Value).toArray }).get? s'.heap.objs.size = some { cls := .type "list", data := .seq ([] : List Value).toArray } := Heap.get?_push_size _ rfl
  generalize hh3 : s'.heap.push { cls := .type "list", data := .seq ([] : List Value).toArray } = h3 at hD ⊢
  have sz3 : h3.objs.size = s'.heap.objs.size + 1 := by rw [← hh3]; exact Heap.size_push ..
  have k3 : ∀ b o, s'.heap.get? b = some o → h3.get? b = some o := fun b o e => by rw [← hh3]; exact Heap.get?_push_of_some _ e
  have hpc : pushCells (h3.push { cls := .type "dict", data := .dict #[] }) scope.names = h3.push { cls := .type "dict", data := .dict #[] } := pushCells_none fun y hy => (hsc.nofree y hy).2
  rw [hpc]
  have hns : (h3.push { cls := .type "dict", data := .dict #[] }).Ns h3.objs.size fun _ => none := Heap.Ns.new ..
  have k4 : ∀ b o, h3.get? b = some o → (h3.push { cls := .type "dict", data := .dict #[] }).get? b = some o := fun b o e => Heap.get?_push_of_some _ e
  have sz4 : (h3.push { cls := .type "dict", data := .dict #[] }).objs.size = h3.objs.size + 1 := Heap.size_push ..
  generalize hh4 : h3.push { cls := .type "dict", data := .dict #[] } = h4 at hns k4 sz4 ⊢
  refine w2_holding (w2_bind (w2_attempt (w2_holding ?_)))
  show W2 _ _ _ _ _ _ _ (run (.compStart (.ListComp elt [⟨.Name x px, iter, [], 0⟩] scope pos) 0 (.ref a) (.ref s'.heap.objs.size) (compEnvC scope (cellsFrom (h3.objs.size + 1) scope.names []) h3.objs.size X.env))) _ _ _ _ _
  have eN : scope.names.lookup x = some .local := hsc.x
  have kx : (compEnvC scope (cellsFrom (h3.objs.size + 1) scope.names []) h3.objs.size X.env).kindOf x = some .local := lookup_relabel_local eN
  have eS : (compEnvC scope (cellsFrom (h3.objs.size + 1) scope.names []) h3.objs.size X.env).scope.names = scope.names := relabel_names fun y hy => (hsc.nofree y hy).1
  have kv : ∀ y ∈ scope.names, y.2 = .local → (compEnvC scope (cellsFrom (h3.objs.size + 1) scope.names []) h3.objs.size X.env).kindOf y.1 = some .local := fun y hy e => lookup_relabel_local (hsc.uniq y hy e)
  generalize hce : compEnvC scope (cellsFrom (h3.objs.size + 1) scope.names []) h3.objs.size X.env = ce at kx eS kv ⊢
  have eL : ce.locals = h3.objs.size := by rw [← hce]; rfl
  have eG : ce.globals = X.env.globals := by rw [← hce]; rfl
  have eB : ce.builtins = X.env.builtins := by rw [← hce]; rfl
  have eK : ce.scope.kind = .function := by rw [← hce]; exact hkind
  have ga : ∃ o, s'.heap.get? a = some o ∧ ∀ v, o.data ≠ .cell v := by
    obtain ⟨o, nm, qn, ho, _, hdd, _⟩ := hgen
    exact ⟨o, ho, fun v q => by rw [hdd] at q; cases q⟩
  have k' : ∀ b o, s'.heap.get? b = some o → h4.get? b = some o := fun b o e => k4 b o (k3 b o e)
  have lt4 : ∀ b o, s'.heap.get? b = some o → b < s'.heap.objs.size := fun b o e => Heap.lt_size e
  have hsc : sc.heap.objs.size < s'.heap.objs.size := Nat.lt_trans ha1 ha2
  have gsz : s'.gens.size = sc.gens.size + 1 := by rw [hgens, Array.size_push]
  have start : ∀ tk, CT X H1 sc N O F W a s'.heap.objs.size h3.objs.size g1 N 0 { s' with heap := h4, toks := tk } := fun tk => by
    refine ⟨nl'.keeps k', hgen.at fun o e => k' a o e, ⟨#[], _, [], k4 _ _ hD, .nil, rfl, fun j y e => by simp at e⟩, ⟨_, hns⟩, .fresh c1, ?_, rfl, ?_⟩
    · show s'.gens[g1]? = _
      rw [hgens, hg1]; simp
    · refine wake X.A.in1 [a, s'.heap.objs.size, h3.objs.size] _ hr I1.ok.frames ⟨by simp, fun b hb => ?_, fun b hb hlt => ?_, fun b hb => ?_⟩ (fun b o e => k' b o e) hos (allBare_setGen (by show AllBare s'.gens; rw [hgens]; exact AllBare.push I1.bare rfl) rfl) ?_
      · have hb : b = a ∨ b = s'.heap.objs.size ∨ b = h3.objs.size := by simpa using hb
        rcases hb with z | z | z
        · exact .inl z
        · exact .inr (.inr (Nat.le_of_eq z.symm))
        · exact .inr (.inr (by rw [z, sz3]; exact Nat.le_succ _))
      · have hb : b = a ∨ b = s'.heap.objs.size ∨ b = h3.objs.size := by simpa using hb
        rcases hb with z | z | z <;> rw [z] at hlt
        · exact absurd (Nat.lt_trans hlt ha1) (Nat.lt_irrefl _)
        · exact absurd (Nat.lt_trans hlt hsc) (Nat.lt_irrefl _)
        · rw [sz3] at hlt; exact absurd (Nat.lt_trans hlt (Nat.lt_succ_of_lt hsc)) (Nat.lt_irrefl _)
      · have hb : b = a ∨ b = s'.heap.objs.size ∨ b = h3.objs.size := by simpa using hb
        rcases hb with z | z | z <;> rw [z]
        · obtain ⟨o, e, d⟩ := ga
          exact ⟨o, k' a o e, d⟩
        · exact ⟨_, k4 _ _ hD, fun v q => by cases q⟩
        · obtain ⟨o, es, ep, ho, hdd, _⟩ := hns
          exact ⟨o, ho, fun v q => by rw [hdd] at q; cases q⟩
      · have q : (({ s' with heap := h4, toks := tk } : Shared).setGen g1 .running).gens.size = s'.gens.size := setGen_size _ _ _
        rw [q, gsz, hg1]; exact Nat.lt_succ_self _
  have loop := fun tk (fs' : List Frame) (c' : Code) (ov : A.over c' fs' = X.A) => c2_comp (X := X) (A := A) (R := R) (Y := Y) (c := c') (fs := fs') (n := n) (s₀ := s₀) (elt := elt) (iter := iter) (px := px) (pos := pos) (scope := scope) (cenv := ce) ov hr.hd hr.depth I1 hN ha1 ha2 (by rw [sz3]; exact Nat.lt_succ_self _) eL eG eB kx (by rw [eK]; rfl) eS eK hel N 0 _ (Nat.add_zero _) (start tk)
  refine w2_run (P := fun n' s₀' r sF => n' = n ∧ s₀' = s₀ ∧ r = .ok .next ∧ ∃ H' ys mp, Inv X pins σ (upd H' s'.heap.objs.size (.lst ys)) sF ∧ F H' ∧ H' s'.heap.objs.size = none ∧ H' h3.objs.size = none ∧ ys.length = N ∧ (∀ j y, ys[j]? = some y → W j y) ∧ sF.heap.Ns h3.objs.size mp) (c2_tree fun k gg l p hgg => ?_) fun n' s₀' r sE hq => ?_
  · have ov : A.over (.compStart (.ListComp elt [⟨.Name x px, iter, [], 0⟩] scope pos) 0 (.ref a) (.ref s'.heap.objs.size) ce) (.ret k none gg l c p [] :: fs) = X.A := (over_loop rfl rfl).trans over
    show W2 _ _ _ _ _ _ _ ((compStart (.ListComp elt [⟨.Name x px, iter, [], 0⟩] scope pos) 0 (.ref a) (.ref s'.heap.objs.size) ce).onRaise (fun x => do noteFrame x ce; standAt theWindowsPlace)) _ _ _ _ _
    refine w2_onRaise ?_
    unfold compStart
    show W2 _ _ _ _ _ _ _ (ask >>= _) _ _ _ _ _
    refine w2_bind (w2_of (wpAny_askSetting ?_))
    split
    · exact w2_pure (.inr ⟨_, rfl, rfl, loop _ fs c over⟩)
    · refine w2_bind (w2_of (wpAny_rule ?_))
      show W2 _ _ _ _ _ _ _ (standAt iter.pos >>= _) _ _ _ _ _
      refine w2_at (w2_bind (w2_of (pyIter_gen (g := g1) (hgen.at fun o e => k' a o e) ?_)))
      exact w2_pure (.inr ⟨_, rfl, rfl, loop _ fs c over⟩)
  · obtain ⟨rfl, rfl, rfl, H', ys, mp, IE, hF, hDn, hLn, hlen, hW, hnsE⟩ := hq
    have fpL : FpOk X pins (upd H' s'.heap.objs.size (.lst ys)) h3.objs.size := I1.fpOk (by rw [sz3]; exact Nat.le_of_lt (Nat.lt_succ_of_lt hsc)) (by rw [upd_ne (by rw [sz3]; exact Nat.ne_of_gt (Nat.lt_succ_self _))]; exact hLn)
    have hp := post _ _ mp sE H' ys IE hF hDn hlen hW hnsE fpL
    have hv : ∀ y ∈ (scope.names.filter fun x => (x.2 == .local || x.2 == .cell) && x.1 != (".0" : Str)).reverse, y.2 = .local → ce.kindOf y.1 = some .local := fun y hy hl => kv y (List.mem_filter.mp (List.mem_reverse.mp hy)).1 hl
    have hv' : ∀ y ∈ (scope.names.filter fun x => (x.2 == .local || x.2 == .cell) && x.1 != (".0" : Str)).reverse.drop 1 ++ (scope.names.filter fun x => (x.2 == .local || x.2 == .cell) && x.1 != (".0" : Str)).reverse.take 1,
        y.2 = .local → ce.kindOf y.1 = some .local := fun y hy hl => by
      rcases List.mem_append.mp hy with h1 | h1
      · exact hv y (List.mem_of_mem_drop h1) hl
      · exact hv y (List.mem_of_mem_take h1) hl
    rw [← eL] at hp
    cases use with
    | none =>
      obtain ⟨m, hn, hr⟩ := hp
      subst hce
      refine w2_of ?_
      exact wpAny_bind (wpAny_holding (wpAny_comp_letGo eK _ sE m hv hn fun h' m' _ hs' => wpAny_pure (hr h' hs')))
    | some u =>
      subst hce
      refine w2_of ?_
      rw [over]
      refine wpAny_bind (wpAny_rule (wpAny_bind (wpAny_holding (wpAny_mono hp (fun _ s'' hr' => ?_) fun _ _ z => z.elim))))
      obtain ⟨m, hn, hr'⟩ := hr'
      exact wpAny_bind (wpAny_comp_letGo eK _ s'' m hv' hn fun h' m' _ hs' => wpAny_pure (hr' h' hs'))
end
end Yf
set_option Elab.async false
set_option linter.all false
set_option maxRecDepth 100000
set_option maxHeartbeats 4000000
/-! G12: expressions and statements that drain generators (at the law's level: nothing is handed out). -/
namespace Yf
open PySem PySem.Spec PyProof.Rows L2 GenW

section
variable {M : Model} {A : Around} {R : GenEnd} {Y : Protocol} {yl : Bool} {c : Code} {fs : List Frame} {n : Nat} {s₀ s : Shared} {E : Nat → Shared → Value → Shared → Prop}
theorem w2_spliced_nil {Q : Nat → Shared → List Value → Shared → Prop} (h : Q n s₀ [] s) : W2 M A R Y yl c fs (spliced []) Q E n s₀ s := w2_pure h
theorem w2_spliced_cons {x : Sem Value} {rest : List (Bool × Sem Value)} {Q : Nat → Shared → List Value → Shared → Prop}
    (h : W2 M A R Y yl c fs x (fun n' s₀' v s₁ => W2 M A R Y yl c fs (spliced rest) (fun n' s₀' vs s₂ => Q n' s₀' (v :: vs) s₂) E n' s₀' s₁) E n s₀ s) : W2 M A R Y yl c fs (spliced ((false, x) :: rest)) Q E n s₀ s := by
  rw [spliced]
  refine w2_bind (w2_mono h (fun n' s₀' v s₁ h₁ => ?_) fun _ _ _ _ z => z)
  simp only [Bool.false_eq_true, if_false]
  exact w2_bind (w2_pure (w2_bind (w2_holding (w2_mono h₁ (fun n' s₀' vs s₂ h₂ => w2_pure h₂) fun _ _ _ _ z => z))))
theorem w2_evalArgs {f : Value} {x : Sem Value} {rest : List (Bool × Sem Value)} {Q : Nat → Shared → Args → Shared → Prop}
    (h : W2 M A R Y yl c fs (spliced ((false, x) :: rest)) (fun n' s₀' vs s' => Q n' s₀' ⟨vs, []⟩ s') E n s₀ s) : W2 M A R Y yl c fs (evalArgs f true ((false, x) :: rest) []) Q E n s₀ s := by
  unfold evalArgs
  show W2 _ _ _ _ _ _ _ (spliced ((false, x) :: rest) >>= _) _ _ _ _ _
  refine w2_bind (w2_mono h (fun n' s₀' vs s' h' => ?_) fun _ _ _ _ z => z)
  refine w2_holding ?_
  exact w2_bind (w2_pure (w2_bind (w2_pure (w2_pure h'))))
theorem w2_callWith {P : Heap → Prop} {pos : Pos} {f : Value} {args : List (Bool × Sem Value)} {keywords : List (Option Str × Sem Value)} {Q : Nat → Shared → Value → Shared → Prop} (hplain : (args.any (·.1) || keywords.any (·.1.isNone)) = false)
    (hk : ∀ h, P h → ∃ k, (k = Keeper.frame ∨ k = Keeper.machine ∨ k = Keeper.boundFrame) ∧ PySem.W.Looks M h (keeperOf f) k)
    (h : W2 M A R Y yl c fs (evalArgs f true args keywords) (fun n' s₀' a s₁ => P s₁.heap ∧ W2 M A R Y yl c fs (call f ([] ++ a.pos) a.kw) Q E n' s₀' s₁) E n s₀ s) : W2 M A R Y yl c fs (callWith pos f [] args keywords) Q E n s₀ s := by
  unfold callWith
  refine w2_bind (w2_holding (w2_mono h (fun n' s₀' a s₁ h₁ => w2_at ?_) fun _ _ _ _ z => z))
  obtain ⟨k, hk', L⟩ := hk _ h₁.1
  simp only [hplain]
  refine w2_bind (w2_of (L.here ?_))
  have tail : ∀ {t : Sem Value}, W2 M A R Y yl c fs t Q E n' s₀' s₁ → W2 M A R Y yl c fs (t >>= fun r => holding [r] point >>= fun _ => pure r) Q E n' s₀' s₁ :=
    fun ht => w2_bind (w2_mono ht (fun _ _ r s₂ hr => w2_bind (w2_holding (w2_of (wpAny_point (w2_pure hr))))) fun _ _ _ _ z => z)
  have marked (mk : Value) : W2 M A R Y yl c fs (callMarked mk f ([] ++ a.pos) a.kw) Q E n' s₀' s₁ := by unfold callMarked; exact w2_keep h₁.2
  rcases hk' with rfl | rfl | rfl <;> dsimp only <;> first | exact tail h₁.2 | (split <;> first | exact tail h₁.2 | exact tail (marked _))
theorem keeps_B {id : String} (h : Heap) (_ : True) : ∃ k, (k = Keeper.frame ∨ k = Keeper.machine ∨ k = Keeper.boundFrame) ∧ PySem.W.Looks M h (keeperOf (.builtin id)) k :=
  ⟨.machine, .inr (.inl rfl), fun A Q E s _ hq => wpAny_pure hq⟩
end

section
variable {X : Cx}
/-- an expression that may drain generators -/
structure GE (X : Cx) (e : Expr) (te : TE) : Prop where
  run : ∀ (G : Gp) (Y : Protocol) (A : Around) (R : GenEnd) (c : Code) (fs : List Frame) (ip : List (Addr × Obj)) (n : Nat) (s₀ s : Shared) (σ : L2.St) (H : Hp) (Q : VK), GC X G false Y ip A c fs → GI X G ip s₀ σ H s → te σ H Q →
    W2 (model X.prog X.w) A R Y false c fs (eval e X.env) (fun n' s₀' v s' => n' = n ∧ ∃ x H', GI X G ip s₀' σ H' s' ∧ RelV x v ∧ Q x H') noX n s₀ s
/-- a test that may drain generators -/
structure GT (X : Cx) (e : Expr) (t : TT) : Prop where
  run : ∀ (whole : Sem Value) (G : Gp) (Y : Protocol) (A : Around) (R : GenEnd) (c : Code) (fs : List Frame) (ip : List (Addr × Obj)) (n : Nat) (s₀ s : Shared) (σ : L2.St) (H : Hp) (Q : Bool → Hp → Prop), GC X G false Y ip A c fs → GI X G ip s₀ σ H s → t σ H Q →
    W2 (model X.prog X.w) A R Y false c fs (isTrue e X.env whole) (fun n' s₀' b s' => n' = n ∧ ∃ H', GI X G ip s₀' σ H' s' ∧ Q b H') noX n s₀ s
theorem ge_pe {e : Expr} {te : TE} (h : PE X e te) : GE X e te := ⟨fun G Y A R c fs ip n s₀ s σ H Q g I ht => w2_of (by
  rw [g.over]
  exact wpAny_mono (h.run _ s σ H Q I ht) (fun v s' ⟨x, H', I', r, q⟩ => ⟨rfl, x, H', I', r, q⟩) fun x s' hx => (g.xe x s' hx).elim)⟩
theorem cas_nil {G : Gp} {s₀ s : Shared} (h : G.C = []) : CAs G s₀ s := ⟨fun b hb => by rw [h] at hb; simp at hb, fun q => absurd h q⟩

/-- [elt for x in g(..)] -/
def tComp (X : Cx) (scope : Scope) (x : Str) (elt : Expr) (tg : TG2) : TE := fun σ H Q => ∃ (N : Nat) (O : Nat → V → Hp → Prop) (F : Hp → Prop) (W : Nat → V → Prop), N ≤ sizeLine ∧ EltOk X scope x elt O W ∧ tg σ H N O F ∧
  ∀ D ys H', F H' → H' D = none → ys.length = N → (∀ j y, ys[j]? = some y → W j y) → Q (.ref D) (upd H' D (.lst ys))
theorem ge_lc {k : Nat} {elt iter : Expr} {x : Str} {px pos : Pos} {scope : Scope} {tg : TG2} (he : PGen3 X k iter tg) (hr : Room k X.A.in1) (hsc : LcSc scope x) (hs : ∀ x, foldedSetIterable iter X.env x = pure x := by intro _; rfl) :
    GE X (.ListComp elt [⟨.Name x px, iter, [], 0⟩] scope pos) (tComp X scope x elt tg) := by
  refine ⟨fun G Y A R c fs ip n s₀ s σ H Q g I ht => ?_⟩
  obtain ⟨N, O, F, W, hN, hel, htg, hq⟩ := ht
  rw [eval_ListComp]
  refine w2_comp g.over he hr g.xe I htg hN hsc hel hs fun D L mp sE H' ys IE hF hDn hlen hW hns fp => ⟨mp, hns, fun h' sb => ⟨rfl, .ref D, upd H' D (.lst ys), ?_, rfl, hq D ys H' hF hDn hlen hW⟩⟩
  obtain ⟨f0, f1, f2, f3, f4, f5⟩ := fp
  exact IE.turned (t' := sE.toks) (fun b o hb e => (sb.2 b hb).trans e) f0 f1 f3 f4 f5
/-- f(e), f a built-in function -/
theorem ge_callB {id : String} {x : Str} {p pos : Pos} {e : Expr} {te : TE} {r : List V → Hp → VK → Prop} (hc : CallR X (.builtin id) r) (hg : Gl X x) (hm : X.mg x = none) (hv : bootBuiltins x = some (.builtin id)) (he : GE X e te) (hn : x ≠ "__name__" := by decide) (hdb : (x == ("__debug__" : Str)) = false := by decide)
    (hst : starEach [e] X.env = (false, eval e X.env) :: starEach [] X.env := by rfl) : GE X (.Call (.Name x p) [e] [] pos) (fun σ H Q => te σ H fun v H1 => r [v] H1 Q) := by
  refine ⟨fun G Y A R c fs ip n s₀ s σ H Q g I ht => ?_⟩
  rw [arm_eval_Call_Name']
  refine w2_bind (w2_of ?_)
  rw [g.over]
  refine ld_blt I hg hm hv ?_ hn hdb
  rw [hst]
  show W2 _ _ _ _ _ _ _ (callWith pos (.builtin id) [] ((false, eval e X.env) :: backTo pos (starEach [] X.env)) []) _ _ _ _ _
  refine w2_callWith (P := fun _ => True) rfl keeps_B (w2_evalArgs (w2_spliced_cons (w2_mono (he.run G Y A R c fs ip n s₀ s σ H _ g I ht) (fun n' s₀' v s1 ⟨e1, y, H1, I1, ry, q⟩ => ?_) fun _ _ _ _ z => z)))
  subst e1
  refine w2_spliced_nil ⟨trivial, w2_of ?_⟩
  rw [g.over]
  exact wpAny_mono (hc _ s1 σ H1 [y] [v] Q I1 (.cons ry .nil) q) (fun u s' ⟨x, H', I', r', q'⟩ => ⟨rfl, x, H', I', r', q'⟩) fun x s' hx => (g.xe x s' hx).elim
/-- a comparison whose left side may drain -/
theorem gt_cmp {op : CmpOp} {r : R2} {a b : Expr} {ta tb : TE} {pos : Pos} (ho : OpR X (compareOp op) r) (ha : GE X a ta) (hb : PE X b tb) (hm : behindInMarks op b = false) : GT X (.Compare a [op] [b] pos) (tTest (tOp r ta tb)) := by
  refine ⟨fun wh G Y A R c fs ip n s₀ s σ H Q g I ht => ?_⟩
  rw [isTrue_Compare1, markedBehindIn_of_false hm]
  refine w2_bind (w2_mono (ha.run G Y A R c fs ip n s₀ s σ H _ g I ht) (fun n' s₀' v s1 ⟨e1, x, H1, I1, r1, q1⟩ => ?_) fun _ _ _ _ z => z)
  subst e1
  refine w2_of ?_
  rw [g.over]
  have xe' : ∀ {Q : Value → Shared → Prop} {x : Value} {s' : Shared}, X.xe x s' → False := fun {_ x s'} hx => g.xe x s' hx
  refine wpAny_bind (wpAny_holding (wpAny_mono (hb.run _ s1 σ H1 _ I1 q1) (fun u s2 ⟨y, H2, I2, r2, q2⟩ => ?_) fun x s' hx => (g.xe x s' hx).elim))
  refine wpAny_bind (wpAny_standAt (wpAny_bind (wpAny_operating (wpAny_mono (ho _ s2 σ H2 x y v u _ I2 r1 r2 q2) (fun d s3 ⟨z, H3, I3, r3, k, e, q3⟩ => ?_) fun x s' hx => (g.xe x s' hx).elim))))
  subst e
  cases r3
  exact wpAny_holding (wpAny_truthy_bool ⟨rfl, H3, I3, q3⟩)
theorem gt_pt {e : Expr} {t : TT} (h : PW X e t) : GT X e t := ⟨fun wh G Y A R c fs ip n s₀ s σ H Q g I ht => w2_of (by
  rw [g.over]
  exact wpAny_mono (h.run wh _ s σ H Q I ht) (fun b s' ⟨H', I', q⟩ => ⟨rfl, H', I', q⟩) fun x s' hx => (g.xe x s' hx).elim)⟩
/-- a or b, the right side may drain -/
theorem gt_or {a b : Expr} {pos : Pos} {tA tB : TT} (ha : PT X a tA) (hb : GT X b tB) : GT X (.BoolOp .Or [a, b] pos) (fun σ H Q => tA σ H fun k H1 => if k = true then Q true H1 else tB σ H1 Q) := by
  refine ⟨fun wh G Y A R c fs ip n s₀ s σ H Q g I ht => ?_⟩
  show W2 _ _ _ _ _ _ _ (isTrue a X.env (eval a X.env) >>= fun k => match BoolOp.Or, k with
    | .And, false => pure false
    | .Or, true => pure true
    | _, _ => isTrue b X.env (eval b X.env) >>= fun k => match BoolOp.Or, k with
      | .And, false => pure false
      | .Or, true => pure true
      | _, _ => pure false) _ _ _ _ _
  refine w2_bind (w2_of ?_)
  rw [g.over]
  refine wpAny_mono (ha.run _ s σ H _ I ht) (fun k s1 ⟨H1, I1, q1⟩ => ?_) fun x s' hx => (g.xe x s' hx).elim
  cases k with
  | true => exact w2_pure ⟨rfl, H1, I1, q1⟩
  | false =>
    refine w2_bind (w2_mono (hb.run _ G Y A R c fs ip n s₀ s1 σ H1 _ g I1 q1) (fun n' s₀' k s2 ⟨e1, H2, I2, q2⟩ => ?_) fun _ _ _ _ z => z)
    subst e1
    cases k with
    | true => exact w2_pure ⟨rfl, H2, I2, q2⟩
    | false => exact w2_pure ⟨rfl, H2, I2, q2⟩

/-! ### statements -/
theorem gs_ifG {test : Expr} {a b : List Stmt} {pos : Pos} {tc : TT} {t u : TGn} (hc : GT X test tc) (ha : GSs X false a t) (hb : GSs X false b u) : GS X false (.If test a b pos) (tGIf tc t u) := ⟨fun G Y A R c fs ip n j s₀ s σ H D g hn hC hI ht => by
  rw [exec_If]
  refine w2_at (w2_bind (w2_mono (hc.run _ G Y A R c fs ip n s₀ s σ H _ g hI ht) (fun n' s₀' d s' ⟨e1, H1, I1, q⟩ => ?_) fun _ _ _ _ z => z))
  subst e1
  have hC' : CAs G s₀' s' := cas_nil (g.co rfl)
  cases d with
  | true => exact ha.run G Y A R c fs ip n' j s₀' s' σ H1 D g hn hC' I1 q
  | false => exact hb.run G Y A R c fs ip n' j s₀' s' σ H1 D g hn hC' I1 q⟩
/-- x = e -/
def tGSet (te : TE) (i : Nat) : TGn := fun _ D j σ H => te σ H fun v H1 => D.nx j (σ.set i (some v)) H1
theorem gs_set {i : Nat} {x : Str} {e : Expr} {te : TE} {pos pos' : Pos} (hN : X.N.Nodup) (hi : X.N[i]? = some x) (hx : Loc X.env.scope x) (he : GE X e te) (hs : swapsWith e (some (.Name x pos')) pos.line X.env = pure false := by rfl)
    (hf : X.fn x = true ∨ X.env.scope.names.lookup x = some .local := by first | exact .inl rfl | exact .inr rfl | assumption) : GS X false (.Assign [.Name x pos'] e pos) (tGSet te i) := by
  refine ⟨fun G Y A R c fs ip n j s₀ s σ H D g hn hC hI ht => ?_⟩
  rw [exec_Assign_Name (hs := hs)]
  refine w2_at (w2_bind (w2_mono (he.run G Y A R c fs ip n s₀ s σ H _ g hI ht) (fun n' s₀' v s1 ⟨e1, y, H1, I1, r1, q1⟩ => ?_) fun _ _ _ _ z => z))
  subst e1
  refine w2_at (w2_bind (w2_of (wpAny_bindName (store_ok I1 hN hi hx r1 (fun s2 I2 => ?_) hf))))
  exact w2_pure ⟨j, hn, cas_nil (g.co rfl), _, H1, I2, q1⟩
/-- x = [elt for y in g(..)] on one line -/
theorem gs_setLc {k i : Nat} {y : Str} {py : Pos} {elt iter : Expr} {x : Str} {px pos spos : Pos} {scope : Scope} {tg : TG2} (hN : X.N.Nodup) (hy : X.N[i]? = some y) (hyl : X.env.scope.names.lookup y = some .local)
    (hsw : swapsWith (.ListComp elt [⟨.Name x px, iter, [], 0⟩] scope pos) (some (.Name y py)) spos.line X.env = pure true) (he : PGen3 X k iter tg) (hr : Room k X.A.in1) (hsc : LcSc scope x) (hs : ∀ x, foldedSetIterable iter X.env x = pure x := by intro _; rfl) :
    GS X false (.Assign [.Name y py] (.ListComp elt [⟨.Name x px, iter, [], 0⟩] scope pos) spos) (tGSet (tComp X scope x elt tg) i) := by
  refine ⟨fun G Y A R c fs ip n j s₀ s σ H D g hn hC hI ht => ?_⟩
  obtain ⟨N, O, F, W, hNs, hel, htg, hq⟩ := ht
  rw [exec_Assign_Name_used _ _ _ _ hsw]
  refine w2_at (w2_bind ?_)
  show W2 _ _ _ _ _ _ _ (comprehension (.ListComp elt [⟨.Name x px, iter, [], 0⟩] scope pos) scope X.env (firstIterPos [⟨.Name x px, iter, [], 0⟩] pos) (newList []) false (eval iter X.env) (some (assign (.Name y py) X.env)) >>= fun _ => pure ()) _ _ _ _ _
  refine w2_bind (w2_mono (w2_comp (Q := fun n' s₀' _ s' => n' = n ∧ s₀' = s₀ ∧ GSP X G ip s₀ D j .next s') g.over he hr g.xe hI htg hNs hsc hel hs fun Dl L mp sE H' ys IE hF hDn hlen hW hns fp => ?_) (fun n' s₀' _ s' ⟨e1, e2, q⟩ => ?_) fun _ _ _ _ z => z)
  · show wpAny _ _ (assign (.Name y py) X.env (.ref Dl)) _ _ _
    refine wpAny_assign_Name (store_ok2 (v := V.ref Dl) IE hN hy (.inl hyl) rfl (fun s2 I2 ⟨a, sb, ha⟩ => ?_) (.inr hyl))
    obtain ⟨f0, f1, f2, f3, f4, f5⟩ := fp
    have haC : L ≠ a := by
      rcases ha with z | z
      · rw [z]; exact f1
      · exact fun e => f4 y a z e.symm
    refine ⟨mp, hns.sameBut sb haC, fun h3 sb3 => ⟨rfl, rfl, _, _, I2.turned (t' := s2.toks) (fun b o hb e => (sb3.2 b hb).trans e) f0 f1 f3 f4 f5, ?_⟩⟩
    exact hq Dl ys H' hF hDn hlen hW
  · subst e1 e2
    exact w2_pure (w2_pure ⟨j, hn, cas_nil (g.co rfl), q⟩)
end
end Yf
set_option Elab.async false
set_option linter.all false
set_option maxRecDepth 100000
set_option maxHeartbeats 4000000
/-! G2: such a run is the scheduler's run. -/
namespace Yf
open PySem
open Sem (wp)
section
variable {M : Model}
/-- a step that the real machine takes plainly -/
def OkT (s : Shared) (t : Thread) : Prop :=
  t.calm = true ∨ ∃ v g l k fs b rest, t.cur = .yield v g l k ∧ splitAtGen t.stack = some (fs, b, rest) ∧ Mild s t.code g fs
theorem stp_plain {s s' : Shared} {t t' : Thread} (h : Stp M s t s' t') : stepK M.den M.prog M.w s t = .go s' t' ∧ OkT s t := by
  cases h with
  | calm h =>
    cases hl : t.loud with
    | true => rw [M.step_loud hl] at h; cases h
    | false =>
      rw [M.step_quiet hl] at h
      refine ⟨h, .inl ?_⟩
      rw [Thread.calm_eq, hl]
      cases hr : t.refused with
      | false => rfl
      | true =>
        obtain ⟨what, e⟩ := stepK_refused M.den M.prog M.w (s := s) hr
        rw [e] at h; cases h
  | @mild v g₀ l₀ k₀ c p st fs g k c' p' rest hsp hm =>
    refine ⟨?_, .inr ⟨v, g₀, l₀, k₀, fs, _, rest, rfl, hsp, hm⟩⟩
    simp only [PySem.stepK, PySem.step, hsp]
    rfl
theorem to_runs {s : Shared} {t : Sem PySem.Fin} {c : Code} {p : Pos} {pre : List Frame} {s' : Shared} {e : End} (h : To M [] s t c p pre s' e) : ∀ r, e = .ret r → leftWithCleanup s'.gens = false →
    ∃ n, runNK M.den M.prog M.w n s ⟨t, c, p, pre⟩ = .halted (outcomeOf r) s' ∧ ∀ k s₁ t₁, runNK M.den M.prog M.w k s ⟨t, c, p, pre⟩ = .running s₁ t₁ → OkT s₁ t₁ := by
  induction h with
  | @out s t c p pre e hx =>
    rintro r rfl hl
    obtain ⟨rfl, rfl⟩ := hx
    have e1 : stepK M.den M.prog M.w s ⟨leafOf r, c, p, []⟩ = .halt (outcomeOf r) s := by
      cases r <;> simp [leafOf, PySem.stepK, PySem.step, finish, hl, outcomeOf]
    refine ⟨1, by simp only [runNK, e1], fun k s₁ t₁ hk => ?_⟩
    cases k with
    | zero =>
      injection hk with h1 h2
      subst h1 h2
      refine .inl ?_
      cases r <;> simp [leafOf, Thread.calm, Thread.atCollectorCode, Thread.yieldsInsideHandler]
    | succ k => simp only [runNK, e1] at hk; cases hk
  | @go s t c p pre s₁ t₁ c₁ p₁ pre₁ s' e hs _ ih =>
    intro r hr hl
    obtain ⟨n, h1, h2⟩ := ih r hr hl
    rw [List.append_nil, List.append_nil] at hs
    obtain ⟨e1, ok⟩ := stp_plain hs
    refine ⟨n + 1, by simp only [runNK, e1]; exact h1, fun k s₂ t₂ hk => ?_⟩
    cases k with
    | zero =>
      injection hk with q1 q2
      subst q1 q2
      exact ok
    | succ k => simp only [runNK, e1] at hk; exact h2 k s₂ t₂ hk
end
theorem okT_forget {s : Shared} {t : Thread} : OkT s.forget t.forget ↔ OkT s t := by
  have hm : ∀ c g fs, Mild s.forget c g (forgetAll fs) ↔ Mild s c g fs := fun c g fs => by
    unfold Mild
    rw [any_guarded_forgetAll]
    exact Iff.rfl
  constructor
  · rintro (h | ⟨v, g, l, k, fs, b, rest, h1, h2, h3⟩)
    · exact .inl (by rw [← Thread.calm_forget]; exact h)
    · have h2' : splitAtGen (forgetAll t.stack) = some (fs, b, rest) := h2
      rw [splitAtGen_forgetAll] at h2'
      cases e : splitAtGen t.stack with
      | none => rw [e] at h2'; cases h2'
      | some x =>
        obtain ⟨fs', b', rest'⟩ := x
        rw [e] at h2'
        simp only [Option.map_some, Option.some.injEq, Prod.mk.injEq] at h2'
        obtain ⟨rfl, rfl, rfl⟩ := h2'
        exact .inr ⟨v, g, l, k, fs', b', rest', h1, e, (hm _ _ _).mp h3⟩
  · rintro (h | ⟨v, g, l, k, fs, b, rest, h1, h2, h3⟩)
    · exact .inl (by rw [Thread.calm_forget]; exact h)
    · refine .inr ⟨v, g, l, k, forgetAll fs, b, forgetAll rest, h1, ?_, (hm _ _ _).mpr h3⟩
      show splitAtGen (forgetAll t.stack) = _
      rw [splitAtGen_forgetAll, h2]; rfl
section
variable (den : Code → Sem PySem.Fin) (prog : Program) (w : World)
theorem okT_real {s : Shared} {t : Thread} (h : ∀ k s₁ t₁, runNK den prog w k s t = .running s₁ t₁ → OkT s₁ t₁) : ∀ k s₁ t₁, runN den prog w k s t = .running s₁ t₁ → OkT s₁ t₁ := by
  intro k s₁ t₁ hk
  have e := runNK_same den prog w k (s₁ := s) (s₂ := s) (t₁ := t) (t₂ := t) rfl rfl
  rw [hk] at e
  cases hr : runNK den prog w k s t with
  | halted o₂ s₂ => rw [hr] at e; cases e
  | running s₂ t₂ =>
    rw [hr] at e
    simp only [Run.forget] at e
    injection e with e1 e2
    have q := okT_forget.mpr (h k s₂ t₂ hr)
    rw [e1, e2] at q
    exact okT_forget.mp q
theorem shows_not {s : Shared} {c : Code} {g : Bool} {fs : List Frame} (hm : Mild s c g fs) (hr : s.heap.life.registered = []) : closingShows s fs c g = false := by
  obtain ⟨h1, h2⟩ := hm
  unfold closingShows
  rw [h1, Bool.false_or]
  rcases h2 with rfl | ⟨a, rest, kw, o, n, rfl, h3, h4⟩
  · rfl
  · simp only [delegateShows, h3, h4, hr]
    simp
theorem sstep_mild (s : Shared) (v : Value) (g : Bool) (l : List Value) (k : Resume → Sem PySem.Fin) (c : Code) (p : Pos) (st fs : List Frame) (b : Nat × (GenResult → Sem PySem.Fin) × Code × Pos) (rest : List Frame) (hsp : splitAtGen st = some (fs, b, rest)) (hm : Mild s c g fs) (hz : s.asleep) :
    sstep den prog w (.single s ⟨.yield v g l k, c, p, st⟩) = (step den prog w s ⟨.yield v g l k, c, p, st⟩).lift := by
  obtain ⟨hr, hc⟩ := hz
  have hl : ∀ others, lifeStep den prog w others s ⟨.yield v g l k, c, p, st⟩ = step den prog w s ⟨.yield v g l k, c, p, st⟩ := fun others => by
    cases hs : Thread.special ⟨.yield v g l k, c, p, st⟩ with
    | false => exact lifeStep_eq_step den prog w others s _ hs hc
    | true =>
      have hsh := shows_not hm hr
      have hw : s.watching = false := by simp [Shared.watching, hr]
      simp only [lifeStep, hs, if_true, collectorTurn?, hsp, hsh, hw, Thread.atItsEnd, Bool.false_and, Bool.false_eq_true, if_false, stepCounting_eq_step den prog w s _ hc]
  have hmv : ∀ pr, (Config.single s ⟨.yield v g l k, c, p, st⟩).moves pr = [.run 0] := fun pr => by
    simp [Config.moves, Config.single, movesFrom, Thread.moves, Thread.atomic, Thread.rests, Thread.tells]
  have h1 : (Config.single s ⟨.yield v g l k, c, p, st⟩).collect? w.params = none := by
    simp [Config.collect?, Config.single, (nothing_to_collect _ _ _ s ⟨.yield v g l k, c, p, st⟩ hr).1]
  have h2 : (Config.single s ⟨.yield v g l k, c, p, st⟩).collectable = [] := by
    simp [Config.collectable, Config.single, (nothing_to_collect w.params _ _ s ⟨.yield v g l k, c, p, st⟩ hr).2]
  have hp : (Config.single s ⟨.yield v g l k, c, p, st⟩).pick w = .ok (.run 0, .single s ⟨.yield v g l k, c, p, st⟩) := by
    simp only [Config.pick, h1, h2, Config.pickThread, hmv]
    cases w.params.lifetimes <;> simp
  have hrun : (Config.single s ⟨.yield v g l k, c, p, st⟩).run den prog w 0 = (step den prog w s ⟨.yield v g l k, c, p, st⟩).lift := by
    simp only [Config.run, Config.single]
    simp [hl, others_single, frozenBadly, ThreadState.insideWrite, Thread.finalizes, Thread.result?]
    split <;> simp_all [Step.lift, Config.single]
  simp only [sstep, hp, Config.move, hrun]
theorem sstep_ok (s : Shared) (t : Thread) (h : OkT s t) (hz : s.asleep) :
    sstep den prog w (.single s t) = (step den prog w s t).lift ∨ step den prog w s t = .halt (.unsupported "lifetime:generator-with-cleanup-left-suspended") s := by
  rcases h with h | ⟨v, g, l, k, fs, b, rest, h1, h2, h3⟩
  · exact sstep_single den prog w s t h hz
  · obtain ⟨cur, code, pos, stack⟩ := t
    obtain rfl : cur = _ := h1
    exact .inl (sstep_mild den prog w s v g l k code pos stack fs b rest h2 h3 hz)
theorem sched_ok : ∀ (n : Nat) (s : Shared) (t : Thread) (o : Outcome) (s' : Shared), s.asleep → (∀ k s₁ t₁, runN den prog w k s t = .running s₁ t₁ → OkT s₁ t₁) →
    runN den prog w n s t = .halted o s' → o.ends = true → schedN den prog w n (.single s t) = .halted o s'
  | 0, _, _, _, _, _, _, h, _ => by cases h
  | n + 1, s, t, o, s', hz, hk, h, ho => by
    simp only [runN] at h
    rcases sstep_ok den prog w s t (hk 0 s t rfl) hz with e | e
    · cases hs : step den prog w s t with
      | go s₁ t₁ =>
        rw [hs] at h e
        have z : s₁.asleep := by
          unfold Shared.asleep
          rw [step_life den prog w s s₁ t t₁ hs]
          exact hz
        simp only [schedN, e, Step.lift]
        exact sched_ok n s₁ t₁ o s' z (fun k s₂ t₂ q => hk (k + 1) s₂ t₂ (by simp only [runN, hs]; exact q)) h ho
      | halt o₁ s₁ =>
        rw [hs] at h e
        injection h with h1 h2
        subst h1 h2
        simp only [schedN, e, Step.lift]
    · rw [e] at h
      injection h with h1 h2
      subst h1
      cases ho
end
/-- THE BRIDGE -/
theorem thread_ends {prog : Program} {w : World} {t : Sem PySem.Fin} {s : Shared} {R : Result → Shared → Prop} (hz : s.asleep)
    (h : Sg (model prog w) callerA (fun _ _ r s' => R r s' ∧ leftWithCleanup s'.gens = false) (fun _ _ _ _ _ => False) 0 s (.builtin "claim.caller" {}) t [] s) :
    ∃ n r s' s'', runN (denote table) prog w n s ⟨t, .builtin "claim.caller" {}, default, []⟩ = .halted (outcomeOf r) s' ∧
      schedN (denote table) prog w n (.single s ⟨t, .builtin "claim.caller" {}, default, []⟩) = .halted (outcomeOf r) s' ∧ s'.forget = s''.forget ∧ R r s'' := by
  obtain ⟨e, s'', hg, he⟩ := sg_iff.mp h ⟨.builtin "claim.caller" {}, none, none, [], none⟩ default rfl ⟨⟨rfl, Nat.zero_le _, fun l hl => by cases hl; rfl, fun g hg => by cases hg; rfl, by show unitsOf [] ≤ 4; decide +kernel⟩, rfl⟩
  cases e with
  | susp v g l k c p fs => exact he.2.elim
  | ret r =>
    obtain ⟨hR, hl⟩ := he
    obtain ⟨n, h1, h2⟩ := to_runs (hg [] ⟨rfl, rfl, rfl, rfl⟩) r rfl hl
    obtain ⟨s', h3, h4⟩ := runNK_halted (denote table) prog w h1
    exact ⟨n, r, s', s'', h3, sched_ok (denote table) prog w n _ _ _ _ hz (okT_real (denote table) prog w h2) h3 (outcomeOf_ends r), h4, hR⟩
end Yf
set_option Elab.async false
set_option linter.all false
set_option maxRecDepth 100000
set_option maxHeartbeats 4000000
/-! G3: a law row from such a run. -/
namespace Yf
open PySem PySem.W PySem.Calls PyProof.Rows HandSHeadRun
abbrev noYield : Protocol := fun _ _ _ _ _ => False
abbrev cCaller : Code := .builtin "claim.caller" {}
theorem callFrom2 {c : ClaimW} {tree : List Value → Sem PySem.Fin} {w : World} {s : Shared} {free : Addr → Prop} {gens : Prop} {kept : Heap → Prop} (hz : s.asleep) (hgens : s.gens = #[])
    (hspec : ∀ args, c.pre args = true → WData.layableAll args = true → ∀ ord : List DictEntry → List DictEntry, (∀ l, (ord l).Perm l) →
      ∃ vs s₁, layAllW c.records (classAt s.heap) w.params ord args s = some (vs, s₁) ∧
        Sg (model c.prog w) callerA (fun _ _ r s' => (c.Ends s args vs s₁ r s' ∧ s'.os = s.os ∧ kept s'.heap) ∧ leftWithCleanup s'.gens = false) noYield 0 s₁ cCaller (tree vs) [] s₁) :
    c.CallFrom (fun vs => ⟨tree vs, cCaller, default, []⟩) w free gens kept s := by
  intro args hpre hlay ord hord
  obtain ⟨vs, s₁, hlaid, hcode⟩ := hspec args hpre hlay ord hord
  have hal := layAllW_rest _ _ _ hlaid
  obtain ⟨k, r, s', s'', hrun, hsched, hfo, hcase, hos, hkp⟩ := thread_ends (prog := c.prog) (w := w) (t := tree vs) (s := s₁) (R := fun r s' => c.Ends s args vs s₁ r s' ∧ s'.os = s.os ∧ kept s'.heap)
    (Shared.asleep_of_life hal.2.2.2 hz) hcode
  obtain ⟨eh, _, _, eo, _⟩ := Shared.forget_eq hfo
  have hcase := hcase.congr eh
  rw [← eh] at hkp
  rw [← eo] at hos
  have hlife : s'.heap.life = s.heap.life := (runN_life _ _ _ hrun).trans hal.2.2.2
  refine ⟨vs, s₁, hlaid, k, _, s', hsched, ?_, (fun _ i x hx => by rw [hgens] at hx; simp at hx), hkp, by rw [hlife], Shared.rest_eq hos⟩
  rcases hcase with ⟨v, rfl, d1, d2, d3, d4, d5⟩ | ⟨e, ob, cls, rfl, d1, d2, d3, d4, d5⟩
  · exact .inl ⟨v, rfl, d1, d2, d3, fun b o y _ => d4 b o y, d5⟩
  · exact .inr ⟨e, ob, cls, rfl, d1, d2, d3, d4, fun b o y _ => d5 b o y⟩

/-- what the law's call is to reach -/
def LawEnd (s₁ : Shared) : GenEnd := fun _ _ r s' => r = .ok (.ret (.bool true)) ∧ OldK s₁.heap s'.heap ∧ s'.os = s₁.os ∧ AllBare s'.gens
theorem law_holds {l : OpenLaw} {q : Program} {H : Hook} {ob : SharedT → H.α} {M : Nat} {loose : List PySem.Str} {d : DefRec} {kwd : List (PySem.Str × PySem.Expr)} {n : Nat} (ho : ∀ s : SharedT, ob s = H.obs s.abs)
    (e : opening l.row.prog = plainProg l.row.prog.main.scope.names) (f : ∀ s, fenceModules? l.row.prog s = some s) (run : ∀ w, HandSHeadRun.RunEq l.row q H ob M loose w)
    (hdef : defOf q l.row.name = some (d, kwd)) (hp : l.row.prog.theDef l.row.name = some (d.params, d.body, d.scope)) (hk : kwWritten? d.params.kwonlyargs d.params.kw_defaults = some kwd)
    (hwr : (!l.row.writes || l.row.records.isEmpty) = true) (k1 : l.row.wellSaid = true) (ok : (chainsOk q && opensWell l.row.prog && (frees l.row.toRowW && l.row.within.isEmpty)) = true) (hb : l.row.prog.bare) (hw : l.row.toRowW.promised) (hn : l.most = some n)
    (call : ∀ (w : World) (s₀ s₁ : Shared) (mg mb : PySem.Str → Option Value) (fa a : Addr) (vs : List Value) (ns : List Int), Ground q loose [] (XL q []) w s₀ mg mb s₁.heap → H.says w s₁.heap → mg l.row.name = some (.ref fa) →
      s₁.heap.get? a = some { cls := .type "list", data := .seq vs.toArray } → IntsAre vs ns → ns.length ≤ n → s₁.gens = #[] →
      Sg (model l.row.prog w) callerA (LawEnd s₁) noYield 0 s₁ cCaller (PySem.call (.ref fa) [.ref a] >>= fun v => ret v) [] s₁) : l.row.Holds := by
  have left : LeftO l.row.prog q loose (fun s => xlAt q [] s && recOk l.row.toRowW.records s) H.obs H.val (M + 600) true :=
    HandSHeadRun.left_one (M := M) e (Nat.ble_eq_true_of_le (by omega)) f (Nat.ble_eq_true_of_le (by omega)) fun w os => by
      have z := run w os
      have eo : ob = fun s => H.obs s.abs := funext ho
      rw [eo] at z
      simp only [endQ_eq, seenQ_eq]
      exact z
  have hX : ∀ s, (xlAt q [] s && recOk l.row.toRowW.records s) = true → XL q [] (s.heap.nsMap mainGlobals) s.heap := fun s z => xl_of s (Bool.and_eq_true_iff.mp z).1
  have hRf : ∀ s, (xlAt q [] s && recOk l.row.toRowW.records s) = true → RecFacts l.row.toRowW.records s.heap := fun s z => recFacts_of (Bool.and_eq_true_iff.mp z).2
  obtain ⟨ok, k5⟩ := Bool.and_eq_true_iff.mp ok
  obtain ⟨hch, o1⟩ := Bool.and_eq_true_iff.mp ok
  obtain ⟨k5, k6⟩ := Bool.and_eq_true_iff.mp k5
  obtain ⟨hsame, hu, ha, hap, hm⟩ := frees_parts k5
  have hmk : l.row.toRowW.claim.makers = [] := by
    rfl
  have main : l.row.toRowW.claim.HoldsOpenBy (fun vs => ⟨(do match ← nsGet mainNs l.row.name with
      | some f => do ret (← PySem.call f vs)
      | none => unsupported "claim.caller:no-such-global" : Sem PySem.Fin), cCaller, default, []⟩) (if l.row.pinned then [l.row.name] else []) l.row.keeps l.row.writes := by
    refine ⟨⟨hb, o1, hmk⟩, hw.witness, fun w => ⟨(left.behind hX hch w).1, fun s' hs' => ?_⟩⟩
    obtain ⟨s₀, hf, hg0, s, hT, hz, hgens, hg, G00, y⟩ := (left.behind (XP := fun mg h => XL q [] mg h ∧ RecFacts l.row.toRowW.records h) (fun s hs => ⟨hX s hs, hRf s hs⟩) hch w).2 s' hs'
    have G0 : Ground q loose [] (XL q []) w s (s.heap.nsMap mainGlobals) (s.heap.nsMap builtinsNs) s.heap := ⟨G00.T, G00.B, G00.D, G00.TE, G00.TD, G00.W, G00.X.1, G00.cls, G00.has, G00.apart, G00.once, G00.K⟩
    have RF := G00.X.2
    have hT' := hT
    refine ⟨s₀, hf, hg0, s, hT, fun n hn => ?_, RF.1, RF.2.1, ?_⟩
    · obtain rfl : n = l.row.name := by split at hn <;> simp_all
      exact pinned_of_view hg G0 hdef hp hk
    have hgens : s.gens = #[] := Array.eq_empty_of_size_eq_zero (beq_iff_eq.mp hgens)
    have G : Ground q loose l.row.toRowW.records (XL q []) w s _ _ s.heap := RF.ground G0
    refine callFrom2 (c := l.row.toRowW.claim) hz hgens fun args hpre hlay ord hord => ?_
    obtain ⟨⟨vs, s₁⟩, hlaid⟩ := Option.isSome_iff_exists.mp (layAllW_isSome (P := w.params) (ord := ord) G.has args l.row.toRowW.args s (pre_splitW hpre).1)
    have keeps := layAllW_keeps _ _ _ hlaid
    have hal := layAllW_rest _ _ _ hlaid
    obtain ⟨as, hrd, hin, hold⟩ := reads_layAllW hord _ _ _ hlaid hlay s₁.heap (fun _ _ e => e)
    have L : Laid l.row.toRowW.records w s s₁ args vs as := ⟨⟨ord, hord, hlaid⟩, hrd, hin, hold, keeps, hal.1.trans hgens, hal.2.2.1⟩
    have G₁ := G.keeps XL.keeps keeps
    obtain ⟨fa, o, pm, cd, doc, dV, kV, h1, h2, h3, h4, h5⟩ := G₁.fn hdef
    have hnm : d.name = l.row.name := defOf_name hdef
    obtain ⟨a, us, ns, rfl, rfl, hobj, hints, hlen⟩ := Att.script_of hn hpre L.well
    have hi := ident_freeW hu ha hap
    have hwi : l.row.toRowW.claim.within = [] := List.isEmpty_iff.mp k6
    have hmg : s.heap.nsMap mainGlobals l.row.name = some (.ref fa) := h1
    have z := call w s s₁ _ _ fa a us ns G₁ (H.keeps w _ _ (H.of w s y) keeps) hmg hobj hints hlen L.gens
    refine ⟨[.ref a], s₁, hlaid, ?_⟩
    refine sg_bind (wpAny_nsGet G₁.T.g ?_)
    rw [hmg]
    refine sg_imp (fun m s₂ r s₃ hr => ?_) (fun m s₂ v s₃ kap kap' hh hy => hy) 0 z
    obtain ⟨rfl, r2, r3, r4⟩ := hr
    have gw : GoodWG l.row.toRowW.claim (classAt s.heap) (ExcName.means s.heap) [WData.list (ns.map WData.int)] s₁ (.ok (.ret (.bool true))) s₃ :=
      ⟨.inl ⟨.bool true, .bool true, [], rfl, fun _ => rfl, .bool true, Att.post_true l _, fun _ => ⟨List.Pairwise.nil, fun _ hm => (nomatch hm)⟩⟩, r2, r3, r4⟩
    have x := gw.laid (c := l.row.toRowW.claim) hsame hwi hi L
    exact ⟨⟨x.1, x.2.1, fun q => ⟨namesKept_of hT' hg l.row.keeps keeps r2.old, noTable hwr q⟩⟩, leftWithCleanup_false_of_bare r4⟩
  exact ⟨k1, hw, main⟩
end Yf
set_option Elab.async false
set_option linter.all false
set_option maxRecDepth 100000
set_option maxHeartbeats 4000000
/-! G13: defs whose run drains generators; the law's own call. -/
namespace Yf
open PySem PySem.Spec PyProof.Rows L2 GenW

/-- a def that drains generators keeps its promise -/
structure FnOk2 (P : Program) (w : World) (K : PySem.W.Frag) (mg : Str → Option Value) (base : Heap) (k : Nat) (f : Addr) (fd : FuncData) (ps : List Str) (sp : Sp) : Prop where
  len : ∀ vs H Q E, sp vs H Q E → vs.length = ps.length
  run : ∀ (A : Around) (R : GenEnd) (Y : Protocol) (c : Code) (fs : List Frame) (n : Nat) (s₀ : Shared) (outer : List Env) (s : Shared) (H : Hp) (args : Args) (us : List Value) (vs : List V) (Q : VK), Room k (A.over c fs) → Env0 P w K mg base (A.over c fs) outer s H → BindsTo s fd args (ps.zip us) → Vals vs us → sp vs H Q C8.E0 →
    C2 (model P w) A R Y false c fs (.call (.ref f) args) (fun n' s₀' r s' => n' = n ∧ ∃ u, r = .ok (.ret u) ∧ CE outer P w H s Q u s') n s₀ s
/-- the group of a run that hands nothing out -/
abbrev GL (n : Nat) : Gp := ⟨[], 0, n, fun _ _ _ => False⟩
theorem fn2_of {P : Program} {w : World} {K : PySem.W.Frag} {mg : Str → Option Value} {base : Heap} {k : Nat} {f : Addr} {x qual : Str} {st : Stmt} {fd : FuncData} {N ps : List Str} {sp : Sp} (Fn : C8.Fun K x qual st f fd) (S : FnScope N ps (C8.fnScope st)) (len : ∀ vs H Q E, sp vs H Q E → vs.length = ps.length)
    (hbody : ∀ (cdv : Value) (A : Around) (outer : List Env) (s : Shared) (H : Hp) (vs : List V) (Q : VK), Room k (A.deeper (envOfC qual (C8.fnScope st) s.heap.objs.size f cdv)) → sp vs H Q C8.E0 →
      ∃ t : TGn, GSs (cxOf C8.CX0 P w K mg base N qual (C8.fnScope st) f cdv A outer s H C8.E0).nox false (C8.fnBody st) t ∧ ∀ n, t (GL n) { nx := fun j _ H' => j = 0 ∧ Q .non H', rt := fun j v H' => j = 0 ∧ Q v H' } 0 (L2.start N vs) H) :
    FnOk2 P w K mg base (k + 1) f fd ps sp := by
  obtain ⟨oc, od, dV, kV, doc, pm, an, cdv, ct, osl, rfl, lk, hcd⟩ := Fn.ex
  refine ⟨len, fun A R Y c fs n s₀ outer s H args us vs Q hr e0 hb r hsp => ?_⟩
  have hl := len _ _ _ _ hsp
  have KX : K.In s.heap := e0.mod.kin.keeps fun b o e => (e0.bs b o e).1
  have lim : s.heap.NoLimit := e0.mod.nolimit.keeps fun b o e => (e0.bs b o e).1
  have hkind : ∀ y ∈ ps.zip us, (C8.fnScope st).names.lookup y.1 = some .local ∨ ((C8.fnScope st).names.lookup y.1 = some .cell ∧ ((cellsFrom (s.heap.objs.size + 1) (C8.fnScope st).names []).lookup y.1).isSome = true) := fun ⟨n, v⟩ hy => by
    rcases S.par n (List.of_mem_zip hy).1 with q | q
    · exact .inl q
    · exact .inr ⟨q, PySem.W.cellsFrom_some _ _ _ (.inl q)⟩
  refine c2_tree fun k1 g1 l1 p1 hg1 => ?_
  have hcr := PySem.W.codeRec_of KX hcd
  show W2 _ _ _ _ _ _ _ (callAny (.ref f) args) _ _ _ _ _
  simp only [callAny]
  refine w2_bind (w2_of (wpAny_load (KX _ _ lk) ?_))
  obtain ⟨cc, occ, vcs, tq, hc, hoc, hdc, hq⟩ := hcr
  have hc' : cdv = .ref cc := hc
  subst hc'
  simp only [PySem.W.fnOf, callFunction, S.co, S.gen]
  refine w2_bind (m := field (.ref cc) 1) (w2_of (wpAny_field hoc hdc hq (w2_bind (w2_pure ?_))))
  refine w2_bind (w2_of (hb _ _ _ _ ?_))
  refine w2_bind (w2_of (wpAny_newFunctionEnv_cells S.kind hkind fun env he s1 x => ?_))
  subst he
  have eA : A.over (.call (.ref f) args) (.ret k1 none g1 l1 c p1 [] :: fs) = (A.over c fs).in1 := by rw [over_ret]; rfl
  refine w2_bind (w2_of ?_)
  rw [eA]
  refine wpAny_enterFrame (lim.keeps x.toInCall.keep) hr.depth ?_
  refine w2_pure (.inr ⟨_, rfl, rfl, c2_tree fun k2 g2 l2 p2 hg2 => ?_⟩)
  obtain ⟨t, ht, hq'⟩ := hbody (.ref cc) (A.over c fs) outer s H vs Q (hr.deeper _) hsp
  have I : Inv (cxOf C8.CX0 P w K mg base N qual (C8.fnScope st) f (.ref cc) (A.over c fs) outer s H C8.E0) [] (L2.start N vs) H s1 := inv_start S hr.hd e0 hl r x
  have I' : GI (cxOf C8.CX0 P w K mg base N qual (C8.fnScope st) f (.ref cc) (A.over c fs) outer s H C8.E0).nox (GL n) [] s₀ (L2.start N vs) H s1 := I.wish _
  have eB : A.over (.func (C8.fnBody st) (envOfC qual (C8.fnScope st) s.heap.objs.size f (.ref cc))) (.ret k2 none g2 l2 c p2 [] :: fs) = (A.over c fs).deeper (envOfC qual (C8.fnScope st) s.heap.objs.size f (.ref cc)) := by
    rw [over_ret]
    show (A.over c fs).under _ = _
    simp [Around.under, Around.deeper, Code.weight, Code.frames, Code.isFrame, Code.isCreation, Code.isCaller, Code.isGuard, Code.envs, Code.env?, Code.guards, Code.cUnits, pushEnvs, pushGuards]
  have gc : GC (cxOf C8.CX0 P w K mg base N qual (C8.fnScope st) f (.ref cc) (A.over c fs) outer s H C8.E0).nox (GL n) false Y [] A (.func (C8.fnBody st) (envOfC qual (C8.fnScope st) s.heap.objs.size f (.ref cc))) (.ret k2 none g2 l2 c p2 [] :: fs) :=
    ⟨eB, fun z => Bool.noConfusion z, fun z => Bool.noConfusion z, fun b hb => by simp at hb, fun z => Bool.noConfusion z, fun _ _ z => z, fun z => Bool.noConfusion z, fun _ => rfl⟩
  show W2 _ _ _ _ _ _ _ (do point; match ← (execs (C8.fnBody st) (envOfC qual (C8.fnScope st) s.heap.objs.size f (.ref cc))).onRaise (leaving (envOfC qual (C8.fnScope st) s.heap.objs.size f (.ref cc))) with | .ret v => ret v | _ => ret .none) _ _ _ _ _
  refine w2_bind (w2_of (wpAny_point ?_))
  refine w2_bind (w2_onRaise (w2_mono (ht.run (GL n) Y A R _ _ [] n 0 s₀ s1 _ H _ gc rfl (cas_nil rfl) I' (hq' n)) (fun n' s₀' fl s' ⟨j', hn', _, hs⟩ => ?_) fun _ _ _ _ z => z.elim))
  cases fl with
  | next =>
    obtain ⟨σ', H', J, e, q⟩ := hs
    subst e
    exact w2_pure (.inl ⟨_, rfl, hn', .none, rfl, .non, H', J.os, J.bare, J.base, J.hok, rfl, q⟩)
  | brk => obtain ⟨_, _, _, q⟩ := hs; exact False.elim q
  | cont => obtain ⟨_, _, _, q⟩ := hs; exact False.elim q
  | ret u =>
    obtain ⟨v, σ', H', J, rv, e, q⟩ := hs
    subst e
    exact w2_pure (.inl ⟨_, rfl, hn', u, rfl, v, H', J.os, J.bare, J.base, J.hok, rv, q⟩)

section
variable {X : Cx}
/-- f(e, ..), f a def that drains -/
theorem ge_call {k : Nat} {f : Addr} {fd : FuncData} {ps : List Str} {sp : Sp} {x : Str} {p pos : Pos} {e : Expr} {es : List Expr} {t : TA} (Fn : FnOk2 X.prog X.w X.K X.mg X.base k f fd ps sp) (hr : Room k X.A) (hg : Gl X x) (hm : X.mg x = some (.ref f)) (hk : PySem.W.keepIn X.K (.ref f) = true)
    (hb : Binds X.K fd ps []) (ha : PA X (e :: es) t) (hdb : (x == ("__debug__" : Str)) = false := by decide) (hst : starEach (e :: es) X.env = (false, eval e X.env) :: starEach es X.env := by rfl) (hpl : (backTo pos (starEach es X.env)).any (·.1) = false := by rfl) :
    GE X (.Call (.Name x p) (e :: es) [] pos) (fun σ H Q => t σ H fun vs H1 => sp (vs ++ []) H1 Q C8.E0) := by
  refine ⟨fun G Y A R c fs ip n s₀ s σ H Q g I ht => ?_⟩
  rw [arm_eval_Call_Name']
  refine w2_bind (w2_of ?_)
  rw [g.over]
  refine ld_glob I hg hm ?_ hdb
  have hA := ha.run pos (pinsAt G.C s₀.heap ++ ip) s σ H _ I ht
  rw [hst] at hA ⊢
  refine w2_callWith (P := fun h => X.K.In h) (by show ((false || (backTo pos (starEach es X.env)).any (·.1)) || false) = false; rw [hpl]; rfl) (PySem.W.keeps_K hk) (w2_evalArgs (w2_of ?_))
  rw [g.over]
  refine wpAny_mono hA (fun us s1 ⟨vs, H1, I1, r1, q1⟩ => ⟨I1.kIn, ?_⟩) fun x s' hx => (g.xe x s' hx).elim
  have r2 : Vals (vs ++ []) (us ++ []) := r1.append .nil
  have hl2 : (us ++ []).length = ps.length := by rw [← r2.length]; exact Fn.len _ _ _ _ q1
  have e0 : Env0 X.prog X.w X.K X.mg X.base (A.over c fs) X.stack s1 H1 := by rw [g.over]; exact I1.env0
  have z := Fn.run A R Y c fs n s₀ X.stack s1 H1 ⟨us, []⟩ (us ++ []) (vs ++ []) Q (by rw [g.over]; exact hr) e0 (hb s1 us I1.kIn hl2) r2 q1
  unfold call runValue
  refine w2_bind (w2_run z fun n' s₀' r s' hq => ?_)
  obtain ⟨e1, u, rfl, hE⟩ := hq
  obtain ⟨v, H', I', rv, qv⟩ := I1.after hE
  refine w2_pure ⟨e1, v, H', ?_, rv, qv⟩
  have hC := g.co rfl
  have e3 : pinsAt G.C s₀'.heap = pinsAt G.C s₀.heap := by rw [hC]; rfl
  show Inv X (pinsAt G.C s₀'.heap ++ ip) σ H' s'
  rw [e3]; exact I'
end

/-- THE HEAD: the law's promise, at the heap behind the top -/
theorem law_call2 {P : Program} {w : World} {K : PySem.W.Frag} {mg mb : Str → Option Value} {k : Nat} {fa a : Addr} {fd : FuncData} {x : Str} {sp : Sp} {s₁ : Shared} {vs : List Value} {ns : List Int}
    (KX : K.In s₁.heap) (hns : s₁.heap.Ns mainGlobals mg) (hb : s₁.heap.Ns builtinsNs mb) (hbb : ∀ x : Str, x ≠ "__name__" → mb x = bootBuiltins x) (hlim : s₁.heap.NoLimit) (hg : s₁.gens = #[])
    (ha : s₁.heap.get? a = some { cls := .type "list", data := .seq vs.toArray }) (hi : IntsAre vs ns) (hl : ns.length ≤ sizeLine) (hr : Room k (callerA.over cCaller [])) (hfr : (callerA.over cCaller []).frames = some [])
    (F : ∀ base : Heap, K.In base → base.Ns mainGlobals mg → FnOk2 P w K mg base k fa fd [x] sp) (hbind : ∀ (s : Shared) (u : Value), BindsTo s fd ⟨[u], []⟩ [(x, u)])
    (hsp : ∀ H : Hp, Only H → SqL K H a (ns.map V.int) → sp [.ref a] H (fun v _ => v = .bl true) C8.E0) :
    Sg (model P w) callerA (LawEnd s₁) noYield 0 s₁ cCaller (PySem.call (.ref fa) [.ref a] >>= fun v => ret v) [] s₁ := by
  have rv := vals_ints hi
  have lenV := hi.length
  have core : ∀ H : Hp, Only H → SqL K H a (ns.map V.int) → HOk P w H s₁.heap → (∀ b, H b ≠ none → b = a) → (H a ≠ none → K.lookup a = none) →
      Sg (model P w) callerA (LawEnd s₁) noYield 0 s₁ cCaller (PySem.call (.ref fa) [.ref a] >>= fun v => ret v) [] s₁ := by
    intro H hO hS hok hA hK
    have base_of : ∀ {b : Addr} {o : Obj}, s₁.heap.get? b = some o → H b = none → (hidT s₁.heap H).get? b = some o := fun e n => hidT_get e n
    have noA : ∀ {b : Addr} {o : Obj} {es : Array DictEntry} {ep : Nat}, s₁.heap.get? b = some o → o.data = .dict es ep → H b = none := fun {b o es ep} e d => by
      cases q : H b with
      | none => rfl
      | some u =>
        have e' : b = a := hA b (by rw [q]; simp)
        subst e'
        rw [ha] at e; cases e
        have d' : Data.seq vs.toArray _ = Data.dict es ep := d
        cases d'
    have nsK : ∀ {b : Addr} {m : Str → Option Value}, s₁.heap.Ns b m → (hidT s₁.heap H).Ns b m := fun {b m} ⟨o, es, ep, e, d, r⟩ => ⟨o, es, ep, base_of e (noA e d), d, r⟩
    have hKb : K.In (hidT s₁.heap H) := fun b o e => base_of (KX b o e) (by
      cases q : H b with
      | none => rfl
      | some u =>
        have e' : b = a := hA b (by rw [q]; simp)
        subst e'
        rw [hK (by rw [q]; simp)] at e; cases e)
    have hM : Mod K mg (hidT s₁.heap H) := ⟨hKb, nsK hns, ⟨mb, nsK hb, hbb⟩, let ⟨mc, h1, h2⟩ := hlim; ⟨mc, nsK h1, h2⟩⟩
    have e0 : Env0 P w K mg (hidT s₁.heap H) (callerA.over cCaller []) [] s₁ H := ⟨hfr, hM, fun b o e => of_hidT e, Nat.le_of_eq (hidT_size _ _), trivial, fun b hb => absurd (show b ∈ ([] : List Addr) from hb) (by simp), hok, .of_eq hg⟩
    have z := (F _ hKb (nsK hns)).run callerA (LawEnd s₁) noYield cCaller [] 0 s₁ [] s₁ H ⟨[.ref a], []⟩ [.ref a] [.ref a] _ hr e0 (hbind s₁ (.ref a)) (.cons rfl .nil) (hsp H hO hS)
    have tree : W2 (model P w) callerA (LawEnd s₁) noYield false cCaller [] (PySem.call (.ref fa) [.ref a] >>= fun v => ret v) (fun n' s₀' fin s' => n' = 0 ∧ fin = .done (.ret (.bool true)) ∧ OldK s₁.heap s'.heap ∧ s'.os = s₁.os ∧ AllBare s'.gens) noX 0 s₁ s₁ := by
      refine w2_bind ?_
      unfold call runValue
      refine w2_bind (w2_run z fun n' s₀' r s' hq => ?_)
      obtain ⟨e1, u, rfl, v, H', os, bare, un, hok', r', q⟩ := hq
      have q' : v = .bl true := q
      subst q'
      obtain rfl : u = Value.bool true := r'
      refine w2_pure (w2_pure ⟨e1, rfl, OldK.of_keep fun b o e => ?_, os, bare⟩)
      cases q : H b with
      | none => exact un.keep b o e q (by intro z; exact absurd (show b ∈ ([] : List Addr) from z) (by simp)) (by simp)
      | some u =>
        rcases hO b with z | ⟨ob, xs, z⟩
        · rw [q] at z; cases z
        · have z2 := un.frzs b ob _ z
          obtain ⟨e1, _⟩ := hok b _ z
          obtain ⟨e2, _⟩ := hok' b _ z2
          rw [e] at e1; cases e1
          exact e2
    have y := tree (fun fin => .pure fin) .raise id id (fun _ => rfl) (fun n' s₀' fin s' hq => ?_) fun _ _ _ _ z => z.elim
    · rw [show (PySem.call (.ref fa) [.ref a] >>= fun v => ret v : Sem PySem.Fin) = (PySem.call (.ref fa) [.ref a] >>= fun v => ret v : Sem PySem.Fin).wrap (fun fin => .pure fin) .raise id id from (wrap_self _).symm]
      exact y
    · obtain ⟨rfl, rfl, h1, h2, h3⟩ := hq
      exact sg_end (.ok (.ret (.bool true))) ⟨rfl, h1, h2, h3⟩
  cases hk : K.lookup a with
  | some o =>
    have e := KX a o hk
    rw [ha] at e
    cases e
    refine core (fun _ => none) (fun _ => .inl rfl) (.inr ⟨_, vs.toArray, _, hk, rfl, rfl, rfl, by rw [List.size_toArray, lenV]; exact hl, by simpa using rv⟩) (fun b u z => by have z' : (none : Option HO) = some u := z; cases z') (fun b z => absurd rfl z) fun z => absurd rfl z
  | none =>
    refine core (fun b => if b = a then some (.frz { cls := .type "list", data := .seq vs.toArray } (.lst (ns.map V.int))) else none) (fun b => ?_) (.inl (.inr ⟨{ cls := .type "list", data := .seq vs.toArray }, if_pos rfl⟩)) (fun b u z => ?_) (fun b z => ?_) fun _ => hk
    · by_cases hb : b = a
      · exact .inr ⟨_, _, if_pos hb⟩
      · exact .inl (if_neg hb)
    · by_cases hb : b = a
      · have z' := (if_pos hb).symm.trans z
        cases z'
        subst hb
        exact ⟨ha, by rw [List.length_map]; exact hl, vs, _, rv, ha⟩
      · have z' := (if_neg hb).symm.trans z
        cases z'
    · by_cases hb : b = a
      · exact hb
      · exact absurd (if_neg hb) z
theorem room_caller : Room 60 (callerA.over cCaller []) := ⟨rfl, by decide +kernel, by decide +kernel⟩
theorem frames_caller : (callerA.over cCaller []).frames = some [] := by rfl
end Yf
set_option Elab.async false
set_option linter.all false
set_option maxRecDepth 100000
set_option maxHeartbeats 4000000
/-! R1: the order of texts; min of texts. -/
namespace Yf
open PySem PySem.Spec PyProof.Rows L2

/-! ### the order of texts -/
theorem ltc_irrefl : ∀ a : List Nat, ltCps a a = false
  | [] => rfl
  | x :: r => by simp [ltCps, ltc_irrefl r]
theorem ltc_trans : ∀ a b c : List Nat, ltCps a b = true → ltCps b c = true → ltCps a c = true
  | [], [], _, h, _ => by simp [ltCps] at h
  | [], _ :: _, [], _, h => by simp [ltCps] at h
  | [], _ :: _, _ :: _, _, _ => by simp [ltCps]
  | _ :: _, [], _, h, _ => by simp [ltCps] at h
  | _ :: _, _ :: _, [], _, h => by simp [ltCps] at h
  | x :: a, y :: b, z :: c, h1, h2 => by
    have ih := ltc_trans a b c
    simp only [ltCps, Bool.or_eq_true, Bool.and_eq_true, decide_eq_true_eq, beq_iff_eq] at h1 h2 ⊢
    rcases h1 with h1 | ⟨rfl, h1⟩ <;> rcases h2 with h2 | ⟨rfl, h2⟩
    · exact .inl (by omega)
    · exact .inl h1
    · exact .inl h2
    · exact .inr ⟨rfl, ih h1 h2⟩
theorem ltc_tri : ∀ a b : List Nat, ltCps a b = false → ltCps b a = false → a = b
  | [], [], _, _ => rfl
  | [], _ :: _, h, _ => by simp [ltCps] at h
  | _ :: _, [], _, h => by simp [ltCps] at h
  | x :: a, y :: b, h1, h2 => by
    have ih := ltc_tri a b
    simp only [ltCps, Bool.or_eq_false_iff, Bool.and_eq_false_imp, decide_eq_false_iff_not, beq_iff_eq] at h1 h2
    have e : x = y := by omega
    subst e
    rw [ih (h1.2 rfl) (h2.2 rfl)]
/-- a text before another -/
def slt (a b : Str) : Bool := ltCps a.cps.toList b.cps.toList
theorem slt_dec (a b : Str) : decide (a.cps.toList < b.cps.toList) = slt a b := (ltCps_eq _ _).symm
theorem slt_irrefl (a : Str) : slt a a = false := ltc_irrefl _
theorem slt_trans {a b c : Str} (h1 : slt a b = true) (h2 : slt b c = true) : slt a c = true := ltc_trans _ _ _ h1 h2
theorem slt_tri {a b : Str} (h1 : slt a b = false) (h2 : slt b a = false) : a = b := by
  have e := ltc_tri _ _ h1 h2
  cases a; cases b
  simp only [Str.mk.injEq]
  exact Array.toList_inj.mp e
theorem slt_asymm {a b : Str} (h : slt a b = true) : slt b a = false := by
  cases e : slt b a with
  | false => rfl
  | true => have := slt_trans h e; rw [slt_irrefl] at this; cases this
theorem slt_cases (a b : Str) : slt a b = true ∨ a = b ∨ slt b a = true := by
  cases h1 : slt a b with
  | true => exact .inl rfl
  | false =>
    cases h2 : slt b a with
    | true => exact .inr (.inr rfl)
    | false => exact .inr (.inl (slt_tri h1 h2))
/-- not after -/
def sle (a b : Str) : Prop := slt b a = false
theorem sle_trans {a b c : Str} (h1 : sle a b) (h2 : sle b c) : sle a c := by
  unfold sle at *
  cases e : slt c a with
  | false => rfl
  | true =>
    rcases slt_cases a b with h | h | h
    · have := slt_trans e h; rw [h2] at this; cases this
    · subst h; rw [h2] at e; cases e
    · rw [h1] at h; cases h

/-! ### sorted lists are one -/
theorem sorted_unique {α : Type} {le : α → α → Prop} (anti : ∀ a b, le a b → le b a → a = b) : ∀ {xs ys : List α}, xs.Perm ys → xs.Pairwise le → ys.Pairwise le → xs = ys
  | [], ys, h, _, _ => h.nil_eq
  | x :: xs, [], h, _, _ => absurd h.symm.nil_eq (by simp)
  | x :: xs, y :: ys, h, hx, hy => by
    have e : x = y := by
      have m1 : x ∈ y :: ys := h.subset List.mem_cons_self
      have m2 : y ∈ x :: xs := h.symm.subset List.mem_cons_self
      rcases List.mem_cons.mp m1 with e | m1
      · exact e
      · rcases List.mem_cons.mp m2 with e | m2
        · exact e.symm
        · exact anti x y ((List.pairwise_cons.mp hx).1 y m2) ((List.pairwise_cons.mp hy).1 x m1)
    subst e
    rw [sorted_unique anti (List.Perm.cons_inv h) (List.pairwise_cons.mp hx).2 (List.pairwise_cons.mp hy).2]
theorem sle_anti (a b : Str) (h1 : sle a b) (h2 : sle b a) : a = b := slt_tri h2 h1
theorem rising_pw : ∀ (p : Str) (l : List Str), risingS p l = true → (p :: l).Pairwise sle
  | _, [], _ => List.pairwise_singleton _ _
  | p, x :: r, h => by
    have h' : (!ltCps x.cps.toList p.cps.toList && risingS x r) = true := h
    simp only [Bool.and_eq_true, Bool.not_eq_true'] at h'
    have ih := rising_pw x r h'.2
    refine List.pairwise_cons.mpr ⟨fun y hy => ?_, ih⟩
    rcases List.mem_cons.mp hy with e | hy
    · rw [e]; exact h'.1
    · exact sle_trans h'.1 ((List.pairwise_cons.mp ih).1 y hy)
theorem sortedS_pw : ∀ {l : List Str}, sortedS l = true → l.Pairwise sle
  | [], _ => List.Pairwise.nil
  | x :: r, h => rising_pw x r h
/-- the texts in order -/
def ssort (l : List Str) : List Str := l.mergeSort fun a b => !slt b a
theorem ssort_perm (l : List Str) : (ssort l).Perm l := List.mergeSort_perm l _
theorem ssort_pw (l : List Str) : (ssort l).Pairwise sle := by
  have h := List.pairwise_mergeSort (le := fun a b : Str => !slt b a) (fun a b c h1 h2 => by
    have h1 : sle a b := by simpa [sle] using h1
    have h2 : sle b c := by simpa [sle] using h2
    have := sle_trans h1 h2
    simpa [sle] using this) (fun a b => by
    rcases slt_cases a b with h | h | h
    · simp [slt_asymm h]
    · subst h; simp [slt_irrefl]
    · simp [slt_asymm h]) l
  exact h.imp fun {a b} h => by simpa [sle] using h
theorem ssort_of {l ys : List Str} (h1 : ys.Perm l) (h2 : sortedS ys = true) : ys = ssort l :=
  sorted_unique sle_anti (h1.trans (ssort_perm l).symm) (sortedS_pw h2) (ssort_pw l)
theorem ssort_congr {l m : List Str} (h : l.Perm m) : ssort l = ssort m := sorted_unique sle_anti ((ssort_perm l).trans (h.trans (ssort_perm m).symm)) (ssort_pw l) (ssort_pw m)
theorem mem_ssort {l : List Str} {x : Str} : x ∈ ssort l ↔ x ∈ l := (ssort_perm l).mem_iff

/-! ### the least -/
/-- the least of texts, the first of them standing for none -/
def smin : List Str → Str
  | [] => ⟨#[]⟩
  | x :: r => r.foldl (fun m y => if slt y m then y else m) x
theorem fold_min : ∀ (r : List Str) (x : Str), (r.foldl (fun m y => if slt y m then y else m) x = x ∨ r.foldl (fun m y => if slt y m then y else m) x ∈ r) ∧ sle (r.foldl (fun m y => if slt y m then y else m) x) x ∧ ∀ y ∈ r, sle (r.foldl (fun m y => if slt y m then y else m) x) y
  | [], x => ⟨.inl rfl, slt_irrefl x, fun y hy => by simp at hy⟩
  | z :: r, x => by
    rw [List.foldl_cons]
    by_cases h : slt z x = true
    · rw [if_pos h]
      obtain ⟨h1, h2, h3⟩ := fold_min r z
      refine ⟨.inr ?_, sle_trans h2 (slt_asymm h), fun y hy => ?_⟩
      · rcases h1 with e | e
        · rw [e]; exact List.mem_cons_self
        · exact List.mem_cons_of_mem _ e
      · rcases List.mem_cons.mp hy with e | hy
        · rw [e]; exact h2
        · exact h3 y hy
    · rw [if_neg h]
      have hz : sle x z := by unfold sle; simpa using h
      obtain ⟨h1, h2, h3⟩ := fold_min r x
      refine ⟨h1.imp id (List.mem_cons_of_mem _), h2, fun y hy => ?_⟩
      rcases List.mem_cons.mp hy with e | hy
      · rw [e]; exact sle_trans h2 hz
      · exact h3 y hy
theorem smin_mem {l : List Str} (h : l ≠ []) : smin l ∈ l := by
  cases l with
  | nil => exact absurd rfl h
  | cons x r =>
    rcases (fold_min r x).1 with e | e
    · show r.foldl _ x ∈ _
      rw [e]; exact List.mem_cons_self
    · exact List.mem_cons_of_mem _ e
theorem smin_le {l : List Str} : ∀ y ∈ l, sle (smin l) y := by
  cases l with
  | nil => intro y hy; simp at hy
  | cons x r =>
    intro y hy
    rcases List.mem_cons.mp hy with e | hy
    · rw [e]; exact (fold_min r x).2.1
    · exact (fold_min r x).2.2 y hy
theorem smin_of {l : List Str} {m : Str} (h : m ∈ l) (hm : ∀ y ∈ l, sle m y) : m = smin l :=
  sle_anti _ _ (hm _ (smin_mem (List.ne_nil_of_mem h))) (smin_le _ h)
theorem argBest_sle (val : Nat → Str) : ∀ k, argBest (fun i j => slt (val i) (val j)) k ≤ k ∧ ∀ j, j ≤ k → sle (val (argBest (fun i j => slt (val i) (val j)) k)) (val j)
  | 0 => ⟨Nat.le_refl _, fun j hj => by have : j = 0 := by omega
                                        subst this; exact slt_irrefl _⟩
  | k + 1 => by
    obtain ⟨h1, h2⟩ := argBest_sle val k
    simp only [argBest]
    by_cases hc : slt (val (k + 1)) (val (argBest (fun i j => slt (val i) (val j)) k)) = true
    · rw [if_pos hc]
      refine ⟨Nat.le_refl _, fun j hj => ?_⟩
      rcases Nat.lt_or_ge j (k + 1) with hlt | hge
      · exact sle_trans (slt_asymm hc) (h2 j (by omega))
      · have : j = k + 1 := by omega
        subst this; exact slt_irrefl _
    · rw [if_neg hc]
      have hc' : sle (val (argBest (fun i j => slt (val i) (val j)) k)) (val (k + 1)) := by unfold sle; simpa using hc
      refine ⟨by omega, fun j hj => ?_⟩
      rcases Nat.lt_or_ge j (k + 1) with hlt | hge
      · exact h2 j (by omega)
      · have : j = k + 1 := by omega
        subst this; exact hc'
theorem cmp_strs {prog : Program} {w : World} {A : Around} {P : Nat → Value → Prop} (val : Nat → Str) (hval : ∀ i v, P i v → ∃ t, v = .str (val i) t) :
    CmpOf prog w A .Lt P (fun i j => slt (val i) (val j)) := fun i j vi vj s Q E hi hj h => by
  obtain ⟨t, rfl⟩ := hval i vi hi
  obtain ⟨u, rfl⟩ := hval j vj hj
  refine PyProof.Rows.lt_str (x := val i) (y := val j) ?_
  rw [slt_dec]; exact h

section
variable {X : Cx}
/-- min(xs), a list of texts -/
def rMinS (K : PySem.W.Frag) : List V → Hp → VK → Prop := fun vs H Q => ∃ (a : Addr) (xs : List Str), vs = [V.ref a] ∧ SqL K H a (xs.map V.str) ∧ xs ≠ [] ∧ Q (.str (smin xs)) H
theorem cr_minS (hc : X.calm = true) : CallR X (.builtin "min") (rMinS X.K) := by
  intro pins s σ H vs us Q I r h
  obtain ⟨a, xs, rfl, hs, hne, q⟩ := h
  obtain ⟨its, rv, hl, _⟩ := I.list hs
  rw [Vals.ref1 r]
  have hlen := rv.length
  rw [List.length_map] at hlen
  have hpos : 0 < its.toArray.size := by
    rw [List.size_toArray, ← hlen]
    exact List.length_pos_iff.mpr hne
  have hval : ∀ (i : Nat) (v : Value), its.toArray[i]? = some v → ∃ t, v = Value.str (xs.getD i ⟨#[]⟩) t := fun i v hv => by
    have hv : its[i]? = some v := by simpa using hv
    have hlt : i < xs.length := by
      have := (List.getElem?_eq_some_iff.mp hv).1
      omega
    have hx : (xs.map V.str)[i]? = some (V.str xs[i]) := by simp [hlt]
    obtain ⟨u, hu, ru⟩ := rv.get hx
    rw [hv] at hu; cases hu
    obtain ⟨t, e⟩ := ru
    exact ⟨t, by rw [e, List.getD_eq_getElem?_getD, List.getElem?_eq_getElem hlt]; rfl⟩
  refine call_min_walk (wpAny_pyIter_list hl.isList ?_)
  have hlt : a < s.heap.objs.size := by obtain ⟨_, e, _⟩ := hl.isList; exact Heap.lt_size e
  refine ⟨_, _, _, _, _, _, _, rfl, Walks.list (A := X.A.in1) (I.ok.hd hc) s.heap.objs.size a (Nat.ne_of_lt hlt) its.toArray, ⟨⟨_, Heap.get?_push_size _ rfl, rfl, rfl⟩, hl.isList.push _⟩, fun b hb => ?_, hpos, cmp_strs (fun i => xs.getD i ⟨#[]⟩) hval, fun v h' tk hP hk => ?_⟩
  · show b < (s.heap.push _).objs.size
    rw [Heap.size_push]
    rcases List.mem_cons.mp hb with e | hb
    · rw [e]; exact Nat.lt_succ_self _
    · rw [List.mem_singleton.mp hb]; exact Nat.lt_succ_of_lt hlt
  · obtain ⟨t, rfl⟩ := hval _ v hP
    obtain ⟨b1, b2⟩ := argBest_sle (fun i => xs.getD i ⟨#[]⟩) (its.toArray.size - 1)
    have hsz : its.toArray.size = xs.length := by rw [List.size_toArray, ← hlen]
    have hmin : xs.getD (argBest (fun i j => slt (xs.getD i ⟨#[]⟩) (xs.getD j ⟨#[]⟩)) (its.toArray.size - 1)) ⟨#[]⟩ = smin xs := by
      refine smin_of ?_ fun y hy => ?_
      · have hb : argBest (fun i j => slt (xs.getD i ⟨#[]⟩) (xs.getD j ⟨#[]⟩)) (its.toArray.size - 1) < xs.length := by omega
        rw [List.getD_eq_getElem?_getD, List.getElem?_eq_getElem hb]
        exact List.getElem_mem hb
      · obtain ⟨i, hi, e⟩ := List.mem_iff_getElem.mp hy
        have e2 : xs.getD i ⟨#[]⟩ = y := by rw [List.getD_eq_getElem?_getD, List.getElem?_eq_getElem hi, ← e]; rfl
        rw [← e2]
        exact b2 i (by omega)
    refine ⟨.str (smin xs), H, I.kept (t' := tk) fun b u e => hk b u (fun hmem => ?_) (Heap.get?_push_of_some _ e), ⟨t, by rw [hmin]⟩, q⟩
    have e1 : b = s.heap.objs.size := List.mem_singleton.mp hmem
    have e2 := Heap.lt_size e
    rw [e1] at e2
    exact absurd e2 (Nat.lt_irrefl _)
/-- min(d), a dict with text keys -/
def rMinD : List V → Hp → VK → Prop := fun vs H Q => ∃ (a : Addr) (kvs : List (Key × V)) (xs : List Str), vs = [V.ref a] ∧ H a = some (.dK kvs) ∧ kvs.map (·.1) = xs.map Sum.inr ∧ xs ≠ [] ∧ Q (.str (smin xs)) H
theorem cr_minD (hc : X.calm = true) : CallR X (.builtin "min") rMinD := by
  intro pins s σ H vs us Q I r h
  obtain ⟨a, kvs, xs, rfl, ha, hv, hne, q⟩ := h
  rw [Vals.ref1 r]
  obtain ⟨_, hsys, vs, rel, dof⟩ := dk_of I.hok ha
  obtain ⟨ep, dat⟩ := dof.dictAt
  obtain ⟨ob, es, ho, hex, hdat, hko, hpr, hnd⟩ := id dat
  have hlt : a < s.heap.objs.size := Heap.lt_size ho
  have hkeys : vs.map (·.1) = xs.map Sum.inr := (KV.keys rel).symm.trans hv
  have hlv : vs.length = xs.length := by
    have e1 := congrArg List.length hkeys
    rw [List.length_map, List.length_map] at e1
    exact e1
  have hlen : 0 < vs.length := by
    rw [hlv]
    exact List.length_pos_iff.mpr hne
  have hval : ∀ (i : Nat) (v : Value), (∃ k x, vs[i]? = some (k, x) ∧ (mixKind X.prog X.w).is k v = true) → ∃ t, v = Value.str (xs.getD i ⟨#[]⟩) t := fun i v ⟨k, x, hk, hkey⟩ => by
    have e1 : (vs.map (·.1))[i]? = some k := by rw [List.getElem?_map, hk] <;> rfl
    rw [hkeys, List.getElem?_map] at e1
    obtain ⟨j, hj, e2⟩ := Option.map_eq_some_iff.mp e1
    subst e2
    have hi : Value.isStrOf j v = true := hkey
    obtain ⟨t, e3⟩ := Value.isStrOf_shape (x := j) (v := v) hi
    refine ⟨t, ?_⟩
    rw [e3, List.getD_eq_getElem?_getD, hj] <;> rfl
  refine call_min_walk (wpAny_pyIter_dict (knd := mixKind X.prog X.w) hsys dat ?_)
  refine ⟨_, _, _, _, _, _, _, rfl, Walks.dictKeys (knd := mixKind X.prog X.w) (A := X.A.in1) (I.ok.hd hc) s.heap.objs.size a (Nat.ne_of_lt hlt) vs ep,
    ⟨⟨_, Heap.get?_push_size _ rfl, rfl, rfl⟩, dat.keep fun b u e => Heap.get?_push_of_some _ e⟩, fun b hb => ?_, hlen, cmp_strs (fun i => xs.getD i ⟨#[]⟩) hval, fun v h' tk hP hk => ?_⟩
  · show b < (s.heap.push _).objs.size
    rw [Heap.size_push]
    rcases List.mem_cons.mp hb with e | hb
    · rw [e]
      exact Nat.lt_succ_self _
    · rw [List.mem_singleton.mp hb]
      exact Nat.lt_succ_of_lt hlt
  · obtain ⟨t, rfl⟩ := hval _ v hP
    obtain ⟨b1, b2⟩ := argBest_sle (fun i => xs.getD i ⟨#[]⟩) (vs.length - 1)
    have hmin : xs.getD (argBest (fun i j => slt (xs.getD i ⟨#[]⟩) (xs.getD j ⟨#[]⟩)) (vs.length - 1)) ⟨#[]⟩ = smin xs := by
      refine smin_of ?_ fun y hy => ?_
      · have hb : argBest (fun i j => slt (xs.getD i ⟨#[]⟩) (xs.getD j ⟨#[]⟩)) (vs.length - 1) < xs.length := by omega
        rw [List.getD_eq_getElem?_getD, List.getElem?_eq_getElem hb]
        exact List.getElem_mem hb
      · obtain ⟨i, hi, e⟩ := List.mem_iff_getElem.mp hy
        have e2 : xs.getD i ⟨#[]⟩ = y := by rw [List.getD_eq_getElem?_getD, List.getElem?_eq_getElem hi, ← e]; rfl
        rw [← e2]
        exact b2 i (by omega)
    refine ⟨.str (smin xs), H, I.kept (t' := tk) fun b u e => hk b u (fun hmem => ?_) (Heap.get?_push_of_some _ e), ⟨t, by rw [hmin]⟩, q⟩
    have e1 : b = s.heap.objs.size := List.mem_singleton.mp hmem
    have e2 := Heap.lt_size e
    rw [e1] at e2
    exact absurd e2 (Nat.lt_irrefl _)
end
end Yf
set_option Elab.async false
set_option linter.all false
set_option maxRecDepth 100000
set_option maxHeartbeats 4000000
/-! R2: pairs of texts: their order, sorted lists of them. -/
namespace Yf
open PySem PySem.Spec PyProof.Rows L2 SrtO

/-- a pair before another -/
def plt (p q : Str × Str) : Bool := if p.1 = q.1 then slt p.2 q.2 else slt p.1 q.1
theorem plt_true {p q : Str × Str} : plt p q = true ↔ slt p.1 q.1 = true ∨ (p.1 = q.1 ∧ slt p.2 q.2 = true) := by
  unfold plt
  by_cases e : p.1 = q.1
  · rw [if_pos e]
    constructor
    · exact fun h => .inr ⟨e, h⟩
    · rintro (h | ⟨_, h⟩)
      · rw [e, slt_irrefl] at h; cases h
      · exact h
  · rw [if_neg e]
    constructor
    · exact fun h => .inl h
    · rintro (h | ⟨h, _⟩)
      · exact h
      · exact absurd h e
theorem plt_asymm {p q : Str × Str} (h : plt p q = true) : plt q p = false := by
  cases e : plt q p with
  | false => rfl
  | true =>
    rw [plt_true] at h e
    rcases h with h | ⟨h1, h2⟩ <;> rcases e with e | ⟨e1, e2⟩
    · rw [slt_asymm h] at e; cases e
    · rw [e1, slt_irrefl] at h; cases h
    · rw [h1, slt_irrefl] at e; cases e
    · rw [slt_asymm h2] at e2; cases e2
theorem plt_cases (p q : Str × Str) : plt p q = true ∨ p = q ∨ plt q p = true := by
  rcases slt_cases p.1 q.1 with h | h | h
  · exact .inl (plt_true.mpr (.inl h))
  · rcases slt_cases p.2 q.2 with k | k | k
    · exact .inl (plt_true.mpr (.inr ⟨h, k⟩))
    · exact .inr (.inl (Prod.ext h k))
    · exact .inr (.inr (plt_true.mpr (.inr ⟨h.symm, k⟩)))
  · exact .inr (.inr (plt_true.mpr (.inl h)))
theorem plt_trans {p q r : Str × Str} (h1 : plt p q = true) (h2 : plt q r = true) : plt p r = true := by
  rw [plt_true] at *
  rcases h1 with h1 | ⟨h1, k1⟩ <;> rcases h2 with h2 | ⟨h2, k2⟩
  · exact .inl (slt_trans h1 h2)
  · exact .inl (h2 ▸ h1)
  · exact .inl (h1 ▸ h2)
  · exact .inr ⟨h1.trans h2, slt_trans k1 k2⟩
theorem plt_irrefl (p : Str × Str) : plt p p = false := by
  unfold plt
  rw [if_pos rfl, slt_irrefl]
def ple (p q : Str × Str) : Prop := plt q p = false
theorem ple_anti (p q : Str × Str) (h1 : ple p q) (h2 : ple q p) : p = q := by
  rcases plt_cases p q with h | h | h
  · rw [h2] at h; cases h
  · exact h
  · rw [h1] at h; cases h
theorem ple_trans {p q r : Str × Str} (h1 : ple p q) (h2 : ple q r) : ple p r := by
  unfold ple at *
  cases e : plt r p with
  | false => rfl
  | true =>
    rcases plt_cases p q with h | h | h
    · have := plt_trans e h; rw [h2] at this; cases this
    · subst h; rw [h2] at e; cases e
    · rw [h1] at h; cases h
/-- the pairs in order -/
def psort (l : List (Str × Str)) : List (Str × Str) := l.mergeSort fun a b => !plt b a
theorem psort_perm (l : List (Str × Str)) : (psort l).Perm l := List.mergeSort_perm l _
theorem psort_pw (l : List (Str × Str)) : (psort l).Pairwise ple := by
  have h := List.pairwise_mergeSort (le := fun a b : Str × Str => !plt b a) (fun a b c h1 h2 => by
    have h1 : ple a b := by simpa [ple] using h1
    have h2 : ple b c := by simpa [ple] using h2
    have := ple_trans h1 h2
    simpa [ple] using this) (fun a b => by
    rcases plt_cases a b with h | h | h
    · simp [plt_asymm h]
    · subst h; simp [plt_irrefl]
    · simp [plt_asymm h]) l
  exact h.imp fun {a b} h => by simpa [ple] using h
theorem psort_of {l ys : List (Str × Str)} (h1 : ys.Perm l) (h2 : ys.Pairwise ple) : ys = psort l := sorted_unique ple_anti (h1.trans (psort_perm l).symm) h2 (psort_pw l)
theorem mem_psort {l : List (Str × Str)} {x : Str × Str} : x ∈ psort l ↔ x ∈ l := (psort_perm l).mem_iff

/-! ### the machine -/
/-- a pair of texts in the heap -/
def IsPS (h : Heap) (v : Value) (k : Str × Str) : Prop := ∃ a o t u n, v = .ref a ∧ h.get? a = some o ∧ o.cls = .type "tuple" ∧ o.data = .seq #[.str k.1 t, .str k.2 u] n
theorem IsPS.keeps {h h' : Heap} {v : Value} {k : Str × Str} (p : IsPS h v k) (hk : ∀ b o, h.get? b = some o → o.cls = .type "tuple" → h'.get? b = some o) : IsPS h' v k := by
  obtain ⟨a, o, t, u, n, e, ho, hc, hd⟩ := p
  exact ⟨a, o, t, u, n, e, hk _ _ ho hc, hc, hd⟩
theorem swo_p (k : Value → Str × Str) : Swo fun v u => plt (k v) (k u) := by
  refine ⟨fun x y h => plt_asymm h, fun x y z h1 h2 => ?_⟩
  exact ple_trans (p := k x) (q := k y) (r := k z) h1 h2
section
variable {prog : Program} {w : World} {A : Around} {E : Value → Shared → Prop} {s : Shared}
theorem oneLt_strs (c : Bool) {a b : Str} {t u : Tok} {Q : Bool → Shared → Prop} (h : Q (decide (a.cps.toList < b.cps.toList)) s) : wpAny (model prog w) A (oneLt' c (.str a t) (.str b u)) Q E s := by
  cases c with
  | true => exact oneLt_str h
  | false => exact PySem.W.kat_one _ _ (PyProof.Rows.lt_str (Q := PySem.W.BoolBack Q) (show Q (decide (a.cps.toList < b.cps.toList)) s from h))
theorem ps_cmp {vs : List Value} {k : Value → Str × Str} (hp : ∀ v ∈ vs, IsPS s.heap v (k v)) : Cmp prog w A s (tuples' true) (fun p => p.1 ∈ vs) (lt2 fun v u => plt (k v) (k u)) := by
  intro p q hm hm'
  have h1 := hp _ hm
  have h2 := hp _ hm'
  show wpAny (model prog w) A (keyLt' (tuples' true) p.1 q.1) (fun r s' => s' = s ∧ r = plt (k p.1) (k q.1)) (fun _ _ => False) s
  unfold plt
  obtain ⟨a, o, t, u, n, e, ho, hc, hd⟩ := h1
  obtain ⟨a', o', t', u', n', e', ho', hc', hd'⟩ := h2
  generalize (k p.1).1 = x at hd ⊢
  generalize (k p.1).2 = y at hd ⊢
  generalize (k q.1).1 = x' at hd' ⊢
  generalize (k q.1).2 = y' at hd' ⊢
  rw [e, e']
  refine PySem.W.kat_lt ho hd ho' hd' ?_
  show PySem.W.KatLex prog w A true (decide (2 < 2)) _ [(.str x t, .str x' t'), (.str y u, .str y' u')] 0 s
  refine PySem.W.kat_cons (wpAny_eqBool_str ?_)
  refine PySem.W.kat_go (fun e1 => ?_) (fun e1 => ?_)
  · have ex : x = x' := by simpa using e1
    refine PySem.W.kat_yes (PySem.W.kat_cons (wpAny_eqBool_str ?_))
    refine PySem.W.kat_go (fun e2 => ?_) (fun e2 => ?_)
    · have ey : y = y' := by simpa using e2
      have e3 : (if x = x' then slt y y' else slt x x') = false := by rw [if_pos ex, ey, slt_irrefl]
      exact PySem.W.kat_yes (PySem.W.kat_nil ⟨rfl, e3.symm⟩)
    · have e3 : (if x = x' then slt y y' else slt x x') = slt y y' := if_pos ex
      refine PySem.W.kat_no (oneLt_strs _ ⟨rfl, ?_⟩)
      rw [e3, slt_dec]
  · have ex : ¬ x = x' := by simpa using e1
    have e3 : (if x = x' then slt y y' else slt x x') = slt x x' := if_neg ex
    refine PySem.W.kat_no (oneLt_strs _ ⟨rfl, ?_⟩)
    rw [e3, slt_dec]
theorem ps_firsts {h : Heap} {k : Value → Str × Str} : ∀ {vs : List Value}, (∀ v ∈ vs, IsPS h v (k v)) → ∃ fs : List Value, PySem.W.KatTups h vs fs ∧ fs.length = vs.length ∧ ∀ f ∈ fs, ∃ x t, f = Value.str x t
  | [], _ => ⟨[], PySem.W.KatTups.nil, rfl, fun _ hm => by simp at hm⟩
  | v :: vs, hp => by
    obtain ⟨fs, h1, h2, h3⟩ := ps_firsts (vs := vs) fun v' hm => hp v' (List.mem_cons_of_mem _ hm)
    obtain ⟨a, o, t, u, n, e, ho, hc, hd⟩ := hp v (List.mem_cons_self ..)
    generalize k v = kv at hd
    subst e
    refine ⟨.str kv.1 t :: fs, PySem.W.KatTups.cons ho hc hd rfl h1, by rw [List.length_cons, List.length_cons, h2], fun f hm => ?_⟩
    rcases List.mem_cons.mp hm with rfl | hm
    · exact ⟨kv.1, t, rfl⟩
    · exact h3 f hm
theorem ps_sortable {a : Addr} {vs : List Value} {k : Value → Str × Str} (h0 : 0 < vs.length) (hp : ∀ v ∈ vs, IsPS s.heap v (k v)) (ha : ∀ o, s.heap.get? a = some o → o.cls ≠ .type "tuple") : SortableO prog w A s a vs fun v u => plt (k v) (k u) := by
  intro h' keep
  have hp' : ∀ v ∈ vs, IsPS h' v (k v) := fun v hm => (hp v hm).keeps fun b o e c => keep b o (fun z => by subst z; exact ha o e c) e
  obtain ⟨fs, h1, h2, h3⟩ := ps_firsts hp'
  refine ⟨tuples' true, fun Q E hq => ?_, ps_cmp hp'⟩
  refine PySem.W.kat_kind (T := .type "str") h1 (by omega) (fun f hm => ?_) (by rfl) ?_
  · obtain ⟨x, t, rfl⟩ := h3 f hm
    exact PySem.W.Looks.now
  · have e : (Value.type "str" != Value.type "tuple") = true := by first | decide +kernel | rfl | decide
    rw [e]
    exact hq
theorem sorted_ps {l : Addr} {vs : List Value} {k : Value → Str × Str} {Q : Value → Shared → Prop} (hl : s.heap.IsList l vs.toArray) (hz : vs.length ≤ sizeLine) (hp : ∀ v ∈ vs, IsPS s.heap v (k v))
    (h : ∀ (h' : Heap) (d : Addr) (out : List Value), Srtd (fun v u => plt (k v) (k u)) out → out.Perm vs → (∀ b o, s.heap.get? b = some o → h'.get? b = some o) → s.heap.objs.size ≤ d → (∃ n, h'.get? d = some (seqObj "list" out.toArray n)) → Q (.ref d) { s with heap := h' }) :
    wpAny (model prog w) A (call (.builtin "sorted") [.ref l]) Q E s := by
  refine sorted_ord (swo_p k) hl hz (fun h2 h₁ a ha kk => ?_) fun out hs hb => ?_
  · refine ps_sortable (s := { s with heap := h₁ }) (by omega) (fun v hm => (hp v hm).keeps fun b o e _ => (kk b o e).2) fun o e => ?_
    have e' : some o = some (seqObj "list" vs.toArray 0) := e.symm.trans ha
    cases e'
    intro c
    exact absurd (Value.type.inj c) (by decide)
  · exact h _ _ out hs hb.perm (fun b o e => sortedAll_old e) (Nat.le_succ _) (sortedAll_at s.heap vs out.toArray)
end

/-! ### as a rule -/
/-- the pair that stands at a reference -/
def kOf (H : Hp) : V → Str × Str
  | .ref t => match H t with
    | some (.tup [.str a, .str b]) => (a, b)
    | _ => (⟨#[]⟩, ⟨#[]⟩)
  | _ => (⟨#[]⟩, ⟨#[]⟩)
/-- these are pairs of texts -/
def Pz (H : Hp) (xs : List V) (es : List (Str × Str)) : Prop := Paired (fun x (e : Str × Str) => ∃ t, x = V.ref t ∧ H t = some (.tup [.str e.1, .str e.2])) xs es
theorem Pz.kOf {H : Hp} : ∀ {xs : List V} {es : List (Str × Str)}, Pz H xs es → es = xs.map (Yf.kOf H) ∧ ∀ x ∈ xs, ∃ t, x = V.ref t ∧ H t = some (.tup [.str (Yf.kOf H x).1, .str (Yf.kOf H x).2])
  | _, _, .nil => ⟨rfl, fun x hx => by simp at hx⟩
  | x :: xs, e :: es, .cons ⟨t, h1, h2⟩ r => by
    obtain ⟨i1, i2⟩ := Pz.kOf (H := H) r
    have e0 : Yf.kOf H x = e := by
      rw [h1]
      show (match H t with | some (.tup [.str a, .str b]) => (a, b) | _ => _) = e
      rw [h2]
    refine ⟨by rw [List.map_cons, e0, ← i1], fun y hy => ?_⟩
    rcases List.mem_cons.mp hy with q | hy
    · rw [q, e0]; exact ⟨t, h1, h2⟩
    · exact i2 y hy
theorem Pz.of {H : Hp} : ∀ {xs : List V}, (∀ x ∈ xs, ∃ t, x = V.ref t ∧ H t = some (.tup [.str (Yf.kOf H x).1, .str (Yf.kOf H x).2])) → Pz H xs (xs.map (Yf.kOf H))
  | [], _ => .nil
  | x :: xs, h => .cons (h x List.mem_cons_self) (Pz.of fun y hy => h y (List.mem_cons_of_mem _ hy))
theorem Pz.length {H : Hp} {xs : List V} {es : List (Str × Str)} (h : Pz H xs es) : xs.length = es.length := Paired.length h
theorem Pz.mono {H H' : Hp} {xs : List V} {es : List (Str × Str)} (h : Pz H xs es) (k : ∀ t ys, H t = some (.tup ys) → H' t = some (.tup ys)) : Pz H' xs es := Paired.mapP h fun _ _ ⟨t, e, q⟩ => ⟨t, e, k _ _ q⟩
/-- sorted(xs), a list of pairs of texts -/
def rSortedPS (K : PySem.W.Frag) : List V → Hp → VK → Prop := fun vs H Q => ∃ (a : Addr) (xs : List V) (es : List (Str × Str)), vs = [V.ref a] ∧ SqL K H a xs ∧ Pz H xs es ∧
  ∀ ys p, ys.Perm xs → Pz H ys (psort es) → H p = none → Q (.ref p) (upd H p (.lst ys))
section
variable {X : Cx}
theorem cr_sortedPS : CallR X (.builtin "sorted") (rSortedPS X.K) := by
  intro pins s σ H vs us Q I r h
  obtain ⟨a, xs, es, rfl, hs, hx, q⟩ := h
  obtain ⟨ees, hx⟩ := hx.kOf
  obtain ⟨its, rv, hl, hz⟩ := I.list hs
  obtain ⟨u, rfl, ru⟩ := vals1 r
  obtain rfl : u = Value.ref a := ru
  obtain ⟨e1, e2⟩ := refs_back rv fun x m => by
    obtain ⟨t, e, _⟩ := hx x m
    exact ⟨t, e⟩
  refine sorted_ps (k := fun u => kOf H (backV u)) hl.isList (by rw [← rv.length]; exact hz) (fun v hv => ?_) fun h' d out h1 h2 kp hd hn => ?_
  · obtain ⟨t, rfl⟩ := e2 v hv
    have hm : V.ref t ∈ xs := by rw [e1]; exact List.mem_map.mpr ⟨_, hv, rfl⟩
    obtain ⟨t', e, ht⟩ := hx _ hm
    cases e
    obtain ⟨_, its2, r2, o, ho, hc, n, hd⟩ := I.hok _ _ ht
    obtain ⟨u1, u2, rfl, ri, rj⟩ := vals2 r2
    obtain ⟨t1, rfl⟩ := ri
    obtain ⟨t2, rfl⟩ := rj
    exact ⟨t, o, t1, t2, n, rfl, ho, hc, hd⟩
  · have h3 : ∀ u ∈ out, ∃ a, u = Value.ref a := fun u hu => e2 u (h2.mem_iff.mp hu)
    obtain ⟨n, hn⟩ := hn
    have hb : (out.map backV).Perm xs := by rw [e1]; exact h2.map backV
    have hp : (out.map backV).map (kOf H) = psort es := by
      refine psort_of ?_ ?_
      · rw [ees]; exact hb.map _
      · rw [List.map_map, List.pairwise_map]
        exact h1.imp fun {a b} z => z
    refine ⟨.ref d, upd H d (.lst (out.map backV)), I.laid (t' := s.toks) kp hd ⟨?_, out, n, vals_back h3, hn⟩, rfl, q _ d hb ?_ (I.hok.fresh hd)⟩
    · rw [hb.length_eq]; exact hz
    · rw [← hp]
      exact Pz.of fun x hm => hx x (hb.mem_iff.mp hm)
end
end Yf
set_option Elab.async false
set_option linter.all false
set_option maxRecDepth 100000
set_option maxHeartbeats 4000000
/-! R3: more rules: in a tuple, enumerate(tuple), text * int. -/
namespace Yf
open PySem PySem.Spec PyProof.Rows L2

/-! ### x in t, t a tuple, at any depth -/
section
variable {X : Cx}
def rInT (K : PySem.W.Frag) : R2 := fun x y H Q => ∃ d ds, Dp K H x d ∧ Dp K H y (.tuple ds) ∧ SeqAt.shaped d = true ∧ SeqAt.shaped (.tuple ds) = true ∧ Q (.bl (ds.any fun z => PyData.eqv z d)) H
theorem op_inT (hu : X.A.units + 65 < cLine) : OpR X (compareOp .In) (rInT X.K) := by
  intro pins s σ H x y v u Q I rx ry h
  obtain ⟨d, ds, hd, he, sd, se, q⟩ := h
  obtain ⟨as, r1⟩ := Dp.reads I d x v hd rx
  obtain ⟨bs, r2⟩ := Dp.reads I (.tuple ds) y u he ry
  exact SeqAt.in_tuple_reads r2 r1 (SeqAt.canLay_of_shaped se) (SeqAt.canLay_of_shaped sd) (room_in_shaped sd hu) ⟨.bl _, H, I, rfl, q⟩
end

/-! ### enumerate(t), t a tuple -/
section
open AutoSeq1 (wpAny_loadPart')
theorem meets_enum_newT (l : Addr) (items : Array Value) (n : Nat) (dct : Option Addr) (sl : Array (Option Value)) :
    Meets (Builtin.«enumerate.__new__» ⟨[.type "enumerate", .ref l], []⟩) (fun _ R s => s.heap.get? l = some { cls := .type "tuple", dict := dct, data := .seq items n, slots := sl } ∧
      R (.ok (.ret (.ref (s.heap.push { cls := .type "tuple_iterator", data := .fields #[.ref l, .int 0 0] }).objs.size)))
        { s with heap := (s.heap.push { cls := .type "tuple_iterator", data := .fields #[.ref l, .int 0 0] }).push { cls := .type "enumerate", data := .fields #[.none, .bool false, .ref s.heap.objs.size, rawInt 0, .none, .none] } }) :=
  .of_wp fun prog w A R s h => by
    obtain ⟨hp, g, d, tk, os⟩ := s; obtain ⟨hl, h⟩ := h
    have hsub := sub_enumerate
    have hL : Heap.IsTuple (Shared.heap ⟨hp, g, d, tk, os⟩) l items := ⟨_, hl, rfl, n, rfl⟩
    wp_walk using wpAny_loadPart' hl
    refine wpAny_stack_any fun st => wpAny_pure ?_
    split
    · rename_i c _ _ _ _ _
      cases (c == Value.type "enumerate")
      · wp_walk using wpAny_loadPart' hl, wpAny_pyIter_tuple hL
        exact ⟨_, rfl, h⟩
      · wp_walk using wpAny_loadPart' hl, wpAny_pyIter_tuple hL
        exact ⟨_, rfl, h⟩
    · wp_walk using wpAny_loadPart' hl, wpAny_pyIter_tuple hL
      exact ⟨_, rfl, h⟩
variable {prog : Program} {w : World} {A : Around} {E : Value → Shared → Prop} {s : Shared}
theorem call_enum_tuple {l : Addr} {items : Array Value} {Q : Value → Shared → Prop} (hL : s.heap.IsTuple l items)
    (h : ∀ h', IsEnum h' (s.heap.objs.size + 1) s.heap.objs.size 0 .none → IsTupIter h' s.heap.objs.size l 0 → h'.objs.size = s.heap.objs.size + 2 →
      (∀ b o, s.heap.get? b = some o → h'.get? b = some o) → Q (.ref (s.heap.objs.size + 1)) { s with heap := h' }) :
    wpAny (model prog w) A (call (.type "enumerate") [.ref l]) Q E s := by
  obtain ⟨⟨c, dct, dt, sl⟩, hl, hc, n, hd⟩ := hL
  replace hc : c = .type "tuple" := hc
  replace hd : dt = .seq items n := hd
  subst hc hd
  refine callType_new F.called_enumerate (by decide) (F.typeCall_enumerate_1 _) (F.newCall_enumerate_1 _) (fun obj => F.args_object_init_2 obj _) F.entry_enumerate_new
    (meets_enum_newT l items n dct sl) ⟨hl, ?_⟩
  have hz : (s.heap.push { cls := .type "tuple_iterator", data := .fields #[.ref l, .int 0 0] }).objs.size = s.heap.objs.size + 1 := Heap.size_push ..
  show _ ∧ _
  rw [hz]
  have he : IsEnum ((s.heap.push { cls := .type "tuple_iterator", data := .fields #[.ref l, .int 0 0] }).push
      { cls := .type "enumerate", data := .fields #[.none, .bool false, .ref s.heap.objs.size, rawInt 0, .none, .none] }) (s.heap.objs.size + 1) s.heap.objs.size 0 .none := by
    have := Heap.get?_push_size (s.heap.push { cls := .type "tuple_iterator", data := .fields #[.ref l, .int 0 0] })
      (o := { cls := .type "enumerate", data := .fields #[.none, .bool false, .ref s.heap.objs.size, rawInt 0, .none, .none] }) rfl
    rw [hz] at this; exact this
  refine ⟨⟨_, he, rfl⟩, h _ he ⟨_, Heap.get?_push_of_some _ (Heap.get?_push_size _ rfl), rfl, rfl⟩ (by rw [Heap.size_push, hz]) fun b o x => Heap.get?_push_of_some _ (Heap.get?_push_of_some _ x)⟩
/-- a tuple's iterator, drawn -/
theorem draws_tuple {it t : Addr} {items : Array Value} (hh : A.handled = none) (hne : t ≠ it) : Draws prog w A it [it, t] items.size (fun i v => items[i]? = some v) (fun i h => IsTupIter h it t i ∧ IsTup h t items) where
  live := fun i h st => let ⟨⟨o, ho, _⟩, _⟩ := st; ⟨o, ho⟩
  frame := fun i h h' st k => by
    obtain ⟨⟨o, ho, r⟩, o2, ho2, r2⟩ := st
    exact ⟨⟨o, k it (by simp) o ho, r⟩, o2, k t (by simp) o2 ho2, r2⟩
  item := fun i s Q E hi st hQ => by
    unfold Builtin.SmallTypes.nextOf
    refine wpAny_bind (special_tup_item st.1 st.2 (x := items[i]) (by simp [hi]) fun h' hit' hs' => wpAny_pure ?_)
    exact hQ _ h' s.toks (by simp [hi]) ⟨hit', st.2.extBut hs'.extBut hne⟩ hs'
  done := fun s Q E st hE => by
    unfold Builtin.SmallTypes.nextOf
    refine wpAny_bind (special_tup_end hh st.1 st.2 (by simp) fun e h' hx hk => ?_)
    obtain ⟨a, o, vs, rfl, ho, hc, _⟩ := hx
    exact hE h' a hk ⟨o, ho, hc⟩
end

section
/-- the tuple at a, each item in a new pair -/
def IteT (K : PySem.W.Frag) (a : Addr) : It :=
  ⟨fun i H => ∃ (xs : List V) (x : V), SqT K H a xs ∧ xs[i]? = some x, fun i H v H' => ∃ T x, v = .ref T ∧ H T = none ∧ H' = upd H T (.tup [.int (i : Nat), x]) ∧ ∀ xs, SqT K H a xs → xs[i]? = some x, fun i H => ∃ xs : List V, SqT K H a xs ∧ xs.length = i⟩
theorem turn_enumT {P : Program} {w : World} {K : PySem.W.Frag} {elts : List Expr} {kk : Nat} {tpos : Pos} (a e it : Addr) (hai : a ≠ it) (hae : e ≠ a) :
    Turn P w K (.Tuple elts kk tpos) (IteT K a) [e, it] e (fun i h => (∃ old, IsEnum h e it ((i : Nat) : Int) old) ∧ IsTupIter h it a i ∧ e ≠ it) where
  mem := by simp
  obj := fun i h st b hb => by
    obtain ⟨⟨old, he⟩, ⟨o, ho, hc, hd⟩, _⟩ := st
    have e' : b = e ∨ b = it := by simpa using hb
    rcases e' with z | z
    · rw [z]; exact ⟨_, he, fun v q => nomatch q⟩
    · rw [z]; exact ⟨o, ho, fun v q => by rw [hd] at q; cases q⟩
  keep := fun i h h' st k => by
    obtain ⟨⟨old, he⟩, ⟨o, ho, r⟩, hne⟩ := st
    exact ⟨⟨old, k e (by simp) _ he⟩, ⟨o, k it (by simp) o ho, r⟩, hne⟩
  item := by
    intro X hP hw hK hc i pins s σ H E I hf st hg
    subst hP hw hK
    obtain ⟨⟨old, he⟩, hit, hne⟩ := st
    obtain ⟨xs, x, hq, hx⟩ := hg
    obtain ⟨its, rv, p, hz⟩ := I.tuple hq
    obtain ⟨u, hu, ru⟩ := rv.get hx
    have hel : e < s.heap.objs.size := Heap.lt_size he
    have hil : it < s.heap.objs.size := by obtain ⟨_, q, _⟩ := hit; exact Heap.lt_size q
    have hlen : i < its.toArray.size := by
      have := (List.getElem?_eq_some_iff.mp hu).1
      simpa using this
    refine wpAny_pyNext_enum_itemD (draws_tuple (items := its.toArray) (by exact I.ok.hd hc) hai) he ⟨hit, p⟩ hlen hne (by simp [hne, hae]) fun v h' tk hPv ho hst' hT hsz hk => ?_
    have hv : v = u := by
      have : its.toArray[i]? = some u := by simpa using hu
      rw [this] at hPv; cases hPv; rfl
    subst hv
    refine ⟨_, rfl, wpAny_letOwnedTupleGo_enum (s := { s with heap := h', toks := tk + 1 }) ho fun h'' he' sb => ?_⟩
    have hT2 : h''.get? s.heap.objs.size = some { cls := .type "tuple", data := .seq #[.int i tk, v] } := (sb.2 _ (Nat.ne_of_gt hel)).trans hT
    have new : ObjOk X.prog X.w (upd H s.heap.objs.size (.tup [.int (i : Nat), x])) h'' s.heap.objs.size (.tup [.int (i : Nat), x]) :=
      ⟨by show 2 ≤ sizeLine; decide, [.int i tk, v], .cons ⟨_, rfl⟩ (.cons ru .nil), ⟨_, hT2, rfl, _, rfl⟩⟩
    have I1 : Inv X pins σ (upd H s.heap.objs.size (.tup [.int (i : Nat), x])) { s with heap := h'', toks := tk + 1 } :=
      I.turnedNew (ch := [e, it]) (fun b ob hb q => (sb.2 b (fun z => hb (by simp [z]))).trans (hk b ob (fun z => hb (by simp [z])) (fun z => hb (by simp [z])) q)) hf (Nat.le_refl _) new
    obtain ⟨⟨o3, ho3, r3⟩, _⟩ := hst'
    refine ⟨.ref s.heap.objs.size, _, I1, rfl, ⟨_, x, rfl, I.hok.fresh (Nat.le_refl _), rfl, fun ys hy => by rw [I.tuple_inj hy hq]; exact hx⟩, ⟨⟨v, ?_⟩, ⟨o3, (sb.2 it (Ne.symm hne)).trans ho3, r3⟩, hne⟩, fun b hb => ?_⟩
    · have e1 : ((i + 1 : Nat) : Int) = (i : Int) + 1 := by omega
      rw [e1]; exact he'
    · have hb' : b < s.heap.objs.size := by
        have e' : b = e ∨ b = it := by simpa using hb
        rcases e' with z | z
        · rw [z]; exact hel
        · rw [z]; exact hil
      rw [upd_ne (Nat.ne_of_lt hb')]
      exact (hf b hb).1
  done := by
    intro X hP hw hK hc i pins s σ H E I hf st hg
    subst hP hw hK
    obtain ⟨⟨old, he⟩, hit, hne⟩ := st
    obtain ⟨xs, hq, hx⟩ := hg
    obtain ⟨its, rv, p, hz⟩ := I.tuple hq
    obtain ⟨f0, f1, f2, f3, f4, f5⟩ := hf it (by simp)
    have hl := rv.length
    have hsz : its.toArray.size = i := by rw [List.size_toArray, ← hl]; exact hx
    refine wpAny_pyNext_enum_endD (draws_tuple (items := its.toArray) (by exact I.ok.hd hc) hai) he ⟨hsz.symm ▸ hit, p⟩ fun h' eb => ⟨rfl, I.turned (t' := s.toks) (fun b o hb q => eb b o hb q) f0 f1 f3 f4 f5⟩
  self := fun A i s Q E st h => let ⟨⟨_, he⟩, _⟩ := st; wpAny_pyIter_enum he h
def iEnumT (K : PySem.W.Frag) (ta : TA) : TI := fun σ H R => ta σ H fun vs H1 => ∃ a xs, vs = [.ref a] ∧ SqT K H1 a xs ∧ R (IteT K a) H1
theorem pi_enumT {X : Cx} {e : Expr} {ta : TA} {p pos tpos : Pos} {elts : List Expr} {kk : Nat} (hg : Gl X "enumerate") (hm : X.mg "enumerate" = none) (ha : PA X [e] ta) (hs : starEach [e] X.env = [(false, eval e X.env)] := by rfl) :
    PI X (.Tuple elts kk tpos) (.Call (.Name "enumerate" p) [e] [] pos) (iEnumT X.K ta) := by
  refine ⟨fun pins s σ H R I h => ?_⟩
  refine Call_ (ld_blt I hg hm boot_enumerate (PyProof.Rows.callWith_type1 (thn (ha.run pos pins s σ H _ I h) fun us s1 ⟨vs, H1, I1, r1, q1⟩ => ?_) hs rfl))
  obtain ⟨a, xs, ex, hq, q⟩ := q1
  subst ex
  cases r1 with
  | cons r rr =>
    cases rr
    cases r
    obtain ⟨its, rv, p', hz⟩ := I1.tuple hq
    have hlt : a < s1.heap.objs.size := by obtain ⟨_, e, _⟩ := p'; exact Heap.lt_size e
    refine call_enum_tuple p' fun h' he hit hsz hk => wpAny_pyIter_enum he ?_
    have I2 : Inv X pins σ H1 { s1 with heap := h' } := I1.kept (t' := s1.toks) hk
    refine ⟨s1.heap.objs.size + 1, [s1.heap.objs.size + 1, s1.heap.objs.size], _, _, H1, rfl, I2, turn_enumT a (s1.heap.objs.size + 1) s1.heap.objs.size (Nat.ne_of_lt hlt) (Nat.ne_of_gt (Nat.lt_succ_of_lt hlt)), ⟨⟨.none, he⟩, hit, Nat.succ_ne_self _⟩, fun b hb => ?_, q⟩
    have e' : b = s1.heap.objs.size + 1 ∨ b = s1.heap.objs.size := by simpa using hb
    have hle : s1.heap.objs.size ≤ b := by
      rcases e' with z | z
      · rw [z]; exact Nat.le_add_right _ _
      · rw [z]; exact Nat.le_refl _
    exact I1.fpOk hle (I1.hok.fresh hle)
end

/-! ### text * int -/
section
variable {X : Cx}
theorem op_mul_str : OpR X (binaryOp .Mult) (fun x y H Q => ∃ (c : Nat), x = .str ⟨#[c]⟩ ∧ y = .int 8 ∧ Q (.str ⟨#[c, c, c, c, c, c, c, c]⟩) H) := by
  intro pins s σ H x y v u Q I rx ry h
  obtain ⟨c, rfl, rfl, q⟩ := h
  obtain ⟨t, rfl⟩ := rx
  obtain ⟨t', rfl⟩ := ry
  have hlen : (⟨#[c]⟩ : Str).length = 1 := rfl
  refine PySem.P.mul_str (by decide) (fun _ _ => by rw [hlen]; decide) (fun _ _ => by rw [hlen]; decide) ?_
  rw [if_neg (by decide), if_neg (by rw [hlen]; decide)]
  have e : (⟨(List.replicate (8 : Int).toNat (⟨#[c]⟩ : Str).cps).foldl (· ++ ·) #[]⟩ : Str) = ⟨#[c, c, c, c, c, c, c, c]⟩ := rfl
  rw [e]
  exact ⟨by rw [show (⟨#[c, c, c, c, c, c, c, c]⟩ : Str).length = 8 from rfl]; decide, .str _, H, I.tok _, ⟨_, rfl⟩, q⟩
end
end Yf
set_option Elab.async false
set_option linter.all false
set_option maxRecDepth 100000
set_option maxHeartbeats 4000000
/-! R4: tuple(d). -/
namespace Yf
open PySem PySem.Spec PyProof.Rows L2
section
variable {prog : Program} {w : World} {A : Around} {E : Value → Shared → Prop} {s : Shared} {T : String} {r d : Addr} {n : Nat} {P : Nat → Value → Prop} {OK : Heap → Prop}
theorem collect_src {Q : List Value → Shared → Prop} (K : PySem.W.KdlSrc prog w T r d n P OK) (hh : A.handled = none) (hok : OK s.heap) (hn : n ≤ sizeLine)
    (hQ : ∀ (h' : Heap) (tk : Nat) (acc : Array Value), (∀ b o, s.heap.get? b = some o → h'.get? b = some o) → ItemsOf P acc n → Q acc.toList { s with heap := h', toks := tk }) :
    wpAny (model prog w) A (collect (.ref r)) Q E s := by
  unfold collect
  refine wpAny_bind (wpAny_runValue (codeAny_builtin PySem.F.entry_proto_collect ?_))
  rw [Around.under_plainId PySem.F.plain_proto_collect _]
  show wpAny _ A.in1 (newList [] >>= fun l => again (.builtin "list.__iadd__" ⟨[l, .ref r], []⟩)) _ _ s
  refine wpAny_bind (wpAny_newObj_type ?_)
  refine wpAny_pure ⟨plainId_quiet PySem.F.plain_list_iadd _, codeAny_builtin PySem.F.entry_list_iadd ?_⟩
  rw [Around.under_plainId PySem.F.plain_list_iadd _]
  show wpAny _ A.in1 (Builtin.List.listExtendWith (.ref s.heap.objs.size) (.ref r) (.ref s.heap.objs.size)) _ _ _
  have hS : (s.heap.push { cls := .type "list", data := .seq ([] : List Value).toArray }).get? s.heap.objs.size = some { cls := .type "list", data := .seq #[] 0 } := Heap.get?_push_size _ rfl
  have hlt := K.there _ hok
  refine wpAny_mono (PySem.W.kdl_extend (A := A) (R := fun rr s' => rr = .ok (.ret (.ref s.heap.objs.size)) ∧ ∃ (h' : Heap) (tk : Nat) (acc : Array Value) (c' : Nat), s' = { s with heap := h', toks := tk } ∧
      (∀ b o, s.heap.get? b = some o → h'.get? b = some o) ∧ h'.get? s.heap.objs.size = some { cls := .type "list", dict := none, data := .seq acc c', slots := #[] } ∧ ItemsOf P acc n)
    (s := { s with heap := s.heap.push { cls := .type "list", data := .seq ([] : List Value).toArray } }) K hh (K.keep _ _ hok fun b _ o e => Heap.get?_push_of_some _ e) s.heap.objs.size (Nat.ne_of_gt hlt.1) (Nat.ne_of_gt hlt.2) _ 0 hS
    (fun h' tk acc c' hk e hi => ⟨rfl, h', tk, acc, c', rfl, fun b o q => hk b o (Nat.ne_of_lt (Heap.lt_size q)) (Heap.get?_push_of_some _ q), e, hi⟩) hn) (fun fin s' h => ?_) (fun e s' h => ?_)
  · cases fin with
    | done f =>
      obtain ⟨e, h', tk, acc, c', rfl, hk, hS', hi⟩ := h
      cases e
      show wpAny _ A (load s.heap.objs.size >>= _) _ _ _
      exact wpAny_bind (wpAny_load hS' (wpAny_pure (hQ h' tk acc hk hi)))
    | again c' =>
      refine ⟨h.1, codeAny_mono h.2 fun rr s'' hr' => ?_⟩
      obtain ⟨rfl, h', tk, acc, c', rfl, hk, hS', hi⟩ := hr'
      show wpAny _ A (load s.heap.objs.size >>= _) _ _ _
      exact wpAny_bind (wpAny_load hS' (wpAny_pure (hQ h' tk acc hk hi)))
  · exact absurd h.1 (by simp)
theorem code_tuple_src {Q₁ : Value → Shared → Prop} (K : PySem.W.KdlSrc prog w T r d n P OK) (hh : A.handled = none) (hok : OK s.heap) (hn : n ≤ sizeLine)
    (h : ∀ (h' : Heap) (tk : Nat) (acc : Array Value), (∀ b o, s.heap.get? b = some o → h'.get? b = some o) → ItemsOf P acc n →
      Q₁ (.ref h'.objs.size) { s with heap := h'.push { cls := .type "tuple", data := .seq acc }, toks := tk }) :
    codeAny (model prog w) A (.call (.builtin "tuple.__new__") ⟨[.type "tuple", .ref r], []⟩) (wants Q₁ E) s := by
  refine codeAny_of_tree ?_
  show wpAny _ A.in1 (do checkBuiltinCall "tuple.__new__" ⟨[.type "tuple", .ref r], []⟩; again (.builtin "tuple.__new__" ⟨[.type "tuple", .ref r], []⟩)) _ _ s
  refine wpAny_bind (wpAny_of_eq (F.newCall_tuple_1 _) (wpAny_pure ⟨plainId_quiet F.plain_tuple_new _, codeAny_builtin F.entry_tuple_new ?_⟩))
  rw [Around.under_plainId F.plain_tuple_new _]
  have hsub := sub_tuple_self
  have hinit := init_tuple_lookup
  have hmh := madeHere_tuple
  have hTI : s.TypeIs (.ref r) T := K.type s hok
  have hh1 : A.in1.handled = none := hh
  wp_walk using wpAny_typeOf hTI, collect_src (A := A.in1) K hh1 hok hn
  rw [if_neg (by rw [K.notTuple]; exact Bool.false_ne_true)]
  refine wpAny_bind (collect_src (A := A.in1) K hh1 hok hn fun h' tk acc hk hacc => ?_)
  refine wpAny_bind (wpAny_pure ?_)
  show wpAny _ _ (Builtin.Tuple.tupleExact acc.toList.toArray >>= fun v => ret v) _ _ _
  unfold Builtin.Tuple.tupleExact
  refine wpAny_bind (wpAny_newObj_type ?_ (by show acc.toList.toArray.size ≤ sizeLine; simp only [Array.toArray_toList]; rw [hacc.1]; exact hn))
  refine wpAny_pure ?_
  have e : acc.toList.toArray = acc := by simp
  rw [e]
  exact h h' tk acc hk hacc
theorem call_tuple_src {Q : Value → Shared → Prop} (K : PySem.W.KdlSrc prog w T r d n P OK) (hh : A.handled = none) (hok : OK s.heap) (hn : n ≤ sizeLine)
    (hQ : ∀ (h' : Heap) (tk : Nat) (acc : Array Value), (∀ b o, s.heap.get? b = some o → h'.get? b = some o) → ItemsOf P acc n →
      Q (.ref h'.objs.size) { s with heap := h'.push { cls := .type "tuple", data := .seq acc }, toks := tk }) :
    wpAny (model prog w) A (call (.type "tuple") [.ref r]) Q E s := by
  refine callType_codes (Q₁ := fun obj s₁ => s₁.TypeIs obj "tuple" ∧ Q obj s₁) F.called_tuple (F.typeCall_tuple_1 _) F.entry_object_init
    (code_tuple_src (A := A.in1) K hh hok hn fun h' tk acc hk hacc => ⟨⟨_, Heap.get?_push_size _ rfl, rfl⟩, hQ h' tk acc hk hacc⟩) fun obj s₁ h₁ => ?_
  exact ⟨h₁.1, F.args_object_init_2 obj _, object_init_meets F.called_tuple.init.lookup F.called_tuple.made (by decide) prog w A.in1 _ s₁ ⟨h₁.1, rfl, h₁.2⟩⟩
end
/-- tuple(d) -/
def rTupD : List V → Hp → VK → Prop := fun xs H Q => ∃ p kvs, xs = [.ref p] ∧ H p = some (.dK kvs) ∧ ∀ q, H q = none → Q (.ref q) (upd H q (.tup (kvs.map fun kv => kV kv.1)))
theorem call_tuple_dK {X : Cx} (hc : X.calm = true) : CallR X (.type "tuple") rTupD := by
  intro pins s σ H xs us Q I r h
  obtain ⟨p, kvs, e, hk, q⟩ := h
  subst e
  obtain ⟨u, eu, rx⟩ := vals1 r
  subst eu
  obtain rfl : u = Value.ref p := rx
  obtain ⟨z, lo, vs, rk, hd⟩ := (show ObjOk X.prog X.w H s.heap p (.dK kvs) from I.hok p _ hk)
  obtain ⟨ep, hat⟩ := hd.dictAt
  have hl : kvs.length = vs.length := Paired.length rk
  refine call_tuple_src (PySem.W.kdl_dict (knd := mixKind X.prog X.w) (kvs := vs) (ep := ep) lo) (I.ok.hd hc) hat (by rw [← hl]; exact z) fun h' tk acc' hkeep hacc => ?_
  have I1 : Inv X pins σ H { s with heap := h', toks := tk } := I.kept hkeep
  refine ⟨.ref h'.objs.size, upd H h'.objs.size (.tup (kvs.map fun kv => kV kv.1)), I1.laid (t' := tk) (fun b o e => Heap.get?_push_of_some _ e) (Nat.le_refl _) (show ObjOk X.prog X.w _ _ _ (.tup (kvs.map fun kv => kV kv.1)) from ⟨?_, acc'.toList, ?_, ?_⟩), rfl, q _ (I1.hok.fresh (Nat.le_refl _))⟩
  · rw [List.length_map]; exact z
  · have el : acc'.toList.length = acc'.size := by simp
    refine vals_of_at (by rw [List.length_map, el, hacc.1, hl]) fun j x w h1 h2 => ?_
    obtain ⟨k, y, hky, hi⟩ := hacc.2 j w (by rw [← Array.getElem?_toList]; exact h2)
    have e1 : (kvs.map (·.1))[j]? = some k := by
      rw [KV.keys rk, List.getElem?_map, hky] <;> rfl
    have e2 : (kvs.map fun kv => kV kv.1)[j]? = some (kV k) := by
      have e3 : (kvs.map fun kv => kV kv.1) = (kvs.map (·.1)).map kV := by rw [List.map_map] <;> rfl
      rw [e3, List.getElem?_map, e1] <;> rfl
    rw [e2] at h1
    cases h1
    exact keyIs_rel hi
  · rw [Array.toArray_toList]; exact IsTup.new _ _
end Yf
set_option Elab.async false
set_option linter.all false
set_option maxRecDepth 100000
set_option maxHeartbeats 4000000
/-! R5: dicts of unlike length compared; a slice with a step. -/
namespace Yf
open PySem PySem.Spec PyProof.Rows L2
section
variable {X : Cx}
def rEqDL : R2 := fun x y H Q => ∃ a b ks ls, x = .ref a ∧ y = .ref b ∧ H a = some (.dK ks) ∧ H b = some (.dK ls) ∧ ks.length ≠ ls.length ∧ Q (.bl false) H
theorem op_eq_dictL (hu : X.A.units < cLine) : OpR X (compareOp .Eq) rEqDL := by
  intro pins s σ H x y v u Q I rx ry h
  obtain ⟨a, b, ks, ls, rfl, rfl, ea, eb, hlen, q⟩ := h
  obtain rfl : v = Value.ref a := rx
  obtain rfl : u = Value.ref b := ry
  obtain ⟨_, ya, va, ra, da⟩ := (show ObjOk X.prog X.w H s.heap a (.dK ks) from I.hok a _ ea)
  obtain ⟨_, yb, vb, rb, db⟩ := (show ObjOk X.prog X.w H s.heap b (.dK ls) from I.hok b _ eb)
  have hl : va.length ≠ vb.length := by rw [← ra.length, ← rb.length]; exact hlen
  exact PySem.W.keq_eq (knd := mixKind X.prog X.w) (r := true) ya yb da db hu (fun e => absurd (by simpa using e) hl) (fin_bl I q (by simp [hl]))
theorem vals_pick {xs : List V} {us : List Value} (r : Vals xs us) : ∀ is : List Nat, Vals (is.filterMap (xs[·]?)) (is.filterMap (us[·]?))
  | [] => .nil
  | i :: is => by
    have ih := vals_pick r is
    cases e : xs[i]? with
    | none =>
      have e2 := r.none_of e
      rw [List.filterMap_cons, List.filterMap_cons, e, e2]
      exact ih
    | some x =>
      obtain ⟨u, e2, ru⟩ := r.get e
      rw [List.filterMap_cons, List.filterMap_cons, e, e2]
      exact .cons ru ih
def tBack (K : PySem.W.Frag) (te : TE) : TE := fun σ H Q => te σ H fun x H1 => ∃ a xs, x = .ref a ∧ SqL K H1 a xs ∧ ∀ p ys, ys.length ≤ xs.length → H1 p = none → Q (.ref p) (upd H1 p (.lst ys))
/-- xs[-2::-1]: some list, no longer -/
theorem pe_back {e : Expr} {te : TE} {k k' : Nat} {p1 p2 p3 p4 p5 pos : Pos} (he : PE X e te) : PE X (.Subscript e (.Slice (some (.UnaryOp .USub (.Constant (.int 2) k' p4) p5)) none (some (.UnaryOp .USub (.Constant (.int 1) k p1) p2)) p3) pos) (tBack X.K te) := by
  refine ⟨fun pins s σ H Q I h => ?_⟩
  refine Subscript_ (thn (he.run pins s σ H _ I h) fun v s1 ⟨x, H1, I1, r1, q1⟩ => ?_)
  obtain ⟨a, xs, ex, hx, q⟩ := q1
  subst ex
  cases r1
  have hlo : PO X (some (.UnaryOp .USub (.Constant (.int 2) k' p4) p5)) (tPart (tUn (rU fun i => .int (-i)) (tC (.int 2)))) := po_some (pe_un un_neg pe_int)
  have hst : PO X (some (.UnaryOp .USub (.Constant (.int 1) k p1) p2)) (tPart (tUn (rU fun i => .int (-i)) (tC (.int 1)))) := po_some (pe_un un_neg pe_int)
  refine wpAny_Slice (thn (hlo.run pins s1 σ H1 (fun o H2 => o = some (-2) ∧ H2 = H1) I1 ⟨2, rfl, -2, rfl, rfl, rfl⟩) fun vl s2 ⟨l, H2, I2, pl, el, e2⟩ => ?_)
  subst el e2
  refine thn (po_none.run pins s2 σ H2 (fun o H3 => o = none ∧ H3 = H2) I2 ⟨rfl, rfl⟩) fun vu s3 ⟨u, H3, I3, pu, eu, e3⟩ => ?_
  subst eu e3
  refine thn (hst.run pins s3 σ H3 (fun o H4 => o = some (-1) ∧ H4 = H3) I3 ⟨1, rfl, -1, rfl, rfl, rfl⟩) fun vs s4 ⟨o, H4, I4, ps, eo, e4⟩ => ?_
  subst eo e4
  have I5 : Inv X pins σ H4 { s4 with heap := s4.heap.push { cls := .type "slice", data := .fields #[vl, vu, vs] } } := I4.kept (t' := s4.toks) fun b ob q => Heap.get?_push_of_some _ q
  obtain ⟨its, r, ht, hz⟩ := I5.list hx
  have hlen := r.length
  show wpAny (model X.prog X.w) X.A (subscriptTail e _ (.ref a) (.ref s4.heap.objs.size)) (EP X pins σ Q) X.xe { s4 with heap := s4.heap.push { cls := .type "slice", data := .fields #[vl, vu, vs] } }
  refine tail_any (ops := [.ref a, .ref s4.heap.objs.size]) ht.isList.typeIs (PySem.slot_list_getitem.lookup) ?_ (by with_unfolding_all rfl)
  refine wpAny_getItem_list_slice ht.isList (Heap.IsSliceOf.new _ vl vu vs) pl pu ps (by decide) ?_ (by rw [List.size_toArray]; omega)
  have hr := vals_pick r (sliceRange (sliceBounds (some (-2)) none (some (-1)) its.toArray.size).1 (sliceBounds (some (-2)) none (some (-1)) its.toArray.size).2.1 (sliceBounds (some (-2)) none (some (-1)) its.toArray.size).2.2)
  have hle : ((sliceRange (sliceBounds (some (-2)) none (some (-1)) its.toArray.size).1 (sliceBounds (some (-2)) none (some (-1)) its.toArray.size).2.1 (sliceBounds (some (-2)) none (some (-1)) its.toArray.size).2.2).filterMap (xs[·]?)).length ≤ xs.length := by
    have h1 := slicePick_size_le its.toArray (some (-2)) none (some (-1))
    have h2 := hr.length
    unfold slicePick at h1
    rw [List.size_toArray] at h1
    have e : (fun i : Nat => its.toArray[i]?) = (fun i : Nat => its[i]?) := by funext i; simp
    rw [e, List.size_toArray] at h1
    rw [List.size_toArray] at h2 ⊢
    omega
  refine ⟨.ref _, _, I5.laid (t' := s4.toks) (o := .lst _) (fun b ob q => Heap.get?_push_of_some _ q) (Nat.le_refl _) ⟨Nat.le_trans hle hz, _, 0, hr, ?_⟩, rfl, q _ _ hle (I5.hok.fresh (Nat.le_refl _))⟩
  rw [Heap.get?_push_size _ rfl]
  unfold slicePick
  simp
end
end Yf
set_option Elab.async false
set_option linter.all false
set_option maxRecDepth 100000
set_option maxHeartbeats 4000000
/-! R6: x in o by an own __contains__; C(*t). -/
namespace Yf
open PySem PySem.Spec PyProof.Rows L2

/-- a method of a class, called by the machine under its special name -/
structure Spc (K : PySem.W.Frag) (C : Addr) (m : Str) (f : Addr) : Prop where
  at_ : PySem.W.findIn K (.ref C) m = some (some (.ref f))
  fn : PySem.W.isFn K (.ref f) = true
section
variable {prog : Program} {w : World} {A : Around} {E : Value → Shared → Prop} {s : Shared} {K : PySem.W.Frag} {x C f : Addr} {ox : Obj} {od : Option Obj} {name : Str}
theorem special_un {args : List Value} {refuse : Sem Value} {Q : Option Value → Shared → Prop} (X : K.In s.heap) (I : PySem.W.InstAt s.heap x ox C od) (c : Spc K C name f)
    (h : wpAny (model prog w) A (call (.ref f) (.ref x :: args)) (fun v => Q (some v)) E s) : wpAny (model prog w) A (callSpecialUnlessNone? (.ref x) name args refuse) Q E s := by
  simp only [callSpecialUnlessNone?, specialOf]
  refine wpAny_bind (wpAny_bind (I.type.here ((PySem.W.looks_findIn X c.at_).here ?_)))
  refine wpAny_holding (wpAny_bind ((PySem.W.bind_fn X _ (beq_iff_eq.mp c.fn)).here ?_))
  show wpAny _ _ (if (Value.ref f == Value.none) = true then _ else _) _ _ _
  rw [if_neg (by exact Bool.false_ne_true)]
  exact wpAny_bind (wpAny_mono h (fun v s' h' => wpAny_pure h') fun _ _ h' => h')
theorem special_c {args : List Value} {Q : Option Value → Shared → Prop} (X : K.In s.heap) (I : PySem.W.InstAt s.heap x ox C od) (c : Spc K C name f)
    (h : wpAny (model prog w) A (call (.ref f) (.ref x :: args)) (fun v => Q (some v)) E s) : wpAny (model prog w) A (callSpecial? (.ref x) name args) Q E s := by
  simp only [callSpecial?, specialOf]
  refine wpAny_bind (wpAny_bind (I.type.here ((PySem.W.looks_findIn X c.at_).here ?_)))
  refine wpAny_holding (wpAny_bind ((PySem.W.bind_fn X _ (beq_iff_eq.mp c.fn)).here ?_))
  exact wpAny_bind (wpAny_mono h (fun v s' h' => wpAny_pure h') fun _ _ h' => h')
theorem contains_own {v : Value} {Q : Bool → Shared → Prop} (X : K.In s.heap) (I : PySem.W.InstAt s.heap x ox C od) (c : Spc K C "__contains__" f)
    (h : wpAny (model prog w) A (call (.ref f) [.ref x, v]) (fun r s' => wpAny (model prog w) A (truthy r) Q E s') E s) : wpAny (model prog w) A (contains (.ref x) v) Q E s := by
  unfold contains
  refine wpAny_holding ?_
  have e0 : stdlibNamesSay? (.ref x) v = none := by unfold stdlibNamesSay?; cases v <;> rfl
  rw [e0]
  show wpAny _ _ (specialOf (.ref x) "__contains__" >>= _) _ _ _
  refine wpAny_bind ?_
  simp only [specialOf]
  refine wpAny_bind (I.type.here ((PySem.W.looks_findIn X c.at_).here ?_))
  show wpAny _ _ (if (some (Value.ref f) == some Value.none) = true then _ else _) _ _ _
  rw [if_neg (by exact Bool.false_ne_true)]
  exact wpAny_bind (special_un X I c h)
end
section
variable {X : Cx}
def rInOwn (C : Addr) (neg : Bool) (sp : Sp) : R2 := fun x y H Q => ∃ a dx fs, y = .ref a ∧ H a = some (.ins C dx fs) ∧ sp [.ref a, x] H (fun v H' => ∃ b, v = .bl b ∧ Q (.bl (if neg = true then !b else b)) H') C8.E0
theorem op_inOwn {C f : Addr} {k : Nat} {fd : FuncData} {ps : List Str} {sp : Sp} (c : Spc X.K C "__contains__" f) (F : FnOk X.prog X.w X.K X.mg X.base C8.CX0 k f fd ps sp) (hr : Room k X.A) (hb : Binds X.K fd ps []) : OpR X (compareOp .In) (rInOwn C false sp) := by
  intro pins s σ H x y v u Q I rx ry h
  obtain ⟨a, dx, fs, rfl, ha, hsp⟩ := h
  obtain rfl : u = Value.ref a := ry
  obtain ⟨mA, J, _⟩ := ins_get I.hok ha
  obtain ⟨od, J, _⟩ := J.look
  show wpAny _ _ (contains (.ref a) v >>= fun r => pure (Value.bool r)) _ _ _
  refine wpAny_bind (contains_own I.kIn J c ?_)
  have z := run_fn (E := C8.E0) F hr hb .nil C8.pass0 I (us := [.ref a, v]) (vs := [.ref a, x]) (.cons rfl (.cons rx .nil)) hsp
  refine thn z fun r s' ⟨v', H', I', rv, b, e, q⟩ => ?_
  subst e
  cases rv
  exact wpAny_truthy_bool (wpAny_pure ⟨.bl b, H', I', rfl, q⟩)
theorem op_notInOwn {C f : Addr} {k : Nat} {fd : FuncData} {ps : List Str} {sp : Sp} (c : Spc X.K C "__contains__" f) (F : FnOk X.prog X.w X.K X.mg X.base C8.CX0 k f fd ps sp) (hr : Room k X.A) (hb : Binds X.K fd ps []) : OpR X (compareOp .NotIn) (rInOwn C true sp) := by
  intro pins s σ H x y v u Q I rx ry h
  obtain ⟨a, dx, fs, rfl, ha, hsp⟩ := h
  obtain rfl : u = Value.ref a := ry
  obtain ⟨mA, J, _⟩ := ins_get I.hok ha
  obtain ⟨od, J, _⟩ := J.look
  show wpAny _ _ (contains (.ref a) v >>= fun r => pure (Value.bool (!r))) _ _ _
  refine wpAny_bind (contains_own I.kIn J c ?_)
  have z := run_fn (E := C8.E0) F hr hb .nil C8.pass0 I (us := [.ref a, v]) (vs := [.ref a, x]) (.cons rfl (.cons rx .nil)) hsp
  refine thn z fun r s' ⟨v', H', I', rv, b, e, q⟩ => ?_
  subst e
  cases rv
  exact wpAny_truthy_bool (wpAny_pure ⟨.bl (!b), H', I', rfl, q⟩)
/-- C(*t) -/
theorem pe_makeS {CX : CXT} {k : Nat} {f C : Addr} {sp : Sp} {E : XK} {x : Str} {e : Expr} {te : TE} {p sp_ pos : Pos} (M : Mk X.K C f) (F : FnR X.prog X.w X.K X.mg X.base CX k f sp) (hr : Room (k + 1) X.A) (hg : Gl X x) (hm : X.mg x = some (.ref C)) (hx : Passes CX X E) (he : PE X e te)
    (hd : (x == ("__debug__" : Str)) = false := by decide) (hst : starEach [.Starred e sp_] X.env = [(true, eval e X.env)] := by rfl) :
    PE X (.Call (.Name x p) [.Starred e sp_] [] pos) (fun σ H Q => te σ H fun y H1 => ∃ a xs, y = V.ref a ∧ (SqT X.K H1 a xs ∨ SqL X.K H1 a xs) ∧
      ∀ z dx, H1 z = none → H1 dx = none → dx ≠ z → sp (V.ref z :: xs) (upd (upd H1 dx (.own z)) z (.ins C dx [])) (fun v H2 => v = .non ∧ Q (.ref z) H2) E) := by
  refine ⟨fun pins s σ H Q I h => ?_⟩
  refine wpAny_Call_Name_kw (ld_glob I hg hm ?_ hd)
  refine PySem.W.callWith_S (h₀ := X.base) I.ok.mod.kin M.kp (thn (he.run pins s σ H _ I h) fun v s1 ⟨y, H1, I1, ry, a, xs, ey, hxs, q⟩ => ?_) hst
  subst ey
  obtain rfl : v = Value.ref a := ry
  exact StX.star_any I1 hxs fun us s2 I2 rv => ⟨I2.kIn, StX.run_makeR M F hr hx I2 rv q⟩
end
end Yf
set_option Elab.async false
set_option linter.all false
set_option maxRecDepth 100000
set_option maxHeartbeats 4000000
/-! R7: what a comprehension over a generator may append: the item itself; len(item), item an instance with its own __len__. -/
namespace Yf
open PySem PySem.Spec PyProof.Rows L2

section
variable {X : Cx} {scope : Scope} {x : Str} {O : Nat → V → Hp → Prop}
theorem elt_name {p : Pos} (hd : (x == ("__debug__" : Str)) = false := by decide) : EltOk X scope x (.Name x p) O (fun _ _ => True) :=
  ⟨fun cenv s mp j y v H' hsn hkd hx hgl hbl hn hm rv hok ho hb hmod hg2 hb2 => wpAny_Name (wpAny_loadName_local hkd hx hn hm ⟨⟨s.heap, s.toks, rfl, fun _ _ e => e⟩, y, rv, trivial⟩) hd⟩
theorem elt_len {C f : Addr} {qual : Str} {st : Stmt} {fd : FuncData} {W : Nat → V → Prop} {p1 p2 p3 q1 q2 q3 q4 q5 : Pos} (Fn : C8.Fun X.K "__len__" qual st f fd) (S : FnScope ["self"] ["self"] (C8.fnScope st)) (hbind : Binds X.K fd ["self"] []) (spc : Spc X.K C "__len__" f) (c : Cls X.K C) (na : NoAttr X.K C "entered")
    (hbody : C8.fnBody st = [.Return (some (.Call (.Name "len" q1) [.Attribute (.Name "self" q2) "entered" q3] [] q4)) q5]) (hlenK : (C8.fnScope st).names.lookup ("len" : Str) = some .globalImplicit) (hself : (C8.fnScope st).names.lookup ("self" : Str) = some .local) (hr : Room 3 X.A) (hmg : X.mg "len" = none)
    (hxs : scope.names.lookup ("len" : Str) = some .globalImplicit) (hO : ∀ j y H', O j y H' → ∃ w dx fs t xs, y = V.ref w ∧ H' w = some (.ins C dx fs) ∧ fs.lookup ("entered" : Str) = some (V.ref t) ∧ H' t = some (.tup xs) ∧ W j (.int xs.length)) (hd : (x == ("__debug__" : Str)) = false := by decide) :
    EltOk X scope x (.Call (.Name "len" p1) [.Name x p2] [] p3) O W := by
  refine ⟨fun cenv s mp j y v H' hsn hkd hx hgl hbl hn hm rv hok ho hb hmod hg2 hb2 => ?_⟩
  obtain ⟨oc, od, dV, kV, doc, pm, an, cdv, ct, osl, rfl, lk, hcd⟩ := Fn.ex
  obtain ⟨w, dx, fs, t, xs, rfl, hw, hl, ht, hW⟩ := hO j y H' ho
  obtain rfl : v = Value.ref w := rv
  obtain ⟨mb, hmb, hbb⟩ := hmod.blt
  have KX : X.K.In s.heap := hmod.kin.keeps hb
  obtain ⟨mA, OM, r, _, _, _⟩ := ins_get hok hw
  obtain ⟨odI, J, _⟩ := OM.look
  obtain ⟨ue, hue, rue⟩ := RelO.some_of (v := V.ref t) (o := mA "entered") (by rw [← hl]; exact r "entered")
  obtain rfl : ue = Value.ref t := rue
  obtain ⟨hz, its, rits, htup⟩ := (show ObjOk X.prog X.w H' s.heap t (.tup xs) from hok t _ ht)
  have hlen : its.toArray.size = xs.length := by rw [List.size_toArray, ← rits.length]
  have hfit : (its.toArray.size : Int) < 2 ^ 63 := by
    have := sizeLine_eq
    rw [hlen]; omega
  have glob : ∀ {A : Around} {E : Value → Shared → Prop} {env : Env} {s' : Shared} {pos : Pos} {Q : Value → Shared → Prop}, env.scope.kind = .function → env.kindOf "len" = some .globalImplicit → env.globals = mainGlobals → env.builtins = builtinsNs →
      (∀ b o, s.heap.get? b = some o → s'.heap.get? b = some o) → Q (.builtin "len") s' → wpAny (model X.prog X.w) A (eval (.Name "len" pos) env) Q E s' := fun {A E env s' pos Q} h1 h2 h3 h4 h5 h6 => by
    refine Calls.Name_function_global h1 h2 (Calls.loadGlobal_builtin (by rw [h3]; exact hmod.glob.keeps fun b o e => h5 b o (hb b o e)) hmg (by rw [h4]; exact hmb.keeps fun b o e => h5 b o (hb b o e)) ((hbb "len" (by decide)).trans PySem.boot_len) h6) (by decide)
  refine wpAny_Call_Name_kw (glob hkd (by show cenv.scope.names.lookup _ = _; rw [hsn]; exact hxs) (hgl.trans hg2) (hbl.trans hb2) (fun _ _ e => e) ?_)
  refine PyProof.Rows.callWith_builtin1 (Calls.spliced_cons (wpAny_Name (wpAny_loadName_local hkd hx hn hm (Calls.spliced_nil ?_)) hd)) rfl rfl
  -- len(item)
  refine Calls.call_function_entry kind_len plain_len entry_len (args_len1 _) ?_
  unfold Builtin.«len»
  refine wpAny_bind (m := oneArg "len" _) (wpAny_pure ?_)
  refine wpAny_bind (m := callSpecial? (.ref w) (PySem.Str.ofString "__len__")) (special_c KX J spc ?_)
  have us1 : ([Value.ref w] ++ []).length = ["self"].length := rfl
  refine wpAny_call (codeAny_call_function (by show X.A.depth < _; exact hr.depth) (KX _ _ lk) rfl S.co S.gen rfl (PySem.W.codeRec_of KX hcd) (hbind s [.ref w] KX rfl _ _ _ _ ?_))
  refine wpAny_newFunctionEnv_cells S.kind (fun y hy => .inl ?_) fun env he s1 ic => ?_
  · have : y = (("self" : Str), Value.ref w) := by simpa using hy
    rw [this]; exact hself
  subst he
  have lim : s.heap.NoLimit := hmod.nolimit.keeps hb
  refine ⟨lim.keeps ic.toInCall.keep, codeAny_func ?_⟩
  have kp : ∀ b o, s.heap.get? b = some o → s1.heap.get? b = some o := ic.toInCall.keep
  obtain ⟨h1, tk, rfl, hk1⟩ := ic.done
  have hns := ic.toInCall.ns
  show wpAny _ _ (execs (C8.fnBody st) _) _ _ _
  rw [hbody]
  refine wpAny_execs_cons (wpAny_Return_some ?_)
  refine wpAny_Call_Name_kw (glob S.kind hlenK rfl rfl kp ?_)
  refine PyProof.Rows.callWith_builtin1 (Calls.spliced_cons ?_) rfl rfl
  refine attr_of rfl (wpAny_Name (wpAny_loadName_local S.kind hself hns (v := .ref w) ?_ ?_) (by decide))
  · exact bindL_get (P := ["self"]) (vs := [Value.ref w]) (i := 0) (by decide) rfl rfl hself
  · have OM2 : ObjM h1 w dx C mA := ⟨kp _ _ OM.obj, OM.ns.keeps kp, OM.ne⟩
    have KX2 : X.K.In h1 := KX.keeps kp
    refine get_map (s := { s with heap := h1, toks := tk }) KX2 OM2 (c.get "entered") c.hd na hue (handed_of (show RelV (V.ref t) (Value.ref t) from rfl)) ?_
    refine Calls.spliced_nil ?_
    refine len_tuple (htup.keeps kp) hfit ?_
    -- back in len
    refine wpAny_bind (wpAny_holding (wpAny_pure ?_))
    refine wpAny_bind (wpAny_letGo ?_)
    show wpAny _ _ (if ((its.toArray.size : Nat) : Int) < 0 then _ else _) _ _ _
    rw [if_neg (by omega)]
    show wpAny _ _ (if ((its.toArray.size : Nat) : Int) ≥ 2 ^ 63 then _ else _) _ _ _
    rw [if_neg (by omega)]
    refine wpAny_bind (wpAny_mkInt (wpAny_pure ⟨_, rfl, ⟨h1, _, rfl, kp⟩, .int xs.length, ⟨_, by rw [hlen]⟩, hW⟩))
end
end Yf
set_option Elab.async false
set_option linter.all false
set_option maxRecDepth 100000
/-! M1: graphs given by lists of pairs; tables of levels (breadth first). -/
namespace Yf
section
variable {α : Type}
/-- a corridor joins a and b -/
def Adj (es : List (α × α)) (a b : α) : Prop := (a, b) ∈ es ∨ (b, a) ∈ es
theorem Adj.symm {es : List (α × α)} {a b : α} (h : Adj es a b) : Adj es b a := Or.symm h
theorem Adj.mono {es fs : List (α × α)} (h : ∀ e, e ∈ es → e ∈ fs) {a b : α} (q : Adj es a b) : Adj fs a b := q.imp (h _) (h _)
/-- a walk leads from a to b -/
inductive Conn (es : List (α × α)) (a : α) : α → Prop
  | refl : Conn es a a
  | step {b c : α} : Conn es a b → Adj es b c → Conn es a c
theorem Conn.trans {es : List (α × α)} {a b c : α} (h : Conn es a b) (q : Conn es b c) : Conn es a c := by
  induction q with
  | refl => exact h
  | step _ e ih => exact .step ih e
theorem Conn.one {es : List (α × α)} {a b : α} (h : Adj es a b) : Conn es a b := .step .refl h
theorem Conn.symm {es : List (α × α)} {a b : α} (h : Conn es a b) : Conn es b a := by
  induction h with
  | refl => exact .refl
  | step _ e ih => exact (Conn.one e.symm).trans ih
theorem Conn.mono {es fs : List (α × α)} (h : ∀ e, e ∈ es → e ∈ fs) {a b : α} (q : Conn es a b) : Conn fs a b := by
  induction q with
  | refl => exact .refl
  | step _ e ih => exact .step ih (e.mono h)
/-- what holds at a and is kept by each corridor holds wherever a walk leads -/
theorem Conn.keep {es : List (α × α)} {P : α → Prop} (hP : ∀ x y, Adj es x y → P x → P y) {a b : α} (h : Conn es a b) (ha : P a) : P b := by
  induction h with
  | refl => exact ha
  | step _ e ih => exact hP _ _ e ih
end
section
variable {α : Type} [DecidableEq α]
/-! ### lookups -/
abbrev Tb (α : Type) := List (α × (Nat × Option α))
def keys (T : Tb α) : List α := T.map (·.1)
theorem lk_mem {T : Tb α} {v : α} {x} (h : T.lookup v = some x) : (v, x) ∈ T := by
  induction T with
  | nil => cases h
  | cons p T ih =>
    rw [List.lookup_cons] at h
    by_cases e : v = p.1
    · subst e
      rw [show (p.1 == p.1) = true from beq_self_eq_true _] at h
      have : p.2 = x := Option.some.inj h
      subst this
      exact List.mem_cons_self ..
    · rw [show (v == p.1) = false from beq_eq_false_iff_ne.mpr e] at h
      exact List.mem_cons_of_mem _ (ih h)
theorem lk_key {T : Tb α} {v : α} {x} (h : T.lookup v = some x) : v ∈ keys T := List.mem_map.mpr ⟨_, lk_mem h, rfl⟩
theorem lk_of {T : Tb α} {v : α} (h : v ∈ keys T) : ∃ x, T.lookup v = some x := by
  induction T with
  | nil => cases h
  | cons p T ih =>
    rw [List.lookup_cons]
    by_cases e : v = p.1
    · subst e
      rw [show (p.1 == p.1) = true from beq_self_eq_true _]
      exact ⟨_, rfl⟩
    · rw [show (v == p.1) = false from beq_eq_false_iff_ne.mpr e]
      exact ih ((List.mem_cons.mp h).resolve_left e)
theorem lk_none {T : Tb α} {v : α} (h : ¬ v ∈ keys T) : T.lookup v = none := by
  cases e : T.lookup v with
  | none => rfl
  | some x => exact absurd (lk_key e) h
theorem lk_at {T : Tb α} (nd : (keys T).Nodup) {i : Nat} {v : α} {x} (h : T[i]? = some (v, x)) : T.lookup v = some x := by
  induction T generalizing i with
  | nil => simp at h
  | cons p T ih =>
    have nd' : p.1 ∉ keys T ∧ (keys T).Nodup := List.nodup_cons.mp nd
    cases i with
    | zero =>
      have : p = (v, x) := Option.some.inj h
      subst this
      rw [List.lookup_cons, show (v == v) = true from beq_self_eq_true _]
    | succ i =>
      have h' : T[i]? = some (v, x) := h
      have m : v ∈ keys T := List.mem_map.mpr ⟨_, List.mem_of_getElem? h', rfl⟩
      have e : ¬ v = p.1 := fun e => nd'.1 (e ▸ m)
      rw [List.lookup_cons, show (v == p.1) = false from beq_eq_false_iff_ne.mpr e]
      exact ih nd'.2 h'
theorem lk_snoc {T : Tb α} {v w : α} {x} (hw : ¬ w ∈ keys T) : (T ++ [(w, x)]).lookup v = if v = w then some x else T.lookup v := by
  induction T with
  | nil =>
    rw [List.nil_append, List.lookup_cons]
    by_cases e : v = w
    · subst e
      rw [show (v == v) = true from beq_self_eq_true _, if_pos rfl]
    · rw [show (v == w) = false from beq_eq_false_iff_ne.mpr e, if_neg e]
  | cons p T ih =>
    have hw' : ¬ w = p.1 ∧ ¬ w ∈ keys T := ⟨fun e => hw (e ▸ List.mem_cons_self ..), fun m => hw (List.mem_cons_of_mem _ m)⟩
    rw [List.cons_append, List.lookup_cons, List.lookup_cons]
    by_cases e : v = p.1
    · subst e
      rw [show (p.1 == p.1) = true from beq_self_eq_true _]
      show some p.2 = _
      rw [if_neg (fun e => hw'.1 e.symm)]
    · rw [show (v == p.1) = false from beq_eq_false_iff_ne.mpr e]
      exact ih hw'.2
theorem keys_snoc {T : Tb α} {w : α} {x} : keys (T ++ [(w, x)]) = keys T ++ [w] := by
  unfold keys
  rw [List.map_append]
  rfl
/-- a table of levels: from s, over es -/
structure Bfs (es : List (α × α)) (s : α) (T : Tb α) : Prop where
  nd : (keys T).Nodup
  root : T.lookup s = some (0, none)
  par : ∀ v l p, T.lookup v = some (l, some p) → Adj es p v ∧ ∃ l' q, T.lookup p = some (l', q) ∧ l = l' + 1
  nopar : ∀ v l, T.lookup v = some (l, none) → v = s ∧ l = 0
  close : ∀ u l p w, T.lookup u = some (l, p) → Adj es u w → ∃ l' q, T.lookup w = some (l', q) ∧ l' ≤ l + 1

/-! ### the making of the table -/
/-- the table while the room in place i is at work: the rooms ahead are done, of its own neighbours those in ds -/
structure BfsIn (es : List (α × α)) (s : α) (T : Tb α) (i : Nat) (ds : List α) : Prop where
  nd : (keys T).Nodup
  root : T.lookup s = some (0, none)
  par : ∀ v l p, T.lookup v = some (l, some p) → Adj es p v ∧ ∃ l' q, T.lookup p = some (l', q) ∧ l = l' + 1
  nopar : ∀ v l, T.lookup v = some (l, none) → v = s ∧ l = 0
  done : ∀ (j : Nat) u l p w, j < i → T[j]? = some (u, (l, p)) → Adj es u w → ∃ l' q, T.lookup w = some (l', q) ∧ l' ≤ l + 1
  mono : ∀ (j k : Nat) u l p v m q, j ≤ k → T[j]? = some (u, (l, p)) → T[k]? = some (v, (m, q)) → l ≤ m
  top : ∀ u l p, T[i]? = some (u, (l, p)) → ∀ v m q, T.lookup v = some (m, q) → m ≤ l + 1
  here : ∀ w, w ∈ ds → w ∈ keys T
theorem get_snoc {β : Type} {l : List β} {x y : β} {k : Nat} (h : (l ++ [x])[k]? = some y) : l[k]? = some y ∨ (k = l.length ∧ y = x) := by
  by_cases hk : k < l.length
  · rw [List.getElem?_append_left hk] at h
    exact .inl h
  · rw [List.getElem?_append_right (by omega)] at h
    cases e : k - l.length with
    | zero =>
      rw [e] at h
      exact .inr ⟨by omega, (Option.some.inj h).symm⟩
    | succ n =>
      rw [e] at h
      simp at h
theorem nd_snoc1 {β : Type} {l : List β} {x : β} (h : l.Nodup) (hx : ¬ x ∈ l) : (l ++ [x]).Nodup := by
  rw [List.nodup_append]
  exact ⟨h, by simp, fun a ha b hb => by rw [List.mem_singleton] at hb; subst hb; exact fun e => hx (e ▸ ha)⟩
theorem lk_get {T : Tb α} {v : α} {x} (h : T.lookup v = some x) : ∃ k : Nat, T[k]? = some (v, x) := List.getElem?_of_mem (lk_mem h)
theorem BfsIn.start {es : List (α × α)} {s : α} : BfsIn es s ([(s, (0, none))] : Tb α) 0 [] := by
  have lk : ∀ v x, ([(s, (0, none))] : Tb α).lookup v = some x → v = s ∧ x = (0, none) := fun v x h => by
    have m := lk_mem h
    rw [List.mem_singleton] at m
    cases m
    exact ⟨rfl, rfl⟩
  refine ⟨by simp [keys], by rw [List.lookup_cons, show (s == s) = true from beq_self_eq_true _], ?_, ?_, ?_, ?_, ?_, ?_⟩
  · intro v l p h
    cases (lk _ _ h).2
  · intro v l h
    obtain ⟨e1, e2⟩ := lk _ _ h
    cases e2
    exact ⟨e1, rfl⟩
  · intro j u l p w hj
    exact absurd hj (Nat.not_lt_zero _)
  · intro j k u l p v m q _ h1 h2
    have a := List.mem_of_getElem? h1
    have b := List.mem_of_getElem? h2
    rw [List.mem_singleton] at a b
    cases a
    cases b
    exact Nat.le_refl _
  · intro u l p _ v m q h
    cases (lk _ _ h).2
    exact Nat.zero_le _
  · intro w h
    cases h
theorem BfsIn.skip {es : List (α × α)} {s : α} {T : Tb α} {i : Nat} {ds : List α} (B : BfsIn es s T i ds) {w : α} (h : w ∈ keys T) : BfsIn es s T i (ds ++ [w]) :=
  { B with here := fun x hx => (List.mem_append.mp hx).elim (B.here x) (fun hx => (List.mem_singleton.mp hx) ▸ h) }
theorem BfsIn.put {es : List (α × α)} {s : α} {T : Tb α} {i : Nat} {ds : List α} (B : BfsIn es s T i ds) {r : α} {l : Nat} {p : Option α} {w : α} (hr : T[i]? = some (r, (l, p))) (ad : Adj es r w) (hw : ¬ w ∈ keys T) :
    BfsIn es s (T ++ [(w, (l + 1, some r))]) i (ds ++ [w]) := by
  have lkr : T.lookup r = some (l, p) := lk_at B.nd hr
  have nw : ∀ {v x}, T.lookup v = some x → ¬ v = w := fun h e => hw (e ▸ lk_key h)
  have old : ∀ {v x}, T.lookup v = some x → (T ++ [(w, (l + 1, some r))]).lookup v = some x := fun {v x} h => by
    rw [lk_snoc hw, if_neg (nw h)]
    exact h
  have cs : ∀ {v x}, (T ++ [(w, (l + 1, some r))]).lookup v = some x → (v = w ∧ x = (l + 1, some r)) ∨ T.lookup v = some x := fun {v x} h => by
    rw [lk_snoc hw] at h
    by_cases e : v = w
    · rw [if_pos e] at h
      exact .inl ⟨e, (Option.some.inj h).symm⟩
    · rw [if_neg e] at h
      exact .inr h
  have hi : i < T.length := (List.getElem?_eq_some_iff.mp hr).1
  refine ⟨by rw [keys_snoc]; exact nd_snoc1 B.nd hw, old B.root, ?_, ?_, ?_, ?_, ?_, ?_⟩
  · intro v m q h
    rcases cs h with ⟨rfl, e⟩ | h
    · cases e
      exact ⟨ad, l, p, old lkr, rfl⟩
    · obtain ⟨a, l', q', b, c⟩ := B.par v m q h
      exact ⟨a, l', q', old b, c⟩
  · intro v m h
    rcases cs h with ⟨rfl, e⟩ | h
    · cases e
    · exact B.nopar v m h
  · intro j u m q x hj h a
    rw [List.getElem?_append_left (by omega)] at h
    obtain ⟨l', q', b, c⟩ := B.done j u m q x hj h a
    exact ⟨l', q', old b, c⟩
  · intro j k u m q v n q' hjk h1 h2
    rcases get_snoc h1 with h1 | ⟨e1, e1'⟩
    · rcases get_snoc h2 with h2 | ⟨e2, e2'⟩
      · exact B.mono j k u m q v n q' hjk h1 h2
      · cases e2'
        exact B.top r l p hr u m q (lk_at B.nd h1)
    · rcases get_snoc h2 with h2 | ⟨e2, e2'⟩
      · exact absurd (List.getElem?_eq_some_iff.mp h2).1 (by omega)
      · cases e1'
        cases e2'
        exact Nat.le_refl _
  · intro u m q h v n q' hv
    rw [List.getElem?_append_left hi, hr] at h
    cases h
    rcases cs hv with ⟨_, e⟩ | hv
    · cases e
      exact Nat.le_refl _
    · exact B.top r l p hr v n q' hv
  · intro x hx
    rw [keys_snoc]
    rcases List.mem_append.mp hx with hx | hx
    · exact List.mem_append.mpr (.inl (B.here x hx))
    · exact List.mem_append.mpr (.inr hx)
theorem BfsIn.next {es : List (α × α)} {s : α} {T : Tb α} {i : Nat} {ds : List α} (B : BfsIn es s T i ds) {r : α} {l : Nat} {p : Option α} (hr : T[i]? = some (r, (l, p))) (hds : ∀ w, Adj es r w → w ∈ ds) :
    BfsIn es s T (i + 1) [] := by
  have tp := B.top r l p hr
  refine { B with done := ?_, top := ?_, here := fun x hx => by cases hx }
  · intro j u m q w hj h a
    by_cases e : j = i
    · subst e
      rw [hr] at h
      cases h
      obtain ⟨x, hx⟩ := lk_of (B.here w (hds w a))
      exact ⟨x.1, x.2, hx, tp w x.1 x.2 hx⟩
    · exact B.done j u m q w (by omega) h a
  · intro u m q h v n q' hv
    have := B.mono i (i + 1) r l p u m q (by omega) hr h
    have := tp v n q' hv
    omega
theorem BfsIn.fin {es : List (α × α)} {s : α} {T : Tb α} {i : Nat} {ds : List α} (B : BfsIn es s T i ds) (h : T.length ≤ i) : Bfs es s T :=
  ⟨B.nd, B.root, B.par, B.nopar, fun u l p w hu a => by
    obtain ⟨k, hk⟩ := lk_get hu
    exact B.done k u l p w (Nat.lt_of_lt_of_le (List.getElem?_eq_some_iff.mp hk).1 h) hk a⟩

/-! ### what a table tells -/
variable {es : List (α × α)} {s : α} {T : Tb α}
theorem Bfs.reach (B : Bfs es s T) : ∀ (l : Nat) v p, T.lookup v = some (l, p) → Conn es s v
  | 0, v, none, h => (B.nopar v 0 h).1 ▸ .refl
  | 0, v, some p, h => by
    obtain ⟨_, l', q, _, e⟩ := B.par v 0 p h
    omega
  | l + 1, v, none, h => absurd (B.nopar v _ h).2 (by omega)
  | l + 1, v, some p, h => by
    obtain ⟨a, l', q, h', e⟩ := B.par v _ p h
    have : l' = l := by omega
    subst this
    exact .step (B.reach l' p q h') a
theorem Bfs.mem (B : Bfs es s T) {v : α} : v ∈ keys T ↔ Conn es s v := by
  refine ⟨fun h => ?_, fun h => ?_⟩
  · obtain ⟨x, hx⟩ := lk_of h
    exact B.reach x.1 v x.2 hx
  · refine h.keep (P := fun v => v ∈ keys T) (fun x y a hx => ?_) (lk_key B.root)
    obtain ⟨z, hz⟩ := lk_of hx
    obtain ⟨l', q, h', _⟩ := B.close x z.1 z.2 y hz a
    exact lk_key h'
/-- the level of a room (0 of a room that isn't there) -/
def lv (T : Tb α) (v : α) : Nat := match T.lookup v with
  | some x => x.1
  | none => 0
theorem lv_of {v : α} {l p} (h : T.lookup v = some (l, p)) : lv T v = l := by
  unfold lv
  rw [h]
/-- the room above -/
def up (T : Tb α) (v : α) : Option α := match T.lookup v with
  | some x => x.2
  | none => none
theorem up_of {v : α} {l p} (h : T.lookup v = some (l, p)) : up T v = p := by
  unfold up
  rw [h]
theorem Bfs.up_adj (B : Bfs es s T) {v p : α} (h : up T v = some p) : Adj es p v ∧ lv T v = lv T p + 1 ∧ v ∈ keys T ∧ p ∈ keys T := by
  unfold up at h
  cases e : T.lookup v with
  | none =>
    rw [e] at h
    cases h
  | some x =>
    rw [e] at h
    obtain ⟨l, q⟩ := x
    have h : q = some p := h
    subst h
    obtain ⟨a, l', q, h', e'⟩ := B.par v l p e
    rw [lv_of e, lv_of h']
    exact ⟨a, e', lk_key e, lk_key h'⟩
theorem Bfs.up_none (B : Bfs es s T) {v : α} (hv : v ∈ keys T) (h : up T v = none) : v = s ∧ lv T v = 0 := by
  obtain ⟨x, hx⟩ := lk_of hv
  obtain ⟨l, q⟩ := x
  rw [up_of hx] at h
  subst h
  rw [lv_of hx]
  exact B.nopar v l hx
theorem Bfs.up_some (B : Bfs es s T) {v : α} (hv : v ∈ keys T) (h : 0 < lv T v) : ∃ p, up T v = some p := by
  cases e : up T v with
  | none =>
    have := (B.up_none hv e).2
    omega
  | some p => exact ⟨p, rfl⟩
theorem Bfs.lv_root (B : Bfs es s T) {v : α} (hv : v ∈ keys T) (h : lv T v = 0) : v = s := by
  cases e : up T v with
  | none => exact (B.up_none hv e).1
  | some p =>
    have := (B.up_adj e).2.1
    omega
theorem Bfs.near (B : Bfs es s T) {u w : α} (hu : u ∈ keys T) (a : Adj es u w) : w ∈ keys T ∧ lv T w ≤ lv T u + 1 ∧ lv T u ≤ lv T w + 1 := by
  obtain ⟨x, hx⟩ := lk_of hu
  obtain ⟨l', q, h', le⟩ := B.close u x.1 x.2 w hx a
  obtain ⟨l2, q2, h2, le2⟩ := B.close w l' q u h' a.symm
  have e : x = (l2, q2) := Option.some.inj (hx.symm.trans h2)
  refine ⟨lk_key h', ?_, ?_⟩
  · rw [lv_of h', lv_of hx]
    exact le
  · rw [lv_of h', lv_of h2]
    exact le2
end
end Yf
set_option Elab.async false
set_option linter.all false
set_option maxRecDepth 100000
/-! M2: a corridor is a bridge exactly if it is a corridor of the tree over which no ring goes. -/
namespace Yf
section
variable {α : Type} [DecidableEq α]
/-- the corridors without one -/
def del (es : List (α × α)) (e : α × α) : List (α × α) := es.filter fun x => decide (x ≠ e)
theorem mem_del {es : List (α × α)} {e x : α × α} : x ∈ del es e ↔ x ∈ es ∧ x ≠ e := by
  unfold del
  rw [List.mem_filter, decide_eq_true_eq]
/-- each corridor joins two rooms, once -/
structure Good (es : List (α × α)) : Prop where
  ne : ∀ a b, (a, b) ∈ es → a ≠ b
  anti : ∀ a b, (a, b) ∈ es → (b, a) ∉ es
theorem Good.adj_ne {es : List (α × α)} (G : Good es) {a b : α} (h : Adj es a b) : a ≠ b := h.elim (G.ne a b) (fun h e => G.ne b a h e.symm)
theorem Good.del {es : List (α × α)} (G : Good es) (e : α × α) : Good (Yf.del es e) :=
  ⟨fun a b h => G.ne a b (mem_del.mp h).1, fun a b h q => G.anti a b (mem_del.mp h).1 (mem_del.mp q).1⟩
theorem Good.adj_del {es : List (α × α)} (G : Good es) {a b : α} (h : (a, b) ∈ es) {x y : α} : Adj (Yf.del es (a, b)) x y ↔ Adj es x y ∧ ¬ (x = a ∧ y = b) ∧ ¬ (x = b ∧ y = a) := by
  constructor
  · rintro (q | q)
    · obtain ⟨q', n⟩ := mem_del.mp q
      clear q
      refine ⟨.inl q', fun ⟨e1, e2⟩ => n (by rw [e1, e2]), fun ⟨e1, e2⟩ => ?_⟩
      subst e1
      subst e2
      exact G.anti _ _ h q'
    · obtain ⟨q', n⟩ := mem_del.mp q
      clear q
      refine ⟨.inr q', fun ⟨e1, e2⟩ => ?_, fun ⟨e1, e2⟩ => n (by rw [e1, e2])⟩
      subst e1
      subst e2
      exact G.anti _ _ h q'
  · rintro ⟨q | q, n1, n2⟩
    · exact .inl (mem_del.mpr ⟨q, fun e => n1 ⟨congrArg Prod.fst e, congrArg Prod.snd e⟩⟩)
    · exact .inr (mem_del.mpr ⟨q, fun e => n2 ⟨congrArg Prod.snd e, congrArg Prod.fst e⟩⟩)
variable {es : List (α × α)} {s : α} {T : Tb α}
/-- v stands above x, or is x -/
inductive Anc (T : Tb α) (v : α) : α → Prop
  | refl : Anc T v v
  | step {x p : α} : up T x = some p → Anc T v p → Anc T v x
theorem Anc.lv_le (B : Bfs es s T) {v x : α} (h : Anc T v x) : v = x ∨ lv T v < lv T x := by
  induction h with
  | refl => exact .inl rfl
  | step e _ ih =>
    have := (B.up_adj e).2.1
    rcases ih with ih | ih
    · subst ih
      exact .inr (by omega)
    · exact .inr (by omega)
theorem anc_up (B : Bfs es s T) {v x p : α} (h : up T x = some p) : Anc T v x ↔ v = x ∨ Anc T v p := by
  constructor
  · intro a
    cases a with
    | refl => exact .inl rfl
    | step e q =>
      rw [h] at e
      cases e
      exact .inr q
  · rintro (rfl | q)
    · exact .refl
    · exact .step h q
/-- exactly one of both has v above it -/
def Xor (T : Tb α) (x y v : α) : Prop := (Anc T v x ∧ ¬ Anc T v y) ∨ (Anc T v y ∧ ¬ Anc T v x)
theorem Xor.symm {x y v : α} (h : Xor T x y v) : Xor T y x v := Or.symm h
theorem xor_comm {x y v : α} : Xor T x y v ↔ Xor T y x v := ⟨Xor.symm, Xor.symm⟩
theorem xor_self {x v : α} : ¬ Xor T x x v := fun h => h.elim (fun h => h.2 h.1) (fun h => h.2 h.1)
/-- one step of the climb: the deeper one goes up -/
theorem xor_step (B : Bfs es s T) {x y : α} (hx : x ∈ keys T) (hy : y ∈ keys T) (ne : x ≠ y) (le : lv T y ≤ lv T x) :
    ∃ p, up T x = some p ∧ p ∈ keys T ∧ lv T p + 1 = lv T x ∧ ∀ v, Xor T x y v ↔ v = x ∨ Xor T p y v := by
  have h0 : 0 < lv T x := by
    rcases Nat.eq_zero_or_pos (lv T x) with h | h
    · exact absurd ((B.lv_root hx h).trans (B.lv_root hy (by omega)).symm) ne
    · exact h
  obtain ⟨p, hp⟩ := B.up_some hx h0
  obtain ⟨_, hl, _, hk⟩ := B.up_adj hp
  have nxp : ¬ Anc T x p := fun a => by
    rcases a.lv_le B with e | e
    · rw [e] at hl
      omega
    · omega
  have nxy : ¬ Anc T x y := fun a => by
    rcases a.lv_le B with e | e
    · exact ne e
    · omega
  refine ⟨p, hp, hk, hl.symm, fun v => ?_⟩
  unfold Xor
  rw [anc_up B hp]
  constructor
  · rintro (⟨e | e, n⟩ | ⟨e, n⟩)
    · exact .inl e
    · exact .inr (.inl ⟨e, n⟩)
    · exact .inr (.inr ⟨e, fun a => n (.inr a)⟩)
  · rintro (e | ⟨e, n⟩ | ⟨e, n⟩)
    · subst e
      exact .inl ⟨.inl rfl, nxy⟩
    · exact .inl ⟨.inr e, n⟩
    · refine .inr ⟨e, ?_⟩
      rintro (q | q)
      · subst q
        exact nxy e
      · exact n q
/-- the rooms over which a ring goes up -/
def Ringed (T : Tb α) (es : List (α × α)) (v : α) : Prop := ∃ x y, (x, y) ∈ es ∧ up T x ≠ some y ∧ up T y ≠ some x ∧ Xor T x y v
/-- what bridges_of asks of a corridor -/
def Brd (T : Tb α) (es : List (α × α)) (a b : α) : Prop := (up T a = some b ∧ ¬ Ringed T es a) ∨ (up T b = some a ∧ ¬ Ringed T es b)
theorem up_not_both (B : Bfs es s T) {a b : α} (h : up T a = some b) : up T b ≠ some a := fun q => by
  have h1 := (B.up_adj h).2.1
  have h2 := (B.up_adj q).2.1
  omega
/-- a chain of parents that leaves out the corridor between v and its parent -/
theorem chain_in (B : Bfs es s T) (G : Good es) {v p : α} (hv : up T v = some p) {a b : α} (hab : (a, b) ∈ es) (hor : (a = v ∧ b = p) ∨ (a = p ∧ b = v)) {x : α} (h : Anc T v x) : Conn (del es (a, b)) x v := by
  induction h with
  | refl => exact .refl
  | @step x q e h ih =>
    refine (Conn.one (G.adj_del hab |>.mpr ⟨(B.up_adj e).1.symm, ?_, ?_⟩)).trans ih
    all_goals
      rintro ⟨e1, e2⟩
      have l1 := (B.up_adj e).2.1
      have l2 := (B.up_adj hv).2.1
      have := h.lv_le B
      rcases hor with ⟨rfl, rfl⟩ | ⟨rfl, rfl⟩ <;> subst e1 <;> subst e2 <;> rcases this with e' | e' <;> (try rw [e'] at l1 l2) <;> omega
theorem chain_out (B : Bfs es s T) (G : Good es) {v p : α} (hv : up T v = some p) {a b : α} (hab : (a, b) ∈ es) (hor : (a = v ∧ b = p) ∨ (a = p ∧ b = v)) : ∀ (n : Nat) {y : α}, lv T y = n → y ∈ keys T → ¬ Anc T v y → Conn (del es (a, b)) y s
  | n, y, hn, hy, h => by
    cases e : up T y with
    | none => exact (B.up_none hy e).1 ▸ .refl
    | some q =>
      obtain ⟨ad, hl, _, hq⟩ := B.up_adj e
      have hq' : ¬ Anc T v q := fun c => h (.step e c)
      have ny : y ≠ v := fun c => h (c ▸ .refl)
      have l2 := (B.up_adj hv).2.1
      cases n with
      | zero => omega
      | succ n =>
        refine (Conn.one (G.adj_del hab |>.mpr ⟨ad.symm, ?_, ?_⟩)).trans (chain_out B G hv hab hor n (y := q) (by omega) hq hq')
        all_goals
          rintro ⟨e1, e2⟩
          rcases hor with ⟨rfl, rfl⟩ | ⟨rfl, rfl⟩
          · first | exact ny e1 | (subst e1; subst e2; exact hq' .refl)
          · first | exact ny e1 | (subst e1; subst e2; exact hq' .refl)
/-- the tree's corridors alone join all -/
theorem chain_tree (B : Bfs es s T) (G : Good es) {a b : α} (hab : (a, b) ∈ es) (h1 : up T a ≠ some b) (h2 : up T b ≠ some a) : ∀ (n : Nat) {y : α}, lv T y = n → y ∈ keys T → Conn (del es (a, b)) y s
  | n, y, hn, hy => by
    cases e : up T y with
    | none => exact (B.up_none hy e).1 ▸ .refl
    | some q =>
      obtain ⟨ad, hl, _, hq⟩ := B.up_adj e
      cases n with
      | zero => omega
      | succ n =>
        refine (Conn.one (G.adj_del hab |>.mpr ⟨ad.symm, ?_, ?_⟩)).trans (chain_tree B G hab h1 h2 n (y := q) (by omega) hq)
        all_goals
          rintro ⟨e1, e2⟩
          subst e1
          subst e2
          first | exact h1 e | exact h2 e
theorem conn_ringed (B : Bfs es s T) (G : Good es) {v p : α} (hv : up T v = some p) {a b : α} (hab : (a, b) ∈ es) (hor : (a = v ∧ b = p) ∨ (a = p ∧ b = v)) (hr : Ringed T es v) (hk : ∀ x y, (x, y) ∈ es → x ∈ keys T ∧ y ∈ keys T) : Conn (del es (a, b)) v p := by
  have l2 := (B.up_adj hv).2.1
  have pk := (B.up_adj hv).2.2.2
  have np : ¬ Anc T v p := fun c => by
    rcases c.lv_le B with e | e
    · rw [e] at l2
      omega
    · omega
  have main : ∀ x y, Adj es x y → x ∈ keys T → y ∈ keys T → up T x ≠ some y → up T y ≠ some x → Anc T v x → ¬ Anc T v y → Conn (del es (a, b)) v p := by
    intro x y ad hx hy n1 n2 ax ny
    refine (chain_in B G hv hab hor ax).symm.trans ((Conn.one (G.adj_del hab |>.mpr ⟨ad, ?_, ?_⟩)).trans ((chain_out B G hv hab hor _ rfl hy ny).trans (chain_out B G hv hab hor _ rfl pk np).symm))
    all_goals
      rintro ⟨e1, e2⟩
      subst e1
      subst e2
      rcases hor with ⟨rfl, rfl⟩ | ⟨rfl, rfl⟩
      · first | exact n1 hv | exact n2 hv
      · first | exact n1 hv | exact n2 hv
  obtain ⟨x, y, h, n1, n2, ⟨a1, a2⟩ | ⟨a1, a2⟩⟩ := hr
  · exact main x y (.inl h) (hk x y h).1 (hk x y h).2 n1 n2 a1 a2
  · exact main y x (.inr h) (hk x y h).2 (hk x y h).1 n2 n1 a1 a2
theorem no_conn (B : Bfs es s T) (G : Good es) {v p : α} (hv : up T v = some p) {a b : α} (hab : (a, b) ∈ es) (hor : (a = v ∧ b = p) ∨ (a = p ∧ b = v)) (hr : ¬ Ringed T es v) : ¬ Conn (del es (a, b)) v p := by
  have l2 := (B.up_adj hv).2.1
  have np : ¬ Anc T v p := fun c => by
    rcases c.lv_le B with e | e
    · rw [e] at l2
      omega
    · omega
  refine fun c => np (c.keep (P := fun x => Anc T v x) (fun x y ad hx => ?_) .refl)
  obtain ⟨ad, m1, m2⟩ := (G.adj_del hab).mp ad
  by_cases e1 : up T x = some y
  · rcases (anc_up B e1).mp hx with rfl | q
    · exfalso
      rw [hv] at e1
      cases e1
      rcases hor with ⟨rfl, rfl⟩ | ⟨rfl, rfl⟩
      · exact m1 ⟨rfl, rfl⟩
      · exact m2 ⟨rfl, rfl⟩
    · exact q
  by_cases e2 : up T y = some x
  · exact .step e2 hx
  · refine Classical.byContradiction fun hy => hr ?_
    rcases ad with ad | ad
    · exact ⟨x, y, ad, e1, e2, .inl ⟨hx, hy⟩⟩
    · exact ⟨y, x, ad, e2, e1, .inr ⟨hx, hy⟩⟩
/-- C2: bridges_of's test says that without the corridor no walk leads from its one room to the other -/
theorem brd_iff (B : Bfs es s T) (G : Good es) (hk : ∀ x y, (x, y) ∈ es → x ∈ keys T ∧ y ∈ keys T) {a b : α} (hab : (a, b) ∈ es) : Brd T es a b ↔ ¬ Conn (del es (a, b)) a b := by
  constructor
  · rintro (⟨u, r⟩ | ⟨u, r⟩)
    · exact no_conn B G u hab (.inl ⟨rfl, rfl⟩) r
    · exact fun c => no_conn B G u hab (.inr ⟨rfl, rfl⟩) r c.symm
  · intro c
    by_cases e1 : up T a = some b
    · exact .inl ⟨e1, fun r => c (conn_ringed B G e1 hab (.inl ⟨rfl, rfl⟩) r hk)⟩
    by_cases e2 : up T b = some a
    · exact .inr ⟨e2, fun r => c (conn_ringed B G e2 hab (.inr ⟨rfl, rfl⟩) r hk).symm⟩
    · exact absurd ((chain_tree B G hab e1 e2 _ rfl (hk a b hab).1).trans (chain_tree B G hab e1 e2 _ rfl (hk a b hab).2).symm) c
end
end Yf
set_option Elab.async false
set_option linter.all false
set_option maxRecDepth 100000
/-! M3: walks without a room twice: counted, unique, even. -/
namespace Yf
section
variable {α : Type} [DecidableEq α]
/-- a walk from a, over the rooms l, to b -/
inductive Wk (es : List (α × α)) : α → List α → α → Prop
  | nil {a : α} : Wk es a [] a
  | cons {a b c : α} {l : List α} : Adj es a b → Wk es b l c → Wk es a (b :: l) c
variable {es : List (α × α)}
theorem Wk.conn {a b : α} {l : List α} (h : Wk es a l b) : Conn es a b := by
  induction h with
  | nil => exact .refl
  | cons e _ ih => exact (Conn.one e).trans ih
theorem Wk.snoc {a b c : α} {l : List α} (h : Wk es a l b) (e : Adj es b c) : Wk es a (l ++ [c]) c := by
  induction h with
  | nil => exact .cons e .nil
  | cons e' _ ih => exact .cons e' (ih e)
theorem Wk.mono {fs : List (α × α)} (m : ∀ x y, Adj es x y → Adj fs x y) {a b : α} {l : List α} (h : Wk es a l b) : Wk fs a l b := by
  induction h with
  | nil => exact .nil
  | cons e _ ih => exact .cons (m _ _ e) ih
theorem Wk.last_mem {a b : α} {l : List α} (h : Wk es a l b) : b ∈ a :: l := by
  induction h with
  | nil => exact List.mem_cons_self ..
  | cons _ _ ih => exact List.mem_cons_of_mem _ ih
theorem Wk.nil_of {a : α} {l : List α} (h : Wk es a l a) (nd : (a :: l).Nodup) : l = [] := by
  cases h with
  | nil => rfl
  | cons e q => exact absurd q.last_mem (List.nodup_cons.mp nd).1
/-- a walk up to one of its rooms -/
theorem Wk.upto {a b c : α} {l : List α} (h : Wk es a l b) (hc : c ∈ a :: l) : ∃ m r, l = m ++ r ∧ Wk es a m c := by
  induction h with
  | nil =>
    rw [List.mem_singleton] at hc
    subst hc
    exact ⟨[], [], rfl, .nil⟩
  | @cons a b' c' l e q ih =>
    by_cases x : c = a
    · subst x
      exact ⟨[], b' :: l, rfl, .nil⟩
    · obtain ⟨m, r, rfl, w⟩ := ih ((List.mem_cons.mp hc).resolve_left x)
      exact ⟨b' :: m, r, rfl, .cons e w⟩
theorem Conn.simple {a b : α} (h : Conn es a b) : ∃ l, Wk es a l b ∧ (a :: l).Nodup := by
  induction h with
  | refl => exact ⟨[], .nil, by simp⟩
  | @step b c _ e ih =>
    obtain ⟨l, w, nd⟩ := ih
    by_cases hc : c ∈ a :: l
    · obtain ⟨m, r, rfl, w'⟩ := w.upto hc
      refine ⟨m, w', nd.sublist ?_⟩
      rw [← List.cons_append]
      exact List.sublist_append_left _ _
    · refine ⟨l ++ [c], w.snoc e, ?_⟩
      rw [← List.cons_append]
      exact nd_snoc1 nd hc
/-- a walk that doesn't come to a uses no corridor of a -/
theorem Wk.avoid (G : Good es) {a b : α} (hab : (a, b) ∈ es) {v x c : α} (hv : v = a ∨ v = b) {l : List α} (h : Wk es x l c) (hn : ¬ v ∈ x :: l) : Wk (del es (a, b)) x l c := by
  induction h with
  | nil => exact .nil
  | @cons x y c l e q ih =>
    have n1 : ¬ x = v := fun z => hn (z ▸ List.mem_cons_self ..)
    have n2 : ¬ y = v := fun z => hn (z ▸ List.mem_cons_of_mem _ (List.mem_cons_self ..))
    refine .cons ((G.adj_del hab).mpr ⟨e, fun ⟨e1, e2⟩ => ?_, fun ⟨e1, e2⟩ => ?_⟩) (ih fun m => hn (List.mem_cons_of_mem _ m))
    · rcases hv with rfl | rfl
      · exact n1 e1
      · exact n2 e2
    · rcases hv with rfl | rfl
      · exact n2 e2
      · exact n1 e1
/-- a walk without a room twice from a to b that is not the corridor itself -/
theorem Wk.other (G : Good es) {a b : α} (hab : (a, b) ∈ es) {l : List α} (h : Wk es a l b) (nd : (a :: l).Nodup) (ne : l ≠ [b]) : Wk (del es (a, b)) a l b := by
  cases h with
  | nil => exact absurd rfl (G.ne a a hab)
  | @cons _ y _ l e q =>
    have nd' := List.nodup_cons.mp nd
    have hy : y ≠ b := fun z => by
      subst z
      exact ne (by rw [q.nil_of nd'.2])
    refine .cons ((G.adj_del hab).mpr ⟨e, fun z => hy z.2, fun z => ?_⟩) (q.avoid G hab (.inl rfl) nd'.1)
    exact G.ne a b hab z.1

/-! ### the walks as the program finds them -/
/-- what is walked behind cur: vis is walked already, cur is its last -/
def Ex (nb : α → List α) (last : α) : Nat → List α → α → List (List α)
  | 0, _, _ => []
  | n + 1, vis, cur => if cur = last then [[]] else (nb cur).flatMap fun r => if r ∈ vis then [] else (Ex nb last n (vis ++ [r]) r).map (r :: ·)
variable {nb : α → List α}
theorem Ex.sound (hnb : ∀ x y, y ∈ nb x → Adj es x y) {last : α} : ∀ (n : Nat) {vis : List α} {cur : α} {l : List α}, l ∈ Ex nb last n vis cur → vis.Nodup → Wk es cur l last ∧ (vis ++ l).Nodup
  | 0, _, _, _, h, _ => by cases h
  | n + 1, vis, cur, l, h, nd => by
    unfold Ex at h
    by_cases e : cur = last
    · rw [if_pos e, List.mem_singleton] at h
      subst h
      subst e
      exact ⟨.nil, by rw [List.append_nil]; exact nd⟩
    · rw [if_neg e, List.mem_flatMap] at h
      obtain ⟨r, hr, h⟩ := h
      by_cases m : r ∈ vis
      · rw [if_pos m] at h
        cases h
      · rw [if_neg m, List.mem_map] at h
        obtain ⟨l', h, rfl⟩ := h
        obtain ⟨w, nd'⟩ := Ex.sound hnb n h (nd_snoc1 nd m)
        rw [List.append_assoc] at nd'
        exact ⟨.cons (hnb _ _ hr) w, nd'⟩
theorem Ex.complete (hnb : ∀ x y, Adj es x y → y ∈ nb x) {last : α} : ∀ (n : Nat) {vis : List α} {cur : α} {l : List α}, Wk es cur l last → cur ∈ vis → (vis ++ l).Nodup → l.length < n → l ∈ Ex nb last n vis cur
  | 0, _, _, _, _, _, _, h => absurd h (Nat.not_lt_zero _)
  | n + 1, vis, cur, l, w, hc, nd, hl => by
    unfold Ex
    cases w with
    | nil => rw [if_pos rfl]; exact List.mem_singleton.mpr rfl
    | @cons _ r _ l e q =>
      have nv : ∀ x, x ∈ r :: l → ¬ x ∈ vis := fun x hx hv => (List.nodup_append.mp nd).2.2 x hv x hx rfl
      have hcl : cur ≠ last := fun z => nv last q.last_mem (z ▸ hc)
      rw [if_neg hcl, List.mem_flatMap]
      refine ⟨r, hnb _ _ e, ?_⟩
      rw [if_neg (nv r (List.mem_cons_self ..)), List.mem_map]
      refine ⟨l, Ex.complete hnb n q (List.mem_append.mpr (.inr (List.mem_singleton.mpr rfl))) (by rw [List.append_assoc]; exact nd) ?_, rfl⟩
      rw [List.length_cons] at hl
      omega
theorem nodup_flat {β γ : Type} {f : β → List γ} : ∀ {l : List β}, l.Nodup → (∀ x, x ∈ l → (f x).Nodup) → (∀ x y, x ∈ l → y ∈ l → ∀ z, z ∈ f x → z ∈ f y → x = y) → (l.flatMap f).Nodup
  | [], _, _, _ => List.nodup_nil
  | a :: l, nd, h1, h2 => by
    obtain ⟨n1, n2⟩ := List.nodup_cons.mp nd
    rw [List.flatMap_cons, List.nodup_append]
    refine ⟨h1 a (List.mem_cons_self ..), nodup_flat n2 (fun x hx => h1 x (List.mem_cons_of_mem _ hx)) (fun x y hx hy => h2 x y (List.mem_cons_of_mem _ hx) (List.mem_cons_of_mem _ hy)), fun x hx y hy e => ?_⟩
    subst e
    obtain ⟨z, hz, hy⟩ := List.mem_flatMap.mp hy
    exact n1 (h2 a z (List.mem_cons_self ..) (List.mem_cons_of_mem _ hz) x hx hy ▸ hz)
theorem nodup_mapc {γ : Type} {r : γ} : ∀ {l : List (List γ)}, l.Nodup → (l.map (r :: ·)).Nodup
  | [], _ => List.nodup_nil
  | a :: l, nd => by
    obtain ⟨n1, n2⟩ := List.nodup_cons.mp nd
    rw [List.map_cons, List.nodup_cons]
    refine ⟨fun m => ?_, nodup_mapc n2⟩
    obtain ⟨b, hb, e⟩ := List.mem_map.mp m
    exact n1 ((List.cons.inj e).2 ▸ hb)
theorem Ex.nodup (hnb : ∀ x, (nb x).Nodup) {last : α} : ∀ (n : Nat) (vis : List α) (cur : α), (Ex nb last n vis cur).Nodup
  | 0, _, _ => List.nodup_nil
  | n + 1, vis, cur => by
    unfold Ex
    by_cases e : cur = last
    · rw [if_pos e]
      simp
    · rw [if_neg e]
      refine nodup_flat (hnb cur) (fun r _ => ?_) (fun x y _ _ z hx hy => ?_)
      · by_cases m : r ∈ vis
        · rw [if_pos m]
          exact List.nodup_nil
        · rw [if_neg m]
          exact nodup_mapc (Ex.nodup hnb n _ _)
      · by_cases m : x ∈ vis
        · rw [if_pos m] at hx
          cases hx
        by_cases m' : y ∈ vis
        · rw [if_pos m'] at hy
          cases hy
        rw [if_neg m, List.mem_map] at hx
        rw [if_neg m', List.mem_map] at hy
        obtain ⟨_, _, rfl⟩ := hx
        obtain ⟨_, _, e⟩ := hy
        exact (List.cons.inj e).1.symm
theorem nodup_le {β : Type} [DecidableEq β] {l ks : List β} (nd : l.Nodup) (h : ∀ x, x ∈ l → x ∈ ks) : l.length ≤ ks.length := nd.length_le_of_subset h
/-- what the neighbours' table gives, for rooms ks -/
structure Nbs (es : List (α × α)) (ks : List α) (nb : α → List α) : Prop where
  mem : ∀ x y, y ∈ nb x ↔ Adj es x y
  nd : ∀ x, (nb x).Nodup
  inK : ∀ x y, (x, y) ∈ es → x ∈ ks ∧ y ∈ ks
theorem Nbs.wk_in {ks : List α} (N : Nbs es ks nb) {a b : α} {l : List α} (h : Wk es a l b) : ∀ x, x ∈ l → x ∈ ks := by
  induction h with
  | nil => intro x hx; cases hx
  | cons e _ ih =>
    intro x hx
    rcases List.mem_cons.mp hx with rfl | hx
    · exact e.elim (fun e => (N.inK _ _ e).2) (fun e => (N.inK _ _ e).1)
    · exact ih x hx
theorem Nbs.mem_Ex {ks : List α} (N : Nbs es ks nb) {a b : α} (ha : a ∈ ks) {n : Nat} (hn : ks.length ≤ n) {l : List α} : l ∈ Ex nb b n [a] a ↔ Wk es a l b ∧ (a :: l).Nodup := by
  constructor
  · intro h
    exact Ex.sound (fun x y => (N.mem x y).mp) n h (by simp)
  · rintro ⟨w, nd⟩
    refine Ex.complete (fun x y => (N.mem x y).mpr) n w (List.mem_singleton.mpr rfl) nd ?_
    have := nodup_le (ks := ks) nd (fun x hx => (List.mem_cons.mp hx).elim (fun e => e ▸ ha) (N.wk_in w x))
    rw [List.length_cons] at this
    omega
theorem len1_of {β : Type} {L : List β} {x : β} (nd : L.Nodup) (hx : x ∈ L) (h : ∀ y, y ∈ L → y = x) : L.length = 1 := by
  cases L with
  | nil => cases hx
  | cons a L =>
    cases L with
    | nil => rfl
    | cons b L =>
      have e1 := h a (List.mem_cons_self ..)
      have e2 := h b (List.mem_cons_of_mem _ (List.mem_cons_self ..))
      exact absurd (List.mem_cons.mpr (.inl (e1.trans e2.symm))) (List.nodup_cons.mp nd).1
/-- C3: one walk alone, exactly if without the corridor none leads across -/
theorem Nbs.one_iff {ks : List α} (N : Nbs es ks nb) (G : Good es) {a b : α} (hab : (a, b) ∈ es) {n : Nat} (hn : ks.length ≤ n) :
    (Ex nb b n [a] a).length = 1 ↔ ¬ Conn (del es (a, b)) a b := by
  have ha : a ∈ ks := (N.inK a b hab).1
  have m0 : [b] ∈ Ex nb b n [a] a := (N.mem_Ex ha hn).mpr ⟨.cons (.inl hab) .nil, by simp [G.ne a b hab]⟩
  constructor
  · intro h c
    obtain ⟨l, w, nd⟩ := c.simple
    have m1 : l ∈ Ex nb b n [a] a := (N.mem_Ex ha hn).mpr ⟨w.mono (fun x y q => ((G.adj_del hab).mp q).1), nd⟩
    have e : l = [b] := by
      match e : Ex nb b n [a] a, h with
      | [z], _ =>
        rw [e, List.mem_singleton] at m0 m1
        rw [m0, m1]
    subst e
    cases w with
    | cons q _ => exact ((G.adj_del hab).mp q).2.1 ⟨rfl, rfl⟩
  · intro c
    refine len1_of (Ex.nodup N.nd n _ _) m0 fun l hl => ?_
    obtain ⟨w, nd⟩ := (N.mem_Ex ha hn).mp hl
    exact Classical.byContradiction fun ne => c (w.other G hab nd ne).conn
theorem Nbs.pos {ks : List α} (N : Nbs es ks nb) (G : Good es) {a b : α} (hab : (a, b) ∈ es) {n : Nat} (hn : ks.length ≤ n) : 0 < (Ex nb b n [a] a).length := by
  have ha : a ∈ ks := (N.inK a b hab).1
  have m0 : [b] ∈ Ex nb b n [a] a := (N.mem_Ex ha hn).mpr ⟨.cons (.inl hab) .nil, by simp [G.ne a b hab]⟩
  exact List.length_pos_of_mem m0

/-! ### without rings -/
/-- C5: where each corridor is a bridge, one walk alone joins two rooms -/
theorem uniq (G : Good es) (H : ∀ a b, (a, b) ∈ es → ¬ Conn (del es (a, b)) a b) : ∀ {a b : α} {p q : List α}, Wk es a p b → (a :: p).Nodup → Wk es a q b → (a :: q).Nodup → p = q := by
  intro a b p q hp
  induction hp generalizing q with
  | nil => intro _ hq nq; exact (hq.nil_of nq).symm
  | @cons a v b p e w ih =>
    intro np hq nq
    obtain ⟨np1, np2⟩ := List.nodup_cons.mp np
    obtain ⟨nq1, nq2⟩ := List.nodup_cons.mp nq
    cases hq with
    | nil => exact absurd w.last_mem np1
    | @cons _ u _ q e' w' =>
      obtain ⟨nq1, nq2⟩ := List.nodup_cons.mp nq
      by_cases z : v = u
      · subst z
        rw [ih np2 w' nq2]
      · exfalso
        rcases e with e | e
        · refine H a v e ((Conn.one ((G.adj_del e).mpr ⟨e', fun c => z c.2.symm, fun c => ?_⟩)).trans ((w'.avoid G e (.inl rfl) nq1).conn.trans (w.avoid G e (.inl rfl) np1).conn.symm))
          exact G.ne a v e c.1
        · refine H v a e ((Conn.one ((G.adj_del e).mpr ⟨e', fun c => ?_, fun c => z c.2.symm⟩)).trans ((w'.avoid G e (.inr rfl) nq1).conn.trans (w.avoid G e (.inr rfl) np1).conn.symm)).symm
          exact G.ne v a e c.1.symm
theorem Nbs.tree_one {ks : List α} (N : Nbs es ks nb) (G : Good es) (H : ∀ a b, (a, b) ∈ es → ¬ Conn (del es (a, b)) a b) {a b : α} (ha : a ∈ ks) (c : Conn es a b) {n : Nat} (hn : ks.length ≤ n) :
    (Ex nb b n [a] a).length = 1 := by
  obtain ⟨l, w, nd⟩ := c.simple
  refine len1_of (Ex.nodup N.nd n _ _) ((N.mem_Ex ha hn).mpr ⟨w, nd⟩) fun q hq => ?_
  obtain ⟨w', nd'⟩ := (N.mem_Ex ha hn).mp hq
  exact uniq G H w' nd' w nd

/-! ### sides -/
variable {s : α} {T : Tb α}
/-- a corridor between rooms of one level -/
def Lev (T : Tb α) (es : List (α × α)) : Prop := ∃ x y, (x, y) ∈ es ∧ lv T x = lv T y
theorem lev_path (B : Bfs es s T) : ∀ (n : Nat) {x y : α}, lv T x = n → lv T y = n → x ∈ keys T → y ∈ keys T → x ≠ y →
    ∃ l, Wk es x l y ∧ (x :: l).Nodup ∧ l.length % 2 = 0 ∧ ∀ z, z ∈ x :: l → lv T z ≤ n
  | 0, x, y, h1, h2, hx, hy, ne => absurd ((B.lv_root hx h1).trans (B.lv_root hy h2).symm) ne
  | n + 1, x, y, h1, h2, hx, hy, ne => by
    obtain ⟨p, hp⟩ := B.up_some hx (by omega)
    obtain ⟨q, hq⟩ := B.up_some hy (by omega)
    obtain ⟨ap, lp, _, kp⟩ := B.up_adj hp
    obtain ⟨aq, lq, _, kq⟩ := B.up_adj hq
    have np : ∀ z, lv T z ≤ n → z ≠ x ∧ z ≠ y := fun z hz => ⟨fun e => by subst e; omega, fun e => by subst e; omega⟩
    by_cases e : p = q
    · subst e
      obtain ⟨n1, n2⟩ := np p (by omega)
      refine ⟨[p, y], .cons ap.symm (.cons aq .nil), by simp [ne, n1.symm, n2], by simp, fun z hz => ?_⟩
      simp only [List.mem_cons, List.not_mem_nil, or_false] at hz
      rcases hz with rfl | rfl | rfl <;> omega
    · obtain ⟨l, w, nd, ev, le⟩ := lev_path B n (x := p) (y := q) (by omega) (by omega) kp kq e
      refine ⟨p :: (l ++ [y]), .cons ap.symm (w.snoc aq), ?_, ?_, fun z hz => ?_⟩
      · rw [← List.cons_append, List.nodup_cons]
        refine ⟨fun m => ?_, nd_snoc1 nd (fun m => (np y (le y m)).2 rfl)⟩
        rcases List.mem_append.mp m with m | m
        · exact (np x (le x m)).1 rfl
        · exact ne (List.mem_singleton.mp m)
      · rw [List.length_cons, List.length_append]
        show (l.length + 1 + 1) % 2 = 0
        omega
      · rcases List.mem_cons.mp hz with rfl | hz
        · omega
        rw [← List.cons_append] at hz
        rcases List.mem_append.mp hz with hz | hz
        · exact Nat.le_succ_of_le (le z hz)
        · rw [List.mem_singleton.mp hz]
          omega
theorem even_path (B : Bfs es s T) (hN : ¬ Lev T es) {a b : α} {l : List α} (ha : a ∈ keys T) (h : Wk es a l b) : (lv T a + l.length) % 2 = lv T b % 2 := by
  induction h with
  | nil => rw [List.length_nil, Nat.add_zero]
  | @cons a c b l e q ih =>
    obtain ⟨hc, l1, l2⟩ := B.near ha e
    have ne : lv T a ≠ lv T c := fun z => hN (e.elim (fun e => ⟨a, c, e, z⟩) (fun e => ⟨c, a, e, z.symm⟩))
    have := ih hc
    rw [List.length_cons]
    omega
/-- C4: an even walk without a room twice joins two neighbours, exactly if a corridor joins rooms of one level -/
theorem Nbs.mixed_iff {ks : List α} (N : Nbs es ks nb) (G : Good es) (B : Bfs es s T) (hk : ∀ x, x ∈ ks → x ∈ keys T) {n : Nat} (hn : ks.length ≤ n) :
    (∃ a b, a ∈ ks ∧ b ∈ nb a ∧ ∃ l, l ∈ Ex nb b n [a] a ∧ l.length % 2 = 0) ↔ Lev T es := by
  constructor
  · rintro ⟨a, b, ha, hb, l, hl, ev⟩
    refine Classical.byContradiction fun hN => ?_
    obtain ⟨w, _⟩ := (N.mem_Ex ha hn).mp hl
    have e := (N.mem a b).mp hb
    have h1 := even_path B hN (hk a ha) w
    have h2 := even_path B hN (hk a ha) (.cons e .nil : Wk es a [b] b)
    have : [b].length = 1 := rfl
    omega
  · rintro ⟨x, y, h, e⟩
    obtain ⟨hx, hy⟩ := N.inK x y h
    obtain ⟨l, w, nd, ev, _⟩ := lev_path B _ e rfl (hk x hx) (hk y hy) (G.ne x y h)
    exact ⟨x, y, hx, (N.mem x y).mpr (.inl h), l, (N.mem_Ex hx hn).mpr ⟨w, nd⟩, ev⟩
/-- a corridor of one level is no bridge -/
theorem lev_ringed (B : Bfs es s T) (G : Good es) (hk : ∀ x y, (x, y) ∈ es → x ∈ keys T ∧ y ∈ keys T) (H : ∀ a b, (a, b) ∈ es → Brd T es a b) : ¬ Lev T es := by
  rintro ⟨x, y, h, e⟩
  rcases H x y h with ⟨u, _⟩ | ⟨u, _⟩
  · have := (B.up_adj u).2.1
    omega
  · have := (B.up_adj u).2.1
    omega
/-- two colours: no corridor of one level -/
theorem two_col (B : Bfs es s T) (c : α → Bool) (hc : ∀ x y, (x, y) ∈ es → c x ≠ c y) (hk : ∀ x y, (x, y) ∈ es → x ∈ keys T ∧ y ∈ keys T) : ¬ Lev T es := by
  have par : ∀ (n : Nat) {v : α}, lv T v = n → v ∈ keys T → (c v = c s ↔ n % 2 = 0) := by
    intro n
    induction n with
    | zero =>
      intro v h hv
      rw [B.lv_root hv h]
      simp
    | succ n ih =>
      intro v h hv
      obtain ⟨p, hp⟩ := B.up_some hv (by omega)
      obtain ⟨a, l, _, kp⟩ := B.up_adj hp
      have q := ih (v := p) (by omega) kp
      have ne : c p ≠ c v := a.elim (hc p v) (fun a => (hc v p a).symm)
      cases h1 : c v <;> cases h2 : c p <;> cases h3 : c s <;> simp_all <;> omega
  rintro ⟨x, y, h, e⟩
  obtain ⟨kx, ky⟩ := hk x y h
  have p1 := par _ rfl kx
  have p2 := par _ rfl ky
  have := hc x y h
  rw [e] at p1
  cases h1 : c x <;> cases h2 : c y <;> cases h3 : c s <;> simp_all
/-! ### banks -/
theorem bank_split {a b : α} (hab : (a, b) ∈ es) {v : α} (h : Conn es a v) : Conn (del es (a, b)) a v ∨ Conn (del es (a, b)) b v := by
  refine h.keep (P := fun v => Conn (del es (a, b)) a v ∨ Conn (del es (a, b)) b v) (fun x y e hx => ?_) (.inl .refl)
  by_cases m : Adj (del es (a, b)) x y
  · exact hx.imp (·.step m) (·.step m)
  · rcases e with e | e
    · by_cases z : (x, y) = (a, b)
      · cases z
        exact .inr .refl
      · exact absurd (.inl (mem_del.mpr ⟨e, z⟩)) m
    · by_cases z : (y, x) = (a, b)
      · cases z
        exact .inl .refl
      · exact absurd (.inr (mem_del.mpr ⟨e, z⟩)) m
/-- C7: both banks together -/
theorem banks_perm {ks : List α} {a b : α} (hab : (a, b) ∈ es) {T0 T1 : Tb α} (B0 : Bfs (del es (a, b)) a T0) (B1 : Bfs (del es (a, b)) b T1) (hn : ¬ Conn (del es (a, b)) a b) (nd : ks.Nodup) (hk : ∀ v, v ∈ ks ↔ Conn es a v) :
    (keys T0 ++ keys T1).Perm ks := by
  have sub : ∀ e, e ∈ del es (a, b) → e ∈ es := fun e h => (mem_del.mp h).1
  refine (List.perm_ext_iff_of_nodup ?_ nd).mpr fun v => ?_
  · rw [List.nodup_append]
    exact ⟨B0.nd, B1.nd, fun x hx y hy e => by subst e; exact hn ((B0.mem.mp hx).trans (B1.mem.mp hy).symm)⟩
  · rw [List.mem_append, B0.mem, B1.mem, hk]
    exact ⟨fun h => h.elim (·.mono sub) (fun h => (Conn.one (.inl hab)).trans (h.mono sub)), bank_split hab⟩
end
end Yf
set_option Elab.async false
set_option linter.all false
set_option maxRecDepth 100000
/-! M4: a room in the middle of each corridor: twice as many bridges; the two-sided part of a plan is joined. -/
namespace Yf
section
variable {α : Type} [DecidableEq α]
/-- Z: each corridor of es with its middle; fs: the corridors behind -/
structure Mid (es : List (α × α)) (Z : List ((α × α) × α)) (nrm : α → α → α × α) (fs : List (α × α)) : Prop where
  fst : Z.map (·.1) = es
  nd1 : es.Nodup
  nd2 : (Z.map (·.2)).Nodup
  fresh : ∀ z, z ∈ Z → ∀ x y, (x, y) ∈ es → z.2 ≠ x ∧ z.2 ≠ y
  nr : ∀ x y, nrm x y = (x, y) ∨ nrm x y = (y, x)
  perm : fs.Perm (Z.flatMap fun z => [nrm z.1.1 z.2, nrm z.1.2 z.2])
  good : Good es
  good' : Good fs
variable {es fs : List (α × α)} {Z : List ((α × α) × α)} {nrm : α → α → α × α}
theorem nd_map_inj {β γ : Type} {f : β → γ} : ∀ {l : List β}, (l.map f).Nodup → ∀ {x y : β}, x ∈ l → y ∈ l → f x = f y → x = y
  | [], _, _, _, h, _, _ => by cases h
  | a :: l, nd, x, y, hx, hy, e => by
    have nd : f a ∉ l.map f ∧ (l.map f).Nodup := List.nodup_cons.mp nd
    rcases List.mem_cons.mp hx with hx | hx <;> rcases List.mem_cons.mp hy with hy | hy
    · rw [hx, hy]
    · exact absurd (List.mem_map.mpr ⟨y, hy, by rw [← e, hx]⟩) nd.1
    · exact absurd (List.mem_map.mpr ⟨x, hx, by rw [e, hy]⟩) nd.1
    · exact nd_map_inj nd.2 hx hy e
theorem Mid.es_mem (M : Mid es Z nrm fs) {z} (hz : z ∈ Z) : z.1 ∈ es := M.fst ▸ List.mem_map.mpr ⟨z, hz, rfl⟩
theorem Mid.z_of (M : Mid es Z nrm fs) {e} (he : e ∈ es) : ∃ z, z ∈ Z ∧ z.1 = e := by
  rw [← M.fst] at he
  exact List.mem_map.mp he
theorem Mid.eq1 (M : Mid es Z nrm fs) {x y} (hx : x ∈ Z) (hy : y ∈ Z) (h : x.1 = y.1) : x = y := nd_map_inj (f := (·.1)) (by rw [M.fst]; exact M.nd1) hx hy h
theorem Mid.eq2 (M : Mid es Z nrm fs) {x y} (hx : x ∈ Z) (hy : y ∈ Z) (h : x.2 = y.2) : x = y := nd_map_inj (f := (·.2)) M.nd2 hx hy h
theorem Mid.mem (M : Mid es Z nrm fs) {e} : e ∈ fs ↔ ∃ z, z ∈ Z ∧ (e = nrm z.1.1 z.2 ∨ e = nrm z.1.2 z.2) := by
  rw [M.perm.mem_iff, List.mem_flatMap]
  constructor
  · rintro ⟨z, hz, h⟩
    simp only [List.mem_cons, List.not_mem_nil, or_false] at h
    exact ⟨z, hz, h⟩
  · rintro ⟨z, hz, h⟩
    refine ⟨z, hz, ?_⟩
    simp only [List.mem_cons, List.not_mem_nil, or_false]
    exact h
/-- half: u is a room of the corridor of z -/
def Half (z : (α × α) × α) (u : α) : Prop := u = z.1.1 ∨ u = z.1.2
theorem Mid.adj (M : Mid es Z nrm fs) {x y : α} : Adj fs x y ↔ ∃ z, z ∈ Z ∧ ((Half z x ∧ y = z.2) ∨ (Half z y ∧ x = z.2)) := by
  constructor
  · have key : ∀ u v, (u, v) ∈ fs → ∃ z, z ∈ Z ∧ ((Half z u ∧ v = z.2) ∨ (Half z v ∧ u = z.2)) := by
      intro u v h
      obtain ⟨z, hz, h⟩ := M.mem.mp h
      refine ⟨z, hz, ?_⟩
      rcases h with h | h
      · rcases M.nr z.1.1 z.2 with e | e <;> rw [e] at h <;> cases h
        · exact .inl ⟨.inl rfl, rfl⟩
        · exact .inr ⟨.inl rfl, rfl⟩
      · rcases M.nr z.1.2 z.2 with e | e <;> rw [e] at h <;> cases h
        · exact .inl ⟨.inr rfl, rfl⟩
        · exact .inr ⟨.inr rfl, rfl⟩
    rintro (h | h)
    · exact key x y h
    · obtain ⟨z, hz, h⟩ := key y x h
      exact ⟨z, hz, h.symm⟩
  · have key : ∀ z u, z ∈ Z → Half z u → Adj fs u z.2 := by
      intro z u hz h
      rcases h with rfl | rfl
      · rcases M.nr z.1.1 z.2 with e | e
        · exact .inl (M.mem.mpr ⟨z, hz, .inl e.symm⟩)
        · exact .inr (M.mem.mpr ⟨z, hz, .inl e.symm⟩)
      · rcases M.nr z.1.2 z.2 with e | e
        · exact .inl (M.mem.mpr ⟨z, hz, .inr e.symm⟩)
        · exact .inr (M.mem.mpr ⟨z, hz, .inr e.symm⟩)
    rintro ⟨z, hz, ⟨h, rfl⟩ | ⟨h, rfl⟩⟩
    · exact key z x hz h
    · exact (key z y hz h).symm
theorem Mid.half_ne (M : Mid es Z nrm fs) {z z'} (hz : z ∈ Z) (hz' : z' ∈ Z) {u : α} (h : Half z u) : u ≠ z'.2 := by
  have q := M.fresh z' hz' z.1.1 z.1.2 (M.es_mem hz)
  rcases h with rfl | rfl
  · exact fun e => q.1 e.symm
  · exact fun e => q.2 e.symm
/-- the two ends of z's corridor, in either order -/
def Ends2 (z : (α × α) × α) (u w : α) : Prop := (u = z.1.1 ∧ w = z.1.2) ∨ (u = z.1.2 ∧ w = z.1.1)
theorem Ends2.l {z : (α × α) × α} {u w : α} (h : Ends2 z u w) : Half z u := h.elim (fun h => .inl h.1) (fun h => .inr h.1)
theorem Ends2.r {z : (α × α) × α} {u w : α} (h : Ends2 z u w) : Half z w := h.elim (fun h => .inr h.2) (fun h => .inl h.2)
theorem Ends2.of {z : (α × α) × α} {u w x : α} (h : Ends2 z u w) (q : Half z x) : x = u ∨ x = w := by
  rcases h with ⟨rfl, rfl⟩ | ⟨rfl, rfl⟩
  · exact q
  · exact q.symm
theorem Mid.adj_del (M : Mid es Z nrm fs) {z} (hz : z ∈ Z) {u : α} (hu : Half z u) {x y : α} : Adj (del fs (nrm u z.2)) x y ↔ Adj fs x y ∧ ¬ (x = u ∧ y = z.2) ∧ ¬ (x = z.2 ∧ y = u) := by
  have hm : nrm u z.2 ∈ fs := M.mem.mpr ⟨z, hz, hu.imp (fun e => by rw [e]) (fun e => by rw [e])⟩
  rcases M.nr u z.2 with e | e
  · rw [e] at hm ⊢
    exact M.good'.adj_del hm
  · rw [e] at hm ⊢
    rw [M.good'.adj_del hm]
    exact ⟨fun h => ⟨h.1, h.2.2, h.2.1⟩, fun h => ⟨h.1, h.2.2, h.2.1⟩⟩
/-- the corridor's half is a bridge exactly if the corridor is -/
theorem Mid.half_iff (M : Mid es Z nrm fs) {z} (hz : z ∈ Z) {u w : α} (h : Ends2 z u w) : Conn (del fs (nrm u z.2)) u z.2 ↔ Conn (del es z.1) u w := by
  have ne12 : z.1.1 ≠ z.1.2 := M.good.ne _ _ (M.es_mem hz)
  have nuw : u ≠ w := by
    rcases h with ⟨rfl, rfl⟩ | ⟨rfl, rfl⟩
    · exact ne12
    · exact ne12.symm
  constructor
  · intro c
    have := c.keep (P := fun x => ((∀ z', z' ∈ Z → x ≠ z'.2) → Conn (del es z.1) u x) ∧ ∀ z', z' ∈ Z → x = z'.2 → Conn (del es z.1) u (if z'.1 = z.1 then w else z'.1.1)) ?_ ?_
    · have q := this.2 z hz rfl
      rw [if_pos rfl] at q
      exact q
    · intro x y ad ⟨p1, p2⟩
      obtain ⟨ad, n1, n2⟩ := (M.adj_del hz h.l).mp ad
      obtain ⟨z', hz', ⟨hx, rfl⟩ | ⟨hy, rfl⟩⟩ := M.adj.mp ad
      · have cx := p1 fun z2 hz2 => M.half_ne hz' hz2 hx
        refine ⟨fun q => absurd rfl (q z' hz'), fun z2 hz2 e => ?_⟩
        have e := M.eq2 hz' hz2 e
        subst e
        by_cases e : z'.1 = z.1
        · rw [if_pos e]
          have e' := M.eq1 hz' hz e
          subst e'
          rcases h.of hx with rfl | rfl
          · exact absurd ⟨rfl, rfl⟩ n1
          · exact cx
        · rw [if_neg e]
          rcases hx with rfl | rfl
          · exact cx
          · exact cx.step (.inr (mem_del.mpr ⟨M.es_mem hz', e⟩))
      · have cx := p2 z' hz' rfl
        refine ⟨fun _ => ?_, fun z2 hz2 e => absurd e (M.half_ne hz' hz2 hy)⟩
        by_cases e : z'.1 = z.1
        · rw [if_pos e] at cx
          have e' := M.eq1 hz' hz e
          subst e'
          rcases h.of hy with rfl | rfl
          · exact absurd ⟨rfl, rfl⟩ n2
          · exact cx
        · rw [if_neg e] at cx
          rcases hy with rfl | rfl
          · exact cx
          · exact cx.step (.inl (mem_del.mpr ⟨M.es_mem hz', e⟩))
    · exact ⟨fun _ => .refl, fun z' hz' e => absurd e (M.half_ne hz hz' h.l)⟩
  · intro c
    have step : ∀ x y, Adj (del es z.1) x y → Conn (del fs (nrm u z.2)) x y := by
      have key : ∀ x y, (x, y) ∈ del es z.1 → Conn (del fs (nrm u z.2)) x y := by
        intro x y m
        obtain ⟨m, ne⟩ := mem_del.mp m
        obtain ⟨z', hz', e⟩ := M.z_of m
        have hx : Half z' x := .inl (by rw [e])
        have hy : Half z' y := .inr (by rw [e])
        have nz : z'.2 ≠ z.2 := fun q => ne (by rw [← e, M.eq2 hz' hz q])
        have hux := M.half_ne hz' hz hx
        have huy := M.half_ne hz' hz hy
        refine (Conn.one ((M.adj_del hz h.l).mpr ⟨M.adj.mpr ⟨z', hz', .inl ⟨hx, rfl⟩⟩, fun q => nz q.2, fun q => hux q.1⟩)).step ((M.adj_del hz h.l).mpr ⟨M.adj.mpr ⟨z', hz', .inr ⟨hy, rfl⟩⟩, fun q => huy q.2, fun q => nz q.1⟩)
      rintro x y (m | m)
      · exact key x y m
      · exact (key y x m).symm
    have cw : Conn (del fs (nrm u z.2)) u w := by
      clear h nuw
      induction c with
      | refl => exact .refl
      | step _ a ih => exact ih.trans (step _ _ a)
    refine cw.step ((M.adj_del hz h.l).mpr ⟨M.adj.mpr ⟨z, hz, .inl ⟨h.r, rfl⟩⟩, fun q => nuw q.1.symm, fun q => M.half_ne hz hz h.r q.1⟩)
/-- a bridge -/
def Bri (es : List (α × α)) (e : α × α) : Prop := ¬ Conn (del es e) e.1 e.2
theorem Mid.bri (M : Mid es Z nrm fs) {z} (hz : z ∈ Z) : (Bri fs (nrm z.1.1 z.2) ↔ Bri es z.1) ∧ (Bri fs (nrm z.1.2 z.2) ↔ Bri es z.1) := by
  have key : ∀ u w, Ends2 z u w → (Bri fs (nrm u z.2) ↔ ¬ Conn (del es z.1) u w) := by
    intro u w h
    rw [← M.half_iff hz h]
    unfold Bri
    rcases M.nr u z.2 with e | e
    · rw [e]
    · rw [e]
      exact ⟨fun h c => h c.symm, fun h c => h c.symm⟩
  refine ⟨key _ _ (.inl ⟨rfl, rfl⟩), (key _ _ (.inr ⟨rfl, rfl⟩)).trans ?_⟩
  unfold Bri
  exact ⟨fun h c => h c.symm, fun h c => h c.symm⟩
open Classical in
theorem Mid.count (M : Mid es Z nrm fs) : (fs.filter fun e => decide (Bri fs e)).length = 2 * (es.filter fun e => decide (Bri es e)).length := by
  have h : ∀ (L : List ((α × α) × α)), (∀ z, z ∈ L → z ∈ Z) → ((L.flatMap fun z => [nrm z.1.1 z.2, nrm z.1.2 z.2]).filter fun e => decide (Bri fs e)).length = 2 * ((L.map (·.1)).filter fun e => decide (Bri es e)).length := by
    intro L
    induction L with
    | nil => intro _; rfl
    | cons z L ih =>
      intro hL
      have q := ih fun z hz => hL z (List.mem_cons_of_mem _ hz)
      obtain ⟨b1, b2⟩ := M.bri (hL z (List.mem_cons_self ..))
      rw [List.flatMap_cons, List.filter_append, List.length_append, q, List.map_cons, List.filter_cons, List.filter_cons, List.filter_cons, List.filter_nil]
      by_cases b : Bri es z.1
      · rw [if_pos (decide_eq_true (b1.mpr b)), if_pos (decide_eq_true (b2.mpr b)), if_pos (decide_eq_true b)]
        simp only [List.length_cons, List.length_nil]
        omega
      · rw [if_neg (by simpa using fun c => b (b1.mp c)), if_neg (by simpa using fun c => b (b2.mp c)), if_neg (by simpa using b)]
        simp only [List.length_nil]
        omega
  have q := h Z (fun _ h => h)
  rw [M.fst] at q
  rw [← q]
  exact (M.perm.filter _).length_eq
theorem Mid.col (M : Mid es Z nrm fs) : ∀ x y, (x, y) ∈ fs → decide (x ∈ Z.map (·.2)) ≠ decide (y ∈ Z.map (·.2)) := by
  have key : ∀ z u, z ∈ Z → Half z u → decide (u ∈ Z.map (·.2)) = false ∧ decide (z.2 ∈ Z.map (·.2)) = true := fun z u hz h => by
    refine ⟨decide_eq_false fun m => ?_, decide_eq_true (List.mem_map.mpr ⟨z, hz, rfl⟩)⟩
    obtain ⟨z', hz', e⟩ := List.mem_map.mp m
    exact M.half_ne hz hz' h e.symm
  intro x y h
  obtain ⟨z, hz, ⟨h', rfl⟩ | ⟨h', rfl⟩⟩ := M.adj.mp (.inl h)
  · rw [(key z x hz h').1, (key z x hz h').2]
    exact Bool.false_ne_true
  · rw [(key z y hz h').1, (key z y hz h').2]
    exact Bool.false_ne_true.symm
theorem Mid.conn (M : Mid es Z nrm fs) {a b : α} (h : Conn es a b) : Conn fs a b := by
  induction h with
  | refl => exact .refl
  | @step x y _ e ih =>
    have key : ∀ x y, (x, y) ∈ es → Conn fs x y := fun x y m => by
      obtain ⟨z, hz, e⟩ := M.z_of m
      exact (Conn.one (M.adj.mpr ⟨z, hz, .inl ⟨.inl (by rw [e]), rfl⟩⟩)).step (M.adj.mpr ⟨z, hz, .inr ⟨.inr (by rw [e]), rfl⟩⟩)
    refine ih.trans ?_
    rcases e with e | e
    · exact key _ _ e
    · exact (key _ _ e).symm
theorem Mid.conn_mid (M : Mid es Z nrm fs) {z} (hz : z ∈ Z) : Conn fs z.1.1 z.2 := .one (M.adj.mpr ⟨z, hz, .inl ⟨.inl rfl, rfl⟩⟩)

/-! ### the two-sided part -/
/-- the corridors between rooms of unlike sides -/
def two (es : List (α × α)) (sd : List (α × Int)) : List (α × α) := es.filter fun e => decide ((sd.lookup e.1).isSome = true ∧ (sd.lookup e.2).isSome = true ∧ sd.lookup e.1 ≠ sd.lookup e.2)
theorem mem_two {es : List (α × α)} {sd : List (α × Int)} {x y : α} : (x, y) ∈ two es sd ↔ (x, y) ∈ es ∧ ∃ i j, sd.lookup x = some i ∧ sd.lookup y = some j ∧ i ≠ j := by
  unfold two
  rw [List.mem_filter, decide_eq_true_eq]
  constructor
  · rintro ⟨h, a, b, c⟩
    obtain ⟨i, hi⟩ := Option.isSome_iff_exists.mp a
    obtain ⟨j, hj⟩ := Option.isSome_iff_exists.mp b
    refine ⟨h, i, j, hi, hj, fun e => c ?_⟩
    show sd.lookup x = sd.lookup y
    rw [hi, hj, e]
  · rintro ⟨h, i, j, hi, hj, ne⟩
    refine ⟨h, by show (sd.lookup x).isSome = true; rw [hi]; rfl, by show (sd.lookup y).isSome = true; rw [hj]; rfl, fun e => ne ?_⟩
    have e : sd.lookup x = sd.lookup y := e
    rw [hi, hj] at e
    exact Option.some.inj e
theorem lku_snoc {β : Type} {T : List (α × β)} {v w : α} {x : β} (hw : ¬ w ∈ T.map (·.1)) : (T ++ [(w, x)]).lookup v = if v = w then some x else T.lookup v := by
  induction T with
  | nil =>
    rw [List.nil_append, List.lookup_cons]
    by_cases e : v = w
    · subst e
      rw [show (v == v) = true from beq_self_eq_true _, if_pos rfl]
    · rw [show (v == w) = false from beq_eq_false_iff_ne.mpr e, if_neg e]
  | cons p T ih =>
    have hw' : ¬ w = p.1 ∧ ¬ w ∈ T.map (·.1) := ⟨fun e => hw (e ▸ List.mem_cons_self ..), fun m => hw (List.mem_cons_of_mem _ m)⟩
    rw [List.cons_append, List.lookup_cons, List.lookup_cons]
    by_cases e : v = p.1
    · subst e
      rw [show (p.1 == p.1) = true from beq_self_eq_true _]
      show some p.2 = _
      rw [if_neg (fun e => hw'.1 e.symm)]
    · rw [show (v == p.1) = false from beq_eq_false_iff_ne.mpr e]
      exact ih hw'.2
theorem lku_mem {β : Type} {T : List (α × β)} {v : α} {x} (h : T.lookup v = some x) : (v, x) ∈ T := by
  induction T with
  | nil => cases h
  | cons p T ih =>
    rw [List.lookup_cons] at h
    by_cases e : v = p.1
    · subst e
      rw [show (p.1 == p.1) = true from beq_self_eq_true _] at h
      have : p.2 = x := Option.some.inj h
      subst this
      exact List.mem_cons_self ..
    · rw [show (v == p.1) = false from beq_eq_false_iff_ne.mpr e] at h
      exact List.mem_cons_of_mem _ (ih h)
theorem lku_of {β : Type} {T : List (α × β)} {v : α} (h : v ∈ T.map (·.1)) : ∃ x, T.lookup v = some x := by
  induction T with
  | nil => cases h
  | cons p T ih =>
    rw [List.lookup_cons]
    by_cases e : v = p.1
    · subst e
      rw [show (p.1 == p.1) = true from beq_self_eq_true _]
      exact ⟨_, rfl⟩
    · rw [show (v == p.1) = false from beq_eq_false_iff_ne.mpr e]
      exact ih ((List.mem_cons.mp h).resolve_left e)
theorem lku_key {β : Type} {T : List (α × β)} {v : α} {x} (h : T.lookup v = some x) : v ∈ T.map (·.1) := List.mem_map.mpr ⟨_, lku_mem h, rfl⟩
/-- the sides while rooms wait: done but those that wait and the one at work, of whose neighbours those in ds are there -/
structure Sd (es : List (α × α)) (s : α) (sd : List (α × Int)) (wt : List α) (cur : Option α) (ds : List α) : Prop where
  nd : (sd.map (·.1)).Nodup
  root : s ∈ sd.map (·.1)
  bit : ∀ v i, sd.lookup v = some i → i = 0 ∨ i = 1
  wtk : ∀ v, v ∈ wt → v ∈ sd.map (·.1)
  curk : ∀ v, cur = some v → v ∈ sd.map (·.1)
  done : ∀ v, v ∈ sd.map (·.1) → v ∈ wt ∨ cur = some v ∨ ∀ w, Adj es v w → w ∈ sd.map (·.1)
  here : ∀ w, w ∈ ds → w ∈ sd.map (·.1)
  cn : ∀ v, v ∈ sd.map (·.1) → Conn (two es sd) s v
  inE : ∀ v, v ∈ sd.map (·.1) → Conn es s v
variable {s : α} {sd : List (α × Int)} {wt ds : List α} {cur : Option α}
theorem Sd.start : Sd es s [(s, 0)] [s] none [] := by
  have k : ∀ v, v ∈ ([(s, (0 : Int))]).map (·.1) → v = s := fun v h => List.mem_singleton.mp h
  refine ⟨by simp, List.mem_singleton.mpr rfl, fun v i h => ?_, fun v h => h, fun v h => (nomatch h), fun v h => .inl h, fun w h => (nomatch h), fun v h => k v h ▸ .refl, fun v h => k v h ▸ .refl⟩
  have m := lku_mem h
  rw [List.mem_singleton] at m
  cases m
  exact .inl rfl
/-- a room is taken from those that wait -/
theorem Sd.take {r0 : α} (S : Sd es s sd (wt ++ [r0]) none []) : Sd es s sd wt (some r0) [] :=
  { S with
    wtk := fun v h => S.wtk v (List.mem_append.mpr (.inl h)),
    curk := fun v h => S.wtk v (List.mem_append.mpr (.inr (List.mem_singleton.mpr (Option.some.inj h).symm))),
    done := fun v h => (S.done v h).elim (fun h => (List.mem_append.mp h).elim .inl (fun h => .inr (.inl (by rw [List.mem_singleton.mp h])))) (fun h => h.elim (fun h => nomatch h) (fun h => .inr (.inr h))) }
theorem Sd.skip (S : Sd es s sd wt cur ds) {w : α} (h : w ∈ sd.map (·.1)) : Sd es s sd wt cur (ds ++ [w]) :=
  { S with here := fun x hx => (List.mem_append.mp hx).elim (S.here x) (fun hx => (List.mem_singleton.mp hx) ▸ h) }
theorem two_mono {w : α} {i : Int} (hw : ¬ w ∈ sd.map (·.1)) : ∀ e, e ∈ two es sd → e ∈ two es (sd ++ [(w, i)]) := by
  rintro ⟨x, y⟩ h
  obtain ⟨h, a, b, ha, hb, ne⟩ := mem_two.mp h
  have nx : ¬ x = w := fun e => hw (e ▸ lku_key ha)
  have ny : ¬ y = w := fun e => hw (e ▸ lku_key hb)
  refine mem_two.mpr ⟨h, a, b, ?_, ?_, ne⟩
  · rw [lku_snoc hw, if_neg nx]
    exact ha
  · rw [lku_snoc hw, if_neg ny]
    exact hb
theorem Sd.put {r w : α} {i : Int} (S : Sd es s sd wt (some r) ds) (hr : sd.lookup r = some i) (ad : Adj es r w) (hw : ¬ w ∈ sd.map (·.1)) :
    Sd es s (sd ++ [(w, 1 - i)]) (wt ++ [w]) (some r) (ds ++ [w]) := by
  have ks : ∀ v, v ∈ (sd ++ [(w, 1 - i)]).map (·.1) ↔ v ∈ sd.map (·.1) ∨ v = w := fun v => by
    rw [List.map_append, List.mem_append]
    exact or_congr_right List.mem_singleton
  have old : ∀ {v x}, sd.lookup v = some x → (sd ++ [(w, 1 - i)]).lookup v = some x := fun {v x} h => by
    have nv : ¬ v = w := fun e => hw (e ▸ lku_key h)
    rw [lku_snoc hw, if_neg nv]
    exact h
  have hnew : (sd ++ [(w, 1 - i)]).lookup w = some (1 - i) := by rw [lku_snoc hw, if_pos rfl]
  refine ⟨by rw [List.map_append]; exact nd_snoc1 S.nd hw, (ks s).mpr (.inl S.root), fun v j h => ?_, fun v h => ?_, fun v h => (ks v).mpr (.inl (S.curk v h)), fun v h => ?_, fun v h => ?_, fun v h => ?_, fun v h => ?_⟩
  · rw [lku_snoc hw] at h
    by_cases e : v = w
    · rw [if_pos e] at h
      have e := Option.some.inj h
      subst e
      rcases S.bit r i hr with rfl | rfl
      · exact .inr rfl
      · exact .inl rfl
    · rw [if_neg e] at h
      exact S.bit v j h
  · rcases List.mem_append.mp h with h | h
    · exact (ks v).mpr (.inl (S.wtk v h))
    · exact (ks v).mpr (.inr (List.mem_singleton.mp h))
  · rcases (ks v).mp h with h | rfl
    · rcases S.done v h with h | h | h
      · exact .inl (List.mem_append.mpr (.inl h))
      · exact .inr (.inl h)
      · exact .inr (.inr fun x hx => (ks x).mpr (.inl (h x hx)))
    · exact .inl (List.mem_append.mpr (.inr (List.mem_singleton.mpr rfl)))
  · rcases List.mem_append.mp h with h | h
    · exact (ks v).mpr (.inl (S.here v h))
    · exact (ks v).mpr (.inr (List.mem_singleton.mp h))
  · rcases (ks v).mp h with h | rfl
    · exact (S.cn v h).mono (two_mono hw)
    · refine ((S.cn r (lku_key hr)).mono (two_mono hw)).step ?_
      have ne : i ≠ 1 - i := by omega
      rcases ad with ad | ad
      · exact .inl (mem_two.mpr ⟨ad, i, 1 - i, old hr, hnew, ne⟩)
      · exact .inr (mem_two.mpr ⟨ad, 1 - i, i, hnew, old hr, ne.symm⟩)
  · rcases (ks v).mp h with h | rfl
    · exact S.inE v h
    · exact (S.inE r (lku_key hr)).step ad
theorem Sd.next {r : α} (S : Sd es s sd wt (some r) ds) (hds : ∀ w, Adj es r w → w ∈ ds) : Sd es s sd wt none [] :=
  { S with
    curk := fun v h => (nomatch h),
    here := fun v h => (nomatch h),
    done := fun v h => (S.done v h).elim .inl (fun h => .inr (.inr (h.elim (fun e w hw => S.here w (hds w ((Option.some.inj e).symm ▸ hw))) (fun h => h)))) }
/-- all is joined by what is left -/
theorem Sd.fin (S : Sd es s sd [] none []) {v : α} (h : Conn es s v) : v ∈ sd.map (·.1) ∧ Conn (two es sd) s v := by
  have m : v ∈ sd.map (·.1) := h.keep (P := fun v => v ∈ sd.map (·.1)) (fun x y a hx => by
    rcases S.done x hx with h | h | h
    · cases h
    · cases h
    · exact h y a) S.root
  exact ⟨m, S.cn v m⟩
end
end Yf
set_option Elab.async false
set_option linter.all false
set_option maxRecDepth 100000
set_option maxHeartbeats 4000000
/-! W0: the text by places; small helps for the walks. -/
namespace Yf
open PySem PySem.Spec PyProof.Rows L2
/-! ### a dict comprehension over a walk -/
theorem dc_it {J : It} {n : Nat} {G : Hp → Prop} {Y : Nat → Hp → V → Hp → Prop} (w : Walk J n G Y) {g : TG} {tt : TT} {tk tv : TE} {vs : List Nat} {σ : L2.St} {H1 : Hp} {D : Addr} {Qd : Hp → Prop} (Pv : Nat → Hp → Prop) (h0 : Pv 0 (upd H1 D (.dK []))) (hG : ∀ i H, i ≤ n → Pv i H → G H)
    (hs : ∀ i x H H', i < n → Pv i H → Y i H x H' → g x (wipe σ vs) H' fun σ2 H2 => wipe σ2 vs = wipe σ vs ∧ tt σ2 H2 fun b H3 =>
      if b = true then tk σ2 H3 fun y H4 => tv σ2 H4 fun z H5 => ∃ kvs k, y = kV k ∧ H5 D = some (.dK kvs) ∧ kvs.length < sizeLine ∧ Pv (i + 1) (upd H5 D (.dK (putK kvs k z))) else Pv (i + 1) H3) (hd : ∀ H, Pv n H → Qd H) :
    ∃ W : Nat → Nat → Hp → Prop, (∃ m, W 0 m (upd H1 D (.dK []))) ∧ ∀ i m H, W i m H →
      (J.stop i H ∧ Qd H) ∨ (J.go i H ∧ ∃ Nx : Hp → Prop, (∀ H', Nx H' → ∃ m', m' < m ∧ W (i + 1) m' H') ∧ ∀ x H', J.yld i H x H' → g x (wipe σ vs) H' fun σ2 H2 => wipe σ2 vs = wipe σ vs ∧ tt σ2 H2 fun b H3 =>
        if b = true then tk σ2 H3 fun y H4 => tv σ2 H4 fun z H5 => ∃ kvs k, y = kV k ∧ H5 D = some (.dK kvs) ∧ kvs.length < sizeLine ∧ Nx (upd H5 D (.dK (putK kvs k z))) else Nx H3) := by
  refine ⟨fun i m H => m = n - i ∧ i ≤ n ∧ Pv i H, ⟨n, by simp, Nat.zero_le _, h0⟩, ?_⟩
  rintro i m H ⟨rfl, hi, p⟩
  have q := hG i H hi p
  by_cases hlt : i < n
  · refine .inr ⟨w.goes i H hlt q, Pv (i + 1), fun H' p' => ⟨n - (i + 1), by omega, rfl, hlt, p'⟩, fun x H' y => hs i x H H' hlt p (w.yields i H x H' hlt q y)⟩
  · have e : i = n := by omega
    subst e
    exact .inl ⟨w.stops H q, hd H p⟩
/-! ### heaps -/
theorem _root_.L2.Same.upd_new {H : Hp} {p : Addr} {o : HO} (h : H p = none) : Same H (upd H p o) := fun b u e => by
  rw [upd_ne (ne_of_none e h)]
  exact e
theorem _root_.L2.Same.to_new {H H' : Hp} {p : Addr} {o : HO} (s : Same H H') (h : H' p = none) : Same H (upd H' p o) := s.trans (Same.upd_new h)
/-- a store at what is new since H -/
theorem _root_.L2.Same.to_own {H H' : Hp} {p : Addr} {o : HO} (s : Same H H') (h : H p = none) : Same H (upd H' p o) := fun b u e => by
  rw [upd_ne (ne_of_none e h)]
  exact s b u e
theorem _root_.L2.Same.tup {K : PySem.W.Frag} {H H' : Hp} {a : Addr} {xs : List V} (e : Same H H') (h : SqT K H a xs) : SqT K H' a xs := by
  rcases h with (h | ⟨o, h⟩) | h
  · exact .inl (.inl (e _ _ h))
  · exact .inl (.inr ⟨o, e _ _ h⟩)
  · exact .inr h
theorem _root_.L2.Same.pz {H H' : Hp} {xs : List V} {es : List (Str × Str)} (s : Same H H') (h : Pz H xs es) : Pz H' xs es := h.mono fun _ _ e => s _ _ e
/-- slots: two of one heap -/
theorem ref_inj {a b : Addr} (h : V.ref a = V.ref b) : a = b := V.ref.inj h
/-- an entry of a list of pairs -/
theorem Pz.get {H : Hp} : ∀ {xs : List V} {es : List (Str × Str)}, Pz H xs es → ∀ {i : Nat} {x : V}, xs[i]? = some x → ∃ t a b, x = .ref t ∧ es[i]? = some (a, b) ∧ H t = some (.tup [.str a, .str b])
  | _, _, .nil, i, x, h => by simp at h
  | _, _, .cons (b := e) h t, 0, x, hx => by
    have hx := Option.some.inj hx
    subst hx
    obtain ⟨t, e1, e2⟩ := h
    exact ⟨t, e.1, e.2, e1, rfl, e2⟩
  | _, _, .cons h t, i + 1, x, hx => Pz.get t (i := i) hx
theorem map_get {α β : Type} {f : α → β} {xs : List α} {i : Nat} {y : β} (h : (xs.map f)[i]? = some y) : ∃ x, xs[i]? = some x ∧ y = f x := by
  rw [List.getElem?_map] at h
  cases e : xs[i]? with
  | none => rw [e] at h; cases h
  | some x => rw [e] at h; exact ⟨x, rfl, (Option.some.inj h).symm⟩
theorem lt_of_get {α : Type} {xs : List α} {i : Nat} {y : α} (h : xs[i]? = some y) : i < xs.length := (List.getElem?_eq_some_iff.mp h).1
theorem valV_at {κ : Type} [DecidableEq κ] : ∀ {kvs : List (κ × V)}, (kvs.map (·.1)).Nodup → ∀ {i : Nat} {k : κ} {v : V}, kvs[i]? = some (k, v) → valV kvs k = some v
  | [], _, i, k, v, h => by simp at h
  | p :: r, nd, 0, k, v, h => by
    have h : p = (k, v) := Option.some.inj h
    subst h
    exact valV_pos rfl
  | p :: r, nd, i + 1, k, v, h => by
    have nd : p.1 ∉ r.map (·.1) ∧ (r.map (·.1)).Nodup := List.nodup_cons.mp nd
    have h : r[i]? = some (k, v) := h
    have ne : ¬ p.1 = k := fun e => nd.1 (e ▸ List.mem_map.mpr ⟨_, List.mem_of_getElem? h, rfl⟩)
    rw [valV_neg ne]
    exact valV_at nd.2 h
theorem valV_mem {κ : Type} [DecidableEq κ] : ∀ {kvs : List (κ × V)} {k : κ} {v : V}, valV kvs k = some v → (k, v) ∈ kvs
  | [], k, v, h => (nomatch h)
  | p :: r, k, v, h => by
    by_cases e : p.1 = k
    · rw [valV_pos e] at h
      subst e
      rw [← Option.some.inj h]
      exact List.mem_cons_self ..
    · rw [valV_neg e] at h
      exact List.mem_cons_of_mem _ (valV_mem h)
end Yf
set_option Elab.async false
set_option linter.all false
set_option maxRecDepth 100000
set_option maxHeartbeats 4000000
/-! W1: joined_rooms. -/
namespace Yf
open PySem PySem.Spec PyProof.Rows L2
/-- the names of built-in things are no names of the module -/
structure Bi (mg : Str → Option Value) : Prop where
  len : mg "len" = none
  sorted : mg "sorted" = none
  min : mg "min" = none
  list : mg "list" = none
  tuple : mg "tuple" = none
  dict : mg "dict" = none
  int : mg "int" = none
  isinst : mg "isinstance" = none
  all : mg "all" = none
  range : mg "range" = none
  enum : mg "enumerate" = none
  str : mg "str" = none
  bool : mg "bool" = none
/-- the neighbours' lists in the dict kvs: R says who is whose -/
structure Nb (H0 H : Hp) (kvs : List (Key × V)) (R : Str → Str → Prop) (c : Str → Nat) : Prop where
  ent : ∀ k v, valV kvs k = some v → ∃ (x : Str) (l : Addr) (ys : List Str), k = .inr x ∧ v = .ref l ∧ H0 l = none ∧ H l = some (.lst (ys.map V.str)) ∧ ys.length ≤ c x ∧ ∀ y, y ∈ ys ↔ R x y
  no : ∀ x, valV kvs (.inr x) = none → ∀ y, ¬ R x y
  inj : ∀ k k' v, valV kvs k = some v → valV kvs k' = some v → k = k'
  nd : (kvs.map (·.1)).Nodup
/-- what joined_rooms gives -/
structure NbT (H : Hp) (kvs : List (Key × V)) (es : List (Str × Str)) : Prop where
  ent : ∀ x v, valV kvs (.inr x) = some v → ∃ (l : Addr) (ys : List Str), v = .ref l ∧ H l = some (.lst (ys.map V.str)) ∧ ∀ y, y ∈ ys ↔ Adj es x y
  no : ∀ x, valV kvs (.inr x) = none → ∀ y, ¬ Adj es x y
def spJoined (K : PySem.W.Frag) : Sp := fun vs H Q _ => ∃ (a : Addr) (xs : List V) (es : List (Str × Str)), vs = [.ref a] ∧ SqL K H a xs ∧ Pz H xs es ∧ es.length ≤ 40 ∧ (∀ p q, (p, q) ∈ es → p ≠ q) ∧
  ∀ H' d kvs, Same H H' → H' d = some (.dK kvs) → NbT H' kvs es → Q (.ref d) H'
theorem scJoined : FnScope ["corridors", "found", "one", "other", "room", "near"] ["corridors"] (C8.fnScope sJoined) := ⟨rfl, rfl, rfl, by decide +kernel, rfl, by decide +kernel, by decide +kernel⟩
theorem map_str_inj : ∀ {xs ys : List Str}, xs.map V.str = ys.map V.str → xs = ys
  | [], [], _ => rfl
  | [], _ :: _, h => by simp at h
  | _ :: _, [], h => by simp at h
  | x :: xs, y :: ys, h => by
    rw [List.map_cons, List.map_cons] at h
    obtain ⟨h1, h2⟩ := List.cons.inj h
    rw [V.str.inj h1, map_str_inj h2]
/-- the list of a room, made if it isn't there, and a room put behind -/
theorem Nb.put {H0 H : Hp} {kvs : List (Key × V)} {R : Str → Str → Prop} {c : Str → Nat} {d : Addr} (n : Nb H0 H kvs R c) (hd : H d = some (.dK kvs)) {l : Addr} {ys : List Str} {x : Str} (y : Str)
    (hv : valV kvs (.inr x) = some (.ref l)) (hl : H l = some (.lst (ys.map V.str))) : Nb H0 (upd H l (.lst (ys.map V.str ++ [V.str y]))) kvs (fun p q => R p q ∨ (p = x ∧ q = y)) (fun p => if p = x then c p + 1 else c p) := by
  refine ⟨fun k v h => ?_, fun p h q r => ?_, n.inj, n.nd⟩
  · obtain ⟨p, m, zs, rfl, rfl, h0, hm, hc, hr⟩ := n.ent k v h
    by_cases e : m = l
    · subst e
      have ek := n.inj _ _ _ h hv
      cases ek
      rw [hl] at hm
      have e2 : ys.map V.str = zs.map V.str := HO.lst.inj (Option.some.inj hm)
      have e2 : ys = zs := map_str_inj e2
      subst e2
      refine ⟨x, m, ys ++ [y], rfl, rfl, h0, by rw [upd_same, List.map_append]; rfl, ?_, fun z => ?_⟩
      · rw [if_pos rfl, List.length_append]
        exact Nat.succ_le_succ hc
      · rw [List.mem_append, List.mem_singleton, hr z]
        exact or_congr_right ⟨fun e => ⟨rfl, e⟩, fun e => e.2⟩
    · have np : p ≠ x := fun z => by
        subst z
        rw [hv] at h
        exact e (V.ref.inj (Option.some.inj h)).symm
      refine ⟨p, m, zs, rfl, rfl, h0, by rw [upd_ne e]; exact hm, by rw [if_neg np]; exact hc, fun z => ?_⟩
      rw [hr z]
      exact ⟨.inl, fun h => h.resolve_right fun z => np z.1⟩
  · rcases r with r | ⟨rfl, _⟩
    · exact n.no p h q r
    · rw [hv] at h
      cases h
theorem Nb.new {H0 H : Hp} {kvs : List (Key × V)} {R : Str → Str → Prop} {c : Str → Nat} {d l : Addr} (n : Nb H0 H kvs R c) (hd : H d = some (.dK kvs)) (h0d : H0 d = none) {x : Str} (h0 : H0 l = none) (hl : H l = none)
    (hv : valV kvs (.inr x) = none) : Nb H0 (upd (upd H l (.lst [])) d (.dK (putK kvs (.inr x) (.ref l)))) (putK kvs (.inr x) (.ref l)) R c := by
  have ndl : d ≠ l := ne_of_none hd hl
  have nl : ∀ k v, valV kvs k = some v → v ≠ .ref l := fun k v h e => by
    obtain ⟨_, m, _, _, rfl, _, hm, _⟩ := n.ent k v h
    cases e
    rw [hl] at hm
    cases hm
  refine ⟨fun k v h => ?_, fun p h q => ?_, fun k k' v h h' => ?_, nd_putK _ n.nd hv⟩
  · rw [valV_put] at h
    by_cases e : k = .inr x
    · rw [if_pos e] at h
      have h := Option.some.inj h
      subst h
      subst e
      exact ⟨x, l, [], rfl, rfl, h0, by rw [upd_ne ndl.symm, upd_same]; rfl, Nat.zero_le _, fun y => ⟨fun h => (nomatch h), fun r => absurd r (n.no x hv y)⟩⟩
    · rw [if_neg e] at h
      obtain ⟨p, m, zs, rfl, rfl, q0, hm, hc, hr⟩ := n.ent k v h
      refine ⟨p, m, zs, rfl, rfl, q0, ?_, hc, hr⟩
      have nmd : m ≠ d := ne_of hm hd (by intro z; cases z)
      rw [upd_ne nmd, upd_ne (ne_of_none hm hl)]
      exact hm
  · rw [valV_put] at h
    by_cases e : (Sum.inr p : Key) = .inr x
    · rw [if_pos e] at h
      cases h
    · rw [if_neg e] at h
      exact n.no p h q
  · rw [valV_put] at h h'
    by_cases e : k = .inr x
    · by_cases e' : k' = .inr x
      · rw [e, e']
      · rw [if_pos e] at h
        rw [if_neg e'] at h'
        exact absurd (Option.some.inj h).symm (nl _ _ h')
    · by_cases e' : k' = .inr x
      · rw [if_neg e] at h
        rw [if_pos e'] at h'
        exact absurd (Option.some.inj h').symm (nl _ _ h)
      · rw [if_neg e] at h
        rw [if_neg e'] at h'
        exact n.inj _ _ _ h h'

theorem Nb.congr {H0 H : Hp} {kvs : List (Key × V)} {R R' : Str → Str → Prop} {c c' : Str → Nat} (n : Nb H0 H kvs R c) (h : ∀ x y, R x y ↔ R' x y) (hc : ∀ x, c x ≤ c' x) : Nb H0 H kvs R' c' :=
  ⟨fun k v q => let ⟨x, l, ys, a, b, d, e, f, g⟩ := n.ent k v q; ⟨x, l, ys, a, b, d, e, Nat.le_trans f (hc x), fun y => (g y).trans (h x y)⟩, fun x q y r => n.no x q y ((h x y).mpr r), n.inj, n.nd⟩
theorem take_snoc {α : Type} {l : List α} {i : Nat} {x : α} (h : l[i]? = some x) : l.take (i + 1) = l.take i ++ [x] := by
  rw [List.take_succ, h]
  rfl
theorem adj_take {es : List (Str × Str)} {i : Nat} {a b : Str} (h : es[i]? = some (a, b)) (x y : Str) : Adj (es.take (i + 1)) x y ↔ (Adj (es.take i) x y ∨ (x = a ∧ y = b)) ∨ (x = b ∧ y = a) := by
  rw [take_snoc h]
  unfold Adj
  simp only [List.mem_append, List.mem_singleton, Prod.mk.injEq]
  constructor
  · rintro ((h | h) | (h | h))
    · exact .inl (.inl (.inl h))
    · exact .inl (.inr h)
    · exact .inl (.inl (.inr h))
    · exact .inr ⟨h.2, h.1⟩
  · rintro (((h | h) | h) | h)
    · exact .inl (.inl h)
    · exact .inr (.inl h)
    · exact .inl (.inr h)
    · exact .inr (.inr ⟨h.2, h.1⟩)
/-- found.setdefault(x, []).append(y) -/
theorem setd_step {K : PySem.W.Frag} {H0 H : Hp} {kvs : List (Key × V)} {R : Str → Str → Prop} {c : Str → Nat} {d : Addr} {σ : L2.St} {i j : Nat} {x y : Str} {D : Ends} (n : Nb H0 H kvs R c) (hd : H d = some (.dK kvs)) (h0d : H0 d = none) (s : Same H0 H)
    (h1 : σ[1]? = some (some (.ref d))) (hi : σ[i]? = some (some (.str x))) (hj : σ[j]? = some (some (.str y))) (hk : kvs.length < 1000) (hc : c x < 1000)
    (k : ∀ kvs' H', Same H0 H' → H' d = some (.dK kvs') → kvs'.length ≤ kvs.length + 1 → Nb H0 H' kvs' (fun p q => R p q ∨ (p = x ∧ q = y)) (fun p => if p = x then c p + 1 else c p) → D.nx σ H') :
    tDrop (tBM K "list" rAppend (tDSetd (tVar 1) (tVar i) (tLst tNil)) (tCons (tVar j) tNil)) D σ H := by
  refine ⟨_, h1, d, rfl, .inl ⟨kvs, .inl hd⟩, _, hi, (by show 0 ≤ sizeLine; exact Nat.zero_le _), fun l hl => ?_⟩
  have ndl : d ≠ l := ne_of_none hd hl
  refine ⟨kvs, .inr x, by rw [upd_ne ndl]; exact hd, rfl, small1000 (Nat.le_of_lt hk), fun v hv => ?_, fun hv => ?_⟩
  · obtain ⟨p, m, zs, e, rfl, h0, hm, hcz, hr⟩ := n.ent _ v hv
    cases e
    have nm : m ≠ l := ne_of_none hm hl
    have hm' : (upd H l (.lst [])) m = some (.lst (zs.map V.str)) := by rw [upd_ne nm]; exact hm
    have n' : Nb H0 (upd H l (.lst [])) kvs R c := ⟨fun k v q => let ⟨x, l', ys, a, b, d, e, f, g⟩ := n.ent k v q; ⟨x, l', ys, a, b, d, by rw [upd_ne (ne_of_none e hl)]; exact e, f, g⟩, n.no, n.inj, n.nd⟩
    refine ⟨.inl ⟨rfl, _, SqL.of hm'⟩, _, hj, m, _, _, rfl, rfl, hm', small1000 (by rw [List.length_map]; omega), ?_⟩
    refine k kvs _ ((s.to_new hl).to_own h0) (by rw [upd_ne (ne_of hd hm (by intro z; cases z)), upd_ne ndl]; exact hd) (Nat.le_succ _) (n'.put (by rw [upd_ne ndl]; exact hd) y hv hm')
  · have h0 := s.free hl
    have n' := n.new hd h0d h0 hl hv
    have hm' : (upd (upd H l (.lst [])) d (.dK (putK kvs (.inr x) (.ref l)))) l = some (.lst (([] : List Str).map V.str)) := by
      rw [upd_ne ndl.symm, upd_same]
      rfl
    refine ⟨.inl ⟨rfl, _, SqL.of hm'⟩, _, hj, l, _, _, rfl, rfl, hm', (by decide), ?_⟩
    refine k _ _ (((s.to_new hl).to_own h0d).to_own h0) (by rw [upd_ne ndl, upd_same]) (length_putK _ _ _) (n'.put (d := d) (by rw [upd_same]) y (by rw [valV_put, if_pos rfl]) hm')
section
variable {P : Program} {w : World} {K : PySem.W.Frag} {mg : Str → Option Value} {base : Heap}
theorem cal_joined {f : Addr} {fd : FuncData} (F : C8.Def K mg "joined_rooms" sJoined f fd) (b : Binds K fd ["corridors"] []) (z : Bi mg) : C8.Cal P w K mg base 1 "joined_rooms" (spJoined K) [] := by
  refine C8.cal0 F b .nil scJoined (fun vs H Q E h => ?_) (fun cdv A outer s H vs Q E hr h => ?_)
  · obtain ⟨a, xs, es, rfl, _⟩ := h
    rfl
  · obtain ⟨a, xs, es, rfl, hS, hP, hlen, hne, k⟩ := h
    have hu := hu_of hr
    refine ⟨_, pss_cons (ps_set (i := 1) scJoined.nd rfl (Or.inl rfl) pe_dnewK)
      (pss_cons (ps_for PassesOwn.never rfl (pi_list (pv 0)) (pg_tup (by rfl) (pgs_cons (pg_name (i := 2) scJoined.nd rfl (Or.inl rfl)) (pgs_cons (pg_name (i := 3) scJoined.nd rfl (Or.inl rfl)) pgs_nil)))
        (pss_cons (ps_expr (pe_bm PySem.F.plainAttrs_list PySem.F.slot_list_append PySem.F.type_list_append mt_append (pe_dsetd (pv 1) (pv 2) (pe_lst pa_nil) ⟨rfl, rfl, rfl, rfl⟩) (pa_cons (pv 3) pa_nil)))
        (pss_one (ps_expr (pe_bm PySem.F.plainAttrs_list PySem.F.slot_list_append PySem.F.type_list_append mt_append (pe_dsetd (pv 1) (pv 3) (pe_lst pa_nil) ⟨rfl, rfl, rfl, rfl⟩) (pa_cons (pv 2) pa_nil))))))
      (pss_one (ps_ret (pe_lock (pe_dc (own := [("room", 4), ("near", 5)]) (g := gTup K 2 (gCons (gName 4) (gCons (gName 5) gNil))) (tv := tCB (rSortedS K) (tCons (tVar 5) tNil)) rfl scJoined.nd (pi_items (pv 1)) (blkOk_by (N := ["corridors", "found", "one", "other", "room", "near"]) (sc := C8.fnScope sJoined) (own := [("room", 4), ("near", 5)]) (by decide +kernel))
        (fun _ _ _ _ _ => pg_tup (by rfl) (pgs_cons (pg_name (i := 4) scJoined.nd rfl (Or.inl rfl)) (pgs_cons (pg_name (i := 5) scJoined.nd rfl (Or.inl rfl)) pgs_nil)))
        (fun _ _ _ _ _ => pts_nil) (fun _ _ _ _ _ => pv 4) (fun _ _ _ _ _ => pe_callB cr_sortedS (by rfl) z.sorted (by decide +kernel) (pa_cons (pv 5) pa_nil))))))), ?_⟩
    -- found = {}
    intro d hd
    -- the loop
    refine ⟨_, rfl, a, rfl, ⟨_, (Same.upd_new hd).seq hS⟩, for_it walk_list (fun i σ H2 => ∃ (u v : Option V) (kvs : List (Key × V)), σ = [some (.ref a), some (.ref d), u, v, none, none] ∧ Same H H2 ∧ H2 d = some (.dK kvs) ∧ kvs.length ≤ 2 * i ∧ Nb H H2 kvs (Adj (es.take i)) (fun _ => i))
      ⟨none, none, [], rfl, Same.upd_new hd, upd_same, Nat.zero_le _, ⟨fun k v h => (nomatch h), fun x _ y r => (by simp [Adj] at r), fun k k' v h => (nomatch h), List.nodup_nil⟩⟩
      (fun i σ H2 _ ⟨_, _, _, _, s2, _⟩ => s2.seq hS) ?_ ?_⟩
    · rintro i x σ H2 _ hi ⟨u, v, kvs, rfl, s2, hd2, hl2, N2⟩ ⟨rfl, hx⟩
      obtain ⟨t, p, q, rfl, he, ht⟩ := (s2.pz hP).get hx
      have hi' : i < 40 := Nat.lt_of_lt_of_le (lt_of_get he) hlen
      refine ⟨t, _, rfl, SqT.of ht, rfl, _, _, rfl, _, _, rfl, rfl, ?_⟩
      refine setd_step (x := p) (y := q) N2 hd2 hd s2 rfl rfl rfl (by omega) (by omega) fun kvs3 H3 s3 hd3 hl3 N3 => ?_
      refine setd_step (x := q) (y := p) N3 hd3 hd s3 rfl rfl rfl (by omega) (by show (if q = p then i + 1 else i) < 1000; split <;> omega) fun kvs4 H4 s4 hd4 hl4 N4 => ?_
      have npq := hne p q (List.mem_of_getElem? he)
      exact ⟨_, _, kvs4, rfl, s4, hd4, by omega, N4.congr (fun a b => (adj_take he a b).symm) (fun z => by
        show (if z = q then (if z = p then i + 1 else i) + 1 else (if z = p then i + 1 else i)) ≤ i + 1
        by_cases e1 : z = q
        · rw [if_pos e1, if_neg (fun e => npq (e.symm.trans e1))]
          exact Nat.le_refl _
        · rw [if_neg e1]
          split <;> omega)⟩
    · rintro σ H2 ⟨u, v, kvs, rfl, s2, hd2, hl2, N2⟩
      have hxl : xs.length = es.length := hP.length
      rw [hxl] at hl2
      rw [hxl, List.take_length] at N2
      refine ⟨d, _, hd2, trivial, fun od => ⟨_, rfl, d, od, kvs, rfl, upd_same, fun D hD => ?_⟩⟩
      have nDd : D ≠ d := fun e => by
        rw [e, upd_same] at hD
        cases hD
      rw [upd_ne nDd] at hD
      refine dc_it walk_items (fun i H3 => ∃ kvs3, H3 D = some (.dK kvs3) ∧ H3 d = some (.frz od (.dK kvs)) ∧ (∀ b o, b ≠ d → H2 b = some o → H3 b = some o) ∧ kvs3.length ≤ i ∧
          (∀ k v3, valV kvs3 k = some v3 → ∃ (v : V) (l l3 : Addr) (ys ys3 : List Str), valV kvs k = some v ∧ v = .ref l ∧ H2 l = some (.lst (ys.map V.str)) ∧ v3 = .ref l3 ∧ H3 l3 = some (.lst (ys3.map V.str)) ∧ ys3.Perm ys ∧ l3 ≠ D) ∧
          ∀ j, j < i → ∀ k v, kvs[j]? = some (k, v) → (valV kvs3 k).isSome = true)
        ?_ (fun i H3 _ ⟨_, _, h, _⟩ => h) ?_ ?_
      · refine ⟨[], upd_same, by rw [upd_ne nDd.symm, upd_same], fun b o nb e => ?_, Nat.le_refl _, fun k v h => (nomatch h), fun j h => absurd h (Nat.not_lt_zero _)⟩
        rw [upd_ne (ne_of_none e hD), upd_ne nb]
        exact e
      · rintro i x H3 H3' hi ⟨kvs3, hD3, hd3, kp3, hl3, I1, I2⟩ ⟨T, y1, y2, rfl, hT, rfl, e1, e2⟩
        obtain ⟨⟨ky, vy⟩, he⟩ : ∃ p, kvs[i]? = some p := ⟨_, List.getElem?_eq_getElem hi⟩
        have e1 : kvs[i]?.map (fun kv => kV kv.1) = some y1 := e1
        have e2 : kvs[i]?.map Prod.snd = some y2 := e2
        rw [he] at e1 e2
        have e1 : y1 = kV ky := (Option.some.inj e1).symm
        have e2 : y2 = vy := (Option.some.inj e2).symm
        subst e1
        subst e2
        have hv := valV_at N2.nd he
        obtain ⟨p, l, ys, rfl, rfl, h0l, hl, hcl, hrl⟩ := N2.ent _ _ hv
        have nld : l ≠ d := ne_of hl hd2 (by intro z; cases z)
        have hl3' : (upd H3 T (.tup [kV (.inr p), .ref l])) l = some (.lst (ys.map V.str)) := by
          rw [upd_ne (ne_of_none (kp3 _ _ nld hl) hT)]
          exact kp3 _ _ nld hl
        refine ⟨T, _, rfl, SqT.of upd_same, rfl, _, _, rfl, _, _, rfl, rfl, rfl, ?_⟩
        have nDT : D ≠ T := ne_of_none hD3 hT
        refine ⟨_, rfl, _, rfl, l, ys, rfl, SqL.of hl3', by omega, fun zs q pm srt hq => ?_⟩
        have nqT : q ≠ T := fun e => by
          rw [e, upd_same] at hq
          cases hq
        rw [upd_ne nqT] at hq
        have nDq : D ≠ q := ne_of_none hD3 hq
        refine ⟨kvs3, .inr p, rfl, by rw [upd_ne nDq, upd_ne nDT]; exact hD3, small1000 (by omega), _, upd_same, ?_, fun b o nb e => ?_, Nat.le_trans (length_putK _ _ _) (by omega), fun k v3 h => ?_, fun j hj k v h => ?_⟩
        · rw [upd_ne nDd.symm, upd_ne (ne_of_none hd3 hq), upd_ne (ne_of_none hd3 hT)]
          exact hd3
        · have e3 := kp3 b o nb e
          rw [upd_ne (ne_of_none e hD), upd_ne (ne_of_none e3 hq), upd_ne (ne_of_none e3 hT)]
          exact e3
        · rw [valV_put] at h
          by_cases ek : k = .inr p
          · rw [if_pos ek] at h
            subst ek
            exact ⟨.ref l, l, q, ys, zs, hv, rfl, hl, (Option.some.inj h).symm, by rw [upd_ne nDq.symm, upd_same], pm, nDq.symm⟩
          · rw [if_neg ek] at h
            obtain ⟨v, m, m3, a1, a2, h1, h2, h3, h4, h5, h6, h7⟩ := I1 k v3 h
            refine ⟨v, m, m3, a1, a2, h1, h2, h3, h4, ?_, h6, h7⟩
            rw [upd_ne h7, upd_ne (ne_of_none h5 hq), upd_ne (ne_of_none h5 hT)]
            exact h5
        · rw [valV_put]
          by_cases ek : k = .inr p
          · rw [if_pos ek]
            rfl
          · rw [if_neg ek]
            by_cases ej : j = i
            · subst ej
              rw [he] at h
              cases h
              exact absurd rfl ek
            · exact I2 j (by omega) k v h
      · rintro H3 ⟨kvs3, hD3, hd3, kp3, hl3, I1, I2⟩
        refine ⟨hd3, k _ D kvs3 (fun b o e => ?_) (by rw [upd_ne nDd]; exact hD3) ⟨fun x v h => ?_, fun x h => ?_⟩⟩
        · have nb : b ≠ d := ne_of_none e hd
          rw [upd_ne nb]
          exact kp3 b o nb (s2 b o e)
        · obtain ⟨v, m, m3, a1, a2, h1, h2, h3, h4, h5, h6, h7⟩ := I1 _ _ h
          obtain ⟨p, m', ys, e1, e2, h0, hm, hc, hr⟩ := N2.ent _ _ h1
          cases e1
          rw [h2] at e2
          cases e2
          rw [h3] at hm
          have e3 := map_str_inj (HO.lst.inj (Option.some.inj hm))
          subst e3
          refine ⟨m3, a2, h4, ?_, fun y => h6.mem_iff.trans (hr y)⟩
          rw [upd_ne (ne_of h5 hd3 (by intro z; cases z))]
          exact h5
        · cases e : valV kvs (.inr x) with
          | none => exact N2.no x e
          | some v =>
            obtain ⟨j, hj⟩ := List.getElem?_of_mem (valV_mem e)
            have := I2 j (lt_of_get hj) _ _ hj
            rw [h] at this
            cases this
end
end Yf
set_option Elab.async false
set_option linter.all false
set_option maxRecDepth 100000
set_option maxHeartbeats 4000000
/-! W2: steps_from, reached_from. -/
namespace Yf
open PySem PySem.Spec PyProof.Rows L2
def optV : Option Str → V
  | none => .non
  | some p => .str p
/-- the dict of levels -/
def LvT (H : Hp) : List (Key × V) → Tb Str → Prop := Paired fun p e => p.1 = .inr e.1 ∧ ∃ t, p.2 = .ref t ∧ H t = some (.tup [.int (e.2.1 : Nat), optV e.2.2])
theorem LvT.mono {H H' : Hp} {kvs : List (Key × V)} {T : Tb Str} (h : LvT H kvs T) (k : ∀ t ys, H t = some (.tup ys) → H' t = some (.tup ys)) : LvT H' kvs T := Paired.mapP h fun _ _ ⟨e, t, a, b⟩ => ⟨e, t, a, k _ _ b⟩
theorem LvT.length {H : Hp} {kvs : List (Key × V)} {T : Tb Str} (h : LvT H kvs T) : kvs.length = T.length := Paired.length h
theorem LvT.some {H : Hp} : ∀ {kvs : List (Key × V)} {T : Tb Str}, LvT H kvs T → ∀ {v : Str} {l : Nat} {p : Option Str}, T.lookup v = some (l, p) → ∃ t, valV kvs (.inr v) = some (.ref t) ∧ H t = some (.tup [.int (l : Nat), optV p])
  | _, _, .nil, v, l, p, h => by cases h
  | q :: _, e :: _, .cons r t, v, l, p, h => by
    rw [List.lookup_cons] at h
    obtain ⟨e1, x, e2, hx⟩ := r
    by_cases z : v = e.1
    · subst z
      rw [show (e.1 == e.1) = true from beq_self_eq_true _] at h
      have h : e.2 = (l, p) := Option.some.inj h
      rw [h] at hx
      exact ⟨x, by rw [valV_pos e1, e2], hx⟩
    · rw [show (v == e.1) = false from beq_eq_false_iff_ne.mpr z] at h
      obtain ⟨x, a, b⟩ := LvT.some t h
      refine ⟨x, ?_, b⟩
      rw [valV_neg (by rw [e1]; exact fun c => z (Sum.inr.inj c).symm)]
      exact a
theorem LvT.none {H : Hp} : ∀ {kvs : List (Key × V)} {T : Tb Str}, LvT H kvs T → ∀ {v : Str}, ¬ v ∈ keys T → valV kvs (.inr v) = none
  | _, _, .nil, v, h => rfl
  | q :: _, e :: _, .cons r t, v, h => by
    obtain ⟨e1, _⟩ := r
    have h1 : ¬ v = e.1 := fun z => h (z ▸ List.mem_cons_self ..)
    rw [valV_neg (by rw [e1]; exact fun c => h1 (Sum.inr.inj c).symm)]
    exact LvT.none t fun m => h (List.mem_cons_of_mem _ m)
theorem LvT.snoc {H : Hp} {kvs : List (Key × V)} {T : Tb Str} (h : LvT H kvs T) {v : Str} {l : Nat} {p : Option Str} {t : Addr} (ht : H t = Option.some (.tup [.int (l : Nat), optV p])) : LvT H (kvs ++ [(.inr v, .ref t)]) (T ++ [(v, (l, p))]) := by
  induction h with
  | nil => exact .cons ⟨rfl, t, rfl, ht⟩ .nil
  | cons r _ ih => exact .cons r ih
theorem LvT.keys {H : Hp} : ∀ {kvs : List (Key × V)} {T : Tb Str}, LvT H kvs T → kvs.map (·.1) = (Yf.keys T).map Sum.inr
  | _, _, .nil => rfl
  | _, _, .cons r t => by
    obtain ⟨r1, _⟩ := r
    exact congr (congrArg List.cons r1) (LvT.keys t)
theorem BfsIn.key_in {es : List (Str × Str)} {s : Str} {T : Tb Str} {i : Nat} {ds : List Str} (B : BfsIn es s T i ds) : ∀ v, v ∈ keys T → v ∈ s :: (es.map (·.1) ++ es.map (·.2)) := by
  intro v hv
  obtain ⟨⟨l, p⟩, hx⟩ := lk_of hv
  cases p with
  | none => rw [(B.nopar v l hx).1]; exact List.mem_cons_self ..
  | some p =>
    refine List.mem_cons_of_mem _ (List.mem_append.mpr ?_)
    rcases (B.par v l p hx).1 with h | h
    · exact .inr (List.mem_map.mpr ⟨_, h, rfl⟩)
    · exact .inl (List.mem_map.mpr ⟨_, h, rfl⟩)
theorem BfsIn.len {es : List (Str × Str)} {s : Str} {T : Tb Str} {i : Nat} {ds : List Str} (B : BfsIn es s T i ds) (h : es.length ≤ 40) : T.length ≤ 81 := by
  have := B.nd.length_le_of_subset B.key_in
  rw [List.length_cons, List.length_append, List.length_map, List.length_map] at this
  unfold keys at this
  rw [List.length_map] at this
  omega
def spSteps (K : PySem.W.Frag) : Sp := fun vs H Q _ => ∃ (s : Str) (a c : Addr) (xs : List V) (es : List (Str × Str)), vs = [.str s, .ref a, .ref c] ∧ SqL K H a xs ∧ Pz H xs es ∧ es.length ≤ 40 ∧ (∀ p q, (p, q) ∈ es → p ≠ q) ∧ SqT K H c [] ∧
  ∀ H' d kvs T, Same H H' → H d = none → H' d = some (.dK kvs) → LvT H' kvs T → Bfs es s T → T.length ≤ 81 → Q (.ref d) H'
def spReached (K : PySem.W.Frag) : Sp := fun vs H Q _ => ∃ (s : Str) (a c : Addr) (xs : List V) (es : List (Str × Str)), vs = [.str s, .ref a, .ref c] ∧ SqL K H a xs ∧ Pz H xs es ∧ es.length ≤ 40 ∧ (∀ p q, (p, q) ∈ es → p ≠ q) ∧ SqT K H c [] ∧
  ∀ H' l T, Same H H' → H' l = some (.lst ((keys T).map V.str)) → Bfs es s T → T.length ≤ 81 → Q (.ref l) H'
theorem scSteps : FnScope ["start", "corridors", "closed_rooms", "joined", "found", "waiting", "at", "room", "other"] ["start", "corridors", "closed_rooms"] (C8.fnScope sSteps) := ⟨rfl, rfl, rfl, by decide +kernel, rfl, by decide +kernel, by decide +kernel⟩
theorem scReached : FnScope ["start", "corridors", "closed_rooms"] ["start", "corridors", "closed_rooms"] (C8.fnScope sReached) := ⟨rfl, rfl, rfl, by decide +kernel, rfl, by decide +kernel, by decide +kernel⟩
theorem valV_none_len {kvs : List (Key × V)} {k : Key} {v : V} (h : valV kvs k = none) : (putK kvs k v).length = kvs.length + 1 := by
  rw [putK_new v h, List.length_append]
  rfl
section
variable {P : Program} {w : World} {K : PySem.W.Frag} {mg : Str → Option Value} {base : Heap}
theorem cal_steps {f : Addr} {fd : FuncData} {ds : List Value} {dvs : List V} (F : C8.Def K mg "steps_from" sSteps f fd) (b : Binds K fd ["start", "corridors", "closed_rooms"] ds) (dv : Vals dvs ds) (z : Bi mg) (cJ : C8.Cal P w K mg base 1 "joined_rooms" (spJoined K) []) :
    C8.Cal P w K mg base 2 "steps_from" (spSteps K) dvs := by
  refine C8.cal0 F b dv scSteps (fun vs H Q E h => ?_) (fun cdv A outer s H vs Q E hr h => ?_)
  · obtain ⟨s, a, c, xs, es, rfl, _⟩ := h
    rfl
  · obtain ⟨st, a, c, xs, es, rfl, hS, hP, hlen, hne, hc, k⟩ := h
    have hu := hu_of hr
    refine ⟨_, pss_cons (ps_set (i := 3) scSteps.nd rfl (Or.inl rfl) (C8.pe_c cJ hr (by decide) (by rfl) (pa_cons (pv 1) pa_nil)))
      (pss_cons (ps_set (i := 4) scSteps.nd rfl (Or.inl rfl) (pe_disp (pps_cons (pv 0) (pe_tup (pa_cons pe_int (pa_cons pe_non pa_nil))) pps_nil) (by rfl) (by rfl) (fun z => by cases z) (by decide)))
      (pss_cons (ps_set (i := 5) scSteps.nd rfl (Or.inl rfl) (pe_lst (pa_cons (pv 0) pa_nil)))
      (pss_cons (ps_set (i := 6) scSteps.nd rfl (Or.inl rfl) pe_int)
      (pss_cons (ps_while PassesOwn.never (pt_cmpR op_lt (pv 6) (pe_callB call_len_seq (by rfl) z.len (by decide +kernel) (pa_cons (pv 5) pa_nil)) (nomark _))
        (pss_cons (ps_set (i := 7) scSteps.nd rfl (Or.inl rfl) (pe_ix ix_list (pv 5) (pv 6) (fun _ _ => rfl)))
        (pss_cons (ps_for PassesOwn.never rfl (pi_list (pe_dget2 hu (pv 3) (pv 7) (pe_lst pa_nil) ⟨rfl, rfl, rfl, rfl⟩)) (pg_name (i := 8) scSteps.nd rfl (Or.inl rfl))
          (pss_one (ps_if (PW.pt (pw_and (pt_cmp (pc_dnotin hu (pv 8) (pv 4))) (pw_and1 (pt_cmpR op_notIn_seq (pv 8) (pv 2) (by rfl)))))
            (pss_cons (ps_dput hu (pv 4) (pv 8) (pe_tup (pa_cons (pe_op op_add (pe_ix ix_tup (pe_dget hu (pv 4) (pv 7) (fun _ _ => rfl)) pe_int (fun _ _ => rfl)) pe_int) (pa_cons (pv 7) pa_nil))) rfl)
            (pss_one (ps_expr (pe_bm PySem.F.plainAttrs_list PySem.F.slot_list_append PySem.F.type_list_append mt_append (pv 5) (pa_cons (pv 8) pa_nil))))) pss_nil)))
        (pss_one (ps_aug (i := 6) scSteps.nd rfl (Or.inl rfl) pe_int ip_add)))))
      (pss_one (ps_ret (pv 4))))))), ?_⟩
    -- joined
    refine ⟨_, rfl, a, xs, es, rfl, hS, hP, hlen, hne, fun H1 j jk s1 hj nb => ?_⟩
    -- found, waiting, at
    intro d hd
    refine ⟨_, rfl, (by show 2 ≤ sizeLine; decide), fun t ht => ?_⟩
    have ndt : d ≠ t := fun e => by
      rw [← e, upd_same] at ht
      cases ht
    rw [upd_ne ndt.symm] at ht
    refine ⟨by rw [upd_ne ndt, upd_same], [(.inr st, .ref t)], rfl, (by show 1 ≤ 15; decide), ?_⟩
    refine ⟨_, rfl, (by show 1 ≤ sizeLine; decide), fun wt hw => ?_⟩
    have hmk : mergeK [] [((.inr st : Key), V.ref t)] = [(.inr st, .ref t)] := rfl
    rw [hmk] at hw ⊢
    have nwd : wt ≠ d := fun e => by
      rw [e, upd_same] at hw
      cases hw
    have nwt : wt ≠ t := fun e => by
      rw [e, upd_ne ndt.symm, upd_same] at hw
      cases hw
    rw [upd_ne nwd, upd_ne nwt, upd_ne nwd] at hw
    have h0d := s1.free hd
    have h0w := s1.free hw
    have h0t := s1.free ht
    have njd : j ≠ d := ne_of_none hj hd
    have njw : j ≠ wt := ne_of_none hj hw
    have njt : j ≠ t := ne_of_none hj ht
    -- the heap ahead of the loop
    have sb : ∀ b o, H1 b = some o → (upd (upd (upd (upd H1 d (.dK [])) t (.tup [.int 0, .non])) d (.dK [(.inr st, .ref t)])) wt (.lst [.str st])) b = some o := fun b o e => by
      rw [upd_ne (ne_of_none e hw), upd_ne (ne_of_none e hd), upd_ne (ne_of_none e ht), upd_ne (ne_of_none e hd)]
      exact e
    -- while at < len(waiting)
    refine ⟨fun m σ H2 => ∃ (at' : Nat) (u v : Option V) (kvs : List (Key × V)) (T : Tb Str), σ = [some (.str st), some (.ref a), some (.ref c), some (.ref j), some (.ref d), some (.ref wt), some (.int (at' : Nat)), u, v] ∧
        (∀ b o, H1 b = some o → H2 b = some o) ∧ H2 d = some (.dK kvs) ∧ H2 wt = some (.lst ((keys T).map V.str)) ∧ LvT H2 kvs T ∧ BfsIn es st T at' [] ∧ m = 82 - at' ∧ at' ≤ T.length,
      ⟨82, 0, none, none, [(.inr st, .ref t)], [(st, (0, none))], rfl, sb, by rw [upd_ne nwd.symm, upd_same], upd_same, .cons ⟨rfl, t, rfl, by rw [upd_ne nwt.symm, upd_ne ndt.symm, upd_same]; rfl⟩ .nil, .start, rfl, Nat.zero_le _⟩, ?_⟩
    rintro m σ H2 ⟨at', u, v, kvs, T, rfl, s2, hd2, hw2, Lv2, B, rfl, hle⟩
    have hTl := B.len hlen
    have hlw : ((keys T).map V.str).length = T.length := by unfold keys; rw [List.length_map, List.length_map]
    refine ⟨_, rfl, _, rfl, wt, _, rfl, .inl (SqL.of hw2), _, _, rfl, rfl, _, rfl, ?_⟩
    rw [hlw]
    refine ite2 (fun hlt => ?_) (fun hge => ?_)
    · have hlt : at' < T.length := by
        have := of_decide_eq_true hlt
        omega
      obtain ⟨⟨r, l, p⟩, hr0⟩ : ∃ x, T[at']? = some x := ⟨_, List.getElem?_eq_getElem hlt⟩
      have hk0 : ((keys T).map V.str)[at']? = some (.str r) := by
        unfold keys
        rw [List.map_map, List.getElem?_map, hr0]
        rfl
      refine ⟨fun σ' H' => ∃ (u v : Option V) (kvs : List (Key × V)) (T : Tb Str), σ' = [some (.str st), some (.ref a), some (.ref c), some (.ref j), some (.ref d), some (.ref wt), some (.int ((at' + 1 : Nat) : Int)), u, v] ∧
        (∀ b o, H1 b = some o → H' b = some o) ∧ H' d = some (.dK kvs) ∧ H' wt = some (.lst ((keys T).map V.str)) ∧ LvT H' kvs T ∧ BfsIn es st T (at' + 1) [] ∧ at' + 1 ≤ T.length, fun σ' H' ⟨u, v, kvs, T, e, a1, a2, a3, a4, a5, a6⟩ => ⟨82 - (at' + 1), by omega, at' + 1, u, v, kvs, T, e, a1, a2, a3, a4, a5, rfl, a6⟩, ?_⟩
      -- room = waiting[at]
      refine ⟨_, rfl, _, rfl, wt, _, _, _, rfl, rfl, SqL.of hw2, atI_nat hk0, ?_⟩
      -- joined.get(room, [])
      refine ⟨_, rfl, j, rfl, .inl ⟨jk, .inl (s2 _ _ hj)⟩, _, rfl, (by show 0 ≤ sizeLine; decide), fun l0 hl0 => ⟨_, DGet.k (k := Sum.inr r) (by rw [upd_ne (ne_of_none (s2 _ _ hj) hl0)]; exact s2 _ _ hj), ?_⟩⟩
      -- the neighbours' list
      have hnear : ∃ (q : Addr) (ys : List Str), (valV jk (Sum.inr r : Key)).getD (.ref l0) = .ref q ∧ (upd H2 l0 (.lst [])) q = some (.lst (ys.map V.str)) ∧ q ≠ wt ∧ q ≠ d ∧ ∀ y, y ∈ ys ↔ Adj es r y := by
        cases e : valV jk (Sum.inr r : Key) with
        | none => exact ⟨l0, [], rfl, upd_same, (ne_of_none hw2 hl0).symm, (ne_of_none hd2 hl0).symm, fun y => ⟨fun h => (nomatch h), fun h => absurd h (nb.no r e y)⟩⟩
        | some x =>
          obtain ⟨q, ys, rfl, hq, hy⟩ := nb.ent r x e
          exact ⟨q, ys, rfl, by rw [upd_ne (ne_of_none (s2 _ _ hq) hl0)]; exact s2 _ _ hq, ne_of_none hq hw, ne_of_none hq hd, hy⟩
      obtain ⟨q, ys, eq, hq, nqw, nqd, hy⟩ := hnear
      rw [eq]
      refine ⟨q, rfl, ⟨_, SqL.of hq⟩, for_it walk_list (fun i σ' H3 => ∃ (v : Option V) (kvs : List (Key × V)) (T : Tb Str), σ' = [some (.str st), some (.ref a), some (.ref c), some (.ref j), some (.ref d), some (.ref wt), some (.int (at' : Nat)), some (.str r), v] ∧
        (∀ b o, H1 b = some o → H3 b = some o) ∧ H3 d = some (.dK kvs) ∧ H3 wt = some (.lst ((keys T).map V.str)) ∧ LvT H3 kvs T ∧ BfsIn es st T at' (ys.take i) ∧ T[at']? = some (r, (l, p)) ∧ H3 q = some (.lst (ys.map V.str)))
        ⟨v, kvs, T, rfl, fun b o e => ?_, by rw [upd_ne (ne_of_none hd2 hl0)]; exact hd2, by rw [upd_ne (ne_of_none hw2 hl0)]; exact hw2, Lv2.mono fun x ys e => by rw [upd_ne (ne_of_none e hl0)]; exact e, B, hr0, hq⟩
        (fun i σ' H3 _ ⟨_, _, _, _, _, _, _, _, _, _, h⟩ => SqL.of h) ?_ ?_⟩
      · have e2 := s2 b o e
        rw [upd_ne (ne_of_none e2 hl0)]
        exact e2
      · rintro i x σ' _ H3 hi ⟨v, kvs, T, rfl, s3, hd3, hw3, L3, B3, hr3, hq3⟩ ⟨rfl, hx⟩
        obtain ⟨y, hyi, rfl⟩ := map_get hx
        have hTl := B3.len hlen
        have hkl : kvs.length = T.length := L3.length
        have ad : Adj es r y := (hy y).mp (List.mem_of_getElem? hyi)
        have hB : ys.take (i + 1) = ys.take i ++ [y] := take_snoc hyi
        -- if other not in found and other not in closed_rooms
        refine ⟨_, rfl, _, rfl, d, _, rfl, DGet.k (k := Sum.inr y) hd3, _, rfl, ?_⟩
        by_cases hin : y ∈ keys T
        · obtain ⟨⟨ly, py⟩, hl⟩ := lk_of hin
          obtain ⟨ty, hv, _⟩ := L3.some hl
          rw [hv]
          refine iteF (iteF ?_)
          refine ⟨_, kvs, T, rfl, s3, hd3, hw3, L3, ?_, hr3, hq3⟩
          rw [hB]
          exact B3.skip hin
        · have hv := L3.none hin
          rw [hv]
          refine iteT ⟨_, rfl, _, rfl, c, _, rfl, .inr (L2.Same.tup (H := H) (fun b o e => s3 b o (s1 b o e)) hc), rfl, rfl, _, rfl, iteT ?_⟩
          -- found[other] = (found[room][0] + 1, room)
          obtain ⟨tr, hvr, htr⟩ := L3.some (lk_at B3.nd hr3)
          refine ⟨_, rfl, _, rfl, d, _, rfl, (by rw [← hvr]; exact DGet.k (k := Sum.inr r) hd3), tr, _, _, .int (l : Nat), rfl, rfl, SqT.of htr, atI_nat (j := 0) rfl, _, _, rfl, rfl, _, rfl, (by show 2 ≤ sizeLine; decide), fun t4 ht4 => ?_⟩
          have nd4 : d ≠ t4 := ne_of_none hd3 ht4
          have nw4 : wt ≠ t4 := ne_of_none hw3 ht4
          refine ⟨_, rfl, _, rfl, d, _, rfl, DPut.k (k := Sum.inr y) (by rw [upd_ne nd4]; exact hd3) (small1000 (by omega)), ?_⟩
          have hw5 : (upd (upd H3 t4 (.tup [.int ((l : Nat) + 1), .str r])) d (.dK (putK kvs (.inr y) (.ref t4)))) wt = some (.lst ((keys T).map V.str)) := by
            rw [upd_ne nwd, upd_ne nw4]
            exact hw3
          refine ⟨_, rfl, .inl ⟨rfl, _, SqL.of hw5⟩, _, rfl, wt, _, _, rfl, rfl, hw5, small1000 (by unfold keys; rw [List.length_map, List.length_map]; omega), ?_⟩
          refine ⟨_, putK kvs (.inr y) (.ref t4), T ++ [(y, (l + 1, some r))], rfl, fun b o e => ?_, by rw [upd_ne nwd.symm, upd_same], by rw [upd_same, keys_snoc, List.map_append]; rfl, ?_, ?_, ?_, ?_⟩
          · have e3 := s3 b o e
            rw [upd_ne (ne_of_none e hw), upd_ne (ne_of_none e hd), upd_ne (ne_of_none e3 ht4)]
            exact e3
          · rw [putK_new _ hv]
            refine (L3.mono fun x zs e => ?_).snoc ?_
            · rw [upd_ne (ne_of e hw3 (by intro z; cases z)), upd_ne (ne_of e hd3 (by intro z; cases z)), upd_ne (ne_of_none e ht4)]
              exact e
            · rw [upd_ne nw4.symm, upd_ne nd4.symm, upd_same]
              rfl
          · rw [hB]
            exact B3.put hr3 ad hin
          · rw [List.getElem?_append_left (lt_of_get hr3)]
            exact hr3
          · rw [upd_ne nqw, upd_ne nqd, upd_ne (ne_of_none hq3 ht4)]
            exact hq3
      · rintro σ' H3 ⟨v, kvs, T, rfl, s3, hd3, hw3, L3, B3, hr3, hq3⟩
        -- at += 1
        rw [List.length_map, List.take_length] at B3
        exact ⟨_, rfl, _, _, rfl, rfl, _, v, kvs, T, rfl, s3, hd3, hw3, L3, B3.next hr3 fun y a => (hy y).mpr a, lt_of_get hr3⟩
    · have hge : T.length ≤ at' := by
        have : ¬ ((at' : Int) < (T.length : Int)) := fun h => hge (decide_eq_true h)
        omega
      exact ⟨_, rfl, k H2 d kvs T (fun b o e => s2 b o (s1 b o e)) h0d hd2 Lv2 (B.fin hge) hTl⟩
theorem cal_reached {f : Addr} {fd : FuncData} {ds : List Value} {dvs : List V} (F : C8.Def K mg "reached_from" sReached f fd) (b : Binds K fd ["start", "corridors", "closed_rooms"] ds) (dv : Vals dvs ds) (z : Bi mg) (cS : C8.Cal P w K mg base 2 "steps_from" (spSteps K) []) :
    C8.Cal P w K mg base 3 "reached_from" (spReached K) dvs := by
  refine C8.cal0 F b dv scReached (fun vs H Q E h => ?_) (fun cdv A outer s H vs Q E hr h => ?_)
  · obtain ⟨s, a, c, xs, es, rfl, _⟩ := h
    rfl
  · obtain ⟨st, a, c, xs, es, rfl, hS, hP, hlen, hne, hc, k⟩ := h
    refine ⟨_, pss_one (ps_ret (pe_callTy (call_list_dK rfl) (by rfl) z.list (by decide +kernel) (pa_cons (C8.pe_c cS hr (by decide) (by rfl) (pa_cons (pv 0) (pa_cons (pv 1) (pa_cons (pv 2) pa_nil)))) pa_nil))), ?_⟩
    refine ⟨_, rfl, _, rfl, _, rfl, st, a, c, xs, es, rfl, hS, hP, hlen, hne, hc, fun H1 d kvs T s1 h0 hd L B hT => ⟨d, kvs, rfl, hd, fun q hq => ?_⟩⟩
    refine k _ q T (s1.to_new hq) ?_ B hT
    rw [upd_same]
    have e := congrArg (List.map kV) L.keys
    rw [List.map_map, List.map_map] at e
    exact congrArg (fun z => some (HO.lst z)) e
end
end Yf
set_option Elab.async false
set_option linter.all false
set_option maxRecDepth 100000
set_option maxHeartbeats 4000000
/-! W3: level_corridor, on_rings, bridges_of. -/
namespace Yf
open PySem PySem.Spec PyProof.Rows L2
def spLevel (K : PySem.W.Frag) : Sp := fun vs H Q _ => ∃ (d a : Addr) (kvs : List (Key × V)) (T : Tb Str) (xs : List V) (es : List (Str × Str)), vs = [.ref d, .ref a] ∧ H d = some (.dK kvs) ∧ LvT H kvs T ∧ SqL K H a xs ∧ Pz H xs es ∧ (∀ p q, (p, q) ∈ es → p ∈ keys T ∧ q ∈ keys T) ∧
  (∀ H', Same H H' → ¬ Lev T es → Q .non H') ∧ ∀ H' t p q, Same H H' → H' t = some (.tup [.str p, .str q]) → (p, q) ∈ es → lv T p = lv T q → Q (.ref t) H'
theorem scLevel : FnScope ["levels", "corridors", "one", "other"] ["levels", "corridors"] (C8.fnScope sLevel) := ⟨rfl, rfl, rfl, by decide +kernel, rfl, by decide +kernel, by decide +kernel⟩
def spRings (K : PySem.W.Frag) : Sp := fun vs H Q _ => ∃ (d a : Addr) (kvs : List (Key × V)) (T : Tb Str) (xs : List V) (es : List (Str × Str)) (s : Str), vs = [.ref d, .ref a] ∧ H d = some (.dK kvs) ∧ LvT H kvs T ∧ SqL K H a xs ∧ Pz H xs es ∧ (∀ p q, (p, q) ∈ es → p ∈ keys T ∧ q ∈ keys T) ∧ Bfs es s T ∧ T.length ≤ 81 ∧
  ∀ H' r rs, Same H H' → H r = none → H' r = some (.dK rs) → (∀ v, (valV rs (.inr v)).isSome = true ↔ Ringed T es v) → Q (.ref r) H'
theorem scRings : FnScope ["levels", "corridors", "found", "one", "other"] ["levels", "corridors"] (C8.fnScope sRings) := ⟨rfl, rfl, rfl, by decide +kernel, rfl, by decide +kernel, by decide +kernel⟩
/-- between two turns of the climb -/
def RgI (H : Hp) (d a r : Addr) (T : Tb Str) (es : List (Str × Str)) (n : Nat) : L2.St → Hp → Prop := fun σ' H' => ∃ (x' y' : Str) (rs : List (Key × V)), σ' = [some (.ref d), some (.ref a), some (.ref r), some (.str x'), some (.str y')] ∧ Same H H' ∧ H' r = some (.dK rs) ∧ x' ∈ keys T ∧ y' ∈ keys T ∧
  (rs.map (·.1)).Nodup ∧ (∀ k, k ∈ rs.map (·.1) → ∃ x, k = .inr x ∧ x ∈ keys T) ∧ (∀ v, ((valV rs (.inr v)).isSome = true ∨ Xor T x' y' v) ↔ Ringed T es v) ∧ lv T x' + lv T y' < n
/-- an entry of the table by lv and up -/
theorem lk_lv_up {T : Tb Str} {v : Str} (h : v ∈ keys T) : T.lookup v = some (lv T v, up T v) := by
  obtain ⟨⟨l, p⟩, hx⟩ := lk_of h
  rw [lv_of hx, up_of hx, hx]
theorem LvT.pick {H : Hp} {kvs : List (Key × V)} {T : Tb Str} (L : LvT H kvs T) {v : Str} (h : v ∈ Yf.keys T) : ∃ t, valV kvs (.inr v) = Option.some (.ref t) ∧ H t = Option.some (.tup [.int (lv T v : Nat), optV (up T v)]) := LvT.some L (lk_lv_up h)
theorem LvT.same {H H' : Hp} {kvs : List (Key × V)} {T : Tb Str} (L : LvT H kvs T) (s : Same H H') : LvT H' kvs T := L.mono fun t ys e => s _ _ e
theorem scal_opt (p : Option Str) (x : Str) : scal (optV p) (.str x) = true := by cases p <;> rfl
theorem dec_opt (p : Option Str) (x : Str) : decide (optV p = V.str x) = decide (p = some x) := by
  cases p with
  | none =>
    rw [decide_eq_false (by intro h; cases h), decide_eq_false (by intro h; cases h)]
  | some p =>
    show decide (V.str p = V.str x) = _
    by_cases e : p = x
    · rw [e, decide_eq_true rfl, decide_eq_true rfl]
    · rw [decide_eq_false (fun h => e (V.str.inj h)), decide_eq_false (fun h => e (Option.some.inj h))]
section
variable {P : Program} {w : World} {K : PySem.W.Frag} {mg : Str → Option Value} {base : Heap}
theorem cal_level {f : Addr} {fd : FuncData} (F : C8.Def K mg "level_corridor" sLevel f fd) (b : Binds K fd ["levels", "corridors"] []) : C8.Cal P w K mg base 1 "level_corridor" (spLevel K) [] := by
  refine C8.cal0 F b .nil scLevel (fun vs H Q E h => ?_) (fun cdv A outer s H vs Q E hr h => ?_)
  · obtain ⟨d, a, kvs, T, xs, es, rfl, _⟩ := h
    rfl
  · obtain ⟨d, a, kvs, T, xs, es, rfl, hd, L, hS, hP, hk, k1, k2⟩ := h
    have hu := hu_of hr
    refine ⟨_, pss_cons (ps_for PassesOwn.never rfl (pi_list (pv 1)) (pg_tup (by rfl) (pgs_cons (pg_name (i := 2) scLevel.nd rfl (Or.inl rfl)) (pgs_cons (pg_name (i := 3) scLevel.nd rfl (Or.inl rfl)) pgs_nil)))
        (pss_one (ps_if (pt_cmpR op_eq (pe_ix ix_tup (pe_dget hu (pv 0) (pv 2) (fun _ _ => rfl)) pe_int (fun _ _ => rfl)) (pe_ix ix_tup (pe_dget hu (pv 0) (pv 3) (fun _ _ => rfl)) pe_int (fun _ _ => rfl)) (nomark _))
          (pss_one (ps_ret (pe_tup (pa_cons (pv 2) (pa_cons (pv 3) pa_nil))))) pss_nil)))
      (pss_one (ps_ret pe_non)), ?_⟩
    refine ⟨_, rfl, a, rfl, ⟨_, hS⟩, for_it walk_list (fun i σ H2 => ∃ (u v : Option V), σ = [some (.ref d), some (.ref a), u, v] ∧ H2 = H ∧ ∀ p q, (p, q) ∈ es.take i → lv T p ≠ lv T q)
      ⟨none, none, rfl, rfl, fun p q h => by simp at h⟩ (fun i σ H2 _ ⟨_, _, _, e, _⟩ => by rw [e]; exact hS) ?_ ?_⟩
    · rintro i x σ _ H2 hi ⟨u, v, rfl, rfl, hno⟩ ⟨rfl, hx⟩
      obtain ⟨t, p, q, rfl, he, ht⟩ := hP.get hx
      obtain ⟨kp, kq⟩ := hk p q (List.mem_of_getElem? he)
      obtain ⟨tp, vp, hp⟩ := L.pick kp
      obtain ⟨tq, vq, hq⟩ := L.pick kq
      refine ⟨t, _, rfl, SqT.of ht, rfl, _, _, rfl, _, _, rfl, rfl, ?_⟩
      refine ⟨_, rfl, _, rfl, d, _, rfl, (by rw [← vp]; exact DGet.k (k := Sum.inr p) hd), tp, _, _, .int (lv T p : Nat), rfl, rfl, SqT.of hp, atI_nat (j := 0) rfl,
        _, rfl, _, rfl, d, _, rfl, (by rw [← vq]; exact DGet.k (k := Sum.inr q) hd), tq, _, _, .int (lv T q : Nat), rfl, rfl, SqT.of hq, atI_nat (j := 0) rfl, rfl, _, rfl, ?_⟩
      refine ite2 (fun e => ?_) (fun e => ?_)
      · refine ⟨_, rfl, _, rfl, (by show 2 ≤ sizeLine; decide), fun t2 ht2 => ?_⟩
        have e := V.int.inj (of_decide_eq_true e)
        exact k2 _ t2 p q (Same.upd_new ht2) upd_same (List.mem_of_getElem? he) (by omega)
      · refine ⟨_, _, rfl, rfl, fun p' q' h => ?_⟩
        rw [take_snoc he] at h
        rcases List.mem_append.mp h with h | h
        · exact hno p' q' h
        · rw [List.mem_singleton] at h
          cases h
          exact fun z => e (decide_eq_true (by rw [z]))
    · rintro σ H2 ⟨u, v, rfl, rfl, hno⟩
      rw [hP.length, List.take_length] at hno
      exact k1 _ (Same.refl _) fun ⟨p, q, h, z⟩ => hno p q h z
theorem cal_rings {f : Addr} {fd : FuncData} (F : C8.Def K mg "on_rings" sRings f fd) (b : Binds K fd ["levels", "corridors"] []) : C8.Cal P w K mg base 1 "on_rings" (spRings K) [] := by
  refine C8.cal0 F b .nil scRings (fun vs H Q E h => ?_) (fun cdv A outer s H vs Q E hr h => ?_)
  · obtain ⟨d, a, kvs, T, xs, es, st, rfl, _⟩ := h
    rfl
  · obtain ⟨d, a, kvs, T, xs, es, st, rfl, hd, L, hS, hP, hk, B, hT, k⟩ := h
    have hu := hu_of hr
    refine ⟨_, pss_cons (ps_set (i := 2) scRings.nd rfl (Or.inl rfl) pe_dnewK)
      (pss_cons (ps_for PassesOwn.never rfl (pi_list (pv 1)) (pg_tup (by rfl) (pgs_cons (pg_name (i := 3) scRings.nd rfl (Or.inl rfl)) (pgs_cons (pg_name (i := 4) scRings.nd rfl (Or.inl rfl)) pgs_nil)))
        (pss_one (ps_if (PW.pt (pw_and (pt_cmpR op_ne (pe_ix ix_tup (pe_dget hu (pv 0) (pv 3) (fun _ _ => rfl)) pe_int (fun _ _ => rfl)) (pv 4) (nomark _))
            (pw_and1 (pt_cmpR op_ne (pe_ix ix_tup (pe_dget hu (pv 0) (pv 4) (fun _ _ => rfl)) pe_int (fun _ _ => rfl)) (pv 3) (nomark _)))))
          (pss_one (ps_while PassesOwn.never (pt_cmpR op_ne (pv 3) (pv 4) (nomark _))
            (pss_cons (ps_if (pt_cmpR op_lt (pe_ix ix_tup (pe_dget hu (pv 0) (pv 3) (fun _ _ => rfl)) pe_int (fun _ _ => rfl)) (pe_ix ix_tup (pe_dget hu (pv 0) (pv 4) (fun _ _ => rfl)) pe_int (fun _ _ => rfl)) (nomark _))
              (pss_one (ps_par (i := 3) (j := 4) (by rfl) scRings.nd rfl rfl (by decide) rfl rfl (pa_cons (pv 4) (pa_cons (pv 3) pa_nil)) (by rfl))) pss_nil)
            (pss_cons (ps_dput hu (pv 2) (pv 3) pe_bl rfl)
            (pss_one (ps_set (i := 3) scRings.nd rfl (Or.inl rfl) (pe_ix ix_tup (pe_dget hu (pv 0) (pv 3) (fun _ _ => rfl)) pe_int (fun _ _ => rfl)))))))) pss_nil)))
      (pss_one (ps_ret (pv 2)))), ?_⟩
    intro r hr0
    have ndr : d ≠ r := ne_of_none hd hr0
    have s1 := Same.upd_new (o := .dK []) hr0
    refine ⟨_, rfl, a, rfl, ⟨_, s1.seq hS⟩, for_it walk_list (fun i σ H2 => ∃ (u v : Option V) (rs : List (Key × V)), σ = [some (.ref d), some (.ref a), some (.ref r), u, v] ∧ Same H H2 ∧ H2 r = some (.dK rs) ∧
        (rs.map (·.1)).Nodup ∧ (∀ k, k ∈ rs.map (·.1) → ∃ x, k = .inr x ∧ x ∈ keys T) ∧ ∀ v, (valV rs (.inr v)).isSome = true ↔ Ringed T (es.take i) v)
      ⟨none, none, [], rfl, s1, upd_same, List.nodup_nil, fun k h => (nomatch h), fun v => ⟨fun h => (nomatch h), fun ⟨x, y, h, _⟩ => by simp at h⟩⟩ (fun i σ H2 _ ⟨_, _, _, _, s2, _⟩ => s2.seq hS) ?_ ?_⟩
    · rintro i x σ _ H2 hi ⟨u, v, rs, rfl, s2, hr2, nd2, in2, R2⟩ ⟨rfl, hx⟩
      obtain ⟨t, p, q, rfl, he, ht⟩ := (s2.pz hP).get hx
      obtain ⟨kp, kq⟩ := hk p q (List.mem_of_getElem? he)
      have hd2 := s2 _ _ hd
      obtain ⟨tp, vp, hp⟩ := (L.same s2).pick kp
      obtain ⟨tq, vq, hq⟩ := (L.same s2).pick kq
      have hRi : ∀ v, Ringed T (es.take (i + 1)) v ↔ Ringed T (es.take i) v ∨ (up T p ≠ some q ∧ up T q ≠ some p ∧ Xor T p q v) := by
        intro v
        rw [take_snoc he]
        unfold Ringed
        constructor
        · rintro ⟨x, y, h, r⟩
          rcases List.mem_append.mp h with h | h
          · exact .inl ⟨x, y, h, r⟩
          · rw [List.mem_singleton] at h
            cases h
            exact .inr r
        · rintro (⟨x, y, h, r⟩ | r)
          · exact ⟨x, y, List.mem_append.mpr (.inl h), r⟩
          · exact ⟨p, q, List.mem_append.mpr (.inr (List.mem_singleton.mpr rfl)), r⟩
      refine ⟨t, _, rfl, SqT.of ht, rfl, _, _, rfl, _, _, rfl, rfl, ?_⟩
      refine ⟨_, rfl, _, rfl, d, _, rfl, (by rw [← vp]; exact DGet.k (k := Sum.inr p) hd2), tp, _, _, optV (up T p), rfl, rfl, SqT.of hp, atI_nat (j := 1) rfl, _, rfl, scal_opt _ _, _, rfl, ?_⟩
      rw [dec_opt]
      by_cases e1 : up T p = some q
      · rw [decide_eq_true e1]
        refine iteF (iteF ⟨_, _, rs, rfl, s2, hr2, nd2, in2, fun v => (R2 v).trans ?_⟩)
        rw [hRi]
        exact ⟨.inl, fun h => h.resolve_right fun z => z.1 e1⟩
      rw [decide_eq_false e1]
      refine iteT ⟨_, rfl, _, rfl, d, _, rfl, (by rw [← vq]; exact DGet.k (k := Sum.inr q) hd2), tq, _, _, optV (up T q), rfl, rfl, SqT.of hq, atI_nat (j := 1) rfl, _, rfl, scal_opt _ _, _, rfl, ?_⟩
      rw [dec_opt]
      by_cases e2 : up T q = some p
      · rw [decide_eq_true e2]
        refine iteF ⟨_, _, rs, rfl, s2, hr2, nd2, in2, fun v => (R2 v).trans ?_⟩
        rw [hRi]
        exact ⟨.inl, fun h => h.resolve_right fun z => z.2.1 e2⟩
      rw [decide_eq_false e2]
      refine iteT ?_
      -- while one != other
      refine ⟨fun m σ H3 => ∃ (x y : Str) (rs : List (Key × V)), σ = [some (.ref d), some (.ref a), some (.ref r), some (.str x), some (.str y)] ∧ Same H H3 ∧ H3 r = some (.dK rs) ∧ x ∈ keys T ∧ y ∈ keys T ∧
          (rs.map (·.1)).Nodup ∧ (∀ k, k ∈ rs.map (·.1) → ∃ x, k = .inr x ∧ x ∈ keys T) ∧ (∀ v, ((valV rs (.inr v)).isSome = true ∨ Xor T x y v) ↔ Ringed T (es.take (i + 1)) v) ∧ m = lv T x + lv T y,
        ⟨_, p, q, rs, rfl, s2, hr2, kp, kq, nd2, in2, fun v => ?_, rfl⟩, ?_⟩
      · rw [R2 v, hRi v]
        exact or_congr_right ⟨fun h => ⟨e1, e2, h⟩, fun h => h.2.2⟩
      · rintro m σ H3 ⟨x, y, rs, rfl, s3, hr3, kx, ky, nd3, in3, R3, rfl⟩
        have hd3 := s3 _ _ hd
        obtain ⟨tx, vx, hx⟩ := (L.same s3).pick kx
        obtain ⟨ty, vy, hy⟩ := (L.same s3).pick ky
        refine ⟨_, rfl, _, rfl, rfl, _, rfl, ?_⟩
        by_cases exy : x = y
        · subst exy
          rw [decide_eq_true rfl]
          refine iteF ⟨_, _, rs, rfl, s3, hr3, nd3, in3, fun v => ⟨fun h => (R3 v).mp (.inl h), fun h => ((R3 v).mpr h).resolve_right xor_self⟩⟩
        · rw [decide_eq_false fun z => exy (V.str.inj z)]
          refine iteT ⟨RgI H d a r T (es.take (i + 1)) (lv T x + lv T y),
            fun σ' H' ⟨x', y', rs', a1, a2, a3, a4, a5, a6, a7, a8, a9⟩ => ⟨_, a9, x', y', rs', a1, a2, a3, a4, a5, a6, a7, a8, rfl⟩, ?_⟩
          -- both ways: the deeper one is in slot 3
          have go : ∀ {x' y' : Str} {rt : VK} {bk ct : L2.St → Hp → Prop}, x' ∈ keys T → y' ∈ keys T → x' ≠ y' → lv T y' ≤ lv T x' → (∀ v, Xor T x' y' v ↔ Xor T x y v) → lv T x' + lv T y' = lv T x + lv T y →
              tSeq (sDPut (tVar 2) (tVar 3) (tC (.bl true))) (tSeq (tAsg (tOp (rIxT K) (tDGet (tVar 0) (tVar 3)) (tC (.int 1))) (gName 3)) tNext) ⟨RgI H d a r T (es.take (i + 1)) (lv T x + lv T y), rt, bk, ct⟩ [some (.ref d), some (.ref a), some (.ref r), some (.str x'), some (.str y')] H3 := by
            intro x' y' rt bk ct kx' ky' ne' le' hX hm
            obtain ⟨px, hpx, kpx, hlx, hXp⟩ := xor_step B kx' ky' ne' le'
            have nrl : rs.length ≤ 81 := by
              have hsub : rs.length ≤ ((keys T).map (Sum.inr : Str → Key)).length := by
                rw [← List.length_map (f := (·.1)) (as := rs)]
                exact nd3.length_le_of_subset fun k hk => by
                  obtain ⟨z, rfl, hz⟩ := in3 k hk
                  exact List.mem_map.mpr ⟨z, hz, rfl⟩
              unfold keys at hsub
              rw [List.length_map, List.length_map] at hsub
              omega
            refine ⟨_, rfl, _, rfl, r, _, rfl, DPut.k (k := Sum.inr x') hr3 (small1000 (by omega)), ?_⟩
            have s4 : Same H (upd H3 r (.dK (putK rs (.inr x') (.bl true)))) := s3.to_own hr0
            obtain ⟨tx', vx', hx'⟩ := (L.same s4).pick kx'
            refine ⟨_, rfl, _, rfl, d, _, rfl, (by rw [← vx']; exact DGet.k (k := Sum.inr x') (s4 _ _ hd)), tx', _, _, optV (up T x'), rfl, rfl, SqT.of hx', atI_nat (j := 1) rfl, ?_⟩
            rw [hpx]
            show RgI _ _ _ _ _ _ _ _ _
            have hin : ∀ k, k ∈ (putK rs (.inr x') (V.bl true)).map (·.1) → k ∈ rs.map (·.1) ∨ k = .inr x' := by
              intro k hk
              by_cases ek : k = .inr x'
              · exact .inr ek
              · left
                obtain ⟨⟨k0, v0⟩, hm0, rfl⟩ := List.mem_map.mp hk
                have hk0 : (valV (putK rs (.inr x') (V.bl true)) k0).isSome = true := by
                  rw [← valV_any]
                  exact List.any_eq_true.mpr ⟨_, hm0, decide_eq_true rfl⟩
                rw [valV_put, if_neg ek] at hk0
                obtain ⟨v1, h1⟩ := Option.isSome_iff_exists.mp hk0
                exact valV_in h1
            refine ⟨px, y', _, rfl, s4, upd_same, kpx, ky', ?_, fun k hk => ?_, fun v => ?_, by omega⟩
            · cases hv : valV rs (.inr x') with
              | none => exact nd_putK _ nd3 hv
              | some v0 =>
                have ek : (putK rs (.inr x') (V.bl true)).map (·.1) = rs.map (·.1) := by
                  unfold putK
                  rw [valV_any, hv, if_pos (show (some v0).isSome = true from rfl), List.map_map]
                  refine List.map_congr_left fun p hp => ?_
                  show (if p.1 = _ then (p.1, _) else p).1 = p.1
                  split <;> rfl
                rw [ek]
                exact nd3
            · rcases hin k hk with h | h
              · exact in3 k h
              · exact ⟨x', h, kx'⟩
            · rw [← R3 v, ← hX v, hXp v, valV_put]
              by_cases ev : (Sum.inr v : Key) = .inr x'
              · rw [if_pos ev]
                cases ev
                exact ⟨fun _ => .inr (.inl rfl), fun _ => .inl rfl⟩
              · rw [if_neg ev]
                have ev' : ¬ v = x' := fun z => ev (by rw [z])
                constructor
                · rintro (h | h)
                  · exact .inl h
                  · exact .inr (.inr h)
                · rintro (h | h | h)
                  · exact .inl h
                  · exact absurd h ev'
                  · exact .inr h
          refine ⟨_, rfl, _, rfl, d, _, rfl, (by rw [← vx]; exact DGet.k (k := Sum.inr x) hd3), tx, _, _, .int (lv T x : Nat), rfl, rfl, SqT.of hx, atI_nat (j := 0) rfl,
            _, rfl, _, rfl, d, _, rfl, (by rw [← vy]; exact DGet.k (k := Sum.inr y) hd3), ty, _, _, .int (lv T y : Nat), rfl, rfl, SqT.of hy, atI_nat (j := 0) rfl, _, _, rfl, rfl, _, rfl, ?_⟩
          refine ite2 (fun hlt => ?_) (fun hge => ?_)
          · have hlt := of_decide_eq_true hlt
            refine ⟨_, rfl, _, rfl, _, _, rfl, ?_⟩
            exact go ky kx (fun z => exy z.symm) (by omega) (fun v => xor_comm) (Nat.add_comm _ _)
          · have hge : ¬ ((lv T x : Int) < (lv T y : Int)) := fun z => hge (decide_eq_true z)
            exact go kx ky exy (by omega) (fun v => Iff.rfl) rfl
    · rintro σ H2 ⟨u, v, rs, rfl, s2, hr2, nd2, in2, R2⟩
      rw [hP.length, List.take_length] at R2
      exact ⟨_, rfl, k H2 r rs s2 hr0 hr2 R2⟩
end
end Yf
set_option Elab.async false
set_option linter.all false
set_option maxRecDepth 100000
set_option maxHeartbeats 4000000
/-! W4: bridges_of, sides_of, odd_ring_of. -/
namespace Yf
open PySem PySem.Spec PyProof.Rows L2
/-- rooms at r, corridors at a, all joined -/
structure Gr (K : PySem.W.Frag) (H : Hp) (r a : Addr) (ks : List Str) (xs : List V) (es : List (Str × Str)) : Prop where
  hR : SqL K H r (ks.map V.str)
  hS : SqL K H a xs
  hP : Pz H xs es
  len : es.length ≤ 40
  klen : ks.length ≤ 60
  kne : ks ≠ []
  good : Good es
  inK : ∀ p q, (p, q) ∈ es → p ∈ ks ∧ q ∈ ks
  conn : ∀ v, v ∈ ks → Conn es (smin ks) v
theorem Gr.keys {K : PySem.W.Frag} {H : Hp} {r a : Addr} {ks : List Str} {xs : List V} {es : List (Str × Str)} (G : Gr K H r a ks xs es) {T : Tb Str} (B : Bfs es (smin ks) T) : ∀ p q, (p, q) ∈ es → p ∈ Yf.keys T ∧ q ∈ Yf.keys T :=
  fun p q h => ⟨B.mem.mpr (G.conn p (G.inK p q h).1), B.mem.mpr (G.conn q (G.inK p q h).2)⟩
def spBridges (K : PySem.W.Frag) : Sp := fun vs H Q _ => ∃ (r a : Addr) (ks : List Str) (xs : List V) (es : List (Str × Str)), vs = [.ref r, .ref a] ∧ Gr K H r a ks xs es ∧
  ∀ H' l ys bs, Same H H' → H' l = some (.lst ys) → Pz H' ys bs → (bs.Nodup ∨ True) → (∀ f : Str × Str → Bool, (∀ e, f e = true ↔ Bri es e) → bs = es.filter f) → Q (.ref l) H'
def spSides (K : PySem.W.Frag) : Sp := fun vs H Q _ => ∃ (r a : Addr) (ks : List Str) (xs : List V) (es : List (Str × Str)), vs = [.ref r, .ref a] ∧ Gr K H r a ks xs es ∧
  ∀ H' T, Same H H' → Bfs es (smin ks) T → (Lev T es → Q .non H') ∧ (¬ Lev T es → ∀ t l1 l2 y1 y2, H' t = some (.tup [.ref l1, .ref l2]) → H' l1 = some (.lst y1) → H' l2 = some (.lst y2) → Q (.ref t) H')
def spOdd (K : PySem.W.Frag) : Sp := fun vs H Q _ => ∃ (r a : Addr) (ks : List Str) (xs : List V) (es : List (Str × Str)), vs = [.ref r, .ref a] ∧ Gr K H r a ks xs es ∧
  ∀ H' T, Same H H' → Bfs es (smin ks) T → (¬ Lev T es → Q .non H') ∧ (Lev T es → ∀ t ys, H' t = some (.tup ys) → Q (.ref t) H')
theorem scBridges : FnScope ["rooms", "corridors", "levels", "ringed", "found", "one", "other", "lower", "upper"] ["rooms", "corridors"] (C8.fnScope sBridges) := ⟨rfl, rfl, rfl, by decide +kernel, rfl, by decide +kernel, by decide +kernel⟩
theorem scSides : FnScope ["rooms", "corridors", "levels", "first", "room"] ["rooms", "corridors"] (C8.fnScope sSides) := ⟨rfl, rfl, rfl, by decide +kernel, rfl, by decide +kernel, by decide +kernel⟩
theorem scOdd : FnScope ["rooms", "corridors", "levels", "corridor", "ahead", "behind"] ["rooms", "corridors"] (C8.fnScope sOdd) := ⟨rfl, rfl, rfl, by decide +kernel, rfl, by decide +kernel, by decide +kernel⟩
theorem Gr.same {K : PySem.W.Frag} {H H' : Hp} {r a : Addr} {ks : List Str} {xs : List V} {es : List (Str × Str)} (G : Gr K H r a ks xs es) (s : Same H H') : Gr K H' r a ks xs es :=
  { G with hR := s.seq G.hR, hS := s.seq G.hS, hP := s.pz G.hP }
theorem Pz.snoc {H : Hp} : ∀ {xs : List V} {es : List (Str × Str)}, Pz H xs es → ∀ {t : Addr} {p q : Str}, H t = some (.tup [.str p, .str q]) → Pz H (xs ++ [.ref t]) (es ++ [(p, q)])
  | _, _, .nil, t, p, q, h => .cons ⟨t, rfl, h⟩ .nil
  | _, _, .cons r l, t, p, q, h => .cons r (Pz.snoc l h)
/-- bridges_of at a turn's begin -/
def BrI (H H2 : Hp) (r a d rg l : Addr) (es : List (Str × Str)) (n : Nat) : L2.St → Hp → Prop := fun σ H3 => ∃ (u v u' v' : Option V) (ys : List V) (bs : List (Str × Str)), σ = [some (.ref r), some (.ref a), some (.ref d), some (.ref rg), some (.ref l), u, v, u', v'] ∧ Same H H3 ∧ Same H2 H3 ∧ H3 l = some (.lst ys) ∧ Pz H3 ys bs ∧
  bs.length ≤ n ∧ ∀ f : Str × Str → Bool, (∀ e, f e = true ↔ Bri es e) → bs = (es.take n).filter f
/-- levels lie below the number of rooms -/
theorem lv_chain {es : List (Str × Str)} {s : Str} {T : Tb Str} (B : Bfs es s T) : ∀ (n : Nat) {v : Str}, lv T v = n → v ∈ keys T → ∃ L : List Str, L.Nodup ∧ L.length = n + 1 ∧ (∀ x, x ∈ L → x ∈ keys T) ∧ ∀ x, x ∈ L → lv T x ≤ n
  | 0, v, h, hv => ⟨[v], by simp, rfl, fun x hx => by rw [List.mem_singleton.mp hx]; exact hv, fun x hx => by rw [List.mem_singleton.mp hx, h]; exact Nat.le_refl _⟩
  | n + 1, v, h, hv => by
    obtain ⟨p, hp⟩ := B.up_some hv (by omega)
    obtain ⟨_, hl, _, kp⟩ := B.up_adj hp
    obtain ⟨L, nd, len, a, b⟩ := lv_chain B n (v := p) (by omega) kp
    refine ⟨v :: L, List.nodup_cons.mpr ⟨fun m => ?_, nd⟩, by rw [List.length_cons, len], fun x hx => ?_, fun x hx => ?_⟩
    · have := b v m
      omega
    · rcases List.mem_cons.mp hx with rfl | hx
      · exact hv
      · exact a x hx
    · rcases List.mem_cons.mp hx with rfl | hx
      · omega
      · exact Nat.le_succ_of_le (b x hx)
theorem lv_lt {es : List (Str × Str)} {s : Str} {T : Tb Str} (B : Bfs es s T) {v : Str} (hv : v ∈ keys T) : lv T v < T.length := by
  obtain ⟨L, nd, len, a, _⟩ := lv_chain B _ rfl hv
  have := nd.length_le_of_subset a
  unfold keys at this
  rw [List.length_map] at this
  omega
section
variable {P : Program} {w : World} {K : PySem.W.Frag} {mg : Str → Option Value} {base : Heap}
theorem cal_bridges {c : Addr} {f : Addr} {fd : FuncData} (F : C8.Def K mg "bridges_of" sBridges f fd) (b : Binds K fd ["rooms", "corridors"] []) (z : Bi mg) (hc : ∀ H, SqT K H c []) (cS : C8.Cal P w K mg base 2 "steps_from" (spSteps K) [.ref c]) (cR : C8.Cal P w K mg base 1 "on_rings" (spRings K) []) :
    C8.Cal P w K mg base 3 "bridges_of" (spBridges K) [] := by
  refine C8.cal0 F b .nil scBridges (fun vs H Q E h => ?_) (fun cdv A outer s H vs Q E hr h => ?_)
  · obtain ⟨r, a, ks, xs, es, rfl, _⟩ := h
    rfl
  · obtain ⟨r, a, ks, xs, es, rfl, G, k⟩ := h
    have hu := hu_of hr
    refine ⟨_, pss_cons (ps_set (i := 2) scBridges.nd rfl (Or.inl rfl) (C8.pe_c cS hr (by decide) (by rfl) (pa_cons (pe_callB (cr_minS rfl) (by rfl) z.min (by decide +kernel) (pa_cons (pv 0) pa_nil)) (pa_cons (pv 1) pa_nil))))
      (pss_cons (ps_par (i := 3) (j := 4) (by rfl) scBridges.nd rfl rfl (by decide) rfl rfl (pa_cons (C8.pe_c cR hr (by decide) (by rfl) (pa_cons (pv 2) (pa_cons (pv 1) pa_nil))) (pa_cons (pe_lst pa_nil) pa_nil)) (by rfl))
      (pss_cons (ps_for PassesOwn.never rfl (pi_list (pv 1)) (pg_tup (by rfl) (pgs_cons (pg_name (i := 5) scBridges.nd rfl (Or.inl rfl)) (pgs_cons (pg_name (i := 6) scBridges.nd rfl (Or.inl rfl)) pgs_nil)))
        (pss_cons (ps_set (i := 7) scBridges.nd rfl (Or.inl rfl) (pe_ifExp (pt_cmpR op_eq (pe_ix ix_tup (pe_dget hu (pv 2) (pv 5) (fun _ _ => rfl)) pe_int (fun _ _ => rfl)) (pv 6) (nomark _)) (pv 5) (pv 6)))
        (pss_cons (ps_set (i := 8) scBridges.nd rfl (Or.inl rfl) (pe_ifExp (pt_cmpR op_eq (pv 7) (pv 5) (nomark _)) (pv 6) (pv 5)))
        (pss_one (ps_if (PW.pt (pw_and (pt_cmpR op_eq (pe_ix ix_tup (pe_dget hu (pv 2) (pv 7) (fun _ _ => rfl)) pe_int (fun _ _ => rfl)) (pv 8) (nomark _)) (pw_and1 (pt_cmp (pc_dnotin hu (pv 7) (pv 3))))))
          (pss_one (ps_expr (pe_bm PySem.F.plainAttrs_list PySem.F.slot_list_append PySem.F.type_list_append mt_append (pv 4) (pa_cons (pe_tup (pa_cons (pv 5) (pa_cons (pv 6) pa_nil))) pa_nil)))) pss_nil)))))
      (pss_one (ps_ret (pv 4))))), ?_⟩
    refine ⟨_, rfl, r, ks, rfl, G.hR, G.kne, _, rfl, _, a, c, xs, es, rfl, G.hS, G.hP, G.len, G.good.ne, hc _, fun H1 d kvs T s1 h0d hd L B hT => ?_⟩
    have hk := G.keys B
    refine ⟨_, rfl, _, rfl, d, a, kvs, T, xs, es, _, rfl, hd, L, s1.seq G.hS, s1.pz G.hP, hk, B, hT, fun H2 rg rs s2 h0r hrg hR => ?_⟩
    refine ⟨(by show 0 ≤ sizeLine; exact Nat.zero_le _), fun l hl => ⟨_, _, rfl, ?_⟩⟩
    have s12 := s1.trans s2
    have s3 := s12.to_new (o := .lst []) hl
    have h0l := s12.free hl
    have nlr : rg ≠ l := ne_of_none hrg hl
    have nld : d ≠ l := ne_of_none (s2 _ _ hd) hl
    have hbr : ∀ p q, (p, q) ∈ es → (Brd T es p q ↔ Bri es (p, q)) := fun p q h => brd_iff B G.good hk h
    refine ⟨_, rfl, a, rfl, ⟨_, s3.seq G.hS⟩, for_it walk_list (fun i => BrI H H2 r a d rg l es i)
      ⟨none, none, none, none, [], [], rfl, s3, Same.upd_new hl, upd_same, .nil, Nat.zero_le _, fun f _ => by simp⟩ (fun i σ H3 _ ⟨_, _, _, _, _, _, _, s4, _⟩ => s4.seq G.hS) ?_ ?_⟩
    · rintro i x σ _ H3 hi ⟨u, v, u', v', ys, bs, rfl, s4, s5, hl3, P3, hb3, F3⟩ ⟨rfl, hx⟩
      obtain ⟨t, p, q, rfl, he, ht⟩ := (s4.pz G.hP).get hx
      have hpq := List.mem_of_getElem? he
      obtain ⟨kp, kq⟩ := hk p q hpq
      have npq := G.good.ne p q hpq
      have hi' : i < 40 := Nat.lt_of_lt_of_le (lt_of_get he) G.len
      have hd3 := s5 _ _ (s2 _ _ hd)
      have hrg3 := s5 _ _ hrg
      have L3 := L.same (s2.trans s5)
      obtain ⟨t1, v1, h1⟩ := L3.pick kp
      obtain ⟨t2, v2, h2⟩ := L3.pick kq
      have hrk : ∀ v, (!(valV rs (Sum.inr v : Key)).isSome) = true ↔ ¬ Ringed T es v := fun v => by
        rw [← hR v]
        cases (valV rs (Sum.inr v : Key)).isSome <;> simp
      -- how the two ways end
      have yes : Bri es (p, q) → ∀ {u v : Option V} {rt : VK} {bk ct : L2.St → Hp → Prop},
          tSeq (tDrop (tBM K "list" rAppend (tVar 4) (tCons (tTup (tCons (tVar 5) (tCons (tVar 6) tNil))) tNil))) tNext ⟨BrI H H2 r a d rg l es (i + 1), rt, bk, ct⟩ [some (.ref r), some (.ref a), some (.ref d), some (.ref rg), some (.ref l), some (.str p), some (.str q), u, v] H3 := by
        intro hb u v rt bk ct
        refine ⟨_, rfl, .inl ⟨rfl, _, SqL.of hl3⟩, _, rfl, _, rfl, (by show 2 ≤ sizeLine; decide), fun t5 ht5 => ?_⟩
        have n5 : l ≠ t5 := ne_of_none hl3 ht5
        have yl := P3.length
        refine ⟨l, _, _, rfl, rfl, (by rw [upd_ne n5]; exact hl3), small1000 (by omega), ?_⟩
        have s6 : Same H (upd (upd H3 t5 (.tup [.str p, .str q])) l (.lst (ys ++ [.ref t5]))) := (s4.to_new ht5).to_own h0l
        refine ⟨_, _, _, _, _, bs ++ [(p, q)], rfl, s6, (s5.to_new ht5).to_own hl, upd_same, ?_, ?_, fun f hf => ?_⟩
        · have P4 : Pz (upd (upd H3 t5 (.tup [.str p, .str q])) l (.lst (ys ++ [.ref t5]))) ys bs := P3.mono fun x zs e => by
            rw [upd_ne (ne_of e hl3 (by intro z; cases z)), upd_ne (ne_of_none e ht5)]
            exact e
          exact P4.snoc (by rw [upd_ne n5.symm, upd_same])
        · rw [List.length_append]
          exact Nat.succ_le_succ hb3
        · rw [take_snoc he, List.filter_append, ← F3 f hf, List.filter_cons, if_pos ((hf _).mpr hb), List.filter_nil]
      have no : ¬ Bri es (p, q) → ∀ {u v : Option V}, BrI H H2 r a d rg l es (i + 1) [some (V.ref r), some (.ref a), some (.ref d), some (.ref rg), some (.ref l), some (.str p), some (.str q), u, v] H3 := by
        intro hb u v
        refine ⟨_, _, _, _, ys, bs, rfl, s4, s5, hl3, P3, by omega, fun f hf => ?_⟩
        rw [take_snoc he, List.filter_append, ← F3 f hf, List.filter_cons, if_neg (fun h => hb ((hf _).mp h)), List.filter_nil, List.append_nil]
      refine ⟨t, _, rfl, SqT.of ht, rfl, _, _, rfl, _, _, rfl, rfl, ?_⟩
      refine ⟨_, rfl, _, rfl, d, _, rfl, (by rw [← v1]; exact DGet.k (k := Sum.inr p) hd3), t1, _, _, optV (up T p), rfl, rfl, SqT.of h1, atI_nat (j := 1) rfl, _, rfl, scal_opt _ _, _, rfl, ?_⟩
      rw [dec_opt]
      by_cases e1 : up T p = some q
      · rw [decide_eq_true e1]
        refine iteT ⟨_, rfl, _, rfl, _, rfl, rfl, _, rfl, ?_⟩
        rw [decide_eq_true rfl]
        refine iteT ⟨_, rfl, ?_⟩
        refine ⟨_, rfl, _, rfl, d, _, rfl, (by rw [← v1]; exact DGet.k (k := Sum.inr p) hd3), t1, _, _, optV (up T p), rfl, rfl, SqT.of h1, atI_nat (j := 1) rfl, _, rfl, scal_opt _ _, _, rfl, ?_⟩
        rw [dec_opt, decide_eq_true e1]
        refine iteT ⟨_, rfl, _, rfl, rg, _, rfl, DGet.k (k := Sum.inr p) hrg3, _, rfl, ?_⟩
        have hB : Bri es (p, q) ↔ ¬ Ringed T es p := (hbr p q hpq).symm.trans ⟨fun h => h.elim (fun h => h.2) (fun h => absurd h.1 (up_not_both B e1)), fun h => .inl ⟨e1, h⟩⟩
        refine ite2 (fun h => ?_) (fun h => ?_)
        · exact yes (hB.mpr ((hrk p).mp h))
        · exact no (fun h' => h ((hrk p).mpr (hB.mp h')))
      · rw [decide_eq_false e1]
        refine iteF ⟨_, rfl, _, rfl, _, rfl, rfl, _, rfl, ?_⟩
        rw [decide_eq_false (fun z => npq (V.str.inj z).symm)]
        refine iteF ⟨_, rfl, ?_⟩
        refine ⟨_, rfl, _, rfl, d, _, rfl, (by rw [← v2]; exact DGet.k (k := Sum.inr q) hd3), t2, _, _, optV (up T q), rfl, rfl, SqT.of h2, atI_nat (j := 1) rfl, _, rfl, scal_opt _ _, _, rfl, ?_⟩
        rw [dec_opt]
        by_cases e2 : up T q = some p
        · rw [decide_eq_true e2]
          refine iteT ⟨_, rfl, _, rfl, rg, _, rfl, DGet.k (k := Sum.inr q) hrg3, _, rfl, ?_⟩
          have hB : Bri es (p, q) ↔ ¬ Ringed T es q := (hbr p q hpq).symm.trans ⟨fun h => h.elim (fun h => absurd h.1 e1) (fun h => h.2), fun h => .inr ⟨e2, h⟩⟩
          refine ite2 (fun h => ?_) (fun h => ?_)
          · exact yes (hB.mpr ((hrk q).mp h))
          · exact no (fun h' => h ((hrk q).mpr (hB.mp h')))
        · rw [decide_eq_false e2]
          refine iteF (iteF (no fun h => ?_))
          rcases (hbr p q hpq).mpr h with h | h
          · exact e1 h.1
          · exact e2 h.1
    · rintro σ H3 ⟨u, v, u', v', ys, bs, rfl, s4, s5, hl3, P3, hb3, F3⟩
      rw [G.hP.length, List.take_length] at F3
      exact ⟨_, rfl, k H3 l ys bs s4 hl3 P3 (.inr trivial) F3⟩
end
end Yf
set_option Elab.async false
set_option linter.all false
set_option maxRecDepth 100000
set_option maxHeartbeats 4000000
/-! W5: sides_of, odd_ring_of. -/
namespace Yf
open PySem PySem.Spec PyProof.Rows L2
/-- levels[room][0] % 2 == c -/
def evT (K : PySem.W.Frag) (c : Int) : TT := tTest (tOp rEq (tOp (rI (fun _ j => 0 < j) fun i j => .int (i % j)) (tOp (rIxT K) (tDGet (tVar 2) (tVar 4)) (tC (.int 0))) (tC (.int 2))) (tC (.int c)))
theorem lc_even {K : PySem.W.Frag} {c : Int} {p d D : Addr} {ys : List Str} {kvs : List (Key × V)} {T : Tb Str} {s0 s1 s3 s4 : Option V} {H1 : Hp} {Qd : Hp → Prop} (hp : SqL K H1 p (ys.map V.str)) (hd : H1 d = some (.dK kvs)) (L : LvT H1 kvs T) (hk : ∀ v, v ∈ ys → v ∈ keys T) (hlen : ys.length ≤ 60) (hD : H1 D = none)
    (k : ∀ H' acc, Same H1 H' → H' D = some (.lst acc) → Qd H') :
    ∃ W : Nat → Nat → Hp → Prop, (∃ m, W 0 m (upd H1 D (.lst []))) ∧ ∀ i m H, W i m H →
      ((Itl K p).stop i H ∧ Qd H) ∨ ((Itl K p).go i H ∧ ∃ Nx : Hp → Prop, (∀ H', Nx H' → ∃ m', m' < m ∧ W (i + 1) m' H') ∧ ∀ x H', (Itl K p).yld i H x H' → gName 4 x (wipe [s0, s1, some (.ref d), s3, s4] [4]) H' fun σ2 H2 => wipe σ2 [4] = wipe [s0, s1, some (.ref d), s3, s4] [4] ∧ evT K c σ2 H2 fun b H3 =>
        if b = true then tVar 4 σ2 H3 fun y H4 => ∃ acc, H4 D = some (.lst acc) ∧ acc.length < sizeLine ∧ Nx (upd H4 D (.lst (acc ++ [y]))) else Nx H3) := by
  refine lc_it walk_list (fun i H => ∃ acc, Same H1 H ∧ H D = some (.lst acc) ∧ acc.length ≤ i) ⟨[], Same.upd_new hD, upd_same, Nat.le_refl _⟩ (fun i H _ ⟨_, s, _⟩ => s.seq hp) ?_ (fun H ⟨acc, s, h, _⟩ => k H acc s h)
  rintro i x _ H hi ⟨acc, s, ha, hl⟩ ⟨rfl, hx⟩
  obtain ⟨v, hv, rfl⟩ := map_get hx
  have hi' : i < 60 := Nat.lt_of_lt_of_le (lt_of_get hv) hlen
  obtain ⟨t, vt, ht⟩ := (L.same s).pick (hk v (List.mem_of_getElem? hv))
  refine ⟨rfl, ?_⟩
  refine ⟨_, rfl, _, rfl, d, _, rfl, (by rw [← vt]; exact DGet.k (k := Sum.inr v) (s _ _ hd)), t, _, _, .int (lv T v : Nat), rfl, rfl, SqT.of ht, atI_nat (j := 0) rfl, _, _, rfl, rfl, (by show (0 : Int) < 2; decide), rfl, _, rfl, ?_⟩
  refine ite2 (fun _ => ?_) (fun _ => ⟨acc, s, ha, by omega⟩)
  refine ⟨_, rfl, acc, ha, small1000 (by omega), acc ++ [.str v], s.to_own hD, upd_same, ?_⟩
  rw [List.length_append]
  exact Nat.succ_le_succ hl
section
variable {P : Program} {w : World} {K : PySem.W.Frag} {mg : Str → Option Value} {base : Heap}
theorem cal_sides {c : Addr} {f : Addr} {fd : FuncData} (F : C8.Def K mg "sides_of" sSides f fd) (b : Binds K fd ["rooms", "corridors"] []) (z : Bi mg) (hc : ∀ H, SqT K H c []) (cS : C8.Cal P w K mg base 2 "steps_from" (spSteps K) [.ref c]) (cL : C8.Cal P w K mg base 1 "level_corridor" (spLevel K) []) :
    C8.Cal P w K mg base 3 "sides_of" (spSides K) [] := by
  refine C8.cal0 F b .nil scSides (fun vs H Q E h => ?_) (fun cdv A outer s H vs Q E hr h => ?_)
  · obtain ⟨r, a, ks, xs, es, rfl, _⟩ := h
    rfl
  · obtain ⟨r, a, ks, xs, es, rfl, G, k⟩ := h
    have hu := hu_of hr
    refine ⟨_, pss_cons (ps_set (i := 2) scSides.nd rfl (Or.inr rfl) (C8.pe_c cS hr (by decide) (by rfl) (pa_cons (pe_callB (cr_minS rfl) (by rfl) z.min (by decide +kernel) (pa_cons (pv 0) pa_nil)) (pa_cons (pv 1) pa_nil))))
      (pss_cons (ps_if (pt_cmp (pc_notN (C8.pe_c cL hr (by decide) (by rfl) (pa_cons (pv 2) (pa_cons (pv 1) pa_nil))))) (pss_one (ps_ret pe_non)) pss_nil)
      (pss_cons (ps_setLc (i := 3) (own := [("room", 4)]) (g := gName 4) (tt := evT K 0) (te := tVar 4) rfl scSides.nd rfl rfl (sw_true rfl rfl rfl (by decide +kernel)) (pi_list (pe_callB cr_sortedS (by rfl) z.sorted (by decide +kernel) (pa_cons (pv 0) pa_nil)))
          (blkOk_by (N := ["rooms", "corridors", "levels", "first", "room"]) (sc := C8.fnScope sSides) (own := [("room", 4)]) (by decide +kernel)) (fun _ _ _ _ _ => pg_name (i := 4) scSides.nd rfl (Or.inl rfl))
          (fun _ _ _ _ _ => pts_one (pt_cmpR op_eq (pe_op op_mod (pe_ix ix_tup (pe_dget hu (pv 2) (pv 4) (fun _ _ => rfl)) pe_int (fun _ _ => rfl)) pe_int) pe_int (nomark _))) (fun _ _ _ _ _ => pv 4))
      (pss_one (ps_ret (pe_tup (pa_cons (pv 3) (pa_cons (pe_lc (own := [("room", 4)]) (g := gName 4) (tt := evT K 1) (te := tVar 4) rfl scSides.nd (pi_list (pe_callB cr_sortedS (by rfl) z.sorted (by decide +kernel) (pa_cons (pv 0) pa_nil)))
          (blkOk_by (N := ["rooms", "corridors", "levels", "first", "room"]) (sc := C8.fnScope sSides) (own := [("room", 4)]) (by decide +kernel)) (fun _ _ _ _ _ => pg_name (i := 4) scSides.nd rfl (Or.inl rfl))
          (fun _ _ _ _ _ => pts_one (pt_cmpR op_eq (pe_op op_mod (pe_ix ix_tup (pe_dget hu (pv 2) (pv 4) (fun _ _ => rfl)) pe_int (fun _ _ => rfl)) pe_int) pe_int (nomark _))) (fun _ _ _ _ _ => pv 4)) pa_nil))))))), ?_⟩
    refine ⟨_, rfl, r, ks, rfl, G.hR, G.kne, _, rfl, _, a, c, xs, es, rfl, G.hS, G.hP, G.len, G.good.ne, hc _, fun H1 d kvs T s1 h0d hd L B hT => ?_⟩
    have hk := G.keys B
    have kk : ∀ v, v ∈ ks → v ∈ keys T := fun v h => B.mem.mpr (G.conn v h)
    refine ⟨_, rfl, _, rfl, d, a, kvs, T, xs, es, rfl, hd, L, s1.seq G.hS, s1.pz G.hP, hk, fun H2 s2 hN => ?_, fun H2 t p q s2 ht hpq hl => ?_⟩
    · refine ⟨false, rfl, iteF ?_⟩
      have s12 := s1.trans s2
      refine ⟨_, rfl, r, ks, rfl, s12.seq G.hR, Nat.lt_of_le_of_lt G.klen (by decide), fun ys p pm srt hp => ⟨p, rfl, ⟨_, SqL.of upd_same⟩, fun D hD => ?_⟩⟩
      have s3 : Same H2 (upd H2 p (.lst (ys.map V.str))) := Same.upd_new hp
      refine lc_even (T := T) (SqL.of upd_same) (s3 _ _ (s2 _ _ hd)) (L.same (s2.trans s3)) (fun v h => kk v (pm.mem_iff.mp h)) (by rw [pm.length_eq]; exact G.klen) hD fun H3 acc s4 hD3 => ?_
      have s14 := s12.trans (s3.trans s4)
      refine ⟨_, rfl, _, rfl, r, ks, rfl, s14.seq G.hR, Nat.lt_of_le_of_lt G.klen (by decide), fun ys2 p2 pm2 srt2 hp2 => ⟨p2, rfl, ⟨_, SqL.of upd_same⟩, fun D2 hD2 => ?_⟩⟩
      have s5 : Same H3 (upd H3 p2 (.lst (ys2.map V.str))) := Same.upd_new hp2
      refine lc_even (T := T) (SqL.of upd_same) (s5 _ _ (s4 _ _ (s3 _ _ (s2 _ _ hd)))) (L.same (((s2.trans s3).trans s4).trans s5)) (fun v h => kk v (pm2.mem_iff.mp h)) (by rw [pm2.length_eq]; exact G.klen) hD2 fun H4 acc2 s6 hD4 => ?_
      refine ⟨(by show 2 ≤ sizeLine; decide), fun t ht => ?_⟩
      have hD4' : H4 D = some (.lst acc) := s6 _ _ (s5 _ _ hD3)
      exact (k _ T ((s14.trans (s5.trans s6)).to_new ht) B).2 hN t D D2 acc acc2 upd_same (by rw [upd_ne (ne_of_none hD4' ht)]; exact hD4') (by rw [upd_ne (ne_of_none hD4 ht)]; exact hD4)
    · refine ⟨true, rfl, iteT ?_⟩
      exact (k H2 T (s1.trans s2) B).1 ⟨p, q, hpq, hl⟩
theorem cal_odd {c : Addr} {f : Addr} {fd : FuncData} (F : C8.Def K mg "odd_ring_of" sOdd f fd) (b : Binds K fd ["rooms", "corridors"] []) (z : Bi mg) (hc : ∀ H, SqT K H c []) (cS : C8.Cal P w K mg base 2 "steps_from" (spSteps K) [.ref c]) (cL : C8.Cal P w K mg base 1 "level_corridor" (spLevel K) []) :
    C8.Cal P w K mg base 3 "odd_ring_of" (spOdd K) [] := by
  refine C8.cal0 F b .nil scOdd (fun vs H Q E h => ?_) (fun cdv A outer s H vs Q E hr h => ?_)
  · obtain ⟨r, a, ks, xs, es, rfl, _⟩ := h
    rfl
  · obtain ⟨r, a, ks, xs, es, rfl, G, k⟩ := h
    have hu := hu_of hr
    refine ⟨_, pss_cons (ps_set (i := 2) scOdd.nd rfl (Or.inl rfl) (C8.pe_c cS hr (by decide) (by rfl) (pa_cons (pe_callB (cr_minS rfl) (by rfl) z.min (by decide +kernel) (pa_cons (pv 0) pa_nil)) (pa_cons (pv 1) pa_nil))))
      (pss_cons (ps_set (i := 3) scOdd.nd rfl (Or.inl rfl) (C8.pe_c cL hr (by decide) (by rfl) (pa_cons (pv 2) (pa_cons (pv 1) pa_nil))))
      (pss_cons (ps_if (pt_cmp (pc_isN (pv 3))) (pss_one (ps_ret pe_non)) pss_nil)
      (pss_cons (ps_par (i := 4) (j := 5) (by rfl) scOdd.nd rfl rfl (by decide) rfl rfl (pa_cons (pe_lst (pa_cons (pe_ix ix_tup (pv 3) pe_int (fun _ _ => rfl)) pa_nil)) (pa_cons (pe_lst (pa_cons (pe_ix ix_tup (pv 3) pe_int (fun _ _ => rfl)) pa_nil)) pa_nil)) (by rfl))
      (pss_cons (ps_while PassesOwn.never (pt_cmpR op_ne (pe_ix ix_list (pv 4) (pe_un un_neg pe_int) (fun _ _ => rfl)) (pe_ix ix_list (pv 5) (pe_un un_neg pe_int) (fun _ _ => rfl)) (nomark _))
        (pss_cons (ps_expr (pe_bm PySem.F.plainAttrs_list PySem.F.slot_list_append PySem.F.type_list_append mt_append (pv 4) (pa_cons (pe_ix ix_tup (pe_dget hu (pv 2) (pe_ix ix_list (pv 4) (pe_un un_neg pe_int) (fun _ _ => rfl)) (fun _ _ => rfl)) pe_int (fun _ _ => rfl)) pa_nil)))
        (pss_one (ps_expr (pe_bm PySem.F.plainAttrs_list PySem.F.slot_list_append PySem.F.type_list_append mt_append (pv 5) (pa_cons (pe_ix ix_tup (pe_dget hu (pv 2) (pe_ix ix_list (pv 5) (pe_un un_neg pe_int) (fun _ _ => rfl)) (fun _ _ => rfl)) pe_int (fun _ _ => rfl)) pa_nil))))))
      (pss_one (ps_ret (pe_callTy call_tuple_of (by rfl) z.tuple (by decide +kernel) (pa_cons (pe_op op_cat (pv 4) (pe_back (pv 5))) pa_nil)))))))), ?_⟩
    refine ⟨_, rfl, r, ks, rfl, G.hR, G.kne, _, rfl, _, a, c, xs, es, rfl, G.hS, G.hP, G.len, G.good.ne, hc _, fun H1 d kvs T s1 h0d hd L B hT => ?_⟩
    have hk := G.keys B
    refine ⟨_, rfl, _, rfl, d, a, kvs, T, xs, es, rfl, hd, L, s1.seq G.hS, s1.pz G.hP, hk, fun H2 s2 hN => ?_, fun H2 t p q s2 ht hpq hl => ?_⟩
    · exact ⟨_, rfl, true, rfl, iteT ((k H2 T (s1.trans s2) B).1 hN)⟩
    · refine ⟨_, rfl, false, rfl, iteF ?_⟩
      have s12 := s1.trans s2
      obtain ⟨kp, kq⟩ := hk p q hpq
      have lp := lv_lt B kp
      refine ⟨_, rfl, t, _, _, .str p, rfl, rfl, SqT.of ht, atI_nat (j := 0) rfl, (by show 1 ≤ sizeLine; decide), fun la hla => ?_⟩
      have s3 := s12.to_new (o := .lst [.str p]) hla
      have ht3 : (upd H2 la (.lst [V.str p])) t = some (.tup [.str p, .str q]) := by rw [upd_ne (ne_of_none ht hla)]; exact ht
      refine ⟨_, rfl, t, _, _, .str q, rfl, rfl, SqT.of ht3, atI_nat (j := 1) rfl, (by show 1 ≤ sizeLine; decide), fun lb hlb => ?_⟩
      have nab : la ≠ lb := fun e => by
        rw [← e, upd_same] at hlb
        cases hlb
      have h0a := s12.free hla
      have h0b := s3.free hlb
      have hlb2 : H2 lb = none := by
        rw [upd_ne nab.symm] at hlb
        exact hlb
      refine ⟨_, _, rfl, ?_⟩
      refine ⟨fun m σ H3 => ∃ (A B : List V) (u v : Str), σ = [some (.ref r), some (.ref a), some (.ref d), some (.ref t), some (.ref la), some (.ref lb)] ∧ Same H H3 ∧ Same H2 H3 ∧ H3 la = some (.lst (A ++ [.str u])) ∧ H3 lb = some (.lst (B ++ [.str v])) ∧
          u ∈ keys T ∧ v ∈ keys T ∧ lv T u = lv T v ∧ A.length + lv T u ≤ 90 ∧ B.length + lv T v ≤ 90 ∧ m = lv T u,
        ⟨_, [], [], p, q, rfl, s3.to_new hlb, (Same.upd_new hla).to_own hlb2, by rw [upd_ne nab, upd_same]; rfl, upd_same, kp, kq, hl, by show 0 + _ ≤ 90; omega, by show 0 + _ ≤ 90; omega, rfl⟩, ?_⟩
      rintro m σ H3 ⟨A, B', u, v, rfl, s4, s24, ha, hb, ku, kv, hlv, hA, hB, rfl⟩
      refine ⟨_, rfl, _, rfl, la, _, _, _, rfl, rfl, SqL.of ha, atI_last _ _, _, rfl, _, rfl, lb, _, _, _, rfl, rfl, SqL.of hb, atI_last _ _, rfl, _, rfl, ?_⟩
      by_cases e : u = v
      · subst e
        rw [decide_eq_true rfl]
        refine iteF ?_
        refine ⟨_, rfl, _, rfl, lb, _, rfl, SqL.of hb, fun p2 ys hys hp2 => ?_⟩
        have hlen2 : ys.length ≤ 92 := Nat.le_trans hys (by rw [List.length_append, List.length_singleton]; omega)
        refine ⟨la, p2, _, _, rfl, rfl, (by rw [upd_ne (ne_of_none ha hp2)]; exact ha), upd_same, Nat.le_of_lt (small1000 (by rw [List.length_append, List.length_singleton]; omega)), fun p3 hp3 => ⟨p3, _, rfl, .inl ⟨SqL.of upd_same, fun p4 hp4 => ?_⟩⟩⟩
        exact (k _ T (((s4.to_new hp2).to_new hp3).to_new hp4) B).2 ⟨p, q, hpq, hl⟩ p4 _ upd_same
      · rw [decide_eq_false fun z => e (V.str.inj z)]
        have h0 : 0 < lv T u := by
          rcases Nat.eq_zero_or_pos (lv T u) with h | h
          · exact absurd ((B.lv_root ku h).trans (B.lv_root kv (by omega)).symm) e
          · exact h
        obtain ⟨pu, hpu⟩ := B.up_some ku h0
        obtain ⟨pw, hpw⟩ := B.up_some kv (by omega)
        obtain ⟨_, l1, _, k1⟩ := B.up_adj hpu
        obtain ⟨_, l2, _, k2⟩ := B.up_adj hpw
        have hd3 := s24 _ _ (s2 _ _ hd)
        obtain ⟨tu, vu, htu⟩ := (L.same (s2.trans s24)).pick ku
        obtain ⟨tv, vv, htv⟩ := (L.same (s2.trans s24)).pick kv
        rw [hpu] at htu
        rw [hpw] at htv
        refine iteT ⟨fun σ' H' => ∃ (A B : List V) (u' v : Str), σ' = [some (.ref r), some (.ref a), some (.ref d), some (.ref t), some (.ref la), some (.ref lb)] ∧ Same H H' ∧ Same H2 H' ∧ H' la = some (.lst (A ++ [.str u'])) ∧ H' lb = some (.lst (B ++ [.str v])) ∧
          u' ∈ keys T ∧ v ∈ keys T ∧ lv T u' = lv T v ∧ A.length + lv T u' ≤ 90 ∧ B.length + lv T v ≤ 90 ∧ lv T u' < lv T u, fun σ' H' ⟨A, B, u', v, a1, a2, a3, a4, a5, a6, a7, a8, a9, a10, a11⟩ => ⟨_, a11, A, B, u', v, a1, a2, a3, a4, a5, a6, a7, a8, a9, a10, rfl⟩, ?_⟩
        refine ⟨_, rfl, .inl ⟨rfl, _, SqL.of ha⟩, _, rfl, _, rfl, _, rfl, la, _, _, _, rfl, rfl, SqL.of ha, atI_last _ _, d, _, rfl, (by rw [← vu]; exact DGet.k (k := Sum.inr u) hd3), tu, _, _, optV (some pu), rfl, rfl, SqT.of htu, atI_nat (j := 1) rfl,
          la, _, _, rfl, rfl, ha, small1000 (by rw [List.length_append, List.length_singleton]; omega), ?_⟩
        have hb4 : (upd H3 la (.lst (A ++ [.str u] ++ [optV (some pu)]))) lb = some (.lst (B' ++ [.str v])) := by
          rw [upd_ne nab.symm]
          exact hb
        have nta : tv ≠ la := ne_of htv ha (by intro z; cases z)
        refine ⟨_, rfl, .inl ⟨rfl, _, SqL.of hb4⟩, _, rfl, _, rfl, _, rfl, lb, _, _, _, rfl, rfl, SqL.of hb4, atI_last _ _, d, _, rfl, (by rw [← vv]; exact DGet.k (k := Sum.inr v) (by rw [upd_ne (ne_of hd3 ha (by intro z; cases z))]; exact hd3)), tv, _, _, optV (some pw), rfl, rfl, SqT.of (by rw [upd_ne nta]; exact htv), atI_nat (j := 1) rfl,
          lb, _, _, rfl, rfl, hb4, small1000 (by rw [List.length_append, List.length_singleton]; omega), ?_⟩
        refine ⟨A ++ [.str u], B' ++ [.str v], pu, pw, rfl, (s4.to_own h0a).to_own h0b, (s24.to_own hla).to_own hlb2, by rw [upd_ne nab, upd_same]; rfl, upd_same, k1, k2, by omega, ?_, ?_, by omega⟩
        · rw [List.length_append, List.length_singleton]
          omega
        · rw [List.length_append, List.length_singleton]
          omega
end
end Yf
set_option Elab.async false
set_option linter.all false
set_option maxRecDepth 100000
set_option maxHeartbeats 4000000
/-! D1: names; texts and pairs of texts as data. -/
namespace Yf
open PySem PySem.Spec PyProof.Rows L2
/-- one to eight small letters -/
structure NameOk (x : Str) : Prop where
  pos : 1 ≤ x.cps.toList.length
  len : x.cps.toList.length ≤ 8
  low : ∀ c, c ∈ x.cps.toList → 97 ≤ c ∧ c ≤ 122
theorem NameOk.strOk {x : Str} (h : NameOk x) : PyData.strOk x = true := by
  unfold PyData.strOk
  rw [← Array.all_toList, List.all_eq_true]
  intro c hc
  exact decide_eq_true (Nat.lt_of_le_of_lt (h.low c hc).2 (by decide))
def sD (x : Str) : PyData := .str x
def pD (e : Str × Str) : PyData := .tuple [.str e.1, .str e.2]
theorem sDs_lay : ∀ {xs : List Str}, (∀ x, x ∈ xs → NameOk x) → PyData.canLayAll0 (xs.map sD) = true
  | [], _ => by simp [PyData.canLayAll0]
  | x :: xs, h => by
    have h1 := (h x (List.mem_cons_self ..)).strOk
    have h2 := sDs_lay fun y hy => h y (List.mem_cons_of_mem _ hy)
    show PyData.canLayAll0 (sD x :: xs.map sD) = true
    simp only [PyData.canLayAll0, sD, PyData.canLay0, h1, h2, Bool.and_true]
theorem sDs_depth : ∀ (xs : List Str), PyData.depthAll (xs.map sD) ≤ 1
  | [] => by simp [PyData.depthAll]
  | x :: xs => by
    have := sDs_depth xs
    show PyData.depthAll (sD x :: xs.map sD) ≤ 1
    simp only [PyData.depthAll, sD, PyData.depth]
    omega
theorem shaped_str {x : Str} (h : NameOk x) : SeqAt.shaped (.str x) = true := by
  show (PyData.canLay0 (.str x) && decide (PyData.depth (.str x) ≤ 64)) = true
  rw [Bool.and_eq_true]
  exact ⟨by simp only [PyData.canLay0]; exact h.strOk, decide_eq_true (by simp [PyData.depth])⟩
theorem shaped_tup {xs : List Str} (h : ∀ x, x ∈ xs → NameOk x) : SeqAt.shaped (.tuple (xs.map sD)) = true := by
  have h1 := sDs_depth xs
  show (PyData.canLay0 (.tuple (xs.map sD)) && decide (PyData.depth (.tuple (xs.map sD)) ≤ 64)) = true
  rw [Bool.and_eq_true]
  exact ⟨by simp only [PyData.canLay0]; exact sDs_lay h, decide_eq_true (by simp only [PyData.depth]; omega)⟩
theorem shaped_lst {xs : List Str} (h : ∀ x, x ∈ xs → NameOk x) : SeqAt.shaped (.list (xs.map sD)) = true := by
  have h1 := sDs_depth xs
  show (PyData.canLay0 (.list (xs.map sD)) && decide (PyData.depth (.list (xs.map sD)) ≤ 64)) = true
  rw [Bool.and_eq_true]
  exact ⟨by simp only [PyData.canLay0]; exact sDs_lay h, decide_eq_true (by simp only [PyData.depth]; omega)⟩
theorem pD_lay {e : Str × Str} (h1 : NameOk e.1) (h2 : NameOk e.2) : (pD e).canLay0 = true := by
  simp only [pD, PyData.canLay0, PyData.canLayAll0, h1.strOk, h2.strOk, Bool.and_true]
theorem pD_depth (e : Str × Str) : (pD e).depth ≤ 2 := by
  simp only [pD, PyData.depth, PyData.depthAll]
  omega
theorem pDs_lay : ∀ {es : List (Str × Str)}, (∀ e, e ∈ es → NameOk e.1 ∧ NameOk e.2) → PyData.canLayAll0 (es.map pD) = true
  | [], _ => by simp [PyData.canLayAll0]
  | e :: es, h => by
    have h1 := h e (List.mem_cons_self ..)
    have h2 := pDs_lay fun y hy => h y (List.mem_cons_of_mem _ hy)
    show PyData.canLayAll0 (pD e :: es.map pD) = true
    simp only [PyData.canLayAll0, pD_lay h1.1 h1.2, h2, Bool.and_true]
theorem pDs_depth : ∀ (es : List (Str × Str)), PyData.depthAll (es.map pD) ≤ 2
  | [] => by simp [PyData.depthAll]
  | e :: es => by
    have h1 := pDs_depth es
    have h2 := pD_depth e
    show PyData.depthAll (pD e :: es.map pD) ≤ 2
    simp only [PyData.depthAll]
    omega
theorem shaped_pair {e : Str × Str} (h1 : NameOk e.1) (h2 : NameOk e.2) : SeqAt.shaped (pD e) = true := by
  have := pD_depth e
  show ((pD e).canLay0 && decide ((pD e).depth ≤ 64)) = true
  rw [Bool.and_eq_true]
  exact ⟨pD_lay h1 h2, decide_eq_true (by omega)⟩
theorem shaped_pairs {es : List (Str × Str)} (h : ∀ e, e ∈ es → NameOk e.1 ∧ NameOk e.2) : SeqAt.shaped (.list (es.map pD)) = true := by
  have h1 := pDs_depth es
  show (PyData.canLay0 (.list (es.map pD)) && decide (PyData.depth (.list (es.map pD)) ≤ 64)) = true
  rw [Bool.and_eq_true]
  exact ⟨by simp only [PyData.canLay0]; exact pDs_lay h, decide_eq_true (by simp only [PyData.depth]; omega)⟩
theorem shaped_pairsT {es : List (Str × Str)} (h : ∀ e, e ∈ es → NameOk e.1 ∧ NameOk e.2) : SeqAt.shaped (.tuple (es.map pD)) = true := by
  have h1 := pDs_depth es
  show (PyData.canLay0 (.tuple (es.map pD)) && decide (PyData.depth (.tuple (es.map pD)) ≤ 64)) = true
  rw [Bool.and_eq_true]
  exact ⟨by simp only [PyData.canLay0]; exact pDs_lay h, decide_eq_true (by simp only [PyData.depth]; omega)⟩
theorem sD_eqv (x y : Str) : PyData.eqv (sD x) (sD y) = decide (x = y) := by
  show PyData.eqv (.str x) (.str y) = _
  simp only [PyData.eqv]
  by_cases h : x = y
  · subst h
    rw [beq_self_eq_true, decide_eq_true rfl]
  · rw [beq_eq_false_iff_ne.mpr h, decide_eq_false h]
theorem pD_eqv (x y : Str × Str) : PyData.eqv (pD x) (pD y) = decide (x = y) := by
  have h1 := sD_eqv x.1 y.1
  have h2 := sD_eqv x.2 y.2
  simp only [sD] at h1 h2
  simp only [pD, PyData.eqv, PyData.eqvAll] at h1 h2 ⊢
  rw [h1, h2, Bool.and_true]
  obtain ⟨a, b⟩ := x
  obtain ⟨c, d⟩ := y
  by_cases e1 : a = c
  · by_cases e2 : b = d
    · subst e1
      subst e2
      simp
    · rw [decide_eq_false e2, Bool.and_false, decide_eq_false (fun h => e2 (Prod.mk.inj h).2)]
  · rw [decide_eq_false e1, Bool.false_and, decide_eq_false (fun h => e1 (Prod.mk.inj h).1)]
theorem sDs_eqv : ∀ (xs ys : List Str), PyData.eqvAll (xs.map sD) (ys.map sD) = decide (xs = ys)
  | [], [] => by simp [PyData.eqvAll]
  | [], y :: ys => by simp [PyData.eqvAll]
  | x :: xs, [] => by simp [PyData.eqvAll]
  | x :: xs, y :: ys => by
    show PyData.eqvAll (sD x :: xs.map sD) (sD y :: ys.map sD) = _
    simp only [PyData.eqvAll]
    rw [sD_eqv, sDs_eqv xs ys]
    by_cases e1 : x = y
    · by_cases e2 : xs = ys
      · subst e1
        subst e2
        simp
      · rw [decide_eq_false e2, Bool.and_false, decide_eq_false (fun h => e2 (List.cons.inj h).2)]
    · rw [decide_eq_false e1, Bool.false_and, decide_eq_false (fun h => e1 (List.cons.inj h).1)]
theorem any_sD (xs : List Str) (x : Str) : ((xs.map sD).any fun z => PyData.eqv z (sD x)) = decide (x ∈ xs) := by
  induction xs with
  | nil => simp
  | cons y xs ih =>
    rw [List.map_cons, List.any_cons, ih, sD_eqv]
    by_cases e : y = x
    · subst e
      simp
    · rw [decide_eq_false e, Bool.false_or]
      simp [List.mem_cons, Ne.symm e]
theorem any_pD (xs : List (Str × Str)) (x : Str × Str) : ((xs.map pD).any fun z => PyData.eqv z (pD x)) = decide (x ∈ xs) := by
  induction xs with
  | nil => simp
  | cons y xs ih =>
    rw [List.map_cons, List.any_cons, ih, pD_eqv]
    by_cases e : y = x
    · subst e
      simp
    · rw [decide_eq_false e, Bool.false_or]
      simp [List.mem_cons, Ne.symm e]
theorem dp_strs {K : PySem.W.Frag} {H : Hp} : ∀ (xs : List Str), DpAll K H (xs.map V.str) (xs.map sD)
  | [] => .nil
  | x :: xs => .cons (.str x) (dp_strs xs)
theorem dp_pair {K : PySem.W.Frag} {H : Hp} {t : Addr} {p q : Str} (h : H t = some (.tup [.str p, .str q])) : Dp K H (.ref t) (pD (p, q)) := .tup (SqT.of h) (.cons (.str p) (.cons (.str q) .nil))
theorem dp_pairs {K : PySem.W.Frag} {H : Hp} : ∀ {xs : List V} {es : List (Str × Str)}, Pz H xs es → DpAll K H xs (es.map pD)
  | _, _, .nil => .nil
  | _, _, .cons (b := e) r l => by
    obtain ⟨t, rfl, h⟩ := r
    exact .cons (dp_pair h) (dp_pairs l)
end Yf
set_option Elab.async false
set_option linter.all false
set_option maxRecDepth 100000
set_option maxHeartbeats 4000000
/-! W6: is_name, is_integer, is_between, wrong_place, pair_of. -/
namespace Yf
open PySem PySem.Spec PyProof.Rows L2
/-- the module's constants -/
structure Gv (mg : Str → Option Value) : Prop where
  letters : ∃ u, mg "LETTERS" = some u ∧ RelV (.str abc) u
  longest : ∃ u, mg "LONGEST_NAME" = some u ∧ RelV (.int 8) u
  most : ∃ u, mg "MOST" = some u ∧ RelV (.int 10001) u
  msize : ∃ u, mg "MOST_SIZE_buildings" = some u ∧ RelV (.int 1000000000) u
theorem abc_mem {c : Nat} (h : 97 ≤ c ∧ c ≤ 122) : c ∈ abc.cps.toList := by
  have e : abc.cps.toList = (List.range 26).map (· + 97) := by decide +kernel
  rw [e, List.mem_map]
  exact ⟨c - 97, List.mem_range.mpr (by omega), by omega⟩
theorem bl_true {p : Prop} [Decidable p] (h : p) : V.bl (decide p) = V.bl true := by rw [decide_eq_true h]
theorem walk_enumT {K : PySem.W.Frag} {a : Addr} {xs : List V} : Walk (IteT K a) xs.length (fun H => SqT K H a xs) (YPair (fun i => some (.int (i : Nat))) (fun i => xs[i]?)) := by
  refine ⟨fun i _ hi q => ⟨xs, xs[i], q, by simp [hi]⟩, fun _ q => ⟨xs, q, rfl⟩, fun i H v H' _ q y => ?_⟩
  obtain ⟨T, x, h1, h2, h3, h4⟩ := y
  exact ⟨T, .int (i : Nat), x, h1, h2, h3, rfl, h4 xs q⟩
def spName : Sp := fun vs H Q _ => ∃ x, vs = [.str x] ∧ NameOk x ∧ ∀ H', Same H H' → Q (.bl true) H'
def spInt : Sp := fun vs H Q _ => ∃ i, vs = [.int i] ∧ ∀ H', Same H H' → Q (.bl true) H'
def spBetween : Sp := fun vs H Q _ => ∃ i l h, vs = [.int i, .int l, .int h] ∧ l ≤ i ∧ i ≤ h ∧ ∀ H', Same H H' → Q (.bl true) H'
def spWrong (K : PySem.W.Frag) : Sp := fun vs H Q _ => ∃ (a : Addr) (ks : List Str), vs = [.ref a] ∧ SqT K H a (ks.map V.str) ∧ (∀ x, x ∈ ks → NameOk x) ∧ ks.Nodup ∧ ks.length ≤ 60 ∧ ∀ H', Same H H' → Q .non H'
/-- a pair in order -/
def nrm (x y : Str) : Str × Str := if slt x y = true then (x, y) else (y, x)
def spPair : Sp := fun vs H Q _ => ∃ x y, vs = [.str x, .str y] ∧ ∀ H' t, Same H H' → H t = none → H' t = some (.tup [.str (nrm x y).1, .str (nrm x y).2]) → Q (.ref t) H'
theorem scName : FnScope ["thing", "letter"] ["thing"] (C8.fnScope sIsName) := ⟨rfl, rfl, rfl, by decide +kernel, rfl, by decide +kernel, by decide +kernel⟩
theorem scInt : FnScope ["thing"] ["thing"] (C8.fnScope sIsInt) := ⟨rfl, rfl, rfl, by decide +kernel, rfl, by decide +kernel, by decide +kernel⟩
theorem scBetween : FnScope ["thing", "low", "high"] ["thing", "low", "high"] (C8.fnScope sBetween) := ⟨rfl, rfl, rfl, by decide +kernel, rfl, by decide +kernel, by decide +kernel⟩
theorem scWrong : FnScope ["things", "index", "thing"] ["things"] (C8.fnScope sWrong) := ⟨rfl, rfl, rfl, by decide +kernel, rfl, by decide +kernel, by decide +kernel⟩
theorem scPair : FnScope ["one", "other"] ["one", "other"] (C8.fnScope sPairOf) := ⟨rfl, rfl, rfl, by decide +kernel, rfl, by decide +kernel, by decide +kernel⟩
section
variable {P : Program} {w : World} {K : PySem.W.Frag} {mg : Str → Option Value} {base : Heap}
theorem cal_name {f : Addr} {fd : FuncData} (F : C8.Def K mg "is_name" sIsName f fd) (b : Binds K fd ["thing"] []) (z : Bi mg) (v : Gv mg) : C8.Cal P w K mg base 1 "is_name" spName [] := by
  refine C8.cal0 F b .nil scName (fun vs H Q E h => ?_) (fun cdv A outer s H vs Q E hr h => ?_)
  · obtain ⟨x, rfl, _⟩ := h
    rfl
  · obtain ⟨x, rfl, hx, k⟩ := h
    refine ⟨_, pss_one (ps_ret (pe_and (pe_callB call_isi (by rfl) z.isinst (by decide +kernel) (pa_cons (pv 0) (pa_cons (pe_bltn (v := .ty "str") (u := .type "str") (by rfl) z.str (by decide +kernel) rfl) pa_nil)))
      (pe_and (pe_chain op_le op_le pe_int (pe_callB call_len_str (by rfl) z.len (by decide +kernel) (pa_cons (pv 0) pa_nil)) (C8.pe_gc (by rfl) v.longest))
      (pe_one (pe_callB (cr_all rfl) (by rfl) z.all (by decide +kernel) (pa_cons (pe_lc (own := [("letter", 1)]) (g := gName 1) (tt := tYes) (te := tOp (fun x y H Q => ∃ (c : Nat) (z : Str), x = .str ⟨#[c]⟩ ∧ y = .str z ∧ Q (.bl (decide (c ∈ z.cps.toList))) H) (tVar 1) (tC (.str abc))) rfl scName.nd (pi_str (pv 0))
        (blkOk_by (N := ["thing", "letter"]) (sc := C8.fnScope sIsName) (own := [("letter", 1)]) (by decide +kernel)) (fun _ _ _ _ _ => pg_name (i := 1) scName.nd rfl (Or.inl rfl)) (fun _ _ _ _ _ => pts_nil)
        (fun _ _ _ _ _ => pe_cmpR op_in_sign (pv 1) (C8.pe_gc (by rfl) v.letters) (by rfl))) pa_nil)))))), ?_⟩
    have hl : x.length = x.cps.toList.length := by simp [Str.length]
    have h1 := hx.pos
    have h2 := hx.len
    refine ⟨_, rfl, .str x, .ty "str", .type "str", .type "str", true, rfl, .ty _, .base (.str x), kit_ty (by decide +kernel), true, rfl, iteT ?_⟩
    refine ⟨_, rfl, _, rfl, Nat.le_of_lt (small1000 (by rw [hl]; omega)), _, _, rfl, rfl, true, ?_, iteT ⟨_, _, rfl, rfl, true, ?_, iteT ?_⟩⟩
    · exact bl_true (by rw [hl]; omega)
    · exact bl_true (by rw [hl]; omega)
    · refine ⟨_, rfl, x, rfl, fun D hD => lc_it walk_str (fun i H2 => Same H H2 ∧ H2 D = some (.lst ((List.replicate i true).map V.bl)) ∧ i ≤ 8) ⟨Same.upd_new hD, upd_same, Nat.zero_le _⟩ (fun i H2 _ _ => trivial) ?_ ?_⟩
      · rintro i y _ H2 hi ⟨s2, hD2, hi8⟩ ⟨rfl, c, hc, rfl⟩
        have hc' : c ∈ x.cps.toList := by
          have := Array.getElem?_toList (xs := x.cps) (i := i)
          exact List.mem_of_getElem? (this.trans hc)
        have hz : x.cps.size = x.cps.toList.length := by simp
        refine ⟨rfl, _, rfl, c, abc, rfl, rfl, _, hD2, (by rw [List.length_map, List.length_replicate]; exact small1000 (by omega)), s2.to_own hD, ?_, by omega⟩
        rw [decide_eq_true (abc_mem (hx.low c hc')), upd_same, List.replicate_succ', List.map_append]
        rfl
      · rintro H2 ⟨s2, hD2, _⟩
        refine ⟨D, _, rfl, SqL.of hD2, ?_⟩
        have e : (List.replicate x.cps.size true).all id = true := by simp
        rw [e]
        exact k H2 s2
theorem cal_int {f : Addr} {fd : FuncData} (F : C8.Def K mg "is_integer" sIsInt f fd) (b : Binds K fd ["thing"] []) (z : Bi mg) : C8.Cal P w K mg base 1 "is_integer" spInt [] := by
  refine C8.cal0 F b .nil scInt (fun vs H Q E h => ?_) (fun cdv A outer s H vs Q E hr h => ?_)
  · obtain ⟨x, rfl, _⟩ := h
    rfl
  · obtain ⟨x, rfl, k⟩ := h
    refine ⟨_, pss_one (ps_ret (pe_and (pe_callB call_isi (by rfl) z.isinst (by decide +kernel) (pa_cons (pv 0) (pa_cons (pe_bltn (v := .ty "int") (u := .type "int") (by rfl) z.int (by decide +kernel) rfl) pa_nil)))
      (pe_one (pe_not (pe_callB call_isi (by rfl) z.isinst (by decide +kernel) (pa_cons (pv 0) (pa_cons (pe_bltn (v := .ty "bool") (u := .type "bool") (by rfl) z.bool (by decide +kernel) rfl) pa_nil))))))), ?_⟩
    refine ⟨_, rfl, .int x, .ty "int", .type "int", .type "int", true, rfl, .ty _, .base (.int x), kit_ty (by decide +kernel), true, rfl, iteT ?_⟩
    exact ⟨_, rfl, .int x, .ty "bool", .type "int", .type "bool", false, rfl, .ty _, .base (.int x), kit_ty (by decide +kernel), false, rfl, k H (Same.refl H)⟩
theorem cal_between {f : Addr} {fd : FuncData} (F : C8.Def K mg "is_between" sBetween f fd) (b : Binds K fd ["thing", "low", "high"] []) (cI : C8.Cal P w K mg base 1 "is_integer" spInt []) : C8.Cal P w K mg base 2 "is_between" spBetween [] := by
  refine C8.cal0 F b .nil scBetween (fun vs H Q E h => ?_) (fun cdv A outer s H vs Q E hr h => ?_)
  · obtain ⟨i, l, h, rfl, _⟩ := h
    rfl
  · obtain ⟨i, l, h, rfl, h1, h2, k⟩ := h
    refine ⟨_, pss_one (ps_ret (pe_and (C8.pe_c cI hr (by decide) (by rfl) (pa_cons (pv 0) pa_nil)) (pe_one (pe_chain op_le op_le (pv 1) (pv 0) (pv 2))))), ?_⟩
    refine ⟨_, rfl, i, rfl, fun H1 s1 => ⟨true, rfl, iteT ?_⟩⟩
    refine ⟨_, rfl, _, rfl, _, _, rfl, rfl, true, bl_true h1, iteT ⟨_, rfl, _, _, rfl, rfl, ?_⟩⟩
    show Q (.bl (decide (i ≤ h))) H1
    rw [decide_eq_true h2]
    exact k H1 s1
theorem cal_wrong {f : Addr} {fd : FuncData} (F : C8.Def K mg "wrong_place" sWrong f fd) (b : Binds K fd ["things"] []) (z : Bi mg) (cN : C8.Cal P w K mg base 1 "is_name" spName []) : C8.Cal P w K mg base 2 "wrong_place" (spWrong K) [] := by
  refine C8.cal0 F b .nil scWrong (fun vs H Q E h => ?_) (fun cdv A outer s H vs Q E hr h => ?_)
  · obtain ⟨a, ks, rfl, _⟩ := h
    rfl
  · obtain ⟨a, ks, rfl, hT, hN, hnd, hlen, k⟩ := h
    refine ⟨_, pss_cons (ps_for PassesOwn.never rfl (pi_enumT (by rfl) z.enum (pa_cons (pv 0) pa_nil)) (pg_tup (by rfl) (pgs_cons (pg_name (i := 1) scWrong.nd rfl (Or.inl rfl)) (pgs_cons (pg_name (i := 2) scWrong.nd rfl (Or.inl rfl)) pgs_nil)))
        (pss_one (ps_if (PW.pt (pw_or (pt_not (pt_val (C8.pe_c cN hr (by decide) (by rfl) (pa_cons (pv 2) pa_nil)))) (pw_or1 (PW.pt (pw_and (pt_cmpR op_gt (pv 1) pe_int (nomark _)) (pw_and1 (pt_cmpR op_eq (pe_ix ix_tup (pv 0) (pe_op op_sub (pv 1) pe_int) (fun _ _ => rfl)) (pv 2) (nomark _))))))))
          (pss_one (ps_ret (pv 1))) pss_nil)))
      (pss_one (ps_ret pe_non)), ?_⟩
    refine ⟨_, rfl, a, _, rfl, hT, for_it walk_enumT
      (fun i σ H2 => ∃ (u v : Option V), σ = [some (.ref a), u, v] ∧ Same H H2) ⟨none, none, rfl, Same.refl H⟩ (fun i σ H2 _ ⟨_, _, _, s2⟩ => s2.tup hT) ?_ ?_⟩
    · rintro i x σ H2 _ hi ⟨u, v, rfl, s2⟩ ⟨T, x, y, rfl, hT2, rfl, e1, e2⟩
      have e1 := Option.some.inj e1
      subst e1
      obtain ⟨nm, hnm, rfl⟩ := map_get e2
      have s3 := s2.to_new (o := .tup [.int (i : Nat), .str nm]) hT2
      refine ⟨T, _, rfl, SqT.of upd_same, rfl, _, _, rfl, _, _, rfl, rfl, ?_⟩
      refine ⟨_, rfl, nm, rfl, hN nm (List.mem_of_getElem? hnm), fun H4 s4 => ⟨true, rfl, ?_⟩⟩
      show if (!true) = true then _ else _
      refine iteF ?_
      have s14 := s3.trans s4
      refine ⟨_, rfl, _, _, rfl, rfl, _, rfl, ?_⟩
      refine ite2 (fun h0 => ?_) (fun _ => iteF ⟨_, _, rfl, s14⟩)
      have h0 := of_decide_eq_true h0
      have h0' : 0 < i := by omega
      rw [List.length_map] at hi
      have hlt : i - 1 < ks.length := by omega
      have hprev : (ks.map V.str)[i - 1]? = some (.str (ks[i - 1]'hlt)) := by simp [hlt]
      refine ⟨_, rfl, _, rfl, _, _, rfl, rfl, a, _, _, _, rfl, rfl, s14.tup hT, at_of (j := i - 1) (by omega) hprev, _, rfl, rfl, _, rfl, ?_⟩
      have ne : ¬ (V.str (ks[i - 1]'hlt) = V.str nm) := fun e => by
        have e := V.str.inj e
        have := nd_ix hnd (i := i - 1) (j := i) (x := nm) (by rw [List.getElem?_eq_getElem hlt, e]) hnm
        omega
      rw [decide_eq_false ne]
      exact iteF ⟨_, _, rfl, s14⟩
    · rintro σ H2 ⟨u, v, rfl, s2⟩
      exact k H2 s2
theorem cal_pair {f : Addr} {fd : FuncData} (F : C8.Def K mg "pair_of" sPairOf f fd) (b : Binds K fd ["one", "other"] []) : C8.Cal P w K mg base 1 "pair_of" spPair [] := by
  refine C8.cal0 F b .nil scPair (fun vs H Q E h => ?_) (fun cdv A outer s H vs Q E hr h => ?_)
  · obtain ⟨x, y, rfl, _⟩ := h
    rfl
  · obtain ⟨x, y, rfl, k⟩ := h
    refine ⟨_, pss_one (ps_ret (pe_ifExp (pt_cmpR op_lt_str (pv 0) (pv 1) (nomark _)) (pe_tup (pa_cons (pv 0) (pa_cons (pv 1) pa_nil))) (pe_tup (pa_cons (pv 1) (pa_cons (pv 0) pa_nil))))), ?_⟩
    refine ⟨_, rfl, _, rfl, _, _, rfl, rfl, _, rfl, ?_⟩
    rw [slt_dec]
    refine ite2 (fun h => ?_) (fun h => ?_)
    · refine ⟨_, rfl, _, rfl, (by show 2 ≤ sizeLine; decide), fun t ht => k _ t (Same.upd_new ht) ht ?_⟩
      unfold nrm
      rw [if_pos h, upd_same]
    · refine ⟨_, rfl, _, rfl, (by show 2 ≤ sizeLine; decide), fun t ht => k _ t (Same.upd_new ht) ht ?_⟩
      unfold nrm
      rw [if_neg h, upd_same]
end
end Yf
set_option Elab.async false
set_option linter.all false
set_option maxRecDepth 100000
set_option maxHeartbeats 4000000
/-! W7: Walk.__init__. -/
namespace Yf
open PySem PySem.Spec PyProof.Rows L2
/-- the class Walk behind the top -/
structure WTxt (K : PySem.W.Frag) (C : Addr) : Prop where
  cl : Cls K C
  nO : NoAttr K C "own_rooms"
  nE : NoAttr K C "entered"
  nK : NoAttr K C "key"
/-- a walk over the rooms ks stands at z -/
def WalkAt (C : Addr) (H : Hp) (z : Addr) (ks : List Str) : Prop := ∃ dx fs e ys, H z = some (.ins C dx fs) ∧ fs.lookup ("entered" : Str) = some (.ref e) ∧ H e = some (.tup ys) ∧ ys.length + 1 = ks.length
/-- the body of __init__ -/
def spWB (K : PySem.W.Frag) (C : Addr) : Sp := fun vs H Q _ => ∃ (z a dx : Addr) (ks : List Str), vs = [.ref z, .ref a] ∧ H z = some (.ins C dx []) ∧ SqT K H a (ks.map V.str) ∧ (∀ x, x ∈ ks → NameOk x) ∧ ks.Nodup ∧ ks ≠ [] ∧ ks.length ≤ 60 ∧
  ∀ H', (∀ b o, H b = some o → b ≠ z → H' b = some o) → WalkAt C H' z ks → Q .non H'
def spW (K : PySem.W.Frag) (C : Addr) : Sp := fun vs H Q E => ∃ ws rest, vs = ws ++ rest ∧ ws.length = ["self"].length ∧ rest.length ≤ sizeLine ∧ ∀ p, H p = Option.none → spWB K C (ws ++ [V.ref p]) (upd H p (.tup rest)) Q E
theorem scWI : FnScope ["self", "rooms", "index"] ["self", "rooms"] (C8.fnScope sWInit) := ⟨rfl, rfl, rfl, by decide +kernel, rfl, by decide +kernel, by decide +kernel⟩
theorem cxup0 : StX.CXUp C8.CX0 := fun _ _ _ _ _ _ _ _ _ _ _ z => z
section
variable {P : Program} {w : World} {K : PySem.W.Frag} {mg : Str → Option Value} {base : Heap}
theorem winit_ok {C f : Addr} {fd : FuncData} (F : C8.Fun K "__init__" "Walk.__init__" sWInit f fd) (df : fd.defaults = .none) (z : Bi mg) (v : Gv mg) (T : WTxt K C) (cW : C8.Cal P w K mg base 2 "wrong_place" (spWrong K) []) : FnR P w K mg base C8.CX0 3 f (spW K C) := by
  obtain ⟨oc, od, dV, kV, doc, pm, an, cdv, ct, osl, rfl, lk, hcd⟩ := F.ex
  have e : dV = .none := df
  subst e
  refine StX.fn_star (ps := ["self"]) (pv := "rooms") lk hcd scWI cxup0 (fun us rest hl => match us, hl, rest with | [_], _, [] => rfl | [_], _, _ :: _ => rfl) (fun A outer s H vs Q E hr h => ?_)
  obtain ⟨zz, a, dx, ks, rfl, hz, hT, hN, hnd, hne, hlen, k⟩ := h
  have hu := hu_of hr
  suffices hb : ∃ t, PSs (cxOf C8.CX0 P w K mg base ["self", "rooms", "index"] "Walk.__init__" (C8.fnScope sWInit) f cdv A outer s H E).nox (C8.fnBody sWInit) t ∧ t { nx := fun _ H' => Q .non H', rt := Q } (L2.start ["self", "rooms", "index"] [.ref zz, .ref a]) H by
    obtain ⟨t, h, q⟩ := hb
    exact ⟨t, h.nox, q⟩
  refine ⟨_, pss_cons (ps_set (i := 2) scWI.nd rfl (Or.inl rfl) (pe_ifExp (pt_cmpR (op_neD hr.units) (pv 1) (pe_tup pa_nil) (nomark _)) (C8.pe_c cW hr (by decide) (by rfl) (pa_cons (pv 1) pa_nil)) pe_int))
    (pss_cons (ps_if (pt_cmp (pc_notN (pv 2))) (pss_one ps_never) pss_nil)
    (pss_cons (ps_if (pt_cmpR op_gt (pe_callB call_len_seq (by rfl) z.len (by decide +kernel) (pa_cons (pv 1) pa_nil)) (C8.pe_gc (by rfl) v.most) (nomark _)) (pss_one ps_never) pss_nil)
    (pss_cons (ps_fld (pv 0) (pv 1) rfl)
    (pss_cons (ps_fld (pv 0) (pe_slice sl_tup (pv 1) (po_some pe_int) po_none) rfl)
    (pss_one (ps_fld (pv 0) (pe_tup (pa_cons (pe_callB call_len_seq (by rfl) z.len (by decide +kernel) (pa_cons (pv 1) pa_nil)) (pa_cons (pv 1) pa_nil))) rfl)))))), ?_⟩
  -- index
  refine ⟨_, rfl, (by show 0 ≤ sizeLine; exact Nat.zero_le _), fun t0 ht0 => ?_⟩
  have s1 : Same H (upd H t0 (.tup [])) := Same.upd_new ht0
  refine ⟨.tuple (ks.map sD), .tuple [], .tup (s1.tup hT) (dp_strs ks), .tup (SqT.of upd_same) .nil, shaped_tup hN, by decide +kernel, _, rfl, ?_⟩
  have e0 : PyData.eqv (.tuple (ks.map sD)) (.tuple []) = false := by
    have := sDs_eqv ks []
    rw [decide_eq_false hne] at this
    simp only [PyData.eqv]
    exact this
  rw [e0]
  refine iteT ⟨_, rfl, a, ks, rfl, s1.tup hT, hN, hnd, hlen, fun H2 s2 => ?_⟩
  refine ⟨_, rfl, _, rfl, iteF ?_⟩
  have s12 := s1.trans s2
  refine ⟨_, rfl, a, _, rfl, .inr (s12.tup hT), _, _, rfl, rfl, _, rfl, ?_⟩
  rw [List.length_map, decide_eq_false (by omega)]
  refine iteF ?_
  have nzt : ∀ {H : Hp} {b : Addr} {o : HO}, H b = some o → ∀ {q : Addr}, H q = none → b ≠ q := fun h _ h' => ne_of_none h h'
  -- self.own_rooms
  refine ⟨_, rfl, _, rfl, zz, C, dx, [], rfl, s12 _ _ hz, T.cl, T.nO, (by show 0 < 1000; decide), ?_⟩
  have kp3 : ∀ b o, H b = some o → b ≠ zz → ∀ fs, (upd H2 zz (.ins C dx fs)) b = some o := fun b o e nb fs => by
    rw [upd_ne nb]
    exact s12 b o e
  have hT3 : ∀ fs, SqT K (upd H2 zz (.ins C dx fs)) a (ks.map V.str) := fun fs => by
    rcases hT with (h | ⟨o, h⟩) | h
    · exact .inl (.inl (kp3 _ _ h (ne_of h hz (by intro z; cases z)) fs))
    · exact .inl (.inr ⟨o, kp3 _ _ h (ne_of h hz (by intro z; cases z)) fs⟩)
    · exact .inr h
  have hkl : 0 < ks.length := List.length_pos_iff.mpr hne
  -- self.entered
  refine ⟨_, rfl, _, rfl, a, _, rfl, hT3 _, ?_, fun e he => ?_⟩
  · rintro ⟨h1, _⟩
    have : HT.sIx (ks.map V.str).length 0 (some 1) = min 1 (ks.map V.str).length := HT.sIx_nat _ _ 1
    rw [this, List.length_map] at h1
    omega
  have nze : zz ≠ e := ne_of_none upd_same he
  refine ⟨_, rfl, zz, C, dx, _, rfl, (by rw [upd_ne nze, upd_same]), T.cl, T.nE, (by show 1 < 1000; decide), ?_⟩
  -- self.key
  have he2 : ∀ fs, (upd (upd (upd H2 zz (.ins C dx (putF "own_rooms" (.ref a) []))) e (.tup (cutV (ks.map V.str) (some 1) none))) zz (.ins C dx fs)) e = some (.tup (cutV (ks.map V.str) (some 1) none)) := fun fs => by
    rw [upd_ne nze.symm, upd_same]
  have hT4 : ∀ fs, SqT K (upd (upd (upd H2 zz (.ins C dx (putF "own_rooms" (.ref a) []))) e (.tup (cutV (ks.map V.str) (some 1) none))) zz (.ins C dx fs)) a (ks.map V.str) := fun fs => by
    rcases hT with (h | ⟨o, h⟩) | h
    · have nz := ne_of h hz (by intro z; cases z)
      have q := kp3 _ _ h nz (putF "own_rooms" (.ref a) [])
      exact .inl (.inl (by rw [upd_ne nz, upd_ne (ne_of_none q he)]; exact q))
    · have nz := ne_of h hz (by intro z; cases z)
      have q := kp3 _ _ h nz (putF "own_rooms" (.ref a) [])
      exact .inl (.inr ⟨o, by rw [upd_ne nz, upd_ne (ne_of_none q he)]; exact q⟩)
    · exact .inr h
  refine ⟨_, rfl, a, _, rfl, .inr (hT4 _), _, rfl, (by show 2 ≤ sizeLine; decide), fun t5 ht5 => ?_⟩
  have nz5 : zz ≠ t5 := ne_of_none upd_same ht5
  have ne5 : e ≠ t5 := ne_of_none (he2 _) ht5
  refine ⟨_, rfl, zz, C, dx, _, rfl, (by rw [upd_ne nz5, upd_same]), T.cl, T.nK, (by show 2 < 1000; decide), ?_⟩
  refine k _ (fun b o eb nb => ?_) ⟨dx, _, e, _, upd_same, ?_, by rw [upd_ne nze.symm, upd_ne ne5, upd_ne nze.symm, upd_same], ?_⟩
  · have q := kp3 b o eb nb (putF "own_rooms" (.ref a) [])
    have q2 : (upd (upd (upd H2 zz (.ins C dx (putF "own_rooms" (.ref a) []))) e (.tup (cutV (ks.map V.str) (some 1) none))) zz (.ins C dx (putF "entered" (.ref e) (putF "own_rooms" (.ref a) [])))) b = some o := by
      rw [upd_ne nb, upd_ne (ne_of_none q he)]
      exact q
    rw [upd_ne nb, upd_ne (ne_of_none q2 ht5)]
    exact q2
  · rw [lookup_putF, if_neg (by decide +kernel), lookup_putF, if_pos rfl]
  · unfold cutV
    have e1 : HT.sIx (ks.map V.str).length 0 (some 1) = min 1 (ks.map V.str).length := HT.sIx_nat _ _ 1
    rw [e1, HT.sIx_none, List.length_take, List.length_drop, List.length_map]
    omega
end
end Yf
set_option Elab.async false
set_option linter.all false
set_option maxRecDepth 100000
set_option maxHeartbeats 4000000
/-! W8: Building.__contains__, sorted_pairs, check_connected. -/
namespace Yf
open PySem PySem.Spec PyProof.Rows L2
/-- the class Building behind the top -/
structure BTxt (K : PySem.W.Frag) (C : Addr) : Prop where
  cl : Cls K C
  nS : NoAttr K C "sizes"
  nP : NoAttr K C "pairs"
  nN : NoAttr K C "near"
  nA : NoAttr K C "own_sides"
  nR : NoAttr K C "own_ring"
  nB : NoAttr K C "own_bridges"
/-- room in self -/
def spIn (C : Addr) : Sp := fun vs H Q _ => ∃ (h d dx : Addr) (fs : List (Str × V)) (kvs : List (Key × V)) (x : Str), vs = [.ref h, .str x] ∧ H h = some (.ins C dx fs) ∧ fs.lookup ("sizes" : Str) = some (.ref d) ∧ Rd H d (.dK kvs) ∧ NameOk x ∧ (valV kvs (.inr x)).isSome = true ∧
  ∀ H', Same H H' → Q (.bl true) H'
structure CIn (P : Program) (w : World) (K : PySem.W.Frag) (mg : Str → Option Value) (base : Heap) (C : Addr) : Prop where
  ex : ∃ (f : Addr) (fd : FuncData), Spc K C "__contains__" f ∧ FnOk P w K mg base C8.CX0 2 f fd ["self", "thing"] (spIn C) ∧ Binds K fd ["self", "thing"] []
theorem scBIn : FnScope ["self", "thing"] ["self", "thing"] (C8.fnScope sBIn) := ⟨rfl, rfl, rfl, by decide +kernel, rfl, by decide +kernel, by decide +kernel⟩
def spSP (K : PySem.W.Frag) (C : Addr) : Sp := fun vs H Q _ => ∃ (h a d dx : Addr) (fs : List (Str × V)) (kvs : List (Key × V)) (xs : List V) (es : List (Str × Str)), vs = [.ref h, .ref a] ∧ H h = some (.ins C dx fs) ∧ fs.lookup ("sizes" : Str) = some (.ref d) ∧ H d = some (.dK kvs) ∧
  SqL K H a xs ∧ Pz H xs es ∧ es.length ≤ 40 ∧ es.Nodup ∧ (∀ p q, (p, q) ∈ es → slt p q = true ∧ NameOk p ∧ NameOk q ∧ (valV kvs (.inr p)).isSome = true ∧ (valV kvs (.inr q)).isSome = true) ∧
  ∀ H' l ys, Same H H' → H l = none → H' l = some (.lst ys) → Pz H' ys (psort es) → Q (.ref l) H'
theorem scSP : FnScope ["self", "corridors", "found", "corridor", "is_pair", "room"] ["self", "corridors"] (C8.fnScope sSortedPairs) := ⟨rfl, rfl, rfl, by decide +kernel, rfl, by decide +kernel, by decide +kernel⟩
def spCheck (K : PySem.W.Frag) (C : Addr) : Sp := fun vs H Q _ => ∃ (h a d dx : Addr) (fs : List (Str × V)) (kvs : List (Key × V)) (ks : List Str) (xs : List V) (es : List (Str × Str)), vs = [.ref h] ∧ H h = some (.ins C dx fs) ∧ fs.lookup ("sizes" : Str) = some (.ref d) ∧ H d = some (.dK kvs) ∧
  fs.lookup ("pairs" : Str) = some (.ref a) ∧ SqL K H a xs ∧ Pz H xs es ∧ es.length ≤ 40 ∧ (∀ p q, (p, q) ∈ es → p ≠ q) ∧ kvs.map (·.1) = ks.map Sum.inr ∧ ks ≠ [] ∧ (∀ v, v ∈ ks → Conn es (smin ks) v) ∧ ∀ H', Same H H' → Q .non H'
theorem scCheck : FnScope ["self", "reached", "room"] ["self"] (C8.fnScope sCheck) := ⟨rfl, rfl, rfl, by decide +kernel, rfl, by decide +kernel, by decide +kernel⟩
theorem rd_same {H H' : Hp} {d : Addr} {u : HO} (h : Rd H d u) (s : Same H H') : Rd H' d u := h.imp (s _ _) (fun ⟨o, h⟩ => ⟨o, s _ _ h⟩)
theorem hu65 {A : Around} {k : Nat} (hr : Room k A) : A.units + 65 < cLine := by
  have := hr.un
  omega
theorem nrm_lt {x y : Str} (h : slt x y = true) : nrm x y = (x, y) := by
  unfold nrm
  rw [if_pos h]
section
variable {P : Program} {w : World} {K : PySem.W.Frag} {mg : Str → Option Value} {base : Heap}
theorem cin_ok {C f : Addr} {fd : FuncData} (F : C8.Fun K "__contains__" "Building.__contains__" sBIn f fd) (sp : Spc K C "__contains__" f) (b : Binds K fd ["self", "thing"] []) (T : BTxt K C) (cN : C8.Cal P w K mg base 1 "is_name" spName []) : CIn P w K mg base C := by
  refine ⟨f, fd, sp, ?_, b⟩
  refine C8.fn0 F scBIn (fun vs H Q E h => ?_) (fun cdv A outer s H vs Q E hr h => ?_)
  · obtain ⟨h, d, dx, fs, kvs, x, rfl, _⟩ := h
    rfl
  · obtain ⟨h, d, dx, fs, kvs, x, rfl, hh, hs, hd, hx, hv, k⟩ := h
    have hu := hu_of hr
    refine ⟨_, pss_one (ps_ret (pe_and (C8.pe_c cN hr (by decide) (by rfl) (pa_cons (pv 1) pa_nil)) (pe_one (pe_cmp (pc_din hu (pv 1) (pe_fld (pv 0) rfl)) rfl)))), ?_⟩
    refine ⟨_, rfl, x, rfl, hx, fun H1 s1 => ⟨true, rfl, iteT ?_⟩⟩
    refine ⟨_, rfl, _, rfl, h, C, dx, fs, _, rfl, s1 _ _ hh, T.cl, T.nS, hs, d, _, rfl, .inl ⟨kvs, .inr x, rd_same hd s1, rfl, rfl⟩, ?_⟩
    rw [hv]
    exact k H1 s1
theorem met_sp {C f fp : Addr} {fd fdp : FuncData} (F : C8.Fun K "sorted_pairs" "Building.sorted_pairs" sSortedPairs f fd) (b : Binds K fd ["self", "corridors"] []) (me : Meth K C "sorted_pairs" f) (z : Bi mg) (T : BTxt K C) (ci : CIn P w K mg base C)
    (Gp : FnOk P w K mg base C8.CX0 1 fp fdp ["one", "other"] spPair) (bp : Binds K fdp ["one", "other"] []) (kp : PySem.W.keepIn K (.ref fp) = true) (mp : mg "pair_of" = some (.ref fp)) : C8.Met P w K mg base 3 C "sorted_pairs" (spSP K C) [] := by
  obtain ⟨fi, fdi, sI, GI, bI⟩ := ci.ex
  refine C8.met0 T.cl me F b scSP (fun vs H Q E h => ?_) (fun cdv A outer s H vs Q E hr h => ?_)
  · obtain ⟨h, a, d, dx, fs, kvs, xs, es, rfl, _⟩ := h
    rfl
  · obtain ⟨h, a, d, dx, fs, kvs, xs, es, rfl, hh, hs, hd, hS, hP, hlen, hnd, hE, k⟩ := h
    have hu := hu_of hr
    refine ⟨_, pss_cons (ps_set (i := 2) scSP.nd rfl (Or.inl rfl) (pe_lst pa_nil))
      (pss_cons (ps_for PassesOwn.never rfl (pi_list (pv 1)) (pg_name (i := 3) scSP.nd rfl (Or.inl rfl))
        (pss_cons (ps_set (i := 4) scSP.nd rfl (Or.inl rfl) (pe_and (pe_callB call_isi (by rfl) z.isinst (by decide +kernel) (pa_cons (pv 3) (pa_cons (pe_bltn (v := .ty "tuple") (u := .type "tuple") (by rfl) z.tuple (by decide +kernel) rfl) pa_nil)))
          (pe_and (pe_cmpR op_eq (pe_callB call_len_seq (by rfl) z.len (by decide +kernel) (pa_cons (pv 3) pa_nil)) pe_int (nomark _))
          (pe_one (pe_callB (cr_all rfl) (by rfl) z.all (by decide +kernel) (pa_cons (pe_lc (own := [("room", 5)]) (g := gName 5) (tt := tYes) (te := tOp (rInOwn C false (spIn C)) (tVar 5) (tVar 0)) rfl scSP.nd (pi_tup (pv 3))
            (blkOk_by (N := ["self", "corridors", "found", "corridor", "is_pair", "room"]) (sc := C8.fnScope sSortedPairs) (own := [("room", 5)]) (by decide +kernel)) (fun _ _ _ _ _ => pg_name (i := 5) scSP.nd rfl (Or.inl rfl)) (fun _ _ _ _ _ => pts_nil)
            (fun _ _ _ _ _ => pe_cmpR (op_inOwn sI GI hr bI) (pv 5) (pv 0) (by rfl))) pa_nil))))))
        (pss_cons (ps_if (PW.pt (pw_or (pt_not (pt_val (pv 4))) (pw_or (pt_cmpR op_eq (pe_ix ix_tup (pv 3) pe_int (fun _ _ => rfl)) (pe_ix ix_tup (pv 3) pe_int (fun _ _ => rfl)) (nomark _))
            (pw_or1 (pt_cmpR (op_inD (hu65 hr)) (StX.pe_callS1 (E := C8.E0) (Gp.raw bp .nil) (hr.mono (by decide)) kp (by rfl) mp C8.pass0 (pv 3)) (pv 2) (by rfl)))))) (pss_one ps_never) pss_nil)
        (pss_one (ps_expr (pe_bm PySem.F.plainAttrs_list PySem.F.slot_list_append PySem.F.type_list_append mt_append (pv 2) (pa_cons (StX.pe_callS1 (E := C8.E0) (Gp.raw bp .nil) (hr.mono (by decide)) kp (by rfl) mp C8.pass0 (pv 3)) pa_nil)))))))
      (pss_one (ps_ret (pe_callB cr_sortedPS (by rfl) z.sorted (by decide +kernel) (pa_cons (pv 2) pa_nil))))), ?_⟩
    refine ⟨(by show 0 ≤ sizeLine; exact Nat.zero_le _), fun l hl => ?_⟩
    have s0 := Same.upd_new (o := .lst []) hl
    refine ⟨_, rfl, a, rfl, ⟨_, s0.seq hS⟩, for_it walk_list (fun i σ H2 => ∃ (u v r : Option V) (ys : List V), σ = [some (.ref h), some (.ref a), some (.ref l), u, v, r] ∧ Same H H2 ∧ H2 l = some (.lst ys) ∧ Pz H2 ys (es.take i))
      ⟨none, none, none, [], rfl, s0, upd_same, .nil⟩ (fun i σ H2 _ ⟨_, _, _, _, _, s2, _⟩ => s2.seq hS) ?_ ?_⟩
    · rintro i x σ _ H2 hi ⟨u, v, r, ys, rfl, s2, hl2, P2⟩ ⟨rfl, hx⟩
      obtain ⟨t, p, q, rfl, he, ht⟩ := (s2.pz hP).get hx
      obtain ⟨hpq, np, nq, vp, vq⟩ := hE p q (List.mem_of_getElem? he)
      have hi' : i < 40 := Nat.lt_of_lt_of_le (lt_of_get he) hlen
      have hyl : ys.length ≤ i := by
        have := P2.length
        rw [List.length_take] at this
        omega
      -- is_pair
      refine ⟨_, rfl, .ref t, .ty "tuple", .type "tuple", .type "tuple", true, rfl, .ty _, .base (.tup ht), kit_ty (by decide +kernel), true, rfl, iteT ?_⟩
      refine ⟨_, rfl, t, _, rfl, .inr (SqT.of ht), rfl, true, rfl, iteT ?_⟩
      refine ⟨_, rfl, t, rfl, ⟨_, SqT.of ht⟩, fun D hD => lc_it walk_tup (fun j H3 => Same H2 H3 ∧ H3 D = some (.lst ((List.replicate j true).map V.bl)) ∧ j ≤ 2) ⟨Same.upd_new hD, upd_same, Nat.zero_le _⟩ (fun j H3 _ ⟨s3, _⟩ => SqT.of (s3 _ _ ht)) ?_ ?_⟩
      · rintro j y _ H3 hj ⟨s3, hD3, hj2⟩ ⟨rfl, hy⟩
        have hj3 : j < 2 := hj
        have go : ∀ x, y = .str x → NameOk x → (valV kvs (.inr x)).isSome = true → ∃ b, spIn C [.ref h, y] H3 (fun v H' => ∃ b, v = .bl b ∧ ∃ acc, H' D = some (.lst acc) ∧ acc.length < sizeLine ∧ (Same H2 (upd H' D (.lst (acc ++ [.bl b]))) ∧ (upd H' D (.lst (acc ++ [.bl b]))) D = some (.lst ((List.replicate (j + 1) true).map V.bl)) ∧ j + 1 ≤ 2)) C8.E0 ∧ b = true := by
          rintro x rfl nx vx
          refine ⟨true, ⟨h, d, dx, fs, kvs, x, rfl, s3 _ _ (s2 _ _ hh), hs, .inl (s3 _ _ (s2 _ _ hd)), nx, vx, fun H4 s4 => ⟨true, rfl, _, s4 _ _ hD3, (by rw [List.length_map, List.length_replicate]; exact small1000 (by omega)), (s3.trans s4).to_own hD, ?_, by omega⟩⟩, rfl⟩
          rw [upd_same, List.replicate_succ', List.map_append]
          rfl
        have hy' : y = .str p ∨ y = .str q := by
          match j, hj3, hy with
          | 0, _, hy => exact .inl (Option.some.inj hy).symm
          | 1, _, hy => exact .inr (Option.some.inj hy).symm
        obtain ⟨_, hsp, _⟩ : ∃ b, spIn C [.ref h, y] H3 (fun v H' => ∃ b, v = .bl b ∧ ∃ acc, H' D = some (.lst acc) ∧ acc.length < sizeLine ∧ (Same H2 (upd H' D (.lst (acc ++ [.bl b]))) ∧ (upd H' D (.lst (acc ++ [.bl b]))) D = some (.lst ((List.replicate (j + 1) true).map V.bl)) ∧ j + 1 ≤ 2)) C8.E0 ∧ b = true :=
          hy'.elim (fun e => go p e np vp) (fun e => go q e nq vq)
        exact ⟨rfl, _, rfl, _, rfl, h, dx, fs, rfl, s3 _ _ (s2 _ _ hh), hsp⟩
      · rintro H3 ⟨s3, hD3, _⟩
        have e2 : (List.replicate 2 true).all id = true := rfl
        refine ⟨D, _, rfl, SqL.of hD3, ?_⟩
        refine ⟨_, rfl, true, rfl, iteF ?_⟩
        have s23 := s2.trans s3
        have ht3 := s3 _ _ ht
        refine ⟨_, rfl, t, _, _, .str p, rfl, rfl, SqT.of ht3, atI_nat (j := 0) rfl, _, rfl, t, _, _, .str q, rfl, rfl, SqT.of ht3, atI_nat (j := 1) rfl, rfl, _, rfl, ?_⟩
        have npq : p ≠ q := fun e => by
          rw [e, slt_irrefl] at hpq
          cases hpq
        rw [decide_eq_false fun e => npq (V.str.inj e)]
        refine iteF ?_
        refine ⟨_, rfl, t, _, rfl, .inl (SqT.of ht3), p, q, rfl, fun H4 t4 s4 h4n h4 => ?_⟩
        rw [nrm_lt hpq] at h4
        have hl4 := s4 _ _ (s3 _ _ hl2)
        have P4 := (s3.trans s4).pz P2
        have hnm : ∀ e, e ∈ es.take i → NameOk e.1 ∧ NameOk e.2 := fun e he => by
          obtain ⟨_, a1, a2, _⟩ := hE e.1 e.2 (List.mem_of_mem_take he)
          exact ⟨a1, a2⟩
        refine ⟨_, rfl, pD (p, q), (es.take i).map pD, dp_pair h4, .lst (SqL.of hl4) (dp_pairs P4), shaped_pair np nq, shaped_pairs hnm, _, rfl, ?_⟩
        rw [any_pD]
        have hno : ¬ (p, q) ∈ es.take i := fun m => by
          obtain ⟨j, hj⟩ := List.getElem?_of_mem m
          rw [List.getElem?_take] at hj
          split at hj
          · have := nd_ix hnd hj he
            omega
          · cases hj
        rw [decide_eq_false hno]
        refine iteF ?_
        refine ⟨_, rfl, .inl ⟨rfl, _, SqL.of hl4⟩, _, rfl, t, _, rfl, .inl (SqT.of (s4 _ _ ht3)), p, q, rfl, fun H5 t5 s5 h5n h5 => ?_⟩
        rw [nrm_lt hpq] at h5
        have hl5 := s5 _ _ hl4
        refine ⟨l, _, _, rfl, rfl, hl5, small1000 (by omega), ?_⟩
        have s25 := (s23.trans s4).trans s5
        refine ⟨_, _, _, _, rfl, s25.to_own hl, upd_same, ?_⟩
        rw [take_snoc he]
        have P5 : Pz (upd H5 l (.lst (ys ++ [.ref t5]))) ys (es.take i) := ((s3.trans s4).trans s5 |>.pz P2).mono fun x zs e => by
          rw [upd_ne (ne_of e hl5 (by intro z; cases z))]
          exact e
        exact P5.snoc (by rw [upd_ne (ne_of h5 hl5 (by intro z; cases z))]; exact h5)
    · rintro σ H2 ⟨u, v, r, ys, rfl, s2, hl2, P2⟩
      rw [hP.length, List.take_length] at P2
      refine ⟨_, rfl, l, ys, es, rfl, SqL.of hl2, P2, fun zs p pm PZ hp => ?_⟩
      have s3 := s2.to_new (o := .lst zs) hp
      exact k _ p zs s3 (s2.free hp) upd_same ((Same.upd_new hp).pz PZ)
theorem met_check {C f : Addr} {c : Addr} {fd : FuncData} (F : C8.Fun K "check_connected" "Building.check_connected" sCheck f fd) (b : Binds K fd ["self"] []) (me : Meth K C "check_connected" f) (z : Bi mg) (T : BTxt K C) (hc : ∀ H, SqT K H c [])
    (cR : C8.Cal P w K mg base 3 "reached_from" (spReached K) [.ref c]) : C8.Met P w K mg base 4 C "check_connected" (spCheck K C) [] := by
  refine C8.met0 T.cl me F b scCheck (fun vs H Q E h => ?_) (fun cdv A outer s H vs Q E hr h => ?_)
  · obtain ⟨h, a, d, dx, fs, kvs, ks, xs, es, rfl, _⟩ := h
    rfl
  · obtain ⟨h, a, d, dx, fs, kvs, ks, xs, es, rfl, hh, hs, hd, hp, hS, hP, hlen, hne, hks, hkne, hcn, k⟩ := h
    have hu := hu_of hr
    refine ⟨_, pss_cons (ps_if (pt_cmpR (op_eq_dictL hr.units0) (pe_fld (pv 0) rfl) pe_dnewK (nomark _)) (pss_one ps_never) pss_nil)
      (pss_cons (ps_set (i := 1) scCheck.nd rfl (Or.inl rfl) (C8.pe_c cR hr (by decide) (by rfl) (pa_cons (pe_callB (cr_minD rfl) (by rfl) z.min (by decide +kernel) (pa_cons (pe_fld (pv 0) rfl) pa_nil)) (pa_cons (pe_fld (pv 0) rfl) pa_nil))))
      (pss_one (ps_lock (ps_for PassesOwn.never rfl (pi_keys (pe_fld (pv 0) rfl)) (pg_name (i := 2) scCheck.nd rfl (Or.inl rfl))
        (pss_one (ps_if (pt_cmpR op_notIn_seq (pv 2) (pv 1) (by rfl)) (pss_one ps_never) pss_nil)))))), ?_⟩
    refine ⟨_, rfl, h, C, dx, fs, _, rfl, hh, T.cl, T.nS, hs, fun e he => ?_⟩
    have s1 := Same.upd_new (o := .dK []) he
    have hkl : kvs.length = ks.length := by
      have := congrArg List.length hks
      rwa [List.length_map, List.length_map] at this
    refine ⟨d, e, kvs, [], rfl, rfl, s1 _ _ hd, upd_same, (by rw [hkl]; exact fun z => hkne (List.length_eq_zero_iff.mp z)), _, rfl, iteF ?_⟩
    refine ⟨_, rfl, h, C, dx, fs, _, rfl, s1 _ _ hh, T.cl, T.nS, hs, d, kvs, ks, rfl, s1 _ _ hd, hks, hkne, _, rfl, h, C, dx, fs, _, rfl, s1 _ _ hh, T.cl, T.nP, hp, _, a, c, xs, es, rfl, s1.seq hS, s1.pz hP, hlen, hne, hc _, fun H2 l TT s2 hl B hT => ?_⟩
    have s12 := s1.trans s2
    have hd2 := s12 _ _ hd
    have nld : l ≠ d := ne_of hl hd2 (by intro z; cases z)
    have nhd : h ≠ d := ne_of hh hd (by intro z; cases z)
    refine ⟨d, _, hd2, trivial, fun od => ?_⟩
    refine ⟨_, rfl, h, C, dx, fs, _, rfl, (by rw [upd_ne nhd]; exact s12 _ _ hh), T.cl, T.nS, hs, d, od, rfl, .inl ⟨kvs, upd_same, for_it walk_keys (fun i σ H3 => ∃ (u : Option V), σ = [some (.ref h), some (.ref l), u] ∧ H3 = upd H2 d (.frz od (.dK kvs))) ⟨none, rfl, rfl⟩
      (fun i σ H3 _ ⟨_, _, e⟩ => by rw [e, upd_same]) ?_ ?_⟩⟩
    · rintro i x σ _ H3 hi ⟨u, rfl, rfl⟩ ⟨rfl, kx, vx, hkx, rfl⟩
      have hmem : kx ∈ ks.map Sum.inr := by
        rw [← hks]
        exact List.mem_map.mpr ⟨_, List.mem_of_getElem? hkx, rfl⟩
      obtain ⟨v, hv, rfl⟩ := List.mem_map.mp hmem
      refine ⟨_, rfl, _, rfl, l, _, rfl, .inl (SqL.of (by rw [upd_ne nld]; exact hl)), rfl, (by simp [flatV]), _, rfl, ?_⟩
      have hin : inV (V.str v) ((keys TT).map V.str) = true := by
        have : v ∈ keys TT := B.mem.mpr (hcn v hv)
        unfold inV
        rw [List.any_eq_true]
        exact ⟨.str v, List.mem_map.mpr ⟨v, this, rfl⟩, by simp [eqV]⟩
      show if (!inV (V.str v) ((keys TT).map V.str)) = true then _ else _
      rw [hin]
      exact iteF ⟨_, rfl, rfl⟩
    · rintro σ H3 ⟨u, rfl, rfl⟩
      refine ⟨upd_same, ?_⟩
      rw [upd_upd]
      refine k _ fun b o eb => ?_
      by_cases e : b = d
      · subst e
        rw [hd] at eb
        rw [upd_same]
        exact eb
      · rw [upd_ne e]
        exact s12 _ _ eb
end
end Yf
set_option Elab.async false
set_option linter.all false
set_option maxRecDepth 100000
set_option maxHeartbeats 4000000
/-! W9: Building.prepare. -/
namespace Yf
open PySem PySem.Spec PyProof.Rows L2
/-- all that was tracked is as it was, but the object at x -/
def SmX (x : Addr) (H H' : Hp) : Prop := ∀ b o, H b = some o → b ≠ x → H' b = some o
theorem SmX.trans {x : Addr} {H H1 H2 : Hp} (a : SmX x H H1) (b : SmX x H1 H2) : SmX x H H2 := fun c o e n => b c o (a c o e n) n
theorem SmX.of {x : Addr} {H H' : Hp} (s : Same H H') : SmX x H H' := fun b o e _ => s b o e
theorem SmX.upd {x : Addr} {H : Hp} {o : HO} : SmX x H (L2.upd H x o) := fun b u e n => by rw [upd_ne n]; exact e
section
variable {K : PySem.W.Frag} {x C dx : Addr} {fs : List (Str × V)} {H H' : Hp} (hx : H x = some (.ins C dx fs)) (s : SmX x H H')
include hx s
theorem SmX.lst {a : Addr} {xs : List V} (h : H a = some (.lst xs)) : H' a = some (.lst xs) := s _ _ h (ne_of h hx (by intro z; cases z))
theorem SmX.tup {a : Addr} {xs : List V} (h : H a = some (.tup xs)) : H' a = some (.tup xs) := s _ _ h (ne_of h hx (by intro z; cases z))
theorem SmX.dK {a : Addr} {kvs : List (Key × V)} (h : H a = some (.dK kvs)) : H' a = some (.dK kvs) := s _ _ h (ne_of h hx (by intro z; cases z))
theorem SmX.seq {a : Addr} {xs : List V} (h : SqL K H a xs) : SqL K H' a xs := by
  rcases h with (h | ⟨o, h⟩) | h
  · exact .inl (.inl (s.lst hx h))
  · exact .inl (.inr ⟨o, s _ _ h (ne_of h hx (by intro z; cases z))⟩)
  · exact .inr h
theorem SmX.pz {xs : List V} {es : List (Str × Str)} (h : Pz H xs es) : Pz H' xs es := h.mono fun _ _ e => s.tup hx e
theorem SmX.gr {r a : Addr} {ks : List Str} {xs : List V} {es : List (Str × Str)} (G : Gr K H r a ks xs es) : Gr K H' r a ks xs es :=
  { G with hR := s.seq hx G.hR, hS := s.seq hx G.hS, hP := s.pz hx G.hP }
end
/-- some corridor joins rooms of one level -/
def LevG (es : List (Str × Str)) (s : Str) : Prop := ∃ T, Bfs es s T ∧ Lev T es
open Classical in
theorem nbs_ex {ks : List Str} {es : List (Str × Str)} (nd : ks.Nodup) (inK : ∀ p q, (p, q) ∈ es → p ∈ ks ∧ q ∈ ks) : Nbs es ks (fun x => ks.filter fun y => decide (Adj es x y)) := by
  refine ⟨fun x y => ?_, fun x => nd.filter _, inK⟩
  rw [List.mem_filter, decide_eq_true_eq]
  exact ⟨fun h => h.2, fun h => ⟨h.elim (fun h => (inK _ _ h).2) (fun h => (inK _ _ h).1), h⟩⟩
theorem lev_any {ks : List Str} {es : List (Str × Str)} {s : Str} {T T' : Tb Str} (nd : ks.Nodup) (inK : ∀ p q, (p, q) ∈ es → p ∈ ks ∧ q ∈ ks) (G : Good es) (cn : ∀ v, v ∈ ks → Conn es s v) (B : Bfs es s T) (B' : Bfs es s T') : Lev T es ↔ Lev T' es :=
  (Nbs.mixed_iff (nbs_ex nd inK) G B (fun v h => B.mem.mpr (cn v h)) (Nat.le_refl _)).symm.trans (Nbs.mixed_iff (nbs_ex nd inK) G B' (fun v h => B'.mem.mpr (cn v h)) (Nat.le_refl _))
theorem levG_iff {ks : List Str} {es : List (Str × Str)} {s : Str} {T : Tb Str} (nd : ks.Nodup) (inK : ∀ p q, (p, q) ∈ es → p ∈ ks ∧ q ∈ ks) (G : Good es) (cn : ∀ v, v ∈ ks → Conn es s v) (B : Bfs es s T) : LevG es s ↔ Lev T es :=
  ⟨fun ⟨_, B', L⟩ => (lev_any nd inK G cn B' B).mp L, fun L => ⟨T, B, L⟩⟩
/-- what sides_of gives -/
def SdV (T : Tb Str) (es : List (Str × Str)) (H : Hp) (v : V) : Prop := (v = .non ∧ Lev T es) ∨ ∃ t l1 l2 y1 y2, v = .ref t ∧ ¬ Lev T es ∧ H t = some (.tup [.ref l1, .ref l2]) ∧ H l1 = some (.lst y1) ∧ H l2 = some (.lst y2)
def spSides2 (K : PySem.W.Frag) : Sp := fun vs H Q _ => ∃ (r a : Addr) (ks : List Str) (xs : List V) (es : List (Str × Str)), vs = [.ref r, .ref a] ∧ Gr K H r a ks xs es ∧ ∀ H' T v, Same H H' → Bfs es (smin ks) T → SdV T es H' v → Q v H'
/-- what odd_ring_of gives -/
def OdV (T : Tb Str) (es : List (Str × Str)) (H : Hp) (v : V) : Prop := (v = .non ∧ ¬ Lev T es) ∨ ∃ t ys, v = .ref t ∧ Lev T es ∧ H t = some (.tup ys)
def spOdd2 (K : PySem.W.Frag) : Sp := fun vs H Q _ => ∃ (r a : Addr) (ks : List Str) (xs : List V) (es : List (Str × Str)), vs = [.ref r, .ref a] ∧ Gr K H r a ks xs es ∧ ∀ H' T v, Same H H' → Bfs es (smin ks) T → OdV T es H' v → Q v H'
theorem cal_mono {P : Program} {w : World} {K : PySem.W.Frag} {mg : Str → Option Value} {base : Heap} {k : Nat} {x : Str} {sp sp' : Sp} {dvs : List V} (c : C8.Cal P w K mg base k x sp dvs) (h : ∀ vs H Q E, sp' vs H Q E → sp vs H Q E) : C8.Cal P w K mg base k x sp' dvs := by
  obtain ⟨f, fd, ps, ds, F, a, b, c, d⟩ := c.ex
  exact ⟨f, fd, ps, ds, F.imp h, a, b, c, d⟩
theorem cal_sides2 {P : Program} {w : World} {K : PySem.W.Frag} {mg : Str → Option Value} {base : Heap} {k : Nat} (c : C8.Cal P w K mg base k "sides_of" (spSides K) []) : C8.Cal P w K mg base k "sides_of" (spSides2 K) [] :=
  cal_mono c fun vs H Q E ⟨r, a, ks, xs, es, e, G, q⟩ => ⟨r, a, ks, xs, es, e, G, fun H' T s B => ⟨fun l => q H' T .non s B (.inl ⟨rfl, l⟩), fun n t l1 l2 y1 y2 h1 h2 h3 => q H' T (.ref t) s B (.inr ⟨t, l1, l2, y1, y2, rfl, n, h1, h2, h3⟩)⟩⟩
theorem cal_odd2 {P : Program} {w : World} {K : PySem.W.Frag} {mg : Str → Option Value} {base : Heap} {k : Nat} (c : C8.Cal P w K mg base k "odd_ring_of" (spOdd K) []) : C8.Cal P w K mg base k "odd_ring_of" (spOdd2 K) [] :=
  cal_mono c fun vs H Q E ⟨r, a, ks, xs, es, e, G, q⟩ => ⟨r, a, ks, xs, es, e, G, fun H' T s B => ⟨fun l => q H' T .non s B (.inl ⟨rfl, l⟩), fun n t ys h => q H' T (.ref t) s B (.inr ⟨t, ys, rfl, n, h⟩)⟩⟩
/-- None exactly if p -/
def NonIff (v : V) (p : Prop) : Prop := (v = .non ∧ p) ∨ (∃ t, v = .ref t ∧ ¬ p)
def BrL (H : Hp) (ys : List V) (es : List (Str × Str)) : Prop := ∃ bs, Pz H ys bs ∧ ∀ f : Str × Str → Bool, (∀ e, f e = true ↔ Bri es e) → bs = es.filter f
def spPrep (K : PySem.W.Frag) (C : Addr) : Sp := fun vs H Q _ => ∃ (h a d dx : Addr) (fs : List (Str × V)) (kvs : List (Key × V)) (ks : List Str) (xs : List V) (es : List (Str × Str)), vs = [.ref h] ∧ H h = some (.ins C dx fs) ∧ fs.length ≤ 10 ∧ fs.lookup ("sizes" : Str) = some (.ref d) ∧ H d = some (.dK kvs) ∧
  fs.lookup ("pairs" : Str) = some (.ref a) ∧ SqL K H a xs ∧ Pz H xs es ∧ es.length ≤ 40 ∧ Good es ∧ kvs.map (·.1) = ks.map Sum.inr ∧ ks ≠ [] ∧ ks.Nodup ∧ ks.length ≤ 60 ∧ (∀ p q, (p, q) ∈ es → p ∈ ks ∧ q ∈ ks) ∧ (∀ v, v ∈ ks → Conn es (smin ks) v) ∧
  ∀ H' v1 v2 t ys, SmX h H H' → NonIff v1 (LevG es (smin ks)) → NonIff v2 (¬ LevG es (smin ks)) → H' t = some (.tup ys) → BrL H' ys es → H' h = some (.ins C dx (putF "own_bridges" (.ref t) (putF "own_ring" v2 (putF "own_sides" v1 fs)))) → Q .non H'
theorem scPrep : FnScope ["self", "rooms", "sides", "ring"] ["self"] (C8.fnScope sPrepare) := ⟨rfl, rfl, rfl, by decide +kernel, rfl, by decide +kernel, by decide +kernel⟩
section
variable {P : Program} {w : World} {K : PySem.W.Frag} {mg : Str → Option Value} {base : Heap}
theorem len_putF (f : Str) (v : V) : ∀ fs : List (Str × V), (putF f v fs).length ≤ fs.length + 1
  | [] => by simp [putF]
  | p :: fs => by
    have := len_putF f v fs
    unfold putF
    split
    · simp
    · simp only [List.length_cons]
      omega
theorem met_prep {C f : Addr} {fd : FuncData} (F : C8.Fun K "prepare" "Building.prepare" sPrepare f fd) (b : Binds K fd ["self"] []) (me : Meth K C "prepare" f) (z : Bi mg) (T : BTxt K C)
    (cS : C8.Cal P w K mg base 3 "sides_of" (spSides2 K) []) (cO : C8.Cal P w K mg base 3 "odd_ring_of" (spOdd2 K) []) (cB : C8.Cal P w K mg base 3 "bridges_of" (spBridges K) []) : C8.Met P w K mg base 4 C "prepare" (spPrep K C) [] := by
  refine C8.met0 T.cl me F b scPrep (fun vs H Q E h => ?_) (fun cdv A outer s H vs Q E hr h => ?_)
  · obtain ⟨h, a, d, dx, fs, kvs, ks, xs, es, rfl, _⟩ := h
    rfl
  · obtain ⟨h, a, d, dx, fs, kvs, ks, xs, es, rfl, hh, hfl, hs, hd, hp, hS, hP, hlen, hgood, hks, hkne, hknd, hkl, hin, hcn, k⟩ := h
    refine ⟨_, pss_cons (ps_set (i := 1) scPrep.nd rfl (Or.inl rfl) (pe_callTy (call_list_dK rfl) (by rfl) z.list (by decide +kernel) (pa_cons (pe_fld (pv 0) rfl) pa_nil)))
      (pss_cons (ps_par (i := 2) (j := 3) (by rfl) scPrep.nd rfl rfl (by decide) rfl rfl (pa_cons (C8.pe_c cS hr (by decide) (by rfl) (pa_cons (pv 1) (pa_cons (pe_fld (pv 0) rfl) pa_nil))) (pa_cons (C8.pe_c cO hr (by decide) (by rfl) (pa_cons (pv 1) (pa_cons (pe_fld (pv 0) rfl) pa_nil))) pa_nil)) (by rfl))
      (C8.pss_cut (ps_fld (pv 0) (pe_ifExp (pt_cmp (pc_isN (pv 2))) pe_non (pe_tup (pa_cons (pe_callTy call_tuple_of (by rfl) z.tuple (by decide +kernel) (pa_cons (pe_ix ix_tup (pv 2) pe_int (fun _ _ => rfl)) pa_nil)) (pa_cons (pe_callTy call_tuple_of (by rfl) z.tuple (by decide +kernel) (pa_cons (pe_ix ix_tup (pv 2) pe_int (fun _ _ => rfl)) pa_nil)) pa_nil)))) rfl)
      (C8.pss_cut (ps_fld (pv 0) (pe_ifExp (pt_cmp (pc_isN (pv 3))) pe_non (pe_callTy call_tuple_of (by rfl) z.tuple (by decide +kernel) (pa_cons (pv 3) pa_nil))) rfl)
      (pss_one (ps_fld (pv 0) (pe_callTy call_tuple_of (by rfl) z.tuple (by decide +kernel) (pa_cons (C8.pe_c cB hr (by decide) (by rfl) (pa_cons (pv 1) (pa_cons (pe_fld (pv 0) rfl) pa_nil))) pa_nil)) rfl))))), ?_⟩
    -- rooms
    refine ⟨_, rfl, h, C, dx, fs, _, rfl, hh, T.cl, T.nS, hs, d, kvs, rfl, hd, fun r hrn => ?_⟩
    have er : kvs.map (fun kv => kV kv.1) = ks.map V.str := by
      have e := congrArg (List.map kV) hks
      rw [List.map_map, List.map_map] at e
      exact e
    rw [er]
    have s1 := Same.upd_new (o := .lst (ks.map V.str)) hrn
    have G : Gr K (upd H r (.lst (ks.map V.str))) r a ks xs es := ⟨SqL.of upd_same, s1.seq hS, s1.pz hP, hlen, hkl, hkne, hgood, hin, hcn⟩
    have hh1 := s1 _ _ hh
    -- sides, ring
    refine ⟨_, rfl, _, rfl, h, C, dx, fs, _, rfl, hh1, T.cl, T.nP, hp, r, a, ks, xs, es, rfl, G, fun H2 T2 v2 s2 B2 sd2 => ?_⟩
    have lev2 := levG_iff hknd hin hgood hcn B2
    have hh2 := s2 _ _ hh1
    refine ⟨_, rfl, _, rfl, h, C, dx, fs, _, rfl, hh2, T.cl, T.nP, hp, r, a, ks, xs, es, rfl, G.same s2, fun H3 T3 v3 s3 B3 od3 => ?_⟩
    have lev3 := levG_iff hknd hin hgood hcn B3
    have hh3 := s3 _ _ hh2
    have s123 := s1.trans (s2.trans s3)
    refine ⟨_, _, rfl, ?_⟩
    refine ⟨fun σ' H4 => σ' = [some (.ref h), some (.ref r), some v2, some v3] ∧ ∃ w1, SmX h H3 H4 ∧ NonIff w1 (LevG es (smin ks)) ∧ H4 h = some (.ins C dx (putF "own_sides" w1 fs)), ?_, ?_⟩
    · refine ⟨_, rfl, ?_⟩
      rcases sd2 with ⟨rfl, l2⟩ | ⟨t, l1, l2, y1, y2, rfl, n2, h1, h2, h3⟩
      · refine ⟨true, rfl, iteT ?_⟩
        exact ⟨_, rfl, h, C, dx, fs, rfl, hh3, T.cl, T.nA, by omega, rfl, .non, SmX.upd, .inl ⟨rfl, lev2.mpr l2⟩, upd_same⟩
      · refine ⟨false, rfl, iteF ?_⟩
        refine ⟨_, rfl, t, _, _, .ref l1, rfl, rfl, SqT.of (s3 _ _ h1), atI_nat (j := 0) rfl, l1, y1, rfl, .inl ⟨SqL.of (s3 _ _ h2), fun q1 hq1 => ?_⟩⟩
        have s4 := Same.upd_new (o := .tup y1) hq1
        refine ⟨_, rfl, t, _, _, .ref l2, rfl, rfl, SqT.of (s4 _ _ (s3 _ _ h1)), atI_nat (j := 1) rfl, l2, y2, rfl, .inl ⟨SqL.of (s4 _ _ (s3 _ _ h3)), fun q2 hq2 => ?_⟩⟩
        have s5 := s4.to_new (o := .tup y2) hq2
        refine ⟨(by show 2 ≤ sizeLine; decide), fun q3 hq3 => ?_⟩
        have s6 := s5.to_new (o := .tup [.ref q1, .ref q2]) hq3
        exact ⟨_, rfl, h, C, dx, fs, rfl, s6 _ _ hh3, T.cl, T.nA, by omega, rfl, .ref q3, (SmX.of s6).trans SmX.upd, .inr ⟨q3, rfl, fun l => n2 (lev2.mp l)⟩, upd_same⟩
    rintro σ' H4 ⟨rfl, w1, x4, n1, h4⟩
    have hfl3 := len_putF "own_sides" w1 fs
    refine ⟨fun σ' H5 => σ' = [some (.ref h), some (.ref r), some v2, some v3] ∧ ∃ w2, SmX h H3 H5 ∧ NonIff w2 (¬ LevG es (smin ks)) ∧ H5 h = some (.ins C dx (putF "own_ring" w2 (putF "own_sides" w1 fs))), ?_, ?_⟩
    · refine ⟨_, rfl, ?_⟩
      rcases od3 with ⟨rfl, l3⟩ | ⟨t, ys, rfl, l3, h1⟩
      · refine ⟨true, rfl, iteT ?_⟩
        exact ⟨_, rfl, h, C, dx, _, rfl, h4, T.cl, T.nR, by omega, rfl, .non, x4.trans SmX.upd, .inl ⟨rfl, fun l => l3 (lev3.mp l)⟩, upd_same⟩
      · refine ⟨false, rfl, iteF ?_⟩
        refine ⟨_, rfl, t, ys, rfl, .inr ⟨SqT.of (x4.tup hh3 h1), ?_⟩⟩
        exact ⟨_, rfl, h, C, dx, _, rfl, h4, T.cl, T.nR, by omega, rfl, .ref t, x4.trans SmX.upd, .inr ⟨t, rfl, fun n => n (lev3.mpr l3)⟩, upd_same⟩
    rintro σ' H5 ⟨rfl, w2, s5, n2, h5⟩
    have G5 : Gr K H5 r a ks xs es := s5.gr hh3 (G.same (s2.trans s3))
    have hp5 : (putF "own_ring" w2 (putF "own_sides" w1 fs)).lookup ("pairs" : Str) = some (.ref a) := by
      rw [lookup_putF, if_neg (by decide +kernel), lookup_putF, if_neg (by decide +kernel)]
      exact hp
    refine ⟨_, rfl, _, rfl, h, C, dx, _, _, rfl, h5, T.cl, T.nP, hp5, r, a, ks, xs, es, rfl, G5, fun H6 l ys bs s6 hl6 P6 _ F6 => ?_⟩
    refine ⟨l, ys, rfl, .inl ⟨SqL.of hl6, fun t ht => ?_⟩⟩
    have h6 := s6 _ _ h5
    have nht : h ≠ t := ne_of_none h6 ht
    have hfl2 := len_putF "own_ring" w2 (putF "own_sides" w1 fs)
    refine ⟨_, rfl, h, C, dx, _, rfl, (by rw [upd_ne nht]; exact h6), T.cl, T.nB, Nat.lt_of_le_of_lt hfl2 (by omega), ?_⟩
    refine k _ w1 w2 t ys ?_ n1 n2 (by rw [upd_ne nht.symm, upd_same]) ⟨bs, ?_, F6⟩ upd_same
    · exact (((SmX.of s123).trans s5).trans ((SmX.of s6).trans ((SmX.of (Same.upd_new ht))))).trans SmX.upd
    · exact (L2.Same.pz (Same.upd_new ht) P6).mono fun x zs e => by
        have : (upd H6 t (.tup ys)) h = some (.ins C dx (putF "own_ring" w2 (putF "own_sides" w1 fs))) := by rw [upd_ne nht]; exact h6
        rw [upd_ne (ne_of e this (by intro z; cases z))]
        exact e
end
end Yf
set_option Elab.async false
set_option linter.all false
set_option maxRecDepth 100000
set_option maxHeartbeats 4000000
/-! W10: Building.__init__. -/
namespace Yf
open PySem PySem.Spec PyProof.Rows L2
/-- a building's rooms and corridors -/
structure PGr (ks : List Str) (es : List (Str × Str)) : Prop where
  ne : ks ≠ []
  nd : ks.Nodup
  nm : ∀ x, x ∈ ks → NameOk x
  kl : ks.length ≤ 24
  el : es.length ≤ 40
  ord : ∀ p q, (p, q) ∈ es → slt p q = true
  nde : es.Nodup
  inK : ∀ p q, (p, q) ∈ es → p ∈ ks ∧ q ∈ ks
  conn : ∀ v w, v ∈ ks → w ∈ ks → Conn es v w
theorem good_of {es : List (Str × Str)} (h : ∀ p q, (p, q) ∈ es → slt p q = true) : Good es :=
  ⟨fun a b m e => (by have := h a b m; rw [e, slt_irrefl] at this; cases this), fun a b m m' => (by have := slt_asymm (h a b m); rw [h b a m'] at this; cases this)⟩
theorem PGr.good {ks : List Str} {es : List (Str × Str)} (G : PGr ks es) : Good es := good_of G.ord
theorem PGr.cm {ks : List Str} {es : List (Str × Str)} (G : PGr ks es) : ∀ v, v ∈ ks → Conn es (smin ks) v := fun v h => G.conn _ _ (smin_mem G.ne) h
theorem conn_perm {α : Type} {es fs : List (α × α)} (h : ∀ e, e ∈ es ↔ e ∈ fs) {a b : α} : Conn es a b ↔ Conn fs a b := ⟨fun c => c.mono fun e => (h e).mp, fun c => c.mono fun e => (h e).mpr⟩
theorem PGr.sort {ks : List Str} {es : List (Str × Str)} (G : PGr ks es) : PGr (ssort ks) (psort es) where
  ne h := G.ne (by have := (ssort_perm ks).length_eq; rw [h] at this; exact List.length_eq_zero_iff.mp this.symm)
  nd := (ssort_perm ks).nodup_iff.mpr G.nd
  nm x h := G.nm x (mem_ssort.mp h)
  kl := by rw [(ssort_perm ks).length_eq]; exact G.kl
  el := by rw [(psort_perm es).length_eq]; exact G.el
  ord p q h := G.ord p q (mem_psort.mp h)
  nde := (psort_perm es).nodup_iff.mpr G.nde
  inK p q h := ⟨mem_ssort.mpr (G.inK p q (mem_psort.mp h)).1, mem_ssort.mpr (G.inK p q (mem_psort.mp h)).2⟩
  conn v w hv hw := (conn_perm fun e => mem_psort).mpr (G.conn v w (mem_ssort.mp hv) (mem_ssort.mp hw))
abbrev bNames : List Str := ["sizes", "pairs", "near", "own_sides", "own_ring", "own_bridges"]
/-- a building stands at h -/
structure BX (C : Addr) (H : Hp) (h : Addr) (ks : List Str) (es : List (Str × Str)) (dx : Addr) (fs : List (Str × V)) (dS : Addr) (kvs : List (Key × V)) (p : Addr) (xs : List V) (dN : Addr) (nk : List (Key × V)) (vS vR : V) (tB : Addr) (ys : List V) : Prop where
  ob : H h = some (.ins C dx fs)
  lS : fs.lookup ("sizes" : Str) = some (.ref dS)
  oS : H dS = some (.dK kvs)
  kS : kvs.map (·.1) = ks.map Sum.inr
  lP : fs.lookup ("pairs" : Str) = some (.ref p)
  oP : H p = some (.lst xs)
  pP : Pz H xs es
  lN : fs.lookup ("near" : Str) = some (.ref dN)
  oN : H dN = some (.dK nk)
  near : ∀ x, x ∈ ks → ∃ (l : Addr) (ys : List Str), valV nk (.inr x) = some (.ref l) ∧ H l = some (.lst (ys.map V.str)) ∧ ys.length ≤ 40 ∧ ys.Nodup ∧ ∀ y, y ∈ ys ↔ Adj es x y
  lA : fs.lookup ("own_sides" : Str) = some vS
  iA : NonIff vS (LevG es (smin ks))
  lR : fs.lookup ("own_ring" : Str) = some vR
  iR : NonIff vR (¬ LevG es (smin ks))
  lB : fs.lookup ("own_bridges" : Str) = some (.ref tB)
  oB : H tB = some (.tup ys)
  br : BrL H ys es
  noM : ∀ m : Str, m ∉ bNames → fs.lookup m = none
def BAt (C : Addr) (H : Hp) (h : Addr) (ks : List Str) (es : List (Str × Str)) : Prop := ∃ dx fs dS kvs p xs dN nk vS vR tB ys, BX C H h ks es dx fs dS kvs p xs dN nk vS vR tB ys
theorem BX.same {C : Addr} {H H' : Hp} {h : Addr} {ks : List Str} {es : List (Str × Str)} {dx : Addr} {fs : List (Str × V)} {dS : Addr} {kvs : List (Key × V)} {p : Addr} {xs : List V} {dN : Addr} {nk : List (Key × V)} {vS vR : V} {tB : Addr} {ys : List V} (B : BX C H h ks es dx fs dS kvs p xs dN nk vS vR tB ys) (s : Same H H') :
    BX C H' h ks es dx fs dS kvs p xs dN nk vS vR tB ys :=
  { B with
    ob := s _ _ B.ob, oS := s _ _ B.oS, oP := s _ _ B.oP, pP := s.pz B.pP, oN := s _ _ B.oN, oB := s _ _ B.oB
    near := fun x hx => let ⟨l, ys, a, b, c⟩ := B.near x hx; ⟨l, ys, a, s _ _ b, c⟩
    br := let ⟨bs, P, f⟩ := B.br; ⟨bs, s.pz P, f⟩ }
theorem BAt.same {C : Addr} {H H' : Hp} {h : Addr} {ks : List Str} {es : List (Str × Str)} (B : BAt C H h ks es) (s : Same H H') : BAt C H' h ks es := by
  obtain ⟨dx, fs, dS, kvs, p, xs, dN, nk, vS, vR, tB, ys, B⟩ := B
  exact ⟨dx, fs, dS, kvs, p, xs, dN, nk, vS, vR, tB, ys, B.same s⟩
/-- the neighbours' lists while they are filled -/
structure Nr (H0 H : Hp) (nk : List (Key × V)) (ks : List Str) (R : Str → Str → Prop) (c : Nat) : Prop where
  ent : ∀ x, x ∈ ks → ∃ (l : Addr) (ys : List Str), valV nk (.inr x) = some (.ref l) ∧ H0 l = none ∧ H l = some (.lst (ys.map V.str)) ∧ ys.length ≤ c ∧ ys.Nodup ∧ ∀ y, y ∈ ys ↔ R x y
  inj : ∀ x x' v, x ∈ ks → x' ∈ ks → valV nk (.inr x) = some v → valV nk (.inr x') = some v → x = x'
theorem Nr.put {H0 H : Hp} {nk : List (Key × V)} {ks : List Str} {R : Str → Str → Prop} {c : Nat} (n : Nr H0 H nk ks R c) {x y : Str} (hx : x ∈ ks) (hy : ¬ R x y) {l : Addr} {ys : List Str} (hv : valV nk (.inr x) = some (.ref l)) (hl : H l = some (.lst (ys.map V.str))) :
    Nr H0 (upd H l (.lst (ys.map V.str ++ [V.str y]))) nk ks (fun a b => R a b ∨ (a = x ∧ b = y)) (c + 1) := by
  refine ⟨fun a ha => ?_, n.inj⟩
  obtain ⟨m, zs, h1, h2, h3, h4, h5, h6⟩ := n.ent a ha
  by_cases e : m = l
  · subst e
    have ea := n.inj a x _ ha hx h1 hv
    subst ea
    rw [hl] at h3
    have e2 := map_str_inj (HO.lst.inj (Option.some.inj h3))
    subst e2
    refine ⟨m, ys ++ [y], h1, h2, by rw [upd_same, List.map_append]; rfl, by rw [List.length_append]; exact Nat.succ_le_succ h4, nd_snoc1 h5 (fun m => hy ((h6 y).mp m)), fun z => ?_⟩
    rw [List.mem_append, List.mem_singleton, h6 z]
    exact or_congr_right ⟨fun e => ⟨rfl, e⟩, fun e => e.2⟩
  · have na : a ≠ x := fun z => by
      subst z
      rw [hv] at h1
      exact e (V.ref.inj (Option.some.inj h1)).symm
    refine ⟨m, zs, h1, h2, by rw [upd_ne e]; exact h3, Nat.le_succ_of_le h4, h5, fun z => ?_⟩
    rw [h6 z]
    exact ⟨.inl, fun h => h.resolve_right fun z => na z.1⟩
theorem Nr.congr {H0 H : Hp} {nk : List (Key × V)} {ks : List Str} {R R' : Str → Str → Prop} {c : Nat} (n : Nr H0 H nk ks R c) (h : ∀ x y, R x y ↔ R' x y) : Nr H0 H nk ks R' c :=
  ⟨fun x hx => let ⟨l, ys, a, b, d, e, f, g⟩ := n.ent x hx; ⟨l, ys, a, b, d, e, f, fun y => (g y).trans (h x y)⟩, n.inj⟩
/-- self.near[x].append(y) -/
theorem apnd_step {K : PySem.W.Frag} {C h dx dN : Addr} {fs : List (Str × V)} {H0 H : Hp} {nk : List (Key × V)} {ks : List Str} {R : Str → Str → Prop} {c : Nat} {σ : L2.St} {i j : Nat} {x y : Str} {D : Ends} (T : BTxt K C) (n : Nr H0 H nk ks R c) (hc : c < 1000) (hh : H h = some (.ins C dx fs)) (hN : fs.lookup ("near" : Str) = some (.ref dN)) (hd : H dN = some (.dK nk))
    (h0 : σ[0]? = some (some (.ref h))) (hi : σ[i]? = some (some (.str x))) (hj : σ[j]? = some (some (.str y))) (hx : x ∈ ks) (hy : ¬ R x y)
    (k : ∀ H', (∀ b o, H b = some o → H0 b ≠ none → H' b = some o) → H' h = some (.ins C dx fs) → H' dN = some (.dK nk) → Nr H0 H' nk ks (fun a b => R a b ∨ (a = x ∧ b = y)) (c + 1) → D.nx σ H') :
    tDrop (tBM K "list" rAppend (tDGet (tFld K (tVar 0) "near") (tVar i)) (tCons (tVar j) tNil)) D σ H := by
  obtain ⟨l, ys, h1, h2, h3, h4, h5, h6⟩ := n.ent x hx
  refine ⟨_, h0, h, C, dx, fs, _, rfl, hh, T.cl, T.nN, hN, _, hi, dN, .ref l, rfl, (by rw [← h1]; exact DGet.k (k := Sum.inr x) hd), .inl ⟨rfl, _, SqL.of h3⟩, _, hj, l, _, _, rfl, rfl, h3, small1000 (by rw [List.length_map]; omega), ?_⟩
  refine k _ (fun b o e hb => ?_) (by rw [upd_ne (ne_of hh h3 (by intro z; cases z))]; exact hh) (by rw [upd_ne (ne_of hd h3 (by intro z; cases z))]; exact hd) (n.put hx hy h1 h3)
  have : b ≠ l := fun z => hb (z ▸ h2)
  rw [upd_ne this]
  exact e
theorem same_unlock {H H2 : Hp} {d : Addr} {u : HO} {od : Obj} (s : Same (upd H d (.frz od u)) H2) (hd : H d = some u) : Same H (upd H2 d u) := fun b o e => by
  by_cases n : b = d
  · subst n
    rw [hd] at e
    rw [upd_same]
    exact e
  · rw [upd_ne n]
    exact s b o (by rw [upd_ne n]; exact e)
def spBI (K : PySem.W.Frag) (C : Addr) : Sp := fun vs H Q _ => ∃ (h dz a dx : Addr) (kz : List (Key × V)) (ns : List Str) (xs : List V) (es : List (Str × Str)), vs = [.ref h, .ref dz, .ref a] ∧ H h = some (.ins C dx []) ∧ H dz = some (.dK kz) ∧ kz.map (·.1) = ns.map Sum.inr ∧
  (∀ k v, (k, v) ∈ kz → ∃ i : Int, v = .int i ∧ 1 ≤ i ∧ i ≤ 3) ∧ SqL K H a xs ∧ Pz H xs es ∧ PGr ns es ∧ ∀ H', SmX h H H' → BAt C H' h (ssort ns) (psort es) → Q .non H'
abbrev nBI : List Str := ["self", "sizes", "corridors", "name", "size", "one", "other", "room"]
theorem scBI : FnScope nBI ["self", "sizes", "corridors"] (C8.fnScope sBInit) := ⟨rfl, rfl, rfl, by decide +kernel, rfl, by decide +kernel, by decide +kernel⟩
structure BCon (K : PySem.W.Frag) (C : Addr) : Prop where
  rooms : ∃ u, Con K C "MOST_ROOMS" (.int 24) u
  corrs : ∃ u, Con K C "MOST_CORRIDORS" (.int 40) u
section
variable {P : Program} {w : World} {K : PySem.W.Frag} {mg : Str → Option Value} {base : Heap}
theorem binit_ok {C f : Addr} {fd : FuncData} (F : C8.Fun K "__init__" "Building.__init__" sBInit f fd) (z : Bi mg) (v : Gv mg) (T : BTxt K C) (cs : BCon K C) (cN : C8.Cal P w K mg base 1 "is_name" spName []) (cB : C8.Cal P w K mg base 2 "is_between" spBetween [])
    (mS : C8.Met P w K mg base 3 C "sorted_pairs" (spSP K C) []) (mC : C8.Met P w K mg base 4 C "check_connected" (spCheck K C) []) (mP : C8.Met P w K mg base 4 C "prepare" (spPrep K C) []) : FnOk P w K mg base C8.CX0 5 f fd ["self", "sizes", "corridors"] (spBI K C) := by
  obtain ⟨uR, cR⟩ := cs.rooms
  obtain ⟨uC, cC⟩ := cs.corrs
  refine C8.fn0 F scBI (fun vs H Q E h => ?_) (fun cdv A outer s H vs Q E hr h => ?_)
  · obtain ⟨h, dz, a, dx, kz, ns, xs, es, rfl, _⟩ := h
    rfl
  · obtain ⟨h, dz, a, dx, kz, ns, xs, es, rfl, hh, hz, hkz, hvz, hS, hP, G, k⟩ := h
    have hu := hu_of hr
    refine ⟨_, pss_cons (ps_lock (ps_for PassesOwn.never rfl (pi_keys (pv 1)) (pg_name (i := 3) scBI.nd rfl (Or.inl rfl))
        (pss_one (ps_if (pt_not (pt_val (C8.pe_c cN hr (by decide) (by rfl) (pa_cons (pv 3) pa_nil)))) (pss_one ps_never) pss_nil))))
      (pss_cons (ps_lock (ps_for PassesOwn.never rfl (pi_values (pv 1)) (pg_name (i := 4) scBI.nd rfl (Or.inl rfl))
        (pss_one (ps_if (pt_not (pt_val (C8.pe_c cB hr (by decide) (by rfl) (pa_cons (pv 4) (pa_cons pe_int (pa_cons (C8.pe_gc (by rfl) v.msize) pa_nil)))))) (pss_one ps_never) pss_nil))))
      (pss_cons (ps_if (pt_cmpR op_gt (pe_callB call_lenD (by rfl) z.len (by decide +kernel) (pa_cons (pv 1) pa_nil)) (pe_con (pv 0) rfl) (nomark _)) (pss_one ps_never) pss_nil)
      (pss_cons (ps_fld (pv 0) (pe_dc (own := [("room", 7)]) (g := gName 7) (tk := tVar 7) (tv := tDGet (tVar 1) (tVar 7)) rfl scBI.nd (pi_list (pe_callB (call_sortedD rfl) (by rfl) z.sorted (by decide +kernel) (pa_cons (pv 1) pa_nil)))
          (blkOk_by (N := nBI) (sc := C8.fnScope sBInit) (own := [("room", 7)]) (by decide +kernel)) (fun _ _ _ _ _ => pg_name (i := 7) scBI.nd rfl (Or.inl rfl)) (fun _ _ _ _ _ => pts_nil) (fun _ _ _ _ _ => pv 7) (fun _ _ _ _ _ => pe_dget hu (pv 1) (pv 7) (fun _ _ => rfl))) rfl)
      (pss_cons (ps_fld (pv 0) (C8.pe_mt mS hr (by decide) (pv 0) (pa_cons (pv 2) pa_nil)) rfl)
      (pss_cons (ps_if (pt_cmpR op_gt (pe_callB call_len_seq (by rfl) z.len (by decide +kernel) (pa_cons (pe_fld (pv 0) rfl) pa_nil)) (pe_con (pv 0) rfl) (nomark _)) (pss_one ps_never) pss_nil)
      (pss_cons (ps_expr (C8.pe_mt0 mC hr (by decide) (pv 0)))
      (pss_cons (ps_fld (pv 0) (pe_lock (pe_dc (own := [("room", 7)]) (g := gName 7) (tk := tVar 7) (tv := tLst tNil) rfl scBI.nd (pi_keys (pe_fld (pv 0) rfl))
          (blkOk_by (N := nBI) (sc := C8.fnScope sBInit) (own := [("room", 7)]) (by decide +kernel)) (fun _ _ _ _ _ => pg_name (i := 7) scBI.nd rfl (Or.inl rfl)) (fun _ _ _ _ _ => pts_nil) (fun _ _ _ _ _ => pv 7) (fun _ _ _ _ _ => pe_lst pa_nil))) rfl)
      (pss_cons (ps_for PassesOwn.never rfl (pi_list (pe_fld (pv 0) rfl)) (pg_tup (by rfl) (pgs_cons (pg_name (i := 5) scBI.nd rfl (Or.inl rfl)) (pgs_cons (pg_name (i := 6) scBI.nd rfl (Or.inl rfl)) pgs_nil)))
        (pss_cons (ps_expr (pe_bm PySem.F.plainAttrs_list PySem.F.slot_list_append PySem.F.type_list_append mt_append (pe_dget hu (pe_fld (pv 0) rfl) (pv 5) (fun _ _ => rfl)) (pa_cons (pv 6) pa_nil)))
        (pss_one (ps_expr (pe_bm PySem.F.plainAttrs_list PySem.F.slot_list_append PySem.F.type_list_append mt_append (pe_dget hu (pe_fld (pv 0) rfl) (pv 6) (fun _ _ => rfl)) (pa_cons (pv 5) pa_nil))))))
      (pss_one (ps_expr (C8.pe_mt0 mP hr (by decide) (pv 0)))))))))))), ?_⟩
    have hkl : kz.length = ns.length := by
      have := congrArg List.length hkz
      rwa [List.length_map, List.length_map] at this
    have nhz : h ≠ dz := ne_of hh hz (by intro z; cases z)
    -- for name in sizes
    refine ⟨dz, _, hz, trivial, fun od => ?_⟩
    refine ⟨_, rfl, dz, od, rfl, .inl ⟨kz, upd_same, for_it walk_keys (fun i σ H2 => ∃ (u : Option V), σ = [some (.ref h), some (.ref dz), some (.ref a), u, none, none, none, none] ∧ Same (upd H dz (.frz od (.dK kz))) H2) ⟨none, rfl, Same.refl _⟩
      (fun i σ H2 _ ⟨_, _, s2⟩ => s2 _ _ upd_same) ?_ ?_⟩⟩
    · rintro i x σ _ H2 hi ⟨u, rfl, s2⟩ ⟨rfl, kx, vx, hkx, rfl⟩
      have hmem : kx ∈ ns.map Sum.inr := by
        rw [← hkz]
        exact List.mem_map.mpr ⟨_, List.mem_of_getElem? hkx, rfl⟩
      obtain ⟨nm, hnm, rfl⟩ := List.mem_map.mp hmem
      refine ⟨_, rfl, nm, rfl, G.nm nm hnm, fun H3 s3 => ⟨true, rfl, ?_⟩⟩
      exact iteF ⟨_, rfl, s2.trans s3⟩
    rintro σ H2 ⟨u3, rfl, s2⟩
    refine ⟨s2 _ _ upd_same, ?_⟩
    have t2 : Same H (upd H2 dz (.dK kz)) := same_unlock s2 hz
    generalize upd H2 dz (.dK kz) = J2 at t2
    clear s2 H2
    -- for size in sizes.values()
    refine ⟨dz, _, t2 _ _ hz, trivial, fun od2 => ?_⟩
    refine ⟨_, rfl, dz, od2, kz, rfl, upd_same, for_it walk_values (fun i σ H2 => ∃ (u : Option V), σ = [some (.ref h), some (.ref dz), some (.ref a), u3, u, none, none, none] ∧ Same (upd J2 dz (.frz od2 (.dK kz))) H2) ⟨none, rfl, Same.refl _⟩
      (fun i σ H2 _ ⟨_, _, s2⟩ => s2 _ _ upd_same) ?_ ?_⟩
    · rintro i x σ _ H2 hi ⟨u, rfl, s2⟩ ⟨rfl, kx, hkx⟩
      obtain ⟨n, rfl, n1, n2⟩ := hvz kx x (List.mem_of_getElem? hkx)
      refine ⟨_, rfl, n, 1, 1000000000, rfl, n1, by omega, fun H3 s3 => ⟨true, rfl, ?_⟩⟩
      exact iteF ⟨_, rfl, s2.trans s3⟩
    rintro σ H3 ⟨u4, rfl, s3⟩
    refine ⟨s3 _ _ upd_same, ?_⟩
    have t3 : Same J2 (upd H3 dz (.dK kz)) := same_unlock s3 (t2 _ _ hz)
    generalize upd H3 dz (.dK kz) = J3 at t3
    clear s3 H3
    have s03 := t2.trans t3
    have hh3 := s03 _ _ hh
    have hz3 := s03 _ _ hz
    -- len(sizes) > self.MOST_ROOMS
    have hkl24 := G.kl
    refine ⟨_, rfl, dz, kz, rfl, hz3, _, rfl, h, C, dx, [], .int 24, uR, rfl, hh3, T.cl, cR, rfl, _, _, rfl, rfl, _, rfl, ?_⟩
    rw [decide_eq_false (by omega)]
    refine iteF ?_
    -- self.sizes
    refine ⟨_, rfl, dz, kz, ns, rfl, .inl hz3, hkz, by omega, fun ks q pm srt hq => ⟨q, rfl, ⟨_, SqL.of upd_same⟩, fun D hD => ?_⟩⟩
    have eks : ks = ssort ns := ssort_of pm srt
    have s4 := s03.to_new (o := .lst (ks.map V.str)) hq
    have knd : ks.Nodup := pm.nodup_iff.mpr G.nd
    refine dc_it walk_list (fun i H4 => ∃ kvs, Same J3 H4 ∧ H4 D = some (.dK kvs) ∧ kvs.map (·.1) = (ks.take i).map Sum.inr ∧ SqL K H4 q (ks.map V.str) ∧ kvs.length ≤ 24)
      ⟨[], (Same.upd_new hq).to_new hD, upd_same, rfl, SqL.of (by rw [upd_ne (ne_of_none upd_same hD)]; exact upd_same), by decide⟩ (fun i H4 _ ⟨_, _, _, _, hs4, _⟩ => hs4) ?_ ?_
    · rintro i x _ H4 hi ⟨kvs, s4', hD4, hk4, hq4, hl4⟩ ⟨rfl, hx⟩
      obtain ⟨nm, hnm, rfl⟩ := map_get hx
      have hmem : nm ∈ ns := pm.mem_iff.mp (List.mem_of_getElem? hnm)
      have hin : (Sum.inr nm : Key) ∈ kz.map (·.1) := by rw [hkz]; exact List.mem_map.mpr ⟨nm, hmem, rfl⟩
      obtain ⟨vv, hvv⟩ : ∃ vv, valV kz (Sum.inr nm) = some vv := by
        cases e : valV kz (Sum.inr nm) with
        | some vv => exact ⟨vv, rfl⟩
        | none => exact absurd hin (valV_not e)
      have hz4 := s4' _ _ hz3
      have hno : valV kvs (Sum.inr nm) = none := by
        cases e : valV kvs (Sum.inr nm) with
        | none => rfl
        | some v0 =>
          have := valV_in e
          rw [hk4] at this
          obtain ⟨y, hy, e2⟩ := List.mem_map.mp this
          cases e2
          obtain ⟨j, hj⟩ := List.getElem?_of_mem hy
          rw [List.getElem?_take] at hj
          split at hj
          · have := nd_ix knd hj hnm
            omega
          · cases hj
      have hkl4 : kvs.length = i := by
        have := congrArg List.length hk4
        rw [List.length_map, List.length_map, List.length_take] at this
        have := lt_of_get hnm
        omega
      have hks24 : ks.length ≤ 24 := by rw [pm.length_eq]; exact G.kl
      have hi24 : i < 24 := Nat.lt_of_lt_of_le (lt_of_get hnm) hks24
      have hDf : J3 D = none := by
        have nDq : D ≠ q := fun e => by
          rw [e, upd_same] at hD
          cases hD
        rw [upd_ne nDq] at hD
        exact hD
      refine ⟨rfl, _, rfl, _, rfl, _, rfl, dz, vv, rfl, (by rw [← hvv]; exact DGet.k (k := Sum.inr nm) hz4), kvs, .inr nm, rfl, hD4, small1000 (by omega), _, s4'.to_own hDf, upd_same, ?_, ?_, ?_⟩
      · rw [putK_new _ hno, List.map_append, hk4, take_snoc hnm, List.map_append]
        rfl
      · rcases hq4 with (e | ⟨o, e⟩) | e
        · exact .inl (.inl (by rw [upd_ne (ne_of e hD4 (by intro z; cases z))]; exact e))
        · exact .inl (.inr ⟨o, by rw [upd_ne (ne_of e hD4 (by intro z; cases z))]; exact e⟩)
        · exact .inr e
      · rw [valV_none_len hno]
        omega
    rintro H4 ⟨kvs, s4', hD4, hk4, _, hl4⟩
    have hDf : J3 D = none := by
      have nDq : D ≠ q := fun e => by
        rw [e, upd_same] at hD
        cases hD
      rw [upd_ne nDq] at hD
      exact hD
    rw [List.length_map, List.take_length] at hk4
    have s04 := s03.trans s4'
    have hh4 := s04 _ _ hh
    refine ⟨_, rfl, h, C, dx, [], rfl, hh4, T.cl, T.nS, (by decide), ?_⟩
    have x5 : SmX h H (upd H4 h (.ins C dx (putF "sizes" (.ref D) []))) := (SmX.of s04).trans SmX.upd
    have hD5 : (upd H4 h (.ins C dx (putF "sizes" (.ref D) []))) D = some (.dK kvs) := by rw [upd_ne (ne_of hD4 hh4 (by intro z; cases z))]; exact hD4
    have hh5 : (upd H4 h (.ins C dx (putF "sizes" (.ref D) []))) h = some (.ins C dx (putF "sizes" (.ref D) [])) := upd_same
    generalize upd H4 h (.ins C dx (putF "sizes" (.ref D) [])) = J5 at x5 hD5 hh5
    have Gs := G.sort
    rw [← eks] at Gs
    have vin : ∀ x, x ∈ ks → (valV kvs (Sum.inr x : Key)).isSome = true := fun x hx => by
      have hin : (Sum.inr x : Key) ∈ kvs.map (·.1) := by rw [hk4]; exact List.mem_map.mpr ⟨x, hx, rfl⟩
      cases e : valV kvs (Sum.inr x : Key) with
      | some _ => rfl
      | none => exact absurd hin (valV_not e)
    have l5 : (putF "sizes" (V.ref D) []).lookup ("sizes" : Str) = some (.ref D) := by rw [lookup_putF, if_pos rfl]
    -- self.pairs
    refine ⟨_, rfl, h, dx, _, rfl, hh5, (by rw [lookup_putF, if_neg (by decide +kernel)]; rfl), _, rfl, h, a, D, dx, _, kvs, xs, es, rfl, hh5, l5, hD5, x5.seq hh hS, x5.pz hh hP, G.el, G.nde, fun p q' hpq => ?_, fun H6 lp ys s6 h0l hl6 P6 => ?_⟩
    · obtain ⟨i1, i2⟩ := G.inK p q' hpq
      exact ⟨G.ord p q' hpq, G.nm p i1, G.nm q' i2, vin p (by rw [eks]; exact mem_ssort.mpr i1), vin q' (by rw [eks]; exact mem_ssort.mpr i2)⟩
    have hh6 := s6 _ _ hh5
    refine ⟨_, rfl, h, C, dx, _, rfl, hh6, T.cl, T.nP, (by show 1 < 1000; decide), ?_⟩
    have x7 : SmX h H (upd H6 h (.ins C dx (putF "pairs" (.ref lp) (putF "sizes" (.ref D) [])))) := (x5.trans (SmX.of s6)).trans SmX.upd
    have e7 : ∀ {b : Addr} {o : HO}, b ≠ h → H6 b = some o → (upd H6 h (.ins C dx (putF "pairs" (.ref lp) (putF "sizes" (.ref D) [])))) b = some o := fun n e => by rw [upd_ne n]; exact e
    have hD7 := e7 (ne_of hD5 hh5 (by intro z; cases z)) (s6 _ _ hD5)
    have hl7 := e7 (ne_of hl6 hh6 (by intro z; cases z)) hl6
    have P7 : Pz (upd H6 h (.ins C dx (putF "pairs" (.ref lp) (putF "sizes" (.ref D) [])))) ys (psort es) := P6.mono fun x zs e => e7 (ne_of e hh6 (by intro z; cases z)) e
    have hh7 : (upd H6 h (.ins C dx (putF "pairs" (.ref lp) (putF "sizes" (.ref D) [])))) h = some (.ins C dx (putF "pairs" (.ref lp) (putF "sizes" (.ref D) []))) := upd_same
    generalize upd H6 h (.ins C dx (putF "pairs" (.ref lp) (putF "sizes" (.ref D) []))) = J7 at x7 hD7 hl7 P7 hh7
    have l7 : (putF "pairs" (V.ref lp) (putF "sizes" (V.ref D) [])).lookup ("sizes" : Str) = some (.ref D) := by rw [lookup_putF, if_neg (by decide +kernel), lookup_putF, if_pos rfl]
    have l7p : (putF "pairs" (V.ref lp) (putF "sizes" (V.ref D) [])).lookup ("pairs" : Str) = some (.ref lp) := by rw [lookup_putF, if_pos rfl]
    have l7n : ∀ m : Str, m ≠ "pairs" → m ≠ "sizes" → (putF "pairs" (V.ref lp) (putF "sizes" (V.ref D) [])).lookup m = none := fun m h1 h2 => by
      rw [lookup_putF, if_neg h1, lookup_putF, if_neg h2]
      rfl
    have hylen : ys.length ≤ 40 := by rw [P7.length]; exact Gs.el
    -- len(self.pairs) > self.MOST_CORRIDORS
    refine ⟨_, rfl, h, C, dx, _, _, rfl, hh7, T.cl, T.nP, l7p, lp, ys, rfl, .inl (SqL.of hl7), _, rfl, h, C, dx, _, .int 40, uC, rfl, hh7, T.cl, cC, l7n _ (by decide +kernel) (by decide +kernel), _, _, rfl, rfl, _, rfl, ?_⟩
    rw [decide_eq_false (by omega)]
    refine iteF ?_
    -- self.check_connected()
    refine ⟨_, rfl, h, dx, _, rfl, hh7, l7n _ (by decide +kernel) (by decide +kernel), h, lp, D, dx, _, kvs, ks, ys, psort es, rfl, hh7, l7, hD7, l7p, SqL.of hl7, P7, Gs.el, Gs.good.ne, hk4, Gs.ne, Gs.cm, fun H8 s8 => ?_⟩
    have x8 := x7.trans (SmX.of s8)
    have hD8 := s8 _ _ hD7
    have hl8 := s8 _ _ hl7
    have P8 := s8.pz P7
    have hh8 := s8 _ _ hh7
    clear s8 hD7 hl7 P7 hh7 x7
    have nDh : h ≠ D := ne_of hh8 hD8 (by intro z; cases z)
    -- self.near
    refine ⟨D, _, hD8, trivial, fun od => ?_⟩
    refine ⟨_, rfl, h, C, dx, _, _, rfl, (by rw [upd_ne nDh]; exact hh8), T.cl, T.nS, l7, D, od, rfl, .inl ⟨kvs, upd_same, fun N hN => ?_⟩⟩
    have nND : N ≠ D := fun e => by
      rw [e, upd_same] at hN
      cases hN
    rw [upd_ne nND] at hN
    have hkvl : kvs.length = ks.length := by
      have := congrArg List.length hk4
      rwa [List.length_map, List.length_map] at this
    refine dc_it walk_keys (fun i H9 => ∃ nk, H9 N = some (.dK nk) ∧ H9 D = some (.frz od (.dK kvs)) ∧ (∀ b o, b ≠ D → H8 b = some o → H9 b = some o) ∧ nk.length ≤ i ∧
        (∀ x, x ∈ ks.take i → ∃ l, valV nk (.inr x) = some (.ref l) ∧ H8 l = none ∧ H9 l = some (.lst [])) ∧ (∀ x v, valV nk (.inr x) = some v → x ∈ ks.take i) ∧ ∀ x x' v, valV nk (.inr x) = some v → valV nk (.inr x') = some v → x = x')
      ⟨[], upd_same, by rw [upd_ne nND.symm, upd_same], fun b o nb e => (by rw [upd_ne (ne_of_none e hN), upd_ne nb]; exact e), Nat.le_refl _, fun x hx => by simp at hx, fun x v h => (nomatch h), fun x x' v h => (nomatch h)⟩ (fun i H9 _ ⟨_, _, h, _⟩ => h) ?_ ?_
    · rintro i x _ H9 hi ⟨nk, hN9, hD9, kp9, hl9, I1, I2, I3⟩ ⟨rfl, kx, vx, hkx, rfl⟩
      have hmem : (kvs.map (·.1))[i]? = some kx := by rw [List.getElem?_map, hkx]; rfl
      rw [hk4] at hmem
      obtain ⟨x, hx, rfl⟩ := map_get hmem
      have hno : valV nk (.inr x) = none := by
        cases e : valV nk (.inr x : Key) with
        | none => rfl
        | some v0 =>
          have := I2 x v0 e
          obtain ⟨j, hj⟩ := List.getElem?_of_mem this
          rw [List.getElem?_take] at hj
          split at hj
          · have := nd_ix knd hj hx
            omega
          · cases hj
      have hi24 : i < 24 := Nat.lt_of_lt_of_le (lt_of_get hx) (by rw [pm.length_eq]; exact G.kl)
      refine ⟨rfl, _, rfl, (by show 0 ≤ sizeLine; exact Nat.zero_le _), fun l hl => ?_⟩
      have nNl : N ≠ l := ne_of_none hN9 hl
      have h8l : H8 l = none := by
        cases e : H8 l with
        | none => rfl
        | some o =>
          by_cases nD : l = D
          · rw [nD, hD9] at hl
            cases hl
          · have := kp9 l o nD e
            rw [hl] at this
            cases this
      refine ⟨nk, .inr x, rfl, by rw [upd_ne nNl]; exact hN9, small1000 (by omega), _, upd_same, ?_, fun b o nb e => ?_, by rw [valV_none_len hno]; omega, fun y hy => ?_, fun y v0 h => ?_, fun y y' v0 h h' => ?_⟩
      · rw [upd_ne nND.symm, upd_ne (ne_of_none hD9 hl)]
        exact hD9
      · have e3 := kp9 b o nb e
        rw [upd_ne (ne_of_none e hN), upd_ne (ne_of_none e3 hl)]
        exact e3
      · rw [take_snoc hx] at hy
        rcases List.mem_append.mp hy with hy | hy
        · obtain ⟨m, h1, h2, h3⟩ := I1 y hy
          have ny : (Sum.inr y : Key) ≠ .inr x := fun e => by
            rw [e, hno] at h1
            cases h1
          refine ⟨m, by rw [valV_put, if_neg ny]; exact h1, h2, ?_⟩
          rw [upd_ne (ne_of h3 hN9 (by intro z; cases z)), upd_ne (ne_of_none h3 hl)]
          exact h3
        · rw [List.mem_singleton] at hy
          subst hy
          exact ⟨l, by rw [valV_put, if_pos rfl], h8l, by rw [upd_ne nNl.symm, upd_same]⟩
      · rw [take_snoc hx]
        rw [valV_put] at h
        by_cases e : (Sum.inr y : Key) = .inr x
        · cases e
          exact List.mem_append.mpr (.inr (List.mem_singleton.mpr rfl))
        · rw [if_neg e] at h
          exact List.mem_append.mpr (.inl (I2 y v0 h))
      · rw [valV_put] at h h'
        have nol : ∀ z v, valV nk (.inr z) = some v → v ≠ .ref l := fun z v hz e => by
          obtain ⟨m, h1, h2, h3⟩ := I1 z (I2 z v hz)
          rw [hz] at h1
          have h1 := Option.some.inj h1
          rw [e] at h1
          rw [← V.ref.inj h1, hl] at h3
          cases h3
        by_cases e : (Sum.inr y : Key) = .inr x
        · by_cases e' : (Sum.inr y' : Key) = .inr x
          · cases e
            cases e'
            rfl
          · rw [if_pos e] at h
            rw [if_neg e'] at h'
            exact absurd (Option.some.inj h).symm (nol _ _ h')
        · by_cases e' : (Sum.inr y' : Key) = .inr x
          · rw [if_neg e] at h
            rw [if_pos e'] at h'
            exact absurd (Option.some.inj h').symm (nol _ _ h)
          · rw [if_neg e] at h
            rw [if_neg e'] at h'
            exact I3 _ _ _ h h'
    rintro H9 ⟨nk, hN9, hD9, kp9, hl9, I1, I2, I3⟩
    refine ⟨hD9, ?_⟩
    rw [hkvl, List.take_length] at I1
    have s89 : Same H8 (upd H9 D (.dK kvs)) := fun b o e => by
      by_cases n : b = D
      · subst n
        rw [hD8] at e
        rw [upd_same]
        exact e
      · rw [upd_ne n]
        exact kp9 b o n e
    have hN10 : (upd H9 D (.dK kvs)) N = some (.dK nk) := by rw [upd_ne nND]; exact hN9
    have R10 : Nr H8 (upd H9 D (.dK kvs)) nk ks (fun _ _ => False) 0 := ⟨fun x hx => by
      obtain ⟨m, h1, h2, h3⟩ := I1 x hx
      exact ⟨m, [], h1, h2, by rw [upd_ne (ne_of h3 hD9 (by intro z; cases z))]; exact h3, Nat.le_refl _, List.nodup_nil, fun y => ⟨fun h => (nomatch h), fun h => h.elim⟩⟩, fun x x' v _ _ h h' => I3 x x' v h h'⟩
    generalize upd H9 D (.dK kvs) = J10 at s89 hN10 R10
    clear hD9 hN9 kp9
    have hh10 := s89 _ _ hh8
    refine ⟨_, rfl, h, C, dx, _, rfl, hh10, T.cl, T.nN, (by show 2 < 1000; decide), ?_⟩
    -- the fields behind
    have x11 : SmX h H8 (upd J10 h (.ins C dx (putF "near" (.ref N) (putF "pairs" (.ref lp) (putF "sizes" (.ref D) []))))) := (SmX.of s89).trans SmX.upd
    have hh11 : (upd J10 h (.ins C dx (putF "near" (.ref N) (putF "pairs" (.ref lp) (putF "sizes" (.ref D) []))))) h = some (.ins C dx (putF "near" (.ref N) (putF "pairs" (.ref lp) (putF "sizes" (.ref D) [])))) := upd_same
    have hN11 : (upd J10 h (.ins C dx (putF "near" (.ref N) (putF "pairs" (.ref lp) (putF "sizes" (.ref D) []))))) N = some (.dK nk) := by rw [upd_ne (ne_of hN10 hh10 (by intro z; cases z))]; exact hN10
    have R11 : Nr H8 (upd J10 h (.ins C dx (putF "near" (.ref N) (putF "pairs" (.ref lp) (putF "sizes" (.ref D) []))))) nk ks (fun _ _ => False) 0 := ⟨fun x hx => by
      obtain ⟨m, zs, h1, h2, h3, h4⟩ := R10.ent x hx
      exact ⟨m, zs, h1, h2, by rw [upd_ne (ne_of h3 hh10 (by intro z; cases z))]; exact h3, h4⟩, R10.inj⟩
    generalize upd J10 h (.ins C dx (putF "near" (.ref N) (putF "pairs" (.ref lp) (putF "sizes" (.ref D) [])))) = J11 at x11 hh11 hN11 R11
    have lfs : ∀ fs, fs = putF "near" (V.ref N) (putF "pairs" (V.ref lp) (putF "sizes" (V.ref D) [])) → fs.lookup ("sizes" : Str) = some (.ref D) ∧ fs.lookup ("pairs" : Str) = some (.ref lp) ∧ fs.lookup ("near" : Str) = some (.ref N) ∧ fs.length ≤ 10 ∧ ∀ m : Str, m ∉ bNames → fs.lookup m = none := by
      rintro fs rfl
      refine ⟨?_, ?_, ?_, ?_, ?_⟩
      · rw [lookup_putF, if_neg (by decide +kernel)]
        exact l7
      · rw [lookup_putF, if_neg (by decide +kernel)]
        exact l7p
      · rw [lookup_putF, if_pos rfl]
      · have h1 := len_putF "near" (V.ref N) (putF "pairs" (V.ref lp) (putF "sizes" (V.ref D) []))
        have h2 := len_putF "pairs" (V.ref lp) (putF "sizes" (V.ref D) [])
        have h3 := len_putF "sizes" (V.ref D) []
        simp only [List.length_nil] at h3
        omega
      · intro m hm
        simp only [bNames, List.mem_cons, List.not_mem_nil, or_false, not_or] at hm
        rw [lookup_putF, if_neg hm.2.2.1]
        exact l7n _ hm.2.1 hm.1
    obtain ⟨f1, f2, f3, f4, f5⟩ := lfs _ rfl
    generalize putF "near" (V.ref N) (putF "pairs" (V.ref lp) (putF "sizes" (V.ref D) [])) = fs at hh11 f1 f2 f3 f4 f5
    have hp11 := x11.lst hh8 hl8
    -- for one, other in self.pairs
    refine ⟨_, rfl, h, C, dx, fs, _, rfl, hh11, T.cl, T.nP, f2, lp, rfl, ⟨_, SqL.of hp11⟩, for_it walk_list (fun i σ H12 => ∃ (u v : Option V), σ = [some (.ref h), some (.ref dz), some (.ref a), u3, u4, u, v, none] ∧ SmX h H8 H12 ∧ H12 h = some (.ins C dx fs) ∧ H12 N = some (.dK nk) ∧ Nr H8 H12 nk ks (Adj ((psort es).take i)) (2 * i))
      ⟨none, none, rfl, x11, hh11, hN11, R11.congr fun x y => ⟨fun h => h.elim, fun h => by simp [Adj] at h⟩⟩ (fun i σ H12 _ ⟨_, _, _, x12, _⟩ => SqL.of (x12.lst hh8 hl8)) ?_ ?_⟩
    · rintro i x σ _ H12 hi ⟨u, v', rfl, x12, hh12, hN12, R12⟩ ⟨rfl, hx⟩
      obtain ⟨t, p, q2, rfl, he, ht⟩ := (x12.pz hh8 P8).get hx
      have hpq := List.mem_of_getElem? he
      obtain ⟨kp, kq⟩ := Gs.inK p q2 hpq
      have npq := Gs.good.ne p q2 hpq
      have hi' : i < 40 := Nat.lt_of_lt_of_le (lt_of_get he) Gs.el
      have hno : ¬ (p, q2) ∈ (psort es).take i := fun m => by
        obtain ⟨j, hj⟩ := List.getElem?_of_mem m
        rw [List.getElem?_take] at hj
        split at hj
        · have := nd_ix Gs.nde hj he
          omega
        · cases hj
      have hno2 : ¬ (q2, p) ∈ (psort es).take i := fun m => Gs.good.anti p q2 hpq (List.mem_of_mem_take m)
      refine ⟨t, _, rfl, SqT.of ht, rfl, _, _, rfl, _, _, rfl, rfl, ?_⟩
      refine apnd_step (x := p) (y := q2) T R12 (by omega) hh12 f3 hN12 rfl rfl rfl kp (fun h => h.elim hno hno2) fun H13 kp13 hh13 hN13 R13 => ?_
      refine apnd_step (x := q2) (y := p) T R13 (by omega) hh13 f3 hN13 rfl rfl rfl kq (fun h => h.elim (fun h => h.elim hno2 hno) (fun h => npq h.1.symm)) fun H14 kp14 hh14 hN14 R14 => ?_
      refine ⟨_, _, rfl, fun b o e nb => kp14 b o (kp13 b o (x12 b o e nb) (by rw [e]; exact fun z => nomatch z)) (by rw [e]; exact fun z => nomatch z), hh14, hN14, ?_⟩
      have e2 : 2 * (i + 1) = 2 * i + 1 + 1 := by omega
      rw [e2]
      exact R14.congr fun x y => (adj_take he x y).symm
    · rintro σ H12 ⟨u, v', rfl, x12, hh12, hN12, R12⟩
      rw [P8.length, List.take_length] at R12
      have hD12 := x12.dK hh8 hD8
      have hl12 := x12.lst hh8 hl8
      have P12 := x12.pz hh8 P8
      -- self.prepare()
      refine ⟨_, rfl, h, dx, _, rfl, hh12, f5 _ (by decide +kernel), h, lp, D, dx, fs, kvs, ks, ys, psort es, rfl, hh12, f4, f1, hD12, f2, SqL.of hl12, P12, Gs.el, Gs.good, hk4, Gs.ne, Gs.nd, Nat.le_trans Gs.kl (by decide), Gs.inK, Gs.cm, fun H15 w1 w2 t zs x15 n1 n2 ht hbr hh15 => ?_⟩
      refine k H15 ((x8.trans x12).trans x15) ?_
      rw [← eks]
      refine ⟨dx, _, D, kvs, lp, ys, N, nk, w1, w2, t, zs, ⟨hh15, ?_, x15.dK hh12 hD12, hk4, ?_, x15.lst hh12 hl12, x15.pz hh12 P12, ?_, x15.dK hh12 hN12, fun x hx => ?_, ?_, n1, ?_, n2, ?_, ht, hbr, fun m hm => ?_⟩⟩
      · rw [lookup_putF, if_neg (by decide +kernel), lookup_putF, if_neg (by decide +kernel), lookup_putF, if_neg (by decide +kernel)]
        exact f1
      · rw [lookup_putF, if_neg (by decide +kernel), lookup_putF, if_neg (by decide +kernel), lookup_putF, if_neg (by decide +kernel)]
        exact f2
      · rw [lookup_putF, if_neg (by decide +kernel), lookup_putF, if_neg (by decide +kernel), lookup_putF, if_neg (by decide +kernel)]
        exact f3
      · obtain ⟨m, ws, h1, h2, h3, h4, h5, h6⟩ := R12.ent x hx
        refine ⟨m, ws, h1, x15.lst hh12 h3, ?_, h5, h6⟩
        have hsub : ∀ y, y ∈ ws → y ∈ ks := fun y hy => ((h6 y).mp hy).elim (fun m => (Gs.inK _ _ m).2) (fun m => (Gs.inK _ _ m).1)
        exact Nat.le_trans (h5.length_le_of_subset hsub) (Nat.le_trans Gs.kl (by decide))
      · rw [lookup_putF, if_neg (by decide +kernel), lookup_putF, if_neg (by decide +kernel), lookup_putF, if_pos rfl]
      · rw [lookup_putF, if_neg (by decide +kernel), lookup_putF, if_pos rfl]
      · rw [lookup_putF, if_pos rfl]
      · have hm' := hm
        simp only [bNames, List.mem_cons, List.not_mem_nil, or_false, not_or] at hm'
        rw [lookup_putF, if_neg hm'.2.2.2.2.2, lookup_putF, if_neg hm'.2.2.2.2.1, lookup_putF, if_neg hm'.2.2.2.1]
        exact f5 m hm
end
end Yf
set_option Elab.async false
set_option linter.all false
set_option maxRecDepth 100000
set_option maxHeartbeats 4000000
/-! W11: what a building is asked: rooms, corridors, sides, bridges, odd_ring, corridor_of, neighbours, bank. -/
namespace Yf
open PySem PySem.Spec PyProof.Rows L2
/-- a property of the class, with its getter's promise -/
structure Prp (P : Program) (w : World) (K : PySem.W.Frag) (mg : Str → Option Value) (base : Heap) (k : Nat) (C : Addr) (f : Str) (sp : Sp) : Prop where
  ex : ∃ (p g : Addr) (fd : FuncData), Cls K C ∧ PropOf K C f p g ∧ FnOk P w K mg base C8.CX0 k g fd ["self"] sp ∧ Binds K fd ["self"] []
theorem pe_pr {X : Cx} {k j : Nat} {C : Addr} {f : Str} {sp : Sp} {e : Expr} {ta : TE} {pos : Pos} (c : Prp X.prog X.w X.K X.mg X.base k C f sp) (hr : Room j X.A) (hk : k + 1 ≤ j) (he : PE X e ta) (hab : attributeBase e f X.env (eval e X.env) = eval e X.env := by rfl) : PE X (.Attribute e f pos) (tProp C sp [] C8.E0 ta) := by
  obtain ⟨p, g, fd, cl, hp, F, b⟩ := c.ex
  exact pe_prop he cl hp F (hr.mono hk) b .nil C8.pass0 hab
def spRooms (C : Addr) : Sp := fun vs H Q _ => ∃ h ks es, vs = [.ref h] ∧ BAt C H h ks es ∧ ∀ H' t, Same H H' → H' t = some (.tup (ks.map V.str)) → Q (.ref t) H'
def spCorrs (C : Addr) : Sp := fun vs H Q _ => ∃ h ks es, vs = [.ref h] ∧ BAt C H h ks es ∧ ∀ H' t ys, Same H H' → H' t = some (.tup ys) → Pz H' ys es → Q (.ref t) H'
def spSd (C : Addr) : Sp := fun vs H Q _ => ∃ h ks es, vs = [.ref h] ∧ BAt C H h ks es ∧ ∀ v, NonIff v (LevG es (smin ks)) → Q v H
def spOd (C : Addr) : Sp := fun vs H Q _ => ∃ h ks es, vs = [.ref h] ∧ BAt C H h ks es ∧ ∀ v, NonIff v (¬ LevG es (smin ks)) → Q v H
def spBr (C : Addr) : Sp := fun vs H Q _ => ∃ h ks es, vs = [.ref h] ∧ BAt C H h ks es ∧ ∀ t ys, H t = some (.tup ys) → BrL H ys es → Q (.ref t) H
/-- the neighbours, in order -/
def nbF (ks : List Str) (es : List (Str × Str)) (x : Str) : List Str := ssort (ks.filter fun y => decide ((x, y) ∈ es) || decide ((y, x) ∈ es))
theorem nbF_mem {ks : List Str} {es : List (Str × Str)} (inK : ∀ p q, (p, q) ∈ es → p ∈ ks ∧ q ∈ ks) (x y : Str) : y ∈ nbF ks es x ↔ Adj es x y := by
  unfold nbF
  rw [mem_ssort, List.mem_filter, Bool.or_eq_true, decide_eq_true_eq, decide_eq_true_eq]
  exact ⟨fun h => h.2, fun h => ⟨h.elim (fun h => (inK _ _ h).2) (fun h => (inK _ _ h).1), h⟩⟩
theorem nbF_nbs {ks : List Str} {es : List (Str × Str)} (G : PGr ks es) : Nbs es ks (nbF ks es) :=
  ⟨nbF_mem G.inK, fun x => (ssort_perm _).nodup_iff.mpr (G.nd.filter _), G.inK⟩
theorem nbF_eq {ks : List Str} {es : List (Str × Str)} (G : PGr ks es) {x : Str} {ys : List Str} (nd : ys.Nodup) (h : ∀ y, y ∈ ys ↔ Adj es x y) : ssort ys = nbF ks es x := by
  unfold nbF
  refine ssort_congr ((List.perm_ext_iff_of_nodup nd (G.nd.filter _)).mpr fun y => ?_)
  rw [h y, ← nbF_mem G.inK x y]
  unfold nbF
  rw [mem_ssort]
def spNeigh (C : Addr) : Sp := fun vs H Q _ => ∃ h ks es x, vs = [.ref h, .str x] ∧ BAt C H h ks es ∧ PGr ks es ∧ x ∈ ks ∧ ∀ H' t, Same H H' → H' t = some (.tup ((nbF ks es x).map V.str)) → Q (.ref t) H'
def spCorr (C : Addr) : Sp := fun vs H Q _ => ∃ h ks es x y, vs = [.ref h, .str x, .str y] ∧ BAt C H h ks es ∧ PGr ks es ∧ Adj es x y ∧ ∀ H' t, Same H H' → H' t = some (.tup [.str (nrm x y).1, .str (nrm x y).2]) → Q (.ref t) H'
def BkV (T : Tb Str) (y : Str) (H : Hp) (v : V) : Prop := (v = .non ∧ y ∈ keys T) ∨ ∃ t, v = .ref t ∧ ¬ y ∈ keys T ∧ H t = some (.tup ((ssort (keys T)).map V.str))
def spBank (C : Addr) : Sp := fun vs H Q _ => ∃ h ks es x y, vs = [.ref h, .str x, .str y] ∧ BAt C H h ks es ∧ PGr ks es ∧ Adj es x y ∧ ∀ H' T v, Same H H' → Bfs (del es (nrm x y)) x T → BkV T y H' v → Q v H'
theorem nrm_mem {ks : List Str} {es : List (Str × Str)} (G : PGr ks es) {x y : Str} (h : Adj es x y) : nrm x y ∈ es := by
  rcases h with h | h
  · rw [nrm_lt (G.ord _ _ h)]
    exact h
  · unfold nrm
    rw [if_neg (by rw [slt_asymm (G.ord _ _ h)]; exact Bool.false_ne_true)]
    exact h
theorem nrm_comm {x y : Str} (h : x ≠ y) : nrm y x = nrm x y := by
  unfold nrm
  rcases slt_cases x y with h1 | h1 | h1
  · rw [if_pos h1, if_neg (by rw [slt_asymm h1]; exact Bool.false_ne_true)]
  · exact absurd h1 h
  · rw [if_pos h1, if_neg (by rw [slt_asymm h1]; exact Bool.false_ne_true)]
theorem bx_in {C h : Addr} {H : Hp} {ks : List Str} {es : List (Str × Str)} {dx : Addr} {fs : List (Str × V)} {dS : Addr} {kvs : List (Key × V)} {p : Addr} {xs : List V} {dN : Addr} {nk : List (Key × V)} {vS vR : V} {tB : Addr} {ys : List V} (B : BX C H h ks es dx fs dS kvs p xs dN nk vS vR tB ys) {x : Str} (hx : x ∈ ks) : (valV kvs (Sum.inr x : Key)).isSome = true := by
  have hin : (Sum.inr x : Key) ∈ kvs.map (·.1) := by rw [B.kS]; exact List.mem_map.mpr ⟨x, hx, rfl⟩
  cases e : valV kvs (Sum.inr x : Key) with
  | some _ => rfl
  | none => exact absurd hin (valV_not e)
theorem scRoomsP : FnScope ["self"] ["self"] (C8.fnScope sRooms) := ⟨rfl, rfl, rfl, by decide +kernel, rfl, by decide +kernel, by decide +kernel⟩
theorem scCorrsP : FnScope ["self"] ["self"] (C8.fnScope sCorridors) := ⟨rfl, rfl, rfl, by decide +kernel, rfl, by decide +kernel, by decide +kernel⟩
theorem scSdP : FnScope ["self"] ["self"] (C8.fnScope sSidesP) := ⟨rfl, rfl, rfl, by decide +kernel, rfl, by decide +kernel, by decide +kernel⟩
theorem scBrP : FnScope ["self"] ["self"] (C8.fnScope sBridgesP) := ⟨rfl, rfl, rfl, by decide +kernel, rfl, by decide +kernel, by decide +kernel⟩
theorem scOdP : FnScope ["self"] ["self"] (C8.fnScope sOddP) := ⟨rfl, rfl, rfl, by decide +kernel, rfl, by decide +kernel, by decide +kernel⟩
theorem scCorrOf : FnScope ["self", "one", "other"] ["self", "one", "other"] (C8.fnScope sCorrOf) := ⟨rfl, rfl, rfl, by decide +kernel, rfl, by decide +kernel, by decide +kernel⟩
theorem scNeigh : FnScope ["self", "room"] ["self", "room"] (C8.fnScope sNeigh) := ⟨rfl, rfl, rfl, by decide +kernel, rfl, by decide +kernel, by decide +kernel⟩
theorem scBank : FnScope ["self", "room", "other", "corridor", "reached", "pair"] ["self", "room", "other"] (C8.fnScope sBank) := ⟨rfl, rfl, rfl, by decide +kernel, rfl, by decide +kernel, by decide +kernel⟩
section
variable {P : Program} {w : World} {K : PySem.W.Frag} {mg : Str → Option Value} {base : Heap}
theorem prp_rooms {C p g : Addr} {fd : FuncData} (T : BTxt K C) (hp : PropOf K C "rooms" p g) (F : C8.Fun K "rooms" "Building.rooms" sRooms g fd) (b : Binds K fd ["self"] []) (z : Bi mg) : Prp P w K mg base 1 C "rooms" (spRooms C) := by
  refine ⟨p, g, fd, T.cl, hp, C8.fn0 F scRoomsP (fun vs H Q E h => ?_) (fun cdv A outer s H vs Q E hr h => ?_), b⟩
  · obtain ⟨h, ks, es, rfl, _⟩ := h
    rfl
  · obtain ⟨h, ks, es, rfl, ⟨dx, fs, dS, kvs, p, xs, dN, nk, vS, vR, tB, ys, B⟩, k⟩ := h
    refine ⟨_, pss_one (ps_ret (pe_callTy (call_tuple_dK rfl) (by rfl) z.tuple (by decide +kernel) (pa_cons (pe_fld (pv 0) rfl) pa_nil))), ?_⟩
    refine ⟨_, rfl, h, C, dx, fs, _, rfl, B.ob, T.cl, T.nS, B.lS, dS, kvs, rfl, B.oS, fun q hq => k _ q (Same.upd_new hq) ?_⟩
    have e := congrArg (List.map kV) B.kS
    rw [List.map_map, List.map_map] at e
    rw [upd_same]
    exact congrArg (fun z => some (HO.tup z)) e
theorem prp_corrs {C p g : Addr} {fd : FuncData} (T : BTxt K C) (hp : PropOf K C "corridors" p g) (F : C8.Fun K "corridors" "Building.corridors" sCorridors g fd) (b : Binds K fd ["self"] []) (z : Bi mg) : Prp P w K mg base 1 C "corridors" (spCorrs C) := by
  refine ⟨p, g, fd, T.cl, hp, C8.fn0 F scCorrsP (fun vs H Q E h => ?_) (fun cdv A outer s H vs Q E hr h => ?_), b⟩
  · obtain ⟨h, ks, es, rfl, _⟩ := h
    rfl
  · obtain ⟨h, ks, es, rfl, ⟨dx, fs, dS, kvs, p, xs, dN, nk, vS, vR, tB, ys, B⟩, k⟩ := h
    refine ⟨_, pss_one (ps_ret (pe_callTy call_tuple_of (by rfl) z.tuple (by decide +kernel) (pa_cons (pe_fld (pv 0) rfl) pa_nil))), ?_⟩
    exact ⟨_, rfl, h, C, dx, fs, _, rfl, B.ob, T.cl, T.nP, B.lP, p, xs, rfl, .inl ⟨SqL.of B.oP, fun q hq => k _ q xs (Same.upd_new hq) upd_same ((Same.upd_new hq).pz B.pP)⟩⟩
theorem prp_sd {C p g : Addr} {fd : FuncData} (T : BTxt K C) (hp : PropOf K C "sides" p g) (F : C8.Fun K "sides" "Building.sides" sSidesP g fd) (b : Binds K fd ["self"] []) : Prp P w K mg base 1 C "sides" (spSd C) := by
  refine ⟨p, g, fd, T.cl, hp, C8.fn0 F scSdP (fun vs H Q E h => ?_) (fun cdv A outer s H vs Q E hr h => ?_), b⟩
  · obtain ⟨h, ks, es, rfl, _⟩ := h
    rfl
  · obtain ⟨h, ks, es, rfl, ⟨dx, fs, dS, kvs, p, xs, dN, nk, vS, vR, tB, ys, B⟩, k⟩ := h
    exact ⟨_, pss_one (ps_ret (pe_fld (pv 0) rfl)), _, rfl, h, C, dx, fs, _, rfl, B.ob, T.cl, T.nA, B.lA, k _ B.iA⟩
theorem prp_od {C p g : Addr} {fd : FuncData} (T : BTxt K C) (hp : PropOf K C "odd_ring" p g) (F : C8.Fun K "odd_ring" "Building.odd_ring" sOddP g fd) (b : Binds K fd ["self"] []) : Prp P w K mg base 1 C "odd_ring" (spOd C) := by
  refine ⟨p, g, fd, T.cl, hp, C8.fn0 F scOdP (fun vs H Q E h => ?_) (fun cdv A outer s H vs Q E hr h => ?_), b⟩
  · obtain ⟨h, ks, es, rfl, _⟩ := h
    rfl
  · obtain ⟨h, ks, es, rfl, ⟨dx, fs, dS, kvs, p, xs, dN, nk, vS, vR, tB, ys, B⟩, k⟩ := h
    exact ⟨_, pss_one (ps_ret (pe_fld (pv 0) rfl)), _, rfl, h, C, dx, fs, _, rfl, B.ob, T.cl, T.nR, B.lR, k _ B.iR⟩
theorem prp_br {C p g : Addr} {fd : FuncData} (T : BTxt K C) (hp : PropOf K C "bridges" p g) (F : C8.Fun K "bridges" "Building.bridges" sBridgesP g fd) (b : Binds K fd ["self"] []) : Prp P w K mg base 1 C "bridges" (spBr C) := by
  refine ⟨p, g, fd, T.cl, hp, C8.fn0 F scBrP (fun vs H Q E h => ?_) (fun cdv A outer s H vs Q E hr h => ?_), b⟩
  · obtain ⟨h, ks, es, rfl, _⟩ := h
    rfl
  · obtain ⟨h, ks, es, rfl, ⟨dx, fs, dS, kvs, p, xs, dN, nk, vS, vR, tB, ys, B⟩, k⟩ := h
    exact ⟨_, pss_one (ps_ret (pe_fld (pv 0) rfl)), _, rfl, h, C, dx, fs, _, rfl, B.ob, T.cl, T.nB, B.lB, k _ ys B.oB B.br⟩
theorem met_neigh {C f : Addr} {fd : FuncData} (F : C8.Fun K "neighbours" "Building.neighbours" sNeigh f fd) (b : Binds K fd ["self", "room"] []) (me : Meth K C "neighbours" f) (z : Bi mg) (T : BTxt K C) (ci : CIn P w K mg base C) : C8.Met P w K mg base 3 C "neighbours" (spNeigh C) [] := by
  obtain ⟨fi, fdi, sI, GI, bI⟩ := ci.ex
  refine C8.met0 T.cl me F b scNeigh (fun vs H Q E h => ?_) (fun cdv A outer s H vs Q E hr h => ?_)
  · obtain ⟨h, ks, es, x, rfl, _⟩ := h
    rfl
  · obtain ⟨h, ks, es, x, rfl, ⟨dx, fs, dS, kvs, p, xs, dN, nk, vS, vR, tB, ys, B⟩, G, hx, k⟩ := h
    have hu := hu_of hr
    refine ⟨_, pss_cons (ps_if (pt_cmpR (op_notInOwn sI GI hr bI) (pv 1) (pv 0) (by rfl)) (pss_one ps_never) pss_nil)
      (pss_one (ps_ret (pe_callTy call_tuple_of (by rfl) z.tuple (by decide +kernel) (pa_cons (pe_callB cr_sortedS (by rfl) z.sorted (by decide +kernel) (pa_cons (pe_dget hu (pe_fld (pv 0) rfl) (pv 1) (fun _ _ => rfl)) pa_nil)) pa_nil)))), ?_⟩
    refine ⟨_, rfl, _, rfl, h, dx, fs, rfl, B.ob, h, dS, dx, fs, kvs, x, rfl, B.ob, B.lS, .inl B.oS, G.nm x hx, bx_in B hx, fun H1 s1 => ⟨true, rfl, _, rfl, iteF ?_⟩⟩
    have B1 := B.same s1
    obtain ⟨l, ws, h1, h2, h3, h4, h5⟩ := B1.near x hx
    refine ⟨_, rfl, h, C, dx, fs, _, rfl, B1.ob, T.cl, T.nN, B1.lN, _, rfl, dN, .ref l, rfl, (by rw [← h1]; exact DGet.k (k := Sum.inr x) B1.oN), l, ws, rfl, SqL.of h2, by omega, fun zs q pm srt hq => ?_⟩
    refine ⟨q, _, rfl, .inl ⟨SqL.of upd_same, fun t ht => ?_⟩⟩
    have e : zs = nbF ks es x := (ssort_of pm srt).trans (nbF_eq G h4 h5)
    rw [← e] at k
    exact k _ t ((s1.to_new hq).to_new ht) upd_same
theorem met_corr {C f fp : Addr} {fd fdp : FuncData} (F : C8.Fun K "corridor_of" "Building.corridor_of" sCorrOf f fd) (b : Binds K fd ["self", "one", "other"] []) (me : Meth K C "corridor_of" f) (T : BTxt K C) (ci : CIn P w K mg base C) (cP : C8.Cal P w K mg base 1 "pair_of" spPair []) : C8.Met P w K mg base 3 C "corridor_of" (spCorr C) [] := by
  obtain ⟨fi, fdi, sI, GI, bI⟩ := ci.ex
  refine C8.met0 T.cl me F b scCorrOf (fun vs H Q E h => ?_) (fun cdv A outer s H vs Q E hr h => ?_)
  · obtain ⟨h, ks, es, x, y, rfl, _⟩ := h
    rfl
  · obtain ⟨h, ks, es, x, y, rfl, ⟨dx, fs, dS, kvs, p, xs, dN, nk, vS, vR, tB, ys, B⟩, G, ad, k⟩ := h
    have hu := hu_of hr
    have hx : x ∈ ks := ad.elim (fun h => (G.inK _ _ h).1) (fun h => (G.inK _ _ h).2)
    have hy : y ∈ ks := ad.elim (fun h => (G.inK _ _ h).2) (fun h => (G.inK _ _ h).1)
    refine ⟨_, pss_cons (ps_if (PW.pt (pw_or (pt_cmpR (op_notInOwn sI GI hr bI) (pv 1) (pv 0) (by rfl)) (pw_or (pt_cmpR (op_notInOwn sI GI hr bI) (pv 2) (pv 0) (by rfl))
        (pw_or1 (pt_cmpR (op_notInD (hu65 hr)) (C8.pe_c cP hr (by decide) (by rfl) (pa_cons (pv 1) (pa_cons (pv 2) pa_nil))) (pe_fld (pv 0) rfl) (by rfl)))))) (pss_one ps_never) pss_nil)
      (pss_one (ps_ret (C8.pe_c cP hr (by decide) (by rfl) (pa_cons (pv 1) (pa_cons (pv 2) pa_nil))))), ?_⟩
    refine ⟨_, rfl, _, rfl, h, dx, fs, rfl, B.ob, h, dS, dx, fs, kvs, x, rfl, B.ob, B.lS, .inl B.oS, G.nm x hx, bx_in B hx, fun H1 s1 => ⟨true, rfl, _, rfl, iteF ?_⟩⟩
    have B1 := B.same s1
    refine ⟨_, rfl, _, rfl, h, dx, fs, rfl, B1.ob, h, dS, dx, fs, kvs, y, rfl, B1.ob, B1.lS, .inl B1.oS, G.nm y hy, bx_in B hy, fun H2 s2 => ⟨true, rfl, _, rfl, iteF ?_⟩⟩
    have B2 := B1.same s2
    refine ⟨_, rfl, _, rfl, x, y, rfl, fun H3 t s3 h0 ht => ?_⟩
    have B3 := B2.same s3
    have hm := nrm_mem G ad
    have hk := G.inK _ _ hm
    refine ⟨_, rfl, h, C, dx, fs, _, rfl, B3.ob, T.cl, T.nP, B3.lP, pD (nrm x y), es.map pD, dp_pair ht, .lst (SqL.of B3.oP) (dp_pairs B3.pP), shaped_pair (G.nm _ hk.1) (G.nm _ hk.2), shaped_pairs (fun e he => ⟨G.nm _ (G.inK e.1 e.2 he).1, G.nm _ (G.inK e.1 e.2 he).2⟩), _, rfl, ?_⟩
    rw [any_pD, decide_eq_true hm]
    refine iteF ?_
    exact ⟨_, rfl, _, rfl, x, y, rfl, fun H4 t4 s4 h04 ht4 => k H4 t4 (((s1.trans s2).trans s3).trans s4) ht4⟩
end
end Yf
set_option Elab.async false
set_option linter.all false
set_option maxRecDepth 100000
set_option maxHeartbeats 4000000
/-! W12: bank. -/
namespace Yf
open PySem PySem.Spec PyProof.Rows L2
section
variable {P : Program} {w : World} {K : PySem.W.Frag} {mg : Str → Option Value} {base : Heap}
theorem bfs_len {ks : List Str} {es fs : List (Str × Str)} (G : PGr ks es) {x : Str} (hx : x ∈ ks) {T : Tb Str} (B : Bfs fs x T) (sub : ∀ e, e ∈ fs → e ∈ es) : (keys T).length ≤ 24 := by
  refine Nat.le_trans (B.nd.length_le_of_subset fun v hv => ?_) G.kl
  exact ((B.mem.mp hv).mono sub).keep (P := fun v => v ∈ ks) (fun a b ad _ => ad.elim (fun h => (G.inK _ _ h).2) (fun h => (G.inK _ _ h).1)) hx
theorem met_bank {C f c : Addr} {fd : FuncData} (F : C8.Fun K "bank" "Building.bank" sBank f fd) (b : Binds K fd ["self", "room", "other"] []) (me : Meth K C "bank" f) (z : Bi mg) (T : BTxt K C) (hc : ∀ H, SqT K H c []) (mC : C8.Met P w K mg base 3 C "corridor_of" (spCorr C) [])
    (cR : C8.Cal P w K mg base 3 "reached_from" (spReached K) [.ref c]) : C8.Met P w K mg base 4 C "bank" (spBank C) [] := by
  refine C8.met0 T.cl me F b scBank (fun vs H Q E h => ?_) (fun cdv A outer s H vs Q E hr h => ?_)
  · obtain ⟨h, ks, es, x, y, rfl, _⟩ := h
    rfl
  · obtain ⟨h, ks, es, x, y, rfl, BA, G, ad, k⟩ := h
    have hu := hu_of hr
    have hx : x ∈ ks := ad.elim (fun h => (G.inK _ _ h).1) (fun h => (G.inK _ _ h).2)
    refine ⟨_, pss_cons (ps_set (i := 3) scBank.nd rfl (Or.inr rfl) (C8.pe_mt mC hr (by decide) (pv 0) (pa_cons (pv 1) (pa_cons (pv 2) pa_nil))))
      (pss_cons (ps_set (i := 4) scBank.nd rfl (Or.inl rfl) (C8.pe_c cR hr (by decide) (by rfl) (pa_cons (pv 1) (pa_cons (pe_lc (own := [("pair", 5)]) (g := gName 5) (tt := tTest (tOp (rNeD K) (tVar 5) (tVar 3))) (te := tVar 5) rfl scBank.nd (pi_list (pe_fld (pv 0) rfl))
          (blkOk_by (N := ["self", "room", "other", "corridor", "reached", "pair"]) (sc := C8.fnScope sBank) (own := [("pair", 5)]) (by decide +kernel)) (fun _ _ _ _ _ => pg_name (i := 5) scBank.nd rfl (Or.inl rfl))
          (fun _ _ _ _ _ => pts_one (pt_cmpR (op_neD hr.units) (pv 5) (pv 3) (nomark _))) (fun _ _ _ _ _ => pv 5)) pa_nil))))
      (pss_one (ps_ret (pe_ifExp (pt_cmpR op_in_seq (pv 2) (pv 4) (by rfl)) pe_non (pe_callTy call_tuple_of (by rfl) z.tuple (by decide +kernel) (pa_cons (pe_callB cr_sortedS (by rfl) z.sorted (by decide +kernel) (pa_cons (pv 4) pa_nil)) pa_nil)))))), ?_⟩
    obtain ⟨dx, fs, dS, kvs, p, xs, dN, nk, vS, vR, tB, ys, B⟩ := id BA
    have nocor : fs.lookup ("corridor_of" : Str) = none := B.noM _ (by decide +kernel)
    refine ⟨_, rfl, h, dx, fs, rfl, B.ob, nocor, _, rfl, _, rfl, h, ks, es, x, y, rfl, BA, G, ad, fun H1 t s1 ht => ?_⟩
    have B1 := B.same s1
    have hm := nrm_mem G ad
    have hk := G.inK _ _ hm
    have el := G.el
    refine ⟨_, rfl, _, rfl, h, C, dx, fs, _, rfl, B1.ob, T.cl, T.nP, B1.lP, p, rfl, ⟨_, SqL.of B1.oP⟩, fun D hD => lc_it walk_list (fun i H2 => ∃ zs, Same H1 H2 ∧ H2 D = some (.lst zs) ∧ Pz H2 zs (del (es.take i) (nrm x y)) ∧ zs.length ≤ i)
      ⟨[], Same.upd_new hD, upd_same, by simp [del]; exact .nil, Nat.le_refl _⟩ (fun i H2 _ ⟨_, s2, _⟩ => SqL.of (s2 _ _ B1.oP)) ?_ ?_⟩
    · rintro i v _ H2 hi ⟨zs, s2, hD2, P2, hl2⟩ ⟨rfl, hv⟩
      obtain ⟨t2, a, b', rfl, he, ht2⟩ := (s2.pz B1.pP).get hv
      obtain ⟨ka, kb⟩ := G.inK a b' (List.mem_of_getElem? he)
      have hi40 : i < 40 := Nat.lt_of_lt_of_le (lt_of_get he) el
      refine ⟨rfl, _, rfl, _, rfl, pD (a, b'), pD (nrm x y), dp_pair ht2, dp_pair (s2 _ _ ht), shaped_pair (G.nm _ ka) (G.nm _ kb), shaped_pair (G.nm _ hk.1) (G.nm _ hk.2), _, rfl, ?_⟩
      rw [pD_eqv]
      have e1 : del (es.take (i + 1)) (nrm x y) = del (es.take i) (nrm x y) ++ (if (a, b') ≠ nrm x y then [(a, b')] else []) := by
        unfold del
        rw [take_snoc he, List.filter_append]
        congr 1
        by_cases e : (a, b') = nrm x y
        · simp [e]
        · simp [e]
      by_cases e : (a, b') = nrm x y
      · rw [decide_eq_true e]
        refine iteF ⟨zs, s2, hD2, ?_, by omega⟩
        rw [e1, if_neg (fun n => n e), List.append_nil]
        exact P2
      · rw [decide_eq_false e]
        refine iteT ⟨_, rfl, zs, hD2, small1000 (by omega), _, s2.to_own hD, upd_same, ?_, ?_⟩
        · rw [e1, if_pos e]
          have P3 : Pz (upd H2 D (.lst (zs ++ [.ref t2]))) zs (del (es.take i) (nrm x y)) := P2.mono fun x zs e => by
            rw [upd_ne (ne_of e hD2 (by intro z; cases z))]
            exact e
          exact P3.snoc (by rw [upd_ne (ne_of ht2 hD2 (by intro z; cases z))]; exact ht2)
        · rw [List.length_append]
          exact Nat.succ_le_succ hl2
    · rintro H2 ⟨zs, s2, hD2, P2, hl2⟩
      rw [B1.pP.length, List.take_length] at P2
      have sub : ∀ e, e ∈ del es (nrm x y) → e ∈ es := fun e h => (mem_del.mp h).1
      have dl : (del es (nrm x y)).length ≤ 40 := Nat.le_trans (List.length_filter_le _ _) el
      refine ⟨x, D, c, zs, del es (nrm x y), rfl, SqL.of hD2, P2, dl, fun p q h => G.good.ne p q (sub _ h), hc _, fun H3 l TT s3 hl3 B3 hT3 => ?_⟩
      have s13 := (s1.trans s2).trans s3
      have k24 := bfs_len G hx B3 sub
      refine ⟨_, rfl, _, rfl, l, _, rfl, .inl (SqL.of hl3), rfl, (by simp [flatV]), _, rfl, ?_⟩
      have hin : inV (V.str y) ((keys TT).map V.str) = decide (y ∈ keys TT) := by
        unfold inV
        by_cases m : y ∈ keys TT
        · rw [decide_eq_true m, List.any_eq_true]
          exact ⟨.str y, List.mem_map.mpr ⟨y, m, rfl⟩, by simp [eqV]⟩
        · rw [decide_eq_false m, List.any_eq_false]
          intro u hu
          obtain ⟨q, hq, rfl⟩ := List.mem_map.mp hu
          have : q ≠ y := fun e => m (e ▸ hq)
          simp [eqV, this]
      show if (inV (V.str y) ((keys TT).map V.str)) = true then _ else _
      rw [hin]
      by_cases m : y ∈ keys TT
      · rw [decide_eq_true m]
        exact iteT (k H3 TT .non s13 B3 (.inl ⟨rfl, m⟩))
      · rw [decide_eq_false m]
        refine iteF ⟨_, rfl, l, _, rfl, SqL.of hl3, by omega, fun ws q pm srt hq => ⟨q, _, rfl, .inl ⟨SqL.of upd_same, fun t5 ht5 => ?_⟩⟩⟩
        refine k _ TT (.ref t5) ((s13.to_new hq).to_new ht5) B3 (.inr ⟨t5, rfl, m, ?_⟩)
        rw [upd_same, ssort_of pm srt]
end
end Yf
set_option Elab.async false
set_option linter.all false
set_option maxRecDepth 100000
set_option maxHeartbeats 4000000
/-! W13: the generators paths_on, paths. -/
namespace Yf
open PySem PySem.Spec PyProof.Rows L2 GenW
/-- a for over a walk, in a generator -/
theorem for_itG {J : It} {n : Nat} {Gh : Hp → Prop} {Yw : Nat → Hp → V → Hp → Prop} (w : Walk J n Gh Yw) {gt : TG} {tb : TGn} {G : Gp} {D : GEn} {j0 : Nat} {σ : L2.St} {H : Hp} (Pv : Nat → Nat → L2.St → Hp → Prop) (h0 : Pv 0 j0 σ H) (hG : ∀ i j σ H, i ≤ n → Pv i j σ H → Gh H)
    (hs : ∀ i x j σ H H', i < n → Pv i j σ H → Yw i H x H' → gt x σ H' fun σ2 H2 => tb G { D with nx := Pv (i + 1), ct := Pv (i + 1), bk := D.nx } j σ2 H2) (hd : ∀ j σ H, Pv n j σ H → D.nx j σ H) :
    ∃ W : Nat → Nat → Nat → L2.St → Hp → Prop, (∃ m, W 0 m j0 σ H) ∧ ∀ i m j σ H, W i m j σ H →
      (J.stop i H ∧ D.nx j σ H) ∨ (J.go i H ∧ ∃ N : Nat → L2.St → Hp → Prop, (∀ j' σ' H', N j' σ' H' → ∃ m', m' < m ∧ W (i + 1) m' j' σ' H') ∧ ∀ x H', J.yld i H x H' → gt x σ H' fun σ2 H2 => tb G { D with nx := N, ct := N, bk := D.nx } j σ2 H2) := by
  refine ⟨fun i m j σ H => m = n - i ∧ i ≤ n ∧ Pv i j σ H, ⟨n, by simp, Nat.zero_le _, h0⟩, ?_⟩
  rintro i m j σ H ⟨rfl, hi, p⟩
  have q := hG i j σ H hi p
  by_cases hlt : i < n
  · exact .inr ⟨w.goes i H hlt q, Pv (i + 1), fun j' σ' H' p' => ⟨n - (i + 1), by omega, rfl, hlt, p'⟩, fun x H' y => hs i x j σ H H' hlt p (w.yields i H x H' hlt q y)⟩
  · have e : i = n := by omega
    subst e
    exact .inl ⟨w.stops H q, hd j σ H p⟩
abbrev nPO : List Str := ["self", "rooms", "last", "room"]
theorem scPO : GScope nPO ["self", "rooms", "last"] (C8.fnScope sPathsOn) := ⟨rfl, rfl, rfl, by decide +kernel, rfl, by decide +kernel, by decide +kernel⟩
theorem scP : GScope ["self", "first", "last", "room"] ["self", "first", "last"] (C8.fnScope sPaths) := ⟨rfl, rfl, rfl, by decide +kernel, rfl, by decide +kernel, by decide +kernel⟩
/-- what is handed out: walks over vis and on -/
def OutP (CW : Addr) (H : Hp) (vis : List Str) (L : List (List Str)) (O : Nat → V → Hp → Prop) : Prop := ∀ i z H' ext, Same H H' → L[i]? = some ext → WalkAt CW H' z (vis ++ ext) → O i (.ref z) H'
def spPO (K : PySem.W.Frag) (C CW : Addr) (n : Nat) : SpN := fun vs H N O F => ∃ (h a : Addr) (ks : List Str) (es : List (Str × Str)) (pre : List Str) (cur last : Str), vs = [.ref h, .ref a, .str last] ∧ BAt C H h ks es ∧ PGr ks es ∧ SqT K H a ((pre ++ [cur]).map V.str) ∧ (pre ++ [cur]).Nodup ∧ (∀ x, x ∈ pre ++ [cur] → x ∈ ks) ∧
  ks.length < (pre ++ [cur]).length + n ∧ N = (Ex (nbF ks es) last n (pre ++ [cur]) cur).length ∧ OutP CW H (pre ++ [cur]) (Ex (nbF ks es) last n (pre ++ [cur]) cur) O ∧ ∀ H', Same H H' → F H'
/-- what a generator def's text gives -/
structure GFun (K : PySem.W.Frag) (x qual : Str) (st : Stmt) (f : Addr) (fd : FuncData) : Prop where
  fn : C8.Fun K x qual st f fd
section
variable {P : Program} {w : World} {K : PySem.W.Frag} {mg : Str → Option Value} {base : Heap}
theorem po_ok {C CW f fw : Addr} {fd : FuncData} (F : C8.Fun K "paths_on" "Building.paths_on" sPathsOn f fd) (b : Binds K fd ["self", "rooms", "last"] []) (me : Meth K C "paths_on" f) (T : BTxt K C) (mN : C8.Met P w K mg base 3 C "neighbours" (spNeigh C) []) (M : Mk K CW fw) (W : FnR P w K mg base C8.CX0 3 fw (spW K CW)) (mw : mg "Walk" = some (.ref CW)) :
    ∀ n, GFn2 P w K mg base (5 + 2 * n) f fd ["self", "rooms", "last"] (spPO K C CW n)
  | 0 => by
    refine ⟨fun vs H N O Fx hs => ?_, fun A outer s H args us vs N O Fx hr e0 hb r hs => ?_⟩
    · obtain ⟨h, a, ks, es, pre, cur, last, rfl, _⟩ := hs
      rfl
    · obtain ⟨h, a, ks, es, pre, cur, last, rfl, BA, G, hT, nd, hin, hlt, _⟩ := hs
      have := nd.length_le_of_subset hin
      omega
  | n + 1 => by
    have ih := po_ok F b me T mN M W mw n
    obtain ⟨oc, od, dV, kV, doc, pm, an, cdv, ct, osl, rfl, lk, hcd⟩ := F.ex
    refine gfn2_of (k := 5 + 2 * n + 1) lk hcd scPO (fun vs H N O Fx hs => ?_) (fun A outer s H vs N O Fx Cs hr hs => ?_)
    · obtain ⟨h, a, ks, es, pre, cur, last, rfl, _⟩ := hs
      rfl
    · obtain ⟨h, a, ks, es, pre, cur, last, rfl, BA, G, hT, nd, hin, hlt, rfl, hO, hF⟩ := hs
      refine ⟨_, gss_one (gs_if (pt_cmpR op_eq (pe_ix ix_tup (pv 1) (pe_un un_neg pe_int) (fun _ _ => rfl)) (pv 2) (nomark _))
        (gss_one (gs_yield (pe_makeS (E := C8.E0) M W (hr.mono (by omega)) (by rfl) mw C8.pass0 (pv 1))))
        (gss_one (gs_for rfl (pi_tup (C8.pe_mt mN hr (by omega) (pv 0) (pa_cons (pe_ix ix_tup (pv 1) (pe_un un_neg pe_int) (fun _ _ => rfl)) pa_nil))) (pg_name (i := 3) scPO.nd rfl (Or.inl rfl))
          (gss_one (gs_if (pt_cmpR op_notIn_seq (pv 3) (pv 1) (by rfl))
            (gss_one (gs_yieldFrom2 (pgen3_meth (pv 0) T.cl me ih (hr.mono (by omega)) b (pa_cons (pe_tup (StX.pa_star (pv 1) (pa_cons (pv 3) pa_nil))) (pa_cons (pv 2) pa_nil))) (room_in1 hr)))
            gss_nil))))), fun g => ?_⟩
      -- rooms[-1] == last
      have hT' : SqT K H a (pre.map V.str ++ [V.str cur]) := by
        rw [List.map_append] at hT
        exact hT
      have hvl : (pre ++ [cur]).length ≤ 24 := Nat.le_trans (nd.length_le_of_subset hin) G.kl
      have hcur : cur ∈ ks := hin cur (List.mem_append.mpr (.inr (List.mem_singleton.mpr rfl)))
      refine ⟨_, rfl, _, rfl, a, _, _, _, rfl, rfl, hT', atI_last _ _, _, rfl, rfl, _, rfl, ?_⟩
      by_cases e : cur = last
      · subst e
        have hE : Ex (nbF ks es) cur (n + 1) (pre ++ [cur]) cur = [[]] := by
          unfold Ex
          rw [if_pos rfl]
        rw [hE] at hO ⊢
        rw [decide_eq_true rfl]
        refine iteT ⟨Nat.zero_lt_one, _, rfl, a, _, rfl, .inl hT, fun z dx hz hdx ne => ?_⟩
        have s1 : Same H (upd (upd H dx (.own z)) z (.ins CW dx [])) := fun b o eb => by
          rw [upd_ne (ne_of_none eb hz), upd_ne (ne_of_none eb hdx)]
          exact eb
        refine ⟨[.ref z], (pre ++ [cur]).map V.str, rfl, rfl, by rw [List.length_map]; exact Nat.le_of_lt (small1000 (by omega)), fun p hp => ?_⟩
        have nzp : z ≠ p := fun q => by
          rw [← q, upd_same] at hp
          cases hp
        refine ⟨z, p, dx, pre ++ [cur], rfl, by rw [upd_ne nzp, upd_same], SqT.of upd_same, fun x hx => G.nm x (hin x hx), nd, by simp, by omega, fun H' kp wk => ⟨rfl, ?_⟩⟩
        have s2 : Same H H' := fun b o eb => kp b o (by rw [upd_ne (ne_of_none (s1 b o eb) hp)]; exact s1 b o eb) (ne_of_none eb hz)
        exact ⟨hO 0 z H' [] s2 rfl (by rw [List.append_nil]; exact wk), rfl, hF H' s2⟩
      · have hE : Ex (nbF ks es) last (n + 1) (pre ++ [cur]) cur = (nbF ks es cur).flatMap fun r => if r ∈ pre ++ [cur] then [] else (Ex (nbF ks es) last n (pre ++ [cur] ++ [r]) r).map (r :: ·) := by
          conv => lhs; unfold Ex
          rw [if_neg e]
        rw [hE] at hO ⊢
        generalize hf : (fun r => if r ∈ pre ++ [cur] then [] else (Ex (nbF ks es) last n (pre ++ [cur] ++ [r]) r).map (r :: ·)) = fr at hO ⊢
        rw [decide_eq_false fun q => e (V.str.inj q)]
        obtain ⟨dx, fs, dS, kvs, p, xs, dN, nk, vS, vR, tB, ys, B⟩ := id BA
        refine iteF ⟨_, rfl, h, dx, fs, rfl, B.ob, B.noM _ (by decide +kernel), _, rfl, _, rfl, a, _, _, _, rfl, rfl, hT', atI_last _ _, h, ks, es, cur, rfl, BA, G, hcur, fun H1 t s1 ht => ⟨t, rfl, ⟨_, SqT.of ht⟩, ?_⟩⟩
        refine for_itG walk_tup (fun i j σ H2 => ∃ u, σ = [some (.ref h), some (.ref a), some (.str last), u] ∧ Same H1 H2 ∧ j = (((nbF ks es cur).take i).flatMap fr).length) ⟨none, rfl, Same.refl _, rfl⟩ (fun i j σ H2 _ ⟨_, _, s2, _⟩ => SqT.of (s2 _ _ ht)) ?_ ?_
        · rintro i x j σ _ H2 hi ⟨u, rfl, s2, rfl⟩ ⟨rfl, hx⟩
          obtain ⟨r, hr0, rfl⟩ := map_get hx
          have hrk : r ∈ nbF ks es cur := List.mem_of_getElem? hr0
          have had : Adj es cur r := (nbF_mem G.inK cur r).mp hrk
          have hrks : r ∈ ks := had.elim (fun h => (G.inK _ _ h).2) (fun h => (G.inK _ _ h).1)
          have s12 := s1.trans s2
          have hsplit : (nbF ks es cur).flatMap fr = ((nbF ks es cur).take i).flatMap fr ++ (fr r ++ ((nbF ks es cur).drop (i + 1)).flatMap fr) := by
            conv => lhs; rw [← List.take_append_drop (i + 1) (nbF ks es cur)]
            rw [List.flatMap_append, take_snoc hr0, List.flatMap_append, List.append_assoc]
            simp
          have htk : (((nbF ks es cur).take (i + 1)).flatMap fr).length = (((nbF ks es cur).take i).flatMap fr).length + (fr r).length := by
            rw [take_snoc hr0, List.flatMap_append, List.length_append]
            simp
          have hinV : inV (V.str r) ((pre ++ [cur]).map V.str) = decide (r ∈ pre ++ [cur]) := by
            unfold inV
            by_cases m : r ∈ pre ++ [cur]
            · rw [decide_eq_true m, List.any_eq_true]
              exact ⟨.str r, List.mem_map.mpr ⟨r, m, rfl⟩, by simp [eqV]⟩
            · rw [decide_eq_false m, List.any_eq_false]
              intro u hu
              obtain ⟨q, hq, rfl⟩ := List.mem_map.mp hu
              have : q ≠ r := fun e => m (e ▸ hq)
              simp [eqV, this]
          refine ⟨_, rfl, _, rfl, a, _, rfl, .inr (s12.tup hT), rfl, (by rw [List.all_eq_true]; intro v hv; obtain ⟨q, _, rfl⟩ := List.mem_map.mp hv; rfl), _, rfl, ?_⟩
          show if (!inV (V.str r) ((pre ++ [cur]).map V.str)) = true then _ else _
          rw [hinV]
          by_cases m : r ∈ pre ++ [cur]
          · rw [decide_eq_true m]
            refine iteF ⟨_, rfl, s2, ?_⟩
            rw [htk, ← hf]
            show _ = _ + (if r ∈ pre ++ [cur] then [] else _).length
            rw [if_pos m]
            rfl
          · rw [decide_eq_false m]
            have hfr : fr r = (Ex (nbF ks es) last n (pre ++ [cur] ++ [r]) r).map (r :: ·) := by
              rw [← hf]
              exact if_neg m
            refine iteT ⟨(Ex (nbF ks es) last n (pre ++ [cur] ++ [r]) r).length, ?_, ?_⟩
            · show _ ≤ ((nbF ks es cur).flatMap fr).length
              rw [hsplit, List.length_append, List.length_append, hfr, List.length_map]
              omega
            refine ⟨_, rfl, h, dx, fs, rfl, s12 _ _ B.ob, B.noM _ (by decide +kernel), _, rfl, a, _, rfl, .inl (s12.tup hT), _, rfl, by rw [List.length_append, List.length_map]; exact Nat.le_of_lt (small1000 (by show (pre ++ [cur]).length + 1 ≤ 1000; omega)), fun t2 ht2 => ?_⟩
            have s3 := s12.to_new (o := .tup ((pre ++ [cur]).map V.str ++ [.str r])) ht2
            refine ⟨_, rfl, h, t2, ks, es, pre ++ [cur], r, last, rfl, BA.same s3, G, SqT.of ?_, nd_snoc1 nd m, fun x hx => ?_, ?_, rfl, fun i2 z H' ext s' he wk => ?_, fun H' s' => ?_⟩
            · rw [upd_same, List.map_append (l₂ := [r])]
              rfl
            · rcases List.mem_append.mp hx with hx | hx
              · exact hin x hx
              · rw [List.mem_singleton.mp hx]
                exact hrks
            · rw [List.length_append (bs := [r])]
              simp only [List.length_cons, List.length_nil] at *
              omega
            · refine hO _ z H' (r :: ext) (s3.trans s') ?_ (by rw [List.append_assoc] at wk; exact wk)
              rw [hsplit, List.getElem?_append_right (Nat.le_add_right _ _), Nat.add_sub_cancel_left, List.getElem?_append_left (by rw [hfr, List.length_map]; exact lt_of_get he), hfr, List.getElem?_map, he]
              rfl
            · refine ⟨_, rfl, (s2.to_new ht2).trans s', ?_⟩
              rw [htk, hfr, List.length_map]
        · rintro j σ H2 ⟨u, rfl, s2, rfl⟩
          rw [List.length_map, List.take_length]
          exact ⟨rfl, hF H2 (s1.trans s2)⟩
end
end Yf
set_option Elab.async false
set_option linter.all false
set_option maxRecDepth 100000
set_option maxHeartbeats 4000000
/-! W14: paths. -/
namespace Yf
open PySem PySem.Spec PyProof.Rows L2 GenW
def spPaths (C CW : Addr) : SpN := fun vs H N O F => ∃ (h : Addr) (ks : List Str) (es : List (Str × Str)) (first last : Str), vs = [.ref h, .str first, .str last] ∧ BAt C H h ks es ∧ PGr ks es ∧ ks.length ≤ 6 ∧ first ∈ ks ∧ last ∈ ks ∧
  N = (Ex (nbF ks es) last 6 [first] first).length ∧ OutP CW H [first] (Ex (nbF ks es) last 6 [first] first) O ∧ ∀ H', Same H H' → F H'
theorem OutP.same {CW : Addr} {H H' : Hp} {vis : List Str} {L : List (List Str)} {O : Nat → V → Hp → Prop} (h : OutP CW H vis L O) (s : Same H H') : OutP CW H' vis L O := fun i z H2 ext s2 => h i z H2 ext (s.trans s2)
section
variable {P : Program} {w : World} {K : PySem.W.Frag} {mg : Str → Option Value} {base : Heap}
theorem paths_ok {C CW f fo : Addr} {fd fdo : FuncData} (F : C8.Fun K "paths" "Building.paths" sPaths f fd) (T : BTxt K C) (ci : CIn P w K mg base C) (mo : Meth K C "paths_on" fo) (Fo : GFn2 P w K mg base 17 fo fdo ["self", "rooms", "last"] (spPO K C CW 6)) (bo : Binds K fdo ["self", "rooms", "last"] []) :
    GFn2 P w K mg base 19 f fd ["self", "first", "last"] (spPaths C CW) := by
  obtain ⟨fi, fdi, sI, GI, bI⟩ := ci.ex
  obtain ⟨oc, od, dV, kV, doc, pm, an, cdv, ct, osl, rfl, lk, hcd⟩ := F.ex
  refine gfn2_of (k := 18) lk hcd scP (fun vs H N O Fx hs => ?_) (fun A outer s H vs N O Fx Cs hr hs => ?_)
  · obtain ⟨h, ks, es, first, last, rfl, _⟩ := hs
    rfl
  · obtain ⟨h, ks, es, first, last, rfl, BA, G, hk6, h1, h2, rfl, hO, hF⟩ := hs
    obtain ⟨dx, fs, dS, kvs, p, xs, dN, nk, vS, vR, tB, ys, B⟩ := id BA
    refine ⟨_, gss_cons (gs_ps (ps_for PassesOwn.never rfl (pi_tup (pe_tup (pa_cons (pv 1) (pa_cons (pv 2) pa_nil)))) (pg_name (i := 3) scP.nd rfl (Or.inl rfl)) (pss_one (ps_if (pt_cmpR (op_notInOwn sI GI (hr.mono (by decide)) bI) (pv 3) (pv 0) (by rfl)) (pss_one ps_never) pss_nil))))
      (gss_one (gs_yieldFrom2 (pgen3_meth (pv 0) T.cl mo Fo (hr.mono (by decide)) bo (pa_cons (pe_tup (pa_cons (pv 1) pa_nil)) (pa_cons (pv 2) pa_nil))) (room_in1 hr))), fun g => ?_⟩
    refine ⟨_, rfl, _, rfl, (by show 2 ≤ sizeLine; decide), fun t ht => ?_⟩
    have s0 := Same.upd_new (o := .tup [.str first, .str last]) ht
    refine ⟨t, rfl, ⟨_, SqT.of upd_same⟩, for_it walk_tup (fun i σ H2 => ∃ u, σ = [some (.ref h), some (.str first), some (.str last), u] ∧ Same H H2 ∧ H2 t = some (.tup [.str first, .str last])) ⟨none, rfl, s0, upd_same⟩ (fun i σ H2 _ ⟨_, _, _, h⟩ => SqT.of h) ?_ ?_⟩
    · rintro i x σ _ H2 hi ⟨u, rfl, s2, ht2⟩ ⟨rfl, hx⟩
      have hx' : ∃ r, x = .str r ∧ r ∈ ks := by
        match i, hi, hx with
        | 0, _, hx => exact ⟨first, (Option.some.inj hx).symm, h1⟩
        | 1, _, hx => exact ⟨last, (Option.some.inj hx).symm, h2⟩
      obtain ⟨r, rfl, hr1⟩ := hx'
      have B2 := B.same s2
      exact ⟨_, rfl, _, rfl, h, dx, fs, rfl, B2.ob, h, dS, dx, fs, kvs, r, rfl, B2.ob, B2.lS, .inl B2.oS, G.nm r hr1, bx_in B hr1, fun H3 s3 => ⟨true, rfl, _, rfl, iteF ⟨_, rfl, s2.trans s3, s3 _ _ ht2⟩⟩⟩
    · rintro σ H2 ⟨u, rfl, s2, ht2⟩
      have B2 := B.same s2
      refine ⟨(Ex (nbF ks es) last 6 [first] first).length, Nat.le_of_eq (Nat.zero_add _), ?_⟩
      refine ⟨_, rfl, h, dx, fs, rfl, B2.ob, B2.noM _ (by decide +kernel), _, rfl, (by show 1 ≤ sizeLine; decide), fun t2 ht3 => ?_⟩
      have s3 := s2.to_new (o := .tup [.str first]) ht3
      refine ⟨_, rfl, h, t2, ks, es, [], first, last, rfl, BA.same s3, G, SqT.of upd_same, by simp, fun x hx => ?_, by show ks.length < 1 + 6; omega, rfl, fun i z H' ext s' he wk => ?_, fun H' s' => ?_⟩
      · rw [List.nil_append, List.mem_singleton] at hx
        exact hx ▸ h1
      · show O (0 + i) _ _
        rw [Nat.zero_add]
        exact hO i z H' ext (s3.trans s') he wk
      · exact ⟨Nat.zero_add _, hF H' (s3.trans s')⟩
end
end Yf
set_option Elab.async false
set_option linter.all false
set_option maxRecDepth 100000
set_option maxHeartbeats 4000000
/-! L1: the law's tape: _law_begin, _law_draw, _law_pick. -/
namespace Yf
open PySem PySem.Spec PyProof.Rows L2
theorem set_dP {X : Cx} (hu : X.A.units + 1 < cLine) : PSet X (fun o i v H Q => ∃ a H', o = .ref a ∧ DPut H a i v H' ∧ Q H') := by
  intro pins s σ H o i v ov iv u Q I ro ri rv h
  obtain ⟨a, H', rfl, g, q⟩ := h
  obtain rfl : ov = Value.ref a := ro
  exact d_setItem hu I g ri rv fun s' I' => ⟨H', I', q⟩
abbrev kCe : Key := .inr "cells"
abbrev kPl : Key := .inr "place"
abbrev kLe : Key := .inr "left"
/-- the tape: b more turns are within its line -/
def TapeAt (K : PySem.W.Frag) (H : Hp) (tp : Addr) (b : Nat) : Prop := ∃ (c : Addr) (cs : List Int) (p l : Int), H tp = some (.dK [(kCe, .ref c), (kPl, .int p), (kLe, .int l)]) ∧ SqL K H c (cs.map V.int) ∧ cs ≠ [] ∧ cs.length ≤ 63 ∧ 0 ≤ p ∧ p + b ≤ 1000000 ∧ 0 ≤ l
theorem SmX.tape {K : PySem.W.Frag} {H H' : Hp} {tp : Addr} {b : Nat} (s : Same H H') (h : TapeAt K H tp b) : TapeAt K H' tp b := by
  obtain ⟨c, cs, p, l, h1, h2, h3⟩ := h
  exact ⟨c, cs, p, l, s _ _ h1, s.seq h2, h3⟩
theorem TapeAt.less {K : PySem.W.Frag} {H : Hp} {tp : Addr} {b b' : Nat} (h : TapeAt K H tp b) (le : b' ≤ b) : TapeAt K H tp b' := by
  obtain ⟨c, cs, p, l, h1, h2, h3, h4, h5, h6, h7⟩ := h
  exact ⟨c, cs, p, l, h1, h2, h3, h4, h5, by omega, h7⟩
def spBegin (K : PySem.W.Frag) : Sp := fun vs H Q _ => ∃ (a : Addr) (ns : List Int), vs = [.ref a] ∧ SqL K H a (ns.map V.int) ∧ ns.length ≤ 63 ∧ ∀ H' tp, Same H H' → H tp = none → TapeAt K H' tp 900000 → Q (.ref tp) H'
def spDraw (K : PySem.W.Frag) : Sp := fun vs H Q _ => ∃ (tp : Addr) (m : Int) (b : Nat), vs = [.ref tp, .int m] ∧ TapeAt K H tp (b + 1) ∧ 1 ≤ m ∧ m ≤ 1000000 ∧ ∀ H' (r : Int), SmX tp H H' → TapeAt K H' tp b → 0 ≤ r → r < m → Q (.int r) H'
theorem scBegin : FnScope ["_law_script"] ["_law_script"] (C8.fnScope sBegin) := ⟨rfl, rfl, rfl, by decide +kernel, rfl, by decide +kernel, by decide +kernel⟩
theorem scDraw : FnScope ["_law_tape", "_law_many", "_law_place", "_law_count", "_law_cell", "_law_found"] ["_law_tape", "_law_many"] (C8.fnScope sDraw) := ⟨rfl, rfl, rfl, by decide +kernel, rfl, by decide +kernel, by decide +kernel⟩
section
variable {P : Program} {w : World} {K : PySem.W.Frag} {mg : Str → Option Value} {base : Heap}
theorem cal_begin {f : Addr} {fd : FuncData} (F : C8.Def K mg "_law_begin" sBegin f fd) (b : Binds K fd ["_law_script"] []) : C8.Cal P w K mg base 1 "_law_begin" (spBegin K) [] := by
  refine C8.cal0 F b .nil scBegin (fun vs H Q E h => ?_) (fun cdv A outer s H vs Q E hr h => ?_)
  · obtain ⟨a, ns, rfl, _⟩ := h
    rfl
  · obtain ⟨a, ns, rfl, hS, hlen, k⟩ := h
    refine ⟨_, pss_one (ps_ret (pe_disp (pps_cons pe_str (pe_orT (pe_slice sl_list (pv 0) po_none (po_some pe_int)) (pe_one (pe_lst (pa_cons pe_int pa_nil)))) (pps_cons pe_str pe_int (pps_cons pe_str pe_int pps_nil))) (by rfl) (by rfl) (fun z => by cases z) (by decide))), ?_⟩
    intro tp htp
    have s0 := Same.upd_new (o := .dK []) htp
    refine ⟨_, rfl, _, rfl, a, _, rfl, s0.seq hS, fun q hq => ?_⟩
    have ntq : tp ≠ q := fun e => by
      rw [← e, upd_same] at hq
      cases hq
    have ecut : cutV (ns.map V.int) none (some 63) = ns.map V.int := by
      unfold cutV
      have e1 : HT.sIx (ns.map V.int).length (ns.map V.int).length (some 63) = min 63 (ns.map V.int).length := HT.sIx_nat _ _ 63
      rw [e1, HT.sIx_none, List.length_map, Nat.min_eq_right hlen, Nat.sub_zero, List.drop_zero]
      exact List.take_of_length_le (by rw [List.length_map]; exact Nat.le_refl _)
    rw [ecut]
    have s1 := s0.to_new (o := .lst (ns.map V.int)) hq
    have fin : ∀ (H3 : Hp) (c : Addr) (cs : List Int), Same H H3 → H3 tp = some (.dK []) → H3 c = some (.lst (cs.map V.int)) → cs ≠ [] → cs.length ≤ 63 → Q (.ref tp) (upd H3 tp (.dK (mergeK [] [(kCe, .ref c), (kPl, .int 0), (kLe, .int 0)]))) := by
      intro H3 c cs s3 h1 h2 h3 h4
      refine k _ tp (s3.to_own htp) htp ⟨c, cs, 0, 0, ?_, SqL.of ?_, h3, h4, by decide, by decide, by decide⟩
      · rw [upd_same]
        rfl
      · rw [upd_ne (ne_of h2 h1 (by intro z; cases z))]
        exact h2
    refine ⟨!(ns.map V.int).isEmpty, .inl ⟨_, SqL.of upd_same, rfl⟩, ?_⟩
    cases ns with
    | nil =>
      refine iteF ?_
      refine ⟨(by show 1 ≤ sizeLine; decide), fun q2 hq2 => ?_⟩
      have s2 := s1.to_new (o := .lst [.int 0]) hq2
      have ht2 : (upd (upd (upd H tp (.dK [])) q (.lst [])) q2 (.lst [.int 0])) tp = some (.dK []) := by
        have e : (upd (upd H tp (.dK [])) q (.lst [])) tp = some (.dK []) := by rw [upd_ne ntq, upd_same]
        rw [upd_ne (ne_of_none e hq2)]
        exact e
      exact ⟨ht2, [(kCe, .ref q2), (kPl, .int 0), (kLe, .int 0)], rfl, (by show 3 ≤ 15; decide), fin _ q2 [0] s2 ht2 upd_same (by simp) (by decide)⟩
    | cons n0 ns =>
      refine iteT ?_
      have ht2 : (upd (upd H tp (.dK [])) q (.lst ((n0 :: ns).map V.int))) tp = some (.dK []) := by rw [upd_ne ntq, upd_same]
      exact ⟨ht2, [(kCe, .ref q), (kPl, .int 0), (kLe, .int 0)], rfl, (by show 3 ≤ 15; decide), fin _ q (n0 :: ns) s1 ht2 upd_same (by simp) hlen⟩
end
end Yf
set_option Elab.async false
set_option linter.all false
set_option maxRecDepth 100000
set_option maxHeartbeats 4000000
/-! L2t: _law_draw. -/
namespace Yf
open PySem PySem.Spec PyProof.Rows L2
theorem n_cp : ¬ (kCe : Key) = kPl := by decide +kernel
theorem n_cl : ¬ (kCe : Key) = kLe := by decide +kernel
theorem n_pl : ¬ (kPl : Key) = kLe := by decide +kernel
theorem tg_c {a b c : V} : valV [(kCe, a), (kPl, b), (kLe, c)] kCe = some a := valV_pos rfl
theorem tg_p {a b c : V} : valV [(kCe, a), (kPl, b), (kLe, c)] kPl = some b := by rw [valV_neg n_cp, valV_pos rfl]
theorem tg_l {a b c : V} : valV [(kCe, a), (kPl, b), (kLe, c)] kLe = some c := by rw [valV_neg n_cl, valV_neg n_pl, valV_pos rfl]
theorem tput_p {a b c v : V} : putK [(kCe, a), (kPl, b), (kLe, c)] kPl v = [(kCe, a), (kPl, v), (kLe, c)] := by
  unfold putK
  rw [valV_any, tg_p, if_pos (by rfl)]
  show [if kCe = kPl then _ else _, if kPl = kPl then _ else _, if kLe = kPl then _ else _] = _
  rw [if_neg n_cp, if_pos rfl, if_neg (fun e => n_pl e.symm)]
theorem tput_l {a b c v : V} : putK [(kCe, a), (kPl, b), (kLe, c)] kLe v = [(kCe, a), (kPl, b), (kLe, v)] := by
  unfold putK
  rw [valV_any, tg_l, if_pos (by rfl)]
  show [if kCe = kLe then _ else _, if kPl = kLe then _ else _, if kLe = kLe then _ else _] = _
  rw [if_neg n_cl, if_neg n_pl, if_pos rfl]
section
variable {H : Hp} {tp : Addr} {a b c : V}
theorem dg_c (h : H tp = some (.dK [(kCe, a), (kPl, b), (kLe, c)])) : DGet H tp (.str "cells") (some a) := by rw [← tg_c (a := a) (b := b) (c := c)]; exact DGet.k (k := kCe) h
theorem dg_p (h : H tp = some (.dK [(kCe, a), (kPl, b), (kLe, c)])) : DGet H tp (.str "place") (some b) := by rw [← tg_p (a := a) (b := b) (c := c)]; exact DGet.k (k := kPl) h
theorem dg_l (h : H tp = some (.dK [(kCe, a), (kPl, b), (kLe, c)])) : DGet H tp (.str "left") (some c) := by rw [← tg_l (a := a) (b := b) (c := c)]; exact DGet.k (k := kLe) h
theorem dp_p {v : V} (h : H tp = some (.dK [(kCe, a), (kPl, b), (kLe, c)])) : DPut H tp (.str "place") v (upd H tp (.dK [(kCe, a), (kPl, v), (kLe, c)])) := by rw [← tput_p (b := b)]; exact DPut.k (k := kPl) h (by show 3 < sizeLine; decide)
theorem dp_l {v : V} (h : H tp = some (.dK [(kCe, a), (kPl, b), (kLe, c)])) : DPut H tp (.str "left") v (upd H tp (.dK [(kCe, a), (kPl, b), (kLe, v)])) := by rw [← tput_l (c := c)]; exact DPut.k (k := kLe) h (by show 3 < sizeLine; decide)
theorem seq_ne {K : PySem.W.Frag} {x : Addr} {xs : List V} {kvs : List (Key × V)} {o : HO} (ht : H tp = some (.dK kvs)) (h : SqL K H x xs) : SqL K (upd H tp o) x xs := by
  rcases h with (h | ⟨u, h⟩) | h
  · exact .inl (.inl (by rw [upd_ne (ne_of h ht (by intro z; cases z))]; exact h))
  · exact .inl (.inr ⟨u, by rw [upd_ne (ne_of h ht (by intro z; cases z))]; exact h⟩)
  · exact .inr h
end
section
variable {P : Program} {w : World} {K : PySem.W.Frag} {mg : Str → Option Value} {base : Heap}
theorem cal_draw {f : Addr} {fd : FuncData} (F : C8.Def K mg "_law_draw" sDraw f fd) (b : Binds K fd ["_law_tape", "_law_many"] []) (z : Bi mg) : C8.Cal P w K mg base 1 "_law_draw" (spDraw K) [] := by
  refine C8.cal0 F b .nil scDraw (fun vs H Q E h => ?_) (fun cdv A outer s H vs Q E hr h => ?_)
  · obtain ⟨tp, m, b, rfl, _⟩ := h
    rfl
  · obtain ⟨tp, m, bb, rfl, hT, hm1, hm2, k⟩ := h
    have hu := hu_of hr
    refine ⟨_, C8.pss_cut (ps_if (pt_cmpR op_lt (pe_dget hu (pv 0) pe_str (fun _ _ => rfl)) (pv 1) (nomark _))
        (pss_cons (ps_par (i := 2) (j := 3) (by rfl) scDraw.nd rfl rfl (by decide) rfl rfl (pa_cons (pe_dget hu (pv 0) pe_str (fun _ _ => rfl)) (pa_cons (pe_callB call_len_seq (by rfl) z.len (by decide +kernel) (pa_cons (pe_dget hu (pv 0) pe_str (fun _ _ => rfl)) pa_nil)) pa_nil)) (by rfl))
        (pss_cons (ps_asg (pe_tup (pa_cons (pe_ix ix_list (pe_dget hu (pv 0) pe_str (fun _ _ => rfl)) (pe_op op_mod (pe_callTy call_int1 (by rfl) z.int (by decide +kernel) (pa_cons (pv 2) pa_nil)) (pv 3)) (fun _ _ => rfl)) (pa_cons (pe_op op_add (pv 2) pe_int) pa_nil)))
            (pg_tup (by rfl) (pgs_cons (pg_name (i := 4) scDraw.nd rfl (Or.inl rfl)) (pgs_cons (pg_sub (pv 0) pe_str (set_dP hu)) pgs_nil))))
        (pss_cons (ps_dput hu (pv 0) pe_str (pe_op op_mod (pe_callTy call_int1 (by rfl) z.int (by decide +kernel) (pa_cons (pe_op op_pow (pe_op op_add (pe_op op_add (pe_op op_mod (pe_callTy call_int1 (by rfl) z.int (by decide +kernel) (pa_cons (pv 4) pa_nil)) pe_int) (pe_op op_mul pe_int (pv 2))) pe_int) pe_int) pa_nil)) (pe_op op_add (pe_op op_pow pe_int pe_int) pe_int)) rfl)
        (pss_one (ps_if (PW.pt (pw_and (pt_cmpR op_ge (pv 4) (pe_op op_pow pe_int pe_int) (nomark _)) (pw_and1 (pt_cmpR op_lt (pv 2) (pv 3) (nomark _)))))
          (pss_one (ps_dput hu (pv 0) pe_str (pe_op op_sub (pv 4) (pe_op op_pow pe_int pe_int)) rfl)) pss_nil))))) pss_nil)
      (pss_cons (ps_asg (pe_tup (pa_cons (pe_op op_mod (pe_callTy call_int1 (by rfl) z.int (by decide +kernel) (pa_cons (pe_dget hu (pv 0) pe_str (fun _ _ => rfl)) pa_nil)) (pv 1)) (pa_cons (pe_op op_fdiv (pe_dget hu (pv 0) pe_str (fun _ _ => rfl)) (pv 1)) pa_nil)))
            (pg_tup (by rfl) (pgs_cons (pg_name (i := 5) scDraw.nd rfl (Or.inl rfl)) (pgs_cons (pg_sub (pv 0) pe_str (set_dP hu)) pgs_nil))))
      (pss_one (ps_ret (pv 5)))), ?_⟩
    obtain ⟨c, cs, p, l, h1, hc, hne, h63, hp0, hpb, hl0⟩ := hT
    have hcl : 0 < cs.length := List.length_pos_iff.mpr hne
    refine ⟨fun σ' H' => ∃ (u v x : Option V), σ' = [some (.ref tp), some (.int m), u, v, x, none] ∧ SmX tp H H' ∧ TapeAt K H' tp bb, ?_, ?_⟩
    · refine ⟨_, rfl, tp, .int l, rfl, dg_l h1, _, rfl, _, _, rfl, rfl, _, rfl, ite2 (fun _ => ?_) (fun _ => ⟨none, none, none, rfl, fun b o e _ => e, c, cs, p, l, h1, hc, hne, h63, hp0, by omega, hl0⟩)⟩
      refine ⟨_, rfl, tp, .int p, rfl, dg_p h1, _, rfl, tp, .ref c, rfl, dg_c h1, c, _, rfl, .inl hc, _, _, rfl, ?_⟩
      rw [List.length_map]
      have hr0 : 0 ≤ p % (cs.length : Int) := Int.emod_nonneg _ (by omega)
      have hr1 : p % (cs.length : Int) < cs.length := Int.emod_lt_of_pos _ (by omega)
      obtain ⟨j, hj⟩ : ∃ j : Nat, p % (cs.length : Int) = j := ⟨(p % (cs.length : Int)).toNat, by omega⟩
      have hjl : j < cs.length := by omega
      have hget : (cs.map V.int)[j]? = some (.int cs[j]) := by simp [hjl]
      refine ⟨_, rfl, tp, .ref c, rfl, dg_c h1, _, rfl, .inl ⟨p, rfl, _, rfl, _, _, rfl, rfl, (by show (0 : Int) < cs.length; omega), c, _, _, _, rfl, rfl, hc, at_of hj hget, _, rfl, _, _, rfl, rfl, (by show 2 ≤ sizeLine; decide), fun t ht => ?_⟩⟩
      generalize cs[j] = cell
      have ht1 : (upd H t (.tup [.int cell, .int (p + 1)])) tp = some (.dK [(kCe, .ref c), (kPl, .int p), (kLe, .int l)]) := by rw [upd_ne (ne_of_none h1 ht)]; exact h1
      refine ⟨t, _, rfl, SqT.of upd_same, rfl, _, _, rfl, _, _, rfl, _, rfl, tp, _, rfl, dp_p ht1, rfl, ?_⟩
      have x1 : SmX tp H (upd (upd H t (.tup [.int cell, .int (p + 1)])) tp (.dK [(kCe, .ref c), (kPl, .int (p + 1)), (kLe, .int l)])) := (SmX.of (Same.upd_new ht)).trans SmX.upd
      have h2 : (upd (upd H t (.tup [.int cell, .int (p + 1)])) tp (.dK [(kCe, .ref c), (kPl, .int (p + 1)), (kLe, .int l)])) tp = some (.dK [(kCe, .ref c), (kPl, .int (p + 1)), (kLe, .int l)]) := upd_same
      have hc2 : SqL K (upd (upd H t (.tup [.int cell, .int (p + 1)])) tp (.dK [(kCe, .ref c), (kPl, .int (p + 1)), (kLe, .int l)])) c (cs.map V.int) := seq_ne ht1 ((Same.upd_new ht).seq hc)
      generalize upd (upd H t (.tup [.int cell, .int (p + 1)])) tp (.dK [(kCe, .ref c), (kPl, .int (p + 1)), (kLe, .int l)]) = H2 at x1 h2 hc2
      have m0 : 0 ≤ cell % 2147483647 := Int.emod_nonneg _ (by decide)
      have m1 : cell % 2147483647 < 2147483647 := Int.emod_lt_of_pos _ (by decide)
      have hnat : (cell % 2147483647 + 69621 * p + 48271).natAbs < 2 ^ 64 := by omega
      refine ⟨_, rfl, .inl ⟨cell, rfl, _, _, rfl, rfl, (by show (0 : Int) < 2147483647; decide), _, rfl, _, _, rfl, rfl, .inl ⟨by decide, by decide⟩, _, _, rfl, rfl, _, _, rfl, rfl, _, _, rfl, rfl, ⟨by decide, by decide, hnat⟩, .inl ⟨_, rfl, _, _, rfl, rfl, ⟨by decide, by decide, by decide⟩, _, _, rfl, rfl, _, _, rfl, rfl, (by show (0 : Int) < (10 : Int) ^ (50 : Int).toNat + 151; decide +kernel), _, rfl, tp, _, rfl, dp_l (v := .int ((cell % 2147483647 + 69621 * p + 48271) ^ (17 : Int).toNat % ((10 : Int) ^ (50 : Int).toNat + 151))) h2, ?_⟩⟩⟩
      have hl3 : 0 ≤ (cell % 2147483647 + 69621 * p + 48271) ^ (17 : Int).toNat % ((10 : Int) ^ (50 : Int).toNat + 151) := Int.emod_nonneg _ (by decide +kernel)
      generalize (cell % 2147483647 + 69621 * p + 48271) ^ (17 : Int).toNat % ((10 : Int) ^ (50 : Int).toNat + 151) = l3 at hl3
      have x2 := x1.trans (SmX.upd (x := tp) (H := H2) (o := .dK [(kCe, .ref c), (kPl, .int (p + 1)), (kLe, .int l3)]))
      have hc3 := seq_ne (o := .dK [(kCe, .ref c), (kPl, .int (p + 1)), (kLe, .int l3)]) h2 hc2
      have h3 : (upd H2 tp (.dK [(kCe, .ref c), (kPl, .int (p + 1)), (kLe, .int l3)])) tp = some (.dK [(kCe, .ref c), (kPl, .int (p + 1)), (kLe, .int l3)]) := upd_same
      generalize upd H2 tp (.dK [(kCe, .ref c), (kPl, .int (p + 1)), (kLe, .int l3)]) = H3 at x2 hc3 h3
      refine ⟨_, rfl, _, _, rfl, rfl, ⟨by decide, by decide, by decide⟩, _, _, rfl, rfl, _, rfl, ?_⟩
      refine ite2 (fun hge => ?_) (fun _ => iteF ⟨_, _, _, rfl, x2, c, cs, p + 1, l3, h3, hc3, hne, h63, by omega, by omega, hl3⟩)
      have hge := of_decide_eq_true hge
      refine ⟨_, rfl, _, rfl, _, _, rfl, rfl, _, rfl, ?_⟩
      refine ite2 (fun _ => ?_) (fun _ => ⟨_, _, _, rfl, x2, c, cs, p + 1, l3, h3, hc3, hne, h63, by omega, by omega, hl3⟩)
      refine ⟨_, rfl, _, _, rfl, rfl, ⟨by decide, by decide, by decide⟩, _, _, rfl, rfl, _, rfl, tp, _, rfl, dp_l h3, ?_⟩
      exact ⟨_, _, _, rfl, x2.trans SmX.upd, c, cs, p + 1, _, upd_same, seq_ne h3 hc3, hne, h63, by omega, by omega, Int.sub_nonneg_of_le hge⟩
    · rintro σ' H' ⟨u, v, x, rfl, x1, c, cs, p, l, h1, hc, hne, h63, hp0, hpb, hl0⟩
      refine ⟨_, rfl, tp, .int l, rfl, dg_l h1, .inl ⟨l, rfl, _, rfl, _, _, rfl, rfl, (by show 0 < m; omega), _, rfl, tp, .int l, rfl, dg_l h1, _, rfl, _, _, rfl, rfl, ⟨by omega, by omega⟩, (by show 2 ≤ sizeLine; decide), fun t ht => ?_⟩⟩
      have ht1 : (upd H' t (.tup [.int (l % m), .int (l / m)])) tp = some (.dK [(kCe, .ref c), (kPl, .int p), (kLe, .int l)]) := by rw [upd_ne (ne_of_none h1 ht)]; exact h1
      refine ⟨t, _, rfl, SqT.of upd_same, rfl, _, _, rfl, _, _, rfl, _, rfl, tp, _, rfl, dp_l ht1, rfl, ?_⟩
      refine ⟨_, rfl, k _ _ (x1.trans ((SmX.of (Same.upd_new ht)).trans SmX.upd)) ⟨c, cs, p, l / m, upd_same, seq_ne ht1 ((Same.upd_new ht).seq hc), hne, h63, hp0, hpb, Int.ediv_nonneg hl0 (by omega)⟩ (Int.emod_nonneg _ (by omega)) (Int.emod_lt_of_pos _ (by omega))⟩
end
end Yf
set_option Elab.async false
set_option linter.all false
set_option maxRecDepth 100000
set_option maxHeartbeats 4000000
/-! L3: _law_pick, _law_shuffled, _law_pair. -/
namespace Yf
open PySem PySem.Spec PyProof.Rows L2
theorem SmX.seqD {K : PySem.W.Frag} {tp : Addr} {kvs : List (Key × V)} {H H' : Hp} (ht : H tp = some (.dK kvs)) (s : SmX tp H H') {a : Addr} {xs : List V} (h : SqL K H a xs) : SqL K H' a xs := by
  rcases h with (h | ⟨o, h⟩) | h
  · exact .inl (.inl (s _ _ h (ne_of h ht (by intro z; cases z))))
  · exact .inl (.inr ⟨o, s _ _ h (ne_of h ht (by intro z; cases z))⟩)
  · exact .inr h
theorem SmX.tupD {K : PySem.W.Frag} {tp : Addr} {kvs : List (Key × V)} {H H' : Hp} (ht : H tp = some (.dK kvs)) (s : SmX tp H H') {a : Addr} {xs : List V} (h : SqT K H a xs) : SqT K H' a xs := by
  rcases h with (h | ⟨o, h⟩) | h
  · exact .inl (.inl (s _ _ h (ne_of h ht (by intro z; cases z))))
  · exact .inl (.inr ⟨o, s _ _ h (ne_of h ht (by intro z; cases z))⟩)
  · exact .inr h
theorem TapeAt.dk {K : PySem.W.Frag} {H : Hp} {tp : Addr} {b : Nat} (h : TapeAt K H tp b) : ∃ kvs, H tp = some (.dK kvs) := by
  obtain ⟨c, cs, p, l, h1, _⟩ := h
  exact ⟨_, h1⟩
theorem map_erase {α β : Type} (f : α → β) : ∀ (l : List α) (j : Nat), (l.map f).eraseIdx j = (l.eraseIdx j).map f
  | [], j => by simp
  | a :: l, 0 => rfl
  | a :: l, j + 1 => congrArg (f a :: ·) (map_erase f l j)
theorem perm_erase {α : Type} : ∀ (l : List α) (j : Nat) (h : j < l.length), (l[j] :: l.eraseIdx j).Perm l
  | a :: l, 0, h => List.Perm.refl _
  | a :: l, j + 1, h => (List.Perm.swap a _ _).trans (List.Perm.cons a (perm_erase l j (Nat.lt_of_succ_lt_succ h)))
theorem seqIx {j n : Nat} (h : j < n) : seqIndex? (j : Int) n = some j := by
  have hn : ¬ (j : Int) < 0 := by omega
  have h0 : (0 : Int) ≤ (j : Int) := by omega
  have h1 : (j : Int) < (n : Int) := by omega
  simp only [seqIndex?, hn, if_false, h0, h1, decide_true, Bool.and_self, if_true, Int.toNat_natCast]
theorem TapeAt.strs {K : PySem.W.Frag} {H : Hp} {tp q : Addr} {b : Nat} {ys : List Str} {o : HO} (h : TapeAt K H tp b) (hq : H q = some (.lst (ys.map V.str))) : TapeAt K (upd H q o) tp b := by
  obtain ⟨c, cs, p, l, h1, h2, h3, h4⟩ := h
  refine ⟨c, cs, p, l, by rw [upd_ne (ne_of h1 hq (by intro z; cases z))]; exact h1, ?_, h3, h4⟩
  rcases h2 with (h | ⟨u, h⟩) | h
  · refine .inl (.inl ?_)
    rw [upd_ne]
    · exact h
    · intro e
      rw [e, hq] at h
      have e2 := HO.lst.inj (Option.some.inj h)
      cases cs with
      | nil => exact h3 rfl
      | cons x cs =>
        cases ys with
        | nil => simp at e2
        | cons y ys =>
          rw [List.map_cons, List.map_cons] at e2
          cases (List.cons.inj e2).1
  · exact .inl (.inr ⟨u, by rw [upd_ne (ne_of h hq (by intro z; cases z))]; exact h⟩)
  · exact .inr h
def spPick (K : PySem.W.Frag) : Sp := fun vs H Q _ => ∃ (tp : Addr) (y : V) (b : Nat), vs = [.ref tp, y] ∧ TapeAt K H tp (b + 1) ∧
  ((∃ a xs, y = .ref a ∧ (SqL K H a xs ∨ SqT K H a xs) ∧ xs ≠ [] ∧ xs.length ≤ 1000 ∧ ∀ H' v, SmX tp H H' → TapeAt K H' tp b → v ∈ xs → Q v H') ∨
   (∃ z : Str, y = .str z ∧ z.cps.toList ≠ [] ∧ z.cps.toList.length ≤ 1000 ∧ ∀ H' c, SmX tp H H' → TapeAt K H' tp b → c ∈ z.cps.toList → Q (.str ⟨#[c]⟩) H'))
theorem scPick : FnScope ["_law_tape", "_law_items"] ["_law_tape", "_law_items"] (C8.fnScope sPick) := ⟨rfl, rfl, rfl, by decide +kernel, rfl, by decide +kernel, by decide +kernel⟩
def spLPair : Sp := spPair
theorem scLPair : FnScope ["_law_one", "_law_other"] ["_law_one", "_law_other"] (C8.fnScope sLPair) := ⟨rfl, rfl, rfl, by decide +kernel, rfl, by decide +kernel, by decide +kernel⟩
def spShuf (K : PySem.W.Frag) : Sp := fun vs H Q _ => ∃ (tp a : Addr) (ns : List Str) (b : Nat), vs = [.ref tp, .ref a] ∧ SqL K H a (ns.map V.str) ∧ ns.length ≤ 60 ∧ (∀ x, x ∈ ns → NameOk x) ∧ TapeAt K H tp (b + ns.length) ∧ ∀ H' l (ys : List Str), SmX tp H H' → TapeAt K H' tp b → H' l = some (.lst (ys.map V.str)) → ys.Perm ns → Q (.ref l) H'
theorem scShuf : FnScope ["_law_tape", "_law_items", "_law_rest", "_law_found"] ["_law_tape", "_law_items"] (C8.fnScope sShuffled) := ⟨rfl, rfl, rfl, by decide +kernel, rfl, by decide +kernel, by decide +kernel⟩
section
variable {P : Program} {w : World} {K : PySem.W.Frag} {mg : Str → Option Value} {base : Heap}
theorem cal_pick {f : Addr} {fd : FuncData} (F : C8.Def K mg "_law_pick" sPick f fd) (b : Binds K fd ["_law_tape", "_law_items"] []) (z : Bi mg) (cD : C8.Cal P w K mg base 1 "_law_draw" (spDraw K) []) : C8.Cal P w K mg base 2 "_law_pick" (spPick K) [] := by
  refine C8.cal0 F b .nil scPick (fun vs H Q E h => ?_) (fun cdv A outer s H vs Q E hr h => ?_)
  · obtain ⟨tp, y, b, rfl, _⟩ := h
    rfl
  · obtain ⟨tp, y, bb, rfl, hT, h⟩ := h
    obtain ⟨kvs, ht⟩ := hT.dk
    refine ⟨_, pss_one (ps_ret (pe_ix ix_seq (pv 1) (C8.pe_c cD hr (by decide) (by rfl) (pa_cons (pv 0) (pa_cons (pe_callB call_len (by rfl) z.len (by decide +kernel) (pa_cons (pv 1) pa_nil)) pa_nil))) (fun _ _ => rfl))), ?_⟩
    rcases h with ⟨a, xs, rfl, hs, hne, hlen, k⟩ | ⟨zz, rfl, hne, hlen, k⟩
    · have hpos : 0 < xs.length := List.length_pos_iff.mpr hne
      refine ⟨_, rfl, _, rfl, _, rfl, .ref a, xs.length, rfl, hs.elim (fun h => .inl ⟨xs, h, rfl⟩) (fun h => .inr ⟨xs, h, rfl⟩), tp, (xs.length : Int), bb, rfl, hT, by omega, by omega, fun H1 r s1 t1 r0 r1 => ?_⟩
      obtain ⟨j, rfl⟩ : ∃ j : Nat, r = j := ⟨r.toNat, by omega⟩
      have hj : j < xs.length := by omega
      have hg : xs[j]? = some xs[j] := List.getElem?_eq_getElem hj
      rcases hs with h | h
      · exact .inl ⟨a, xs, _, _, rfl, rfl, s1.seqD ht h, atI_nat hg, k H1 _ s1 t1 (List.getElem_mem hj)⟩
      · exact .inr (.inl ⟨a, xs, _, _, rfl, rfl, s1.tupD ht h, atI_nat hg, k H1 _ s1 t1 (List.getElem_mem hj)⟩)
    · have hpos : 0 < zz.cps.toList.length := List.length_pos_iff.mpr hne
      have hzl : zz.length = zz.cps.toList.length := by simp [Str.length]
      refine ⟨_, rfl, _, rfl, _, rfl, .str zz, zz.length, rfl, ⟨Nat.le_of_lt (small1000 (by omega)), rfl⟩, tp, (zz.length : Int), bb, rfl, hT, by omega, by omega, fun H1 r s1 t1 r0 r1 => ?_⟩
      obtain ⟨j, rfl⟩ : ∃ j : Nat, r = j := ⟨r.toNat, by omega⟩
      have hj : j < zz.cps.toList.length := by omega
      have hg : zz.cps.toList[j]? = some zz.cps.toList[j] := List.getElem?_eq_getElem hj
      exact .inr (.inr ⟨zz, _, _, rfl, rfl, Nat.le_of_lt (small1000 (by omega)), atI_nat hg, k H1 _ s1 t1 (List.getElem_mem hj)⟩)
theorem cal_lpair {f : Addr} {fd : FuncData} (F : C8.Def K mg "_law_pair" sLPair f fd) (b : Binds K fd ["_law_one", "_law_other"] []) : C8.Cal P w K mg base 1 "_law_pair" spPair [] := by
  refine C8.cal0 F b .nil scLPair (fun vs H Q E h => ?_) (fun cdv A outer s H vs Q E hr h => ?_)
  · obtain ⟨x, y, rfl, _⟩ := h
    rfl
  · obtain ⟨x, y, rfl, k⟩ := h
    refine ⟨_, pss_one (ps_ret (pe_ifExp (pt_cmpR op_lt_str (pv 0) (pv 1) (nomark _)) (pe_tup (pa_cons (pv 0) (pa_cons (pv 1) pa_nil))) (pe_tup (pa_cons (pv 1) (pa_cons (pv 0) pa_nil))))), ?_⟩
    refine ⟨_, rfl, _, rfl, _, _, rfl, rfl, _, rfl, ?_⟩
    rw [slt_dec]
    refine ite2 (fun h => ?_) (fun h => ?_)
    · refine ⟨_, rfl, _, rfl, (by show 2 ≤ sizeLine; decide), fun t ht => k _ t (Same.upd_new ht) ht ?_⟩
      unfold nrm
      rw [if_pos h, upd_same]
    · refine ⟨_, rfl, _, rfl, (by show 2 ≤ sizeLine; decide), fun t ht => k _ t (Same.upd_new ht) ht ?_⟩
      unfold nrm
      rw [if_neg h, upd_same]
theorem cal_shuf {f : Addr} {fd : FuncData} (F : C8.Def K mg "_law_shuffled" sShuffled f fd) (b : Binds K fd ["_law_tape", "_law_items"] []) (z : Bi mg) (cD : C8.Cal P w K mg base 1 "_law_draw" (spDraw K) []) : C8.Cal P w K mg base 2 "_law_shuffled" (spShuf K) [] := by
  refine C8.cal0 F b .nil scShuf (fun vs H Q E h => ?_) (fun cdv A outer s H vs Q E hr h => ?_)
  · obtain ⟨tp, a, ns, b, rfl, _⟩ := h
    rfl
  · obtain ⟨tp, a, ns, bb, rfl, hS, hlen, hN, hT, k⟩ := h
    obtain ⟨kvs, ht⟩ := hT.dk
    refine ⟨_, pss_cons (ps_par (i := 2) (j := 3) (by rfl) scShuf.nd rfl rfl (by decide) rfl rfl (pa_cons (pe_callTy call_list_of (by rfl) z.list (by decide +kernel) (pa_cons (pv 1) pa_nil)) (pa_cons (pe_lst pa_nil) pa_nil)) (by rfl))
      (pss_cons (ps_while PassesOwn.never (pt_cmpR (op_neD hr.units) (pv 2) (pe_lst pa_nil) (nomark _))
        (pss_one (ps_expr (pe_bm PySem.F.plainAttrs_list PySem.F.slot_list_append PySem.F.type_list_append mt_append (pv 3) (pa_cons (pe_bm PySem.F.plainAttrs_list PySem.F.slot_list_pop PySem.F.type_list_pop mt_popAt (pv 2)
          (pa_cons (C8.pe_c cD hr (by decide) (by rfl) (pa_cons (pv 0) (pa_cons (pe_callB call_len_seq (by rfl) z.len (by decide +kernel) (pa_cons (pv 2) pa_nil)) pa_nil))) pa_nil)) pa_nil)))))
      (pss_one (ps_ret (pv 3)))), ?_⟩
    refine ⟨_, rfl, a, _, rfl, .inl hS, fun la hla => ⟨(by show 0 ≤ sizeLine; exact Nat.zero_le _), fun lf hlf => ⟨_, _, rfl, ?_⟩⟩⟩
    have naf : la ≠ lf := fun e => by
      rw [← e, upd_same] at hlf
      cases hlf
    have hlf0 : H lf = none := by
      rw [upd_ne naf.symm] at hlf
      exact hlf
    have ntl : tp ≠ la := ne_of_none ht hla
    have ntf : tp ≠ lf := ne_of_none ht hlf0
    have s0 : Same H (upd (upd H la (.lst (ns.map V.str))) lf (.lst [])) := (Same.upd_new hla).to_new hlf
    refine ⟨fun m σ H2 => ∃ (R Fd : List Str), σ = [some (.ref tp), some (.ref a), some (.ref la), some (.ref lf)] ∧ SmX tp H H2 ∧ H2 la = some (.lst (R.map V.str)) ∧ H2 lf = some (.lst (Fd.map V.str)) ∧ TapeAt K H2 tp (bb + R.length) ∧ (Fd ++ R).Perm ns ∧ m = R.length,
      ⟨_, ns, [], rfl, SmX.of s0, by rw [upd_ne naf, upd_same], upd_same, SmX.tape s0 hT, by rw [List.nil_append], rfl⟩, ?_⟩
    rintro m σ H2 ⟨R, Fd, rfl, x2, hla2, hlf2, t2, pm, rfl⟩
    have hmem : ∀ x, x ∈ R → NameOk x := fun x hx => hN x (pm.mem_iff.mp (List.mem_append.mpr (.inr hx)))
    have hlR : Fd.length + R.length = ns.length := by
      have := pm.length_eq
      rwa [List.length_append] at this
    refine ⟨_, rfl, (by show 0 ≤ sizeLine; exact Nat.zero_le _), fun l0 hl0 => ?_⟩
    have s3 := Same.upd_new (o := .lst []) hl0
    refine ⟨.list (R.map sD), .list [], .lst (SqL.of (s3 _ _ hla2)) (dp_strs R), .lst (SqL.of upd_same) .nil, shaped_lst hmem, by decide +kernel, _, rfl, ?_⟩
    have e0 : PyData.eqv (.list (R.map sD)) (.list []) = decide (R = []) := by
      have := sDs_eqv R []
      simp only [PyData.eqv]
      exact this
    rw [e0]
    have x3 := x2.trans (SmX.of s3)
    have t3 := SmX.tape s3 t2
    cases R with
    | nil =>
      rw [decide_eq_true rfl]
      refine iteF ⟨_, rfl, k _ lf Fd x3 t3 (s3 _ _ hlf2) (by rw [List.append_nil] at pm; exact pm)⟩
    | cons r0 R =>
      rw [decide_eq_false (fun e => nomatch e)]
      refine iteT ⟨fun σ' H' => ∃ (R' Fd : List Str), σ' = [some (.ref tp), some (.ref a), some (.ref la), some (.ref lf)] ∧ SmX tp H H' ∧ H' la = some (.lst (R'.map V.str)) ∧ H' lf = some (.lst (Fd.map V.str)) ∧ TapeAt K H' tp (bb + R'.length) ∧ (Fd ++ R').Perm ns ∧ R'.length < (r0 :: R).length,
        fun σ' H' ⟨R', Fd, a1, a2, a3, a4, a5, a6, a7⟩ => ⟨_, a7, R', Fd, a1, a2, a3, a4, a5, a6, rfl⟩, ?_⟩
      have hlf3 := s3 _ _ hlf2
      have hla3 := s3 _ _ hla2
      refine ⟨_, rfl, .inl ⟨rfl, _, SqL.of hlf3⟩, _, rfl, .inl ⟨rfl, _, SqL.of hla3⟩, _, rfl, _, rfl, la, _, rfl, .inl (SqL.of hla3), tp, _, bb + R.length, rfl, t3, ?_, ?_, fun H4 r x4 t4 r0' r1 => ?_⟩
      · rw [List.length_map, List.length_cons]
        omega
      · rw [List.length_map, List.length_cons]
        rw [List.length_cons] at hlR
        omega
      · rw [List.length_map] at r1
        obtain ⟨j, rfl⟩ : ∃ j : Nat, r = j := ⟨r.toNat, by omega⟩
        have hj : j < (r0 :: R).length := by omega
        obtain ⟨kv3, ht3⟩ := t3.dk
        have hla4 := x4 _ _ hla3 (ne_of hla3 ht3 (by intro z; cases z))
        have hlf4 := x4 _ _ hlf3 (ne_of hlf3 ht3 (by intro z; cases z))
        have hg : ((r0 :: R).map V.str)[j]? = some (.str (r0 :: R)[j]) := by
          rw [List.getElem?_map, List.getElem?_eq_getElem hj]
          rfl
        have hsi : seqIndex? (j : Int) ((r0 :: R).map V.str).length = some j := by
          rw [List.length_map]
          exact seqIx hj
        refine ⟨la, _, _, j, _, rfl, rfl, hla4, by omega, by rw [List.length_cons] at hlR hj; omega, hsi, hg, lf, _, _, rfl, rfl, by rw [upd_ne naf.symm]; exact hlf4, small1000 (by rw [List.length_map]; omega), ?_⟩
        obtain ⟨kv4, ht4⟩ := t4.dk
        have nt4 : tp ≠ la := ntl
        refine ⟨(r0 :: R).eraseIdx j, Fd ++ [(r0 :: R)[j]], rfl, fun b o e nb => ?_, ?_, ?_, ?_, ?_, ?_⟩
        · rw [upd_ne (ne_of_none e hlf0), upd_ne (ne_of_none e hla)]
          exact (x3.trans x4) b o e nb
        · rw [upd_ne naf, upd_same, map_erase]
        · rw [upd_same, List.map_append]
          rfl
        · have t5 : TapeAt K (upd H4 la (.lst (((r0 :: R).map V.str).eraseIdx j))) tp (bb + R.length) := t4.strs hla4
          have hlf5 : (upd H4 la (.lst (((r0 :: R).map V.str).eraseIdx j))) lf = some (.lst (Fd.map V.str)) := by rw [upd_ne naf.symm]; exact hlf4
          have e1 : ((r0 :: R).eraseIdx j).length = R.length := by
            rw [List.length_eraseIdx, if_pos hj, List.length_cons]
            omega
          rw [e1]
          exact t5.strs hlf5
        · refine List.Perm.trans ?_ pm
          rw [List.append_assoc]
          exact List.Perm.append_left Fd (perm_erase _ j hj)
        · rw [List.length_eraseIdx, if_pos hj]
          omega
end
end Yf
set_option Elab.async false
set_option linter.all false
set_option maxRecDepth 100000
set_option maxHeartbeats 4000000
/-! L4: _law_names. -/
namespace Yf
open PySem PySem.Spec PyProof.Rows L2 SX
def letK (f s : Int) (k : Nat) : Nat := 97 + ((f + s * (k : Int)) % 26).toNat
/-- the k-th name -/
def nmK (bl : List Nat) (at' : Nat) (f s : Int) (k : Nat) : List Nat := bl.take at' ++ [letK f s k] ++ bl.drop (at' + 1)
abbrev steps8 : List Int := [1, 3, 5, 7, 9, 11, 15, 17]
theorem letK_low (f s : Int) (k : Nat) : 97 ≤ letK f s k ∧ letK f s k ≤ 122 := by
  have h0 : 0 ≤ (f + s * (k : Int)) % 26 := Int.emod_nonneg _ (by decide)
  have h1 : (f + s * (k : Int)) % 26 < 26 := Int.emod_lt_of_pos _ (by decide)
  unfold letK
  omega
theorem letK_inj {f s : Int} (hs : s ∈ steps8) {k k' : Nat} (h : k < 6) (h' : k' < 6) (e : letK f s k = letK f s k') : k = k' := by
  have a0 : 0 ≤ (f + s * (k : Int)) % 26 := Int.emod_nonneg _ (by decide)
  have b0 : 0 ≤ (f + s * (k' : Int)) % 26 := Int.emod_nonneg _ (by decide)
  unfold letK at e
  have e2 : (f + s * (k : Int)) % 26 = (f + s * (k' : Int)) % 26 := by omega
  clear e a0 b0
  simp only [steps8, List.mem_cons, List.not_mem_nil, or_false] at hs
  rcases hs with rfl | rfl | rfl | rfl | rfl | rfl | rfl | rfl <;> omega
theorem S_cps (l : List Nat) : (S l).cps.toList = l := by simp
theorem nmK_len {bl : List Nat} {at' : Nat} {f s : Int} {k : Nat} (h : at' < bl.length) : (nmK bl at' f s k).length = bl.length := by
  unfold nmK
  simp only [List.length_append, List.length_take, List.length_cons, List.length_nil, List.length_drop]
  omega
theorem nmK_ok {bl : List Nat} {at' : Nat} {f s : Int} {k : Nat} (h : at' < bl.length) (h8 : bl.length ≤ 8) (hl : ∀ c, c ∈ bl → 97 ≤ c ∧ c ≤ 122) : NameOk (S (nmK bl at' f s k)) := by
  refine ⟨by rw [S_cps, nmK_len h]; omega, by rw [S_cps, nmK_len h]; exact h8, fun c hc => ?_⟩
  rw [S_cps] at hc
  unfold nmK at hc
  rcases List.mem_append.mp hc with hc | hc
  · rcases List.mem_append.mp hc with hc | hc
    · exact hl c (List.mem_of_mem_take hc)
    · rw [List.mem_singleton] at hc
      subst hc
      exact letK_low f s k
  · exact hl c (List.mem_of_mem_drop hc)
theorem nmK_inj {bl : List Nat} {at' : Nat} {f s : Int} (hs : s ∈ steps8) {k k' : Nat} (h : k < 6) (h' : k' < 6) (e : S (nmK bl at' f s k) = S (nmK bl at' f s k')) : k = k' := by
  have e := S_inj e
  unfold nmK at e
  rw [List.append_assoc, List.append_assoc] at e
  have e := List.append_cancel_left e
  rw [List.singleton_append, List.singleton_append] at e
  exact letK_inj hs h h' (List.cons.inj e).1
/-- the names, one after another -/
def nmL (bl : List Nat) (at' : Nat) (f s : Int) (m : Nat) : List Str := (List.range m).map fun k => S (nmK bl at' f s k)
theorem nmL_nd {bl : List Nat} {at' : Nat} {f s : Int} (hs : s ∈ steps8) {m : Nat} (hm : m ≤ 6) : (nmL bl at' f s m).Nodup := by
  unfold nmL
  rw [List.nodup_iff_pairwise_ne, List.pairwise_map]
  have h := List.nodup_iff_pairwise_ne.mp (List.nodup_range (n := m))
  refine List.Pairwise.imp_of_mem (fun {a b} ha hb ne e => ?_) h
  exact ne (nmK_inj hs (by have := List.mem_range.mp ha; omega) (by have := List.mem_range.mp hb; omega) e)
def spNames (K : PySem.W.Frag) : Sp := fun vs H Q _ => ∃ (tp : Addr) (m b : Nat), vs = [.ref tp, .int (m : Nat)] ∧ 1 ≤ m ∧ m ≤ 6 ∧ TapeAt K H tp (b + 20) ∧ ∀ H' l (ns : List Str), SmX tp H H' → TapeAt K H' tp b → H' l = some (.lst (ns.map V.str)) → ns.length = m → ns.Nodup → (∀ x, x ∈ ns → NameOk x) → Q (.ref l) H'
abbrev nNm : List Str := ["_law_tape", "_law_many", "_law_letters", "_law_k", "_law_base", "_law_at", "_law_first", "_law_step", "_law_found", "_law_letter"]
theorem scNm : FnScope nNm ["_law_tape", "_law_many"] (C8.fnScope sNames) := ⟨rfl, rfl, rfl, by decide +kernel, rfl, by decide +kernel, by decide +kernel⟩
theorem joinL_one : ∀ cs : List Nat, TL.joinL [] (cs.map fun c => [c]) = cs
  | [] => rfl
  | [c] => rfl
  | c :: d :: r => by
    have ih := joinL_one (d :: r)
    show [c] ++ ([] ++ TL.joinL [] ((d :: r).map fun c => [c])) = c :: d :: r
    rw [ih]
    rfl
theorem join_one (cs : List Nat) : Txt.join ("" : Str) (cs.map fun c => S [c]) = S cs := by
  have e0 : ("" : Str) = S [] := by decide +kernel
  have e := join_S [] (cs.map fun c => [c])
  rw [List.map_map, joinL_one] at e
  rw [e0]
  exact e
theorem SmX.free {tp : Addr} {H H' : Hp} {l : Addr} (s : SmX tp H H') (h : H' l = none) (n : l ≠ tp) : H l = none := by
  cases e : H l with
  | none => rfl
  | some o =>
    have := s l o e n
    rw [h] at this
    cases this
theorem SmX.to_own {tp : Addr} {H H' : Hp} {l : Addr} {o : HO} (s : SmX tp H H') (h : H l = none) : SmX tp H (L2.upd H' l o) := fun b u e n => by
  rw [upd_ne (ne_of_none e h)]
  exact s b u e n
theorem nd_set {α : Type} : ∀ {l : List α} {y : α} (j : Nat), l.Nodup → y ∉ l → (l.set j y).Nodup
  | [], y, j, _, _ => by simp
  | a :: l, y, 0, h, hy => List.nodup_cons.mpr ⟨fun m => hy (List.mem_cons_of_mem _ m), (List.nodup_cons.mp h).2⟩
  | a :: l, y, j + 1, h, hy => by
    obtain ⟨h1, h2⟩ := List.nodup_cons.mp h
    refine List.nodup_cons.mpr ⟨fun m => ?_, nd_set j h2 fun m => hy (List.mem_cons_of_mem _ m)⟩
    rcases List.mem_or_eq_of_mem_set m with m | m
    · exact h1 m
    · exact hy (m ▸ List.mem_cons_self ..)
theorem abc_get {j : Nat} (h : j < 26) : abc.cps.toList[j]? = some (97 + j) := by
  have e : abc.cps.toList = (List.range 26).map (97 + ·) := by decide +kernel
  rw [e, List.getElem?_map, List.getElem?_range h]
  rfl
theorem abc_low {c : Nat} (h : c ∈ abc.cps.toList) : 97 ≤ c ∧ c ≤ 122 := by
  have e : abc.cps.toList = (List.range 26).map (97 + ·) := by decide +kernel
  rw [e, List.mem_map] at h
  obtain ⟨i, hi, rfl⟩ := h
  have := List.mem_range.mp hi
  omega
section
variable {P : Program} {w : World} {K : PySem.W.Frag} {mg : Str → Option Value} {base : Heap}
theorem cal_names {f : Addr} {fd : FuncData} (F : C8.Def K mg "_law_names" sNames f fd) (b : Binds K fd ["_law_tape", "_law_many"] []) (z : Bi mg) (cD : C8.Cal P w K mg base 1 "_law_draw" (spDraw K) []) (cP : C8.Cal P w K mg base 2 "_law_pick" (spPick K) []) : C8.Cal P w K mg base 3 "_law_names" (spNames K) [] := by
  refine C8.cal0 F b .nil scNm (fun vs H Q E h => ?_) (fun cdv A outer s H vs Q E hr h => ?_)
  · obtain ⟨tp, m, b, rfl, _⟩ := h
    rfl
  · obtain ⟨tp, m, bb, rfl, hm1, hm6, hT, k⟩ := h
    have hu := hu_of hr
    refine ⟨_, pss_cons (ps_set (i := 2) scNm.nd rfl (Or.inr rfl) pe_str)
      (pss_cons (ps_set (i := 4) scNm.nd rfl (Or.inl rfl) (pe_join pe_str (pe_lc (own := [("_law_k", 3)]) (g := gName 3) (tt := tYes) (te := tCall (spPick K) [] C8.E0 (tCons (tVar 0) (tCons (tVar 2) tNil))) rfl scNm.nd
          (pi_range1 (by rfl) z.range (pa_cons (pe_op op_add pe_int (C8.pe_c cD hr (by decide) (by rfl) (pa_cons (pv 0) (pa_cons pe_int pa_nil)))) pa_nil))
          (blkOk_by (N := nNm) (sc := C8.fnScope sNames) (own := [("_law_k", 3)]) (by decide +kernel)) (fun _ _ _ _ _ => pg_name (i := 3) scNm.nd rfl (Or.inl rfl)) (fun _ _ _ _ _ => pts_nil)
          (fun _ _ _ _ _ => C8.pe_c cP hr (by decide) (by rfl) (pa_cons (pv 0) (pa_cons (pv 2) pa_nil))))))
      (pss_cons (ps_par3 (i := 5) (j := 6) (l := 7) (by rfl) scNm.nd rfl rfl rfl (by decide) (by decide) (by decide) rfl rfl rfl (pa_cons (C8.pe_c cD hr (by decide) (by rfl) (pa_cons (pv 0) (pa_cons (pe_callB call_len_str (by rfl) z.len (by decide +kernel) (pa_cons (pv 4) pa_nil)) pa_nil)))
          (pa_cons (C8.pe_c cD hr (by decide) (by rfl) (pa_cons (pv 0) (pa_cons pe_int pa_nil))) (pa_cons (C8.pe_c cP hr (by decide) (by rfl) (pa_cons (pv 0) (pa_cons (pe_lst (pa_cons pe_int (pa_cons pe_int (pa_cons pe_int (pa_cons pe_int (pa_cons pe_int (pa_cons pe_int (pa_cons pe_int (pa_cons pe_int pa_nil))))))))) pa_nil))) pa_nil))) (by rfl))
      (pss_cons (ps_set (i := 8) scNm.nd rfl (Or.inl rfl) (pe_lst pa_nil))
      (pss_cons (ps_for PassesOwn.never rfl (pi_range1 (by rfl) z.range (pa_cons (pv 1) pa_nil)) (pg_name (i := 3) scNm.nd rfl (Or.inl rfl))
        (pss_cons (ps_set (i := 9) scNm.nd rfl (Or.inl rfl) (pe_ix ix_str (pv 2) (pe_op op_mod (pe_callTy call_int1 (by rfl) z.int (by decide +kernel) (pa_cons (pe_op op_add (pv 6) (pe_op op_mul (pv 7) (pv 3))) pa_nil)) pe_int) (fun _ _ => rfl)))
        (pss_one (ps_expr (pe_bm PySem.F.plainAttrs_list PySem.F.slot_list_append PySem.F.type_list_append mt_append (pv 8) (pa_cons (pe_op op_add_str (pe_op op_add_str (pe_slice C8.sl_txt (pv 4) po_none (po_some (pv 5))) (pv 9)) (pe_slice C8.sl_txt (pv 4) (po_some (pe_op op_add (pv 5) pe_int)) po_none)) pa_nil))))))
      (pss_cons (ps_if (PW.pt (pw_and (pt_cmpR op_gt (pv 5) pe_int (nomark _)) (pw_and (pt_cmpR op_gt (pv 1) pe_int (nomark _)) (pw_and1 (pt_cmpR op_eq (C8.pe_c cD hr (by decide) (by rfl) (pa_cons (pv 0) (pa_cons pe_int pa_nil))) pe_int (nomark _))))))
        (pss_one (ps_asg (pe_slice C8.sl_txt (pv 4) po_none (po_some (pv 5))) (pg_sub (pv 8) (C8.pe_c cD hr (by decide) (by rfl) (pa_cons (pv 0) (pa_cons (pv 1) pa_nil))) set_list))) pss_nil)
      (pss_one (ps_ret (pv 8)))))))), ?_⟩
    have htp0 : ∃ kvs, H tp = some (.dK kvs) := hT.dk
    obtain ⟨kv0, ht0⟩ := htp0
    -- base
    refine ⟨⟨_, rfl⟩, _, rfl, tp, 8, bb + 19, rfl, hT, by decide, by decide, fun H1 r x1 t1 r0 r1 => ⟨_, _, rfl, rfl, _, rfl, by omega, by omega, fun D hD => ?_⟩⟩
    obtain ⟨kv1, ht1⟩ := t1.dk
    have nDt : D ≠ tp := fun e => by
      rw [e, ht1] at hD
      cases hD
    have hD0 := x1.free hD nDt
    obtain ⟨n, hn⟩ : ∃ n : Nat, (1 + r : Int).toNat = n := ⟨_, rfl⟩
    have hn1 : 1 ≤ n := by omega
    have hn8 : n ≤ 8 := by omega
    show ∃ W : Nat → Nat → Hp → Prop, _
    refine lc_it (J := Itr 0 (1 + r : Int).toNat) walk_range (fun i H2 => ∃ cs : List Nat, SmX tp H H2 ∧ TapeAt K H2 tp (bb + 19 - i) ∧ H2 D = some (.lst (cs.map fun c => V.str (S [c]))) ∧ cs.length = i ∧ ∀ c, c ∈ cs → 97 ≤ c ∧ c ≤ 122)
      ⟨[], x1.to_own hD0, SmX.tape (Same.upd_new hD) t1, upd_same, rfl, fun c h => (nomatch h)⟩ (fun _ _ _ _ => trivial) ?_ ?_
    · rintro i x _ H2 hi ⟨cs, x2, t2, hD2, hcl, hcs⟩ ⟨rfl, rfl⟩
      have hi8 : i < 8 := by omega
      have eb : bb + 19 - i = (bb + 19 - (i + 1)) + 1 := by omega
      rw [eb] at t2
      refine ⟨rfl, _, rfl, _, rfl, tp, .str abc, _, rfl, t2, .inr ⟨abc, rfl, by decide +kernel, by decide +kernel, fun H3 c x3 t3 hc => ?_⟩⟩
      obtain ⟨kv2, ht2⟩ := t2.dk
      have hD3 := x3 _ _ hD2 nDt
      have hD3' : H3 D = some (.lst ((cs.map fun c => S [c]).map V.str)) := by rw [hD3, List.map_map]; rfl
      refine ⟨_, hD3, small1000 (by rw [List.length_map]; omega), cs ++ [c], (x2.trans x3).to_own hD0, t3.strs hD3', ?_, by rw [List.length_append, hcl]; rfl, fun d hd => ?_⟩
      · rw [upd_same, List.map_append]
        rfl
      · rcases List.mem_append.mp hd with hd | hd
        · exact hcs d hd
        · rw [List.mem_singleton.mp hd]
          exact abc_low hc
    rintro H2 ⟨bl, x2, t2, hD2, hbl, hlow⟩
    rw [hn] at hbl t2
    have hD2' : H2 D = some (.lst ((bl.map fun c => S [c]).map V.str)) := by rw [hD2, List.map_map]; rfl
    refine ⟨("" : Str), D, bl.map fun c => S [c], rfl, rfl, .inl (SqL.of hD2'), ?_, ?_⟩
    · have e1 : ((bl.map fun c => S [c]).map (·.length)).sum = bl.length := by
        rw [List.map_map]
        have : ((fun x : Str => x.length) ∘ fun c => S [c]) = fun _ => 1 := by
          funext c
          show (S [c]).length = 1
          rw [S_len]
          rfl
        rw [this]
        clear hlow hbl hD2 hD2'
        induction bl with
        | nil => rfl
        | cons a l ih => rw [List.map_cons, List.sum_cons, ih, List.length_cons]; omega
      rw [e1, List.length_map]
      have e2 : ("" : Str).length = 0 := by decide +kernel
      rw [e2]
      omega
    rw [join_one]
    have t2' : TapeAt K H2 tp (bb + 10 + 1) := t2.less (by omega)
    have hSl : (S bl).length = bl.length := S_len bl
    -- at, first, step
    refine ⟨_, rfl, _, rfl, _, rfl, Nat.le_of_lt (small1000 (by rw [hSl]; omega)), tp, _, bb + 10, rfl, t2', by rw [hSl]; omega, by rw [hSl]; omega, fun H3 at' x3 t3 a0 a1 => ?_⟩
    rw [hSl] at a1
    refine ⟨_, rfl, tp, 26, bb + 9, rfl, t3, by decide, by decide, fun H4 fi x4 t4 f0 f1 => ?_⟩
    obtain ⟨kv4, ht4⟩ := t4.dk
    refine ⟨_, rfl, (by show 8 ≤ sizeLine; decide), fun q hq => ?_⟩
    have s5 := Same.upd_new (o := .lst [.int 1, .int 3, .int 5, .int 7, .int 9, .int 11, .int 15, .int 17]) hq
    refine ⟨tp, .ref q, bb + 8, rfl, SmX.tape s5 t4, .inl ⟨q, _, rfl, .inl (SqL.of upd_same), by simp, (by show 8 ≤ 1000; decide), fun H6 sv x6 t6 hsv => ?_⟩⟩
    obtain ⟨st, hst, rfl⟩ : ∃ st, st ∈ steps8 ∧ sv = .int st := by
      simp only [List.mem_cons, List.not_mem_nil, or_false] at hsv
      rcases hsv with rfl | rfl | rfl | rfl | rfl | rfl | rfl | rfl <;> exact ⟨_, by simp, rfl⟩
    have x16 : SmX tp H H6 := (((x2.trans x3).trans x4).trans (SmX.of s5)).trans x6
    obtain ⟨a', rfl⟩ : ∃ a' : Nat, at' = a' := ⟨at'.toNat, by omega⟩
    have ha' : a' < bl.length := by omega
    refine ⟨_, _, _, rfl, (by show 0 ≤ sizeLine; exact Nat.zero_le _), fun lf hlf => ?_⟩
    obtain ⟨kv6, ht6⟩ := t6.dk
    have nft : lf ≠ tp := fun e => by
      rw [e, ht6] at hlf
      cases hlf
    have hlf0 := x16.free hlf nft
    -- for k in range(many)
    have nml0 : nmL bl a' fi st 0 = [] := rfl
    refine ⟨_, rfl, (m : Nat), rfl, by omega, by omega, for_it (J := Itr 0 ((m : Nat) : Int).toNat) walk_range (fun i σ H7 => ∃ (kk lt : Option V), σ = [some (.ref tp), some (.int (m : Nat)), some (.str abc), kk, some (.str (S bl)), some (.int (a' : Nat)), some (.int fi), some (.int st), some (.ref lf), lt] ∧ SmX tp H H7 ∧ TapeAt K H7 tp (bb + 8) ∧ H7 lf = some (.lst ((nmL bl a' fi st i).map V.str)))
      ⟨none, none, rfl, x16.to_own hlf0, SmX.tape (Same.upd_new hlf) t6, by rw [nml0]; exact upd_same⟩ (fun _ _ _ _ _ => trivial) ?_ ?_⟩
    · rintro i x σ _ H7 hi ⟨kk, lt, rfl, x7, t7, hlf7⟩ ⟨rfl, rfl⟩
      have him : i < m := by omega
      have hs0 : 0 ≤ st ∧ st ≤ 17 := by
        simp only [steps8, List.mem_cons, List.not_mem_nil, or_false] at hst
        rcases hst with rfl | rfl | rfl | rfl | rfl | rfl | rfl | rfl <;> omega
      have e26 : ∃ j : Nat, (fi + st * (0 + (i : Int))) % 26 = j ∧ j < 26 ∧ 97 + j = letK fi st i := by
        have h0 : 0 ≤ (fi + st * (i : Int)) % 26 := Int.emod_nonneg _ (by decide)
        have h1 : (fi + st * (i : Int)) % 26 < 26 := Int.emod_lt_of_pos _ (by decide)
        refine ⟨((fi + st * (i : Int)) % 26).toNat, by rw [Int.zero_add]; omega, by omega, rfl⟩
      obtain ⟨j, ej, hj, el⟩ := e26
      have hal : abc.length ≤ sizeLine := by decide +kernel
      have hgt : atI abc.cps.toList ((fi + st * (0 + (i : Int))) % 26) = some (97 + j) := by rw [ej]; exact atI_nat (abc_get hj)
      refine ⟨_, rfl, _, rfl, _, rfl, _, rfl, _, _, rfl, rfl, .inl ⟨by omega, by omega⟩, _, _, rfl, rfl, .inl ⟨_, rfl, _, _, rfl, rfl, (by show (0 : Int) < 26; decide), abc, _, 97 + j, rfl, rfl, hal, hgt, ?_⟩⟩
      have hlen4 : (nmL bl a' fi st i).length = i := by unfold nmL; rw [List.length_map, List.length_range]
      have zl : (S bl).length ≤ sizeLine := Nat.le_of_lt (small1000 (by rw [hSl]; omega))
      refine ⟨_, rfl, .inl ⟨rfl, _, SqL.of hlf7⟩, _, rfl, _, rfl, _, rfl, S bl, rfl, zl, ?_⟩
      rw [slice_to (by omega)]
      refine ⟨_, rfl, _, _, rfl, rfl, ?_, _, rfl, _, rfl, _, _, rfl, rfl, _, rfl, S bl, rfl, zl, ?_⟩
      · rw [S_len, List.length_take]
        have : (⟨#[97 + j]⟩ : Str).length = 1 := rfl
        rw [this]
        exact Nat.le_of_lt (small1000 (by omega))
      rw [slice_from (by omega)]
      have ea : ((a' : Int) + 1).toNat = a' + 1 := by omega
      have ea0 : ((a' : Int)).toNat = a' := by omega
      rw [ea, ea0]
      have ecat : S (bl.take a') ++ (⟨#[97 + j]⟩ : Str) ++ S (bl.drop (a' + 1)) = S (nmK bl a' fi st i) := by
        show S (bl.take a') ++ S [97 + j] ++ S (bl.drop (a' + 1)) = _
        rw [S_cat, S_cat, el]
        rfl
      refine ⟨_, _, rfl, rfl, ?_, lf, _, _, rfl, rfl, hlf7, small1000 (by rw [List.length_map, hlen4]; omega), ?_⟩
      · have e1 : (S (bl.take a') ++ (⟨#[97 + j]⟩ : Str)).length = (bl.take a').length + 1 := by
          show (S (bl.take a') ++ S [97 + j]).length = _
          rw [S_cat, S_len, List.length_append]
          rfl
        rw [e1, S_len, List.length_take, List.length_drop]
        exact Nat.le_of_lt (small1000 (by omega))
      rw [ecat]
      refine ⟨_, _, rfl, x7.to_own hlf0, t7.strs hlf7, ?_⟩
      rw [upd_same]
      unfold nmL
      rw [List.range_succ, List.map_append, List.map_append]
      rfl
    · rintro σ H7 ⟨kk, lt, rfl, x7, t7, hlf7⟩
      have emm : ((m : Nat) : Int).toNat = m := by omega
      rw [emm] at hlf7
      have hlenm : (nmL bl a' fi st m).length = m := by unfold nmL; rw [List.length_map, List.length_range]
      have hnd := nmL_nd (bl := bl) (at' := a') (f := fi) hst hm6
      have hok : ∀ x, x ∈ nmL bl a' fi st m → NameOk x := fun x hx => by
        unfold nmL at hx
        obtain ⟨i, _, rfl⟩ := List.mem_map.mp hx
        exact nmK_ok ha' (by omega) hlow
      have plain : ∀ {H8 : Hp}, SmX tp H H8 → (∃ b', TapeAt K H8 tp (bb + b')) → H8 lf = some (.lst ((nmL bl a' fi st m).map V.str)) → Q (.ref lf) H8 := fun {H8} x8 ⟨b', t8⟩ h8 => k H8 lf _ x8 (t8.less (by omega)) h8 hlenm hnd hok
      refine ⟨_, rfl, _, _, rfl, rfl, _, rfl, ?_⟩
      refine ite2 (fun hat => ?_) (fun _ => iteF ⟨_, rfl, plain x7 ⟨_, t7⟩ hlf7⟩)
      have hat := of_decide_eq_true hat
      refine ⟨_, rfl, _, _, rfl, rfl, _, rfl, ?_⟩
      rw [decide_eq_true (show (0 : Int) < ((m : Nat) : Int) by omega)]
      refine iteT ⟨_, rfl, tp, 3, bb + 7, rfl, t7, by decide, by decide, fun H8 r8 x8 t8 _ _ => ⟨rfl, _, rfl, ?_⟩⟩
      obtain ⟨kv7, ht7⟩ := t7.dk
      have hlf8 := x8 _ _ hlf7 nft
      have x78 := x7.trans x8
      refine ite2 (fun _ => ?_) (fun _ => ⟨_, rfl, plain x78 ⟨_, t8⟩ hlf8⟩)
      have zl : (S bl).length ≤ sizeLine := Nat.le_of_lt (small1000 (by rw [hSl]; omega))
      refine ⟨_, rfl, _, rfl, _, rfl, S bl, rfl, zl, _, rfl, _, rfl, _, rfl, tp, _, bb + 6, rfl, t8, by omega, by omega, fun H9 r9 x9 t9 q0 q1 => ?_⟩
      rw [slice_to (by omega)]
      obtain ⟨j, rfl⟩ : ∃ j : Nat, r9 = j := ⟨r9.toNat, by omega⟩
      have hjm : j < m := by omega
      have hlf9 := x9 _ _ hlf8 nft
      have hix : ixN ((nmL bl a' fi st m).map V.str).length (j : Int) = some j := by
        rw [List.length_map, hlenm]
        unfold ixN
        rw [if_pos (by omega), if_pos (by omega), Int.toNat_natCast]
      refine ⟨lf, _, _, j, rfl, rfl, hlf9, hix, _, rfl, ?_⟩
      have ea0 : ((a' : Int)).toNat = a' := by omega
      rw [ea0]
      have htk : (bl.take a').length = a' := by rw [List.length_take]; omega
      have hnot : ¬ S (bl.take a') ∈ nmL bl a' fi st m := fun hx => by
        unfold nmL at hx
        obtain ⟨i, _, e⟩ := List.mem_map.mp hx
        have e := congrArg List.length (S_inj e)
        rw [nmK_len ha', htk] at e
        omega
      refine k _ lf ((nmL bl a' fi st m).set j (S (bl.take a'))) ((x78.trans x9).to_own hlf0) ((t9.strs hlf9).less (by omega)) ?_ (by rw [List.length_set, hlenm]) (nd_set j hnd hnot) fun x hx => ?_
      · rw [upd_same, List.map_set]
      · rcases List.mem_or_eq_of_mem_set hx with hx | rfl
        · exact hok x hx
        · refine ⟨by rw [S_cps, htk]; omega, by rw [S_cps, htk]; omega, fun c hc => ?_⟩
          rw [S_cps] at hc
          exact hlow c (List.mem_of_mem_take hc)
end
end Yf
set_option Elab.async false
set_option linter.all false
set_option maxRecDepth 100000
set_option maxHeartbeats 4000000
/-! L5: plans; _law_drawn, _law_built. -/
namespace Yf
open PySem PySem.Spec PyProof.Rows L2
/-- a plan: its rooms (in the order of the dict) and its corridors, in order -/
structure PlX (H : Hp) (pl : Addr) (ns : List Str) (es : List (Str × Str)) (d l : Addr) (kz : List (Key × V)) (xs : List V) : Prop where
  ob : H pl = some (.tup [.ref d, .ref l])
  oD : H d = some (.dK kz)
  kD : kz.map (·.1) = ns.map Sum.inr
  vD : ∀ k v, (k, v) ∈ kz → ∃ i : Int, v = .int i ∧ 1 ≤ i ∧ i ≤ 3
  oL : H l = some (.lst xs)
  pL : Pz H xs es
  gr : PGr ns es
  so : es.Pairwise ple
def PlAt (H : Hp) (pl : Addr) (ns : List Str) (es : List (Str × Str)) : Prop := ∃ d l kz xs, PlX H pl ns es d l kz xs
/-- each room but the first is joined to one ahead -/
inductive Tree : List Str → List (Str × Str) → Prop
  | one (x : Str) : Tree [x] []
  | more {ns : List Str} {es : List (Str × Str)} {x y : Str} : Tree ns es → y ∈ ns → ¬ x ∈ ns → Tree (ns ++ [x]) (es ++ [nrm x y])
theorem nrm_cases (x y : Str) : nrm x y = (x, y) ∨ nrm x y = (y, x) := by
  unfold nrm
  split
  · exact .inl rfl
  · exact .inr rfl
theorem nrm_ord {x y : Str} (h : x ≠ y) : slt (nrm x y).1 (nrm x y).2 = true := by
  unfold nrm
  rcases slt_cases x y with h1 | h1 | h1
  · rw [if_pos h1]
    exact h1
  · exact absurd h1 h
  · rw [if_neg (by rw [slt_asymm h1]; exact Bool.false_ne_true)]
    exact h1
theorem nrm_adj {es : List (Str × Str)} {x y : Str} (h : nrm x y ∈ es) : Adj es x y := by
  rcases nrm_cases x y with e | e
  · rw [e] at h
    exact .inl h
  · rw [e] at h
    exact .inr h
/-- a graph that has all but the size -/
structure Gt (ns : List Str) (es : List (Str × Str)) : Prop where
  ord : ∀ p q, (p, q) ∈ es → slt p q = true
  nde : es.Nodup
  inK : ∀ p q, (p, q) ∈ es → p ∈ ns ∧ q ∈ ns
  conn : ∀ v w, v ∈ ns → w ∈ ns → Conn es v w
theorem Tree.gt {ns : List Str} {es : List (Str × Str)} (h : Tree ns es) : Gt ns es := by
  induction h with
  | one x => exact ⟨fun p q h => (nomatch h), List.nodup_nil, fun p q h => (nomatch h), fun v w hv hw => by rw [List.mem_singleton.mp hv, List.mem_singleton.mp hw]; exact .refl⟩
  | @more ns es x y _ hy hx ih =>
    have nxy : x ≠ y := fun e => hx (e ▸ hy)
    have hsub : ∀ e, e ∈ es → e ∈ es ++ [nrm x y] := fun e h => List.mem_append.mpr (.inl h)
    have had : Adj (es ++ [nrm x y]) x y := nrm_adj (List.mem_append.mpr (.inr (List.mem_singleton.mpr rfl)))
    refine ⟨fun p q h => ?_, nd_snoc1 ih.nde fun h => ?_, fun p q h => ?_, ?_⟩
    · rcases List.mem_append.mp h with h | h
      · exact ih.ord p q h
      · rw [List.mem_singleton] at h
        have := nrm_ord nxy
        rw [← h] at this
        exact this
    · rcases nrm_cases x y with e | e
      · rw [e] at h
        exact hx (ih.inK _ _ h).1
      · rw [e] at h
        exact hx (ih.inK _ _ h).2
    · rcases List.mem_append.mp h with h | h
      · exact ⟨List.mem_append.mpr (.inl (ih.inK p q h).1), List.mem_append.mpr (.inl (ih.inK p q h).2)⟩
      · rw [List.mem_singleton] at h
        have m1 : x ∈ ns ++ [x] := List.mem_append.mpr (.inr (List.mem_singleton.mpr rfl))
        have m2 : y ∈ ns ++ [x] := List.mem_append.mpr (.inl hy)
        rcases nrm_cases x y with e | e <;> rw [e] at h <;> cases h
        · exact ⟨m1, m2⟩
        · exact ⟨m2, m1⟩
    · have toY : ∀ v, v ∈ ns ++ [x] → Conn (es ++ [nrm x y]) v y := fun v hv => by
        rcases List.mem_append.mp hv with hv | hv
        · exact (ih.conn v y hv hy).mono hsub
        · rw [List.mem_singleton.mp hv]
          exact .one had
      exact fun v w hv hw => (toY v hv).trans (toY w hw).symm
theorem Gt.add {ns : List Str} {es : List (Str × Str)} (G : Gt ns es) {x y : Str} (hx : x ∈ ns) (hy : y ∈ ns) (ne : x ≠ y) (h : ¬ nrm x y ∈ es) : Gt ns (es ++ [nrm x y]) := by
  refine ⟨fun p q m => ?_, nd_snoc1 G.nde h, fun p q m => ?_, fun v w hv hw => (G.conn v w hv hw).mono fun e m => List.mem_append.mpr (.inl m)⟩
  · rcases List.mem_append.mp m with m | m
    · exact G.ord p q m
    · rw [List.mem_singleton] at m
      have := nrm_ord ne
      rw [← m] at this
      exact this
  · rcases List.mem_append.mp m with m | m
    · exact G.inK p q m
    · rw [List.mem_singleton] at m
      rcases nrm_cases x y with e | e <;> rw [e] at m <;> cases m
      · exact ⟨hx, hy⟩
      · exact ⟨hy, hx⟩
theorem Gt.pgr {ns : List Str} {es : List (Str × Str)} (G : Gt ns es) (ne : ns ≠ []) (nd : ns.Nodup) (nm : ∀ x, x ∈ ns → NameOk x) (kl : ns.length ≤ 24) (el : es.length ≤ 40) : PGr ns (psort es) where
  ne := ne
  nd := nd
  nm := nm
  kl := kl
  el := by rw [(psort_perm es).length_eq]; exact el
  ord p q h := G.ord p q (mem_psort.mp h)
  nde := (psort_perm es).nodup_iff.mpr G.nde
  inK p q h := G.inK p q (mem_psort.mp h)
  conn v w hv hw := (conn_perm fun e => mem_psort).mpr (G.conn v w hv hw)
theorem psort_id {es : List (Str × Str)} (h : es.Pairwise ple) : psort es = es := (psort_of (List.Perm.refl _) h).symm
end Yf
set_option Elab.async false
set_option linter.all false
set_option maxRecDepth 100000
set_option maxHeartbeats 4000000
/-! F1: pairs whose objects are known (t.index wants a tuple without a dict). -/
namespace Yf
open PySem PySem.Spec PyProof.Rows L2
/-- a tuple whose object is known -/
def Ft (H : Hp) (t : Addr) (zs : List V) : Prop := ∃ o : Obj, o.dict = none ∧ H t = some (.frz o (.tup zs))
theorem Ft.sq {K : PySem.W.Frag} {H : Hp} {t : Addr} {zs : List V} (h : Ft H t zs) : SqT K H t zs := by
  obtain ⟨o, _, h⟩ := h
  exact .inl (.inr ⟨o, h⟩)
def Pf (H0 H : Hp) (xs : List V) (es : List (Str × Str)) : Prop := Paired (fun x (e : Str × Str) => ∃ t, x = V.ref t ∧ H0 t = none ∧ Ft H t [.str e.1, .str e.2]) xs es
theorem Pf.length {H0 H : Hp} {xs : List V} {es : List (Str × Str)} (h : Pf H0 H xs es) : xs.length = es.length := Paired.length h
theorem Pf.mono {H0 H H' : Hp} {xs : List V} {es : List (Str × Str)} (h : Pf H0 H xs es) (k : ∀ t o ys, H t = some (.frz o (.tup ys)) → H' t = some (.frz o (.tup ys))) : Pf H0 H' xs es := Paired.mapP h fun _ _ ⟨t, e, n, o, d, q⟩ => ⟨t, e, n, o, d, k _ _ _ q⟩
theorem Pf.get {H0 H : Hp} : ∀ {xs : List V} {es : List (Str × Str)}, Pf H0 H xs es → ∀ {i : Nat} {x : V}, xs[i]? = some x → ∃ t a b, x = .ref t ∧ es[i]? = some (a, b) ∧ H0 t = none ∧ Ft H t [.str a, .str b]
  | _, _, .nil, i, x, h => by simp at h
  | _, _, .cons (b := e) h t, 0, x, hx => by
    have hx := Option.some.inj hx
    subst hx
    obtain ⟨t, e1, e2⟩ := h
    exact ⟨t, e.1, e.2, e1, rfl, e2⟩
  | _, _, .cons h t, i + 1, x, hx => Pf.get t (i := i) hx
theorem Pf.snoc {H0 H : Hp} : ∀ {xs : List V} {es : List (Str × Str)}, Pf H0 H xs es → ∀ {t : Addr} {p q : Str}, H0 t = none → Ft H t [.str p, .str q] → Pf H0 H (xs ++ [.ref t]) (es ++ [(p, q)])
  | _, _, .nil, t, p, q, n, h => .cons ⟨t, rfl, n, h⟩ .nil
  | _, _, .cons r l, t, p, q, n, h => .cons r (Pf.snoc l n h)
theorem _root_.L2.Same.pf {H0 H H' : Hp} {xs : List V} {es : List (Str × Str)} (s : Same H H') (h : Pf H0 H xs es) : Pf H0 H' xs es := h.mono fun _ _ _ e => s _ _ e
theorem _root_.L2.Same.ft {H H' : Hp} {t : Addr} {zs : List V} (s : Same H H') (h : Ft H t zs) : Ft H' t zs := by
  obtain ⟨o, d, h⟩ := h
  exact ⟨o, d, s _ _ h⟩
theorem Ft.upd {H : Hp} {t l : Addr} {zs ys : List V} {o : HO} (h : Ft H t zs) (hl : H l = some (.lst ys)) : Ft (upd H l o) t zs := by
  obtain ⟨ob, d, h⟩ := h
  exact ⟨ob, d, by rw [upd_ne (ne_of h hl (by intro z; cases z))]; exact h⟩
theorem Pf.upd {H0 H : Hp} {l : Addr} {ys : List V} {o : HO} {xs : List V} {es : List (Str × Str)} (h : Pf H0 H xs es) (hl : H l = some (.lst ys)) : Pf H0 (L2.upd H l o) xs es :=
  h.mono fun t ob zs e => by rw [upd_ne (ne_of e hl (by intro z; cases z))]; exact e
theorem SmX.pf {tp : Addr} {kvs : List (Key × V)} {H0 H H' : Hp} (ht : H tp = some (.dK kvs)) (s : SmX tp H H') {xs : List V} {es : List (Str × Str)} (h : Pf H0 H xs es) : Pf H0 H' xs es := h.mono fun t o zs e => s _ _ e (ne_of e ht (by intro z; cases z))
theorem dp_pairF {K : PySem.W.Frag} {H : Hp} {t : Addr} {p q : Str} (h : Ft H t [.str p, .str q]) : Dp K H (.ref t) (pD (p, q)) := .tup h.sq (.cons (.str p) (.cons (.str q) .nil))
theorem dp_pairsF {K : PySem.W.Frag} {H0 H : Hp} : ∀ {xs : List V} {es : List (Str × Str)}, Pf H0 H xs es → DpAll K H xs (es.map pD)
  | _, _, .nil => .nil
  | _, _, .cons (b := e) r l => by
    obtain ⟨t, rfl, _, h⟩ := r
    exact .cons (dp_pairF h) (dp_pairsF l)
/-! ### sorted -/
def kFf (H : Hp) : V → Str × Str
  | .ref t => match H t with
    | some (.frz _ (.tup [.str a, .str b])) => (a, b)
    | _ => (⟨#[]⟩, ⟨#[]⟩)
  | _ => (⟨#[]⟩, ⟨#[]⟩)
theorem Pf.kFf {H0 H : Hp} : ∀ {xs : List V} {es : List (Str × Str)}, Pf H0 H xs es → es = xs.map (Yf.kFf H) ∧ ∀ x ∈ xs, ∃ t, x = V.ref t ∧ H0 t = none ∧ Ft H t [.str (Yf.kFf H x).1, .str (Yf.kFf H x).2]
  | _, _, .nil => ⟨rfl, fun x hx => by simp at hx⟩
  | x :: xs, e :: es, .cons ⟨t, h1, n0, o, h0, h2⟩ r => by
    obtain ⟨i1, i2⟩ := Pf.kFf (H := H) r
    have e0 : Yf.kFf H x = e := by
      rw [h1]
      show (match H t with | some (.frz _ (.tup [.str a, .str b])) => (a, b) | _ => _) = e
      rw [h2]
    refine ⟨by rw [List.map_cons, e0, ← i1], fun y hy => ?_⟩
    rcases List.mem_cons.mp hy with q | hy
    · rw [q, e0]; exact ⟨t, h1, n0, o, h0, h2⟩
    · exact i2 y hy
theorem Pf.of {H0 H : Hp} : ∀ {xs : List V}, (∀ x ∈ xs, ∃ t, x = V.ref t ∧ H0 t = none ∧ Ft H t [.str (Yf.kFf H x).1, .str (Yf.kFf H x).2]) → Pf H0 H xs (xs.map (Yf.kFf H))
  | [], _ => .nil
  | x :: xs, h => .cons (h x List.mem_cons_self) (Pf.of fun y hy => h y (List.mem_cons_of_mem _ hy))
def rSortedPF (K : PySem.W.Frag) : List V → Hp → VK → Prop := fun vs H Q => ∃ (H0 : Hp) (a : Addr) (xs : List V) (es : List (Str × Str)), vs = [V.ref a] ∧ SqL K H a xs ∧ Pf H0 H xs es ∧
  ∀ ys p, ys.Perm xs → Pf H0 H ys (psort es) → H p = none → Q (.ref p) (upd H p (.lst ys))
section
variable {X : Cx}
theorem cr_sortedPF : CallR X (.builtin "sorted") (rSortedPF X.K) := by
  intro pins s σ H vs us Q I r h
  obtain ⟨H0, a, xs, es, rfl, hs, hx, q⟩ := h
  obtain ⟨ees, hx⟩ := hx.kFf
  obtain ⟨its, rv, hl, hz⟩ := I.list hs
  obtain ⟨u, rfl, ru⟩ := vals1 r
  obtain rfl : u = Value.ref a := ru
  obtain ⟨e1, e2⟩ := refs_back rv fun x m => by
    obtain ⟨t, e, _⟩ := hx x m
    exact ⟨t, e⟩
  refine sorted_ps (k := fun u => kFf H (backV u)) hl.isList (by rw [← rv.length]; exact hz) (fun v hv => ?_) fun h' d out h1 h2 kp hd hn => ?_
  · obtain ⟨t, rfl⟩ := e2 v hv
    have hm : V.ref t ∈ xs := by rw [e1]; exact List.mem_map.mpr ⟨_, hv, rfl⟩
    obtain ⟨t', e, _, ob, h0, ht⟩ := hx _ hm
    cases e
    obtain ⟨hg, _, its2, r2, o, ho, hc, n, hd⟩ := I.hok _ _ ht
    obtain ⟨u1, u2, rfl, ri, rj⟩ := vals2 r2
    obtain ⟨t1, rfl⟩ := ri
    obtain ⟨t2, rfl⟩ := rj
    exact ⟨t, o, t1, t2, n, rfl, ho, hc, hd⟩
  · have h3 : ∀ u ∈ out, ∃ a, u = Value.ref a := fun u hu => e2 u (h2.mem_iff.mp hu)
    obtain ⟨n, hn⟩ := hn
    have hb : (out.map backV).Perm xs := by rw [e1]; exact h2.map backV
    have hp : (out.map backV).map (kFf H) = psort es := by
      refine psort_of ?_ ?_
      · rw [ees]; exact hb.map _
      · rw [List.map_map, List.pairwise_map]
        exact h1.imp fun {a b} z => z
    refine ⟨.ref d, upd H d (.lst (out.map backV)), I.laid (t' := s.toks) kp hd ⟨?_, out, n, vals_back h3, hn⟩, rfl, q _ d hb ?_ (I.hok.fresh hd)⟩
    · rw [hb.length_eq]; exact hz
    · rw [← hp]
      exact Pf.of fun x hm => hx x (hb.mem_iff.mp hm)
/-! ### a tuple made, its object known -/
def tTupF (t : TA) : TE := fun σ H Q => t σ H fun xs H1 => xs.length ≤ sizeLine ∧ ∀ (p : Addr) (o : Obj), o.dict = none → H1 p = none → Q (.ref p) (upd H1 p (.frz o (.tup xs)))
theorem pe_tupF {es : List Expr} {t : TA} {x1} {pos : Pos} (h : PA X es t) : PE X (.Tuple es x1 pos) (tTupF t) := by
  refine ⟨fun pins s σ H Q I hq => ?_⟩
  refine wpAny_Tuple_spliced (thn (h.run pos pins s σ H _ I hq) fun us s1 ⟨xs, H1, I1, r, z, q⟩ => ⟨by rw [← r.length]; exact z, ?_⟩)
  have hf : H1 s1.heap.objs.size = none := I1.hok.fresh (Nat.le_refl _)
  have hg := Heap.get?_push_size s1.heap (o := { cls := .type "tuple", data := .seq us.toArray }) rfl
  refine ⟨.ref s1.heap.objs.size, upd H1 s1.heap.objs.size (.frz { cls := .type "tuple", data := .seq us.toArray } (.tup xs)), I1.laid (t' := s1.toks) (fun b u e => Heap.get?_push_of_some _ e) (Nat.le_refl _) ?_, rfl, q _ _ rfl hf⟩
  exact ⟨hg, z, us, r, ⟨_, hg, rfl, _, rfl⟩⟩
/-! ### t.index(x) -/
def tTix (K : PySem.W.Frag) (to : TE) (t : TA) : TE := fun σ H Q => to σ H fun x H1 => (∃ p xs, x = .ref p ∧ Ft H1 p xs) ∧ t σ H1 fun xs H2 => ∃ p, ∃ ys : List Str, ∃ z j, x = .ref p ∧ xs = [.str z] ∧ SqT K H2 p (ys.map V.str) ∧ ys[j]? = some z ∧ (∀ m, m < j → ys[m]? ≠ some z) ∧ Q (.int (j : Nat)) H2
theorem pe_tix {o e : Expr} {es : List Expr} {to : TE} {t : TA} {apos cpos : Pos} (ho : PE X o to) (ha : PA X (e :: es) t)
    (hbase : attributeBase o "index" X.env (eval o X.env) = eval o X.env := by rfl)
    (hfew : ((backTo cpos (starEach (e :: es) X.env)).all (fun x => !x.1) && (backToKw cpos (keywordEach [] X.env)).all (fun x => x.1.isSome)
      && decide ((e :: es).length + ([] : List Keyword).length + (if ([] : List Keyword).isEmpty then 0 else 1) < 30)) = true := by rfl)
    (hline : (apos.endLine == cpos.line) = true := by rfl) (hs : starEach (e :: es) X.env = (false, eval e X.env) :: starEach es X.env := by rfl) (hplain : (backTo cpos (starEach es X.env)).any (·.1) = false := by rfl) :
    PE X (.Call (.Attribute o "index" apos) (e :: es) [] cpos) (tTix X.K to t) := by
  refine ⟨fun pins s σ H Q I h => ?_⟩
  refine wpAny_Call_method_late hbase hfew hline rfl (thn (ho.run pins s σ H _ I h) fun v s1 ⟨x, H1, I1, r1, ty, q1⟩ => ?_)
  obtain ⟨p, xs, rfl, o, hd, hp⟩ := ty
  have r1' := r1
  obtain rfl : v = Value.ref p := r1'
  obtain ⟨hg, _, its, _, o2, ho2, hc, _⟩ := I1.hok p _ hp
  refine ⟨"tuple", "tuple.index", PySem.F.plainAttrs_tuple, PySem.F.slot_tuple_index, PySem.F.type_tuple_index, ⟨o2, ho2, hc⟩, fun a e => by cases e; exact ⟨o, hg, hd⟩, ?_⟩
  have hA := ha.run cpos pins s1 σ H1 _ I1 q1
  rw [hs] at hA ⊢
  refine Calls.callWith_builtin (by show (false || (backTo cpos (starEach es X.env)).any (·.1)) = false; rw [hplain] <;> rfl) (Calls.evalArgs_plain ?_)
  exact thn hA fun us s2 ⟨vs, H2, I2, r2, q2⟩ => mt_tup_index pins s2 σ H2 (.ref p) vs _ us Q I2 r1 r2 q2
/-! ### what is known of the objects forgotten -/
def thaw (H0 H : Hp) : Hp := fun b => match H0 b, H b with
  | none, some (.frz _ (.tup xs)) => some (.tup xs)
  | _, u => u
theorem thaw_old {H0 H : Hp} {b : Addr} {u : HO} (h : H0 b = some u) : thaw H0 H b = H b := by
  unfold thaw
  rw [h]
theorem thaw_tup {H0 H : Hp} {b : Addr} {o : Obj} {xs : List V} (h0 : H0 b = none) (h : H b = some (.frz o (.tup xs))) : thaw H0 H b = some (.tup xs) := by
  unfold thaw
  rw [h0, h]
theorem thaw_ne {H0 H : Hp} {b : Addr} (h : ∀ o xs, H b ≠ some (.frz o (.tup xs))) : thaw H0 H b = H b := by
  unfold thaw
  split
  · rename_i o xs _ e
    exact absurd e (h o xs)
  · rfl
theorem thaw_cases (H0 H : Hp) (b : Addr) : thaw H0 H b = H b ∨ ∃ o xs, H0 b = none ∧ H b = some (.frz o (.tup xs)) ∧ thaw H0 H b = some (.tup xs) := by
  unfold thaw
  split
  · rename_i o xs e0 e
    exact .inr ⟨o, xs, e0, e, rfl⟩
  · exact .inl rfl
theorem thaw_none {H0 H : Hp} {b : Addr} (h : H b = none) : thaw H0 H b = none := by
  rw [thaw_ne (by rw [h]; intro o xs z; cases z)]
  exact h
theorem hok_thaw {P : Program} {w : World} {H0 H : Hp} {h : Heap} (ok : HOk P w H h) : HOk P w (thaw H0 H) h := by
  have stay : ∀ a o, ObjOk P w H h a o → ObjOk P w (thaw H0 H) h a o := fun a o x =>
    x.stay (fun b u _ q => q) (fun b q => by rw [thaw_ne (by rw [q]; intro o xs z; cases z)]; exact q) fun b xs q => by rw [thaw_ne (by rw [q]; intro o xs z; cases z)]; exact q
  intro a o e
  rcases thaw_cases H0 H a with z | ⟨ob, xs, _, e1, e2⟩
  · rw [z] at e
    exact stay a o (ok a o e)
  · rw [e2] at e
    cases e
    exact stay a _ (ok a _ e1).2
theorem Inv.thaw {pins : List (Addr × Obj)} {σ : L2.St} {H : Hp} {s : Shared} (I : Inv X pins σ H s) : Inv X pins σ (Yf.thaw X.H_0 H) s where
  ok := I.ok
  os := I.os
  bare := I.bare
  base := ⟨I.base.keep, I.base.slot, fun b o e n hx => thaw_none (I.base.free b o e n hx), I.base.there, fun b xs e => by rw [thaw_old e]; exact I.base.tups b xs e, fun b o u e => by rw [thaw_old e]; exact I.base.frzs b o u e,
    fun b ps e => by rw [thaw_old e]; exact I.base.tbls b ps e⟩
  loc := I.loc
  cell := I.cell
  free := thaw_none I.free
  freeC := fun x c e => thaw_none (I.freeC x c e)
  pin := fun p hp => ⟨(I.pin p hp).1, thaw_none (I.pin p hp).2.1, (I.pin p hp).2.2⟩
  hok := hok_thaw I.hok
  len := I.len
def tThaw (H0 : Hp) (te : TE) : TE := fun σ H Q => te σ H fun v H1 => Q v (thaw H0 H1)
theorem pe_thaw {e : Expr} {te : TE} (h : PE X e te) : PE X e (tThaw X.H_0 te) := ⟨fun pins s σ H Q I hq =>
  thn (h.run pins s σ H _ I hq) fun u s1 ⟨v, H1, I1, r, q⟩ => ⟨v, _, Inv.thaw I1, r, q⟩⟩
end
theorem Pf.thaw {H0 H : Hp} {xs : List V} {es : List (Str × Str)} (h : Pf H0 H xs es) : Pz (thaw H0 H) xs es := Paired.mapP h fun _ _ ⟨t, e, n, o, _, q⟩ => ⟨t, e, thaw_tup n q⟩
theorem SmX.thaw {tp : Addr} {H H' : Hp} (s : SmX tp H H') : SmX tp H (thaw H H') := fun b o e n => by rw [thaw_old e]; exact s b o e n
/-- the law's pair, its object known -/
def spPairF : Sp := fun vs H Q _ => ∃ x y, vs = [.str x, .str y] ∧ ∀ H' t, Same H H' → H t = none → Ft H' t [.str (nrm x y).1, .str (nrm x y).2] → Q (.ref t) H'
section
variable {P : Program} {w : World} {K : PySem.W.Frag} {mg : Str → Option Value} {base : Heap}
theorem cal_lpairF {f : Addr} {fd : FuncData} (F : C8.Def K mg "_law_pair" sLPair f fd) (b : Binds K fd ["_law_one", "_law_other"] []) : C8.Cal P w K mg base 1 "_law_pair" spPairF [] := by
  refine C8.cal0 F b .nil scLPair (fun vs H Q E h => ?_) (fun cdv A outer s H vs Q E hr h => ?_)
  · obtain ⟨x, y, rfl, _⟩ := h
    rfl
  · obtain ⟨x, y, rfl, k⟩ := h
    refine ⟨_, pss_one (ps_ret (pe_ifExp (pt_cmpR op_lt_str (pv 0) (pv 1) (nomark _)) (pe_tupF (pa_cons (pv 0) (pa_cons (pv 1) pa_nil))) (pe_tupF (pa_cons (pv 1) (pa_cons (pv 0) pa_nil))))), ?_⟩
    refine ⟨_, rfl, _, rfl, _, _, rfl, rfl, _, rfl, ?_⟩
    rw [slt_dec]
    refine ite2 (fun h => ?_) (fun h => ?_)
    · refine ⟨_, rfl, _, rfl, (by show 2 ≤ sizeLine; decide), fun t o ho ht => k _ t (Same.upd_new ht) ht ⟨o, ho, ?_⟩⟩
      unfold nrm
      rw [if_pos h, upd_same]
    · refine ⟨_, rfl, _, rfl, (by show 2 ≤ sizeLine; decide), fun t o ho ht => k _ t (Same.upd_new ht) ht ⟨o, ho, ?_⟩⟩
      unfold nrm
      rw [if_neg h, upd_same]
end
/-- a plan whose pairs' objects are known -/
structure PfX (H0 H : Hp) (pl : Addr) (ns : List Str) (es : List (Str × Str)) (d l : Addr) (kz : List (Key × V)) (xs : List V) : Prop where
  ob : H pl = some (.tup [.ref d, .ref l])
  oD : H d = some (.dK kz)
  kD : kz.map (·.1) = ns.map Sum.inr
  vD : ∀ k v, (k, v) ∈ kz → ∃ i : Int, v = .int i ∧ 1 ≤ i ∧ i ≤ 3
  oL : H l = some (.lst xs)
  pL : Pf H0 H xs es
  nD : H0 d = none
  gr : PGr ns es
  so : es.Pairwise ple
def PfAt (H0 H : Hp) (pl : Addr) (ns : List Str) (es : List (Str × Str)) : Prop := ∃ d l kz xs, PfX H0 H pl ns es d l kz xs
theorem PfX.thaw {H0 H : Hp} {pl : Addr} {ns : List Str} {es : List (Str × Str)} {d l : Addr} {kz : List (Key × V)} {xs : List V} (p : PfX H0 H pl ns es d l kz xs) : PlX (Yf.thaw H0 H) pl ns es d l kz xs where
  ob := by rw [thaw_ne (by rw [p.ob]; intro o xs z; cases z)]; exact p.ob
  oD := by rw [thaw_ne (by rw [p.oD]; intro o xs z; cases z)]; exact p.oD
  kD := p.kD
  vD := p.vD
  oL := by rw [thaw_ne (by rw [p.oL]; intro o xs z; cases z)]; exact p.oL
  pL := p.pL.thaw
  gr := p.gr
  so := p.so
end Yf
set_option Elab.async false
set_option linter.all false
set_option maxRecDepth 100000
set_option maxHeartbeats 4000000
/-! L6: _law_drawn. -/
namespace Yf
open PySem PySem.Spec PyProof.Rows L2
abbrev nDr : List Str := ["_law_tape", "_law_least", "_law_most", "_law_more", "_law_sizes", "_law_names_here", "_law_plan", "_law_found", "_law_turn", "_law_one", "_law_other", "_law_name", "_law_k"]
theorem scDr : FnScope nDr ["_law_tape", "_law_least", "_law_most", "_law_more", "_law_sizes"] (C8.fnScope sDrawn) := ⟨rfl, rfl, rfl, by decide +kernel, rfl, by decide +kernel, by decide +kernel⟩
def spDrawn (K : PySem.W.Frag) : Sp := fun vs H Q _ => ∃ (tp sz : Addr) (more b : Nat), vs = [.ref tp, .int 1, .int 6, .int (more : Nat), .ref sz] ∧ more ≤ 8 ∧ SqL K H sz [.int 1, .int 2, .int 3] ∧ TapeAt K H tp (b + 120) ∧
  ∀ H' pl ns es, SmX tp H H' → TapeAt K H' tp b → PfAt H H' pl ns es → ns.length ≤ 6 → es.length ≤ 13 → Q (.ref pl) H'
theorem paired_snoc {α β : Type} {R : α → β → Prop} {xs : List α} {ys : List β} {x : α} {y : β} (h : Paired R xs ys) (r : R x y) : Paired R (xs ++ [x]) (ys ++ [y]) := by
  induction h with
  | nil => exact .cons r .nil
  | cons q _ ih => exact .cons q ih
theorem mergeK_nd : ∀ (kvs acc : List (Key × V)), ((acc ++ kvs).map (·.1)).Nodup → mergeK acc kvs = acc ++ kvs
  | [], acc, _ => (List.append_nil acc).symm
  | p :: r, acc, h => by
    have h1 : valV acc p.1 = none := by
      cases e : valV acc p.1 with
      | none => rfl
      | some v =>
        have m := valV_in e
        rw [List.map_append, List.nodup_append] at h
        exact absurd rfl (h.2.2 p.1 m p.1 (List.mem_cons_self ..))
    have h2 : putK acc p.1 p.2 = acc ++ [p] := putK_new p.2 h1
    have ih := mergeK_nd r (acc ++ [p]) (by rw [List.append_assoc]; exact h)
    show mergeK (putK acc p.1 p.2) r = acc ++ p :: r
    rw [h2, ih, List.append_assoc]
    rfl
/-- a store at a list without numbers -/
theorem TapeAt.lst {K : PySem.W.Frag} {H : Hp} {tp q : Addr} {b : Nat} {ys : List V} {o : HO} (h : TapeAt K H tp b) (hq : H q = some (.lst ys)) (hn : ∀ x, x ∈ ys → ∀ i, x ≠ V.int i) : TapeAt K (upd H q o) tp b := by
  obtain ⟨c, cs, p, l, h1, h2, h3, h4⟩ := h
  refine ⟨c, cs, p, l, by rw [upd_ne (ne_of h1 hq (by intro z; cases z))]; exact h1, ?_, h3, h4⟩
  rcases h2 with (h | ⟨u, h⟩) | h
  · refine .inl (.inl ?_)
    rw [upd_ne]
    · exact h
    · intro e
      rw [e, hq] at h
      have e2 := HO.lst.inj (Option.some.inj h)
      cases cs with
      | nil => exact h3 rfl
      | cons x cs => exact hn (.int x) (e2 ▸ List.mem_cons_self ..) x rfl
  · exact .inl (.inr ⟨u, by rw [upd_ne (ne_of h hq (by intro z; cases z))]; exact h⟩)
  · exact .inr h
theorem refs_noint {ps : List Addr} : ∀ x, x ∈ ps.map V.ref → ∀ i, x ≠ V.int i := fun x hx i e => by
  obtain ⟨p, _, rfl⟩ := List.mem_map.mp hx
  cases e
section
variable {P : Program} {w : World} {K : PySem.W.Frag} {mg : Str → Option Value} {base : Heap}
theorem cal_drawn {f : Addr} {fd : FuncData} (F : C8.Def K mg "_law_drawn" sDrawn f fd) (b : Binds K fd ["_law_tape", "_law_least", "_law_most", "_law_more", "_law_sizes"] []) (z : Bi mg) (cD : C8.Cal P w K mg base 1 "_law_draw" (spDraw K) []) (cP : C8.Cal P w K mg base 2 "_law_pick" (spPick K) [])
    (cN : C8.Cal P w K mg base 3 "_law_names" (spNames K) []) (cS : C8.Cal P w K mg base 2 "_law_shuffled" (spShuf K) []) (cL : C8.Cal P w K mg base 1 "_law_pair" spPairF []) : C8.Cal P w K mg base 4 "_law_drawn" (spDrawn K) [] := by
  refine C8.cal0 F b .nil scDr (fun vs H Q E h => ?_) (fun cdv A outer s H vs Q E hr h => ?_)
  · obtain ⟨tp, sz, more, b, rfl, _⟩ := h
    rfl
  · obtain ⟨tp, sz, more, bb, rfl, hm8, hsz, hT, k⟩ := h
    have hu := hu_of hr
    refine ⟨_, pss_cons (ps_set (i := 5) scDr.nd rfl (Or.inr rfl) (C8.pe_c cN hr (by decide) (by rfl) (pa_cons (pv 0) (pa_cons (pe_op op_add (pv 1) (C8.pe_c cD hr (by decide) (by rfl) (pa_cons (pv 0) (pa_cons (pe_op op_add (pe_op op_sub (pv 2) (pv 1)) pe_int) pa_nil)))) pa_nil))))
      (pss_cons (ps_set (i := 6) scDr.nd rfl (Or.inl rfl) (pe_callTy (call_dictP rfl) (by rfl) z.dict (by decide +kernel) (pa_cons (pe_lc (own := [("_law_name", 11)]) (g := gName 11) (tt := tYes) (te := tTup (tCons (tVar 11) (tCons (tCall (spPick K) [] C8.E0 (tCons (tVar 0) (tCons (tVar 4) tNil))) tNil))) rfl scDr.nd (pi_list (pv 5))
          (blkOk_by (N := nDr) (sc := C8.fnScope sDrawn) (own := [("_law_name", 11)]) (by decide +kernel)) (fun _ _ _ _ _ => pg_name (i := 11) scDr.nd rfl (Or.inl rfl)) (fun _ _ _ _ _ => pts_nil)
          (fun _ _ _ _ _ => pe_tup (pa_cons (pv 11) (pa_cons (C8.pe_c cP hr (by decide) (by rfl) (pa_cons (pv 0) (pa_cons (pv 4) pa_nil))) pa_nil)))) pa_nil)))
      (pss_cons (ps_setLc (i := 7) (own := [("_law_k", 12)]) (g := gName 12) (tt := tYes) (te := tCall spPairF [] C8.E0 (tCons (tOp (rIxL K) (tVar 5) (tVar 12)) (tCons (tOp (rIxL K) (tVar 5) (tCall (spDraw K) [] C8.E0 (tCons (tVar 0) (tCons (tVar 12) tNil)))) tNil))) rfl scDr.nd rfl rfl (sw_true rfl rfl rfl (by decide +kernel))
          (pi_range2 (by rfl) z.range (pa_cons pe_int (pa_cons (pe_callB call_len_seq (by rfl) z.len (by decide +kernel) (pa_cons (pv 5) pa_nil)) pa_nil)))
          (blkOk_by (N := nDr) (sc := C8.fnScope sDrawn) (own := [("_law_k", 12)]) (by decide +kernel)) (fun _ _ _ _ _ => pg_name (i := 12) scDr.nd rfl (Or.inl rfl)) (fun _ _ _ _ _ => pts_nil)
          (fun _ _ _ _ _ => C8.pe_c cL hr (by decide) (by rfl) (pa_cons (pe_ix ix_list (pv 5) (pv 12) (fun _ _ => rfl)) (pa_cons (pe_ix ix_list (pv 5) (C8.pe_c cD hr (by decide) (by rfl) (pa_cons (pv 0) (pa_cons (pv 12) pa_nil))) (fun _ _ => rfl)) pa_nil))))
      (pss_cons (ps_for PassesOwn.never rfl (pi_range1 (by rfl) z.range (pa_cons (pe_op op_mul (C8.pe_c cD hr (by decide) (by rfl) (pa_cons (pv 0) (pa_cons (pe_op op_add (pv 3) pe_int) pa_nil))) (pe_callTy call_int1 (by rfl) z.int (by decide +kernel) (pa_cons (pe_cmpR op_gt (pe_callB call_len_seq (by rfl) z.len (by decide +kernel) (pa_cons (pv 5) pa_nil)) pe_int (nomark _)) pa_nil))) pa_nil)) (pg_name (i := 8) scDr.nd rfl (Or.inl rfl))
        (pss_cons (ps_asg (pe_slice sl_list (C8.pe_c cS hr (by decide) (by rfl) (pa_cons (pv 0) (pa_cons (pv 5) pa_nil))) po_none (po_some pe_int)) (pg_unl rfl (pgs_cons (pg_name (i := 9) scDr.nd rfl (Or.inl rfl)) (pgs_cons (pg_name (i := 10) scDr.nd rfl (Or.inl rfl)) pgs_nil))))
        (pss_one (ps_if (PW.pt (pw_and (pt_cmpR (op_notInD (hu65 hr)) (C8.pe_c cL hr (by decide) (by rfl) (pa_cons (pv 9) (pa_cons (pv 10) pa_nil))) (pv 7) (by rfl)) (pw_and1 (pt_cmpR op_lt (pe_callB call_len_seq (by rfl) z.len (by decide +kernel) (pa_cons (pv 7) pa_nil)) pe_int (nomark _)))))
          (pss_one (ps_expr (pe_bm PySem.F.plainAttrs_list PySem.F.slot_list_append PySem.F.type_list_append mt_append (pv 7) (pa_cons (C8.pe_c cL hr (by decide) (by rfl) (pa_cons (pv 9) (pa_cons (pv 10) pa_nil))) pa_nil)))) pss_nil))))
      (pss_one (ps_ret (pe_tup (pa_cons (pv 6) (pa_cons (pe_callB cr_sortedPF (by rfl) z.sorted (by decide +kernel) (pa_cons (pv 7) pa_nil)) pa_nil)))))))), ?_⟩
    -- names_here
    refine ⟨_, rfl, _, rfl, _, rfl, _, rfl, _, rfl, _, _, rfl, rfl, _, _, rfl, rfl, tp, 6, bb + 119, rfl, hT, by decide, by decide, fun H1 r x1 t1 r0 r1 => ⟨_, _, rfl, rfl, ?_⟩⟩
    obtain ⟨m, hm⟩ : ∃ m : Nat, 1 + r = (m : Int) := ⟨(1 + r).toNat, by omega⟩
    refine ⟨tp, m, bb + 99, by show [V.ref tp, V.int (1 + r)] = _; rw [hm], by omega, by omega, t1, fun H2 ln ns x2 t2 hln hlen hnd hok => ?_⟩
    have x12 := x1.trans x2
    obtain ⟨kv0, ht0⟩ := hT.dk
    obtain ⟨kv2, ht2⟩ := t2.dk
    have hsz2 : SqL K H2 sz [.int 1, .int 2, .int 3] := x12.seqD ht0 hsz
    have hn1 : 1 ≤ ns.length := by omega
    have hn6 : ns.length ≤ 6 := by omega
    have nlt : ln ≠ tp := ne_of hln ht2 (by intro z; cases z)
    -- plan
    refine ⟨_, rfl, ln, rfl, ⟨_, SqL.of hln⟩, fun D hD => ?_⟩
    have nDt : D ≠ tp := fun e => by
      rw [e, ht2] at hD
      cases hD
    refine lc_it walk_list (fun i H3 => ∃ (ps : List Addr) (kvs : List (Key × V)), SmX tp H2 H3 ∧ TapeAt K H3 tp (bb + 99 - i) ∧ H3 D = some (.lst (ps.map V.ref)) ∧ Paired (fun p kv => H3 p = some (.tup [kV kv.1, kv.2])) ps kvs ∧ kvs.map (·.1) = (ns.take i).map Sum.inr ∧ ∀ k v, (k, v) ∈ kvs → ∃ i : Int, v = .int i ∧ 1 ≤ i ∧ i ≤ 3)
      ⟨[], [], SmX.of (Same.upd_new hD), SmX.tape (Same.upd_new hD) t2, upd_same, .nil, rfl, fun k v h => (nomatch h)⟩ (fun i H3 _ ⟨_, _, x3, _⟩ => SqL.of (x3 _ _ hln nlt)) ?_ ?_
    · rintro i x _ H3 hi ⟨ps, kvs, x3, t3, hD3, P3, hk3, hv3⟩ ⟨rfl, hx⟩
      obtain ⟨nm, hnm, rfl⟩ := map_get hx
      have hi6 : i < 6 := Nat.lt_of_lt_of_le (lt_of_get hnm) hn6
      have eb : bb + 99 - i = (bb + 99 - (i + 1)) + 1 := by omega
      rw [eb] at t3
      refine ⟨rfl, _, rfl, _, rfl, _, rfl, tp, .ref sz, _, rfl, t3, .inl ⟨sz, _, rfl, .inl (x3.seqD ht2 hsz2), by simp, (by show 3 ≤ 1000; decide), fun H4 v x4 t4 hv => ?_⟩⟩
      refine ⟨(by show 2 ≤ sizeLine; decide), fun t ht => ?_⟩
      have s5 := Same.upd_new (o := .tup [.str nm, v]) ht
      have hD4 := x4 _ _ hD3 nDt
      obtain ⟨kv3, ht3⟩ := t3.dk
      have P4 : Paired (fun p kv => H4 p = some (.tup [kV kv.1, kv.2])) ps kvs := Paired.mapP P3 fun p kv e => x4 _ _ e (ne_of e ht3 (by intro z; cases z))
      have hD5 : (upd H4 t (.tup [.str nm, v])) D = some (.lst (ps.map V.ref)) := s5 _ _ hD4
      have hlp : ps.length = i := by
        have h1 := P3.length
        have h2 := congrArg List.length hk3
        rw [List.length_map, List.length_map, List.length_take] at h2
        have := lt_of_get hnm
        omega
      refine ⟨_, hD5, small1000 (by rw [List.length_map]; omega), ps ++ [t], kvs ++ [(.inr nm, v)], ((x3.trans x4).trans (SmX.of s5)).to_own hD, ?_, by rw [upd_same, List.map_append]; rfl, ?_, ?_, ?_⟩
      · exact (SmX.tape s5 t4).lst hD5 refs_noint
      · refine paired_snoc (Paired.mapP P4 fun p kv e => ?_) ?_
        · have e5 := s5 _ _ e
          rw [upd_ne (ne_of e5 hD5 (by intro z; cases z))]
          exact e5
        · have nt : t ≠ D := (ne_of_none hD4 ht).symm
          rw [upd_ne nt, upd_same]
          rfl
      · rw [List.map_append, hk3, take_snoc hnm, List.map_append]
        rfl
      · intro k' v' hk'
        rcases List.mem_append.mp hk' with hk' | hk'
        · exact hv3 k' v' hk'
        · rw [List.mem_singleton] at hk'
          cases hk'
          simp only [List.mem_cons, List.not_mem_nil, or_false] at hv
          rcases hv with rfl | rfl | rfl <;> exact ⟨_, rfl, by decide, by decide⟩
    rintro H3 ⟨ps, kvs, x3, t3, hD3, P3, hk3, hv3⟩
    rw [List.length_map, List.take_length] at hk3
    rw [List.length_map] at t3
    refine ⟨D, ps, kvs, rfl, SqL.of hD3, Paired.mapP P3 fun p kv e => SqT.of e, fun d hd => ?_⟩
    have hmg : mergeK [] kvs = kvs := mergeK_nd kvs [] (by rw [List.nil_append, hk3]; exact List.Pairwise.map _ (fun a b h e => h (Sum.inr.inj e)) hnd)
    rw [hmg]
    have s4 := Same.upd_new (o := .dK kvs) hd
    have t4 : TapeAt K (upd H3 d (.dK kvs)) tp (bb + 90) := (SmX.tape s4 t3).less (by omega)
    have x24 : SmX tp H2 (upd H3 d (.dK kvs)) := x3.trans (SmX.of s4)
    have hln4 := x24 _ _ hln nlt
    have hd4 : (upd H3 d (.dK kvs)) d = some (.dK kvs) := upd_same
    obtain ⟨kv3, ht3⟩ := t3.dk
    have ndt : d ≠ tp := (ne_of_none ht3 hd).symm
    have hd0 : H d = none := (x12.trans x3).free hd ndt
    generalize upd H3 d (.dK kvs) = J4 at t4 x24 hln4 hd4
    obtain ⟨kv4, ht4⟩ := t4.dk
    -- found
    refine ⟨_, rfl, ln, _, rfl, .inl (SqL.of hln4), _, _, rfl, ⟨by decide, by decide, by rw [List.length_map]; omega, by rw [List.length_map]; omega⟩, fun E2 hE2 => ?_⟩
    have hE2t : E2 ≠ tp := fun e => by
      rw [e, ht4] at hE2
      cases hE2
    refine lc_it (J := Itr 1 (((ns.map V.str).length : Int) - 1).toNat) walk_range (fun i H5 => ∃ (ys : List V) (es : List (Str × Str)), SmX tp J4 H5 ∧ TapeAt K H5 tp (bb + 90 - i) ∧ H5 E2 = some (.lst ys) ∧ Pf H H5 ys es ∧ Tree (ns.take (i + 1)) es ∧ es.length = i)
      ⟨[], [], SmX.of (Same.upd_new hE2), SmX.tape (Same.upd_new hE2) t4, upd_same, .nil, ?_, rfl⟩ (fun _ _ _ _ => trivial) ?_ ?_
    · match ns, hn1 with
      | x :: r, _ => exact .one x
    · rintro i x _ H5 hi ⟨ys, es, x5, t5, hE5, P5, T5, el5⟩ ⟨rfl, rfl⟩
      rw [List.length_map] at hi
      have hi1 : i + 1 < ns.length := by omega
      have eb : bb + 90 - i = (bb + 90 - (i + 1)) + 1 := by omega
      rw [eb] at t5
      have hln5 := x5 _ _ hln4 nlt
      obtain ⟨kv5, ht5⟩ := t5.dk
      have hg1 : (ns.map V.str)[i + 1]? = some (.str ns[i + 1]) := by simp [hi1]
      refine ⟨rfl, _, rfl, _, rfl, ln, _, _, _, rfl, rfl, SqL.of hln5, at_of (j := i + 1) (by omega) hg1, _, rfl, _, rfl, _, rfl, tp, _, bb + 90 - (i + 1), rfl, t5, by omega, by omega, fun H6 r6 x6 t6 q0 q1 => ?_⟩
      obtain ⟨j, rfl⟩ : ∃ j : Nat, r6 = j := ⟨r6.toNat, by omega⟩
      have hj : j < i + 1 := by omega
      have hj1 : j < ns.length := by omega
      have hg2 : (ns.map V.str)[j]? = some (.str ns[j]) := by simp [hj1]
      have hln6 := x6 _ _ hln5 (ne_of hln5 ht5 (by intro z; cases z))
      have hE6 := x6 _ _ hE5 hE2t
      have P6 : Pf H H6 ys es := P5.mono fun a o zs e => x6 _ _ e (ne_of e ht5 (by intro z; cases z))
      refine ⟨ln, _, _, _, rfl, rfl, SqL.of hln6, atI_nat hg2, ns[i + 1], ns[j], rfl, fun H7 t s7 h07 ht7 => ?_⟩
      have hE7 := s7 _ _ hE6
      have P7 := s7.pf P6
      have hyl := P7.length
      refine ⟨ys, hE7, small1000 (by omega), ys ++ [.ref t], es ++ [nrm ns[i + 1] ns[j]], ((x5.trans x6).trans (SmX.of s7)).to_own hE2, (SmX.tape s7 t6).lst hE7 ?_, upd_same, ?_, ?_, by rw [List.length_append, el5]; rfl⟩
      · intro v hv n e
        obtain ⟨n1, hn1'⟩ := List.getElem?_of_mem hv
        obtain ⟨t', _, _, e', _⟩ := P7.get hn1'
        rw [e] at e'
        cases e'
      · obtain ⟨kv6, ht6⟩ := t6.dk
        exact (P7.upd hE7).snoc (((x12.trans x24).trans (x5.trans x6)).free h07 (ne_of_none ht6 h07).symm) (ht7.upd hE7)
      · have hget : ns[i + 1]? = some ns[i + 1] := List.getElem?_eq_getElem hi1
        rw [take_snoc hget]
        refine .more T5 ?_ ?_
        · exact List.mem_of_getElem? (i := j) (by rw [List.getElem?_take, if_pos hj, List.getElem?_eq_getElem hj1])
        · intro mm
          obtain ⟨n1, hn1'⟩ := List.getElem?_of_mem mm
          rw [List.getElem?_take] at hn1'
          split at hn1'
          · have := nd_ix hnd hn1' hget
            omega
          · cases hn1'
    rintro H5 ⟨ys, es, x5, t5, hE5, P5, T5, el5⟩
    have elen : (((ns.map V.str).length : Int) - 1).toNat + 1 = ns.length := by rw [List.length_map]; omega
    rw [elen, List.take_length] at T5
    have el6 : es.length ≤ 5 := by rw [List.length_map] at el5; omega
    have t5 : TapeAt K H5 tp (bb + 60) := t5.less (by rw [List.length_map]; omega)
    have G5 := T5.gt
    have hln5 := x5 _ _ hln4 nlt
    -- more corridors
    refine ⟨_, rfl, _, rfl, _, _, rfl, rfl, tp, _, bb + 59, rfl, t5, by omega, by omega, fun H6 r6 x6 t6 q0 q1 => ?_⟩
    obtain ⟨kv5, ht5⟩ := t5.dk
    have hln6 := x6 _ _ hln5 (ne_of hln5 ht5 (by intro z; cases z))
    obtain ⟨tn, htn, htn8, htn3⟩ : ∃ tn : Nat, (r6 * (if decide ((2 : Int) < ((ns.map V.str).length : Int)) = true then 1 else 0) : Int) = (tn : Int) ∧ tn ≤ 8 ∧ (0 < tn → 2 < ns.length) := by
      rw [List.length_map]
      by_cases h : (2 : Int) < (ns.length : Int)
      · refine ⟨r6.toNat, by rw [decide_eq_true h, if_pos rfl]; omega, by omega, fun _ => by omega⟩
      · refine ⟨0, by rw [decide_eq_false h, if_neg (by decide)]; omega, by omega, fun h => absurd h (by decide)⟩
    refine ⟨_, rfl, ln, _, rfl, .inl (SqL.of hln6), _, _, rfl, rfl, .inr ⟨_, rfl, _, _, rfl, rfl, .inl ⟨by omega, by omega⟩, (tn : Int), by rw [← htn], by omega, by omega, ?_⟩⟩
    have emm : ((tn : Nat) : Int).toNat = tn := by omega
    refine for_it (J := Itr 0 ((tn : Nat) : Int).toNat) walk_range (fun i σ H7 => ∃ (u v x : Option V) (ys : List V) (es : List (Str × Str)), σ = [some (.ref tp), some (.int 1), some (.int 6), some (.int (more : Nat)), some (.ref sz), some (.ref ln), some (.ref d), some (.ref E2), u, v, x, none, none] ∧ SmX tp J4 H7 ∧ TapeAt K H7 tp (bb + 59 - 7 * i) ∧ H7 E2 = some (.lst ys) ∧ Pf H H7 ys es ∧ Gt ns es ∧ es.length ≤ 5 + i)
      ⟨none, none, none, ys, es, rfl, x5.trans x6, t6, x6 _ _ hE5 hE2t, P5.mono fun a o zs e => x6 _ _ e (ne_of e ht5 (by intro z; cases z)), G5, el6⟩ (fun _ _ _ _ _ => trivial) ?_ ?_
    · rintro i x σ _ H7 hi ⟨u, v, x', ys, es, rfl, x7, t7, hE7, P7, G7, e7⟩ ⟨rfl, rfl⟩
      have hi' : i < tn := by omega
      have h3 := htn3 (by omega)
      have hln7 := x7 _ _ hln4 nlt
      refine ⟨_, rfl, _, rfl, tp, ln, ns, bb + 59 - 7 * (i + 1) + 1, rfl, SqL.of hln7, by omega, hok, t7.less (by omega), fun H8 l zs x8 t8 hl8 pm => ?_⟩
      obtain ⟨kv7, ht7⟩ := t7.dk
      have hE8 := x8 _ _ hE7 hE2t
      have P8 : Pf H H8 ys es := P7.mono fun a o zs e => x8 _ _ e (ne_of e ht7 (by intro z; cases z))
      have hzl : zs.length = ns.length := pm.length_eq
      have hznd : zs.Nodup := pm.nodup_iff.mpr hnd
      match zs, hzl, hznd, pm, hl8 with
      | o1 :: o2 :: zr, hzl, hznd, pm, hl8 =>
        refine ⟨_, rfl, l, _, rfl, SqL.of hl8, fun p hp => ?_⟩
        have hcut : cutV ((o1 :: o2 :: zr).map V.str) none (some 2) = [.str o1, .str o2] := by
          unfold cutV
          have e1 : HT.sIx ((o1 :: o2 :: zr).map V.str).length ((o1 :: o2 :: zr).map V.str).length (some 2) = min 2 ((o1 :: o2 :: zr).map V.str).length := HT.sIx_nat _ _ 2
          rw [e1, HT.sIx_none, List.length_map, Nat.min_eq_left (by simp)]
          rfl
        rw [hcut] at *
        have s9 := Same.upd_new (o := .lst [.str o1, .str o2]) hp
        refine ⟨p, _, rfl, SqL.of upd_same, rfl, _, _, rfl, _, _, rfl, rfl, ?_⟩
        have m1 : o1 ∈ ns := pm.mem_iff.mp (List.mem_cons_self ..)
        have m2 : o2 ∈ ns := pm.mem_iff.mp (List.mem_cons_of_mem _ (List.mem_cons_self ..))
        have n12 : o1 ≠ o2 := fun e => (List.nodup_cons.mp hznd).1 (e ▸ List.mem_cons_self ..)
        have t9 := SmX.tape s9 t8
        have hE9 := s9 _ _ hE8
        have P9 := s9.pf P8
        have x79 := (x7.trans x8).trans (SmX.of s9)
        refine ⟨_, rfl, _, rfl, o1, o2, rfl, fun H10 t s10 _ ht10 => ?_⟩
        have hE10 := s10 _ _ hE9
        have P10 := s10.pf P9
        have t10 := SmX.tape s10 t9
        have nmn : NameOk (nrm o1 o2).1 ∧ NameOk (nrm o1 o2).2 := by
          rcases nrm_cases o1 o2 with e | e <;> rw [e]
          · exact ⟨hok _ m1, hok _ m2⟩
          · exact ⟨hok _ m2, hok _ m1⟩
        refine ⟨_, rfl, pD (nrm o1 o2), es.map pD, dp_pairF ht10, .lst (SqL.of hE10) (dp_pairsF P10), shaped_pair nmn.1 nmn.2, shaped_pairs (fun e he => ⟨hok _ (G7.inK e.1 e.2 he).1, hok _ (G7.inK e.1 e.2 he).2⟩), _, rfl, ?_⟩
        rw [any_pD]
        by_cases hin : nrm o1 o2 ∈ es
        · rw [decide_eq_true hin]
          exact iteF ⟨_, _, _, ys, es, rfl, x79.trans (SmX.of s10), t10.less (by omega), hE10, P10, G7, by omega⟩
        · rw [decide_eq_false hin]
          have hyl := P10.length
          refine iteT ⟨_, rfl, E2, ys, rfl, .inl (SqL.of hE10), _, _, rfl, rfl, _, rfl, ?_⟩
          rw [decide_eq_true (show ((ys.length : Int)) < 40 by omega)]
          refine iteT ⟨_, rfl, .inl ⟨rfl, _, SqL.of hE10⟩, _, rfl, _, rfl, o1, o2, rfl, fun H11 t2 s11 h011 ht11 => ?_⟩
          have hE11 := s11 _ _ hE10
          have P11 := s11.pf P10
          refine ⟨E2, _, _, rfl, rfl, hE11, small1000 (by omega), _, _, _, ys ++ [.ref t2], es ++ [nrm o1 o2], rfl, ((x79.trans (SmX.of s10)).trans (SmX.of s11)).to_own hE2, ((SmX.tape s11 t10).lst hE11 ?_).less (by omega), upd_same, ?_, G7.add m1 m2 n12 hin, by rw [List.length_append]; exact Nat.succ_le_succ e7⟩
          · intro v hv n e
            obtain ⟨n1, hn1'⟩ := List.getElem?_of_mem hv
            obtain ⟨t', _, _, e', _⟩ := P11.get hn1'
            rw [e] at e'
            cases e'
          · obtain ⟨kv10, ht10'⟩ := t10.dk
            exact (P11.upd hE11).snoc (((x12.trans x24).trans (x79.trans (SmX.of s10))).free h011 (ne_of_none ht10' h011).symm) (ht11.upd hE11)
      | [], hzl, _, _, _ => exact absurd hzl (by simp; omega)
      | [_], hzl, _, _, _ => exact absurd hzl (by simp; omega)
    · rintro σ H7 ⟨u, v, x', ys, es, rfl, x7, t7, hE7, P7, G7, e7⟩
      rw [emm] at e7
      have hd7 := x7 _ _ hd4 ndt
      refine ⟨_, rfl, _, rfl, H, E2, ys, es, rfl, SqL.of hE7, P7, fun zs p pm PZ hp => ⟨(by show 2 ≤ sizeLine; decide), fun t ht => ?_⟩⟩
      have s8 := Same.upd_new (o := .lst zs) hp
      have s9 := s8.to_new (o := .tup [.ref d, .ref p]) ht
      have hpl : (psort es).length ≤ 13 := by rw [(psort_perm es).length_eq]; omega
      refine k _ t ns (psort es) ((x12.trans x24).trans (x7.trans (SmX.of s9))) ((SmX.tape s9 t7).less (by omega)) ⟨d, p, kvs, zs, upd_same, s9 _ _ hd7, hk3, hv3, ?_, s9.pf PZ, hd0, G7.pgr (fun e => by rw [e] at hn1; simp at hn1) hnd hok (by omega) (by omega), psort_pw es⟩ hn6 hpl
      rw [upd_ne (ne_of_none upd_same ht)]
      exact upd_same
end
end Yf
set_option Elab.async false
set_option linter.all false
set_option maxRecDepth 100000
set_option maxHeartbeats 4000000
/-! L7: _law_built, _law_near. -/
namespace Yf
open PySem PySem.Spec PyProof.Rows L2
theorem PlX.same {H H' : Hp} {pl : Addr} {ns : List Str} {es : List (Str × Str)} {d l : Addr} {kz : List (Key × V)} {xs : List V} (p : PlX H pl ns es d l kz xs) (s : Same H H') : PlX H' pl ns es d l kz xs :=
  { p with ob := s _ _ p.ob, oD := s _ _ p.oD, oL := s _ _ p.oL, pL := s.pz p.pL }
theorem PlAt.same {H H' : Hp} {pl : Addr} {ns : List Str} {es : List (Str × Str)} (p : PlAt H pl ns es) (s : Same H H') : PlAt H' pl ns es := by
  obtain ⟨d, l, kz, xs, p⟩ := p
  exact ⟨d, l, kz, xs, p.same s⟩
def spBuilt (C : Addr) : Sp := fun vs H Q _ => ∃ (pl : Addr) (ns : List Str) (es : List (Str × Str)), vs = [.ref pl] ∧ PlAt H pl ns es ∧ ∀ H' h, Same H H' → BAt C H' h (ssort ns) es → Q (.ref h) H'
theorem scBuilt : FnScope ["_law_plan"] ["_law_plan"] (C8.fnScope sBuilt) := ⟨rfl, rfl, rfl, by decide +kernel, rfl, by decide +kernel, by decide +kernel⟩
section
variable {P : Program} {w : World} {K : PySem.W.Frag} {mg : Str → Option Value} {base : Heap}
theorem cal_built {C f : Addr} {fd : FuncData} (F : C8.Def K mg "_law_built" sBuilt f fd) (b : Binds K fd ["_law_plan"] []) (mB : C8.Mak P w K mg base 5 "Building" C (spBI K C) []) : C8.Cal P w K mg base 7 "_law_built" (spBuilt C) [] := by
  refine C8.cal0 F b .nil scBuilt (fun vs H Q E h => ?_) (fun cdv A outer s H vs Q E hr h => ?_)
  · obtain ⟨pl, ns, es, rfl, _⟩ := h
    rfl
  · obtain ⟨pl, ns, es, rfl, ⟨d, l, kz, xs, p⟩, k⟩ := h
    refine ⟨_, pss_one (ps_ret (C8.pe_mk mB hr (by decide) (by rfl) (pa_cons (pe_ix ix_tup (pv 0) pe_int (fun _ _ => rfl)) (pa_cons (pe_ix ix_tup (pv 0) pe_int (fun _ _ => rfl)) pa_nil)))), ?_⟩
    refine ⟨_, rfl, pl, _, _, .ref d, rfl, rfl, SqT.of p.ob, atI_nat (j := 0) rfl, _, rfl, pl, _, _, .ref l, rfl, rfl, SqT.of p.ob, atI_nat (j := 1) rfl, fun z dx hz hdx ne => ?_⟩
    have s1 : Same H (upd (upd H dx (.own z)) z (.ins C dx [])) := fun b o eb => by
      rw [upd_ne (ne_of_none eb hz), upd_ne (ne_of_none eb hdx)]
      exact eb
    have p1 := p.same s1
    refine ⟨z, d, l, dx, kz, ns, xs, es, rfl, upd_same, p1.oD, p1.kD, p1.vD, SqL.of p1.oL, p1.pL, p1.gr, fun H' x B => ⟨rfl, k H' z (fun b o eb => x b o (s1 b o eb) (ne_of_none eb hz)) ?_⟩⟩
    rw [psort_id p.so] at B
    exact B
end
end Yf
set_option Elab.async false
set_option linter.all false
set_option maxRecDepth 100000
set_option maxHeartbeats 4000000
/-! L8: _law_near, _law_two_sided, _law_some_plan. -/
namespace Yf
open PySem PySem.Spec PyProof.Rows L2
theorem inV_strs (x : Str) (ys : List Str) : inV (V.str x) (ys.map V.str) = decide (x ∈ ys) := by
  unfold inV
  by_cases m : x ∈ ys
  · rw [decide_eq_true m, List.any_eq_true]
    exact ⟨.str x, List.mem_map.mpr ⟨x, m, rfl⟩, by simp [eqV]⟩
  · rw [decide_eq_false m, List.any_eq_false]
    intro u hu
    obtain ⟨q, hq, rfl⟩ := List.mem_map.mp hu
    have : q ≠ x := fun e => m (e ▸ hq)
    simp [eqV, this]
theorem adj_snoc {es : List (Str × Str)} {a b x y : Str} : Adj (es ++ [(a, b)]) x y ↔ Adj es x y ∨ (x = a ∧ y = b) ∨ (y = a ∧ x = b) := by
  unfold Adj
  rw [List.mem_append, List.mem_append, List.mem_singleton, List.mem_singleton, Prod.mk.injEq, Prod.mk.injEq]
  constructor
  · rintro ((h | h) | (h | h))
    · exact .inl (.inl h)
    · exact .inr (.inl h)
    · exact .inl (.inr h)
    · exact .inr (.inr h)
  · rintro ((h | h) | (h | h))
    · exact .inl (.inl h)
    · exact .inr (.inl h)
    · exact .inl (.inr h)
    · exact .inr (.inr h)
theorem PfX.same {H0 H H' : Hp} {pl : Addr} {ns : List Str} {es : List (Str × Str)} {d l : Addr} {kz : List (Key × V)} {xs : List V} (p : PfX H0 H pl ns es d l kz xs) (s : Same H H') : PfX H0 H' pl ns es d l kz xs :=
  { p with ob := s _ _ p.ob, oD := s _ _ p.oD, oL := s _ _ p.oL, pL := s.pf p.pL }
theorem PfAt.same {H0 H H' : Hp} {pl : Addr} {ns : List Str} {es : List (Str × Str)} (p : PfAt H0 H pl ns es) (s : Same H H') : PfAt H0 H' pl ns es := by
  obtain ⟨d, l, kz, xs, p⟩ := p
  exact ⟨d, l, kz, xs, p.same s⟩
def spNear : Sp := fun vs H Q _ => ∃ (H0 : Hp) (pl : Addr) (ns : List Str) (es : List (Str × Str)) (x : Str), vs = [.ref pl, .str x] ∧ PfAt H0 H pl ns es ∧
  ∀ H' l (ys : List Str), Same H H' → H l = none → H' l = some (.lst (ys.map V.str)) → (∀ y, y ∈ ys ↔ Adj es x y) → Q (.ref l) H'
theorem scNear : FnScope ["_law_plan", "_law_room", "_law_two"] ["_law_plan", "_law_room"] (C8.fnScope sNear) := ⟨rfl, rfl, rfl, by decide +kernel, rfl, by decide +kernel, by decide +kernel⟩
/-- the sides, as a dict -/
abbrev sdK (sd : List (Str × Int)) : List (Key × V) := sd.map fun p => (Sum.inr p.1, V.int p.2)
theorem valV_sd : ∀ (sd : List (Str × Int)) (v : Str), valV (sdK sd) (.inr v : Key) = (sd.lookup v).map V.int
  | [], v => rfl
  | p :: sd, v => by
    rw [List.lookup_cons]
    by_cases e : v = p.1
    · subst e
      rw [show (p.1 == p.1) = true from beq_self_eq_true _]
      exact valV_pos rfl
    · rw [show (v == p.1) = false from beq_eq_false_iff_ne.mpr e]
      show valV ((Sum.inr p.1, V.int p.2) :: sdK sd) (.inr v : Key) = _
      rw [valV_neg (fun c => e (Sum.inr.inj c).symm)]
      exact valV_sd sd v
theorem lku_no {sd : List (Str × Int)} {v : Str} (h : ¬ v ∈ sd.map (·.1)) : sd.lookup v = none := by
  cases e : sd.lookup v with
  | none => rfl
  | some i => exact absurd (lku_key e) h
def spTwo : Sp := fun vs H Q _ => ∃ (H0 : Hp) (pl : Addr) (ns : List Str) (es : List (Str × Str)), vs = [.ref pl] ∧ PfAt H0 H pl ns es ∧
  ∀ H' pl2 es2, Same H H' → PfAt H0 H' pl2 ns es2 → es2.length ≤ es.length → Q (.ref pl2) H'
abbrev nTw : List Str := ["_law_plan", "_law_start", "_law_side", "_law_waiting", "_law_room", "_law_other", "_law_found", "_law_two"]
theorem scTw : FnScope nTw ["_law_plan"] (C8.fnScope sTwo) := ⟨rfl, rfl, rfl, by decide +kernel, rfl, by decide +kernel, by decide +kernel⟩
theorem two_snoc (es : List (Str × Str)) (sd : List (Str × Int)) {a b : Str} {i j : Int} (ha : sd.lookup a = some i) (hb : sd.lookup b = some j) :
    two (es ++ [(a, b)]) sd = two es sd ++ (if i ≠ j then [(a, b)] else []) := by
  unfold two
  rw [List.filter_append]
  congr 1
  by_cases e : i = j
  · rw [if_neg (fun n => n e)]
    refine List.filter_eq_nil_iff.mpr fun x hx => ?_
    rw [List.mem_singleton.mp hx]
    intro h
    have h := of_decide_eq_true h
    exact h.2.2 (by show sd.lookup a = sd.lookup b; rw [ha, hb, e])
  · rw [if_pos e]
    refine List.filter_eq_self.mpr fun x hx => ?_
    rw [List.mem_singleton.mp hx]
    refine decide_eq_true ⟨by show (sd.lookup a).isSome = true; rw [ha]; rfl, by show (sd.lookup b).isSome = true; rw [hb]; rfl, fun c => e ?_⟩
    have c : sd.lookup a = sd.lookup b := c
    rw [ha, hb] at c
    exact Option.some.inj c
theorem PGr.two {ns : List Str} {es : List (Str × Str)} {sd : List (Str × Int)} {s : Str} (G : PGr ns es) (S : Sd es s sd [] none []) (hs : s ∈ ns) : PGr ns (two es sd) where
  ne := G.ne
  nd := G.nd
  nm := G.nm
  kl := G.kl
  el := Nat.le_trans (List.length_filter_le _ _) G.el
  ord p q h := G.ord p q (mem_two.mp h).1
  nde := G.nde.filter _
  inK p q h := G.inK p q (mem_two.mp h).1
  conn v w hv hw := (S.fin (G.conn s v hs hv)).2.symm.trans (S.fin (G.conn s w hs hw)).2
theorem Sd.key_ns {ns : List Str} {es : List (Str × Str)} {sd : List (Str × Int)} {s : Str} {wl ds : List Str} {cur : Option Str} (G : PGr ns es) (S : Sd es s sd wl cur ds) (hs : s ∈ ns) : ∀ v, v ∈ sd.map (·.1) → v ∈ ns := fun v hv =>
  (S.inE v hv).keep (P := fun v => v ∈ ns) (fun x y a _ => a.elim (fun h => (G.inK _ _ h).2) (fun h => (G.inK _ _ h).1)) hs
theorem Sd.le24 {ns : List Str} {es : List (Str × Str)} {sd : List (Str × Int)} {s : Str} {wl ds : List Str} {cur : Option Str} (G : PGr ns es) (S : Sd es s sd wl cur ds) (hs : s ∈ ns) : sd.length ≤ 24 := by
  have h := S.nd.length_le_of_subset (S.key_ns G hs)
  rw [List.length_map] at h
  exact Nat.le_trans h G.kl
section
variable {P : Program} {w : World} {K : PySem.W.Frag} {mg : Str → Option Value} {base : Heap}
theorem cal_near {f : Addr} {fd : FuncData} (F : C8.Def K mg "_law_near" sNear f fd) (b : Binds K fd ["_law_plan", "_law_room"] []) (z : Bi mg) : C8.Cal P w K mg base 1 "_law_near" spNear [] := by
  refine C8.cal0 F b .nil scNear (fun vs H Q E h => ?_) (fun cdv A outer s H vs Q E hr h => ?_)
  · obtain ⟨H0, pl, ns, es, x, rfl, _⟩ := h
    rfl
  · obtain ⟨H0, pl, ns, es, x, rfl, ⟨d, l, kz, xs, p⟩, k⟩ := h
    refine ⟨_, pss_one (ps_ret (pe_callB cr_sortedS (by rfl) z.sorted (by decide +kernel) (pa_cons (pe_lc (own := [("_law_two", 2)]) (g := gName 2) (tt := tTest (tOp (rIn K false) (tVar 1) (tVar 2))) (te := tOp (rIxT K) (tVar 2) (tOp (rI0 fun i j => .int (i - j)) (tC (.int 1)) (tTix K (tVar 2) (tCons (tVar 1) tNil)))) rfl scNear.nd (pi_list (pe_ix ix_tup (pv 0) pe_int (fun _ _ => rfl)))
        (blkOk_by (N := ["_law_plan", "_law_room", "_law_two"]) (sc := C8.fnScope sNear) (own := [("_law_two", 2)]) (by decide +kernel)) (fun _ _ _ _ _ => pg_name (i := 2) scNear.nd rfl (Or.inl rfl)) (fun _ _ _ _ _ => pts_one (pt_cmpR op_in_seq (pv 1) (pv 2) (by rfl)))
        (fun _ _ _ _ _ => pe_ix ix_tup (pv 2) (pe_op op_sub pe_int (pe_tix (pv 2) (pa_cons (pv 1) pa_nil))) (fun _ _ => rfl))) pa_nil))), ?_⟩
    have el := p.gr.el
    refine ⟨_, rfl, pl, _, _, .ref l, rfl, rfl, SqT.of p.ob, atI_nat (j := 1) rfl, l, rfl, ⟨_, SqL.of p.oL⟩, fun D hD => lc_it walk_list (fun i H2 => ∃ ys : List Str, Same H H2 ∧ H2 D = some (.lst (ys.map V.str)) ∧ ys.length ≤ i ∧ ∀ y, y ∈ ys ↔ Adj (es.take i) x y)
      ⟨[], Same.upd_new hD, upd_same, Nat.le_refl _, fun y => ⟨fun h => (nomatch h), fun h => h.elim (fun h => (nomatch h)) (fun h => (nomatch h))⟩⟩ (fun i H2 _ ⟨_, s2, _⟩ => SqL.of (s2 _ _ p.oL)) ?_ ?_⟩
    · rintro i v _ H2 hi ⟨ys, s2, hD2, hl2, hy2⟩ ⟨rfl, hv⟩
      obtain ⟨t2, a, b', rfl, he, _, ft⟩ := (s2.pf p.pL).get hv
      have hi40 : i < 40 := Nat.lt_of_lt_of_le (lt_of_get he) el
      have hord := p.gr.ord a b' (List.mem_of_getElem? he)
      have nab : a ≠ b' := p.gr.good.ne a b' (List.mem_of_getElem? he)
      have eadj : ∀ y, Adj (es.take (i + 1)) x y ↔ Adj (es.take i) x y ∨ (x = a ∧ y = b') ∨ (y = a ∧ x = b') := fun y => by
        rw [take_snoc he]
        exact adj_snoc
      refine ⟨rfl, _, rfl, _, rfl, t2, _, rfl, .inr ft.sq, rfl, (by simp [flatV]), _, rfl, ?_⟩
      have hin : inV (V.str x) [V.str a, V.str b'] = decide (x ∈ [a, b']) := inV_strs x [a, b']
      show if (inV (V.str x) [V.str a, V.str b']) = true then _ else _
      rw [hin]
      have put : ∀ o, (∀ y, y ∈ ys ++ [o] ↔ Adj (es.take (i + 1)) x y) → ∃ acc, H2 D = some (.lst acc) ∧ acc.length < sizeLine ∧
          ∃ zs : List Str, Same H (upd H2 D (.lst (acc ++ [V.str o]))) ∧ (upd H2 D (.lst (acc ++ [V.str o]))) D = some (.lst (zs.map V.str)) ∧ zs.length ≤ i + 1 ∧ ∀ y, y ∈ zs ↔ Adj (es.take (i + 1)) x y := fun o ho =>
        ⟨_, hD2, small1000 (by rw [List.length_map]; omega), ys ++ [o], s2.to_own hD, by rw [upd_same, List.map_append]; rfl, by rw [List.length_append]; exact Nat.succ_le_succ hl2, ho⟩
      by_cases ea : x = a
      · subst ea
        rw [decide_eq_true (List.mem_cons_self ..)]
        refine iteT ⟨_, rfl, _, rfl, ⟨t2, _, rfl, ft⟩, _, rfl, t2, [x, b'], x, 0, rfl, rfl, ft.sq, rfl, fun m hm => absurd hm (Nat.not_lt_zero _), _, _, rfl, rfl, t2, _, _, .str b', rfl, rfl, ft.sq, atI_nat (j := 1) rfl, put b' fun y => ?_⟩
        rw [eadj y, List.mem_append, List.mem_singleton, hy2 y]
        constructor
        · rintro (h | h)
          · exact .inl h
          · exact .inr (.inl ⟨rfl, h⟩)
        · rintro (h | ⟨_, h⟩ | ⟨_, h⟩)
          · exact .inl h
          · exact .inr h
          · exact absurd h nab
      · by_cases eb : x = b'
        · subst eb
          rw [decide_eq_true (List.mem_cons_of_mem _ (List.mem_cons_self ..))]
          refine iteT ⟨_, rfl, _, rfl, ⟨t2, _, rfl, ft⟩, _, rfl, t2, [a, x], x, 1, rfl, rfl, ft.sq, rfl, fun m hm => ?_, _, _, rfl, rfl, t2, _, _, .str a, rfl, rfl, ft.sq, atI_nat (j := 0) rfl, put a fun y => ?_⟩
          · have e0 : m = 0 := by omega
            subst e0
            intro h
            exact nab (Option.some.inj h)
          · rw [eadj y, List.mem_append, List.mem_singleton, hy2 y]
            constructor
            · rintro (h | h)
              · exact .inl h
              · exact .inr (.inr ⟨h, rfl⟩)
            · rintro (h | ⟨h, _⟩ | ⟨h, _⟩)
              · exact .inl h
              · exact absurd h ea
              · exact .inr h
        · rw [decide_eq_false (by simp [ea, eb])]
          refine iteF ⟨ys, s2, hD2, by omega, fun y => ?_⟩
          rw [eadj y, hy2 y]
          constructor
          · exact .inl
          · rintro (h | ⟨h, _⟩ | ⟨_, h⟩)
            · exact h
            · exact absurd h ea
            · exact absurd h eb
    · rintro H2 ⟨ys, s2, hD2, hl2, hy2⟩
      rw [p.pL.length, List.take_length] at hy2
      rw [p.pL.length] at hl2
      exact ⟨D, ys, rfl, SqL.of hD2, by omega, fun zs q pm srt hq => k _ q zs (s2.to_new hq) (s2.free hq) upd_same fun y => pm.mem_iff.trans (hy2 y)⟩
theorem cal_two {f : Addr} {fd : FuncData} (F : C8.Def K mg "_law_two_sided" sTwo f fd) (b : Binds K fd ["_law_plan"] []) (z : Bi mg) (cN : C8.Cal P w K mg base 1 "_law_near" spNear []) : C8.Cal P w K mg base 2 "_law_two_sided" spTwo [] := by
  refine C8.cal0 F b .nil scTw (fun vs H Q E h => ?_) (fun cdv A outer s H vs Q E hr h => ?_)
  · obtain ⟨H0, pl, ns, es, rfl, _⟩ := h
    rfl
  · obtain ⟨H0, pl, ns, es, rfl, ⟨d, l, kz, xs, p⟩, k⟩ := h
    have hu := hu_of hr
    refine ⟨_, pss_cons (ps_set (i := 1) scTw.nd rfl (Or.inl rfl) (pe_callB (cr_minS rfl) (by rfl) z.min (by decide +kernel) (pa_cons (pe_callB (call_sortedD rfl) (by rfl) z.sorted (by decide +kernel) (pa_cons (pe_ix ix_tup (pv 0) pe_int (fun _ _ => rfl)) pa_nil)) pa_nil)))
      (pss_cons (ps_asg (pe_tup (pa_cons (pe_disp (pps_cons (pv 1) pe_int pps_nil) (by rfl) (by rfl) (fun z => by cases z) (by decide)) (pa_cons (pe_lst (pa_cons (pv 1) pa_nil)) pa_nil))) (pg_tup (by rfl) (pgs_cons (pg_name (i := 2) scTw.nd rfl (Or.inr rfl)) (pgs_cons (pg_name (i := 3) scTw.nd rfl (Or.inl rfl)) pgs_nil))))
      (pss_cons (ps_while PassesOwn.never (pt_cmpR (op_neD hr.units) (pv 3) (pe_lst pa_nil) (nomark _))
        (pss_cons (ps_set (i := 4) scTw.nd rfl (Or.inl rfl) (pe_bm0 PySem.F.plainAttrs_list PySem.F.slot_list_pop PySem.F.type_list_pop mt_pop (pv 3)))
        (pss_one (ps_for PassesOwn.never rfl (pi_list (C8.pe_c cN hr (by decide) (by rfl) (pa_cons (pv 0) (pa_cons (pv 4) pa_nil)))) (pg_name (i := 5) scTw.nd rfl (Or.inl rfl))
          (pss_one (ps_if (pt_cmp (pc_dnotin hu (pv 5) (pv 2)))
            (pss_cons (ps_dput hu (pv 2) (pv 5) (pe_op op_sub pe_int (pe_dget hu (pv 2) (pv 4) (fun _ _ => rfl))) rfl)
            (pss_one (ps_expr (pe_bm PySem.F.plainAttrs_list PySem.F.slot_list_append PySem.F.type_list_append mt_append (pv 3) (pa_cons (pv 5) pa_nil))))) pss_nil))))))
      (pss_cons (ps_setLc (i := 6) (own := [("_law_two", 7)]) (g := gName 7) (tt := tTest (tOp rNe (tDGet (tVar 2) (tOp (rIxT K) (tVar 7) (tC (.int 0)))) (tDGet (tVar 2) (tOp (rIxT K) (tVar 7) (tC (.int 1)))))) (te := tVar 7) rfl scTw.nd rfl rfl (sw_true rfl rfl rfl (by decide +kernel)) (pi_list (pe_ix ix_tup (pv 0) pe_int (fun _ _ => rfl)))
          (blkOk_by (N := nTw) (sc := C8.fnScope sTwo) (own := [("_law_two", 7)]) (by decide +kernel)) (fun _ _ _ _ _ => pg_name (i := 7) scTw.nd rfl (Or.inl rfl))
          (fun _ _ _ _ _ => pts_one (pt_cmpR op_ne (pe_dget hu (pv 2) (pe_ix ix_tup (pv 7) pe_int (fun _ _ => rfl)) (fun _ _ => rfl)) (pe_dget hu (pv 2) (pe_ix ix_tup (pv 7) pe_int (fun _ _ => rfl)) (fun _ _ => rfl)) (nomark _))) (fun _ _ _ _ _ => pv 7))
      (pss_one (ps_ret (pe_tup (pa_cons (pe_ix ix_tup (pv 0) pe_int (fun _ _ => rfl)) (pa_cons (pv 6) pa_nil)))))))), ?_⟩
    have G := p.gr
    have kl := G.kl
    have el := G.el
    -- the start
    refine ⟨_, rfl, pl, _, _, .ref d, rfl, rfl, SqT.of p.ob, atI_nat (j := 0) rfl, d, kz, ns, rfl, .inl p.oD, p.kD, by omega, fun ys q pm srt hq => ⟨q, ys, rfl, SqL.of upd_same, fun e => G.ne (by rw [e] at pm; exact pm.symm.eq_nil), ?_⟩⟩
    have hst : smin ys ∈ ns := pm.mem_iff.mp (smin_mem fun e => G.ne (by rw [e] at pm; exact pm.symm.eq_nil))
    generalize smin ys = st at hst
    have s1 : Same H (upd H q (.lst (ys.map V.str))) := Same.upd_new hq
    generalize upd H q (.lst (ys.map V.str)) = H1 at s1
    have p1 := p.same s1
    -- side, waiting
    intro dd hdd
    refine ⟨_, rfl, upd_same, [(.inr st, .int 0)], rfl, (by show 1 ≤ 15; decide), ?_⟩
    have hmk : mergeK [] [((.inr st : Key), V.int 0)] = [(.inr st, .int 0)] := rfl
    rw [hmk]
    refine ⟨_, rfl, (by show 1 ≤ sizeLine; decide), fun wt hw => ⟨(by show 2 ≤ sizeLine; decide), fun tt htt => ?_⟩⟩
    have nwd : wt ≠ dd := fun e => by
      rw [e, upd_same] at hw
      cases hw
    have hw1 : H1 wt = none := by
      rw [upd_ne nwd, upd_ne nwd] at hw
      exact hw
    have sA0 : Same H1 (upd (upd (upd H1 dd (.dK [])) dd (.dK [(.inr st, .int 0)])) wt (.lst [.str st])) := ((Same.upd_new hdd).to_own hdd).to_own hw1
    have hdA0 : (upd (upd (upd H1 dd (.dK [])) dd (.dK [(.inr st, .int 0)])) wt (.lst [.str st])) dd = some (.dK (sdK [(st, 0)])) := by rw [upd_ne nwd.symm, upd_same]; rfl
    have hwA0 : (upd (upd (upd H1 dd (.dK [])) dd (.dK [(.inr st, .int 0)])) wt (.lst [.str st])) wt = some (.lst ([st].map V.str)) := upd_same
    generalize upd (upd (upd H1 dd (.dK [])) dd (.dK [(.inr st, .int 0)])) wt (.lst [.str st]) = HA at sA0 hdA0 hwA0 htt
    have sT := Same.upd_new (o := .tup [.ref dd, .ref wt]) htt
    have sA := sA0.trans sT
    refine ⟨tt, _, rfl, SqT.of upd_same, rfl, _, _, rfl, _, _, rfl, rfl, ?_⟩
    refine ⟨fun m σ H2 => ∃ (u v : Option V) (sd : List (Str × Int)) (wl : List Str), σ = [some (.ref pl), some (.str st), some (.ref dd), some (.ref wt), u, v, none, none] ∧ Same H1 H2 ∧ H2 dd = some (.dK (sdK sd)) ∧ H2 wt = some (.lst (wl.map V.str)) ∧ Sd es st sd wl none [] ∧ wl.length ≤ sd.length ∧ m = 2 * (24 - sd.length) + wl.length,
      ⟨_, none, none, [(st, 0)], [st], rfl, sA, sT _ _ hdA0, sT _ _ hwA0, .start, Nat.le_refl _, rfl⟩, ?_⟩
    rintro m σ H2 ⟨u, v, sd, wl, rfl, s2, hd2, hw2, S2, hwl, rfl⟩
    have hmem : ∀ x, x ∈ wl → NameOk x := fun x hx => G.nm x (S2.key_ns G hst x (S2.wtk x hx))
    refine ⟨_, rfl, (by show 0 ≤ sizeLine; exact Nat.zero_le _), fun l0 hl0 => ?_⟩
    have s3 := Same.upd_new (o := .lst []) hl0
    refine ⟨.list (wl.map sD), .list [], .lst (SqL.of (s3 _ _ hw2)) (dp_strs wl), .lst (SqL.of upd_same) .nil, shaped_lst hmem, by decide +kernel, _, rfl, ?_⟩
    have e0 : PyData.eqv (.list (wl.map sD)) (.list []) = decide (wl = []) := by
      have := sDs_eqv wl []
      simp only [PyData.eqv]
      exact this
    rw [e0]
    have s13 := s2.trans s3
    have hd3 := s3 _ _ hd2
    have hw3 := s3 _ _ hw2
    generalize upd H2 l0 (.lst []) = H3 at s13 hd3 hw3
    rcases List.eq_nil_or_concat wl with rfl | ⟨wl', r, rfl⟩
    · rw [decide_eq_true rfl]
      refine iteF ?_
      -- found
      have p3 := p1.same s13
      have kk : ∀ v, v ∈ ns → ∃ i, sd.lookup v = some i := fun v hv => lku_of (S2.fin (G.conn st v hst hv)).1
      refine ⟨_, rfl, pl, _, _, .ref l, rfl, rfl, SqT.of p3.ob, atI_nat (j := 1) rfl, l, rfl, ⟨_, SqL.of p3.oL⟩, fun D hD => lc_it walk_list (fun i H4 => ∃ zs, Same H3 H4 ∧ H4 D = some (.lst zs) ∧ Pf H0 H4 zs (two (es.take i) sd) ∧ zs.length ≤ i)
        ⟨[], Same.upd_new hD, upd_same, .nil, Nat.le_refl _⟩ (fun i H4 _ ⟨_, s4, _⟩ => SqL.of (s4 _ _ p3.oL)) ?_ ?_⟩
      · rintro i x _ H4 hi ⟨zs, s4, hD4, P4, hl4⟩ ⟨rfl, hx⟩
        obtain ⟨t2, a, b', rfl, he, h0t, ft⟩ := (s4.pf p3.pL).get hx
        obtain ⟨ka, kb⟩ := G.inK a b' (List.mem_of_getElem? he)
        obtain ⟨ia, ha⟩ := kk a ka
        obtain ⟨ib, hb⟩ := kk b' kb
        have hi40 : i < 40 := Nat.lt_of_lt_of_le (lt_of_get he) el
        have hd4 := s4 _ _ hd3
        have va : valV (sdK sd) (.inr a : Key) = some (.int ia) := by rw [valV_sd, ha]; rfl
        have vb : valV (sdK sd) (.inr b' : Key) = some (.int ib) := by rw [valV_sd, hb]; rfl
        refine ⟨rfl, _, rfl, _, rfl, t2, _, _, .str a, rfl, rfl, ft.sq, atI_nat (j := 0) rfl, dd, .int ia, rfl, (by rw [← va]; exact DGet.k (k := Sum.inr a) hd4), _, rfl, _, rfl, t2, _, _, .str b', rfl, rfl, ft.sq, atI_nat (j := 1) rfl, dd, .int ib, rfl, (by rw [← vb]; exact DGet.k (k := Sum.inr b') hd4), rfl, _, rfl, ?_⟩
        have e1 := two_snoc (es.take i) sd ha hb
        rw [← take_snoc he] at e1
        by_cases e : ia = ib
        · rw [decide_eq_true (by rw [e] : V.int ia = V.int ib)]
          rw [if_neg (fun n => n e), List.append_nil] at e1
          exact iteF ⟨zs, s4, hD4, by rw [e1]; exact P4, by omega⟩
        · rw [decide_eq_false (fun c => e (V.int.inj c))]
          rw [if_pos e] at e1
          refine iteT ⟨_, rfl, zs, hD4, small1000 (by omega), _, s4.to_own hD, upd_same, ?_, by rw [List.length_append]; exact Nat.succ_le_succ hl4⟩
          rw [e1]
          exact (P4.upd hD4).snoc h0t (ft.upd hD4)
      · rintro H4 ⟨zs, s4, hD4, P4, hl4⟩
        rw [p3.pL.length, List.take_length] at P4
        have p4 := p3.same s4
        refine ⟨_, rfl, pl, _, _, .ref d, rfl, rfl, SqT.of p4.ob, atI_nat (j := 0) rfl, _, rfl, (by show 2 ≤ sizeLine; decide), fun t ht => ?_⟩
        have s5 := Same.upd_new (o := .tup [.ref d, .ref D]) ht
        refine k _ t (two es sd) (((s1.trans s13).trans s4).trans s5) ⟨d, D, kz, zs, upd_same, s5 _ _ p4.oD, p4.kD, p4.vD, s5 _ _ hD4, s5.pf P4, p4.nD, G.two S2 hst, List.Pairwise.filter _ p.so⟩ (List.length_filter_le _ _)
    · have hne : ¬ wl'.concat r = [] := by simp
      rw [decide_eq_false hne]
      rw [List.concat_eq_append] at *
      have hll : (wl' ++ [r]).length = wl'.length + 1 := by simp
      refine iteT ⟨fun σ' H' => ∃ (u v : Option V) (sd' : List (Str × Int)) (wl2 : List Str), σ' = [some (.ref pl), some (.str st), some (.ref dd), some (.ref wt), u, v, none, none] ∧ Same H1 H' ∧ H' dd = some (.dK (sdK sd')) ∧ H' wt = some (.lst (wl2.map V.str)) ∧ Sd es st sd' wl2 none [] ∧ wl2.length ≤ sd'.length ∧ 2 * (24 - sd'.length) + wl2.length < 2 * (24 - sd.length) + (wl' ++ [r]).length,
        fun σ' H' ⟨u, v, sd', wl2, a1, a2, a3, a4, a5, a6, a7⟩ => ⟨_, a7, u, v, sd', wl2, a1, a2, a3, a4, a5, a6, rfl⟩, ?_⟩
      have hy : ((wl' ++ [r]).map V.str)[((wl' ++ [r]).map V.str).length - 1]? = some (.str r) := by simp
      refine ⟨_, rfl, .inl ⟨rfl, _, SqL.of hw3⟩, wt, _, .str r, rfl, rfl, hw3, hy, ?_⟩
      have hdl : ((wl' ++ [r]).map V.str).dropLast = wl'.map V.str := by simp
      rw [hdl]
      have s14 : Same H1 (upd H3 wt (.lst (wl'.map V.str))) := s13.to_own hw1
      have hd4 : (upd H3 wt (.lst (wl'.map V.str))) dd = some (.dK (sdK sd)) := by rw [upd_ne nwd.symm]; exact hd3
      have hw4 : (upd H3 wt (.lst (wl'.map V.str))) wt = some (.lst (wl'.map V.str)) := upd_same
      generalize upd H3 wt (.lst (wl'.map V.str)) = H4 at s14 hd4 hw4
      refine ⟨_, rfl, _, rfl, H0, pl, ns, es, r, rfl, ⟨d, l, kz, xs, p1.same s14⟩, fun H5 ln zs s5 hln hl5 hz => ⟨ln, rfl, ⟨_, SqL.of hl5⟩, ?_⟩⟩
      have nlw : ln ≠ wt := (ne_of_none hw4 hln).symm
      have nld : ln ≠ dd := (ne_of_none hd4 hln).symm
      have S4 := S2.take
      refine for_it walk_list (fun i σ' H6 => ∃ (v : Option V) (sd' : List (Str × Int)) (wl2 : List Str), σ' = [some (.ref pl), some (.str st), some (.ref dd), some (.ref wt), some (.str r), v, none, none] ∧ Same H1 H6 ∧ H6 dd = some (.dK (sdK sd')) ∧ H6 wt = some (.lst (wl2.map V.str)) ∧ Sd es st sd' wl2 (some r) (zs.take i) ∧ wl2.length ≤ sd'.length ∧ 2 * (24 - sd'.length) + wl2.length ≤ 2 * (24 - sd.length) + wl'.length ∧ H6 ln = some (.lst (zs.map V.str)))
        ⟨v, sd, wl', rfl, s14.trans s5, s5 _ _ hd4, s5 _ _ hw4, S4, by omega, Nat.le_refl _, hl5⟩ (fun i σ' H6 _ ⟨_, _, _, _, _, _, _, _, _, _, h⟩ => SqL.of h) ?_ ?_
      · rintro i x σ' _ H6 hi ⟨v, sd', wl2, rfl, s6, hd6, hw6, S6, hwl6, hm6, hl6⟩ ⟨rfl, hx⟩
        obtain ⟨y, hyi, rfl⟩ := map_get hx
        have ad : Adj es r y := (hz y).mp (List.mem_of_getElem? hyi)
        have hB : zs.take (i + 1) = zs.take i ++ [y] := take_snoc hyi
        have l24 := S6.le24 G hst
        refine ⟨_, rfl, _, rfl, dd, _, rfl, DGet.k (k := Sum.inr y) hd6, _, rfl, ?_⟩
        rw [valV_sd]
        by_cases hin : y ∈ sd'.map (·.1)
        · obtain ⟨iy, hiy⟩ := lku_of hin
          rw [hiy]
          refine iteF ⟨_, sd', wl2, rfl, s6, hd6, hw6, ?_, hwl6, hm6, hl6⟩
          rw [hB]
          exact S6.skip hin
        · rw [lku_no hin]
          obtain ⟨ir, hir⟩ := lku_of (S6.curk r rfl)
          have vr : valV (sdK sd') (.inr r : Key) = some (.int ir) := by rw [valV_sd, hir]; rfl
          have S7 := S6.put hir ad hin
          have l25 := S7.le24 G hst
          rw [List.length_append, List.length_singleton] at l25
          refine iteT ⟨_, rfl, _, rfl, dd, .int ir, rfl, (by rw [← vr]; exact DGet.k (k := Sum.inr r) hd6), _, _, rfl, rfl, _, rfl, _, rfl, dd, _, rfl, DPut.k (k := Sum.inr y) hd6 (small1000 (by rw [List.length_map]; omega)), ?_⟩
          have hv0 : valV (sdK sd') (.inr y : Key) = none := by rw [valV_sd, lku_no hin]; rfl
          have hpk : putK (sdK sd') (.inr y) (.int (1 - ir)) = sdK (sd' ++ [(y, 1 - ir)]) := by
            rw [putK_new _ hv0]
            unfold sdK
            rw [List.map_append]
            rfl
          rw [hpk]
          have hw7 : (upd H6 dd (.dK (sdK (sd' ++ [(y, 1 - ir)])))) wt = some (.lst (wl2.map V.str)) := by rw [upd_ne nwd]; exact hw6
          refine ⟨_, rfl, .inl ⟨rfl, _, SqL.of hw7⟩, _, rfl, wt, _, _, rfl, rfl, hw7, small1000 (by rw [List.length_map]; omega), ?_⟩
          refine ⟨_, sd' ++ [(y, 1 - ir)], wl2 ++ [y], rfl, (s6.to_own hdd).to_own hw1, by rw [upd_ne nwd.symm, upd_same], by rw [upd_same, List.map_append]; rfl, by rw [hB]; exact S7, by simp; omega, by simp; omega, ?_⟩
          rw [upd_ne nlw, upd_ne nld]
          exact hl6
      · rintro σ' H6 ⟨v, sd', wl2, rfl, s6, hd6, hw6, S6, hwl6, hm6, hl6⟩
        rw [List.length_map, List.take_length] at S6
        exact ⟨_, v, sd', wl2, rfl, s6, hd6, hw6, S6.next fun w a => (hz w).mpr a, hwl6, by rw [hll]; omega⟩
def spSome (K : PySem.W.Frag) : Sp := fun vs H Q _ => ∃ (tp sz : Addr) (more b : Nat), vs = [.ref tp, .int 6, .int (more : Nat), .ref sz] ∧ more ≤ 8 ∧ SqL K H sz [.int 1, .int 2, .int 3] ∧ TapeAt K H tp (b + 121) ∧
  ∀ H' pl ns es, SmX tp H H' → TapeAt K H' tp b → PlAt H' pl ns es → ns.length ≤ 6 → es.length ≤ 13 → Q (.ref pl) H'
theorem scSome : FnScope ["_law_tape", "_law_most", "_law_more", "_law_sizes", "_law_plan"] ["_law_tape", "_law_most", "_law_more", "_law_sizes"] (C8.fnScope sSome) := ⟨rfl, rfl, rfl, by decide +kernel, rfl, by decide +kernel, by decide +kernel⟩
theorem TapeAt.thaw {H0 H : Hp} {tp : Addr} {b : Nat} (h : TapeAt K H tp b) : TapeAt K (Yf.thaw H0 H) tp b := by
  obtain ⟨c, cs, p, l, h1, h2, h3⟩ := h
  refine ⟨c, cs, p, l, by rw [thaw_ne (by rw [h1]; intro o xs z; cases z)]; exact h1, ?_, h3⟩
  rcases h2 with (h | ⟨u, h⟩) | h
  · exact .inl (.inl (by rw [thaw_ne (by rw [h]; intro o xs z; cases z)]; exact h))
  · exact .inl (.inr ⟨u, by rw [thaw_ne (by rw [h]; intro o xs z; cases z)]; exact h⟩)
  · exact .inr h
theorem PfX.smx {H0 H H' : Hp} {tp : Addr} {b : Nat} {pl : Addr} {ns : List Str} {es : List (Str × Str)} {d l : Addr} {kz : List (Key × V)} {xs : List V} (p : PfX H0 H pl ns es d l kz xs) (ht : TapeAt K H tp b) (h0 : H0 tp ≠ none) (s : SmX tp H H') : PfX H0 H' pl ns es d l kz xs := by
  obtain ⟨kv, hk⟩ := ht.dk
  exact { p with ob := s _ _ p.ob (ne_of p.ob hk (by intro z; cases z)), oD := s _ _ p.oD (fun e => h0 (e ▸ p.nD)), oL := s _ _ p.oL (ne_of p.oL hk (by intro z; cases z)), pL := SmX.pf hk s p.pL }
theorem cal_some {f : Addr} {fd : FuncData} (F : C8.Def K mg "_law_some_plan" sSome f fd) (b : Binds K fd ["_law_tape", "_law_most", "_law_more", "_law_sizes"] []) (cD : C8.Cal P w K mg base 1 "_law_draw" (spDraw K) []) (cR : C8.Cal P w K mg base 4 "_law_drawn" (spDrawn K) []) (cT : C8.Cal P w K mg base 2 "_law_two_sided" spTwo []) :
    C8.Cal P w K mg base 5 "_law_some_plan" (spSome K) [] := by
  refine C8.cal0 F b .nil scSome (fun vs H Q E h => ?_) (fun cdv A outer s H vs Q E hr h => ?_)
  · obtain ⟨tp, sz, more, b, rfl, _⟩ := h
    rfl
  · obtain ⟨tp, sz, more, bb, rfl, hm8, hsz, hT, k⟩ := h
    refine ⟨_, pss_cons (ps_set (i := 4) scSome.nd rfl (Or.inl rfl) (C8.pe_c cR hr (by decide) (by rfl) (pa_cons (pv 0) (pa_cons pe_int (pa_cons (pv 1) (pa_cons (pv 2) (pa_cons (pv 3) pa_nil)))))))
      (pss_one (ps_ret (pe_thaw (pe_ifExp (pt_cmpR op_eq (C8.pe_c cD hr (by decide) (by rfl) (pa_cons (pv 0) (pa_cons pe_int pa_nil))) pe_int (nomark _)) (C8.pe_c cT hr (by decide) (by rfl) (pa_cons (pv 4) pa_nil)) (pv 4))))), ?_⟩
    refine ⟨_, rfl, _, rfl, _, rfl, _, rfl, tp, sz, more, bb + 1, rfl, hm8, hsz, hT, fun H1 pl ns es x1 t1 ⟨d, l, kz, xs, p1⟩ l6 l13 => ?_⟩
    obtain ⟨kv0, ht0⟩ := hT.dk
    have h0 : H tp ≠ none := by rw [ht0]; intro z; cases z
    refine ⟨_, rfl, tp, 2, bb, rfl, t1, by decide, by decide, fun H2 r x2 t2 _ _ => ⟨rfl, _, rfl, ?_⟩⟩
    have p2 := p1.smx t1 h0 x2
    have x12 := x1.trans x2
    refine ite2 (fun _ => ?_) (fun _ => ?_)
    · refine ⟨_, rfl, H, pl, ns, es, rfl, ⟨d, l, kz, xs, p2⟩, fun H3 pl2 es2 s3 ⟨d2, l2, kz2, xs2, p3⟩ le => ?_⟩
      exact k (thaw H H3) pl2 ns es2 (x12.trans (SmX.of s3)).thaw (SmX.tape s3 t2).thaw ⟨_, _, _, _, p3.thaw⟩ l6 (Nat.le_trans le l13)
    · exact ⟨_, rfl, k (thaw H H2) pl ns es x12.thaw t2.thaw ⟨_, _, _, _, p2.thaw⟩ l6 l13⟩
end
end Yf
set_option Elab.async false
set_option linter.all false
set_option maxRecDepth 100000
set_option maxHeartbeats 4000000
/-! L9: _law_middled. -/
namespace Yf
open PySem PySem.Spec PyProof.Rows L2
theorem paired_append {α β : Type} {R : α → β → Prop} {xs xs' : List α} {ys ys' : List β} (h : Paired R xs ys) (h' : Paired R xs' ys') : Paired R (xs ++ xs') (ys ++ ys') := by
  induction h with
  | nil => exact h'
  | cons q _ ih => exact .cons q ih
/-- a letter eight times -/
def oct8 (c : Nat) : Str := ⟨#[c, c, c, c, c, c, c, c]⟩
theorem oct8_inj {c d : Nat} (h : oct8 c = oct8 d) : c = d := by
  have h := congrArg (fun s : Str => s.cps.toList.head?) h
  exact Option.some.inj h
theorem oct8_ok {c : Nat} (h : 97 ≤ c ∧ c ≤ 122) : NameOk (oct8 c) := by
  refine ⟨by show 1 ≤ 8; decide, by show 8 ≤ 8; decide, fun d hd => ?_⟩
  have hd : d ∈ [c, c, c, c, c, c, c, c] := hd
  simp only [List.mem_cons, List.not_mem_nil, or_false, or_self] at hd
  rw [hd]
  exact h
abbrev letters : List Nat := abc.cps.toList
theorem letters_nd : letters.Nodup := by decide +kernel
theorem letters_len : letters.length = 26 := by decide +kernel
def freshF (ns : List Str) (cs : List Nat) : List Str := (cs.map oct8).filter fun x => decide (¬ x ∈ ns)
theorem filter_len {α : Type} (p : α → Bool) : ∀ l : List α, (l.filter p).length + (l.filter fun x => !p x).length = l.length
  | [] => rfl
  | a :: l => by
    have ih := filter_len p l
    rw [List.filter_cons, List.filter_cons]
    cases p a
    · simp only [Bool.not_false, if_true, Bool.false_eq_true, if_false, List.length_cons]
      omega
    · simp only [Bool.not_true, if_true, Bool.false_eq_true, if_false, List.length_cons]
      omega
theorem octs_nd : (letters.map oct8).Nodup := List.Pairwise.map _ (fun a b h e => h (oct8_inj e)) letters_nd
theorem fresh_nd (ns : List Str) : (freshF ns letters).Nodup := octs_nd.filter _
theorem fresh_no {ns : List Str} {cs : List Nat} {x : Str} (h : x ∈ freshF ns cs) : ¬ x ∈ ns := of_decide_eq_true (List.mem_filter.mp h).2
theorem fresh_ok {ns : List Str} {x : Str} (h : x ∈ freshF ns letters) : NameOk x := by
  obtain ⟨c, hc, rfl⟩ := List.mem_map.mp (List.mem_filter.mp h).1
  exact oct8_ok (abc_low hc)
theorem fresh_len {ns : List Str} (h : ns.length ≤ 6) : 20 ≤ (freshF ns letters).length := by
  have h1 := filter_len (fun x => decide (¬ x ∈ ns)) (letters.map oct8)
  rw [List.length_map, letters_len] at h1
  have h2 : ((letters.map oct8).filter fun x => !decide (¬ x ∈ ns)).length ≤ ns.length := by
    refine List.Nodup.length_le_of_subset (octs_nd.filter _) fun x hx => ?_
    have := (List.mem_filter.mp hx).2
    by_cases m : x ∈ ns
    · exact m
    · rw [decide_eq_true m] at this
      cases this
  unfold freshF
  omega
theorem fresh_le (ns : List Str) (cs : List Nat) : (freshF ns cs).length ≤ cs.length := by
  unfold freshF
  exact Nat.le_trans (List.length_filter_le _ _) (by rw [List.length_map]; exact Nat.le_refl _)
/-- both halves -/
def halves (z : (Str × Str) × Str) : List (Str × Str) := [nrm z.1.1 z.2, nrm z.1.2 z.2]
theorem halves_len : ∀ Z : List ((Str × Str) × Str), (Z.flatMap halves).length = 2 * Z.length
  | [] => rfl
  | z :: Z => by
    rw [List.flatMap_cons, List.length_append, halves_len Z, List.length_cons]
    show 2 + _ = _
    omega
theorem nrm_same {a b f g : Str} (h : nrm a f = nrm b g) (ag : a ≠ g) : a = b ∧ f = g := by
  rcases nrm_cases a f with e | e <;> rcases nrm_cases b g with e2 | e2 <;> rw [e, e2] at h <;> cases h
  · exact ⟨rfl, rfl⟩
  · exact absurd rfl ag
  · exact absurd rfl ag
  · exact ⟨rfl, rfl⟩
section
variable {ns : List Str} {es : List (Str × Str)} {L : List Str}
theorem zip_mem (G : PGr ns es) {z : (Str × Str) × Str} (h : z ∈ es.zip L) : z.1 ∈ es ∧ z.2 ∈ L ∧ z.1.1 ∈ ns ∧ z.1.2 ∈ ns := by
  obtain ⟨⟨a, b⟩, f⟩ := z
  obtain ⟨h1, h2⟩ := List.of_mem_zip h
  exact ⟨h1, h2, (G.inK _ _ h1).1, (G.inK _ _ h1).2⟩
theorem mid_mid (G : PGr ns es) (hl : L.length = es.length) (nd : L.Nodup) (fr : ∀ x, x ∈ L → ¬ x ∈ ns) : Mid es (es.zip L) nrm ((es.zip L).flatMap halves) := by
  have m1 : (es.zip L).map (·.1) = es := List.map_fst_zip (by omega)
  have m2 : (es.zip L).map (·.2) = L := List.map_snd_zip (by omega)
  refine ⟨m1, G.nde, by rw [m2]; exact nd, fun z hz x y hxy => ?_, nrm_cases, List.Perm.refl _, G.good, good_of fun p q h => ?_⟩
  · have h1 := fr _ (zip_mem G hz).2.1
    exact ⟨fun e => h1 (e ▸ (G.inK _ _ hxy).1), fun e => h1 (e ▸ (G.inK _ _ hxy).2)⟩
  · obtain ⟨z, hz, h⟩ := List.mem_flatMap.mp h
    obtain ⟨_, h2, h3, h4⟩ := zip_mem G hz
    have h1 := fr _ h2
    unfold halves at h
    simp only [List.mem_cons, List.not_mem_nil, or_false] at h
    rcases h with h | h
    · have := nrm_ord (x := z.1.1) (y := z.2) fun e => h1 (e ▸ h3)
      rw [← h] at this
      exact this
    · have := nrm_ord (x := z.1.2) (y := z.2) fun e => h1 (e ▸ h4)
      rw [← h] at this
      exact this
theorem mid_gt (G : PGr ns es) (hl : L.length = es.length) (nd : L.Nodup) (fr : ∀ x, x ∈ L → ¬ x ∈ ns) : Gt (ns ++ L) ((es.zip L).flatMap halves) := by
  have M := mid_mid G hl nd fr
  have m2 : (es.zip L).map (·.2) = L := List.map_snd_zip (by omega)
  have mem : ∀ {p q}, (p, q) ∈ (es.zip L).flatMap halves → ∃ z, z ∈ es.zip L ∧ ((p, q) = nrm z.1.1 z.2 ∨ (p, q) = nrm z.1.2 z.2) := fun h => M.mem.mp h
  refine ⟨fun p q h => ?_, ?_, fun p q h => ?_, ?_⟩
  · obtain ⟨z, hz, h⟩ := mem h
    obtain ⟨_, h2, h3, h4⟩ := zip_mem G hz
    have h1 := fr _ h2
    rcases h with h | h
    · have := nrm_ord (x := z.1.1) (y := z.2) fun e => h1 (e ▸ h3)
      rw [← h] at this
      exact this
    · have := nrm_ord (x := z.1.2) (y := z.2) fun e => h1 (e ▸ h4)
      rw [← h] at this
      exact this
  · have zn : (es.zip L).Nodup := by
      have h : ((es.zip L).map (·.2)).Nodup := by rw [m2]; exact nd
      exact List.Pairwise.of_map (S := fun a b => a ≠ b) (·.2) (fun a b h e => h (by rw [e])) h
    refine nodup_flat zn (fun z hz => ?_) fun z z' hz hz' e he he' => ?_
    · obtain ⟨h0, h2, h3, h4⟩ := zip_mem G hz
      have nab : z.1.1 ≠ z.1.2 := G.good.ne z.1.1 z.1.2 h0
      have h1 := fr _ h2
      unfold halves
      refine List.nodup_cons.mpr ⟨fun h => ?_, by simp⟩
      rw [List.mem_singleton] at h
      exact nab (nrm_same h fun e => h1 (e ▸ h3)).1
    · obtain ⟨h0, h2, h3, h4⟩ := zip_mem G hz
      obtain ⟨h0', h2', h3', h4'⟩ := zip_mem G hz'
      have h1 := fr _ h2'
      refine M.eq2 hz hz' ?_
      unfold halves at he he'
      simp only [List.mem_cons, List.not_mem_nil, or_false] at he he'
      rcases he with he | he <;> rcases he' with he' | he' <;> rw [he] at he'
      · exact (nrm_same he' fun e => h1 (e ▸ h3)).2
      · exact (nrm_same he' fun e => h1 (e ▸ h3)).2
      · exact (nrm_same he' fun e => h1 (e ▸ h4)).2
      · exact (nrm_same he' fun e => h1 (e ▸ h4)).2
  · obtain ⟨z, hz, h⟩ := mem h
    obtain ⟨_, h2, h3, h4⟩ := zip_mem G hz
    have a2 : z.2 ∈ ns ++ L := List.mem_append.mpr (.inr h2)
    have a3 : z.1.1 ∈ ns ++ L := List.mem_append.mpr (.inl h3)
    have a4 : z.1.2 ∈ ns ++ L := List.mem_append.mpr (.inl h4)
    rcases h with h | h
    · rcases nrm_cases z.1.1 z.2 with e | e <;> rw [e] at h <;> cases h
      · exact ⟨a3, a2⟩
      · exact ⟨a2, a3⟩
    · rcases nrm_cases z.1.2 z.2 with e | e <;> rw [e] at h <;> cases h
      · exact ⟨a4, a2⟩
      · exact ⟨a2, a4⟩
  · have c : ∀ v, v ∈ ns ++ L → ∃ u, u ∈ ns ∧ Conn ((es.zip L).flatMap halves) u v := fun v hv => by
      rcases List.mem_append.mp hv with hv | hv
      · exact ⟨v, hv, .refl⟩
      · rw [← m2] at hv
        obtain ⟨z, hz, rfl⟩ := List.mem_map.mp hv
        exact ⟨z.1.1, (zip_mem G hz).2.2.1, M.conn_mid hz⟩
    intro v w hv hw
    obtain ⟨u, hu, cu⟩ := c v hv
    obtain ⟨u', hu', cu'⟩ := c w hw
    exact (cu.symm.trans (M.conn (G.conn u u' hu hu'))).trans cu'
theorem Mid.sort {Z : List ((Str × Str) × Str)} {fs : List (Str × Str)} (M : Mid es Z nrm fs) : Mid es Z nrm (psort fs) :=
  { M with perm := (psort_perm fs).trans M.perm, good' := ⟨fun a b h => M.good'.ne a b (mem_psort.mp h), fun a b h q => M.good'.anti a b (mem_psort.mp h) (mem_psort.mp q)⟩ }
end
def spMid (K : PySem.W.Frag) : Sp := fun vs H Q _ => ∃ (pl : Addr) (ns : List Str) (es : List (Str × Str)), vs = [.ref pl] ∧ PlAt H pl ns es ∧ ns.length ≤ 6 ∧ es.length ≤ 13 ∧
  ∀ H' pl2 ns2 fs Z, Same H H' → PlAt H' pl2 ns2 fs → Mid es Z nrm fs → Q (.ref pl2) H'
abbrev nMd : List Str := ["_law_plan", "_law_sizes", "_law_found", "_law_fresh", "_law_k", "_law_letter", "_law_room"]
theorem scMd : FnScope nMd ["_law_plan"] (C8.fnScope sMiddled) := ⟨rfl, rfl, rfl, by decide +kernel, rfl, by decide +kernel, by decide +kernel⟩
abbrev rMul8 : R2 := fun x y H Q => ∃ (c : Nat), x = .str ⟨#[c]⟩ ∧ y = .int 8 ∧ Q (.str ⟨#[c, c, c, c, c, c, c, c]⟩) H
abbrev frK (L : List Str) : List (Key × V) := L.map fun f => (Sum.inr f, V.int 1)
section
variable {P : Program} {w : World} {K : PySem.W.Frag} {mg : Str → Option Value} {base : Heap}
theorem cal_mid {f : Addr} {fd : FuncData} (F : C8.Def K mg "_law_middled" sMiddled f fd) (b : Binds K fd ["_law_plan"] []) (z : Bi mg) (cL : C8.Cal P w K mg base 1 "_law_pair" spPair []) : C8.Cal P w K mg base 2 "_law_middled" (spMid K) [] := by
  refine C8.cal0 F b .nil scMd (fun vs H Q E h => ?_) (fun cdv A outer s H vs Q E hr h => ?_)
  · obtain ⟨pl, ns, es, rfl, _⟩ := h
    rfl
  · obtain ⟨pl, ns, es, rfl, ⟨d, l, kz, xs, p⟩, n6, e13, k⟩ := h
    have hu := hu_of hr
    refine ⟨_, pss_cons (ps_par (i := 1) (j := 2) (by rfl) scMd.nd rfl rfl (by decide) rfl rfl (pa_cons (pe_callTy call_dictD (by rfl) z.dict (by decide +kernel) (pa_cons (pe_ix ix_tup (pv 0) pe_int (fun _ _ => rfl)) pa_nil)) (pa_cons (pe_lst pa_nil) pa_nil)) (by rfl))
      (pss_cons (ps_set (i := 3) scMd.nd rfl (Or.inr rfl) (pe_lc (own := [("_law_letter", 5)]) (g := gName 5) (tt := tB (tDNotIn (tOp rMul8 (tVar 5) (tC (.int 8))) (tOp (rIxT K) (tVar 0) (tC (.int 0))))) (te := tOp rMul8 (tVar 5) (tC (.int 8))) rfl scMd.nd (pi_str pe_str)
          (blkOk_by (N := nMd) (sc := C8.fnScope sMiddled) (own := [("_law_letter", 5)]) (by decide +kernel)) (fun _ _ _ _ _ => pg_name (i := 5) scMd.nd rfl (Or.inl rfl))
          (fun _ _ _ _ _ => pts_one (pt_cmp (pc_dnotin hu (pe_op op_mul_str (pv 5) pe_int) (pe_ix ix_tup (pv 0) pe_int (fun _ _ => rfl))))) (fun _ _ _ _ _ => pe_op op_mul_str (pv 5) pe_int)))
      (pss_cons (ps_for PassesOwn.never rfl (pi_range1 (by rfl) z.range (pa_cons (pe_callB call_len_seq (by rfl) z.len (by decide +kernel) (pa_cons (pe_ix ix_tup (pv 0) pe_int (fun _ _ => rfl)) pa_nil)) pa_nil)) (pg_name (i := 4) scMd.nd rfl (Or.inr rfl))
        (pss_cons (ps_dput hu (pv 1) (pe_ix ix_list (pv 3) (pv 4) (fun _ _ => rfl)) pe_int rfl)
        (pss_one (ps_expr (pe_bm PySem.F.plainAttrs_list PySem.F.slot_list_extend PySem.F.type_list_extend mt_extend (pv 2) (pa_cons (pe_lc (own := [("_law_room", 6)]) (g := gName 6) (tt := tYes) (te := tCall spPair [] C8.E0 (tCons (tVar 6) (tCons (tOp (rIxL K) (tVar 3) (tVar 4)) tNil))) rfl scMd.nd (pi_tup (pe_ix ix_list (pe_ix ix_tup (pv 0) pe_int (fun _ _ => rfl)) (pv 4) (fun _ _ => rfl)))
          (blkOk_by (N := nMd) (sc := C8.fnScope sMiddled) (own := [("_law_room", 6)]) (by decide +kernel)) (fun _ _ _ _ _ => pg_name (i := 6) scMd.nd rfl (Or.inl rfl)) (fun _ _ _ _ _ => pts_nil)
          (fun _ _ _ _ _ => C8.pe_c cL hr (by decide) (by rfl) (pa_cons (pv 6) (pa_cons (pe_ix ix_list (pv 3) (pv 4) (fun _ _ => rfl)) pa_nil)))) pa_nil))))))
      (pss_one (ps_ret (pe_tup (pa_cons (pv 1) (pa_cons (pe_callB cr_sortedPS (by rfl) z.sorted (by decide +kernel) (pa_cons (pv 2) pa_nil)) pa_nil))))))), ?_⟩
    have G := p.gr
    -- sizes, found
    refine ⟨_, rfl, pl, _, _, .ref d, rfl, rfl, SqT.of p.ob, atI_nat (j := 0) rfl, d, kz, rfl, .inl p.oD, fun d2 hd2 => ⟨(by show 0 ≤ sizeLine; exact Nat.zero_le _), fun lf hlf => ⟨_, _, rfl, ?_⟩⟩⟩
    have s1 := Same.upd_new (o := .dK kz) hd2
    have s2 := s1.to_new (o := .lst []) hlf
    have ndf : d2 ≠ lf := fun e => by
      rw [← e, upd_same] at hlf
      cases hlf
    have hlf0 : H lf = none := s1.free hlf
    have hd2' : (upd (upd H d2 (.dK kz)) lf (.lst [])) d2 = some (.dK kz) := by rw [upd_ne ndf, upd_same]
    have hlf' : (upd (upd H d2 (.dK kz)) lf (.lst [])) lf = some (.lst []) := upd_same
    generalize upd (upd H d2 (.dK kz)) lf (.lst []) = H2 at s2 hd2' hlf'
    have p2 := p.same s2
    -- fresh
    refine ⟨abc, rfl, fun D hD => lc_it walk_str (fun i H3 => Same H2 H3 ∧ H3 D = some (.lst ((freshF ns (letters.take i)).map V.str)))
      ⟨Same.upd_new hD, upd_same⟩ (fun _ _ _ _ => trivial) ?_ ?_⟩
    · rintro i x _ H3 hi ⟨s3, hD3⟩ ⟨rfl, c, hc, rfl⟩
      have hc' : letters[i]? = some c := by
        have := Array.getElem?_toList (xs := abc.cps) (i := i)
        exact this.trans hc
      have p3 := p2.same s3
      have hi26 : i < 26 := by
        have := lt_of_get hc'
        rw [letters_len] at this
        exact this
      refine ⟨rfl, _, rfl, c, rfl, rfl, _, rfl, pl, _, _, .ref d, rfl, rfl, SqT.of p3.ob, atI_nat (j := 0) rfl, d, _, rfl, DGet.k (k := Sum.inr (oct8 c)) p3.oD, _, rfl, ?_⟩
      have e1 : freshF ns (letters.take (i + 1)) = freshF ns (letters.take i) ++ (if oct8 c ∈ ns then [] else [oct8 c]) := by
        unfold freshF
        rw [take_snoc hc', List.map_append, List.filter_append]
        congr 1
        by_cases m : oct8 c ∈ ns
        · rw [if_pos m]
          exact List.filter_eq_nil_iff.mpr fun x hx => by rw [List.mem_singleton.mp hx]; simpa using m
        · rw [if_neg m]
          exact List.filter_eq_self.mpr fun x hx => by rw [List.mem_singleton.mp hx]; simpa using m
      by_cases m : oct8 c ∈ ns
      · have hv : ∃ v, valV kz (Sum.inr (oct8 c) : Key) = some v := by
          cases e : valV kz (Sum.inr (oct8 c) : Key) with
          | some v => exact ⟨v, rfl⟩
          | none => exact absurd (by rw [p.kD]; exact List.mem_map.mpr ⟨_, m, rfl⟩) (valV_not e)
        obtain ⟨v, hv⟩ := hv
        rw [hv]
        rw [if_pos m, List.append_nil] at e1
        exact iteF ⟨s3, by rw [e1]; exact hD3⟩
      · have hv : valV kz (Sum.inr (oct8 c) : Key) = none := by
          cases e : valV kz (Sum.inr (oct8 c) : Key) with
          | none => rfl
          | some v =>
            have := valV_in e
            rw [p.kD] at this
            obtain ⟨y, hy, e⟩ := List.mem_map.mp this
            exact absurd (Sum.inr.inj e ▸ hy) m
        rw [hv]
        rw [if_neg m] at e1
        have hfl := fresh_le ns (letters.take i)
        rw [List.length_take] at hfl
        refine iteT ⟨_, rfl, c, rfl, rfl, _, hD3, small1000 (by rw [List.length_map]; omega), s3.to_own hD, ?_⟩
        rw [e1, upd_same, List.map_append]
        rfl
    rintro H3 ⟨s3, hD3⟩
    have eall : letters.take abc.cps.size = letters := List.take_of_length_le (by simp)
    rw [eall] at hD3
    -- the middles
    obtain ⟨L, hL⟩ : ∃ L, (freshF ns letters).take es.length = L := ⟨_, rfl⟩
    have f20 := fresh_len n6
    have lL : L.length = es.length := by rw [← hL, List.length_take]; omega
    have ndL : L.Nodup := by rw [← hL]; exact (fresh_nd ns).sublist (List.take_sublist ..)
    have mL : ∀ x, x ∈ L → x ∈ freshF ns letters := fun x hx => List.mem_of_mem_take (by rw [hL]; exact hx)
    have noL : ∀ x, x ∈ L → ¬ x ∈ ns := fun x hx => fresh_no (mL x hx)
    have p3 := p2.same s3
    have hd3 := s3 _ _ hd2'
    have hlf3 := s3 _ _ hlf'
    have nDf : D ≠ lf := (ne_of_none hlf' hD).symm
    have hxl := p.pL.length
    have fl0 : ∀ i, (((es.zip L).take i).flatMap halves).length ≤ 2 * i := fun i => by
      rw [halves_len, List.length_take]
      omega
    refine ⟨_, rfl, pl, _, _, .ref l, rfl, rfl, SqT.of p3.ob, atI_nat (j := 1) rfl, l, _, rfl, .inl (SqL.of p3.oL), (xs.length : Nat), rfl, by omega, by omega, ?_⟩
    have emm : ((xs.length : Nat) : Int).toNat = es.length := by omega
    refine for_it (J := Itr 0 ((xs.length : Nat) : Int).toNat) walk_range (fun i σ H4 => ∃ (u : Option V) (ys : List V), σ = [some (.ref pl), some (.ref d2), some (.ref lf), some (.ref D), u, none, none] ∧ Same H H4 ∧ H4 d2 = some (.dK (kz ++ frK (L.take i))) ∧ H4 lf = some (.lst ys) ∧ H4 D = some (.lst ((freshF ns letters).map V.str)) ∧ Pz H4 ys (((es.zip L).take i).flatMap halves))
      ⟨none, [], rfl, s2.trans s3, by rw [List.take_zero]; show H3 d2 = some (.dK (kz ++ [])); rw [List.append_nil]; exact hd3, hlf3, hD3, .nil⟩ (fun _ _ _ _ _ => trivial) ?_ ?_
    · rintro i x σ _ H4 hi ⟨u, ys, rfl, s4, hd4, hlf4, hD4, P4⟩ ⟨rfl, rfl⟩
      rw [emm] at hi
      have hiL : i < L.length := by omega
      have hfi : (freshF ns letters)[i]? = some L[i] := by
        have h : L[i]? = some L[i] := List.getElem?_eq_getElem hiL
        have h2 : ((freshF ns letters).take es.length)[i]? = some L[i] := by rw [hL]; exact h
        rw [List.getElem?_take, if_pos hi] at h2
        exact h2
      have hgf : ((freshF ns letters).map V.str)[i]? = some (.str L[i]) := by rw [List.getElem?_map, hfi]; rfl
      obtain ⟨f, hf⟩ : ∃ f, L[i] = f := ⟨_, rfl⟩
      rw [hf] at hgf
      have hfL : f ∈ L := hf ▸ List.getElem_mem hiL
      have hfn := noL f hfL
      have p4 := p.same s4
      -- sizes[fresh[k]] = 1
      have hkl : (kz ++ frK (L.take i)).length < 1000 := by
        have h1 : kz.length = ns.length := by
          have := congrArg List.length p.kD
          rw [List.length_map, List.length_map] at this
          exact this
        rw [List.length_append, List.length_map, List.length_take]
        omega
      have hLi : L[i]? = some f := by rw [List.getElem?_eq_getElem hiL, hf]
      have hv0 : valV (kz ++ frK (L.take i)) (Sum.inr f : Key) = none := by
        cases e : valV (kz ++ frK (L.take i)) (Sum.inr f : Key) with
        | none => rfl
        | some v =>
          have := valV_in e
          rw [List.map_append, p.kD] at this
          rcases List.mem_append.mp this with h | h
          · obtain ⟨y, hy, e⟩ := List.mem_map.mp h
            exact absurd (Sum.inr.inj e ▸ hy) hfn
          · rw [List.map_map] at h
            obtain ⟨y, hy, e⟩ := List.mem_map.mp h
            have e : y = f := Sum.inr.inj e
            subst e
            obtain ⟨j, hj⟩ := List.getElem?_of_mem hy
            rw [List.getElem?_take] at hj
            split at hj
            · have := nd_ix ndL hj hLi
              omega
            · cases hj
      refine ⟨_, rfl, _, rfl, _, rfl, D, _, _, .str f, rfl, rfl, SqL.of hD4, at_of (j := i) (by omega) hgf, d2, _, rfl, DPut.k (k := Sum.inr f) hd4 (small1000 (by omega)), ?_⟩
      rw [putK_new _ hv0]
      have hLt : L.take (i + 1) = L.take i ++ [f] := take_snoc hLi
      have ekz : (kz ++ frK (L.take i)) ++ [((Sum.inr f : Key), V.int 1)] = kz ++ frK (L.take (i + 1)) := by
        rw [hLt, List.append_assoc]
        unfold frK
        rw [List.map_append]
        rfl
      rw [ekz]
      have nld : lf ≠ d2 := ne_of hlf4 hd4 (by intro z; cases z)
      have nDd : D ≠ d2 := ne_of hD4 hd4 (by intro z; cases z)
      have s5 := s4.to_own (o := .dK (kz ++ frK (L.take (i + 1)))) hd2
      have hd5 : (upd H4 d2 (.dK (kz ++ frK (L.take (i + 1))))) d2 = some (.dK (kz ++ frK (L.take (i + 1)))) := upd_same
      have hlf5 : (upd H4 d2 (.dK (kz ++ frK (L.take (i + 1))))) lf = some (.lst ys) := by rw [upd_ne nld]; exact hlf4
      have hD5 : (upd H4 d2 (.dK (kz ++ frK (L.take (i + 1))))) D = some (.lst ((freshF ns letters).map V.str)) := by rw [upd_ne nDd]; exact hD4
      have P5 : Pz (upd H4 d2 (.dK (kz ++ frK (L.take (i + 1))))) ys (((es.zip L).take i).flatMap halves) := P4.mono fun t zs e => by rw [upd_ne (ne_of e hd4 (by intro z; cases z))]; exact e
      generalize upd H4 d2 (.dK (kz ++ frK (L.take (i + 1)))) = H5 at s5 hd5 hlf5 hD5 P5
      have p5 := p.same s5
      -- found.extend(..)
      have hix : i < xs.length := by omega
      obtain ⟨t, a, b', ht, he, htp⟩ := p5.pL.get (List.getElem?_eq_getElem hix)
      have hgx : xs[i]? = some (.ref t) := by rw [List.getElem?_eq_getElem hix, ht]
      refine ⟨_, rfl, .inl ⟨rfl, _, SqL.of hlf5⟩, _, rfl, pl, _, _, .ref l, rfl, rfl, SqT.of p5.ob, atI_nat (j := 1) rfl, _, rfl, l, _, _, .ref t, rfl, rfl, SqL.of p5.oL, at_of (j := i) (by omega) hgx, t, rfl, ⟨_, SqT.of htp⟩, fun D2 hD2 => ?_⟩
      refine lc_it walk_tup (fun j H6 => ∃ zs : List V, Same H5 H6 ∧ H6 D2 = some (.lst zs) ∧ Pz H6 zs ((halves ((a, b'), f)).take j) ∧ j ≤ 2)
        ⟨[], Same.upd_new hD2, upd_same, .nil, Nat.zero_le _⟩ (fun j H6 _ ⟨_, s6, _⟩ => SqT.of (s6 _ _ htp)) ?_ ?_
      · rintro j y _ H6 hj ⟨zs, s6, hD6, P6, _⟩ ⟨rfl, hy⟩
        have hj2 : j < 2 := hj
        have hyr : ∃ r, y = .str r ∧ (halves ((a, b'), f))[j]? = some (nrm r f) := by
          match j, hj2, hy with
          | 0, _, hy => exact ⟨a, (Option.some.inj hy).symm, rfl⟩
          | 1, _, hy => exact ⟨b', (Option.some.inj hy).symm, rfl⟩
        obtain ⟨r, rfl, hrf⟩ := hyr
        have hDD6 := s6 _ _ hD5
        refine ⟨rfl, _, rfl, _, rfl, _, rfl, D, _, _, .str f, rfl, rfl, SqL.of hDD6, at_of (j := i) (by omega) hgf, r, f, rfl, fun H7 t7 s7 _ ht7 => ?_⟩
        have hD7 := s7 _ _ hD6
        have P7 := s7.pz P6
        have zl := P7.length
        rw [List.length_take] at zl
        refine ⟨zs, hD7, small1000 (by omega), zs ++ [.ref t7], (s6.trans s7).to_own hD2, upd_same, ?_, hj2⟩
        rw [take_snoc hrf]
        exact (P7.mono fun x zs e => by rw [upd_ne (ne_of e hD7 (by intro z; cases z))]; exact e).snoc (by rw [upd_ne (ne_of ht7 hD7 (by intro z; cases z))]; exact ht7)
      · rintro H6 ⟨zs, s6, hD6, P6, _⟩
        have P6 : Pz H6 zs (halves ((a, b'), f)) := P6
        have hlf6 := s6 _ _ hlf5
        have P6' := s6.pz P5
        have l1 := P6'.length
        have l2 := P6.length
        have l2 : zs.length = 2 := l2
        have l3 := fl0 i
        refine ⟨lf, D2, ys, zs, rfl, rfl, hlf6, hD6, Nat.le_of_lt (small1000 (by omega)), ?_⟩
        refine ⟨_, ys ++ zs, rfl, (s5.trans s6).to_own hlf0, by rw [upd_ne ndf]; exact s6 _ _ hd5, upd_same, by rw [upd_ne nDf]; exact s6 _ _ hD5, ?_⟩
        have hzi : (es.zip L)[i]? = some ((a, b'), f) := by
          rw [List.getElem?_zip_eq_some]
          exact ⟨he, hLi⟩
        rw [take_snoc hzi, List.flatMap_append]
        have e2 : [((a, b'), f)].flatMap halves = halves ((a, b'), f) := by simp
        rw [e2]
        have up : ∀ {us : List V} {gs : List (Str × Str)}, Pz H6 us gs → Pz (upd H6 lf (.lst (ys ++ zs))) us gs := fun h => h.mono fun x zs e => by rw [upd_ne (ne_of e hlf6 (by intro z; cases z))]; exact e
        exact paired_append (up P6') (up P6)
    · rintro σ H4 ⟨u, ys, rfl, s4, hd4, hlf4, hD4, P4⟩
      rw [emm] at hd4 P4
      have ez : (es.zip L).take es.length = es.zip L := List.take_of_length_le (by rw [List.length_zip]; omega)
      have eL : L.take es.length = L := List.take_of_length_le (by omega)
      rw [ez] at P4
      rw [eL] at hd4
      have gt := mid_gt G lL ndL noL
      have kl : (ns ++ L).length ≤ 24 := by rw [List.length_append]; omega
      have fl : ((es.zip L).flatMap halves).length ≤ 40 := by rw [halves_len, List.length_zip]; omega
      have pg := gt.pgr (by intro e; exact G.ne (List.append_eq_nil_iff.mp e).1) (List.nodup_append.mpr ⟨G.nd, ndL, fun x hx y hy e => noL y hy (e ▸ hx)⟩) (fun x hx => (List.mem_append.mp hx).elim (G.nm x) fun hx => fresh_ok (mL x hx)) kl fl
      refine ⟨_, rfl, _, rfl, lf, ys, _, rfl, SqL.of hlf4, P4, fun zs q pm PZ hq => ⟨(by show 2 ≤ sizeLine; decide), fun t ht => ?_⟩⟩
      have s5 := Same.upd_new (o := .lst zs) hq
      have s6 := s5.to_new (o := .tup [.ref d2, .ref q]) ht
      refine k _ t (ns ++ L) _ (es.zip L) (s4.trans s6) ⟨d2, q, _, zs, upd_same, s6 _ _ hd4, ?_, ?_, ?_, s6.pz PZ, pg, psort_pw _⟩ (mid_mid G lL ndL noL).sort
      · rw [List.map_append, List.map_append, p.kD, List.map_map]
        rfl
      · intro k v h
        rcases List.mem_append.mp h with h | h
        · exact p.vD k v h
        · obtain ⟨y, _, e⟩ := List.mem_map.mp h
          cases e
          exact ⟨1, rfl, by decide, by decide⟩
      · rw [upd_ne (ne_of_none upd_same ht)]
        exact upd_same
end
end Yf
set_option Elab.async false
set_option linter.all false
set_option maxRecDepth 100000
set_option maxHeartbeats 4000000
/-! L10: _law_is_mixed. -/
namespace Yf
open PySem PySem.Spec PyProof.Rows L2
/-! ### plain -/
theorem flat_le {α β : Type} {f : α → List β} {c : Nat} : ∀ {l : List α}, (∀ r, r ∈ l → (f r).length ≤ c) → (l.flatMap f).length ≤ l.length * c
  | [], _ => by simp
  | a :: l, h => by
    have h1 := h a (List.mem_cons_self ..)
    have h2 := flat_le (l := l) fun r hr => h r (List.mem_cons_of_mem _ hr)
    rw [List.flatMap_cons, List.length_append, List.length_cons, Nat.succ_mul]
    omega
theorem ex_bound {nb : Str → List Str} (hd : ∀ x, (nb x).length ≤ 6) {last : Str} : ∀ (n : Nat) (vis : List Str) (cur : Str), (Ex nb last n vis cur).length ≤ 6 ^ n
  | 0, _, _ => by simp [Ex]
  | n + 1, vis, cur => by
    unfold Ex
    by_cases e : cur = last
    · rw [if_pos e]
      exact Nat.one_le_pow _ _ (by decide)
    · rw [if_neg e]
      refine Nat.le_trans (flat_le (c := 6 ^ n) fun r hr => ?_) (by rw [Nat.pow_succ, Nat.mul_comm]; exact Nat.mul_le_mul_left _ (hd cur))
      by_cases m : r ∈ vis
      · rw [if_pos m]
        exact Nat.zero_le _
      · rw [if_neg m, List.length_map]
        exact ex_bound hd n _ r
/-- those joined to r -/
def nbAll (es : List (Str × Str)) (r : Str) : List Str := (es.filter fun e => decide (e.1 = r)).map (·.2) ++ (es.filter fun e => decide (e.2 = r)).map (·.1)
theorem nbAll_mem {es : List (Str × Str)} {r y : Str} : y ∈ nbAll es r ↔ Adj es r y := by
  unfold nbAll Adj
  rw [List.mem_append, List.mem_map, List.mem_map]
  constructor
  · rintro (⟨⟨a, b⟩, h, rfl⟩ | ⟨⟨a, b⟩, h, rfl⟩)
    · obtain ⟨h1, h2⟩ := List.mem_filter.mp h
      have h2 : a = r := of_decide_eq_true h2
      exact .inl (h2 ▸ h1)
    · obtain ⟨h1, h2⟩ := List.mem_filter.mp h
      have h2 : b = r := of_decide_eq_true h2
      exact .inr (h2 ▸ h1)
  · rintro (h | h)
    · exact .inl ⟨(r, y), List.mem_filter.mpr ⟨h, decide_eq_true rfl⟩, rfl⟩
    · exact .inr ⟨(y, r), List.mem_filter.mpr ⟨h, decide_eq_true rfl⟩, rfl⟩
theorem bfs_row {es : List (Str × Str)} {s r : Str} {i l : Nat} {p : Option Str} : ∀ (ys : List Str) {T : Tb Str} {ds : List Str}, BfsIn es s T i ds → T[i]? = some (r, (l, p)) → (∀ y, y ∈ ys → Adj es r y) → ∃ T', BfsIn es s T' i (ds ++ ys) ∧ T'[i]? = some (r, (l, p))
  | [], T, ds, B, hr, _ => ⟨T, by rw [List.append_nil]; exact B, hr⟩
  | y :: ys, T, ds, B, hr, h => by
    have e : ds ++ y :: ys = (ds ++ [y]) ++ ys := by simp
    rw [e]
    by_cases m : y ∈ keys T
    · exact bfs_row ys (B.skip m) hr fun z hz => h z (List.mem_cons_of_mem _ hz)
    · refine bfs_row ys (B.put hr (h y (List.mem_cons_self ..)) m) ?_ fun z hz => h z (List.mem_cons_of_mem _ hz)
      rw [List.getElem?_append_left (lt_of_get hr)]
      exact hr
theorem bfs_go {es : List (Str × Str)} {s : Str} (el : es.length ≤ 40) : ∀ (n i : Nat) {T : Tb Str}, n + i = 82 → BfsIn es s T i [] → ∃ T', Bfs es s T'
  | 0, i, T, e, B => ⟨T, B.fin (by have := B.len el; omega)⟩
  | n + 1, i, T, e, B => by
    by_cases h : i < T.length
    · obtain ⟨⟨r, l, p⟩, hr⟩ : ∃ x, T[i]? = some x := ⟨_, List.getElem?_eq_getElem h⟩
      obtain ⟨T', B', hr'⟩ := bfs_row (nbAll es r) B hr fun y hy => nbAll_mem.mp hy
      rw [List.nil_append] at B'
      exact bfs_go el n (i + 1) (by omega) (B'.next hr' fun w a => nbAll_mem.mpr a)
    · exact ⟨T, B.fin (by omega)⟩
theorem bfs_ex {es : List (Str × Str)} (el : es.length ≤ 40) (s : Str) : ∃ T, Bfs es s T := bfs_go el 82 0 rfl .start
theorem mixed_lev {ks : List Str} {es : List (Str × Str)} (G : PGr ks es) (k6 : ks.length ≤ 6) :
    (∃ a b, a ∈ ks ∧ b ∈ nbF ks es a ∧ ∃ l, l ∈ Ex (nbF ks es) b 6 [a] a ∧ l.length % 2 = 0) ↔ LevG es (smin ks) := by
  obtain ⟨T, B⟩ := bfs_ex G.el (smin ks)
  rw [levG_iff G.nd G.inK G.good G.cm B]
  exact (nbF_nbs G).mixed_iff G.good B (fun x hx => B.mem.mpr (G.cm x hx)) k6
theorem nbF_len (ks : List Str) (es : List (Str × Str)) (x : Str) : (nbF ks es x).length ≤ ks.length := by
  unfold nbF
  rw [(ssort_perm _).length_eq]
  exact List.length_filter_le _ _
theorem ex_line {ks : List Str} {es : List (Str × Str)} (k6 : ks.length ≤ 6) (a b : Str) : (Ex (nbF ks es) b 6 [a] a).length ≤ sizeLine := by
  refine Nat.le_trans (ex_bound (fun x => Nat.le_trans (nbF_len ks es x) k6) 6 [a] a) ?_
  rw [sizeLine_eq]
  decide
/-! ### ints as data -/
theorem iDs_lay : ∀ xs : List Int, PyData.canLayAll0 (xs.map PyData.int) = true
  | [] => by simp [PyData.canLayAll0]
  | x :: xs => by
    have := iDs_lay xs
    show PyData.canLayAll0 (PyData.int x :: xs.map PyData.int) = true
    simp only [PyData.canLayAll0, PyData.canLay0, this, Bool.and_true]
theorem iDs_depth : ∀ xs : List Int, PyData.depthAll (xs.map PyData.int) ≤ 1
  | [] => by simp [PyData.depthAll]
  | x :: xs => by
    have := iDs_depth xs
    show PyData.depthAll (PyData.int x :: xs.map PyData.int) ≤ 1
    simp only [PyData.depthAll, PyData.depth]
    omega
theorem shaped_ints (xs : List Int) : SeqAt.shaped (.list (xs.map PyData.int)) = true := by
  have h1 := iDs_depth xs
  show (PyData.canLay0 (.list (xs.map PyData.int)) && decide (PyData.depth (.list (xs.map PyData.int)) ≤ 64)) = true
  rw [Bool.and_eq_true]
  exact ⟨by simp only [PyData.canLay0]; exact iDs_lay xs, decide_eq_true (by simp only [PyData.depth]; omega)⟩
theorem dp_ints {K : PySem.W.Frag} {H : Hp} : ∀ (xs : List Int), DpAll K H (xs.map V.int) (xs.map PyData.int)
  | [] => .nil
  | x :: xs => .cons (.int x) (dp_ints xs)
theorem ints_nil (xs : List Int) : PyData.eqv (.list (xs.map PyData.int)) (.list []) = decide (xs = []) := by
  cases xs with
  | nil => simp [PyData.eqv, PyData.eqvAll]
  | cons x xs => simp [PyData.eqv, PyData.eqvAll]
/-! ### the walk -/
abbrev rInt1 : List V → Hp → VK → Prop := fun xs H Q => (∃ i, xs = [.int i] ∧ Q (.int i) H) ∨ ∃ k, xs = [.bl k] ∧ Q (.int (if k then 1 else 0)) H
theorem scWLen : FnScope ["self"] ["self"] (C8.fnScope sWLen) := ⟨rfl, rfl, rfl, by decide +kernel, rfl, by decide +kernel, by decide +kernel⟩
/-- what len(walk) needs -/
structure WLen (K : PySem.W.Frag) (CW : Addr) : Prop where
  ex : ∃ (f : Addr) (fd : FuncData), C8.Fun K "__len__" "Walk.__len__" sWLen f fd ∧ Binds K fd ["self"] [] ∧ Spc K CW "__len__" f ∧ Cls K CW ∧ NoAttr K CW "entered"
theorem walk_elt {X : Cx} {scope : Scope} {x : Str} {CW : Addr} {L : List (List Str)} {a : Str} {p1 p2 p3 : Pos} (wl : WLen X.K CW) (hr : Room 3 X.A) (hmg : X.mg "len" = none) (hxs : scope.names.lookup ("len" : Str) = some .globalImplicit) (hd : (x == ("__debug__" : Str)) = false := by decide) :
    EltOk X scope x (.Call (.Name "len" p1) [.Name x p2] [] p3) (fun j y H' => ∃ z ext, y = .ref z ∧ L[j]? = some ext ∧ WalkAt CW H' z ([a] ++ ext)) (fun j v => ∃ ext, L[j]? = some ext ∧ v = .int (ext.length : Nat)) := by
  obtain ⟨f, fd, Fn, hb, spc, c, na⟩ := wl.ex
  refine elt_len Fn scWLen hb spc c na (by rfl) (by decide +kernel) (by decide +kernel) hr hmg hxs (fun j y H' h => ?_) hd
  obtain ⟨z, ext, rfl, he, dx, fs, e, ys, h1, h2, h3, h4⟩ := h
  have h5 : ys.length = ext.length := by
    rw [List.length_append, List.length_singleton] at h4
    omega
  exact ⟨z, dx, fs, e, ys, rfl, h1, h2, h3, ext, he, by rw [h5]⟩
theorem room_in {k : Nat} {A : Around} (r : Room (k + 1) A) : Room k A.in1 := ⟨r.hd, by have := r.dp; show A.depth + 3 * k + 5 < _; omega, by have := r.un; show A.units + 1 + 16 * k + 200 < _; omega⟩
def spMixed (C : Addr) : Sp := fun vs H Q _ => ∃ h ks es, vs = [.ref h] ∧ BAt C H h ks es ∧ PGr ks es ∧ ks.length ≤ 6 ∧ ∀ H' b, Same H H' → (b = true ↔ LevG es (smin ks)) → Q (.bl b) H'
abbrev nMx : List Str := ["_law_house", "_law_one", "_law_other", "_law_lengths", "_law_walk", "_law_size"]
theorem scMx : FnScope nMx ["_law_house"] (C8.fnScope sMixed) := ⟨rfl, rfl, rfl, by decide +kernel, rfl, by decide +kernel, by decide +kernel⟩
section
variable {P : Program} {w : World} {K : PySem.W.Frag} {mg : Str → Option Value} {base : Heap}
theorem fn_mixed {C CW f fp : Addr} {fd fdp : FuncData} (F : C8.Fun K "_law_is_mixed" "_law_is_mixed" sMixed f fd) (z : Bi mg) (T : BTxt K C) (pR : Prp P w K mg base 1 C "rooms" (spRooms C)) (mN : C8.Met P w K mg base 3 C "neighbours" (spNeigh C) []) (mp : Meth K C "paths" fp)
    (Fp : GFn2 P w K mg base 19 fp fdp ["self", "first", "last"] (spPaths C CW)) (bp : Binds K fdp ["self", "first", "last"] []) (wl : WLen K CW) : FnOk2 P w K mg base 22 f fd ["_law_house"] (spMixed C) := by
  refine fn2_of (k := 21) F scMx (fun vs H Q E h => ?_) (fun cdv A outer s H vs Q hr h => ?_)
  · obtain ⟨h, ks, es, rfl, _⟩ := h
    rfl
  · obtain ⟨h, ks, es, rfl, BA, G, k6, k⟩ := h
    refine ⟨_, gss_cons (gs_for rfl (pi_tup (pe_pr pR hr (by decide) (pv 0))) (pg_name (i := 1) scMx.nd rfl (Or.inl rfl))
        (gss_one (gs_for rfl (pi_tup (C8.pe_mt mN hr (by decide) (pv 0) (pa_cons (pv 1) pa_nil))) (pg_name (i := 2) scMx.nd rfl (Or.inl rfl))
          (gss_cons (gs_setLc (i := 3) scMx.nd rfl rfl (sw_true rfl rfl rfl (by decide +kernel)) (pgen3_meth (pv 0) T.cl mp Fp (hr.mono (by decide)) bp (pa_cons (pv 1) (pa_cons (pv 2) pa_nil))) (room_in (hr.mono (by decide))) (lcSc_by (by decide +kernel)))
          (gss_one (gs_ps (ps_if (pt_cmpR (op_neD hr.units) (pe_lc (own := [("_law_size", 5)]) (g := gName 5) (tt := tTest (tOp rEq (tOp (rI (fun _ j => 0 < j) fun i j => .int (i % j)) (tCB rInt1 (tCons (tVar 5) tNil)) (tC (.int 2))) (tC (.int 0)))) (te := tVar 5) rfl scMx.nd (pi_list (pv 3))
              (blkOk_by (N := nMx) (sc := C8.fnScope sMixed) (own := [("_law_size", 5)]) (by decide +kernel)) (fun _ _ _ _ _ => pg_name (i := 5) scMx.nd rfl (Or.inl rfl))
              (fun _ _ _ _ _ => pts_one (pt_cmpR op_eq (pe_op op_mod (pe_callTy call_int1 (by rfl) z.int (by decide +kernel) (pa_cons (pv 5) pa_nil)) pe_int) pe_int (nomark _))) (fun _ _ _ _ _ => pv 5)) (pe_lst pa_nil) (nomark _)) (pss_one (ps_ret pe_bl)) pss_nil)))))))
      (gss_one (gs_ps (ps_ret pe_bl))), fun n => ?_⟩
    have key := mixed_lev G k6
    refine ⟨_, rfl, ?_⟩
    obtain ⟨dx, fs, dS, kvs, p, xs, dN, nk, vS, vR, tB, ys, B⟩ := id BA
    refine ⟨h, dx, fs, rfl, B.ob, h, ks, es, rfl, BA, fun H1 t s1 ht => ⟨t, rfl, ⟨_, SqT.of ht⟩, ?_⟩⟩
    -- for one in rooms
    refine for_itG walk_tup (fun i j σ H2 => ∃ u v x, σ = [some (.ref h), u, v, x, none, none] ∧ j = 0 ∧ Same H1 H2 ∧ ∀ a b, a ∈ ks.take i → b ∈ nbF ks es a → ∀ l, l ∈ Ex (nbF ks es) b 6 [a] a → l.length % 2 ≠ 0)
      ⟨none, none, none, rfl, rfl, Same.refl _, fun a b ha => (nomatch ha)⟩ (fun i j σ H2 _ ⟨_, _, _, _, _, s2, _⟩ => SqT.of (s2 _ _ ht)) ?_ ?_
    · rintro i x j σ _ H2 hi ⟨u, v, x', rfl, rfl, s2, no2⟩ ⟨rfl, hx⟩
      obtain ⟨a, ha0, rfl⟩ := map_get hx
      have ha : a ∈ ks := List.mem_of_getElem? ha0
      have s12 := s1.trans s2
      -- for other in neighbours
      refine ⟨_, rfl, h, dx, fs, rfl, s12 _ _ B.ob, B.noM _ (by decide +kernel), _, rfl, h, ks, es, a, rfl, BA.same s12, G, ha, fun H3 t3 s3 ht3 => ⟨t3, rfl, ⟨_, SqT.of ht3⟩, ?_⟩⟩
      refine for_itG walk_tup (fun i3 j σ H4 => ∃ v x, σ = [some (.ref h), some (.str a), v, x, none, none] ∧ j = 0 ∧ Same H3 H4 ∧ ∀ b, b ∈ (nbF ks es a).take i3 → ∀ l, l ∈ Ex (nbF ks es) b 6 [a] a → l.length % 2 ≠ 0)
        ⟨v, x', rfl, rfl, Same.refl _, fun b hb => (nomatch hb)⟩ (fun i j σ H2 _ ⟨_, _, _, _, s4, _⟩ => SqT.of (s4 _ _ ht3)) ?_ ?_
      · rintro i3 y j σ _ H4 hi3 ⟨v, x', rfl, rfl, s4, no4⟩ ⟨rfl, hy⟩
        obtain ⟨b, hb0, rfl⟩ := map_get hy
        have hbn : b ∈ nbF ks es a := List.mem_of_getElem? hb0
        have had : Adj es a b := (nbF_mem G.inK a b).mp hbn
        have hb : b ∈ ks := had.elim (fun h => (G.inK _ _ h).2) (fun h => (G.inK _ _ h).1)
        have s14 := (s12.trans s3).trans s4
        -- lengths
        refine ⟨_, _, (fun H' => Same H4 H'), _, ex_line (es := es) k6 a b, walk_elt (L := Ex (nbF ks es) b 6 [a] a) (a := a) wl (hr.mono (by decide)) z.len (by decide +kernel), ?_, ?_⟩
        · exact ⟨_, rfl, h, dx, fs, rfl, s14 _ _ B.ob, B.noM _ (by decide +kernel), _, rfl, _, rfl, h, ks, es, a, b, rfl, BA.same s14, G, k6, ha, hb, rfl, fun i z H' ext _ he wk => ⟨z, ext, rfl, he, wk⟩, fun H' s' => s'⟩
        · intro D ls H5 s5 hD hlen hls
          obtain ⟨lens, rfl, hln⟩ : ∃ lens : List Int, ls = lens.map V.int ∧ ∀ n, n ∈ lens ↔ ∃ l, l ∈ Ex (nbF ks es) b 6 [a] a ∧ n = (l.length : Int) := by
            refine ⟨(Ex (nbF ks es) b 6 [a] a).map fun l => (l.length : Int), List.ext_getElem? fun j => ?_, fun n => ?_⟩
            · cases e : ls[j]? with
              | some v =>
                obtain ⟨ext, h1, rfl⟩ := hls j v e
                rw [List.getElem?_map, List.getElem?_map, h1]
                rfl
              | none =>
                have h1 := List.getElem?_eq_none_iff.mp e
                rw [List.getElem?_map, List.getElem?_map, List.getElem?_eq_none (by omega)]
                rfl
            · rw [List.mem_map]
              exact ⟨fun ⟨l, h1, h2⟩ => ⟨l, h1, h2.symm⟩, fun ⟨l, h1, h2⟩ => ⟨l, h1, h2.symm⟩⟩
          have ll : lens.length ≤ 46656 := by
            rw [List.length_map] at hlen
            rw [hlen]
            exact ex_bound (fun x => Nat.le_trans (nbF_len ks es x) k6) 6 [a] a
          have hD5 : (upd H5 D (.lst (lens.map V.int))) D = some (.lst (lens.map V.int)) := upd_same
          have s6 : Same H4 (upd H5 D (.lst (lens.map V.int))) := s5.to_new hD
          generalize upd H5 D (.lst (lens.map V.int)) = H6 at hD5 s6
          refine ⟨_, rfl, D, rfl, ⟨_, SqL.of hD5⟩, fun D2 hD2 => ?_⟩
          refine lc_it walk_list (fun i H7 => ∃ es2 : List Int, Same H6 H7 ∧ H7 D2 = some (.lst (es2.map V.int)) ∧ es2.length ≤ i ∧ (es2 = [] ↔ ∀ n, n ∈ lens.take i → n % 2 ≠ 0))
            ⟨[], Same.upd_new hD2, upd_same, Nat.le_refl _, fun _ n h => (nomatch h), fun _ => rfl⟩ (fun i H7 _ ⟨_, s7, _⟩ => SqL.of (s7 _ _ hD5)) ?_ ?_
          · rintro i v _ H7 hi7 ⟨es2, s7, hD7, l7, h7⟩ ⟨rfl, hv⟩
            obtain ⟨n7, hn7, rfl⟩ := map_get hv
            have hsz : i < 46656 := Nat.lt_of_lt_of_le (lt_of_get hn7) ll
            refine ⟨rfl, _, rfl, .inl ⟨n7, rfl, _, _, rfl, rfl, (by show (0 : Int) < 2; decide), rfl, _, rfl, ?_⟩⟩
            have hmem : ∀ n, n ∈ lens.take (i + 1) ↔ n ∈ lens.take i ∨ n = n7 := fun n => by rw [take_snoc hn7, List.mem_append, List.mem_singleton]
            by_cases e : n7 % 2 = 0
            · rw [decide_eq_true (by rw [e] : V.int (n7 % 2) = V.int 0)]
              refine iteT ⟨_, rfl, _, hD7, by rw [List.length_map, sizeLine_eq]; omega, es2 ++ [n7], s7.to_own hD2, by rw [upd_same, List.map_append]; rfl, by rw [List.length_append]; exact Nat.succ_le_succ l7, fun h => absurd h (by simp), fun h => ?_⟩
              exact absurd e (h n7 ((hmem n7).mpr (.inr rfl)))
            · rw [decide_eq_false fun c => e (V.int.inj c)]
              refine iteF ⟨es2, s7, hD7, by omega, h7.trans ⟨fun h n hn => ?_, fun h n hn => h n ((hmem n).mpr (.inl hn))⟩⟩
              rcases (hmem n).mp hn with hn | rfl
              · exact h n hn
              · exact e
          · rintro H7 ⟨es2, s7, hD7, l7, h7⟩
            rw [List.length_map, List.take_length] at h7
            refine ⟨(by show 0 ≤ sizeLine; exact Nat.zero_le _), fun l0 hl0 => ?_⟩
            have s8 := Same.upd_new (o := .lst []) hl0
            refine ⟨.list (es2.map PyData.int), .list [], .lst (SqL.of (s8 _ _ hD7)) (dp_ints es2), .lst (SqL.of upd_same) .nil, shaped_ints es2, by decide +kernel, _, rfl, ?_⟩
            rw [ints_nil]
            have s18 := s14.trans (s6.trans (s7.trans s8))
            by_cases e : es2 = []
            · rw [decide_eq_true e]
              refine iteF ⟨_, _, rfl, rfl, s4.trans (s6.trans (s7.trans s8)), fun b' hb' => ?_⟩
              rw [take_snoc hb0] at hb'
              rcases List.mem_append.mp hb' with hb' | hb'
              · exact no4 b' hb'
              · rw [List.mem_singleton.mp hb']
                intro l hl ev
                exact h7.mp e (l.length : Int) ((hln _).mpr ⟨l, hl, rfl⟩) (by omega)
            · rw [decide_eq_false e]
              refine iteT ⟨rfl, k _ true s18 ⟨fun _ => key.mp ?_, fun _ => rfl⟩⟩
              refine Classical.byContradiction fun hN => e (h7.mpr fun n hn ev => hN ?_)
              obtain ⟨l, hl, rfl⟩ := (hln n).mp hn
              exact ⟨a, b, ha, hbn, l, hl, by omega⟩
      · rintro j σ H4 ⟨v, x', rfl, rfl, s4, no4⟩
        rw [List.length_map, List.take_length] at no4
        refine ⟨_, _, _, rfl, rfl, (s2.trans s3).trans s4, fun a' b' ha' => ?_⟩
        rw [take_snoc ha0] at ha'
        rcases List.mem_append.mp ha' with ha' | ha'
        · exact no2 a' b' ha'
        · rw [List.mem_singleton.mp ha']
          exact fun hb' => no4 b' hb'
    · rintro j σ H2 ⟨u, v, x', rfl, rfl, s2, no2⟩
      rw [List.length_map, List.take_length] at no2
      refine ⟨rfl, k _ false (s1.trans s2) ⟨fun h => (nomatch h), fun h => ?_⟩⟩
      obtain ⟨a, b, ha, hb, l, hl, ev⟩ := key.mpr h
      exact absurd ev (no2 a b ha hb l hl)
end
end Yf
set_option Elab.async false
set_option linter.all false
set_option maxRecDepth 100000
set_option maxHeartbeats 4000000
/-! R8: sorted(t), a tuple of texts; what the fragment holds is not in H. -/
namespace Yf
open PySem PySem.Spec PyProof.Rows L2
def rSortedTS (K : PySem.W.Frag) : List V → Hp → VK → Prop := fun vs H Q => ∃ (a : Addr) (xs : List Str), vs = [V.ref a] ∧ SqT K H a (xs.map V.str) ∧ xs.length < 64 ∧
  ∀ (ys : List Str) (p : Addr), ys.Perm xs → sortedS ys = true → H p = none → Q (.ref p) (upd H p (.lst (ys.map V.str)))
section
variable {X : Cx}
theorem cr_sortedTS : CallR X (.builtin "sorted") (rSortedTS X.K) := by
  intro pins s σ H vs us Q I r h
  obtain ⟨a, xs, rfl, hs, h64, q⟩ := h
  obtain ⟨its, rv, ⟨ob, ho, hc, n, hd⟩, _⟩ := I.tuple hs
  rw [Vals.ref1 r]
  have hS : StrsAre its xs := rv.strs
  have hal : its.length = xs.length := by
    have := rv.length
    rw [List.length_map] at this
    exact this.symm
  refine Calls.call_function_entry PyProof.Rows.kind_sorted PyProof.Rows.plain_sorted PyProof.Rows.entry_sorted (PyProof.Rows.args_sorted1 _) ?_
  unfold Builtin.«sorted»
  refine wpAny_bind (m := checkCount "sorted" 1 1 _) (wpAny_pure ?_)
  refine wpAny_bind (PySem.wpAny_collect_seq a (.inr rfl) ho hc hd (fun h' hk => ?_) (by rw [List.size_toArray, hal, sizeLine_eq]; omega))
  have I1 : Inv X pins σ H { s with heap := h', toks := s.toks } := I.kept hk
  have e0 : its.toArray.toList = its := by simp
  rw [e0]
  refine wpAny_bind (wpAny_newList ?_ (by rw [hal, sizeLine_eq]; omega))
  have hoL : (h'.push (seqObj "list" its.toArray 0)).get? h'.objs.size = some (seqObj "list" its.toArray 0) := Heap.get?_push_size _ rfl
  show wpAny _ _ _ _ _ { s with heap := h'.push (seqObj "list" its.toArray 0), toks := s.toks }
  refine wpAny_bind (wpAny_holding (wpAny_call_entry PyProof.Rows.slot_list_sort ⟨_, hoL, rfl⟩ PyProof.Rows.entry_list_sort
    (list_sort_treeK strKind_oneLt (s := { s with heap := h'.push (seqObj "list" its.toArray 0), toks := s.toks }) hoL hS.keysOf (fun v₁ v₂ rest e => keyKind_strs (by rw [← e]; exact hS)) (by rw [hal]; exact h64) fun st' hp hs => ⟨_, rfl, ?_⟩)
    (PyProof.Rows.args_list_sort _)))
  obtain ⟨ys, g1, g2, g3⟩ := sorted_out_str hS hp hs
  obtain ⟨e', he'⟩ := PyProof.Rows.sortedHeap_at (vs := its) (out := (arrOf st').map (·.2)) hoL
  have hlen : (ys.map V.str).length ≤ sizeLine := by
    rw [List.length_map, g2.length_eq]
    exact Nat.le_trans (Nat.le_of_lt h64) (by decide)
  refine wpAny_pure ⟨_, rfl, .ref h'.objs.size, upd H h'.objs.size (.lst (ys.map V.str)), I1.laid (t' := s.toks) (fun b u e => ?_) (Nat.le_refl _)
    (show ObjOk X.prog X.w _ _ _ (.lst (ys.map V.str)) from ⟨hlen, ((arrOf st').map (·.2)).toList, e', vals_of_strs g1, by rw [Array.toArray_toList]; exact he'⟩), rfl, q ys _ g2 g3 (I1.hok.fresh (Nat.le_refl _))⟩
  have hb : b < h'.objs.size := Heap.lt_size e
  rw [PyProof.Rows.sortedHeap_old (Nat.ne_of_lt hb) (by rw [size_push']; exact Nat.lt_succ_of_lt hb)]
  exact Heap.get?_push_of_some _ e
/-- what the fragment holds is apart from H -/
def Kfree (K : PySem.W.Frag) (H : Hp) : Prop := ∀ a o, K.lookup a = some o → H a = none
def tKnow (K : PySem.W.Frag) (te : TE) : TE := fun σ H Q => te σ H fun v H1 => Kfree K H1 → Q v H1
theorem pe_know {e : Expr} {te : TE} (h : PE X e te) : PE X e (tKnow X.K te) := ⟨fun pins s σ H Q I hq =>
  thn (h.run pins s σ H _ I hq) fun u s1 ⟨v, H1, I1, r, q⟩ => ⟨v, _, I1, r, q fun a o e => (I1.bs a o (I1.ok.mod.kin a o e)).2⟩⟩
end
end Yf
set_option Elab.async false
set_option linter.all false
set_option maxRecDepth 100000
set_option maxHeartbeats 4000000
/-! L11: what the law's own run wants. -/
namespace Yf
open PySem PySem.Spec PyProof.Rows L2
section
variable {X : Cx} {yl : Bool} {st : Stmt} {rest : List Stmt}
/-- a block, cut: M stands between -/
def tGCut (t u : TGn) : TGn := fun G D j σ H => ∃ M : Nat → L2.St → Hp → Prop, t G { D with nx := M } j σ H ∧ ∀ j' σ' H', M j' σ' H' → u G D j' σ' H'
theorem gss_cut {t u : TGn} (a : GS X yl st t) (b : GSs X yl rest u) : GSs X yl (st :: rest) (tGCut t u) := ⟨fun G Y A R c fs ip n j s₀ s σ H D g hn hc hI ht => by
  obtain ⟨M, ht, hu⟩ := ht
  rw [execs_cons]
  refine w2_bind (w2_mono (a.run G Y A R c fs ip n j s₀ s σ H { D with nx := M } g hn hc hI ht) (fun n' s₀' f s' ⟨j', hn', hc', hs⟩ => ?_) fun _ _ _ _ z => z)
  cases f with
  | next =>
    obtain ⟨σ', H', I', q⟩ := hs
    exact b.run G Y A R c fs ip n' j' s₀' s' σ' H' D g hn' hc' I' (hu j' σ' H' q)
  | brk => exact w2_pure ⟨j', hn', hc', hs⟩
  | cont => exact w2_pure ⟨j', hn', hc', hs⟩
  | ret u => exact w2_pure ⟨j', hn', hc', hs⟩⟩
end
theorem house_gr {ns : List Str} {es : List (Str × Str)} (G : PGr ns es) (so : es.Pairwise ple) : PGr (ssort ns) es := by
  have h := G.sort
  rw [psort_id so] at h
  exact h
theorem Pz.smxD {tp : Addr} {kv : List (Key × V)} {H H' : Hp} (ht : H tp = some (.dK kv)) (s : SmX tp H H') {xs : List V} {es : List (Str × Str)} (h : Pz H xs es) : Pz H' xs es := h.mono fun t zs e => s _ _ e (ne_of e ht (by intro z; cases z))
/-! ### the house apart from the tape -/
def BA2 (C tp : Addr) (H : Hp) (h : Addr) (ks : List Str) (es : List (Str × Str)) : Prop := ∃ dx fs dS kvs p xs dN nk vS vR tB ys, BX C H h ks es dx fs dS kvs p xs dN nk vS vR tB ys ∧ dS ≠ tp ∧ dN ≠ tp
theorem BA2.ba {C tp h : Addr} {H : Hp} {ks : List Str} {es : List (Str × Str)} (B : BA2 C tp H h ks es) : BAt C H h ks es := by
  obtain ⟨dx, fs, dS, kvs, p, xs, dN, nk, vS, vR, tB, ys, B, _⟩ := B
  exact ⟨dx, fs, dS, kvs, p, xs, dN, nk, vS, vR, tB, ys, B⟩
theorem BA2.same {C tp h : Addr} {H H' : Hp} {ks : List Str} {es : List (Str × Str)} (B : BA2 C tp H h ks es) (s : Same H H') : BA2 C tp H' h ks es := by
  obtain ⟨dx, fs, dS, kvs, p, xs, dN, nk, vS, vR, tB, ys, B, n1, n2⟩ := B
  exact ⟨dx, fs, dS, kvs, p, xs, dN, nk, vS, vR, tB, ys, B.same s, n1, n2⟩
theorem BA2.smx {C tp h : Addr} {H H' : Hp} {ks : List Str} {es : List (Str × Str)} (B : BA2 C tp H h ks es) {kv : List (Key × V)} (ht : H tp = some (.dK kv)) (s : SmX tp H H') : BA2 C tp H' h ks es := by
  obtain ⟨dx, fs, dS, kvs, p, xs, dN, nk, vS, vR, tB, ys, B, n1, n2⟩ := B
  refine ⟨dx, fs, dS, kvs, p, xs, dN, nk, vS, vR, tB, ys, ?_, n1, n2⟩
  exact { B with
    ob := s _ _ B.ob (ne_of B.ob ht (by intro z; cases z)),
    oS := s _ _ B.oS n1,
    oP := s _ _ B.oP (ne_of B.oP ht (by intro z; cases z)),
    pP := Pz.smxD ht s B.pP,
    oN := s _ _ B.oN n2,
    near := fun x hx => by
      obtain ⟨l, ws, h1, h2, h3⟩ := B.near x hx
      exact ⟨l, ws, h1, s _ _ h2 (ne_of h2 ht (by intro z; cases z)), h3⟩,
    oB := s _ _ B.oB (ne_of B.oB ht (by intro z; cases z)),
    br := by
      obtain ⟨bs, h1, h2⟩ := B.br
      exact ⟨bs, Pz.smxD ht s h1, h2⟩ }
theorem bat_two {K : PySem.W.Frag} {C tp h : Addr} {H : Hp} {ks : List Str} {es : List (Str × Str)} {b : Nat} (B : BAt C H h ks es) (ne : ks ≠ []) (so : ks.Pairwise sle) (T : TapeAt K H tp b) (kf : Kfree K H) : BA2 C tp H h ks es := by
  obtain ⟨dx, fs, dS, kvs, p, xs, dN, nk, vS, vR, tB, ys, B⟩ := B
  obtain ⟨c, cs, pl, lf, ht, hc, hne, _⟩ := T
  refine ⟨dx, fs, dS, kvs, p, xs, dN, nk, vS, vR, tB, ys, B, fun e => ?_, fun e => ?_⟩
  · have h1 := B.oS
    rw [e, ht] at h1
    have h2 := HO.dK.inj (Option.some.inj h1)
    have h3 := B.kS
    rw [← h2] at h3
    have h3 : [kCe, kPl, kLe] = ks.map Sum.inr := h3
    match ks, h3, so with
    | [x, y, z], h3, so =>
      simp only [List.map_cons, List.map_nil, List.cons.injEq, and_true] at h3
      obtain ⟨_, hy, hz⟩ := h3
      have hy := Sum.inr.inj hy
      have hz := Sum.inr.inj hz
      subst hy hz
      have h4 : sle "place" "left" := by
        have := (List.pairwise_cons.mp so).2
        exact (List.pairwise_cons.mp this).1 _ (List.mem_cons_self ..)
      have h5 : slt ("left" : Str) "place" = true := by decide +kernel
      unfold sle at h4
      rw [h5] at h4
      cases h4
    | [], h3, _ => cases h3
    | [_], h3, _ => cases h3
    | [_, _], h3, _ => cases h3
    | _ :: _ :: _ :: _ :: _, h3, _ => cases h3
  · have h1 := B.oN
    rw [e, ht] at h1
    have h2 := HO.dK.inj (Option.some.inj h1)
    obtain ⟨x, r, rfl⟩ := List.exists_cons_of_ne_nil ne
    obtain ⟨l, ws, h3, h4, _⟩ := B.near x (List.mem_cons_self ..)
    rw [← h2] at h3
    have lc : l = c := by
      by_cases e1 : kCe = (Sum.inr x : Key)
      · rw [valV_pos e1] at h3
        exact (V.ref.inj (Option.some.inj h3)).symm
      · rw [valV_neg e1] at h3
        by_cases e2 : kPl = (Sum.inr x : Key)
        · rw [valV_pos e2] at h3
          cases h3
        · rw [valV_neg e2] at h3
          by_cases e3 : kLe = (Sum.inr x : Key)
          · rw [valV_pos e3] at h3
            cases h3
          · rw [valV_neg e3] at h3
            cases h3
    subst lc
    rcases hc with (hc | ⟨o, hc⟩) | ⟨o, its, n, hk, _⟩
    · rw [h4] at hc
      have h5 := HO.lst.inj (Option.some.inj hc)
      cases cs with
      | nil => exact hne rfl
      | cons i cs =>
        cases ws with
        | nil => cases h5
        | cons w ws => cases (List.cons.inj h5).1
    · rw [h4] at hc
      cases hc
    · rw [kf _ _ hk] at h4
      cases h4
theorem PlX.ne_tp {K : PySem.W.Frag} {H : Hp} {pl : Addr} {ns : List Str} {es : List (Str × Str)} {d l : Addr} {kz : List (Key × V)} {xs : List V} {tp : Addr} {b : Nat} (p : PlX H pl ns es d l kz xs) (T : TapeAt K H tp b) : d ≠ tp := fun e => by
  obtain ⟨c, cs, pl, lf, ht, _⟩ := T
  have h1 := p.oD
  rw [e, ht] at h1
  have h2 := HO.dK.inj (Option.some.inj h1)
  obtain ⟨i, hi, _⟩ := p.vD kCe (.ref c) (by rw [← h2]; exact List.mem_cons_self ..)
  cases hi
theorem PlX.smx {H H' : Hp} {pl : Addr} {ns : List Str} {es : List (Str × Str)} {d l : Addr} {kz : List (Key × V)} {xs : List V} {tp : Addr} (p : PlX H pl ns es d l kz xs) (ne : d ≠ tp) {kv : List (Key × V)} (ht : H tp = some (.dK kv)) (s : SmX tp H H') : PlX H' pl ns es d l kz xs :=
  { p with ob := s _ _ p.ob (ne_of p.ob ht (by intro z; cases z)), oD := s _ _ p.oD ne, oL := s _ _ p.oL (ne_of p.oL ht (by intro z; cases z)), pL := Pz.smxD ht s p.pL }
/-! ### what the questions answer -/
theorem BkV.same {T : Tb Str} {y : Str} {H H' : Hp} {v : V} (h : BkV T y H v) (s : Same H H') : BkV T y H' v := by
  rcases h with h | ⟨t, h1, h2, h3⟩
  · exact .inl h
  · exact .inr ⟨t, h1, h2, s _ _ h3⟩
theorem ex_one {ks : List Str} {es : List (Str × Str)} (G : PGr ks es) (k6 : ks.length ≤ 6) {a b : Str} (h : (a, b) ∈ es) : (Ex (nbF ks es) b 6 [a] a).length = 1 ↔ Bri es (a, b) := (nbF_nbs G).one_iff G.good h k6
theorem ex_pos {ks : List Str} {es : List (Str × Str)} (G : PGr ks es) (k6 : ks.length ≤ 6) {a b : Str} (h : (a, b) ∈ es) : 0 < (Ex (nbF ks es) b 6 [a] a).length := (nbF_nbs G).pos G.good h k6
open Classical in
/-- the bridges, as the property gives them -/
theorem brl_get {H : Hp} {ys : List V} {es : List (Str × Str)} (h : BrL H ys es) : Pz H ys (es.filter fun e => decide (Bri es e)) := by
  obtain ⟨bs, h1, h2⟩ := h
  rw [h2 _ (fun e => decide_eq_true_iff)] at h1
  exact h1
open Classical in
theorem brl_mem {es : List (Str × Str)} {e : Str × Str} (h : e ∈ es) : e ∈ (es.filter fun e => decide (Bri es e)) ↔ Bri es e := by
  rw [List.mem_filter, decide_eq_true_iff]
  exact ⟨fun h => h.2, fun q => ⟨h, q⟩⟩
open Classical in
theorem all_bri {es : List (Str × Str)} (h : (es.filter fun e => decide (Bri es e)).length = es.length) : ∀ a b, (a, b) ∈ es → ¬ Conn (del es (a, b)) a b := by
  have h1 := List.length_filter_eq_length_iff.mp h
  exact fun a b m => (decide_eq_true_iff.mp (h1 (a, b) m) : Bri es (a, b))
theorem tree_lev {ks : List Str} {es : List (Str × Str)} (G : PGr ks es) (h : ∀ a b, (a, b) ∈ es → ¬ Conn (del es (a, b)) a b) : ¬ LevG es (smin ks) := by
  obtain ⟨T, B⟩ := bfs_ex G.el (smin ks)
  rw [levG_iff G.nd G.inK G.good G.cm B]
  have hk : ∀ x y, (x, y) ∈ es → x ∈ keys T ∧ y ∈ keys T := fun x y m => ⟨B.mem.mpr (G.cm x (G.inK _ _ m).1), B.mem.mpr (G.cm y (G.inK _ _ m).2)⟩
  exact lev_ringed B G.good hk fun a b m => (brd_iff B G.good hk m).mpr (h a b m)
theorem tree_ex {ks : List Str} {es : List (Str × Str)} (G : PGr ks es) (k6 : ks.length ≤ 6) (h : ∀ a b, (a, b) ∈ es → ¬ Conn (del es (a, b)) a b) {a b : Str} (ha : a ∈ ks) (hb : b ∈ ks) : (Ex (nbF ks es) b 6 [a] a).length = 1 :=
  (nbF_nbs G).tree_one G.good h ha (G.conn a b ha hb) k6
theorem mid_lev {ks : List Str} {es fs : List (Str × Str)} {Z : List ((Str × Str) × Str)} (G : PGr ks fs) (M : Mid es Z nrm fs) : ¬ LevG fs (smin ks) := by
  rintro ⟨T, B, L⟩
  have hk : ∀ x y, (x, y) ∈ fs → x ∈ keys T ∧ y ∈ keys T := fun x y m => ⟨B.mem.mpr (G.cm x (G.inK _ _ m).1), B.mem.mpr (G.cm y (G.inK _ _ m).2)⟩
  exact two_col B (fun x => decide (x ∈ Z.map (·.2))) M.col hk L
theorem bank_sort {ks : List Str} {es : List (Str × Str)} (G : PGr ks es) (so : ks.Pairwise sle) {a b : Str} (h : (a, b) ∈ es) {T0 T1 : Tb Str} (B0 : Bfs (del es (a, b)) a T0) (B1 : Bfs (del es (a, b)) b T1) (hn : ¬ Conn (del es (a, b)) a b) {ys : List Str} (pm : ys.Perm (ssort (keys T0) ++ ssort (keys T1))) (srt : sortedS ys = true) : ys = ks := by
  have ha := (G.inK a b h).1
  have p1 : (keys T0 ++ keys T1).Perm ks := banks_perm h B0 B1 hn G.nd fun v => ⟨fun hv => G.conn a v ha hv, fun c => c.keep (P := fun v => v ∈ ks) (fun x y a _ => a.elim (fun h => (G.inK _ _ h).2) (fun h => (G.inK _ _ h).1)) ha⟩
  have p2 : ys.Perm ks := (pm.trans ((ssort_perm _).append (ssort_perm _))).trans p1
  exact sorted_unique sle_anti p2 (sortedS_pw srt) so
theorem Bfs.root_in {es : List (Str × Str)} {s : Str} {T : Tb Str} (B : Bfs es s T) : s ∈ keys T := B.mem.mpr .refl
end Yf
set_option Elab.async false
set_option linter.all false
set_option maxRecDepth 100000
set_option maxHeartbeats 4000000
/-! L12: the law's own def. -/
namespace Yf
open PySem PySem.Spec PyProof.Rows L2
abbrev nLw : List Str := ["_law_script", "_law_tape", "_law_turn", "_law_plan", "_law_house", "_law_two", "_law_many", "_law_banks", "_law_is_mixed_here", "_law_one", "_law_other", "_law_middled_here", "_law_walk"]
theorem scLw : FnScope nLw ["_law_script"] (C8.fnScope sLaw) := ⟨rfl, rfl, rfl, by decide +kernel, rfl, by decide +kernel, by decide +kernel⟩
def spLaw (K : PySem.W.Frag) : Sp := fun vs H Q _ => ∃ (a : Addr) (ns : List Int), vs = [.ref a] ∧ SqL K H a (ns.map V.int) ∧ ns.length ≤ 63 ∧ ∀ H', Q (.bl true) H'
/-- what the law's def leans on -/
structure LawEnv (P : Program) (w : World) (K : PySem.W.Frag) (mg : Str → Option Value) (base : Heap) (C CW fp fm : Addr) (fdp fdm : FuncData) : Prop where
  z : Bi mg
  T : BTxt K C
  cBeg : C8.Cal P w K mg base 1 "_law_begin" (spBegin K) []
  cPick : C8.Cal P w K mg base 2 "_law_pick" (spPick K) []
  cSome : C8.Cal P w K mg base 5 "_law_some_plan" (spSome K) []
  cBuilt : C8.Cal P w K mg base 7 "_law_built" (spBuilt C) []
  cMid : C8.Cal P w K mg base 2 "_law_middled" (spMid K) []
  mB : C8.Met P w K mg base 4 C "bank" (spBank C) []
  pR : Prp P w K mg base 1 C "rooms" (spRooms C)
  pC : Prp P w K mg base 1 C "corridors" (spCorrs C)
  pS : Prp P w K mg base 1 C "sides" (spSd C)
  pO : Prp P w K mg base 1 C "odd_ring" (spOd C)
  pB : Prp P w K mg base 1 C "bridges" (spBr C)
  mp : Meth K C "paths" fp
  Fp : GFn2 P w K mg base 19 fp fdp ["self", "first", "last"] (spPaths C CW)
  bp : Binds K fdp ["self", "first", "last"] []
  Fm : FnOk2 P w K mg base 22 fm fdm ["_law_house"] (spMixed C)
  gm : mg "_law_is_mixed" = some (.ref fm)
  km : PySem.W.keepIn K (.ref fm) = true
  bm : Binds K fdm ["_law_house"] []
/-- a NonIff value is None, or is not -/
theorem noniff_dec {v : V} {p : Prop} (h : NonIff v p) : decide (v = .non) = true ↔ p := by
  rcases h with ⟨rfl, h⟩ | ⟨t, rfl, h⟩
  · exact ⟨fun _ => h, fun _ => rfl⟩
  · exact ⟨fun e => (by cases of_decide_eq_true e), fun q => absurd q h⟩
theorem bool_eq {x y : Bool} (h : x = true ↔ y = true) : x = y := by
  cases x <;> cases y
  · rfl
  · exact absurd (h.mpr rfl) Bool.false_ne_true
  · exact absurd (h.mp rfl) Bool.false_ne_true
  · rfl
theorem ne_bl {x y : Bool} (h : x = true ↔ y = true) : (!decide (V.bl x = V.bl y)) = false := by rw [bool_eq h, decide_eq_true rfl]; rfl
theorem eq_bl {x y : Bool} (h : x = true ↔ ¬ y = true) : decide (V.bl x = V.bl y) = false := by
  refine decide_eq_false fun e => ?_
  have e := V.bl.inj e
  subst e
  cases x
  · exact Bool.false_ne_true (h.mpr Bool.false_ne_true)
  · exact (h.mp rfl) rfl
section
variable {P : Program} {w : World} {K : PySem.W.Frag} {mg : Str → Option Value} {base : Heap}
theorem fn_law {C CW f fp fm : Addr} {fd fdp fdm : FuncData} (F : C8.Fun K "law" "law" sLaw f fd) (L : LawEnv P w K mg base C CW fp fm fdp fdm) : FnOk2 P w K mg base 25 f fd ["_law_script"] (spLaw K) := by
  refine fn2_of (k := 24) F scLw (fun vs H Q E h => ?_) (fun cdv A outer s H vs Q hr h => ?_)
  · obtain ⟨a, ns, rfl, _⟩ := h
    rfl
  · obtain ⟨a, ns, rfl, hS, n63, k⟩ := h
    have z := L.z
    refine ⟨_, gss_cut (gs_ps (ps_set (i := 1) scLw.nd rfl (Or.inl rfl) (C8.pe_c L.cBeg hr (by decide) (by rfl) (pa_cons (pv 0) pa_nil))))
      (gss_cut (gs_for rfl (pi_range1 (by rfl) z.range (pa_cons (pe_op op_add pe_int (pe_callB (call_min2 rfl) (by rfl) z.min (by decide +kernel) (pa_cons pe_int (pa_cons (pe_callB call_len_seq (by rfl) z.len (by decide +kernel) (pa_cons (pv 0) pa_nil)) pa_nil)))) pa_nil)) (pg_name (i := 2) scLw.nd rfl (Or.inl rfl))
        (gss_cut (gs_ps (ps_set (i := 3) scLw.nd rfl (Or.inl rfl) (C8.pe_c L.cSome hr (by decide) (by rfl) (pa_cons (pv 1) (pa_cons pe_int (pa_cons (C8.pe_c L.cPick hr (by decide) (by rfl) (pa_cons (pv 1) (pa_cons (pe_lst (pa_cons pe_int (pa_cons pe_int (pa_cons pe_int (pa_cons pe_int pa_nil))))) pa_nil))) (pa_cons (pe_lst (pa_cons pe_int (pa_cons pe_int (pa_cons pe_int pa_nil)))) pa_nil)))))))
        (gss_cut (gs_ps (ps_set (i := 4) scLw.nd rfl (Or.inl rfl) (pe_know (C8.pe_c L.cBuilt hr (by decide) (by rfl) (pa_cons (pv 3) pa_nil)))))
        (gss_cut (gs_for rfl (pi_tup (pe_pr L.pC hr (by decide) (pv 4))) (pg_name (i := 5) scLw.nd rfl (Or.inl rfl))
          (gss_cut (gs_set (i := 6) scLw.nd rfl (Or.inl rfl) (ge_callB call_len_seq (by rfl) z.len (by decide +kernel) (ge_lc (pgen3_meth (pv 4) L.T.cl L.mp L.Fp (hr.mono (by decide)) L.bp (pa_cons (pe_ix ix_tup (pv 5) pe_int (fun _ _ => rfl)) (pa_cons (pe_ix ix_tup (pv 5) pe_int (fun _ _ => rfl)) pa_nil))) (room_in (hr.mono (by decide))) (lcSc_by (by decide +kernel)))))
          (gss_cut (gs_ps (ps_set (i := 7) scLw.nd rfl (Or.inl rfl) (pe_lst (pa_cons (C8.pe_mt L.mB hr (by decide) (pv 4) (pa_cons (pe_ix ix_tup (pv 5) pe_int (fun _ _ => rfl)) (pa_cons (pe_ix ix_tup (pv 5) pe_int (fun _ _ => rfl)) pa_nil))) (pa_cons (C8.pe_mt L.mB hr (by decide) (pv 4) (pa_cons (pe_ix ix_tup (pv 5) pe_int (fun _ _ => rfl)) (pa_cons (pe_ix ix_tup (pv 5) pe_int (fun _ _ => rfl)) pa_nil))) pa_nil)))))
          (gss_cut (gs_ps (ps_if (PW.pt (pw_or (pt_cmpR op_ne (pe_cmpR (op_inT (hu65 hr)) (pv 5) (pe_pr L.pB hr (by decide) (pv 4)) (by rfl)) (pe_cmpR op_eq (pv 6) pe_int (nomark _)) (nomark _)) (pw_or1 (pt_cmpR op_ne (pe_cmp (pc_isN (pe_ix ix_list (pv 7) pe_int (fun _ _ => rfl)))) (pe_cmpR op_gt (pv 6) pe_int (nomark _)) (nomark _))))) (pss_one (ps_ret pe_bl)) pss_nil))
          (gss_cut (gs_ps (ps_if (PW.pt (pw_and (pt_cmpR op_eq (pv 6) pe_int (nomark _)) (pw_and1 (pt_cmpR op_notIn_seq (pe_ix ix_tup (pv 5) pe_int (fun _ _ => rfl)) (pe_ix ix_list (pv 7) pe_int (fun _ _ => rfl)) (by rfl))))) (pss_one (ps_ret pe_bl)) pss_nil))
          (gss_one (gs_ps (ps_if (PW.pt (pw_and (pt_cmpR op_eq (pv 6) pe_int (nomark _)) (pw_and1 (pt_cmpR (op_neD hr.units) (pe_callB cr_sortedTS (by rfl) z.sorted (by decide +kernel) (pa_cons (pe_op op_catA (pe_ix ix_list (pv 7) pe_int (fun _ _ => rfl)) (pe_ix ix_list (pv 7) pe_int (fun _ _ => rfl))) pa_nil)) (pe_callTy call_list_of (by rfl) z.list (by decide +kernel) (pa_cons (pe_pr L.pR hr (by decide) (pv 4)) pa_nil)) (nomark _))))) (pss_one (ps_ret pe_bl)) pss_nil))))))))
        (gss_cut (gs_set (i := 8) scLw.nd rfl (Or.inl rfl) (ge_call L.Fm (hr.mono (by decide)) (by rfl) L.gm L.km L.bm (pa_cons (pv 4) pa_nil)))
        (gss_cut (gs_ps (ps_if (PW.pt (pw_or (pt_cmpR op_ne (pe_cmp (pc_isN (pe_pr L.pS hr (by decide) (pv 4)))) (pv 8) (nomark _)) (pw_or1 (pt_cmpR op_eq (pe_cmp (pc_isN (pe_pr L.pO hr (by decide) (pv 4)))) (pv 8) (nomark _))))) (pss_one (ps_ret pe_bl)) pss_nil))
        (gss_cut (gs_if (pt_cmpR op_eq (pe_callB call_len_seq (by rfl) z.len (by decide +kernel) (pa_cons (pe_pr L.pB hr (by decide) (pv 4)) pa_nil)) (pe_callB call_len_seq (by rfl) z.len (by decide +kernel) (pa_cons (pe_pr L.pC hr (by decide) (pv 4)) pa_nil)) (nomark _))
            (gss_cut (gs_ps (ps_par (i := 9) (j := 10) (by rfl) scLw.nd rfl rfl (by decide) rfl rfl (pa_cons (C8.pe_c L.cPick hr (by decide) (by rfl) (pa_cons (pv 1) (pa_cons (pe_pr L.pR hr (by decide) (pv 4)) pa_nil))) (pa_cons (C8.pe_c L.cPick hr (by decide) (by rfl) (pa_cons (pv 1) (pa_cons (pe_pr L.pR hr (by decide) (pv 4)) pa_nil))) pa_nil)) (by rfl)))
            (gss_one (gs_ifG (gt_or (pt_cmp (pc_isN (pe_pr L.pS hr (by decide) (pv 4)))) (gt_cmp op_ne (ge_callB call_len_seq (by rfl) z.len (by decide +kernel) (ge_lc (pgen3_meth (pv 4) L.T.cl L.mp L.Fp (hr.mono (by decide)) L.bp (pa_cons (pv 9) (pa_cons (pv 10) pa_nil))) (room_in (hr.mono (by decide))) (lcSc_by (by decide +kernel)))) pe_int (nomark _))) (gss_one (gs_ps (ps_ret pe_bl))) gss_nil))) gss_nil)
        (gss_cut (gs_ps (ps_set (i := 11) scLw.nd rfl (Or.inl rfl) (C8.pe_c L.cBuilt hr (by decide) (by rfl) (pa_cons (C8.pe_c L.cMid hr (by decide) (by rfl) (pa_cons (pv 3) pa_nil)) pa_nil))))
        (gss_one (gs_ps (ps_if (PW.pt (pw_or (pt_cmp (pc_isN (pe_pr L.pS hr (by decide) (pv 11)))) (pw_or1 (pt_cmpR op_ne (pe_callB call_len_seq (by rfl) z.len (by decide +kernel) (pa_cons (pe_pr L.pB hr (by decide) (pv 11)) pa_nil)) (pe_op op_mul pe_int (pe_callB call_len_seq (by rfl) z.len (by decide +kernel) (pa_cons (pe_pr L.pB hr (by decide) (pv 4)) pa_nil))) (nomark _))))) (pss_one (ps_ret pe_bl)) pss_nil)))))))))))
      (gss_one (gs_ps (ps_ret pe_bl)))), fun n => ?_⟩
    obtain ⟨m, hm, hm3⟩ : ∃ m : Nat, (1 + (if ((ns.map V.int).length : Int) < 2 then ((ns.map V.int).length : Int) else 2) : Int) = (m : Int) ∧ m ≤ 3 := by
      by_cases e : ((ns.map V.int).length : Int) < 2
      · rw [if_pos e]
        exact ⟨1 + (ns.map V.int).length, by omega, by omega⟩
      · rw [if_neg e]
        exact ⟨3, rfl, by omega⟩
    have emm : ((m : Nat) : Int).toNat = m := by omega
    -- tape
    refine ⟨fun j σ H1 => ∃ tp, j = 0 ∧ σ = [some (.ref a), some (.ref tp), none, none, none, none, none, none, none, none, none, none, none] ∧ Same H H1 ∧ TapeAt K H1 tp 900000, ⟨_, rfl, a, ns, rfl, hS, n63, fun H1 tp s1 h0 tt => ⟨tp, rfl, rfl, s1, tt⟩⟩, ?_⟩
    rintro j σ H1 ⟨tp, rfl, rfl, s1, t1⟩
    refine ⟨fun j σ H' => j = 0, ?_, fun j' σ' H' e => ⟨e, k H'⟩⟩
    -- for turn in range(..)
    refine ⟨_, rfl, a, _, rfl, .inl (s1.seq hS), _, _, rfl, _, _, rfl, rfl, (m : Int), by rw [← hm], by omega, by omega, ?_⟩
    refine for_itG (J := Itr 0 ((m : Nat) : Int).toNat) walk_range (fun i j σ H2 => ∃ u2 u3 u4 u5 u6 u7 u8 u9 u10 u11, σ = [some (.ref a), some (.ref tp), u2, u3, u4, u5, u6, u7, u8, u9, u10, u11, none] ∧ j = 0 ∧ TapeAt K H2 tp (900000 - 1000 * i))
      ⟨none, none, none, none, none, none, none, none, none, none, rfl, rfl, t1⟩ (fun _ _ _ _ _ _ => trivial) ?_ (fun j σ H2 ⟨_, _, _, _, _, _, _, _, _, _, _, e, _⟩ => e)
    rintro i x j σ _ H2 hi ⟨u2, u3, u4, u5, u6, u7, u8, u9, u10, u11, rfl, rfl, t2⟩ ⟨rfl, rfl⟩
    have hi3 : i < 3 := by omega
    have t2 : TapeAt K H2 tp (((900000 - 1000 * (i + 1) + 10) + 121) + 1) := t2.less (by omega)
    -- plan
    refine ⟨fun j σ H3 => ∃ pl ns' es', j = 0 ∧ σ = [some (.ref a), some (.ref tp), some (.int (0 + i)), some (.ref pl), u4, u5, u6, u7, u8, u9, u10, u11, none] ∧ TapeAt K H3 tp (900000 - 1000 * (i + 1) + 10) ∧ PlAt H3 pl ns' es' ∧ ns'.length ≤ 6 ∧ es'.length ≤ 13, ?_, ?_⟩
    · refine ⟨_, rfl, _, rfl, (by show 4 ≤ sizeLine; decide), fun q hq => ⟨tp, .ref q, _, rfl, SmX.tape (Same.upd_new hq) t2, .inl ⟨q, _, rfl, .inl (SqL.of upd_same), by simp, (by show 4 ≤ 1000; decide), fun H4 v x4 t4 hv => ?_⟩⟩⟩
      obtain ⟨mo, hmo, rfl⟩ : ∃ mo : Nat, mo ≤ 8 ∧ v = .int (mo : Nat) := by
        simp only [List.mem_cons, List.not_mem_nil, or_false] at hv
        rcases hv with rfl | rfl | rfl | rfl
        · exact ⟨0, by decide, rfl⟩
        · exact ⟨1, by decide, rfl⟩
        · exact ⟨3, by decide, rfl⟩
        · exact ⟨8, by decide, rfl⟩
      exact ⟨(by show 3 ≤ sizeLine; decide), fun q2 hq2 => ⟨tp, q2, mo, _, rfl, hmo, SqL.of upd_same, SmX.tape (Same.upd_new hq2) t4, fun H5 pl ns' es' x5 t5 p5 n6 e13 => ⟨pl, ns', es', rfl, rfl, t5, p5, n6, e13⟩⟩⟩
    rintro j σ H3 ⟨pl, ns', es, rfl, rfl, t3, ⟨d, l, kz, xs, p3⟩, n6, e13⟩
    have G : PGr (ssort ns') es := house_gr p3.gr p3.so
    have k6 : (ssort ns').length ≤ 6 := by rw [(ssort_perm _).length_eq]; exact n6
    have so : (ssort ns').Pairwise sle := ssort_pw ns'
    -- house
    refine ⟨fun j σ H4 => ∃ h, j = 0 ∧ σ = [some (.ref a), some (.ref tp), some (.int (0 + i)), some (.ref pl), some (.ref h), u5, u6, u7, u8, u9, u10, u11, none] ∧ Same H3 H4 ∧ BA2 C tp H4 h (ssort ns') es,
      ⟨_, rfl, pl, ns', es, rfl, ⟨d, l, kz, xs, p3⟩, fun H4 h s4 B4 kf => ⟨h, rfl, rfl, s4, bat_two B4 G.ne so (SmX.tape s4 t3) kf⟩⟩, ?_⟩
    rintro j σ H4 ⟨h, rfl, rfl, s4, B4⟩
    have t4 := SmX.tape s4 t3
    have p4 := p3.same s4
    have hne := p4.ne_tp t4
    clear p3 t3 s4 t2 t1
    generalize hks : ssort ns' = ks at G k6 so B4
    -- for two in house.corridors
    refine ⟨fun j σ H5 => ∃ u5 u6 u7, j = 0 ∧ σ = [some (.ref a), some (.ref tp), some (.int (0 + i)), some (.ref pl), some (.ref h), u5, u6, u7, u8, u9, u10, u11, none] ∧ Same H4 H5, ?_, ?_⟩
    · obtain ⟨dx, fs, dS, kvs, p, xs, dN, nk, vS, vR, tB, ys, B⟩ := B4.ba
      refine ⟨_, rfl, h, dx, fs, rfl, B.ob, h, _, _, rfl, B4.ba, fun H5 t ys5 s5 ht PZ => ⟨t, rfl, ⟨_, SqT.of ht⟩, ?_⟩⟩
      refine for_itG walk_tup (fun i5 j σ H6 => ∃ u5 u6 u7, σ = [some (.ref a), some (.ref tp), some (.int (0 + i)), some (.ref pl), some (.ref h), u5, u6, u7, u8, u9, u10, u11, none] ∧ j = 0 ∧ Same H5 H6)
        ⟨_, _, _, rfl, rfl, Same.refl _⟩ (fun i j σ H6 _ ⟨_, _, _, _, _, s6⟩ => SqT.of (s6 _ _ ht)) ?_ (fun j σ H6 ⟨_, _, _, e, e0, s6⟩ => ⟨_, _, _, e0, e, s5.trans s6⟩)
      rintro i5 x j σ _ H6 hi5 ⟨u5, u6, u7, rfl, rfl, s6⟩ ⟨rfl, hx⟩
      obtain ⟨t2, p0, q0, rfl, he, ht2⟩ := (s6.pz PZ).get hx
      have hm0 := List.mem_of_getElem? he
      obtain ⟨kp, kq⟩ := G.inK p0 q0 hm0
      have s46 := s5.trans s6
      have nme : nrm p0 q0 = (p0, q0) := nrm_lt (G.ord _ _ hm0)
      have npq : p0 ≠ q0 := G.good.ne _ _ hm0
      have one := ex_one G k6 hm0
      have pos := ex_pos G k6 hm0
      obtain ⟨N, hN⟩ : ∃ N, (Ex (nbF ks es) q0 6 [p0] p0).length = N := ⟨_, rfl⟩
      have hNl := ex_line (es := es) k6 p0 q0
      rw [hN] at one pos hNl
      have sub : ∀ e, e ∈ del es (p0, q0) → e ∈ es := fun e h => (mem_del.mp h).1
      have no2 : (V.int (N : Int) = V.int 1) ↔ N = 1 := ⟨fun e => by have := V.int.inj e; omega, fun e => by rw [e]; rfl⟩
      -- many
      refine ⟨fun j σ H7 => j = 0 ∧ σ = [some (.ref a), some (.ref tp), some (.int (0 + i)), some (.ref pl), some (.ref h), some (.ref t2), some (.int (N : Nat)), u7, u8, u9, u10, u11, none] ∧ Same H6 H7, ?_, ?_⟩
      · refine ⟨N, (fun _ _ _ => True), (fun H' => Same H6 H'), _, hNl, elt_name, ?_, ?_⟩
        · exact ⟨_, rfl, h, dx, fs, rfl, s46 _ _ B.ob, B.noM _ (by decide +kernel), _, rfl, t2, _, _, .str p0, rfl, rfl, SqT.of ht2, atI_nat (j := 0) rfl, _, rfl, t2, _, _, .str q0, rfl, rfl, SqT.of ht2, atI_nat (j := 1) rfl, h, ks, es, p0, q0, rfl, B4.ba.same s46, G, k6, kp, kq, hN.symm, fun _ _ _ _ _ _ _ => trivial, fun H' s' => s'⟩
        · exact fun D ls H7 s7 hD hlen _ => ⟨D, ls, rfl, .inl (SqL.of upd_same), rfl, by rw [hlen]; rfl, s7.to_new hD⟩
      rintro j σ H7 ⟨rfl, rfl, s7⟩
      have s47 := s46.trans s7
      have ht7 := s7 _ _ ht2
      have B7 := B4.ba.same s47
      -- banks
      refine ⟨fun j σ H8 => ∃ q T0 T1 v0 v1, j = 0 ∧ σ = [some (.ref a), some (.ref tp), some (.int (0 + i)), some (.ref pl), some (.ref h), some (.ref t2), some (.int (N : Nat)), some (.ref q), u8, u9, u10, u11, none] ∧ Same H7 H8 ∧ H8 q = some (.lst [v0, v1]) ∧ Bfs (del es (p0, q0)) p0 T0 ∧ Bfs (del es (p0, q0)) q0 T1 ∧ BkV T0 q0 H8 v0 ∧ BkV T1 p0 H8 v1, ?_, ?_⟩
      · refine ⟨_, rfl, h, dx, fs, rfl, s47 _ _ B.ob, B.noM _ (by decide +kernel), _, rfl, t2, _, _, .str p0, rfl, rfl, SqT.of ht7, atI_nat (j := 0) rfl, _, rfl, t2, _, _, .str q0, rfl, rfl, SqT.of ht7, atI_nat (j := 1) rfl, h, ks, es, p0, q0, rfl, B7, G, .inl hm0, fun H8 T0 v0 s8 F0 V0 => ?_⟩
        rw [nme] at F0
        have ht8 := s8 _ _ ht7
        refine ⟨_, rfl, h, dx, fs, rfl, (s47.trans s8) _ _ B.ob, B.noM _ (by decide +kernel), _, rfl, t2, _, _, .str q0, rfl, rfl, SqT.of ht8, atI_nat (j := 1) rfl, _, rfl, t2, _, _, .str p0, rfl, rfl, SqT.of ht8, atI_nat (j := 0) rfl, h, ks, es, q0, p0, rfl, B7.same s8, G, .inr hm0, fun H9 T1 v1 s9 F1 V1 => ?_⟩
        rw [nrm_comm npq, nme] at F1
        exact ⟨(by show 2 ≤ sizeLine; decide), fun q hq => ⟨q, T0, T1, v0, v1, rfl, rfl, (s8.trans s9).to_new hq, upd_same, F0, F1, (V0.same s9).same (Same.upd_new hq), V1.same (Same.upd_new hq)⟩⟩
      rintro j σ H8 ⟨q, T0, T1, v0, v1, rfl, rfl, s8, hq8, F0, F1, V0, V1⟩
      have s48 := s47.trans s8
      have ht8 := s8 _ _ ht7
      have B8 := B4.ba.same s48
      have briT : Bri es (p0, q0) ↔ ¬ q0 ∈ keys T0 := by
        rw [F0.mem]
        exact Iff.rfl
      -- the first question
      refine ⟨fun j σ H9 => j = 0 ∧ σ = [some (.ref a), some (.ref tp), some (.int (0 + i)), some (.ref pl), some (.ref h), some (.ref t2), some (.int (N : Nat)), some (.ref q), u8, u9, u10, u11, none] ∧ Same H8 H9, ?_, ?_⟩
      · refine ⟨_, rfl, _, rfl, h, dx, fs, rfl, s48 _ _ B.ob, h, ks, es, rfl, B8, fun tb yb htb br => ?_⟩
        have PB := brl_get br
        refine ⟨pD (p0, q0), _, dp_pair ht8, .tup (SqT.of htb) (dp_pairs PB), shaped_pair (G.nm _ kp) (G.nm _ kq), shaped_pairsT (fun e he => ⟨G.nm _ (G.inK e.1 e.2 (List.mem_filter.mp he).1).1, G.nm _ (G.inK e.1 e.2 (List.mem_filter.mp he).1).2⟩), _, rfl, rfl, rfl, _, rfl, ?_⟩
        rw [any_pD]
        rw [ne_bl (decide_eq_true_iff.trans ((brl_mem hm0).trans (one.symm.trans (no2.symm.trans decide_eq_true_iff.symm))))]
        refine iteF ⟨_, rfl, q, _, _, v0, rfl, rfl, SqL.of hq8, atI_nat (j := 0) rfl, _, rfl, _, _, rfl, rfl, rfl, _, rfl, ?_⟩
        have e2 : decide (v0 = .non) = true ↔ decide ((1 : Int) < (N : Int)) = true := by
          rw [decide_eq_true_iff, decide_eq_true_iff]
          rcases V0 with ⟨rfl, hv⟩ | ⟨t0, rfl, hv, _⟩
          · refine ⟨fun _ => ?_, fun _ => rfl⟩
            have : ¬ N = 1 := fun e => (briT.mp (one.mp e)) hv
            omega
          · refine ⟨fun e => (by cases e), fun e => ?_⟩
            have := one.mpr (briT.mpr hv)
            omega
        rw [ne_bl e2]
        exact iteF ⟨rfl, rfl, Same.refl _⟩
      rintro j σ H9 ⟨rfl, rfl, s9⟩
      have hq9 := s9 _ _ hq8
      have ht9 := s9 _ _ ht8
      have B9 := B8.same s9
      have s49 := s48.trans s9
      replace V0 := V0.same s9
      replace V1 := V1.same s9
      have got : N = 1 → ∃ t0 t1, v0 = .ref t0 ∧ v1 = .ref t1 ∧ H9 t0 = some (.tup ((ssort (keys T0)).map V.str)) ∧ H9 t1 = some (.tup ((ssort (keys T1)).map V.str)) := fun e => by
        have hb := one.mp e
        have hb1 : ¬ p0 ∈ keys T1 := by
          rw [F1.mem]
          exact fun c => hb c.symm
        rcases V0 with ⟨_, hv⟩ | ⟨t0, rfl, _, h0⟩
        · exact absurd hv (briT.mp hb)
        · rcases V1 with ⟨_, hv⟩ | ⟨t1, rfl, _, h1⟩
          · exact absurd hv hb1
          · exact ⟨t0, t1, rfl, rfl, h0, h1⟩
      -- the second question
      refine ⟨fun j σ H10 => j = 0 ∧ σ = [some (.ref a), some (.ref tp), some (.int (0 + i)), some (.ref pl), some (.ref h), some (.ref t2), some (.int (N : Nat)), some (.ref q), u8, u9, u10, u11, none] ∧ H10 = H9, ?_, ?_⟩
      · refine ⟨_, rfl, rfl, _, rfl, ?_⟩
        refine ite2 (fun e => ?_) (fun _ => iteF ⟨rfl, rfl, rfl⟩)
        have e1 := no2.mp (of_decide_eq_true e)
        obtain ⟨t0, t1, rfl, rfl, h0, h1⟩ := got e1
        refine ⟨_, rfl, t2, _, _, .str p0, rfl, rfl, SqT.of ht9, atI_nat (j := 0) rfl, _, rfl, q, _, _, .ref t0, rfl, rfl, SqL.of hq9, atI_nat (j := 0) rfl, t0, _, rfl, .inr (SqT.of h0), rfl, flat_strs _, _, rfl, ?_⟩
        show if (!inV (V.str p0) ((ssort (keys T0)).map V.str)) = true then _ else _
        rw [inV_strs, decide_eq_true (mem_ssort.mpr F0.root_in)]
        exact iteF ⟨rfl, rfl, rfl⟩
      rintro j σ H10 ⟨rfl, rfl, rfl⟩
      -- the third question
      refine ⟨_, rfl, rfl, _, rfl, ?_⟩
      refine ite2 (fun e => ?_) (fun _ => iteF ⟨_, _, _, rfl, rfl, s6.trans (s7.trans (s8.trans s9))⟩)
      have e1 := no2.mp (of_decide_eq_true e)
      obtain ⟨t0, t1, rfl, rfl, h0, h1⟩ := got e1
      have l0 : (ssort (keys T0)).length ≤ 24 := by rw [(ssort_perm _).length_eq]; exact bfs_len G kp F0 sub
      have l1 : (ssort (keys T1)).length ≤ 24 := by rw [(ssort_perm _).length_eq]; exact bfs_len G kq F1 sub
      have n0 : (ssort (keys T0)).map V.str ≠ [] := fun e => by
        have := mem_ssort.mpr F0.root_in
        rw [List.map_eq_nil_iff.mp e] at this
        cases this
      have n1 : (ssort (keys T1)).map V.str ≠ [] := fun e => by
        have := mem_ssort.mpr F1.root_in
        rw [List.map_eq_nil_iff.mp e] at this
        cases this
      refine ⟨_, rfl, q, _, _, .ref t0, rfl, rfl, SqL.of hq9, atI_nat (j := 0) rfl, _, rfl, q, _, _, .ref t1, rfl, rfl, SqL.of hq9, atI_nat (j := 1) rfl, t0, t1, _, _, rfl, rfl, SqT.of h0, SqT.of h1, Nat.le_of_lt (small1000 (by rw [List.length_map, List.length_map]; omega)), fun e => absurd e n0, fun _ e => absurd e n1, fun _ _ pc hpc => ?_⟩
      refine ⟨pc, ssort (keys T0) ++ ssort (keys T1), rfl, SqT.of (by rw [upd_same, List.map_append]), by rw [List.length_append]; omega, fun zs ps pm srt hps => ?_⟩
      have ez : zs = ks := bank_sort G so hm0 F0 F1 (one.mp e1) pm srt
      subst ez
      have s10 := ((Same.upd_new (o := .tup ((ssort (keys T0)).map V.str ++ (ssort (keys T1)).map V.str)) hpc).to_new (o := .lst (zs.map V.str)) hps)
      have hps2 : (upd (upd H10 pc (.tup ((ssort (keys T0)).map V.str ++ (ssort (keys T1)).map V.str))) ps (.lst (zs.map V.str))) ps = some (.lst (zs.map V.str)) := upd_same
      generalize upd (upd H10 pc (.tup ((ssort (keys T0)).map V.str ++ (ssort (keys T1)).map V.str))) ps (.lst (zs.map V.str)) = H11 at s10 hps2
      refine ⟨_, rfl, h, dx, fs, rfl, (s49.trans s10) _ _ B.ob, h, _, _, rfl, B9.same s10, fun H12 tr s12 htr => ⟨tr, _, rfl, .inr (SqT.of htr), fun lr hlr => ?_⟩⟩
      have s13 := Same.upd_new (o := .lst (zs.map V.str)) hlr
      refine ⟨.list (zs.map sD), .list (zs.map sD), .lst (SqL.of (s13 _ _ (s12 _ _ hps2))) (dp_strs _), .lst (SqL.of upd_same) (dp_strs _), shaped_lst G.nm, shaped_lst G.nm, _, rfl, ?_⟩
      have ee : PyData.eqv (.list (zs.map sD)) (.list (zs.map sD)) = true := by
        have := sDs_eqv zs zs
        rw [decide_eq_true rfl] at this
        simp only [PyData.eqv]
        exact this
      rw [ee]
      exact iteF ⟨_, _, _, rfl, rfl, s6.trans (s7.trans (s8.trans (s9.trans (s10.trans (s12.trans s13)))))⟩
    rintro j σ H5 ⟨u5, u6, u7, rfl, rfl, s5⟩
    have B5 := B4.same s5
    have t5 := SmX.tape s5 t4
    have p5 := p4.same s5
    clear B4 p4
    -- mixed
    refine ⟨fun j σ H6 => ∃ bM, j = 0 ∧ σ = [some (.ref a), some (.ref tp), some (.int (0 + i)), some (.ref pl), some (.ref h), u5, u6, u7, some (.bl bM), u9, u10, u11, none] ∧ Same H5 H6 ∧ (bM = true ↔ LevG es (smin ks)),
      ⟨_, rfl, h, ks, es, rfl, B5.ba, G, k6, fun H6 bM s6 hb => ⟨bM, rfl, rfl, s6, hb⟩⟩, ?_⟩
    rintro j σ H6 ⟨bM, rfl, rfl, s6, hb⟩
    have B6 := B5.same s6
    have t6 := SmX.tape s6 t5
    have p6 := p5.same s6
    clear B5 p5 t5
    obtain ⟨kv6, ht6⟩ := t6.dk
    obtain ⟨dx, fs, dS, kvs, p, xs0, dN, nk, vS, vR, tB, ys, B⟩ := B6.ba
    -- sides, odd ring
    refine ⟨fun j σ H7 => j = 0 ∧ σ = [some (.ref a), some (.ref tp), some (.int (0 + i)), some (.ref pl), some (.ref h), u5, u6, u7, some (.bl bM), u9, u10, u11, none] ∧ H7 = H6, ?_, ?_⟩
    · refine ⟨_, rfl, h, dx, fs, rfl, B.ob, h, ks, es, rfl, B6.ba, fun v hv => ⟨_, rfl, rfl, _, rfl, ?_⟩⟩
      rw [ne_bl ((noniff_dec hv).trans hb.symm)]
      refine iteF ⟨_, rfl, h, dx, fs, rfl, B.ob, h, ks, es, rfl, B6.ba, fun v2 hv2 => ⟨_, rfl, rfl, _, rfl, ?_⟩⟩
      rw [eq_bl ((noniff_dec hv2).trans (not_congr hb.symm))]
      exact iteF ⟨rfl, rfl, rfl⟩
    rintro j σ H7 ⟨rfl, rfl, rfl⟩
    -- without rings
    refine ⟨fun j σ H8 => ∃ u9 u10, j = 0 ∧ σ = [some (.ref a), some (.ref tp), some (.int (0 + i)), some (.ref pl), some (.ref h), u5, u6, u7, some (.bl bM), u9, u10, u11, none] ∧ SmX tp H7 H8 ∧ TapeAt K H8 tp (900000 - 1000 * (i + 1)), ?_, ?_⟩
    · refine ⟨_, rfl, h, dx, fs, rfl, B.ob, h, ks, es, rfl, B6.ba, fun tb yb htb br => ⟨tb, yb, rfl, .inr (SqT.of htb), _, rfl, h, dx, fs, rfl, B.ob, h, ks, es, rfl, B6.ba, fun H8 tc yc s8 htc PZc => ⟨tc, yc, rfl, .inr (SqT.of htc), rfl, _, rfl, ?_⟩⟩⟩
      refine ite2 (fun e => ?_) (fun _ => ⟨_, _, rfl, rfl, SmX.of s8, (SmX.tape s8 t6).less (by omega)⟩)
      have PB := brl_get br
      have el : (es.filter fun e => @decide (Bri es e) (Classical.propDecidable _)).length = es.length := by
        have e := V.int.inj (of_decide_eq_true e)
        have h1 := PB.length
        have h2 := PZc.length
        omega
      have tr := all_bri el
      have t8 : TapeAt K H8 tp (((900000 - 1000 * (i + 1)) + 1) + 1) := (SmX.tape s8 t6).less (by omega)
      have B8 := B6.same s8
      have hnl : ks.map V.str ≠ [] := fun e => G.ne (List.map_eq_nil_iff.mp e)
      have hll : (ks.map V.str).length ≤ 1000 := by rw [List.length_map]; omega
      refine ⟨fun j σ H9 => ∃ x y, j = 0 ∧ σ = [some (.ref a), some (.ref tp), some (.int (0 + i)), some (.ref pl), some (.ref h), u5, u6, u7, some (.bl bM), some (.str x), some (.str y), u11, none] ∧ SmX tp H8 H9 ∧ TapeAt K H9 tp (900000 - 1000 * (i + 1)) ∧ x ∈ ks ∧ y ∈ ks, ?_, ?_⟩
      · refine ⟨_, rfl, _, rfl, h, dx, fs, rfl, s8 _ _ B.ob, h, ks, es, rfl, B8.ba, fun H9 t9 s9 ht9 => ⟨tp, .ref t9, _, rfl, SmX.tape s9 t8, .inl ⟨t9, _, rfl, .inr (SqT.of ht9), hnl, hll, fun H10 v x10 t10 hv => ?_⟩⟩⟩
        obtain ⟨x, hx, rfl⟩ := List.mem_map.mp hv
        obtain ⟨kv9, hk9⟩ := (SmX.tape s9 t8).dk
        have B10 := (B8.same s9).smx hk9 x10
        obtain ⟨dx2, fs2, _, _, _, _, _, _, _, _, _, _, BX10⟩ := B10.ba
        refine ⟨_, rfl, _, rfl, h, dx2, fs2, rfl, BX10.ob, h, ks, es, rfl, B10.ba, fun H11 t11 s11 ht11 => ⟨tp, .ref t11, _, rfl, SmX.tape s11 t10, .inl ⟨t11, _, rfl, .inr (SqT.of ht11), hnl, hll, fun H12 v2 x12 t12 hv2 => ?_⟩⟩⟩
        obtain ⟨y, hy, rfl⟩ := List.mem_map.mp hv2
        exact ⟨_, _, rfl, x, y, rfl, rfl, ((SmX.of s9).trans x10).trans ((SmX.of s11).trans x12), t12, hx, hy⟩
      rintro j σ H9 ⟨x, y, rfl, rfl, x9, t9, hx, hy⟩
      obtain ⟨kv8, hk8⟩ := t8.dk
      have B9 := B8.smx hk8 x9
      obtain ⟨dx2, fs2, _, _, _, _, _, _, _, _, _, _, BX9⟩ := B9.ba
      refine ⟨_, rfl, h, dx2, fs2, rfl, BX9.ob, h, ks, es, rfl, B9.ba, fun v hv => ⟨_, rfl, ?_⟩⟩
      have ev : decide (v = .non) = false := by
        cases e3 : decide (v = .non) with
        | false => rfl
        | true => exact absurd ((noniff_dec hv).mp e3) (tree_lev G tr)
      rw [ev]
      refine iteF ⟨1, (fun _ _ _ => True), (fun H' => Same H9 H'), _, (by decide), elt_name, ?_, ?_⟩
      · exact ⟨_, rfl, h, dx2, fs2, rfl, BX9.ob, BX9.noM _ (by decide +kernel), _, rfl, _, rfl, h, ks, es, x, y, rfl, B9.ba, G, k6, hx, hy, (tree_ex G k6 tr hx hy).symm, fun _ _ _ _ _ _ _ => trivial, fun H' s' => s'⟩
      · intro D ls H10 s10 hD hlen _
        refine ⟨D, ls, rfl, .inl (SqL.of upd_same), rfl, _, rfl, ?_⟩
        have e6 : V.int (ls.length : Int) = V.int 1 := by rw [hlen]; rfl
        rw [decide_eq_true e6]
        have s11 := s10.to_new (o := .lst ls) hD
        exact iteF ⟨_, _, rfl, rfl, ((SmX.of s8).trans x9).trans (SmX.of s11), SmX.tape s11 t9⟩
    rintro j σ H8 ⟨u9, u10, rfl, rfl, x8, t8⟩
    have B8 := B6.smx ht6 x8
    have p8 := p6.smx hne ht6 x8
    clear B6 p6
    -- the middled house
    refine ⟨fun j σ H9 => ∃ h2 ns2 fs2 Z, j = 0 ∧ σ = [some (.ref a), some (.ref tp), some (.int (0 + i)), some (.ref pl), some (.ref h), u5, u6, u7, some (.bl bM), u9, u10, some (.ref h2), none] ∧ Same H8 H9 ∧ BAt C H9 h2 (ssort ns2) fs2 ∧ PGr (ssort ns2) fs2 ∧ Mid es Z nrm fs2, ?_, ?_⟩
    · refine ⟨_, rfl, pl, ns', es, rfl, ⟨d, l, kz, xs, p8⟩, n6, e13, fun H9 pl2 ns2 fs2 Z s9 p9 M9 => ⟨pl2, ns2, fs2, rfl, p9, fun H10 h2 s10 B10 => ?_⟩⟩
      obtain ⟨_, _, _, _, p9⟩ := p9
      exact ⟨h2, ns2, fs2, Z, rfl, rfl, s9.trans s10, B10, house_gr p9.gr p9.so, M9⟩
    rintro j σ H9 ⟨h2, ns2, fs2, Z, rfl, rfl, s9, B9, G9, M9⟩
    have B8' := (B8.same s9).ba
    obtain ⟨dx3, fs3, _, _, _, _, _, _, _, _, _, _, BX3⟩ := id B8'
    obtain ⟨dx4, fs4, _, _, _, _, _, _, _, _, _, _, BX4⟩ := id B9
    refine ⟨_, rfl, h2, dx4, fs4, rfl, BX4.ob, h2, _, _, rfl, B9, fun v hv => ⟨_, rfl, ?_⟩⟩
    have ev : decide (v = .non) = false := by
      cases e3 : decide (v = .non) with
      | false => rfl
      | true => exact absurd ((noniff_dec hv).mp e3) (mid_lev G9 M9)
    rw [ev]
    refine iteF ⟨_, rfl, h2, dx4, fs4, rfl, BX4.ob, h2, _, _, rfl, B9, fun tb yb htb br => ⟨tb, yb, rfl, .inr (SqT.of htb), _, rfl, h, dx3, fs3, rfl, BX3.ob, h, _, _, rfl, B8', fun tb2 yb2 htb2 br2 => ⟨tb2, yb2, rfl, .inr (SqT.of htb2), _, _, rfl, rfl, .inl ⟨by decide, by decide⟩, rfl, _, rfl, ?_⟩⟩⟩
    have e5 : V.int (yb.length : Int) = V.int (2 * (yb2.length : Int)) := by
      have h1 := (brl_get br).length
      have h2 := (brl_get br2).length
      have h3 := M9.count
      rw [h1, h2]
      congr 1
      rw [h3]
      omega
    rw [decide_eq_true e5]
    exact iteF ⟨_, _, _, _, _, _, _, _, _, _, rfl, rfl, SmX.tape s9 t8⟩
end
end Yf
set_option Elab.async false
set_option linter.all false
set_option maxRecDepth 100000
set_option maxHeartbeats 4000000
/-! H2: from the head's facts to the law's promise. -/
namespace Yf
open PySem PySem.Spec PyProof.Rows L2
theorem dfl_none {K : PySem.W.Frag} {dV : Value} (h : DflV K dV []) : dV = .none := h.elim (·.2) fun h => absurd rfl h.1
theorem fun_bindsA {K : PySem.W.Frag} {x qual : Str} {st : Stmt} {f : Addr} {fd : FuncData} (F : C8.Fun K x qual st f fd) (df : fd.defaults = .none) {ps : List Str}
    (h : ∀ (kV doc pm : Value) (an : Option Addr) (cdv ct : Value) (us : List Value), us.length = ps.length → bindArgs (PySem.W.fnOf x qual (C8.fnArgs st) (C8.fnBody st) (C8.fnScope st) .none kV doc pm an cdv ct) ⟨us, []⟩ = pure (ps.zip us)) (s : Shared) (us : List Value) (hl : us.length = ps.length) : BindsTo s fd ⟨us, []⟩ (ps.zip us) := by
  obtain ⟨oc, od, dV, kV, doc, pm, an, cdv, ct, osl, rfl, lk, hcd⟩ := F.ex
  have e : dV = .none := df
  subst e
  exact .of_eq (h kV doc pm an cdv ct us hl)
theorem fun_d {K : PySem.W.Frag} {x qual : Str} {st : Stmt} {f : Addr} {fd : FuncData} {dvs : List V} (F : C8.Fun K x qual st f fd) (D : DflV K fd.defaults dvs) (kp : PySem.W.keepIn K (.ref f) = true) : FunD K x qual (C8.fnArgs st) (C8.fnBody st) (C8.fnScope st) dvs [] f fd := by
  obtain ⟨oc, od, dV, kV, doc, pm, an, cdv, ct, osl, rfl, lk, hcd⟩ := F.ex
  exact ⟨⟨oc, od, dV, kV, doc, pm, an, cdv, ct, osl, rfl, lk, hcd, D, .inl rfl⟩, kp⟩
theorem pair_fn {P : Program} {w : World} {K : PySem.W.Frag} {mg : Str → Option Value} {base : Heap} {f : Addr} {fd : FuncData} (F : C8.Fun K "pair_of" "pair_of" sPairOf f fd) : FnOk P w K mg base C8.CX0 1 f fd ["one", "other"] spPair := by
  refine C8.fn0 F scPair (fun vs H Q E h => ?_) (fun cdv A outer s H vs Q E hr h => ?_)
  · obtain ⟨x, y, rfl, _⟩ := h
    rfl
  · obtain ⟨x, y, rfl, k⟩ := h
    refine ⟨_, pss_one (ps_ret (pe_ifExp (pt_cmpR op_lt_str (pv 0) (pv 1) (nomark _)) (pe_tup (pa_cons (pv 0) (pa_cons (pv 1) pa_nil))) (pe_tup (pa_cons (pv 1) (pa_cons (pv 0) pa_nil))))), ?_⟩
    refine ⟨_, rfl, _, rfl, _, _, rfl, rfl, _, rfl, ?_⟩
    rw [slt_dec]
    refine ite2 (fun h => ?_) (fun h => ?_)
    · refine ⟨_, rfl, _, rfl, (by show 2 ≤ sizeLine; decide), fun t ht => k _ t (Same.upd_new ht) ht ?_⟩
      unfold nrm
      rw [if_pos h, upd_same]
    · refine ⟨_, rfl, _, rfl, (by show 2 ≤ sizeLine; decide), fun t ht => k _ t (Same.upd_new ht) ht ?_⟩
      unfold nrm
      rw [if_neg h, upd_same]
/-- THE PROMISE OF THE LAW, from the head's facts -/
theorem all_ok {P : Program} {w : World} {K : PySem.W.Frag} {mg : Str → Option Value} {h : Heap} (X : K.In h) (G : h.Ns mainGlobals mg) (c : SaysY exY fnY K) :
    mg "law" = some (.ref (He.ga K "law")) ∧ ∃ fd, (∀ (s : Shared) (u : Value), BindsTo s fd ⟨[u], []⟩ [("_law_script", u)]) ∧ ∀ base : Heap, FnOk2 P w K mg base 25 (He.ga K "law") fd ["_law_script"] (spLaw K) := by
  have ex := c.more
  simp only [exY, ex1, ex2, List.all_cons, List.all_nil, Bool.and_true, Bool.and_eq_true, id] at ex
  obtain ⟨⟨e0, e1, e2, ⟨e3, e4⟩, ⟨e5, e6⟩, ⟨e7, e8⟩, ⟨e9, e10⟩, ⟨e11, e12⟩⟩, e13, e14, e15, e16, e17, ⟨e18, e19⟩, e20, e21⟩ := ex
  have g1 : ∀ x, x ∈ gl1 → mg x = some (.ref (He.ga K x)) ∧ PySem.W.keepIn K (.ref (He.ga K x)) = true := fun x hx => by
    obtain ⟨a, b⟩ := He.ba (List.all_eq_true.mp e0 x hx)
    exact ⟨He.glo_ok X G a, He.keep_ok b⟩
  have g2 : ∀ x, x ∈ gl2 → mg x = some (.ref (He.ga K x)) ∧ PySem.W.keepIn K (.ref (He.ga K x)) = true := fun x hx => by
    obtain ⟨a, b⟩ := He.ba (List.all_eq_true.mp e1 x hx)
    exact ⟨He.glo_ok X G a, He.keep_ok b⟩
  have fr : ∀ x, x ∈ fr1 → mg x = none := fun x hx => He.free_ok X G (List.all_eq_true.mp e2 x hx)
  have z : Bi mg := ⟨fr "len" (by decide +kernel), fr "sorted" (by decide +kernel), fr "min" (by decide +kernel), fr "list" (by decide +kernel), fr "tuple" (by decide +kernel), fr "dict" (by decide +kernel), fr "int" (by decide +kernel), fr "isinstance" (by decide +kernel), fr "all" (by decide +kernel), fr "range" (by decide +kernel), fr "enumerate" (by decide +kernel), fr "str" (by decide +kernel), fr "bool" (by decide +kernel)⟩
  have v : Gv mg := by
    obtain ⟨t1, h1⟩ := He.str_ok X G e5
    obtain ⟨t2, h2⟩ := He.int_ok X G e6
    obtain ⟨t3, h3⟩ := He.int_ok X G e7
    obtain ⟨t4, h4⟩ := He.int_ok X G e8
    exact ⟨⟨_, h1, t1, rfl⟩, ⟨_, h2, t2, rfl⟩, ⟨_, h3, t3, rfl⟩, ⟨_, h4, t4, rfl⟩⟩
  have nB : ∀ f, f ∈ na1 → NoAttr K (He.ga K "Building") f := fun f hf => He.noat_ok (List.all_eq_true.mp e13 f hf)
  have nW : ∀ f, f ∈ na2 → NoAttr K (He.ga K "Walk") f := fun f hf => He.noat_ok (List.all_eq_true.mp e14 f hf)
  have T : BTxt K (He.ga K "Building") := ⟨He.cls_ok e9, nB "sizes" (by decide +kernel), nB "pairs" (by decide +kernel), nB "near" (by decide +kernel), nB "own_sides" (by decide +kernel), nB "own_ring" (by decide +kernel), nB "own_bridges" (by decide +kernel)⟩
  have WT : WTxt K (He.ga K "Walk") := ⟨He.cls_ok e10, nW "own_rooms" (by decide +kernel), nW "entered" (by decide +kernel), nW "key" (by decide +kernel)⟩
  have me : ∀ m, m ∈ me1 → Meth K (He.ga K "Building") m (He.ma K (He.ga K "Building") m) := fun m hm => He.meth_ok (List.all_eq_true.mp e15 m hm)
  have mW := He.meth_ok e16
  have pr : ∀ f, f ∈ pr1 → PropOf K (He.ga K "Building") f (He.ma K (He.ga K "Building") f) (gAt K "Building" f) := fun f hf => propB_ok (List.all_eq_true.mp e17 f hf)
  have mw := He.glo_ok X G e3
  have mb := He.glo_ok X G e4
  have hc1 : ∀ H, SqT K H (He.dflAt ("steps_from", none) 0 K) [] := tup0B_ok e20
  have hc2 : ∀ H, SqT K H (He.dflAt ("reached_from", none) 0 K) [] := tup0B_ok e21
  obtain ⟨d0, F0, V0⟩ : ∃ fd, C8.Fun K "joined_rooms" "joined_rooms" sJoined (He.ga K "joined_rooms") fd ∧ DflV K fd.defaults [] := c.def_ 0 (d := dG "joined_rooms" sJoined) rfl
  have B0 : Binds K d0 ["corridors"] [] := F0.binds (dfl_none V0) fun _ _ _ _ _ _ us hl => match us, hl with | [_], _ => rfl
  have D0 : C8.Def K mg "joined_rooms" sJoined (He.ga K "joined_rooms") d0 := ⟨F0, (g1 "joined_rooms" (by decide +kernel)).1, (g1 "joined_rooms" (by decide +kernel)).2⟩
  obtain ⟨d1, F1, V1⟩ : ∃ fd, C8.Fun K "steps_from" "steps_from" sSteps (He.ga K "steps_from") fd ∧ DflV K fd.defaults [V.ref (He.dflAt ("steps_from", none) 0 K)] := c.def_ 1 (d := dG "steps_from" sSteps [.adr (He.dflAt ("steps_from", none) 0)]) rfl
  have D1 : C8.Def K mg "steps_from" sSteps (He.ga K "steps_from") d1 := ⟨F1, (g1 "steps_from" (by decide +kernel)).1, (g1 "steps_from" (by decide +kernel)).2⟩
  obtain ⟨d2, F2, V2⟩ : ∃ fd, C8.Fun K "reached_from" "reached_from" sReached (He.ga K "reached_from") fd ∧ DflV K fd.defaults [V.ref (He.dflAt ("reached_from", none) 0 K)] := c.def_ 2 (d := dG "reached_from" sReached [.adr (He.dflAt ("reached_from", none) 0)]) rfl
  have D2 : C8.Def K mg "reached_from" sReached (He.ga K "reached_from") d2 := ⟨F2, (g1 "reached_from" (by decide +kernel)).1, (g1 "reached_from" (by decide +kernel)).2⟩
  obtain ⟨d3, F3, V3⟩ : ∃ fd, C8.Fun K "level_corridor" "level_corridor" sLevel (He.ga K "level_corridor") fd ∧ DflV K fd.defaults [] := c.def_ 3 (d := dG "level_corridor" sLevel) rfl
  have B3 : Binds K d3 ["levels", "corridors"] [] := F3.binds (dfl_none V3) fun _ _ _ _ _ _ us hl => match us, hl with | [_, _], _ => rfl
  have D3 : C8.Def K mg "level_corridor" sLevel (He.ga K "level_corridor") d3 := ⟨F3, (g1 "level_corridor" (by decide +kernel)).1, (g1 "level_corridor" (by decide +kernel)).2⟩
  obtain ⟨d4, F4, V4⟩ : ∃ fd, C8.Fun K "sides_of" "sides_of" sSides (He.ga K "sides_of") fd ∧ DflV K fd.defaults [] := c.def_ 4 (d := dG "sides_of" sSides) rfl
  have B4 : Binds K d4 ["rooms", "corridors"] [] := F4.binds (dfl_none V4) fun _ _ _ _ _ _ us hl => match us, hl with | [_, _], _ => rfl
  have D4 : C8.Def K mg "sides_of" sSides (He.ga K "sides_of") d4 := ⟨F4, (g1 "sides_of" (by decide +kernel)).1, (g1 "sides_of" (by decide +kernel)).2⟩
  obtain ⟨d5, F5, V5⟩ : ∃ fd, C8.Fun K "odd_ring_of" "odd_ring_of" sOdd (He.ga K "odd_ring_of") fd ∧ DflV K fd.defaults [] := c.def_ 5 (d := dG "odd_ring_of" sOdd) rfl
  have B5 : Binds K d5 ["rooms", "corridors"] [] := F5.binds (dfl_none V5) fun _ _ _ _ _ _ us hl => match us, hl with | [_, _], _ => rfl
  have D5 : C8.Def K mg "odd_ring_of" sOdd (He.ga K "odd_ring_of") d5 := ⟨F5, (g1 "odd_ring_of" (by decide +kernel)).1, (g1 "odd_ring_of" (by decide +kernel)).2⟩
  obtain ⟨d6, F6, V6⟩ : ∃ fd, C8.Fun K "on_rings" "on_rings" sRings (He.ga K "on_rings") fd ∧ DflV K fd.defaults [] := c.def_ 6 (d := dG "on_rings" sRings) rfl
  have B6 : Binds K d6 ["levels", "corridors"] [] := F6.binds (dfl_none V6) fun _ _ _ _ _ _ us hl => match us, hl with | [_, _], _ => rfl
  have D6 : C8.Def K mg "on_rings" sRings (He.ga K "on_rings") d6 := ⟨F6, (g1 "on_rings" (by decide +kernel)).1, (g1 "on_rings" (by decide +kernel)).2⟩
  obtain ⟨d7, F7, V7⟩ : ∃ fd, C8.Fun K "bridges_of" "bridges_of" sBridges (He.ga K "bridges_of") fd ∧ DflV K fd.defaults [] := c.def_ 7 (d := dG "bridges_of" sBridges) rfl
  have B7 : Binds K d7 ["rooms", "corridors"] [] := F7.binds (dfl_none V7) fun _ _ _ _ _ _ us hl => match us, hl with | [_, _], _ => rfl
  have D7 : C8.Def K mg "bridges_of" sBridges (He.ga K "bridges_of") d7 := ⟨F7, (g1 "bridges_of" (by decide +kernel)).1, (g1 "bridges_of" (by decide +kernel)).2⟩
  obtain ⟨d8, F8, V8⟩ : ∃ fd, C8.Fun K "is_name" "is_name" sIsName (He.ga K "is_name") fd ∧ DflV K fd.defaults [] := c.def_ 8 (d := dG "is_name" sIsName) rfl
  have B8 : Binds K d8 ["thing"] [] := F8.binds (dfl_none V8) fun _ _ _ _ _ _ us hl => match us, hl with | [_], _ => rfl
  have D8 : C8.Def K mg "is_name" sIsName (He.ga K "is_name") d8 := ⟨F8, (g1 "is_name" (by decide +kernel)).1, (g1 "is_name" (by decide +kernel)).2⟩
  obtain ⟨d9, F9, V9⟩ : ∃ fd, C8.Fun K "is_integer" "is_integer" sIsInt (He.ga K "is_integer") fd ∧ DflV K fd.defaults [] := c.def_ 9 (d := dG "is_integer" sIsInt) rfl
  have B9 : Binds K d9 ["thing"] [] := F9.binds (dfl_none V9) fun _ _ _ _ _ _ us hl => match us, hl with | [_], _ => rfl
  have D9 : C8.Def K mg "is_integer" sIsInt (He.ga K "is_integer") d9 := ⟨F9, (g1 "is_integer" (by decide +kernel)).1, (g1 "is_integer" (by decide +kernel)).2⟩
  obtain ⟨d10, F10, V10⟩ : ∃ fd, C8.Fun K "is_between" "is_between" sBetween (He.ga K "is_between") fd ∧ DflV K fd.defaults [] := c.def_ 10 (d := dG "is_between" sBetween) rfl
  have B10 : Binds K d10 ["thing", "low", "high"] [] := F10.binds (dfl_none V10) fun _ _ _ _ _ _ us hl => match us, hl with | [_, _, _], _ => rfl
  have D10 : C8.Def K mg "is_between" sBetween (He.ga K "is_between") d10 := ⟨F10, (g1 "is_between" (by decide +kernel)).1, (g1 "is_between" (by decide +kernel)).2⟩
  obtain ⟨d11, F11, V11⟩ : ∃ fd, C8.Fun K "wrong_place" "wrong_place" sWrong (He.ga K "wrong_place") fd ∧ DflV K fd.defaults [] := c.def_ 11 (d := dG "wrong_place" sWrong) rfl
  have B11 : Binds K d11 ["things"] [] := F11.binds (dfl_none V11) fun _ _ _ _ _ _ us hl => match us, hl with | [_], _ => rfl
  have D11 : C8.Def K mg "wrong_place" sWrong (He.ga K "wrong_place") d11 := ⟨F11, (g1 "wrong_place" (by decide +kernel)).1, (g1 "wrong_place" (by decide +kernel)).2⟩
  obtain ⟨d12, F12, V12⟩ : ∃ fd, C8.Fun K "pair_of" "pair_of" sPairOf (He.ga K "pair_of") fd ∧ DflV K fd.defaults [] := c.def_ 12 (d := dG "pair_of" sPairOf) rfl
  have B12 : Binds K d12 ["one", "other"] [] := F12.binds (dfl_none V12) fun _ _ _ _ _ _ us hl => match us, hl with | [_, _], _ => rfl
  have D12 : C8.Def K mg "pair_of" sPairOf (He.ga K "pair_of") d12 := ⟨F12, (g1 "pair_of" (by decide +kernel)).1, (g1 "pair_of" (by decide +kernel)).2⟩
  obtain ⟨d13, F13, V13⟩ : ∃ fd, C8.Fun K "__init__" "Walk.__init__" sWInit (He.ma K (He.ga K "Walk") "__init__") fd ∧ DflV K fd.defaults [] := c.def_ 13 (d := dM "Walk" "__init__" "Walk.__init__" sWInit) rfl
  obtain ⟨d14, F14, V14⟩ : ∃ fd, C8.Fun K "__len__" "Walk.__len__" sWLen (He.ma K (He.ga K "Walk") "__len__") fd ∧ DflV K fd.defaults [] := c.def_ 14 (d := dM "Walk" "__len__" "Walk.__len__" sWLen) rfl
  have B14 : Binds K d14 ["self"] [] := F14.binds (dfl_none V14) fun _ _ _ _ _ _ us hl => match us, hl with | [_], _ => rfl
  obtain ⟨d15, F15, V15⟩ : ∃ fd, C8.Fun K "__init__" "Building.__init__" sBInit (He.ma K (He.ga K "Building") "__init__") fd ∧ DflV K fd.defaults [] := c.def_ 15 (d := dM "Building" "__init__" "Building.__init__" sBInit) rfl
  have B15 : Binds K d15 ["self", "sizes", "corridors"] [] := F15.binds (dfl_none V15) fun _ _ _ _ _ _ us hl => match us, hl with | [_, _, _], _ => rfl
  obtain ⟨d16, F16, V16⟩ : ∃ fd, C8.Fun K "prepare" "Building.prepare" sPrepare (He.ma K (He.ga K "Building") "prepare") fd ∧ DflV K fd.defaults [] := c.def_ 16 (d := dM "Building" "prepare" "Building.prepare" sPrepare) rfl
  have B16 : Binds K d16 ["self"] [] := F16.binds (dfl_none V16) fun _ _ _ _ _ _ us hl => match us, hl with | [_], _ => rfl
  obtain ⟨d17, F17, V17⟩ : ∃ fd, C8.Fun K "sorted_pairs" "Building.sorted_pairs" sSortedPairs (He.ma K (He.ga K "Building") "sorted_pairs") fd ∧ DflV K fd.defaults [] := c.def_ 17 (d := dM "Building" "sorted_pairs" "Building.sorted_pairs" sSortedPairs) rfl
  have B17 : Binds K d17 ["self", "corridors"] [] := F17.binds (dfl_none V17) fun _ _ _ _ _ _ us hl => match us, hl with | [_, _], _ => rfl
  obtain ⟨d18, F18, V18⟩ : ∃ fd, C8.Fun K "check_connected" "Building.check_connected" sCheck (He.ma K (He.ga K "Building") "check_connected") fd ∧ DflV K fd.defaults [] := c.def_ 18 (d := dM "Building" "check_connected" "Building.check_connected" sCheck) rfl
  have B18 : Binds K d18 ["self"] [] := F18.binds (dfl_none V18) fun _ _ _ _ _ _ us hl => match us, hl with | [_], _ => rfl
  obtain ⟨d19, F19, V19⟩ : ∃ fd, C8.Fun K "corridor_of" "Building.corridor_of" sCorrOf (He.ma K (He.ga K "Building") "corridor_of") fd ∧ DflV K fd.defaults [] := c.def_ 19 (d := dM "Building" "corridor_of" "Building.corridor_of" sCorrOf) rfl
  have B19 : Binds K d19 ["self", "one", "other"] [] := F19.binds (dfl_none V19) fun _ _ _ _ _ _ us hl => match us, hl with | [_, _, _], _ => rfl
  obtain ⟨d20, F20, V20⟩ : ∃ fd, C8.Fun K "neighbours" "Building.neighbours" sNeigh (He.ma K (He.ga K "Building") "neighbours") fd ∧ DflV K fd.defaults [] := c.def_ 20 (d := dM "Building" "neighbours" "Building.neighbours" sNeigh) rfl
  have B20 : Binds K d20 ["self", "room"] [] := F20.binds (dfl_none V20) fun _ _ _ _ _ _ us hl => match us, hl with | [_, _], _ => rfl
  obtain ⟨d21, F21, V21⟩ : ∃ fd, C8.Fun K "bank" "Building.bank" sBank (He.ma K (He.ga K "Building") "bank") fd ∧ DflV K fd.defaults [] := c.def_ 21 (d := dM "Building" "bank" "Building.bank" sBank) rfl
  have B21 : Binds K d21 ["self", "room", "other"] [] := F21.binds (dfl_none V21) fun _ _ _ _ _ _ us hl => match us, hl with | [_, _, _], _ => rfl
  obtain ⟨d22, F22, V22⟩ : ∃ fd, C8.Fun K "paths" "Building.paths" sPaths (He.ma K (He.ga K "Building") "paths") fd ∧ DflV K fd.defaults [] := c.def_ 22 (d := dM "Building" "paths" "Building.paths" sPaths) rfl
  have B22 : Binds K d22 ["self", "first", "last"] [] := F22.binds (dfl_none V22) fun _ _ _ _ _ _ us hl => match us, hl with | [_, _, _], _ => rfl
  obtain ⟨d23, F23, V23⟩ : ∃ fd, C8.Fun K "paths_on" "Building.paths_on" sPathsOn (He.ma K (He.ga K "Building") "paths_on") fd ∧ DflV K fd.defaults [] := c.def_ 23 (d := dM "Building" "paths_on" "Building.paths_on" sPathsOn) rfl
  have B23 : Binds K d23 ["self", "rooms", "last"] [] := F23.binds (dfl_none V23) fun _ _ _ _ _ _ us hl => match us, hl with | [_, _, _], _ => rfl
  obtain ⟨d24, F24, V24⟩ : ∃ fd, C8.Fun K "__contains__" "Building.__contains__" sBIn (He.ma K (He.ga K "Building") "__contains__") fd ∧ DflV K fd.defaults [] := c.def_ 24 (d := dM "Building" "__contains__" "Building.__contains__" sBIn) rfl
  have B24 : Binds K d24 ["self", "thing"] [] := F24.binds (dfl_none V24) fun _ _ _ _ _ _ us hl => match us, hl with | [_, _], _ => rfl
  obtain ⟨d25, F25, V25⟩ : ∃ fd, C8.Fun K "rooms" "Building.rooms" sRooms (gAt K "Building" "rooms") fd ∧ DflV K fd.defaults [] := c.def_ 25 (d := dP "Building" "rooms" "Building.rooms" sRooms) rfl
  have B25 : Binds K d25 ["self"] [] := F25.binds (dfl_none V25) fun _ _ _ _ _ _ us hl => match us, hl with | [_], _ => rfl
  obtain ⟨d26, F26, V26⟩ : ∃ fd, C8.Fun K "corridors" "Building.corridors" sCorridors (gAt K "Building" "corridors") fd ∧ DflV K fd.defaults [] := c.def_ 26 (d := dP "Building" "corridors" "Building.corridors" sCorridors) rfl
  have B26 : Binds K d26 ["self"] [] := F26.binds (dfl_none V26) fun _ _ _ _ _ _ us hl => match us, hl with | [_], _ => rfl
  obtain ⟨d27, F27, V27⟩ : ∃ fd, C8.Fun K "sides" "Building.sides" sSidesP (gAt K "Building" "sides") fd ∧ DflV K fd.defaults [] := c.def_ 27 (d := dP "Building" "sides" "Building.sides" sSidesP) rfl
  have B27 : Binds K d27 ["self"] [] := F27.binds (dfl_none V27) fun _ _ _ _ _ _ us hl => match us, hl with | [_], _ => rfl
  obtain ⟨d28, F28, V28⟩ : ∃ fd, C8.Fun K "bridges" "Building.bridges" sBridgesP (gAt K "Building" "bridges") fd ∧ DflV K fd.defaults [] := c.def_ 28 (d := dP "Building" "bridges" "Building.bridges" sBridgesP) rfl
  have B28 : Binds K d28 ["self"] [] := F28.binds (dfl_none V28) fun _ _ _ _ _ _ us hl => match us, hl with | [_], _ => rfl
  obtain ⟨d29, F29, V29⟩ : ∃ fd, C8.Fun K "odd_ring" "Building.odd_ring" sOddP (gAt K "Building" "odd_ring") fd ∧ DflV K fd.defaults [] := c.def_ 29 (d := dP "Building" "odd_ring" "Building.odd_ring" sOddP) rfl
  have B29 : Binds K d29 ["self"] [] := F29.binds (dfl_none V29) fun _ _ _ _ _ _ us hl => match us, hl with | [_], _ => rfl
  obtain ⟨d30, F30, V30⟩ : ∃ fd, C8.Fun K "_law_begin" "_law_begin" sBegin (He.ga K "_law_begin") fd ∧ DflV K fd.defaults [] := c.def_ 30 (d := dG "_law_begin" sBegin) rfl
  have B30 : Binds K d30 ["_law_script"] [] := F30.binds (dfl_none V30) fun _ _ _ _ _ _ us hl => match us, hl with | [_], _ => rfl
  have D30 : C8.Def K mg "_law_begin" sBegin (He.ga K "_law_begin") d30 := ⟨F30, (g2 "_law_begin" (by decide +kernel)).1, (g2 "_law_begin" (by decide +kernel)).2⟩
  obtain ⟨d31, F31, V31⟩ : ∃ fd, C8.Fun K "_law_draw" "_law_draw" sDraw (He.ga K "_law_draw") fd ∧ DflV K fd.defaults [] := c.def_ 31 (d := dG "_law_draw" sDraw) rfl
  have B31 : Binds K d31 ["_law_tape", "_law_many"] [] := F31.binds (dfl_none V31) fun _ _ _ _ _ _ us hl => match us, hl with | [_, _], _ => rfl
  have D31 : C8.Def K mg "_law_draw" sDraw (He.ga K "_law_draw") d31 := ⟨F31, (g2 "_law_draw" (by decide +kernel)).1, (g2 "_law_draw" (by decide +kernel)).2⟩
  obtain ⟨d32, F32, V32⟩ : ∃ fd, C8.Fun K "_law_pick" "_law_pick" sPick (He.ga K "_law_pick") fd ∧ DflV K fd.defaults [] := c.def_ 32 (d := dG "_law_pick" sPick) rfl
  have B32 : Binds K d32 ["_law_tape", "_law_items"] [] := F32.binds (dfl_none V32) fun _ _ _ _ _ _ us hl => match us, hl with | [_, _], _ => rfl
  have D32 : C8.Def K mg "_law_pick" sPick (He.ga K "_law_pick") d32 := ⟨F32, (g2 "_law_pick" (by decide +kernel)).1, (g2 "_law_pick" (by decide +kernel)).2⟩
  obtain ⟨d33, F33, V33⟩ : ∃ fd, C8.Fun K "_law_shuffled" "_law_shuffled" sShuffled (He.ga K "_law_shuffled") fd ∧ DflV K fd.defaults [] := c.def_ 33 (d := dG "_law_shuffled" sShuffled) rfl
  have B33 : Binds K d33 ["_law_tape", "_law_items"] [] := F33.binds (dfl_none V33) fun _ _ _ _ _ _ us hl => match us, hl with | [_, _], _ => rfl
  have D33 : C8.Def K mg "_law_shuffled" sShuffled (He.ga K "_law_shuffled") d33 := ⟨F33, (g2 "_law_shuffled" (by decide +kernel)).1, (g2 "_law_shuffled" (by decide +kernel)).2⟩
  obtain ⟨d34, F34, V34⟩ : ∃ fd, C8.Fun K "_law_names" "_law_names" sNames (He.ga K "_law_names") fd ∧ DflV K fd.defaults [] := c.def_ 34 (d := dG "_law_names" sNames) rfl
  have B34 : Binds K d34 ["_law_tape", "_law_many"] [] := F34.binds (dfl_none V34) fun _ _ _ _ _ _ us hl => match us, hl with | [_, _], _ => rfl
  have D34 : C8.Def K mg "_law_names" sNames (He.ga K "_law_names") d34 := ⟨F34, (g2 "_law_names" (by decide +kernel)).1, (g2 "_law_names" (by decide +kernel)).2⟩
  obtain ⟨d35, F35, V35⟩ : ∃ fd, C8.Fun K "_law_pair" "_law_pair" sLPair (He.ga K "_law_pair") fd ∧ DflV K fd.defaults [] := c.def_ 35 (d := dG "_law_pair" sLPair) rfl
  have B35 : Binds K d35 ["_law_one", "_law_other"] [] := F35.binds (dfl_none V35) fun _ _ _ _ _ _ us hl => match us, hl with | [_, _], _ => rfl
  have D35 : C8.Def K mg "_law_pair" sLPair (He.ga K "_law_pair") d35 := ⟨F35, (g2 "_law_pair" (by decide +kernel)).1, (g2 "_law_pair" (by decide +kernel)).2⟩
  obtain ⟨d36, F36, V36⟩ : ∃ fd, C8.Fun K "_law_drawn" "_law_drawn" sDrawn (He.ga K "_law_drawn") fd ∧ DflV K fd.defaults [] := c.def_ 36 (d := dG "_law_drawn" sDrawn) rfl
  have B36 : Binds K d36 ["_law_tape", "_law_least", "_law_most", "_law_more", "_law_sizes"] [] := F36.binds (dfl_none V36) fun _ _ _ _ _ _ us hl => match us, hl with | [_, _, _, _, _], _ => rfl
  have D36 : C8.Def K mg "_law_drawn" sDrawn (He.ga K "_law_drawn") d36 := ⟨F36, (g2 "_law_drawn" (by decide +kernel)).1, (g2 "_law_drawn" (by decide +kernel)).2⟩
  obtain ⟨d37, F37, V37⟩ : ∃ fd, C8.Fun K "_law_built" "_law_built" sBuilt (He.ga K "_law_built") fd ∧ DflV K fd.defaults [] := c.def_ 37 (d := dG "_law_built" sBuilt) rfl
  have B37 : Binds K d37 ["_law_plan"] [] := F37.binds (dfl_none V37) fun _ _ _ _ _ _ us hl => match us, hl with | [_], _ => rfl
  have D37 : C8.Def K mg "_law_built" sBuilt (He.ga K "_law_built") d37 := ⟨F37, (g2 "_law_built" (by decide +kernel)).1, (g2 "_law_built" (by decide +kernel)).2⟩
  obtain ⟨d38, F38, V38⟩ : ∃ fd, C8.Fun K "_law_near" "_law_near" sNear (He.ga K "_law_near") fd ∧ DflV K fd.defaults [] := c.def_ 38 (d := dG "_law_near" sNear) rfl
  have B38 : Binds K d38 ["_law_plan", "_law_room"] [] := F38.binds (dfl_none V38) fun _ _ _ _ _ _ us hl => match us, hl with | [_, _], _ => rfl
  have D38 : C8.Def K mg "_law_near" sNear (He.ga K "_law_near") d38 := ⟨F38, (g2 "_law_near" (by decide +kernel)).1, (g2 "_law_near" (by decide +kernel)).2⟩
  obtain ⟨d39, F39, V39⟩ : ∃ fd, C8.Fun K "_law_two_sided" "_law_two_sided" sTwo (He.ga K "_law_two_sided") fd ∧ DflV K fd.defaults [] := c.def_ 39 (d := dG "_law_two_sided" sTwo) rfl
  have B39 : Binds K d39 ["_law_plan"] [] := F39.binds (dfl_none V39) fun _ _ _ _ _ _ us hl => match us, hl with | [_], _ => rfl
  have D39 : C8.Def K mg "_law_two_sided" sTwo (He.ga K "_law_two_sided") d39 := ⟨F39, (g2 "_law_two_sided" (by decide +kernel)).1, (g2 "_law_two_sided" (by decide +kernel)).2⟩
  obtain ⟨d40, F40, V40⟩ : ∃ fd, C8.Fun K "_law_some_plan" "_law_some_plan" sSome (He.ga K "_law_some_plan") fd ∧ DflV K fd.defaults [] := c.def_ 40 (d := dG "_law_some_plan" sSome) rfl
  have B40 : Binds K d40 ["_law_tape", "_law_most", "_law_more", "_law_sizes"] [] := F40.binds (dfl_none V40) fun _ _ _ _ _ _ us hl => match us, hl with | [_, _, _, _], _ => rfl
  have D40 : C8.Def K mg "_law_some_plan" sSome (He.ga K "_law_some_plan") d40 := ⟨F40, (g2 "_law_some_plan" (by decide +kernel)).1, (g2 "_law_some_plan" (by decide +kernel)).2⟩
  obtain ⟨d41, F41, V41⟩ : ∃ fd, C8.Fun K "_law_is_mixed" "_law_is_mixed" sMixed (He.ga K "_law_is_mixed") fd ∧ DflV K fd.defaults [] := c.def_ 41 (d := dG "_law_is_mixed" sMixed) rfl
  have B41 : Binds K d41 ["_law_house"] [] := F41.binds (dfl_none V41) fun _ _ _ _ _ _ us hl => match us, hl with | [_], _ => rfl
  have D41 : C8.Def K mg "_law_is_mixed" sMixed (He.ga K "_law_is_mixed") d41 := ⟨F41, (g2 "_law_is_mixed" (by decide +kernel)).1, (g2 "_law_is_mixed" (by decide +kernel)).2⟩
  obtain ⟨d42, F42, V42⟩ : ∃ fd, C8.Fun K "_law_middled" "_law_middled" sMiddled (He.ga K "_law_middled") fd ∧ DflV K fd.defaults [] := c.def_ 42 (d := dG "_law_middled" sMiddled) rfl
  have B42 : Binds K d42 ["_law_plan"] [] := F42.binds (dfl_none V42) fun _ _ _ _ _ _ us hl => match us, hl with | [_], _ => rfl
  have D42 : C8.Def K mg "_law_middled" sMiddled (He.ga K "_law_middled") d42 := ⟨F42, (g2 "_law_middled" (by decide +kernel)).1, (g2 "_law_middled" (by decide +kernel)).2⟩
  obtain ⟨d43, F43, V43⟩ : ∃ fd, C8.Fun K "law" "law" sLaw (He.ga K "law") fd ∧ DflV K fd.defaults [] := c.def_ 43 (d := dG "law" sLaw) rfl
  have B43 : Binds K d43 ["_law_script"] [] := F43.binds (dfl_none V43) fun _ _ _ _ _ _ us hl => match us, hl with | [_], _ => rfl
  have D43 : C8.Def K mg "law" sLaw (He.ga K "law") d43 := ⟨F43, (g2 "law" (by decide +kernel)).1, (g2 "law" (by decide +kernel)).2⟩
  obtain ⟨ds1, v1, b1⟩ : ∃ ds, Vals [V.ref (He.dflAt ("steps_from", none) 0 K)] ds ∧ Binds K d1 ["start", "corridors", "closed_rooms"] ds := (fun_d F1 V1 D1.kp).binds1 2 0 (by simp) rfl fun T kV doc pm an cdv ct us its hu hi => match us, its, hu, hi with | [_, _], [_], _, _ => ⟨_, rfl, rfl⟩
  obtain ⟨ds1', v1', b1'⟩ : ∃ ds, Vals [] ds ∧ Binds K d1 ["start", "corridors", "closed_rooms"] ds := (fun_d F1 V1 D1.kp).binds1 3 1 (by simp) rfl fun T kV doc pm an cdv ct us its hu hi => match us, its, hu, hi with | [_, _, _], [_], _, _ => ⟨_, rfl, rfl⟩
  obtain ⟨ds2, v2, b2⟩ : ∃ ds, Vals [V.ref (He.dflAt ("reached_from", none) 0 K)] ds ∧ Binds K d2 ["start", "corridors", "closed_rooms"] ds := (fun_d F2 V2 D2.kp).binds1 2 0 (by simp) rfl fun T kV doc pm an cdv ct us its hu hi => match us, its, hu, hi with | [_, _], [_], _, _ => ⟨_, rfl, rfl⟩
  refine ⟨D43.mgf, d43, fun s u => fun_bindsA (ps := ["_law_script"]) F43 (dfl_none V43) (fun _ _ _ _ _ _ us hl => match us, hl with | [_], _ => rfl) s [u] rfl, fun base => ?_⟩
  have cJ := cal_joined (P := P) (w := w) (base := base) D0 B0 z
  have cS3 := cal_steps D1 b1' v1' z cJ
  have cS2 := cal_steps D1 b1 v1 z cJ
  have cR2 := cal_reached D2 b2 v2 z cS3
  have cL := cal_level (P := P) (w := w) (base := base) D3 B3
  have cSd := cal_sides2 (cal_sides D4 B4 z hc1 cS2 cL)
  have cOd := cal_odd2 (cal_odd D5 B5 z hc1 cS2 cL)
  have cRg := cal_rings (P := P) (w := w) (base := base) D6 B6
  have cBr := cal_bridges D7 B7 z hc1 cS2 cRg
  have cN := cal_name (P := P) (w := w) (base := base) D8 B8 z v
  have cI := cal_int (P := P) (w := w) (base := base) D9 B9 z
  have cBt := cal_between D10 B10 cI
  have cW := cal_wrong D11 B11 z cN
  have cP := cal_pair (P := P) (w := w) (base := base) D12 B12
  have Wf := winit_ok F13 (dfl_none V13) z v WT cW
  have ci := cin_ok F24 ⟨(me "__contains__" (by decide +kernel)).at_, (me "__contains__" (by decide +kernel)).fn⟩ B24 T cN
  have mN := met_neigh F20 B20 (me "neighbours" (by decide +kernel)) z T ci
  have mCo := met_corr (fp := 0) (fdp := d0) F19 B19 (me "corridor_of" (by decide +kernel)) T ci cP
  have mBk := met_bank F21 B21 (me "bank" (by decide +kernel)) z T hc2 mCo cR2
  have mSp := met_sp F17 B17 (me "sorted_pairs" (by decide +kernel)) z T ci (pair_fn F12) B12 D12.kp D12.mgf
  have mCh := met_check F18 B18 (me "check_connected" (by decide +kernel)) z T hc2 cR2
  have mPr := met_prep F16 B16 (me "prepare" (by decide +kernel)) z T cSd cOd cBr
  have BI := binit_ok F15 z v T ⟨conB_ok e18, conB_ok e19⟩ cN cBt mSp mCh mPr
  have mB : C8.Mak P w K mg base 5 "Building" (He.ga K "Building") (spBI K (He.ga K "Building")) [] := ⟨_, _, _, [], He.mkr_ok e11, BI, mb, B15, .nil⟩
  have Fo := po_ok F23 B23 (me "paths_on" (by decide +kernel)) T mN (He.mkr_ok e12) Wf mw 6
  have Fp := paths_ok F22 T ci (me "paths_on" (by decide +kernel)) Fo B23
  have pR := prp_rooms (P := P) (w := w) (base := base) T (pr "rooms" (by decide +kernel)) F25 B25 z
  have pC := prp_corrs (P := P) (w := w) (base := base) T (pr "corridors" (by decide +kernel)) F26 B26 z
  have pS := prp_sd (P := P) (w := w) (mg := mg) (base := base) T (pr "sides" (by decide +kernel)) F27 B27
  have pB := prp_br (P := P) (w := w) (mg := mg) (base := base) T (pr "bridges" (by decide +kernel)) F28 B28
  have pO := prp_od (P := P) (w := w) (mg := mg) (base := base) T (pr "odd_ring" (by decide +kernel)) F29 B29
  have wl : WLen K (He.ga K "Walk") := ⟨_, _, F14, B14, ⟨mW.at_, mW.fn⟩, WT.cl, WT.nE⟩
  have cD := cal_draw (P := P) (w := w) (base := base) D31 B31 z
  have cBeg := cal_begin (P := P) (w := w) (base := base) D30 B30
  have cPick := cal_pick D32 B32 z cD
  have cSh := cal_shuf D33 B33 z cD
  have cNm := cal_names D34 B34 z cD cPick
  have cLp := cal_lpair (P := P) (w := w) (base := base) D35 B35
  have cLpF := cal_lpairF (P := P) (w := w) (base := base) D35 B35
  have cDr := cal_drawn D36 B36 z cD cPick cNm cSh cLpF
  have cBu := cal_built D37 B37 mB
  have cNe := cal_near (P := P) (w := w) (base := base) D38 B38 z
  have cTw := cal_two D39 B39 z cNe
  have cSo := cal_some D40 B40 cD cDr cTw
  have cMi := cal_mid D42 B42 z cLp
  have FM := fn_mixed F41 z T pR mN (me "paths" (by decide +kernel)) Fp B22 wl
  exact fn_law F43 ⟨z, T, cBeg, cPick, cSo, cBu, cMi, mBk, pR, pC, pS, pO, pB, me "paths" (by decide +kernel), Fp, B22, FM, D41.mgf, D41.kp, B41⟩
end Yf
set_option Elab.async false
set_option linter.all false
set_option maxRecDepth 100000
set_option maxHeartbeats 0
open PySem PySem.W PySem.Calls PyProof.Rows
theorem PySem.Challenge.cw_roomdials_k30_whole_bridges_rings_and_si_holds : PySem.Challenge.rw_roomdials_k30_whole_bridges_rings_and_si.Holds := by
  w_on; o_law
  refine Yf.law_holds (l := PySem.Challenge.rw_roomdials_k30_whole_bridges_rings_and_si) (q := view Yf.rowR.prog [53]) (H := Yf.hkY) (ob := Yf.obY) (M := 30000) (loose := Yf.lo1 ++ Yf.lo2) (d := HandSHeadRun.topDef Yf.rowR.prog 53) (kwd := []) (n := 63) Yf.obY_eq
    (by kernel_rfl) (fun s => by kernel_rfl) Yf.runY (by kernel_rfl) (by kernel_rfl) (by kernel_rfl) (by rfl) (by first | assumption | decide +kernel) (by decide +kernel) ⟨rfl, rfl, rfl, rfl, rfl, by decide +kernel⟩ ?hw rfl ?hc
  case hw => w_witness2
  case hc =>
    intro w s₀ s₁ mg mb fa a vs ns G Y hmg0 hobj hints hlen hg
    obtain ⟨K, KX, c⟩ := Y
    have hmg : mg ("law" : PySem.Str) = some (.ref fa) := by
      have e : (OpenLaw.row PySem.Challenge.rw_roomdials_k30_whole_bridges_rings_and_si).name = ("law" : PySem.Str) := by kernel_rfl
      rw [← e]
      exact hmg0
    obtain ⟨hlaw, fd, hb, hF⟩ := Yf.all_ok (P := (OpenLaw.row PySem.Challenge.rw_roomdials_k30_whole_bridges_rings_and_si).prog) (w := w) KX G.T.g c
    have e := hmg.symm.trans hlaw
    cases e
    exact Yf.law_call2 KX G.T.g G.T.b G.T.builtins G.T.nolimit hg hobj hints (Nat.le_trans hlen (by decide)) (Yf.room_caller.mono (by decide)) Yf.frames_caller (fun base _ _ => hF base) hb fun H hO hS => ⟨a, ns, rfl, hS, hlen, fun _ => rfl⟩
