import PyProof.Rows.All
import Wide.All
import OpenK.AllK
import Wide.FinOn
import KE.KExcSuper
import KE.KExcIs
import HandS.ExcInit
import HandS.ExcSuper
import HandS.ExcOwn
import HandS.HeadHook2
import HandS.Defaults
import KE.KStateDown
import HandS.Head0
import HandS.Head1
import HandS.Head2
import HandS.HeadEnd
import HandS.Words
import HandS.WordsExc
import HandS.ForMost
import HandS.HotCalls
import HandS.CallSlots
import HandS.IsInst
import HandS.SortRule
import HandS.SortInts
import HandS.Style
import HandS.Flow
import HandS.Conv
import HandS.Rev
import HandS.TupAny
import HandS.MakeKwOnly
import HandS.More
import HandS.SetFor
import HandS.Strs
import PyProof.SeqIndex
import PyProof.WalksS
import PyProof.ConsumeS
import HandS.SortKw
import HandS.Comp
import HandS.FStr
import HandS.ExcField
import HandS.ExcIs
import PySem.Challenge.RW_foreworth_k16_unions
set_option Elab.async false
set_option linter.all false
set_option maxRecDepth 100000
set_option maxHeartbeats 4000000
/-! G0: what the head looks at (ahead of the layer: the run of a top is large). -/
namespace G
open PySem PySem.Spec PyProof.Rows L2
open He (ba)
def oexB (K : PySem.W.Frag) (C : Addr) : Bool := match K.lookup C with
  | some ⟨.type c, dd, .cls cd, sl⟩ => decide (c = "type") && (cd.hasDict && (!cd.hasDel && (match cd.mro, sl.toList with
    | .ref C' :: bm, [k0, k1, k2, k3, some (.builtin n), k5] => decide (C' = C) && (decide (n = "ValueError.__new__") && PySem.HandSPX.refsVE bm)
    | _, _ => false)))
  | _ => false
def errB (K : PySem.W.Frag) (C : Addr) : Bool :=
  oexB K C && (decide (PySem.W.findIn K (.ref C) "__setattr__" = some (some (.builtin "object.__setattr__"))) && (decide (PySem.W.subIn K (.ref C) (.type "BaseException") = some true) && (decide (PySem.W.typeIn K (.ref C) = some (.type "type")) && (PySem.W.keepIn K (.ref C) &&
  (decide (PySem.W.findIn K (.ref C) "__getattribute__" = some (some (.builtin "BaseException.__getattribute__"))) && (decide (PySem.W.findIn K (.ref C) "__getattr__" = some none) && (PySem.W.hasDictIn K C && (decide (PySem.W.findIn K (.ref C) "__class__" = some (some (.builtin "object.__class__"))) &&
  (decide (PySem.W.specialIn K (.builtin "object.__class__") "__get__" = some (some (.builtin "getset_descriptor.__get__"))) && (decide (PySem.W.takesIn K (.builtin "object.__class__") = some true) && (decide (PySem.W.mroIn K C (.type "object") = some true) &&
  (decide (PySem.W.mroIn K C (.ref C) = some true) && (decide (PySem.W.ks_superIn K C C "__init__" = some (some (.builtin "ValueError.__init__"))) && decide (PySem.W.subIn K (.ref C) (.type "ValueError") = some true))))))))))))))
/-- an __init__ with the cell __class__ -/
structure ErrD where
  cls : Str
  qual : Str
  params : Arguments
  body : List Stmt
  scope : Scope
abbrev iniAd (K : PySem.W.Frag) (x : Str) : Addr := He.ma K (He.ga K x) "__init__"
def fnS (K : PySem.W.Frag) (x : Str) : He.FnW := match K.lookup (iniAd K x) with
  | some ⟨_, _, .func fd, _⟩ => some (fd.name, fd.qualname, fd.params, fd.body, fd.scope, fd.globals, [], fd.builtins)
  | _ => none
def ErrD.val (d : ErrD) : He.FnW := some ("__init__", d.qual, d.params, .stmts d.body, d.scope, mainGlobals, [], builtinsNs)
def cellB (K : PySem.W.Frag) (C : Addr) (l : List (Str × Addr)) : Bool := match l with
  | [(n, cc)] => decide (n = "__class__") && (match K.lookup cc with
    | some ⟨_, _, .cell (some (.ref D)), _⟩ => decide (D = C)
    | _ => false)
  | _ => false
def fileB (K : PySem.W.Frag) (v : Value) (file : Str) : Bool := match v with
  | .ref c => (match K.lookup c with
    | some ⟨_, _, .fields vs, _⟩ => (match vs[2]? with
      | some (Value.str f _) => decide (f = file)
      | _ => false)
    | _ => false)
  | _ => false
def iniB (K : PySem.W.Frag) (file : Str) (d : ErrD) : Bool := (match K.lookup (iniAd K d.cls) with
  | some ⟨_, _, .func fd, _⟩ => (match fd.defaults with
    | .none => true
    | _ => false) && (PySem.W.codeIn K fd.code d.qual && (cellB K (He.ga K d.cls) fd.closure && fileB K fd.code file))
  | _ => false) && ((PySem.W.clsIn K (He.ga K d.cls)).isSome && (decide (PySem.W.nsIn K cStatics "thirdparty.any" = some none) && (decide (PySem.W.findIn K (.ref (He.ga K d.cls)) "__init__" = some (some (.ref (iniAd K d.cls)))) && decide (PySem.W.typeIn K (.ref (iniAd K d.cls)) = some (.type "function")))))
/-! ### the Hook -/
def obsE (file : Str) (fa : List He.Fa) (fn : List He.DefD) (es : List ErrD) (ex : PySem.W.Frag → Bool) (K : PySem.W.Frag) : He.AlD := ((fa.all fun f => f.ok K) && ((fn.all fun d => d.ok K) && ((es.all fun d => iniB K file d) && ex K)), fn.map (fun d => He.fnW K d.at_) ++ es.map fun d => fnS K d.cls)
def valE (fn : List He.DefD) (es : List ErrD) : He.AlD := (true, fn.map He.DefD.val ++ es.map ErrD.val)
def SaysR (file : Str) (fa : List He.Fa) (fn : List He.DefD) (es : List ErrD) (ex : PySem.W.Frag → Bool) (K : PySem.W.Frag) : Prop := obsE file fa fn es ex K = valE fn es
def obsEG (n : Nat) (file : Str) (fa : List He.Fa) (fn : List He.DefD) (es : List ErrD) (ex : PySem.W.Frag → Bool) (g : Addr → Option Obj) : He.AlD := obsE file fa fn es ex (He.frG g (He.asD g n ++ [cStatics]))
def hookE (n : Nat) (file : Str) (fa : List He.Fa) (fn : List He.DefD) (es : List ErrD) (ex : PySem.W.Frag → Bool) : PySem.W.Hook where
  α := He.AlD
  obs := fun s => obsEG n file fa fn es ex s.heap.get?
  val := fun _ => valE fn es
  says := fun _ h => ∃ K : PySem.W.Frag, K.In h ∧ SaysR file fa fn es ex K
  of := fun _ _ e => ⟨_, He.frG_in, e⟩
  keeps := fun _ _ _ ⟨K, hK, c⟩ k => ⟨K, PySem.W.Frag.In.keeps hK k, c⟩
theorem obsEG_eq {n : Nat} {file : Str} {fa : List He.Fa} {fn : List He.DefD} {es : List ErrD} {ex : PySem.W.Frag → Bool} {g : Addr → Option Obj} {s : Shared} (h : ∀ a, g a = s.heap.get? a) : obsEG n file fa fn es ex g = (hookE n file fa fn es ex).obs s := by
  have e : g = s.heap.get? := funext h
  rw [e] <;> rfl
end G

set_option Elab.async false
set_option linter.all false
set_option maxRecDepth 100000
set_option maxHeartbeats 4000000
namespace K16
open PySem PySem.Spec PyProof.Rows L2 G

abbrev topS (i : Nat) : Stmt := PySem.Challenge.pw_foreworth_k16_unions.main.body.getD i (.Pass ⟨0, 0, 0, 0⟩)
abbrev st_distinct : Stmt := topS 25
abbrev st_check_stays : Stmt := topS 27
abbrev st_laid : Stmt := topS 28
abbrev st_pieces : Stmt := topS 29
abbrev st_sums_of : Stmt := topS 38
abbrev st_check_ring : Stmt := topS 37
abbrev st_Ring_init : Stmt := inClass (topS 36) 0
abbrev st_Ring_whole : Stmt := inClass (topS 36) 1
abbrev st_piece_price : Stmt := topS 30
abbrev st_laid_price : Stmt := topS 31
abbrev st_union_price : Stmt := topS 32
abbrev st_union_beats : Stmt := topS 33
abbrev st_least_laying : Stmt := topS 34
abbrev st_l_cell : Stmt := topS 40
abbrev st_l_digits : Stmt := topS 41
abbrev st_l_seed : Stmt := topS 42
abbrev st_l_prefix : Stmt := topS 43
abbrev st_l_is_int : Stmt := topS 44
abbrev st_l_ints : Stmt := topS 45
abbrev st_l_prices : Stmt := topS 46
abbrev st_l_gates : Stmt := topS 47
abbrev st_l_drawn : Stmt := topS 48
abbrev st_l_laid_beats : Stmt := topS 49
abbrev st_l_ring : Stmt := topS 50
abbrev st_l_right : Stmt := topS 51
abbrev st_l_bad : Stmt := topS 52
abbrev st_l_first_bad : Stmt := topS 53
abbrev st_l_told_place : Stmt := topS 54
abbrev st_law : Stmt := topS 55
abbrev file : Str := PySem.Challenge.pw_foreworth_k16_unions.main.file
abbrev st_BadStay_init : Stmt := inClass (topS 13) 0
def e_BadStay : ErrD := ⟨"BadStay", "BadStay.__init__", defArgs st_BadStay_init, defBody st_BadStay_init, defScope st_BadStay_init⟩
def d_distinct : He.DefD := ⟨("distinct", none), "distinct", "distinct", defArgs st_distinct, defBody st_distinct, defScope st_distinct, [], []⟩
def d_check_stays : He.DefD := ⟨("check_stays", none), "check_stays", "check_stays", defArgs st_check_stays, defBody st_check_stays, defScope st_check_stays, [], []⟩
def d_laid : He.DefD := ⟨("laid", none), "laid", "laid", defArgs st_laid, defBody st_laid, defScope st_laid, [], []⟩
def d_pieces : He.DefD := ⟨("pieces", none), "pieces", "pieces", defArgs st_pieces, defBody st_pieces, defScope st_pieces, [], []⟩
def d_sums_of : He.DefD := ⟨("sums_of", none), "sums_of", "sums_of", defArgs st_sums_of, defBody st_sums_of, defScope st_sums_of, [], []⟩
def d_check_ring : He.DefD := ⟨("check_ring", none), "check_ring", "check_ring", defArgs st_check_ring, defBody st_check_ring, defScope st_check_ring, [], []⟩
def d_Ring_init : He.DefD := ⟨("Ring", some "__init__"), "__init__", "Ring.__init__", defArgs st_Ring_init, defBody st_Ring_init, defScope st_Ring_init, [], [("nodes", .non)]⟩
def d_Ring_whole : He.DefD := ⟨("Ring", some "whole"), "whole", "Ring.whole", defArgs st_Ring_whole, defBody st_Ring_whole, defScope st_Ring_whole, [], []⟩
def d_piece_price : He.DefD := ⟨("piece_price", none), "piece_price", "piece_price", defArgs st_piece_price, defBody st_piece_price, defScope st_piece_price, [], []⟩
def d_laid_price : He.DefD := ⟨("laid_price", none), "laid_price", "laid_price", defArgs st_laid_price, defBody st_laid_price, defScope st_laid_price, [], []⟩
def d_union_price : He.DefD := ⟨("union_price", none), "union_price", "union_price", defArgs st_union_price, defBody st_union_price, defScope st_union_price, [], []⟩
def d_union_beats : He.DefD := ⟨("union_beats", none), "union_beats", "union_beats", defArgs st_union_beats, defBody st_union_beats, defScope st_union_beats, [], []⟩
def d_least_laying : He.DefD := ⟨("least_laying", none), "least_laying", "least_laying", defArgs st_least_laying, defBody st_least_laying, defScope st_least_laying, [], []⟩
def d_l_cell : He.DefD := ⟨("_law_cell", none), "_law_cell", "_law_cell", defArgs st_l_cell, defBody st_l_cell, defScope st_l_cell, [], []⟩
def d_l_digits : He.DefD := ⟨("_law_digits", none), "_law_digits", "_law_digits", defArgs st_l_digits, defBody st_l_digits, defScope st_l_digits, [], []⟩
def d_l_seed : He.DefD := ⟨("_law_seed", none), "_law_seed", "_law_seed", defArgs st_l_seed, defBody st_l_seed, defScope st_l_seed, [], []⟩
def d_l_prefix : He.DefD := ⟨("_law_prefix", none), "_law_prefix", "_law_prefix", defArgs st_l_prefix, defBody st_l_prefix, defScope st_l_prefix, [], []⟩
def d_l_is_int : He.DefD := ⟨("_law_is_int", none), "_law_is_int", "_law_is_int", defArgs st_l_is_int, defBody st_l_is_int, defScope st_l_is_int, [], []⟩
def d_l_ints : He.DefD := ⟨("_law_ints", none), "_law_ints", "_law_ints", defArgs st_l_ints, defBody st_l_ints, defScope st_l_ints, [], []⟩
def d_l_prices : He.DefD := ⟨("_law_prices", none), "_law_prices", "_law_prices", defArgs st_l_prices, defBody st_l_prices, defScope st_l_prices, [], []⟩
def d_l_gates : He.DefD := ⟨("_law_gates", none), "_law_gates", "_law_gates", defArgs st_l_gates, defBody st_l_gates, defScope st_l_gates, [], []⟩
def d_l_drawn : He.DefD := ⟨("_law_drawn", none), "_law_drawn", "_law_drawn", defArgs st_l_drawn, defBody st_l_drawn, defScope st_l_drawn, [], []⟩
def d_l_laid_beats : He.DefD := ⟨("_law_laid_beats", none), "_law_laid_beats", "_law_laid_beats", defArgs st_l_laid_beats, defBody st_l_laid_beats, defScope st_l_laid_beats, [], []⟩
def d_l_ring : He.DefD := ⟨("_law_ring", none), "_law_ring", "_law_ring", defArgs st_l_ring, defBody st_l_ring, defScope st_l_ring, [], []⟩
def d_l_right : He.DefD := ⟨("_law_right", none), "_law_right", "_law_right", defArgs st_l_right, defBody st_l_right, defScope st_l_right, [], []⟩
def d_l_bad : He.DefD := ⟨("_law_bad", none), "_law_bad", "_law_bad", defArgs st_l_bad, defBody st_l_bad, defScope st_l_bad, [], []⟩
def d_l_first_bad : He.DefD := ⟨("_law_first_bad", none), "_law_first_bad", "_law_first_bad", defArgs st_l_first_bad, defBody st_l_first_bad, defScope st_l_first_bad, [], []⟩
def d_l_told_place : He.DefD := ⟨("_law_told_place", none), "_law_told_place", "_law_told_place", defArgs st_l_told_place, defBody st_l_told_place, defScope st_l_told_place, [], []⟩
def d_law : He.DefD := ⟨("law", none), "law", "law", defArgs st_law, defBody st_law, defScope st_law, [], []⟩
def fn : List He.DefD := [d_distinct, d_check_stays, d_laid, d_pieces, d_sums_of, d_check_ring, d_Ring_init, d_Ring_whole, d_piece_price, d_laid_price, d_union_price, d_union_beats, d_least_laying, d_l_cell, d_l_digits, d_l_seed, d_l_prefix, d_l_is_int, d_l_ints, d_l_prices, d_l_gates, d_l_drawn, d_l_laid_beats, d_l_ring, d_l_right, d_l_bad, d_l_first_bad, d_l_told_place, d_law]
def fa0 : List He.Fa := [.free "ValueError", .free "abs", .free "bool", .free "enumerate", .free "int", .free "isinstance", .free "len", .free "list", .free "max", .free "min", .free "range", .free "set", .free "sorted", .free "sum", .free "super", .free "tuple", .glo "Ring", .cls "Ring", .mkr "Ring", .noat "Ring" "_sums", .noat "Ring" "doors", .noat "Ring" "nodes", .noat "Ring" "prices", .noat "Ring" "size", .glo "distinct", .glo "check_stays", .glo "laid", .glo "pieces", .glo "sums_of", .glo "check_ring", .meth "Ring" "whole", .glo "piece_price", .glo "laid_price", .glo "union_price", .glo "union_beats"]
def fa1 : List He.Fa := [.glo "least_laying", .glo "_law_cell", .glo "_law_digits", .glo "_law_seed", .glo "_law_prefix", .glo "_law_is_int", .glo "_law_ints", .glo "_law_prices", .glo "_law_gates", .glo "_law_drawn", .glo "_law_laid_beats", .glo "_law_ring", .glo "_law_right", .glo "_law_bad", .glo "_law_first_bad", .glo "_law_told_place", .glo "law"]
def fa : List He.Fa := fa0 ++ (fa1)
def faE : List He.Fa := [.glo "BadChange", .glo "BadDoors", .glo "BadNode", .glo "BadOrder", .glo "BadRing", .glo "BadRun", .glo "BadStart", .glo "BadStay", .glo "BadWord", .glo "BareLoop", .glo "DeskError", .glo "ForeworthError", .glo "Incomplete", .glo "MixedGraphs", .glo "NoEnd", .glo "NoWild", .glo "NotOver", .glo "NotStanding", .glo "TextError", .glo "TooLarge", .glo "Unreachable", .glo "WildProgram"]
def faA : List He.Fa := faE ++ fa
def exB (K : PySem.W.Frag) : Bool := (errB K (He.ga K "BadStay") && (decide (PySem.W.findIn K (.ref (He.ga K "BadStay")) "place" = some none) && (decide (PySem.W.kitOne K (.ref (He.ga K "BadStay")) (.ref (He.ga K "BadChange")) = some false) && (decide (PySem.W.kitOne K (.ref (He.ga K "BadStay")) (.ref (He.ga K "BadDoors")) = some false) && (decide (PySem.W.kitOne K (.ref (He.ga K "BadStay")) (.ref (He.ga K "BadNode")) = some false) && (decide (PySem.W.kitOne K (.ref (He.ga K "BadStay")) (.ref (He.ga K "BadOrder")) = some false) && (decide (PySem.W.kitOne K (.ref (He.ga K "BadStay")) (.ref (He.ga K "BadRing")) = some false) && (decide (PySem.W.kitOne K (.ref (He.ga K "BadStay")) (.ref (He.ga K "BadRun")) = some false) && (decide (PySem.W.kitOne K (.ref (He.ga K "BadStay")) (.ref (He.ga K "BadStart")) = some false) && (decide (PySem.W.kitOne K (.ref (He.ga K "BadStay")) (.ref (He.ga K "BadStay")) = some true) && (decide (PySem.W.kitOne K (.ref (He.ga K "BadStay")) (.ref (He.ga K "BadWord")) = some false) && (decide (PySem.W.kitOne K (.ref (He.ga K "BadStay")) (.ref (He.ga K "BareLoop")) = some false) && (decide (PySem.W.kitOne K (.ref (He.ga K "BadStay")) (.ref (He.ga K "DeskError")) = some false) && (decide (PySem.W.kitOne K (.ref (He.ga K "BadStay")) (.ref (He.ga K "Incomplete")) = some false) && (decide (PySem.W.kitOne K (.ref (He.ga K "BadStay")) (.ref (He.ga K "MixedGraphs")) = some false) && (decide (PySem.W.kitOne K (.ref (He.ga K "BadStay")) (.ref (He.ga K "NoEnd")) = some false) && (decide (PySem.W.kitOne K (.ref (He.ga K "BadStay")) (.ref (He.ga K "NoWild")) = some false) && (decide (PySem.W.kitOne K (.ref (He.ga K "BadStay")) (.ref (He.ga K "NotOver")) = some false) && (decide (PySem.W.kitOne K (.ref (He.ga K "BadStay")) (.ref (He.ga K "NotStanding")) = some false) && (decide (PySem.W.kitOne K (.ref (He.ga K "BadStay")) (.ref (He.ga K "TextError")) = some false) && (decide (PySem.W.kitOne K (.ref (He.ga K "BadStay")) (.ref (He.ga K "TooLarge")) = some false) && (decide (PySem.W.kitOne K (.ref (He.ga K "BadStay")) (.ref (He.ga K "Unreachable")) = some false) && (decide (PySem.W.kitOne K (.ref (He.ga K "BadStay")) (.type "ValueError") = some true) && (decide (PySem.W.kitOne K (.ref (He.ga K "BadStay")) (.ref (He.ga K "WildProgram")) = some false) && (decide (PySem.W.exmOne K (.ref (He.ga K "BadStay")) (.ref (He.ga K "ForeworthError")) = some true) && true)))))))))))))))))))))))))
def esL : List ErrD := [e_BadStay]
def names0 : List PySem.Str := ["_wall", "ForeworthError", "BadNode", "Unreachable", "NoEnd", "BadRing", "TextError", "BareLoop", "BadStart", "BadRun", "NotStanding", "Incomplete", "BadStay", "TooLarge", "WildProgram", "NoWild", "BadWord", "BadChange", "BadDoors", "BadOrder", "MixedGraphs", "NotOver", "DeskError", "distinct", "check_stays", "laid", "pieces", "piece_price", "laid_price", "union_price"]
def names1 : List PySem.Str := ["union_beats", "least_laying", "Ring", "check_ring", "sums_of", "_law_cell", "_law_digits", "_law_seed", "_law_prefix", "_law_is_int", "_law_ints", "_law_prices", "_law_gates", "_law_drawn", "_law_laid_beats", "_law_ring", "_law_right", "_law_bad", "_law_first_bad", "_law_told_place"]
def names : List PySem.Str := names0 ++ (names1)
abbrev R : PySem.W.OpenRow := PySem.W.OpenLaw.row PySem.Challenge.rw_foreworth_k16_unions
abbrev hk : PySem.W.Hook := hookE 5 file faA fn esL exB
def ob (s : PySem.W.SharedT) : He.AlD := obsEG 5 file faA fn esL exB (HandSHeadRun.getT s)
theorem ob_eq (s : PySem.W.SharedT) : ob s = hk.obs s.abs := obsEG_eq (HandSHeadRun.getT_eq s)
theorem run (w : World) : HandSHeadRun.RunEq R (PySem.W.view R.prog [55]) hk ob 9000 names w := by
  intro os
  kernel_rfl
end K16

set_option Elab.async false
set_option linter.all false
set_option maxRecDepth 100000
set_option maxHeartbeats 4000000
/-! G1: plain data over the abstract heap; shared and owned trees; the state of a body. -/
namespace G
open PySem L2

/-- plain data: what a Python value is worth, without addresses -/
inductive D where
  | non | bl (b : Bool) | int (i : Int) | str (s : Str) | ty (n : String) | ref (a : Addr)
  | lst (xs : List D) | tup (xs : List D) | scr (ns : List Int)
  | tpi (ns : List Int)
  | dic (ks : List Key) (xs : List D)
  | dit (ks : List (List Key)) (xs : List D)
  | obj (C : Addr) (ns : List Str) (xs : List D)
  | exc (a : Addr) (d : Option Addr) (c : Value) (ns : List Str) (xs : List D)

mutual
/-- d stands at v, all of it in F -/
def Rep (K : PySem.W.Frag) (F : Hp) : D → V → Prop
  | .non, v => v = .non
  | .bl b, v => v = .bl b
  | .int i, v => v = .int i
  | .str s, v => v = .str s
  | .ty n, v => v = .ty n
  | .ref a, v => v = .ref a
  | .lst ds, v => ∃ p vs, v = .ref p ∧ F p = some (.lst vs) ∧ Reps K F ds vs
  | .scr ns, v => ∃ p, v = .ref p ∧ SqL K F p (ns.map V.int)
  | .tpi ns, v => ∃ p o, v = .ref p ∧ F p = some (.frz o (.tup (ns.map V.int))) ∧ o.dict = none
  | .tup ds, v => ∃ p vs, v = .ref p ∧ F p = some (.tup vs) ∧ Reps K F ds vs
  | .dic ks ds, v => ∃ p vs, v = .ref p ∧ Rd F p (.dK (ks.zip vs)) ∧ ks.length = ds.length ∧ Reps K F ds vs
  | .dit ks ds, v => ∃ p vs, v = .ref p ∧ Rd F p (.dT (ks.zip vs)) ∧ ks.length = ds.length ∧ Reps K F ds vs
  | .obj C ns ds, v => ∃ p dx vs, v = .ref p ∧ F p = some (.ins C dx (ns.zip vs)) ∧ ns.length = ds.length ∧ Reps K F ds vs
  | .exc a d _ ns ds, v => v = .ref a ∧ ((ns = [] ∧ d = none) ∨ ∃ p vs, d = some p ∧ F p = some (.xd (ns.zip vs)) ∧ ns.length = ds.length ∧ Reps K F ds vs)
def Reps (K : PySem.W.Frag) (F : Hp) : List D → List V → Prop
  | [], vs => vs = []
  | d :: ds, vs => ∃ x r, vs = x :: r ∧ Rep K F d x ∧ Reps K F ds r
end

/-- how a thing is held: shared (never written any more); a container of one's own with items held so; an instance of one's own, its fields held so -/
inductive M where
  | sh | el (m : M) | ob (ms : List M)

mutual
def RepM (K : PySem.W.Frag) (F H : Hp) : D → M → V → List Addr → Prop
  | .lst ds, .el m, v, fp => ∃ p vs fq, v = .ref p ∧ fp = p :: fq ∧ H p = some (.lst vs) ∧ RepMs K F H ds m vs fq
  | .tup ds, .el m, v, fp => ∃ p vs fq, v = .ref p ∧ fp = p :: fq ∧ H p = some (.tup vs) ∧ RepMs K F H ds m vs fq
  | .dic ks ds, .el m, v, fp => ∃ p vs fq, v = .ref p ∧ fp = p :: fq ∧ H p = some (.dK (ks.zip vs)) ∧ ks.length = ds.length ∧ RepMs K F H ds m vs fq
  | .dit ks ds, .el m, v, fp => ∃ p vs fq, v = .ref p ∧ fp = p :: fq ∧ H p = some (.dT (ks.zip vs)) ∧ ks.length = ds.length ∧ RepMs K F H ds m vs fq
  | .obj C ns ds, .ob ms, v, fp => ∃ p dx vs fq, v = .ref p ∧ fp = p :: dx :: fq ∧ H p = some (.ins C dx (ns.zip vs)) ∧ H dx = some (.own p) ∧ ns.length = ds.length ∧ RepMz K F H ds ms vs fq
  | d, _, v, fp => fp = [] ∧ Rep K F d v
def RepMs (K : PySem.W.Frag) (F H : Hp) : List D → M → List V → List Addr → Prop
  | [], _, vs, fp => vs = [] ∧ fp = []
  | d :: ds, m, vs, fp => ∃ x r f1 f2, vs = x :: r ∧ fp = f1 ++ f2 ∧ RepM K F H d m x f1 ∧ RepMs K F H ds m r f2
def RepMz (K : PySem.W.Frag) (F H : Hp) : List D → List M → List V → List Addr → Prop
  | [], _, vs, fp => vs = [] ∧ fp = []
  | d :: ds, [], vs, fp => ∃ x r f1 f2, vs = x :: r ∧ fp = f1 ++ f2 ∧ RepM K F H d .sh x f1 ∧ RepMz K F H ds [] r f2
  | d :: ds, m :: ms, vs, fp => ∃ x r f1 f2, vs = x :: r ∧ fp = f1 ++ f2 ∧ RepM K F H d m x f1 ∧ RepMz K F H ds ms r f2
end

/-! ### one heap within another -/
def isDic : HO → Bool
  | .dK _ => true
  | .dT _ => true
  | _ => false
/-- F is what is shared of H: as it stands there; a dict may be locked -/
def Sub (F H : Hp) : Prop := ∀ a u, F a = some u → H a = some u ∨ (isDic u = true ∧ ∃ o, H a = some (.frz o u))
theorem Sub.refl (H : Hp) : Sub H H := fun _ _ h => .inl h
theorem Sub.of {F H : Hp} (h : Same F H) : Sub F H := fun a u e => .inl (h a u e)
theorem Sub.rd {F H : Hp} (s : Sub F H) {a : Addr} {u : HO} (h : Rd F a u) : Rd H a u := by
  rcases h with h | ⟨o, h⟩
  · rcases s a u h with q | ⟨_, o, q⟩
    · exact .inl q
    · exact .inr ⟨o, q⟩
  · rcases s a _ h with q | ⟨d, _⟩
    · exact .inr ⟨o, q⟩
    · cases d
theorem Sub.lst {K : PySem.W.Frag} {F H : Hp} (s : Sub F H) {a : Addr} {xs : List V} (h : SqL K F a xs) : SqL K H a xs := by
  rcases h with h | h
  · exact .inl (s.rd h)
  · exact .inr h
theorem Sub.tup {K : PySem.W.Frag} {F H : Hp} (s : Sub F H) {a : Addr} {xs : List V} (h : SqT K F a xs) : SqT K H a xs := by
  rcases h with h | h
  · exact .inl (s.rd h)
  · exact .inr h
theorem Sub.ins {F H : Hp} (s : Sub F H) {a C dx : Addr} {fs : List (Str × V)} (h : F a = some (.ins C dx fs)) : H a = some (.ins C dx fs) := by
  rcases s a _ h with q | ⟨d, _⟩
  · exact q
  · cases d
theorem Sub.lstX {F H : Hp} (s : Sub F H) {a : Addr} {xs : List V} (h : F a = some (.lst xs)) : H a = some (.lst xs) := by
  rcases s a _ h with q | ⟨d, _⟩
  · exact q
  · cases d
theorem Sub.tupX {F H : Hp} (s : Sub F H) {a : Addr} {xs : List V} (h : F a = some (.tup xs)) : H a = some (.tup xs) := by
  rcases s a _ h with q | ⟨d, _⟩
  · exact q
  · cases d
theorem Sub.frz {F H : Hp} (s : Sub F H) {a : Addr} {o : Obj} {u : HO} (h : F a = some (.frz o u)) : H a = some (.frz o u) := by
  rcases s a _ h with q | ⟨d, _⟩
  · exact q
  · cases d
theorem Sub.xd {F H : Hp} (s : Sub F H) {a : Addr} {fs : List (Str × V)} (h : F a = Option.some (.xd fs)) : H a = Option.some (.xd fs) := by
  rcases s a _ h with q | ⟨d, _⟩
  · exact q
  · cases d
theorem Sub.some {F H : Hp} (s : Sub F H) {a : Addr} {u : HO} (h : F a = some u) : H a ≠ none := by
  rcases s a u h with q | ⟨_, o, q⟩ <;> rw [q] <;> simp

mutual
theorem Rep.sub {K : PySem.W.Frag} {F H : Hp} (s : Sub F H) : ∀ {d : D} {v : V}, Rep K F d v → Rep K H d v
  | .non, _, h => h
  | .bl _, _, h => h
  | .int _, _, h => h
  | .str _, _, h => h
  | .ty _, _, h => h
  | .ref _, _, h => h
  | .lst ds, v, ⟨p, vs, e, q, r⟩ => ⟨p, vs, e, s.lstX q, Reps.sub s r⟩
  | .scr ns, v, ⟨p, e, q⟩ => ⟨p, e, s.lst q⟩
  | .tpi ns, v, ⟨p, o, e, q, z⟩ => ⟨p, o, e, s.frz q, z⟩
  | .tup ds, v, ⟨p, vs, e, q, r⟩ => ⟨p, vs, e, s.tupX q, Reps.sub s r⟩
  | .dic ks ds, v, ⟨p, vs, e, q, l, r⟩ => ⟨p, vs, e, s.rd q, l, Reps.sub s r⟩
  | .dit ks ds, v, ⟨p, vs, e, q, l, r⟩ => ⟨p, vs, e, s.rd q, l, Reps.sub s r⟩
  | .obj C ns ds, v, ⟨p, dx, vs, e, q, l, r⟩ => ⟨p, dx, vs, e, s.ins q, l, Reps.sub s r⟩
  | .exc a d c ns ds, v, ⟨e, h⟩ => ⟨e, h.imp id fun ⟨p, vs, e1, q, l, r⟩ => ⟨p, vs, e1, s.xd q, l, Reps.sub s r⟩⟩
theorem Reps.sub {K : PySem.W.Frag} {F H : Hp} (s : Sub F H) : ∀ {ds : List D} {vs : List V}, Reps K F ds vs → Reps K H ds vs
  | [], _, h => h
  | d :: ds, vs, ⟨x, r, e, h1, h2⟩ => ⟨x, r, e, Rep.sub s h1, Reps.sub s h2⟩
end

theorem Reps.length {K : PySem.W.Frag} {F : Hp} : ∀ {ds : List D} {vs : List V}, Reps K F ds vs → vs.length = ds.length
  | [], _, h => by rw [show _ = [] from h]; rfl
  | d :: ds, vs, ⟨x, r, e, _, h2⟩ => by rw [e, List.length_cons, List.length_cons, Reps.length h2]
theorem Reps.get {K : PySem.W.Frag} {F : Hp} : ∀ {ds : List D} {vs : List V}, Reps K F ds vs → ∀ {i : Nat} {d : D}, ds[i]? = some d → ∃ v, vs[i]? = some v ∧ Rep K F d v
  | [], _, _, i, d, e => by simp at e
  | c :: ds, vs, ⟨x, r, e, h1, h2⟩, 0, d, q => by
    have : c = d := Option.some.inj q
    subst this; subst e
    exact ⟨x, rfl, h1⟩
  | c :: ds, vs, ⟨x, r, e, h1, h2⟩, i + 1, d, q => by
    subst e
    exact Reps.get h2 (i := i) q
theorem Reps.getV {K : PySem.W.Frag} {F : Hp} : ∀ {ds : List D} {vs : List V}, Reps K F ds vs → ∀ {i : Nat} {v : V}, vs[i]? = some v → ∃ d, ds[i]? = some d ∧ Rep K F d v
  | [], vs, h, i, v, e => by
    rw [show vs = [] from h] at e
    simp at e
  | c :: ds, vs, ⟨x, r, e, h1, h2⟩, 0, v, q => by
    subst e
    have : x = v := Option.some.inj q
    subst this
    exact ⟨c, rfl, h1⟩
  | c :: ds, vs, ⟨x, r, e, h1, h2⟩, i + 1, v, q => by
    subst e
    exact Reps.getV h2 (i := i) q
theorem Reps.append {K : PySem.W.Frag} {F : Hp} : ∀ {ds es : List D} {vs ws : List V}, Reps K F ds vs → Reps K F es ws → Reps K F (ds ++ es) (vs ++ ws)
  | [], es, vs, ws, h, g => by rw [show vs = [] from h]; exact g
  | d :: ds, es, vs, ws, ⟨x, r, e, h1, h2⟩, g => by subst e; exact ⟨x, r ++ ws, rfl, h1, Reps.append h2 g⟩
theorem Reps.one {K : PySem.W.Frag} {F : Hp} {d : D} {v : V} (h : Rep K F d v) : Reps K F [d] [v] := ⟨v, [], rfl, h, rfl⟩
theorem Reps.set {K : PySem.W.Frag} {F : Hp} {d : D} {v : V} (h : Rep K F d v) : ∀ {ds : List D} {vs : List V} (i : Nat), Reps K F ds vs → Reps K F (ds.set i d) (vs.set i v)
  | [], vs, i, q => by rw [show vs = [] from q]; exact rfl
  | c :: ds, vs, 0, ⟨x, r, e, h1, h2⟩ => by subst e; exact ⟨v, r, rfl, h, h2⟩
  | c :: ds, vs, i + 1, ⟨x, r, e, h1, h2⟩ => by subst e; exact ⟨x, r.set i v, rfl, h1, Reps.set h i h2⟩
theorem Reps.reverse {K : PySem.W.Frag} {F : Hp} : ∀ {ds : List D} {vs : List V}, Reps K F ds vs → Reps K F ds.reverse vs.reverse
  | [], vs, h => by rw [show vs = [] from h]; exact rfl
  | d :: ds, vs, ⟨x, r, e, h1, h2⟩ => by
    subst e
    rw [List.reverse_cons, List.reverse_cons]
    exact (Reps.reverse h2).append (.one h1)
theorem Reps.take {K : PySem.W.Frag} {F : Hp} : ∀ {ds : List D} {vs : List V} (n : Nat), Reps K F ds vs → Reps K F (ds.take n) (vs.take n)
  | _, _, 0, _ => by simp only [List.take_zero]; exact rfl
  | [], vs, n + 1, h => by rw [show vs = [] from h]; exact rfl
  | d :: ds, vs, n + 1, ⟨x, r, e, h1, h2⟩ => by subst e; exact ⟨x, r.take n, rfl, h1, Reps.take n h2⟩
theorem Reps.drop {K : PySem.W.Frag} {F : Hp} : ∀ {ds : List D} {vs : List V} (n : Nat), Reps K F ds vs → Reps K F (ds.drop n) (vs.drop n)
  | _, _, 0, h => h
  | [], vs, n + 1, h => by rw [show vs = [] from h]; exact rfl
  | d :: ds, vs, n + 1, ⟨x, r, e, h1, h2⟩ => by subst e; exact Reps.drop n h2
theorem Reps.ints {K : PySem.W.Frag} {F : Hp} : ∀ {ns : List Int} {vs : List V}, Reps K F (ns.map D.int) vs ↔ vs = ns.map V.int
  | [], vs => Iff.rfl
  | n :: ns, vs => by
    constructor
    · rintro ⟨x, r, e, h1, h2⟩
      rw [e, show x = .int n from h1, Reps.ints.mp h2]
      rfl
    · intro e
      exact ⟨.int n, ns.map V.int, e, rfl, Reps.ints.mpr rfl⟩

/-! ### owned trees -/
theorem RepM.sh {K : PySem.W.Frag} {F H : Hp} {d : D} {v : V} {fp : List Addr} : RepM K F H d .sh v fp ↔ fp = [] ∧ Rep K F d v := by
  cases d <;> simp only [RepM]

mutual
/-- the owned addresses are tracked -/
theorem RepM.dom {K : PySem.W.Frag} {F H : Hp} : ∀ {d : D} {m : M} {v : V} {fp : List Addr}, RepM K F H d m v fp → ∀ a ∈ fp, H a ≠ none := by
  intro d m v fp h a ha
  cases d with
  | lst ds =>
    cases m with
    | el m =>
      obtain ⟨p, vs, fq, _, e, q, r⟩ := (show ∃ p vs fq, v = .ref p ∧ fp = p :: fq ∧ H p = some (.lst vs) ∧ RepMs K F H ds m vs fq by simpa only [RepM] using h)
      rw [e] at ha
      rcases List.mem_cons.mp ha with z | z
      · rw [z, q]; simp
      · exact RepMs.dom r a z
    | _ => simp only [RepM] at h; rw [h.1] at ha; cases ha
  | tup ds =>
    cases m with
    | el m =>
      obtain ⟨p, vs, fq, _, e, q, r⟩ := (show ∃ p vs fq, v = .ref p ∧ fp = p :: fq ∧ H p = some (.tup vs) ∧ RepMs K F H ds m vs fq by simpa only [RepM] using h)
      rw [e] at ha
      rcases List.mem_cons.mp ha with z | z
      · rw [z, q]; simp
      · exact RepMs.dom r a z
    | _ => simp only [RepM] at h; rw [h.1] at ha; cases ha
  | dic ks ds =>
    cases m with
    | el m =>
      obtain ⟨p, vs, fq, _, e, q, _, r⟩ := (show ∃ p vs fq, v = .ref p ∧ fp = p :: fq ∧ H p = some (.dK (ks.zip vs)) ∧ ks.length = ds.length ∧ RepMs K F H ds m vs fq by simpa only [RepM] using h)
      rw [e] at ha
      rcases List.mem_cons.mp ha with z | z
      · rw [z, q]; simp
      · exact RepMs.dom r a z
    | _ => simp only [RepM] at h; rw [h.1] at ha; cases ha
  | dit ks ds =>
    cases m with
    | el m =>
      obtain ⟨p, vs, fq, _, e, q, _, r⟩ := (show ∃ p vs fq, v = .ref p ∧ fp = p :: fq ∧ H p = some (.dT (ks.zip vs)) ∧ ks.length = ds.length ∧ RepMs K F H ds m vs fq by simpa only [RepM] using h)
      rw [e] at ha
      rcases List.mem_cons.mp ha with z | z
      · rw [z, q]; simp
      · exact RepMs.dom r a z
    | _ => simp only [RepM] at h; rw [h.1] at ha; cases ha
  | obj C ns ds =>
    cases m with
    | ob ms =>
      obtain ⟨p, dx, vs, fq, _, e, q, q2, _, r⟩ := (show ∃ p dx vs fq, v = .ref p ∧ fp = p :: dx :: fq ∧ H p = some (.ins C dx (ns.zip vs)) ∧ H dx = some (.own p) ∧ ns.length = ds.length ∧ RepMz K F H ds ms vs fq by simpa only [RepM] using h)
      rw [e] at ha
      rcases List.mem_cons.mp ha with z | z
      · rw [z, q]; simp
      · rcases List.mem_cons.mp z with z | z
        · rw [z, q2]; simp
        · exact RepMz.dom r a z
    | _ => simp only [RepM] at h; rw [h.1] at ha; cases ha
  | _ => simp only [RepM] at h; rw [h.1] at ha; cases ha
theorem RepMs.dom {K : PySem.W.Frag} {F H : Hp} : ∀ {ds : List D} {m : M} {vs : List V} {fp : List Addr}, RepMs K F H ds m vs fp → ∀ a ∈ fp, H a ≠ none
  | [], m, vs, fp, h, a, ha => by
    simp only [RepMs] at h
    rw [h.2] at ha; cases ha
  | d :: ds, m, vs, fp, h, a, ha => by
    simp only [RepMs] at h
    obtain ⟨x, r, f1, f2, _, e, h1, h2⟩ := h
    rw [e] at ha
    rcases List.mem_append.mp ha with z | z
    · exact RepM.dom h1 a z
    · exact RepMs.dom h2 a z
theorem RepMz.dom {K : PySem.W.Frag} {F H : Hp} : ∀ {ds : List D} {ms : List M} {vs : List V} {fp : List Addr}, RepMz K F H ds ms vs fp → ∀ a ∈ fp, H a ≠ none
  | [], m, vs, fp, h, a, ha => by
    simp only [RepMz] at h
    rw [h.2] at ha; cases ha
  | d :: ds, [], vs, fp, h, a, ha => by
    simp only [RepMz] at h
    obtain ⟨x, r, f1, f2, _, e, h1, h2⟩ := h
    rw [e] at ha
    rcases List.mem_append.mp ha with z | z
    · exact RepM.dom h1 a z
    · exact RepMz.dom h2 a z
  | d :: ds, m :: ms, vs, fp, h, a, ha => by
    simp only [RepMz] at h
    obtain ⟨x, r, f1, f2, _, e, h1, h2⟩ := h
    rw [e] at ha
    rcases List.mem_append.mp ha with z | z
    · exact RepM.dom h1 a z
    · exact RepMz.dom h2 a z
end
mutual
theorem RepM.mono {K : PySem.W.Frag} {F H F' H' : Hp} (s : Sub F F') : ∀ {d : D} {m : M} {v : V} {fp : List Addr}, RepM K F H d m v fp → (∀ a ∈ fp, H' a = H a) → RepM K F' H' d m v fp := by
  intro d m v fp h k
  cases d with
  | lst ds =>
    cases m with
    | el m =>
      obtain ⟨p, vs, fq, ev, e, q, r⟩ := h
      subst e
      exact ⟨p, vs, fq, ev, rfl, (k p List.mem_cons_self).trans q, RepMs.mono s r fun a ha => k a (List.mem_cons_of_mem _ ha)⟩
    | _ => exact ⟨h.1, h.2.sub s⟩
  | tup ds =>
    cases m with
    | el m =>
      obtain ⟨p, vs, fq, ev, e, q, r⟩ := h
      subst e
      exact ⟨p, vs, fq, ev, rfl, (k p List.mem_cons_self).trans q, RepMs.mono s r fun a ha => k a (List.mem_cons_of_mem _ ha)⟩
    | _ => exact ⟨h.1, h.2.sub s⟩
  | dic ks ds =>
    cases m with
    | el m =>
      obtain ⟨p, vs, fq, ev, e, q, l, r⟩ := h
      subst e
      exact ⟨p, vs, fq, ev, rfl, (k p List.mem_cons_self).trans q, l, RepMs.mono s r fun a ha => k a (List.mem_cons_of_mem _ ha)⟩
    | _ => exact ⟨h.1, h.2.sub s⟩
  | dit ks ds =>
    cases m with
    | el m =>
      obtain ⟨p, vs, fq, ev, e, q, l, r⟩ := h
      subst e
      exact ⟨p, vs, fq, ev, rfl, (k p List.mem_cons_self).trans q, l, RepMs.mono s r fun a ha => k a (List.mem_cons_of_mem _ ha)⟩
    | _ => exact ⟨h.1, h.2.sub s⟩
  | obj C ns ds =>
    cases m with
    | ob ms =>
      obtain ⟨p, dx, vs, fq, ev, e, q, q2, l, r⟩ := h
      subst e
      exact ⟨p, dx, vs, fq, ev, rfl, (k p List.mem_cons_self).trans q, (k dx (List.mem_cons_of_mem _ List.mem_cons_self)).trans q2, l, RepMz.mono s r fun a ha => k a (List.mem_cons_of_mem _ (List.mem_cons_of_mem _ ha))⟩
    | _ => exact ⟨h.1, h.2.sub s⟩
  | _ => exact ⟨h.1, h.2.sub s⟩
theorem RepMs.mono {K : PySem.W.Frag} {F H F' H' : Hp} (s : Sub F F') : ∀ {ds : List D} {m : M} {vs : List V} {fp : List Addr}, RepMs K F H ds m vs fp → (∀ a ∈ fp, H' a = H a) → RepMs K F' H' ds m vs fp
  | [], m, vs, fp, h, k => h
  | d :: ds, m, vs, fp, ⟨x, r, f1, f2, ev, e, h1, h2⟩, k => ⟨x, r, f1, f2, ev, e, RepM.mono s h1 fun a ha => k a (by rw [e]; exact List.mem_append_left _ ha), RepMs.mono s h2 fun a ha => k a (by rw [e]; exact List.mem_append_right _ ha)⟩
theorem RepMz.mono {K : PySem.W.Frag} {F H F' H' : Hp} (s : Sub F F') : ∀ {ds : List D} {ms : List M} {vs : List V} {fp : List Addr}, RepMz K F H ds ms vs fp → (∀ a ∈ fp, H' a = H a) → RepMz K F' H' ds ms vs fp
  | [], [], vs, fp, h, k => h
  | [], _ :: _, vs, fp, h, k => h
  | d :: ds, [], vs, fp, ⟨x, r, f1, f2, ev, e, h1, h2⟩, k => ⟨x, r, f1, f2, ev, e, RepM.mono s h1 fun a ha => k a (by rw [e]; exact List.mem_append_left _ ha), RepMz.mono s h2 fun a ha => k a (by rw [e]; exact List.mem_append_right _ ha)⟩
  | d :: ds, m :: ms, vs, fp, ⟨x, r, f1, f2, ev, e, h1, h2⟩, k => ⟨x, r, f1, f2, ev, e, RepM.mono s h1 fun a ha => k a (by rw [e]; exact List.mem_append_left _ ha), RepMz.mono s h2 fun a ha => k a (by rw [e]; exact List.mem_append_right _ ha)⟩
end

mutual
/-- what is owned may be shared from now on -/
theorem RepM.freeze {K : PySem.W.Frag} {F H F' : Hp} (s : Sub F F') : ∀ {d : D} {m : M} {v : V} {fp : List Addr}, RepM K F H d m v fp → (∀ a ∈ fp, ∀ u, H a = some u → F' a = some u) → Rep K F' d v := by
  intro d m v fp h k
  cases d with
  | lst ds =>
    cases m with
    | el m =>
      obtain ⟨p, vs, fq, ev, e, q, r⟩ := h
      subst e
      exact ⟨p, vs, ev, k p List.mem_cons_self _ q, RepMs.freeze s r fun a ha => k a (List.mem_cons_of_mem _ ha)⟩
    | _ => exact h.2.sub s
  | tup ds =>
    cases m with
    | el m =>
      obtain ⟨p, vs, fq, ev, e, q, r⟩ := h
      subst e
      exact ⟨p, vs, ev, k p List.mem_cons_self _ q, RepMs.freeze s r fun a ha => k a (List.mem_cons_of_mem _ ha)⟩
    | _ => exact h.2.sub s
  | dic ks ds =>
    cases m with
    | el m =>
      obtain ⟨p, vs, fq, ev, e, q, l, r⟩ := h
      subst e
      exact ⟨p, vs, ev, Rd.of (k p List.mem_cons_self _ q), l, RepMs.freeze s r fun a ha => k a (List.mem_cons_of_mem _ ha)⟩
    | _ => exact h.2.sub s
  | dit ks ds =>
    cases m with
    | el m =>
      obtain ⟨p, vs, fq, ev, e, q, l, r⟩ := h
      subst e
      exact ⟨p, vs, ev, Rd.of (k p List.mem_cons_self _ q), l, RepMs.freeze s r fun a ha => k a (List.mem_cons_of_mem _ ha)⟩
    | _ => exact h.2.sub s
  | obj C ns ds =>
    cases m with
    | ob ms =>
      obtain ⟨p, dx, vs, fq, ev, e, q, q2, l, r⟩ := h
      subst e
      exact ⟨p, dx, vs, ev, k p List.mem_cons_self _ q, l, RepMz.freeze s r fun a ha => k a (List.mem_cons_of_mem _ (List.mem_cons_of_mem _ ha))⟩
    | _ => exact h.2.sub s
  | _ => exact h.2.sub s
theorem RepMs.freeze {K : PySem.W.Frag} {F H F' : Hp} (s : Sub F F') : ∀ {ds : List D} {m : M} {vs : List V} {fp : List Addr}, RepMs K F H ds m vs fp → (∀ a ∈ fp, ∀ u, H a = some u → F' a = some u) → Reps K F' ds vs
  | [], m, vs, fp, h, k => h.1
  | d :: ds, m, vs, fp, ⟨x, r, f1, f2, ev, e, h1, h2⟩, k => ⟨x, r, ev, RepM.freeze s h1 fun a ha => k a (by rw [e]; exact List.mem_append_left _ ha), RepMs.freeze s h2 fun a ha => k a (by rw [e]; exact List.mem_append_right _ ha)⟩
theorem RepMz.freeze {K : PySem.W.Frag} {F H F' : Hp} (s : Sub F F') : ∀ {ds : List D} {ms : List M} {vs : List V} {fp : List Addr}, RepMz K F H ds ms vs fp → (∀ a ∈ fp, ∀ u, H a = some u → F' a = some u) → Reps K F' ds vs
  | [], [], vs, fp, h, k => h.1
  | [], _ :: _, vs, fp, h, k => h.1
  | d :: ds, [], vs, fp, ⟨x, r, f1, f2, ev, e, h1, h2⟩, k => ⟨x, r, ev, RepM.freeze s h1 fun a ha => k a (by rw [e]; exact List.mem_append_left _ ha), RepMz.freeze s h2 fun a ha => k a (by rw [e]; exact List.mem_append_right _ ha)⟩
  | d :: ds, m :: ms, vs, fp, ⟨x, r, f1, f2, ev, e, h1, h2⟩, k => ⟨x, r, ev, RepM.freeze s h1 fun a ha => k a (by rw [e]; exact List.mem_append_left _ ha), RepMz.freeze s h2 fun a ha => k a (by rw [e]; exact List.mem_append_right _ ha)⟩
end
theorem RepM.view {K : PySem.W.Frag} {F H : Hp} {d : D} {m : M} {v : V} {fp : List Addr} (h : RepM K F H d m v fp) (s : Sub F H) : Rep K H d v := h.freeze s fun _ _ _ q => q

/-- no object -/
def flat : D → Bool
  | .lst _ => false
  | .tup _ => false
  | .dic _ _ => false
  | .dit _ _ => false
  | .obj _ _ _ => false
  | .exc _ _ _ _ _ => false
  | .scr _ => false
  | .tpi _ => false
  | _ => true
mutual
/-- what is shared of it is no object -/
def leafs : D → M → Bool
  | .lst ds, .el m => leafss ds m
  | .tup ds, .el m => leafss ds m
  | .dic _ ds, .el m => leafss ds m
  | .dit _ ds, .el m => leafss ds m
  | .obj _ _ ds, .ob ms => leafsz ds ms
  | d, _ => flat d
def leafss : List D → M → Bool
  | [], _ => true
  | d :: ds, m => leafs d m && leafss ds m
def leafsz : List D → List M → Bool
  | [], _ => true
  | d :: ds, [] => flat d && leafsz ds []
  | d :: ds, m :: ms => leafs d m && leafsz ds ms
end
theorem Rep.flat {K : PySem.W.Frag} {F F' : Hp} {d : D} {v : V} (h : Rep K F d v) (f : flat d = true) : Rep K F' d v := by
  cases d <;> first
    | exact h
    | cases f
mutual
theorem RepM.leafs {K : PySem.W.Frag} {F H F' : Hp} : ∀ {d : D} {m : M} {v : V} {fp : List Addr}, RepM K F H d m v fp → leafs d m = true → RepM K F' H d m v fp := by
  intro d m v fp h k
  cases d with
  | lst ds =>
    cases m with
    | el m =>
      obtain ⟨p, vs, fq, ev, e, q, r⟩ := h
      exact ⟨p, vs, fq, ev, e, q, RepMs.leafs r k⟩
    | _ => cases k
  | tup ds =>
    cases m with
    | el m =>
      obtain ⟨p, vs, fq, ev, e, q, r⟩ := h
      exact ⟨p, vs, fq, ev, e, q, RepMs.leafs r k⟩
    | _ => cases k
  | dic ks ds =>
    cases m with
    | el m =>
      obtain ⟨p, vs, fq, ev, e, q, l, r⟩ := h
      exact ⟨p, vs, fq, ev, e, q, l, RepMs.leafs r k⟩
    | _ => cases k
  | dit ks ds =>
    cases m with
    | el m =>
      obtain ⟨p, vs, fq, ev, e, q, l, r⟩ := h
      exact ⟨p, vs, fq, ev, e, q, l, RepMs.leafs r k⟩
    | _ => cases k
  | obj C ns ds =>
    cases m with
    | ob ms =>
      obtain ⟨p, dx, vs, fq, ev, e, q, q2, l, r⟩ := h
      exact ⟨p, dx, vs, fq, ev, e, q, q2, l, RepMz.leafs r k⟩
    | _ => cases k
  | _ => exact ⟨h.1, h.2.flat k⟩
theorem RepMs.leafs {K : PySem.W.Frag} {F H F' : Hp} : ∀ {ds : List D} {m : M} {vs : List V} {fp : List Addr}, RepMs K F H ds m vs fp → leafss ds m = true → RepMs K F' H ds m vs fp
  | [], m, vs, fp, h, k => h
  | d :: ds, m, vs, fp, ⟨x, r, f1, f2, ev, e, h1, h2⟩, k => by
    have k' : (leafs d m && leafss ds m) = true := k
    rw [Bool.and_eq_true] at k'
    exact ⟨x, r, f1, f2, ev, e, RepM.leafs h1 k'.1, RepMs.leafs h2 k'.2⟩
theorem RepMz.leafs {K : PySem.W.Frag} {F H F' : Hp} : ∀ {ds : List D} {ms : List M} {vs : List V} {fp : List Addr}, RepMz K F H ds ms vs fp → leafsz ds ms = true → RepMz K F' H ds ms vs fp
  | [], [], vs, fp, h, k => h
  | [], _ :: _, vs, fp, h, k => h
  | d :: ds, [], vs, fp, ⟨x, r, f1, f2, ev, e, h1, h2⟩, k => by
    have k' : (flat d && leafsz ds []) = true := k
    rw [Bool.and_eq_true] at k'
    exact ⟨x, r, f1, f2, ev, e, RepM.sh.mpr ⟨(RepM.sh.mp h1).1, (RepM.sh.mp h1).2.flat k'.1⟩, RepMz.leafs h2 k'.2⟩
  | d :: ds, m :: ms, vs, fp, ⟨x, r, f1, f2, ev, e, h1, h2⟩, k => by
    have k' : (leafs d m && leafsz ds ms) = true := k
    rw [Bool.and_eq_true] at k'
    exact ⟨x, r, f1, f2, ev, e, RepM.leafs h1 k'.1, RepMz.leafs h2 k'.2⟩
end
end G

set_option Elab.async false
set_option linter.all false
set_option maxRecDepth 100000
set_option maxHeartbeats 4000000
/-! G2: what grows, the slots of a body, steps. -/
namespace G
open PySem L2

/-- evaluation writes nothing that stood: it lays new things; what is new may be shared -/
structure Grow (F H F' H' : Hp) : Prop where
  sub : Sub F' H'
  same : Same H H'
  old : ∀ a, H a ≠ none → F' a = F a
theorem Grow.refl {F H : Hp} (s : Sub F H) : Grow F H F H := ⟨s, Same.refl H, fun _ _ => rfl⟩
theorem Same.ne {H H' : Hp} (s : Same H H') {a : Addr} (h : H a ≠ none) : H' a ≠ none := by
  cases e : H a with
  | none => exact absurd e h
  | some u => rw [s a u e]; simp
theorem Same.eq {H H' : Hp} (s : Same H H') {a : Addr} (h : H a ≠ none) : H' a = H a := by
  cases e : H a with
  | none => exact absurd e h
  | some u => exact s a u e
theorem Grow.trans {F H F1 H1 F2 H2 : Hp} (g : Grow F H F1 H1) (k : Grow F1 H1 F2 H2) : Grow F H F2 H2 :=
  ⟨k.sub, g.same.trans k.same, fun a h => (k.old a (Same.ne g.same h)).trans (g.old a h)⟩
theorem Grow.subF {F H F' H' : Hp} (g : Grow F H F' H') (s : Sub F H) : Sub F F' := Sub.of fun a u e => (g.old a (s.some e)).trans e
/-- a new thing, not shared -/
theorem Grow.new {F H : Hp} (s : Sub F H) {p : Addr} {o : HO} (h : H p = none) : Grow F H F (upd H p o) := by
  refine ⟨fun a u e => ?_, fun a u e => ?_, fun _ _ => rfl⟩
  · have : a ≠ p := fun z => s.some e (z ▸ h)
    rw [upd_ne this]
    exact s a u e
  · have : a ≠ p := ne_of_none e h
    rw [upd_ne this]
    exact e
theorem Sub.none {F H : Hp} (s : Sub F H) {p : Addr} (h : H p = Option.none) : F p = Option.none := by
  cases e : F p with
  | none => rfl
  | some u => exact absurd h (s.some e)
/-- a new thing, shared -/
theorem Grow.newF {F H : Hp} (s : Sub F H) {p : Addr} {o : HO} (h : H p = none) : Grow F H (upd F p o) (upd H p o) := by
  refine ⟨fun a u e => ?_, fun a u e => ?_, fun a e => ?_⟩
  · by_cases z : a = p
    · subst z
      rw [upd_same] at e ⊢
      exact .inl e
    · rw [upd_ne z] at e ⊢
      exact s a u e
  · have : a ≠ p := ne_of_none e h
    rw [upd_ne this]
    exact e
  · have : a ≠ p := fun z => e (z ▸ h)
    rw [upd_ne this]
/-- things that lie in H only may be shared -/
theorem Grow.share {F H : Hp} (s : Sub F H) {F0 H0 : Hp} (g : Grow F0 H0 F H) (fp : List Addr) (hn : ∀ a ∈ fp, H0 a = Option.none) :
    ∃ F', Grow F0 H0 F' H ∧ Sub F F' ∧ (∀ a ∈ fp, F a = Option.none → F' a = H a) ∧ (∀ a, a ∉ fp → F' a = F a) := by
  classical
  refine ⟨fun a => if a ∈ fp ∧ F a = Option.none then H a else F a, ⟨fun a u e => ?_, g.same, fun a h => ?_⟩, Sub.of fun a u e => ?_, fun a ha hf => if_pos ⟨ha, hf⟩, fun a ha => if_neg fun z => ha z.1⟩
  · by_cases c : a ∈ fp ∧ F a = Option.none
    · simp only [if_pos c] at e
      exact .inl e
    · simp only [if_neg c] at e
      exact s a u e
  · have c : ¬ (a ∈ fp ∧ F a = Option.none) := fun z => h (hn a z.1)
    simp only [if_neg c]
    exact g.old a h
  · have c : ¬ (a ∈ fp ∧ F a = Option.none) := fun z => by rw [z.2] at e; cases e
    simp only [if_neg c]
    exact e

/-! ### the slots of a body -/
abbrev Env := List (Option D)
/-- how a slot's thing is held: nothing known; held so; the argument v, handed back, held so -/
inductive SM where
  | un | ow (m : M) | io (v : V) (m : M)
def SlOk (K : PySem.W.Frag) (F H : Hp) : SM → Option D → Option V → List Addr → Prop
  | .un, _, _, fp => fp = []
  | .ow _, none, _, fp => fp = []
  | .ow m, some d, s, fp => ∃ v, s = some v ∧ RepM K F H d m v fp
  | .io _ _, none, _, fp => fp = []
  | .io v m, some d, s, fp => s = some v ∧ RepM K F H d m v fp
def SlsOk (K : PySem.W.Frag) (F H : Hp) : List SM → Env → St → List Addr → Prop
  | [], [], [], fp => fp = []
  | m :: ms, d :: env, s :: σ, fp => ∃ f1 f2, fp = f1 ++ f2 ∧ SlOk K F H m d s f1 ∧ SlsOk K F H ms env σ f2
  | _, _, _, _ => False
structure StOk (K : PySem.W.Frag) (ms : List SM) (F H : Hp) (env : Env) (σ : St) (A : List Addr) : Prop where
  sub : Sub F H
  sls : SlsOk K F H ms env σ A
  nd : A.Nodup
  off : ∀ a ∈ A, F a = none

section
variable {K : PySem.W.Frag} {F H F' H' : Hp}
theorem SlOk.mono (s : Sub F F') {m : SM} {d : Option D} {v : Option V} {fp : List Addr} (h : SlOk K F H m d v fp) (k : ∀ a ∈ fp, H' a = H a) : SlOk K F' H' m d v fp := by
  cases m with
  | un => exact h
  | ow m =>
    cases d with
    | none => exact h
    | some d => obtain ⟨v, e, r⟩ := h; exact ⟨v, e, r.mono s k⟩
  | io w m =>
    cases d with
    | none => exact h
    | some d => obtain ⟨e, r⟩ := h; exact ⟨e, r.mono s k⟩
theorem SlOk.dom {m : SM} {d : Option D} {v : Option V} {fp : List Addr} (h : SlOk K F H m d v fp) : ∀ a ∈ fp, H a ≠ none := by
  cases m with
  | un => rw [show fp = [] from h]; intro a ha; cases ha
  | ow m =>
    cases d with
    | none => rw [show fp = [] from h]; intro a ha; cases ha
    | some d => obtain ⟨v, e, r⟩ := h; exact r.dom
  | io w m =>
    cases d with
    | none => rw [show fp = [] from h]; intro a ha; cases ha
    | some d => obtain ⟨e, r⟩ := h; exact r.dom
theorem SlsOk.mono (s : Sub F F') : ∀ {ms : List SM} {env : Env} {σ : St} {A : List Addr}, SlsOk K F H ms env σ A → (∀ a ∈ A, H' a = H a) → SlsOk K F' H' ms env σ A
  | [], [], [], A, h, _ => h
  | m :: ms, d :: env, v :: σ, A, ⟨f1, f2, e, h1, h2⟩, k =>
    ⟨f1, f2, e, h1.mono s fun a ha => k a (by rw [e]; exact List.mem_append_left _ ha), SlsOk.mono s h2 fun a ha => k a (by rw [e]; exact List.mem_append_right _ ha)⟩
  | [], [], _ :: _, _, h, _ => h.elim
  | [], _ :: _, _, _, h, _ => h.elim
  | _ :: _, [], _, _, h, _ => h.elim
  | _ :: _, _ :: _, [], _, h, _ => h.elim
theorem SlsOk.dom : ∀ {ms : List SM} {env : Env} {σ : St} {A : List Addr}, SlsOk K F H ms env σ A → ∀ a ∈ A, H a ≠ none
  | [], [], [], A, h, a, ha => by rw [show A = [] from h] at ha; cases ha
  | m :: ms, d :: env, v :: σ, A, ⟨f1, f2, e, h1, h2⟩, a, ha => by
    rw [e] at ha
    rcases List.mem_append.mp ha with z | z
    · exact h1.dom a z
    · exact SlsOk.dom h2 a z
  | [], [], _ :: _, _, h, _, _ => h.elim
  | [], _ :: _, _, _, h, _, _ => h.elim
  | _ :: _, [], _, _, h, _, _ => h.elim
  | _ :: _, _ :: _, [], _, h, _, _ => h.elim
theorem SlsOk.len : ∀ {ms : List SM} {env : Env} {σ : St} {A : List Addr}, SlsOk K F H ms env σ A → ms.length = σ.length ∧ env.length = σ.length
  | [], [], [], A, h => ⟨rfl, rfl⟩
  | m :: ms, d :: env, v :: σ, A, ⟨f1, f2, e, h1, h2⟩ => by
    have := SlsOk.len h2
    simp only [List.length_cons]
    omega
  | [], [], _ :: _, _, h => h.elim
  | [], _ :: _, _, _, h => h.elim
  | _ :: _, [], _, _, h => h.elim
  | _ :: _, _ :: _, [], _, h => h.elim
theorem StOk.mono {ms : List SM} {env : Env} {σ : St} {A : List Addr} (h : StOk K ms F H env σ A) (s : Sub F F') (s' : Sub F' H') (k : ∀ a ∈ A, H' a = H a) (f : ∀ a ∈ A, F' a = none) : StOk K ms F' H' env σ A :=
  ⟨s', h.sls.mono s k, h.nd, f⟩
theorem StOk.grow {ms : List SM} {env : Env} {σ : St} {A : List Addr} (h : StOk K ms F H env σ A) (g : Grow F H F' H') : StOk K ms F' H' env σ A :=
  h.mono (g.subF h.sub) g.sub (fun a ha => Same.eq g.same (h.sls.dom a ha)) (fun a ha => (g.old a (h.sls.dom a ha)).trans (h.off a ha))
/-- a slot's place -/
theorem SlsOk.get : ∀ {ms : List SM} {env : Env} {σ : St} {A : List Addr}, SlsOk K F H ms env σ A → ∀ {i : Nat} {m : SM} {d : Option D}, ms[i]? = some m → env[i]? = some d →
    ∃ s fp, σ[i]? = some s ∧ SlOk K F H m d s fp ∧ ∀ a ∈ fp, a ∈ A
  | m :: ms, d :: env, v :: σ, A, ⟨f1, f2, e, h1, h2⟩, 0, m', d', e1, e2 => by
    cases e1; cases e2
    exact ⟨v, f1, rfl, h1, fun a ha => by rw [e]; exact List.mem_append_left _ ha⟩
  | m :: ms, d :: env, v :: σ, A, ⟨f1, f2, e, h1, h2⟩, i + 1, m', d', e1, e2 => by
    obtain ⟨s, fp, q1, q2, q3⟩ := SlsOk.get h2 (i := i) e1 e2
    exact ⟨s, fp, q1, q2, fun a ha => by rw [e]; exact List.mem_append_right _ (q3 a ha)⟩
  | [], [], [], A, h, i, m', d', e1, e2 => by simp at e1
  | [], [], _ :: _, _, h, _, _, _, _, _ => h.elim
  | [], _ :: _, _, _, h, _, _, _, _, _ => h.elim
  | _ :: _, [], _, _, h, _, _, _, _, _ => h.elim
  | _ :: _, _ :: _, [], _, h, _, _, _, _, _ => h.elim
theorem StOk.get {ms : List SM} {env : Env} {σ : St} {A : List Addr} (h : StOk K ms F H env σ A) {i : Nat} {m : M} {d : D} (e1 : ms[i]? = some (.ow m)) (e2 : env[i]? = some (some d)) :
    ∃ v fp, σ[i]? = some (some v) ∧ RepM K F H d m v fp ∧ ∀ a ∈ fp, a ∈ A := by
  obtain ⟨s, fp, q1, ⟨v, q2, q3⟩, q4⟩ := h.sls.get e1 e2
  subst q2
  exact ⟨v, fp, q1, q3, q4⟩
theorem StOk.getIo {ms : List SM} {env : Env} {σ : St} {A : List Addr} (h : StOk K ms F H env σ A) {i : Nat} {w : V} {m : M} {d : D} (e1 : ms[i]? = some (.io w m)) (e2 : env[i]? = some (some d)) :
    ∃ fp, σ[i]? = some (some w) ∧ RepM K F H d m w fp ∧ ∀ a ∈ fp, a ∈ A := by
  obtain ⟨s, fp, q1, ⟨q2, q3⟩, q4⟩ := h.sls.get e1 e2
  subst q2
  exact ⟨fp, q1, q3, q4⟩
/-- a slot is emptied: what it held is left over -/
theorem SlsOk.take : ∀ {ms : List SM} {env : Env} {σ : St} {A : List Addr}, SlsOk K F H ms env σ A → A.Nodup → ∀ {i : Nat} {m : SM} {d : Option D}, ms[i]? = some m → env[i]? = some d →
    ∃ s fp A', σ[i]? = some s ∧ SlOk K F H m d s fp ∧ SlsOk K F H ms (env.set i none) σ A' ∧ (fp ++ A').Nodup ∧ (∀ a, a ∈ A ↔ a ∈ fp ++ A')
  | m :: ms, d :: env, v :: σ, A, ⟨f1, f2, e, h1, h2⟩, nd, 0, m', d', e1, e2 => by
    cases e1; cases e2
    refine ⟨v, f1, f2, rfl, h1, ⟨[], f2, rfl, ?_, h2⟩, by rw [← e]; exact nd, fun a => by rw [e]⟩
    cases m <;> rfl
  | m :: ms, d :: env, v :: σ, A, ⟨f1, f2, e, h1, h2⟩, nd, i + 1, m', d', e1, e2 => by
    subst e
    obtain ⟨nd1, nd2, nd3⟩ := List.nodup_append.mp nd
    obtain ⟨s, fp, A', q1, q2, q3, q4, q5⟩ := SlsOk.take h2 nd2 (i := i) e1 e2
    refine ⟨s, fp, f1 ++ A', q1, q2, ⟨f1, A', rfl, h1, q3⟩, ?_, fun a => ?_⟩
    · obtain ⟨n1, n2, n3⟩ := List.nodup_append.mp q4
      refine List.nodup_append.mpr ⟨n1, List.nodup_append.mpr ⟨nd1, n2, fun a ha b hb => nd3 a ha b ((q5 b).mpr (List.mem_append_right _ hb))⟩, fun a ha b hb => ?_⟩
      rcases List.mem_append.mp hb with z | z
      · exact (nd3 b z a ((q5 a).mpr (List.mem_append_left _ ha))).symm
      · exact n3 a ha b z
    · have := q5 a
      simp only [List.mem_append] at this ⊢
      constructor
      · rintro (z | z)
        · exact .inr (.inl z)
        · rcases this.mp z with y | y
          · exact .inl y
          · exact .inr (.inr y)
      · rintro (z | z | z)
        · exact .inr (this.mpr (.inl z))
        · exact .inl z
        · exact .inr (this.mpr (.inr z))
  | [], [], [], A, h, _, i, m', d', e1, e2 => by simp at e1
  | [], [], _ :: _, _, h, _, _, _, _, _, _ => h.elim
  | [], _ :: _, _, _, h, _, _, _, _, _, _ => h.elim
  | _ :: _, [], _, _, h, _, _, _, _, _, _ => h.elim
  | _ :: _, _ :: _, [], _, h, _, _, _, _, _, _ => h.elim
/-- a slot is filled anew -/
theorem SlsOk.put : ∀ {ms : List SM} {env : Env} {σ : St} {A : List Addr}, SlsOk K F H ms env σ A → A.Nodup → ∀ {i : Nat} {m : SM} {d : Option D} {s : Option V} {fp : List Addr}, i < ms.length → SlOk K F H m d s fp → fp.Nodup → (∀ a ∈ fp, a ∉ A) →
    ∃ A', SlsOk K F H (ms.set i m) (env.set i d) (σ.set i s) A' ∧ A'.Nodup ∧ ∀ a ∈ A', a ∈ A ∨ a ∈ fp
  | m :: ms, d :: env, v :: σ, A, ⟨f1, f2, e, h1, h2⟩, nd, 0, m', d', s', fp, hi, hs, hn, hd => by
    subst e
    obtain ⟨nd1, nd2, nd3⟩ := List.nodup_append.mp nd
    refine ⟨fp ++ f2, ⟨fp, f2, rfl, hs, h2⟩, List.nodup_append.mpr ⟨hn, nd2, fun a ha b hb z => ?_⟩, fun a ha => ?_⟩
    · subst z
      exact hd a ha (List.mem_append_right _ hb)
    · rcases List.mem_append.mp ha with z | z
      · exact .inr z
      · exact .inl (List.mem_append_right _ z)
  | m :: ms, d :: env, v :: σ, A, ⟨f1, f2, e, h1, h2⟩, nd, i + 1, m', d', s', fp, hi, hs, hn, hd => by
    subst e
    obtain ⟨nd1, nd2, nd3⟩ := List.nodup_append.mp nd
    obtain ⟨A', q1, q2, q3⟩ := SlsOk.put h2 nd2 (i := i) (Nat.lt_of_succ_lt_succ hi) hs hn fun a ha z => hd a ha (List.mem_append_right _ z)
    refine ⟨f1 ++ A', ⟨f1, A', rfl, h1, q1⟩, List.nodup_append.mpr ⟨nd1, q2, fun a ha b hb z => ?_⟩, fun a ha => ?_⟩
    · subst z
      rcases q3 a hb with y | y
      · exact nd3 a ha a y rfl
      · exact hd a y (List.mem_append_left _ ha)
    · rcases List.mem_append.mp ha with z | z
      · exact .inl (List.mem_append_left _ z)
      · rcases q3 a z with y | y
        · exact .inl (List.mem_append_right _ y)
        · exact .inr y
  | [], _, _, _, _, _, _, _, _, _, _, hi, _, _, _ => by simp at hi
  | _ :: _, [], _, _, h, _, _, _, _, _, _, _, _, _, _ => h.elim
  | _ :: _, _ :: _, [], _, h, _, _, _, _, _, _, _, _, _, _ => h.elim
theorem StOk.put {ms : List SM} {env : Env} {σ : St} {A : List Addr} (h : StOk K ms F H env σ A) {i : Nat} {m : M} {d : D} {v : V} {fp : List Addr} (hi : i < ms.length) (r : RepM K F H d m v fp) (hn : fp.Nodup) (hd : ∀ a ∈ fp, a ∉ A) (hf : ∀ a ∈ fp, F a = none) :
    ∃ A', StOk K (ms.set i (.ow m)) F H (env.set i (some d)) (σ.set i (some v)) A' ∧ ∀ a ∈ A', a ∈ A ∨ a ∈ fp := by
  obtain ⟨A', q1, q2, q3⟩ := h.sls.put h.nd hi (m := .ow m) (d := some d) (s := some v) ⟨v, rfl, r⟩ hn hd
  refine ⟨A', ⟨h.sub, q1, q2, fun a ha => ?_⟩, q3⟩
  rcases q3 a ha with z | z
  · exact h.off a z
  · exact hf a z
/-- what is known of fewer slots -/
inductive SubS : List SM → List SM → Prop where
  | nil : SubS [] []
  | same {m ms ns} : SubS ms ns → SubS (m :: ms) (m :: ns)
  | drop {m ms ns} : SubS ms ns → SubS (m :: ms) (.un :: ns)
theorem SubS.refl : ∀ ms : List SM, SubS ms ms
  | [] => .nil
  | m :: ms => .same (SubS.refl ms)
theorem SlsOk.weak : ∀ {ms ns : List SM}, SubS ms ns → ∀ {env : Env} {σ : St} {A : List Addr}, SlsOk K F H ms env σ A → A.Nodup → ∃ A', SlsOk K F H ns env σ A' ∧ A'.Nodup ∧ ∀ a ∈ A', a ∈ A
  | _, _, .nil, [], [], A, h, n => ⟨A, h, n, fun _ z => z⟩
  | _, _, .same s, d :: env, v :: σ, A, ⟨f1, f2, e, h1, h2⟩, n => by
    subst e
    obtain ⟨n1, n2, n3⟩ := List.nodup_append.mp n
    obtain ⟨A', q1, q2, q3⟩ := SlsOk.weak s h2 n2
    refine ⟨f1 ++ A', ⟨f1, A', rfl, h1, q1⟩, List.nodup_append.mpr ⟨n1, q2, fun a ha b hb => n3 a ha b (q3 b hb)⟩, fun a ha => ?_⟩
    rcases List.mem_append.mp ha with z | z
    · exact List.mem_append_left _ z
    · exact List.mem_append_right _ (q3 a z)
  | _, _, .drop s, d :: env, v :: σ, A, ⟨f1, f2, e, h1, h2⟩, n => by
    subst e
    obtain ⟨n1, n2, n3⟩ := List.nodup_append.mp n
    obtain ⟨A', q1, q2, q3⟩ := SlsOk.weak s h2 n2
    exact ⟨A', ⟨[], A', rfl, rfl, q1⟩, q2, fun a ha => List.mem_append_right _ (q3 a ha)⟩
  | _, _, .nil, [], _ :: _, _, h, _ => h.elim
  | _, _, .nil, _ :: _, _, _, h, _ => h.elim
  | _, _, .same _, [], _, _, h, _ => h.elim
  | _, _, .same _, _ :: _, [], _, h, _ => h.elim
  | _, _, .drop _, [], _, _, h, _ => h.elim
  | _, _, .drop _, _ :: _, [], _, h, _ => h.elim
theorem StOk.weak {ms ns : List SM} {env : Env} {σ : St} {A : List Addr} (h : StOk K ms F H env σ A) (s : SubS ms ns) : ∃ A', StOk K ns F H env σ A' ∧ ∀ a ∈ A', a ∈ A := by
  obtain ⟨A', q1, q2, q3⟩ := h.sls.weak s h.nd
  exact ⟨A', ⟨h.sub, q1, q2, fun a ha => h.off a (q3 a ha)⟩, q3⟩
end

/-! ### steps of statements -/
structure Step (A : List Addr) (F H : Hp) (A' : List Addr) (F' H' : Hp) : Prop where
  keep : ∀ a, H a ≠ none → a ∉ A → H' a = H a ∧ F' a = F a
  own : ∀ a ∈ A', a ∈ A ∨ H a = none
  nn : ∀ a, H a ≠ none → H' a ≠ none
theorem Step.refl {A : List Addr} {F H : Hp} : Step A F H A F H := ⟨fun _ _ _ => ⟨rfl, rfl⟩, fun _ h => .inl h, fun _ h => h⟩
theorem Step.less {A A' : List Addr} {F H : Hp} (h : ∀ a ∈ A', a ∈ A) : Step A F H A' F H := ⟨fun _ _ _ => ⟨rfl, rfl⟩, fun a z => .inl (h a z), fun _ h => h⟩
theorem Step.trans {A A1 A2 : List Addr} {F H F1 H1 F2 H2 : Hp} (x : Step A F H A1 F1 H1) (y : Step A1 F1 H1 A2 F2 H2) : Step A F H A2 F2 H2 := by
  have n1 : ∀ a, H a ≠ none → a ∉ A → a ∉ A1 := fun a h h' z => by
    rcases x.own a z with q | q
    · exact h' q
    · exact h q
  refine ⟨fun a h h' => ?_, fun a z => ?_, fun a h => y.nn a (x.nn a h)⟩
  · obtain ⟨e1, e2⟩ := x.keep a h h'
    obtain ⟨e3, e4⟩ := y.keep a (by rw [e1]; exact h) (n1 a h h')
    exact ⟨e3.trans e1, e4.trans e2⟩
  · by_cases hA : a ∈ A
    · exact .inl hA
    · by_cases hH : H a = none
      · exact .inr hH
      · rcases y.own a z with q | q
        · exact absurd q (n1 a hH hA)
        · rw [(x.keep a hH hA).1] at q
          exact absurd q hH
theorem Step.grow {A : List Addr} {F H F' H' : Hp} (g : Grow F H F' H') : Step A F H A F' H' := ⟨fun a h _ => ⟨Same.eq g.same h, g.old a h⟩, fun _ h => .inl h, fun _ h => Same.ne g.same h⟩
theorem Step.more {A A' B : List Addr} {F H F' H' : Hp} (x : Step A F H A' F' H') (h : ∀ a ∈ B, a ∈ A' ∨ H a = none) : Step A F H B F' H' := ⟨x.keep, fun a z => by
  rcases h a z with q | q
  · exact x.own a q
  · exact .inr q, x.nn⟩
theorem Step.same {A' : List Addr} {F H F' H' : Hp} (x : Step [] F H A' F' H') : Same H H' := fun a u e => by
  have := (x.keep a (by rw [e]; simp) (by simp)).1
  rw [this]; exact e
end G

set_option Elab.async false
set_option linter.all false
set_option maxRecDepth 100000
set_option maxHeartbeats 4000000
/-! G3: expressions over plain data. -/
namespace G
open PySem L2

/-- what an error carries: its class, its own attributes (flat) -/
structure Xn where
  cls : Value
  ns : List Str
  xs : List D
def RepX (K : PySem.W.Frag) (H0 H : Hp) (x : Xn) (c : Value) (dx : Option Addr) : Prop :=
  c = x.cls ∧ ((x.ns = [] ∧ dx = none) ∨ ∃ d vs, dx = some d ∧ H d = some (.xd (x.ns.zip vs)) ∧ x.ns.length = x.xs.length ∧ Reps K (fun _ => none) x.xs vs) ∧ ∀ d, dx = some d → H0 d = none
theorem RepX.backN {K : PySem.W.Frag} {H0 H1 H : Hp} {x : Xn} {c : Value} {dx : Option Addr} (y : RepX K H1 H x c dx) (s : ∀ a, H0 a ≠ none → H1 a ≠ none) : RepX K H0 H x c dx :=
  ⟨y.1, y.2.1, fun d e => Classical.byContradiction fun n => s d n (y.2.2 d e)⟩
theorem RepX.back {K : PySem.W.Frag} {H0 H1 H : Hp} {x : Xn} {c : Value} {dx : Option Addr} (y : RepX K H1 H x c dx) (s : Same H0 H1) : RepX K H0 H x c dx := y.backN fun _ h => Same.ne s h

/-- where one stands: a family of contexts (a def's own; a comprehension's blocks) -/
structure GX (Ex : Xn → Env → Prop) where
  I : Type
  X : I → Cx
  K : PySem.W.Frag
  mg : Str → Option Value
  P : Program
  w : World
  base : Heap
  lv : Nat
  E : WX
  hK : ∀ i, (X i).K = K
  hmg : ∀ i, (X i).mg = mg
  hP : ∀ i, (X i).prog = P
  hw : ∀ i, (X i).w = w
  hb : ∀ i, (X i).base = base
  cm : Bool
  calm' : ∀ i, (X i).calm = cm
  nd : ∀ i, (X i).N.Nodup
  hd : cm = true → ∀ i, (X i).A.handled = none
  roomH : ∀ i, L2H.RoomH lv (X i).A
  tk : ∀ i, Takes (X i) E
  po : ∀ i, PassesOwn (model (X i).prog (X i).w) (X i).A (X i).env (X i).xe
theorem GX.calm {Ex : Xn → Env → Prop} (Z : GX Ex) (hcm : Z.cm = true) (i : Z.I) : (Z.X i).calm = true := (Z.calm' i).trans hcm
theorem GX.room {Ex : Xn → Env → Prop} (Z : GX Ex) (hcm : Z.cm = true) (i : Z.I) : Room Z.lv (Z.X i).A := ⟨Z.hd hcm i, (Z.roomH i).dp, (Z.roomH i).un⟩
theorem GX.units {Ex : Xn → Env → Prop} (Z : GX Ex) (i : Z.I) : (Z.X i).A.units + 64 < cLine := by have := (Z.roomH i).un; omega
abbrev F0 : Xn → Env → Prop := fun _ _ => False

/-- how a result is held: only seen; new and one's own, held so; a part of what a slot holds, held so -/
inductive RM where
  | vw | ow (m : M) | pl (m : M)
/-- shared, or may be shared -/
def RM.per : RM → Bool
  | .ow _ => true
  | .pl .sh => true
  | _ => false
def Res (K : PySem.W.Frag) (F H H0 : Hp) (A : List Addr) : RM → D → V → Prop
  | .vw, d, v => Rep K H d v
  | .ow m, d, v => ∃ fp, RepM K F H d m v fp ∧ fp.Nodup ∧ ∀ a ∈ fp, H0 a = none ∧ F a = none
  | .pl m, d, v => ∃ fp, RepM K F H d m v fp ∧ ∀ a ∈ fp, a ∈ A
section
variable {K : PySem.W.Frag} {F H F' H' H0 : Hp} {A : List Addr} {r : RM} {d : D} {v : V}
theorem Res.view (h : Res K F H H0 A r d v) (s : Sub F H) : Rep K H d v := by
  cases r with
  | vw => exact h
  | ow m => obtain ⟨fp, q, _⟩ := h; exact q.view s
  | pl m => obtain ⟨fp, q, _⟩ := h; exact q.view s
theorem Rep.grow (h : Rep K H d v) (g : Grow F H F' H') : Rep K H' d v := h.sub (Sub.of g.same)
theorem RepM.grow {m : M} {fp : List Addr} (h : RepM K F H d m v fp) (s : Sub F H) (g : Grow F H F' H') : RepM K F' H' d m v fp :=
  h.mono (g.subF s) fun a ha => Same.eq g.same (h.dom a ha)
theorem Res.grow (h : Res K F H H0 A r d v) (s : Sub F H) (g : Grow F H F' H') : Res K F' H' H0 A r d v := by
  cases r with
  | vw => exact Rep.grow h g
  | ow m =>
    obtain ⟨fp, q, n, z⟩ := h
    exact ⟨fp, q.grow s g, n, fun a ha => ⟨(z a ha).1, (g.old a (q.dom a ha)).trans (z a ha).2⟩⟩
  | pl m => obtain ⟨fp, q, z⟩ := h; exact ⟨fp, q.grow s g, z⟩
theorem Res.back {H1 : Hp} (h : Res K F H H1 A r d v) (s : Same H0 H1) : Res K F H H0 A r d v := by
  cases r with
  | vw => exact h
  | ow m =>
    obtain ⟨fp, q, n, z⟩ := h
    exact ⟨fp, q, n, fun a ha => ⟨s.free (z a ha).1, (z a ha).2⟩⟩
  | pl m => exact h
/-- shared at last -/
theorem Res.share {F0 : Hp} (h : Res K F H H0 A r d v) (p : r.per = true) (g : Grow F0 H0 F H) : ∃ F', Grow F0 H0 F' H ∧ Sub F F' ∧ Rep K F' d v ∧ (∀ a, H0 a ≠ none → F' a = F a) := by
  cases r with
  | vw => cases p
  | ow m =>
    obtain ⟨fp, q, n, z⟩ := h
    obtain ⟨F', g', s', e1, e2⟩ := Grow.share g.sub g fp fun a ha => (z a ha).1
    refine ⟨F', g', s', q.freeze s' fun a ha u hu => ?_, fun a ha => (g'.old a ha).trans (g.old a ha).symm⟩
    rw [e1 a ha (z a ha).2]
    exact hu
  | pl m =>
    cases m with
    | sh =>
      obtain ⟨fp, q, z⟩ := h
      exact ⟨F, g, Sub.refl F, (RepM.sh.mp q).2, fun _ _ => rfl⟩
    | _ => cases p
end

abbrev PX := Env → (D → Prop) → Prop
/-- t does what p says -/
def SE {Ex : Xn → Env → Prop} (Z : GX Ex) (ms : List SM) (t : TE) (r : RM) (p : PX) : Prop :=
  ∀ (F H : Hp) (env : Env) (σ : St) (A : List Addr) (Q : D → Prop) (k : VK), StOk Z.K ms F H env σ A → p env Q →
    (∀ F' H' d v, Grow F H F' H' → Res Z.K F' H' H A r d v → Q d → k v H') →
    (∀ F' H' x c dx, Grow F H F' H' → RepX Z.K H H' x c dx → Ex x env → Z.E c dx σ H') → t σ H k
def GE {Ex : Xn → Env → Prop} (Z : GX Ex) (ms : List SM) (e : Expr) (r : RM) (p : PX) : Prop := ∃ t : TE, (∀ i, PE (Z.X i) e t) ∧ SE Z ms t r p

section
variable {Ex : Xn → Env → Prop} {Z : GX Ex} {ms : List SM} {a b c e : Expr} {ta tb te : TE} {ra rb rc r : RM} {pa pb pc p : PX} {pos : Pos}

/-- two in a row -/
theorem se_two (ha : SE Z ms ta ra pa) (hb : SE Z ms tb rb pb) {F H : Hp} {env : Env} {σ : St} {A : List Addr} {Q : D → D → Prop} {R : V → V → Hp → Prop}
    (h : StOk Z.K ms F H env σ A) (q : pa env fun x => pb env fun y => Q x y)
    (hx : ∀ F' H' x c dx, Grow F H F' H' → RepX Z.K H H' x c dx → Ex x env → Z.E c dx σ H')
    (k : ∀ F' H' d e v u, Grow F H F' H' → Res Z.K F' H' H A ra d v → Res Z.K F' H' H A rb e u → Q d e → R v u H') :
    ta σ H fun x H1 => tb σ H1 fun y H2 => R x y H2 := by
  refine ha F H env σ A _ _ h q (fun F1 H1 d v g1 r1 q1 => ?_) hx
  refine hb F1 H1 env σ A _ _ (h.grow g1) q1 (fun F2 H2 e u g2 r2 q2 => ?_) (fun F' H' x c dx g y z => hx F' H' x c dx (g1.trans g) (y.back g1.same) z)
  exact k F2 H2 d e v u (g1.trans g2) (r1.grow g1.sub g2) (r2.back g1.same) q2

/-! ### names and constants -/
def pVar (i : Nat) : PX := fun env Q => ∃ d, env[i]? = some (some d) ∧ Q d
def pC (d : D) : PX := fun _ Q => Q d
theorem ge_var {i : Nat} {x : Str} {m : M} (hm : ms[i]? = some (.ow m) := by rfl) (hN : ∀ j, (Z.X j).N[i]? = some x := by intro j; rfl)
    (hv : ∀ j, Vis (Z.X j).env.scope x := by intro j; first | exact Or.inl rfl | exact Or.inr (Or.inl rfl) | exact Or.inr (Or.inr rfl))
    (hd : (x == ("__debug__" : Str)) = false := by decide) (hcd : (x == ("__classdict__" : Str)) = false := by decide) : GE Z ms (.Name x pos) (.pl m) (pVar i) := by
  refine ⟨tVar i, fun j => pe_var (hN j) (hv j) hd hcd, fun F H env σ A Q k h q hk hx => ?_⟩
  obtain ⟨d, e, q⟩ := q
  obtain ⟨v, fp, e1, r1, z⟩ := h.get hm e
  exact ⟨v, e1, hk F H d v (Grow.refl h.sub) ⟨fp, r1, z⟩ q⟩
theorem ge_varIo {i : Nat} {x : Str} {w : V} {m : M} (hm : ms[i]? = some (.io w m) := by rfl) (hN : ∀ j, (Z.X j).N[i]? = some x := by intro j; rfl)
    (hv : ∀ j, Vis (Z.X j).env.scope x := by intro j; first | exact Or.inl rfl | exact Or.inr (Or.inl rfl) | exact Or.inr (Or.inr rfl))
    (hd : (x == ("__debug__" : Str)) = false := by decide) (hcd : (x == ("__classdict__" : Str)) = false := by decide) : GE Z ms (.Name x pos) (.pl m) (pVar i) := by
  refine ⟨tVar i, fun j => pe_var (hN j) (hv j) hd hcd, fun F H env σ A Q k h q hk hx => ?_⟩
  obtain ⟨d, e, q⟩ := q
  obtain ⟨fp, e1, r1, z⟩ := h.getIo hm e
  exact ⟨w, e1, hk F H d w (Grow.refl h.sub) ⟨fp, r1, z⟩ q⟩
theorem se_c {d : D} {v : V} (h : ∀ F, Rep Z.K F d v) : SE Z ms (tC v) (.ow .sh) (pC d) := fun F H env σ A Q k hs q hk hx =>
  hk F H d v (Grow.refl hs.sub) ⟨[], RepM.sh.mpr ⟨rfl, h F⟩, List.nodup_nil, fun _ z => by cases z⟩ q
theorem ge_int {i : Int} {j : Nat} : GE Z ms (.Constant (.int i) j pos) (.ow .sh) (pC (.int i)) := ⟨_, fun _ => pe_int, se_c fun _ => rfl⟩
theorem ge_bl {i : Bool} {j : Nat} : GE Z ms (.Constant (.bool i) j pos) (.ow .sh) (pC (.bl i)) := ⟨_, fun _ => pe_bl, se_c fun _ => rfl⟩
theorem ge_non {j : Nat} : GE Z ms (.Constant .none j pos) (.ow .sh) (pC .non) := ⟨_, fun _ => pe_non, se_c fun _ => rfl⟩
theorem ge_str {i : Str} {j : Nat} : GE Z ms (.Constant (.str i) j pos) (.ow .sh) (pC (.str i)) := ⟨_, fun _ => pe_str, se_c fun _ => rfl⟩
/-- a module's constant int -/
theorem ge_gint {x : Str} {i : Int} {tk : Tok} (hm : Z.mg x = some (.int i tk)) (hg : ∀ j, Gl (Z.X j) x := by intro j; rfl) (hd : (x == ("__debug__" : Str)) = false := by decide) : GE Z ms (.Name x pos) (.ow .sh) (pC (.int i)) :=
  ⟨_, fun j => pe_glob (v := .int i) (hg j) (by rw [Z.hmg]; exact hm) ⟨tk, rfl⟩ hd, se_c fun _ => rfl⟩

/-! ### operators by values -/
/-- what an operator on values does, said of data: its operands are seen; its result is flat -/
def OpF (K : PySem.W.Frag) (r : R2) (q : D → D → (D → Prop) → Prop) : Prop :=
  ∀ (H : Hp) (d e : D) (v u : V) (Q : D → Prop) (k : VK), Rep K H d v → Rep K H e u → q d e Q → (∀ d' v', (∀ F, Rep K F d' v') → Q d' → k v' H) → r v u H k
def pBin (q : D → D → (D → Prop) → Prop) (pa pb : PX) : PX := fun env Q => pa env fun x => pb env fun y => q x y Q
theorem se_opF {o : R2} {q : D → D → (D → Prop) → Prop} (hq : OpF Z.K o q) (ha : SE Z ms ta ra pa) (hb : SE Z ms tb rb pb) : SE Z ms (tOp o ta tb) (.ow .sh) (pBin q pa pb) := by
  intro F H env σ A Q k h p hk hx
  refine se_two ha hb h p hx fun F' H' d e v u g r1 r2 z => ?_
  refine hq H' d e v u Q k (r1.view g.sub) (r2.view g.sub) z fun d' v' hr q' => ?_
  exact hk F' H' d' v' g ⟨[], RepM.sh.mpr ⟨rfl, hr F'⟩, List.nodup_nil, fun _ z => by cases z⟩ q'
theorem ge_opF {op : Operator} {o : R2} {q : D → D → (D → Prop) → Prop} (ho : ∀ X : Cx, OpR X (binaryOp op) o) (hq : OpF Z.K o q) (ha : GE Z ms a ra pa) (hb : GE Z ms b rb pb) : GE Z ms (.BinOp a op b pos) (.ow .sh) (pBin q pa pb) := by
  obtain ⟨ta, h1, h2⟩ := ha
  obtain ⟨tb, h3, h4⟩ := hb
  exact ⟨_, fun i => pe_op (ho _) (h1 i) (h3 i), se_opF hq h2 h4⟩
theorem ge_cmpF {op : CmpOp} {o : R2} {q : D → D → (D → Prop) → Prop} (ho : ∀ i, OpR (Z.X i) (compareOp op) o) (hq : OpF Z.K o q) (hm : behindInMarks op b = false) (ha : GE Z ms a ra pa) (hb : GE Z ms b rb pb) :
    GE Z ms (.Compare a [op] [b] pos) (.ow .sh) (pBin q pa pb) := by
  obtain ⟨ta, h1, h2⟩ := ha
  obtain ⟨tb, h3, h4⟩ := hb
  exact ⟨_, fun i => pe_cmpR (ho i) (h1 i) (h3 i) hm, se_opF hq h2 h4⟩
def qI (C : Int → Int → Prop) (g : Int → Int → D) : D → D → (D → Prop) → Prop := fun x y Q => ∃ i j, x = .int i ∧ y = .int j ∧ C i j ∧ Q (g i j)
def qI0 (g : Int → Int → D) : D → D → (D → Prop) → Prop := fun x y Q => ∃ i j, x = .int i ∧ y = .int j ∧ Q (g i j)
theorem opF_I {K : PySem.W.Frag} {C : Int → Int → Prop} {g : Int → Int → V} {g' : Int → Int → D} (hg : ∀ i j F, Rep K F (g' i j) (g i j)) : OpF K (rI C g) (qI C g') := by
  rintro H d e v u Q k h1 h2 ⟨i, j, rfl, rfl, hc, q⟩ hk
  exact ⟨i, j, h1, h2, hc, hk _ _ (hg i j) q⟩
theorem opF_I0 {K : PySem.W.Frag} {g : Int → Int → V} {g' : Int → Int → D} (hg : ∀ i j F, Rep K F (g' i j) (g i j)) : OpF K (rI0 g) (qI0 g') := by
  rintro H d e v u Q k h1 h2 ⟨i, j, rfl, rfl, q⟩ hk
  exact ⟨i, j, h1, h2, hk _ _ (hg i j) q⟩
def pAdd := pBin (qI0 fun i j => .int (i + j))
def pSub := pBin (qI0 fun i j => .int (i - j))
def pMul := pBin (qI CMul fun i j => .int (i * j))
def pDiv := pBin (qI CDiv fun i j => .int (i / j))
def pMod := pBin (qI (fun _ j => 0 < j) fun i j => .int (i % j))
def pPow := pBin (qI CPow fun i j => .int (i ^ j.toNat))
theorem ge_add (ha : GE Z ms a ra pa) (hb : GE Z ms b rb pb) : GE Z ms (.BinOp a .Add b pos) (.ow .sh) (pAdd pa pb) := ge_opF (fun _ => op_add) (opF_I0 fun _ _ _ => rfl) ha hb
theorem ge_sub (ha : GE Z ms a ra pa) (hb : GE Z ms b rb pb) : GE Z ms (.BinOp a .Sub b pos) (.ow .sh) (pSub pa pb) := ge_opF (fun _ => op_sub) (opF_I0 fun _ _ _ => rfl) ha hb
theorem ge_mul (ha : GE Z ms a ra pa) (hb : GE Z ms b rb pb) : GE Z ms (.BinOp a .Mult b pos) (.ow .sh) (pMul pa pb) := ge_opF (fun _ => op_mul) (opF_I fun _ _ _ => rfl) ha hb
theorem ge_div (ha : GE Z ms a ra pa) (hb : GE Z ms b rb pb) : GE Z ms (.BinOp a .FloorDiv b pos) (.ow .sh) (pDiv pa pb) := ge_opF (fun _ => op_fdiv) (opF_I fun _ _ _ => rfl) ha hb
theorem ge_mod (ha : GE Z ms a ra pa) (hb : GE Z ms b rb pb) : GE Z ms (.BinOp a .Mod b pos) (.ow .sh) (pMod pa pb) := ge_opF (fun _ => op_mod) (opF_I fun _ _ _ => rfl) ha hb
theorem ge_pow (ha : GE Z ms a ra pa) (hb : GE Z ms b rb pb) : GE Z ms (.BinOp a .Pow b pos) (.ow .sh) (pPow pa pb) := ge_opF (fun _ => op_pow) (opF_I fun _ _ _ => rfl) ha hb
def pLt := pBin (qI0 fun i j => .bl (decide (i < j)))
def pLe := pBin (qI0 fun i j => .bl (decide (i ≤ j)))
def pGt := pBin (qI0 fun i j => .bl (decide (j < i)))
def pGe := pBin (qI0 fun i j => .bl (decide (j ≤ i)))
theorem ge_lt (ha : GE Z ms a ra pa) (hb : GE Z ms b rb pb) : GE Z ms (.Compare a [.Lt] [b] pos) (.ow .sh) (pLt pa pb) := ge_cmpF (fun _ => op_lt) (opF_I0 fun _ _ _ => rfl) (nomark _) ha hb
theorem ge_le (ha : GE Z ms a ra pa) (hb : GE Z ms b rb pb) : GE Z ms (.Compare a [.LtE] [b] pos) (.ow .sh) (pLe pa pb) := ge_cmpF (fun _ => op_le) (opF_I0 fun _ _ _ => rfl) (nomark _) ha hb
theorem ge_gt (ha : GE Z ms a ra pa) (hb : GE Z ms b rb pb) : GE Z ms (.Compare a [.Gt] [b] pos) (.ow .sh) (pGt pa pb) := ge_cmpF (fun _ => op_gt) (opF_I0 fun _ _ _ => rfl) (nomark _) ha hb
theorem ge_ge (ha : GE Z ms a ra pa) (hb : GE Z ms b rb pb) : GE Z ms (.Compare a [.GtE] [b] pos) (.ow .sh) (pGe pa pb) := ge_cmpF (fun _ => op_ge) (opF_I0 fun _ _ _ => rfl) (nomark _) ha hb

/-! ### == of data -/
mutual
def py : D → PyData
  | .non => .none
  | .bl b => .bool b
  | .int i => .int i
  | .str s => .str s
  | .lst ds => .list (pys ds)
  | .tup ds => .tuple (pys ds)
  | .tpi ns => .tuple (ns.map PyData.int)
  | _ => .none
def pys : List D → List PyData
  | [] => []
  | d :: ds => py d :: pys ds
end
mutual
/-- data of None, bools, ints, texts, lists, tuples, n deep at most -/
def eqOk : Nat → D → Bool
  | _, .non => true
  | _, .bl _ => true
  | _, .int _ => true
  | _, .str s => PySem.PyData.canLay0 (.str s)
  | 0, .lst _ => false
  | n + 1, .lst ds => eqOks n ds
  | 0, .tup _ => false
  | n + 1, .tup ds => eqOks n ds
  | 0, .tpi _ => false
  | _ + 1, .tpi _ => true
  | _, _ => false
def eqOks : Nat → List D → Bool
  | _, [] => true
  | n, d :: ds => eqOk n d && eqOks n ds
end
theorem dp_ints {K : PySem.W.Frag} {H : Hp} : ∀ ns : List Int, DpAll K H (ns.map V.int) (ns.map PyData.int)
  | [] => .nil
  | n :: ns => .cons (.int n) (dp_ints ns)
theorem lay_ints : ∀ ns : List Int, PySem.PyData.canLayAll0 (ns.map PyData.int) = true ∧ PySem.PyData.depthAll (ns.map PyData.int) ≤ 0
  | [] => ⟨rfl, Nat.le_refl _⟩
  | n :: ns => by
    obtain ⟨h1, h2⟩ := lay_ints ns
    refine ⟨by simp only [List.map_cons, PySem.PyData.canLayAll0, h1, PySem.PyData.canLay0, Bool.and_self], ?_⟩
    simp only [List.map_cons, PySem.PyData.depthAll, PySem.PyData.depth]
    exact Nat.max_le.mpr ⟨Nat.le_refl _, h2⟩
mutual
theorem dp_of {K : PySem.W.Frag} {H : Hp} : ∀ (d : D) {v : V} {n : Nat}, Rep K H d v → eqOk n d = true → Dp K H v (py d) := by
  intro d v n h k
  cases d with
  | non => cases h; exact .non
  | bl b => cases h; exact .bl b
  | int i => cases h; exact .int i
  | str s => cases h; exact .str s
  | lst ds =>
    obtain ⟨p, vs, rfl, q, r⟩ := h
    cases n with
    | zero => simp [eqOk] at k
    | succ n => exact .lst (SqL.of q) (dp_ofs ds r (by simpa only [eqOk] using k))
  | tup ds =>
    obtain ⟨p, vs, rfl, q, r⟩ := h
    cases n with
    | zero => simp [eqOk] at k
    | succ n => exact .tup (SqT.of q) (dp_ofs ds r (by simpa only [eqOk] using k))
  | tpi ns =>
    obtain ⟨p, o, rfl, q, _⟩ := h
    exact .tup (.inl (.inr ⟨o, q⟩)) (dp_ints ns)
  | _ => cases n <;> simp [eqOk] at k
theorem dp_ofs {K : PySem.W.Frag} {H : Hp} : ∀ (ds : List D) {vs : List V} {n : Nat}, Reps K H ds vs → eqOks n ds = true → DpAll K H vs (pys ds)
  | [], vs, n, h, k => by rw [show vs = [] from h]; exact .nil
  | d :: ds, vs, n, ⟨x, r, e, h1, h2⟩, k => by
    subst e
    have k' : (eqOk n d && eqOks n ds) = true := by cases n <;> simpa only [eqOks] using k
    rw [Bool.and_eq_true] at k'
    exact .cons (dp_of d h1 k'.1) (dp_ofs ds h2 k'.2)
end
mutual
theorem eqOk_lay : ∀ (d : D) {n : Nat}, eqOk n d = true → (py d).canLay0 = true ∧ (py d).depth ≤ n := by
  intro d n k
  cases d with
  | non => exact ⟨rfl, Nat.zero_le _⟩
  | bl b => exact ⟨rfl, Nat.zero_le _⟩
  | int i => exact ⟨rfl, Nat.zero_le _⟩
  | str s => exact ⟨by cases n <;> simpa only [eqOk, py] using k, Nat.zero_le _⟩
  | lst ds =>
    cases n with
    | zero => simp [eqOk] at k
    | succ n =>
      obtain ⟨h1, h2⟩ := eqOks_lay ds (n := n) (by simpa only [eqOk] using k)
      exact ⟨by simpa only [py, PySem.PyData.canLay0] using h1, by simp only [py, PySem.PyData.depth]; omega⟩
  | tup ds =>
    cases n with
    | zero => simp [eqOk] at k
    | succ n =>
      obtain ⟨h1, h2⟩ := eqOks_lay ds (n := n) (by simpa only [eqOk] using k)
      exact ⟨by simpa only [py, PySem.PyData.canLay0] using h1, by simp only [py, PySem.PyData.depth]; omega⟩
  | tpi ns =>
    cases n with
    | zero => simp [eqOk] at k
    | succ n =>
      obtain ⟨h1, h2⟩ := lay_ints ns
      exact ⟨by simpa only [py, PySem.PyData.canLay0] using h1, by simp only [py, PySem.PyData.depth]; omega⟩
  | _ => cases n <;> simp [eqOk] at k
theorem eqOks_lay : ∀ (ds : List D) {n : Nat}, eqOks n ds = true → PySem.PyData.canLayAll0 (pys ds) = true ∧ PySem.PyData.depthAll (pys ds) ≤ n
  | [], n, k => ⟨rfl, Nat.zero_le _⟩
  | d :: ds, n, k => by
    have k' : (eqOk n d && eqOks n ds) = true := by cases n <;> simpa only [eqOks] using k
    rw [Bool.and_eq_true] at k'
    obtain ⟨h1, h2⟩ := eqOk_lay d k'.1
    obtain ⟨h3, h4⟩ := eqOks_lay ds k'.2
    refine ⟨by simp only [pys, PySem.PyData.canLayAll0, h1, h3, Bool.and_self], ?_⟩
    simp only [pys, PySem.PyData.depthAll]
    exact Nat.max_le.mpr ⟨h2, h4⟩
end
theorem shaped_of {d : D} (h : eqOk 64 d = true) : SeqAt.shaped (py d) = true := by
  obtain ⟨h1, h2⟩ := eqOk_lay d h
  unfold SeqAt.shaped
  rw [h1, decide_eq_true h2]
  rfl
def eqD (x y : D) : Bool := PyData.eqv (py x) (py y)
def qEq : D → D → (D → Prop) → Prop := fun x y Q => eqOk 64 x = true ∧ eqOk 64 y = true ∧ Q (.bl (eqD x y))
def qNe : D → D → (D → Prop) → Prop := fun x y Q => eqOk 64 x = true ∧ eqOk 64 y = true ∧ Q (.bl (!eqD x y))
theorem opF_eq {K : PySem.W.Frag} : OpF K (rEqD K) qEq := by
  rintro H d e v u Q k h1 h2 ⟨c1, c2, q⟩ hk
  exact ⟨py d, py e, dp_of d h1 c1, dp_of e h2 c2, shaped_of c1, shaped_of c2, hk (.bl _) _ (fun _ => rfl) q⟩
theorem opF_ne {K : PySem.W.Frag} : OpF K (rNeD K) qNe := by
  rintro H d e v u Q k h1 h2 ⟨c1, c2, q⟩ hk
  exact ⟨py d, py e, dp_of d h1 c1, dp_of e h2 c2, shaped_of c1, shaped_of c2, hk (.bl _) _ (fun _ => rfl) q⟩
def pEq := pBin qEq
def pNe := pBin qNe
theorem ge_eq (ha : GE Z ms a ra pa) (hb : GE Z ms b rb pb) : GE Z ms (.Compare a [.Eq] [b] pos) (.ow .sh) (pEq pa pb) :=
  ge_cmpF (o := rEqD Z.K) (fun i => by rw [← Z.hK i]; exact op_eqD (Z.units i)) opF_eq (nomark _) ha hb
theorem ge_ne (ha : GE Z ms a ra pa) (hb : GE Z ms b rb pb) : GE Z ms (.Compare a [.NotEq] [b] pos) (.ow .sh) (pNe pa pb) :=
  ge_cmpF (o := rNeD Z.K) (fun i => by rw [← Z.hK i]; exact op_neD (Z.units i)) opF_ne (nomark _) ha hb
/-- is None -/
def isN : D → Bool
  | .non => true
  | _ => false
theorem rep_non {K : PySem.W.Frag} {H : Hp} {d : D} {v : V} (h : Rep K H d v) : decide (v = .non) = isN d := by
  cases d with
  | non => exact decide_eq_true h
  | bl b => rw [show v = .bl b from h]; rfl
  | int b => rw [show v = .int b from h]; rfl
  | str b => rw [show v = .str b from h]; rfl
  | ty b => rw [show v = .ty b from h]; rfl
  | ref b => rw [show v = .ref b from h]; rfl
  | lst ds => obtain ⟨p, vs, e, _⟩ := h; rw [e]; rfl
  | tup ds => obtain ⟨p, vs, e, _⟩ := h; rw [e]; rfl
  | scr ns => obtain ⟨p, e, _⟩ := h; rw [e]; rfl
  | tpi ns => obtain ⟨p, o, e, _⟩ := h; rw [e]; rfl
  | dic ks ds => obtain ⟨p, vs, e, _⟩ := h; rw [e]; rfl
  | dit ks ds => obtain ⟨p, vs, e, _⟩ := h; rw [e]; rfl
  | obj C ns ds => obtain ⟨p, dx, vs, e, _⟩ := h; rw [e]; rfl
  | exc a d c ns ds => obtain ⟨e, _⟩ := h; rw [e]; rfl
def pIsN (pa : PX) : PX := fun env Q => pa env fun x => Q (.bl (isN x))
def pNotN (pa : PX) : PX := fun env Q => pa env fun x => Q (.bl (!isN x))
theorem ge_isN {j : Nat} {pos' : Pos} (ha : GE Z ms a ra pa) : GE Z ms (.Compare a [.Is] [.Constant .none j pos'] pos) (.ow .sh) (pIsN pa) := by
  obtain ⟨ta, h1, h2⟩ := ha
  refine ⟨_, fun i => pe_cmp (pc_isN (h1 i)) rfl, fun F H env σ A Q k h p hk hx => ?_⟩
  refine h2 F H env σ A _ _ h p (fun F' H' d v g r q => ?_) hx
  have e := rep_non (r.view g.sub)
  show k (.bl (decide (v = .non))) H'
  rw [e]
  exact hk F' H' (.bl (isN d)) _ g ⟨[], RepM.sh.mpr ⟨rfl, rfl⟩, List.nodup_nil, fun _ z => by cases z⟩ q
theorem ge_notN {j : Nat} {pos' : Pos} (ha : GE Z ms a ra pa) : GE Z ms (.Compare a [.IsNot] [.Constant .none j pos'] pos) (.ow .sh) (pNotN pa) := by
  obtain ⟨ta, h1, h2⟩ := ha
  refine ⟨_, fun i => pe_cmp (pc_notN (h1 i)) rfl, fun F H env σ A Q k h p hk hx => ?_⟩
  refine h2 F H env σ A _ _ h p (fun F' H' d v g r q => ?_) hx
  have e := rep_non (r.view g.sub)
  show k (.bl (!decide (v = .non))) H'
  rw [e]
  exact hk F' H' (.bl (!isN d)) _ g ⟨[], RepM.sh.mpr ⟨rfl, rfl⟩, List.nodup_nil, fun _ z => by cases z⟩ q
end
end G

set_option Elab.async false
set_option linter.all false
set_option maxRecDepth 100000
set_option maxHeartbeats 4000000
/-! G4: arguments, displays, calls of defs, fields, subscripts, built-ins. -/
namespace G
open PySem L2

abbrev PXs := Env → (List D → Prop) → Prop
theorem sz5 {n : Nat} (h : n ≤ 100000) : n ≤ sizeLine := Nat.le_trans h (by decide)
theorem sz5lt {n : Nat} (h : n < 100000) : n < sizeLine := Nat.lt_of_lt_of_le h (by decide)
theorem Rep.flatM {K : PySem.W.Frag} {F H : Hp} {d : D} {v : V} {m : M} (h : Rep K F d v) (f : G.flat d = true) : RepM K F H d m v [] := by
  cases d <;> first
    | exact ⟨rfl, h⟩
    | cases f

def SV {Ex : Xn → Env → Prop} (Z : GX Ex) (ms : List SM) (ta : TA) (p : PXs) : Prop :=
  ∀ (F H : Hp) (env : Env) (σ : St) (A : List Addr) (Q : List D → Prop) (k : List V → Hp → Prop), StOk Z.K ms F H env σ A → p env Q →
    (∀ F' H' ds vs, Grow F H F' H' → Reps Z.K H' ds vs → Q ds → k vs H') →
    (∀ F' H' x c dx, Grow F H F' H' → RepX Z.K H H' x c dx → Ex x env → Z.E c dx σ H') → ta σ H k
/-- arguments, seen -/
def GV {Ex : Xn → Env → Prop} (Z : GX Ex) (ms : List SM) (es : List Expr) (p : PXs) : Prop := ∃ ta : TA, (∀ i, PA (Z.X i) es ta) ∧ SV Z ms ta p
def SO {Ex : Xn → Env → Prop} (Z : GX Ex) (ms : List SM) (ta : TA) (m : M) (p : PXs) : Prop :=
  ∀ (F H : Hp) (env : Env) (σ : St) (A : List Addr) (Q : List D → Prop) (k : List V → Hp → Prop), StOk Z.K ms F H env σ A → p env Q →
    (∀ F' H' ds vs fp, Grow F H F' H' → RepMs Z.K F' H' ds m vs fp → fp.Nodup → (∀ a ∈ fp, H a = none ∧ F' a = none) → Q ds → k vs H') →
    (∀ F' H' x c dx, Grow F H F' H' → RepX Z.K H H' x c dx → Ex x env → Z.E c dx σ H') → ta σ H k
/-- items, held so (m = sh: shared) -/
def GO {Ex : Xn → Env → Prop} (Z : GX Ex) (ms : List SM) (es : List Expr) (m : M) (p : PXs) : Prop := ∃ ta : TA, (∀ i, PA (Z.X i) es ta) ∧ SO Z ms ta m p
def pNil : PXs := fun _ Q => Q []
def pCons (pa : PX) (ps : PXs) : PXs := fun env Q => pa env fun d => ps env fun ds => Q (d :: ds)
/-- an item that is no object -/
def pFlat (pa : PX) : PX := fun env Q => pa env fun d => flat d = true ∧ Q d
/-- an item held so may stand for one held so -/
inductive Fit : RM → M → Prop where
  | own {m : M} : Fit (.ow m) m
  | sh {r : RM} (h : r.per = true) : Fit r .sh
theorem Res.fit {K : PySem.W.Frag} {F H F1 H1 : Hp} {A : List Addr} {r : RM} {m : M} {d : D} {v : V} (h : Res K F1 H1 H A r d v) (f : Fit r m) (g : Grow F H F1 H1) :
    ∃ F', Grow F H F' H1 ∧ Sub F1 F' ∧ ∃ fp, RepM K F' H1 d m v fp ∧ fp.Nodup ∧ ∀ a ∈ fp, H a = none ∧ F' a = none := by
  cases f with
  | own =>
    obtain ⟨fp, q, n, z⟩ := h
    exact ⟨F1, g, Sub.refl _, fp, q, n, z⟩
  | sh p =>
    obtain ⟨F', g', s', q, _⟩ := h.share p g
    exact ⟨F', g', s', [], RepM.sh.mpr ⟨rfl, q⟩, List.nodup_nil, fun _ z => by cases z⟩
theorem RepMs.grow {K : PySem.W.Frag} {F H F' H' : Hp} {ds : List D} {m : M} {vs : List V} {fp : List Addr} (h : RepMs K F H ds m vs fp) (s : Sub F H) (g : Grow F H F' H') : RepMs K F' H' ds m vs fp :=
  h.mono (g.subF s) fun a ha => Same.eq g.same (h.dom a ha)
theorem RepMs.sh {K : PySem.W.Frag} {F H : Hp} : ∀ {ds : List D} {vs : List V} {fp : List Addr}, RepMs K F H ds .sh vs fp → fp = [] ∧ Reps K F ds vs
  | [], vs, fp, h => ⟨h.2, h.1⟩
  | d :: ds, vs, fp, ⟨x, r, f1, f2, e1, e2, h1, h2⟩ => by
    obtain ⟨q1, q2⟩ := RepM.sh.mp h1
    obtain ⟨q3, q4⟩ := RepMs.sh h2
    exact ⟨by rw [e2, q1, q3] <;> rfl, x, r, e1, q2, q4⟩
theorem RepMs.ofSh {K : PySem.W.Frag} {F H : Hp} : ∀ {ds : List D} {vs : List V}, Reps K F ds vs → RepMs K F H ds .sh vs []
  | [], vs, h => ⟨h, rfl⟩
  | d :: ds, vs, ⟨x, r, e, h1, h2⟩ => ⟨x, r, [], [], e, rfl, RepM.sh.mpr ⟨rfl, h1⟩, RepMs.ofSh h2⟩

section
variable {Ex : Xn → Env → Prop} {Z : GX Ex} {ms : List SM} {a b c e : Expr} {es : List Expr} {ta tb te : TE} {ra rb rc r : RM} {pa pb pc p : PX} {ps : PXs} {pos : Pos} {m : M}
theorem gv_nil : GV Z ms [] pNil := ⟨tNil, fun _ => pa_nil, fun F H env σ A Q k h p hk hx => hk F H [] [] (Grow.refl h.sub) rfl p⟩
theorem gv_cons (ha : GE Z ms a ra pa) (hr : GV Z ms es ps) (hs : ∀ i, starEach (a :: es) (Z.X i).env = (false, eval a (Z.X i).env) :: starEach es (Z.X i).env := by intro i; rfl) : GV Z ms (a :: es) (pCons pa ps) := by
  obtain ⟨ta, h1, h2⟩ := ha
  obtain ⟨tr, h3, h4⟩ := hr
  refine ⟨_, fun i => pa_cons (h1 i) (h3 i) (hs i), fun F H env σ A Q k h p hk hx => ?_⟩
  refine h2 F H env σ A _ _ h p (fun F1 H1 d v g1 r1 q1 => ?_) hx
  refine h4 F1 H1 env σ A _ _ (h.grow g1) q1 (fun F2 H2 ds vs g2 r2 q2 => ?_) (fun F' H' x c dx g y z => hx F' H' x c dx (g1.trans g) (y.back g1.same) z)
  exact hk F2 H2 (d :: ds) (v :: vs) (g1.trans g2) ⟨v, vs, rfl, Rep.grow (r1.view g1.sub) g2, r2⟩ q2
theorem go_nil : GO Z ms [] m pNil := ⟨tNil, fun _ => pa_nil, fun F H env σ A Q k h p hk hx => hk F H [] [] [] (Grow.refl h.sub) ⟨rfl, rfl⟩ List.nodup_nil (fun _ z => by cases z) p⟩
theorem go_cons (ha : GE Z ms a ra pa) (hr : GO Z ms es m ps) (hf : Fit ra m := by first | exact Fit.own | exact Fit.sh rfl) (hs : ∀ i, starEach (a :: es) (Z.X i).env = (false, eval a (Z.X i).env) :: starEach es (Z.X i).env := by intro i; rfl) : GO Z ms (a :: es) m (pCons pa ps) := by
  obtain ⟨ta, h1, h2⟩ := ha
  obtain ⟨tr, h3, h4⟩ := hr
  refine ⟨_, fun i => pa_cons (h1 i) (h3 i) (hs i), fun F H env σ A Q k h p hk hx => ?_⟩
  refine h2 F H env σ A _ _ h p (fun F0 H1 d v g0 r1 q1 => ?_) hx
  obtain ⟨F1, g1, _, fp1, r1, n1, z1⟩ := r1.fit hf g0
  refine h4 F1 H1 env σ A _ _ (h.grow g1) q1 (fun F2 H2 ds vs fp2 g2 r2 n2 z2 q2 => ?_) (fun F' H' x c dx g y z => hx F' H' x c dx (g1.trans g) (y.back g1.same) z)
  refine hk F2 H2 (d :: ds) (v :: vs) (fp1 ++ fp2) (g1.trans g2) ⟨v, vs, fp1, fp2, rfl, rfl, r1.grow g1.sub g2, r2⟩ (List.nodup_append.mpr ⟨n1, n2, fun x hx y hy e => ?_⟩) (fun x hx => ?_) q2
  · subst e
    exact r1.dom x hx (z2 x hy).1
  · rcases List.mem_append.mp hx with w | w
    · exact ⟨(z1 x w).1, (g2.old x (r1.dom x w)).trans (z1 x w).2⟩
    · exact ⟨g1.same.free (z2 x w).1, (z2 x w).2⟩
/-- an item that is no object, among owned ones -/
theorem go_flat (ha : GE Z ms a ra pa) (hr : GO Z ms es m ps) (hs : ∀ i, starEach (a :: es) (Z.X i).env = (false, eval a (Z.X i).env) :: starEach es (Z.X i).env := by intro i; rfl) : GO Z ms (a :: es) m (pCons (pFlat pa) ps) := by
  obtain ⟨ta, h1, h2⟩ := ha
  obtain ⟨tr, h3, h4⟩ := hr
  refine ⟨_, fun i => pa_cons (h1 i) (h3 i) (hs i), fun F H env σ A Q k h p hk hx => ?_⟩
  refine h2 F H env σ A _ _ h p (fun F1 H1 d v g1 r1 q1 => ?_) hx
  obtain ⟨f1, q1⟩ := q1
  refine h4 F1 H1 env σ A _ _ (h.grow g1) q1 (fun F2 H2 ds vs fp2 g2 r2 n2 z2 q2 => ?_) (fun F' H' x c dx g y z => hx F' H' x c dx (g1.trans g) (y.back g1.same) z)
  refine hk F2 H2 (d :: ds) (v :: vs) fp2 (g1.trans g2) ⟨v, vs, [], fp2, rfl, rfl, Rep.flatM ((r1.view g1.sub).flat f1) f1, r2⟩ n2 (fun x hx => ⟨g1.same.free (z2 x hx).1, (z2 x hx).2⟩) q2

/-! ### displays -/
theorem Grow.fresh {F H F' H' : Hp} (g : Grow F H F' H') {q : Addr} (hp : H' q = none) : H q = none := g.same.free hp
def pLst (ps : PXs) : PX := fun env Q => ps env fun ds => ds.length ≤ 100000 ∧ Q (.lst ds)
def pTup (ps : PXs) : PX := fun env Q => ps env fun ds => ds.length ≤ 100000 ∧ Q (.tup ds)
theorem RepMs.length {K : PySem.W.Frag} {F H : Hp} : ∀ {ds : List D} {m : M} {vs : List V} {fp : List Addr}, RepMs K F H ds m vs fp → vs.length = ds.length
  | [], m, vs, fp, h => by rw [h.1]; rfl
  | d :: ds, m, vs, fp, ⟨x, r, f1, f2, e1, e2, h1, h2⟩ => by rw [e1, List.length_cons, List.length_cons, RepMs.length h2]
theorem ge_lst (h : GO Z ms es m ps) : GE Z ms (.List es pos) (.ow (.el m)) (pLst ps) := by
  obtain ⟨ta, h1, h2⟩ := h
  refine ⟨_, fun i => pe_lst (h1 i), fun F H env σ A Q k h p hk hx => ?_⟩
  refine h2 F H env σ A _ _ h p (fun F1 H1 ds vs fq g1 r1 n1 z1 q1 => ?_) hx
  refine ⟨by rw [r1.length]; exact sz5 q1.1, fun q hq => ?_⟩
  have g2 : Grow F1 H1 F1 (upd H1 q (.lst vs)) := Grow.new g1.sub hq
  refine hk F1 _ (.lst ds) (.ref q) (g1.trans g2) ⟨q :: fq, ⟨q, vs, fq, rfl, rfl, upd_same, r1.grow g1.sub g2⟩, List.nodup_cons.mpr ⟨fun z => r1.dom q z hq, n1⟩, fun x hx => ?_⟩ q1.2
  rcases List.mem_cons.mp hx with w | w
  · subst w
    exact ⟨g1.fresh hq, g1.sub.none hq⟩
  · exact z1 x w
theorem ge_tup {x1 : Nat} (h : GO Z ms es m ps) : GE Z ms (.Tuple es x1 pos) (.ow (.el m)) (pTup ps) := by
  obtain ⟨ta, h1, h2⟩ := h
  refine ⟨_, fun i => pe_tup (h1 i), fun F H env σ A Q k h p hk hx => ?_⟩
  refine h2 F H env σ A _ _ h p (fun F1 H1 ds vs fq g1 r1 n1 z1 q1 => ?_) hx
  refine ⟨by rw [r1.length]; exact sz5 q1.1, fun q hq => ?_⟩
  have g2 : Grow F1 H1 F1 (upd H1 q (.tup vs)) := Grow.new g1.sub hq
  refine hk F1 _ (.tup ds) (.ref q) (g1.trans g2) ⟨q :: fq, ⟨q, vs, fq, rfl, rfl, upd_same, r1.grow g1.sub g2⟩, List.nodup_cons.mpr ⟨fun z => r1.dom q z hq, n1⟩, fun x hx => ?_⟩ q1.2
  rcases List.mem_cons.mp hx with w | w
  · subst w
    exact ⟨g1.fresh hq, g1.sub.none hq⟩
  · exact z1 x w

/-! ### defs: what one promises of plain data -/
abbrev PF := List D → (D → Prop) → (Xn → Prop) → Prop
/-- the promise: arguments are seen in F, a part of the heap that stays; the result is held so, all it owns new -/
def spG (K : PySem.W.Frag) (rm : M) (Pf : PF) : Sp := fun vs H Q E => ∃ (F : Hp) (ds : List D) (QD : D → Prop) (QX : Xn → Prop), Sub F H ∧ Reps K F ds vs ∧ Pf ds QD QX ∧
  (∀ F' H' d v fp, Grow F H F' H' → RepM K F' H' d rm v fp → fp.Nodup → (∀ a ∈ fp, H a = none ∧ F' a = none) → QD d → Q v H') ∧
  (∀ F' H' x c dx, Grow F H F' H' → RepX K H H' x c dx → QX x → E c dx H')
def pCall (Ex : Xn → Env → Prop) (Pf : PF) (dds : List D) (ps : PXs) : PX := fun env Q => ps env fun ds => Pf (ds ++ dds) Q fun x => Ex x env
/-- arguments only seen: what is shared of the result must be no object -/
def pCallV (Ex : Xn → Env → Prop) (Pf : PF) (rm : M) (dds : List D) (ps : PXs) : PX := fun env Q => ps env fun ds => Pf (ds ++ dds) (fun d => leafs d rm = true ∧ Q d) fun x => Ex x env
/-- a def of the module: its place, its promise -/
structure Df {Ex : Xn → Env → Prop} (Z : GX Ex) (x : Str) (rm : M) (Pf : PF) (dds : List D) : Prop where
  ex : ∃ (f : Addr) (fd : FuncData) (prm : List Str) (k : Nat) (CX : CXT) (ds : List Value) (dvs : List V), FnOk Z.P Z.w Z.K Z.mg Z.base CX k f fd prm (spG Z.K rm Pf) ∧ k ≤ Z.lv ∧ Z.mg x = some (.ref f) ∧ PySem.W.keepIn Z.K (.ref f) = true ∧
    Binds Z.K fd prm ds ∧ Vals dvs ds ∧ Reps Z.K (fun _ => none) dds dvs ∧ ∀ i σ, PassesAt CX (Z.X i) σ fun c d H => Z.E c d σ H
theorem Reps.nil {K : PySem.W.Frag} {F : Hp} {ds : List D} {vs : List V} (h : Reps K (fun _ => none) ds vs) : Reps K F ds vs := h.sub fun _ _ z => by cases z
theorem fn_at {f : Addr} {fd : FuncData} {prm : List Str} {k : Nat} {CX : CXT} {sp : Sp} (h : FnOk Z.P Z.w Z.K Z.mg Z.base CX k f fd prm sp) (i : Z.I) : FnOk (Z.X i).prog (Z.X i).w (Z.X i).K (Z.X i).mg (Z.X i).base CX k f fd prm sp := by
  rw [Z.hP, Z.hw, Z.hK, Z.hmg, Z.hb]
  exact h
theorem se_call {t : TA} {rm : M} {Pf : PF} {dds : List D} {dvs : List V} (hd : Reps Z.K (fun _ => none) dds dvs) (h2 : SO Z ms t .sh ps) : SE Z ms (tCallSD (spG Z.K rm Pf) dvs (fun σ c d H => Z.E c d σ H) t) (.ow rm) (pCall Ex Pf dds ps) := by
  intro F H env σ A Q k h p hk hx
  refine h2 F H env σ A _ _ h p (fun F1 H1 ds vs fq g1 r1 n1 z1 q1 => ?_) hx
  refine ⟨F1, ds ++ dds, Q, fun x => Ex x env, g1.sub, (RepMs.sh r1).2.append hd.nil, q1, fun F' H' d v fp g r n z q => ?_, fun F' H' x c dx g y z => hx F' H' x c dx (g1.trans g) (y.back g1.same) z⟩
  exact hk F' H' d v (g1.trans g) ⟨fp, r, n, fun a ha => ⟨g1.fresh (z a ha).1, (z a ha).2⟩⟩ q
theorem se_callV {t : TA} {rm : M} {Pf : PF} {dds : List D} {dvs : List V} (hd : Reps Z.K (fun _ => none) dds dvs) (h2 : SV Z ms t ps) : SE Z ms (tCallSD (spG Z.K rm Pf) dvs (fun σ c d H => Z.E c d σ H) t) (.ow rm) (pCallV Ex Pf rm dds ps) := by
  intro F H env σ A Q k h p hk hx
  refine h2 F H env σ A _ _ h p (fun F1 H1 ds vs g1 r1 q1 => ?_) hx
  have back : ∀ {F' H' : Hp}, Grow H1 H1 F' H' → Grow F1 H1 F1 H' := fun {F' H'} g => ⟨fun a u e => by
    have s1 : Sub F1 H1 := g1.sub
    rcases s1 a u e with q | ⟨d, o, q⟩
    · exact .inl (g.same a u q)
    · exact .inr ⟨d, o, g.same a _ q⟩, g.same, fun _ _ => rfl⟩
  refine ⟨H1, ds ++ dds, fun d => leafs d rm = true ∧ Q d, fun x => Ex x env, Sub.refl H1, r1.append hd.nil, q1, fun F' H' d v fp g r n z q => ?_, fun F' H' x c dx g y z => hx F1 H' x c dx (g1.trans (back g)) (y.back g1.same) z⟩
  exact hk F1 H' d v (g1.trans (back g)) ⟨fp, r.leafs q.1, n, fun a ha => ⟨g1.fresh (z a ha).1, g1.sub.none (z a ha).1⟩⟩ q.2
/-- f(e, ..), the arguments shared -/
theorem ge_call {x : Str} {p2 : Pos} {rm : M} {Pf : PF} {dds : List D} (Gd : Df Z x rm Pf dds) (ha : GO Z ms (a :: es) .sh ps) (hg : ∀ i, Gl (Z.X i) x := by intro i; rfl) (hdb : (x == ("__debug__" : Str)) = false := by decide)
    (he : ∀ i, starEach (a :: es) (Z.X i).env = (false, eval a (Z.X i).env) :: starEach es (Z.X i).env := by intro i; rfl) (hpl : ∀ i, (backTo pos (starEach es (Z.X i).env)).any (·.1) = false := by intro i; rfl) (hcm : Z.cm = true := by rfl) :
    GE Z ms (.Call (.Name x p2) (a :: es) [] pos) (.ow rm) (pCall Ex Pf dds ps) := by
  obtain ⟨t, h1, h2⟩ := ha
  obtain ⟨f, fd, prm, k, CX, ds, dvs, F, hk, hm, kp, b, hd, hdd, hx⟩ := Gd.ex
  exact ⟨_, fun i => pe_callSD (fn_at F i) ((Z.room hcm i).mono hk) (hg i) (by rw [Z.hmg]; exact hm) (by rw [Z.hK]; exact kp) (by rw [Z.hK]; exact b) hd (hx i) (h1 i) hdb (he i) (hpl i), se_call hdd h2⟩
theorem ge_callV {x : Str} {p2 : Pos} {rm : M} {Pf : PF} {dds : List D} (Gd : Df Z x rm Pf dds) (ha : GV Z ms (a :: es) ps) (hg : ∀ i, Gl (Z.X i) x := by intro i; rfl) (hdb : (x == ("__debug__" : Str)) = false := by decide)
    (he : ∀ i, starEach (a :: es) (Z.X i).env = (false, eval a (Z.X i).env) :: starEach es (Z.X i).env := by intro i; rfl) (hpl : ∀ i, (backTo pos (starEach es (Z.X i).env)).any (·.1) = false := by intro i; rfl) (hcm : Z.cm = true := by rfl) :
    GE Z ms (.Call (.Name x p2) (a :: es) [] pos) (.ow rm) (pCallV Ex Pf rm dds ps) := by
  obtain ⟨t, h1, h2⟩ := ha
  obtain ⟨f, fd, prm, k, CX, ds, dvs, F, hk, hm, kp, b, hd, hdd, hx⟩ := Gd.ex
  exact ⟨_, fun i => pe_callSD (fn_at F i) ((Z.room hcm i).mono hk) (hg i) (by rw [Z.hmg]; exact hm) (by rw [Z.hK]; exact kp) (by rw [Z.hK]; exact b) hd (hx i) (h1 i) hdb (he i) (hpl i), se_callV hdd h2⟩

/-! ### fields, methods of instances -/
theorem lookup_zip {f : Str} : ∀ {ns : List Str} {vs : List V} {j : Nat}, ns.idxOf? f = some j → ns.length = vs.length → (ns.zip vs).lookup f = vs[j]?
  | [], vs, j, h, _ => by simp at h
  | n :: ns, [], j, _, l => by simp at l
  | n :: ns, v :: vs, j, h, l => by
    rw [List.idxOf?_cons] at h
    rw [List.zip_cons_cons, List.lookup_cons]
    by_cases e : n = f
    · subst e
      simp at h
      subst h
      simp
    · have e1 : (n == f) = false := beq_eq_false_iff_ne.mpr e
      have e2 : (f == n) = false := beq_eq_false_iff_ne.mpr (fun z => e z.symm)
      rw [if_neg (by rw [e1]; exact Bool.false_ne_true)] at h
      rw [e2]
      cases q : ns.idxOf? f with
      | none => rw [q] at h; cases h
      | some i =>
        rw [q] at h
        have : j = i + 1 := (Option.some.inj h).symm
        subst this
        rw [List.getElem?_cons_succ]
        exact lookup_zip q (by simpa using l)
theorem lookup_zip_none {f : Str} : ∀ {ns : List Str} {vs : List V}, ns.idxOf? f = none → (ns.zip vs).lookup f = none
  | [], vs, h => by simp
  | n :: ns, [], _ => by simp
  | n :: ns, v :: vs, h => by
    rw [List.idxOf?_cons] at h
    by_cases e : n = f
    · subst e; simp at h
    · have e1 : (n == f) = false := beq_eq_false_iff_ne.mpr e
      have e2 : (f == n) = false := beq_eq_false_iff_ne.mpr (fun z => e z.symm)
      rw [if_neg (by rw [e1]; exact Bool.false_ne_true)] at h
      rw [List.zip_cons_cons, List.lookup_cons, e2]
      cases q : ns.idxOf? f with
      | none => exact lookup_zip_none q
      | some i => rw [q] at h; cases h
/-- an instance of the class at C with the attributes ns, in this order -/
def pObj (C : Addr) (ns : List Str) (po : PX) (q : List D → (D → Prop) → Prop) : PX := fun env Q => po env fun o => ∃ ds, o = .obj C ns ds ∧ q ds Q
def pFld (C : Addr) (ns : List Str) (j : Nat) (po : PX) : PX := pObj C ns po fun ds Q => ∃ d, ds[j]? = some d ∧ Q d
/-- o.f, o only seen; o shared -/
theorem ge_fldV {C : Addr} {ns : List Str} {j : Nat} {f : Str} (cl : Cls Z.K C) (na : NoAttr Z.K C f) (hj : ns.idxOf? f = some j) (ha : GE Z ms a ra pa) (hb : ∀ i, attributeBase a f (Z.X i).env (eval a (Z.X i).env) = eval a (Z.X i).env := by intro i; rfl) :
    GE Z ms (.Attribute a f pos) .vw (pFld C ns j pa) := by
  obtain ⟨ta, h1, h2⟩ := ha
  refine ⟨tFld Z.K ta f, fun i => by rw [← Z.hK i]; exact pe_fld (h1 i) (hb i), fun F H env σ A Q k h p hk hx => ?_⟩
  refine h2 F H env σ A _ _ h p (fun F1 H1 d v g1 r1 q1 => ?_) hx
  obtain ⟨ds, rfl, d', e, q1⟩ := q1
  obtain ⟨q, dx, vs, rfl, e2, l, rs⟩ := r1.view g1.sub
  obtain ⟨v', e3, r3⟩ := rs.get e
  exact ⟨q, C, dx, _, v', rfl, e2, cl, na, (lookup_zip hj (by rw [l, rs.length])).trans e3, hk F1 H1 d' v' g1 r3 q1⟩
theorem ge_fld {C : Addr} {ns : List Str} {j : Nat} {f : Str} (cl : Cls Z.K C) (na : NoAttr Z.K C f) (hj : ns.idxOf? f = some j) (ha : GE Z ms a ra pa) (hp : ra.per = true := by rfl) (hb : ∀ i, attributeBase a f (Z.X i).env (eval a (Z.X i).env) = eval a (Z.X i).env := by intro i; rfl) :
    GE Z ms (.Attribute a f pos) (.ow .sh) (pFld C ns j pa) := by
  obtain ⟨ta, h1, h2⟩ := ha
  refine ⟨tFld Z.K ta f, fun i => by rw [← Z.hK i]; exact pe_fld (h1 i) (hb i), fun F H env σ A Q k h p hk hx => ?_⟩
  refine h2 F H env σ A _ _ h p (fun F0 H1 d v g0 r0 q1 => ?_) hx
  obtain ⟨F1, g1, _, r1, _⟩ := r0.share hp g0
  obtain ⟨ds, rfl, d', e, q1⟩ := q1
  obtain ⟨q, dx, vs, rfl, e2, l, rs⟩ := r1
  obtain ⟨v', e3, r3⟩ := rs.get e
  exact ⟨q, C, dx, _, v', rfl, g1.sub.ins e2, cl, na, (lookup_zip hj (by rw [l, rs.length])).trans e3, hk F1 H1 d' v' g1 ⟨[], RepM.sh.mpr ⟨rfl, r3⟩, List.nodup_nil, fun _ z => by cases z⟩ q1⟩
/-- a method of a class -/
structure Md {Ex : Xn → Env → Prop} (Z : GX Ex) (C : Addr) (m : Str) (rm : M) (Pf : PF) (dds : List D) : Prop where
  ex : ∃ (f : Addr) (fd : FuncData) (prm : List Str) (k : Nat) (CX : CXT) (ds : List Value) (dvs : List V), FnOk Z.P Z.w Z.K Z.mg Z.base CX k f fd prm (spG Z.K rm Pf) ∧ k ≤ Z.lv ∧ Cls Z.K C ∧ Meth Z.K C m f ∧
    Binds Z.K fd prm ds ∧ Vals dvs ds ∧ Reps Z.K (fun _ => none) dds dvs ∧ ∀ i, Passes CX (Z.X i) (fun _ _ _ => False)
def pMeth (Ex : Xn → Env → Prop) (C : Addr) (ns : List Str) (Pf : PF) (dds : List D) (po : PX) (ps : PXs) : PX := fun env Q => po env fun o => (∃ ds, o = .obj C ns ds) ∧ ps env fun as => Pf (o :: (as ++ dds)) Q fun x => Ex x env
def pMethV (Ex : Xn → Env → Prop) (C : Addr) (ns : List Str) (Pf : PF) (rm : M) (dds : List D) (po : PX) (ps : PXs) : PX := fun env Q => po env fun o => (∃ ds, o = .obj C ns ds) ∧ ps env fun as => Pf (o :: (as ++ dds)) (fun d => leafs d rm = true ∧ Q d) fun x => Ex x env
theorem se_meth {C : Addr} {ns : List Str} {m : Str} {t : TA} {rm : M} {Pf : PF} {dds : List D} {dvs : List V} (hn : ns.idxOf? m = none) (hd : Reps Z.K (fun _ => none) dds dvs) (ha : SE Z ms ta ra pa) (hp : ra.per = true) (h2 : SO Z ms t .sh ps) :
    SE Z ms (tMeth C m (spG Z.K rm Pf) dvs (fun _ _ _ => False) ta t) (.ow rm) (pMeth F0 C ns Pf dds pa ps) := by
  intro F H env σ A Q k h p hk hx
  refine ha F H env σ A _ _ h p (fun F0 H0 d v g0 r0 q0 => ?_) hx
  obtain ⟨F1, g1, _, r1, _⟩ := r0.share hp g0
  obtain ⟨⟨ds, rfl⟩, q0⟩ := q0
  have r1' := r1
  obtain ⟨q, dx, vs, rfl, e2, l, rs⟩ := r1
  refine ⟨q, dx, _, rfl, g1.sub.ins e2, lookup_zip_none hn, ?_⟩
  refine h2 F1 H0 env σ A _ _ (h.grow g1) q0 (fun F2 H2 as us fq g2 r2 n2 z2 q2 => ?_) (fun F' H' x c dx g y z => hx F' H' x c dx (g1.trans g) (y.back g1.same) z)
  have r1'' := r1'.sub (g2.subF g1.sub)
  refine ⟨F2, .obj C ns ds :: (as ++ dds), Q, fun x => False, g2.sub, ⟨_, _, rfl, r1'', (RepMs.sh r2).2.append hd.nil⟩, q2, fun F' H' d v fp g r n z q => ?_, fun F' H' x c dx g y z => z.elim⟩
  exact hk F' H' d v ((g1.trans g2).trans g) ⟨fp, r, n, fun a ha => ⟨(g1.trans g2).fresh (z a ha).1, (z a ha).2⟩⟩ q
theorem se_methV {C : Addr} {ns : List Str} {m : Str} {t : TA} {rm : M} {Pf : PF} {dds : List D} {dvs : List V} (hn : ns.idxOf? m = none) (hd : Reps Z.K (fun _ => none) dds dvs) (ha : SE Z ms ta ra pa) (h2 : SV Z ms t ps) :
    SE Z ms (tMeth C m (spG Z.K rm Pf) dvs (fun _ _ _ => False) ta t) (.ow rm) (pMethV F0 C ns Pf rm dds pa ps) := by
  intro F H env σ A Q k h p hk hx
  refine ha F H env σ A _ _ h p (fun F1 H0 d v g1 r0 q0 => ?_) hx
  have r1 := r0.view g1.sub
  obtain ⟨⟨ds, rfl⟩, q0⟩ := q0
  have r1' := r1
  obtain ⟨q, dx, vs, rfl, e2, l, rs⟩ := r1
  refine ⟨q, dx, _, rfl, e2, lookup_zip_none hn, ?_⟩
  refine h2 F1 H0 env σ A _ _ (h.grow g1) q0 (fun F2 H2 as us g2 r2 q2 => ?_) (fun F' H' x c dx g y z => hx F' H' x c dx (g1.trans g) (y.back g1.same) z)
  have r1'' := Rep.grow r1' g2
  have g12 := g1.trans g2
  have back : ∀ {F' H' : Hp}, Grow H2 H2 F' H' → Grow F2 H2 F2 H' := fun {F' H'} g => ⟨fun a u e => by
    have s1 : Sub F2 H2 := g12.sub
    rcases s1 a u e with q | ⟨d, o, q⟩
    · exact .inl (g.same a u q)
    · exact .inr ⟨d, o, g.same a _ q⟩, g.same, fun _ _ => rfl⟩
  refine ⟨H2, .obj C ns ds :: (as ++ dds), fun d => leafs d rm = true ∧ Q d, fun x => False, Sub.refl H2, ⟨_, _, rfl, r1'', r2.append hd.nil⟩, q2, fun F' H' d v fp g r n z q => ?_, fun F' H' x c dx g y z => z.elim⟩
  exact hk F2 H' d v (g12.trans (back g)) ⟨fp, r.leafs q.1, n, fun a ha => ⟨g12.fresh (z a ha).1, g12.sub.none (z a ha).1⟩⟩ q.2
theorem ge_meth {C : Addr} {ns : List Str} {m : Str} {apos : Pos} {rm : M} {Pf : PF} {dds : List D} {pl : Z.I → Sem Bool} (Gd : Md Z C m rm Pf dds) (hn : ns.idxOf? m = none) (ho : GE Z ms a ra pa) (ha : GO Z ms (b :: es) .sh ps) (hp : ra.per = true := by rfl)
    (hst : ∀ i, starEach (b :: es) (Z.X i).env = (false, eval b (Z.X i).env) :: starEach es (Z.X i).env := by intro i; rfl) (hpl : ∀ i, (backTo pos (starEach es (Z.X i).env)).any (·.1) = false := by intro i; rfl)
    (ht : ∀ i, eval (.Call (.Attribute a m apos) (b :: es) [] pos) (Z.X i).env = (do
      let ov ← eval a (Z.X i).env
      standAt apos.atName
      let (f, first) ← holding [ov] (getMethod ov m (pl i))
      callWith pos f first (backTo pos (starEach (b :: es) (Z.X i).env)) (backToKw pos (keywordEach [] (Z.X i).env))) := by intro i; rfl) (hcm : Z.cm = true := by rfl) :
    GE Z ms (.Call (.Attribute a m apos) (b :: es) [] pos) (.ow rm) (pMeth F0 C ns Pf dds pa ps) := by
  obtain ⟨ta, h1, h2⟩ := ho
  obtain ⟨t, h3, h4⟩ := ha
  obtain ⟨f, fd, prm, k, CX, ds, dvs, F, hk, c, mt, b, hd, hdd, hx⟩ := Gd.ex
  exact ⟨_, fun i => pe_meth (h1 i) (by rw [Z.hK]; exact c) (by rw [Z.hK]; exact mt) (fn_at F i) ((Z.room hcm i).mono hk) (by rw [Z.hK]; exact b) hd (hx i) (h3 i) (hst i) (hpl i) (ht i), se_meth hn hdd h2 hp h4⟩
theorem ge_methV {C : Addr} {ns : List Str} {m : Str} {apos : Pos} {rm : M} {Pf : PF} {dds : List D} {pl : Z.I → Sem Bool} (Gd : Md Z C m rm Pf dds) (hn : ns.idxOf? m = none) (ho : GE Z ms a ra pa) (ha : GV Z ms (b :: es) ps)
    (hst : ∀ i, starEach (b :: es) (Z.X i).env = (false, eval b (Z.X i).env) :: starEach es (Z.X i).env := by intro i; rfl) (hpl : ∀ i, (backTo pos (starEach es (Z.X i).env)).any (·.1) = false := by intro i; rfl)
    (ht : ∀ i, eval (.Call (.Attribute a m apos) (b :: es) [] pos) (Z.X i).env = (do
      let ov ← eval a (Z.X i).env
      standAt apos.atName
      let (f, first) ← holding [ov] (getMethod ov m (pl i))
      callWith pos f first (backTo pos (starEach (b :: es) (Z.X i).env)) (backToKw pos (keywordEach [] (Z.X i).env))) := by intro i; rfl) (hcm : Z.cm = true := by rfl) :
    GE Z ms (.Call (.Attribute a m apos) (b :: es) [] pos) (.ow rm) (pMethV F0 C ns Pf rm dds pa ps) := by
  obtain ⟨ta, h1, h2⟩ := ho
  obtain ⟨t, h3, h4⟩ := ha
  obtain ⟨f, fd, prm, k, CX, ds, dvs, F, hk, c, mt, b, hd, hdd, hx⟩ := Gd.ex
  exact ⟨_, fun i => pe_meth (h1 i) (by rw [Z.hK]; exact c) (by rw [Z.hK]; exact mt) (fn_at F i) ((Z.room hcm i).mono hk) (by rw [Z.hK]; exact b) hd (hx i) (h3 i) (hst i) (hpl i) (ht i), se_methV hn hdd h2 h4⟩
theorem ge_meth0 {C : Addr} {ns : List Str} {m : Str} {apos : Pos} {rm : M} {Pf : PF} {dds : List D} {pl : Z.I → Sem Bool} (Gd : Md Z C m rm Pf dds) (hn : ns.idxOf? m = none) (ho : GE Z ms a ra pa) (hp : ra.per = true := by rfl)
    (ht : ∀ i, eval (.Call (.Attribute a m apos) [] [] pos) (Z.X i).env = (do
      let ov ← eval a (Z.X i).env
      standAt apos.atName
      let (f, first) ← holding [ov] (getMethod ov m (pl i))
      callWith pos f first (backTo pos (starEach [] (Z.X i).env)) (backToKw pos (keywordEach [] (Z.X i).env))) := by intro i; rfl) (hcm : Z.cm = true := by rfl) :
    GE Z ms (.Call (.Attribute a m apos) [] [] pos) (.ow rm) (pMeth F0 C ns Pf dds pa pNil) := by
  obtain ⟨ta, h1, h2⟩ := ho
  obtain ⟨f, fd, prm, k, CX, ds, dvs, F, hk, c, mt, b, hd, hdd, hx⟩ := Gd.ex
  exact ⟨_, fun i => pe_meth0 (h1 i) (by rw [Z.hK]; exact c) (by rw [Z.hK]; exact mt) (fn_at F i) ((Z.room hcm i).mono hk) (by rw [Z.hK]; exact b) hd (hx i) (ht i), se_meth hn hdd h2 hp (fun F H env σ A Q k h p hk hx => hk F H [] [] [] (Grow.refl h.sub) ⟨rfl, rfl⟩ List.nodup_nil (fun _ z => by cases z) p)⟩
theorem ge_methV0 {C : Addr} {ns : List Str} {m : Str} {apos : Pos} {rm : M} {Pf : PF} {dds : List D} {pl : Z.I → Sem Bool} (Gd : Md Z C m rm Pf dds) (hn : ns.idxOf? m = none) (ho : GE Z ms a ra pa)
    (ht : ∀ i, eval (.Call (.Attribute a m apos) [] [] pos) (Z.X i).env = (do
      let ov ← eval a (Z.X i).env
      standAt apos.atName
      let (f, first) ← holding [ov] (getMethod ov m (pl i))
      callWith pos f first (backTo pos (starEach [] (Z.X i).env)) (backToKw pos (keywordEach [] (Z.X i).env))) := by intro i; rfl) (hcm : Z.cm = true := by rfl) :
    GE Z ms (.Call (.Attribute a m apos) [] [] pos) (.ow rm) (pMethV F0 C ns Pf rm dds pa pNil) := by
  obtain ⟨ta, h1, h2⟩ := ho
  obtain ⟨f, fd, prm, k, CX, ds, dvs, F, hk, c, mt, b, hd, hdd, hx⟩ := Gd.ex
  exact ⟨_, fun i => pe_meth0 (h1 i) (by rw [Z.hK]; exact c) (by rw [Z.hK]; exact mt) (fn_at F i) ((Z.room hcm i).mono hk) (by rw [Z.hK]; exact b) hd (hx i) (ht i), se_methV hn hdd h2 (fun F H env σ A Q k h p hk hx => hk F H [] [] (Grow.refl h.sub) rfl p)⟩
end
end G

set_option Elab.async false
set_option linter.all false
set_option maxRecDepth 100000
set_option maxHeartbeats 4000000
/-! G5: comparisons, tests, subscripts, built-ins. -/
namespace G
open PySem L2

section
variable {Ex : Xn → Env → Prop} {Z : GX Ex} {ms : List SM} {a b c e : Expr} {es : List Expr} {ta tb te : TE} {ra rb rc r : RM} {pa pb pc p : PX} {ps : PXs} {pos : Pos} {m : M}

/-! ### comparisons by values -/
def CmpOk {Ex : Xn → Env → Prop} (Z : GX Ex) (op : CmpOp) (q : D → D → (D → Prop) → Prop) : Prop := ∃ o : R2, (∀ i, OpR (Z.X i) (compareOp op) o) ∧ OpF Z.K o q
theorem ge_cmp {op : CmpOp} {q : D → D → (D → Prop) → Prop} (c : CmpOk Z op q) (ha : GE Z ms a ra pa) (hb : GE Z ms b rb pb) (hm : behindInMarks op b = false := by first | exact nomark _ | rfl) :
    GE Z ms (.Compare a [op] [b] pos) (.ow .sh) (pBin q pa pb) := by
  obtain ⟨o, h1, h2⟩ := c
  exact ge_cmpF h1 h2 hm ha hb
def qLt := qI0 fun i j => .bl (decide (i < j))
def qLe := qI0 fun i j => .bl (decide (i ≤ j))
def qGt := qI0 fun i j => .bl (decide (j < i))
def qGe := qI0 fun i j => .bl (decide (j ≤ i))
theorem cm_lt : CmpOk Z .Lt qLt := ⟨_, fun _ => op_lt, opF_I0 fun _ _ _ => rfl⟩
theorem cm_le : CmpOk Z .LtE qLe := ⟨_, fun _ => op_le, opF_I0 fun _ _ _ => rfl⟩
theorem cm_gt : CmpOk Z .Gt qGt := ⟨_, fun _ => op_gt, opF_I0 fun _ _ _ => rfl⟩
theorem cm_ge : CmpOk Z .GtE qGe := ⟨_, fun _ => op_ge, opF_I0 fun _ _ _ => rfl⟩
theorem cm_eq : CmpOk Z .Eq qEq := ⟨rEqD Z.K, fun i => by rw [← Z.hK i]; exact op_eqD (Z.units i), opF_eq⟩
theorem cm_ne : CmpOk Z .NotEq qNe := ⟨rNeD Z.K, fun i => by rw [← Z.hK i]; exact op_neD (Z.units i), opF_ne⟩
def qIsN : D → D → (D → Prop) → Prop := fun x y Q => y = .non ∧ Q (.bl (isN x))
def qNotN : D → D → (D → Prop) → Prop := fun x y Q => y = .non ∧ Q (.bl (!isN x))
theorem cm_isN : CmpOk Z .Is qIsN := ⟨_, fun _ => op_isN, by
  rintro H d e v u Q k h1 h2 ⟨rfl, q⟩ hk
  exact ⟨h2, by rw [rep_non h1]; exact hk (.bl _) _ (fun _ => rfl) q⟩⟩
theorem cm_notN : CmpOk Z .IsNot qNotN := ⟨_, fun _ => op_notN, by
  rintro H d e v u Q k h1 h2 ⟨rfl, q⟩ hk
  exact ⟨h2, by rw [rep_non h1]; exact hk (.bl _) _ (fun _ => rfl) q⟩⟩
def qIsB : D → D → (D → Prop) → Prop := fun x y Q => ∃ i j, x = .bl i ∧ y = .bl j ∧ Q (.bl (decide (i = j)))
theorem cm_isB : CmpOk Z .Is qIsB := ⟨_, fun _ => op_isBl, by
  rintro H d e v u Q k h1 h2 ⟨i, j, rfl, rfl, q⟩ hk
  exact ⟨i, j, h1, h2, hk (.bl _) _ (fun _ => rfl) q⟩⟩
/-- None, bools, ints, texts -/
def flatS : D → Bool
  | .non => true
  | .bl _ => true
  | .int _ => true
  | .str _ => true
  | _ => false
/-- == of such -/
def eqS : D → D → Bool
  | .non, .non => true
  | .bl a, .bl b => a == b
  | .bl a, .int b => (if a then 1 else 0) == b
  | .int a, .bl b => a == (if b then 1 else 0)
  | .int a, .int b => a == b
  | .str a, .str b => a == b
  | _, _ => false
def absS : D → V
  | .non => .non
  | .bl b => .bl b
  | .int i => .int i
  | .str s => .str s
  | _ => .non
theorem rep_flatS {K : PySem.W.Frag} {F : Hp} {d : D} {v : V} (h : Rep K F d v) (f : flatS d = true) : v = absS d ∧ flatV v = true := by
  cases d <;> first
    | (cases f; done)
    | (rw [show v = _ from h]; exact ⟨rfl, rfl⟩)
theorem eqS_V {d e : D} (h1 : flatS d = true) (h2 : flatS e = true) : eqV (absS d) (absS e) = eqS d e := by
  cases d <;> cases e <;> first
    | (cases h1; done)
    | (cases h2; done)
    | rfl
/-- x in a row of such -/
def inS (x : D) (ds : List D) : Bool := ds.any fun y => eqS y x
theorem reps_flatS {K : PySem.W.Frag} {F : Hp} : ∀ {ds : List D} {vs : List V}, Reps K F ds vs → ds.all flatS = true → vs = ds.map absS ∧ vs.all flatV = true
  | [], vs, h, _ => by rw [show vs = [] from h]; exact ⟨rfl, rfl⟩
  | d :: ds, vs, ⟨x, r, e, h1, h2⟩, f => by
    rw [List.all_cons, Bool.and_eq_true] at f
    obtain ⟨q1, q2⟩ := rep_flatS h1 f.1
    obtain ⟨q3, q4⟩ := reps_flatS h2 f.2
    subst e
    refine ⟨by rw [q1, q3]; rfl, by rw [List.all_cons, q2, q4]; rfl⟩
theorem inS_V {x : D} (hx : flatS x = true) : ∀ {ds : List D}, ds.all flatS = true → inV (absS x) (ds.map absS) = inS x ds
  | [], _ => rfl
  | d :: ds, f => by
    rw [List.all_cons, Bool.and_eq_true] at f
    have ih := inS_V hx f.2
    show (eqV (absS d) (absS x) || inV (absS x) (ds.map absS)) = (eqS d x || inS x ds)
    rw [ih, eqS_V f.1 hx]
/-- a list's or a tuple's items -/
def itemsD : D → Option (List D)
  | .lst ds => some ds
  | .tup ds => some ds
  | .scr ns => some (ns.map .int)
  | .tpi ns => some (ns.map .int)
  | _ => none
theorem items_rep {K : PySem.W.Frag} {H : Hp} {d : D} {v : V} {ds : List D} (h : Rep K H d v) (e : itemsD d = some ds) : ∃ p vs, v = .ref p ∧ (SqL K H p vs ∨ SqT K H p vs) ∧ Reps K H ds vs := by
  cases d <;> first
    | (cases e; done)
    | (cases e; obtain ⟨p, vs, e1, q, r⟩ := h; exact ⟨p, vs, e1, .inl (SqL.of q), r⟩)
    | (cases e; obtain ⟨p, vs, e1, q, r⟩ := h; exact ⟨p, vs, e1, .inr (SqT.of q), r⟩)
    | (cases e; obtain ⟨p, e1, q⟩ := h; exact ⟨p, _, e1, .inl q, Reps.ints.mpr rfl⟩)
    | (cases e; obtain ⟨p, o, e1, q, _⟩ := h; exact ⟨p, _, e1, .inr (.inl (.inr ⟨o, q⟩)), Reps.ints.mpr rfl⟩)
def qIn (neg : Bool) : D → D → (D → Prop) → Prop := fun x y Q => ∃ ds, itemsD y = some ds ∧ flatS x = true ∧ ds.all flatS = true ∧ Q (.bl (if neg then !inS x ds else inS x ds))
theorem opF_in {K : PySem.W.Frag} {neg : Bool} : OpF K (rIn K neg) (qIn neg) := by
  rintro H d e v u Q k h1 h2 ⟨ds, i1, fx, fs, q⟩ hk
  obtain ⟨p, vs, rfl, s, r⟩ := items_rep h2 i1
  obtain ⟨e1, f1⟩ := rep_flatS h1 fx
  obtain ⟨e2, f2⟩ := reps_flatS r fs
  refine ⟨p, vs, rfl, s, f1, f2, ?_⟩
  rw [e1, e2, inS_V fx fs]
  exact hk (.bl _) _ (fun _ => rfl) q
theorem cm_in : CmpOk Z .In (qIn false) := ⟨rIn Z.K false, fun i => by rw [← Z.hK i]; exact op_in_seq, opF_in⟩
theorem cm_notIn : CmpOk Z .NotIn (qIn true) := ⟨rIn Z.K true, fun i => by rw [← Z.hK i]; exact op_notIn_seq, opF_in⟩

/-! ### tests -/
abbrev PB := Env → (Bool → Prop) → Prop
def SB {Ex : Xn → Env → Prop} (Z : GX Ex) (ms : List SM) (t : TT) (p : PB) : Prop :=
  ∀ (F H : Hp) (env : Env) (σ : St) (A : List Addr) (Q : Bool → Prop) (k : Bool → Hp → Prop), StOk Z.K ms F H env σ A → p env Q →
    (∀ F' H' d, Grow F H F' H' → Q d → k d H') →
    (∀ F' H' x c dx, Grow F H F' H' → RepX Z.K H H' x c dx → Ex x env → Z.E c dx σ H') → t σ H k
def GB {Ex : Xn → Env → Prop} (Z : GX Ex) (ms : List SM) (e : Expr) (p : PB) : Prop := ∃ t : TT, (∀ i, PT (Z.X i) e t) ∧ SB Z ms t p
/-- and, or: whatever stands around -/
def GW {Ex : Xn → Env → Prop} (Z : GX Ex) (ms : List SM) (e : Expr) (p : PB) : Prop := ∃ t : TT, (∀ i, PW (Z.X i) e t) ∧ SB Z ms t p
theorem GW.gb {pb : PB} (h : GW Z ms e pb) : GB Z ms e pb := by
  obtain ⟨t, h1, h2⟩ := h
  exact ⟨t, fun i => (h1 i).pt, h2⟩
/-- of a value that is a bool -/
def bTest (pa : PX) : PB := fun env Q => pa env fun d => ∃ b, d = .bl b ∧ Q b
theorem sb_test (h2 : SE Z ms te r p) : SB Z ms (tTest te) (bTest p) := fun F H env σ A Q k h q hk hx =>
  h2 F H env σ A _ _ h q (fun F1 H1 d v g1 r1 q1 => by
    obtain ⟨b, rfl, q1⟩ := q1
    exact ⟨b, r1.view g1.sub, hk F1 H1 b g1 q1⟩) hx
theorem gb_cmp {op : CmpOp} {q : D → D → (D → Prop) → Prop} (c : CmpOk Z op q) (ha : GE Z ms a ra pa) (hb : GE Z ms b rb pb) (hm : behindInMarks op b = false := by first | exact nomark _ | rfl) :
    GB Z ms (.Compare a [op] [b] pos) (bTest (pBin q pa pb)) := by
  obtain ⟨o, h1, h2⟩ := c
  obtain ⟨ta, h3, h4⟩ := ha
  obtain ⟨tb, h5, h6⟩ := hb
  exact ⟨_, fun i => pt_cmpR (h1 i) (h3 i) (h5 i) hm, sb_test (se_opF h2 h4 h6)⟩
/-- a < b < c -/
def pChain (q q' : D → D → (D → Prop) → Prop) (pa pb pc : PX) : PX := fun env Q => pa env fun x => pb env fun y => q x y fun z => ∃ k, z = .bl k ∧ (k = true → pc env fun w => q' y w Q) ∧ (k = false → Q (.bl false))
theorem se_chain {o o' : R2} {q q' : D → D → (D → Prop) → Prop} {tc : TE} (h1 : OpF Z.K o q) (h2 : OpF Z.K o' q') (ha : SE Z ms ta ra pa) (hb : SE Z ms tb rb pb) (hc : SE Z ms tc rc pc) : SE Z ms (tChain o o' ta tb tc) (.ow .sh) (pChain q q' pa pb pc) := by
  intro F H env σ A Q k h p hk hx
  have fin : ∀ {F' H' : Hp} (d : D) (v : V), Grow F H F' H' → (∀ F, Rep Z.K F d v) → Q d → k v H' := fun {F' H'} d v g r q => hk F' H' d v g ⟨[], RepM.sh.mpr ⟨rfl, r F'⟩, List.nodup_nil, fun _ z => by cases z⟩ q
  refine se_two ha hb h p hx fun F1 H1 d e v u g r1 r2 z => ?_
  refine h1 H1 d e v u _ _ (r1.view g.sub) (r2.view g.sub) z fun d' v' hr q' => ?_
  obtain ⟨b, rfl, k1, k2⟩ := q'
  have ev : v' = .bl b := hr F
  subst ev
  refine ⟨b, rfl, ?_⟩
  cases b with
  | true =>
    rw [if_pos rfl]
    refine hc F1 H1 env σ A _ _ (h.grow g) (k1 rfl) (fun F2 H2 w x g2 r3 q3 => ?_) (fun F' H' x c dx g' y z => hx F' H' x c dx (g.trans g') (y.back g.same) z)
    exact h2 H2 e w u x Q k (Rep.grow (r2.view g.sub) g2) (r3.view g2.sub) q3 fun d' v' hr q' => fin d' v' (g.trans g2) hr q'
  | false =>
    rw [if_neg Bool.false_ne_true]
    exact fin (.bl false) _ g (fun _ => rfl) (k2 rfl)
theorem ge_chain {op op' : CmpOp} {q q' : D → D → (D → Prop) → Prop} {c : Expr} (c1 : CmpOk Z op q) (c2 : CmpOk Z op' q') (ha : GE Z ms a ra pa) (hb : GE Z ms b rb pb) (hc : GE Z ms c rc pc)
    (hm : lastMarks [op, op'] [b, c] = false := by with_unfolding_all rfl) : GE Z ms (.Compare a [op, op'] [b, c] pos) (.ow .sh) (pChain q q' pa pb pc) := by
  obtain ⟨o, h1, h2⟩ := c1
  obtain ⟨o', h1', h2'⟩ := c2
  obtain ⟨ta, h3, h4⟩ := ha
  obtain ⟨tb, h5, h6⟩ := hb
  obtain ⟨tc, h7, h8⟩ := hc
  exact ⟨_, fun i => pe_chain (h1 i) (h1' i) (h3 i) (h5 i) (h7 i) hm, se_chain h2 h2' h4 h6 h8⟩
theorem gb_chain {op op' : CmpOp} {q q' : D → D → (D → Prop) → Prop} {c : Expr} (c1 : CmpOk Z op q) (c2 : CmpOk Z op' q') (ha : GE Z ms a ra pa) (hb : GE Z ms b rb pb) (hc : GE Z ms c rc pc)
    (hm : lastMarks [op, op'] [b, c] = false := by with_unfolding_all rfl) : GB Z ms (.Compare a [op, op'] [b, c] pos) (bTest (pChain q q' pa pb pc)) := by
  obtain ⟨o, h1, h2⟩ := c1
  obtain ⟨o', h1', h2'⟩ := c2
  obtain ⟨ta, h3, h4⟩ := ha
  obtain ⟨tb, h5, h6⟩ := hb
  obtain ⟨tc, h7, h8⟩ := hc
  exact ⟨_, fun i => pt_chain (h1 i) (h1' i) (h3 i) (h5 i) (h7 i) hm, sb_test (se_chain h2 h2' h4 h6 h8)⟩
/-- the truth of data -/
def truD : D → Option Bool
  | .non => some false
  | .bl b => some b
  | .int i => some (i != 0)
  | .lst ds => some (!ds.isEmpty)
  | .tup ds => some (!ds.isEmpty)
  | .scr ns => some (!ns.isEmpty)
  | .tpi ns => some (!ns.isEmpty)
  | .str s => if s.length ≤ 100000 then some ((s.length : Int) != 0) else none
  | _ => none
theorem tru_rep {K : PySem.W.Frag} {H : Hp} {d : D} {v : V} {k : Bool} (h : Rep K H d v) (e : truD d = some k) : TruV K v H k := by
  have ie : ∀ {ds : List D} {vs : List V}, Reps K H ds vs → (!ds.isEmpty) = !vs.isEmpty := fun {ds vs} r => by
    have := r.length
    cases ds <;> cases vs <;> simp_all
  cases d with
  | non => rw [show v = _ from h]; exact (Option.some.inj e).symm
  | bl b => rw [show v = _ from h]; exact (Option.some.inj e).symm
  | int b => rw [show v = _ from h]; exact (Option.some.inj e).symm
  | str s =>
    rw [show v = _ from h]
    by_cases c : s.length ≤ 100000
    · simp only [truD, if_pos c] at e
      exact ⟨sz5 c, (Option.some.inj e).symm⟩
    · simp only [truD, if_neg c] at e
      cases e
  | lst ds =>
    obtain ⟨p, vs, rfl, q, r⟩ := h
    exact .inl ⟨vs, SqL.of q, by rw [← ie r]; exact (Option.some.inj e).symm⟩
  | tup ds =>
    obtain ⟨p, vs, rfl, q, r⟩ := h
    exact .inr (.inl ⟨vs, SqT.of q, by rw [← ie r]; exact (Option.some.inj e).symm⟩)
  | scr ns =>
    obtain ⟨p, rfl, q⟩ := h
    refine .inl ⟨_, q, ?_⟩
    have : (!ns.isEmpty) = k := Option.some.inj e
    rw [← this]
    cases ns <;> rfl
  | tpi ns =>
    obtain ⟨p, o, rfl, q, _⟩ := h
    refine .inr (.inl ⟨_, .inl (.inr ⟨o, q⟩), ?_⟩)
    have : (!ns.isEmpty) = k := Option.some.inj e
    rw [← this]
    cases ns <;> rfl
  | _ => cases e
def bTru (pa : PX) : PB := fun env Q => pa env fun d => ∃ b, truD d = some b ∧ Q b
theorem gb_tru (ha : GE Z ms a ra pa) (he : ∀ i, ∀ whole, isTrue a (Z.X i).env whole = (do let v ← whole; standAt a.pos; holding [v] (truthy v)) := by intro i whole; rfl) : GB Z ms a (bTru pa) := by
  obtain ⟨ta, h1, h2⟩ := ha
  refine ⟨fun σ H Q => ta σ H fun x H' => ∃ k, TruV Z.K x H' k ∧ Q k H', fun i => by rw [← Z.hK i]; exact pt_truth (h1 i) (he i), fun F H env σ A Q k h q hk hx => ?_⟩
  refine h2 F H env σ A _ _ h q (fun F1 H1 d v g1 r1 q1 => ?_) hx
  obtain ⟨b, e, q1⟩ := q1
  exact ⟨b, tru_rep (r1.view g1.sub) e, hk F1 H1 b g1 q1⟩
def bAnd (pa pb : PB) : PB := fun env Q => pa env fun x => (x = true → pb env Q) ∧ (x = false → Q false)
def bOr (pa pb : PB) : PB := fun env Q => pa env fun x => (x = true → Q true) ∧ (x = false → pb env Q)
def bNot (pa : PB) : PB := fun env Q => pa env fun x => Q (!x)
theorem sb_and {t u : TT} {pa pb : PB} (ha : SB Z ms t pa) (hb : SB Z ms u pb) : SB Z ms (tAnd t u) (bAnd pa pb) := by
  intro F H env σ A Q k h p hk hx
  refine ha F H env σ A _ _ h p (fun F1 H1 x g1 q1 => ?_) hx
  cases x with
  | true =>
    rw [if_pos rfl]
    exact hb F1 H1 env σ A _ _ (h.grow g1) (q1.1 rfl) (fun F2 H2 y g2 q2 => hk F2 H2 y (g1.trans g2) q2) (fun F' H' x c dx g' y z => hx F' H' x c dx (g1.trans g') (y.back g1.same) z)
  | false =>
    rw [if_neg Bool.false_ne_true]
    exact hk F1 H1 false g1 (q1.2 rfl)
theorem sb_or {t u : TT} {pa pb : PB} (ha : SB Z ms t pa) (hb : SB Z ms u pb) : SB Z ms (tOr t u) (bOr pa pb) := by
  intro F H env σ A Q k h p hk hx
  refine ha F H env σ A _ _ h p (fun F1 H1 x g1 q1 => ?_) hx
  cases x with
  | true =>
    rw [if_pos rfl]
    exact hk F1 H1 true g1 (q1.1 rfl)
  | false =>
    rw [if_neg Bool.false_ne_true]
    exact hb F1 H1 env σ A _ _ (h.grow g1) (q1.2 rfl) (fun F2 H2 y g2 q2 => hk F2 H2 y (g1.trans g2) q2) (fun F' H' x c dx g' y z => hx F' H' x c dx (g1.trans g') (y.back g1.same) z)
theorem gw_and1 {pa : PB} (ha : GB Z ms a pa) : GW Z ms (.BoolOp .And [a] pos) pa := by
  obtain ⟨t, h1, h2⟩ := ha
  exact ⟨t, fun i => pw_and1 (h1 i), h2⟩
theorem gw_or1 {pa : PB} (ha : GB Z ms a pa) : GW Z ms (.BoolOp .Or [a] pos) pa := by
  obtain ⟨t, h1, h2⟩ := ha
  exact ⟨t, fun i => pw_or1 (h1 i), h2⟩
theorem gw_and {rest : List Expr} {pa pb : PB} (ha : GB Z ms a pa) (hb : GW Z ms (.BoolOp .And (b :: rest) pos) pb) : GW Z ms (.BoolOp .And (a :: b :: rest) pos) (bAnd pa pb) := by
  obtain ⟨t, h1, h2⟩ := ha
  obtain ⟨u, h3, h4⟩ := hb
  exact ⟨_, fun i => pw_and (h1 i) (h3 i), sb_and h2 h4⟩
theorem gw_or {rest : List Expr} {pa pb : PB} (ha : GB Z ms a pa) (hb : GW Z ms (.BoolOp .Or (b :: rest) pos) pb) : GW Z ms (.BoolOp .Or (a :: b :: rest) pos) (bOr pa pb) := by
  obtain ⟨t, h1, h2⟩ := ha
  obtain ⟨u, h3, h4⟩ := hb
  exact ⟨_, fun i => pw_or (h1 i) (h3 i), sb_or h2 h4⟩
theorem gb_not {pa : PB} (ha : GB Z ms a pa) : GB Z ms (.UnaryOp .Not a pos) (bNot pa) := by
  obtain ⟨t, h1, h2⟩ := ha
  exact ⟨_, fun i => pt_not (h1 i), fun F H env σ A Q k h p hk hx => h2 F H env σ A _ _ h p (fun F1 H1 x g1 q1 => hk F1 H1 (!x) g1 q1) hx⟩
/-- as values, of bools -/
def pAnd (pa pb : PX) : PX := fun env Q => pa env fun x => ∃ b, x = .bl b ∧ (b = true → pb env Q) ∧ (b = false → Q (.bl false))
def pOr (pa pb : PX) : PX := fun env Q => pa env fun x => ∃ b, x = .bl b ∧ (b = true → Q (.bl true)) ∧ (b = false → pb env Q)
def pNot (pa : PX) : PX := fun env Q => pa env fun x => ∃ b, x = .bl b ∧ Q (.bl (!b))
theorem ge_one {op : BoolOp} (ha : GE Z ms a ra pa) : GE Z ms (.BoolOp op [a] pos) ra pa := by
  obtain ⟨t, h1, h2⟩ := ha
  exact ⟨t, fun i => pe_one (h1 i), h2⟩
theorem res_vw {K : PySem.W.Frag} {F H H0 : Hp} {A : List Addr} {d : D} {v : V} (h : Rep K H d v) : Res K F H H0 A .vw d v := h
theorem ge_and {rest : List Expr} (ha : GE Z ms a ra pa) (hb : GE Z ms (.BoolOp .And (b :: rest) pos) rb pb) : GE Z ms (.BoolOp .And (a :: b :: rest) pos) .vw (pAnd pa pb) := by
  obtain ⟨ta, h1, h2⟩ := ha
  obtain ⟨tb, h3, h4⟩ := hb
  refine ⟨_, fun i => pe_and (h1 i) (h3 i), fun F H env σ A Q k h p hk hx => ?_⟩
  refine h2 F H env σ A _ _ h p (fun F1 H1 d v g1 r1 q1 => ?_) hx
  obtain ⟨b, rfl, q1, q2⟩ := q1
  refine ⟨b, r1.view g1.sub, ?_⟩
  cases b with
  | true =>
    rw [if_pos rfl]
    exact h4 F1 H1 env σ A _ _ (h.grow g1) (q1 rfl) (fun F2 H2 d v g2 r2 q2 => hk F2 H2 d v (g1.trans g2) (r2.view g2.sub) q2) (fun F' H' x c dx g' y z => hx F' H' x c dx (g1.trans g') (y.back g1.same) z)
  | false =>
    rw [if_neg Bool.false_ne_true]
    exact hk F1 H1 (.bl false) _ g1 rfl (q2 rfl)
theorem ge_or {rest : List Expr} (ha : GE Z ms a ra pa) (hb : GE Z ms (.BoolOp .Or (b :: rest) pos) rb pb) : GE Z ms (.BoolOp .Or (a :: b :: rest) pos) .vw (pOr pa pb) := by
  obtain ⟨ta, h1, h2⟩ := ha
  obtain ⟨tb, h3, h4⟩ := hb
  refine ⟨_, fun i => pe_or (h1 i) (h3 i), fun F H env σ A Q k h p hk hx => ?_⟩
  refine h2 F H env σ A _ _ h p (fun F1 H1 d v g1 r1 q1 => ?_) hx
  obtain ⟨b, rfl, q1, q2⟩ := q1
  refine ⟨b, r1.view g1.sub, ?_⟩
  cases b with
  | true =>
    rw [if_pos rfl]
    exact hk F1 H1 (.bl true) _ g1 rfl (q1 rfl)
  | false =>
    rw [if_neg Bool.false_ne_true]
    exact h4 F1 H1 env σ A _ _ (h.grow g1) (q2 rfl) (fun F2 H2 d v g2 r2 q2 => hk F2 H2 d v (g1.trans g2) (r2.view g2.sub) q2) (fun F' H' x c dx g' y z => hx F' H' x c dx (g1.trans g') (y.back g1.same) z)
theorem ge_not (ha : GE Z ms a ra pa) : GE Z ms (.UnaryOp .Not a pos) (.ow .sh) (pNot pa) := by
  obtain ⟨ta, h1, h2⟩ := ha
  refine ⟨_, fun i => pe_not (h1 i), fun F H env σ A Q k h p hk hx => ?_⟩
  refine h2 F H env σ A _ _ h p (fun F1 H1 d v g1 r1 q1 => ?_) hx
  obtain ⟨b, rfl, q1⟩ := q1
  exact ⟨b, r1.view g1.sub, hk F1 H1 (.bl (!b)) _ g1 ⟨[], RepM.sh.mpr ⟨rfl, rfl⟩, List.nodup_nil, fun _ z => by cases z⟩ q1⟩
/-- -n -/
def pNeg (pa : PX) : PX := fun env Q => pa env fun x => ∃ i, x = .int i ∧ Q (.int (-i))
theorem ge_neg (ha : GE Z ms a ra pa) : GE Z ms (.UnaryOp .USub a pos) (.ow .sh) (pNeg pa) := by
  obtain ⟨ta, h1, h2⟩ := ha
  refine ⟨_, fun i => pe_un un_neg (h1 i), fun F H env σ A Q k h p hk hx => ?_⟩
  refine h2 F H env σ A _ _ h p (fun F1 H1 d v g1 r1 q1 => ?_) hx
  obtain ⟨b, rfl, q1⟩ := q1
  exact ⟨b, r1.view g1.sub, hk F1 H1 (.int (-b)) _ g1 ⟨[], RepM.sh.mpr ⟨rfl, rfl⟩, List.nodup_nil, fun _ z => by cases z⟩ q1⟩
/-- a if t else b; both held so -/
def pIf (pt : PB) (pa pb : PX) : PX := fun env Q => pt env fun x => (x = true → pa env Q) ∧ (x = false → pb env Q)
theorem ge_if {pt : PB} (hc : GB Z ms c pt) (ha : GE Z ms a ra pa) (hb : GE Z ms b rb pb) : GE Z ms (.IfExp c a b pos) .vw (pIf pt pa pb) := by
  obtain ⟨t, h5, h6⟩ := hc
  obtain ⟨ta, h1, h2⟩ := ha
  obtain ⟨tb, h3, h4⟩ := hb
  refine ⟨_, fun i => pe_ifExp (h5 i) (h1 i) (h3 i), fun F H env σ A Q k h p hk hx => ?_⟩
  refine h6 F H env σ A _ _ h p (fun F1 H1 x g1 q1 => ?_) hx
  cases x with
  | true =>
    rw [if_pos rfl]
    exact h2 F1 H1 env σ A _ _ (h.grow g1) (q1.1 rfl) (fun F2 H2 d v g2 r2 q2 => hk F2 H2 d v (g1.trans g2) (r2.view g2.sub) q2) (fun F' H' x c dx g' y z => hx F' H' x c dx (g1.trans g') (y.back g1.same) z)
  | false =>
    rw [if_neg Bool.false_ne_true]
    exact h4 F1 H1 env σ A _ _ (h.grow g1) (q1.2 rfl) (fun F2 H2 d v g2 r2 q2 => hk F2 H2 d v (g1.trans g2) (r2.view g2.sub) q2) (fun F' H' x c dx g' y z => hx F' H' x c dx (g1.trans g') (y.back g1.same) z)

/-! ### subscripts -/
def pIx (po pi : PX) : PX := fun env Q => po env fun o => pi env fun i => ∃ k ds d, i = .int k ∧ itemsD o = some ds ∧ atI ds k = some d ∧ Q d
theorem Reps.at {K : PySem.W.Frag} {F : Hp} {ds : List D} {vs : List V} {k : Int} {d : D} (h : Reps K F ds vs) (e : atI ds k = some d) : ∃ v, atI vs k = some v ∧ Rep K F d v := by
  unfold atI at e ⊢
  rw [h.length]
  cases q : ixN ds.length k with
  | none => rw [q] at e; cases e
  | some j =>
    rw [q] at e
    exact h.get (i := j) e
theorem ge_ixV (ha : GE Z ms a ra pa) (hb : GE Z ms b rb pb) (hs : PlainIx b := by intro _ _; rfl) : GE Z ms (.Subscript a b pos) .vw (pIx pa pb) := by
  obtain ⟨ta, h1, h2⟩ := ha
  obtain ⟨tb, h3, h4⟩ := hb
  refine ⟨tOp (rIx Z.K) ta tb, fun i => by rw [← Z.hK i]; exact pe_ix ix_seq (h1 i) (h3 i) hs, fun F H env σ A Q k h p hk hx => ?_⟩
  refine se_two h2 h4 h p hx fun F1 H1 o i v u g r1 r2 z => ?_
  obtain ⟨n, ds, d, rfl, e1, e2, z⟩ := z
  obtain ⟨q, vs, rfl, sq, rs⟩ := items_rep (r1.view g.sub) e1
  obtain ⟨w, e3, r3⟩ := rs.at e2
  have eu : u = .int n := r2.view g.sub
  subst eu
  rcases sq with sq | sq
  · exact .inl ⟨q, vs, n, w, rfl, rfl, sq, e3, hk F1 H1 d w g r3 z⟩
  · exact .inr (.inl ⟨q, vs, n, w, rfl, rfl, sq, e3, hk F1 H1 d w g r3 z⟩)
theorem ge_ix (ha : GE Z ms a ra pa) (hb : GE Z ms b rb pb) (hp : ra.per = true := by rfl) (hs : PlainIx b := by intro _ _; rfl) : GE Z ms (.Subscript a b pos) (.ow .sh) (pIx pa pb) := by
  obtain ⟨ta, h1, h2⟩ := ha
  obtain ⟨tb, h3, h4⟩ := hb
  refine ⟨tOp (rIx Z.K) ta tb, fun i => by rw [← Z.hK i]; exact pe_ix ix_seq (h1 i) (h3 i) hs, fun F H env σ A Q k h p hk hx => ?_⟩
  refine se_two h2 h4 h p hx fun F0 H1 o i v u g0 r1 r2 z => ?_
  obtain ⟨n, ds, d, rfl, e1, e2, z⟩ := z
  obtain ⟨F1, g, _, r1, _⟩ := r1.share hp g0
  obtain ⟨q, vs, rfl, sq, rs⟩ := items_rep r1 e1
  obtain ⟨w, e3, r3⟩ := rs.at e2
  have eu : u = .int n := r2.view g0.sub
  subst eu
  have fin := hk F1 H1 d w g ⟨[], RepM.sh.mpr ⟨rfl, r3⟩, List.nodup_nil, fun _ z => by cases z⟩ z
  rcases sq with sq | sq
  · exact .inl ⟨q, vs, n, w, rfl, rfl, g.sub.lst sq, e3, fin⟩
  · exact .inr (.inl ⟨q, vs, n, w, rfl, rfl, g.sub.tup sq, e3, fin⟩)
theorem RepMs.get {K : PySem.W.Frag} {F H : Hp} : ∀ {ds : List D} {m : M} {vs : List V} {fp : List Addr}, RepMs K F H ds m vs fp → ∀ {i : Nat} {d : D}, ds[i]? = some d → ∃ v f, vs[i]? = some v ∧ RepM K F H d m v f ∧ ∀ a ∈ f, a ∈ fp
  | [], m, vs, fp, h, i, d, e => by simp at e
  | c :: ds, m, vs, fp, ⟨x, r, f1, f2, e1, e2, h1, h2⟩, 0, d, e => by
    cases e
    subst e1 e2
    exact ⟨x, f1, rfl, h1, fun a ha => List.mem_append_left _ ha⟩
  | c :: ds, m, vs, fp, ⟨x, r, f1, f2, e1, e2, h1, h2⟩, i + 1, d, e => by
    subst e1 e2
    obtain ⟨v, f, q1, q2, q3⟩ := RepMs.get h2 (i := i) e
    exact ⟨v, f, q1, q2, fun a ha => List.mem_append_right _ (q3 a ha)⟩
/-- an item of what a slot holds -/
theorem ge_ixP (ha : GE Z ms a (.pl (.el m)) pa) (hb : GE Z ms b rb pb) (hs : PlainIx b := by intro _ _; rfl) : GE Z ms (.Subscript a b pos) (.pl m) (pIx pa pb) := by
  obtain ⟨ta, h1, h2⟩ := ha
  obtain ⟨tb, h3, h4⟩ := hb
  refine ⟨tOp (rIx Z.K) ta tb, fun i => by rw [← Z.hK i]; exact pe_ix ix_seq (h1 i) (h3 i) hs, fun F H env σ A Q k h p hk hx => ?_⟩
  refine se_two h2 h4 h p hx fun F1 H1 o i v u g r1 r2 z => ?_
  obtain ⟨n, ds, d, rfl, e1, e2, z⟩ := z
  have eu : u = .int n := r2.view g.sub
  subst eu
  obtain ⟨fp, r1, hf⟩ := r1
  unfold atI at e2
  cases e4 : ixN ds.length n with
  | none => rw [e4] at e2; cases e2
  | some j =>
    rw [e4] at e2
    have e2' : ds[j]? = some d := e2
    cases o with
    | lst os =>
      cases e1
      obtain ⟨q, vs, fq, rfl, ef, eh, rs⟩ := r1
      obtain ⟨w, f, e3, r3, hs3⟩ := rs.get e2'
      refine .inl ⟨q, vs, n, w, rfl, rfl, SqL.of eh, ?_, hk F1 H1 d w g ⟨f, r3, fun a ha => hf a (by rw [ef]; exact List.mem_cons_of_mem _ (hs3 a ha))⟩ z⟩
      unfold atI
      rw [rs.length, e4]
      exact e3
    | tup os =>
      cases e1
      obtain ⟨q, vs, fq, rfl, ef, eh, rs⟩ := r1
      obtain ⟨w, f, e3, r3, hs3⟩ := rs.get e2'
      refine .inr (.inl ⟨q, vs, n, w, rfl, rfl, SqT.of eh, ?_, hk F1 H1 d w g ⟨f, r3, fun a ha => hf a (by rw [ef]; exact List.mem_cons_of_mem _ (hs3 a ha))⟩ z⟩)
      unfold atI
      rw [rs.length, e4]
      exact e3
    | scr ns =>
      cases e1
      obtain ⟨ef, q, rfl, eh⟩ := r1
      rw [List.getElem?_map] at e2'
      cases e5 : ns[j]? with
      | none => rw [e5] at e2'; cases e2'
      | some i =>
        rw [e5] at e2'
        cases e2'
        refine .inl ⟨q, _, n, .int i, rfl, rfl, g.sub.lst eh, ?_, hk F1 H1 (.int i) _ g ⟨[], Rep.flatM (F := F1) rfl rfl, fun _ z => by cases z⟩ z⟩
        unfold atI
        rw [List.length_map] at e4 ⊢
        rw [e4]
        show (ns.map V.int)[j]? = _
        rw [List.getElem?_map, e5]
        rfl
    | tpi ns =>
      cases e1
      obtain ⟨ef, q, oo, rfl, eh, _⟩ := r1
      rw [List.getElem?_map] at e2'
      cases e5 : ns[j]? with
      | none => rw [e5] at e2'; cases e2'
      | some i =>
        rw [e5] at e2'
        cases e2'
        refine .inr (.inl ⟨q, _, n, .int i, rfl, rfl, .inl (.inr ⟨oo, g.sub.frz eh⟩), ?_, hk F1 H1 (.int i) _ g ⟨[], Rep.flatM (F := F1) rfl rfl, fun _ z => by cases z⟩ z⟩)
        unfold atI
        rw [List.length_map] at e4 ⊢
        rw [e4]
        show (ns.map V.int)[j]? = _
        rw [List.getElem?_map, e5]
        rfl
    | _ => cases e1
end
end G

set_option Elab.async false
set_option linter.all false
set_option maxRecDepth 100000
set_option maxHeartbeats 4000000
/-! G6: built-ins by values. -/
namespace G
open PySem L2

section
variable {Ex : Xn → Env → Prop} {Z : GX Ex} {ms : List SM} {a b c e : Expr} {es : List Expr} {ta tb te : TE} {ra rb rc r : RM} {pa pb pc p : PX} {ps : PXs} {pos : Pos} {m : M}
abbrev QF := List D → (D → Prop) → Prop
/-- a built-in whose result is no object -/
def ClF (K : PySem.W.Frag) (r : List V → Hp → VK → Prop) (q : QF) : Prop :=
  ∀ (H : Hp) (ds : List D) (vs : List V) (Q : D → Prop) (k : VK), Reps K H ds vs → q ds Q → (∀ d v, (∀ F, Rep K F d v) → Q d → k v H) → r vs H k
/-- a built-in whose result is a new list or tuple, its items shared as the arguments are -/
def ClN (K : PySem.W.Frag) (r : List V → Hp → VK → Prop) (q : QF) : Prop :=
  ∀ (F H : Hp) (ds : List D) (vs : List V) (Q : D → Prop) (k : VK), Sub F H → Reps K F ds vs → q ds Q →
    (∀ es ws p, Reps K F es ws → H p = none → Q (.lst es) → k (.ref p) (upd H p (.lst ws))) →
    (∀ es ws p, Reps K F es ws → H p = none → Q (.tup es) → k (.ref p) (upd H p (.tup ws))) → r vs H k
def pFn (q : QF) (ps : PXs) : PX := fun env Q => ps env fun ds => q ds Q
def pFnV (q : QF) (ps : PXs) : PX := fun env Q => ps env fun ds => q ds fun d => leafs d (.el .sh) = true ∧ Q d
theorem se_clF {o : List V → Hp → VK → Prop} {q : QF} {t : TA} (h1 : ClF Z.K o q) (h2 : SV Z ms t ps) : SE Z ms (tCB o t) (.ow .sh) (pFn q ps) := by
  intro F H env σ A Q k h p hk hx
  refine h2 F H env σ A _ _ h p (fun F1 H1 ds vs g1 r1 q1 => ?_) hx
  exact h1 H1 ds vs Q k r1 q1 fun d v hr q => hk F1 H1 d v g1 ⟨[], RepM.sh.mpr ⟨rfl, hr F1⟩, List.nodup_nil, fun _ z => by cases z⟩ q
theorem se_clN {o : List V → Hp → VK → Prop} {q : QF} {t : TA} (h1 : ClN Z.K o q) (h2 : SO Z ms t .sh ps) : SE Z ms (tCB o t) (.ow (.el .sh)) (pFn q ps) := by
  intro F H env σ A Q k h p hk hx
  refine h2 F H env σ A _ _ h p (fun F1 H1 ds vs fq g1 r1 n1 z1 q1 => ?_) hx
  have mk : ∀ {es : List D} {ws : List V} {o : HO} {p : Addr}, Reps Z.K F1 es ws → H1 p = none → Grow F H F1 (upd H1 p o) ∧ RepMs Z.K F1 (upd H1 p o) es .sh ws [] := fun {es ws o p} r hp => ⟨g1.trans (Grow.new g1.sub hp), RepMs.ofSh r⟩
  refine h1 F1 H1 ds vs Q k g1.sub (RepMs.sh r1).2 q1 (fun es ws p r hp q => ?_) (fun es ws p r hp q => ?_)
  · obtain ⟨g2, r2⟩ := mk (o := .lst ws) r hp
    exact hk F1 _ (.lst es) (.ref p) g2 ⟨[p], ⟨p, ws, [], rfl, rfl, upd_same, r2⟩, by simp, fun x hx => by rw [List.mem_singleton.mp hx]; exact ⟨g1.fresh hp, g1.sub.none hp⟩⟩ q
  · obtain ⟨g2, r2⟩ := mk (o := .tup ws) r hp
    exact hk F1 _ (.tup es) (.ref p) g2 ⟨[p], ⟨p, ws, [], rfl, rfl, upd_same, r2⟩, by simp, fun x hx => by rw [List.mem_singleton.mp hx]; exact ⟨g1.fresh hp, g1.sub.none hp⟩⟩ q
theorem flats_rep {K : PySem.W.Frag} {F F' H : Hp} : ∀ {es : List D} {ws : List V}, Reps K F es ws → leafss es .sh = true → RepMs K F' H es .sh ws []
  | [], ws, h, _ => ⟨h, rfl⟩
  | d :: es, ws, ⟨x, r, e, h1, h2⟩, k => by
    have k' : (leafs d .sh && leafss es .sh) = true := k
    rw [Bool.and_eq_true] at k'
    have f : flat d = true := by
      have := k'.1
      cases d <;> first | exact this | (simp [leafs, flat] at this)
    exact ⟨x, r, [], [], e, rfl, RepM.sh.mpr ⟨rfl, h1.flat f⟩, flats_rep h2 k'.2⟩
theorem se_clNV {o : List V → Hp → VK → Prop} {q : QF} {t : TA} (h1 : ClN Z.K o q) (h2 : SV Z ms t ps) : SE Z ms (tCB o t) (.ow (.el .sh)) (pFnV q ps) := by
  intro F H env σ A Q k h p hk hx
  refine h2 F H env σ A _ _ h p (fun F1 H1 ds vs g1 r1 q1 => ?_) hx
  refine h1 H1 H1 ds vs _ k (Sub.refl H1) r1 q1 (fun es ws p r hp q => ?_) (fun es ws p r hp q => ?_)
  · exact hk F1 _ (.lst es) (.ref p) (g1.trans (Grow.new g1.sub hp)) ⟨[p], ⟨p, ws, [], rfl, rfl, upd_same, flats_rep r q.1⟩, by simp, fun x hx => by rw [List.mem_singleton.mp hx]; exact ⟨g1.fresh hp, g1.sub.none hp⟩⟩ q.2
  · exact hk F1 _ (.tup es) (.ref p) (g1.trans (Grow.new g1.sub hp)) ⟨[p], ⟨p, ws, [], rfl, rfl, upd_same, flats_rep r q.1⟩, by simp, fun x hx => by rw [List.mem_singleton.mp hx]; exact ⟨g1.fresh hp, g1.sub.none hp⟩⟩ q.2
/-- a built-in def by its name -/
def BltF {Ex : Xn → Env → Prop} (Z : GX Ex) (id : String) (q : QF) : Prop := ∃ o, (∀ i, CallR (Z.X i) (.builtin id) o) ∧ ClF Z.K o q
def BltN {Ex : Xn → Env → Prop} (Z : GX Ex) (id : String) (q : QF) : Prop := ∃ o, (∀ i, CallR (Z.X i) (.builtin id) o) ∧ ClN Z.K o q
def TyF {Ex : Xn → Env → Prop} (Z : GX Ex) (T : String) (q : QF) : Prop := ∃ o, (∀ i, CallR (Z.X i) (.type T) o) ∧ ClF Z.K o q
def TyN {Ex : Xn → Env → Prop} (Z : GX Ex) (T : String) (q : QF) : Prop := ∃ o, (∀ i, CallR (Z.X i) (.type T) o) ∧ ClN Z.K o q
section
variable {x : Str} {p2 : Pos} {id T : String} {q : QF}
theorem ge_bltF (B : BltF Z id q) (hm : Z.mg x = none) (hv : bootBuiltins x = some (.builtin id)) (ha : GV Z ms (a :: es) ps) (hg : ∀ i, Gl (Z.X i) x := by intro i; rfl) (hn : x ≠ "__name__" := by decide) (hdb : (x == ("__debug__" : Str)) = false := by decide)
    (he : ∀ i, starEach (a :: es) (Z.X i).env = (false, eval a (Z.X i).env) :: starEach es (Z.X i).env := by intro i; rfl) (hpl : ∀ i, (backTo pos (starEach es (Z.X i).env)).any (·.1) = false := by intro i; rfl) :
    GE Z ms (.Call (.Name x p2) (a :: es) [] pos) (.ow .sh) (pFn q ps) := by
  obtain ⟨o, h1, h2⟩ := B
  obtain ⟨t, h3, h4⟩ := ha
  exact ⟨_, fun i => pe_callB (h1 i) (hg i) (by rw [Z.hmg]; exact hm) hv (h3 i) hn hdb (he i) (hpl i), se_clF h2 h4⟩
theorem ge_bltN (B : BltN Z id q) (hm : Z.mg x = none) (hv : bootBuiltins x = some (.builtin id)) (ha : GO Z ms (a :: es) .sh ps) (hg : ∀ i, Gl (Z.X i) x := by intro i; rfl) (hn : x ≠ "__name__" := by decide) (hdb : (x == ("__debug__" : Str)) = false := by decide)
    (he : ∀ i, starEach (a :: es) (Z.X i).env = (false, eval a (Z.X i).env) :: starEach es (Z.X i).env := by intro i; rfl) (hpl : ∀ i, (backTo pos (starEach es (Z.X i).env)).any (·.1) = false := by intro i; rfl) :
    GE Z ms (.Call (.Name x p2) (a :: es) [] pos) (.ow (.el .sh)) (pFn q ps) := by
  obtain ⟨o, h1, h2⟩ := B
  obtain ⟨t, h3, h4⟩ := ha
  exact ⟨_, fun i => pe_callB (h1 i) (hg i) (by rw [Z.hmg]; exact hm) hv (h3 i) hn hdb (he i) (hpl i), se_clN h2 h4⟩
theorem ge_bltNV (B : BltN Z id q) (hm : Z.mg x = none) (hv : bootBuiltins x = some (.builtin id)) (ha : GV Z ms (a :: es) ps) (hg : ∀ i, Gl (Z.X i) x := by intro i; rfl) (hn : x ≠ "__name__" := by decide) (hdb : (x == ("__debug__" : Str)) = false := by decide)
    (he : ∀ i, starEach (a :: es) (Z.X i).env = (false, eval a (Z.X i).env) :: starEach es (Z.X i).env := by intro i; rfl) (hpl : ∀ i, (backTo pos (starEach es (Z.X i).env)).any (·.1) = false := by intro i; rfl) :
    GE Z ms (.Call (.Name x p2) (a :: es) [] pos) (.ow (.el .sh)) (pFnV q ps) := by
  obtain ⟨o, h1, h2⟩ := B
  obtain ⟨t, h3, h4⟩ := ha
  exact ⟨_, fun i => pe_callB (h1 i) (hg i) (by rw [Z.hmg]; exact hm) hv (h3 i) hn hdb (he i) (hpl i), se_clNV h2 h4⟩
theorem ge_tyF (B : TyF Z T q) (hm : Z.mg x = none) (hv : bootBuiltins x = some (.type T)) (ha : GV Z ms (a :: es) ps) (hg : ∀ i, Gl (Z.X i) x := by intro i; rfl) (hn : x ≠ "__name__" := by decide) (hdb : (x == ("__debug__" : Str)) = false := by decide)
    (he : ∀ i, starEach (a :: es) (Z.X i).env = (false, eval a (Z.X i).env) :: starEach es (Z.X i).env := by intro i; rfl) (hpl : ∀ i, (backTo pos (starEach es (Z.X i).env)).any (·.1) = false := by intro i; rfl) :
    GE Z ms (.Call (.Name x p2) (a :: es) [] pos) (.ow .sh) (pFn q ps) := by
  obtain ⟨o, h1, h2⟩ := B
  obtain ⟨t, h3, h4⟩ := ha
  exact ⟨_, fun i => pe_callTy (h1 i) (hg i) (by rw [Z.hmg]; exact hm) hv (h3 i) hn hdb (he i) (hpl i), se_clF h2 h4⟩
theorem ge_tyN (B : TyN Z T q) (hm : Z.mg x = none) (hv : bootBuiltins x = some (.type T)) (ha : GO Z ms (a :: es) .sh ps) (hg : ∀ i, Gl (Z.X i) x := by intro i; rfl) (hn : x ≠ "__name__" := by decide) (hdb : (x == ("__debug__" : Str)) = false := by decide)
    (he : ∀ i, starEach (a :: es) (Z.X i).env = (false, eval a (Z.X i).env) :: starEach es (Z.X i).env := by intro i; rfl) (hpl : ∀ i, (backTo pos (starEach es (Z.X i).env)).any (·.1) = false := by intro i; rfl) :
    GE Z ms (.Call (.Name x p2) (a :: es) [] pos) (.ow (.el .sh)) (pFn q ps) := by
  obtain ⟨o, h1, h2⟩ := B
  obtain ⟨t, h3, h4⟩ := ha
  exact ⟨_, fun i => pe_callTy (h1 i) (hg i) (by rw [Z.hmg]; exact hm) hv (h3 i) hn hdb (he i) (hpl i), se_clN h2 h4⟩
theorem ge_tyNV (B : TyN Z T q) (hm : Z.mg x = none) (hv : bootBuiltins x = some (.type T)) (ha : GV Z ms (a :: es) ps) (hg : ∀ i, Gl (Z.X i) x := by intro i; rfl) (hn : x ≠ "__name__" := by decide) (hdb : (x == ("__debug__" : Str)) = false := by decide)
    (he : ∀ i, starEach (a :: es) (Z.X i).env = (false, eval a (Z.X i).env) :: starEach es (Z.X i).env := by intro i; rfl) (hpl : ∀ i, (backTo pos (starEach es (Z.X i).env)).any (·.1) = false := by intro i; rfl) :
    GE Z ms (.Call (.Name x p2) (a :: es) [] pos) (.ow (.el .sh)) (pFnV q ps) := by
  obtain ⟨o, h1, h2⟩ := B
  obtain ⟨t, h3, h4⟩ := ha
  exact ⟨_, fun i => pe_callTy (h1 i) (hg i) (by rw [Z.hmg]; exact hm) hv (h3 i) hn hdb (he i) (hpl i), se_clNV h2 h4⟩
/-- a built-in type as a value -/
theorem ge_ty (hm : Z.mg x = none) (hv : bootBuiltins x = some (.type T)) (hg : ∀ i, Gl (Z.X i) x := by intro i; rfl) (hn : x ≠ "__name__" := by decide) (hdb : (x == ("__debug__" : Str)) = false := by decide) : GE Z ms (.Name x pos) (.ow .sh) (pC (.ty T)) :=
  ⟨_, fun i => pe_bltn (v := .ty T) (hg i) (by rw [Z.hmg]; exact hm) hv rfl hn hdb, se_c fun _ => rfl⟩
end

/-! ### which -/
def intsD : List D → Option (List Int)
  | [] => some []
  | .int i :: r => (intsD r).map (i :: ·)
  | _ :: _ => none
theorem ints_eq : ∀ {ds : List D} {ns : List Int}, intsD ds = some ns → ds = ns.map D.int
  | [], ns, h => by cases h; rfl
  | d :: r, ns, h => by
    cases d with
    | int i =>
      rw [intsD] at h
      cases q : intsD r with
      | none => rw [q] at h; cases h
      | some l =>
        rw [q] at h
        cases h
        rw [ints_eq q]
        rfl
    | _ => cases h
@[simp] theorem ints_map : ∀ ns : List Int, intsD (ns.map D.int) = some ns
  | [] => rfl
  | n :: ns => by rw [List.map_cons, intsD, ints_map ns]; rfl
/-- a list of ints -/
def intsL (d : D) : Option (List Int) := match d with
  | .lst ds => intsD ds
  | .scr ns => some ns
  | _ => none
theorem intsL_rep {K : PySem.W.Frag} {H : Hp} {d : D} {v : V} {ns : List Int} (h : Rep K H d v) (e : intsL d = some ns) : ∃ p, v = .ref p ∧ SqL K H p (ns.map V.int) := by
  cases d with
  | lst ds =>
    obtain ⟨p, vs, e1, q, r⟩ := h
    rw [ints_eq e] at r
    rw [Reps.ints.mp r] at q
    exact ⟨p, e1, SqL.of q⟩
  | scr ms =>
    cases e
    exact h
  | _ => cases e
def lenD : D → Option Nat
  | .lst ds => some ds.length
  | .tup ds => some ds.length
  | .scr ns => some ns.length
  | .tpi ns => some ns.length
  | .str s => if s.length ≤ 100000 then some s.length else none
  | _ => none
def q1 (f : D → (D → Prop) → Prop) : QF := fun ds Q => ∃ d, ds = [d] ∧ f d Q
def q2 (f : D → D → (D → Prop) → Prop) : QF := fun ds Q => ∃ d e, ds = [d, e] ∧ f d e Q
theorem reps1 {K : PySem.W.Frag} {F : Hp} {d : D} {vs : List V} (h : Reps K F [d] vs) : ∃ v, vs = [v] ∧ Rep K F d v := by
  obtain ⟨x, r, e, h1, h2⟩ := h
  rw [show r = [] from h2] at e
  exact ⟨x, e, h1⟩
theorem reps2 {K : PySem.W.Frag} {F : Hp} {d d' : D} {vs : List V} (h : Reps K F [d, d'] vs) : ∃ v u, vs = [v, u] ∧ Rep K F d v ∧ Rep K F d' u := by
  obtain ⟨x, r, e, h1, h2⟩ := h
  obtain ⟨y, e2, h3⟩ := reps1 h2
  rw [e2] at e
  exact ⟨x, y, e, h1, h3⟩
def qLen := q1 fun d Q => ∃ n, lenD d = some n ∧ Q (.int (n : Int))
theorem len_rep {K : PySem.W.Frag} {H : Hp} {d : D} {v : V} {n : Nat} (h : Rep K H d v) (e : lenD d = some n) : LenV K v H n := by
  cases d with
  | lst ds => cases e; obtain ⟨p, vs, rfl, q, r⟩ := h; exact .inl ⟨vs, SqL.of q, r.length.symm⟩
  | tup ds => cases e; obtain ⟨p, vs, rfl, q, r⟩ := h; exact .inr ⟨vs, SqT.of q, r.length.symm⟩
  | scr ns => cases e; obtain ⟨p, rfl, q⟩ := h; exact .inl ⟨_, q, (List.length_map (f := V.int)).symm⟩
  | tpi ns => cases e; obtain ⟨p, o, rfl, q, _⟩ := h; exact .inr ⟨_, .inl (.inr ⟨o, q⟩), (List.length_map (f := V.int)).symm⟩
  | str s =>
    rw [show v = _ from h]
    by_cases c : s.length ≤ 100000
    · simp only [lenD, if_pos c] at e
      exact ⟨sz5 c, (Option.some.inj e).symm⟩
    · simp only [lenD, if_neg c] at e
      cases e
  | _ => cases e
theorem b_len : BltF Z "len" qLen := ⟨fun xs H Q => ∃ x n, xs = [x] ∧ LenV Z.K x H n ∧ Q (.int n) H, fun i => by rw [← Z.hK i]; exact call_len, by
  rintro H ds vs Q k r ⟨d, rfl, n, e, q⟩ hk
  obtain ⟨v, rfl, r1⟩ := reps1 r
  exact ⟨v, n, rfl, len_rep r1 e, hk (.int n) _ (fun _ => rfl) q⟩⟩
def qAbs := q1 fun d Q => ∃ i : Int, d = .int i ∧ Q (.int (if i < 0 then -i else i))
theorem b_abs : BltF Z "abs" qAbs := ⟨_, fun i => call_abs, by
  rintro H ds vs Q k r ⟨d, rfl, i, rfl, q⟩ hk
  obtain ⟨v, rfl, r1⟩ := reps1 r
  exact ⟨i, by rw [show v = _ from r1], hk (.int _) _ (fun _ => rfl) q⟩⟩
def qMax2 := q2 fun d e Q => ∃ i j : Int, d = .int i ∧ e = .int j ∧ Q (.int (if j > i then j else i))
def qMin2 := q2 fun d e Q => ∃ i j : Int, d = .int i ∧ e = .int j ∧ Q (.int (if j < i then j else i))
theorem b_max2 (hcm : Z.cm = true := by rfl) : BltF Z "max" qMax2 := ⟨_, fun i => call_max2 (Z.calm hcm i), by
  rintro H ds vs Q k r ⟨d, e, rfl, i, j, rfl, rfl, q⟩ hk
  obtain ⟨v, u, rfl, r1, r2⟩ := reps2 r
  exact ⟨i, j, by rw [show v = _ from r1, show u = _ from r2], hk (.int _) _ (fun _ => rfl) q⟩⟩
theorem b_min2 (hcm : Z.cm = true := by rfl) : BltF Z "min" qMin2 := ⟨_, fun i => call_min2 (Z.calm hcm i), by
  rintro H ds vs Q k r ⟨d, e, rfl, i, j, rfl, rfl, q⟩ hk
  obtain ⟨v, u, rfl, r1, r2⟩ := reps2 r
  exact ⟨i, j, by rw [show v = _ from r1, show u = _ from r2], hk (.int _) _ (fun _ => rfl) q⟩⟩
/-- int(n) of an int or a bool -/
def qInt := q1 fun d Q => ∃ i : Int, (d = .int i ∨ ∃ k, d = .bl k ∧ i = (if k then 1 else 0)) ∧ Q (.int i)
theorem b_int : TyF Z "int" qInt := ⟨_, fun i => call_int1, by
  rintro H ds vs Q k r ⟨d, rfl, i, e, q⟩ hk
  obtain ⟨v, rfl, r1⟩ := reps1 r
  rcases e with rfl | ⟨b, rfl, rfl⟩
  · exact .inl ⟨i, by rw [show v = _ from r1], hk (.int _) _ (fun _ => rfl) q⟩
  · exact .inr ⟨b, by rw [show v = _ from r1], hk (.int _) _ (fun _ => rfl) q⟩⟩
def qSum := q1 fun d Q => ∃ ns, intsL d = some ns ∧ Q (.int ns.sum)
theorem b_sum (hcm : Z.cm = true := by rfl) : BltF Z "sum" qSum := ⟨rSum Z.K, fun i => by rw [← Z.hK i]; exact cr_sum (Z.calm hcm i), by
  rintro H ds vs Q k r ⟨d, rfl, ns, e, q⟩ hk
  obtain ⟨v, rfl, r1⟩ := reps1 r
  obtain ⟨p, rfl, s⟩ := intsL_rep r1 e
  exact ⟨p, ns, rfl, s, hk (.int _) _ (fun _ => rfl) q⟩⟩
def qMaxL := q1 fun d Q => ∃ ns, intsL d = some ns ∧ 0 < ns.length ∧ ∀ m, m ∈ ns → (∀ y ∈ ns, y ≤ m) → Q (.int m)
def qMinL := q1 fun d Q => ∃ ns, intsL d = some ns ∧ 0 < ns.length ∧ ∀ m, m ∈ ns → (∀ y ∈ ns, m ≤ y) → Q (.int m)
theorem b_maxL (hcm : Z.cm = true := by rfl) : BltF Z "max" qMaxL := ⟨rMax Z.K, fun i => by rw [← Z.hK i]; exact cr_max (Z.calm hcm i), by
  rintro H ds vs Q k r ⟨d, rfl, ns, e, n0, q⟩ hk
  obtain ⟨v, rfl, r1⟩ := reps1 r
  obtain ⟨p, rfl, s⟩ := intsL_rep r1 e
  exact ⟨p, ns, rfl, s, n0, fun m h1 h2 => hk (.int _) _ (fun _ => rfl) (q m h1 h2)⟩⟩
theorem b_minL (hcm : Z.cm = true := by rfl) : BltF Z "min" qMinL := ⟨rMin Z.K, fun i => by rw [← Z.hK i]; exact cr_min (Z.calm hcm i), by
  rintro H ds vs Q k r ⟨d, rfl, ns, e, n0, q⟩ hk
  obtain ⟨v, rfl, r1⟩ := reps1 r
  obtain ⟨p, rfl, s⟩ := intsL_rep r1 e
  exact ⟨p, ns, rfl, s, n0, fun m h1 h2 => hk (.int _) _ (fun _ => rfl) (q m h1 h2)⟩⟩
/-- the type of data -/
def typeD : D → Option String
  | .non => some "NoneType"
  | .bl _ => some "bool"
  | .int _ => some "int"
  | .str _ => some "str"
  | .lst _ => some "list"
  | .tup _ => some "tuple"
  | _ => none
def isTy : String → String → Option Bool := fun a b =>
  if a ∈ ["NoneType", "bool", "int", "str", "list", "tuple", "dict"] ∧ b ∈ ["int", "bool", "str", "list", "tuple", "dict"] then some (a == b || (a == "bool" && b == "int")) else none
theorem kitB_of {a b : String} {r : Bool} (h : isTy a b = some r) : kitB a b = some r := by
  have all : ∀ a ∈ ["NoneType", "bool", "int", "str", "list", "tuple", "dict"], ∀ b ∈ ["int", "bool", "str", "list", "tuple", "dict"], kitB a b = some (a == b || (a == "bool" && b == "int")) := by decide +kernel
  unfold isTy at h
  split at h
  · rename_i c
    rw [all a c.1 b c.2, h]
  · cases h
theorem type_rep {K : PySem.W.Frag} {H : Hp} {d : D} {v : V} {t : String} (h : Rep K H d v) (e : typeD d = some t) : TyX K H v (.type t) := by
  cases d with
  | non => cases e; rw [show v = _ from h]; exact .base .non
  | bl b => cases e; rw [show v = _ from h]; exact .base (.bl b)
  | int b => cases e; rw [show v = _ from h]; exact .base (.int b)
  | str b => cases e; rw [show v = _ from h]; exact .base (.str b)
  | lst ds => cases e; obtain ⟨p, vs, rfl, q, r⟩ := h; exact .base (.lst q)
  | tup ds => cases e; obtain ⟨p, vs, rfl, q, r⟩ := h; exact .base (.tup q)
  | _ => cases e
/-- isinstance of data and a built-in class -/
def qIsi := q2 fun d c Q => ∃ n t r, c = .ty n ∧ typeD d = some t ∧ isTy t n = some r ∧ Q (.bl r)
theorem b_isi : BltF Z "isinstance" qIsi := ⟨rIsi Z.K, fun i => by rw [← Z.hK i]; exact call_isi, by
  rintro H ds vs Q k r ⟨d, c, rfl, n, t, b, rfl, e1, e2, q⟩ hk
  obtain ⟨v, u, rfl, r1, r2⟩ := reps2 r
  refine ⟨v, u, .type t, .type n, b, rfl, ?_, type_rep r1 e1, kit_ty (kitB_of e2), hk (.bl _) _ (fun _ => rfl) q⟩
  rw [show u = .ty n from r2]
  exact .ty n⟩
/-- list(xs), of a list or a tuple; tuple(xs) of a list -/
def qList := q1 fun d Q => ∃ ds, itemsD d = some ds ∧ Q (.lst ds)
theorem b_list : TyN Z "list" qList := ⟨fun xs H Q => ∃ p ys, xs = [.ref p] ∧ (SqL Z.K H p ys ∨ SqT Z.K H p ys) ∧ ∀ l, H l = none → Q (.ref l) (upd H l (.lst ys)), fun i => by rw [← Z.hK i]; exact call_list_of, by
  rintro F H ds vs Q k s r ⟨d, rfl, es, e, q⟩ hk _
  obtain ⟨v, rfl, r1⟩ := reps1 r
  obtain ⟨p, ws, rfl, sq, rs⟩ := items_rep r1 e
  exact ⟨p, ws, rfl, sq.imp s.lst s.tup, fun l hl => hk es ws l rs hl q⟩⟩
def qTuple := q1 fun d Q => (∃ ds, d = .lst ds ∧ Q (.tup ds)) ∨ ∃ ns, d = .scr ns ∧ Q (.tup (ns.map .int))
theorem b_tuple : TyN Z "tuple" qTuple := ⟨fun xs H Q => ∃ p ys, xs = [.ref p] ∧ ((SqL Z.K H p ys ∧ ∀ l, H l = none → Q (.ref l) (upd H l (.tup ys))) ∨ (SqT Z.K H p ys ∧ Q (.ref p) H)), fun i => by rw [← Z.hK i]; exact call_tuple_of, by
  rintro F H ds vs Q k s r ⟨d, rfl, q⟩ _ hk
  obtain ⟨v, rfl, r1⟩ := reps1 r
  rcases q with ⟨es, rfl, q⟩ | ⟨ns, rfl, q⟩
  · obtain ⟨p, ws, rfl, sq, rs⟩ := r1
    exact ⟨p, ws, rfl, .inl ⟨SqL.of (s.lstX sq), fun l hl => hk es ws l rs hl q⟩⟩
  · obtain ⟨p, rfl, sq⟩ := r1
    exact ⟨p, _, rfl, .inl ⟨s.lst sq, fun l hl => hk _ _ l (Reps.ints.mpr rfl) hl q⟩⟩⟩
/-- sorted(xs) of ints -/
def qSortI := q1 fun d Q => ∃ ns, intsL d = some ns ∧ ∀ ns' : List Int, ns'.Perm ns → ns'.Pairwise (· ≤ ·) → Q (.lst (ns'.map .int))
theorem b_sortI : BltN Z "sorted" qSortI := ⟨rSortedI Z.K, fun i => by rw [← Z.hK i]; exact cr_sortedI, by
  rintro F H ds vs Q k s r ⟨d, rfl, ns, e, q⟩ hk _
  obtain ⟨v, rfl, r1⟩ := reps1 r
  obtain ⟨p, rfl, sq⟩ := intsL_rep r1 e
  exact ⟨p, ns, rfl, s.lst sq, fun ns' p' h1 h2 hp => hk _ _ p' (Reps.ints.mpr rfl) hp (q ns' h1 h2)⟩⟩
/-- sorted(xs) of pairs of ints -/
abbrev prD (p : Int × Int) : D := .tup [.int p.1, .int p.2]
def lexLe (p q : Int × Int) : Prop := p.1 < q.1 ∨ (p.1 = q.1 ∧ p.2 ≤ q.2)
def qSortP := q1 fun d Q => ∃ ps : List (Int × Int), d = .lst (ps.map prD) ∧ ∀ ps' : List (Int × Int), ps'.Perm ps → ps'.Pairwise lexLe → Q (.lst (ps'.map prD))
theorem pairs_rep {K : PySem.W.Frag} {F : Hp} : ∀ {ps : List (Int × Int)} {vs : List V}, Reps K F (ps.map prD) vs → vs.length = ps.length ∧ ∀ (i : Nat) (p : Int × Int) (v : V), ps[i]? = some p → vs[i]? = some v → ∃ t : Addr, v = V.ref t ∧ F t = some (.tup [.int p.1, .int p.2]) := by
  intro ps vs h
  refine ⟨by rw [h.length, List.length_map], fun i p v hp hv => ?_⟩
  obtain ⟨w, e, t, us, e1, q, r⟩ := h.get (i := i) (d := prD p) (by rw [List.getElem?_map, hp]; rfl)
  rw [hv] at e
  cases e
  obtain ⟨u1, u2, rfl, q1, q2⟩ := reps2 r
  rw [show u1 = _ from q1, show u2 = _ from q2] at q
  exact ⟨t, e1, q⟩
theorem b_sortP : BltN Z "sorted" qSortP := ⟨rSortedPO Z.K, fun i => by rw [← Z.hK i]; exact cr_sortedPO, by
  rintro F H ds vs Q k s r ⟨d, rfl, ps, rfl, q⟩ hk _
  obtain ⟨v, rfl, r1⟩ := reps1 r
  obtain ⟨p, ws, rfl, sq, rs⟩ := r1
  obtain ⟨hl, hp⟩ := pairs_rep rs
  -- the pair that stands at a value
  let kf : V → Int × Int := fun v => match v with
    | .ref t => (match F t with
      | some (.tup [.int i, .int j]) => (i, j)
      | _ => (0, 0))
    | _ => (0, 0)
  have kE : ∀ (t : Addr) (i j : Int), F t = some (.tup [.int i, .int j]) → kf (.ref t) = (i, j) := fun t i j e => by
    show (match F t with
      | some (.tup [.int i, .int j]) => (i, j)
      | _ => (0, 0)) = (i, j)
    rw [e]
  have wk : ∀ (i : Nat) (p : Int × Int) (v : V), ps[i]? = some p → ws[i]? = some v → kf v = p := fun i p v h1 h2 => by
    obtain ⟨t, rfl, e⟩ := hp i p v h1 h2
    exact kE t p.1 p.2 e
  have hmap : ws.map kf = ps := List.ext_getElem? fun i => by
    rw [List.getElem?_map]
    cases h1 : ps[i]? with
    | none =>
      have : ws[i]? = none := List.getElem?_eq_none_iff.mpr (by have := List.getElem?_eq_none_iff.mp h1; omega)
      rw [this]; rfl
    | some p =>
      have hi : i < ws.length := by have := (List.getElem?_eq_some_iff.mp h1).1; omega
      rw [List.getElem?_eq_getElem hi]
      show some (kf ws[i]) = some p
      rw [wk i p _ h1 (List.getElem?_eq_getElem hi)]
  have each : ∀ x ∈ ws, ∃ t, x = V.ref t ∧ F t = some (.tup [.int (kf x).1, .int (kf x).2]) := fun x hx => by
    obtain ⟨i, hi, e⟩ := List.mem_iff_getElem.mp hx
    have h2 : ws[i]? = some x := by rw [← e]; exact List.getElem?_eq_getElem hi
    have h1 : ps[i]? = some ps[i] := List.getElem?_eq_getElem (by omega)
    obtain ⟨t, e1, e2⟩ := hp i _ x h1 h2
    rw [wk i _ x h1 h2]
    exact ⟨t, e1, e2⟩
  refine ⟨p, ws, kf, rfl, SqL.of (s.lstX sq), fun x hx => ?_, fun ys p' hs hst hp' => ?_⟩
  · obtain ⟨t, e1, e2⟩ := each x hx
    exact ⟨t, e1, s.tupX e2⟩
  · have pm := hst.perm
    refine hk ((ys.map kf).map prD) ys p' ?_ hp' (q (ys.map kf) ?_ ?_)
    · have all : ∀ y ∈ ys, Rep Z.K F (prD (kf y)) y := fun y hy => by
        obtain ⟨t, e1, e2⟩ := each y (pm.mem_iff.mp hy)
        exact ⟨t, _, e1, e2, ⟨_, _, rfl, rfl, ⟨_, _, rfl, rfl, rfl⟩⟩⟩
      clear hs hst pm hp' hk q
      induction ys with
      | nil => exact rfl
      | cons y ys ih => exact ⟨y, ys, rfl, all y List.mem_cons_self, ih fun z hz => all z (List.mem_cons_of_mem _ hz)⟩
    · rw [← hmap]
      exact pm.map kf
    · refine List.pairwise_map.mpr (List.Pairwise.imp (fun {x y} h => ?_) hs)
      have := SrtO.lexB_no.mp h
      unfold lexLe
      omega⟩
end
end G

set_option Elab.async false
set_option linter.all false
set_option maxRecDepth 100000
set_option maxHeartbeats 4000000
/-! G7: lists by operators, slices, ranges; what is walked; targets; comprehensions. -/
namespace G
open PySem L2

section
variable {Ex : Xn → Env → Prop} {Z : GX Ex} {ms ms1 ms2 : List SM} {a b c e : Expr} {es : List Expr} {ta tb te : TE} {ra rb rc r : RM} {pa pb pc p : PX} {ps : PXs} {pos : Pos} {m : M}
/-- two in a row, both shared -/
theorem se_twoS (ha : SE Z ms ta ra pa) (hb : SE Z ms tb rb pb) (h1 : ra.per = true) (h2 : rb.per = true) {F H : Hp} {env : Env} {σ : St} {A : List Addr} {Q : D → D → Prop} {R : V → V → Hp → Prop}
    (h : StOk Z.K ms F H env σ A) (q : pa env fun x => pb env fun y => Q x y)
    (hx : ∀ F' H' x c dx, Grow F H F' H' → RepX Z.K H H' x c dx → Ex x env → Z.E c dx σ H')
    (k : ∀ F' H' d e v u, Grow F H F' H' → Rep Z.K F' d v → Rep Z.K F' e u → Q d e → R v u H') :
    ta σ H fun x H1 => tb σ H1 fun y H2 => R x y H2 := by
  refine ha F H env σ A _ _ h q (fun F0 H1 d v g0 r1 q1 => ?_) hx
  obtain ⟨F1, g1, _, r1, _⟩ := r1.share h1 g0
  refine hb F1 H1 env σ A _ _ (h.grow g1) q1 (fun F0 H2 e u g0 r2 q2 => ?_) (fun F' H' x c dx g y z => hx F' H' x c dx (g1.trans g) (y.back g1.same) z)
  obtain ⟨F2, g2, _, r2, _⟩ := r2.share h2 g0
  exact k F2 H2 d e v u (g1.trans g2) (r1.sub (g2.subF g1.sub)) r2 q2

/-! ### list + list, list * int -/
def OpN (K : PySem.W.Frag) (r : R2) (q : D → D → (D → Prop) → Prop) : Prop :=
  ∀ (F H : Hp) (d e : D) (v u : V) (Q : D → Prop) (k : VK), Sub F H → Rep K F d v → Rep K F e u → q d e Q →
    (∀ es ws p, Reps K F es ws → H p = none → Q (.lst es) → k (.ref p) (upd H p (.lst ws))) → r v u H k
theorem res_new {F H F1 H1 : Hp} {A : List Addr} {es : List D} {ws : List V} {q : Addr} (g1 : Grow F H F1 H1) (r : Reps Z.K F1 es ws) (hp : H1 q = none) :
    Grow F H F1 (upd H1 q (.lst ws)) ∧ Res Z.K F1 (upd H1 q (.lst ws)) H A (.ow (.el .sh)) (.lst es) (.ref q) :=
  ⟨g1.trans (Grow.new g1.sub hp), [q], ⟨q, ws, [], rfl, rfl, upd_same, RepMs.ofSh r⟩, by simp, fun x hx => by rw [List.mem_singleton.mp hx]; exact ⟨g1.fresh hp, g1.sub.none hp⟩⟩
theorem res_newV {F H F1 H1 : Hp} {A : List Addr} {es : List D} {ws : List V} {q : Addr} (g1 : Grow F H F1 H1) (r : Reps Z.K H1 es ws) (hl : leafss es .sh = true) (hp : H1 q = none) :
    Grow F H F1 (upd H1 q (.lst ws)) ∧ Res Z.K F1 (upd H1 q (.lst ws)) H A (.ow (.el .sh)) (.lst es) (.ref q) :=
  ⟨g1.trans (Grow.new g1.sub hp), [q], ⟨q, ws, [], rfl, rfl, upd_same, flats_rep r hl⟩, by simp, fun x hx => by rw [List.mem_singleton.mp hx]; exact ⟨g1.fresh hp, g1.sub.none hp⟩⟩
theorem se_opN {o : R2} {q : D → D → (D → Prop) → Prop} (hq : OpN Z.K o q) (ha : SE Z ms ta ra pa) (hb : SE Z ms tb rb pb) (h1 : ra.per = true) (h2 : rb.per = true) : SE Z ms (tOp o ta tb) (.ow (.el .sh)) (pBin q pa pb) := by
  intro F H env σ A Q k h p hk hx
  refine se_twoS ha hb h1 h2 h p hx fun F1 H1 d e v u g r1 r2 z => ?_
  refine hq F1 H1 d e v u Q k g.sub r1 r2 z fun es ws p r hp q => ?_
  obtain ⟨g2, r3⟩ := res_new (A := A) g r hp
  exact hk F1 _ (.lst es) (.ref p) g2 r3 q
def qV (q : D → D → (D → Prop) → Prop) : D → D → (D → Prop) → Prop := fun x y Q => q x y fun d => leafs d (.el .sh) = true ∧ Q d
theorem se_opNV {o : R2} {q : D → D → (D → Prop) → Prop} (hq : OpN Z.K o q) (ha : SE Z ms ta ra pa) (hb : SE Z ms tb rb pb) : SE Z ms (tOp o ta tb) (.ow (.el .sh)) (pBin (qV q) pa pb) := by
  intro F H env σ A Q k h p hk hx
  refine se_two ha hb h p hx fun F1 H1 d e v u g r1 r2 z => ?_
  refine hq H1 H1 d e v u _ k (Sub.refl H1) (r1.view g.sub) (r2.view g.sub) z fun es ws p r hp q => ?_
  obtain ⟨g2, r3⟩ := res_newV (A := A) g r q.1 hp
  exact hk F1 _ (.lst es) (.ref p) g2 r3 q.2
def qCat : D → D → (D → Prop) → Prop := fun x y Q => ∃ ds es, x = .lst ds ∧ y = .lst es ∧ ds.length + es.length ≤ 100000 ∧ Q (.lst (ds ++ es))
theorem opN_cat {K : PySem.W.Frag} : OpN K rCat qCat := by
  rintro F H d e v u Q k s r1 r2 ⟨ds, es, rfl, rfl, hl, q⟩ hk
  obtain ⟨p, vs, rfl, q1, r1⟩ := r1
  obtain ⟨p', us, rfl, q2, r2⟩ := r2
  exact ⟨p, p', vs, us, rfl, rfl, s.lstX q1, s.lstX q2, by rw [r1.length, r2.length]; exact sz5 hl, fun z hz => hk _ _ z (r1.append r2) hz q⟩
theorem ge_cat (ha : GE Z ms a ra pa) (hb : GE Z ms b rb pb) (h1 : ra.per = true := by rfl) (h2 : rb.per = true := by rfl) : GE Z ms (.BinOp a .Add b pos) (.ow (.el .sh)) (pBin qCat pa pb) := by
  obtain ⟨ta, h3, h4⟩ := ha
  obtain ⟨tb, h5, h6⟩ := hb
  exact ⟨_, fun i => pe_op op_cat (h3 i) (h5 i), se_opN opN_cat h4 h6 h1 h2⟩
theorem ge_catV (ha : GE Z ms a ra pa) (hb : GE Z ms b rb pb) : GE Z ms (.BinOp a .Add b pos) (.ow (.el .sh)) (pBin (qV qCat) pa pb) := by
  obtain ⟨ta, h3, h4⟩ := ha
  obtain ⟨tb, h5, h6⟩ := hb
  exact ⟨_, fun i => pe_op op_cat (h3 i) (h5 i), se_opNV opN_cat h4 h6⟩
def qRep : D → D → (D → Prop) → Prop := fun x y Q => ∃ ds n, x = .lst ds ∧ y = .int n ∧ -1000000 ≤ n ∧ n ≤ 1000000 ∧ ds.length * n.toNat ≤ 100000 ∧ Q (.lst (List.replicate n.toNat ds).flatten)
theorem reps_flatten {K : PySem.W.Frag} {F : Hp} {ds : List D} {vs : List V} (h : Reps K F ds vs) : ∀ n : Nat, Reps K F (List.replicate n ds).flatten (List.replicate n vs).flatten
  | 0 => rfl
  | n + 1 => by
    rw [List.replicate_succ, List.replicate_succ, List.flatten_cons, List.flatten_cons]
    exact h.append (reps_flatten h n)
theorem opN_rep {K : PySem.W.Frag} : OpN K rRep qRep := by
  rintro F H d e v u Q k s r1 r2 ⟨ds, n, rfl, rfl, h1, h2, hl, q⟩ hk
  obtain ⟨p, vs, rfl, q1, r1⟩ := r1
  exact ⟨p, n, vs, rfl, r2, s.lstX q1, by omega, by omega, by rw [r1.length]; exact sz5 hl, fun z hz => hk _ _ z (reps_flatten r1 _) hz q⟩
theorem ge_rep (ha : GE Z ms a ra pa) (hb : GE Z ms b rb pb) (h1 : ra.per = true := by rfl) (h2 : rb.per = true := by rfl) : GE Z ms (.BinOp a .Mult b pos) (.ow (.el .sh)) (pBin qRep pa pb) := by
  obtain ⟨ta, h3, h4⟩ := ha
  obtain ⟨tb, h5, h6⟩ := hb
  exact ⟨_, fun i => pe_op op_rep (h3 i) (h5 i), se_opN opN_rep h4 h6 h1 h2⟩

/-! ### slices -/
abbrev PP := Env → (Option Int → Prop) → Prop
def GP {Ex : Xn → Env → Prop} (Z : GX Ex) (ms : List SM) (e : Option Expr) (p : PP) : Prop := ∃ t : TO, (∀ i, PO (Z.X i) e t) ∧ ∀ (F H : Hp) (env : Env) (σ : St) (A : List Addr) (Q : Option Int → Prop) (k : Option Int → Hp → Prop), StOk Z.K ms F H env σ A → p env Q →
    (∀ F' H' d, Grow F H F' H' → Q d → k d H') → (∀ F' H' x c dx, Grow F H F' H' → RepX Z.K H H' x c dx → Ex x env → Z.E c dx σ H') → t σ H k
def pNo : PP := fun _ Q => Q none
def pSome (pa : PX) : PP := fun env Q => pa env fun x => ∃ i, x = .int i ∧ Q (some i)
theorem gp_none : GP Z ms none pNo := ⟨_, fun _ => po_none, fun F H env σ A Q k h q hk hx => hk F H none (Grow.refl h.sub) q⟩
theorem gp_some (ha : GE Z ms a ra pa) : GP Z ms (some a) (pSome pa) := by
  obtain ⟨ta, h1, h2⟩ := ha
  refine ⟨_, fun i => po_some (h1 i), fun F H env σ A Q k h q hk hx => h2 F H env σ A _ _ h q (fun F1 H1 d v g1 r1 q1 => ?_) hx⟩
  obtain ⟨i, rfl, q1⟩ := q1
  exact ⟨i, r1.view g1.sub, hk F1 H1 (some i) g1 q1⟩
/-- the items of xs[lo:hi] -/
def cutL {α : Type} (xs : List α) (lo hi : Option Int) : List α := (xs.drop (HT.sIx xs.length 0 lo)).take (HT.sIx xs.length xs.length hi - HT.sIx xs.length 0 lo)
theorem reps_cut {K : PySem.W.Frag} {F : Hp} {ds : List D} {vs : List V} (h : Reps K F ds vs) (lo hi : Option Int) : Reps K F (cutL ds lo hi) (cutV vs lo hi) := by
  unfold cutL cutV
  rw [h.length]
  exact (h.drop _).take _
def pSl (pa : PX) (pl ph : PP) : PX := fun env Q => pa env fun x => pl env fun l => ph env fun u => ∃ ds, x = .lst ds ∧ Q (.lst (cutL ds l u))
def pSlV (pa : PX) (pl ph : PP) : PX := fun env Q => pa env fun x => pl env fun l => ph env fun u => ∃ ds, x = .lst ds ∧ leafss (cutL ds l u) .sh = true ∧ Q (.lst (cutL ds l u))
theorem ge_sl {lo hi : Option Expr} {pl ph : PP} {p2 : Pos} (ha : GE Z ms a ra pa) (hl : GP Z ms lo pl) (hu : GP Z ms hi ph) (hp : ra.per = true := by rfl) : GE Z ms (.Subscript a (.Slice lo hi none p2) pos) (.ow (.el .sh)) (pSl pa pl ph) := by
  obtain ⟨ta, h1, h2⟩ := ha
  obtain ⟨tl, h3, h4⟩ := hl
  obtain ⟨th, h5, h6⟩ := hu
  refine ⟨tSl (rSlL Z.K) ta tl th, fun i => by rw [← Z.hK i]; exact pe_slice sl_list (h1 i) (h3 i) (h5 i), fun F H env σ A Q k h q hk hx => ?_⟩
  refine h2 F H env σ A _ _ h q (fun F0 H1 d v g0 r1 q1 => ?_) hx
  obtain ⟨F1, g1, _, r1, _⟩ := r1.share hp g0
  refine h4 F1 H1 env σ A _ _ (h.grow g1) q1 (fun F2 H2 l g2 q2 => ?_) (fun F' H' x c dx g y z => hx F' H' x c dx (g1.trans g) (y.back g1.same) z)
  refine h6 F2 H2 env σ A _ _ (h.grow (g1.trans g2)) q2 (fun F3 H3 u g3 q3 => ?_) (fun F' H' x c dx g y z => hx F' H' x c dx ((g1.trans g2).trans g) (y.back (g1.trans g2).same) z)
  obtain ⟨ds, rfl, q3⟩ := q3
  have g := (g1.trans g2).trans g3
  have r3 := r1.sub ((g2.trans g3).subF g1.sub)
  obtain ⟨q, vs, rfl, e, rs⟩ := r3
  refine ⟨q, vs, rfl, SqL.of (g.sub.lstX e), fun z hz => ?_⟩
  obtain ⟨g4, r4⟩ := res_new (A := A) g (reps_cut rs l u) hz
  exact hk F3 _ _ (.ref z) g4 r4 q3
theorem ge_slV {lo hi : Option Expr} {pl ph : PP} {p2 : Pos} (ha : GE Z ms a ra pa) (hl : GP Z ms lo pl) (hu : GP Z ms hi ph) : GE Z ms (.Subscript a (.Slice lo hi none p2) pos) (.ow (.el .sh)) (pSlV pa pl ph) := by
  obtain ⟨ta, h1, h2⟩ := ha
  obtain ⟨tl, h3, h4⟩ := hl
  obtain ⟨th, h5, h6⟩ := hu
  refine ⟨tSl (rSlL Z.K) ta tl th, fun i => by rw [← Z.hK i]; exact pe_slice sl_list (h1 i) (h3 i) (h5 i), fun F H env σ A Q k h q hk hx => ?_⟩
  refine h2 F H env σ A _ _ h q (fun F1 H1 d v g1 r1 q1 => ?_) hx
  refine h4 F1 H1 env σ A _ _ (h.grow g1) q1 (fun F2 H2 l g2 q2 => ?_) (fun F' H' x c dx g y z => hx F' H' x c dx (g1.trans g) (y.back g1.same) z)
  refine h6 F2 H2 env σ A _ _ (h.grow (g1.trans g2)) q2 (fun F3 H3 u g3 q3 => ?_) (fun F' H' x c dx g y z => hx F' H' x c dx ((g1.trans g2).trans g) (y.back (g1.trans g2).same) z)
  obtain ⟨ds, rfl, hf, q3⟩ := q3
  have g := (g1.trans g2).trans g3
  have r3 := Rep.grow (r1.view g1.sub) (g2.trans g3)
  obtain ⟨q, vs, rfl, e, rs⟩ := r3
  refine ⟨q, vs, rfl, SqL.of e, fun z hz => ?_⟩
  obtain ⟨g4, r4⟩ := res_newV (A := A) g (reps_cut rs l u) hf hz
  exact hk F3 _ _ (.ref z) g4 r4 q3
/-- xs[::-1] -/
def pRevL (pa : PX) : PX := fun env Q => pa env fun x => ∃ ds, x = .lst ds ∧ Q (.lst ds.reverse)
theorem ge_revL {j : Nat} {p1 p2 p3 : Pos} (ha : GE Z ms a ra pa) (hp : ra.per = true := by rfl) : GE Z ms (.Subscript a (.Slice none none (some (.UnaryOp .USub (.Constant (.int 1) j p1) p2)) p3) pos) (.ow (.el .sh)) (pRevL pa) := by
  obtain ⟨ta, h1, h2⟩ := ha
  refine ⟨tRevL Z.K ta, fun i => by rw [← Z.hK i]; exact pe_revL (h1 i), fun F H env σ A Q k h q hk hx => ?_⟩
  refine h2 F H env σ A _ _ h q (fun F0 H1 d v g0 r1 q1 => ?_) hx
  obtain ⟨F1, g1, _, r1, _⟩ := r1.share hp g0
  obtain ⟨ds, rfl, q1⟩ := q1
  obtain ⟨q, vs, rfl, e, rs⟩ := r1
  refine ⟨q, vs, rfl, SqL.of (g1.sub.lstX e), fun z hz => ?_⟩
  obtain ⟨g4, r4⟩ := res_new (A := A) g1 rs.reverse hz
  exact hk F1 _ _ (.ref z) g4 r4 q1

/-! ### ranges -/
def rgI (a b : Int) : List Int := (List.range (b - a).toNat).map fun i => a + (i : Nat)
theorem rgV_eq (a b : Int) : rgV a b = (rgI a b).map V.int := by
  unfold rgV rgI
  rw [List.map_map]
  rfl
def GR {Ex : Xn → Env → Prop} (Z : GX Ex) (ms : List SM) (e : Expr) (p : Env → (Int → Int → Prop) → Prop) : Prop := ∃ t : St → Hp → (Int → Int → Hp → Prop) → Prop, (∀ i, PRg (Z.X i) e t) ∧ ∀ (F H : Hp) (env : Env) (σ : St) (A : List Addr) (Q : Int → Int → Prop) (k : Int → Int → Hp → Prop), StOk Z.K ms F H env σ A → p env Q →
    (∀ F' H' x y, Grow F H F' H' → Q x y → k x y H') → (∀ F' H' x c dx, Grow F H F' H' → RepX Z.K H H' x c dx → Ex x env → Z.E c dx σ H') → t σ H k
def pRg1 (pa : PX) : Env → (Int → Int → Prop) → Prop := fun env Q => pa env fun x => ∃ n, x = .int n ∧ Q 0 n
def pRg2 (pa pb : PX) : Env → (Int → Int → Prop) → Prop := fun env Q => pa env fun x => pb env fun y => ∃ i j, x = .int i ∧ y = .int j ∧ Q i j
theorem gr_1 {p2 : Pos} (hm : Z.mg "range" = none) (ha : GE Z ms a ra pa) (hg : ∀ i, Gl (Z.X i) "range" := by intro i; rfl) (na : ∀ i, starEach [a] (Z.X i).env = (false, eval a (Z.X i).env) :: starEach [] (Z.X i).env := by intro i; rfl) : GR Z ms (.Call (.Name "range" p2) [a] [] pos) (pRg1 pa) := by
  obtain ⟨ta, h1, h2⟩ := ha
  refine ⟨tRg1 ta, fun i => prg_1 (hg i) (by rw [Z.hmg]; exact hm) (h1 i) (na i), fun F H env σ A Q k h q hk hx => h2 F H env σ A _ _ h q (fun F1 H1 d v g1 r1 q1 => ?_) hx⟩
  obtain ⟨i, rfl, q1⟩ := q1
  exact ⟨i, r1.view g1.sub, hk F1 H1 0 i g1 q1⟩
theorem gr_2 {p2 : Pos} (hm : Z.mg "range" = none) (ha : GE Z ms a ra pa) (hb : GE Z ms b rb pb) (hg : ∀ i, Gl (Z.X i) "range" := by intro i; rfl) (na : ∀ i, starEach [a, b] (Z.X i).env = (false, eval a (Z.X i).env) :: starEach [b] (Z.X i).env := by intro i; rfl)
    (nb : ∀ i, starEach [b] (Z.X i).env = (false, eval b (Z.X i).env) :: starEach [] (Z.X i).env := by intro i; rfl) (npl : ∀ i, (backTo pos (starEach [b] (Z.X i).env)).any (·.1) = false := by intro i; rfl) : GR Z ms (.Call (.Name "range" p2) [a, b] [] pos) (pRg2 pa pb) := by
  obtain ⟨ta, h1, h2⟩ := ha
  obtain ⟨tb, h3, h4⟩ := hb
  refine ⟨tRg2 ta tb, fun i => prg_2 (hg i) (by rw [Z.hmg]; exact hm) (h1 i) (h3 i) (na i) (nb i) (npl i), fun F H env σ A Q k h q hk hx => se_two h2 h4 h q hx fun F1 H1 d e v u g r1 r2 z => ?_⟩
  obtain ⟨i, j, rfl, rfl, q1⟩ := z
  exact ⟨i, j, r1.view g.sub, r2.view g.sub, hk F1 H1 i j g q1⟩
def pLstRg (pr : Env → (Int → Int → Prop) → Prop) : PX := fun env Q => pr env fun i j => -1000000 ≤ i ∧ i ≤ 1000000 ∧ -1000000 ≤ j ∧ j ≤ 1000000 ∧ Q (.lst ((rgI i j).map .int))
def pTupRg (pr : Env → (Int → Int → Prop) → Prop) : PX := fun env Q => pr env fun i j => -1000000 ≤ i ∧ i ≤ 1000000 ∧ -1000000 ≤ j ∧ j ≤ 1000000 ∧ Q (.tup ((rgI i j).map .int))
theorem ge_listRg {p2 : Pos} {pr : Env → (Int → Int → Prop) → Prop} (hm : Z.mg "list" = none) (ha : GR Z ms e pr) (hg : ∀ i, Gl (Z.X i) "list" := by intro i; rfl) (na : ∀ i, starEach [e] (Z.X i).env = (false, eval e (Z.X i).env) :: starEach [] (Z.X i).env := by intro i; rfl) (hcm : Z.cm = true := by rfl) :
    GE Z ms (.Call (.Name "list" p2) [e] [] pos) (.ow (.el .sh)) (pLstRg pr) := by
  obtain ⟨t, h1, h2⟩ := ha
  refine ⟨_, fun i => pe_listRg (Z.calm hcm i) (hg i) (by rw [Z.hmg]; exact hm) (h1 i) (na i), fun F H env σ A Q k h q hk hx => h2 F H env σ A _ _ h q (fun F1 H1 i j g1 q1 => ?_) hx⟩
  obtain ⟨b1, b2, b3, b4, q1⟩ := q1
  refine ⟨⟨by omega, by omega, by omega, by omega, by omega⟩, fun z hz => ?_⟩
  rw [rgV_eq]
  obtain ⟨g4, r4⟩ := res_new (Z := Z) (A := A) g1 (Reps.ints.mpr rfl) hz
  exact hk F1 _ _ (.ref z) g4 r4 q1
theorem ge_tupRg {p2 : Pos} {pr : Env → (Int → Int → Prop) → Prop} (hm : Z.mg "tuple" = none) (ha : GR Z ms e pr) (hg : ∀ i, Gl (Z.X i) "tuple" := by intro i; rfl) (na : ∀ i, starEach [e] (Z.X i).env = (false, eval e (Z.X i).env) :: starEach [] (Z.X i).env := by intro i; rfl) (hcm : Z.cm = true := by rfl) :
    GE Z ms (.Call (.Name "tuple" p2) [e] [] pos) (.ow (.el .sh)) (pTupRg pr) := by
  obtain ⟨t, h1, h2⟩ := ha
  refine ⟨_, fun i => pe_tupRg (Z.calm hcm i) (hg i) (by rw [Z.hmg]; exact hm) (h1 i) (na i), fun F H env σ A Q k h q hk hx => h2 F H env σ A _ _ h q (fun F1 H1 i j g1 q1 => ?_) hx⟩
  obtain ⟨b1, b2, b3, b4, q1⟩ := q1
  refine ⟨⟨by omega, by omega, by omega, by omega, by omega⟩, fun z hz => ?_⟩
  rw [rgV_eq]
  exact hk F1 _ (.tup _) (.ref z) (g1.trans (Grow.new g1.sub hz)) ⟨[z], ⟨z, _, [], rfl, rfl, upd_same, RepMs.ofSh (Reps.ints.mpr rfl)⟩, by simp, fun x hx => by rw [List.mem_singleton.mp hx]; exact ⟨g1.fresh hz, g1.sub.none hz⟩⟩ q1

/-! ### what is walked -/
/-- the iterator J gives these items, shared, whatever grows meanwhile -/
def ItOk (K : PySem.W.Frag) (J : It) (F : Hp) (items : List D) : Prop := ∀ F1 H1, Sub F F1 → Sub F1 H1 → ∀ i : Nat,
  (∀ d, items[i]? = some d → J.go i H1 ∧ ∀ x H2, J.yld i H1 x H2 → ∃ F2, Grow F1 H1 F2 H2 ∧ Rep K F2 d x) ∧ (items.length ≤ i → J.stop i H1)
abbrev PI' := Env → (List D → Prop) → Prop
def GI {Ex : Xn → Env → Prop} (Z : GX Ex) (ms : List SM) (tg iter : Expr) (p : PI') : Prop := ∃ wi : TI, (∀ i, PI (Z.X i) tg iter wi) ∧ (∀ i x, foldedSetIterable iter (Z.X i).env x = pure x) ∧
  ∀ (F H : Hp) (env : Env) (σ : St) (A : List Addr) (Q : List D → Prop) (R : It → Hp → Prop), StOk Z.K ms F H env σ A → p env Q →
    (∀ F' H' J items, Grow F H F' H' → ItOk Z.K J F' items → Q items → R J H') → (∀ F' H' x c dx, Grow F H F' H' → RepX Z.K H H' x c dx → Ex x env → Z.E c dx σ H') → wi σ H R
theorem itl_ok {K : PySem.W.Frag} {F : Hp} {p : Addr} {vs : List V} {ds : List D} (e : F p = some (.lst vs)) (r : Reps K F ds vs) : ItOk K (Itl K p) F ds := fun F1 H1 s s1 i => by
  have e1 : SqL K H1 p vs := SqL.of (s1.lstX (s.lstX e))
  refine ⟨fun d hd => ?_, fun hl => ⟨vs, e1, by rw [r.length]; exact hl⟩⟩
  obtain ⟨v, hv, rv⟩ := r.get hd
  refine ⟨⟨vs, v, e1, hv⟩, fun x H2 y => ?_⟩
  obtain ⟨rfl, y⟩ := y
  have ex : x = v := Option.some.inj ((y _ e1).symm.trans hv)
  subst ex
  exact ⟨F1, Grow.refl s1, rv.sub s⟩
theorem itt_ok {K : PySem.W.Frag} {F : Hp} {p : Addr} {vs : List V} {ds : List D} (e : F p = some (.tup vs)) (r : Reps K F ds vs) : ItOk K (Itt K p) F ds := fun F1 H1 s s1 i => by
  have e1 : SqT K H1 p vs := SqT.of (s1.tupX (s.tupX e))
  refine ⟨fun d hd => ?_, fun hl => ⟨vs, e1, by rw [r.length]; exact hl⟩⟩
  obtain ⟨v, hv, rv⟩ := r.get hd
  refine ⟨⟨vs, v, e1, hv⟩, fun x H2 y => ?_⟩
  obtain ⟨rfl, y⟩ := y
  have ex : x = v := Option.some.inj ((y _ e1).symm.trans hv)
  subst ex
  exact ⟨F1, Grow.refl s1, rv.sub s⟩
theorem itr_ok {K : PySem.W.Frag} {F : Hp} (lo : Int) (n : Nat) : ItOk K (Itr lo n) F ((List.range n).map fun i => D.int (lo + (i : Nat))) := fun F1 H1 s s1 i => by
  refine ⟨fun d hd => ?_, fun hl => by show n ≤ i; simpa using hl⟩
  have hi : i < n := by
    have := (List.getElem?_eq_some_iff.mp hd).1
    simpa using this
  refine ⟨hi, fun x H2 y => ?_⟩
  obtain ⟨rfl, rfl⟩ := y
  have : d = .int (lo + (i : Nat)) := by
    rw [List.getElem?_map, List.getElem?_range hi] at hd
    exact (Option.some.inj hd).symm
  rw [this]
  exact ⟨F1, Grow.refl s1, rfl⟩
def iLst (pa : PX) : PI' := fun env Q => pa env fun x => ∃ ds, x = .lst ds ∧ Q ds
def iTpl (pa : PX) : PI' := fun env Q => pa env fun x => ∃ ds, x = .tup ds ∧ Q ds
theorem gi_lst {tg : Expr} (ha : GE Z ms a ra pa) (hp : ra.per = true := by rfl) (hf : ∀ i x, foldedSetIterable a (Z.X i).env x = pure x := by intro i x; rfl) : GI Z ms tg a (iLst pa) := by
  obtain ⟨ta, h1, h2⟩ := ha
  refine ⟨iList Z.K ta, fun i => by rw [← Z.hK i]; exact pi_list (h1 i), hf, fun F H env σ A Q R h q hk hx => h2 F H env σ A _ _ h q (fun F0 H1 d v g0 r1 q1 => ?_) hx⟩
  obtain ⟨F1, g1, _, r1, _⟩ := r1.share hp g0
  obtain ⟨ds, rfl, q1⟩ := q1
  obtain ⟨q, vs, rfl, e, rs⟩ := r1
  exact ⟨q, rfl, ⟨vs, SqL.of (g1.sub.lstX e)⟩, hk F1 H1 _ ds g1 (itl_ok e rs) q1⟩
theorem gi_tpl {tg : Expr} (ha : GE Z ms a ra pa) (hp : ra.per = true := by rfl) (hf : ∀ i x, foldedSetIterable a (Z.X i).env x = pure x := by intro i x; rfl) : GI Z ms tg a (iTpl pa) := by
  obtain ⟨ta, h1, h2⟩ := ha
  refine ⟨iTup Z.K ta, fun i => by rw [← Z.hK i]; exact pi_tup (h1 i), hf, fun F H env σ A Q R h q hk hx => h2 F H env σ A _ _ h q (fun F0 H1 d v g0 r1 q1 => ?_) hx⟩
  obtain ⟨F1, g1, _, r1, _⟩ := r1.share hp g0
  obtain ⟨ds, rfl, q1⟩ := q1
  obtain ⟨q, vs, rfl, e, rs⟩ := r1
  exact ⟨q, rfl, ⟨vs, SqT.of (g1.sub.tupX e)⟩, hk F1 H1 _ ds g1 (itt_ok e rs) q1⟩
def iRg1 (pa : PX) : PI' := fun env Q => pa env fun x => ∃ n, x = .int n ∧ -1000000000 ≤ n ∧ n ≤ 1000000000 ∧ Q ((List.range n.toNat).map fun i => D.int (0 + (i : Nat)))
def iRg2 (pa pb : PX) : PI' := fun env Q => pa env fun x => pb env fun y => ∃ i j, x = .int i ∧ y = .int j ∧ -10000000000000 ≤ i ∧ i ≤ 10000000000000 ∧ -10000000000000 ≤ j ∧ j ≤ 10000000000000 ∧ Q ((List.range (j - i).toNat).map fun k => D.int (i + (k : Nat)))
theorem gi_rg1 {tg : Expr} {p2 : Pos} (hm : Z.mg "range" = none) (ha : GE Z ms a ra pa) (hg : ∀ i, Gl (Z.X i) "range" := by intro i; rfl) (hs : ∀ i, starEach [a] (Z.X i).env = [(false, eval a (Z.X i).env)] := by intro i; rfl)
    (hs' : ∀ i, starEach [a] (Z.X i).env = (false, eval a (Z.X i).env) :: starEach [] (Z.X i).env := by intro i; rfl)
    (hf : ∀ i x, foldedSetIterable (.Call (.Name "range" p2) [a] [] pos) (Z.X i).env x = pure x := by intro i x; rfl) : GI Z ms tg (.Call (.Name "range" p2) [a] [] pos) (iRg1 pa) := by
  obtain ⟨ta, h1, h2⟩ := ha
  refine ⟨_, fun i => pi_range1 (hg i) (by rw [Z.hmg]; exact hm) (pa_cons (h1 i) pa_nil (hs' i)) (hs i), hf, fun F H env σ A Q R h q hk hx => h2 F H env σ A _ _ h q (fun F1 H1 d v g1 r1 q1 => ?_) hx⟩
  obtain ⟨n, rfl, b1, b2, q1⟩ := q1
  have ev : v = .int n := r1.view g1.sub
  subst ev
  exact ⟨n, rfl, by omega, by omega, hk F1 H1 _ _ g1 (itr_ok 0 n.toNat) q1⟩
theorem gi_rg2 {tg : Expr} {p2 : Pos} (hm : Z.mg "range" = none) (ha : GE Z ms a ra pa) (hb : GE Z ms b rb pb) (hg : ∀ i, Gl (Z.X i) "range" := by intro i; rfl) (hs : ∀ i, starEach [a, b] (Z.X i).env = [(false, eval a (Z.X i).env), (false, eval b (Z.X i).env)] := by intro i; rfl)
    (hs2 : ∀ i, starEach [b] (Z.X i).env = [(false, eval b (Z.X i).env)] := by intro i; rfl)
    (hs' : ∀ i, starEach [a, b] (Z.X i).env = (false, eval a (Z.X i).env) :: starEach [b] (Z.X i).env := by intro i; rfl) (hs3 : ∀ i, starEach [b] (Z.X i).env = (false, eval b (Z.X i).env) :: starEach [] (Z.X i).env := by intro i; rfl)
    (hf : ∀ i x, foldedSetIterable (.Call (.Name "range" p2) [a, b] [] pos) (Z.X i).env x = pure x := by intro i x; rfl) : GI Z ms tg (.Call (.Name "range" p2) [a, b] [] pos) (iRg2 pa pb) := by
  obtain ⟨ta, h1, h2⟩ := ha
  obtain ⟨tb, h3, h4⟩ := hb
  refine ⟨_, fun i => pi_range2 (hg i) (by rw [Z.hmg]; exact hm) (pa_cons (h1 i) (pa_cons (h3 i) pa_nil (hs3 i)) (hs' i)) (hs i) (hs2 i), hf, fun F H env σ A Q R h q hk hx => se_two h2 h4 h q hx fun F1 H1 d e v u g r1 r2 z => ?_⟩
  obtain ⟨i, j, rfl, rfl, b1, b2, b3, b4, q1⟩ := z
  have ev : v = .int i := r1.view g.sub
  have eu : u = .int j := r2.view g.sub
  subst ev eu
  exact ⟨i, j, rfl, ⟨by omega, by omega, by omega, by omega⟩, hk F1 H1 _ _ g (itr_ok i (j - i).toNat) q1⟩
/-- enumerate(xs) -/
def enumD (ds : List D) : List D := ds.mapIdx fun i d => D.tup [.int (i : Nat), d]
def iEnu (pa : PX) : PI' := fun env Q => pa env fun x => ∃ ds, x = .lst ds ∧ Q (enumD ds)
theorem gi_enum {tgs : List Expr} {kk : Nat} {tpos p2 : Pos} (hm : Z.mg "enumerate" = none) (ha : GE Z ms a ra pa) (hp : ra.per = true := by rfl) (hg : ∀ i, Gl (Z.X i) "enumerate" := by intro i; rfl) (hs : ∀ i, starEach [a] (Z.X i).env = [(false, eval a (Z.X i).env)] := by intro i; rfl)
    (hs' : ∀ i, starEach [a] (Z.X i).env = (false, eval a (Z.X i).env) :: starEach [] (Z.X i).env := by intro i; rfl)
    (hf : ∀ i x, foldedSetIterable (.Call (.Name "enumerate" p2) [a] [] pos) (Z.X i).env x = pure x := by intro i x; rfl) : GI Z ms (.Tuple tgs kk tpos) (.Call (.Name "enumerate" p2) [a] [] pos) (iEnu pa) := by
  obtain ⟨ta, h1, h2⟩ := ha
  refine ⟨iEnum Z.K (tCons ta tNil), fun i => by rw [← Z.hK i]; exact pi_enum (hg i) (by rw [Z.hmg]; exact hm) (pa_cons (h1 i) pa_nil (hs' i)) (hs i), hf, fun F H env σ A Q R h q hk hx => h2 F H env σ A _ _ h q (fun F0 H1 d v g0 r1 q1 => ?_) hx⟩
  obtain ⟨F1, g1, _, r1, _⟩ := r1.share hp g0
  obtain ⟨ds, rfl, q1⟩ := q1
  obtain ⟨q, vs, rfl, e, rs⟩ := r1
  refine ⟨q, vs, rfl, SqL.of (g1.sub.lstX e), hk F1 H1 _ _ g1 (fun F2 H2 s s1 i => ?_) q1⟩
  have e1 : SqL Z.K H2 q vs := SqL.of (s1.lstX (s.lstX e))
  have l1 : (enumD ds).length = ds.length := by unfold enumD; rw [List.length_mapIdx]
  refine ⟨fun d hd => ?_, fun hl => ⟨vs, e1, by rw [rs.length]; omega⟩⟩
  have hi : i < ds.length := by rw [← l1]; exact (List.getElem?_eq_some_iff.mp hd).1
  have hdi : ds[i]? = some ds[i] := List.getElem?_eq_getElem hi
  have ed : d = .tup [.int (i : Nat), ds[i]] := by
    unfold enumD at hd
    rw [List.getElem?_mapIdx, hdi] at hd
    exact (Option.some.inj hd).symm
  obtain ⟨v, hv, rv⟩ := rs.get hdi
  refine ⟨⟨vs, v, e1, hv⟩, fun x H3 y => ?_⟩
  obtain ⟨T, w, rfl, hT, rfl, y⟩ := y
  have ew : w = v := Option.some.inj ((y _ e1).symm.trans hv)
  subst ew
  have g3 : Grow F2 H2 (upd F2 T (.tup [.int (i : Nat), w])) (upd H2 T (.tup [.int (i : Nat), w])) := Grow.newF s1 hT
  refine ⟨_, g3, ?_⟩
  rw [ed]
  exact ⟨T, _, rfl, upd_same, ⟨_, _, rfl, rfl, ⟨_, _, rfl, (rv.sub s).sub (g3.subF s1), rfl⟩⟩⟩
/-- reversed(xs) of a list -/
def iRevd (pa : PX) : PI' := fun env Q => pa env fun x => ∃ ds, x = .lst ds ∧ Q ds.reverse
theorem gi_rev {tg : Expr} {p2 : Pos} (hm : Z.mg "reversed" = none) (ha : GE Z ms a ra pa) (hp : ra.per = true := by rfl) (hg : ∀ i, Gl (Z.X i) "reversed" := by intro i; rfl)
    (hs' : ∀ i, starEach [a] (Z.X i).env = (false, eval a (Z.X i).env) :: starEach [] (Z.X i).env := by intro i; rfl)
    (hf : ∀ i x, foldedSetIterable (.Call (.Name "reversed" p2) [a] [] pos) (Z.X i).env x = pure x := by intro i x; rfl) : GI Z ms tg (.Call (.Name "reversed" p2) [a] [] pos) (iRevd pa) := by
  obtain ⟨ta, h1, h2⟩ := ha
  refine ⟨RT.iRevA Z.K ta, fun i => by rw [← Z.hK i]; exact RT.pi_revA (hg i) (by rw [Z.hmg]; exact hm) (h1 i) (hs' i), hf, fun F H env σ A Q R h q hk hx => h2 F H env σ A _ _ h q (fun F0 H1 d v g0 r1 q1 => ?_) hx⟩
  obtain ⟨F1, g1, _, r1, _⟩ := r1.share hp g0
  obtain ⟨ds, rfl, q1⟩ := q1
  obtain ⟨q, vs, rfl, e, rs⟩ := r1
  refine ⟨q, vs, rfl, .inl ⟨SqL.of (g1.sub.lstX e), hk F1 H1 _ _ g1 (fun F2 H2 s s1 i => ?_) q1⟩⟩
  have e1 : SqL Z.K H2 q vs := SqL.of (s1.lstX (s.lstX e))
  have l := rs.length
  refine ⟨fun d hd => ?_, fun hl => by rw [List.length_reverse] at hl; show vs.length ≤ i; omega⟩
  have hi : i < ds.length := by have := (List.getElem?_eq_some_iff.mp hd).1; rwa [List.length_reverse] at this
  rw [List.getElem?_reverse hi] at hd
  obtain ⟨v, hv, rv⟩ := rs.get hd
  have hv' : vs[vs.length - 1 - i]? = some v := by rw [l]; exact hv
  refine ⟨⟨by omega, vs, v, e1, hv'⟩, fun x H3 y => ?_⟩
  obtain ⟨rfl, y⟩ := y
  have ex : x = v := Option.some.inj ((y _ e1).symm.trans hv')
  subst ex
  exact ⟨F2, Grow.refl s1, rv.sub s⟩
end
end G

set_option Elab.async false
set_option linter.all false
set_option maxRecDepth 100000
set_option maxHeartbeats 4000000
/-! G8: targets; comprehensions. -/
namespace G
open PySem L2

/-- only these slots change -/
def Chg (js : List Nat) (σ σ' : St) : Prop := σ'.length = σ.length ∧ ∀ l, l ∉ js → σ'[l]? = σ[l]?
theorem Chg.refl (js : List Nat) (σ : St) : Chg js σ σ := ⟨rfl, fun _ _ => rfl⟩
theorem Chg.trans {js : List Nat} {σ σ1 σ2 : St} (a : Chg js σ σ1) (b : Chg js σ1 σ2) : Chg js σ σ2 := ⟨b.1.trans a.1, fun l h => (b.2 l h).trans (a.2 l h)⟩
theorem Chg.mono {js ks : List Nat} {σ σ' : St} (a : Chg js σ σ') (h : ∀ l ∈ js, l ∈ ks) : Chg ks σ σ' := ⟨a.1, fun l hl => a.2 l fun z => hl (h l z)⟩
theorem Chg.set {i : Nat} {v : Option V} {σ : St} : Chg [i] σ (σ.set i v) := ⟨List.length_set, fun l h => List.getElem?_set_ne (fun e => h (by rw [e]; exact List.mem_cons_self))⟩
theorem wipe_get (σ : St) : ∀ (vs : List Nat) (l : Nat), (wipe σ vs)[l]? = if l ∈ vs then (if l < σ.length then some none else none) else σ[l]?
  | [], l => by simp [wipe]
  | v :: vs, l => by
    show ((wipe σ vs).set v none)[l]? = _
    by_cases e : v = l
    · subst e
      rw [if_pos List.mem_cons_self]
      by_cases hl : v < σ.length
      · rw [List.getElem?_set_self (by rw [wipe_length]; exact hl), if_pos hl]
      · rw [if_neg hl, List.getElem?_eq_none_iff.mpr]
        rw [List.length_set, wipe_length]
        omega
    · rw [List.getElem?_set_ne e, wipe_get σ vs l]
      have : (l ∈ v :: vs) ↔ l ∈ vs := by
        constructor
        · intro h
          rcases List.mem_cons.mp h with z | z
          · exact absurd z.symm e
          · exact z
        · exact List.mem_cons_of_mem _
      by_cases hl : l ∈ vs
      · rw [if_pos hl, if_pos (this.mpr hl)]
      · rw [if_neg hl, if_neg (fun z => hl (this.mp z))]
theorem wipe_chg {js vs : List Nat} {σ σ' : St} (h : Chg js (wipe σ vs) σ') (s : ∀ l ∈ js, l ∈ vs) : wipe σ' vs = wipe σ vs := List.ext_getElem? fun l => by
  rw [wipe_get, wipe_get]
  have e1 : σ'.length = σ.length := h.1.trans (wipe_length σ vs)
  by_cases hl : l ∈ vs
  · rw [if_pos hl, if_pos hl, e1]
  · rw [if_neg hl, if_neg hl, h.2 l (fun z => hl (s l z)), wipe_get, if_neg hl]

section
variable {Ex : Xn → Env → Prop} {Z : GX Ex} {ms ms1 ms2 : List SM} {a b c e : Expr} {es : List Expr} {ta tb te : TE} {ra rb rc r : RM} {pa pb pc p : PX} {ps : PXs} {pos : Pos} {m : M}
/-! ### targets -/
abbrev PT' := D → Env → (Env → Prop) → Prop
abbrev PTs' := List D → Env → (Env → Prop) → Prop
def GT {Ex : Xn → Env → Prop} (Z : GX Ex) (ms : List SM) (tg : Expr) (js : List Nat) (ms' : List SM) (p : PT') : Prop := ∃ g : TG, (∀ i, PG (Z.X i) tg g) ∧
  ∀ (F H : Hp) (env : Env) (σ : St) (A : List Addr) (d : D) (v : V) (Q : Env → Prop) (k : St → Hp → Prop), StOk Z.K ms F H env σ A → Rep Z.K F d v → p d env Q →
    (∀ env' σ' A', StOk Z.K ms' F H env' σ' A' → (∀ a ∈ A', a ∈ A) → Chg js σ σ' → Q env' → k σ' H) → g v σ H k
def GTs {Ex : Xn → Env → Prop} (Z : GX Ex) (ms : List SM) (tg : List Expr) (js : List Nat) (ms' : List SM) (p : PTs') : Prop := ∃ g : TGs, (∀ i, PGs (Z.X i) tg g) ∧
  ∀ (F H : Hp) (env : Env) (σ : St) (A : List Addr) (ds : List D) (vs : List V) (Q : Env → Prop) (k : St → Hp → Prop), StOk Z.K ms F H env σ A → Reps Z.K F ds vs → p ds env Q →
    (∀ env' σ' A', StOk Z.K ms' F H env' σ' A' → (∀ a ∈ A', a ∈ A) → Chg js σ σ' → Q env' → k σ' H) → g vs σ H k
def tName (i : Nat) : PT' := fun d env Q => Q (env.set i (some d))
def tTupl (n : Nat) (ps : PTs') : PT' := fun d env Q => ∃ ds, d = .tup ds ∧ ds.length = n ∧ ps ds env Q
def tsNil : PTs' := fun ds env Q => ds = [] ∧ Q env
def tsCons (p : PT') (ps : PTs') : PTs' := fun ds env Q => ∃ d r, ds = d :: r ∧ p d env fun env' => ps r env' Q
theorem gt_name {i : Nat} {x : Str} (hi : i < ms.length := by decide) (hN : ∀ j, (Z.X j).N[i]? = some x := by intro j; rfl) (hx : ∀ j, Loc (Z.X j).env.scope x := by intro j; first | exact Or.inl rfl | exact Or.inr rfl)
    (hf : ∀ j, (Z.X j).fn x = true ∨ (Z.X j).env.scope.names.lookup x = some .local := by intro j; first | exact Or.inl rfl | exact Or.inr rfl) : GT Z ms (.Name x pos) [i] (ms.set i (.ow .sh)) (tName i) := by
  refine ⟨gName i, fun j => pg_name (Z.nd j) (hN j) (hx j) (hf j), fun F H env σ A d v Q k h r q hk => ?_⟩
  obtain ⟨A', q1, q2⟩ := h.put (i := i) (m := .sh) (fp := []) hi (RepM.sh.mpr ⟨rfl, r⟩) List.nodup_nil (fun _ z => by cases z) (fun _ z => by cases z)
  refine hk _ _ A' q1 (fun a ha => ?_) Chg.set q
  rcases q2 a ha with z | z
  · exact z
  · cases z
theorem gts_nil : GTs Z ms [] [] ms tsNil := ⟨gNil, fun _ => pgs_nil, fun F H env σ A ds vs Q k h r q hk => by
  obtain ⟨rfl, q⟩ := q
  exact ⟨r, hk env σ A h (fun _ z => z) (Chg.refl _ σ) q⟩⟩
theorem gts_cons {tg : Expr} {tgs : List Expr} {js ks : List Nat} {p : PT'} {ps : PTs'} (h1 : GT Z ms tg js ms1 p) (h2 : GTs Z ms1 tgs ks ms2 ps)
    (hs : ∀ i, (assignEach (tg :: tgs) (Z.X i).env).map (·.2) = assign tg (Z.X i).env :: (assignEach tgs (Z.X i).env).map (·.2) := by intro i; rfl) : GTs Z ms (tg :: tgs) (js ++ ks) ms2 (tsCons p ps) := by
  obtain ⟨g, h3, h4⟩ := h1
  obtain ⟨gs, h5, h6⟩ := h2
  refine ⟨_, fun i => pgs_cons (h3 i) (h5 i) (hs i), fun F H env σ A ds vs Q k h r q hk => ?_⟩
  obtain ⟨d, rest, rfl, q⟩ := q
  obtain ⟨x, xs, rfl, r1, r2⟩ := r
  refine ⟨x, xs, rfl, ?_⟩
  refine h4 F H env σ A d x _ _ h r1 q fun env1 σ1 A1 s1 a1 c1 q1 => ?_
  refine h6 F H env1 σ1 A1 rest xs _ _ s1 r2 q1 fun env2 σ2 A2 s2 a2 c2 q2 => ?_
  exact hk env2 σ2 A2 s2 (fun a ha => a1 a (a2 a ha)) ((c1.mono fun l hl => List.mem_append_left _ hl).trans (c2.mono fun l hl => List.mem_append_right _ hl)) q2
theorem gt_tup {tgs : List Expr} {kk : Nat} {js : List Nat} {ps : PTs'} {n : Nat} (h : GTs Z ms tgs js ms1 ps) (hn : ∀ i, (assignEach tgs (Z.X i).env).length = n := by intro i; rfl) (hst : ∀ i, (assignEach tgs (Z.X i).env).findIdx? (·.1) = none := by intro i; rfl) (hcm : Z.cm = true := by rfl) :
    GT Z ms (.Tuple tgs kk pos) js ms1 (tTupl n ps) := by
  obtain ⟨g, h1, h2⟩ := h
  refine ⟨gTup Z.K n g, fun i => by rw [← Z.hK i]; exact pg_tup (Z.calm hcm i) (h1 i) (hn i) (hst i), fun F H env σ A d v Q k h r q hk => ?_⟩
  obtain ⟨ds, rfl, hl, q⟩ := q
  obtain ⟨t, vs, rfl, e, rs⟩ := r
  exact ⟨t, vs, rfl, SqT.of (h.sub.tupX e), by rw [rs.length]; exact hl, h2 F H env σ A ds vs Q k h rs q hk⟩

/-! ### comprehensions -/
/-- the block of a comprehension -/
def GX.blk (Z : GX Ex) (scope : Scope) : GX (fun _ _ => False) where
  I := Z.I × Shared × Hp × Addr × List (Str × Addr) × List Addr
  X := fun j => (Z.X j.1).blk j.2.1 j.2.2.1 scope (compEnvC scope j.2.2.2.2.1 j.2.2.2.1 (Z.X j.1).env) j.2.2.2.2.2
  K := Z.K
  mg := Z.mg
  P := Z.P
  w := Z.w
  base := Z.base
  lv := Z.lv
  E := fun _ _ _ _ => False
  hK := fun j => Z.hK j.1
  hmg := fun j => Z.hmg j.1
  hP := fun j => Z.hP j.1
  hw := fun j => Z.hw j.1
  hb := fun j => Z.hb j.1
  cm := Z.cm
  calm' := fun j => Z.calm' j.1
  nd := fun j => Z.nd j.1
  hd := fun h j => Z.hd h j.1
  roomH := fun j => Z.roomH j.1
  tk := fun _ => takes0
  po := fun _ => PassesOwn.never
def wipeE (env : Env) : List Nat → Env
  | [] => env
  | v :: vs => (wipeE env vs).set v none
theorem SlsOk.wipe {K : PySem.W.Frag} {F H : Hp} {ms : List SM} {env : Env} {σ : St} {A : List Addr} (h : SlsOk K F H ms env σ A) (n : A.Nodup) : ∀ vs : List Nat, ∃ A', SlsOk K F H ms (wipeE env vs) (wipe σ vs) A' ∧ A'.Nodup ∧ ∀ a ∈ A', a ∈ A
  | [] => ⟨A, h, n, fun _ z => z⟩
  | v :: vs => by
    obtain ⟨A1, h1, n1, s1⟩ := SlsOk.wipe h n vs
    by_cases hv : v < ms.length
    · obtain ⟨l1, l2⟩ := h1.len
      have e1 : ms[v]? = some ms[v] := List.getElem?_eq_getElem hv
      have hv2 : v < (wipeE env vs).length := by omega
      obtain ⟨s, fp, A2, q1, q2, q3, q4, q5⟩ := h1.take n1 e1 (List.getElem?_eq_getElem hv2)
      have q6 : (List.nodup_append.mp q4).2.1 = (List.nodup_append.mp q4).2.1 := rfl
      obtain ⟨A3, p1, p2, p3⟩ := q3.put (List.nodup_append.mp q4).2.1 (i := v) (m := ms[v]) (d := none) (s := none) (fp := []) hv (by cases ms[v] <;> rfl) List.nodup_nil (fun _ z => by cases z)
      rw [List.set_set, List.set_getElem_self] at p1
      refine ⟨A3, p1, p2, fun a ha => ?_⟩
      rcases p3 a ha with z | z
      · exact s1 a ((q5 a).mpr (List.mem_append_right _ z))
      · cases z
    · obtain ⟨l1, l2⟩ := h1.len
      have e1 : (wipeE env vs).set v none = wipeE env vs := List.set_eq_of_length_le (by omega)
      have e2 : (L2.wipe σ vs).set v none = L2.wipe σ vs := List.set_eq_of_length_le (by omega)
      show ∃ A', SlsOk K F H ms ((wipeE env vs).set v none) ((L2.wipe σ vs).set v none) A' ∧ _
      rw [e1, e2]
      exact ⟨A1, h1, n1, s1⟩
/-- one item behind another, what is made so far -/
def pMap : List D → (D → List D → (List D → Prop) → Prop) → List D → (List D → Prop) → Prop
  | [], _, acc, K => K acc
  | d :: r, f, acc, K => f d acc fun acc' => pMap r f acc' K
/-- one turn of a comprehension -/
def lcTurn (own : List Nat) (env : Env) (pt : PT') (pb : PB) (pe : PX) : D → List D → (List D → Prop) → Prop := fun d acc K => pt d (wipeE env own) fun env' => pb env' fun b => (b = true → pe env' fun y => acc.length < 100000 ∧ K (acc ++ [y])) ∧ (b = false → K acc)
def pLc (own : List Nat) (pi : PI') (pt : PT') (pb : PB) (pe : PX) : PX := fun env Q => pi env fun items => pMap items (lcTurn own env pt pb pe) [] fun ys => Q (.lst ys)
theorem RepMs.snoc {K : PySem.W.Frag} {F H : Hp} {m : M} {d : D} {v : V} {f : List Addr} (h : RepM K F H d m v f) : ∀ {ds : List D} {vs : List V} {fp : List Addr}, RepMs K F H ds m vs fp → RepMs K F H (ds ++ [d]) m (vs ++ [v]) (fp ++ f)
  | [], vs, fp, ⟨e1, e2⟩ => by subst e1 e2; exact ⟨v, [], f, [], rfl, by simp, h, rfl, rfl⟩
  | c :: ds, vs, fp, ⟨x, r, f1, f2, e1, e2, h1, h2⟩ => by
    subst e1 e2
    exact ⟨x, r ++ [v], f1, f2 ++ f, rfl, by rw [List.append_assoc], h1, RepMs.snoc h h2⟩
/-- the tests of a comprehension's clause -/
def GTt {Ex : Xn → Env → Prop} (Z : GX Ex) (ms : List SM) (es : List Expr) (p : PB) : Prop := ∃ t : TT, (∀ i, PTs (Z.X i) es t) ∧ SB Z ms t p
def bYes : PB := fun _ Q => Q true
theorem gtt_nil : GTt Z ms [] bYes := ⟨tYes, fun _ => pts_nil, fun F H env σ A Q k h q hk hx => hk F H true (Grow.refl h.sub) q⟩
theorem gtt_one {pb : PB} (h : GB Z ms a pb) : GTt Z ms [a] pb := by
  obtain ⟨t, h1, h2⟩ := h
  exact ⟨t, fun i => pts_one (h1 i), h2⟩
theorem se_lc {wi : TI} {g : TG} {tt : TT} {own js : List Nat} {pi : PI'} {pt : PT'} {pb : PB} {Zb : GX (fun _ _ => False)} (hK : Zb.K = Z.K) (hE : ∀ c dx σ H, ¬ Zb.E c dx σ H)
    (h1 : ∀ (F H : Hp) (env : Env) (σ : St) (A : List Addr) (Q : List D → Prop) (R : It → Hp → Prop), StOk Z.K ms F H env σ A → pi env Q →
      (∀ F' H' J items, Grow F H F' H' → ItOk Z.K J F' items → Q items → R J H') → (∀ F' H' x c dx, Grow F H F' H' → RepX Z.K H H' x c dx → Ex x env → Z.E c dx σ H') → wi σ H R)
    (h2 : ∀ (F H : Hp) (env : Env) (σ : St) (A : List Addr) (d : D) (v : V) (Q : Env → Prop) (k : St → Hp → Prop), StOk Z.K ms F H env σ A → Rep Z.K F d v → pt d env Q →
      (∀ env' σ' A', StOk Z.K ms1 F H env' σ' A' → (∀ a ∈ A', a ∈ A) → Chg js σ σ' → Q env' → k σ' H) → g v σ H k)
    (hj : ∀ l ∈ js, l ∈ own) (h3 : SB Zb ms1 tt pb) (h4 : SE Zb ms1 te r p) (hf : Fit r m) : SE Z ms (tLc wi g tt te own) (.ow (.el m)) (pLc own pi pt pb p) := by
  intro F H env σ A Q k h q hk hx
  refine h1 F H env σ A _ _ h q (fun F1 H1 J items g1 it q1 => ?_) hx
  intro Dl hD
  have hF1 : F1 Dl = none := g1.sub.none hD
  obtain ⟨Aw, w1, w2, w3⟩ := h.sls.wipe h.nd own
  refine ⟨fun i n H' => n = items.length - i ∧ i ≤ items.length ∧ ∃ F' ys vs fp, Step [Dl] F1 (upd H1 Dl (.lst [])) [Dl] F' H' ∧ Sub F' H' ∧ F' Dl = none ∧ H' Dl = some (.lst vs) ∧ RepMs Z.K F' H' ys m vs fp ∧ fp.Nodup ∧ (∀ a ∈ fp, H1 a = none ∧ a ≠ Dl ∧ F' a = none) ∧
      pMap (items.drop i) (lcTurn own env pt pb p) ys fun ys => Q (.lst ys), ⟨items.length, ?_⟩, ?_⟩
  · refine ⟨by omega, Nat.zero_le _, F1, [], [], [], Step.refl, (Grow.new g1.sub hD).sub, hF1, upd_same, ⟨rfl, rfl⟩, List.nodup_nil, (fun _ z => by cases z), q1⟩
  · rintro i n H2 ⟨rfl, hi, F2, ys, vs, fp, st, s2, hF2, hv, rs, n2, z2, q2⟩
    have fromH1 : ∀ a, H1 a ≠ none → H2 a = H1 a ∧ F2 a = F1 a := fun a ha => by
      have hne : a ≠ Dl := fun z => ha (z ▸ hD)
      obtain ⟨e1, e2⟩ := st.keep a (by rw [upd_ne hne]; exact ha) (by simpa using hne)
      rw [upd_ne hne] at e1
      exact ⟨e1, e2⟩
    have s12 : Sub F1 F2 := Sub.of fun a u e => (fromH1 a (g1.sub.some e)).2.trans e
    by_cases hlt : i < items.length
    · obtain ⟨d, hd⟩ : ∃ d, items[i]? = some d := ⟨_, List.getElem?_eq_getElem hlt⟩
      have ed : items.drop i = d :: items.drop (i + 1) := by
        rw [List.drop_eq_getElem_cons hlt]
        rw [List.getElem?_eq_getElem hlt] at hd
        rw [Option.some.inj hd]
      rw [ed] at q2
      obtain ⟨ok1, _⟩ := it F2 H2 s12 s2 i
      obtain ⟨go, yl⟩ := ok1 d hd
      refine .inr ⟨go, _, fun H' hN => ⟨items.length - (i + 1), by omega, rfl, hlt, hN⟩, fun x H3 hy => ?_⟩
      obtain ⟨F3, g3, r3⟩ := yl x H3 hy
      -- the slots, wiped, at the turn
      have sw : StOk Z.K ms F3 H3 (wipeE env own) (wipe σ own) Aw := by
        have dom : ∀ a ∈ Aw, H a ≠ none := fun a ha => h.sls.dom a (w3 a ha)
        have k1 : ∀ a ∈ Aw, H3 a = H a ∧ F3 a = F a := fun a ha => by
          have d0 := dom a ha
          have d1 := Same.ne g1.same d0
          obtain ⟨e1, e2⟩ := fromH1 a d1
          have d2 : H2 a ≠ none := by rw [e1]; exact d1
          exact ⟨(Same.eq g3.same d2).trans (e1.trans (Same.eq g1.same d0)), (g3.old a d2).trans (e2.trans (g1.old a d0))⟩
        have sF : Sub F F3 := Sub.of fun a u e => by
          have d0 := h.sub.some e
          have d1 := Same.ne g1.same d0
          obtain ⟨e1, e2⟩ := fromH1 a d1
          have d2 : H2 a ≠ none := by rw [e1]; exact d1
          exact (g3.old a d2).trans (e2.trans ((g1.old a d0).trans e))
        exact ⟨g3.sub, w1.mono sF fun a ha => (k1 a ha).1, w2, fun a ha => (k1 a ha).2.trans (h.off a (w3 a ha))⟩
      refine h2 F3 H3 _ _ Aw d x _ _ sw r3 q2 fun env' σ' A' s' a' c' q3 => ?_
      refine ⟨wipe_chg c' hj, ?_⟩
      have nx : ∀ {F' H' : Hp}, Grow F3 H3 F' H' → Grow F2 H2 F' H' := fun g => g3.trans g
      have keepD : ∀ {F' H' : Hp}, Grow F2 H2 F' H' → H' Dl = some (.lst vs) ∧ F' Dl = none := fun {F' H'} g => ⟨g.same Dl _ hv, (g.old Dl (by rw [hv]; simp)).trans hF2⟩
      have keepR : ∀ {F' H' : Hp}, Grow F2 H2 F' H' → RepMs Z.K F' H' ys m vs fp ∧ ∀ a ∈ fp, F' a = none := fun {F' H'} g => ⟨rs.grow s2 g, fun a ha => (g.old a (rs.dom a ha)).trans (z2 a ha).2.2⟩
      rw [← hK] at s'
      refine h3 F3 H3 env' σ' A' _ _ s' q3 (fun F4 H4 b g4 q4 => ?_) (fun F' H' x c dx g y z => z.elim)
      cases b with
      | false =>
        rw [if_neg Bool.false_ne_true]
        have g := nx g4
        obtain ⟨d1, d2⟩ := keepD g
        obtain ⟨r5, f5⟩ := keepR g
        exact ⟨F4, ys, vs, fp, st.trans (Step.grow g), g4.sub, d2, d1, r5, n2, fun a ha => ⟨(z2 a ha).1, (z2 a ha).2.1, f5 a ha⟩, q4.2 rfl⟩
      | true =>
        rw [if_pos rfl]
        refine h4 F4 H4 env' σ' A' _ _ (s'.grow g4) (q4.1 rfl) (fun F0 H5 y u g0 r5 q5 => ?_) (fun F' H' x c dx g y z => z.elim)
        obtain ⟨F5, g5, _, fq, r5, n5, z5⟩ := r5.fit hf g0
        rw [hK] at r5
        have g := nx (g4.trans g5)
        obtain ⟨d1, d2⟩ := keepD g
        obtain ⟨r6, f6⟩ := keepR g
        refine ⟨vs, d1, by rw [rs.length]; exact sz5lt q5.1, ?_⟩
        have hH4 : ∀ a, H4 a = none → H2 a = none := fun a e => (nx g4).fresh e
        have fqD : ∀ a ∈ fq, a ≠ Dl := fun a ha z => by
          have := hH4 a (z5 a ha).1
          rw [z, hv] at this
          cases this
        have fpD : ∀ a ∈ fp, a ≠ Dl := fun a ha => (z2 a ha).2.1
        have updS : Sub F5 (upd H5 Dl (.lst (vs ++ [u]))) := fun a w e => by
          have hne : a ≠ Dl := fun z => by rw [z, d2] at e; cases e
          rw [upd_ne hne]
          exact g5.sub a w e
        refine ⟨F5, ys ++ [y], vs ++ [u], fp ++ fq, ?_, updS, d2, upd_same, ?_, ?_, ?_, q5.2⟩
        · refine (st.trans (Step.grow g)).trans ⟨fun a ha hn => ?_, fun a z => .inl z, fun a ha => by
            by_cases z : a = Dl
            · rw [z, upd_same]; simp
            · rw [upd_ne z]; exact ha⟩
          have hne : a ≠ Dl := by simpa using hn
          exact ⟨upd_ne hne, rfl⟩
        · exact RepMs.snoc (r5.mono (Sub.refl _) fun a ha => upd_ne (fqD a ha)) (r6.mono (Sub.refl _) fun a ha => upd_ne (fpD a ha))
        · refine List.nodup_append.mpr ⟨n2, n5, fun a ha b hb e => ?_⟩
          subst e
          exact rs.dom a ha (hH4 a (z5 a hb).1)
        · intro a ha
          rcases List.mem_append.mp ha with z | z
          · exact ⟨(z2 a z).1, fpD a z, f6 a z⟩
          · have e2 : H2 a = none := hH4 a (z5 a z).1
            refine ⟨?_, fqD a z, (z5 a z).2⟩
            cases e1 : H1 a with
            | none => rfl
            | some w =>
              rw [(fromH1 a (by rw [e1]; simp)).1, e1] at e2
              cases e2
    · have ei : i = items.length := by omega
      subst ei
      obtain ⟨_, stop⟩ := it F2 H2 s12 s2 items.length
      rw [List.drop_length] at q2
      refine .inl ⟨stop (Nat.le_refl _), ?_⟩
      have gAll : Grow F1 H1 F2 H2 := ⟨s2, fun a u e => (fromH1 a (by rw [e]; simp)).1.trans e, fun a ha => (fromH1 a ha).2⟩
      refine hk F2 H2 (.lst ys) (.ref Dl) (g1.trans gAll) ⟨Dl :: fp, ⟨Dl, vs, fp, rfl, rfl, hv, rs⟩, List.nodup_cons.mpr ⟨fun z => (z2 Dl z).2.1 rfl, n2⟩, fun a ha => ?_⟩ q2
      rcases List.mem_cons.mp ha with z | z
      · subst z
        exact ⟨g1.fresh hD, hF2⟩
      · exact ⟨g1.fresh (z2 a z).1, (z2 a z).2.2⟩
/-- [elt for tg in iter if ..] -/
theorem ge_lc {elt tg iter : Expr} {ifs : List Expr} {scope : Scope} {own : List (Str × Nat)} {js : List Nat} {pi : PI'} {pt : PT'} {pb : PB} (hi : GI Z ms tg iter pi) (ok : ∀ i, BlkOk (Z.X i).N (Z.X i).env.scope scope own)
    (hg : GT (Z.blk scope) ms tg js ms1 pt) (ht : GTt (Z.blk scope) ms1 ifs pb) (he : GE (Z.blk scope) ms1 elt r p) (hf : Fit r m := by first | exact Fit.own | exact Fit.sh rfl) (hj : ∀ l ∈ js, l ∈ own.map (·.2) := by decide) (hcm : Z.cm = true := by rfl) :
    GE Z ms (.ListComp elt [⟨tg, iter, ifs, 0⟩] scope pos) (.ow (.el m)) (pLc (own.map (·.2)) pi pt pb p) := by
  obtain ⟨wi, h1, h2, h3⟩ := hi
  obtain ⟨g, h4, h5⟩ := hg
  obtain ⟨tt, h6, h7⟩ := ht
  obtain ⟨te, h8, h9⟩ := he
  exact ⟨tLc wi g tt te (own.map (·.2)), fun i => pe_lc (Z.calm hcm i) (Z.nd i) (h1 i) (ok i) (fun s H C cl fp => h4 (i, s, H, C, cl, fp)) (fun s H C cl fp => h6 (i, s, H, C, cl, fp)) (fun s H C cl fp => h8 (i, s, H, C, cl, fp)) (h2 i),
    se_lc (Z := Z) (Zb := Z.blk scope) rfl (fun _ _ _ _ => id) h3 h5 hj h7 h9 hf⟩
end
end G

set_option Elab.async false
set_option linter.all false
set_option maxRecDepth 100000
set_option maxHeartbeats 4000000
/-! G9: statements. -/
namespace G
open PySem L2

structure PEnds where
  nx : Env → Prop
  rt : D → Env → Prop
  bk : Env → Prop := fun _ => False
  ct : Env → Prop := fun _ => False
abbrev PS' := PEnds → Env → Prop
theorem SubS.trans : ∀ {a b c : List SM}, SubS a b → SubS b c → SubS a c
  | _, _, _, .nil, .nil => .nil
  | _, _, _, .same x, .same y => .same (x.trans y)
  | _, _, _, .same x, .drop y => .drop (x.trans y)
  | _, _, _, .drop x, .same y => .drop (x.trans y)
  | _, _, _, .drop x, .drop y => .drop (x.trans y)
theorem SubS.set : ∀ {ms rs : List SM} {i : Nat} {m : SM}, SubS ms rs → rs[i]? = some .un → SubS (ms.set i m) rs
  | _, _, 0, m, .drop x, h => .drop x
  | _, _, 0, m, .same x, h => by
    cases h
    exact .drop x
  | _, _, i + 1, m, .drop x, h => .drop (x.set (i := i) h)
  | _, _, i + 1, m, .same x, h => .same (x.set (i := i) h)
  | _, _, i, m, .nil, h => by simp at h
/-- the slots, and what is to be known of them at the end -/
structure St2 (K : PySem.W.Frag) (rms ms : List SM) (F H : Hp) (env : Env) (σ : St) (A : List Addr) : Prop where
  ss : SubS ms rms
  ok : StOk K ms F H env σ A
structure Cn where
  rm : M
  rms : List SM
  bk : List SM
  ct : List SM
/-- what may stand behind a statement -/
structure Ok {Ex : Xn → Env → Prop} (Z : GX Ex) (C : Cn) (ms' : List SM) (A : List Addr) (F H : Hp) (e : PEnds) (D : Ends) : Prop where
  nx : ∀ F' H' env σ A', Step A F H A' F' H' → St2 Z.K C.rms ms' F' H' env σ A' → e.nx env → D.nx σ H'
  bk : ∀ F' H' env σ A', Step A F H A' F' H' → St2 Z.K C.rms C.bk F' H' env σ A' → e.bk env → D.bk σ H'
  ct : ∀ F' H' env σ A', Step A F H A' F' H' → St2 Z.K C.rms C.ct F' H' env σ A' → e.ct env → D.ct σ H'
  rt : ∀ F' H' env σ A' d v fp, Step A F H A' F' H' → StOk Z.K C.rms F' H' env σ A' → RepM Z.K F' H' d C.rm v fp → fp.Nodup → (∀ a ∈ fp, a ∉ A' ∧ F' a = none ∧ (a ∈ A ∨ H a = none)) → e.rt d env → D.rt v H'
  rs : ∀ F' H' env σ A' x c dx, Step A F H A' F' H' → StOk Z.K C.rms F' H' env σ A' → RepX Z.K H H' x c dx → Ex x env → Z.E c dx σ H'
def SS {Ex : Xn → Env → Prop} (Z : GX Ex) (C : Cn) (ms : List SM) (t : TS) (ms' : List SM) (p : PS') : Prop :=
  ∀ (F H : Hp) (env : Env) (σ : St) (A : List Addr) (e : PEnds) (D : Ends), St2 Z.K C.rms ms F H env σ A → p e env → Ok Z C ms' A F H e D → t D σ H
def GS {Ex : Xn → Env → Prop} (Z : GX Ex) (C : Cn) (ms : List SM) (st : Stmt) (ms' : List SM) (p : PS') : Prop := ∃ t : TS, (∀ i, PS (Z.X i) st t) ∧ SS Z C ms t ms' p
def GSs {Ex : Xn → Env → Prop} (Z : GX Ex) (C : Cn) (ms : List SM) (st : List Stmt) (ms' : List SM) (p : PS') : Prop := ∃ t : TS, (∀ i, PSs (Z.X i) st t) ∧ SS Z C ms t ms' p

section
variable {Ex : Xn → Env → Prop} {Z : GX Ex} {C : Cn} {ms ms1 ms2 ms' : List SM} {a b c e : Expr} {es : List Expr} {ta tb te : TE} {ra rb rc r : RM} {pa pb pc p : PX} {ps : PXs} {pos : Pos} {m : M} {st : Stmt} {sts : List Stmt} {p1 p2 : PS'}
theorem Step.back {A A1 : List Addr} {F H F1 H1 : Hp} (s : Step A F H A1 F1 H1) {a : Addr} (h : a ∈ A1 ∨ H1 a = none) : a ∈ A ∨ H a = none := by
  rcases h with h | h
  · exact s.own a h
  · by_cases hA : a ∈ A
    · exact .inl hA
    · by_cases hH : H a = none
      · exact .inr hH
      · rw [(s.keep a hH hA).1] at h
        exact absurd h hH
theorem Ok.step {A A1 : List Addr} {F H F1 H1 : Hp} {e : PEnds} {D : Ends} (o : Ok Z C ms' A F H e D) (s : Step A F H A1 F1 H1) : Ok Z C ms' A1 F1 H1 e D :=
  ⟨fun F' H' env σ A' s' => o.nx F' H' env σ A' (s.trans s'), fun F' H' env σ A' s' => o.bk F' H' env σ A' (s.trans s'), fun F' H' env σ A' s' => o.ct F' H' env σ A' (s.trans s'),
   fun F' H' env σ A' d v fp s' k1 k2 k3 k4 => o.rt F' H' env σ A' d v fp (s.trans s') k1 k2 k3 fun a ha => ⟨(k4 a ha).1, (k4 a ha).2.1, s.back (k4 a ha).2.2⟩,
   fun F' H' env σ A' x c dx s' k y => o.rs F' H' env σ A' x c dx (s.trans s') k (y.backN s.nn)⟩
/-- what an expression needs for an error -/
theorem Ok.hx {A : List Addr} {F H : Hp} {e : PEnds} {D : Ends} {env : Env} {σ : St} (o : Ok Z C ms' A F H e D) (h : St2 Z.K C.rms ms F H env σ A) :
    ∀ F' H' x c dx, Grow F H F' H' → RepX Z.K H H' x c dx → Ex x env → Z.E c dx σ H' := fun F' H' x c dx g y z => by
  obtain ⟨A', w1, w2⟩ := (h.ok.grow g).weak h.ss
  exact o.rs F' H' env σ A' x c dx ((Step.grow g).more fun a ha => .inl (w2 a ha)) w1 y z
theorem St2.grow {F H F' H' : Hp} {env : Env} {σ : St} {A : List Addr} (h : St2 Z.K C.rms ms F H env σ A) (g : Grow F H F' H') : St2 Z.K C.rms ms F' H' env σ A := ⟨h.ss, h.ok.grow g⟩

/-! ### blocks -/
def sSkip : PS' := fun e env => e.nx env
def sSeq (p1 p2 : PS') : PS' := fun e env => p1 { e with nx := fun env' => p2 e env' } env
theorem gss_nil : GSs Z C ms [] ms sSkip := ⟨_, fun _ => pss_nil, fun F H env σ A e D h p o => o.nx F H env σ A Step.refl h p⟩
theorem gss_cons (h1 : GS Z C ms st ms1 p1) (h2 : GSs Z C ms1 sts ms2 p2) : GSs Z C ms (st :: sts) ms2 (sSeq p1 p2) := by
  obtain ⟨t, h3, h4⟩ := h1
  obtain ⟨u, h5, h6⟩ := h2
  refine ⟨_, fun i => pss_cons (h3 i) (h5 i), fun F H env σ A e D h p o => ?_⟩
  exact h4 F H env σ A { e with nx := fun env' => p2 e env' } _ h p ⟨fun F' H' env' σ' A' s k q => h6 F' H' env' σ' A' e D k q (o.step s), o.bk, o.ct, o.rt, o.rs⟩
theorem gss_one (h1 : GS Z C ms st ms1 p1) : GSs Z C ms [st] ms1 p1 := by
  obtain ⟨t, h3, h4⟩ := h1
  exact ⟨t, fun i => pss_one (h3 i), h4⟩
theorem gs_pass : GS Z C ms (.Pass pos) ms sSkip := ⟨_, fun _ => ps_pass, fun F H env σ A e D h p o => o.nx F H env σ A Step.refl h p⟩
theorem gs_doc {x : Str} {j : Nat} {pos' : Pos} : GS Z C ms (.Expr (.Constant (.str x) j pos) pos') ms sSkip := ⟨_, fun _ => ps_doc, fun F H env σ A e D h p o => o.nx F H env σ A Step.refl h p⟩
def sBreak : PS' := fun e env => e.bk env
def sCont : PS' := fun e env => e.ct env
theorem gs_break (hm : C.bk = ms := by rfl) : GS Z C ms (.Break pos) ms1 sBreak := ⟨_, fun _ => ps_break, fun F H env σ A e D h p o => o.bk F H env σ A Step.refl (by rw [hm]; exact h) p⟩
theorem gs_cont (hm : C.ct = ms := by rfl) : GS Z C ms (.Continue pos) ms1 sCont := ⟨_, fun _ => ps_continue, fun F H env σ A e D h p o => o.ct F H env σ A Step.refl (by rw [hm]; exact h) p⟩
/-- never reached -/
def sNever : PS' := fun _ _ => False
theorem gs_never : GS Z C ms st ms1 sNever := ⟨_, fun _ => ps_never, fun F H env σ A e D h p o => p.elim⟩
theorem gss_never : GSs Z C ms sts ms1 sNever := ⟨_, fun _ => pss_never, fun F H env σ A e D h p o => p.elim⟩

/-! ### slots that are shared from now on; of which nothing is known any more -/
inductive Wk : List SM → List SM → Prop where
  | refl {ms : List SM} : Wk ms ms
  | fz {ms ms2 : List SM} {i : Nat} {m : M} (h : ms[i]? = some (.ow m)) (r : Wk (ms.set i (.ow .sh)) ms2) : Wk ms ms2
  | un {ms ms1 ms2 : List SM} (h : SubS ms ms1) (r : Wk ms1 ms2) : Wk ms ms2
theorem StOk.fz {K : PySem.W.Frag} {F H : Hp} {env : Env} {σ : St} {A : List Addr} {ms : List SM} (h : StOk K ms F H env σ A) {i : Nat} {m : M} (e : ms[i]? = some (.ow m)) :
    ∃ F' A', StOk K (ms.set i (.ow .sh)) F' H env σ A' ∧ Step A F H A' F' H := by
  have hi : i < ms.length := (List.getElem?_eq_some_iff.mp e).1
  obtain ⟨l1, l2⟩ := h.sls.len
  have hie : i < env.length := by omega
  obtain ⟨s, fp, A1, q1, q2, q3, q4, q5⟩ := h.sls.take h.nd e (List.getElem?_eq_getElem hie)
  obtain ⟨n1, n2, n3⟩ := List.nodup_append.mp q4
  have inA : ∀ a ∈ fp, a ∈ A := fun a ha => (q5 a).mpr (List.mem_append_left _ ha)
  have inA1 : ∀ a ∈ A1, a ∈ A := fun a ha => (q5 a).mpr (List.mem_append_right _ ha)
  classical
  let F' : Hp := fun a => if a ∈ fp then H a else F a
  have f1 : ∀ a ∈ fp, F' a = H a := fun a ha => if_pos ha
  have f2 : ∀ a, a ∉ fp → F' a = F a := fun a ha => if_neg ha
  have sF : Sub F F' := Sub.of fun a u w => by
    have : a ∉ fp := fun z => by rw [h.off a (inA a z)] at w; cases w
    rw [f2 a this]; exact w
  have sH : Sub F' H := fun a u w => by
    by_cases z : a ∈ fp
    · rw [f1 a z] at w; exact .inl w
    · rw [f2 a z] at w; exact h.sub a u w
  have sl1 : SlsOk K F' H ms (env.set i none) σ A1 := q3.mono sF fun _ _ => rfl
  have slot : SlOk K F' H (.ow .sh) env[i] s [] := by
    cases hd : env[i] with
    | none => exact rfl
    | some d =>
      rw [hd] at q2
      obtain ⟨v, e1, r⟩ := q2
      exact ⟨v, e1, RepM.sh.mpr ⟨rfl, r.freeze sF fun a ha u hu => by rw [f1 a ha]; exact hu⟩⟩
  obtain ⟨A2, p1, p2, p3⟩ := sl1.put n2 hi slot List.nodup_nil (fun _ z => by cases z)
  have ee : (env.set i none).set i env[i] = env := by rw [List.set_set, List.set_getElem_self]
  have es : σ.set i s = σ := by
    obtain ⟨hs, rfl⟩ := List.getElem?_eq_some_iff.mp q1
    exact List.set_getElem_self _
  rw [ee, es] at p1
  have p3' : ∀ a ∈ A2, a ∈ A1 := fun a ha => by
    rcases p3 a ha with z | z
    · exact z
    · cases z
  refine ⟨F', A2, ⟨sH, p1, p2, fun a ha => ?_⟩, ⟨fun a ha hn => ⟨rfl, f2 a fun z => hn (inA a z)⟩, fun a ha => .inl (inA1 a (p3' a ha)), fun _ h => h⟩⟩
  rw [f2 a fun z => n3 a z a (p3' a ha) rfl]
  exact h.off a (inA1 a (p3' a ha))
theorem StOk.wk {K : PySem.W.Frag} {H : Hp} {env : Env} {σ : St} {ms ns : List SM} (w : Wk ms ns) : ∀ {F : Hp} {A : List Addr}, StOk K ms F H env σ A → ∃ F' A', StOk K ns F' H env σ A' ∧ Step A F H A' F' H := by
  induction w with
  | refl => exact fun {F A} h => ⟨F, A, h, Step.refl⟩
  | fz e _ ih =>
    intro F A h
    obtain ⟨F1, A1, h1, s1⟩ := h.fz e
    obtain ⟨F2, A2, h2, s2⟩ := ih h1
    exact ⟨F2, A2, h2, s1.trans s2⟩
  | un s _ ih =>
    intro F A h
    obtain ⟨A1, h1, s1⟩ := h.weak s
    obtain ⟨F2, A2, h2, s2⟩ := ih h1
    exact ⟨F2, A2, h2, (Step.less s1).trans s2⟩
/-- fewer things known behind a statement -/
theorem Ok.wk {A : List Addr} {F H : Hp} {e : PEnds} {D : Ends} (w : Wk ms1 ms2) (hs : SubS ms2 C.rms) (o : Ok Z C ms2 A F H e D) : Ok Z C ms1 A F H e D :=
  ⟨fun F' H' env σ A' s k q => by
    obtain ⟨F2, A2, k2, s2⟩ := k.ok.wk w
    exact o.nx F2 H' env σ A2 (s.trans s2) ⟨hs, k2⟩ q, o.bk, o.ct, o.rt, o.rs⟩
theorem gs_wk (h : GS Z C ms st ms1 p1) (w : Wk ms1 ms2) (hs : SubS ms2 C.rms := by repeat (first | exact SubS.nil | refine SubS.drop ?_ | refine SubS.same ?_)) : GS Z C ms st ms2 p1 := by
  obtain ⟨t, h3, h4⟩ := h
  exact ⟨t, h3, fun F H env σ A e D h p o => h4 F H env σ A e D h p (o.wk w hs)⟩
theorem gss_wk (h : GSs Z C ms sts ms1 p1) (w : Wk ms1 ms2) (hs : SubS ms2 C.rms := by repeat (first | exact SubS.nil | refine SubS.drop ?_ | refine SubS.same ?_)) : GSs Z C ms sts ms2 p1 := by
  obtain ⟨t, h3, h4⟩ := h
  exact ⟨t, h3, fun F H env σ A e D h p o => h4 F H env σ A e D h p (o.wk w hs)⟩
/-- .. ahead of a block -/
theorem gss_fz (w : Wk ms ms1) (h : GSs Z C ms1 sts ms2 p1) (hs : SubS ms1 C.rms := by repeat (first | exact SubS.nil | refine SubS.drop ?_ | refine SubS.same ?_)) : GSs Z C ms sts ms2 p1 := by
  obtain ⟨t, h3, h4⟩ := h
  refine ⟨t, h3, fun F H env σ A e D h p o => ?_⟩
  obtain ⟨F1, A1, k, s⟩ := h.ok.wk w
  exact h4 F1 H env σ A1 e D ⟨hs, k⟩ p (o.step s)

/-! ### x = e; e; return -/
theorem RepM.new_put {F H F' H' : Hp} {env : Env} {σ : St} {A : List Addr} {d : D} {v : V} {fp : List Addr} {i : Nat} (h : St2 Z.K C.rms ms F H env σ A) (g : Grow F H F' H') (hi : i < ms.length) (hr : C.rms[i]? = some .un)
    (r : RepM Z.K F' H' d m v fp) (n : fp.Nodup) (z : ∀ a ∈ fp, H a = none ∧ F' a = none) :
    ∃ A', St2 Z.K C.rms (ms.set i (.ow m)) F' H' (env.set i (some d)) (σ.set i (some v)) A' ∧ Step A F H A' F' H' := by
  obtain ⟨A', q1, q2⟩ := (h.ok.grow g).put hi r n (fun a ha hA => (h.ok.sls.dom a hA) (z a ha).1) (fun a ha => (z a ha).2)
  exact ⟨A', ⟨h.ss.set hr, q1⟩, (Step.grow g).more fun a ha => (q2 a ha).imp id fun y => (z a y).1⟩
def sSet (i : Nat) (pa : PX) : PS' := fun e env => pa env fun d => e.nx (env.set i (some d))
theorem ss_set {i : Nat} {te : TE} (h2 : SE Z ms te ra pa) (hi : i < ms.length) (hr : C.rms[i]? = some .un) (hf : Fit ra m) : SS Z C ms (tAsg te (gName i)) (ms.set i (.ow m)) (sSet i pa) := by
  intro F H env σ A e D h p o
  refine h2 F H env σ A _ _ h.ok p (fun F0 H1 d v g0 r1 q1 => ?_) (o.hx h)
  obtain ⟨F1, g1, _, fp, r1, n1, z1⟩ := r1.fit hf g0
  obtain ⟨A', k, s⟩ := RepM.new_put h g1 hi hr r1 n1 z1
  exact o.nx F1 H1 _ _ A' s k q1
section
variable {i : Nat} {x : Str} {pos' : Pos}
theorem gs_set (ha : GE Z ms a ra pa) (hf : Fit ra m := by first | exact Fit.own | exact Fit.sh rfl) (hi : i < ms.length := by decide) (hr : C.rms[i]? = some .un := by rfl) (hN : ∀ j, (Z.X j).N[i]? = some x := by intro j; rfl) (hx : ∀ j, Loc (Z.X j).env.scope x := by intro j; first | exact Or.inl rfl | exact Or.inr rfl)
    (hs : ∀ j, swapsWith a (some (.Name x pos')) pos.line (Z.X j).env = pure false := by intro j; rfl) (hl : ∀ j, (Z.X j).fn x = true ∨ (Z.X j).env.scope.names.lookup x = some .local := by intro j; first | exact Or.inl rfl | exact Or.inr rfl) :
    GS Z C ms (.Assign [.Name x pos'] a pos) (ms.set i (.ow m)) (sSet i pa) := by
  obtain ⟨t, h1, h2⟩ := ha
  exact ⟨_, fun j => ps_set (Z.nd j) (hN j) (hx j) (h1 j) (hs j) (hl j), ss_set h2 hi hr hf⟩
/-- a value that is no object, only seen -/
def sSetF (i : Nat) (pa : PX) : PS' := fun e env => pa env fun d => flat d = true ∧ e.nx (env.set i (some d))
theorem gs_setF (ha : GE Z ms a ra pa) (hi : i < ms.length := by decide) (hr : C.rms[i]? = some .un := by rfl) (hN : ∀ j, (Z.X j).N[i]? = some x := by intro j; rfl) (hx : ∀ j, Loc (Z.X j).env.scope x := by intro j; first | exact Or.inl rfl | exact Or.inr rfl)
    (hs : ∀ j, swapsWith a (some (.Name x pos')) pos.line (Z.X j).env = pure false := by intro j; rfl) (hl : ∀ j, (Z.X j).fn x = true ∨ (Z.X j).env.scope.names.lookup x = some .local := by intro j; first | exact Or.inl rfl | exact Or.inr rfl) :
    GS Z C ms (.Assign [.Name x pos'] a pos) (ms.set i (.ow .sh)) (sSetF i pa) := by
  obtain ⟨t, h1, h2⟩ := ha
  refine ⟨_, fun j => ps_set (Z.nd j) (hN j) (hx j) (h1 j) (hs j) (hl j), fun F H env σ A e D h p o => ?_⟩
  refine h2 F H env σ A _ _ h.ok p (fun F1 H1 d v g1 r1 q1 => ?_) (o.hx h)
  obtain ⟨A', k, s⟩ := RepM.new_put h g1 hi hr (m := .sh) (fp := []) (RepM.sh.mpr ⟨rfl, (r1.view g1.sub).flat q1.1⟩) List.nodup_nil (fun _ z => by cases z)
  exact o.nx F1 H1 _ _ A' s k q1.2
/-- x = [..], a comprehension -/
theorem gs_setLc {elt tg iter : Expr} {ifs : List Expr} {scope : Scope} {own : List (Str × Nat)} {js : List Nat} {pi : PI'} {pt : PT'} {pb : PB} {pc' : Pos} (hi : GI Z ms tg iter pi) (ok : ∀ i, BlkOk (Z.X i).N (Z.X i).env.scope scope own)
    (hg : GT (Z.blk scope) ms tg js ms1 pt) (ht : GTt (Z.blk scope) ms1 ifs pb) (he : GE (Z.blk scope) ms1 elt r p) (hf : Fit r m := by first | exact Fit.own | exact Fit.sh rfl) (hj : ∀ l ∈ js, l ∈ own.map (·.2) := by decide)
    (hi' : i < ms.length := by decide) (hr : C.rms[i]? = some .un := by rfl) (hN : ∀ j, (Z.X j).N[i]? = some x := by intro j; rfl) (hl : ∀ j, (Z.X j).env.scope.names.lookup x = some .local := by intro j; rfl)
    (hsw : ∀ j, swapsWith (.ListComp elt [⟨tg, iter, ifs, 0⟩] scope pc') (some (.Name x pos')) pos.line (Z.X j).env = pure true := by intro j; exact sw_true rfl rfl rfl (by decide +kernel)) (hcm : Z.cm = true := by rfl) :
    GS Z C ms (.Assign [.Name x pos'] (.ListComp elt [⟨tg, iter, ifs, 0⟩] scope pc') pos) (ms.set i (.ow (.el m))) (sSet i (pLc (own.map (·.2)) pi pt pb p)) := by
  obtain ⟨wi, h1, h2, h3⟩ := hi
  obtain ⟨g, h4, h5⟩ := hg
  obtain ⟨tt, h6, h7⟩ := ht
  obtain ⟨te, h8, h9⟩ := he
  exact ⟨tAsg (tLc wi g tt te (own.map (·.2))) (gName i), fun i => ps_setLc (Z.calm hcm i) (Z.nd i) (hN i) (hl i) (hsw i) (h1 i) (ok i) (fun s H C cl fp => h4 (i, s, H, C, cl, fp)) (fun s H C cl fp => h6 (i, s, H, C, cl, fp)) (fun s H C cl fp => h8 (i, s, H, C, cl, fp)) (h2 i),
    ss_set (se_lc (Z := Z) (Zb := Z.blk scope) rfl (fun _ _ _ _ => id) h3 h5 hj h7 h9 hf) hi' hr Fit.own⟩
/-- x += e of ints -/
def sAug (f : Int → Int → Int) (i : Nat) (pa : PX) : PS' := fun e env => ∃ n, env[i]? = some (some (.int n)) ∧ pa env fun d => ∃ k, d = .int k ∧ e.nx (env.set i (some (.int (f n k))))
theorem gs_aug {op : Operator} {f : Int → Int → Int} {m' : M} (ho : ∀ X : Cx, PIp X op (ipI f)) (ha : GE Z ms a ra pa) (hm : ms[i]? = some (.ow m') := by rfl) (hr : C.rms[i]? = some .un := by rfl) (hN : ∀ j, (Z.X j).N[i]? = some x := by intro j; rfl)
    (hx : ∀ j, Loc (Z.X j).env.scope x := by intro j; first | exact Or.inl rfl | exact Or.inr rfl) (hl : ∀ j, (Z.X j).fn x = true ∨ (Z.X j).env.scope.names.lookup x = some .local := by intro j; first | exact Or.inl rfl | exact Or.inr rfl) :
    GS Z C ms (.AugAssign (.Name x pos') op a pos) (ms.set i (.ow .sh)) (sAug f i pa) := by
  obtain ⟨t, h1, h2⟩ := ha
  refine ⟨_, fun j => ps_aug (Z.nd j) (hN j) (hx j) (h1 j) (ho _) (hl j), fun F H env σ A e D h p o => ?_⟩
  obtain ⟨n, en, p⟩ := p
  obtain ⟨v, fp, e1, r1, _⟩ := h.ok.get hm en
  have ev : v = .int n := (r1.view h.ok.sub)
  subst ev
  refine ⟨.int n, e1, ?_⟩
  refine h2 F H env σ A _ _ h.ok p (fun F1 H1 d v g1 r1 q1 => ?_) (o.hx h)
  obtain ⟨k, rfl, q1⟩ := q1
  have hi : i < ms.length := (List.getElem?_eq_some_iff.mp hm).1
  obtain ⟨A', k2, s⟩ := RepM.new_put h g1 hi hr (m := .sh) (fp := []) (d := .int (f n k)) (v := .int (f n k)) (RepM.sh.mpr ⟨rfl, rfl⟩) List.nodup_nil (fun _ z => by cases z)
  exact ⟨n, k, rfl, r1.view g1.sub, o.nx F1 H1 _ _ A' s k2 q1⟩
end
def sDrop (pa : PX) : PS' := fun e env => pa env fun _ => e.nx env
theorem gs_expr (ha : GE Z ms a ra pa) (hs : ∀ j, swapsWith a none pos.line (Z.X j).env = pure false := by intro j; rfl) : GS Z C ms (.Expr a pos) ms (sDrop pa) := by
  obtain ⟨t, h1, h2⟩ := ha
  refine ⟨_, fun j => ps_expr (h1 j) (hs j), fun F H env σ A e D h p o => ?_⟩
  exact h2 F H env σ A _ _ h.ok p (fun F1 H1 d v g1 r1 q1 => o.nx F1 H1 env σ A (Step.grow g1) (h.grow g1) q1) (o.hx h)
def sRet (pa : PX) : PS' := fun e env => pa env fun d => e.rt d env
def sRetF (pa : PX) : PS' := fun e env => pa env fun d => flat d = true ∧ e.rt d env
def sRetN : PS' := fun e env => e.rt .non env
theorem gs_ret (ha : GE Z ms a ra pa) (hf : Fit ra C.rm := by first | exact Fit.own | exact Fit.sh rfl) : GS Z C ms (.Return (some a) pos) ms1 (sRet pa) := by
  obtain ⟨t, h1, h2⟩ := ha
  refine ⟨_, fun j => ps_ret (h1 j), fun F H env σ A e D h p o => ?_⟩
  refine h2 F H env σ A _ _ h.ok p (fun F0 H1 d v g0 r1 q1 => ?_) (o.hx h)
  obtain ⟨F1, g1, _, fp, r1, n1, z1⟩ := r1.fit hf g0
  obtain ⟨A', w1, w2⟩ := (h.ok.grow g1).weak h.ss
  exact o.rt F1 H1 env σ A' d v fp ((Step.grow g1).more fun a ha => .inl (w2 a ha)) w1 r1 n1 (fun a ha => ⟨fun hA => h.ok.sls.dom a (w2 a hA) (z1 a ha).1, (z1 a ha).2, .inr (z1 a ha).1⟩) q1
/-- a value that is no object -/
theorem gs_retF (ha : GE Z ms a ra pa) : GS Z C ms (.Return (some a) pos) ms1 (sRetF pa) := by
  obtain ⟨t, h1, h2⟩ := ha
  refine ⟨_, fun j => ps_ret (h1 j), fun F H env σ A e D h p o => ?_⟩
  refine h2 F H env σ A _ _ h.ok p (fun F1 H1 d v g1 r1 q1 => ?_) (o.hx h)
  obtain ⟨A', w1, w2⟩ := (h.ok.grow g1).weak h.ss
  exact o.rt F1 H1 env σ A' d v [] ((Step.grow g1).more fun a ha => .inl (w2 a ha)) w1 (Rep.flatM ((r1.view g1.sub).flat q1.1) q1.1) List.nodup_nil (fun _ z => by cases z) q1.2
theorem gs_retN : GS Z C ms (.Return none pos) ms1 sRetN := ⟨_, fun _ => ps_retN, fun F H env σ A e D h p o => by
  obtain ⟨A', w1, w2⟩ := h.ok.weak h.ss
  exact o.rt F H env σ A' .non .non [] (Step.less w2) w1 (Rep.flatM (F := F) rfl rfl) List.nodup_nil (fun _ z => by cases z) p⟩
/-- return x, what x holds handed over -/
def sRetV (i : Nat) : PS' := fun e env => ∃ d, env[i]? = some (some d) ∧ e.rt d (env.set i none)
theorem gs_retV {i : Nat} {x : Str} {p2 : Pos} (hm : ms[i]? = some (.ow m) := by rfl) (hr : C.rms[i]? = some .un := by rfl) (hf : C.rm = m := by rfl) (hN : ∀ j, (Z.X j).N[i]? = some x := by intro j; rfl)
    (hv : ∀ j, Vis (Z.X j).env.scope x := by intro j; first | exact Or.inl rfl | exact Or.inr (Or.inl rfl) | exact Or.inr (Or.inr rfl))
    (hd : (x == ("__debug__" : Str)) = false := by decide) (hcd : (x == ("__classdict__" : Str)) = false := by decide) : GS Z C ms (.Return (some (.Name x p2)) pos) ms1 (sRetV i) := by
  refine ⟨_, fun j => ps_ret (pe_var (hN j) (hv j) hd hcd), fun F H env σ A e D h p o => ?_⟩
  obtain ⟨d, ed, p⟩ := p
  obtain ⟨s, fp, A1, q1, ⟨v, rfl, q2⟩, q3, q4, q5⟩ := h.ok.sls.take h.ok.nd hm ed
  obtain ⟨n1, n2, n3⟩ := List.nodup_append.mp q4
  have inA : ∀ a ∈ fp, a ∈ A := fun a ha => (q5 a).mpr (List.mem_append_left _ ha)
  have inA1 : ∀ a ∈ A1, a ∈ A := fun a ha => (q5 a).mpr (List.mem_append_right _ ha)
  have k1 : StOk Z.K ms F H (env.set i none) σ A1 := ⟨h.ok.sub, q3, n2, fun a ha => h.ok.off a (inA1 a ha)⟩
  obtain ⟨A', w1, w2⟩ := k1.weak h.ss
  subst hf
  exact ⟨v, q1, o.rt F H _ σ A' d v fp (Step.less fun a ha => inA1 a (w2 a ha)) w1 q2 n1 (fun a ha => ⟨fun hA => n3 a ha a (w2 a hA) rfl, h.ok.off a (inA a ha), .inl (inA a ha)⟩) p⟩

/-! ### if -/
def sIf (pc : PB) (p1 p2 : PS') : PS' := fun e env => pc env fun b => (b = true → p1 e env) ∧ (b = false → p2 e env)
theorem gs_if {pc : PB} {sa sb : List Stmt} (hc : GB Z ms c pc) (h1 : GSs Z C ms sa ms1 p1) (h2 : GSs Z C ms sb ms1 p2) : GS Z C ms (.If c sa sb pos) ms1 (sIf pc p1 p2) := by
  obtain ⟨t, h3, h4⟩ := hc
  obtain ⟨t1, h5, h6⟩ := h1
  obtain ⟨t2, h7, h8⟩ := h2
  refine ⟨_, fun j => ps_if (h3 j) (h5 j) (h7 j), fun F H env σ A e D h p o => ?_⟩
  refine h4 F H env σ A _ _ h.ok p (fun F1 H1 b g1 q1 => ?_) (o.hx h)
  cases b with
  | true =>
    rw [if_pos rfl]
    exact h6 F1 H1 env σ A e D (h.grow g1) (q1.1 rfl) (o.step (Step.grow g1))
  | false =>
    rw [if_neg Bool.false_ne_true]
    exact h8 F1 H1 env σ A e D (h.grow g1) (q1.2 rfl) (o.step (Step.grow g1))

/-! ### for -/
def forL : List D → PT' → PS' → Env → PEnds → Prop
  | [], _, _, env, e => e.nx env
  | d :: r, pt, pb, env, e => pt d env fun env' => pb { e with nx := fun env2 => forL r pt pb env2 e, ct := fun env2 => forL r pt pb env2 e, bk := e.nx } env'
def sFor (pi : PI') (pt : PT') (pb : PS') : PS' := fun e env => pi env fun items => forL items pt pb env e
theorem gs_for {tg iter : Expr} {body : List Stmt} {pi : PI'} {pt : PT'} {js : List Nat} (hi : GI Z ms tg iter pi) (hg : GT Z ms tg js ms1 pt) (hb : GSs Z { C with bk := ms, ct := ms } ms1 body ms p1) (hs : SubS ms1 C.rms := by repeat (first | exact SubS.nil | refine SubS.drop ?_ | refine SubS.same ?_))
    (hcm : Z.cm = true := by rfl) :
    GS Z C ms (.For tg iter body [] pos) ms (sFor pi pt p1) := by
  obtain ⟨wi, h1, h2, h3⟩ := hi
  obtain ⟨g, h4, h5⟩ := hg
  obtain ⟨tb, h6, h7⟩ := hb
  refine ⟨_, fun i => ps_for (Z.po i) (Z.calm hcm i) (h1 i) (h4 i) (h6 i) (h2 i), fun F H env σ A e D h p o => ?_⟩
  refine h3 F H env σ A _ _ h.ok p (fun F1 H1 J items g1 it q1 => ?_) (o.hx h)
  refine ⟨fun i n σ' H' => n = items.length - i ∧ i ≤ items.length ∧ ∃ F' env' A', Step A F1 H1 A' F' H' ∧ St2 Z.K C.rms ms F' H' env' σ' A' ∧ forL (items.drop i) pt p1 env' e, ⟨items.length, by omega, Nat.zero_le _, F1, env, A, Step.refl, h.grow g1, q1⟩, ?_⟩
  rintro i n σ2 H2 ⟨rfl, hi, F2, env2, A2, st, k2, q2⟩
  have sF : Sub F1 F2 := Sub.of fun a u w => by
    have hA : a ∉ A := fun z => by
      have := (h.ok.grow g1).off a z
      rw [this] at w; cases w
    exact (st.keep a (g1.sub.some w) hA).2.trans w
  by_cases hlt : i < items.length
  · obtain ⟨d, hd⟩ : ∃ d, items[i]? = some d := ⟨_, List.getElem?_eq_getElem hlt⟩
    have ed : items.drop i = d :: items.drop (i + 1) := by
      rw [List.drop_eq_getElem_cons hlt]
      rw [List.getElem?_eq_getElem hlt] at hd
      rw [Option.some.inj hd]
    rw [ed] at q2
    obtain ⟨ok1, _⟩ := it F2 H2 sF k2.ok.sub i
    obtain ⟨go, yl⟩ := ok1 d hd
    refine .inr ⟨go, _, fun σ' H' hN => ⟨items.length - (i + 1), by omega, rfl, hlt, hN⟩, fun x H3 hy => ?_⟩
    obtain ⟨F3, g3, r3⟩ := yl x H3 hy
    refine h5 F3 H3 env2 σ2 A2 d x _ _ (k2.ok.grow g3) r3 q2 fun env3 σ3 A3 k3 a3 c3 q3 => ?_
    have st3 : Step A F1 H1 A3 F3 H3 := (st.trans (Step.grow g3)).trans (Step.less a3)
    have o3 := (o.step (Step.grow g1)).step st3
    refine h7 F3 H3 env3 σ3 A3 _ _ ⟨hs, k3⟩ q3 ⟨fun F' H' env' σ' A' s k q => ?_, fun F' H' env' σ' A' s k q => o3.nx F' H' env' σ' A' s k q, fun F' H' env' σ' A' s k q => ?_, o3.rt, o3.rs⟩
    · exact ⟨F', env', A', st3.trans s, k, q⟩
    · exact ⟨F', env', A', st3.trans s, k, q⟩
  · have ei : i = items.length := by omega
    subst ei
    obtain ⟨_, stop⟩ := it F2 H2 sF k2.ok.sub items.length
    rw [List.drop_length] at q2
    exact .inl ⟨stop (Nat.le_refl _), o.nx F2 H2 env2 σ2 A2 ((Step.grow g1).trans st) k2 q2⟩
/-! ### while -/
def sWhile (pc : PB) (pb : PS') : PS' := fun e env => ∃ W : Nat → Env → Prop, (∃ n, W n env) ∧ ∀ n env, W n env → pc env fun b =>
  (b = true → pb { e with nx := fun env' => ∃ n', n' < n ∧ W n' env', ct := fun env' => ∃ n', n' < n ∧ W n' env', bk := e.nx } env) ∧ (b = false → e.nx env)
theorem gs_while {body : List Stmt} {pc : PB} (hc : GB Z ms c pc) (hb : GSs Z { C with bk := ms, ct := ms } ms body ms p1)
    : GS Z C ms (.While c body [] pos) ms (sWhile pc p1) := by
  obtain ⟨t, h1, h2⟩ := hc
  obtain ⟨tb, h6, h7⟩ := hb
  refine ⟨_, fun i => ps_while (Z.po i) (h1 i) (h6 i), fun F H env σ A e D h p o => ?_⟩
  obtain ⟨W, ⟨n0, w0⟩, turn⟩ := p
  refine ⟨fun n σ' H' => ∃ F' env' A', Step A F H A' F' H' ∧ St2 Z.K C.rms ms F' H' env' σ' A' ∧ W n env', ⟨n0, F, env, A, Step.refl, h, w0⟩, ?_⟩
  rintro n σ2 H2 ⟨F2, env2, A2, st, k2, q2⟩
  have o2 := o.step st
  refine h2 F2 H2 env2 σ2 A2 _ _ k2.ok (turn n env2 q2) (fun F3 H3 b g3 q3 => ?_) (o2.hx k2)
  have st3 := st.trans (Step.grow g3)
  have o3 := o.step st3
  cases b with
  | true =>
    rw [if_pos rfl]
    refine ⟨fun σ' H' => ∃ n', n' < n ∧ ∃ F' env' A', Step A F H A' F' H' ∧ St2 Z.K C.rms ms F' H' env' σ' A' ∧ W n' env', fun σ' H' ⟨n', l, w⟩ => ⟨n', l, w⟩, ?_⟩
    refine h7 F3 H3 env2 σ2 A2 _ _ (k2.grow g3) (q3.1 rfl) ⟨fun F' H' env' σ' A' s k ⟨n', l, q⟩ => ⟨n', l, F', env', A', st3.trans s, k, q⟩, fun F' H' env' σ' A' s k q => o3.nx F' H' env' σ' A' s k q, fun F' H' env' σ' A' s k ⟨n', l, q⟩ => ⟨n', l, F', env', A', st3.trans s, k, q⟩, o3.rt, o3.rs⟩
  | false =>
    rw [if_neg Bool.false_ne_true]
    exact o3.nx F3 H3 env2 σ2 A2 Step.refl (k2.grow g3) (q3.2 rfl)
end
end G

set_option Elab.async false
set_option linter.all false
set_option maxRecDepth 100000
set_option maxHeartbeats 4000000
/-! G10: lists that are written; defs. -/
namespace G
open PySem L2

section
variable {Ex : Xn → Env → Prop} {Z : GX Ex} {C : Cn} {ms ms1 ms2 ms' : List SM} {a b c e : Expr} {es : List Expr} {ta tb te : TE} {ra rb rc r : RM} {pa pb pc p : PX} {ps : PXs} {pos : Pos} {m : M} {st : Stmt} {sts : List Stmt} {p1 p2 : PS'}
/-- the list that a slot holds is written -/
theorem St2.mutL {F H : Hp} {env : Env} {σ : St} {A : List Addr} (h : St2 Z.K C.rms ms F H env σ A) {i : Nat} {ds : List D} (hm : ms[i]? = some (.ow (.el m))) (he : env[i]? = some (some (.lst ds))) :
    ∃ (p : Addr) (vs : List V) (fq : List Addr), σ[i]? = some (some (.ref p)) ∧ H p = some (.lst vs) ∧ RepMs Z.K F H ds m vs fq ∧ (p :: fq).Nodup ∧ (∀ a ∈ p :: fq, a ∈ A ∧ F a = none) ∧
      ∀ (F' H' : Hp) (ds' : List D) (vs' : List V) (fq' : List Addr), Grow F H F' H' → RepMs Z.K F' (upd H' p (.lst vs')) ds' m vs' fq' → fq'.Nodup → p ∉ fq' → (∀ a ∈ fq', a ∈ fq ∨ (H a = none ∧ F' a = none)) →
        ∃ A', St2 Z.K C.rms ms F' (upd H' p (.lst vs')) (env.set i (some (.lst ds'))) σ A' ∧ Step A F H A' F' (upd H' p (.lst vs')) := by
  obtain ⟨s, fp, A1, q1, ⟨v, rfl, q2⟩, q3, q4, q5⟩ := h.ok.sls.take h.ok.nd hm he
  obtain ⟨p, vs, fq, rfl, rfl, eh, rs⟩ := q2
  obtain ⟨n1, n2, n3⟩ := List.nodup_append.mp q4
  have inA : ∀ a ∈ p :: fq, a ∈ A := fun a ha => (q5 a).mpr (List.mem_append_left _ ha)
  have inA1 : ∀ a ∈ A1, a ∈ A := fun a ha => (q5 a).mpr (List.mem_append_right _ ha)
  refine ⟨p, vs, fq, q1, eh, rs, n1, fun a ha => ⟨inA a ha, h.ok.off a (inA a ha)⟩, fun F' H' ds' vs' fq' g r n hp hf => ?_⟩
  have hpF : F' p = none := (g.old p (by rw [eh]; simp)).trans (h.ok.off p (inA p List.mem_cons_self))
  have sub' : Sub F' (upd H' p (.lst vs')) := fun a u w => by
    have hne : a ≠ p := fun z => by rw [z, hpF] at w; cases w
    rw [upd_ne hne]
    exact g.sub a u w
  have domA1 : ∀ a ∈ A1, H a ≠ none := q3.dom
  have neA1 : ∀ a ∈ A1, a ≠ p := fun a ha z => n3 p List.mem_cons_self a ha z.symm
  have sl1 : SlsOk Z.K F' (upd H' p (.lst vs')) ms (env.set i none) σ A1 := q3.mono (g.subF h.ok.sub) fun a ha => by
    rw [upd_ne (neA1 a ha)]
    exact Same.eq g.same (domA1 a ha)
  have hi : i < ms.length := (List.getElem?_eq_some_iff.mp hm).1
  have offA1 : ∀ a ∈ A1, F' a = none := fun a ha => (g.old a (domA1 a ha)).trans (h.ok.off a (inA1 a ha))
  have fqA1 : ∀ a ∈ p :: fq', a ∉ A1 := fun a ha hA => by
    rcases List.mem_cons.mp ha with z | z
    · exact neA1 a hA z
    · rcases hf a z with y | y
      · exact n3 a (List.mem_cons_of_mem _ y) a hA rfl
      · exact domA1 a hA y.1
  obtain ⟨A2, w1, w2, w3⟩ := sl1.put n2 (i := i) (m := .ow (.el m)) (d := some (.lst ds')) (s := some (.ref p)) (fp := p :: fq') hi ⟨.ref p, rfl, ⟨p, vs', fq', rfl, rfl, upd_same, r⟩⟩ (List.nodup_cons.mpr ⟨hp, n⟩) fqA1
  have e1 : ms.set i (.ow (.el m)) = ms := by
    obtain ⟨hh, e⟩ := List.getElem?_eq_some_iff.mp hm
    rw [← e]
    exact List.set_getElem_self hh
  have e2 : σ.set i (some (.ref p)) = σ := by
    obtain ⟨hh, e⟩ := List.getElem?_eq_some_iff.mp q1
    rw [← e]
    exact List.set_getElem_self hh
  rw [e1, e2, List.set_set] at w1
  have back : ∀ a ∈ A2, (a ∈ A ∨ H a = none) ∧ F' a = none := fun a ha => by
    rcases w3 a ha with z | z
    · exact ⟨.inl (inA1 a z), offA1 a z⟩
    · rcases List.mem_cons.mp z with y | y
      · subst y
        exact ⟨.inl (inA a List.mem_cons_self), hpF⟩
      · rcases hf a y with x | x
        · have hx := inA a (List.mem_cons_of_mem _ x)
          exact ⟨.inl hx, (g.old a (h.ok.sls.dom a hx)).trans (h.ok.off a hx)⟩
        · exact ⟨.inr x.1, x.2⟩
  refine ⟨A2, ⟨h.ss, sub', w1, w2, fun a ha => (back a ha).2⟩, ⟨fun a ha hn => ?_, fun a ha => (back a ha).1, fun a ha => by
    by_cases z : a = p
    · rw [z, upd_same]; simp
    · rw [upd_ne z]; exact Same.ne g.same ha⟩⟩
  have hne : a ≠ p := fun z => hn (z ▸ inA p List.mem_cons_self)
  exact ⟨(upd_ne hne).trans (Same.eq g.same ha), g.old a ha⟩
section
variable {i : Nat} {x : Str} {pos' : Pos}
/-- xs.append(e) -/
def sApp (i : Nat) (pa : PX) : PS' := fun e env => ∃ ds, env[i]? = some (some (.lst ds)) ∧ pa env fun d => ds.length < 100000 ∧ e.nx (env.set i (some (.lst (ds ++ [d]))))
theorem tyV_l {K : PySem.W.Frag} {H : Hp} {p : Addr} {vs : List V} (h : H p = some (.lst vs)) : tyV K "list" (.ref p) H := .inl ⟨rfl, vs, SqL.of h⟩
theorem gs_app {apos cpos : Pos} (ha : GE Z ms a ra pa) (hf : Fit ra m := by first | exact Fit.own | exact Fit.sh rfl) (hm : ms[i]? = some (.ow (.el m)) := by rfl) (hN : ∀ j, (Z.X j).N[i]? = some x := by intro j; rfl)
    (hv : ∀ j, Vis (Z.X j).env.scope x := by intro j; first | exact Or.inl rfl | exact Or.inr (Or.inl rfl) | exact Or.inr (Or.inr rfl))
    (hd : (x == ("__debug__" : Str)) = false := by decide) (hcd : (x == ("__classdict__" : Str)) = false := by decide)
    (hbase : ∀ j, attributeBase (.Name x pos') "append" (Z.X j).env (eval (.Name x pos') (Z.X j).env) = eval (.Name x pos') (Z.X j).env := by intro j; rfl)
    (hfew : ∀ j, ((backTo cpos (starEach (a :: []) (Z.X j).env)).all (fun x => !x.1) && (backToKw cpos (keywordEach [] (Z.X j).env)).all (fun x => x.1.isSome)
      && decide ((a :: []).length + ([] : List Keyword).length + (if ([] : List Keyword).isEmpty then 0 else 1) < 30)) = true := by intro j; rfl)
    (hline : (apos.endLine == cpos.line) = true := by rfl) (hst : ∀ j, starEach (a :: []) (Z.X j).env = (false, eval a (Z.X j).env) :: starEach [] (Z.X j).env := by intro j; rfl)
    (hs : ∀ j, swapsWith (.Call (.Attribute (.Name x pos') "append" apos) [a] [] cpos) none pos.line (Z.X j).env = pure false := by intro j; rfl) :
    GS Z C ms (.Expr (.Call (.Attribute (.Name x pos') "append" apos) [a] [] cpos) pos) ms (sApp i pa) := by
  obtain ⟨t, h1, h2⟩ := ha
  refine ⟨tDrop (tBM Z.K "list" rAppend (tVar i) (tCons t tNil)), fun j => ps_expr (by
    rw [← Z.hK j]
    exact pe_bm PySem.F.plainAttrs_list PySem.F.slot_list_append PySem.F.type_list_append mt_append (pe_var (hN j) (hv j) hd hcd) (pa_cons (h1 j) pa_nil (hst j)) (hbase j) (hfew j) hline (hst j) rfl) (hs j), fun F H env σ A e D h p o => ?_⟩
  obtain ⟨ds, ed, p⟩ := p
  obtain ⟨q, vs, fq, es, eh, rs, nq, zq, put⟩ := h.mutL hm ed
  refine ⟨.ref q, es, tyV_l eh, ?_⟩
  refine h2 F H env σ A _ _ h.ok p (fun F0 H1 d v g0 r1 q1 => ?_) (o.hx h)
  obtain ⟨F1, g1, _, fp, r1, n1, z1⟩ := r1.fit hf g0
  have eh1 := g1.same q _ eh
  refine ⟨q, vs, v, rfl, rfl, eh1, by rw [rs.length]; exact sz5lt q1.1, ?_⟩
  obtain ⟨nq1, nq2⟩ := List.nodup_cons.mp nq
  have qfp : q ∉ fp := fun z => by
    have := (z1 q z).1
    rw [eh] at this; cases this
  have rs1 := rs.grow h.ok.sub g1
  obtain ⟨A', k, s⟩ := put F1 H1 (ds ++ [d]) (vs ++ [v]) (fq ++ fp) g1 (RepMs.snoc (r1.mono (Sub.refl _) fun a ha => upd_ne (fun z => qfp (by rw [← z]; exact ha))) (rs1.mono (Sub.refl _) fun a ha => upd_ne (fun z => nq1 (by rw [← z]; exact ha))))
    (List.nodup_append.mpr ⟨nq2, n1, fun a ha b hb w => by subst w; exact rs.dom a ha (z1 a hb).1⟩)
    (fun z => (List.mem_append.mp z).elim nq1 qfp) (fun a ha => (List.mem_append.mp ha).imp id fun z => z1 a z)
  exact o.nx F1 _ _ σ A' s k q1.2
theorem RepMs.set {K : PySem.W.Frag} {F H : Hp} {d : D} {v : V} {f : List Addr} (h : RepM K F H d m v f) (nf : f.Nodup) : ∀ {ds : List D} {vs : List V} {fp : List Addr} (l : Nat), RepMs K F H ds m vs fp → fp.Nodup → (∀ a ∈ f, a ∉ fp) → l < ds.length →
    ∃ fp', RepMs K F H (ds.set l d) m (vs.set l v) fp' ∧ fp'.Nodup ∧ ∀ a ∈ fp', a ∈ fp ∨ a ∈ f
  | [], vs, fp, l, _, _, _, hl => by simp at hl
  | c :: ds, vs, fp, 0, ⟨x, r, f1, f2, e1, e2, h1, h2⟩, n, dj, hl => by
    subst e1 e2
    obtain ⟨n1, n2, n3⟩ := List.nodup_append.mp n
    refine ⟨f ++ f2, ⟨v, r, f, f2, rfl, rfl, h, h2⟩, List.nodup_append.mpr ⟨nf, n2, fun a ha b hb e => dj a ha (by subst e; exact List.mem_append_right _ hb)⟩, fun a ha => ?_⟩
    rcases List.mem_append.mp ha with z | z
    · exact .inr z
    · exact .inl (List.mem_append_right _ z)
  | c :: ds, vs, fp, l + 1, ⟨x, r, f1, f2, e1, e2, h1, h2⟩, n, dj, hl => by
    subst e1 e2
    obtain ⟨n1, n2, n3⟩ := List.nodup_append.mp n
    obtain ⟨f3, k1, k2, k3⟩ := RepMs.set h nf l h2 n2 (fun a ha z => dj a ha (List.mem_append_right _ z)) (Nat.lt_of_succ_lt_succ hl)
    refine ⟨f1 ++ f3, ⟨x, r.set l v, f1, f3, rfl, rfl, h1, k1⟩, List.nodup_append.mpr ⟨n1, k2, fun a ha b hb e => ?_⟩, fun a ha => ?_⟩
    · subst e
      rcases k3 a hb with z | z
      · exact n3 a ha a z rfl
      · exact dj a z (List.mem_append_left _ ha)
    · rcases List.mem_append.mp ha with z | z
      · exact .inl (List.mem_append_left _ z)
      · rcases k3 a z with y | y
        · exact .inl (List.mem_append_right _ y)
        · exact .inr y
/-- xs[k] = e -/
def sIxSet (i : Nat) (pk pa : PX) : PS' := fun e env => pa env fun d => ∃ ds, env[i]? = some (some (.lst ds)) ∧ pk env fun k => ∃ n l, k = .int n ∧ ixN ds.length n = some l ∧ e.nx (env.set i (some (.lst (ds.set l d))))
theorem ixN_lt {n l : Nat} {k : Int} (h : ixN n k = some l) : l < n := by
  unfold ixN at h
  split at h
  · split at h
    · cases h; omega
    · cases h
  · split at h
    · cases h; omega
    · cases h
theorem gs_ixSet {spos : Pos} (ha : GE Z ms a ra pa) (hb : GE Z ms b rb pb) (hf : Fit ra m := by first | exact Fit.own | exact Fit.sh rfl) (hm : ms[i]? = some (.ow (.el m)) := by rfl) (hN : ∀ j, (Z.X j).N[i]? = some x := by intro j; rfl)
    (hv : ∀ j, Vis (Z.X j).env.scope x := by intro j; first | exact Or.inl rfl | exact Or.inr (Or.inl rfl) | exact Or.inr (Or.inr rfl))
    (hd : (x == ("__debug__" : Str)) = false := by decide) (hcd : (x == ("__classdict__" : Str)) = false := by decide)
    (hs : ∀ j, swapsWithSole [.Subscript (.Name x pos') b spos] a pos.line (Z.X j).env = pure false := by intro j; rfl) (hw : ∀ j, swappedStores [.Subscript (.Name x pos') b spos] a (Z.X j).env = pure none := by intro j; rfl)
    (h1' : ∀ j, (assignEach [.Subscript (.Name x pos') b spos] (Z.X j).env).map (·.2) = [assign (.Subscript (.Name x pos') b spos) (Z.X j).env] := by intro j; rfl)
    (has : ∀ j v, assign (.Subscript (.Name x pos') b spos) (Z.X j).env v = (do
      let ov ← holding [v] (eval (.Name x pos') (Z.X j).env)
      let iv ← holding [v, ov] (eval b (Z.X j).env)
      standAt spos
      holding [v, ov, iv] (setItem ov iv v)
      release [v, ov, iv] []) := by intro j v; rfl) :
    GS Z C ms (.Assign [.Subscript (.Name x pos') b spos] a pos) ms (sIxSet i pb pa) := by
  obtain ⟨t, h1, h2⟩ := ha
  obtain ⟨u, h3, h4⟩ := hb
  refine ⟨_, fun j => ps_asg (h1 j) (pg_sub (pe_var (hN j) (hv j) hd hcd) (h3 j) set_list (has j)) (hs j) (hw j) (h1' j), fun F H env σ A e D h p o => ?_⟩
  refine h2 F H env σ A _ _ h.ok p (fun F0 H1 d v g0 r1 q1 => ?_) (o.hx h)
  obtain ⟨F1, g1, _, fp, r1, n1, z1⟩ := r1.fit hf g0
  obtain ⟨ds, ed, q1⟩ := q1
  obtain ⟨q, vs, fq, es, eh, rs, nq, zq, put⟩ := h.mutL hm ed
  refine ⟨.ref q, es, ?_⟩
  refine h4 F1 H1 env σ A _ _ (h.ok.grow g1) q1 (fun F2 H2 k u g2 r2 q2 => ?_) (fun F' H' x c dx g y z => o.hx h F' H' x c dx (g1.trans g) (y.back g1.same) z)
  obtain ⟨n, l, rfl, hl, q2⟩ := q2
  have eu : u = .int n := r2.view g2.sub
  subst eu
  have g := g1.trans g2
  have eh2 := g.same q _ eh
  refine ⟨q, vs, n, l, rfl, rfl, eh2, by rw [rs.length]; exact hl, ?_⟩
  obtain ⟨nq1, nq2⟩ := List.nodup_cons.mp nq
  have qfp : q ∉ fp := fun z => by
    have := (z1 q z).1
    rw [eh] at this; cases this
  have r2' := (r1.grow g1.sub g2).mono (Sub.refl _) (H' := upd H2 q (.lst (vs.set l v))) fun a ha => upd_ne (fun z => qfp (by rw [← z]; exact ha))
  have rs2 := (rs.grow h.ok.sub g).mono (Sub.refl _) (H' := upd H2 q (.lst (vs.set l v))) fun a ha => upd_ne (fun z => nq1 (by rw [← z]; exact ha))
  obtain ⟨fq', k1, k2, k3⟩ := rs2.set r2' n1 l nq2 (fun a ha z => rs.dom a z (z1 a ha).1) (ixN_lt hl)
  have z2 : ∀ a ∈ fp, H a = none ∧ F2 a = none := fun a ha => ⟨(z1 a ha).1, (g2.old a (r1.dom a ha)).trans (z1 a ha).2⟩
  obtain ⟨A', k, s⟩ := put F2 H2 (ds.set l d) (vs.set l v) fq' g k1 k2 (fun z => (k3 q z).elim nq1 qfp) (fun a ha => (k3 a ha).imp id fun z => z2 a z)
  exact o.nx F2 _ _ σ A' s k q2
end

end
end G
namespace G
open PySem PySem.Spec PyProof.Rows L2
/-! ### defs -/
def env0 (N : List Str) (ds : List D) : Env := ds.map some ++ List.replicate (N.length - ds.length) none
/-- a def's own context, where no error leaves it -/
abbrev gx0 (P : Program) (w : World) (K : PySem.W.Frag) (mg : Str → Option Value) (base : Heap) (N : List Str) (qual : Str) (scope : Scope) (f : Addr) (cd : Value) (A : Around) (outer : List PySem.Env) (s : Shared) (H : Hp) (E : XK) (k : Nat) (nd : N.Nodup) (hr : Room k (A.deeper (envOfC qual scope s.heap.objs.size f cd))) : GX (fun _ _ => False) where
  I := Unit
  X := fun _ => (cxOf CX0 P w K mg base N qual scope f cd A outer s H E).nox
  K := K
  mg := mg
  P := P
  w := w
  base := base
  lv := k
  E := fun _ _ _ _ => False
  hK := fun _ => rfl
  hmg := fun _ => rfl
  hP := fun _ => rfl
  hw := fun _ => rfl
  hb := fun _ => rfl
  cm := true
  calm' := fun _ => rfl
  nd := fun _ => nd
  hd := fun _ _ => hr.hd
  roomH := fun _ => ⟨hr.dp, hr.un⟩
  tk := fun _ => takes0
  po := fun _ => PassesOwn.never
section
variable {P : Program} {w : World} {K : PySem.W.Frag} {mg : Str → Option Value} {base : Heap}
theorem sls_start {F H : Hp} : ∀ {ds : List D} {vs : List V} (n : Nat), Reps K F ds vs → SlsOk K F H (List.replicate (ds.length + n) (.ow .sh)) (ds.map some ++ List.replicate n none) (vs.map some ++ List.replicate n none) []
  | [], vs, 0, h => by rw [show vs = [] from h]; exact rfl
  | [], vs, n + 1, h => by
    have ih := sls_start (H := H) n h
    rw [show vs = [] from h] at ih ⊢
    have e : List.replicate ([] : List D).length (SM.ow .sh) = [] := rfl
    show SlsOk K F H (List.replicate (0 + (n + 1)) _) (List.replicate (n + 1) none) (List.replicate (n + 1) none) []
    rw [show 0 + (n + 1) = (0 + n) + 1 by omega, List.replicate_succ, List.replicate_succ, List.replicate_succ]
    exact ⟨[], [], rfl, rfl, ih⟩
  | d :: ds, vs, n, ⟨x, r, e, h1, h2⟩ => by
    subst e
    have ih := sls_start (H := H) n h2
    show SlsOk K F H (List.replicate (ds.length + 1 + n) _) (some d :: (ds.map some ++ List.replicate n none)) (some x :: (r.map some ++ List.replicate n none)) []
    rw [show ds.length + 1 + n = (ds.length + n) + 1 by omega, List.replicate_succ]
    exact ⟨[], [], rfl, ⟨x, rfl, RepM.sh.mpr ⟨rfl, h1⟩⟩, ih⟩
theorem subS_un : ∀ {n : Nat} {ms : List SM}, ms.length = n → SubS ms (List.replicate n .un)
  | 0, [], _ => .nil
  | n + 1, m :: ms, h => by rw [List.replicate_succ]; exact .drop (subS_un (Nat.succ.inj h))
abbrev cn0 (rm : M) (n : Nat) : Cn := ⟨rm, List.replicate n .un, [], []⟩
/-- THE RULE for a def that lets no error out: pure statements of its body -/
theorem okG {dvs : List V} {kws : List (Str × V)} {x qual : Str} {st : Stmt} {f : Addr} {fd : FuncData} {N ps : List Str} {k : Nat} {rm : M} {Pf : PF} {ms' : List SM} {p : PS'} (Fn : FunD K x qual (defArgs st) (defBody st) (defScope st) dvs kws f fd) (S : FnScope N ps (defScope st))
    (len : ∀ ds QD QX, Pf ds QD QX → ds.length = ps.length) (hle : ps.length ≤ N.length)
    (body : ∀ (cdv : Value) (A : Around) (outer : List PySem.Env) (s : Shared) (H : Hp) (E : XK) (hr : Room k (A.deeper (envOfC qual (defScope st) s.heap.objs.size f cdv))),
      GSs (gx0 P w K mg base N qual (defScope st) f cdv A outer s H E k S.nd hr) (cn0 rm N.length) (List.replicate N.length (.ow .sh)) (defBody st) ms' p)
    (main : ∀ (ds : List D) (QD : D → Prop) (QX : Xn → Prop), Pf ds QD QX → p { nx := fun _ => QD .non, rt := fun d _ => QD d } (env0 N ds)) :
    FnOk P w K mg base CX0 (k + 1) f fd ps (spG K rm Pf) := by
  refine Fn.ok S (fun vs H Q E h => ?_) (fun cdv A outer s H vs Q E hr h => ?_)
  · obtain ⟨F, ds, QD, QX, s, r, p, _⟩ := h
    rw [r.length]
    exact len ds QD QX p
  · obtain ⟨F, ds, QD, QX, sF, r, hp, k1, k2⟩ := h
    obtain ⟨t, h1, h2⟩ := body cdv A outer s H E hr
    refine ⟨t, PSs.nox (h1 ()), ?_⟩
    have hl := len ds QD QX hp
    have e0 : ds.length + (N.length - ds.length) = N.length := by omega
    have s0 := sls_start (H := H) (N.length - ds.length) r
    rw [e0] at s0
    have es : start N vs = vs.map some ++ List.replicate (N.length - ds.length) none := by
      unfold L2.start
      rw [r.length]
    rw [es]
    refine h2 F H (env0 N ds) _ [] _ _ ⟨subS_un (by simp), sF, s0, List.nodup_nil, fun _ z => by cases z⟩ (main ds QD QX hp) ?_
    have fin : ∀ {F' H' : Hp} {A' : List Addr}, Step [] F H A' F' H' → Sub F' H' → Grow F H F' H' := fun {F' H' A'} s z => ⟨z, s.same, fun a ha => (s.keep a ha (by simp)).2⟩
    refine ⟨fun F' H' env σ A' s k q => ?_, fun F' H' env σ A' s k q => q.elim, fun F' H' env σ A' s k q => q.elim, fun F' H' env σ A' d v fp s k r n z q => ?_, fun F' H' env σ A' x c dx s k r z => z.elim⟩
    · exact k1 F' H' .non .non [] (fin s k.ok.sub) (Rep.flatM (F := F') rfl rfl) List.nodup_nil (fun _ z => by cases z) q
    · refine k1 F' H' d v fp (fin s k.sub) r n (fun a ha => ⟨?_, (z a ha).2.1⟩) q
      rcases (z a ha).2.2 with y | y
      · cases y
      · exact y
end
end G

set_option Elab.async false
set_option linter.all false
set_option maxRecDepth 100000
set_option maxHeartbeats 4000000
/-! G11: an argument that is written and handed back; instances made. -/
namespace G
open PySem L2

def SM.md : SM → Option M
  | .un => none
  | .ow m => some m
  | .io _ m => some m
def SM.up : SM → M → SM
  | .un, m => .ow m
  | .ow _, m => .ow m
  | .io v _, m => .io v m
section
variable {Ex : Xn → Env → Prop} {Z : GX Ex} {C : Cn} {ms ms1 ms2 ms' : List SM} {a b c e : Expr} {es : List Expr} {ta tb te : TE} {ra rb rc r : RM} {pa pb pc p : PX} {ps : PXs} {pos : Pos} {m : M} {st : Stmt} {sts : List Stmt} {p1 p2 : PS'}
/-- what a slot holds is written, within its own -/
theorem St2.mut {F H : Hp} {env : Env} {σ : St} {A : List Addr} (h : St2 Z.K C.rms ms F H env σ A) {i : Nat} {sm : SM} {d : D} (hm : ms[i]? = some sm) (hmd : sm.md = some m) (he : env[i]? = some (some d)) :
    ∃ (v : V) (fp : List Addr), σ[i]? = some (some v) ∧ RepM Z.K F H d m v fp ∧ fp.Nodup ∧ (∀ a ∈ fp, a ∈ A ∧ F a = none) ∧
      ∀ (F' H' H2 : Hp) (d' : D) (m' : M) (fp' : List Addr), SubS (ms.set i (sm.up m')) C.rms → Grow F H F' H' → (∀ a, a ∉ fp → H2 a = H' a) → (∀ a, H' a ≠ none → H2 a ≠ none) → RepM Z.K F' H2 d' m' v fp' → fp'.Nodup → (∀ a ∈ fp', a ∈ fp ∨ (H a = none ∧ F' a = none)) →
        ∃ A', St2 Z.K C.rms (ms.set i (sm.up m')) F' H2 (env.set i (some d')) σ A' ∧ Step A F H A' F' H2 := by
  obtain ⟨s, fp, A1, q1, q2, q3, q4, q5⟩ := h.ok.sls.take h.ok.nd hm he
  have q2' : ∃ v, s = some v ∧ RepM Z.K F H d m v fp ∧ ∀ {F' H' : Hp} {d' : D} {m' : M} {f : List Addr}, RepM Z.K F' H' d' m' v f → SlOk Z.K F' H' (sm.up m') (some d') (some v) f := by
    cases sm with
    | un => cases hmd
    | ow m0 =>
      cases hmd
      obtain ⟨v, e, r⟩ := q2
      exact ⟨v, e, r, fun {F' H' d' m' f} r' => ⟨v, rfl, r'⟩⟩
    | io w m0 =>
      cases hmd
      obtain ⟨e, r⟩ := q2
      exact ⟨w, e, r, fun {F' H' d' m' f} r' => ⟨rfl, r'⟩⟩
  obtain ⟨v, rfl, rv, mk⟩ := q2'
  obtain ⟨n1, n2, n3⟩ := List.nodup_append.mp q4
  have inA : ∀ a ∈ fp, a ∈ A := fun a ha => (q5 a).mpr (List.mem_append_left _ ha)
  have inA1 : ∀ a ∈ A1, a ∈ A := fun a ha => (q5 a).mpr (List.mem_append_right _ ha)
  refine ⟨v, fp, q1, rv, n1, fun a ha => ⟨inA a ha, h.ok.off a (inA a ha)⟩, fun F' H' H2 d' m' fp' hss g hk hnn r n hf => ?_⟩
  have fpF : ∀ a ∈ fp, F' a = none := fun a ha => (g.old a (rv.dom a ha)).trans (h.ok.off a (inA a ha))
  have sub' : Sub F' H2 := fun a u w => by
    have hne : a ∉ fp := fun z => by rw [fpF a z] at w; cases w
    rw [hk a hne]
    exact g.sub a u w
  have domA1 : ∀ a ∈ A1, H a ≠ none := q3.dom
  have neA1 : ∀ a ∈ A1, a ∉ fp := fun a ha z => n3 a z a ha rfl
  have sl1 : SlsOk Z.K F' H2 ms (env.set i none) σ A1 := q3.mono (g.subF h.ok.sub) fun a ha => by
    rw [hk a (neA1 a ha)]
    exact Same.eq g.same (domA1 a ha)
  have hi : i < ms.length := (List.getElem?_eq_some_iff.mp hm).1
  have offA1 : ∀ a ∈ A1, F' a = none := fun a ha => (g.old a (domA1 a ha)).trans (h.ok.off a (inA1 a ha))
  have fqA1 : ∀ a ∈ fp', a ∉ A1 := fun a ha hA => by
    rcases hf a ha with y | y
    · exact neA1 a hA y
    · exact domA1 a hA y.1
  obtain ⟨A2, w1, w2, w3⟩ := sl1.put n2 (i := i) (m := sm.up m') (d := some d') (s := some v) (fp := fp') hi (mk r) n fqA1
  have e2 : σ.set i (some v) = σ := by
    obtain ⟨hh, e⟩ := List.getElem?_eq_some_iff.mp q1
    rw [← e]
    exact List.set_getElem_self hh
  rw [e2, List.set_set] at w1
  have back : ∀ a ∈ A2, (a ∈ A ∨ H a = none) ∧ F' a = none := fun a ha => by
    rcases w3 a ha with z | z
    · exact ⟨.inl (inA1 a z), offA1 a z⟩
    · rcases hf a z with x | x
      · exact ⟨.inl (inA a x), fpF a x⟩
      · exact ⟨.inr x.1, x.2⟩
  refine ⟨A2, ⟨hss, sub', w1, w2, fun a ha => (back a ha).2⟩, ⟨fun a ha hn => ?_, fun a ha => (back a ha).1, fun a ha => hnn a (Same.ne g.same ha)⟩⟩
  have hne : a ∉ fp := fun z => hn (inA a z)
  exact ⟨(hk a hne).trans (Same.eq g.same ha), g.old a ha⟩

/-! ### self.f = e, a new attribute -/
theorem putF_new {f : Str} {v : V} : ∀ {ns : List Str} {vs : List V}, ns.idxOf? f = none → ns.length = vs.length → putF f v (ns.zip vs) = (ns ++ [f]).zip (vs ++ [v])
  | [], [], _, _ => rfl
  | n :: ns, w :: vs, h, l => by
    rw [List.idxOf?_cons] at h
    by_cases e : n = f
    · subst e; simp at h
    · have e1 : (n == f) = false := beq_eq_false_iff_ne.mpr e
      rw [if_neg (by rw [e1]; exact Bool.false_ne_true)] at h
      have h' : ns.idxOf? f = none := by
        cases q : ns.idxOf? f with
        | none => rfl
        | some i => rw [q] at h; cases h
      have ih := putF_new (v := v) h' (by simpa using l)
      show putF f v ((n, w) :: ns.zip vs) = (n, w) :: (ns ++ [f]).zip (vs ++ [v])
      rw [← ih]
      simp only [putF, if_neg e]
  | [], _ :: _, _, l => by simp at l
  | _ :: _, [], _, l => by simp at l
theorem RepMz.length {K : PySem.W.Frag} {F H : Hp} : ∀ {ds : List D} {ms : List M} {vs : List V} {fp : List Addr}, RepMz K F H ds ms vs fp → vs.length = ds.length
  | [], [], vs, fp, h => by rw [h.1]; rfl
  | [], _ :: _, vs, fp, h => by rw [h.1]; rfl
  | d :: ds, [], vs, fp, ⟨x, r, f1, f2, e1, e2, h1, h2⟩ => by rw [e1, List.length_cons, List.length_cons, RepMz.length h2]
  | d :: ds, m :: ms, vs, fp, ⟨x, r, f1, f2, e1, e2, h1, h2⟩ => by rw [e1, List.length_cons, List.length_cons, RepMz.length h2]
theorem RepMz.snoc {K : PySem.W.Frag} {F H : Hp} {m : M} {d : D} {v : V} {f : List Addr} (h : RepM K F H d m v f) : ∀ {ds : List D} {ms : List M} {vs : List V} {fp : List Addr}, ms.length = ds.length → RepMz K F H ds ms vs fp → RepMz K F H (ds ++ [d]) (ms ++ [m]) (vs ++ [v]) (fp ++ f)
  | [], [], vs, fp, _, ⟨e1, e2⟩ => by subst e1 e2; exact ⟨v, [], f, [], rfl, by simp, h, rfl, rfl⟩
  | [], _ :: _, _, _, l, _ => by simp at l
  | _ :: _, [], _, _, l, _ => by simp at l
  | c :: ds, m0 :: ms, vs, fp, l, ⟨x, r, f1, f2, e1, e2, h1, h2⟩ => by
    subst e1 e2
    exact ⟨x, r ++ [v], f1, f2 ++ f, rfl, by rw [List.append_assoc], h1, RepMz.snoc h (by simpa using l) h2⟩
def sFldN (C : Addr) (ns : List Str) (f : Str) (i : Nat) (pa : PX) : PS' := fun e env => pa env fun d => ∃ ds, env[i]? = some (some (.obj C ns ds)) ∧ e.nx (env.set i (some (.obj C (ns ++ [f]) (ds ++ [d]))))
theorem gs_fldN {i : Nat} {x : Str} {Cl : Addr} {f : Str} {ns : List Str} {w : V} {mds : List M} {pos' pos2 : Pos} (cl : Cls Z.K Cl) (na : NoAttr Z.K Cl f) (hn : ns.idxOf? f = none) (ha : GE Z ms a ra pa) (hf : Fit ra m := by first | exact Fit.own | exact Fit.sh rfl)
    (hm : ms[i]? = some (.io w (.ob mds)) := by rfl) (hl : ns.length = mds.length := by rfl) (h9 : ns.length < 900 := by decide) (hss : SubS (ms.set i (.io w (.ob (mds ++ [m])))) C.rms) (hN : ∀ j, (Z.X j).N[i]? = some x := by intro j; rfl)
    (hv : ∀ j, Vis (Z.X j).env.scope x := by intro j; first | exact Or.inl rfl | exact Or.inr (Or.inl rfl) | exact Or.inr (Or.inr rfl))
    (hd : (x == ("__debug__" : Str)) = false := by decide) (hcd : (x == ("__classdict__" : Str)) = false := by decide)
    (hs : ∀ j, swapsWith a (some (.Attribute (.Name x pos') f pos2)) pos.line (Z.X j).env = pure false := by intro j; rfl) :
    GS Z C ms (.Assign [.Attribute (.Name x pos') f pos2] a pos) (ms.set i (.io w (.ob (mds ++ [m])))) (sFldN Cl ns f i pa) := by
  obtain ⟨t, h1, h2⟩ := ha
  refine ⟨sFld Z.K (tVar i) t f, fun j => by rw [← Z.hK j]; exact ps_fld (pe_var (hN j) (hv j) hd hcd) (h1 j) (hs j), fun F H env σ A e D h p o => ?_⟩
  refine h2 F H env σ A _ _ h.ok p (fun F0 H1 d v g0 r1 q1 => ?_) (o.hx h)
  obtain ⟨F1, g1, _, fp, r1, n1, z1⟩ := r1.fit hf g0
  obtain ⟨ds, ed, q1⟩ := q1
  obtain ⟨u, fo, es, ro, no, zo, put⟩ := h.mut (m := .ob mds) hm rfl ed
  obtain ⟨q, dx, vs, fq, rfl, rfl, eh, edx, ln, rs⟩ := ro
  have lds : ns.length = vs.length := by rw [ln, ← rs.length]
  refine ⟨.ref q, es, q, Cl, dx, _, rfl, g1.same q _ eh, cl, na, by rw [List.length_zip]; omega, ?_⟩
  rw [putF_new hn lds]
  obtain ⟨nq1, nq2⟩ := List.nodup_cons.mp no
  obtain ⟨nd1, nd2⟩ := List.nodup_cons.mp nq2
  have hq : H q ≠ none := by rw [eh]; simp
  have hdx : H dx ≠ none := by rw [edx]; simp
  have qfp : q ∉ fp := fun z => hq (z1 q z).1
  have dfp : dx ∉ fp := fun z => hdx (z1 dx z).1
  have dq : dx ≠ q := fun z => nq1 (by rw [z]; exact List.mem_cons_self)
  have rs1 : RepMz Z.K F1 (upd H1 q (.ins Cl dx ((ns ++ [f]).zip (vs ++ [v])))) ds mds vs fq := rs.mono (g1.subF h.ok.sub) fun a ha => by
    rw [upd_ne (fun z => nq1 (by rw [← z]; exact List.mem_cons_of_mem _ ha))]
    exact Same.eq g1.same (rs.dom a ha)
  have r1' : RepM Z.K F1 (upd H1 q (.ins Cl dx ((ns ++ [f]).zip (vs ++ [v])))) d m v fp := r1.mono (Sub.refl _) fun a ha => upd_ne (fun z => qfp (by rw [← z]; exact ha))
  obtain ⟨A', k, s⟩ := put F1 H1 (upd H1 q (.ins Cl dx ((ns ++ [f]).zip (vs ++ [v])))) (.obj Cl (ns ++ [f]) (ds ++ [d])) (.ob (mds ++ [m])) (q :: dx :: (fq ++ fp)) hss g1 (fun a ha => upd_ne fun z => ha (by rw [z]; exact List.mem_cons_self)) (fun a ha => by
      by_cases z : a = q
      · rw [z, upd_same]; simp
      · rw [upd_ne z]; exact ha)
    ⟨q, dx, vs ++ [v], fq ++ fp, rfl, rfl, upd_same, by rw [upd_ne dq]; exact g1.same dx _ edx, by simp [ln], RepMz.snoc r1' (by omega) rs1⟩
    (List.nodup_cons.mpr ⟨fun z => by
        rcases List.mem_cons.mp z with y | y
        · exact dq y.symm
        · rcases List.mem_append.mp y with x | x
          · exact nq1 (List.mem_cons_of_mem _ x)
          · exact qfp x,
      List.nodup_cons.mpr ⟨fun z => (List.mem_append.mp z).elim nd1 dfp, List.nodup_append.mpr ⟨nd2, n1, fun a ha b hb w => by subst w; exact rs.dom a ha (z1 a hb).1⟩⟩⟩)
    (fun a ha => by
      rcases List.mem_cons.mp ha with y | y
      · exact .inl (by rw [y]; exact List.mem_cons_self)
      · rcases List.mem_cons.mp y with y | y
        · exact .inl (by rw [y]; exact List.mem_cons_of_mem _ List.mem_cons_self)
        · rcases List.mem_append.mp y with x | x
          · exact .inl (List.mem_cons_of_mem _ (List.mem_cons_of_mem _ x))
          · exact .inr (z1 a x))
  exact o.nx F1 _ _ σ A' s k q1
end

end G
namespace G
open PySem PySem.Spec L2
/-! ### defs whose first argument is written -/
abbrev PFS := D → List D → (D → D → Prop) → (Xn → D → Prop) → Prop
/-- the first argument is one's own, held so, and comes back held so; the others are shared -/
def spS (K : PySem.W.Frag) (m rm : M) (Pf : PFS) : Sp := fun vs H Q E => ∃ (F : Hp) (o : D) (ds : List D) (fp : List Addr) (w : V) (us : List V) (QD : D → D → Prop) (QX : Xn → D → Prop), vs = w :: us ∧ Sub F H ∧ RepM K F H o m w fp ∧ fp.Nodup ∧ (∀ a ∈ fp, F a = none) ∧ Reps K F ds us ∧ Pf o ds QD QX ∧
  (∀ F' H' o' fp' d v f, Step fp F H fp' F' H' → Sub F' H' → RepM K F' H' o' m w fp' → RepM K F' H' d rm v f → (fp' ++ f).Nodup → (∀ a ∈ fp' ++ f, F' a = none ∧ (a ∈ fp ∨ H a = none)) → QD d o' → Q v H') ∧
  (∀ F' H' o' fp' x c dx, Step fp F H fp' F' H' → Sub F' H' → RepM K F' H' o' m w fp' → fp'.Nodup → (∀ a ∈ fp', F' a = none) → RepX K H H' x c dx → QX x o' → E c dx H')
/-- an __init__: a new instance without attributes comes in, and goes out held so -/
abbrev PFI := List D → (D → Prop) → (Xn → Prop) → Prop
def spI (K : PySem.W.Frag) (Cl : Addr) (m : M) (Pf : PFI) : Sp := fun vs H Q E => ∃ (F : Hp) (ds : List D) (p dx : Addr) (us : List V) (QD : D → Prop) (QX : Xn → Prop), vs = .ref p :: us ∧ Sub F H ∧ H p = some (.ins Cl dx []) ∧ H dx = some (.own p) ∧ p ≠ dx ∧ F p = none ∧ F dx = none ∧ Reps K F ds us ∧ Pf ds QD QX ∧
  (∀ F' H' o fp, Step [p, dx] F H fp F' H' → Sub F' H' → RepM K F' H' o m (.ref p) fp → fp.Nodup → (∀ a ∈ fp, F' a = none ∧ (a ∈ [p, dx] ∨ H a = none)) → QD o → Q .non H') ∧
  (∀ F' H' x c dx' A', Step [p, dx] F H A' F' H' → RepX K H H' x c dx' → QX x → E c dx' H')
section
variable {P : Program} {w : World} {K : PySem.W.Frag} {mg : Str → Option Value} {base : Heap}
abbrev cnS (v : V) (m rm : M) (n : Nat) : Cn := ⟨rm, .io v m :: List.replicate n .un, [], []⟩
theorem start_eq {N : List Str} {n : Nat} {v : V} {us : List V} {ds : List D} (hle : N.length = n + 1) (r : us.length = ds.length) : L2.start N (v :: us) = some v :: (us.map some ++ List.replicate (n - ds.length) none) := by
  unfold L2.start
  rw [List.length_cons, r, hle]
  show some v :: (us.map some ++ List.replicate (n + 1 - (ds.length + 1)) none) = _
  rw [show n + 1 - (ds.length + 1) = n - ds.length by omega]
theorem StOk.self {F' H' : Hp} {env : Env} {σ : L2.St} {A' : List Addr} {o' : D} {m : M} {v : V} {ms : List SM} (k : StOk K (.io v m :: ms) F' H' env σ A') (e : env[0]? = some (some o')) : ∃ fp, RepM K F' H' o' m v fp ∧ fp.Nodup ∧ ∀ a ∈ fp, a ∈ A' := by
  obtain ⟨s, fp, A1, q1, ⟨e1, r1⟩, q3, q4, q5⟩ := k.sls.take k.nd (i := 0) (m := .io v m) rfl e
  exact ⟨fp, r1, (List.nodup_append.mp q4).1, fun a ha => (q5 a).mpr (List.mem_append_left _ ha)⟩
theorem okS {dvs : List V} {kws : List (Str × V)} {x qual : Str} {st : Stmt} {f : Addr} {fd : FuncData} {N ps : List Str} {k : Nat} {m rm : M} {Pf : PFS} {ms' : V → List SM} {p : PS'} (n : Nat) (Fn : FunD K x qual (defArgs st) (defBody st) (defScope st) dvs kws f fd) (S : FnScope N ps (defScope st))
    (len : ∀ o ds QD QX, Pf o ds QD QX → ds.length + 1 = ps.length) (hle : N.length = n + 1) (hps : ps.length ≤ n + 1)
    (body : ∀ (v : V) (cdv : Value) (A : Around) (outer : List PySem.Env) (s : Shared) (H : Hp) (E : XK) (hr : Room k (A.deeper (PyProof.Rows.envOfC qual (defScope st) s.heap.objs.size f cdv))),
      GSs (gx0 P w K mg base N qual (defScope st) f cdv A outer s H E k S.nd hr) (cnS v m rm n) (.io v m :: List.replicate n (.ow .sh)) (defBody st) (ms' v) p)
    (main : ∀ (o : D) (ds : List D) (QD : D → D → Prop) (QX : Xn → D → Prop), Pf o ds QD QX → p { nx := fun env => ∃ o', env[0]? = some (some o') ∧ QD .non o', rt := fun d env => ∃ o', env[0]? = some (some o') ∧ QD d o' } (some o :: (ds.map some ++ List.replicate (n - ds.length) none))) :
    FnOk P w K mg base CX0 (k + 1) f fd ps (spS K m rm Pf) := by
  refine Fn.ok S (fun vs H Q E h => ?_) (fun cdv A outer s H vs Q E hr h => ?_)
  · obtain ⟨F, o, ds, fp, v, us, QD, QX, rfl, s, r0, n0, z0, r, p, _⟩ := h
    rw [List.length_cons, r.length]
    exact len o ds QD QX p
  · obtain ⟨F, o, ds, fp, v, us, QD, QX, rfl, sF, r0, n0, z0, r, hp, k1, k2⟩ := h
    obtain ⟨t, h1, h2⟩ := body v cdv A outer s H E hr
    refine ⟨t, PSs.nox (h1 ()), ?_⟩
    have hl := len o ds QD QX hp
    have e0 : ds.length + (n - ds.length) = n := by omega
    have s0 := sls_start (H := H) (n - ds.length) r
    rw [e0] at s0
    rw [start_eq hle r.length]
    have sl : SlsOk K F H (.io v m :: List.replicate n (.ow .sh)) (some o :: (ds.map some ++ List.replicate (n - ds.length) none)) (some v :: (us.map some ++ List.replicate (n - ds.length) none)) fp := ⟨fp, [], by simp, ⟨rfl, r0⟩, s0⟩
    refine h2 F H _ _ fp _ _ ⟨.same (subS_un (by simp)), sF, sl, n0, z0⟩ (main o ds QD QX hp) ?_
    refine ⟨fun F' H' env σ A' s k q => ?_, fun F' H' env σ A' s k q => q.elim, fun F' H' env σ A' s k q => q.elim, fun F' H' env σ A' d v' g s k r n' z q => ?_, fun F' H' env σ A' x c dx s k r z => z.elim⟩
    · obtain ⟨o', e1, q⟩ := q
      obtain ⟨A2, w1, w2⟩ := k.ok.weak k.ss
      obtain ⟨fp', r1, n1, i1⟩ := w1.self e1
      have iA : ∀ a ∈ fp', a ∈ A' := fun a ha => w2 a (i1 a ha)
      have s2 : Step fp F H fp' F' H' := s.more fun a ha => .inl (iA a ha)
      exact k1 F' H' o' fp' .non .non [] s2 k.ok.sub r1 (Rep.flatM (F := F') rfl rfl) (by rw [List.append_nil]; exact n1) (fun a ha => by
        rw [List.append_nil] at ha
        exact ⟨k.ok.off a (iA a ha), s.own a (iA a ha)⟩) q
    · obtain ⟨o', e1, q⟩ := q
      obtain ⟨fp', r1, n1, i1⟩ := k.self e1
      have s2 : Step fp F H fp' F' H' := s.more fun a ha => .inl (i1 a ha)
      refine k1 F' H' o' fp' d v' g s2 k.sub r1 r (List.nodup_append.mpr ⟨n1, n', fun a ha b hb w => ?_⟩) (fun a ha => ?_) q
      · subst w
        exact (z a hb).1 (i1 a ha)
      · rcases List.mem_append.mp ha with y | y
        · exact ⟨k.off a (i1 a y), s.own a (i1 a y)⟩
        · exact ⟨(z a y).2.1, (z a y).2.2⟩
/-- THE RULE for an __init__ that ends by falling off its end -/
theorem okI {dvs : List V} {kws : List (Str × V)} {x qual : Str} {st : Stmt} {f : Addr} {fd : FuncData} {N ps : List Str} {k : Nat} {Cl : Addr} {m : M} {Pf : PFI} {ms' : V → List SM} {p : PS'} (n : Nat) (Fn : FunD K x qual (defArgs st) (defBody st) (defScope st) dvs kws f fd) (S : FnScope N ps (defScope st))
    (len : ∀ ds QD QX, Pf ds QD QX → ds.length + 1 = ps.length) (hle : N.length = n + 1) (hps : ps.length ≤ n + 1)
    (body : ∀ (v : V) (cdv : Value) (A : Around) (outer : List PySem.Env) (s : Shared) (H : Hp) (E : XK) (hr : Room k (A.deeper (PyProof.Rows.envOfC qual (defScope st) s.heap.objs.size f cdv))),
      GSs (gx0 P w K mg base N qual (defScope st) f cdv A outer s H E k S.nd hr) (cn0 .sh (n + 1)) (.io v (.ob []) :: List.replicate n (.ow .sh)) (defBody st) (ms' v) p)
    (hE : ∀ v, ∃ r, ms' v = .io v m :: r) (main : ∀ (ds : List D) (QD : D → Prop) (QX : Xn → Prop), Pf ds QD QX → p { nx := fun env => ∃ o', env[0]? = some (some o') ∧ QD o', rt := fun _ _ => False } (some (.obj Cl [] []) :: (ds.map some ++ List.replicate (n - ds.length) none))) :
    FnOk P w K mg base CX0 (k + 1) f fd ps (spI K Cl m Pf) := by
  refine Fn.ok S (fun vs H Q E h => ?_) (fun cdv A outer s H vs Q E hr h => ?_)
  · obtain ⟨F, ds, p, dx, us, QD, QX, rfl, s, _, _, _, _, _, r, p, _⟩ := h
    rw [List.length_cons, r.length]
    exact len ds QD QX p
  · obtain ⟨F, ds, q, dx, us, QD, QX, rfl, sF, e1, e2, ne, f1, f2, r, hp, k1, k2⟩ := h
    obtain ⟨t, h1, h2⟩ := body (.ref q) cdv A outer s H E hr
    obtain ⟨rE, hE⟩ := hE (.ref q)
    rw [hE] at h2
    refine ⟨t, PSs.nox (h1 ()), ?_⟩
    have hl := len ds QD QX hp
    have e0 : ds.length + (n - ds.length) = n := by omega
    have s0 := sls_start (H := H) (n - ds.length) r
    rw [e0] at s0
    rw [start_eq hle r.length]
    have r0 : RepM K F H (.obj Cl [] []) (.ob []) (.ref q) [q, dx] := ⟨q, dx, [], [], rfl, rfl, e1, e2, rfl, rfl, rfl⟩
    have sl : SlsOk K F H (.io (.ref q) (.ob []) :: List.replicate n (.ow .sh)) (some (.obj Cl [] []) :: (ds.map some ++ List.replicate (n - ds.length) none)) (some (.ref q) :: (us.map some ++ List.replicate (n - ds.length) none)) [q, dx] := ⟨[q, dx], [], by simp, ⟨rfl, r0⟩, s0⟩
    refine h2 F H _ _ [q, dx] _ _ ⟨(show SubS _ (List.replicate (n + 1) .un) from subS_un (by simp)), sF, sl, by simp [ne], ?_⟩ (main ds QD QX hp) ?_
    · intro a ha
      rcases List.mem_cons.mp ha with z | z
      · rw [z]; exact f1
      · rw [List.mem_singleton.mp z]; exact f2
    · refine ⟨fun F' H' env σ A' s k q => ?_, fun F' H' env σ A' s k q => q.elim, fun F' H' env σ A' s k q => q.elim, fun F' H' env σ A' d v' g s k r n' z q => q.elim, fun F' H' env σ A' x c dx s k r z => z.elim⟩
      obtain ⟨o', e3, q⟩ := q
      obtain ⟨fp', r1, n1, i1⟩ := k.ok.self e3
      exact k1 F' H' o' fp' (s.more fun a ha => .inl (i1 a ha)) k.ok.sub r1 n1 (fun a ha => ⟨k.ok.off a (i1 a ha), s.own a (i1 a ha)⟩) q
end
section
variable {Ex : Xn → Env → Prop} {Z : GX Ex} {ms : List SM} {a : Expr} {es : List Expr} {ps pk : PXs} {pos : Pos}
/-- a class that is made: its place, its __init__'s promise; what stands behind the written arguments -/
structure Cd (Z : GX Ex) (x : Str) (Cl : Addr) (m : M) (Pf : PFI) (dds : List D) : Prop where
  ex : ∃ (f : Addr) (fd : FuncData) (prm : List Str) (k : Nat) (CX : CXT) (ds : List Value) (dvs : List V), FnOk Z.P Z.w Z.K Z.mg Z.base CX k f fd prm (spI Z.K Cl m Pf) ∧ k + 1 ≤ Z.lv ∧ Z.mg x = some (.ref Cl) ∧ Mk Z.K Cl f ∧
    Binds Z.K fd prm ds ∧ Vals dvs ds ∧ Reps Z.K (fun _ => none) dds dvs ∧ ∀ i, Passes CX (Z.X i) (fun _ _ _ => False)
def pMake (Ex : Xn → Env → Prop) (Pf : PFI) (dds : List D) (ps : PXs) : PX := fun env Q => ps env fun ds => Pf (ds ++ dds) Q fun x => Ex x env
/-- what making does -/
theorem made {F H F1 H1 : Hp} {A : List Addr} {Cl : Addr} {m : M} {Pf : PFI} {ds : List D} {vs : List V} {Q : D → Prop} {k : VK} (g1 : Grow F H F1 H1) (r1 : Reps Z.K F1 ds vs) (q1 : Pf ds Q fun x => False)
    (hk : ∀ F' H' d v, Grow F H F' H' → Res Z.K F' H' H A (.ow m) d v → Q d → k v H')
    {x dx : Addr} (nx : H1 x = none) (ndx : H1 dx = none) (ne : dx ≠ x) : spI Z.K Cl m Pf (.ref x :: vs) (upd (upd H1 dx (.own x)) x (.ins Cl dx [])) (fun v H3 => v = .non ∧ k (.ref x) H3) (fun _ _ _ => False) := by
  have g2 : Grow F1 H1 F1 (upd (upd H1 dx (.own x)) x (.ins Cl dx [])) := (Grow.new g1.sub ndx).trans (Grow.new (Grow.new g1.sub ndx).sub (by rw [upd_ne ne.symm]; exact nx))
  have free : ∀ {F' H' : Hp} {A' : List Addr}, Step [x, dx] F1 (upd (upd H1 dx (.own x)) x (.ins Cl dx [])) A' F' H' → Sub F' H' → Grow F1 H1 F' H' := fun {F' H' A'} s sb => by
    have old : ∀ a, H1 a ≠ none → H' a = H1 a ∧ F' a = F1 a := fun a ha => by
      have n1 : a ≠ x := fun z => ha (z ▸ nx)
      have n2 : a ≠ dx := fun z => ha (z ▸ ndx)
      have e : upd (upd H1 dx (.own x)) x (.ins Cl dx []) a = H1 a := by rw [upd_ne n1, upd_ne n2]
      have := s.keep a (by rw [e]; exact ha) (by simp [n1, n2])
      rw [e] at this
      exact this
    exact ⟨sb, fun a u e => (old a (by rw [e]; simp)).1.trans e, fun a ha => (old a ha).2⟩
  refine ⟨F1, ds, x, dx, vs, Q, fun x => False, rfl, g2.sub, upd_same, by rw [upd_ne ne]; exact upd_same, ne.symm, g1.sub.none nx, g1.sub.none ndx, r1, q1, fun F' H' o fp s sb r n z q => ⟨rfl, ?_⟩, fun F' H' y c dx' A' s r z => ?_⟩
  · refine hk F' H' o (.ref x) (g1.trans (free s sb)) ⟨fp, r, n, fun a ha => ⟨?_, (z a ha).1⟩⟩ q
    rcases (z a ha).2 with y | y
    · rcases List.mem_cons.mp y with y | y
      · rw [y]; exact g1.fresh nx
      · rw [List.mem_singleton.mp y]; exact g1.fresh ndx
    · exact (g1.trans g2).fresh y
  · exact z.elim
theorem ge_make {x : Str} {p2 : Pos} {Cl : Addr} {m : M} {Pf : PFI} {dds : List D} (Gd : Cd Z x Cl m Pf dds) (ha : GO Z ms (a :: es) .sh ps) (hg : ∀ i, Gl (Z.X i) x := by intro i; rfl) (hdb : (x == ("__debug__" : Str)) = false := by decide)
    (he : ∀ i, starEach (a :: es) (Z.X i).env = (false, eval a (Z.X i).env) :: starEach es (Z.X i).env := by intro i; rfl) (hpl : ∀ i, (backTo pos (starEach es (Z.X i).env)).any (·.1) = false := by intro i; rfl) (hcm : Z.cm = true := by rfl) :
    GE Z ms (.Call (.Name x p2) (a :: es) [] pos) (.ow m) (pMake F0 Pf dds ps) := by
  obtain ⟨t, h1, h2⟩ := ha
  obtain ⟨f, fd, prm, k, CX, ds, dvs, F, hk, hm, mk, b, hd, hdd, hx⟩ := Gd.ex
  refine ⟨_, fun i => pe_make (by rw [Z.hK]; exact mk) (fn_at F i) ((Z.room hcm i).mono hk) (hg i) (by rw [Z.hmg]; exact hm) (by rw [Z.hK]; exact b) hd (hx i) (h1 i) hdb (he i) (hpl i), fun F H env σ A Q k h p hk hx => ?_⟩
  refine h2 F H env σ A _ _ h p (fun F1 H1 ds vs fq g1 r1 n1 z1 q1 => ?_) hx
  intro x dx nx ndx ne
  exact made g1 ((RepMs.sh r1).2.append hdd.nil) q1 hk nx ndx ne
end
end G

set_option Elab.async false
set_option linter.all false
set_option maxRecDepth 100000
set_option maxHeartbeats 4000000
/-! G12: sorted(set(xs)); classes made with keywords. -/
namespace G
open PySem PySem.Spec PyProof.Rows L2
section
variable {P : Program} {w : World} {A : Around} {E : Value → Shared → Prop} {s : Shared}
/-- an empty set -/
abbrev noSet (w : World) : Obj := { cls := .type "set", dict := none, data := .set #[] 0 (.fresh 0 0 (!w.params.followText "set-order")) }
abbrev pushed (s : Shared) (o : Obj) : Shared := { s with heap := s.heap.push o }
set_option maxHeartbeats 3200000 in
theorem set_of_list {l : Addr} {its : Array Value} (ns : List Int) {Q : Value → Shared → Prop} (hh : A.handled = none) (hl : s.heap.IsList l its) (hit : IntsAre its.toList ns) (hb : ns.length + 1 < scanBound)
    (h : ∀ (g : Heap) (tk c : Nat), SetR w g s.heap.objs.size (fun j => decide (j ∈ ns)) c → c ≤ ns.length → (∀ b o, s.heap.get? b = some o → g.get? b = some o) → Q (.ref s.heap.objs.size) { s with heap := g, toks := tk }) :
    wpAny (model P w) A (call (.type "set") [.ref l]) Q E s := by
  have sz : its.size = ns.length := by
    have q := IntsAre.length hit
    rw [Array.length_toList] at q; exact q
  obtain ⟨c, tl, hmro⟩ := F.called_set.mro
  have m1 := F.called_set.made; have m2 := F.called_set.sub
  refine wpAny_call (codeAny_of_tree ?_); show wpAny _ _ (callAny (.type "set") _) _ _ _
  refine wpAny_pure ⟨Code.quiet_builtin _ (by decide +kernel), codeAny_builtin F.entry_type_call ?_⟩ <;> skip
  rw [Around.under_plain (weight_type_call_type "set" [.ref l] []) rfl]; have m3 := F.called_set.notType
  have m4 := F.called_set.canCreate; have m5 := F.typeCall_set_1 (.ref l)
  repeat (any_goals (first | assumption | wp_step))
  refine codeAny_mono (code_set_led1 (.ref l) (E := E) (Q₁ := fun x t => x = .ref s.heap.objs.size ∧ t = pushed s (noSet w)) ⟨rfl, rfl⟩) fun r s₁ hr => ?_
  cases r with
  | error e => exact hr
  | ok fl =>
    cases fl with
    | next => exact hr.elim
    | brk => exact hr.elim
    | cont => exact hr.elim
    | ret x =>
      obtain ⟨rfl, rfl⟩ := hr
      have hS : (s.heap.push (noSet w)).get? s.heap.objs.size = some (noSet w) := Heap.get?_push_size _ rfl
      have hT : Shared.TypeIs (pushed s (noSet w)) (.ref s.heap.objs.size) "set" := ⟨_, hS, rfl⟩
      have m6 := F.called_set.init.lookup; have m7 := F.called_set.init.bind (.ref s.heap.objs.size)
      repeat (any_goals (first | assumption | wp_step))
      refine codeAny_mono (codeAny_call_builtin (R := wants (fun r t => r = .none ∧ ∃ g tk c, t = { s with heap := g, toks := tk } ∧ SetR w g s.heap.objs.size (fun j => decide (j ∈ ns)) c ∧ c ≤ ns.length ∧
        (∀ b o, s.heap.get? b = some o → g.get? b = some o)) E) F.called_set.init.plain F.entry_set_init (check_set_init_1 hT ?_)) fun r t hr => ?_
      · obtain ⟨ol, hol, hcl, nl, hdl⟩ := hl
        obtain ⟨oc, od, odt, osl⟩ := ol
        simp only at hcl hdl
        subst hcl; subst hdl
        have hol2 : (s.heap.push (noSet w)).get? l = some { cls := .type "list", dict := od, data := .seq its nl, slots := osl } := Heap.get?_push_of_some _ hol
        have m8 := F.sub_list_set; have m9 := F.sub_list_frozenset
        have mne : (Value.type "list" == Value.type "dict") = false := by decide
        have hl1 : (s.heap.push (noSet w)).IsList l its := ⟨_, hol2, rfl, nl, rfl⟩
        unfold Builtin.«set.__init__» noKeywords Builtin.Frozenset.updateFrom; generalize hPI : pyIter = PI
        wp_walk
        subst hPI
        refine wpAny_pyIter_list hl1 ?_; refine wpAny_bind (wpAny_runValue ?_)
        have lS : l < s.heap.objs.size := Heap.lt_size hol
        have z1 : (s.heap.push (noSet w)).objs.size = s.heap.objs.size + 1 := Heap.size_push ..
        have nI : l ≠ (s.heap.push (noSet w)).objs.size := by rw [z1]; exact Nat.ne_of_lt (Nat.lt_succ_of_lt lS)
        have nS : s.heap.objs.size ∉ [(s.heap.push (noSet w)).objs.size, l] := by
          rw [z1]; simp only [List.mem_cons, List.not_mem_nil, or_false, not_or]
          exact ⟨Nat.ne_of_lt (Nat.lt_succ_self _), Nat.ne_of_gt lS⟩
        have hv : ∀ (i : Nat) (v : Value), its[i]? = some v → ∃ k t, ns[i]? = some k ∧ v = .int k t := fun i v hv => by
          have hi : i < ns.length := by rw [← sz]; exact (Array.getElem?_eq_some_iff.mp hv).1
          obtain ⟨t, e⟩ := IntsAre.int_at hit i v (by rw [Array.getElem?_toList]; exact hv)
          exact ⟨ns[i], t, List.getElem?_eq_getElem hi, by rw [e, List.getD_eq_getElem?_getD, List.getElem?_eq_getElem hi] <;> rfl⟩
        refine set_update_ints ((Walks.list (A := A.in1.in1.in1) (by simp [hh]) _ l nI its).toS) s.heap.objs.size nS ns sz hb hv (its.size - 0) 0 _ (by omega) (Nat.zero_le _) ⟨⟨_, Heap.get?_push_size _ rfl, rfl, rfl⟩, (hl1.push _)⟩ ?_ ?_
        · exact ⟨0, Nat.le_refl 0, setR_new_at (show ((s.heap.push (noSet w)).push { cls := .type "list_iterator", data := .fields #[.ref l, .int 0 0] }).get? s.heap.objs.size = some (noSet w) from Heap.get?_push_of_some _ hS)⟩
        · intro t c2 hm hc2 hS2
          obtain ⟨g, g2, d2, tk, os2⟩ := t
          have eg : g2 = s.gens := hm.gens
          have ed : d2 = s.drawn := hm.drawn
          have eo : os2 = s.os := hm.os
          subst eg; subst ed; subst eo
          show wpAny _ _ _ _ _ _
          refine wpAny_pure ?_; show wpAny _ _ (ret Value.none) _ _ _
          rw [sz] at hc2
          refine wpAny_pure ⟨rfl, g, tk, c2, rfl, hS2, hc2, fun b o e => ?_⟩
          have b0 : b < s.heap.objs.size := Heap.lt_size e
          exact hm.heap b o (by rw [z1]; simp only [List.mem_cons, List.not_mem_nil, or_false, not_or]; exact ⟨Nat.ne_of_lt b0, Nat.ne_of_lt (Nat.lt_succ_of_lt b0)⟩) (Heap.get?_push_of_some _ (Heap.get?_push_of_some _ e))
      · cases r with
        | error e => exact hr
        | ok fl =>
          cases fl with
          | next => exact hr.elim
          | brk => exact hr.elim
          | cont => exact hr.elim
          | ret r =>
            obtain ⟨rfl, g, tk, c2, rfl, hS2, hc2, hk2⟩ := hr
            repeat (any_goals (first | assumption | wp_step))
            exact h _ _ _ hS2 hc2 hk2
end
theorem nodupLe : ∀ (l m : List Int), l.Nodup → (∀ x ∈ l, x ∈ m) → l.length ≤ m.length
  | [], _, _, _ => Nat.zero_le _
  | x :: l, m, hn, hs => by
    obtain ⟨h1, h2⟩ := List.nodup_cons.mp hn
    have hx := hs x List.mem_cons_self
    have ih := nodupLe l (m.erase x) h2 fun y hy => (List.mem_erase_of_ne (fun e => h1 (by rw [e] at hy; exact hy))).mpr (hs y (List.mem_cons_of_mem _ hy))
    rw [List.length_erase_of_mem hx] at ih
    have : 0 < m.length := List.length_pos_of_mem hx
    rw [List.length_cons]
    omega
theorem setR_few {w : World} {g : Heap} {a : Addr} {S : Int → Bool} {n : Nat} (R : SetR w g a S n) {us : List Int} (h : ∀ k, S k = true → k ∈ us) : n ≤ us.length := by
  obtain ⟨o, es, ep, t, _, _, _, _, nd, hm, _, _, hn, _⟩ := R
  have z := nodupLe _ us nd fun k hk => h k ((hm k).mpr hk)
  rw [List.length_map, Array.length_toList] at z
  omega
section
variable {X : Cx}
def rSetL (w : World) : List V → Hp → VK → Prop := fun vs H Q => ∃ (l : Addr) (ns : List Int), vs = [V.ref l] ∧ H l = some (.lst (ns.map V.int)) ∧ ns.length < 4000 ∧
  ∀ (p : Addr) (c : Nat), H p = none → (∀ us : List Int, (∀ k ∈ ns, k ∈ us) → c ≤ us.length) → Q (.ref p) (upd H p (SetO w p (fun j => decide (j ∈ ns)) c))
theorem cr_setL (hc : X.calm = true) : CallR X (.type "set") (rSetL X.w) := by
  intro pins s σ H vs us Q I r h
  obtain ⟨l, ns, rfl, hl, hb, q⟩ := h
  rw [Vals.ref1 r]
  obtain ⟨z, its, n, rv, hlen, e⟩ := I.lstM hl
  have hi : IntsAre its.toArray.toList ns := by
    rw [List.toList_toArray]
    exact ints_of_vals rv
  refine set_of_list ns (I.ok.hd hc) (s := s) (l := l) (its := its.toArray) ⟨_, e, rfl, n, rfl⟩ hi (by unfold scanBound; omega) fun g tk c R hcn k => ?_
  exact ⟨.ref _, upd H s.heap.objs.size (SetO X.w s.heap.objs.size (fun j => decide (j ∈ ns)) c), I.laid (t' := tk) k (Nat.le_refl _) (setO_new R), rfl, q _ c (I.hok.fresh (Nat.le_refl _)) fun us hus => setR_few R fun k hk => hus k (of_decide_eq_true hk)⟩
end
end G

set_option Elab.async false
set_option linter.all false
set_option maxRecDepth 100000
set_option maxHeartbeats 4000000
/-! G13: sorted(set(xs)); classes made with keywords; what stands behind the written arguments. -/
namespace G
open PySem PySem.Spec PyProof.Rows L2
/-! ### sorted(set(xs)) -/
section
variable {Ex : Xn → Env → Prop} {Z : GX Ex} {ms : List SM} {a e : Expr} {ta : TA} {te : TE} {r : RM} {p : PX} {ps : PXs} {pos pos2 : Pos}
theorem sortedLe_eq : ∀ {xs ys : List Int}, xs.Pairwise (· < ·) → ys.Pairwise (· < ·) → (∀ k, k ∈ xs ↔ k ∈ ys) → xs = ys
  | [], [], _, _, _ => rfl
  | [], y :: ys, _, _, h => absurd ((h y).mpr List.mem_cons_self) (by simp)
  | x :: xs, [], _, _, h => absurd ((h x).mp List.mem_cons_self) (by simp)
  | x :: xs, y :: ys, h1, h2, h => by
    obtain ⟨a1, a2⟩ := List.pairwise_cons.mp h1
    obtain ⟨b1, b2⟩ := List.pairwise_cons.mp h2
    have e : x = y := by
      rcases List.mem_cons.mp ((h x).mp List.mem_cons_self) with q | q
      · exact q
      · rcases List.mem_cons.mp ((h y).mpr List.mem_cons_self) with q2 | q2
        · exact q2.symm
        · have := b1 x q; have := a1 y q2; omega
    subst e
    rw [sortedLe_eq a2 b2 fun k => ⟨fun hk => ?_, fun hk => ?_⟩]
    · rcases List.mem_cons.mp ((h k).mp (List.mem_cons_of_mem _ hk)) with q | q
      · have := a1 k hk; omega
      · exact q
    · rcases List.mem_cons.mp ((h k).mpr (List.mem_cons_of_mem _ hk)) with q | q
      · have := b1 k hk; omega
      · exact q
def pSortSet (pa : PX) : PX := fun env Q => pa env fun d => ∃ ns us : List Int, d = .lst (ns.map D.int) ∧ ns.length < 4000 ∧ us.length < 64 ∧ (∀ k ∈ ns, k ∈ us) ∧ ∀ out : List Int, out.Pairwise (· < ·) → (∀ k, k ∈ out ↔ k ∈ ns) → Q (.lst (out.map D.int))
theorem intsR {K : PySem.W.Frag} {F : Hp} : ∀ ns : List Int, Reps K F (ns.map D.int) (ns.map V.int)
  | [] => rfl
  | n :: ns => ⟨.int n, ns.map V.int, rfl, rfl, intsR ns⟩
theorem intsV {K : PySem.W.Frag} {F : Hp} : ∀ {ns : List Int} {vs : List V}, Reps K F (ns.map D.int) vs → vs = ns.map V.int
  | [], vs, h => h
  | n :: ns, vs, ⟨x, r, e, h1, h2⟩ => by
    subst e
    rw [intsV h2]
    have e1 : x = .int n := h1
    rw [e1]; rfl
theorem ge_sortSet {x y : Str} {p1 p2 : Pos} (hm : Z.mg x = none) (hm2 : Z.mg y = none) (ha : GE Z ms a r p) (hv : bootBuiltins x = some (.builtin "sorted") := by decide +kernel) (hv2 : bootBuiltins y = some (.type "set") := by decide +kernel)
    (hg : ∀ i, Gl (Z.X i) x := by intro i; rfl) (hg2 : ∀ i, Gl (Z.X i) y := by intro i; rfl) (hn : x ≠ "__name__" := by decide) (hn2 : y ≠ "__name__" := by decide) (hdb : (x == ("__debug__" : Str)) = false := by decide) (hdb2 : (y == ("__debug__" : Str)) = false := by decide)
    (he : ∀ i, starEach [.Call (.Name y p2) [a] [] pos2] (Z.X i).env = (false, eval (.Call (.Name y p2) [a] [] pos2) (Z.X i).env) :: starEach [] (Z.X i).env := by intro i; rfl) (he2 : ∀ i, starEach [a] (Z.X i).env = (false, eval a (Z.X i).env) :: starEach [] (Z.X i).env := by intro i; rfl)
    (hpl : ∀ i, (backTo pos (starEach [] (Z.X i).env)).any (·.1) = false := by intro i; rfl) (hpl2 : ∀ i, (backTo pos2 (starEach [] (Z.X i).env)).any (·.1) = false := by intro i; rfl) (hcm : Z.cm = true := by rfl) :
    GE Z ms (.Call (.Name x p1) [.Call (.Name y p2) [a] [] pos2] [] pos) (.ow (.el .sh)) (pSortSet p) := by
  obtain ⟨t, h1, h2⟩ := ha
  refine ⟨_, fun i => pe_callB (show CallR (Z.X i) (.builtin "sorted") (rSortedSet Z.w) from by have z := cr_sortedSet (Z.calm hcm i); rw [Z.hw i] at z; exact z) (hg i) (by rw [Z.hmg]; exact hm) hv (pa_cons (pe_callTy (show CallR (Z.X i) (.type "set") (rSetL Z.w) from by have z := cr_setL (Z.calm hcm i); rw [Z.hw i] at z; exact z) (hg2 i) (by rw [Z.hmg]; exact hm2) hv2 (pa_cons (h1 i) pa_nil (hs := he2 i)) hn2 hdb2 (he2 i) (hpl2 i)) pa_nil (hs := he i)) hn hdb (he i) (hpl i), fun F H env σ A Q k h p hk hx => ?_⟩
  refine h2 F H env σ A _ _ h p (fun F1 H1 d v g1 r1 q1 => ?_) hx
  obtain ⟨ns, us, rfl, h4, h64, hus, q1⟩ := q1
  obtain ⟨l, vs, rfl, hl, rs⟩ := (show ∃ l vs, _ = V.ref l ∧ H1 l = some (.lst vs) ∧ Reps Z.K H1 (ns.map D.int) vs from r1.view g1.sub)
  have ev := intsV rs
  subst ev
  refine ⟨l, ns, rfl, hl, h4, fun p c hp hc => ?_⟩
  have hc := hc us hus
  refine ⟨p, _, c, rfl, upd_same, by omega, fun out p2 hs hmem _ hp2 => ?_⟩
  have g2 : Grow F H F1 (upd H1 p (SetO Z.w p (fun j => decide (j ∈ ns)) c)) := g1.trans (Grow.new g1.sub hp)
  have g3 : Grow F H F1 (upd (upd H1 p (SetO Z.w p (fun j => decide (j ∈ ns)) c)) p2 (.lst (out.map V.int))) := g2.trans (Grow.new g2.sub hp2)
  refine hk F1 _ (.lst (out.map D.int)) (.ref p2) g3 ⟨[p2], ⟨p2, _, [], rfl, rfl, upd_same, RepMs.ofSh (intsR out)⟩, by simp, fun x hx => ?_⟩ (q1 out hs fun k => ?_)
  · rw [List.mem_singleton.mp hx]
    exact ⟨g2.fresh hp2, g2.sub.none hp2⟩
  · rw [hmem k, decide_eq_true_iff]
end

/-! ### a class made with keywords -/
section
variable {Ex : Xn → Env → Prop} {Z : GX Ex} {ms : List SM} {a : Expr} {es : List Expr} {kws : List Keyword} {ra : RM} {pa : PX} {ps pk : PXs} {pos : Pos} {m : M}
/-- the values of the keywords, held so -/
def GK {Ex : Xn → Env → Prop} (Z : GX Ex) (ms : List SM) (kws : List Keyword) (m : M) (p : PXs) : Prop := ∃ ta : TA, (∀ i, PK (Z.X i) kws ta) ∧ SO Z ms ta m p
theorem gk_nil : GK Z ms [] m pNil := ⟨tNil, fun _ => pk_nil, fun F H env σ A Q k h p hk hx => hk F H [] [] [] (Grow.refl h.sub) ⟨rfl, rfl⟩ List.nodup_nil (fun _ z => by cases z) p⟩
theorem so_cons {ta : TE} {tr : TA} (h2 : SE Z ms ta ra pa) (h4 : SO Z ms tr m ps) (hf : Fit ra m) : SO Z ms (tCons ta tr) m (pCons pa ps) := by
  intro F H env σ A Q k h p hk hx
  refine h2 F H env σ A _ _ h p (fun F0 H1 d v g0 r1 q1 => ?_) hx
  obtain ⟨F1, g1, _, fp1, r1, n1, z1⟩ := r1.fit hf g0
  refine h4 F1 H1 env σ A _ _ (h.grow g1) q1 (fun F2 H2 ds vs fp2 g2 r2 n2 z2 q2 => ?_) (fun F' H' x c dx g y z => hx F' H' x c dx (g1.trans g) (y.back g1.same) z)
  refine hk F2 H2 (d :: ds) (v :: vs) (fp1 ++ fp2) (g1.trans g2) ⟨v, vs, fp1, fp2, rfl, rfl, r1.grow g1.sub g2, r2⟩ (List.nodup_append.mpr ⟨n1, n2, fun x hx y hy e => ?_⟩) (fun x hx => ?_) q2
  · subst e
    exact r1.dom x hx (z2 x hy).1
  · rcases List.mem_append.mp hx with w | w
    · exact ⟨(z1 x w).1, (g2.old x (r1.dom x w)).trans (z1 x w).2⟩
    · exact ⟨g1.same.free (z2 x w).1, (z2 x w).2⟩
theorem gk_cons {nm : Option Str} {kpos : Pos} (ha : GE Z ms a ra pa) (hr : GK Z ms kws m ps) (hf : Fit ra m := by first | exact Fit.own | exact Fit.sh rfl) : GK Z ms (⟨nm, a, kpos⟩ :: kws) m (pCons pa ps) := by
  obtain ⟨ta, h1, h2⟩ := ha
  obtain ⟨tr, h3, h4⟩ := hr
  exact ⟨_, fun i => pk_cons (h1 i) (h3 i), so_cons h2 h4 hf⟩
/-- a class made with keywords (all given behind n positional values, in the parameters' order) -/
structure CdK (Z : GX Ex) (x : Str) (Cl : Addr) (n : Nat) (ks : List Str) (m : M) (Pf : PFI) : Prop where
  ex : ∃ (f : Addr) (fd : FuncData) (prm : List Str) (k : Nat) (CX : CXT), FnOk Z.P Z.w Z.K Z.mg Z.base CX k f fd prm (spI Z.K Cl m Pf) ∧ k + 1 ≤ Z.lv ∧ Z.mg x = some (.ref Cl) ∧ Mk Z.K Cl f ∧
    KBn Z.K fd prm (n + 1) ks (fun us ws => us ++ ws) (fun vs zs => vs ++ zs) ∧ ∀ i, Passes CX (Z.X i) (fun _ _ _ => False)
def pMakeK (Ex : Xn → Env → Prop) (Pf : PFI) (n m : Nat) (ps pk : PXs) : PX := fun env Q => ps env fun ds => pk env fun es => ds.length = n ∧ es.length = m ∧ Pf (ds ++ es) Q fun x => Ex x env
theorem ge_makeK {x : Str} {p2 : Pos} {Cl : Addr} {n : Nat} {ks : List Str} {Pf : PFI} (Gd : CdK Z x Cl n ks m Pf) (ha : GO Z ms (a :: es) .sh ps) (hk : GK Z ms kws .sh pk) (hg : ∀ i, Gl (Z.X i) x := by intro i; rfl)
    (hall : ∀ i, (backToKw pos (keywordEach kws (Z.X i).env)).all (·.1.isSome) = true := by intro i; rfl) (hks : ∀ i, (backToKw pos (keywordEach kws (Z.X i).env)).filterMap (·.1) = ks := by intro i; rfl) (hdb : (x == ("__debug__" : Str)) = false := by decide)
    (he : ∀ i, starEach (a :: es) (Z.X i).env = (false, eval a (Z.X i).env) :: starEach es (Z.X i).env := by intro i; rfl) (hpl : ∀ i, ((backTo pos (starEach (a :: es) (Z.X i).env)).any (·.1) || (backToKw pos (keywordEach kws (Z.X i).env)).any (·.1.isNone)) = false := by intro i; rfl) (hcm : Z.cm = true := by rfl) :
    GE Z ms (.Call (.Name x p2) (a :: es) kws pos) (.ow m) (pMakeK F0 Pf n ks.length ps pk) := by
  obtain ⟨t, h1, h2⟩ := ha
  obtain ⟨u, h3, h4⟩ := hk
  obtain ⟨f, fd, prm, k, CX, F, hk, hm, mk, b, hx⟩ := Gd.ex
  refine ⟨_, fun i => pe_makeK (by rw [Z.hK]; exact mk) (fn_at F i) ((Z.room hcm i).mono hk) (hg i) (by rw [Z.hmg]; exact hm) (by rw [Z.hK]; exact b) (hx i) (h1 i) (h3 i) (hall i) (hks i) hdb (he i) (hpl i), fun F H env σ A Q k h p hk hx => ?_⟩
  refine h2 F H env σ A _ _ h p (fun F1 H1 ds vs fq g1 r1 n1 z1 q1 => ?_) hx
  refine h4 F1 H1 env σ A _ _ (h.grow g1) q1 (fun F2 H2 es us fq2 g2 r2 n2 z2 q2 => ?_) (fun F' H' x c dx g y z => hx F' H' x c dx (g1.trans g) (y.back g1.same) z)
  obtain ⟨l1, l2, q2⟩ := q2
  obtain ⟨_, s1⟩ := RepMs.sh (r1.grow g1.sub g2)
  obtain ⟨_, s2⟩ := RepMs.sh r2
  refine ⟨by rw [s1.length]; exact l1, by rw [s2.length]; exact l2, fun x dx nx ndx ne => ?_⟩
  exact made (g1.trans g2) (s1.append s2) q2 hk nx ndx ne
end
/-! ### promises of defs, methods and classes of one program -/
structure DfK (P : Program) (w : World) (K : PySem.W.Frag) (mg : Str → Option Value) (base : Heap) (x : Str) (k : Nat) (rm : M) (Pf : PF) (dds : List D) : Prop where
  ex : ∃ (f : Addr) (fd : FuncData) (prm : List Str) (ds : List Value) (dvs : List V), FnOk P w K mg base CX0 k f fd prm (spG K rm Pf) ∧ mg x = some (.ref f) ∧ PySem.W.keepIn K (.ref f) = true ∧ Binds K fd prm ds ∧ Vals dvs ds ∧ Reps K (fun _ => none) dds dvs
structure MdK (P : Program) (w : World) (K : PySem.W.Frag) (mg : Str → Option Value) (base : Heap) (C : Addr) (m : Str) (k : Nat) (rm : M) (Pf : PF) (dds : List D) : Prop where
  ex : ∃ (f : Addr) (fd : FuncData) (prm : List Str) (ds : List Value) (dvs : List V), FnOk P w K mg base CX0 k f fd prm (spG K rm Pf) ∧ Cls K C ∧ Meth K C m f ∧ Binds K fd prm ds ∧ Vals dvs ds ∧ Reps K (fun _ => none) dds dvs
structure IdK (P : Program) (w : World) (K : PySem.W.Frag) (mg : Str → Option Value) (base : Heap) (x : Str) (Cl : Addr) (k : Nat) (m : M) (Pf : PFI) (dds : List D) (n : Nat) (ks : List Str) : Prop where
  ex : ∃ (f : Addr) (fd : FuncData) (prm : List Str) (ds : List Value) (dvs : List V), FnOk P w K mg base CX0 k f fd prm (spI K Cl m Pf) ∧ mg x = some (.ref Cl) ∧ Mk K Cl f ∧ Binds K fd prm ds ∧ Vals dvs ds ∧ Reps K (fun _ => none) dds dvs ∧
    (ks ≠ [] → KBn K fd prm (n + 1) ks (fun us ws => us ++ ws) (fun vs zs => vs ++ zs))
/-- a def that may let an error out -/
structure DfR (P : Program) (w : World) (K : PySem.W.Frag) (mg : Str → Option Value) (base : Heap) (x : Str) (k : Nat) (rm : M) (Pf : PF) (dds : List D) : Prop where
  ex : ∃ (f : Addr) (fd : FuncData) (prm : List Str) (ds : List Value) (dvs : List V), FnOk P w K mg base (L2.CX P w) k f fd prm (spG K rm Pf) ∧ mg x = some (.ref f) ∧ PySem.W.keepIn K (.ref f) = true ∧ Binds K fd prm ds ∧ Vals dvs ds ∧ Reps K (fun _ => none) dds dvs
section
variable {Ex : Xn → Env → Prop} {Z : GX Ex} {x m : Str} {k n : Nat} {rm mo : M} {Pf : PF} {Pi : PFI} {dds : List D} {C : Addr} {ks : List Str}
theorem DfK.at (h : DfK Z.P Z.w Z.K Z.mg Z.base x k rm Pf dds) (hk : k ≤ Z.lv := by exact Nat.le_of_ble_eq_true rfl) : Df Z x rm Pf dds := by
  obtain ⟨f, fd, prm, ds, dvs, a, b, c, d, e, g⟩ := h.ex
  exact ⟨f, fd, prm, k, CX0, ds, dvs, a, hk, b, c, d, e, g, fun _ _ => fun _ _ _ _ _ _ z => z.elim⟩
theorem DfR.at (h : DfR Z.P Z.w Z.K Z.mg Z.base x k rm Pf dds) (hk : k ≤ Z.lv := by exact Nat.le_of_ble_eq_true rfl) : Df Z x rm Pf dds := by
  obtain ⟨f, fd, prm, ds, dvs, a, b, c, d, e, g⟩ := h.ex
  exact ⟨f, fd, prm, k, _, ds, dvs, a, hk, b, c, d, e, g, fun i σ => by
    rw [← Z.hP i, ← Z.hw i]
    exact passAt (Z.tk i) σ⟩
theorem MdK.at (h : MdK Z.P Z.w Z.K Z.mg Z.base C m k rm Pf dds) (hk : k ≤ Z.lv := by exact Nat.le_of_ble_eq_true rfl) : Md Z C m rm Pf dds := by
  obtain ⟨f, fd, prm, ds, dvs, a, b, c, d, e, g⟩ := h.ex
  exact ⟨f, fd, prm, k, CX0, ds, dvs, a, hk, b, c, d, e, g, fun _ => pass0⟩
theorem IdK.at (h : IdK Z.P Z.w Z.K Z.mg Z.base x C k mo Pi dds n ks) (hk : k + 1 ≤ Z.lv := by exact Nat.le_of_ble_eq_true rfl) : Cd Z x C mo Pi dds := by
  obtain ⟨f, fd, prm, ds, dvs, a, b, c, d, e, g, _⟩ := h.ex
  exact ⟨f, fd, prm, k, CX0, ds, dvs, a, hk, b, c, d, e, g, fun _ => pass0⟩
theorem IdK.atK (h : IdK Z.P Z.w Z.K Z.mg Z.base x C k mo Pi dds n ks) (ne : ks ≠ []) (hk : k + 1 ≤ Z.lv := by exact Nat.le_of_ble_eq_true rfl) : CdK Z x C n ks mo Pi := by
  obtain ⟨f, fd, prm, ds, dvs, a, b, c, d, e, g, z⟩ := h.ex
  exact ⟨f, fd, prm, k, CX0, a, hk, b, c, z ne, fun _ => pass0⟩
end
end G

set_option Elab.async false
set_option linter.all false
set_option maxRecDepth 100000
set_option maxHeartbeats 4000000
/-! G14: steps of the pure bodies. -/
namespace G
open PySem PySem.Spec PyProof.Rows L2
section
variable {env : Env} {Q : D → Prop} {Qs : List D → Prop} {pa pb pc : PX} {ps : PXs} {nx bk ct : Env → Prop} {rt : D → Env → Prop} {i : Nat} {d e : D} {p1 p2 : PS'} {Bq : Bool → Prop} {ba bb : PB}
abbrev lI (ns : List Int) : D := .lst (ns.map D.int)
abbrev tI (ns : List Int) : D := .tup (ns.map D.int)
abbrev lP (ps : List (Int × Int)) : D := .lst (ps.map prD)
theorem w_seq (h : p1 ⟨fun z => p2 ⟨nx, rt, bk, ct⟩ z, rt, bk, ct⟩ env) : sSeq p1 p2 ⟨nx, rt, bk, ct⟩ env := h
theorem w_skip (h : nx env) : sSkip ⟨nx, rt, bk, ct⟩ env := h
theorem w_break (h : bk env) : sBreak ⟨nx, rt, bk, ct⟩ env := h
theorem w_cont (h : ct env) : sCont ⟨nx, rt, bk, ct⟩ env := h
theorem w_set (h : pa env fun d => nx (env.set i (some d))) : sSet i pa ⟨nx, rt, bk, ct⟩ env := h
theorem w_setF (h : pa env fun d => flat d = true ∧ nx (env.set i (some d))) : sSetF i pa ⟨nx, rt, bk, ct⟩ env := h
theorem w_aug {f : Int → Int → Int} {n : Int} (e : env[i]? = some (some (.int n))) (h : pa env fun d => ∃ k, d = .int k ∧ nx (env.set i (some (.int (f n k))))) : sAug f i pa ⟨nx, rt, bk, ct⟩ env := ⟨n, e, h⟩
theorem w_fldN {C : Addr} {ns : List Str} {f : Str} (h : pa env fun d => ∃ ds, env[i]? = some (some (.obj C ns ds)) ∧ nx (env.set i (some (.obj C (ns ++ [f]) (ds ++ [d]))))) : sFldN C ns f i pa ⟨nx, rt, bk, ct⟩ env := h
theorem w_ixSet (h : pa env fun d => ∃ ds, env[i]? = some (some (.lst ds)) ∧ pb env fun k => ∃ n l, k = .int n ∧ ixN ds.length n = some l ∧ nx (env.set i (some (.lst (ds.set l d))))) : sIxSet i pb pa ⟨nx, rt, bk, ct⟩ env := h
theorem w_drop (h : pa env fun _ => nx env) : sDrop pa ⟨nx, rt, bk, ct⟩ env := h
theorem w_ret (h : pa env fun d => rt d env) : sRet pa ⟨nx, rt, bk, ct⟩ env := h
theorem w_retF (h : pa env fun d => flat d = true ∧ rt d env) : sRetF pa ⟨nx, rt, bk, ct⟩ env := h
theorem w_retN (h : rt .non env) : sRetN ⟨nx, rt, bk, ct⟩ env := h
theorem w_retV (e : env[i]? = some (some d)) (h : rt d (env.set i none)) : sRetV i ⟨nx, rt, bk, ct⟩ env := ⟨d, e, h⟩
theorem w_if (h : ba env fun b => (b = true → p1 ⟨nx, rt, bk, ct⟩ env) ∧ (b = false → p2 ⟨nx, rt, bk, ct⟩ env)) : sIf ba p1 p2 ⟨nx, rt, bk, ct⟩ env := h
theorem w_app {ds : List D} (e : env[i]? = some (some (.lst ds))) (h : pa env fun d => ds.length < 100000 ∧ nx (env.set i (some (.lst (ds ++ [d]))))) : sApp i pa ⟨nx, rt, bk, ct⟩ env := ⟨ds, e, h⟩
theorem w_dec {p : Prop} [Decidable p] {A B : Prop} (h1 : p → A) (h2 : ¬p → B) : (decide p = true → A) ∧ (decide p = false → B) := ⟨fun h => h1 (of_decide_eq_true h), fun h => h2 (of_decide_eq_false h)⟩
theorem w_decT {p : Prop} [Decidable p] {A B : Prop} (h : p) (a : A) : (decide p = true → A) ∧ (decide p = false → B) := ⟨fun _ => a, fun z => absurd h (of_decide_eq_false z)⟩
theorem w_decF {p : Prop} [Decidable p] {A B : Prop} (h : ¬p) (b : B) : (decide p = true → A) ∧ (decide p = false → B) := ⟨fun z => absurd (of_decide_eq_true z) h, fun _ => b⟩
theorem w_tt {A B : Prop} (h : A) : (true = true → A) ∧ (true = false → B) := ⟨fun _ => h, fun z => (nomatch z)⟩
theorem w_ff {A B : Prop} (h : B) : (false = true → A) ∧ (false = false → B) := ⟨fun z => (nomatch z), fun _ => h⟩
theorem w_bb {b : Bool} {A B : Prop} (h1 : b = true → A) (h2 : b = false → B) : (b = true → A) ∧ (b = false → B) := ⟨h1, h2⟩
theorem w_nb {b : Bool} {A B : Prop} (h : (b = true → B) ∧ (b = false → A)) : ((!b) = true → A) ∧ ((!b) = false → B) := by
  cases b
  · exact ⟨fun _ => h.2 rfl, fun z => by cases z⟩
  · exact ⟨fun z => (nomatch z), fun _ => h.1 rfl⟩
theorem w_var (e : env[i]? = some (some d)) (h : Q d) : pVar i env Q := ⟨d, e, h⟩
theorem w_c (h : Q d) : pC d env Q := h
theorem w_bin {q : D → D → (D → Prop) → Prop} (h : pa env fun x => pb env fun y => q x y Q) : pBin q pa pb env Q := h
theorem w_add (h : pa env fun x => pb env fun y => qI0 (fun i j => .int (i + j)) x y Q) : pAdd pa pb env Q := h
theorem w_sub (h : pa env fun x => pb env fun y => qI0 (fun i j => .int (i - j)) x y Q) : pSub pa pb env Q := h
theorem w_mul (h : pa env fun x => pb env fun y => qI CMul (fun i j => .int (i * j)) x y Q) : pMul pa pb env Q := h
theorem w_div (h : pa env fun x => pb env fun y => qI CDiv (fun i j => .int (i / j)) x y Q) : pDiv pa pb env Q := h
theorem w_mod (h : pa env fun x => pb env fun y => qI (fun _ j => 0 < j) (fun i j => .int (i % j)) x y Q) : pMod pa pb env Q := h
theorem w_pow (h : pa env fun x => pb env fun y => qI CPow (fun i j => .int (i ^ j.toNat)) x y Q) : pPow pa pb env Q := h
theorem w_qI0 {g : Int → Int → D} {a b : Int} (h : Q (g a b)) : qI0 g (.int a) (.int b) Q := ⟨a, b, rfl, rfl, h⟩
theorem w_qI {C : Int → Int → Prop} {g : Int → Int → D} {a b : Int} (hc : C a b) (h : Q (g a b)) : qI C g (.int a) (.int b) Q := ⟨a, b, rfl, rfl, hc, h⟩
theorem w_lt {a b : Int} (h : Q (.bl (decide (a < b)))) : qLt (.int a) (.int b) Q := ⟨a, b, rfl, rfl, h⟩
theorem w_le {a b : Int} (h : Q (.bl (decide (a ≤ b)))) : qLe (.int a) (.int b) Q := ⟨a, b, rfl, rfl, h⟩
theorem w_gt {a b : Int} (h : Q (.bl (decide (b < a)))) : qGt (.int a) (.int b) Q := ⟨a, b, rfl, rfl, h⟩
theorem w_ge {a b : Int} (h : Q (.bl (decide (b ≤ a)))) : qGe (.int a) (.int b) Q := ⟨a, b, rfl, rfl, h⟩
theorem eqD_int (a b : Int) : eqD (.int a) (.int b) = decide (a = b) := by
  show PyData.eqv (.int a) (.int b) = _
  unfold PyData.eqv
  by_cases h : a = b
  · simp [h]
  · simp [h]
theorem w_eqI {a b : Int} (h : Q (.bl (decide (a = b)))) : qEq (.int a) (.int b) Q := ⟨rfl, rfl, by rw [eqD_int]; exact h⟩
theorem w_neI {a b : Int} (h : Q (.bl (!decide (a = b)))) : qNe (.int a) (.int b) Q := ⟨rfl, rfl, by rw [eqD_int]; exact h⟩
theorem w_qisN (h : Q (.bl (isN d))) : qIsN d .non Q := ⟨rfl, h⟩
theorem w_qnotN (h : Q (.bl (!isN d))) : qNotN d .non Q := ⟨rfl, h⟩
theorem w_neg (h : pa env fun x => ∃ i, x = .int i ∧ Q (.int (-i))) : pNeg pa env Q := h
theorem w_test (h : pa env fun d => ∃ b, d = .bl b ∧ Bq b) : bTest pa env Bq := h
theorem w_tru (h : pa env fun d => ∃ b, truD d = some b ∧ Bq b) : bTru pa env Bq := h
theorem w_band (h : ba env fun x => (x = true → bb env Bq) ∧ (x = false → Bq false)) : bAnd ba bb env Bq := h
theorem w_bor (h : ba env fun x => (x = true → Bq true) ∧ (x = false → bb env Bq)) : bOr ba bb env Bq := h
theorem w_bnot (h : ba env fun x => Bq (!x)) : bNot ba env Bq := h
theorem w_pand (h : pa env fun x => ∃ b, x = .bl b ∧ (b = true → pb env Q) ∧ (b = false → Q (.bl false))) : pAnd pa pb env Q := h
theorem w_por (h : pa env fun x => ∃ b, x = .bl b ∧ (b = true → Q (.bl true)) ∧ (b = false → pb env Q)) : pOr pa pb env Q := h
theorem w_pnot (h : pa env fun x => ∃ b, x = .bl b ∧ Q (.bl (!b))) : pNot pa env Q := h
theorem w_pif (h : ba env fun x => (x = true → pa env Q) ∧ (x = false → pb env Q)) : pIf ba pa pb env Q := h
def ixQ (o i : D) (Q : D → Prop) : Prop := ∃ k ds d, i = .int k ∧ itemsD o = some ds ∧ atI ds k = some d ∧ Q d
theorem w_ix (h : pa env fun o => pb env fun i => ixQ o i Q) : pIx pa pb env Q := h
theorem w_ixQ {o : D} {k : Int} {ds : List D} (e1 : itemsD o = some ds) (e2 : atI ds k = some d) (h : Q d) : ixQ o (.int k) Q := ⟨k, ds, d, rfl, e1, e2, h⟩
theorem w_exb {b : Bool} (h : Bq b) : ∃ c, D.bl b = .bl c ∧ Bq c := ⟨b, rfl, h⟩
theorem w_exi {a : Int} {R : Int → Prop} (h : R a) : ∃ c, D.int a = .int c ∧ R c := ⟨a, rfl, h⟩
theorem w_exl {ds : List D} {R : List D → Prop} (h : R ds) : ∃ c, D.lst ds = .lst c ∧ R c := ⟨ds, rfl, h⟩
theorem w_ext {ds : List D} {R : List D → Prop} (h : R ds) : ∃ c, D.tup ds = .tup c ∧ R c := ⟨ds, rfl, h⟩
theorem w_exT {b : Bool} (e : truD d = some b) (h : Bq b) : ∃ c, truD d = some c ∧ Bq c := ⟨b, e, h⟩
theorem w_exTb {b : Bool} (h : Bq b) : ∃ c, truD (.bl b) = some c ∧ Bq c := ⟨b, rfl, h⟩
theorem w_flI {a : Int} {A : Prop} (h : A) : flat (.int a) = true ∧ A := ⟨rfl, h⟩
theorem w_flN {A : Prop} (h : A) : flat .non = true ∧ A := ⟨rfl, h⟩
theorem w_flB {b : Bool} {A : Prop} (h : A) : flat (.bl b) = true ∧ A := ⟨rfl, h⟩
def lenQ (ds : List D) (A : Prop) : Prop := ds.length ≤ 100000 ∧ A
theorem w_lenQ {ds : List D} {A : Prop} (e : ds.length ≤ 100000) (h : A) : lenQ ds A := ⟨e, h⟩
theorem w_fldQ {C : Addr} {ns : List Str} {vals : List D} {j : Nat} (e : vals[j]? = some d) (h : Q d) : ∃ ds, D.obj C ns vals = .obj C ns ds ∧ ∃ d, ds[j]? = some d ∧ Q d := ⟨vals, rfl, d, e, h⟩
theorem w_obj {C : Addr} {ns : List Str} {vals : List D} {A : Prop} (h : A) : (∃ ds, D.obj C ns vals = .obj C ns ds) ∧ A := ⟨⟨vals, rfl⟩, h⟩
theorem w_isNi {a : Int} (h : Q (.bl false)) : qIsN (.int a) .non Q := ⟨rfl, h⟩
theorem w_isNn (h : Q (.bl true)) : qIsN .non .non Q := ⟨rfl, h⟩
theorem w_isNl {ds : List D} (h : Q (.bl false)) : qIsN (.lst ds) .non Q := ⟨rfl, h⟩
theorem w_nNi {a : Int} (h : Q (.bl true)) : qNotN (.int a) .non Q := ⟨rfl, h⟩
theorem w_nNn (h : Q (.bl false)) : qNotN .non .non Q := ⟨rfl, h⟩
theorem w_nNl {ds : List D} (h : Q (.bl true)) : qNotN (.lst ds) .non Q := ⟨rfl, h⟩
theorem w_nil (h : Qs []) : pNil env Qs := h
theorem w_cons (h : pa env fun d => ps env fun ds => Qs (d :: ds)) : pCons pa ps env Qs := h
theorem w_flat (h : pa env fun d => flat d = true ∧ Q d) : pFlat pa env Q := h
theorem w_lst (h : ps env fun ds => lenQ ds (Q (.lst ds))) : pLst ps env Q := h
theorem w_tup (h : ps env fun ds => lenQ ds (Q (.tup ds))) : pTup ps env Q := h
theorem w_call {Ex : Xn → Env → Prop} {Pf : PF} {dds : List D} (h : ps env fun ds => Pf (ds ++ dds) Q fun x => Ex x env) : pCall Ex Pf dds ps env Q := h
theorem w_callV {Ex : Xn → Env → Prop} {Pf : PF} {dds : List D} {rm : M} (h : ps env fun ds => Pf (ds ++ dds) (fun d => leafs d rm = true ∧ Q d) fun x => Ex x env) : pCallV Ex Pf rm dds ps env Q := h
theorem w_fld {C : Addr} {ns : List Str} {j : Nat} (h : pa env fun o => ∃ ds, o = .obj C ns ds ∧ ∃ d, ds[j]? = some d ∧ Q d) : pFld C ns j pa env Q := h
theorem w_meth {Ex : Xn → Env → Prop} {C : Addr} {ns : List Str} {Pf : PF} {dds : List D} (h : pa env fun o => (∃ ds, o = .obj C ns ds) ∧ ps env fun as => Pf (o :: (as ++ dds)) Q fun x => Ex x env) : pMeth Ex C ns Pf dds pa ps env Q := h
theorem w_make {Ex : Xn → Env → Prop} {Pf : PFI} {dds : List D} (h : ps env fun ds => Pf (ds ++ dds) Q fun x => Ex x env) : pMake Ex Pf dds ps env Q := h
theorem w_makeK {Ex : Xn → Env → Prop} {Pf : PFI} {n m : Nat} {pk : PXs} (h : ps env fun ds => pk env fun es => ds.length = n ∧ es.length = m ∧ Pf (ds ++ es) Q fun x => Ex x env) : pMakeK Ex Pf n m ps pk env Q := h
theorem w_fn {q : QF} (h : ps env fun ds => q ds Q) : pFn q ps env Q := h
theorem w_fnV {q : QF} (h : ps env fun ds => q ds fun d => leafs d (.el .sh) = true ∧ Q d) : pFnV q ps env Q := h
theorem w_len {n : Nat} (e : lenD d = some n) (h : Q (.int n)) : qLen [d] Q := ⟨d, rfl, n, e, h⟩
theorem w_lenL {ds : List D} (h : Q (.int ds.length)) : qLen [.lst ds] Q := ⟨_, rfl, _, rfl, h⟩
theorem w_lenT {ds : List D} (h : Q (.int ds.length)) : qLen [.tup ds] Q := ⟨_, rfl, _, rfl, h⟩
theorem w_lenS {ns : List Int} (h : Q (.int ns.length)) : qLen [.scr ns] Q := ⟨_, rfl, _, rfl, h⟩
theorem w_abs {a : Int} (h : Q (.int a.natAbs)) : qAbs [.int a] Q := ⟨_, rfl, a, rfl, by
  have e : (if a < 0 then -a else a) = (a.natAbs : Int) := by split <;> omega
  rw [e]; exact h⟩
theorem w_int {a : Int} (h : Q (.int a)) : qInt [.int a] Q := ⟨_, rfl, a, .inl rfl, h⟩
theorem w_max2 {a b : Int} (h : Q (.int (max a b))) : qMax2 [.int a, .int b] Q := ⟨_, _, rfl, a, b, rfl, rfl, by
  have e : (if b > a then b else a) = max a b := by split <;> omega
  rw [e]; exact h⟩
theorem w_min2 {a b : Int} (h : Q (.int (min a b))) : qMin2 [.int a, .int b] Q := ⟨_, _, rfl, a, b, rfl, rfl, by
  have e : (if b < a then b else a) = min a b := by split <;> omega
  rw [e]; exact h⟩
theorem w_sum {ns : List Int} (h : Q (.int ns.sum)) : qSum [lI ns] Q := ⟨_, rfl, ns, ints_map ns, h⟩
theorem w_list {ds : List D} (e : itemsD d = some ds) (h : Q (.lst ds)) : qList [d] Q := ⟨d, rfl, ds, e, h⟩
theorem w_tuple {ds : List D} (h : Q (.tup ds)) : qTuple [.lst ds] Q := ⟨_, rfl, .inl ⟨ds, rfl, h⟩⟩
theorem w_sortI {ns : List Int} (h : ∀ ns' : List Int, ns'.Perm ns → ns'.Pairwise (· ≤ ·) → Q (lI ns')) : qSortI [lI ns] Q := ⟨_, rfl, ns, ints_map ns, h⟩
theorem w_sortP {l : List (Int × Int)} (h : ∀ m : List (Int × Int), m.Perm l → m.Pairwise lexLe → Q (lP m)) : qSortP [lP l] Q := ⟨_, rfl, l, rfl, h⟩
theorem w_cat {ds es : List D} (hl : ds.length + es.length ≤ 100000) (h : Q (.lst (ds ++ es))) : qCat (.lst ds) (.lst es) Q := ⟨ds, es, rfl, rfl, hl, h⟩
theorem w_rep {ds : List D} {n : Int} (h1 : -1000000 ≤ n) (h2 : n ≤ 1000000) (hl : ds.length * n.toNat ≤ 100000) (h : Q (.lst (List.replicate n.toNat ds).flatten)) : qRep (.lst ds) (.int n) Q := ⟨ds, n, rfl, rfl, h1, h2, hl, h⟩
theorem w_revL (h : pa env fun x => ∃ ds, x = .lst ds ∧ Q (.lst ds.reverse)) : pRevL pa env Q := h
theorem w_isi {n t : String} {r : Bool} (e1 : typeD d = some t) (e2 : isTy t n = some r) (h : Q (.bl r)) : qIsi [d, .ty n] Q := ⟨_, _, rfl, n, t, r, rfl, e1, e2, h⟩
theorem w_for {pi : PI'} {pt : PT'} (h : pi env fun items => forL items pt p1 env ⟨nx, rt, bk, ct⟩) : sFor pi pt p1 ⟨nx, rt, bk, ct⟩ env := h
theorem w_iLst {Qs : List D → Prop} (h : pa env fun x => ∃ ds, x = .lst ds ∧ Qs ds) : iLst pa env Qs := h
theorem w_iTpl {Qs : List D → Prop} (h : pa env fun x => ∃ ds, x = .tup ds ∧ Qs ds) : iTpl pa env Qs := h
theorem w_iRg1 {Qs : List D → Prop} (h : pa env fun x => ∃ n, x = .int n ∧ -1000000000 ≤ n ∧ n ≤ 1000000000 ∧ Qs ((List.range n.toNat).map fun i => D.int (0 + (i : Nat)))) : iRg1 pa env Qs := h
theorem w_iRg2 {Qs : List D → Prop} (h : pa env fun x => pb env fun y => ∃ i j, x = .int i ∧ y = .int j ∧ -10000000000000 ≤ i ∧ i ≤ 10000000000000 ∧ -10000000000000 ≤ j ∧ j ≤ 10000000000000 ∧ Qs ((List.range (j - i).toNat).map fun k => D.int (i + (k : Nat)))) : iRg2 pa pb env Qs := h
theorem w_iEnu {Qs : List D → Prop} (h : pa env fun x => ∃ ds, x = .lst ds ∧ Qs (enumD ds)) : iEnu pa env Qs := h
theorem w_tn {Qe : Env → Prop} (h : Qe (env.set i (some d))) : tName i d env Qe := h
theorem w_tt2 {Qe : Env → Prop} {pt pu : PT'} {d e : D} (h : pt d env fun z => pu e z Qe) : tTupl 2 (tsCons pt (tsCons pu tsNil)) (.tup [d, e]) env Qe := ⟨_, rfl, rfl, _, _, rfl, by
  refine (?_ : pt d env fun z => ∃ d' r, [e] = d' :: r ∧ pu d' z fun z2 => tsNil r z2 Qe)
  have e2 : (fun z => ∃ d' r, [e] = d' :: r ∧ pu d' z fun z2 => tsNil r z2 Qe) = fun z => pu e z Qe := by
    funext z
    apply propext
    constructor
    · rintro ⟨d', r, q, h⟩
      cases q
      have e3 : (fun z2 => tsNil [] z2 Qe) = Qe := by
        funext z2
        exact propext ⟨fun q => q.2, fun q => ⟨rfl, q⟩⟩
      rw [e3] at h
      exact h
    · intro h
      refine ⟨e, [], rfl, ?_⟩
      have e3 : (fun z2 => tsNil [] z2 Qe) = Qe := by
        funext z2
        exact propext ⟨fun q => q.2, fun q => ⟨rfl, q⟩⟩
      rw [e3]
      exact h
  rw [e2]
  exact h⟩
theorem w_lc {own : List Nat} {pi : PI'} {pt : PT'} {b : PB} {pe : PX} (h : pi env fun items => pMap items (lcTurn own env pt b pe) [] fun ys => Q (.lst ys)) : pLc own pi pt b pe env Q := h
theorem w_turn {own : List Nat} {pt : PT'} {b : PB} {pe : PX} {acc : List D} {K : List D → Prop} (h : pt d (wipeE env own) fun z => b z fun t => (t = true → pe z fun y => acc.length < 100000 ∧ K (acc ++ [y])) ∧ (t = false → K acc)) : lcTurn own env pt b pe d acc K := h
theorem w_lstRg {pr : Env → (Int → Int → Prop) → Prop} (h : pr env fun i j => -1000000 ≤ i ∧ i ≤ 1000000 ∧ -1000000 ≤ j ∧ j ≤ 1000000 ∧ Q (.lst ((rgI i j).map .int))) : pLstRg pr env Q := h
theorem w_tupRg {pr : Env → (Int → Int → Prop) → Prop} (h : pr env fun i j => -1000000 ≤ i ∧ i ≤ 1000000 ∧ -1000000 ≤ j ∧ j ≤ 1000000 ∧ Q (.tup ((rgI i j).map .int))) : pTupRg pr env Q := h
theorem w_rg1 {R : Int → Int → Prop} (h : pa env fun x => ∃ n, x = .int n ∧ R 0 n) : pRg1 pa env R := h
theorem w_rg2 {R : Int → Int → Prop} (h : pa env fun x => pb env fun y => ∃ i j, x = .int i ∧ y = .int j ∧ R i j) : pRg2 pa pb env R := h
theorem w_exii {a b : Int} {R : Int → Int → Prop} (h : R a b) : ∃ i j, D.int a = .int i ∧ D.int b = .int j ∧ R i j := ⟨a, b, rfl, rfl, h⟩
theorem w_sl {pl ph : PP} (h : pa env fun x => pl env fun l => ph env fun u => ∃ ds, x = .lst ds ∧ Q (.lst (cutL ds l u))) : pSl pa pl ph env Q := h
theorem w_slV {pl ph : PP} (h : pa env fun x => pl env fun l => ph env fun u => ∃ ds, x = .lst ds ∧ leafss (cutL ds l u) .sh = true ∧ Q (.lst (cutL ds l u))) : pSlV pa pl ph env Q := h
theorem w_pNo {R : Option Int → Prop} (h : R none) : pNo env R := h
theorem w_pSome {R : Option Int → Prop} (h : pa env fun x => ∃ i, x = .int i ∧ R (some i)) : pSome pa env R := h
theorem w_chain {q q' : D → D → (D → Prop) → Prop} (h : pa env fun x => pb env fun y => q x y fun z => ∃ k, z = .bl k ∧ (k = true → pc env fun w => q' y w Q) ∧ (k = false → Q (.bl false))) : pChain q q' pa pb pc env Q := h
theorem w_yes {Bq : Bool → Prop} (h : Bq true) : bYes env Bq := h
/-- a for by an invariant -/
theorem forL_inv {pt : PT'} (I : Nat → Env → Prop) : ∀ {items : List D} {env : Env} (j : Nat), I j env →
    (∀ i d env (K : Env → Prop), items[i]? = some d → I (j + i) env → (∀ z, I (j + i + 1) z → K z) → pt d env fun z => p1 ⟨K, rt, nx, K⟩ z) → (∀ z, I (j + items.length) z → nx z) → forL items pt p1 env ⟨nx, rt, bk, ct⟩
  | [], env, j, h0, hs, he => he env h0
  | d :: r, env, j, h0, hs, he => by
    refine hs 0 d env (fun z => forL r pt p1 z ⟨nx, rt, bk, ct⟩) rfl h0 fun z hz => ?_
    refine forL_inv I (j + 1) hz (fun i d env K h1 h2 h3 => ?_) fun z hz => ?_
    · exact hs (i + 1) d env K h1 (by rw [← Nat.add_assoc, Nat.add_right_comm]; exact h2) fun z hz => h3 z (by rw [Nat.add_right_comm j 1 i, Nat.add_assoc j i 1] ; exact hz)
    · exact he z (by rw [List.length_cons, Nat.add_comm r.length 1, ← Nat.add_assoc]; exact hz)
/-- over the images of a list -/
theorem forL_map {α : Type} {pt : PT'} {h : α → D} (I : List α → List α → Env → Prop) : ∀ (done xs : List α) {env : Env}, I done xs env →
    (∀ done x rest env (K : Env → Prop), I done (x :: rest) env → (∀ z, I (done ++ [x]) rest z → K z) → pt (h x) env fun z => p1 ⟨K, rt, nx, K⟩ z) → (∀ done z, I done [] z → nx z) → forL (xs.map h) pt p1 env ⟨nx, rt, bk, ct⟩
  | done, [], env, h0, hs, he => he done env h0
  | done, x :: r, env, h0, hs, he => hs done x r env (fun z => forL (r.map h) pt p1 z ⟨nx, rt, bk, ct⟩) h0 fun z hz => forL_map I (done ++ [x]) r hz hs he
theorem pMap_gen {α : Type} {h : α → D} {f : D → List D → (List D → Prop) → Prop} (t : α → Bool) (g : α → D) {K : List D → Prop} : ∀ (xs : List α) (acc : List D), acc.length + xs.length ≤ 100000 →
    (∀ x ∈ xs, ∀ (acc : List D) (K : List D → Prop), acc.length < 100000 → (t x = true → K (acc ++ [g x])) → (t x = false → K acc) → f (h x) acc K) → K (acc ++ (xs.filter t).map g) → pMap (xs.map h) f acc K
  | [], acc, _, _, hk => by
    rw [List.filter_nil, List.map_nil, List.append_nil] at hk
    exact hk
  | x :: r, acc, hl, hs, hk => by
    rw [List.length_cons] at hl
    have ih : ∀ acc' : List D, acc'.length ≤ acc.length + 1 → K (acc' ++ (r.filter t).map g) → pMap (r.map h) f acc' K := fun acc' h1 h2 => pMap_gen t g r acc' (by omega) (fun y hy => hs y (List.mem_cons_of_mem _ hy)) h2
    refine hs x List.mem_cons_self acc _ (by omega) (fun e => ih _ (by simp) ?_) fun e => ih _ (by simp) ?_
    · rw [List.filter_cons, if_pos e, List.map_cons] at hk
      rw [List.append_assoc]
      exact hk
    · rw [List.filter_cons, if_neg (by rw [e]; exact Bool.false_ne_true)] at hk
      exact hk
/-- a comprehension without a test over the images of a list -/
theorem pMap_map {α : Type} {h : α → D} {f : D → List D → (List D → Prop) → Prop} (g : α → D) {K : List D → Prop} (xs : List α) (hl : xs.length ≤ 100000)
    (hs : ∀ x ∈ xs, ∀ (acc : List D) (K : List D → Prop), acc.length < 100000 → K (acc ++ [g x]) → f (h x) acc K) (hk : K (xs.map g)) : pMap (xs.map h) f [] K := by
  refine pMap_gen (fun _ => true) g xs [] (by simpa using hl) (fun x hx acc K h1 h2 _ => hs x hx acc K h1 (h2 rfl)) ?_
  rw [List.filter_eq_self.mpr (fun _ _ => rfl)]
  exact hk
theorem pMap_filter {α : Type} {h : α → D} {f : D → List D → (List D → Prop) → Prop} (t : α → Bool) (g : α → D) {K : List D → Prop} (xs : List α) (hl : xs.length ≤ 100000)
    (hs : ∀ x ∈ xs, ∀ (acc : List D) (K : List D → Prop), acc.length < 100000 → (t x = true → K (acc ++ [g x])) → (t x = false → K acc) → f (h x) acc K) (hk : K ((xs.filter t).map g)) : pMap (xs.map h) f [] K :=
  pMap_gen t g xs [] (by simpa using hl) hs hk
theorem leafs_ints : ∀ ns : List Int, leafss (ns.map D.int) .sh = true
  | [] => rfl
  | n :: ns => by
    show (leafs (.int n) .sh && leafss (ns.map D.int) .sh) = true
    rw [leafs_ints ns]
    rfl
theorem leafs_lI (ns : List Int) : leafs (lI ns) (.el .sh) = true := leafs_ints ns
theorem leafs_tI (ns : List Int) : leafs (tI ns) (.el .sh) = true := leafs_ints ns
theorem enumD_map {α : Type} (f : α → D) (xs : List α) : enumD (xs.map f) = xs.zipIdx.map fun p => D.tup [.int (p.2 : Nat), f p.1] := by
  unfold enumD
  apply List.ext_getElem?
  intro i
  simp only [List.getElem?_mapIdx, List.getElem?_map, List.getElem?_zipIdx]
  cases xs[i]? with
  | none => rfl
  | some x => simp
theorem inS_ints (k : Int) : ∀ ns : List Int, inS (.int k) (ns.map D.int) = decide (k ∈ ns)
  | [] => rfl
  | n :: ns => by
    have ih := inS_ints k ns
    show (eqS (.int n) (.int k) || inS (.int k) (ns.map D.int)) = _
    rw [ih]
    have e : eqS (.int n) (.int k) = decide (n = k) := by
      by_cases h : n = k
      · subst h; simp [eqS]
      · simp [eqS, h]
    rw [e]
    by_cases h : n = k
    · subst h; simp
    · by_cases h2 : k ∈ ns
      · simp [h2]
      · have h3 : ¬k = n := fun z => h z.symm
        simp [h, h2, h3]
theorem flatS_ints : ∀ ns : List Int, (ns.map D.int).all flatS = true
  | [] => rfl
  | n :: ns => by
    rw [List.map_cons, List.all_cons, flatS_ints ns]
    rfl
theorem w_inT {k : Int} {ns : List Int} (h : Q (.bl (decide (k ∈ ns)))) : qIn false (.int k) (tI ns) Q := ⟨_, rfl, rfl, flatS_ints ns, by rw [if_neg Bool.false_ne_true, inS_ints]; exact h⟩
theorem w_inL {k : Int} {ns : List Int} (h : Q (.bl (decide (k ∈ ns)))) : qIn false (.int k) (lI ns) Q := ⟨_, rfl, rfl, flatS_ints ns, by rw [if_neg Bool.false_ne_true, inS_ints]; exact h⟩
theorem w_ninT {k : Int} {ns : List Int} (h : Q (.bl (!decide (k ∈ ns)))) : qIn true (.int k) (tI ns) Q := ⟨_, rfl, rfl, flatS_ints ns, by rw [if_pos rfl, inS_ints]; exact h⟩
theorem w_ninL {k : Int} {ns : List Int} (h : Q (.bl (!decide (k ∈ ns)))) : qIn true (.int k) (lI ns) Q := ⟨_, rfl, rfl, flatS_ints ns, by rw [if_pos rfl, inS_ints]; exact h⟩
theorem eqD_refl {n : Nat} {d : D} (h : eqOk n d = true) : eqD d d = true := PySem.SeqAt.eqv_refl _ (eqOk_lay d h).1
theorem eqOk_ints (n : Nat) : ∀ ns : List Int, eqOks n (ns.map D.int) = true
  | [] => by cases n <;> simp [eqOks]
  | x :: ns => by
    have ih := eqOk_ints n ns
    cases n <;> simp [eqOks, eqOk, ih]
theorem eqOk_lI (ns : List Int) : eqOk 64 (lI ns) = true := by
  show eqOk (63 + 1) (.lst _) = true
  simp only [eqOk]
  exact eqOk_ints 63 ns
theorem eqOk_prs (n : Nat) : ∀ ps : List (Int × Int), eqOks (n + 1) (ps.map prD) = true
  | [] => by simp [eqOks]
  | x :: ns => by
    have ih := eqOk_prs n ns
    simp only [List.map_cons, eqOks, ih, Bool.and_true]
    have := eqOk_ints n [x.1, x.2]
    simpa [eqOk] using this
theorem eqOk_lP (ps : List (Int × Int)) : eqOk 64 (lP ps) = true := by
  show eqOk (63 + 1) (.lst _) = true
  simp only [eqOk]
  exact eqOk_prs 62 ps
theorem w_eqSelf (h : eqOk 64 d = true) (q : Q (.bl true)) : qEq d d Q := ⟨h, h, by rw [eqD_refl h]; exact q⟩
theorem w_neSelf (h : eqOk 64 d = true) (q : Q (.bl false)) : qNe d d Q := ⟨h, h, by rw [eqD_refl h]; exact q⟩
theorem w_decJ {p : Prop} [Decidable p] (J : Env → Prop) (h1 : ∀ K : Env → Prop, (∀ z, J z → K z) → p → p1 ⟨K, rt, bk, ct⟩ env) (h2 : ∀ K : Env → Prop, (∀ z, J z → K z) → ¬p → p2 ⟨K, rt, bk, ct⟩ env) (hJ : ∀ z, J z → nx z) :
    (decide p = true → p1 ⟨nx, rt, bk, ct⟩ env) ∧ (decide p = false → p2 ⟨nx, rt, bk, ct⟩ env) := ⟨fun h => h1 nx hJ (of_decide_eq_true h), fun h => h2 nx hJ (of_decide_eq_false h)⟩
theorem cutL_map {α β : Type} (f : α → β) (xs : List α) (lo hi : Option Int) : cutL (xs.map f) lo hi = (cutL xs lo hi).map f := by
  unfold cutL
  rw [List.length_map, List.map_take, List.map_drop]
theorem cutL_take {α : Type} (xs : List α) (k : Nat) : cutL xs none (some (k : Int)) = xs.take k := by
  unfold cutL
  rw [HT.sIx_none, HT.sIx_nat, List.drop_zero, Nat.sub_zero]
  rcases Nat.le_total k xs.length with h | h
  · rw [Nat.min_eq_left h]
  · rw [Nat.min_eq_right h, List.take_of_length_le (Nat.le_refl _), List.take_of_length_le h]
theorem cutL_drop {α : Type} (xs : List α) (k : Nat) : cutL xs (some (k : Int)) none = xs.drop k := by
  unfold cutL
  rw [HT.sIx_none, HT.sIx_nat]
  rcases Nat.le_total k xs.length with h | h
  · rw [Nat.min_eq_left h, List.take_of_length_le (by simp)]
  · rw [Nat.min_eq_right h, List.drop_of_length_le (Nat.le_refl _), List.drop_of_length_le h]
    simp
/-! ### places -/
theorem atI_nat {α : Type} {xs : List α} {k : Int} {x : α} (h0 : 0 ≤ k) (e : xs[k.toNat]? = some x) : atI xs k = some x := by
  have h1 : k.toNat < xs.length := (List.getElem?_eq_some_iff.mp e).1
  unfold atI ixN
  rw [if_pos h0, if_pos (by omega)]
  exact e
theorem atI_last {α : Type} {xs : List α} {x : α} : atI (xs ++ [x]) (-1) = some x := by
  unfold atI ixN
  rw [if_neg (by decide), if_pos (by simp; omega)]
  show (xs ++ [x])[(-1 + ((xs ++ [x]).length : Int)).toNat]? = some x
  have e : (-1 + ((xs ++ [x]).length : Int)).toNat = xs.length := by simp; omega
  rw [e]
  simp
theorem ixN_last {n : Nat} (h : 0 < n) : ixN n (-1) = some (n - 1) := by
  unfold ixN
  rw [if_neg (by decide), if_pos (by omega)]
  congr 1
  omega
theorem atI_map {α β : Type} {xs : List α} {k : Int} (f : α → β) : atI (xs.map f) k = (atI xs k).map f := by
  unfold atI
  rw [List.length_map]
  cases ixN xs.length k with
  | none => rfl
  | some j => simp
end
end G

set_option Elab.async false
set_option linter.all false
set_option maxRecDepth 100000
set_option maxHeartbeats 4000000
/-! G15: tuples of ints that stand exactly; index, count; slices and + of tuples. -/
namespace G
open PySem PySem.Spec PyProof.Rows L2
/-! ### tuple(xs) of a list of ints: the object itself is known -/
section
variable {X : Cx}
def rTupX (K : PySem.W.Frag) : List V → Hp → VK → Prop := fun vs H Q => ∃ (p : Addr) (ns : List Int), vs = [.ref p] ∧ SqL K H p (ns.map V.int) ∧ ∀ (l : Addr) (o : Obj), H l = none → o.dict = none → Q (.ref l) (upd H l (.frz o (.tup (ns.map V.int))))
theorem cr_tupX : CallR X (.type "tuple") (rTupX X.K) := by
  intro pins s σ H xs us Q I r h
  obtain ⟨p, ns, rfl, hq, q⟩ := h
  rw [Vals.ref1 r]
  obtain ⟨its, r', pl, hz⟩ := I.list hq
  have hlen := r'.length
  refine call_tuple_list pl.isList (fun g kp => ?_) (by simp only [List.size_toArray] <;> omega)
  have I1 : Inv X pins σ H { s with heap := g } := I.kept (t' := s.toks) kp
  have I2 : Inv X pins σ (upd H g.objs.size (.frz { cls := .type "tuple", data := .seq its.toArray } (.tup (ns.map V.int)))) { s with heap := g.push { cls := .type "tuple", data := .seq its.toArray } } :=
    I1.laid (t' := s.toks) (fun b o e => Heap.get?_push_of_some _ e) (Nat.le_refl _) (show ObjOk X.prog X.w _ _ _ (.frz _ (.tup (ns.map V.int))) from ⟨Heap.get?_push_size _ rfl, hz, its, r', IsTup.new _ _⟩)
  exact ⟨.ref g.objs.size, _, I2, rfl, q _ _ (I1.hok.fresh (Nat.le_refl _)) rfl⟩
/-! ### t.index(k) of such -/
def rTix (K : PySem.W.Frag) : V → List V → Hp → VK → Prop := fun x xs H Q => ∃ (p : Addr) (ns : List Int) (k : Int), x = .ref p ∧ xs = [.int k] ∧ SqT K H p (ns.map V.int) ∧ k ∈ ns ∧ Q (.int (ns.idxOf k : Nat)) H
theorem mt_tix : MtR X "tuple.index" (rTix X.K) := by
  intro pins s σ H x xs v us Q I rx rxs h
  obtain ⟨p, ns, k, rfl, rfl, hs, hk, q⟩ := h
  cases rx
  obtain ⟨u, rfl, ru⟩ := rxs.one
  obtain ⟨t, rfl⟩ := ru
  obtain ⟨its, rv, pt, hz⟩ := I.tuple hs
  have hi := ints_of_vals rv
  have hl := IntsAre.length hi
  refine PySem.SeqAt.call_tuple_index (ks := ns) (k := k) (vs := its) pt ⟨hl, fun j h1 h2 => ?_⟩ hk ⟨.int (ns.idxOf k : Nat), H, I.tok _, ⟨_, rfl⟩, q⟩
  obtain ⟨tj, e⟩ := hi.get j _ (List.getElem?_eq_getElem h2)
  have e1 : its[j] = .int ns[j] tj := by
    rw [List.getElem?_eq_getElem h1] at e
    exact Option.some.inj e
  rw [e1]
  have z := (MeetsSeq.EqGives.int ns[j] k tj t).at X.A.in1 s
  have e2 : (ns[j] == k) = decide (ns[j] = k) := by
    by_cases c : ns[j] = k
    · simp [c]
    · simp [c]
  rw [← e2]
  exact z
end

section
variable {Ex : Xn → Env → Prop} {Z : GX Ex} {ms : List SM} {a b c e : Expr} {es : List Expr} {ta tb te : TE} {ra rb rc r : RM} {pa pb pc p : PX} {ps : PXs} {pos : Pos} {m : M}
def pTupX (pa : PX) : PX := fun env Q => pa env fun d => ∃ ns, intsL d = some ns ∧ Q (.tpi ns)
theorem ge_tupX {x : Str} {p2 : Pos} (hm : Z.mg x = none) (hv : bootBuiltins x = some (.type "tuple")) (ha : GE Z ms a r p) (hg : ∀ i, Gl (Z.X i) x := by intro i; rfl) (hn : x ≠ "__name__" := by decide) (hdb : (x == ("__debug__" : Str)) = false := by decide)
    (he : ∀ i, starEach [a] (Z.X i).env = (false, eval a (Z.X i).env) :: starEach [] (Z.X i).env := by intro i; rfl) (hpl : ∀ i, (backTo pos (starEach [] (Z.X i).env)).any (·.1) = false := by intro i; rfl) :
    GE Z ms (.Call (.Name x p2) [a] [] pos) (.ow .sh) (pTupX p) := by
  obtain ⟨t, h1, h2⟩ := ha
  refine ⟨_, fun i => pe_callTy (show CallR (Z.X i) (.type "tuple") (rTupX Z.K) from by rw [← Z.hK i]; exact cr_tupX) (hg i) (by rw [Z.hmg]; exact hm) hv (pa_cons (h1 i) pa_nil (hs := he i)) hn hdb (he i) (hpl i), fun F H env σ A Q k h p hk hx => ?_⟩
  refine h2 F H env σ A _ _ h p (fun F1 H1 d v g1 r1 q1 => ?_) hx
  obtain ⟨ns, en, q1⟩ := q1
  obtain ⟨q, rfl, hs⟩ := intsL_rep (r1.view g1.sub) en
  refine ⟨q, ns, rfl, hs, fun l o hl ho => ?_⟩
  have g2 := Grow.newF g1.sub hl (o := .frz o (.tup (ns.map V.int)))
  exact hk _ _ (.tpi ns) (.ref l) (g1.trans g2) ⟨[], RepM.sh.mpr ⟨rfl, l, o, rfl, upd_same, ho⟩, List.nodup_nil, fun _ z => by cases z⟩ q1
/-- such a tuple walked -/
def iTpx (pa : PX) : PI' := fun env Q => pa env fun x => ∃ ns, x = .tpi ns ∧ Q (ns.map .int)
theorem itx_ok {K : PySem.W.Frag} {F : Hp} {p : Addr} {o : Obj} {ns : List Int} (e : F p = some (.frz o (.tup (ns.map V.int)))) : ItOk K (Itt K p) F (ns.map .int) := fun F1 H1 s s1 i => by
  have e1 : SqT K H1 p (ns.map V.int) := .inl (.inr ⟨o, s1.frz (s.frz e)⟩)
  have r : Reps K F (ns.map D.int) (ns.map V.int) := Reps.ints.mpr rfl
  refine ⟨fun d hd => ?_, fun hl => ⟨_, e1, by rw [r.length]; exact hl⟩⟩
  obtain ⟨v, hv, rv⟩ := r.get hd
  refine ⟨⟨_, v, e1, hv⟩, fun x H2 y => ?_⟩
  obtain ⟨rfl, y⟩ := y
  have ex : x = v := Option.some.inj ((y _ e1).symm.trans hv)
  subst ex
  exact ⟨F1, Grow.refl s1, rv.sub s⟩
theorem gi_tpx {tg : Expr} (ha : GE Z ms a ra pa) (hp : ra.per = true := by rfl) (hf : ∀ i x, foldedSetIterable a (Z.X i).env x = pure x := by intro i x; rfl) : GI Z ms tg a (iTpx pa) := by
  obtain ⟨ta, h1, h2⟩ := ha
  refine ⟨iTup Z.K ta, fun i => by rw [← Z.hK i]; exact pi_tup (h1 i), hf, fun F H env σ A Q R h q hk hx => h2 F H env σ A _ _ h q (fun F0 H1 d v g0 r1 q1 => ?_) hx⟩
  obtain ⟨F1, g1, _, r1, _⟩ := r1.share hp g0
  obtain ⟨ns, rfl, q1⟩ := q1
  obtain ⟨q, o, rfl, e, _⟩ := r1
  exact ⟨q, rfl, ⟨_, .inl (.inr ⟨o, g1.sub.frz e⟩)⟩, hk F1 H1 _ _ g1 (itx_ok e) q1⟩
/-! ### slices and + of tuples -/
def tupI : D → Option (List D)
  | .tup ds => some ds
  | .tpi ns => some (ns.map .int)
  | _ => none
theorem tupI_rep {K : PySem.W.Frag} {F : Hp} {d : D} {v : V} {ds : List D} (h : Rep K F d v) (e : tupI d = some ds) : ∃ p vs, v = .ref p ∧ SqT K F p vs ∧ Reps K F ds vs := by
  cases d <;> first
    | (cases e; done)
    | (cases e; obtain ⟨p, vs, e1, q, r⟩ := h; exact ⟨p, vs, e1, SqT.of q, r⟩)
    | (cases e; obtain ⟨p, o, e1, q, _⟩ := h; exact ⟨p, _, e1, .inl (.inr ⟨o, q⟩), Reps.ints.mpr rfl⟩)
/-- the whole of it is the tuple itself -/
def qSlT (x : D) (lo hi : Option Int) (Q : D → Prop) : Prop := ∃ ds, tupI x = some ds ∧ (HT.sIx ds.length 0 lo = 0 ∧ HT.sIx ds.length ds.length hi = ds.length → Q x) ∧ (¬ (HT.sIx ds.length 0 lo = 0 ∧ HT.sIx ds.length ds.length hi = ds.length) → Q (.tup (cutL ds lo hi)))
def pSlT (pa : PX) (pl ph : PP) : PX := fun env Q => pa env fun x => pl env fun l => ph env fun u => qSlT x l u Q
theorem ge_slT {lo hi : Option Expr} {pl ph : PP} {p2 : Pos} (ha : GE Z ms a ra pa) (hl : GP Z ms lo pl) (hu : GP Z ms hi ph) (hp : ra.per = true := by rfl) : GE Z ms (.Subscript a (.Slice lo hi none p2) pos) (.ow .sh) (pSlT pa pl ph) := by
  obtain ⟨ta, h1, h2⟩ := ha
  obtain ⟨tl, h3, h4⟩ := hl
  obtain ⟨th, h5, h6⟩ := hu
  refine ⟨tSl (rSlA Z.K) ta tl th, fun i => by rw [← Z.hK i]; exact pe_slice sl_tupA (h1 i) (h3 i) (h5 i), fun F H env σ A Q k h q hk hx => ?_⟩
  refine h2 F H env σ A _ _ h q (fun F0 H1 d v g0 r1 q1 => ?_) hx
  obtain ⟨F1, g1, _, r1, _⟩ := r1.share hp g0
  refine h4 F1 H1 env σ A _ _ (h.grow g1) q1 (fun F2 H2 l g2 q2 => ?_) (fun F' H' x c dx g y z => hx F' H' x c dx (g1.trans g) (y.back g1.same) z)
  refine h6 F2 H2 env σ A _ _ (h.grow (g1.trans g2)) q2 (fun F3 H3 u g3 q3 => ?_) (fun F' H' x c dx g y z => hx F' H' x c dx ((g1.trans g2).trans g) (y.back (g1.trans g2).same) z)
  obtain ⟨ds, ed, q3, q4⟩ := q3
  have g := (g1.trans g2).trans g3
  have r3 := r1.sub ((g2.trans g3).subF g1.sub)
  obtain ⟨q, vs, rfl, e, rs⟩ := tupI_rep r3 ed
  have hlen := rs.length
  refine ⟨q, vs, rfl, g.sub.tup e, fun hw => ?_, fun hw z hz => ?_⟩
  · rw [hlen] at hw
    exact hk F3 H3 d (.ref q) g ⟨[], RepM.sh.mpr ⟨rfl, r3⟩, List.nodup_nil, fun _ z => by cases z⟩ (q3 hw)
  · rw [hlen] at hw
    have g4 := Grow.newF g.sub hz (o := .tup (cutV vs l u))
    refine hk _ _ (.tup (cutL ds l u)) (.ref z) (g.trans g4) ⟨[], RepM.sh.mpr ⟨rfl, z, _, rfl, upd_same, reps_cut ?_ l u⟩, List.nodup_nil, fun _ z => by cases z⟩ (q4 hw)
    exact rs.sub (g4.subF g.sub)
def qCatT : D → D → (D → Prop) → Prop := fun x y Q => ∃ ds es, tupI x = some ds ∧ tupI y = some es ∧ ds.length + es.length ≤ 100000 ∧ (ds = [] → Q y) ∧ (ds ≠ [] → es = [] → Q x) ∧ (ds ≠ [] → es ≠ [] → Q (.tup (ds ++ es)))
theorem ge_catT (ha : GE Z ms a ra pa) (hb : GE Z ms b rb pb) (h1 : ra.per = true := by rfl) (h2 : rb.per = true := by rfl) : GE Z ms (.BinOp a .Add b pos) (.ow .sh) (pBin qCatT pa pb) := by
  obtain ⟨ta, h3, h4⟩ := ha
  obtain ⟨tb, h5, h6⟩ := hb
  refine ⟨_, fun i => pe_op (show OpR (Z.X i) (binaryOp .Add) (rCatA Z.K) from by rw [← Z.hK i]; exact op_catA) (h3 i) (h5 i), ?_⟩
  intro F H env σ A Q k h p hk hx
  refine se_twoS h4 h6 h1 h2 h p hx fun F1 H1 d e v u g r1 r2 z => ?_
  obtain ⟨ds, es, e1, e2, hl, q0, q1, q2⟩ := z
  obtain ⟨p, vs, rfl, s1, rs1⟩ := tupI_rep r1 e1
  obtain ⟨q, us, rfl, s2, rs2⟩ := tupI_rep r2 e2
  have l1 := rs1.length
  have l2 := rs2.length
  have n1 : vs = [] ↔ ds = [] := by rw [← List.length_eq_zero_iff, ← List.length_eq_zero_iff, l1]
  have n2 : us = [] ↔ es = [] := by rw [← List.length_eq_zero_iff, ← List.length_eq_zero_iff, l2]
  refine ⟨p, q, vs, us, rfl, rfl, g.sub.tup s1, g.sub.tup s2, by rw [l1, l2]; exact sz5 hl, fun c => ?_, fun c c2 => ?_, fun c c2 z hz => ?_⟩
  · exact hk F1 H1 e (.ref q) g ⟨[], RepM.sh.mpr ⟨rfl, r2⟩, List.nodup_nil, fun _ z => by cases z⟩ (q0 (n1.mp c))
  · exact hk F1 H1 d (.ref p) g ⟨[], RepM.sh.mpr ⟨rfl, r1⟩, List.nodup_nil, fun _ z => by cases z⟩ (q1 (fun z => c (n1.mpr z)) (n2.mp c2))
  · have g4 := Grow.newF g.sub hz (o := .tup (vs ++ us))
    refine hk _ _ (.tup (ds ++ es)) (.ref z) (g.trans g4) ⟨[], RepM.sh.mpr ⟨rfl, z, _, rfl, upd_same, (rs1.append rs2).sub (g4.subF g.sub)⟩, List.nodup_nil, fun _ z => by cases z⟩ (q2 (fun z => c (n1.mpr z)) (fun z => c2 (n2.mpr z)))
/-! ### t.index(k), xs.index(y), xs.count(k) -/
def pTix (po pa : PX) : PX := fun env Q => po env fun o => ∃ ns, o = .tpi ns ∧ pa env fun x => ∃ k, x = .int k ∧ k ∈ ns ∧ Q (.int (ns.idxOf k : Nat))
def tTix (K : PySem.W.Frag) (to : TE) (t : TA) : TE := fun σ H Q => to σ H fun x H1 => (∃ (p : Addr) (o : Obj) (vs : List V), x = .ref p ∧ H1 p = some (.frz o (.tup vs)) ∧ o.dict = none) ∧ t σ H1 fun xs H2 => rTix K x xs H2 Q
theorem pe_tix {X : Cx} {o : Expr} {to : TE} {t : TA} {apos cpos : Pos} (ho : PE X o to) (ha : PA X (e :: es) t) (hbase : attributeBase o "index" X.env (eval o X.env) = eval o X.env)
    (hfew : ((backTo cpos (starEach (e :: es) X.env)).all (fun x => !x.1) && (backToKw cpos (keywordEach [] X.env)).all (fun x => x.1.isSome)
      && decide ((e :: es).length + ([] : List Keyword).length + (if ([] : List Keyword).isEmpty then 0 else 1) < 30)) = true)
    (hline : (apos.endLine == cpos.line) = true) (hs : starEach (e :: es) X.env = (false, eval e X.env) :: starEach es X.env) (hplain : (backTo cpos (starEach es X.env)).any (·.1) = false) :
    PE X (.Call (.Attribute o "index" apos) (e :: es) [] cpos) (tTix X.K to t) := by
  refine ⟨fun pins s σ H Q I h => ?_⟩
  refine wpAny_Call_method_late hbase hfew hline rfl (thn (ho.run pins s σ H _ I h) fun v s1 ⟨x, H1, I1, r1, ty, q1⟩ => ?_)
  obtain ⟨p, ob, vs, rfl, hp, hd⟩ := ty
  cases r1
  obtain ⟨h1, _, its, _, o2, e2, c2, _⟩ := I1.hok p _ hp
  rw [h1] at e2
  cases e2
  refine ⟨"tuple", "tuple.index", F.plainAttrs_tuple, F.slot_tuple_index, F.type_tuple_index, ⟨_, h1, c2⟩, fun a ea => ?_, ?_⟩
  · cases ea
    exact ⟨_, h1, hd⟩
  · have hA := ha.run cpos pins s1 σ H1 _ I1 q1
    rw [hs] at hA ⊢
    refine Calls.callWith_builtin (by show (false || (backTo cpos (starEach es X.env)).any (·.1)) = false; rw [hplain]; rfl) (Calls.evalArgs_plain ?_)
    exact thn hA fun us s2 ⟨ws, H2, I2, r2, q2⟩ => mt_tix pins s2 σ H2 (.ref p) ws (.ref p) us Q I2 rfl r2 q2
theorem ge_tix {o : Expr} {apos cpos : Pos} {ro : RM} {po : PX} (ho : GE Z ms o ro po) (ha : GE Z ms a ra pa) (hbase : ∀ j, attributeBase o "index" (Z.X j).env (eval o (Z.X j).env) = eval o (Z.X j).env := by intro j; rfl)
    (hfew : ∀ j, ((backTo cpos (starEach (a :: []) (Z.X j).env)).all (fun x => !x.1) && (backToKw cpos (keywordEach [] (Z.X j).env)).all (fun x => x.1.isSome)
      && decide ((a :: []).length + ([] : List Keyword).length + (if ([] : List Keyword).isEmpty then 0 else 1) < 30)) = true := by intro j; rfl)
    (hline : (apos.endLine == cpos.line) = true := by rfl) (hst : ∀ j, starEach (a :: []) (Z.X j).env = (false, eval a (Z.X j).env) :: starEach [] (Z.X j).env := by intro j; rfl) (hpl : ∀ j, (backTo cpos (starEach [] (Z.X j).env)).any (·.1) = false := by intro j; rfl) :
    GE Z ms (.Call (.Attribute o "index" apos) [a] [] cpos) (.ow .sh) (pTix po pa) := by
  obtain ⟨to, h1, h2⟩ := ho
  obtain ⟨t, h3, h4⟩ := ha
  refine ⟨tTix Z.K to (tCons t tNil), fun i => by rw [← Z.hK i]; exact pe_tix (h1 i) (pa_cons (h3 i) pa_nil (hs := hst i)) (hbase i) (hfew i) hline (hst i) (hpl i), fun F H env σ A Q k h p hk hx => ?_⟩
  refine h2 F H env σ A _ _ h p (fun F1 H1 d v g1 r1 q1 => ?_) hx
  obtain ⟨ns, rfl, q1⟩ := q1
  obtain ⟨p, ob, rfl, hp, hd⟩ := r1.view g1.sub
  refine ⟨⟨p, ob, _, rfl, hp, hd⟩, ?_⟩
  refine h4 F1 H1 env σ A _ _ (h.grow g1) q1 (fun F2 H2 d2 v2 g2 r2 q2 => ?_) (fun F' H' x c dx g y z => hx F' H' x c dx (g1.trans g) (y.back g1.same) z)
  obtain ⟨n, rfl, hn, q2⟩ := q2
  have ev : v2 = .int n := r2.view g2.sub
  subst ev
  exact ⟨p, ns, n, rfl, rfl, .inl (.inr ⟨ob, g2.same p _ hp⟩), hn, hk F2 H2 (.int (ns.idxOf n : Nat)) _ (g1.trans g2) ⟨[], RepM.sh.mpr ⟨rfl, rfl⟩, List.nodup_nil, fun _ z => by cases z⟩ q2⟩
end
/-! ### steps -/
section
variable {env : Env} {Q : D → Prop} {pa pb : PX} {d : D}
theorem w_tupX (h : pa env fun d => ∃ ns, intsL d = some ns ∧ Q (.tpi ns)) : pTupX pa env Q := h
theorem w_exX {ns : List Int} {R : List Int → Prop} (h : R ns) : ∃ c, intsL (lI ns) = some c ∧ R c := ⟨ns, ints_map ns, h⟩
theorem w_iTpx {Qs : List D → Prop} (h : pa env fun x => ∃ ns, x = .tpi ns ∧ Qs (ns.map .int)) : iTpx pa env Qs := h
theorem w_exx {ns : List Int} {R : List Int → Prop} (h : R ns) : ∃ c, D.tpi ns = .tpi c ∧ R c := ⟨ns, rfl, h⟩
theorem w_tix (h : pa env fun o => ∃ ns, o = .tpi ns ∧ pb env fun x => ∃ k, x = .int k ∧ k ∈ ns ∧ Q (.int (ns.idxOf k : Nat))) : pTix pa pb env Q := h
theorem w_slT {pl ph : PP} (h : pa env fun x => pl env fun l => ph env fun u => qSlT x l u Q) : pSlT pa pl ph env Q := h
theorem w_lenX {ns : List Int} (h : Q (.int ns.length)) : qLen [.tpi ns] Q := ⟨_, rfl, _, rfl, h⟩
theorem w_inX {k : Int} {ns : List Int} (h : Q (.bl (decide (k ∈ ns)))) : qIn false (.int k) (.tpi ns) Q := ⟨_, rfl, rfl, flatS_ints ns, by rw [if_neg Bool.false_ne_true, inS_ints]; exact h⟩
theorem w_ninX {k : Int} {ns : List Int} (h : Q (.bl (!decide (k ∈ ns)))) : qIn true (.int k) (.tpi ns) Q := ⟨_, rfl, rfl, flatS_ints ns, by rw [if_pos rfl, inS_ints]; exact h⟩
end
section
variable {env : Env} {Q : D → Prop} {nx bk ct : Env → Prop} {rt : D → Env → Prop} {p1 : PS'} {pc : PB}
theorem w_while (W : Nat → Env → Prop) (n : Nat) (h0 : W n env) (hs : ∀ n env, W n env → pc env fun b => (b = true → p1 ⟨fun z => ∃ m, m < n ∧ W m z, rt, nx, fun z => ∃ m, m < n ∧ W m z⟩ env) ∧ (b = false → nx env)) : sWhile pc p1 ⟨nx, rt, bk, ct⟩ env := ⟨W, ⟨n, h0⟩, hs⟩
theorem tupI_items {z : D} {ds : List D} (e : tupI z = some ds) : itemsD z = some ds := by
  cases z <;> first
    | (cases e; done)
    | exact e
theorem w_lenY {z : D} {ds : List D} (e : tupI z = some ds) (h : Q (.int ds.length)) : qLen [z] Q := by
  refine ⟨z, rfl, ds.length, ?_, h⟩
  cases z with
  | tup xs => cases e; rfl
  | tpi ns => cases e; simp [lenD]
  | _ => cases e
theorem w_slTQ {x : D} {ds : List D} {lo hi : Option Int} (e : tupI x = some ds) (h : ∀ y, tupI y = some (cutL ds lo hi) → Q y) : qSlT x lo hi Q := by
  refine ⟨ds, e, fun hw => h x ?_, fun _ => h _ rfl⟩
  unfold cutL
  rw [hw.1, hw.2, List.drop_zero, Nat.sub_zero, List.take_length]
  exact e
theorem w_catTQ {x y : D} {ds es : List D} (e1 : tupI x = some ds) (e2 : tupI y = some es) (hl : ds.length + es.length ≤ 100000) (h : ∀ z, tupI z = some (ds ++ es) → Q z) : qCatT x y Q :=
  ⟨ds, es, e1, e2, hl, fun c => h y (by rw [e2, c]; rfl), fun _ c => h x (by rw [e1, c, List.append_nil]), fun _ _ => h _ rfl⟩
/-- the way out of a loop, shown once -/
theorem w_exit {A B : Prop} (X : Prop) (h : ∀ B' : Prop, (X → B') → pc env fun b => (b = true → A) ∧ (b = false → B')) (hX : X → B) : pc env fun b => (b = true → A) ∧ (b = false → B) := h B hX
end
end G

set_option Elab.async false
set_option linter.all false
set_option maxRecDepth 100000
set_option maxHeartbeats 4000000
/-! G16: min(xs, default=None). -/
namespace G
open PySem PySem.Spec PyProof.Rows L2
section
variable {prog : Program} {w : World} {A : Around} {E : Value → Shared → Prop} {R : Result → Shared → Prop} {I : Addr} {fp wr : List Addr} {g : Array GenState → Array GenState → Prop} {n : Nat} {P : Nat → Value → Prop} {St : Nat → Shared → Prop} {kw : List (Str × Value)}
theorem minD_loop (W : WalksS prog w A.in1 I fp wr g n P St) (bt : Nat → Nat → Bool) (hc : CmpOf prog w A.in1 .Lt P bt) (S : Addr) (hS0 : S ∉ fp) : ∀ (k j : Nat) (s : Shared) (vb : Value) (c : Nat), n - (j + 1) = k → j + 1 ≤ n → St (j + 1) s → P (argBest bt j) vb →
    s.heap.get? S = some { cls := .type "list", dict := none, data := .seq #[vb, vb] c, slots := #[] } → (∀ v t, P (argBest bt (n - 1)) v → Moved (S :: wr) g s t → R (.ok (.ret v)) t) → codeAny (model prog w) A (.builtin "min.loop" ⟨[.ref I, .none, .ref S], kw⟩) R s := by
  have out : S ∉ wr := fun z => hS0 (W.sub _ z)
  have inn : ∀ b ∈ wr, b ∈ S :: wr := fun b z => List.mem_cons_of_mem _ z
  have nm : (toString "min" ++ toString ".loop" : String) = "min.loop" := by decide
  have ns : ∀ {b : Addr}, b ∉ S :: wr → S ≠ b := fun z e => z (by rw [e]; exact List.mem_cons_self)
  intro k
  induction k with
  | zero =>
    intro j s vb c hk hj st pb hS hR
    have en : j + 1 = n := by omega
    refine codeAny_builtin F.entry_min_loop ?_; rw [Around.under_plainId F.plain_min_loop _]
    show wpAny _ A.in1 (seqItems? (.ref S) >>= _) _ _ s; refine wpAny_bind (wpAny_seqItems hS rfl ?_)
    show wpAny _ A.in1 (tryCatch (pyNext (.ref I)) _ >>= _) _ _ s; refine wpAny_bind (wpAny_tryCatch (W.done s _ _ (en ▸ st) fun t mv => ?_))
    have hS2 := mv.heap S _ out hS
    show wpAny _ A.in1 (updateSeq S (fun _ => #[]) >>= _) _ _ _; refine wpAny_bind ?_
    refine wpAny_updateSeq hS2 rfl (wpAny_bind (wpAny_letGo (wpAny_pure ?_)))
    exact hR vb _ (by rw [← en]; exact pb) ((mv.mono inn).then_heap (tk := t.toks) (Nat.le_refl _) fun b o hb e => (Heap.get?_update_other _ _ (ns hb)).trans e)
  | succ k ih =>
    intro j s vb c hk hj st pb hS hR
    have lt : j + 1 < n := by omega
    refine codeAny_builtin F.entry_min_loop ?_; rw [Around.under_plainId F.plain_min_loop _]
    show wpAny _ A.in1 (seqItems? (.ref S) >>= _) _ _ s; refine wpAny_bind (wpAny_seqItems hS rfl ?_)
    show wpAny _ A.in1 (tryCatch (pyNext (.ref I)) _ >>= _) _ _ s; refine wpAny_bind (wpAny_tryCatch (W.item (j + 1) s _ _ lt st fun v t pv st2 mv => ?_))
    have hS2 := mv.heap S _ out hS
    show wpAny _ A.in1 (tryCatch (holding [v, v] (richCompare .Lt v vb >>= _)) _ >>= _) _ _ _; refine wpAny_bind (wpAny_tryCatch (wpAny_holding (wpAny_bind (hc (j + 1) (argBest bt j) v vb _ _ _ pv pb ?_))))
    refine wpAny_bind (wpAny_holding (wpAny_truthy_bool ?_)); refine wpAny_bind (wpAny_letGo (wpAny_pure ?_))
    cases hb : bt (j + 1) (argBest bt j) with
    | true =>
      simp only [if_true]; refine wpAny_bind ?_
      refine wpAny_updateSeq hS2 rfl (wpAny_bind (wpAny_letGo ?_)); rw [nm]
      refine wpAny_pure ⟨plainId_quiet F.plain_min_loop _, ih (j + 1) _ v _ (by omega) lt (W.frame _ t _ t.toks st2 (Nat.le_refl _) fun b hf o e => ?_) (by simp only [argBest, hb, if_true]; exact pv) (Heap.get?_update_self _ hS2 rfl) fun v2 t2 pv2 mv2 => ?_⟩
      · exact (Heap.get?_update_other _ _ (fun z : S = b => hS0 (by rw [z]; exact hf))).trans e
      · exact hR v2 t2 pv2 (Moved.trans W.gtrans ((mv.mono inn).then_heap (by first | exact Nat.le_refl _ | exact Nat.le_succ _ | omega) fun b o hb e => (Heap.get?_update_other _ _ (ns hb)).trans e) mv2)
    | false =>
      simp only [Bool.false_eq_true, if_false]; refine wpAny_bind (wpAny_letGo ?_)
      rw [nm]
      refine wpAny_pure ⟨plainId_quiet F.plain_min_loop _, ih (j + 1) _ vb c (by omega) lt st2 (by simp only [argBest, hb, Bool.false_eq_true, if_false]; exact pb) hS2 fun v2 t2 pv2 mv2 => ?_⟩
      exact hR v2 t2 pv2 (Moved.trans W.gtrans (mv.mono inn) mv2)
theorem minD_first (W : WalksS prog w A.in1 I fp wr g n P St) (bt : Nat → Nat → Bool) (hc : CmpOf prog w A.in1 .Lt P bt) (S : Addr) (hS0 : S ∉ fp) {s : Shared} {c : Nat} {x : Str} {u : Value} (st : St 0 s)
    (hS : s.heap.get? S = some { cls := .type "list", dict := none, data := .seq #[] c, slots := #[] }) (hR : 0 < n → ∀ v t, P (argBest bt (n - 1)) v → Moved (S :: wr) g s t → R (.ok (.ret v)) t) (hR0 : n = 0 → ∀ t, Moved (S :: wr) g s t → R (.ok (.ret u)) t) :
    codeAny (model prog w) A (.builtin "min.loop" ⟨[.ref I, .none, .ref S], [(x, u)]⟩) R s := by
  have out : S ∉ wr := fun z => hS0 (W.sub _ z)
  have inn : ∀ b ∈ wr, b ∈ S :: wr := fun b z => List.mem_cons_of_mem _ z
  have nm : (toString "min" ++ toString ".loop" : String) = "min.loop" := by decide
  have ns : ∀ {b : Addr}, b ∉ S :: wr → S ≠ b := fun z e => z (by rw [e]; exact List.mem_cons_self)
  refine codeAny_builtin F.entry_min_loop ?_; rw [Around.under_plainId F.plain_min_loop _]
  show wpAny _ A.in1 (seqItems? (.ref S) >>= _) _ _ s; refine wpAny_bind (wpAny_seqItems hS rfl ?_)
  show wpAny _ A.in1 (tryCatch (pyNext (.ref I)) _ >>= _) _ _ s
  rcases Nat.eq_zero_or_pos n with e | e
  · refine wpAny_bind (wpAny_tryCatch (W.done s _ _ (e ▸ st) fun t mv => ?_))
    show wpAny _ A.in1 (rule _ >>= fun _ => ret u) _ _ _
    refine wpAny_bind (wpAny_rule (wpAny_pure ?_))
    exact hR0 e _ (mv.mono inn)
  · refine wpAny_bind (wpAny_tryCatch (W.item 0 s _ _ e st fun v t pv st2 mv => ?_))
    have hS2 := mv.heap S _ out hS
    show wpAny _ A.in1 (updateSeq S (fun _ => #[v, v]) >>= _) _ _ _; refine wpAny_bind ?_
    refine wpAny_updateSeq hS2 rfl ?_; rw [nm]
    refine wpAny_pure ⟨plainId_quiet F.plain_min_loop _, minD_loop W bt hc S hS0 _ 0 _ v _ rfl e (W.frame _ t _ t.toks st2 (Nat.le_refl _) fun b hf o e => ?_) pv (Heap.get?_update_self _ hS2 rfl) fun v2 t2 pv2 mv2 => ?_⟩
    · exact (Heap.get?_update_other _ _ (fun z : S = b => hS0 (by rw [z]; exact hf))).trans e
    · exact hR e v2 t2 pv2 (Moved.trans W.gtrans ((mv.mono inn).then_heap (by first | exact Nat.le_refl _ | exact Nat.le_succ _ | omega) fun b o hb e => (Heap.get?_update_other _ _ (ns hb)).trans e) mv2)
open PySem.Calls in
theorem call_tree_kw {id : String} {b : Builtin} {args : List Value} {kv : List (Str × Value)} {Q : Value → Shared → Prop} {s : Shared} (hk : builtinKind id = none) (hp : plainId id = true) (hb : entryFor table id = some b) (ha : argsOk id ⟨args, kv⟩)
    (hc : wpAny (model prog w) A.in1 (b ⟨args, kv⟩) (fun fin t => match fin with
      | .done f => (match (Except.ok f : Result) with | .ok (.ret v) => Q v t | .ok _ => False | .error e => E e t)
      | .again c => c.quiet = true ∧ codeAny (model prog w) A c (fun r t => match r with | .ok (.ret v) => Q v t | .ok _ => False | .error e => E e t) t) E s) :
    wpAny (model prog w) A (call (.builtin id) args kv) Q E s := by
  refine wpAny_call (codeAny_call_builtin hp hb ?_)
  simp only [checkBuiltinCall, hk]
  cases hs : Manifest.signature? id with
  | none => exact wpAny_pure hc
  | some sg =>
    simp only [argsOk, hs] at ha
    have h2 : Bind.checkArgs id sg ⟨args, kv⟩ = pure () := ha
    show wpAny _ A.in1 (Bind.checkArgs id sg ⟨args, kv⟩) _ _ s
    rw [h2]
    exact wpAny_pure hc
theorem args_minD (a u : Value) : argsOk "min" ⟨[a], [(Str.ofString "default", u)]⟩ := by unfold argsOk; kernel_rfl
theorem minD_call {x u : Value} {Q : Value → Shared → Prop} {s : Shared}
    (h : wpAny (model prog w) A.in1 (pyIter x) (fun it t => ∃ I fp wr g n P St bt, it = .ref I ∧ WalksS prog w A.in1 I fp wr g n P St ∧ St 0 t ∧ (∀ b ∈ fp, b < t.heap.objs.size) ∧ CmpOf prog w A.in1 .Lt P bt ∧
      (0 < n → ∀ v t2, P (argBest bt (n - 1)) v → Moved wr g t t2 → Q v t2) ∧ (n = 0 → ∀ t2, Moved wr g t t2 → Q u t2)) E s) :
    wpAny (model prog w) A (call (.builtin "min") [x] [(Str.ofString "default", u)]) Q E s := by
  have nm : (toString "min" ++ toString ".loop" : String) = "min.loop" := by decide
  refine call_tree_kw F.kind_min F.plain_min F.entry_min (args_minD _ _) ?_
  show wpAny _ A.in1 (Builtin.Builtins.bindParams "min" ["key", "default"] 0 ⟨[], [(Str.ofString "default", u)]⟩ >>= _) _ _ s
  refine wpAny_bind (wpAny_of_eq (show Builtin.Builtins.bindParams "min" ["key", "default"] 0 ⟨[], [(Str.ofString "default", u)]⟩ = pure [none, some u] from by first | rfl | kernel_rfl) ?_)
  refine wpAny_bind (wpAny_pure ?_)
  refine wpAny_bind (wpAny_mono h (fun it t ht => ?_) fun _ _ e => e)
  obtain ⟨I, fp, wr, g, n, P, St, bt, rfl, W, st, hfp, hc, h1, h0⟩ := ht
  refine wpAny_bind (wpAny_newObj_type ?_)
  have hS : t.heap.objs.size ∉ fp := fun z => Nat.lt_irrefl _ (hfp _ z)
  rw [nm]
  refine wpAny_pure ⟨plainId_quiet F.plain_min_loop _, minD_first W bt hc t.heap.objs.size hS (W.frame 0 t _ t.toks st (Nat.le_refl _) fun b _ o e => Heap.get?_push_of_some _ e) (Heap.get?_push_size _ rfl) (fun hn v t2 pv mv => ?_) fun hn t2 mv => ?_⟩
  · exact h1 hn v t2 pv (Moved.drop_new (tk := t.toks) mv (Nat.le_refl _))
  · exact h0 hn t2 (Moved.drop_new (tk := t.toks) mv (Nat.le_refl _))
theorem minD_ints {l : Addr} {its : List Value} {ns : List Int} {u : Value} {Q : Value → Shared → Prop} {s : Shared} (hh : A.handled = none) (hl : s.heap.IsList l its.toArray) (hi : IntsAre its ns)
    (h1 : 0 < ns.length → ∀ (g : Heap) (tk : Nat) (m : Int) (t : Tok), (∀ b o, s.heap.get? b = some o → g.get? b = some o) → m ∈ ns → (∀ a ∈ ns, m ≤ a) → Q (.int m t) { s with heap := g, toks := tk })
    (h0 : ns = [] → ∀ (g : Heap) (tk : Nat), (∀ b o, s.heap.get? b = some o → g.get? b = some o) → Q u { s with heap := g, toks := tk }) : wpAny (model prog w) A (call (.builtin "min") [.ref l] [(Str.ofString "default", u)]) Q E s := by
  obtain ⟨xs, e⟩ := hi.allInts.items
  have hn : numsOf (intItems xs).toList = ns := by rw [← e]; exact hi.numsOf
  rw [nums_intItems] at hn
  subst hn
  rw [e] at hl
  refine minD_call (iter_intList hl fun s₂ e2 st hfp hlI => ?_)
  subst e2
  refine ⟨_, _, _, _, _, _, _, _, rfl, (Walks.list (A := A.in1) hh _ l hlI (intItems xs)).toS, st, hfp, CmpOf.ints_lt (numAt xs) (fun _ _ => intItems_at), fun hn v t2 pv mv => ?_, fun hn t2 mv => ?_⟩
  · obtain ⟨g, g2, d2, tk, os2⟩ := t2
    have eg : g2 = s.gens := mv.gens
    have ed : d2 = s.drawn := mv.drawn
    have eo : os2 = s.os := mv.os
    subst eg; subst ed; subst eo
    have hsz : 0 < xs.size := by simpa [intItems] using hn
    have pv : (intItems xs)[argBest (fun i j => decide (numAt xs i < numAt xs j)) (xs.size - 1)]? = some v := by simpa [intItems] using pv
    obtain ⟨t, rfl⟩ := intItems_at pv
    obtain ⟨q1, q2⟩ := argBest_lt (numAt xs) (xs.size - 1)
    refine h1 (by rw [List.length_map, Array.length_toList]; exact hsz) g tk _ t (old_kept fun b o hb e => mv.heap b o hb e) ?_ fun a ha => ?_
    · rw [numAt_eq]
      exact PySem.getD_mem (by rw [List.length_map, Array.length_toList]; omega)
    · obtain ⟨j, hj, rfl⟩ := mem_getD ha
      rw [List.length_map, Array.length_toList] at hj
      rw [← numAt_eq]
      exact q2 j (by omega)
  · obtain ⟨g, g2, d2, tk, os2⟩ := t2
    have eg : g2 = s.gens := mv.gens
    have ed : d2 = s.drawn := mv.drawn
    have eo : os2 = s.os := mv.os
    subst eg; subst ed; subst eo
    have hsz : xs.size = 0 := by simpa [intItems] using hn
    exact h0 (by rw [List.map_eq_nil_iff]; exact List.length_eq_zero_iff.mp (by rw [Array.length_toList]; exact hsz)) g tk (old_kept fun b o hb e => mv.heap b o hb e)
end
section
variable {X : Cx}
def rMinD (K : PySem.W.Frag) : List V → List V → Hp → VK → Prop := fun vs zs H Q => ∃ (a : Addr) (ns : List Int) (z : V), vs = [V.ref a] ∧ zs = [z] ∧ SqL K H a (ns.map V.int) ∧ (ns = [] → Q z H) ∧ (0 < ns.length → ∀ m, m ∈ ns → (∀ y ∈ ns, m ≤ y) → Q (.int m) H)
theorem cr_minD (hc : X.calm = true) : CallRK X (.builtin "min") [Str.ofString "default"] (rMinD X.K) := by
  intro pins s σ H vs zs us ws Q I r rz h
  obtain ⟨a, ns, z, rfl, rfl, hs, q0, q1⟩ := h
  obtain ⟨its, rv, hl, _⟩ := I.list hs
  rw [Vals.ref1 r]
  obtain ⟨w1, rfl, e1⟩ := vals1 rz
  exact minD_ints (I.ok.hd hc) hl.isList rv.ints (fun hn g tk m t hk h1 h2 => ⟨.int m, H, I.kept hk, ⟨_, rfl⟩, q1 hn m h1 h2⟩) fun hn g tk hk => ⟨z, H, I.kept hk, e1, q0 hn⟩
end
section
variable {Ex : Xn → Env → Prop} {Z : GX Ex} {ms : List SM} {a b : Expr} {ra rb : RM} {pa pb : PX} {pos kpos : Pos}
def pMinD (pa pb : PX) : PX := fun env Q => pa env fun d => pb env fun z => ∃ ns, intsL d = some ns ∧ flat z = true ∧ (ns = [] → Q z) ∧ (0 < ns.length → ∀ m, m ∈ ns → (∀ y ∈ ns, m ≤ y) → Q (.int m))
theorem ge_minD {x : Str} {p2 : Pos} (hm : Z.mg x = none) (hv : bootBuiltins x = some (.builtin "min")) (ha : GE Z ms a ra pa) (hb : GE Z ms b rb pb) (hg : ∀ i, Gl (Z.X i) x := by intro i; rfl) (hn : x ≠ "__name__" := by decide) (hdb : (x == ("__debug__" : Str)) = false := by decide)
    (hs : ∀ i, starEach [a] (Z.X i).env = (false, eval a (Z.X i).env) :: starEach [] (Z.X i).env := by intro i; rfl)
    (he : ∀ i, backTo pos (starEach [a] (Z.X i).env) = (false, eval a (Z.X i).env) :: backTo pos (starEach [] (Z.X i).env) := by intro i; rfl) (hpl : ∀ i, (backTo pos (starEach [a] (Z.X i).env)).any (·.1) = false := by intro i; rfl)
    (hall : ∀ i, (backToKw pos (keywordEach [⟨some "default", b, kpos⟩] (Z.X i).env)).all (·.1.isSome) = true := by intro i; rfl) (hnone : ∀ i, (backToKw pos (keywordEach [⟨some "default", b, kpos⟩] (Z.X i).env)).any (·.1.isNone) = false := by intro i; rfl)
    (hks : ∀ i, (backToKw pos (keywordEach [⟨some "default", b, kpos⟩] (Z.X i).env)).filterMap (·.1) = [Str.ofString "default"] := by intro i; rfl) (hcm : Z.cm = true := by rfl) :
    GE Z ms (.Call (.Name x p2) [a] [⟨some "default", b, kpos⟩] pos) (.ow .sh) (pMinD pa pb) := by
  obtain ⟨t, h1, h2⟩ := ha
  obtain ⟨u, h3, h4⟩ := hb
  refine ⟨tCKw (rMinD Z.K) (tCons t tNil) (tCons u tNil), fun i => pe_callBK (show CallRK (Z.X i) (.builtin "min") [Str.ofString "default"] (rMinD Z.K) from by rw [← Z.hK i]; exact cr_minD (Z.calm hcm i)) (hg i) (by rw [Z.hmg]; exact hm) hv (pa_cons (h1 i) pa_nil (hs := hs i)) (pk_cons (h3 i) pk_nil) hn hdb (he i) (hpl i) (hall i) (hnone i) (hks i), fun F H env σ A Q k h p hk hx => ?_⟩
  refine h2 F H env σ A _ _ h p (fun F1 H1 d v g1 r1 q1 => ?_) hx
  refine h4 F1 H1 env σ A _ _ (h.grow g1) q1 (fun F2 H2 z w g2 r2 q2 => ?_) (fun F' H' x c dx g y z => hx F' H' x c dx (g1.trans g) (y.back g1.same) z)
  obtain ⟨ns, en, fz, q0, q3⟩ := q2
  obtain ⟨q, rfl, sq⟩ := intsL_rep (Rep.grow (r1.view g1.sub) g2) en
  refine ⟨q, ns, w, rfl, rfl, sq, fun e => ?_, fun e m m1 m2 => ?_⟩
  · exact hk F2 H2 z w (g1.trans g2) ⟨[], Rep.flatM ((r2.view g2.sub).flat fz) fz, List.nodup_nil, fun _ z => by cases z⟩ (q0 e)
  · exact hk F2 H2 (.int m) _ (g1.trans g2) ⟨[], RepM.sh.mpr ⟨rfl, rfl⟩, List.nodup_nil, fun _ z => by cases z⟩ (q3 e m m1 m2)
end
end G

set_option Elab.async false
set_option linter.all false
set_option maxRecDepth 100000
set_option maxHeartbeats 4000000
/-! G17: two fors in one comprehension; things of one's own that move on. -/
namespace G
open PySem L2

/-- the list that a comprehension makes, so far -/
def LcI (K : PySem.W.Frag) (F1 H1 : Hp) (Dl : Addr) (m : M) (F H : Hp) (ys : List D) : Prop := ∃ vs fp, Step [Dl] F1 (upd H1 Dl (.lst [])) [Dl] F H ∧ Sub F H ∧ F Dl = none ∧ H Dl = some (.lst vs) ∧ RepMs K F H ys m vs fp ∧ fp.Nodup ∧ ∀ a ∈ fp, H1 a = none ∧ a ≠ Dl ∧ F a = none
section
variable {K : PySem.W.Frag} {F1 H1 F2 H2 F3 H3 : Hp} {Dl : Addr} {m : M} {ys : List D}
theorem LcI.start (s : Sub F1 H1) (hD : H1 Dl = none) : LcI K F1 H1 Dl m F1 (upd H1 Dl (.lst [])) [] :=
  ⟨[], [], Step.refl, (Grow.new s hD).sub, s.none hD, upd_same, ⟨rfl, rfl⟩, List.nodup_nil, fun _ z => by cases z⟩
theorem LcI.grow (i : LcI K F1 H1 Dl m F2 H2 ys) (g : Grow F2 H2 F3 H3) : LcI K F1 H1 Dl m F3 H3 ys := by
  obtain ⟨vs, fp, st, s2, hF, hv, rs, n, z⟩ := i
  exact ⟨vs, fp, st.trans (Step.grow g), g.sub, (g.old Dl (by rw [hv]; simp)).trans hF, g.same Dl _ hv, rs.grow s2 g, n, fun a ha => ⟨(z a ha).1, (z a ha).2.1, (g.old a (rs.dom a ha)).trans (z a ha).2.2⟩⟩
theorem LcI.from1 (i : LcI K F1 H1 Dl m F2 H2 ys) (hD : H1 Dl = none) {a : Addr} (ha : H1 a ≠ none) : H2 a = H1 a ∧ F2 a = F1 a := by
  obtain ⟨vs, fp, st, _⟩ := i
  have hne : a ≠ Dl := fun z => ha (z ▸ hD)
  obtain ⟨e1, e2⟩ := st.keep a (by rw [upd_ne hne]; exact ha) (by simpa using hne)
  rw [upd_ne hne] at e1
  exact ⟨e1, e2⟩
theorem LcI.sub2 (i : LcI K F1 H1 Dl m F2 H2 ys) : Sub F2 H2 := i.choose_spec.choose_spec.2.1
theorem LcI.sub12 (i : LcI K F1 H1 Dl m F2 H2 ys) (s : Sub F1 H1) (hD : H1 Dl = none) : Sub F1 F2 := Sub.of fun a u e => (i.from1 hD (s.some e)).2.trans e
theorem LcI.hasD (i : LcI K F1 H1 Dl m F2 H2 ys) : ∃ vs, H2 Dl = some (.lst vs) ∧ F2 Dl = none ∧ vs.length = ys.length := by
  obtain ⟨vs, fp, st, s2, hF, hv, rs, n, z⟩ := i
  exact ⟨vs, hv, hF, rs.length⟩
/-- one more item -/
theorem LcI.push {F H : Hp} (i : LcI K F1 H1 Dl m F2 H2 ys) (hD : H1 Dl = none) {F5 H5 : Hp} (g : Grow F2 H2 F5 H5) {y : D} {u : V} {fq : List Addr} (r : RepM K F5 H5 y m u fq) (n5 : fq.Nodup) (z5 : ∀ a ∈ fq, H2 a = none ∧ F5 a = none) :
    ∃ vs, H5 Dl = some (.lst vs) ∧ vs.length = ys.length ∧ LcI K F1 H1 Dl m F5 (upd H5 Dl (.lst (vs ++ [u]))) (ys ++ [y]) ∧ Step [Dl] F2 H2 [Dl] F5 (upd H5 Dl (.lst (vs ++ [u]))) := by
  have fr := fun a ha => i.from1 hD (a := a) ha
  have i0 := i
  obtain ⟨vs, fp, st, s2, hF, hv, rs, n, z⟩ := i0
  have d1 := g.same Dl _ hv
  have d2 : F5 Dl = none := (g.old Dl (by rw [hv]; simp)).trans hF
  have r6 := rs.grow s2 g
  have fqD : ∀ a ∈ fq, a ≠ Dl := fun a ha w => by
    have := (z5 a ha).1
    rw [w, hv] at this
    cases this
  have fpD : ∀ a ∈ fp, a ≠ Dl := fun a ha => (z a ha).2.1
  have updS : Sub F5 (upd H5 Dl (.lst (vs ++ [u]))) := fun a w e => by
    have hne : a ≠ Dl := fun z => by rw [z, d2] at e; cases e
    rw [upd_ne hne]
    exact g.sub a w e
  have st5 : Step [Dl] F2 H2 [Dl] F5 (upd H5 Dl (.lst (vs ++ [u]))) := (Step.grow g).trans ⟨fun a ha hn => by
    have hne : a ≠ Dl := by simpa using hn
    exact ⟨upd_ne hne, rfl⟩, fun a z => .inl z, fun a ha => by
    by_cases z : a = Dl
    · rw [z, upd_same]; simp
    · rw [upd_ne z]; exact ha⟩
  refine ⟨vs, d1, rs.length, ⟨vs ++ [u], fp ++ fq, st.trans st5, updS, d2, upd_same, ?_, ?_, ?_⟩, st5⟩
  · exact RepMs.snoc (r.mono (Sub.refl _) fun a ha => upd_ne (fqD a ha)) (r6.mono (Sub.refl _) fun a ha => upd_ne (fpD a ha))
  · refine List.nodup_append.mpr ⟨n, n5, fun a ha b hb e => ?_⟩
    subst e
    exact rs.dom a ha (z5 a hb).1
  · intro a ha
    rcases List.mem_append.mp ha with w | w
    · exact ⟨(z a w).1, fpD a w, (g.old a (rs.dom a w)).trans (z a w).2.2⟩
    · refine ⟨?_, fqD a w, (z5 a w).2⟩
      cases e1 : H1 a with
      | none => rfl
      | some q =>
        have e2 := (z5 a w).1
        rw [(fr a (by rw [e1]; simp)).1, e1] at e2
        cases e2
theorem StOk.keepD {K : PySem.W.Frag} {ms : List SM} {F H F' H' : Hp} {env : Env} {σ : St} {A : List Addr} {Dl : Addr} (h : StOk K ms F H env σ A) (k : ∀ a, H a ≠ none → a ≠ Dl → H' a = H a ∧ F' a = F a) (hF : F Dl = none) (hA : Dl ∉ A) (s : Sub F' H') : StOk K ms F' H' env σ A := by
  have ne : ∀ a ∈ A, a ≠ Dl := fun a ha e => hA (e ▸ ha)
  refine h.mono (Sub.of fun a u e => ?_) s (fun a ha => (k a (h.sls.dom a ha) (ne a ha)).1) (fun a ha => (k a (h.sls.dom a ha) (ne a ha)).2.trans (h.off a ha))
  have : a ≠ Dl := fun z => by rw [z, hF] at e; cases e
  exact (k a (h.sub.some e) this).2.trans e
end

section
variable {Ex : Xn → Env → Prop} {Z : GX Ex} {ms ms1 ms2 ms3 : List SM} {a b c e : Expr} {es : List Expr} {ta tb te : TE} {ra rb rc r : RM} {pa pb pc p : PX} {ps : PXs} {pos : Pos} {m : M}
/-- one turn of the first clause -/
def lcTurn2 (own : List Nat) (env : Env) (pt : PT') (pb : PB) (inner : Env → List D → (List D → Prop) → Prop) : D → List D → (List D → Prop) → Prop := fun d acc K => pt d (wipeE env own) fun env' => pb env' fun b => (b = true → inner env' acc K) ∧ (b = false → K acc)
def pLc2 (own own1 : List Nat) (pi : PI') (pt : PT') (pb : PB) (pi1 : PI') (pt1 : PT') (pb1 : PB) (pe : PX) : PX := fun env Q => pi env fun items => pMap items (lcTurn2 own env pt pb fun env' acc K => pi1 env' fun items1 => pMap items1 (lcTurn own1 env' pt1 pb1 pe) acc K) [] fun ys => Q (.lst ys)
theorem se_lc2 {wi wi1 : TI} {g g1 : TG} {tt tt1 : TT} {own own1 js js1 : List Nat} {pi pi1 : PI'} {pt pt1 : PT'} {pb pb1 : PB} {Zb : GX (fun _ _ => False)} (hK : Zb.K = Z.K) (hE : ∀ c dx σ H, ¬ Zb.E c dx σ H)
    (h1 : ∀ (F H : Hp) (env : Env) (σ : St) (A : List Addr) (Q : List D → Prop) (R : It → Hp → Prop), StOk Z.K ms F H env σ A → pi env Q →
      (∀ F' H' J items, Grow F H F' H' → ItOk Z.K J F' items → Q items → R J H') → (∀ F' H' x c dx, Grow F H F' H' → RepX Z.K H H' x c dx → Ex x env → Z.E c dx σ H') → wi σ H R)
    (h2 : ∀ (F H : Hp) (env : Env) (σ : St) (A : List Addr) (d : D) (v : V) (Q : Env → Prop) (k : St → Hp → Prop), StOk Z.K ms F H env σ A → Rep Z.K F d v → pt d env Q →
      (∀ env' σ' A', StOk Z.K ms1 F H env' σ' A' → (∀ a ∈ A', a ∈ A) → Chg js σ σ' → Q env' → k σ' H) → g v σ H k)
    (hj : ∀ l ∈ js, l ∈ own) (h3 : SB Zb ms1 tt pb)
    (h1' : ∀ (F H : Hp) (env : Env) (σ : St) (A : List Addr) (Q : List D → Prop) (R : It → Hp → Prop), StOk Z.K ms1 F H env σ A → pi1 env Q →
      (∀ F' H' J items, Grow F H F' H' → ItOk Z.K J F' items → Q items → R J H') → wi1 σ H R)
    (h2' : ∀ (F H : Hp) (env : Env) (σ : St) (A : List Addr) (d : D) (v : V) (Q : Env → Prop) (k : St → Hp → Prop), StOk Z.K ms1 F H env σ A → Rep Z.K F d v → pt1 d env Q →
      (∀ env' σ' A', StOk Z.K ms2 F H env' σ' A' → (∀ a ∈ A', a ∈ A) → Chg js1 σ σ' → Q env' → k σ' H) → g1 v σ H k)
    (hj1 : ∀ l ∈ js1, l ∈ own1) (h3' : SB Zb ms2 tt1 pb1) (h4 : SE Zb ms2 te r p) (hf : Fit r m) : SE Z ms (tLc2 wi g tt wi1 g1 tt1 te own own1) (.ow (.el m)) (pLc2 own own1 pi pt pb pi1 pt1 pb1 p) := by
  intro F H env σ A Q k h q hk hx
  refine h1 F H env σ A _ _ h q (fun F1 H1 J items gA it q1 => ?_) hx
  intro Dl hD
  have hF1 : F1 Dl = none := gA.sub.none hD
  obtain ⟨Aw, w1, w2, w3⟩ := h.sls.wipe h.nd own
  have DA : Dl ∉ A := fun z => Same.ne gA.same (h.sls.dom Dl z) hD
  refine ⟨fun i n H' => n = items.length - i ∧ i ≤ items.length ∧ ∃ F' ys, LcI Z.K F1 H1 Dl m F' H' ys ∧ pMap (items.drop i) (lcTurn2 own env pt pb fun env' acc K => pi1 env' fun items1 => pMap items1 (lcTurn own1 env' pt1 pb1 p) acc K) ys fun ys => Q (.lst ys), ⟨items.length, ?_⟩, ?_⟩
  · exact ⟨by omega, Nat.zero_le _, F1, [], LcI.start gA.sub hD, q1⟩
  · rintro i n H2 ⟨rfl, hi, F2, ys, I2, q2⟩
    have s12 := I2.sub12 gA.sub hD
    by_cases hlt : i < items.length
    · obtain ⟨d, hd⟩ : ∃ d, items[i]? = some d := ⟨_, List.getElem?_eq_getElem hlt⟩
      have ed : items.drop i = d :: items.drop (i + 1) := by
        rw [List.drop_eq_getElem_cons hlt]
        rw [List.getElem?_eq_getElem hlt] at hd
        rw [Option.some.inj hd]
      rw [ed] at q2
      obtain ⟨ok1, _⟩ := it F2 H2 s12 I2.sub2 i
      obtain ⟨go, yl⟩ := ok1 d hd
      refine .inr ⟨go, _, fun H' hN => ⟨items.length - (i + 1), by omega, rfl, hlt, hN⟩, fun x H3 hy => ?_⟩
      obtain ⟨F3, g3, r3⟩ := yl x H3 hy
      have I3 := I2.grow g3
      have k3 : ∀ a, H1 a ≠ none → a ≠ Dl → H3 a = H1 a ∧ F3 a = F1 a := fun a ha _ => I3.from1 hD ha
      have sw1 : StOk Z.K ms F1 H1 (wipeE env own) (wipe σ own) Aw := (StOk.mk h.sub w1 w2 fun a ha => h.off a (w3 a ha)).grow gA
      have DAw : Dl ∉ Aw := fun z => DA (w3 Dl z)
      have sw := sw1.keepD k3 hF1 DAw I3.sub2
      refine h2 F3 H3 _ _ Aw d x _ _ sw r3 q2 fun env' σ' A' s' a' c' q3 => ?_
      refine ⟨wipe_chg c' hj, ?_⟩
      have DA' : Dl ∉ A' := fun z => DAw (a' Dl z)
      have s'' := s'
      rw [← hK] at s'
      refine h3 F3 H3 env' σ' A' _ _ s' q3 (fun F4 H4 b g4 q4 => ?_) (fun F' H' x c dx g y z => z.elim)
      have I4 := I3.grow g4
      cases b with
      | false =>
        rw [if_neg Bool.false_ne_true]
        exact ⟨F4, ys, I4, q4.2 rfl⟩
      | true =>
        rw [if_pos rfl]
        have s4 := s''.grow g4
        refine h1' F4 H4 env' σ' A' _ _ s4 (q4.1 rfl) (fun F5 H5 J1 items1 g5 it1 q5 => ?_)
        have I5 := I4.grow g5
        have s5 := s4.grow g5
        have hF5 : F5 Dl = none := I5.hasD.choose_spec.2.1
        obtain ⟨Av, v1, v2, v3⟩ := s5.sls.wipe s5.nd own1
        have s5w : StOk Z.K ms1 F5 H5 (wipeE env' own1) (wipe σ' own1) Av := StOk.mk s5.sub v1 v2 fun a ha => s5.off a (v3 a ha)
        have DAv : Dl ∉ Av := fun z => DA' (v3 Dl z)
        refine ⟨fun j n H' => n = items1.length - j ∧ j ≤ items1.length ∧ ∃ F' ys, LcI Z.K F1 H1 Dl m F' H' ys ∧ Step [Dl] F5 H5 [Dl] F' H' ∧ pMap (items1.drop j) (lcTurn own1 env' pt1 pb1 p) ys (fun acc' => pMap (items.drop (i + 1)) (lcTurn2 own env pt pb fun env' acc K => pi1 env' fun items1 => pMap items1 (lcTurn own1 env' pt1 pb1 p) acc K) acc' fun ys => Q (.lst ys)), ⟨items1.length, ?_⟩, ?_⟩
        · exact ⟨by omega, Nat.zero_le _, F5, ys, I5, Step.refl, q5⟩
        · rintro j n H6 ⟨rfl, hj', F6, ys6, I6, st6, q6⟩
          have k6 : ∀ a, H5 a ≠ none → a ≠ Dl → H6 a = H5 a ∧ F6 a = F5 a := fun a ha hn => st6.keep a ha (by simpa using hn)
          have s56 : Sub F5 F6 := Sub.of fun a u e => by
            have : a ≠ Dl := fun z => by rw [z, hF5] at e; cases e
            exact (k6 a (s5.sub.some e) this).2.trans e
          by_cases hlt1 : j < items1.length
          · obtain ⟨d1, hd1⟩ : ∃ d, items1[j]? = some d := ⟨_, List.getElem?_eq_getElem hlt1⟩
            have ed1 : items1.drop j = d1 :: items1.drop (j + 1) := by
              rw [List.drop_eq_getElem_cons hlt1]
              rw [List.getElem?_eq_getElem hlt1] at hd1
              rw [Option.some.inj hd1]
            rw [ed1] at q6
            obtain ⟨ok2, _⟩ := it1 F6 H6 s56 I6.sub2 j
            obtain ⟨go1, yl1⟩ := ok2 d1 hd1
            refine .inr ⟨go1, fun H' => ∃ F' ys, LcI Z.K F1 H1 Dl m F' H' ys ∧ Step [Dl] F5 H5 [Dl] F' H' ∧ pMap (items1.drop (j + 1)) (lcTurn own1 env' pt1 pb1 p) ys (fun acc' => pMap (items.drop (i + 1)) (lcTurn2 own env pt pb fun env' acc K => pi1 env' fun items1 => pMap items1 (lcTurn own1 env' pt1 pb1 p) acc K) acc' fun ys => Q (.lst ys)), fun H' hN => ⟨items1.length - (j + 1), by omega, rfl, hlt1, hN⟩, fun x1 H7 hy1 => ?_⟩
            obtain ⟨F7, g7, r7⟩ := yl1 x1 H7 hy1
            have I7 := I6.grow g7
            have st7 := st6.trans (Step.grow g7)
            have k7 : ∀ a, H5 a ≠ none → a ≠ Dl → H7 a = H5 a ∧ F7 a = F5 a := fun a ha hn => st7.keep a ha (by simpa using hn)
            have s7 := s5w.keepD k7 hF5 DAv I7.sub2
            refine h2' F7 H7 _ _ Av d1 x1 _ _ s7 r7 q6 fun env2 σ2 A2 s2 a2 c2 q7 => ?_
            refine ⟨wipe_chg c2 hj1, ?_⟩
            rw [← hK] at s2
            refine h3' F7 H7 env2 σ2 A2 _ _ s2 q7 (fun F8 H8 b g8 q8 => ?_) (fun F' H' x c dx g y z => z.elim)
            have I8 := I7.grow g8
            have st8 := st7.trans (Step.grow g8)
            cases b with
            | false =>
              rw [if_neg Bool.false_ne_true]
              exact ⟨F8, ys6, I8, st8, q8.2 rfl⟩
            | true =>
              rw [if_pos rfl]
              refine h4 F8 H8 env2 σ2 A2 _ _ (s2.grow g8) (q8.1 rfl) (fun F0 H9 y u g0 r9 q9 => ?_) (fun F' H' x c dx g y z => z.elim)
              obtain ⟨F9, g9, _, fq, r9, n9, z9⟩ := r9.fit hf g0
              rw [hK] at r9
              obtain ⟨acc, e1, e2, I9, st9⟩ := I8.push (F := F9) (H := H9) hD g9 r9 n9 z9
              exact ⟨acc, e1, by rw [e2]; exact sz5lt q9.1, F9, ys6 ++ [y], I9, st8.trans st9, q9.2⟩
          · have ei : j = items1.length := by omega
            subst ei
            obtain ⟨_, stop⟩ := it1 F6 H6 s56 I6.sub2 items1.length
            rw [List.drop_length] at q6
            exact .inl ⟨stop (Nat.le_refl _), F6, ys6, I6, q6⟩
    · have ei : i = items.length := by omega
      subst ei
      obtain ⟨_, stop⟩ := it F2 H2 s12 I2.sub2 items.length
      rw [List.drop_length] at q2
      refine .inl ⟨stop (Nat.le_refl _), ?_⟩
      have fr := fun a ha => I2.from1 hD (a := a) ha
      obtain ⟨vs, fp, st, s2, hF2, hv, rs, n2, z2⟩ := I2
      have gAll : Grow F1 H1 F2 H2 := ⟨s2, fun a u e => (fr a (by rw [e]; simp)).1.trans e, fun a ha => (fr a ha).2⟩
      refine hk F2 H2 (.lst ys) (.ref Dl) (gA.trans gAll) ⟨Dl :: fp, ⟨Dl, vs, fp, rfl, rfl, hv, rs⟩, List.nodup_cons.mpr ⟨fun z => (z2 Dl z).2.1 rfl, n2⟩, fun a ha => ?_⟩ q2
      rcases List.mem_cons.mp ha with z | z
      · subst z
        exact ⟨gA.fresh hD, hF2⟩
      · exact ⟨gA.fresh (z2 a z).1, (z2 a z).2.2⟩
/-- [elt for tg in iter if .. for tg1 in iter1 if ..] -/
theorem ge_lc2 {elt tg iter tg1 iter1 : Expr} {ifs ifs1 : List Expr} {scope : Scope} {own : List (Str × Nat)} {own1 js js1 : List Nat} {pi pi1 : PI'} {pt pt1 : PT'} {pb pb1 : PB} (hi : GI Z ms tg iter pi) (ok : ∀ i, BlkOk (Z.X i).N (Z.X i).env.scope scope own)
    (hg : GT (Z.blk scope) ms tg js ms1 pt) (ht : GTt (Z.blk scope) ms1 ifs pb) (hi1 : GI (Z.blk scope) ms1 tg1 iter1 pi1) (hg1 : GT (Z.blk scope) ms1 tg1 js1 ms2 pt1) (ht1 : GTt (Z.blk scope) ms2 ifs1 pb1) (he : GE (Z.blk scope) ms2 elt r p)
    (hf : Fit r m := by first | exact Fit.own | exact Fit.sh rfl) (hj : ∀ l ∈ js, l ∈ own.map (·.2) := by decide) (hj1 : ∀ l ∈ js1, l ∈ own1 := by decide) (hv : ∀ i ∈ own1, i ∈ own.map (·.2) := by decide) (hs1 : ∀ env x, foldedSetIterable iter1 env x = pure x := by intro _ _; rfl) (hcm : Z.cm = true := by rfl) :
    GE Z ms (.ListComp elt [⟨tg, iter, ifs, 0⟩, ⟨tg1, iter1, ifs1, 0⟩] scope pos) (.ow (.el m)) (pLc2 (own.map (·.2)) own1 pi pt pb pi1 pt1 pb1 p) := by
  obtain ⟨wi, h1, h2, h3⟩ := hi
  obtain ⟨g, h4, h5⟩ := hg
  obtain ⟨tt, h6, h7⟩ := ht
  obtain ⟨wi1, h1', h2', h3'⟩ := hi1
  obtain ⟨g1, h4', h5'⟩ := hg1
  obtain ⟨tt1, h6', h7'⟩ := ht1
  obtain ⟨te, h8, h9⟩ := he
  exact ⟨tLc2 wi g tt wi1 g1 tt1 te (own.map (·.2)) own1, fun i => pe_lc2 (Z.calm hcm i) (Z.nd i) (h1 i) (ok i) hv (fun s H C cl fp => h4 (i, s, H, C, cl, fp)) (fun s H C cl fp => h6 (i, s, H, C, cl, fp)) (fun s H C cl fp => h1' (i, s, H, C, cl, fp)) (fun s H C cl fp => h4' (i, s, H, C, cl, fp)) (fun s H C cl fp => h6' (i, s, H, C, cl, fp)) (fun s H C cl fp => h8 (i, s, H, C, cl, fp)) (h2 i) hs1,
    se_lc2 (Z := Z) (Zb := Z.blk scope) rfl (fun _ _ _ _ => id) h3 h5 hj h7 (fun F H env σ A Q R s q k => h3' F H env σ A Q R s q k (fun _ _ _ _ _ _ _ z => z.elim)) h5' hj1 h7' h9 hf⟩
end
section
variable {Ex : Xn → Env → Prop} {Z : GX Ex} {C : Cn} {ms ms1 ms2 ms' : List SM} {a b c e : Expr} {es : List Expr} {ta tb te : TE} {ra rb rc r : RM} {pa pb pc p : PX} {ps : PXs} {pos : Pos} {m : M} {st : Stmt} {sts : List Stmt} {p1 p2 : PS'}
variable {i j : Nat} {x y : Str} {pos' : Pos}
/-- a slot is emptied: what it held is left over, held so -/
theorem St2.takeO {F H : Hp} {env : Env} {σ : St} {A : List Addr} (h : St2 Z.K C.rms ms F H env σ A) {d : D} (hm : ms[j]? = some (.ow m)) (he : env[j]? = some (some d)) (hr : C.rms[j]? = some .un) :
    ∃ v fp A1, σ[j]? = some (some v) ∧ RepM Z.K F H d m v fp ∧ St2 Z.K C.rms (ms.set j (.ow .sh)) F H (env.set j none) σ A1 ∧ fp.Nodup ∧ (∀ a ∈ fp, a ∈ A ∧ a ∉ A1 ∧ F a = none) ∧ ∀ a ∈ A1, a ∈ A := by
  obtain ⟨s, fp, A1, q1, ⟨v, rfl, q2⟩, q3, q4, q5⟩ := h.ok.sls.take h.ok.nd hm he
  obtain ⟨n1, n2, n3⟩ := List.nodup_append.mp q4
  have inA : ∀ a ∈ fp, a ∈ A := fun a ha => (q5 a).mpr (List.mem_append_left _ ha)
  have inA1 : ∀ a ∈ A1, a ∈ A := fun a ha => (q5 a).mpr (List.mem_append_right _ ha)
  have hj : j < ms.length := (List.getElem?_eq_some_iff.mp hm).1
  obtain ⟨A2, w1, w2, w3⟩ := q3.put n2 (i := j) (m := .ow .sh) (d := none) (s := some v) (fp := []) hj rfl List.nodup_nil (fun _ z => by cases z)
  have e2 : σ.set j (some v) = σ := by
    obtain ⟨hh, e⟩ := List.getElem?_eq_some_iff.mp q1
    rw [← e]
    exact List.set_getElem_self hh
  rw [List.set_set, e2] at w1
  have in2 : ∀ a ∈ A2, a ∈ A1 := fun a ha => (w3 a ha).elim id (fun z => by cases z)
  exact ⟨v, fp, A2, q1, q2, ⟨h.ss.set hr, h.ok.sub, w1, w2, fun a ha => h.ok.off a (inA1 a (in2 a ha))⟩, n1, fun a ha => ⟨inA a ha, fun z => n3 a ha a (in2 a z) rfl, h.ok.off a (inA a ha)⟩, fun a ha => inA1 a (in2 a ha)⟩
/-- x = y; y is not read any more -/
def sMv (i j : Nat) : PS' := fun e env => ∃ d, env[j]? = some (some d) ∧ e.nx ((env.set j none).set i (some d))
theorem gs_mv (hm : ms[j]? = some (.ow m) := by rfl) (hi : i < ms.length := by decide) (hr : C.rms[i]? = some .un := by rfl) (hrj : C.rms[j]? = some .un := by rfl) (hN : ∀ l, (Z.X l).N[i]? = some x := by intro j; rfl) (hx : ∀ l, Loc (Z.X l).env.scope x := by intro j; first | exact Or.inl rfl | exact Or.inr rfl)
    (hNj : ∀ l, (Z.X l).N[j]? = some y := by intro j; rfl) (hv : ∀ l, Vis (Z.X l).env.scope y := by intro j; first | exact Or.inl rfl | exact Or.inr (Or.inl rfl) | exact Or.inr (Or.inr rfl))
    (hd : (y == ("__debug__" : Str)) = false := by decide) (hcd : (y == ("__classdict__" : Str)) = false := by decide)
    {pos2 : Pos} (hs : ∀ l, swapsWith (.Name y pos2) (some (.Name x pos')) pos.line (Z.X l).env = pure false := by intro j; rfl) (hl : ∀ l, (Z.X l).fn x = true ∨ (Z.X l).env.scope.names.lookup x = some .local := by intro j; first | exact Or.inl rfl | exact Or.inr rfl) :
    GS Z C ms (.Assign [.Name x pos'] (.Name y pos2) pos) ((ms.set j (.ow .sh)).set i (.ow m)) (sMv i j) := by
  refine ⟨_, fun l => ps_set (Z.nd l) (hN l) (hx l) (pe_var (hNj l) (hv l) hd hcd) (hs l) (hl l), fun F H env σ A e D h p o => ?_⟩
  obtain ⟨d, ed, p⟩ := p
  obtain ⟨v, fp, A1, q1, q2, k1, n1, z1, s1⟩ := h.takeO hm ed hrj
  refine ⟨v, q1, ?_⟩
  obtain ⟨A2, w1, w2⟩ := k1.ok.put (i := i) (by rw [List.length_set]; exact hi) q2 n1 (fun a ha => (z1 a ha).2.1) (fun a ha => (z1 a ha).2.2)
  exact o.nx F H _ _ A2 (Step.less fun a ha => (w2 a ha).elim (s1 a) fun z => (z1 a z).1) ⟨k1.ss.set hr, w1⟩ p
/-- return (e, y): y handed over -/
def sRetT (i : Nat) (pa : PX) : PS' := fun e env => pa env fun d => flat d = true ∧ ∃ d2, env[i]? = some (some d2) ∧ e.rt (.tup [d, d2]) (env.set i none)
theorem gs_retT {k : Nat} {tp : Pos} (ha : GE Z ms a ra pa) (hf : C.rm = .el m := by rfl) (hm : ms[i]? = some (.ow m) := by rfl) (hr : C.rms[i]? = some .un := by rfl) (hN : ∀ j, (Z.X j).N[i]? = some x := by intro j; rfl)
    (hv : ∀ j, Vis (Z.X j).env.scope x := by intro j; first | exact Or.inl rfl | exact Or.inr (Or.inl rfl) | exact Or.inr (Or.inr rfl))
    (hd : (x == ("__debug__" : Str)) = false := by decide) (hcd : (x == ("__classdict__" : Str)) = false := by decide)
    (hs : ∀ i, starEach [a, .Name x pos'] (Z.X i).env = (false, eval a (Z.X i).env) :: starEach [.Name x pos'] (Z.X i).env := by intro i; rfl) (hs2 : ∀ i, starEach [.Name x pos'] (Z.X i).env = (false, eval (.Name x pos') (Z.X i).env) :: starEach [] (Z.X i).env := by intro i; rfl) :
    GS Z C ms (.Return (some (.Tuple [a, .Name x pos'] k tp)) pos) ms1 (sRetT i pa) := by
  obtain ⟨t, h1, h2⟩ := ha
  refine ⟨_, fun j => ps_ret (pe_tup (pa_cons (h1 j) (pa_cons (pe_var (hN j) (hv j) hd hcd) pa_nil (hs2 j)) (hs j))), fun F H env σ A e D h p o => ?_⟩
  refine h2 F H env σ A _ _ h.ok p (fun F1 H1 d v g1 r1 q1 => ?_) (o.hx h)
  obtain ⟨fl, d2, ed, q1⟩ := q1
  obtain ⟨u, fp, A1, e1, r2, k1, n1, z1, s1⟩ := (h.grow g1).takeO hm ed hr
  refine ⟨u, e1, (show 2 ≤ sizeLine by decide), fun q hq => ?_⟩
  have g2 : Grow F1 H1 F1 (upd H1 q (.tup [v, u])) := Grow.new g1.sub hq
  have qfp : q ∉ fp := fun z => r2.dom q z hq
  obtain ⟨A', w1, w2⟩ := (k1.grow g2).ok.weak k1.ss
  have k0 : Rep Z.K F1 d v := (r1.view g1.sub).flat fl
  refine o.rt F1 _ (env.set i none) σ A' (.tup [d, d2]) (.ref q) (q :: fp) ((Step.grow (g1.trans g2)).more fun a ha => .inl (s1 a (w2 a ha))) w1 ?_ (List.nodup_cons.mpr ⟨qfp, n1⟩) (fun a ha => ?_) q1
  · rw [hf]
    exact ⟨q, [v, u], fp, rfl, rfl, upd_same, v, [u], [], fp, rfl, rfl, Rep.flatM k0 fl, u, [], fp, [], rfl, by simp, r2.grow g1.sub g2, rfl, rfl⟩
  · rcases List.mem_cons.mp ha with z | z
    · subst z
      exact ⟨fun w => (k1.ok.sls.dom a (w2 a w)) hq, g1.sub.none hq, .inr (g1.fresh hq)⟩
    · exact ⟨fun w => (z1 a z).2.1 (w2 a w), (z1 a z).2.2, .inl (z1 a z).1⟩
/-- t[k].append(e), t a tuple of one's own that is not read any more -/
def sAppT (i : Nat) (k : Int) (pa : PX) : PS' := fun e env => ∃ ds xs, env[i]? = some (some (.tup ds)) ∧ atI ds k = some (.lst xs) ∧ xs.length < 100000 ∧ pa env fun _ => e.nx (env.set i none)
theorem RepMs.at {K : PySem.W.Frag} {F H : Hp} : ∀ {ds : List D} {vs : List V} {fp : List Addr}, RepMs K F H ds m vs fp → ∀ {l : Nat} {d : D}, ds[l]? = some d → ∃ v f, vs[l]? = some v ∧ RepM K F H d m v f ∧ ∀ a ∈ f, a ∈ fp
  | d :: ds, vs, fp, ⟨x, r, f1, f2, e1, e2, h1, h2⟩, 0, d', e => by
    cases e
    exact ⟨x, f1, by rw [e1]; rfl, h1, fun a ha => by rw [e2]; exact List.mem_append_left _ ha⟩
  | d :: ds, vs, fp, ⟨x, r, f1, f2, e1, e2, h1, h2⟩, l + 1, d', e => by
    obtain ⟨v, f, q1, q2, q3⟩ := RepMs.at h2 (l := l) e
    exact ⟨v, f, by rw [e1]; exact q1, q2, fun a ha => by rw [e2]; exact List.mem_append_right _ (q3 a ha)⟩
  | [], _, _, _, l, d', e => by simp at e
theorem gs_appT {apos cpos spos kp : Pos} {k : Int} {kk : Nat} (ha : GE Z ms a ra pa) (hm : ms[i]? = some (.ow (.el (.el m))) := by rfl) (hr : C.rms[i]? = some .un := by rfl) (hN : ∀ j, (Z.X j).N[i]? = some x := by intro j; rfl)
    (hv : ∀ j, Vis (Z.X j).env.scope x := by intro j; first | exact Or.inl rfl | exact Or.inr (Or.inl rfl) | exact Or.inr (Or.inr rfl))
    (hd : (x == ("__debug__" : Str)) = false := by decide) (hcd : (x == ("__classdict__" : Str)) = false := by decide)
    (hbase : ∀ j, attributeBase (.Subscript (.Name x pos') (.Constant (.int k) kk kp) spos) "append" (Z.X j).env (eval (.Subscript (.Name x pos') (.Constant (.int k) kk kp) spos) (Z.X j).env) = eval (.Subscript (.Name x pos') (.Constant (.int k) kk kp) spos) (Z.X j).env := by intro j; rfl)
    (hfew : ∀ j, ((backTo cpos (starEach (a :: []) (Z.X j).env)).all (fun x => !x.1) && (backToKw cpos (keywordEach [] (Z.X j).env)).all (fun x => x.1.isSome)
      && decide ((a :: []).length + ([] : List Keyword).length + (if ([] : List Keyword).isEmpty then 0 else 1) < 30)) = true := by intro j; rfl)
    (hline : (apos.endLine == cpos.line) = true := by rfl) (hst : ∀ j, starEach (a :: []) (Z.X j).env = (false, eval a (Z.X j).env) :: starEach [] (Z.X j).env := by intro j; rfl)
    (hpi : PlainIx (.Constant (.int k) kk kp) := by intro _ _; rfl)
    (hs : ∀ j, swapsWith (.Call (.Attribute (.Subscript (.Name x pos') (.Constant (.int k) kk kp) spos) "append" apos) [a] [] cpos) none pos.line (Z.X j).env = pure false := by intro j; rfl) :
    GS Z C ms (.Expr (.Call (.Attribute (.Subscript (.Name x pos') (.Constant (.int k) kk kp) spos) "append" apos) [a] [] cpos) pos) (ms.set i (.ow .sh)) (sAppT i k pa) := by
  obtain ⟨t, h1, h2⟩ := ha
  refine ⟨tDrop (tBM Z.K "list" rAppend (tOp (rIx Z.K) (tVar i) (tC (.int k))) (tCons t tNil)), fun j => ps_expr (by
    rw [← Z.hK j]
    exact pe_bm PySem.F.plainAttrs_list PySem.F.slot_list_append PySem.F.type_list_append mt_append (pe_ix ix_seq (pe_var (hN j) (hv j) hd hcd) pe_int hpi) (pa_cons (h1 j) pa_nil (hst j)) (hbase j) (hfew j) hline (hst j) rfl) (hs j), fun F H env σ A e D h p o => ?_⟩
  obtain ⟨ds, xs, ed, ex, hl, p⟩ := p
  obtain ⟨v, fp, A1, e1, r2, k1, n1, z1, s1⟩ := h.takeO hm ed hr
  obtain ⟨q, vs, fq, rfl, rfl, eh, rs⟩ := r2
  unfold atI at ex
  cases el : ixN ds.length k with
  | none => rw [el] at ex; cases ex
  | some l =>
    rw [el] at ex
    obtain ⟨w, f, ew, rw', hf⟩ := RepMs.at rs (l := l) ex
    obtain ⟨q2, vs2, fq2, rfl, rfl, eh2, rs2⟩ := rw'
    refine ⟨.ref q, e1, .inr (.inl ⟨q, vs, k, .ref q2, rfl, rfl, SqT.of eh, ?_, tyV_l eh2, ?_⟩)⟩
    · unfold atI
      rw [rs.length, el]
      exact ew
    refine h2 F H env σ A _ _ h.ok p (fun F1 H1 d v g1 r1 q1 => ?_) (o.hx h)
    have eh3 := g1.same q2 _ eh2
    refine ⟨q2, vs2, v, rfl, rfl, eh3, by rw [rs2.length]; exact sz5lt hl, ?_⟩
    have in2 : q2 ∈ q :: fq := List.mem_cons_of_mem _ (hf q2 List.mem_cons_self)
    obtain ⟨y1, y2, y3⟩ := z1 q2 in2
    have hF1 : F1 q2 = none := (g1.old q2 (by rw [eh2]; simp)).trans y3
    have kk1 := k1.grow g1
    have subU : Sub F1 (upd H1 q2 (.lst (vs2 ++ [v]))) := fun a u w => by
      have hne : a ≠ q2 := fun z => by rw [z, hF1] at w; cases w
      rw [upd_ne hne]
      exact g1.sub a u w
    have kU : StOk Z.K (ms.set i (.ow .sh)) F1 (upd H1 q2 (.lst (vs2 ++ [v]))) (env.set i none) σ A1 := kk1.ok.mono (Sub.refl _) subU (fun a ha => upd_ne (fun z => y2 (z ▸ ha))) (fun a ha => kk1.ok.off a ha)
    refine o.nx F1 _ (env.set i none) σ A1 ⟨fun a ha hn => ?_, fun a ha => .inl (s1 a ha), fun a ha => by
      by_cases z : a = q2
      · rw [z, upd_same]; simp
      · rw [upd_ne z]; exact Same.ne g1.same ha⟩ ⟨k1.ss, kU⟩ q1
    have hne : a ≠ q2 := fun z => hn (z ▸ y1)
    exact ⟨(upd_ne hne).trans (Same.eq g1.same ha), g1.old a ha⟩
end
section
variable {env : Env} {d : D} {Q : D → Prop} {nx bk ct : Env → Prop} {rt : D → Env → Prop} {pa pb pe : PX} {i j : Nat}
theorem w_lc2 {own own1 : List Nat} {pi pi1 : PI'} {pt pt1 : PT'} {b b1 : PB} (h : pi env fun items => pMap items (lcTurn2 own env pt b fun env' acc K => pi1 env' fun items1 => pMap items1 (lcTurn own1 env' pt1 b1 pe) acc K) [] fun ys => Q (.lst ys)) : pLc2 own own1 pi pt b pi1 pt1 b1 pe env Q := h
theorem w_turn2 {own : List Nat} {pt : PT'} {b : PB} {inner : Env → List D → (List D → Prop) → Prop} {acc : List D} {K : List D → Prop} (h : pt d (wipeE env own) fun z => b z fun t => (t = true → inner z acc K) ∧ (t = false → K acc)) : lcTurn2 own env pt b inner d acc K := h
theorem w_mv {d : D} (e : env[j]? = some (some d)) (h : nx ((env.set j none).set i (some d))) : sMv i j ⟨nx, rt, bk, ct⟩ env := ⟨d, e, h⟩
theorem w_retT (h : pa env fun d => flat d = true ∧ ∃ d2, env[i]? = some (some d2) ∧ rt (.tup [d, d2]) (env.set i none)) : sRetT i pa ⟨nx, rt, bk, ct⟩ env := h
theorem w_appT {k : Int} {ds xs : List D} (e : env[i]? = some (some (.tup ds))) (e2 : atI ds k = some (.lst xs)) (hl : xs.length < 100000) (h : pa env fun _ => nx (env.set i none)) : sAppT i k pa ⟨nx, rt, bk, ct⟩ env := ⟨ds, xs, e, e2, hl, h⟩
theorem w_minD (h : pa env fun d => pb env fun z => ∃ ns, intsL d = some ns ∧ flat z = true ∧ (ns = [] → Q z) ∧ (0 < ns.length → ∀ m, m ∈ ns → (∀ y ∈ ns, m ≤ y) → Q (.int m))) : pMinD pa pb env Q := h
/-- over the images of a list, behind what is made -/
theorem pMap_acc {α : Type} {h : α → D} {f : D → List D → (List D → Prop) → Prop} (g : α → D) {K : List D → Prop} (xs : List α) (acc : List D) (hl : acc.length + xs.length ≤ 100000)
    (hs : ∀ x ∈ xs, ∀ (acc : List D) (K : List D → Prop), acc.length < 100000 → K (acc ++ [g x]) → f (h x) acc K) (hk : K (acc ++ xs.map g)) : pMap (xs.map h) f acc K := by
  refine pMap_gen (fun _ => true) g xs acc hl (fun x hx acc K h1 h2 _ => hs x hx acc K h1 (h2 rfl)) ?_
  rw [List.filter_eq_self.mpr (fun _ _ => rfl)]
  exact hk
/-- each turn makes several -/
theorem pMap_flat {α : Type} {h : α → D} {f : D → List D → (List D → Prop) → Prop} (l : α → List D) (n : Nat) {K : List D → Prop} : ∀ (xs : List α) (acc : List D), acc.length + xs.length * n ≤ 100000 → (∀ x ∈ xs, (l x).length ≤ n) →
    (∀ x ∈ xs, ∀ (acc : List D) (K : List D → Prop), acc.length + n ≤ 100000 → K (acc ++ l x) → f (h x) acc K) → K (acc ++ xs.flatMap l) → pMap (xs.map h) f acc K
  | [], acc, _, _, _, hk => by
    rw [List.flatMap_nil, List.append_nil] at hk
    exact hk
  | x :: r, acc, hl, hn, hs, hk => by
    rw [List.length_cons, Nat.succ_mul] at hl
    have hx := hn x List.mem_cons_self
    refine hs x List.mem_cons_self acc _ (by omega) (pMap_flat l n r _ (by rw [List.length_append]; omega) (fun y hy => hn y (List.mem_cons_of_mem _ hy)) (fun y hy => hs y (List.mem_cons_of_mem _ hy)) ?_)
    rw [List.append_assoc]
    rw [List.flatMap_cons] at hk
    exact hk
end
end G

set_option Elab.async false
set_option linter.all false
set_option maxRecDepth 100000
set_option maxHeartbeats 4000000
/-! G18: the __init__ of an own error class that begins with super().__init__(e). -/
namespace G
open PySem PySem.Spec PyProof.Rows PySem.Calls L2

/-- the context of a method whose def has the cell __class__ -/
def cxS (CX : CXT) (P : Program) (w : World) (K : PySem.W.Frag) (mg : Str → Option Value) (base : Heap) (N : List Str) (qual : Str) (scope : Scope) (f : Addr) (cd : Value) (cc : Addr) (A : Around) (outer : List PySem.Env) (s : Shared) (H : Hp) (E : XK) : Cx where
  prog := P
  w := w
  K := K
  mg := mg
  base := base
  A := A.deeper (PySem.W.ksEnv qual scope s.heap.objs.size f cd cc)
  N := N
  s_0 := s
  H_0 := H
  env := PySem.W.ksEnv qual scope s.heap.objs.size f cd cc
  outer := outer
  stack := PySem.W.ksEnv qual scope s.heap.objs.size f cd cc :: outer
  ex := []
  fn := fun _ => false
  calm := true
  pn := []
  xe := fun e s' => wpAny (model P w) (A.deeper (PySem.W.ksEnv qual scope s.heap.objs.size f cd cc)) (leaving (PySem.W.ksEnv qual scope s.heap.objs.size f cd cc) e) (fun _ s'' => CX outer H s E e s'') (fun e' s'' => CX outer H s E e' s'') s'
structure SupScope (N P : List Str) (sc : Scope) : Prop where
  kind : sc.kind = .function
  co : sc.isCoroutine = false
  gen : sc.isGenerator = false
  nd : N.Nodup
  pre : N.take P.length = P
  par : ∀ x ∈ P, sc.names.lookup x = some .local
  nocell : ∀ y ∈ sc.names, y.2 ≠ .cell
  free : ∀ y ∈ sc.names, y.2 = .free → y.1 = "__class__"
theorem zip_rev_get {x : Str} {v : Value} : ∀ {ps : List Str} {us : List Value} {i : Nat}, ps.Nodup → ps[i]? = some x → us[i]? = some v → (ps.zip us).reverse.lookup x = some v
  | [], _, _, _, h, _ => by simp at h
  | _ :: _, [], _, _, _, h => by simp at h
  | p :: ps, u :: us, 0, nd, h1, h2 => by
    simp at h1 h2
    subst h1 h2
    rw [List.zip_cons_cons, List.reverse_cons, List.lookup_append]
    have : (ps.zip us).reverse.lookup p = none := by
      rw [List.lookup_eq_none_iff]
      intro q hq
      have := (List.of_mem_zip (List.mem_reverse.mp hq)).1
      have ne : p ≠ q.1 := fun z => (List.nodup_cons.mp nd).1 (by rw [z]; exact this)
      simpa using ne
    rw [this]
    simp
  | p :: ps, u :: us, i + 1, nd, h1, h2 => by
    rw [List.zip_cons_cons, List.reverse_cons, List.lookup_append, zip_rev_get (i := i) (List.nodup_cons.mp nd).2 (by simpa using h1) (by simpa using h2)]
    rfl
theorem inv_startS {CX : CXT} {P : Program} {w : World} {K : PySem.W.Frag} {mg : Str → Option Value} {base : Heap} {N ps : List Str} {qual : Str} {scope : Scope} {f : Addr} {cd : Value} {cc : Addr} {oc : Obj} {vc : Option Value} {A : Around} {outer : List PySem.Env} {s : Shared} {h1 : Heap} {tk : Nat} {H : Hp} {E : XK} {us : List Value} {vs : List V}
    (S : SupScope N ps scope) (hcc : K.lookup cc = some oc) (hcd : oc.data = .cell vc) (hd : A.handled = none) (e0 : Env0 P w K mg base A outer s H) (hl : vs.length = ps.length) (r : Vals vs us)
    (hns : h1.Ns s.heap.objs.size (fun x => (ps.zip us).reverse.lookup x)) (hk : ∀ b o, s.heap.get? b = some o → h1.get? b = some o) :
    Inv (cxS CX P w K mg base N qual scope f cd cc A outer s H E) [] (start N vs) H { s with heap := h1, toks := tk } := by
  have hpl : ps.length ≤ N.length := by have := congrArg List.length S.pre; rw [List.length_take] at this; omega
  have ccb : base.get? cc = some oc := e0.mod.kin _ _ hcc
  have ccs := e0.bs cc oc ccb
  have cell1 : ∀ x c, (cxS CX P w K mg base N qual scope f cd cc A outer s H E).env.cells.lookup x = some c → x = "__class__" ∧ c = cc := fun x c h => by
    have h : ([("__class__", cc)] : List (Str × Addr)).lookup x = some c := h
    rw [List.lookup_cons] at h
    by_cases e : (x == ("__class__" : Str)) = true
    · rw [e] at h
      exact ⟨eq_of_beq e, (Option.some.inj h).symm⟩
    · rw [Bool.eq_false_iff.mpr e] at h
      cases h
  have noA : ∀ b : Addr, b ∉ (cxS CX P w K mg base N qual scope f cd cc A outer s H E).ex := fun b z => absurd (show b ∈ ([] : List Addr) from z) (by simp)
  refine ⟨⟨e0.mod, S.kind, rfl, rfl, Nat.le_refl _, fun y z c a b => ?_, fun y hy => ?_, fun y c z _ => (nomatch z), fun _ => hd, Around.frames_deeper e0.frames, .inr ⟨rfl, rfl⟩, fun b z => absurd z (noA b), e0.bs, e0.bsz, fun b _ _ => noA b, fun b z => absurd z (noA b), e0.funs, e0.frf⟩,
    rfl, e0.bare, Un.kept hk, ⟨_, hns, fun i y v a b c => ?_⟩, fun y c h => ?_, e0.hok.fresh (Nat.le_refl _), fun y c h => ?_, fun p hp => absurd (show p ∈ ([] : List (Addr × Obj)) from hp) (by simp), e0.hok.kept hk, ?_⟩
  · rw [(cell1 _ _ a).1, (cell1 _ _ b).1]
  · have hy : scope.names.lookup y = some .cell ∨ scope.names.lookup y = some .free := hy
    rcases hy with hy | hy
    · exact absurd rfl (S.nocell _ (PySem.mem_of_lookup hy))
    · have e : y = "__class__" := S.free _ (PySem.mem_of_lookup hy) rfl
      subst e
      exact ⟨cc, rfl⟩
  · have hi : i < vs.length := by
      unfold L2.start at b
      by_cases hi : i < vs.length
      · exact hi
      · rw [List.getElem?_append_right (by simpa using hi), List.getElem?_replicate] at b
        split at b <;> cases b
    have ha : vs[i]? = some v := by
      unfold L2.start at b
      rw [List.getElem?_append_left (by simpa using hi), List.getElem?_map] at b
      cases e : vs[i]? with
      | none => rw [e] at b; cases b
      | some a => rw [e] at b; cases b; rfl
    obtain ⟨u, hu, rv⟩ := r.get ha
    have hp : ps[i]? = some y := by
      rw [← S.pre, List.getElem?_take_of_lt (by omega)]
      exact a
    have ndP : ps.Nodup := by rw [← S.pre]; exact S.nd.sublist (List.take_sublist _ _)
    exact ⟨u, rv, .inl ⟨S.par y (List.mem_of_getElem? hp), zip_rev_get ndP hp hu⟩⟩
  · obtain ⟨rfl, rfl⟩ := cell1 y c h
    exact ⟨vc, oc, hk _ _ ccs.1, hcd⟩
  · obtain ⟨rfl, rfl⟩ := cell1 y c h
    exact ccs.2
  · unfold L2.start
    show _ = N.length
    rw [List.length_append, List.length_map, List.length_replicate]
    omega

section
open Builtin Builtin.ObjectAttr
variable {prog : Program} {w : World} {A : Around} {E : Value → Shared → Prop} {h : Heap} {g : Array GenState} {d : Drawn} {t : Nat} {os : OsState}
variable {nm q : Str} {C N : Addr} {bs bm : List Value} {hdct : Bool} {sn : List Str} {sub : List Value} {ab : Bool} {col : Option Bool} {dd : Option Addr} {k0 k1 k2 k3 k5 : Option Value}
/-- ValueError.__init__ bound to an error that was just made, called -/
theorem call_mw {u e t0 : Addr} {us : List Value} {Q : Value → Shared → Prop}
    (hC : h.get? C = some (excClassObj nm q C N bs bm hdct sn sub ab col dd k0 k1 k2 k3 k5 "ValueError.__new__")) (he : h.get? e = some (HandSPX.excO C t0)) (hu : h.get? u = some (PySem.W.kxs_mw "ValueError.__init__" e)) (hz : us.length ≤ sizeLine)
    (hq : ∀ h' t1, (∀ b o, b ≠ e → h.get? b = some o → h'.get? b = some o) → h'.get? e = some (HandSPX.excO C t1) → Q .none ⟨h', g, d, t, os⟩) :
    wpAny (model prog w) A (call (.ref u) us) Q E ⟨h, g, d, t, os⟩ := by
  refine wpAny_call (codeAny_of_tree ?_)
  show wpAny _ _ (callAny (.ref u) ⟨us, []⟩) _ _ _
  unfold callAny
  refine wpAny_bind (wpAny_load hu ?_)
  dsimp only [PySem.W.kxs_mw]
  rw [if_pos (show (Value.type "method-wrapper" == Value.type "method" || Value.type "method-wrapper" == Value.type "builtin_function_or_method" || Value.type "method-wrapper" == Value.type "method-wrapper") = true by decide)]
  show wpAny _ _ (if (Value.type "method-wrapper" != Value.type "method") = true then (checkBoundCall "ValueError.__init__" { pos := Value.ref e :: us } >>= fun _ => again (.builtin "ValueError.__init__" { pos := Value.ref e :: us })) else again (.call (.builtin "ValueError.__init__") { pos := Value.ref e :: us })) _ _ _
  rw [if_pos (show (Value.type "method-wrapper" != Value.type "method") = true by decide)]
  refine wpAny_bind (ESX.check_bound F.excBase_ValueError hC he rfl ?_)
  refine wpAny_pure ?_
  refine ⟨plainId_quiet F.excBase_ValueError.init.plain _, codeAny_builtin F.excBase_ValueError.initEntry ?_⟩
  exact PySem.W.exc_init_tree (cls := .ref C) (t0 := t0) (dv := none) (c2 := .none) (c3 := .none) (b4 := .bool false) he hz fun h' k1 k2 _ => hq h' _ k1 k2
end

/-- what the classes say: C's instances go by D's super() to ValueError -/
structure SupOk (K : PySem.W.Frag) (C D : Addr) : Prop where
  mro : PySem.W.mroIn K C (.ref D) = some true
  ini : PySem.W.ks_superIn K C D "__init__" = some (some (.builtin "ValueError.__init__"))
  sub : PySem.W.subIn K (.ref C) (.type "ValueError") = some true
/-- what stands of the def -/
structure SupD (P : Program) (K : PySem.W.Frag) (mg : Str → Option Value) (ps : List Str) (params : Arguments) (scope : Scope) (D cda cc : Addr) : Prop where
  code : ∃ ccl cdd fvs ccs file tf, K.lookup cda = some ⟨ccl, cdd, .fields fvs, ccs⟩ ∧ fvs[2]? = some (.str file tf) ∧ ((P.main.file : Str) == file) = true
  cell : ∃ cl cld csl, K.lookup cc = some ⟨cl, cld, .cell (some (.ref D)), csl⟩
  cls : ∃ cd, PySem.W.clsIn K D = some cd
  sup : mg "super" = none
  top : (P.main.scope.names.lookup ("super" : Str)).isSome = false
  ks : scope.names.lookup ("super" : Str) = some .globalImplicit
  kc : scope.names.lookup ("__class__" : Str) = some .free
  first : ∃ ar r, (params.posonlyargs ++ params.args).head? = some ar ∧ ps = ar.arg :: r
  no3 : PySem.W.nsIn K cStatics "thirdparty.any" = some none
theorem fn_sup {CX : CXT} {P : Program} {w : World} {K : PySem.W.Frag} {mg : Str → Option Value} {base : Heap} {k : Nat} {f D cda cc : Addr} {name qual : Str} {params : Arguments} {msg : Expr} {rest : List Stmt} {p0 p1 p2 p3 p4 : Pos} {scope : Scope} {dV kV doc pm ct oc : Value} {an od : Option Addr}
    {osl : Array (Option Value)} {N ps : List Str} {sp : Sp} (lk : K.lookup f = some ⟨oc, od, .func (PySem.W.ksFn name qual params (.Expr (.Call (.Attribute (.Call (.Name "super" p0) [] [] p1) "__init__" p2) [msg] [] p3) p4 :: rest) scope dV kV doc pm an (.ref cda) ct cc), osl⟩)
    (hcd : PySem.W.codeIn K (.ref cda) qual = true) (S : SupScope N ps scope) (SD : SupD P K mg ps params scope D cda cc)
    (hst : ∀ L, starEach [msg] (PySem.W.ksEnv qual scope L f (.ref cda) cc) = (false, eval msg (PySem.W.ksEnv qual scope L f (.ref cda) cc)) :: starEach [] (PySem.W.ksEnv qual scope L f (.ref cda) cc))
    (hsw : ∀ L, swapsWith (.Call (.Attribute (.Call (.Name "super" p0) [] [] p1) "__init__" p2) [msg] [] p3) none p4.line (PySem.W.ksEnv qual scope L f (.ref cda) cc) = pure false)
    (hev : ∀ L, ∃ pl : Sem Bool, eval (.Call (.Attribute (.Call (.Name "super" p0) [] [] p1) "__init__" p2) [msg] [] p3) (PySem.W.ksEnv qual scope L f (.ref cda) cc) = (do
      let ov ← attributeBase (.Call (.Name "super" p0) [] [] p1) "__init__" (PySem.W.ksEnv qual scope L f (.ref cda) cc) (eval (.Call (.Name "super" p0) [] [] p1) (PySem.W.ksEnv qual scope L f (.ref cda) cc))
      standAt p2.atName
      let (m, first) ← holding [ov] (getMethod ov "__init__" pl)
      callWith p3 m first (backTo p3 (starEach [msg] (PySem.W.ksEnv qual scope L f (.ref cda) cc))) []))
    (len : ∀ vs H Q E, sp vs H Q E → vs.length = ps.length)
    (hbody : ∀ (A : Around) (outer : List PySem.Env) (s : Shared) (H : Hp) (vs : List V) (Q : VK) (E : XK), Room k (A.deeper (PySem.W.ksEnv qual scope s.heap.objs.size f (.ref cda) cc)) → sp vs H Q E →
      ∃ (a C : Addr) (r : List V) (ta : TA) (t : TS), vs = .ref a :: r ∧ OexC K C ∧ SupOk K C D ∧ H a = some (exo a C none) ∧ PA (cxS CX P w K mg base N qual scope f (.ref cda) cc A outer s H E) [msg] ta ∧ PSs (cxS CX P w K mg base N qual scope f (.ref cda) cc A outer s H E) rest t ∧
        ta (start N vs) H fun ws H1 => ws.length ≤ 1000 ∧ H1 a = some (exo a C none) ∧ t { nx := fun _ H' => Q .non H', rt := Q } (start N vs) H1) :
    FnOk P w K mg base CX (k + 1) f (PySem.W.ksFn name qual params (.Expr (.Call (.Attribute (.Call (.Name "super" p0) [] [] p1) "__init__" p2) [msg] [] p3) p4 :: rest) scope dV kV doc pm an (.ref cda) ct cc) ps sp := by
  refine ⟨len, fun A outer s H args us vs Q E hr e0 hb r hsp => ?_⟩
  have hl := len _ _ _ _ hsp
  have KX : K.In s.heap := e0.mod.kin.keeps fun b o e => (e0.bs b o e).1
  have lim : s.heap.NoLimit := e0.mod.nolimit.keeps fun b o e => (e0.bs b o e).1
  obtain ⟨cl, cld, csl, hcell⟩ := SD.cell
  refine ks_codeAny_call_defAt (body := _) (binds := ps.zip us) hr.depth (KX _ _ lk) rfl lim (PySem.W.codeRec_of KX hcd) rfl hb S.nocell (fun y hy => S.par _ (List.of_mem_zip hy).1) (fun h1 hns hk => ?_) S.co S.gen S.kind
  obtain ⟨a, C, rv, ta, t, rfl, T, SO, ea, ha, ht, hq⟩ := hbody A outer s H vs Q E (hr.deeper _) hsp
  have I : Inv (cxS CX P w K mg base N qual scope f (.ref cda) cc A outer s H E) [] (start N (.ref a :: rv)) H { s with heap := h1, toks := s.toks + (ps.zip us).length } := inv_startS S hcell rfl hr.hd e0 hl r hns hk
  refine ks_wpAt_mono (Q := fun fl s' => SP (cxS CX P w K mg base N qual scope f (.ref cda) cc A outer s H E) [] { nx := fun _ H' => Q .non H', rt := Q } fl s') (E := (cxS CX P w K mg base N qual scope f (.ref cda) cc A outer s H E).xe) ?_ (fun fl s' hs => ?_) fun e s' z => z
  · obtain ⟨ccl, cdd, fvs, ccs, file, tf, hco, hvs, hfile⟩ := SD.code
    obtain ⟨ar, pr, hp, eps⟩ := SD.first
    obtain ⟨cdD, hD⟩ := SD.cls
    obtain ⟨mb, hmb, hboot⟩ := e0.mod.blt
    have kin1 : K.In h1 := fun b o e => hk _ _ (KX b o e)
    obtain ⟨oD, hD1, hD2⟩ : ∃ oD, h1.get? D = some oD ∧ oD.data = .cls cdD := by
      unfold PySem.W.clsIn at hD
      split at hD
      · rename_i c d cd' sl ho
        cases hD
        exact ⟨_, kin1 _ _ ho, rfl⟩
      · cases hD
    obtain ⟨t1, hoa⟩ := exo_at I.hok ea
    subst eps
    cases r with
    | @cons _ u0 _ ur ru rest' =>
    obtain rfl : u0 = Value.ref a := ru
    obtain ⟨pl, hev⟩ := hev s.heap.objs.size
    refine ks_wpAt_execs_cons (ks_wpAt_Expr_any (ks_wpAt_MethodCall ?_ hev) I.quiet (hsw _))
    refine ks_wpAt_super_base (env := PySem.W.ksEnv qual scope s.heap.objs.size f (.ref cda) cc) SD.ks SD.kc (by decide) rfl (kin1 _ _ lk) rfl hp rfl (kin1 _ _ hco) rfl hvs hfile SD.top ?_
    refine PySem.W.ks_loadName_global S.kind SD.ks (loadGlobal_builtin (env := PySem.W.ksEnv qual scope s.heap.objs.size f (.ref cda) cc) (e0.mod.glob.keeps fun b o e => hk _ _ (e0.bs b o e).1) SD.sup (hmb.keeps fun b o e => hk _ _ (e0.bs b o e).1) ((hboot _ (by decide)).trans (by decide +kernel)) ⟨rfl, ?_⟩)
    refine wpAny_loadName_free S.kind SD.kc rfl ⟨_, kin1 _ _ hcell, rfl⟩ ?_
    refine wpAny_loadName_local S.kind (S.par _ List.mem_cons_self) hns (v := .ref a) (zip_rev_get (i := 0) (by rw [← S.pre]; exact S.nd.sublist (List.take_sublist _ _)) rfl rfl) ?_
    refine ks_wpAny_isType_cls hD1 hD2 ⟨rfl, ?_⟩
    refine ks_wpAny_call_super hD1 hD2 hoa rfl (fun c e => by cases e) (PySem.W.looks_mroIn kin1 SO.mro) (fun h2 e2 k2 => ?_)
    have I2 := I.kept (h' := h2) (t' := s.toks + ((ar.arg :: pr).zip (Value.ref a :: ur)).length) k2
    have kin2 : K.In h2 := fun b o e => k2 _ _ (kin1 b o e)
    have hoa2 := k2 _ _ hoa
    cases hcC : PySem.W.clsIn K C with
    | none =>
      have z := SO.ini
      unfold PySem.W.ks_superIn at z
      rw [hcC] at z
      cases z
    | some cdC =>
      have ini := SO.ini
      unfold PySem.W.ks_superIn at ini
      rw [hcC] at ini
      have inst : PySem.W.InstAt h2 a _ C none := ⟨hoa2, rfl, rfl, trivial⟩
      refine PySem.W.kxs_getMethod PySem.W.kxs_ValueError e2 (PySem.W.looks_opaque kin2 SD.no3) (l₀ := cdC.mro) (fun A Q E s k q => wpAny_bind ((PySem.W.looks_clsIn kin2 hcC) A _ E s k (wpAny_pure q))) rfl kin2 ini (inst.type.andThen (PySem.W.looks_subIn kin2 SO.sub)) (PySem.W.ks_ne kin2 inst hcC) (by decide) ?_
      have kU : ∀ b o, h2.get? b = some o → (h2.push (PySem.W.kxs_mw "ValueError.__init__" a)).get? b = some o := fun b o e => Heap.get?_push_of_some _ e
      have atU : (h2.push (PySem.W.kxs_mw "ValueError.__init__" a)).get? h2.objs.size = some (PySem.W.kxs_mw "ValueError.__init__" a) := Heap.get?_push_size _ rfl
      have I3 := (I2.kept (t' := s.toks + ((ar.arg :: pr).zip (Value.ref a :: ur)).length + 1) kU).pins_of (pins' := [(h2.objs.size, PySem.W.kxs_mw "ValueError.__init__" a)]) (fun p hp => by
        rw [List.mem_singleton.mp hp]
        exact ⟨atU, I2.hok.fresh (Nat.le_refl _), Nat.ne_of_gt I2.lt, I2.nofs (Nat.le_refl _), fun v z => by cases z⟩)
      show wpAny _ _ (callWith p3 (.ref h2.objs.size) [] (backTo p3 (starEach [msg] (PySem.W.ksEnv qual scope s.heap.objs.size f (.ref cda) cc))) []) _ _ _
      have hrun := ha.run p3 _ _ _ H _ I3 hq
      have est : starEach [msg] (cxS CX P w K mg base N qual scope f (.ref cda) cc A outer s H E).env = _ := hst s.heap.objs.size
      rw [est] at hrun
      rw [hst]
      refine PySem.W.kxs_callWith (i := "ValueError.__init__") (x := a) rfl (evalArgs_plain ?_)
      refine thn hrun fun us4 s4 ⟨ws, H4, I4, r4, hz, ea4, q4⟩ => ?_
      have e4 := (I4.pin (h2.objs.size, PySem.W.kxs_mw "ValueError.__init__" a) (List.mem_append_right _ List.mem_cons_self)).1
      refine ⟨e4, ?_⟩
      obtain ⟨nm, qn, N', bs, bm, sn, sub, ab, col, dd, k0, k1, k2', k3, k5, hC, hbm⟩ := T.cls
      obtain ⟨t4, hoa4⟩ := exo_at I4.hok ea4
      obtain ⟨hp4, g4, d4, tk4, os4⟩ := s4
      refine call_mw (I4.kIn _ _ hC) hoa4 e4 (by rw [List.nil_append, ← r4.length, sizeLine_eq]; omega) fun h5 t5 k6 e5 => ?_
      have J := I4.write (t' := tk4) (x := a) (e := a) (o := exo a C none) (by rw [ea4]; exact True.intro) (.inl rfl) k6 ⟨_, e5⟩ (exo_ok e5)
      have eu : upd H4 a (exo a C none) = H4 := funext fun b => by
        by_cases hb : b = a
        · rw [hb, upd_same, ea4]
        · rw [upd_ne hb]
      rw [eu] at J
      exact wpAt_of_wpAny (ht.run [] _ _ _ _ (J.pins_of (pins' := []) fun p z => by cases z) q4)
  · cases fl with
    | ret u =>
      obtain ⟨v, σ', H', J, rv2, q⟩ := hs
      exact ⟨v, H', J.os, J.bare, J.base, J.hok, rv2, q⟩
    | next =>
      obtain ⟨σ', H', J, q⟩ := hs
      exact ⟨.non, H', J.os, J.bare, J.base, J.hok, rfl, q⟩
    | brk => exact hs.choose_spec.choose_spec.2.elim
    | cont => exact hs.choose_spec.choose_spec.2.elim
end G

set_option Elab.async false
set_option linter.all false
set_option maxRecDepth 100000
set_option maxHeartbeats 4000000
/-! G19: defs that let errors out; raise. -/
namespace G
open PySem PySem.Spec PyProof.Rows L2

/-- a def's own context, where errors leave it: QX is wished of them -/
abbrev gx1 (QX : Xn → Prop) (P : Program) (w : World) (K : PySem.W.Frag) (mg : Str → Option Value) (base : Heap) (N : List Str) (qual : Str) (scope : Scope) (f : Addr) (cd : Value) (A : Around) (outer : List PySem.Env) (s : Shared) (H : Hp) (E : XK) (k : Nat) (nd : N.Nodup) (hr : Room k (A.deeper (envOfC qual scope s.heap.objs.size f cd))) : GX (fun x _ => QX x) where
  I := Unit
  X := fun _ => cxOf (L2.CX P w) P w K mg base N qual scope f cd A outer s H E
  K := K
  mg := mg
  P := P
  w := w
  base := base
  lv := k
  E := fun c d _ H => E c d H
  hK := fun _ => rfl
  hmg := fun _ => rfl
  hP := fun _ => rfl
  hw := fun _ => rfl
  hb := fun _ => rfl
  cm := true
  calm' := fun _ => rfl
  nd := fun _ => nd
  hd := fun _ _ => hr.hd
  roomH := fun _ => ⟨hr.dp, hr.un⟩
  tk := fun _ => takes_of rfl rfl rfl rfl
  po := fun _ => passes_of rfl
section
variable {P : Program} {w : World} {K : PySem.W.Frag} {mg : Str → Option Value} {base : Heap}
/-- THE RULE for a def that may let errors out -/
theorem okX {dvs : List V} {kws : List (Str × V)} {x qual : Str} {st : Stmt} {f : Addr} {fd : FuncData} {N ps : List Str} {k : Nat} {rm : M} {Pf : PF} {ms' : List SM} {p : (Xn → Prop) → PS'} (Fn : FunD K x qual (defArgs st) (defBody st) (defScope st) dvs kws f fd) (S : FnScope N ps (defScope st))
    (len : ∀ ds QD QX, Pf ds QD QX → ds.length = ps.length) (hle : ps.length ≤ N.length)
    (body : ∀ (QX : Xn → Prop) (cdv : Value) (A : Around) (outer : List PySem.Env) (s : Shared) (H : Hp) (E : XK) (hr : Room k (A.deeper (envOfC qual (defScope st) s.heap.objs.size f cdv))),
      GSs (gx1 QX P w K mg base N qual (defScope st) f cdv A outer s H E k S.nd hr) (cn0 rm N.length) (List.replicate N.length (.ow .sh)) (defBody st) ms' (p QX))
    (main : ∀ (ds : List D) (QD : D → Prop) (QX : Xn → Prop), Pf ds QD QX → p QX { nx := fun _ => QD .non, rt := fun d _ => QD d } (env0 N ds)) :
    FnOk P w K mg base (L2.CX P w) (k + 1) f fd ps (spG K rm Pf) := by
  refine Fn.ok S (fun vs H Q E h => ?_) (fun cdv A outer s H vs Q E hr h => ?_)
  · obtain ⟨F, ds, QD, QX, s, r, p, _⟩ := h
    rw [r.length]
    exact len ds QD QX p
  · obtain ⟨F, ds, QD, QX, sF, r, hp, k1, k2⟩ := h
    obtain ⟨t, h1, h2⟩ := body QX cdv A outer s H E hr
    refine ⟨t, h1 (), ?_⟩
    have hl := len ds QD QX hp
    have s0 := sls_start (H := H) (N.length - ds.length) r
    rw [show ds.length + (N.length - ds.length) = N.length by omega] at s0
    have es : start N vs = vs.map some ++ List.replicate (N.length - ds.length) none := by
      unfold L2.start
      rw [r.length]
    rw [es]
    have fin : ∀ {F' H' : Hp} {A' : List Addr}, Step [] F H A' F' H' → Sub F' H' → Grow F H F' H' := fun {F' H' A'} s z => ⟨z, s.same, fun a ha => (s.keep a ha (by simp)).2⟩
    refine h2 F H (env0 N ds) _ [] _ _ ⟨subS_un (by simp), sF, s0, List.nodup_nil, fun _ z => by cases z⟩ (main ds QD QX hp) ⟨fun F' H' env σ A' s k q => ?_, fun F' H' env σ A' s k q => q.elim, fun F' H' env σ A' s k q => q.elim, fun F' H' env σ A' d v fp s k r n z q => ?_, fun F' H' env σ A' x c dx s k r z => ?_⟩
    · exact k1 F' H' .non .non [] (fin s k.ok.sub) (Rep.flatM (F := F') rfl rfl) List.nodup_nil (fun _ z => by cases z) q
    · refine k1 F' H' d v fp (fin s k.sub) r n (fun a ha => ⟨?_, (z a ha).2.1⟩) q
      rcases (z a ha).2.2 with y | y
      · cases y
      · exact y
    · exact k2 F' H' x c dx (fin s k.sub) r z
end

/-! ### raise -/
abbrev PXm := Env → (Xn → Prop) → Prop
/-- an expression that makes an error -/
def GM {Ex : Xn → Env → Prop} (Z : GX Ex) (ms : List SM) (e : Expr) (p : PXm) : Prop := ∃ t : L2.St → Hp → XK → Prop, (∀ i, PMk (Z.X i) e t) ∧
  ∀ (F H : Hp) (env : Env) (σ : L2.St) (A : List Addr) (Q : Xn → Prop) (k : XK), StOk Z.K ms F H env σ A → p env Q → (∀ F' H' x c dx, Grow F H F' H' → RepX Z.K H H' x c dx → Q x → k c dx H') → (∀ F' H' x c dx, Grow F H F' H' → RepX Z.K H H' x c dx → Ex x env → Z.E c dx σ H') → t σ H k
section
variable {Ex : Xn → Env → Prop} {Z : GX Ex} {C : Cn} {ms ms1 : List SM} {a b c e : Expr} {es : List Expr} {pa pb pc p : PX} {ps : PXs} {pm : PXm} {pos : Pos}
def sRaise (Ex : Xn → Env → Prop) (pm : PXm) : PS' := fun _ env => pm env fun x => Ex x env
theorem gs_raise (h : GM Z ms e pm) (hcm : Z.cm = true := by rfl) : GS Z C ms (.Raise (some e) none pos) ms1 (sRaise Ex pm) := by
  obtain ⟨t, h1, h2⟩ := h
  refine ⟨_, fun i => ps_raise (Z.calm hcm i) (Z.tk i) (h1 i), fun F H env σ A e D h p o => ?_⟩
  exact h2 F H env σ A _ _ h.ok p (fun F' H' x c dx g y z => o.hx h F' H' x c dx g y z) (o.hx h)
end

/-! ### own errors with one attribute, made by super().__init__(e); self.f = x -/
/-- a message that reads slot 1, an int, at most -/
def MsgOk (X : Cx) (msg : Expr) : Prop := ∃ te : TE, PE X msg te ∧ ∀ (σ : L2.St) (H : Hp) (Q : VK) (i : Int), σ[1]? = some (some (.int i)) → i.natAbs < 10 ^ 30 → (∀ y, Q (.str y) H) → te σ H Q
theorem ten30 {i : Int} (h : i.natAbs < 10 ^ 30) : (Str.ofString (toString i)).length ≤ 31 := by
  rw [PySem.ofString_length]
  exact int_text_length_le10 (by decide) h
theorem log30 {i : Int} (h : i.natAbs < 10 ^ 30) : i.natAbs.log2 < 1920 := by
  by_cases z : i.natAbs = 0
  · rw [z]; decide
  · exact Nat.lt_trans ((Nat.log2_lt (k := 100) z).mpr (Nat.lt_trans h (by decide))) (by decide)
section
variable {X : Cx} {s s2 : Str} {x : Str} {j j2 k : Nat} {p p2 p3 p4 pos : Pos}
theorem msg_c : MsgOk X (.Constant (.str s) j p) := ⟨_, pe_str, fun _ _ _ _ _ _ h => h s⟩
theorem msg_f1 (hN : X.N[1]? = some x) (hv : Vis X.env.scope x) (hd : (x == ("__debug__" : Str)) = false) (hcd : (x == ("__classdict__" : Str)) = false) (hs : s.length ≤ 1000) : MsgOk X (.JoinedStr [.Constant (.str s) j p, .FormattedValue (.Name x p2) (-1) none p3] pos) := by
  refine ⟨_, pe_joined (.cons pe_str (.cons (pe_fmt (pe_var hN hv hd hcd)) .nil)), fun σ H Q i e hi h => ?_⟩
  have l0 : (Str.empty ++ s).length ≤ 1000 := by rw [strLen_append, show Str.empty.length = 0 from rfl]; omega
  refine ⟨s, rfl, by rw [sizeLine_eq]; omega, .int i, e, .inr ⟨i, rfl, log30 hi, _, rfl, ?_, h _⟩⟩
  have := ten30 hi
  rw [strLen_append, sizeLine_eq]
  have e2 : (toString i : Str).length = (Str.ofString (toString i)).length := rfl
  omega
theorem msg_f2 (hN : X.N[1]? = some x) (hv : Vis X.env.scope x) (hd : (x == ("__debug__" : Str)) = false) (hcd : (x == ("__classdict__" : Str)) = false) (hs : s.length ≤ 1000) (hs2 : s2.length ≤ 1000) : MsgOk X (.JoinedStr [.Constant (.str s) j p, .FormattedValue (.Name x p2) (-1) none p3, .Constant (.str s2) j2 p4] pos) := by
  refine ⟨_, pe_joined (.cons pe_str (.cons (pe_fmt (pe_var hN hv hd hcd)) (.cons pe_str .nil))), fun σ H Q i e hi h => ?_⟩
  have l0 : (Str.empty ++ s).length ≤ 1000 := by rw [strLen_append, show Str.empty.length = 0 from rfl]; omega
  have := ten30 hi
  have l1 : ((Str.empty ++ s) ++ Str.ofString (toString i)).length ≤ 1031 := by rw [strLen_append]; omega
  refine ⟨s, rfl, by rw [sizeLine_eq]; omega, .int i, e, .inr ⟨i, rfl, log30 hi, _, rfl, ?_, s2, rfl, ?_, h _⟩⟩
  · rw [sizeLine_eq]
    exact Nat.le_trans l1 (by decide)
  · rw [strLen_append, sizeLine_eq]
    have l2 : ((Str.empty ++ s) ++ (toString i : Str)).length ≤ 1031 := l1
    omega
end
/-- what such an __init__ promises -/
def spE1 (K : PySem.W.Frag) (C : Addr) (f : Str) : Sp := fun vs H Q E => ∃ (a : Addr) (i : Int), vs = [.ref a, .int i] ∧ OexC K C ∧ PySem.W.findIn K (.ref C) f = some none ∧ H a = some (exo a C none) ∧ i.natAbs < 10 ^ 30 ∧
  ∀ d, H d = none → d ≠ a → Q .non (upd (upd H d (exd d [(f, .int i)])) a (exo a C (some d)))
theorem fn_err1 {P : Program} {w : World} {K : PySem.W.Frag} {mg : Str → Option Value} {base : Heap} {k : Nat} {fI D cda cc : Addr} {name qual x f : Str} {params : Arguments} {msg : Expr} {p0 p1 p2 p3 p4 q0 q1 q2 q3 : Pos} {scope : Scope} {dV kV doc pm ct oc : Value} {an od : Option Addr}
    {osl : Array (Option Value)} (lk : K.lookup fI = some ⟨oc, od, .func (PySem.W.ksFn name qual params (.Expr (.Call (.Attribute (.Call (.Name "super" p0) [] [] p1) "__init__" p2) [msg] [] p3) p4 :: [.Assign [.Attribute (.Name "self" q0) f q1] (.Name x q2) q3]) scope dV kV doc pm an (.ref cda) ct cc), osl⟩)
    (hcd : PySem.W.codeIn K (.ref cda) qual = true) (S : SupScope ["self", x] ["self", x] scope) (SD : SupD P K mg ["self", x] params scope D cda cc)
    (hst : ∀ L, starEach [msg] (PySem.W.ksEnv qual scope L fI (.ref cda) cc) = (false, eval msg (PySem.W.ksEnv qual scope L fI (.ref cda) cc)) :: starEach [] (PySem.W.ksEnv qual scope L fI (.ref cda) cc))
    (hsw : ∀ L, swapsWith (.Call (.Attribute (.Call (.Name "super" p0) [] [] p1) "__init__" p2) [msg] [] p3) none p4.line (PySem.W.ksEnv qual scope L fI (.ref cda) cc) = pure false)
    (hev : ∀ L, ∃ pl : Sem Bool, eval (.Call (.Attribute (.Call (.Name "super" p0) [] [] p1) "__init__" p2) [msg] [] p3) (PySem.W.ksEnv qual scope L fI (.ref cda) cc) = (do
      let ov ← attributeBase (.Call (.Name "super" p0) [] [] p1) "__init__" (PySem.W.ksEnv qual scope L fI (.ref cda) cc) (eval (.Call (.Name "super" p0) [] [] p1) (PySem.W.ksEnv qual scope L fI (.ref cda) cc))
      standAt p2.atName
      let (m, first) ← holding [ov] (getMethod ov "__init__" pl)
      callWith p3 m first (backTo p3 (starEach [msg] (PySem.W.ksEnv qual scope L fI (.ref cda) cc))) []))
    (hmsg : ∀ A outer s H E, MsgOk (cxS CX0 P w K mg base ["self", x] qual scope fI (.ref cda) cc A outer s H E) msg)
    (hsw2 : ∀ L, swapsWith (.Name x q2) (some (.Attribute (.Name "self" q0) f q1)) q3.line (PySem.W.ksEnv qual scope L fI (.ref cda) cc) = pure false)
    (hx1 : (x == ("__debug__" : Str)) = false) (hx2 : (x == ("__classdict__" : Str)) = false) {Ca : Addr} (hso : SupOk K Ca D) :
    FnOk P w K mg base CX0 (k + 1) fI (PySem.W.ksFn name qual params (.Expr (.Call (.Attribute (.Call (.Name "super" p0) [] [] p1) "__init__" p2) [msg] [] p3) p4 :: [.Assign [.Attribute (.Name "self" q0) f q1] (.Name x q2) q3]) scope dV kV doc pm an (.ref cda) ct cc) ["self", x] (spE1 K Ca f) := by
  refine fn_sup lk hcd S SD hst hsw hev (fun vs H Q E h => by obtain ⟨a, i, rfl, _⟩ := h; rfl) fun A outer s H vs Q E hr h => ?_
  obtain ⟨a, i, rfl, T, hno, ea, hi, hq⟩ := h
  obtain ⟨te, m1, m2⟩ := hmsg A outer s H E
  have v0 : Vis scope "self" := .inl (S.par _ List.mem_cons_self)
  have v1 : Vis scope x := .inl (S.par _ (List.mem_cons_of_mem _ List.mem_cons_self))
  refine ⟨a, Ca, [.int i], _, _, rfl, T, hso, ea, pa_cons m1 pa_nil (hst s.heap.objs.size), pss_one (ps_ost (X := cxS CX0 P w K mg base ["self", x] qual scope fI (.ref cda) cc A outer s H E) (pe_var (i := 0) (x := "self") rfl v0 (by decide) (by decide)) (pe_var (i := 1) (x := x) rfl v1 hx1 hx2) (hsw2 _)), ?_⟩
  refine m2 _ _ _ i rfl hi fun y => ⟨(show 1 ≤ 1000 by decide), ea, ?_⟩
  exact ⟨.int i, rfl, .ref a, rfl, a, Ca, rfl, T, hno, .inl ⟨ea, fun dx h1 h2 => hq dx h1 h2⟩⟩
section
variable {Ex : Xn → Env → Prop} {Z : GX Ex} {C : Cn} {ms ms1 : List SM} {a b c e : Expr} {es : List Expr} {pa pb pc p : PX} {ps : PXs} {pm : PXm} {pos p2 : Pos} {x f : Str} {Ca : Addr}
/-- an own error class with one attribute -/
structure Er1 (Z : GX Ex) (x : Str) (Ca : Addr) (f : Str) : Prop where
  ex : ∃ (fI : Addr) (fd : FuncData) (prm : List Str) (k : Nat), FnOk Z.P Z.w Z.K Z.mg Z.base CX0 k fI fd prm (spE1 Z.K Ca f) ∧ k + 1 ≤ Z.lv ∧ Z.mg x = some (.ref Ca) ∧ OexC Z.K Ca ∧ PySem.W.findIn Z.K (.ref Ca) "__init__" = some (some (.ref fI)) ∧
    PySem.W.typeIn Z.K (.ref fI) = some (.type "function") ∧ Binds Z.K fd prm [] ∧ PySem.W.findIn Z.K (.ref Ca) f = some none
def pErr1 (Ca : Addr) (f : Str) (ps : PXs) : PXm := fun env Q => ps env fun ds => ∃ i : Int, ds = [.int i] ∧ i.natAbs < 10 ^ 30 ∧ Q ⟨.ref Ca, [f], [.int i]⟩
theorem gm_err1 (Gd : Er1 Z x Ca f) (ha : GV Z ms [a] ps) (hg : ∀ i, Gl (Z.X i) x := by intro i; rfl) (hdb : (x == ("__debug__" : Str)) = false := by decide)
    (he : ∀ i, starEach [a] (Z.X i).env = (false, eval a (Z.X i).env) :: starEach [] (Z.X i).env := by intro i; rfl) (hpl : ∀ i, (backTo pos (starEach [] (Z.X i).env)).any (·.1) = false := by intro i; rfl) (hcm : Z.cm = true := by rfl) :
    GM Z ms (.Call (.Name x p2) [a] [] pos) (pErr1 Ca f ps) := by
  obtain ⟨t, h1, h2⟩ := ha
  obtain ⟨fI, fd, prm, k, F1, hk, hm, T, iC, tI, hb, hno⟩ := Gd.ex
  refine ⟨_, fun i => pmk_oex (by rw [Z.hK]; exact T) (by rw [Z.hK]; exact iC) (by rw [Z.hK]; exact tI) (fn_at F1 i) ((Z.room hcm i).mono hk) (by rw [Z.hK]; exact hb) .nil pass0 (hg i) (by rw [Z.hmg]; exact hm) (h1 i) hdb (he i) (hpl i), fun F H env σ A Q kx h p hk2 hx => ?_⟩
  refine h2 F H env σ A _ _ h p (fun F1 H1 ds vs g1 r1 q1 => ?_) hx
  obtain ⟨i, rfl, hi, q1⟩ := q1
  obtain ⟨v, rest, rfl, ev, er⟩ := r1
  obtain rfl : v = .int i := ev
  obtain rfl : rest = [] := er
  refine ⟨(show 1 ≤ 1000 by decide), fun a na => ⟨a, i, rfl, T, hno, upd_same, hi, fun d h3 h4 => ?_⟩⟩
  have h5 : H1 d = none := by rw [upd_ne h4] at h3; exact h3
  refine ⟨rfl, d, [(f, .int i)], upd_same, by rw [upd_ne h4]; exact upd_same, h5, ?_⟩
  have e : upd (L2.del (upd (upd (upd H1 a (exo a Ca none)) d (exd d [(f, .int i)])) a (exo a Ca (some d))) a) d (.xd [(f, .int i)]) = upd H1 d (.xd [(f, .int i)]) := by
    funext b
    by_cases hb : b = d
    · rw [hb, upd_same, upd_same]
    · rw [upd_ne hb, upd_ne hb]
      by_cases hba : b = a
      · rw [hba, L2.del_same, na]
      · rw [L2.del_ne hba, upd_ne hba, upd_ne hb, upd_ne hba]
  rw [e]
  exact hk2 F1 _ ⟨.ref Ca, [f], [.int i]⟩ (.ref Ca) (some d) (g1.trans (Grow.new g1.sub h5)) ⟨rfl, .inr ⟨d, [.int i], rfl, upd_same, rfl, .int i, [], rfl, rfl, rfl⟩, fun d' e' => by cases e'; exact g1.fresh h5⟩ q1
end
end G

set_option Elab.async false
set_option linter.all false
set_option maxRecDepth 100000
set_option maxHeartbeats 4000000
/-! G20: try .. except X as e. -/
namespace G
open PySem PySem.Spec PyProof.Rows L2

mutual
/-- what is owned is no error's dict -/
theorem RepM.nox {K : PySem.W.Frag} {F H : Hp} : ∀ {d : D} {m : M} {v : V} {fp : List Addr}, RepM K F H d m v fp → ∀ a ∈ fp, ∀ xs, H a ≠ some (.xd xs) := by
  intro d m v fp h a ha xs
  cases d with
  | lst ds =>
    cases m with
    | el m =>
      obtain ⟨p, vs, fq, _, e, q, r⟩ := (show ∃ p vs fq, v = .ref p ∧ fp = p :: fq ∧ H p = some (.lst vs) ∧ RepMs K F H ds m vs fq by simpa only [RepM] using h)
      rw [e] at ha
      rcases List.mem_cons.mp ha with z | z
      · rw [z, q]; simp
      · exact RepMs.nox r a z xs
    | _ => simp only [RepM] at h; rw [h.1] at ha; cases ha
  | tup ds =>
    cases m with
    | el m =>
      obtain ⟨p, vs, fq, _, e, q, r⟩ := (show ∃ p vs fq, v = .ref p ∧ fp = p :: fq ∧ H p = some (.tup vs) ∧ RepMs K F H ds m vs fq by simpa only [RepM] using h)
      rw [e] at ha
      rcases List.mem_cons.mp ha with z | z
      · rw [z, q]; simp
      · exact RepMs.nox r a z xs
    | _ => simp only [RepM] at h; rw [h.1] at ha; cases ha
  | dic ks ds =>
    cases m with
    | el m =>
      obtain ⟨p, vs, fq, _, e, q, _, r⟩ := (show ∃ p vs fq, v = .ref p ∧ fp = p :: fq ∧ H p = some (.dK (ks.zip vs)) ∧ ks.length = ds.length ∧ RepMs K F H ds m vs fq by simpa only [RepM] using h)
      rw [e] at ha
      rcases List.mem_cons.mp ha with z | z
      · rw [z, q]; simp
      · exact RepMs.nox r a z xs
    | _ => simp only [RepM] at h; rw [h.1] at ha; cases ha
  | dit ks ds =>
    cases m with
    | el m =>
      obtain ⟨p, vs, fq, _, e, q, _, r⟩ := (show ∃ p vs fq, v = .ref p ∧ fp = p :: fq ∧ H p = some (.dT (ks.zip vs)) ∧ ks.length = ds.length ∧ RepMs K F H ds m vs fq by simpa only [RepM] using h)
      rw [e] at ha
      rcases List.mem_cons.mp ha with z | z
      · rw [z, q]; simp
      · exact RepMs.nox r a z xs
    | _ => simp only [RepM] at h; rw [h.1] at ha; cases ha
  | obj C ns ds =>
    cases m with
    | ob ms =>
      obtain ⟨p, dx, vs, fq, _, e, q, q2, _, r⟩ := (show ∃ p dx vs fq, v = .ref p ∧ fp = p :: dx :: fq ∧ H p = some (.ins C dx (ns.zip vs)) ∧ H dx = some (.own p) ∧ ns.length = ds.length ∧ RepMz K F H ds ms vs fq by simpa only [RepM] using h)
      rw [e] at ha
      rcases List.mem_cons.mp ha with z | z
      · rw [z, q]; simp
      · rcases List.mem_cons.mp z with z | z
        · rw [z, q2]; simp
        · exact RepMz.nox r a z xs
    | _ => simp only [RepM] at h; rw [h.1] at ha; cases ha
  | _ => simp only [RepM] at h; rw [h.1] at ha; cases ha
theorem RepMs.nox {K : PySem.W.Frag} {F H : Hp} : ∀ {ds : List D} {m : M} {vs : List V} {fp : List Addr}, RepMs K F H ds m vs fp → ∀ a ∈ fp, ∀ xs, H a ≠ some (.xd xs)
  | [], m, vs, fp, h, a, ha, xs => by
    simp only [RepMs] at h
    rw [h.2] at ha; cases ha
  | d :: ds, m, vs, fp, h, a, ha, xs => by
    simp only [RepMs] at h
    obtain ⟨x, r, f1, f2, _, e, h1, h2⟩ := h
    rw [e] at ha
    rcases List.mem_append.mp ha with z | z
    · exact RepM.nox h1 a z xs
    · exact RepMs.nox h2 a z xs
theorem RepMz.nox {K : PySem.W.Frag} {F H : Hp} : ∀ {ds : List D} {ms : List M} {vs : List V} {fp : List Addr}, RepMz K F H ds ms vs fp → ∀ a ∈ fp, ∀ xs, H a ≠ some (.xd xs)
  | [], m, vs, fp, h, a, ha, xs => by
    simp only [RepMz] at h
    rw [h.2] at ha; cases ha
  | d :: ds, [], vs, fp, h, a, ha, xs => by
    simp only [RepMz] at h
    obtain ⟨x, r, f1, f2, _, e, h1, h2⟩ := h
    rw [e] at ha
    rcases List.mem_append.mp ha with z | z
    · exact RepM.nox h1 a z xs
    · exact RepMz.nox h2 a z xs
  | d :: ds, m :: ms, vs, fp, h, a, ha, xs => by
    simp only [RepMz] at h
    obtain ⟨x, r, f1, f2, _, e, h1, h2⟩ := h
    rw [e] at ha
    rcases List.mem_append.mp ha with z | z
    · exact RepM.nox h1 a z xs
    · exact RepMz.nox h2 a z xs
end
theorem SlOk.nox {K : PySem.W.Frag} {F H : Hp} {m : SM} {d : Option D} {v : Option V} {fp : List Addr} (h : SlOk K F H m d v fp) : ∀ a ∈ fp, ∀ xs, H a ≠ some (.xd xs) := by
  cases m with
  | un => rw [show fp = [] from h]; intro a ha; cases ha
  | ow m =>
    cases d with
    | none => rw [show fp = [] from h]; intro a ha; cases ha
    | some d => obtain ⟨v, e, r⟩ := h; exact r.nox
  | io w m =>
    cases d with
    | none => rw [show fp = [] from h]; intro a ha; cases ha
    | some d => obtain ⟨e, r⟩ := h; exact r.nox
theorem SlsOk.nox {K : PySem.W.Frag} {F H : Hp} : ∀ {ms : List SM} {env : Env} {σ : L2.St} {A : List Addr}, SlsOk K F H ms env σ A → ∀ a ∈ A, ∀ xs, H a ≠ some (.xd xs)
  | [], [], [], A, h, a, ha, xs => by rw [show A = [] from h] at ha; cases ha
  | m :: ms, d :: env, v :: σ, A, ⟨f1, f2, e, h1, h2⟩, a, ha, xs => by
    rw [e] at ha
    rcases List.mem_append.mp ha with z | z
    · exact h1.nox a z xs
    · exact SlsOk.nox h2 a z xs
  | [], [], _ :: _, _, h, _, _, _ => h.elim
  | [], _ :: _, _, _, h, _, _, _ => h.elim
  | _ :: _, [], _, _, h, _, _, _ => h.elim
  | _ :: _, _ :: _, [], _, h, _, _, _ => h.elim
section
variable {Ex : Xn → Env → Prop}
/-- the body of a try -/
def GX.tr (Z : GX Ex) (W : WX) (Exb : Xn → Env → Prop) : GX Exb where
  I := { q : Z.I × List (Addr × Obj) × (Value → Shared → Prop) // Takes ((Z.X q.1).tr q.2.1 q.2.2) W ∧ PassesOwn (model (Z.X q.1).prog (Z.X q.1).w) (Z.X q.1).A (Z.X q.1).env q.2.2 }
  X := fun j => (Z.X j.1.1).tr j.1.2.1 j.1.2.2
  K := Z.K
  mg := Z.mg
  P := Z.P
  w := Z.w
  base := Z.base
  lv := Z.lv
  E := W
  hK := fun j => Z.hK j.1.1
  hmg := fun j => Z.hmg j.1.1
  hP := fun j => Z.hP j.1.1
  hw := fun j => Z.hw j.1.1
  hb := fun j => Z.hb j.1.1
  cm := Z.cm
  calm' := fun j => Z.calm' j.1.1
  nd := fun j => Z.nd j.1.1
  hd := fun h j => Z.hd h j.1.1
  roomH := fun j => Z.roomH j.1.1
  tk := fun j => j.2.1
  po := fun j => j.2.2
/-- an except suite: the error at a, of the class cls, its attributes at d -/
def GX.suite (Z : GX Ex) (a : Addr) (cls : Value) (d : Option Addr) : GX (fun _ _ => False) where
  I := { q : Z.I × Obj × List (Addr × Obj) // Zc cls d q.2.1 ∧ ∃ vs, q.2.1.data = .fields vs }
  X := fun j => (Z.X j.1.1).suite a ((a, j.1.2.1) :: j.1.2.2)
  K := Z.K
  mg := Z.mg
  P := Z.P
  w := Z.w
  base := Z.base
  lv := Z.lv
  E := fun _ _ _ _ => False
  hK := fun j => Z.hK j.1.1
  hmg := fun j => Z.hmg j.1.1
  hP := fun j => Z.hP j.1.1
  hw := fun j => Z.hw j.1.1
  hb := fun j => Z.hb j.1.1
  cm := false
  calm' := fun j => rfl
  nd := fun j => Z.nd j.1.1
  hd := fun h => nomatch h
  roomH := fun j => ⟨(Z.roomH j.1.1).dp, (Z.roomH j.1.1).un⟩
  tk := fun j => takes0
  po := fun j => PassesOwn.never
end
section
variable {Ex : Xn → Env → Prop} {Z : GX Ex} {C : Cn} {ms ms1 ms2 rmsB : List SM} {pb : (Xn → Env → Prop) → PS'} {ps : Addr → Value → Option Addr → PS'} {body suite : List Stmt} {b0 : Stmt} {i : Nat} {n x : Str} {c : Value} {np pos pos' : Pos}
/-- the error is a thing of the suite: its dict is shared -/
theorem StOk.exc {K : PySem.W.Frag} {F H : Hp} {env : Env} {σ : L2.St} {A : List Addr} {ms : List SM} (h : StOk K ms F H env σ A) {H0 : Hp} {x : Xn} {c : Value} {dx : Option Addr} (r : RepX K H0 H x c dx) :
    ∃ F', StOk K ms F' H env σ A ∧ (∀ a, H0 a ≠ none → F' a = F a) ∧ Sub F F' ∧ ∀ a, Rep K F' (.exc a dx c x.ns x.xs) (.ref a) := by
  obtain ⟨_, r1, r2⟩ := r
  rcases r1 with e | ⟨d, vs, rfl, hd, hl, rv⟩
  · exact ⟨F, h, fun _ _ => rfl, Sub.refl F, fun a => ⟨rfl, .inl e⟩⟩
  · have hd0 := r2 d rfl
    have dA : d ∉ A := fun z => h.sls.nox d z _ hd
    by_cases hF : F d = none
    · have sub1 : Sub F (upd F d (.xd (x.ns.zip vs))) := Sub.of fun a u e => by
        have : a ≠ d := fun z => by rw [z, hF] at e; cases e
        rw [upd_ne this]; exact e
      have sub2 : Sub (upd F d (.xd (x.ns.zip vs))) H := fun a u e => by
        by_cases z : a = d
        · rw [z, upd_same] at e
          cases e
          rw [z]
          exact .inl hd
        · rw [upd_ne z] at e
          exact h.sub a u e
      refine ⟨upd F d (.xd (x.ns.zip vs)), h.mono sub1 sub2 (fun _ _ => rfl) (fun a ha => ?_), fun a ha => upd_ne fun z => ha (z ▸ hd0), sub1, fun a => ⟨rfl, .inr ⟨d, vs, rfl, upd_same, hl, rv.sub fun _ _ z => by cases z⟩⟩⟩
      have ne : a ≠ d := fun z => dA (by rw [← z]; exact ha)
      rw [upd_ne ne]
      exact h.off a ha
    · refine ⟨F, h, fun _ _ => rfl, Sub.refl F, fun a => ⟨rfl, .inr ⟨d, vs, rfl, ?_, hl, rv.sub fun _ _ z => by cases z⟩⟩⟩
      cases e : F d with
      | none => exact absurd e hF
      | some u =>
        rcases h.sub d u e with q | ⟨_, o, q⟩
        · rw [hd] at q; rw [← q]
        · rw [hd] at q; cases q
/-- try: body; except x as n: suite (which always returns) -/
def tryEx (T : Value → Option Bool) (Ex : Xn → Env → Prop) (i : Nat) (ps : Addr → Value → Option Addr → PS') (e : PEnds) : Xn → Env → Prop :=
  fun x z => ∃ b, T x.cls = some b ∧ (b = true → ∀ a d, ps a x.cls d { nx := fun _ => False, rt := e.rt } (z.set i (some (.exc a d x.cls x.ns x.xs)))) ∧ (b = false → Ex x z)
def sTry (T : Value → Option Bool) (Ex : Xn → Env → Prop) (i : Nat) (pb : (Xn → Env → Prop) → PS') (ps : Addr → Value → Option Addr → PS') : PS' := fun e env => pb (tryEx T Ex i ps e) e env
theorem gs_try (hb : ∀ (W : WX) (Exb : Xn → Env → Prop), GSs (Z.tr W Exb) { C with rms := rmsB } ms body ms1 (pb Exb))
    (hsu : ∀ (a : Addr) (cls : Value) (d : Option Addr), GSs (Z.suite a cls d) { C with bk := [], ct := [] } (rmsB.set i (.ow .sh)) (b0 :: suite) ms2 (ps a cls d))
    (hms : SubS ms rmsB) (hB : SubS rmsB C.rms) (hi : i < rmsB.length := by decide) (hr : C.rms[i]? = some .un := by rfl) (hN : ∀ j, (Z.X j).N[i]? = some n := by intro j; rfl)
    (hstk : ∀ j, (Z.X j).stack = (Z.X j).env :: (Z.X j).outer := by intro j; rfl) (hf : ∀ j, (Z.X j).env.frame = some (Z.X j).env.locals := by intro j; rfl) (hln : ∀ j, (Z.X j).env.kindOf n = some .local := by intro j; rfl) (hc : ∀ j, Names (Z.X j) x c) :
    GS Z C ms (.Try body [.ExceptHandler (some (.Name x np)) (some n) (b0 :: suite) pos'] [] [] pos) ms1 (sTry (fun cls => PySem.W.exmOne Z.K cls c) Ex i pb ps) := by
  refine ⟨fun D σ H => ∃ Exb, (hb (wAs Z.K c i (fun a cls d => (hsu a cls d).choose) Z.E D) Exb).choose D σ H, fun j => ?_, fun F H env σ A e D h p o => ?_⟩
  · have := ps_try_as (X := Z.X j) (i := i) (n := n) (x := x) (c := c) (np := np) (pos := pos) (pos' := pos') (body := body) (suite := suite) (b₀ := b0) (Wout := Z.E) (tb := fun W D σ H => ∃ Exb, (hb W Exb).choose D σ H) (ts := fun a cls d => (hsu a cls d).choose) (hstk j) (hf j) (Z.nd j) (hN j) (hln j) (hc j) (Z.tk j)
      (fun W pn xe tk po => ⟨fun pins s σ H D I ⟨Exb, q⟩ => ((hb W Exb).choose_spec.1 ⟨(j, pn, xe), tk, po⟩).run pins s σ H D I q⟩)
      (fun a oe cls d pn hz hf => (hsu a cls d).choose_spec.1 ⟨(j, oe, pn), hz, hf⟩)
    rw [Z.hK j] at this
    exact this
  · refine ⟨tryEx (fun cls => PySem.W.exmOne Z.K cls c) Ex i ps e, (hb (wAs Z.K c i (fun a cls d => (hsu a cls d).choose) Z.E D) _).choose_spec.2 F H env σ A e D ⟨hms, h.ok⟩ p ⟨fun F' H' env' σ' A' s k q => o.nx F' H' env' σ' A' s ⟨k.ss.trans hB, k.ok⟩ q, fun F' H' env' σ' A' s k q => o.bk F' H' env' σ' A' s ⟨k.ss.trans hB, k.ok⟩ q,
      fun F' H' env' σ' A' s k q => o.ct F' H' env' σ' A' s ⟨k.ss.trans hB, k.ok⟩ q, fun F' H' env' σ' A' d v fp s k r n z q => ?_, fun F' H' env' σ' A' x cc dx s k r z => ?_⟩⟩
    · obtain ⟨A2, w1, w2⟩ := k.weak hB
      exact o.rt F' H' env' σ' A2 d v fp (s.more fun a ha => .inl (w2 a ha)) w1 r n (fun a ha => ⟨fun q => (z a ha).1 (w2 a q), (z a ha).2⟩) q
    · obtain ⟨b, e1, z1, z2⟩ := z
      have ecc := r.1
      subst ecc
      refine ⟨b, e1, fun hb1 a na => ?_, fun hb1 => ?_⟩
      · obtain ⟨F2, k2, keep2, s2, rx⟩ := k.exc r
        obtain ⟨A3, w1, w2⟩ := k2.put (i := i) (m := .sh) (d := .exc a dx x.cls x.ns x.xs) (v := .ref a) (fp := []) hi (RepM.sh.mpr ⟨rfl, rx a⟩) List.nodup_nil (fun _ z => by cases z) (fun _ z => by cases z)
        have in3 : ∀ y ∈ A3, y ∈ A' := fun y hy => (w2 y hy).elim id fun z => by cases z
        have st : Step A F H A3 F2 H' := ⟨fun y hy hn => ⟨(s.keep y hy hn).1, (keep2 y hy).trans (s.keep y hy hn).2⟩, fun y hy => s.own y (in3 y hy), s.nn⟩
        refine (hsu a x.cls dx).choose_spec.2 F2 H' _ _ A3 { nx := fun _ => False, rt := e.rt } _ ⟨hB.set hr, w1⟩ (z1 hb1 a dx) ⟨fun _ _ _ _ _ _ _ q => q.elim, fun _ _ _ _ _ _ _ q => q.elim, fun _ _ _ _ _ _ _ q => q.elim, fun F5 H5 env5 σ5 A5 d v fp s5 k5 r5 n5 z5 q5 => ?_, fun _ _ _ _ _ _ _ _ _ _ _ q => q.elim⟩
        exact o.rt F5 H5 env5 σ5 A5 d v fp (st.trans s5) k5 r5 n5 (fun y hy => ⟨(z5 y hy).1, (z5 y hy).2.1, st.back (z5 y hy).2.2⟩) q5
      · obtain ⟨A2, w1, w2⟩ := k.weak hB
        exact o.rs F' H' env' σ' A2 x _ dx (s.more fun a ha => .inl (w2 a ha)) w1 r (z2 hb1)
end
end G

set_option Elab.async false
set_option linter.all false
set_option maxRecDepth 100000
set_option maxHeartbeats 4000000
/-! G21: what stands in an except suite: isinstance, attributes of the error, calls of defs that take no notice of it. -/
namespace G
open PySem PySem.Spec PyProof.Rows L2

/-! ### isinstance(e, C), isinstance(e, (C, ..)) -/
def clsD : D → Option Value
  | .ref C => some (.ref C)
  | .ty n => some (.type n)
  | _ => none
/-- the class is one of these -/
def isEV (K : PySem.W.Frag) (cls : Value) (c : D) (b : Bool) : Prop := ∃ D, cls = .ref D ∧ L2.ExcC K D ∧ ((∃ cv, clsD c = some cv ∧ PySem.W.kitOne K cls cv = some b) ∨ ∃ cs cvs, c = .tup cs ∧ cs.map clsD = cvs.map some ∧ PySem.W.kitAny K cls cvs = some b)
def rIsX (K : PySem.W.Frag) (a : Addr) (cls : Value) (d : Option Addr) : List V → Hp → VK → Prop := fun xs H Q => ∃ (c : V) (b : Bool) (D : Addr), xs = [.ref a, c] ∧ cls = .ref D ∧ L2.ExcC K D ∧ (d = none ∨ ∃ dd fs, d = some dd ∧ H dd = some (.xd fs)) ∧
  ((∃ cv, ClsV c cv ∧ PySem.W.kitOne K cls cv = some b) ∨ ∃ tp cs cvs, c = .ref tp ∧ H tp = some (.tup cs) ∧ Paired ClsV cs cvs ∧ PySem.W.kitAny K cls cvs = some b) ∧ Q (.bl b) H
theorem call_isX {X : Cx} {a : Addr} {cls : Value} {d : Option Addr} {oe : Obj} {pn : List (Addr × Obj)} (hz : Zc cls d oe) (hf : ∃ vs, oe.data = .fields vs) : CallR (X.suite a ((a, oe) :: pn)) (.builtin "isinstance") (rIsX X.K a cls d) := by
  intro pins s σ H xs us Q I r h
  obtain ⟨c, b, D, rfl, rfl, C, hd, hc, q⟩ := h
  cases r with
  | cons rx rr =>
  cases rr with
  | cons rt rr =>
  cases rr
  cases rx
  obtain ⟨hget, _⟩ := I.pin (a, oe) (List.mem_append.mpr (.inl List.mem_cons_self))
  obtain ⟨vs, hv⟩ := hf
  have hno : PySem.W.notCls oe = true := by unfold PySem.W.notCls; rw [hv]
  obtain ⟨odx, J⟩ : ∃ odx, PySem.W.InstAt s.heap a oe D odx := by
    rcases hd with rfl | ⟨dd, fs, rfl, hx⟩
    · exact ⟨none, hget, hz.1, hno, by rw [hz.2]; trivial⟩
    · obtain ⟨mA, hns, _⟩ := (show ObjOk X.prog X.w H s.heap dd (.xd fs) from I.hok dd _ hx)
      obtain ⟨o, _, _, ho, _⟩ := hns
      exact ⟨some o, hget, hz.1, hno, by rw [hz.2]; exact ho⟩
  have kx := PySem.W.kitx_exc (x := a) (ox := oe) (od := odx) (by
    obtain ⟨cd, hc2, _⟩ := PySem.W.any_some C.hd
    rw [hc2]; rfl) C.hg C.hk C.hs C.ha C.hn C.ht C.hm
  rcases hc with ⟨cv, k, e⟩ | ⟨tp, cs, cvs, rfl, hT, k, e⟩
  · have e2 := k.eq rt
    subst e2
    exact PySem.W.kia_one kx I.kIn J e (fun z => nomatch z) fun tk => ⟨.bl b, H, I.kept (t' := tk) fun _ _ z => z, rfl, q⟩
  · cases (show _ = Value.ref tp from rt)
    obtain ⟨_, its, rv, o, g1, g2, n, g3⟩ := (show ObjOk X.prog X.w H s.heap tp (.tup cs) from I.hok tp _ hT)
    have e3 := ClsV.all k rv
    subst e3
    obtain ⟨oc2, od2, dt2, sl2⟩ := o
    dsimp only at g2 g3
    subst g2 g3
    exact PySem.W.kia_tup kx I.kIn J g1 e (fun z => nomatch z) fun tk => ⟨.bl b, H, I.kept (t' := tk) fun _ _ z => z, rfl, q⟩
theorem clsV_of {K : PySem.W.Frag} {F : Hp} : ∀ {cs : List D} {vs : List V} {cvs : List Value}, Reps K F cs vs → cs.map clsD = cvs.map some → Paired ClsV vs cvs
  | [], vs, cvs, r, e => by
    rw [show vs = [] from r]
    cases cvs with
    | nil => exact .nil
    | cons => cases e
  | c :: cs, vs, [], r, e => by cases e
  | c :: cs, vs, cv :: cvs, ⟨x, rest, ev, r1, r2⟩, e => by
    subst ev
    injection e with e1 e2
    refine .cons ?_ (clsV_of r2 e2)
    cases c with
    | ref C => cases e1; rw [show x = V.ref C from r1]; exact .own C
    | ty n => cases e1; rw [show x = V.ty n from r1]; exact .ty n
    | _ => cases e1
section
variable {Ex : Xn → Env → Prop} {Z : GX Ex} {ms : List SM} {a b e : Expr} {es : List Expr} {pa pb p : PX} {ps : PXs} {ra : RM} {pos p2 : Pos} {x f : Str} {ea : Addr} {cls : Value} {ed : Option Addr}
def pIsX (K : PySem.W.Frag) (ea : Addr) (cls : Value) (ed : Option Addr) (ps : PXs) : PX := fun env Q => ps env fun ds => ∃ ns xs c b, ds = [.exc ea ed cls ns xs, c] ∧ isEV K cls c b ∧ Q (.bl b)
theorem ge_isX (ha : GV (Z.suite ea cls ed) ms (a :: es) ps) (hm : Z.mg "isinstance" = none) (hg : ∀ i, Gl ((Z.suite ea cls ed).X i) "isinstance" := by intro i; rfl)
    (he : ∀ i, starEach (a :: es) ((Z.suite ea cls ed).X i).env = (false, eval a ((Z.suite ea cls ed).X i).env) :: starEach es ((Z.suite ea cls ed).X i).env := by intro i; rfl) (hpl : ∀ i, (backTo pos (starEach es ((Z.suite ea cls ed).X i).env)).any (·.1) = false := by intro i; rfl) :
    GE (Z.suite ea cls ed) ms (.Call (.Name "isinstance" p2) (a :: es) [] pos) (.ow .sh) (pIsX Z.K ea cls ed ps) := by
  obtain ⟨t, h1, h2⟩ := ha
  refine ⟨tCB (rIsX Z.K ea cls ed) t, fun i => ?_, fun F H env σ A Q k h p hk hx => ?_⟩
  · have := call_isX (X := Z.X i.1.1) (a := ea) (cls := cls) (d := ed) (oe := i.1.2.1) (pn := i.1.2.2) i.2.1 i.2.2
    rw [Z.hK i.1.1] at this
    exact pe_callB (X := (Z.suite ea cls ed).X i) this (hg i) (by rw [(Z.suite ea cls ed).hmg]; exact hm) (by decide +kernel) (h1 i) (by decide) (by decide) (he i) (hpl i)
  · refine h2 F H env σ A _ _ h p (fun F1 H1 ds vs g1 r1 q1 => ?_) hx
    obtain ⟨ns, xs, c, b, rfl, ⟨D, rfl, C, hc⟩, q1⟩ := q1
    obtain ⟨v1, rest, rfl, ⟨rfl, rd⟩, v2, r0, rfl, rc, er⟩ := r1
    obtain rfl : r0 = [] := er
    refine ⟨v2, b, D, rfl, rfl, C, ?_, ?_, ?_⟩
    · rcases rd with ⟨_, e⟩ | ⟨dd, vs, e, hx, _⟩
      · exact .inl e
      · exact .inr ⟨dd, _, e, hx⟩
    · rcases hc with ⟨cv, e1, e2⟩ | ⟨cs, cvs, rfl, e1, e2⟩
      · refine .inl ⟨cv, ?_, e2⟩
        cases c with
        | ref C' => cases e1; rw [show v2 = V.ref C' from rc]; exact .own C'
        | ty n => cases e1; rw [show v2 = V.ty n from rc]; exact .ty n
        | _ => cases e1
      · obtain ⟨tp, vs, rfl, hT, rs⟩ := rc
        exact .inr ⟨tp, vs, cvs, rfl, hT, clsV_of rs e1, e2⟩
    · exact hk F1 H1 (.bl b) _ g1 ⟨[], RepM.sh.mpr ⟨rfl, rfl⟩, List.nodup_nil, fun _ z => by cases z⟩ q1
/-- e.f -/
def pXf (K : PySem.W.Frag) (ea : Addr) (cls : Value) (ed : Option Addr) (f : Str) (pa : PX) : PX := fun env Q => pa env fun o => ∃ ns xs C j y, o = .exc ea ed cls ns xs ∧ cls = .ref C ∧ XfC K C ∧ PySem.W.findIn K (.ref C) f = some none ∧ ns.idxOf? f = some j ∧ xs[j]? = some y ∧ Q y
theorem ge_xf (ha : GE (Z.suite ea cls ed) ms a ra pa) (hp : ra.per = true := by rfl) (hb : ∀ i : (Z.suite ea cls ed).I, attributeBase a f (Z.X i.1.1).env (eval a (Z.X i.1.1).env) = eval a (Z.X i.1.1).env := by intro i; rfl) : GE (Z.suite ea cls ed) ms (.Attribute a f pos) (.ow .sh) (pXf Z.K ea cls ed f pa) := by
  obtain ⟨t, h1, h2⟩ := ha
  refine ⟨fun σ H Q => t σ H fun x H1 => x = .ref ea ∧ ∃ C dd fs v, cls = .ref C ∧ XfC Z.K C ∧ PySem.W.findIn Z.K (.ref C) f = some none ∧ ed = some dd ∧ H1 dd = some (.xd fs) ∧ fs.lookup f = some v ∧ Q v H1, fun i => ⟨fun pins s σ H Q I h => ?_⟩, fun F H env σ A Q k h p hk hx => ?_⟩
  · refine attr_of (hb i) (thn ((h1 i).run pins s σ H _ I h) fun u s1 hh => ?_)
    obtain ⟨x, H1, I1, rx, rfl, C, dd, fs, v, ec, T, hno, ed', ea', l, q⟩ := hh
    obtain rfl : u = Value.ref ea := rx
    obtain ⟨hz1, hz2⟩ := i.2.1
    obtain ⟨vs, hd⟩ := i.2.2
    have hpin := (I1.pin (ea, i.1.2.1) (List.mem_append_left _ List.mem_cons_self)).1
    obtain ⟨mA, hns, hr⟩ := (show ObjOk (Z.X i.1.1).prog (Z.X i.1.1).w H1 s1.heap dd (.xd fs) from I1.hok dd _ ea')
    obtain ⟨od, ho, hl⟩ := lookIn_ns hns
    obtain ⟨u2, hu, ru⟩ := RelO.some_of (v := v) (o := mA f) (by rw [← l]; exact hr f)
    have J : PySem.W.InstAt s1.heap ea i.1.2.1 C (some od) := ⟨hpin, by rw [hz1, ec], by unfold PySem.W.notCls; rw [hd], by rw [hz2, ed']; exact ho⟩
    have kin : Z.K.In s1.heap := by
      have := I1.kIn
      have e : ((Z.suite ea cls ed).X i).K = Z.K := (Z.suite ea cls ed).hK i
      rw [e] at this
      exact this
    exact HandSPX.exc_get kin J T.ga T.gg T.exC (PySem.W.findObj_own T.hdC hno rfl (by rw [hl, hu])) (handed_of ru) ⟨v, H1, I1.tok _, ru, q⟩
  · refine h2 F H env σ A _ _ h p (fun F0 H1 d v g0 r0 q1 => ?_) hx
    obtain ⟨F1, g1, _, r1, _⟩ := r0.share hp g0
    obtain ⟨ns, xs, C, j, y, rfl, rfl, T, hno, hj, hy, q1⟩ := q1
    obtain ⟨rfl, rd⟩ := r1
    rcases rd with ⟨e, _⟩ | ⟨dd, vs, rfl, hx2, hl, rs⟩
    · rw [e] at hj
      cases hj
    · obtain ⟨v, e3, r3⟩ := rs.get hy
      exact ⟨rfl, C, dd, _, v, rfl, T, hno, rfl, g1.sub.xd hx2, (lookup_zip hj (by rw [hl, rs.length])).trans e3, hk F1 H1 y v g1 ⟨[], RepM.sh.mpr ⟨rfl, r3⟩, List.nodup_nil, fun _ z => by cases z⟩ q1⟩
end
end G

set_option Elab.async false
set_option linter.all false
set_option maxRecDepth 100000
set_option maxHeartbeats 4000000
/-! G22: defs that may be called in an except suite: they raise nothing, catch nothing, and walk nothing. -/
namespace G
open PySem PySem.Spec PyProof.Rows L2

/-- what such a def promises -/
structure FnW (P : Program) (w : World) (K : PySem.W.Frag) (mg : Str → Option Value) (base : Heap) (k : Nat) (f : Addr) (fd : FuncData) (ps : List Str) (sp : Sp) : Prop where
  len : ∀ vs H Q E, sp vs H Q E → vs.length = ps.length
  run : ∀ (A : Around) (outer : List PySem.Env) (s : Shared) (H : Hp) (args : Args) (us : List Value) (vs : List V) (Q : VK) (E : XK), L2H.RoomH k A → Env0 P w K mg base A outer s H → BindsTo s fd args (ps.zip us) → Vals vs us → sp vs H Q E →
    codeAny (model P w) A (.call (.ref f) args) (CR CX0 outer P w H s Q E) s
def cxW (P : Program) (w : World) (K : PySem.W.Frag) (mg : Str → Option Value) (base : Heap) (N : List Str) (qual : Str) (scope : Scope) (f : Addr) (cd : Value) (A : Around) (outer : List PySem.Env) (s : Shared) (H : Hp) (E : XK) : Cx :=
  { cxOf CX0 P w K mg base N qual scope f cd A outer s H E with calm := false }
theorem fn_ofW {P : Program} {w : World} {K : PySem.W.Frag} {mg : Str → Option Value} {base : Heap} {k : Nat} {f : Addr} {name qual : Str} {params : Arguments} {body : List Stmt} {scope : Scope} {dV kV doc pm cdv ct oc : Value} {an od : Option Addr}
    {osl : Array (Option Value)} {N ps : List Str} {sp : Sp} (lk : K.lookup f = some ⟨oc, od, .func (PySem.W.fnOf name qual params body scope dV kV doc pm an cdv ct), osl⟩) (hcd : PySem.W.codeIn K cdv qual = true) (S : FnScope N ps scope)
    (len : ∀ vs H Q E, sp vs H Q E → vs.length = ps.length)
    (hbody : ∀ (A : Around) (outer : List PySem.Env) (s : Shared) (H : Hp) (vs : List V) (Q : VK) (E : XK), L2H.RoomH k (A.deeper (envOfC qual scope s.heap.objs.size f cdv)) → sp vs H Q E →
      ∃ t, PSs (cxW P w K mg base N qual scope f cdv A outer s H E) body t ∧ t { nx := fun _ H' => Q .non H', rt := Q } (start N vs) H) :
    FnW P w K mg base (k + 1) f (PySem.W.fnOf name qual params body scope dV kV doc pm an cdv ct) ps sp := by
  refine ⟨len, fun A outer s H args us vs Q E hr e0 hb r hsp => ?_⟩
  have hl := len _ _ _ _ hsp
  have kin : K.In s.heap := e0.mod.kin.keeps fun b o e => (e0.bs b o e).1
  have nolim : s.heap.NoLimit := e0.mod.nolimit.keeps fun b o e => (e0.bs b o e).1
  have kinds : ∀ y ∈ ps.zip us, scope.names.lookup y.1 = some .local ∨ (scope.names.lookup y.1 = some .cell ∧ ((cellsFrom (s.heap.objs.size + 1) scope.names []).lookup y.1).isSome = true) := fun y hy => by
    rcases S.par y.1 (List.of_mem_zip hy).1 with q | q
    · exact .inl q
    · exact .inr ⟨q, PySem.W.cellsFrom_some _ _ _ (.inl q)⟩
  refine codeAny_call_function hr.depth (kin _ _ lk) rfl S.co S.gen rfl (PySem.W.codeRec_of kin hcd) (hb _ _ _ _ ?_)
  refine wpAny_newFunctionEnv_cells S.kind kinds fun env he s1 x => ?_
  subst he
  refine ⟨nolim.keeps x.toInCall.keep, codeAny_func ?_⟩
  obtain ⟨t, ht, hq⟩ := hbody A outer s H vs Q E (hr.deeper _) hsp
  -- as if nothing were handled
  have e1 : Env0 P w K mg base { A with handled := none } outer s H := ⟨e0.frames, e0.mod, e0.bs, e0.bsz, e0.funs, e0.frf, e0.hok, e0.bare⟩
  have I0 : Inv (cxOf CX0 P w K mg base N qual scope f cdv { A with handled := none } outer s H E) [] (start N vs) H s1 := inv_start S rfl e1 hl r x
  have I : Inv (cxW P w K mg base N qual scope f cdv A outer s H E) [] (start N vs) H s1 :=
    ⟨⟨I0.ok.mod, I0.ok.kind, I0.ok.glob, I0.ok.blt, I0.ok.above, I0.ok.inj, I0.ok.has, I0.ok.cab, (fun z => nomatch z), I0.ok.frames, I0.ok.stk, I0.ok.exf, I0.ok.bs, I0.ok.bsz, I0.ok.noex, I0.ok.exfs, I0.ok.funs, I0.ok.frf⟩,
      I0.os, I0.bare, I0.base, I0.loc, I0.cell, I0.free, I0.freeC, I0.pin, I0.hok, I0.len⟩
  refine wpAny_mono (ht.run [] s1 (start N vs) H _ I hq) (fun fl s' hs => ?_) fun e s' hs => hs
  cases fl with
  | ret u =>
    obtain ⟨v, σ', H', J, rv, q⟩ := hs
    exact ⟨v, H', J.os, J.bare, J.base, J.hok, rv, q⟩
  | next =>
    obtain ⟨σ', H', J, q⟩ := hs
    exact ⟨.non, H', J.os, J.bare, J.base, J.hok, rfl, q⟩
  | brk => exact hs.choose_spec.choose_spec.2.elim
  | cont => exact hs.choose_spec.choose_spec.2.elim
section
variable {X : Cx} {k : Nat} {f C : Addr} {fd : FuncData} {ps : List Str} {sp : Sp} {ds : List Value} {dvs : List V} {E : L2.St → XK} {x m : Str} {p pos apos : Pos} {e o : Expr} {es : List Expr} {ta : TE} {t : TA}
theorem pe_callW (F : FnW X.prog X.w X.K X.mg X.base k f fd ps sp) (hr : L2H.RoomH k X.A) (hg : Gl X x) (hm : X.mg x = some (.ref f)) (hk : PySem.W.keepIn X.K (.ref f) = true) (hb : Binds X.K fd ps ds) (hd : Vals dvs ds)
    (ha : PA X (e :: es) t) (hdb : (x == ("__debug__" : Str)) = false := by decide) (he : starEach (e :: es) X.env = (false, eval e X.env) :: starEach es X.env := by rfl) (hpl : (backTo pos (starEach es X.env)).any (·.1) = false := by rfl) :
    PE X (.Call (.Name x p) (e :: es) [] pos) (tCallSD sp dvs E t) := by
  refine ⟨fun pins s σ H Q I h => wpAny_Call_Name_kw (ld_glob I hg hm ?_ hdb)⟩
  refine PySem.W.callWith_K (h₀ := X.base) I.ok.mod.kin hk (thn (ha.run pos pins s σ H _ I h) fun us s1 ⟨vs, H1, I1, r, q⟩ => ⟨I1.kIn, ?_⟩) he hpl
  have r2 := r.append hd
  have hl : (us ++ ds).length = ps.length := by rw [← r2.length]; exact F.len _ _ _ _ q
  refine wpAny_call (codeAny_mono (F.run X.A X.stack s1 H1 ⟨us, []⟩ (us ++ ds) (vs ++ dvs) Q (E σ) hr I1.env0 (hb s1 us I1.kIn hl) r2 q) fun r s' hq => ?_)
  cases r with
  | error e => exact False.elim hq
  | ok fl =>
    cases fl with
    | ret u => exact I1.after hq
    | next => exact False.elim hq
    | brk => exact False.elim hq
    | cont => exact False.elim hq
end
/-- the context of such a def -/
abbrev gxW (P : Program) (w : World) (K : PySem.W.Frag) (mg : Str → Option Value) (base : Heap) (N : List Str) (qual : Str) (scope : Scope) (f : Addr) (cd : Value) (A : Around) (outer : List PySem.Env) (s : Shared) (H : Hp) (E : XK) (k : Nat) (nd : N.Nodup) (hr : L2H.RoomH k (A.deeper (envOfC qual scope s.heap.objs.size f cd))) : GX (fun _ _ => False) where
  I := Unit
  X := fun _ => (cxW P w K mg base N qual scope f cd A outer s H E).nox
  K := K
  mg := mg
  P := P
  w := w
  base := base
  lv := k
  E := fun _ _ _ _ => False
  hK := fun _ => rfl
  hmg := fun _ => rfl
  hP := fun _ => rfl
  hw := fun _ => rfl
  hb := fun _ => rfl
  cm := false
  calm' := fun _ => rfl
  nd := fun _ => nd
  hd := fun z => nomatch z
  roomH := fun _ => hr
  tk := fun _ => takes0
  po := fun _ => PassesOwn.never
section
variable {P : Program} {w : World} {K : PySem.W.Frag} {mg : Str → Option Value} {base : Heap}
theorem okW {dvs : List V} {kws : List (Str × V)} {x qual : Str} {st : Stmt} {f : Addr} {fd : FuncData} {N ps : List Str} {k : Nat} {rm : M} {Pf : PF} {ms' : List SM} {p : PS'} (Fn : FunD K x qual (defArgs st) (defBody st) (defScope st) dvs kws f fd) (S : FnScope N ps (defScope st))
    (len : ∀ ds QD QX, Pf ds QD QX → ds.length = ps.length) (hle : ps.length ≤ N.length)
    (body : ∀ (cdv : Value) (A : Around) (outer : List PySem.Env) (s : Shared) (H : Hp) (E : XK) (hr : L2H.RoomH k (A.deeper (envOfC qual (defScope st) s.heap.objs.size f cdv))),
      GSs (gxW P w K mg base N qual (defScope st) f cdv A outer s H E k S.nd hr) (cn0 rm N.length) (List.replicate N.length (.ow .sh)) (defBody st) ms' p)
    (main : ∀ (ds : List D) (QD : D → Prop) (QX : Xn → Prop), Pf ds QD QX → p { nx := fun _ => QD .non, rt := fun d _ => QD d } (env0 N ds)) :
    FnW P w K mg base (k + 1) f fd ps (spG K rm Pf) := by
  obtain ⟨oc, od, dV, kV, doc, pm, an, cdv, ct, osl, rfl, lk, hcd, _, _⟩ := Fn.ex
  refine fn_ofW lk hcd S (fun vs H Q E h => ?_) (fun A outer s H vs Q E hr h => ?_)
  · obtain ⟨F, ds, QD, QX, s, r, p, _⟩ := h
    rw [r.length]
    exact len ds QD QX p
  · obtain ⟨F, ds, QD, QX, sF, r, hp, k1, k2⟩ := h
    obtain ⟨t, h1, h2⟩ := body cdv A outer s H E hr
    refine ⟨t, PSs.nox (h1 ()), ?_⟩
    have hl := len ds QD QX hp
    have s0 := sls_start (H := H) (N.length - ds.length) r
    rw [show ds.length + (N.length - ds.length) = N.length by omega] at s0
    have es : start N vs = vs.map some ++ List.replicate (N.length - ds.length) none := by
      unfold L2.start
      rw [r.length]
    rw [es]
    have fin : ∀ {F' H' : Hp} {A' : List Addr}, Step [] F H A' F' H' → Sub F' H' → Grow F H F' H' := fun {F' H' A'} s z => ⟨z, s.same, fun a ha => (s.keep a ha (by simp)).2⟩
    refine h2 F H (env0 N ds) _ [] _ _ ⟨subS_un (by simp), sF, s0, List.nodup_nil, fun _ z => by cases z⟩ (main ds QD QX hp) ⟨fun F' H' env σ A' s k q => ?_, fun F' H' env σ A' s k q => q.elim, fun F' H' env σ A' s k q => q.elim, fun F' H' env σ A' d v fp s k r n z q => ?_, fun F' H' env σ A' x c dx s k r z => z.elim⟩
    · exact k1 F' H' .non .non [] (fin s k.ok.sub) (Rep.flatM (F := F') rfl rfl) List.nodup_nil (fun _ z => by cases z) q
    · refine k1 F' H' d v fp (fin s k.sub) r n (fun a ha => ⟨?_, (z a ha).2.1⟩) q
      rcases (z a ha).2.2 with y | y
      · cases y
      · exact y
end
/-- a def for suites -/
structure DfWK (P : Program) (w : World) (K : PySem.W.Frag) (mg : Str → Option Value) (base : Heap) (x : Str) (k : Nat) (rm : M) (Pf : PF) (dds : List D) : Prop where
  ex : ∃ (f : Addr) (fd : FuncData) (prm : List Str) (ds : List Value) (dvs : List V), FnW P w K mg base k f fd prm (spG K rm Pf) ∧ mg x = some (.ref f) ∧ PySem.W.keepIn K (.ref f) = true ∧ Binds K fd prm ds ∧ Vals dvs ds ∧ Reps K (fun _ => none) dds dvs
section
variable {Ex : Xn → Env → Prop} {Z : GX Ex} {ms : List SM} {a : Expr} {es : List Expr} {ps : PXs} {pos p2 : Pos} {x : Str} {k : Nat} {rm : M} {Pf : PF} {dds : List D}
theorem fnw_at {f : Addr} {fd : FuncData} {prm : List Str} {k : Nat} {sp : Sp} (h : FnW Z.P Z.w Z.K Z.mg Z.base k f fd prm sp) (i : Z.I) : FnW (Z.X i).prog (Z.X i).w (Z.X i).K (Z.X i).mg (Z.X i).base k f fd prm sp := by
  rw [Z.hP, Z.hw, Z.hK, Z.hmg, Z.hb]
  exact h
theorem ge_callW (Gd : DfWK Z.P Z.w Z.K Z.mg Z.base x k rm Pf dds) (ha : GO Z ms (a :: es) .sh ps) (hk : k ≤ Z.lv := by exact Nat.le_of_ble_eq_true rfl) (hg : ∀ i, Gl (Z.X i) x := by intro i; rfl) (hdb : (x == ("__debug__" : Str)) = false := by decide)
    (he : ∀ i, starEach (a :: es) (Z.X i).env = (false, eval a (Z.X i).env) :: starEach es (Z.X i).env := by intro i; rfl) (hpl : ∀ i, (backTo pos (starEach es (Z.X i).env)).any (·.1) = false := by intro i; rfl) :
    GE Z ms (.Call (.Name x p2) (a :: es) [] pos) (.ow rm) (pCall Ex Pf dds ps) := by
  obtain ⟨t, h1, h2⟩ := ha
  obtain ⟨f, fd, prm, ds, dvs, F, hm, kp, b, hd, hdd⟩ := Gd.ex
  exact ⟨_, fun i => pe_callW (E := fun σ c d H => Z.E c d σ H) (fnw_at F i) ((Z.roomH i).mono hk) (hg i) (by rw [Z.hmg]; exact hm) (by rw [Z.hK]; exact kp) (by rw [Z.hK]; exact b) hd (h1 i) hdb (he i) (hpl i), se_call hdd h2⟩
end
end G

set_option Elab.async false
set_option linter.all false
set_option maxRecDepth 100000
set_option maxHeartbeats 4000000
/-! G23: what is looked up of own error classes, once for a law. -/
namespace G
open PySem PySem.Spec PyProof.Rows L2
open He (ba)

/-- what K says of an own error class -/
structure ErrC (K : PySem.W.Frag) (C : Addr) : Prop where
  oex : OexC K C
  exc : L2.ExcC K C
  xf : XfC K C
  sup : SupOk K C C
theorem oexB_ok {K : PySem.W.Frag} {C : Addr} (h : oexB K C = true) : ∃ nm q N bs bm sn sub ab col dd k0 k1 k2 k3 k5, K.lookup C = some (excClassObj nm q C N bs bm true sn sub ab col dd k0 k1 k2 k3 k5 "ValueError.__new__") ∧ PySem.HandSPX.refsVE bm = true := by
  unfold oexB at h
  split at h
  · rename_i c dd cd sl ho
    obtain ⟨h1, h⟩ := ba h
    obtain ⟨h2, h⟩ := ba h
    obtain ⟨h3, h⟩ := ba h
    split at h
    · rename_i C' bm k0 k1 k2 k3 n k5 hm hs
      obtain ⟨h4, h⟩ := ba h
      obtain ⟨h5, h6⟩ := ba h
      have e1 := of_decide_eq_true h1
      have e4 := of_decide_eq_true h4
      have e5 := of_decide_eq_true h5
      subst e1 e4 e5
      obtain ⟨nm, bs, mro, ns, qn, hd, sn, sb, ab, col, del⟩ := cd
      dsimp only at h2 h3 hm
      have h3 : del = false := by simpa using h3
      subst h2 h3 hm
      have e : sl = #[k0, k1, k2, k3, some (.builtin "ValueError.__new__"), k5] := by
        obtain ⟨l⟩ := sl
        simp only at hs
        rw [hs]
      subst e
      exact ⟨nm, qn, ns, bs, bm, sn, sb, ab, col, dd, k0, k1, k2, k3, k5, ho, h6⟩
    · cases h
  · cases h
theorem errB_ok {K : PySem.W.Frag} {C : Addr} (h : errB K C = true) : ErrC K C := by
  obtain ⟨h1, h⟩ := ba h
  obtain ⟨h2, h⟩ := ba h
  obtain ⟨h3, h⟩ := ba h
  obtain ⟨h4, h⟩ := ba h
  obtain ⟨h5, h⟩ := ba h
  obtain ⟨h6, h⟩ := ba h
  obtain ⟨h7, h⟩ := ba h
  obtain ⟨h8, h⟩ := ba h
  obtain ⟨h9, h⟩ := ba h
  obtain ⟨h10, h⟩ := ba h
  obtain ⟨h11, h⟩ := ba h
  obtain ⟨h12, h⟩ := ba h
  obtain ⟨h13, h⟩ := ba h
  obtain ⟨h14, h15⟩ := ba h
  exact ⟨⟨oexB_ok h1, of_decide_eq_true h2, of_decide_eq_true h3, of_decide_eq_true h4, h5⟩, ⟨of_decide_eq_true h6, of_decide_eq_true h7, of_decide_eq_true h3, h8, of_decide_eq_true h9, of_decide_eq_true h10, of_decide_eq_true h11, of_decide_eq_true h12⟩,
    ⟨of_decide_eq_true h6, of_decide_eq_true h7, of_decide_eq_true h3, h8⟩, ⟨of_decide_eq_true h13, of_decide_eq_true h14, of_decide_eq_true h15⟩⟩
structure ErrI (K : PySem.W.Frag) (file : Str) (d : ErrD) : Prop where
  fn : ∃ oc od osl kV doc pm an cda ct cc, K.lookup (iniAd K d.cls) = some ⟨oc, od, .func (PySem.W.ksFn "__init__" d.qual d.params d.body d.scope .none kV doc pm an (.ref cda) ct cc), osl⟩ ∧ PySem.W.codeIn K (.ref cda) d.qual = true ∧
    (∃ ccl cdd fvs ccs tf, K.lookup cda = some ⟨ccl, cdd, .fields fvs, ccs⟩ ∧ fvs[2]? = some (.str file tf)) ∧ ∃ cl cld csl, K.lookup cc = some ⟨cl, cld, .cell (some (.ref (He.ga K d.cls))), csl⟩
  cls : ∃ cd, PySem.W.clsIn K (He.ga K d.cls) = some cd
  no3 : PySem.W.nsIn K cStatics "thirdparty.any" = some none
  ini : PySem.W.findIn K (.ref (He.ga K d.cls)) "__init__" = some (some (.ref (iniAd K d.cls)))
  ty : PySem.W.typeIn K (.ref (iniAd K d.cls)) = some (.type "function")
theorem iniB_ok {K : PySem.W.Frag} {file : Str} {d : ErrD} (e : fnS K d.cls = d.val) (h : iniB K file d = true) : ErrI K file d := by
  obtain ⟨h1, h⟩ := ba h
  obtain ⟨h2, h⟩ := ba h
  obtain ⟨h3, h⟩ := ba h
  obtain ⟨h4, h5⟩ := ba h
  refine ⟨?_, Option.isSome_iff_exists.mp h2, of_decide_eq_true h3, of_decide_eq_true h4, of_decide_eq_true h5⟩
  unfold fnS at e
  split at h1
  · rename_i oc od fd osl ho
    rw [ho] at e
    obtain ⟨n1, n2, n3, n4, n5, n6, n7, n8, n9, n10, n11, n12, n13, n14, n15⟩ := fd
    have e2 : (some (n1, n2, n3, n4, n5, n6, [], n15) : He.FnW) = (some (("__init__" : Str), d.qual, d.params, FuncBody.stmts d.body, d.scope, mainGlobals, [], builtinsNs) : He.FnW) := e
    simp only [Option.some.injEq, Prod.mk.injEq] at e2
    obtain ⟨e1, e2, e3, e4, e5, e6, _, e8⟩ := e2
    subst e1 e2 e3 e4 e5 e6 e8
    obtain ⟨c0, g1⟩ := ba h1
    obtain ⟨c1, g2⟩ := ba g1
    obtain ⟨c2, c3⟩ := ba g2
    clear g1 g2 h1
    dsimp only at c0 c1 c2 c3
    split at c0
    case h_2 => cases c0
    clear c0
    unfold cellB at c2
    split at c2
    · rename_i n cc
      obtain ⟨d1, d2⟩ := ba c2
      have d1 := of_decide_eq_true d1
      subst d1
      split at d2
      · rename_i cl cld D csl hc
        have d2 := of_decide_eq_true d2
        subst d2
        unfold fileB at c3
        split at c3
        · rename_i cda
          split at c3
          · rename_i ccl cdd fvs ccs hco
            split at c3
            · rename_i f tf hf
              have c3 := of_decide_eq_true c3
              subst c3
              exact ⟨oc, od, osl, _, _, _, _, cda, _, cc, ho, c1, ⟨ccl, cdd, fvs, ccs, tf, hco, hf⟩, cl, cld, csl, hc⟩
            · cases c3
          · cases c3
        · cases c3
      · cases d2
    · cases c2
  · cases h1

section
variable {file : Str} {fa : List He.Fa} {fn : List He.DefD} {es : List ErrD} {ex : PySem.W.Frag → Bool} {K : PySem.W.Frag}
theorem SaysR.parts (c : SaysR file fa fn es ex K) : (∀ f ∈ fa, f.ok K = true) ∧ (∀ d ∈ fn, d.ok K = true) ∧ (∀ d ∈ es, iniB K file d = true) ∧ ex K = true := by
  obtain ⟨h1, h⟩ := ba (show ((fa.all fun f => f.ok K) && ((fn.all fun d => d.ok K) && ((es.all fun d => iniB K file d) && ex K))) = true from congrArg (fun z : He.AlD => z.1) c)
  obtain ⟨h2, h⟩ := ba h
  obtain ⟨h3, h4⟩ := ba h
  exact ⟨List.all_eq_true.mp h1, List.all_eq_true.mp h2, List.all_eq_true.mp h3, h4⟩
theorem SaysR.fact (c : SaysR file fa fn es ex K) (i : Nat) {f : He.Fa} (h : fa[i]? = some f := by rfl) : f.ok K = true := c.parts.1 f (List.mem_of_getElem? h)
theorem SaysR.more (c : SaysR file fa fn es ex K) : ex K = true := c.parts.2.2.2
theorem SaysR.fns (c : SaysR file fa fn es ex K) : fn.map (fun d => He.fnW K d.at_) = fn.map He.DefD.val ∧ es.map (fun d => fnS K d.cls) = es.map ErrD.val := by
  have e : fn.map (fun d => He.fnW K d.at_) ++ es.map (fun d => fnS K d.cls) = fn.map He.DefD.val ++ es.map ErrD.val := congrArg (fun z : He.AlD => z.2) c
  exact List.append_inj e (by simp)
theorem SaysR.def_ (c : SaysR file fa fn es ex K) (i : Nat) {d : He.DefD} (h : fn[i]? = some d := by rfl) : ∃ fd, FunD K d.name d.qual d.params d.body d.scope (d.dvs K) (d.kws K) (He.fAd K d.at_) fd := by
  have e2 : (fn.map fun d => He.fnW K d.at_)[i]? = (fn.map He.DefD.val)[i]? := by rw [c.fns.1]
  rw [List.getElem?_map, List.getElem?_map, h] at e2
  exact He.DefD.funD (Option.some.inj e2) (c.parts.2.1 d (List.mem_of_getElem? h))
theorem SaysR.err (c : SaysR file fa fn es ex K) (i : Nat) {d : ErrD} (h : es[i]? = some d := by rfl) : ErrI K file d := by
  have e2 : (es.map fun d => fnS K d.cls)[i]? = (es.map ErrD.val)[i]? := by rw [c.fns.2]
  rw [List.getElem?_map, List.getElem?_map, h] at e2
  exact iniB_ok (Option.some.inj e2) (c.parts.2.2.1 d (List.mem_of_getElem? h))
end
/-! ### the class as a thing to be raised -/
structure ErK (P : Program) (w : World) (K : PySem.W.Frag) (mg : Str → Option Value) (base : Heap) (x : Str) (Ca : Addr) (f : Str) : Prop where
  ex : ∃ (fI : Addr) (fd : FuncData) (prm : List Str), FnOk P w K mg base CX0 1 fI fd prm (spE1 K Ca f) ∧ mg x = some (.ref Ca) ∧ OexC K Ca ∧ PySem.W.findIn K (.ref Ca) "__init__" = some (some (.ref fI)) ∧ PySem.W.typeIn K (.ref fI) = some (.type "function") ∧ Binds K fd prm [] ∧ PySem.W.findIn K (.ref Ca) f = some none
theorem ErK.at {Ex : Xn → Env → Prop} {Z : GX Ex} {x : Str} {Ca : Addr} {f : Str} (h : ErK Z.P Z.w Z.K Z.mg Z.base x Ca f) (hk : 2 ≤ Z.lv := by exact Nat.le_of_ble_eq_true rfl) : Er1 Z x Ca f := by
  obtain ⟨fI, fd, prm, F, a, b, c, d, e, g⟩ := h.ex
  exact ⟨fI, fd, prm, 1, F, hk, a, b, c, d, e, g⟩
section
variable {Ex : Xn → Env → Prop} {Z : GX Ex} {ms : List SM} {pos : Pos}
/-- a class as a value -/
theorem ge_cref {x : Str} {Ca : Addr} (hm : Z.mg x = some (.ref Ca)) (hg : ∀ i, Gl (Z.X i) x := by intro i; rfl) (hd : (x == ("__debug__" : Str)) = false := by decide) : GE Z ms (.Name x pos) (.ow .sh) (pC (.ref Ca)) :=
  ⟨_, fun j => pe_glob (v := .ref Ca) (hg j) (by rw [Z.hmg]; exact hm) rfl hd, se_c fun _ => rfl⟩
end
end G

set_option Elab.async false
set_option linter.all false
set_option maxRecDepth 100000
set_option maxHeartbeats 4000000
/-! G24: xs.insert(k, e). -/
namespace G
open PySem PySem.Spec PyProof.Rows L2
section
variable {Ex : Xn → Env → Prop} {Z : GX Ex} {C : Cn} {ms : List SM} {a b : Expr} {ps : PXs} {pos : Pos}
section
variable {i : Nat} {x : Str} {pos' : Pos}
/-- xs.insert(k, e), k not below 0 -/
def sIns (i : Nat) (ps : PXs) : PS' := fun e env => ∃ ds, env[i]? = some (some (.lst ds)) ∧ ps env fun as => ∃ (k : Int) (d : D), as = [.int k, d] ∧ ds.length < 100000 ∧ 0 ≤ k ∧ k ≤ ds.length ∧ e.nx (env.set i (some (.lst (ds.take k.toNat ++ [d] ++ ds.drop k.toNat))))
theorem gs_ins {apos cpos : Pos} (ha : GO Z ms [a, b] .sh ps) (hm : ms[i]? = some (.ow (.el .sh)) := by rfl) (hN : ∀ j, (Z.X j).N[i]? = some x := by intro j; rfl)
    (hv : ∀ j, Vis (Z.X j).env.scope x := by intro j; first | exact Or.inl rfl | exact Or.inr (Or.inl rfl) | exact Or.inr (Or.inr rfl))
    (hd : (x == ("__debug__" : Str)) = false := by decide) (hcd : (x == ("__classdict__" : Str)) = false := by decide)
    (hbase : ∀ j, attributeBase (.Name x pos') "insert" (Z.X j).env (eval (.Name x pos') (Z.X j).env) = eval (.Name x pos') (Z.X j).env := by intro j; rfl)
    (hfew : ∀ j, ((backTo cpos (starEach (a :: [b]) (Z.X j).env)).all (fun x => !x.1) && (backToKw cpos (keywordEach [] (Z.X j).env)).all (fun x => x.1.isSome)
      && decide ((a :: [b]).length + ([] : List Keyword).length + (if ([] : List Keyword).isEmpty then 0 else 1) < 30)) = true := by intro j; rfl)
    (hline : (apos.endLine == cpos.line) = true := by rfl) (hst : ∀ j, starEach (a :: [b]) (Z.X j).env = (false, eval a (Z.X j).env) :: starEach [b] (Z.X j).env := by intro j; rfl)
    (hpl : ∀ j, (backTo cpos (starEach [b] (Z.X j).env)).any (·.1) = false := by intro j; rfl)
    (hs : ∀ j, swapsWith (.Call (.Attribute (.Name x pos') "insert" apos) [a, b] [] cpos) none pos.line (Z.X j).env = pure false := by intro j; rfl) :
    GS Z C ms (.Expr (.Call (.Attribute (.Name x pos') "insert" apos) [a, b] [] cpos) pos) ms (sIns i ps) := by
  obtain ⟨t, h1, h2⟩ := ha
  refine ⟨tDrop (tBM Z.K "list" _ (tVar i) t), fun j => ps_expr (by
    rw [← Z.hK j]
    exact pe_bm PySem.F.plainAttrs_list PySem.F.slot_list_insert PySem.F.type_list_insert mt_insert (pe_var (hN j) (hv j) hd hcd) (h1 j) (hbase j) (hfew j) hline (hst j) (hpl j)) (hs j), fun F H env σ A e D h p o => ?_⟩
  obtain ⟨ds, ed, p⟩ := p
  obtain ⟨q, vs, fq, es, eh, rs, nq, zq, put⟩ := h.mutL hm ed
  refine ⟨.ref q, es, tyV_l eh, ?_⟩
  refine h2 F H env σ A _ _ h.ok p (fun F1 H1 as us fp g1 r1 n1 z1 q1 => ?_) (o.hx h)
  obtain ⟨k, d, rfl, hl, h0, hk, q1⟩ := q1
  obtain ⟨rfl, v0, r0, rfl, ek, v, r00, rfl, rd, er⟩ := RepMs.sh r1
  obtain rfl : r00 = [] := er
  obtain rfl : v0 = .int k := ek
  have eh1 := g1.same q _ eh
  have sl : (100000 : Nat) ≤ sizeLine := by rw [sizeLine_eq]; decide
  refine ⟨q, vs, k, v, rfl, rfl, eh1, by rw [rs.length]; exact Nat.lt_of_lt_of_le hl sl, h0, by omega, ?_⟩
  have rs1 := (rs.grow h.ok.sub g1)
  obtain ⟨_, rs2⟩ := RepMs.sh rs1
  obtain ⟨A', kk, s⟩ := put F1 H1 (ds.take k.toNat ++ [d] ++ ds.drop k.toNat) (vs.take k.toNat ++ [v] ++ vs.drop k.toNat) [] g1 (RepMs.ofSh (((rs2.take _).append (Reps.one rd)).append (rs2.drop _)))
    List.nodup_nil (fun z => by cases z) (fun a z => by cases z)
  exact o.nx F1 _ _ σ A' s kk q1
end
end
section
variable {nx bk ct : Env → Prop} {rt : D → Env → Prop} {env : Env} {Q : D → Prop}
theorem w_ins {i : Nat} {ps : PXs} {ds : List D} (e : env[i]? = some (some (.lst ds))) (h : ps env fun as => ∃ (k : Int) (d : D), as = [.int k, d] ∧ ds.length < 100000 ∧ 0 ≤ k ∧ k ≤ ds.length ∧ nx (env.set i (some (.lst (ds.take k.toNat ++ [d] ++ ds.drop k.toNat))))) : sIns i ps ⟨nx, rt, bk, ct⟩ env := ⟨ds, e, h⟩
theorem w_raise {Ex : Xn → Env → Prop} {pm : PXm} (h : pm env fun x => Ex x env) : sRaise Ex pm ⟨nx, rt, bk, ct⟩ env := h
theorem w_err1 {Ca : Addr} {f : Str} {ps : PXs} {Qx : Xn → Prop} (h : ps env fun ds => ∃ i : Int, ds = [.int i] ∧ i.natAbs < 10 ^ 30 ∧ Qx ⟨.ref Ca, [f], [.int i]⟩) : pErr1 Ca f ps env Qx := h
theorem w_try {T : Value → Option Bool} {Ex : Xn → Env → Prop} {i : Nat} {pb : (Xn → Env → Prop) → PS'} {ps : Addr → Value → Option Addr → PS'} (h : pb (tryEx T Ex i ps ⟨nx, rt, bk, ct⟩) ⟨nx, rt, bk, ct⟩ env) : sTry T Ex i pb ps ⟨nx, rt, bk, ct⟩ env := h
/-- an error that the suite takes -/
theorem w_caught {T : Value → Option Bool} {Ex : Xn → Env → Prop} {i : Nat} {ps : Addr → Value → Option Addr → PS'} {x : Xn} (e : T x.cls = some true) (h : ∀ a d, ps a x.cls d ⟨fun _ => False, rt, fun _ => False, fun _ => False⟩ (env.set i (some (.exc a d x.cls x.ns x.xs)))) : tryEx T Ex i ps ⟨nx, rt, bk, ct⟩ x env := ⟨true, e, fun _ => h, fun z => nomatch z⟩
theorem w_tryX {T : Value → Option Bool} {Ex : Xn → Env → Prop} {i : Nat} {pb : (Xn → Env → Prop) → PS'} {ps : Addr → Value → Option Addr → PS'} (xs : Xn → Env → Prop) (hx : ∀ x z, xs x z → tryEx T Ex i ps ⟨nx, rt, bk, ct⟩ x z) (h : ∀ E : Xn → Env → Prop, (∀ x z, xs x z → E x z) → pb E ⟨nx, rt, bk, ct⟩ env) : sTry T Ex i pb ps ⟨nx, rt, bk, ct⟩ env := h _ hx
theorem w_isX {K : PySem.W.Frag} {ea : Addr} {cls : Value} {ed : Option Addr} {ps : PXs} (h : ps env fun ds => ∃ ns xs c b, ds = [.exc ea ed cls ns xs, c] ∧ isEV K cls c b ∧ Q (.bl b)) : pIsX K ea cls ed ps env Q := h
theorem ev_nil {K : PySem.W.Frag} {cls : Value} : ∃ cvs, ([] : List D).map clsD = cvs.map some ∧ PySem.W.kitAny K cls cvs = some false := ⟨[], rfl, rfl⟩
theorem ev_cons {K : PySem.W.Frag} {cls c : Value} {d : D} {ds : List D} {b : Bool} (h : clsD d = some c) (k : PySem.W.kitOne K cls c = some false) (r : ∃ cvs, ds.map clsD = cvs.map some ∧ PySem.W.kitAny K cls cvs = some b) :
    ∃ cvs, (d :: ds).map clsD = cvs.map some ∧ PySem.W.kitAny K cls cvs = some b := by
  obtain ⟨cvs, e1, e2⟩ := r
  refine ⟨c :: cvs, by rw [List.map_cons, List.map_cons, e1, h], ?_⟩
  unfold PySem.W.kitAny
  rw [k]
  exact e2
/-- isinstance(e, (C, ..)) -/
theorem w_isT {R : Bool → Prop} {K : PySem.W.Frag} {ea C : Addr} {ed : Option Addr} {ns : List Str} {xs cs : List D} {b : Bool} (E : L2.ExcC K C) (h : ∃ cvs, cs.map clsD = cvs.map some ∧ PySem.W.kitAny K (.ref C) cvs = some b) (q : R b) :
    ∃ ns' xs' c b, [D.exc ea ed (.ref C) ns xs, .tup cs] = [D.exc ea ed (.ref C) ns' xs', c] ∧ isEV K (.ref C) c b ∧ R b := by
  obtain ⟨cvs, e1, e2⟩ := h
  exact ⟨ns, xs, _, b, rfl, ⟨C, rfl, E, .inr ⟨cs, cvs, rfl, e1, e2⟩⟩, q⟩
/-- isinstance(e, C) -/
theorem w_isO {R : Bool → Prop} {K : PySem.W.Frag} {ea C : Addr} {ed : Option Addr} {ns : List Str} {xs : List D} {d : D} {cv : Value} {b : Bool} (E : L2.ExcC K C) (h : clsD d = some cv) (k : PySem.W.kitOne K (.ref C) cv = some b) (q : R b) :
    ∃ ns' xs' c b, [D.exc ea ed (.ref C) ns xs, d] = [D.exc ea ed (.ref C) ns' xs', c] ∧ isEV K (.ref C) c b ∧ R b := ⟨ns, xs, _, b, rfl, ⟨C, rfl, E, .inl ⟨cv, h, k⟩⟩, q⟩
theorem w_xf {K : PySem.W.Frag} {ea : Addr} {cls : Value} {ed : Option Addr} {f : Str} {pa : PX} (h : pa env fun o => ∃ ns xs C j y, o = .exc ea ed cls ns xs ∧ cls = .ref C ∧ XfC K C ∧ PySem.W.findIn K (.ref C) f = some none ∧ ns.idxOf? f = some j ∧ xs[j]? = some y ∧ Q y) : pXf K ea cls ed f pa env Q := h
end
end G

set_option Elab.async false
set_option linter.all false
set_option maxRecDepth 100000
set_option maxHeartbeats 4000000
namespace K16
open PySem PySem.Spec PyProof.Rows L2 G

theorem sc_distinct : FnScope ["row"] ["row"] (defScope st_distinct) := ⟨rfl, rfl, rfl, by decide +kernel, rfl, by decide +kernel, by decide +kernel⟩
theorem sc_check_stays : FnScope ["ring", "stays", "place", "stay"] ["ring", "stays"] (defScope st_check_stays) := ⟨rfl, rfl, rfl, by decide +kernel, rfl, by decide +kernel, by decide +kernel⟩
theorem sc_laid : FnScope ["ring", "stays", "start", "spans", "door", "length", "first"] ["ring", "stays", "start"] (defScope st_laid) := ⟨rfl, rfl, rfl, by decide +kernel, rfl, by decide +kernel, by decide +kernel⟩
theorem sc_pieces : FnScope ["ring", "stays", "start", "found", "first", "behind"] ["ring", "stays", "start"] (defScope st_pieces) := ⟨rfl, rfl, rfl, by decide +kernel, rfl, by decide +kernel, by decide +kernel⟩
theorem sc_sums_of : FnScope ["prices", "sums", "price"] ["prices"] (defScope st_sums_of) := ⟨rfl, rfl, rfl, by decide +kernel, rfl, by decide +kernel, by decide +kernel⟩
theorem sc_check_ring : FnScope ["prices", "doors", "nodes", "before", "door"] ["prices", "doors", "nodes"] (defScope st_check_ring) := ⟨rfl, rfl, rfl, by decide +kernel, rfl, by decide +kernel, by decide +kernel⟩
theorem sc_Ring_init : FnScope ["self", "prices", "doors", "nodes"] ["self", "prices", "doors", "nodes"] (defScope st_Ring_init) := ⟨rfl, rfl, rfl, by decide +kernel, rfl, by decide +kernel, by decide +kernel⟩
theorem sc_Ring_whole : FnScope ["self"] ["self"] (defScope st_Ring_whole) := ⟨rfl, rfl, rfl, by decide +kernel, rfl, by decide +kernel, by decide +kernel⟩
theorem sc_piece_price : FnScope ["ring", "first", "behind", "rounds", "total", "number"] ["ring", "first", "behind"] (defScope st_piece_price) := ⟨rfl, rfl, rfl, by decide +kernel, rfl, by decide +kernel, by decide +kernel⟩
theorem sc_laid_price : FnScope ["ring", "stays", "start", "first", "behind"] ["ring", "stays", "start"] (defScope st_laid_price) := ⟨rfl, rfl, rfl, by decide +kernel, rfl, by decide +kernel, by decide +kernel⟩
theorem sc_union_price : FnScope ["ring", "stays", "start"] ["ring", "stays", "start"] (defScope st_union_price) := ⟨rfl, rfl, rfl, by decide +kernel, rfl, by decide +kernel, by decide +kernel⟩
theorem sc_union_beats : FnScope ["ring", "stays", "start", "beats", "first", "behind", "number"] ["ring", "stays", "start"] (defScope st_union_beats) := ⟨rfl, rfl, rfl, by decide +kernel, rfl, by decide +kernel, by decide +kernel⟩
theorem sc_least_laying : FnScope ["ring", "stays", "best", "door", "price", "stay"] ["ring", "stays"] (defScope st_least_laying) := ⟨rfl, rfl, rfl, by decide +kernel, rfl, by decide +kernel, by decide +kernel⟩
theorem sc_l_cell : FnScope ["_law_script", "_law_k"] ["_law_script", "_law_k"] (defScope st_l_cell) := ⟨rfl, rfl, rfl, by decide +kernel, rfl, by decide +kernel, by decide +kernel⟩
theorem sc_l_digits : FnScope ["_law_cell_here", "_law_count", "_law_size", "_law_row", "_law_rest", "_law_k", "_law_mixed"] ["_law_cell_here", "_law_count", "_law_size"] (defScope st_l_digits) := ⟨rfl, rfl, rfl, by decide +kernel, rfl, by decide +kernel, by decide +kernel⟩
theorem sc_l_seed : FnScope ["_law_script", "_law_k"] ["_law_script", "_law_k"] (defScope st_l_seed) := ⟨rfl, rfl, rfl, by decide +kernel, rfl, by decide +kernel, by decide +kernel⟩
theorem sc_l_prefix : FnScope ["_law_run", "_law_schedule", "_law_done", "_law_node"] ["_law_run", "_law_schedule"] (defScope st_l_prefix) := ⟨rfl, rfl, rfl, by decide +kernel, rfl, by decide +kernel, by decide +kernel⟩
theorem sc_l_is_int : FnScope ["_law_value"] ["_law_value"] (defScope st_l_is_int) := ⟨rfl, rfl, rfl, by decide +kernel, rfl, by decide +kernel, by decide +kernel⟩
theorem sc_l_ints : FnScope ["_law_row", "_law_value"] ["_law_row"] (defScope st_l_ints) := ⟨rfl, rfl, rfl, by decide +kernel, rfl, by decide +kernel, by decide +kernel⟩
theorem sc_l_prices : FnScope ["_law_cell_here", "_law_count", "_law_choice", "_law_row", "_law_digit"] ["_law_cell_here", "_law_count", "_law_choice"] (defScope st_l_prices) := ⟨rfl, rfl, rfl, by decide +kernel, rfl, by decide +kernel, by decide +kernel⟩
theorem sc_l_gates : FnScope ["_law_cell_here", "_law_size", "_law_row", "_law_gates_here", "_law_place"] ["_law_cell_here", "_law_size"] (defScope st_l_gates) := ⟨rfl, rfl, rfl, by decide +kernel, rfl, by decide +kernel, by decide +kernel⟩
theorem sc_l_drawn : FnScope ["_law_cell_here", "_law_gates_here", "_law_count", "_law_most", "_law_row", "_law_stays", "_law_k"] ["_law_cell_here", "_law_gates_here", "_law_count", "_law_most"] (defScope st_l_drawn) := ⟨rfl, rfl, rfl, by decide +kernel, rfl, by decide +kernel, by decide +kernel⟩
theorem sc_l_laid_beats : FnScope ["_law_size", "_law_stays", "_law_start", "_law_most", "_law_stay", "_law_marks", "_law_first", "_law_k"] ["_law_size", "_law_stays", "_law_start"] (defScope st_l_laid_beats) := ⟨rfl, rfl, rfl, by decide +kernel, rfl, by decide +kernel, by decide +kernel⟩
theorem sc_l_ring : FnScope ["_law_prices_here", "_law_gates_here", "_law_digit", "_law_place"] ["_law_prices_here", "_law_gates_here", "_law_digit"] (defScope st_l_ring) := ⟨rfl, rfl, rfl, by decide +kernel, rfl, by decide +kernel, by decide +kernel⟩
theorem sc_l_right : FnScope ["_law_ring_here", "_law_prices_here", "_law_stays", "_law_start", "_law_due", "_law_handed", "_law_price", "_law_beats", "_law_stay", "_law_row", "_law_k", "_law_place"] ["_law_ring_here", "_law_prices_here", "_law_stays", "_law_start"] (defScope st_l_right) := ⟨rfl, rfl, rfl, by decide +kernel, rfl, by decide +kernel, by decide +kernel⟩
theorem sc_l_bad : FnScope ["_law_row", "_law_gates_here", "_law_size", "_law_others", "_law_gate", "_law_length", "_law_choice", "_law_place"] ["_law_row", "_law_gates_here", "_law_size"] (defScope st_l_bad) := ⟨rfl, rfl, rfl, by decide +kernel, rfl, by decide +kernel, by decide +kernel⟩
theorem sc_l_first_bad : FnScope ["_law_gates_here", "_law_stays", "_law_place"] ["_law_gates_here", "_law_stays"] (defScope st_l_first_bad) := ⟨rfl, rfl, rfl, by decide +kernel, rfl, by decide +kernel, by decide +kernel⟩
theorem sc_l_told_place : FnScope ["_law_ring_here", "_law_stays", "_law_start", "_law_which", "e"] ["_law_ring_here", "_law_stays", "_law_start", "_law_which"] (defScope st_l_told_place) := ⟨rfl, rfl, rfl, by decide +kernel, rfl, by decide +kernel, by decide +kernel⟩
theorem sc_law : FnScope ["_law_script", "_law_row", "_law_size", "_law_prices_here", "_law_gates_here", "_law_most", "_law_stays", "_law_others", "_law_start", "_law_ring_here", "_law_bad_here", "_law_k", "_law_due", "_law_which", "_law_spoil", "_law_handed"] ["_law_script"] (defScope st_law) := ⟨rfl, rfl, rfl, by decide +kernel, rfl, by decide +kernel, by decide +kernel⟩
def ns_Ring : List Str := ["size", "prices", "doors", "nodes", "_sums"]
theorem sup_BadStay : SupScope ["self", "place"] ["self", "place"] (defScope st_BadStay_init) := ⟨rfl, rfl, rfl, by decide +kernel, rfl, by decide +kernel, by decide +kernel, by decide +kernel⟩
structure Tx (P : Program) (K : PySem.W.Frag) (mg : Str → Option Value) : Prop where
  pf : P.main.file = file
  pt : (P.main.scope.names.lookup ("super" : Str)).isSome = false
  c_BadChange : mg "BadChange" = some (.ref (He.ga K "BadChange"))
  c_BadDoors : mg "BadDoors" = some (.ref (He.ga K "BadDoors"))
  c_BadNode : mg "BadNode" = some (.ref (He.ga K "BadNode"))
  c_BadOrder : mg "BadOrder" = some (.ref (He.ga K "BadOrder"))
  c_BadRing : mg "BadRing" = some (.ref (He.ga K "BadRing"))
  c_BadRun : mg "BadRun" = some (.ref (He.ga K "BadRun"))
  c_BadStart : mg "BadStart" = some (.ref (He.ga K "BadStart"))
  c_BadStay : mg "BadStay" = some (.ref (He.ga K "BadStay"))
  c_BadWord : mg "BadWord" = some (.ref (He.ga K "BadWord"))
  c_BareLoop : mg "BareLoop" = some (.ref (He.ga K "BareLoop"))
  c_DeskError : mg "DeskError" = some (.ref (He.ga K "DeskError"))
  c_ForeworthError : mg "ForeworthError" = some (.ref (He.ga K "ForeworthError"))
  c_Incomplete : mg "Incomplete" = some (.ref (He.ga K "Incomplete"))
  c_MixedGraphs : mg "MixedGraphs" = some (.ref (He.ga K "MixedGraphs"))
  c_NoEnd : mg "NoEnd" = some (.ref (He.ga K "NoEnd"))
  c_NoWild : mg "NoWild" = some (.ref (He.ga K "NoWild"))
  c_NotOver : mg "NotOver" = some (.ref (He.ga K "NotOver"))
  c_NotStanding : mg "NotStanding" = some (.ref (He.ga K "NotStanding"))
  c_TextError : mg "TextError" = some (.ref (He.ga K "TextError"))
  c_TooLarge : mg "TooLarge" = some (.ref (He.ga K "TooLarge"))
  c_Unreachable : mg "Unreachable" = some (.ref (He.ga K "Unreachable"))
  c_WildProgram : mg "WildProgram" = some (.ref (He.ga K "WildProgram"))
  ei_BadStay : ErrI K file e_BadStay
  er_BadStay : ErrC K (He.ga K "BadStay")
  no_BadStay : PySem.W.findIn K (.ref (He.ga K "BadStay")) "place" = some none
  is_BadStay_BadChange : PySem.W.kitOne K (.ref (He.ga K "BadStay")) (.ref (He.ga K "BadChange")) = some false
  is_BadStay_BadDoors : PySem.W.kitOne K (.ref (He.ga K "BadStay")) (.ref (He.ga K "BadDoors")) = some false
  is_BadStay_BadNode : PySem.W.kitOne K (.ref (He.ga K "BadStay")) (.ref (He.ga K "BadNode")) = some false
  is_BadStay_BadOrder : PySem.W.kitOne K (.ref (He.ga K "BadStay")) (.ref (He.ga K "BadOrder")) = some false
  is_BadStay_BadRing : PySem.W.kitOne K (.ref (He.ga K "BadStay")) (.ref (He.ga K "BadRing")) = some false
  is_BadStay_BadRun : PySem.W.kitOne K (.ref (He.ga K "BadStay")) (.ref (He.ga K "BadRun")) = some false
  is_BadStay_BadStart : PySem.W.kitOne K (.ref (He.ga K "BadStay")) (.ref (He.ga K "BadStart")) = some false
  is_BadStay_BadStay : PySem.W.kitOne K (.ref (He.ga K "BadStay")) (.ref (He.ga K "BadStay")) = some true
  is_BadStay_BadWord : PySem.W.kitOne K (.ref (He.ga K "BadStay")) (.ref (He.ga K "BadWord")) = some false
  is_BadStay_BareLoop : PySem.W.kitOne K (.ref (He.ga K "BadStay")) (.ref (He.ga K "BareLoop")) = some false
  is_BadStay_DeskError : PySem.W.kitOne K (.ref (He.ga K "BadStay")) (.ref (He.ga K "DeskError")) = some false
  is_BadStay_Incomplete : PySem.W.kitOne K (.ref (He.ga K "BadStay")) (.ref (He.ga K "Incomplete")) = some false
  is_BadStay_MixedGraphs : PySem.W.kitOne K (.ref (He.ga K "BadStay")) (.ref (He.ga K "MixedGraphs")) = some false
  is_BadStay_NoEnd : PySem.W.kitOne K (.ref (He.ga K "BadStay")) (.ref (He.ga K "NoEnd")) = some false
  is_BadStay_NoWild : PySem.W.kitOne K (.ref (He.ga K "BadStay")) (.ref (He.ga K "NoWild")) = some false
  is_BadStay_NotOver : PySem.W.kitOne K (.ref (He.ga K "BadStay")) (.ref (He.ga K "NotOver")) = some false
  is_BadStay_NotStanding : PySem.W.kitOne K (.ref (He.ga K "BadStay")) (.ref (He.ga K "NotStanding")) = some false
  is_BadStay_TextError : PySem.W.kitOne K (.ref (He.ga K "BadStay")) (.ref (He.ga K "TextError")) = some false
  is_BadStay_TooLarge : PySem.W.kitOne K (.ref (He.ga K "BadStay")) (.ref (He.ga K "TooLarge")) = some false
  is_BadStay_Unreachable : PySem.W.kitOne K (.ref (He.ga K "BadStay")) (.ref (He.ga K "Unreachable")) = some false
  is_BadStay_ValueError : PySem.W.kitOne K (.ref (He.ga K "BadStay")) (.type "ValueError") = some true
  is_BadStay_WildProgram : PySem.W.kitOne K (.ref (He.ga K "BadStay")) (.ref (He.ga K "WildProgram")) = some false
  ex_BadStay_ForeworthError : PySem.W.exmOne K (.ref (He.ga K "BadStay")) (.ref (He.ga K "ForeworthError")) = some true
  z_ValueError : mg "ValueError" = none
  z_abs : mg "abs" = none
  z_bool : mg "bool" = none
  z_enumerate : mg "enumerate" = none
  z_int : mg "int" = none
  z_isinstance : mg "isinstance" = none
  z_len : mg "len" = none
  z_list : mg "list" = none
  z_max : mg "max" = none
  z_min : mg "min" = none
  z_range : mg "range" = none
  z_set : mg "set" = none
  z_sorted : mg "sorted" = none
  z_sum : mg "sum" = none
  z_super : mg "super" = none
  z_tuple : mg "tuple" = none
  c_Ring : mg "Ring" = some (.ref (He.ga K "Ring"))
  cl_Ring : Cls K (He.ga K "Ring")
  mk_Ring : Mk K (He.ga K "Ring") (He.fAd K ("Ring", some "__init__"))
  na_Ring__sums : NoAttr K (He.ga K "Ring") "_sums"
  na_Ring_doors : NoAttr K (He.ga K "Ring") "doors"
  na_Ring_nodes : NoAttr K (He.ga K "Ring") "nodes"
  na_Ring_prices : NoAttr K (He.ga K "Ring") "prices"
  na_Ring_size : NoAttr K (He.ga K "Ring") "size"
  gl_distinct : mg "distinct" = some (.ref (He.fAd K ("distinct", none)))
  fn_distinct : ∃ fd, FunD K "distinct" "distinct" (defArgs st_distinct) (defBody st_distinct) (defScope st_distinct) [] [] (He.fAd K ("distinct", none)) fd
  gl_check_stays : mg "check_stays" = some (.ref (He.fAd K ("check_stays", none)))
  fn_check_stays : ∃ fd, FunD K "check_stays" "check_stays" (defArgs st_check_stays) (defBody st_check_stays) (defScope st_check_stays) [] [] (He.fAd K ("check_stays", none)) fd
  gl_laid : mg "laid" = some (.ref (He.fAd K ("laid", none)))
  fn_laid : ∃ fd, FunD K "laid" "laid" (defArgs st_laid) (defBody st_laid) (defScope st_laid) [] [] (He.fAd K ("laid", none)) fd
  gl_pieces : mg "pieces" = some (.ref (He.fAd K ("pieces", none)))
  fn_pieces : ∃ fd, FunD K "pieces" "pieces" (defArgs st_pieces) (defBody st_pieces) (defScope st_pieces) [] [] (He.fAd K ("pieces", none)) fd
  gl_sums_of : mg "sums_of" = some (.ref (He.fAd K ("sums_of", none)))
  fn_sums_of : ∃ fd, FunD K "sums_of" "sums_of" (defArgs st_sums_of) (defBody st_sums_of) (defScope st_sums_of) [] [] (He.fAd K ("sums_of", none)) fd
  gl_check_ring : mg "check_ring" = some (.ref (He.fAd K ("check_ring", none)))
  fn_check_ring : ∃ fd, FunD K "check_ring" "check_ring" (defArgs st_check_ring) (defBody st_check_ring) (defScope st_check_ring) [] [] (He.fAd K ("check_ring", none)) fd
  fn_Ring_init : ∃ fd, FunD K "__init__" "Ring.__init__" (defArgs st_Ring_init) (defBody st_Ring_init) (defScope st_Ring_init) [] [("nodes", .non)] (He.fAd K ("Ring", some "__init__")) fd
  mt_Ring_whole : Meth K (He.ga K "Ring") "whole" (He.fAd K ("Ring", some "whole"))
  fn_Ring_whole : ∃ fd, FunD K "whole" "Ring.whole" (defArgs st_Ring_whole) (defBody st_Ring_whole) (defScope st_Ring_whole) [] [] (He.fAd K ("Ring", some "whole")) fd
  gl_piece_price : mg "piece_price" = some (.ref (He.fAd K ("piece_price", none)))
  fn_piece_price : ∃ fd, FunD K "piece_price" "piece_price" (defArgs st_piece_price) (defBody st_piece_price) (defScope st_piece_price) [] [] (He.fAd K ("piece_price", none)) fd
  gl_laid_price : mg "laid_price" = some (.ref (He.fAd K ("laid_price", none)))
  fn_laid_price : ∃ fd, FunD K "laid_price" "laid_price" (defArgs st_laid_price) (defBody st_laid_price) (defScope st_laid_price) [] [] (He.fAd K ("laid_price", none)) fd
  gl_union_price : mg "union_price" = some (.ref (He.fAd K ("union_price", none)))
  fn_union_price : ∃ fd, FunD K "union_price" "union_price" (defArgs st_union_price) (defBody st_union_price) (defScope st_union_price) [] [] (He.fAd K ("union_price", none)) fd
  gl_union_beats : mg "union_beats" = some (.ref (He.fAd K ("union_beats", none)))
  fn_union_beats : ∃ fd, FunD K "union_beats" "union_beats" (defArgs st_union_beats) (defBody st_union_beats) (defScope st_union_beats) [] [] (He.fAd K ("union_beats", none)) fd
  gl_least_laying : mg "least_laying" = some (.ref (He.fAd K ("least_laying", none)))
  fn_least_laying : ∃ fd, FunD K "least_laying" "least_laying" (defArgs st_least_laying) (defBody st_least_laying) (defScope st_least_laying) [] [] (He.fAd K ("least_laying", none)) fd
  gl_l_cell : mg "_law_cell" = some (.ref (He.fAd K ("_law_cell", none)))
  fn_l_cell : ∃ fd, FunD K "_law_cell" "_law_cell" (defArgs st_l_cell) (defBody st_l_cell) (defScope st_l_cell) [] [] (He.fAd K ("_law_cell", none)) fd
  gl_l_digits : mg "_law_digits" = some (.ref (He.fAd K ("_law_digits", none)))
  fn_l_digits : ∃ fd, FunD K "_law_digits" "_law_digits" (defArgs st_l_digits) (defBody st_l_digits) (defScope st_l_digits) [] [] (He.fAd K ("_law_digits", none)) fd
  gl_l_seed : mg "_law_seed" = some (.ref (He.fAd K ("_law_seed", none)))
  fn_l_seed : ∃ fd, FunD K "_law_seed" "_law_seed" (defArgs st_l_seed) (defBody st_l_seed) (defScope st_l_seed) [] [] (He.fAd K ("_law_seed", none)) fd
  gl_l_prefix : mg "_law_prefix" = some (.ref (He.fAd K ("_law_prefix", none)))
  fn_l_prefix : ∃ fd, FunD K "_law_prefix" "_law_prefix" (defArgs st_l_prefix) (defBody st_l_prefix) (defScope st_l_prefix) [] [] (He.fAd K ("_law_prefix", none)) fd
  gl_l_is_int : mg "_law_is_int" = some (.ref (He.fAd K ("_law_is_int", none)))
  fn_l_is_int : ∃ fd, FunD K "_law_is_int" "_law_is_int" (defArgs st_l_is_int) (defBody st_l_is_int) (defScope st_l_is_int) [] [] (He.fAd K ("_law_is_int", none)) fd
  gl_l_ints : mg "_law_ints" = some (.ref (He.fAd K ("_law_ints", none)))
  fn_l_ints : ∃ fd, FunD K "_law_ints" "_law_ints" (defArgs st_l_ints) (defBody st_l_ints) (defScope st_l_ints) [] [] (He.fAd K ("_law_ints", none)) fd
  gl_l_prices : mg "_law_prices" = some (.ref (He.fAd K ("_law_prices", none)))
  fn_l_prices : ∃ fd, FunD K "_law_prices" "_law_prices" (defArgs st_l_prices) (defBody st_l_prices) (defScope st_l_prices) [] [] (He.fAd K ("_law_prices", none)) fd
  gl_l_gates : mg "_law_gates" = some (.ref (He.fAd K ("_law_gates", none)))
  fn_l_gates : ∃ fd, FunD K "_law_gates" "_law_gates" (defArgs st_l_gates) (defBody st_l_gates) (defScope st_l_gates) [] [] (He.fAd K ("_law_gates", none)) fd
  gl_l_drawn : mg "_law_drawn" = some (.ref (He.fAd K ("_law_drawn", none)))
  fn_l_drawn : ∃ fd, FunD K "_law_drawn" "_law_drawn" (defArgs st_l_drawn) (defBody st_l_drawn) (defScope st_l_drawn) [] [] (He.fAd K ("_law_drawn", none)) fd
  gl_l_laid_beats : mg "_law_laid_beats" = some (.ref (He.fAd K ("_law_laid_beats", none)))
  fn_l_laid_beats : ∃ fd, FunD K "_law_laid_beats" "_law_laid_beats" (defArgs st_l_laid_beats) (defBody st_l_laid_beats) (defScope st_l_laid_beats) [] [] (He.fAd K ("_law_laid_beats", none)) fd
  gl_l_ring : mg "_law_ring" = some (.ref (He.fAd K ("_law_ring", none)))
  fn_l_ring : ∃ fd, FunD K "_law_ring" "_law_ring" (defArgs st_l_ring) (defBody st_l_ring) (defScope st_l_ring) [] [] (He.fAd K ("_law_ring", none)) fd
  gl_l_right : mg "_law_right" = some (.ref (He.fAd K ("_law_right", none)))
  fn_l_right : ∃ fd, FunD K "_law_right" "_law_right" (defArgs st_l_right) (defBody st_l_right) (defScope st_l_right) [] [] (He.fAd K ("_law_right", none)) fd
  gl_l_bad : mg "_law_bad" = some (.ref (He.fAd K ("_law_bad", none)))
  fn_l_bad : ∃ fd, FunD K "_law_bad" "_law_bad" (defArgs st_l_bad) (defBody st_l_bad) (defScope st_l_bad) [] [] (He.fAd K ("_law_bad", none)) fd
  gl_l_first_bad : mg "_law_first_bad" = some (.ref (He.fAd K ("_law_first_bad", none)))
  fn_l_first_bad : ∃ fd, FunD K "_law_first_bad" "_law_first_bad" (defArgs st_l_first_bad) (defBody st_l_first_bad) (defScope st_l_first_bad) [] [] (He.fAd K ("_law_first_bad", none)) fd
  gl_l_told_place : mg "_law_told_place" = some (.ref (He.fAd K ("_law_told_place", none)))
  fn_l_told_place : ∃ fd, FunD K "_law_told_place" "_law_told_place" (defArgs st_l_told_place) (defBody st_l_told_place) (defScope st_l_told_place) [] [] (He.fAd K ("_law_told_place", none)) fd
  gl_law : mg "law" = some (.ref (He.fAd K ("law", none)))
  fn_law : ∃ fd, FunD K "law" "law" (defArgs st_law) (defBody st_law) (defScope st_law) [] [] (He.fAd K ("law", none)) fd
/-! ### what a ring is -/
structure RingS where
  prices : List Int
  doors : List Int
  nodes : List Int
/-- the sums of the beginnings -/
def sumsL : Int → List Int → List Int
  | s, [] => [s]
  | s, x :: r => s :: sumsL (s + x) r
abbrev RingS.n (r : RingS) : Int := r.prices.length
structure RingS.ok (r : RingS) : Prop where
  pos : 0 < r.prices.length
  few : r.prices.length ≤ 40
  low : ∀ x ∈ r.prices, 1 ≤ x ∧ x ≤ 1000000000
  rise : r.doors.Pairwise (· < ·)
  inn : ∀ d ∈ r.doors, 0 ≤ d ∧ d < r.n
abbrev ringD (c : Addr) (r : RingS) : D := .obj c ns_Ring [.int r.n, tI r.prices, tI r.doors, tI r.nodes, tI (sumsL 0 r.prices)]
/-- stays -/
structure StOkS (r : RingS) (st : List (Int × Int)) : Prop where
  few : st.length ≤ 10
  inn : ∀ s ∈ st, s.1 ∈ r.doors ∧ 1 ≤ s.2 ∧ s.2 ≤ 4000
/-! ### the mathematics: what is told -/
def price (p : List Int) (y : Int) : Int := p.getD (y % p.length).toNat 0
/-- from a on, n numbers -/
def sumF (f : Int → Int) : Int → Nat → Int
  | _, 0 => 0
  | a, n + 1 => f a + sumF f (a + 1) n
def sumR (f : Int → Int) (a b : Int) : Int := sumF f a (b - a).toNat
def ins (x : Int × Int) : List (Int × Int) → List (Int × Int)
  | [] => [x]
  | y :: r => if x.1 < y.1 ∨ (x.1 = y.1 ∧ x.2 ≤ y.2) then x :: y :: r else y :: ins x r
def isort (l : List (Int × Int)) : List (Int × Int) := l.foldr ins []
def offs (n start : Int) (st : List (Int × Int)) : List (Int × Int) := st.map fun s => ((s.1 - start) % n, s.2)
/-- the program's pieces -/
def glue : List (Int × Int) → Int × Int → List (Int × Int)
  | [], s => [s]
  | q :: r, s => if s.1 ≤ q.2 then (q.1, max s.2 q.2) :: r else s :: q :: r
abbrev optD : Option Int → D
  | none => .non
  | some d => .int d
/-- the first bad stay -/
def badS (doors : List Int) (x : Int × Int) : Bool := !decide (x.1 ∈ doors) || decide (x.2 < 1)
def FB (doors : List Int) (st : List (Int × Int)) : Option Nat := st.findIdx? (badS doors)
abbrev badX (c : Addr) (i : Nat) : Xn := ⟨.ref c, ["place"], [.int i]⟩
def cov (n s : Int) (st : List (Int × Int)) (k : Nat) : Bool := st.any fun x => decide ((x.1 - s) % n ≤ (k : Int) ∧ (k : Int) < (x.1 - s) % n + x.2)
def mostF (st : List (Int × Int)) : Int := st.foldl (fun a x => max a x.2) 0
def numsN (n s : Int) (st : List (Int × Int)) : List Nat := (List.range (n + mostF st).toNat).filter (cov n s st)
def dues (n s : Int) (st : List (Int × Int)) : List Int := (numsN n s st).map fun k : Nat => (s + (k : Int)) % n
def dueSum (p : List Int) (s : Int) (st : List (Int × Int)) : Int := ((dues p.length s st).map fun d => p.getD d.toNat 0).sum
def pref (run : List Int) (d : Nat) (sch : List Int) : Nat := sch.foldl (fun d b => if run[d]? = some b then d + 1 else d) d
def fbI : Option Nat → Int
  | none => -1
  | some i => i
/-! ### promises -/
abbrev P_distinct : PF := fun ds QD _ => ∃ xs : List Int, ds = [lI xs] ∧ xs.length < 64 ∧ ∀ out : List Int, out.Pairwise (· < ·) → (∀ k, k ∈ out ↔ k ∈ xs) → QD (lI out)
abbrev P_check_stays (c_Ring c_BadStay : Addr) : PF := fun ds QD QX => ∃ (r : RingS) (st : List (Int × Int)), ds = [ringD c_Ring r, lP st] ∧ st.length ≤ 10 ∧ (FB r.doors st = none → QD .non) ∧ ∀ i, FB r.doors st = some i → QX (badX c_BadStay i)
abbrev P_laid (c_Ring : Addr) : PF := fun ds QD _ => ∃ (r : RingS) (st : List (Int × Int)) (s : Int), ds = [ringD c_Ring r, lP st, .int s] ∧ r.ok ∧ StOkS r st ∧ QD (lP ((isort (offs r.n s st)).map fun q => (s + q.1, s + q.1 + q.2)))
abbrev P_pieces (c_Ring : Addr) : PF := fun ds QD _ => ∃ (r : RingS) (st : List (Int × Int)) (s : Int), ds = [ringD c_Ring r, lP st, .int s] ∧ r.ok ∧ StOkS r st ∧ QD (lP (((isort (offs r.n s st)).map fun q => (s + q.1, s + q.1 + q.2)).foldl glue []).reverse)
abbrev P_sums_of : PF := fun ds QD _ => ∃ ps : List Int, ds = [lI ps] ∧ ps.length ≤ 1000 ∧ QD (tI (sumsL 0 ps))
abbrev nodD : Option (List Int) → D
  | none => .non
  | some l => lI l
abbrev P_check_ring : PF := fun ds QD _ => ∃ (r : RingS) (no : Option (List Int)), ds = [lI r.prices, lI r.doors, nodD no] ∧ r.ok ∧ r.doors ≠ [] ∧ (∀ l, no = some l → l.length = r.prices.length) ∧ QD .non
abbrev P_Ring_init (c_Ring : Addr) : PFI := fun ds QD _ => ∃ (r : RingS) (no : Option (List Int)), ds = [lI r.prices, lI r.doors, nodD no] ∧ r.ok ∧ r.doors ≠ [] ∧ (∀ l, no = some l → l.length = r.prices.length) ∧ ∀ no', QD (ringD c_Ring { r with nodes := no' })
abbrev P_Ring_whole (c_Ring : Addr) : PF := fun ds QD _ => ∃ r : RingS, ds = [ringD c_Ring r] ∧ r.ok ∧ QD (.int r.prices.sum)
abbrev P_piece_price (c_Ring : Addr) : PF := fun ds QD _ => ∃ (r : RingS) (a b : Int), ds = [ringD c_Ring r, .int a, .int b] ∧ r.ok ∧ 0 ≤ a ∧ a ≤ b ∧ b ≤ 1000000 ∧ QD (.int (sumR (price r.prices) a b))
abbrev P_laid_price (c_Ring : Addr) : PF := fun ds QD _ => ∃ (r : RingS) (st : List (Int × Int)) (s : Int), ds = [ringD c_Ring r, lP st, .int s] ∧ r.ok ∧ StOkS r st ∧ 0 ≤ s ∧ s < r.n ∧ QD (.int (dueSum r.prices s st))
abbrev P_union_price (c_Ring c_BadStay : Addr) : PF := fun ds QD QX => ∃ (r : RingS) (st : List (Int × Int)) (s : Int), ds = [ringD c_Ring r, lP st, .int s] ∧ r.ok ∧ st.length ≤ 10 ∧ (∀ x ∈ st, x.2 ≤ 4000) ∧ 0 ≤ s ∧ s < r.n ∧ (FB r.doors st = none → QD (.int (dueSum r.prices s st))) ∧ ∀ i, FB r.doors st = some i → QX (badX c_BadStay i)
abbrev P_union_beats (c_Ring c_BadStay : Addr) : PF := fun ds QD QX => ∃ (r : RingS) (st : List (Int × Int)) (s : Int), ds = [ringD c_Ring r, lP st, .int s] ∧ r.ok ∧ st.length ≤ 10 ∧ (∀ x ∈ st, x.2 ≤ 4000) ∧ 0 ≤ s ∧ s < r.n ∧ (FB r.doors st = none → QD (lI (dues r.n s st))) ∧ ∀ i, FB r.doors st = some i → QX (badX c_BadStay i)
abbrev P_least_laying (c_Ring c_BadStay : Addr) : PF := fun ds QD QX => ∃ (r : RingS) (st : List (Int × Int)), ds = [ringD c_Ring r, lP st] ∧ r.ok ∧ st.length ≤ 10 ∧ (∀ x ∈ st, x.2 ≤ 4000) ∧ (FB r.doors st = none → ∀ (b : Int) (o : Option Int), QD (.tup [.int b, optD o])) ∧ ∀ i, FB r.doors st = some i → QX (badX c_BadStay i)
abbrev P_l_cell : PF := fun ds QD _ => ∃ (ns : List Int) (k : Int), ds = [.scr ns, .int k] ∧ 0 ≤ k ∧ ∀ c : Int, 0 ≤ c → QD (.int c)
abbrev P_l_digits : PF := fun ds QD _ => ∃ c n m : Int, ds = [.int c, .int n, .int m] ∧ 0 ≤ c ∧ 0 ≤ n ∧ n ≤ 1000 ∧ 0 < m ∧ m ≤ 1000000000 ∧ ∀ row : List Int, row.length = n.toNat → (∀ x ∈ row, 0 ≤ x ∧ x < m) → QD (lI row)
abbrev P_l_seed : PF := fun ds QD _ => ∃ (ns : List Int) (k : Int), ds = [.scr ns, .int k] ∧ 0 ≤ k ∧ k ≤ 1000 ∧ ∀ c : Int, 0 ≤ c → QD (.int c)
abbrev P_l_prefix : PF := fun ds QD _ => ∃ (run sch : List Int), ds = [lI run, lI sch] ∧ run.length ≤ 10000 ∧ QD (.int (pref run 0 sch))
abbrev P_l_is_int : PF := fun ds QD _ => ∃ o : Option Int, ds = [optD o] ∧ QD (.bl o.isSome)
abbrev P_l_ints : PF := fun ds QD _ => ∃ ns : List Int, ds = [lI ns] ∧ QD (.bl true)
abbrev P_l_prices : PF := fun ds QD _ => ∃ c n k : Int, ds = [.int c, .int n, .int k] ∧ 0 ≤ c ∧ 1 ≤ n ∧ n ≤ 40 ∧ ∀ row : List Int, row.length = n.toNat → (∀ x ∈ row, 1 ≤ x ∧ x ≤ 1000000000) → QD (lI row)
abbrev P_l_gates : PF := fun ds QD _ => ∃ c n : Int, ds = [.int c, .int n] ∧ 0 ≤ c ∧ 1 ≤ n ∧ n ≤ 40 ∧ ∀ row : List Int, row ≠ [] → row.Pairwise (· < ·) → (∀ x ∈ row, 0 ≤ x ∧ x < n) → QD (lI row)
abbrev P_l_drawn : PF := fun ds QD _ => ∃ (c : Int) (g : List Int) (n m : Int), ds = [.int c, lI g, .int n, .int m] ∧ 0 ≤ c ∧ g ≠ [] ∧ 0 ≤ n ∧ n ≤ 9 ∧ 1 ≤ m ∧ m ≤ 4000 ∧ ∀ st : List (Int × Int), st.length = n.toNat → (∀ s ∈ st, s.1 ∈ g ∧ 1 ≤ s.2 ∧ s.2 ≤ m) → QD (lP st)
abbrev P_l_laid_beats : PF := fun ds QD _ => ∃ (n : Int) (st : List (Int × Int)) (s : Int), ds = [.int n, lP st, .int s] ∧ 1 ≤ n ∧ n ≤ 40 ∧ (∀ x ∈ st, 0 ≤ x.1 ∧ x.1 < n ∧ 1 ≤ x.2 ∧ x.2 ≤ 4000) ∧ 0 ≤ s ∧ s < n ∧ QD (lI (dues n s st))
abbrev P_l_ring (c_Ring : Addr) : PF := fun ds QD _ => ∃ (r : RingS) (k : Int), ds = [lI r.prices, lI r.doors, .int k] ∧ r.ok ∧ r.doors ≠ [] ∧ ∀ no', QD (ringD c_Ring { r with nodes := no' })
abbrev P_l_right (c_Ring c_BadStay : Addr) : PF := fun ds QD _ => ∃ (r : RingS) (st : List (Int × Int)) (s : Int), ds = [ringD c_Ring r, lI r.prices, lP st, .int s] ∧ r.ok ∧ StOkS r st ∧ 0 ≤ s ∧ s < r.n ∧ QD (.bl true)
abbrev P_l_bad : PF := fun ds QD _ => ∃ (row g : List Int) (n : Int), ds = [lI row, lI g, .int n] ∧ row.length = 4 ∧ g ≠ [] ∧ 1 ≤ n ∧ n ≤ 40 ∧ ∀ x : Int × Int, x.2 ≤ 4000 → QD (prD x)
abbrev P_l_first_bad : PF := fun ds QD _ => ∃ (g : List Int) (st : List (Int × Int)), ds = [lI g, lP st] ∧ st.length ≤ 10 ∧ QD (.int (fbI (FB g st)))
abbrev P_l_told_place (c_Ring c_BadStay : Addr) : PF := fun ds QD _ => ∃ (r : RingS) (st : List (Int × Int)) (s w : Int), ds = [ringD c_Ring r, lP st, .int s, .int w] ∧ r.ok ∧ st.length ≤ 10 ∧ (∀ x ∈ st, x.2 ≤ 4000) ∧ 0 ≤ s ∧ s < r.n ∧ QD (.int (fbI (FB r.doors st)))
abbrev P_law (c_Ring c_BadStay : Addr) : PF := fun ds QD _ => ∃ ns : List Int, ds = [.scr ns] ∧ ns.length ≤ 63 ∧ QD (.bl true)

def B_distinct : PS' :=
 sRet (pSortSet (pVar 0))
def B_check_stays (c_Ring : Addr) (c_BadStay : Addr) (QX : Xn → Prop) : PS' :=
 sFor (iEnu (pVar 1)) (tTupl 2 (tsCons (tName 2) (tsCons (tName 3) (tsNil)))) (sIf (bOr (bTest (pBin (qIn true) (pIx (pVar 3) (pC (.int 0))) (pFld c_Ring ns_Ring 2 (pVar 0)))) (bTest (pBin qLt (pIx (pVar 3) (pC (.int 1))) (pC (.int 1))))) (sRaise (fun x _ => QX x) (pErr1 c_BadStay "place" (pCons (pVar 2) (pNil)))) (sSkip))
def B_laid (c_Ring : Addr) : PS' :=
 sSeq (sSet 3 (pLst (pNil)))
 (sSeq (sFor (iLst (pVar 1)) (tTupl 2 (tsCons (tName 4) (tsCons (tName 5) (tsNil)))) (sSeq (sSet 6 (pAdd (pVar 2) (pMod (pSub (pVar 4) (pVar 2)) (pFld c_Ring ns_Ring 0 (pVar 0)))))
 (sApp 3 (pTup (pCons (pVar 6) (pCons (pAdd (pVar 6) (pVar 5)) (pNil)))))))
 (sRet (pFn qSortP (pCons (pVar 3) (pNil)))))
def B_pieces (c_Ring : Addr) : PS' :=
 sSeq (sSet 3 (pLst (pNil)))
 (sSeq (sFor (iLst (pCall F0 (P_laid c_Ring) [] (pCons (pVar 0) (pCons (pVar 1) (pCons (pVar 2) (pNil)))))) (tTupl 2 (tsCons (tName 4) (tsCons (tName 5) (tsNil)))) (sIf (bAnd (bTru (pVar 3)) (bTest (pBin qLe (pVar 4) (pIx (pIx (pVar 3) (pNeg (pC (.int 1)))) (pC (.int 1)))))) (sIxSet 3 (pNeg (pC (.int 1))) (pTup (pCons (pIx (pIx (pVar 3) (pNeg (pC (.int 1)))) (pC (.int 0))) (pCons (pFn qMax2 (pCons (pVar 5) (pCons (pIx (pIx (pVar 3) (pNeg (pC (.int 1)))) (pC (.int 1))) (pNil)))) (pNil))))) (sApp 3 (pTup (pCons (pVar 4) (pCons (pVar 5) (pNil)))))))
 (sRetV 3))
def B_sums_of : PS' :=
 sSeq (sSet 1 (pLst (pCons (pC (.int 0)) (pNil))))
 (sSeq (sFor (iLst (pVar 0)) (tName 2) (sApp 1 (pAdd (pIx (pVar 1) (pNeg (pC (.int 1)))) (pVar 2))))
 (sRet (pFnV qTuple (pCons (pVar 1) (pNil)))))
def B_check_ring : PS' :=
 sSeq (sIf (bOr (bTest (pBin qEq (pFn qLen (pCons (pVar 0) (pNil))) (pC (.int 0)))) (bOr (bTest (pBin qLt (pFn qMinL (pCons (pVar 0) (pNil))) (pC (.int 1)))) (bTest (pBin qEq (pFn qLen (pCons (pVar 1) (pNil))) (pC (.int 0)))))) (sNever) (sSkip))
 (sSeq (sSet 3 (pNeg (pC (.int 1))))
 (sSeq (sFor (iLst (pVar 1)) (tName 4) (sSeq (sIf (bNot (bTest (pChain qLt qLt (pVar 3) (pVar 4) (pFn qLen (pCons (pVar 0) (pNil)))))) (sNever) (sSkip))
 (sSet 3 (pVar 4))))
 (sIf (bAnd (bTest (pBin qNotN (pVar 2) (pC .non))) (bTest (pBin qNe (pFn qLen (pCons (pVar 2) (pNil))) (pFn qLen (pCons (pVar 0) (pNil)))))) (sNever) (sSkip))))
def B_Ring_init (c_Ring : Addr) : PS' :=
 sSeq (sDrop (pCall F0 (P_check_ring) [] (pCons (pVar 1) (pCons (pVar 2) (pCons (pVar 3) (pNil))))))
 (sSeq (sFldN c_Ring [] "size" 0 (pFn qLen (pCons (pVar 1) (pNil))))
 (sSeq (sFldN c_Ring ["size"] "prices" 0 (pFn qTuple (pCons (pVar 1) (pNil))))
 (sSeq (sFldN c_Ring ["size", "prices"] "doors" 0 (pFn qTuple (pCons (pVar 2) (pNil))))
 (sSeq (sIf (bTest (pBin qIsN (pVar 3) (pC .non))) (sFldN c_Ring ["size", "prices", "doors"] "nodes" 0 (pTupRg (pRg1 (pFn qLen (pCons (pVar 1) (pNil)))))) (sFldN c_Ring ["size", "prices", "doors"] "nodes" 0 (pFn qTuple (pCons (pVar 3) (pNil)))))
 (sFldN c_Ring ["size", "prices", "doors", "nodes"] "_sums" 0 (pCall F0 (P_sums_of) [] (pCons (pVar 1) (pNil))))))))
def B_Ring_whole (c_Ring : Addr) : PS' :=
 sRet (pIx (pFld c_Ring ns_Ring 4 (pVar 0)) (pFld c_Ring ns_Ring 0 (pVar 0)))
def B_piece_price (c_Ring : Addr) : PS' :=
 sSeq (sSet 3 (pDiv (pSub (pVar 2) (pVar 1)) (pFld c_Ring ns_Ring 0 (pVar 0))))
 (sSeq (sSet 4 (pMul (pVar 3) (pMeth F0 c_Ring ns_Ring (P_Ring_whole c_Ring) [] (pVar 0) (pNil))))
 (sSeq (sFor (iRg2 (pAdd (pVar 1) (pMul (pVar 3) (pFld c_Ring ns_Ring 0 (pVar 0)))) (pVar 2)) (tName 5) (sAug (fun i j => i + j) 4 (pIx (pFld c_Ring ns_Ring 1 (pVar 0)) (pMod (pVar 5) (pFld c_Ring ns_Ring 0 (pVar 0))))))
 (sRet (pVar 4))))
def B_laid_price (c_Ring : Addr) : PS' :=
 sRet (pFn qSum (pCons (pLc [3, 4] (iLst (pCall F0 (P_pieces c_Ring) [] (pCons (pVar 0) (pCons (pVar 1) (pCons (pVar 2) (pNil)))))) (tTupl 2 (tsCons (tName 3) (tsCons (tName 4) (tsNil)))) (bYes) (pCall F0 (P_piece_price c_Ring) [] (pCons (pVar 0) (pCons (pVar 3) (pCons (pVar 4) (pNil)))))) (pNil)))
def B_union_price (c_Ring : Addr) (c_BadStay : Addr) (QX : Xn → Prop) : PS' :=
 sSeq (sDrop (pCall (fun x _ => QX x) (P_check_stays c_Ring c_BadStay) [] (pCons (pVar 0) (pCons (pVar 1) (pNil)))))
 (sRet (pCall (fun x _ => QX x) (P_laid_price c_Ring) [] (pCons (pVar 0) (pCons (pVar 1) (pCons (pVar 2) (pNil))))))
def B_union_beats (c_Ring : Addr) (c_BadStay : Addr) (QX : Xn → Prop) : PS' :=
 sSeq (sDrop (pCall (fun x _ => QX x) (P_check_stays c_Ring c_BadStay) [] (pCons (pVar 0) (pCons (pVar 1) (pNil)))))
 (sSeq (sSet 3 (pLst (pNil)))
 (sSeq (sFor (iLst (pCall (fun x _ => QX x) (P_pieces c_Ring) [] (pCons (pVar 0) (pCons (pVar 1) (pCons (pVar 2) (pNil)))))) (tTupl 2 (tsCons (tName 4) (tsCons (tName 5) (tsNil)))) (sFor (iRg2 (pVar 4) (pVar 5)) (tName 6) (sApp 3 (pMod (pVar 6) (pFld c_Ring ns_Ring 0 (pVar 0))))))
 (sRetV 3)))
def B_least_laying (c_Ring : Addr) (c_BadStay : Addr) (QX : Xn → Prop) : PS' :=
 sSeq (sDrop (pCall (fun x _ => QX x) (P_check_stays c_Ring c_BadStay) [] (pCons (pVar 0) (pCons (pVar 1) (pNil)))))
 (sSeq (sSet 2 (pTup (pCons (pC (.int 0)) (pCons (pC .non) (pNil)))))
 (sSeq (sFor (iLst (pCall (fun x _ => QX x) (P_distinct) [] (pCons (pLc [5] (iLst (pVar 1)) (tName 5) (bYes) (pIx (pVar 5) (pC (.int 0)))) (pNil)))) (tName 3) (sSeq (sSet 4 (pCall (fun x _ => QX x) (P_laid_price c_Ring) [] (pCons (pVar 0) (pCons (pVar 1) (pCons (pVar 3) (pNil))))))
 (sIf (bOr (bTest (pBin qIsN (pIx (pVar 2) (pC (.int 1))) (pC .non))) (bTest (pBin qLt (pVar 4) (pIx (pVar 2) (pC (.int 0)))))) (sSet 2 (pTup (pCons (pVar 4) (pCons (pVar 3) (pNil))))) (sSkip))))
 (sRet (pVar 2))))
def B_l_cell : PS' :=
 sSeq (sIf (bTest (pBin qLt (pVar 1) (pFn qLen (pCons (pVar 0) (pNil))))) (sRet (pFn qAbs (pCons (pIx (pVar 0) (pVar 1)) (pNil)))) (sSkip))
 (sRet (pC (.int 0)))
def B_l_digits : PS' :=
 sSeq (sSet 3 (pLst (pNil)))
 (sSeq (sSet 4 (pVar 0))
 (sSeq (sFor (iRg1 (pVar 1)) (tName 5) (sIf (bAnd (bTest (pBin qGe (pVar 0) (pPow (pC (.int 10)) (pC (.int 18))))) (bTest (pBin qGt (pVar 4) (pC (.int 0))))) (sSeq (sApp 3 (pMod (pFn qInt (pCons (pVar 4) (pNil))) (pVar 2)))
 (sSet 4 (pDiv (pVar 4) (pVar 2)))) (sSeq (sSet 6 (pMod (pFn qInt (pCons (pAdd (pAdd (pVar 0) (pMul (pC (.int 7919)) (pVar 5))) (pC (.int 13))) (pNil))) (pC (.int 2147483647))))
 (sSeq (sSet 6 (pMod (pFn qInt (pCons (pMul (pVar 6) (pAdd (pVar 6) (pC (.int 48271)))) (pNil))) (pC (.int 2147483629))))
 (sSeq (sSet 6 (pMod (pFn qInt (pCons (pAdd (pMul (pVar 6) (pAdd (pVar 6) (pC (.int 69621)))) (pMul (pC (.int 31)) (pVar 5))) (pNil))) (pC (.int 2147483647))))
 (sApp 3 (pMod (pFn qInt (pCons (pDiv (pVar 6) (pC (.int 9))) (pNil))) (pVar 2))))))))
 (sRetV 3)))
def B_l_seed : PS' :=
 sSeq (sIf (bTest (pBin qLt (pVar 1) (pFn qLen (pCons (pVar 0) (pNil))))) (sRet (pFn qAbs (pCons (pIx (pVar 0) (pVar 1)) (pNil)))) (sSkip))
 (sRet (pIx (pCall F0 (P_l_digits) [] (pCons (pAdd (pAdd (pCall F0 (P_l_cell) [] (pCons (pVar 0) (pCons (pC (.int 0)) (pNil)))) (pMul (pC (.int 101)) (pVar 1))) (pC (.int 7))) (pCons (pC (.int 1)) (pCons (pPow (pC (.int 10)) (pC (.int 9))) (pNil))))) (pC (.int 0))))
def B_l_prefix : PS' :=
 sSeq (sSet 2 (pC (.int 0)))
 (sSeq (sFor (iLst (pVar 1)) (tName 3) (sIf (bAnd (bTest (pBin qLt (pVar 2) (pFn qLen (pCons (pVar 0) (pNil))))) (bTest (pBin qEq (pIx (pVar 0) (pVar 2)) (pVar 3)))) (sSet 2 (pAdd (pVar 2) (pC (.int 1)))) (sSkip)))
 (sRet (pVar 2)))
def B_l_is_int : PS' :=
 sRetF (pAnd (pFn qIsi (pCons (pVar 0) (pCons (pC (.ty "int")) (pNil)))) (pNot (pFn qIsi (pCons (pVar 0) (pCons (pC (.ty "bool")) (pNil))))))
def B_l_ints : PS' :=
 sSeq (sIf (bNot (bTru (pFn qIsi (pCons (pVar 0) (pCons (pC (.ty "list")) (pNil)))))) (sRet (pC (.bl false))) (sSkip))
 (sSeq (sFor (iLst (pVar 0)) (tName 1) (sIf (bNot (bTru (pCall F0 (P_l_is_int) [] (pCons (pVar 1) (pNil))))) (sRet (pC (.bl false))) (sSkip)))
 (sRet (pC (.bl true))))
def B_l_prices : PS' :=
 sSeq (sSet 3 (pCall F0 (P_l_digits) [] (pCons (pVar 0) (pCons (pVar 1) (pCons (pPow (pC (.int 10)) (pC (.int 9))) (pNil))))))
 (sSeq (sIf (bTest (pBin qEq (pVar 2) (pC (.int 0)))) (sRet (pBin qRep (pLst (pCons (pC (.int 1)) (pNil))) (pVar 1))) (sSkip))
 (sSeq (sIf (bTest (pBin qEq (pVar 2) (pC (.int 1)))) (sRet (pLc [4] (iLst (pVar 3)) (tName 4) (bYes) (pAdd (pC (.int 1)) (pMod (pFn qInt (pCons (pVar 4) (pNil))) (pC (.int 3)))))) (sSkip))
 (sSeq (sIf (bTest (pBin qEq (pVar 2) (pC (.int 2)))) (sRet (pLc [4] (iLst (pVar 3)) (tName 4) (bYes) (pAdd (pC (.int 1)) (pMod (pFn qInt (pCons (pVar 4) (pNil))) (pC (.int 9)))))) (sSkip))
 (sRet (pLc [4] (iLst (pVar 3)) (tName 4) (bYes) (pAdd (pC (.int 1)) (pVar 4)))))))
def B_l_gates : PS' :=
 sSeq (sSet 2 (pCall F0 (P_l_digits) [] (pCons (pVar 0) (pCons (pAdd (pVar 1) (pC (.int 1))) (pCons (pC (.int 55440)) (pNil))))))
 (sSeq (sIf (bTest (pBin qEq (pMod (pFn qInt (pCons (pDiv (pIx (pVar 2) (pC (.int 0))) (pC (.int 40))) (pNil))) (pC (.int 2))) (pC (.int 1)))) (sRet (pLstRg (pRg1 (pVar 1)))) (sSkip))
 (sSeq (sSet 3 (pLc [4] (iRg1 (pVar 1)) (tName 4) (bTest (pBin qEq (pMod (pFn qInt (pCons (pIx (pVar 2) (pAdd (pC (.int 1)) (pVar 4))) (pNil))) (pC (.int 2))) (pC (.int 0)))) (pVar 4)))
 (sSeq (sIf (bTest (pBin qEq (pFn qLen (pCons (pVar 3) (pNil))) (pC (.int 0)))) (sRet (pLst (pCons (pMod (pFn qInt (pCons (pIx (pVar 2) (pC (.int 0))) (pNil))) (pVar 1)) (pNil)))) (sSkip))
 (sRetV 3))))
def B_l_drawn : PS' :=
 sSeq (sSet 4 (pCall F0 (P_l_digits) [] (pCons (pVar 0) (pCons (pMul (pC (.int 3)) (pVar 2)) (pCons (pC (.int 55440)) (pNil))))))
 (sSeq (sSet 5 (pLst (pNil)))
 (sSeq (sFor (iRg1 (pVar 2)) (tName 6) (sIf (bAnd (bTest (pBin qGt (pVar 6) (pC (.int 0)))) (bTest (pBin qEq (pMod (pFn qInt (pCons (pIx (pVar 4) (pMul (pC (.int 3)) (pVar 6))) (pNil))) (pC (.int 4))) (pC (.int 1))))) (sApp 5 (pIx (pVar 5) (pMod (pFn qInt (pCons (pIx (pVar 4) (pAdd (pMul (pC (.int 3)) (pVar 6)) (pC (.int 1)))) (pNil))) (pVar 6)))) (sApp 5 (pTup (pCons (pIx (pVar 1) (pMod (pFn qInt (pCons (pIx (pVar 4) (pAdd (pMul (pC (.int 3)) (pVar 6)) (pC (.int 1)))) (pNil))) (pFn qLen (pCons (pVar 1) (pNil))))) (pCons (pAdd (pC (.int 1)) (pMod (pFn qInt (pCons (pIx (pVar 4) (pAdd (pMul (pC (.int 3)) (pVar 6)) (pC (.int 2)))) (pNil))) (pVar 3))) (pNil)))))))
 (sRetV 5)))
def B_l_laid_beats : PS' :=
 sSeq (sSet 3 (pC (.int 0)))
 (sSeq (sFor (iLst (pVar 1)) (tName 4) (sSet 3 (pFn qMax2 (pCons (pVar 3) (pCons (pIx (pVar 4) (pC (.int 1))) (pNil))))))
 (sSeq (sSet 5 (pBin qRep (pLst (pCons (pC (.bl false)) (pNil))) (pAdd (pVar 0) (pVar 3))))
 (sSeq (sFor (iLst (pVar 1)) (tName 4) (sSeq (sSet 6 (pC (.int 0)))
 (sSeq (sFor (iRg1 (pVar 0)) (tName 7) (sIf (bTest (pBin qEq (pMod (pFn qInt (pCons (pAdd (pVar 2) (pVar 7)) (pNil))) (pVar 0)) (pIx (pVar 4) (pC (.int 0))))) (sSet 6 (pVar 7)) (sSkip)))
 (sFor (iRg1 (pIx (pVar 4) (pC (.int 1)))) (tName 7) (sIxSet 5 (pAdd (pVar 6) (pVar 7)) (pC (.bl true)))))))
 (sRet (pLc [7] (iRg1 (pFn qLen (pCons (pVar 5) (pNil)))) (tName 7) (bTru (pIx (pVar 5) (pVar 7))) (pMod (pFn qInt (pCons (pAdd (pVar 2) (pVar 7)) (pNil))) (pVar 0)))))))
def B_l_ring (c_Ring : Addr) : PS' :=
 sSeq (sIf (bTest (pBin qEq (pMod (pFn qInt (pCons (pVar 2) (pNil))) (pC (.int 2))) (pC (.int 0)))) (sRet (pMake F0 (P_Ring_init c_Ring) [.non] (pCons (pFn qList (pCons (pVar 0) (pNil))) (pCons (pFn qList (pCons (pVar 1) (pNil))) (pNil))))) (sSkip))
 (sRet (pMakeK F0 (P_Ring_init c_Ring) 2 1 (pCons (pFn qList (pCons (pVar 0) (pNil))) (pCons (pFn qList (pCons (pVar 1) (pNil))) (pNil))) (pCons (pRevL (pLc [3] (iRg1 (pFn qLen (pCons (pVar 0) (pNil)))) (tName 3) (bYes) (pAdd (pMul (pC (.int 3)) (pVar 3)) (pC (.int 2))))) (pNil))))
def B_l_right (c_Ring : Addr) (c_BadStay : Addr) : PS' :=
 sSeq (sSet 4 (pCall F0 (P_l_laid_beats) [] (pCons (pFn qLen (pCons (pVar 1) (pNil))) (pCons (pVar 2) (pCons (pVar 3) (pNil))))))
 (sSeq (sSet 5 (pFn qList (pCons (pVar 2) (pNil))))
 (sSeq (sSet 6 (pCallV F0 (P_union_price c_Ring c_BadStay) .sh [] (pCons (pVar 0) (pCons (pVar 5) (pCons (pVar 3) (pNil))))))
 (sSeq (sSet 7 (pCallV F0 (P_union_beats c_Ring c_BadStay) (.el .sh) [] (pCons (pVar 0) (pCons (pVar 5) (pCons (pVar 3) (pNil))))))
 (sSeq (sIf (bOr (bTest (pBin qNe (pVar 5) (pVar 2))) (bOr (bNot (bTru (pCall F0 (P_l_is_int) [] (pCons (pVar 6) (pNil))))) (bNot (bTru (pCallV F0 (P_l_ints) .sh [] (pCons (pVar 7) (pNil))))))) (sRet (pC (.bl false))) (sSkip))
 (sSeq (sIf (bOr (bTest (pBin qNe (pVar 6) (pFn qSum (pCons (pLc [11] (iLst (pVar 4)) (tName 11) (bYes) (pIx (pVar 1) (pVar 11))) (pNil))))) (bTest (pBin qNe (pVar 7) (pVar 4)))) (sRet (pC (.bl false))) (sSkip))
 (sSeq (sFor (iLst (pVar 2)) (tName 8) (sSeq (sSet 9 (pLc [10] (iRg1 (pIx (pVar 8) (pC (.int 1)))) (tName 10) (bYes) (pMod (pFn qInt (pCons (pAdd (pIx (pVar 8) (pC (.int 0))) (pVar 10)) (pNil))) (pFn qLen (pCons (pVar 1) (pNil))))))
 (sIf (bTest (pBin qNe (pCallV F0 (P_l_prefix) .sh [] (pCons (pVar 9) (pCons (pVar 7) (pNil)))) (pFn qLen (pCons (pVar 9) (pNil))))) (sRet (pC (.bl false))) (sSkip))))
 (sSeq (sApp 7 (pC (.int 0)))
 (sSeq (sApp 5 (pTup (pCons (pC (.int 0)) (pCons (pC (.int 1)) (pNil)))))
 (sRetF (pAnd (pBin qEq (pCall F0 (P_union_beats c_Ring c_BadStay) [] (pCons (pVar 0) (pCons (pFn qList (pCons (pVar 2) (pNil))) (pCons (pVar 3) (pNil))))) (pVar 4)) (pBin qEq (pCall F0 (P_union_price c_Ring c_BadStay) [] (pCons (pVar 0) (pCons (pFn qList (pCons (pVar 2) (pNil))) (pCons (pVar 3) (pNil))))) (pVar 6))))))))))))
def B_l_bad : PS' :=
 sSeq (sSet 3 (pLc [7] (iRg1 (pVar 2)) (tName 7) (bTest (pBin (qIn true) (pVar 7) (pVar 1))) (pVar 7)))
 (sSeq (sSet 4 (pIx (pVar 1) (pMod (pFn qInt (pCons (pIx (pVar 0) (pC (.int 2))) (pNil))) (pFn qLen (pCons (pVar 1) (pNil))))))
 (sSeq (sSet 5 (pAdd (pC (.int 1)) (pMod (pFn qInt (pCons (pIx (pVar 0) (pC (.int 1))) (pNil))) (pC (.int 20)))))
 (sSeq (sSet 6 (pMod (pFn qInt (pCons (pIx (pVar 0) (pC (.int 0))) (pNil))) (pC (.int 6))))
 (sSeq (sIf (bAnd (bTest (pBin qEq (pVar 6) (pC (.int 0)))) (bTest (pBin qGt (pFn qLen (pCons (pVar 3) (pNil))) (pC (.int 0))))) (sRet (pTup (pCons (pIx (pVar 3) (pMod (pFn qInt (pCons (pIx (pVar 0) (pC (.int 2))) (pNil))) (pFn qLen (pCons (pVar 3) (pNil))))) (pCons (pVar 5) (pNil))))) (sSkip))
 (sSeq (sIf (bTest (pBin qLt (pVar 6) (pC (.int 2)))) (sRet (pTup (pCons (pSub (pNeg (pC (.int 1))) (pMod (pFn qInt (pCons (pIx (pVar 0) (pC (.int 2))) (pNil))) (pVar 2))) (pCons (pVar 5) (pNil))))) (sSkip))
 (sSeq (sIf (bTest (pBin qEq (pVar 6) (pC (.int 2)))) (sRet (pTup (pCons (pAdd (pVar 2) (pMod (pFn qInt (pCons (pIx (pVar 0) (pC (.int 2))) (pNil))) (pVar 2))) (pCons (pVar 5) (pNil))))) (sSkip))
 (sSeq (sIf (bTest (pBin qEq (pVar 6) (pC (.int 3)))) (sRet (pTup (pCons (pVar 4) (pCons (pC (.int 0)) (pNil))))) (sSkip))
 (sSeq (sIf (bTest (pBin qEq (pVar 6) (pC (.int 4)))) (sRet (pTup (pCons (pVar 4) (pCons (pSub (pC (.int 0)) (pVar 5)) (pNil))))) (sSkip))
 (sRet (pTup (pCons (pVar 2) (pCons (pC (.int 0)) (pNil)))))))))))))
def B_l_first_bad : PS' :=
 sSeq (sFor (iRg1 (pFn qLen (pCons (pVar 1) (pNil)))) (tName 2) (sIf (bOr (bTest (pBin (qIn true) (pIx (pIx (pVar 1) (pVar 2)) (pC (.int 0))) (pVar 0))) (bTest (pBin qLt (pIx (pIx (pVar 1) (pVar 2)) (pC (.int 1))) (pC (.int 1))))) (sRet (pVar 2)) (sSkip)))
 (sRet (pNeg (pC (.int 1))))
def B_l_told_place (K : PySem.W.Frag) : PS' :=
 sSeq (sTry (fun cls => PySem.W.exmOne K cls (.ref (He.ga K "ForeworthError"))) F0 4 (fun Exb => sIf (bTest (pBin qEq (pVar 3) (pC (.int 0)))) (sDrop (pCall Exb (P_union_price (He.ga K "Ring") (He.ga K "BadStay")) [] (pCons (pVar 0) (pCons (pVar 1) (pCons (pVar 2) (pNil)))))) (sIf (bTest (pBin qEq (pVar 3) (pC (.int 1)))) (sDrop (pCall Exb (P_union_beats (He.ga K "Ring") (He.ga K "BadStay")) [] (pCons (pVar 0) (pCons (pVar 1) (pCons (pVar 2) (pNil)))))) (sDrop (pCall Exb (P_least_laying (He.ga K "Ring") (He.ga K "BadStay")) [] (pCons (pVar 0) (pCons (pVar 1) (pNil))))))) (fun ea cls ed => sSeq (sIf (bOr (bNot (bTru (pIsX K ea cls ed (pCons (pVar 4) (pCons (pC (.ref (He.ga K "BadStay"))) (pNil)))))) (bOr (bNot (bTru (pIsX K ea cls ed (pCons (pVar 4) (pCons (pC (.ty "ValueError")) (pNil)))))) (bNot (bTru (pCall F0 (P_l_is_int) [] (pCons (pXf K ea cls ed "place" (pVar 4)) (pNil))))))) (sRet (pNeg (pC (.int 3)))) (sSkip))
 (sSeq (sIf (bTru (pIsX K ea cls ed (pCons (pVar 4) (pCons (pTup (pCons (pC (.ref (He.ga K "BadChange"))) (pCons (pC (.ref (He.ga K "BadDoors"))) (pCons (pC (.ref (He.ga K "BadNode"))) (pCons (pC (.ref (He.ga K "BadOrder"))) (pCons (pC (.ref (He.ga K "BadRing"))) (pCons (pC (.ref (He.ga K "BadRun"))) (pCons (pC (.ref (He.ga K "BadStart"))) (pCons (pC (.ref (He.ga K "BadWord"))) (pCons (pC (.ref (He.ga K "BareLoop"))) (pCons (pC (.ref (He.ga K "DeskError"))) (pNil)))))))))))) (pNil))))) (sRet (pNeg (pC (.int 3)))) (sSkip))
 (sSeq (sIf (bTru (pIsX K ea cls ed (pCons (pVar 4) (pCons (pTup (pCons (pC (.ref (He.ga K "Incomplete"))) (pCons (pC (.ref (He.ga K "MixedGraphs"))) (pCons (pC (.ref (He.ga K "NoEnd"))) (pCons (pC (.ref (He.ga K "NotOver"))) (pCons (pC (.ref (He.ga K "NotStanding"))) (pCons (pC (.ref (He.ga K "NoWild"))) (pCons (pC (.ref (He.ga K "TextError"))) (pCons (pC (.ref (He.ga K "TooLarge"))) (pCons (pC (.ref (He.ga K "Unreachable"))) (pCons (pC (.ref (He.ga K "WildProgram"))) (pNil)))))))))))) (pNil))))) (sRet (pNeg (pC (.int 3)))) (sSkip))
 (sRet (pXf K ea cls ed "place" (pVar 4)))))))
 (sRet (pNeg (pC (.int 1))))
def B_law (c_Ring : Addr) (c_BadStay : Addr) : PS' :=
 sSeq (sSet 1 (pCall F0 (P_l_digits) [] (pCons (pCall F0 (P_l_seed) [] (pCons (pVar 0) (pCons (pC (.int 0)) (pNil)))) (pCons (pC (.int 10)) (pCons (pC (.int 55440)) (pNil))))))
 (sSeq (sSet 2 (pAdd (pC (.int 1)) (pMod (pFn qInt (pCons (pIx (pVar 1) (pC (.int 0))) (pNil))) (pC (.int 7)))))
 (sSeq (sIf (bTest (pBin qEq (pMod (pFn qInt (pCons (pIx (pVar 1) (pC (.int 1))) (pNil))) (pC (.int 8))) (pC (.int 5)))) (sSet 2 (pAdd (pC (.int 8)) (pMod (pFn qInt (pCons (pDiv (pIx (pVar 1) (pC (.int 0))) (pC (.int 7))) (pNil))) (pC (.int 33))))) (sSkip))
 (sSeq (sSet 3 (pCall F0 (P_l_prices) [] (pCons (pCall F0 (P_l_seed) [] (pCons (pVar 0) (pCons (pC (.int 1)) (pNil)))) (pCons (pVar 2) (pCons (pMod (pFn qInt (pCons (pIx (pVar 1) (pC (.int 2))) (pNil))) (pC (.int 4))) (pNil))))))
 (sSeq (sSet 4 (pCall F0 (P_l_gates) [] (pCons (pCall F0 (P_l_seed) [] (pCons (pVar 0) (pCons (pC (.int 2)) (pNil)))) (pCons (pVar 2) (pNil)))))
 (sSeq (sSet 5 (pC (.int 20)))
 (sSeq (sIf (bTest (pBin qEq (pMod (pFn qInt (pCons (pIx (pVar 1) (pC (.int 3))) (pNil))) (pC (.int 8))) (pC (.int 3)))) (sSet 5 (pC (.int 300))) (sSkip))
 (sSeq (sSet 6 (pCall F0 (P_l_drawn) [] (pCons (pCall F0 (P_l_seed) [] (pCons (pVar 0) (pCons (pC (.int 3)) (pNil)))) (pCons (pVar 4) (pCons (pMod (pFn qInt (pCons (pIx (pVar 1) (pC (.int 4))) (pNil))) (pC (.int 6))) (pCons (pVar 5) (pNil)))))))
 (sSeq (sSet 7 (pCall F0 (P_l_drawn) [] (pCons (pCall F0 (P_l_seed) [] (pCons (pVar 0) (pCons (pC (.int 4)) (pNil)))) (pCons (pVar 4) (pCons (pMod (pFn qInt (pCons (pIx (pVar 1) (pC (.int 5))) (pNil))) (pC (.int 6))) (pCons (pC (.int 20)) (pNil)))))))
 (sSeq (sSet 8 (pMod (pFn qInt (pCons (pIx (pVar 1) (pC (.int 6))) (pNil))) (pVar 2)))
 (sSeq (sSet 9 (pCall F0 (P_l_ring c_Ring) [] (pCons (pVar 3) (pCons (pVar 4) (pCons (pIx (pVar 1) (pC (.int 9))) (pNil))))))
 (sSeq (sIf (bNot (bTru (pCall F0 (P_l_right c_Ring c_BadStay) [] (pCons (pVar 9) (pCons (pVar 3) (pCons (pVar 6) (pCons (pVar 8) (pNil)))))))) (sRet (pC (.bl false))) (sSkip))
 (sSeq (sIf (bNot (bTru (pCall F0 (P_l_right c_Ring c_BadStay) [] (pCons (pVar 9) (pCons (pVar 3) (pCons (pVar 7) (pCons (pMod (pFn qInt (pCons (pIx (pVar 1) (pC (.int 7))) (pNil))) (pVar 2)) (pNil)))))))) (sRet (pC (.bl false))) (sSkip))
 (sSeq (sSet 10 (pFn qList (pCons (pVar 6) (pNil))))
 (sSeq (sFor (iRg1 (pAdd (pC (.int 1)) (pMod (pFn qInt (pCons (pIx (pVar 1) (pC (.int 8))) (pNil))) (pC (.int 2))))) (tName 11) (sSeq (sSet 14 (pCall F0 (P_l_digits) [] (pCons (pCall F0 (P_l_seed) [] (pCons (pVar 0) (pCons (pAdd (pC (.int 5)) (pVar 11)) (pNil)))) (pCons (pC (.int 4)) (pCons (pC (.int 55440)) (pNil))))))
 (sIns 10 (pCons (pMod (pFn qInt (pCons (pIx (pVar 14) (pC (.int 3))) (pNil))) (pAdd (pFn qLen (pCons (pVar 10) (pNil))) (pC (.int 1)))) (pCons (pCall F0 (P_l_bad) [] (pCons (pVar 14) (pCons (pVar 4) (pCons (pVar 2) (pNil))))) (pNil))))))
 (sSeq (sSet 12 (pCall F0 (P_l_first_bad) [] (pCons (pVar 4) (pCons (pVar 10) (pNil)))))
 (sSeq (sFor (iRg1 (pC (.int 3))) (tName 13) (sSeq (sSet 15 (pFn qList (pCons (pVar 10) (pNil))))
 (sSeq (sIf (bOr (bTest (pBin qNe (pCall F0 (P_l_told_place c_Ring c_BadStay) [] (pCons (pVar 9) (pCons (pVar 15) (pCons (pVar 8) (pCons (pVar 13) (pNil)))))) (pVar 12))) (bTest (pBin qNe (pVar 15) (pVar 10)))) (sRet (pC (.bl false))) (sSkip))
 (sIf (bTest (pBin qNe (pCall F0 (P_l_told_place c_Ring c_BadStay) [] (pCons (pVar 9) (pCons (pFn qList (pCons (pVar 6) (pNil))) (pCons (pVar 8) (pCons (pVar 13) (pNil)))))) (pNeg (pC (.int 1))))) (sRet (pC (.bl false))) (sSkip)))))
 (sRet (pCall F0 (P_l_right c_Ring c_BadStay) [] (pCons (pVar 9) (pCons (pVar 3) (pCons (pVar 6) (pCons (pVar 8) (pNil)))))))))))))))))))))))
end K16

set_option Elab.async false
set_option linter.all false
set_option maxRecDepth 100000
set_option maxHeartbeats 4000000
set_option hygiene false in
local macro_rules | `(tactic| walk_at "pw") => `(tactic| repeat (first
  | (with_reducible apply w_seq) | (with_reducible apply w_skip) | (with_reducible apply w_set) | (with_reducible apply w_setF) | (with_reducible apply w_drop) | (with_reducible apply w_ixSet) | (with_reducible apply w_fldN) | (with_reducible apply w_ret) | (with_reducible apply w_retF) | (with_reducible apply w_retN) | (with_reducible apply w_if) | (with_reducible apply w_break) | (with_reducible apply w_cont)
  | ((with_reducible apply w_var); exact rfl) | (with_reducible apply w_c) | (with_reducible apply w_bin)
  | (with_reducible apply w_add) | (with_reducible apply w_sub) | (with_reducible apply w_mul) | (with_reducible apply w_div) | (with_reducible apply w_mod) | (with_reducible apply w_pow)
  | (with_reducible apply w_qI0) | ((with_reducible apply w_qI); focus (first | assumption | omega | (unfold CMul; omega) | (unfold CDiv; omega) | (unfold CPow; decide)))
  | (with_reducible apply w_lt) | (with_reducible apply w_le) | (with_reducible apply w_gt) | (with_reducible apply w_ge) | (with_reducible apply w_eqI) | (with_reducible apply w_neI)
  | (with_reducible apply w_isNi) | (with_reducible apply w_isNn) | (with_reducible apply w_isNl) | (with_reducible apply w_nNi) | (with_reducible apply w_nNn) | (with_reducible apply w_nNl)
  | (with_reducible apply w_test) | (with_reducible apply w_tru) | (with_reducible apply w_band) | (with_reducible apply w_bor) | (with_reducible apply w_bnot) | (with_reducible apply w_pand) | (with_reducible apply w_por) | (with_reducible apply w_pnot) | (with_reducible apply w_pif) | (with_reducible apply w_neg)
  | (with_reducible apply w_ix) | ((with_reducible apply w_ixQ); exact rfl; first | exact rfl | assumption)
  | (with_reducible apply w_exb) | (with_reducible apply w_exi) | (with_reducible apply w_exl) | (with_reducible apply w_ext) | (with_reducible apply w_exTb) | (with_reducible apply w_flI) | (with_reducible apply w_flN) | (with_reducible apply w_flB)
  | (with_reducible apply w_nil) | (with_reducible apply w_cons) | (with_reducible apply w_flat) | (with_reducible apply w_lst) | (with_reducible apply w_tup) | ((with_reducible apply w_lenQ); exact Nat.le_of_ble_eq_true rfl)
  | (with_reducible apply w_call) | (with_reducible apply w_callV) | (with_reducible apply w_fld) | ((with_reducible apply w_fldQ); exact rfl) | (with_reducible apply w_obj) | (with_reducible apply w_meth) | (with_reducible apply w_make) | (with_reducible apply w_makeK)
  | (with_reducible apply w_fn) | (with_reducible apply w_fnV) | (with_reducible apply w_lenL) | (with_reducible apply w_lenT) | (with_reducible apply w_lenS) | (with_reducible apply w_abs) | (with_reducible apply w_int) | (with_reducible apply w_max2) | (with_reducible apply w_min2) | (with_reducible apply w_sum) | (with_reducible apply w_tuple) | (with_reducible apply w_revL)
  | (with_reducible apply w_nb) | (with_reducible apply w_tt) | (with_reducible apply w_ff)
  | (with_reducible apply w_for) | (with_reducible apply w_iLst) | (with_reducible apply w_iTpl) | (with_reducible apply w_iRg1) | (with_reducible apply w_iRg2) | (with_reducible apply w_iEnu) | (with_reducible apply w_tn) | (with_reducible apply w_tt2) | (with_reducible apply w_lc) | (with_reducible apply w_turn) | (with_reducible apply w_yes) | (with_reducible apply w_lstRg) | (with_reducible apply w_tupRg) | (with_reducible apply w_rg1) | (with_reducible apply w_rg2) | (with_reducible apply w_exii) | (with_reducible apply w_sl) | (with_reducible apply w_pNo) | (with_reducible apply w_pSome) | ((with_reducible apply w_aug); exact rfl) | (with_reducible apply w_chain) | (with_reducible apply w_tupX) | (with_reducible apply w_exX) | (with_reducible apply w_iTpx) | (with_reducible apply w_exx) | (with_reducible apply w_tix) | (with_reducible apply w_slT) | (with_reducible apply w_lenX) | (with_reducible apply w_inX) | (with_reducible apply w_ninX) | (with_reducible apply w_inT) | (with_reducible apply w_inL) | (with_reducible apply w_ninT) | (with_reducible apply w_ninL) | (with_reducible apply w_lc2) | (with_reducible apply w_turn2) | (with_reducible apply w_retT) | (with_reducible apply w_minD) | (with_reducible apply w_raise) | (with_reducible apply w_err1) | (with_reducible apply w_isX) | (with_reducible apply w_xf)))
namespace K16
open PySem PySem.Spec PyProof.Rows L2 G
/-! ### sorted pairs -/
theorem lex_tot (a b : Int × Int) : lexLe a b ∨ lexLe b a := by unfold lexLe; omega
theorem lex_trans {a b c : Int × Int} (h1 : lexLe a b) (h2 : lexLe b c) : lexLe a c := by unfold lexLe at *; omega
theorem lex_anti {a b : Int × Int} (h1 : lexLe a b) (h2 : lexLe b a) : a = b := by
  unfold lexLe at *
  exact Prod.ext (by omega) (by omega)
theorem lex_refl (a : Int × Int) : lexLe a a := by unfold lexLe; omega
theorem lex_uniq : ∀ (l1 l2 : List (Int × Int)), l1.Perm l2 → l1.Pairwise lexLe → l2.Pairwise lexLe → l1 = l2
  | [], l2, h, _, _ => (List.nil_perm.mp h).symm
  | a :: l1, [], h, _, _ => by
    have := h.length_eq
    simp at this
  | a :: l1, b :: l2, h, h1, h2 => by
    obtain ⟨a1, a2⟩ := List.pairwise_cons.mp h1
    obtain ⟨b1, b2⟩ := List.pairwise_cons.mp h2
    have e : a = b := by
      have m1 : a ∈ b :: l2 := h.mem_iff.mp List.mem_cons_self
      have m2 : b ∈ a :: l1 := h.mem_iff.mpr List.mem_cons_self
      rcases List.mem_cons.mp m1 with q | q
      · exact q
      · rcases List.mem_cons.mp m2 with q2 | q2
        · exact q2.symm
        · exact lex_anti (a1 b q2) (b1 a q)
    subst e
    rw [lex_uniq l1 l2 (List.perm_cons a |>.mp h) a2 b2]
theorem ins_perm (x : Int × Int) : ∀ l, (ins x l).Perm (x :: l)
  | [] => .refl _
  | y :: r => by
    unfold ins
    split
    · exact .refl _
    · exact ((ins_perm x r).cons y).trans (.swap x y r)
theorem ins_sorted (x : Int × Int) : ∀ l : List (Int × Int), l.Pairwise lexLe → (ins x l).Pairwise lexLe
  | [], _ => by simp [ins]
  | y :: r, h => by
    obtain ⟨h1, h2⟩ := List.pairwise_cons.mp h
    unfold ins
    split
    · rename_i c
      have xy : lexLe x y := c
      exact List.pairwise_cons.mpr ⟨fun z hz => by
        rcases List.mem_cons.mp hz with q | q
        · rw [q]; exact xy
        · exact lex_trans xy (h1 z q), h⟩
    · rename_i c
      have yx : lexLe y x := (lex_tot x y).resolve_left c
      exact List.pairwise_cons.mpr ⟨fun z hz => by
        rcases List.mem_cons.mp ((ins_perm x r).mem_iff.mp hz) with q | q
        · rw [q]; exact yx
        · exact h1 z q, ins_sorted x r h2⟩
theorem isort_perm : ∀ l, (isort l).Perm l
  | [] => .refl _
  | x :: l => (ins_perm x (isort l)).trans ((isort_perm l).cons x)
theorem isort_sorted : ∀ l, (isort l).Pairwise lexLe
  | [] => .nil
  | x :: l => ins_sorted x (isort l) (isort_sorted l)
theorem sorted_is {m l : List (Int × Int)} (h1 : m.Perm l) (h2 : m.Pairwise lexLe) : m = isort l := lex_uniq _ _ (h1.trans (isort_perm l).symm) h2 (isort_sorted l)
/-- the same shifted -/
theorem sorted_shift {m l : List (Int × Int)} {s : Int} (h1 : m.Perm (l.map fun q => (s + q.1, s + q.1 + q.2))) (h2 : m.Pairwise lexLe) : m = (isort l).map fun q => (s + q.1, s + q.1 + q.2) := by
  refine lex_uniq _ _ (h1.trans ((isort_perm l).map _).symm) h2 ?_
  rw [List.pairwise_map]
  exact (isort_sorted l).imp fun {a b} h => by
    unfold lexLe at *
    dsimp only
    omega
/-! ### sums -/
theorem sumF_add (f : Int → Int) : ∀ (a : Int) (n m : Nat), sumF f a (n + m) = sumF f a n + sumF f (a + n) m
  | a, 0, m => by simp [sumF]
  | a, n + 1, m => by
    have ih := sumF_add f (a + 1) n m
    rw [show n + 1 + m = (n + m) + 1 by omega]
    simp only [sumF]
    rw [ih, show a + 1 + (n : Int) = a + ((n + 1 : Nat) : Int) by omega]
    omega
theorem sumR_cut (f : Int → Int) {a b c : Int} (h1 : a ≤ b) (h2 : b ≤ c) : sumR f a c = sumR f a b + sumR f b c := by
  unfold sumR
  rw [show (c - a).toNat = (b - a).toNat + (c - b).toNat by omega, sumF_add, show a + ((b - a).toNat : Int) = b by omega]
theorem sumR_nil (f : Int → Int) {a b : Int} (h : b ≤ a) : sumR f a b = 0 := by
  unfold sumR
  rw [show (b - a).toNat = 0 by omega]
  rfl
theorem sumF_shift (f : Int → Int) (s : Int) : ∀ (a : Int) (n : Nat), sumF f (s + a) n = sumF (fun y => f (s + y)) a n
  | a, 0 => rfl
  | a, n + 1 => by
    simp only [sumF]
    rw [show s + a + 1 = s + (a + 1) by omega, sumF_shift f s (a + 1) n]
theorem sumR_shift (f : Int → Int) (s a b : Int) : sumR f (s + a) (s + b) = sumR (fun y => f (s + y)) a b := by
  unfold sumR
  rw [show s + b - (s + a) = b - a by omega, sumF_shift]
/-- what the pieces hold -/
def held (f : Int → Int) (l : List (Int × Int)) : Int := (l.map fun q => sumR f q.1 q.2).sum
theorem main_l_cell (ds : List D) (QD : D → Prop) (QX : Xn → Prop) (h : P_l_cell ds QD QX) : B_l_cell { nx := fun _ => QD .non, rt := fun d _ => QD d } (env0 ["_law_script", "_law_k"] ds) := by
  obtain ⟨ns, k, rfl, h0, hq⟩ := h
  unfold B_l_cell
  walk_at "pw"
  refine w_dec (fun h => ?_) fun h => ?_
  · walk_at "pw"
    have hk : k.toNat < ns.length := by omega
    refine w_ixQ (ds := ns.map .int) (d := .int ns[k.toNat]) rfl ?_ ?_
    · exact atI_nat h0 (by simp [hk])
    · walk_at "pw"
      exact hq _ (by omega)
  · walk_at "pw"
    exact hq 0 (by omega)
theorem main_l_is_int (ds : List D) (QD : D → Prop) (QX : Xn → Prop) (h : P_l_is_int ds QD QX) : B_l_is_int { nx := fun _ => QD .non, rt := fun d _ => QD d } (env0 ["_law_value"] ds) := by
  obtain ⟨o, rfl, hq⟩ := h
  cases o with
  | none =>
    unfold B_l_is_int
    walk_at "pw"
    refine w_isi (t := "NoneType") (r := false) rfl rfl ?_
    walk_at "pw"
    exact hq
  | some i =>
    unfold B_l_is_int
    walk_at "pw"
    refine w_isi (t := "int") (r := true) rfl rfl ?_
    walk_at "pw"
    refine w_isi (t := "int") (n := "bool") (r := false) rfl rfl ?_
    walk_at "pw"
    exact hq

theorem main_l_digits (ds : List D) (QD : D → Prop) (QX : Xn → Prop) (h : P_l_digits ds QD QX) : B_l_digits { nx := fun _ => QD .non, rt := fun d _ => QD d } (env0 ["_law_cell_here", "_law_count", "_law_size", "_law_row", "_law_rest", "_law_k", "_law_mixed"] ds) := by
  obtain ⟨c, n, m, rfl, hc, hn, hn2, hm, hm2, hq⟩ := h
  unfold B_l_digits
  walk_at "pw"
  refine ⟨by omega, by omega, ?_⟩
  refine forL_map (fun done rest env => done ++ rest = List.range n.toNat ∧ ∃ (row : List Int) (r : Int) (a b : Option D), env = [some (.int c), some (.int n), some (.int m), some (lI row), some (.int r), a, b] ∧ row.length = done.length ∧ (∀ x ∈ row, 0 ≤ x ∧ x < m)) [] _ ⟨rfl, [], c, none, none, rfl, rfl, by simp⟩ ?_ ?_
  · rintro done x rest env K ⟨hr, row, r, a, b, rfl, hl, hx⟩ hK
    have hlen : (done ++ x :: rest).length = n.toNat := by rw [hr, List.length_range]
    have hxn : x < n.toNat := by
      have : x ∈ List.range n.toNat := by rw [← hr]; simp
      exact List.mem_range.mp this
    rw [List.length_append, List.length_cons] at hlen
    have fin : ∀ (y : Int) (z : G.Env), 0 ≤ y → y < m → (∃ (r : Int) (a b : Option D), z = [some (.int c), some (.int n), some (.int m), some (.lst (row.map .int ++ [.int y])), some (.int r), a, b]) → K z := fun y z h1 h2 ⟨r, a, b, e⟩ => hK z ⟨by rw [List.append_assoc]; exact hr, row ++ [y], r, a, b, by rw [e]; simp, by simp [hl], fun w hw => by
      rcases List.mem_append.mp hw with q | q
      · exact hx w q
      · rw [List.mem_singleton.mp q]; exact ⟨h1, h2⟩⟩
    walk_at "pw"
    refine w_dec (fun g => ?_) fun g => ?_
    · walk_at "pw"
      refine w_dec (fun g2 => ?_) fun g2 => ?_
      · walk_at "pw"
        refine w_app rfl ?_
        walk_at "pw"
        refine ⟨by simp; omega, ?_⟩
        walk_at "pw"
        exact fin (r % m) _ (Int.emod_nonneg _ (by omega)) (Int.emod_lt_of_pos _ hm) ⟨_, _, _, rfl⟩
      · walk_at "pw"
        refine w_app rfl ?_
        walk_at "pw"
        refine ⟨by simp; omega, ?_⟩
        exact fin _ _ (Int.emod_nonneg _ (by omega)) (Int.emod_lt_of_pos _ hm) ⟨_, _, _, rfl⟩
    · walk_at "pw"
      refine w_app rfl ?_
      walk_at "pw"
      refine ⟨by simp; omega, ?_⟩
      exact fin _ _ (Int.emod_nonneg _ (by omega)) (Int.emod_lt_of_pos _ hm) ⟨_, _, _, rfl⟩
  · rintro done env ⟨hr, row, r, a, b, rfl, hl, hx⟩
    refine w_retV rfl ?_
    refine hq row ?_ hx
    rw [List.append_nil] at hr
    rw [hl, hr, List.length_range]
theorem main_l_seed (ds : List D) (QD : D → Prop) (QX : Xn → Prop) (h : P_l_seed ds QD QX) : B_l_seed { nx := fun _ => QD .non, rt := fun d _ => QD d } (env0 ["_law_script", "_law_k"] ds) := by
  obtain ⟨ns, k, rfl, h0, h1, hq⟩ := h
  unfold B_l_seed
  walk_at "pw"
  refine w_dec (fun h => ?_) fun h => ?_
  · walk_at "pw"
    have hk : k.toNat < ns.length := by omega
    refine w_ixQ (ds := ns.map .int) (d := .int ns[k.toNat]) rfl (atI_nat h0 (by simp [hk])) ?_
    walk_at "pw"
    exact hq _ (by omega)
  · walk_at "pw"
    refine ⟨ns, 0, rfl, by omega, fun c hc => ?_⟩
    walk_at "pw"
    refine ⟨_, _, _, rfl, by omega, by omega, by omega, by decide, by decide, fun row hl hx => ?_⟩
    walk_at "pw"
    match row, hl with
    | [x], _ =>
      refine w_ixQ rfl rfl ?_
      exact hq _ (hx x (by simp)).1
theorem int_at {row : List Int} {k : Int} (h0 : 0 ≤ k) (h1 : k < row.length) : atI (row.map D.int) k = some (.int (row.getD k.toNat 0)) := by
  have hk : k.toNat < row.length := by omega
  exact atI_nat h0 (by simp [hk])
theorem getD_mem {row : List Int} {k : Nat} (h : k < row.length) : row.getD k 0 ∈ row := by
  rw [List.getD_eq_getElem?_getD, List.getElem?_eq_getElem h]
  exact List.getElem_mem h
theorem main_l_prices (ds : List D) (QD : D → Prop) (QX : Xn → Prop) (h : P_l_prices ds QD QX) : B_l_prices { nx := fun _ => QD .non, rt := fun d _ => QD d } (env0 ["_law_cell_here", "_law_count", "_law_choice", "_law_row", "_law_digit"] ds) := by
  obtain ⟨c, n, k, rfl, hc, hn, hn2, hq⟩ := h
  unfold B_l_prices
  walk_at "pw"
  refine ⟨_, _, _, rfl, hc, by omega, by omega, by decide, by decide, fun row hl hx => ?_⟩
  walk_at "pw"
  refine w_dec (fun g => ?_) fun g => ?_
  · walk_at "pw"
    refine w_rep (by omega) (by omega) (by simp; omega) ?_
    have e : (List.replicate n.toNat [D.int 1]).flatten = (List.replicate n.toNat (1 : Int)).map .int := by simp
    rw [e]
    exact hq _ (by simp) (fun x hx => by rw [List.eq_of_mem_replicate hx]; decide)
  · walk_at "pw"
    have hm : ∀ (f : Int → Int), (∀ x, 0 ≤ x → x < 1000000000 → 1 ≤ f x ∧ f x ≤ 1000000000) → QD (.lst (row.map fun x => .int (f x))) := fun f hf => by
      have e : (row.map fun x => D.int (f x)) = (row.map f).map .int := by simp
      rw [e]
      refine hq _ (by simp [hl]) fun y hy => ?_
      obtain ⟨x, h1, h2⟩ := List.mem_map.mp hy
      rw [← h2]
      exact hf x (hx x h1).1 (hx x h1).2
    refine w_dec (fun g2 => ?_) fun g2 => ?_
    · walk_at "pw"
      refine pMap_map _ row (by omega) (fun x hx acc K h1 h2 => ?_) (hm (fun x => 1 + x % 3) fun x h1 h2 => by omega)
      walk_at "pw"
      exact ⟨h1, h2⟩
    · walk_at "pw"
      refine w_dec (fun g3 => ?_) fun g3 => ?_
      · walk_at "pw"
        refine pMap_map _ row (by omega) (fun x hx acc K h1 h2 => ?_) (hm (fun x => 1 + x % 9) fun x h1 h2 => by omega)
        walk_at "pw"
        exact ⟨h1, h2⟩
      · walk_at "pw"
        refine pMap_map _ row (by omega) (fun x hx acc K h1 h2 => ?_) (hm (fun x => 1 + x) fun x h1 h2 => by omega)
        walk_at "pw"
        exact ⟨h1, h2⟩
theorem rg0 (n : Int) : rgI 0 n = (List.range n.toNat).map fun i => Int.ofNat i := by
  unfold rgI
  rw [Int.sub_zero]
  exact List.map_congr_left fun i _ => by simp
theorem rise_range (n : Nat) : ((List.range n).map fun i => Int.ofNat i).Pairwise (· < ·) := by
  rw [List.pairwise_map]
  exact List.pairwise_lt_range.imp fun h => by simpa using h
theorem main_l_gates (ds : List D) (QD : D → Prop) (QX : Xn → Prop) (h : P_l_gates ds QD QX) : B_l_gates { nx := fun _ => QD .non, rt := fun d _ => QD d } (env0 ["_law_cell_here", "_law_size", "_law_row", "_law_gates_here", "_law_place"] ds) := by
  obtain ⟨c, n, rfl, hc, hn, hn2, hq⟩ := h
  unfold B_l_gates
  walk_at "pw"
  refine ⟨_, _, _, rfl, hc, by omega, by omega, by decide, by decide, fun row hl hx => ?_⟩
  walk_at "pw"
  refine w_ixQ rfl (int_at (by decide) (by omega)) ?_
  walk_at "pw"
  refine w_dec (fun g => ?_) fun g => ?_
  · walk_at "pw"
    refine ⟨by decide, by decide, by omega, by omega, ?_⟩
    rw [rg0]
    refine hq _ (fun e => ?_) (rise_range _) fun x hx => ?_
    · have := congrArg List.length e
      simp at this
      omega
    · obtain ⟨i, h1, h2⟩ := List.mem_map.mp hx
      have := List.mem_range.mp h1
      rw [← h2]
      simp
      omega
  · walk_at "pw"
    refine ⟨by omega, by omega, ?_⟩
    refine pMap_filter (fun i => decide (row.getD (1 + i) 0 % 2 = 0)) (fun i : Nat => .int i) (List.range n.toNat) (by simp; omega) (fun i hi acc K h1 h2 h3 => ?_) ?_
    · have hi2 := List.mem_range.mp hi
      walk_at "pw"
      refine w_ixQ rfl (int_at (by omega) (by omega)) ?_
      have e : (1 + (0 + (i : Int))).toNat = 1 + i := by omega
      rw [e]
      walk_at "pw"
      refine ⟨fun g => ?_, fun g => ?_⟩
      · walk_at "pw"
        exact ⟨h1, by rw [Int.zero_add]; exact h2 g⟩
      · exact h3 g
    · walk_at "pw"
      refine w_dec (fun g2 => ?_) fun g2 => ?_
      · walk_at "pw"
        refine w_ixQ rfl (int_at (by decide) (by omega)) ?_
        walk_at "pw"
        refine hq [row.getD (Int.toNat 0) 0 % n] (by simp) (by simp) fun x hx => ?_
        rw [List.mem_singleton.mp hx]
        exact ⟨Int.emod_nonneg _ (by omega), Int.emod_lt_of_pos _ (by omega)⟩
      · walk_at "pw"
        refine w_retV rfl ?_
        have e : ∀ l : List Nat, (l.map fun i : Nat => D.int i) = (l.map fun i => Int.ofNat i).map .int := fun l => by simp
        rw [e] at g2 ⊢
        refine hq _ (fun e2 => ?_) ?_ fun x hx => ?_
        · rw [e2] at g2
          exact g2 rfl
        · rw [List.pairwise_map]
          exact (List.pairwise_lt_range.filter _).imp fun h => by simpa using h
        · obtain ⟨i, h1, h2⟩ := List.mem_map.mp hx
          have := List.mem_range.mp (List.mem_filter.mp h1).1
          rw [← h2]
          simp
          omega
theorem at_map {α : Type} {f : α → D} {l : List α} {k : Int} {x : α} (h0 : 0 ≤ k) (e : l[k.toNat]? = some x) : atI (l.map f) k = some (f x) := atI_nat h0 (by simp [e])
theorem main_l_drawn (ds : List D) (QD : D → Prop) (QX : Xn → Prop) (h : P_l_drawn ds QD QX) : B_l_drawn { nx := fun _ => QD .non, rt := fun d _ => QD d } (env0 ["_law_cell_here", "_law_gates_here", "_law_count", "_law_most", "_law_row", "_law_stays", "_law_k"] ds) := by
  obtain ⟨c, g, n, m, rfl, hc, hg, hn, hn2, hm, hm2, hq⟩ := h
  unfold B_l_drawn
  walk_at "pw"
  refine ⟨_, _, _, rfl, hc, by omega, by omega, by decide, by decide, fun row hl hx => ?_⟩
  walk_at "pw"
  refine ⟨by omega, by omega, ?_⟩
  have gl : 0 < g.length := List.length_pos_iff.mpr hg
  refine forL_map (fun done rest env => done ++ rest = List.range n.toNat ∧ ∃ (st : List (Int × Int)) (a : Option D), env = [some (.int c), some (lI g), some (.int n), some (.int m), some (lI row), some (lP st), a] ∧ st.length = done.length ∧ ∀ s ∈ st, s.1 ∈ g ∧ 1 ≤ s.2 ∧ s.2 ≤ m) [] _ ⟨rfl, [], none, rfl, rfl, by simp⟩ ?_ ?_
  · rintro done x rest env K ⟨hr, st, a, rfl, hsl, hs⟩ hK
    have hd : done.length = x ∧ x < n.toNat := by
      have e : (List.range n.toNat)[done.length]? = some x := by rw [← hr]; simp
      obtain ⟨h1, h2⟩ := List.getElem?_eq_some_iff.mp e
      rw [List.length_range] at h1
      rw [List.getElem_range] at h2
      omega
    have fin : ∀ (s : Int × Int) (z : G.Env), s.1 ∈ g → 1 ≤ s.2 → s.2 ≤ m → (∃ (a : Option D), z = [some (.int c), some (lI g), some (.int n), some (.int m), some (lI row), some (.lst (st.map prD ++ [prD s])), a]) → K z := fun s z h1 h2 h3 ⟨a, e⟩ => hK z ⟨by rw [List.append_assoc]; exact hr, st ++ [s], a, by rw [e]; simp, by simp [hsl], fun w hw => by
      rcases List.mem_append.mp hw with q | q
      · exact hs w q
      · rw [List.mem_singleton.mp q]; exact ⟨h1, h2, h3⟩⟩
    have mod0 : ∀ (y : Int) (l : Nat), 0 < l → 0 ≤ y % (l : Int) ∧ (y % (l : Int)).toNat < l := fun y l h => by
      have h1 := Int.emod_nonneg y (b := (l : Int)) (by omega)
      have h2 := Int.emod_lt_of_pos y (b := (l : Int)) (by omega)
      omega
    walk_at "pw"
    refine w_dec (fun g1 => ?_) fun g1 => ?_
    · walk_at "pw"
      refine w_ixQ rfl (int_at (by omega) (by omega)) ?_
      walk_at "pw"
      refine w_dec (fun g2 => ?_) fun g2 => ?_
      · walk_at "pw"
        refine w_app rfl ?_
        walk_at "pw"
        refine w_ixQ rfl (int_at (by omega) (by omega)) ?_
        walk_at "pw"
        have hx0 : (0 : Int) + (x : Int) = (st.length : Nat) := by omega
        obtain ⟨k1, k2⟩ := mod0 (row.getD (3 * (0 + (x : Int)) + 1).toNat 0) st.length (by omega)
        rw [hx0] at *
        refine w_ixQ rfl (at_map k1 (List.getElem?_eq_getElem k2)) ?_
        have hmem := hs _ (List.getElem_mem k2)
        refine ⟨by simp; omega, ?_⟩
        exact fin _ _ hmem.1 hmem.2.1 hmem.2.2 ⟨_, rfl⟩
      · walk_at "pw"
        refine w_app rfl ?_
        walk_at "pw"
        refine w_ixQ rfl (int_at (by omega) (by omega)) ?_
        walk_at "pw"
        obtain ⟨k1, k2⟩ := mod0 (row.getD (3 * (0 + (x : Int)) + 1).toNat 0) g.length gl
        rw [List.length_map]
        refine w_qI (by omega) ?_
        refine w_ixQ (o := lI g) rfl (at_map k1 (List.getElem?_eq_getElem k2)) ?_
        walk_at "pw"
        refine w_ixQ rfl (int_at (by omega) (by omega)) ?_
        walk_at "pw"
        refine ⟨by simp; omega, ?_⟩
        exact fin (_, _) _ (List.getElem_mem _) (by have := Int.emod_nonneg (row.getD (3 * (0 + (x : Int)) + 2).toNat 0) (b := m) (by omega); dsimp only; omega) (by have := Int.emod_lt_of_pos (row.getD (3 * (0 + (x : Int)) + 2).toNat 0) (b := m) (by omega); dsimp only; omega) ⟨_, rfl⟩
    · walk_at "pw"
      refine w_app rfl ?_
      walk_at "pw"
      refine w_ixQ rfl (int_at (by omega) (by omega)) ?_
      walk_at "pw"
      obtain ⟨k1, k2⟩ := mod0 (row.getD (3 * (0 + (x : Int)) + 1).toNat 0) g.length gl
      rw [List.length_map]
      refine w_qI (by omega) ?_
      refine w_ixQ (o := lI g) rfl (at_map k1 (List.getElem?_eq_getElem k2)) ?_
      walk_at "pw"
      refine w_ixQ rfl (int_at (by omega) (by omega)) ?_
      walk_at "pw"
      refine ⟨by simp; omega, ?_⟩
      exact fin (_, _) _ (List.getElem_mem _) (by have := Int.emod_nonneg (row.getD (3 * (0 + (x : Int)) + 2).toNat 0) (b := m) (by omega); dsimp only; omega) (by have := Int.emod_lt_of_pos (row.getD (3 * (0 + (x : Int)) + 2).toNat 0) (b := m) (by omega); dsimp only; omega) ⟨_, rfl⟩
  · rintro done env ⟨hr, st, a, rfl, hsl, hs⟩
    refine w_retV rfl ?_
    refine hq st ?_ hs
    rw [List.append_nil] at hr
    rw [hsl, hr, List.length_range]
theorem sums_snoc : ∀ (s : Int) (a : List Int) (x : Int), sumsL s (a ++ [x]) = sumsL s a ++ [s + a.sum + x]
  | s, [], x => by simp [sumsL]
  | s, y :: a, x => by
    have ih := sums_snoc (s + y) a x
    simp only [List.cons_append, sumsL, ih, List.sum_cons]
    rw [show s + y + a.sum + x = s + (y + a.sum) + x by omega]
theorem sums_len : ∀ (s : Int) (a : List Int), (sumsL s a).length = a.length + 1
  | s, [] => rfl
  | s, y :: a => by simp [sumsL, sums_len (s + y) a]
theorem sums_last : ∀ (s : Int) (a : List Int), (sumsL s a)[a.length]? = some (s + a.sum)
  | s, [] => by simp [sumsL]
  | s, y :: a => by
    have ih := sums_last (s + y) a
    simp only [sumsL, List.length_cons, List.getElem?_cons_succ, List.sum_cons]
    rw [ih]
    congr 1
    omega
theorem main_sums_of (ds : List D) (QD : D → Prop) (QX : Xn → Prop) (h : P_sums_of ds QD QX) : B_sums_of { nx := fun _ => QD .non, rt := fun d _ => QD d } (env0 ["prices", "sums", "price"] ds) := by
  obtain ⟨ps, rfl, hl, hq⟩ := h
  unfold B_sums_of
  walk_at "pw"
  refine forL_map (fun done rest env => done ++ rest = ps ∧ ∃ a : Option D, env = [some (lI ps), some (lI (sumsL 0 done)), a]) [] ps ⟨rfl, none, rfl⟩ ?_ ?_
  · rintro done x rest env K ⟨hr, a, rfl⟩ hK
    walk_at "pw"
    refine w_app rfl ?_
    have e : atI ((sumsL 0 done).map D.int) (-1) = some (.int (0 + done.sum)) := by
      rw [atI_map]
      have h1 := sums_last 0 done
      have h2 := sums_len 0 done
      unfold atI
      rw [ixN_last (by omega), h2]
      show ((sumsL 0 done)[done.length]?).map D.int = _
      rw [h1]
      rfl
    walk_at "pw"
    have hd : done.length < 1000 := by
      have := congrArg List.length hr
      simp at this
      omega
    refine ⟨by simp [sums_len]; omega, hK _ ⟨by rw [List.append_assoc]; exact hr, some (.int x), ?_⟩⟩
    rw [sums_snoc]
    simp
  · rintro done env ⟨hr, a, rfl⟩
    rw [List.append_nil] at hr
    subst hr
    walk_at "pw"
    exact ⟨leafs_tI _, hq⟩
theorem main_Ring_whole (c_Ring : Addr) (ds : List D) (QD : D → Prop) (QX : Xn → Prop) (h : P_Ring_whole c_Ring ds QD QX) : B_Ring_whole c_Ring { nx := fun _ => QD .non, rt := fun d _ => QD d } (env0 ["self"] ds) := by
  obtain ⟨r, rfl, ok, hq⟩ := h
  unfold B_Ring_whole
  walk_at "pw"
  refine w_ixQ (o := tI (sumsL 0 r.prices)) rfl (at_map (l := sumsL 0 r.prices) (x := 0 + r.prices.sum) (Int.natCast_nonneg _) ?_) ?_
  · rw [show (r.n).toNat = r.prices.length from Int.toNat_natCast _]
    exact sums_last 0 r.prices
  · rw [Int.zero_add]
    exact hq
theorem main_check_ring (ds : List D) (QD : D → Prop) (QX : Xn → Prop) (h : P_check_ring ds QD QX) : B_check_ring { nx := fun _ => QD .non, rt := fun d _ => QD d } (env0 ["prices", "doors", "nodes", "before", "door"] ds) := by
  obtain ⟨r, no, rfl, ok, hd, hn, hq⟩ := h
  unfold B_check_ring
  have dl : 0 < r.doors.length := List.length_pos_iff.mpr hd
  have pl := ok.pos
  walk_at "pw"
  refine w_dec (fun g => by rw [List.length_map] at g; omega) fun g => ?_
  walk_at "pw"
  refine ⟨_, rfl, r.prices, ints_map _, pl, fun m hm _ => ?_⟩
  walk_at "pw"
  refine w_dec (fun g => by have := (ok.low m hm).1; omega) fun g => ?_
  walk_at "pw"
  refine w_dec (fun g => by rw [List.length_map] at g; omega) fun g => ?_
  walk_at "pw"
  refine forL_map (fun done rest env => done ++ rest = r.doors ∧ ∃ (b : Int) (a : Option D), env = [some (lI r.prices), some (lI r.doors), some (nodD no), some (.int b), a] ∧ (b = -1 ∨ b ∈ done)) [] r.doors ⟨rfl, -1, none, rfl, .inl rfl⟩ ?_ ?_
  · rintro done x rest env K ⟨hr, b, a, rfl, hb⟩ hK
    have hx : x ∈ r.doors := by rw [← hr]; simp
    have hi := ok.inn x hx
    have hlt : b < x := by
      rcases hb with rfl | hb
      · omega
      · have := ok.rise
        rw [← hr] at this
        exact (List.pairwise_append.mp this).2.2 b hb x List.mem_cons_self
    walk_at "pw"
    refine w_decT hlt ?_
    walk_at "pw"
    refine w_decT (by rw [List.length_map]; exact hi.2) ?_
    walk_at "pw"
    exact hK _ ⟨by rw [List.append_assoc]; exact hr, x, _, rfl, .inr (by simp)⟩
  · rintro done env ⟨hr, b, a, rfl, hb⟩
    cases no with
    | none =>
      walk_at "pw"
      exact hq
    | some l =>
      walk_at "pw"
      refine w_decT (by rw [List.length_map, List.length_map, hn l rfl]) ?_
      walk_at "pw"
      exact hq
theorem main_Ring_init (c_Ring : Addr) (ds : List D) (QD : D → Prop) (QX : Xn → Prop) (h : P_Ring_init c_Ring ds QD QX) : B_Ring_init c_Ring { nx := fun env => ∃ o, env[0]? = some (some o) ∧ QD o, rt := fun _ _ => False } (some (.obj c_Ring [] []) :: (ds.map some ++ List.replicate (3 - ds.length) none)) := by
  obtain ⟨r, no, rfl, ok, hd, hn, hq⟩ := h
  unfold B_Ring_init
  have few := ok.few
  walk_at "pw"
  refine ⟨r, no, rfl, ok, hd, hn, ?_⟩
  walk_at "pw"
  refine ⟨[], rfl, ?_⟩
  walk_at "pw"
  refine ⟨_, rfl, ?_⟩
  walk_at "pw"
  refine ⟨_, rfl, ?_⟩
  walk_at "pw"
  cases no with
  | none =>
    walk_at "pw"
    refine ⟨by decide, by decide, by omega, by rw [List.length_map]; omega, ?_⟩
    refine ⟨_, rfl, ?_⟩
    walk_at "pw"
    refine ⟨r.prices, rfl, by omega, ?_⟩
    refine ⟨_, rfl, ?_⟩
    refine ⟨_, rfl, ?_⟩
    have := hq (rgI 0 ((r.prices.map D.int).length))
    simpa [ringD, ns_Ring] using this
  | some l =>
    walk_at "pw"
    refine ⟨_, rfl, ?_⟩
    walk_at "pw"
    refine ⟨r.prices, rfl, by omega, ?_⟩
    refine ⟨_, rfl, ?_⟩
    refine ⟨_, rfl, ?_⟩
    have := hq l
    simpa [ringD, ns_Ring] using this
theorem main_l_ring (c_Ring : Addr) (ds : List D) (QD : D → Prop) (QX : Xn → Prop) (h : P_l_ring c_Ring ds QD QX) : B_l_ring c_Ring { nx := fun _ => QD .non, rt := fun d _ => QD d } (env0 ["_law_prices_here", "_law_gates_here", "_law_digit", "_law_place"] ds) := by
  obtain ⟨r, k, rfl, ok, hd, hq⟩ := h
  unfold B_l_ring
  have few := ok.few
  walk_at "pw"
  refine w_dec (fun g => ?_) fun g => ?_
  · walk_at "pw"
    refine w_list rfl ?_
    walk_at "pw"
    refine w_list rfl ?_
    walk_at "pw"
    refine ⟨r, none, rfl, ok, hd, (fun l e => by cases e), fun no' => ?_⟩
    exact hq no'
  · walk_at "pw"
    refine w_list rfl ?_
    walk_at "pw"
    refine w_list rfl ?_
    walk_at "pw"
    rw [List.length_map]
    refine ⟨by omega, by omega, ?_⟩
    refine pMap_map (fun i : Nat => .int (3 * (0 + (i : Int)) + 2)) _ (by simp; omega) (fun i hi acc K h1 h2 => ?_) ?_
    · walk_at "pw"
      exact ⟨h1, h2⟩
    · walk_at "pw"
      refine ⟨rfl, rfl, r, some (((List.range (r.prices.length : Int).toNat).map fun i : Nat => 3 * (0 + (i : Int)) + 2).reverse), ?_, ok, hd, fun l e => ?_, fun no' => ?_⟩
      · simp
      · cases e
        simp
      · exact hq no'
theorem emod_at {r : RingS} (ok : r.ok) (x : Int) : 0 ≤ x % r.n ∧ x % r.n < r.n := ⟨Int.emod_nonneg _ (by have := ok.pos; unfold RingS.n; omega), Int.emod_lt_of_pos _ (by have := ok.pos; unfold RingS.n; omega)⟩
theorem main_laid (c_Ring : Addr) (ds : List D) (QD : D → Prop) (QX : Xn → Prop) (h : P_laid c_Ring ds QD QX) : B_laid c_Ring { nx := fun _ => QD .non, rt := fun d _ => QD d } (env0 ["ring", "stays", "start", "spans", "door", "length", "first"] ds) := by
  obtain ⟨r, st, s, rfl, ok, hs, hq⟩ := h
  unfold B_laid
  walk_at "pw"
  refine forL_map (fun done rest env => done ++ rest = st ∧ ∃ a b c : Option D, env = [some (ringD c_Ring r), some (lP st), some (.int s), some (lP (done.map fun x => (s + (x.1 - s) % r.n, s + (x.1 - s) % r.n + x.2))), a, b, c]) [] st ⟨rfl, none, none, none, rfl⟩ ?_ ?_
  · rintro done x rest env K ⟨hr, a, b, c, rfl⟩ hK
    have hl : done.length < 10 := by
      have h1 := congrArg List.length hr
      have h2 := hs.few
      simp at h1
      omega
    have pos : 0 < r.n := by have := ok.pos; unfold RingS.n; omega
    walk_at "pw"
    refine w_app rfl ?_
    walk_at "pw"
    refine ⟨by simp; omega, ?_⟩
    exact hK _ ⟨by rw [List.append_assoc]; exact hr, _, _, _, by simp [List.set]; exact ⟨rfl, rfl, rfl⟩⟩
  · rintro done env ⟨hr, a, b, c, rfl⟩
    rw [List.append_nil] at hr
    subst hr
    walk_at "pw"
    refine w_sortP fun m h1 h2 => ?_
    have e : (done.map fun x => (s + (x.1 - s) % r.n, s + (x.1 - s) % r.n + x.2)) = (offs r.n s done).map fun q => (s + q.1, s + q.1 + q.2) := by
      unfold offs
      rw [List.map_map]
      rfl
    rw [e] at h1
    rw [sorted_shift h1 h2]
    exact hq
theorem glue_len : ∀ (l acc : List (Int × Int)), (l.foldl glue acc).length ≤ acc.length + l.length
  | [], acc => by simp
  | p :: l, acc => by
    have h := glue_len l (glue acc p)
    have h2 : (glue acc p).length ≤ acc.length + 1 := by
      cases acc with
      | nil => simp [glue]
      | cons q r =>
        unfold glue
        dsimp only
        split <;> simp
    rw [List.foldl_cons, List.length_cons]
    omega
theorem main_pieces (c_Ring : Addr) (ds : List D) (QD : D → Prop) (QX : Xn → Prop) (h : P_pieces c_Ring ds QD QX) : B_pieces c_Ring { nx := fun _ => QD .non, rt := fun d _ => QD d } (env0 ["ring", "stays", "start", "found", "first", "behind"] ds) := by
  obtain ⟨r, st, s, rfl, ok, hs, hq⟩ := h
  unfold B_pieces
  walk_at "pw"
  refine ⟨r, st, s, rfl, ok, hs, ?_⟩
  walk_at "pw"
  have fewL : ((isort (offs r.n s st)).map fun q => (s + q.1, s + q.1 + q.2)).length ≤ 10 := by
    rw [List.length_map, (isort_perm _).length_eq]
    unfold offs
    rw [List.length_map]
    exact hs.few
  revert hq fewL
  generalize ((isort (offs r.n s st)).map fun q => (s + q.1, s + q.1 + q.2)) = L
  intro hq fewL
  refine forL_map (fun done rest env => done ++ rest = L ∧ ∃ a b : Option D, env = [some (ringD c_Ring r), some (lP st), some (.int s), some (lP (done.foldl glue []).reverse), a, b]) [] L ⟨rfl, none, none, rfl⟩ ?_ ?_
  · rintro done x rest env K ⟨hr, a, b, rfl⟩ hK
    have hl : (done.foldl glue []).length < 11 := by
      have h1 := congrArg List.length hr
      have h2 := glue_len done []
      simp at h1 h2
      omega
    have next : ∀ z : G.Env, (∃ a b : Option D, z = [some (ringD c_Ring r), some (lP st), some (.int s), some (lP (glue (done.foldl glue []) x).reverse), a, b]) → K z := fun z ⟨a, b, e⟩ => hK z ⟨by rw [List.append_assoc]; exact hr, a, b, by rw [e, List.foldl_append]; rfl⟩
    revert hl next
    generalize done.foldl glue [] = acc
    intro hl next
    walk_at "pw"
    cases acc with
    | nil =>
      refine w_exT (b := false) rfl ?_
      walk_at "pw"
      refine w_app rfl ?_
      walk_at "pw"
      exact ⟨by decide, next _ ⟨_, _, rfl⟩⟩
    | cons q t =>
      have eL : lP (q :: t).reverse = .lst (t.reverse.map prD ++ [prD q]) := by simp
      have at1 : atI (t.reverse.map prD ++ [prD q]) (-1) = some (prD q) := atI_last
      rw [eL]
      refine w_exT (b := true) (by simp [truD]) ?_
      walk_at "pw"
      refine w_dec (fun g => ?_) fun g => ?_
      · walk_at "pw"
        refine ⟨_, rfl, ?_⟩
        walk_at "pw"
        refine ⟨-1, t.length, rfl, by rw [ixN_last (by simp)]; simp, next _ ⟨some (.int x.1), some (.int x.2), ?_⟩⟩
        have e : glue (q :: t) x = (q.1, max x.2 q.2) :: t := by simp [glue, g]
        rw [e]
        simp [List.set]
      · walk_at "pw"
        refine w_app rfl ?_
        walk_at "pw"
        refine ⟨by simp at hl ⊢; omega, next _ ⟨some (.int x.1), some (.int x.2), ?_⟩⟩
        have e : glue (q :: t) x = x :: q :: t := by simp [glue, g]
        rw [e]
        simp [List.set]
  · rintro done env ⟨hr, a, b, rfl⟩
    rw [List.append_nil] at hr
    subst hr
    refine w_retV rfl ?_
    exact hq
theorem sumF_snoc (f : Int → Int) (a : Int) (n : Nat) : sumF f a (n + 1) = sumF f a n + f (a + n) := by
  rw [sumF_add]
  simp [sumF]
theorem price_per (p : List Int) (y : Int) : price p (y + p.length) = price p y := by
  unfold price
  rw [Int.add_emod_right]
theorem round_next (p : List Int) (a : Int) : sumF (price p) (a + 1) p.length = sumF (price p) a p.length := by
  have h1 := sumF_snoc (price p) a p.length
  have h2 : sumF (price p) a (p.length + 1) = price p a + sumF (price p) (a + 1) p.length := rfl
  rw [price_per] at h1
  omega
theorem sumF_list (p : List Int) : ∀ (m k : Nat), k + m ≤ p.length → sumF (fun y => p.getD y.toNat 0) k m = ((p.drop k).take m).sum
  | 0, k, _ => by simp [sumF]
  | m + 1, k, h => by
    have ih := sumF_list p m (k + 1) (by omega)
    simp only [sumF]
    rw [show ((k : Int) + 1) = ((k + 1 : Nat) : Int) by omega, ih, List.drop_eq_getElem_cons (show k < p.length by omega), List.take_succ_cons, List.sum_cons]
    congr 1
    simp [show k < p.length by omega]
theorem sumF_congr {f g : Int → Int} : ∀ (a : Int) (n : Nat), (∀ i : Nat, i < n → f (a + i) = g (a + i)) → sumF f a n = sumF g a n
  | a, 0, _ => rfl
  | a, n + 1, h => by
    have e := sumF_congr (f := f) (g := g) (a + 1) n fun i hi => by
      have := h (i + 1) (by omega)
      rw [show a + 1 + (i : Int) = a + ((i + 1 : Nat) : Int) by omega]
      exact this
    have h0 := h 0 (by omega)
    simp at h0
    simp only [sumF]
    rw [e, h0]
theorem round0 (p : List Int) : sumF (price p) 0 p.length = p.sum := by
  rw [sumF_congr (g := fun y => p.getD y.toNat 0) 0 p.length fun i hi => by
    unfold price
    rw [Int.zero_add, Int.emod_eq_of_lt (by omega) (by omega)]]
  have := sumF_list p p.length 0 (by omega)
  simpa using this
theorem round_any (p : List Int) : ∀ a : Nat, sumF (price p) a p.length = p.sum
  | 0 => round0 p
  | a + 1 => by
    rw [show ((a + 1 : Nat) : Int) = (a : Int) + 1 by omega, round_next]
    exact round_any p a
theorem rounds (p : List Int) (a : Nat) : ∀ k : Nat, sumF (price p) a (k * p.length) = k * p.sum
  | 0 => by simp [sumF]
  | k + 1 => by
    rw [Nat.succ_mul, sumF_add, rounds p a k]
    have := round_any p (a + k * p.length)
    rw [show ((a : Int) + ((k * p.length : Nat) : Int)) = ((a + k * p.length : Nat) : Int) by omega, this, Int.natCast_succ, Int.add_mul, Int.one_mul]
theorem piece_law (p : List Int) (a k : Nat) (b : Int) (h : (a : Int) + k * p.length ≤ b) : sumR (price p) a b = k * p.sum + sumR (price p) (a + k * p.length) b := by
  have h0 : (0 : Int) ≤ (k : Int) * p.length := Int.mul_nonneg (Int.natCast_nonneg _) (Int.natCast_nonneg _)
  rw [sumR_cut (price p) (b := (a : Int) + k * p.length) (by omega) h]
  congr 1
  unfold sumR
  rw [show ((a : Int) + k * p.length - a).toNat = k * p.length by
    rw [show ((a : Int) + k * p.length - a) = ((k * p.length : Nat) : Int) by rw [Int.natCast_mul]; omega]
    exact Int.toNat_natCast _]
  exact rounds p a k
theorem price_at {r : RingS} (ok : r.ok) (y : Int) : atI (r.prices.map D.int) (y % r.n) = some (.int (price r.prices y)) := by
  obtain ⟨h1, h2⟩ := emod_at ok y
  have := int_at (row := r.prices) h1 h2
  exact this
theorem main_piece_price (c_Ring : Addr) (ds : List D) (QD : D → Prop) (QX : Xn → Prop) (h : P_piece_price c_Ring ds QD QX) : B_piece_price c_Ring { nx := fun _ => QD .non, rt := fun d _ => QD d } (env0 ["ring", "first", "behind", "rounds", "total", "number"] ds) := by
  obtain ⟨r, a, b, rfl, ok, ha, hab, hb, hq⟩ := h
  unfold B_piece_price
  have few := ok.few
  have pos := ok.pos
  have n1 : 1 ≤ r.n := by unfold RingS.n; omega
  have n2 : r.n ≤ 40 := by unfold RingS.n; omega
  have k1 : 0 ≤ (b - a) / r.n := Int.ediv_nonneg (by omega) (by omega)
  have k2 : (b - a) / r.n ≤ b - a := Int.ediv_le_self _ (by omega)
  have k3 : (b - a) / r.n * r.n ≤ b - a := Int.ediv_mul_le _ (by omega)
  have k4 : 0 ≤ (b - a) / r.n * r.n := Int.mul_nonneg k1 (by omega)
  walk_at "pw"
  refine ⟨r, rfl, ok, ?_⟩
  walk_at "pw"
  revert k3 k4 k2 k1
  generalize (b - a) / r.n = k
  intro k1 k2 k3 k4
  walk_at "pw"
  refine ⟨by omega, by omega, by omega, by omega, ?_⟩
  have fin : sumR (price r.prices) a b = k * r.prices.sum + sumR (price r.prices) (a + k * r.n) b := by
    have e := piece_law r.prices a.toNat k.toNat b (by rw [Int.toNat_of_nonneg ha, Int.toNat_of_nonneg k1]; show a + k * r.n ≤ b; omega)
    rw [Int.toNat_of_nonneg ha, Int.toNat_of_nonneg k1] at e
    exact e
  rw [fin] at hq
  unfold sumR at hq
  revert hq k3 k4 fin
  generalize a + k * r.n = c
  intro j1 j2 j3 j4
  refine forL_map (fun done rest env => done ++ rest = List.range (b - c).toNat ∧ ∃ x : Option D, env = [some (ringD c_Ring r), some (.int a), some (.int b), some (.int k), some (.int (k * r.prices.sum + sumF (price r.prices) c done.length)), x]) [] _ ⟨rfl, none, by simp [sumF, env0]⟩ ?_ ?_
  · rintro done x rest env K ⟨hr, z, rfl⟩ hK
    have hd : done.length = x := by
      have e : (List.range (b - c).toNat)[done.length]? = some x := by rw [← hr]; simp
      obtain ⟨h1, h2⟩ := List.getElem?_eq_some_iff.mp e
      rw [List.getElem_range] at h2
      exact h2
    walk_at "pw"
    refine w_ixQ (o := tI r.prices) rfl (price_at ok _) ?_
    walk_at "pw"
    refine hK _ ⟨by rw [List.append_assoc]; exact hr, some (.int (c + x)), ?_⟩
    rw [List.length_append, List.length_singleton, sumF_snoc, hd]
    simp [List.set, Int.add_assoc]
  · rintro done env ⟨hr, z, rfl⟩
    rw [List.append_nil] at hr
    walk_at "pw"
    rw [hr, List.length_range]
    assumption
theorem offs_ok {r : RingS} (ok : r.ok) {st : List (Int × Int)} (hs : StOkS r st) (s : Int) : ∀ q ∈ isort (offs r.n s st), 0 ≤ q.1 ∧ q.1 < r.n ∧ 1 ≤ q.2 ∧ q.2 ≤ 4000 := fun q hq => by
  have h1 := (isort_perm _).mem_iff.mp hq
  unfold offs at h1
  obtain ⟨x, hx, rfl⟩ := List.mem_map.mp h1
  obtain ⟨_, b1, b2⟩ := hs.inn x hx
  obtain ⟨e1, e2⟩ := emod_at ok (x.1 - s)
  exact ⟨e1, e2, b1, b2⟩
theorem glue_ok (lo hi : Int) : ∀ (l acc : List (Int × Int)), (∀ q ∈ l, lo ≤ q.1 ∧ q.1 ≤ q.2 ∧ q.2 ≤ hi) → (∀ q ∈ acc, lo ≤ q.1 ∧ q.1 ≤ q.2 ∧ q.2 ≤ hi) → ∀ q ∈ l.foldl glue acc, lo ≤ q.1 ∧ q.1 ≤ q.2 ∧ q.2 ≤ hi
  | [], acc, _, h => h
  | p :: l, acc, h1, h2 => by
    rw [List.foldl_cons]
    refine glue_ok lo hi l _ (fun q hq => h1 q (List.mem_cons_of_mem _ hq)) ?_
    have hp := h1 p List.mem_cons_self
    cases acc with
    | nil =>
      intro q hq
      rw [show q = p by simpa [glue] using hq]
      exact hp
    | cons x t =>
      have hx := h2 x List.mem_cons_self
      intro q hq
      unfold glue at hq
      dsimp only at hq
      split at hq
      · rcases List.mem_cons.mp hq with e | e
        · rw [e]
          dsimp only
          omega
        · exact h2 q (List.mem_cons_of_mem _ e)
      · rcases List.mem_cons.mp hq with e | e
        · rw [e]; exact hp
        · exact h2 q e
/-! ### the numbers of the pieces -/
def flatN (L : List (Int × Int)) : List Int := L.flatMap fun q => rgI q.1 q.2
theorem rgI_mem {a b y : Int} : y ∈ rgI a b ↔ a ≤ y ∧ y < b := by
  unfold rgI
  rw [List.mem_map]
  constructor
  · rintro ⟨k, h1, h2⟩
    have := List.mem_range.mp h1
    omega
  · rintro ⟨h1, h2⟩
    exact ⟨(y - a).toNat, List.mem_range.mpr (by omega), by omega⟩
theorem rgI_rise (a b : Int) : (rgI a b).Pairwise (· < ·) := by
  unfold rgI
  rw [List.pairwise_map]
  exact List.pairwise_lt_range.imp fun h => by omega
theorem rgI_len (a b : Int) : (rgI a b).length = (b - a).toNat := by unfold rgI; simp
theorem sumF_rg (f : Int → Int) : ∀ (n : Nat) (a : Int), sumF f a n = ((List.range n).map fun k : Nat => f (a + k)).sum
  | 0, a => rfl
  | n + 1, a => by
    rw [sumF_snoc, sumF_rg f n a, List.range_succ, List.map_append, List.sum_append]
    simp
theorem sumR_rg (f : Int → Int) (a b : Int) : sumR f a b = ((rgI a b).map f).sum := by
  unfold sumR rgI
  rw [sumF_rg, List.map_map]
  rfl
theorem held_flat (f : Int → Int) : ∀ L : List (Int × Int), held f L = ((flatN L).map f).sum
  | [] => rfl
  | q :: L => by
    have ih := held_flat f L
    unfold held flatN at *
    rw [List.map_cons, List.sum_cons, ih, List.flatMap_cons, List.map_append, List.sum_append, sumR_rg]
structure Apart (acc : List (Int × Int)) : Prop where
  desc : acc.Pairwise fun a b => b.2 < a.1
  some : ∀ q ∈ acc, q.1 < q.2
theorem glue_one {acc : List (Int × Int)} {p : Int × Int} (h : Apart acc) (hp : p.1 < p.2) (hh : ∀ q ∈ acc.head?, q.1 ≤ p.1) :
    Apart (glue acc p) ∧ (∀ q ∈ (glue acc p).head?, q.1 ≤ p.1) ∧ ∀ y : Int, (∃ q ∈ glue acc p, q.1 ≤ y ∧ y < q.2) ↔ (∃ q ∈ acc, q.1 ≤ y ∧ y < q.2) ∨ (p.1 ≤ y ∧ y < p.2) := by
  cases acc with
  | nil =>
    refine ⟨⟨by simp [glue], by simpa [glue] using hp⟩, by simp [glue], fun y => by simp [glue]⟩
  | cons q r =>
    obtain ⟨d1, d2⟩ := h
    obtain ⟨d3, d4⟩ := List.pairwise_cons.mp d1
    have hq := hh q rfl
    have q2 := d2 q List.mem_cons_self
    unfold glue
    dsimp only
    split
    · rename_i g
      refine ⟨⟨List.pairwise_cons.mpr ⟨fun z hz => d3 z hz, d4⟩, fun z hz => ?_⟩, fun z hz => ?_, fun y => ?_⟩
      · rcases List.mem_cons.mp hz with e | e
        · rw [e]; dsimp only; omega
        · exact d2 z (List.mem_cons_of_mem _ e)
      · cases hz
        exact hq
      · simp only [List.mem_cons, exists_eq_or_imp]
        constructor
        · rintro (⟨h1, h2⟩ | h1)
          · by_cases c : y < q.2
            · exact .inl (.inl ⟨h1, c⟩)
            · refine .inr ⟨by omega, by omega⟩
          · exact .inl (.inr h1)
        · rintro ((⟨h1, h2⟩ | h1) | ⟨h1, h2⟩)
          · exact .inl ⟨h1, by omega⟩
          · exact .inr h1
          · exact .inl ⟨by omega, by omega⟩
    · rename_i g
      refine ⟨⟨List.pairwise_cons.mpr ⟨fun z hz => ?_, d1⟩, fun z hz => ?_⟩, fun z hz => ?_, fun y => ?_⟩
      · rcases List.mem_cons.mp hz with e | e
        · rw [e]; omega
        · have := d3 z e
          omega
      · rcases List.mem_cons.mp hz with e | e
        · rw [e]; exact hp
        · exact d2 z e
      · cases hz
        exact Int.le_refl _
      · simp only [List.mem_cons, exists_eq_or_imp]
        constructor
        · rintro (h1 | h1 | h1)
          · exact .inr h1
          · exact .inl (.inl h1)
          · exact .inl (.inr h1)
        · rintro ((h1 | h1) | h1)
          · exact .inr (.inl h1)
          · exact .inr (.inr h1)
          · exact .inl h1
theorem glue_all : ∀ (l acc : List (Int × Int)), (∀ p ∈ l, p.1 < p.2) → l.Pairwise (fun a b => a.1 ≤ b.1) → Apart acc → (∀ q ∈ acc.head?, ∀ p ∈ l, q.1 ≤ p.1) →
    Apart (l.foldl glue acc) ∧ ∀ y : Int, (∃ q ∈ l.foldl glue acc, q.1 ≤ y ∧ y < q.2) ↔ (∃ q ∈ acc, q.1 ≤ y ∧ y < q.2) ∨ ∃ p ∈ l, p.1 ≤ y ∧ y < p.2
  | [], acc, _, _, h, _ => ⟨h, fun y => by simp⟩
  | p :: l, acc, h1, h2, h, h3 => by
    obtain ⟨e1, e2⟩ := List.pairwise_cons.mp h2
    obtain ⟨k1, k2, k3⟩ := glue_one h (h1 p List.mem_cons_self) (fun q hq => h3 q hq p List.mem_cons_self)
    obtain ⟨k4, k5⟩ := glue_all l (glue acc p) (fun q hq => h1 q (List.mem_cons_of_mem _ hq)) e2 k1 (fun q hq z hz => Int.le_trans (k2 q hq) (e1 z hz))
    refine ⟨k4, fun y => ?_⟩
    rw [List.foldl_cons, k5, k3]
    simp only [List.mem_cons, exists_eq_or_imp]
    exact or_assoc
theorem flat_rise {L : List (Int × Int)} (h : Apart L) : (flatN L.reverse).Pairwise (· < ·) := by
  unfold flatN
  rw [List.pairwise_flatMap]
  refine ⟨fun q _ => rgI_rise _ _, ?_⟩
  rw [List.pairwise_reverse]
  exact h.desc.imp fun {a b} hab x hx y hy => by
    have h1 := rgI_mem.mp hx
    have h2 := rgI_mem.mp hy
    omega
theorem flat_mem {L : List (Int × Int)} {y : Int} : y ∈ flatN L ↔ ∃ q ∈ L, q.1 ≤ y ∧ y < q.2 := by
  unfold flatN
  rw [List.mem_flatMap]
  exact ⟨fun ⟨q, h1, h2⟩ => ⟨q, h1, rgI_mem.mp h2⟩, fun ⟨q, h1, h2⟩ => ⟨q, h1, rgI_mem.mpr h2⟩⟩
theorem lt_uniq : ∀ {a b : List Int}, a.Pairwise (· < ·) → b.Pairwise (· < ·) → (∀ k, k ∈ a ↔ k ∈ b) → a = b := fun h1 h2 h3 => sortedLe_eq h1 h2 h3
theorem most_acc : ∀ (st : List (Int × Int)) (a : Int), a ≤ st.foldl (fun a x => max a x.2) a ∧ ∀ x ∈ st, x.2 ≤ st.foldl (fun a x => max a x.2) a
  | [], a => ⟨Int.le_refl _, fun _ z => by cases z⟩
  | y :: st, a => by
    obtain ⟨h1, h2⟩ := most_acc st (max a y.2)
    rw [List.foldl_cons]
    refine ⟨by omega, fun x hx => ?_⟩
    rcases List.mem_cons.mp hx with e | e
    · rw [e]; omega
    · exact h2 x e
theorem most_le {st : List (Int × Int)} {x : Int × Int} (h : x ∈ st) : x.2 ≤ mostF st := (most_acc st 0).2 x h
theorem most_nn (st : List (Int × Int)) : 0 ≤ mostF st := (most_acc st 0).1
theorem most_up {m : Int} : ∀ (st : List (Int × Int)) (a : Int), a ≤ m → (∀ x ∈ st, x.2 ≤ m) → st.foldl (fun a x => max a x.2) a ≤ m
  | [], a, h, _ => h
  | y :: st, a, h, h2 => by
    rw [List.foldl_cons]
    have := h2 y List.mem_cons_self
    exact most_up st _ (by omega) fun x hx => h2 x (List.mem_cons_of_mem _ hx)
theorem nums_mem {n s : Int} (pos : 0 < n) {st : List (Int × Int)} {k : Nat} : k ∈ numsN n s st ↔ ∃ x ∈ st, (x.1 - s) % n ≤ (k : Int) ∧ (k : Int) < (x.1 - s) % n + x.2 := by
  unfold numsN cov
  rw [List.mem_filter, List.mem_range, List.any_eq_true]
  constructor
  · rintro ⟨_, x, h1, h2⟩
    exact ⟨x, h1, of_decide_eq_true h2⟩
  · rintro ⟨x, h1, h2⟩
    refine ⟨?_, x, h1, decide_eq_true h2⟩
    have := most_le h1
    have := Int.emod_lt_of_pos (x.1 - s) pos
    omega
theorem nums_rise (n s : Int) (st : List (Int × Int)) : (numsN n s st).Pairwise (· < ·) := List.pairwise_lt_range.filter _
/-- the program's numbers are the due ones -/
theorem flat_nums {r : RingS} (ok : r.ok) {st : List (Int × Int)} (hs : StOkS r st) (s : Int) :
    flatN (((isort (offs r.n s st)).map fun q => (s + q.1, s + q.1 + q.2)).foldl glue []).reverse = (numsN r.n s st).map fun k : Nat => s + (k : Int) := by
  have pos : 0 < r.n := by have := ok.pos; unfold RingS.n; omega
  have os := offs_ok ok hs s
  obtain ⟨k1, k2⟩ := glue_all ((isort (offs r.n s st)).map fun q => (s + q.1, s + q.1 + q.2)) [] (fun p hp => by
    obtain ⟨q, hq, rfl⟩ := List.mem_map.mp hp
    have := os q hq
    dsimp only
    omega) (by
    rw [List.pairwise_map]
    exact (isort_sorted _).imp fun {a b} h => by unfold lexLe at h; dsimp only; omega) ⟨.nil, fun _ z => by cases z⟩ (fun _ z => by cases z)
  refine lt_uniq (flat_rise k1) ?_ fun y => ?_
  · rw [List.pairwise_map]
    exact (nums_rise _ _ _).imp fun h => by omega
  · rw [flat_mem]
    have e : (∃ q ∈ (((isort (offs r.n s st)).map fun q => (s + q.1, s + q.1 + q.2)).foldl glue []).reverse, q.1 ≤ y ∧ y < q.2) ↔ ∃ q ∈ ((isort (offs r.n s st)).map fun q => (s + q.1, s + q.1 + q.2)).foldl glue [], q.1 ≤ y ∧ y < q.2 := by simp only [List.mem_reverse]
    rw [e, k2, List.mem_map]
    constructor
    · rintro (⟨q, z, _⟩ | ⟨p, hp, h1, h2⟩)
      · cases z
      · obtain ⟨q, hq, rfl⟩ := List.mem_map.mp hp
        have hq2 := (isort_perm _).mem_iff.mp hq
        have hb := os q hq
        unfold offs at hq2
        obtain ⟨x, hx, rfl⟩ := List.mem_map.mp hq2
        dsimp only at h1 h2 hb
        refine ⟨(y - s).toNat, (nums_mem pos).mpr ⟨x, hx, by omega, by omega⟩, by omega⟩
    · rintro ⟨k, hk, rfl⟩
      obtain ⟨x, hx, h1, h2⟩ := (nums_mem pos).mp hk
      refine .inr ⟨_, List.mem_map.mpr ⟨((x.1 - s) % r.n, x.2), (isort_perm _).mem_iff.mpr (List.mem_map.mpr ⟨x, hx, rfl⟩), rfl⟩, ?_, ?_⟩
      · dsimp only; omega
      · dsimp only; omega
theorem held_dues {r : RingS} (ok : r.ok) {st : List (Int × Int)} (hs : StOkS r st) (s : Int) :
    held (price r.prices) (((isort (offs r.n s st)).map fun q => (s + q.1, s + q.1 + q.2)).foldl glue []).reverse = dueSum r.prices s st := by
  rw [held_flat, flat_nums ok hs]
  unfold dueSum dues
  rw [List.map_map, List.map_map]
  rfl
/-! ### sublists, greedy -/
theorem sub_of_mem : ∀ {b a : List Int}, a.Pairwise (· < ·) → b.Pairwise (· < ·) → (∀ k ∈ a, k ∈ b) → a.Sublist b
  | [], a, _, _, h => by
    cases a with
    | nil => exact .slnil
    | cons x a => exact absurd (h x List.mem_cons_self) (by simp)
  | y :: b, [], _, _, _ => List.nil_sublist _
  | y :: b, x :: a, h1, h2, h3 => by
    obtain ⟨a1, a2⟩ := List.pairwise_cons.mp h1
    obtain ⟨b1, b2⟩ := List.pairwise_cons.mp h2
    by_cases e : x = y
    · subst e
      refine .cons_cons _ (sub_of_mem a2 b2 fun k hk => ?_)
      rcases List.mem_cons.mp (h3 k (List.mem_cons_of_mem _ hk)) with q | q
      · have := a1 k hk
        omega
      · exact q
    · have hx : x ∈ b := (List.mem_cons.mp (h3 x List.mem_cons_self)).resolve_left e
      have hyx := b1 x hx
      refine .cons _ (sub_of_mem h1 b2 fun k hk => ?_)
      rcases List.mem_cons.mp (h3 k hk) with q | q
      · rcases List.mem_cons.mp hk with q2 | q2
        · omega
        · have := a1 k q2
          omega
      · exact q
theorem pref_all (run : List Int) : ∀ (sch : List Int) (d : Nat), (run.drop d).Sublist sch → d ≤ run.length → pref run d sch = run.length
  | [], d, h, hd => by
    have := List.sublist_nil.mp h
    have h2 := congrArg List.length this
    simp at h2
    show d = _
    omega
  | b :: sch, d, h, hd => by
    unfold pref
    rw [List.foldl_cons]
    by_cases c : run[d]? = some b
    · rw [if_pos c]
      obtain ⟨h1, h2⟩ := List.getElem?_eq_some_iff.mp c
      refine pref_all run sch (d + 1) ?_ h1
      rw [List.drop_eq_getElem_cons h1, h2] at h
      exact List.cons_sublist_cons.mp h
    · rw [if_neg c]
      refine pref_all run sch d ?_ hd
      by_cases hl : d < run.length
      · rw [List.drop_eq_getElem_cons hl] at h ⊢
        cases h with
        | cons _ h => exact h
        | cons_cons _ h => exact absurd (List.getElem?_eq_getElem hl) c
      · rw [List.drop_of_length_le (by omega)]
        exact List.nil_sublist _
/-- each stay's row lies in the due beats -/
theorem row_in {n s : Int} (pos : 0 < n) {st : List (Int × Int)} {x : Int × Int} (hx : x ∈ st) : ((List.range x.2.toNat).map fun k : Nat => (x.1 + (k : Int)) % n).Sublist (dues n s st) := by
  have h1 : ((List.range x.2.toNat).map fun k : Nat => (x.1 - s) % n + (k : Int)).Sublist ((numsN n s st).map fun k : Nat => (k : Int)) := by
    refine sub_of_mem ?_ ?_ fun y hy => ?_
    · rw [List.pairwise_map]
      exact List.pairwise_lt_range.imp fun h => by omega
    · rw [List.pairwise_map]
      exact (nums_rise _ _ _).imp fun h => by omega
    · obtain ⟨k, hk, rfl⟩ := List.mem_map.mp hy
      have := List.mem_range.mp hk
      have := Int.emod_nonneg (x.1 - s) (b := n) (by omega)
      refine List.mem_map.mpr ⟨((x.1 - s) % n + (k : Int)).toNat, (nums_mem pos).mpr ⟨x, hx, by omega, by omega⟩, by omega⟩
  have h2 := h1.map fun z => (s + z) % n
  rw [List.map_map, List.map_map] at h2
  have e : ((List.range x.2.toNat).map fun k : Nat => (x.1 + (k : Int)) % n) = (List.range x.2.toNat).map ((fun z => (s + z) % n) ∘ fun k : Nat => (x.1 - s) % n + (k : Int)) := List.map_congr_left fun k _ => by
    show (x.1 + (k : Int)) % n = (s + ((x.1 - s) % n + (k : Int))) % n
    rw [← Int.add_assoc, Int.add_comm s, Int.add_assoc, Int.emod_add_emod]
    congr 1
    omega
  rw [e]
  exact h2
theorem main_distinct (ds : List D) (QD : D → Prop) (QX : Xn → Prop) (h : P_distinct ds QD QX) : B_distinct { nx := fun _ => QD .non, rt := fun d _ => QD d } (env0 ["row"] ds) := by
  obtain ⟨xs, rfl, h0, hq⟩ := h
  unfold B_distinct
  walk_at "pw"
  exact ⟨_, rfl, xs, xs, rfl, by omega, h0, fun _ z => z, hq⟩
/-! ### the first bad stay -/
theorem bad_not {doors : List Int} {x : Int × Int} : badS doors x = false ↔ x.1 ∈ doors ∧ 1 ≤ x.2 := by
  unfold badS
  by_cases h : x.1 ∈ doors
  · simp [h]
  · simp [h]
theorem fb_none {doors : List Int} {st : List (Int × Int)} (h : FB doors st = none) : ∀ x ∈ st, x.1 ∈ doors ∧ 1 ≤ x.2 := fun x hx => by
  have := List.findIdx?_eq_none_iff.mp h x hx
  exact bad_not.mp this
theorem fb_ok {doors : List Int} {st : List (Int × Int)} (h : ∀ x ∈ st, x.1 ∈ doors ∧ 1 ≤ x.2) : FB doors st = none := List.findIdx?_eq_none_iff.mpr fun x hx => bad_not.mpr (h x hx)
theorem fb_some {doors : List Int} {a b : List (Int × Int)} {x : Int × Int} (h : ∀ y ∈ a, badS doors y = false) (hx : badS doors x = true) : FB doors (a ++ x :: b) = some a.length := by
  unfold FB
  rw [List.findIdx?_eq_some_iff_getElem]
  refine ⟨by simp, ?_, fun j hj => ?_⟩
  · rw [List.getElem_append_right (Nat.le_refl _)]
    simpa using hx
  · rw [List.getElem_append_left hj, h _ (List.getElem_mem hj)]
    exact Bool.false_ne_true
theorem fb_stok {r : RingS} {st : List (Int × Int)} (hs : StOkS r st) : FB r.doors st = none := fb_ok fun x hx => ⟨(hs.inn x hx).1, (hs.inn x hx).2.1⟩
theorem stok_fb {r : RingS} {st : List (Int × Int)} (h : FB r.doors st = none) (h1 : st.length ≤ 10) (h2 : ∀ x ∈ st, x.2 ≤ 4000) : StOkS r st := ⟨h1, fun x hx => ⟨(fb_none h x hx).1, (fb_none h x hx).2, h2 x hx⟩⟩
theorem main_check_stays (c_Ring c_BadStay : Addr) (ds : List D) (QD : D → Prop) (QX : Xn → Prop) (h : P_check_stays c_Ring c_BadStay ds QD QX) : B_check_stays c_Ring c_BadStay QX { nx := fun _ => QD .non, rt := fun d _ => QD d } (env0 ["ring", "stays", "place", "stay"] ds) := by
  obtain ⟨r, st, rfl, hl, hq, hx⟩ := h
  unfold B_check_stays
  walk_at "pw"
  rw [enumD_map]
  refine forL_map (fun done rest env => done ++ rest = st.zipIdx ∧ (∀ p ∈ done, badS r.doors p.1 = false) ∧ ∃ a b : Option D, env = [some (ringD c_Ring r), some (lP st), a, b]) [] _ ⟨rfl, fun _ z => (by cases z), none, none, rfl⟩ ?_ ?_
  · rintro done ⟨s, i⟩ rest env K ⟨hr, hg, a, b, rfl⟩ hK
    have e1 : st.zipIdx[done.length]? = some (s, i) := by rw [← hr]; simp
    rw [List.getElem?_zipIdx] at e1
    have e2 : st[done.length]? = some s ∧ i = done.length := by
      cases e : st[done.length]? with
      | none => rw [e] at e1; cases e1
      | some z => rw [e] at e1; cases e1; exact ⟨rfl, by omega⟩
    obtain ⟨e3, e4⟩ := e2
    obtain ⟨h1, h2⟩ := List.getElem?_eq_some_iff.mp e3
    have raised : badS r.doors s = true → QX (badX c_BadStay i) := fun hb => by
      have e5 : st = st.take done.length ++ s :: st.drop (done.length + 1) := by
        rw [← h2, ← List.drop_eq_getElem_cons h1, List.take_append_drop]
      refine hx i ?_
      rw [e5, fb_some (fun y hy => ?_) hb, List.length_take]
      · congr 1
        omega
      · obtain ⟨j, hj, e6⟩ := List.mem_take_iff_getElem.mp hy
        have hj2 : j < done.length := by omega
        have e7 : done[j]? = some (y, j) := by
          have : st.zipIdx[j]? = done[j]? := by rw [← hr, List.getElem?_append_left hj2]
          rw [← this, List.getElem?_zipIdx, List.getElem?_eq_getElem (by omega), ← e6]
          simp
        exact hg _ (List.mem_of_getElem? e7)
    have hi : i < 10 := by omega
    have fin : badS r.doors s = false → K [some (ringD c_Ring r), some (lP st), some (.int i), some (prD s)] := fun hb => hK _ ⟨by rw [List.append_assoc]; exact hr, fun p hp => by
      rcases List.mem_append.mp hp with q | q
      · exact hg p q
      · rw [List.mem_singleton.mp q]; exact hb, _, _, rfl⟩
    by_cases c1 : s.1 ∈ r.doors
    · walk_at "pw"
      refine w_decT c1 ?_
      walk_at "pw"
      refine w_dec (fun g => ?_) fun g => ?_
      · walk_at "pw"
        refine ⟨i, rfl, by have : ((i : Int)).natAbs = i := by omega
                           rw [this]; exact Nat.lt_trans hi (by decide), raised ?_⟩
        unfold badS
        simp only [Bool.or_eq_true, decide_eq_true_eq]
        exact .inr g
      · walk_at "pw"
        exact fin (bad_not.mpr ⟨c1, by have g2 : ¬ s.2 < 1 := g; omega⟩)
    · walk_at "pw"
      refine w_decF c1 ?_
      walk_at "pw"
      refine ⟨i, rfl, by have : ((i : Int)).natAbs = i := by omega
                         rw [this]; exact Nat.lt_trans hi (by decide), raised ?_⟩
      unfold badS
      simp [c1]
  · rintro done env ⟨hr, hg, a, b, rfl⟩
    refine hq (List.findIdx?_eq_none_iff.mpr fun x hx => ?_)
    rw [List.append_nil] at hr
    obtain ⟨j, hj, e⟩ := List.getElem_of_mem hx
    exact hg (x, j) (by rw [hr]; exact List.mem_of_getElem? (i := j) (by rw [List.getElem?_zipIdx, List.getElem?_eq_getElem hj, e]; simp))
theorem pieces_facts {r : RingS} (ok : r.ok) {st : List (Int × Int)} (hs : StOkS r st) {s : Int} (s1 : 0 ≤ s) (s2 : s < r.n) :
    (∀ q ∈ (((isort (offs r.n s st)).map fun q => (s + q.1, s + q.1 + q.2)).foldl glue []).reverse, 0 ≤ q.1 ∧ q.1 ≤ q.2 ∧ q.2 ≤ 4090) ∧ (((isort (offs r.n s st)).map fun q => (s + q.1, s + q.1 + q.2)).foldl glue []).reverse.length ≤ 10 := by
  have few := ok.few
  have n2 : r.n ≤ 40 := by unfold RingS.n; omega
  have os := offs_ok ok hs s
  have go := glue_ok 0 4090 ((isort (offs r.n s st)).map fun q => (s + q.1, s + q.1 + q.2)) [] (fun q hq => by
    obtain ⟨x, hx, rfl⟩ := List.mem_map.mp hq
    have := os x hx
    dsimp only
    omega) (fun _ z => by cases z)
  have gl := glue_len ((isort (offs r.n s st)).map fun q => (s + q.1, s + q.1 + q.2)) []
  have fewL : ((isort (offs r.n s st)).map fun q => (s + q.1, s + q.1 + q.2)).length ≤ 10 := by
    rw [List.length_map, (isort_perm _).length_eq]
    unfold offs
    rw [List.length_map]
    exact hs.few
  refine ⟨fun q hq => go q (List.mem_reverse.mp hq), ?_⟩
  rw [List.length_reverse]
  rw [List.length_nil, Nat.zero_add] at gl
  omega
theorem main_laid_price (c_Ring : Addr) (ds : List D) (QD : D → Prop) (QX : Xn → Prop) (h : P_laid_price c_Ring ds QD QX) : B_laid_price c_Ring { nx := fun _ => QD .non, rt := fun d _ => QD d } (env0 ["ring", "stays", "start", "first", "behind"] ds) := by
  obtain ⟨r, st, s, rfl, ok, hs, s1, s2, hq⟩ := h
  unfold B_laid_price
  walk_at "pw"
  refine ⟨r, st, s, rfl, ok, hs, ?_⟩
  obtain ⟨f1, f2⟩ := pieces_facts ok hs s1 s2
  rw [← held_dues ok hs] at hq
  generalize (((isort (offs r.n s st)).map fun q => (s + q.1, s + q.1 + q.2)).foldl glue []).reverse = L at *
  walk_at "pw"
  refine pMap_map (fun q : Int × Int => .int (sumR (price r.prices) q.1 q.2)) _ (by omega) (fun q hq acc K h1 h2 => ?_) ?_
  · have hg := f1 q hq
    walk_at "pw"
    refine ⟨r, q.1, q.2, rfl, ok, hg.1, hg.2.1, by omega, h1, h2⟩
  · have e : (L.map fun q : Int × Int => D.int (sumR (price r.prices) q.1 q.2)) = (L.map fun q => sumR (price r.prices) q.1 q.2).map .int := by rw [List.map_map]; rfl
    rw [e]
    walk_at "pw"
    exact hq
theorem main_union_price (c_Ring c_BadStay : Addr) (ds : List D) (QD : D → Prop) (QX : Xn → Prop) (h : P_union_price c_Ring c_BadStay ds QD QX) : B_union_price c_Ring c_BadStay QX { nx := fun _ => QD .non, rt := fun d _ => QD d } (env0 ["ring", "stays", "start"] ds) := by
  obtain ⟨r, st, s, rfl, ok, h1, h2, s1, s2, hq, hx⟩ := h
  unfold B_union_price
  walk_at "pw"
  refine ⟨r, st, rfl, h1, fun hf => ?_, hx⟩
  walk_at "pw"
  exact ⟨r, st, s, rfl, ok, stok_fb hf h1 h2, s1, s2, hq hf⟩
theorem flat_len {m : Nat} : ∀ {L : List (Int × Int)}, (∀ q ∈ L, q.2 - q.1 ≤ m) → (flatN L).length ≤ L.length * m
  | [], _ => by simp [flatN]
  | q :: L, h => by
    have ih := flat_len fun z hz => h z (List.mem_cons_of_mem _ hz)
    have h1 := h q List.mem_cons_self
    unfold flatN at *
    rw [List.flatMap_cons, List.length_append, List.length_cons, Nat.succ_mul, rgI_len]
    omega
theorem main_union_beats (c_Ring c_BadStay : Addr) (ds : List D) (QD : D → Prop) (QX : Xn → Prop) (h : P_union_beats c_Ring c_BadStay ds QD QX) : B_union_beats c_Ring c_BadStay QX { nx := fun _ => QD .non, rt := fun d _ => QD d } (env0 ["ring", "stays", "start", "beats", "first", "behind", "number"] ds) := by
  obtain ⟨r, st, s, rfl, ok, h1, h2, s1, s2, hq, hx⟩ := h
  unfold B_union_beats
  walk_at "pw"
  refine ⟨r, st, rfl, h1, fun hf => ?_, hx⟩
  have hs := stok_fb hf h1 h2
  have hq := hq hf
  walk_at "pw"
  refine ⟨r, st, s, rfl, ok, hs, ?_⟩
  obtain ⟨f1, f2⟩ := pieces_facts ok hs s1 s2
  have ed : dues r.n s st = (flatN (((isort (offs r.n s st)).map fun q => (s + q.1, s + q.1 + q.2)).foldl glue []).reverse).map (· % r.n) := by
    rw [flat_nums ok hs]
    unfold dues
    rw [List.map_map]
    rfl
  rw [ed] at hq
  generalize (((isort (offs r.n s st)).map fun q => (s + q.1, s + q.1 + q.2)).foldl glue []).reverse = L at *
  have pos : 0 < r.n := by have := ok.pos; unfold RingS.n; omega
  walk_at "pw"
  refine forL_map (fun done rest env => done ++ rest = L ∧ ∃ a b c : Option D, env = [some (ringD c_Ring r), some (lP st), some (.int s), some (lI ((flatN done).map (· % r.n))), a, b, c]) [] L ⟨rfl, none, none, none, rfl⟩ ?_ ?_
  · rintro done q rest env K ⟨hr, a, b, c, rfl⟩ hK
    have hg := f1 q (by rw [← hr]; simp)
    have hdl : (flatN done).length ≤ done.length * 4090 := flat_len fun z hz => by
      have := f1 z (by rw [← hr]; exact List.mem_append_left _ hz)
      omega
    have hdl2 : done.length < 10 := by
      have := congrArg List.length hr
      simp at this
      omega
    have hdl3 : done.length * 4090 ≤ 9 * 4090 := Nat.mul_le_mul_right _ (by omega)
    have ef : flatN (done ++ [q]) = flatN done ++ rgI q.1 q.2 := by unfold flatN; simp
    walk_at "pw"
    refine ⟨by omega, by omega, by omega, by omega, ?_⟩
    refine forL_map (fun d2 r2 env => d2 ++ r2 = List.range (q.2 - q.1).toNat ∧ ∃ c : Option D, env = [some (ringD c_Ring r), some (lP st), some (.int s), some (lI ((flatN done).map (· % r.n) ++ d2.map fun k : Nat => (q.1 + (k : Int)) % r.n)), some (.int q.1), some (.int q.2), c]) [] _ ⟨rfl, c, by simp [List.set]⟩ ?_ ?_
    · rintro d2 x r2 env K2 ⟨hr2, c, rfl⟩ hK2
      have hl2 : d2.length ≤ 4090 := by
        have := congrArg List.length hr2
        simp at this
        omega
      walk_at "pw"
      refine w_app rfl ?_
      walk_at "pw"
      refine ⟨by simp; omega, hK2 _ ⟨by rw [List.append_assoc]; exact hr2, _, by simp [List.set]; rfl⟩⟩
    · rintro d2 env ⟨hr2, c, rfl⟩
      rw [List.append_nil] at hr2
      subst hr2
      refine hK _ ⟨by rw [List.append_assoc]; exact hr, some (.int q.1), some (.int q.2), c, ?_⟩
      rw [ef, List.map_append]
      have : (rgI q.1 q.2).map (· % r.n) = (List.range (q.2 - q.1).toNat).map fun k : Nat => (q.1 + (k : Int)) % r.n := by unfold rgI; rw [List.map_map]; rfl
      rw [this]
  · rintro done env ⟨hr, a, b, c, rfl⟩
    rw [List.append_nil] at hr
    subst hr
    refine w_retV rfl ?_
    exact hq
theorem main_least_laying (c_Ring c_BadStay : Addr) (ds : List D) (QD : D → Prop) (QX : Xn → Prop) (h : P_least_laying c_Ring c_BadStay ds QD QX) : B_least_laying c_Ring c_BadStay QX { nx := fun _ => QD .non, rt := fun d _ => QD d } (env0 ["ring", "stays", "best", "door", "price", "stay"] ds) := by
  obtain ⟨r, st, rfl, ok, h1, h2, hq, hx⟩ := h
  unfold B_least_laying
  walk_at "pw"
  refine ⟨r, st, rfl, h1, fun hf => ?_, hx⟩
  have hs := stok_fb hf h1 h2
  have hq := hq hf
  have inn : ∀ s ∈ st, 0 ≤ s.1 ∧ s.1 < (r.prices.length : Int) := fun s h => ok.inn s.1 (hs.inn s h).1
  have few := hs.few
  walk_at "pw"
  refine pMap_map (fun s : Int × Int => .int s.1) st (by omega) (fun s hsm acc K h1 h2 => ?_) ?_
  · walk_at "pw"
    exact ⟨h1, h2⟩
  · have e : (st.map fun s => D.int s.1) = (st.map (·.1)).map .int := by rw [List.map_map]; rfl
    rw [e]
    walk_at "pw"
    refine ⟨_, rfl, by rw [List.length_map]; omega, fun out h1 h2 => ?_⟩
    walk_at "pw"
    refine forL_map (fun done rest env => done ++ rest = out ∧ ∃ (b1 : Int) (b2 : Option Int) (a b c : Option D), env = [some (ringD c_Ring r), some (lP st), some (.tup [.int b1, optD b2]), a, b, c]) [] _ ⟨rfl, 0, none, none, none, none, rfl⟩ ?_ ?_
    · rintro done x rest env K ⟨hr, b1, b2, a, b, c, rfl⟩ hK
      have hx : x ∈ out := by rw [← hr]; simp
      obtain ⟨s, hsm, e⟩ := List.mem_map.mp ((h2 x).mp hx)
      have hb := inn s hsm
      have next : ∀ (b1 : Int) (b2 : Option Int) (a b c : Option D), K [some (ringD c_Ring r), some (lP st), some (.tup [.int b1, optD b2]), a, b, c] := fun b1 b2 a b c => hK _ ⟨by rw [List.append_assoc]; exact hr, b1, b2, a, b, c, rfl⟩
      walk_at "pw"
      refine ⟨r, st, x, rfl, ok, hs, by omega, by show x < (r.prices.length : Int); omega, ?_⟩
      cases b2 with
      | none =>
        walk_at "pw"
        exact next _ (some x) _ _ _
      | some d =>
        walk_at "pw"
        refine w_dec (fun g => ?_) fun g => ?_
        · walk_at "pw"
          exact next _ (some x) _ _ _
        · walk_at "pw"
          exact next b1 (some d) _ _ _
    · rintro done env ⟨hr, b1, b2, a, b, c, rfl⟩
      walk_at "pw"
      exact hq _ _
theorem main_l_ints (ds : List D) (QD : D → Prop) (QX : Xn → Prop) (h : P_l_ints ds QD QX) : B_l_ints { nx := fun _ => QD .non, rt := fun d _ => QD d } (env0 ["_law_row", "_law_value"] ds) := by
  obtain ⟨ns, rfl, hq⟩ := h
  unfold B_l_ints
  walk_at "pw"
  refine w_isi (t := "list") (r := true) rfl rfl ?_
  walk_at "pw"
  refine forL_map (fun done rest env => ∃ a : Option D, env = [some (lI ns), a]) [] ns ⟨none, rfl⟩ ?_ ?_
  · rintro done x rest env K ⟨a, rfl⟩ hK
    walk_at "pw"
    refine ⟨some x, rfl, ?_⟩
    walk_at "pw"
    refine w_tt ?_
    exact hK _ ⟨_, rfl⟩
  · rintro done env ⟨a, rfl⟩
    walk_at "pw"
    exact hq
theorem main_l_prefix (ds : List D) (QD : D → Prop) (QX : Xn → Prop) (h : P_l_prefix ds QD QX) : B_l_prefix { nx := fun _ => QD .non, rt := fun d _ => QD d } (env0 ["_law_run", "_law_schedule", "_law_done", "_law_node"] ds) := by
  obtain ⟨run, sch, rfl, hl, hq⟩ := h
  unfold B_l_prefix
  walk_at "pw"
  refine forL_map (fun done rest env => done ++ rest = sch ∧ ∃ a : Option D, env = [some (lI run), some (lI sch), some (.int (pref run 0 done : Nat)), a]) [] sch ⟨rfl, none, rfl⟩ ?_ ?_
  · rintro done x rest env K ⟨hr, a, rfl⟩ hK
    have es : pref run 0 (done ++ [x]) = if run[pref run 0 done]? = some x then pref run 0 done + 1 else pref run 0 done := by
      unfold pref
      rw [List.foldl_append]
      rfl
    have fin : ∀ (d : Nat), d = pref run 0 (done ++ [x]) → K [some (lI run), some (lI sch), some (.int d), some (.int x)] := fun d hd => hK _ ⟨by rw [List.append_assoc]; exact hr, some (.int x), by rw [hd]⟩
    rw [es] at fin
    generalize pref run 0 done = d at *
    walk_at "pw"
    refine w_dec (fun g => ?_) fun g => ?_
    · walk_at "pw"
      rw [List.length_map] at g
      have hd : d < run.length := by omega
      refine w_ixQ (o := lI run) rfl (int_at (by omega) (by omega)) ?_
      have e : run.getD ((d : Int)).toNat 0 = run[d] := by rw [Int.toNat_natCast]; simp [hd]
      rw [e]
      walk_at "pw"
      refine w_dec (fun g2 => ?_) fun g2 => ?_
      · walk_at "pw"
        exact fin (d + 1) (by rw [if_pos (by rw [List.getElem?_eq_getElem hd, g2])])
      · walk_at "pw"
        exact fin d (by rw [if_neg (by rw [List.getElem?_eq_getElem hd]; simpa using g2)])
    · walk_at "pw"
      rw [List.length_map] at g
      exact fin d (by rw [if_neg (by rw [List.getElem?_eq_none (by omega)]; simp)])
  · rintro done env ⟨hr, a, rfl⟩
    rw [List.append_nil] at hr
    subst hr
    walk_at "pw"
    exact hq
/-! ### marks -/
def mrk (N : Nat) (f : Nat → Bool) : List D := (List.range N).map fun j => D.bl (f j)
theorem mrk_set (N : Nat) (f : Nat → Bool) (i : Nat) : (mrk N f).set i (.bl true) = mrk N fun j => f j || decide (j = i) := by
  unfold mrk
  apply List.ext_getElem
  · simp
  · intro j h1 h2
    simp only [List.length_set, List.length_map, List.length_range] at h1
    rw [List.getElem_set]
    by_cases c : i = j
    · rw [if_pos c]
      simp [c]
    · rw [if_neg c]
      simp [show ¬ j = i from fun z => c z.symm]
theorem mrk_congr {N : Nat} {f g : Nat → Bool} (h : ∀ j, j < N → f j = g j) : mrk N f = mrk N g := List.map_congr_left fun j hj => by rw [h j (List.mem_range.mp hj)]
theorem first_is {n s x : Int} {k : Nat} (hx : 0 ≤ x) (hx2 : x < n) (hk : (k : Int) < n) : (s + (k : Int)) % n = x ↔ (x - s) % n = k := by
  constructor
  · intro h
    rw [← h, Int.sub_emod, Int.emod_emod, ← Int.sub_emod, show s + (k : Int) - s = (k : Int) by omega]
    exact Int.emod_eq_of_lt (by omega) hk
  · intro h
    rw [← h, Int.add_emod, Int.emod_emod, ← Int.add_emod, show s + (x - s) = x by omega]
    exact Int.emod_eq_of_lt hx hx2
theorem main_l_laid_beats (ds : List D) (QD : D → Prop) (QX : Xn → Prop) (h : P_l_laid_beats ds QD QX) : B_l_laid_beats { nx := fun _ => QD .non, rt := fun d _ => QD d } (env0 ["_law_size", "_law_stays", "_law_start", "_law_most", "_law_stay", "_law_marks", "_law_first", "_law_k"] ds) := by
  obtain ⟨n, st, s, rfl, n1, n2, hst, s1, s2, hq⟩ := h
  unfold B_l_laid_beats
  have m0 := most_nn st
  have m1 : mostF st ≤ 4000 := most_up st 0 (by decide) fun x hx => (hst x hx).2.2.2
  walk_at "pw"
  refine forL_map (fun done rest env => done ++ rest = st ∧ ∃ a b c e : Option D, env = [some (.int n), some (lP st), some (.int s), some (.int (mostF done)), a, b, c, e]) [] st ⟨rfl, none, none, none, none, rfl⟩ ?_ ?_
  · rintro done x rest env K ⟨hr, a, b, c, e, rfl⟩ hK
    walk_at "pw"
    refine hK _ ⟨by rw [List.append_assoc]; exact hr, some (prD x), b, c, e, ?_⟩
    have : mostF (done ++ [x]) = max (mostF done) x.2 := by unfold mostF; rw [List.foldl_append]; rfl
    rw [this]
    rfl
  rintro done env ⟨hr, a, b, c, e, rfl⟩
  rw [List.append_nil] at hr
  subst hr
  have hq : QD (lI (dues n s done)) := by assumption
  walk_at "pw"
  refine w_rep (by omega) (by omega) (by simp; omega) ?_
  have e0 : (List.replicate (n + mostF done).toNat [D.bl false]).flatten = mrk (n + mostF done).toNat fun _ => false := by
    unfold mrk
    rw [List.map_const', List.length_range]
    simp
  rw [e0]
  have hN : ((n + mostF done).toNat : Int) = n + mostF done := by omega
  unfold dues numsN at hq
  have hN2 : (n + mostF done).toNat ≤ 4040 := by omega
  have hle : ∀ x ∈ done, x.2 ≤ mostF done := fun x hx => most_le hx
  generalize (n + mostF done).toNat = N at *
  walk_at "pw"
  refine forL_map (fun d1 rest env => d1 ++ rest = done ∧ ∃ m a c e : Option D, env = [some (.int n), some (lP done), some (.int s), m, a, some (.lst (mrk N (cov n s d1))), c, e]) [] done ⟨rfl, _, _, _, _, rfl⟩ ?_ ?_
  · rintro d1 x rest env K ⟨hr, m, a, c, e, rfl⟩ hK
    have hxm : x ∈ done := by rw [← hr]; simp
    obtain ⟨x1, x2, x3, x4⟩ := hst x hxm
    have x5 := hle x hxm
    walk_at "pw"
    refine ⟨by omega, by omega, ?_⟩
    obtain ⟨o1, o2⟩ : 0 ≤ (x.1 - s) % n ∧ (x.1 - s) % n < n := ⟨Int.emod_nonneg _ (by omega), Int.emod_lt_of_pos _ (by omega)⟩
    refine forL_map (fun d2 r2 env => d2 ++ r2 = List.range n.toNat ∧ ∃ e : Option D, env = [some (.int n), some (lP done), some (.int s), m, some (prD x), some (.lst (mrk N (cov n s d1))), some (.int (if (x.1 - s) % n < d2.length then (x.1 - s) % n else 0)), e]) [] _ ⟨rfl, e, by rw [if_neg (by simpa using o1)]; rfl⟩ ?_ ?_
    · rintro d2 k r2 env K2 ⟨hr2, e, rfl⟩ hK2
      have hk : d2.length = k ∧ k < n.toNat := by
        have e : (List.range n.toNat)[d2.length]? = some k := by rw [← hr2]; simp
        obtain ⟨h1, h2⟩ := List.getElem?_eq_some_iff.mp e
        rw [List.length_range] at h1
        rw [List.getElem_range] at h2
        omega
      have fin : ∀ f : Int, f = (if (x.1 - s) % n < ((d2 ++ [k]).length : Nat) then (x.1 - s) % n else 0) → K2 [some (.int n), some (lP done), some (.int s), m, some (prD x), some (.lst (mrk N (cov n s d1))), some (.int f), some (.int (0 + (k : Int)))] := fun f hf => hK2 _ ⟨by rw [List.append_assoc]; exact hr2, some (.int (0 + (k : Int))), by rw [hf]⟩
      rw [List.length_append, List.length_singleton] at fin
      have fi := first_is (s := s) (n := n) (k := k) x1 x2 (by omega)
      walk_at "pw"
      rw [Int.zero_add] at *
      refine w_dec (fun g => ?_) fun g => ?_
      · walk_at "pw"
        have g2 := fi.mp g
        exact fin k (by rw [if_pos (by omega)]; exact g2.symm)
      · walk_at "pw"
        have g2 : ¬ (x.1 - s) % n = k := fun z => g (fi.mpr z)
        refine fin _ ?_
        by_cases c : (x.1 - s) % n < d2.length
        · rw [if_pos c, if_pos (by omega)]
        · rw [if_neg c, if_neg (by omega)]
    · rintro d2 env ⟨hr2, e, rfl⟩
      rw [List.append_nil] at hr2
      subst hr2
      rw [if_pos (by rw [List.length_range]; omega)]
      walk_at "pw"
      refine ⟨by omega, by omega, ?_⟩
      refine forL_map (fun d3 r3 env => d3 ++ r3 = List.range x.2.toNat ∧ ∃ e : Option D, env = [some (.int n), some (lP done), some (.int s), m, some (prD x), some (.lst (mrk N fun j => cov n s d1 j || decide ((x.1 - s) % n ≤ (j : Int) ∧ (j : Int) < (x.1 - s) % n + d3.length))), some (.int ((x.1 - s) % n)), e]) [] _ ⟨rfl, e, ?_⟩ ?_ ?_
      · congr 6
        refine congrArg _ (congrArg _ (mrk_congr fun j hj => ?_))
        simp
        omega
      · rintro d3 k r3 env K2 ⟨hr3, e, rfl⟩ hK2
        have hk : d3.length = k ∧ k < x.2.toNat := by
          have e : (List.range x.2.toNat)[d3.length]? = some k := by rw [← hr3]; simp
          obtain ⟨h1, h2⟩ := List.getElem?_eq_some_iff.mp e
          rw [List.length_range] at h1
          rw [List.getElem_range] at h2
          omega
        walk_at "pw"
        refine ⟨_, rfl, ?_⟩
        walk_at "pw"
        refine ⟨_, ((x.1 - s) % n + (0 + (k : Int))).toNat, rfl, ?_, ?_⟩
        · unfold ixN mrk
          rw [List.length_map, List.length_range, if_pos (by omega), if_pos (by omega)]
        · refine hK2 _ ⟨by rw [List.append_assoc]; exact hr3, some (.int (0 + (k : Int))), ?_⟩
          rw [mrk_set, List.length_append, List.length_singleton]
          have ee : (mrk N fun j => (cov n s d1 j || decide ((x.1 - s) % n ≤ (j : Int) ∧ (j : Int) < (x.1 - s) % n + d3.length)) || decide (j = ((x.1 - s) % n + (0 + (k : Int))).toNat)) = mrk N fun j => cov n s d1 j || decide ((x.1 - s) % n ≤ (j : Int) ∧ (j : Int) < (x.1 - s) % n + ((d3.length + 1 : Nat) : Int)) := mrk_congr fun j hj => by
            rw [Bool.or_assoc]
            congr 1
            rw [← Bool.decide_or]
            refine decide_eq_decide.mpr ?_
            omega
          rw [ee]
          simp only [List.set]
      · rintro d3 env ⟨hr3, e, rfl⟩
        rw [List.append_nil] at hr3
        subst hr3
        refine hK _ ⟨by rw [List.append_assoc]; exact hr, m, some (prD x), some (.int ((x.1 - s) % n)), e, ?_⟩
        have ee : (mrk N fun j => cov n s d1 j || decide ((x.1 - s) % n ≤ (j : Int) ∧ (j : Int) < (x.1 - s) % n + ((List.range x.2.toNat).length : Nat))) = mrk N (cov n s (d1 ++ [x])) := mrk_congr fun j hj => by
          unfold cov
          rw [List.any_append, List.length_range, show ((x.2.toNat : Nat) : Int) = x.2 by omega]
          simp
        rw [ee]
  · rintro d1 env ⟨hr, m, a, c, e, rfl⟩
    rw [List.append_nil] at hr
    subst hr
    walk_at "pw"
    have el : ((mrk N (cov n s d1)).length : Int) = N := by unfold mrk; rw [List.length_map, List.length_range]
    rw [el]
    refine ⟨by omega, by omega, ?_⟩
    rw [Int.toNat_natCast]
    refine pMap_filter (cov n s d1) (fun k : Nat => .int ((s + (k : Int)) % n)) (List.range N) (by simp; omega) (fun k hk acc K h1 h2 h3 => ?_) ?_
    · have hk2 := List.mem_range.mp hk
      walk_at "pw"
      refine w_ixQ (o := .lst (mrk N (cov n s d1))) (d := .bl (cov n s d1 k)) rfl ?_ ?_
      · unfold mrk
        refine at_map (by omega) ?_
        rw [Int.zero_add, Int.toNat_natCast, List.getElem?_range hk2]
      · walk_at "pw"
        refine w_bb (fun g => ?_) fun g => h3 g
        walk_at "pw"
        rw [Int.zero_add]
        exact ⟨h1, h2 g⟩
    · have e : (((List.range N).filter (cov n s d1)).map fun k : Nat => D.int ((s + (k : Int)) % n)) = (((List.range N).filter (cov n s d1)).map fun k : Nat => (s + (k : Int)) % n).map .int := by rw [List.map_map]; rfl
      rw [e]
      exact hq
theorem emod_n {r : RingS} (ok : r.ok) (x : Int) : 0 ≤ x % r.n ∧ x % r.n < r.n := emod_at ok x
theorem dues_in {n s : Int} (pos : 0 < n) {st : List (Int × Int)} : ∀ d ∈ dues n s st, 0 ≤ d ∧ d < n := fun d hd => by
  unfold dues at hd
  obtain ⟨k, _, rfl⟩ := List.mem_map.mp hd
  exact ⟨Int.emod_nonneg _ (by omega), Int.emod_lt_of_pos _ pos⟩
theorem dues_len {n s : Int} {st : List (Int × Int)} {m : Nat} (h : n + mostF st ≤ m) : (dues n s st).length ≤ m := by
  unfold dues numsN
  rw [List.length_map]
  refine Nat.le_trans (List.length_filter_le _ _) ?_
  rw [List.length_range]
  omega
theorem main_l_right (c_Ring c_BadStay : Addr) (ds : List D) (QD : D → Prop) (QX : Xn → Prop) (h : P_l_right c_Ring c_BadStay ds QD QX) : B_l_right c_Ring c_BadStay { nx := fun _ => QD .non, rt := fun d _ => QD d } (env0 ["_law_ring_here", "_law_prices_here", "_law_stays", "_law_start", "_law_due", "_law_handed", "_law_price", "_law_beats", "_law_stay", "_law_row", "_law_k", "_law_place"] ds) := by
  obtain ⟨r, st, s, rfl, ok, hs, s1, s2, hq⟩ := h
  unfold B_l_right
  have few := ok.few
  have pos : 0 < r.n := by have := ok.pos; unfold RingS.n; omega
  have n2 : r.n ≤ 40 := by unfold RingS.n; omega
  have el : ((r.prices.map D.int).length : Int) = r.n := by rw [List.length_map]
  have inn : ∀ x ∈ st, 0 ≤ x.1 ∧ x.1 < r.n ∧ 1 ≤ x.2 ∧ x.2 ≤ 4000 := fun x hx => ⟨(ok.inn x.1 (hs.inn x hx).1).1, (ok.inn x.1 (hs.inn x hx).1).2, (hs.inn x hx).2⟩
  have h2 : ∀ x ∈ st, x.2 ≤ 4000 := fun x hx => (inn x hx).2.2.2
  have fb := fb_stok hs
  have m1 : mostF st ≤ 4000 := most_up st 0 (by decide) h2
  have dl : (dues r.n s st).length ≤ 4040 := dues_len (by omega)
  have din := dues_in (s := s) (st := st) pos
  have rows := fun x hx => row_in (s := s) (st := st) pos (x := x) hx
  have dsum : dueSum r.prices s st = ((dues r.n s st).map fun d => r.prices.getD d.toNat 0).sum := rfl
  walk_at "pw"
  rw [el]
  refine ⟨r.n, st, s, rfl, by omega, n2, inn, s1, s2, ?_⟩
  walk_at "pw"
  refine w_list rfl ?_
  walk_at "pw"
  refine ⟨r, st, s, rfl, ok, hs.few, h2, s1, s2, fun _ => ?_, fun i e => by rw [fb] at e; cases e⟩
  refine ⟨rfl, ?_⟩
  walk_at "pw"
  refine ⟨r, st, s, rfl, ok, hs.few, h2, s1, s2, fun _ => ?_, fun i e => by rw [fb] at e; cases e⟩
  refine ⟨leafs_lI _, ?_⟩
  generalize hdu : dues r.n s st = du at *
  walk_at "pw"
  refine w_neSelf (eqOk_lP st) ?_
  walk_at "pw"
  refine ⟨some (dueSum r.prices s st), rfl, ?_⟩
  walk_at "pw"
  refine w_tt ?_
  walk_at "pw"
  refine ⟨du, rfl, rfl, ?_⟩
  walk_at "pw"
  refine pMap_map (fun d : Int => .int (r.prices.getD d.toNat 0)) du (by omega) (fun d hd acc K k1 k2 => ?_) ?_
  · walk_at "pw"
    have := din d hd
    have en : r.n = (r.prices.length : Int) := rfl
    refine w_ixQ (o := lI r.prices) rfl (int_at (by omega) (by omega)) ?_
    exact ⟨k1, k2⟩
  have ee : (du.map fun d : Int => D.int (r.prices.getD d.toNat 0)) = (du.map fun d => r.prices.getD d.toNat 0).map .int := by rw [List.map_map]; rfl
  rw [ee]
  walk_at "pw"
  rw [← dsum]
  refine w_decT rfl ?_
  walk_at "pw"
  refine w_neSelf (eqOk_lI du) ?_
  walk_at "pw"
  refine forL_map (fun done rest env => done ++ rest = st ∧ ∃ a b c e : Option D, env = [some (ringD c_Ring r), some (lI r.prices), some (lP st), some (.int s), some (lI du), some (lP st), some (.int (dueSum r.prices s st)), some (lI du), a, b, c, e]) [] st ⟨rfl, _, _, _, _, rfl⟩ ?_ ?_
  · rintro done x rest env K ⟨hr, a, b, c, e, rfl⟩ hK
    have hx : x ∈ st := by rw [← hr]; simp
    obtain ⟨x1, x2, x3, x4⟩ := inn x hx
    walk_at "pw"
    refine ⟨by omega, by omega, ?_⟩
    refine pMap_map (fun k : Nat => .int ((x.1 + (k : Int)) % r.n)) (List.range x.2.toNat) (by simp; omega) (fun k hk acc K k1 k2 => ?_) ?_
    · walk_at "pw"
      rw [el, Int.zero_add]
      exact ⟨k1, k2⟩
    have ee : ((List.range x.2.toNat).map fun k : Nat => D.int ((x.1 + (k : Int)) % r.n)) = ((List.range x.2.toNat).map fun k : Nat => (x.1 + (k : Int)) % r.n).map .int := by rw [List.map_map]; rfl
    rw [ee]
    have hrow := pref_all _ du 0 (by simpa using rows x hx) (Nat.zero_le _)
    have hrl : ((List.range x.2.toNat).map fun k : Nat => (x.1 + (k : Int)) % r.n).length ≤ 4000 := by simp; omega
    generalize ((List.range x.2.toNat).map fun k : Nat => (x.1 + (k : Int)) % r.n) = row at *
    walk_at "pw"
    refine ⟨row, du, rfl, by omega, rfl, ?_⟩
    walk_at "pw"
    rw [hrow, List.length_map]
    refine w_decT rfl ?_
    walk_at "pw"
    exact hK _ ⟨by rw [List.append_assoc]; exact hr, some (prD x), some (lI row), c, e, rfl⟩
  · rintro done env ⟨hr, a, b, c, e, rfl⟩
    walk_at "pw"
    refine w_app rfl ?_
    walk_at "pw"
    refine ⟨by simp; omega, ?_⟩
    walk_at "pw"
    refine w_app rfl ?_
    walk_at "pw"
    have fw := hs.few
    refine ⟨by simp; omega, ?_⟩
    walk_at "pw"
    refine w_list rfl ?_
    walk_at "pw"
    refine ⟨r, st, s, rfl, ok, hs.few, h2, s1, s2, fun _ => ?_, fun i e => by rw [fb] at e; cases e⟩
    rw [hdu]
    walk_at "pw"
    refine w_eqSelf (eqOk_lI du) ?_
    walk_at "pw"
    refine w_list rfl ?_
    walk_at "pw"
    refine ⟨r, st, s, rfl, ok, hs.few, h2, s1, s2, fun _ => ?_, fun i e => by rw [fb] at e; cases e⟩
    walk_at "pw"
    rw [decide_eq_true rfl]
    exact hq
theorem main_l_first_bad (ds : List D) (QD : D → Prop) (QX : Xn → Prop) (h : P_l_first_bad ds QD QX) : B_l_first_bad { nx := fun _ => QD .non, rt := fun d _ => QD d } (env0 ["_law_gates_here", "_law_stays", "_law_place"] ds) := by
  obtain ⟨g, st, rfl, hl, hq⟩ := h
  unfold B_l_first_bad
  walk_at "pw"
  rw [List.length_map]
  refine ⟨by omega, by omega, ?_⟩
  rw [Int.toNat_natCast]
  refine forL_map (fun done rest env => done ++ rest = List.range st.length ∧ (∀ j (hj : j < st.length), j < done.length → badS g st[j] = false) ∧ ∃ a : Option D, env = [some (lI g), some (lP st), a]) [] _ ⟨rfl, fun _ _ z => (nomatch z), none, rfl⟩ ?_ ?_
  · rintro done k rest env K ⟨hr, hg, a, rfl⟩ hK
    have hk : done.length = k ∧ k < st.length := by
      have e : (List.range st.length)[done.length]? = some k := by rw [← hr]; simp
      obtain ⟨h1, h2⟩ := List.getElem?_eq_some_iff.mp e
      rw [List.length_range] at h1
      rw [List.getElem_range] at h2
      omega
    have e1 : atI (st.map prD) (0 + (k : Int)) = some (prD st[k]) := at_map (by omega) (by rw [Int.zero_add, Int.toNat_natCast, List.getElem?_eq_getElem hk.2])
    have found : badS g st[k] = true → fbI (FB g st) = 0 + (k : Int) := fun hb => by
      have e5 : st = st.take k ++ st[k] :: st.drop (k + 1) := by rw [← List.drop_eq_getElem_cons hk.2, List.take_append_drop]
      have e6 := fb_some (doors := g) (a := st.take k) (b := st.drop (k + 1)) (x := st[k]) (fun y hy => by
        obtain ⟨j, hj, e6⟩ := List.mem_take_iff_getElem.mp hy
        rw [← e6]
        exact hg j (by omega) (by omega)) hb
      rw [← e5] at e6
      rw [e6, List.length_take]
      show ((min k st.length : Nat) : Int) = 0 + (k : Int)
      omega
    have fin : badS g st[k] = false → K [some (lI g), some (lP st), some (.int (0 + (k : Int)))] := fun hb => hK _ ⟨by rw [List.append_assoc]; exact hr, fun j hj hj2 => by
      rw [List.length_append, List.length_singleton] at hj2
      by_cases c : j < done.length
      · exact hg j hj c
      · have : j = k := by omega
        subst this
        exact hb, some (.int (0 + (k : Int))), rfl⟩
    by_cases c1 : st[k].1 ∈ g
    · walk_at "pw"
      refine w_decT c1 ?_
      walk_at "pw"
      refine w_dec (fun q => ?_) fun q => ?_
      · walk_at "pw"
        rw [found (by unfold badS; simp only [Bool.or_eq_true, decide_eq_true_eq]; exact .inr q)] at hq
        exact hq
      · walk_at "pw"
        exact fin (bad_not.mpr ⟨c1, by omega⟩)
    · walk_at "pw"
      refine w_decF c1 ?_
      walk_at "pw"
      rw [found (by unfold badS; simp [c1])] at hq
      exact hq
  · rintro done env ⟨hr, hg, a, rfl⟩
    rw [List.append_nil] at hr
    subst hr
    have e : FB g st = none := List.findIdx?_eq_none_iff.mpr fun x hx => by
      obtain ⟨j, hj, e⟩ := List.getElem_of_mem hx
      rw [← e]
      exact hg j hj (by rw [List.length_range]; exact hj)
    rw [e] at hq
    walk_at "pw"
    exact hq
theorem main_l_bad (ds : List D) (QD : D → Prop) (QX : Xn → Prop) (h : P_l_bad ds QD QX) : B_l_bad { nx := fun _ => QD .non, rt := fun d _ => QD d } (env0 ["_law_row", "_law_gates_here", "_law_size", "_law_others", "_law_gate", "_law_length", "_law_choice", "_law_place"] ds) := by
  obtain ⟨row, g, n, rfl, hr, hg, n1, n2, hq⟩ := h
  unfold B_l_bad
  have gl : 0 < g.length := List.length_pos_iff.mpr hg
  match row, hr with
  | [x0, x1, x2, x3], _ =>
    have at0 : ∀ (l : List Int) (y : Int), 0 < l.length → ∃ z, atI (l.map D.int) (y % (l.length : Int)) = some (.int z) := fun l y h => ⟨_, int_at (Int.emod_nonneg _ (by omega)) (Int.emod_lt_of_pos _ (by omega))⟩
    walk_at "pw"
    refine ⟨by omega, by omega, ?_⟩
    refine pMap_filter (fun k : Nat => !decide ((0 + (k : Int)) ∈ g)) (fun k : Nat => .int (0 + (k : Int))) (List.range n.toNat) (by simp; omega) (fun k hk acc K h1 h2 h3 => ?_) ?_
    · walk_at "pw"
      refine w_dec (fun q => ?_) fun q => ?_
      · exact h3 (by rw [decide_eq_true q]; rfl)
      · walk_at "pw"
        exact ⟨h1, h2 (by rw [decide_eq_false q]; rfl)⟩
    · have ee : (((List.range n.toNat).filter fun k : Nat => !decide ((0 + (k : Int)) ∈ g)).map fun k : Nat => D.int (0 + (k : Int))) = (((List.range n.toNat).filter fun k : Nat => !decide ((0 + (k : Int)) ∈ g)).map fun k : Nat => 0 + (k : Int)).map .int := by rw [List.map_map]; rfl
      rw [ee]
      generalize (((List.range n.toNat).filter fun k : Nat => !decide ((0 + (k : Int)) ∈ g)).map fun k : Nat => 0 + (k : Int)) = ot
      walk_at "pw"
      rw [List.length_map]
      refine w_qI (by omega) ?_
      obtain ⟨gz, hgz⟩ := at0 g x2 gl
      refine w_ixQ (o := lI g) rfl hgz ?_
      walk_at "pw"
      have fin : ∀ a b : Int, b ≤ 4000 → QD (.tup [.int a, .int b]) := fun a b h => hq (a, b) h
      refine w_dec (fun q => ?_) fun q => ?_
      · walk_at "pw"
        refine w_dec (fun q2 => ?_) fun q2 => ?_
        · walk_at "pw"
          rw [List.length_map] at q2 ⊢
          obtain ⟨oz, hoz⟩ := at0 ot x2 (by omega)
          refine w_ixQ (o := lI ot) rfl hoz ?_
          walk_at "pw"
          exact fin _ _ (by omega)
        · walk_at "pw"
          refine w_dec (fun q3 => ?_) fun q3 => ?_
          · walk_at "pw"
            exact fin _ _ (by omega)
          · omega
      · walk_at "pw"
        refine w_dec (fun q3 => ?_) fun q3 => ?_
        · walk_at "pw"
          exact fin _ _ (by omega)
        · walk_at "pw"
          refine w_dec (fun q4 => ?_) fun q4 => ?_
          · walk_at "pw"
            exact fin _ _ (by omega)
          · walk_at "pw"
            refine w_dec (fun q5 => ?_) fun q5 => ?_
            · walk_at "pw"
              exact fin _ _ (by omega)
            · walk_at "pw"
              refine w_dec (fun q6 => ?_) fun q6 => ?_
              · walk_at "pw"
                exact fin _ _ (by omega)
              · walk_at "pw"
                exact fin _ _ (by omega)
theorem main_l_told_place {P : Program} {K : PySem.W.Frag} {mg : Str → Option Value} (T : Tx P K mg) (ds : List D) (QD : D → Prop) (QX : Xn → Prop) (h : P_l_told_place (He.ga K "Ring") (He.ga K "BadStay") ds QD QX) : B_l_told_place K { nx := fun _ => QD .non, rt := fun d _ => QD d } (env0 ["_law_ring_here", "_law_stays", "_law_start", "_law_which", "e"] ds) := by
  obtain ⟨r, st, s, w, rfl, ok, h1, h2, s1, s2, hq⟩ := h
  unfold B_l_told_place
  have good : FB r.doors st = none → QD (.int (-1)) := fun e => by rw [e] at hq; exact hq
  refine w_seq ?_
  refine w_tryX (fun x z => z = env0 ["_law_ring_here", "_law_stays", "_law_start", "_law_which", "e"] [ringD (He.ga K "Ring") r, lP st, .int s, .int w] ∧ ∃ i, FB r.doors st = some i ∧ x = badX (He.ga K "BadStay") i) ?_ ?_
  · rintro x z ⟨rfl, i, e, rfl⟩
    rw [e] at hq
    refine w_caught T.ex_BadStay_ForeworthError fun a d => ?_
    walk_at "pw"
    refine ⟨_, _, _, true, rfl, ⟨_, rfl, T.er_BadStay.exc, .inl ⟨_, rfl, T.is_BadStay_BadStay⟩⟩, ?_⟩
    walk_at "pw"
    refine ⟨_, _, _, true, rfl, ⟨_, rfl, T.er_BadStay.exc, .inl ⟨_, rfl, T.is_BadStay_ValueError⟩⟩, ?_⟩
    walk_at "pw"
    refine ⟨_, _, _, 0, _, rfl, rfl, T.er_BadStay.xf, T.no_BadStay, rfl, rfl, ?_⟩
    walk_at "pw"
    refine ⟨some (i : Int), rfl, ?_⟩
    walk_at "pw"
    refine w_tt ?_
    walk_at "pw"
    refine w_isT (b := false) T.er_BadStay.exc ?_ ?_
    · exact (ev_cons rfl T.is_BadStay_BadChange (ev_cons rfl T.is_BadStay_BadDoors (ev_cons rfl T.is_BadStay_BadNode (ev_cons rfl T.is_BadStay_BadOrder (ev_cons rfl T.is_BadStay_BadRing (ev_cons rfl T.is_BadStay_BadRun (ev_cons rfl T.is_BadStay_BadStart (ev_cons rfl T.is_BadStay_BadWord (ev_cons rfl T.is_BadStay_BareLoop (ev_cons rfl T.is_BadStay_DeskError ev_nil))))))))))
    walk_at "pw"
    refine w_isT (b := false) T.er_BadStay.exc ?_ ?_
    · exact (ev_cons rfl T.is_BadStay_Incomplete (ev_cons rfl T.is_BadStay_MixedGraphs (ev_cons rfl T.is_BadStay_NoEnd (ev_cons rfl T.is_BadStay_NotOver (ev_cons rfl T.is_BadStay_NotStanding (ev_cons rfl T.is_BadStay_NoWild (ev_cons rfl T.is_BadStay_TextError (ev_cons rfl T.is_BadStay_TooLarge (ev_cons rfl T.is_BadStay_Unreachable (ev_cons rfl T.is_BadStay_WildProgram ev_nil))))))))))
    walk_at "pw"
    refine ⟨_, _, _, 0, _, rfl, rfl, T.er_BadStay.xf, T.no_BadStay, rfl, rfl, ?_⟩
    exact hq
  · intro E hE
    have hE2 : ∀ i, FB r.doors st = some i → E (badX (He.ga K "BadStay") i) (env0 ["_law_ring_here", "_law_stays", "_law_start", "_law_which", "e"] [ringD (He.ga K "Ring") r, lP st, .int s, .int w]) := fun i e => hE _ _ ⟨rfl, i, e, rfl⟩
    clear hE
    walk_at "pw"
    refine w_dec (fun g => ?_) fun g => ?_
    · walk_at "pw"
      refine ⟨r, st, s, rfl, ok, h1, h2, s1, s2, fun e => ?_, hE2⟩
      walk_at "pw"
      exact good e
    · walk_at "pw"
      refine w_dec (fun g => ?_) fun g => ?_
      · walk_at "pw"
        refine ⟨r, st, s, rfl, ok, h1, h2, s1, s2, fun e => ?_, hE2⟩
        walk_at "pw"
        exact good e
      · walk_at "pw"
        refine ⟨r, st, rfl, ok, h1, h2, fun e b o => ?_, hE2⟩
        walk_at "pw"
        exact good e
theorem RingS.ok.nodes {r : RingS} (h : r.ok) (no : List Int) : ({ r with nodes := no } : RingS).ok := ⟨h.pos, h.few, h.low, h.rise, h.inn⟩
theorem main_law (c_Ring : Addr) (c_BadStay : Addr) (ds : List D) (QD : D → Prop) (QX : Xn → Prop) (h : P_law c_Ring c_BadStay ds QD QX) : B_law c_Ring c_BadStay { nx := fun _ => QD .non, rt := fun d _ => QD d } (env0 ["_law_script", "_law_row", "_law_size", "_law_prices_here", "_law_gates_here", "_law_most", "_law_stays", "_law_others", "_law_start", "_law_ring_here", "_law_bad_here", "_law_k", "_law_due", "_law_which", "_law_spoil", "_law_handed"] ds) := by
  obtain ⟨ns, rfl, h63, hq⟩ := h
  unfold B_law
  walk_at "pw"
  refine ⟨ns, 0, rfl, by decide, by decide, fun c0 hc0 => ?_⟩
  walk_at "pw"
  refine ⟨_, _, _, rfl, hc0, by decide, by decide, by decide, by decide, fun row hl hx => ?_⟩
  match row, hl, hx with
  | [x0, x1, x2, x3, x4, x5, x6, x7, x8, x9], _, hx =>
    have hx0 := hx x0 (by simp)
    walk_at "pw"
    refine w_decJ (fun z => ∃ n : Int, 1 ≤ n ∧ n ≤ 40 ∧ z = [some (.scr ns), some (lI [x0, x1, x2, x3, x4, x5, x6, x7, x8, x9]), some (.int n), none, none, none, none, none, none, none, none, none, none, none, none, none]) (fun K hK g => ?_) (fun K hK g => ?_) ?_
    · walk_at "pw"
      exact hK _ ⟨8 + x0 / 7 % 33, by omega, by omega, rfl⟩
    · walk_at "pw"
      exact hK _ ⟨1 + x0 % 7, by omega, by omega, rfl⟩
    · rintro z ⟨n, n1, n2, rfl⟩
      walk_at "pw"
      refine ⟨ns, 1, rfl, by decide, by decide, fun c1 hc1 => ?_⟩
      walk_at "pw"
      refine ⟨c1, n, _, rfl, hc1, n1, n2, fun pr pl px => ?_⟩
      walk_at "pw"
      refine ⟨ns, 2, rfl, by decide, by decide, fun c2 hc2 => ?_⟩
      walk_at "pw"
      refine ⟨c2, n, rfl, hc2, n1, n2, fun g g1 g2 g3 => ?_⟩
      have ok0 : ∀ no : List Int, RingS.ok ⟨pr, g, no⟩ := fun no => ⟨by show 0 < pr.length; omega, by show pr.length ≤ 40; omega, px, g2, fun d hd => ⟨(g3 d hd).1, by show d < (pr.length : Int); have := (g3 d hd).2; omega⟩⟩
      walk_at "pw"
      refine w_decJ (fun z => ∃ m : Int, 1 ≤ m ∧ m ≤ 300 ∧ z = [some (.scr ns), some (lI [x0, x1, x2, x3, x4, x5, x6, x7, x8, x9]), some (.int n), some (lI pr), some (lI g), some (.int m), none, none, none, none, none, none, none, none, none, none]) (fun K hK q => ?_) (fun K hK q => ?_) ?_
      · walk_at "pw"
        exact hK _ ⟨300, by decide, by decide, rfl⟩
      · walk_at "pw"
        exact hK _ ⟨20, by decide, by decide, rfl⟩
      rintro z ⟨m, m1, m2, rfl⟩
      walk_at "pw"
      refine ⟨ns, 3, rfl, by decide, by decide, fun c3 hc3 => ?_⟩
      walk_at "pw"
      refine ⟨c3, g, _, m, rfl, hc3, g1, by omega, by omega, m1, by omega, fun st sl sx => ?_⟩
      walk_at "pw"
      refine ⟨ns, 4, rfl, by decide, by decide, fun c4 hc4 => ?_⟩
      walk_at "pw"
      refine ⟨c4, g, _, _, rfl, hc4, g1, by omega, by omega, by decide, by decide, fun ot ol ox => ?_⟩
      walk_at "pw"
      have stk : ∀ (no : List Int) (st : List (Int × Int)) (m : Int), m ≤ 4000 → st.length ≤ 10 → (∀ s ∈ st, s.1 ∈ g ∧ 1 ≤ s.2 ∧ s.2 ≤ m) → StOkS ⟨pr, g, no⟩ st := fun no st m h1 h2 h3 => ⟨h2, fun s hs => ⟨(h3 s hs).1, (h3 s hs).2.1, by have := (h3 s hs).2.2; omega⟩⟩
      refine ⟨⟨pr, g, []⟩, x9, rfl, ok0 [], g1, fun no => ?_⟩
      have en : (pr.length : Int) = n := by omega
      have er : RingS.n ⟨pr, g, no⟩ = n := en
      have s1 := Int.emod_nonneg x6 (b := n) (by omega)
      have s2 := Int.emod_lt_of_pos x6 (b := n) (by omega)
      have t1 := Int.emod_nonneg x7 (b := n) (by omega)
      have t2 := Int.emod_lt_of_pos x7 (b := n) (by omega)
      have stS := stk no st m (by omega) (by omega) sx
      have hst : StOkS ⟨pr, g, no⟩ st := stS
      walk_at "pw"
      refine ⟨⟨pr, g, no⟩, st, _, rfl, ok0 no, stS, s1, by rw [er]; exact s2, ?_⟩
      walk_at "pw"
      refine ⟨⟨pr, g, no⟩, ot, _, rfl, ok0 no, stk no ot 20 (by decide) (by omega) ox, t1, by rw [er]; exact t2, ?_⟩
      walk_at "pw"
      refine w_list rfl ?_
      walk_at "pw"
      refine ⟨by omega, by omega, ?_⟩
      generalize hs0 : x6 % n = s0 at *
      refine forL_map (fun done rest env => done ++ rest = List.range (1 + x8 % 2).toNat ∧ ∃ (bd : List (Int × Int)) (a b c e f : Option D), bd.length ≤ 5 + done.length ∧ (∀ x ∈ bd, x.2 ≤ 4000) ∧ env = [some (.scr ns), some (lI [x0, x1, x2, x3, x4, x5, x6, x7, x8, x9]), some (.int n), some (lI pr), some (lI g), some (.int m), some (lP st), some (lP ot), some (.int s0), some (ringD c_Ring ⟨pr, g, no⟩), some (lP bd), a, b, c, e, f]) [] _ ⟨rfl, st, none, none, none, none, none, by omega, fun x hx => (hst.inn x hx).2.2, rfl⟩ ?_ ?_
      · rintro done k rest env K ⟨hr, bd, a, b, c, e, f, bl, bx, rfl⟩ hK
        have hk : k < 3 := by
          have : k ∈ List.range (1 + x8 % 2).toNat := by rw [← hr]; simp
          have := List.mem_range.mp this
          omega
        walk_at "pw"
        refine ⟨ns, _, rfl, by omega, by omega, fun c5 hc5 => ?_⟩
        walk_at "pw"
        refine ⟨_, _, _, rfl, hc5, by decide, by decide, by decide, by decide, fun sp spl spx => ?_⟩
        have hdl : done.length < 2 := by
          have := congrArg List.length hr
          simp at this
          omega
        match sp, spl, spx with
        | [y0, y1, y2, y3], _, _ =>
          walk_at "pw"
          refine w_ins rfl ?_
          walk_at "pw"
          rw [List.length_map]
          refine ⟨[y0, y1, y2, y3], g, n, rfl, rfl, g1, n1, n2, fun x hx => ?_⟩
          walk_at "pw"
          have p1 := Int.emod_nonneg y3 (b := (bd.length : Int) + 1) (by omega)
          have p2 := Int.emod_lt_of_pos y3 (b := (bd.length : Int) + 1) (by omega)
          generalize y3 % ((bd.length : Int) + 1) = i at *
          refine ⟨i, _, rfl, by omega, p1, by omega, ?_⟩
          refine hK _ ⟨by rw [List.append_assoc]; exact hr, bd.take i.toNat ++ [x] ++ bd.drop i.toNat, some (.int (0 + (k : Int))), b, c, some (lI [y0, y1, y2, y3]), f, by simp; omega, fun z hz => ?_, ?_⟩
          · rcases List.mem_append.mp hz with q | q
            · rcases List.mem_append.mp q with q | q
              · exact bx z (List.mem_of_mem_take q)
              · rw [List.mem_singleton.mp q]; exact hx
            · exact bx z (List.mem_of_mem_drop q)
          · simp [List.set, List.map_take, List.map_drop]
      · rintro done env ⟨hr, bd, a, b, c, e, f, bl, bx, rfl⟩
        have hdl : done.length ≤ 2 := by
          have := congrArg List.length hr
          simp at this
          omega
        walk_at "pw"
        refine ⟨g, bd, rfl, by omega, ?_⟩
        walk_at "pw"
        have fbs := fb_stok hst
        refine ⟨by decide, by decide, ?_⟩
        refine forL_map (fun done rest env => done ++ rest = List.range 3 ∧ ∃ a c e f : Option D, env = [some (.scr ns), some (lI [x0, x1, x2, x3, x4, x5, x6, x7, x8, x9]), some (.int n), some (lI pr), some (lI g), some (.int m), some (lP st), some (lP ot), some (.int s0), some (ringD c_Ring ⟨pr, g, no⟩), some (lP bd), a, some (.int (fbI (FB g bd))), c, e, f]) [] _ ⟨rfl, a, c, e, f, rfl⟩ ?_ ?_
        · rintro done k rest env K ⟨hr, a, c, e, f, rfl⟩ hK
          walk_at "pw"
          refine w_list rfl ?_
          walk_at "pw"
          refine ⟨⟨pr, g, no⟩, bd, s0, _, rfl, ok0 no, by omega, bx, s1, by rw [er]; exact s2, ?_⟩
          walk_at "pw"
          refine w_decT rfl ?_
          walk_at "pw"
          refine w_neSelf (eqOk_lP bd) ?_
          walk_at "pw"
          refine w_list rfl ?_
          walk_at "pw"
          refine ⟨⟨pr, g, no⟩, st, s0, _, rfl, ok0 no, hst.few, fun x hx => (hst.inn x hx).2.2, s1, by rw [er]; exact s2, ?_⟩
          rw [fbs]
          walk_at "pw"
          refine w_decT rfl ?_
          walk_at "pw"
          exact hK _ ⟨by rw [List.append_assoc]; exact hr, a, some (.int (0 + (k : Int))), e, some (lP bd), rfl⟩
        · rintro done env ⟨hr, a, c, e, f, rfl⟩
          walk_at "pw"
          exact ⟨⟨pr, g, no⟩, st, s0, rfl, ok0 no, stS, s1, by rw [er]; exact s2, hq⟩
end K16

set_option Elab.async false
set_option linter.all false
set_option maxRecDepth 100000
set_option maxHeartbeats 4000000
namespace K16
open PySem PySem.Spec PyProof.Rows L2 G

section
variable {P : Program} {w : World} {K : PySem.W.Frag} {mg : Str → Option Value} {base : Heap}
theorem ek_BadStay (T : Tx P K mg) : ErK P w K mg base "BadStay" (He.ga K "BadStay") "place" := by
  obtain ⟨oc, od, osl, kV, doc, pm, an, cda, ct, cc, lk, hcd, ⟨ccl, cdd, fvs, ccs, tf, hco, hfl⟩, hce⟩ := T.ei_BadStay.fn
  exact ⟨_, _, _, fn_err1 (k := 0) (x := "place") (f := "place") (Ca := He.ga K "BadStay") lk hcd sup_BadStay ⟨⟨ccl, cdd, fvs, ccs, _, tf, hco, hfl, by rw [T.pf]; decide +kernel⟩, hce, T.ei_BadStay.cls, T.z_super, T.pt, rfl, rfl, ⟨_, _, rfl, rfl⟩, T.ei_BadStay.no3⟩
    (fun _ => rfl) (fun _ => rfl) (fun _ => ⟨_, rfl⟩) (fun _ _ _ _ _ => by first | exact msg_f1 rfl (.inl rfl) (by decide) (by decide) (by decide +kernel) | exact msg_c | exact msg_f2 rfl (.inl rfl) (by decide) (by decide) (by decide +kernel) (by decide +kernel)) (fun _ => rfl) (by decide) (by decide) T.er_BadStay.sup, T.c_BadStay, T.er_BadStay.oex, T.ei_BadStay.ini, T.ei_BadStay.ty, Binds.all (fun us hl => match us, hl with | [_, _], _ => rfl), T.no_BadStay⟩
theorem ok_distinct (T : Tx P K mg) : DfK P w K mg base "distinct" 1 (.el .sh) (P_distinct) [] := by
  obtain ⟨fd, F⟩ := T.fn_distinct
  have hb := F.bindsN (ps := ["row"]) fun _ _ _ _ _ _ us hl => match us, hl with | [_], _ => rfl
  exact ⟨⟨_, fd, _, _, _, okG (k := 0) (ms' := []) (p := B_distinct) F sc_distinct (by rintro _ _ _ ⟨_, rfl, _⟩; rfl) (by decide) (fun cdv A outer s H E hr => show GSs _ _ [.ow .sh] _ _ _ from
    (gss_one (gs_ret (ge_sortSet T.z_sorted T.z_set (ge_var (i := 0))))))
    (main_distinct), T.gl_distinct, F.kp, hb, .nil, rfl⟩⟩
theorem ok_check_stays (T : Tx P K mg) : DfR P w K mg base "check_stays" 3 .sh (P_check_stays (He.ga K "Ring") (He.ga K "BadStay")) [] := by
  obtain ⟨fd, F⟩ := T.fn_check_stays
  have hb := F.bindsN (ps := ["ring", "stays"]) fun _ _ _ _ _ _ us hl => match us, hl with | [_, _], _ => rfl
  exact ⟨⟨_, fd, _, _, _, okX (k := 2) (ms' := [.ow .sh, .ow .sh, .ow .sh, .ow .sh]) (p := B_check_stays (He.ga K "Ring") (He.ga K "BadStay")) F sc_check_stays (by rintro _ _ _ ⟨_, _, rfl, _⟩; rfl) (by decide) (fun QX cdv A outer s H E hr => show GSs _ _ [.ow .sh, .ow .sh, .ow .sh, .ow .sh] _ _ _ from
    (gss_one (gs_for (gi_enum T.z_enumerate (ge_var (i := 1))) (gt_tup (gts_cons (gt_name (i := 2)) (gts_cons (gt_name (i := 3)) (gts_nil)))) (gss_one (gs_if (GW.gb (gw_or (gb_cmp cm_notIn (ge_ix (ge_var (i := 3)) (ge_int)) (ge_fld T.cl_Ring T.na_Ring_doors (by decide +kernel) (ge_var (i := 0)))) (gw_or1 (gb_cmp cm_lt (ge_ix (ge_var (i := 3)) (ge_int)) (ge_int))))) (gss_one (gs_raise (gm_err1 (ErK.at (ek_BadStay T)) (gv_cons (ge_var (i := 2)) (gv_nil))))) (gss_nil))))))
    (main_check_stays (He.ga K "Ring") (He.ga K "BadStay")), T.gl_check_stays, F.kp, hb, .nil, rfl⟩⟩
theorem ok_laid (T : Tx P K mg) : DfK P w K mg base "laid" 1 (.el .sh) (P_laid (He.ga K "Ring")) [] := by
  obtain ⟨fd, F⟩ := T.fn_laid
  have hb := F.bindsN (ps := ["ring", "stays", "start"]) fun _ _ _ _ _ _ us hl => match us, hl with | [_, _, _], _ => rfl
  exact ⟨⟨_, fd, _, _, _, okG (k := 0) (ms' := []) (p := B_laid (He.ga K "Ring")) F sc_laid (by rintro _ _ _ ⟨_, _, _, rfl, _⟩; rfl) (by decide) (fun cdv A outer s H E hr => show GSs _ _ [.ow .sh, .ow .sh, .ow .sh, .ow .sh, .ow .sh, .ow .sh, .ow .sh] _ _ _ from
    (gss_cons (gs_set (i := 3) (m := (.el .sh)) (ge_lst (m := .sh) (go_nil)))
 (gss_cons (gs_for (gi_lst (ge_var (i := 1))) (gt_tup (gts_cons (gt_name (i := 4)) (gts_cons (gt_name (i := 5)) (gts_nil)))) (gss_cons (gs_set (i := 6) (m := .sh) (ge_add (ge_var (i := 2)) (ge_mod (ge_sub (ge_var (i := 4)) (ge_var (i := 2))) (ge_fld T.cl_Ring T.na_Ring_size (by decide +kernel) (ge_var (i := 0))))))
 (gss_one (gs_app (i := 3) (m := .sh) (ge_tup (m := .sh) (go_cons (ge_var (i := 6)) (go_cons (ge_add (ge_var (i := 6)) (ge_var (i := 5))) (go_nil))))))))
 (gss_fz (.fz (i := 3) rfl .refl) (gss_one (gs_ret (ge_bltN b_sortP T.z_sorted (by decide +kernel) (go_cons (ge_var (i := 3)) (go_nil)))))))))
    (main_laid (He.ga K "Ring")), T.gl_laid, F.kp, hb, .nil, rfl⟩⟩
theorem ok_pieces (T : Tx P K mg) : DfK P w K mg base "pieces" 2 (.el .sh) (P_pieces (He.ga K "Ring")) [] := by
  obtain ⟨fd, F⟩ := T.fn_pieces
  have hb := F.bindsN (ps := ["ring", "stays", "start"]) fun _ _ _ _ _ _ us hl => match us, hl with | [_, _, _], _ => rfl
  exact ⟨⟨_, fd, _, _, _, okG (k := 1) (ms' := []) (p := B_pieces (He.ga K "Ring")) F sc_pieces (by rintro _ _ _ ⟨_, _, _, rfl, _⟩; rfl) (by decide) (fun cdv A outer s H E hr => show GSs _ _ [.ow .sh, .ow .sh, .ow .sh, .ow .sh, .ow .sh, .ow .sh] _ _ _ from
    (gss_cons (gs_set (i := 3) (m := (.el .sh)) (ge_lst (m := .sh) (go_nil)))
 (gss_cons (gs_for (gi_lst (ge_call (DfK.at (ok_laid T)) (go_cons (ge_var (i := 0)) (go_cons (ge_var (i := 1)) (go_cons (ge_var (i := 2)) (go_nil)))))) (gt_tup (gts_cons (gt_name (i := 4)) (gts_cons (gt_name (i := 5)) (gts_nil)))) (gss_one (gs_if (GW.gb (gw_and (gb_tru (ge_var (i := 3))) (gw_and1 (gb_cmp cm_le (ge_var (i := 4)) (ge_ix (ge_ixP (ge_var (i := 3)) (ge_neg (ge_int))) (ge_int)))))) (gss_one (gs_ixSet (i := 3) (m := .sh) (ge_tup (m := .sh) (go_cons (ge_ix (ge_ixP (ge_var (i := 3)) (ge_neg (ge_int))) (ge_int)) (go_cons (ge_bltF b_max2 T.z_max (by decide +kernel) (gv_cons (ge_var (i := 5)) (gv_cons (ge_ix (ge_ixP (ge_var (i := 3)) (ge_neg (ge_int))) (ge_int)) (gv_nil)))) (go_nil)))) (ge_neg (ge_int)))) (gss_one (gs_app (i := 3) (m := .sh) (ge_tup (m := .sh) (go_cons (ge_var (i := 4)) (go_cons (ge_var (i := 5)) (go_nil)))))))))
 (gss_one (gs_retV (i := 3))))))
    (main_pieces (He.ga K "Ring")), T.gl_pieces, F.kp, hb, .nil, rfl⟩⟩
theorem ok_sums_of (T : Tx P K mg) : DfK P w K mg base "sums_of" 1 .sh (P_sums_of) [] := by
  obtain ⟨fd, F⟩ := T.fn_sums_of
  have hb := F.bindsN (ps := ["prices"]) fun _ _ _ _ _ _ us hl => match us, hl with | [_], _ => rfl
  exact ⟨⟨_, fd, _, _, _, okG (k := 0) (ms' := []) (p := B_sums_of) F sc_sums_of (by rintro _ _ _ ⟨_, rfl, _⟩; rfl) (by decide) (fun cdv A outer s H E hr => show GSs _ _ [.ow .sh, .ow .sh, .ow .sh] _ _ _ from
    (gss_cons (gs_set (i := 1) (m := (.el .sh)) (ge_lst (m := .sh) (go_cons (ge_int) (go_nil))))
 (gss_cons (gs_for (gi_lst (ge_var (i := 0))) (gt_name (i := 2)) (gss_one (gs_app (i := 1) (m := .sh) (ge_add (ge_ixP (ge_var (i := 1)) (ge_neg (ge_int))) (ge_var (i := 2))))))
 (gss_one (gs_ret (ge_tyNV b_tuple T.z_tuple (by decide +kernel) (gv_cons (ge_var (i := 1)) (gv_nil))))))))
    (main_sums_of), T.gl_sums_of, F.kp, hb, .nil, rfl⟩⟩
theorem ok_check_ring (T : Tx P K mg) : DfK P w K mg base "check_ring" 1 .sh (P_check_ring) [] := by
  obtain ⟨fd, F⟩ := T.fn_check_ring
  have hb := F.bindsN (ps := ["prices", "doors", "nodes"]) fun _ _ _ _ _ _ us hl => match us, hl with | [_, _, _], _ => rfl
  exact ⟨⟨_, fd, _, _, _, okG (k := 0) (ms' := [.ow .sh, .ow .sh, .ow .sh, .ow .sh, .ow .sh]) (p := B_check_ring) F sc_check_ring (by rintro _ _ _ ⟨_, _, rfl, _⟩; rfl) (by decide) (fun cdv A outer s H E hr => show GSs _ _ [.ow .sh, .ow .sh, .ow .sh, .ow .sh, .ow .sh] _ _ _ from
    (gss_cons (gs_if (GW.gb (gw_or (gb_cmp cm_eq (ge_bltF b_len T.z_len (by decide +kernel) (gv_cons (ge_var (i := 0)) (gv_nil))) (ge_int)) (gw_or (gb_cmp cm_lt (ge_bltF b_minL T.z_min (by decide +kernel) (gv_cons (ge_var (i := 0)) (gv_nil))) (ge_int)) (gw_or1 (gb_cmp cm_eq (ge_bltF b_len T.z_len (by decide +kernel) (gv_cons (ge_var (i := 1)) (gv_nil))) (ge_int)))))) (gss_one (gs_never)) (gss_nil))
 (gss_cons (gs_set (i := 3) (m := .sh) (ge_neg (ge_int)))
 (gss_cons (gs_for (gi_lst (ge_var (i := 1))) (gt_name (i := 4)) (gss_cons (gs_if (gb_not (gb_chain cm_lt cm_lt (ge_var (i := 3)) (ge_var (i := 4)) (ge_bltF b_len T.z_len (by decide +kernel) (gv_cons (ge_var (i := 0)) (gv_nil))))) (gss_one (gs_never)) (gss_nil))
 (gss_one (gs_set (i := 3) (m := .sh) (ge_var (i := 4))))))
 (gss_one (gs_if (GW.gb (gw_and (gb_cmp cm_notN (ge_var (i := 2)) (ge_non)) (gw_and1 (gb_cmp cm_ne (ge_bltF b_len T.z_len (by decide +kernel) (gv_cons (ge_var (i := 2)) (gv_nil))) (ge_bltF b_len T.z_len (by decide +kernel) (gv_cons (ge_var (i := 0)) (gv_nil))))))) (gss_one (gs_never)) (gss_nil)))))))
    (main_check_ring), T.gl_check_ring, F.kp, hb, .nil, rfl⟩⟩
theorem ok_Ring_init (T : Tx P K mg) : IdK P w K mg base "Ring" (He.ga K "Ring") 2 (.ob [.sh, .sh, .sh, .sh, .sh]) (P_Ring_init (He.ga K "Ring")) [.non] 2 ["nodes"] := by
  obtain ⟨fd, F⟩ := T.fn_Ring_init
  obtain ⟨dv, hv, hb⟩ := F.binds0 (ps := ["self", "prices", "doors", "nodes"]) 3 (by decide) rfl (fun _ _ _ _ _ _ us ks hl hk => match us, hl, ks, hk with | [_, _, _], _, [_], _ => ⟨_, _, _, _, _, _, rfl, rfl, rfl⟩)
  obtain ⟨mv, hkb⟩ := F.kbinds0 (ps := ["self", "prices", "doors", "nodes"]) 3 ["nodes"] [] (fun us _ ws => us ++ ws) (by decide) (fun _ z => nomatch z) (fun r1 _ r2 => r1.append r2) (fun _ _ _ _ _ _ us mv ws hl hm hw => match us, hl, mv, hm, ws, hw with | [_, _, _], _, [], _, [_], _ => (by show _ = _; rfl))
  exact ⟨⟨_, fd, _, _, _, okI (m := (.ob [.sh, .sh, .sh, .sh, .sh])) (p := B_Ring_init (He.ga K "Ring")) 3 F sc_Ring_init (by rintro _ _ _ ⟨_, _, rfl, _⟩; rfl) rfl (by decide) (fun v cdv A outer s H E hr => show GSs _ _ [.io v (.ob []), .ow .sh, .ow .sh, .ow .sh] _ _ _ from
    (gss_cons (gs_expr (ge_call (DfK.at (ok_check_ring T)) (go_cons (ge_var (i := 1)) (go_cons (ge_var (i := 2)) (go_cons (ge_var (i := 3)) (go_nil))))))
 (gss_cons (gs_fldN (i := 0) (ns := []) (m := .sh) T.cl_Ring T.na_Ring_size (by decide +kernel) (ge_bltF b_len T.z_len (by decide +kernel) (gv_cons (ge_var (i := 1)) (gv_nil))) (hf := .own) (hss := by repeat (first | exact SubS.nil | refine SubS.drop ?_ | refine SubS.same ?_)))
 (gss_cons (gs_fldN (i := 0) (ns := ["size"]) (m := .sh) T.cl_Ring T.na_Ring_prices (by decide +kernel) (ge_tyN b_tuple T.z_tuple (by decide +kernel) (go_cons (ge_var (i := 1)) (go_nil))) (hf := .sh rfl) (hss := by repeat (first | exact SubS.nil | refine SubS.drop ?_ | refine SubS.same ?_)))
 (gss_cons (gs_fldN (i := 0) (ns := ["size", "prices"]) (m := .sh) T.cl_Ring T.na_Ring_doors (by decide +kernel) (ge_tyN b_tuple T.z_tuple (by decide +kernel) (go_cons (ge_var (i := 2)) (go_nil))) (hf := .sh rfl) (hss := by repeat (first | exact SubS.nil | refine SubS.drop ?_ | refine SubS.same ?_)))
 (gss_cons (gs_if (gb_cmp cm_isN (ge_var (i := 3)) (ge_non)) (gss_one (gs_fldN (i := 0) (ns := ["size", "prices", "doors"]) (m := .sh) T.cl_Ring T.na_Ring_nodes (by decide +kernel) (ge_tupRg T.z_tuple (gr_1 T.z_range (ge_bltF b_len T.z_len (by decide +kernel) (gv_cons (ge_var (i := 1)) (gv_nil))))) (hf := .sh rfl) (hss := by repeat (first | exact SubS.nil | refine SubS.drop ?_ | refine SubS.same ?_)))) (gss_one (gs_fldN (i := 0) (ns := ["size", "prices", "doors"]) (m := .sh) T.cl_Ring T.na_Ring_nodes (by decide +kernel) (ge_tyN b_tuple T.z_tuple (by decide +kernel) (go_cons (ge_var (i := 3)) (go_nil))) (hf := .sh rfl) (hss := by repeat (first | exact SubS.nil | refine SubS.drop ?_ | refine SubS.same ?_)))))
 (gss_one (gs_fldN (i := 0) (ns := ["size", "prices", "doors", "nodes"]) (m := .sh) T.cl_Ring T.na_Ring__sums (by decide +kernel) (ge_call (DfK.at (ok_sums_of T)) (go_cons (ge_var (i := 1)) (go_nil))) (hf := .own) (hss := by repeat (first | exact SubS.nil | refine SubS.drop ?_ | refine SubS.same ?_))))))))))
    (fun v => ⟨_, rfl⟩) (main_Ring_init (He.ga K "Ring")), T.c_Ring, T.mk_Ring, hb, hv, ⟨_, _, rfl, rfl, rfl⟩, fun _ => hkb⟩⟩
theorem ok_Ring_whole (T : Tx P K mg) : MdK P w K mg base (He.ga K "Ring") "whole" 1 .sh (P_Ring_whole (He.ga K "Ring")) [] := by
  obtain ⟨fd, F⟩ := T.fn_Ring_whole
  have hb := F.bindsN (ps := ["self"]) fun _ _ _ _ _ _ us hl => match us, hl with | [_], _ => rfl
  exact ⟨⟨_, fd, _, _, _, okG (k := 0) (ms' := []) (p := B_Ring_whole (He.ga K "Ring")) F sc_Ring_whole (by rintro _ _ _ ⟨_, rfl, _⟩; rfl) (by decide) (fun cdv A outer s H E hr => show GSs _ _ [.ow .sh] _ _ _ from
    (gss_one (gs_ret (ge_ix (ge_fld T.cl_Ring T.na_Ring__sums (by decide +kernel) (ge_var (i := 0))) (ge_fld T.cl_Ring T.na_Ring_size (by decide +kernel) (ge_var (i := 0)))))))
    (main_Ring_whole (He.ga K "Ring")), T.cl_Ring, T.mt_Ring_whole, hb, .nil, rfl⟩⟩
theorem ok_piece_price (T : Tx P K mg) : DfK P w K mg base "piece_price" 2 .sh (P_piece_price (He.ga K "Ring")) [] := by
  obtain ⟨fd, F⟩ := T.fn_piece_price
  have hb := F.bindsN (ps := ["ring", "first", "behind"]) fun _ _ _ _ _ _ us hl => match us, hl with | [_, _, _], _ => rfl
  exact ⟨⟨_, fd, _, _, _, okG (k := 1) (ms' := []) (p := B_piece_price (He.ga K "Ring")) F sc_piece_price (by rintro _ _ _ ⟨_, _, _, rfl, _⟩; rfl) (by decide) (fun cdv A outer s H E hr => show GSs _ _ [.ow .sh, .ow .sh, .ow .sh, .ow .sh, .ow .sh, .ow .sh] _ _ _ from
    (gss_cons (gs_set (i := 3) (m := .sh) (ge_div (ge_sub (ge_var (i := 2)) (ge_var (i := 1))) (ge_fld T.cl_Ring T.na_Ring_size (by decide +kernel) (ge_var (i := 0)))))
 (gss_cons (gs_set (i := 4) (m := .sh) (ge_mul (ge_var (i := 3)) (ge_meth0 (MdK.at (ok_Ring_whole T)) (by decide +kernel) (ge_var (i := 0)))))
 (gss_cons (gs_for (gi_rg2 T.z_range (ge_add (ge_var (i := 1)) (ge_mul (ge_var (i := 3)) (ge_fld T.cl_Ring T.na_Ring_size (by decide +kernel) (ge_var (i := 0))))) (ge_var (i := 2))) (gt_name (i := 5)) (gss_one (gs_aug (i := 4) (f := (fun i j => i + j)) (fun _ => ip_add) (ge_ix (ge_fld T.cl_Ring T.na_Ring_prices (by decide +kernel) (ge_var (i := 0))) (ge_mod (ge_var (i := 5)) (ge_fld T.cl_Ring T.na_Ring_size (by decide +kernel) (ge_var (i := 0))))))))
 (gss_one (gs_ret (ge_var (i := 4))))))))
    (main_piece_price (He.ga K "Ring")), T.gl_piece_price, F.kp, hb, .nil, rfl⟩⟩
theorem ok_laid_price (T : Tx P K mg) : DfK P w K mg base "laid_price" 3 .sh (P_laid_price (He.ga K "Ring")) [] := by
  obtain ⟨fd, F⟩ := T.fn_laid_price
  have hb := F.bindsN (ps := ["ring", "stays", "start"]) fun _ _ _ _ _ _ us hl => match us, hl with | [_, _, _], _ => rfl
  exact ⟨⟨_, fd, _, _, _, okG (k := 2) (ms' := []) (p := B_laid_price (He.ga K "Ring")) F sc_laid_price (by rintro _ _ _ ⟨_, _, _, rfl, _⟩; rfl) (by decide) (fun cdv A outer s H E hr => show GSs _ _ [.ow .sh, .ow .sh, .ow .sh, .ow .sh, .ow .sh] _ _ _ from
    (gss_one (gs_ret (ge_bltF b_sum T.z_sum (by decide +kernel) (gv_cons (ge_lc (own := [("first", 3), ("behind", 4)]) (m := .sh) (gi_lst (ge_call (DfK.at (ok_pieces T)) (go_cons (ge_var (i := 0)) (go_cons (ge_var (i := 1)) (go_cons (ge_var (i := 2)) (go_nil)))))) (fun _ => blkOk_by (by kernel_rfl)) (gt_tup (gts_cons (gt_name (i := 3)) (gts_cons (gt_name (i := 4)) (gts_nil)))) (gtt_nil) (ge_call (DfK.at (ok_piece_price T)) (go_cons (ge_var (i := 0)) (go_cons (ge_var (i := 3)) (go_cons (ge_var (i := 4)) (go_nil)))))) (gv_nil))))))
    (main_laid_price (He.ga K "Ring")), T.gl_laid_price, F.kp, hb, .nil, rfl⟩⟩
theorem ok_union_price (T : Tx P K mg) : DfR P w K mg base "union_price" 4 .sh (P_union_price (He.ga K "Ring") (He.ga K "BadStay")) [] := by
  obtain ⟨fd, F⟩ := T.fn_union_price
  have hb := F.bindsN (ps := ["ring", "stays", "start"]) fun _ _ _ _ _ _ us hl => match us, hl with | [_, _, _], _ => rfl
  exact ⟨⟨_, fd, _, _, _, okX (k := 3) (ms' := []) (p := B_union_price (He.ga K "Ring") (He.ga K "BadStay")) F sc_union_price (by rintro _ _ _ ⟨_, _, _, rfl, _⟩; rfl) (by decide) (fun QX cdv A outer s H E hr => show GSs _ _ [.ow .sh, .ow .sh, .ow .sh] _ _ _ from
    (gss_cons (gs_expr (ge_call (DfR.at (ok_check_stays T)) (go_cons (ge_var (i := 0)) (go_cons (ge_var (i := 1)) (go_nil)))))
 (gss_one (gs_ret (ge_call (DfK.at (ok_laid_price T)) (go_cons (ge_var (i := 0)) (go_cons (ge_var (i := 1)) (go_cons (ge_var (i := 2)) (go_nil)))))))))
    (main_union_price (He.ga K "Ring") (He.ga K "BadStay")), T.gl_union_price, F.kp, hb, .nil, rfl⟩⟩
theorem ok_union_beats (T : Tx P K mg) : DfR P w K mg base "union_beats" 4 (.el .sh) (P_union_beats (He.ga K "Ring") (He.ga K "BadStay")) [] := by
  obtain ⟨fd, F⟩ := T.fn_union_beats
  have hb := F.bindsN (ps := ["ring", "stays", "start"]) fun _ _ _ _ _ _ us hl => match us, hl with | [_, _, _], _ => rfl
  exact ⟨⟨_, fd, _, _, _, okX (k := 3) (ms' := []) (p := B_union_beats (He.ga K "Ring") (He.ga K "BadStay")) F sc_union_beats (by rintro _ _ _ ⟨_, _, _, rfl, _⟩; rfl) (by decide) (fun QX cdv A outer s H E hr => show GSs _ _ [.ow .sh, .ow .sh, .ow .sh, .ow .sh, .ow .sh, .ow .sh, .ow .sh] _ _ _ from
    (gss_cons (gs_expr (ge_call (DfR.at (ok_check_stays T)) (go_cons (ge_var (i := 0)) (go_cons (ge_var (i := 1)) (go_nil)))))
 (gss_cons (gs_set (i := 3) (m := (.el .sh)) (ge_lst (m := .sh) (go_nil)))
 (gss_cons (gs_for (gi_lst (ge_call (DfK.at (ok_pieces T)) (go_cons (ge_var (i := 0)) (go_cons (ge_var (i := 1)) (go_cons (ge_var (i := 2)) (go_nil)))))) (gt_tup (gts_cons (gt_name (i := 4)) (gts_cons (gt_name (i := 5)) (gts_nil)))) (gss_one (gs_for (gi_rg2 T.z_range (ge_var (i := 4)) (ge_var (i := 5))) (gt_name (i := 6)) (gss_one (gs_app (i := 3) (m := .sh) (ge_mod (ge_var (i := 6)) (ge_fld T.cl_Ring T.na_Ring_size (by decide +kernel) (ge_var (i := 0)))))))))
 (gss_one (gs_retV (i := 3)))))))
    (main_union_beats (He.ga K "Ring") (He.ga K "BadStay")), T.gl_union_beats, F.kp, hb, .nil, rfl⟩⟩
theorem ok_least_laying (T : Tx P K mg) : DfR P w K mg base "least_laying" 4 .sh (P_least_laying (He.ga K "Ring") (He.ga K "BadStay")) [] := by
  obtain ⟨fd, F⟩ := T.fn_least_laying
  have hb := F.bindsN (ps := ["ring", "stays"]) fun _ _ _ _ _ _ us hl => match us, hl with | [_, _], _ => rfl
  exact ⟨⟨_, fd, _, _, _, okX (k := 3) (ms' := []) (p := B_least_laying (He.ga K "Ring") (He.ga K "BadStay")) F sc_least_laying (by rintro _ _ _ ⟨_, _, rfl, _⟩; rfl) (by decide) (fun QX cdv A outer s H E hr => show GSs _ _ [.ow .sh, .ow .sh, .ow .sh, .ow .sh, .ow .sh, .ow .sh] _ _ _ from
    (gss_cons (gs_expr (ge_call (DfR.at (ok_check_stays T)) (go_cons (ge_var (i := 0)) (go_cons (ge_var (i := 1)) (go_nil)))))
 (gss_cons (gs_set (i := 2) (m := (.el .sh)) (ge_tup (m := .sh) (go_cons (ge_int) (go_cons (ge_non) (go_nil)))))
 (gss_cons (gs_for (gi_lst (ge_call (DfK.at (ok_distinct T)) (go_cons (ge_lc (own := [("stay", 5)]) (m := .sh) (gi_lst (ge_var (i := 1))) (fun _ => blkOk_by (by kernel_rfl)) (gt_name (i := 5)) (gtt_nil) (ge_ix (ge_var (i := 5)) (ge_int))) (go_nil)))) (gt_name (i := 3)) (gss_cons (gs_set (i := 4) (m := .sh) (ge_call (DfK.at (ok_laid_price T)) (go_cons (ge_var (i := 0)) (go_cons (ge_var (i := 1)) (go_cons (ge_var (i := 3)) (go_nil))))))
 (gss_one (gs_if (GW.gb (gw_or (gb_cmp cm_isN (ge_ixP (ge_var (i := 2)) (ge_int)) (ge_non)) (gw_or1 (gb_cmp cm_lt (ge_var (i := 4)) (ge_ixP (ge_var (i := 2)) (ge_int)))))) (gss_one (gs_set (i := 2) (m := (.el .sh)) (ge_tup (m := .sh) (go_cons (ge_var (i := 4)) (go_cons (ge_var (i := 3)) (go_nil)))))) (gss_nil)))))
 (gss_fz (.fz (i := 2) rfl .refl) (gss_one (gs_ret (ge_var (i := 2)))))))))
    (main_least_laying (He.ga K "Ring") (He.ga K "BadStay")), T.gl_least_laying, F.kp, hb, .nil, rfl⟩⟩
theorem ok_l_cell (T : Tx P K mg) : DfK P w K mg base "_law_cell" 1 .sh (P_l_cell) [] := by
  obtain ⟨fd, F⟩ := T.fn_l_cell
  have hb := F.bindsN (ps := ["_law_script", "_law_k"]) fun _ _ _ _ _ _ us hl => match us, hl with | [_, _], _ => rfl
  exact ⟨⟨_, fd, _, _, _, okG (k := 0) (ms' := []) (p := B_l_cell) F sc_l_cell (by rintro _ _ _ ⟨_, _, rfl, _⟩; rfl) (by decide) (fun cdv A outer s H E hr => show GSs _ _ [.ow .sh, .ow .sh] _ _ _ from
    (gss_cons (gs_if (gb_cmp cm_lt (ge_var (i := 1)) (ge_bltF b_len T.z_len (by decide +kernel) (gv_cons (ge_var (i := 0)) (gv_nil)))) (gss_one (gs_ret (ge_bltF b_abs T.z_abs (by decide +kernel) (gv_cons (ge_ix (ge_var (i := 0)) (ge_var (i := 1))) (gv_nil))))) (gss_nil))
 (gss_one (gs_ret (ge_int)))))
    (main_l_cell), T.gl_l_cell, F.kp, hb, .nil, rfl⟩⟩
theorem ok_l_digits (T : Tx P K mg) : DfK P w K mg base "_law_digits" 1 (.el .sh) (P_l_digits) [] := by
  obtain ⟨fd, F⟩ := T.fn_l_digits
  have hb := F.bindsN (ps := ["_law_cell_here", "_law_count", "_law_size"]) fun _ _ _ _ _ _ us hl => match us, hl with | [_, _, _], _ => rfl
  exact ⟨⟨_, fd, _, _, _, okG (k := 0) (ms' := []) (p := B_l_digits) F sc_l_digits (by rintro _ _ _ ⟨_, _, _, rfl, _⟩; rfl) (by decide) (fun cdv A outer s H E hr => show GSs _ _ [.ow .sh, .ow .sh, .ow .sh, .ow .sh, .ow .sh, .ow .sh, .ow .sh] _ _ _ from
    (gss_cons (gs_set (i := 3) (m := (.el .sh)) (ge_lst (m := .sh) (go_nil)))
 (gss_cons (gs_set (i := 4) (m := .sh) (ge_var (i := 0)))
 (gss_cons (gs_for (gi_rg1 T.z_range (ge_var (i := 1))) (gt_name (i := 5)) (gss_one (gs_if (GW.gb (gw_and (gb_cmp cm_ge (ge_var (i := 0)) (ge_pow (ge_int) (ge_int))) (gw_and1 (gb_cmp cm_gt (ge_var (i := 4)) (ge_int))))) (gss_cons (gs_app (i := 3) (m := .sh) (ge_mod (ge_tyF b_int T.z_int (by decide +kernel) (gv_cons (ge_var (i := 4)) (gv_nil))) (ge_var (i := 2))))
 (gss_one (gs_set (i := 4) (m := .sh) (ge_div (ge_var (i := 4)) (ge_var (i := 2)))))) (gss_cons (gs_set (i := 6) (m := .sh) (ge_mod (ge_tyF b_int T.z_int (by decide +kernel) (gv_cons (ge_add (ge_add (ge_var (i := 0)) (ge_mul (ge_int) (ge_var (i := 5)))) (ge_int)) (gv_nil))) (ge_int)))
 (gss_cons (gs_set (i := 6) (m := .sh) (ge_mod (ge_tyF b_int T.z_int (by decide +kernel) (gv_cons (ge_mul (ge_var (i := 6)) (ge_add (ge_var (i := 6)) (ge_int))) (gv_nil))) (ge_int)))
 (gss_cons (gs_set (i := 6) (m := .sh) (ge_mod (ge_tyF b_int T.z_int (by decide +kernel) (gv_cons (ge_add (ge_mul (ge_var (i := 6)) (ge_add (ge_var (i := 6)) (ge_int))) (ge_mul (ge_int) (ge_var (i := 5)))) (gv_nil))) (ge_int)))
 (gss_one (gs_app (i := 3) (m := .sh) (ge_mod (ge_tyF b_int T.z_int (by decide +kernel) (gv_cons (ge_div (ge_var (i := 6)) (ge_int)) (gv_nil))) (ge_var (i := 2)))))))))))
 (gss_one (gs_retV (i := 3)))))))
    (main_l_digits), T.gl_l_digits, F.kp, hb, .nil, rfl⟩⟩
theorem ok_l_seed (T : Tx P K mg) : DfK P w K mg base "_law_seed" 2 .sh (P_l_seed) [] := by
  obtain ⟨fd, F⟩ := T.fn_l_seed
  have hb := F.bindsN (ps := ["_law_script", "_law_k"]) fun _ _ _ _ _ _ us hl => match us, hl with | [_, _], _ => rfl
  exact ⟨⟨_, fd, _, _, _, okG (k := 1) (ms' := []) (p := B_l_seed) F sc_l_seed (by rintro _ _ _ ⟨_, _, rfl, _⟩; rfl) (by decide) (fun cdv A outer s H E hr => show GSs _ _ [.ow .sh, .ow .sh] _ _ _ from
    (gss_cons (gs_if (gb_cmp cm_lt (ge_var (i := 1)) (ge_bltF b_len T.z_len (by decide +kernel) (gv_cons (ge_var (i := 0)) (gv_nil)))) (gss_one (gs_ret (ge_bltF b_abs T.z_abs (by decide +kernel) (gv_cons (ge_ix (ge_var (i := 0)) (ge_var (i := 1))) (gv_nil))))) (gss_nil))
 (gss_one (gs_ret (ge_ix (ge_call (DfK.at (ok_l_digits T)) (go_cons (ge_add (ge_add (ge_call (DfK.at (ok_l_cell T)) (go_cons (ge_var (i := 0)) (go_cons (ge_int) (go_nil)))) (ge_mul (ge_int) (ge_var (i := 1)))) (ge_int)) (go_cons (ge_int) (go_cons (ge_pow (ge_int) (ge_int)) (go_nil))))) (ge_int))))))
    (main_l_seed), T.gl_l_seed, F.kp, hb, .nil, rfl⟩⟩
theorem ok_l_prefix (T : Tx P K mg) : DfK P w K mg base "_law_prefix" 1 .sh (P_l_prefix) [] := by
  obtain ⟨fd, F⟩ := T.fn_l_prefix
  have hb := F.bindsN (ps := ["_law_run", "_law_schedule"]) fun _ _ _ _ _ _ us hl => match us, hl with | [_, _], _ => rfl
  exact ⟨⟨_, fd, _, _, _, okG (k := 0) (ms' := []) (p := B_l_prefix) F sc_l_prefix (by rintro _ _ _ ⟨_, _, rfl, _⟩; rfl) (by decide) (fun cdv A outer s H E hr => show GSs _ _ [.ow .sh, .ow .sh, .ow .sh, .ow .sh] _ _ _ from
    (gss_cons (gs_set (i := 2) (m := .sh) (ge_int))
 (gss_cons (gs_for (gi_lst (ge_var (i := 1))) (gt_name (i := 3)) (gss_one (gs_if (GW.gb (gw_and (gb_cmp cm_lt (ge_var (i := 2)) (ge_bltF b_len T.z_len (by decide +kernel) (gv_cons (ge_var (i := 0)) (gv_nil)))) (gw_and1 (gb_cmp cm_eq (ge_ix (ge_var (i := 0)) (ge_var (i := 2))) (ge_var (i := 3)))))) (gss_one (gs_set (i := 2) (m := .sh) (ge_add (ge_var (i := 2)) (ge_int)))) (gss_nil))))
 (gss_one (gs_ret (ge_var (i := 2)))))))
    (main_l_prefix), T.gl_l_prefix, F.kp, hb, .nil, rfl⟩⟩
theorem ok_l_is_int (T : Tx P K mg) : DfK P w K mg base "_law_is_int" 1 .sh (P_l_is_int) [] := by
  obtain ⟨fd, F⟩ := T.fn_l_is_int
  have hb := F.bindsN (ps := ["_law_value"]) fun _ _ _ _ _ _ us hl => match us, hl with | [_], _ => rfl
  exact ⟨⟨_, fd, _, _, _, okG (k := 0) (ms' := []) (p := B_l_is_int) F sc_l_is_int (by rintro _ _ _ ⟨_, rfl, _⟩; rfl) (by decide) (fun cdv A outer s H E hr => show GSs _ _ [.ow .sh] _ _ _ from
    (gss_one (gs_retF (ge_and (ge_bltF b_isi T.z_isinstance (by decide +kernel) (gv_cons (ge_var (i := 0)) (gv_cons (ge_ty (T := "int") T.z_int (by decide +kernel)) (gv_nil)))) (ge_one (ge_not (ge_bltF b_isi T.z_isinstance (by decide +kernel) (gv_cons (ge_var (i := 0)) (gv_cons (ge_ty (T := "bool") T.z_bool (by decide +kernel)) (gv_nil))))))))))
    (main_l_is_int), T.gl_l_is_int, F.kp, hb, .nil, rfl⟩⟩
theorem okw_l_is_int (T : Tx P K mg) : DfWK P w K mg base "_law_is_int" 1 .sh (P_l_is_int) [] := by
  obtain ⟨fd, F⟩ := T.fn_l_is_int
  have hb := F.bindsN (ps := ["_law_value"]) fun _ _ _ _ _ _ us hl => match us, hl with | [_], _ => rfl
  exact ⟨⟨_, fd, _, _, _, okW (k := 0) (ms' := []) (p := B_l_is_int) F sc_l_is_int (by rintro _ _ _ ⟨_, rfl, _⟩; rfl) (by decide) (fun cdv A outer s H E hr => show GSs _ _ [.ow .sh] _ _ _ from
    (gss_one (gs_retF (ge_and (ge_bltF b_isi T.z_isinstance (by decide +kernel) (gv_cons (ge_var (i := 0)) (gv_cons (ge_ty (T := "int") T.z_int (by decide +kernel)) (gv_nil)))) (ge_one (ge_not (ge_bltF b_isi T.z_isinstance (by decide +kernel) (gv_cons (ge_var (i := 0)) (gv_cons (ge_ty (T := "bool") T.z_bool (by decide +kernel)) (gv_nil))))))))))
    (main_l_is_int), T.gl_l_is_int, F.kp, hb, .nil, rfl⟩⟩
theorem ok_l_ints (T : Tx P K mg) : DfK P w K mg base "_law_ints" 2 .sh (P_l_ints) [] := by
  obtain ⟨fd, F⟩ := T.fn_l_ints
  have hb := F.bindsN (ps := ["_law_row"]) fun _ _ _ _ _ _ us hl => match us, hl with | [_], _ => rfl
  exact ⟨⟨_, fd, _, _, _, okG (k := 1) (ms' := []) (p := B_l_ints) F sc_l_ints (by rintro _ _ _ ⟨_, rfl, _⟩; rfl) (by decide) (fun cdv A outer s H E hr => show GSs _ _ [.ow .sh, .ow .sh] _ _ _ from
    (gss_cons (gs_if (gb_not (gb_tru (ge_bltF b_isi T.z_isinstance (by decide +kernel) (gv_cons (ge_var (i := 0)) (gv_cons (ge_ty (T := "list") T.z_list (by decide +kernel)) (gv_nil)))))) (gss_one (gs_ret (ge_bl))) (gss_nil))
 (gss_cons (gs_for (gi_lst (ge_var (i := 0))) (gt_name (i := 1)) (gss_one (gs_if (gb_not (gb_tru (ge_call (DfK.at (ok_l_is_int T)) (go_cons (ge_var (i := 1)) (go_nil))))) (gss_one (gs_ret (ge_bl))) (gss_nil))))
 (gss_one (gs_ret (ge_bl))))))
    (main_l_ints), T.gl_l_ints, F.kp, hb, .nil, rfl⟩⟩
theorem ok_l_prices (T : Tx P K mg) : DfK P w K mg base "_law_prices" 2 (.el .sh) (P_l_prices) [] := by
  obtain ⟨fd, F⟩ := T.fn_l_prices
  have hb := F.bindsN (ps := ["_law_cell_here", "_law_count", "_law_choice"]) fun _ _ _ _ _ _ us hl => match us, hl with | [_, _, _], _ => rfl
  exact ⟨⟨_, fd, _, _, _, okG (k := 1) (ms' := []) (p := B_l_prices) F sc_l_prices (by rintro _ _ _ ⟨_, _, _, rfl, _⟩; rfl) (by decide) (fun cdv A outer s H E hr => show GSs _ _ [.ow .sh, .ow .sh, .ow .sh, .ow .sh, .ow .sh] _ _ _ from
    (gss_cons (gs_set (i := 3) (m := (.el .sh)) (ge_call (DfK.at (ok_l_digits T)) (go_cons (ge_var (i := 0)) (go_cons (ge_var (i := 1)) (go_cons (ge_pow (ge_int) (ge_int)) (go_nil))))))
 (gss_cons (gs_if (gb_cmp cm_eq (ge_var (i := 2)) (ge_int)) (gss_one (gs_ret (ge_rep (ge_lst (m := .sh) (go_cons (ge_int) (go_nil))) (ge_var (i := 1))))) (gss_nil))
 (gss_cons (gs_if (gb_cmp cm_eq (ge_var (i := 2)) (ge_int)) (gss_fz (.fz (i := 3) rfl .refl) (gss_one (gs_ret (ge_lc (own := [("_law_digit", 4)]) (m := .sh) (gi_lst (ge_var (i := 3))) (fun _ => blkOk_by (by kernel_rfl)) (gt_name (i := 4)) (gtt_nil) (ge_add (ge_int) (ge_mod (ge_tyF b_int T.z_int (by decide +kernel) (gv_cons (ge_var (i := 4)) (gv_nil))) (ge_int))))))) (gss_nil))
 (gss_cons (gs_if (gb_cmp cm_eq (ge_var (i := 2)) (ge_int)) (gss_fz (.fz (i := 3) rfl .refl) (gss_one (gs_ret (ge_lc (own := [("_law_digit", 4)]) (m := .sh) (gi_lst (ge_var (i := 3))) (fun _ => blkOk_by (by kernel_rfl)) (gt_name (i := 4)) (gtt_nil) (ge_add (ge_int) (ge_mod (ge_tyF b_int T.z_int (by decide +kernel) (gv_cons (ge_var (i := 4)) (gv_nil))) (ge_int))))))) (gss_nil))
 (gss_fz (.fz (i := 3) rfl .refl) (gss_one (gs_ret (ge_lc (own := [("_law_digit", 4)]) (m := .sh) (gi_lst (ge_var (i := 3))) (fun _ => blkOk_by (by kernel_rfl)) (gt_name (i := 4)) (gtt_nil) (ge_add (ge_int) (ge_var (i := 4))))))))))))
    (main_l_prices), T.gl_l_prices, F.kp, hb, .nil, rfl⟩⟩
theorem ok_l_gates (T : Tx P K mg) : DfK P w K mg base "_law_gates" 2 (.el .sh) (P_l_gates) [] := by
  obtain ⟨fd, F⟩ := T.fn_l_gates
  have hb := F.bindsN (ps := ["_law_cell_here", "_law_size"]) fun _ _ _ _ _ _ us hl => match us, hl with | [_, _], _ => rfl
  exact ⟨⟨_, fd, _, _, _, okG (k := 1) (ms' := []) (p := B_l_gates) F sc_l_gates (by rintro _ _ _ ⟨_, _, rfl, _⟩; rfl) (by decide) (fun cdv A outer s H E hr => show GSs _ _ [.ow .sh, .ow .sh, .ow .sh, .ow .sh, .ow .sh] _ _ _ from
    (gss_cons (gs_set (i := 2) (m := (.el .sh)) (ge_call (DfK.at (ok_l_digits T)) (go_cons (ge_var (i := 0)) (go_cons (ge_add (ge_var (i := 1)) (ge_int)) (go_cons (ge_int) (go_nil))))))
 (gss_cons (gs_if (gb_cmp cm_eq (ge_mod (ge_tyF b_int T.z_int (by decide +kernel) (gv_cons (ge_div (ge_ixP (ge_var (i := 2)) (ge_int)) (ge_int)) (gv_nil))) (ge_int)) (ge_int)) (gss_one (gs_ret (ge_listRg T.z_list (gr_1 T.z_range (ge_var (i := 1)))))) (gss_nil))
 (gss_cons (gs_setLc (i := 3) (own := [("_law_place", 4)]) (m := .sh) (gi_rg1 T.z_range (ge_var (i := 1))) (fun _ => blkOk_by (by kernel_rfl)) (gt_name (i := 4)) (gtt_one (gb_cmp cm_eq (ge_mod (ge_tyF b_int T.z_int (by decide +kernel) (gv_cons (ge_ixP (ge_var (i := 2)) (ge_add (ge_int) (ge_var (i := 4)))) (gv_nil))) (ge_int)) (ge_int))) (ge_var (i := 4)))
 (gss_cons (gs_if (gb_cmp cm_eq (ge_bltF b_len T.z_len (by decide +kernel) (gv_cons (ge_var (i := 3)) (gv_nil))) (ge_int)) (gss_one (gs_ret (ge_lst (m := .sh) (go_cons (ge_mod (ge_tyF b_int T.z_int (by decide +kernel) (gv_cons (ge_ixP (ge_var (i := 2)) (ge_int)) (gv_nil))) (ge_var (i := 1))) (go_nil))))) (gss_nil))
 (gss_one (gs_retV (i := 3))))))))
    (main_l_gates), T.gl_l_gates, F.kp, hb, .nil, rfl⟩⟩
theorem ok_l_drawn (T : Tx P K mg) : DfK P w K mg base "_law_drawn" 2 (.el .sh) (P_l_drawn) [] := by
  obtain ⟨fd, F⟩ := T.fn_l_drawn
  have hb := F.bindsN (ps := ["_law_cell_here", "_law_gates_here", "_law_count", "_law_most"]) fun _ _ _ _ _ _ us hl => match us, hl with | [_, _, _, _], _ => rfl
  exact ⟨⟨_, fd, _, _, _, okG (k := 1) (ms' := []) (p := B_l_drawn) F sc_l_drawn (by rintro _ _ _ ⟨_, _, _, _, rfl, _⟩; rfl) (by decide) (fun cdv A outer s H E hr => show GSs _ _ [.ow .sh, .ow .sh, .ow .sh, .ow .sh, .ow .sh, .ow .sh, .ow .sh] _ _ _ from
    (gss_cons (gs_set (i := 4) (m := (.el .sh)) (ge_call (DfK.at (ok_l_digits T)) (go_cons (ge_var (i := 0)) (go_cons (ge_mul (ge_int) (ge_var (i := 2))) (go_cons (ge_int) (go_nil))))))
 (gss_cons (gs_set (i := 5) (m := (.el .sh)) (ge_lst (m := .sh) (go_nil)))
 (gss_cons (gs_for (gi_rg1 T.z_range (ge_var (i := 2))) (gt_name (i := 6)) (gss_one (gs_if (GW.gb (gw_and (gb_cmp cm_gt (ge_var (i := 6)) (ge_int)) (gw_and1 (gb_cmp cm_eq (ge_mod (ge_tyF b_int T.z_int (by decide +kernel) (gv_cons (ge_ixP (ge_var (i := 4)) (ge_mul (ge_int) (ge_var (i := 6)))) (gv_nil))) (ge_int)) (ge_int))))) (gss_one (gs_app (i := 5) (m := .sh) (ge_ixP (ge_var (i := 5)) (ge_mod (ge_tyF b_int T.z_int (by decide +kernel) (gv_cons (ge_ixP (ge_var (i := 4)) (ge_add (ge_mul (ge_int) (ge_var (i := 6))) (ge_int))) (gv_nil))) (ge_var (i := 6)))))) (gss_one (gs_app (i := 5) (m := .sh) (ge_tup (m := .sh) (go_cons (ge_ix (ge_var (i := 1)) (ge_mod (ge_tyF b_int T.z_int (by decide +kernel) (gv_cons (ge_ixP (ge_var (i := 4)) (ge_add (ge_mul (ge_int) (ge_var (i := 6))) (ge_int))) (gv_nil))) (ge_bltF b_len T.z_len (by decide +kernel) (gv_cons (ge_var (i := 1)) (gv_nil))))) (go_cons (ge_add (ge_int) (ge_mod (ge_tyF b_int T.z_int (by decide +kernel) (gv_cons (ge_ixP (ge_var (i := 4)) (ge_add (ge_mul (ge_int) (ge_var (i := 6))) (ge_int))) (gv_nil))) (ge_var (i := 3)))) (go_nil)))))))))
 (gss_one (gs_retV (i := 5)))))))
    (main_l_drawn), T.gl_l_drawn, F.kp, hb, .nil, rfl⟩⟩
theorem ok_l_laid_beats (T : Tx P K mg) : DfK P w K mg base "_law_laid_beats" 1 (.el .sh) (P_l_laid_beats) [] := by
  obtain ⟨fd, F⟩ := T.fn_l_laid_beats
  have hb := F.bindsN (ps := ["_law_size", "_law_stays", "_law_start"]) fun _ _ _ _ _ _ us hl => match us, hl with | [_, _, _], _ => rfl
  exact ⟨⟨_, fd, _, _, _, okG (k := 0) (ms' := []) (p := B_l_laid_beats) F sc_l_laid_beats (by rintro _ _ _ ⟨_, _, _, rfl, _⟩; rfl) (by decide) (fun cdv A outer s H E hr => show GSs _ _ [.ow .sh, .ow .sh, .ow .sh, .ow .sh, .ow .sh, .ow .sh, .ow .sh, .ow .sh] _ _ _ from
    (gss_cons (gs_set (i := 3) (m := .sh) (ge_int))
 (gss_cons (gs_for (gi_lst (ge_var (i := 1))) (gt_name (i := 4)) (gss_one (gs_set (i := 3) (m := .sh) (ge_bltF b_max2 T.z_max (by decide +kernel) (gv_cons (ge_var (i := 3)) (gv_cons (ge_ix (ge_var (i := 4)) (ge_int)) (gv_nil)))))))
 (gss_cons (gs_set (i := 5) (m := (.el .sh)) (ge_rep (ge_lst (m := .sh) (go_cons (ge_bl) (go_nil))) (ge_add (ge_var (i := 0)) (ge_var (i := 3)))))
 (gss_cons (gs_for (gi_lst (ge_var (i := 1))) (gt_name (i := 4)) (gss_cons (gs_set (i := 6) (m := .sh) (ge_int))
 (gss_cons (gs_for (gi_rg1 T.z_range (ge_var (i := 0))) (gt_name (i := 7)) (gss_one (gs_if (gb_cmp cm_eq (ge_mod (ge_tyF b_int T.z_int (by decide +kernel) (gv_cons (ge_add (ge_var (i := 2)) (ge_var (i := 7))) (gv_nil))) (ge_var (i := 0))) (ge_ix (ge_var (i := 4)) (ge_int))) (gss_one (gs_set (i := 6) (m := .sh) (ge_var (i := 7)))) (gss_nil))))
 (gss_one (gs_for (gi_rg1 T.z_range (ge_ix (ge_var (i := 4)) (ge_int))) (gt_name (i := 7)) (gss_one (gs_ixSet (i := 5) (m := .sh) (ge_bl) (ge_add (ge_var (i := 6)) (ge_var (i := 7))))))))))
 (gss_one (gs_ret (ge_lc (own := [("_law_k", 7)]) (m := .sh) (gi_rg1 T.z_range (ge_bltF b_len T.z_len (by decide +kernel) (gv_cons (ge_var (i := 5)) (gv_nil)))) (fun _ => blkOk_by (by kernel_rfl)) (gt_name (i := 7)) (gtt_one (gb_tru (ge_ixP (ge_var (i := 5)) (ge_var (i := 7))))) (ge_mod (ge_tyF b_int T.z_int (by decide +kernel) (gv_cons (ge_add (ge_var (i := 2)) (ge_var (i := 7))) (gv_nil))) (ge_var (i := 0)))))))))))
    (main_l_laid_beats), T.gl_l_laid_beats, F.kp, hb, .nil, rfl⟩⟩
theorem ok_l_ring (T : Tx P K mg) : DfK P w K mg base "_law_ring" 4 .sh (P_l_ring (He.ga K "Ring")) [] := by
  obtain ⟨fd, F⟩ := T.fn_l_ring
  have hb := F.bindsN (ps := ["_law_prices_here", "_law_gates_here", "_law_digit"]) fun _ _ _ _ _ _ us hl => match us, hl with | [_, _, _], _ => rfl
  exact ⟨⟨_, fd, _, _, _, okG (k := 3) (ms' := []) (p := B_l_ring (He.ga K "Ring")) F sc_l_ring (by rintro _ _ _ ⟨_, _, rfl, _⟩; rfl) (by decide) (fun cdv A outer s H E hr => show GSs _ _ [.ow .sh, .ow .sh, .ow .sh, .ow .sh] _ _ _ from
    (gss_cons (gs_if (gb_cmp cm_eq (ge_mod (ge_tyF b_int T.z_int (by decide +kernel) (gv_cons (ge_var (i := 2)) (gv_nil))) (ge_int)) (ge_int)) (gss_one (gs_ret (ge_make (IdK.at (ok_Ring_init T)) (go_cons (ge_tyN b_list T.z_list (by decide +kernel) (go_cons (ge_var (i := 0)) (go_nil))) (go_cons (ge_tyN b_list T.z_list (by decide +kernel) (go_cons (ge_var (i := 1)) (go_nil))) (go_nil)))))) (gss_nil))
 (gss_one (gs_ret (ge_makeK (IdK.atK (ok_Ring_init T) (by decide)) (go_cons (ge_tyN b_list T.z_list (by decide +kernel) (go_cons (ge_var (i := 0)) (go_nil))) (go_cons (ge_tyN b_list T.z_list (by decide +kernel) (go_cons (ge_var (i := 1)) (go_nil))) (go_nil))) (gk_cons (ge_revL (ge_lc (own := [("_law_place", 3)]) (m := .sh) (gi_rg1 T.z_range (ge_bltF b_len T.z_len (by decide +kernel) (gv_cons (ge_var (i := 0)) (gv_nil)))) (fun _ => blkOk_by (by kernel_rfl)) (gt_name (i := 3)) (gtt_nil) (ge_add (ge_mul (ge_int) (ge_var (i := 3))) (ge_int)))) (gk_nil)))))))
    (main_l_ring (He.ga K "Ring")), T.gl_l_ring, F.kp, hb, .nil, rfl⟩⟩
theorem ok_l_right (T : Tx P K mg) : DfK P w K mg base "_law_right" 5 .sh (P_l_right (He.ga K "Ring") (He.ga K "BadStay")) [] := by
  obtain ⟨fd, F⟩ := T.fn_l_right
  have hb := F.bindsN (ps := ["_law_ring_here", "_law_prices_here", "_law_stays", "_law_start"]) fun _ _ _ _ _ _ us hl => match us, hl with | [_, _, _, _], _ => rfl
  exact ⟨⟨_, fd, _, _, _, okG (k := 4) (ms' := []) (p := B_l_right (He.ga K "Ring") (He.ga K "BadStay")) F sc_l_right (by rintro _ _ _ ⟨_, _, _, rfl, _⟩; rfl) (by decide) (fun cdv A outer s H E hr => show GSs _ _ [.ow .sh, .ow .sh, .ow .sh, .ow .sh, .ow .sh, .ow .sh, .ow .sh, .ow .sh, .ow .sh, .ow .sh, .ow .sh, .ow .sh] _ _ _ from
    (gss_cons (gs_set (i := 4) (m := (.el .sh)) (ge_call (DfK.at (ok_l_laid_beats T)) (go_cons (ge_bltF b_len T.z_len (by decide +kernel) (gv_cons (ge_var (i := 1)) (gv_nil))) (go_cons (ge_var (i := 2)) (go_cons (ge_var (i := 3)) (go_nil))))))
 (gss_cons (gs_set (i := 5) (m := (.el .sh)) (ge_tyN b_list T.z_list (by decide +kernel) (go_cons (ge_var (i := 2)) (go_nil))))
 (gss_cons (gs_set (i := 6) (m := .sh) (ge_callV (DfR.at (ok_union_price T)) (gv_cons (ge_var (i := 0)) (gv_cons (ge_var (i := 5)) (gv_cons (ge_var (i := 3)) (gv_nil))))))
 (gss_cons (gs_set (i := 7) (m := (.el .sh)) (ge_callV (DfR.at (ok_union_beats T)) (gv_cons (ge_var (i := 0)) (gv_cons (ge_var (i := 5)) (gv_cons (ge_var (i := 3)) (gv_nil))))))
 (gss_cons (gs_if (GW.gb (gw_or (gb_cmp cm_ne (ge_var (i := 5)) (ge_var (i := 2))) (gw_or (gb_not (gb_tru (ge_call (DfK.at (ok_l_is_int T)) (go_cons (ge_var (i := 6)) (go_nil))))) (gw_or1 (gb_not (gb_tru (ge_callV (DfK.at (ok_l_ints T)) (gv_cons (ge_var (i := 7)) (gv_nil))))))))) (gss_one (gs_ret (ge_bl))) (gss_nil))
 (gss_fz (.fz (i := 4) rfl .refl) (gss_cons (gs_if (GW.gb (gw_or (gb_cmp cm_ne (ge_var (i := 6)) (ge_bltF b_sum T.z_sum (by decide +kernel) (gv_cons (ge_lc (own := [("_law_place", 11)]) (m := .sh) (gi_lst (ge_var (i := 4))) (fun _ => blkOk_by (by kernel_rfl)) (gt_name (i := 11)) (gtt_nil) (ge_ix (ge_var (i := 1)) (ge_var (i := 11)))) (gv_nil)))) (gw_or1 (gb_cmp cm_ne (ge_var (i := 7)) (ge_var (i := 4)))))) (gss_one (gs_ret (ge_bl))) (gss_nil))
 (gss_cons (gs_for (gi_lst (ge_var (i := 2))) (gt_name (i := 8)) (gss_wk (gss_cons (gs_setLc (i := 9) (own := [("_law_k", 10)]) (m := .sh) (gi_rg1 T.z_range (ge_ix (ge_var (i := 8)) (ge_int))) (fun _ => blkOk_by (by kernel_rfl)) (gt_name (i := 10)) (gtt_nil) (ge_mod (ge_tyF b_int T.z_int (by decide +kernel) (gv_cons (ge_add (ge_ix (ge_var (i := 8)) (ge_int)) (ge_var (i := 10))) (gv_nil))) (ge_bltF b_len T.z_len (by decide +kernel) (gv_cons (ge_var (i := 1)) (gv_nil)))))
 (gss_one (gs_if (gb_cmp cm_ne (ge_callV (DfK.at (ok_l_prefix T)) (gv_cons (ge_var (i := 9)) (gv_cons (ge_var (i := 7)) (gv_nil)))) (ge_bltF b_len T.z_len (by decide +kernel) (gv_cons (ge_var (i := 9)) (gv_nil)))) (gss_one (gs_ret (ge_bl))) (gss_nil)))) (.fz (i := 9) rfl .refl)))
 (gss_cons (gs_app (i := 7) (m := .sh) (ge_int))
 (gss_cons (gs_app (i := 5) (m := .sh) (ge_tup (m := .sh) (go_cons (ge_int) (go_cons (ge_int) (go_nil)))))
 (gss_one (gs_retF (ge_and (ge_cmp cm_eq (ge_call (DfR.at (ok_union_beats T)) (go_cons (ge_var (i := 0)) (go_cons (ge_tyN b_list T.z_list (by decide +kernel) (go_cons (ge_var (i := 2)) (go_nil))) (go_cons (ge_var (i := 3)) (go_nil))))) (ge_var (i := 4))) (ge_one (ge_cmp cm_eq (ge_call (DfR.at (ok_union_price T)) (go_cons (ge_var (i := 0)) (go_cons (ge_tyN b_list T.z_list (by decide +kernel) (go_cons (ge_var (i := 2)) (go_nil))) (go_cons (ge_var (i := 3)) (go_nil))))) (ge_var (i := 6))))))))))))))))))
    (main_l_right (He.ga K "Ring") (He.ga K "BadStay")), T.gl_l_right, F.kp, hb, .nil, rfl⟩⟩
theorem ok_l_bad (T : Tx P K mg) : DfK P w K mg base "_law_bad" 1 .sh (P_l_bad) [] := by
  obtain ⟨fd, F⟩ := T.fn_l_bad
  have hb := F.bindsN (ps := ["_law_row", "_law_gates_here", "_law_size"]) fun _ _ _ _ _ _ us hl => match us, hl with | [_, _, _], _ => rfl
  exact ⟨⟨_, fd, _, _, _, okG (k := 0) (ms' := []) (p := B_l_bad) F sc_l_bad (by rintro _ _ _ ⟨_, _, _, rfl, _⟩; rfl) (by decide) (fun cdv A outer s H E hr => show GSs _ _ [.ow .sh, .ow .sh, .ow .sh, .ow .sh, .ow .sh, .ow .sh, .ow .sh, .ow .sh] _ _ _ from
    (gss_cons (gs_setLc (i := 3) (own := [("_law_place", 7)]) (m := .sh) (gi_rg1 T.z_range (ge_var (i := 2))) (fun _ => blkOk_by (by kernel_rfl)) (gt_name (i := 7)) (gtt_one (gb_cmp cm_notIn (ge_var (i := 7)) (ge_var (i := 1)))) (ge_var (i := 7)))
 (gss_cons (gs_set (i := 4) (m := .sh) (ge_ix (ge_var (i := 1)) (ge_mod (ge_tyF b_int T.z_int (by decide +kernel) (gv_cons (ge_ix (ge_var (i := 0)) (ge_int)) (gv_nil))) (ge_bltF b_len T.z_len (by decide +kernel) (gv_cons (ge_var (i := 1)) (gv_nil))))))
 (gss_cons (gs_set (i := 5) (m := .sh) (ge_add (ge_int) (ge_mod (ge_tyF b_int T.z_int (by decide +kernel) (gv_cons (ge_ix (ge_var (i := 0)) (ge_int)) (gv_nil))) (ge_int))))
 (gss_cons (gs_set (i := 6) (m := .sh) (ge_mod (ge_tyF b_int T.z_int (by decide +kernel) (gv_cons (ge_ix (ge_var (i := 0)) (ge_int)) (gv_nil))) (ge_int)))
 (gss_cons (gs_if (GW.gb (gw_and (gb_cmp cm_eq (ge_var (i := 6)) (ge_int)) (gw_and1 (gb_cmp cm_gt (ge_bltF b_len T.z_len (by decide +kernel) (gv_cons (ge_var (i := 3)) (gv_nil))) (ge_int))))) (gss_one (gs_ret (ge_tup (m := .sh) (go_cons (ge_ixP (ge_var (i := 3)) (ge_mod (ge_tyF b_int T.z_int (by decide +kernel) (gv_cons (ge_ix (ge_var (i := 0)) (ge_int)) (gv_nil))) (ge_bltF b_len T.z_len (by decide +kernel) (gv_cons (ge_var (i := 3)) (gv_nil))))) (go_cons (ge_var (i := 5)) (go_nil)))))) (gss_nil))
 (gss_cons (gs_if (gb_cmp cm_lt (ge_var (i := 6)) (ge_int)) (gss_one (gs_ret (ge_tup (m := .sh) (go_cons (ge_sub (ge_neg (ge_int)) (ge_mod (ge_tyF b_int T.z_int (by decide +kernel) (gv_cons (ge_ix (ge_var (i := 0)) (ge_int)) (gv_nil))) (ge_var (i := 2)))) (go_cons (ge_var (i := 5)) (go_nil)))))) (gss_nil))
 (gss_cons (gs_if (gb_cmp cm_eq (ge_var (i := 6)) (ge_int)) (gss_one (gs_ret (ge_tup (m := .sh) (go_cons (ge_add (ge_var (i := 2)) (ge_mod (ge_tyF b_int T.z_int (by decide +kernel) (gv_cons (ge_ix (ge_var (i := 0)) (ge_int)) (gv_nil))) (ge_var (i := 2)))) (go_cons (ge_var (i := 5)) (go_nil)))))) (gss_nil))
 (gss_cons (gs_if (gb_cmp cm_eq (ge_var (i := 6)) (ge_int)) (gss_one (gs_ret (ge_tup (m := .sh) (go_cons (ge_var (i := 4)) (go_cons (ge_int) (go_nil)))))) (gss_nil))
 (gss_cons (gs_if (gb_cmp cm_eq (ge_var (i := 6)) (ge_int)) (gss_one (gs_ret (ge_tup (m := .sh) (go_cons (ge_var (i := 4)) (go_cons (ge_sub (ge_int) (ge_var (i := 5))) (go_nil)))))) (gss_nil))
 (gss_one (gs_ret (ge_tup (m := .sh) (go_cons (ge_var (i := 2)) (go_cons (ge_int) (go_nil))))))))))))))))
    (main_l_bad), T.gl_l_bad, F.kp, hb, .nil, rfl⟩⟩
theorem ok_l_first_bad (T : Tx P K mg) : DfK P w K mg base "_law_first_bad" 1 .sh (P_l_first_bad) [] := by
  obtain ⟨fd, F⟩ := T.fn_l_first_bad
  have hb := F.bindsN (ps := ["_law_gates_here", "_law_stays"]) fun _ _ _ _ _ _ us hl => match us, hl with | [_, _], _ => rfl
  exact ⟨⟨_, fd, _, _, _, okG (k := 0) (ms' := []) (p := B_l_first_bad) F sc_l_first_bad (by rintro _ _ _ ⟨_, _, rfl, _⟩; rfl) (by decide) (fun cdv A outer s H E hr => show GSs _ _ [.ow .sh, .ow .sh, .ow .sh] _ _ _ from
    (gss_cons (gs_for (gi_rg1 T.z_range (ge_bltF b_len T.z_len (by decide +kernel) (gv_cons (ge_var (i := 1)) (gv_nil)))) (gt_name (i := 2)) (gss_one (gs_if (GW.gb (gw_or (gb_cmp cm_notIn (ge_ix (ge_ix (ge_var (i := 1)) (ge_var (i := 2))) (ge_int)) (ge_var (i := 0))) (gw_or1 (gb_cmp cm_lt (ge_ix (ge_ix (ge_var (i := 1)) (ge_var (i := 2))) (ge_int)) (ge_int))))) (gss_one (gs_ret (ge_var (i := 2)))) (gss_nil))))
 (gss_one (gs_ret (ge_neg (ge_int))))))
    (main_l_first_bad), T.gl_l_first_bad, F.kp, hb, .nil, rfl⟩⟩
theorem ok_l_told_place (T : Tx P K mg) : DfK P w K mg base "_law_told_place" 5 .sh (P_l_told_place (He.ga K "Ring") (He.ga K "BadStay")) [] := by
  obtain ⟨fd, F⟩ := T.fn_l_told_place
  have hb := F.bindsN (ps := ["_law_ring_here", "_law_stays", "_law_start", "_law_which"]) fun _ _ _ _ _ _ us hl => match us, hl with | [_, _, _, _], _ => rfl
  exact ⟨⟨_, fd, _, _, _, okG (k := 4) (ms' := []) (p := B_l_told_place K) F sc_l_told_place (by rintro _ _ _ ⟨_, _, _, _, rfl, _⟩; rfl) (by decide) (fun cdv A outer s H E hr => show GSs _ _ [.ow .sh, .ow .sh, .ow .sh, .ow .sh, .ow .sh] _ _ _ from
    (gss_cons (gs_try (ms2 := []) (i := 4) (rmsB := [.ow .sh, .ow .sh, .ow .sh, .ow .sh, .un]) (c := .ref (He.ga K "ForeworthError")) (fun W Exb => (gss_one (gs_if (gb_cmp cm_eq (ge_var (i := 3)) (ge_int)) (gss_one (gs_expr (ge_call (DfR.at (ok_union_price T)) (go_cons (ge_var (i := 0)) (go_cons (ge_var (i := 1)) (go_cons (ge_var (i := 2)) (go_nil))))))) (gss_one (gs_if (gb_cmp cm_eq (ge_var (i := 3)) (ge_int)) (gss_one (gs_expr (ge_call (DfR.at (ok_union_beats T)) (go_cons (ge_var (i := 0)) (go_cons (ge_var (i := 1)) (go_cons (ge_var (i := 2)) (go_nil))))))) (gss_one (gs_expr (ge_call (DfR.at (ok_least_laying T)) (go_cons (ge_var (i := 0)) (go_cons (ge_var (i := 1)) (go_nil))))))))))) (fun ea cls ed => (gss_cons (gs_if (GW.gb (gw_or (gb_not (gb_tru (ge_isX (gv_cons (ge_var (i := 4)) (gv_cons (ge_cref T.c_BadStay) (gv_nil))) T.z_isinstance))) (gw_or (gb_not (gb_tru (ge_isX (gv_cons (ge_var (i := 4)) (gv_cons (ge_ty (T := "ValueError") T.z_ValueError (by decide +kernel)) (gv_nil))) T.z_isinstance))) (gw_or1 (gb_not (gb_tru (ge_callW (okw_l_is_int T) (go_cons (ge_xf (f := "place") (ge_var (i := 4))) (go_nil))))))))) (gss_one (gs_ret (ge_neg (ge_int)))) (gss_nil))
 (gss_cons (gs_if (gb_tru (ge_isX (gv_cons (ge_var (i := 4)) (gv_cons (ge_tup (m := .sh) (go_cons (ge_cref T.c_BadChange) (go_cons (ge_cref T.c_BadDoors) (go_cons (ge_cref T.c_BadNode) (go_cons (ge_cref T.c_BadOrder) (go_cons (ge_cref T.c_BadRing) (go_cons (ge_cref T.c_BadRun) (go_cons (ge_cref T.c_BadStart) (go_cons (ge_cref T.c_BadWord) (go_cons (ge_cref T.c_BareLoop) (go_cons (ge_cref T.c_DeskError) (go_nil)))))))))))) (gv_nil))) T.z_isinstance)) (gss_one (gs_ret (ge_neg (ge_int)))) (gss_nil))
 (gss_cons (gs_if (gb_tru (ge_isX (gv_cons (ge_var (i := 4)) (gv_cons (ge_tup (m := .sh) (go_cons (ge_cref T.c_Incomplete) (go_cons (ge_cref T.c_MixedGraphs) (go_cons (ge_cref T.c_NoEnd) (go_cons (ge_cref T.c_NotOver) (go_cons (ge_cref T.c_NotStanding) (go_cons (ge_cref T.c_NoWild) (go_cons (ge_cref T.c_TextError) (go_cons (ge_cref T.c_TooLarge) (go_cons (ge_cref T.c_Unreachable) (go_cons (ge_cref T.c_WildProgram) (go_nil)))))))))))) (gv_nil))) T.z_isinstance)) (gss_one (gs_ret (ge_neg (ge_int)))) (gss_nil))
 (gss_one (gs_ret (ge_xf (f := "place") (ge_var (i := 4))))))))) (by repeat (first | exact SubS.nil | refine SubS.drop ?_ | refine SubS.same ?_)) (by repeat (first | exact SubS.nil | refine SubS.drop ?_ | refine SubS.same ?_)) (hc := fun _ => ⟨rfl, by decide, .inl T.c_ForeworthError⟩))
 (gss_one (gs_ret (ge_neg (ge_int))))))
    (main_l_told_place T), T.gl_l_told_place, F.kp, hb, .nil, rfl⟩⟩
theorem ok_law (T : Tx P K mg) {fd : FuncData} (F : FunD K "law" "law" (defArgs st_law) (defBody st_law) (defScope st_law) [] [] (He.fAd K ("law", none)) fd) : FnOk P w K mg base CX0 6 (He.fAd K ("law", none)) fd ["_law_script"] (spG K .sh (P_law (He.ga K "Ring") (He.ga K "BadStay"))) :=
  okG (k := 5) (ms' := []) (p := B_law (He.ga K "Ring") (He.ga K "BadStay")) F sc_law (by rintro _ _ _ ⟨_, rfl, _⟩; rfl) (by decide) (fun cdv A outer s H E hr => show GSs _ _ [.ow .sh, .ow .sh, .ow .sh, .ow .sh, .ow .sh, .ow .sh, .ow .sh, .ow .sh, .ow .sh, .ow .sh, .ow .sh, .ow .sh, .ow .sh, .ow .sh, .ow .sh, .ow .sh] _ _ _ from
    (gss_cons (gs_set (i := 1) (m := (.el .sh)) (ge_call (DfK.at (ok_l_digits T)) (go_cons (ge_call (DfK.at (ok_l_seed T)) (go_cons (ge_var (i := 0)) (go_cons (ge_int) (go_nil)))) (go_cons (ge_int) (go_cons (ge_int) (go_nil))))))
 (gss_cons (gs_set (i := 2) (m := .sh) (ge_add (ge_int) (ge_mod (ge_tyF b_int T.z_int (by decide +kernel) (gv_cons (ge_ixP (ge_var (i := 1)) (ge_int)) (gv_nil))) (ge_int))))
 (gss_cons (gs_if (gb_cmp cm_eq (ge_mod (ge_tyF b_int T.z_int (by decide +kernel) (gv_cons (ge_ixP (ge_var (i := 1)) (ge_int)) (gv_nil))) (ge_int)) (ge_int)) (gss_one (gs_set (i := 2) (m := .sh) (ge_add (ge_int) (ge_mod (ge_tyF b_int T.z_int (by decide +kernel) (gv_cons (ge_div (ge_ixP (ge_var (i := 1)) (ge_int)) (ge_int)) (gv_nil))) (ge_int))))) (gss_nil))
 (gss_cons (gs_set (i := 3) (m := (.el .sh)) (ge_call (DfK.at (ok_l_prices T)) (go_cons (ge_call (DfK.at (ok_l_seed T)) (go_cons (ge_var (i := 0)) (go_cons (ge_int) (go_nil)))) (go_cons (ge_var (i := 2)) (go_cons (ge_mod (ge_tyF b_int T.z_int (by decide +kernel) (gv_cons (ge_ixP (ge_var (i := 1)) (ge_int)) (gv_nil))) (ge_int)) (go_nil))))))
 (gss_cons (gs_set (i := 4) (m := (.el .sh)) (ge_call (DfK.at (ok_l_gates T)) (go_cons (ge_call (DfK.at (ok_l_seed T)) (go_cons (ge_var (i := 0)) (go_cons (ge_int) (go_nil)))) (go_cons (ge_var (i := 2)) (go_nil)))))
 (gss_cons (gs_set (i := 5) (m := .sh) (ge_int))
 (gss_cons (gs_if (gb_cmp cm_eq (ge_mod (ge_tyF b_int T.z_int (by decide +kernel) (gv_cons (ge_ixP (ge_var (i := 1)) (ge_int)) (gv_nil))) (ge_int)) (ge_int)) (gss_one (gs_set (i := 5) (m := .sh) (ge_int))) (gss_nil))
 (gss_fz (.fz (i := 4) rfl .refl) (gss_cons (gs_set (i := 6) (m := (.el .sh)) (ge_call (DfK.at (ok_l_drawn T)) (go_cons (ge_call (DfK.at (ok_l_seed T)) (go_cons (ge_var (i := 0)) (go_cons (ge_int) (go_nil)))) (go_cons (ge_var (i := 4)) (go_cons (ge_mod (ge_tyF b_int T.z_int (by decide +kernel) (gv_cons (ge_ixP (ge_var (i := 1)) (ge_int)) (gv_nil))) (ge_int)) (go_cons (ge_var (i := 5)) (go_nil)))))))
 (gss_cons (gs_set (i := 7) (m := (.el .sh)) (ge_call (DfK.at (ok_l_drawn T)) (go_cons (ge_call (DfK.at (ok_l_seed T)) (go_cons (ge_var (i := 0)) (go_cons (ge_int) (go_nil)))) (go_cons (ge_var (i := 4)) (go_cons (ge_mod (ge_tyF b_int T.z_int (by decide +kernel) (gv_cons (ge_ixP (ge_var (i := 1)) (ge_int)) (gv_nil))) (ge_int)) (go_cons (ge_int) (go_nil)))))))
 (gss_cons (gs_set (i := 8) (m := .sh) (ge_mod (ge_tyF b_int T.z_int (by decide +kernel) (gv_cons (ge_ixP (ge_var (i := 1)) (ge_int)) (gv_nil))) (ge_var (i := 2))))
 (gss_fz (.fz (i := 3) rfl .refl) (gss_cons (gs_set (i := 9) (m := .sh) (ge_call (DfK.at (ok_l_ring T)) (go_cons (ge_var (i := 3)) (go_cons (ge_var (i := 4)) (go_cons (ge_ixP (ge_var (i := 1)) (ge_int)) (go_nil))))))
 (gss_fz (.fz (i := 6) rfl .refl) (gss_cons (gs_if (gb_not (gb_tru (ge_call (DfK.at (ok_l_right T)) (go_cons (ge_var (i := 9)) (go_cons (ge_var (i := 3)) (go_cons (ge_var (i := 6)) (go_cons (ge_var (i := 8)) (go_nil)))))))) (gss_one (gs_ret (ge_bl))) (gss_nil))
 (gss_fz (.fz (i := 7) rfl .refl) (gss_cons (gs_if (gb_not (gb_tru (ge_call (DfK.at (ok_l_right T)) (go_cons (ge_var (i := 9)) (go_cons (ge_var (i := 3)) (go_cons (ge_var (i := 7)) (go_cons (ge_mod (ge_tyF b_int T.z_int (by decide +kernel) (gv_cons (ge_ixP (ge_var (i := 1)) (ge_int)) (gv_nil))) (ge_var (i := 2))) (go_nil)))))))) (gss_one (gs_ret (ge_bl))) (gss_nil))
 (gss_cons (gs_set (i := 10) (m := (.el .sh)) (ge_tyN b_list T.z_list (by decide +kernel) (go_cons (ge_var (i := 6)) (go_nil))))
 (gss_cons (gs_for (gi_rg1 T.z_range (ge_add (ge_int) (ge_mod (ge_tyF b_int T.z_int (by decide +kernel) (gv_cons (ge_ixP (ge_var (i := 1)) (ge_int)) (gv_nil))) (ge_int)))) (gt_name (i := 11)) (gss_cons (gs_set (i := 14) (m := (.el .sh)) (ge_call (DfK.at (ok_l_digits T)) (go_cons (ge_call (DfK.at (ok_l_seed T)) (go_cons (ge_var (i := 0)) (go_cons (ge_add (ge_int) (ge_var (i := 11))) (go_nil)))) (go_cons (ge_int) (go_cons (ge_int) (go_nil))))))
 (gss_fz (.fz (i := 14) rfl .refl) (gss_one (gs_ins (i := 10) (go_cons (ge_mod (ge_tyF b_int T.z_int (by decide +kernel) (gv_cons (ge_ix (ge_var (i := 14)) (ge_int)) (gv_nil))) (ge_add (ge_bltF b_len T.z_len (by decide +kernel) (gv_cons (ge_var (i := 10)) (gv_nil))) (ge_int))) (go_cons (ge_call (DfK.at (ok_l_bad T)) (go_cons (ge_var (i := 14)) (go_cons (ge_var (i := 4)) (go_cons (ge_var (i := 2)) (go_nil))))) (go_nil))))))))
 (gss_fz (.fz (i := 10) rfl .refl) (gss_cons (gs_set (i := 12) (m := .sh) (ge_call (DfK.at (ok_l_first_bad T)) (go_cons (ge_var (i := 4)) (go_cons (ge_var (i := 10)) (go_nil)))))
 (gss_cons (gs_for (gi_rg1 T.z_range (ge_int)) (gt_name (i := 13)) (gss_cons (gs_set (i := 15) (m := (.el .sh)) (ge_tyN b_list T.z_list (by decide +kernel) (go_cons (ge_var (i := 10)) (go_nil))))
 (gss_fz (.fz (i := 15) rfl .refl) (gss_cons (gs_if (GW.gb (gw_or (gb_cmp cm_ne (ge_call (DfK.at (ok_l_told_place T)) (go_cons (ge_var (i := 9)) (go_cons (ge_var (i := 15)) (go_cons (ge_var (i := 8)) (go_cons (ge_var (i := 13)) (go_nil)))))) (ge_var (i := 12))) (gw_or1 (gb_cmp cm_ne (ge_var (i := 15)) (ge_var (i := 10)))))) (gss_one (gs_ret (ge_bl))) (gss_nil))
 (gss_one (gs_if (gb_cmp cm_ne (ge_call (DfK.at (ok_l_told_place T)) (go_cons (ge_var (i := 9)) (go_cons (ge_tyN b_list T.z_list (by decide +kernel) (go_cons (ge_var (i := 6)) (go_nil))) (go_cons (ge_var (i := 8)) (go_cons (ge_var (i := 13)) (go_nil)))))) (ge_neg (ge_int))) (gss_one (gs_ret (ge_bl))) (gss_nil)))))))
 (gss_one (gs_ret (ge_call (DfK.at (ok_l_right T)) (go_cons (ge_var (i := 9)) (go_cons (ge_var (i := 3)) (go_cons (ge_var (i := 6)) (go_cons (ge_var (i := 8)) (go_nil)))))))))))))))))))))))))))))))
    (main_law (He.ga K "Ring") (He.ga K "BadStay"))
end
theorem tx_of {P : Program} (hpf : P.main.file = file) (hpt : (P.main.scope.names.lookup ("super" : Str)).isSome = false) {K : PySem.W.Frag} {h : Heap} {mg : Str → Option Value} (X : K.In h) (G : h.Ns mainGlobals mg) (c : SaysR file faA fn esL exB K) : Tx P K mg := by
  have c0 : exB K = true := c.more
  unfold exB at c0
  obtain ⟨ee0, c0⟩ := He.ba c0
  obtain ⟨ee1, c0⟩ := He.ba c0
  obtain ⟨ee2, c0⟩ := He.ba c0
  obtain ⟨ee3, c0⟩ := He.ba c0
  obtain ⟨ee4, c0⟩ := He.ba c0
  obtain ⟨ee5, c0⟩ := He.ba c0
  obtain ⟨ee6, c0⟩ := He.ba c0
  obtain ⟨ee7, c0⟩ := He.ba c0
  obtain ⟨ee8, c0⟩ := He.ba c0
  obtain ⟨ee9, c0⟩ := He.ba c0
  obtain ⟨ee10, c0⟩ := He.ba c0
  obtain ⟨ee11, c0⟩ := He.ba c0
  obtain ⟨ee12, c0⟩ := He.ba c0
  obtain ⟨ee13, c0⟩ := He.ba c0
  obtain ⟨ee14, c0⟩ := He.ba c0
  obtain ⟨ee15, c0⟩ := He.ba c0
  obtain ⟨ee16, c0⟩ := He.ba c0
  obtain ⟨ee17, c0⟩ := He.ba c0
  obtain ⟨ee18, c0⟩ := He.ba c0
  obtain ⟨ee19, c0⟩ := He.ba c0
  obtain ⟨ee20, c0⟩ := He.ba c0
  obtain ⟨ee21, c0⟩ := He.ba c0
  obtain ⟨ee22, c0⟩ := He.ba c0
  obtain ⟨ee23, c0⟩ := He.ba c0
  obtain ⟨ee24, c0⟩ := He.ba c0
  exact {
    pf := hpf
    pt := hpt
    c_BadChange := He.glo_ok X G (c.fact 0 (f := .glo "BadChange") rfl)
    c_BadDoors := He.glo_ok X G (c.fact 1 (f := .glo "BadDoors") rfl)
    c_BadNode := He.glo_ok X G (c.fact 2 (f := .glo "BadNode") rfl)
    c_BadOrder := He.glo_ok X G (c.fact 3 (f := .glo "BadOrder") rfl)
    c_BadRing := He.glo_ok X G (c.fact 4 (f := .glo "BadRing") rfl)
    c_BadRun := He.glo_ok X G (c.fact 5 (f := .glo "BadRun") rfl)
    c_BadStart := He.glo_ok X G (c.fact 6 (f := .glo "BadStart") rfl)
    c_BadStay := He.glo_ok X G (c.fact 7 (f := .glo "BadStay") rfl)
    c_BadWord := He.glo_ok X G (c.fact 8 (f := .glo "BadWord") rfl)
    c_BareLoop := He.glo_ok X G (c.fact 9 (f := .glo "BareLoop") rfl)
    c_DeskError := He.glo_ok X G (c.fact 10 (f := .glo "DeskError") rfl)
    c_ForeworthError := He.glo_ok X G (c.fact 11 (f := .glo "ForeworthError") rfl)
    c_Incomplete := He.glo_ok X G (c.fact 12 (f := .glo "Incomplete") rfl)
    c_MixedGraphs := He.glo_ok X G (c.fact 13 (f := .glo "MixedGraphs") rfl)
    c_NoEnd := He.glo_ok X G (c.fact 14 (f := .glo "NoEnd") rfl)
    c_NoWild := He.glo_ok X G (c.fact 15 (f := .glo "NoWild") rfl)
    c_NotOver := He.glo_ok X G (c.fact 16 (f := .glo "NotOver") rfl)
    c_NotStanding := He.glo_ok X G (c.fact 17 (f := .glo "NotStanding") rfl)
    c_TextError := He.glo_ok X G (c.fact 18 (f := .glo "TextError") rfl)
    c_TooLarge := He.glo_ok X G (c.fact 19 (f := .glo "TooLarge") rfl)
    c_Unreachable := He.glo_ok X G (c.fact 20 (f := .glo "Unreachable") rfl)
    c_WildProgram := He.glo_ok X G (c.fact 21 (f := .glo "WildProgram") rfl)
    ei_BadStay := c.err 0 (d := e_BadStay) rfl
    er_BadStay := errB_ok ee0
    no_BadStay := of_decide_eq_true ee1
    is_BadStay_BadChange := of_decide_eq_true ee2
    is_BadStay_BadDoors := of_decide_eq_true ee3
    is_BadStay_BadNode := of_decide_eq_true ee4
    is_BadStay_BadOrder := of_decide_eq_true ee5
    is_BadStay_BadRing := of_decide_eq_true ee6
    is_BadStay_BadRun := of_decide_eq_true ee7
    is_BadStay_BadStart := of_decide_eq_true ee8
    is_BadStay_BadStay := of_decide_eq_true ee9
    is_BadStay_BadWord := of_decide_eq_true ee10
    is_BadStay_BareLoop := of_decide_eq_true ee11
    is_BadStay_DeskError := of_decide_eq_true ee12
    is_BadStay_Incomplete := of_decide_eq_true ee13
    is_BadStay_MixedGraphs := of_decide_eq_true ee14
    is_BadStay_NoEnd := of_decide_eq_true ee15
    is_BadStay_NoWild := of_decide_eq_true ee16
    is_BadStay_NotOver := of_decide_eq_true ee17
    is_BadStay_NotStanding := of_decide_eq_true ee18
    is_BadStay_TextError := of_decide_eq_true ee19
    is_BadStay_TooLarge := of_decide_eq_true ee20
    is_BadStay_Unreachable := of_decide_eq_true ee21
    is_BadStay_ValueError := of_decide_eq_true ee22
    is_BadStay_WildProgram := of_decide_eq_true ee23
    ex_BadStay_ForeworthError := of_decide_eq_true ee24
    z_ValueError := He.free_ok X G (c.fact 22 (f := .free "ValueError") rfl)
    z_abs := He.free_ok X G (c.fact 23 (f := .free "abs") rfl)
    z_bool := He.free_ok X G (c.fact 24 (f := .free "bool") rfl)
    z_enumerate := He.free_ok X G (c.fact 25 (f := .free "enumerate") rfl)
    z_int := He.free_ok X G (c.fact 26 (f := .free "int") rfl)
    z_isinstance := He.free_ok X G (c.fact 27 (f := .free "isinstance") rfl)
    z_len := He.free_ok X G (c.fact 28 (f := .free "len") rfl)
    z_list := He.free_ok X G (c.fact 29 (f := .free "list") rfl)
    z_max := He.free_ok X G (c.fact 30 (f := .free "max") rfl)
    z_min := He.free_ok X G (c.fact 31 (f := .free "min") rfl)
    z_range := He.free_ok X G (c.fact 32 (f := .free "range") rfl)
    z_set := He.free_ok X G (c.fact 33 (f := .free "set") rfl)
    z_sorted := He.free_ok X G (c.fact 34 (f := .free "sorted") rfl)
    z_sum := He.free_ok X G (c.fact 35 (f := .free "sum") rfl)
    z_super := He.free_ok X G (c.fact 36 (f := .free "super") rfl)
    z_tuple := He.free_ok X G (c.fact 37 (f := .free "tuple") rfl)
    c_Ring := He.glo_ok X G (c.fact 38 (f := .glo "Ring") rfl)
    cl_Ring := He.cls_ok (c.fact 39 (f := .cls "Ring") rfl)
    mk_Ring := He.mkr_ok (c.fact 40 (f := .mkr "Ring") rfl)
    na_Ring__sums := He.noat_ok (c.fact 41 (f := .noat "Ring" "_sums") rfl)
    na_Ring_doors := He.noat_ok (c.fact 42 (f := .noat "Ring" "doors") rfl)
    na_Ring_nodes := He.noat_ok (c.fact 43 (f := .noat "Ring" "nodes") rfl)
    na_Ring_prices := He.noat_ok (c.fact 44 (f := .noat "Ring" "prices") rfl)
    na_Ring_size := He.noat_ok (c.fact 45 (f := .noat "Ring" "size") rfl)
    gl_distinct := He.glo_ok X G (c.fact 46 (f := .glo "distinct") rfl)
    gl_check_stays := He.glo_ok X G (c.fact 47 (f := .glo "check_stays") rfl)
    gl_laid := He.glo_ok X G (c.fact 48 (f := .glo "laid") rfl)
    gl_pieces := He.glo_ok X G (c.fact 49 (f := .glo "pieces") rfl)
    gl_sums_of := He.glo_ok X G (c.fact 50 (f := .glo "sums_of") rfl)
    gl_check_ring := He.glo_ok X G (c.fact 51 (f := .glo "check_ring") rfl)
    mt_Ring_whole := He.meth_ok (c.fact 52 (f := .meth "Ring" "whole") rfl)
    gl_piece_price := He.glo_ok X G (c.fact 53 (f := .glo "piece_price") rfl)
    gl_laid_price := He.glo_ok X G (c.fact 54 (f := .glo "laid_price") rfl)
    gl_union_price := He.glo_ok X G (c.fact 55 (f := .glo "union_price") rfl)
    gl_union_beats := He.glo_ok X G (c.fact 56 (f := .glo "union_beats") rfl)
    gl_least_laying := He.glo_ok X G (c.fact 57 (f := .glo "least_laying") rfl)
    gl_l_cell := He.glo_ok X G (c.fact 58 (f := .glo "_law_cell") rfl)
    gl_l_digits := He.glo_ok X G (c.fact 59 (f := .glo "_law_digits") rfl)
    gl_l_seed := He.glo_ok X G (c.fact 60 (f := .glo "_law_seed") rfl)
    gl_l_prefix := He.glo_ok X G (c.fact 61 (f := .glo "_law_prefix") rfl)
    gl_l_is_int := He.glo_ok X G (c.fact 62 (f := .glo "_law_is_int") rfl)
    gl_l_ints := He.glo_ok X G (c.fact 63 (f := .glo "_law_ints") rfl)
    gl_l_prices := He.glo_ok X G (c.fact 64 (f := .glo "_law_prices") rfl)
    gl_l_gates := He.glo_ok X G (c.fact 65 (f := .glo "_law_gates") rfl)
    gl_l_drawn := He.glo_ok X G (c.fact 66 (f := .glo "_law_drawn") rfl)
    gl_l_laid_beats := He.glo_ok X G (c.fact 67 (f := .glo "_law_laid_beats") rfl)
    gl_l_ring := He.glo_ok X G (c.fact 68 (f := .glo "_law_ring") rfl)
    gl_l_right := He.glo_ok X G (c.fact 69 (f := .glo "_law_right") rfl)
    gl_l_bad := He.glo_ok X G (c.fact 70 (f := .glo "_law_bad") rfl)
    gl_l_first_bad := He.glo_ok X G (c.fact 71 (f := .glo "_law_first_bad") rfl)
    gl_l_told_place := He.glo_ok X G (c.fact 72 (f := .glo "_law_told_place") rfl)
    gl_law := He.glo_ok X G (c.fact 73 (f := .glo "law") rfl)
    fn_distinct := c.def_ 0 (d := d_distinct) rfl
    fn_check_stays := c.def_ 1 (d := d_check_stays) rfl
    fn_laid := c.def_ 2 (d := d_laid) rfl
    fn_pieces := c.def_ 3 (d := d_pieces) rfl
    fn_sums_of := c.def_ 4 (d := d_sums_of) rfl
    fn_check_ring := c.def_ 5 (d := d_check_ring) rfl
    fn_Ring_init := c.def_ 6 (d := d_Ring_init) rfl
    fn_Ring_whole := c.def_ 7 (d := d_Ring_whole) rfl
    fn_piece_price := c.def_ 8 (d := d_piece_price) rfl
    fn_laid_price := c.def_ 9 (d := d_laid_price) rfl
    fn_union_price := c.def_ 10 (d := d_union_price) rfl
    fn_union_beats := c.def_ 11 (d := d_union_beats) rfl
    fn_least_laying := c.def_ 12 (d := d_least_laying) rfl
    fn_l_cell := c.def_ 13 (d := d_l_cell) rfl
    fn_l_digits := c.def_ 14 (d := d_l_digits) rfl
    fn_l_seed := c.def_ 15 (d := d_l_seed) rfl
    fn_l_prefix := c.def_ 16 (d := d_l_prefix) rfl
    fn_l_is_int := c.def_ 17 (d := d_l_is_int) rfl
    fn_l_ints := c.def_ 18 (d := d_l_ints) rfl
    fn_l_prices := c.def_ 19 (d := d_l_prices) rfl
    fn_l_gates := c.def_ 20 (d := d_l_gates) rfl
    fn_l_drawn := c.def_ 21 (d := d_l_drawn) rfl
    fn_l_laid_beats := c.def_ 22 (d := d_l_laid_beats) rfl
    fn_l_ring := c.def_ 23 (d := d_l_ring) rfl
    fn_l_right := c.def_ 24 (d := d_l_right) rfl
    fn_l_bad := c.def_ 25 (d := d_l_bad) rfl
    fn_l_first_bad := c.def_ 26 (d := d_l_first_bad) rfl
    fn_l_told_place := c.def_ 27 (d := d_l_told_place) rfl
    fn_law := c.def_ 28 (d := d_law) rfl
  }
end K16
open PySem PySem.W PySem.Calls PyProof.Rows
theorem PySem.Challenge.cw_foreworth_k16_unions_holds : PySem.Challenge.rw_foreworth_k16_unions.Holds := by
  w_on; o_law
  refine HandSHeadRun.head_any (r := OpenLaw.row PySem.Challenge.rw_foreworth_k16_unions) (q := view (OpenLaw.row PySem.Challenge.rw_foreworth_k16_unions).prog [55]) (H := K16.hk) (ob := K16.ob) (M := 9000) (loose := K16.names) (d := HandSHeadRun.topDef (OpenLaw.row PySem.Challenge.rw_foreworth_k16_unions).prog 55) (kwd := []) K16.ob_eq
    (by kernel_rfl) (fun s => by kernel_rfl) K16.run (by kernel_rfl) (by kernel_rfl) (by kernel_rfl) (by rfl) (by first | assumption | decide +kernel) (by decide +kernel) ⟨rfl, rfl, rfl, rfl, rfl, by decide +kernel⟩ ?hw ?hc
  case hw => w_witness2
  case hc =>
    refine L2.walk_ofE (l := PySem.Challenge.rw_foreworth_k16_unions) (n := 63) (k := 6) (x := "_law_script") (CX := L2.CX0) rfl (by decide) (by kernel_rfl) ⟨rfl, by decide, by decide⟩ ?F (fun _ _ _ _ z => z)
    intro w mg fa h Y Gn hmg0
    obtain ⟨K, KX, c⟩ := Y
    have hmg : mg ("law" : PySem.Str) = some (.ref fa) := by
      have e : (HandSHeadRun.topDef (OpenLaw.row PySem.Challenge.rw_foreworth_k16_unions).prog 55).name = ("law" : PySem.Str) := by kernel_rfl
      rw [← e]
      exact hmg0
    have T := K16.tx_of (P := PySem.W.OpenLaw.prog PySem.Challenge.rw_foreworth_k16_unions) (by kernel_rfl) (by kernel_rfl) KX Gn c
    obtain ⟨fd, F⟩ := T.fn_law
    have e := hmg.symm.trans T.gl_law
    cases e
    have b := L2.FunD.bindsA (ps := ["_law_script"]) F fun _ _ _ _ _ _ us hl => match us, hl with | [_], _ => rfl
    refine ⟨K, fd, G.spG K .sh (K16.P_law (He.ga K "Ring") (He.ga K "BadStay")), KX, fun s v => b s [v] rfl, fun H a ns hl _ hS => ?_, fun base _ _ => K16.ok_law T F⟩
    exact ⟨H, [.scr ns], fun d => d = .bl true, fun _ => False, G.Sub.refl H, ⟨_, _, rfl, ⟨a, rfl, hS⟩, rfl⟩, ⟨ns, rfl, hl, rfl⟩, fun F' H' d v fp g r _ _ q => by
      subst q
      exact (G.RepM.sh.mp r).2, fun _ _ _ _ _ _ _ z => z.elim⟩


