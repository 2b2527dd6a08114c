import PyProof.Rows.All
import Wide.All
import OpenK.AllK
import Wide.FinOn
import HandS.ForMost
import HandS.Defaults
import HandS.Head0
import HandS.Head1
import HandS.Head2
import HandS.HeadEnd
import HandS.HeadHook1
import HandS.HeadHook2
import HandS.HeadHook4
import KE.KSuper
import KE.KExcSuper
import HandS.ExcInit
import HandS.ExcIs
import HandS.ExcField
import OpenK.KOwn
import KE.DatumOrd
import HandS.Zip
import HandS.TupAny
import HandS.Conv
import HandS.DictComp
import HandS.Nested
import HandS.HeadWalk
import HandS.IsInst
import HandS.Style
import HandS.Deep
import KE.SortData
import KE.SortKeyHeap
import KE.GoesEnum
import HandS.Strs
import PyProof.ReprRoads
import HandS.EndTab
import KE.DataMinMax
import PyProof.Claim2Refuses
import KE.KDictDisplayH
import HandS.NoneIn
import HandS.Lambda
import KE.KDictZip
import PyProof.ListNew
import KE.KDictPairs
import HandS.Small
import HandS.WordsExc
import PyProof.ExcBaseAll.ValueError
import PySem.Challenge.RW_bearstacks_k75_whole_what_was_seen
set_option Elab.async false
set_option linter.all false
set_option maxRecDepth 100000
set_option maxHeartbeats 4000000
/-! For the heads: what is asked of the module's heap. -/
namespace Ex
open PySem
def plOne : Obj → Bool
  | ⟨.type c, some _, _, _⟩ => !decide (c = "tuple")
  | _ => true
def plB (K : PySem.W.Frag) : Bool := K.all fun q => plOne q.2
def tup0B (K : PySem.W.Frag) (a : Addr) : Bool := match K.lookup a with
  | some ⟨.type c, _, .seq its _, _⟩ => decide (c = "tuple") && decide (its.size = 0)
  | _ => false
def apart1 (K : PySem.W.Frag) (p : He.Defn) : List He.Defn → Bool
  | [] => true
  | q :: qs => !decide ((He.cT K p).2 = (He.cT K q).2) && apart1 K p qs
def apart (K : PySem.W.Frag) : List He.Defn → Bool
  | [] => true
  | p :: ps => apart1 K p ps && apart K ps
end Ex

set_option Elab.async false
set_option linter.all false
set_option maxRecDepth 100000
set_option maxHeartbeats 2000000
/-! Own exceptions with super().__init__(given): what is looked up, what is observed; the hook. -/
namespace L2
open PySem PySem.Spec PyProof.Rows
def excB (K : PySem.W.Frag) (C : Addr) : Bool := match K.lookup C with
  | some ⟨.type c, _, .cls cd, sl⟩ => decide (c = "type") && (match cd.mro, sl.toList with
    | .ref C' :: bm, [_, _, _, _, some (.builtin n), _] => decide (C' = C) && (decide (n = "ValueError.__new__") && (!cd.hasDel && (cd.hasDict && PySem.HandSPX.refsVE bm)))
    | _, _ => false)
  | _ => false
/-- its __init__ -/
def iAd (K : PySem.W.Frag) (x : Str) : Addr := He.ma K (He.ga K x) "__init__"
def initB (K : PySem.W.Frag) (C fI : Addr) (file : Str) (qual : Str) : Bool := match K.lookup fI with
  | some ⟨_, _, .func fd, _⟩ => (match fd.defaults, fd.code, fd.closure with
    | .none, .ref c, [(n, cc)] => decide (n = ("__class__" : Str)) && (PySem.W.codeIn K (.ref c) qual && ((match K.lookup c with
      | some ⟨_, _, .fields vs, _⟩ => (match (vs[2]? : Option Value) with
        | some (Value.str f _) => (file == f)
        | _ => false)
      | _ => false) && (match K.lookup cc with
      | some ⟨_, _, .cell (some (.ref C')), _⟩ => decide (C' = C)
      | _ => false)))
    | _, _, _ => false)
  | _ => false
abbrev FnC1 : Type := Option (Str × Str × Arguments × FuncBody × Scope × Addr × Addr)
def fnC1 (K : PySem.W.Frag) (x : Str) : FnC1 := match K.lookup (iAd K x) with
  | some ⟨_, _, .func fd, _⟩ => some (fd.name, fd.qualname, fd.params, fd.body, fd.scope, fd.globals, fd.builtins)
  | _ => none
/-- such a class: its name; its __init__'s words -/
structure SupD where
  x : Str
  qual : Str
  params : Arguments
  body : List Stmt
  scope : Scope
def SupD.val (d : SupD) : FnC1 := some ("__init__", d.qual, d.params, .stmts d.body, d.scope, mainGlobals, builtinsNs)
def SupD.ok (K : PySem.W.Frag) (file : Str) (d : SupD) : Bool :=
  excB K (He.ga K d.x) && (decide (PySem.W.findIn K (.ref (He.ga K d.x)) "__setattr__" = some (some (.builtin "object.__setattr__"))) && (decide (PySem.W.subIn K (.ref (He.ga K d.x)) (.type "BaseException") = some true) && (decide (PySem.W.typeIn K (.ref (He.ga K d.x)) = some (.type "type")) && (PySem.W.keepIn K (.ref (He.ga K d.x)) &&
  (decide (PySem.W.findIn K (.ref (He.ga K d.x)) "__init__" = some (some (.ref (iAd K d.x)))) && (decide (PySem.W.typeIn K (.ref (iAd K d.x)) = some (.type "function")) && (initB K (He.ga K d.x) (iAd K d.x) file d.qual && (decide (PySem.W.ks_superIn K (He.ga K d.x) (He.ga K d.x) "__init__" = some (some (.builtin "ValueError.__init__"))) &&
  (decide (PySem.W.subIn K (.ref (He.ga K d.x)) (.type "ValueError") = some true) && (decide (PySem.W.mroIn K (He.ga K d.x) (.ref (He.ga K d.x)) = some true) && (decide (PySem.W.nsIn K cStatics "thirdparty.any" = some none) && decide (PySem.W.findIn K (.ref (He.ga K d.x)) "given" = some none))))))))))))
/-- what isinstance and except ask of the class OB, caught as CS -/
def refB (K : PySem.W.Frag) (CS OB : Addr) : Bool :=
  xfB K OB && (decide (PySem.W.findIn K (.ref OB) "__class__" = some (some (.builtin "object.__class__"))) && (decide (PySem.W.specialIn K (.builtin "object.__class__") "__get__" = some (some (.builtin "getset_descriptor.__get__"))) && (decide (PySem.W.takesIn K (.builtin "object.__class__") = some true) && (decide (PySem.W.mroIn K OB (.type "object") = some true) &&
  (decide (PySem.W.findIn K (.ref OB) "given" = some none) && (decide (PySem.W.exmOne K (.ref OB) (.ref CS) = some true) && (decide (PySem.W.kitOne K (.ref OB) (.ref OB) = some true) && decide (PySem.W.kitOne K (.ref OB) (.type "ValueError") = some true))))))))
/-! ### the hook -/
def asS (g : Addr → Option Obj) (n : Nat) : List Addr := cStatics :: He.asD g n
abbrev AlS : Type := He.AlX × List FnC1
def obsS (n : Nat) (fa : List He.Fa) (fn : List He.DefD) (ts : List He.Tab) (tf : List He.Defn) (ex : PySem.W.Frag → Bool) (sl : List SupD) (g : Addr → Option Obj) : AlS :=
  ((He.obsT fa fn ts (He.frT g (asS g n)), ex (He.frT g (asS g n)) && He.tabsB g tf (He.frT g (asS g n))), sl.map fun d => fnC1 (He.frT g (asS g n)) d.x)
def valS (fn : List He.DefD) (ts : List He.Tab) (sl : List SupD) (w : World) : AlS := (He.valX fn ts w, sl.map SupD.val)
structure SaysS (fa : List He.Fa) (fn : List He.DefD) (ts : List He.Tab) (tf : List He.Defn) (ex : PySem.W.Frag → Bool) (sl : List SupD) (w : World) (h : Heap) (K : PySem.W.Frag) : Prop where
  x : He.SaysX fa fn ts tf ex w h K
  sup : (sl.map fun d => fnC1 K d.x) = sl.map SupD.val
theorem saysX_as {as : List Addr} {fa : List He.Fa} {fn : List He.DefD} {ts : List He.Tab} {tf : List He.Defn} {ex : PySem.W.Frag → Bool} {w : World} {h : Heap} (e : ((He.obsT fa fn ts (He.frT h.get? as), ex (He.frT h.get? as) && He.tabsB h.get? tf (He.frT h.get? as)) : He.AlX) = He.valX fn ts w) : He.SaysX fa fn ts tf ex w h (He.frT h.get? as) := by
  have e1 : He.obsT fa fn ts (He.frT h.get? as) = He.valT fn ts w := congrArg (fun z : He.AlX => z.1) e
  have e2 : (ex (He.frT h.get? as) && He.tabsB h.get? tf (He.frT h.get? as)) = true := congrArg (fun z : He.AlX => z.2) e
  have ba : ∀ {a b : Bool}, (a && b) = true → a = true ∧ b = true := fun {a b} h => by cases a <;> cases b <;> first | exact ⟨rfl, rfl⟩ | cases h
  obtain ⟨h1, h2⟩ := ba e2
  have key : ∀ p ∈ tf, PySem.W.codeHdIn (He.frT h.get? as) (He.cT (He.frT h.get? as) p).1 (He.cT (He.frT h.get? as) p).2 = true ∧ ∃ o, h.get? (He.cT (He.frT h.get? as) p).2 = some o ∧ He.emptyTab o = true := fun p hp => by
    obtain ⟨h3, h4⟩ := ba (List.all_eq_true.mp h2 p hp)
    refine ⟨h3, ?_⟩
    cases q : h.get? (He.cT (He.frT h.get? as) p).2 with
    | none =>
      rw [q] at h4
      cases h4
    | some o =>
      rw [q] at h4
      exact ⟨o, rfl, h4⟩
  exact ⟨e1, h1, fun p hp => (key p hp).1, fun p hp => by
    obtain ⟨_, o, q, z⟩ := key p hp
    exact He.frT_none q z, fun p hp => by
    obtain ⟨_, o, q, z⟩ := key p hp
    rw [q, He.emptyTab_eq z]⟩
def hookS (n : Nat) (fa : List He.Fa) (fn : List He.DefD) (ts : List He.Tab) (tf : List He.Defn) (ex : PySem.W.Frag → Bool) (sl : List SupD) : PySem.W.Hook where
  α := AlS
  obs := fun s => obsS n fa fn ts tf ex sl s.heap.get?
  val := fun w => valS fn ts sl w
  says := fun w h => ∃ K : PySem.W.Frag, K.In h ∧ SaysS fa fn ts tf ex sl w h K
  of := fun _ _ e => ⟨_, He.frT_in, saysX_as (congrArg (fun z : AlS => z.1) e), congrArg (fun z : AlS => z.2) e⟩
  keeps := fun _ _ _ ⟨K, hK, c⟩ k => ⟨K, PySem.W.Frag.In.keeps hK k, ⟨⟨c.x.t, c.x.more, c.x.hd, c.x.out, fun p hp => k _ _ (c.x.empty p hp)⟩, c.sup⟩⟩
theorem obsS_eq {n : Nat} {fa : List He.Fa} {fn : List He.DefD} {ts : List He.Tab} {tf : List He.Defn} {ex : PySem.W.Frag → Bool} {sl : List SupD} {g : Addr → Option Obj} {s : Shared} (h : ∀ a, g a = s.heap.get? a) : obsS n fa fn ts tf ex sl g = (hookS n fa fn ts tf ex sl).obs s := by
  have e : g = s.heap.get? := funext h
  rw [e] <;> rfl
theorem SaysS.at {fa : List He.Fa} {fn : List He.DefD} {ts : List He.Tab} {tf : List He.Defn} {ex : PySem.W.Frag → Bool} {sl : List SupD} {w : World} {h : Heap} {K : PySem.W.Frag} (c : SaysS fa fn ts tf ex sl w h K) (i : Nat) {d : SupD} (hd : sl[i]? = some d := by rfl) : fnC1 K d.x = d.val := by
  have e : (sl.map fun d => fnC1 K d.x)[i]? = (sl.map SupD.val)[i]? := by rw [c.sup]
  rw [List.getElem?_map, List.getElem?_map, hd] at e
  exact Option.some.inj e
end L2

set_option Elab.async false
set_option linter.all false
set_option maxRecDepth 100000
set_option maxHeartbeats 2000000
/-! Own exceptions that say nothing of their own: what is looked up. -/
namespace L2
open PySem PySem.Spec PyProof.Rows
def xnB (K : PySem.W.Frag) (C : Addr) : Bool :=
  PySem.W.excIn K C [.type "ValueError", .type "Exception", .type "BaseException", .type "object"] "ValueError.__new__" && (PySem.W.keepIn K (.ref C) && (decide (PySem.W.subIn K (.ref C) (.type "BaseException") = some true) && decide (PySem.W.typeIn K (.ref C) = some (.type "type"))))
def noneB (K : PySem.W.Frag) (CS OB : Addr) : Bool :=
  decide (PySem.W.findIn K (.ref OB) "__getattribute__" = some (some (.builtin "BaseException.__getattribute__"))) && (decide (PySem.W.findIn K (.ref OB) "__getattr__" = some none) && (decide (PySem.W.subIn K (.ref OB) (.type "BaseException") = some true) && (PySem.W.hasDictIn K OB && (decide (PySem.W.findIn K (.ref OB) "__class__" = some (some (.builtin "object.__class__"))) &&
  (decide (PySem.W.specialIn K (.builtin "object.__class__") "__get__" = some (some (.builtin "getset_descriptor.__get__"))) && (decide (PySem.W.takesIn K (.builtin "object.__class__") = some true) && (decide (PySem.W.mroIn K OB (.type "object") = some true) && (decide (PySem.W.exmOne K (.ref OB) (.ref CS) = some true) && (decide (PySem.W.kitOne K (.ref OB) (.ref OB) = some true) && decide (PySem.W.kitOne K (.ref OB) (.type "ValueError") = some true))))))))))
end L2

set_option Elab.async false
set_option linter.all false
set_option maxRecDepth 100000
set_option maxHeartbeats 0
namespace K75
open PySem PySem.Spec L2
open PyProof.Rows hiding St
def topS (i : Nat) : Stmt := PySem.Challenge.pw_bearstacks_k75_whole_what_was_seen.main.body.getD i (.Pass ⟨0, 0, 0, 0⟩)
abbrev dN (x : Str) (i : Nat) (dfl : List He.Dv := []) : He.DefD := ⟨(x, none), x, x, defArgs (topS i), defBody (topS i), defScope (topS i), dfl, []⟩
def fnL0 : List He.DefD := [dN "is_whole" 10, dN "is_number" 11, dN "is_tuple_of" 12, dN "wrong_at" 13, dN "wrong_from_one" 14, dN "wrong_for_all" 15, dN "is_letters" 16, dN "is_name" 17, dN "is_one_of" 18, dN "weights_by" 23, dN "loads_in" 25, dN "is_piece" 29, dN "wrong_pieces" 30, dN "piece_names" 31, dN "wrong_order" 32, dN "is_sight" 33, dN "wrong_seen" 34, dN "lot_with_bears" 35, dN "loads_of" 36, dN "loads_borne" 37, dN "loads_broken" 38, dN "leasts_of" 39, dN "greatests_of" 40, dN "barred_pieces" 41, dN "are_fitting" 42, dN "check_seen" 44, dN "check_fit" 45, dN "fits" 46, dN "do_fit" 47, dN "least_bears" 48]
def fnL1 : List He.DefD := [dN "greatest_bears" 49, dN "barring_piece" 50, dN "_law_well" 52, dN "_law_draw" 53, dN "_law_of" 54, dN "_law_same" 55, dN "_law_names" 56, dN "_law_shuffled" 57, dN "_law_put" 58, dN "_law_lot_of" 59, dN "_law_lot" 60, dN "_law_plain" 61, dN "_law_crate" 62, dN "_law_loads" 63, dN "_law_broken" 64, dN "_law_pieces" 65, dN "_law_seen" 66, dN "_law_limits" 67, dN "_law_right" 69, dN "_law_is_none" 68, dN "law" 70]
def fnL : List He.DefD := fnL0 ++ fnL1
def faL0 : List He.Fa := [.glo "is_whole", .glo "is_number", .glo "is_tuple_of", .glo "wrong_at", .glo "wrong_from_one", .glo "wrong_for_all", .glo "is_letters", .glo "is_name", .glo "is_one_of", .glo "weights_by", .glo "loads_in", .glo "is_piece", .glo "wrong_pieces", .glo "piece_names", .glo "wrong_order", .glo "is_sight", .glo "wrong_seen", .glo "lot_with_bears", .glo "loads_of", .glo "loads_borne", .glo "loads_broken", .glo "leasts_of", .glo "greatests_of", .glo "barred_pieces", .glo "are_fitting", .glo "check_seen", .glo "check_fit", .glo "fits", .glo "do_fit", .glo "least_bears"]
def faL1 : List He.Fa := [.glo "greatest_bears", .glo "barring_piece", .glo "_law_well", .glo "_law_draw", .glo "_law_of", .glo "_law_same", .glo "_law_names", .glo "_law_shuffled", .glo "_law_put", .glo "_law_lot_of", .glo "_law_lot", .glo "_law_plain", .glo "_law_crate", .glo "_law_loads", .glo "_law_broken", .glo "_law_pieces", .glo "_law_seen", .glo "_law_limits", .glo "_law_right", .glo "_law_is_none", .glo "law", .free "len", .free "int", .free "abs", .free "all", .free "any", .free "sum", .free "min", .free "max", .free "tuple"]
def faL2 : List He.Fa := [.free "list", .free "bool", .free "str", .free "dict", .free "set", .free "divmod", .free "isinstance", .free "range", .free "enumerate", .free "zip", .free "sorted", .free "repr", .glo "StackError", .glo "NoFit", .free "ValueError", .free "super", .str "SMALL_LETTERS" "abcdefghijklmnopqrstuvwxyz", .int "MOST_IN_NAME" 8, .glo "WORDS", .int "MOST_WEIGHT" 999, .int "MOST_BEARS" 999, .int "MOST_CRATES" 7, .int "MOST_SEEN" 9, .str "HELD" ""]
def faL : List He.Fa := faL0 ++ faL1 ++ faL2
def tfL : List He.Defn := [("wrong_pieces", none), ("wrong_order", none), ("wrong_seen", none), ("do_fit", none), ("_law_right", none)]
def tv_WORDS : List He.Dv := [.str "above", .str "all", .str "any", .str "bears", .str "below", .str "broke", .str "by", .str "can", .str "crate", .str "day", .str "days", .str "goes", .str "guest", .str "held", .str "holds", .str "in", .str "leaves", .str "lifts", .str "loads", .str "most", .str "no", .str "none", .str "of", .str "on", .str "out", .str "pull", .str "put", .str "room", .str "rule", .str "shelf", .str "slip", .str "snow", .str "spare", .str "stack", .str "take", .str "tidy", .str "to", .str "top", .str "weighs", .str "with", .str "yard"]
def iniS (i : Nat) : Stmt := match topS i with | .ClassDef _ _ _ body .. => body.getD 0 (.Pass ⟨0, 0, 0, 0⟩) | _ => .Pass ⟨0, 0, 0, 0⟩
def supL : List SupD := []
def exB (K : PySem.W.Frag) : Bool := (Ex.plB K) && (Ex.apart K tfL) && (He.tupB K "WORDS" tv_WORDS) && (xnB K (He.ga K "NoFit")) && (noneB K (He.ga K "StackError") (He.ga K "NoFit")) && (supL.all fun d => d.ok K PySem.Challenge.pw_bearstacks_k75_whole_what_was_seen.main.file)
abbrev R : PySem.W.OpenRow := PySem.W.OpenLaw.row PySem.Challenge.rw_bearstacks_k75_whole_what_was_seen
abbrev hk : PySem.W.Hook := hookS 4 faL fnL [] tfL exB supL
def ob (s : PySem.W.SharedT) : AlS := obsS 4 faL fnL [] tfL exB supL (HandSHeadRun.getT s)
theorem ob_eq (s : PySem.W.SharedT) : ob s = hk.obs s.abs := obsS_eq (HandSHeadRun.getT_eq s)
def topN0 : List PySem.Str := ["StackError", "InvalidPieces", "InvalidSeen", "InvalidBears", "NoFit", "SMALL_LETTERS", "MOST_IN_NAME", "WORDS", "is_whole", "is_number", "is_tuple_of", "wrong_at", "wrong_from_one", "wrong_for_all", "is_letters", "is_name", "is_one_of", "MOST_WEIGHT", "MOST_BEARS", "MOST_CRATES", "weights_by", "loads_in", "MOST_SEEN", "HELD", "is_piece", "wrong_pieces", "piece_names", "wrong_order", "is_sight", "wrong_seen"]
def topN1 : List PySem.Str := ["lot_with_bears", "loads_of", "loads_borne", "loads_broken", "leasts_of", "greatests_of", "barred_pieces", "are_fitting", "check_seen", "check_fit", "fits", "do_fit", "least_bears", "greatest_bears", "barring_piece", "_law_well", "_law_draw", "_law_of", "_law_same", "_law_names", "_law_shuffled", "_law_put", "_law_lot_of", "_law_lot", "_law_plain", "_law_crate", "_law_loads", "_law_broken", "_law_pieces", "_law_seen"]
def topN2 : List PySem.Str := ["_law_limits", "_law_is_none", "_law_right"]
def topN : List PySem.Str := topN0 ++ topN1 ++ topN2
theorem run (w : World) : HandSHeadRun.RunEq R (PySem.W.view R.prog [70]) hk ob 20000 topN w := by
  intro os
  kernel_rfl
end K75

set_option Elab.async false
set_option linter.all false
namespace Pm
section
variable {α : Type} [DecidableEq α]
theorem len_le : ∀ {s t : List α}, s.Nodup → (∀ z ∈ s, z ∈ t) → s.length ≤ t.length
  | [], _, _, _ => Nat.zero_le _
  | x :: s, t, h, hs => by
    have hx : x ∈ t := hs x List.mem_cons_self
    have hn := List.nodup_cons.mp h
    have := len_le (s := s) (t := t.erase x) hn.2 fun z hz => (List.mem_erase_of_ne (fun e : z = x => hn.1 (by rw [← e]; exact hz))).mpr (hs z (List.mem_cons_of_mem _ hz))
    rw [List.length_erase_of_mem hx] at this
    have : 0 < t.length := List.length_pos_of_mem hx
    simp only [List.length_cons]
    omega
theorem cover {s t : List α} (h : s.Nodup) (hs : ∀ z ∈ s, z ∈ t) (hl : t.length ≤ s.length) : ∀ z ∈ t, z ∈ s := fun z hz => by
  refine Decidable.byContradiction fun hn => ?_
  have := len_le (s := z :: s) (t := t) (List.nodup_cons.mpr ⟨hn, h⟩) fun y hy => by
    rcases List.mem_cons.mp hy with rfl | hy
    · exact hz
    · exact hs y hy
  simp only [List.length_cons] at this
  omega
def grow1 (ns : List α) (s : List α) : List (List α) := (ns.filter fun z => decide (z ∉ s)).map fun z => s ++ [z]
def grow (ns : List α) (f : List (List α)) : List (List α) := f.flatMap (grow1 ns)
def stks (ns : List α) : Nat → List (List α)
  | 0 => [[]]
  | k + 1 => grow ns (stks ns k)
theorem mem_stks {ns : List α} : ∀ {k : Nat} {s : List α}, s ∈ stks ns k ↔ s.length = k ∧ s.Nodup ∧ ∀ z ∈ s, z ∈ ns
  | 0, s => by
    simp only [stks, List.mem_singleton]
    constructor
    · rintro rfl; simp
    · rintro ⟨h, _⟩; exact List.length_eq_zero_iff.mp h
  | k + 1, s => by
    simp only [stks, grow, grow1, List.mem_flatMap, List.mem_map, List.mem_filter, decide_eq_true_eq]
    constructor
    · rintro ⟨t, ht, z, ⟨hz, hn⟩, rfl⟩
      obtain ⟨h1, h2, h3⟩ := mem_stks.mp ht
      refine ⟨by simp [h1], ?_, fun y hy => ?_⟩
      · rw [List.nodup_append]
        refine ⟨h2, by simp, fun a ha b hb e => ?_⟩
        rw [List.mem_singleton] at hb
        exact hn (hb ▸ e ▸ ha)
      · rcases List.mem_append.mp hy with hy | hy
        · exact h3 y hy
        · rw [List.mem_singleton] at hy; exact hy ▸ hz
    · rintro ⟨h1, h2, h3⟩
      have hne : s ≠ [] := fun e => by rw [e] at h1; cases h1
      have e := List.dropLast_concat_getLast hne
      rw [← e] at h2 h3
      rw [List.nodup_append] at h2
      refine ⟨s.dropLast, mem_stks.mpr ⟨by simp [h1], h2.1, fun z hz => h3 z (List.mem_append_left _ hz)⟩, s.getLast hne, ⟨h3 _ (by simp), fun hm => h2.2.2 _ hm _ (List.mem_singleton.mpr rfl) rfl⟩, e⟩
theorem grow_len {ns : List α} {f : List (List α)} : (grow ns f).length ≤ ns.length * f.length := by
  unfold grow grow1
  induction f with
  | nil => simp
  | cons s f ih =>
    simp only [List.flatMap_cons, List.length_append, List.length_map, List.length_cons, Nat.mul_add, Nat.mul_one]
    have := List.length_filter_le (fun z => decide (z ∉ s)) ns
    omega
theorem stks_len {ns : List α} {n k : Nat} (h : ns.length ≤ n) : (stks ns k).length ≤ n ^ k := by
  induction k with
  | zero => simp [stks]
  | succ k ih =>
    refine Nat.le_trans (grow_len (ns := ns)) ?_
    rw [Nat.pow_succ, Nat.mul_comm]
    exact Nat.mul_le_mul ih h
theorem mem_full {ns s : List α} (hn : ns.Nodup) : s ∈ stks ns ns.length ↔ s.Nodup ∧ (∀ z ∈ s, z ∈ ns) ∧ (∀ z ∈ ns, z ∈ s) := by
  rw [mem_stks]
  constructor
  · rintro ⟨h1, h2, h3⟩
    exact ⟨h2, h3, cover h2 h3 (by omega)⟩
  · rintro ⟨h1, h2, h3⟩
    have a := len_le h1 h2
    have b := len_le hn h3
    exact ⟨by omega, h1, h2⟩
/-! loads -/
def ldF (w : α → Int) : Int → List α → List Int
  | _, [] => []
  | a, z :: s => a :: ldF w (a + w z) s
def loadOf (w : α → Int) : List α → α → Int
  | [], _ => 0
  | y :: s, z => if y = z then 0 else w y + loadOf w s z
theorem ldF_eq {w : α → Int} : ∀ {s : List α} {a : Int}, s.Nodup → ldF w a s = s.map fun z => a + loadOf w s z
  | [], _, _ => rfl
  | y :: s, a, h => by
    have hn := List.nodup_cons.mp h
    simp only [ldF, List.map_cons, loadOf, if_true, Int.add_zero]
    rw [ldF_eq hn.2]
    refine congrArg _ (List.map_congr_left fun z hz => ?_)
    have : y ≠ z := fun e => hn.1 (e ▸ hz)
    rw [if_neg this]
    omega
theorem ldF_len {w : α → Int} : ∀ {s : List α} {a : Int}, (ldF w a s).length = s.length
  | [], _ => rfl
  | y :: s, a => by simp only [ldF, List.length_cons, ldF_len]
theorem ldF_app {w : α → Int} : ∀ {s t : List α} {a : Int}, ldF w a (s ++ t) = ldF w a s ++ ldF w (a + (s.map w).sum) t
  | [], t, a => by simp [ldF]
  | y :: s, t, a => by
    simp only [List.cons_append, ldF, List.map_cons, List.sum_cons, ldF_app, Int.add_assoc]
end
/-! binomials -/
def bin : Nat → Nat → Nat
  | _, 0 => 1
  | 0, _ + 1 => 0
  | n + 1, k + 1 => bin n k + bin n (k + 1)
theorem bin_zero (n : Nat) : bin n 0 = 1 := by cases n <;> rfl
theorem bin_gt : ∀ {n k : Nat}, n < k → bin n k = 0
  | 0, k + 1, _ => rfl
  | n + 1, k + 1, h => by
    simp only [bin]
    rw [bin_gt (n := n) (k := k) (by omega), bin_gt (n := n) (k := k + 1) (by omega)]
theorem bin_step : ∀ n k : Nat, bin n (k + 1) * (k + 1) = bin n k * (n - k)
  | 0, k => by simp [bin]
  | n + 1, 0 => by
    have := bin_step n 0
    simp only [bin, bin_zero, Nat.zero_add, Nat.mul_one, Nat.one_mul, Nat.sub_zero] at this ⊢
    omega
  | n + 1, k + 1 => by
    have h1 := bin_step n k
    have h2 := bin_step n (k + 1)
    simp only [bin]
    by_cases h : k + 1 ≤ n
    · have e1 : n + 1 - (k + 1) = (n - (k + 1)) + 1 := by omega
      have e2 : n - k = (n - (k + 1)) + 1 := by omega
      rw [e2] at h1
      rw [e1]
      generalize n - (k + 1) = m at *
      generalize bin n k = a at *
      generalize bin n (k + 1) = b at *
      generalize bin n (k + 1 + 1) = c at *
      grind
    · have e1 : n + 1 - (k + 1) = 0 ∨ n < k := by omega
      have e0 : bin n (k + 1) = 0 := bin_gt (by omega)
      have e2 : bin n (k + 1 + 1) = 0 := bin_gt (by omega)
      rw [e0, e2]
      have : n + 1 - (k + 1) = 0 := by omega
      rw [this]
      simp
def Wr (t : Nat) : Nat → Nat
  | 0 => 0
  | k + 1 => Wr t k + bin t (k + 1)
theorem Wr_step (t : Nat) : ∀ k, Wr (t + 1) (k + 1) = Wr t (k + 1) + Wr t k + 1
  | 0 => by simp only [Wr, bin, bin_zero]; omega
  | k + 1 => by
    have := Wr_step t k
    rw [Wr, this]
    simp only [Wr, bin]
    omega
theorem Wr_zero (k : Nat) : Wr 0 k = 0 := by
  induction k with
  | zero => rfl
  | succ k ih => simp [Wr, ih, bin]
theorem Wr_ge (k : Nat) : ∀ t, t ≤ Wr t (k + 1)
  | 0 => Nat.zero_le _
  | t + 1 => by have := Wr_ge k t; rw [Wr_step]; omega
/-- the least t at which a function reaches a number -/
theorem least_at (f : Nat → Nat) (m : Nat) : ∀ n, m ≤ f n → ∃ T, T ≤ n ∧ m ≤ f T ∧ ∀ t, t < T → f t < m := by
  intro n
  induction n using Nat.strongRecOn with
  | _ n ih =>
    intro h
    by_cases hx : ∃ t, t < n ∧ m ≤ f t
    · obtain ⟨t, ht, hf⟩ := hx
      obtain ⟨T, h1, h2, h3⟩ := ih t ht hf
      exact ⟨T, by omega, h2, h3⟩
    · exact ⟨n, Nat.le_refl _, h, fun t ht => Nat.lt_of_not_le fun hf => hx ⟨t, ht, hf⟩⟩
end Pm

set_option Elab.async false
set_option linter.all false
namespace Pm
open PySem PySem.W
class StrictOrd (α : Type) [DecidableEq α] [DatumOrd α] : Prop where
  irr : ∀ a : α, DatumOrd.lt a a = false
  trans : ∀ a b c : α, DatumOrd.lt a b = true → DatumOrd.lt b c = true → DatumOrd.lt a c = true
  tri : ∀ a b : α, DatumOrd.lt a b = false → DatumOrd.lt b a = false → a = b
instance : StrictOrd Int where
  irr a := by show decide (a < a) = false; simp
  trans a b c h1 h2 := by
    have h1 : decide (a < b) = true := h1
    have h2 : decide (b < c) = true := h2
    show decide (a < c) = true
    simp only [decide_eq_true_eq] at *
    omega
  tri a b h1 h2 := by
    have h1 : decide (a < b) = false := h1
    have h2 : decide (b < a) = false := h2
    simp only [decide_eq_false_iff_not] at *
    omega
theorem str_ext {a b : Str} (h : a.cps.toList = b.cps.toList) : a = b := by
  cases a; cases b
  exact congrArg Str.mk (Array.toList_inj.mp h)
instance : StrictOrd Str where
  irr a := by show decide (a.cps.toList < a.cps.toList) = false; simp [List.lt_irrefl]
  trans a b c h1 h2 := by
    have h1 : decide (a.cps.toList < b.cps.toList) = true := h1
    have h2 : decide (b.cps.toList < c.cps.toList) = true := h2
    show decide (a.cps.toList < c.cps.toList) = true
    simp only [decide_eq_true_eq] at *
    exact List.lt_trans h1 h2
  tri a b h1 h2 := by
    have h1 : decide (a.cps.toList < b.cps.toList) = false := h1
    have h2 : decide (b.cps.toList < a.cps.toList) = false := h2
    simp only [decide_eq_false_iff_not] at *
    exact str_ext (List.le_antisymm (List.not_lt.mp h2) (List.not_lt.mp h1))
section
variable {α β : Type} [DecidableEq α] [DatumOrd α] [StrictOrd α] [DecidableEq β] [DatumOrd β] [StrictOrd β]
theorem listLt_irr : ∀ a : List α, listLt a a = false
  | [] => rfl
  | x :: a => by rw [listLt, if_pos rfl, listLt_irr a]
theorem listLt_trans : ∀ a b c : List α, listLt a b = true → listLt b c = true → listLt a c = true
  | [], [], _, h, _ => by cases h
  | [], _ :: _, [], _, h => by cases h
  | [], _ :: _, _ :: _, _, _ => rfl
  | _ :: _, [], _, h, _ => by cases h
  | _ :: _, _ :: _, [], _, h => by cases h
  | x :: a, y :: b, z :: c, h1, h2 => by
    rw [listLt] at h1 h2 ⊢
    by_cases e1 : x = y
    · by_cases e2 : y = z
      · rw [if_pos e1] at h1
        rw [if_pos e2] at h2
        rw [if_pos (e1.trans e2)]
        exact listLt_trans a b c h1 h2
      · rw [if_neg e2] at h2
        rw [if_neg (by rw [e1]; exact e2), e1]
        exact h2
    · rw [if_neg e1] at h1
      by_cases e2 : y = z
      · rw [if_neg (by rw [← e2]; exact e1), ← e2]
        exact h1
      · rw [if_neg e2] at h2
        have := StrictOrd.trans x y z h1 h2
        rw [if_neg fun e => by rw [e, StrictOrd.irr] at this; cases this]
        exact this
theorem listLt_tri : ∀ a b : List α, listLt a b = false → listLt b a = false → a = b
  | [], [], _, _ => rfl
  | [], _ :: _, h, _ => by cases h
  | _ :: _, [], _, h => by cases h
  | x :: a, y :: b, h1, h2 => by
    rw [listLt] at h1 h2
    by_cases e : x = y
    · rw [if_pos e] at h1
      rw [if_pos e.symm] at h2
      rw [e, listLt_tri a b h1 h2]
    · rw [if_neg e] at h1
      rw [if_neg (Ne.symm e)] at h2
      exact (e (StrictOrd.tri x y h1 h2)).elim
instance : StrictOrd (Tup α) where
  irr a := listLt_irr a.items
  trans a b c := listLt_trans a.items b.items c.items
  tri a b h1 h2 := by
    have := listLt_tri a.items b.items h1 h2
    cases a; cases b
    exact congrArg _ this
instance : StrictOrd (α × β) where
  irr a := by show (if a.1 = a.1 then DatumOrd.lt a.2 a.2 else DatumOrd.lt a.1 a.1) = false; rw [if_pos rfl, StrictOrd.irr]
  trans a b c h1 h2 := by
    have h1 : (if a.1 = b.1 then DatumOrd.lt a.2 b.2 else DatumOrd.lt a.1 b.1) = true := h1
    have h2 : (if b.1 = c.1 then DatumOrd.lt b.2 c.2 else DatumOrd.lt b.1 c.1) = true := h2
    show (if a.1 = c.1 then DatumOrd.lt a.2 c.2 else DatumOrd.lt a.1 c.1) = true
    by_cases e1 : a.1 = b.1
    · by_cases e2 : b.1 = c.1
      · rw [if_pos e1] at h1
        rw [if_pos e2] at h2
        rw [if_pos (e1.trans e2)]
        exact StrictOrd.trans _ _ _ h1 h2
      · rw [if_neg e2] at h2
        rw [if_neg (by rw [e1]; exact e2), e1]
        exact h2
    · rw [if_neg e1] at h1
      by_cases e2 : b.1 = c.1
      · rw [if_neg (by rw [← e2]; exact e1), ← e2]
        exact h1
      · rw [if_neg e2] at h2
        have := StrictOrd.trans _ _ _ h1 h2
        rw [if_neg fun e => by rw [e, StrictOrd.irr] at this; cases this]
        exact this
  tri a b h1 h2 := by
    have h1 : (if a.1 = b.1 then DatumOrd.lt a.2 b.2 else DatumOrd.lt a.1 b.1) = false := h1
    have h2 : (if b.1 = a.1 then DatumOrd.lt b.2 a.2 else DatumOrd.lt b.1 a.1) = false := h2
    by_cases e : a.1 = b.1
    · rw [if_pos e] at h1
      rw [if_pos e.symm] at h2
      exact Prod.ext e (StrictOrd.tri _ _ h1 h2)
    · rw [if_neg e] at h1
      rw [if_neg (Ne.symm e)] at h2
      exact (e (StrictOrd.tri _ _ h1 h2)).elim
theorem minOf_cons (x y : α) (ys : List α) : minOf x (y :: ys) = minOf (if DatumOrd.lt y x = true then y else x) ys := rfl
theorem minOf_mem : ∀ (xs : List α) (x : α), minOf x xs ∈ x :: xs
  | [], x => List.mem_singleton.mpr rfl
  | y :: ys, x => by
    rw [minOf_cons]
    have := minOf_mem ys (if DatumOrd.lt y x = true then y else x)
    rcases List.mem_cons.mp this with h | h
    · rw [h]
      split
      · exact List.mem_cons_of_mem _ List.mem_cons_self
      · exact List.mem_cons_self
    · exact List.mem_cons_of_mem _ (List.mem_cons_of_mem _ h)
theorem minOf_le : ∀ (xs : List α) (x : α), ∀ y ∈ x :: xs, DatumOrd.lt y (minOf x xs) = false
  | [], x, y, h => by rw [List.mem_singleton.mp h]; exact StrictOrd.irr x
  | y :: ys, x, z, h => by
    rw [minOf_cons]
    have ih := minOf_le ys (if DatumOrd.lt y x = true then y else x)
    generalize hm : minOf (if DatumOrd.lt y x = true then y else x) ys = m at *
    have i0 := ih _ List.mem_cons_self
    by_cases hyx : DatumOrd.lt y x = true
    · rw [if_pos hyx] at i0
      rcases List.mem_cons.mp h with rfl | h
      · cases q : DatumOrd.lt z m with
        | false => rfl
        | true => rw [StrictOrd.trans _ _ _ hyx q] at i0; cases i0
      · rcases List.mem_cons.mp h with rfl | h
        · exact i0
        · exact ih z (List.mem_cons_of_mem _ h)
    · rw [if_neg hyx] at i0
      rcases List.mem_cons.mp h with rfl | h
      · exact i0
      · rcases List.mem_cons.mp h with rfl | h
        · cases q : DatumOrd.lt z m with
          | false => rfl
          | true =>
            cases r : DatumOrd.lt m x with
            | true => exact (hyx (StrictOrd.trans _ _ _ q r)).elim
            | false => rw [StrictOrd.tri _ _ r i0] at q; exact (hyx q).elim
        · exact ih z (List.mem_cons_of_mem _ h)
theorem minOf_same {x y : α} {xs ys : List α} (h : ∀ z, z ∈ x :: xs ↔ z ∈ y :: ys) : minOf x xs = minOf y ys :=
  StrictOrd.tri _ _ (minOf_le ys y _ ((h _).mp (minOf_mem xs x))) (minOf_le xs x _ ((h _).mpr (minOf_mem ys y)))
end
end Pm

set_option Elab.async false
set_option linter.all false
namespace Pm
section
variable {α : Type} [DecidableEq α]
/-! pairs that stand otherwise -/
def inr (t : List α) (x y : α) : Bool := decide (t.idxOf x > t.idxOf y)
def pa (t : List α) : List α → List (α × α)
  | [] => []
  | x :: s => (s.filter (inr t x)).map (fun y => (x, y)) ++ pa t s
theorem mem_pa {t : List α} : ∀ {s : List α} {p : α × α}, p ∈ pa t s ↔ ∃ a b c, s = a ++ p.1 :: (b ++ p.2 :: c) ∧ inr t p.1 p.2 = true
  | [], p => by simp [pa]
  | x :: s, (p, q) => by
    simp only [pa, List.mem_append, List.mem_map, List.mem_filter]
    constructor
    · rintro (⟨y, ⟨hy, hr⟩, e⟩ | h)
      · cases e
        obtain ⟨b, c, rfl⟩ := List.append_of_mem hy
        exact ⟨[], b, c, rfl, hr⟩
      · obtain ⟨a, b, c, e, hr⟩ := mem_pa.mp h
        exact ⟨x :: a, b, c, by rw [e]; rfl, hr⟩
    · rintro ⟨a, b, c, e, hr⟩
      cases a with
      | nil =>
        obtain ⟨rfl, rfl⟩ := List.cons.inj e
        exact .inl ⟨q, ⟨by simp, hr⟩, rfl⟩
      | cons a0 a =>
        obtain ⟨rfl, rfl⟩ := List.cons.inj e
        exact .inr (mem_pa.mpr ⟨a, b, c, rfl, hr⟩)
theorem pa_swap {t : List α} {x y : α} {v : List α} (h : inr t x y = true) : ∀ u : List α, (pa t (u ++ x :: y :: v)).length = (pa t (u ++ y :: x :: v)).length + 1
  | [] => by
    have h2 : inr t y x = false := by
      unfold inr at h ⊢
      simp only [decide_eq_true_eq, decide_eq_false_iff_not] at *
      omega
    simp only [List.nil_append, pa, List.length_append, List.length_map, List.filter_cons_of_pos h, List.filter_cons_of_neg (show ¬ inr t y x = true by rw [h2]; simp), List.length_cons]
    omega
  | z :: u => by
    simp only [List.cons_append, pa, List.length_append, List.length_map]
    rw [pa_swap h u]
    have : ((u ++ x :: y :: v).filter (inr t z)).length = ((u ++ y :: x :: v).filter (inr t z)).length := by
      refine (List.Perm.filter _ ?_).length_eq
      exact List.Perm.append_left u (List.Perm.swap y x v)
    omega
theorem idx_app {a b : List α} {z : α} (h : z ∉ a) : (a ++ b).idxOf z = a.length + b.idxOf z := by
  induction a with
  | nil => simp
  | cons x a ih =>
    have hx : x ≠ z := fun e => h (by rw [e]; exact List.mem_cons_self)
    have := ih fun hz => h (List.mem_cons_of_mem _ hz)
    have hb : (x == z) = false := by simp [hx]
    rw [List.cons_append, List.idxOf_cons, this, hb, List.length_cons]
    show a.length + b.idxOf z + 1 = _
    omega
theorem idx_in {a b : List α} {z : α} (h : z ∈ a) : (a ++ b).idxOf z < a.length := by
  rw [List.idxOf_append, if_pos h]
  exact List.idxOf_lt_length_of_mem h
theorem pa_suffix : ∀ {s a t : List α}, t.Nodup → t = a ++ s → pa t s = []
  | [], _, _, _, _ => rfl
  | x :: s, a, t, hn, e => by
    have h1 : pa t s = [] := pa_suffix (a := a ++ [x]) hn (by rw [e]; simp)
    simp only [pa, h1, List.append_nil, List.map_eq_nil_iff, List.filter_eq_nil_iff]
    intro y hy hr
    subst e
    rw [List.nodup_append] at hn
    have hx : x ∉ a := fun h => hn.2.2 _ h _ List.mem_cons_self rfl
    have hya : y ∉ a := fun h => hn.2.2 _ h _ (List.mem_cons_of_mem _ hy) rfl
    have hxy : x ≠ y := fun e => (List.nodup_cons.mp hn.2.1).1 (e ▸ hy)
    unfold inr at hr
    rw [decide_eq_true_eq, idx_app hx, idx_app hya, List.idxOf_cons_self] at hr
    omega
theorem pa_self {t : List α} (h : t.Nodup) : pa t t = [] := pa_suffix (a := []) h rfl
/-- the topmost neighbours that stand otherwise -/
theorem topmost (t : List α) : ∀ s : List α, (∃ u x y v, s = u ++ x :: y :: v ∧ inr t x y = true ∧ (u ++ [x]).Pairwise fun a b => t.idxOf a ≤ t.idxOf b) ∨ s.Pairwise fun a b => t.idxOf a ≤ t.idxOf b
  | [] => .inr .nil
  | [x] => .inr (List.pairwise_singleton _ _)
  | x :: y :: r => by
    by_cases h : inr t x y = true
    · exact .inl ⟨[], x, y, r, rfl, h, List.pairwise_singleton _ _⟩
    · have hle : t.idxOf x ≤ t.idxOf y := by
        unfold inr at h
        simp only [decide_eq_true_eq] at h
        omega
      rcases topmost t (y :: r) with ⟨u, x', y', v, e, h1, h2⟩ | h2
      · refine .inl ⟨x :: u, x', y', v, by rw [e]; rfl, h1, ?_⟩
        rw [List.cons_append, List.pairwise_cons]
        refine ⟨fun z hz => ?_, h2⟩
        cases u with
        | nil =>
          rw [List.mem_singleton.mp hz]
          obtain ⟨rfl, _⟩ := List.cons.inj e
          exact hle
        | cons u0 u =>
          obtain ⟨rfl, _⟩ := List.cons.inj e
          rw [List.cons_append, List.pairwise_cons] at h2
          rcases List.mem_cons.mp hz with rfl | hz
          · exact hle
          · exact Nat.le_trans hle (h2.1 z hz)
      · refine .inr ?_
        rw [List.pairwise_cons]
        refine ⟨fun z hz => ?_, h2⟩
        rw [List.pairwise_cons] at h2
        rcases List.mem_cons.mp hz with rfl | hz
        · exact hle
        · exact Nat.le_trans hle (h2.1 z hz)
/-- ascending by ranks: the same -/
theorem asc_eq : ∀ {s t a : List α} (w : List α), w = a ++ t → w.Nodup → s.Nodup → (∀ z, z ∈ s ↔ z ∈ t) → (s.Pairwise fun x y => w.idxOf x ≤ w.idxOf y) → s = t
  | [], [], _, _, _, _, _, _, _ => rfl
  | [], y :: t, _, _, _, _, _, h, _ => by have := (h y).mpr List.mem_cons_self; cases this
  | x :: s, [], _, _, _, _, _, h, _ => by have := (h x).mp List.mem_cons_self; cases this
  | x :: s, y :: t, a, w, ew, hw, hs, h, hp => by
    have hw' := hw
    rw [ew, List.nodup_append] at hw'
    have hs' := List.nodup_cons.mp hs
    have ht' := List.nodup_cons.mp hw'.2.1
    have hna : ∀ z, z ∈ y :: t → z ∉ a := fun z hz ha => hw'.2.2 _ ha _ hz rfl
    have exy : x = y := by
      refine Decidable.byContradiction fun ne => ?_
      have hx : x ∈ t := by
        rcases List.mem_cons.mp ((h x).mp List.mem_cons_self) with e | e
        · exact (ne e).elim
        · exact e
      have hy : y ∈ s := by
        rcases List.mem_cons.mp ((h y).mpr List.mem_cons_self) with e | e
        · exact (ne e.symm).elim
        · exact e
      have := (List.pairwise_cons.mp hp).1 y hy
      rw [ew, idx_app (hna x (List.mem_cons_of_mem _ hx)), idx_app (hna y List.mem_cons_self), List.idxOf_cons_self] at this
      have hb : (y == x) = false := by simp [Ne.symm ne]
      rw [List.idxOf_cons, hb] at this
      have this : a.length + (t.idxOf x + 1) ≤ a.length + 0 := this
      omega
    subst exy
    refine congrArg _ (asc_eq (a := a ++ [x]) w (by rw [ew]; simp) hw hs'.2 (fun z => ?_) (List.pairwise_cons.mp hp).2)
    constructor
    · intro hz
      rcases List.mem_cons.mp ((h z).mp (List.mem_cons_of_mem _ hz)) with e | e
      · exact (hs'.1 (e ▸ hz)).elim
      · exact e
    · intro hz
      rcases List.mem_cons.mp ((h z).mpr (List.mem_cons_of_mem _ hz)) with e | e
      · exact (ht'.1 (e ▸ hz)).elim
      · exact e
/-! stacks that hold -/
def ws (w : α → Int) (a : List α) : Int := (a.map w).sum
/-- every prefix is borne -/
def Hd (w b : α → Int) (s : List α) : Prop := ∀ a z c, s = a ++ z :: c → ws w a ≤ b z
theorem ws_cons {w : α → Int} {x : α} {a : List α} : ws w (x :: a) = w x + ws w a := by simp [ws]
theorem ws_app {w : α → Int} {a b : List α} : ws w (a ++ b) = ws w a + ws w b := by simp [ws]
theorem ws_perm {w : α → Int} {a b : List α} (h : a.Perm b) : ws w a = ws w b := by
  unfold ws
  induction h with
  | nil => rfl
  | cons x _ ih => simp [ih]
  | swap x y l => simp; omega
  | trans _ _ i1 i2 => exact i1.trans i2
theorem ws_nonneg {w : α → Int} : ∀ {a : List α}, (∀ z ∈ a, 0 ≤ w z) → 0 ≤ ws w a
  | [], _ => by simp [ws]
  | x :: a, h => by
    rw [ws_cons]
    have := h x List.mem_cons_self
    have := ws_nonneg fun z hz => h z (List.mem_cons_of_mem _ hz)
    omega
theorem ws_le {w : α → Int} : ∀ {l a : List α}, l.Nodup → (∀ z ∈ l, z ∈ a) → (∀ z ∈ a, 0 ≤ w z) → ws w l ≤ ws w a
  | [], a, _, _, h => by
    have := ws_nonneg h
    simpa [ws] using this
  | x :: l, a, hn, hs, h => by
    have hx := hs x List.mem_cons_self
    have hn' := List.nodup_cons.mp hn
    have := ws_le (l := l) (a := a.erase x) hn'.2 (fun z hz => (List.mem_erase_of_ne (fun e : z = x => hn'.1 (by rw [← e]; exact hz))).mpr (hs z (List.mem_cons_of_mem _ hz))) fun z hz => h z (List.mem_of_mem_erase hz)
    have hp := ws_perm (w := w) (List.perm_cons_erase hx)
    rw [ws_cons] at hp ⊢
    omega
theorem load_split {w : α → Int} : ∀ {a : List α} {z : α} {c : List α}, z ∉ a → loadOf w (a ++ z :: c) z = ws w a
  | [], z, c, _ => by simp [loadOf, ws]
  | x :: a, z, c, h => by
    have hx : x ≠ z := fun e => h (by rw [e]; exact List.mem_cons_self)
    rw [List.cons_append, loadOf, if_neg hx, load_split (fun hz => h (List.mem_cons_of_mem _ hz)), ws_cons]
theorem nodup_split {a c : List α} {z : α} (h : (a ++ z :: c).Nodup) : z ∉ a ∧ z ∉ c := by
  rw [List.nodup_append] at h
  exact ⟨fun hz => h.2.2 _ hz _ List.mem_cons_self rfl, (List.nodup_cons.mp h.2.1).1⟩
theorem Hd_iff {w b : α → Int} {s : List α} (hn : s.Nodup) : Hd w b s ↔ ∀ z ∈ s, loadOf w s z ≤ b z := by
  constructor
  · intro h z hz
    obtain ⟨a, c, rfl⟩ := List.append_of_mem hz
    rw [load_split (nodup_split hn).1]
    exact h a z c rfl
  · rintro h a z c rfl
    have := h z (by simp)
    rwa [load_split (nodup_split hn).1] at this
/-- the topmost neighbours that stand otherwise can be exchanged -/
theorem exchange {w b : α → Int} {u v t : List α} {x y : α} (hw : ∀ z ∈ t, 0 ≤ w z) (hn : (u ++ x :: y :: v).Nodup) (ht : t.Nodup) (hs : ∀ z ∈ u ++ x :: y :: v, z ∈ t) (h1 : Hd w b (u ++ x :: y :: v)) (h2 : Hd w b t) (hr : inr t x y = true)
    (hp : (u ++ [x]).Pairwise fun a b => t.idxOf a ≤ t.idxOf b) : Hd w b (u ++ y :: x :: v) := by
  have hx : x ∈ t := hs x (by simp)
  have hy : y ∈ t := hs y (by simp)
  obtain ⟨a, c, rfl⟩ := List.append_of_mem hx
  have hxa := (nodup_split ht).1
  have ix : (a ++ x :: c).idxOf x = a.length := by rw [idx_app hxa, List.idxOf_cons_self]; rfl
  have low : ∀ z ∈ a ++ x :: c, z ≠ x → (a ++ x :: c).idxOf z ≤ a.length → z ∈ a := fun z hz hne hle => by
    refine Decidable.byContradiction fun hna => ?_
    have hb : (x == z) = false := by simp [Ne.symm hne]
    rw [idx_app hna, List.idxOf_cons, hb] at hle
    have hle : a.length + (c.idxOf z + 1) ≤ a.length := hle
    omega
  have hxu : x ∉ u := (nodup_split hn).1
  have hsub : ∀ z ∈ u ++ [y], z ∈ a := fun z hz => by
    rcases List.mem_append.mp hz with hz | hz
    · refine low z (hs z (by simp [hz])) (fun e => hxu (e ▸ hz)) ?_
      rw [← ix]
      exact (List.pairwise_append.mp hp).2.2 z hz x (by simp)
    · rw [List.mem_singleton.mp hz]
      unfold inr at hr
      rw [decide_eq_true_eq, ix] at hr
      refine low y hy (fun e => ?_) (by omega)
      rw [e, ix] at hr
      omega
  have hnd : (u ++ [y]).Nodup := by
    refine List.Nodup.sublist ?_ hn
    refine List.Sublist.append (List.Sublist.refl u) ?_
    exact List.Sublist.cons x (by simp)
  have key : ws w (u ++ [y]) ≤ b x := Int.le_trans (ws_le hnd hsub fun z hz => hw z (by simp [hz])) (h2 a x c rfl)
  have wx : 0 ≤ w x := hw x (by simp)
  have base : ws w (u ++ [x]) ≤ b y := h1 (u ++ [x]) y v (by simp)
  intro p z q e
  rcases List.append_eq_append_iff.mp e with ⟨r, e1, e2⟩ | ⟨r, e1, e2⟩
  · -- p = u ++ r, y :: x :: v = r ++ z :: q
    cases r with
    | nil =>
      obtain ⟨rfl, rfl⟩ := List.cons.inj e2
      rw [e1, List.append_nil]
      rw [ws_app] at base
      have : ws w [x] = w x := by simp [ws]
      omega
    | cons r0 r =>
      obtain ⟨rfl, e3⟩ := List.cons.inj e2
      cases r with
      | nil =>
        obtain ⟨rfl, rfl⟩ := List.cons.inj e3
        rw [e1]
        exact key
      | cons r1 r =>
        obtain ⟨rfl, e4⟩ := List.cons.inj e3
        have := h1 (u ++ x :: y :: r) z q (by rw [e4]; simp)
        rw [e1]
        have hpm : (u ++ y :: x :: r).Perm (u ++ x :: y :: r) := List.Perm.append_left u (List.Perm.swap x y r)
        rw [ws_perm hpm]
        exact this
  · -- u = p ++ r, z :: q = r ++ y :: x :: v
    cases r with
    | nil =>
      obtain ⟨rfl, rfl⟩ := List.cons.inj e2
      rw [List.append_nil] at e1
      subst e1
      rw [ws_app] at base
      have : ws w [x] = w x := by simp [ws]
      omega
    | cons r0 r =>
      obtain ⟨rfl, e3⟩ := List.cons.inj e2
      exact h1 p z (r ++ x :: y :: v) (by rw [e1]; simp)
/-- from a stack that holds to another one: a step nearer that holds -/
theorem step_ex {w b : α → Int} {s t : List α} (hw : ∀ z ∈ t, 0 ≤ w z) (hn : s.Nodup) (ht : t.Nodup) (hs : ∀ z, z ∈ s ↔ z ∈ t) (h1 : Hd w b s) (h2 : Hd w b t) (hne : s ≠ t) : ∃ u x y v, s = u ++ x :: y :: v ∧ inr t x y = true ∧ Hd w b (u ++ y :: x :: v) := by
  rcases topmost t s with ⟨u, x, y, v, rfl, hr, hp⟩ | h
  · exact ⟨u, x, y, v, rfl, hr, exchange hw hn ht (fun z hz => (hs z).mp hz) h1 h2 hr hp⟩
  · exact (hne (asc_eq (a := []) t rfl ht hn hs h)).elim
/-! the law's pairs -/
def col (t : List α) (s : List α) (y : α) : List (α × α) := (s.filter fun x => inr t x y).map fun x => (x, y)
theorem pa_snoc (t : List α) : ∀ (s : List α) (y : α), (pa t (s ++ [y])).Perm (pa t s ++ col t s y)
  | [], y => by simp [pa, col]
  | x :: s, y => by
    have ih := pa_snoc t s y
    simp only [List.cons_append, pa, List.filter_append, List.map_append, col, List.filter_cons]
    by_cases h : inr t x y = true
    · simp only [h, if_true, List.filter_cons, List.filter_nil, List.map_cons, List.map_nil]
      rw [List.append_assoc, List.append_assoc]
      refine List.Perm.append_left _ ?_
      refine (List.Perm.append_left _ ih).trans ?_
      rw [List.singleton_append]
      exact (List.perm_middle (l₁ := pa t s) (a := (x, y)) (l₂ := col t s y)).symm
    · have h' : inr t x y = false := by simpa using h
      simp only [h', Bool.false_eq_true, if_false, List.filter_cons, List.filter_nil, List.map_nil, List.append_nil]
      rw [List.append_assoc]
      exact List.Perm.append_left _ ih
end
end Pm

set_option Elab.async false
set_option linter.all false
namespace Pm
section
variable {α : Type} [DecidableEq α] {w b : α → Int} {s t h k : List α} {z : α}
def hld (w b : α → Int) (s : List α) : Bool := s.all fun z => decide (loadOf w s z ≤ b z)
theorem hld_iff (hn : s.Nodup) : hld w b s = true ↔ Hd w b s := by
  rw [Hd_iff hn]
  unfold hld
  simp [List.all_eq_true]
theorem load_in : ∀ {s t : List α} {z : α}, z ∈ s → loadOf w (s ++ t) z = loadOf w s z
  | x :: s, t, z, h => by
    rw [List.cons_append, loadOf, loadOf]
    by_cases e : x = z
    · rw [if_pos e, if_pos e]
    · rw [if_neg e, if_neg e, load_in]
      rcases List.mem_cons.mp h with h | h
      · exact (e h.symm).elim
      · exact h
theorem hld_snoc (hz : z ∉ s) : hld w b (s ++ [z]) = (hld w b s && decide (ws w s ≤ b z)) := by
  unfold hld
  rw [List.all_append, List.all_cons, List.all_nil, Bool.and_true, load_split hz]
  refine congrArg (· && _) ?_
  rw [Bool.eq_iff_iff]
  simp only [List.all_eq_true, decide_eq_true_eq]
  constructor <;> intro h y hy
  · rw [← load_in (t := [z]) hy]; exact h y hy
  · rw [load_in hy]; exact h y hy
def grw (w b : α → Int) (ns s : List α) : List (List α) := (ns.filter fun z => decide (z ∉ s) && decide (ws w s ≤ b z)).map fun z => s ++ [z]
theorem fil_grow1 {ns : List α} : (grow1 ns s).filter (hld w b) = if hld w b s = true then grw w b ns s else [] := by
  unfold grow1 grw
  rw [List.filter_map, List.filter_filter]
  split
  · rename_i e
    refine congrArg _ (List.filter_congr fun z _ => ?_)
    by_cases hz : z ∈ s
    · simp [hz]
    · simp only [Function.comp, hld_snoc hz, e, Bool.true_and, hz, not_false_eq_true, decide_true, Bool.and_true, Bool.true_and]
  · rename_i e
    rw [List.map_eq_nil_iff, List.filter_eq_nil_iff]
    intro z _
    by_cases hz : z ∈ s
    · simp [hz]
    · have e : hld w b s = false := by simpa using e
      simp [Function.comp, hld_snoc hz, e]
theorem fil_grow {ns : List α} : ∀ f : List (List α), (grow ns f).filter (hld w b) = (f.filter (hld w b)).flatMap (grw w b ns)
  | [] => rfl
  | s :: f => by
    have ih := fil_grow (ns := ns) f
    unfold grow at ih ⊢
    rw [List.flatMap_cons, List.filter_append, ih, fil_grow1, List.filter_cons]
    split <;> rfl
theorem pa_len : ∀ s : List α, 2 * (pa t s).length + s.length ≤ s.length * s.length
  | [] => by simp [pa]
  | x :: s => by
    have ih := pa_len s
    have hf : (s.filter (inr t x)).length ≤ s.length := List.length_filter_le _ _
    simp only [pa, List.length_append, List.length_map, List.length_cons, Nat.add_mul, Nat.mul_add, Nat.one_mul, Nat.mul_one]
    omega
theorem pa_zero (ht : t.Nodup) (hs : s.Nodup) (hm : ∀ z, z ∈ s ↔ z ∈ t) (h : pa t s = []) : s = t := by
  rcases topmost t s with ⟨u, x, y, v, e, hr, _⟩ | hp
  · have : (x, y) ∈ pa t s := mem_pa.mpr ⟨u, [], v, e, hr⟩
    rw [h] at this
    cases this
  · exact asc_eq (a := []) t rfl ht hs hm hp
def Stp (t h k : List α) : Prop := ∃ u x y v, h = u ++ x :: y :: v ∧ k = u ++ y :: x :: v ∧ inr t x y = true
theorem Stp.dec (h1 : Stp t h k) : (pa t h).length = (pa t k).length + 1 := by
  obtain ⟨u, x, y, v, rfl, rfl, hr⟩ := h1
  exact pa_swap hr u
theorem Stp.one (hk : k.Nodup) (h1 : Stp t h k) : (pa k h).length = 1 := by
  obtain ⟨u, x, y, v, rfl, rfl, hr⟩ := h1
  rw [pa_swap (t := u ++ y :: x :: v) ?_ u, pa_self hk]
  · rfl
  · have h1 := nodup_split hk
    have hxu : x ∉ u := by
      rw [List.nodup_append] at hk
      exact fun hx => hk.2.2 _ hx x (by simp) rfl
    have hne : y ≠ x := fun e => h1.2 (by rw [e]; simp)
    unfold inr
    have hb : (y == x) = false := by simp [hne]
    rw [idx_app hxu, idx_app h1.1, List.idxOf_cons_self, List.idxOf_cons, hb, List.idxOf_cons_self]
    simp
theorem Stp.perm (h1 : Stp t h k) : k.Perm h := by
  obtain ⟨u, x, y, v, rfl, rfl, hr⟩ := h1
  exact List.Perm.append_left u (List.Perm.swap x y v)
inductive Way (t s : List α) (G : List α → Prop) : List (List α) → List α → Prop
  | nil : G s → Way t s G [] s
  | snoc {p : List (List α)} {h k : List α} : Way t s G p h → Stp t h k → G k → Way t s G (p ++ [h]) k
variable {G : List α → Prop} {p : List (List α)}
theorem Way.len (h1 : Way t s G p k) : p.length + (pa t k).length = (pa t s).length := by
  induction h1 with
  | nil => simp
  | snoc _ h2 _ ih =>
    have := h2.dec
    rw [List.length_append]
    simp only [List.length_cons, List.length_nil]
    omega
theorem Way.end (h1 : Way t s G p k) : G k := by
  cases h1 with
  | nil h => exact h
  | snoc _ _ h => exact h
theorem Way.good (h1 : Way t s G p k) : ∀ z ∈ p ++ [k], G z := by
  induction h1 with
  | nil h => intro z hz; rw [List.nil_append, List.mem_singleton] at hz; rw [hz]; exact h
  | snoc _ _ h2 ih =>
    intro z hz
    rcases List.mem_append.mp hz with hz | hz
    · exact ih z hz
    · rw [List.mem_singleton.mp hz]; exact h2
theorem Way.head (h1 : Way t s G p k) : ∃ r, p ++ [k] = s :: r := by
  induction h1 with
  | nil => exact ⟨[], rfl⟩
  | @snoc p h k _ _ _ ih =>
    obtain ⟨r, e⟩ := ih
    exact ⟨r ++ [k], by rw [e]; rfl⟩
theorem Way.steps (h1 : Way t s G p k) : ∀ i a b, (p ++ [k])[i]? = some a → (p ++ [k])[i + 1]? = some b → Stp t a b := by
  induction h1 with
  | nil => intro i a b _ h; simp at h
  | @snoc p h k _ h2 _ ih =>
    intro i a b ha hb
    by_cases hi : i + 1 < (p ++ [h]).length
    · rw [List.getElem?_append_left (by omega)] at ha
      rw [List.getElem?_append_left hi] at hb
      exact ih i a b ha hb
    · have hi' : i < (p ++ [h] ++ [k]).length := (List.getElem?_eq_some_iff.mp ha).1
      have hj' : i + 1 < (p ++ [h] ++ [k]).length := (List.getElem?_eq_some_iff.mp hb).1
      simp only [List.length_append, List.length_cons, List.length_nil] at hi hi' hj'
      have e : i = p.length := by omega
      subst e
      rw [List.getElem?_append_right (by simp)] at hb
      rw [List.getElem?_append_left (by simp), List.getElem?_append_right (by simp)] at ha
      simp at ha hb
      rw [← ha, ← hb]
      exact h2
/-! by places -/
def nearB (t s : List α) (i : Nat) : Bool := match s[i]?, s[i + 1]? with
  | some x, some y => decide ((x, y) ∈ pa t s)
  | _, _ => false
def exAt (s : List α) (i : Nat) : List α := match s[i]?, s[i + 1]? with
  | some x, some y => s.take i ++ [y, x] ++ s.drop (i + 2)
  | _, _ => []
def nears (t s : List α) : List Nat := (List.range (s.length - 1)).filter (nearB t s)
def steps (hold : List α → Bool) (t s : List α) : List (List α) := ((nears t s).map (exAt s)).filter hold
theorem two_at {i : Nat} (h : i < s.length - 1) : ∃ x y, s[i]? = some x ∧ s[i + 1]? = some y ∧ s = s.take i ++ x :: y :: s.drop (i + 2) := by
  have h1 : i < s.length := by omega
  have h2 : i + 1 < s.length := by omega
  refine ⟨s[i], s[i + 1], List.getElem?_eq_getElem h1, List.getElem?_eq_getElem h2, ?_⟩
  have e1 : s.drop i = s[i] :: s.drop (i + 1) := List.drop_eq_getElem_cons h1
  have e2 : s.drop (i + 1) = s[i + 1] :: s.drop (i + 1 + 1) := List.drop_eq_getElem_cons h2
  rw [e2] at e1
  have := List.take_append_drop i s
  rw [e1] at this
  exact this.symm
theorem inr_of_mem {x y : α} (h : (x, y) ∈ pa t s) : inr t x y = true := by
  obtain ⟨_, _, _, _, hr⟩ := mem_pa.mp h
  exact hr
theorem steps_stp {hold : List α → Bool} (h1 : k ∈ steps hold t s) : Stp t s k ∧ hold k = true := by
  obtain ⟨h1, h2⟩ := List.mem_filter.mp h1
  refine ⟨?_, h2⟩
  obtain ⟨i, hi, rfl⟩ := List.mem_map.mp h1
  obtain ⟨hi, hn⟩ := List.mem_filter.mp hi
  obtain ⟨x, y, e1, e2, e3⟩ := two_at (s := s) (List.mem_range.mp hi)
  unfold nearB at hn
  unfold exAt
  rw [e1, e2] at hn ⊢
  have hn : decide ((x, y) ∈ pa t s) = true := hn
  refine ⟨s.take i, x, y, s.drop (i + 2), e3, by simp, inr_of_mem (of_decide_eq_true hn)⟩
theorem stp_steps {hold : List α → Bool} (h1 : Stp t s k) (h2 : hold k = true) : k ∈ steps hold t s := by
  refine List.mem_filter.mpr ⟨?_, h2⟩
  obtain ⟨u, x, y, v, rfl, rfl, hr⟩ := h1
  refine List.mem_map.mpr ⟨u.length, List.mem_filter.mpr ⟨List.mem_range.mpr (by simp), ?_⟩, ?_⟩
  · unfold nearB
    have e1 : (u ++ x :: y :: v)[u.length]? = some x := by simp
    have e2 : (u ++ x :: y :: v)[u.length + 1]? = some y := by simp
    rw [e1, e2]
    exact decide_eq_true (mem_pa.mpr ⟨u, [], v, rfl, hr⟩)
  · unfold exAt
    have e1 : (u ++ x :: y :: v)[u.length]? = some x := by simp
    have e2 : (u ++ x :: y :: v)[u.length + 1]? = some y := by simp
    rw [e1, e2]
    simp
theorem steps_len {hold : List α → Bool} : (steps hold t s).length ≤ s.length := by
  unfold steps nears
  refine Nat.le_trans (List.length_filter_le _ _) ?_
  rw [List.length_map]
  refine Nat.le_trans (List.length_filter_le _ _) ?_
  rw [List.length_range]
  omega
end
end Pm

set_option Elab.async false
set_option linter.all false
set_option maxRecDepth 100000
set_option maxHeartbeats 4000000
/-! New tuples are entered with their very object, which has no dict. -/
namespace Pu
open PySem PySem.Spec L2
open PyProof.Rows hiding St
abbrev tupO (us : List Value) : Obj := { cls := .type "tuple", data := .seq us.toArray }
section
variable {X : Cx} {pins : List (Addr × Obj)} {σ : L2.St} {H : Hp} {s : Shared}
theorem tup_laid {h' : Heap} {t' : Nat} {xs : List V} {us : List Value} (I : Inv X pins σ H s) (k : ∀ b o, s.heap.get? b = some o → h'.get? b = some o) (e : h'.get? s.heap.objs.size = some (tupO us)) (r : Vals xs us) (z : xs.length ≤ sizeLine) :
    Inv X pins σ (upd H s.heap.objs.size (.frz (tupO us) (.tup xs))) { s with heap := h', toks := t' } := I.laid k (Nat.le_refl _) ⟨e, z, us, r, ⟨_, e, rfl, _, rfl⟩⟩
theorem tup_push {t' : Nat} {xs : List V} {us : List Value} (I : Inv X pins σ H s) (r : Vals xs us) (z : xs.length ≤ sizeLine) :
    Inv X pins σ (upd H s.heap.objs.size (.frz (tupO us) (.tup xs))) { s with heap := s.heap.push (tupO us), toks := t' } := tup_laid I (fun b o e => Heap.get?_push_of_some _ e) (Heap.get?_push_size _ rfl) r z
end
section
variable {X : Cx} {es : List Expr} {t : TA} {pos : Pos}
def tTupF (t : TA) : TE := fun σ H Q => t σ H fun xs H1 => xs.length ≤ sizeLine ∧ ∀ p o, H1 p = none → o.dict = none → Q (.ref p) (upd H1 p (.frz o (.tup xs)))
theorem pe_tupF {x1} (h : PA X es t) : PE X (.Tuple es x1 pos) (tTupF t) := ⟨fun pins s σ H Q I hq => by
  refine wpAny_Tuple_spliced (thn (h.run pos pins s σ H _ I hq) fun us s1 ⟨xs, H1, I1, r, z, q⟩ => ⟨by rw [← r.length]; exact z, ?_⟩)
  exact ⟨.ref _, _, tup_push (t' := s1.toks) I1 r z, rfl, q _ _ (I1.hok.fresh (Nat.le_refl _)) rfl⟩⟩
def rCatF (K : PySem.W.Frag) : R2 := fun x y H Q => ∃ a b xs ys, x = .ref a ∧ y = .ref b ∧ SqT K H a xs ∧ SqT K H b ys ∧ xs.length + ys.length ≤ sizeLine ∧
  (xs = [] → Q (.ref b) H) ∧ (xs ≠ [] → ys = [] → Q (.ref a) H) ∧ (xs ≠ [] → ys ≠ [] → ∀ p o, H p = none → o.dict = none → Q (.ref p) (upd H p (.frz o (.tup (xs ++ ys)))))
theorem op_catF : OpR X (binaryOp .Add) (rCatF X.K) := by
  intro pins s σ H x y v u Q I rx ry h
  obtain ⟨a, b, xs, ys, rfl, rfl, ha, hb, hz, q0, q1, q2⟩ := h
  cases rx
  cases ry
  obtain ⟨us, r1, p1, _⟩ := I.tuple ha
  obtain ⟨ws, r2, p2, _⟩ := I.tuple hb
  by_cases hx : xs = []
  · subst hx
    cases r1
    exact L2.cat_tup0 p1 p2 ⟨.ref b, H, I, rfl, q0 rfl⟩
  · refine HT.cat_tup p1 p2 (fun z => hx (r1.nil_iff.mp z)) (fun z => ⟨.ref a, H, I, rfl, q1 hx (r2.nil_iff.mp z)⟩) (fun z => ?_) (by rw [← r1.length, ← r2.length]; exact hz)
    exact ⟨.ref _, _, tup_push (t' := s.toks) I (r1.append r2) (by rw [List.length_append]; exact hz), rfl, q2 hx (fun w => z (r2.nil_iff.mpr w)) _ _ (I.hok.fresh (Nat.le_refl _)) rfl⟩
def rSlF (K : PySem.W.Frag) : V → Option Int → Option Int → Hp → VK → Prop := fun x lo hi H Q => ∃ a xs, x = .ref a ∧ SqT K H a xs ∧
  (HT.sIx xs.length 0 lo = 0 ∧ HT.sIx xs.length xs.length hi = xs.length → Q (.ref a) H) ∧ (¬ (HT.sIx xs.length 0 lo = 0 ∧ HT.sIx xs.length xs.length hi = xs.length) → ∀ p o, H p = none → o.dict = none → Q (.ref p) (upd H p (.frz o (.tup (cutV xs lo hi)))))
theorem sl_tupF : SlR X (rSlF X.K) := by
  intro pins s σ H x v vl vu lo hi sl Q I rx hs pl pu h
  obtain ⟨a, xs, rfl, hx, q1, q2⟩ := h
  cases rx
  obtain ⟨us, r, ht, hz⟩ := I.tuple hx
  have hlen : us.toArray.size = xs.length := by rw [List.size_toArray]; exact r.length.symm
  refine ⟨"tuple", _, PyProof.Rows.slot_tuple_getitem.lookup, ht.typeIs, ?_⟩
  by_cases hw : HT.sIx xs.length 0 lo = 0 ∧ HT.sIx xs.length xs.length hi = xs.length
  · exact L2.getItem_tuple_whole ht hs pl pu (by rw [hlen]; exact hw) ⟨.ref a, H, I, rfl, q1 hw⟩
  · refine HT.getItem_tuple_cut ht hs pl pu (by rw [hlen]; exact hw) ?_ (by rw [hlen]; exact hz)
    rw [hlen]
    exact ⟨.ref _, _, tup_push (t' := s.toks) I ((r.drop (HT.sIx xs.length 0 lo)).take (HT.sIx xs.length xs.length hi - HT.sIx xs.length 0 lo)) (Nat.le_trans (cutV_length xs lo hi) hz), rfl, q2 hw _ _ (I.hok.fresh (Nat.le_refl _)) rfl⟩
def zTupF (K : PySem.W.Frag) : List V → Hp → VK → Prop := fun xs H Q => ∃ p ys, xs = [.ref p] ∧ ((SqL K H p ys ∧ ∀ l o, H l = none → o.dict = none → Q (.ref l) (upd H l (.frz o (.tup ys)))) ∨ (SqT K H p ys ∧ Q (.ref p) H))
theorem call_tupF : CallR X (.type "tuple") (zTupF X.K) := by
  intro pins s σ H xs us Q I r h
  obtain ⟨p, ys, rfl, h⟩ := h
  obtain ⟨u, rfl, rx⟩ := vals1 r
  cases rx
  rcases h with ⟨hs, q⟩ | ⟨hs, q⟩
  · obtain ⟨ws, rv, pl, hz⟩ := I.list hs
    refine call_tuple_list pl.isList (fun h' hk => ?_) (by rw [List.size_toArray, ← rv.length]; exact hz)
    have I1 : Inv X pins σ H { s with heap := h' } := I.kept (t' := s.toks) hk
    exact ⟨.ref _, _, tup_push (t' := s.toks) I1 rv hz, rfl, q _ _ (I1.hok.fresh (Nat.le_refl _)) rfl⟩
  · obtain ⟨ws, rv, pl, hz⟩ := I.tuple hs
    exact call_tuple_tup pl ⟨.ref p, H, I, rfl, q⟩
def zDivF : List V → Hp → VK → Prop := fun xs H Q => ∃ i j, xs = [.int i, .int j] ∧ CDiv i j ∧ ∀ p o, H p = none → o.dict = none → Q (.ref p) (upd H p (.frz o (.tup [.int (i / j), .int (i % j)])))
theorem call_divF : CallR X (.builtin "divmod") zDivF := by
  intro pins s σ H xs us Q I r h
  obtain ⟨i, j, rfl, ⟨h1, h2⟩, q⟩ := h
  obtain ⟨u, w', rfl, ⟨t, rfl⟩, ⟨t', rfl⟩⟩ := vals2 r
  refine divmod_int (by omega) ?_ (.inl (PyProof.noPylong_small (by omega)))
  rw [Int.fdiv_eq_ediv_of_nonneg i (by omega), Int.fmod_eq_emod_of_nonneg i (by omega)]
  refine ⟨.ref _, _, tup_laid (xs := [.int (i / j), .int (i % j)]) (us := [.int (i / j) s.toks, .int (i % j) (s.toks + 1)]) I (fun b o e => Heap.get?_push_of_some _ e) (Heap.get?_push_size s.heap rfl) (.cons ⟨_, rfl⟩ (.cons ⟨_, rfl⟩ .nil)) (show 2 ≤ sizeLine by decide), rfl, q _ _ (I.hok.fresh (Nat.le_refl _)) rfl⟩
end
end Pu

set_option Elab.async false
set_option linter.all false
set_option maxRecDepth 100000
set_option maxHeartbeats 4000000
/-! Pure readings over the hand layer: values as PyData, a stable heap S below the heap H. -/
namespace Pu
open PySem PySem.Spec L2
open PyProof.Rows hiding St

abbrev D := PyData
def kD : Key → D
  | .inl i => .int i
  | .inr x => .str x
def tD (k : List Key) : D := .tuple (k.map kD)

/-! ### monotony -/
theorem Rd.mono {S S' : Hp} (e : Same S S') {a : Addr} {u : HO} (h : Rd S a u) : Rd S' a u := by
  rcases h with h | ⟨o, h⟩
  · exact .inl (e _ _ h)
  · exact .inr ⟨o, e _ _ h⟩
theorem SqL.mono {K : PySem.W.Frag} {S S' : Hp} (e : Same S S') {a : Addr} {xs : List V} (h : SqL K S a xs) : SqL K S' a xs := by
  rcases h with h | h
  · exact .inl (Rd.mono e h)
  · exact .inr h
theorem SqT.mono {K : PySem.W.Frag} {S S' : Hp} (e : Same S S') {a : Addr} {xs : List V} (h : SqT K S a xs) : SqT K S' a xs := by
  rcases h with h | h
  · exact .inl (Rd.mono e h)
  · exact .inr h
mutual
theorem Dp.mono {K : PySem.W.Frag} {S S' : Hp} (e : Same S S') : ∀ {d : D} {v : V}, Dp K S v d → Dp K S' v d
  | .none, _, h => by cases h; exact .non
  | .bool b, _, h => by cases h; exact .bl b
  | .int i, _, h => by cases h; exact .int i
  | .str x, _, h => by cases h; exact .str x
  | .list ds, _, h => by
    cases h with
    | lst hs ha => exact .lst (SqL.mono e hs) (DpAll.mono e ha)
  | .tuple ds, _, h => by
    cases h with
    | tup hs ha => exact .tup (SqT.mono e hs) (DpAll.mono e ha)
  | .dict _, _, h => by cases h
theorem DpAll.mono {K : PySem.W.Frag} {S S' : Hp} (e : Same S S') : ∀ {ds : List D} {vs : List V}, DpAll K S vs ds → DpAll K S' vs ds
  | [], _, h => by cases h; exact .nil
  | _ :: _, _, h => by
    cases h with
    | cons h1 h2 => exact .cons (Dp.mono e h1) (DpAll.mono e h2)
end
theorem DpAll.length {K : PySem.W.Frag} {S : Hp} : ∀ {vs : List V} {ds : List D}, DpAll K S vs ds → vs.length = ds.length
  | _, _, .nil => rfl
  | _, _, .cons _ t => by simp only [List.length_cons]; rw [DpAll.length t]
theorem DpAll.get {K : PySem.W.Frag} {S : Hp} : ∀ {vs : List V} {ds : List D} {i : Nat} {d : D}, DpAll K S vs ds → ds[i]? = some d → ∃ v, vs[i]? = some v ∧ Dp K S v d
  | _, _, _, _, .nil, e => by simp at e
  | _, _, 0, _, .cons r _, e => by simp at e; subst e; exact ⟨_, rfl, r⟩
  | _, _, i + 1, d, .cons _ t, e => by
    obtain ⟨v, h1, h2⟩ := DpAll.get (i := i) (d := d) t (by simpa using e)
    exact ⟨v, by simpa using h1, h2⟩
theorem DpAll.app {K : PySem.W.Frag} {S : Hp} : ∀ {vs ws : List V} {ds es : List D}, DpAll K S vs ds → DpAll K S ws es → DpAll K S (vs ++ ws) (ds ++ es)
  | _, _, _, _, .nil, s => s
  | _, _, _, _, .cons r t, s => .cons r (DpAll.app t s)
theorem DpAll.one {K : PySem.W.Frag} {S : Hp} {v : V} {d : D} (h : Dp K S v d) : DpAll K S [v] [d] := .cons h .nil
theorem DpAll.take {K : PySem.W.Frag} {S : Hp} : ∀ {vs : List V} {ds : List D} (n : Nat), DpAll K S vs ds → DpAll K S (vs.take n) (ds.take n)
  | _, _, 0, _ => .nil
  | _, _, _ + 1, .nil => .nil
  | _, _, n + 1, .cons r t => .cons r (DpAll.take n t)
theorem DpAll.drop {K : PySem.W.Frag} {S : Hp} : ∀ {vs : List V} {ds : List D} (n : Nat), DpAll K S vs ds → DpAll K S (vs.drop n) (ds.drop n)
  | _, _, 0, r => r
  | _, _, _ + 1, .nil => .nil
  | _, _, n + 1, .cons _ t => DpAll.drop n t
theorem DpAll.erase {K : PySem.W.Frag} {S : Hp} : ∀ {vs : List V} {ds : List D} (n : Nat), DpAll K S vs ds → DpAll K S (vs.eraseIdx n) (ds.eraseIdx n)
  | _, _, _, .nil => .nil
  | _, _, 0, .cons _ t => t
  | _, _, n + 1, .cons r t => .cons r (DpAll.erase n t)
theorem DpAll.nil_iff {K : PySem.W.Frag} {S : Hp} {vs : List V} {ds : List D} (h : DpAll K S vs ds) : vs = [] ↔ ds = [] := by
  cases h with
  | nil => simp
  | cons _ _ => simp
theorem DpAll.set {K : PySem.W.Frag} {S : Hp} {v : V} {d : D} (h : Dp K S v d) : ∀ {vs : List V} {ds : List D} (i : Nat), DpAll K S vs ds → DpAll K S (vs.set i v) (ds.set i d)
  | _, _, _, .nil => .nil
  | _, _, 0, .cons _ t => .cons h t
  | _, _, i + 1, .cons q t => .cons q (DpAll.set h i t)

/-! ### what a value stands for -/
abbrev KVs (K : PySem.W.Frag) (S : Hp) : List (Key × V) → List (D × D) → Prop := Paired fun p q => q.1 = kD p.1 ∧ Dp K S p.2 q.2
abbrev TVs (K : PySem.W.Frag) (S : Hp) : List (List Key × V) → List (D × D) → Prop := Paired fun p q => q.1 = tD p.1 ∧ Dp K S p.2 q.2
/-- the dict at a holds kvs (keys ints and texts) -/
def DcAt (K : PySem.W.Frag) (S H : Hp) (a : Addr) (kvs : List (D × D)) : Prop := ∃ es, H a = some (.dK es) ∧ KVs K S es kvs
def Rep (K : PySem.W.Frag) (S : Hp) (v : V) : D → Prop
  | .dict kvs => ∃ a, v = .ref a ∧ DcAt K S S a kvs
  | .none => Dp K S v .none
  | .bool b => Dp K S v (.bool b)
  | .int i => Dp K S v (.int i)
  | .str x => Dp K S v (.str x)
  | .list ds => Dp K S v (.list ds)
  | .tuple ds => Dp K S v (.tuple ds)
def isDic : D → Bool
  | .dict _ => true
  | _ => false
theorem Rep.of {K : PySem.W.Frag} {S : Hp} {v : V} {d : D} (h : Dp K S v d) : Rep K S v d := by
  cases d with
  | dict _ => cases h
  | _ => exact h
theorem Rep.dp {K : PySem.W.Frag} {S : Hp} {v : V} {d : D} (h : Rep K S v d) (n : isDic d = false) : Dp K S v d := by
  cases d with
  | dict _ => cases n
  | _ => exact h
theorem KVs.mono {K : PySem.W.Frag} {S S' : Hp} (e : Same S S') {es : List (Key × V)} {kvs : List (D × D)} (h : KVs K S es kvs) : KVs K S' es kvs :=
  L2.Paired.mapP h fun _ _ z => ⟨z.1, Dp.mono e z.2⟩
theorem TVs.mono {K : PySem.W.Frag} {S S' : Hp} (e : Same S S') {es : List (List Key × V)} {kvs : List (D × D)} (h : TVs K S es kvs) : TVs K S' es kvs :=
  L2.Paired.mapP h fun _ _ z => ⟨z.1, Dp.mono e z.2⟩
theorem DcAt.mono {K : PySem.W.Frag} {S S' H H' : Hp} {a : Addr} {kvs : List (D × D)} (e : Same S S') (h : DcAt K S H a kvs) (k : H' a = H a) : DcAt K S' H' a kvs := by
  obtain ⟨es, h1, h2⟩ := h
  exact ⟨es, k.trans h1, h2.mono e⟩
theorem DcAt.some {K : PySem.W.Frag} {S H : Hp} {a : Addr} {kvs : List (D × D)} (h : DcAt K S H a kvs) : ∃ o, H a = some o ∧ Mut (some o) := by
  obtain ⟨es, h1, _⟩ := h
  exact ⟨_, h1, trivial⟩
theorem Rep.mono {K : PySem.W.Frag} {S S' : Hp} {v : V} {d : D} (e : Same S S') (h : Rep K S v d) : Rep K S' v d := by
  cases d with
  | dict kvs =>
    obtain ⟨a, rfl, h⟩ := h
    refine ⟨a, rfl, h.mono e ?_⟩
    obtain ⟨o, ho, _⟩ := h.some
    rw [ho, e _ _ ho]
  | _ => exact Dp.mono e h

/-! ### the context of a def, its states -/
/-- an error: its class, the field that it keeps -/
abbrev Ex := Str × Option (Str × D)
def XRep (K : PySem.W.Frag) (S H : Hp) (x : Ex) (c : Value) (od : Option Addr) : Prop :=
  c = .ref (He.ga K x.1) ∧ match x.2 with
    | none => od = none
    | some p => ∃ o v, od = some o ∧ H o = some (.xd [(p.1, v)]) ∧ Rep K S v p.2
/-- one step: what was stable is so, all but the volatile is kept, what is newly stable is new -/
structure Stp (vol : Addr → Prop) (S H S' H' : Hp) : Prop where
  ss : Same S S'
  hx : ∀ a o, ¬ vol a → H a = some o → (∀ ps, o ≠ .tbl ps) → H' a = some o
  nw : ∀ a o, S' a = some o → S a = some o ∨ H a = none
  dm : ∀ a, H' a = none → H a = none
theorem Stp.hh {vol : Addr → Prop} {S H S' H' : Hp} (t : Stp vol S H S' H') (a : Addr) (o : HO) (n : ¬ vol a) (h : H a = some o) (nt : ∀ ps, o ≠ HO.tbl ps := by intro _ h; cases h) : H' a = some o := t.hx a o n h nt
def SzO : HO → Prop
  | .lst xs => xs.length ≤ sizeLine
  | .tup xs => xs.length ≤ sizeLine
  | .dK es => es.length ≤ sizeLine
  | .dT es => es.length ≤ sizeLine
  | .frz _ u => SzO u
  | _ => True
/-- a stable tuple is told with its object, which has no dict -/
def TpO : HO → Prop
  | .tup _ => False
  | .frz o _ => o.dict = none
  | .tbl _ => False
  | _ => True
structure Good (vol : Addr → Prop) (G : Hp → Prop) (S H : Hp) : Prop where
  sub : Same S H
  g : G H
  vs : ∀ a, vol a → S a = none
  vh : ∀ a, vol a → H a ≠ none
  sz : ∀ a o, H a = some o → SzO o
  tp : ∀ a o, S a = some o → TpO o
/-- what G may hang on: the volatile objects, objects told by a property -/
def GSt (vol : Addr → Prop) (G : Hp → Prop) : Prop := ∀ H H' : Hp, G H → (∀ a o, H a = some o → (vol a ∨ ∃ c q, o = LamX.CodeO c q) → H' a = some o) → G H'
structure GC (K : PySem.W.Frag) where
  vol : Addr → Prop
  G : Hp → Prop
  gst : GSt vol G
  S0 : Hp
  H0 : Hp
  E : XK
  PX : Ex → Prop
  hE : ∀ x S' H' c od, PX x → Good vol G S' H' → Stp vol S0 H0 S' H' → XRep K S' H' x c od → E c od H'
theorem Stp.refl {vol : Addr → Prop} {S H : Hp} : Stp vol S H S H := ⟨Same.refl S, fun _ _ _ h _ => h, fun _ _ h => .inl h, fun _ h => h⟩
theorem Stp.gone {vol : Addr → Prop} {S H S' H' : Hp} (t : Stp vol S H S' H') {a : Addr} (n : ¬ vol a) (h : H' a = Option.none) : H a = Option.none := t.dm a h
theorem Stp.trans {vol : Addr → Prop} {G1 : Hp → Prop} {S H S1 H1 S2 H2 : Hp} (a : Stp vol S H S1 H1) (g : Good vol G1 S1 H1) (b : Stp vol S1 H1 S2 H2) : Stp vol S H S2 H2 where
  ss := a.ss.trans b.ss
  hx := fun c o n h nt => b.hx c o n (a.hx c o n h nt) nt
  dm := fun c h => a.dm c (b.dm c h)
  nw := fun c o h => by
    rcases b.nw c o h with h1 | h1
    · exact a.nw c o h1
    · exact .inr (a.gone (fun v => g.vh c v h1) h1)

/-! ### slots -/
inductive Sl where
  | un
  /-- a value that no longer changes -/
  | da (d : D)
  /-- a list, a dict of one's own, still filled -/
  | ow (ds : List D) | od (kvs : List (D × D))
  /-- the very value -/
  | rw (v : V)
  /-- any other object of one's own -/
  | ob (R : Addr → Hp → HO → Prop)
def Sl.own : Sl → Bool
  | .ow _ => true
  | .od _ => true
  | .ob _ => true
  | _ => false
def gt (ρ : List Sl) (i : Nat) : Sl := ρ.getD i .un
section
variable {K : PySem.W.Frag}
def SlOk (C : GC K) (S H : Hp) (o : Option V) : Sl → Prop
  | .un => True
  | .da d => ∃ v, o = some v ∧ Rep K S v d
  | .ow ds => ∃ l vs, o = some (.ref l) ∧ H l = some (.lst vs) ∧ S l = none ∧ C.H0 l = none ∧ ¬ C.vol l ∧ DpAll K S vs ds
  | .od kvs => ∃ l, o = some (.ref l) ∧ DcAt K S H l kvs ∧ S l = none ∧ C.H0 l = none ∧ ¬ C.vol l
  | .rw v => o = some v
  | .ob R => ∃ l u, o = some (.ref l) ∧ H l = some u ∧ S l = none ∧ C.H0 l = none ∧ ¬ C.vol l ∧ (∀ ps, u ≠ .tbl ps) ∧ (∀ S S' u, Same S S' → R l S u → R l S' u) ∧ R l S u
structure Rel (C : GC K) (S H : Hp) (σ : St) (ρ : List Sl) : Prop where
  good : Good C.vol C.G S H
  stp : Stp C.vol C.S0 C.H0 S H
  sl : ∀ i, SlOk C S H (NdefX.slotAt σ i) (gt ρ i)
  ne : ∀ i j l, (gt ρ i).own = true → (gt ρ j).own = true → NdefX.slotAt σ i = some (.ref l) → NdefX.slotAt σ j = some (.ref l) → i = j
  len : σ.length = ρ.length
theorem Stp.no {vol : Addr → Prop} {S H S' H' : Hp} (t : Stp vol S H S' H') {l : Addr} {o : HO} (h2 : S l = none) (h1 : H l = some o) : S' l = none := by
  cases q : S' l with
  | none => rfl
  | some u =>
    rcases t.nw l u q with z | z
    · rw [h2] at z; cases z
    · rw [h1] at z; cases z
theorem SlOk.mono {C : GC K} {S H S' H' : Hp} {o : Option V} {s : Sl} (t : Stp C.vol S H S' H') (h : SlOk C S H o s) : SlOk C S' H' o s := by
  cases s with
  | un => trivial
  | da d =>
    obtain ⟨v, e, r⟩ := h
    exact ⟨v, e, r.mono t.ss⟩
  | ow ds =>
    obtain ⟨l, vs, e, h1, h2, h3, h4, h5⟩ := h
    exact ⟨l, vs, e, t.hh _ _ h4 h1, t.no h2 h1, h3, h4, DpAll.mono t.ss h5⟩
  | od kvs =>
    obtain ⟨l, e, h1, h2, h3, h4⟩ := h
    obtain ⟨es', ho, _⟩ := _root_.id h1
    exact ⟨l, e, h1.mono t.ss (by rw [ho, t.hh _ _ h4 ho]), t.no h2 ho, h3, h4⟩
  | rw v => exact h
  | ob R =>
    obtain ⟨l, u, e, h1, h2, h3, h4, h5, h6, h7⟩ := h
    exact ⟨l, u, e, t.hh _ _ h4 h1 h5, t.no h2 h1, h3, h4, h5, h6, h6 _ _ _ t.ss h7⟩
theorem Rel.step {C : GC K} {S H S' H' : Hp} {σ : St} {ρ : List Sl} (r : Rel C S H σ ρ) (t : Stp C.vol S H S' H') (g : Good C.vol C.G S' H') : Rel C S' H' σ ρ :=
  ⟨g, r.stp.trans r.good t, fun i => (r.sl i).mono t, r.ne, r.len⟩

theorem dm_upd {H : Hp} {p : Addr} {o : HO} : ∀ a, upd H p o a = Option.none → H a = Option.none := fun a h => by
  unfold upd at h
  split at h
  · cases h
  · exact h
/-- a new stable object -/
theorem Good.new {vol : Addr → Prop} {G : Hp → Prop} {S H : Hp} (g : Good vol G S H) (hg : GSt vol G) {p : Addr} {o : HO} (hp : H p = none) (hz : SzO o) (ht : TpO o := by trivial) : Good vol G (upd S p o) (upd H p o) ∧ Stp vol S H (upd S p o) (upd H p o) := by
  have nS : S p = none := g.sub.free hp
  have nv : ∀ a, vol a → a ≠ p := fun a v e => g.vh a v (by rw [e]; exact hp)
  refine ⟨⟨fun a u e => ?_, hg H _ g.g fun a u e _ => (upd_ne (ne_of_none e hp)).trans e, fun a v => (upd_ne (nv a v)).trans (g.vs a v), fun a v => by rw [upd_ne (nv a v)]; exact g.vh a v, fun a u e => ?_, fun a u e => ?_⟩, fun a u e => (upd_ne (ne_of_none e nS)).trans e, fun a u _ e _ => (upd_ne (ne_of_none e hp)).trans e, fun a u e => ?_, dm_upd⟩
  · by_cases h : a = p
    · subst h; rw [upd_same] at e; cases e; exact upd_same
    · rw [upd_ne h] at e ⊢; exact g.sub _ _ e
  · by_cases h : a = p
    · subst h; rw [upd_same] at e; cases e; exact hz
    · rw [upd_ne h] at e; exact g.sz _ _ e
  · by_cases h : a = p
    · subst h; rw [upd_same] at e; cases e; exact ht
    · rw [upd_ne h] at e; exact g.tp _ _ e
  · by_cases h : a = p
    · subst h; exact .inr hp
    · rw [upd_ne h] at e; exact .inl e
/-- a new object that is not stable -/
theorem Good.newH {vol : Addr → Prop} {G : Hp → Prop} {S H : Hp} (g : Good vol G S H) (hg : GSt vol G) {p : Addr} {o : HO} (hp : H p = none) (hz : SzO o) : Good vol G S (upd H p o) ∧ Stp vol S H S (upd H p o) := by
  have nv : ∀ a, vol a → a ≠ p := fun a v e => g.vh a v (by rw [e]; exact hp)
  refine ⟨⟨fun a u e => (upd_ne (ne_of_none (g.sub _ _ e) hp)).trans (g.sub _ _ e), hg H _ g.g fun a u e _ => (upd_ne (ne_of_none e hp)).trans e, g.vs, fun a v => by rw [upd_ne (nv a v)]; exact g.vh a v, fun a u e => ?_, g.tp⟩, Same.refl S, fun a u _ e _ => (upd_ne (ne_of_none e hp)).trans e, fun a u e => .inl e, dm_upd⟩
  by_cases h : a = p
  · subst h; rw [upd_same] at e; cases e; exact hz
  · rw [upd_ne h] at e; exact g.sz _ _ e
/-- an object that is not stable nor volatile is written -/
theorem Good.putX {vol : Addr → Prop} {G : Hp → Prop} {S H : Hp} (g : Good vol G S H) (hg : GSt vol G) {p : Addr} {o u : HO} (hp : H p = some u) (nu : ∀ c q, u ≠ LamX.CodeO c q) (nS : S p = none) (nv : ¬ vol p) (hz : SzO o) : Good vol G S (upd H p o) := by
  refine ⟨fun a w e => (upd_ne fun q => by rw [q, nS] at e; cases e).trans (g.sub _ _ e), hg H _ g.g fun a w e hv => (upd_ne fun q => ?_).trans e, g.vs, fun a v => by rw [upd_ne (fun q => nv (by rw [← q]; exact v))]; exact g.vh a v, fun a w e => ?_, g.tp⟩
  · rw [q] at e hv
    rcases hv with hv | ⟨c, qq, hv⟩
    · exact nv hv
    · rw [hp] at e; cases e; exact nu c qq hv
  · by_cases h : a = p
    · subst h; rw [upd_same] at e; cases e; exact hz
    · rw [upd_ne h] at e; exact g.sz _ _ e
theorem Good.put {vol : Addr → Prop} {G : Hp → Prop} {S H : Hp} (g : Good vol G S H) (hg : GSt vol G) {p : Addr} {o u : HO} (hp : H p = some u) (nu : ∀ φ, u ≠ .ext φ) (nS : S p = none) (nv : ¬ vol p) (hz : SzO o) : Good vol G S (upd H p o) :=
  g.putX hg hp (fun c q => nu _) nS nv hz
theorem Stp.put {vol : Addr → Prop} {S0 H0 S H : Hp} (t : Stp vol S0 H0 S H) {p : Addr} {o : HO} (h0 : H0 p = none) : Stp vol S0 H0 S (upd H p o) :=
  ⟨t.ss, fun a u n e nt => (upd_ne (ne_of_none e h0)).trans (t.hx a u n e nt), t.nw, fun a h => t.dm a (dm_upd a h)⟩
/-- an own object becomes stable -/
theorem Good.freeze {vol : Addr → Prop} {G : Hp → Prop} {S H : Hp} (g : Good vol G S H) {p : Addr} {o : HO} (hp : H p = some o) (nv : ¬ vol p) (ht : TpO o := by trivial) : Good vol G (upd S p o) H := by
  refine ⟨fun a u e => ?_, g.g, fun a v => (upd_ne (fun q => nv (by rw [← q]; exact v))).trans (g.vs a v), g.vh, g.sz, fun a u e => ?_⟩
  · by_cases h : a = p
    · subst h; rw [upd_same] at e; cases e; exact hp
    · rw [upd_ne h] at e; exact g.sub _ _ e
  · by_cases h : a = p
    · subst h; rw [upd_same] at e; cases e; exact ht
    · rw [upd_ne h] at e; exact g.tp _ _ e
theorem Stp.freeze {vol : Addr → Prop} {S0 H0 S H : Hp} (t : Stp vol S0 H0 S H) {p : Addr} {o : HO} (nS : S p = none) (h0 : H0 p = none) : Stp vol S0 H0 (upd S p o) H :=
  ⟨t.ss.trans fun a u e => (upd_ne (ne_of_none e nS)).trans e, t.hx, fun a u e => by
    by_cases h : a = p
    · subst h; exact .inr h0
    · rw [upd_ne h] at e; exact t.nw a u e, t.dm⟩
theorem same_upd {S : Hp} {p : Addr} {o : HO} (nS : S p = none) : Same S (upd S p o) := fun a u e => (upd_ne (ne_of_none e nS)).trans e

/-! ### what may be read: a stable value, or an own list or dict at hand -/
def RepH (vol : Addr → Prop) (K : PySem.W.Frag) (S H : Hp) (v : V) : D → Prop
  | .list ds => ∃ a vs, v = .ref a ∧ DpAll K S vs ds ∧ (SqL K S a vs ∨ (H a = some (.lst vs) ∧ ¬ vol a ∧ S a = none))
  | .dict kvs => ∃ a, v = .ref a ∧ DcAt K S H a kvs ∧ ¬ vol a
  | .none => Dp K S v .none
  | .bool b => Dp K S v (.bool b)
  | .int i => Dp K S v (.int i)
  | .str x => Dp K S v (.str x)
  | .tuple ds => Dp K S v (.tuple ds)
theorem RepH.of {vol : Addr → Prop} {G : Hp → Prop} {S H : Hp} {v : V} {d : D} (g : Good vol G S H) (h : Rep K S v d) : RepH vol K S H v d := by
  cases d with
  | list ds =>
    cases h with
    | lst hs ha => exact ⟨_, _, rfl, ha, .inl hs⟩
  | dict kvs =>
    obtain ⟨a, rfl, h⟩ := h
    obtain ⟨o, ho, _⟩ := h.some
    exact ⟨a, rfl, h.mono (Same.refl S) (by rw [ho, g.sub _ _ ho]), fun v => by rw [g.vs a v] at ho; cases ho⟩
  | _ => exact h
theorem RepH.step {vol : Addr → Prop} {S H S' H' : Hp} {v : V} {d : D} (t : Stp vol S H S' H') (h : RepH vol K S H v d) : RepH vol K S' H' v d := by
  cases d with
  | list ds =>
    obtain ⟨a, vs, rfl, ha, h⟩ := h
    refine ⟨a, vs, rfl, DpAll.mono t.ss ha, ?_⟩
    rcases h with h | ⟨h1, h2, h3⟩
    · exact .inl (SqL.mono t.ss h)
    · exact .inr ⟨t.hh _ _ h2 h1, h2, t.no h3 h1⟩
  | dict kvs =>
    obtain ⟨a, rfl, h, n⟩ := h
    obtain ⟨es', ho, _⟩ := _root_.id h
    exact ⟨a, rfl, h.mono t.ss (by rw [ho, t.hh _ _ n ho]), n⟩
  | _ => exact Dp.mono t.ss h
/-- as the hand layer has it, over H -/
theorem RepH.dp {vol : Addr → Prop} {G : Hp → Prop} {S H : Hp} {v : V} {d : D} (g : Good vol G S H) (h : RepH vol K S H v d) (n : isDic d = false) : Dp K H v d := by
  cases d with
  | list ds =>
    obtain ⟨a, vs, rfl, ha, h⟩ := h
    refine .lst ?_ (DpAll.mono g.sub ha)
    rcases h with h | ⟨h1, _, _⟩
    · exact SqL.mono g.sub h
    · exact SqL.of h1
  | dict kvs => cases n
  | _ => exact Dp.mono g.sub h
theorem RepH.lst {vol : Addr → Prop} {G : Hp → Prop} {S H : Hp} {v : V} {ds : List D} (g : Good vol G S H) (h : RepH vol K S H v (.list ds)) : ∃ a vs, v = .ref a ∧ DpAll K S vs ds ∧ SqL K H a vs ∧ vs.length ≤ sizeLine := by
  obtain ⟨a, vs, rfl, ha, h⟩ := h
  have q : SqL K H a vs := by
    rcases h with h | ⟨h1, _, _⟩
    · exact SqL.mono g.sub h
    · exact SqL.of h1
  refine ⟨a, vs, rfl, ha, q, ?_⟩
  rcases q with (q | ⟨o, q⟩) | ⟨o, its, n, h1, h2, h3, h4, h5, h6⟩
  · exact g.sz _ _ q
  · exact g.sz _ _ q
  · have e := h6.length
    simp only [Array.length_toList] at e
    omega
theorem RepH.tup {vol : Addr → Prop} {G : Hp → Prop} {S H : Hp} {v : V} {ds : List D} (g : Good vol G S H) (h : RepH vol K S H v (.tuple ds)) : ∃ a vs, v = .ref a ∧ DpAll K S vs ds ∧ SqT K S a vs ∧ vs.length ≤ sizeLine := by
  have h : Dp K S v (.tuple ds) := h
  cases h with
  | tup hs ha =>
    refine ⟨_, _, rfl, ha, hs, ?_⟩
    rcases SqT.mono g.sub hs with (q | ⟨o, q⟩) | ⟨o, its, n, h1, h2, h3, h5, h6⟩
    · exact g.sz _ _ q
    · exact g.sz _ _ q
    · have e := h6.length
      simp only [Array.length_toList] at e
      omega
end
end Pu

set_option Elab.async false
set_option linter.all false
set_option maxRecDepth 100000
set_option maxHeartbeats 4000000
/-! Pure readings: judgements, names, constants, operators, tests. -/
namespace Pu
open PySem PySem.Spec L2
open PyProof.Rows hiding St

theorem blkK {X : Cx} {s : Shared} {H : Hp} {sc : Scope} {env : Env} {fp : List Addr} : (X.blk s H sc env fp).K = X.K := rfl
theorem blkK2 {X : Cx} {s s2 : Shared} {H H2 : Hp} {sc sc2 : Scope} {env env2 : Env} {fp fp2 : List Addr} : ((X.blk s H sc env fp).blk s2 H2 sc2 env2 fp2).K = X.K := rfl
abbrev ME := List Sl → (D → Prop) → Prop
abbrev MT := List Sl → (Bool → Prop) → Prop
abbrev ML := List Sl → (List D → Prop) → Prop
abbrev MA := List Sl → (List Sl → Prop) → Prop
structure PEn where
  nx : List Sl → Prop
  rt : D → Prop
  bk : List Sl → Prop := fun _ => False
  ct : List Sl → Prop := fun _ => False
abbrev MS := List Sl → PEn → Prop
/-- no dict -/
def nd : D → Prop → Prop
  | .dict _, _ => False
  | _, p => p
theorem nd_iff {d : D} {p : Prop} (h : nd d p) : isDic d = false ∧ p := by
  cases d <;> first | exact ⟨rfl, h⟩ | cases h
def ArgOk (K : PySem.W.Frag) (S : Hp) : V → Sl → Prop
  | v, .da d => Rep K S v d
  | v, .rw u => v = u
  | _, _ => False
theorem ArgOk.mono {K : PySem.W.Frag} {S S' : Hp} (e : Same S S') {v : V} {s : Sl} (h : ArgOk K S v s) : ArgOk K S' v s := by
  cases s with
  | da d => exact Rep.mono e h
  | rw u => exact h
  | _ => exact h
abbrev ArgsOk (K : PySem.W.Frag) (S : Hp) : List V → List Sl → Prop := Paired (ArgOk K S)
theorem paired_len {α β : Type} {F : α → β → Prop} : ∀ {l₁ : List α} {l₂ : List β}, Paired F l₁ l₂ → l₁.length = l₂.length
  | _, _, .nil => rfl
  | _, _, .cons _ t => by simp only [List.length_cons]; rw [paired_len t]

/-- the own lists behind are those ahead -/
def OwS (σ : St) (ρ : List Sl) (σ' : St) (ρ' : List Sl) : Prop := ∀ j, (gt ρ' j).own = true → (gt ρ j).own = true ∧ NdefX.slotAt σ' j = NdefX.slotAt σ j
section
variable {K : PySem.W.Frag} (C : GC K)
def RdE (t : TE) (m : ME) : Prop := ∀ S H σ ρ P (Q : VK), Rel C S H σ ρ → m ρ P → (∀ d S' H' v, P d → Stp C.vol S H S' H' → Good C.vol C.G S' H' → Rep K S' v d → Q v H') → t σ H Q
def RdB (t : TE) (m : ME) : Prop := ∀ S H σ ρ P (Q : VK), Rel C S H σ ρ → m ρ P → (∀ d S' H' v, P d → Stp C.vol S H S' H' → Good C.vol C.G S' H' → RepH C.vol K S' H' v d → Q v H') → t σ H Q
/-- a new list, one's own -/
def RdO (t : TE) (m : ML) : Prop := ∀ S H σ ρ P (Q : VK), Rel C S H σ ρ → m ρ P → (∀ ds S' H' l vs, P ds → Stp C.vol S H S' H' → Good C.vol C.G S' H' → H' l = some (.lst vs) → S' l = none → H l = none → ¬ C.vol l → DpAll K S' vs ds → Q (.ref l) H') → t σ H Q
def RdT (t : TT) (m : MT) : Prop := ∀ S H σ ρ P (Q : Bool → Hp → Prop), Rel C S H σ ρ → m ρ P → (∀ b S' H', P b → Stp C.vol S H S' H' → Good C.vol C.G S' H' → Q b H') → t σ H Q
def RdA (t : TA) (m : MA) : Prop := ∀ S H σ ρ P (Q : List V → Hp → Prop), Rel C S H σ ρ → m ρ P → (∀ as S' H' vs, P as → Stp C.vol S H S' H' → Good C.vol C.G S' H' → ArgsOk K S' vs as → Q vs H') → t σ H Q
def RdAB (t : TA) (m : ML) : Prop := ∀ S H σ ρ P (Q : List V → Hp → Prop), Rel C S H σ ρ → m ρ P → (∀ ds S' H' vs, P ds → Stp C.vol S H S' H' → Good C.vol C.G S' H' → Paired (RepH C.vol K S' H') vs ds → Q vs H') → t σ H Q
def RdS (t : TS) (m : MS) : Prop := ∀ S H σ ρ (E : PEn) (N : Ends), Rel C S H σ ρ → m ρ E →
  (∀ ρ' S' H' σ', E.nx ρ' → Same S S' → Rel C S' H' σ' ρ' → N.nx σ' H') →
  (∀ d S' H' v, E.rt d → Good C.vol C.G S' H' → Stp C.vol C.S0 C.H0 S' H' → Rep K S' v d → N.rt v H') →
  (∀ ρ' S' H' σ', E.bk ρ' → Same S S' → Rel C S' H' σ' ρ' → N.bk σ' H') →
  (∀ ρ' S' H' σ', E.ct ρ' → Same S S' → Rel C S' H' σ' ρ' → N.ct σ' H') → t N σ H
/-- a target that stores at the slots is -/
def RdG (g : TG) (is : List Nat) (mg : D → List Sl → (List Sl → Prop) → Prop) : Prop := ∀ S H σ ρ v d P (Q : St → Hp → Prop), Rel C S H σ ρ → Rep K S v d → mg d ρ P →
  (∀ ρ' σ', P ρ' → Rel C S H σ' ρ' → (∀ j, j ∉ is → σ'[j]? = σ[j]?) → σ'.length = σ.length → OwS σ ρ σ' ρ' → Q σ' H) → g v σ H Q
/-- the iterator J yields ds where R stands -/
def ItOk (J : It) (R : Hp → Hp → Prop) (ds : List D) : Prop := ds.length ≤ sizeLine ∧ ∀ i S H, R S H → (i < ds.length → J.go i H ∧ ∀ x H', J.yld i H x H' → ∃ d S', ds[i]? = some d ∧ Stp C.vol S H S' H' ∧ Good C.vol C.G S' H' ∧ Rep K S' x d) ∧ (i = ds.length → J.stop i H)
def RdI (t : TI) (m : ML) : Prop := ∀ S H σ ρ P (Rk : It → Hp → Prop), Rel C S H σ ρ → m ρ P → (∀ ds S' H' J, P ds → Stp C.vol S H S' H' → Good C.vol C.G S' H' → ItOk C J (fun S'' H'' => Same S' S'' ∧ Good C.vol C.G S'' H'') ds → Rk J H') → t σ H Rk
def RdIB (t : TI) (m : ML) : Prop := ∀ S H σ ρ P (Rk : It → Hp → Prop), Rel C S H σ ρ → m ρ P → (∀ ds S' H' J, P ds → Stp C.vol S H S' H' → Good C.vol C.G S' H' → ItOk C J (fun S'' H'' => Stp C.vol S' H' S'' H'' ∧ Good C.vol C.G S'' H'') ds → Rk J H') → t σ H Rk
end
def mL (m : ML) : ME := fun ρ P => m ρ fun ds => P (.list ds)
section
variable {K : PySem.W.Frag} {C : GC K}
theorem RdE.b {t : TE} {m : ME} (h : RdE C t m) : RdB C t m := fun S H σ ρ P Q r hm k => h S H σ ρ P Q r hm fun d S' H' v p s g q => k d S' H' v p s g (RepH.of g q)
theorem RdO.e {t : TE} {m : ML} (h : RdO C t m) : RdE C t (mL m) := fun S H σ ρ P Q r hm k => h S H σ ρ _ Q r hm fun ds S' H' l vs p s g h1 h2 h3 h4 h5 =>
  k (.list ds) (upd S' l (.lst vs)) H' (.ref l) p (s.freeze h2 h3) (g.freeze h1 h4) (.lst (SqL.of upd_same) (DpAll.mono (same_upd h2) h5))
theorem RdI.b {t : TI} {m : ML} (h : RdI C t m) : RdIB C t m := fun S H σ ρ P Q r hm k => h S H σ ρ P Q r hm fun ds S' H' J p s g i => k ds S' H' J p s g ⟨i.1, fun j S'' H'' z => i.2 j S'' H'' ⟨z.1.ss, z.2⟩⟩

/-! ### judgements with their derivations -/
structure PP (X : Cx) (C : GC X.K) (e : Expr) (t : TE) (m : ME) : Prop where
  pe : PE X e t
  rd : RdE C t m
structure PB (X : Cx) (C : GC X.K) (e : Expr) (t : TE) (m : ME) : Prop where
  pe : PE X e t
  rd : RdB C t m
structure PO' (X : Cx) (C : GC X.K) (e : Expr) (t : TE) (m : ML) : Prop where
  pe : PE X e t
  rd : RdO C t m
structure PQ (X : Cx) (C : GC X.K) (e : Expr) (t : TT) (m : MT) : Prop where
  pe : PT X e t
  rd : RdT C t m
structure PQW (X : Cx) (C : GC X.K) (e : Expr) (t : TT) (m : MT) : Prop where
  pe : PW X e t
  rd : RdT C t m
structure PAr (X : Cx) (C : GC X.K) (es : List Expr) (t : TA) (m : MA) : Prop where
  pe : PA X es t
  rd : RdA C t m
structure PAB (X : Cx) (C : GC X.K) (es : List Expr) (t : TA) (m : ML) : Prop where
  pe : PA X es t
  rd : RdAB C t m
structure PSt (X : Cx) (C : GC X.K) (s : Stmt) (t : TS) (m : MS) : Prop where
  pe : PS X s t
  rd : RdS C t m
structure PSL (X : Cx) (C : GC X.K) (b : List Stmt) (t : TS) (m : MS) : Prop where
  pe : PSs X b t
  rd : RdS C t m
structure PGt (X : Cx) (C : GC X.K) (e : Expr) (g : TG) (is : List Nat) (m : D → List Sl → (List Sl → Prop) → Prop) : Prop where
  pe : PG X e g
  rd : RdG C g is m
structure PIt (X : Cx) (C : GC X.K) (tg e : Expr) (t : TI) (m : ML) : Prop where
  pe : PI X tg e t
  rd : RdI C t m
structure PIb (X : Cx) (C : GC X.K) (tg e : Expr) (t : TI) (m : ML) : Prop where
  pe : PI X tg e t
  rd : RdIB C t m
end

/-! ### names, constants -/
section
variable {X : Cx} {C : GC X.K} {a b : Expr} {ta tb : TE} {ma mb : ME} {pos : Pos}
theorem PP.toB (h : PP X C a ta ma) : PB X C a ta ma := ⟨h.pe, h.rd.b⟩
theorem PO'.e {m : ML} (h : PO' X C a ta m) : PP X C a ta (mL m) := ⟨h.pe, h.rd.e⟩
theorem PO'.toB {m : ML} (h : PO' X C a ta m) : PB X C a ta (mL m) := h.e.toB
theorem PIt.toB {tg : Expr} {t : TI} {m : ML} (h : PIt X C tg a t m) : PIb X C tg a t m := ⟨h.pe, h.rd.b⟩
def mVar (i : Nat) : ME := fun ρ P => match gt ρ i with
  | .da d => P d
  | _ => False
def mVarB (i : Nat) : ME := fun ρ P => match gt ρ i with
  | .da d => P d
  | .ow ds => P (.list ds)
  | .od kvs => P (.dict kvs)
  | _ => False
theorem rd_var {i : Nat} : RdE C (tVar i) (mVar i) := by
  intro S H σ ρ P Q r hm k
  unfold mVar at hm
  have hs := r.sl i
  cases e : gt ρ i with
  | da d =>
    rw [e] at hm hs
    obtain ⟨v, e1, q⟩ := hs
    exact ⟨v, NdefX.slotAt_some e1, k d S H v hm Stp.refl r.good q⟩
  | _ => rw [e] at hm; exact hm.elim
theorem rd_varB {i : Nat} : RdB C (tVar i) (mVarB i) := by
  intro S H σ ρ P Q r hm k
  unfold mVarB at hm
  have hs := r.sl i
  cases e : gt ρ i with
  | da d =>
    rw [e] at hm hs
    obtain ⟨v, e1, q⟩ := hs
    exact ⟨v, NdefX.slotAt_some e1, k d S H v hm Stp.refl r.good (RepH.of r.good q)⟩
  | ow ds =>
    rw [e] at hm hs
    obtain ⟨l, vs, e1, h1, h2, h3, h4, h5⟩ := hs
    exact ⟨_, NdefX.slotAt_some e1, k _ S H _ hm Stp.refl r.good ⟨l, vs, rfl, h5, .inr ⟨h1, h4, h2⟩⟩⟩
  | od kvs =>
    rw [e] at hm hs
    obtain ⟨l, e1, h1, h2, h3, h4⟩ := hs
    exact ⟨_, NdefX.slotAt_some e1, k _ S H _ hm Stp.refl r.good ⟨l, rfl, h1, h4⟩⟩
  | _ => rw [e] at hm; exact hm.elim
theorem p_var (i : Nat) {x : Str} (hN : X.N[i]? = some x := by rfl) (hv : Vis X.env.scope x := by first | exact Or.inl rfl | exact Or.inr (Or.inl rfl) | exact Or.inr (Or.inr rfl)) (hd : (x == ("__debug__" : Str)) = false := by decide)
    (hcd : (x == ("__classdict__" : Str)) = false := by decide) : PP X C (.Name x pos) (tVar i) (mVar i) := ⟨pe_var hN hv hd hcd, rd_var⟩
theorem p_varB (i : Nat) {x : Str} (hN : X.N[i]? = some x := by rfl) (hv : Vis X.env.scope x := by first | exact Or.inl rfl | exact Or.inr (Or.inl rfl) | exact Or.inr (Or.inr rfl)) (hd : (x == ("__debug__" : Str)) = false := by decide)
    (hcd : (x == ("__classdict__" : Str)) = false := by decide) : PB X C (.Name x pos) (tVar i) (mVarB i) := ⟨pe_var hN hv hd hcd, rd_varB⟩
def mC (d : D) : ME := fun _ P => P d
theorem rd_const {v : V} {d : D} (h : ∀ S, Rep X.K S v d) : RdE C (tC v) (mC d) := fun S H σ ρ P Q r hm k => k d S H v hm Stp.refl r.good (h S)
theorem p_int {i : Int} {j : Nat} : PP X C (.Constant (.int i) j pos) (tC (.int i)) (mC (.int i)) := ⟨pe_int, rd_const fun S => Dp.int i⟩
theorem p_str {x : Str} {j : Nat} : PP X C (.Constant (.str x) j pos) (tC (.str x)) (mC (.str x)) := ⟨pe_str, rd_const fun S => Dp.str x⟩
theorem p_bool {x : Bool} {j : Nat} : PP X C (.Constant (.bool x) j pos) (tC (.bl x)) (mC (.bool x)) := ⟨pe_bl, rd_const fun S => Dp.bl x⟩
theorem p_none {j : Nat} : PP X C (.Constant .none j pos) (tC .non) (mC .none) := ⟨pe_non, rd_const fun S => Dp.non⟩
/-- a constant of the module -/
theorem p_glob {x : Str} {v : V} {u : Value} {d : D} (hm : X.mg x = some u) (r : RelV v u) (h : ∀ S, Rep X.K S v d) (hg : Gl X x := by rfl) (hd : (x == ("__debug__" : Str)) = false := by decide) : PP X C (.Name x pos) (tC v) (mC d) := ⟨pe_glob hg hm r hd, rd_const h⟩

/-! ### operators of two -/
def mBin (op : D → D → (D → Prop) → Prop) (ma mb : ME) : ME := fun ρ P => ma ρ fun d => mb ρ fun e => op d e P
def R2Ok (C : GC X.K) (r : R2) (op : D → D → (D → Prop) → Prop) : Prop := ∀ S H x y d e P (Q : VK), Good C.vol C.G S H → RepH C.vol X.K S H x d → RepH C.vol X.K S H y e → op d e P →
  (∀ d' S' H' v, P d' → Stp C.vol S H S' H' → Good C.vol C.G S' H' → Rep X.K S' v d' → Q v H') → r x y H Q
theorem rd_op {r : R2} {op : D → D → (D → Prop) → Prop} (ha : RdB C ta ma) (hb : RdB C tb mb) (h : R2Ok C r op) : RdE C (tOp r ta tb) (mBin op ma mb) := by
  intro S H σ ρ P Q rl hm k
  refine ha S H σ ρ _ _ rl hm fun d S1 H1 x p1 s1 g1 r1 => ?_
  refine hb S1 H1 σ ρ _ _ (rl.step s1 g1) p1 fun e S2 H2 y p2 s2 g2 r2 => ?_
  have s12 := s1.trans g1 s2
  exact h S2 H2 x y d e P Q g2 (r1.step s2) r2 p2 fun d' S' H' v pd s g q => k d' S' H' v pd (s12.trans g2 s) g q
theorem p_bin {op : Operator} {r : R2} {mop : D → D → (D → Prop) → Prop} (ho : OpR X (binaryOp op) r) (h : R2Ok C r mop) (ha : PB X C a ta ma) (hb : PB X C b tb mb) : PP X C (.BinOp a op b pos) (tOp r ta tb) (mBin mop ma mb) := ⟨pe_op ho ha.pe hb.pe, rd_op ha.rd hb.rd h⟩
theorem p_cmp {op : CmpOp} {r : R2} {mop : D → D → (D → Prop) → Prop} (ho : OpR X (compareOp op) r) (h : R2Ok C r mop) (ha : PB X C a ta ma) (hb : PB X C b tb mb) (hm : behindInMarks op b = false := by first | exact nomark _ | rfl) : PP X C (.Compare a [op] [b] pos) (tOp r ta tb) (mBin mop ma mb) := ⟨pe_cmpR ho ha.pe hb.pe hm, rd_op ha.rd hb.rd h⟩

theorem R2Ok.or {r r' : R2} {op op' : D → D → (D → Prop) → Prop} (h : R2Ok C r op) (h' : R2Ok C r' op') : R2Ok C (fun x y H Q => r x y H Q ∨ r' x y H Q) (fun d e P => op d e P ∨ op' d e P) := fun S H x y d e P Q g r1 r2 p k => by
  rcases p with p | p
  · exact .inl (h S H x y d e P Q g r1 r2 p k)
  · exact .inr (h' S H x y d e P Q g r1 r2 p k)
/-! ints -/
def oI (f : Int → Int → D) : D → D → (D → Prop) → Prop
  | .int i, .int j, P => P (f i j)
  | _, _, _ => False
def oIC (c : Int → Int → Prop) (f : Int → Int → D) : D → D → (D → Prop) → Prop
  | .int i, .int j, P => c i j ∧ P (f i j)
  | _, _, _ => False
theorem oI_of {f : Int → Int → D} {d e : D} {P : D → Prop} (h : oI f d e P) : ∃ i j, d = .int i ∧ e = .int j ∧ P (f i j) := by
  cases d <;> first | exact (h : False).elim | (cases e <;> first | exact (h : False).elim | exact ⟨_, _, rfl, rfl, h⟩)
theorem oIC_of {c : Int → Int → Prop} {f : Int → Int → D} {d e : D} {P : D → Prop} (h : oIC c f d e P) : ∃ i j, d = .int i ∧ e = .int j ∧ c i j ∧ P (f i j) := by
  cases d <;> first | exact (h : False).elim | (cases e <;> first | exact (h : False).elim | exact ⟨_, _, rfl, rfl, h⟩)
theorem rint {vol : Addr → Prop} {S H : Hp} {v : V} {i : Int} (h : RepH vol X.K S H v (.int i)) : v = .int i := by cases (show Dp X.K S v (.int i) from h); rfl
theorem rstr {vol : Addr → Prop} {S H : Hp} {v : V} {i : Str} (h : RepH vol X.K S H v (.str i)) : v = .str i := by cases (show Dp X.K S v (.str i) from h); rfl
theorem rbool {vol : Addr → Prop} {S H : Hp} {v : V} {i : Bool} (h : RepH vol X.K S H v (.bool i)) : v = .bl i := by cases (show Dp X.K S v (.bool i) from h); rfl
theorem rnone {vol : Addr → Prop} {S H : Hp} {v : V} (h : RepH vol X.K S H v .none) : v = .non := by cases (show Dp X.K S v .none from h); rfl
theorem r2_int {g : Int → Int → V} {f : Int → Int → D} (h : ∀ i j S, Rep X.K S (g i j) (f i j)) : R2Ok C (rI0 g) (oI f) := fun S H x y d e P Q gd r1 r2 p k => by
  obtain ⟨i, j, rfl, rfl, p⟩ := oI_of p
  exact ⟨i, j, rint r1, rint r2, k _ S H _ p Stp.refl gd (h i j S)⟩
theorem r2_intC {c : Int → Int → Prop} {g : Int → Int → V} {f : Int → Int → D} (h : ∀ i j S, Rep X.K S (g i j) (f i j)) : R2Ok C (rI c g) (oIC c f) := fun S H x y d e P Q gd r1 r2 p k => by
  obtain ⟨i, j, rfl, rfl, hc, p⟩ := oIC_of p
  exact ⟨i, j, rint r1, rint r2, hc, k _ S H _ p Stp.refl gd (h i j S)⟩
abbrev z_add : R2 := rI0 fun i j => .int (i + j)
abbrev o_add : D → D → (D → Prop) → Prop := oI fun i j => .int (i + j)
theorem r2_add : R2Ok C z_add o_add := r2_int fun i j S => Dp.int _
abbrev z_sub : R2 := rI0 fun i j => .int (i - j)
abbrev o_sub : D → D → (D → Prop) → Prop := oI fun i j => .int (i - j)
theorem r2_sub : R2Ok C z_sub o_sub := r2_int fun i j S => Dp.int _
abbrev z_mul : R2 := rI CMul fun i j => .int (i * j)
abbrev o_mul : D → D → (D → Prop) → Prop := oIC CMul fun i j => .int (i * j)
theorem r2_mul : R2Ok C z_mul o_mul := r2_intC fun i j S => Dp.int _
abbrev z_mod : R2 := rI (fun _ j => 0 < j) fun i j => .int (i % j)
abbrev o_mod : D → D → (D → Prop) → Prop := oIC (fun _ j => 0 < j) fun i j => .int (i % j)
theorem r2_mod : R2Ok C z_mod o_mod := r2_intC fun i j S => Dp.int _
abbrev z_fdiv : R2 := rI CDiv fun i j => .int (i / j)
abbrev o_fdiv : D → D → (D → Prop) → Prop := oIC CDiv fun i j => .int (i / j)
theorem r2_fdiv : R2Ok C z_fdiv o_fdiv := r2_intC fun i j S => Dp.int _
abbrev z_lt : R2 := rI0 fun i j => .bl (decide (i < j))
abbrev o_lt : D → D → (D → Prop) → Prop := oI fun i j => .bool (decide (i < j))
theorem r2_lt : R2Ok C z_lt o_lt := r2_int fun i j S => Dp.bl _
abbrev z_le : R2 := rI0 fun i j => .bl (decide (i ≤ j))
abbrev o_le : D → D → (D → Prop) → Prop := oI fun i j => .bool (decide (i ≤ j))
theorem r2_le : R2Ok C z_le o_le := r2_int fun i j S => Dp.bl _
abbrev z_gt : R2 := rI0 fun i j => .bl (decide (j < i))
abbrev o_gt : D → D → (D → Prop) → Prop := oI fun i j => .bool (decide (j < i))
theorem r2_gt : R2Ok C z_gt o_gt := r2_int fun i j S => Dp.bl _
abbrev z_ge : R2 := rI0 fun i j => .bl (decide (j ≤ i))
abbrev o_ge : D → D → (D → Prop) → Prop := oI fun i j => .bool (decide (j ≤ i))
theorem r2_ge : R2Ok C z_ge o_ge := r2_int fun i j S => Dp.bl _
theorem p_add (ha : PB X C a ta ma) (hb : PB X C b tb mb) : PP X C (.BinOp a .Add b pos) (tOp z_add ta tb) (mBin o_add ma mb) := p_bin op_add r2_add ha hb
theorem p_sub (ha : PB X C a ta ma) (hb : PB X C b tb mb) : PP X C (.BinOp a .Sub b pos) (tOp z_sub ta tb) (mBin o_sub ma mb) := p_bin op_sub r2_sub ha hb
theorem p_mul (ha : PB X C a ta ma) (hb : PB X C b tb mb) : PP X C (.BinOp a .Mult b pos) (tOp z_mul ta tb) (mBin o_mul ma mb) := p_bin op_mul r2_mul ha hb
theorem p_mod (ha : PB X C a ta ma) (hb : PB X C b tb mb) : PP X C (.BinOp a .Mod b pos) (tOp z_mod ta tb) (mBin o_mod ma mb) := p_bin op_mod r2_mod ha hb
theorem p_fdiv (ha : PB X C a ta ma) (hb : PB X C b tb mb) : PP X C (.BinOp a .FloorDiv b pos) (tOp z_fdiv ta tb) (mBin o_fdiv ma mb) := p_bin op_fdiv r2_fdiv ha hb
theorem p_lt (ha : PB X C a ta ma) (hb : PB X C b tb mb) : PP X C (.Compare a [.Lt] [b] pos) (tOp z_lt ta tb) (mBin o_lt ma mb) := p_cmp op_lt r2_lt ha hb
theorem p_le (ha : PB X C a ta ma) (hb : PB X C b tb mb) : PP X C (.Compare a [.LtE] [b] pos) (tOp z_le ta tb) (mBin o_le ma mb) := p_cmp op_le r2_le ha hb
theorem p_gt (ha : PB X C a ta ma) (hb : PB X C b tb mb) : PP X C (.Compare a [.Gt] [b] pos) (tOp z_gt ta tb) (mBin o_gt ma mb) := p_cmp op_gt r2_gt ha hb
theorem p_ge (ha : PB X C a ta ma) (hb : PB X C b tb mb) : PP X C (.Compare a [.GtE] [b] pos) (tOp z_ge ta tb) (mBin o_ge ma mb) := p_cmp op_ge r2_ge ha hb
/-! ==, != of data -/
def oEq (neg : Bool) : D → D → (D → Prop) → Prop := fun d e P => SeqAt.shaped d = true ∧ SeqAt.shaped e = true ∧ P (.bool (if neg then !PyData.eqv d e else PyData.eqv d e))
theorem shaped_nd {d : D} (h : SeqAt.shaped d = true) : isDic d = false := by
  cases d with
  | dict kvs =>
    exfalso
    have h : (PyData.canLay0 (.dict kvs) && decide (PyData.depth (.dict kvs) ≤ 64)) = true := h
    rw [Bool.and_eq_true] at h
    have h1 := h.1
    simp [PyData.canLay0] at h1
  | _ => rfl
theorem r2_eqD : R2Ok C (rEqD X.K) (oEq false) := fun S H x y d e P Q gd r1 r2 p k => by
  obtain ⟨s1, s2, p⟩ := p
  exact ⟨d, e, r1.dp gd (shaped_nd s1), r2.dp gd (shaped_nd s2), s1, s2, k _ S H _ p Stp.refl gd (Dp.bl _)⟩
theorem r2_neD : R2Ok C (rNeD X.K) (oEq true) := fun S H x y d e P Q gd r1 r2 p k => by
  obtain ⟨s1, s2, p⟩ := p
  exact ⟨d, e, r1.dp gd (shaped_nd s1), r2.dp gd (shaped_nd s2), s1, s2, k _ S H _ p Stp.refl gd (Dp.bl _)⟩
theorem p_eq {K₁ : PySem.W.Frag} (hu : X.A.units + 64 < cLine) (ha : PB X C a ta ma) (hb : PB X C b tb mb) (hK₁ : X.K = K₁ := by first | exact blkK2 | exact blkK | exact rfl) : PP X C (.Compare a [.Eq] [b] pos) (tOp (rEqD K₁) ta tb) (mBin (oEq false) ma mb) := by subst hK₁; exact (p_cmp (op_eqD hu) r2_eqD ha hb)
theorem p_ne {K₁ : PySem.W.Frag} (hu : X.A.units + 64 < cLine) (ha : PB X C a ta ma) (hb : PB X C b tb mb) (hK₁ : X.K = K₁ := by first | exact blkK2 | exact blkK | exact rfl) : PP X C (.Compare a [.NotEq] [b] pos) (tOp (rNeD K₁) ta tb) (mBin (oEq true) ma mb) := by subst hK₁; exact (p_cmp (op_neD hu) r2_neD ha hb)
/-! ### tests -/
def mTest (m : ME) : MT := fun ρ P => m ρ fun d => match d with
  | .bool b => P b
  | _ => False
theorem rd_test {t : TE} {m : ME} (h : RdB C t m) : RdT C (tTest t) (mTest m) := by
  intro S H σ ρ P Q rl hm k
  refine h S H σ ρ _ _ rl hm fun d S1 H1 x p1 s1 g1 r1 => ?_
  cases d with
  | bool b => exact ⟨b, rbool r1, k b S1 H1 p1 s1 g1⟩
  | _ => exact (p1 : False).elim
theorem q_cmp {op : CmpOp} {r : R2} {mop : D → D → (D → Prop) → Prop} (ho : OpR X (compareOp op) r) (h : R2Ok C r mop) (ha : PB X C a ta ma) (hb : PB X C b tb mb) (hm : behindInMarks op b = false := by first | exact nomark _ | rfl) : PQ X C (.Compare a [op] [b] pos) (tTest (tOp r ta tb)) (mTest (mBin mop ma mb)) := ⟨pt_cmpR ho ha.pe hb.pe hm, rd_test (rd_op ha.rd hb.rd h).b⟩
theorem q_lt (ha : PB X C a ta ma) (hb : PB X C b tb mb) : PQ X C (.Compare a [.Lt] [b] pos) (tTest (tOp z_lt ta tb)) (mTest (mBin o_lt ma mb)) := q_cmp op_lt r2_lt ha hb
theorem q_le (ha : PB X C a ta ma) (hb : PB X C b tb mb) : PQ X C (.Compare a [.LtE] [b] pos) (tTest (tOp z_le ta tb)) (mTest (mBin o_le ma mb)) := q_cmp op_le r2_le ha hb
theorem q_gt (ha : PB X C a ta ma) (hb : PB X C b tb mb) : PQ X C (.Compare a [.Gt] [b] pos) (tTest (tOp z_gt ta tb)) (mTest (mBin o_gt ma mb)) := q_cmp op_gt r2_gt ha hb
theorem q_ge (ha : PB X C a ta ma) (hb : PB X C b tb mb) : PQ X C (.Compare a [.GtE] [b] pos) (tTest (tOp z_ge ta tb)) (mTest (mBin o_ge ma mb)) := q_cmp op_ge r2_ge ha hb
theorem q_eq {K₁ : PySem.W.Frag} (hu : X.A.units + 64 < cLine) (ha : PB X C a ta ma) (hb : PB X C b tb mb) (hK₁ : X.K = K₁ := by first | exact blkK2 | exact blkK | exact rfl) : PQ X C (.Compare a [.Eq] [b] pos) (tTest (tOp (rEqD K₁) ta tb)) (mTest (mBin (oEq false) ma mb)) := by subst hK₁; exact (q_cmp (op_eqD hu) r2_eqD ha hb)
theorem q_ne {K₁ : PySem.W.Frag} (hu : X.A.units + 64 < cLine) (ha : PB X C a ta ma) (hb : PB X C b tb mb) (hK₁ : X.K = K₁ := by first | exact blkK2 | exact blkK | exact rfl) : PQ X C (.Compare a [.NotEq] [b] pos) (tTest (tOp (rNeD K₁) ta tb)) (mTest (mBin (oEq true) ma mb)) := by subst hK₁; exact (q_cmp (op_neD hu) r2_neD ha hb)
/-- an expression that gives a bool (a call, a name) -/
theorem q_val {t : TE} {m : ME} (h : PB X C a t m) (he : ∀ whole, isTrue a X.env whole = (do let v ← whole; standAt a.pos; holding [v] (truthy v)) := by intro _; rfl) : PQ X C a (tB t) (mTest m) := ⟨pt_val h.pe he, by
  intro S H σ ρ P Q rl hm k
  refine h.rd S H σ ρ _ _ rl hm fun d S1 H1 x p1 s1 g1 r1 => ?_
  cases d with
  | bool b => exact ⟨b, rbool r1, k b S1 H1 p1 s1 g1⟩
  | _ => exact (p1 : False).elim⟩
variable {tA tC' : TT} {mA' mC' : MT} {rest : List Expr}
def mAnd (m n : MT) : MT := fun ρ P => m ρ fun b => if b = true then n ρ P else P false
def mOr (m n : MT) : MT := fun ρ P => m ρ fun b => if b = true then P true else n ρ P
def mNot (m : MT) : MT := fun ρ P => m ρ fun b => P (!b)
theorem PQW.q (h : PQW X C a tA mA') : PQ X C a tA mA' := ⟨h.pe.pt, h.rd⟩
theorem q_not (h : PQ X C a tA mA') : PQ X C (.UnaryOp .Not a pos) (tNot tA) (mNot mA') := ⟨pt_not h.pe, fun S H σ ρ P Q rl hm k => h.rd S H σ ρ _ _ rl hm fun b S1 H1 p s g => k _ S1 H1 p s g⟩
theorem q_and1 (h : PQ X C a tA mA') : PQW X C (.BoolOp .And [a] pos) tA mA' := ⟨pw_and1 h.pe, h.rd⟩
theorem q_or1 (h : PQ X C a tA mA') : PQW X C (.BoolOp .Or [a] pos) tA mA' := ⟨pw_or1 h.pe, h.rd⟩
theorem q_and (h : PQ X C a tA mA') (h2 : PQW X C (.BoolOp .And (b :: rest) pos) tC' mC') : PQW X C (.BoolOp .And (a :: b :: rest) pos) (tAnd tA tC') (mAnd mA' mC') := ⟨pw_and h.pe h2.pe, by
  intro S H σ ρ P Q rl hm k
  refine h.rd S H σ ρ _ _ rl hm fun c S1 H1 p s g => ?_
  cases c with
  | true => exact h2.rd S1 H1 σ ρ P Q (rl.step s g) (by simpa using p) fun c2 S2 H2 p2 s2 g2 => k c2 S2 H2 p2 (s.trans g s2) g2
  | false => exact k false S1 H1 (by simpa using p) s g⟩
theorem q_or (h : PQ X C a tA mA') (h2 : PQW X C (.BoolOp .Or (b :: rest) pos) tC' mC') : PQW X C (.BoolOp .Or (a :: b :: rest) pos) (tOr tA tC') (mOr mA' mC') := ⟨pw_or h.pe h2.pe, by
  intro S H σ ρ P Q rl hm k
  refine h.rd S H σ ρ _ _ rl hm fun c S1 H1 p s g => ?_
  cases c with
  | false => exact h2.rd S1 H1 σ ρ P Q (rl.step s g) (by simpa using p) fun c2 S2 H2 p2 s2 g2 => k c2 S2 H2 p2 (s.trans g s2) g2
  | true => exact k true S1 H1 (by simpa using p) s g⟩
/-! .. as values -/
def mAndV (m n : ME) : ME := fun ρ P => m ρ fun d => match d with
  | .bool b => if b = true then n ρ P else P (.bool false)
  | _ => False
def mOrV (m n : ME) : ME := fun ρ P => m ρ fun d => match d with
  | .bool b => if b = true then P (.bool true) else n ρ P
  | _ => False
def mNotV (m : ME) : ME := fun ρ P => m ρ fun d => match d with
  | .bool b => P (.bool (!b))
  | _ => False
theorem p_one {op : BoolOp} (h : PP X C a ta ma) : PP X C (.BoolOp op [a] pos) ta ma := ⟨pe_one h.pe, h.rd⟩
theorem p_and (h : PP X C a ta ma) (h2 : PP X C (.BoolOp .And (b :: rest) pos) tb mb) : PP X C (.BoolOp .And (a :: b :: rest) pos) (tAndV ta tb) (mAndV ma mb) := ⟨pe_and h.pe h2.pe, by
  intro S H σ ρ P Q rl hm k
  refine h.rd S H σ ρ _ _ rl hm fun d S1 H1 v p s g q => ?_
  cases d with
  | bool c =>
    refine ⟨c, rbool (RepH.of g q), ?_⟩
    cases c with
    | true => exact iteT <| h2.rd S1 H1 σ ρ P Q (rl.step s g) (by simpa using p) fun c2 S2 H2 v2 p2 s2 g2 q2 => k c2 S2 H2 v2 p2 (s.trans g s2) g2 q2
    | false => exact iteF <| k (.bool false) S1 H1 _ (by simpa using p) s g (Dp.bl false)
  | _ => exact (p : False).elim⟩
theorem p_or (h : PP X C a ta ma) (h2 : PP X C (.BoolOp .Or (b :: rest) pos) tb mb) : PP X C (.BoolOp .Or (a :: b :: rest) pos) (tOrV ta tb) (mOrV ma mb) := ⟨pe_or h.pe h2.pe, by
  intro S H σ ρ P Q rl hm k
  refine h.rd S H σ ρ _ _ rl hm fun d S1 H1 v p s g q => ?_
  cases d with
  | bool c =>
    refine ⟨c, rbool (RepH.of g q), ?_⟩
    cases c with
    | false => exact iteF <| h2.rd S1 H1 σ ρ P Q (rl.step s g) (by simpa using p) fun c2 S2 H2 v2 p2 s2 g2 q2 => k c2 S2 H2 v2 p2 (s.trans g s2) g2 q2
    | true => exact iteT <| k (.bool true) S1 H1 _ (by simpa using p) s g (Dp.bl true)
  | _ => exact (p : False).elim⟩
theorem p_not (h : PP X C a ta ma) : PP X C (.UnaryOp .Not a pos) (tNotV ta) (mNotV ma) := ⟨pe_not h.pe, by
  intro S H σ ρ P Q rl hm k
  refine h.rd S H σ ρ _ _ rl hm fun d S1 H1 v p s g q => ?_
  cases d with
  | bool c => exact ⟨c, rbool (RepH.of g q), k _ S1 H1 _ p s g (Dp.bl _)⟩
  | _ => exact (p : False).elim⟩
def mIfE (c : MT) (m n : ME) : ME := fun ρ P => c ρ fun b => if b = true then m ρ P else n ρ P
theorem p_ifE {c : Expr} (h : PQ X C c tA mA') (h1 : PP X C a ta ma) (h2 : PP X C b tb mb) : PP X C (.IfExp c a b pos) (tIf tA ta tb) (mIfE mA' ma mb) := ⟨pe_ifExp h.pe h1.pe h2.pe, by
  intro S H σ ρ P Q rl hm k
  refine h.rd S H σ ρ _ _ rl hm fun c S1 H1 p s g => ?_
  cases c with
  | true => exact iteT <| h1.rd S1 H1 σ ρ P Q (rl.step s g) (by simpa using p) fun c2 S2 H2 v2 p2 s2 g2 q2 => k c2 S2 H2 v2 p2 (s.trans g s2) g2 q2
  | false => exact iteF <| h2.rd S1 H1 σ ρ P Q (rl.step s g) (by simpa using p) fun c2 S2 H2 v2 p2 s2 g2 q2 => k c2 S2 H2 v2 p2 (s.trans g s2) g2 q2⟩
end
end Pu

set_option Elab.async false
set_option linter.all false
set_option maxRecDepth 100000
set_option maxHeartbeats 4000000
/-! Pure readings: argument lists, displays, subscripts, slices, built-in calls, own calls. -/
namespace Pu
open PySem PySem.Spec L2
open PyProof.Rows hiding St
section
variable {X : Cx} {C : GC X.K} {a b e : Expr} {es : List Expr} {ta tb te : TE} {ma mb me : ME} {pos : Pos} {t : TA}
/-! ### argument lists -/
def mAnil : MA := fun _ P => P []
def mAda (m : ME) (n : MA) : MA := fun ρ P => m ρ fun d => n ρ fun as => P (.da d :: as)
def mArw (i : Nat) (n : MA) : MA := fun ρ P => match gt ρ i with
  | .rw v => n ρ fun as => P (.rw v :: as)
  | _ => False
theorem a_nil : PAr X C [] tNil mAnil := ⟨pa_nil, fun S H σ ρ P Q r hm k => k [] S H [] hm Stp.refl r.good .nil⟩
theorem a_da {n : MA} (h : PP X C e te me) (hr : PAr X C es t n) (hs : starEach (e :: es) X.env = (false, eval e X.env) :: starEach es X.env := by rfl) : PAr X C (e :: es) (tCons te t) (mAda me n) := ⟨pa_cons h.pe hr.pe hs, by
  intro S H σ ρ P Q r hm k
  refine h.rd S H σ ρ _ _ r hm fun d S1 H1 v p1 s1 g1 r1 => ?_
  refine hr.rd S1 H1 σ ρ _ _ (r.step s1 g1) p1 fun as S2 H2 vs p2 s2 g2 r2 => ?_
  exact k _ S2 H2 _ p2 (s1.trans g1 s2) g2 (.cons (r1.mono s2.ss) r2)⟩
theorem a_rw (i : Nat) {n : MA} {x : Str} {p : Pos} (hr : PAr X C es t n) (hN : X.N[i]? = some x := by rfl) (hv : Vis X.env.scope x := by first | exact Or.inl rfl | exact Or.inr (Or.inl rfl) | exact Or.inr (Or.inr rfl)) (hd : (x == ("__debug__" : Str)) = false := by decide)
    (hcd : (x == ("__classdict__" : Str)) = false := by decide) (hs : starEach (.Name x p :: es) X.env = (false, eval (.Name x p) X.env) :: starEach es X.env := by rfl) : PAr X C (.Name x p :: es) (tCons (tVar i) t) (mArw i n) := ⟨pa_cons (pe_var hN hv hd hcd) hr.pe hs, by
  intro S H σ ρ P Q r hm k
  unfold mArw at hm
  have hsl := r.sl i
  cases e : gt ρ i with
  | rw v =>
    rw [e] at hm hsl
    refine ⟨v, NdefX.slotAt_some hsl, ?_⟩
    exact hr.rd S H σ ρ _ _ r hm fun as S2 H2 vs p2 s2 g2 r2 => k _ S2 H2 _ p2 s2 g2 (.cons rfl r2)
  | _ => rw [e] at hm; exact hm.elim⟩
def mBnil : ML := fun _ P => P []
def mBcons (m : ME) (n : ML) : ML := fun ρ P => m ρ fun d => n ρ fun ds => P (d :: ds)
theorem b_nil : PAB X C [] tNil mBnil := ⟨pa_nil, fun S H σ ρ P Q r hm k => k [] S H [] hm Stp.refl r.good .nil⟩
theorem b_cons {n : ML} (h : PB X C e te me) (hr : PAB X C es t n) (hs : starEach (e :: es) X.env = (false, eval e X.env) :: starEach es X.env := by rfl) : PAB X C (e :: es) (tCons te t) (mBcons me n) := ⟨pa_cons h.pe hr.pe hs, by
  intro S H σ ρ P Q r hm k
  refine h.rd S H σ ρ _ _ r hm fun d S1 H1 v p1 s1 g1 r1 => ?_
  refine hr.rd S1 H1 σ ρ _ _ (r.step s1 g1) p1 fun as S2 H2 vs p2 s2 g2 r2 => ?_
  exact k _ S2 H2 _ p2 (s1.trans g1 s2) g2 (.cons (r1.step s2) r2)⟩

/-! ### displays -/
def nds : List D → Prop → Prop
  | [], p => p
  | d :: ds, p => nd d (nds ds p)
theorem nds_iff : ∀ {ds : List D} {p : Prop}, nds ds p → (∀ d ∈ ds, isDic d = false) ∧ p
  | [], p, h => ⟨fun _ z => (nomatch z), h⟩
  | d :: ds, p, h => by
    obtain ⟨h1, h2⟩ := nd_iff (show nd d (nds ds p) from h)
    obtain ⟨h3, h4⟩ := nds_iff h2
    exact ⟨fun e he => by
      rcases List.mem_cons.mp he with q | q
      · rw [q]; exact h1
      · exact h3 e q, h4⟩
theorem args_dp {K : PySem.W.Frag} {S : Hp} : ∀ {vs : List V} {as : List Sl} {ds : List D}, ArgsOk K S vs as → as = ds.map Sl.da → (∀ d ∈ ds, isDic d = false) → DpAll K S vs ds
  | _, _, [], .nil, _, _ => .nil
  | _, _, d :: ds, .cons h t, e, n => by
    simp only [List.map_cons, List.cons.injEq] at e
    obtain ⟨rfl, e⟩ := e
    exact .cons (Rep.dp h (n d List.mem_cons_self)) (args_dp t e fun d hd => n d (List.mem_cons_of_mem _ hd))
/-- a list of data -/
structure PAD (X : Cx) (C : GC X.K) (es : List Expr) (t : TA) (m : ML) : Prop where
  pe : PA X es t
  rd : ∀ S H σ ρ P (Q : List V → Hp → Prop), Rel C S H σ ρ → m ρ P → (∀ ds S' H' vs, P ds → Stp C.vol S H S' H' → Good C.vol C.G S' H' → DpAll X.K S' vs ds → Q vs H') → t σ H Q
def mDcons (m : ME) (n : ML) : ML := fun ρ P => m ρ fun d => nd d (n ρ fun ds => P (d :: ds))
theorem d_nil : PAD X C [] tNil mBnil := ⟨pa_nil, fun S H σ ρ P Q r hm k => k [] S H [] hm Stp.refl r.good .nil⟩
theorem d_cons {n : ML} (h : PP X C e te me) (hr : PAD X C es t n) (hs : starEach (e :: es) X.env = (false, eval e X.env) :: starEach es X.env := by rfl) : PAD X C (e :: es) (tCons te t) (mDcons me n) := ⟨pa_cons h.pe hr.pe hs, by
  intro S H σ ρ P Q r hm k
  refine h.rd S H σ ρ _ _ r hm fun d S1 H1 v p1 s1 g1 r1 => ?_
  obtain ⟨n1, p1⟩ := nd_iff p1
  refine hr.rd S1 H1 σ ρ _ _ (r.step s1 g1) p1 fun as S2 H2 vs p2 s2 g2 r2 => ?_
  exact k _ S2 H2 _ p2 (s1.trans g1 s2) g2 (.cons (Dp.mono s2.ss (r1.dp n1)) r2)⟩
/-- a new tuple -/
theorem fin_tup {S H : Hp} {vs : List V} {ds : List D} {P : D → Prop} {Q : VK} (g : Good C.vol C.G S H) (h : DpAll X.K S vs ds) (hz : vs.length ≤ sizeLine) {p : Addr} {o : Obj} (hp : H p = none) (ho : o.dict = none) (pd : P (.tuple ds))
    (k : ∀ d' S' H' v, P d' → Stp C.vol S H S' H' → Good C.vol C.G S' H' → Rep X.K S' v d' → Q v H') : Q (.ref p) (upd H p (.frz o (.tup vs))) := by
  obtain ⟨g2, s2⟩ := g.new C.gst hp (o := .frz o (.tup vs)) hz ho
  exact k _ _ _ _ pd s2 g2 (.tup (.inl (.inr ⟨o, upd_same⟩)) (DpAll.mono s2.ss h))
def mTup (n : ML) : ME := fun ρ P => n ρ fun ds => ds.length ≤ sizeLine ∧ P (.tuple ds)
def mLst (n : ML) : ML := fun ρ P => n ρ fun ds => ds.length ≤ sizeLine ∧ P ds
theorem p_tup {x1} {n : ML} (h : PAD X C es t n) : PP X C (.Tuple es x1 pos) (tTupF t) (mTup n) := ⟨pe_tupF h.pe, by
  intro S H σ ρ P Q r hm k
  refine h.rd S H σ ρ _ _ r hm fun ds S1 H1 vs p1 s1 g1 r1 => ?_
  obtain ⟨hz, p1⟩ := p1
  rw [← DpAll.length r1] at hz
  refine ⟨hz, fun p o hp ho => ?_⟩
  exact fin_tup g1 r1 hz hp ho p1 fun d' S' H' v pd s g q => k d' S' H' v pd (s1.trans g1 s) g q⟩
theorem o_lst {n : ML} (h : PAD X C es t n) : PO' X C (.List es pos) (tLst t) (mLst n) := ⟨pe_lst h.pe, by
  intro S H σ ρ P Q r hm k
  refine h.rd S H σ ρ _ _ r hm fun ds S1 H1 vs p1 s1 g1 r1 => ?_
  obtain ⟨hz, p1⟩ := p1
  rw [← DpAll.length r1] at hz
  refine ⟨hz, fun p hp => ?_⟩
  obtain ⟨g2, s2⟩ := g1.newH C.gst hp (o := .lst vs) hz
  have hH : H p = none := s1.gone (fun v => g1.vh p v hp) hp
  exact k ds S1 _ p vs p1 (s1.trans g1 s2) g2 upd_same (g1.sub.free hp) hH (fun v => g1.vh p v hp) r1⟩

/-! ### subscripts -/
def oIx : D → D → (D → Prop) → Prop
  | .list ds, .int i, P => ∃ d, atI ds i = some d ∧ P d
  | .tuple ds, .int i, P => ∃ d, atI ds i = some d ∧ P d
  | .str z, .int i, P => z.length ≤ sizeLine ∧ ∃ c, atI z.cps.toList i = some c ∧ P (.str ⟨#[c]⟩)
  | _, _, _ => False
theorem atI_dp {K : PySem.W.Frag} {S : Hp} {vs : List V} {ds : List D} {i : Int} {d : D} (h : DpAll K S vs ds) (e : atI ds i = some d) : ∃ v, atI vs i = some v ∧ Dp K S v d := by
  unfold atI at e ⊢
  rw [DpAll.length h]
  cases q : ixN ds.length i with
  | none => rw [q] at e; cases e
  | some j =>
    rw [q] at e
    exact DpAll.get h e
theorem r2_ix : R2Ok C (rIx X.K) oIx := fun S H x y d e P Q g r1 r2 p k => by
  cases e with
  | int i =>
    have ey := rint r2
    cases d with
    | list ds =>
      obtain ⟨d', hd, p⟩ := p
      obtain ⟨l, vs, rfl, ha, hl, hz⟩ := r1.lst g
      obtain ⟨v, hv, q⟩ := atI_dp ha hd
      exact .inl ⟨l, vs, i, v, rfl, ey, hl, hv, k _ S H _ p Stp.refl g (Rep.of q)⟩
    | tuple ds =>
      obtain ⟨d', hd, p⟩ := p
      obtain ⟨l, vs, rfl, ha, hl, hz⟩ := r1.tup g
      obtain ⟨v, hv, q⟩ := atI_dp ha hd
      exact .inr (.inl ⟨l, vs, i, v, rfl, ey, SqT.mono g.sub hl, hv, k _ S H _ p Stp.refl g (Rep.of q)⟩)
    | str z =>
      obtain ⟨hz, c, hc, p⟩ := p
      exact .inr (.inr ⟨z, i, c, rstr r1, ey, hz, hc, k _ S H _ p Stp.refl g (Dp.str _)⟩)
    | _ => exact (p : False).elim
  | _ => cases d <;> exact (p : False).elim
theorem p_ix {K₁ : PySem.W.Frag} (ha : PB X C a ta ma) (hb : PB X C b tb mb) (hs : PlainIx b := by exact fun _ _ => rfl) (hK₁ : X.K = K₁ := by first | exact blkK2 | exact blkK | exact rfl) : PP X C (.Subscript a b pos) (tOp (rIx K₁) ta tb) (mBin oIx ma mb) := by subst hK₁; exact (⟨pe_ix ix_seq ha.pe hb.pe hs, rd_op ha.rd hb.rd r2_ix⟩)
end
end Pu

set_option Elab.async false
set_option linter.all false
set_option maxRecDepth 100000
set_option maxHeartbeats 4000000
/-! Pure readings: slices, sums of sequences, in, built-in calls, dicts read, own calls. -/
namespace Pu
open PySem PySem.Spec L2
open PyProof.Rows hiding St
section
variable {X : Cx} {C : GC X.K} {a b e : Expr} {es : List Expr} {ta tb te : TE} {ma mb me : ME} {pos p2 : Pos} {t : TA}
/-! ### slices -/
abbrev MO := List Sl → (Option Int → Prop) → Prop
structure POp (X : Cx) (C : GC X.K) (e : Option Expr) (t : TO) (m : MO) : Prop where
  pe : PO X e t
  rd : ∀ S H σ ρ P (Q : Option Int → Hp → Prop), Rel C S H σ ρ → m ρ P → (∀ o S' H', P o → Stp C.vol S H S' H' → Good C.vol C.G S' H' → Q o H') → t σ H Q
def mNo : MO := fun _ P => P none
def mSo (m : ME) : MO := fun ρ P => m ρ fun d => match d with
  | .int i => P (some i)
  | _ => False
theorem so_none : POp X C none tNoPart mNo := ⟨po_none, fun S H σ ρ P Q r hm k => k none S H hm Stp.refl r.good⟩
theorem so_some (h : PP X C e te me) : POp X C (some e) (tPart te) (mSo me) := ⟨po_some h.pe, by
  intro S H σ ρ P Q r hm k
  refine h.rd S H σ ρ _ _ r hm fun d S1 H1 v p1 s1 g1 r1 => ?_
  cases d with
  | int i => exact ⟨i, rint (RepH.of g1 r1), k _ S1 H1 p1 s1 g1⟩
  | _ => exact (p1 : False).elim⟩
def cutD (ds : List D) (lo hi : Option Int) : List D := (ds.drop (HT.sIx ds.length 0 lo)).take (HT.sIx ds.length ds.length hi - HT.sIx ds.length 0 lo)
theorem cut_dp {K : PySem.W.Frag} {S : Hp} {vs : List V} {ds : List D} (h : DpAll K S vs ds) (lo hi : Option Int) : DpAll K S (cutV vs lo hi) (cutD ds lo hi) := by
  unfold cutV cutD
  rw [DpAll.length h]
  exact DpAll.take _ (DpAll.drop _ h)
def mSlT (m : ME) (lo hi : MO) : ME := fun ρ P => m ρ fun d => lo ρ fun l => hi ρ fun h => match d with
  | .tuple ds => P (.tuple (cutD ds l h))
  | _ => False
def mSlL (m : ME) (lo hi : MO) : ML := fun ρ P => m ρ fun d => lo ρ fun l => hi ρ fun h => match d with
  | .list ds => P (cutD ds l h)
  | _ => False
variable {lo hi : Option Expr} {tl th : TO} {ml mh : MO}
theorem cut_whole {ds : List D} {lo hi : Option Int} (h : HT.sIx ds.length 0 lo = 0 ∧ HT.sIx ds.length ds.length hi = ds.length) : cutD ds lo hi = ds := by
  unfold cutD
  rw [h.1, h.2]
  simp
theorem p_slT {K₁ : PySem.W.Frag} (ha : PB X C a ta ma) (hl : POp X C lo tl ml) (hh : POp X C hi th mh) (hK₁ : X.K = K₁ := by first | exact blkK2 | exact blkK | exact rfl) : PP X C (.Subscript a (.Slice lo hi none p2) pos) (tSl (rSlF K₁) ta tl th) (mSlT ma ml mh) := by subst hK₁; exact (⟨pe_slice sl_tupF ha.pe hl.pe hh.pe, by
  intro S H σ ρ P Q r hm k
  refine ha.rd S H σ ρ _ _ r hm fun d S1 H1 v p1 s1 g1 r1 => ?_
  refine hl.rd S1 H1 σ ρ _ _ (r.step s1 g1) p1 fun l S2 H2 p2 s2 g2 => ?_
  have s12 := s1.trans g1 s2
  refine hh.rd S2 H2 σ ρ _ _ (r.step s12 g2) p2 fun h S3 H3 p3 s3 g3 => ?_
  have s13 := s12.trans g2 s3
  cases d with
  | tuple ds =>
    obtain ⟨x, vs, rfl, hd, ht, hz⟩ := (r1.step (s2.trans g2 s3)).tup g3
    refine ⟨x, vs, rfl, SqT.mono g3.sub ht, fun hw => ?_, fun hw p o hp ho => ?_⟩
    · rw [DpAll.length hd] at hw
      have p3 : P (.tuple (cutD ds l h)) := p3
      rw [cut_whole hw] at p3
      exact k _ S3 H3 _ p3 s13 g3 (.tup ht hd)
    · exact fin_tup g3 (cut_dp hd l h) (Nat.le_trans (cutV_length _ _ _) hz) hp ho p3 fun d' S' H' v pd s g q => k d' S' H' v pd (s13.trans g3 s) g q
  | _ => exact (p3 : False).elim⟩)
theorem fin_lst {S H : Hp} {vs : List V} {ds : List D} {P : List D → Prop} {Q : VK} (g : Good C.vol C.G S H) (h : DpAll X.K S vs ds) (hz : vs.length ≤ sizeLine) {p : Addr} (hp : H p = none) (pd : P ds)
    (k : ∀ ds' S' H' l vs', P ds' → Stp C.vol S H S' H' → Good C.vol C.G S' H' → H' l = some (.lst vs') → S' l = none → H l = none → ¬ C.vol l → DpAll X.K S' vs' ds' → Q (.ref l) H') : Q (.ref p) (upd H p (.lst vs)) := by
  obtain ⟨g2, s2⟩ := g.newH C.gst hp (o := .lst vs) hz
  exact k ds S _ p vs pd s2 g2 upd_same (g.sub.free hp) hp (fun v => g.vh p v hp) h
theorem o_slL {K₁ : PySem.W.Frag} (ha : PB X C a ta ma) (hl : POp X C lo tl ml) (hh : POp X C hi th mh) (hK₁ : X.K = K₁ := by first | exact blkK2 | exact blkK | exact rfl) : PO' X C (.Subscript a (.Slice lo hi none p2) pos) (tSl (rSlL K₁) ta tl th) (mSlL ma ml mh) := by subst hK₁; exact (⟨pe_slice sl_list ha.pe hl.pe hh.pe, by
  intro S H σ ρ P Q r hm k
  refine ha.rd S H σ ρ _ _ r hm fun d S1 H1 v p1 s1 g1 r1 => ?_
  refine hl.rd S1 H1 σ ρ _ _ (r.step s1 g1) p1 fun l S2 H2 p2 s2 g2 => ?_
  have s12 := s1.trans g1 s2
  refine hh.rd S2 H2 σ ρ _ _ (r.step s12 g2) p2 fun h S3 H3 p3 s3 g3 => ?_
  have s13 := s12.trans g2 s3
  cases d with
  | list ds =>
    obtain ⟨x, vs, rfl, hd, ht, hz⟩ := (r1.step (s2.trans g2 s3)).lst g3
    refine ⟨x, vs, rfl, ht, fun p hp => ?_⟩
    exact fin_lst g3 (cut_dp hd l h) (Nat.le_trans (cutV_length _ _ _) hz) hp p3 fun ds' S' H' q vs' pd s g h1 h2 h3 h4 h5 => k ds' S' H' q vs' pd (s13.trans g3 s) g h1 h2 (s13.gone (fun v => h4 v) h3) h4 h5
  | _ => exact (p3 : False).elim⟩)
/-! ### sums of tuples, texts, lists -/
def oCatT : D → D → (D → Prop) → Prop
  | .tuple xs, .tuple ys, P => xs.length + ys.length ≤ sizeLine ∧ P (.tuple (xs ++ ys))
  | _, _, _ => False
def oCatS : D → D → (D → Prop) → Prop
  | .str x, .str y, P => x.length + y.length ≤ sizeLine ∧ P (.str (x ++ y))
  | _, _, _ => False
theorem r2_catT : R2Ok C (rCatF X.K) oCatT := fun S H x y d e P Q g r1 r2 p k => by
  cases d <;> first | exact (p : False).elim | skip
  cases e <;> first | exact (p : False).elim | skip
  obtain ⟨hz, p⟩ := p
  obtain ⟨l, vs, rfl, ha, hl, _⟩ := r1.tup g
  obtain ⟨m, ws, rfl, hb, hm, _⟩ := r2.tup g
  rename_i xs ys
  refine ⟨l, m, vs, ws, rfl, rfl, SqT.mono g.sub hl, SqT.mono g.sub hm, by rw [DpAll.length ha, DpAll.length hb]; exact hz, fun e => ?_, fun _ e => ?_, fun _ _ q o hq ho => ?_⟩
  · have e1 := (DpAll.nil_iff ha).mp e
    subst e1
    exact k _ S H _ p Stp.refl g (.tup hm hb)
  · have e1 := (DpAll.nil_iff hb).mp e
    subst e1
    rw [List.append_nil] at p
    exact k _ S H _ p Stp.refl g (.tup hl ha)
  · exact fin_tup g (DpAll.app ha hb) (by rw [List.length_append, DpAll.length ha, DpAll.length hb]; exact hz) hq ho p k
abbrev z_cats : R2 := fun x y H Q => ∃ i j, x = .str i ∧ y = .str j ∧ i.length + j.length ≤ sizeLine ∧ Q (.str (i ++ j)) H
theorem r2_catS : R2Ok C z_cats oCatS := fun S H x y d e P Q g r1 r2 p k => by
  cases d <;> first | exact (p : False).elim | skip
  cases e <;> first | exact (p : False).elim | skip
  obtain ⟨hz, p⟩ := p
  exact ⟨_, _, rstr r1, rstr r2, hz, k _ S H _ p Stp.refl g (Dp.str _)⟩
theorem p_catT {K₁ : PySem.W.Frag} (ha : PB X C a ta ma) (hb : PB X C b tb mb) (hK₁ : X.K = K₁ := by first | exact blkK2 | exact blkK | exact rfl) : PP X C (.BinOp a .Add b pos) (tOp (rCatF K₁) ta tb) (mBin oCatT ma mb) := by subst hK₁; exact (p_bin op_catF r2_catT ha hb)
theorem p_catS (ha : PB X C a ta ma) (hb : PB X C b tb mb) : PP X C (.BinOp a .Add b pos) (tOp z_cats ta tb) (mBin oCatS ma mb) := p_bin op_add_str r2_catS ha hb

/-! ### in, not in: texts among texts, data in a list, a sign in a text -/
def sTexts : List D → Option (List Str)
  | [] => some []
  | .str x :: ds => (sTexts ds).map (x :: ·)
  | _ :: _ => none
def oInS (neg : Bool) : D → D → (D → Prop) → Prop
  | .str x, .tuple ds, P => ∃ xs, sTexts ds = some xs ∧ P (.bool (if neg then !xs.any (fun y => decide (y = x)) else xs.any fun y => decide (y = x)))
  | .str x, .list ds, P => ∃ xs, sTexts ds = some xs ∧ P (.bool (if neg then !xs.any (fun y => decide (y = x)) else xs.any fun y => decide (y = x)))
  | _, _, _ => False
theorem strs_vals {K : PySem.W.Frag} {S : Hp} : ∀ {vs : List V} {ds : List D} {xs : List Str}, DpAll K S vs ds → sTexts ds = some xs → vs = xs.map V.str
  | _, [], xs, .nil, e => by cases e; rfl
  | _, d :: ds, xs, .cons h t, e => by
    cases d with
    | str x =>
      cases h
      have e : (sTexts ds).map (x :: ·) = some xs := e
      cases q : sTexts ds with
      | none => rw [q] at e; cases e
      | some ys =>
        rw [q] at e
        cases e
        rw [strs_vals t q]; rfl
    | _ => cases e
theorem inV_strs (x : Str) : ∀ xs : List Str, inV (.str x) (xs.map V.str) = xs.any fun y => decide (y = x)
  | [] => rfl
  | y :: ys => by
    have ih := inV_strs x ys
    unfold inV at ih ⊢
    rw [List.map_cons, List.any_cons, List.any_cons, ih]
    have e : eqV (.str y) (.str x) = decide (y = x) := by unfold eqV; rfl
    rw [e]
theorem flat_strs : ∀ xs : List Str, (xs.map V.str).all flatV = true
  | [] => rfl
  | x :: xs => by rw [List.map_cons, List.all_cons, flat_strs xs]; rfl
theorem r2_inS {neg : Bool} : R2Ok C (rIn X.K neg) (oInS neg) := fun S H x y d e P Q g r1 r2 p k => by
  cases d <;> first | exact (p : False).elim | skip
  cases e <;> first | exact (p : False).elim | skip
  · obtain ⟨xs, hx, p⟩ := p
    obtain ⟨l, vs, rfl, ha, hl, _⟩ := r2.lst g
    have ev := strs_vals ha hx
    subst ev
    rw [rstr r1]
    refine ⟨l, _, rfl, .inl hl, rfl, flat_strs xs, ?_⟩
    rw [inV_strs]
    exact k _ S H _ p Stp.refl g (Dp.bl _)
  · obtain ⟨xs, hx, p⟩ := p
    obtain ⟨l, vs, rfl, ha, hl, _⟩ := r2.tup g
    have ev := strs_vals ha hx
    subst ev
    rw [rstr r1]
    refine ⟨l, _, rfl, .inr (SqT.mono g.sub hl), rfl, flat_strs xs, ?_⟩
    rw [inV_strs]
    exact k _ S H _ p Stp.refl g (Dp.bl _)
theorem p_inS {K₁ : PySem.W.Frag} (ha : PB X C a ta ma) (hb : PB X C b tb mb) (hm : behindInMarks .In b = false := by rfl) (hK₁ : X.K = K₁ := by first | exact blkK2 | exact blkK | exact rfl) : PP X C (.Compare a [.In] [b] pos) (tOp (rIn K₁ false) ta tb) (mBin (oInS false) ma mb) := by subst hK₁; exact (p_cmp op_in_seq r2_inS ha hb hm)
theorem p_notS {K₁ : PySem.W.Frag} (ha : PB X C a ta ma) (hb : PB X C b tb mb) (hm : behindInMarks .NotIn b = false := by rfl) (hK₁ : X.K = K₁ := by first | exact blkK2 | exact blkK | exact rfl) : PP X C (.Compare a [.NotIn] [b] pos) (tOp (rIn K₁ true) ta tb) (mBin (oInS true) ma mb) := by subst hK₁; exact (p_cmp op_notIn_seq r2_inS ha hb hm)
theorem q_inS {K₁ : PySem.W.Frag} (ha : PB X C a ta ma) (hb : PB X C b tb mb) (hm : behindInMarks .In b = false := by rfl) (hK₁ : X.K = K₁ := by first | exact blkK2 | exact blkK | exact rfl) : PQ X C (.Compare a [.In] [b] pos) (tTest (tOp (rIn K₁ false) ta tb)) (mTest (mBin (oInS false) ma mb)) := by subst hK₁; exact (q_cmp op_in_seq r2_inS ha hb hm)
theorem q_notS {K₁ : PySem.W.Frag} (ha : PB X C a ta ma) (hb : PB X C b tb mb) (hm : behindInMarks .NotIn b = false := by rfl) (hK₁ : X.K = K₁ := by first | exact blkK2 | exact blkK | exact rfl) : PQ X C (.Compare a [.NotIn] [b] pos) (tTest (tOp (rIn K₁ true) ta tb)) (mTest (mBin (oInS true) ma mb)) := by subst hK₁; exact (q_cmp op_notIn_seq r2_inS ha hb hm)
/-! data in a list of data -/
def oInD (neg : Bool) : D → D → (D → Prop) → Prop
  | d, .list ds, P => SeqAt.shaped d = true ∧ SeqAt.shaped (.list ds) = true ∧ P (.bool (if neg then !ds.any (fun z => PyData.eqv z d) else ds.any fun z => PyData.eqv z d))
  | _, _, _ => False
theorem r2_inD : R2Ok C (rInD X.K) (oInD false) := fun S H x y d e P Q g r1 r2 p k => by
  cases e <;> first | exact (p : False).elim | skip
  obtain ⟨s1, s2, p⟩ := p
  exact ⟨d, _, r1.dp g (shaped_nd s1), r2.dp g rfl, s1, s2, k _ S H _ p Stp.refl g (Dp.bl _)⟩
theorem r2_notD : R2Ok C (rNotInD X.K) (oInD true) := fun S H x y d e P Q g r1 r2 p k => by
  cases e <;> first | exact (p : False).elim | skip
  obtain ⟨s1, s2, p⟩ := p
  exact ⟨d, _, r1.dp g (shaped_nd s1), r2.dp g rfl, s1, s2, k _ S H _ p Stp.refl g (Dp.bl _)⟩
theorem p_inD {K₁ : PySem.W.Frag} (hu : X.A.units + 65 < cLine) (ha : PB X C a ta ma) (hb : PB X C b tb mb) (hm : behindInMarks .In b = false := by rfl) (hK₁ : X.K = K₁ := by first | exact blkK2 | exact blkK | exact rfl) : PP X C (.Compare a [.In] [b] pos) (tOp (rInD K₁) ta tb) (mBin (oInD false) ma mb) := by subst hK₁; exact (p_cmp (op_inD hu) r2_inD ha hb hm)
theorem p_notD {K₁ : PySem.W.Frag} (hu : X.A.units + 65 < cLine) (ha : PB X C a ta ma) (hb : PB X C b tb mb) (hm : behindInMarks .NotIn b = false := by rfl) (hK₁ : X.K = K₁ := by first | exact blkK2 | exact blkK | exact rfl) : PP X C (.Compare a [.NotIn] [b] pos) (tOp (rNotInD K₁) ta tb) (mBin (oInD true) ma mb) := by subst hK₁; exact (p_cmp (op_notInD hu) r2_notD ha hb hm)
theorem q_inD {K₁ : PySem.W.Frag} (hu : X.A.units + 65 < cLine) (ha : PB X C a ta ma) (hb : PB X C b tb mb) (hm : behindInMarks .In b = false := by rfl) (hK₁ : X.K = K₁ := by first | exact blkK2 | exact blkK | exact rfl) : PQ X C (.Compare a [.In] [b] pos) (tTest (tOp (rInD K₁) ta tb)) (mTest (mBin (oInD false) ma mb)) := by subst hK₁; exact (q_cmp (op_inD hu) r2_inD ha hb hm)
theorem q_notD {K₁ : PySem.W.Frag} (hu : X.A.units + 65 < cLine) (ha : PB X C a ta ma) (hb : PB X C b tb mb) (hm : behindInMarks .NotIn b = false := by rfl) (hK₁ : X.K = K₁ := by first | exact blkK2 | exact blkK | exact rfl) : PQ X C (.Compare a [.NotIn] [b] pos) (tTest (tOp (rNotInD K₁) ta tb)) (mTest (mBin (oInD true) ma mb)) := by subst hK₁; exact (q_cmp (op_notInD hu) r2_notD ha hb hm)
/-! x is None, is not None -/
def isNo : D → Bool
  | .none => true
  | _ => false
def oIsN (neg : Bool) : D → D → (D → Prop) → Prop
  | d, .none, P => P (.bool (if neg then !isNo d else isNo d))
  | _, _, _ => False
theorem isN_v {vol : Addr → Prop} {S H : Hp} {x : V} {d : D} (h : RepH vol X.K S H x d) : decide (x = .non) = isNo d := by
  cases d with
  | none => rw [rnone h]; rfl
  | bool b => rw [rbool h]; rfl
  | int i => rw [rint h]; rfl
  | str z => rw [rstr h]; rfl
  | list ds => obtain ⟨l, vs, rfl, _⟩ := h; rfl
  | tuple ds =>
    cases (show Dp X.K S x (.tuple ds) from h) with
    | tup _ _ => rfl
  | dict kvs => obtain ⟨l, rfl, _⟩ := h; rfl
abbrev z_isN : R2 := fun x y H Q => y = .non ∧ Q (.bl (decide (x = .non))) H
abbrev z_notN : R2 := fun x y H Q => y = .non ∧ Q (.bl (!decide (x = .non))) H
theorem r2_isN : R2Ok C z_isN (oIsN false) := fun S H x y d e P Q g r1 r2 p k => by
  cases e <;> first | exact (p : False).elim | skip
  refine ⟨rnone r2, ?_⟩
  rw [isN_v r1]
  exact k _ S H _ p Stp.refl g (Dp.bl _)
theorem r2_notN : R2Ok C z_notN (oIsN true) := fun S H x y d e P Q g r1 r2 p k => by
  cases e <;> first | exact (p : False).elim | skip
  refine ⟨rnone r2, ?_⟩
  rw [isN_v r1]
  exact k _ S H _ p Stp.refl g (Dp.bl _)
theorem p_isN (ha : PB X C a ta ma) (hb : PB X C b tb mb) : PP X C (.Compare a [.Is] [b] pos) (tOp z_isN ta tb) (mBin (oIsN false) ma mb) := p_cmp op_isN r2_isN ha hb
theorem p_notN (ha : PB X C a ta ma) (hb : PB X C b tb mb) : PP X C (.Compare a [.IsNot] [b] pos) (tOp z_notN ta tb) (mBin (oIsN true) ma mb) := p_cmp op_notN r2_notN ha hb
theorem q_isN (ha : PB X C a ta ma) (hb : PB X C b tb mb) : PQ X C (.Compare a [.Is] [b] pos) (tTest (tOp z_isN ta tb)) (mTest (mBin (oIsN false) ma mb)) := q_cmp op_isN r2_isN ha hb
theorem q_notN (ha : PB X C a ta ma) (hb : PB X C b tb mb) : PQ X C (.Compare a [.IsNot] [b] pos) (tTest (tOp z_notN ta tb)) (mTest (mBin (oIsN true) ma mb)) := q_cmp op_notN r2_notN ha hb
/-! texts compared -/
def oLtS : D → D → (D → Prop) → Prop
  | .str x, .str y, P => P (.bool (decide (x.cps.toList < y.cps.toList)))
  | _, _, _ => False
abbrev z_lts : R2 := fun x y H Q => ∃ i j, x = .str i ∧ y = .str j ∧ Q (.bl (decide (i.cps.toList < j.cps.toList))) H
theorem r2_ltS : R2Ok C z_lts oLtS := fun S H x y d e P Q g r1 r2 p k => by
  cases d <;> first | exact (p : False).elim | skip
  cases e <;> first | exact (p : False).elim | skip
  exact ⟨_, _, rstr r1, rstr r2, k _ S H _ p Stp.refl g (Dp.bl _)⟩
theorem p_ltS (ha : PB X C a ta ma) (hb : PB X C b tb mb) : PP X C (.Compare a [.Lt] [b] pos) (tOp z_lts ta tb) (mBin oLtS ma mb) := p_cmp op_lt_str r2_ltS ha hb
theorem q_ltS (ha : PB X C a ta ma) (hb : PB X C b tb mb) : PQ X C (.Compare a [.Lt] [b] pos) (tTest (tOp z_lts ta tb)) (mTest (mBin oLtS ma mb)) := q_cmp op_lt_str r2_ltS ha hb
/-! a text in a text -/
def oInT : D → D → (D → Prop) → Prop
  | .str x, .str y, P => P (.bool (!(Builtin.Str.occurrences y x 0 y.length 1).isEmpty))
  | _, _, _ => False
abbrev z_int : R2 := fun x y H Q => ∃ i j, x = .str i ∧ y = .str j ∧ Q (.bl (!(Builtin.Str.occurrences j i 0 j.length 1).isEmpty)) H
theorem r2_inT : R2Ok C z_int oInT := fun S H x y d e P Q g r1 r2 p k => by
  cases d <;> first | exact (p : False).elim | skip
  cases e <;> first | exact (p : False).elim | skip
  exact ⟨_, _, rstr r1, rstr r2, k _ S H _ p Stp.refl g (Dp.bl _)⟩
theorem p_inT (ha : PB X C a ta ma) (hb : PB X C b tb mb) (hm : behindInMarks .In b = false := by rfl) : PP X C (.Compare a [.In] [b] pos) (tOp z_int ta tb) (mBin oInT ma mb) := p_cmp op_in_str r2_inT ha hb hm
end
end Pu

set_option Elab.async false
set_option linter.all false
set_option maxRecDepth 100000
set_option maxHeartbeats 4000000
/-! Pure readings: built-in calls, own calls, a def's contract. -/
namespace Pu
open PySem PySem.Spec L2
open PyProof.Rows hiding St
section
variable {X : Cx} {C : GC X.K} {a b e : Expr} {es : List Expr} {ta tb te : TE} {ma mb me : ME} {pos p2 p : Pos} {t : TA} {x : Str}
def CbOk (C : GC X.K) (r : List V → Hp → VK → Prop) (op : List D → (D → Prop) → Prop) : Prop := ∀ S H vs ds P (Q : VK), Good C.vol C.G S H → Paired (RepH C.vol X.K S H) vs ds → op ds P →
  (∀ d' S' H' v, P d' → Stp C.vol S H S' H' → Good C.vol C.G S' H' → Rep X.K S' v d' → Q v H') → r vs H Q
def mC1 (op : List D → (D → Prop) → Prop) (n : ML) : ME := fun ρ P => n ρ fun ds => op ds P
theorem rd_cb {r : List V → Hp → VK → Prop} {op : List D → (D → Prop) → Prop} {n : ML} (ha : RdAB C t n) (h : CbOk C r op) : RdE C (tCB r t) (mC1 op n) := by
  intro S H σ ρ P Q rl hm k
  refine ha S H σ ρ _ _ rl hm fun ds S1 H1 vs p1 s1 g1 r1 => ?_
  exact h S1 H1 vs ds P Q g1 r1 p1 fun d' S' H' v pd s g q => k d' S' H' v pd (s1.trans g1 s) g q
structure CallPl (X : Cx) (e : Expr) (es : List Expr) (pos : Pos) : Prop where
  he : starEach (e :: es) X.env = (false, eval e X.env) :: starEach es X.env
  hpl : (backTo pos (starEach es X.env)).any (·.1) = false
theorem p_cb {r : List V → Hp → VK → Prop} {op : List D → (D → Prop) → Prop} {n : ML} {id : String} (hc : CallR X (.builtin id) r) (h : CbOk C r op) (hv : bootBuiltins x = some (.builtin id)) (hm : X.mg x = none) (ha : PAB X C (e :: es) t n)
    (hg : Gl X x := by rfl) (hn : x ≠ "__name__" := by decide) (hdb : (x == ("__debug__" : Str)) = false := by decide) (pl : CallPl X e es pos := by exact ⟨rfl, rfl⟩) : PP X C (.Call (.Name x p) (e :: es) [] pos) (tCB r t) (mC1 op n) := ⟨pe_callB hc hg hm hv ha.pe hn hdb (he := pl.he) (hpl := pl.hpl), rd_cb ha.rd h⟩
theorem p_ct {r : List V → Hp → VK → Prop} {op : List D → (D → Prop) → Prop} {n : ML} {T : String} (hc : CallR X (.type T) r) (h : CbOk C r op) (hv : bootBuiltins x = some (.type T)) (hm : X.mg x = none) (ha : PAB X C (e :: es) t n)
    (hg : Gl X x := by rfl) (hn : x ≠ "__name__" := by decide) (hdb : (x == ("__debug__" : Str)) = false := by decide) (pl : CallPl X e es pos := by exact ⟨rfl, rfl⟩) : PP X C (.Call (.Name x p) (e :: es) [] pos) (tCB r t) (mC1 op n) := ⟨pe_callTy hc hg hm hv ha.pe hn hdb (he := pl.he) (hpl := pl.hpl), rd_cb ha.rd h⟩
theorem paired1 {α β : Type} {F : α → β → Prop} {l : List α} {y : β} (h : Paired F l [y]) : ∃ x, l = [x] ∧ F x y := by
  cases h with
  | cons h1 t => cases t; exact ⟨_, rfl, h1⟩
theorem paired2 {α β : Type} {F : α → β → Prop} {l : List α} {y z : β} (h : Paired F l [y, z]) : ∃ x w, l = [x, w] ∧ F x y ∧ F w z := by
  cases h with
  | cons h1 t => obtain ⟨w, rfl, h2⟩ := paired1 t; exact ⟨_, _, rfl, h1, h2⟩

/-! len -/
def oLen : List D → (D → Prop) → Prop
  | [.list ds], P => P (.int ds.length)
  | [.tuple ds], P => P (.int ds.length)
  | [.str x], P => x.length ≤ sizeLine ∧ P (.int x.length)
  | _, _ => False
abbrev z_len (K : PySem.W.Frag) : List V → Hp → VK → Prop := fun xs H Q => ∃ x n, xs = [x] ∧ LenV K x H n ∧ Q (.int n) H
theorem cb_len : CbOk C (z_len X.K) oLen := fun S H vs ds P Q g r p k => by
  unfold oLen at p
  split at p
  · obtain ⟨x, rfl, r1⟩ := paired1 r
    obtain ⟨l, ws, rfl, ha, hl, _⟩ := r1.lst g
    exact ⟨_, ws.length, rfl, .inl ⟨ws, hl, rfl⟩, k (.int (ws.length : Nat)) S H _ (by rw [DpAll.length ha]; exact p) Stp.refl g (Dp.int _)⟩
  · obtain ⟨x, rfl, r1⟩ := paired1 r
    obtain ⟨l, ws, rfl, ha, hl, _⟩ := r1.tup g
    exact ⟨_, ws.length, rfl, .inr ⟨ws, SqT.mono g.sub hl, rfl⟩, k (.int (ws.length : Nat)) S H _ (by rw [DpAll.length ha]; exact p) Stp.refl g (Dp.int _)⟩
  · obtain ⟨x, rfl, r1⟩ := paired1 r
    rw [rstr r1]
    exact ⟨_, _, rfl, ⟨p.1, rfl⟩, k _ S H _ p.2 Stp.refl g (Dp.int _)⟩
  · exact p.elim
theorem p_len {K₁ : PySem.W.Frag} {n : ML} (hm : X.mg "len" = none) (ha : PAB X C (e :: es) t n) (hg : Gl X "len" := by rfl) (pl : CallPl X e es pos := by exact ⟨rfl, rfl⟩) (hK₁ : X.K = K₁ := by first | exact blkK2 | exact blkK | exact rfl) : PP X C (.Call (.Name "len" p) (e :: es) [] pos) (tCB (z_len K₁) t) (mC1 oLen n) := by subst hK₁; exact (p_cb call_len cb_len PySem.boot_len hm ha hg (pl := pl))
/-! int, abs -/
def oInt : List D → (D → Prop) → Prop
  | [.int i], P => P (.int i)
  | [.bool k], P => P (.int (if k then 1 else 0))
  | _, _ => False
abbrev z_int1 : List V → Hp → VK → Prop := fun xs H Q => (∃ i, xs = [.int i] ∧ Q (.int i) H) ∨ ∃ k, xs = [.bl k] ∧ Q (.int (if k then 1 else 0)) H
theorem cb_int : CbOk C z_int1 oInt := fun S H vs ds P Q g r p k => by
  unfold oInt at p
  split at p
  · obtain ⟨x, rfl, r1⟩ := paired1 r
    rw [rint r1]
    exact .inl ⟨_, rfl, k _ S H _ p Stp.refl g (Dp.int _)⟩
  · obtain ⟨x, rfl, r1⟩ := paired1 r
    rw [rbool r1]
    exact .inr ⟨_, rfl, k _ S H _ p Stp.refl g (Dp.int _)⟩
  · exact p.elim
theorem p_int1 {n : ML} (hm : X.mg "int" = none) (ha : PAB X C (e :: es) t n) (hg : Gl X "int" := by rfl) (pl : CallPl X e es pos := by exact ⟨rfl, rfl⟩) : PP X C (.Call (.Name "int" p) (e :: es) [] pos) (tCB z_int1 t) (mC1 oInt n) := p_ct call_int1 cb_int PyProof.Rows.boot_int hm ha hg (pl := pl)
def oAbs : List D → (D → Prop) → Prop
  | [.int i], P => P (.int (if i < 0 then -i else i))
  | _, _ => False
abbrev z_abs : List V → Hp → VK → Prop := fun xs H Q => ∃ i, xs = [.int i] ∧ Q (.int (if i < 0 then -i else i)) H
theorem cb_abs : CbOk C z_abs oAbs := fun S H vs ds P Q g r p k => by
  unfold oAbs at p
  split at p
  · obtain ⟨x, rfl, r1⟩ := paired1 r
    rw [rint r1]
    exact ⟨_, rfl, k _ S H _ p Stp.refl g (Dp.int _)⟩
  · exact p.elim
theorem p_abs {n : ML} (hm : X.mg "abs" = none) (ha : PAB X C (e :: es) t n) (hg : Gl X "abs" := by rfl) (pl : CallPl X e es pos := by exact ⟨rfl, rfl⟩) : PP X C (.Call (.Name "abs" p) (e :: es) [] pos) (tCB z_abs t) (mC1 oAbs n) := p_cb call_abs cb_abs PyProof.Rows.boot_abs hm ha hg (pl := pl)
/-! all, any -/
def bools : List D → Option (List Bool)
  | [] => some []
  | .bool x :: ds => (bools ds).map (x :: ·)
  | _ :: _ => none
theorem bools_vals {K : PySem.W.Frag} {S : Hp} : ∀ {vs : List V} {ds : List D} {xs : List Bool}, DpAll K S vs ds → bools ds = some xs → vs = xs.map V.bl
  | _, [], xs, .nil, e => by cases e; rfl
  | _, d :: ds, xs, .cons h t, e => by
    cases d with
    | bool x =>
      cases h
      have e : (bools ds).map (x :: ·) = some xs := e
      cases q : bools ds with
      | none => rw [q] at e; cases e
      | some ys =>
        rw [q] at e
        cases e
        rw [bools_vals t q]; rfl
    | _ => cases e
def oAll : List D → (D → Prop) → Prop
  | [.list ds], P => ∃ bs, bools ds = some bs ∧ P (.bool (bs.all id))
  | _, _ => False
def oAny : List D → (D → Prop) → Prop
  | [.list ds], P => ∃ bs, bools ds = some bs ∧ P (.bool (bs.any id))
  | _, _ => False
theorem cb_all : CbOk C (rAll X.K) oAll := fun S H vs ds P Q g r p k => by
  unfold oAll at p
  split at p
  · obtain ⟨bs, hb, p⟩ := p
    obtain ⟨x, rfl, r1⟩ := paired1 r
    obtain ⟨l, ws, rfl, ha, hl, _⟩ := r1.lst g
    have e := bools_vals ha hb
    subst e
    exact ⟨l, bs, rfl, hl, k _ S H _ p Stp.refl g (Dp.bl _)⟩
  · exact p.elim
theorem cb_any : CbOk C (rAny X.K) oAny := fun S H vs ds P Q g r p k => by
  unfold oAny at p
  split at p
  · obtain ⟨bs, hb, p⟩ := p
    obtain ⟨x, rfl, r1⟩ := paired1 r
    obtain ⟨l, ws, rfl, ha, hl, _⟩ := r1.lst g
    have e := bools_vals ha hb
    subst e
    exact ⟨l, bs, rfl, hl, k _ S H _ p Stp.refl g (Dp.bl _)⟩
  · exact p.elim
theorem p_all {K₁ : PySem.W.Frag} {n : ML} (hm : X.mg "all" = none) (ha : PAB X C (e :: es) t n) (hg : Gl X "all" := by rfl) (hc : X.calm = true := by rfl) (pl : CallPl X e es pos := by exact ⟨rfl, rfl⟩) (hK₁ : X.K = K₁ := by first | exact blkK2 | exact blkK | exact rfl) : PP X C (.Call (.Name "all" p) (e :: es) [] pos) (tCB (rAll K₁) t) (mC1 oAll n) := by subst hK₁; exact (p_cb (cr_all hc) cb_all PyProof.Rows.boot_all hm ha hg (pl := pl))
theorem p_any {K₁ : PySem.W.Frag} {n : ML} (hm : X.mg "any" = none) (ha : PAB X C (e :: es) t n) (hg : Gl X "any" := by rfl) (hc : X.calm = true := by rfl) (pl : CallPl X e es pos := by exact ⟨rfl, rfl⟩) (hK₁ : X.K = K₁ := by first | exact blkK2 | exact blkK | exact rfl) : PP X C (.Call (.Name "any" p) (e :: es) [] pos) (tCB (rAny K₁) t) (mC1 oAny n) := by subst hK₁; exact (p_cb (cr_any hc) cb_any PyProof.Rows.boot_any hm ha hg (pl := pl))
/-! sum, min, max of ints -/
def intsD : List D → Option (List Int)
  | [] => some []
  | .int x :: ds => (intsD ds).map (x :: ·)
  | _ :: _ => none
theorem intsD_vals {K : PySem.W.Frag} {S : Hp} : ∀ {vs : List V} {ds : List D} {xs : List Int}, DpAll K S vs ds → intsD ds = some xs → vs = xs.map V.int
  | _, [], xs, .nil, e => by cases e; rfl
  | _, d :: ds, xs, .cons h t, e => by
    cases d with
    | int x =>
      cases h
      have e : (intsD ds).map (x :: ·) = some xs := e
      cases q : intsD ds with
      | none => rw [q] at e; cases e
      | some ys =>
        rw [q] at e
        cases e
        rw [intsD_vals t q]; rfl
    | _ => cases e
def oSum : List D → (D → Prop) → Prop
  | [.list ds], P => ∃ ns, intsD ds = some ns ∧ P (.int ns.sum)
  | _, _ => False
def oMinL : List D → (D → Prop) → Prop
  | [.list ds], P => ∃ ns, intsD ds = some ns ∧ 0 < ns.length ∧ ∀ m, m ∈ ns → (∀ y, y ∈ ns → m ≤ y) → P (.int m)
  | _, _ => False
def oMaxL : List D → (D → Prop) → Prop
  | [.list ds], P => ∃ ns, intsD ds = some ns ∧ 0 < ns.length ∧ ∀ m, m ∈ ns → (∀ y, y ∈ ns → y ≤ m) → P (.int m)
  | _, _ => False
theorem cb_sum : CbOk C (rSum X.K) oSum := fun S H vs ds P Q g r p k => by
  unfold oSum at p
  split at p
  · obtain ⟨bs, hb, p⟩ := p
    obtain ⟨x, rfl, r1⟩ := paired1 r
    obtain ⟨l, ws, rfl, ha, hl, _⟩ := r1.lst g
    have e := intsD_vals ha hb
    subst e
    exact ⟨l, bs, rfl, hl, k _ S H _ p Stp.refl g (Dp.int _)⟩
  · exact p.elim
theorem cb_minL : CbOk C (rMin X.K) oMinL := fun S H vs ds P Q g r p k => by
  unfold oMinL at p
  split at p
  · obtain ⟨bs, hb, hz, p⟩ := p
    obtain ⟨x, rfl, r1⟩ := paired1 r
    obtain ⟨l, ws, rfl, ha, hl, _⟩ := r1.lst g
    have e := intsD_vals ha hb
    subst e
    exact ⟨l, bs, rfl, hl, hz, fun m h1 h2 => k _ S H _ (p m h1 h2) Stp.refl g (Dp.int _)⟩
  · exact p.elim
theorem cb_maxL : CbOk C (rMax X.K) oMaxL := fun S H vs ds P Q g r p k => by
  unfold oMaxL at p
  split at p
  · obtain ⟨bs, hb, hz, p⟩ := p
    obtain ⟨x, rfl, r1⟩ := paired1 r
    obtain ⟨l, ws, rfl, ha, hl, _⟩ := r1.lst g
    have e := intsD_vals ha hb
    subst e
    exact ⟨l, bs, rfl, hl, hz, fun m h1 h2 => k _ S H _ (p m h1 h2) Stp.refl g (Dp.int _)⟩
  · exact p.elim
theorem p_sum {K₁ : PySem.W.Frag} {n : ML} (hm : X.mg "sum" = none) (ha : PAB X C (e :: es) t n) (hg : Gl X "sum" := by rfl) (hc : X.calm = true := by rfl) (pl : CallPl X e es pos := by exact ⟨rfl, rfl⟩) (hK₁ : X.K = K₁ := by first | exact blkK2 | exact blkK | exact rfl) : PP X C (.Call (.Name "sum" p) (e :: es) [] pos) (tCB (rSum K₁) t) (mC1 oSum n) := by subst hK₁; exact (p_cb (cr_sum hc) cb_sum PyProof.Rows.boot_sum hm ha hg (pl := pl))
theorem p_minL {K₁ : PySem.W.Frag} {n : ML} (hm : X.mg "min" = none) (ha : PAB X C (e :: es) t n) (hg : Gl X "min" := by rfl) (hc : X.calm = true := by rfl) (pl : CallPl X e es pos := by exact ⟨rfl, rfl⟩) (hK₁ : X.K = K₁ := by first | exact blkK2 | exact blkK | exact rfl) : PP X C (.Call (.Name "min" p) (e :: es) [] pos) (tCB (rMin K₁) t) (mC1 oMinL n) := by subst hK₁; exact (p_cb (cr_min hc) cb_minL PyProof.Rows.boot_min hm ha hg (pl := pl))
theorem p_maxL {K₁ : PySem.W.Frag} {n : ML} (hm : X.mg "max" = none) (ha : PAB X C (e :: es) t n) (hg : Gl X "max" := by rfl) (hc : X.calm = true := by rfl) (pl : CallPl X e es pos := by exact ⟨rfl, rfl⟩) (hK₁ : X.K = K₁ := by first | exact blkK2 | exact blkK | exact rfl) : PP X C (.Call (.Name "max" p) (e :: es) [] pos) (tCB (rMax K₁) t) (mC1 oMaxL n) := by subst hK₁; exact (p_cb (cr_max hc) cb_maxL PyProof.Rows.boot_max hm ha hg (pl := pl))
def oMin2 : List D → (D → Prop) → Prop
  | [.int i, .int j], P => P (.int (if j < i then j else i))
  | _, _ => False
def oMax2 : List D → (D → Prop) → Prop
  | [.int i, .int j], P => P (.int (if j > i then j else i))
  | _, _ => False
abbrev z_min2 : List V → Hp → VK → Prop := fun xs H Q => ∃ i j, xs = [.int i, .int j] ∧ Q (.int (if j < i then j else i)) H
abbrev z_max2 : List V → Hp → VK → Prop := fun xs H Q => ∃ i j, xs = [.int i, .int j] ∧ Q (.int (if j > i then j else i)) H
theorem cb_min2 : CbOk C z_min2 oMin2 := fun S H vs ds P Q g r p k => by
  unfold oMin2 at p
  split at p
  · obtain ⟨x, y, rfl, r1, r2⟩ := paired2 r
    rw [rint r1, rint r2]
    exact ⟨_, _, rfl, k _ S H _ p Stp.refl g (Dp.int _)⟩
  · exact p.elim
theorem cb_max2 : CbOk C z_max2 oMax2 := fun S H vs ds P Q g r p k => by
  unfold oMax2 at p
  split at p
  · obtain ⟨x, y, rfl, r1, r2⟩ := paired2 r
    rw [rint r1, rint r2]
    exact ⟨_, _, rfl, k _ S H _ p Stp.refl g (Dp.int _)⟩
  · exact p.elim
theorem p_min2 {n : ML} (hm : X.mg "min" = none) (ha : PAB X C (e :: es) t n) (hg : Gl X "min" := by rfl) (hc : X.calm = true := by rfl) (pl : CallPl X e es pos := by exact ⟨rfl, rfl⟩) : PP X C (.Call (.Name "min" p) (e :: es) [] pos) (tCB z_min2 t) (mC1 oMin2 n) := p_cb (call_min2 hc) cb_min2 PyProof.Rows.boot_min hm ha hg (pl := pl)
theorem p_max2 {n : ML} (hm : X.mg "max" = none) (ha : PAB X C (e :: es) t n) (hg : Gl X "max" := by rfl) (hc : X.calm = true := by rfl) (pl : CallPl X e es pos := by exact ⟨rfl, rfl⟩) : PP X C (.Call (.Name "max" p) (e :: es) [] pos) (tCB z_max2 t) (mC1 oMax2 n) := p_cb (call_max2 hc) cb_max2 PyProof.Rows.boot_max hm ha hg (pl := pl)
/-! tuple(..) of a list or tuple -/
def oTuple : List D → (D → Prop) → Prop
  | [.list ds], P => P (.tuple ds)
  | [.tuple ds], P => P (.tuple ds)
  | _, _ => False
abbrev z_tuple (K : PySem.W.Frag) : List V → Hp → VK → Prop := zTupF K
theorem cb_tuple : CbOk C (z_tuple X.K) oTuple := fun S H vs ds P Q g r p k => by
  unfold oTuple at p
  split at p
  · obtain ⟨x, rfl, r1⟩ := paired1 r
    obtain ⟨l, ws, rfl, ha, hl, hz⟩ := r1.lst g
    exact ⟨l, ws, rfl, .inl ⟨hl, fun q o hq ho => fin_tup g ha hz hq ho p k⟩⟩
  · obtain ⟨x, rfl, r1⟩ := paired1 r
    obtain ⟨l, ws, rfl, ha, hl, hz⟩ := r1.tup g
    exact ⟨l, ws, rfl, .inr ⟨SqT.mono g.sub hl, k _ S H _ p Stp.refl g (.tup hl ha)⟩⟩
  · exact p.elim
theorem p_tuple {K₁ : PySem.W.Frag} {n : ML} (hm : X.mg "tuple" = none) (ha : PAB X C (e :: es) t n) (hg : Gl X "tuple" := by rfl) (pl : CallPl X e es pos := by exact ⟨rfl, rfl⟩) (hK₁ : X.K = K₁ := by first | exact blkK2 | exact blkK | exact rfl) : PP X C (.Call (.Name "tuple" p) (e :: es) [] pos) (tCB (z_tuple K₁) t) (mC1 oTuple n) := by subst hK₁; exact (p_ct call_tupF cb_tuple PyProof.Rows.boot_tuple hm ha hg (pl := pl))
/-! divmod -/
def oDivmod : List D → (D → Prop) → Prop
  | [.int i, .int j], P => CDiv i j ∧ P (.tuple [.int (i / j), .int (i % j)])
  | _, _ => False
abbrev z_divmod : List V → Hp → VK → Prop := zDivF
theorem cb_divmod : CbOk C z_divmod oDivmod := fun S H vs ds P Q g r p k => by
  unfold oDivmod at p
  split at p
  · obtain ⟨x, y, rfl, r1, r2⟩ := paired2 r
    rw [rint r1, rint r2]
    exact ⟨_, _, rfl, p.1, fun q o hq ho => fin_tup g (.cons (.int _) (.cons (.int _) .nil)) (show 2 ≤ sizeLine by decide) hq ho p.2 k⟩
  · exact p.elim
theorem p_divmod {n : ML} (hm : X.mg "divmod" = none) (ha : PAB X C (e :: es) t n) (hg : Gl X "divmod" := by rfl) (pl : CallPl X e es pos := by exact ⟨rfl, rfl⟩) : PP X C (.Call (.Name "divmod" p) (e :: es) [] pos) (tCB z_divmod t) (mC1 oDivmod n) := p_cb call_divF cb_divmod PyProof.Rows.boot_divmod hm ha hg (pl := pl)

/-! isinstance(x, T), T a built-in type -/
def isTy (T : String) : D → Option Bool
  | .none => kitB "NoneType" T
  | .bool _ => kitB "bool" T
  | .int _ => kitB "int" T
  | .str _ => kitB "str" T
  | .list _ => kitB "list" T
  | .tuple _ => kitB "tuple" T
  | .dict _ => kitB "dict" T
def mIsi (T : String) (m : ME) : ME := fun ρ P => m ρ fun d => ∃ b, isTy T d = some b ∧ P (.bool b)
theorem tyx_of {S H : Hp} {v : V} {d : D} {T : String} {b : Bool} {vol : Addr → Prop} {G : Hp → Prop} (g : Good vol G S H) (h : RepH vol X.K S H v d) (e : isTy T d = some b) : ∃ t, TyX X.K H v t ∧ PySem.W.kitOne X.K t (.type T) = some b := by
  cases d with
  | none => rw [rnone h]; exact ⟨_, .base .non, kit_ty e⟩
  | bool x => rw [rbool h]; exact ⟨_, .base (.bl x), kit_ty e⟩
  | int x => rw [rint h]; exact ⟨_, .base (.int x), kit_ty e⟩
  | str x => rw [rstr h]; exact ⟨_, .base (.str x), kit_ty e⟩
  | list ds =>
    obtain ⟨l, ws, rfl, ha, hl, _⟩ := h.lst g
    rcases hl with (hl | ⟨o, hl⟩) | ⟨o, its, n, h1, h2, h3, h4, h5, h6⟩
    · exact ⟨_, .base (.lst hl), kit_ty e⟩
    · exact ⟨_, .base (.frz hl), kit_ty e⟩
    · exact ⟨_, .kList h1 h2, kit_ty e⟩
  | tuple ds =>
    obtain ⟨l, ws, rfl, ha, hl, _⟩ := h.tup g
    rcases SqT.mono g.sub hl with (hl | ⟨o, hl⟩) | ⟨o, its, n, h1, h2, h3, h5, h6⟩
    · exact ⟨_, .base (.tup hl), kit_ty e⟩
    · exact ⟨_, .fTuple hl, kit_ty e⟩
    · exact ⟨_, .kTuple h1 h2, kit_ty e⟩
  | dict kvs =>
    obtain ⟨l, rfl, h, _⟩ := h
    obtain ⟨es, h, _⟩ := h
    exact ⟨_, .base (.dK h), kit_ty e⟩
theorem p_isi {K₁ : PySem.W.Frag} (T : String) {y : Str} {pT : Pos} (hm : X.mg "isinstance" = none) (hy : X.mg y = none) (hT : bootBuiltins y = some (.type T)) (ha : PB X C a ta ma) (hg : Gl X "isinstance" := by rfl) (hgy : Gl X y := by rfl) (hn : y ≠ "__name__" := by decide) (hd : (y == ("__debug__" : Str)) = false := by decide)
    (hs : starEach (a :: .Name y pT :: []) X.env = (false, eval a X.env) :: starEach [.Name y pT] X.env := by rfl) (hs2 : starEach (.Name y pT :: []) X.env = (false, eval (.Name y pT) X.env) :: starEach [] X.env := by rfl) (hpl : (backTo pos (starEach [.Name y pT] X.env)).any (·.1) = false := by rfl) (hK₁ : X.K = K₁ := by first | exact blkK2 | exact blkK | exact rfl) :
    PP X C (.Call (.Name "isinstance" p) [a, .Name y pT] [] pos) (tCB (rIsi K₁) (tCons ta (tCons (tC (.ty T)) tNil))) (mIsi T ma) := by subst hK₁; exact (⟨pe_callB call_isi hg hm PyProof.Rows.boot_isinstance (pa_cons ha.pe (pa_cons (pe_bltn hgy hy hT (v := .ty T) rfl hn hd) pa_nil hs2) hs) (he := hs) (hpl := hpl), by
    intro S H σ ρ P Q rl hmm k
    refine ha.rd S H σ ρ _ _ rl hmm fun d S1 H1 v p1 s1 g1 r1 => ?_
    obtain ⟨b, e, p1⟩ := p1
    obtain ⟨t, ht, hk⟩ := tyx_of g1 r1 e
    exact ⟨v, _, t, _, b, rfl, .ty T, ht, hk, k _ S1 H1 _ p1 s1 g1 (Dp.bl b)⟩⟩)
end

/-! ### own calls -/
abbrev Phi := List Sl → (D → Prop) → (Ex → Prop) → Prop
def spG (K : PySem.W.Frag) (vol : Addr → Prop) (G : Hp → Prop) (n : Nat) (Φ : Phi) : Sp := fun vs H Q E => ∃ S as P PX, as.length = n ∧ ArgsOk K S vs as ∧ Good vol G S H ∧ Φ as P PX ∧
  (∀ d S' H' v, P d → Stp vol S H S' H' → Good vol G S' H' → Rep K S' v d → Q v H') ∧ (∀ x S' H' c od, PX x → Stp vol S H S' H' → Good vol G S' H' → XRep K S' H' x c od → E c od H')
structure Compat (vol : Addr → Prop) (G : Hp → Prop) (vol' : Addr → Prop) (G' : Hp → Prop) : Prop where
  in_ : ∀ S H, Good vol G S H → Good vol' G' S H
  out : ∀ S H S' H', Good vol G S H → Stp vol' S H S' H' → Good vol' G' S' H' → Stp vol S H S' H' ∧ Good vol G S' H'
theorem Compat.refl {vol : Addr → Prop} {G : Hp → Prop} : Compat vol G vol G := ⟨fun _ _ g => g, fun _ _ _ _ _ s g => ⟨s, g⟩⟩
section
variable {X : Cx} {C : GC X.K} {e : Expr} {es : List Expr} {te : TE} {me : ME} {pos p : Pos} {t : TA} {x : Str} {k n : Nat} {f : Addr} {fd : FuncData} {ps : List Str} {vol' : Addr → Prop} {G' : Hp → Prop} {Φ : Phi}
def mCall (Φ : Phi) (m : MA) : ME := fun ρ P => m ρ fun as => Φ as P fun _ => False
theorem rd_call {m : MA} (cp : Compat C.vol C.G vol' G') (ha : ∀ S H σ ρ P (Q : List V → Hp → Prop), Rel C S H σ ρ → m ρ P → (∀ as S' H' vs, P as → as.length = n → Stp C.vol S H S' H' → Good C.vol C.G S' H' → ArgsOk X.K S' vs as → Q vs H') → t σ H Q) :
    RdE C (tCall (spG X.K vol' G' n Φ) [] E0 t) (mCall Φ m) := by
  intro S H σ ρ P Q rl hm kk
  refine ha S H σ ρ _ _ rl hm fun as S1 H1 vs p1 ln s1 g1 r1 => ?_
  refine ⟨S1, as, P, _, ln, by rw [List.append_nil]; exact r1, cp.in_ _ _ g1, p1, fun d S' H' v pd s g q => ?_, fun _ _ _ _ _ z => z.elim⟩
  obtain ⟨s2, g2⟩ := cp.out _ _ _ _ g1 s g
  exact kk d S' H' v pd (s1.trans g1 s2) g2 q
end
section
variable {X : Cx} {C : GC X.K}
/-- an argument list of n places -/
structure PAn (X : Cx) (C : GC X.K) (n : Nat) (es : List Expr) (t : TA) (m : MA) : Prop where
  pe : PA X es t
  rd : ∀ S H σ ρ P (Q : List V → Hp → Prop), Rel C S H σ ρ → m ρ P → (∀ as S' H' vs, P as → as.length = n → Stp C.vol S H S' H' → Good C.vol C.G S' H' → ArgsOk X.K S' vs as → Q vs H') → t σ H Q
variable {e : Expr} {es : List Expr} {te : TE} {me : ME} {pos p : Pos} {t : TA} {x : Str} {k n : Nat} {f : Addr} {fd : FuncData} {ps : List Str} {vol' : Addr → Prop} {G' : Hp → Prop} {Φ : Phi}
theorem n_nil : PAn X C 0 [] tNil mAnil := ⟨pa_nil, fun S H σ ρ P Q r hm k => k [] S H [] hm rfl Stp.refl r.good .nil⟩
theorem n_da {m : MA} (h : PP X C e te me) (hr : PAn X C n es t m) (hs : starEach (e :: es) X.env = (false, eval e X.env) :: starEach es X.env := by rfl) : PAn X C (n + 1) (e :: es) (tCons te t) (mAda me m) := ⟨pa_cons h.pe hr.pe hs, by
  intro S H σ ρ P Q r hm k
  refine h.rd S H σ ρ _ _ r hm fun d S1 H1 v p1 s1 g1 r1 => ?_
  refine hr.rd S1 H1 σ ρ _ _ (r.step s1 g1) p1 fun as S2 H2 vs p2 ln s2 g2 r2 => ?_
  exact k _ S2 H2 _ p2 (by rw [List.length_cons, ln]) (s1.trans g1 s2) g2 (.cons (r1.mono s2.ss) r2)⟩
theorem n_rw (i : Nat) {m : MA} {x : Str} {p : Pos} (hr : PAn X C n es t m) (hN : X.N[i]? = some x := by rfl) (hv : Vis X.env.scope x := by first | exact Or.inl rfl | exact Or.inr (Or.inl rfl) | exact Or.inr (Or.inr rfl)) (hd : (x == ("__debug__" : Str)) = false := by decide)
    (hcd : (x == ("__classdict__" : Str)) = false := by decide) (hs : starEach (.Name x p :: es) X.env = (false, eval (.Name x p) X.env) :: starEach es X.env := by rfl) : PAn X C (n + 1) (.Name x p :: es) (tCons (tVar i) t) (mArw i m) := ⟨pa_cons (pe_var hN hv hd hcd) hr.pe hs, by
  intro S H σ ρ P Q r hm k
  unfold mArw at hm
  have hsl := r.sl i
  cases e : gt ρ i with
  | rw v =>
    rw [e] at hm hsl
    refine ⟨v, NdefX.slotAt_some hsl, ?_⟩
    exact hr.rd S H σ ρ _ _ r hm fun as S2 H2 vs p2 ln s2 g2 r2 => k _ S2 H2 _ p2 (by rw [List.length_cons, ln]) s2 g2 (.cons rfl r2)
  | _ => rw [e] at hm; exact hm.elim⟩
/-- f(..), f an own def -/
theorem p_call {K₁ : PySem.W.Frag} {m : MA} (F : FnOk X.prog X.w X.K X.mg X.base CX0 k f fd ps (spG X.K vol' G' n Φ)) (cp : Compat C.vol C.G vol' G') (hr : Room k X.A) (hm : X.mg x = some (.ref f)) (hk : PySem.W.keepIn X.K (.ref f) = true) (hb : Binds X.K fd ps []) (ha : PAn X C n (e :: es) t m) (hg : Gl X x := by rfl)
    (hdb : (x == ("__debug__" : Str)) = false := by decide) (he : starEach (e :: es) X.env = (false, eval e X.env) :: starEach es X.env := by rfl) (hpl : (backTo pos (starEach es X.env)).any (·.1) = false := by rfl) (hK₁ : X.K = K₁ := by first | exact blkK2 | exact blkK | exact rfl) :
    PP X C (.Call (.Name x p) (e :: es) [] pos) (tCall (spG K₁ vol' G' n Φ) [] E0 t) (mCall Φ m) := by subst hK₁; exact (⟨pe_call F hr hg hm hk hb .nil pass0 ha.pe (hdb := hdb) (he := he) (hpl := hpl), rd_call cp ha.rd⟩)
end

/-! ### a def's contract by its body -/
abbrev gc {K : PySem.W.Frag} (vol : Addr → Prop) (G : Hp → Prop) (gst : GSt vol G) (S0 H0 : Hp) : GC K := ⟨vol, G, gst, S0, H0, fun _ _ _ => False, fun _ => False, fun _ _ _ _ _ z => z.elim⟩
def bodyPhi (N : Nat) (n : Nat) (m : MS) : Phi := fun as P _ => m (as ++ List.replicate (N - n) .un) ⟨fun _ => P .none, P, fun _ => False, fun _ => False⟩
theorem slotAt_start {N : List Str} {vs : List V} (i : Nat) : NdefX.slotAt (L2.start N vs) i = vs[i]? := by
  unfold NdefX.slotAt L2.start
  by_cases h : i < vs.length
  · rw [List.getElem?_append_left (by rw [List.length_map]; exact h), List.getElem?_map]
    cases e : vs[i]? with
    | none => rfl
    | some v => rfl
  · rw [List.getElem?_append_right (by rw [List.length_map]; omega), List.getElem?_replicate]
    have e : vs[i]? = none := List.getElem?_eq_none_iff.mpr (by omega)
    rw [e]
    split <;> rename_i q
    · split at q <;> first | (cases q; rfl) | cases q
    · rfl
theorem gt_app {as : List Sl} {n i : Nat} : gt (as ++ List.replicate n .un) i = (as[i]?).getD .un := by
  unfold gt
  rw [List.getD_eq_getElem?_getD]
  by_cases h : i < as.length
  · rw [List.getElem?_append_left h]
  · rw [List.getElem?_append_right (by omega), List.getElem?_replicate, List.getElem?_eq_none_iff.mpr (show as.length ≤ i by omega)]
    split <;> rfl
theorem args_at {K : PySem.W.Frag} {S : Hp} : ∀ {vs : List V} {as : List Sl} (i : Nat), ArgsOk K S vs as → (as[i]? = none ∨ ∃ v s, vs[i]? = some v ∧ as[i]? = some s ∧ ArgOk K S v s)
  | _, _, _, .nil => .inl rfl
  | _, _, 0, .cons h _ => .inr ⟨_, _, rfl, rfl, h⟩
  | _, _, i + 1, .cons _ t => args_at i t
theorem args_noown {K : PySem.W.Frag} {S : Hp} {v : V} {s : Sl} (h : ArgOk K S v s) : s.own = false := by
  cases s <;> first | rfl | exact (h : False).elim
theorem rel_start {K : PySem.W.Frag} {C : GC K} {S : Hp} {H : Hp} {N : List Str} {vs : List V} {as : List Sl} {n : Nat} (hS : C.S0 = S) (hH : C.H0 = H) (g : Good C.vol C.G S H) (h : ArgsOk K S vs as) (ln : as.length = n) (hN : n ≤ N.length) : Rel C S H (L2.start N vs) (as ++ List.replicate (N.length - n) .un) := by
  have hl := paired_len h
  refine ⟨g, ?_, fun i => ?_, fun i j l h1 => ?_, ?_⟩
  · rw [hS, hH]; exact Stp.refl
  · rw [slotAt_start, gt_app]
    rcases args_at i h with e | ⟨v, s, e1, e2, q⟩
    · rw [e]; trivial
    · rw [e1, e2]
      cases s with
      | da d => exact ⟨v, rfl, q⟩
      | rw u => cases (show v = u from q); exact rfl
      | _ => exact (q : False).elim
  · rw [gt_app] at h1
    rcases args_at i h with e | ⟨v, s, e1, e2, q⟩
    · rw [e] at h1; cases h1
    · rw [e2] at h1
      rw [show ((some s).getD Sl.un) = s from rfl, args_noown q] at h1
      cases h1
  · unfold L2.start
    rw [List.length_append, List.length_append, List.length_map, List.length_replicate, List.length_replicate, hl, ln]
theorem fn_pure {P : Program} {w : World} {K : PySem.W.Frag} {mg : Str → Option Value} {base : Heap} {x qual : Str} {st : Stmt} {f : Addr} {fd : FuncData} {N ps : List Str} {k : Nat} {vol : Addr → Prop} {G : Hp → Prop} {m : MS} (gst : GSt vol G) (F : Fun K x qual st f fd) (sc : FnScope N ps (defScope st)) (hN : ps.length ≤ N.length)
    (hb : ∀ (cdv : Value) (A : Around) (outer : List Env) (s : Shared) (H S : Hp) (E : XK), Room k (A.deeper (envOfC qual (defScope st) s.heap.objs.size f cdv)) →
      ∃ t, PSL (cxOf CX0 P w K mg base N qual (defScope st) f cdv A outer s H E).nox (gc vol G gst S H) (defBody st) t m) :
    FnOk P w K mg base CX0 (k + 1) f fd ps (spG K vol G ps.length (bodyPhi N.length ps.length m)) := by
  refine F.ok sc (fun vs H Q E h => ?_) (fun cdv A outer s H vs Q E hr h => ?_)
  · obtain ⟨S, as, P, PX, ln, ha, _⟩ := h
    rw [paired_len ha, ln]
  · obtain ⟨S, as, P, PX, ln, ha, g, hΦ, k1, k2⟩ := h
    obtain ⟨t, ht⟩ := hb cdv A outer s H S E hr
    refine ⟨t, ht.pe, ?_⟩
    refine ht.rd S H (L2.start N vs) _ _ _ (rel_start rfl rfl g ha ln hN) hΦ (fun ρ' S' H' σ' p _ r => ?_) (fun d S' H' v p g' s' q => k1 d S' H' v p s' g' q) (fun _ _ _ _ z => z.elim) (fun _ _ _ _ z => z.elim)
    exact k1 .none S' H' .non p r.stp r.good Dp.non
end Pu

set_option Elab.async false
set_option linter.all false
set_option maxRecDepth 100000
set_option maxHeartbeats 4000000
/-! Pure readings: stores, blocks, tests, loops. -/
namespace Pu
open PySem PySem.Spec L2
open PyProof.Rows hiding St

/-! ### slots stored -/
theorem slotAt_set {σ : St} {i j : Nat} {v : V} : NdefX.slotAt (σ.set i (some v)) j = if j = i ∧ i < σ.length then some v else NdefX.slotAt σ j := by
  unfold NdefX.slotAt
  rw [List.getElem?_set]
  by_cases h : i = j
  · subst h
    by_cases h2 : i < σ.length
    · rw [if_pos rfl, if_pos h2, if_pos ⟨rfl, h2⟩]
    · rw [if_pos rfl, if_neg h2, if_neg (fun z => h2 z.2), List.getElem?_eq_none_iff.mpr (by omega)]
  · rw [if_neg h, if_neg (fun z => h z.1.symm)]
theorem gt_set {ρ : List Sl} {i j : Nat} {s : Sl} : gt (ρ.set i s) j = if j = i ∧ i < ρ.length then s else gt ρ j := by
  unfold gt
  rw [List.getD_eq_getElem?_getD, List.getD_eq_getElem?_getD, List.getElem?_set]
  by_cases h : i = j
  · subst h
    by_cases h2 : i < ρ.length
    · rw [if_pos rfl, if_pos h2, if_pos ⟨rfl, h2⟩]; rfl
    · rw [if_pos rfl, if_neg h2, if_neg (fun z => h2 z.2), List.getElem?_eq_none_iff.mpr (by omega)]
  · rw [if_neg h, if_neg (fun z => h z.1.symm)]
section
variable {K : PySem.W.Frag} {C : GC K} {S H : Hp} {σ : St} {ρ : List Sl}
theorem Rel.put (r : Rel C S H σ ρ) (i : Nat) {v : V} {s : Sl} (h : SlOk C S H (some v) s) (ho : s.own = true → ∀ j, (gt ρ j).own = true → NdefX.slotAt σ j ≠ some v) : Rel C S H (σ.set i (some v)) (ρ.set i s) := by
  refine ⟨r.good, r.stp, fun j => ?_, fun j k l h1 h2 e1 e2 => ?_, by rw [List.length_set, List.length_set]; exact r.len⟩
  · rw [slotAt_set, gt_set, r.len]
    by_cases q : j = i ∧ i < ρ.length
    · rw [if_pos q, if_pos q]; exact h
    · rw [if_neg q, if_neg q]; exact r.sl j
  · rw [gt_set] at h1 h2
    rw [slotAt_set, r.len] at e1 e2
    by_cases qj : j = i ∧ i < ρ.length
    · by_cases qk : k = i ∧ i < ρ.length
      · exact qj.1.trans qk.1.symm
      · rw [if_pos qj] at h1 e1
        rw [if_neg qk] at h2 e2
        cases e1
        exact absurd e2 (ho h1 k h2)
    · by_cases qk : k = i ∧ i < ρ.length
      · rw [if_neg qj] at h1 e1
        rw [if_pos qk] at h2 e2
        cases e2
        exact absurd e1 (ho h2 j h1)
      · rw [if_neg qj] at h1 e1
        rw [if_neg qk] at h2 e2
        exact r.ne j k l h1 h2 e1 e2
theorem Rel.set (r : Rel C S H σ ρ) (i : Nat) {v : V} {d : D} (h : Rep K S v d) : Rel C S H (σ.set i (some v)) (ρ.set i (.da d)) := r.put i ⟨v, rfl, h⟩ fun z => nomatch z
/-- an own list stored: it was not there when the statement began -/
theorem Rel.owned {H1 : Hp} (r : Rel C S H σ ρ) (hj : ∀ j, (gt ρ j).own = true → ∀ l, NdefX.slotAt σ j = some (.ref l) → H1 l ≠ none) {l : Addr} (hn : H1 l = none) : ∀ j, (gt ρ j).own = true → NdefX.slotAt σ j ≠ some (.ref l) := fun j h e => hj j h l e hn
theorem Rel.there (r : Rel C S H σ ρ) : ∀ j, (gt ρ j).own = true → ∀ l, NdefX.slotAt σ j = some (.ref l) → H l ≠ none := fun j h l e => by
  have q := r.sl j
  cases hs : gt ρ j with
  | ow ds =>
    rw [hs] at q
    obtain ⟨l', vs, e1, h1, _⟩ := q
    rw [e] at e1; cases e1
    rw [h1]; simp
  | od kvs =>
    rw [hs] at q
    obtain ⟨l', e1, h1, _⟩ := q
    rw [e] at e1; cases e1
    obtain ⟨o, ho, _⟩ := h1.some
    rw [ho]; simp
  | ob R =>
    rw [hs] at q
    obtain ⟨l', u, e1, h1, _⟩ := q
    rw [e] at e1; cases e1
    rw [h1]; simp
  | _ => rw [hs] at h; cases h
def wipeE (ρ : List Sl) : List Nat → List Sl
  | [] => ρ
  | v :: vs => (wipeE ρ vs).set v .un
theorem Rel.forget (r : Rel C S H σ ρ) (i : Nat) : Rel C S H σ (ρ.set i .un) := by
  refine ⟨r.good, r.stp, fun j => ?_, fun j k l h1 h2 e1 e2 => ?_, by rw [List.length_set]; exact r.len⟩
  · rw [gt_set]
    by_cases q : j = i ∧ i < ρ.length
    · rw [if_pos q]; trivial
    · rw [if_neg q]; exact r.sl j
  · rw [gt_set] at h1 h2
    by_cases qj : j = i ∧ i < ρ.length
    · rw [if_pos qj] at h1; cases h1
    · by_cases qk : k = i ∧ i < ρ.length
      · rw [if_pos qk] at h2; cases h2
      · rw [if_neg qj] at h1
        rw [if_neg qk] at h2
        exact r.ne j k l h1 h2 e1 e2
theorem Rel.wipeE (r : Rel C S H σ ρ) : ∀ vs : List Nat, Rel C S H σ (wipeE ρ vs)
  | [] => r
  | v :: vs => (Rel.wipeE r vs).forget v
theorem Rel.wipe1 (r : Rel C S H σ ρ) (i : Nat) (e : gt ρ i = .un) : Rel C S H (σ.set i none) ρ := by
  have sa : ∀ j, NdefX.slotAt (σ.set i none) j = if j = i then none else NdefX.slotAt σ j := fun j => by
    unfold NdefX.slotAt
    rw [List.getElem?_set]
    by_cases h : i = j
    · subst h
      rw [if_pos rfl, if_pos rfl]
      by_cases h2 : i < σ.length
      · rw [if_pos h2]
      · rw [if_neg h2]
    · rw [if_neg h, if_neg (fun z => h z.symm)]
  refine ⟨r.good, r.stp, fun j => ?_, fun j k l h1 h2 e1 e2 => ?_, by rw [List.length_set]; exact r.len⟩
  · rw [sa]
    by_cases h : j = i
    · rw [h, e]; trivial
    · rw [if_neg h]; exact r.sl j
  · rw [sa] at e1 e2
    by_cases hj : j = i
    · rw [if_pos hj] at e1; cases e1
    · by_cases hk : k = i
      · rw [if_pos hk] at e2; cases e2
      · rw [if_neg hj] at e1
        rw [if_neg hk] at e2
        exact r.ne j k l h1 h2 e1 e2
theorem gt_wipeE : ∀ {vs : List Nat} {i : Nat}, i ∈ vs → gt (Pu.wipeE ρ vs) i = .un
  | v :: vs, i, h => by
    show gt ((Pu.wipeE ρ vs).set v .un) i = .un
    rw [gt_set]
    by_cases q : i = v ∧ v < (Pu.wipeE ρ vs).length
    · rw [if_pos q]
    · rw [if_neg q]
      rcases List.mem_cons.mp h with e | e
      · have hl : ¬ v < (Pu.wipeE ρ vs).length := fun z => q ⟨e, z⟩
        unfold gt
        rw [List.getD_eq_getElem?_getD, List.getElem?_eq_none_iff.mpr (by omega)]; rfl
      · exact gt_wipeE e
theorem Rel.wipe (r : Rel C S H σ ρ) : ∀ vs : List Nat, (∀ i ∈ vs, gt ρ i = .un) → Rel C S H (L2.wipe σ vs) ρ
  | [], _ => r
  | v :: vs, h => (Rel.wipe r vs fun i hi => h i (List.mem_cons_of_mem _ hi)).wipe1 v (h v List.mem_cons_self)
theorem Rel.wiped (r : Rel C S H σ ρ) (vs : List Nat) : Rel C S H (L2.wipe σ vs) (Pu.wipeE ρ vs) := (r.wipeE vs).wipe vs fun _ hi => gt_wipeE hi
/-- an own list becomes stable -/
theorem Rel.frz (r : Rel C S H σ ρ) (i : Nat) {ds : List D} (e : gt ρ i = .ow ds) : ∃ S', Rel C S' H σ (ρ.set i (.da (.list ds))) ∧ Same S S' := by
  have q := r.sl i
  rw [e] at q
  obtain ⟨l, vs, e1, h1, h2, h3, h4, h5⟩ := q
  have ss : Same S (upd S l (.lst vs)) := same_upd h2
  refine ⟨upd S l (.lst vs), ⟨r.good.freeze h1 h4, r.stp.freeze h2 h3, fun j => ?_, fun j k m a1 a2 b1 b2 => ?_, by rw [List.length_set]; exact r.len⟩, ss⟩
  · rw [gt_set]
    by_cases q : j = i ∧ i < ρ.length
    · rw [if_pos q, q.1, e1]
      exact ⟨_, rfl, .lst (SqL.of upd_same) (DpAll.mono ss h5)⟩
    · rw [if_neg q]
      have s := r.sl j
      have hji : j ≠ i := fun z => by
        by_cases hl : i < ρ.length
        · exact q ⟨z, hl⟩
        · unfold gt at e
          rw [List.getD_eq_getElem?_getD, List.getElem?_eq_none_iff.mpr (by omega)] at e
          cases e
      cases hs : gt ρ j with
      | un => trivial
      | da d =>
        rw [hs] at s
        obtain ⟨v, e2, z⟩ := s
        exact ⟨v, e2, z.mono ss⟩
      | ow es =>
        rw [hs] at s
        obtain ⟨l', vs', e2, k1, k2, k3, k4, k5⟩ := s
        have nl : l' ≠ l := fun z => hji (r.ne j i l (by rw [hs]; rfl) (by rw [e]; rfl) (by rw [e2, z]) e1)
        exact ⟨l', vs', e2, k1, (upd_ne nl).trans k2, k3, k4, DpAll.mono ss k5⟩
      | od kvs =>
        rw [hs] at s
        obtain ⟨l', e2, k1, k2, k3, k4⟩ := s
        have nl : l' ≠ l := fun z => hji (r.ne j i l (by rw [hs]; rfl) (by rw [e]; rfl) (by rw [e2, z]) e1)
        exact ⟨l', e2, k1.mono ss rfl, (upd_ne nl).trans k2, k3, k4⟩
      | ob R =>
        rw [hs] at s
        obtain ⟨l', u, e2, k1, k2, k3, k4, k5, k6, k7⟩ := s
        have nl : l' ≠ l := fun z => hji (r.ne j i l (by rw [hs]; rfl) (by rw [e]; rfl) (by rw [e2, z]) e1)
        exact ⟨l', u, e2, k1, (upd_ne nl).trans k2, k3, k4, k5, k6, k6 _ _ _ ss k7⟩
      | rw v =>
        rw [hs] at s
        exact s
  · rw [gt_set] at a1 a2
    by_cases qj : j = i ∧ i < ρ.length
    · rw [if_pos qj] at a1; cases a1
    · by_cases qk : k = i ∧ i < ρ.length
      · rw [if_pos qk] at a2; cases a2
      · rw [if_neg qj] at a1
        rw [if_neg qk] at a2
        exact r.ne j k m a1 a2 b1 b2
/-- an own list is written -/
theorem Rel.write (r : Rel C S H σ ρ) (i : Nat) {ds ds' : List D} {l : Addr} {vs' : List V} (e : gt ρ i = .ow ds) (e1 : NdefX.slotAt σ i = some (.ref l)) (hd : DpAll K S vs' ds') (hz : vs'.length ≤ sizeLine) : Rel C S (upd H l (.lst vs')) σ (ρ.set i (.ow ds')) := by
  have q := r.sl i
  rw [e] at q
  obtain ⟨l0, vs, e0, h1, h2, h3, h4, h5⟩ := q
  rw [e1] at e0; cases e0
  have hil : i < ρ.length := by
    by_cases hl : i < ρ.length
    · exact hl
    · unfold gt at e
      rw [List.getD_eq_getElem?_getD, List.getElem?_eq_none_iff.mpr (by omega)] at e
      cases e
  refine ⟨r.good.put C.gst h1 (fun φ z => nomatch z) h2 h4 hz, r.stp.put h3, fun j => ?_, fun j k m a1 a2 b1 b2 => ?_, by rw [List.length_set]; exact r.len⟩
  · rw [gt_set]
    by_cases q : j = i
    · rw [if_pos ⟨q, hil⟩, q, e1]
      exact ⟨l, vs', rfl, upd_same, h2, h3, h4, hd⟩
    · rw [if_neg (fun z => q z.1)]
      have s := r.sl j
      cases hs : gt ρ j with
      | un => trivial
      | da d => rw [hs] at s; exact s
      | ow es =>
        rw [hs] at s
        obtain ⟨l', vs2, e2, k1, k2, k3, k4, k5⟩ := s
        have nl : l' ≠ l := fun z => q (r.ne j i l (by rw [hs]; rfl) (by rw [e]; rfl) (by rw [e2, z]) e1)
        exact ⟨l', vs2, e2, (upd_ne nl).trans k1, k2, k3, k4, k5⟩
      | od kvs =>
        rw [hs] at s
        obtain ⟨l', e2, k1, k2, k3, k4⟩ := s
        have nl : l' ≠ l := fun z => q (r.ne j i l (by rw [hs]; rfl) (by rw [e]; rfl) (by rw [e2, z]) e1)
        exact ⟨l', e2, k1.mono (Same.refl S) (upd_ne nl), k2, k3, k4⟩
      | ob R =>
        rw [hs] at s
        obtain ⟨l', u, e2, k1, k2, k3, k4, k5, k6, k7⟩ := s
        have nl : l' ≠ l := fun z => q (r.ne j i l (by rw [hs]; rfl) (by rw [e]; rfl) (by rw [e2, z]) e1)
        exact ⟨l', u, e2, (upd_ne nl).trans k1, k2, k3, k4, k5, k6, k7⟩
      | rw v => rw [hs] at s; exact s
  · rw [gt_set] at a1 a2
    have fx : ∀ j, (if j = i ∧ i < ρ.length then Sl.ow ds' else gt ρ j).own = true → (gt ρ j).own = true := fun j a => by
      by_cases q : j = i ∧ i < ρ.length
      · rw [q.1, e]; rfl
      · rw [if_neg q] at a; exact a
    exact r.ne j k m (fx j a1) (fx k a2) b1 b2
end

/-! ### statements -/
section
variable {X : Cx} {C : GC X.K} {a b e : Expr} {es : List Expr} {ta tb te : TE} {ma mb me : ME} {pos p2 p : Pos} {t u : TS} {m n : MS} {st : Stmt} {rest : List Stmt}
def mNext : MS := fun ρ E => E.nx ρ
def mSeq (m n : MS) : MS := fun ρ E => m ρ ⟨fun ρ' => n ρ' E, E.rt, E.bk, E.ct⟩
theorem s_nil : PSL X C [] tNext mNext := ⟨pss_nil, fun S H σ ρ E N rl hm k1 k2 k3 k4 => k1 ρ S H σ hm (Same.refl S) rl⟩
theorem s_cons (h1 : PSt X C st t m) (h2 : PSL X C rest u n) : PSL X C (st :: rest) (tSeq t u) (mSeq m n) := ⟨pss_cons h1.pe h2.pe, fun S H σ ρ E N rl hm k1 k2 k3 k4 => by
  refine h1.rd S H σ ρ _ _ rl hm (fun ρ' S' H' σ' q ss rl' => ?_) k2 k3 k4
  exact h2.rd S' H' σ' ρ' E N rl' q (fun ρ2 S2 H2 σ2 q2 ss2 => k1 ρ2 S2 H2 σ2 q2 (ss.trans ss2)) k2 (fun ρ2 S2 H2 σ2 q2 ss2 => k3 ρ2 S2 H2 σ2 q2 (ss.trans ss2)) fun ρ2 S2 H2 σ2 q2 ss2 => k4 ρ2 S2 H2 σ2 q2 (ss.trans ss2)⟩
theorem s_one (h1 : PSt X C st t m) : PSL X C [st] t m := ⟨pss_one h1.pe, h1.rd⟩
theorem s_never {b : List Stmt} : PSL X C b tNever (fun _ _ => False) := ⟨pss_never, fun S H σ ρ E N rl hm _ _ _ _ => hm.elim⟩
theorem x_never : PSt X C st tNever (fun _ _ => False) := ⟨ps_never, fun S H σ ρ E N rl hm _ _ _ _ => hm.elim⟩
theorem x_pass : PSt X C (.Pass pos) tNext mNext := ⟨ps_pass, fun S H σ ρ E N rl hm k1 k2 k3 k4 => k1 ρ S H σ hm (Same.refl S) rl⟩
theorem x_break : PSt X C (.Break pos) tBreak (fun ρ E => E.bk ρ) := ⟨ps_break, fun S H σ ρ E N rl hm k1 k2 k3 k4 => k3 ρ S H σ hm (Same.refl S) rl⟩
theorem x_cont : PSt X C (.Continue pos) tCont (fun ρ E => E.ct ρ) := ⟨ps_continue, fun S H σ ρ E N rl hm k1 k2 k3 k4 => k4 ρ S H σ hm (Same.refl S) rl⟩
def mDo (me : ME) : MS := fun ρ E => me ρ fun _ => E.nx ρ
theorem x_do (h : PP X C e te me) (hs : swapsWith e none pos.line X.env = pure false := by rfl) : PSt X C (.Expr e pos) (tDrop te) (mDo me) := ⟨ps_expr h.pe hs, fun S H σ ρ E N rl hm k1 k2 k3 k4 =>
  h.rd S H σ ρ _ _ rl hm fun d S1 H1 v p s g r => k1 ρ S1 H1 σ p s.ss (rl.step s g)⟩
def mRet (me : ME) : MS := fun ρ E => me ρ E.rt
theorem x_ret (h : PP X C e te me) : PSt X C (.Return (some e) pos) (tRet te) (mRet me) := ⟨ps_ret h.pe, fun S H σ ρ E N rl hm k1 k2 k3 k4 =>
  h.rd S H σ ρ _ _ rl hm fun d S1 H1 v p s g r => k2 d S1 H1 v p g (rl.stp.trans rl.good s) r⟩
def mRetN : MS := fun ρ E => E.rt .none
theorem x_retN : PSt X C (.Return none pos) tRetN mRetN := ⟨ps_retN, fun S H σ ρ E N rl hm k1 k2 k3 k4 => k2 .none S H .non hm rl.good rl.stp Dp.non⟩
def mIf (c : MT) (m n : MS) : MS := fun ρ E => c ρ fun b => if b = true then m ρ E else n ρ E
theorem x_if {c : Expr} {tc : TT} {mc : MT} {A B : List Stmt} (hc : PQ X C c tc mc) (h1 : PSL X C A t m) (h2 : PSL X C B u n) : PSt X C (.If c A B pos) (tIfS tc t u) (mIf mc m n) := ⟨ps_if hc.pe h1.pe h2.pe, fun S H σ ρ E N rl hm k1 k2 k3 k4 => by
  refine hc.rd S H σ ρ _ _ rl hm fun b S1 H1 p s g => ?_
  cases b with
  | true => exact iteT <| h1.rd S1 H1 σ ρ E N (rl.step s g) (by simpa using p) (fun ρ2 S2 H2 σ2 q2 ss2 => k1 ρ2 S2 H2 σ2 q2 (s.ss.trans ss2)) k2 (fun ρ2 S2 H2 σ2 q2 ss2 => k3 ρ2 S2 H2 σ2 q2 (s.ss.trans ss2)) fun ρ2 S2 H2 σ2 q2 ss2 => k4 ρ2 S2 H2 σ2 q2 (s.ss.trans ss2)
  | false => exact iteF <| h2.rd S1 H1 σ ρ E N (rl.step s g) (by simpa using p) (fun ρ2 S2 H2 σ2 q2 ss2 => k1 ρ2 S2 H2 σ2 q2 (s.ss.trans ss2)) k2 (fun ρ2 S2 H2 σ2 q2 ss2 => k3 ρ2 S2 H2 σ2 q2 (s.ss.trans ss2)) fun ρ2 S2 H2 σ2 q2 ss2 => k4 ρ2 S2 H2 σ2 q2 (s.ss.trans ss2)⟩
/-- an own list in slot j is one that no longer changes, from here on -/
def mFrz (j : Nat) (m : MS) : MS := fun ρ E => match gt ρ j with
  | .ow ds => m (ρ.set j (.da (.list ds))) E
  | _ => False
theorem x_frz (j : Nat) (h : PSt X C st t m) : PSt X C st t (mFrz j m) := ⟨h.pe, fun S H σ ρ E N rl hm k1 k2 k3 k4 => by
  unfold mFrz at hm
  cases q : gt ρ j with
  | ow ds =>
    rw [q] at hm
    obtain ⟨S1, r1, ss⟩ := rl.frz j q
    exact h.rd S1 H σ _ E N r1 hm (fun ρ2 S2 H2 σ2 q2 ss2 => k1 ρ2 S2 H2 σ2 q2 (ss.trans ss2)) k2 (fun ρ2 S2 H2 σ2 q2 ss2 => k3 ρ2 S2 H2 σ2 q2 (ss.trans ss2)) fun ρ2 S2 H2 σ2 q2 ss2 => k4 ρ2 S2 H2 σ2 q2 (ss.trans ss2)
  | _ => rw [q] at hm; exact hm.elim⟩

/-! ### targets -/
def gN (i : Nat) : D → List Sl → (List Sl → Prop) → Prop := fun d ρ P => P (ρ.set i (.da d))
theorem rd_gN {i : Nat} : RdG C (gName i) [i] (gN i) := fun S H σ ρ v d P Q rl r hm k => k _ _ hm (rl.set i r) (fun j hj => List.getElem?_set_ne (fun z => hj (by simp [z]))) (by rw [List.length_set]) fun j hj => by
  rw [gt_set] at hj
  rw [slotAt_set, rl.len]
  by_cases q : j = i ∧ i < ρ.length
  · rw [if_pos q] at hj; cases hj
  · rw [if_neg q] at hj ⊢; exact ⟨hj, rfl⟩
theorem g_nm (i : Nat) {x : Str} (hN : X.N.Nodup) (hi : X.N[i]? = some x := by rfl) (hx : Loc X.env.scope x := by first | exact Or.inl rfl | exact Or.inr rfl) (hf : X.fn x = true ∨ X.env.scope.names.lookup x = some .local := by first | exact .inl rfl | exact .inr rfl) : PGt X C (.Name x pos) (gName i) [i] (gN i) := ⟨pg_name hN hi hx hf, rd_gN⟩
structure PGts (X : Cx) (C : GC X.K) (es : List Expr) (g : TGs) (is : List Nat) (m : List D → List Sl → (List Sl → Prop) → Prop) : Prop where
  pe : PGs X es g
  rd : ∀ S H σ ρ vs ds P (Q : St → Hp → Prop), Rel C S H σ ρ → DpAll X.K S vs ds → m ds ρ P → (∀ ρ' σ', P ρ' → Rel C S H σ' ρ' → (∀ j, j ∉ is → σ'[j]? = σ[j]?) → σ'.length = σ.length → OwS σ ρ σ' ρ' → Q σ' H) → g vs σ H Q
def gNl : List D → List Sl → (List Sl → Prop) → Prop
  | [], ρ, P => P ρ
  | _, _, _ => False
def gCs (m : D → List Sl → (List Sl → Prop) → Prop) (n : List D → List Sl → (List Sl → Prop) → Prop) : List D → List Sl → (List Sl → Prop) → Prop
  | d :: ds, ρ, P => m d ρ fun ρ' => n ds ρ' P
  | _, _, _ => False
def gTp (k : Nat) (n : List D → List Sl → (List Sl → Prop) → Prop) : D → List Sl → (List Sl → Prop) → Prop
  | .tuple ds, ρ, P => ds.length = k ∧ n ds ρ P
  | _, _, _ => False
theorem gs_nil : PGts X C [] gNil [] gNl := ⟨pgs_nil, fun S H σ ρ vs ds P Q rl r hm k => by
  cases r with
  | nil => exact ⟨rfl, k ρ σ hm rl (fun _ _ => rfl) rfl fun _ h => ⟨h, rfl⟩⟩
  | cons _ _ => exact (hm : False).elim⟩
theorem gs_cons {g : TG} {gs : TGs} {is js : List Nat} {gm : D → List Sl → (List Sl → Prop) → Prop} {gn : List D → List Sl → (List Sl → Prop) → Prop} (h1 : PGt X C e g is gm) (h2 : PGts X C es gs js gn)
    (hs : (assignEach (e :: es) X.env).map (·.2) = assign e X.env :: (assignEach es X.env).map (·.2) := by rfl) : PGts X C (e :: es) (gCons g gs) (is ++ js) (gCs gm gn) := ⟨pgs_cons h1.pe h2.pe hs, fun S H σ ρ vs ds P Q rl r hm k => by
  cases r with
  | nil => exact (hm : False).elim
  | cons r1 r2 =>
    refine ⟨_, _, rfl, ?_⟩
    refine h1.rd S H σ ρ _ _ _ _ rl (Rep.of r1) hm fun ρ1 σ1 p1 rl1 f1 l1 o1 => ?_
    exact h2.rd S H σ1 ρ1 _ _ _ _ rl1 r2 p1 fun ρ2 σ2 p2 rl2 f2 l2 o2 => k ρ2 σ2 p2 rl2 (fun j hj => (f2 j fun z => hj (List.mem_append_right _ z)).trans (f1 j fun z => hj (List.mem_append_left _ z))) (l2.trans l1) fun j h => ⟨(o1 j (o2 j h).1).1, (o2 j h).2.trans (o1 j (o2 j h).1).2⟩⟩
theorem rd_gTp {n : Nat} {gs : TGs} {is : List Nat} {gn : List D → List Sl → (List Sl → Prop) → Prop} (h : PGts X C es gs is gn) : RdG C (gTup X.K n gs) is (gTp n gn) := fun S H σ ρ v d P Q rl r hm k => by
  cases d with
  | tuple ds =>
    obtain ⟨l, vs, rfl, hd, ht, hz⟩ := (RepH.of rl.good r).tup rl.good
    exact ⟨l, vs, rfl, SqT.mono rl.good.sub ht, by rw [DpAll.length hd]; exact hm.1, h.rd S H σ ρ vs ds P Q rl hd hm.2 k⟩
  | _ => exact (hm : False).elim

theorem g_tp {K₁ : PySem.W.Frag} {n k : Nat} {gs : TGs} {is : List Nat} {gn : List D → List Sl → (List Sl → Prop) → Prop} (h : PGts X C es gs is gn) (hc : X.calm = true := by rfl) (hn : (assignEach es X.env).length = n := by rfl) (hst : (assignEach es X.env).findIdx? (·.1) = none := by rfl) (hK₁ : X.K = K₁ := by first | exact blkK2 | exact blkK | exact rfl) :
    PGt X C (.Tuple es k pos) (gTup K₁ n gs) is (gTp n gn) := by subst hK₁; exact (⟨pg_tup hc h.pe hn hst, rd_gTp h⟩)
/-! ### assignments -/
def mAsg (me : ME) (gm : D → List Sl → (List Sl → Prop) → Prop) : MS := fun ρ E => me ρ fun d => gm d ρ E.nx
theorem rd_asg {g : TG} {is : List Nat} {gm : D → List Sl → (List Sl → Prop) → Prop} (h : RdE C te me) (hg : RdG C g is gm) : RdS C (tAsg te g) (mAsg me gm) := fun S H σ ρ E N rl hm k1 k2 k3 k4 =>
  h S H σ ρ _ _ rl hm fun d S1 H1 v p s g r => hg S1 H1 σ ρ v d _ _ (rl.step s g) r p fun ρ' σ' q rl' _ _ _ => k1 ρ' S1 H1 σ' q s.ss rl'
/-- x = e -/
theorem x_set (i : Nat) {x : Str} {pos' : Pos} (h : PP X C e te me) (hN : X.N.Nodup) (hi : X.N[i]? = some x := by rfl) (hx : Loc X.env.scope x := by first | exact Or.inl rfl | exact Or.inr rfl) (hs : swapsWith e (some (.Name x pos')) pos.line X.env = pure false := by rfl) (hf : X.fn x = true ∨ X.env.scope.names.lookup x = some .local := by first | exact .inl rfl | exact .inr rfl) :
    PSt X C (.Assign [.Name x pos'] e pos) (tAsg te (gName i)) (mAsg me (gN i)) := ⟨ps_set hN hi hx h.pe hs hf, rd_asg h.rd rd_gN⟩
/-- target = e -/
theorem x_asg {tg : Expr} {g : TG} {is : List Nat} {gm : D → List Sl → (List Sl → Prop) → Prop} (h : PP X C e te me) (hg : PGt X C tg g is gm) (hs : swapsWithSole [tg] e pos.line X.env = pure false := by rfl) (hw : swappedStores [tg] e X.env = pure none := by rfl)
    (h1 : (assignEach [tg] X.env).map (·.2) = [assign tg X.env] := by rfl) : PSt X C (.Assign [tg] e pos) (tAsg te g) (mAsg me gm) := ⟨ps_asg h.pe hg.pe hs hw h1, rd_asg h.rd hg.rd⟩
/-- x = a new list, still filled -/
def mSetO (i : Nat) (mo : ML) : MS := fun ρ E => mo ρ fun ds => E.nx (ρ.set i (.ow ds))
theorem rd_setO {i : Nat} {mo : ML} (h : RdO C te mo) : RdS C (tAsg te (gName i)) (mSetO i mo) := fun S H σ ρ E N rl hm k1 k2 k3 k4 =>
  h S H σ ρ _ _ rl hm fun ds S1 H1 l vs p s g h1 h2 h3 h4 h5 => by
    have r1 := rl.step s g
    exact k1 _ S1 H1 _ p s.ss (r1.put i ⟨l, vs, rfl, h1, h2, rl.stp.gone h4 h3, h4, h5⟩ fun _ => r1.owned rl.there h3)
theorem x_setO (i : Nat) {x : Str} {pos' : Pos} {mo : ML} (h : PO' X C e te mo) (hN : X.N.Nodup) (hi : X.N[i]? = some x := by rfl) (hx : Loc X.env.scope x := by first | exact Or.inl rfl | exact Or.inr rfl) (hs : swapsWith e (some (.Name x pos')) pos.line X.env = pure false := by rfl) (hf : X.fn x = true ∨ X.env.scope.names.lookup x = some .local := by first | exact .inl rfl | exact .inr rfl) :
    PSt X C (.Assign [.Name x pos'] e pos) (tAsg te (gName i)) (mSetO i mo) := ⟨ps_set hN hi hx h.pe hs hf, rd_setO h.rd⟩
end
end Pu

set_option Elab.async false
set_option linter.all false
set_option maxRecDepth 100000
set_option maxHeartbeats 4000000
/-! Pure readings: iterators, for, while, comprehensions. -/
namespace Pu
open PySem PySem.Spec L2
open PyProof.Rows hiding St
section
variable {X : Cx} {C : GC X.K} {a b e tg iter : Expr} {es : List Expr} {ta tb te : TE} {ma mb me : ME} {pos p2 p : Pos} {t u : TS} {m n : MS} {st : Stmt} {rest : List Stmt}
/-! ### iterators -/
def mItL (m : ME) : ML := fun ρ P => m ρ fun d => match d with
  | .list ds => P ds
  | _ => False
def mItT (m : ME) : ML := fun ρ P => m ρ fun d => match d with
  | .tuple ds => P ds
  | _ => False
theorem dp_at {K : PySem.W.Frag} {S : Hp} {vs : List V} {ds : List D} {i : Nat} {x : V} (h : DpAll K S vs ds) (e : vs[i]? = some x) : ∃ d, ds[i]? = some d ∧ Dp K S x d := by
  have hl := DpAll.length h
  obtain ⟨hi, _⟩ := List.getElem?_eq_some_iff.mp e
  have e2 : ds[i]? = some (ds[i]'(by omega)) := List.getElem?_eq_getElem _
  obtain ⟨v, h1, h2⟩ := DpAll.get h e2
  rw [e] at h1; cases h1
  exact ⟨_, e2, h2⟩
theorem itok_list {R : Hp → Hp → Prop} {l : Addr} {vs : List V} {ds : List D} (hz : ds.length ≤ sizeLine) (hl : ds.length = vs.length) (h : ∀ S H, R S H → Good C.vol C.G S H ∧ SqL X.K H l vs ∧ DpAll X.K S vs ds) : ItOk C (Itl X.K l) R ds := ⟨hz, fun i S H r => by
  obtain ⟨g, q, ha⟩ := h S H r
  refine ⟨fun hi => ⟨⟨vs, vs[i]'(by omega), q, List.getElem?_eq_getElem _⟩, fun x H' y => ?_⟩, fun hi => ⟨vs, q, by omega⟩⟩
  obtain ⟨rfl, y⟩ := y
  obtain ⟨d, h1, h2⟩ := dp_at ha (y vs q)
  exact ⟨d, S, h1, Stp.refl, g, Rep.of h2⟩⟩
theorem itok_tup {R : Hp → Hp → Prop} {l : Addr} {vs : List V} {ds : List D} (hz : ds.length ≤ sizeLine) (hl : ds.length = vs.length) (h : ∀ S H, R S H → Good C.vol C.G S H ∧ SqT X.K H l vs ∧ DpAll X.K S vs ds) : ItOk C (Itt X.K l) R ds := ⟨hz, fun i S H r => by
  obtain ⟨g, q, ha⟩ := h S H r
  refine ⟨fun hi => ⟨⟨vs, vs[i]'(by omega), q, List.getElem?_eq_getElem _⟩, fun x H' y => ?_⟩, fun hi => ⟨vs, q, by omega⟩⟩
  obtain ⟨rfl, y⟩ := y
  obtain ⟨d, h1, h2⟩ := dp_at ha (y vs q)
  exact ⟨d, S, h1, Stp.refl, g, Rep.of h2⟩⟩
/-- over a list that no longer changes -/
theorem i_list {K₁ : PySem.W.Frag} (h : PP X C e te me) (hK₁ : X.K = K₁ := by first | exact blkK2 | exact blkK | exact rfl) : PIt X C tg e (iList K₁ te) (mItL me) := by subst hK₁; exact (⟨pi_list h.pe, fun S H σ ρ P Rk rl hm k => by
  refine h.rd S H σ ρ _ _ rl hm fun d S1 H1 v p s g r => ?_
  cases d with
  | list ds =>
    have r : Dp X.K S1 v (.list ds) := r
    cases r with
    | lst hs ha =>
      rename_i l vs
      have q := SqL.mono g.sub hs
      obtain ⟨l', vs', el, ha', _, hz⟩ := (RepH.of g (Rep.of (Dp.lst hs ha))).lst g
      have hl := DpAll.length ha
      have hl' := DpAll.length ha'
      refine ⟨l, rfl, ⟨vs, q⟩, k ds S1 H1 _ p s g (itok_list (by omega) (by omega) fun S2 H2 z => ⟨z.2, SqL.mono z.2.sub (SqL.mono z.1 hs), DpAll.mono z.1 ha⟩)⟩
  | _ => exact (p : False).elim⟩)
/-- .. over a list at hand -/
theorem i_listB {K₁ : PySem.W.Frag} (h : PB X C e te me) (hK₁ : X.K = K₁ := by first | exact blkK2 | exact blkK | exact rfl) : PIb X C tg e (iList K₁ te) (mItL me) := by subst hK₁; exact (⟨pi_list h.pe, fun S H σ ρ P Rk rl hm k => by
  refine h.rd S H σ ρ _ _ rl hm fun d S1 H1 v p s g r => ?_
  cases d with
  | list ds =>
    obtain ⟨l, vs, rfl, ha, hh⟩ := r
    obtain ⟨_, _, e1, _, q, hz⟩ := RepH.lst g ⟨l, vs, rfl, ha, hh⟩
    cases e1
    have hl := DpAll.length ha
    have hz : vs.length ≤ sizeLine := by
      rcases hh with hh | ⟨h1, _, _⟩
      · obtain ⟨_, vs', _, ha', _, hz'⟩ := RepH.lst g ⟨l, vs, rfl, ha, .inl hh⟩
        have := DpAll.length ha'
        omega
      · exact g.sz _ _ h1
    refine ⟨l, rfl, ⟨_, q⟩, k ds S1 H1 _ p s g (itok_list (by omega) (by omega) fun S2 H2 z => ⟨z.2, ?_, DpAll.mono z.1.ss ha⟩)⟩
    rcases hh with hh | ⟨h1, h2, h3⟩
    · exact SqL.mono z.2.sub (SqL.mono z.1.ss hh)
    · exact SqL.of (z.1.hh _ _ h2 h1)
  | _ => exact (p : False).elim⟩)
theorem i_tup {K₁ : PySem.W.Frag} (h : PP X C e te me) (hK₁ : X.K = K₁ := by first | exact blkK2 | exact blkK | exact rfl) : PIt X C tg e (iTup K₁ te) (mItT me) := by subst hK₁; exact (⟨pi_tup h.pe, fun S H σ ρ P Rk rl hm k => by
  refine h.rd S H σ ρ _ _ rl hm fun d S1 H1 v p s g r => ?_
  cases d with
  | tuple ds =>
    obtain ⟨l, vs, rfl, ha, hs, hz⟩ := (RepH.of g r).tup g
    have hl := DpAll.length ha
    refine ⟨l, rfl, ⟨vs, SqT.mono g.sub hs⟩, k ds S1 H1 _ p s g (itok_tup (by omega) (by omega) fun S2 H2 z => ⟨z.2, SqT.mono z.2.sub (SqT.mono z.1 hs), DpAll.mono z.1 ha⟩)⟩
  | _ => exact (p : False).elim⟩)
/-- over a text -/
def signs (x : Str) : List D := x.cps.toList.map fun c => .str ⟨#[c]⟩
def mItS (m : ME) : ML := fun ρ P => m ρ fun d => match d with
  | .str x => x.length ≤ sizeLine ∧ P (signs x)
  | _ => False
theorem i_str (h : PP X C e te me) : PIt X C tg e (iStr te) (mItS me) := ⟨pi_str h.pe, fun S H σ ρ P Rk rl hm k => by
  refine h.rd S H σ ρ _ _ rl hm fun d S1 H1 v p s g r => ?_
  cases d with
  | str x =>
    refine ⟨x, rstr (RepH.of g r), k (signs x) S1 H1 _ p.2 s g ⟨by unfold signs; rw [List.length_map, Array.length_toList]; exact p.1, fun i S2 H2 z => ?_⟩⟩
    have hl : (signs x).length = x.cps.size := by unfold signs; rw [List.length_map, Array.length_toList]
    refine ⟨fun hi => ⟨by show i < x.cps.size; omega, fun y H' q => ?_⟩, fun hi => by show x.cps.size ≤ i; omega⟩
    obtain ⟨rfl, c, hc, rfl⟩ := q
    refine ⟨.str ⟨#[c]⟩, S2, ?_, Stp.refl, z.2, Dp.str _⟩
    unfold signs
    rw [List.getElem?_map, Array.getElem?_toList, hc] <;> rfl
  | _ => exact (p : False).elim⟩
/-- range(n) -/
def upto (n : Int) : List D := (List.range n.toNat).map fun i => .int (i : Nat)
def mRng (n : ML) : ML := fun ρ P => n ρ fun ds => match ds with
  | [.int j] => -(2 ^ 62) ≤ j ∧ j ≤ 16777216 ∧ P (upto j)
  | _ => False
theorem upto_len (n : Int) : (upto n).length = n.toNat := by unfold upto; rw [List.length_map, List.length_range]
theorem upto_at {n : Int} {i : Nat} (h : i < n.toNat) : (upto n)[i]? = some (.int (i : Nat)) := by
  unfold upto
  rw [List.getElem?_map, List.getElem?_range h] <;> rfl
theorem i_rng {t : TA} {n : ML} (hm : X.mg "range" = none) (ha : PAB X C [a] t n) (hg : Gl X "range" := by rfl) (hs : starEach [a] X.env = [(false, eval a X.env)] := by rfl) : PIt X C tg (.Call (.Name "range" p) [a] [] pos) (iRng1 t) (mRng n) := ⟨pi_range1 hg hm ha.pe hs, fun S H σ ρ P Rk rl hmm k => by
  refine ha.rd S H σ ρ _ _ rl hmm fun ds S1 H1 vs p1 s g r => ?_
  split at p1
  · obtain ⟨h1, h2, p1⟩ := p1
    obtain ⟨x, rfl, r1⟩ := paired1 r
    rw [rint r1]
    rename_i j
    refine ⟨j, rfl, h1, Int.lt_of_le_of_lt h2 (by decide), k (upto j) S1 H1 _ p1 s g ⟨by rw [upto_len, sizeLine_eq]; omega, fun i S2 H2 z => ?_⟩⟩
    rw [upto_len]
    refine ⟨fun hi => ⟨hi, fun y H' q => ?_⟩, fun hi => Nat.le_of_eq hi.symm⟩
    obtain ⟨rfl, rfl⟩ := q
    exact ⟨_, S2, upto_at hi, Stp.refl, z.2, by rw [Int.zero_add]; exact Dp.int _⟩
  · exact p1.elim⟩

/-! ### for -/
def forW (st : D → List Sl → PEn → Prop) (E : PEn) : List D → List Sl → Prop
  | [], ρ => E.nx ρ
  | d :: ds, ρ => st d ρ ⟨fun ρ' => forW st E ds ρ', E.rt, E.nx, fun ρ' => forW st E ds ρ'⟩
def mFor (mi : ML) (gm : D → List Sl → (List Sl → Prop) → Prop) (mb : MS) (ws : List Nat) : MS := fun ρ E => mi ρ fun ds =>
  forW (fun d ρ E' => gm d ρ fun ρ2 => mb ρ2 ⟨fun ρ3 => E'.nx (wipeE ρ3 ws), E'.rt, fun ρ3 => E'.bk (wipeE ρ3 ws), fun ρ3 => E'.ct (wipeE ρ3 ws)⟩) E ds ρ
theorem rd_for {wi : TI} {mi : ML} {g : TG} {is : List Nat} {gm : D → List Sl → (List Sl → Prop) → Prop} (ws : List Nat) (hi : RdI C wi mi) (hg : RdG C g is gm) (hb : RdS C t m) : RdS C (tFor wi g t) (mFor mi gm m ws) := by
  intro S H σ ρ E N rl hm k1 k2 k3 k4
  refine hi S H σ ρ _ _ rl hm fun ds S1 H1 J p s1 g1 it => ?_
  let stp : D → List Sl → PEn → Prop := fun d ρ E' => gm d ρ fun ρ2 => m ρ2 ⟨fun ρ3 => E'.nx (wipeE ρ3 ws), E'.rt, fun ρ3 => E'.bk (wipeE ρ3 ws), fun ρ3 => E'.ct (wipeE ρ3 ws)⟩
  refine ⟨fun i k σ' H' => ∃ S' ρ', Rel C S' H' σ' ρ' ∧ Same S1 S' ∧ k = ds.length - i ∧ i ≤ ds.length ∧ forW stp E (ds.drop i) ρ', ⟨ds.length, S1, ρ, rl.step s1 g1, Same.refl _, rfl, Nat.zero_le _, p⟩, ?_⟩
  rintro i k σ' H' ⟨S', ρ', r', ss, rfl, hi, q⟩
  obtain ⟨go, stop⟩ := it.2 i S' H' ⟨ss, r'.good⟩
  by_cases hlt : i < ds.length
  · obtain ⟨g1', yl⟩ := go hlt
    refine .inr ⟨g1', fun σ2 H2 => ∃ S2 ρ2, Rel C S2 H2 σ2 ρ2 ∧ Same S1 S2 ∧ forW stp E (ds.drop (i + 1)) ρ2, fun σ2 H2 ⟨S2, ρ2, r2, ss2, q2⟩ => ⟨ds.length - (i + 1), by omega, S2, ρ2, r2, ss2, rfl, hlt, q2⟩, fun x H'' y => ?_⟩
    obtain ⟨d, S'', hd, st, gd, rp⟩ := yl x H'' y
    rw [List.drop_eq_getElem_cons hlt] at q
    have ed : ds[i] = d := by
      rw [List.getElem?_eq_getElem hlt] at hd
      exact Option.some.inj hd
    rw [ed] at q
    have q : gm d ρ' fun ρ2 => m ρ2 ⟨fun ρ3 => forW stp E (ds.drop (i + 1)) (wipeE ρ3 ws), E.rt, fun ρ3 => E.nx (wipeE ρ3 ws), fun ρ3 => forW stp E (ds.drop (i + 1)) (wipeE ρ3 ws)⟩ := q
    refine hg S'' H'' σ' ρ' x d _ _ (r'.step st gd) rp q fun ρ2 σ2 q2 r2 _ _ _ => ?_
    refine hb S'' H'' σ2 ρ2 _ _ r2 q2 (fun ρ3 S3 H3 σ3 q3 ss3 r3 => ⟨S3, _, r3.wipeE ws, (ss.trans st.ss).trans ss3, q3⟩) k2 (fun ρ3 S3 H3 σ3 q3 ss3 r3 => k1 _ S3 H3 σ3 q3 (((s1.ss.trans ss).trans st.ss).trans ss3) (r3.wipeE ws)) (fun ρ3 S3 H3 σ3 q3 ss3 r3 => ⟨S3, _, r3.wipeE ws, (ss.trans st.ss).trans ss3, q3⟩)
  · have e : ds.drop i = [] := List.drop_eq_nil_iff.mpr (by omega)
    rw [e] at q
    exact .inl ⟨stop (by omega), k1 ρ' S' H' σ' q (s1.ss.trans ss) r'⟩
theorem x_for {wi : TI} {mi : ML} {g : TG} {is : List Nat} {gm : D → List Sl → (List Sl → Prop) → Prop} {body : List Stmt} (ws : List Nat) (hi : PIt X C tg iter wi mi) (hg : PGt X C tg g is gm) (hb : PSL X C body t m) (hp : PassesOwn (model X.prog X.w) X.A X.env X.xe := by first | exact PassesOwn.never | exact L2.passes_of rfl) (hc : X.calm = true := by rfl)
    (hs : ∀ x, foldedSetIterable iter X.env x = pure x := by intro _; rfl) : PSt X C (.For tg iter body [] pos) (tFor wi g t) (mFor mi gm m ws) := ⟨ps_for hp hc hi.pe hg.pe hb.pe hs, rd_for ws hi.rd hg.rd hb.rd⟩

/-! ### while -/
def whW (mt : MT) (mb : MS) (E : PEn) : Nat → List Sl → Prop
  | 0, _ => False
  | n + 1, ρ => mt ρ fun b => if b = true then mb ρ ⟨fun ρ' => whW mt mb E n ρ', E.rt, E.nx, fun ρ' => whW mt mb E n ρ'⟩ else E.nx ρ
def mWhile (mt : MT) (mb : MS) : MS := fun ρ E => ∃ n, whW mt mb E n ρ
theorem rd_while {tc : TT} {mt : MT} (hc : RdT C tc mt) (hb : RdS C t m) : RdS C (tWhile tc t) (mWhile mt m) := by
  intro S H σ ρ E N rl hm k1 k2 k3 k4
  obtain ⟨n0, hm⟩ := hm
  refine ⟨fun k σ' H' => ∃ S' ρ', Rel C S' H' σ' ρ' ∧ Same S S' ∧ whW mt m E k ρ', ⟨n0, S, ρ, rl, Same.refl _, hm⟩, ?_⟩
  rintro k σ' H' ⟨S', ρ', r', ss, q⟩
  cases k with
  | zero => exact (q : False).elim
  | succ k =>
    have q : mt ρ' fun b => if b = true then m ρ' ⟨fun ρ' => whW mt m E k ρ', E.rt, E.nx, fun ρ' => whW mt m E k ρ'⟩ else E.nx ρ' := q
    refine hc S' H' σ' ρ' _ _ r' q fun b S1 H1 p s1 g1 => ?_
    cases b with
    | true =>
      refine iteT ⟨fun σ2 H2 => ∃ S2 ρ2, Rel C S2 H2 σ2 ρ2 ∧ Same S S2 ∧ whW mt m E k ρ2, fun σ2 H2 z => ⟨k, Nat.lt_succ_self k, z⟩, ?_⟩
      rw [if_pos rfl] at p
      exact hb S1 H1 σ' ρ' _ _ (r'.step s1 g1) p (fun ρ3 S3 H3 σ3 q3 ss3 r3 => ⟨S3, ρ3, r3, (ss.trans s1.ss).trans ss3, q3⟩) k2 (fun ρ3 S3 H3 σ3 q3 ss3 r3 => k1 _ S3 H3 σ3 q3 ((ss.trans s1.ss).trans ss3) r3) (fun ρ3 S3 H3 σ3 q3 ss3 r3 => ⟨S3, ρ3, r3, (ss.trans s1.ss).trans ss3, q3⟩)
    | false => exact iteF <| k1 ρ' S1 H1 σ' (by simpa using p) (ss.trans s1.ss) (r'.step s1 g1)
theorem x_while {c : Expr} {tc : TT} {mt : MT} {body : List Stmt} (hc : PQ X C c tc mt) (hb : PSL X C body t m) (hp : PassesOwn (model X.prog X.w) X.A X.env X.xe := by first | exact PassesOwn.never | exact L2.passes_of rfl) : PSt X C (.While c body [] pos) (tWhile tc t) (mWhile mt m) := ⟨ps_while hp hc.pe hb.pe, rd_while hc.rd hb.rd⟩

/-! ### comprehensions -/
def lcW (st : D → (Option D → Prop) → Prop) : List D → (List D → Prop) → Prop
  | [], P => P []
  | d :: ds, P => st d fun o => lcW st ds fun r => P (o.toList ++ r)
def mYes : MT := fun _ P => P true
def mLc (mi : ML) (gm : D → List Sl → (List Sl → Prop) → Prop) (mt : MT) (me : ME) (ws : List Nat) : ML := fun ρ P => mi ρ fun ds =>
  lcW (fun d Q => gm d (wipeE ρ ws) fun ρ2 => mt ρ2 fun b => if b = true then me ρ2 fun y => nd y (Q (some y)) else Q none) ds P
theorem wipe_of {σ σ2 : St} : ∀ {vs : List Nat}, (∀ j, j ∉ vs → σ2[j]? = σ[j]?) → σ2.length = σ.length → L2.wipe σ2 vs = L2.wipe σ vs := fun {vs} h hl => by
  refine List.ext_getElem? fun j => ?_
  by_cases hj : j ∈ vs
  · by_cases hb : j < σ.length
    · have e1 : ∀ (τ : St) (us : List Nat), j ∈ us → j < τ.length → (L2.wipe τ us)[j]? = some none := fun τ us => by
        induction us with
        | nil => intro z; cases z
        | cons u us ih =>
          intro z hb
          show ((L2.wipe τ us).set u none)[j]? = some none
          by_cases e : u = j
          · subst e
            rw [List.getElem?_set_self (by rw [wipe_length]; exact hb)]
          · rw [List.getElem?_set_ne e]
            exact ih ((List.mem_cons.mp z).resolve_left (fun q => e q.symm)) hb
      rw [e1 σ2 vs hj (by omega), e1 σ vs hj hb]
    · rw [List.getElem?_eq_none_iff.mpr (by rw [wipe_length]; omega), List.getElem?_eq_none_iff.mpr (by rw [wipe_length]; omega)]
  · rw [wipe_out hj, wipe_out hj, h j hj]
theorem wipe_wipe {σ : St} {vs : List Nat} : L2.wipe (L2.wipe σ vs) vs = L2.wipe σ vs := wipe_of (fun j hj => wipe_out hj) (wipe_length σ vs)
theorem rd_lc {wi : TI} {mi : ML} {g : TG} {is : List Nat} {gm : D → List Sl → (List Sl → Prop) → Prop} {tt : TT} {mt : MT} (ws : List Nat) (hi : RdIB C wi mi) (hg : RdG C g is gm) (hw : ∀ j ∈ is, j ∈ ws) (ht : RdT C tt mt) (he : RdE C te me) : RdO C (tLc wi g tt te ws) (mLc mi gm mt me ws) := by
  intro S H σ ρ P Q rl hm k
  refine hi S H σ ρ _ _ rl hm fun ds S1 H1 J p s1 g1 it => ?_
  have r1 := rl.step s1 g1
  intro Dn hD
  have nv : ¬ C.vol Dn := fun v => g1.vh Dn v hD
  have nS1 : S1 Dn = none := g1.sub.free hD
  have nH : H Dn = none := s1.gone nv hD
  obtain ⟨gA, sA⟩ := g1.newH C.gst hD (o := .lst []) (Nat.zero_le _)
  let stp : D → (Option D → Prop) → Prop := fun d Q => gm d (wipeE ρ ws) fun ρ2 => mt ρ2 fun b => if b = true then me ρ2 fun y => nd y (Q (some y)) else Q none
  refine ⟨fun i k H' => ∃ S' acc ys, Stp C.vol S1 H1 S' H' ∧ Good C.vol C.G S' H' ∧ H' Dn = some (.lst acc) ∧ S' Dn = none ∧ DpAll X.K S' acc ys ∧ acc.length ≤ i ∧ k = ds.length - i ∧ i ≤ ds.length ∧ lcW stp (ds.drop i) fun r => P (ys ++ r),
    ⟨ds.length, S1, [], [], sA, gA, upd_same, nS1, .nil, Nat.le_refl _, rfl, Nat.zero_le _, p⟩, ?_⟩
  rintro i kk H' ⟨S', acc, ys, st, gd, hA, nS, hd, hl, rfl, hi, q⟩
  obtain ⟨go, stop⟩ := it.2 i S' H' ⟨st, gd⟩
  by_cases hlt : i < ds.length
  · obtain ⟨g1', yl⟩ := go hlt
    refine .inr ⟨g1', fun H2 => ∃ S2 acc2 ys2, Stp C.vol S1 H1 S2 H2 ∧ Good C.vol C.G S2 H2 ∧ H2 Dn = some (.lst acc2) ∧ S2 Dn = none ∧ DpAll X.K S2 acc2 ys2 ∧ acc2.length ≤ i + 1 ∧ lcW stp (ds.drop (i + 1)) (fun r => P (ys2 ++ r)), fun H2 ⟨S2, acc2, ys2, a1, a2, a3, a4, a5, a6, a7⟩ => ⟨ds.length - (i + 1), by omega, S2, acc2, ys2, a1, a2, a3, a4, a5, a6, rfl, hlt, a7⟩, fun x H'' y => ?_⟩
    obtain ⟨d, S'', hdd, st2, gd2, rp⟩ := yl x H'' y
    rw [List.drop_eq_getElem_cons hlt] at q
    have ed : ds[i] = d := by
      rw [List.getElem?_eq_getElem hlt] at hdd
      exact Option.some.inj hdd
    rw [ed] at q
    have q : gm d (wipeE ρ ws) fun ρ2 => mt ρ2 fun b => if b = true then me ρ2 fun y => nd y (lcW stp (ds.drop (i + 1)) fun r => P (ys ++ ((some y).toList ++ r))) else lcW stp (ds.drop (i + 1)) fun r => P (ys ++ (none.toList ++ r)) := q
    have st3 := st.trans gd st2
    have rw' : Rel C S'' H'' (L2.wipe σ ws) (Pu.wipeE ρ ws) := (r1.step st3 gd2).wiped ws
    refine hg S'' H'' (L2.wipe σ ws) (Pu.wipeE ρ ws) x d _ _ rw' rp q fun ρ2 σ2 q2 r2 fr fl _ => ?_
    refine ⟨(wipe_of (fun j hj => fr j fun z => hj (hw j z)) fl).trans wipe_wipe, ?_⟩
    refine ht S'' H'' σ2 ρ2 _ _ r2 q2 fun b S3 H3 q3 s3 g3 => ?_
    have hA3 := s3.hh _ _ nv (st2.hh _ _ nv hA)
    have nS3 := s3.no (st2.no nS hA) (st2.hh _ _ nv hA)
    have st4 := st3.trans gd2 s3
    cases b with
    | true =>
      rw [if_pos rfl] at q3
      refine iteT <| he S3 H3 σ2 ρ2 _ _ (r2.step s3 g3) q3 fun y S4 H4 v q4 s4 g4 rp4 => ?_
      obtain ⟨ny, q4⟩ := nd_iff q4
      have hA4 := s4.hh _ _ nv hA3
      have nS4 := s4.no nS3 hA3
      have hz : acc.length < sizeLine := Nat.lt_of_le_of_lt hl (Nat.lt_of_lt_of_le hlt it.1)
      have st5 := st4.trans g3 s4
      refine ⟨acc, hA4, hz, S4, acc ++ [v], ys ++ [y], st5.put hD, g4.put C.gst hA4 (fun φ z => nomatch z) nS4 nv (by show (acc ++ [v]).length ≤ sizeLine; rw [List.length_append]; exact hz), upd_same, nS4, DpAll.app (DpAll.mono (st2.ss.trans (s3.ss.trans s4.ss)) hd) (DpAll.one (rp4.dp ny)), by rw [List.length_append]; exact Nat.add_le_add_right hl 1, ?_⟩
      have e : (fun r => P (ys ++ ((some y).toList ++ r))) = fun r => P (ys ++ [y] ++ r) := by funext r; rw [List.append_assoc]; rfl
      rw [e] at q4
      exact q4
    | false =>
      rw [if_neg Bool.false_ne_true] at q3
      exact iteF ⟨S3, acc, ys, st4, g3, hA3, nS3, DpAll.mono (st2.ss.trans s3.ss) hd, Nat.le_succ_of_le hl, q3⟩
  · have e : ds.drop i = [] := List.drop_eq_nil_iff.mpr (by omega)
    rw [e] at q
    have q : P (ys ++ []) := q
    rw [List.append_nil] at q
    exact .inl ⟨stop (by omega), k ys S' H' Dn acc q (s1.trans g1 st) gd hA nS nH nv hd⟩
end
end Pu

set_option Elab.async false
set_option linter.all false
set_option maxRecDepth 100000
set_option maxHeartbeats 4000000
/-! Pure readings: comprehensions as terms, dicts, methods. -/
namespace Pu
open PySem PySem.Spec L2
open PyProof.Rows hiding St
section
variable {X : Cx} {C : GC X.K} {a b e tg iter elt : Expr} {es ifs : List Expr} {ta tb te : TE} {ma mb me : ME} {pos spos p2 p : Pos} {t u : TS} {m n : MS} {st : Stmt} {rest : List Stmt}
structure PTq (X : Cx) (C : GC X.K) (ifs : List Expr) (t : TT) (m : MT) : Prop where
  pe : PTs X ifs t
  rd : RdT C t m
theorem t_nil : PTq X C [] tYes mYes := ⟨pts_nil, fun S H σ ρ P Q rl hm k => k true S H hm Stp.refl rl.good⟩
theorem t_one {c : Expr} {t : TT} {m : MT} (h : PQ X C c t m) : PTq X C [c] t m := ⟨pts_one h.pe, h.rd⟩
variable {scope : Scope} {own : List (Str × Nat)} {wi : TI} {mi : ML} {g : TG} {is : List Nat} {gm : D → List Sl → (List Sl → Prop) → Prop} {tt : TT} {mt : MT}
abbrev Blk (X : Cx) (scope : Scope) (s : Shared) (H : Hp) (Ca : Addr) (cl : List (Str × Addr)) (fp : List Addr) : Cx := X.blk s H scope (compEnvC scope cl Ca X.env) fp
theorem o_lc (own : List (Str × Nat)) (hN : X.N.Nodup) (hi : PIb X C tg iter wi mi) (ok : BlkOk X.N X.env.scope scope own) (hg : ∀ s H Ca cl fp, PGt (Blk X scope s H Ca cl fp) C tg g is gm) (ht : ∀ s H Ca cl fp, PTq (Blk X scope s H Ca cl fp) C ifs tt mt) (he : ∀ s H Ca cl fp, PP (Blk X scope s H Ca cl fp) C elt te me)
    (hw : ∀ j ∈ is, j ∈ own.map (·.2) := by decide) (hc : X.calm = true := by rfl) (hs : ∀ x, foldedSetIterable iter X.env x = pure x := by intro _; rfl) : PO' X C (.ListComp elt [⟨tg, iter, ifs, 0⟩] scope pos) (tLc wi g tt te (own.map (·.2))) (mLc mi gm mt me (own.map (·.2))) :=
  ⟨pe_lc hc hN hi.pe ok (fun s H Ca cl fp => (hg s H Ca cl fp).pe) (fun s H Ca cl fp => (ht s H Ca cl fp).pe) (fun s H Ca cl fp => (he s H Ca cl fp).pe) hs, rd_lc _ hi.rd (hg X.s_0 X.H_0 0 [] []).rd hw (ht X.s_0 X.H_0 0 [] []).rd (he X.s_0 X.H_0 0 [] []).rd⟩
/-- y = [..] on one line, y a local of the def; what y holds does no longer change -/
theorem x_setLc (i : Nat) (own : List (Str × Nat)) {y : Str} {py : Pos} (hN : X.N.Nodup) (hi : PIb X C tg iter wi mi) (ok : BlkOk X.N X.env.scope scope own) (hg : ∀ s H Ca cl fp, PGt (Blk X scope s H Ca cl fp) C tg g is gm) (ht : ∀ s H Ca cl fp, PTq (Blk X scope s H Ca cl fp) C ifs tt mt) (he : ∀ s H Ca cl fp, PP (Blk X scope s H Ca cl fp) C elt te me)
    (hsw : swapsWith (.ListComp elt [⟨tg, iter, ifs, 0⟩] scope pos) (some (.Name y py)) spos.line X.env = pure true) (hw : ∀ j ∈ is, j ∈ own.map (·.2) := by decide) (hy : X.N[i]? = some y := by rfl) (hyl : X.env.scope.names.lookup y = some .local := by rfl) (hc : X.calm = true := by rfl)
    (hs : ∀ x, foldedSetIterable iter X.env x = pure x := by intro _; rfl) : PSt X C (.Assign [.Name y py] (.ListComp elt [⟨tg, iter, ifs, 0⟩] scope pos) spos) (tAsg (tLc wi g tt te (own.map (·.2))) (gName i)) (mAsg (mL (mLc mi gm mt me (own.map (·.2)))) (gN i)) :=
  ⟨ps_setLc hc hN hy hyl hsw hi.pe ok (fun s H Ca cl fp => (hg s H Ca cl fp).pe) (fun s H Ca cl fp => (ht s H Ca cl fp).pe) (fun s H Ca cl fp => (he s H Ca cl fp).pe) hs, rd_asg (rd_lc _ hi.rd (hg X.s_0 X.H_0 0 [] []).rd hw (ht X.s_0 X.H_0 0 [] []).rd (he X.s_0 X.H_0 0 [] []).rd).e rd_gN⟩

/-! ### two fors -/
variable {tg1 iter1 : Expr} {ifs1 : List Expr} {wi1 : TI} {mi1 : ML} {g1 : TG} {is1 : List Nat} {gm1 : D → List Sl → (List Sl → Prop) → Prop} {tt1 : TT} {mt1 : MT}
/-- the inner lists joined -/
def lc2W (st : D → (List D → Prop) → Prop) : List D → (List D → Prop) → Prop
  | [], P => P []
  | d :: ds, P => st d fun o => lc2W st ds fun r => P (o ++ r)
def mLc2 (mi : ML) (gm : D → List Sl → (List Sl → Prop) → Prop) (mt : MT) (mi1 : ML) (gm1 : D → List Sl → (List Sl → Prop) → Prop) (mt1 : MT) (me : ME) (ws ws1 : List Nat) : ML := fun ρ P => mi ρ fun ds => ds.length ≤ 4096 ∧
  lc2W (fun d Q => gm d (wipeE ρ ws) fun ρ2 => mt ρ2 fun b => if b = true then mi1 ρ2 fun ds1 => ds1.length ≤ 4096 ∧ lcW (fun d1 Q1 => gm1 d1 (wipeE ρ2 ws1) fun ρ3 => mt1 ρ3 fun b1 => if b1 = true then me ρ3 fun y => nd y (Q1 (some y)) else Q1 none) ds1 Q else Q []) ds P
/-- an object that is no slot's is written -/
theorem Rel.other {K : PySem.W.Frag} {C : GC K} {S H : Hp} {σ : St} {ρ : List Sl} (r : Rel C S H σ ρ) {q : Addr} {o u : HO} (hq : H q = some u) (nu : ∀ φ, u ≠ .ext φ) (nS : S q = none) (nv : ¬ C.vol q) (h0 : C.H0 q = none) (hz : SzO o) (hn : ∀ j, (gt ρ j).own = true → NdefX.slotAt σ j ≠ some (.ref q)) : Rel C S (upd H q o) σ ρ := by
  refine ⟨r.good.put C.gst hq nu nS nv hz, r.stp.put h0, fun j => ?_, r.ne, r.len⟩
  have s := r.sl j
  cases hs : gt ρ j with
  | un => trivial
  | da d => rw [hs] at s; exact s
  | ow es =>
    rw [hs] at s
    obtain ⟨l', vs2, e2, k1, k2, k3, k4, k5⟩ := s
    have nl : l' ≠ q := fun z => hn j (by rw [hs]; rfl) (by rw [e2, z])
    exact ⟨l', vs2, e2, (upd_ne nl).trans k1, k2, k3, k4, k5⟩
  | od kvs =>
    rw [hs] at s
    obtain ⟨l', e2, k1, k2, k3, k4⟩ := s
    have nl : l' ≠ q := fun z => hn j (by rw [hs]; rfl) (by rw [e2, z])
    exact ⟨l', e2, k1.mono (Same.refl S) (upd_ne nl), k2, k3, k4⟩
  | ob R' =>
    rw [hs] at s
    obtain ⟨l', u', e2, k1, k2, k3, k4, k5, k6, k7⟩ := s
    have nl : l' ≠ q := fun z => hn j (by rw [hs]; rfl) (by rw [e2, z])
    exact ⟨l', u', e2, (upd_ne nl).trans k1, k2, k3, k4, k5, k6, k7⟩
  | rw v => rw [hs] at s; exact s
theorem rd_lc2 (ws ws1 : List Nat) (hi : RdIB C wi mi) (hg : RdG C g is gm) (hw : ∀ j ∈ is, j ∈ ws) (ht : RdT C tt mt) (hi1 : RdI C wi1 mi1) (hg1 : RdG C g1 is1 gm1) (hw1 : ∀ j ∈ is1, j ∈ ws1) (ht1 : RdT C tt1 mt1) (he : RdE C te me) :
    RdO C (tLc2 wi g tt wi1 g1 tt1 te ws ws1) (mLc2 mi gm mt mi1 gm1 mt1 me ws ws1) := by
  intro S H σ ρ P Q rl hm k
  refine hi S H σ ρ _ _ rl hm fun ds S1 H1 J p s1 g1' it => ?_
  obtain ⟨hsz, p⟩ := p
  have r1 := rl.step s1 g1'
  intro Dn hD
  have nv : ¬ C.vol Dn := fun v => g1'.vh Dn v hD
  have nS1 : S1 Dn = none := g1'.sub.free hD
  have nH : H Dn = none := s1.gone nv hD
  have nH0 : C.H0 Dn = none := rl.stp.gone nv nH
  obtain ⟨gA, sA⟩ := g1'.newH C.gst hD (o := .lst []) (Nat.zero_le _)
  let stp1 : List Sl → D → (Option D → Prop) → Prop := fun ρ2 d1 Q1 => gm1 d1 (wipeE ρ2 ws1) fun ρ3 => mt1 ρ3 fun b1 => if b1 = true then me ρ3 fun y => nd y (Q1 (some y)) else Q1 none
  let stp : D → (List D → Prop) → Prop := fun d Q => gm d (wipeE ρ ws) fun ρ2 => mt ρ2 fun b => if b = true then mi1 ρ2 fun ds1 => ds1.length ≤ 4096 ∧ lcW (stp1 ρ2) ds1 Q else Q []
  refine ⟨fun i k H' => ∃ S' acc ys, Stp C.vol S1 H1 S' H' ∧ Good C.vol C.G S' H' ∧ H' Dn = some (.lst acc) ∧ S' Dn = none ∧ DpAll X.K S' acc ys ∧ acc.length ≤ i * 4096 ∧ k = ds.length - i ∧ i ≤ ds.length ∧ lc2W stp (ds.drop i) fun r => P (ys ++ r),
    ⟨ds.length, S1, [], [], sA, gA, upd_same, nS1, .nil, Nat.zero_le _, rfl, Nat.zero_le _, p⟩, ?_⟩
  rintro i kk H' ⟨S', acc, ys, st, gd, hA, nS, hd, hl, rfl, hi', q⟩
  obtain ⟨go, stop⟩ := it.2 i S' H' ⟨st, gd⟩
  by_cases hlt : i < ds.length
  · obtain ⟨g1'', yl⟩ := go hlt
    let Nx : Hp → Prop := fun H2 => ∃ S2 acc2 ys2, Stp C.vol S1 H1 S2 H2 ∧ Good C.vol C.G S2 H2 ∧ H2 Dn = some (.lst acc2) ∧ S2 Dn = none ∧ DpAll X.K S2 acc2 ys2 ∧ acc2.length ≤ (i + 1) * 4096 ∧ lc2W stp (ds.drop (i + 1)) (fun r => P (ys2 ++ r))
    refine .inr ⟨g1'', Nx, fun H2 ⟨S2, acc2, ys2, a1, a2, a3, a4, a5, a6, a7⟩ => ⟨ds.length - (i + 1), by omega, S2, acc2, ys2, a1, a2, a3, a4, a5, a6, rfl, hlt, a7⟩, fun x H'' y => ?_⟩
    obtain ⟨d, S'', hdd, st2, gd2, rp⟩ := yl x H'' y
    rw [List.drop_eq_getElem_cons hlt] at q
    have ed : ds[i] = d := by
      rw [List.getElem?_eq_getElem hlt] at hdd
      exact Option.some.inj hdd
    rw [ed] at q
    have q : gm d (wipeE ρ ws) fun ρ2 => mt ρ2 fun b => if b = true then mi1 ρ2 fun ds1 => ds1.length ≤ 4096 ∧ lcW (stp1 ρ2) ds1 (fun o => lc2W stp (ds.drop (i + 1)) fun r => P (ys ++ (o ++ r))) else lc2W stp (ds.drop (i + 1)) fun r => P (ys ++ ([] ++ r)) := q
    have st3 := st.trans gd st2
    have rw' : Rel C S'' H'' (L2.wipe σ ws) (Pu.wipeE ρ ws) := (r1.step st3 gd2).wiped ws
    refine hg S'' H'' (L2.wipe σ ws) (Pu.wipeE ρ ws) x d _ _ rw' rp q fun ρ2 σ2 q2 r2 fr fl ow => ?_
    have ownD : ∀ j, (gt ρ2 j).own = true → NdefX.slotAt σ2 j ≠ some (.ref Dn) := fun j hj e => by
      obtain ⟨o1, o2⟩ := ow j hj
      rw [o2] at e
      exact (r1.wiped ws).there j o1 Dn e hD
    refine ⟨(wipe_of (fun j hj => fr j fun z => hj (hw j z)) fl).trans wipe_wipe, ?_⟩
    refine ht S'' H'' σ2 ρ2 _ _ r2 q2 fun b S3 H3 q3 s3 g3 => ?_
    have hA2 := st2.hh _ _ nv hA
    have nS2 := st2.no nS hA
    have hA3 := s3.hh _ _ nv hA2
    have nS3 := s3.no nS2 hA2
    have st4 := st3.trans gd2 s3
    have r3 := r2.step s3 g3
    have hd3 := DpAll.mono (st2.ss.trans s3.ss) hd
    cases b with
    | true =>
      rw [if_pos rfl] at q3
      refine iteT <| hi1 S3 H3 σ2 ρ2 _ _ r3 q3 fun ds1 S4 H4 J1 p4 s4 g4 it1 => ?_
      obtain ⟨hsz1, p4⟩ := p4
      have r4 := r3.step s4 g4
      have hA4 := s4.hh _ _ nv hA3
      have nS4 := s4.no nS3 hA3
      refine ⟨fun j k H5 => ∃ S5 acc5 zs, Same S4 S5 ∧ Rel C S5 H5 σ2 ρ2 ∧ Stp C.vol S1 H1 S5 H5 ∧ H5 Dn = some (.lst acc5) ∧ S5 Dn = none ∧ DpAll X.K S5 acc5 (ys ++ zs) ∧ acc5.length ≤ i * 4096 + j ∧ k = ds1.length - j ∧ j ≤ ds1.length ∧ lcW (stp1 ρ2) (ds1.drop j) fun o => lc2W stp (ds.drop (i + 1)) fun r => P (ys ++ ((zs ++ o) ++ r)),
        ⟨ds1.length, S4, acc, [], Same.refl _, r4, st4.trans g3 s4, hA4, nS4, by rw [List.append_nil]; exact DpAll.mono s4.ss hd3, hl, rfl, Nat.zero_le _, p4⟩, ?_⟩
      rintro j k2 H5 ⟨S5, acc5, zs, ss5, r5, st5, hA5, nS5, hd5, hl5, rfl, hj, q5⟩
      obtain ⟨go1, stop1⟩ := it1.2 j S5 H5 ⟨ss5, r5.good⟩
      by_cases hlt1 : j < ds1.length
      · obtain ⟨g5, yl1⟩ := go1 hlt1
        refine .inr ⟨g5, fun H6 => ∃ S6 acc6 zs6, Same S4 S6 ∧ Rel C S6 H6 σ2 ρ2 ∧ Stp C.vol S1 H1 S6 H6 ∧ H6 Dn = some (.lst acc6) ∧ S6 Dn = none ∧ DpAll X.K S6 acc6 (ys ++ zs6) ∧ acc6.length ≤ i * 4096 + (j + 1) ∧ lcW (stp1 ρ2) (ds1.drop (j + 1)) fun o => lc2W stp (ds.drop (i + 1)) fun r => P (ys ++ ((zs6 ++ o) ++ r)),
          fun H6 ⟨S6, acc6, zs6, a1, a2, a3, a4, a5, a6, a7, a8⟩ => ⟨ds1.length - (j + 1), by omega, S6, acc6, zs6, a1, a2, a3, a4, a5, a6, a7, rfl, hlt1, a8⟩, fun x1 H6 y1 => ?_⟩
        obtain ⟨d1, S6, hdd1, st6, gd6, rp6⟩ := yl1 x1 H6 y1
        rw [List.drop_eq_getElem_cons hlt1] at q5
        have ed1 : ds1[j] = d1 := by
          rw [List.getElem?_eq_getElem hlt1] at hdd1
          exact Option.some.inj hdd1
        rw [ed1] at q5
        have q5 : gm1 d1 (wipeE ρ2 ws1) fun ρ3 => mt1 ρ3 fun b1 => if b1 = true then me ρ3 fun y => nd y (lcW (stp1 ρ2) (ds1.drop (j + 1)) fun r1 => lc2W stp (ds.drop (i + 1)) fun r => P (ys ++ ((zs ++ ((some y).toList ++ r1)) ++ r))) else lcW (stp1 ρ2) (ds1.drop (j + 1)) fun r1 => lc2W stp (ds.drop (i + 1)) fun r => P (ys ++ ((zs ++ (none.toList ++ r1)) ++ r)) := q5
        have r6 := r5.step st6 gd6
        refine hg1 S6 H6 (L2.wipe σ2 ws1) (Pu.wipeE ρ2 ws1) x1 d1 _ _ (r6.wiped ws1) rp6 q5 fun ρ3 σ3 q6 r7 fr1 fl1 _ => ?_
        refine ⟨(wipe_of (fun j hj => fr1 j fun z => hj (hw1 j z)) fl1).trans wipe_wipe, ?_⟩
        refine ht1 S6 H6 σ3 ρ3 _ _ r7 q6 fun b1 S7 H7 q7 s7 g7 => ?_
        have hA6 := st6.hh _ _ nv hA5
        have nS6 := st6.no nS5 hA5
        have hA7 := s7.hh _ _ nv hA6
        have nS7 := s7.no nS6 hA6
        have st7 := (st5.trans r5.good st6).trans gd6 s7
        have r7' := r6.step s7 g7
        cases b1 with
        | true =>
          rw [if_pos rfl] at q7
          refine iteT <| he S7 H7 σ3 ρ3 _ _ (r7.step s7 g7) q7 fun y S8 H8 v q8 s8 g8 rp8 => ?_
          obtain ⟨ny, q8⟩ := nd_iff q8
          have hA8 := s8.hh _ _ nv hA7
          have nS8 := s8.no nS7 hA7
          have hz : acc5.length < sizeLine := by rw [sizeLine_eq]; omega
          have hz2 : (acc5 ++ [v]).length ≤ sizeLine := by rw [List.length_append]; exact hz
          have st8 := st7.trans g7 s8
          have r8 := (r7'.step s8 g8).other (q := Dn) (o := .lst (acc5 ++ [v])) hA8 (fun φ z => nomatch z) nS8 nv nH0 hz2 ownD
          refine ⟨acc5, hA8, hz, S8, acc5 ++ [v], zs ++ [y], ss5.trans (st6.ss.trans (s7.ss.trans s8.ss)), r8, st8.put hD, upd_same, nS8, ?_, by rw [List.length_append, List.length_singleton]; omega, ?_⟩
          · rw [← List.append_assoc]
            exact DpAll.app (DpAll.mono (st6.ss.trans (s7.ss.trans s8.ss)) hd5) (DpAll.one (rp8.dp ny))
          · have e : (fun r1 => lc2W stp (ds.drop (i + 1)) fun r => P (ys ++ ((zs ++ ((some y).toList ++ r1)) ++ r))) = fun r1 => lc2W stp (ds.drop (i + 1)) fun r => P (ys ++ (((zs ++ [y]) ++ r1) ++ r)) := by
              funext r1
              have : zs ++ ((some y).toList ++ r1) = (zs ++ [y]) ++ r1 := by rw [List.append_assoc]; rfl
              rw [this]
            rw [e] at q8
            exact q8
        | false =>
          rw [if_neg Bool.false_ne_true] at q7
          exact iteF ⟨S7, acc5, zs, ss5.trans (st6.ss.trans s7.ss), r7', st7, hA7, nS7, DpAll.mono (st6.ss.trans s7.ss) hd5, by omega, q7⟩
      · have e : ds1.drop j = [] := List.drop_eq_nil_iff.mpr (by omega)
        rw [e] at q5
        have q5 : lc2W stp (ds.drop (i + 1)) fun r => P (ys ++ ((zs ++ []) ++ r)) := q5
        rw [List.append_nil] at q5
        refine .inl ⟨stop1 (by omega), S5, acc5, ys ++ zs, st5, r5.good, hA5, nS5, hd5, by omega, ?_⟩
        have e : (fun r => P (ys ++ (zs ++ r))) = fun r => P (ys ++ zs ++ r) := by funext r; rw [List.append_assoc]
        rw [e] at q5
        exact q5
    | false =>
      rw [if_neg Bool.false_ne_true] at q3
      exact iteF ⟨S3, acc, ys, st4, g3, hA3, nS3, hd3, by omega, q3⟩
  · have e : ds.drop i = [] := List.drop_eq_nil_iff.mpr (by omega)
    rw [e] at q
    have q : P (ys ++ []) := q
    rw [List.append_nil] at q
    exact .inl ⟨stop (by omega), k ys S' H' Dn acc q (s1.trans g1' st) gd hA nS nH nv hd⟩
theorem o_lc2 (own : List (Str × Nat)) (ws1 : List Nat) (hN : X.N.Nodup) (hi : PIb X C tg iter wi mi) (ok : BlkOk X.N X.env.scope scope own) (hg : ∀ s H Ca cl fp, PGt (Blk X scope s H Ca cl fp) C tg g is gm) (ht : ∀ s H Ca cl fp, PTq (Blk X scope s H Ca cl fp) C ifs tt mt)
    (hi1 : ∀ s H Ca cl fp, PIt (Blk X scope s H Ca cl fp) C tg1 iter1 wi1 mi1) (hg1 : ∀ s H Ca cl fp, PGt (Blk X scope s H Ca cl fp) C tg1 g1 is1 gm1) (ht1 : ∀ s H Ca cl fp, PTq (Blk X scope s H Ca cl fp) C ifs1 tt1 mt1) (he : ∀ s H Ca cl fp, PP (Blk X scope s H Ca cl fp) C elt te me)
    (hw : ∀ j ∈ is, j ∈ own.map (·.2) := by decide) (hw1 : ∀ j ∈ is1, j ∈ ws1 := by decide) (hv : ∀ i ∈ ws1, i ∈ own.map (·.2) := by decide) (hc : X.calm = true := by rfl) (hs : ∀ x, foldedSetIterable iter X.env x = pure x := by intro _; rfl) (hs1 : ∀ env x, foldedSetIterable iter1 env x = pure x := by intro _ _; rfl) :
    PO' X C (.ListComp elt [⟨tg, iter, ifs, 0⟩, ⟨tg1, iter1, ifs1, 0⟩] scope pos) (tLc2 wi g tt wi1 g1 tt1 te (own.map (·.2)) ws1) (mLc2 mi gm mt mi1 gm1 mt1 me (own.map (·.2)) ws1) :=
  ⟨pe_lc2 hc hN hi.pe ok hv (fun s H Ca cl fp => (hg s H Ca cl fp).pe) (fun s H Ca cl fp => (ht s H Ca cl fp).pe) (fun s H Ca cl fp => (hi1 s H Ca cl fp).pe) (fun s H Ca cl fp => (hg1 s H Ca cl fp).pe) (fun s H Ca cl fp => (ht1 s H Ca cl fp).pe) (fun s H Ca cl fp => (he s H Ca cl fp).pe) hs hs1,
    rd_lc2 _ _ hi.rd (hg X.s_0 X.H_0 0 [] []).rd hw (ht X.s_0 X.H_0 0 [] []).rd (hi1 X.s_0 X.H_0 0 [] []).rd (hg1 X.s_0 X.H_0 0 [] []).rd hw1 (ht1 X.s_0 X.H_0 0 [] []).rd (he X.s_0 X.H_0 0 [] []).rd⟩
theorem x_setLc2 (i : Nat) (own : List (Str × Nat)) (ws1 : List Nat) {y : Str} {py : Pos} (hN : X.N.Nodup) (hi : PIb X C tg iter wi mi) (ok : BlkOk X.N X.env.scope scope own) (hg : ∀ s H Ca cl fp, PGt (Blk X scope s H Ca cl fp) C tg g is gm) (ht : ∀ s H Ca cl fp, PTq (Blk X scope s H Ca cl fp) C ifs tt mt)
    (hi1 : ∀ s H Ca cl fp, PIt (Blk X scope s H Ca cl fp) C tg1 iter1 wi1 mi1) (hg1 : ∀ s H Ca cl fp, PGt (Blk X scope s H Ca cl fp) C tg1 g1 is1 gm1) (ht1 : ∀ s H Ca cl fp, PTq (Blk X scope s H Ca cl fp) C ifs1 tt1 mt1) (he : ∀ s H Ca cl fp, PP (Blk X scope s H Ca cl fp) C elt te me)
    (hsw : swapsWith (.ListComp elt [⟨tg, iter, ifs, 0⟩, ⟨tg1, iter1, ifs1, 0⟩] scope pos) (some (.Name y py)) spos.line X.env = pure true)
    (hw : ∀ j ∈ is, j ∈ own.map (·.2) := by decide) (hw1 : ∀ j ∈ is1, j ∈ ws1 := by decide) (hv : ∀ i ∈ ws1, i ∈ own.map (·.2) := by decide) (hy : X.N[i]? = some y := by rfl) (hyl : X.env.scope.names.lookup y = some .local := by rfl) (hc : X.calm = true := by rfl) (hs : ∀ x, foldedSetIterable iter X.env x = pure x := by intro _; rfl) (hs1 : ∀ env x, foldedSetIterable iter1 env x = pure x := by intro _ _; rfl) :
    PSt X C (.Assign [.Name y py] (.ListComp elt [⟨tg, iter, ifs, 0⟩, ⟨tg1, iter1, ifs1, 0⟩] scope pos) spos) (tAsg (tLc2 wi g tt wi1 g1 tt1 te (own.map (·.2)) ws1) (gName i)) (mAsg (mL (mLc2 mi gm mt mi1 gm1 mt1 me (own.map (·.2)) ws1)) (gN i)) :=
  ⟨ps_setLc2 hc hN hy hyl hsw hi.pe ok hv (fun s H Ca cl fp => (hg s H Ca cl fp).pe) (fun s H Ca cl fp => (ht s H Ca cl fp).pe) (fun s H Ca cl fp => (hi1 s H Ca cl fp).pe) (fun s H Ca cl fp => (hg1 s H Ca cl fp).pe) (fun s H Ca cl fp => (ht1 s H Ca cl fp).pe) (fun s H Ca cl fp => (he s H Ca cl fp).pe) hs hs1,
    rd_asg (rd_lc2 _ _ hi.rd (hg X.s_0 X.H_0 0 [] []).rd hw (ht X.s_0 X.H_0 0 [] []).rd (hi1 X.s_0 X.H_0 0 [] []).rd (hg1 X.s_0 X.H_0 0 [] []).rd hw1 (ht1 X.s_0 X.H_0 0 [] []).rd (he X.s_0 X.H_0 0 [] []).rd).e rd_gN⟩
end
end Pu

set_option Elab.async false
set_option linter.all false
set_option maxRecDepth 100000
set_option maxHeartbeats 4000000
/-! Pure readings: dicts (keys ints and texts), methods of lists. -/
namespace Pu
open PySem PySem.Spec L2
open PyProof.Rows hiding St
/-! ### dicts as lists of pairs -/
def keyOf : D → Option Key
  | .int i => some (.inl i)
  | .str x => some (.inr x)
  | _ => none
theorem keyOf_kD (k : Key) : keyOf (kD k) = some k := by cases k <;> rfl
theorem kD_of {d : D} {k : Key} (h : keyOf d = some k) : d = kD k := by
  cases d <;> first | (cases h; rfl) | cases h
def lookD (kvs : List (D × D)) (k : Key) : Option D := (kvs.find? fun p => decide (keyOf p.1 = some k)).map (·.2)
def putD (kvs : List (D × D)) (k : Key) (d : D) : List (D × D) :=
  if (kvs.any fun p => decide (keyOf p.1 = some k)) = true then kvs.map (fun p => if keyOf p.1 = some k then (p.1, d) else p) else kvs ++ [(kD k, d)]
section
variable {K : PySem.W.Frag} {S : Hp}
theorem kvs_len : ∀ {es : List (Key × V)} {kvs : List (D × D)}, KVs K S es kvs → es.length = kvs.length
  | _, _, .nil => rfl
  | _, _, .cons _ t => by simp only [List.length_cons]; rw [kvs_len t]
theorem dec_key {q : D × D} {p : Key × V} (h : q.1 = kD p.1) (k : Key) : decide (keyOf q.1 = some k) = decide (p.1 = k) := by
  rw [h, keyOf_kD]
  by_cases e : p.1 = k
  · rw [decide_eq_true e, decide_eq_true (by rw [e])]
  · rw [decide_eq_false e, decide_eq_false (fun z => e (Option.some.inj z))]
theorem kvs_look : ∀ {es : List (Key × V)} {kvs : List (D × D)} {k : Key} {d : D}, KVs K S es kvs → lookD kvs k = some d → ∃ v, valV es k = some v ∧ Dp K S v d
  | _, _, k, d, .nil, h => by cases h
  | p :: es, q :: kvs, k, d, .cons hq t, h => by
    unfold lookD at h
    unfold valV
    rw [List.find?_cons, dec_key hq.1 k] at h
    rw [List.find?_cons]
    cases e : decide (p.1 = k) with
    | true =>
      rw [e] at h
      cases h
      exact ⟨p.2, rfl, hq.2⟩
    | false =>
      rw [e] at h
      exact kvs_look t h
theorem kvs_none : ∀ {es : List (Key × V)} {kvs : List (D × D)} {k : Key}, KVs K S es kvs → lookD kvs k = none → valV es k = none
  | _, _, k, .nil, h => rfl
  | p :: es, q :: kvs, k, .cons hq t, h => by
    unfold lookD at h
    unfold valV
    rw [List.find?_cons, dec_key hq.1 k] at h
    rw [List.find?_cons]
    cases e : decide (p.1 = k) with
    | true =>
      rw [e] at h
      cases h
    | false =>
      rw [e] at h
      exact kvs_none t h
theorem kvs_any : ∀ {es : List (Key × V)} {kvs : List (D × D)} {k : Key}, KVs K S es kvs → (kvs.any fun p => decide (keyOf p.1 = some k)) = es.any fun p => decide (p.1 = k)
  | _, _, k, .nil => rfl
  | p :: es, q :: kvs, k, .cons hq t => by rw [List.any_cons, List.any_cons, kvs_any t, dec_key hq.1 k]
theorem kvs_map {k : Key} {v : V} {d : D} (hd : Dp K S v d) : ∀ {es : List (Key × V)} {kvs : List (D × D)}, KVs K S es kvs → KVs K S (es.map fun kv => if kv.1 = k then (kv.1, v) else kv) (kvs.map fun p => if keyOf p.1 = some k then (p.1, d) else p)
  | _, _, .nil => .nil
  | p :: es, q :: kvs, .cons hq t => by
    rw [List.map_cons, List.map_cons]
    refine .cons ?_ (kvs_map hd t)
    have e := dec_key hq.1 k
    by_cases h : p.1 = k
    · rw [if_pos h]
      have h2 : keyOf q.1 = some k := by rw [hq.1, keyOf_kD, h]
      rw [if_pos h2]
      exact ⟨hq.1, hd⟩
    · rw [if_neg h]
      have h2 : ¬ keyOf q.1 = some k := fun z => h (by rw [hq.1, keyOf_kD] at z; exact Option.some.inj z)
      rw [if_neg h2]
      exact hq
theorem kvs_app : ∀ {es es' : List (Key × V)} {kvs kvs' : List (D × D)}, KVs K S es kvs → KVs K S es' kvs' → KVs K S (es ++ es') (kvs ++ kvs')
  | _, _, _, _, .nil, h => h
  | _, _, _, _, .cons a t, h => .cons a (kvs_app t h)
theorem kvs_put {es : List (Key × V)} {kvs : List (D × D)} {k : Key} {v : V} {d : D} (h : KVs K S es kvs) (hd : Dp K S v d) : KVs K S (putK es k v) (putD kvs k d) := by
  unfold putK putD
  rw [kvs_any h]
  by_cases q : (es.any fun kv => decide (kv.1 = k)) = true
  · rw [if_pos q, if_pos q]; exact kvs_map hd h
  · rw [if_neg q, if_neg q]; exact kvs_app h (.cons ⟨rfl, hd⟩ .nil)
theorem kV_key {v : V} {d : D} {k : Key} (h : keyOf d = some k) (r : Dp K S v d) : v = kV k := by
  cases d <;> first | (cases h; cases r; rfl) | cases h
end
section
variable {X : Cx} {C : GC X.K} {a b e o tg iter elt kx vx : Expr} {es ifs : List Expr} {ta tb te tk tv : TE} {ma mb me mk mv : ME} {pos spos p2 p : Pos} {t u : TS} {m n : MS} {st : Stmt} {rest : List Stmt}
/-! ### d[k] -/
def mDget (md mk : ME) : ME := fun ρ P => md ρ fun d => mk ρ fun k => match d, keyOf k with
  | .dict kvs, some key => ∃ v, lookD kvs key = some v ∧ P v
  | _, _ => False
theorem repH_dict {vol : Addr → Prop} {S H : Hp} {v : V} {kvs : List (D × D)} {key : Key} {d : D} (h : RepH vol X.K S H v (.dict kvs)) (hl : lookD kvs key = some d) : ∃ l es w, v = .ref l ∧ H l = some (.dK es) ∧ valV es key = some w ∧ Dp X.K S w d := by
  obtain ⟨l, rfl, ⟨es, h1, h2⟩, _⟩ := h
  obtain ⟨w, h3, h4⟩ := kvs_look h2 hl
  exact ⟨l, es, w, rfl, h1, h3, h4⟩
theorem p_dget (hu : X.A.units + 1 < cLine) (ho : PB X C o ta ma) (hi : PP X C a te me) (hs : NoSl a := by exact fun _ _ => rfl) : PP X C (.Subscript o a pos) (tDGet ta te) (mDget ma me) := ⟨pe_dget hu ho.pe hi.pe hs, by
  intro S H σ ρ P Q rl hm k
  refine ho.rd S H σ ρ _ _ rl hm fun d S1 H1 x p1 s1 g1 r1 => ?_
  refine hi.rd S1 H1 σ ρ _ _ (rl.step s1 g1) p1 fun kd S2 H2 y p2 s2 g2 r2 => ?_
  cases d with
  | dict kvs =>
    cases e : keyOf kd with
    | none => rw [e] at p2; exact (p2 : False).elim
    | some key =>
      rw [e] at p2
      obtain ⟨v, hl, p2⟩ := p2
      obtain ⟨l, es, w, rfl, h1, h2, h3⟩ := repH_dict (r1.step s2) hl
      have ey : y = kV key := kV_key e (r2.dp (by cases kd <;> first | rfl | cases e))
      exact ⟨l, w, rfl, by rw [ey, ← h2]; exact DGet.k h1, k v S2 H2 w p2 (s1.trans g1 s2) g2 (Rep.of h3)⟩
  | _ => exact (p2 : False).elim⟩
/-- d.get(k, x) -/
def mDgetD (md mk mx : ME) : ME := fun ρ P => md ρ fun d => match d with
  | .dict kvs => mk ρ fun k => mx ρ fun x => match keyOf k with
    | some key => match lookD kvs key with
      | some v => P v
      | none => P x
    | none => False
  | _ => False
theorem p_dgetD {f : Expr} {tx : TE} {mx : ME} {apos cpos : Pos} (hu : X.A.units + 1 < cLine) (ho : PB X C o ta ma) (hi : PP X C a te me) (hx : PP X C f tx mx) (pl : M2 X o "get" apos a f cpos := by exact ⟨rfl, rfl, rfl, rfl⟩) : PP X C (.Call (.Attribute o "get" apos) [a, f] [] cpos) (tDGet2 ta te tx) (mDgetD ma me mx) := ⟨pe_dget2 hu ho.pe hi.pe hx.pe pl, by
  intro S H σ ρ P Q rl hm k
  refine ho.rd S H σ ρ _ _ rl hm fun d S1 H1 x p1 s1 g1 r1 => ?_
  cases d with
  | dict kvs =>
    obtain ⟨l, rfl, ⟨es, h1, h2⟩, hv⟩ := id r1
    refine ⟨l, rfl, .inl ⟨es, .inl h1⟩, ?_⟩
    refine hi.rd S1 H1 σ ρ _ _ (rl.step s1 g1) p1 fun kd S2 H2 y p2 s2 g2 r2 => ?_
    have s12 := s1.trans g1 s2
    refine hx.rd S2 H2 σ ρ _ _ (rl.step s12 g2) p2 fun xd S3 H3 z p3 s3 g3 r3 => ?_
    cases e : keyOf kd with
    | none => rw [e] at p3; exact (p3 : False).elim
    | some key =>
      rw [e] at p3
      have ey : y = kV key := kV_key e (r2.dp (by cases kd <;> first | rfl | cases e))
      have s23 := s2.trans g2 s3
      have h1' := s23.hh _ _ hv h1
      have p3 : (match lookD kvs key with
        | some v => P v
        | none => P xd) := p3
      cases q : lookD kvs key with
      | some v =>
        rw [q] at p3
        obtain ⟨w, h4, h5⟩ := kvs_look h2 q
        exact ⟨some w, by rw [ey, ← h4]; exact DGet.k h1', k v S3 H3 w p3 (s12.trans g2 s3) g3 (Rep.of (Dp.mono s23.ss h5))⟩
      | none =>
        rw [q] at p3
        have h4 := kvs_none h2 q
        exact ⟨none, by rw [ey, ← h4]; exact DGet.k h1', k xd S3 H3 z p3 (s12.trans g2 s3) g3 r3⟩
  | _ => exact (p1 : False).elim⟩
/-! k in d, not in d -/
def mDin (neg : Bool) (mk md : ME) : ME := fun ρ P => mk ρ fun k => md ρ fun d => match d, keyOf k with
  | .dict kvs, some key => P (.bool (if neg then !(lookD kvs key).isSome else (lookD kvs key).isSome))
  | _, _ => False
theorem din_rd {neg : Bool} {tx : TE → TE → TE} (hx : ∀ (ty td : TE) σ H (Q : VK), (ty σ H fun y H1 => td σ H1 fun x H2 => ∃ a o, x = V.ref a ∧ DGet H2 a y o ∧ Q (.bl (if neg then !o.isSome else o.isSome)) H2) → tx ty td σ H Q) (hi : PP X C a te me) (ho : PB X C o ta ma) : RdE C (tx te ta) (mDin neg me ma) := by
  intro S H σ ρ P Q rl hm k
  refine hx _ _ _ _ _ ?_
  refine hi.rd S H σ ρ _ _ rl hm fun kd S1 H1 y p1 s1 g1 r1 => ?_
  refine ho.rd S1 H1 σ ρ _ _ (rl.step s1 g1) p1 fun d S2 H2 x p2 s2 g2 r2 => ?_
  cases d with
  | dict kvs =>
    cases e : keyOf kd with
    | none => rw [e] at p2; exact (p2 : False).elim
    | some key =>
      rw [e] at p2
      have ey : y = kV key := kV_key e (r1.dp (by cases kd <;> first | rfl | cases e))
      obtain ⟨l, rfl, ⟨es, h1, h2⟩, hv⟩ := r2
      have hs : (lookD kvs key).isSome = (valV es key).isSome := by
        cases q : lookD kvs key with
        | some v => obtain ⟨w, h4, _⟩ := kvs_look h2 q; rw [h4] <;> rfl
        | none => rw [kvs_none h2 q] <;> rfl
      refine ⟨l, valV es key, rfl, by rw [ey]; exact DGet.k h1, ?_⟩
      rw [← hs]
      exact k _ S2 H2 _ p2 (s1.trans g1 s2) g2 (Dp.bl _)
  | _ => exact (p2 : False).elim
theorem p_din (hu : X.A.units + 1 < cLine) (hi : PP X C a te me) (ho : PB X C o ta ma) (hm : behindInMarks .In o = false := by rfl) : PP X C (.Compare a [.In] [o] pos) (tDIn te ta) (mDin false me ma) := ⟨pe_cmp (pc_din hu hi.pe ho.pe) hm, din_rd (tx := tDIn) (fun _ _ _ _ _ h => h) hi ho⟩
theorem p_dnot (hu : X.A.units + 1 < cLine) (hi : PP X C a te me) (ho : PB X C o ta ma) (hm : behindInMarks .NotIn o = false := by rfl) : PP X C (.Compare a [.NotIn] [o] pos) (tDNotIn te ta) (mDin true me ma) := ⟨pe_cmp (pc_dnotin hu hi.pe ho.pe) hm, din_rd (tx := tDNotIn) (fun _ _ _ _ _ h => h) hi ho⟩

/-! ### new dicts -/
def RdOd (C : GC X.K) (t : TE) (m : List Sl → (List (D × D) → Prop) → Prop) : Prop := ∀ S H σ ρ P (Q : VK), Rel C S H σ ρ → m ρ P → (∀ kvs S' H' l, P kvs → Stp C.vol S H S' H' → Good C.vol C.G S' H' → DcAt X.K S' H' l kvs → S' l = none → H l = none → ¬ C.vol l → Q (.ref l) H') → t σ H Q
structure POd (X : Cx) (C : GC X.K) (e : Expr) (t : TE) (m : List Sl → (List (D × D) → Prop) → Prop) : Prop where
  pe : PE X e t
  rd : RdOd C t m
def mDi (m : List Sl → (List (D × D) → Prop) → Prop) : ME := fun ρ P => m ρ fun ds => P (.dict ds)
theorem POd.toP {m : List Sl → (List (D × D) → Prop) → Prop} (h : POd X C a te m) : PP X C a te (mDi m) := ⟨h.pe, fun S H σ ρ P Q r hm k => h.rd S H σ ρ _ Q r hm fun kvs S' H' l p s g h1 h2 h3 h4 => by
  obtain ⟨es, h1, h5⟩ := h1
  exact k (.dict kvs) (upd S' l (.dK es)) H' (.ref l) p (s.freeze h2 h3) (g.freeze h1 h4) ⟨l, rfl, es, upd_same, h5.mono (same_upd h2)⟩⟩
variable {scope : Scope} {own : List (Str × Nat)} {wi : TI} {mi : ML} {g : TG} {is : List Nat} {gm : D → List Sl → (List Sl → Prop) → Prop} {tt : TT} {mt : MT}
/-- {k: v for ..} -/
def dcW (st : D → (Option (Key × D) → Prop) → Prop) : List D → List (D × D) → (List (D × D) → Prop) → Prop
  | [], acc, P => P acc
  | d :: ds, acc, P => st d fun o => match o with
    | some kv => dcW st ds (putD acc kv.1 kv.2) P
    | none => dcW st ds acc P
def kyd (k : D) (Q : Key → Prop) : Prop := match keyOf k with
  | some key => Q key
  | none => False
def mDc (mi : ML) (gm : D → List Sl → (List Sl → Prop) → Prop) (mt : MT) (mk mv : ME) (ws : List Nat) : List Sl → (List (D × D) → Prop) → Prop := fun ρ P => mi ρ fun ds =>
  dcW (fun d Q => gm d (wipeE ρ ws) fun ρ2 => mt ρ2 fun b => if b = true then mk ρ2 fun kd => kyd kd fun key => mv ρ2 fun y => nd y (Q (some (key, y))) else Q none) ds [] P
theorem putD_len (kvs : List (D × D)) (k : Key) (d : D) : (putD kvs k d).length ≤ kvs.length + 1 := by
  unfold putD
  split
  · rw [List.length_map]; omega
  · rw [List.length_append]; exact Nat.le_refl _
theorem rd_dc (ws : List Nat) (hi : RdIB C wi mi) (hg : RdG C g is gm) (hw : ∀ j ∈ is, j ∈ ws) (ht : RdT C tt mt) (hk : RdE C tk mk) (he : RdE C tv mv) : RdOd C (tDc wi g tt tk tv ws) (mDc mi gm mt mk mv ws) := by
  intro S H σ ρ P Q rl hm k
  refine hi S H σ ρ _ _ rl hm fun ds S1 H1 J p s1 g1 it => ?_
  have r1 := rl.step s1 g1
  intro Dn hD
  have nv : ¬ C.vol Dn := fun v => g1.vh Dn v hD
  have nS1 : S1 Dn = none := g1.sub.free hD
  have nH : H Dn = none := s1.gone nv hD
  obtain ⟨gA, sA⟩ := g1.newH C.gst hD (o := .dK []) (Nat.zero_le _)
  let stp : D → (Option (Key × D) → Prop) → Prop := fun d Q => gm d (wipeE ρ ws) fun ρ2 => mt ρ2 fun b => if b = true then mk ρ2 fun kd => kyd kd fun key => mv ρ2 fun y => nd y (Q (some (key, y))) else Q none
  refine ⟨fun i k H' => ∃ S' es kvs, Stp C.vol S1 H1 S' H' ∧ Good C.vol C.G S' H' ∧ H' Dn = some (.dK es) ∧ S' Dn = none ∧ KVs X.K S' es kvs ∧ es.length ≤ i ∧ k = ds.length - i ∧ i ≤ ds.length ∧ dcW stp (ds.drop i) kvs P,
    ⟨ds.length, S1, [], [], sA, gA, upd_same, nS1, .nil, Nat.le_refl _, rfl, Nat.zero_le _, p⟩, ?_⟩
  rintro i kk H' ⟨S', es, kvs, st, gd, hA, nS, hd, hl, rfl, hi, q⟩
  obtain ⟨go, stop⟩ := it.2 i S' H' ⟨st, gd⟩
  by_cases hlt : i < ds.length
  · obtain ⟨g1', yl⟩ := go hlt
    refine .inr ⟨g1', fun H2 => ∃ S2 es2 kvs2, Stp C.vol S1 H1 S2 H2 ∧ Good C.vol C.G S2 H2 ∧ H2 Dn = some (.dK es2) ∧ S2 Dn = none ∧ KVs X.K S2 es2 kvs2 ∧ es2.length ≤ i + 1 ∧ dcW stp (ds.drop (i + 1)) kvs2 P, fun H2 ⟨S2, es2, kvs2, a1, a2, a3, a4, a5, a6, a7⟩ => ⟨ds.length - (i + 1), by omega, S2, es2, kvs2, a1, a2, a3, a4, a5, a6, rfl, hlt, a7⟩, fun x H'' y => ?_⟩
    obtain ⟨d, S'', hdd, st2, gd2, rp⟩ := yl x H'' y
    rw [List.drop_eq_getElem_cons hlt] at q
    have ed : ds[i] = d := by
      rw [List.getElem?_eq_getElem hlt] at hdd
      exact Option.some.inj hdd
    rw [ed] at q
    have q : gm d (wipeE ρ ws) fun ρ2 => mt ρ2 fun b => if b = true then mk ρ2 fun kd => kyd kd fun key => mv ρ2 fun y => nd y (dcW stp (ds.drop (i + 1)) (putD kvs key y) P) else dcW stp (ds.drop (i + 1)) kvs P := q
    have st3 := st.trans gd st2
    have rw' : Rel C S'' H'' (L2.wipe σ ws) (Pu.wipeE ρ ws) := (r1.step st3 gd2).wiped ws
    refine hg S'' H'' (L2.wipe σ ws) (Pu.wipeE ρ ws) x d _ _ rw' rp q fun ρ2 σ2 q2 r2 fr fl _ => ?_
    refine ⟨(wipe_of (fun j hj => fr j fun z => hj (hw j z)) fl).trans wipe_wipe, ?_⟩
    refine ht S'' H'' σ2 ρ2 _ _ r2 q2 fun b S3 H3 q3 s3 g3 => ?_
    have hA3 := s3.hh _ _ nv (st2.hh _ _ nv hA)
    have nS3 := s3.no (st2.no nS hA) (st2.hh _ _ nv hA)
    have st4 := st3.trans gd2 s3
    cases b with
    | true =>
      rw [if_pos rfl] at q3
      refine iteT <| hk S3 H3 σ2 ρ2 _ _ (r2.step s3 g3) q3 fun kd S4 H4 kv' q4 s4 g4 rp4 => ?_
      unfold kyd at q4
      cases ek : keyOf kd with
      | none => rw [ek] at q4; exact q4.elim
      | some key =>
        rw [ek] at q4
        have ey : kv' = kV key := kV_key ek (rp4.dp (by cases kd <;> first | rfl | cases ek))
        refine he S4 H4 σ2 ρ2 _ _ ((r2.step s3 g3).step s4 g4) q4 fun y S5 H5 v q5 s5 g5 rp5 => ?_
        obtain ⟨ny, q5⟩ := nd_iff q5
        have hA4 := s4.hh _ _ nv hA3
        have nS4 := s4.no nS3 hA3
        have hA5 := s5.hh _ _ nv hA4
        have nS5 := s5.no nS4 hA4
        have hz : es.length < sizeLine := Nat.lt_of_le_of_lt hl (Nat.lt_of_lt_of_le hlt it.1)
        have st6 := (st4.trans g3 s4).trans g4 s5
        have hlp := length_putK es key v
        refine ⟨es, key, ey, hA5, hz, S5, putK es key v, putD kvs key y, st6.put hD, g5.put C.gst hA5 (fun φ z => nomatch z) nS5 nv (by show (putK es key v).length ≤ sizeLine; omega), upd_same, nS5, kvs_put (hd.mono (st2.ss.trans (s3.ss.trans (s4.ss.trans s5.ss)))) (rp5.dp ny), by omega, q5⟩
    | false =>
      rw [if_neg Bool.false_ne_true] at q3
      exact iteF ⟨S3, es, kvs, st4, g3, hA3, nS3, hd.mono (st2.ss.trans s3.ss), Nat.le_succ_of_le hl, q3⟩
  · have e : ds.drop i = [] := List.drop_eq_nil_iff.mpr (by omega)
    rw [e] at q
    exact .inl ⟨stop (by omega), k kvs S' H' Dn q (s1.trans g1 st) gd ⟨es, hA, hd⟩ nS nH nv⟩
theorem o_dc (own : List (Str × Nat)) (hN : X.N.Nodup) (hi : PIb X C tg iter wi mi) (ok : BlkOk X.N X.env.scope scope own) (hg : ∀ s H Ca cl fp, PGt (Blk X scope s H Ca cl fp) C tg g is gm) (ht : ∀ s H Ca cl fp, PTq (Blk X scope s H Ca cl fp) C ifs tt mt) (hk : ∀ s H Ca cl fp, PP (Blk X scope s H Ca cl fp) C kx tk mk) (he : ∀ s H Ca cl fp, PP (Blk X scope s H Ca cl fp) C vx tv mv)
    (hw : ∀ j ∈ is, j ∈ own.map (·.2) := by decide) (hc : X.calm = true := by rfl) (hs : ∀ x, foldedSetIterable iter X.env x = pure x := by intro _; rfl) : POd X C (.DictComp kx vx [⟨tg, iter, ifs, 0⟩] scope pos) (tDc wi g tt tk tv (own.map (·.2))) (mDc mi gm mt mk mv (own.map (·.2))) :=
  ⟨pe_dc hc hN hi.pe ok (fun s H Ca cl fp => (hg s H Ca cl fp).pe) (fun s H Ca cl fp => (ht s H Ca cl fp).pe) (fun s H Ca cl fp => (hk s H Ca cl fp).pe) (fun s H Ca cl fp => (he s H Ca cl fp).pe) hs, rd_dc _ hi.rd (hg X.s_0 X.H_0 0 [] []).rd hw (ht X.s_0 X.H_0 0 [] []).rd (hk X.s_0 X.H_0 0 [] []).rd (he X.s_0 X.H_0 0 [] []).rd⟩
/-- {a: b, c: d} -/
structure PPr (X : Cx) (C : GC X.K) (pos : Pos) (ks : List (Option Expr)) (vs : List Expr) (trs : List (TE × TE)) (m : List Sl → (List (Key × D) → Prop) → Prop) : Prop where
  pe : PPs X pos ks vs trs
  rd : ∀ S H σ ρ P (Q : List (V × V) → Hp → Prop), Rel C S H σ ρ → m ρ P → (∀ kds S' H' (ps : List (Key × V)), P kds → Stp C.vol S H S' H' → Good C.vol C.G S' H' → Paired (fun (p : Key × V) (q : Key × D) => p.1 = q.1 ∧ Dp X.K S' p.2 q.2) ps kds → Q (ps.map fun kv => (kV kv.1, kv.2)) H') → tPairs trs σ H Q
def mPnil : List Sl → (List (Key × D) → Prop) → Prop := fun _ P => P []
def mPcons (mk mv : ME) (n : List Sl → (List (Key × D) → Prop) → Prop) : List Sl → (List (Key × D) → Prop) → Prop := fun ρ P => mk ρ fun kd => kyd kd fun key => mv ρ fun d => nd d (n ρ fun kds => P ((key, d) :: kds))
theorem pr_nil : PPr X C pos [] [] [] mPnil := ⟨pps_nil, fun S H σ ρ P Q r hm k => k [] S H [] hm Stp.refl r.good .nil⟩
theorem pr_cons {ks : List (Option Expr)} {vs : List Expr} {trs : List (TE × TE)} {m : List Sl → (List (Key × D) → Prop) → Prop} (hk : PP X C a tk mk) (hv : PP X C b tv mv) (hr : PPr X C pos ks vs trs m) : PPr X C pos (some a :: ks) (b :: vs) ((tk, tv) :: trs) (mPcons mk mv m) := ⟨pps_cons hk.pe hv.pe hr.pe, by
  intro S H σ ρ P Q r hm k
  refine hk.rd S H σ ρ _ _ r hm fun kd S1 H1 x p1 s1 g1 r1 => ?_
  unfold kyd at p1
  cases ek : keyOf kd with
  | none => rw [ek] at p1; exact p1.elim
  | some key =>
    rw [ek] at p1
    have ey : x = kV key := kV_key ek (r1.dp (by cases kd <;> first | rfl | cases ek))
    refine hv.rd S1 H1 σ ρ _ _ (r.step s1 g1) p1 fun d S2 H2 y p2 s2 g2 r2 => ?_
    obtain ⟨ny, p2⟩ := nd_iff p2
    have s12 := s1.trans g1 s2
    refine hr.rd S2 H2 σ ρ _ _ (r.step s12 g2) p2 fun kds S3 H3 ps p3 s3 g3 r3 => ?_
    rw [ey]
    exact k _ S3 H3 ((key, y) :: ps) p3 (s12.trans g2 s3) g3 (.cons ⟨rfl, Dp.mono s3.ss (r2.dp ny)⟩ r3)⟩
def putAll (kvs : List (D × D)) (kds : List (Key × D)) : List (D × D) := kds.foldl (fun acc q => putD acc q.1 q.2) kvs
theorem kvs_all {K : PySem.W.Frag} {S : Hp} : ∀ {ps : List (Key × V)} {kds : List (Key × D)} {es : List (Key × V)} {kvs : List (D × D)}, Paired (fun (p : Key × V) (q : Key × D) => p.1 = q.1 ∧ Dp K S p.2 q.2) ps kds → KVs K S es kvs → KVs K S (mergeK es ps) (putAll kvs kds)
  | _, _, _, _, .nil, h => h
  | p :: ps, q :: kds, es, kvs, .cons hq t, h => by
    have e := kvs_put (k := p.1) h hq.2
    have := kvs_all t e
    unfold mergeK putAll at this ⊢
    rw [List.foldl_cons, List.foldl_cons, ← hq.1]
    exact this
def mDisp (n : List Sl → (List (Key × D) → Prop) → Prop) : List Sl → (List (D × D) → Prop) → Prop := fun ρ P => n ρ fun kds => kds.length ≤ 15 ∧ P (putAll [] kds)
theorem o_disp {ks : List (Option Expr)} {vs : List Expr} {trs : List (TE × TE)} {m : List Sl → (List (Key × D) → Prop) → Prop} (h : PPr X C pos ks vs trs m) (hall : ks.all (·.isSome) = true := by rfl) (hl : ks.length = vs.length := by rfl) (h0 : ks ≠ [] := by exact fun z => nomatch z)
    (h15 : ks.length ≤ 15 := by decide) : POd X C (.Dict ks vs pos) (tDisp trs) (mDisp m) := ⟨pe_disp h.pe hall hl h0 h15, by
  intro S H σ ρ P Q rl hm k Dn hD
  have nv : ¬ C.vol Dn := fun v => rl.good.vh Dn v hD
  obtain ⟨gA, sA⟩ := rl.good.newH C.gst hD (o := .dK []) (Nat.zero_le _)
  refine h.rd S _ σ ρ _ _ (rl.step sA gA) hm fun kds S1 H1 ps p1 s1 g1 r1 => ?_
  obtain ⟨hz, p1⟩ := p1
  have hA := s1.hh _ _ nv upd_same
  have nS := s1.no (rl.good.sub.free hD) upd_same
  have lp := paired_len r1
  have hm2 := length_mergeK ps []
  rw [List.length_nil] at hm2
  have hz2 : (mergeK [] ps).length ≤ sizeLine := by rw [sizeLine_eq]; omega
  refine ⟨hA, ps, rfl, by omega, ?_⟩
  exact k _ S1 _ Dn p1 ((sA.trans gA s1).put hD) (g1.put C.gst hA (fun φ z => nomatch z) nS nv hz2) ⟨_, upd_same, kvs_all r1 .nil⟩ nS hD nv⟩

/-! ### methods of an own list -/
structure MPl (X : Cx) (o : Expr) (name : Str) (apos : Pos) (e : Expr) (es : List Expr) (cpos : Pos) : Prop where
  base : attributeBase o name X.env (eval o X.env) = eval o X.env
  few : ((backTo cpos (starEach (e :: es) X.env)).all (fun x => !x.1) && (backToKw cpos (keywordEach [] X.env)).all (fun x => x.1.isSome)
      && decide ((e :: es).length + ([] : List Keyword).length + (if ([] : List Keyword).isEmpty then 0 else 1) < 30)) = true
  line : (apos.endLine == cpos.line) = true
  st : starEach (e :: es) X.env = (false, eval e X.env) :: starEach es X.env
  pl : (backTo cpos (starEach es X.env)).any (·.1) = false
/-- x.append(e) -/
def mApp (i : Nat) (me : ME) : MS := fun ρ E => match gt ρ i with
  | .ow ds => me ρ fun d => nd d (ds.length < sizeLine ∧ E.nx (ρ.set i (.ow (ds ++ [d]))))
  | _ => False
theorem ow_at {S H : Hp} {σ : L2.St} {ρ : List Sl} {i : Nat} {ds : List D} (rl : Rel C S H σ ρ) (e : gt ρ i = .ow ds) : ∃ l vs, NdefX.slotAt σ i = some (.ref l) ∧ H l = some (.lst vs) ∧ S l = none ∧ C.H0 l = none ∧ ¬ C.vol l ∧ DpAll X.K S vs ds := by
  have q := rl.sl i
  rw [e] at q
  exact q
theorem x_app {K₁ : PySem.W.Frag} (i : Nat) {x : Str} {px apos cpos : Pos} (h : PP X C e te me) (hN : X.N[i]? = some x := by rfl) (hv : Vis X.env.scope x := by first | exact Or.inl rfl | exact Or.inr (Or.inl rfl) | exact Or.inr (Or.inr rfl)) (hd : (x == ("__debug__" : Str)) = false := by decide)
    (hcd : (x == ("__classdict__" : Str)) = false := by decide) (pl : MPl X (.Name x px) "append" apos e [] cpos := by exact ⟨rfl, rfl, rfl, rfl, rfl⟩) (hsw : swapsWith (.Call (.Attribute (.Name x px) "append" apos) [e] [] cpos) none pos.line X.env = pure false := by rfl) (hK₁ : X.K = K₁ := by first | exact blkK2 | exact blkK | exact rfl) :
    PSt X C (.Expr (.Call (.Attribute (.Name x px) "append" apos) [e] [] cpos) pos) (tDrop (tBM K₁ "list" rAppend (tVar i) (tCons te tNil))) (mApp i me) := by subst hK₁; exact (⟨ps_expr (pe_bm PySem.F.plainAttrs_list PySem.F.slot_list_append PySem.F.type_list_append mt_append (pe_var hN hv hd hcd) (pa_cons h.pe pa_nil pl.st) pl.base pl.few pl.line pl.st pl.pl) hsw, by
    intro S H σ ρ E N rl hm k1 k2 k3 k4
    unfold mApp at hm
    have hs := rl.sl i
    cases q : gt ρ i with
    | ow ds =>
      rw [q] at hs hm
      obtain ⟨l, vs, e1, h1, h2, h3, h4, h5⟩ := hs
      refine ⟨.ref l, NdefX.slotAt_some e1, .inl ⟨rfl, _, .inl (.inl h1)⟩, ?_⟩
      refine h.rd S H σ ρ _ _ rl hm fun d S1 H1 v p1 s1 g1 r1 => ?_
      obtain ⟨nd1, hz, p1⟩ := nd_iff p1
      have r' := rl.step s1 g1
      have hl := DpAll.length h5
      refine ⟨l, vs, v, rfl, rfl, s1.hh _ _ h4 h1, by omega, ?_⟩
      exact k1 _ S1 _ σ p1 s1.ss (r'.write i q e1 (DpAll.app (DpAll.mono s1.ss h5) (DpAll.one (r1.dp nd1))) (by rw [List.length_append]; show vs.length + 1 ≤ sizeLine; omega))
    | _ => rw [q] at hm; exact hm.elim⟩)
/-- x.extend(e), e a new list -/
def mExt (i : Nat) (mo : ML) : MS := fun ρ E => match gt ρ i with
  | .ow ds => mo ρ fun es => ds.length + es.length ≤ sizeLine ∧ E.nx (ρ.set i (.ow (ds ++ es)))
  | _ => False
theorem x_ext {K₁ : PySem.W.Frag} (i : Nat) {x : Str} {px apos cpos : Pos} {mo : ML} (h : PO' X C e te mo) (hN : X.N[i]? = some x := by rfl) (hv : Vis X.env.scope x := by first | exact Or.inl rfl | exact Or.inr (Or.inl rfl) | exact Or.inr (Or.inr rfl)) (hd : (x == ("__debug__" : Str)) = false := by decide)
    (hcd : (x == ("__classdict__" : Str)) = false := by decide) (pl : MPl X (.Name x px) "extend" apos e [] cpos := by exact ⟨rfl, rfl, rfl, rfl, rfl⟩) (hsw : swapsWith (.Call (.Attribute (.Name x px) "extend" apos) [e] [] cpos) none pos.line X.env = pure false := by rfl) (hK₁ : X.K = K₁ := by first | exact blkK2 | exact blkK | exact rfl) :
    PSt X C (.Expr (.Call (.Attribute (.Name x px) "extend" apos) [e] [] cpos) pos) (tDrop (tBM K₁ "list" rExtend (tVar i) (tCons te tNil))) (mExt i mo) := by subst hK₁; exact (⟨ps_expr (pe_bm PySem.F.plainAttrs_list PySem.F.slot_list_extend PySem.F.type_list_extend mt_extend (pe_var hN hv hd hcd) (pa_cons h.pe pa_nil pl.st) pl.base pl.few pl.line pl.st pl.pl) hsw, by
    intro S H σ ρ E N rl hm k1 k2 k3 k4
    unfold mExt at hm
    have hs := rl.sl i
    cases q : gt ρ i with
    | ow ds =>
      rw [q] at hs hm
      obtain ⟨l, vs, e1, h1, h2, h3, h4, h5⟩ := hs
      refine ⟨.ref l, NdefX.slotAt_some e1, .inl ⟨rfl, _, .inl (.inl h1)⟩, ?_⟩
      refine h.rd S H σ ρ _ _ rl hm fun es S1 H1 m ws p1 s1 g1 a1 a2 a3 a4 a5 => ?_
      obtain ⟨hz, p1⟩ := p1
      have r' := rl.step s1 g1
      have hl := DpAll.length h5
      have hl2 := DpAll.length a5
      refine ⟨l, m, vs, ws, rfl, rfl, s1.hh _ _ h4 h1, a1, by omega, ?_⟩
      exact k1 _ S1 _ σ p1 s1.ss (r'.write i q e1 (DpAll.app (DpAll.mono s1.ss h5) a5) (by rw [List.length_append]; omega))
    | _ => rw [q] at hm; exact hm.elim⟩)
end
end Pu

set_option Elab.async false
set_option linter.all false
set_option maxRecDepth 100000
set_option maxHeartbeats 4000000
/-! Pure readings: several targets at once, x += e, defaults, keywords, tables of code objects, a def's data. -/
namespace Pu
open PySem PySem.Spec L2
open PyProof.Rows hiding St
section
variable {X : Cx} {C : GC X.K} {a b c e o : Expr} {es : List Expr} {ta tb tc te : TE} {ma mb mc me : ME} {pos spos p2 p : Pos} {t u : TA} {n : Nat}
/-! ### a, b = x, y -/
abbrev MX := List Sl → (List Sl → Prop) → Prop
/-- a value just made: stable, or an own list that was not there at H0 -/
def NewOk (K : PySem.W.Frag) (vol : Addr → Prop) (H0 S H : Hp) : V → Sl → Prop
  | v, .da d => Rep K S v d
  | v, .ow ds => ∃ l vs, v = .ref l ∧ H l = some (.lst vs) ∧ S l = none ∧ H0 l = none ∧ ¬ vol l ∧ DpAll K S vs ds
  | v, .ob R => ∃ l u, v = .ref l ∧ H l = some u ∧ S l = none ∧ H0 l = none ∧ ¬ vol l ∧ (∀ ps, u ≠ .tbl ps) ∧ (∀ S S' u, Same S S' → R l S u → R l S' u) ∧ R l S u
  | _, _ => False
theorem NewOk.step {K : PySem.W.Frag} {vol : Addr → Prop} {H0 S H S' H' : Hp} {v : V} {s : Sl} (t : Stp vol S H S' H') (h : NewOk K vol H0 S H v s) : NewOk K vol H0 S' H' v s := by
  cases s with
  | da d => exact Rep.mono t.ss h
  | ow ds =>
    obtain ⟨l, vs, rfl, h1, h2, h3, h4, h5⟩ := h
    exact ⟨l, vs, rfl, t.hh _ _ h4 h1, t.no h2 h1, h3, h4, DpAll.mono t.ss h5⟩
  | ob R =>
    obtain ⟨l, u, rfl, h1, h2, h3, h4, h5, h6, h7⟩ := h
    exact ⟨l, u, rfl, t.hh _ _ h4 h1 h5, t.no h2 h1, h3, h4, h5, h6, h6 _ _ _ t.ss h7⟩
  | _ => exact h
theorem NewOk.back {K : PySem.W.Frag} {vol : Addr → Prop} {H0 H1 S H : Hp} {v : V} {s : Sl} (hb : ∀ l, ¬ vol l → H1 l = none → H0 l = none) (h : NewOk K vol H1 S H v s) : NewOk K vol H0 S H v s := by
  cases s with
  | ow ds =>
    obtain ⟨l, vs, rfl, h1, h2, h3, h4, h5⟩ := h
    exact ⟨l, vs, rfl, h1, h2, hb l h4 h3, h4, h5⟩
  | ob R =>
    obtain ⟨l, u, rfl, h1, h2, h3, h4, h5⟩ := h
    exact ⟨l, u, rfl, h1, h2, hb l h4 h3, h4, h5⟩
  | _ => exact h
/-- own lists made one behind another lie apart -/
def Apart (vs : List V) (ss : List Sl) : Prop := ∀ (i j : Nat) (v : V) (s s' : Sl), vs[i]? = some v → vs[j]? = some v → ss[i]? = some s → ss[j]? = some s' → s.own = true → s'.own = true → i = j
structure PX (X : Cx) (C : GC X.K) (es : List Expr) (t : TA) (m : MX) : Prop where
  pe : PA X es t
  rd : ∀ S H σ ρ P (Q : List V → Hp → Prop), Rel C S H σ ρ → m ρ P → (∀ ss S' H' vs, P ss → Stp C.vol S H S' H' → Good C.vol C.G S' H' → Paired (NewOk X.K C.vol H S' H') vs ss → Apart vs ss → Q vs H') → t σ H Q
def mXnil : MX := fun _ P => P []
def mXda (m : ME) (n : MX) : MX := fun ρ P => m ρ fun d => n ρ fun ss => P (.da d :: ss)
def mXow (m : ML) (n : MX) : MX := fun ρ P => m ρ fun ds => n ρ fun ss => P (.ow ds :: ss)
theorem x_pnil : PX X C [] tNil mXnil := ⟨pa_nil, fun S H σ ρ P Q r hm k => k [] S H [] hm Stp.refl r.good .nil fun _ _ _ _ _ h => by simp at h⟩
theorem paired_mono {α β : Type} {F G : α → β → Prop} : ∀ {l₁ : List α} {l₂ : List β}, Paired F l₁ l₂ → (∀ a b, F a b → G a b) → Paired G l₁ l₂
  | _, _, .nil, _ => .nil
  | _, _, .cons h t, f => .cons (f _ _ h) (paired_mono t f)
theorem paired_at {α β : Type} {F : α → β → Prop} : ∀ {l₁ : List α} {l₂ : List β} {i : Nat} {x : α} {y : β}, Paired F l₁ l₂ → l₁[i]? = some x → l₂[i]? = some y → F x y
  | _, _, _, _, _, .nil, h, _ => by simp at h
  | _, _, 0, _, _, .cons h _, e1, e2 => by simp at e1 e2; subst e1; subst e2; exact h
  | _, _, i + 1, _, _, .cons _ t, e1, e2 => paired_at (i := i) t (by simpa using e1) (by simpa using e2)
theorem xa_da {m : MX} (h : PP X C e te me) (hr : PX X C es t m) (hs : starEach (e :: es) X.env = (false, eval e X.env) :: starEach es X.env := by rfl) : PX X C (e :: es) (tCons te t) (mXda me m) := ⟨pa_cons h.pe hr.pe hs, by
  intro S H σ ρ P Q r hm k
  refine h.rd S H σ ρ _ _ r hm fun d S1 H1 v p1 s1 g1 r1 => ?_
  refine hr.rd S1 H1 σ ρ _ _ (r.step s1 g1) p1 fun ss S2 H2 vs p2 s2 g2 r2 ap => ?_
  refine k _ S2 H2 (v :: vs) p2 (s1.trans g1 s2) g2 (.cons (r1.mono s2.ss) (paired_mono r2 fun _ _ z => z.back fun l nv q => s1.gone nv q)) fun i j v' s s' a1 a2 a3 a4 a5 a6 => ?_
  cases i with
  | zero => simp at a3; subst a3; cases a5
  | succ i =>
    cases j with
    | zero => simp at a4; subst a4; cases a6
    | succ j => exact congrArg (· + 1) (ap i j v' s s' (by simpa using a1) (by simpa using a2) (by simpa using a3) (by simpa using a4) a5 a6)⟩
theorem xa_ow {m : MX} {mo : ML} (h : PO' X C e te mo) (hr : PX X C es t m) (hs : starEach (e :: es) X.env = (false, eval e X.env) :: starEach es X.env := by rfl) : PX X C (e :: es) (tCons te t) (mXow mo m) := ⟨pa_cons h.pe hr.pe hs, by
  intro S H σ ρ P Q r hm k
  refine h.rd S H σ ρ _ _ r hm fun ds S1 H1 l ws p1 s1 g1 a1 a2 a3 a4 a5 => ?_
  refine hr.rd S1 H1 σ ρ _ _ (r.step s1 g1) p1 fun ss S2 H2 vs p2 s2 g2 r2 ap => ?_
  have new : NewOk X.K C.vol H S2 H2 (.ref l) (.ow ds) := NewOk.step s2 (⟨l, ws, rfl, a1, a2, a3, a4, a5⟩ : NewOk X.K C.vol H S1 H1 (.ref l) (.ow ds))
  have away : ∀ (j : Nat) (s' : Sl), vs[j]? = some (.ref l) → ss[j]? = some s' → s'.own = true → False := fun j s' b1 b2 b3 => by
    have q := paired_at r2 b1 b2
    cases s' with
    | ow es =>
      obtain ⟨l', ws', e1, c1, c2, c3, c4, c5⟩ := q
      cases e1
      rw [a1] at c3; cases c3
    | ob R =>
      obtain ⟨l', u', e1, c1, c2, c3, c4, c5⟩ := q
      cases e1
      rw [a1] at c3; cases c3
    | od _ => exact q.elim
    | _ => cases b3
  refine k _ S2 H2 (.ref l :: vs) p2 (s1.trans g1 s2) g2 (.cons new (paired_mono r2 fun _ _ z => z.back fun l nv q => s1.gone nv q)) fun i j v' s s' b1 b2 b3 b4 b5 b6 => ?_
  cases i with
  | zero =>
    cases j with
    | zero => rfl
    | succ j =>
      simp at b1
      subst b1
      exact (away j s' (by simpa using b2) (by simpa using b4) b6).elim
  | succ i =>
    cases j with
    | zero =>
      simp at b2
      subst b2
      exact (away i s (by simpa using b1) (by simpa using b3) b5).elim
    | succ j => exact congrArg (· + 1) (ap i j v' s s' (by simpa using b1) (by simpa using b2) (by simpa using b3) (by simpa using b4) b5 b6)⟩
theorem rel_new {S H S' H' : Hp} {σ : L2.St} {ρ : List Sl} {v : V} {s : Sl} (i : Nat) (r : Rel C S' H' σ ρ) (h : NewOk X.K C.vol H S' H' v s) (h0 : ∀ l, ¬ C.vol l → H l = none → C.H0 l = none) (ho : s.own = true → ∀ j, (gt ρ j).own = true → NdefX.slotAt σ j ≠ some v) : Rel C S' H' (σ.set i (some v)) (ρ.set i s) := by
  cases s with
  | da d => exact r.set i h
  | ow ds =>
    refine r.put i ?_ ho
    obtain ⟨l, vs, rfl, a1, a2, a3, a4, a5⟩ := h
    exact ⟨l, vs, rfl, a1, a2, h0 l a4 a3, a4, a5⟩
  | ob R =>
    refine r.put i ?_ ho
    obtain ⟨l, u, rfl, a1, a2, a3, a4, a5⟩ := h
    exact ⟨l, u, rfl, a1, a2, h0 l a4 a3, a4, a5⟩
  | _ => exact h.elim
def mPar2 (i j : Nat) (m : MX) : MS := fun ρ E => m ρ fun ss => match ss with
  | [s, s'] => E.nx ((ρ.set i s).set j s')
  | _ => False
theorem own_set {ρ : List Sl} {i j : Nat} {s : Sl} (h : (gt (ρ.set i s) j).own = true) : (j = i ∧ s.own = true) ∨ (gt ρ j).own = true := by
  rw [gt_set] at h
  by_cases q : j = i ∧ i < ρ.length
  · rw [if_pos q] at h; exact .inl ⟨q.1, h⟩
  · rw [if_neg q] at h; exact .inr h
theorem own_old {S H : Hp} {σ : L2.St} {ρ : List Sl} {S' H' : Hp} {s : Sl} {v : V} (rl : Rel C S H σ ρ) (h : NewOk X.K C.vol H S' H' v s) (hs : s.own = true) (j : Nat) (hj : (gt ρ j).own = true) : NdefX.slotAt σ j ≠ some v := fun e => by
  cases s with
  | ow ds =>
    obtain ⟨l, vs, rfl, a1, a2, a3, a4, a5⟩ := h
    exact rl.there j hj l e a3
  | ob R =>
    obtain ⟨l, u, rfl, a1, a2, a3, a4, a5⟩ := h
    exact rl.there j hj l e a3
  | od _ => exact h.elim
  | _ => cases hs
theorem rd_par2 {i j : Nat} {m : MX} (hij : i ≠ j) (h : PX X C es t m) : RdS C (tPar i j t) (mPar2 i j m) := by
  intro S H σ ρ E N rl hm k1 k2 k3 k4
  refine h.rd S H σ ρ _ _ rl hm fun ss S1 H1 vs p s1 g1 r1 ap => ?_
  split at p
  · rename_i a b
    obtain ⟨v, w, rfl, n1, n2⟩ := paired2 r1
    have h0 : ∀ l, ¬ C.vol l → H l = none → C.H0 l = none := fun l nv q => rl.stp.gone nv q
    have ra := rel_new (S := S) i (rl.step s1 g1) n1 h0 (own_old rl n1)
    have rb := rel_new (S := S) j ra n2 h0 fun ho q hq => by
      rcases own_set hq with ⟨rfl, z⟩ | z
      · intro e
        rw [slotAt_set] at e
        by_cases hl : q = q ∧ q < σ.length
        · rw [if_pos hl] at e
          cases e
          exact absurd (ap 0 1 v a b rfl rfl rfl rfl z ho) (by decide)
        · rw [if_neg hl] at e
          have hq' : ¬ q < σ.length := fun x => hl ⟨rfl, x⟩
          unfold NdefX.slotAt at e
          rw [List.getElem?_eq_none_iff.mpr (by omega)] at e
          cases e
      · intro e
        rw [slotAt_set] at e
        by_cases hl : q = i ∧ i < σ.length
        · rw [if_pos hl] at e
          cases e
          rw [hl.1] at hq
          rw [gt_set, if_pos ⟨rfl, by rw [← rl.len]; exact hl.2⟩] at hq
          exact absurd (ap 0 1 v a b rfl rfl rfl rfl hq ho) (by decide)
        · rw [if_neg hl] at e
          exact own_old rl n2 ho q z e
    exact ⟨v, w, rfl, k1 _ S1 H1 _ p s1.ss rb⟩
  · exact p.elim
theorem x_par2 (i j : Nat) {x y : Str} {px py pt : Pos} {kt k2 : Nat} {pt2 : Pos} {m : MX} (h : PX X C [a, b] t m) (hN : X.N.Nodup) (hi : X.N[i]? = some x := by rfl) (hj : X.N[j]? = some y := by rfl) (hij : i ≠ j := by decide) (hx : X.env.scope.names.lookup x = some .local := by rfl) (hy : X.env.scope.names.lookup y = some .local := by rfl)
    (hw : swappedStores [.Tuple [.Name x px, .Name y py] kt pt] (.Tuple [a, b] k2 pt2) X.env = pure (some [x, y]) := by rfl) (hs : swapsWithSole [.Tuple [.Name x px, .Name y py] kt pt] (.Tuple [a, b] k2 pt2) pos.line X.env = pure false := by rfl) (hc : X.calm = true := by rfl) :
    PSt X C (.Assign [.Tuple [.Name x px, .Name y py] kt pt] (.Tuple [a, b] k2 pt2) pos) (tPar i j t) (mPar2 i j m) := ⟨ps_par hc hN hi hj hij hx hy h.pe hw hs, rd_par2 hij h⟩
def mPar3 (i j l : Nat) (m : MX) : MS := fun ρ E => m ρ fun ss => match ss with
  | [s, s', s''] => E.nx (((ρ.set i s).set j s').set l s'')
  | _ => False
theorem paired3 {α β : Type} {F : α → β → Prop} {l : List α} {y z q : β} (h : Paired F l [y, z, q]) : ∃ x w v, l = [x, w, v] ∧ F x y ∧ F w z ∧ F v q := by
  cases h with
  | cons h1 t => obtain ⟨w, v, rfl, h2, h3⟩ := paired2 t; exact ⟨_, _, _, rfl, h1, h2, h3⟩
/-- a slot just stored bears another own list -/
theorem own_new {σ : L2.St} {ρ : List Sl} {i q : Nat} {v w : V} {s : Sl} (hl : σ.length = ρ.length) (hq : (gt (ρ.set i s) q).own = true) (e : NdefX.slotAt (σ.set i (some v)) q = some w) : (q = i ∧ s.own = true ∧ v = w) ∨ ((gt ρ q).own = true ∧ NdefX.slotAt σ q = some w ∧ ¬ (q = i ∧ i < ρ.length)) := by
  rw [slotAt_set, hl] at e
  rw [gt_set] at hq
  by_cases h : q = i ∧ i < ρ.length
  · rw [if_pos h] at hq e
    cases e
    exact .inl ⟨h.1, hq, rfl⟩
  · rw [if_neg h] at hq e
    exact .inr ⟨hq, e, h⟩
theorem rd_par3 {i j l : Nat} {m : MX} (h : PX X C es t m) : RdS C (tPar3 i j l t) (mPar3 i j l m) := by
  intro S H σ ρ E N rl hm k1 k2 k3 k4
  refine h.rd S H σ ρ _ _ rl hm fun ss S1 H1 vs p s1 g1 r1 ap => ?_
  split at p
  · rename_i a b c
    obtain ⟨v, w, z, rfl, n1, n2, n3⟩ := paired3 r1
    have h0 : ∀ l, ¬ C.vol l → H l = none → C.H0 l = none := fun l nv q => rl.stp.gone nv q
    have r0 := rl.step s1 g1
    have ra := rel_new (S := S) i r0 n1 h0 (own_old rl n1)
    have rb := rel_new (S := S) j ra n2 h0 fun ho q hq e => by
      rcases own_new r0.len hq e with ⟨_, x1, rfl⟩ | ⟨x1, x2, _⟩
      · exact absurd (ap 0 1 _ a b rfl rfl rfl rfl x1 ho) (by decide)
      · exact own_old rl n2 ho q x1 x2
    have rc := rel_new (S := S) l rb n3 h0 fun ho q hq e => by
      rcases own_new ra.len hq e with ⟨_, x1, rfl⟩ | ⟨x1, x2, _⟩
      · exact absurd (ap 1 2 _ b c rfl rfl rfl rfl x1 ho) (by decide)
      · rcases own_new r0.len x1 x2 with ⟨_, y1, rfl⟩ | ⟨y1, y2, _⟩
        · exact absurd (ap 0 2 _ a c rfl rfl rfl rfl y1 ho) (by decide)
        · exact own_old rl n3 ho q y1 y2
    exact ⟨v, w, z, rfl, k1 _ S1 H1 _ p s1.ss rc⟩
  · exact p.elim
theorem x_par3 (i j l : Nat) {x y z : Str} {px py pz pt : Pos} {kt k2 : Nat} {pt2 : Pos} {m : MX} (h : PX X C [a, b, c] t m) (hN : X.N.Nodup) (hi : X.N[i]? = some x := by rfl) (hj : X.N[j]? = some y := by rfl) (hl : X.N[l]? = some z := by rfl) (hij : i ≠ j := by decide) (hil : i ≠ l := by decide) (hjl : j ≠ l := by decide)
    (hx : X.env.scope.names.lookup x = some .local := by rfl) (hy : X.env.scope.names.lookup y = some .local := by rfl) (hz : X.env.scope.names.lookup z = some .local := by rfl)
    (hw : swappedStores [.Tuple [.Name x px, .Name y py, .Name z pz] kt pt] (.Tuple [a, b, c] k2 pt2) X.env = pure (some [x, y, z]) := by rfl) (hs : swapsWithSole [.Tuple [.Name x px, .Name y py, .Name z pz] kt pt] (.Tuple [a, b, c] k2 pt2) pos.line X.env = pure false := by rfl) (hc : X.calm = true := by rfl) :
    PSt X C (.Assign [.Tuple [.Name x px, .Name y py, .Name z pz] kt pt] (.Tuple [a, b, c] k2 pt2) pos) (tPar3 i j l t) (mPar3 i j l m) := ⟨ps_par3 hc hN hi hj hl hij hil hjl hx hy hz h.pe hw hs, rd_par3 h⟩

/-! ### x += e -/
def mAug (op : D → D → (D → Prop) → Prop) (i : Nat) (me : ME) : MS := fun ρ E => match gt ρ i with
  | .da x => me ρ fun y => op x y fun z => E.nx (ρ.set i (.da z))
  | _ => False
theorem rd_aug {i : Nat} {f : Int → Int → Int} (h : RdE C te me) : RdS C (tAug i te (ipI f)) (mAug (oI fun x y => .int (f x y)) i me) := by
  intro S H σ ρ E N rl hm k1 k2 k3 k4
  unfold mAug at hm
  have hs := rl.sl i
  cases q : gt ρ i with
  | da x =>
    rw [q] at hm hs
    obtain ⟨v, e1, rv⟩ := hs
    refine ⟨v, NdefX.slotAt_some e1, ?_⟩
    refine h S H σ ρ _ _ rl hm fun y S1 H1 w p s1 g1 r1 => ?_
    obtain ⟨m, n, rfl, rfl, p⟩ := oI_of p
    have ev : v = .int m := rint (X := X) (RepH.of rl.good rv)
    have ew : w = .int n := rint (X := X) (RepH.of g1 r1)
    exact ⟨m, n, ev, ew, k1 _ S1 H1 _ p s1.ss ((rl.step s1 g1).set i (Dp.int _))⟩
  | _ => rw [q] at hm; exact hm.elim
theorem x_aug_add (i : Nat) {x : Str} {pos' : Pos} (h : PP X C e te me) (hN : X.N.Nodup) (hi : X.N[i]? = some x := by rfl) (hx : Loc X.env.scope x := by first | exact Or.inl rfl | exact Or.inr rfl) (hf : X.fn x = true ∨ X.env.scope.names.lookup x = some .local := by first | exact .inl rfl | exact .inr rfl) :
    PSt X C (.AugAssign (.Name x pos') .Add e pos) (tAug i te (ipI fun i j => i + j)) (mAug o_add i me) := ⟨ps_aug hN hi hx h.pe ip_add hf, rd_aug h.rd⟩
theorem x_aug_sub (i : Nat) {x : Str} {pos' : Pos} (h : PP X C e te me) (hN : X.N.Nodup) (hi : X.N[i]? = some x := by rfl) (hx : Loc X.env.scope x := by first | exact Or.inl rfl | exact Or.inr rfl) (hf : X.fn x = true ∨ X.env.scope.names.lookup x = some .local := by first | exact .inl rfl | exact .inr rfl) :
    PSt X C (.AugAssign (.Name x pos') .Sub e pos) (tAug i te (ipI fun i j => i - j)) (mAug o_sub i me) := ⟨ps_aug hN hi hx h.pe ip_sub hf, rd_aug h.rd⟩
/-! ### -x, x ** y, chains -/
def mUn (op : D → (D → Prop) → Prop) (m : ME) : ME := fun ρ P => m ρ fun d => op d P
def oNeg : D → (D → Prop) → Prop
  | .int i, P => P (.int (-i))
  | _, _ => False
abbrev z_neg : V → Hp → VK → Prop := rU fun i => .int (-i)
theorem p_neg (h : PB X C a ta ma) : PP X C (.UnaryOp .USub a pos) (tUn z_neg ta) (mUn oNeg ma) := ⟨pe_un un_neg h.pe, by
  intro S H σ ρ P Q rl hm k
  refine h.rd S H σ ρ _ _ rl hm fun d S1 H1 x p1 s1 g1 r1 => ?_
  cases d with
  | int i => exact ⟨i, rint r1, k _ S1 H1 _ p1 s1 g1 (Dp.int _)⟩
  | _ => exact (p1 : False).elim⟩
abbrev z_pow : R2 := rI CPow fun i j => .int (i ^ j.toNat)
abbrev o_pow : D → D → (D → Prop) → Prop := oIC CPow fun i j => .int (i ^ j.toNat)
theorem r2_pow : R2Ok C z_pow o_pow := r2_intC fun i j S => Dp.int _
theorem p_pow (ha : PB X C a ta ma) (hb : PB X C b tb mb) : PP X C (.BinOp a .Pow b pos) (tOp z_pow ta tb) (mBin o_pow ma mb) := p_bin op_pow r2_pow ha hb
def mLeLe (ma mb mc : ME) : ME := fun ρ P => ma ρ fun x => mb ρ fun y => match x, y with
  | .int i, .int j => if i ≤ j then mc ρ fun z => match z with
    | .int k => P (.bool (decide (j ≤ k)))
    | _ => False
    else P (.bool false)
  | _, _ => False
theorem rd_leLe {c' : TE} (ha : RdB C ta ma) (hb : RdB C tb mb) (hc : RdB C tc mc) : RdE C (tChain z_le z_le ta tb tc) (mLeLe ma mb mc) := by
  intro S H σ ρ P Q rl hm k
  refine ha S H σ ρ _ _ rl hm fun x S1 H1 v p1 s1 g1 r1 => ?_
  refine hb S1 H1 σ ρ _ _ (rl.step s1 g1) p1 fun y S2 H2 w p2 s2 g2 r2 => ?_
  have s12 := s1.trans g1 s2
  cases x with
  | int i =>
    cases y with
    | int j =>
      refine ⟨i, j, rint r1, rint r2, decide (i ≤ j), rfl, ?_⟩
      by_cases h : i ≤ j
      · rw [if_pos (decide_eq_true h)]
        have p2 : (if i ≤ j then mc ρ (fun z => match z with | .int k => P (.bool (decide (j ≤ k))) | _ => False) else P (.bool false)) := p2
        rw [if_pos h] at p2
        refine hc S2 H2 σ ρ _ _ (rl.step s12 g2) p2 fun z S3 H3 u p3 s3 g3 r3 => ?_
        cases z with
        | int q => exact ⟨j, q, rint r2, rint r3, k _ S3 H3 _ p3 (s12.trans g2 s3) g3 (Dp.bl _)⟩
        | _ => exact (p3 : False).elim
      · rw [if_neg (by rw [decide_eq_false h]; exact Bool.false_ne_true)]
        have p2 : (if i ≤ j then mc ρ (fun z => match z with | .int k => P (.bool (decide (j ≤ k))) | _ => False) else P (.bool false)) := p2
        rw [if_neg h] at p2
        exact k _ S2 H2 _ p2 s12 g2 (Dp.bl false)
    | _ => exact (p2 : False).elim
  | _ => cases y <;> exact (p2 : False).elim
theorem p_leLe (ha : PB X C a ta ma) (hb : PB X C b tb mb) (hc : PB X C c tc mc) (hm : lastMarks [.LtE, .LtE] [b, c] = false := by with_unfolding_all rfl) : PP X C (.Compare a [.LtE, .LtE] [b, c] pos) (tChain z_le z_le ta tb tc) (mLeLe ma mb mc) := ⟨pe_chain op_le op_le ha.pe hb.pe hc.pe hm, rd_leLe (c' := tc) ha.rd hb.rd hc.rd⟩
theorem q_leLe (ha : PB X C a ta ma) (hb : PB X C b tb mb) (hc : PB X C c tc mc) (hm : lastMarks [.LtE, .LtE] [b, c] = false := by with_unfolding_all rfl) : PQ X C (.Compare a [.LtE, .LtE] [b, c] pos) (tTest (tChain z_le z_le ta tb tc)) (mTest (mLeLe ma mb mc)) := ⟨pt_chain op_le op_le ha.pe hb.pe hc.pe hm, rd_test (rd_leLe (c' := tc) ha.rd hb.rd hc.rd).b⟩
end

/-! ### defaults, keywords -/
section
variable {X : Cx} {C : GC X.K} {e : Expr} {es : List Expr} {te : TE} {me : ME} {pos p : Pos} {t tk : TA} {x : Str} {k n j : Nat} {f : Addr} {fd : FuncData} {ps : List Str} {vol' : Addr → Prop} {G' : Hp → Prop} {Φ : Phi}
def mCallD (Φ : Phi) (ds : List D) (m : MA) : ME := fun ρ P => m ρ fun as => Φ (as ++ ds.map .da) P fun _ => False
/-- what stands for the defaults, whatever the heap -/
def DfOk (K : PySem.W.Frag) (dvs : List V) (ds : List D) : Prop := ∀ S, DpAll K S dvs ds
theorem args_app {K : PySem.W.Frag} {S : Hp} : ∀ {vs ws : List V} {as bs : List Sl}, ArgsOk K S vs as → ArgsOk K S ws bs → ArgsOk K S (vs ++ ws) (as ++ bs)
  | _, _, _, _, .nil, h => h
  | _, _, _, _, .cons a t, h => .cons a (args_app t h)
theorem args_da {K : PySem.W.Frag} {S : Hp} : ∀ {vs : List V} {ds : List D}, DpAll K S vs ds → ArgsOk K S vs (ds.map .da)
  | _, _, .nil => .nil
  | _, _, .cons a t => .cons (Rep.of a) (args_da t)
theorem p_callD {K₁ : PySem.W.Frag} {m : MA} {dvs : List V} {dds : List Value} {ds : List D} (F : FnOk X.prog X.w X.K X.mg X.base CX0 k f fd ps (spG X.K vol' G' (n + ds.length) Φ)) (cp : Compat C.vol C.G vol' G') (hr : Room k X.A) (hm : X.mg x = some (.ref f)) (hk : PySem.W.keepIn X.K (.ref f) = true) (hb : Binds X.K fd ps dds) (hv : Vals dvs dds) (hd : DfOk X.K dvs ds) (ha : PAn X C n (e :: es) t m) (hg : Gl X x := by rfl)
    (hdb : (x == ("__debug__" : Str)) = false := by decide) (he : starEach (e :: es) X.env = (false, eval e X.env) :: starEach es X.env := by rfl) (hpl : (backTo pos (starEach es X.env)).any (·.1) = false := by rfl) (hK₁ : X.K = K₁ := by first | exact blkK2 | exact blkK | exact rfl) :
    PP X C (.Call (.Name x p) (e :: es) [] pos) (tCall (spG K₁ vol' G' (n + ds.length) Φ) dvs E0 t) (mCallD Φ ds m) := by subst hK₁; exact (⟨pe_call F hr hg hm hk hb hv pass0 ha.pe (hdb := hdb) (he := he) (hpl := hpl), by
  intro S H σ ρ P Q rl hmm kk
  refine ha.rd S H σ ρ _ _ rl hmm fun as S1 H1 vs p1 ln s1 g1 r1 => ?_
  refine ⟨S1, as ++ ds.map .da, P, _, by rw [List.length_append, List.length_map, ln], args_app r1 (args_da (hd S1)), cp.in_ _ _ g1, p1, fun d S' H' v pd s g q => ?_, fun _ _ _ _ _ z => z.elim⟩
  obtain ⟨s2, g2⟩ := cp.out _ _ _ _ g1 s g
  exact kk d S' H' v pd (s1.trans g1 s2) g2 q⟩)
/-- keyword arguments that stand for the places behind -/
structure PKn (X : Cx) (C : GC X.K) (j : Nat) (kws : List Keyword) (t : TA) (m : MA) : Prop where
  pe : PK X kws t
  rd : ∀ S H σ ρ P (Q : List V → Hp → Prop), Rel C S H σ ρ → m ρ P → (∀ as S' H' vs, P as → as.length = j → Stp C.vol S H S' H' → Good C.vol C.G S' H' → ArgsOk X.K S' vs as → Q vs H') → t σ H Q
theorem k_nil : PKn X C 0 [] tNil mAnil := ⟨pk_nil, fun S H σ ρ P Q r hm k => k [] S H [] hm rfl Stp.refl r.good .nil⟩
theorem k_da {m : MA} {kws : List Keyword} {nm : Option Str} {kpos : Pos} (h : PP X C e te me) (hr : PKn X C j kws tk m) : PKn X C (j + 1) (⟨nm, e, kpos⟩ :: kws) (tCons te tk) (mAda me m) := ⟨pk_cons h.pe hr.pe, by
  intro S H σ ρ P Q r hm k
  refine h.rd S H σ ρ _ _ r hm fun d S1 H1 v p1 s1 g1 r1 => ?_
  refine hr.rd S1 H1 σ ρ _ _ (r.step s1 g1) p1 fun as S2 H2 vs p2 ln s2 g2 r2 => ?_
  exact k _ S2 H2 _ p2 (by rw [List.length_cons, ln]) (s1.trans g1 s2) g2 (.cons (r1.mono s2.ss) r2)⟩
end
end Pu

set_option Elab.async false
set_option linter.all false
set_option maxRecDepth 100000
set_option maxHeartbeats 4000000
/-! Pure readings: defs as facts tell them, calls with keywords, tables of code objects. -/
namespace Pu
open PySem PySem.Spec L2
open PyProof.Rows hiding St
abbrev FnP (K : PySem.W.Frag) (x : Str) (st : Stmt) (dvs : List V) (f : Addr) (fd : FuncData) : Prop := FunD K x x (defArgs st) (defBody st) (defScope st) dvs [] f fd
/-- a def of the text, by its facts -/
structure Def (K : PySem.W.Frag) (mg : Str → Option Value) (x : Str) (st : Stmt) (dvs : List V) (f : Addr) (fd : FuncData) : Prop where
  F : FnP K x st dvs f fd
  m : mg x = some (.ref f)
section
variable {P : Program} {w : World} {K : PySem.W.Frag} {mg : Str → Option Value} {base : Heap} {x : Str} {st : Stmt} {dvs : List V} {f : Addr} {fd : FuncData} {N ps : List Str} {k : Nat} {vol : Addr → Prop} {G : Hp → Prop} {m : MS}
theorem fnD (gst : GSt vol G) (F : FnP K x st dvs f fd) (sc : FnScope N ps (defScope st)) (hN : ps.length ≤ N.length)
    (hb : ∀ (cdv : Value) (A : Around) (outer : List Env) (s : Shared) (H S : Hp) (E : XK), Room k (A.deeper (envOfC x (defScope st) s.heap.objs.size f cdv)) →
      ∃ t, PSL (cxOf CX0 P w K mg base N x (defScope st) f cdv A outer s H E).nox (gc vol G gst S H) (defBody st) t m) :
    FnOk P w K mg base CX0 (k + 1) f fd ps (spG K vol G ps.length (bodyPhi N.length ps.length m)) := by
  refine F.ok sc (fun vs H Q E h => ?_) (fun cdv A outer s H vs Q E hr h => ?_)
  · obtain ⟨S, as, P, PX, ln, ha, _⟩ := h
    rw [paired_len ha, ln]
  · obtain ⟨S, as, P, PX, ln, ha, g, hΦ, k1, k2⟩ := h
    obtain ⟨t, ht⟩ := hb cdv A outer s H S E hr
    refine ⟨t, ht.pe.nox, ?_⟩
    refine ht.rd S H (L2.start N vs) _ _ _ (rel_start rfl rfl g ha ln hN) hΦ (fun ρ' S' H' σ' p _ r => ?_) (fun d S' H' v p g' s' q => k1 d S' H' v p s' g' q) (fun _ _ _ _ z => z.elim) (fun _ _ _ _ z => z.elim)
    exact k1 .none S' H' .non p r.stp r.good Dp.non
theorem kbN {n : Nat} {ks : List Str} (F : FnP K x st [] f fd) (h : ∀ (kV doc pm : Value) (an : Option Addr) (cdv ct : Value) (us ws : List Value), us.length = n → ws.length = ks.length → bindArgs (PySem.W.fnOf x x (defArgs st) (defBody st) (defScope st) .none kV doc pm an cdv ct) ⟨us, ks.zip ws⟩ = pure (ps.zip (us ++ ws))) :
    KBn K fd ps n ks (fun us ws => us ++ ws) (fun vs zs => vs ++ zs) := by
  obtain ⟨oc, od, dV, kV, doc, pm, an, cdv, ct, osl, rfl, lk, hcd, hD, hK⟩ := F.ex
  rcases hD with ⟨_, rfl⟩ | ⟨e, _⟩
  · exact ⟨fun s us ws _ l1 l2 => .of_eq (h kV doc pm an cdv ct us ws l1 l2), fun r1 r2 => r1.append r2⟩
  · exact absurd rfl e
end
section
variable {X : Cx} {C : GC X.K} {e : Expr} {es : List Expr} {te : TE} {me : ME} {pos p : Pos} {t tk : TA} {x : Str} {k n j : Nat} {f : Addr} {fd : FuncData} {ps ks : List Str} {vol' : Addr → Prop} {G' : Hp → Prop} {Φ : Phi}
def mCallK (Φ : Phi) (m km : MA) : ME := fun ρ P => m ρ fun as => km ρ fun bs => Φ (as ++ bs) P fun _ => False
theorem p_callK {K₁ : PySem.W.Frag} {m km : MA} {kws : List Keyword} (F : FnOk X.prog X.w X.K X.mg X.base CX0 k f fd ps (spG X.K vol' G' (n + ks.length) Φ)) (cp : Compat C.vol C.G vol' G') (hr : Room k X.A) (hm : X.mg x = some (.ref f)) (hk : PySem.W.keepIn X.K (.ref f) = true)
    (hb : KBn X.K fd ps n ks (fun us ws => us ++ ws) (fun vs zs => vs ++ zs)) (ha : PAn X C n (e :: es) t m) (hkw : PKn X C ks.length kws tk km) (hg : Gl X x := by rfl)
    (hall : (backToKw pos (keywordEach kws X.env)).all (·.1.isSome) = true := by rfl) (hks : (backToKw pos (keywordEach kws X.env)).filterMap (·.1) = ks := by rfl)
    (hdb : (x == ("__debug__" : Str)) = false := by decide) (he : starEach (e :: es) X.env = (false, eval e X.env) :: starEach es X.env := by rfl)
    (hpl : ((backTo pos (starEach (e :: es) X.env)).any (·.1) || (backToKw pos (keywordEach kws X.env)).any (·.1.isNone)) = false := by rfl) (hK₁ : X.K = K₁ := by first | exact blkK2 | exact blkK | exact rfl) :
    PP X C (.Call (.Name x p) (e :: es) kws pos) (tCallN n ks.length (spG K₁ vol' G' (n + ks.length) Φ) (fun vs zs => vs ++ zs) E0 t tk) (mCallK Φ m km) := by subst hK₁; exact (⟨pe_callN F hr hg hm hk hb pass0 ha.pe hkw.pe hall hks hdb he hpl, by
  intro S H σ ρ P Q rl hmm kk
  refine ha.rd S H σ ρ _ _ rl hmm fun as S1 H1 vs p1 ln s1 g1 r1 => ?_
  refine hkw.rd S1 H1 σ ρ _ _ (rl.step s1 g1) p1 fun bs S2 H2 zs p2 ln2 s2 g2 r2 => ?_
  have r1' : ArgsOk X.K S2 vs as := paired_mono r1 fun _ _ z => z.mono s2.ss
  refine ⟨by rw [paired_len r1, ln], by rw [paired_len r2, ln2], S2, as ++ bs, P, _, by rw [List.length_append, ln, ln2], args_app r1' r2, cp.in_ _ _ g2, p2, fun d S' H' v pd s g q => ?_, fun _ _ _ _ _ z => z.elim⟩
  obtain ⟨s3, g3⟩ := cp.out _ _ _ _ g2 s g
  exact kk d S' H' v pd ((s1.trans g1 s2).trans g2 s3) g3 q⟩)
end

/-! ### tables of code objects, the well -/
abbrev NTab := NdefX.NTab
def vT (T : List NTab) : Addr → Prop := fun a => ∃ p ∈ T, p.1 = a
def gT (T : List NTab) : Hp → Prop := NdefX.TabsN T
theorem gT_keep {T : List NTab} {H H' : Hp} (h : gT T H) (k : ∀ a o, H a = some o → (vT T a ∨ ∃ c q, o = LamX.CodeO c q) → H' a = some o) : gT T H' := fun p hp => by
  obtain ⟨ps, h1, h2, h3⟩ := h p hp
  refine ⟨ps, k _ _ h1 (.inl ⟨p, hp, rfl⟩), h2, fun pos cv hc => ?_⟩
  obtain ⟨c, e1, e2⟩ := h3 pos cv hc
  exact ⟨c, e1, k _ _ e2 (.inr ⟨_, _, rfl⟩)⟩
theorem gstT (T : List NTab) : GSt (vT T) (gT T) := fun H H' h k => gT_keep h k
theorem gT_tbl {T : List NTab} {H : Hp} (h : gT T H) {a : Addr} (v : vT T a) : ∃ ps, H a = some (.tbl ps) := by
  obtain ⟨p, hp, rfl⟩ := v
  obtain ⟨ps, h1, _⟩ := h p hp
  exact ⟨ps, h1⟩
/-- the well at w: three whole numbers -/
def vW (T : List NTab) (w : Addr) : Addr → Prop := fun a => vT T a ∨ a = w
def WellIn (w : Addr) (H : Hp) : Prop := ∃ a b c : Int, 0 ≤ a ∧ 0 ≤ b ∧ 0 ≤ c ∧ H w = some (.lst [.int a, .int b, .int c])
def gW (T : List NTab) (w : Addr) : Hp → Prop := fun H => gT T H ∧ WellIn w H
theorem gstW (T : List NTab) (w : Addr) : GSt (vW T w) (gW T w) := fun H H' h k => by
  obtain ⟨h1, a, b, c, ha, hb, hc, hw⟩ := h
  exact ⟨gT_keep h1 fun l o e z => k l o e (z.elim (fun v => .inl (.inl v)) .inr), a, b, c, ha, hb, hc, k _ _ hw (.inl (.inr rfl))⟩
/-- a def that knows no well, called where there is one -/
theorem cpW {T : List NTab} {w : Addr} : Compat (vW T w) (gW T w) (vT T) (gT T) := by
  refine ⟨fun S H g => ⟨g.sub, g.g.1, fun a v => g.vs a (.inl v), fun a v => g.vh a (.inl v), g.sz, g.tp⟩, fun S H S' H' g s g' => ?_⟩
  have nw : ¬ vT T w := fun v => by
    obtain ⟨ps, e⟩ := gT_tbl g.g.1 v
    obtain ⟨a, b, c, _, _, _, hw⟩ := g.g.2
    rw [e] at hw
    cases hw
  obtain ⟨a, b, c, ha, hb, hc, hw⟩ := g.g.2
  have hw' := s.hh w _ nw hw
  have sw : S' w = none := by
    cases e : S' w with
    | none => rfl
    | some o =>
      rcases s.nw w o e with z | z
      · rw [g.vs w (.inr rfl)] at z; cases z
      · rw [hw] at z; cases z
  refine ⟨⟨s.ss, fun l o nv e nt => s.hx l o (fun v => nv (.inl v)) e nt, s.nw, s.dm⟩, g'.sub, ⟨g'.g, a, b, c, ha, hb, hc, hw'⟩, fun l v => ?_, fun l v => ?_, g'.sz, g'.tp⟩
  · rcases v with v | rfl
    · exact g'.vs l v
    · exact sw
  · rcases v with v | rfl
    · exact g'.vh l v
    · rw [hw']; exact fun z => nomatch z
/-- the names of the builtins are none of the module's -/
structure Blt (mg : Str → Option Value) : Prop where
  len : mg "len" = Option.none
  int : mg "int" = Option.none
  abs : mg "abs" = Option.none
  all : mg "all" = Option.none
  any : mg "any" = Option.none
  sum : mg "sum" = Option.none
  min : mg "min" = Option.none
  max : mg "max" = Option.none
  tuple : mg "tuple" = Option.none
  list : mg "list" = Option.none
  bool : mg "bool" = Option.none
  str : mg "str" = Option.none
  dict : mg "dict" = Option.none
  set : mg "set" = Option.none
  divmod : mg "divmod" = Option.none
  isinstance : mg "isinstance" = Option.none
  range : mg "range" = Option.none
  enumerate : mg "enumerate" = Option.none
  zip : mg "zip" = Option.none
  sorted : mg "sorted" = Option.none
  repr : mg "repr" = Option.none
theorem _root_.L2.Room.u1 {k : Nat} {A : Around} (r : Room k A) : A.units + 1 < cLine := by have := r.un; omega
theorem _root_.L2.Room.u65 {k : Nat} {A : Around} (r : Room k A) : A.units + 65 < cLine := by have := r.un; omega
/-- a name of the module that stands for a fixed number or text -/
def vOf : D → V
  | .int i => .int i
  | .str x => .str x
  | .bool b => .bl b
  | _ => .non
def GVal (K : PySem.W.Frag) (mg : Str → Option Value) (x : Str) (d : D) : Prop := (∃ u, mg x = some u ∧ RelV (vOf d) u) ∧ ∀ S, Rep K S (vOf d) d
/-- .. for a tuple -/
structure GTup (K : PySem.W.Frag) (mg : Str → Option Value) (x : Str) (a : Addr) (d : D) : Prop where
  m : mg x = some (.ref a)
  r : ∀ S, Rep K S (.ref a) d
section
variable {X : Cx} {C : GC X.K} {pos : Pos} {x : Str} {d : D} {a : Addr}
theorem p_gv (h : GVal X.K X.mg x d) (hg : Gl X x := by rfl) (hd : (x == ("__debug__" : Str)) = false := by decide) : PP X C (.Name x pos) (tC (vOf d)) (mC d) := p_glob h.1.choose_spec.1 h.1.choose_spec.2 h.2 hg hd
theorem p_gtup (h : GTup X.K X.mg x a d) (hg : Gl X x := by rfl) (hd : (x == ("__debug__" : Str)) = false := by decide) : PP X C (.Name x pos) (tC (.ref a)) (mC d) := p_glob h.m rfl h.r hg hd
end
end Pu

set_option Elab.async false
set_option linter.all false
set_option maxRecDepth 100000
set_option maxHeartbeats 4000000
/-! Pure readings: enumerate and zip over lists and tuples alike, range of two, list + list. -/
namespace Pu
open PySem PySem.Spec L2
open PyProof.Rows hiding St
/-! ### a list (false) or a tuple (true) -/
def SqB (tb : Bool) (K : PySem.W.Frag) (H : Hp) (a : Addr) (xs : List V) : Prop := match tb with
  | false => SqL K H a xs
  | true => SqT K H a xs
def heldB (tb : Bool) (h : Heap) (a : Addr) (us : Array Value) : Prop := match tb with
  | false => h.IsList a us
  | true => h.IsTuple a us
def onB (tb : Bool) (h : Heap) (it a : Addr) (i : Nat) : Prop := match tb with
  | false => h.IsListIter it a i
  | true => h.IsTupleIter it a i
def itoB (tb : Bool) (a : Addr) : Obj := match tb with
  | false => { cls := .type "list_iterator", data := .fields #[.ref a, .int 0 0] }
  | true => { cls := .type "tuple_iterator", data := .fields #[.ref a, .int 0 0] }
theorem heldB_lt {tb : Bool} {h : Heap} {a : Addr} {us : Array Value} (q : heldB tb h a us) : a < h.objs.size := by
  cases tb with
  | false => obtain ⟨o, e, _⟩ := q; exact Heap.lt_size e
  | true => obtain ⟨o, e, _⟩ := q; exact Heap.lt_size e
theorem onB_obj {tb : Bool} {h : Heap} {it a : Addr} {i : Nat} (q : onB tb h it a i) : ∃ o, h.get? it = some o ∧ ∀ v, o.data ≠ .cell v := by
  cases tb with
  | false => obtain ⟨o, e, _, d⟩ := q; exact ⟨o, e, fun v z => by rw [d] at z; cases z⟩
  | true => obtain ⟨o, e, _, d⟩ := q; exact ⟨o, e, fun v z => by rw [d] at z; cases z⟩
theorem onB_at {tb : Bool} {h h' : Heap} {it a : Addr} {i : Nat} (q : onB tb h it a i) (k : ∀ o, h.get? it = some o → h'.get? it = some o) : onB tb h' it a i := by
  cases tb with
  | false => exact Heap.IsListIter.at q k
  | true => exact Heap.IsTupleIter.at q k
theorem onB_new {tb : Bool} {h : Heap} {it a : Addr} (e : h.get? it = some (itoB tb a)) : onB tb h it a 0 := by
  cases tb with
  | false => exact ⟨_, e, rfl, rfl⟩
  | true => exact ⟨_, e, rfl, rfl⟩
theorem drawsB (tb : Bool) {P : Program} {w : World} {A : Around} (hh : A.handled = none) {it a : Addr} (hne : a ≠ it) (us : Array Value) : Draws P w A it [it, a] us.size (fun i v => us[i]? = some v) (fun i h => onB tb h it a i ∧ heldB tb h a us) := by
  cases tb with
  | false => exact Draws.list hh it a hne us
  | true => exact Draws.tuple hh it a hne us
theorem beginsB (tb : Bool) (a : Addr) (us : Array Value) : Begins (.ref a) (itoB tb a) fun h => heldB tb h a us := by
  cases tb with
  | false => exact begins_list a us
  | true => exact begins_tuple a us
section
variable {X : Cx} {pins : List (Addr × Obj)} {σ : L2.St} {H : Hp} {s : Shared} {a : Addr} {xs ys : List V} {tb : Bool}
theorem seqB (I : Inv X pins σ H s) (h : SqB tb X.K H a xs) : ∃ its : List Value, Vals xs its ∧ heldB tb s.heap a its.toArray ∧ xs.length ≤ sizeLine := by
  cases tb with
  | false => obtain ⟨its, r, p, z⟩ := I.list h; exact ⟨its, r, p.isList, z⟩
  | true => obtain ⟨its, r, p, z⟩ := I.tuple h; exact ⟨its, r, p, z⟩
theorem injB (I : Inv X pins σ H s) (h : SqB tb X.K H a xs) (h' : SqB tb X.K H a ys) : xs = ys := by
  cases tb with
  | false => exact I.list_inj h h'
  | true => exact I.tuple_inj h h'
end
/-! ### enumerate -/
def ItEn (tb : Bool) (K : PySem.W.Frag) (a : Addr) : It :=
  ⟨fun i H => ∃ (xs : List V) (x : V), SqB tb K H a xs ∧ xs[i]? = some x,
   fun i H v H' => ∃ T o x, v = .ref T ∧ H T = none ∧ o.dict = none ∧ H' = upd H T (.frz o (.tup [.int (i : Nat), x])) ∧ ∀ xs, SqB tb K H a xs → xs[i]? = some x,
   fun i H => ∃ xs : List V, SqB tb K H a xs ∧ xs.length = i⟩
theorem turn_en {P : Program} {w : World} {K : PySem.W.Frag} {elts : List Expr} {kk : Nat} {tpos : Pos} (tb : Bool) (a e it : Addr) :
    Turn P w K (.Tuple elts kk tpos) (ItEn tb K a) [e, it] e (fun i h => (∃ old, IsEnum h e it ((i : Nat) : Int) old) ∧ onB tb h it a i ∧ e ≠ it ∧ e ≠ a ∧ a ≠ it) where
  mem := List.mem_cons_self ..
  obj := fun i h z c hc => by
    obtain ⟨⟨old, q1⟩, q2, _⟩ := z
    rcases List.mem_cons.mp hc with q | q
    · rw [q]; exact ⟨_, q1, fun v y => nomatch y⟩
    · rw [List.mem_singleton.mp q]; exact onB_obj q2
  keep := fun i h h' z k => by
    obtain ⟨⟨old, q1⟩, q2, q3⟩ := z
    exact ⟨⟨old, k e (by simp) _ q1⟩, onB_at q2 fun o y => k it (by simp) o y, q3⟩
  item := by
    intro X hP hw hK hc i pins s σ H E I hf z hg
    subst hP hw hK
    obtain ⟨⟨old, q1⟩, q2, n1, n2, n3⟩ := z
    obtain ⟨xs, x, hq, hx⟩ := hg
    obtain ⟨us, rv, held, _⟩ := seqB I hq
    obtain ⟨u, hu, ru⟩ := rv.get hx
    have lt1 : e < s.heap.objs.size := Heap.lt_size q1
    have lt2 : it < s.heap.objs.size := by obtain ⟨o, y, _⟩ := onB_obj q2; exact Heap.lt_size y
    have hsz : i < us.toArray.size := by
      obtain ⟨y, _⟩ := List.getElem?_eq_some_iff.mp hu
      simpa using y
    have hmem : e ∉ [it, a] := by simp [n1, n2]
    refine wpAny_pyNext_enum_itemC (drawsB tb (A := X.A.in1) (I.ok.hd hc) n3 us.toArray) q1 ⟨q2, held⟩ hsz n1 hmem fun y h' tk hy ho st' hT hz hk => ?_
    have ey : y = u := by
      have y1 : us.toArray[i]? = some u := by simpa using hu
      rw [y1] at hy
      exact (Option.some.inj hy).symm
    rw [ey] at ho hT
    refine ⟨_, rfl, wpAny_letOwnedTupleGo_enum (s := { s with heap := h', toks := tk + 1 }) ho fun h2 ho2 sb => ?_⟩
    have hT2 := (sb.2 s.heap.objs.size (Nat.ne_of_gt lt1)).trans hT
    have fresh : H s.heap.objs.size = none := I.hok.fresh (Nat.le_refl _)
    have J : Inv X pins σ (upd H s.heap.objs.size (.frz (tupO [.int i tk, u]) (.tup [.int (i : Nat), x]))) { s with heap := h2, toks := tk + 1 } := by
      refine I.turnedNew (ch := [e, it]) (fun b o hb y => ?_) hf (Nat.le_refl _) ⟨hT2, by show 2 ≤ sizeLine; decide, [.int i tk, u], .cons ⟨_, rfl⟩ (.cons ru .nil), ⟨_, hT2, rfl, _, rfl⟩⟩
      have b1 : b ≠ e := fun z => hb (by simp [z])
      have b2 : b ≠ it := fun z => hb (by simp [z])
      exact (sb.2 b b1).trans (hk b o b1 b2 y)
    refine ⟨.ref s.heap.objs.size, _, J, rfl, ⟨_, _, x, rfl, fresh, rfl, rfl, fun ys hy => by rw [injB I hy hq]; exact hx⟩, ⟨⟨u, ?_⟩, onB_at st'.1 fun o y => (sb.2 it (Ne.symm n1)).trans y, n1, n2, n3⟩, fun b hb => ?_⟩
    · rw [show ((i + 1 : Nat) : Int) = (i : Int) + 1 from by omega]
      exact ho2
    · have lt3 : b < s.heap.objs.size := by
        rcases List.mem_cons.mp hb with q | q
        · rw [q]; exact lt1
        · rw [List.mem_singleton.mp q]; exact lt2
      rw [upd_ne (Nat.ne_of_lt lt3)]
      exact (hf b hb).1
  done := by
    intro X hP hw hK hc i pins s σ H E I hf z hg
    subst hP hw hK
    obtain ⟨⟨old, q1⟩, q2, n1, n2, n3⟩ := z
    obtain ⟨xs, hq, hx⟩ := hg
    obtain ⟨us, rv, held, _⟩ := seqB I hq
    have hn : us.toArray.size = i := by rw [List.size_toArray, ← rv.length, hx]
    refine wpAny_pyNext_enum_endD (drawsB tb (A := X.A.in1) (I.ok.hd hc) n3 us.toArray) q1 (by rw [hn]; exact ⟨q2, held⟩) fun h' eb => ⟨rfl, ?_⟩
    obtain ⟨f0, f1, f2, f3, f4, f5⟩ := hf it (by simp)
    exact I.turned (t' := s.toks) (fun b o hb y => eb b o hb y) f0 f1 f3 f4 f5
  self := fun A i s Q E z h => let ⟨⟨_, q1⟩, _⟩ := z; wpAny_pyIter_enum q1 h
theorem meets_enum1 {v : Value} {o : Obj} {Hh : Heap → Prop} (B : Begins v o Hh) :
    Meets (Builtin.«enumerate.__new__» ⟨[.type "enumerate", v], []⟩) (fun _ R s => Hh s.heap ∧ R (.ok (.ret (.ref (s.heap.push o).objs.size)))
      { s with heap := (s.heap.push o).push { cls := .type "enumerate", data := .fields #[.none, .bool false, .ref s.heap.objs.size, rawInt 0, .none, .none] } }) :=
  .of_wp fun prog w A R s h => by
    obtain ⟨hp, gg, dd, tk, os⟩ := s
    obtain ⟨b1, h⟩ := h
    have sub := sub_enumerate
    have go : ∀ {A' : Around} {E : Value → Shared → Prop} {Q : Value → Shared → Prop}, Q (.ref hp.objs.size) ⟨hp.push o, gg, dd, tk, os⟩ → wpAny (model prog w) A' (pyIter v) Q E ⟨hp, gg, dd, tk, os⟩ := fun q => B.iter _ _ _ _ _ _ b1 q
    wp_walk using go
    refine wpAny_stack_any fun st => wpAny_pure ?_
    split
    · rename_i c _ _ _ _ _
      cases (c == Value.type "enumerate") <;> (wp_walk using go; exact ⟨_, rfl, h⟩)
    · (wp_walk using go; exact ⟨_, rfl, h⟩)
theorem call_enum1 {prog : Program} {w : World} {A : Around} {E : Value → Shared → Prop} {s : Shared} {v : Value} {o : Obj} {Hh : Heap → Prop} {Q : Value → Shared → Prop} (B : Begins v o Hh) (h1 : Hh s.heap)
    (h : ∀ h', IsEnum h' (s.heap.objs.size + 1) s.heap.objs.size 0 .none → h'.get? s.heap.objs.size = some o → (∀ b u, s.heap.get? b = some u → h'.get? b = some u) → Q (.ref (s.heap.objs.size + 1)) { s with heap := h' }) :
    wpAny (model prog w) A (call (.type "enumerate") [v]) Q E s := by
  refine callType_new F.called_enumerate (by decide) (F.typeCall_enumerate_1 _) (F.newCall_enumerate_1 _) (fun obj => F.args_object_init_2 obj _) F.entry_enumerate_new (meets_enum1 B) ⟨h1, ?_⟩
  have sz : (s.heap.push o).objs.size = s.heap.objs.size + 1 := Heap.size_push ..
  show _ ∧ _
  rw [sz]
  have q1 : IsEnum ((s.heap.push o).push { cls := .type "enumerate", data := .fields #[.none, .bool false, .ref s.heap.objs.size, rawInt 0, .none, .none] }) (s.heap.objs.size + 1) s.heap.objs.size 0 .none := by
    have y := Heap.get?_push_size (s.heap.push o) (o := { cls := .type "enumerate", data := .fields #[.none, .bool false, .ref s.heap.objs.size, rawInt 0, .none, .none] }) rfl
    rw [sz] at y
    exact y
  exact ⟨⟨_, q1, rfl⟩, h _ q1 (Heap.get?_push_of_some _ (Heap.get?_push_size _ B.free)) fun b u y => Heap.get?_push_of_some _ (Heap.get?_push_of_some _ y)⟩
def iEnB (tb : Bool) (K : PySem.W.Frag) (ta : TA) : TI := fun σ H R => ta σ H fun vs H1 => ∃ a xs, vs = [.ref a] ∧ SqB tb K H1 a xs ∧ R (ItEn tb K a) H1
theorem pi_enB {X : Cx} {e : Expr} {ta : TA} {p pos tpos : Pos} {elts : List Expr} {kk : Nat} (tb : Bool) (hg : Gl X "enumerate") (hm : X.mg "enumerate" = none) (ha : PA X [e] ta) (hs : starEach [e] X.env = [(false, eval e X.env)]) :
    PI X (.Tuple elts kk tpos) (.Call (.Name "enumerate" p) [e] [] pos) (iEnB tb X.K ta) := by
  refine ⟨fun pins s σ H R I h => Call_ (ld_blt I hg hm boot_enumerate (PyProof.Rows.callWith_type1 (thn (ha.run pos pins s σ H _ I h) fun us s1 ⟨vs, H1, I1, r1, q1⟩ => ?_) hs rfl))⟩
  obtain ⟨a, xs, rfl, hq, q⟩ := q1
  obtain ⟨u, rfl, r⟩ := vals1 r1
  cases r
  obtain ⟨us, rv, held, _⟩ := seqB I1 hq
  refine call_enum1 (beginsB tb a us.toArray) held fun h' q1 q2 hk => wpAny_pyIter_enum q1 ?_
  have I2 : Inv X pins σ H1 { s1 with heap := h' } := I1.kept (t' := s1.toks) hk
  have lt := heldB_lt held
  refine ⟨_, [s1.heap.objs.size + 1, s1.heap.objs.size], _, _, H1, rfl, I2, turn_en tb a (s1.heap.objs.size + 1) s1.heap.objs.size, ⟨⟨.none, q1⟩, onB_new q2, Nat.succ_ne_self _, Nat.ne_of_gt (Nat.lt_succ_of_lt lt), Nat.ne_of_lt lt⟩, fun b hb => ?_, q⟩
  have le : s1.heap.objs.size ≤ b := by
    rcases List.mem_cons.mp hb with z | z
    · rw [z]; exact Nat.le_succ _
    · rw [List.mem_singleton.mp z]; exact Nat.le_refl _
  exact I1.fpOk le (I1.hok.fresh le)
/-! ### zip -/
def ItZp (t1 t2 : Bool) (K : PySem.W.Frag) (a b : Addr) : It :=
  ⟨fun i H => ∃ (xs ys : List V) (x y : V), SqB t1 K H a xs ∧ SqB t2 K H b ys ∧ xs[i]? = some x ∧ ys[i]? = some y,
   fun i H v H' => ∃ T o x y, v = .ref T ∧ H T = none ∧ o.dict = none ∧ H' = upd H T (.frz o (.tup [x, y])) ∧ (∀ xs, SqB t1 K H a xs → xs[i]? = some x) ∧ ∀ ys, SqB t2 K H b ys → ys[i]? = some y,
   fun i H => ∃ xs ys : List V, SqB t1 K H a xs ∧ SqB t2 K H b ys ∧ i ≤ xs.length ∧ i ≤ ys.length ∧ (i = xs.length ∨ i = ys.length)⟩
theorem turn_zp {P : Program} {w : World} {K : PySem.W.Frag} {elts : List Expr} {kk : Nat} {tpos : Pos} (t1 t2 : Bool) {a b z TI TO i1 i2 : Addr} (Z : ZipSep2 z TI TO i1 i2 [i1, a] [i2, b]) :
    Turn P w K (.Tuple elts kk tpos) (ItZp t1 t2 K a b) [z, TI, TO, i1, i2] z (fun i h => IsZip h z TI TO .none ∧ IsTupOf2 h TI (.ref i1) (.ref i2) ∧ (∃ x y, IsTupOf2 h TO x y) ∧ onB t1 h i1 a i ∧ onB t2 h i2 b i ∧ a ≠ i1 ∧ b ≠ i2 ∧ i1 ≠ i2) where
  mem := List.mem_cons_self ..
  obj := fun i h q c hc => by
    obtain ⟨hz, hTI, ⟨x, y, hTO⟩, h1, h2, _⟩ := q
    simp only [List.mem_cons, List.not_mem_nil, or_false] at hc
    rcases hc with q | q | q | q | q <;> subst q
    · exact ⟨_, hz, fun v q => nomatch q⟩
    · exact ⟨_, hTI, fun v q => nomatch q⟩
    · exact ⟨_, hTO, fun v q => nomatch q⟩
    · exact onB_obj h1
    · exact onB_obj h2
  keep := fun i h h' q k => by
    obtain ⟨hz, hTI, ⟨x, y, hTO⟩, h1, h2, r⟩ := q
    exact ⟨k z (by simp) _ hz, k TI (by simp) _ hTI, ⟨x, y, k TO (by simp) _ hTO⟩, onB_at h1 fun o q => k i1 (by simp) o q, onB_at h2 fun o q => k i2 (by simp) o q, r⟩
  item := by
    intro X hP hw hK hc i pins s σ H E I hf q hg
    subst hP hw hK
    obtain ⟨hz, hTI, ⟨x0, y0, hTO⟩, h1, h2, n1, n2, n12⟩ := q
    obtain ⟨xs, ys, x, y, qx, qy, hx, hy⟩ := hg
    obtain ⟨us, rv, held, _⟩ := seqB I qx
    obtain ⟨us', rv', held', _⟩ := seqB I qy
    obtain ⟨u, hu, ru⟩ := rv.get hx
    obtain ⟨u', hu', ru'⟩ := rv'.get hy
    have lz : z < s.heap.objs.size := Heap.lt_size hz
    have s1 : i < us.toArray.size := by obtain ⟨q, _⟩ := List.getElem?_eq_some_iff.mp hu; simpa using q
    have s2 : i < us'.toArray.size := by obtain ⟨q, _⟩ := List.getElem?_eq_some_iff.mp hu'; simpa using q
    refine wpAny_pyNext_zipD2_item Z (drawsB t1 (A := X.A.in1) (I.ok.hd hc) n1 us.toArray) (drawsB t2 (A := X.A.in1) (I.ok.hd hc) n2 us'.toArray) hz hTI hTO ⟨h1, held⟩ ⟨h2, held'⟩ s1 s2 fun x1 x2 h' tk p1 p2 z' TO' st1 st2 hT hsz hk => ?_
    have e1 : x1 = u := by
      have y1 : us.toArray[i]? = some u := by simpa using hu
      rw [y1] at p1; exact (Option.some.inj p1).symm
    have e2 : x2 = u' := by
      have y1 : us'.toArray[i]? = some u' := by simpa using hu'
      rw [y1] at p2; exact (Option.some.inj p2).symm
    subst e1 e2
    refine ⟨_, rfl, wpAny_letOwnedTupleGo_zip (s := { s with heap := h', toks := tk }) z' fun h'' z'' sb => ?_⟩
    have hT2 := (sb.2 s.heap.objs.size (Nat.ne_of_gt lz)).trans hT
    have J : Inv X pins σ (upd H s.heap.objs.size (.frz (tupO [x1, x2]) (.tup [x, y]))) { s with heap := h'', toks := tk } := by
      refine I.turnedNew (ch := [z, TI, TO, i1, i2]) (fun c o hb q => ?_) hf (Nat.le_refl _) ⟨hT2, by show 2 ≤ sizeLine; decide, [x1, x2], .cons ru (.cons ru' .nil), ⟨_, hT2, rfl, _, rfl⟩⟩
      simp only [List.mem_cons, List.not_mem_nil, or_false, not_or] at hb
      exact (sb.2 c hb.1).trans (hk c o hb.1 hb.2.2.1 hb.2.2.2.1 hb.2.2.2.2 q)
    have i1z : i1 ≠ z := Ne.symm (ZipSep2.zi1 Z)
    have i2z : i2 ≠ z := Ne.symm (ZipSep2.zi2 Z)
    refine ⟨.ref s.heap.objs.size, _, J, rfl, ⟨_, _, x, y, rfl, I.hok.fresh (Nat.le_refl _), rfl, rfl, fun l hl => by rw [injB I hl qx]; exact hx, fun l hl => by rw [injB I hl qy]; exact hy⟩, ⟨z'', ?_, ⟨x1, x2, ?_⟩, ?_, ?_, n1, n2, n12⟩, fun c hcm => ?_⟩
    · exact (sb.2 _ Z.TIz).trans (hk _ _ Z.TIz Z.TITO Z.TIi1 Z.TIi2 hTI)
    · exact (sb.2 _ Z.TOz).trans TO'
    · exact onB_at st1.1 fun o q => (sb.2 _ i1z).trans q
    · exact onB_at st2.1 fun o q => (sb.2 _ i2z).trans q
    · have lt : c < s.heap.objs.size := by
        simp only [List.mem_cons, List.not_mem_nil, or_false] at hcm
        rcases hcm with q | q | q | q | q <;> subst q
        · exact lz
        · exact Heap.lt_size hTI
        · exact Heap.lt_size hTO
        · obtain ⟨_, e, _⟩ := onB_obj h1; exact Heap.lt_size e
        · obtain ⟨_, e, _⟩ := onB_obj h2; exact Heap.lt_size e
      rw [upd_ne (Nat.ne_of_lt lt)]
      exact (hf c hcm).1
  done := by
    intro X hP hw hK hc i pins s σ H E I hf q hg
    subst hP hw hK
    obtain ⟨hz, hTI, ⟨x0, y0, hTO⟩, h1, h2, n1, n2, n12⟩ := q
    obtain ⟨xs, ys, qx, qy, b1, b2, b3⟩ := hg
    obtain ⟨us, rv, held, _⟩ := seqB I qx
    obtain ⟨us', rv', held', _⟩ := seqB I qy
    have l1 : us.toArray.size = xs.length := by rw [List.size_toArray, rv.length]
    have l2 : us'.toArray.size = ys.length := by rw [List.size_toArray, rv'.length]
    refine wpAny_pyNext_zipD2_end Z (drawsB t1 (A := X.A.in1) (I.ok.hd hc) n1 us.toArray) (drawsB t2 (A := X.A.in1) (I.ok.hd hc) n2 us'.toArray) hz hTI hTO ⟨h1, held⟩ ⟨h2, held'⟩ (by omega) (by omega) (by omega) fun h' tk hk => ⟨rfl, ?_⟩
    refine I.turnedL (t' := tk) (ch := [z, TI, TO, i1, i2]) (fun c o hb q => ?_) hf
    simp only [List.mem_cons, List.not_mem_nil, or_false, not_or] at hb
    exact hk c o hb.1 hb.2.2.1 hb.2.2.2.1 hb.2.2.2.2 q
  self := fun A i s Q E q h => wpAny_pyIter_zip q.1 h
theorem sep_new (I l1 l2 : Nat) (h1 : l1 < I) (h2 : l2 < I) : ZipSep2 (I + 4) (I + 2) (I + 3) I (I + 1) [I, l1] [I + 1, l2] := by
  have ne : ∀ {x y : Nat}, x ≠ y → (x : Addr) ≠ (y : Addr) := fun h => h
  have no : ∀ {x y z : Nat}, x ≠ y → x ≠ z → (x : Addr) ∉ ([y, z] : List Addr) := fun h1 h2 q => by
    rcases List.mem_cons.mp q with q | q
    · exact h1 q
    · exact h2 (List.mem_singleton.mp q)
  exact ⟨ne (by omega), ne (by omega), ne (by omega), ne (by omega), List.mem_cons_self .., no (by omega) (by omega), no (by omega) (by omega), ne (by omega), List.mem_cons_self .., no (by omega) (by omega), no (by omega) (by omega), no (by omega) (by omega), no (by omega) (by omega)⟩
def iZpB (t1 t2 : Bool) (K : PySem.W.Frag) (ta : TA) : TI := fun σ H R => ta σ H fun vs H1 => ∃ a b xs ys, vs = [.ref a, .ref b] ∧ SqB t1 K H1 a xs ∧ SqB t2 K H1 b ys ∧ R (ItZp t1 t2 K a b) H1
theorem pi_zpB {X : Cx} {e e2 : Expr} {ta : TA} {p pos tpos : Pos} {elts : List Expr} {kk : Nat} (t1 t2 : Bool) (hg : Gl X "zip") (hm : X.mg "zip" = none) (ha : PA X [e, e2] ta)
    (hs : starEach [e, e2] X.env = (false, eval e X.env) :: starEach [e2] X.env) (hpl : (backTo pos (starEach [e2] X.env)).any (·.1) = false) :
    PI X (.Tuple elts kk tpos) (.Call (.Name "zip" p) [e, e2] [] pos) (iZpB t1 t2 X.K ta) := by
  refine ⟨fun pins s σ H R I h => Call_ (ld_blt I hg hm PyProof.Rows.boot_zip (PyProof.Rows.callWith_type1 (thn (ha.run pos pins s σ H _ I h) fun us s1 ⟨vs, H1, I1, r1, q1⟩ => ?_) hs hpl))⟩
  obtain ⟨a, b, xs, ys, rfl, hqx, hqy, q⟩ := q1
  cases r1 with
  | cons r rr =>
    obtain ⟨u, rfl, r'⟩ := vals1 rr
    cases r
    cases r'
    obtain ⟨us, rv, held, _⟩ := seqB I1 hqx
    obtain ⟨us', rv', held', _⟩ := seqB I1 hqy
    refine zip_begins2 (beginsB t1 a us.toArray) (beginsB t2 b us'.toArray) held held' fun h' hz hTI hTO o1 o2 hsz hk => wpAny_pyIter_zip hz ?_
    have I2 : Inv X pins σ H1 { s1 with heap := h' } := I1.kept (t' := s1.toks) hk
    have la := heldB_lt held
    have lb := heldB_lt held'
    refine ⟨_, [s1.heap.objs.size + 4, s1.heap.objs.size + 2, s1.heap.objs.size + 3, s1.heap.objs.size, s1.heap.objs.size + 1], _, _, H1, rfl, I2, turn_zp t1 t2 (sep_new _ a b la lb), ⟨hz, hTI, ⟨_, _, hTO⟩, onB_new o1, onB_new o2, Nat.ne_of_lt la, Nat.ne_of_lt (Nat.lt_succ_of_lt lb), Nat.ne_of_lt (Nat.lt_succ_self _)⟩, fun c hcm => ?_, q⟩
    have le : s1.heap.objs.size ≤ c := by
      simp only [List.mem_cons, List.not_mem_nil, or_false] at hcm
      rcases hcm with z | z | z | z | z <;> subst z <;> omega
    exact I1.fpOk le (I1.hok.fresh le)
end Pu

set_option Elab.async false
set_option linter.all false
set_option maxRecDepth 100000
set_option maxHeartbeats 4000000
/-! Pure readings: enumerate, zip, range(a, b), list + list, sorted, list(..), index, split. -/
namespace Pu
open PySem PySem.Spec L2
open PyProof.Rows hiding St
section
variable {X : Cx} {C : GC X.K} {a b e : Expr} {elts es : List Expr} {ta tb te : TE} {ma mb me : ME} {pos p tpos : Pos} {kk : Nat} {t : TA}
theorem pair_new {S H : Hp} {T : Addr} {o : Obj} {vs : List V} {ds : List D} (g : Good C.vol C.G S H) (h : DpAll X.K S vs ds) (hz : vs.length ≤ sizeLine) (hT : H T = none) (ho : o.dict = none) :
    ∃ S', Stp C.vol S H S' (upd H T (.frz o (.tup vs))) ∧ Good C.vol C.G S' (upd H T (.frz o (.tup vs))) ∧ Rep X.K S' (.ref T) (.tuple ds) := by
  obtain ⟨g2, s2⟩ := g.new C.gst hT (o := .frz o (.tup vs)) hz ho
  exact ⟨_, s2, g2, Dp.tup (.inl (.inr ⟨o, upd_same⟩)) (DpAll.mono s2.ss h)⟩
def itemsB : Bool → D → Option (List D)
  | false, .list ds => some ds
  | true, .tuple ds => some ds
  | _, _ => none
theorem SqB.mono {K : PySem.W.Frag} {S S' : Hp} (e : Same S S') {b : Bool} {a : Addr} {xs : List V} (h : SqB b K S a xs) : SqB b K S' a xs := by
  cases b with
  | false => exact SqL.mono e h
  | true => exact SqT.mono e h
/-- what a value of that kind is -/
theorem rep_seq {S H : Hp} {b : Bool} {v : V} {d : D} {ds : List D} (g : Good C.vol C.G S H) (h : Rep X.K S v d) (e : itemsB b d = some ds) : ∃ l vs, v = .ref l ∧ SqB b X.K S l vs ∧ DpAll X.K S vs ds ∧ ds.length ≤ sizeLine ∧ vs.length = ds.length := by
  cases b with
  | false =>
    cases d with
    | list es =>
      cases e
      have h' : Dp X.K S v (.list ds) := h
      cases h' with
      | lst hs ha =>
        obtain ⟨_, _, e1, ha2, _, hz⟩ := (RepH.of g h).lst g
        have l1 := DpAll.length ha
        have l2 := DpAll.length ha2
        exact ⟨_, _, rfl, hs, ha, by omega, by omega⟩
    | _ => cases e
  | true =>
    cases d with
    | tuple es =>
      cases e
      obtain ⟨l, vs, rfl, ha, hs, hz⟩ := (RepH.of g h).tup g
      have l1 := DpAll.length ha
      exact ⟨l, vs, rfl, hs, ha, by omega, l1⟩
    | _ => cases e
/-! ### enumerate -/
def enumD : Nat → List D → List D
  | _, [] => []
  | i, d :: ds => .tuple [.int (i : Nat), d] :: enumD (i + 1) ds
theorem enumD_len : ∀ (i : Nat) (ds : List D), (enumD i ds).length = ds.length
  | _, [] => rfl
  | i, d :: ds => by rw [enumD, List.length_cons, enumD_len (i + 1) ds, List.length_cons]
theorem enumD_at : ∀ (i j : Nat) (ds : List D) (d : D), ds[j]? = some d → (enumD i ds)[j]? = some (.tuple [.int ((i + j : Nat) : Int), d])
  | _, _, [], _, h => by simp at h
  | i, 0, d :: ds, _, h => by simp at h; subst h; rfl
  | i, j + 1, d :: ds, x, h => by
    have q := enumD_at (i + 1) j ds x (by simpa using h)
    rw [show i + (j + 1) = i + 1 + j from by omega]
    simpa [enumD] using q
def mEn (b : Bool) (m : ME) : ML := fun ρ P => m ρ fun d => match itemsB b d with
  | some ds => P (enumD 0 ds)
  | none => False
theorem i_en (b : Bool) {K₁ : PySem.W.Frag} (hm : X.mg "enumerate" = none) (h : PP X C e te me) (hg : Gl X "enumerate" := by rfl) (hs : starEach [e] X.env = [(false, eval e X.env)] := by rfl) (hK₁ : X.K = K₁ := by first | exact blkK2 | exact blkK | exact rfl) :
    PIt X C (.Tuple elts kk tpos) (.Call (.Name "enumerate" p) [e] [] pos) (iEnB b K₁ (tCons te tNil)) (mEn b me) := by
  subst hK₁
  refine ⟨pi_enB b hg hm (pa_cons h.pe pa_nil hs) hs, fun S H σ ρ P Rk rl hmm k => ?_⟩
  refine h.rd S H σ ρ _ _ rl hmm fun d S1 H1 v p1 s g r => ?_
  cases q : itemsB b d with
  | none => rw [q] at p1; exact p1.elim
  | some ds =>
    rw [q] at p1
    obtain ⟨l, vs, rfl, hs1, ha, hz, hl⟩ := rep_seq g r q
    refine ⟨l, vs, rfl, hs1.mono g.sub, k (enumD 0 ds) S1 H1 _ p1 s g ⟨by rw [enumD_len]; exact hz, fun i S2 H2 z => ?_⟩⟩
    obtain ⟨z1, g2⟩ := z
    rw [enumD_len]
    refine ⟨fun hi => ⟨⟨vs, vs[i]'(by omega), (hs1.mono z1).mono g2.sub, List.getElem?_eq_getElem _⟩, fun x H' y => ?_⟩, fun hi => ?_⟩
    · obtain ⟨T, o, y, rfl, hT, ho, rfl, hy⟩ := y
      obtain ⟨dd, h1, h2⟩ := dp_at (DpAll.mono z1 ha) (hy vs ((hs1.mono z1).mono g2.sub))
      obtain ⟨S', a1, a2, a3⟩ := pair_new (C := C) g2 (vs := [.int (i : Nat), y]) (ds := [.int (i : Nat), dd]) (.cons (.int _) (.cons h2 .nil)) (show 2 ≤ sizeLine by decide) hT ho
      have e1 := enumD_at 0 i ds dd h1
      rw [Nat.zero_add] at e1
      exact ⟨_, S', e1, a1, a2, a3⟩
    · exact ⟨vs, (hs1.mono z1).mono g2.sub, by omega⟩
/-! ### zip -/
def zipD : List D → List D → List D
  | d :: ds, e :: es => .tuple [d, e] :: zipD ds es
  | _, _ => []
theorem zipD_len : ∀ (ds es : List D), (zipD ds es).length = min ds.length es.length
  | [], _ => by simp [zipD]
  | _ :: _, [] => by simp [zipD]
  | d :: ds, e :: es => by rw [zipD, List.length_cons, zipD_len ds es, List.length_cons, List.length_cons]; omega
theorem zipD_at : ∀ (j : Nat) (ds es : List D) (d e : D), ds[j]? = some d → es[j]? = some e → (zipD ds es)[j]? = some (.tuple [d, e])
  | _, [], _, _, _, h, _ => by simp at h
  | _, _ :: _, [], _, _, _, h => by simp at h
  | 0, d :: ds, e :: es, _, _, h1, h2 => by simp at h1 h2; subst h1; subst h2; rfl
  | j + 1, d :: ds, e :: es, _, _, h1, h2 => by
    have q := zipD_at j ds es _ _ (by simpa using h1) (by simpa using h2)
    simpa [zipD] using q
def mZip (b1 b2 : Bool) (m n : ME) : ML := fun ρ P => m ρ fun d => n ρ fun e => match itemsB b1 d, itemsB b2 e with
  | some ds, some es => P (zipD ds es)
  | _, _ => False
theorem i_zip (b1 b2 : Bool) {K₁ : PySem.W.Frag} (hm : X.mg "zip" = none) (h : PP X C a ta ma) (h' : PP X C b tb mb) (hg : Gl X "zip" := by rfl) (hs : starEach [a, b] X.env = (false, eval a X.env) :: starEach [b] X.env := by rfl) (hs2 : starEach [b] X.env = (false, eval b X.env) :: starEach [] X.env := by rfl)
    (hpl : (backTo pos (starEach [b] X.env)).any (·.1) = false := by rfl) (hK₁ : X.K = K₁ := by first | exact blkK2 | exact blkK | exact rfl) :
    PIt X C (.Tuple elts kk tpos) (.Call (.Name "zip" p) [a, b] [] pos) (iZpB b1 b2 K₁ (tCons ta (tCons tb tNil))) (mZip b1 b2 ma mb) := by
  subst hK₁
  refine ⟨pi_zpB b1 b2 hg hm (pa_cons h.pe (pa_cons h'.pe pa_nil hs2) hs) hs hpl, fun S H σ ρ P Rk rl hmm k => ?_⟩
  refine h.rd S H σ ρ _ _ rl hmm fun d S1 H1 v p1 s g r => ?_
  refine h'.rd S1 H1 σ ρ _ _ (rl.step s g) p1 fun e S2 H2 w p2 s2 g2 r2 => ?_
  cases q : itemsB b1 d with
  | none => rw [q] at p2; exact p2.elim
  | some ds =>
    cases q' : itemsB b2 e with
    | none => rw [q, q'] at p2; exact p2.elim
    | some es =>
      rw [q, q'] at p2
      obtain ⟨l, vs, rfl, hs1, ha, hz, hl⟩ := rep_seq g2 (r.mono s2.ss) q
      obtain ⟨l', vs', rfl, hs1', ha', hz', hl'⟩ := rep_seq g2 r2 q'
      refine ⟨l, l', vs, vs', rfl, hs1.mono g2.sub, hs1'.mono g2.sub, k (zipD ds es) S2 H2 _ p2 (s.trans g s2) g2 ⟨by rw [zipD_len]; omega, fun i S3 H3 z => ?_⟩⟩
      obtain ⟨z1, g3⟩ := z
      have u1 := (hs1.mono z1).mono g3.sub
      have u2 := (hs1'.mono z1).mono g3.sub
      rw [zipD_len]
      refine ⟨fun hi => ⟨⟨vs, vs', vs[i]'(by omega), vs'[i]'(by omega), u1, u2, List.getElem?_eq_getElem _, List.getElem?_eq_getElem _⟩, fun x H' y => ?_⟩, fun hi => ⟨vs, vs', u1, u2, by omega, by omega, by omega⟩⟩
      obtain ⟨T, o, y, y', rfl, hT, ho, rfl, hy, hy'⟩ := y
      obtain ⟨dd, h1, h2⟩ := dp_at (DpAll.mono z1 ha) (hy vs u1)
      obtain ⟨ee, h3, h4⟩ := dp_at (DpAll.mono z1 ha') (hy' vs' u2)
      obtain ⟨S', a1, a2, a3⟩ := pair_new (C := C) g3 (vs := [y, y']) (ds := [dd, ee]) (.cons h2 (.cons h4 .nil)) (show 2 ≤ sizeLine by decide) hT ho
      exact ⟨_, S', zipD_at i ds es dd ee h1 h3, a1, a2, a3⟩
/-! ### range(a, b) -/
def span (i j : Int) : List D := (List.range (j - i).toNat).map fun n => .int (i + (n : Nat))
def mRng2 (n : ML) : ML := fun ρ P => n ρ fun ds => match ds with
  | [.int i, .int j] => -(2 ^ 60) ≤ i ∧ i < 2 ^ 60 ∧ -(2 ^ 60) ≤ j ∧ j < 2 ^ 60 ∧ j - i ≤ 16777216 ∧ P (span i j)
  | _ => False
theorem span_len (i j : Int) : (span i j).length = (j - i).toNat := by unfold span; rw [List.length_map, List.length_range]
theorem i_rng2 {tg : Expr} {n : ML} (hm : X.mg "range" = none) (ha : PAB X C [a, b] t n) (hg : Gl X "range" := by rfl) (hs : starEach [a, b] X.env = [(false, eval a X.env), (false, eval b X.env)] := by rfl) (hs2 : starEach [b] X.env = [(false, eval b X.env)] := by rfl) :
    PIt X C tg (.Call (.Name "range" p) [a, b] [] pos) (iRng2 t) (mRng2 n) := ⟨pi_range2 hg hm ha.pe hs hs2, fun S H σ ρ P Rk rl hmm k => by
  refine ha.rd S H σ ρ _ _ rl hmm fun ds S1 H1 vs p1 s g r => ?_
  split at p1
  · obtain ⟨h1, h2, h3, h4, h5, p1⟩ := p1
    obtain ⟨x, y, rfl, r1, r2⟩ := paired2 r
    rw [rint r1, rint r2]
    rename_i i j
    refine ⟨i, j, rfl, ⟨by omega, by omega, by omega, by omega⟩, k (span i j) S1 H1 _ p1 s g ⟨by rw [span_len, sizeLine_eq]; omega, fun m S2 H2 z => ?_⟩⟩
    rw [span_len]
    refine ⟨fun hi => ⟨hi, fun y H' q => ?_⟩, fun hi => Nat.le_of_eq hi.symm⟩
    obtain ⟨rfl, rfl⟩ := q
    refine ⟨.int (i + (m : Nat)), S2, ?_, Stp.refl, z.2, Dp.int _⟩
    unfold span
    rw [List.getElem?_map, List.getElem?_range hi] <;> rfl
  · exact p1.elim⟩
/-! ### list + list -/
def rCatLK (K : PySem.W.Frag) : R2 := fun x y H Q => ∃ l b xs ys, x = .ref l ∧ y = .ref b ∧ SqL K H l xs ∧ SqL K H b ys ∧ xs.length + ys.length ≤ sizeLine ∧ ∀ p, H p = none → Q (.ref p) (upd H p (.lst (xs ++ ys)))
theorem op_catLK : OpR X (binaryOp .Add) (rCatLK X.K) := by
  intro pins s σ H x y v u Q I rx ry h
  obtain ⟨l, b, xs, ys, rfl, rfl, hl, hb, hz, q⟩ := h
  cases rx
  cases ry
  obtain ⟨us, r1, p1, _⟩ := I.list hl
  obtain ⟨ws, r2, p2, _⟩ := I.list hb
  obtain ⟨⟨c, dc, dt, sl⟩, n, e, e1, _, e3⟩ := p1
  obtain ⟨⟨c', dc', dt', sl'⟩, n', e', e1', _, e3'⟩ := p2
  simp only at e1 e3 e1' e3'
  subst e1 e3 e1' e3'
  have l1 := r1.length
  have l2 := r2.length
  refine concat_meets ⟨_, e, rfl⟩ ⟨_, e', rfl⟩ noFill_list_add seq_list_add PySem.F.slot_list_add PySem.F.entry_list_add (PySem.F.args_list_add_2 _ _) (list_addW l b us.toArray ws.toArray n n' dc dc' sl sl' (by simp only [List.size_toArray]; omega)) ⟨e, e', ?_⟩
  rw [show us.toArray ++ ws.toArray = (us ++ ws).toArray from by simp]
  exact ⟨.ref _, _, I.lnew (t' := s.toks) (r1.append r2) (by rw [List.length_append]; exact hz), rfl, q _ I.fresh⟩
def mCatL (ma mb : ME) : ML := fun ρ P => ma ρ fun d => mb ρ fun e => match d, e with
  | .list xs, .list ys => xs.length + ys.length ≤ sizeLine ∧ P (xs ++ ys)
  | _, _ => False
theorem o_catL {K₁ : PySem.W.Frag} (ha : PB X C a ta ma) (hb : PB X C b tb mb) (hK₁ : X.K = K₁ := by first | exact blkK2 | exact blkK | exact rfl) : PO' X C (.BinOp a .Add b pos) (tOp (rCatLK K₁) ta tb) (mCatL ma mb) := by
  subst hK₁
  refine ⟨pe_op op_catLK ha.pe hb.pe, fun S H σ ρ P Q r hm k => ?_⟩
  refine ha.rd S H σ ρ _ _ r hm fun d S1 H1 v p1 s1 g1 r1 => ?_
  refine hb.rd S1 H1 σ ρ _ _ (r.step s1 g1) p1 fun e S2 H2 w p2 s2 g2 r2 => ?_
  split at p2
  · obtain ⟨hz, p2⟩ := p2
    obtain ⟨l, vs, rfl, a1, a2, a3⟩ := (r1.step s2).lst g2
    obtain ⟨l', ws, rfl, b1, b2, b3⟩ := r2.lst g2
    have z : (vs ++ ws).length ≤ sizeLine := by rw [List.length_append, DpAll.length a1, DpAll.length b1]; exact hz
    refine ⟨l, l', vs, ws, rfl, rfl, a2, b2, by rw [List.length_append] at z; exact z, fun p hp => ?_⟩
    have s12 := s1.trans g1 s2
    exact fin_lst g2 (DpAll.app a1 b1) z hp p2 fun ds' S' H' q vs' pd s g h1 h2 h3 h4 h5 => k ds' S' H' q vs' pd (s12.trans g2 s) g h1 h2 (s12.gone (fun v => h4 v) h3) h4 h5
  · exact p2.elim
/-! ### a builtin that gives a new list -/
def CoOk (C : GC X.K) (r : List V → Hp → VK → Prop) (op : List D → (List D → Prop) → Prop) : Prop := ∀ S H vs ds P (Q : VK), Good C.vol C.G S H → Paired (RepH C.vol X.K S H) vs ds → op ds P →
  (∀ ds' p ws, P ds' → H p = none → DpAll X.K S ws ds' → ws.length ≤ sizeLine → Q (.ref p) (upd H p (.lst ws))) → r vs H Q
def mCo (op : List D → (List D → Prop) → Prop) (n : ML) : ML := fun ρ P => n ρ fun ds => op ds P
theorem rd_co {r : List V → Hp → VK → Prop} {op : List D → (List D → Prop) → Prop} {n : ML} (ha : RdAB C t n) (h : CoOk C r op) : RdO C (tCB r t) (mCo op n) := by
  intro S H σ ρ P Q rl hm k
  refine ha S H σ ρ _ _ rl hm fun ds S1 H1 vs p1 s1 g1 r1 => ?_
  refine h S1 H1 vs ds P Q g1 r1 p1 fun ds' p ws pd hp hd hz => ?_
  exact fin_lst g1 hd hz hp pd fun ds' S' H' q vs' pd s g h1 h2 h3 h4 h5 => k ds' S' H' q vs' pd (s1.trans g1 s) g h1 h2 (s1.gone (fun v => h4 v) h3) h4 h5
/-! list(x) -/
def oListOf : List D → (List D → Prop) → Prop
  | [.list ds], P => P ds
  | [.tuple ds], P => P ds
  | _, _ => False
def zListOf (K : PySem.W.Frag) : List V → Hp → VK → Prop := fun xs H Q => ∃ p ys, xs = [.ref p] ∧ (SqL K H p ys ∨ SqT K H p ys) ∧ ∀ l, H l = none → Q (.ref l) (upd H l (.lst ys))
theorem co_list : CoOk C (zListOf X.K) oListOf := fun S H vs ds P Q g r p k => by
  unfold oListOf at p
  split at p
  · obtain ⟨x, rfl, r1⟩ := paired1 r
    obtain ⟨l, ws, rfl, ha, hl, hz⟩ := r1.lst g
    exact ⟨l, ws, rfl, .inl hl, fun q hq => k _ q ws p hq ha hz⟩
  · obtain ⟨x, rfl, r1⟩ := paired1 r
    obtain ⟨l, ws, rfl, ha, hl, hz⟩ := r1.tup g
    exact ⟨l, ws, rfl, .inr (SqT.mono g.sub hl), fun q hq => k _ q ws p hq ha hz⟩
  · exact p.elim
theorem o_list {K₁ : PySem.W.Frag} {n : ML} (hm : X.mg "list" = none) (ha : PAB X C (e :: es) t n) (hg : Gl X "list" := by rfl) (pl : CallPl X e es pos := by exact ⟨rfl, rfl⟩) (hK₁ : X.K = K₁ := by first | exact blkK2 | exact blkK | exact rfl) :
    PO' X C (.Call (.Name "list" p) (e :: es) [] pos) (tCB (zListOf K₁) t) (mCo oListOf n) := by
  subst hK₁
  exact ⟨pe_callTy call_list_of hg hm boot_list ha.pe (by decide) (by decide) (he := pl.he) (hpl := pl.hpl), rd_co ha.rd co_list⟩
/-! sorted(x) -/
abbrev srt (ds : List D) : List D := ds.mergeSort (PySem.W.dataLe false _root_.id)
def oSorted : List D → (List D → Prop) → Prop
  | [.list ds], P => PySem.W.AllAlike ds ∧ PySem.W.Sortable ds ∧ (∀ d ∈ ds, d.depth ≤ 60) ∧ P (srt ds)
  | _, _ => False
def zSorted (K : PySem.W.Frag) : List V → Hp → VK → Prop := fun xs H Q => ∃ p vs ds, xs = [.ref p] ∧ SqL K H p vs ∧ DpAll K H vs ds ∧ PySem.W.AllAlike ds ∧ PySem.W.Sortable ds ∧ (∀ d ∈ ds, d.depth ≤ 60) ∧
  ∀ l ws, H l = none → Paired (fun x d => (x, d) ∈ vs.zip ds) ws (srt ds) → ws.length = vs.length → Q (.ref l) (upd H l (.lst ws))
theorem each_of : ∀ {vs : List V} {us : List Value} {ds : List D} {l : List (V × D)}, Vals vs us → vs.length = ds.length → (∀ q ∈ vs.zip ds, q ∈ l) → PySem.W.EachIs (fun u d => ∃ x : V, L2.RelV x u ∧ (x, d) ∈ l) us ds
  | _, _, [], _, .nil, _, _ => .nil
  | _, _, _ :: _, _, .nil, h, _ => by simp at h
  | _, _, [], _, .cons _ _, h, _ => by simp at h
  | _, _, d :: ds, l, .cons r t, h, k => .cons ⟨_, r, k _ (by simp)⟩ (each_of t (by simpa using h) fun q hq => k q (by simp [hq]))
theorem each_back : ∀ {out : List Value} {bs : List D} {l : List (V × D)}, PySem.W.EachIs (fun u d => ∃ x : V, L2.RelV x u ∧ (x, d) ∈ l) out bs → ∃ ws, Vals ws out ∧ Paired (fun x d => (x, d) ∈ l) ws bs
  | _, _, _, .nil => ⟨[], .nil, .nil⟩
  | _, _, _, .cons ⟨x, r, m⟩ t => by
    obtain ⟨ws, h1, h2⟩ := each_back t
    exact ⟨x :: ws, .cons r h1, .cons m h2⟩
theorem reads_each {h : Heap} : ∀ {us : List Value} {ds : List D} {as : List Addr}, ReadsAll h us ds as → PySem.W.EachIs (fun v b => ∃ as, Reads h v (_root_.id b) as) us ds
  | _, [], _, r => by cases r; exact .nil
  | _, d :: ds, _, r => by
    cases r with
    | cons h1 h2 => exact .cons ⟨_, h1⟩ (reads_each h2)
theorem call_srt (hu : X.A.units + 64 < cLine) : CallR X (.builtin "sorted") (zSorted X.K) := by
  intro pins s σ H xs us Q I r h
  obtain ⟨p, vs, ds, rfl, hl, hd, h1, h2, h3, q⟩ := h
  obtain ⟨u, rfl, rx⟩ := vals1 r
  cases rx
  obtain ⟨its, rv, pl, hz⟩ := I.list hl
  have hlen := DpAll.length hd
  obtain ⟨as, rd⟩ := Dp.readsAll I ds vs its hd rv
  have em : ds.map _root_.id = ds := List.map_id ds
  refine PySem.W.sorted_data (vs := its) (bs := ds) (enc := _root_.id) pl.isList (each_of rv hlen fun q hq => hq) (reads_each rd) (by rw [em]; exact h1) (by rw [em]; exact h2) (by omega) (fun d hdm => ?_) fun out ho eo => ?_
  · have := h3 d hdm
    show X.A.units + 2 + d.depth < cLine
    omega
  · obtain ⟨ws, r1, r2⟩ := each_back eo
    obtain ⟨ep, at_⟩ := PyProof.Rows.sortedAll_at s.heap its out.toArray
    have lw : ws.length = vs.length := by rw [r1.length, ho, hlen]
    exact ⟨.ref _, upd H (s.heap.objs.size + 1) (.lst ws), I.laid (t' := s.toks) (fun _ _ => PyProof.Rows.sortedAll_old) (Nat.le_succ _) ⟨by rw [lw]; exact hz, out, ep, r1, at_⟩, rfl, q _ ws (I.hok.fresh (Nat.le_succ _)) r2 lw⟩
theorem dp_zip {K : PySem.W.Frag} {S : Hp} : ∀ {vs : List V} {ds : List D}, DpAll K S vs ds → ∀ q ∈ vs.zip ds, Dp K S q.1 q.2
  | _, _, .nil, _, h => by simp at h
  | _, _, .cons a t, q, h => by
    rcases List.mem_cons.mp h with rfl | h
    · exact a
    · exact dp_zip t q h
theorem dp_pick {K : PySem.W.Frag} {S : Hp} {l : List (V × D)} (h : ∀ q ∈ l, Dp K S q.1 q.2) : ∀ {ws : List V} {bs : List D}, Paired (fun x d => (x, d) ∈ l) ws bs → DpAll K S ws bs
  | _, _, .nil => .nil
  | _, _, .cons a t => .cons (h _ a) (dp_pick h t)
theorem co_sorted : CoOk C (zSorted X.K) oSorted := fun S H vs ds P Q g r p k => by
  unfold oSorted at p
  split at p
  · obtain ⟨h1, h2, h3, p⟩ := p
    obtain ⟨x, rfl, r1⟩ := paired1 r
    obtain ⟨l, ws, rfl, ha, hl, hz⟩ := r1.lst g
    rename_i ds
    exact ⟨l, ws, ds, rfl, hl, DpAll.mono g.sub ha, h1, h2, h3, fun q zs hq pr hn => k _ q zs p hq (dp_pick (dp_zip ha) pr) (by rw [hn]; exact hz)⟩
  · exact p.elim
theorem o_sorted {K₁ : PySem.W.Frag} {n : ML} (hm : X.mg "sorted" = none) (hu : X.A.units + 64 < cLine) (ha : PAB X C (e :: es) t n) (hg : Gl X "sorted" := by rfl) (pl : CallPl X e es pos := by exact ⟨rfl, rfl⟩) (hK₁ : X.K = K₁ := by first | exact blkK2 | exact blkK | exact rfl) :
    PO' X C (.Call (.Name "sorted" p) (e :: es) [] pos) (tCB (zSorted K₁) t) (mCo oSorted n) := by
  subst hK₁
  exact ⟨pe_callB (call_srt hu) hg hm PyProof.Rows.boot_sorted ha.pe (by decide) (by decide) (he := pl.he) (hpl := pl.hpl), rd_co ha.rd co_sorted⟩
end
end Pu

set_option Elab.async false
set_option linter.all false
set_option maxRecDepth 100000
set_option maxHeartbeats 4000000
/-! Pure readings: index of a tuple, split. -/
namespace Pu
open PySem PySem.Spec L2
open PyProof.Rows hiding St
section
variable {X : Cx} {C : GC X.K} {a b e o : Expr} {es : List Expr} {ta tb te to : TE} {ma mb me : ME} {pos p apos cpos : Pos} {t : TA}
/-- a tuple whose object has no dict -/
def tupAt (K : PySem.W.Frag) (x : V) (H : Hp) : Prop := ∃ a, x = .ref a ∧ ((∃ o xs, H a = some (.frz o (.tup xs)) ∧ o.dict = none) ∨ ∃ o, K.lookup a = some o ∧ o.cls = .type "tuple" ∧ o.dict = none)
/-- the tuples of the module's heap have none -/
def TupPl (K : PySem.W.Frag) : Prop := ∀ a o, K.lookup a = some o → o.cls = .type "tuple" → o.dict = none
theorem tupAt_is {pins : List (Addr × Obj)} {σ : L2.St} {H : Hp} {s : Shared} {x : V} {v : Value} (I : Inv X pins σ H s) (r : L2.RelV x v) (h : tupAt X.K x H) : s.TypeIs v "tuple" ∧ ∀ a, v = .ref a → ∃ ob, s.heap.get? a = some ob ∧ ob.dict = none := by
  obtain ⟨a, rfl, h⟩ := h
  cases r
  rcases h with ⟨o, xs, h, hd⟩ | ⟨o, h1, h2, h3⟩
  · obtain ⟨e, _, its, _, ⟨o', e', hc, _⟩⟩ := (show ObjOk X.prog X.w H s.heap a (.frz o (.tup xs)) from I.hok a _ h)
    have e' : s.heap.get? a = some o' := e'
    rw [e] at e'
    cases e'
    exact ⟨⟨o, e, hc⟩, fun b q => by cases q; exact ⟨o, e, hd⟩⟩
  · have e := I.kIn a o h1
    exact ⟨⟨o, e, h2⟩, fun b q => by cases q; exact ⟨o, e, h3⟩⟩
theorem tupAt_of {S H : Hp} {v : V} {ds : List D} (hK : TupPl X.K) (g : Good C.vol C.G S H) (r : RepH C.vol X.K S H v (.tuple ds)) : tupAt X.K v H := by
  obtain ⟨a, vs, rfl, _, hs, _⟩ := r.tup g
  refine ⟨a, rfl, ?_⟩
  rcases hs with (q | ⟨o, q⟩) | ⟨o, its, n, h1, h2, h3, h5, h6⟩
  · exact (g.tp _ _ q).elim
  · exact .inl ⟨o, vs, g.sub _ _ q, g.tp _ _ q⟩
  · exact .inr ⟨o, h1, h2, hK a o h1 h2⟩
def tTM (K : PySem.W.Frag) (r : V → List V → Hp → VK → Prop) (to : TE) (t : TA) : TE := fun σ H Q => to σ H fun x H1 => tupAt K x H1 ∧ t σ H1 fun xs H2 => r x xs H2 Q
theorem pe_tm {name : Str} {id : String} {r : V → List V → Hp → VK → Prop} (slot : Slot "tuple" name id) (hty : typeOf (.builtin id) = pure (.type "method_descriptor")) (hm : MtR X id r) (ho : PE X o to) (ha : PA X (e :: es) t) (pl : MPl X o name apos e es cpos) :
    PE X (.Call (.Attribute o name apos) (e :: es) [] cpos) (tTM X.K r to t) := ⟨fun pins s σ H Q I h => by
  refine wpAny_Call_method_late pl.base pl.few pl.line rfl (thn (ho.run pins s σ H _ I h) fun v s1 ⟨x, H1, I1, r1, ty, q1⟩ => ?_)
  obtain ⟨h1, h2⟩ := tupAt_is I1 r1 ty
  refine ⟨"tuple", id, PySem.F.plainAttrs_tuple, slot, hty, h1, h2, ?_⟩
  have hA := ha.run cpos pins s1 σ H1 _ I1 q1
  rw [pl.st] at hA ⊢
  refine Calls.callWith_builtin (by show (false || (backTo cpos (starEach es X.env)).any (·.1)) = false; rw [pl.pl] <;> rfl) (Calls.evalArgs_plain ?_)
  exact thn hA fun us s2 ⟨vs, H2, I2, r2, q2⟩ => hm pins s2 σ H2 x vs v us Q I2 r1 r2 q2⟩
def rIdxS (K : PySem.W.Frag) : V → List V → Hp → VK → Prop := fun x xs H Q => ∃ p, ∃ ys : List Str, ∃ z j, x = .ref p ∧ xs = [.str z] ∧ SqT K H p (ys.map V.str) ∧ ys[j]? = some z ∧ (∀ m, m < j → ys[m]? ≠ some z) ∧ Q (.int (j : Nat)) H
def oIxT : D → D → (D → Prop) → Prop
  | .tuple ds, .str x, P => ∃ xs, sTexts ds = some xs ∧ x ∈ xs ∧ P (.int ((xs.idxOf x : Nat) : Int))
  | _, _, _ => False
theorem idx_first (x : Str) : ∀ (xs : List Str), x ∈ xs → xs[xs.idxOf x]? = some x ∧ ∀ m, m < xs.idxOf x → xs[m]? ≠ some x
  | [], h => by simp at h
  | y :: ys, h => by
    by_cases e : y = x
    · subst e
      rw [List.idxOf_cons_self]
      exact ⟨rfl, fun m hm => absurd hm (Nat.not_lt_zero _)⟩
    · have h' : x ∈ ys := by
        rcases List.mem_cons.mp h with q | q
        · exact absurd q.symm e
        · exact q
      obtain ⟨h1, h2⟩ := idx_first x ys h'
      rw [List.idxOf_cons, show (y == x) = false from by simpa using e, cond_false]
      refine ⟨by simpa using h1, fun m hm => ?_⟩
      cases m with
      | zero => simpa using e
      | succ m => simpa using h2 m (by omega)
def mIdxT (ma me : ME) : ME := fun ρ P => ma ρ fun d => match d with
  | .tuple ds => me ρ fun e => oIxT (.tuple ds) e P
  | _ => False
theorem p_indexT {K₁ : PySem.W.Frag} (hK : TupPl X.K) (ho : PB X C o to ma) (he : PP X C e te me) (pl : MPl X o "index" apos e [] cpos := by exact ⟨rfl, rfl, rfl, rfl, rfl⟩) (hK₁ : X.K = K₁ := by first | exact blkK2 | exact blkK | exact rfl) :
    PP X C (.Call (.Attribute o "index" apos) [e] [] cpos) (tTM K₁ (rIdxS K₁) to (tCons te tNil)) (mIdxT ma me) := by
  subst hK₁
  refine ⟨pe_tm PySem.F.slot_tuple_index PySem.F.type_tuple_index mt_tup_index ho.pe (pa_cons he.pe pa_nil pl.st) pl, fun S H σ ρ P Q rl hm k => ?_⟩
  refine ho.rd S H σ ρ _ _ rl hm fun d S1 H1 v p1 s1 g1 r1 => ?_
  have key : (∃ ds, d = .tuple ds) → tupAt X.K v H1 := fun ⟨ds, q⟩ => by subst q; exact tupAt_of hK g1 r1
  cases d with
  | tuple ds =>
    refine ⟨key ⟨ds, rfl⟩, ?_⟩
    refine he.rd S1 H1 σ ρ _ _ (rl.step s1 g1) p1 fun e' S2 H2 w p2 s2 g2 r2 => ?_
    cases e' with
    | str x =>
      obtain ⟨xs, hx, hmem, p2⟩ := p2
      obtain ⟨l, vs, rfl, ha, hs, _⟩ := (r1.step s2).tup g2
      have ev := strs_vals ha hx
      subst ev
      obtain ⟨i1, i2⟩ := idx_first x xs hmem
      exact ⟨l, xs, x, xs.idxOf x, rfl, by rw [rstr (RepH.of g2 r2)], SqT.mono g2.sub hs, i1, i2, k _ S2 H2 _ p2 (s1.trans g1 s2) g2 (Dp.int _)⟩
    | _ => exact (p2 : False).elim
  | _ => exact (p1 : False).elim
/-- s.split(sep) -/
def mSplit (ma me : ME) : ML := fun ρ P => ma ρ fun d => match d with
  | .str x => me ρ fun e => match e with
    | .str y => (y.length == 0) = false ∧ x.length + 2 ≤ sizeLine ∧ P ((Txt.split x y).map .str)
    | _ => False
  | _ => False
theorem dp_strs {K : PySem.W.Frag} {S : Hp} : ∀ xs : List Str, DpAll K S (xs.map V.str) (xs.map PyData.str)
  | [] => .nil
  | x :: xs => .cons (.str x) (dp_strs xs)
abbrev zSplit : V → List V → Hp → VK → Prop := fun x xs H Q => ∃ a b, x = .str a ∧ xs = [.str b] ∧ (b.length == 0) = false ∧ a.length + 2 ≤ sizeLine ∧ rNewStrs (Txt.split a b) H Q
theorem o_split (ho : PB X C o to ma) (he : PB X C e te me) (hs : starEach [e] X.env = [(false, eval e X.env)] := by rfl) (hbase : attributeBase o "split" X.env (eval o X.env) = eval o X.env := by rfl) (hline : (apos.endLine == pos.line) = true := by rfl) :
    PO' X C (.Call (.Attribute o "split" apos) [e] [] pos) (tM1 zSplit to te) (mSplit ma me) := ⟨pe_split ho.pe he.pe hs hbase hline, by
  intro S H σ ρ P Q rl hm k
  refine ho.rd S H σ ρ _ _ rl hm fun d S1 H1 v p1 s1 g1 r1 => ?_
  cases d with
  | str x =>
    have ev := rstr r1
    subst ev
    refine ⟨⟨x, rfl⟩, ?_⟩
    refine he.rd S1 H1 σ ρ _ _ (rl.step s1 g1) p1 fun e' S2 H2 w p2 s2 g2 r2 => ?_
    cases e' with
    | str y =>
      obtain ⟨h1, h2, p2⟩ := p2
      have ew := rstr r2
      subst ew
      refine ⟨x, y, rfl, rfl, h1, h2, fun p hp => ?_⟩
      have hz : ((Txt.split x y).map V.str).length ≤ sizeLine := by
        rw [List.length_map]
        exact Nat.le_trans (PyProof.Rows.split_le x y) h2
      have s12 := s1.trans g1 s2
      exact fin_lst g2 (dp_strs (Txt.split x y)) hz hp p2 fun ds' S' H' q vs' pd s g h1 h2 h3 h4 h5 => k ds' S' H' q vs' pd (s12.trans g2 s) g h1 h2 (s12.gone (fun v => h4 v) h3) h4 h5
    | _ => exact (p2 : False).elim
  | _ => exact (p1 : False).elim⟩
end
end Pu

set_option Elab.async false
set_option linter.all false
set_option maxRecDepth 100000
set_option maxHeartbeats 4000000
/-! Pure readings: a nested def handed to defs that call it. -/
namespace Pu
open PySem PySem.Spec L2 NdefX LamX
open PyProof.Rows hiding St
/-- a function object of any kind: what stands at it and at its code object, the cells that it captured -/
structure CF where
  fo : Addr → HO
  co : HO
  c : Addr
  cl : List (Str × Addr)
/-- .. a nested def's -/
def CF.nf (F : NF) : CF := ⟨fun f => FnO f F, CodeO F.c F.qual, F.c, F.cl⟩
/-- what it promises at a call -/
structure COk (P : Program) (w : World) (K : PySem.W.Frag) (mg : Str → Option Value) (base : Heap) (k : Nat) (f : Addr) (F : CF) (fr : List Str) (sp : List (Option V) → Sp) : Prop where
  fx : ∃ φ, F.fo f = .ext φ
  cx : ∃ φ, F.co = .ext φ
  fat : ∀ {H : Hp} {h : Heap}, HOk P w H h → H f = some (F.fo f) → PySem.W.FnAt f h
  run : ∀ (A : Around) (outer : List Env) (s : Shared) (H : Hp) (us : List Value) (vs : List V) (ws : List (Option V)) (Q : VK), Room k A → Env0 P w K mg base A outer s H → H f = some (F.fo f) → H F.c = some F.co →
    CellsAt F.cl fr ws s.heap H → Vals vs us → sp ws vs H Q E0 → codeAny (model P w) A (.call (.ref f) ⟨us, []⟩) (CR CX0 outer P w H s Q E0) s
theorem COk.nf {P : Program} {w : World} {K : PySem.W.Frag} {mg : Str → Option Value} {base : Heap} {k : Nat} {f : Addr} {F : NF} {ps fr : List Str} {sp : List (Option V) → Sp} (o : NOk P w K mg base CX0 k f F ps fr sp) : COk P w K mg base k f (CF.nf F) fr sp :=
  ⟨⟨_, rfl⟩, ⟨_, rfl⟩, fun hok e => by
    obtain ⟨od, sl, doc, pm, ctv, ho⟩ := fnO_at hok e
    exact ⟨_, od, _, sl, ho⟩, fun A outer s H us vs ws Q hr e0 hf hc C r q => o.run A outer s H us vs ws Q E0 hr e0 hf hc C r q⟩
theorem COk.imp {P : Program} {w : World} {K : PySem.W.Frag} {mg : Str → Option Value} {base : Heap} {k : Nat} {f : Addr} {F : CF} {fr : List Str} {sp sp' : List (Option V) → Sp} (o : COk P w K mg base k f F fr sp) (h : ∀ ws vs H Q E, sp' ws vs H Q E → sp ws vs H Q E) : COk P w K mg base k f F fr sp' :=
  ⟨o.fx, o.cx, o.fat, fun A outer s H us vs ws Q hr e0 hf hc C r q => o.run A outer s H us vs ws Q hr e0 hf hc C r (h _ _ _ _ _ q)⟩
/-- a promise that asks for a stable heap that holds all of S0's -/
def spGS (K : PySem.W.Frag) (vol : Addr → Prop) (G : Hp → Prop) (S0 : Hp) (n : Nat) (Φ : Phi) : Sp := fun vs H Q E => ∃ S as P PX, Same S0 S ∧ as.length = n ∧ ArgsOk K S vs as ∧ Good vol G S H ∧ Φ as P PX ∧
  (∀ d S' H' v, P d → Stp vol S H S' H' → Good vol G S' H' → Rep K S' v d → Q v H')
/-- the function F at f keeps the promise Φ when called from s, H on, by frames that don't touch its cells -/
structure CloF (P : Program) (w : World) (K : PySem.W.Frag) (mg : Str → Option Value) (base : Heap) (vol : Addr → Prop) (G : Hp → Prop) (S0 : Hp) (k n : Nat) (Φ : Phi) (f : Addr) (F : CF) (ps fr : List Str) (ws : List (Option V)) (s : Shared) (H : Hp) (fs : List Addr) : Prop where
  pl : ps.length = n
  nok : COk P w K mg base k f F fr (fun ws' vs H Q E => ws' = ws ∧ spGS K vol G S0 n Φ vs H Q E)
  hf : H f = some (F.fo f)
  hc : H F.c = some F.co
  nf : ¬ vol f
  nc : ¬ vol F.c
  cells : CellsAt F.cl fr ws s.heap H
  out : ∀ y c, F.cl.lookup y = some c → c ∉ fs
section
variable {X : Cx} {C : GC X.K} {pins : List (Addr × Obj)} {σ : L2.St} {S S0 H : Hp} {s : Shared} {k n : Nat} {Φ : Phi} {f : Addr} {F : CF} {ps fr : List Str} {ws : List (Option V)} {vol : Addr → Prop} {G : Hp → Prop}
theorem frs_stack (ok : X.Ok) {c : Addr} (h1 : c ∉ X.fs) (h2 : c < X.s_0.heap.objs.size) : c ∉ frs X.stack := by
  rcases ok.stk with e | ⟨e, e2⟩
  · rw [e]; exact h1
  · rw [e]
    intro h
    unfold frs at h
    rw [List.filterMap_cons, e2] at h
    rcases List.mem_cons.mp h with q | q
    · rw [q] at h2
      exact absurd h2 (Nat.not_lt.mpr ok.above)
    · exact h1 q
/-- what the callee of the running frame finds -/
theorem CloF.later (c : CloF X.prog X.w X.K X.mg X.base vol G S0 k n Φ f F ps fr ws X.s_0 X.H_0 X.fs) (hx : X.ex = []) (I : Inv X pins σ H s) (hh : ∀ a φ, ¬ vol a → X.H_0 a = some (.ext φ) → H a = some (.ext φ)) : CloF X.prog X.w X.K X.mg X.base vol G S0 k n Φ f F ps fr ws s H (frs X.stack) := by
  obtain ⟨φ1, e1⟩ := c.nok.fx
  obtain ⟨φ2, e2⟩ := c.nok.cx
  refine ⟨c.pl, c.nok, by rw [e1]; exact hh _ _ c.nf (by rw [← e1]; exact c.hf), by rw [e2]; exact hh _ _ c.nc (by rw [← e2]; exact c.hc), c.nf, c.nc, c.cells.later c.out (fun y d _ => by rw [hx]; exact List.not_mem_nil) I, fun y d e => ?_⟩
  obtain ⟨_, v, o, ho, _⟩ := c.cells.all y d e
  exact frs_stack I.ok (c.out y d e) (Heap.lt_size ho)
theorem spGS_len {K : PySem.W.Frag} {vs : List V} {Q : VK} {E : XK} (h : spGS K vol G S0 n Φ vs H Q E) : vs.length = n := by
  obtain ⟨S, as, P, PX, _, ln, ha, _⟩ := h
  rw [paired_len ha, ln]
variable {a x : Str} {e : Expr} {es : List Expr} {t : TA} {p pos : Pos} {i : Nat} {m : MA}
/-! ### a(..), a the function -/
def tClo (f : Addr) (F : CF) (i : Nat) (sp : Sp) (t : TA) : TE := fun σ H Q => σ[i]? = some (some (.ref f)) ∧ H f = some (F.fo f) ∧ t σ H fun vs H1 => H1 f = some (F.fo f) ∧ H1 F.c = some F.co ∧ sp vs H1 Q E0
theorem pe_clo (c : CloF X.prog X.w X.K X.mg X.base vol G S0 k n Φ f F ps fr ws X.s_0 X.H_0 X.fs) (hr : Room k X.A) (hx : X.ex = []) (hN : X.N[i]? = some a) (hv : Vis X.env.scope a) (ha : PA X (e :: es) t)
    (hd : (a == ("__debug__" : Str)) = false) (hcd : (a == ("__classdict__" : Str)) = false) (he : starEach (e :: es) X.env = (false, eval e X.env) :: starEach es X.env) (hpl : (backTo pos (starEach es X.env)).any (·.1) = false) :
    PE X (.Call (.Name a p) (e :: es) [] pos) (tClo f F i (spGS X.K vol G S0 n Φ) t) := by
  refine ⟨fun pins s σ H Q I h => ?_⟩
  obtain ⟨hs, hf, ht⟩ := h
  refine wpAny_Call_Name_kw (thn ((pe_var (pos := p) hN hv hd hcd).run pins s σ H (fun v H1 => v = .ref f ∧ H1 = H) I ⟨.ref f, hs, rfl, rfl⟩) fun u s1 ⟨v, H1, I1, r1, q1⟩ => ?_)
  obtain ⟨ev, eH⟩ := q1
  subst ev
  subst eH
  obtain rfl : u = Value.ref f := r1
  refine PySem.W.callWith_F (first := []) (c.nok.fat I1.hok hf) (thn (ha.run pos pins s1 σ H1 _ I1 ht) fun us s2 ⟨vs, H2, I2, r, h1, h2, q⟩ => ⟨c.nok.fat I2.hok h1, ?_⟩) he hpl
  show wpAny _ _ (call (.ref f) us) _ _ _
  have cl := c.cells.later c.out (fun y d _ => by rw [hx]; exact List.not_mem_nil) I2
  refine wpAny_call (codeAny_mono (c.nok.run X.A X.stack s2 H2 us vs ws Q hr I2.env0 h1 h2 cl r ⟨rfl, q⟩) fun r s' hq => ?_)
  cases r with
  | error e => exact (show False from hq).elim
  | ok fl =>
    cases fl with
    | ret u => exact I2.after hq
    | next => exact False.elim hq
    | brk => exact False.elim hq
    | cont => exact False.elim hq
def mClo (i : Nat) (f : Addr) (Φ : Phi) (m : MA) : ME := fun ρ P => gt ρ i = .rw (.ref f) ∧ m ρ fun as => Φ as P fun _ => False
theorem p_clo (i : Nat) (c : CloF X.prog X.w X.K X.mg X.base C.vol C.G C.S0 k n Φ f F ps fr ws X.s_0 X.H_0 X.fs) (hr : Room k X.A) (ha : PAn X C n (e :: es) t m) (hH : C.H0 = X.H_0 := by rfl) (hx : X.ex = [] := by rfl) (hN : X.N[i]? = some a := by rfl) (hv : Vis X.env.scope a := by first | exact Or.inl rfl | exact Or.inr (Or.inl rfl) | exact Or.inr (Or.inr rfl))
    (hd : (a == ("__debug__" : Str)) = false := by decide) (hcd : (a == ("__classdict__" : Str)) = false := by decide) (he : starEach (e :: es) X.env = (false, eval e X.env) :: starEach es X.env := by rfl) (hpl : (backTo pos (starEach es X.env)).any (·.1) = false := by rfl) :
    PP X C (.Call (.Name a p) (e :: es) [] pos) (tClo f F i (spGS X.K C.vol C.G C.S0 n Φ) t) (mClo i f Φ m) := ⟨pe_clo c hr hx hN hv ha.pe hd hcd he hpl, fun S H σ ρ P Q rl hmm k => by
  obtain ⟨h1, hmm⟩ := hmm
  have hs := rl.sl i
  rw [h1] at hs
  have st : ∀ {S' H'}, Stp C.vol S H S' H' → Stp C.vol C.S0 C.H0 S' H' := fun q => rl.stp.trans rl.good q
  obtain ⟨φ1, e1⟩ := c.nok.fx
  obtain ⟨φ2, e2⟩ := c.nok.cx
  have hf : H f = some (F.fo f) := by rw [e1]; exact rl.stp.hh f _ c.nf (by rw [hH, ← e1]; exact c.hf)
  refine ⟨slotAt_some hs, hf, ?_⟩
  refine ha.rd S H σ ρ _ _ rl hmm fun as S1 H1 vs p1 ln s1 g1 r1 => ?_
  have q := st s1
  refine ⟨by rw [e1]; exact q.hh f _ c.nf (by rw [hH, ← e1]; exact c.hf), by rw [e2]; exact q.hh F.c _ c.nc (by rw [hH, ← e2]; exact c.hc), S1, as, P, fun _ => False, q.ss, ln, r1, g1, p1, fun d S' H' v pd s g r => k d S' H' v pd (s1.trans g1 s) g r⟩⟩
end
/-! ### a def that gets it -/
/-- the promise of a def that gets a function as its last argument -/
def spC (P : Program) (w : World) (K : PySem.W.Frag) (mg : Str → Option Value) (base : Heap) (vol : Addr → Prop) (G : Hp → Prop) (kc nc n : Nat) (Ψ : Addr → Phi → Phi) (s : Shared) (outer : List Env) : Sp := fun vs H Q _ =>
  ∃ S as Pr f Φ F ps fr ws, as.length = n ∧ ArgsOk K S vs as ∧ Good vol G S H ∧ CloF P w K mg base vol G S kc nc Φ f F ps fr ws s H (frs outer) ∧ Ψ f Φ as Pr (fun _ => False) ∧ (∀ d S' H' v, Pr d → Stp vol S H S' H' → Good vol G S' H' → Rep K S' v d → Q v H')
structure FnC (P : Program) (w : World) (K : PySem.W.Frag) (mg : Str → Option Value) (base : Heap) (k : Nat) (f : Addr) (fd : FuncData) (ps : List Str) (sp : Shared → List Env → Sp) : Prop where
  len : ∀ s outer vs H Q E, sp s outer vs H Q E → vs.length = ps.length
  run : ∀ (A : Around) (outer : List Env) (s : Shared) (H : Hp) (args : Args) (us : List Value) (vs : List V) (Q : VK), Room k A → Env0 P w K mg base A outer s H → BindsTo s fd args (ps.zip us) → Vals vs us → sp s outer vs H Q E0 →
    codeAny (model P w) A (.call (.ref f) args) (CR CX0 outer P w H s Q E0) s
theorem fnC {P : Program} {w : World} {K : PySem.W.Frag} {mg : Str → Option Value} {base : Heap} {x : Str} {st : Stmt} {f : Addr} {fd : FuncData} {N ps : List Str} {k kc nc : Nat} {vol : Addr → Prop} {G : Hp → Prop} {m : Addr → Phi → MS} (gst : GSt vol G) (D : FnP K x st [] f fd) (sc : FnScope N ps (defScope st)) (hN : ps.length ≤ N.length)
    (hb : ∀ (cdv : Value) (A : Around) (outer : List Env) (s : Shared) (H S : Hp) (g : Addr) (Φ : Phi) (F : CF) (qs fr : List Str) (ws : List (Option V)), Room k (A.deeper (envOfC x (defScope st) s.heap.objs.size f cdv)) → CloF P w K mg base vol G S kc nc Φ g F qs fr ws s H (frs outer) →
      ∃ t, PSL (cxOf CX0 P w K mg base N x (defScope st) f cdv A outer s H E0).nox (gc vol G gst S H) (defBody st) t (m g Φ)) :
    FnC P w K mg base (k + 1) f fd ps (spC P w K mg base vol G kc nc ps.length fun g Φ => bodyPhi N.length ps.length (m g Φ)) := by
  have len : ∀ s outer vs H Q E, spC P w K mg base vol G kc nc ps.length (fun g Φ => bodyPhi N.length ps.length (m g Φ)) s outer vs H Q E → vs.length = ps.length := fun s outer vs H Q E h => by
    obtain ⟨S, as, Pr, g, Φ, F, qs, fr, ws, ln, ha, _⟩ := h
    rw [paired_len ha, ln]
  refine ⟨len, fun A outer s H args us vs Q hr e0 hbd r h => ?_⟩
  obtain ⟨oc, od, dV, kV, doc, pm, an, cdv, ct, osl, rfl, lk, hcd, _, _⟩ := D.ex
  refine run_ofS (CX := CX0) lk hcd sc hr e0 hbd r (len _ _ _ _ _ _ h) fun hr2 => ?_
  obtain ⟨S, as, Pr, g, Φ, F, qs, fr, ws, ln, ha, gd, c, hΦ, k1⟩ := h
  obtain ⟨t, ht⟩ := hb cdv A outer s H S g Φ F qs fr ws hr2 c
  refine ⟨t, ht.pe.nox, ?_⟩
  refine ht.rd S H (L2.start N vs) _ _ _ (rel_start rfl rfl gd ha ln hN) hΦ (fun ρ' S' H' σ' p _ r => ?_) (fun d S' H' v p g' s' q => k1 d S' H' v p s' g' q) (fun _ _ _ _ z => z.elim) (fun _ _ _ _ z => z.elim)
  exact k1 .none S' H' .non p r.stp r.good Dp.non
section
variable {X : Cx} {C : GC X.K} {x : Str} {e : Expr} {es : List Expr} {t : TA} {p pos : Pos} {k kc n nc : Nat} {f : Addr} {fd : FuncData} {ps : List Str} {m : MA} {Ψ : Addr → Phi → Phi}
def tCallC (X : Cx) (sp : Shared → List Env → Sp) (t : TA) : TE := fun σ H Q => t σ H fun vs H1 => ∀ pins s, Inv X pins σ H1 s → sp s X.stack vs H1 Q E0
theorem pe_callC {sp : Shared → List Env → Sp} (g : FnC X.prog X.w X.K X.mg X.base k f fd ps sp) (hr : Room k X.A) (hg : Gl X x) (hm : X.mg x = some (.ref f)) (hk : PySem.W.keepIn X.K (.ref f) = true) (hb : Binds X.K fd ps []) (ha : PA X (e :: es) t)
    (hdb : (x == ("__debug__" : Str)) = false) (he : starEach (e :: es) X.env = (false, eval e X.env) :: starEach es X.env) (hpl : (backTo pos (starEach es X.env)).any (·.1) = false) : PE X (.Call (.Name x p) (e :: es) [] pos) (tCallC X sp t) := by
  refine ⟨fun pins s σ H Q I h => wpAny_Call_Name_kw (ld_glob I hg hm ?_ hdb)⟩
  refine PySem.W.callWith_K (h₀ := X.base) I.ok.mod.kin hk (thn (ha.run pos pins s σ H _ I h) fun us s1 ⟨vs, H1, I1, r, q⟩ => ⟨I1.kIn, ?_⟩) he hpl
  have q := q pins s1 I1
  have hl : (us ++ []).length = ps.length := by rw [List.append_nil, ← r.length]; exact g.len _ _ _ _ _ _ q
  have hbd := hb s1 us I1.kIn hl
  rw [List.append_nil] at hbd
  refine wpAny_call (codeAny_mono (g.run X.A X.stack s1 H1 ⟨us, []⟩ us vs Q hr I1.env0 hbd r q) fun r s' hq => ?_)
  cases r with
  | error e => exact (show False from hq).elim
  | ok fl =>
    cases fl with
    | ret u => exact I1.after hq
    | next => exact False.elim hq
    | brk => exact False.elim hq
    | cont => exact False.elim hq
/-- handed on to another def -/
def mCallC (Ψ : Addr → Phi → Phi) (f : Addr) (Φ : Phi) (m : MA) : ME := fun ρ P => m ρ fun as => Ψ f Φ as P fun _ => False
theorem CloF.up {P : Program} {w : World} {K : PySem.W.Frag} {mg : Str → Option Value} {base : Heap} {vol : Addr → Prop} {G : Hp → Prop} {S0 S : Hp} {Φ : Phi} {g : Addr} {F : CF} {qs fr : List Str} {ws : List (Option V)} {s : Shared} {H : Hp} {fs : List Addr} (c : CloF P w K mg base vol G S0 kc nc Φ g F qs fr ws s H fs) (h : Same S0 S) : CloF P w K mg base vol G S kc nc Φ g F qs fr ws s H fs :=
  ⟨c.pl, c.nok.imp fun ws' vs H Q E ⟨e, S', as, P, PX, hs, r⟩ => ⟨e, S', as, P, PX, h.trans hs, r⟩, c.hf, c.hc, c.nf, c.nc, c.cells, c.out⟩
theorem p_callC {g : Addr} {Φ : Phi} {F : CF} {qs fr : List Str} {ws : List (Option V)} (O : FnC X.prog X.w X.K X.mg X.base k f fd ps (spC X.prog X.w X.K X.mg X.base C.vol C.G kc nc n Ψ)) (c : CloF X.prog X.w X.K X.mg X.base C.vol C.G C.S0 kc nc Φ g F qs fr ws X.s_0 X.H_0 X.fs) (hr : Room k X.A) (hm : X.mg x = some (.ref f)) (hk : PySem.W.keepIn X.K (.ref f) = true) (hb : Binds X.K fd ps [])
    (ha : PAn X C n (e :: es) t m) (hH : C.H0 = X.H_0 := by rfl) (hx : X.ex = [] := by rfl) (hg : Gl X x := by rfl)
    (hdb : (x == ("__debug__" : Str)) = false := by decide) (he : starEach (e :: es) X.env = (false, eval e X.env) :: starEach es X.env := by rfl) (hpl : (backTo pos (starEach es X.env)).any (·.1) = false := by rfl) :
    PP X C (.Call (.Name x p) (e :: es) [] pos) (tCallC X (spC X.prog X.w X.K X.mg X.base C.vol C.G kc nc n Ψ) t) (mCallC Ψ g Φ m) := ⟨pe_callC O hr hg hm hk hb ha.pe hdb he hpl, fun S H σ ρ P Q rl hmm k => by
  refine ha.rd S H σ ρ _ _ rl hmm fun as S1 H1 vs p1 ln s1 g1 r1 => ?_
  intro pins s I
  have st := rl.stp.trans rl.good s1
  exact ⟨S1, as, P, g, Φ, F, qs, fr, ws, ln, r1, g1, (c.later hx I fun a φ nv q => st.hh a (.ext φ) nv (by rw [hH]; exact q)).up st.ss, p1, fun d S' H' v pd s g r => k d S' H' v pd (s1.trans g1 s) g r⟩⟩
end
end Pu

set_option Elab.async false
set_option linter.all false
set_option maxRecDepth 100000
set_option maxHeartbeats 4000000
/-! Pure readings: the body of a nested def; a def whose body is «def a(..): ..; return g(.., a)». -/
namespace Pu
open PySem PySem.Spec L2 NdefX LamX
open PyProof.Rows hiding St
theorem slotAt_startF {N : List Str} {vs ws : List V} (i : Nat) : NdefX.slotAt (startF N vs (ws.map some)) i = (vs ++ ws)[i]? := by
  have e : startF N vs (ws.map some) = (vs ++ ws).map some ++ List.replicate (N.length - vs.length - (ws.map some).length) none := by
    unfold startF
    rw [List.map_append, List.append_assoc]
  rw [e]
  unfold NdefX.slotAt
  by_cases h : i < (vs ++ ws).length
  · rw [List.getElem?_append_left (by rw [List.length_map]; exact h), List.getElem?_map]
    cases e : (vs ++ ws)[i]? with
    | none => rfl
    | some v => rfl
  · rw [List.getElem?_append_right (by rw [List.length_map]; omega), List.getElem?_replicate]
    have e : (vs ++ ws)[i]? = none := List.getElem?_eq_none_iff.mpr (by omega)
    rw [e]
    split <;> rename_i q
    · split at q <;> first | (cases q; rfl) | cases q
    · rfl
theorem rel_startF {K : PySem.W.Frag} {C : GC K} {S : Hp} {H : Hp} {N : List Str} {vs ws : List V} {as : List Sl} {n : Nat} (hS : C.S0 = S) (hH : C.H0 = H) (g : Good C.vol C.G S H) (h : ArgsOk K S (vs ++ ws) as) (ln : as.length = n) (hN : n ≤ N.length) : Rel C S H (startF N vs (ws.map some)) (as ++ List.replicate (N.length - n) .un) := by
  have hl := paired_len h
  refine ⟨g, ?_, fun i => ?_, fun i j l h1 => ?_, ?_⟩
  · rw [hS, hH]; exact Stp.refl
  · rw [slotAt_startF, gt_app]
    rcases args_at i h with e | ⟨v, s, e1, e2, q⟩
    · rw [e]; trivial
    · rw [e1, e2]
      cases s with
      | da d => exact ⟨v, rfl, q⟩
      | rw u => cases (show v = u from q); exact rfl
      | _ => exact (q : False).elim
  · rw [gt_app] at h1
    rcases args_at i h with e | ⟨v, s, e1, e2, q⟩
    · rw [e] at h1; cases h1
    · rw [e2] at h1
      rw [show ((some s).getD Sl.un) = s from rfl, args_noown q] at h1
      cases h1
  · unfold startF
    rw [List.length_append] at hl
    rw [List.length_append, List.length_append, List.length_append, List.length_map, List.length_map, List.length_replicate, List.length_replicate]
    omega
/-- what a nested def promises, its captured names holding ds -/
def cloPhi (N n : Nat) (ds : List D) (m : MS) : Phi := fun as P _ => m ((as ++ ds.map .da) ++ List.replicate (N - n) .un) ⟨fun _ => P .none, P, fun _ => False, fun _ => False⟩
theorem nok_pure {P : Program} {w : World} {K : PySem.W.Frag} {mg : Str → Option Value} {base : Heap} {N ps fr : List Str} {F : NF} {f : Addr} {k : Nat} {vol : Addr → Prop} {G : Hp → Prop} {m : MS} {S0 : Hp} {ws : List V} {ds : List D} (gst : GSt vol G) (sc : NScope N ps fr F.scope)
    (hb : ∀ (doc pm ctv : Value) (us : List Value), us.length = ps.length → bindArgs (F.fd doc pm ctv) ⟨us, []⟩ = pure (ps.zip us)) (hw : DpAll K S0 ws ds) (hl : ws.length = fr.length) (hN : ps.length + fr.length ≤ N.length)
    (hbody : ∀ (A : Around) (outer : List Env) (s : Shared) (H S : Hp) (E : XK), Room k (A.deeper (envF F f s.heap.objs.size)) → ∃ t, PSL (ncx CX0 P w K mg base N F f A outer s H E).nox (gc vol G gst S H) F.body t m) :
    NOk P w K mg base CX0 (k + 1) f F ps fr (fun ws' vs H Q E => ws' = ws.map some ∧ spGS K vol G S0 ps.length (cloPhi N.length (ps.length + fr.length) ds m) vs H Q E) := by
  refine nok_of sc hb (fun ws' vs H Q E h => spGS_len h.2) fun A outer s H vs ws' Q E hr _ _ _ h => ?_
  obtain ⟨rfl, S, as, P, PX, hS, ln, ha, g, hΦ, k1⟩ := h
  obtain ⟨t, ht⟩ := hbody A outer s H S E hr
  refine ⟨t, ht.pe.nox, ?_⟩
  have lw := DpAll.length hw
  refine ht.rd S H (startF N vs (ws.map some)) _ _ _ (rel_startF rfl rfl g (args_app ha (args_da (DpAll.mono hS hw))) (n := ps.length + fr.length) (by rw [List.length_append, List.length_map, ln]; omega) hN) hΦ (fun ρ' S' H' σ' p _ r => ?_) (fun d S' H' v p g' s' q => k1 d S' H' v p s' g' q) (fun _ _ _ _ z => z.elim) (fun _ _ _ _ z => z.elim)
  exact k1 .none S' H' .non p r.stp r.good Dp.non
section
variable {X : Cx} {C : GC X.K}
/-- the captured values -/
theorem caps_at {S H : Hp} {σ : L2.St} {ρ : List Sl} (rl : Rel C S H σ ρ) : ∀ {js : List Nat} {ds : List D}, js.map (gt ρ) = ds.map .da → (∀ d ∈ ds, isDic d = false) → ∃ ws : List V, js.map (NdefX.slotAt σ) = ws.map some ∧ DpAll X.K S ws ds
  | [], [], _, _ => ⟨[], rfl, .nil⟩
  | [], _ :: _, h, _ => by simp at h
  | _ :: _, [], h, _ => by simp at h
  | j :: js, d :: ds, h, nd => by
    rw [List.map_cons, List.map_cons] at h
    obtain ⟨h1, h2⟩ := List.cons.inj h
    obtain ⟨ws, q1, q2⟩ := caps_at (js := js) (ds := ds) rl h2 fun d hd => nd d (List.mem_cons_of_mem _ hd)
    have hs := rl.sl j
    rw [h1] at hs
    obtain ⟨v, e, r⟩ := hs
    exact ⟨v :: ws, by rw [List.map_cons, List.map_cons, q1, e], .cons (Rep.dp r (nd d (List.mem_cons_self ..))) q2⟩
variable {st : Stmt} {T : List NTab} {nm : Nat → Nat → Str} {c P : Addr} {name a g : Str} {pos fp : Pos} {i n k kc nc : Nat} {e : Expr} {es : List Expr} {t : TA} {m : MA} {Ψ : Addr → Phi → Phi} {fg : Addr} {fd : FuncData} {ps qs fr : List Str} {js : List Nat} {Φc : List D → Phi} {p rp : Pos}
theorem sz_of {P : Program} {w : World} {H : Hp} {h : Heap} {a : Addr} : ∀ {o : HO}, ObjOk P w H h a o → SzO o
  | .lst _, h => h.1
  | .tup _, h => h.1
  | .dK _, h => h.1
  | .dT _, h => h.1
  | .frz _ u, h => sz_of (o := u) h.2
  | .set _ _, _ => trivial
  | .ins _ _ _, _ => trivial
  | .own _, _ => trivial
  | .xd _, _ => trivial
  | .rng _ _, _ => trivial
  | .tbl _, _ => trivial
  | .met _ _, _ => trivial
  | .ext _, _ => trivial
def tNdefI (T : List NTab) (i : Nat) (mk : Addr → NF) : TS := fun D σ H => TabsN T H ∧ ∀ (f c' : Addr) (H1 : Hp), ExtN H H1 → (∀ b, H1 b = Option.none → H b = Option.none) → TabsN T H1 → H f = none → H1 f = some (FnO f (mk c')) → H1 c' = some (CodeO c' (mk c').qual) → (∀ b o, H1 b = some o → SzO o) → D.nx (σ.set i (some (.ref f))) H1
theorem ps_ndefI {mk : Addr → NF} (h : PS X st (tNdefM T i mk)) : PS X st (tNdefI T i mk) := ⟨fun pins s σ H D I hw => by
  refine thn (h.run pins s σ H { D with nx := fun σ' H' => (∀ b o, H' b = some o → SzO o) → D.nx σ' H' } I ⟨hw.1, fun f c' H1 a1 a2 a3 a4 a5 a6 z => hw.2 f c' H1 a1 a2 a3 a4 a5 a6 z⟩) fun fl s' q => ?_
  cases fl with
  | next =>
    obtain ⟨σ', H', J, q⟩ := q
    exact ⟨σ', H', J, q fun b o e => sz_of (J.hok b o e)⟩
  | brk => exact q
  | cont => exact q
  | ret u => exact q⟩
/-- def a(..): .. ; return g(.., a): the captured names hold what doesn't change -/
def mNdef (i : Nat) (js : List Nat) (Φc : List D → Phi) (Ψ : Addr → Phi → Phi) (m : MA) : MS := fun ρ E => ∃ ds, js.map (gt ρ) = ds.map .da ∧ (∀ d ∈ ds, isDic d = false) ∧ ∀ f, m (ρ.set i (.rw (.ref f))) fun as => Ψ f (Φc ds) as E.rt fun _ => False
theorem b_ndef (hvol : C.vol = vT T) (hG : C.G = gT T) (hp : PS X st (tNdefM T i (NF.of st name (X.env.qual ++ name) (cloFrom X.env.cells (C8.fnScope st).names []))))
    (O : FnC X.prog X.w X.K X.mg X.base k fg fd ps (spC X.prog X.w X.K X.mg X.base C.vol C.G kc nc n Ψ)) (hr : Room k X.A) (hm : X.mg g = some (.ref fg)) (hk : PySem.W.keepIn X.K (.ref fg) = true) (hb : Binds X.K fd ps [])
    (ha : PAn X C n (e :: es) t m) (hg : Gl X g) (hdb : (g == ("__debug__" : Str)) = false) (he : starEach (e :: es) X.env = (false, eval e X.env) :: starEach es X.env) (hpl : (backTo pos (starEach es X.env)).any (·.1) = false)
    (cp : X.Ok → Caps X (cloFrom X.env.cells (C8.fnScope st).names []) fr js) (hq : qs.length = nc) (hi : i ∉ js)
    (hnok : ∀ (f c' : Addr) (S : Hp) (ws : List V) (ds : List D), DpAll X.K S ws ds → ws.length = fr.length → NOk X.prog X.w X.K X.mg X.base CX0 kc f (NF.of st name (X.env.qual ++ name) (cloFrom X.env.cells (C8.fnScope st).names []) c') qs fr (fun ws' vs H Q E => ws' = ws.map some ∧ spGS X.K C.vol C.G S nc (Φc ds) vs H Q E))
    (hfn : ∀ y, X.fn y = true) :
    ∃ t, PSL X C [st, .Return (some (.Call (.Name g p) (e :: es) [] pos)) rp] t (mNdef i js Φc Ψ m) := by
  refine ⟨_, pss_cons (ps_ndefI hp) (pss_one (ps_ret (pe_callC O hr hg hm hk hb ha.pe hdb he hpl))), fun S H σ ρ E N rl hmm k1 k2 k3 k4 => ?_⟩
  obtain ⟨ds, hjs, hnd, hmm⟩ := hmm
  have hT : TabsN T H := by
    have := rl.good.g
    rw [hG] at this
    exact this
  refine ⟨hT, fun f c' H1 eN nn T1 f0 f1 c1 sz => ?_⟩
  have nv : ∀ a, C.vol a → ∃ tb, H1 a = some (.tbl tb) := fun a v => by
    rw [hvol] at v
    exact gT_tbl (T := T) T1 v
  have hf : ¬ C.vol f := fun v => rl.good.vh f v f0
  have hc : ¬ C.vol c' := fun v => by
    obtain ⟨tb, q⟩ := nv c' v
    rw [c1] at q
    cases q
  have g1 : Good C.vol C.G S H1 := ⟨fun a u e => eN a u (rl.good.sub a u e) fun tb q => by subst q; exact rl.good.tp a _ e, by rw [hG]; exact T1, rl.good.vs, fun a v e => rl.good.vh a v (nn a e), sz, rl.good.tp⟩
  have st1 : Stp C.vol S H S H1 := ⟨Same.refl S, fun a o n e nt => eN a o e nt, fun a o e => .inl e, nn⟩
  have r1 : Rel C S H1 (σ.set i (some (.ref f))) (ρ.set i (.rw (.ref f))) := (rl.step st1 g1).put i rfl (fun h => by cases h)
  refine ha.rd S H1 _ _ _ _ r1 (hmm f) fun as S2 H2 vs p2 ln s2 g2 ra => ?_
  intro pins s I
  have r2 := r1.step s2 g2
  obtain ⟨ws, hw, hd⟩ := caps_at rl hjs hnd
  have hw2 : js.map (NdefX.slotAt (σ.set i (some (V.ref f)))) = ws.map some := by
    rw [← hw]
    refine List.map_congr_left fun j hj => ?_
    rw [slotAt_set, if_neg fun q => hi (by rw [← q.1]; exact hj)]
  have Cp := cp I.ok
  have cl := cells_of I Cp
  rw [hw2] at cl
  have hlw : ws.length = fr.length := by
    have := cl.len
    rw [List.length_map] at this
    exact this
  have st0 := r1.stp.trans g1 s2
  refine ⟨S2, as, E.rt, f, Φc ds, CF.nf (NF.of st name (X.env.qual ++ name) (cloFrom X.env.cells (C8.fnScope st).names []) c'), qs, fr, ws.map some, ln, ra, g2, ?_, p2, fun d S' H' v pd s' g' q => k2 d S' H' v pd g' ((rl.stp.trans rl.good st1).trans g1 (s2.trans g2 s')) q⟩
  refine ⟨hq, COk.nf <| hnok f c' S2 ws ds (DpAll.mono s2.ss hd) hlw, s2.hh f _ hf f1, s2.hh c' _ hc c1, hf, hc, cl, fun y d e => ?_⟩
  have e' := Cp.sub y d e
  intro hfs
  have hge := I.ok.cab y d (hfn y) e'
  rcases I.ok.stk with q | ⟨q, q2⟩
  · rw [q] at hfs
    obtain ⟨_, o, ho, _⟩ := I.ok.funs.mem hfs
    exact absurd (Heap.lt_size ho) (Nat.not_lt.mpr hge)
  · rw [q] at hfs
    unfold frs at hfs
    rw [List.filterMap_cons, q2] at hfs
    rcases List.mem_cons.mp hfs with z | z
    · exact I.cne y d e' z
    · obtain ⟨_, o, ho, _⟩ := I.ok.funs.mem z
      exact absurd (Heap.lt_size ho) (Nat.not_lt.mpr hge)
end
end Pu
namespace Pu
open PySem PySem.Spec L2 NdefX LamX
open PyProof.Rows hiding St
/-- as fnD, the code object told -/
theorem fnDc {P : Program} {w : World} {K : PySem.W.Frag} {mg : Str → Option Value} {base : Heap} {x : Str} {st : Stmt} {dvs : List V} {f : Addr} {fd : FuncData} {N ps : List Str} {k : Nat} {vol : Addr → Prop} {G : Hp → Prop} {m : MS} (gst : GSt vol G) (F : FnP K x st dvs f fd) (sc : FnScope N ps (defScope st)) (hN : ps.length ≤ N.length)
    (hb : ∀ (cdv : Value) (A : Around) (outer : List Env) (s : Shared) (H S : Hp) (E : XK), fd.code = cdv → Room k (A.deeper (envOfC x (defScope st) s.heap.objs.size f cdv)) →
      ∃ t, PSL (cxOf CX0 P w K mg base N x (defScope st) f cdv A outer s H E).nox (gc vol G gst S H) (defBody st) t m) :
    FnOk P w K mg base CX0 (k + 1) f fd ps (spG K vol G ps.length (bodyPhi N.length ps.length m)) := by
  obtain ⟨oc, od, dV, kV, doc, pm, an, cdv, ct, osl, rfl, lk, hcd, _, _⟩ := F.ex
  refine fn_of lk hcd sc (fun vs H Q E h => ?_) (fun A outer s H vs Q E hr h => ?_)
  · obtain ⟨S, as, P, PX, ln, ha, _⟩ := h
    rw [paired_len ha, ln]
  · obtain ⟨S, as, P, PX, ln, ha, g, hΦ, k1, k2⟩ := h
    obtain ⟨t, ht⟩ := hb cdv A outer s H S E rfl hr
    refine ⟨t, ht.pe.nox, ?_⟩
    refine ht.rd S H (L2.start N vs) _ _ _ (rel_start rfl rfl g ha ln hN) hΦ (fun ρ' S' H' σ' p _ r => ?_) (fun d S' H' v p g' s' q => k1 d S' H' v p s' g' q) (fun _ _ _ _ z => z.elim) (fun _ _ _ _ z => z.elim)
    exact k1 .none S' H' .non p r.stp r.good Dp.non
/-- what a def that makes a nested one asks of the tables -/
structure Mk (base : Heap) (mg : Str → Option Value) (T : List NTab) (fd : FuncData) (q : Str) : Prop where
  ex : ∃ c Pt, fd.code = .ref c ∧ TabB base mg c Pt ∧ (Pt, fun _ _ => q) ∈ T ∧ ∀ p ∈ T, p.1 = Pt → p.2 = fun _ _ => q
end Pu

set_option Elab.async false
set_option linter.all false
set_option maxRecDepth 100000
set_option maxHeartbeats 4000000
/-! Pure readings: the well. -/
namespace Pu
open PySem PySem.Spec L2
open PyProof.Rows hiding St
section
variable {X : Cx} {C : GC X.K} {e : Expr} {te : TE} {me : ME} {pos p p2 p3 pt : Pos} {T : List NTab} {w : Addr} {x y : Str} {c0 k2 : Nat}
theorem well_at {S H : Hp} (hG : C.G = gW T w) (g : Good C.vol C.G S H) : ∃ a b c : Int, 0 ≤ a ∧ 0 ≤ b ∧ 0 ≤ c ∧ H w = some (.lst [.int a, .int b, .int c]) := by
  have := g.g
  rw [hG] at this
  exact this.2
/-- well[j], j = 0, 1, 2: some number that is not negative -/
def mWix (w : Addr) (i : Nat) : ME := fun ρ P => gt ρ i = .rw (.ref w) ∧ ∀ n : Int, 0 ≤ n → P (.int n)
theorem p_wix (w : Addr) (i : Nat) (j : Int) {K₁ : PySem.W.Frag} (hj : j = 0 ∨ j = 1 ∨ j = 2) (hG : C.G = gW T w := by rfl) (hN : X.N[i]? = some x := by rfl) (hv : Vis X.env.scope x := by first | exact Or.inl rfl | exact Or.inr (Or.inl rfl) | exact Or.inr (Or.inr rfl)) (hd : (x == ("__debug__" : Str)) = false := by decide)
    (hcd : (x == ("__classdict__" : Str)) = false := by decide) (hs : PlainIx (.Constant (.int j) c0 p2) := by exact fun _ _ => rfl) (hK₁ : X.K = K₁ := by first | exact blkK2 | exact blkK | exact rfl) :
    PP X C (.Subscript (.Name x p) (.Constant (.int j) c0 p2) pos) (tOp (rIx K₁) (tVar i) (tC (.int j))) (mWix w i) := by
  subst hK₁
  refine ⟨pe_ix ix_seq (pe_var hN hv hd hcd) pe_int hs, fun S H σ ρ P Q rl hm k => ?_⟩
  obtain ⟨h1, hm⟩ := hm
  have q := rl.sl i
  rw [h1] at q
  obtain ⟨a, b, c, ha, hb, hc, hw⟩ := well_at hG rl.good
  refine ⟨.ref w, NdefX.slotAt_some q, ?_⟩
  have fin : ∀ v n, 0 ≤ n → v = V.int n → Q v H := fun v n hn e => by
    rw [e]
    exact k _ S H _ (hm n hn) Stp.refl rl.good (Dp.int n)
  rcases hj with rfl | rfl | rfl
  · exact .inl ⟨w, _, 0, .int a, rfl, rfl, .inl (.inl hw), rfl, fin _ a ha rfl⟩
  · exact .inl ⟨w, _, 1, .int b, rfl, rfl, .inl (.inl hw), rfl, fin _ b hb rfl⟩
  · exact .inl ⟨w, _, 2, .int c, rfl, rfl, .inl (.inl hw), rfl, fin _ c hc rfl⟩
/-- the well is written -/
theorem well_put {S H : Hp} {σ : St} {ρ : List Sl} (hv : C.vol = vW T w) (hG : C.G = gW T w) (rl : Rel C S H σ ρ) {a b c : Int} (ha : 0 ≤ a) (hb : 0 ≤ b) (hc : 0 ≤ c) : Rel C S (upd H w (.lst [.int a, .int b, .int c])) σ ρ := by
  obtain ⟨a0, b0, c0, _, _, _, hw⟩ := well_at hG rl.good
  have nS : S w = none := rl.good.vs w (by rw [hv]; exact .inr rfl)
  have vw : C.vol w := by rw [hv]; exact .inr rfl
  have st : Stp C.vol S H S (upd H w (.lst [.int a, .int b, .int c])) := by
    refine ⟨Same.refl S, fun l o n h _ => ?_, fun l o h => .inl h, dm_upd⟩
    exact (upd_ne fun q => n (by rw [q]; exact vw)).trans h
  have hgg := rl.good.g
  rw [hG] at hgg
  have nt : ∀ p ∈ T, p.1 ≠ w := fun p hp q => by
    obtain ⟨ps, e, _⟩ := hgg.1 p hp
    rw [q, hw] at e
    cases e
  refine rl.step st ⟨fun l o h => (upd_ne fun q => by rw [q, nS] at h; cases h).trans (rl.good.sub l o h), ?_, rl.good.vs, fun l v => ?_, fun l o h => ?_, rl.good.tp⟩
  · rw [hG]
    refine ⟨fun p hp => ?_, a, b, c, ha, hb, hc, upd_same⟩
    obtain ⟨ps, e1, e2, e3⟩ := hgg.1 p hp
    refine ⟨ps, (upd_ne (nt p hp)).trans e1, e2, fun pos cv hcv => ?_⟩
    obtain ⟨d, d1, d2⟩ := e3 pos cv hcv
    refine ⟨d, d1, (upd_ne fun q => ?_).trans d2⟩
    rw [q, hw] at d2
    cases d2
  · by_cases h : l = w
    · rw [h, upd_same]; exact fun z => nomatch z
    · rw [upd_ne h]; exact rl.good.vh l v
  · by_cases q : l = w
    · rw [q, upd_same] at h
      cases h
      show 3 ≤ sizeLine
      decide
    · rw [upd_ne q] at h
      exact rl.good.sz l o h
/-- well[j] = e -/
def mWset (w : Addr) (i : Nat) (me : ME) : MS := fun ρ E => gt ρ i = .rw (.ref w) ∧ me ρ fun d => match d with
  | .int n => 0 ≤ n ∧ E.nx ρ
  | _ => False
theorem set3 {H : Hp} {w : Addr} {a b c n j : Int} {Q : Hp → Prop} (hw : H w = some (.lst [.int a, .int b, .int c])) (hj : j = 0 ∨ j = 1 ∨ j = 2) (q : ∀ a' b' c' : Int, (a' = a ∨ a' = n) → (b' = b ∨ b' = n) → (c' = c ∨ c' = n) → Q (upd H w (.lst [.int a', .int b', .int c']))) : rSetL (.ref w) (.int j) (.int n) H Q := by
  rcases hj with rfl | rfl | rfl
  · exact ⟨w, _, 0, 0, rfl, rfl, hw, rfl, q n b c (.inr rfl) (.inl rfl) (.inl rfl)⟩
  · exact ⟨w, _, 1, 1, rfl, rfl, hw, rfl, q a n c (.inl rfl) (.inr rfl) (.inl rfl)⟩
  · exact ⟨w, _, 2, 2, rfl, rfl, hw, rfl, q a b n (.inl rfl) (.inl rfl) (.inr rfl)⟩
theorem x_wset (w : Addr) (i : Nat) (j : Int) (hj : j = 0 ∨ j = 1 ∨ j = 2) (h : PP X C e te me) (hvo : C.vol = vW T w := by rfl) (hG : C.G = gW T w := by rfl) (hN : X.N[i]? = some x := by rfl) (hv : Vis X.env.scope x := by first | exact Or.inl rfl | exact Or.inr (Or.inl rfl) | exact Or.inr (Or.inr rfl)) (hd : (x == ("__debug__" : Str)) = false := by decide)
    (hcd : (x == ("__classdict__" : Str)) = false := by decide)
    (ha : ∀ v, assign (.Subscript (.Name x p) (.Constant (.int j) c0 p2) pt) X.env v = (do
      let ov ← holding [v] (eval (.Name x p) X.env)
      let iv ← holding [v, ov] (eval (.Constant (.int j) c0 p2) X.env)
      standAt pt
      holding [v, ov, iv] (setItem ov iv v)
      release [v, ov, iv] []) := by intro _; rfl)
    (hs : swapsWithSole [.Subscript (.Name x p) (.Constant (.int j) c0 p2) pt] e pos.line X.env = pure false := by rfl) (hsw : swappedStores [.Subscript (.Name x p) (.Constant (.int j) c0 p2) pt] e X.env = pure none := by rfl)
    (h1 : (assignEach [.Subscript (.Name x p) (.Constant (.int j) c0 p2) pt] X.env).map (·.2) = [assign (.Subscript (.Name x p) (.Constant (.int j) c0 p2) pt) X.env] := by rfl) :
    PSt X C (.Assign [.Subscript (.Name x p) (.Constant (.int j) c0 p2) pt] e pos) (tAsg te (gSub (tVar i) (tC (.int j)) rSetL)) (mWset w i me) := ⟨ps_asg h.pe (pg_sub (pe_var hN hv hd hcd) pe_int set_list ha) hs hsw h1, fun S H σ ρ E N rl hm k1 k2 k3 k4 => by
  obtain ⟨hi, hm⟩ := hm
  refine h.rd S H σ ρ _ _ rl hm fun d S1 H1 v p1 s1 g1 r1 => ?_
  cases d with
  | int n =>
    obtain ⟨hn, p1⟩ := p1
    have r := rl.step s1 g1
    have q := r.sl i
    rw [hi] at q
    have ev : v = .int n := rint (X := X) (RepH.of g1 r1)
    subst ev
    obtain ⟨a, b, c, ha', hb', hc', hw⟩ := well_at hG g1
    refine ⟨.ref w, NdefX.slotAt_some q, set3 hw hj fun a' b' c' e1 e2 e3 => ?_⟩
    have r2 := well_put hvo hG r (a := a') (b := b') (c := c') (by rcases e1 with rfl | rfl <;> assumption) (by rcases e2 with rfl | rfl <;> assumption) (by rcases e3 with rfl | rfl <;> assumption)
    exact k1 _ S1 _ σ p1 s1.ss r2
  | _ => exact (p1 : False).elim⟩
/-- well[j], y = e -/
def mWdiv (w : Addr) (i l : Nat) (me : ME) : MS := fun ρ E => gt ρ i = .rw (.ref w) ∧ me ρ fun d => match d with
  | .tuple [.int n, b] => 0 ≤ n ∧ E.nx (ρ.set l (.da b))
  | _ => False
theorem x_wdiv (w : Addr) (i l : Nat) (j : Int) {kt : Nat} {py ptt : Pos} {K₁ : PySem.W.Frag} (hj : j = 0 ∨ j = 1 ∨ j = 2) (h : PP X C e te me) (nN : X.N.Nodup) (hvo : C.vol = vW T w := by rfl) (hG : C.G = gW T w := by rfl) (hN : X.N[i]? = some x := by rfl) (hl : X.N[l]? = some y := by rfl) (hv : Vis X.env.scope x := by first | exact Or.inl rfl | exact Or.inr (Or.inl rfl) | exact Or.inr (Or.inr rfl)) (hd : (x == ("__debug__" : Str)) = false := by decide)
    (hcd : (x == ("__classdict__" : Str)) = false := by decide) (hy : Loc X.env.scope y := by first | exact Or.inl rfl | exact Or.inr rfl) (hyf : X.fn y = true ∨ X.env.scope.names.lookup y = some .local := by first | exact .inl rfl | exact .inr rfl)
    (ha : ∀ v, assign (.Subscript (.Name x p) (.Constant (.int j) c0 p2) pt) X.env v = (do
      let ov ← holding [v] (eval (.Name x p) X.env)
      let iv ← holding [v, ov] (eval (.Constant (.int j) c0 p2) X.env)
      standAt pt
      holding [v, ov, iv] (setItem ov iv v)
      release [v, ov, iv] []) := by intro _; rfl)
    (hs : swapsWithSole [.Tuple [.Subscript (.Name x p) (.Constant (.int j) c0 p2) pt, .Name y py] kt ptt] e pos.line X.env = pure false := by rfl) (hsw : swappedStores [.Tuple [.Subscript (.Name x p) (.Constant (.int j) c0 p2) pt, .Name y py] kt ptt] e X.env = pure none := by rfl)
    (h1 : (assignEach [.Tuple [.Subscript (.Name x p) (.Constant (.int j) c0 p2) pt, .Name y py] kt ptt] X.env).map (·.2) = [assign (.Tuple [.Subscript (.Name x p) (.Constant (.int j) c0 p2) pt, .Name y py] kt ptt) X.env] := by rfl)
    (h2 : (assignEach [.Subscript (.Name x p) (.Constant (.int j) c0 p2) pt, .Name y py] X.env).map (·.2) = assign (.Subscript (.Name x p) (.Constant (.int j) c0 p2) pt) X.env :: (assignEach [.Name y py] X.env).map (·.2) := by rfl) (h3 : (assignEach [.Name y py] X.env).map (·.2) = assign (.Name y py) X.env :: (assignEach [] X.env).map (·.2) := by rfl)
    (hn : (assignEach [.Subscript (.Name x p) (.Constant (.int j) c0 p2) pt, .Name y py] X.env).length = 2 := by rfl) (hst : (assignEach [.Subscript (.Name x p) (.Constant (.int j) c0 p2) pt, .Name y py] X.env).findIdx? (·.1) = none := by rfl) (hc : X.calm = true := by rfl) (hK₁ : X.K = K₁ := by first | exact blkK2 | exact blkK | exact rfl) :
    PSt X C (.Assign [.Tuple [.Subscript (.Name x p) (.Constant (.int j) c0 p2) pt, .Name y py] kt ptt] e pos) (tAsg te (gTup K₁ 2 (gCons (gSub (tVar i) (tC (.int j)) rSetL) (gCons (gName l) gNil)))) (mWdiv w i l me) := by
  subst hK₁
  refine ⟨ps_asg h.pe (pg_tup hc (pgs_cons (pg_sub (pe_var hN hv hd hcd) pe_int set_list ha) (pgs_cons (pg_name nN hl hy hyf) pgs_nil h3) h2) hn hst) hs hsw h1, fun S H σ ρ E N rl hm k1 k2 k3 k4 => ?_⟩
  obtain ⟨hi, hm⟩ := hm
  refine h.rd S H σ ρ _ _ rl hm fun d S1 H1 v p1 s1 g1 r1 => ?_
  split at p1
  · obtain ⟨hn0, p1⟩ := p1
    have r := rl.step s1 g1
    have q := r.sl i
    rw [hi] at q
    obtain ⟨t, vs, rfl, hd', hs', _⟩ := (RepH.of g1 r1).tup g1
    cases hd' with
    | cons a1 t1 =>
      cases t1 with
      | cons b1 t2 =>
        cases t2
        cases a1
        refine ⟨t, _, rfl, SqT.mono g1.sub hs', rfl, _, _, rfl, ?_⟩
        obtain ⟨a, b, c, ha', hb', hc', hw⟩ := well_at hG g1
        refine ⟨.ref w, NdefX.slotAt_some q, set3 hw hj fun a' b' c' e1 e2 e3 => ?_⟩
        have r2 := well_put hvo hG r (a := a') (b := b') (c := c') (by rcases e1 with rfl | rfl <;> assumption) (by rcases e2 with rfl | rfl <;> assumption) (by rcases e3 with rfl | rfl <;> assumption)
        exact ⟨_, _, rfl, rfl, k1 _ S1 _ _ p1 s1.ss (r2.set l (Rep.of b1))⟩
  · exact p1.elim
/-- y = y + (x.pop(e),), x an own list, y a tuple -/
def mPopCat (i l : Nat) (me : ME) : MS := fun ρ E => match gt ρ l, gt ρ i with
  | .da (.tuple fs), .ow ds => me ρ fun d => match d with
    | .int n => ∃ z, 0 ≤ n ∧ n < ds.length ∧ ds[n.toNat]? = some z ∧ ds.length ≤ sizeLine ∧ fs.length + 1 ≤ sizeLine ∧ E.nx ((ρ.set i (.ow (ds.eraseIdx n.toNat))).set l (.da (.tuple (fs ++ [z]))))
    | _ => False
  | _, _ => False
theorem x_popcat (i l : Nat) {kt : Nat} {px py py2 apos cpos bpos : Pos} {K₁ : PySem.W.Frag} (h : PP X C e te me) (nN : X.N.Nodup) (hN : X.N[i]? = some x := by rfl) (hl : X.N[l]? = some y := by rfl) (hv : Vis X.env.scope x := by first | exact Or.inl rfl | exact Or.inr (Or.inl rfl) | exact Or.inr (Or.inr rfl)) (hd : (x == ("__debug__" : Str)) = false := by decide)
    (hcd : (x == ("__classdict__" : Str)) = false := by decide) (hvy : Vis X.env.scope y := by first | exact Or.inl rfl | exact Or.inr (Or.inl rfl) | exact Or.inr (Or.inr rfl)) (hdy : (y == ("__debug__" : Str)) = false := by decide) (hcdy : (y == ("__classdict__" : Str)) = false := by decide)
    (hy : Loc X.env.scope y := by first | exact Or.inl rfl | exact Or.inr rfl) (hyf : X.fn y = true ∨ X.env.scope.names.lookup y = some .local := by first | exact .inl rfl | exact .inr rfl) (pl : MPl X (.Name x px) "pop" apos e [] cpos := by exact ⟨rfl, rfl, rfl, rfl, rfl⟩)
    (ht : starEach [.Call (.Attribute (.Name x px) "pop" apos) [e] [] cpos] X.env = (false, eval (.Call (.Attribute (.Name x px) "pop" apos) [e] [] cpos) X.env) :: starEach [] X.env := by rfl)
    (hs : swapsWith (.BinOp (.Name y py2) .Add (.Tuple [.Call (.Attribute (.Name x px) "pop" apos) [e] [] cpos] kt pt) bpos) (some (.Name y py)) pos.line X.env = pure false := by rfl) (hK₁ : X.K = K₁ := by first | exact blkK2 | exact blkK | exact rfl) :
    PSt X C (.Assign [.Name y py] (.BinOp (.Name y py2) .Add (.Tuple [.Call (.Attribute (.Name x px) "pop" apos) [e] [] cpos] kt pt) bpos) pos) (tAsg (tOp (rCatF K₁) (tVar l) (tTupF (tCons (tBM K₁ "list" rPopAt (tVar i) (tCons te tNil)) tNil))) (gName l)) (mPopCat i l me) := by
  subst hK₁
  refine ⟨ps_set nN hl hy (pe_op op_catF (pe_var hl hvy hdy hcdy) (pe_tupF (pa_cons (pe_bm PySem.F.plainAttrs_list PySem.F.slot_list_pop PySem.F.type_list_pop mt_popAt (pe_var hN hv hd hcd) (pa_cons h.pe pa_nil pl.st) pl.base pl.few pl.line pl.st pl.pl) pa_nil ht))) hs hyf, fun S H σ ρ E N rl hm k1 k2 k3 k4 => ?_⟩
  unfold mPopCat at hm
  split at hm
  · rename_i fs ds e1 e2
    have q1 := rl.sl l
    rw [e1] at q1
    obtain ⟨v, hvs, rv⟩ := q1
    obtain ⟨a, ws, ea, b1, b2, b3, b4, b5⟩ := ow_at rl e2
    refine ⟨v, NdefX.slotAt_some hvs, .ref a, NdefX.slotAt_some ea, .inl ⟨rfl, _, .inl (.inl b1)⟩, ?_⟩
    refine h.rd S H σ ρ _ _ rl hm fun d S1 H1 u p1 s1 g1 r1 => ?_
    cases d with
    | int n =>
      obtain ⟨z, h0, h1, h2, hz, hz2, p1⟩ := p1
      have eu : u = .int n := rint (X := X) (RepH.of g1 r1)
      subst eu
      have r' := rl.step s1 g1
      have b1' := s1.hh _ _ b4 b1
      have hln := DpAll.length b5
      obtain ⟨y', hy', dy⟩ := DpAll.get (DpAll.mono s1.ss b5) h2
      have hix : seqIndex? n ws.length = some n.toNat := seqIndex_of h0 (by omega)
      have h63 := line63
      refine ⟨a, ws, n, n.toNat, y', rfl, rfl, b1', by omega, by omega, hix, hy', ?_⟩
      have hle : (ws.eraseIdx n.toNat).length ≤ sizeLine := by
        have := List.length_eraseIdx_le ws n.toNat
        omega
      have r2 := r'.write i e2 ea (DpAll.erase n.toNat (DpAll.mono s1.ss b5)) hle
      refine ⟨show 1 ≤ sizeLine by decide, fun p o hp ho => ?_⟩
      obtain ⟨g3, s3⟩ := r2.good.new C.gst hp (o := .frz o (.tup [y'])) (show 1 ≤ sizeLine by decide) ho
      have rt : Rep X.K (upd S1 p (.frz o (.tup [y']))) (.ref p) (.tuple [z]) := Dp.tup (.inl (.inr ⟨o, upd_same⟩)) (DpAll.mono s3.ss (DpAll.one dy))
      have rv3 : Rep X.K (upd S1 p (.frz o (.tup [y']))) v (.tuple fs) := Rep.mono s3.ss (Rep.mono s1.ss rv)
      refine r2_catT _ _ _ _ _ _ (fun d => d = .tuple (fs ++ [z])) _ g3 (RepH.of g3 rv3) (RepH.of g3 rt) ⟨hz2, rfl⟩ fun d' S' H' v' ed s4 g4 r4 => ?_
      subst ed
      exact k1 _ S' H' _ p1 ((s1.ss.trans s3.ss).trans s4.ss) (((r2.step s3 g3).step s4 g4).set l r4)
    | _ => exact (p1 : False).elim
  · exact hm.elim
end
end Pu

set_option Elab.async false
set_option linter.all false
set_option maxRecDepth 100000
set_option maxHeartbeats 4000000
/-! Pure readings: repr of lists and tuples, for defs that are called with no guard around. -/
namespace Pu
open PySem PySem.Spec L2 NdefX LamX
open PyProof.Rows hiding St
section
variable {X : Cx} {C : GC X.K} {e : Expr} {es : List Expr} {pos p : Pos} {t : TA}
def rReprD (K : PySem.W.Frag) : List V → Hp → VK → Prop := fun xs H Q => ∃ a d, xs = [.ref a] ∧ Dp K H (.ref a) d ∧ d.showable = true ∧ d.hasDict = false ∧ d.depth ≤ 60 ∧ d.shown.length ≤ sizeLine ∧ Q (.str d.shown) H
theorem call_reprD (hg : X.A.guards = some []) (hu : X.A.units + 64 < cLine) : CallR X (.builtin "repr") (rReprD X.K) := by
  intro pins s σ H xs us Q I r h
  obtain ⟨a, d, rfl, hd, h1, h2, h3, h4, q⟩ := h
  obtain ⟨u, rfl, rx⟩ := vals1 r
  obtain ⟨as, rd⟩ := Dp.reads I d _ _ hd rx
  cases rx
  refine repr_of_reads' (h₀ := s.heap) rd h1 (fun z => by rw [h2] at z; cases z) hg (by omega) (fun _ _ e => e) (fun h' u tk hk => ?_) h4
  exact ⟨.str d.shown, H, I.kept (t' := tk) hk, ⟨u, rfl⟩, q⟩
def oRepr : List D → (D → Prop) → Prop
  | [.list ds], P => (PyData.list ds).showable = true ∧ (PyData.list ds).hasDict = false ∧ (PyData.list ds).depth ≤ 60 ∧ (PyData.list ds).shown.length ≤ sizeLine ∧ P (.str (PyData.list ds).shown)
  | _, _ => False
theorem cb_repr : CbOk C (rReprD X.K) oRepr := fun S H vs ds P Q g r p k => by
  unfold oRepr at p
  split at p
  · obtain ⟨h1, h2, h3, h4, p⟩ := p
    obtain ⟨x, rfl, r1⟩ := paired1 r
    obtain ⟨l, ws, rfl, ha, hl, _⟩ := r1.lst g
    exact ⟨l, _, rfl, .lst hl (DpAll.mono g.sub ha), h1, h2, h3, h4, k _ S H _ p Stp.refl g (Dp.str _)⟩
  · exact p.elim
theorem p_repr {K₁ : PySem.W.Frag} {n : ML} (hm : X.mg "repr" = none) (hgd : X.A.guards = some []) (hu : X.A.units + 64 < cLine) (ha : PAB X C (e :: es) t n) (hg : Gl X "repr" := by rfl) (pl : CallPl X e es pos := by exact ⟨rfl, rfl⟩) (hK₁ : X.K = K₁ := by first | exact blkK2 | exact blkK | exact rfl) :
    PP X C (.Call (.Name "repr" p) (e :: es) [] pos) (tCB (rReprD K₁) t) (mC1 oRepr n) := by subst hK₁; exact p_cb (call_reprD hgd hu) cb_repr PyProof.Rows.boot_repr hm ha hg (pl := pl)
end
/-- a def's promise, where no guard stands around the call -/
structure FnG (P : Program) (w : World) (K : PySem.W.Frag) (mg : Str → Option Value) (base : Heap) (k : Nat) (f : Addr) (fd : FuncData) (ps : List Str) (sp : Sp) : Prop where
  len : ∀ vs H Q E, sp vs H Q E → vs.length = ps.length
  run : ∀ (A : Around) (outer : List Env) (s : Shared) (H : Hp) (args : Args) (us : List Value) (vs : List V) (Q : VK), Room k A → A.guards = some [] → Env0 P w K mg base A outer s H → BindsTo s fd args (ps.zip us) → Vals vs us → sp vs H Q E0 →
    codeAny (model P w) A (.call (.ref f) args) (CR CX0 outer P w H s Q E0) s
theorem fnG {P : Program} {w : World} {K : PySem.W.Frag} {mg : Str → Option Value} {base : Heap} {x : Str} {st : Stmt} {f : Addr} {fd : FuncData} {N ps : List Str} {k : Nat} {vol : Addr → Prop} {G : Hp → Prop} {m : MS} (gst : GSt vol G) (D : FnP K x st [] f fd) (sc : FnScope N ps (defScope st)) (hN : ps.length ≤ N.length)
    (hb : ∀ (cdv : Value) (A : Around) (outer : List Env) (s : Shared) (H S : Hp), fd.code = cdv → (A.deeper (envOfC x (defScope st) s.heap.objs.size f cdv)).guards = some [] → Room k (A.deeper (envOfC x (defScope st) s.heap.objs.size f cdv)) →
      ∃ t, PSL (cxOf CX0 P w K mg base N x (defScope st) f cdv A outer s H E0).nox (gc vol G gst S H) (defBody st) t m) :
    FnG P w K mg base (k + 1) f fd ps (spG K vol G ps.length (bodyPhi N.length ps.length m)) := by
  have len : ∀ vs H Q E, spG K vol G ps.length (bodyPhi N.length ps.length m) vs H Q E → vs.length = ps.length := fun vs H Q E h => by
    obtain ⟨S, as, P, PX, ln, ha, _⟩ := h
    rw [paired_len ha, ln]
  refine ⟨len, fun A outer s H args us vs Q hr hgd e0 hbd r h => ?_⟩
  obtain ⟨oc, od, dV, kV, doc, pm, an, cdv, ct, osl, rfl, lk, hcd, _, _⟩ := D.ex
  refine run_ofS (CX := CX0) lk hcd sc hr e0 hbd r (len _ _ _ _ h) fun hr2 => ?_
  obtain ⟨S, as, Pr, PX, ln, ha, gd, hΦ, k1, _⟩ := h
  obtain ⟨t, ht⟩ := hb cdv A outer s H S rfl hgd hr2
  refine ⟨t, ht.pe.nox, ?_⟩
  refine ht.rd S H (L2.start N vs) _ _ _ (rel_start rfl rfl gd ha ln hN) hΦ (fun ρ' S' H' σ' p _ r => ?_) (fun d S' H' v p g' s' q => k1 d S' H' v p s' g' q) (fun _ _ _ _ z => z.elim) (fun _ _ _ _ z => z.elim)
  exact k1 .none S' H' .non p r.stp r.good Dp.non
section
variable {X : Cx} {C : GC X.K} {x : Str} {e : Expr} {es : List Expr} {t : TA} {p pos : Pos} {k n : Nat} {f : Addr} {fd : FuncData} {ps : List Str} {m : MA} {sp : Sp} {vol' : Addr → Prop} {G' : Hp → Prop} {Φ : Phi}
theorem pe_callG (g : FnG X.prog X.w X.K X.mg X.base k f fd ps sp) (hr : Room k X.A) (hgd : X.A.guards = some []) (hg : Gl X x) (hm : X.mg x = some (.ref f)) (hk : PySem.W.keepIn X.K (.ref f) = true) (hb : Binds X.K fd ps []) (ha : PA X (e :: es) t)
    (hdb : (x == ("__debug__" : Str)) = false) (he : starEach (e :: es) X.env = (false, eval e X.env) :: starEach es X.env) (hpl : (backTo pos (starEach es X.env)).any (·.1) = false) : PE X (.Call (.Name x p) (e :: es) [] pos) (tCall sp [] E0 t) := by
  refine ⟨fun pins s σ H Q I h => wpAny_Call_Name_kw (ld_glob I hg hm ?_ hdb)⟩
  refine PySem.W.callWith_K (h₀ := X.base) I.ok.mod.kin hk (thn (ha.run pos pins s σ H _ I h) fun us s1 ⟨vs, H1, I1, r, q⟩ => ⟨I1.kIn, ?_⟩) he hpl
  have q : sp (vs ++ []) H1 Q E0 := q
  rw [List.append_nil] at q
  have hl : (us ++ []).length = ps.length := by rw [List.append_nil, ← r.length]; exact g.len _ _ _ _ q
  have hbd := hb s1 us I1.kIn hl
  rw [List.append_nil] at hbd
  refine wpAny_call (codeAny_mono (g.run X.A X.stack s1 H1 ⟨us, []⟩ us vs Q hr hgd I1.env0 hbd r q) fun r s' hq => ?_)
  cases r with
  | error e => exact (show False from hq).elim
  | ok fl =>
    cases fl with
    | ret u => exact I1.after hq
    | next => exact False.elim hq
    | brk => exact False.elim hq
    | cont => exact False.elim hq
theorem p_callG {K₁ : PySem.W.Frag} (F : FnG X.prog X.w X.K X.mg X.base k f fd ps (spG X.K vol' G' n Φ)) (cp : Compat C.vol C.G vol' G') (hr : Room k X.A) (hgd : X.A.guards = some []) (hm : X.mg x = some (.ref f)) (hk : PySem.W.keepIn X.K (.ref f) = true) (hb : Binds X.K fd ps []) (ha : PAn X C n (e :: es) t m) (hg : Gl X x := by rfl)
    (hdb : (x == ("__debug__" : Str)) = false := by decide) (he : starEach (e :: es) X.env = (false, eval e X.env) :: starEach es X.env := by rfl) (hpl : (backTo pos (starEach es X.env)).any (·.1) = false := by rfl) (hK₁ : X.K = K₁ := by first | exact blkK2 | exact blkK | exact rfl) :
    PP X C (.Call (.Name x p) (e :: es) [] pos) (tCall (spG K₁ vol' G' n Φ) [] E0 t) (mCall Φ m) := by subst hK₁; exact ⟨pe_callG F hr hgd hg hm hk hb ha.pe hdb he hpl, rd_call cp ha.rd⟩
end
end Pu

set_option Elab.async false
set_option linter.all false
set_option maxRecDepth 100000
set_option maxHeartbeats 4000000
/-! The end: the law's def called from outside, no guard around. -/
namespace Pu
open PySem PySem.Spec L2 NdefX LamX
open PyProof.Rows hiding St
/-- what is tracked at the start: the script (unless the module's heap has it), the empty tables -/
def start0 (K : PySem.W.Frag) (ts : List Addr) (a : Addr) (lo : Obj) (ns : List Int) : Hp := fun b => match decide (b = a) && (K.lookup a).isNone with
  | true => some (.frz lo (.lst (ns.map V.int)))
  | false => if b ∈ ts then some (.tbl #[]) else none
section
variable {K : PySem.W.Frag} {ts : List Addr} {a b : Addr} {lo : Obj} {ns : List Int} {o : HO}
theorem start0_cases (e : start0 K ts a lo ns b = some o) : (b = a ∧ K.lookup a = none ∧ o = .frz lo (.lst (ns.map V.int))) ∨ (b ∈ ts ∧ o = .tbl #[]) := by
  unfold start0 at e
  split at e
  · rename_i h
    simp only [Bool.and_eq_true, decide_eq_true_eq, Option.isNone_iff_eq_none] at h
    exact .inl ⟨h.1, h.2, (Option.some.inj e).symm⟩
  · split at e
    · rename_i h
      exact .inr ⟨h, (Option.some.inj e).symm⟩
    · cases e
theorem start0_tab (h : b ∈ ts) (n : a ∉ ts) : start0 K ts a lo ns b = some (.tbl #[]) := by
  have ne : b ≠ a := fun q => n (by rw [← q]; exact h)
  unfold start0
  rw [show decide (b = a) = false from decide_eq_false ne]
  exact if_pos h
theorem start0_script (h : K.lookup a = none) : start0 K ts a lo ns a = some (.frz lo (.lst (ns.map V.int))) := by
  unfold start0
  rw [h]
  simp
end
theorem endG {P : Program} {w : World} {K : PySem.W.Frag} {mg mb : Str → Option Value} {k : Nat} {fa a : Addr} {cs : List (Addr × Addr)} {fd : FuncData} {x : Str} {sp : Sp} {s : Shared} {us : List Value} {ns : List Int}
    (hK : K.In s.heap) (hG : s.heap.Ns mainGlobals mg) (hB : s.heap.Ns builtinsNs mb) (hBB : ∀ x : Str, x ≠ "__name__" → mb x = bootBuiltins x) (hL : s.heap.NoLimit) (hgen : s.gens = #[])
    (tabs : ∀ p ∈ cs, s.heap.get? p.2 = some { cls := .none, data := .fields #[] }) (outK : ∀ p ∈ cs, K.lookup p.2 = none) (codes : ∀ p ∈ cs, PySem.W.CodeHd s.heap p.1 p.2)
    (hM : ∃ (bm : Addr) (ob : Obj), mg "__builtins__" = some (.ref bm) ∧ bm ≠ builtinsNs ∧ s.heap.get? bm = some ob ∧ ob.cls = .type "module" ∧ ob.dict = some builtinsNs ∧ ob.data = .plain)
    (hScr : s.heap.get? a = some { cls := .type "list", data := .seq us.toArray }) (hInt : IntsAre us ns) (hlen : ns.length ≤ sizeLine) (room : Room k callerA)
    (F : ∀ base : Heap, K.In base → base.Ns mainGlobals mg → (∀ p ∈ cs, TabB base mg p.1 p.2) → FnG P w K mg base k fa fd [x] sp) (hbind : ∀ (s : Shared) (u : Value), BindsTo s fd ⟨[u], []⟩ [(x, u)])
    (hsp : ∀ H : Hp, (∀ p ∈ cs, H p.2 = some (.tbl #[])) → (∀ b o, H b = some o → b ∈ cs.map (·.2) ∨ ∃ lo, lo.dict = none ∧ o = .frz lo (.lst (ns.map V.int))) → SqL K H a (ns.map V.int) → sp [.ref a] H (fun v _ => v = .bl true) E0) :
    codeAny (model P w) callerA (.call (.ref fa) ⟨[.ref a], []⟩) (fun r s' => r = .ok (.ret (.bool true)) ∧ OldK s.heap s'.heap ∧ s'.os = s.os ∧ AllBare s'.gens) s := by
  have rv := vals_ints hInt
  have inT : ∀ p ∈ cs, p.2 ∈ cs.map (·.2) := fun p hp => List.mem_map.mpr ⟨p, hp, rfl⟩
  have tabT : ∀ b ∈ cs.map (·.2), ∃ p ∈ cs, p.2 = b := fun b hb => by
    obtain ⟨p, hp, e⟩ := List.mem_map.mp hb
    exact ⟨p, hp, e⟩
  have aT : a ∉ cs.map (·.2) := fun z => by
    obtain ⟨p, hp, e⟩ := tabT a z
    have q := tabs p hp
    rw [e, hScr] at q
    cases q
  obtain ⟨H, hH⟩ : ∃ H, H = start0 K (cs.map (·.2)) a { cls := .type "list", data := .seq us.toArray } ns := ⟨_, rfl⟩
  have hcase : ∀ b o, H b = some o → (b = a ∧ K.lookup a = none ∧ o = .frz { cls := .type "list", data := .seq us.toArray } (.lst (ns.map V.int))) ∨ (b ∈ cs.map (·.2) ∧ o = .tbl #[]) := fun b o e => by
    rw [hH] at e
    exact start0_cases e
  have hT : ∀ p ∈ cs, H p.2 = some (.tbl #[]) := fun p hp => by
    rw [hH]
    exact start0_tab (inT p hp) aT
  have hS : SqL K H a (ns.map V.int) := by
    cases q : K.lookup a with
    | none => exact .inl (.inr ⟨_, by rw [hH]; exact start0_script q⟩)
    | some o =>
      have e := hK a o q
      rw [hScr] at e
      cases e
      exact .inr ⟨_, us.toArray, _, q, rfl, rfl, rfl, by rw [List.size_toArray, hInt.length]; exact hlen, by simpa using rv⟩
  -- an object that is neither a list of values nor an empty record is not tracked
  have free : ∀ {b : Addr} {o : Obj}, s.heap.get? b = some o → (∀ vs n, o.data ≠ .seq vs n) → o.data ≠ .fields #[] → H b = none := fun {b o} e n1 n2 => by
    cases q : H b with
    | none => rfl
    | some u =>
      rcases hcase b u q with ⟨z, _, _⟩ | ⟨z, _⟩
      · rw [z, hScr] at e
        cases e
        exact absurd rfl (n1 _ _)
      · obtain ⟨p, hp, z⟩ := tabT b z
        have t := tabs p hp
        rw [z, e] at t
        cases t
        exact absurd rfl n2
  have freeD : ∀ {b : Addr} {o : Obj} {es : Array DictEntry} {ep : Nat}, s.heap.get? b = some o → o.data = .dict es ep → (hidT s.heap H).get? b = some o := fun {b o es ep} e d => hidT_get e (free e (fun vs n z => by rw [d] at z; cases z) fun z => by rw [d] at z; cases z)
  have ns1 : ∀ {b : Addr} {m : Str → Option Value}, s.heap.Ns b m → (hidT s.heap H).Ns b m := fun ⟨o, es, ep, e, d, r⟩ => ⟨o, es, ep, freeD e d, d, r⟩
  have kIn : K.In (hidT s.heap H) := fun b o e => hidT_get (hK b o e) (by
    cases q : H b with
    | none => rfl
    | some u =>
      rcases hcase b u q with ⟨z, n, _⟩ | ⟨z, _⟩
      · rw [z, n] at e; cases e
      · obtain ⟨p, hp, z⟩ := tabT b z
        rw [← z, outK p hp] at e
        cases e)
  have mod : L2.Mod K mg (hidT s.heap H) := by
    obtain ⟨mc, l1, l2⟩ := hL
    exact ⟨kIn, ns1 hG, ⟨mb, ns1 hB, hBB⟩, mc, ns1 l1, l2⟩
  have tb : ∀ p ∈ cs, TabB (hidT s.heap H) mg p.1 p.2 := fun p hp => by
    have tp := tabs p hp
    obtain ⟨o, vs, file, tf, flags, tg, inF, text, tt, c1, c2, c3, c4, c5⟩ := codes p hp
    obtain ⟨bm, ob, m1, m2, m3, m4, m5, m6⟩ := hM
    obtain ⟨go, es, ep, g1, g2, _⟩ := hG
    refine ⟨⟨o, vs, file, tf, flags, tg, inF, text, tt, hidT_get c1 (free c1 (fun us n z => by rw [c3] at z; cases z) fun z => ?_), c2, c3, c4, c5⟩, ⟨bm, ob, m1, m2, fun q => ?_, fun q => ?_, hidT_get m3 (free m3 (fun us n z => by rw [m6] at z; cases z) fun z => by rw [m6] at z; cases z), m4, m5, m6⟩, fun q => ?_⟩
    · rw [c3] at z
      cases z
      simp at c4
    · rw [q, g1] at m3
      cases m3
      rw [g2] at m6
      cases m6
    · rw [q, tp] at m3
      cases m3
      cases m6
    · rw [q, tp] at g1
      cases g1
      cases g2
  have hok : HOk P w H s.heap := fun b o e => by
    rcases hcase b o e with ⟨z, _, q⟩ | ⟨z, q⟩
    · rw [z, q]
      exact ⟨hScr, by rw [List.length_map]; exact hlen, us, _, rv, hScr⟩
    · obtain ⟨p, hp, z⟩ := tabT b z
      rw [← z, q]
      exact tabs p hp
  have e0 : Env0 P w K mg (hidT s.heap H) callerA [] s H := ⟨rfl, mod, fun b o e => of_hidT e, Nat.le_of_eq (hidT_size _ _), trivial, fun b hb => absurd (show b ∈ ([] : List Addr) from hb) (by simp), hok, .of_eq hgen⟩
  have prom := hsp H hT (fun b o e => (hcase b o e).elim (fun z => .inr ⟨_, rfl, z.2.2⟩) fun z => .inl z.1) hS
  refine codeAny_mono ((F _ kIn (ns1 hG) tb).run callerA [] s H ⟨[.ref a], []⟩ [.ref a] [.ref a] _ room rfl e0 (hbind s (.ref a)) (.cons rfl .nil) prom) fun r s' h => ?_
  cases r with
  | error e => exact (show False from h).elim
  | ok fl =>
    cases fl with
    | next => exact False.elim h
    | brk => exact False.elim h
    | cont => exact False.elim h
    | ret u =>
      obtain ⟨v, H', os, bare, un, hok', r', q⟩ := h
      have q : v = .bl true := q
      subst q
      obtain rfl : u = Value.bool true := r'
      have same : ∀ b o, b ∉ cs.map (·.2) → s.heap.get? b = some o → s'.heap.get? b = some o := fun b o nb e => by
        cases q : H b with
        | none => exact un.keep b o e q (fun z => absurd (show b ∈ ([] : List Addr) from z) (by simp)) (by simp)
        | some u =>
          rcases hcase b u q with ⟨z, _, y⟩ | ⟨z, _⟩
          · subst y
            obtain ⟨e2, _⟩ := hok' b _ (un.frzs b _ _ q)
            obtain ⟨e1, _⟩ := hok b _ q
            rw [e] at e1
            cases e1
            exact e2
          · exact absurd z nb
      have more : ∀ p ∈ cs, ∃ m : Array Value, s'.heap.get? p.2 = some { cls := .none, data := .fields m } := fun p hp => by
        obtain ⟨m, z⟩ := un.tbls p.2 #[] (hT p hp)
        exact ⟨_, hok' p.2 _ z⟩
      refine ⟨rfl, ⟨fun b o e => ?_, fun b o e => ?_⟩, os, bare⟩
      · by_cases hb : b ∈ cs.map (·.2)
        · obtain ⟨p, hp, z⟩ := tabT b hb
          obtain ⟨m, hm⟩ := more p hp
          subst z
          rw [tabs p hp] at e
          cases e
          exact .inr (.inl ⟨((codes p hp).tab (tabs p hp)).isCodeTable, rfl, #[], m, rfl, by rw [Array.empty_append]; exact hm⟩)
        · exact .inl (same b o hb e)
      · by_cases hb : b ∈ cs.map (·.2)
        · obtain ⟨p, hp, z⟩ := tabT b hb
          obtain ⟨m, hm⟩ := more p hp
          subst z
          exact ⟨_, hm⟩
        · exact ⟨o, same b o hb e⟩
/-- what the head's facts have to give of the law's def -/
structure LawG (l : PySem.W.OpenLaw) (w : World) (K : PySem.W.Frag) (k n : Nat) (x : Str) (mg : Str → Option Value) (fa : Addr) (h : Heap) (fd : FuncData) (cs : List (Addr × Addr)) (sp : Sp) : Prop where
  tabs : ∀ p ∈ cs, h.get? p.2 = some { cls := .none, data := .fields #[] }
  outK : ∀ p ∈ cs, K.lookup p.2 = none
  codes : ∀ p ∈ cs, PySem.W.CodeHd h p.1 p.2
  bind : ∀ (s : Shared) (u : Value), BindsTo s fd ⟨[u], []⟩ [(x, u)]
  start : ∀ (H : Hp) (a : Addr) (ns : List Int), ns.length ≤ n → (∀ z ∈ ns, Builtin.Int.intBits z ≤ 1048576) → (∀ p ∈ cs, H p.2 = some (.tbl #[])) → (∀ b o, H b = some o → b ∈ cs.map (·.2) ∨ ∃ lo, lo.dict = none ∧ o = .frz lo (.lst (ns.map V.int))) → SqL K H a (ns.map V.int) → sp [.ref a] H (fun v _ => v = .bl true) E0
  fn : ∀ base : Heap, K.In base → base.Ns mainGlobals mg → (∀ p ∈ cs, TabB base mg p.1 p.2) → FnG l.prog w K mg base k fa fd [x] sp
theorem walkG {l : PySem.W.OpenLaw} {n k : Nat} {q : Program} {loose : List Str} {XP : (Str → Option Value) → Heap → Prop} {YP : World → Heap → Prop} {d : DefRec} {x : Str}
    (hn : l.most = some n) (hn2 : n ≤ sizeLine) (hdf : d.params.defaults = []) (hr : Room k callerA)
    (F : ∀ (w : World) (mg : Str → Option Value) (fa : Addr) (h : Heap), YP w h → h.Ns mainGlobals mg → mg d.name = some (.ref fa) → ∃ K fd cs sp, K.In h ∧ LawG l w K k n x mg fa h fd cs sp) :
    PySem.W.WalkO q loose XP YP l.row.toRowW d [] (fun f vs => PySem.call f vs) := by
  refine Att.attach_callB hn hdf fun w s₀ s₁ mg mb fa o pm cd doc a vs ns G Y ho hd hcd hmg hobj hints hlen hbits hg => ?_
  obtain ⟨K, fd, cs, sp, hK, L⟩ := F w mg fa _ Y G.T.g hmg
  exact endG hK G.T.g G.T.b G.T.builtins G.T.nolimit hg L.tabs L.outK L.codes G.T.bmain hobj hints (Nat.le_trans hlen hn2) hr L.fn L.bind fun H h1 h2 h3 => L.start H a ns hlen hbits h1 h2 h3
end Pu

set_option Elab.async false
set_option linter.all false
set_option maxRecDepth 100000
set_option maxHeartbeats 4000000
/-! Pure readings: a def that returns a new list, the law's def over its wells. -/
namespace Pu
open PySem PySem.Spec L2 NdefX LamX
open PyProof.Rows hiding St
/-! ### a def that returns a new list -/
abbrev MSO := List Sl → (List D → Prop) → Prop
structure PSO (X : Cx) (C : GC X.K) (b : List Stmt) (t : TS) (m : MSO) : Prop where
  pe : PSs X b t
  rd : ∀ S H σ ρ P (N : Ends), Rel C S H σ ρ → m ρ P → (∀ ds S' H' l vs, P ds → Stp C.vol C.S0 C.H0 S' H' → Good C.vol C.G S' H' → H' l = some (.lst vs) → S' l = none → C.H0 l = none → ¬ C.vol l → DpAll X.K S' vs ds → N.rt (.ref l) H') → t N σ H
section
variable {X : Cx} {C : GC X.K} {e : Expr} {te : TE} {pos : Pos} {st : Stmt} {rest : List Stmt} {t u : TS} {m : MS} {n : MSO} {mo : ML}
theorem so_ret (h : PO' X C e te mo) : PSO X C [.Return (some e) pos] (tRet te) mo := ⟨pss_one (ps_ret h.pe), fun S H σ ρ P N rl hm k => h.rd S H σ ρ _ _ rl hm fun ds S' H' l vs p s g h1 h2 h3 h4 h5 => k ds S' H' l vs p (rl.stp.trans rl.good s) g h1 h2 (rl.stp.dm l h3) h4 h5⟩
def mSeqO (m : MS) (n : MSO) : MSO := fun ρ P => m ρ ⟨fun ρ' => n ρ' P, fun _ => False, fun _ => False, fun _ => False⟩
theorem so_cons (h1 : PSt X C st t m) (h2 : PSO X C rest u n) : PSO X C (st :: rest) (tSeq t u) (mSeqO m n) := ⟨pss_cons h1.pe h2.pe, fun S H σ ρ P N rl hm k => h1.rd S H σ ρ _ _ rl hm (fun ρ' S' H' σ' q ss rl' => h2.rd S' H' σ' ρ' P N rl' q k) (fun _ _ _ _ z => z.elim) (fun _ _ _ _ z => z.elim) (fun _ _ _ _ z => z.elim)⟩
end
abbrev PhiO := List Sl → (List D → Prop) → Prop
def spGO (K : PySem.W.Frag) (vol : Addr → Prop) (G : Hp → Prop) (n : Nat) (Φ : PhiO) : Sp := fun vs H Q _ => ∃ S as P, as.length = n ∧ ArgsOk K S vs as ∧ Good vol G S H ∧ Φ as P ∧
  (∀ ds S' H' l vs, P ds → Stp vol S H S' H' → Good vol G S' H' → H' l = some (.lst vs) → S' l = none → H l = none → ¬ vol l → DpAll K S' vs ds → Q (.ref l) H')
def bodyPhiO (N n : Nat) (m : MSO) : PhiO := fun as P => m (as ++ List.replicate (N - n) .un) P
theorem fnO {P : Program} {w : World} {K : PySem.W.Frag} {mg : Str → Option Value} {base : Heap} {x : Str} {st : Stmt} {dvs : List V} {f : Addr} {fd : FuncData} {N ps : List Str} {k : Nat} {vol : Addr → Prop} {G : Hp → Prop} {m : MSO} (gst : GSt vol G) (F : FnP K x st dvs f fd) (sc : FnScope N ps (defScope st)) (hN : ps.length ≤ N.length)
    (hb : ∀ (cdv : Value) (A : Around) (outer : List Env) (s : Shared) (H S : Hp) (E : XK), Room k (A.deeper (envOfC x (defScope st) s.heap.objs.size f cdv)) →
      ∃ t, PSO (cxOf CX0 P w K mg base N x (defScope st) f cdv A outer s H E).nox (gc vol G gst S H) (defBody st) t m) :
    FnOk P w K mg base CX0 (k + 1) f fd ps (spGO K vol G ps.length (bodyPhiO N.length ps.length m)) := by
  refine F.ok sc (fun vs H Q E h => ?_) (fun cdv A outer s H vs Q E hr h => ?_)
  · obtain ⟨S, as, P, ln, ha, _⟩ := h
    rw [paired_len ha, ln]
  · obtain ⟨S, as, P, ln, ha, g, hΦ, k1⟩ := h
    obtain ⟨t, ht⟩ := hb cdv A outer s H S E hr
    exact ⟨t, ht.pe.nox, ht.rd S H (L2.start N vs) _ _ _ (rel_start rfl rfl g ha ln hN) hΦ fun ds S' H' l vs p s g h1 h2 h3 h4 h5 => k1 ds S' H' l vs p s g h1 h2 h3 h4 h5⟩
/-! ### the law's def: two wells, n rounds -/
/-- the module's start: nothing but tables and the script -/
def spLaw (K : PySem.W.Frag) (T : List NTab) : Sp := fun vs H Q _ => ∃ (a : Addr) (ns : List Int), vs = [.ref a] ∧ SqL K H a (ns.map V.int) ∧ ns.length ≤ 63 ∧ TabsN T H ∧ (∀ b o, H b = some o → vT T b ∨ ∃ lo, lo.dict = none ∧ o = .frz lo (.lst (ns.map V.int))) ∧ ∀ H', Q (.bl true) H'
def spRight (K : PySem.W.Frag) (T : List NTab) (Φ : Addr → Phi) : Sp := fun vs H Q E => ∃ wl, spG K (vW T wl) (gW T wl) 1 (Φ wl) vs H Q E
def tLaw (K : PySem.W.Frag) (spW spR : Sp) (n : Int) : TS := tSeq (tAsg (tLc (iRng1 (tCons (tC (.int 2)) tNil)) (gName 2) tYes (tCall spW [] E0 (tCons (tVar 0) (tCons (tVar 2) tNil))) [2]) (gName 1))
  (tRet (tCB (rAll K) (tCons (tLc (iRng1 (tCons (tC (.int n)) tNil)) (gName 3) tYes (tCall spR [] E0 (tCons (tOp (rIx K) (tVar 1) (tOp z_mod (tCB z_int1 (tCons (tVar 3) tNil)) (tC (.int 2)))) tNil)) [3]) tNil)))
def allI (ns : List Int) : List D := ns.map .int
theorem dp_ints {K : PySem.W.Frag} {S : Hp} : ∀ ns : List Int, DpAll K S (ns.map V.int) (allI ns)
  | [] => .nil
  | n :: ns => .cons (.int n) (dp_ints ns)
/-- the heap while the law runs -/
structure LawH (T : List NTab) (S0 H : Hp) : Prop where
  tabs : TabsN T H
  sub : Same S0 H
  sz : ∀ b o, H b = some o → SzO o
theorem lst_notab {T : List NTab} {H : Hp} (h : TabsN T H) {l : Addr} {xs : List V} (e : H l = some (.lst xs)) : ¬ vT T l := fun v => by
  obtain ⟨ps, q⟩ := gT_tbl (T := T) h v
  rw [e] at q
  cases q
theorem tabs_upd {T : List NTab} {H : Hp} (h : TabsN T H) {l : Addr} {u o : HO} (e : H l = some u) (n1 : ∀ ps, u ≠ .tbl ps) (n2 : ∀ φ, u ≠ .ext φ) : TabsN T (upd H l o) := fun p hp => by
  obtain ⟨ps, e1, e2, e3⟩ := h p hp
  refine ⟨ps, (upd_ne fun q => ?_).trans e1, e2, fun pos cv hcv => ?_⟩
  · rw [q, e] at e1
    exact n1 ps (Option.some.inj e1)
  · obtain ⟨d, d1, d2⟩ := e3 pos cv hcv
    refine ⟨d, d1, (upd_ne fun q => ?_).trans d2⟩
    rw [q, e] at d2
    exact n2 _ (Option.some.inj d2)
theorem tabs_new {T : List NTab} {H : Hp} (h : TabsN T H) {l : Addr} {o : HO} (e : H l = none) : TabsN T (upd H l o) := h.ext fun b u q => (upd_ne (ne_of_none q e)).trans q
theorem law_upd {T : List NTab} {S0 H : Hp} (h : LawH T S0 H) {l : Addr} {xs ys : List V} (e : H l = some (.lst xs)) (n : S0 l = none) (z : ys.length ≤ sizeLine) : LawH T S0 (upd H l (.lst ys)) :=
  ⟨tabs_upd h.tabs e (fun _ q => nomatch q) (fun _ q => nomatch q), fun b o q => (upd_ne fun y => by rw [y, n] at q; cases q).trans (h.sub b o q), fun b o q => by
    by_cases y : b = l
    · subst y; rw [upd_same] at q; cases q; exact z
    · rw [upd_ne y] at q; exact h.sz b o q⟩
theorem law_new {T : List NTab} {S0 H : Hp} (h : LawH T S0 H) {l : Addr} (e : H l = none) : LawH T S0 (upd H l (.lst [])) :=
  ⟨tabs_new h.tabs e, fun b o q => (upd_ne (ne_of_none (h.sub b o q) e)).trans (h.sub b o q), fun b o q => by
    by_cases y : b = l
    · subst y; rw [upd_same] at q; cases q; exact Nat.zero_le _
    · rw [upd_ne y] at q; exact h.sz b o q⟩
def oneWell (ds : List D) : Prop := ∃ a b c : Int, 0 ≤ a ∧ 0 ≤ b ∧ 0 ≤ c ∧ ds = [.int a, .int b, .int c]
theorem law_wells {K : PySem.W.Frag} {T : List NTab} {S0 : Hp} {Φw : PhiO} {ΦR : Addr → Phi} {a : Addr} {ns : List Int} {n : Int} {D : Ends} {σ : L2.St} {H : Hp} {N0 : Nat} (hn : n = (N0 : Nat)) (hN0 : N0 ≤ 1000)
    (tpl : ∀ b o, S0 b = some o → TpO o) (nvs : ∀ b, vT T b → S0 b = none) (hS : SqL K S0 a (ns.map V.int)) (hσ : σ = [some (.ref a), none, none, none]) (J : LawH T S0 H)
    (hw : ∀ lap : Int, lap = 0 ∨ lap = 1 → Φw [.da (.list (allI ns)), .da (.int lap)] oneWell) (hR : ∀ wl, ΦR wl [.rw (.ref wl)] (fun d => d = .bool true) (fun _ => False)) (hQ : ∀ H', D.rt (.bl true) H') :
    tLaw K (spGO K (vT T) (gT T) 2 Φw) (spRight K T ΦR) n D σ H := by
  subst hσ
  have good : ∀ H, LawH T S0 H → Good (vT T) (gT T) S0 H := fun H J => ⟨J.sub, J.tabs, nvs, fun b v => by
    obtain ⟨ps, q⟩ := gT_tbl (T := T) J.tabs v
    rw [q]
    exact fun z => (nomatch z), J.sz, tpl⟩
  -- the wells are made
  refine ⟨2, rfl, by decide, by decide, fun W hW => ?_⟩
  have sW : S0 W = none := J.sub.free hW
  refine lc_range (n := 2) (Pv := fun i H => LawH T S0 H ∧ ∃ acc : List V, H W = some (.lst acc) ∧ acc.length = i ∧ ∀ v ∈ acc, ∃ w, v = .ref w ∧ w ≠ W ∧ WellIn w H) ⟨law_new J hW, [], upd_same, rfl, fun v h => by simp at h⟩ (fun i H1 hi h => ?_) fun H1 h => ?_
  · obtain ⟨J1, acc, hA, hl, hws⟩ := h
    refine ⟨rfl, ?_⟩
    change tCall (spGO K (vT T) (gT T) 2 Φw) [] E0 (tCons (tVar 0) (tCons (tVar 2) tNil)) _ H1 _
    refine ⟨.ref a, rfl, .int (0 + (i : Int)), rfl, ?_⟩
    refine ⟨S0, [.da (.list (allI ns)), .da (.int (0 + (i : Int)))], oneWell, rfl, .cons (Dp.lst hS (dp_ints ns)) (.cons (Dp.int _) .nil), good H1 J1, hw _ (by omega), fun ds S' H' l vs p s g h1 h2 h3 h4 h5 => ?_⟩
    obtain ⟨x, y, z, hx, hy, hz, rfl⟩ := p
    have hvs : vs = [.int x, .int y, .int z] := by
      cases h5 with
      | cons a1 t1 => cases t1 with
        | cons a2 t2 => cases t2 with
          | cons a3 t3 => cases t3; cases a1; cases a2; cases a3; rfl
    subst hvs
    have hA' : H' W = some (.lst acc) := s.hh W _ (lst_notab J1.tabs hA) hA
    have hlW : l ≠ W := fun q => by rw [q, hA] at h3; cases h3
    have J2 : LawH T S0 H' := ⟨g.g, s.ss.trans g.sub, g.sz⟩
    have h4z : (acc ++ [V.ref l]).length ≤ sizeLine := by rw [List.length_append, hl, sizeLine_eq]; simp; omega
    refine ⟨acc, hA', by rw [hl, sizeLine_eq]; omega, law_upd J2 hA' sW h4z, acc ++ [V.ref l], upd_same, by rw [List.length_append, hl]; rfl, fun v hv => ?_⟩
    rcases List.mem_append.mp hv with hv | hv
    · obtain ⟨w, rfl, hwW, q1, q2, q3, b1, b2, b3, b4⟩ := hws v hv
      exact ⟨w, rfl, hwW, q1, q2, q3, b1, b2, b3, (upd_ne hwW).trans (s.hh w _ (lst_notab J1.tabs b4) b4)⟩
    · have e : v = .ref l := by simpa using hv
      exact ⟨l, e, hlW, x, y, z, hx, hy, hz, (upd_ne hlW).trans h1⟩
  · obtain ⟨J1, acc, hA, hl, hws⟩ := h
    obtain ⟨v0, v1, rfl⟩ : ∃ v0 v1, acc = [v0, v1] := by
      match acc, hl with
      | [v0, v1], _ => exact ⟨v0, v1, rfl⟩
    obtain ⟨w0, rfl, nw0, h0⟩ := hws v0 (by simp)
    obtain ⟨w1, rfl, nw1, h1⟩ := hws v1 (by simp)
    -- the rounds
    refine ⟨n, rfl, by omega, by omega, fun L hL => ?_⟩
    have hnn : n.toNat = N0 := by omega
    rw [hnn]
    have ne_of : ∀ {w : Addr} {H : Hp}, WellIn w H → H L = none → w ≠ L := fun ⟨_, _, _, _, _, _, e⟩ h q => by rw [q, h] at e; cases e
    have nW : W ≠ L := fun q => by rw [q, hL] at hA; cases hA
    have n0 := ne_of h0 hL
    have n1 := ne_of h1 hL
    have up : ∀ {w : Addr} {H : Hp} {o : HO}, w ≠ L → WellIn w H → WellIn w (upd H L o) := fun hne ⟨x, y, z, b1, b2, b3, b4⟩ => ⟨x, y, z, b1, b2, b3, (upd_ne hne).trans b4⟩
    refine lc_range (n := N0) (Pv := fun i H => TabsN T H ∧ (∀ b o, H b = some o → SzO o) ∧ H W = some (.lst [.ref w0, .ref w1]) ∧ WellIn w0 H ∧ WellIn w1 H ∧ ∃ bs : List Bool, H L = some (.lst (bs.map V.bl)) ∧ bs.length = i ∧ bs.all _root_.id = true)
      ⟨tabs_new J1.tabs hL, (law_new J1 hL).sz, (upd_ne nW).trans hA, up n0 h0, up n1 h1, [], upd_same, rfl, rfl⟩ (fun i H2 hi h => ?_) fun H2 h => ?_
    · obtain ⟨t2, z2, a2, p0, p1, bs, b2, lb, ab⟩ := h
      refine ⟨rfl, ?_⟩
      change tCall (spRight K T ΦR) [] E0 (tCons (tOp (rIx K) (tVar 1) (tOp z_mod (tCB z_int1 (tCons (tVar 3) tNil)) (tC (.int 2)))) tNil) _ H2 _
      have callR : ∀ w, (w = w0 ∨ w = w1) → (spRight K T ΦR) [.ref w] H2 (fun y H4 => ∃ acc, H4 L = some (.lst acc) ∧ acc.length < sizeLine ∧ (TabsN T (upd H4 L (.lst (acc ++ [y]))) ∧ (∀ b o, upd H4 L (.lst (acc ++ [y])) b = some o → SzO o) ∧ upd H4 L (.lst (acc ++ [y])) W = some (.lst [.ref w0, .ref w1]) ∧ WellIn w0 (upd H4 L (.lst (acc ++ [y]))) ∧ WellIn w1 (upd H4 L (.lst (acc ++ [y]))) ∧ ∃ bs : List Bool, upd H4 L (.lst (acc ++ [y])) L = some (.lst (bs.map V.bl)) ∧ bs.length = i + 1 ∧ bs.all _root_.id = true)) E0 := fun w hww => by
        have pw : WellIn w H2 := by rcases hww with rfl | rfl <;> assumption
        have nwL : w ≠ L := by rcases hww with rfl | rfl <;> assumption
        have nwW : w ≠ W := by rcases hww with rfl | rfl <;> assumption
        refine ⟨w, fun _ => none, [.rw (.ref w)], fun d => d = .bool true, fun _ => False, rfl, .cons rfl .nil, ⟨fun b o q => absurd (show (none : Option HO) = some o from q) (by simp), ⟨t2, pw⟩, fun b _ => rfl, fun b v => ?_, z2, fun b o q => absurd (show (none : Option HO) = some o from q) (by simp)⟩, hR w, fun d S' H' v hd s g r => ?_, fun _ _ _ _ _ z => z.elim⟩
        · rcases v with v | rfl
          · obtain ⟨ps, q⟩ := gT_tbl (T := T) t2 v
            rw [q]
            exact fun z => nomatch z
          · obtain ⟨_, _, _, _, _, _, q⟩ := pw
            rw [q]
            exact fun z => nomatch z
        · subst hd
          have ev : v = .bl true := by cases (show Dp K S' v (.bool true) from r); rfl
          subst ev
          have gg := g.g
          have nv : ∀ {l : Addr} {xs : List V}, H2 l = some (.lst xs) → l ≠ w → H' l = some (.lst xs) := fun {l xs} e ne => s.hh l _ (fun q => q.elim (lst_notab t2 e) ne) e
          have kw : ∀ {u : Addr}, WellIn u H2 → WellIn u H' := fun {u} q => by
            by_cases e : u = w
            · rw [e]; exact gg.2
            · obtain ⟨x, y, z, c1, c2, c3, c4⟩ := q
              exact ⟨x, y, z, c1, c2, c3, nv c4 e⟩
          have b4 := nv b2 (Ne.symm nwL)
          refine ⟨bs.map V.bl, b4, by rw [List.length_map, lb, sizeLine_eq]; omega, tabs_upd gg.1 b4 (fun _ q => nomatch q) (fun _ q => nomatch q), fun b o q => ?_, (upd_ne nW).trans (nv a2 (Ne.symm nwW)), up n0 (kw p0), up n1 (kw p1), bs ++ [true], ?_, by rw [List.length_append, lb]; rfl, by rw [List.all_append, ab]; rfl⟩
          · by_cases y : b = L
            · subst y
              rw [upd_same] at q
              cases q
              show (bs.map V.bl ++ [V.bl true]).length ≤ sizeLine
              rw [List.length_append, List.length_map, lb, sizeLine_eq]
              simp
              omega
            · rw [upd_ne y] at q
              exact g.sz b o q
          · rw [upd_same, List.map_append] <;> rfl
      refine ⟨.ref W, rfl, .int (0 + (i : Int)), rfl, .inl ⟨0 + (i : Int), rfl, ?_⟩⟩
      refine ⟨0 + (i : Int), 2, rfl, rfl, show (0 : Int) < 2 from by decide, ?_⟩
      have hm : (0 + (i : Int)) % 2 = 0 ∨ (0 + (i : Int)) % 2 = 1 := by omega
      rcases hm with e | e
      · refine .inl ⟨W, _, 0, .ref w0, rfl, congrArg V.int e, .inl (.inl a2), rfl, callR w0 (.inl rfl)⟩
      · refine .inl ⟨W, _, 1, .ref w1, rfl, congrArg V.int e, .inl (.inl a2), rfl, callR w1 (.inr rfl)⟩
    · obtain ⟨_, _, _, _, _, bs, b2, _, ab⟩ := h
      refine ⟨L, bs, rfl, .inl (.inl b2), ?_⟩
      rw [ab]
      exact hQ H2
end Pu

set_option Elab.async false
set_option linter.all false
set_option maxRecDepth 100000
set_option maxHeartbeats 4000000
/-! Pure readings: list * int, range downwards, min of data. -/
namespace Pu
open PySem PySem.Spec L2
open PyProof.Rows hiding St
section
variable {X : Cx} {C : GC X.K} {a b c e : Expr} {es : List Expr} {ta tb te : TE} {ma mb me : ME} {pos p : Pos} {t : TA} {mo : ML}
/-- a new list times a number -/
def mRepL (mo : ML) (mb : ME) : ML := fun ρ P => mo ρ fun ds => mb ρ fun d => match d with
  | .int k => -(2 ^ 63) ≤ k ∧ k < 2 ^ 63 ∧ ds.length * k.toNat ≤ sizeLine ∧ P (List.replicate k.toNat ds).flatten
  | _ => False
theorem dp_rep {K : PySem.W.Frag} {S : Hp} {vs : List V} {ds : List D} (h : DpAll K S vs ds) : ∀ n : Nat, DpAll K S (List.replicate n vs).flatten (List.replicate n ds).flatten
  | 0 => .nil
  | n + 1 => by
    rw [List.replicate_succ, List.replicate_succ, List.flatten_cons, List.flatten_cons]
    exact DpAll.app h (dp_rep h n)
theorem o_repL (ha : PO' X C a ta mo) (hb : PP X C b tb mb) : PO' X C (.BinOp a .Mult b pos) (tOp rRep ta tb) (mRepL mo mb) := ⟨pe_op op_rep ha.pe hb.pe, fun S H σ ρ P Q rl hm k => by
  refine ha.rd S H σ ρ _ _ rl hm fun ds S1 H1 l vs p1 s1 g1 h1 h2 h3 h4 h5 => ?_
  refine hb.rd S1 H1 σ ρ _ _ (rl.step s1 g1) p1 fun d S2 H2 w p2 s2 g2 r2 => ?_
  cases d with
  | int n =>
    obtain ⟨n1, n2, hz, p2⟩ := p2
    have ew : w = .int n := rint (X := X) (RepH.of g2 r2)
    subst ew
    have hd := dp_rep (DpAll.mono s2.ss h5) n.toNat
    have hl := DpAll.length h5
    have hz' : vs.length * n.toNat ≤ sizeLine := by rw [hl]; exact hz
    refine ⟨l, n, vs, rfl, rfl, s2.hh _ _ h4 h1, n1, n2, hz', fun q hq => ?_⟩
    have hlen : (List.replicate n.toNat vs).flatten.length ≤ sizeLine := by
      rw [List.length_flatten, List.map_replicate, List.sum_replicate_nat, Nat.mul_comm]
      exact hz'
    have s12 := s1.trans g1 s2
    exact fin_lst g2 hd hlen hq p2 fun ds' S' H' q vs' pd s g a1 a2 a3 a4 a5 => k ds' S' H' q vs' pd (s12.trans g2 s) g a1 a2 (s12.gone (fun v => a4 v) a3) a4 a5
  | _ => exact (p2 : False).elim⟩
/-- range(i, j, -1) -/
def down (i j : Int) : List D := (List.range (i - j).toNat).map fun n => .int (i + (n : Nat) * (-1))
def mRng3 (n : ML) : ML := fun ρ P => n ρ fun ds => match ds with
  | [.int i, .int j, .int c] => c = -1 ∧ -(2 ^ 60) ≤ i ∧ i < 2 ^ 60 ∧ -(2 ^ 60) ≤ j ∧ j < 2 ^ 60 ∧ i - j ≤ 16777216 ∧ P (down i j)
  | _ => False
theorem down_len (i j : Int) : (down i j).length = (i - j).toNat := by unfold down; rw [List.length_map, List.length_range]
theorem paired3' {α β : Type} {F : α → β → Prop} {l : List α} {x y z : β} (h : Paired F l [x, y, z]) : ∃ u v w, l = [u, v, w] ∧ F u x ∧ F v y ∧ F w z := by
  cases h with
  | cons h1 t => cases t with
    | cons h2 t => cases t with
      | cons h3 t => cases t; exact ⟨_, _, _, rfl, h1, h2, h3⟩
theorem i_rng3 {tg : Expr} {n : ML} (hm : X.mg "range" = none) (ha : PAB X C [a, b, c] t n) (hg : Gl X "range" := by rfl) (hs : starEach [a, b, c] X.env = (false, eval a X.env) :: starEach [b, c] X.env := by rfl) (hpl : (backTo pos (starEach [b, c] X.env)).any (·.1) = false := by rfl) :
    PIt X C tg (.Call (.Name "range" p) [a, b, c] [] pos) (iRng3 t) (mRng3 n) := ⟨pi_range3 hg hm ha.pe hs hpl, fun S H σ ρ P Rk rl hmm k => by
  refine ha.rd S H σ ρ _ _ rl hmm fun ds S1 H1 vs p1 s g r => ?_
  split at p1
  · obtain ⟨h0, h1, h2, h3, h4, h5, p1⟩ := p1
    subst h0
    obtain ⟨x, y, z, rfl, r1, r2, r3⟩ := paired3' r
    rw [rint r1, rint r2, rint r3]
    rename_i i j
    refine ⟨i, j, -1, (i - j).toNat, rfl, RgC.neg (by omega) (by omega) (by omega) (by omega), k (down i j) S1 H1 _ p1 s g ⟨by rw [down_len, sizeLine_eq]; omega, fun m S2 H2 z => ?_⟩⟩
    rw [down_len]
    refine ⟨fun hi => ⟨hi, fun y H' q => ?_⟩, fun hi => Nat.le_of_eq hi.symm⟩
    obtain ⟨rfl, rfl⟩ := q
    refine ⟨.int (i + (m : Nat) * (-1)), S2, ?_, Stp.refl, z.2, Dp.int _⟩
    unfold down
    rw [List.getElem?_map, List.getElem?_range hi] <;> rfl
  · exact p1.elim⟩
/-- min of a list of data -/
def oMinD : List D → (D → Prop) → Prop
  | [.list (x :: xs)], P => PySem.W.AlikeAll (x :: xs) ∧ PyData.depthAll (x :: xs) ≤ 60 ∧ P (PySem.W.minD x xs)
  | _, _ => False
def rMinD (K : PySem.W.Frag) : List V → Hp → VK → Prop := fun xs H Q => ∃ l vs x ds, xs = [.ref l] ∧ SqL K H l vs ∧ DpAll K H vs (x :: ds) ∧ PySem.W.AlikeAll (x :: ds) ∧ PyData.depthAll (x :: ds) ≤ 60 ∧ ∀ (i : Nat) (v : V), vs[i]? = some v → (x :: ds)[i]? = some (PySem.W.minD x ds) → Q v H
theorem call_minD (hc : X.calm = true) (hu : X.A.units + 64 < cLine) : CallR X (.builtin "min") (rMinD X.K) := by
  intro pins s σ H xs us Q I r h
  obtain ⟨l, vs, x, ds, rfl, hl, hd, h1, h2, q⟩ := h
  obtain ⟨u, rfl, rx⟩ := vals1 r
  cases rx
  obtain ⟨its, rv, pl, hz⟩ := I.list hl
  obtain ⟨as, rd⟩ := Dp.readsAll I (x :: ds) vs its hd rv
  refine PySem.W.min_list_data (vs := its.toArray) (I.ok.hd hc) pl.isList (by simpa using rd) h1 (by omega) fun i v h' tk bs hi hr hk => ?_
  have hi' : its[i]? = some v := by simpa using hi
  obtain ⟨hlt, _⟩ := List.getElem?_eq_some_iff.mp hi'
  have hlt2 : i < vs.length := by rw [rv.length]; exact hlt
  have lv := DpAll.length hd
  have e1 : vs[i]? = some vs[i] := List.getElem?_eq_getElem hlt2
  obtain ⟨v', hv', rr⟩ := rv.get e1
  rw [hi'] at hv'
  cases hv'
  obtain ⟨dd, d1, d2⟩ := dp_at hd e1
  have I1 : Inv X pins σ H { s with heap := h', toks := tk } := I.kept (t' := tk) hk
  obtain ⟨bs', r'⟩ := Dp.reads I1 dd _ _ d2 rr
  have e2 := (Reads.unique hr _ _ r').1
  exact ⟨vs[i], H, I1, rr, q i _ e1 (by rw [e2]; exact d1)⟩
theorem cb_minD : CbOk C (rMinD X.K) oMinD := fun S H vs ds P Q g r p k => by
  unfold oMinD at p
  split at p
  · obtain ⟨h1, h2, p⟩ := p
    obtain ⟨y, rfl, r1⟩ := paired1 r
    obtain ⟨l, ws, rfl, ha, hl, _⟩ := r1.lst g
    refine ⟨l, ws, _, _, rfl, hl, DpAll.mono g.sub ha, h1, h2, fun i v hv hd => ?_⟩
    obtain ⟨dd, d1, d2⟩ := dp_at ha hv
    rw [hd] at d1
    cases d1
    exact k _ S H v p Stp.refl g (Rep.of d2)
  · exact p.elim
theorem p_minD {K₁ : PySem.W.Frag} {n : ML} (hm : X.mg "min" = none) (hu : X.A.units + 64 < cLine) (ha : PAB X C (e :: es) t n) (hg : Gl X "min" := by rfl) (hc : X.calm = true := by rfl) (pl : CallPl X e es pos := by exact ⟨rfl, rfl⟩) (hK₁ : X.K = K₁ := by first | exact blkK2 | exact blkK | exact rfl) :
    PP X C (.Call (.Name "min" p) (e :: es) [] pos) (tCB (rMinD K₁) t) (mC1 oMinD n) := by subst hK₁; exact p_cb (call_minD hc hu) cb_minD PyProof.Rows.boot_min hm ha hg (pl := pl)
end
end Pu
namespace Pu
open PySem PySem.Spec L2 LamX
open PyProof.Rows hiding St
theorem FnG.of {P : Program} {w : World} {K : PySem.W.Frag} {mg : Str → Option Value} {base : Heap} {k : Nat} {f : Addr} {fd : FuncData} {ps : List Str} {sp : Sp} (h : FnOk P w K mg base CX0 k f fd ps sp) : FnG P w K mg base k f fd ps sp :=
  ⟨h.len, fun A outer s H args us vs Q hr _ e0 hb r q => h.run A outer s H args us vs Q E0 hr e0 hb r q⟩
theorem FnG.mono {P : Program} {w : World} {K : PySem.W.Frag} {mg : Str → Option Value} {base : Heap} {j k : Nat} {f : Addr} {fd : FuncData} {ps : List Str} {sp : Sp} (F : FnG P w K mg base j f fd ps sp) (h : j ≤ k) : FnG P w K mg base k f fd ps sp :=
  ⟨F.len, fun A outer s H args us vs Q hr => F.run A outer s H args us vs Q (hr.mono h)⟩
theorem fnGs {P : Program} {w : World} {K : PySem.W.Frag} {mg : Str → Option Value} {base : Heap} {x : Str} {st : Stmt} {f : Addr} {fd : FuncData} {N ps : List Str} {k : Nat} {sp : Sp} (D : FnP K x st [] f fd) (sc : FnScope N ps (defScope st)) (len : ∀ vs H Q E, sp vs H Q E → vs.length = ps.length)
    (hb : ∀ (cdv : Value) (A : Around) (outer : List Env) (s : Shared) (H : Hp) (vs : List V) (Q : VK), (A.deeper (envOfC x (defScope st) s.heap.objs.size f cdv)).guards = some [] → Room k (A.deeper (envOfC x (defScope st) s.heap.objs.size f cdv)) → sp vs H Q E0 →
      ∃ t, PSs (cxOf CX0 P w K mg base N x (defScope st) f cdv A outer s H E0).nox (defBody st) t ∧ t { nx := fun _ H' => Q .non H', rt := Q } (L2.start N vs) H) :
    FnG P w K mg base (k + 1) f fd ps sp := by
  refine ⟨len, fun A outer s H args us vs Q hr hgd e0 hbd r h => ?_⟩
  obtain ⟨oc, od, dV, kV, doc, pm, an, cdv, ct, osl, rfl, lk, hcd, _, _⟩ := D.ex
  refine run_ofS (CX := CX0) lk hcd sc hr e0 hbd r (len _ _ _ _ h) fun hr2 => ?_
  obtain ⟨t, ht, q⟩ := hb cdv A outer s H vs Q hgd hr2 h
  exact ⟨t, ht.nox, q⟩
theorem spRight_of {P : Program} {w : World} {K : PySem.W.Frag} {mg : Str → Option Value} {base : Heap} {k : Nat} {f : Addr} {fd : FuncData} {ps : List Str} {T : List NTab} {Φ : Addr → Phi} (h : ∀ wl, FnG P w K mg base k f fd ps (spG K (vW T wl) (gW T wl) 1 (Φ wl))) : FnG P w K mg base k f fd ps (spRight K T Φ) :=
  ⟨fun vs H Q E ⟨wl, q⟩ => (h wl).len vs H Q E q, fun A outer s H args us vs Q hr hg e0 hb r ⟨wl, q⟩ => (h wl).run A outer s H args us vs Q hr hg e0 hb r q⟩
/-- the law's def from its start -/
theorem law_run {K : PySem.W.Frag} {T : List NTab} {Φw : PhiO} {ΦR : Addr → Phi} {n : Int} {vs : List V} {H : Hp} {Q : VK} {E : XK} {N0 : Nat} (hn : n = (N0 : Nat)) (hN0 : N0 ≤ 1000) (h : spLaw K T vs H Q E)
    (hw : ∀ (ns : List Int) (lap : Int), ns.length ≤ 63 → lap = 0 ∨ lap = 1 → Φw [.da (.list (allI ns)), .da (.int lap)] oneWell) (hR : ∀ wl, ΦR wl [.rw (.ref wl)] (fun d => d = .bool true) (fun _ => False)) :
    tLaw K (spGO K (vT T) (gT T) 2 Φw) (spRight K T ΦR) n { nx := fun _ H' => Q .non H', rt := Q } (L2.start ["script", "wells", "lap", "k"] vs) H := by
  obtain ⟨a, ns, rfl, hS, hl, hT, hO, hQ⟩ := h
  classical
  have nvt : ∀ {lo : Obj} {b : Addr}, H b = some (.frz lo (.lst (ns.map V.int))) → ¬ vT T b := fun {lo b} e v => by
    obtain ⟨ps, q⟩ := gT_tbl (T := T) hT v
    rw [e] at q
    cases q
  let S0 : Hp := fun b => if vT T b then none else H b
  have s0 : ∀ b o, S0 b = some o → ¬ vT T b ∧ H b = some o := fun b o e => by
    by_cases v : vT T b
    · have e : (if vT T b then none else H b) = some o := e
      rw [if_pos v] at e
      cases e
    · have e : (if vT T b then none else H b) = some o := e
      rw [if_neg v] at e
      exact ⟨v, e⟩
  have s1 : ∀ b, ¬ vT T b → S0 b = H b := fun b v => if_neg v
  have tp : ∀ b o, S0 b = some o → TpO o := fun b o e => by
    obtain ⟨v, e⟩ := s0 b o e
    rcases hO b o e with q | ⟨lo, hd, rfl⟩
    · exact (v q).elim
    · exact hd
  have hS0 : SqL K S0 a (ns.map V.int) := by
    rcases hS with (q | ⟨lo, q⟩) | q
    · exfalso
      rcases hO a _ q with v | ⟨lo, _, e⟩
      · obtain ⟨ps, e⟩ := gT_tbl (T := T) hT v
        rw [q] at e
        cases e
      · cases e
    · refine .inl (.inr ⟨lo, ?_⟩)
      rw [s1 a (fun v => by
        obtain ⟨ps, e⟩ := gT_tbl (T := T) hT v
        rw [q] at e
        cases e)]
      exact q
    · exact .inr q
  refine law_wells hn hN0 tp (fun b v => if_pos v) hS0 rfl ⟨hT, fun b o e => (s0 b o e).2, fun b o e => ?_⟩ (fun lap hlap => hw ns lap hl hlap) hR hQ
  rcases hO b o e with v | ⟨lo, _, rfl⟩
  · obtain ⟨ps, q⟩ := gT_tbl (T := T) hT v
    rw [e] at q
    cases q
    trivial
  · show (ns.map V.int).length ≤ sizeLine
    rw [List.length_map, sizeLine_eq]
    omega
end Pu

set_option Elab.async false
set_option linter.all false
set_option maxRecDepth 100000
set_option maxHeartbeats 4000000
/-! Pure readings: dicts whose keys are tuples of texts, one's own. -/
namespace Pu
open PySem PySem.Spec L2
open PyProof.Rows hiding St
abbrev tkn (P : Program) (w : World) := tupleKind (mixKind P w)
abbrev TXs := List (List L2.Key × Addr × Value)
def TDφ (P : Program) (w : World) (a : Addr) (xs : TXs) (h : Heap) : Prop := ∃ o es ep, h.get? a = some o ∧ o.ExactDict ∧ o.data = .dict es ep ∧ es.toList = xs.map (entryOfKey (tkn P w)) ∧ (xs.map (·.1)).Nodup
def TDO (P : Program) (w : World) (a : Addr) (xs : TXs) : HO := .ext (TDφ P w a xs)
theorem TDO_ok {P : Program} {w : World} {H : Hp} {h : Heap} {a : Addr} {xs : TXs} (q : TDφ P w a xs h) : ObjOk P w H h a (TDO P w a xs) :=
  ⟨q, let ⟨o, _, _, e, _⟩ := q; ⟨o, e⟩, fun h1 h2 ⟨o, es, ep, e, r⟩ k => ⟨o, es, ep, k o e, r⟩⟩
theorem TDO_tbl {P : Program} {w : World} {a : Addr} {xs : TXs} (ps : Array Value) : TDO P w a xs ≠ .tbl ps := fun z => by unfold TDO at z; cases z
theorem TDO_code {P : Program} {w : World} {a c : Addr} {q : Str} {xs : TXs} : TDO P w a xs ≠ LamX.CodeO c q := fun z => by
  unfold TDO LamX.CodeO at z
  injection z with z
  let ob : Obj := { cls := .none, data := .fields #[.none, .str q 0] }
  let h : Heap := { objs := Array.replicate (c + 1) ob }
  have hg : ∀ b o, h.get? b = some o → o = ob := fun b o e => by
    unfold Heap.get? at e
    simp only [h] at e
    by_cases hb : b < c + 1
    · rw [Array.getElem?_replicate, if_pos hb] at e
      simpa [ob] using e.symm
    · rw [Array.getElem?_replicate, if_neg hb] at e
      cases e
  have h1 : (fun h : Heap => ∃ (oc : Obj) (vs : Array Value) (t : Tok), h.get? c = some oc ∧ oc.data = .fields vs ∧ vs[1]? = some (.str q t)) h := by
    refine ⟨ob, _, 0, ?_, rfl, rfl⟩
    unfold Heap.get?
    simp only [h]
    rw [Array.getElem?_replicate, if_pos (Nat.lt_succ_self c)]
  rw [← z] at h1
  obtain ⟨o, es, ep, e, _, ed, _⟩ := h1
  rw [hg a o e] at ed
  cases ed
def keyL (k : List Str) : List L2.Key := k.map Sum.inr
theorem keyL_V (k : List Str) : (keyL k).map kV = k.map V.str := by unfold keyL; rw [List.map_map]; rfl
theorem keyL_inj {a b : List Str} (h : keyL a = keyL b) : a = b := by
  unfold keyL at h
  exact (List.map_inj_right (fun x y e => Sum.inr.inj e)).mp h
section
variable {X : Cx} {pins : List (Addr × Obj)} {σ : L2.St} {H : Hp} {s : Shared} {a b : Addr} {xs : TXs} {k : List L2.Key} {A : Around} {E : Value → Shared → Prop}
theorem td_key (I : Inv X pins σ H s) (h : SqT X.K H b (k.map kV)) : (tkn X.prog X.w).is s.heap k b := by
  obtain ⟨its, r, ⟨o, h1, h2, n, h3⟩, _⟩ := I.tuple h
  exact ⟨o, its.toArray, n, h1, h2, h3, by simpa using items_are r⟩
def TKeys (K : PySem.W.Frag) (H : Hp) (xs : TXs) : Prop := ∀ q ∈ xs, SqT K H q.2.1 (q.1.map kV)
theorem td_of (I : Inv X pins σ H s) (e : H a = some (TDO X.prog X.w a xs)) (hk : TKeys X.K H xs) : s.heap.DictOfH (tkn X.prog X.w) a xs := by
  obtain ⟨⟨o, es, ep, h1, h2, h3, h4, h5⟩, _⟩ := I.hok a _ e
  exact ⟨o, es, ep, h1, h2, h3, h4, fun q hq => td_key I (hk q hq), h5⟩
theorem td_put (I : Inv X pins σ H s) {ys : TXs} {h' : Heap} {t' : Nat} (e : H a = some (TDO X.prog X.w a xs)) (hs : Heap.SameBut a s.heap h') (dd : h'.DictOfH (tkn X.prog X.w) a ys) : Inv X pins σ (upd H a (TDO X.prog X.w a ys)) { s with heap := h', toks := t' } := by
  obtain ⟨o, es, ep, h1, h2, h3, h4, _, h5⟩ := dd
  exact d_write I (by rw [e]; exact True.intro) hs ⟨o, h1⟩ (TDO_ok ⟨o, es, ep, h1, h2, h3, h4, h5⟩)
end
/-! ### readings -/
/-- {k: v} -/
def tTDisp (K : PySem.W.Frag) (P : Program) (w : World) (tk tv : TE) : TE := fun σ H Q => ∀ p, H p = none → (p == sysModules) = false → tk σ (upd H p (TDO P w p [])) fun x H1 => tv σ H1 fun y H2 => H2 p = some (TDO P w p []) ∧
  ∃ b k, x = .ref b ∧ SqT K H2 b (k.map kV) ∧ ∀ val, RelV y val → Q (.ref p) (upd H2 p (TDO P w p [(k, b, val)]))
/-- d[k] -/
def tTGet (K : PySem.W.Frag) (P : Program) (w : World) (td tk : TE) : TE := fun σ H Q => td σ H fun x H1 => tk σ H1 fun y H2 => ∃ a b k xs c val v, x = .ref a ∧ y = .ref b ∧ H2 a = some (TDO P w a xs) ∧ TKeys K H2 xs ∧ SqT K H2 b (k.map kV) ∧ atKey xs k = some (c, val) ∧ RelV v val ∧ Q v H2
/-- k in d, k not in d -/
def tTIn (neg : Bool) (K : PySem.W.Frag) (P : Program) (w : World) (tk td : TE) : TE := fun σ H Q => tk σ H fun y H1 => td σ H1 fun x H2 => ∃ a b k xs, x = .ref a ∧ y = .ref b ∧ (a == sysModules) = false ∧ H2 a = some (TDO P w a xs) ∧ TKeys K H2 xs ∧ SqT K H2 b (k.map kV) ∧
  Q (.bl (if neg then !(atKey xs k).isSome else (atKey xs k).isSome)) H2
/-- d[k] = v -/
def sTPut (K : PySem.W.Frag) (P : Program) (w : World) (td tk tv : TE) : TS := fun D σ H => tv σ H fun v H1 => td σ H1 fun x H2 => tk σ H2 fun y H3 => ∃ a b k xs, x = .ref a ∧ y = .ref b ∧ H3 a = some (TDO P w a xs) ∧ TKeys K H3 xs ∧ SqT K H3 b (k.map kV) ∧ xs.length < sizeLine ∧
  ∀ val, RelV v val → D.nx σ (upd H3 a (TDO P w a (storedH xs k b val)))
section
variable {X : Cx} {o i e value : Expr} {pos pos' tpos : Pos} {td tk tv : TE}
theorem pe_tget (hu : X.A.units + 1 < cLine) (ho : PE X o td) (hi : PE X i tk) (hs : NoSl i) : PE X (.Subscript o i pos) (tTGet X.K X.prog X.w td tk) := by
  refine ⟨fun pins s σ H Q I h => ?_⟩
  refine subD_of PySem.F.slot_dict_getitem.lookup hs (thn (ho.run pins s σ H _ I h) fun u s1 ⟨x, H1, I1, rx, q1⟩ => thn (hi.run pins s1 σ H1 _ I1 q1) fun iv s2 ⟨y, H2, I2, ry, a, b, k, xs, c, val, v, ex, ey, h1, h2, h3, h4, h5, q2⟩ => ?_)
  subst ex ey
  obtain rfl : u = Value.ref a := rx
  obtain rfl : iv = Value.ref b := ry
  have dd := td_of I2 h1 h2
  exact ⟨dd.typeIs, wpAny_getItem_heap (tupleKind_room_in1 hu) (td_key I2 h3) dd h4 ⟨v, H2, I2.tok _, h5, q2⟩⟩
theorem pc_tin (hu : X.A.units + 1 < cLine) (hi : PE X i tk) (ho : PE X o td) : PC X .In i o (tTIn false X.K X.prog X.w tk td) := by
  refine ⟨fun pins s σ H Q I h => ?_⟩
  refine thn (hi.run pins s σ H _ I h) fun iv s1 ⟨y, H1, I1, ry, q1⟩ => thn (ho.run pins s1 σ H1 _ I1 q1) fun u s2 ⟨x, H2, I2, rx, a, b, k, xs, ex, ey, hd, h1, h2, h3, q2⟩ => ?_
  subst ex ey
  obtain rfl : u = Value.ref a := rx
  obtain rfl : iv = Value.ref b := ry
  exact wpAny_in_heap (tupleKind_room_in1 hu) (td_key I2 h3) hd (td_of I2 h1 h2) ⟨.bl (atKey xs k).isSome, H2, I2.tok _, rfl, q2⟩
theorem pc_tnotin (hu : X.A.units + 1 < cLine) (hi : PE X i tk) (ho : PE X o td) : PC X .NotIn i o (tTIn true X.K X.prog X.w tk td) := by
  refine ⟨fun pins s σ H Q I h => ?_⟩
  refine thn (hi.run pins s σ H _ I h) fun iv s1 ⟨y, H1, I1, ry, q1⟩ => thn (ho.run pins s1 σ H1 _ I1 q1) fun u s2 ⟨x, H2, I2, rx, a, b, k, xs, ex, ey, hd, h1, h2, h3, q2⟩ => ?_
  subst ex ey
  obtain rfl : u = Value.ref a := rx
  obtain rfl : iv = Value.ref b := ry
  exact wpAny_notIn_heap (tupleKind_room_in1 hu) (td_key I2 h3) hd (td_of I2 h1 h2) ⟨.bl (!(atKey xs k).isSome), H2, I2.tok _, rfl, q2⟩
theorem ps_tput (hu : X.A.units + 1 < cLine) (ho : PE X o td) (hi : PE X i tk) (hv : PE X value tv) (hs : swapsWith value (some (.Subscript o i pos')) pos.line X.env = pure false) :
    PS X (.Assign [.Subscript o i pos'] value pos) (sTPut X.K X.prog X.w td tk tv) := by
  refine ⟨fun pins s σ H D I h => ?_⟩
  refine wpAny_Assign_Subscript (thn (hv.run pins s σ H _ I h) fun r s1 ⟨v, H1, I1, rv, q1⟩ => thn (ho.run pins s1 σ H1 _ I1 q1) fun u s2 ⟨x, H2, I2, rx, q2⟩ => thn (hi.run pins s2 σ H2 _ I2 q2) fun iv s3 ⟨y, H3, I3, ry, a, b, k, xs, ex, ey, h1, h2, h3, hz, q3⟩ => ?_) hs
  subst ex ey
  obtain rfl : u = Value.ref a := rx
  obtain rfl : iv = Value.ref b := ry
  exact wpAny_setItem_heap (hsz := Nat.le_of_lt hz) (tupleKind_room_in1 hu) (td_key I3 h3) (td_of I3 h1 h2) fun h' dd' hs' => ⟨σ, _, td_put I3 h1 hs' dd', q3 r rv⟩
theorem pe_tdisp (hu : X.A.units + 1 < cLine) (hi : PE X i tk) (hv : PE X value tv) : PE X (.Dict [some i] [value] pos) (tTDisp X.K X.prog X.w tk tv) := by
  refine ⟨fun pins s σ H Q I q => ?_⟩
  have hn := I.hok.fresh (Nat.le_refl s.heap.objs.size)
  have hd : (s.heap.objs.size == sysModules) = false := beq_eq_false_iff_ne.mpr (Ne.symm (Nat.ne_of_lt I.big))
  have I1 := I.laid (a := s.heap.objs.size) (o := TDO X.prog X.w s.heap.objs.size []) (h' := s.heap.push { cls := .type "dict", data := .dict #[] }) (t' := s.toks) (fun _ _ q => Heap.get?_push_of_some _ q) (Nat.le_refl _) (TDO_ok ⟨_, #[], 0, Heap.get?_push_size _ rfl, ⟨rfl, rfl, rfl⟩, rfl, rfl, List.nodup_nil⟩)
  have hz := zip_pairTrees [some i] [value] X.env pos rfl rfl
  rw [arm_eval_Dict, hz, dictDisplay_pairs _ (by simp [pairTrees]) (by simp [pairTrees])]
  refine wpAny_bind (wpAny_standAt (wpAny_bind (wpAny_subDictH (knd := tkn X.prog X.w) (Q := fun d s' => wpAny (model X.prog X.w) X.A (pure (Value.ref d)) (fun v s' => ∃ x H', Inv X pins σ H' s' ∧ L2.RelV x v ∧ Q x H') X.xe s') (show X.A.units < cLine by omega) (by simp [pairTrees]) ?_)))
  refine pairTrees_cons_walk (thn (hi.run pins _ σ _ _ I1 (q _ hn hd)) fun u s1 ⟨x, H1, I1', rx, q1⟩ => thn (hv.run pins s1 σ H1 _ I1' q1) fun vv s2 ⟨y, H2, I2, ry, e, b, k, ex, hk, q2⟩ => ?_)
  subst ex
  obtain rfl : u = Value.ref b := rx
  refine pairTrees_nil_walk ⟨[(k, b, vv)], ⟨rfl, rfl, td_key I2 hk, True.intro⟩, td_of I2 e (fun q hq => nomatch hq), fun h' tk dd hs => wpAny_pure ⟨.ref s.heap.objs.size, _, td_put I2 e hs (?_ : h'.DictOfH (tkn X.prog X.w) _ [(k, b, vv)]), rfl, q2 vv ry⟩⟩
  exact dd
end
end Pu

set_option Elab.async false
set_option linter.all false
set_option maxRecDepth 100000
set_option maxHeartbeats 4000000
/-! Pure readings: dicts whose keys are tuples of texts: the rules. -/
namespace Pu
open PySem PySem.Spec L2
open PyProof.Rows hiding St
def TEn (K : PySem.W.Frag) (S : Hp) (p : List Str × D) (q : List L2.Key × Addr × Value) : Prop := q.1 = keyL p.1 ∧ SqT K S q.2.1 (p.1.map V.str) ∧ ∃ v, L2.RelV v q.2.2 ∧ Dp K S v p.2
def TdR (P : Program) (w : World) (K : PySem.W.Frag) (kvs : List (List Str × D)) (a : Addr) (S : Hp) (u : HO) : Prop := (a == sysModules) = false ∧ ∃ xs, u = TDO P w a xs ∧ Paired (TEn K S) kvs xs
def lookT (kvs : List (List Str × D)) (k : List Str) : Option D := (kvs.find? fun p => decide (p.1 = k)).map (·.2)
def putT (kvs : List (List Str × D)) (k : List Str) (d : D) : List (List Str × D) := if (lookT kvs k).isSome = true then kvs.map (fun p => if p.1 = k then (p.1, d) else p) else kvs ++ [(k, d)]
def strT : D → (List Str → Prop) → Prop
  | .tuple ds, Q => ∃ xs, sTexts ds = some xs ∧ Q xs
  | _, _ => False
section
variable {K : PySem.W.Frag} {S S' : Hp} {P : Program} {w : World}
theorem TEn.mono (e : Same S S') {p : List Str × D} {q : List L2.Key × Addr × Value} (h : TEn K S p q) : TEn K S' p q := by
  obtain ⟨h1, h2, v, h3, h4⟩ := h
  exact ⟨h1, SqT.mono e h2, v, h3, Dp.mono e h4⟩
theorem TdR.mono (kvs : List (List Str × D)) (a : Addr) (S S' : Hp) (u : HO) (e : Same S S') (h : TdR P w K kvs a S u) : TdR P w K kvs a S' u := by
  obtain ⟨h1, xs, h2, h3⟩ := h
  exact ⟨h1, xs, h2, L2.Paired.mapP h3 fun _ _ z => z.mono e⟩
theorem ten_keys {kvs : List (List Str × D)} {xs : TXs} (h : Paired (TEn K S) kvs xs) : TKeys K S xs := by
  induction h with
  | nil => exact fun q hq => nomatch hq
  | @cons p q ps qs hq t ih =>
    intro x hx
    rcases List.mem_cons.mp hx with rfl | hx
    · rw [hq.1, keyL_V]; exact hq.2.1
    · exact ih x hx
theorem ten_look {k : List Str} : ∀ {kvs : List (List Str × D)} {xs : TXs}, Paired (TEn K S) kvs xs → (∀ d, lookT kvs k = some d → ∃ c val v, atKey xs (keyL k) = some (c, val) ∧ L2.RelV v val ∧ Dp K S v d) ∧ (lookT kvs k = none → atKey xs (keyL k) = none)
  | _, _, .nil => ⟨fun d h => (nomatch h), fun _ => rfl⟩
  | p :: kvs, q :: xs, .cons hq t => by
    obtain ⟨i1, i2⟩ := ten_look (k := k) t
    obtain ⟨h1, h2, v, h3, h4⟩ := hq
    unfold lookT atKey at i1 i2 ⊢
    rw [List.find?_cons, List.find?_cons, h1]
    by_cases e : p.1 = k
    · have e2 : keyL p.1 = keyL k := by rw [e]
      simp only [e, decide_true]
      exact ⟨fun d hd => by cases hd; exact ⟨q.2.1, q.2.2, v, rfl, h3, h4⟩, fun hd => by cases hd⟩
    · have e2 : ¬ keyL p.1 = keyL k := fun z => e (keyL_inj z)
      simp only [e, e2, decide_false]
      exact ⟨i1, i2⟩
theorem ten_some {k : List Str} {kvs : List (List Str × D)} {xs : TXs} (h : Paired (TEn K S) kvs xs) : (atKey xs (keyL k)).isSome = (lookT kvs k).isSome := by
  obtain ⟨i1, i2⟩ := ten_look (k := k) h
  cases e : lookT kvs k with
  | none => rw [i2 e]; rfl
  | some d => obtain ⟨c, val, v, h1, _⟩ := i1 d e; rw [h1]; rfl
theorem ten_map {k : List Str} {val : Value} {v : V} {d : D} (hv : L2.RelV v val) (hd : Dp K S v d) : ∀ {kvs : List (List Str × D)} {xs : TXs}, Paired (TEn K S) kvs xs → Paired (TEn K S) (kvs.map fun p => if p.1 = k then (p.1, d) else p) (xs.map (putAt (keyL k) val))
  | _, _, .nil => .nil
  | p :: kvs, q :: xs, .cons hq t => by
    refine .cons ?_ (ten_map hv hd t)
    obtain ⟨h1, h2, h3⟩ := hq
    unfold putAt
    show TEn K S (if p.1 = k then (p.1, d) else p) _
    by_cases e : p.1 = k
    · rw [if_pos e, if_pos (by rw [h1, e])]
      exact ⟨h1, h2, v, hv, hd⟩
    · rw [if_neg e, if_neg (fun z => e (keyL_inj (h1.symm.trans z)))]
      exact ⟨h1, h2, h3⟩
theorem ten_app : ∀ {kvs kvs' : List (List Str × D)} {xs xs' : TXs}, Paired (TEn K S) kvs xs → Paired (TEn K S) kvs' xs' → Paired (TEn K S) (kvs ++ kvs') (xs ++ xs')
  | _, _, _, _, .nil, h => h
  | _, _, _, _, .cons a t, h => .cons a (ten_app t h)
theorem ten_put {k : List Str} {b : Addr} {val : Value} {v : V} {d : D} {kvs : List (List Str × D)} {xs : TXs} (h : Paired (TEn K S) kvs xs) (hb : SqT K S b (k.map V.str)) (hv : L2.RelV v val) (hd : Dp K S v d) : Paired (TEn K S) (putT kvs k d) (storedH xs (keyL k) b val) := by
  unfold putT storedH
  rw [ten_some h]
  by_cases e : (lookT kvs k).isSome = true
  · rw [if_pos e, if_pos e]; exact ten_map hv hd h
  · rw [if_neg e, if_neg e]; exact ten_app h (.cons ⟨rfl, hb, v, hv, hd⟩ .nil)
theorem strT_rep {v : V} {d : D} {Q : List Str → Prop} (h : strT d Q) (r : Rep K S v d) : ∃ b ks, v = .ref b ∧ SqT K S b (ks.map V.str) ∧ Q ks := by
  cases d with
  | tuple ds =>
    obtain ⟨xs, h1, h2⟩ := h
    cases (show Dp K S v (.tuple ds) from r) with
    | tup hs ha => rw [strs_vals ha h1] at hs; exact ⟨_, xs, rfl, hs, h2⟩
  | _ => exact (h : False).elim
end
section
variable {K : PySem.W.Frag} {C : GC K} {S H : Hp} {σ : L2.St} {ρ : List Sl}
/-- an own object is written -/
theorem Rel.writeOb (r : Rel C S H σ ρ) (i : Nat) {R R' : Addr → Hp → HO → Prop} {l : Addr} {u u' : HO} (e : gt ρ i = .ob R) (e1 : NdefX.slotAt σ i = some (.ref l)) (hu : H l = some u) (nc : ∀ c q, u ≠ LamX.CodeO c q) (nt : ∀ ps, u' ≠ .tbl ps) (hz : SzO u') (hm : ∀ S S' u, Same S S' → R' l S u → R' l S' u) (hR : R' l S u') :
    Rel C S (upd H l u') σ (ρ.set i (.ob R')) := by
  have q := r.sl i
  rw [e] at q
  obtain ⟨l0, u0, e0, h1, h2, h3, h4, h5, h6, h7⟩ := q
  rw [e1] at e0; cases e0
  have hil : i < ρ.length := by
    by_cases hl : i < ρ.length
    · exact hl
    · unfold gt at e
      rw [List.getD_eq_getElem?_getD, List.getElem?_eq_none_iff.mpr (by omega)] at e
      cases e
  refine ⟨r.good.putX C.gst hu nc h2 h4 hz, r.stp.put h3, fun j => ?_, fun j k m a1 a2 b1 b2 => ?_, by rw [List.length_set]; exact r.len⟩
  · rw [gt_set]
    by_cases q : j = i
    · rw [if_pos ⟨q, hil⟩, q, e1]
      exact ⟨l, u', rfl, upd_same, h2, h3, h4, nt, hm, hR⟩
    · rw [if_neg (fun z => q z.1)]
      have s := r.sl j
      cases hs : gt ρ j with
      | un => trivial
      | da d => rw [hs] at s; exact s
      | ow es =>
        rw [hs] at s
        obtain ⟨l', vs2, e2, k1, k2, k3, k4, k5⟩ := s
        have nl : l' ≠ l := fun z => q (r.ne j i l (by rw [hs]; rfl) (by rw [e]; rfl) (by rw [e2, z]) e1)
        exact ⟨l', vs2, e2, (upd_ne nl).trans k1, k2, k3, k4, k5⟩
      | od kvs =>
        rw [hs] at s
        obtain ⟨l', e2, k1, k2, k3, k4⟩ := s
        have nl : l' ≠ l := fun z => q (r.ne j i l (by rw [hs]; rfl) (by rw [e]; rfl) (by rw [e2, z]) e1)
        exact ⟨l', e2, k1.mono (Same.refl S) (upd_ne nl), k2, k3, k4⟩
      | ob R2 =>
        rw [hs] at s
        obtain ⟨l', u2, e2, k1, k2, k3, k4, k5, k6, k7⟩ := s
        have nl : l' ≠ l := fun z => q (r.ne j i l (by rw [hs]; rfl) (by rw [e]; rfl) (by rw [e2, z]) e1)
        exact ⟨l', u2, e2, (upd_ne nl).trans k1, k2, k3, k4, k5, k6, k7⟩
      | rw v => rw [hs] at s; exact s
  · rw [gt_set] at a1 a2
    have fx : ∀ j, (if j = i ∧ i < ρ.length then Sl.ob R' else gt ρ j).own = true → (gt ρ j).own = true := fun j a => by
      by_cases q : j = i ∧ i < ρ.length
      · rw [q.1, e]; rfl
      · rw [if_neg q] at a; exact a
    exact r.ne j k m (fx j a1) (fx k a2) b1 b2
theorem ob_at (r : Rel C S H σ ρ) {i : Nat} {P : Program} {w : World} {kvs : List (List Str × D)} (e : gt ρ i = .ob (TdR P w K kvs)) : ∃ l xs, NdefX.slotAt σ i = some (.ref l) ∧ H l = some (TDO P w l xs) ∧ S l = none ∧ C.H0 l = none ∧ ¬ C.vol l ∧ (l == sysModules) = false ∧ Paired (TEn K S) kvs xs := by
  have q := r.sl i
  rw [e] at q
  obtain ⟨l, u, e0, h1, h2, h3, h4, h5, h6, h7, xs, rfl, h8⟩ := q
  exact ⟨l, xs, e0, h1, h2, h3, h4, h7, h8⟩
end
section
variable {X : Cx} {C : GC X.K} {a b e o value : Expr} {es : List Expr} {ta te tv : TE} {ma me mv : ME} {pos pos' p p2 : Pos} {t : TA}
theorem blkP {X : Cx} {s : Shared} {H : Hp} {sc : Scope} {env : Env} {fp : List Addr} : (X.blk s H sc env fp).prog = X.prog := rfl
theorem blkP2 {X : Cx} {s s2 : Shared} {H H2 : Hp} {sc sc2 : Scope} {env env2 : Env} {fp fp2 : List Addr} : ((X.blk s H sc env fp).blk s2 H2 sc2 env2 fp2).prog = X.prog := rfl
theorem blkW {X : Cx} {s : Shared} {H : Hp} {sc : Scope} {env : Env} {fp : List Addr} : (X.blk s H sc env fp).w = X.w := rfl
theorem blkW2 {X : Cx} {s s2 : Shared} {H H2 : Hp} {sc sc2 : Scope} {env env2 : Env} {fp fp2 : List Addr} : ((X.blk s H sc env fp).blk s2 H2 sc2 env2 fp2).w = X.w := rfl
/-! ### d[k], k in d -/
def mTget (P : Program) (w : World) (K : PySem.W.Frag) (i : Nat) (mk : ME) : ME := fun ρ Q => ∃ kvs, gt ρ i = .ob (TdR P w K kvs) ∧ mk ρ fun kd => strT kd fun ks => ∃ d, lookT kvs ks = some d ∧ Q d
theorem p_tget {P₁ : Program} {w₁ : World} {K₁ : PySem.W.Frag} (i : Nat) {x : Str} (hu : X.A.units + 1 < cLine) (hi : PP X C a te me) (hN : X.N[i]? = some x := by rfl) (hv : Vis X.env.scope x := by first | exact Or.inl rfl | exact Or.inr (Or.inl rfl) | exact Or.inr (Or.inr rfl)) (hd : (x == ("__debug__" : Str)) = false := by decide)
    (hcd : (x == ("__classdict__" : Str)) = false := by decide) (hs : NoSl a := by exact fun _ _ => rfl) (hP₁ : X.prog = P₁ := by first | exact blkP2 | exact blkP | exact rfl) (hw₁ : X.w = w₁ := by first | exact blkW2 | exact blkW | exact rfl) (hK₁ : X.K = K₁ := by first | exact blkK2 | exact blkK | exact rfl) : PP X C (.Subscript (.Name x p) a pos) (tTGet K₁ P₁ w₁ (tVar i) te) (mTget P₁ w₁ K₁ i me) := by subst hP₁ hw₁ hK₁; exact ⟨pe_tget hu (pe_var hN hv hd hcd) hi.pe hs, by
  intro S H σ ρ P Q rl hm k
  obtain ⟨kvs, hg, hm⟩ := hm
  obtain ⟨l, xs, e1, h1, h2, h3, h4, h5, h6⟩ := ob_at rl hg
  refine ⟨.ref l, NdefX.slotAt_some e1, ?_⟩
  refine hi.rd S H σ ρ _ _ rl hm fun kd S1 H1 y p1 s1 g1 r1 => ?_
  obtain ⟨b, ks, rfl, hb, d, hd1, hd2⟩ := strT_rep p1 r1
  have h6' := L2.Paired.mapP h6 fun _ _ z => TEn.mono s1.ss z
  obtain ⟨c, val, v, a1, a2, a3⟩ := (ten_look (k := ks) h6').1 d hd1
  refine ⟨l, b, keyL ks, xs, c, val, v, rfl, rfl, s1.hh l _ h4 h1 (fun ps => TDO_tbl ps), fun q hq => SqT.mono g1.sub (ten_keys h6' q hq), by rw [keyL_V]; exact SqT.mono g1.sub hb, a1, a2, ?_⟩
  exact k d S1 H1 v hd2 s1 g1 (Rep.of a3)⟩
def mTin (neg : Bool) (P : Program) (w : World) (K : PySem.W.Frag) (i : Nat) (mk : ME) : ME := fun ρ Q => ∃ kvs, gt ρ i = .ob (TdR P w K kvs) ∧ mk ρ fun kd => strT kd fun ks => Q (.bool (if neg then !(lookT kvs ks).isSome else (lookT kvs ks).isSome))
theorem tin_rd (neg : Bool) (i : Nat) (hi : PP X C a te me) : RdE C (tTIn neg X.K X.prog X.w te (tVar i)) (mTin neg X.prog X.w X.K i me) := by
  intro S H σ ρ P Q rl hm k
  obtain ⟨kvs, hg, hm⟩ := hm
  obtain ⟨l, xs, e1, h1, h2, h3, h4, h5, h6⟩ := ob_at rl hg
  refine hi.rd S H σ ρ _ _ rl hm fun kd S1 H1 y p1 s1 g1 r1 => ?_
  obtain ⟨b, ks, rfl, hb, hq⟩ := strT_rep p1 r1
  have h6' := L2.Paired.mapP h6 fun _ _ z => TEn.mono s1.ss z
  refine ⟨.ref l, NdefX.slotAt_some e1, l, b, keyL ks, xs, rfl, rfl, h5, s1.hh l _ h4 h1 (fun ps => TDO_tbl ps), fun q hq => SqT.mono g1.sub (ten_keys h6' q hq), by rw [keyL_V]; exact SqT.mono g1.sub hb, ?_⟩
  rw [ten_some h6']
  exact k _ S1 H1 _ hq s1 g1 (Dp.bl _)
theorem p_tin {P₁ : Program} {w₁ : World} {K₁ : PySem.W.Frag} (i : Nat) {x : Str} (hu : X.A.units + 1 < cLine) (hi : PP X C a te me) (hN : X.N[i]? = some x := by rfl) (hv : Vis X.env.scope x := by first | exact Or.inl rfl | exact Or.inr (Or.inl rfl) | exact Or.inr (Or.inr rfl)) (hd : (x == ("__debug__" : Str)) = false := by decide)
    (hcd : (x == ("__classdict__" : Str)) = false := by decide) (hm : behindInMarks .In (.Name x p) = false := by rfl) (hP₁ : X.prog = P₁ := by first | exact blkP2 | exact blkP | exact rfl) (hw₁ : X.w = w₁ := by first | exact blkW2 | exact blkW | exact rfl) (hK₁ : X.K = K₁ := by first | exact blkK2 | exact blkK | exact rfl) : PP X C (.Compare a [.In] [.Name x p] pos) (tTIn false K₁ P₁ w₁ te (tVar i)) (mTin false P₁ w₁ K₁ i me) := by subst hP₁ hw₁ hK₁; exact ⟨pe_cmp (pc_tin hu hi.pe (pe_var hN hv hd hcd)) hm, tin_rd false i hi⟩
theorem p_tnot {P₁ : Program} {w₁ : World} {K₁ : PySem.W.Frag} (i : Nat) {x : Str} (hu : X.A.units + 1 < cLine) (hi : PP X C a te me) (hN : X.N[i]? = some x := by rfl) (hv : Vis X.env.scope x := by first | exact Or.inl rfl | exact Or.inr (Or.inl rfl) | exact Or.inr (Or.inr rfl)) (hd : (x == ("__debug__" : Str)) = false := by decide)
    (hcd : (x == ("__classdict__" : Str)) = false := by decide) (hm : behindInMarks .NotIn (.Name x p) = false := by rfl) (hP₁ : X.prog = P₁ := by first | exact blkP2 | exact blkP | exact rfl) (hw₁ : X.w = w₁ := by first | exact blkW2 | exact blkW | exact rfl) (hK₁ : X.K = K₁ := by first | exact blkK2 | exact blkK | exact rfl) : PP X C (.Compare a [.NotIn] [.Name x p] pos) (tTIn true K₁ P₁ w₁ te (tVar i)) (mTin true P₁ w₁ K₁ i me) := by subst hP₁ hw₁ hK₁; exact ⟨pe_cmp (pc_tnotin hu hi.pe (pe_var hN hv hd hcd)) hm, tin_rd true i hi⟩
/-! ### d[k] = v -/
def mTput (P : Program) (w : World) (K : PySem.W.Frag) (i : Nat) (mk mv : ME) : MS := fun ρ E => ∃ kvs, gt ρ i = .ob (TdR P w K kvs) ∧ mv ρ fun d => nd d (mk ρ fun kd => strT kd fun ks => kvs.length < sizeLine ∧ E.nx (ρ.set i (.ob (TdR P w K (putT kvs ks d)))))
theorem x_tput {P₁ : Program} {w₁ : World} {K₁ : PySem.W.Frag} (i : Nat) {x : Str} (hu : X.A.units + 1 < cLine) (hi : PP X C a te me) (hv : PP X C value tv mv) (hN : X.N[i]? = some x := by rfl) (hvs : Vis X.env.scope x := by first | exact Or.inl rfl | exact Or.inr (Or.inl rfl) | exact Or.inr (Or.inr rfl)) (hd : (x == ("__debug__" : Str)) = false := by decide)
    (hcd : (x == ("__classdict__" : Str)) = false := by decide) (hs : swapsWith value (some (.Subscript (.Name x p) a pos')) pos.line X.env = pure false := by rfl) (hP₁ : X.prog = P₁ := by first | exact blkP2 | exact blkP | exact rfl) (hw₁ : X.w = w₁ := by first | exact blkW2 | exact blkW | exact rfl) (hK₁ : X.K = K₁ := by first | exact blkK2 | exact blkK | exact rfl) : PSt X C (.Assign [.Subscript (.Name x p) a pos'] value pos) (sTPut K₁ P₁ w₁ (tVar i) te tv) (mTput P₁ w₁ K₁ i me mv) := by subst hP₁ hw₁ hK₁; exact ⟨ps_tput hu (pe_var hN hvs hd hcd) hi.pe hv.pe hs, by
  intro S H σ ρ E N rl hm k1 k2 k3 k4
  obtain ⟨kvs, hg, hm⟩ := hm
  obtain ⟨l, xs, e1, h1, h2, h3, h4, h5, h6⟩ := ob_at rl hg
  refine hv.rd S H σ ρ _ _ rl hm fun d S1 H1 v p1 s1 g1 r1 => ?_
  obtain ⟨nd1, p1⟩ := nd_iff p1
  refine ⟨.ref l, NdefX.slotAt_some e1, ?_⟩
  have rl1 := rl.step s1 g1
  refine hi.rd S1 H1 σ ρ _ _ rl1 p1 fun kd S2 H2 y p2 s2 g2 r2 => ?_
  obtain ⟨b, ks, rfl, hb, hz, hq⟩ := strT_rep p2 r2
  have s12 := s1.trans g1 s2
  have rl2 := rl1.step s2 g2
  have h6' := L2.Paired.mapP h6 fun _ _ z => TEn.mono s12.ss z
  have hl : xs.length = kvs.length := (paired_len h6).symm
  have hH : H2 l = some (TDO X.prog X.w l xs) := s12.hh l _ h4 h1 (fun ps => TDO_tbl ps)
  refine ⟨l, b, keyL ks, xs, rfl, rfl, hH, fun q hq => SqT.mono g2.sub (ten_keys h6' q hq), by rw [keyL_V]; exact SqT.mono g2.sub hb, by rw [hl]; exact hz, fun val hval => ?_⟩
  have hdv : Dp X.K S2 v d := Dp.mono s2.ss (r1.dp nd1)
  exact k1 _ S2 _ σ hq s12.ss (rl2.writeOb i hg e1 hH (fun c q => TDO_code) (fun ps => TDO_tbl ps) trivial (fun S S' u e h => TdR.mono _ _ _ _ _ e h) ⟨h5, _, rfl, ten_put h6' hb hval hdv⟩)⟩
/-! ### {k: v} among new values -/
def mXtd (P : Program) (w : World) (K : PySem.W.Frag) (mk mv : ME) (n : MX) : MX := fun ρ Q => mk ρ fun kd => strT kd fun ks => mv ρ fun d => nd d (n ρ fun ss => Q (.ob (TdR P w K [(ks, d)]) :: ss))
theorem xa_td {P₁ : Program} {w₁ : World} {K₁ : PySem.W.Frag} {m : MX} (hu : X.A.units + 1 < cLine) (hk : PP X C a te me) (hv : PP X C value tv mv) (hr : PX X C es t m) (hs : starEach (.Dict [some a] [value] pos :: es) X.env = (false, eval (.Dict [some a] [value] pos) X.env) :: starEach es X.env := by rfl) (hP₁ : X.prog = P₁ := by first | exact blkP2 | exact blkP | exact rfl) (hw₁ : X.w = w₁ := by first | exact blkW2 | exact blkW | exact rfl) (hK₁ : X.K = K₁ := by first | exact blkK2 | exact blkK | exact rfl) :
    PX X C (.Dict [some a] [value] pos :: es) (tCons (tTDisp K₁ P₁ w₁ te tv) t) (mXtd P₁ w₁ K₁ me mv m) := by subst hP₁ hw₁ hK₁; exact ⟨pa_cons (pe_tdisp hu hk.pe hv.pe) hr.pe hs, by
  intro S H σ ρ P Q r hm k l hl hd
  have nv : ¬ C.vol l := fun v => r.good.vh l v hl
  obtain ⟨gA, sA⟩ := r.good.newH C.gst hl (o := TDO X.prog X.w l []) trivial
  refine hk.rd S _ σ ρ _ _ (r.step sA gA) hm fun kd S1 H1 x p1 s1 g1 r1 => ?_
  obtain ⟨b, ks, rfl, hb, p1⟩ := strT_rep p1 r1
  refine hv.rd S1 H1 σ ρ _ _ ((r.step sA gA).step s1 g1) p1 fun d S2 H2 y p2 s2 g2 r2 => ?_
  obtain ⟨nd1, p2⟩ := nd_iff p2
  have s12 := s1.trans g1 s2
  have hA : H2 l = some (TDO X.prog X.w l []) := s12.hh l _ nv upd_same (fun ps => TDO_tbl ps)
  have hb2 := SqT.mono s2.ss hb
  have nS : S2 l = none := s12.no (r.good.sub.free hl) upd_same
  refine ⟨hA, b, keyL ks, rfl, by rw [keyL_V]; exact SqT.mono g2.sub hb2, fun val hval => ?_⟩
  have g3 : Good C.vol C.G S2 (upd H2 l (TDO X.prog X.w l [(keyL ks, b, val)])) := g2.putX C.gst hA (fun c q => TDO_code) nS nv trivial
  have s3 : Stp C.vol S H S2 (upd H2 l (TDO X.prog X.w l [(keyL ks, b, val)])) := (sA.trans gA s12).put hl
  refine hr.rd S2 _ σ ρ _ _ (r.step s3 g3) p2 fun ss S4 H4 vs p4 s4 g4 r4 ap => ?_
  have hH4 : H4 l = some (TDO X.prog X.w l [(keyL ks, b, val)]) := s4.hh l _ nv upd_same (fun ps => TDO_tbl ps)
  have new : NewOk X.K C.vol H S4 H4 (.ref l) (.ob (TdR X.prog X.w X.K [(ks, d)])) := ⟨l, _, rfl, hH4, s4.no nS upd_same, hl, nv, fun ps => TDO_tbl ps, fun S S' u e h => TdR.mono _ _ _ _ _ e h, hd, _, rfl, .cons ⟨rfl, SqT.mono s4.ss hb2, y, hval, Dp.mono s4.ss (r2.dp nd1)⟩ .nil⟩
  have hne : (upd H2 l (TDO X.prog X.w l [(keyL ks, b, val)])) l ≠ none := by rw [upd_same]; exact fun z => nomatch z
  have away : ∀ (j : Nat) (s' : Sl), vs[j]? = some (.ref l) → ss[j]? = some s' → s'.own = true → False := fun j s' b1 b2 b3 => by
    have q := paired_at r4 b1 b2
    cases s' with
    | ow es =>
      obtain ⟨l', ws', e1, c1, c2, c3, c4, c5⟩ := q
      cases e1
      exact hne c3
    | ob R =>
      obtain ⟨l', u', e1, c1, c2, c3, c4, c5⟩ := q
      cases e1
      exact hne c3
    | od _ => exact q.elim
    | _ => cases b3
  refine k _ S4 H4 (.ref l :: vs) p4 (s3.trans g3 s4) g4 (.cons new (paired_mono r4 fun _ _ z => z.back fun l nv q => s3.gone nv q)) fun i j v' s s' b1 b2 b3 b4 b5 b6 => ?_
  cases i with
  | zero =>
    cases j with
    | zero => rfl
    | succ j =>
      simp at b1
      subst b1
      exact (away j s' (by simpa using b2) (by simpa using b4) b6).elim
  | succ i =>
    cases j with
    | zero =>
      simp at b2
      subst b2
      exact (away i s (by simpa using b1) (by simpa using b3) b5).elim
    | succ j => exact congrArg (· + 1) (ap i j v' s s' (by simpa using b1) (by simpa using b2) (by simpa using b3) (by simpa using b4) b5 b6)⟩
end
theorem spG_imp {K : PySem.W.Frag} {vol : Addr → Prop} {G : Hp → Prop} {n : Nat} {Φ Φ' : Phi} (h : ∀ as P X, Φ' as P X → Φ as P X) : ∀ vs H Q E, spG K vol G n Φ' vs H Q E → spG K vol G n Φ vs H Q E := fun vs H Q E ⟨S, as, P, PX, ln, ha, g, hΦ, k⟩ => ⟨S, as, P, PX, ln, ha, g, h _ _ _ hΦ, k⟩
end Pu

set_option Elab.async false
set_option linter.all false
set_option maxRecDepth 100000
set_option maxHeartbeats 4000000
/-! Pure readings: a, b = x, y where a target is captured. -/
namespace Pu
open PySem PySem.Spec L2
open PyProof.Rows hiding St
section
variable {X : Cx} {C : GC X.K} {a b : Expr} {t : TA} {m : MX} {pos : Pos}
theorem rd_parC {i j : Nat} (hij : i ≠ j) (h : PX X C [a, b] t m) : RdS C (tAsg (tTupF t) (gTup X.K 2 (gCons (gName i) (gCons (gName j) gNil)))) (mPar2 i j m) := by
  intro S H σ ρ E N rl hm k1 k2 k3 k4
  refine h.rd S H σ ρ _ _ rl hm fun ss S1 H1 vs p s1 g1 r1 ap => ?_
  split at p
  · rename_i s s'
    obtain ⟨v, w, rfl, n1, n2⟩ := paired2 r1
    refine ⟨show 2 ≤ sizeLine by decide, fun q o hq ho => ?_⟩
    obtain ⟨g2, s2⟩ := g1.newH C.gst hq (o := .frz o (.tup [v, w])) (show 2 ≤ sizeLine by decide)
    have h0 : ∀ l, ¬ C.vol l → H l = none → C.H0 l = none := fun l nv q => rl.stp.gone nv q
    have s12 := s1.trans g1 s2
    have n1 := n1.step s2
    have n2 := n2.step s2
    have ra := rel_new (S := S) i (rl.step s12 g2) n1 h0 (own_old rl n1)
    have rb := rel_new (S := S) j ra n2 h0 fun ho q hq => by
      rcases own_set hq with ⟨rfl, z⟩ | z
      · intro e
        rw [slotAt_set] at e
        by_cases hl : q = q ∧ q < σ.length
        · rw [if_pos hl] at e
          cases e
          exact absurd (ap 0 1 v s s' rfl rfl rfl rfl z ho) (by decide)
        · rw [if_neg hl] at e
          have hq' : ¬ q < σ.length := fun x => hl ⟨rfl, x⟩
          unfold NdefX.slotAt at e
          rw [List.getElem?_eq_none_iff.mpr (by omega)] at e
          cases e
      · intro e
        rw [slotAt_set] at e
        by_cases hl : q = i ∧ i < σ.length
        · rw [if_pos hl] at e
          cases e
          rw [hl.1] at hq
          rw [gt_set, if_pos ⟨rfl, by rw [← rl.len]; exact hl.2⟩] at hq
          exact absurd (ap 0 1 v s s' rfl rfl rfl rfl hq ho) (by decide)
        · rw [if_neg hl] at e
          exact own_old rl n2 ho q z e
    exact ⟨q, [v, w], rfl, .inl (.inr ⟨o, upd_same⟩), rfl, v, [w], rfl, w, [], rfl, rfl, k1 _ S1 _ _ p s12.ss rb⟩
  · exact p.elim
theorem x_parC {K₁ : PySem.W.Frag} (i j : Nat) {x y : Str} {px py pt : Pos} {kt k2 : Nat} {pt2 : Pos} (h : PX X C [a, b] t m) (hN : X.N.Nodup) (hi : X.N[i]? = some x := by rfl) (hj : X.N[j]? = some y := by rfl) (hij : i ≠ j := by decide)
    (hx : Loc X.env.scope x := by first | exact Or.inl rfl | exact Or.inr rfl) (hfx : X.fn x = true ∨ X.env.scope.names.lookup x = some .local := by first | exact .inl rfl | exact .inr rfl)
    (hy : Loc X.env.scope y := by first | exact Or.inl rfl | exact Or.inr rfl) (hfy : X.fn y = true ∨ X.env.scope.names.lookup y = some .local := by first | exact .inl rfl | exact .inr rfl)
    (hs : swapsWithSole [.Tuple [.Name x px, .Name y py] kt pt] (.Tuple [a, b] k2 pt2) pos.line X.env = pure false := by rfl) (hw : swappedStores [.Tuple [.Name x px, .Name y py] kt pt] (.Tuple [a, b] k2 pt2) X.env = pure none := by rfl)
    (h1 : (assignEach [.Tuple [.Name x px, .Name y py] kt pt] X.env).map (·.2) = [assign (.Tuple [.Name x px, .Name y py] kt pt) X.env] := by rfl) (hc : X.calm = true := by rfl)
    (hn : (assignEach [.Name x px, .Name y py] X.env).length = 2 := by rfl) (hst : (assignEach [.Name x px, .Name y py] X.env).findIdx? (·.1) = none := by rfl)
    (q1 : (assignEach [.Name x px, .Name y py] X.env).map (·.2) = assign (.Name x px) X.env :: (assignEach [.Name y py] X.env).map (·.2) := by rfl) (q2 : (assignEach [.Name y py] X.env).map (·.2) = assign (.Name y py) X.env :: (assignEach [] X.env).map (·.2) := by rfl) (hK₁ : X.K = K₁ := by first | exact blkK2 | exact blkK | exact rfl) :
    PSt X C (.Assign [.Tuple [.Name x px, .Name y py] kt pt] (.Tuple [a, b] k2 pt2) pos) (tAsg (tTupF t) (gTup K₁ 2 (gCons (gName i) (gCons (gName j) gNil)))) (mPar2 i j m) := by
  subst hK₁; exact ⟨ps_asg (pe_tupF h.pe) (pg_tup hc (pgs_cons (pg_name hN hi hx hfx) (pgs_cons (pg_name hN hj hy hfy) pgs_nil q2) q1) hn hst) hs hw h1, rd_parC hij h⟩
theorem q_tin {P₁ : Program} {w₁ : World} {K₁ : PySem.W.Frag} {a : Expr} {te : TE} {me : ME} {p pos : Pos} (i : Nat) {x : Str} (hu : X.A.units + 1 < cLine) (hi : PP X C a te me) (hN : X.N[i]? = some x := by rfl) (hv : Vis X.env.scope x := by first | exact Or.inl rfl | exact Or.inr (Or.inl rfl) | exact Or.inr (Or.inr rfl)) (hd : (x == ("__debug__" : Str)) = false := by decide)
    (hcd : (x == ("__classdict__" : Str)) = false := by decide) (hm : behindInMarks .In (.Name x p) = false := by rfl) (hP₁ : X.prog = P₁ := by first | exact blkP2 | exact blkP | exact rfl) (hw₁ : X.w = w₁ := by first | exact blkW2 | exact blkW | exact rfl) (hK₁ : X.K = K₁ := by first | exact blkK2 | exact blkK | exact rfl) : PQ X C (.Compare a [.In] [.Name x p] pos) (tB (tTIn false K₁ P₁ w₁ te (tVar i))) (mTest (mTin false P₁ w₁ K₁ i me)) := by
  subst hP₁ hw₁ hK₁
  refine ⟨pt_cmp (pc_tin hu hi.pe (pe_var hN hv hd hcd)) hm, ?_⟩
  intro S H σ ρ P Q rl hm k
  refine (tin_rd false i hi).b S H σ ρ _ _ rl hm fun d S1 H1 x p1 s1 g1 r1 => ?_
  cases d with
  | bool b => exact ⟨b, rbool r1, k b S1 H1 p1 s1 g1⟩
  | _ => exact (p1 : False).elim
theorem q_tnot {P₁ : Program} {w₁ : World} {K₁ : PySem.W.Frag} {a : Expr} {te : TE} {me : ME} {p pos : Pos} (i : Nat) {x : Str} (hu : X.A.units + 1 < cLine) (hi : PP X C a te me) (hN : X.N[i]? = some x := by rfl) (hv : Vis X.env.scope x := by first | exact Or.inl rfl | exact Or.inr (Or.inl rfl) | exact Or.inr (Or.inr rfl)) (hd : (x == ("__debug__" : Str)) = false := by decide)
    (hcd : (x == ("__classdict__" : Str)) = false := by decide) (hm : behindInMarks .NotIn (.Name x p) = false := by rfl) (hP₁ : X.prog = P₁ := by first | exact blkP2 | exact blkP | exact rfl) (hw₁ : X.w = w₁ := by first | exact blkW2 | exact blkW | exact rfl) (hK₁ : X.K = K₁ := by first | exact blkK2 | exact blkK | exact rfl) : PQ X C (.Compare a [.NotIn] [.Name x p] pos) (tB (tTIn true K₁ P₁ w₁ te (tVar i))) (mTest (mTin true P₁ w₁ K₁ i me)) := by
  subst hP₁ hw₁ hK₁
  refine ⟨pt_cmp (pc_tnotin hu hi.pe (pe_var hN hv hd hcd)) hm, ?_⟩
  intro S H σ ρ P Q rl hm k
  refine (tin_rd true i hi).b S H σ ρ _ _ rl hm fun d S1 H1 x p1 s1 g1 r1 => ?_
  cases d with
  | bool b => exact ⟨b, rbool r1, k b S1 H1 p1 s1 g1⟩
  | _ => exact (p1 : False).elim
end
end Pu

set_option Elab.async false
set_option linter.all false
set_option maxRecDepth 100000
set_option maxHeartbeats 4000000
/-! Pure readings: a, b = a list. -/
namespace Pu
open PySem PySem.Spec L2
open PyProof.Rows hiding St
section
variable {X : Cx} {C : GC X.K} {es : List Expr} {pos : Pos}
def gTpL (k : Nat) (n : List D → List Sl → (List Sl → Prop) → Prop) : D → List Sl → (List Sl → Prop) → Prop
  | .list ds, ρ, P => ds.length = k ∧ n ds ρ P
  | _, _, _ => False
theorem rd_gTpL {n : Nat} {gs : TGs} {is : List Nat} {gn : List D → List Sl → (List Sl → Prop) → Prop} (h : PGts X C es gs is gn) : RdG C (gUnl X.K n gs) is (gTpL n gn) := fun S H σ ρ v d P Q rl r hm k => by
  cases d with
  | list ds =>
    obtain ⟨l, vs, rfl, hd, ht, hz⟩ := (RepH.of rl.good r).lst rl.good
    exact ⟨l, vs, rfl, ht, by rw [DpAll.length hd]; exact hm.1, h.rd S H σ ρ vs ds P Q rl hd hm.2 k⟩
  | _ => exact (hm : False).elim
theorem g_tpl {K₁ : PySem.W.Frag} {n k : Nat} {gs : TGs} {is : List Nat} {gn : List D → List Sl → (List Sl → Prop) → Prop} (h : PGts X C es gs is gn) (hc : X.calm = true := by rfl) (hn : (assignEach es X.env).length = n := by rfl) (hst : (assignEach es X.env).findIdx? (·.1) = none := by rfl) (hK₁ : X.K = K₁ := by first | exact blkK2 | exact blkK | exact rfl) :
    PGt X C (.Tuple es k pos) (gUnl K₁ n gs) is (gTpL n gn) := by subst hK₁; exact (⟨pg_unl hc h.pe hn hst, rd_gTpL h⟩)
end
end Pu

set_option Elab.async false
set_option linter.all false
set_option maxRecDepth 100000
set_option maxHeartbeats 4000000
/-! Pure readings: a lambda with parameters, handed to a def that calls it. -/
namespace Pu
open PySem PySem.Spec L2 NdefX LamX
open PyProof.Rows hiding St
/-- the object at f is the lambda F (its words without the body) -/
def LmO (f : Addr) (F : NF) (body : Expr) : HO := .ext fun h => ∃ (od : Option Addr) (sl : Array (Option Value)) (pm ctv : Value), h.get? f = some (⟨.type "function", od, .func (PySem.W.kla_fn F.name F.qual F.params body F.scope F.cl pm (.ref F.c) ctv), sl⟩ : Obj)
def CF.lm (F : NF) (body : Expr) : CF := ⟨fun f => LmO f F body, CodeO F.c F.qual, F.c, F.cl⟩
theorem lmO_at {P : Program} {w : World} {H : Hp} {h : Heap} {f : Addr} {F : NF} {body : Expr} (hok : HOk P w H h) (e : H f = some (LmO f F body)) : ∃ (od : Option Addr) (sl : Array (Option Value)) (pm ctv : Value), h.get? f = some (⟨.type "function", od, .func (PySem.W.kla_fn F.name F.qual F.params body F.scope F.cl pm (.ref F.c) ctv), sl⟩ : Obj) := (hok f _ e).1
/-- a lambda by its body -/
theorem COk.lm {P : Program} {w : World} {K : PySem.W.Frag} {mg : Str → Option Value} {base : Heap} {N ps fr : List Str} {F : NF} {body : Expr} {f : Addr} {k : Nat} {sp : List (Option V) → Sp} (S : NScope N ps fr F.scope)
    (hb : ∀ (pm ctv : Value) (us : List Value), us.length = ps.length → bindArgs (PySem.W.kla_fn F.name F.qual F.params body F.scope F.cl pm (.ref F.c) ctv) ⟨us, []⟩ = pure (ps.zip us)) (len : ∀ ws vs H Q E, sp ws vs H Q E → vs.length = ps.length)
    (hbody : ∀ (A : Around) (outer : List Env) (s : Shared) (H : Hp) (vs : List V) (ws : List (Option V)) (Q : VK), Room k (A.deeper (envF F f s.heap.objs.size)) → sp ws vs H Q E0 → ∃ t, PE (ncx CX0 P w K mg base N F f A outer s H E0) body t ∧ t (startF N vs ws) H Q) :
    COk P w K mg base (k + 1) f (CF.lm F body) fr sp := by
  refine ⟨⟨_, rfl⟩, ⟨_, rfl⟩, fun hok e => ?_, fun A outer s H us vs ws Q hr e0 hf hc C r hsp => ?_⟩
  · obtain ⟨od, sl, pm, ctv, ho⟩ := lmO_at hok e
    exact ⟨_, od, _, sl, ho⟩
  · have hl := len _ _ _ _ _ hsp
    have lim : s.heap.NoLimit := e0.mod.nolimit.keeps fun b o e => (e0.bs b o e).1
    obtain ⟨od, sl, pm, ctv, ho⟩ := lmO_at e0.hok hf
    refine PySem.W.kla_callFunE hr.depth ho rfl S.co S.gen rfl (codeO_at e0.hok hc) ?_
    rw [hb pm ctv us (by rw [← r.length]; exact hl)]
    refine wpAny_pure (wpAny_newFunctionEnv S.nocell (fun ⟨n, _⟩ hy => S.par n (List.of_mem_zip hy).1) (fun h₁ hns hsb => ⟨lim.fresh _ hsb, ?_⟩) S.kind)
    show codeAny _ _ (.expr body (envF F f s.heap.objs.size)) _ _
    have kp : ∀ b o, s.heap.get? b = some o → h₁.get? b = some o := fun b o e => hsb.extBut b o (Nat.ne_of_lt (Heap.lt_size e)) (Heap.get?_push_of_some _ e)
    obtain ⟨t, ht, hq⟩ := hbody A outer s H vs ws Q (hr.deeper _) hsp
    have J : Inv (ncx CX0 P w K mg base N F f A outer s H E0) [] (startF N vs ws) H { s with heap := h₁, toks := s.toks + (ps.zip us).length } := inv_startN S hr.hd e0 hl r C hns kp
    refine PySem.W.kla_codeExpr (wpAny_mono (ht.run [] _ (startF N vs ws) H Q J hq) (fun u s' hs => ?_) fun e s' hs => hs)
    obtain ⟨v, H', J', rv, q⟩ := hs
    exact ⟨v, H', J'.os, J'.bare, J'.base, J'.hok, rv, q⟩
/-- what a lambda promises, its captured names holding ds -/
def lamPhi (N n : Nat) (ds : List D) (me : ME) : Phi := fun as P _ => me ((as ++ ds.map .da) ++ List.replicate (N - n) .un) P
theorem lok_pure {P : Program} {w : World} {K : PySem.W.Frag} {mg : Str → Option Value} {base : Heap} {N ps fr : List Str} {F : NF} {body : Expr} {f : Addr} {k : Nat} {vol : Addr → Prop} {G : Hp → Prop} {me : ME} {S0 : Hp} {ws : List V} {ds : List D} (gst : GSt vol G) (sc : NScope N ps fr F.scope)
    (hb : ∀ (pm ctv : Value) (us : List Value), us.length = ps.length → bindArgs (PySem.W.kla_fn F.name F.qual F.params body F.scope F.cl pm (.ref F.c) ctv) ⟨us, []⟩ = pure (ps.zip us)) (hw : DpAll K S0 ws ds) (hl : ws.length = fr.length) (hN : ps.length + fr.length ≤ N.length)
    (hbody : ∀ (A : Around) (outer : List Env) (s : Shared) (H S : Hp), Room k (A.deeper (envF F f s.heap.objs.size)) → ∃ t, PP (ncx CX0 P w K mg base N F f A outer s H E0).nox (gc vol G gst S H) body t me) :
    COk P w K mg base (k + 1) f (CF.lm F body) fr (fun ws' vs H Q E => ws' = ws.map some ∧ spGS K vol G S0 ps.length (lamPhi N.length (ps.length + fr.length) ds me) vs H Q E) := by
  refine COk.lm sc hb (fun ws' vs H Q E h => spGS_len h.2) fun A outer s H vs ws' Q hr h => ?_
  obtain ⟨rfl, S, as, P, PX, hS, ln, ha, g, hΦ, k1⟩ := h
  obtain ⟨t, ht⟩ := hbody A outer s H S hr
  refine ⟨t, ht.pe.nox, ?_⟩
  have lw := DpAll.length hw
  exact ht.rd S H (startF N vs (ws.map some)) _ _ _ (rel_startF rfl rfl g (args_app ha (args_da (DpAll.mono hS hw))) (n := ps.length + fr.length) (by rw [List.length_append, List.length_map, ln]; omega) hN) hΦ fun d S' H' v p s' g' q => k1 d S' H' v p s' g' q
section
variable {X : Cx} {pins : List (Addr × Obj)} {σ : L2.St} {H : Hp} {s : Shared}
theorem inv_lm {F : NF} {body : Expr} {o : Obj} {t' : Nat} {pm ctv : Value} (I : Inv X pins σ H s) (ho : o = { cls := .type "function", data := .func (PySem.W.kla_fn F.name F.qual F.params body F.scope F.cl pm (.ref F.c) ctv) }) :
    Inv X pins σ (upd H s.heap.objs.size (LmO s.heap.objs.size F body)) { s with heap := s.heap.push o, toks := t' } := by
  subst ho
  have e : (s.heap.push ({ cls := .type "function", data := .func (PySem.W.kla_fn F.name F.qual F.params body F.scope F.cl pm (.ref F.c) ctv) } : Obj)).get? s.heap.objs.size = some ({ cls := .type "function", data := .func (PySem.W.kla_fn F.name F.qual F.params body F.scope F.cl pm (.ref F.c) ctv) } : Obj) := Heap.get?_push_size _ rfl
  exact I.laid (a := s.heap.objs.size) (fun b u q => Heap.get?_push_of_some _ q) (Nat.le_refl _) ⟨⟨_, _, pm, ctv, e⟩, ⟨_, e⟩, fun h1 h2 ⟨od, sl, p, t, z⟩ st => ⟨od, sl, p, t, st _ z⟩⟩
/-- the lambda's object is made -/
theorem lam_make4 {T : List NTab} {nm : Nat → Nat → Str} {c P : Addr} {params : Arguments} {body : Expr} {scope : Scope} {pos : Pos} {E : Value → Shared → Prop} {Q : Value → Shared → Prop} (I : Inv X pins σ H s) (TB : TabB X.base X.mg c P) (hcode : X.env.code = .ref c)
    (hm : (P, nm) ∈ T) (hn : nm pos.line pos.col = X.env.qual ++ "<lambda>") (hu : ∀ p ∈ T, p.1 = P → p.2 = nm) (hT : TabsN T H) (hdef : defaultsOf params X.env = ([], [])) (hfree : ∀ y ∈ scope.names, y.2 = .free → ∃ c, X.env.cells.lookup y.1 = some c)
    (h : ∀ (f c' : Addr) (H1 : Hp) (s' : Shared), Inv X pins σ H1 s' → ExtN H H1 → (∀ b, H1 b = Option.none → H b = Option.none) → TabsN T H1 → H f = none → H1 f = some (LmO f ⟨"<lambda>", X.env.qual ++ "<lambda>", params, [], scope, cloFrom X.env.cells scope.names [], c'⟩ body) → H1 c' = some (CodeO c' (X.env.qual ++ "<lambda>")) → Q (.ref f) s') :
    wpAny (model X.prog X.w) X.A (eval (.Lambda params body scope pos) X.env) Q E s := by
  obtain ⟨ps, hP, ht, ha⟩ := (show TabN H P nm from hT _ hm)
  refine PySem.W.kla_eval hdef ?_
  have bP : s.heap.BuiltinsAt X.mg P := TB.bm.keeps I.bk
  have hP' : s.heap.get? P = some { cls := .none, data := .fields ps } := I.hok P _ hP
  cases hc : codeAmong pos ps.toList with
  | none =>
    refine PySem.W.kla_makeFunction (mg := X.mg) (c := c) (P := P) (ps := ps) (closure_ok hfree) I.ok.glob (I.mod.glob.keeps I.bk) hcode (TB.code.keeps I.bk) hP' ht hc TB.gP bP fun c' ctv h' tk hx hge hlt hrec htb => ?_
    obtain ⟨c2, oc, vs, t, e2, hoc, hd, hv⟩ := hrec
    cases e2
    have nC : H c' = none := I.hok.fresh hge
    have J := inv_table (t' := tk) (more := #[rawInt pos.line, rawInt pos.col, .ref c']) (h' := h') I hP (fun b o hb e => hx b o hb e) htb hge ⟨oc, vs, t, hoc, hd, hv⟩
    have hE : ExtN H (upd (upd H P (.tbl (ps ++ #[rawInt pos.line, rawInt pos.col, .ref c']))) c' (CodeO c' (X.env.qual ++ "<lambda>"))) := fun b o e n => by
      rw [upd_ne (ne_of_none e nC), upd_ne (fun z => n ps (Option.some.inj (e.symm.trans (by rw [z]; exact hP))))]
      exact e
    have eL : (ps ++ #[rawInt pos.line, rawInt pos.col, .ref c']).toList = ps.toList ++ [rawInt pos.line, rawInt pos.col, .ref c'] := by simp
    have T1 : TabsN T (upd (upd H P (.tbl (ps ++ #[rawInt pos.line, rawInt pos.col, .ref c']))) c' (CodeO c' (X.env.qual ++ "<lambda>"))) := fun p hp => by
      by_cases q : p.1 = P
      · rw [hu p hp q, q]
        refine ⟨_, (upd_ne (ne_of_none hP nC)).trans upd_same, eL ▸ PySem.TriplesOk_snoc _ _ _ _ ht, fun p' cv hcv => ?_⟩
        rcases among_app2 _ ht (eL ▸ hcv) with z | ⟨rfl, z1, z2⟩
        · obtain ⟨c0, e1, e2⟩ := ha p' cv z
          exact ⟨c0, e1, hE _ _ e2 codeO_ne⟩
        · exact ⟨c', rfl, by rw [← z1, ← z2, hn]; exact upd_same⟩
      · obtain ⟨ps', a1, a2, a3⟩ := hT p hp
        exact ⟨ps', ((upd_ne (ne_of_none a1 nC)).trans (upd_ne q)).trans a1, a2, fun p' cv hcv => let ⟨c0, e1, e2⟩ := a3 p' cv hcv; ⟨c0, e1, hE _ _ e2 codeO_ne⟩⟩
    have nF := J.hok.fresh (Nat.le_refl _)
    have J2 := inv_lm (F := ⟨"<lambda>", X.env.qual ++ "<lambda>", params, [], scope, cloFrom X.env.cells scope.names [], c'⟩) (body := body) (t' := tk) (pm := (X.mg "__name__").getD .none) (ctv := ctv) J rfl
    exact h h'.objs.size c' _ _ J2 (fun b o e n => let e1 := hE b o e n; (upd_ne (ne_of_none e1 nF)).trans e1) (fun b e => NdefX.upd_none (NdefX.upd_none (NdefX.upd_none e))) (T1.ext fun b o e => (upd_ne (ne_of_none e nF)).trans e) (I.hok.fresh (Nat.le_trans hge (Nat.le_of_lt hlt))) upd_same ((upd_ne (Nat.ne_of_lt hlt)).trans upd_same)
  | some cv =>
    obtain ⟨c', rfl, hco⟩ := ha pos cv hc
    rw [hn] at hco
    refine PySem.W.kla_makeFunctionHit (mg := X.mg) (c := c) (P := P) (ps := ps) (closure_ok hfree) I.ok.glob (I.mod.glob.keeps I.bk) hcode (TB.code.keeps I.bk) hP' ht hc bP fun ctv h' tk hx hsz => ?_
    have J : Inv X pins σ H { s with heap := h', toks := tk } := I.kept hx
    have nF : H h'.objs.size = none := J.hok.fresh (Nat.le_refl _)
    have J2 := inv_lm (F := ⟨"<lambda>", X.env.qual ++ "<lambda>", params, [], scope, cloFrom X.env.cells scope.names [], c'⟩) (body := body) (t' := tk) (pm := (X.mg "__name__").getD .none) (ctv := ctv) J rfl
    have up : ∀ b o, H b = some o → upd H h'.objs.size (LmO h'.objs.size ⟨"<lambda>", X.env.qual ++ "<lambda>", params, [], scope, cloFrom X.env.cells scope.names [], c'⟩ body) b = some o := fun b o e => (upd_ne (ne_of_none e nF)).trans e
    exact h h'.objs.size c' _ _ J2 (ExtN.of up) (fun b e => NdefX.upd_none e) (hT.ext up) nF upd_same (up _ _ hco)
/-- the reading of a lambda as a value -/
def tLamV (T : List NTab) (mk : Addr → NF) (body : Expr) : TE := fun _ H Q => TabsN T H ∧ ∀ (f c' : Addr) (H1 : Hp), ExtN H H1 → (∀ b, H1 b = Option.none → H b = Option.none) → TabsN T H1 → H f = none → H1 f = some (LmO f (mk c') body) → H1 c' = some (CodeO c' (mk c').qual) → (∀ b o, H1 b = some o → SzO o) → Q (.ref f) H1
theorem pe_lamV {T : List NTab} {nm : Nat → Nat → Str} {c P : Addr} {params : Arguments} {body : Expr} {scope : Scope} {pos : Pos} (TB : TabB X.base X.mg c P) (hcode : X.env.code = .ref c) (hm : (P, nm) ∈ T) (hn : nm pos.line pos.col = X.env.qual ++ "<lambda>") (hu : ∀ p ∈ T, p.1 = P → p.2 = nm)
    (hdef : defaultsOf params X.env = ([], [])) (hfree : ∀ y ∈ scope.names, y.2 = .free → X.env.scope.names.lookup y.1 = some .cell ∨ X.env.scope.names.lookup y.1 = some .free) :
    PE X (.Lambda params body scope pos) (tLamV T (fun c' => ⟨"<lambda>", X.env.qual ++ "<lambda>", params, [], scope, cloFrom X.env.cells scope.names [], c'⟩) body) := by
  refine ⟨fun pins s σ H Q I h => ?_⟩
  obtain ⟨hT, h⟩ := h
  refine lam_make4 I TB hcode hm hn hu hT hdef (fun y hy e => (hfree y hy e).elim (fun z => I.ok.has _ (.inl z)) fun z => I.ok.has _ (.inr z)) fun f c' H1 s' J eN nn T1 f0 f1 c1 => ?_
  exact ⟨.ref f, H1, J, rfl, h f c' H1 eN nn T1 f0 f1 c1 fun b o e => sz_of (J.hok b o e)⟩
end
end Pu

set_option Elab.async false
set_option linter.all false
set_option maxRecDepth 100000
set_option maxHeartbeats 4000000
/-! Pure readings: g(a, b, lambda ..: ..). -/
namespace Pu
open PySem PySem.Spec L2 NdefX LamX
open PyProof.Rows hiding St
/-- g(.., lambda): the captured names hold what doesn't change -/
def mCallL (js : List Nat) (Φc : List D → Phi) (Ψ : Addr → Phi → Phi) (m : MA) : ME := fun ρ P => m ρ fun as => ∃ ds, js.map (gt ρ) = ds.map .da ∧ (∀ d ∈ ds, isDic d = false) ∧ ∀ f, Ψ f (Φc ds) (as ++ [.rw (.ref f)]) P fun _ => False
section
variable {X : Cx} {C : GC X.K} {T : List NTab} {e1 e2 body : Expr} {t1 t2 : TE} {m1 m2 : ME} {g : Str} {fg : Addr} {fd fdm : FuncData} {ps qs fr : List Str} {js : List Nat} {Φc : List D → Phi} {Ψ : Addr → Phi → Phi} {k kc nc : Nat} {p pos lpos : Pos} {params : Arguments} {scope : Scope} {q : Str}
abbrev lmF (X : Cx) (params : Arguments) (scope : Scope) (c' : Addr) : NF := ⟨"<lambda>", X.env.qual ++ "<lambda>", params, [], scope, cloFrom X.env.cells scope.names [], c'⟩
theorem p_callL2 (hvol : C.vol = vT T) (hG : C.G = gT T) (M : Mk X.base X.mg T fdm q) (hcode : X.env.code = fdm.code) (hqn : X.env.qual ++ "<lambda>" = q)
    (O : FnC X.prog X.w X.K X.mg X.base k fg fd ps (spC X.prog X.w X.K X.mg X.base C.vol C.G kc nc 3 Ψ)) (hr : Room k X.A) (hm : X.mg g = some (.ref fg)) (hk : PySem.W.keepIn X.K (.ref fg) = true) (hb : Binds X.K fd ps [])
    (h1 : PP X C e1 t1 m1) (h2 : PP X C e2 t2 m2) (hdef : defaultsOf params X.env = ([], [])) (hfree : ∀ y ∈ scope.names, y.2 = .free → X.env.scope.names.lookup y.1 = some .cell ∨ X.env.scope.names.lookup y.1 = some .free)
    (cp : X.Ok → Caps X (cloFrom X.env.cells scope.names []) fr js) (hq : qs.length = nc)
    (hnok : ∀ (f c' : Addr) (S : Hp) (ws : List V) (ds : List D), DpAll X.K S ws ds → ws.length = fr.length → COk X.prog X.w X.K X.mg X.base kc f (CF.lm (lmF X params scope c') body) fr (fun ws' vs H Q E => ws' = ws.map some ∧ spGS X.K C.vol C.G S nc (Φc ds) vs H Q E))
    (hfn : ∀ y, X.fn y = true) (hg : Gl X g := by rfl) (hdb : (g == ("__debug__" : Str)) = false := by decide)
    (he1 : starEach [e1, e2, .Lambda params body scope lpos] X.env = (false, eval e1 X.env) :: starEach [e2, .Lambda params body scope lpos] X.env := by rfl) (he2 : starEach [e2, .Lambda params body scope lpos] X.env = (false, eval e2 X.env) :: starEach [.Lambda params body scope lpos] X.env := by rfl)
    (hpl : (backTo pos (starEach [e2, .Lambda params body scope lpos] X.env)).any (·.1) = false := by rfl) :
    PP X C (.Call (.Name g p) [e1, e2, .Lambda params body scope lpos] [] pos) (tCallC X (spC X.prog X.w X.K X.mg X.base C.vol C.G kc nc 3 Ψ) (tCons t1 (tCons t2 (tCons (tLamV T (lmF X params scope) body) tNil)))) (mCallL js Φc Ψ (mAda m1 (mAda m2 mAnil))) := by
  obtain ⟨c, Pt, hco, TB, hT0, hu⟩ := M.ex
  refine ⟨pe_callC O hr hg hm hk hb (pa_cons h1.pe (pa_cons h2.pe (pa_cons (pe_lamV TB (hcode.trans hco) hT0 hqn.symm hu hdef hfree) pa_nil) he2) he1) hdb he1 hpl, fun S H σ ρ P Q rl hmm kk => ?_⟩
  refine h1.rd S H σ ρ _ _ rl hmm fun d1 S1 H1 v1 p1 s1 g1 r1 => ?_
  have rl1 := rl.step s1 g1
  refine h2.rd S1 H1 σ ρ _ _ rl1 p1 fun d2 S2 H2 v2 p2 s2 g2 r2 => ?_
  have rl2 := rl1.step s2 g2
  obtain ⟨ds, hjs, hnd, p2⟩ := p2
  have hT : TabsN T H2 := by
    have := g2.g
    rw [hG] at this
    exact this
  refine ⟨hT, fun f c' H3 eN nn T1 f0 f1 c1 sz => ?_⟩
  have nv : ∀ a, C.vol a → ∃ tb, H3 a = some (.tbl tb) := fun a v => by
    rw [hvol] at v
    exact gT_tbl (T := T) T1 v
  have hf : ¬ C.vol f := fun v => g2.vh f v f0
  have hc : ¬ C.vol c' := fun v => by
    obtain ⟨tb, z⟩ := nv c' v
    rw [c1] at z
    cases z
  have g3 : Good C.vol C.G S2 H3 := ⟨fun a u e => eN a u (g2.sub a u e) fun tb z => by subst z; exact g2.tp a _ e, by rw [hG]; exact T1, g2.vs, fun a v e => g2.vh a v (nn a e), sz, g2.tp⟩
  have st3 : Stp C.vol S2 H2 S2 H3 := ⟨Same.refl S2, fun a o n e nt => eN a o e nt, fun a o e => .inl e, nn⟩
  intro pins s I
  have Cp := cp I.ok
  have cl := cells_of I Cp
  obtain ⟨ws, hw, hd⟩ := caps_at rl2 hjs hnd
  rw [hw] at cl
  have hlw : ws.length = fr.length := by
    have := cl.len
    rw [List.length_map] at this
    exact this
  refine ⟨S2, [.da d1, .da d2, .rw (.ref f)], P, f, Φc ds, CF.lm (lmF X params scope c') body, qs, fr, ws.map some, rfl, .cons (r1.mono s2.ss) (.cons r2 (.cons rfl .nil)), g3, ?_, p2 f, fun d S' H' v pd s' g' z => kk d S' H' v pd (s1.trans g1 (s2.trans g2 (st3.trans g3 s'))) g' z⟩
  refine ⟨hq, hnok f c' S2 ws ds hd hlw, f1, c1, hf, hc, cl, fun y d e => ?_⟩
  have e' := Cp.sub y d e
  intro hfs
  have hge := I.ok.cab y d (hfn y) e'
  rcases I.ok.stk with z | ⟨z, z2⟩
  · rw [z] at hfs
    obtain ⟨_, o, ho, _⟩ := I.ok.funs.mem hfs
    exact absurd (Heap.lt_size ho) (Nat.not_lt.mpr hge)
  · rw [z] at hfs
    unfold frs at hfs
    rw [List.filterMap_cons, z2] at hfs
    rcases List.mem_cons.mp hfs with y' | y'
    · exact I.cne y d e' y'
    · obtain ⟨_, o, ho, _⟩ := I.ok.funs.mem y'
      exact absurd (Heap.lt_size ho) (Nat.not_lt.mpr hge)
end
end Pu

set_option Elab.async false
set_option linter.all false
set_option maxRecDepth 100000
set_option maxHeartbeats 4000000
/-! zip over any two iterators whose tuples are kept by the one who asks. -/
namespace Pu
open PySem PySem.Spec L2
open PyProof.Rows hiding St
section
variable {prog : Program} {w : World} {A : Around} {E : Value → Shared → Prop} {s : Shared} {z TI TO i1 i2 : Addr} {fp1 fp2 : List Addr} {n1 n2 i : Nat} {P1 P2 : Nat → Value → Prop} {St1 St2 : Nat → Heap → Prop}
theorem zk_next {T : Addr} {f : Bool} {oT : Obj} {Q : Value → Shared → Prop} (Z : ZipSep2 z TI TO i1 i2 fp1 fp2) (D1 : Draws prog w A i1 fp1 n1 P1 St1) (D2 : Draws prog w A i2 fp2 n2 P2 St2)
    (hz : IsZipHeld s.heap z TI TO T f) (hT : s.heap.get? T = some oT) (hI : IsTupOf2 s.heap TI (.ref i1) (.ref i2)) (q1 : St1 i s.heap) (q2 : St2 i s.heap) (l1 : i < n1) (l2 : i < n2)
    (k : ∀ x y h' tk, P1 i x → P2 i y → IsZipHeld h' z TI TO T true → St1 (i + 1) h' → St2 (i + 1) h' → IsTupOf2 h' s.heap.objs.size x y → h'.objs.size = s.heap.objs.size + 1 →
      (∀ c o, c ≠ z → c ≠ i1 → c ≠ i2 → s.heap.get? c = some o → h'.get? c = some o) → Q (.ref s.heap.objs.size) { s with heap := h', toks := tk }) :
    wpAny (model prog w) A (Builtin.«zip.__next__» ⟨[.ref z], []⟩) (fun fin s' => ∃ v, fin = .done (.ret v) ∧ Q v s') E s := by
  obtain ⟨h0, gs, dr, t0, os⟩ := s
  show wpAny _ _ (field (.ref z) 2 >>= _) _ _ _
  refine wpAny_bind (wpAny_field hz rfl (x := .bool false) rfl ?_)
  show wpAny _ _ (field (.ref z) 3 >>= _) _ _ _
  refine wpAny_bind (wpAny_field hz rfl (x := .ref TI) rfl (wpAny_bind (wpAny_seqItems hI rfl ?_)))
  show wpAny _ _ (Builtin.SmallTypes.ownedTupleIsFree (.ref z) >>= _) _ _ _
  refine wpAny_bind (wpAny_tupleHeld_zip hz hT fun g1 z1 b1 => ?_)
  replace b1 : Heap.SameBut z h0 g1 := b1
  simp only [Bool.false_eq_true, if_false]
  refine wpAny_bind ?_
  rw [← Array.forIn_toList]
  simp only [List.forIn_cons, List.forIn_nil]
  refine wpAny_bind (wpAny_bind (wpAny_holding ?_))
  show wpAny _ _ (Builtin.SmallTypes.nextOf (.ref i1) >>= _) _ _ ⟨g1, gs, dr, t0, os⟩
  refine wpAny_bind (D1.item i _ _ _ l1 (D1.over q1 b1 Z.zf1) fun x g2 t2 px st1 b2 => wpAny_pure (wpAny_pure ?_))
  replace b2 : Heap.SameBut i1 g1 g2 := b2
  refine wpAny_bind (wpAny_bind (wpAny_holding ?_))
  show wpAny _ _ (Builtin.SmallTypes.nextOf (.ref i2) >>= _) _ _ ⟨g2, gs, dr, t2, os⟩
  refine wpAny_bind (D2.item i _ _ _ l2 (D2.over (D2.over q2 b1 Z.zf2) b2 Z.sep1_2) fun y g3 t3 py st2 b3 => wpAny_pure (wpAny_pure (wpAny_pure ?_)))
  replace b3 : Heap.SameBut i2 g2 g3 := b3
  show wpAny _ _ (newTuple [x, y] >>= _) _ _ ⟨g3, gs, dr, t3, os⟩
  refine wpAny_bind (wpAny_newTuple (wpAny_pure ⟨_, rfl, ?_⟩))
  have hs : g3.objs.size = h0.objs.size := by rw [b3.1, b2.1, b1.1]
  have kp : ∀ c o, c ≠ z → c ≠ i1 → c ≠ i2 → h0.get? c = some o → g3.get? c = some o := fun c o c1 c2 c3 e => b3.extBut _ _ c3 (b2.extBut _ _ c2 (b1.extBut _ _ c1 e))
  have z3 : IsZipHeld g3 z TI TO T true := b3.extBut _ _ Z.zi2 (b2.extBut _ _ Z.zi1 z1)
  have s1 : St1 (i + 1) g3 := D1.over st1 b3 Z.sep2_1
  have up : ∀ c o, g3.get? c = some o → (g3.push { cls := .type "tuple", data := .seq #[x, y] }).get? c = some o := fun c o e => Heap.get?_push_of_some _ e
  have tt : IsTupOf2 (g3.push { cls := .type "tuple", data := .seq #[x, y] }) g3.objs.size x y := Heap.get?_push_size _ rfl
  have ts : (g3.push { cls := .type "tuple", data := .seq #[x, y] }).objs.size = g3.objs.size + 1 := Heap.size_push ..
  show Q (.ref g3.objs.size) _
  rw [hs] at tt ts ⊢
  exact k x y _ t3 px py (up _ _ z3) (D1.frame _ _ _ s1 fun c _ o e => up c o e) (D2.frame _ _ _ st2 fun c _ o e => up c o e) tt ts fun c o c1 c2 c3 e => up _ _ (kp c o c1 c2 c3 e)
theorem zk_end {T : Addr} {f : Bool} {oT : Obj} {Q : PySem.Fin → Shared → Prop} (Z : ZipSep2 z TI TO i1 i2 fp1 fp2) (D1 : Draws prog w A i1 fp1 n1 P1 St1) (D2 : Draws prog w A i2 fp2 n2 P2 St2)
    (hz : IsZipHeld s.heap z TI TO T f) (hT : s.heap.get? T = some oT) (hI : IsTupOf2 s.heap TI (.ref i1) (.ref i2)) (q1 : St1 i s.heap) (q2 : St2 i s.heap) (l1 : i ≤ n1) (l2 : i ≤ n2) (le : i = n1 ∨ i = n2)
    (k : ∀ h' tk e, (∀ c o, c ≠ z → c ≠ i1 → c ≠ i2 → s.heap.get? c = some o → h'.get? c = some o) → (∃ o, h'.get? e = some o ∧ o.cls = .type "StopIteration") → E (.ref e) { s with heap := h', toks := tk }) :
    wpAny (model prog w) A (Builtin.«zip.__next__» ⟨[.ref z], []⟩) Q E s := by
  obtain ⟨h0, gs, dr, t0, os⟩ := s
  show wpAny _ _ (field (.ref z) 2 >>= _) _ _ _
  refine wpAny_bind (wpAny_field hz rfl (x := .bool false) rfl ?_)
  show wpAny _ _ (field (.ref z) 3 >>= _) _ _ _
  refine wpAny_bind (wpAny_field hz rfl (x := .ref TI) rfl (wpAny_bind (wpAny_seqItems hI rfl ?_)))
  show wpAny _ _ (Builtin.SmallTypes.ownedTupleIsFree (.ref z) >>= _) _ _ _
  refine wpAny_bind (wpAny_tupleHeld_zip hz hT fun g1 z1 b1 => ?_)
  replace b1 : Heap.SameBut z h0 g1 := b1
  simp only [Bool.false_eq_true, if_false]
  refine wpAny_bind ?_
  rw [← Array.forIn_toList]
  simp only [List.forIn_cons, List.forIn_nil]
  refine wpAny_bind (wpAny_bind (wpAny_holding ?_))
  show wpAny _ _ (Builtin.SmallTypes.nextOf (.ref i1) >>= _) _ _ ⟨g1, gs, dr, t0, os⟩
  by_cases c : i < n1
  · refine wpAny_bind (D1.item i _ _ _ c (D1.over q1 b1 Z.zf1) fun x g2 t2 px st1 b2 => wpAny_pure (wpAny_pure ?_))
    replace b2 : Heap.SameBut i1 g1 g2 := b2
    refine wpAny_bind (wpAny_bind (wpAny_holding ?_))
    show wpAny _ _ (Builtin.SmallTypes.nextOf (.ref i2) >>= _) _ _ ⟨g2, gs, dr, t2, os⟩
    have e2 : i = n2 := by omega
    refine wpAny_bind (D2.done ⟨g2, gs, dr, t2, os⟩ _ _ (by rw [← e2]; exact D2.over (D2.over q2 b1 Z.zf2) b2 Z.sep1_2) fun g3 e b3 he => ?_)
    exact k g3 t2 e (fun c o c1 c2 c3 x => b3 _ _ c3 (b2.extBut _ _ c2 (b1.extBut _ _ c1 x))) he
  · have e1 : i = n1 := by omega
    refine wpAny_bind (D1.done ⟨g1, gs, dr, t0, os⟩ _ _ (by rw [← e1]; exact D1.over q1 b1 Z.zf1) fun g2 e b2 he => ?_)
    exact k g2 t0 e (fun c o c1 c2 c3 x => b2 _ _ c2 (b1.extBut _ _ c1 x)) he
/-- the state of such a zip ahead of its turn i -/
def ZK (z TI TO i1 i2 : Addr) (St1 St2 : Nat → Heap → Prop) (ok : Addr → Prop) (i : Nat) (h : Heap) : Prop :=
  IsTupOf2 h TI (.ref i1) (.ref i2) ∧ St1 i h ∧ St2 i h ∧ ((IsZip h z TI TO .none ∧ ∃ x y, IsTupOf2 h TO x y) ∨ ∃ T f oT, IsZipHeld h z TI TO T f ∧ h.get? T = some oT ∧ T ≠ z ∧ T ≠ i1 ∧ T ≠ i2 ∧ ok T)
theorem zk_item {ok : Addr → Prop} {Q : Option Value → Shared → Prop} (Z : ZipSep2 z TI TO i1 i2 fp1 fp2) (D1 : Draws prog w A.in1 i1 fp1 n1 P1 St1) (D2 : Draws prog w A.in1 i2 fp2 n2 P2 St2)
    (st : ZK z TI TO i1 i2 St1 St2 ok i s.heap) (l1 : i < n1) (l2 : i < n2) (hok : ok s.heap.objs.size)
    (k : ∀ x y h' tk, P1 i x → P2 i y → ZK z TI TO i1 i2 St1 St2 ok (i + 1) h' → IsTupOf2 h' s.heap.objs.size x y → h'.objs.size = s.heap.objs.size + 1 →
      (∀ c o, c ≠ z → c ≠ TO → c ≠ i1 → c ≠ i2 → s.heap.get? c = some o → h'.get? c = some o) → Q (some (.ref s.heap.objs.size)) { s with heap := h', toks := tk }) : wpAny (model prog w) A (pyNext (.ref z)) Q E s := by
  obtain ⟨hI, q1, q2, hz⟩ := st
  have nI1 : s.heap.objs.size ≠ i1 := by obtain ⟨_, e⟩ := D1.live _ _ q1; exact Nat.ne_of_gt (Heap.lt_size e)
  have nI2 : s.heap.objs.size ≠ i2 := by obtain ⟨_, e⟩ := D2.live _ _ q2; exact Nat.ne_of_gt (Heap.lt_size e)
  rcases hz with ⟨hz, x0, y0, hO⟩ | ⟨T, f, oT, hz, hT, r1, r2, r3, r4⟩
  · refine wpAny_pyNext_zipD2_item Z D1 D2 hz hI hO q1 q2 l1 l2 fun x y h' tk px py z' O' s1 s2 tt ts kp => ?_
    exact k x y h' tk px py ⟨kp _ _ Z.TIz Z.TITO Z.TIi1 Z.TIi2 hI, s1, s2, .inr ⟨_, false, _, z', tt, Nat.ne_of_gt (Heap.lt_size hz), nI1, nI2, hok⟩⟩ tt ts kp
  · have ty : s.TypeIs (.ref z) "zip" := ⟨_, hz, rfl⟩
    unfold pyNext
    refine wpAny_bind (wpAny_attempt (wpAny_callSpecial?_slot (name := Str.ofString "__next__") ty F.slot_zip_next (wpAny_call_entry F.slot_zip_next ty F.entry_zip_next
      (zk_next Z D1 D2 hz hT hI q1 q2 l1 l2 fun x y h' tk px py z' s1 s2 tt ts kp => ?_) (F.args_zip_next_1 _))))
    exact wpAny_pure (k x y h' tk px py ⟨kp _ _ Z.TIz Z.TIi1 Z.TIi2 hI, s1, s2, .inr ⟨T, true, oT, z', kp _ _ r1 r2 r3 hT, r1, r2, r3, r4⟩⟩ tt ts fun c o c1 _ c3 c4 e => kp c o c1 c3 c4 e)
theorem zk_done {ok : Addr → Prop} {Q : Option Value → Shared → Prop} (Z : ZipSep2 z TI TO i1 i2 fp1 fp2) (D1 : Draws prog w A.in1 i1 fp1 n1 P1 St1) (D2 : Draws prog w A.in1 i2 fp2 n2 P2 St2)
    (st : ZK z TI TO i1 i2 St1 St2 ok i s.heap) (l1 : i ≤ n1) (l2 : i ≤ n2) (le : i = n1 ∨ i = n2)
    (k : ∀ h' tk, (∀ c o, c ≠ z → c ≠ TO → c ≠ i1 → c ≠ i2 → s.heap.get? c = some o → h'.get? c = some o) → Q none { s with heap := h', toks := tk }) : wpAny (model prog w) A (pyNext (.ref z)) Q E s := by
  obtain ⟨hI, q1, q2, hz⟩ := st
  rcases hz with ⟨hz, x0, y0, hO⟩ | ⟨T, f, oT, hz, hT, _⟩
  · exact wpAny_pyNext_zipD2_end Z D1 D2 hz hI hO q1 q2 l1 l2 le k
  · have ty : s.TypeIs (.ref z) "zip" := ⟨_, hz, rfl⟩
    unfold pyNext
    refine wpAny_bind (wpAny_attempt (wpAny_callSpecial?_slot (name := Str.ofString "__next__") ty F.slot_zip_next (wpAny_call_entry F.slot_zip_next ty F.entry_zip_next
      (zk_end Z D1 D2 hz hT hI q1 q2 l1 l2 le fun h' tk e kp he => ?_) (F.args_zip_next_1 _))))
    obtain ⟨o, ho, hc⟩ := he
    exact wpAny_bind (wpAny_isInstance (T := "StopIteration") (b := true) ⟨o, ho, hc⟩ isSubtype_stop (wpAny_pure (k _ _ fun c o c1 _ c3 c4 e => kp c o c1 c3 c4 e)))
theorem ZK.frame {ok : Addr → Prop} {h h' : Heap} (D1 : Draws prog w A i1 fp1 n1 P1 St1) (D2 : Draws prog w A i2 fp2 n2 P2 St2) (st : ZK z TI TO i1 i2 St1 St2 ok i h) (kp : ∀ c o, (c = z ∨ c = TI ∨ c = TO ∨ c ∈ fp1 ∨ c ∈ fp2 ∨ ok c) → h.get? c = some o → h'.get? c = some o) : ZK z TI TO i1 i2 St1 St2 ok i h' := by
  obtain ⟨hI, q1, q2, hz⟩ := st
  refine ⟨kp _ _ (.inr (.inl rfl)) hI, D1.frame _ _ _ q1 fun c hc o e => kp c o (.inr (.inr (.inr (.inl hc)))) e, D2.frame _ _ _ q2 fun c hc o e => kp c o (.inr (.inr (.inr (.inr (.inl hc))))) e, ?_⟩
  rcases hz with ⟨hz, x0, y0, hO⟩ | ⟨T, f, oT, hz, hT, r1, r2, r3, r4⟩
  · exact .inl ⟨kp _ _ (.inl rfl) hz, x0, y0, kp _ _ (.inr (.inr (.inl rfl))) hO⟩
  · exact .inr ⟨T, f, oT, kp _ _ (.inl rfl) hz, kp _ _ (.inr (.inr (.inr (.inr (.inr r4))))) hT, r1, r2, r3, r4⟩
end
end Pu

set_option Elab.async false
set_option linter.all false
set_option maxRecDepth 100000
set_option maxHeartbeats 4000000
/-! list(a zip). -/
namespace Pu
open PySem PySem.Spec L2
open PyProof.Rows hiding St
theorem zip_len0 : typeLookup (.type "zip") "__len__" = pure none := by rw [typeLookup_type, builtinLookup_eq_fast]; kernel_rfl
theorem zip_hint0 : typeLookup (.type "zip") "__length_hint__" = pure none := by rw [typeLookup_type, builtinLookup_eq_fast]; kernel_rfl
section
variable {prog : Program} {w : World} {A : Around} {E : Value → Shared → Prop} {s : Shared} {R : Result → Shared → Prop} {z TI TO i1 i2 L : Addr} {fp1 fp2 : List Addr} {n1 n2 i : Nat} {P1 P2 : Nat → Value → Prop} {St1 St2 : Nat → Heap → Prop}
/-- what has been put into the list: pairs, in objects that were not there at n0 -/
def CT (P1 P2 : Nat → Value → Prop) (L z TO i1 i2 : Addr) (n0 i : Nat) (acc : Array Value) (h : Heap) : Prop :=
  ∃ ts : List Addr, acc.toList = ts.map Value.ref ∧ ts.length = i ∧ ts.Nodup ∧ (∀ t ∈ ts, n0 ≤ t ∧ t ≠ L ∧ t ≠ z ∧ t ≠ TO ∧ t ≠ i1 ∧ t ≠ i2) ∧ ∀ j t, ts[j]? = some t → ∃ x y, IsTupOf2 h t x y ∧ P1 j x ∧ P2 j y
theorem CT.size {n0 : Nat} {acc : Array Value} {h : Heap} (c : CT P1 P2 L z TO i1 i2 n0 i acc h) : acc.size = i := by
  obtain ⟨ts, e, l, _⟩ := c
  rw [← Array.length_toList, e, List.length_map, l]
theorem CT.nil {n0 : Nat} {h : Heap} : CT P1 P2 L z TO i1 i2 n0 0 #[] h := ⟨[], rfl, rfl, List.nodup_nil, fun t ht => (nomatch ht), fun j t e => by simp at e⟩
theorem CT.keep {n0 : Nat} {acc : Array Value} {h h' : Heap} (c : CT P1 P2 L z TO i1 i2 n0 i acc h) (k : ∀ b o, b ≠ L → b ≠ z → b ≠ TO → b ≠ i1 → b ≠ i2 → h.get? b = some o → h'.get? b = some o) : CT P1 P2 L z TO i1 i2 n0 i acc h' := by
  obtain ⟨ts, e, l, nd, hb, hp⟩ := c
  refine ⟨ts, e, l, nd, hb, fun j t ht => ?_⟩
  obtain ⟨x, y, q, p1, p2⟩ := hp j t ht
  obtain ⟨_, r1, r2, r3, r4, r5⟩ := hb t (List.mem_of_getElem? ht)
  exact ⟨x, y, k _ _ r1 r2 r3 r4 r5 q, p1, p2⟩
theorem CT.next {n0 : Nat} {acc : Array Value} {h h' : Heap} {x y : Value} (c : CT P1 P2 L z TO i1 i2 n0 i acc h) (k : ∀ b o, b ≠ L → b ≠ z → b ≠ TO → b ≠ i1 → b ≠ i2 → h.get? b = some o → h'.get? b = some o) (t : IsTupOf2 h' h.objs.size x y) (p : P1 i x) (q : P2 i y)
    (r : n0 ≤ h.objs.size ∧ h.objs.size ≠ L ∧ h.objs.size ≠ z ∧ h.objs.size ≠ TO ∧ h.objs.size ≠ i1 ∧ h.objs.size ≠ i2) : CT P1 P2 L z TO i1 i2 n0 (i + 1) (acc.push (.ref h.objs.size)) h' := by
  have old : ∀ {ts : List Addr}, (∀ j t, ts[j]? = some t → ∃ x y, IsTupOf2 h t x y ∧ P1 j x ∧ P2 j y) → h.objs.size ∉ ts := fun {ts} hp hm => by
    obtain ⟨j, hj⟩ := List.mem_iff_getElem?.mp hm
    obtain ⟨_, _, e, _⟩ := hp j _ hj
    exact Nat.lt_irrefl _ (Heap.lt_size e)
  obtain ⟨ts, e, l, nd, hb, hp⟩ := c
  have no := old hp
  refine ⟨ts ++ [h.objs.size], by rw [Array.toList_push, e, List.map_append]; rfl, by rw [List.length_append, l]; rfl, ?_, fun t ht => ?_, fun j u hu => ?_⟩
  · exact List.nodup_append.mpr ⟨nd, List.nodup_cons.mpr ⟨(fun h => nomatch h), List.nodup_nil⟩, fun a ha b hb e => no (by rw [← List.mem_singleton.mp hb, ← e]; exact ha)⟩
  · rcases List.mem_append.mp ht with h1 | h1
    · exact hb t h1
    · rw [List.mem_singleton.mp h1]; exact r
  · by_cases hj : j < ts.length
    · rw [List.getElem?_append_left hj] at hu
      obtain ⟨x', y', q', p1, p2⟩ := hp j u hu
      obtain ⟨_, r1, r2, r3, r4, r5⟩ := hb u (List.mem_of_getElem? hu)
      exact ⟨x', y', k _ _ r1 r2 r3 r4 r5 q', p1, p2⟩
    · rw [List.getElem?_append_right (by omega)] at hu
      have hj0 : j - ts.length = 0 := by
        have := (List.getElem?_eq_some_iff.mp hu).1
        simp at this
        omega
      rw [hj0] at hu
      cases hu
      have : j = i := by omega
      subst this
      exact ⟨x, y, t, p, q⟩
theorem zk_loop (Z : ZipSep2 z TI TO i1 i2 fp1 fp2) (D1 : Draws prog w A.in1.in1 i1 fp1 n1 P1 St1) (D2 : Draws prog w A.in1.in1 i2 fp2 n2 P2 St2) (nz : L ≠ z) (nTI : L ≠ TI) (nTO : L ≠ TO) (nf1 : L ∉ fp1) (nf2 : L ∉ fp2) (hn : min n1 n2 ≤ sizeLine) (res : Value) (n0 : Nat) :
    ∀ (k i : Nat) (s : Shared) (acc : Array Value) (c : Nat), min n1 n2 - i = k → i ≤ min n1 n2 → ZK z TI TO i1 i2 St1 St2 (· ≠ L) i s.heap → s.heap.get? L = some { cls := .type "list", dict := none, data := .seq acc c, slots := #[] } → CT P1 P2 L z TO i1 i2 n0 i acc s.heap → n0 ≤ s.heap.objs.size → TO < s.heap.objs.size →
    (∀ h' tk acc' c', (∀ b o, b ≠ L → b ≠ z → b ≠ TO → b ≠ i1 → b ≠ i2 → s.heap.get? b = some o → h'.get? b = some o) → h'.get? L = some { cls := .type "list", dict := none, data := .seq acc' c', slots := #[] } → CT P1 P2 L z TO i1 i2 n0 (min n1 n2) acc' h' → R (.ok (.ret res)) { s with heap := h', toks := tk }) →
    codeAny (model prog w) A (.builtin "list.extend.loop" ⟨[.ref L, .ref z, res], []⟩) R s := by
  intro k
  induction k with
  | zero =>
    intro i s acc c hk hi st hL ct _ _ hR
    have hin : i = min n1 n2 := by omega
    refine codeAny_builtin F.entry_extend_loop ?_
    rw [Around.under_plainId F.plain_extend_loop _]
    show wpAny _ A.in1 (pyNext (.ref z) >>= _) _ _ s
    refine wpAny_bind (zk_done Z D1 D2 st (by omega) (by omega) (by omega) fun h' tk kp => wpAny_pure ?_)
    refine hR h' tk acc c (fun b o _ c1 c2 c3 c4 e => kp b o c1 c2 c3 c4 e) (kp _ _ nz nTO (fun e => nf1 (e ▸ Z.mem1)) (fun e => nf2 (e ▸ Z.mem2)) hL) ?_
    rw [← hin]
    exact ct.keep fun b o _ c1 c2 c3 c4 e => kp b o c1 c2 c3 c4 e
  | succ k ih =>
    intro i s acc c hk hi st hL ct h0 hTO hR
    refine codeAny_builtin F.entry_extend_loop ?_
    rw [Around.under_plainId F.plain_extend_loop _]
    show wpAny _ A.in1 (pyNext (.ref z) >>= _) _ _ s
    have lt : ∀ {b o}, s.heap.get? b = some o → s.heap.objs.size ≠ b := fun e => Nat.ne_of_gt (Heap.lt_size e)
    have t1 : s.heap.objs.size ≠ i1 := by obtain ⟨_, e⟩ := D1.live _ _ st.2.1; exact lt e
    have t2 : s.heap.objs.size ≠ i2 := by obtain ⟨_, e⟩ := D2.live _ _ st.2.2.1; exact lt e
    have tz : s.heap.objs.size ≠ z := by
      rcases st.2.2.2 with ⟨e, _⟩ | ⟨_, _, _, e, _⟩
      · exact lt e
      · exact lt e
    refine wpAny_bind (zk_item Z D1 D2 st (by omega) (by omega) (lt hL) fun x y h' tk px py st' tt ts kp => ?_)
    have hL' := kp _ _ nz nTO (fun e => nf1 (e ▸ Z.mem1)) (fun e => nf2 (e ▸ Z.mem2)) hL
    have tO : s.heap.objs.size ≠ TO := Nat.ne_of_gt hTO
    have ct' : CT P1 P2 L z TO i1 i2 n0 (i + 1) (acc.push (.ref s.heap.objs.size)) h' := ct.next (fun b o _ c1 c2 c3 c4 e => kp b o c1 c2 c3 c4 e) tt px py ⟨h0, lt hL, tz, tO, t1, t2⟩
    show wpAny _ A.in1 (updateSeq L (·.push (.ref s.heap.objs.size)) >>= _) _ _ { s with heap := h', toks := tk }
    have hL2 := Heap.get?_update_self (Obj.mapSeq (·.push (Value.ref s.heap.objs.size))) hL' rfl
    have oth : ∀ b o, b ≠ L → h'.get? b = some o → (h'.update L (Obj.mapSeq (·.push (Value.ref s.heap.objs.size)))).get? b = some o := fun b o hb e => (Heap.get?_update_other _ _ (Ne.symm hb)).trans e
    have sz2 : (h'.update L (Obj.mapSeq (·.push (Value.ref s.heap.objs.size)))).objs.size = h'.objs.size := (Heap.SameBut.update (a := L) (h := h') ..).1
    refine wpAny_bind (wpAny_updateSeq (s := { s with heap := h', toks := tk }) hL' rfl (wpAny_pure ⟨plainId_quiet F.plain_extend_loop _, ih (i + 1) _ (acc.push (.ref s.heap.objs.size)) _ (by omega) (by omega) (st'.frame D1 D2 fun b o hb e => oth b o ?_ e) hL2 (ct'.keep fun b o c0 _ _ _ _ e => oth b o c0 e) ?_ ?_ fun h2 tk2 acc2 c2 kp2 hL3 ct2 => ?_⟩) (by rw [ct.size]; omega) (by show (acc.push (.ref s.heap.objs.size)).size ≤ sizeLine + 1; rw [Array.size_push, ct.size]; omega))
    · rcases hb with rfl | rfl | rfl | hb | hb | hb
      · exact Ne.symm nz
      · exact Ne.symm nTI
      · exact Ne.symm nTO
      · exact fun q => nf1 (q ▸ hb)
      · exact fun q => nf2 (q ▸ hb)
      · exact hb
    · show n0 ≤ _
      rw [sz2, ts]
      omega
    · show TO < _
      exact Nat.lt_of_lt_of_le hTO (by rw [sz2, ts]; exact Nat.le_succ _)
    · exact hR h2 tk2 acc2 c2 (fun b o c0 c1 c2 c3 c4 e => kp2 b o c0 c1 c2 c3 c4 (oth b o c0 (kp b o c1 c2 c3 c4 e))) hL3 ct2
theorem zk_extend (Z : ZipSep2 z TI TO i1 i2 fp1 fp2) (D1 : Draws prog w A.in1.in1 i1 fp1 n1 P1 St1) (D2 : Draws prog w A.in1.in1 i2 fp2 n2 P2 St2) (nz : L ≠ z) (nTI : L ≠ TI) (nTO : L ≠ TO) (nf1 : L ∉ fp1) (nf2 : L ∉ fp2) (hn : min n1 n2 ≤ sizeLine) (res : Value) (c₀ : Nat)
    (hz : IsZip s.heap z TI TO .none) (st : ZK z TI TO i1 i2 St1 St2 (· ≠ L) 0 s.heap) (hL : s.heap.get? L = some { cls := .type "list", data := .seq #[] c₀ }) (hTO : TO < s.heap.objs.size)
    (hR : ∀ h' tk acc' c', (∀ b o, b ≠ L → b ≠ z → b ≠ TO → b ≠ i1 → b ≠ i2 → s.heap.get? b = some o → h'.get? b = some o) → h'.get? L = some { cls := .type "list", dict := none, data := .seq acc' c', slots := #[] } → CT P1 P2 L z TO i1 i2 s.heap.objs.size (min n1 n2) acc' h' → R (.ok (.ret res)) { s with heap := h', toks := tk }) :
    wpAny (model prog w) A.in1 (Builtin.List.listExtendWith (.ref L) (.ref z) res)
      (fun fin s' => match fin with | .done f => R (.ok f) s' | .again c' => c'.quiet = true ∧ codeAny (model prog w) A c' R s') (fun e s' => R (.error e) s') s := by
  have ty : s.TypeIs (.ref z) "zip" := ⟨_, hz, rfl⟩
  unfold Builtin.List.listExtendWith
  refine wpAny_bind (wpAny_typeOf ty ?_)
  have h1 : Builtin.List.listSameRef (.ref L) (.ref z) = false := by simp [Builtin.List.listSameRef, nz]
  have h2 : (Value.type "zip" == Value.type "list") = false := by decide
  have h3 : (Value.type "zip" == Value.type "tuple") = false := by decide
  simp only [h1, h2, h3, Bool.or_false, Bool.false_eq_true, if_false]
  refine wpAny_bind (wpAny_pyIter_zip hz (wpAny_bind (wpAny_holding ?_)))
  unfold Builtin.List.listLengthHint
  refine wpAny_bind (wpAny_specialOf ty zip_len0 ?_)
  show wpAny _ A.in1 (specialOf (Value.ref z) (Str.ofString "__length_hint__") >>= _) _ _ _
  refine wpAny_bind (wpAny_specialOf ty zip_hint0 (wpAny_pure ?_))
  show wpAny _ A.in1 (rule "list.extend.makes-room" >>= fun _ => Builtin.List.listTouch (.ref L) >>= fun _ => again (.builtin "list.extend.loop" ⟨[.ref L, .ref z, res], []⟩)) _ _ _
  refine wpAny_bind (wpAny_rule (wpAny_bind ?_))
  show wpAny _ A.in1 (updateSeq L (·.push .none) >>= fun _ => updateSeq L (·.pop)) _ _ _
  refine wpAny_bind (wpAny_updateSeq hL rfl ?_)
  have u1 := Heap.get?_update_self (Obj.mapSeq (·.push Value.none)) hL rfl
  refine wpAny_updateSeq (hz := by seq_fits) u1 rfl ?_
  have u2 := Heap.get?_update_self (Obj.mapSeq (·.pop)) u1 rfl
  have oth : ∀ b o, b ≠ L → s.heap.get? b = some o → ((s.heap.update L (Obj.mapSeq (·.push Value.none))).update L (Obj.mapSeq (·.pop))).get? b = some o := fun b o hb e => (Heap.get?_update_other _ _ (Ne.symm hb)).trans ((Heap.get?_update_other _ _ (Ne.symm hb)).trans e)
  have sz : ((s.heap.update L (Obj.mapSeq (·.push Value.none))).update L (Obj.mapSeq (·.pop))).objs.size = s.heap.objs.size := (Heap.SameBut.update (a := L) ..).1.trans (Heap.SameBut.update (a := L) ..).1
  refine wpAny_pure ⟨plainId_quiet F.plain_extend_loop _, zk_loop Z D1 D2 nz nTI nTO nf1 nf2 hn res s.heap.objs.size _ 0 _ #[] _ rfl (Nat.zero_le _) (st.frame D1 D2 fun b o hb e => oth b o ?_ e) u2 CT.nil (Nat.le_of_eq sz.symm) (by show TO < _; rw [sz]; exact hTO) fun h' tk acc' c' kp hL' ct => ?_⟩
  · rcases hb with rfl | rfl | rfl | hb | hb | hb
    · exact Ne.symm nz
    · exact Ne.symm nTI
    · exact Ne.symm nTO
    · exact fun q => nf1 (q ▸ hb)
    · exact fun q => nf2 (q ▸ hb)
    · exact hb
  · exact hR h' tk acc' c' (fun b o c0 c1 c2 c3 c4 e => kp b o c0 c1 c2 c3 c4 (oth b o c0 e)) hL' ct
theorem zk_init (Z : ZipSep2 z TI TO i1 i2 fp1 fp2) (D1 : Draws prog w A.in1.in1 i1 fp1 n1 P1 St1) (D2 : Draws prog w A.in1.in1 i2 fp2 n2 P2 St2) (nz : L ≠ z) (nTI : L ≠ TI) (nTO : L ≠ TO) (nf1 : L ∉ fp1) (nf2 : L ∉ fp2) (hn : min n1 n2 ≤ sizeLine)
    (hz : IsZip s.heap z TI TO .none) (st : ZK z TI TO i1 i2 St1 St2 (· ≠ L) 0 s.heap) (hL : s.heap.get? L = some { cls := .type "list", data := .seq #[] }) (hTO : TO < s.heap.objs.size)
    (hR : ∀ h' tk acc' c', (∀ b o, b ≠ L → b ≠ z → b ≠ TO → b ≠ i1 → b ≠ i2 → s.heap.get? b = some o → h'.get? b = some o) → h'.get? L = some { cls := .type "list", dict := none, data := .seq acc' c', slots := #[] } → CT P1 P2 L z TO i1 i2 s.heap.objs.size (min n1 n2) acc' h' → R (.ok (.ret .none)) { s with heap := h', toks := tk }) :
    wpAny (model prog w) A.in1 (Builtin.«list.__init__» ⟨[.ref L, .ref z], []⟩)
      (fun fin s' => match fin with | .done f => R (.ok f) s' | .again c' => c'.quiet = true ∧ codeAny (model prog w) A c' R s') (fun e s' => R (.error e) s') s := by
  show wpAny _ A.in1 (do let old ← Builtin.List.listItems (.ref L); Builtin.List.listUpdate (.ref L) (fun _ => #[]); letGo old.toList.reverse; Builtin.List.listExtendWith (.ref L) (.ref z) .none) _ _ s
  refine wpAny_bind ?_
  unfold Builtin.List.listItems
  refine wpAny_bind (wpAny_seqItems hL rfl (wpAny_pure ?_))
  show wpAny _ A.in1 (updateSeq L (fun _ => #[]) >>= fun _ => letGo (#[] : Array Value).toList.reverse >>= fun _ => Builtin.List.listExtendWith (.ref L) (.ref z) .none) _ _ s
  refine wpAny_bind (wpAny_updateSeq hL rfl ?_)
  have u1 := Heap.get?_update_self (Obj.mapSeq (fun _ => (#[] : Array Value))) hL rfl
  have oth : ∀ b o, b ≠ L → s.heap.get? b = some o → (s.heap.update L (Obj.mapSeq (fun _ => (#[] : Array Value)))).get? b = some o := fun b o hb e => (Heap.get?_update_other _ _ (Ne.symm hb)).trans e
  have sz : (s.heap.update L (Obj.mapSeq (fun _ => (#[] : Array Value)))).objs.size = s.heap.objs.size := (Heap.SameBut.update (a := L) ..).1
  refine wpAny_bind (wpAny_letGo ?_)
  refine zk_extend Z D1 D2 nz nTI nTO nf1 nf2 hn .none _ (oth _ _ (Ne.symm nz) hz) (st.frame D1 D2 fun b o hb e => oth b o ?_ e) u1 (by show TO < _; rw [sz]; exact hTO) fun h' tk acc' c' kp hL' ct => ?_
  · rcases hb with rfl | rfl | rfl | hb | hb | hb
    · exact Ne.symm nz
    · exact Ne.symm nTI
    · exact Ne.symm nTO
    · exact fun q => nf1 (q ▸ hb)
    · exact fun q => nf2 (q ▸ hb)
    · exact hb
  · refine hR h' tk acc' c' (fun b o c0 c1 c2 c3 c4 e => kp b o c0 c1 c2 c3 c4 (oth b o c0 e)) hL' ?_
    show CT P1 P2 L z TO i1 i2 s.heap.objs.size _ _ _
    have ct : CT P1 P2 L z TO i1 i2 (s.heap.update L (Obj.mapSeq (fun _ => (#[] : Array Value)))).objs.size (min n1 n2) acc' h' := ct
    rw [sz] at ct
    exact ct
end
section
variable {prog : Program} {w : World} {A : Around} {E : Value → Shared → Prop} {s : Shared} {z TI TO i1 i2 : Addr} {fp1 fp2 : List Addr} {n1 n2 : Nat} {P1 P2 : Nat → Value → Prop} {St1 St2 : Nat → Heap → Prop}
/-- list(z), z a new zip -/
theorem call_list_zk {Q : Value → Shared → Prop} (Z : ZipSep2 z TI TO i1 i2 fp1 fp2) (D1 : Draws prog w A.in1.in1.in1 i1 fp1 n1 P1 St1) (D2 : Draws prog w A.in1.in1.in1 i2 fp2 n2 P2 St2) (hn : min n1 n2 ≤ sizeLine)
    (hz : IsZip s.heap z TI TO .none) (hI : IsTupOf2 s.heap TI (.ref i1) (.ref i2)) (hO : ∃ x y, IsTupOf2 s.heap TO x y) (q1 : St1 0 s.heap) (q2 : St2 0 s.heap) (l1 : ∀ b ∈ fp1, b < s.heap.objs.size) (l2 : ∀ b ∈ fp2, b < s.heap.objs.size)
    (hQ : ∀ h' tk acc' c', (∀ b o, b ≠ s.heap.objs.size → b ≠ z → b ≠ TO → b ≠ i1 → b ≠ i2 → s.heap.get? b = some o → h'.get? b = some o) → h'.get? s.heap.objs.size = some { cls := .type "list", dict := none, data := .seq acc' c', slots := #[] } →
      CT P1 P2 s.heap.objs.size z TO i1 i2 (s.heap.objs.size + 1) (min n1 n2) acc' h' → Q (.ref s.heap.objs.size) { s with heap := h', toks := tk }) :
    wpAny (model prog w) A (call (.type "list") [.ref z]) Q E s := by
  obtain ⟨x0, y0, hO⟩ := hO
  have nz : s.heap.objs.size ≠ z := Nat.ne_of_gt (Heap.lt_size hz)
  have nTI : s.heap.objs.size ≠ TI := Nat.ne_of_gt (Heap.lt_size hI)
  have nTO : s.heap.objs.size ≠ TO := Nat.ne_of_gt (Heap.lt_size hO)
  have nf1 : s.heap.objs.size ∉ fp1 := fun h => Nat.lt_irrefl _ (l1 _ h)
  have nf2 : s.heap.objs.size ∉ fp2 := fun h => Nat.lt_irrefl _ (l2 _ h)
  refine callType_codes (Q₁ := fun obj s₁ => obj = .ref s.heap.objs.size ∧ s₁ = { s with heap := s.heap.push { cls := .type "list", data := .seq #[] } }) F.called_list (F.typeCall_list_1 _) F.entry_list_init (code_list_new _ ⟨rfl, rfl⟩) fun obj s₁ h₁ => ?_
  obtain ⟨rfl, rfl⟩ := h₁
  have hL : (s.heap.push { cls := .type "list", data := .seq #[] }).get? s.heap.objs.size = some { cls := .type "list", data := .seq #[] } := Heap.get?_push_size _ rfl
  have up : ∀ b o, s.heap.get? b = some o → (s.heap.push { cls := .type "list", data := .seq #[] }).get? b = some o := fun b o e => Heap.get?_push_of_some _ e
  have sz : (s.heap.push { cls := .type "list", data := .seq #[] }).objs.size = s.heap.objs.size + 1 := Heap.size_push ..
  refine ⟨⟨_, hL, rfl⟩, F.args_list_init_2 _ _, zk_init Z D1 D2 nz nTI nTO nf1 nf2 hn (up _ _ hz) ⟨up _ _ hI, D1.frame _ _ _ q1 fun b _ o e => up b o e, D2.frame _ _ _ q2 fun b _ o e => up b o e, .inl ⟨up _ _ hz, x0, y0, up _ _ hO⟩⟩ hL (by show TO < _; rw [sz]; exact Nat.lt_succ_of_lt (Heap.lt_size hO)) fun h' tk acc' c' kp hL' ct => ?_⟩
  refine ⟨rfl, hQ h' tk acc' c' (fun b o c0 c1 c2 c3 c4 e => kp b o c0 c1 c2 c3 c4 (up b o e)) hL' ?_⟩
  have ct : CT P1 P2 s.heap.objs.size z TO i1 i2 (s.heap.push { cls := .type "list", data := .seq #[] }).objs.size (min n1 n2) acc' h' := ct
  rw [sz] at ct
  exact ct
end
end Pu

set_option Elab.async false
set_option linter.all false
set_option maxRecDepth 100000
set_option maxHeartbeats 4000000
/-! Pure readings: list(zip(a, b)). -/
namespace Pu
open PySem PySem.Spec L2
open PyProof.Rows hiding St
/-- several new objects known -/
theorem inv_more {X : Cx} {pins : List (Addr × Obj)} {σ : L2.St} {H H' : Hp} {s : Shared} {h' : Heap} {tk : Nat} (I : Inv X pins σ H s) (hk : ∀ b o, s.heap.get? b = some o → h'.get? b = some o) (kp : ∀ b u, H b = some u → H' b = some u)
    (new : ∀ b u, H' b = some u → H b = none → s.heap.get? b = none ∧ ObjOk X.prog X.w H' h' b u) : Inv X pins σ H' { s with heap := h', toks := tk } := by
  refine I.call' (ch := []) rfl ⟨fun b o q _ _ _ => hk b o q, fun b o q _ _ _ => ⟨o.slots, hk b o q⟩, fun b o q n _ => ?_, fun b o q _ => ⟨o, hk b o q⟩, fun b xs q => kp b _ q, fun b o u q => kp b _ q, fun b ps q => ⟨#[], by rw [kp b _ q]; simp⟩⟩ (fun b u q => ?_) I.bare fun b z => by simp at z
  · cases e : H' b with
    | none => rfl
    | some u =>
      have := (new b u e n).1
      rw [q] at this
      cases this
  · cases e : H b with
    | none => exact (new b u q e).2
    | some u' =>
      have e2 := kp b u' e
      rw [q] at e2
      cases e2
      exact (I.hok b u e).stay (fun d v _ y => hk d v y) (fun d y => kp d _ y) fun d xs y => kp d _ y
def layL : List (Addr × HO) → Hp → Hp
  | [], H => H
  | (a, o) :: r, H => layL r (upd H a o)
theorem layL_off : ∀ (l : List (Addr × HO)) {H : Hp} {b : Addr}, b ∉ l.map (·.1) → layL l H b = H b
  | [], _, _, _ => rfl
  | (a, o) :: r, H, b, h => by
    rw [List.map_cons, List.mem_cons, not_or] at h
    exact (layL_off r h.2).trans (upd_ne h.1)
theorem layL_mem : ∀ (l : List (Addr × HO)) {H : Hp} {a : Addr} {o : HO}, (l.map (·.1)).Nodup → (a, o) ∈ l → layL l H a = some o
  | [], _, _, _, _, h => nomatch h
  | (b, u) :: r, H, a, o, hn, h => by
    rw [List.map_cons] at hn
    have hn := List.nodup_cons.mp hn
    rcases List.mem_cons.mp h with e | h
    · cases e
      exact (layL_off r hn.1).trans upd_same
    · exact layL_mem r hn.2 h
def tLzip (t1 t2 : Bool) (K : PySem.W.Frag) (ta : TA) : TE := fun σ H Q => ta σ H fun vs H1 => ∃ a b xs ys, vs = [.ref a, .ref b] ∧ SqB t1 K H1 a xs ∧ SqB t2 K H1 b ys ∧
  ∀ (H' : Hp) (p : Addr) (ts : List Addr), (∀ c o, H1 c = some o → H' c = some o) → H1 p = none → (∀ t ∈ ts, H1 t = none) → p ∉ ts → (∀ c, H1 c = none → c ≠ p → c ∉ ts → H' c = none) → H' p = some (.lst (ts.map V.ref)) →
    Paired (fun (t : Addr) (q : V × V) => ∃ o : Obj, o.dict = none ∧ H' t = some (.frz o (.tup [q.1, q.2]))) ts (xs.zip ys) → Q (.ref p) H'
theorem vals_refs : ∀ as : List Addr, Vals (as.map V.ref) (as.map Value.ref)
  | [] => .nil
  | _ :: as => .cons rfl (vals_refs as)
theorem paired_of {α β : Type} {F : α → β → Prop} : ∀ {xs : List α} {ys : List β}, xs.length = ys.length → (∀ (j : Nat) (x : α) (y : β), xs[j]? = some x → ys[j]? = some y → F x y) → Paired F xs ys
  | [], [], _, _ => .nil
  | [], _ :: _, h, _ => by cases h
  | _ :: _, [], h, _ => by cases h
  | x :: xs, y :: ys, h, k => .cons (k 0 x y rfl rfl) (paired_of (Nat.succ.inj h) fun j a b e1 e2 => k (j + 1) a b e1 e2)
section
variable {X : Cx} {e e2 : Expr} {ta : TA} {p p2 pos pos2 : Pos}
theorem pe_lzip (t1 t2 : Bool) (hc : X.calm = true) (hgl : Gl X "list") (hml : X.mg "list" = none) (hg : Gl X "zip") (hm : X.mg "zip" = none) (ha : PA X [e, e2] ta)
    (hl : starEach [.Call (.Name "zip" p2) [e, e2] [] pos2] X.env = (false, eval (.Call (.Name "zip" p2) [e, e2] [] pos2) X.env) :: starEach [] X.env) (hs : starEach [e, e2] X.env = (false, eval e X.env) :: starEach [e2] X.env) (hpl : (backTo pos2 (starEach [e2] X.env)).any (·.1) = false) :
    PE X (.Call (.Name "list" p) [.Call (.Name "zip" p2) [e, e2] [] pos2] [] pos) (tLzip t1 t2 X.K ta) := by
  refine ⟨fun pins s σ H Q I h => wpAny_Call_Name_kw (ld_blt I hgl hml PyProof.Rows.boot_list ?_)⟩
  refine PyProof.Rows.callWith_type1 ?_ hl rfl
  rw [hl]
  show wpAny _ _ (spliced ((false, eval (.Call (.Name "zip" p2) [e, e2] [] pos2) X.env) :: backTo pos (starEach [] X.env))) _ _ s
  refine Calls.spliced_cons (Call_ (ld_blt I hg hm PyProof.Rows.boot_zip (PyProof.Rows.callWith_type1 (thn (ha.run pos2 pins s σ H _ I h) fun us s1 ⟨vs, H1, I1, r1, q1⟩ => ?_) hs hpl)))
  obtain ⟨a, b, xs, ys, rfl, hqx, hqy, q⟩ := q1
  cases r1 with
  | cons r rr =>
    obtain ⟨u, rfl, r'⟩ := vals1 rr
    cases r
    cases r'
    obtain ⟨us, rv, held, hz1⟩ := seqB I1 hqx
    obtain ⟨us', rv', held', hz2⟩ := seqB I1 hqy
    refine zip_begins2 (beginsB t1 a us.toArray) (beginsB t2 b us'.toArray) held held' fun h1 hz hTI hTO o1 o2 hsz hk => ?_
    have la := heldB_lt held
    have lb := heldB_lt held'
    refine Calls.spliced_nil ?_
    have hh : X.A.in1.in1.in1.handled = none := by simp [I1.ok.hd hc]
    have sep := sep_new s1.heap.objs.size a b la lb
    have hk' : ∀ c o, s1.heap.get? c = some o → h1.get? c = some o := hk
    have ge : ∀ (j : Nat) c o, s1.heap.get? c = some o → c ≠ s1.heap.objs.size + j := fun j c o e1 => Nat.ne_of_lt (Nat.lt_of_lt_of_le (Heap.lt_size e1) (Nat.le_add_right _ _))
    have lz : s1.heap.objs.size + 4 < h1.objs.size := Heap.lt_size hz
    have hheld : heldB t1 h1 a us.toArray := by
      cases t1 with
      | false => exact Heap.IsList.at held fun o q => hk' _ o q
      | true => exact Heap.IsTuple.at held fun o q => hk' _ o q
    have hheld' : heldB t2 h1 b us'.toArray := by
      cases t2 with
      | false => exact Heap.IsList.at held' fun o q => hk' _ o q
      | true => exact Heap.IsTuple.at held' fun o q => hk' _ o q
    refine call_list_zk (s := { s1 with heap := h1 }) sep (drawsB t1 (A := X.A.in1.in1.in1) hh (Nat.ne_of_lt la) us.toArray) (drawsB t2 (A := X.A.in1.in1.in1) hh (Nat.ne_of_lt (Nat.lt_succ_of_lt lb)) us'.toArray) ?_ hz hTI ⟨_, _, hTO⟩ ⟨onB_new o1, hheld⟩ ⟨onB_new o2, hheld'⟩ ?_ ?_ fun h' tk acc c' kp hL ct => ?_
    · rw [List.size_toArray, ← rv.length]
      omega
    · intro c hcm
      simp only [List.mem_cons, List.not_mem_nil, or_false] at hcm
      show c < h1.objs.size
      rcases hcm with rfl | rfl
      · exact Nat.lt_of_le_of_lt (Nat.le_add_right _ _) lz
      · exact Nat.lt_trans (Nat.lt_of_lt_of_le la (Nat.le_add_right _ _)) lz
    · intro c hcm
      simp only [List.mem_cons, List.not_mem_nil, or_false] at hcm
      show c < h1.objs.size
      rcases hcm with rfl | rfl
      · exact Nat.lt_of_le_of_lt (by omega) lz
      · exact Nat.lt_trans (Nat.lt_of_lt_of_le lb (Nat.le_add_right _ _)) lz
    · obtain ⟨ts, eT, lT, nd, hb, hp⟩ := ct
      have kp : ∀ c o, s1.heap.get? c = some o → h'.get? c = some o := fun c o e1 => kp c o (Nat.ne_of_lt (Nat.lt_trans (Heap.lt_size e1) (Nat.lt_of_le_of_lt (Nat.le_add_right _ 4) lz))) (ge 4 c o e1) (ge 3 c o e1) (ge 0 c o e1) (ge 1 c o e1) (hk' c o e1)
      have lxy : (xs.zip ys).length = ts.length := by
        rw [lT, List.length_zip, List.size_toArray, List.size_toArray, rv.length, rv'.length]
      have luu : (us.zip us').length = ts.length := by
        rw [lT, List.length_zip, List.size_toArray, List.size_toArray]
      let l : List (Addr × HO) := (h1.objs.size, .lst (ts.map V.ref)) :: (ts.zip ((us.zip us').zip (xs.zip ys))).map fun z => (z.1, .frz (tupO [z.2.1.1, z.2.1.2]) (.tup [z.2.2.1, z.2.2.2]))
      have l1 : l.map (·.1) = h1.objs.size :: ts := by
        show h1.objs.size :: ((ts.zip _).map _).map _ = _
        rw [List.map_map]
        refine congrArg _ ?_
        show (ts.zip _).map Prod.fst = ts
        exact List.map_fst_zip (by rw [List.length_zip, lxy, luu]; omega)
      have hnd : (l.map (·.1)).Nodup := by
        rw [l1]
        exact List.nodup_cons.mpr ⟨fun h => (hb _ h).2.1 rfl, nd⟩
      have ge1 : s1.heap.objs.size ≤ h1.objs.size := Nat.le_of_lt (Nat.lt_of_le_of_lt (Nat.le_add_right _ 4) lz)
      have get : ∀ t ∈ ts, s1.heap.objs.size ≤ t := fun t ht => Nat.le_trans ge1 (Nat.le_trans (Nat.le_succ _) (hb t ht).1)
      have at_ : ∀ (j : Nat) (t : Addr), ts[j]? = some t → ∃ u u' x y, us[j]? = some u ∧ us'[j]? = some u' ∧ xs[j]? = some x ∧ ys[j]? = some y ∧ RelV x u ∧ RelV y u' ∧ IsTupOf2 h' t u u' ∧ (t, HO.frz (tupO [u, u']) (.tup [x, y])) ∈ l := by
        intro j t ht
        obtain ⟨u, u', q1, q2, q3⟩ := hp j t ht
        have q2 : us[j]? = some u := by simpa using q2
        have q3 : us'[j]? = some u' := by simpa using q3
        obtain ⟨x, ex⟩ : ∃ x, xs[j]? = some x := ⟨_, List.getElem?_eq_getElem (by rw [rv.length]; exact (List.getElem?_eq_some_iff.mp q2).1)⟩
        obtain ⟨y, ey⟩ : ∃ y, ys[j]? = some y := ⟨_, List.getElem?_eq_getElem (by rw [rv'.length]; exact (List.getElem?_eq_some_iff.mp q3).1)⟩
        obtain ⟨v, ev, rx⟩ := rv.get ex
        obtain ⟨v', ev', ry⟩ := rv'.get ey
        rw [q2] at ev
        cases ev
        rw [q3] at ev'
        cases ev'
        refine ⟨u, u', x, y, q2, q3, ex, ey, rx, ry, q1, List.mem_cons_of_mem _ (List.mem_map.mpr ⟨(t, (u, u'), (x, y)), List.mem_of_getElem? (i := j) ?_, rfl⟩)⟩
        rw [List.getElem?_zip_eq_some]
        refine ⟨ht, ?_⟩
        rw [List.getElem?_zip_eq_some, List.getElem?_zip_eq_some, List.getElem?_zip_eq_some]
        exact ⟨⟨q2, q3⟩, ex, ey⟩
      have off : ∀ c, c ≠ h1.objs.size → c ∉ ts → layL l H1 c = H1 c := fun c c1 c2 => layL_off l (by rw [l1, List.mem_cons, not_or]; exact ⟨c1, c2⟩)
      have kpH : ∀ c u, H1 c = some u → layL l H1 c = some u := fun c u e => by
        have hlt : ¬ s1.heap.objs.size ≤ c := fun hle => by rw [I1.hok.fresh hle] at e; cases e
        rw [off c (fun z => hlt (by rw [z]; exact ge1)) fun z => hlt (get c z)]
        exact e
      have eL : layL l H1 h1.objs.size = some (.lst (ts.map V.ref)) := layL_mem l hnd (List.mem_cons_self ..)
      have J : Inv X pins σ (layL l H1) { s1 with heap := h', toks := tk } := by
        refine inv_more I1 kp kpH fun c u e n => ?_
        by_cases c1 : c = h1.objs.size
        · subst c1
          rw [eL] at e
          cases e
          refine ⟨Heap.get?_none_of_le ge1, ?_, acc.toList, c', by rw [eT]; exact vals_refs ts, ?_⟩
          · show (ts.map V.ref).length ≤ sizeLine
            rw [List.length_map, ← lxy, List.length_zip]
            omega
          · rw [Array.toArray_toList]
            exact hL
        · by_cases c2 : c ∈ ts
          · obtain ⟨j, hj⟩ := List.mem_iff_getElem?.mp c2
            obtain ⟨u1, u2, x, y, _, _, _, _, rx, ry, tt, ml⟩ := at_ j c hj
            rw [layL_mem l hnd ml] at e
            cases e
            exact ⟨Heap.get?_none_of_le (get c c2), tt, by show 2 ≤ sizeLine; decide, [u1, u2], .cons rx (.cons ry .nil), ⟨_, tt, rfl, _, rfl⟩⟩
          · rw [off c c1 c2, n] at e
            cases e
      refine ⟨.ref h1.objs.size, layL l H1, J, rfl, q _ _ ts kpH (I1.hok.fresh ge1) (fun t ht => I1.hok.fresh (get t ht)) (fun h => (hb _ h).2.1 rfl) (fun c n c1 c2 => by rw [off c c1 c2]; exact n) eL (paired_of lxy.symm fun j t z ht hz => ?_)⟩
      obtain ⟨u1, u2, x, y, _, _, ex, ey, _, _, _, ml⟩ := at_ j t ht
      rw [List.getElem?_zip_eq_some] at hz
      have a1 : x = z.1 := Option.some.inj (ex.symm.trans hz.1)
      have a2 : y = z.2 := Option.some.inj (ey.symm.trans hz.2)
      rw [a1, a2] at ml
      exact ⟨tupO [u1, u2], rfl, layL_mem l hnd ml⟩
end
theorem dp_zipd {K : PySem.W.Frag} {S : Hp} : ∀ {ts : List Addr} {xs ys : List V} {ds es : List D}, Paired (fun (t : Addr) (q : V × V) => ∃ o : Obj, o.dict = none ∧ S t = some (.frz o (.tup [q.1, q.2]))) ts (xs.zip ys) → DpAll K S xs ds → DpAll K S ys es → DpAll K S (ts.map V.ref) (zipD ds es)
  | _, [], _, [], _, h, .nil, _ => by
    cases h
    exact .nil
  | _, _ :: _, [], _ :: _, [], h, .cons _ _, .nil => by
    cases h
    exact .nil
  | _, x :: xs, y :: ys, d :: ds, e :: es, h, .cons a b, .cons a' b' => by
    cases h with
    | cons q t =>
      obtain ⟨o, _, ho⟩ := q
      exact .cons (.tup (.inl (.inr ⟨o, ho⟩)) (.cons a (.cons a' .nil))) (dp_zipd t b b')
section
variable {X : Cx} {C : GC X.K} {a b : Expr} {ta tb : TE} {ma mb : ME} {p p2 pos pos2 : Pos}
/-- list(zip(a, b)) -/
theorem o_lzip (b1 b2 : Bool) {K₁ : PySem.W.Frag} (hml : X.mg "list" = none) (hm : X.mg "zip" = none) (h : PP X C a ta ma) (h' : PP X C b tb mb) (hc : X.calm = true := by rfl) (hgl : Gl X "list" := by rfl) (hg : Gl X "zip" := by rfl)
    (hl : starEach [.Call (.Name "zip" p2) [a, b] [] pos2] X.env = (false, eval (.Call (.Name "zip" p2) [a, b] [] pos2) X.env) :: starEach [] X.env := by rfl) (hs : starEach [a, b] X.env = (false, eval a X.env) :: starEach [b] X.env := by rfl) (hs2 : starEach [b] X.env = (false, eval b X.env) :: starEach [] X.env := by rfl)
    (hpl : (backTo pos2 (starEach [b] X.env)).any (·.1) = false := by rfl) (hK₁ : X.K = K₁ := by first | exact blkK2 | exact blkK | exact rfl) :
    PO' X C (.Call (.Name "list" p) [.Call (.Name "zip" p2) [a, b] [] pos2] [] pos) (tLzip b1 b2 K₁ (tCons ta (tCons tb tNil))) (mZip b1 b2 ma mb) := by
  subst hK₁
  refine ⟨pe_lzip b1 b2 hc hgl hml hg hm (pa_cons h.pe (pa_cons h'.pe pa_nil hs2) hs) hl hs hpl, fun S H σ ρ P Q rl hmm k => ?_⟩
  refine h.rd S H σ ρ _ _ rl hmm fun d S1 H1 v p1 s g r => ?_
  refine h'.rd S1 H1 σ ρ _ _ (rl.step s g) p1 fun e S2 H2 w p2 s2 g2 r2 => ?_
  cases q : itemsB b1 d with
  | none => rw [q] at p2; exact p2.elim
  | some ds =>
    cases q' : itemsB b2 e with
    | none => rw [q, q'] at p2; exact p2.elim
    | some es =>
      rw [q, q'] at p2
      obtain ⟨l, vs, rfl, hs1, ha, hz, hl1⟩ := rep_seq g2 (r.mono s2.ss) q
      obtain ⟨l', vs', rfl, hs1', ha', hz', hl1'⟩ := rep_seq g2 r2 q'
      refine ⟨l, l', vs, vs', rfl, hs1.mono g2.sub, hs1'.mono g2.sub, fun H' p ts ext np nt pts new eL pr => ?_⟩
      have hS : ∀ c, c ∈ ts → S2 c = none := fun c hc => g2.sub.free (nt c hc)
      have nS : ∀ c u, S2 c = some u → c ∉ ts := fun c u e hm => by rw [hS c hm] at e; cases e
      let S' : Hp := fun c => if c ∈ ts then H' c else S2 c
      have eS1 : ∀ c, c ∈ ts → S' c = H' c := fun c hc => if_pos hc
      have eS2 : ∀ c, c ∉ ts → S' c = S2 c := fun c hc => if_neg hc
      have ss : Same S2 S' := fun c u e => (eS2 c (nS c u e)).trans e
      have tsO : ∀ c, c ∈ ts → ∃ (o : Obj) (q : V × V), o.dict = none ∧ H' c = some (.frz o (.tup [q.1, q.2])) := fun c hc => by
        have : ∀ {ts : List Addr} {zs : List (V × V)}, Paired (fun (t : Addr) (q : V × V) => ∃ o : Obj, o.dict = none ∧ H' t = some (.frz o (.tup [q.1, q.2]))) ts zs → c ∈ ts → ∃ (o : Obj) (q : V × V), o.dict = none ∧ H' c = some (.frz o (.tup [q.1, q.2])) := by
          intro ts zs hp
          induction hp with
          | nil => intro h; cases h
          | cons z _ ih =>
            intro h
            rcases List.mem_cons.mp h with e | h
            · obtain ⟨o, o1, o2⟩ := z
              exact ⟨o, _, o1, by rw [e]; exact o2⟩
            · exact ih h
        exact this pr hc
      have gd : Good C.vol C.G S' H' := by
        refine ⟨fun c u e => ?_, C.gst H2 H' g2.g fun c u e _ => ext c u e, fun c v => ?_, fun c v => ?_, fun c u e => ?_, fun c u e => ?_⟩
        · by_cases hc : c ∈ ts
          · rw [eS1 c hc] at e; exact e
          · rw [eS2 c hc] at e; exact ext c u (g2.sub c u e)
        · have : c ∉ ts := fun hc => g2.vh c v (nt c hc)
          rw [eS2 c this]; exact g2.vs c v
        · cases e : H2 c with
          | none => exact (g2.vh c v e).elim
          | some u => rw [ext c u e]; simp
        · cases e2 : H2 c with
          | some u' =>
            have := ext c u' e2
            rw [e] at this
            cases this
            exact g2.sz c u e2
          | none =>
            by_cases c1 : c = p
            · rw [c1, eL] at e
              cases e
              show (ts.map V.ref).length ≤ sizeLine
              have := paired_len pr
              rw [List.length_map, this, List.length_zip]
              omega
            · by_cases c2 : c ∈ ts
              · obtain ⟨o, z, _, ho⟩ := tsO c c2
                rw [ho] at e
                cases e
                show 2 ≤ sizeLine
                decide
              · rw [new c e2 c1 c2] at e
                cases e
        · by_cases hc : c ∈ ts
          · rw [eS1 c hc] at e
            obtain ⟨o, z, h1, ho⟩ := tsO c hc
            rw [ho] at e
            cases e
            exact h1
          · rw [eS2 c hc] at e; exact g2.tp c u e
      have st : Stp C.vol S2 H2 S' H' := by
        refine ⟨ss, fun c u _ e _ => ext c u e, fun c u e => ?_, fun c e => ?_⟩
        · by_cases hc : c ∈ ts
          · exact .inr (nt c hc)
          · rw [eS2 c hc] at e; exact .inl e
        · cases e2 : H2 c with
          | none => rfl
          | some u => rw [ext c u e2] at e; cases e
      have pr' : Paired (fun (t : Addr) (q : V × V) => ∃ o : Obj, o.dict = none ∧ S' t = some (.frz o (.tup [q.1, q.2]))) ts (vs.zip vs') := by
        have : ∀ {us : List Addr} {zs : List (V × V)}, (∀ u ∈ us, u ∈ ts) → Paired (fun (t : Addr) (q : V × V) => ∃ o : Obj, o.dict = none ∧ H' t = some (.frz o (.tup [q.1, q.2]))) us zs → Paired (fun (t : Addr) (q : V × V) => ∃ o : Obj, o.dict = none ∧ S' t = some (.frz o (.tup [q.1, q.2]))) us zs := by
          intro us zs hu hp
          induction hp with
          | nil => exact .nil
          | cons z _ ih =>
            obtain ⟨o, o1, o2⟩ := z
            exact .cons ⟨o, o1, (eS1 _ (hu _ List.mem_cons_self)).trans o2⟩ (ih fun u hm => hu u (List.mem_cons_of_mem _ hm))
        exact this (fun _ h => h) pr
      have np1 : H1 p = none := s2.dm p np
      exact k (zipD ds es) S' H' p (ts.map V.ref) p2 ((s.trans g s2).trans g2 st) gd eL ((eS2 p pts).trans (g2.sub.free np)) (s.dm p np1) (fun v => g2.vh p v np) (dp_zipd pr' (DpAll.mono ss ha) (DpAll.mono ss ha'))
end
end Pu

set_option Elab.async false
set_option linter.all false
set_option maxRecDepth 100000
set_option maxHeartbeats 4000000
/-! Pure readings: dict(zip(a, b)), dict(a list or a tuple of pairs). -/
namespace Pu
open PySem PySem.Spec L2
open PyProof.Rows hiding St
section
variable {prog : Program} {w : World} {z TI TO i1 i2 : Addr} {fp1 fp2 : List Addr} {n1 n2 : Nat} {P1 P2 : Nat → Value → Prop} {St1 St2 : Nat → Heap → Prop}
theorem arg_zk (Z : ZipSep2 z TI TO i1 i2 fp1 fp2) (D1 : ∀ A : Around, A.handled = none → Draws prog w A i1 fp1 n1 P1 St1) (D2 : ∀ A : Around, A.handled = none → Draws prog w A i2 fp2 n2 P2 St2) (f1 : ∀ i h h', St1 i h → (∀ b ∈ fp1, ∀ o, h.get? b = some o → h'.get? b = some o) → St1 i h') (f2 : ∀ i h h', St2 i h → (∀ b ∈ fp2, ∀ o, h.get? b = some o → h'.get? b = some o) → St2 i h') (e1 : ∀ i h, St1 i h → ∀ b ∈ fp1, ∃ o, h.get? b = some o) (e2 : ∀ i h, St2 i h → ∀ b ∈ fp2, ∃ o, h.get? b = some o) :
    PairArg prog w "zip" z (z :: TI :: TO :: (fp1 ++ fp2)) [z, TO, i1, i2] (min n1 n2) (fun i k v => P1 i k ∧ P2 i v) (fun h => IsZip h z TI TO .none ∧ IsTupOf2 h TI (.ref i1) (.ref i2) ∧ (∃ x y, IsTupOf2 h TO x y) ∧ St1 0 h ∧ St2 0 h) where
  type := fun s ok => ⟨_, ok.1, rfl⟩
  notDict := by decide
  keep := fun h h' ok k => by
    obtain ⟨hz, hI, ⟨x, y, hO⟩, q1, q2⟩ := ok
    exact ⟨k _ _ hz, k _ _ hI, ⟨x, y, k _ _ hO⟩, f1 _ _ _ q1 fun b _ o e => k b o e, f2 _ _ _ q2 fun b _ o e => k b o e⟩
  there := fun h ok b hb => by
    obtain ⟨hz, hI, ⟨x, y, hO⟩, q1, q2⟩ := ok
    rcases List.mem_cons.mp hb with rfl | hb
    · exact ⟨_, hz⟩
    rcases List.mem_cons.mp hb with rfl | hb
    · exact ⟨_, hI⟩
    rcases List.mem_cons.mp hb with rfl | hb
    · exact ⟨_, hO⟩
    rcases List.mem_append.mp hb with hb | hb
    · exact e1 _ _ q1 b hb
    · exact e2 _ _ q2 b hb
  sub := fun b hb => by
    simp only [List.mem_cons, List.not_mem_nil, or_false] at hb
    rcases hb with rfl | rfl | rfl | rfl
    · simp
    · simp
    · simp [Z.mem1]
    · simp [Z.mem2]
  noKeys := fun A s Q E hA ok h => getAttrOr_miss_zip ok.1 rfl rfl rfl zip_no_keys (by decide +kernel) hA h
  iter := fun A s d Q E hA ok hd hdf h => by
    obtain ⟨hz, hI, ⟨x, y, hO⟩, q1, q2⟩ := ok
    simp only [List.mem_cons, List.mem_append, not_or] at hdf
    obtain ⟨dz, dI, dO, df1, df2⟩ := hdf
    have hA1 : A.in1.handled = none := by simp [hA]
    refine wpAny_pyIter_zip hz (h z [z, TO, i1, i2] (fun i h => ZK z TI TO i1 i2 St1 St2 (fun T => T ≠ d) i h) s.heap s.toks ?_ ⟨hI, q1, q2, .inl ⟨hz, x, y, hO⟩⟩ (fun _ _ e => e) fun b hb => .inl hb)
    exact {
      off := fun hm => by
        simp only [List.mem_cons, List.not_mem_nil, or_false] at hm
        rcases hm with e | e | e | e
        · exact dz e
        · exact dO e
        · exact df1 (e ▸ Z.mem1)
        · exact df2 (e ▸ Z.mem2)
      frame := fun i h h' st k => ZK.frame (D1 A hA) (D2 A hA) st fun c o hc e => k c o (by
        rcases hc with rfl | rfl | rfl | hc | hc | hc
        · exact Ne.symm dz
        · exact Ne.symm dI
        · exact Ne.symm dO
        · exact fun q => df1 (q ▸ hc)
        · exact fun q => df2 (q ▸ hc)
        · exact hc) e
      item := fun i s Q E hi st hd hQ => by
        refine zk_item Z (D1 _ hA1) (D2 _ hA1) st (by omega) (by omega) (Nat.ne_of_gt hd) fun x y h' tk px py st' tt ts kp => ?_
        exact hQ s.heap.objs.size x y h' tk ⟨px, py⟩ (.inl ⟨_, tt, rfl, _, rfl⟩) st' fun b o hb e => kp b o (fun q => hb (by simp [q])) (fun q => hb (by simp [q])) (fun q => hb (by simp [q])) (fun q => hb (by simp [q])) e
      done := fun s Q E st hQ => by
        refine zk_done Z (D1 _ hA1) (D2 _ hA1) st (by omega) (by omega) (by omega) fun h' tk kp => ?_
        exact hQ h' tk fun b o hb e => kp b o (fun q => hb (by simp [q])) (fun q => hb (by simp [q])) (fun q => hb (by simp [q])) (fun q => hb (by simp [q])) e }
end
/-! ### the dict made is known -/
section
variable {X : Cx} {pins : List (Addr × Obj)} {σ : L2.St} {H : Hp} {s : Shared}
/-- the values of the pairs -/
theorem pairs_kv {P : Program} {w : World} : ∀ {zs : List (V × V)} {kvs : List (Key × V)} {us : List (Value × Value)}, zs = kvs.map (fun q => (kV q.1, q.2)) → Paired (fun (a : V × V) (b : Value × Value) => RelV a.1 b.1 ∧ RelV a.2 b.2) zs us →
    ∃ prs : List (Key × Value), KV kvs prs ∧ prs.length = us.length ∧ ∀ (i : Nat) (k v : Value), us[i]? = some (k, v) → ∃ key, prs[i]? = some (key, v) ∧ (mixKind P w).is key k = true
  | _, [], _, e, h => by
    subst e
    cases h
    exact ⟨[], .nil, rfl, fun i k v e => by simp at e⟩
  | _, q :: kvs, _, e, h => by
    subst e
    cases h with
    | cons a t =>
      rename_i u us
      obtain ⟨prs, r, hl, hp⟩ := pairs_kv (P := P) (w := w) rfl t
      refine ⟨(q.1, u.2) :: prs, .cons ⟨rfl, a.2⟩ r, by simp only [List.length_cons, hl], fun i k v e => ?_⟩
      cases i with
      | zero =>
        cases (Option.some.inj e : u = (k, v))
        exact ⟨q.1, rfl, kV_is a.1⟩
      | succ i => exact hp i k v (by simpa using e)
theorem lay_dict {h' : Heap} {tk : Nat} {kvs : List (Key × V)} {prs : List (Key × Value)} {d : Addr} (I : Inv X pins σ H s) (hk : ∀ b o, s.heap.get? b = some o → h'.get? b = some o) (hle : s.heap.objs.size ≤ d) (r : KV kvs prs) (hz : kvs.length ≤ sizeLine) (hd : h'.DictOf (mixKind X.prog X.w) d (merged [] prs)) :
    Inv X pins σ (upd H d (.dK (mergeK [] kvs))) { s with heap := h', toks := tk } := by
  have hm : (d == sysModules) = false := beq_eq_false_iff_ne.mpr (Nat.ne_of_gt (Nat.lt_of_lt_of_le I.big hle))
  have hlen : (mergeK [] kvs).length ≤ sizeLine := Nat.le_trans (length_mergeK kvs []) (by rw [List.length_nil, Nat.zero_add]; exact hz)
  exact I.laid (t' := tk) hk hle (show ObjOk X.prog X.w _ _ _ (.dK (mergeK [] kvs)) from ⟨hlen, hm, merged [] prs, KV.merge r .nil, hd⟩)
end
def tDzip (t1 t2 : Bool) (K : PySem.W.Frag) (ta : TA) : TE := fun σ H Q => ta σ H fun vs H1 => ∃ a b xs ys kvs, vs = [.ref a, .ref b] ∧ SqB t1 K H1 a xs ∧ SqB t2 K H1 b ys ∧ xs.zip ys = kvs.map (fun q : Key × V => (kV q.1, q.2)) ∧ ∀ p, H1 p = none → Q (.ref p) (upd H1 p (.dK (mergeK [] kvs)))
section
variable {X : Cx} {e e2 : Expr} {ta : TA} {p p2 pos pos2 : Pos}
theorem vals_zip : ∀ {xs ys : List V} {us us' : List Value}, Vals xs us → Vals ys us' → Paired (fun (a : V × V) (b : Value × Value) => RelV a.1 b.1 ∧ RelV a.2 b.2) (xs.zip ys) (us.zip us')
  | _, _, _, _, .nil, _ => by simp; exact .nil
  | _, _, _, _, .cons _ _, .nil => by simp; exact .nil
  | _, _, _, _, .cons a t, .cons b t' => .cons ⟨a, b⟩ (vals_zip t t')
theorem pe_dzip (t1 t2 : Bool) (hc : X.calm = true) (hgl : Gl X "dict") (hml : X.mg "dict" = none) (hg : Gl X "zip") (hm : X.mg "zip" = none) (ha : PA X [e, e2] ta)
    (hl : starEach [.Call (.Name "zip" p2) [e, e2] [] pos2] X.env = (false, eval (.Call (.Name "zip" p2) [e, e2] [] pos2) X.env) :: starEach [] X.env) (hs : starEach [e, e2] X.env = (false, eval e X.env) :: starEach [e2] X.env) (hpl : (backTo pos2 (starEach [e2] X.env)).any (·.1) = false) :
    PE X (.Call (.Name "dict" p) [.Call (.Name "zip" p2) [e, e2] [] pos2] [] pos) (tDzip t1 t2 X.K ta) := by
  refine ⟨fun pins s σ H Q I h => wpAny_Call_Name_kw (ld_blt I hgl hml PyProof.Rows.boot_dict ?_)⟩
  refine PyProof.Rows.callWith_type1 ?_ hl rfl
  rw [hl]
  show wpAny _ _ (spliced ((false, eval (.Call (.Name "zip" p2) [e, e2] [] pos2) X.env) :: backTo pos (starEach [] X.env))) _ _ s
  refine Calls.spliced_cons (Call_ (ld_blt I hg hm PyProof.Rows.boot_zip (PyProof.Rows.callWith_type1 (thn (ha.run pos2 pins s σ H _ I h) fun us s1 ⟨vs, H1, I1, r1, q1⟩ => ?_) hs hpl)))
  obtain ⟨a, b, xs, ys, kvs, rfl, hqx, hqy, ekv, q⟩ := q1
  cases r1 with
  | cons r rr =>
    obtain ⟨u, rfl, r'⟩ := vals1 rr
    cases r
    cases r'
    obtain ⟨us, rv, held, hz1⟩ := seqB I1 hqx
    obtain ⟨us', rv', held', hz2⟩ := seqB I1 hqy
    refine zip_begins2 (beginsB t1 a us.toArray) (beginsB t2 b us'.toArray) held held' fun h1 hz hTI hTO o1 o2 hsz hk => ?_
    have la := heldB_lt held
    have lb := heldB_lt held'
    refine Calls.spliced_nil ?_
    have sep := sep_new s1.heap.objs.size a b la lb
    have hk' : ∀ c o, s1.heap.get? c = some o → h1.get? c = some o := hk
    have ge : ∀ (j : Nat) c o, s1.heap.get? c = some o → c ≠ s1.heap.objs.size + j := fun j c o e1 => Nat.ne_of_lt (Nat.lt_of_lt_of_le (Heap.lt_size e1) (Nat.le_add_right _ _))
    have lz : s1.heap.objs.size + 4 < h1.objs.size := Heap.lt_size hz
    have hheld : heldB t1 h1 a us.toArray := by
      cases t1 with
      | false => exact Heap.IsList.at held fun o q => hk' _ o q
      | true => exact Heap.IsTuple.at held fun o q => hk' _ o q
    have hheld' : heldB t2 h1 b us'.toArray := by
      cases t2 with
      | false => exact Heap.IsList.at held' fun o q => hk' _ o q
      | true => exact Heap.IsTuple.at held' fun o q => hk' _ o q
    obtain ⟨prs, rK, lK, hK⟩ := pairs_kv (P := X.prog) (w := X.w) ekv (vals_zip rv rv')
    have lmin : min us.toArray.size us'.toArray.size = (us.zip us').length := by rw [List.length_zip, List.size_toArray, List.size_toArray]
    have ex : ∀ (tb : Bool) (it c : Addr) (vs : Array Value) (i : Nat) (h : Heap), onB tb h it c i ∧ heldB tb h c vs → ∀ b ∈ [it, c], ∃ o, h.get? b = some o := fun tb it c vs i h ⟨q1, q2⟩ b hb => by
      rcases List.mem_cons.mp hb with rfl | hb
      · obtain ⟨o, e, _⟩ := onB_obj q1; exact ⟨o, e⟩
      · rw [List.mem_singleton.mp hb]
        cases tb with
        | false => obtain ⟨o, e, _⟩ := q2; exact ⟨o, e⟩
        | true => obtain ⟨o, e, _⟩ := q2; exact ⟨o, e⟩
    have fr : ∀ (tb : Bool) (it c : Addr) (vs : Array Value) (i : Nat) (h h' : Heap), onB tb h it c i ∧ heldB tb h c vs → (∀ b ∈ [it, c], ∀ o, h.get? b = some o → h'.get? b = some o) → onB tb h' it c i ∧ heldB tb h' c vs := fun tb it c vs i h h' ⟨q1, q2⟩ k => ⟨onB_at q1 fun o e => k it (by simp) o e, by
      cases tb with
      | false => exact Heap.IsList.at q2 fun o e => k c (by simp) o e
      | true => exact Heap.IsTuple.at q2 fun o e => k c (by simp) o e⟩
    refine PySem.call_dict_pairs (s := { s1 with heap := h1 }) (knd := mixKind X.prog X.w) (kvs := prs) (arg_zk sep (fun A hA => drawsB t1 hA (Nat.ne_of_lt la) us.toArray) (fun A hA => drawsB t2 hA (Nat.ne_of_lt (Nat.lt_succ_of_lt lb)) us'.toArray) (fr t1 _ _ _) (fr t2 _ _ _) (ex t1 _ _ _) (ex t2 _ _ _)) (I1.ok.hd hc)
      ⟨hz, hTI, ⟨_, _, hTO⟩, ⟨onB_new o1, hheld⟩, ⟨onB_new o2, hheld'⟩⟩ ⟨by rw [lK, lmin], fun i k v hkv => ?_⟩ ?_ fun h' tk hd kp => ?_
    · refine hK i k v ?_
      rw [List.getElem?_zip_eq_some]
      exact ⟨by simpa using hkv.1, by simpa using hkv.2⟩
    · rw [List.size_toArray, List.size_toArray, ← rv.length]
      omega
    · have kp2 : ∀ c o, s1.heap.get? c = some o → h'.get? c = some o := fun c o e1 => kp c o (by
        simp only [List.mem_cons, List.not_mem_nil, or_false, not_or]
        exact ⟨ge 4 c o e1, ge 3 c o e1, ge 0 c o e1, ge 1 c o e1⟩) (hk' c o e1)
      have hle : s1.heap.objs.size ≤ h1.objs.size := Nat.le_of_lt (Nat.lt_of_le_of_lt (Nat.le_add_right _ 4) lz)
      have hzk : kvs.length ≤ sizeLine := by
        have := congrArg List.length ekv
        rw [List.length_map, List.length_zip] at this
        omega
      exact ⟨.ref h1.objs.size, _, lay_dict (s := s1) (h' := h') (tk := tk) I1 kp2 hle rK hzk hd, rfl, q _ (I1.hok.fresh hle)⟩
end
/-! ### dict(a list or a tuple of pairs) -/
theorem pick_list {α β : Type} : ∀ (l : List α) {F : Nat → α → β → Prop}, (∀ j q, l[j]? = some q → ∃ u, F j q u) → ∃ us : List β, us.length = l.length ∧ ∀ j q, l[j]? = some q → ∃ u, us[j]? = some u ∧ F j q u
  | [], _, _ => ⟨[], rfl, fun j q e => by simp at e⟩
  | x :: l, F, h => by
    obtain ⟨u, hu⟩ := h 0 x rfl
    obtain ⟨us, h1, h2⟩ := pick_list l (F := fun j q u => F (j + 1) q u) fun j q e => h (j + 1) q (by simpa using e)
    refine ⟨u :: us, by rw [List.length_cons, List.length_cons, h1], fun j q e => ?_⟩
    cases j with
    | zero => cases (Option.some.inj e : x = q); exact ⟨u, rfl, hu⟩
    | succ j => exact h2 j q (by simpa using e)
def rDseq (tb : Bool) (K : PySem.W.Frag) : List V → Hp → VK → Prop := fun xs H Q => ∃ (a : Addr) (ps : List Addr) (kvs : List (Key × V)), xs = [.ref a] ∧ SqB tb K H a (ps.map V.ref) ∧ (tb = true → tupAt K (.ref a) H) ∧ Paired (fun p kv => SqT K H p [kV kv.1, kv.2]) ps kvs ∧ ∀ p, H p = none → Q (.ref p) (upd H p (.dK (mergeK [] kvs)))
section
variable {X : Cx}
theorem call_dseq (tb : Bool) (hc : X.calm = true) : CallR X (.type "dict") (rDseq tb X.K) := by
  intro pins s σ H xs us Q I r q
  obtain ⟨a, ps, kvs, rfl, hq, hta, hp, q⟩ := q
  obtain ⟨u, rfl, rx⟩ := vals1 r
  cases rx
  obtain ⟨its, rv, held, hz⟩ := seqB I hq
  have ei := refs_at rv
  subst ei
  rw [List.length_map] at hz
  obtain ⟨prs, rel, hl, hpr⟩ := pairs_of I hp
  have hlk : kvs.length = ps.length := (paired_len hp).symm
  obtain ⟨us, lus, hus⟩ := pick_list prs (F := fun j q (z : Value × Value) => z.2 = q.2 ∧ (ps.map Value.ref).toArray[j]? = some (.ref (ps.getD j 0)) ∧ PairAt s.heap (ps.getD j 0) z.1 z.2 ∧ keyIs q.1 z.1 = true) fun j q e => by
    obtain ⟨b, u, e1, e2, e3⟩ := hpr j q e
    have eb : ps.getD j 0 = b := by rw [List.getD_eq_getElem?_getD, e1]; rfl
    refine ⟨(u, q.2), rfl, by rw [eb]; simp [e1], ?_, e3⟩
    rw [eb]
    exact .inl e2
  have pit : PairItems s.heap (ps.map Value.ref).toArray (fun j => ps.getD j 0) us := by
    refine ⟨by rw [List.size_toArray, List.length_map, lus, hl], fun j k v e => ?_⟩
    have hj : j < prs.length := by rw [← lus]; exact (List.getElem?_eq_some_iff.mp e).1
    obtain ⟨z, e1, _, e2, e3, _⟩ := hus j _ (List.getElem?_eq_getElem hj)
    rw [e] at e1
    cases e1
    exact ⟨e2, e3⟩
  have have_ : PairsHave (mixKind X.prog X.w) us.length (PairRel us) prs := ⟨lus.symm, fun i k v e => by
    have hj : i < prs.length := by rw [← lus]; exact (List.getElem?_eq_some_iff.mp e).1
    obtain ⟨z, e1, e0, _, _, e3⟩ := hus i _ (List.getElem?_eq_getElem hj)
    rw [show us[i]? = some (k, v) from e] at e1
    cases e1
    exact ⟨prs[i].1, by rw [List.getElem?_eq_getElem hj]; exact congrArg some (Prod.ext rfl e0.symm), e3⟩⟩
  have fin : ∀ h' tk, h'.DictOf (mixKind X.prog X.w) s.heap.objs.size (merged [] prs) → (∀ b o, b ∉ ([] : List Addr) → s.heap.get? b = some o → h'.get? b = some o) → ∃ v H', Inv X pins σ H' { s with heap := h', toks := tk } ∧ RelV v (.ref s.heap.objs.size) ∧ Q v H' := fun h' tk hd kp =>
    ⟨.ref s.heap.objs.size, _, lay_dict (tk := tk) I (fun b o e => kp b o (fun z => nomatch z) e) (Nat.le_refl _) rel (by rw [hlk]; exact hz) hd, rfl, q _ (I.hok.fresh (Nat.le_refl _))⟩
  have hsz : us.length ≤ sizeLine := by rw [lus, hl]; exact hz
  cases tb with
  | false =>
    obtain ⟨its2, rv2, pl, _⟩ := I.list hq
    have e2 := refs_at rv2
    subst e2
    obtain ⟨o, n, ho, hcl, hdn, hdat⟩ := pl
    exact PySem.call_dict_pairs (PairArg.list a _ _ us) (I.ok.hd hc) ⟨⟨o, n, ho, hcl, hdn, hdat⟩, pit⟩ have_ hsz fin
  | true =>
    obtain ⟨its2, rv2, ht, _⟩ := I.tuple hq
    have e2 := refs_at rv2
    subst e2
    obtain ⟨ob, hob, hdn⟩ := (tupAt_is I (x := .ref a) (v := .ref a) rfl (hta rfl)).2 a rfl
    obtain ⟨o2, ho, hcl, n, hdat⟩ := ht
    have eo : o2 = ob := Option.some.inj (ho.symm.trans hob)
    exact PySem.call_dict_pairs (PairArg.tuple a _ _ us) (I.ok.hd hc) ⟨⟨o2, n, ho, hcl, by rw [eo]; exact hdn, hdat⟩, pit⟩ have_ hsz fin
end
/-! ### mirrors -/
section
variable {X : Cx} {C : GC X.K} {a b : Expr} {ta tb te : TE} {ma mb me : ME} {p p2 pos pos2 : Pos}
theorem dp_key {S : Hp} {v : V} {k : Key} (h : Dp X.K S v (kD k)) : v = kV k := by
  cases k with
  | inl i => cases h; rfl
  | inr x => cases h; rfl
theorem zip_kvs {S : Hp} : ∀ {xs ys : List V} {ds es : List D} {kds : List (Key × D)}, DpAll X.K S xs ds → DpAll X.K S ys es → ds.zip es = kds.map (fun q => (kD q.1, q.2)) →
    ∃ kvs : List (Key × V), xs.zip ys = kvs.map (fun q => (kV q.1, q.2)) ∧ Paired (fun (p : Key × V) (q : Key × D) => p.1 = q.1 ∧ Dp X.K S p.2 q.2) kvs kds
  | _, _, _, _, kds, .nil, _, e => by
    cases kds with
    | nil => exact ⟨[], by simp, .nil⟩
    | cons _ _ => simp at e
  | _, _, _, _, kds, .cons _ _, .nil, e => by
    cases kds with
    | nil => exact ⟨[], by simp, .nil⟩
    | cons _ _ => simp at e
  | _, _, _, _, kds, .cons (v := x) h t, .cons (v := y) h' t', e => by
    cases kds with
    | nil => simp at e
    | cons q kds =>
      rw [List.zip_cons_cons, List.map_cons] at e
      obtain ⟨e1, e2⟩ := List.cons.inj e
      obtain ⟨kvs, h1, h2⟩ := zip_kvs t t' e2
      have k1 := congrArg Prod.fst e1
      have k2 := congrArg Prod.snd e1
      dsimp only at k1 k2
      refine ⟨(q.1, y) :: kvs, ?_, .cons ⟨rfl, by rw [← k2]; exact h'⟩ h2⟩
      rw [List.zip_cons_cons, List.map_cons, h1]
      rw [k1] at h
      rw [dp_key h]
def mDzip (b1 b2 : Bool) (ma mb : ME) : List Sl → (List (D × D) → Prop) → Prop := fun ρ P => ma ρ fun d => mb ρ fun e => ∃ ds es kds, itemsB b1 d = some ds ∧ itemsB b2 e = some es ∧ ds.zip es = kds.map (fun q : Key × D => (kD q.1, q.2)) ∧ P (putAll [] kds)
theorem new_dict {S H : Hp} {kvs : List (Key × V)} {kds : List (Key × D)} {p : Addr} (g : Good C.vol C.G S H) (hz : kvs.length ≤ sizeLine) (pr : Paired (fun (p : Key × V) (q : Key × D) => p.1 = q.1 ∧ Dp X.K S p.2 q.2) kvs kds) (hp : H p = none) :
    Stp C.vol S H S (upd H p (.dK (mergeK [] kvs))) ∧ Good C.vol C.G S (upd H p (.dK (mergeK [] kvs))) ∧ DcAt X.K S (upd H p (.dK (mergeK [] kvs))) p (putAll [] kds) ∧ S p = none ∧ ¬ C.vol p := by
  obtain ⟨g1, s1⟩ := g.newH C.gst hp (o := .dK (mergeK [] kvs)) (Nat.le_trans (length_mergeK kvs []) (by rw [List.length_nil, Nat.zero_add]; exact hz))
  exact ⟨s1, g1, ⟨_, upd_same, kvs_all pr .nil⟩, g.sub.free hp, fun v => g.vh p v hp⟩
/-- dict(zip(a, b)) -/
theorem o_dzip (b1 b2 : Bool) {K₁ : PySem.W.Frag} (hml : X.mg "dict" = none) (hm : X.mg "zip" = none) (h : PP X C a ta ma) (h' : PP X C b tb mb) (hc : X.calm = true := by rfl) (hgl : Gl X "dict" := by rfl) (hg : Gl X "zip" := by rfl)
    (hl : starEach [.Call (.Name "zip" p2) [a, b] [] pos2] X.env = (false, eval (.Call (.Name "zip" p2) [a, b] [] pos2) X.env) :: starEach [] X.env := by rfl) (hs : starEach [a, b] X.env = (false, eval a X.env) :: starEach [b] X.env := by rfl) (hs2 : starEach [b] X.env = (false, eval b X.env) :: starEach [] X.env := by rfl)
    (hpl : (backTo pos2 (starEach [b] X.env)).any (·.1) = false := by rfl) (hK₁ : X.K = K₁ := by first | exact blkK2 | exact blkK | exact rfl) :
    POd X C (.Call (.Name "dict" p) [.Call (.Name "zip" p2) [a, b] [] pos2] [] pos) (tDzip b1 b2 K₁ (tCons ta (tCons tb tNil))) (mDzip b1 b2 ma mb) := by
  subst hK₁
  refine ⟨pe_dzip b1 b2 hc hgl hml hg hm (pa_cons h.pe (pa_cons h'.pe pa_nil hs2) hs) hl hs hpl, fun S H σ ρ P Q rl hmm k => ?_⟩
  refine h.rd S H σ ρ _ _ rl hmm fun d S1 H1 v p1 s g r => ?_
  refine h'.rd S1 H1 σ ρ _ _ (rl.step s g) p1 fun e S2 H2 w p2 s2 g2 r2 => ?_
  obtain ⟨ds, es, kds, q, q', ez, p2⟩ := p2
  obtain ⟨l, vs, rfl, hs1, ha, hz, hl1⟩ := rep_seq g2 (r.mono s2.ss) q
  obtain ⟨l', vs', rfl, hs1', ha', hz', hl1'⟩ := rep_seq g2 r2 q'
  obtain ⟨kvs, e1, pr⟩ := zip_kvs ha ha' ez
  refine ⟨l, l', vs, vs', kvs, rfl, hs1.mono g2.sub, hs1'.mono g2.sub, e1, fun p hp => ?_⟩
  have hzk : kvs.length ≤ sizeLine := by
    have := congrArg List.length e1
    rw [List.length_map, List.length_zip] at this
    omega
  obtain ⟨s3, g3, dc, nS, nv⟩ := new_dict g2 hzk pr hp
  exact k _ S2 _ p p2 ((s.trans g s2).trans g2 s3) g3 dc nS (s.dm p (s2.dm p hp)) nv
theorem seq_kvs {S : Hp} : ∀ {vs : List V} {kds : List (Key × D)}, DpAll X.K S vs (kds.map fun q => .tuple [kD q.1, q.2]) →
    ∃ (ps : List Addr) (kvs : List (Key × V)), vs = ps.map V.ref ∧ Paired (fun p kv => SqT X.K S p [kV kv.1, kv.2]) ps kvs ∧ Paired (fun (p : Key × V) (q : Key × D) => p.1 = q.1 ∧ Dp X.K S p.2 q.2) kvs kds
  | _, [], h => by cases h; exact ⟨[], [], rfl, .nil, .nil⟩
  | _, q :: kds, h => by
    rw [List.map_cons] at h
    cases h with
    | cons h t =>
      obtain ⟨ps, kvs, e, h1, h2⟩ := seq_kvs t
      cases h with
      | tup hs ha =>
        cases ha with
        | cons a1 a2 =>
          cases a2 with
          | cons a2 a3 =>
            cases a3
            rename_i al _ _
            exact ⟨_ :: ps, (q.1, _) :: kvs, by rw [e]; rfl, .cons (by rw [← dp_key a1]; exact hs) h1, .cons ⟨rfl, a2⟩ h2⟩
def mDseq (b : Bool) (me : ME) : List Sl → (List (D × D) → Prop) → Prop := fun ρ P => me ρ fun d => ∃ kds, itemsB b d = some (kds.map fun q : Key × D => .tuple [kD q.1, q.2]) ∧ P (putAll [] kds)
/-- dict(a list or a tuple of pairs) -/
theorem o_dseq (tb : Bool) {K₁ : PySem.W.Frag} (hK : TupPl X.K) (hml : X.mg "dict" = none) (h : PP X C a te me) (hc : X.calm = true := by rfl) (hgl : Gl X "dict" := by rfl) (pl : CallPl X a [] pos := by exact ⟨rfl, rfl⟩) (hK₁ : X.K = K₁ := by first | exact blkK2 | exact blkK | exact rfl) :
    POd X C (.Call (.Name "dict" p) [a] [] pos) (tCB (rDseq tb K₁) (tCons te tNil)) (mDseq tb me) := by
  subst hK₁
  refine ⟨pe_callTy (call_dseq tb hc) hgl hml PyProof.Rows.boot_dict (pa_cons h.pe pa_nil pl.he) (he := pl.he) (hpl := pl.hpl), fun S H σ ρ P Q rl hmm k => ?_⟩
  refine h.rd S H σ ρ _ _ rl hmm fun d S1 H1 v p1 s g r => ?_
  obtain ⟨kds, q, p1⟩ := p1
  obtain ⟨l, vs, rfl, hs1, ha, hz, hl1⟩ := rep_seq g r q
  obtain ⟨ps, kvs, rfl, h1, h2⟩ := seq_kvs ha
  refine ⟨l, ps, kvs, rfl, hs1.mono g.sub, fun e => ?_, L2.Paired.mapP h1 fun _ _ z => SqT.mono g.sub z, fun p hp => ?_⟩
  · subst e
    have : ∃ ds, d = .tuple ds := by cases d <;> first | exact ⟨_, rfl⟩ | cases q
    obtain ⟨ds, rfl⟩ := this
    exact tupAt_of hK g (RepH.of g r)
  · have hzk : kvs.length ≤ sizeLine := by
      have e1 := paired_len h1
      rw [List.length_map] at hl1
      omega
    obtain ⟨s3, g3, dc, nS, nv⟩ := new_dict g hzk h2 hp
    exact k _ S1 _ p p1 (s.trans g s3) g3 dc nS (s.dm p hp) nv
end
end Pu

set_option Elab.async false
set_option linter.all false
set_option maxRecDepth 100000
set_option maxHeartbeats 4000000
/-! Pure readings: dicts of one's own, still written (keys ints and texts). -/
namespace Pu
open PySem PySem.Spec L2
open PyProof.Rows hiding St
/-- the own dict at an address holds kvs -/
def OdR (K : PySem.W.Frag) (kvs : List (D × D)) : Addr → Hp → HO → Prop := fun _ S u => ∃ es, u = .dK es ∧ KVs K S es kvs
theorem OdR.mono {K : PySem.W.Frag} {kvs : List (D × D)} {l : Addr} : ∀ S S' u, Same S S' → OdR K kvs l S u → OdR K kvs l S' u := fun S S' u e h => by
  obtain ⟨es, h1, h2⟩ := h
  exact ⟨es, h1, h2.mono e⟩
section
variable {X : Cx} {C : GC X.K} {a b e value value2 : Expr} {es : List Expr} {te tv tv2 : TE} {me mv mv2 : ME} {t : TA} {p p2 pos pos' pos2 : Pos}
theorem od_at {S H : Hp} {σ : L2.St} {ρ : List Sl} {i : Nat} {kvs : List (D × D)} (r : Rel C S H σ ρ) (e : gt ρ i = .ob (OdR X.K kvs)) : ∃ l es, NdefX.slotAt σ i = some (.ref l) ∧ H l = some (.dK es) ∧ KVs X.K S es kvs ∧ ¬ C.vol l := by
  have q := r.sl i
  rw [e] at q
  obtain ⟨l, u, e0, h1, h2, h3, h4, h5, h6, es, rfl, h8⟩ := q
  exact ⟨l, es, e0, h1, h8, h4⟩
/-- {} among new values -/
def mXod (K : PySem.W.Frag) (n : MX) : MX := fun ρ Q => n ρ fun ss => Q (.ob (OdR K []) :: ss)
theorem xa_od {K₁ : PySem.W.Frag} {m : MX} (hr : PX X C es t m) (hs : starEach (.Dict [] [] pos :: es) X.env = (false, eval (.Dict [] [] pos) X.env) :: starEach es X.env := by rfl) (hK₁ : X.K = K₁ := by first | exact blkK2 | exact blkK | exact rfl) :
    PX X C (.Dict [] [] pos :: es) (tCons tDNewK t) (mXod K₁ m) := by subst hK₁; exact ⟨pa_cons pe_dnewK hr.pe hs, by
  intro S H σ ρ P Q r hm k l hl
  have nv : ¬ C.vol l := fun v => r.good.vh l v hl
  obtain ⟨gA, sA⟩ := r.good.newH C.gst hl (o := .dK []) (Nat.zero_le _)
  refine hr.rd S _ σ ρ _ _ (r.step sA gA) hm fun ss S4 H4 vs p4 s4 g4 r4 ap => ?_
  have hH4 : H4 l = some (.dK []) := s4.hh l _ nv upd_same
  have nS : S4 l = none := s4.no (r.good.sub.free hl) upd_same
  have new : NewOk X.K C.vol H S4 H4 (.ref l) (.ob (OdR X.K [])) := ⟨l, _, rfl, hH4, nS, hl, nv, fun ps => nofun, OdR.mono, [], rfl, .nil⟩
  have away : ∀ (j : Nat) (s' : Sl), vs[j]? = some (.ref l) → ss[j]? = some s' → s'.own = true → False := fun j s' b1 b2 b3 => by
    have q := paired_at r4 b1 b2
    have hne : (upd H l (.dK [])) l ≠ none := by rw [upd_same]; exact nofun
    cases s' with
    | ow es =>
      obtain ⟨l', ws', e1, c1, c2, c3, c4, c5⟩ := q
      cases e1
      exact hne c3
    | ob R =>
      obtain ⟨l', u', e1, c1, c2, c3, c4, c5⟩ := q
      cases e1
      exact hne c3
    | od _ => exact q.elim
    | _ => cases b3
  refine k _ S4 H4 (.ref l :: vs) p4 (sA.trans gA s4) g4 (.cons new (paired_mono r4 fun _ _ z => z.back fun l nv q => sA.gone nv q)) fun i j v' s s' b1 b2 b3 b4 b5 b6 => ?_
  match i, j with
  | 0, 0 => rfl
  | 0, j + 1 =>
    simp at b1
    subst b1
    exact (away j s' (by simpa using b2) (by simpa using b4) b6).elim
  | i + 1, 0 =>
    simp at b2
    subst b2
    exact (away i s (by simpa using b1) (by simpa using b3) b5).elim
  | i + 1, j + 1 => exact congrArg (· + 1) (ap i j v' s s' (by simpa using b1) (by simpa using b2) (by simpa using b3) (by simpa using b4) b5 b6)⟩
/-- d[k] -/
def mOdget (K : PySem.W.Frag) (i : Nat) (mk : ME) : ME := fun ρ P => ∃ kvs, gt ρ i = .ob (OdR K kvs) ∧ mk ρ fun kd => ∃ key d, keyOf kd = some key ∧ lookD kvs key = some d ∧ P d
theorem p_odget {K₁ : PySem.W.Frag} (i : Nat) {x : Str} (hu : X.A.units + 1 < cLine) (hi : PP X C a te me) (hN : X.N[i]? = some x := by rfl) (hv : Vis X.env.scope x := by first | exact Or.inl rfl | exact Or.inr (Or.inl rfl) | exact Or.inr (Or.inr rfl)) (hd : (x == ("__debug__" : Str)) = false := by decide)
    (hcd : (x == ("__classdict__" : Str)) = false := by decide) (hs : NoSl a := by exact fun _ _ => rfl) (hK₁ : X.K = K₁ := by first | exact blkK2 | exact blkK | exact rfl) : PP X C (.Subscript (.Name x p) a pos) (tDGet (tVar i) te) (mOdget K₁ i me) := by subst hK₁; exact ⟨pe_dget hu (pe_var hN hv hd hcd) hi.pe hs, by
  intro S H σ ρ P Q rl hm k
  obtain ⟨kvs, hg, hm⟩ := hm
  obtain ⟨l, es, e1, h1, h2, h3⟩ := od_at rl hg
  refine ⟨.ref l, NdefX.slotAt_some e1, ?_⟩
  refine hi.rd S H σ ρ _ _ rl hm fun kd S2 H2 y p2 s2 g2 r2 => ?_
  obtain ⟨key, d, ek, hl, p2⟩ := p2
  obtain ⟨w, h4, h5⟩ := kvs_look h2 hl
  have ey : y = kV key := kV_key ek (r2.dp (by cases kd <;> first | rfl | cases ek))
  exact ⟨l, w, rfl, by rw [ey, ← h4]; exact DGet.k (s2.hh l _ h3 h1), k d S2 H2 w p2 s2 g2 (Rep.of (Dp.mono s2.ss h5))⟩⟩
theorem kvs_length {K : PySem.W.Frag} {S : Hp} {es : List (Key × V)} {kvs : List (D × D)} (h : KVs K S es kvs) : es.length = kvs.length := kvs_len h
/-- one write -/
theorem od_put {S H : Hp} {σ : L2.St} {ρ : List Sl} {i : Nat} {kvs : List (D × D)} {key : Key} {d : D} {v : V} (r : Rel C S H σ ρ) (e : gt ρ i = .ob (OdR X.K kvs)) (hv : Dp X.K S v d) (hz : kvs.length < sizeLine) : ∃ l, NdefX.slotAt σ i = some (.ref l) ∧ ∃ H', DPut H l (kV key) v H' ∧ Rel C S H' σ (ρ.set i (.ob (OdR X.K (putD kvs key d)))) := by
  obtain ⟨l, es, e1, h1, h2, h3⟩ := od_at r e
  have hl : es.length < sizeLine := by rw [kvs_length h2]; exact hz
  refine ⟨l, e1, _, DPut.k h1 hl, ?_⟩
  refine r.writeOb i e e1 h1 (fun c q => nofun) (fun ps => nofun) ?_ OdR.mono ⟨_, rfl, kvs_put h2 hv⟩
  show (putK es key v).length ≤ sizeLine
  have := length_putK es key v
  omega
/-- d[k] = v -/
def mOdput (K : PySem.W.Frag) (i : Nat) (mk mv : ME) : MS := fun ρ E => ∃ kvs, gt ρ i = .ob (OdR K kvs) ∧ mv ρ fun d => nd d (mk ρ fun kd => ∃ key, keyOf kd = some key ∧ kvs.length < sizeLine ∧ E.nx (ρ.set i (.ob (OdR K (putD kvs key d)))))
theorem x_odput {K₁ : PySem.W.Frag} (i : Nat) {x : Str} (hu : X.A.units + 1 < cLine) (hi : PP X C a te me) (hv : PP X C value tv mv) (hN : X.N[i]? = some x := by rfl) (hvs : Vis X.env.scope x := by first | exact Or.inl rfl | exact Or.inr (Or.inl rfl) | exact Or.inr (Or.inr rfl)) (hd : (x == ("__debug__" : Str)) = false := by decide)
    (hcd : (x == ("__classdict__" : Str)) = false := by decide) (hs : swapsWithSole [.Subscript (.Name x p) a pos'] value pos.line X.env = pure false := by rfl) (hw : swappedStores [.Subscript (.Name x p) a pos'] value X.env = pure none := by rfl) (h1 : (assignEach [.Subscript (.Name x p) a pos'] X.env).map (·.2) = [assign (.Subscript (.Name x p) a pos') X.env] := by rfl)
    (ha : ∀ v, assign (.Subscript (.Name x p) a pos') X.env v = (do
      let ov ← holding [v] (eval (.Name x p) X.env)
      let iv ← holding [v, ov] (eval a X.env)
      standAt pos'
      holding [v, ov, iv] (setItem ov iv v)
      release [v, ov, iv] []) := by intro _; rfl) (hK₁ : X.K = K₁ := by first | exact blkK2 | exact blkK | exact rfl) :
    PSt X C (.Assign [.Subscript (.Name x p) a pos'] value pos) (tAsg tv (gSub (tVar i) te rSetD)) (mOdput K₁ i me mv) := by
  subst hK₁
  refine ⟨ps_asg hv.pe (pg_sub (pe_var hN hvs hd hcd) hi.pe (set_dict hu) ha) hs hw h1, ?_⟩
  intro S H σ ρ E N rl hm k1 k2 k3 k4
  obtain ⟨kvs, hg, hm⟩ := hm
  refine hv.rd S H σ ρ _ _ rl hm fun d S1 H1 v p1 s1 g1 r1 => ?_
  obtain ⟨nd1, p1⟩ := nd_iff p1
  have rl1 := rl.step s1 g1
  obtain ⟨l, es, e1, _⟩ := od_at rl1 hg
  refine ⟨.ref l, NdefX.slotAt_some e1, ?_⟩
  refine hi.rd S1 H1 σ ρ _ _ rl1 p1 fun kd S2 H2 y p2 s2 g2 r2 => ?_
  obtain ⟨key, ek, hz, p2⟩ := p2
  have ey : y = kV key := kV_key ek (r2.dp (by cases kd <;> first | rfl | cases ek))
  obtain ⟨l', e2, H', hp, rl'⟩ := od_put (rl1.step s2 g2) hg (Dp.mono s2.ss (r1.dp nd1)) (key := key) hz
  rw [e1] at e2
  cases e2
  exact ⟨l, H', rfl, by rw [ey]; exact hp, k1 _ S2 H' σ p2 (s1.ss.trans s2.ss) rl'⟩
/-- d[k], e[j] = v, w -/
def mOdput2 (K : PySem.W.Frag) (i j : Nat) (mk mk2 mv mv2 : ME) : MS := fun ρ E => ∃ kvs kvs2, gt ρ i = .ob (OdR K kvs) ∧ gt (ρ.set i .un) j = .ob (OdR K kvs2) ∧ mv ρ fun d => nd d (mv2 ρ fun d2 => nd d2 (mk ρ fun kd => ∃ key, keyOf kd = some key ∧ kvs.length < sizeLine ∧
  mk2 (ρ.set i (.ob (OdR K (putD kvs key d)))) fun kd2 => ∃ key2, keyOf kd2 = some key2 ∧ kvs2.length < sizeLine ∧ E.nx ((ρ.set i (.ob (OdR K (putD kvs key d)))).set j (.ob (OdR K (putD kvs2 key2 d2))))))
theorem x_odput2 {K₁ : PySem.W.Frag} {b2 : Expr} {te2 : TE} {me2 : ME} {kt k2 : Nat} {p3 pos3 pt pt2 : Pos} (i j : Nat) {x y : Str} (hu : X.A.units + 1 < cLine) (hi : PP X C a te me) (hi2 : PP X C b2 te2 me2) (hv : PP X C value tv mv) (hv2 : PP X C value2 tv2 mv2) (hN : X.N[i]? = some x := by rfl) (hN2 : X.N[j]? = some y := by rfl)
    (hvs : Vis X.env.scope x := by first | exact Or.inl rfl | exact Or.inr (Or.inl rfl) | exact Or.inr (Or.inr rfl)) (hvs2 : Vis X.env.scope y := by first | exact Or.inl rfl | exact Or.inr (Or.inl rfl) | exact Or.inr (Or.inr rfl)) (hd : (x == ("__debug__" : Str)) = false := by decide) (hd2 : (y == ("__debug__" : Str)) = false := by decide)
    (hcd : (x == ("__classdict__" : Str)) = false := by decide) (hcd2 : (y == ("__classdict__" : Str)) = false := by decide)
    (hs : swapsWithSole [.Tuple [.Subscript (.Name x p) a pos', .Subscript (.Name y p3) b2 pos3] kt pt] (.Tuple [value, value2] k2 pt2) pos.line X.env = pure false := by rfl) (hw : swappedStores [.Tuple [.Subscript (.Name x p) a pos', .Subscript (.Name y p3) b2 pos3] kt pt] (.Tuple [value, value2] k2 pt2) X.env = pure none := by rfl)
    (h1 : (assignEach [.Tuple [.Subscript (.Name x p) a pos', .Subscript (.Name y p3) b2 pos3] kt pt] X.env).map (·.2) = [assign (.Tuple [.Subscript (.Name x p) a pos', .Subscript (.Name y p3) b2 pos3] kt pt) X.env] := by rfl) (hc : X.calm = true := by rfl)
    (hn : (assignEach [.Subscript (.Name x p) a pos', .Subscript (.Name y p3) b2 pos3] X.env).length = 2 := by rfl) (hst : (assignEach [.Subscript (.Name x p) a pos', .Subscript (.Name y p3) b2 pos3] X.env).findIdx? (·.1) = none := by rfl)
    (q1 : (assignEach [.Subscript (.Name x p) a pos', .Subscript (.Name y p3) b2 pos3] X.env).map (·.2) = assign (.Subscript (.Name x p) a pos') X.env :: (assignEach [.Subscript (.Name y p3) b2 pos3] X.env).map (·.2) := by rfl) (q2 : (assignEach [.Subscript (.Name y p3) b2 pos3] X.env).map (·.2) = assign (.Subscript (.Name y p3) b2 pos3) X.env :: (assignEach [] X.env).map (·.2) := by rfl)
    (ha : ∀ v, assign (.Subscript (.Name x p) a pos') X.env v = (do
      let ov ← holding [v] (eval (.Name x p) X.env)
      let iv ← holding [v, ov] (eval a X.env)
      standAt pos'
      holding [v, ov, iv] (setItem ov iv v)
      release [v, ov, iv] []) := by intro _; rfl)
    (ha2 : ∀ v, assign (.Subscript (.Name y p3) b2 pos3) X.env v = (do
      let ov ← holding [v] (eval (.Name y p3) X.env)
      let iv ← holding [v, ov] (eval b2 X.env)
      standAt pos3
      holding [v, ov, iv] (setItem ov iv v)
      release [v, ov, iv] []) := by intro _; rfl)
    (he1 : starEach [value, value2] X.env = (false, eval value X.env) :: starEach [value2] X.env := by rfl) (he2 : starEach [value2] X.env = (false, eval value2 X.env) :: starEach [] X.env := by rfl) (hK₁ : X.K = K₁ := by first | exact blkK2 | exact blkK | exact rfl) :
    PSt X C (.Assign [.Tuple [.Subscript (.Name x p) a pos', .Subscript (.Name y p3) b2 pos3] kt pt] (.Tuple [value, value2] k2 pt2) pos) (tAsg (tTup (tCons tv (tCons tv2 tNil))) (gTup K₁ 2 (gCons (gSub (tVar i) te rSetD) (gCons (gSub (tVar j) te2 rSetD) gNil)))) (mOdput2 K₁ i j me me2 mv mv2) := by
  subst hK₁
  refine ⟨ps_asg (pe_tup (pa_cons hv.pe (pa_cons hv2.pe pa_nil he2) he1)) (pg_tup hc (pgs_cons (pg_sub (pe_var hN hvs hd hcd) hi.pe (set_dict hu) ha) (pgs_cons (pg_sub (pe_var hN2 hvs2 hd2 hcd2) hi2.pe (set_dict hu) ha2) pgs_nil q2) q1) hn hst) hs hw h1, ?_⟩
  intro S H σ ρ E N rl hm k1 k2 k3 k4
  obtain ⟨kvs, kvs2, hg, hg2, hm⟩ := hm
  refine hv.rd S H σ ρ _ _ rl hm fun d S1 H1 v p1 s1 g1 r1 => ?_
  obtain ⟨nd1, p1⟩ := nd_iff p1
  have rl1 := rl.step s1 g1
  refine hv2.rd S1 H1 σ ρ _ _ rl1 p1 fun d2 S2 H2 w p2 s2 g2 r2 => ?_
  obtain ⟨nd2, p2⟩ := nd_iff p2
  have rl2 := rl1.step s2 g2
  refine ⟨show 2 ≤ sizeLine by decide, fun q hq => ?_⟩
  obtain ⟨g3, s3⟩ := g2.newH C.gst hq (o := .tup [v, w]) (show 2 ≤ sizeLine by decide)
  have rl3 := rl2.step s3 g3
  refine ⟨q, [v, w], rfl, .inl (.inl upd_same), rfl, v, [w], rfl, ?_⟩
  obtain ⟨l, es, e1, _⟩ := od_at rl3 hg
  refine ⟨.ref l, NdefX.slotAt_some e1, ?_⟩
  refine hi.rd S2 _ σ ρ _ _ rl3 p2 fun kd S4 H4 y1 p4 s4 g4 r4 => ?_
  obtain ⟨key, ek, hz, p4⟩ := p4
  have ey : y1 = kV key := kV_key ek (r4.dp (by cases kd <;> first | rfl | cases ek))
  have dv : Dp X.K S4 v d := Dp.mono s4.ss (Dp.mono s2.ss (r1.dp nd1))
  have dw : Dp X.K S4 w d2 := Dp.mono s4.ss (r2.dp nd2)
  obtain ⟨l', e2, H5, hp, rl5⟩ := od_put (rl3.step s4 g4) hg dv (key := key) hz
  rw [e1] at e2
  cases e2
  refine ⟨l, H5, rfl, by rw [ey]; exact hp, w, [], rfl, ?_⟩
  have hg2' : gt (ρ.set i (.ob (OdR X.K (putD kvs key d)))) j = .ob (OdR X.K kvs2) := by
    rw [gt_set] at hg2 ⊢
    split at hg2
    · cases hg2
    · rename_i h
      rw [if_neg h]
      exact hg2
  obtain ⟨l2, es2, f1, _⟩ := od_at rl5 hg2'
  refine ⟨.ref l2, NdefX.slotAt_some f1, ?_⟩
  refine hi2.rd S4 H5 σ _ _ _ rl5 p4 fun kd2 S6 H6 y2 p6 s6 g6 r6 => ?_
  obtain ⟨key2, ek2, hz2, p6⟩ := p6
  have ey2 : y2 = kV key2 := kV_key ek2 (r6.dp (by cases kd2 <;> first | rfl | cases ek2))
  obtain ⟨l3, f2, H7, hp2, rl7⟩ := od_put (rl5.step s6 g6) hg2' (Dp.mono s6.ss dw) (key := key2) hz2
  rw [f1] at f2
  cases f2
  exact ⟨l2, H7, rfl, by rw [ey2]; exact hp2, rfl, k1 _ S6 H7 σ p6 (s1.ss.trans (s2.ss.trans (s4.ss.trans s6.ss))) rl7⟩
end
end Pu

set_option Elab.async false
set_option linter.all false
set_option maxRecDepth 100000
set_option maxHeartbeats 2000000
/-! super().__init__(given); self.given = given: an own exception's __init__. -/
namespace L2
open PySem PySem.Spec PyProof.Rows
/-- what the written part says of such a class C, its __init__ at fI -/
structure SupC (P : Program) (K : PySem.W.Frag) (C fI : Addr) (F : NdefX.NF) (fd : FuncData) : Prop where
  o : OexC K C
  lk : ∃ oc od osl kV doc pm an ct, fd = PySem.W.fnX F.name F.qual F.params F.body F.scope F.cl .none kV doc pm an (.ref F.c) ct ∧ K.lookup fI = some ⟨oc, od, .func fd, osl⟩
  code : PySem.W.codeIn K (.ref F.c) F.qual = true
  cdl : ∃ ccl cdd cvs ccs file tf, K.lookup F.c = some ⟨ccl, cdd, .fields cvs, ccs⟩ ∧ cvs[2]? = some (.str file tf) ∧ ((P.main.file : Str) == file) = true
  cell : ∃ cc cl cld csl, F.cl = [(("__class__" : Str), cc)] ∧ K.lookup cc = some ⟨cl, cld, .cell (some (.ref C)), csl⟩
  sup : PySem.W.ks_superIn K C C "__init__" = some (some (.builtin "ValueError.__init__"))
  sub : PySem.W.subIn K (.ref C) (.type "ValueError") = some true
  own : PySem.W.mroIn K C (.ref C) = some true
  opq : PySem.W.nsIn K cStatics "thirdparty.any" = some none
  nog : PySem.W.findIn K (.ref C) "given" = some none
  top : (P.main.scope.names.lookup ("super" : Str)).isSome = false
def spInit (C : Addr) : Sp := fun vs H Q _ => ∃ a y, vs = [.ref a, y] ∧ H a = some (exo a C none) ∧ ∀ d, H d = none → d ≠ a → Q .non (upd (upd H d (exd d [("given", y)])) a (exo a C (some d)))
section
variable {P : Program} {w : World} {K : PySem.W.Frag} {mg : Str → Option Value} {base : Heap}
/-- super().__init__(..), the wrapper called -/
theorem omw_ok {X : Cx} {pins : List (Addr × Obj)} {σ : St} {H : Hp} {s : Shared} {a C u : Addr} {A : Around} {E : Value → Shared → Prop} {us : List Value} {Q : Value → Shared → Prop} (T : OexC X.K C) (I : Inv X pins σ H s) (e : H a = some (exo a C none)) (hu : s.heap.get? u = some (PySem.W.kxs_mw "ValueError.__init__" a)) (hl : us.length ≤ sizeLine)
    (h : ∀ s', Inv X pins σ H s' → Q .none s') : wpAny (model X.prog X.w) A (call (.ref u) us) Q E s := by
  obtain ⟨nm, q, N, bs, bm, sn, sub, ab, col, dd, k0, k1, k2, k3, k5, hC, hbm⟩ := T.cls
  obtain ⟨t1, ho⟩ := exo_at I.hok e
  obtain ⟨hp, g, d, t, os⟩ := s
  refine wpAny_call (codeAny_of_tree ?_)
  show wpAny _ A.in1 (callAny (.ref u) ⟨us, []⟩) _ _ _
  simp only [callAny]
  refine wpAny_bind (wpAny_load hu ?_)
  simp only [PySem.W.kxs_mw, show (Value.type "method-wrapper" == Value.type "method" || Value.type "method-wrapper" == Value.type "builtin_function_or_method" || Value.type "method-wrapper" == Value.type "method-wrapper") = true by decide, if_true]
  refine PySem.W.KFB.if_so (by decide) ?_
  refine wpAny_bind (PySem.W.check_bound_init F.excBase_ValueError.toExcCallFacts (I.kIn _ _ hC) ho rfl ?_)
  refine wpAny_bind (wpAny_pure (wpAny_pure ?_))
  refine ⟨plainId_quiet F.excBase_ValueError.init.plain _, codeAny_builtin F.excBase_ValueError.initEntry ?_⟩
  rw [Around.under_plainId F.excBase_ValueError.init.plain _]
  refine PySem.W.exc_init_tree (cls := .ref C) (t0 := t1) (dv := none) (c2 := .none) (c3 := .none) (b4 := .bool false) ho hl fun h' k hx ht => ?_
  have J := I.write (t' := t) (x := a) (e := a) (o := exo a C none) (by rw [e]; exact True.intro) (.inl rfl) k ⟨_, hx⟩ (exo_ok hx)
  have eu : upd H a (exo a C none) = H := by
    funext b
    by_cases hb : b = a
    · rw [hb, upd_same, e]
    · rw [upd_ne hb]
  rw [eu] at J
  exact h _ J
theorem sup_ok {C fI : Addr} {F : NdefX.NF} {fd : FuncData} {k : Nat} {p0 p1 p2 p3 p4 p5 p6 p7 p8 p9 : Pos} (T : SupC P K C fI F fd) (S : NdefX.NScope ["self", "given", "__class__"] ["self", "given"] ["__class__"] F.scope)
    (hks : F.scope.names.lookup ("super" : Str) = some .globalImplicit) (hpar : (F.params.posonlyargs ++ F.params.args).head?.map (·.arg) = some ("self" : Str)) (hms : mg ("super" : Str) = none)
    (hcall : ∀ L, ∃ pl, eval (.Call (.Attribute (.Call (.Name "super" p0) [] [] p1) "__init__" p2) [.Name "given" p3] [] p4) (NdefX.envF F fI L) = (do
      let ov ← attributeBase (.Call (.Name "super" p0) [] [] p1) "__init__" (NdefX.envF F fI L) (eval (.Call (.Name "super" p0) [] [] p1) (NdefX.envF F fI L))
      standAt p2.atName
      let (f, first) ← holding [ov] (getMethod ov "__init__" pl)
      callWith p4 f first (backTo p4 (starEach [.Name "given" p3] (NdefX.envF F fI L))) []))
    (hint : ∀ L, interactive (NdefX.envF F fI L) = false) (hsw : ∀ L, swapsWith (.Call (.Attribute (.Call (.Name "super" p0) [] [] p1) "__init__" p2) [.Name "given" p3] [] p4) none p5.line (NdefX.envF F fI L) = pure false)
    (hsw2 : ∀ L, swapsWith (.Name "given" p8) (some (.Attribute (.Name "self" p6) "given" p7)) p9.line (NdefX.envF F fI L) = pure false) (hst : ∀ L, starEach [.Name "given" p3] (NdefX.envF F fI L) = [(false, eval (.Name "given" p3) (NdefX.envF F fI L))])
    (hbody : F.body = [.Expr (.Call (.Attribute (.Call (.Name "super" p0) [] [] p1) "__init__" p2) [.Name "given" p3] [] p4) p5, .Assign [.Attribute (.Name "self" p6) "given" p7] (.Name "given" p8) p9]) :
    FnOk P w K mg base CX0 (k + 1) fI fd ["self", "given"] (spInit C) := by
  obtain ⟨oc, od, osl, kV, doc, pm, an, ct, rfl, lk⟩ := T.lk
  obtain ⟨cc, ccl, ccd, csl, hcl, hcc⟩ := T.cell
  obtain ⟨dcl, dcd, cvs, dcs, file, tf, hcda, hcvs, hfile⟩ := T.cdl
  refine ⟨fun vs H Q E h => by obtain ⟨a, y, rfl, _⟩ := h; rfl, fun A outer s H args us vs Q E hr e0 hbd r hsp => ?_⟩
  obtain ⟨a, y, rfl, ha, hq⟩ := hsp
  have KX : K.In s.heap := e0.mod.kin.keeps fun b o e => (e0.bs b o e).1
  have lim : s.heap.NoLimit := e0.mod.nolimit.keeps fun b o e => (e0.bs b o e).1
  have ccn : H cc = none := (e0.bs cc _ (e0.mod.kin _ _ hcc)).2
  obtain ⟨v0, u, rfl, r1, r2⟩ := vals2 r
  obtain rfl : v0 = Value.ref a := r1
  obtain ⟨ar, hp, har⟩ : ∃ ar, (F.params.posonlyargs ++ F.params.args).head? = some ar ∧ ar.arg = ("self" : Str) := by
    cases e : (F.params.posonlyargs ++ F.params.args).head? with
    | none => rw [e] at hpar; cases hpar
    | some ar => rw [e] at hpar; exact ⟨ar, rfl, Option.some.inj hpar⟩
  obtain ⟨cnm, cq, cN, cbs, cbm, csn, csub, cab, ccol, cdd, k0, k1, k2, k3, k5, hC, hbm⟩ := T.o.cls
  have hcls : ∃ cd, PySem.W.clsIn K C = some cd := ⟨_, by unfold PySem.W.clsIn; rw [hC] <;> rfl⟩
  obtain ⟨cd, hcd⟩ := hcls
  have hloc : ∀ z ∈ (["self", "given"] : List Str).zip [Value.ref a, u], F.scope.names.lookup z.1 = some .local := fun z hz => S.par _ (List.of_mem_zip (show (z.1, z.2) ∈ _ from hz)).1
  refine ks_codeAny_call_defAt (binds := (["self", "given"] : List Str).zip [Value.ref a, u]) hr.depth (KX _ _ lk) rfl lim (PySem.W.codeRec_of KX T.code) rfl hbd S.nocell hloc (fun h₁ hns kp => ?_) S.co S.gen S.kind
  have Cl : NdefX.CellsAt F.cl ["__class__"] [some (.ref C)] s.heap H := by
    rw [hcl]
    have one : ∀ z c, List.lookup z [(("__class__" : Str), cc)] = some c → z = "__class__" ∧ c = cc := fun z c h => by
      rw [List.lookup_cons] at h
      split at h
      · rename_i e
        cases h
        exact ⟨eq_of_beq e, rfl⟩
      · cases h
    refine ⟨rfl, fun z c h => ?_, fun x z c h1 h2 => (one _ _ h1).1.trans (one _ _ h2).1.symm, fun i z h => ?_⟩
    · obtain ⟨rfl, rfl⟩ := one z c h
      exact ⟨ccn, _, ⟨_, KX _ _ hcc, rfl⟩⟩
    · cases i with
      | zero =>
        cases h
        refine ⟨cc, rfl, fun v hv => ?_⟩
        cases hv
        exact ⟨.ref C, rfl, ⟨_, KX _ _ hcc, rfl⟩⟩
      | succ i => cases h
  have I : Inv (NdefX.ncx CX0 P w K mg base ["self", "given", "__class__"] F fI A outer s H E) [] (NdefX.startF ["self", "given", "__class__"] [.ref a, y] [some (.ref C)]) H { s with heap := h₁, toks := s.toks + ((["self", "given"] : List Str).zip [Value.ref a, u]).length } :=
    NdefX.inv_startN S hr.hd e0 rfl r Cl hns kp
  have K1 : K.In h₁ := KX.keeps kp
  obtain ⟨t1, ho⟩ := exo_at I.hok ha
  have hkd : F.scope.kind = .function := S.kind
  have hself : F.scope.names.lookup ("self" : Str) = some .local := S.par _ (by simp)
  have hkc : F.scope.names.lookup ("__class__" : Str) = some .free := S.frk _ (by simp)
  have hac : PySem.W.InstAt h₁ a { cls := .ref C, dict := none, data := .fields #[.ref t1, .none, .none, .none, .bool false, .none] } C none := ⟨ho, rfl, rfl, trivial⟩
  obtain ⟨mb, hb1, hb2⟩ := e0.mod.blt
  show PySem.wpAt (model P w) (A.deeper (NdefX.envF F fI s.heap.objs.size)) (.func F.body (NdefX.envF F fI s.heap.objs.size)) (execs F.body (NdefX.envF F fI s.heap.objs.size)) _ _ _
  generalize hFb : F.body = FB at *
  subst hbody
  obtain ⟨pl, hcall⟩ := hcall s.heap.objs.size
  refine ks_wpAt_execs_cons (ks_wpAt_Expr_any (hi := hint _) (hs := hsw _) (ks_wpAt_MethodCall (he := hcall) ?_))
  refine ks_wpAt_super_base (env := NdefX.envF F fI s.heap.objs.size) hks hkc (by decide) rfl (kp _ _ (KX _ _ lk)) rfl hp rfl (kp _ _ (KX _ _ hcda)) rfl hcvs hfile T.top ?_
  refine PySem.W.ks_loadName_global hkd hks (Calls.loadGlobal_builtin (env := NdefX.envF F fI s.heap.objs.size) (e0.mod.glob.keeps I.bk) hms (hb1.keeps I.bk) ((hb2 "super" (by decide)).trans (by rfl)) ⟨rfl, ?_⟩)
  refine wpAny_loadName_free hkd hkc (show F.cl.lookup ("__class__" : Str) = some cc by rw [hcl]; rfl) ⟨_, kp _ _ (KX _ _ hcc), rfl⟩ ?_
  rw [har]
  refine wpAny_loadName_local hkd hself hns (by rfl) ?_
  refine ks_wpAny_isType_cls (kp _ _ (KX _ _ hC)) rfl ⟨rfl, ?_⟩
  refine ks_wpAny_call_super (kp _ _ (KX _ _ hC)) rfl ho rfl (fun c e => by cases e) (PySem.W.looks_mroIn K1 T.own) (fun h2 e2 k2 => ?_)
  have I2 : Inv (NdefX.ncx CX0 P w K mg base ["self", "given", "__class__"] F fI A outer s H E) [] (NdefX.startF ["self", "given", "__class__"] [.ref a, y] [some (.ref C)]) H { s with heap := h2, toks := s.toks + ((["self", "given"] : List Str).zip [Value.ref a, u]).length } := I.kept k2
  have K2 : K.In h2 := K1.keeps k2
  have hac2 : PySem.W.InstAt h2 a { cls := .ref C, dict := none, data := .fields #[.ref t1, .none, .none, .none, .bool false, .none] } C none := ⟨k2 _ _ ho, rfl, rfl, trivial⟩
  have hsup := T.sup
  unfold PySem.W.ks_superIn at hsup
  rw [hcd] at hsup
  refine PySem.W.kxs_getMethod PySem.W.kxs_ValueError e2 (PySem.W.looks_opaque K2 T.opq) (l₀ := cd.mro) ?_ rfl K2 hsup (hac2.type.andThen (PySem.W.looks_subIn K2 T.sub)) (PySem.W.ks_ne K2 hac2 hcd) (by decide) ?_
  · exact fun A Q E s k q => wpAny_bind ((PySem.W.looks_clsIn K2 hcd) A _ E s k (wpAny_pure q))
  have k3 : ∀ b o, h2.get? b = some o → (h2.push (PySem.W.kxs_mw "ValueError.__init__" a)).get? b = some o := fun b o e => Heap.get?_push_of_some _ e
  have I3 : Inv (NdefX.ncx CX0 P w K mg base ["self", "given", "__class__"] F fI A outer s H E) [] (NdefX.startF ["self", "given", "__class__"] [.ref a, y] [some (.ref C)]) H { s with heap := h2.push (PySem.W.kxs_mw "ValueError.__init__" a), toks := s.toks + ((["self", "given"] : List Str).zip [Value.ref a, u]).length + 1 } := I2.kept k3
  have hmw : (h2.push (PySem.W.kxs_mw "ValueError.__init__" a)).get? h2.objs.size = some (PySem.W.kxs_mw "ValueError.__init__" a) := Heap.get?_push_size _ rfl
  have I4 : Inv (NdefX.ncx CX0 P w K mg base ["self", "given", "__class__"] F fI A outer s H E) [(h2.objs.size, PySem.W.kxs_mw "ValueError.__init__" a)] (NdefX.startF ["self", "given", "__class__"] [.ref a, y] [some (.ref C)]) H { s with heap := h2.push (PySem.W.kxs_mw "ValueError.__init__" a), toks := s.toks + ((["self", "given"] : List Str).zip [Value.ref a, u]).length + 1 } :=
    I3.pins_of fun p hp => by
      rw [List.mem_singleton] at hp
      subst hp
      refine ⟨hmw, I2.hok.fresh (Nat.le_refl _), ?_, I2.nofs (Nat.le_refl _), fun v e => by cases e⟩
      exact fun e => by
        have := I2.lt
        rw [← e] at this
        exact absurd this (Nat.lt_irrefl _)
  have vis : ∀ z ∈ (["self", "given"] : List Str), Vis (NdefX.ncx CX0 P w K mg base ["self", "given", "__class__"] F fI A outer s H E).env.scope z := fun z hz => .inl (S.par z hz)
  have pg : ∀ p, PE (NdefX.ncx CX0 P w K mg base ["self", "given", "__class__"] F fI A outer s H E) (.Name "given" p) (tVar 1) := fun p => pe_var (i := 1) rfl (vis _ (by simp))
  have ps : ∀ p, PE (NdefX.ncx CX0 P w K mg base ["self", "given", "__class__"] F fI A outer s H E) (.Name "self" p) (tVar 0) := fun p => pe_var (i := 0) rfl (vis _ (by simp))
  refine PySem.W.kxs_callWith (i := "ValueError.__init__") (x := a) (by rw [hst]; rfl) ?_
  have ar1 := (pa_cons (pg p3) pa_nil (hs := hst _)).run p4 _ _ _ _ (fun vs H' => vs = [y] ∧ H' = H) I4 ⟨y, rfl, rfl, rfl⟩
  rw [show starEach [.Name "given" p3] (NdefX.ncx CX0 P w K mg base ["self", "given", "__class__"] F fI A outer s H E).env = _ from hst _] at ar1
  rw [hst]
  refine PySem.Calls.evalArgs_plain (wpAny_mono ar1 (fun us s4 h4 => ?_) fun _ _ z => z)
  obtain ⟨vs, H', I5, rv, rfl, rfl⟩ := h4
  obtain ⟨u5, rfl, ru5⟩ := vals1 rv
  have hpin := (I5.pin _ (List.mem_append_right _ (List.mem_singleton.mpr rfl))).1
  refine ⟨hpin, omw_ok T.o I5 ha hpin (show 1 ≤ sizeLine by decide) fun s6 I6 => ?_⟩
  refine ks_wpAt_execs_cons (PySem.wpAt_of_wpAny ?_)
  have st := (ps_ost (f := "given") (ps p6) (pg p8) (p' := p7) (pos := p9) (hs := hsw2 _)).run _ _ _ _ { nx := fun _ H' => Q .non H', rt := Q } I6 ⟨y, rfl, .ref a, rfl, a, C, rfl, T.o, T.nog, .inl ⟨ha, fun dx g1 g2 => hq dx g1 g2⟩⟩
  refine wpAny_mono st (fun fl s7 h7 => ?_) fun _ _ z => z
  cases fl with
  | next =>
    obtain ⟨σ', H7, J, q⟩ := h7
    refine PySem.wpAt_of_wpAny (wpAny_execs_nil ?_)
    exact ⟨.non, H7, J.os, J.bare, J.base, J.hok, rfl, q⟩
  | ret u =>
    obtain ⟨v, σ', H7, J, rv, q⟩ := h7
    exact ⟨v, H7, J.os, J.bare, J.base, J.hok, rv, q⟩
  | brk =>
    obtain ⟨_, _, _, q⟩ := h7
    exact False.elim q
  | cont =>
    obtain ⟨_, _, _, q⟩ := h7
    exact False.elim q
end
end L2

set_option Elab.async false
set_option linter.all false
set_option maxRecDepth 100000
set_option maxHeartbeats 2000000
/-! Own exceptions with super().__init__(given): what the written part says, by a Bool; the hook that tells their __init__'s words, too. -/
namespace L2
open PySem PySem.Spec PyProof.Rows
theorem andB {a b : Bool} (h : (a && b) = true) : a = true ∧ b = true := by
  cases a <;> cases b <;> first | exact ⟨rfl, rfl⟩ | cases h
theorem excB_ok {K : PySem.W.Frag} {C : Addr} (h : excB K C = true) : ∃ nm q N bs bm sn sub ab col dd k0 k1 k2 k3 k5, K.lookup C = some (excClassObj nm q C N bs bm true sn sub ab col dd k0 k1 k2 k3 k5 "ValueError.__new__") ∧ PySem.HandSPX.refsVE bm = true := by
  unfold excB at h
  split at h
  · rename_i c dd cd sl ho
    obtain ⟨h0, g⟩ := andB h
    clear h
    obtain rfl := of_decide_eq_true h0
    clear h0
    split at g
    · rename_i C' bm k0 k1 k2 k3 n k5 hm hs
      obtain ⟨h1, g1⟩ := andB g
      obtain ⟨h2, g2⟩ := andB g1
      obtain ⟨h3, g3⟩ := andB g2
      obtain ⟨h4, h5⟩ := andB g3
      obtain rfl := of_decide_eq_true h1
      obtain rfl := of_decide_eq_true h2
      obtain ⟨nm, bs, mro, ns, qn, hd, sn, sub, ab, col, del⟩ := cd
      dsimp only at hm h3 h4
      subst hm
      have h3' : del = false := by cases del <;> first | rfl | cases h3
      subst h3' h4
      have hsl : sl = #[k0, k1, k2, k3, some (.builtin "ValueError.__new__"), k5] := by
        obtain ⟨l⟩ := sl
        simp only at hs
        rw [hs]
      subst hsl
      exact ⟨nm, qn, ns, bs, bm, sn, sub, ab, col, dd, k0, k1, k2, k3, k5, ho, h5⟩
    · cases g
  · cases h
def SupD.F (K : PySem.W.Frag) (d : SupD) : NdefX.NF := match K.lookup (iAd K d.x) with
  | some ⟨_, _, .func fd, _⟩ => ⟨"__init__", d.qual, d.params, d.body, d.scope, fd.closure, match fd.code with | .ref c => c | _ => 0⟩
  | _ => ⟨"__init__", d.qual, d.params, d.body, d.scope, [], 0⟩
theorem SupD.sup {P : Program} {K : PySem.W.Frag} {d : SupD} (e : fnC1 K d.x = d.val) (h : d.ok K P.main.file = true) (ht : (P.main.scope.names.lookup ("super" : Str)).isSome = false) :
    ∃ fd, SupC P K (He.ga K d.x) (iAd K d.x) (d.F K) fd ∧ PySem.W.findIn K (.ref (He.ga K d.x)) "__init__" = some (some (.ref (iAd K d.x))) ∧ PySem.W.typeIn K (.ref (iAd K d.x)) = some (.type "function") ∧ (d.F K).body = d.body ∧ (d.F K).scope = d.scope ∧ (d.F K).params = d.params ∧ (d.F K).qual = d.qual := by
  unfold SupD.ok at h
  obtain ⟨a1, h⟩ := andB h
  obtain ⟨a2, h⟩ := andB h
  obtain ⟨a3, h⟩ := andB h
  obtain ⟨a4, h⟩ := andB h
  obtain ⟨a5, h⟩ := andB h
  obtain ⟨a6, h⟩ := andB h
  obtain ⟨a7, h⟩ := andB h
  obtain ⟨a8, h⟩ := andB h
  obtain ⟨a9, h⟩ := andB h
  obtain ⟨a10, h⟩ := andB h
  obtain ⟨a11, h⟩ := andB h
  obtain ⟨a12, a13⟩ := andB h
  have T : OexC K (He.ga K d.x) := ⟨excB_ok a1, of_decide_eq_true a2, of_decide_eq_true a3, of_decide_eq_true a4, a5⟩
  unfold initB at a8
  unfold fnC1 at e
  unfold SupD.F
  cases q : K.lookup (iAd K d.x) with
  | none => rw [q] at e; cases e
  | some o =>
    obtain ⟨oc, od, dt, osl⟩ := o
    rw [q] at a8 e
    cases dt with
    | func fd =>
      obtain ⟨n1, n2, n3, n4, n5, n6, n7, n8, n9, n10, n11, n12, n13, n14, n15⟩ := fd
      have e2 : (some (n1, n2, n3, n4, n5, n6, n15) : FnC1) = some (("__init__" : Str), d.qual, d.params, FuncBody.stmts d.body, d.scope, mainGlobals, builtinsNs) := e
      simp only [Option.some.injEq, Prod.mk.injEq] at e2
      obtain ⟨h1, h2, h3, h4, h5, h6, h8⟩ := e2
      subst h1 h2 h3 h4 h5 h6 h8
      dsimp only at a8
      split at a8
      · rename_i c n cc
        obtain ⟨b1, a8⟩ := andB a8
        obtain ⟨b2, a8⟩ := andB a8
        obtain ⟨b3, b4⟩ := andB a8
        obtain rfl := of_decide_eq_true b1
        refine ⟨_, ⟨T, ⟨oc, od, osl, _, _, _, _, _, rfl, q⟩, b2, ?_, ?_, of_decide_eq_true a9, of_decide_eq_true a10, of_decide_eq_true a11, of_decide_eq_true a12, of_decide_eq_true a13, ht⟩, of_decide_eq_true a6, of_decide_eq_true a7, rfl, rfl, rfl, rfl⟩
        · split at b3
          · rename_i o1 o2 vs o3 hc
            split at b3
            · rename_i f tf hv
              exact ⟨_, _, vs, _, f, tf, hc, hv, b3⟩
            · cases b3
          · cases b3
        · split at b4
          · rename_i o1 o2 C' o3 hc
            obtain rfl := of_decide_eq_true b4
            exact ⟨cc, _, _, _, rfl, hc⟩
          · cases b4
      · cases a8
    | _ => cases e
end L2

set_option Elab.async false
set_option linter.all false
set_option maxRecDepth 100000
set_option maxHeartbeats 4000000
/-! Pure readings: defs that may raise, raise C(e), calls of such defs. -/
namespace Pu
open PySem PySem.Spec L2
open PyProof.Rows hiding St
abbrev gcX {K : PySem.W.Frag} (vol : Addr → Prop) (G : Hp → Prop) (gst : GSt vol G) (S0 H0 : Hp) (E : XK) (PX : Ex → Prop) (hE : ∀ x S' H' c od, PX x → Good vol G S' H' → Stp vol S0 H0 S' H' → XRep K S' H' x c od → E c od H') : GC K := ⟨vol, G, gst, S0, H0, E, PX, hE⟩
def bodyPhiX (N n : Nat) (m : (Ex → Prop) → MS) : Phi := fun as P PX => m PX (as ++ List.replicate (N - n) .un) ⟨fun _ => P .none, P, fun _ => False, fun _ => False⟩
section
variable {P : Program} {w : World} {K : PySem.W.Frag} {mg : Str → Option Value} {base : Heap} {x : Str} {st : Stmt} {dvs : List V} {f : Addr} {fd : FuncData} {N ps : List Str} {k : Nat} {vol : Addr → Prop} {G : Hp → Prop} {m : (Ex → Prop) → MS}
theorem fnDX (gst : GSt vol G) (F : FnP K x st dvs f fd) (sc : FnScope N ps (defScope st)) (hN : ps.length ≤ N.length)
    (hb : ∀ (cdv : Value) (A : Around) (outer : List Env) (s : Shared) (H S : Hp) (E : XK) (PX : Ex → Prop) (hE : ∀ x S' H' c od, PX x → Good vol G S' H' → Stp vol S H S' H' → XRep K S' H' x c od → E c od H'), Room k (A.deeper (envOfC x (defScope st) s.heap.objs.size f cdv)) →
      ∃ t, PSL (cxOf (L2.CX P w) P w K mg base N x (defScope st) f cdv A outer s H E) (gcX vol G gst S H E PX hE) (defBody st) t (m PX)) :
    FnOk P w K mg base (L2.CX P w) (k + 1) f fd ps (spG K vol G ps.length (bodyPhiX N.length ps.length m)) := by
  refine F.ok sc (fun vs H Q E h => ?_) (fun cdv A outer s H vs Q E hr h => ?_)
  · obtain ⟨S, as, P, PX, ln, ha, _⟩ := h
    rw [paired_len ha, ln]
  · obtain ⟨S, as, P, PX, ln, ha, g, hΦ, k1, k2⟩ := h
    obtain ⟨t, ht⟩ := hb cdv A outer s H S E PX (fun x S' H' c od p g' s' r => k2 x S' H' c od p s' g' r) hr
    refine ⟨t, ht.pe, ?_⟩
    refine ht.rd S H (L2.start N vs) _ _ _ (rel_start rfl rfl g ha ln hN) hΦ (fun ρ' S' H' σ' p _ r => ?_) (fun d S' H' v p g' s' q => k1 d S' H' v p s' g' q) (fun _ _ _ _ z => z.elim) (fun _ _ _ _ z => z.elim)
    exact k1 .none S' H' .non p r.stp r.good Dp.non
end
section
variable {X : Cx} {C : GC X.K} {e : Expr} {es : List Expr} {te : TE} {me : ME} {pos p pos' : Pos} {t : TA} {x : Str} {k n : Nat} {f : Addr} {fd : FuncData} {ps : List Str} {vol' : Addr → Prop} {G' : Hp → Prop} {Φ : Phi}
/-- raise x(e) -/
def mRaise (PX : Ex → Prop) (x : Str) (me : ME) : MS := fun ρ _ => me ρ fun d => nd d (PX (x, some ("given", d)))
theorem x_raise {fI : Addr} {F : NdefX.NF} (T : SupC X.prog X.K (He.ga X.K x) fI F fd) (iC : PySem.W.findIn X.K (.ref (He.ga X.K x)) "__init__" = some (some (.ref fI))) (tI : PySem.W.typeIn X.K (.ref fI) = some (.type "function"))
    (O : FnOk X.prog X.w X.K X.mg X.base CX0 k fI fd ["self", "given"] (spInit (He.ga X.K x))) (hb : Binds X.K fd ["self", "given"] []) (hr : Room (k + 1) X.A) (hm : X.mg x = some (.ref (He.ga X.K x))) (tk : Takes X (fun c d _ H => C.E c d H)) (ha : PP X C e te me)
    (hg : Gl X x := by rfl) (hdb : (x == ("__debug__" : Str)) = false := by decide) (hc : X.calm = true := by rfl) (he : starEach [e] X.env = (false, eval e X.env) :: starEach [] X.env := by rfl) (hpl : (backTo pos' (starEach [] X.env)).any (·.1) = false := by rfl) :
    PSt X C (.Raise (some (.Call (.Name x p) [e] [] pos')) none pos) (fun _ σ H => tMkO (He.ga X.K x) (spInit (He.ga X.K x)) [] (tCons te tNil) σ H fun cls d H' => C.E cls d H') (mRaise C.PX x me) := ⟨ps_raise hc tk (pmk_oex T.o iC tI O hr hb (dvs := []) .nil pass0 hg hm (pa_cons ha.pe pa_nil he) hdb he hpl), by
  intro S H σ ρ E N rl hm' k1 k2 k3 k4
  refine ha.rd S H σ ρ _ _ rl hm' fun d S1 H1 v p1 s1 g1 r1 => ?_
  obtain ⟨nd1, px⟩ := nd_iff p1
  refine ⟨show 1 ≤ 1000 by decide, fun a ha => ⟨a, v, rfl, upd_same, fun d' hd hda => ?_⟩⟩
  have hd1 : H1 d' = none := by rw [upd_ne hda] at hd; exact hd
  refine ⟨rfl, d', _, upd_same, (upd_ne hda).trans upd_same, hd1, ?_⟩
  have eH : upd (del (upd (upd (upd H1 a (exo a (He.ga X.K x) none)) d' (exd d' [(("given" : Str), v)])) a (exo a (He.ga X.K x) (some d'))) a) d' (.xd [(("given" : Str), v)]) = upd H1 d' (.xd [(("given" : Str), v)]) := by
    funext b
    by_cases hb : b = d'
    · rw [hb, upd_same, upd_same]
    · rw [upd_ne hb, upd_ne hb]
      by_cases hba : b = a
      · rw [hba, del_same, ha]
      · rw [del_ne hba, upd_ne hba, upd_ne hb, upd_ne hba]
  rw [eH]
  obtain ⟨g2, s2⟩ := g1.newH C.gst hd1 (o := .xd [(("given" : Str), v)]) True.intro
  exact C.hE (x, some ("given", d)) S1 _ _ _ px g2 ((rl.stp.trans rl.good s1).trans g1 s2) ⟨rfl, d', v, rfl, upd_same, r1⟩⟩
/-- f(..), f an own def that may raise -/
def mCallX (PX : Ex → Prop) (Φ : Phi) (m : MA) : ME := fun ρ P => m ρ fun as => Φ as P PX
theorem p_callX {m : MA} (F : FnOk X.prog X.w X.K X.mg X.base (L2.CX X.prog X.w) k f fd ps (spG X.K vol' G' n Φ)) (cp : Compat C.vol C.G vol' G') (hr : Room k X.A) (hm : X.mg x = some (.ref f)) (hk : PySem.W.keepIn X.K (.ref f) = true) (hb : Binds X.K fd ps []) (ha : PAn X C n (e :: es) t m) (tk : Takes X (fun c d _ H => C.E c d H)) (hg : Gl X x := by rfl)
    (hdb : (x == ("__debug__" : Str)) = false := by decide) (he : starEach (e :: es) X.env = (false, eval e X.env) :: starEach es X.env := by rfl) (hpl : (backTo pos (starEach es X.env)).any (·.1) = false := by rfl) :
    PP X C (.Call (.Name x p) (e :: es) [] pos) (tCall (spG X.K vol' G' n Φ) [] C.E t) (mCallX C.PX Φ m) := ⟨pe_call F hr hg hm hk hb .nil (passes_call tk fun _ _ _ _ h => h) ha.pe (hdb := hdb) (he := he) (hpl := hpl), by
  intro S H σ ρ P Q rl hm kk
  refine ha.rd S H σ ρ _ _ rl hm fun as S1 H1 vs p1 ln s1 g1 r1 => ?_
  refine ⟨S1, as, P, C.PX, ln, by rw [List.append_nil]; exact r1, cp.in_ _ _ g1, p1, fun d S' H' v pd s g q => ?_, fun x S' H' c od px s g xr => ?_⟩
  · obtain ⟨s2, g2⟩ := cp.out _ _ _ _ g1 s g
    exact kk d S' H' v pd (s1.trans g1 s2) g2 q
  · obtain ⟨s2, g2⟩ := cp.out _ _ _ _ g1 s g
    exact C.hE x S' H' c od px g2 ((rl.stp.trans rl.good s1).trans g1 s2) xr⟩
theorem passN {X : Cx} : Passes (L2.CX X.prog X.w) X E0 := passes_call (X := X) (W := fun _ _ _ _ => False) LamX.takes0 fun _ _ _ _ h => h
/-- f(..), f an own def that may raise, and does not here -/
theorem p_call0 {K₁ : PySem.W.Frag} {m : MA} (F : FnOk X.prog X.w X.K X.mg X.base (L2.CX X.prog X.w) k f fd ps (spG X.K vol' G' n Φ)) (cp : Compat C.vol C.G vol' G') (hr : Room k X.A) (hm : X.mg x = some (.ref f)) (hk : PySem.W.keepIn X.K (.ref f) = true) (hb : Binds X.K fd ps []) (ha : PAn X C n (e :: es) t m) (hg : Gl X x := by rfl)
    (hdb : (x == ("__debug__" : Str)) = false := by decide) (he : starEach (e :: es) X.env = (false, eval e X.env) :: starEach es X.env := by rfl) (hpl : (backTo pos (starEach es X.env)).any (·.1) = false := by rfl) (hK₁ : X.K = K₁ := by first | exact blkK2 | exact blkK | exact rfl) :
    PP X C (.Call (.Name x p) (e :: es) [] pos) (tCall (spG K₁ vol' G' n Φ) [] E0 t) (mCall Φ m) := by subst hK₁; exact ⟨pe_call F hr hg hm hk hb .nil passN ha.pe (hdb := hdb) (he := he) (hpl := hpl), rd_call cp ha.rd⟩
theorem p_callK0 {K₁ : PySem.W.Frag} {ks : List Str} {tk : TA} {m km : MA} {kws : List Keyword} (F : FnOk X.prog X.w X.K X.mg X.base (L2.CX X.prog X.w) k f fd ps (spG X.K vol' G' (n + ks.length) Φ)) (cp : Compat C.vol C.G vol' G') (hr : Room k X.A) (hm : X.mg x = some (.ref f)) (hk : PySem.W.keepIn X.K (.ref f) = true)
    (hb : KBn X.K fd ps n ks (fun us ws => us ++ ws) (fun vs zs => vs ++ zs)) (ha : PAn X C n (e :: es) t m) (hkw : PKn X C ks.length kws tk km) (hg : Gl X x := by rfl)
    (hall : (backToKw pos (keywordEach kws X.env)).all (·.1.isSome) = true := by rfl) (hks : (backToKw pos (keywordEach kws X.env)).filterMap (·.1) = ks := by rfl)
    (hdb : (x == ("__debug__" : Str)) = false := by decide) (he : starEach (e :: es) X.env = (false, eval e X.env) :: starEach es X.env := by rfl)
    (hpl : ((backTo pos (starEach (e :: es) X.env)).any (·.1) || (backToKw pos (keywordEach kws X.env)).any (·.1.isNone)) = false := by rfl) (hK₁ : X.K = K₁ := by first | exact blkK2 | exact blkK | exact rfl) :
    PP X C (.Call (.Name x p) (e :: es) kws pos) (tCallN n ks.length (spG K₁ vol' G' (n + ks.length) Φ) (fun vs zs => vs ++ zs) E0 t tk) (mCallK Φ m km) := by subst hK₁; exact (⟨pe_callN F hr hg hm hk hb passN ha.pe hkw.pe hall hks hdb he hpl, by
  intro S H σ ρ P Q rl hmm kk
  refine ha.rd S H σ ρ _ _ rl hmm fun as S1 H1 vs p1 ln s1 g1 r1 => ?_
  refine hkw.rd S1 H1 σ ρ _ _ (rl.step s1 g1) p1 fun bs S2 H2 zs p2 ln2 s2 g2 r2 => ?_
  have r1' : ArgsOk X.K S2 vs as := paired_mono r1 fun _ _ z => z.mono s2.ss
  refine ⟨by rw [paired_len r1, ln], by rw [paired_len r2, ln2], S2, as ++ bs, P, _, by rw [List.length_append, ln, ln2], args_app r1' r2, cp.in_ _ _ g2, p2, fun d S' H' v pd s g q => ?_, fun _ _ _ _ _ z => z.elim⟩
  obtain ⟨s3, g3⟩ := cp.out _ _ _ _ g2 s g
  exact kk d S' H' v pd ((s1.trans g1 s2).trans g2 s3) g3 q⟩)
end
end Pu

set_option Elab.async false
set_option linter.all false
set_option maxRecDepth 100000
set_option maxHeartbeats 4000000
/-! isinstance of a caught error that has a dict. -/
namespace PySem.W
open PySem PySem.Spec PySem.Calls PyProof.Rows
section
variable {prog : Program} {w : World} {A : Around} {E : Value → Shared → Prop} {s : Shared} {K : Frag} {x D : Addr} {ox : Obj} {od : Option Obj}
theorem px_findD {C : Addr} {name : Str} {a g : Value} (hc : (clsIn K C).isSome = true) (ha : findIn K (.ref C) name = some (some a)) (hg : specialIn K a "__get__" = some (some g)) (ht : takesIn K a = some true) : findObj K C od name = some (.bind g a) := by
  obtain ⟨cd, hc⟩ := Option.isSome_iff_exists.mp hc
  unfold findObj
  rw [hc, Option.bind_some, ha, Option.bind_some]
  simp [hg, ht]
theorem px_class {Q : Option Value → Shared → Prop} (T : L2.ExcC K D) (X : K.In s.heap) (I : InstAt s.heap x ox D od) (h : Q (some (.ref D)) { s with toks := s.toks + 1 }) : wpAny (model prog w) A (getAttr? (.ref x) "__class__") Q E s := by
  have hf : findObj K D od "__class__" = some (.bind (.builtin "getset_descriptor.__get__") (.builtin "object.__class__")) := px_findD (by obtain ⟨cd, hc, _⟩ := any_some T.hd; rw [hc]; rfl) T.ha T.hn T.ht
  obtain ⟨hp, g, d, t, os⟩ := s
  have L0 := I.type (M := model prog w)
  have L1 := looks_findIn (M := model prog w) X T.hg
  have L2 := looks_findIn (M := model prog w) X T.hk
  have L3 := looks_find (M := model prog w) X I hf
  have sub : Looks (model prog w) hp (isInstance (.ref x) (.type "BaseException")) true := L0.andThen (looks_subIn X T.hs)
  have ne : (Value.builtin "BaseException.__getattribute__" == Value.builtin "object.__getattribute__") = false := by decide +kernel
  have n1 : (onTheHeap (Value.ref D) && Value.builtin "BaseException.__getattribute__" == Value.builtin "object.__getattribute__") = false := by rw [ne]; rfl
  unfold getAttr? getAttrBy? getAttrBy
  refine wpAny_bind (wpAny_mkText (wpAny_bind (wpAny_attempt (wpAny_holding (wpAny_bind (L0.at (wpAny_bind (L1.at ?_))))))))
  show wpAny _ _ (if (onTheHeap (Value.ref D) && Value.builtin "BaseException.__getattribute__" == Value.builtin "object.__getattribute__") = true then _ else _) _ _ _
  rw [n1, if_neg Bool.false_ne_true]
  unfold getAttrByItsOwn hookBefore
  refine wpAny_bind ?_
  rw [if_pos (show onTheHeap (Value.ref D) = true from rfl)]
  refine L2.at ?_
  refine wpAny_bind (wpAny_attempt (wpAny_holding ?_))
  unfold callGetattribute
  rw [show (false && onTheHeap (Value.builtin "BaseException.__getattribute__")) = false from rfl, if_neg Bool.false_ne_true]
  unfold boundAndCalled
  rw [PySem.F.excAttr_ValueError.ga.bind (.ref x)]
  refine wpAny_bind (wpAny_pure ?_)
  show wpAny _ _ (call (.builtin "BaseException.__getattribute__") [.ref x, .str "__class__" t]) _ _ _
  refine wpAny_call (codeAny_call_builtin PySem.F.excAttr_ValueError.ga.plain PySem.F.entry_bexc_ga ?_)
  refine @check_slot (model prog w) _ _ ⟨hp, g, d, t + 1, os⟩ "BaseException.__getattribute__" "BaseException" "__getattribute__" (.ref x) [.str "__class__" t] [] _ (by decide +kernel) (by decide +kernel) sub (PySem.F.args_bexc_ga (.ref x) (.str "__class__" t)) ?_
  unfold Builtin.«object.__getattribute__»
  refine wpAny_bind (wpAny_of_eq (a := ((Value.ref x : Value), [Value.str "__class__" t])) (by first | rfl | (simp only [slotArgs]; rfl)) ?_)
  refine wpAny_bind (wpAny_pure (wpAny_bind (L0.at (wpAny_bind (L3.at ?_)))))
  show wpAny _ _ (holding [Value.builtin "object.__class__"] (call (.builtin "getset_descriptor.__get__") [.builtin "object.__class__", .ref x, .ref D]) >>= ret) _ _ _
  refine wpAny_bind (wpAny_holding (wpAny_call (class_get (s := ⟨hp, g, d, t + 1, os⟩) (ox := ox) (od := od) X I T.hm ?_)))
  refine wpAny_pure ?_
  show wpAny _ _ (handedOut (.ref D)) _ _ _
  rw [handedOut_of (v := .ref D) rfl]
  first
    | exact wpAny_pure (wpAny_pure h)
    | exact wpAny_pure h
    | exact wpAny_pure (wpAny_bind (wpAny_pure (wpAny_pure h)))
theorem px_kitx (T : L2.ExcC K D) : KitX K (.ref x) (.ref D) (fun h => InstAt h x ox D od) where
  ty := fun _ _ _ I => I.type
  it := fun _ _ X _ => by
    obtain ⟨cdD, hcD, _⟩ := any_some T.hd
    unfold clsIn at hcD
    split at hcD
    · rename_i c' d' cd' sl' ho
      intro A' Q' E' s' k q
      unfold isType loadHead
      exact wpAny_bind (wpAny_loadPart (k _ _ (X _ _ ho)) (wpAny_pure q))
    · cases hcD
  ne := fun h tp dd its n sl X htp => by
    obtain ⟨cdD, hcD, _⟩ := any_some T.hd
    refine Bool.eq_false_iff.mpr fun q => ?_
    have e : D = tp := Value.ref.inj (beq_iff_eq.mp q)
    subst e
    unfold clsIn at hcD
    split at hcD
    · rename_i c' d' cd' sl' ho
      have z := (X _ _ ho).symm.trans htp
      cases z
    · cases hcD
  ca := fun X I k => px_class T X I k
end
end PySem.W
namespace L2
open PySem PySem.Spec PyProof.Rows
/-- isinstance(e, c), e the exception that the suite holds, dd its dict -/
def rIsX (K : PySem.W.Frag) (D a dd : Addr) : List V → Hp → VK → Prop := fun xs H Q => ∃ (c : V) (cv : Value) (b : Bool) (fs : List (Str × V)), xs = [.ref a, c] ∧ (∀ u, RelV c u → u = cv) ∧ PySem.W.kitOne K (.ref D) cv = some b ∧ H dd = some (.xd fs) ∧ Q (.bl b) H
theorem call_isX {X : Cx} {a D dd : Addr} {oe : Obj} {pn : List (Addr × Obj)} (C : ExcC X.K D) (hz : Zc (.ref D) (some dd) oe) (hf : ∃ vs, oe.data = .fields vs) : CallR (X.suite a ((a, oe) :: pn)) (.builtin "isinstance") (rIsX X.K D a dd) := by
  intro pins s σ H xs us Q I r h
  obtain ⟨c, cv, b, fs, rfl, hcv, e, hdd, q⟩ := h
  cases r with
  | cons rx rr =>
    cases rr with
    | cons rt rr =>
      cases rr
      cases rx
      have ec := hcv _ rt
      subst ec
      obtain ⟨hget, _⟩ := I.pin (a, oe) (List.mem_append.mpr (.inl List.mem_cons_self))
      obtain ⟨vs, hv⟩ := hf
      have hx : ObjOk X.prog X.w H s.heap dd (.xd fs) := I.hok dd _ hdd
      obtain ⟨mA, hns, hr⟩ := hx
      obtain ⟨od, ho, hl⟩ := lookIn_ns hns
      have J : PySem.W.InstAt s.heap a oe D (some od) := ⟨hget, hz.1, by unfold PySem.W.notCls; rw [hv] <;> rfl, by rw [hz.2]; exact ho⟩
      exact PySem.W.kia_one (PySem.W.px_kitx C) I.kIn J e (fun z => nomatch z) fun tk => ⟨.bl b, H, I.kept (t' := tk) fun _ _ z => z, rfl, q⟩
end L2

set_option Elab.async false
set_option linter.all false
set_option maxRecDepth 100000
set_option maxHeartbeats 4000000
/-! try: act() / except x as e: return e.given if isinstance(e, C) and isinstance(e, ValueError) else None / return None, act a lambda. -/
namespace LamX
open PySem PySem.Spec PyProof.Rows L2
def TTref (OB : Addr) : (XK → Hp → VK → Prop) → Hp → VK → Prop := fun tl H Q =>
  tl (fun cls d H' => ∃ dd v, cls = .ref OB ∧ d = some dd ∧ H' dd = some (.xd [(("given" : Str), v)]) ∧ Q v H') H (fun _ H' => Q .non H')
/-- what the class must say -/
structure RefC (K : PySem.W.Frag) (CS OB : Addr) : Prop where
  c : ExcC K OB
  f : XfC K OB
  no : PySem.W.findIn K (.ref OB) "given" = some none
  ex : PySem.W.exmOne K (.ref OB) (.ref CS) = some true
  i1 : PySem.W.kitOne K (.ref OB) (.ref OB) = some true
  i2 : PySem.W.kitOne K (.ref OB) (.type "ValueError") = some true
section
variable {X : Cx}
theorem ref_gives {Ng : List Str} {x a ce ob q : Str} {sg : Scope} {g CS OB : Addr} {cdg : Value} {p1 p2 p3 p4 p5 p6 p7 p8 p9 pa pb pc pd pe pf pg ph pi pj pk pl pm : Pos} {j j2 : Nat} (T : RefC X.K CS OB) (hge : sg.names.lookup ce = some .globalImplicit) (hme : X.mg ce = some (.ref CS)) (hde : (ce == ("__debug__" : Str)) = false)
    (hgo : sg.names.lookup ob = some .globalImplicit) (hmo : X.mg ob = some (.ref OB)) (hdo : (ob == ("__debug__" : Str)) = false) (hgi : sg.names.lookup ("isinstance" : Str) = some .globalImplicit) (hmi : X.mg ("isinstance" : Str) = none) (hgv : sg.names.lookup ("ValueError" : Str) = some .globalImplicit) (hmv : X.mg ("ValueError" : Str) = none)
    (hle : sg.names.lookup ("e" : Str) = some .local) (hN : Ng = [a, "e"]) (hNd : Ng.Nodup) (hat : ∀ env : Env, attributeBase (.Name "e" pd) "given" env (eval (.Name "e" pd) env) = eval (.Name "e" pd) env) :
    GivesTo X Ng x sg g cdg [.Try [.Expr (.Call (.Name a p1) [] [] p2) p3] [.ExceptHandler (some (.Name ce p4)) (some "e") [.Return (some (.IfExp (.BoolOp .And [.Call (.Name "isinstance" p5) [.Name "e" p6, .Name ob p7] [] p8, .Call (.Name "isinstance" p9) [.Name "e" pa, .Name "ValueError" pb] [] pc] pe) (.Attribute (.Name "e" pd) "given" pf) (.Constant .none j pg) ph)) pi] pj] [] [] pk, .Return (some (.Constant .none j2 pl)) pm] a q (TTref OB) := by
  intro f c' s H Q tl act hc h
  subst hN
  have h0 : (L2.start [a, "e"] [V.ref f])[0]? = some (some (V.ref f)) := rfl
  refine ⟨_, pss_cons (ps_try_as (X := (cxOf C8.CX0 X.prog X.w X.K X.mg X.base [a, "e"] x sg g cdg X.A X.stack s H C8.E0).nox) (c := .ref CS) (i := 1)
      (tb := fun W D σ H => ∃ Ech : XK, (∀ cls d σ' H', Ech cls d H' → W cls d σ' H') ∧ σ[0]? = some (some (.ref f)) ∧ H c' = some (CodeO c' q) ∧ tl Ech H (fun _ H' => D.nx σ H'))
      (ts := fun a' cls d D σ H => ∃ dd v, cls = .ref OB ∧ d = some dd ∧ H dd = some (.xd [(("given" : Str), v)]) ∧ (1 < σ.length → σ[1]? = some (some (.ref a'))) ∧ D.rt v H)
      rfl rfl hNd rfl hle ⟨hge, hde, .inl hme⟩ takes0 (fun W pn xe tk _ => ?_) (fun a' oe cls d pn hz hf => ?_)) (pss_one (ps_ret pe_non)), ?_⟩
  · refine ⟨fun pins s' σ H' D I h' => ?_⟩
    obtain ⟨Ech, hW, h1, h2, h3⟩ := h'
    have hp := act W pn xe Ech p1 p2 tk hW
    have hq := pss_one (ps_expr (pos := p3) hp)
    exact hq.run pins s' σ H' D I ⟨h1, h2, h3⟩
  · refine ⟨fun pins s' σ H' D I h' => ?_⟩
    obtain ⟨dd, v, rfl, rfl, hdd, hs, hD⟩ := h'
    have hs := hs (by rw [I.len]; show 1 < 2; decide)
    have ev : ∀ p, PE ((cxOf C8.CX0 X.prog X.w X.K X.mg X.base [a, "e"] x sg g cdg X.A X.stack s H C8.E0).nox.suite a' ((a', oe) :: pn)) (.Name "e" p) (tVar 1) := fun p => pe_var (i := 1) rfl (.inl hle)
    have go : ∀ p, PE ((cxOf C8.CX0 X.prog X.w X.K X.mg X.base [a, "e"] x sg g cdg X.A X.stack s H C8.E0).nox.suite a' ((a', oe) :: pn)) (.Name ob p) (tC (.ref OB)) := fun p => pe_glob (v := .ref OB) hgo hmo rfl hdo
    have gv : ∀ p, PE ((cxOf C8.CX0 X.prog X.w X.K X.mg X.base [a, "e"] x sg g cdg X.A X.stack s H C8.E0).nox.suite a' ((a', oe) :: pn)) (.Name "ValueError" p) (tC (.ty "ValueError")) := fun p => pe_bltn (v := .ty "ValueError") hgv hmv PyProof.Rows.Boot.«ValueError» rfl
    have is1 := pe_callB (pos := p8) (p := p5) (call_isX (X := (cxOf C8.CX0 X.prog X.w X.K X.mg X.base [a, "e"] x sg g cdg X.A X.stack s H C8.E0).nox) (a := a') (pn := pn) T.c hz hf) hgi hmi PyProof.Rows.boot_isinstance (pa_cons (ev p6) (pa_cons (go p7) pa_nil))
    have is2 := pe_callB (pos := pc) (p := p9) (call_isX (X := (cxOf C8.CX0 X.prog X.w X.K X.mg X.base [a, "e"] x sg g cdg X.A X.stack s H C8.E0).nox) (a := a') (pn := pn) T.c hz hf) hgi hmi PyProof.Rows.boot_isinstance (pa_cons (ev pa) (pa_cons (gv pb) pa_nil))
    have at_ := pe_xf (X := (cxOf C8.CX0 X.prog X.w X.K X.mg X.base [a, "e"] x sg g cdg X.A X.stack s H C8.E0).nox) (a := a') (pn := pn) (pos := pf) (n := "given") T.f T.no hz hf (ev pd) (hb := hat _)
    have st := pss_one (ps_ret (pos := pi) (pe_ifExp (pos := ph) (pw_and (pos := pe) (pt_val is1) (pw_and1 (pt_val is2))).pt at_ (pe_non (j := j) (pos := pg))))
    refine st.run pins s' σ H' D I ?_
    refine ⟨_, hs, .ref OB, .ref OB, true, _, rfl, fun u hu => hu, T.i1, hdd, true, rfl, ?_⟩
    dsimp only
    rw [if_pos rfl]
    refine ⟨_, hs, .ty "ValueError", .type "ValueError", true, _, rfl, fun u hu => hu, T.i2, hdd, true, rfl, ?_⟩
    dsimp only
    rw [if_pos rfl]
    exact ⟨_, hs, rfl, rfl, dd, _, v, rfl, hdd, rfl, hD⟩
  · refine ⟨fun cls d H' => ∃ dd v, cls = .ref OB ∧ d = some dd ∧ H' dd = some (.xd [(("given" : Str), v)]) ∧ Q v H', fun cls d σ' H' e => ?_, h0, hc, h⟩
    obtain ⟨dd, v, rfl, rfl, hdd, hQ⟩ := e
    refine ⟨true, T.ex, fun _ a' ha' => ⟨dd, v, rfl, rfl, hdd, fun hl => ?_, hQ⟩, fun e => by cases e⟩
    rw [List.length_set] at hl
    rw [List.getElem?_set_self hl]
end
end LamX

set_option Elab.async false
set_option linter.all false
set_option maxRecDepth 100000
set_option maxHeartbeats 4000000
/-! x(lambda: body): a call that hands a lambda over, told with what is kept. -/
namespace LamX
open PySem PySem.Spec PyProof.Rows L2
section
variable {X : Cx} {pins : List (Addr × Obj)} {σ : L2.St} {H : Hp} {s : Shared}
/-- the lambda is made; nothing vanishes -/
theorem lam_make3 {T : List (Addr × Str)} {c P : Addr} {params : Arguments} {body : Expr} {scope : Scope} {pos : Pos} {E : Value → Shared → Prop} {Q : Value → Shared → Prop} (I : Inv X pins σ H s) (TB : TabB X.base X.mg c P) (hcode : X.env.code = .ref c)
    (hm : (P, X.env.qual ++ "<lambda>") ∈ T) (hu : ∀ p ∈ T, p.1 = P → p.2 = X.env.qual ++ "<lambda>") (hT : Tabs T H) (hdef : defaultsOf params X.env = ([], [])) (hfree : ∀ y ∈ scope.names, y.2 = .free → ∃ c, X.env.cells.lookup y.1 = some c)
    (h : ∀ (f c' : Addr) (pm ctv : Value) (H1 : Hp) (s' : Shared), Inv X pins σ H1 s' → ExtN H H1 → (∀ b, H1 b = none → H b = none) → Tabs T H1 →
      s'.heap.get? f = some (PySem.W.kla_obj "<lambda>" (X.env.qual ++ "<lambda>") params body scope (cloFrom X.env.cells scope.names []) pm c' ctv) → H1 f = none → f ∉ frs X.stack → H1 c' = some (CodeO c' (X.env.qual ++ "<lambda>")) → Q (.ref f) s') :
    wpAny (model X.prog X.w) X.A (eval (.Lambda params body scope pos) X.env) Q E s := by
  obtain ⟨ps, hP, ht, ha⟩ := hT _ hm
  refine PySem.W.kla_eval hdef ?_
  have bP : s.heap.BuiltinsAt X.mg P := TB.bm.keeps I.bk
  have hP' : s.heap.get? P = some { cls := .none, data := .fields ps } := I.hok P _ hP
  have nofr : ∀ f, s.heap.objs.size ≤ f → f ∉ frs X.stack := fun f hf z => by
    rcases List.mem_cons.mp (I.stkSub _ z) with e | e
    · have h1 := I.lt
      rw [← e] at h1
      exact Nat.lt_irrefl _ (Nat.lt_of_lt_of_le h1 hf)
    · exact I.nofs hf e
  cases hc : codeAmong pos ps.toList with
  | none =>
    refine PySem.W.kla_makeFunction (mg := X.mg) (c := c) (P := P) (ps := ps) (closure_ok hfree) I.ok.glob (I.mod.glob.keeps I.bk) hcode (TB.code.keeps I.bk) hP' ht hc TB.gP bP fun c' ctv h' tk hx hge hlt hrec htb => ?_
    obtain ⟨c2, oc, vs, t, e2, hoc, hd, hv⟩ := hrec
    cases e2
    have hsz : s.heap.objs.size ≤ h'.objs.size := Nat.le_trans hge (Nat.le_of_lt hlt)
    have nC : H c' = none := I.hok.fresh hge
    have I1 := inv_table (t' := tk) (more := #[rawInt pos.line, rawInt pos.col, .ref c']) (h' := h'.push (PySem.W.kla_obj "<lambda>" (X.env.qual ++ "<lambda>") params body scope (cloFrom X.env.cells scope.names []) ((X.mg "__name__").getD .none) c' ctv)) I hP
      (fun b o hb e => Heap.get?_push_of_some _ (hx b o hb e)) (Heap.get?_push_of_some _ htb) hge ⟨oc, vs, t, Heap.get?_push_of_some _ hoc, hd, hv⟩
    have hE : ExtN H (upd (upd H P (.tbl (ps ++ #[rawInt pos.line, rawInt pos.col, .ref c']))) c' (CodeO c' (X.env.qual ++ "<lambda>"))) := fun b o e n => by
      rw [upd_ne (ne_of_none e nC), upd_ne (fun z => n ps (Option.some.inj (e.symm.trans (by rw [z]; exact hP))))]
      exact e
    have eL : (ps ++ #[rawInt pos.line, rawInt pos.col, .ref c']).toList = ps.toList ++ [rawInt pos.line, rawInt pos.col, .ref c'] := by simp
    refine h h'.objs.size c' ((X.mg "__name__").getD .none) ctv _ _ I1 hE (fun b e => NdefX.upd_none (NdefX.upd_none e)) (fun p hp => ?_) (Heap.get?_push_size _ rfl) ?_ (nofr _ hsz) upd_same
    · by_cases hb : p.1 = P
      · rw [hu p hp hb, hb]
        refine ⟨_, by rw [upd_ne (ne_of_none hP nC), upd_same], by rw [eL]; exact PySem.TriplesOk_snoc _ _ _ _ ht, fun p' cv hcv => ?_⟩
        rw [eL] at hcv
        rcases among_app _ ht hcv with z | z
        · obtain ⟨c0, e1, e2⟩ := ha p' cv z
          exact ⟨c0, e1, hE _ _ e2 codeO_ne⟩
        · exact ⟨c', z, upd_same⟩
      · obtain ⟨ps', a1, a2, a3⟩ := hT p hp
        refine ⟨ps', by rw [upd_ne (ne_of_none a1 nC), upd_ne hb]; exact a1, a2, fun p' cv hcv => ?_⟩
        obtain ⟨c0, e1, e2⟩ := a3 p' cv hcv
        exact ⟨c0, e1, hE _ _ e2 codeO_ne⟩
    · have n1 : h'.objs.size ≠ c' := Nat.ne_of_gt hlt
      have n2 : h'.objs.size ≠ P := Nat.ne_of_gt (Nat.lt_of_lt_of_le (Heap.lt_size hP') hsz)
      rw [upd_ne n1, upd_ne n2]
      exact I.hok.fresh hsz
  | some cv =>
    obtain ⟨c', e, hco⟩ := ha pos cv hc
    subst e
    refine PySem.W.kla_makeFunctionHit (mg := X.mg) (c := c) (P := P) (ps := ps) (closure_ok hfree) I.ok.glob (I.mod.glob.keeps I.bk) hcode (TB.code.keeps I.bk) hP' ht hc bP fun ctv h' tk hx hsz => ?_
    have I1 : Inv X pins σ H { s with heap := h'.push (PySem.W.kla_obj "<lambda>" (X.env.qual ++ "<lambda>") params body scope (cloFrom X.env.cells scope.names []) ((X.mg "__name__").getD .none) c' ctv), toks := tk } := I.kept fun b o e => Heap.get?_push_of_some _ (hx b o e)
    exact h h'.objs.size c' ((X.mg "__name__").getD .none) ctv H _ I1 (ExtN.refl H) (fun b e => e) hT (Heap.get?_push_size _ rfl) (I.hok.fresh hsz) (nofr _ hsz) hco
end
def tLam3 (T : List (Addr × Str)) (TT : (XK → Hp → VK → Prop) → Hp → VK → Prop) (t : XK → TE) : TE := fun σ H Q => Tabs T H ∧ ∀ H1, ExtN H H1 → (∀ b, H1 b = none → H b = none) → (∀ b o, H1 b = some o → Pu.SzO o) → Tabs T H1 → TT (fun E H' Q' => t E σ H' Q') H1 Q
section
variable {X : Cx}
theorem pe_lam3 {T : List (Addr × Str)} {TT : (XK → Hp → VK → Prop) → Hp → VK → Prop} {x a : Str} {g c P : Addr} {k : Nat} {pg : Arguments} {bg : List Stmt} {sg : Scope} {dV kV doc pm cdv ct oc : Value} {an od : Option Addr} {osl : Array (Option Value)} {Ng : List Str}
    {params : Arguments} {body : Expr} {scope : Scope} {t : XK → TE} {p lpos pos : Pos} (hg : Gl X x) (hm : X.mg x = some (.ref g)) (hk : PySem.W.keepIn X.K (.ref g) = true)
    (lk : X.K.lookup g = some ⟨oc, od, .func (PySem.W.fnOf x x pg bg sg dV kV doc pm an cdv ct), osl⟩) (hcg : PySem.W.codeIn X.K cdv x = true) (hb : L2.Binds X.K (PySem.W.fnOf x x pg bg sg dV kV doc pm an cdv ct) [a] []) (Sg : FnScope Ng [a] sg) (hNg : Ng[0]? = some a) (hva : Vis sg a)
    (hG : GivesTo X Ng x sg g cdv bg a (X.env.qual ++ "<lambda>") TT)
    (TB : TabB X.base X.mg c P) (hcode : X.env.code = .ref c) (hmT : (P, X.env.qual ++ "<lambda>") ∈ T) (hu : ∀ p ∈ T, p.1 = P → p.2 = X.env.qual ++ "<lambda>") (hr : Room (k + 2) X.A) (L : LamS X.env.scope scope) (hdef : defaultsOf params X.env = ([], []))
    (hbind : ∀ (q : Str) (cl : List (Str × Addr)) (pm cv ctv : Value), bindArgs (PySem.W.kla_fn "<lambda>" q params body scope cl pm cv ctv) ⟨[], []⟩ = pure [])
    (hbody : ∀ (A : Around) (outer : List Env) (s : Shared) (H : Hp) (E : XK) (f c' : Addr), Room k (A.deeper (lamEnv X scope s.heap.objs.size f c')) → PE (lamCx X A outer s H E scope f c') body (t E))
    (hdb : (x == ("__debug__" : Str)) = false := by decide) (hd : (a == ("__debug__" : Str)) = false := by decide) (hcd : (a == ("__classdict__" : Str)) = false := by decide) :
    PE X (.Call (.Name x p) [.Lambda params body scope lpos] [] pos) (tLam3 T TT t) := by
  refine ⟨fun pins s σ H Q I h => ?_⟩
  obtain ⟨hT, h⟩ := h
  refine wpAny_Call_Name_kw (ld_glob I hg hm ?_ hdb)
  refine PySem.W.callWith_K (h₀ := X.base) I.ok.mod.kin hk ?_ (by rfl) (by rfl)
  show wpAny _ _ (spliced ((false, eval (.Lambda params body scope lpos) X.env) :: backTo pos (starEach [] X.env))) _ _ s
  refine Calls.spliced_cons (lam_make3 I TB hcode hmT hu hT hdef (L.has I.ok) fun f c' pm' ctv H1 s' I1 eN nn T1 hf hfn hfr hco => ?_)
  refine Calls.spliced_nil ⟨I1.kIn, ?_⟩
  have rc : codeAny (model X.prog X.w) X.A (.call (.ref g) ⟨[.ref f], []⟩) (CR C8.CX0 X.stack X.prog X.w H1 s' Q C8.E0) s' := by
    refine run_ofS (N := Ng) (ps := [a]) (us := [.ref f]) (vs := [.ref f]) lk hcg Sg hr I1.env0 (hb s' [.ref f] I1.kIn rfl) (.cons rfl .nil) rfl fun hr' => ?_
    obtain ⟨t', ht', hq'⟩ := hG f c' s' H1 Q (fun E H' Q' => t E σ H' Q') (fun W pn xe E p1 p2 tk hW => pe_act (i := 0) I1 L hf hfn hfr (hbind _ _ _ _ _) tk hW hr' (fun A outer s H hr2 => hbody A outer s H E f c' hr2) hNg hva hd hcd) hco (h H1 eN nn (fun b o e => Pu.sz_of (I1.hok b o e)) T1)
    exact ⟨t', ht'.nox, hq'⟩
  refine wpAny_call (codeAny_mono rc fun r s2 hq => ?_)
  cases r with
  | error e => exact (show False from hq).elim
  | ok fl =>
    cases fl with
    | ret u => exact I1.after hq
    | next => exact False.elim hq
    | brk => exact False.elim hq
    | cont => exact False.elim hq
end
end LamX

set_option Elab.async false
set_option linter.all false
set_option maxRecDepth 100000
set_option maxHeartbeats 4000000
/-! Pure reading: f(lambda: g(..)), f tells what an error of g keeps. -/
namespace Pu
open PySem PySem.Spec L2 LamX NdefX
open PyProof.Rows hiding St
abbrev tl (L : List (Addr × Str)) : List NTab := L.map fun p => (p.1, fun _ _ => p.2)
theorem tl_in {L : List (Addr × Str)} {H : Hp} (h : TabsN (tl L) H) : Tabs L H := fun p hp => (h _ (List.mem_map.mpr ⟨p, hp, rfl⟩) : TabN H p.1 fun _ _ => p.2).to
theorem tl_of {L : List (Addr × Str)} {H : Hp} (h : Tabs L H) : TabsN (tl L) H := fun q hq => by
  obtain ⟨p, hp, rfl⟩ := List.mem_map.mp hq
  exact TabN.of (h p hp)
/-- f(lambda: g(..)): what g gives is let go; an error of the class ob is told by what it keeps -/
def mRef (ob : Str) (Φ : Phi) (m : MA) : ME := fun ρ P => m ρ fun as => Φ as (fun _ => P .none) fun ex => ∃ d, ex = (ob, some (("given" : Str), d)) ∧ isDic d = false ∧ P d
section
variable {X : Cx} {C : GC X.K} {L : List (Addr × Str)} {wl : Addr} {n : Nat} {Φ : Phi} {x ob : Str} {es : List Expr} {t : TA} {m : MA} {e : Expr}
theorem p_ref (hvol : C.vol = vW (tl L) wl) (hG : C.G = gW (tl L) wl) (hpe : PE X e (tLam3 L (TTref (He.ga X.K ob)) fun E => tCall (spG X.K (vT (tl L)) (gT (tl L)) n Φ) [] E t)) (ha : PAn X C n es t m) :
    PP X C e (tLam3 L (TTref (He.ga X.K ob)) fun E => tCall (spG X.K (vT (tl L)) (gT (tl L)) n Φ) [] E t) (mRef ob Φ m) := ⟨hpe, by
  intro S H σ ρ P Q rl hm kk
  have hg := rl.good.g
  rw [hG] at hg
  refine ⟨tl_in hg.1, fun H1 eN nn sz T1 => ?_⟩
  obtain ⟨wa, wb, wc, q1, q2, q3, hw⟩ := hg.2
  have g1 : Good C.vol C.G S H1 := ⟨fun a u e => eN a u (rl.good.sub a u e) fun tb q => by subst q; exact rl.good.tp a _ e, by rw [hG]; exact ⟨tl_of T1, wa, wb, wc, q1, q2, q3, eN _ _ hw fun ps e => by cases e⟩, rl.good.vs, fun a v e => rl.good.vh a v (nn a e), sz, rl.good.tp⟩
  have st1 : Stp C.vol S H S H1 := ⟨Same.refl S, fun a o n e nt => eN a o e nt, fun a o e => .inl e, nn⟩
  have r1 : Rel C S H1 σ ρ := rl.step st1 g1
  have cp : Compat C.vol C.G (vT (tl L)) (gT (tl L)) := by rw [hvol, hG]; exact cpW
  show t σ H1 _
  refine ha.rd S H1 σ ρ _ _ r1 hm fun as S2 H2 vs p2 ln s2 g2 ra => ?_
  refine ⟨S2, as, _, _, ln, by rw [List.append_nil]; exact ra, cp.in_ _ _ g2, p2, fun d S' H' v pd s g q => ?_, fun ex S' H' c od px s g xr => ?_⟩
  · obtain ⟨s3, g3⟩ := cp.out _ _ _ _ g2 s g
    exact kk .none S' H' .non pd (st1.trans g1 (s2.trans g2 s3)) g3 Dp.non
  · obtain ⟨s3, g3⟩ := cp.out _ _ _ _ g2 s g
    obtain ⟨d, rfl, hd, pd⟩ := px
    obtain ⟨rfl, o, v, rfl, ho, rv⟩ := xr
    exact ⟨o, v, rfl, rfl, ho, kk d S' H' v pd (st1.trans g1 (s2.trans g2 s3)) g3 rv⟩⟩
end
end Pu

set_option Elab.async false
set_option linter.all false
set_option maxRecDepth 100000
set_option maxHeartbeats 4000000
/-! f(lambda: g(..)): its derivation from the facts of f and g. -/
namespace Pu
open PySem PySem.Spec L2 LamX NdefX
open PyProof.Rows hiding St
section
variable {X : Cx} {L : List (Addr × Str)} {n k k2 : Nat} {Φ : Phi} {x x2 : Str} {e : Expr} {es : List Expr} {t : TA} {f2 g OB : Addr} {fd fd2 fdr : FuncData} {ps : List Str} {vol : Addr → Prop} {G : Hp → Prop} {q : Str} {st : Stmt} {params : Arguments} {body : Expr} {scope : Scope} {p p2 lpos pos pos2 : Pos} {tt : XK → TE}
/-- the lambda's body: a call of a def that may raise -/
theorem ref_body (F : FnOk X.prog X.w X.K X.mg X.base (L2.CX X.prog X.w) k2 f2 fd2 ps (spG X.K vol G n Φ)) (hk : k2 ≤ k) (hm : X.mg x2 = some (.ref f2)) (hkp : PySem.W.keepIn X.K (.ref f2) = true) (hb : Binds X.K fd2 ps []) (hg : scope.names.lookup x2 = some .globalImplicit)
    (ha : ∀ (A : Around) (outer : List Env) (s : Shared) (H : Hp) (E : XK) (f c' : Addr), PA (lamCx X A outer s H E scope f c') (e :: es) t) (hdb : (x2 == ("__debug__" : Str)) = false)
    (he : ∀ env : Env, starEach (e :: es) env = (false, eval e env) :: starEach es env) (hpl : ∀ env : Env, (backTo pos2 (starEach es env)).any (·.1) = false) :
    ∀ (A : Around) (outer : List Env) (s : Shared) (H : Hp) (E : XK) (f c' : Addr), Room k (A.deeper (lamEnv X scope s.heap.objs.size f c')) → PE (lamCx X A outer s H E scope f c') (.Call (.Name x2 p2) (e :: es) [] pos2) (tCall (spG X.K vol G n Φ) [] E t) :=
  fun A outer s H E f c' hr => pe_call (X := lamCx X A outer s H E scope f c') F (hr.mono hk) hg hm hkp hb .nil (passes_call (takes_of rfl rfl rfl rfl) fun _ _ _ _ h => h) (ha A outer s H E f c') hdb (he _) (hpl _)
theorem ref_pe (M : Mk X.base X.mg (tl L) fdr q) (hcode : X.env.code = fdr.code) (hq : X.env.qual ++ "<lambda>" = q) (D : FnP X.K x st [] g fd) (hm : X.mg x = some (.ref g)) (hb : Binds X.K fd ["act"] []) (Sg : FnScope ["act", "e"] ["act"] (defScope st)) (hG : ∀ cdg, GivesTo X ["act", "e"] x (defScope st) g cdg (defBody st) "act" q (TTref OB))
    (hr : Room (k + 2) X.A) (LS : LamS X.env.scope scope) (hdef : defaultsOf params X.env = ([], [])) (hbind : ∀ (q : Str) (cl : List (Str × Addr)) (pm cv ctv : Value), bindArgs (PySem.W.kla_fn "<lambda>" q params body scope cl pm cv ctv) ⟨[], []⟩ = pure [])
    (hbody : ∀ (A : Around) (outer : List Env) (s : Shared) (H : Hp) (E : XK) (f c' : Addr), Room k (A.deeper (lamEnv X scope s.heap.objs.size f c')) → PE (lamCx X A outer s H E scope f c') body (tt E)) (hg : Gl X x := by rfl) (hdb : (x == ("__debug__" : Str)) = false := by decide) :
    PE X (.Call (.Name x p) [.Lambda params body scope lpos] [] pos) (tLam3 L (TTref OB) tt) := by
  subst hq
  obtain ⟨c, Pt, ec, TB, hmT, hu⟩ := M.ex
  obtain ⟨oc, od, dV, kV, doc, pm, an, cdv, ct, osl, rfl, lk, hcd, _, _⟩ := D.ex
  have inL : ∀ r : Str, (Pt, fun (_ : Nat) (_ : Nat) => r) ∈ tl L → (Pt, r) ∈ L := fun r h => by
    obtain ⟨z, hz, e⟩ := List.mem_map.mp h
    have e1 : z.1 = Pt := congrArg Prod.fst e
    have e2 : z.2 = r := congrFun (congrFun (congrArg Prod.snd e) 0) 0
    rw [← e1, ← e2]
    exact hz
  refine pe_lam3 hg hm D.kp lk hcd hb Sg rfl (Sg.par _ (by simp) |>.elim .inl fun h => .inr (.inl h)) (hG _) TB (hcode.trans ec) (inL _ hmT) (fun z hz e => ?_) hr LS hdef hbind hbody hdb
  have := hu (z.1, fun _ _ => z.2) (List.mem_map.mpr ⟨z, hz, rfl⟩) e
  exact congrFun (congrFun this 0) 0
end
end Pu

set_option Elab.async false
set_option linter.all false
set_option maxRecDepth 100000
set_option maxHeartbeats 4000000
/-! A class that may be raised, as one fact; what isinstance and except ask of it, by a Bool. -/
namespace Pu
open PySem PySem.Spec L2 LamX NdefX
open PyProof.Rows hiding St
/-- x(e) makes an error that keeps e as given -/
structure XC (P : Program) (w : World) (K : PySem.W.Frag) (mg : Str → Option Value) (base : Heap) (x : Str) : Prop where
  ex : ∃ fI F fd, SupC P K (He.ga K x) fI F fd ∧ PySem.W.findIn K (.ref (He.ga K x)) "__init__" = some (some (.ref fI)) ∧ PySem.W.typeIn K (.ref fI) = some (.type "function") ∧
    FnOk P w K mg base CX0 1 fI fd ["self", "given"] (spInit (He.ga K x)) ∧ Binds K fd ["self", "given"] []
  m : mg x = some (.ref (He.ga K x))
section
variable {X : Cx} {C : GC X.K} {e : Expr} {te : TE} {me : ME} {pos p pos' : Pos} {x : Str}
theorem x_raiseC (Z : XC X.prog X.w X.K X.mg X.base x) (hr : Room 2 X.A) (tk : Takes X (fun c d _ H => C.E c d H)) (ha : PP X C e te me)
    (hg : Gl X x := by rfl) (hdb : (x == ("__debug__" : Str)) = false := by decide) (hc : X.calm = true := by rfl) (he : starEach [e] X.env = (false, eval e X.env) :: starEach [] X.env := by rfl) (hpl : (backTo pos' (starEach [] X.env)).any (·.1) = false := by rfl) :
    PSt X C (.Raise (some (.Call (.Name x p) [e] [] pos')) none pos) (fun _ σ H => tMkO (He.ga X.K x) (spInit (He.ga X.K x)) [] (tCons te tNil) σ H fun cls d H' => C.E cls d H') (mRaise C.PX x me) := by
  obtain ⟨fI, F, fd, T, iC, tI, O, hb⟩ := Z.ex
  exact x_raise T iC tI O hb hr Z.m tk ha hg hdb hc he hpl
end
theorem xc_of {P : Program} {w : World} {K : PySem.W.Frag} {mg : Str → Option Value} {base : Heap} {d : SupD} {p0 p1 p2 p3 p4 p5 p6 p7 p8 p9 : Pos} (e : fnC1 K d.x = d.val) (ok : d.ok K P.main.file = true) (ht : (P.main.scope.names.lookup ("super" : Str)).isSome = false) (hm : mg d.x = some (.ref (He.ga K d.x)))
    (S : NScope ["self", "given", "__class__"] ["self", "given"] ["__class__"] d.scope) (hks : d.scope.names.lookup ("super" : Str) = some .globalImplicit) (hpar : (d.params.posonlyargs ++ d.params.args).head?.map (·.arg) = some ("self" : Str)) (hms : mg ("super" : Str) = none)
    (hcall : ∀ (cl : List (Str × Addr)) (c fI L : Addr), ∃ pl, eval (.Call (.Attribute (.Call (.Name "super" p0) [] [] p1) "__init__" p2) [.Name "given" p3] [] p4) (envF ⟨"__init__", d.qual, d.params, d.body, d.scope, cl, c⟩ fI L) = (do
      let ov ← attributeBase (.Call (.Name "super" p0) [] [] p1) "__init__" (envF ⟨"__init__", d.qual, d.params, d.body, d.scope, cl, c⟩ fI L) (eval (.Call (.Name "super" p0) [] [] p1) (envF ⟨"__init__", d.qual, d.params, d.body, d.scope, cl, c⟩ fI L))
      standAt p2.atName
      let (f, first) ← holding [ov] (getMethod ov "__init__" pl)
      callWith p4 f first (backTo p4 (starEach [.Name "given" p3] (envF ⟨"__init__", d.qual, d.params, d.body, d.scope, cl, c⟩ fI L))) []))
    (hint : ∀ (cl : List (Str × Addr)) (c fI L : Addr), interactive (envF ⟨"__init__", d.qual, d.params, d.body, d.scope, cl, c⟩ fI L) = false)
    (hsw : ∀ (cl : List (Str × Addr)) (c fI L : Addr), swapsWith (.Call (.Attribute (.Call (.Name "super" p0) [] [] p1) "__init__" p2) [.Name "given" p3] [] p4) none p5.line (envF ⟨"__init__", d.qual, d.params, d.body, d.scope, cl, c⟩ fI L) = pure false)
    (hsw2 : ∀ (cl : List (Str × Addr)) (c fI L : Addr), swapsWith (.Name "given" p8) (some (.Attribute (.Name "self" p6) "given" p7)) p9.line (envF ⟨"__init__", d.qual, d.params, d.body, d.scope, cl, c⟩ fI L) = pure false)
    (hst : ∀ (cl : List (Str × Addr)) (c fI L : Addr), starEach [.Name "given" p3] (envF ⟨"__init__", d.qual, d.params, d.body, d.scope, cl, c⟩ fI L) = [(false, eval (.Name "given" p3) (envF ⟨"__init__", d.qual, d.params, d.body, d.scope, cl, c⟩ fI L))])
    (hbody : d.body = [.Expr (.Call (.Attribute (.Call (.Name "super" p0) [] [] p1) "__init__" p2) [.Name "given" p3] [] p4) p5, .Assign [.Attribute (.Name "self" p6) "given" p7] (.Name "given" p8) p9])
    (hbind : ∀ (cl : List (Str × Addr)) (kV doc pm : Value) (an : Option Addr) (cdv ct : Value) (us : List Value), us.length = 2 → bindArgs (PySem.W.fnX "__init__" d.qual d.params d.body d.scope cl .none kV doc pm an cdv ct) ⟨us, []⟩ = pure ((["self", "given"] : List Str).zip us)) : XC P w K mg base d.x := by
  refine ⟨?_, hm⟩
  obtain ⟨fd, T, iC, tI, _⟩ := SupD.sup e ok ht
  have hF : ∃ cl c, d.F K = ⟨"__init__", d.qual, d.params, d.body, d.scope, cl, c⟩ := by
    unfold SupD.F
    split
    · exact ⟨_, _, rfl⟩
    · exact ⟨_, _, rfl⟩
  obtain ⟨cl, c, hF⟩ := hF
  rw [hF] at T
  refine ⟨_, _, fd, T, iC, tI, sup_ok T S hks hpar hms (hcall cl c _) (hint cl c _) (hsw cl c _) (hsw2 cl c _) (hst cl c _) hbody, ?_⟩
  obtain ⟨oc, od, osl, kV, doc, pm, an, ct, rfl, lk⟩ := T.lk
  exact .all (hbind _ _ _ _ _ _ _)
theorem refB_ok {K : PySem.W.Frag} {CS OB : Addr} (h : L2.refB K CS OB = true) : RefC K CS OB := by
  unfold L2.refB at h
  obtain ⟨h1, h⟩ := andB h
  obtain ⟨h2, h⟩ := andB h
  obtain ⟨h3, h⟩ := andB h
  obtain ⟨h4, h⟩ := andB h
  obtain ⟨h5, h⟩ := andB h
  obtain ⟨h6, h⟩ := andB h
  obtain ⟨h7, h⟩ := andB h
  obtain ⟨h8, h9⟩ := andB h
  have f := xfB_ok h1
  exact ⟨⟨f.ga, f.gg, f.exC, f.hdC, of_decide_eq_true h2, of_decide_eq_true h3, of_decide_eq_true h4, of_decide_eq_true h5⟩, f, of_decide_eq_true h6, of_decide_eq_true h7, of_decide_eq_true h8, of_decide_eq_true h9⟩
end Pu

set_option Elab.async false
set_option linter.all false
set_option maxRecDepth 100000
set_option maxHeartbeats 4000000
/-! raise C(), C a class that says nothing of its own; what a def makes of such an error: whether it is one. -/
namespace LamX
open PySem PySem.Spec PyProof.Rows L2
/-- asked of what a lambda ends with: an error of OB makes True, a value False -/
def TTnone (OB : Addr) : (XK → Hp → VK → Prop) → Hp → VK → Prop := fun tl H Q => tl (fun cls d H' => cls = .ref OB ∧ d = none ∧ Q (.bl true) H') H (fun _ H' => Q (.bl false) H')
/-- what the class must say -/
structure NoneC (K : PySem.W.Frag) (CS OB : Addr) : Prop where
  c : ExcC K OB
  ex : PySem.W.exmOne K (.ref OB) (.ref CS) = some true
  i1 : PySem.W.kitOne K (.ref OB) (.ref OB) = some true
  i2 : PySem.W.kitOne K (.ref OB) (.type "ValueError") = some true
section
variable {X : Cx}
theorem none_gives {Ng : List Str} {x a ce ob q : Str} {sg : Scope} {g CS OB : Addr} {cdg : Value} {p1 p2 p3 p4 p5 p6 p7 p8 p9 pa pb pc pe pi pj pk pl pm : Pos} {j2 : Nat} (T : NoneC X.K CS OB) (hge : sg.names.lookup ce = some .globalImplicit) (hme : X.mg ce = some (.ref CS)) (hde : (ce == ("__debug__" : Str)) = false)
    (hgo : sg.names.lookup ob = some .globalImplicit) (hmo : X.mg ob = some (.ref OB)) (hdo : (ob == ("__debug__" : Str)) = false) (hgi : sg.names.lookup ("isinstance" : Str) = some .globalImplicit) (hmi : X.mg ("isinstance" : Str) = none) (hgv : sg.names.lookup ("ValueError" : Str) = some .globalImplicit) (hmv : X.mg ("ValueError" : Str) = none)
    (hle : sg.names.lookup ("e" : Str) = some .local) (hN : Ng = [a, "e"]) (hNd : Ng.Nodup) :
    GivesTo X Ng x sg g cdg [.Try [.Expr (.Call (.Name a p1) [] [] p2) p3] [.ExceptHandler (some (.Name ce p4)) (some "e") [.Return (some (.BoolOp .And [.Call (.Name "isinstance" p5) [.Name "e" p6, .Name ob p7] [] p8, .Call (.Name "isinstance" p9) [.Name "e" pa, .Name "ValueError" pb] [] pc] pe)) pi] pj] [] [] pk, .Return (some (.Constant (.bool false) j2 pl)) pm] a q (TTnone OB) := by
  intro f c' s H Q tl act hc h
  subst hN
  have h0 : (L2.start [a, "e"] [V.ref f])[0]? = some (some (V.ref f)) := rfl
  refine ⟨_, pss_cons (ps_try_as (X := (cxOf C8.CX0 X.prog X.w X.K X.mg X.base [a, "e"] x sg g cdg X.A X.stack s H C8.E0).nox) (c := .ref CS) (i := 1)
      (tb := fun W D σ H => ∃ Ech : XK, (∀ cls d σ' H', Ech cls d H' → W cls d σ' H') ∧ σ[0]? = some (some (.ref f)) ∧ H c' = some (CodeO c' q) ∧ tl Ech H (fun _ H' => D.nx σ H'))
      (ts := fun a' cls d D σ H => cls = .ref OB ∧ d = none ∧ (1 < σ.length → σ[1]? = some (some (.ref a'))) ∧ D.rt (.bl true) H)
      rfl rfl hNd rfl hle ⟨hge, hde, .inl hme⟩ takes0 (fun W pn xe tk _ => ?_) (fun a' oe cls d pn hz hf => ?_)) (pss_one (ps_ret pe_bl)), ?_⟩
  · refine ⟨fun pins s' σ H' D I h' => ?_⟩
    obtain ⟨Ech, hW, h1, h2, h3⟩ := h'
    exact (pss_one (ps_expr (pos := p3) (act W pn xe Ech p1 p2 tk hW))).run pins s' σ H' D I ⟨h1, h2, h3⟩
  · refine ⟨fun pins s' σ H' D I h' => ?_⟩
    obtain ⟨rfl, rfl, hs, hD⟩ := h'
    have hs := hs (by rw [I.len]; show 1 < 2; decide)
    have ev : ∀ p, PE ((cxOf C8.CX0 X.prog X.w X.K X.mg X.base [a, "e"] x sg g cdg X.A X.stack s H C8.E0).nox.suite a' ((a', oe) :: pn)) (.Name "e" p) (tVar 1) := fun p => pe_var (i := 1) rfl (.inl hle)
    have go : ∀ p, PE ((cxOf C8.CX0 X.prog X.w X.K X.mg X.base [a, "e"] x sg g cdg X.A X.stack s H C8.E0).nox.suite a' ((a', oe) :: pn)) (.Name ob p) (tC (.ref OB)) := fun p => pe_glob (v := .ref OB) hgo hmo rfl hdo
    have gv : ∀ p, PE ((cxOf C8.CX0 X.prog X.w X.K X.mg X.base [a, "e"] x sg g cdg X.A X.stack s H C8.E0).nox.suite a' ((a', oe) :: pn)) (.Name "ValueError" p) (tC (.ty "ValueError")) := fun p => pe_bltn (v := .ty "ValueError") hgv hmv PyProof.Rows.Boot.«ValueError» rfl
    have is1 := pe_callB (pos := p8) (p := p5) (call_isE (X := (cxOf C8.CX0 X.prog X.w X.K X.mg X.base [a, "e"] x sg g cdg X.A X.stack s H C8.E0).nox) (a := a') (pn := pn) T.c hz hf) hgi hmi PyProof.Rows.boot_isinstance (pa_cons (ev p6) (pa_cons (go p7) pa_nil))
    have is2 := pe_callB (pos := pc) (p := p9) (call_isE (X := (cxOf C8.CX0 X.prog X.w X.K X.mg X.base [a, "e"] x sg g cdg X.A X.stack s H C8.E0).nox) (a := a') (pn := pn) T.c hz hf) hgi hmi PyProof.Rows.boot_isinstance (pa_cons (ev pa) (pa_cons (gv pb) pa_nil))
    refine (pss_one (ps_ret (pos := pi) (pe_and (pos := pe) is1 (pe_one is2)))).run pins s' σ H' D I ?_
    refine ⟨_, hs, .ref OB, .ref OB, true, rfl, fun u hu => hu, T.i1, true, rfl, ?_⟩
    dsimp only
    rw [if_pos rfl]
    exact ⟨_, hs, .ty "ValueError", .type "ValueError", true, rfl, fun u hu => hu, T.i2, hD⟩
  · refine ⟨fun cls d H' => cls = .ref OB ∧ d = none ∧ Q (.bl true) H', fun cls d σ' H' e => ?_, h0, hc, h⟩
    obtain ⟨rfl, rfl, hQ⟩ := e
    refine ⟨true, T.ex, fun _ a' ha' => ⟨rfl, rfl, fun hl => ?_, hQ⟩, fun e => by cases e⟩
    rw [List.length_set] at hl
    rw [List.getElem?_set_self hl]
end
end LamX
namespace Pu
open PySem PySem.Spec L2 LamX NdefX
open PyProof.Rows hiding St
abbrev veTail : List Value := [.type "ValueError", .type "Exception", .type "BaseException", .type "object"]
/-- x() makes an error -/
structure XN (K : PySem.W.Frag) (mg : Str → Option Value) (x : Str) : Prop where
  q : PySem.W.excIn K (He.ga K x) veTail "ValueError.__new__" = true
  k : PySem.W.keepIn K (.ref (He.ga K x)) = true
  s : PySem.W.subIn K (.ref (He.ga K x)) (.type "BaseException") = some true
  t : PySem.W.typeIn K (.ref (He.ga K x)) = some (.type "type")
  m : mg x = some (.ref (He.ga K x))
section
variable {X : Cx} {C : GC X.K} {x : Str} {p pos pos' : Pos}
theorem pmk_own0 (Z : XN X.K X.mg x) (hg : Gl X x) (hdb : (x == ("__debug__" : Str)) = false) : L2.PMk X (.Call (.Name x p) [] [] pos) (fun _ H Q => Q (.ref (He.ga X.K x)) none H) := by
  intro pins s σ H Q I h
  refine wpAny_Call_Name_kw (ld_glob I hg Z.m ?_ hdb)
  refine PySem.W.callWith_K0 I.kIn Z.k ?_
  show wpAny _ _ (call (.ref (He.ga X.K x)) []) _ _ _
  obtain ⟨bm, N, nm, qn, bs, hdct, sn, sub, ab, col, dd, k0, k1, k2, k3, k5, mN, hC, hN, hni, T⟩ := exc_obj I.kIn Z.q
  refine wpAny_call_exc_subT PySem.F.excBase_ValueError T hC hN hni (fun h' e hm => ?_) (Nat.zero_le _)
  exact mk_of I hm (raises_own Z.s Z.t) h (I.hok.gone hm.new)
/-- raise x() -/
def mRaise0 (PX : Ex → Prop) (x : Str) : MS := fun _ _ => PX (x, none)
theorem x_raise0 (Z : XN X.K X.mg x) (tk : Takes X (fun c d _ H => C.E c d H)) (hg : Gl X x := by rfl) (hdb : (x == ("__debug__" : Str)) = false := by decide) (hc : X.calm = true := by rfl) :
    PSt X C (.Raise (some (.Call (.Name x p) [] [] pos')) none pos) (fun _ σ H => C.E (.ref (He.ga X.K x)) none H) (mRaise0 C.PX x) := ⟨ps_raise hc tk (pmk_own0 Z hg hdb), by
  intro S H σ ρ E N rl hm k1 k2 k3 k4
  exact C.hE (x, none) S H _ none hm rl.good rl.stp ⟨rfl, rfl⟩⟩
/-- f(lambda: g(..)): whether g ends with an error of the class ob -/
def mIsX (ob : Str) (Φ : Phi) (m : MA) : ME := fun ρ P => m ρ fun as => Φ as (fun _ => P (.bool false)) fun ex => ex = (ob, none) ∧ P (.bool true)
end
section
variable {X : Cx} {C : GC X.K} {L : List (Addr × Str)} {wl : Addr} {n : Nat} {Φ : Phi} {x ob : Str} {es : List Expr} {t : TA} {m : MA} {e : Expr}
theorem p_isx (hvol : C.vol = vW (tl L) wl) (hG : C.G = gW (tl L) wl) (hpe : PE X e (tLam3 L (TTnone (He.ga X.K ob)) fun E => tCall (spG X.K (vT (tl L)) (gT (tl L)) n Φ) [] E t)) (ha : PAn X C n es t m) :
    PP X C e (tLam3 L (TTnone (He.ga X.K ob)) fun E => tCall (spG X.K (vT (tl L)) (gT (tl L)) n Φ) [] E t) (mIsX ob Φ m) := ⟨hpe, by
  intro S H σ ρ P Q rl hm kk
  have hg := rl.good.g
  rw [hG] at hg
  refine ⟨tl_in hg.1, fun H1 eN nn sz T1 => ?_⟩
  obtain ⟨wa, wb, wc, q1, q2, q3, hw⟩ := hg.2
  have g1 : Good C.vol C.G S H1 := ⟨fun a u e => eN a u (rl.good.sub a u e) fun tb q => by subst q; exact rl.good.tp a _ e, by rw [hG]; exact ⟨tl_of T1, wa, wb, wc, q1, q2, q3, eN _ _ hw fun ps e => by cases e⟩, rl.good.vs, fun a v e => rl.good.vh a v (nn a e), sz, rl.good.tp⟩
  have st1 : Stp C.vol S H S H1 := ⟨Same.refl S, fun a o n e nt => eN a o e nt, fun a o e => .inl e, nn⟩
  have r1 : Rel C S H1 σ ρ := rl.step st1 g1
  have cp : Compat C.vol C.G (vT (tl L)) (gT (tl L)) := by rw [hvol, hG]; exact cpW
  show t σ H1 _
  refine ha.rd S H1 σ ρ _ _ r1 hm fun as S2 H2 vs p2 ln s2 g2 ra => ?_
  refine ⟨S2, as, _, _, ln, by rw [List.append_nil]; exact ra, cp.in_ _ _ g2, p2, fun d S' H' v pd s g q => ?_, fun ex S' H' c od px s g xr => ?_⟩
  · obtain ⟨s3, g3⟩ := cp.out _ _ _ _ g2 s g
    exact kk (.bool false) S' H' (.bl false) pd (st1.trans g1 (s2.trans g2 s3)) g3 (Dp.bl _)
  · obtain ⟨s3, g3⟩ := cp.out _ _ _ _ g2 s g
    obtain ⟨rfl, pd⟩ := px
    obtain ⟨rfl, ho⟩ := xr
    exact ⟨rfl, ho, kk (.bool true) S' H' (.bl true) pd (st1.trans g1 (s2.trans g2 s3)) g3 (Dp.bl _)⟩⟩
end
section
variable {X : Cx} {L : List (Addr × Str)} {k : Nat} {x : Str} {g : Addr} {fdr fd : FuncData} {q : Str} {st : Stmt} {params : Arguments} {body : Expr} {scope : Scope} {p lpos pos : Pos} {tt : XK → TE} {TT : (XK → Hp → VK → Prop) → Hp → VK → Prop}
/-- f(lambda: ..), whatever f makes of it -/
theorem refT_pe (M : Mk X.base X.mg (tl L) fdr q) (hcode : X.env.code = fdr.code) (hq : X.env.qual ++ "<lambda>" = q) (D : FnP X.K x st [] g fd) (hm : X.mg x = some (.ref g)) (hb : Binds X.K fd ["act"] []) (Sg : FnScope ["act", "e"] ["act"] (defScope st)) (hG : ∀ cdg, GivesTo X ["act", "e"] x (defScope st) g cdg (defBody st) "act" q TT)
    (hr : Room (k + 2) X.A) (LS : LamS X.env.scope scope) (hdef : defaultsOf params X.env = ([], [])) (hbind : ∀ (q : Str) (cl : List (Str × Addr)) (pm cv ctv : Value), bindArgs (PySem.W.kla_fn "<lambda>" q params body scope cl pm cv ctv) ⟨[], []⟩ = pure [])
    (hbody : ∀ (A : Around) (outer : List Env) (s : Shared) (H : Hp) (E : XK) (f c' : Addr), Room k (A.deeper (lamEnv X scope s.heap.objs.size f c')) → PE (lamCx X A outer s H E scope f c') body (tt E)) (hg : Gl X x := by rfl) (hdb : (x == ("__debug__" : Str)) = false := by decide) :
    PE X (.Call (.Name x p) [.Lambda params body scope lpos] [] pos) (tLam3 L TT tt) := by
  subst hq
  obtain ⟨c, Pt, ec, TB, hmT, hu⟩ := M.ex
  obtain ⟨oc, od, dV, kV, doc, pm, an, cdv, ct, osl, rfl, lk, hcd, _, _⟩ := D.ex
  refine pe_lam3 hg hm D.kp lk hcd hb Sg rfl (Sg.par _ (by simp) |>.elim .inl fun h => .inr (.inl h)) (hG _) TB (hcode.trans ec) ?_ (fun z hz e => ?_) hr LS hdef hbind hbody hdb
  · obtain ⟨z, hz, e⟩ := List.mem_map.mp hmT
    have e1 : z.1 = Pt := congrArg Prod.fst e
    have e2 : z.2 = X.env.qual ++ "<lambda>" := congrFun (congrFun (congrArg Prod.snd e) 0) 0
    rw [← e1, ← e2]
    exact hz
  · have := hu (z.1, fun _ _ => z.2) (List.mem_map.mpr ⟨z, hz, rfl⟩) e
    exact congrFun (congrFun this 0) 0
end
end Pu

set_option Elab.async false
set_option linter.all false
set_option maxRecDepth 100000
set_option maxHeartbeats 4000000
/-! The facts of such a class by a Bool. -/
namespace Pu
open PySem PySem.Spec L2 LamX NdefX
open PyProof.Rows hiding St
theorem xn_ok {K : PySem.W.Frag} {mg : Str → Option Value} {x : Str} (h : L2.xnB K (He.ga K x) = true) (hm : mg x = some (.ref (He.ga K x))) : XN K mg x := by
  unfold L2.xnB at h
  obtain ⟨h1, h⟩ := andB h
  obtain ⟨h2, h⟩ := andB h
  obtain ⟨h3, h4⟩ := andB h
  exact ⟨h1, h2, of_decide_eq_true h3, of_decide_eq_true h4, hm⟩
theorem none_ok {K : PySem.W.Frag} {CS OB : Addr} (h : L2.noneB K CS OB = true) : NoneC K CS OB := by
  unfold L2.noneB at h
  obtain ⟨h1, h⟩ := andB h
  obtain ⟨h2, h⟩ := andB h
  obtain ⟨h3, h⟩ := andB h
  obtain ⟨h4, h⟩ := andB h
  obtain ⟨h5, h⟩ := andB h
  obtain ⟨h6, h⟩ := andB h
  obtain ⟨h7, h⟩ := andB h
  obtain ⟨h8, h⟩ := andB h
  obtain ⟨h9, h⟩ := andB h
  obtain ⟨ha, hb⟩ := andB h
  exact ⟨⟨of_decide_eq_true h1, of_decide_eq_true h2, of_decide_eq_true h3, h4, of_decide_eq_true h5, of_decide_eq_true h6, of_decide_eq_true h7, of_decide_eq_true h8⟩, of_decide_eq_true h9, of_decide_eq_true ha, of_decide_eq_true hb⟩
end Pu

set_option Elab.async false
set_option linter.all false
set_option maxRecDepth 100000
set_option maxHeartbeats 4000000
/-! Walking mirrors backwards: one rule a combinator. -/
namespace Pu
open PySem PySem.Spec L2
open PyProof.Rows hiding St
section
variable {m n : MS} {ρ : List Sl} {f bk ct : List Sl → Prop} {r P : D → Prop} {E : PEn} {me mf ma mb : ME} {c : MT} {i j l k : Nat} {d e x : D} {ds es xs : List D} {Q : List D → Prop} {ml ml2 : ML} {B : Bool → Prop} {ma1 : MA} {R : List Sl → Prop}
theorem w_body {N n0 : Nat} {as : List Sl} {X : Ex → Prop} (h : m (as ++ List.replicate (N - n0) .un) ⟨fun _ => P .none, P, fun _ => False, fun _ => False⟩) : bodyPhi N n0 m as P X := h
theorem w_clos {N n0 : Nat} {as : List Sl} {X : Ex → Prop} (h : m ((as ++ ds.map .da) ++ List.replicate (N - n0) .un) ⟨fun _ => P .none, P, fun _ => False, fun _ => False⟩) : cloPhi N n0 ds m as P X := h
theorem w_bodyO {N n0 : Nat} {as : List Sl} {mo : MSO} (h : mo (as ++ List.replicate (N - n0) .un) Q) : bodyPhiO N n0 mo as Q := h
theorem w_seqO {mo : MSO} (h : m ρ ⟨fun ρ' => mo ρ' Q, fun _ => False, fun _ => False, fun _ => False⟩) : mSeqO m mo ρ Q := h
theorem w_absI {a : Int} (h : P (.int (if a < 0 then -a else a))) : oAbs [.int a] P := h
theorem w_nx (h : f ρ) : PEn.nx ⟨f, r, bk, ct⟩ ρ := h
theorem w_rt (h : r d) : PEn.rt ⟨f, r, bk, ct⟩ d := h
theorem w_seq (h : m ρ ⟨fun ρ' => n ρ' ⟨f, r, bk, ct⟩, r, bk, ct⟩) : mSeq m n ρ ⟨f, r, bk, ct⟩ := h
theorem w_next (h : f ρ) : mNext ρ ⟨f, r, bk, ct⟩ := h
theorem w_ret (h : me ρ r) : mRet me ρ ⟨f, r, bk, ct⟩ := h
theorem w_retN (h : r .none) : mRetN ρ ⟨f, r, bk, ct⟩ := h
theorem w_do (h : me ρ fun _ => f ρ) : mDo me ρ ⟨f, r, bk, ct⟩ := h
theorem w_if (h : c ρ fun b => if b = true then m ρ E else n ρ E) : mIf c m n ρ E := h
theorem w_asgN (h : me ρ fun d => f (ρ.set i (.da d))) : mAsg me (gN i) ρ ⟨f, r, bk, ct⟩ := h
theorem w_asg {gm : D → List Sl → (List Sl → Prop) → Prop} (h : me ρ fun d => gm d ρ f) : mAsg me gm ρ ⟨f, r, bk, ct⟩ := h
theorem w_gn (h : R (ρ.set i (.da d))) : gN i d ρ R := h
theorem w_gtp {q : List D → List Sl → (List Sl → Prop) → Prop} (hl : ds.length = k) (h : q ds ρ R) : gTp k q (.tuple ds) ρ R := ⟨hl, h⟩
theorem w_gcs {gm : D → List Sl → (List Sl → Prop) → Prop} {q : List D → List Sl → (List Sl → Prop) → Prop} (h : gm d ρ fun ρ' => q ds ρ' R) : gCs gm q (d :: ds) ρ R := h
theorem w_gnl (h : R ρ) : gNl [] ρ R := h
theorem w_frz (hg : gt ρ j = .ow ds) (h : m (ρ.set j (.da (.list ds))) E) : mFrz j m ρ E := by unfold mFrz; rw [hg]; exact h
theorem w_setO (h : ml ρ fun ds => f (ρ.set i (.ow ds))) : mSetO i ml ρ ⟨f, r, bk, ct⟩ := h
theorem w_app (hg : gt ρ i = .ow ds) (h : me ρ fun d => nd d (ds.length < sizeLine ∧ f (ρ.set i (.ow (ds ++ [d]))))) : mApp i me ρ ⟨f, r, bk, ct⟩ := by unfold mApp; rw [hg]; exact h
theorem w_ext (hg : gt ρ i = .ow ds) (h : ml ρ fun es => ds.length + es.length ≤ sizeLine ∧ f (ρ.set i (.ow (ds ++ es)))) : mExt i ml ρ ⟨f, r, bk, ct⟩ := by unfold mExt; rw [hg]; exact h
theorem w_aug {op : D → D → (D → Prop) → Prop} (hg : gt ρ i = .da x) (h : me ρ fun y => op x y fun z => f (ρ.set i (.da z))) : mAug op i me ρ ⟨f, r, bk, ct⟩ := by unfold mAug; rw [hg]; exact h
theorem w_par2 {mx : MX} (h : mx ρ fun ss => ∃ s s', ss = [s, s'] ∧ f ((ρ.set i s).set j s')) : mPar2 i j mx ρ ⟨f, r, bk, ct⟩ := by
  unfold mPar2
  have e : (fun ss : List Sl => ∃ s s', ss = [s, s'] ∧ f ((ρ.set i s).set j s')) = (fun ss => match ss with | [s, s'] => f ((ρ.set i s).set j s') | _ => False) := by
    funext ss
    match ss with
    | [] => simp
    | [a] => simp
    | [a, b] => exact propext ⟨fun ⟨_, _, e, h⟩ => by injection e with e1 e2; injection e2 with e2 e3; rw [e1, e2]; exact h, fun h => ⟨_, _, rfl, h⟩⟩
    | a :: b :: c :: d => simp
  rw [e] at h
  exact h
theorem w_par3 {mx : MX} (h : mx ρ fun ss => ∃ s s' s'', ss = [s, s', s''] ∧ f (((ρ.set i s).set j s').set l s'')) : mPar3 i j l mx ρ ⟨f, r, bk, ct⟩ := by
  unfold mPar3
  have e : (fun ss : List Sl => ∃ s s' s'', ss = [s, s', s''] ∧ f (((ρ.set i s).set j s').set l s'')) = (fun ss => match ss with | [s, s', s''] => f (((ρ.set i s).set j s').set l s'') | _ => False) := by
    funext ss
    match ss with
    | [] => simp
    | [a] => simp
    | [a, b] => simp
    | [a, b, c] => exact propext ⟨fun ⟨_, _, _, e, h⟩ => by injection e with e1 e2; injection e2 with e2 e3; injection e3 with e3 e4; rw [e1, e2, e3]; exact h, fun h => ⟨_, _, _, rfl, h⟩⟩
    | a :: b :: c :: d :: e => simp
  rw [e] at h
  exact h
theorem w_ex2 {α : Type} {a b : α} {p : α → α → Prop} (h : p a b) : ∃ s s', [a, b] = [s, s'] ∧ p s s' := ⟨_, _, rfl, h⟩
theorem w_ex3 {α : Type} {a b c : α} {p : α → α → α → Prop} (h : p a b c) : ∃ s s' s'', [a, b, c] = [s, s', s''] ∧ p s s' s'' := ⟨_, _, _, rfl, h⟩
theorem w_xnil {R : List Sl → Prop} (h : R []) : mXnil ρ R := h
theorem w_xda {mx : MX} {R : List Sl → Prop} (h : me ρ fun d => mx ρ fun ss => R (.da d :: ss)) : mXda me mx ρ R := h
theorem w_xow {mx : MX} {R : List Sl → Prop} (h : ml ρ fun ds => mx ρ fun ss => R (.ow ds :: ss)) : mXow ml mx ρ R := h
/- tests -/
theorem fun_b {p : Bool → Prop} : (fun d : D => ∃ b, d = .bool b ∧ p b) = fun d => match d with | .bool b => p b | _ => False := by
  funext d
  cases d <;> simp
theorem w_test (h : me ρ fun d => ∃ b, d = .bool b ∧ B b) : mTest me ρ B := by rw [fun_b] at h; exact h
theorem w_exb {b : Bool} (h : B b) : ∃ b', PyData.bool b = .bool b' ∧ B b' := ⟨_, rfl, h⟩
theorem w_and {c c2 : MT} (h : c ρ fun b => if b = true then c2 ρ B else B false) : mAnd c c2 ρ B := h
theorem w_or {c c2 : MT} (h : c ρ fun b => if b = true then B true else c2 ρ B) : mOr c c2 ρ B := h
theorem w_not (h : c ρ fun b => B (!b)) : mNot c ρ B := h
theorem w_andV (h : me ρ fun d => ∃ b, d = .bool b ∧ if b = true then mf ρ P else P (.bool false)) : mAndV me mf ρ P := by rw [fun_b] at h; exact h
theorem w_orV (h : me ρ fun d => ∃ b, d = .bool b ∧ if b = true then P (.bool true) else mf ρ P) : mOrV me mf ρ P := by rw [fun_b] at h; exact h
theorem w_notV (h : me ρ fun d => ∃ b, d = .bool b ∧ P (.bool (!b))) : mNotV me ρ P := by rw [fun_b] at h; exact h
theorem w_ifE (h : c ρ fun b => if b = true then me ρ P else mf ρ P) : mIfE c me mf ρ P := h
theorem w_ifT {p q : Prop} (h : p) : if true = true then p else q := h
theorem w_ifF {p q : Prop} (h : q) : if false = true then p else q := h
theorem w_ifNT {p q : Prop} (h : q) : if (!true) = true then p else q := h
theorem w_ifNF {p q : Prop} (h : p) : if (!false) = true then p else q := h
theorem w_pos {b : Bool} {p q : Prop} (e : b = true) (h : p) : if b = true then p else q := by rw [e]; exact h
theorem w_neg {b : Bool} {p q : Prop} (e : b = false) (h : q) : if b = true then p else q := by rw [e]; exact h
theorem w_npos {b : Bool} {p q : Prop} (e : b = true) (h : q) : if (!b) = true then p else q := by rw [e]; exact h
theorem w_nneg {b : Bool} {p q : Prop} (e : b = false) (h : p) : if (!b) = true then p else q := by rw [e]; exact h
theorem w_isi {T : String} (h : me ρ fun d => ∃ b, isTy T d = some b ∧ P (.bool b)) : mIsi T me ρ P := h
/- values -/
theorem w_var (hg : gt ρ i = .da d) (h : P d) : mVar i ρ P := by unfold mVar; rw [hg]; exact h
theorem w_varB (hg : gt ρ i = .da d) (h : P d) : mVarB i ρ P := by unfold mVarB; rw [hg]; exact h
theorem w_varBo (hg : gt ρ i = .ow ds) (h : P (.list ds)) : mVarB i ρ P := by unfold mVarB; rw [hg]; exact h
theorem w_varBd {kvs : List (D × D)} (hg : gt ρ i = .od kvs) (h : P (.dict kvs)) : mVarB i ρ P := by unfold mVarB; rw [hg]; exact h
theorem w_c (h : P d) : mC d ρ P := h
theorem w_bin {op : D → D → (D → Prop) → Prop} (h : ma ρ fun d => mb ρ fun e => op d e P) : mBin op ma mb ρ P := h
theorem w_oI {g : Int → Int → D} {a b : Int} (h : P (g a b)) : oI g (.int a) (.int b) P := h
theorem w_oIC {cc : Int → Int → Prop} {g : Int → Int → D} {a b : Int} (hc : cc a b) (h : P (g a b)) : oIC cc g (.int a) (.int b) P := ⟨hc, h⟩
theorem w_L (h : ml ρ fun ds => P (.list ds)) : mL ml ρ P := h
theorem w_anil {R : List Sl → Prop} (h : R []) : mAnil ρ R := h
theorem w_ada {R : List Sl → Prop} (h : me ρ fun d => ma1 ρ fun as => R (.da d :: as)) : mAda me ma1 ρ R := h
theorem w_arw {R : List Sl → Prop} {v : V} (hg : gt ρ i = .rw v) (h : ma1 ρ fun as => R (.rw v :: as)) : mArw i ma1 ρ R := by unfold mArw; rw [hg]; exact h
theorem w_bnil (h : Q []) : mBnil ρ Q := h
theorem w_bcons (h : me ρ fun d => ml ρ fun ds => Q (d :: ds)) : mBcons me ml ρ Q := h
theorem w_dcons (h : me ρ fun d => nd d (ml ρ fun ds => Q (d :: ds))) : mDcons me ml ρ Q := h
theorem w_ndI {p : Prop} {a : Int} (h : p) : nd (.int a) p := h
theorem w_ndS {p : Prop} {a : Str} (h : p) : nd (.str a) p := h
theorem w_ndB {p : Prop} {a : Bool} (h : p) : nd (.bool a) p := h
theorem w_ndN {p : Prop} (h : p) : nd .none p := h
theorem w_ndT {p : Prop} (h : p) : nd (.tuple ds) p := h
theorem w_ndL {p : Prop} (h : p) : nd (.list ds) p := h
theorem w_nd {p : Prop} (e : isDic d = false) (h : p) : nd d p := by cases d <;> first | exact h | cases e
theorem w_tup (h : ml ρ fun ds => ds.length ≤ sizeLine ∧ P (.tuple ds)) : mTup ml ρ P := h
theorem w_lst (h : ml ρ fun ds => ds.length ≤ sizeLine ∧ Q ds) : mLst ml ρ Q := h
theorem w_len0 {p : Prop} (h : p) : ([] : List D).length ≤ sizeLine ∧ p := ⟨show 0 ≤ sizeLine by decide, h⟩
theorem w_len1 {a : D} {p : Prop} (h : p) : [a].length ≤ sizeLine ∧ p := ⟨show 1 ≤ sizeLine by decide, h⟩
theorem w_len2 {a b : D} {p : Prop} (h : p) : [a, b].length ≤ sizeLine ∧ p := ⟨show 2 ≤ sizeLine by decide, h⟩
theorem w_len3 {a b c : D} {p : Prop} (h : p) : [a, b, c].length ≤ sizeLine ∧ p := ⟨show 3 ≤ sizeLine by decide, h⟩
theorem w_len4 {a b c d : D} {p : Prop} (h : p) : [a, b, c, d].length ≤ sizeLine ∧ p := ⟨show 4 ≤ sizeLine by decide, h⟩
theorem w_len5 {a b c d e : D} {p : Prop} (h : p) : [a, b, c, d, e].length ≤ sizeLine ∧ p := ⟨show 5 ≤ sizeLine by decide, h⟩
theorem w_len6 {a b c d e x : D} {p : Prop} (h : p) : [a, b, c, d, e, x].length ≤ sizeLine ∧ p := ⟨show 6 ≤ sizeLine by decide, h⟩
theorem w_len7 {a b c d e x y : D} {p : Prop} (h : p) : [a, b, c, d, e, x, y].length ≤ sizeLine ∧ p := ⟨show 7 ≤ sizeLine by decide, h⟩
theorem w_ixT {a : Int} (e : atI ds a = some d) (h : P d) : oIx (.tuple ds) (.int a) P := ⟨d, e, h⟩
theorem w_ixL {a : Int} (e : atI ds a = some d) (h : P d) : oIx (.list ds) (.int a) P := ⟨d, e, h⟩
theorem w_catT (hl : xs.length + ds.length ≤ sizeLine) (h : P (.tuple (xs ++ ds))) : oCatT (.tuple xs) (.tuple ds) P := ⟨hl, h⟩
theorem w_catS {a b : Str} (hl : a.length + b.length ≤ sizeLine) (h : P (.str (a ++ b))) : oCatS (.str a) (.str b) P := ⟨hl, h⟩
theorem w_ltS {a b : Str} (h : P (.bool (decide (a.cps.toList < b.cps.toList)))) : oLtS (.str a) (.str b) P := h
theorem w_isN0 (h : P (.bool true)) : oIsN false .none .none P := h
theorem w_isNi {a : Int} (h : P (.bool false)) : oIsN false (.int a) .none P := h
theorem w_isNs {a : Str} (h : P (.bool false)) : oIsN false (.str a) .none P := h
theorem w_isNt (h : P (.bool false)) : oIsN false (.tuple ds) .none P := h
theorem w_noN0 (h : P (.bool false)) : oIsN true .none .none P := h
theorem w_noNi {a : Int} (h : P (.bool true)) : oIsN true (.int a) .none P := h
theorem w_noNs {a : Str} (h : P (.bool true)) : oIsN true (.str a) .none P := h
theorem w_noNt (h : P (.bool true)) : oIsN true (.tuple ds) .none P := h
theorem w_c1 {op : List D → (D → Prop) → Prop} (h : ml ρ fun ds => op ds P) : mC1 op ml ρ P := h
theorem w_co {op : List D → (List D → Prop) → Prop} (h : ml ρ fun ds => op ds Q) : mCo op ml ρ Q := h
theorem w_lenT (h : P (.int ds.length)) : oLen [.tuple ds] P := h
theorem w_lenL (h : P (.int ds.length)) : oLen [.list ds] P := h
theorem w_int {a : Int} (h : P (.int a)) : oInt [.int a] P := h
theorem w_max2 {a b : Int} (h : P (.int (if b > a then b else a))) : oMax2 [.int a, .int b] P := h
theorem w_min2 {a b : Int} (h : P (.int (if b < a then b else a))) : oMin2 [.int a, .int b] P := h
theorem w_tupL (h : P (.tuple ds)) : oTuple [.list ds] P := h
theorem w_tupT (h : P (.tuple ds)) : oTuple [.tuple ds] P := h
theorem w_listL (h : Q ds) : oListOf [.list ds] Q := h
theorem w_listT (h : Q ds) : oListOf [.tuple ds] Q := h
theorem w_neg1 {a : Int} (h : P (.int (-a))) : oNeg (.int a) P := h
theorem w_un {op : D → (D → Prop) → Prop} (h : me ρ fun d => op d P) : mUn op me ρ P := h
/- calls -/
theorem w_call {Φ : Phi} (h : ma1 ρ fun as => Φ as P fun _ => False) : mCall Φ ma1 ρ P := h
theorem w_callD {Φ : Phi} (h : ma1 ρ fun as => Φ (as ++ ds.map .da) P fun _ => False) : mCallD Φ ds ma1 ρ P := h
theorem w_callK {Φ : Phi} {mk1 : MA} (h : ma1 ρ fun as => mk1 ρ fun bs => Φ (as ++ bs) P fun _ => False) : mCallK Φ ma1 mk1 ρ P := h
theorem w_callC {Ψ : Addr → Phi → Phi} {a : Addr} {Φ : Phi} (h : ma1 ρ fun as => Ψ a Φ as P fun _ => False) : mCallC Ψ a Φ ma1 ρ P := h
theorem w_clo {a : Addr} {Φ : Phi} (hg : gt ρ i = .rw (.ref a)) (h : ma1 ρ fun as => Φ as P fun _ => False) : mClo i a Φ ma1 ρ P := ⟨hg, h⟩
theorem w_ndef {js : List Nat} {Φc : List D → Phi} {Ψ : Addr → Phi → Phi} (ds : List D) (e : js.map (gt ρ) = ds.map .da) (hd : ∀ d ∈ ds, isDic d = false) (h : ∀ a, ma1 (ρ.set i (.rw (.ref a))) fun as => Ψ a (Φc ds) as r fun _ => False) : mNdef i js Φc Ψ ma1 ρ ⟨f, r, bk, ct⟩ := ⟨ds, e, hd, h⟩
/- iterators, loops -/
theorem fun_l {p : List D → Prop} : (fun d : D => ∃ ds, d = .list ds ∧ p ds) = fun d => match d with | .list ds => p ds | _ => False := by
  funext d
  cases d <;> simp
theorem fun_t {p : List D → Prop} : (fun d : D => ∃ ds, d = .tuple ds ∧ p ds) = fun d => match d with | .tuple ds => p ds | _ => False := by
  funext d
  cases d <;> simp
theorem w_itL (h : me ρ fun d => ∃ ds, d = .list ds ∧ Q ds) : mItL me ρ Q := by rw [fun_l] at h; exact h
theorem w_itT (h : me ρ fun d => ∃ ds, d = .tuple ds ∧ Q ds) : mItT me ρ Q := by rw [fun_t] at h; exact h
theorem w_exl (h : Q ds) : ∃ ds', PyData.list ds = .list ds' ∧ Q ds' := ⟨_, rfl, h⟩
theorem w_ext' (h : Q ds) : ∃ ds', PyData.tuple ds = .tuple ds' ∧ Q ds' := ⟨_, rfl, h⟩
theorem w_rng (h : ml ρ fun ds => ∃ j, ds = [.int j] ∧ -(2 ^ 62) ≤ j ∧ j ≤ 16777216 ∧ Q (upto j)) : mRng ml ρ Q := by
  unfold mRng
  have e : (fun ds : List D => ∃ j, ds = [.int j] ∧ -(2 ^ 62) ≤ j ∧ j ≤ 16777216 ∧ Q (upto j)) = fun ds => match ds with | [.int j] => -(2 ^ 62) ≤ j ∧ j ≤ 16777216 ∧ Q (upto j) | _ => False := by
    funext ds
    match ds with
    | [] => simp
    | [d] => cases d <;> simp
    | a :: b :: c => cases a <;> simp
  rw [e] at h
  exact h
theorem w_ex1i {j : Int} {p : Int → Prop} (h : p j) : ∃ j', [PyData.int j] = [.int j'] ∧ p j' := ⟨_, rfl, h⟩
theorem w_rng2 (h : ml ρ fun ds => ∃ i j, ds = [.int i, .int j] ∧ (-(2 ^ 60) ≤ i ∧ i < 2 ^ 60 ∧ -(2 ^ 60) ≤ j ∧ j < 2 ^ 60 ∧ j - i ≤ 16777216) ∧ Q (span i j)) : mRng2 ml ρ Q := by
  unfold mRng2
  have e : (fun ds : List D => ∃ i j, ds = [.int i, .int j] ∧ (-(2 ^ 60) ≤ i ∧ i < 2 ^ 60 ∧ -(2 ^ 60) ≤ j ∧ j < 2 ^ 60 ∧ j - i ≤ 16777216) ∧ Q (span i j)) = fun ds => match ds with | [.int i, .int j] => -(2 ^ 60) ≤ i ∧ i < 2 ^ 60 ∧ -(2 ^ 60) ≤ j ∧ j < 2 ^ 60 ∧ j - i ≤ 16777216 ∧ Q (span i j) | _ => False := by
    funext ds
    match ds with
    | [] => simp
    | [d] => cases d <;> simp
    | [a, b] => cases a <;> cases b <;> simp [and_assoc]
    | a :: b :: c :: d => cases a <;> cases b <;> simp
  rw [e] at h
  exact h
theorem w_ex2i {a b : Int} {p : Int → Int → Prop} (h : p a b) : ∃ i' j', [PyData.int a, .int b] = [.int i', .int j'] ∧ p i' j' := ⟨_, _, rfl, h⟩
theorem w_ex3i {a b c : Int} {p : Int → Int → Int → Prop} (h : p a b c) : ∃ i' j' k', [PyData.int a, .int b, .int c] = [.int i', .int j', .int k'] ∧ p i' j' k' := ⟨_, _, _, rfl, h⟩
theorem w_for {gm : D → List Sl → (List Sl → Prop) → Prop} {ws : List Nat} (h : ml ρ fun ds => forW (fun d ρ E' => gm d ρ fun ρ2 => m ρ2 ⟨fun ρ3 => E'.nx (wipeE ρ3 ws), E'.rt, fun ρ3 => E'.bk (wipeE ρ3 ws), fun ρ3 => E'.ct (wipeE ρ3 ws)⟩) E ds ρ) : mFor ml gm m ws ρ E := h
theorem w_lc {gm : D → List Sl → (List Sl → Prop) → Prop} {ws : List Nat} (h : ml ρ fun ds => lcW (fun d Q => gm d (wipeE ρ ws) fun ρ2 => c ρ2 fun b => if b = true then me ρ2 fun y => nd y (Q (some y)) else Q none) ds Q) : mLc ml gm c me ws ρ Q := h
theorem w_lc2 {gm gm1 : D → List Sl → (List Sl → Prop) → Prop} {c1 : MT} {ws ws1 : List Nat} (h : ml ρ fun ds => ds.length ≤ 4096 ∧ lc2W (fun d Q => gm d (wipeE ρ ws) fun ρ2 => c ρ2 fun b => if b = true then ml2 ρ2 fun ds1 => ds1.length ≤ 4096 ∧ lcW (fun d1 Q1 => gm1 d1 (wipeE ρ2 ws1) fun ρ3 => c1 ρ3 fun b1 => if b1 = true then me ρ3 fun y => nd y (Q1 (some y)) else Q1 none) ds1 Q else Q []) ds Q) : mLc2 ml gm c ml2 gm1 c1 me ws ws1 ρ Q := h
theorem w_yes (h : B true) : mYes ρ B := h
theorem w_dc {gm : D → List Sl → (List Sl → Prop) → Prop} {ws : List Nat} {Qd : List (D × D) → Prop} (h : ml ρ fun ds => dcW (fun d Q => gm d (wipeE ρ ws) fun ρ2 => c ρ2 fun b => if b = true then me ρ2 fun kd => kyd kd fun key => mf ρ2 fun y => nd y (Q (some (key, y))) else Q none) ds [] Qd) : mDc ml gm c me mf ws ρ Qd := h
theorem w_di {q : List Sl → (List (D × D) → Prop) → Prop} (h : q ρ fun ds => P (.dict ds)) : mDi q ρ P := h
theorem w_kydS {a : Str} {K : Key → Prop} (h : K (.inr a)) : kyd (.str a) K := h
theorem w_kydI {a : Int} {K : Key → Prop} (h : K (.inl a)) : kyd (.int a) K := h
theorem w_dget (h : ma ρ fun d => mb ρ fun k => ∃ kvs key v, d = .dict kvs ∧ keyOf k = some key ∧ lookD kvs key = some v ∧ P v) : mDget ma mb ρ P := by
  unfold mDget
  have e : (fun d => mb ρ fun k => ∃ kvs key v, d = PyData.dict kvs ∧ keyOf k = some key ∧ lookD kvs key = some v ∧ P v) = fun d => mb ρ fun k => match d, keyOf k with | .dict kvs, some key => ∃ v, lookD kvs key = some v ∧ P v | _, _ => False := by
    funext d
    refine congrArg _ (funext fun k => ?_)
    cases keyOf k <;> cases d <;> simp
  rw [e] at h
  exact h
theorem w_en {b : Bool} (h : me ρ fun d => ∃ ds, itemsB b d = some ds ∧ Q (enumD 0 ds)) : mEn b me ρ Q := by
  unfold mEn
  have e : (fun d => ∃ ds, itemsB b d = some ds ∧ Q (enumD 0 ds)) = fun d => match itemsB b d with | some ds => Q (enumD 0 ds) | none => False := by
    funext d
    cases itemsB b d <;> simp
  rw [e] at h
  exact h
theorem w_enT (h : Q ds) : ∃ ds', itemsB true (.tuple ds) = some ds' ∧ Q ds' := ⟨_, rfl, h⟩
theorem w_enL (h : Q ds) : ∃ ds', itemsB false (.list ds) = some ds' ∧ Q ds' := ⟨_, rfl, h⟩
theorem w_zip {b b2 : Bool} (h : ma ρ fun d => mb ρ fun e => ∃ ds es, itemsB b d = some ds ∧ itemsB b2 e = some es ∧ Q (zipD ds es)) : mZip b b2 ma mb ρ Q := by
  unfold mZip
  have e : (fun d => mb ρ fun e => ∃ ds es, itemsB b d = some ds ∧ itemsB b2 e = some es ∧ Q (zipD ds es)) = fun d => mb ρ fun e => match itemsB b d, itemsB b2 e with | some ds, some es => Q (zipD ds es) | _, _ => False := by
    funext d
    refine congrArg _ (funext fun k => ?_)
    cases itemsB b d <;> cases itemsB b2 k <;> simp
  rw [e] at h
  exact h
theorem w_zTT {p : List D → List D → Prop} (h : p ds es) : ∃ ds' es', itemsB true (.tuple ds) = some ds' ∧ itemsB true (.tuple es) = some es' ∧ p ds' es' := ⟨_, _, rfl, rfl, h⟩
theorem w_zTL {p : List D → List D → Prop} (h : p ds es) : ∃ ds' es', itemsB true (.tuple ds) = some ds' ∧ itemsB false (.list es) = some es' ∧ p ds' es' := ⟨_, _, rfl, rfl, h⟩
theorem w_zLT {p : List D → List D → Prop} (h : p ds es) : ∃ ds' es', itemsB false (.list ds) = some ds' ∧ itemsB true (.tuple es) = some es' ∧ p ds' es' := ⟨_, _, rfl, rfl, h⟩
theorem w_zLL {p : List D → List D → Prop} (h : p ds es) : ∃ ds' es', itemsB false (.list ds) = some ds' ∧ itemsB false (.list es) = some es' ∧ p ds' es' := ⟨_, _, rfl, rfl, h⟩
theorem w_catL (h : ma ρ fun d => mb ρ fun e => ∃ xs ys, d = .list xs ∧ e = .list ys ∧ xs.length + ys.length ≤ sizeLine ∧ Q (xs ++ ys)) : mCatL ma mb ρ Q := by
  unfold mCatL
  have e : (fun d => mb ρ fun e => ∃ xs ys, d = PyData.list xs ∧ e = PyData.list ys ∧ xs.length + ys.length ≤ sizeLine ∧ Q (xs ++ ys)) = fun d => mb ρ fun e => match d, e with | .list xs, .list ys => xs.length + ys.length ≤ sizeLine ∧ Q (xs ++ ys) | _, _ => False := by
    funext d
    refine congrArg _ (funext fun k => ?_)
    cases d <;> cases k <;> simp
  rw [e] at h
  exact h
theorem w_exll {p : List D → List D → Prop} (h : p xs ds) : ∃ xs' ys', PyData.list xs = .list xs' ∧ PyData.list ds = .list ys' ∧ p xs' ys' := ⟨_, _, rfl, rfl, h⟩
theorem w_idxT (h : ma ρ fun d => ∃ ds, d = .tuple ds ∧ mb ρ fun e => oIxT (.tuple ds) e P) : mIdxT ma mb ρ P := by rw [fun_t] at h; exact h
theorem w_no {R : Option Int → Prop} (h : R none) : mNo ρ R := h
theorem fun_i {p : Int → Prop} : (fun d : D => ∃ a, d = .int a ∧ p a) = fun d => match d with | .int a => p a | _ => False := by
  funext d
  cases d <;> simp
theorem w_exi {a : Int} {p : Int → Prop} (h : p a) : ∃ a', PyData.int a = .int a' ∧ p a' := ⟨_, rfl, h⟩
theorem w_so {R : Option Int → Prop} (h : me ρ fun d => ∃ a, d = .int a ∧ R (some a)) : mSo me ρ R := by rw [fun_i] at h; exact h
theorem w_slT {lo hi : MO} (h : me ρ fun d => lo ρ fun l => hi ρ fun g => ∃ ds, d = .tuple ds ∧ P (.tuple (cutD ds l g))) : mSlT me lo hi ρ P := by
  unfold mSlT
  have e : (fun d => lo ρ fun l => hi ρ fun g => ∃ ds, d = PyData.tuple ds ∧ P (.tuple (cutD ds l g))) = fun d => lo ρ fun l => hi ρ fun h => match d with | .tuple ds => P (.tuple (cutD ds l h)) | _ => False := by
    funext d
    refine congrArg _ (funext fun l => congrArg _ (funext fun g => ?_))
    cases d <;> simp
  rw [e] at h
  exact h
theorem w_slL {lo hi : MO} (h : me ρ fun d => lo ρ fun l => hi ρ fun g => ∃ ds, d = .list ds ∧ Q (cutD ds l g)) : mSlL me lo hi ρ Q := by
  unfold mSlL
  have e : (fun d => lo ρ fun l => hi ρ fun g => ∃ ds, d = PyData.list ds ∧ Q (cutD ds l g)) = fun d => lo ρ fun l => hi ρ fun h => match d with | .list ds => Q (cutD ds l h) | _ => False := by
    funext d
    refine congrArg _ (funext fun l => congrArg _ (funext fun g => ?_))
    cases d <;> simp
  rw [e] at h
  exact h
theorem w_repL (h : ml ρ fun ds => mb ρ fun d => ∃ k, d = .int k ∧ (-(2 ^ 63) ≤ k ∧ k < 2 ^ 63 ∧ ds.length * k.toNat ≤ sizeLine) ∧ Q (List.replicate k.toNat ds).flatten) : mRepL ml mb ρ Q := by
  unfold mRepL
  have e : (fun ds : List D => mb ρ fun d => ∃ k, d = PyData.int k ∧ (-(2 ^ 63) ≤ k ∧ k < 2 ^ 63 ∧ ds.length * k.toNat ≤ sizeLine) ∧ Q (List.replicate k.toNat ds).flatten) = fun ds => mb ρ fun d => match d with | .int k => -(2 ^ 63) ≤ k ∧ k < 2 ^ 63 ∧ ds.length * k.toNat ≤ sizeLine ∧ Q (List.replicate k.toNat ds).flatten | _ => False := by
    funext ds
    refine congrArg _ (funext fun d => ?_)
    cases d <;> simp [and_assoc]
  rw [e] at h
  exact h
theorem w_rng3 (h : ml ρ fun ds => ∃ i j c, ds = [.int i, .int j, .int c] ∧ (c = -1 ∧ -(2 ^ 60) ≤ i ∧ i < 2 ^ 60 ∧ -(2 ^ 60) ≤ j ∧ j < 2 ^ 60 ∧ i - j ≤ 16777216) ∧ Q (down i j)) : mRng3 ml ρ Q := by
  unfold mRng3
  have e : (fun ds : List D => ∃ i j c, ds = [PyData.int i, .int j, .int c] ∧ (c = -1 ∧ -(2 ^ 60) ≤ i ∧ i < 2 ^ 60 ∧ -(2 ^ 60) ≤ j ∧ j < 2 ^ 60 ∧ i - j ≤ 16777216) ∧ Q (down i j)) = fun ds => match ds with | [.int i, .int j, .int c] => c = -1 ∧ -(2 ^ 60) ≤ i ∧ i < 2 ^ 60 ∧ -(2 ^ 60) ≤ j ∧ j < 2 ^ 60 ∧ i - j ≤ 16777216 ∧ Q (down i j) | _ => False := by
    funext ds
    match ds with
    | [] => simp
    | [a] => cases a <;> simp
    | [a, b] => cases a <;> cases b <;> simp
    | [.int a, .int b, .int c] => exact propext ⟨fun ⟨_, _, _, e, ⟨h1, h2, h3, h4, h5, h6⟩, h⟩ => by injection e with e1 e2; injection e2 with e2 e3; injection e3 with e3 e4; cases e1; cases e2; cases e3; exact ⟨h1, h2, h3, h4, h5, h6, h⟩, fun ⟨h1, h2, h3, h4, h5, h6, h⟩ => ⟨_, _, _, rfl, ⟨h1, h2, h3, h4, h5, h6⟩, h⟩⟩
    | [.int a, .int b, .none] | [.int a, .int b, .bool _] | [.int a, .int b, .str _] | [.int a, .int b, .list _] | [.int a, .int b, .tuple _] | [.int a, .int b, .dict _] => simp
    | [.int a, .none, _] | [.int a, .bool _, _] | [.int a, .str _, _] | [.int a, .list _, _] | [.int a, .tuple _, _] | [.int a, .dict _, _] => simp
    | [.none, _, _] | [.bool _, _, _] | [.str _, _, _] | [.list _, _, _] | [.tuple _, _, _] | [.dict _, _, _] => simp
    | a :: b :: c :: d :: e => cases a <;> cases b <;> cases c <;> simp
  rw [e] at h
  exact h
theorem w_leLe {mc : ME} (h : ma ρ fun x => mb ρ fun y => ∃ i j, x = .int i ∧ y = .int j ∧ if i ≤ j then mc ρ (fun z => ∃ k, z = .int k ∧ P (.bool (decide (j ≤ k)))) else P (.bool false)) : mLeLe ma mb mc ρ P := by
  unfold mLeLe
  have e : (fun x => mb ρ fun y => ∃ i j, x = PyData.int i ∧ y = PyData.int j ∧ if i ≤ j then mc ρ (fun z => ∃ k, z = .int k ∧ P (.bool (decide (j ≤ k)))) else P (.bool false)) = fun x => mb ρ fun y => match x, y with
    | .int i, .int j => if i ≤ j then mc ρ fun z => match z with
      | .int k => P (.bool (decide (j ≤ k)))
      | _ => False
      else P (.bool false)
    | _, _ => False := by
    funext x
    refine congrArg _ (funext fun y => ?_)
    have e2 : ∀ j : Int, (fun z => ∃ k, z = PyData.int k ∧ P (.bool (decide (j ≤ k)))) = fun z => match z with | .int k => P (.bool (decide (j ≤ k))) | _ => False := fun j => fun_i
    cases x <;> cases y <;> simp [e2] <;> rfl
  rw [e] at h
  exact h
theorem fun_s {p : Str → Prop} : (fun d : D => ∃ a, d = .str a ∧ p a) = fun d => match d with | .str a => p a | _ => False := by
  funext d
  cases d <;> simp
theorem w_exs {a : Str} {p : Str → Prop} (h : p a) : ∃ a', PyData.str a = .str a' ∧ p a' := ⟨_, rfl, h⟩
theorem w_itS (h : me ρ fun d => ∃ a, d = .str a ∧ a.length ≤ sizeLine ∧ Q (signs a)) : mItS me ρ Q := by rw [fun_s] at h; exact h
theorem w_exii {a b : Int} {p : Int → Int → Prop} (h : p a b) : ∃ a' b', PyData.int a = .int a' ∧ PyData.int b = .int b' ∧ p a' b' := ⟨_, _, rfl, rfl, h⟩
theorem w_split (h : ma ρ fun d => ∃ x, d = .str x ∧ mb ρ fun e => ∃ y, e = .str y ∧ ((y.length == 0) = false ∧ x.length + 2 ≤ sizeLine) ∧ Q ((Txt.split x y).map .str)) : mSplit ma mb ρ Q := by
  unfold mSplit
  have e : ∀ x : Str, (fun e => ∃ y, e = PyData.str y ∧ ((y.length == 0) = false ∧ x.length + 2 ≤ sizeLine) ∧ Q ((Txt.split x y).map .str)) = fun e => match e with | .str y => (y.length == 0) = false ∧ x.length + 2 ≤ sizeLine ∧ Q ((Txt.split x y).map .str) | _ => False := fun x => by
    funext d
    cases d <;> simp [and_assoc]
  simp only [e] at h
  rw [fun_s] at h
  exact h
/- the well -/
theorem w_wset {w : Addr} (hg : gt ρ i = .rw (.ref w)) (h : me ρ fun d => ∃ n, d = .int n ∧ 0 ≤ n ∧ f ρ) : mWset w i me ρ ⟨f, r, bk, ct⟩ := ⟨hg, by rw [fun_i] at h; exact h⟩
theorem w_wdiv {w : Addr} (hg : gt ρ i = .rw (.ref w)) (h : me ρ fun d => ∃ n b, d = .tuple [.int n, b] ∧ 0 ≤ n ∧ f (ρ.set l (.da b))) : mWdiv w i l me ρ ⟨f, r, bk, ct⟩ := ⟨hg, by
  have e : (fun d : D => ∃ n b, d = .tuple [.int n, b] ∧ 0 ≤ n ∧ f (ρ.set l (.da b))) = fun d => match d with | .tuple [.int n, b] => 0 ≤ n ∧ f (ρ.set l (.da b)) | _ => False := by
    funext d
    match d with
    | .none | .bool _ | .int _ | .str _ | .list _ | .dict _ => simp
    | .tuple [] | .tuple [_] | .tuple (_ :: _ :: _ :: _) => simp
    | .tuple [.int n, b] => exact propext ⟨fun ⟨_, _, e, h⟩ => by injection e with e; injection e with e1 e2; injection e2 with e2 e3; cases e1; cases e2; exact h, fun h => ⟨_, _, rfl, h⟩⟩
    | .tuple [.none, _] | .tuple [.bool _, _] | .tuple [.str _, _] | .tuple [.list _, _] | .tuple [.tuple _, _] | .tuple [.dict _, _] => simp
  rw [e] at h
  exact h⟩
theorem w_divmod {a b : Int} (hc : CDiv a b) (h : P (.tuple [.int (a / b), .int (a % b)])) : oDivmod [.int a, .int b] P := ⟨hc, h⟩
theorem w_wix {w : Addr} (hg : gt ρ i = .rw (.ref w)) (h : ∀ n : Int, 0 ≤ n → P (.int n)) : mWix w i ρ P := ⟨hg, h⟩
end
/- loops and comprehensions -/
theorem lc_map {st : D → (Option D → Prop) → Prop} (f : D → D) : ∀ (ds : List D) {P : List D → Prop}, (∀ d ∈ ds, ∀ Q : Option D → Prop, Q (some (f d)) → st d Q) → P (ds.map f) → lcW st ds P
  | [], _, _, h => h
  | d :: ds, P, hs, h => hs d List.mem_cons_self _ (lc_map f ds (P := fun r => P (f d :: r)) (fun e he => hs e (List.mem_cons_of_mem _ he)) h)
theorem lc_fil {st : D → (Option D → Prop) → Prop} (g : D → Option D) : ∀ (ds : List D) {P : List D → Prop}, (∀ d ∈ ds, ∀ Q : Option D → Prop, Q (g d) → st d Q) → P (ds.flatMap fun d => (g d).toList) → lcW st ds P
  | [], _, _, h => h
  | d :: ds, P, hs, h => hs d List.mem_cons_self _ (lc_fil g ds (P := fun r => P ((g d).toList ++ r)) (fun e he => hs e (List.mem_cons_of_mem _ he)) (by simpa using h))
theorem lc_rel {st : D → (Option D → Prop) → Prop} (R : D → D → Prop) : ∀ (ds : List D) {P : List D → Prop}, (∀ d ∈ ds, ∀ Q : Option D → Prop, (∀ y, R d y → Q (some y)) → st d Q) → (∀ ys, Paired R ds ys → P ys) → lcW st ds P
  | [], _, _, h => h [] .nil
  | d :: ds, P, hs, h => hs d List.mem_cons_self _ fun y hy => lc_rel R ds (P := fun r => P (y :: r)) (fun e he => hs e (List.mem_cons_of_mem _ he)) fun ys h' => h _ (.cons hy h')
/-- typed: the items are enc x, each gives dec x -/
theorem lc_mapT {α : Type} {st : D → (Option D → Prop) → Prop} {enc dec : α → D} : ∀ (xs : List α) {P : List D → Prop}, (∀ x ∈ xs, ∀ Q : Option D → Prop, Q (some (dec x)) → st (enc x) Q) → P (xs.map dec) → lcW st (xs.map enc) P
  | [], _, _, h => h
  | x :: xs, P, hs, h => hs x List.mem_cons_self _ (lc_mapT xs (P := fun r => P (dec x :: r)) (fun e he => hs e (List.mem_cons_of_mem _ he)) h)
theorem lc_filT {α : Type} {st : D → (Option D → Prop) → Prop} {enc dec : α → D} (p : α → Bool) : ∀ (xs : List α) {P : List D → Prop}, (∀ x ∈ xs, ∀ Q : Option D → Prop, (p x = true → Q (some (dec x))) → (p x = false → Q none) → st (enc x) Q) → P ((xs.filter p).map dec) → lcW st (xs.map enc) P
  | [], _, _, h => h
  | x :: xs, P, hs, h => hs x List.mem_cons_self _ (fun e => lc_filT p xs (P := fun r => P (dec x :: r)) (fun e he => hs e (List.mem_cons_of_mem _ he)) (by rw [List.filter_cons_of_pos e] at h; exact h)) (fun e => lc_filT p xs (P := fun r => P r) (fun e he => hs e (List.mem_cons_of_mem _ he)) (by rw [List.filter_cons_of_neg (by rw [e]; simp)] at h; exact h))
theorem lc_relT {α β : Type} {st : D → (Option D → Prop) → Prop} {enc : α → D} {dec : β → D} (R : α → β → Prop) : ∀ (xs : List α) {P : List D → Prop}, (∀ x ∈ xs, ∀ Q : Option D → Prop, (∀ y, R x y → Q (some (dec y))) → st (enc x) Q) → (∀ ys, Paired R xs ys → P (ys.map dec)) → lcW st (xs.map enc) P
  | [], _, _, h => h [] .nil
  | x :: xs, P, hs, h => hs x List.mem_cons_self _ fun y hy => lc_relT R xs (P := fun r => P (dec y :: r)) (fun e he => hs e (List.mem_cons_of_mem _ he)) fun ys h' => h (y :: ys) (.cons hy h')
theorem for_inv {st : D → List Sl → PEn → Prop} {E : PEn} (I : List D → List Sl → Prop) : ∀ (ds : List D) (ρ : List Sl), (∀ d r ρ (k : List Sl → Prop), I (d :: r) ρ → (∀ ρ', I r ρ' → k ρ') → st d ρ ⟨k, E.rt, E.nx, k⟩) → I ds ρ → (∀ ρ', I [] ρ' → E.nx ρ') → forW st E ds ρ
  | [], ρ, _, h, hn => hn ρ h
  | d :: ds, ρ, hs, h, hn => hs d ds ρ _ h fun ρ' h' => for_inv I ds ρ' hs h' hn
/-- typed: the items are enc x; I (gone) (left) -/
theorem for_invT {α : Type} {enc : α → D} {m : MS} {gm : D → List Sl → (List Sl → Prop) → Prop} {ws : List Nat} {f bk ct : List Sl → Prop} {r : D → Prop} (I : List α → List α → List Sl → Prop) (xs : List α) {ρ : List Sl}
    (hs : ∀ (u v : List α) (x : α) (ρ : List Sl) (k : List Sl → Prop), xs = u ++ x :: v → I u (x :: v) ρ → (∀ ρ', I (u ++ [x]) v ρ' → k ρ') → gm (enc x) ρ fun ρ2 => m ρ2 ⟨fun ρ3 => k (wipeE ρ3 ws), r, fun ρ3 => f (wipeE ρ3 ws), fun ρ3 => k (wipeE ρ3 ws)⟩)
    (h0 : I [] xs ρ) (hn : ∀ ρ', I xs [] ρ' → f ρ') : forW (fun d ρ E' => gm d ρ fun ρ2 => m ρ2 ⟨fun ρ3 => E'.nx (wipeE ρ3 ws), E'.rt, fun ρ3 => E'.bk (wipeE ρ3 ws), fun ρ3 => E'.ct (wipeE ρ3 ws)⟩) ⟨f, r, bk, ct⟩ (xs.map enc) ρ := by
  refine for_inv (fun r ρ => ∃ u v, xs = u ++ v ∧ r = v.map enc ∧ I u v ρ) _ _ ?_ ⟨[], xs, rfl, rfl, h0⟩ ?_
  · rintro d t ρ k ⟨u, v, e, ev, hI⟩ hk
    cases v with
    | nil => cases ev
    | cons x v =>
      obtain ⟨rfl, rfl⟩ := List.cons.inj ev
      exact hs u v x ρ k e hI fun ρ' h' => hk ρ' ⟨u ++ [x], v, by rw [e]; simp, rfl, h'⟩
  · rintro ρ' ⟨u, v, e, ev, hI⟩
    have : v = [] := by simpa using ev.symm
    subst this
    rw [List.append_nil] at e
    subst e
    exact hn ρ' hI
theorem dc_map {st : D → (Option (Key × D) → Prop) → Prop} (f : D → Key × D) : ∀ (ds : List D) (acc : List (D × D)) {P : List (D × D) → Prop}, (∀ d ∈ ds, ∀ Q : Option (Key × D) → Prop, Q (some (f d)) → st d Q) → P (putAll acc (ds.map f)) → dcW st ds acc P
  | [], _, _, _, h => h
  | d :: ds, acc, P, hs, h => hs d List.mem_cons_self _ (dc_map f ds _ (fun e he => hs e (List.mem_cons_of_mem _ he)) h)
theorem dc_mapT {α : Type} {enc : α → D} {st : D → (Option (Key × D) → Prop) → Prop} (f : α → Key × D) : ∀ (xs : List α) (acc : List (D × D)) {P : List (D × D) → Prop}, (∀ x ∈ xs, ∀ Q : Option (Key × D) → Prop, Q (some (f x)) → st (enc x) Q) → P (putAll acc (xs.map f)) → dcW st (xs.map enc) acc P
  | [], _, _, _, h => h
  | d :: ds, acc, P, hs, h => hs d List.mem_cons_self _ (dc_mapT f ds _ (fun e he => hs e (List.mem_cons_of_mem _ he)) h)
theorem lc2_T {α : Type} {st : D → (List D → Prop) → Prop} {enc : α → D} (g : α → List D) : ∀ (xs : List α) {P : List D → Prop}, (∀ x ∈ xs, ∀ Q : List D → Prop, Q (g x) → st (enc x) Q) → P (xs.flatMap g) → lc2W st (xs.map enc) P
  | [], _, _, h => h
  | x :: xs, P, hs, h => hs x List.mem_cons_self _ (lc2_T g xs (P := fun r => P (g x ++ r)) (fun e he => hs e (List.mem_cons_of_mem _ he)) (by simpa using h))
/- types -/
theorem ty_int_int (n : Int) : isTy "int" (.int n) = some true := by simp only [isTy]; decide +kernel
theorem ty_int_bool (n : Int) : isTy "bool" (.int n) = some false := by simp only [isTy]; decide +kernel
theorem ty_int_tup (n : Int) : isTy "tuple" (.int n) = some false := by simp only [isTy]; decide +kernel
theorem ty_int_str (n : Int) : isTy "str" (.int n) = some false := by simp only [isTy]; decide +kernel
theorem ty_tup_tup (n : List D) : isTy "tuple" (.tuple n) = some true := by simp only [isTy]; decide +kernel
theorem ty_tup_int (n : List D) : isTy "int" (.tuple n) = some false := by simp only [isTy]; decide +kernel
theorem ty_tup_bool (n : List D) : isTy "bool" (.tuple n) = some false := by simp only [isTy]; decide +kernel
theorem ty_tup_str (n : List D) : isTy "str" (.tuple n) = some false := by simp only [isTy]; decide +kernel
theorem ty_str_tup (n : Str) : isTy "tuple" (.str n) = some false := by simp only [isTy]; decide +kernel
theorem ty_str_str (n : Str) : isTy "str" (.str n) = some true := by simp only [isTy]; decide +kernel
theorem ty_str_int (n : Str) : isTy "int" (.str n) = some false := by simp only [isTy]; decide +kernel
theorem ty_str_bool (n : Str) : isTy "bool" (.str n) = some false := by simp only [isTy]; decide +kernel
theorem ty_none_tup : isTy "tuple" .none = some false := by simp only [isTy]; decide +kernel
theorem ty_none_int : isTy "int" .none = some false := by simp only [isTy]; decide +kernel
theorem ty_none_bool : isTy "bool" .none = some false := by simp only [isTy]; decide +kernel
theorem ty_none_str : isTy "str" .none = some false := by simp only [isTy]; decide +kernel
theorem ty_bool_tup (b : Bool) : isTy "tuple" (.bool b) = some false := by simp only [isTy]; decide +kernel
theorem ty_bool_int (b : Bool) : isTy "int" (.bool b) = some true := by simp only [isTy]; decide +kernel
theorem ty_bool_bool (b : Bool) : isTy "bool" (.bool b) = some true := by simp only [isTy]; decide +kernel
theorem ty_bool_str (b : Bool) : isTy "str" (.bool b) = some false := by simp only [isTy]; decide +kernel
theorem w_ty {T : String} {d : D} {b : Bool} {p : Bool → Prop} (e : isTy T d = some b) (h : p b) : ∃ b, isTy T d = some b ∧ p b := ⟨b, e, h⟩
end Pu

set_option Elab.async false
set_option linter.all false
set_option maxRecDepth 100000
set_option maxHeartbeats 4000000
/-! Rules for typed data: equality, membership, sums, order. -/
namespace Pu
open PySem PySem.Spec L2
open PyProof.Rows hiding St
section
variable {P : D → Prop} {Q : List D → Prop} {d e : D} {ds es : List D}
/-! shapes -/
def Shp (n : Nat) (d : D) : Prop := PyData.canLay0 d = true ∧ d.depth ≤ n
theorem Shp.ok {n : Nat} (h : Shp n d) (hn : n ≤ 64) : SeqAt.shaped d = true := by
  unfold SeqAt.shaped
  rw [Bool.and_eq_true]
  exact ⟨h.1, decide_eq_true (Nat.le_trans h.2 hn)⟩
theorem Shp.int {n : Nat} {i : Int} : Shp n (.int i) := ⟨by simp only [PyData.canLay0], by simp only [PyData.depth]; omega⟩
theorem Shp.bool {n : Nat} {i : Bool} : Shp n (.bool i) := ⟨by simp only [PyData.canLay0], by simp only [PyData.depth]; omega⟩
theorem Shp.none {n : Nat} : Shp n .none := ⟨by simp only [PyData.canLay0], by simp only [PyData.depth]; omega⟩
theorem Shp.str {n : Nat} {z : Str} (h : PyData.strOk z = true) : Shp n (.str z) := ⟨by simp only [PyData.canLay0]; exact h, by simp only [PyData.depth]; omega⟩
theorem lay_all (h : ∀ d ∈ ds, PyData.canLay0 d = true) : PyData.canLayAll0 ds = true := by
  induction ds with
  | nil => simp only [PyData.canLayAll0]
  | cons d ds ih =>
    simp only [PyData.canLayAll0]
    rw [h d List.mem_cons_self, ih fun e he => h e (List.mem_cons_of_mem _ he)]
    rfl
theorem depth_all {n : Nat} (h : ∀ d ∈ ds, d.depth ≤ n) : PyData.depthAll ds ≤ n := by
  induction ds with
  | nil => simp only [PyData.depthAll]; omega
  | cons d ds ih =>
    simp only [PyData.depthAll]
    have := h d List.mem_cons_self
    have := ih fun e he => h e (List.mem_cons_of_mem _ he)
    omega
theorem Shp.tup {n : Nat} (h : ∀ d ∈ ds, Shp n d) : Shp (n + 1) (.tuple ds) := ⟨by rw [PyData.canLay0]; exact lay_all fun d hd => (h d hd).1, by
  have := depth_all fun d hd => (h d hd).2
  simp only [PyData.depth]; omega⟩
theorem Shp.lst {n : Nat} (h : ∀ d ∈ ds, Shp n d) : Shp (n + 1) (.list ds) := ⟨by rw [PyData.canLay0]; exact lay_all fun d hd => (h d hd).1, by
  have := depth_all fun d hd => (h d hd).2
  simp only [PyData.depth]; omega⟩
theorem sh_int {i : Int} : SeqAt.shaped (.int i) = true := (Shp.int (n := 0)).ok (by decide)
theorem sh_none : SeqAt.shaped .none = true := (Shp.none (n := 0)).ok (by decide)
theorem sh_bool {i : Bool} : SeqAt.shaped (.bool i) = true := (Shp.bool (n := 0)).ok (by decide)
theorem sh_str {z : Str} (h : PyData.strOk z = true) : SeqAt.shaped (.str z) = true := (Shp.str (n := 0) h).ok (by decide)
theorem sh_tup0 : SeqAt.shaped (.tuple []) = true := (Shp.tup (n := 0) (by intro d h; cases h)).ok (by decide)
theorem sh_lst0 : SeqAt.shaped (.list []) = true := (Shp.lst (n := 0) (by intro d h; cases h)).ok (by decide)
/-! equality -/
theorem w_eqI {a b : Int} (h : P (.bool (decide (a = b)))) : oEq false (.int a) (.int b) P := ⟨sh_int, sh_int, by
  have e : PyData.eqv (.int a) (.int b) = decide (a = b) := by simp only [PyData.eqv]; exact PySem.W.beq_decide a b
  rw [e]; exact h⟩
theorem w_neI {a b : Int} (h : P (.bool (!decide (a = b)))) : oEq true (.int a) (.int b) P := ⟨sh_int, sh_int, by
  have e : PyData.eqv (.int a) (.int b) = decide (a = b) := by simp only [PyData.eqv]; exact PySem.W.beq_decide a b
  rw [e]; exact h⟩
theorem w_eqB {a b : Bool} (h : P (.bool (a == b))) : oEq false (.bool a) (.bool b) P := ⟨sh_bool, sh_bool, by
  have e : PyData.eqv (.bool a) (.bool b) = (a == b) := by simp only [PyData.eqv]
  rw [e]; exact h⟩
theorem w_neB {a b : Bool} (h : P (.bool (!(a == b)))) : oEq true (.bool a) (.bool b) P := ⟨sh_bool, sh_bool, by
  have e : PyData.eqv (.bool a) (.bool b) = (a == b) := by simp only [PyData.eqv]
  rw [e]; exact h⟩
theorem w_eqBtt (h : P (.bool true)) : oEq false (.bool true) (.bool true) P := w_eqB h
theorem w_neBtt (h : P (.bool false)) : oEq true (.bool true) (.bool true) P := w_neB h
theorem w_eqBtf (h : P (.bool false)) : oEq false (.bool true) (.bool false) P := w_eqB h
theorem w_neBtf (h : P (.bool true)) : oEq true (.bool true) (.bool false) P := w_neB h
theorem w_eqBft (h : P (.bool false)) : oEq false (.bool false) (.bool true) P := w_eqB h
theorem w_neBft (h : P (.bool true)) : oEq true (.bool false) (.bool true) P := w_neB h
theorem w_eqBff (h : P (.bool true)) : oEq false (.bool false) (.bool false) P := w_eqB h
theorem w_neBff (h : P (.bool false)) : oEq true (.bool false) (.bool false) P := w_neB h
theorem w_eqS {a b : Str} (ha : PyData.strOk a = true) (hb : PyData.strOk b = true) (h : P (.bool (decide (a = b)))) : oEq false (.str a) (.str b) P := ⟨sh_str ha, sh_str hb, by
  have e : PyData.eqv (.str a) (.str b) = decide (a = b) := by simp only [PyData.eqv]; exact PySem.W.beq_decide a b
  rw [e]; exact h⟩
theorem w_eqIN {a : Int} (h : P (.bool false)) : oEq false (.int a) .none P := ⟨sh_int, sh_none, by
  have e : PyData.eqv (.int a) .none = false := by simp only [PyData.eqv]
  rw [e]; exact h⟩
theorem eqvAll_nil : ∀ {ds : List D}, PyData.eqvAll ds [] = decide (ds = [])
  | [] => by simp only [PyData.eqvAll, decide_true]
  | d :: ds => by simp [PyData.eqvAll]
theorem w_eqT0 (hd : SeqAt.shaped (.tuple ds) = true) (h : P (.bool (decide (ds = [])))) : oEq false (.tuple ds) (.tuple []) P := ⟨hd, sh_tup0, by
  have e : PyData.eqv (.tuple ds) (.tuple []) = decide (ds = []) := by simp only [PyData.eqv]; exact eqvAll_nil
  rw [e]; exact h⟩
theorem w_eqL0 (hd : SeqAt.shaped (.list ds) = true) (h : P (.bool (decide (ds = [])))) : oEq false (.list ds) (.list []) P := ⟨hd, sh_lst0, by
  have e : PyData.eqv (.list ds) (.list []) = decide (ds = []) := by simp only [PyData.eqv]; exact eqvAll_nil
  rw [e]; exact h⟩
theorem w_neL0 (hd : SeqAt.shaped (.list ds) = true) (h : P (.bool (!decide (ds = [])))) : oEq true (.list ds) (.list []) P := ⟨hd, sh_lst0, by
  have e : PyData.eqv (.list ds) (.list []) = decide (ds = []) := by simp only [PyData.eqv]; exact eqvAll_nil
  rw [e]; exact h⟩
theorem w_eqLL (h : P (.bool true)) : oEq false (.list []) (.list []) P := w_eqL0 sh_lst0 h
theorem w_neLL (h : P (.bool false)) : oEq true (.list []) (.list []) P := w_neL0 sh_lst0 h
theorem w_eqTT (h : P (.bool true)) : oEq false (.tuple []) (.tuple []) P := w_eqT0 sh_tup0 h
/-! texts among texts -/
theorem sTexts_map : ∀ xs : List Str, sTexts (xs.map PyData.str) = some xs
  | [] => rfl
  | x :: xs => by rw [List.map_cons]; show (sTexts (xs.map PyData.str)).map (x :: ·) = _; rw [sTexts_map xs]; rfl
theorem any_dec {z : Str} {xs : List Str} : xs.any (fun y => decide (y = z)) = decide (z ∈ xs) := by
  rw [Bool.eq_iff_iff]
  simp
theorem w_inT {x : Str} {xs : List Str} (h : P (.bool (decide (x ∈ xs)))) : oInS false (.str x) (.tuple (xs.map .str)) P := ⟨xs, sTexts_map xs, by rw [any_dec]; exact h⟩
theorem w_inL {x : Str} {xs : List Str} (h : P (.bool (decide (x ∈ xs)))) : oInS false (.str x) (.list (xs.map .str)) P := ⟨xs, sTexts_map xs, by rw [any_dec]; exact h⟩
theorem w_niT {x : Str} {xs : List Str} (h : P (.bool (!decide (x ∈ xs)))) : oInS true (.str x) (.tuple (xs.map .str)) P := ⟨xs, sTexts_map xs, by rw [any_dec]; exact h⟩
theorem w_niL {x : Str} {xs : List Str} (h : P (.bool (!decide (x ∈ xs)))) : oInS true (.str x) (.list (xs.map .str)) P := ⟨xs, sTexts_map xs, by rw [any_dec]; exact h⟩
theorem w_ni0 {x : Str} (h : P (.bool true)) : oInS true (.str x) (.tuple []) P := ⟨[], rfl, h⟩
theorem w_in0 {x : Str} (h : P (.bool false)) : oInS false (.str x) (.tuple []) P := ⟨[], rfl, h⟩
/-! all, sum -/
theorem bools_map {α : Type} (f : α → Bool) : ∀ xs : List α, bools (xs.map fun x => .bool (f x)) = some (xs.map f)
  | [] => rfl
  | x :: xs => by rw [List.map_cons]; show (bools (xs.map fun x => .bool (f x))).map (f x :: ·) = _; rw [bools_map f xs]; rfl
theorem w_all {α : Type} {f : α → Bool} {xs : List α} (h : P (.bool (xs.all f))) : oAll [.list (xs.map fun x => .bool (f x))] P := ⟨_, bools_map f xs, by
  have e : (xs.map f).all _root_.id = xs.all f := by simp [List.all_map]
  rw [e]; exact h⟩
theorem ints_map {α : Type} (f : α → Int) : ∀ xs : List α, intsD (xs.map fun x => .int (f x)) = some (xs.map f)
  | [] => rfl
  | x :: xs => by rw [List.map_cons]; show (intsD (xs.map fun x => .int (f x))).map (f x :: ·) = _; rw [ints_map f xs]; rfl
theorem w_sum {α : Type} {f : α → Int} {xs : List α} (h : P (.int (xs.map f).sum)) : oSum [.list (xs.map fun x => .int (f x))] P := ⟨_, ints_map f xs, h⟩
/-! index -/
theorem at_map {α : Type} {enc : α → D} {xs : List α} {i : Nat} {x : α} (h : xs[i]? = some x) : atI (xs.map enc) (i : Int) = some (enc x) := atI_nat (by rw [List.getElem?_map, h]; rfl)
theorem w_idx {x : Str} {xs : List Str} (hx : x ∈ xs) (h : P (.int ((xs.idxOf x : Nat) : Int))) : oIxT (.tuple (xs.map .str)) (.str x) P := ⟨xs, sTexts_map xs, hx, h⟩
/-! zip -/
theorem zip_map {α β : Type} {f : α → D} {g : β → D} : ∀ (xs : List α) (ys : List β), zipD (xs.map f) (ys.map g) = (xs.zip ys).map fun p => .tuple [f p.1, g p.2]
  | [], _ => by simp [zipD]
  | _ :: _, [] => by simp [zipD]
  | x :: xs, y :: ys => by simp only [List.map_cons, zipD, List.zip_cons_cons, zip_map xs ys]
/-! dicts -/
theorem look_put {kvs : List (D × D)} {k k2 : Key} {d : D} : lookD (putD kvs k d) k2 = if k = k2 then some d else lookD kvs k2 := by
  have kk : ∀ k : Key, keyOf (kD k) = some k := fun k => by cases k <;> rfl
  induction kvs with
  | nil =>
    unfold putD lookD
    simp only [List.any_nil, Bool.false_eq_true, if_false, List.nil_append, List.find?_cons, List.find?_nil, kk]
    by_cases h : k = k2 <;> simp [h]
  | cons p kvs ih =>
    unfold putD lookD at ih ⊢
    simp only [List.any_cons]
    by_cases hp : keyOf p.1 = some k
    · simp only [hp, decide_true, Bool.true_or, if_true, List.map_cons, List.find?_cons]
      by_cases h : k = k2
      · simp [h]
      · have h' : ¬ (some k = some k2) := fun e => h (Option.some.inj e)
        simp only [h', decide_false, if_neg h]
        by_cases ha : (kvs.any fun p => decide (keyOf p.1 = some k)) = true
        · simp only [ha, if_true] at ih
          rw [if_neg h] at ih
          exact ih
        · have hm : kvs.map (fun p => if keyOf p.1 = some k then (p.1, d) else p) = kvs := by
            have : ∀ p ∈ kvs, keyOf p.1 ≠ some k := fun p hp e => ha (List.any_eq_true.mpr ⟨p, hp, decide_eq_true e⟩)
            calc kvs.map (fun p => if keyOf p.1 = some k then (p.1, d) else p) = kvs.map _root_.id := List.map_congr_left fun p hp => by rw [if_neg (this p hp)]; rfl
              _ = kvs := List.map_id kvs
          rw [hm]
    · simp only [hp, decide_false, Bool.false_or]
      by_cases ha : (kvs.any fun p => decide (keyOf p.1 = some k)) = true
      · simp only [ha, if_true, List.map_cons, if_neg hp, List.find?_cons] at ih ⊢
        by_cases h2 : keyOf p.1 = some k2
        · have : ¬ k = k2 := fun e => hp (by rw [e]; exact h2)
          simp [h2, this]
        · simp only [h2, decide_false]
          exact ih
      · simp only [Bool.not_eq_true] at ha
        simp only [ha, Bool.false_eq_true, if_false, List.cons_append, List.find?_cons] at ih ⊢
        by_cases h2 : keyOf p.1 = some k2
        · have : ¬ k = k2 := fun e => hp (by rw [e]; exact h2)
          simp [h2, this]
        · simp only [h2, decide_false]
          exact ih
/-- a dict of pairs whose values hang on the keys alone -/
theorem look_all {F : Key → D} : ∀ (kds : List (Key × D)) (kvs : List (D × D)) {k : Key}, (∀ p ∈ kds, p.2 = F p.1) → (lookD kvs k = some (F k) ∨ ∃ p ∈ kds, p.1 = k) → lookD (putAll kvs kds) k = some (F k)
  | [], kvs, k, _, h => by
    rcases h with h | ⟨p, hp, _⟩
    · exact h
    · cases hp
  | q :: kds, kvs, k, hF, h => by
    show lookD (putAll (putD kvs q.1 q.2) kds) k = _
    refine look_all kds _ (fun p hp => hF p (List.mem_cons_of_mem _ hp)) ?_
    rw [look_put]
    by_cases e : q.1 = k
    · rw [if_pos e, hF q List.mem_cons_self, e]
      exact .inl rfl
    · rw [if_neg e]
      rcases h with h | ⟨p, hp, e2⟩
      · exact .inl h
      · rcases List.mem_cons.mp hp with rfl | hp
        · exact (e e2).elim
        · exact .inr ⟨p, hp, e2⟩
theorem range_at {n : Nat} {u v : List Nat} {i : Nat} (e : List.range n = u ++ i :: v) : i = u.length ∧ u.length < n := by
  have h1 : u.length < n := by
    have := congrArg List.length e
    simp at this
    omega
  have := congrArg (fun l => l[u.length]?) e
  simp at this
  rw [List.getElem?_range h1] at this
  exact ⟨by simpa using this.symm, h1⟩
/-! least of typed data -/
open PySem.W in
theorem w_minD {α : Type} [DecidableEq α] [DatumOrd α] [Pm.StrictOrd α] {xs : List α} {m : α} (hd : Datum.depth α ≤ 60) (hm : m ∈ xs) (hl : ∀ y ∈ xs, DatumOrd.lt y m = false) (h : P (Datum.toD m)) : oMinD [.list (xs.map Datum.toD)] P := by
  cases xs with
  | nil => cases hm
  | cons x xs =>
    have e : minOf x xs = m := Pm.StrictOrd.tri _ _ (hl _ (Pm.minOf_mem xs x)) (Pm.minOf_le xs x m hm)
    have ha : AlikeAll ((x :: xs).map Datum.toD) := alikeAll_datum (x :: xs)
    have hp : PyData.depthAll ((x :: xs).map Datum.toD) ≤ 60 := Nat.le_trans (depthAll_map (x :: xs)) hd
    rw [List.map_cons] at ha hp ⊢
    refine ⟨ha, hp, ?_⟩
    rw [minD_map, e]
    exact h
open PySem.W in
theorem min_ex {α : Type} [DecidableEq α] [DatumOrd α] [Pm.StrictOrd α] {xs : List α} (h : xs ≠ []) : ∃ m, m ∈ xs ∧ ∀ y ∈ xs, DatumOrd.lt y m = false := by
  cases xs with
  | nil => exact (h rfl).elim
  | cons x xs => exact ⟨minOf x xs, Pm.minOf_mem xs x, Pm.minOf_le xs x⟩
/-! sorted typed data -/
open PySem.W in
def tsort {α : Type} [DecidableEq α] [DatumOrd α] (xs : List α) : List α := xs.mergeSort fun a b => !DatumOrd.lt b a
section
open PySem.W
variable {α : Type} [DecidableEq α] [DatumOrd α] {xs : List α}
theorem tsort_perm : (tsort xs).Perm xs := List.mergeSort_perm _ _
theorem tsort_mem {x : α} : x ∈ tsort xs ↔ x ∈ xs := tsort_perm.mem_iff
theorem tsort_len : (tsort xs).length = xs.length := tsort_perm.length_eq
theorem le_eq (a b : α) : dataLe false _root_.id (Datum.toD a : D) (Datum.toD b) = !DatumOrd.lt b a := by
  show (!PyProof.Rows.lexLt itemOrd (keyToks (Datum.toD b)) (keyToks (Datum.toD a))) = _
  exact congrArg (!·) (DatumOrd.lt_eq b a)
theorem tsort_srt : srt (xs.map Datum.toD) = (tsort xs).map Datum.toD := by
  unfold srt tsort
  exact (List.map_mergeSort fun a _ b _ => (le_eq a b).symm).symm
theorem tsort_sorted [Pm.StrictOrd α] : (tsort xs).Pairwise fun a b => DatumOrd.lt b a = false := by
  have h := List.pairwise_mergeSort (le := fun a b : α => !DatumOrd.lt b a) (fun a b c h1 h2 => ?_) (fun a b => ?_) xs
  · exact h.imp fun h => by simpa using h
  · simp only [Bool.not_eq_true'] at h1 h2 ⊢
    cases q : DatumOrd.lt c a with
    | false => rfl
    | true =>
      cases r : DatumOrd.lt a b with
      | true => rw [Pm.StrictOrd.trans _ _ _ q r] at h2; cases h2
      | false => rw [Pm.StrictOrd.tri _ _ r h1] at q; rw [q] at h2; cases h2
  · simp only [Bool.or_eq_true, Bool.not_eq_true']
    cases q : DatumOrd.lt b a with
    | false => exact .inl rfl
    | true =>
      cases r : DatumOrd.lt a b with
      | false => exact .inr rfl
      | true => have := Pm.StrictOrd.trans _ _ _ q r; rw [Pm.StrictOrd.irr] at this; cases this
theorem w_sorted (hs : Sortable (xs.map Datum.toD)) (hd : Datum.depth α ≤ 60) (h : Q ((tsort xs).map Datum.toD)) : oSorted [.list (xs.map Datum.toD)] Q := by
  refine ⟨(alikeAll_datum xs).1, hs, fun d hd' => ?_, ?_⟩
  · obtain ⟨x, hx, rfl⟩ := List.mem_map.mp hd'
    exact Nat.le_trans (Datum.depth_le x) hd
  · rw [tsort_srt]
    exact h
end
end
end Pu

set_option Elab.async false
set_option linter.all false
set_option maxRecDepth 100000
set_option maxHeartbeats 4000000
/-! Walking rules for the readings behind Pu24. -/
namespace Pu
open PySem PySem.Spec L2
open PyProof.Rows hiding St
theorem w_gtpl {k : Nat} {ds : List D} {ρ : List Sl} {R : List Sl → Prop} {q : List D → List Sl → (List Sl → Prop) → Prop} (hl : ds.length = k) (h : q ds ρ R) : gTpL k q (.list ds) ρ R := ⟨hl, h⟩
end Pu

set_option Elab.async false
set_option linter.all false
set_option maxRecDepth 100000
set_option maxHeartbeats 4000000
/-! Walking rules for the readings of Pu26 on and of Ps9. -/
namespace Pu
open PySem PySem.Spec L2
open PyProof.Rows hiding St
section
variable {ρ : List Sl} {P : D → Prop} {ma mb me mk mv mk2 mv2 : ME} {m : MA} {n : MX} {f bk ct : List Sl → Prop} {r : D → Prop} {i j : Nat} {K : PySem.W.Frag} {kvs kvs2 : List (D × D)} {E : PEn}
theorem w_callL {js : List Nat} {Φc : List D → Phi} {Ψ : Addr → Phi → Phi} (h : m ρ fun as => ∃ ds, js.map (gt ρ) = ds.map .da ∧ (∀ d ∈ ds, isDic d = false) ∧ ∀ f, Ψ f (Φc ds) (as ++ [.rw (.ref f)]) P fun _ => False) : mCallL js Φc Ψ m ρ P := h
theorem w_clam {N n0 : Nat} {ds : List D} {as : List Sl} {X : Ex → Prop} (h : me ((as ++ ds.map .da) ++ List.replicate (N - n0) .un) P) : lamPhi N n0 ds me as P X := h
theorem w_dzip {b1 b2 : Bool} {Q : List (D × D) → Prop} (h : ma ρ fun d => mb ρ fun e => ∃ ds es kds, itemsB b1 d = some ds ∧ itemsB b2 e = some es ∧ ds.zip es = kds.map (fun q : Key × D => (kD q.1, q.2)) ∧ Q (putAll [] kds)) : mDzip b1 b2 ma mb ρ Q := h
theorem w_dseq {b : Bool} {Q : List (D × D) → Prop} (h : me ρ fun d => ∃ kds, itemsB b d = some (kds.map fun q : Key × D => .tuple [kD q.1, q.2]) ∧ Q (putAll [] kds)) : mDseq b me ρ Q := h
theorem w_odget (hg : gt ρ i = .ob (OdR K kvs)) (h : mk ρ fun kd => ∃ key d, keyOf kd = some key ∧ lookD kvs key = some d ∧ P d) : mOdget K i mk ρ P := ⟨kvs, hg, h⟩
theorem w_odput (hg : gt ρ i = .ob (OdR K kvs)) (h : mv ρ fun d => nd d (mk ρ fun kd => ∃ key, keyOf kd = some key ∧ kvs.length < sizeLine ∧ f (ρ.set i (.ob (OdR K (putD kvs key d)))))) : mOdput K i mk mv ρ ⟨f, r, bk, ct⟩ := ⟨kvs, hg, h⟩
theorem w_odput2 (hg : gt ρ i = .ob (OdR K kvs)) (hg2 : gt (ρ.set i .un) j = .ob (OdR K kvs2)) (h : mv ρ fun d => nd d (mv2 ρ fun d2 => nd d2 (mk ρ fun kd => ∃ key, keyOf kd = some key ∧ kvs.length < sizeLine ∧
    mk2 (ρ.set i (.ob (OdR K (putD kvs key d)))) fun kd2 => ∃ key2, keyOf kd2 = some key2 ∧ kvs2.length < sizeLine ∧ f ((ρ.set i (.ob (OdR K (putD kvs key d)))).set j (.ob (OdR K (putD kvs2 key2 d2))))))) : mOdput2 K i j mk mk2 mv mv2 ρ ⟨f, r, bk, ct⟩ := ⟨kvs, kvs2, hg, hg2, h⟩
theorem w_keyS {a : Str} {Q : Key → Prop} (h : Q (.inr a)) : ∃ key, keyOf (.str a) = some key ∧ Q key := ⟨_, rfl, h⟩
theorem w_keyD {a : Str} {Q : Key → D → Prop} {d : D} (h : Q (.inr a) d) : ∃ key d, keyOf (.str a) = some key ∧ Q key d := ⟨_, d, rfl, h⟩
theorem w_xod {R : List Sl → Prop} (h : n ρ fun ss => R (.ob (OdR K []) :: ss)) : mXod K n ρ R := h
theorem w_isx {ob : Str} {Φ : Phi} (h : m ρ fun as => Φ as (fun _ => P (.bool false)) fun ex => ex = (ob, none) ∧ P (.bool true)) : mIsX ob Φ m ρ P := h
theorem w_callX {PX : Ex → Prop} {Φ : Phi} (h : m ρ fun as => Φ as P PX) : mCallX PX Φ m ρ P := h
theorem w_raise0 {PX : Ex → Prop} {x : Str} (h : PX (x, none)) : mRaise0 PX x ρ E := h
theorem w_bodyX {N n0 : Nat} {m : (Ex → Prop) → MS} {as : List Sl} {PX : Ex → Prop} (h : m PX (as ++ List.replicate (N - n0) .un) ⟨fun _ => P .none, P, fun _ => False, fun _ => False⟩) : bodyPhiX N n0 m as P PX := h
theorem w_bodyP {Φ : Program → World → PySem.W.Frag → Phi} {as : List Sl} {X : Ex → Prop} (h : ∀ Pg w K, Φ Pg w K as P X) : (fun as Q X => ∀ Pg w K, Φ Pg w K as Q X : Phi) as P X := h
end
end Pu

set_option Elab.async false
set_option linter.all false
set_option maxRecDepth 100000
set_option maxHeartbeats 4000000
/-! Crates, lots, stacks as typed data. -/
namespace Pl
open PySem PySem.Spec L2 Pu
open PyProof.Rows hiding St
def abcS : Str := "abcdefghijklmnopqrstuvwxyz"
def wordS : List Str := (["above", "all", "any", "bears", "below", "broke", "by", "can", "crate", "day", "days", "goes", "guest", "held", "holds", "in", "leaves", "lifts", "loads", "most", "no", "none", "of", "on", "out", "pull", "put", "room", "rule", "shelf", "slip", "snow", "spare", "stack", "take", "tidy", "to", "top", "weighs", "with", "yard"] : List String).map Str.ofString
structure NameOk (z : Str) : Prop where
  lo : 1 ≤ z.cps.size
  hi : z.cps.size ≤ 8
  low : ∀ c ∈ z.cps.toList, c ∈ abcS.cps.toList
  out : z ∉ wordS
theorem abc_small : ∀ c ∈ abcS.cps.toList, c < 0x110000 := by decide +kernel
theorem NameOk.ok {z : Str} (h : NameOk z) : PyData.strOk z = true := by
  unfold PyData.strOk
  rw [← Array.all_toList, List.all_eq_true]
  intro c hc
  exact decide_eq_true (abc_small c (h.low c hc))
theorem abc_one : ∀ c ∈ abcS.cps.toList, (Builtin.Str.occurrences abcS ⟨#[c]⟩ 0 abcS.length 1).isEmpty = false := by decide +kernel
structure Crt where
  n : Str
  w : Int
  b : Int
abbrev rowD (r : Crt) : D := .tuple [.str r.n, .int r.w, .int r.b]
abbrev lotD (L : List Crt) : D := .tuple (L.map rowD)
abbrev stkD (s : List Str) : D := .tuple (s.map .str)
abbrev numsD (s : List Int) : D := .tuple (s.map .int)
structure RowOk (r : Crt) : Prop where
  nm : NameOk r.n
  w1 : 1 ≤ r.w
  w2 : r.w ≤ 999
  b1 : 0 ≤ r.b
  b2 : r.b ≤ 999
structure LotOk (L : List Crt) : Prop where
  few : L.length ≤ 7
  row : ∀ r ∈ L, RowOk r
  asc : ∀ (i : Nat) (a b : Crt), L[i]? = some a → L[i + 1]? = some b → a.n.cps.toList < b.n.cps.toList
def nms (L : List Crt) : List Str := L.map (·.n)
theorem row_shp {r : Crt} (h : RowOk r) : Shp 1 (rowD r) := Shp.tup fun d hd => by
  simp only [List.mem_cons, List.not_mem_nil, or_false] at hd
  rcases hd with rfl | rfl | rfl
  · exact Shp.str h.nm.ok
  · exact Shp.int
  · exact Shp.int
theorem lot_shp {L : List Crt} (h : ∀ r ∈ L, RowOk r) : Shp 2 (lotD L) := Shp.tup fun d hd => by
  obtain ⟨r, hr, rfl⟩ := List.mem_map.mp hd
  exact row_shp (h r hr)
theorem stk_shp {s : List Str} (h : ∀ z ∈ s, NameOk z) : Shp 1 (stkD s) := Shp.tup fun d hd => by
  obtain ⟨r, hr, rfl⟩ := List.mem_map.mp hd
  exact Shp.str (h r hr).ok
theorem asc_lt {L : List Crt} (h : ∀ (i : Nat) (a b : Crt), L[i]? = some a → L[i + 1]? = some b → a.n.cps.toList < b.n.cps.toList) : ∀ (k i : Nat) (a b : Crt), L[i]? = some a → L[i + 1 + k]? = some b → a.n.cps.toList < b.n.cps.toList
  | 0, i, a, b, ha, hb => h i a b ha hb
  | k + 1, i, a, b, ha, hb => by
    have hl : i + 1 + (k + 1) < L.length := (List.getElem?_eq_some_iff.mp hb).1
    have hm : L[i + 1 + k]? = some L[i + 1 + k] := List.getElem?_eq_getElem (by omega)
    exact List.lt_trans (asc_lt h k i a _ ha hm) (h (i + 1 + k) _ b hm (by rw [← hb]; rfl))
theorem LotOk.nodup {L : List Crt} (h : LotOk L) : (nms L).Nodup := by
  unfold nms
  rw [List.nodup_iff_pairwise_ne, List.pairwise_iff_getElem]
  intro i j hi hj hij e
  rw [List.length_map] at hi hj
  have ha : L[i]? = some L[i] := List.getElem?_eq_getElem hi
  have hb : L[i + 1 + (j - i - 1)]? = some L[j] := by rw [show i + 1 + (j - i - 1) = j by omega]; exact List.getElem?_eq_getElem hj
  have := asc_lt h.asc _ i _ _ ha hb
  simp only [List.getElem_map] at e
  rw [e] at this
  exact List.lt_irrefl _ this
theorem LotOk.names {L : List Crt} (h : LotOk L) : ∀ z ∈ nms L, NameOk z := fun z hz => by
  obtain ⟨r, hr, rfl⟩ := List.mem_map.mp hz
  exact (h.row r hr).nm
def rowOf (L : List Crt) (z : Str) : Crt := (L.find? fun r => decide (r.n = z)).getD ⟨z, 0, 0⟩
def wt (L : List Crt) (z : Str) : Int := (rowOf L z).w
def br (L : List Crt) (z : Str) : Int := (rowOf L z).b
theorem nodup_row : ∀ {L : List Crt}, (nms L).Nodup → ∀ {r q : Crt}, r ∈ L → q ∈ L → r.n = q.n → r = q
  | [], _, _, _, h, _, _ => by cases h
  | x :: L, hn, r, q, hr, hq, e => by
    have hn := List.nodup_cons.mp hn
    rcases List.mem_cons.mp hr with h1 | h1 <;> rcases List.mem_cons.mp hq with h2 | h2
    · rw [h1, h2]
    · exact (hn.1 (List.mem_map.mpr ⟨q, h2, by rw [← e, h1]⟩)).elim
    · exact (hn.1 (List.mem_map.mpr ⟨r, h1, by rw [e, h2]⟩)).elim
    · exact nodup_row hn.2 h1 h2 e
theorem rowOf_mem {L : List Crt} (hn : (nms L).Nodup) {r : Crt} (hr : r ∈ L) : rowOf L r.n = r := by
  unfold rowOf
  cases h : L.find? fun q => decide (q.n = r.n) with
  | none =>
    have := List.find?_eq_none.mp h r hr
    simp at this
  | some q =>
    have h1 := List.find?_some h
    have h2 := List.mem_of_find?_eq_some h
    exact nodup_row hn h2 hr (of_decide_eq_true h1)
theorem rowOf_name {L : List Crt} (hn : (nms L).Nodup) {z : Str} (hz : z ∈ nms L) : rowOf L z ∈ L ∧ (rowOf L z).n = z := by
  obtain ⟨r, hr, rfl⟩ := List.mem_map.mp hz
  rw [rowOf_mem hn hr]
  exact ⟨hr, rfl⟩
theorem fil_row {L : List Crt} (hn : (nms L).Nodup) {z : Str} (hz : z ∈ nms L) : L.filter (fun r => decide (r.n = z)) = [rowOf L z] := by
  obtain ⟨r, hr, rfl⟩ := List.mem_map.mp hz
  rw [rowOf_mem hn hr]
  clear hz
  induction L with
  | nil => cases hr
  | cons x L ih =>
    have hn' := List.nodup_cons.mp hn
    rcases List.mem_cons.mp hr with rfl | hr
    · rw [List.filter_cons_of_pos (by simp)]
      refine congrArg _ (List.filter_eq_nil_iff.mpr fun q hq => ?_)
      simp only [decide_eq_true_eq]
      exact fun e => hn'.1 (List.mem_map.mpr ⟨q, hq, e⟩)
    · rw [List.filter_cons_of_neg (by simp only [decide_eq_true_eq]; exact fun e => hn'.1 (List.mem_map.mpr ⟨r, hr, e.symm⟩))]
      exact ih hn'.2 hr
theorem cut_take (vs : List D) (i : Nat) : Pu.cutD vs none (some (i : Int)) = vs.take i := by
  unfold Pu.cutD
  rw [HT.sIx_none, HT.sIx_nat]
  rw [List.drop_zero, Nat.sub_zero]
  rcases Nat.le_total i vs.length with h | h
  · rw [Nat.min_eq_left h]
  · rw [Nat.min_eq_right h, List.take_of_length_le (Nat.le_refl _), List.take_of_length_le h]
theorem enum_map {α : Type} {enc : α → D} : ∀ (xs : List α) (i : Nat), enumD i (xs.map enc) = (xs.zipIdx i).map fun p => .tuple [.int (p.2 : Nat), enc p.1]
  | [], _ => rfl
  | x :: xs, i => by simp only [List.map_cons, enumD, List.zipIdx_cons, enum_map xs (i + 1)]
def wtK (L : List Crt) : List (D × D) := putAll [] (L.map fun r => (.inr r.n, .int r.w))
def brK (L : List Crt) : List (D × D) := putAll [] (L.map fun r => (.inr r.n, .int r.b))
def keyV (f : Str → D) : Key → D
  | .inr z => f z
  | .inl _ => .none
theorem wt_look {L : List Crt} (hn : (nms L).Nodup) {z : Str} (hz : z ∈ nms L) : lookD (wtK L) (.inr z) = some (.int (wt L z)) := by
  refine look_all (F := keyV fun z => .int (wt L z)) _ _ (fun p hp => ?_) (.inr ?_)
  · obtain ⟨r, hr, rfl⟩ := List.mem_map.mp hp
    show PyData.int r.w = .int (wt L r.n)
    unfold wt
    rw [rowOf_mem hn hr]
  · obtain ⟨r, hr, rfl⟩ := List.mem_map.mp hz
    exact ⟨_, List.mem_map.mpr ⟨r, hr, rfl⟩, rfl⟩
theorem br_look {L : List Crt} (hn : (nms L).Nodup) {z : Str} (hz : z ∈ nms L) : lookD (brK L) (.inr z) = some (.int (br L z)) := by
  refine look_all (F := keyV fun z => .int (br L z)) _ _ (fun p hp => ?_) (.inr ?_)
  · obtain ⟨r, hr, rfl⟩ := List.mem_map.mp hp
    show PyData.int r.b = .int (br L r.n)
    unfold br
    rw [rowOf_mem hn hr]
  · obtain ⟨r, hr, rfl⟩ := List.mem_map.mp hz
    exact ⟨_, List.mem_map.mpr ⟨r, hr, rfl⟩, rfl⟩
/-- a stack of a lot -/
structure StkOk (L : List Crt) (s : List Str) : Prop where
  nd : s.Nodup
  sub : ∀ z ∈ s, z ∈ nms L
  all : ∀ z ∈ nms L, z ∈ s
theorem StkOk.len {L : List Crt} {s : List Str} (hL : LotOk L) (h : StkOk L s) : s.length = L.length := by
  have a := Pm.len_le h.nd h.sub
  have b := Pm.len_le hL.nodup h.all
  have c : (nms L).length = L.length := List.length_map ..
  omega
theorem mem_pre {α : Type} [DecidableEq α] {s : List α} {i : Nat} {z : α} (hn : s.Nodup) (h : s[i]? = some z) : z ∉ s.take i := fun hm => by
  obtain ⟨j, hj, e⟩ := List.mem_iff_getElem.mp hm
  rw [List.length_take] at hj
  rw [List.getElem_take] at e
  obtain ⟨hi, e2⟩ := List.getElem?_eq_some_iff.mp h
  exact List.pairwise_iff_getElem.mp hn j i (by omega) hi (by omega) (e.trans e2.symm)
def ldI (L : List Crt) (s : List Str) : List Int := Pm.ldF (wt L) 0 s
def ldO (L : List Crt) (s : List Str) (z : Str) : Int := Pm.loadOf (wt L) s z
theorem ldI_eq {L : List Crt} {s : List Str} (h : s.Nodup) : ldI L s = s.map (ldO L s) := by
  unfold ldI
  rw [Pm.ldF_eq h]
  exact List.map_congr_left fun z _ => by unfold ldO; omega
def spI (L : List Crt) (s : List Str) (z : Str) : Int := br L z - ldO L s z
def rzI (L : List Crt) (s : List Str) (z : Str) : Int := if 0 - spI L s z > 0 then 0 - spI L s z else 0
def rzK (L : List Crt) (s : List Str) : List (D × D) := putAll [] (s.map fun z => (.inr z, .int (rzI L s z)))
theorem rz_look {L : List Crt} {s : List Str} {z : Str} (hz : z ∈ s) : lookD (rzK L s) (.inr z) = some (.int (rzI L s z)) := by
  refine look_all (F := keyV fun z => .int (rzI L s z)) _ _ (fun p hp => ?_) (.inr ⟨_, List.mem_map.mpr ⟨z, hz, rfl⟩, rfl⟩)
  obtain ⟨r, hr, rfl⟩ := List.mem_map.mp hp
  rfl
def costI (L : List Crt) (s : List Str) (pr : List Int) : Int := (((nms L).zip pr).map fun p => p.2 * rzI L s p.1).sum
def stksL (L : List Crt) : List (List Str) := Pm.stks (nms L) L.length
theorem mem_stksL {L : List Crt} (hL : LotOk L) {s : List Str} : s ∈ stksL L ↔ StkOk L s := by
  unfold stksL
  have e : L.length = (nms L).length := (List.length_map ..).symm
  rw [e, Pm.mem_full hL.nodup]
  exact ⟨fun ⟨a, b, c⟩ => ⟨a, b, c⟩, fun h => ⟨h.nd, h.sub, h.all⟩⟩
theorem stksL_len {L : List Crt} (h4 : L.length ≤ 4) (k : Nat) (hk : k ≤ 4) : (Pm.stks (nms L) k).length ≤ 256 := by
  refine Nat.le_trans (Pm.stks_len (n := 4) (by rw [nms, List.length_map]; exact h4)) ?_
  have : 4 ^ k ≤ 4 ^ 4 := Nat.pow_le_pow_right (by decide) hk
  omega
inductive Pln : Nat → D → Prop
  | int {n : Nat} (i : Int) : Pln n (.int i)
  | bool {n : Nat} (i : Bool) : Pln n (.bool i)
  | none {n : Nat} : Pln n .none
  | str {n : Nat} {z : Str} (h : PyData.strOk z = true) : Pln n (.str z)
  | tup {n : Nat} {ds : List D} (h : ∀ d ∈ ds, Pln n d) (hl : ds.length ≤ 1000) : Pln (n + 1) (.tuple ds)
theorem Pln.two {n : Nat} {d : D} (h : Pln n d) : Pln (n + 1) (.tuple [d, d]) := .tup (fun e he => by
  simp only [List.mem_cons, List.not_mem_nil, or_false] at he
  rcases he with rfl | rfl <;> exact h) (show 2 ≤ 1000 by decide)
theorem Pln.stk {n : Nat} {s : List Str} (h : ∀ z ∈ s, NameOk z) (hl : s.length ≤ 1000) : Pln (n + 1) (stkD s) := .tup (fun e he => by
  obtain ⟨z, hz, rfl⟩ := List.mem_map.mp he
  exact .str (h z hz).ok) (by rw [List.length_map]; exact hl)
theorem Pln.nums {n : Nat} {s : List Int} (hl : s.length ≤ 1000) : Pln (n + 1) (numsD s) := .tup (fun e he => by
  obtain ⟨z, hz, rfl⟩ := List.mem_map.mp he
  exact .int z) (by rw [List.length_map]; exact hl)
/-- names, ascending -/
structure NmsOk (N : List Str) : Prop where
  ok : ∀ z ∈ N, NameOk z
  asc : N.Pairwise fun a b => a.cps.toList < b.cps.toList
theorem LotOk.of {L : List Crt} {N : List Str} (hN : NmsOk N) (e : nms L = N) (hl : N.length ≤ 7) (hr : ∀ r ∈ L, 1 ≤ r.w ∧ r.w ≤ 999 ∧ 0 ≤ r.b ∧ r.b ≤ 999) : LotOk L where
  few := by rw [← e, nms, List.length_map] at hl; exact hl
  row := fun r hm => ⟨hN.ok _ (by rw [← e]; exact List.mem_map.mpr ⟨r, hm, rfl⟩), (hr r hm).1, (hr r hm).2.1, (hr r hm).2.2.1, (hr r hm).2.2.2⟩
  asc := fun i a b ha hb => by
    subst e
    have h := List.pairwise_iff_getElem.mp hN.asc
    obtain ⟨h1, e1⟩ := List.getElem?_eq_some_iff.mp ha
    obtain ⟨h2, e2⟩ := List.getElem?_eq_some_iff.mp hb
    have := h i (i + 1) (by rw [nms, List.length_map]; exact h1) (by rw [nms, List.length_map]; exact h2) (by omega)
    simp only [nms, List.getElem_map, e1, e2] at this
    exact this
/-- strictly ascending from sorted and unlike -/
theorem asc_of {zs : List Str} (hn : zs.Nodup) : (tsort zs).Pairwise fun a b => a.cps.toList < b.cps.toList := by
  have h1 := tsort_sorted (xs := zs)
  have h2 : (tsort zs).Nodup := (tsort_perm (xs := zs)).nodup_iff.mpr hn
  refine (List.Pairwise.and h1 h2).imp fun {a b} h => ?_
  have hba : decide (b.cps.toList < a.cps.toList) = false := h.1
  cases q : decide (a.cps.toList < b.cps.toList) with
  | true => exact of_decide_eq_true q
  | false => exact (h.2 (Pm.StrictOrd.tri a b q hba)).elim
/-- last letters unlike: unlike -/
theorem last_nodup {zs : List Str} {cs : List Nat} (hc : cs.Nodup) (h : ∀ (j : Nat) (z : Str), zs[j]? = some z → ∃ c, cs[j]? = some c ∧ z.cps.back? = some c) : zs.Nodup := by
  rw [List.nodup_iff_pairwise_ne, List.pairwise_iff_getElem]
  intro i j hi hj hij e
  obtain ⟨c, h1, h2⟩ := h i _ (List.getElem?_eq_getElem hi)
  obtain ⟨d, h3, h4⟩ := h j _ (List.getElem?_eq_getElem hj)
  rw [e, h4] at h2
  cases h2
  obtain ⟨l1, e1⟩ := List.getElem?_eq_some_iff.mp h1
  obtain ⟨l2, e2⟩ := List.getElem?_eq_some_iff.mp h3
  exact List.pairwise_iff_getElem.mp hc i j l1 l2 hij (e1.trans e2.symm)
theorem abc_nodup : abcS.cps.toList.Nodup := by decide +kernel
def wordsA : Str := "above all any bears below broke by can crate day days goes guest held holds in leaves lifts loads most no"
def wordsB : Str := "none of on out pull put room rule shelf slip snow spare stack take"
def wordsC : List Str := (["tidy", "to", "top", "weighs", "with", "yard"] : List String).map Str.ofString
theorem words_all : Txt.split wordsA " " ++ Txt.split wordsB " " ++ wordsC = wordS := by decide +kernel
/-- q and a letter is no word -/
theorem q_out : ∀ c ∈ abcS.cps.toList, (⟨#[113, c]⟩ : Str) ∉ wordS := by decide +kernel
theorem q_in : (113 : Nat) ∈ abcS.cps.toList := by decide +kernel
theorem abc_len : abcS.cps.toList.length = 26 := by decide +kernel
theorem words_eq : wordS.map PyData.str = ((Txt.split wordsA " ").map .str ++ (Txt.split wordsB " ").map .str) ++ [.str "tidy", .str "to", .str "top", .str "weighs", .str "with", .str "yard"] := by
  rw [← words_all, List.map_append, List.map_append]
  rfl
theorem app_cps (z : Str) (c : Nat) : (z ++ (⟨#[c]⟩ : Str)).cps.toList = z.cps.toList ++ [c] := by
  show (z.cps ++ #[c]).toList = _
  simp
theorem app_size (z : Str) (c : Nat) : (z ++ (⟨#[c]⟩ : Str)).cps.size = z.cps.size + 1 := by
  show (z.cps ++ #[c]).size = _
  simp
theorem app_back (z : Str) (c : Nat) : (z ++ (⟨#[c]⟩ : Str)).cps.back? = some c := by
  show (z.cps ++ #[c]).back? = _
  simp
theorem range_getD {α : Type} (X : List α) (d : α) : (List.range X.length).map (fun k => X[k]?.getD d) = X := by
  refine List.ext_getElem? fun i => ?_
  rw [List.getElem?_map]
  by_cases hi : i < X.length
  · rw [List.getElem?_range hi, List.getElem?_eq_getElem hi]
    simp [hi]
  · rw [List.getElem?_eq_none (by simp; omega), List.getElem?_eq_none (by omega)]
    rfl
end Pl

set_option Elab.async false
set_option linter.all false
set_option maxRecDepth 100000
set_option maxHeartbeats 4000000
/-! For the heads: facts of the module's heap. -/
namespace Ex
open PySem PySem.Spec L2 Pu LamX NdefX
open PyProof.Rows hiding St
theorem plB_ok {K : PySem.W.Frag} (h : plB K = true) : TupPl K := fun a o e hc => by
  have h1 := List.all_eq_true.mp h _ (He.lookup_mem e)
  obtain ⟨oc, od, dt, sl⟩ := o
  have hc : oc = .type "tuple" := hc
  subst hc
  cases od with
  | none => rfl
  | some d =>
    have h1 : (!decide ("tuple" = "tuple")) = true := h1
    simp at h1
theorem tup0B_ok {K : PySem.W.Frag} {a : Addr} (h : tup0B K a = true) (H : Hp) : SqT K H a [] := by
  unfold tup0B at h
  cases q : K.lookup a with
  | none =>
    rw [q] at h
    cases h
  | some o =>
    obtain ⟨oc, od, dt, osl⟩ := o
    rw [q] at h
    cases oc with
    | type c =>
      cases dt with
      | seq its n =>
        obtain ⟨h1, h2⟩ := He.ba (show (decide (c = "tuple") && decide (its.size = 0)) = true from h)
        have e : its = #[] := Array.size_eq_zero_iff.mp (of_decide_eq_true h2)
        subst e
        exact .inr ⟨_, #[], n, q, congrArg Value.type (of_decide_eq_true h1), rfl, by decide, .nil⟩
      | _ => cases h
    | _ => cases dt <;> cases h
theorem apart1_ne {K : PySem.W.Frag} {p q : He.Defn} : ∀ {l : List He.Defn}, apart1 K p l = true → q ∈ l → (He.cT K p).2 ≠ (He.cT K q).2
  | [], _, hm => by cases hm
  | x :: l, h, hm => by
    obtain ⟨h1, h2⟩ := He.ba (show (!decide ((He.cT K p).2 = (He.cT K x).2) && apart1 K p l) = true from h)
    rcases List.mem_cons.mp hm with rfl | hm
    · simpa using h1
    · exact apart1_ne h2 hm
theorem apart_ne : ∀ {K : PySem.W.Frag} {l : List He.Defn}, apart K l = true → ∀ (i j : Nat) {p q : He.Defn}, i ≠ j → l[i]? = some p → l[j]? = some q → (He.cT K p).2 ≠ (He.cT K q).2
  | _, [], _, i, j, p, q, _, hp, _ => by simp at hp
  | K, x :: l, h, i, j, p, q, hij, hp, hq => by
    obtain ⟨h1, h2⟩ := He.ba (show (apart1 K x l && apart K l) = true from h)
    cases i with
    | zero =>
      cases j with
      | zero => exact (hij rfl).elim
      | succ j =>
        simp at hp
        subst hp
        exact apart1_ne h1 (List.mem_of_getElem? (by simpa using hq))
    | succ i =>
      cases j with
      | zero =>
        simp at hq
        subst hq
        exact (apart1_ne h1 (List.mem_of_getElem? (by simpa using hp))).symm
      | succ j => exact apart_ne h2 i j (by omega) (by simpa using hp) (by simpa using hq)
theorem gint {K : PySem.W.Frag} {h : Heap} {mg : Str → Option Value} (X : K.In h) (G : h.Ns mainGlobals mg) {x : Str} {i : Int} (c : (He.Fa.int x i).ok K = true) : GVal K mg x (.int i) := by
  obtain ⟨t, e⟩ := He.int_ok X G c
  exact ⟨⟨_, e, t, rfl⟩, fun S => Dp.int i⟩
theorem gstr {K : PySem.W.Frag} {h : Heap} {mg : Str → Option Value} (X : K.In h) (G : h.Ns mainGlobals mg) {x z : Str} (c : (He.Fa.str x z).ok K = true) : GVal K mg x (.str z) := by
  obtain ⟨t, e⟩ := He.str_ok X G c
  exact ⟨⟨_, e, t, rfl⟩, fun S => Dp.str z⟩
theorem mk {K : PySem.W.Frag} {base : Heap} {mg : Str → Option Value} {T : List Pu.NTab} {x : Str} {st : Stmt} {dvs : List V} {fd : FuncData} {q : Str} (F : FnP K x st dvs (He.ga K x) fd) (TB : TabB base mg (He.cT K (x, none)).1 (He.cT K (x, none)).2) (hm : ((He.cT K (x, none)).2, fun _ _ => q) ∈ T) (hu : ∀ p ∈ T, p.1 = (He.cT K (x, none)).2 → p.2 = fun _ _ => q) : Mk base mg T fd q := by
  obtain ⟨oc, od, dV, kV, doc, pm, an, cdv, ct, osl, e, lk, hcd, _, _⟩ := F.ex
  obtain ⟨cc, e2⟩ := He.codeIn_ref hcd
  subst e2
  have e3 : fd.code = .ref cc := by rw [e]
  have e4 : (He.cT K (x, none)).1 = cc := He.codeOf_eq (p := (x, none)) lk e3
  rw [e4] at TB
  exact ⟨cc, _, e3, TB, hm, hu⟩
theorem tabs0 {T : List Pu.NTab} {H : Hp} (h : ∀ p ∈ T, H p.1 = some (.tbl #[])) : TabsN T H := fun p hp => ⟨#[], h p hp, trivial, fun pos cv hc => by cases hc⟩
end Ex

set_option Elab.async false
set_option linter.all false
set_option maxRecDepth 100000
set_option maxHeartbeats 4000000
namespace K75
open PySem PySem.Spec L2 Pu LamX
open PyProof.Rows hiding St
section
variable {P : Program} {w : World} {K : PySem.W.Frag} {mg : Str → Option Value} {base : Heap} {TL : List (Addr × Str)}
abbrev s_is_whole : Stmt := topS 10
abbrev s_is_number : Stmt := topS 11
abbrev s_is_tuple_of : Stmt := topS 12
abbrev s_wrong_at : Stmt := topS 13
abbrev s_wrong_from_one : Stmt := topS 14
abbrev s_wrong_for_all : Stmt := topS 15
abbrev s_is_letters : Stmt := topS 16
abbrev s_is_name : Stmt := topS 17
abbrev s_is_one_of : Stmt := topS 18
abbrev s_weights_by : Stmt := topS 23
abbrev s_loads_in : Stmt := topS 25
abbrev s_is_piece : Stmt := topS 29
abbrev s_wrong_pieces : Stmt := topS 30
abbrev s_piece_names : Stmt := topS 31
abbrev s_wrong_order : Stmt := topS 32
abbrev s_is_sight : Stmt := topS 33
abbrev s_wrong_seen : Stmt := topS 34
abbrev s_lot_with_bears : Stmt := topS 35
abbrev s_loads_of : Stmt := topS 36
abbrev s_loads_borne : Stmt := topS 37
abbrev s_loads_broken : Stmt := topS 38
abbrev s_leasts_of : Stmt := topS 39
abbrev s_greatests_of : Stmt := topS 40
abbrev s_barred_pieces : Stmt := topS 41
abbrev s_are_fitting : Stmt := topS 42
abbrev s_check_seen : Stmt := topS 44
abbrev s_check_fit : Stmt := topS 45
abbrev s_fits : Stmt := topS 46
abbrev s_do_fit : Stmt := topS 47
abbrev s_least_bears : Stmt := topS 48
abbrev s_greatest_bears : Stmt := topS 49
abbrev s_barring_piece : Stmt := topS 50
abbrev s__law_well : Stmt := topS 52
abbrev s__law_draw : Stmt := topS 53
abbrev s__law_of : Stmt := topS 54
abbrev s__law_same : Stmt := topS 55
abbrev s__law_names : Stmt := topS 56
abbrev s__law_shuffled : Stmt := topS 57
abbrev s__law_put : Stmt := topS 58
abbrev s__law_lot_of : Stmt := topS 59
abbrev s__law_lot : Stmt := topS 60
abbrev s__law_plain : Stmt := topS 61
abbrev s__law_crate : Stmt := topS 62
abbrev s__law_loads : Stmt := topS 63
abbrev s__law_broken : Stmt := topS 64
abbrev s__law_pieces : Stmt := topS 65
abbrev s__law_seen : Stmt := topS 66
abbrev s__law_limits : Stmt := topS 67
abbrev s__law_is_none : Stmt := topS 68
abbrev s__law_right : Stmt := topS 69
abbrev s_law : Stmt := topS 70
theorem sc_is_whole : FnScope ["value"] ["value"] (defScope s_is_whole) := ⟨rfl, rfl, rfl, by decide +kernel, rfl, by decide +kernel, by decide +kernel⟩
theorem b_is_whole {f fd} (D : Def K mg "is_whole" s_is_whole [] f fd) : Binds K fd ["value"] [] := FunD.bindsN (ps := ["value"]) D.F fun _ _ _ _ _ _ us hl => match us, hl with | [_], _ => rfl
def m_is_whole : MS := (mRet (mAndV (mIsi "int" (mVar 0)) (mNotV (mIsi "bool" (mVar 0)))))
def ph_is_whole : Phi := bodyPhi 1 1 m_is_whole
theorem ok_is_whole {f fd} (D_ : Def K mg "is_whole" s_is_whole [] f fd) (B : Blt mg) : FnOk P w K mg base CX0 1 f fd ["value"] (spG K (vT (tl TL)) (gT (tl TL)) 1 ph_is_whole) := fnD (gstT (tl TL)) D_.F sc_is_whole (by decide) fun cdv A outer s H S E hr => ⟨_, (s_one (x_ret (p_and (p_isi "int" B.isinstance B.int PyProof.Rows.boot_int (PP.toB (p_var 0))) (p_one (p_not (p_isi "bool" B.isinstance B.bool PyProof.Rows.boot_bool (PP.toB (p_var 0))))))))⟩
theorem sc_is_number : FnScope ["value", "low", "high"] ["value", "low", "high"] (defScope s_is_number) := ⟨rfl, rfl, rfl, by decide +kernel, rfl, by decide +kernel, by decide +kernel⟩
theorem b_is_number {f fd} (D : Def K mg "is_number" s_is_number [] f fd) : Binds K fd ["value", "low", "high"] [] := FunD.bindsN (ps := ["value", "low", "high"]) D.F fun _ _ _ _ _ _ us hl => match us, hl with | [_, _, _], _ => rfl
def m_is_number : MS := (mSeq (mIf (mOr (mNot (mTest (mCall (ph_is_whole) (mAda (mVar 0) mAnil)))) (mAnd (mTest (mBin (oIsN true) (mVar 1) (mC .none))) (mTest (mBin o_lt (mVar 0) (mVar 1))))) (mRet (mC (.bool false))) mNext) (mRet (mOrV (mBin (oIsN false) (mVar 2) (mC .none)) (mBin o_le (mVar 0) (mVar 2)))))
def ph_is_number : Phi := bodyPhi 3 3 m_is_number
theorem ok_is_number {f fd} (D_ : Def K mg "is_number" s_is_number [] f fd) {f_is_whole fd_is_whole} (D_is_whole : Def K mg "is_whole" s_is_whole [] f_is_whole fd_is_whole) (O_is_whole : FnOk P w K mg base CX0 1 f_is_whole fd_is_whole ["value"] (spG K (vT (tl TL)) (gT (tl TL)) 1 ph_is_whole)) : FnOk P w K mg base CX0 2 f fd ["value", "low", "high"] (spG K (vT (tl TL)) (gT (tl TL)) 3 ph_is_number) := fnD (gstT (tl TL)) D_.F sc_is_number (by decide) fun cdv A outer s H S E hr => ⟨_, (s_cons (x_if (PQW.q (q_or (q_not (q_val (PP.toB (p_call O_is_whole Compat.refl (hr.mono (by decide)) D_is_whole.m D_is_whole.F.kp (b_is_whole D_is_whole) (n_da (p_var 0) n_nil))))) (q_or1 (PQW.q (q_and (q_notN (PP.toB (p_var 1)) (PP.toB p_none)) (q_and1 (q_lt (PP.toB (p_var 0)) (PP.toB (p_var 1))))))))) (s_one (x_ret p_bool)) s_nil) (s_one (x_ret (p_or (p_isN (PP.toB (p_var 2)) (PP.toB p_none)) (p_one (p_le (PP.toB (p_var 0)) (PP.toB (p_var 2))))))))⟩
theorem sc_is_tuple_of : FnScope ["value", "many"] ["value", "many"] (defScope s_is_tuple_of) := ⟨rfl, rfl, rfl, by decide +kernel, rfl, by decide +kernel, by decide +kernel⟩
theorem b_is_tuple_of {f fd} (D : Def K mg "is_tuple_of" s_is_tuple_of [] f fd) : Binds K fd ["value", "many"] [] := FunD.bindsN (ps := ["value", "many"]) D.F fun _ _ _ _ _ _ us hl => match us, hl with | [_, _], _ => rfl
def m_is_tuple_of : MS := (mRet (mAndV (mIsi "tuple" (mVar 0)) (mBin (oEq false) (mC1 oLen (mBcons (mVar 0) mBnil)) (mVar 1))))
def ph_is_tuple_of : Phi := bodyPhi 2 2 m_is_tuple_of
theorem ok_is_tuple_of {f fd} (D_ : Def K mg "is_tuple_of" s_is_tuple_of [] f fd) (B : Blt mg) : FnOk P w K mg base CX0 1 f fd ["value", "many"] (spG K (vT (tl TL)) (gT (tl TL)) 2 ph_is_tuple_of) := fnD (gstT (tl TL)) D_.F sc_is_tuple_of (by decide) fun cdv A outer s H S E hr => ⟨_, (s_one (x_ret (p_and (p_isi "tuple" B.isinstance B.tuple PyProof.Rows.boot_tuple (PP.toB (p_var 0))) (p_one (p_eq hr.units (PP.toB (p_len B.len (b_cons (PP.toB (p_var 0)) b_nil))) (PP.toB (p_var 1)))))))⟩
theorem sc_wrong_at : FnScope ["values", "most", "is_right", "at", "value"] ["values", "most", "is_right"] (defScope s_wrong_at) := ⟨rfl, rfl, rfl, by decide +kernel, rfl, by decide +kernel, by decide +kernel⟩
theorem b_wrong_at {f fd} (D : Def K mg "wrong_at" s_wrong_at [] f fd) : Binds K fd ["values", "most", "is_right"] [] := FunD.bindsN (ps := ["values", "most", "is_right"]) D.F fun _ _ _ _ _ _ us hl => match us, hl with | [_, _, _], _ => rfl
def m_wrong_at (f : Addr) (Φ : Phi) : MS := (mSeq (mIf (mNot (mTest (mIsi "tuple" (mVar 0)))) (mRet (mL (mLst (mDcons (mC .none) mBnil)))) mNext) (mSeq (mFor (mEn true (mVar 0)) (gTp 2 (gCs (gN 3) (gCs (gN 4) gNl))) (mIf (mOr (mTest (mBin (oEq false) (mVar 3) (mVar 1))) (mNot (mTest (mClo 2 f Φ (mAda (mVar 4) (mAda (mSlT (mVar 0) mNo (mSo (mVar 3))) mAnil)))))) (mRet (mL (mLst (mDcons (mVar 3) mBnil)))) mNext) [3, 4]) (mRet (mL (mLst mBnil)))))
def ps_wrong_at : Addr → Phi → Phi := fun f Φ => bodyPhi 5 3 (m_wrong_at f Φ)
theorem ok_wrong_at {f fd} (D_ : Def K mg "wrong_at" s_wrong_at [] f fd) (B : Blt mg) : FnC P w K mg base 5 f fd ["values", "most", "is_right"] (spC P w K mg base (vT (tl TL)) (gT (tl TL)) 4 2 3 ps_wrong_at) := fnC (gstT (tl TL)) D_.F sc_wrong_at (by decide) fun cdv A outer s H S g Φ F qs fr ws hr c => ⟨_, (s_cons (x_if (q_not (q_val (PP.toB (p_isi "tuple" B.isinstance B.tuple PyProof.Rows.boot_tuple (PP.toB (p_var 0)))))) (s_one (x_ret (PO'.e (o_lst (d_cons p_none d_nil))))) s_nil) (s_cons (x_for [3, 4] (i_en true B.enumerate (p_var 0)) (g_tp (gs_cons (g_nm 3 sc_wrong_at.nd) (gs_cons (g_nm 4 sc_wrong_at.nd) gs_nil))) (s_one (x_if (PQW.q (q_or (q_eq hr.units (PP.toB (p_var 3)) (PP.toB (p_var 1))) (q_or1 (q_not (q_val (PP.toB (p_clo 2 c (hr.mono (by decide)) (n_da (p_var 4) (n_da (p_slT (PP.toB (p_var 0)) so_none (so_some (p_var 3))) n_nil))))))))) (s_one (x_ret (PO'.e (o_lst (d_cons (p_var 3) d_nil))))) s_nil))) (s_one (x_ret (PO'.e (o_lst d_nil))))))⟩
theorem ok_wrong_at__H {f fd} (D_ : Def K mg "wrong_at" s_wrong_at [] f fd) (B : Blt mg) : FnC P w K mg base 13 f fd ["values", "most", "is_right"] (spC P w K mg base (vT (tl TL)) (gT (tl TL)) 12 2 3 ps_wrong_at) := fnC (gstT (tl TL)) D_.F sc_wrong_at (by decide) fun cdv A outer s H S g Φ F qs fr ws hr c => ⟨_, (s_cons (x_if (q_not (q_val (PP.toB (p_isi "tuple" B.isinstance B.tuple PyProof.Rows.boot_tuple (PP.toB (p_var 0)))))) (s_one (x_ret (PO'.e (o_lst (d_cons p_none d_nil))))) s_nil) (s_cons (x_for [3, 4] (i_en true B.enumerate (p_var 0)) (g_tp (gs_cons (g_nm 3 sc_wrong_at.nd) (gs_cons (g_nm 4 sc_wrong_at.nd) gs_nil))) (s_one (x_if (PQW.q (q_or (q_eq hr.units (PP.toB (p_var 3)) (PP.toB (p_var 1))) (q_or1 (q_not (q_val (PP.toB (p_clo 2 c (hr.mono (by decide)) (n_da (p_var 4) (n_da (p_slT (PP.toB (p_var 0)) so_none (so_some (p_var 3))) n_nil))))))))) (s_one (x_ret (PO'.e (o_lst (d_cons (p_var 3) d_nil))))) s_nil))) (s_one (x_ret (PO'.e (o_lst d_nil))))))⟩
theorem sc_wrong_from_one : FnScope ["values", "most", "is_right"] ["values", "most", "is_right"] (defScope s_wrong_from_one) := ⟨rfl, rfl, rfl, by decide +kernel, rfl, by decide +kernel, by decide +kernel⟩
theorem b_wrong_from_one {f fd} (D : Def K mg "wrong_from_one" s_wrong_from_one [] f fd) : Binds K fd ["values", "most", "is_right"] [] := FunD.bindsN (ps := ["values", "most", "is_right"]) D.F fun _ _ _ _ _ _ us hl => match us, hl with | [_, _, _], _ => rfl
def m_wrong_from_one (f : Addr) (Φ : Phi) : MS := (mSeq (mIf (mOr (mNot (mTest (mIsi "tuple" (mVar 0)))) (mTest (mBin (oEq false) (mVar 0) (mTup mBnil)))) (mRet (mL (mLst (mDcons (mC .none) mBnil)))) mNext) (mRet (mCallC ps_wrong_at f Φ (mAda (mVar 0) (mAda (mVar 1) (mArw 2 mAnil))))))
def ps_wrong_from_one : Addr → Phi → Phi := fun f Φ => bodyPhi 3 3 (m_wrong_from_one f Φ)
theorem ok_wrong_from_one {f fd} (D_ : Def K mg "wrong_from_one" s_wrong_from_one [] f fd) {f_wrong_at fd_wrong_at} (D_wrong_at : Def K mg "wrong_at" s_wrong_at [] f_wrong_at fd_wrong_at) (O_wrong_at : FnC P w K mg base 5 f_wrong_at fd_wrong_at ["values", "most", "is_right"] (spC P w K mg base (vT (tl TL)) (gT (tl TL)) 4 2 3 ps_wrong_at)) (B : Blt mg) : FnC P w K mg base 6 f fd ["values", "most", "is_right"] (spC P w K mg base (vT (tl TL)) (gT (tl TL)) 4 2 3 ps_wrong_from_one) := fnC (gstT (tl TL)) D_.F sc_wrong_from_one (by decide) fun cdv A outer s H S g Φ F qs fr ws hr c => ⟨_, (s_cons (x_if (PQW.q (q_or (q_not (q_val (PP.toB (p_isi "tuple" B.isinstance B.tuple PyProof.Rows.boot_tuple (PP.toB (p_var 0)))))) (q_or1 (q_eq hr.units (PP.toB (p_var 0)) (PP.toB (p_tup d_nil)))))) (s_one (x_ret (PO'.e (o_lst (d_cons p_none d_nil))))) s_nil) (s_one (x_ret (p_callC O_wrong_at c (hr.mono (by decide)) D_wrong_at.m D_wrong_at.F.kp (b_wrong_at D_wrong_at) (n_da (p_var 0) (n_da (p_var 1) (n_rw 2 n_nil)))))))⟩
theorem ok_wrong_from_one__H {f fd} (D_ : Def K mg "wrong_from_one" s_wrong_from_one [] f fd) {f_wrong_at fd_wrong_at} (D_wrong_at : Def K mg "wrong_at" s_wrong_at [] f_wrong_at fd_wrong_at) (O_wrong_at__H : FnC P w K mg base 13 f_wrong_at fd_wrong_at ["values", "most", "is_right"] (spC P w K mg base (vT (tl TL)) (gT (tl TL)) 12 2 3 ps_wrong_at)) (B : Blt mg) : FnC P w K mg base 14 f fd ["values", "most", "is_right"] (spC P w K mg base (vT (tl TL)) (gT (tl TL)) 12 2 3 ps_wrong_from_one) := fnC (gstT (tl TL)) D_.F sc_wrong_from_one (by decide) fun cdv A outer s H S g Φ F qs fr ws hr c => ⟨_, (s_cons (x_if (PQW.q (q_or (q_not (q_val (PP.toB (p_isi "tuple" B.isinstance B.tuple PyProof.Rows.boot_tuple (PP.toB (p_var 0)))))) (q_or1 (q_eq hr.units (PP.toB (p_var 0)) (PP.toB (p_tup d_nil)))))) (s_one (x_ret (PO'.e (o_lst (d_cons p_none d_nil))))) s_nil) (s_one (x_ret (p_callC O_wrong_at__H c (hr.mono (by decide)) D_wrong_at.m D_wrong_at.F.kp (b_wrong_at D_wrong_at) (n_da (p_var 0) (n_da (p_var 1) (n_rw 2 n_nil)))))))⟩
theorem sc_wrong_for_all : FnScope ["values", "many", "is_right", "found"] ["values", "many", "is_right"] (defScope s_wrong_for_all) := ⟨rfl, rfl, rfl, by decide +kernel, rfl, by decide +kernel, by decide +kernel⟩
theorem b_wrong_for_all {f fd} (D : Def K mg "wrong_for_all" s_wrong_for_all [] f fd) : Binds K fd ["values", "many", "is_right"] [] := FunD.bindsN (ps := ["values", "many", "is_right"]) D.F fun _ _ _ _ _ _ us hl => match us, hl with | [_, _, _], _ => rfl
def m_wrong_for_all (f : Addr) (Φ : Phi) : MS := (mSeq (mAsg (mCallC ps_wrong_at f Φ (mAda (mVar 0) (mAda (mC .none) (mArw 2 mAnil)))) (gN 3)) (mSeq (mIf (mAnd (mTest (mBin (oEq false) (mVar 3) (mL (mLst mBnil)))) (mTest (mBin (oEq true) (mC1 oLen (mBcons (mVar 0) mBnil)) (mVar 1)))) (mRet (mL (mLst (mDcons (mC .none) mBnil)))) mNext) (mRet (mVar 3))))
def ps_wrong_for_all : Addr → Phi → Phi := fun f Φ => bodyPhi 4 3 (m_wrong_for_all f Φ)
theorem ok_wrong_for_all {f fd} (D_ : Def K mg "wrong_for_all" s_wrong_for_all [] f fd) {f_wrong_at fd_wrong_at} (D_wrong_at : Def K mg "wrong_at" s_wrong_at [] f_wrong_at fd_wrong_at) (O_wrong_at : FnC P w K mg base 5 f_wrong_at fd_wrong_at ["values", "most", "is_right"] (spC P w K mg base (vT (tl TL)) (gT (tl TL)) 4 2 3 ps_wrong_at)) (B : Blt mg) : FnC P w K mg base 6 f fd ["values", "many", "is_right"] (spC P w K mg base (vT (tl TL)) (gT (tl TL)) 4 2 3 ps_wrong_for_all) := fnC (gstT (tl TL)) D_.F sc_wrong_for_all (by decide) fun cdv A outer s H S g Φ F qs fr ws hr c => ⟨_, (s_cons (x_set 3 (p_callC O_wrong_at c (hr.mono (by decide)) D_wrong_at.m D_wrong_at.F.kp (b_wrong_at D_wrong_at) (n_da (p_var 0) (n_da p_none (n_rw 2 n_nil)))) sc_wrong_for_all.nd) (s_cons (x_if (PQW.q (q_and (q_eq hr.units (PP.toB (p_var 3)) (PO'.toB (o_lst d_nil))) (q_and1 (q_ne hr.units (PP.toB (p_len B.len (b_cons (PP.toB (p_var 0)) b_nil))) (PP.toB (p_var 1)))))) (s_one (x_ret (PO'.e (o_lst (d_cons p_none d_nil))))) s_nil) (s_one (x_ret (p_var 3)))))⟩
theorem ok_wrong_for_all__H {f fd} (D_ : Def K mg "wrong_for_all" s_wrong_for_all [] f fd) {f_wrong_at fd_wrong_at} (D_wrong_at : Def K mg "wrong_at" s_wrong_at [] f_wrong_at fd_wrong_at) (O_wrong_at__H : FnC P w K mg base 13 f_wrong_at fd_wrong_at ["values", "most", "is_right"] (spC P w K mg base (vT (tl TL)) (gT (tl TL)) 12 2 3 ps_wrong_at)) (B : Blt mg) : FnC P w K mg base 14 f fd ["values", "many", "is_right"] (spC P w K mg base (vT (tl TL)) (gT (tl TL)) 12 2 3 ps_wrong_for_all) := fnC (gstT (tl TL)) D_.F sc_wrong_for_all (by decide) fun cdv A outer s H S g Φ F qs fr ws hr c => ⟨_, (s_cons (x_set 3 (p_callC O_wrong_at__H c (hr.mono (by decide)) D_wrong_at.m D_wrong_at.F.kp (b_wrong_at D_wrong_at) (n_da (p_var 0) (n_da p_none (n_rw 2 n_nil)))) sc_wrong_for_all.nd) (s_cons (x_if (PQW.q (q_and (q_eq hr.units (PP.toB (p_var 3)) (PO'.toB (o_lst d_nil))) (q_and1 (q_ne hr.units (PP.toB (p_len B.len (b_cons (PP.toB (p_var 0)) b_nil))) (PP.toB (p_var 1)))))) (s_one (x_ret (PO'.e (o_lst (d_cons p_none d_nil))))) s_nil) (s_one (x_ret (p_var 3)))))⟩
theorem sc_is_letters : FnScope ["value", "least", "most", "letter"] ["value", "least", "most"] (defScope s_is_letters) := ⟨rfl, rfl, rfl, by decide +kernel, rfl, by decide +kernel, by decide +kernel⟩
theorem b_is_letters {f fd} (D : Def K mg "is_letters" s_is_letters [] f fd) : Binds K fd ["value", "least", "most"] [] := FunD.bindsN (ps := ["value", "least", "most"]) D.F fun _ _ _ _ _ _ us hl => match us, hl with | [_, _, _], _ => rfl
def m_is_letters : MS := (mSeq (mIf (mOr (mNot (mTest (mIsi "str" (mVar 0)))) (mNot (mTest (mLeLe (mVar 1) (mC1 oLen (mBcons (mVar 0) mBnil)) (mVar 2))))) (mRet (mC (.bool false))) mNext) (mRet (mC1 oAll (mBcons (mL (mLc (mItS (mVar 0)) (gN 3) mYes (mBin oInT (mVar 3) (mC (.str "abcdefghijklmnopqrstuvwxyz"))) [3])) mBnil))))
def ph_is_letters : Phi := bodyPhi 4 3 m_is_letters
theorem ok_is_letters {f fd} (D_ : Def K mg "is_letters" s_is_letters [] f fd) (V_SMALL_LETTERS : GVal K mg "SMALL_LETTERS" (.str "abcdefghijklmnopqrstuvwxyz")) (B : Blt mg) : FnOk P w K mg base CX0 1 f fd ["value", "least", "most"] (spG K (vT (tl TL)) (gT (tl TL)) 3 ph_is_letters) := fnD (gstT (tl TL)) D_.F sc_is_letters (by decide) fun cdv A outer s H S E hr => ⟨_, (s_cons (x_if (PQW.q (q_or (q_not (q_val (PP.toB (p_isi "str" B.isinstance B.str PyProof.Rows.boot_str (PP.toB (p_var 0)))))) (q_or1 (q_not (q_leLe (PP.toB (p_var 1)) (PP.toB (p_len B.len (b_cons (PP.toB (p_var 0)) b_nil))) (PP.toB (p_var 2))))))) (s_one (x_ret p_bool)) s_nil) (s_one (x_ret (p_all B.all (b_cons (PO'.toB (o_lc [("letter", 3)] sc_is_letters.nd (PIt.toB (i_str (p_var 0))) (blkOk_by (N := ["value", "least", "most", "letter"]) (sc := defScope s_is_letters) (by decide +kernel)) (by intro _ _ _ _ _; exact (g_nm 3 sc_is_letters.nd)) (by intro _ _ _ _ _; exact t_nil) (by intro _ _ _ _ _; exact (p_inT (PP.toB (p_var 3)) (PP.toB (p_gv V_SMALL_LETTERS)))))) b_nil)))))⟩
theorem sc_is_name : FnScope ["value"] ["value"] (defScope s_is_name) := ⟨rfl, rfl, rfl, by decide +kernel, rfl, by decide +kernel, by decide +kernel⟩
theorem b_is_name {f fd} (D : Def K mg "is_name" s_is_name [] f fd) : Binds K fd ["value"] [] := FunD.bindsN (ps := ["value"]) D.F fun _ _ _ _ _ _ us hl => match us, hl with | [_], _ => rfl
def m_is_name : MS := (mRet (mAndV (mCall (ph_is_letters) (mAda (mVar 0) (mAda (mC (.int 1)) (mAda (mC (.int 8)) mAnil)))) (mBin (oInS true) (mVar 0) (mC (.tuple [(.str "above"), (.str "all"), (.str "any"), (.str "bears"), (.str "below"), (.str "broke"), (.str "by"), (.str "can"), (.str "crate"), (.str "day"), (.str "days"), (.str "goes"), (.str "guest"), (.str "held"), (.str "holds"), (.str "in"), (.str "leaves"), (.str "lifts"), (.str "loads"), (.str "most"), (.str "no"), (.str "none"), (.str "of"), (.str "on"), (.str "out"), (.str "pull"), (.str "put"), (.str "room"), (.str "rule"), (.str "shelf"), (.str "slip"), (.str "snow"), (.str "spare"), (.str "stack"), (.str "take"), (.str "tidy"), (.str "to"), (.str "top"), (.str "weighs"), (.str "with"), (.str "yard")])))))
def ph_is_name : Phi := bodyPhi 1 1 m_is_name
theorem ok_is_name {f fd} (D_ : Def K mg "is_name" s_is_name [] f fd) {f_is_letters fd_is_letters} (D_is_letters : Def K mg "is_letters" s_is_letters [] f_is_letters fd_is_letters) (O_is_letters : FnOk P w K mg base CX0 1 f_is_letters fd_is_letters ["value", "least", "most"] (spG K (vT (tl TL)) (gT (tl TL)) 3 ph_is_letters)) (V_MOST_IN_NAME : GVal K mg "MOST_IN_NAME" (.int 8)) {a_WORDS} (V_WORDS : GTup K mg "WORDS" a_WORDS (.tuple [(.str "above"), (.str "all"), (.str "any"), (.str "bears"), (.str "below"), (.str "broke"), (.str "by"), (.str "can"), (.str "crate"), (.str "day"), (.str "days"), (.str "goes"), (.str "guest"), (.str "held"), (.str "holds"), (.str "in"), (.str "leaves"), (.str "lifts"), (.str "loads"), (.str "most"), (.str "no"), (.str "none"), (.str "of"), (.str "on"), (.str "out"), (.str "pull"), (.str "put"), (.str "room"), (.str "rule"), (.str "shelf"), (.str "slip"), (.str "snow"), (.str "spare"), (.str "stack"), (.str "take"), (.str "tidy"), (.str "to"), (.str "top"), (.str "weighs"), (.str "with"), (.str "yard")])) : FnOk P w K mg base CX0 2 f fd ["value"] (spG K (vT (tl TL)) (gT (tl TL)) 1 ph_is_name) := fnD (gstT (tl TL)) D_.F sc_is_name (by decide) fun cdv A outer s H S E hr => ⟨_, (s_one (x_ret (p_and (p_call O_is_letters Compat.refl (hr.mono (by decide)) D_is_letters.m D_is_letters.F.kp (b_is_letters D_is_letters) (n_da (p_var 0) (n_da p_int (n_da (p_gv V_MOST_IN_NAME) n_nil)))) (p_one (p_notS (PP.toB (p_var 0)) (PP.toB (p_gtup V_WORDS)))))))⟩
theorem sc_is_one_of : FnScope ["value", "words"] ["value", "words"] (defScope s_is_one_of) := ⟨rfl, rfl, rfl, by decide +kernel, rfl, by decide +kernel, by decide +kernel⟩
theorem b_is_one_of {f fd} (D : Def K mg "is_one_of" s_is_one_of [] f fd) : Binds K fd ["value", "words"] [] := FunD.bindsN (ps := ["value", "words"]) D.F fun _ _ _ _ _ _ us hl => match us, hl with | [_, _], _ => rfl
def m_is_one_of : MS := (mRet (mAndV (mIsi "str" (mVar 0)) (mBin (oInS false) (mVar 0) (mVar 1))))
def ph_is_one_of : Phi := bodyPhi 2 2 m_is_one_of
theorem ok_is_one_of {f fd} (D_ : Def K mg "is_one_of" s_is_one_of [] f fd) (B : Blt mg) : FnOk P w K mg base CX0 1 f fd ["value", "words"] (spG K (vT (tl TL)) (gT (tl TL)) 2 ph_is_one_of) := fnD (gstT (tl TL)) D_.F sc_is_one_of (by decide) fun cdv A outer s H S E hr => ⟨_, (s_one (x_ret (p_and (p_isi "str" B.isinstance B.str PyProof.Rows.boot_str (PP.toB (p_var 0))) (p_one (p_inS (PP.toB (p_var 0)) (PP.toB (p_var 1)))))))⟩
theorem sc_weights_by : FnScope ["lot", "name", "weight", "bears"] ["lot"] (defScope s_weights_by) := ⟨rfl, rfl, rfl, by decide +kernel, rfl, by decide +kernel, by decide +kernel⟩
theorem b_weights_by {f fd} (D : Def K mg "weights_by" s_weights_by [] f fd) : Binds K fd ["lot"] [] := FunD.bindsN (ps := ["lot"]) D.F fun _ _ _ _ _ _ us hl => match us, hl with | [_], _ => rfl
def m_weights_by : MS := (mRet (mDi (mDc (mItT (mVar 0)) (gTp 3 (gCs (gN 1) (gCs (gN 2) (gCs (gN 3) gNl)))) mYes (mVar 1) (mVar 2) [1, 2, 3])))
def ph_weights_by : Phi := bodyPhi 4 1 m_weights_by
theorem ok_weights_by {f fd} (D_ : Def K mg "weights_by" s_weights_by [] f fd) : FnOk P w K mg base CX0 1 f fd ["lot"] (spG K (vT (tl TL)) (gT (tl TL)) 1 ph_weights_by) := fnD (gstT (tl TL)) D_.F sc_weights_by (by decide) fun cdv A outer s H S E hr => ⟨_, (s_one (x_ret (POd.toP (o_dc [("name", 1), ("weight", 2), ("bears", 3)] sc_weights_by.nd (PIt.toB (i_tup (p_var 0))) (blkOk_by (N := ["lot", "name", "weight", "bears"]) (sc := defScope s_weights_by) (by decide +kernel)) (by intro _ _ _ _ _; exact (g_tp (gs_cons (g_nm 1 sc_weights_by.nd) (gs_cons (g_nm 2 sc_weights_by.nd) (gs_cons (g_nm 3 sc_weights_by.nd) gs_nil))))) (by intro _ _ _ _ _; exact t_nil) (by intro _ _ _ _ _; exact (p_var 1)) (by intro _ _ _ _ _; exact (p_var 2))))))⟩
theorem sc_loads_in : FnScope ["lot", "stack", "name", "weights", "found", "load"] ["lot", "stack"] (defScope s_loads_in) := ⟨rfl, rfl, rfl, by decide +kernel, rfl, by decide +kernel, by decide +kernel⟩
theorem b_loads_in {f fd} (D : Def K mg "loads_in" s_loads_in [] f fd) : Binds K fd ["lot", "stack"] [] := FunD.bindsN (ps := ["lot", "stack"]) D.F fun _ _ _ _ _ _ us hl => match us, hl with | [_, _], _ => rfl
def m_loads_in : MS := (mSeq (mPar3 3 4 5 (mXda (mCall (ph_weights_by) (mAda (mVar 0) mAnil)) (mXow (mLst mBnil) (mXda (mC (.int 0)) mXnil)))) (mSeq (mFor (mItT (mVar 1)) (gN 2) (mSeq (mApp 4 (mVar 5)) (mAug o_add 5 (mDget (mVar 3) (mVar 2)))) [2]) (mFrz 4 (mRet (mVar 4)))))
def ph_loads_in : Phi := bodyPhi 6 2 m_loads_in
theorem ok_loads_in {f fd} (D_ : Def K mg "loads_in" s_loads_in [] f fd) {f_weights_by fd_weights_by} (D_weights_by : Def K mg "weights_by" s_weights_by [] f_weights_by fd_weights_by) (O_weights_by : FnOk P w K mg base CX0 1 f_weights_by fd_weights_by ["lot"] (spG K (vT (tl TL)) (gT (tl TL)) 1 ph_weights_by)) : FnOk P w K mg base CX0 2 f fd ["lot", "stack"] (spG K (vT (tl TL)) (gT (tl TL)) 2 ph_loads_in) := fnD (gstT (tl TL)) D_.F sc_loads_in (by decide) fun cdv A outer s H S E hr => ⟨_, (s_cons (x_par3 3 4 5 (xa_da (p_call O_weights_by Compat.refl (hr.mono (by decide)) D_weights_by.m D_weights_by.F.kp (b_weights_by D_weights_by) (n_da (p_var 0) n_nil)) (xa_ow (o_lst d_nil) (xa_da p_int x_pnil))) sc_loads_in.nd) (s_cons (x_for [2] (i_tup (p_var 1)) (g_nm 2 sc_loads_in.nd) (s_cons (x_app 4 (p_var 5)) (s_one (x_aug_add 5 (p_dget hr.u1 (PP.toB (p_var 3)) (p_var 2)) sc_loads_in.nd)))) (s_one (x_frz 4 (x_ret (p_var 4))))))⟩
theorem sc_is_piece : FnScope ["value"] ["value"] (defScope s_is_piece) := ⟨rfl, rfl, rfl, by decide +kernel, rfl, by decide +kernel, by decide +kernel⟩
theorem b_is_piece {f fd} (D : Def K mg "is_piece" s_is_piece [] f fd) : Binds K fd ["value"] [] := FunD.bindsN (ps := ["value"]) D.F fun _ _ _ _ _ _ us hl => match us, hl with | [_], _ => rfl
def m_is_piece : MS := (mRet (mAndV (mCall (ph_is_tuple_of) (mAda (mVar 0) (mAda (mC (.int 2)) mAnil))) (mAndV (mCall (ph_is_name) (mAda (mBin oIx (mVar 0) (mC (.int 0))) mAnil)) (mCall (ph_is_number) (mAda (mBin oIx (mVar 0) (mC (.int 1))) (mAda (mC (.int 1)) (mAda (mC (.int 999)) mAnil)))))))
def ph_is_piece : Phi := bodyPhi 1 1 m_is_piece
theorem ok_is_piece {f fd} (D_ : Def K mg "is_piece" s_is_piece [] f fd) {f_is_tuple_of fd_is_tuple_of} (D_is_tuple_of : Def K mg "is_tuple_of" s_is_tuple_of [] f_is_tuple_of fd_is_tuple_of) (O_is_tuple_of : FnOk P w K mg base CX0 1 f_is_tuple_of fd_is_tuple_of ["value", "many"] (spG K (vT (tl TL)) (gT (tl TL)) 2 ph_is_tuple_of)) {f_is_name fd_is_name} (D_is_name : Def K mg "is_name" s_is_name [] f_is_name fd_is_name) (O_is_name : FnOk P w K mg base CX0 2 f_is_name fd_is_name ["value"] (spG K (vT (tl TL)) (gT (tl TL)) 1 ph_is_name)) {f_is_number fd_is_number} (D_is_number : Def K mg "is_number" s_is_number [] f_is_number fd_is_number) (O_is_number : FnOk P w K mg base CX0 2 f_is_number fd_is_number ["value", "low", "high"] (spG K (vT (tl TL)) (gT (tl TL)) 3 ph_is_number)) (V_MOST_WEIGHT : GVal K mg "MOST_WEIGHT" (.int 999)) : FnOk P w K mg base CX0 3 f fd ["value"] (spG K (vT (tl TL)) (gT (tl TL)) 1 ph_is_piece) := fnD (gstT (tl TL)) D_.F sc_is_piece (by decide) fun cdv A outer s H S E hr => ⟨_, (s_one (x_ret (p_and (p_call O_is_tuple_of Compat.refl (hr.mono (by decide)) D_is_tuple_of.m D_is_tuple_of.F.kp (b_is_tuple_of D_is_tuple_of) (n_da (p_var 0) (n_da p_int n_nil))) (p_and (p_call O_is_name Compat.refl (hr.mono (by decide)) D_is_name.m D_is_name.F.kp (b_is_name D_is_name) (n_da (p_ix (PP.toB (p_var 0)) (PP.toB p_int)) n_nil)) (p_one (p_call O_is_number Compat.refl (hr.mono (by decide)) D_is_number.m D_is_number.F.kp (b_is_number D_is_number) (n_da (p_ix (PP.toB (p_var 0)) (PP.toB p_int)) (n_da p_int (n_da (p_gv V_MOST_WEIGHT) n_nil)))))))))⟩
theorem sc_wrong_pieces : FnScope ["value", "is_right"] ["value"] (defScope s_wrong_pieces) := ⟨rfl, rfl, rfl, by decide +kernel, rfl, by decide +kernel, by decide +kernel⟩
theorem b_wrong_pieces {f fd} (D : Def K mg "wrong_pieces" s_wrong_pieces [] f fd) : Binds K fd ["value"] [] := FunD.bindsN (ps := ["value"]) D.F fun _ _ _ _ _ _ us hl => match us, hl with | [_], _ => rfl
abbrev n_wrong_pieces : Stmt := (defBody s_wrong_pieces).getD 0 (.Pass ⟨0, 0, 0, 0⟩)
theorem ns_wrong_pieces : NdefX.NScope ["each", "before"] ["each", "before"] [] (C8.fnScope n_wrong_pieces) := NdefX.nscope_by (by decide +kernel)
theorem nb_wrong_pieces : NdefX.ndefB (defScope s_wrong_pieces) (C8.fnScope n_wrong_pieces) [] = true := by decide +kernel
def mr_wrong_pieces : MS := (mRet (mAndV (mCall (ph_is_piece) (mAda (mVar 0) mAnil)) (mOrV (mBin (oEq false) (mVar 1) (mTup mBnil)) (mBin oLtS (mBin oIx (mBin oIx (mVar 1) (mUn oNeg (mC (.int 1)))) (mC (.int 0))) (mBin oIx (mVar 0) (mC (.int 0)))))))
def pr_wrong_pieces : List D → Phi := fun ds => cloPhi 2 2 ds mr_wrong_pieces
def m_wrong_pieces : MS := mNdef 1 [] pr_wrong_pieces ps_wrong_from_one (mAda (mVar 0) (mAda (mC (.int 7)) (mArw 1 mAnil)))
def ph_wrong_pieces : Phi := bodyPhi 2 1 m_wrong_pieces
theorem ok_wrong_pieces {f fd} (D_ : Def K mg "wrong_pieces" s_wrong_pieces [] f fd) (M_ : Mk base mg (tl TL) fd "wrong_pieces.<locals>.is_right") {f_wrong_from_one fd_wrong_from_one} (D_wrong_from_one : Def K mg "wrong_from_one" s_wrong_from_one [] f_wrong_from_one fd_wrong_from_one) (O_wrong_from_one : FnC P w K mg base 6 f_wrong_from_one fd_wrong_from_one ["values", "most", "is_right"] (spC P w K mg base (vT (tl TL)) (gT (tl TL)) 4 2 3 ps_wrong_from_one)) {f_is_piece fd_is_piece} (D_is_piece : Def K mg "is_piece" s_is_piece [] f_is_piece fd_is_piece) (O_is_piece : FnOk P w K mg base CX0 3 f_is_piece fd_is_piece ["value"] (spG K (vT (tl TL)) (gT (tl TL)) 1 ph_is_piece)) (V_MOST_CRATES : GVal K mg "MOST_CRATES" (.int 7)) : FnOk P w K mg base CX0 7 f fd ["value"] (spG K (vT (tl TL)) (gT (tl TL)) 1 ph_wrong_pieces) := fnDc (gstT (tl TL)) D_.F sc_wrong_pieces (by decide) fun cdv A outer s H S E hcd hr => by
  obtain ⟨c, Pt, h1, TB, hT, hu⟩ := M_.ex
  have hco : cdv = .ref c := hcd.symm.trans h1
  exact b_ndef (C := gc (vT (tl TL)) (gT (tl TL)) (gstT (tl TL)) S H) (T := (tl TL)) (i := 1) (js := []) (fr := []) (qs := ["each", "before"]) (kc := 4) (nc := 2) (Φc := pr_wrong_pieces) (Ψ := ps_wrong_from_one) rfl rfl
    (NdefX.ps_ndefMS (st := n_wrong_pieces) (T := (tl TL)) (i := 1) (name := "is_right") rfl TB hco hT rfl hu (NdefX.ndef_free nb_wrong_pieces) rfl rfl rfl sc_wrong_pieces.nd rfl (Or.inl rfl) (Or.inl rfl))
    O_wrong_from_one (hr.mono (by decide)) D_wrong_from_one.m D_wrong_from_one.F.kp (b_wrong_from_one D_wrong_from_one) (n_da (p_var 0) (n_da (p_gv V_MOST_CRATES) (n_rw 1 n_nil))) rfl (by decide) rfl rfl
    (fun ok => NdefX.Caps.made ok (NdefX.ndef_free nb_wrong_pieces) (NdefX.ndef_fr nb_wrong_pieces) rfl) rfl (by decide)
    (fun f' c' S' ws ds hd hl => (nok_pure (k := 3) (N := ["each", "before"]) (gstT (tl TL)) ns_wrong_pieces (fun _ _ _ us hl => match us, hl with | [_, _], _ => rfl) hd hl (by decide) fun A outer s H S E hr => ⟨_, (s_one (x_ret (p_and (p_call O_is_piece Compat.refl (hr.mono (by decide)) D_is_piece.m D_is_piece.F.kp (b_is_piece D_is_piece) (n_da (p_var 0) n_nil)) (p_one (p_or (p_eq hr.units (PP.toB (p_var 1)) (PP.toB (p_tup d_nil))) (p_one (p_ltS (PP.toB (p_ix (PP.toB (p_ix (PP.toB (p_var 1)) (PP.toB (p_neg (PP.toB p_int))))) (PP.toB p_int))) (PP.toB (p_ix (PP.toB (p_var 0)) (PP.toB p_int))))))))))⟩)) (fun _ => rfl)
theorem sc_piece_names : FnScope ["pieces", "name", "_"] ["pieces"] (defScope s_piece_names) := ⟨rfl, rfl, rfl, by decide +kernel, rfl, by decide +kernel, by decide +kernel⟩
theorem b_piece_names {f fd} (D : Def K mg "piece_names" s_piece_names [] f fd) : Binds K fd ["pieces"] [] := FunD.bindsN (ps := ["pieces"]) D.F fun _ _ _ _ _ _ us hl => match us, hl with | [_], _ => rfl
def m_piece_names : MS := (mRet (mC1 oTuple (mBcons (mL (mLc (mItT (mVar 0)) (gTp 2 (gCs (gN 1) (gCs (gN 2) gNl))) mYes (mVar 1) [1, 2])) mBnil)))
def ph_piece_names : Phi := bodyPhi 3 1 m_piece_names
theorem ok_piece_names {f fd} (D_ : Def K mg "piece_names" s_piece_names [] f fd) (B : Blt mg) : FnOk P w K mg base CX0 1 f fd ["pieces"] (spG K (vT (tl TL)) (gT (tl TL)) 1 ph_piece_names) := fnD (gstT (tl TL)) D_.F sc_piece_names (by decide) fun cdv A outer s H S E hr => ⟨_, (s_one (x_ret (p_tuple B.tuple (b_cons (PO'.toB (o_lc [("name", 1), ("_", 2)] sc_piece_names.nd (PIt.toB (i_tup (p_var 0))) (blkOk_by (N := ["pieces", "name", "_"]) (sc := defScope s_piece_names) (by decide +kernel)) (by intro _ _ _ _ _; exact (g_tp (gs_cons (g_nm 1 sc_piece_names.nd) (gs_cons (g_nm 2 sc_piece_names.nd) gs_nil)))) (by intro _ _ _ _ _; exact t_nil) (by intro _ _ _ _ _; exact (p_var 1)))) b_nil))))⟩
theorem sc_wrong_order : FnScope ["names", "value"] ["names", "value"] (defScope s_wrong_order) := ⟨rfl, rfl, rfl, by decide +kernel, rfl, by decide +kernel, by decide +kernel⟩
theorem b_wrong_order {f fd} (D : Def K mg "wrong_order" s_wrong_order [] f fd) : Binds K fd ["names", "value"] [] := FunD.bindsN (ps := ["names", "value"]) D.F fun _ _ _ _ _ _ us hl => match us, hl with | [_, _], _ => rfl
def ml_wrong_order_lam : ME := (mAndV (mCall (ph_is_one_of) (mAda (mVar 0) (mAda (mVar 2) mAnil))) (mBin (oInS true) (mVar 0) (mVar 1)))
def pl_wrong_order_lam : List D → Phi := fun ds => lamPhi 3 3 ds ml_wrong_order_lam
def m_wrong_order : MS := (mRet (mCallL [0] pl_wrong_order_lam ps_wrong_from_one (mAda (mVar 1) (mAda (mC .none) mAnil))))
def ph_wrong_order : Phi := bodyPhi 2 2 m_wrong_order
theorem ok_wrong_order {f fd} (D_ : Def K mg "wrong_order" s_wrong_order [] f fd) {f_wrong_from_one fd_wrong_from_one} (D_wrong_from_one : Def K mg "wrong_from_one" s_wrong_from_one [] f_wrong_from_one fd_wrong_from_one) (O_wrong_from_one : FnC P w K mg base 6 f_wrong_from_one fd_wrong_from_one ["values", "most", "is_right"] (spC P w K mg base (vT (tl TL)) (gT (tl TL)) 4 2 3 ps_wrong_from_one)) {f_is_one_of fd_is_one_of} (D_is_one_of : Def K mg "is_one_of" s_is_one_of [] f_is_one_of fd_is_one_of) (O_is_one_of : FnOk P w K mg base CX0 1 f_is_one_of fd_is_one_of ["value", "words"] (spG K (vT (tl TL)) (gT (tl TL)) 2 ph_is_one_of)) (M_ : Mk base mg (tl TL) fd "wrong_order.<locals>.<lambda>") : FnOk P w K mg base CX0 7 f fd ["names", "value"] (spG K (vT (tl TL)) (gT (tl TL)) 2 ph_wrong_order) := fnDc (gstT (tl TL)) D_.F sc_wrong_order (by decide) fun cdv A outer s H S E hcd hr => ⟨_, (s_one (x_ret (p_callL2 (js := [0]) (fr := ["names"]) (qs := ["each", "before"]) (kc := 4) (nc := 2) (Φc := pl_wrong_order_lam) (Ψ := ps_wrong_from_one) rfl rfl M_ hcd.symm rfl O_wrong_from_one (hr.mono (by decide)) D_wrong_from_one.m D_wrong_from_one.F.kp (b_wrong_from_one D_wrong_from_one) (p_var 1) p_none rfl (NdefX.ndef_free (sc := defScope s_wrong_order) (fr := ["names"]) (by decide +kernel)) (fun ok => NdefX.Caps.made ok (NdefX.ndef_free (sc := defScope s_wrong_order) (fr := ["names"]) (by decide +kernel)) (NdefX.ndef_fr (sc := defScope s_wrong_order) (fr := ["names"]) (by decide +kernel)) rfl) rfl (fun f2 c2 S2 ws ds hd hl => (lok_pure (k := 3) (N := ["each", "before", "names"]) (ps := ["each", "before"]) (gstT (tl TL)) (NdefX.nscope_by (by first | kernel_rfl | rfl)) (fun _ _ us hl => match us, hl with | [_, _], _ => rfl) hd hl (by decide) fun A outer s H S hr => ⟨_, (p_and (p_call O_is_one_of Compat.refl (hr.mono (by decide)) D_is_one_of.m D_is_one_of.F.kp (b_is_one_of D_is_one_of) (n_da (p_var 0) (n_da (p_var 2) n_nil))) (p_one (p_notS (PP.toB (p_var 0)) (PP.toB (p_var 1)))))⟩)) (fun _ => rfl))))⟩
theorem sc_is_sight : FnScope ["names", "value"] ["names", "value"] (defScope s_is_sight) := ⟨rfl, rfl, rfl, by decide +kernel, rfl, by decide +kernel, by decide +kernel⟩
theorem b_is_sight {f fd} (D : Def K mg "is_sight" s_is_sight [] f fd) : Binds K fd ["names", "value"] [] := FunD.bindsN (ps := ["names", "value"]) D.F fun _ _ _ _ _ _ us hl => match us, hl with | [_, _], _ => rfl
def m_is_sight : MS := (mSeq (mIf (mOr (mNot (mTest (mCall (ph_is_tuple_of) (mAda (mVar 1) (mAda (mC (.int 2)) mAnil))))) (mTest (mBin (oEq true) (mCall (ph_wrong_order) (mAda (mVar 0) (mAda (mBin oIx (mVar 1) (mC (.int 0))) mAnil))) (mL (mLst mBnil))))) (mRet (mC (.bool false))) mNext) (mRet (mCall (ph_is_one_of) (mAda (mBin oIx (mVar 1) (mC (.int 1))) (mAda (mBin oCatT (mTup (mDcons (mC (.str "")) mBnil)) (mBin oIx (mVar 1) (mC (.int 0)))) mAnil)))))
def ph_is_sight : Phi := bodyPhi 2 2 m_is_sight
theorem ok_is_sight {f fd} (D_ : Def K mg "is_sight" s_is_sight [] f fd) {f_is_tuple_of fd_is_tuple_of} (D_is_tuple_of : Def K mg "is_tuple_of" s_is_tuple_of [] f_is_tuple_of fd_is_tuple_of) (O_is_tuple_of : FnOk P w K mg base CX0 1 f_is_tuple_of fd_is_tuple_of ["value", "many"] (spG K (vT (tl TL)) (gT (tl TL)) 2 ph_is_tuple_of)) {f_wrong_order fd_wrong_order} (D_wrong_order : Def K mg "wrong_order" s_wrong_order [] f_wrong_order fd_wrong_order) (O_wrong_order : FnOk P w K mg base CX0 7 f_wrong_order fd_wrong_order ["names", "value"] (spG K (vT (tl TL)) (gT (tl TL)) 2 ph_wrong_order)) {f_is_one_of fd_is_one_of} (D_is_one_of : Def K mg "is_one_of" s_is_one_of [] f_is_one_of fd_is_one_of) (O_is_one_of : FnOk P w K mg base CX0 1 f_is_one_of fd_is_one_of ["value", "words"] (spG K (vT (tl TL)) (gT (tl TL)) 2 ph_is_one_of)) (V_HELD : GVal K mg "HELD" (.str "")) : FnOk P w K mg base CX0 8 f fd ["names", "value"] (spG K (vT (tl TL)) (gT (tl TL)) 2 ph_is_sight) := fnD (gstT (tl TL)) D_.F sc_is_sight (by decide) fun cdv A outer s H S E hr => ⟨_, (s_cons (x_if (PQW.q (q_or (q_not (q_val (PP.toB (p_call O_is_tuple_of Compat.refl (hr.mono (by decide)) D_is_tuple_of.m D_is_tuple_of.F.kp (b_is_tuple_of D_is_tuple_of) (n_da (p_var 1) (n_da p_int n_nil)))))) (q_or1 (q_ne hr.units (PP.toB (p_call O_wrong_order Compat.refl (hr.mono (by decide)) D_wrong_order.m D_wrong_order.F.kp (b_wrong_order D_wrong_order) (n_da (p_var 0) (n_da (p_ix (PP.toB (p_var 1)) (PP.toB p_int)) n_nil)))) (PO'.toB (o_lst d_nil)))))) (s_one (x_ret p_bool)) s_nil) (s_one (x_ret (p_call O_is_one_of Compat.refl (hr.mono (by decide)) D_is_one_of.m D_is_one_of.F.kp (b_is_one_of D_is_one_of) (n_da (p_ix (PP.toB (p_var 1)) (PP.toB p_int)) (n_da (p_catT (PP.toB (p_tup (d_cons (p_gv V_HELD) d_nil))) (PP.toB (p_ix (PP.toB (p_var 1)) (PP.toB p_int)))) n_nil))))))⟩
theorem sc_wrong_seen : FnScope ["pieces", "value", "names"] ["pieces", "value"] (defScope s_wrong_seen) := ⟨rfl, rfl, rfl, by decide +kernel, rfl, by decide +kernel, by decide +kernel⟩
theorem b_wrong_seen {f fd} (D : Def K mg "wrong_seen" s_wrong_seen [] f fd) : Binds K fd ["pieces", "value"] [] := FunD.bindsN (ps := ["pieces", "value"]) D.F fun _ _ _ _ _ _ us hl => match us, hl with | [_, _], _ => rfl
def ml_wrong_seen_lam : ME := (mCall (ph_is_sight) (mAda (mVar 2) (mAda (mVar 0) mAnil)))
def pl_wrong_seen_lam : List D → Phi := fun ds => lamPhi 3 3 ds ml_wrong_seen_lam
def m_wrong_seen : MS := (mSeq (mAsg (mCall (ph_piece_names) (mAda (mVar 0) mAnil)) (gN 2)) (mRet (mCallL [2] pl_wrong_seen_lam ps_wrong_at (mAda (mVar 1) (mAda (mC (.int 9)) mAnil)))))
def ph_wrong_seen : Phi := bodyPhi 3 2 m_wrong_seen
theorem ok_wrong_seen {f fd} (D_ : Def K mg "wrong_seen" s_wrong_seen [] f fd) {f_piece_names fd_piece_names} (D_piece_names : Def K mg "piece_names" s_piece_names [] f_piece_names fd_piece_names) (O_piece_names : FnOk P w K mg base CX0 1 f_piece_names fd_piece_names ["pieces"] (spG K (vT (tl TL)) (gT (tl TL)) 1 ph_piece_names)) {f_wrong_at fd_wrong_at} (D_wrong_at : Def K mg "wrong_at" s_wrong_at [] f_wrong_at fd_wrong_at) (O_wrong_at__H : FnC P w K mg base 13 f_wrong_at fd_wrong_at ["values", "most", "is_right"] (spC P w K mg base (vT (tl TL)) (gT (tl TL)) 12 2 3 ps_wrong_at)) {f_is_sight fd_is_sight} (D_is_sight : Def K mg "is_sight" s_is_sight [] f_is_sight fd_is_sight) (O_is_sight : FnOk P w K mg base CX0 8 f_is_sight fd_is_sight ["names", "value"] (spG K (vT (tl TL)) (gT (tl TL)) 2 ph_is_sight)) (V_MOST_SEEN : GVal K mg "MOST_SEEN" (.int 9)) (M_ : Mk base mg (tl TL) fd "wrong_seen.<locals>.<lambda>") : FnOk P w K mg base CX0 14 f fd ["pieces", "value"] (spG K (vT (tl TL)) (gT (tl TL)) 2 ph_wrong_seen) := fnDc (gstT (tl TL)) D_.F sc_wrong_seen (by decide) fun cdv A outer s H S E hcd hr => ⟨_, (s_cons (x_set 2 (p_call O_piece_names Compat.refl (hr.mono (by decide)) D_piece_names.m D_piece_names.F.kp (b_piece_names D_piece_names) (n_da (p_var 0) n_nil)) sc_wrong_seen.nd) (s_one (x_ret (p_callL2 (js := [2]) (fr := ["names"]) (qs := ["each", "before"]) (kc := 12) (nc := 2) (Φc := pl_wrong_seen_lam) (Ψ := ps_wrong_at) rfl rfl M_ hcd.symm rfl O_wrong_at__H (hr.mono (by decide)) D_wrong_at.m D_wrong_at.F.kp (b_wrong_at D_wrong_at) (p_var 1) (p_gv V_MOST_SEEN) rfl (NdefX.ndef_free (sc := defScope s_wrong_seen) (fr := ["names"]) (by decide +kernel)) (fun ok => NdefX.Caps.made ok (NdefX.ndef_free (sc := defScope s_wrong_seen) (fr := ["names"]) (by decide +kernel)) (NdefX.ndef_fr (sc := defScope s_wrong_seen) (fr := ["names"]) (by decide +kernel)) rfl) rfl (fun f2 c2 S2 ws ds hd hl => (lok_pure (k := 11) (N := ["each", "before", "names"]) (ps := ["each", "before"]) (gstT (tl TL)) (NdefX.nscope_by (by first | kernel_rfl | rfl)) (fun _ _ us hl => match us, hl with | [_, _], _ => rfl) hd hl (by decide) fun A outer s H S hr => ⟨_, (p_call O_is_sight Compat.refl (hr.mono (by decide)) D_is_sight.m D_is_sight.F.kp (b_is_sight D_is_sight) (n_da (p_var 2) (n_da (p_var 0) n_nil)))⟩)) (fun _ => rfl)))))⟩
theorem sc_lot_with_bears : FnScope ["pieces", "bears", "number", "name", "weight"] ["pieces", "bears"] (defScope s_lot_with_bears) := ⟨rfl, rfl, rfl, by decide +kernel, rfl, by decide +kernel, by decide +kernel⟩
theorem b_lot_with_bears {f fd} (D : Def K mg "lot_with_bears" s_lot_with_bears [] f fd) : Binds K fd ["pieces", "bears"] [] := FunD.bindsN (ps := ["pieces", "bears"]) D.F fun _ _ _ _ _ _ us hl => match us, hl with | [_, _], _ => rfl
def m_lot_with_bears : MS := (mRet (mC1 oTuple (mBcons (mL (mLc (mZip true false (mVar 0) (mVar 1)) (gTp 2 (gCs (gTp 2 (gCs (gN 3) (gCs (gN 4) gNl))) (gCs (gN 2) gNl))) mYes (mTup (mDcons (mVar 3) (mDcons (mVar 4) (mDcons (mVar 2) mBnil)))) [2, 3, 4])) mBnil)))
def ph_lot_with_bears : Phi := bodyPhi 5 2 m_lot_with_bears
theorem ok_lot_with_bears {f fd} (D_ : Def K mg "lot_with_bears" s_lot_with_bears [] f fd) (B : Blt mg) : FnOk P w K mg base CX0 1 f fd ["pieces", "bears"] (spG K (vT (tl TL)) (gT (tl TL)) 2 ph_lot_with_bears) := fnD (gstT (tl TL)) D_.F sc_lot_with_bears (by decide) fun cdv A outer s H S E hr => ⟨_, (s_one (x_ret (p_tuple B.tuple (b_cons (PO'.toB (o_lc [("number", 2), ("name", 3), ("weight", 4)] sc_lot_with_bears.nd (PIt.toB (i_zip true false B.zip (p_var 0) (p_var 1))) (blkOk_by (N := ["pieces", "bears", "number", "name", "weight"]) (sc := defScope s_lot_with_bears) (by decide +kernel)) (by intro _ _ _ _ _; exact (g_tp (gs_cons (g_tp (gs_cons (g_nm 3 sc_lot_with_bears.nd) (gs_cons (g_nm 4 sc_lot_with_bears.nd) gs_nil))) (gs_cons (g_nm 2 sc_lot_with_bears.nd) gs_nil)))) (by intro _ _ _ _ _; exact t_nil) (by intro _ _ _ _ _; exact (p_tup (d_cons (p_var 3) (d_cons (p_var 4) (d_cons (p_var 2) d_nil))))))) b_nil))))⟩
theorem sc_loads_of : FnScope ["pieces", "stack", "_"] ["pieces", "stack"] (defScope s_loads_of) := ⟨rfl, rfl, rfl, by decide +kernel, rfl, by decide +kernel, by decide +kernel⟩
theorem b_loads_of {f fd} (D : Def K mg "loads_of" s_loads_of [] f fd) : Binds K fd ["pieces", "stack"] [] := FunD.bindsN (ps := ["pieces", "stack"]) D.F fun _ _ _ _ _ _ us hl => match us, hl with | [_, _], _ => rfl
def m_loads_of : MS := (mRet (mDi (mDzip true false (mVar 1) (mCall (ph_loads_in) (mAda (mCall (ph_lot_with_bears) (mAda (mVar 0) (mAda (mL (mLc (mItT (mVar 0)) (gN 2) mYes (mC (.int 0)) [2])) mAnil))) (mAda (mVar 1) mAnil))))))
def ph_loads_of : Phi := bodyPhi 3 2 m_loads_of
theorem ok_loads_of {f fd} (D_ : Def K mg "loads_of" s_loads_of [] f fd) {f_loads_in fd_loads_in} (D_loads_in : Def K mg "loads_in" s_loads_in [] f_loads_in fd_loads_in) (O_loads_in : FnOk P w K mg base CX0 2 f_loads_in fd_loads_in ["lot", "stack"] (spG K (vT (tl TL)) (gT (tl TL)) 2 ph_loads_in)) {f_lot_with_bears fd_lot_with_bears} (D_lot_with_bears : Def K mg "lot_with_bears" s_lot_with_bears [] f_lot_with_bears fd_lot_with_bears) (O_lot_with_bears : FnOk P w K mg base CX0 1 f_lot_with_bears fd_lot_with_bears ["pieces", "bears"] (spG K (vT (tl TL)) (gT (tl TL)) 2 ph_lot_with_bears)) (B : Blt mg) : FnOk P w K mg base CX0 3 f fd ["pieces", "stack"] (spG K (vT (tl TL)) (gT (tl TL)) 2 ph_loads_of) := fnD (gstT (tl TL)) D_.F sc_loads_of (by decide) fun cdv A outer s H S E hr => ⟨_, (s_one (x_ret (POd.toP (o_dzip true false B.dict B.zip (p_var 1) (p_call O_loads_in Compat.refl (hr.mono (by decide)) D_loads_in.m D_loads_in.F.kp (b_loads_in D_loads_in) (n_da (p_call O_lot_with_bears Compat.refl (hr.mono (by decide)) D_lot_with_bears.m D_lot_with_bears.F.kp (b_lot_with_bears D_lot_with_bears) (n_da (p_var 0) (n_da (PO'.e (o_lc [("_", 2)] sc_loads_of.nd (PIt.toB (i_tup (p_var 0))) (blkOk_by (N := ["pieces", "stack", "_"]) (sc := defScope s_loads_of) (by decide +kernel)) (by intro _ _ _ _ _; exact (g_nm 2 sc_loads_of.nd)) (by intro _ _ _ _ _; exact t_nil) (by intro _ _ _ _ _; exact p_int))) n_nil))) (n_da (p_var 1) n_nil)))))))⟩
theorem sc_loads_borne : FnScope ["pieces", "seen", "name", "found", "stack", "broke"] ["pieces", "seen", "name"] (defScope s_loads_borne) := ⟨rfl, rfl, rfl, by decide +kernel, rfl, by decide +kernel, by decide +kernel⟩
theorem b_loads_borne {f fd} (D : Def K mg "loads_borne" s_loads_borne [] f fd) : Binds K fd ["pieces", "seen", "name"] [] := FunD.bindsN (ps := ["pieces", "seen", "name"]) D.F fun _ _ _ _ _ _ us hl => match us, hl with | [_, _, _], _ => rfl
def m_loads_borne : MS := (mSeq (mSetO 3 (mLst (mDcons (mC (.int 0)) mBnil))) (mSeq (mFor (mItT (mVar 1)) (gTp 2 (gCs (gN 4) (gCs (gN 5) gNl))) (mIf (mAnd (mTest (mBin (oInS false) (mVar 2) (mVar 4))) (mTest (mBin (oEq true) (mVar 2) (mVar 5)))) (mApp 3 (mDget (mCall (ph_loads_of) (mAda (mVar 0) (mAda (mVar 4) mAnil))) (mVar 2))) mNext) [4, 5]) (mFrz 3 (mRet (mVar 3)))))
def ph_loads_borne : Phi := bodyPhi 6 3 m_loads_borne
theorem ok_loads_borne {f fd} (D_ : Def K mg "loads_borne" s_loads_borne [] f fd) {f_loads_of fd_loads_of} (D_loads_of : Def K mg "loads_of" s_loads_of [] f_loads_of fd_loads_of) (O_loads_of : FnOk P w K mg base CX0 3 f_loads_of fd_loads_of ["pieces", "stack"] (spG K (vT (tl TL)) (gT (tl TL)) 2 ph_loads_of)) : FnOk P w K mg base CX0 4 f fd ["pieces", "seen", "name"] (spG K (vT (tl TL)) (gT (tl TL)) 3 ph_loads_borne) := fnD (gstT (tl TL)) D_.F sc_loads_borne (by decide) fun cdv A outer s H S E hr => ⟨_, (s_cons (x_setO 3 (o_lst (d_cons p_int d_nil)) sc_loads_borne.nd) (s_cons (x_for [4, 5] (i_tup (p_var 1)) (g_tp (gs_cons (g_nm 4 sc_loads_borne.nd) (gs_cons (g_nm 5 sc_loads_borne.nd) gs_nil))) (s_one (x_if (PQW.q (q_and (q_inS (PP.toB (p_var 2)) (PP.toB (p_var 4))) (q_and1 (q_ne hr.units (PP.toB (p_var 2)) (PP.toB (p_var 5)))))) (s_one (x_app 3 (p_dget hr.u1 (PP.toB (p_call O_loads_of Compat.refl (hr.mono (by decide)) D_loads_of.m D_loads_of.F.kp (b_loads_of D_loads_of) (n_da (p_var 0) (n_da (p_var 4) n_nil)))) (p_var 2)))) s_nil))) (s_one (x_frz 3 (x_ret (p_var 3))))))⟩
theorem sc_loads_broken : FnScope ["pieces", "seen", "name", "stack", "broke"] ["pieces", "seen", "name"] (defScope s_loads_broken) := ⟨rfl, rfl, rfl, by decide +kernel, rfl, by decide +kernel, by decide +kernel⟩
theorem b_loads_broken {f fd} (D : Def K mg "loads_broken" s_loads_broken [] f fd) : Binds K fd ["pieces", "seen", "name"] [] := FunD.bindsN (ps := ["pieces", "seen", "name"]) D.F fun _ _ _ _ _ _ us hl => match us, hl with | [_, _, _], _ => rfl
def m_loads_broken : MS := (mRet (mL (mCatL (mL (mLst (mDcons (mBin o_add (mC (.int 999)) (mC (.int 1))) mBnil))) (mL (mLc (mItT (mVar 1)) (gTp 2 (gCs (gN 3) (gCs (gN 4) gNl))) (mTest (mBin (oEq false) (mVar 2) (mVar 4))) (mDget (mCall (ph_loads_of) (mAda (mVar 0) (mAda (mVar 3) mAnil))) (mVar 2)) [3, 4])))))
def ph_loads_broken : Phi := bodyPhi 5 3 m_loads_broken
theorem ok_loads_broken {f fd} (D_ : Def K mg "loads_broken" s_loads_broken [] f fd) {f_loads_of fd_loads_of} (D_loads_of : Def K mg "loads_of" s_loads_of [] f_loads_of fd_loads_of) (O_loads_of : FnOk P w K mg base CX0 3 f_loads_of fd_loads_of ["pieces", "stack"] (spG K (vT (tl TL)) (gT (tl TL)) 2 ph_loads_of)) (V_MOST_BEARS : GVal K mg "MOST_BEARS" (.int 999)) : FnOk P w K mg base CX0 4 f fd ["pieces", "seen", "name"] (spG K (vT (tl TL)) (gT (tl TL)) 3 ph_loads_broken) := fnD (gstT (tl TL)) D_.F sc_loads_broken (by decide) fun cdv A outer s H S E hr => ⟨_, (s_one (x_ret (PO'.e (o_catL (PO'.toB (o_lst (d_cons (p_add (PP.toB (p_gv V_MOST_BEARS)) (PP.toB p_int)) d_nil))) (PO'.toB (o_lc [("stack", 3), ("broke", 4)] sc_loads_broken.nd (PIt.toB (i_tup (p_var 1))) (blkOk_by (N := ["pieces", "seen", "name", "stack", "broke"]) (sc := defScope s_loads_broken) (by decide +kernel)) (by intro _ _ _ _ _; exact (g_tp (gs_cons (g_nm 3 sc_loads_broken.nd) (gs_cons (g_nm 4 sc_loads_broken.nd) gs_nil)))) (by intro _ _ _ _ _; exact (t_one (q_eq hr.units (PP.toB (p_var 2)) (PP.toB (p_var 4))))) (by intro _ _ _ _ _; exact (p_dget hr.u1 (PP.toB (p_call O_loads_of Compat.refl (hr.mono (by decide)) D_loads_of.m D_loads_of.F.kp (b_loads_of D_loads_of) (n_da (p_var 0) (n_da (p_var 3) n_nil)))) (p_var 2)))))))))⟩
theorem sc_leasts_of : FnScope ["pieces", "seen", "name", "_"] ["pieces", "seen"] (defScope s_leasts_of) := ⟨rfl, rfl, rfl, by decide +kernel, rfl, by decide +kernel, by decide +kernel⟩
theorem b_leasts_of {f fd} (D : Def K mg "leasts_of" s_leasts_of [] f fd) : Binds K fd ["pieces", "seen"] [] := FunD.bindsN (ps := ["pieces", "seen"]) D.F fun _ _ _ _ _ _ us hl => match us, hl with | [_, _], _ => rfl
def m_leasts_of : MS := (mRet (mC1 oTuple (mBcons (mL (mLc (mItT (mVar 0)) (gTp 2 (gCs (gN 2) (gCs (gN 3) gNl))) mYes (mC1 oMaxL (mBcons (mCall (ph_loads_borne) (mAda (mVar 0) (mAda (mVar 1) (mAda (mVar 2) mAnil)))) mBnil)) [2, 3])) mBnil)))
def ph_leasts_of : Phi := bodyPhi 4 2 m_leasts_of
theorem ok_leasts_of {f fd} (D_ : Def K mg "leasts_of" s_leasts_of [] f fd) {f_loads_borne fd_loads_borne} (D_loads_borne : Def K mg "loads_borne" s_loads_borne [] f_loads_borne fd_loads_borne) (O_loads_borne : FnOk P w K mg base CX0 4 f_loads_borne fd_loads_borne ["pieces", "seen", "name"] (spG K (vT (tl TL)) (gT (tl TL)) 3 ph_loads_borne)) (B : Blt mg) : FnOk P w K mg base CX0 5 f fd ["pieces", "seen"] (spG K (vT (tl TL)) (gT (tl TL)) 2 ph_leasts_of) := fnD (gstT (tl TL)) D_.F sc_leasts_of (by decide) fun cdv A outer s H S E hr => ⟨_, (s_one (x_ret (p_tuple B.tuple (b_cons (PO'.toB (o_lc [("name", 2), ("_", 3)] sc_leasts_of.nd (PIt.toB (i_tup (p_var 0))) (blkOk_by (N := ["pieces", "seen", "name", "_"]) (sc := defScope s_leasts_of) (by decide +kernel)) (by intro _ _ _ _ _; exact (g_tp (gs_cons (g_nm 2 sc_leasts_of.nd) (gs_cons (g_nm 3 sc_leasts_of.nd) gs_nil)))) (by intro _ _ _ _ _; exact t_nil) (by intro _ _ _ _ _; exact (p_maxL B.max (b_cons (PP.toB (p_call O_loads_borne Compat.refl (hr.mono (by decide)) D_loads_borne.m D_loads_borne.F.kp (b_loads_borne D_loads_borne) (n_da (p_var 0) (n_da (p_var 1) (n_da (p_var 2) n_nil))))) b_nil))))) b_nil))))⟩
theorem sc_greatests_of : FnScope ["pieces", "seen", "name", "_"] ["pieces", "seen"] (defScope s_greatests_of) := ⟨rfl, rfl, rfl, by decide +kernel, rfl, by decide +kernel, by decide +kernel⟩
theorem b_greatests_of {f fd} (D : Def K mg "greatests_of" s_greatests_of [] f fd) : Binds K fd ["pieces", "seen"] [] := FunD.bindsN (ps := ["pieces", "seen"]) D.F fun _ _ _ _ _ _ us hl => match us, hl with | [_, _], _ => rfl
def m_greatests_of : MS := (mRet (mC1 oTuple (mBcons (mL (mLc (mItT (mVar 0)) (gTp 2 (gCs (gN 2) (gCs (gN 3) gNl))) mYes (mBin o_sub (mC1 oMinL (mBcons (mCall (ph_loads_broken) (mAda (mVar 0) (mAda (mVar 1) (mAda (mVar 2) mAnil)))) mBnil)) (mC (.int 1))) [2, 3])) mBnil)))
def ph_greatests_of : Phi := bodyPhi 4 2 m_greatests_of
theorem ok_greatests_of {f fd} (D_ : Def K mg "greatests_of" s_greatests_of [] f fd) {f_loads_broken fd_loads_broken} (D_loads_broken : Def K mg "loads_broken" s_loads_broken [] f_loads_broken fd_loads_broken) (O_loads_broken : FnOk P w K mg base CX0 4 f_loads_broken fd_loads_broken ["pieces", "seen", "name"] (spG K (vT (tl TL)) (gT (tl TL)) 3 ph_loads_broken)) (B : Blt mg) : FnOk P w K mg base CX0 5 f fd ["pieces", "seen"] (spG K (vT (tl TL)) (gT (tl TL)) 2 ph_greatests_of) := fnD (gstT (tl TL)) D_.F sc_greatests_of (by decide) fun cdv A outer s H S E hr => ⟨_, (s_one (x_ret (p_tuple B.tuple (b_cons (PO'.toB (o_lc [("name", 2), ("_", 3)] sc_greatests_of.nd (PIt.toB (i_tup (p_var 0))) (blkOk_by (N := ["pieces", "seen", "name", "_"]) (sc := defScope s_greatests_of) (by decide +kernel)) (by intro _ _ _ _ _; exact (g_tp (gs_cons (g_nm 2 sc_greatests_of.nd) (gs_cons (g_nm 3 sc_greatests_of.nd) gs_nil)))) (by intro _ _ _ _ _; exact t_nil) (by intro _ _ _ _ _; exact (p_sub (PP.toB (p_minL B.min (b_cons (PP.toB (p_call O_loads_broken Compat.refl (hr.mono (by decide)) D_loads_broken.m D_loads_broken.F.kp (b_loads_broken D_loads_broken) (n_da (p_var 0) (n_da (p_var 1) (n_da (p_var 2) n_nil))))) b_nil))) (PP.toB p_int))))) b_nil))))⟩
theorem sc_barred_pieces : FnScope ["pieces", "seen", "pairs", "name", "_", "least", "greatest"] ["pieces", "seen"] (defScope s_barred_pieces) := ⟨rfl, rfl, rfl, by decide +kernel, rfl, by decide +kernel, by decide +kernel⟩
theorem b_barred_pieces {f fd} (D : Def K mg "barred_pieces" s_barred_pieces [] f fd) : Binds K fd ["pieces", "seen"] [] := FunD.bindsN (ps := ["pieces", "seen"]) D.F fun _ _ _ _ _ _ us hl => match us, hl with | [_, _], _ => rfl
def m_barred_pieces : MS := (mSeq (mAsg (mL (mZip true true (mCall (ph_leasts_of) (mAda (mVar 0) (mAda (mVar 1) mAnil))) (mCall (ph_greatests_of) (mAda (mVar 0) (mAda (mVar 1) mAnil))))) (gN 2)) (mRet (mL (mLc (mZip true false (mVar 0) (mVar 2)) (gTp 2 (gCs (gTp 2 (gCs (gN 3) (gCs (gN 4) gNl))) (gCs (gTp 2 (gCs (gN 5) (gCs (gN 6) gNl))) gNl))) (mTest (mBin o_gt (mVar 5) (mVar 6))) (mVar 3) [3, 4, 5, 6]))))
def ph_barred_pieces : Phi := bodyPhi 7 2 m_barred_pieces
theorem ok_barred_pieces {f fd} (D_ : Def K mg "barred_pieces" s_barred_pieces [] f fd) {f_leasts_of fd_leasts_of} (D_leasts_of : Def K mg "leasts_of" s_leasts_of [] f_leasts_of fd_leasts_of) (O_leasts_of : FnOk P w K mg base CX0 5 f_leasts_of fd_leasts_of ["pieces", "seen"] (spG K (vT (tl TL)) (gT (tl TL)) 2 ph_leasts_of)) {f_greatests_of fd_greatests_of} (D_greatests_of : Def K mg "greatests_of" s_greatests_of [] f_greatests_of fd_greatests_of) (O_greatests_of : FnOk P w K mg base CX0 5 f_greatests_of fd_greatests_of ["pieces", "seen"] (spG K (vT (tl TL)) (gT (tl TL)) 2 ph_greatests_of)) (B : Blt mg) : FnOk P w K mg base CX0 6 f fd ["pieces", "seen"] (spG K (vT (tl TL)) (gT (tl TL)) 2 ph_barred_pieces) := fnD (gstT (tl TL)) D_.F sc_barred_pieces (by decide) fun cdv A outer s H S E hr => ⟨_, (s_cons (x_set 2 (PO'.e (o_lzip true true B.list B.zip (p_call O_leasts_of Compat.refl (hr.mono (by decide)) D_leasts_of.m D_leasts_of.F.kp (b_leasts_of D_leasts_of) (n_da (p_var 0) (n_da (p_var 1) n_nil))) (p_call O_greatests_of Compat.refl (hr.mono (by decide)) D_greatests_of.m D_greatests_of.F.kp (b_greatests_of D_greatests_of) (n_da (p_var 0) (n_da (p_var 1) n_nil))))) sc_barred_pieces.nd) (s_one (x_ret (PO'.e (o_lc [("name", 3), ("_", 4), ("least", 5), ("greatest", 6)] sc_barred_pieces.nd (PIt.toB (i_zip true false B.zip (p_var 0) (p_var 2))) (blkOk_by (N := ["pieces", "seen", "pairs", "name", "_", "least", "greatest"]) (sc := defScope s_barred_pieces) (by decide +kernel)) (by intro _ _ _ _ _; exact (g_tp (gs_cons (g_tp (gs_cons (g_nm 3 sc_barred_pieces.nd) (gs_cons (g_nm 4 sc_barred_pieces.nd) gs_nil))) (gs_cons (g_tp (gs_cons (g_nm 5 sc_barred_pieces.nd) (gs_cons (g_nm 6 sc_barred_pieces.nd) gs_nil))) gs_nil)))) (by intro _ _ _ _ _; exact (t_one (q_gt (PP.toB (p_var 5)) (PP.toB (p_var 6))))) (by intro _ _ _ _ _; exact (p_var 3)))))))⟩
theorem sc_are_fitting : FnScope ["pieces", "seen", "bears", "bounds", "number", "least", "greatest"] ["pieces", "seen", "bears"] (defScope s_are_fitting) := ⟨rfl, rfl, rfl, by decide +kernel, rfl, by decide +kernel, by decide +kernel⟩
theorem b_are_fitting {f fd} (D : Def K mg "are_fitting" s_are_fitting [] f fd) : Binds K fd ["pieces", "seen", "bears"] [] := FunD.bindsN (ps := ["pieces", "seen", "bears"]) D.F fun _ _ _ _ _ _ us hl => match us, hl with | [_, _, _], _ => rfl
def m_are_fitting : MS := (mSeq (mAsg (mL (mZip true true (mCall (ph_leasts_of) (mAda (mVar 0) (mAda (mVar 1) mAnil))) (mCall (ph_greatests_of) (mAda (mVar 0) (mAda (mVar 1) mAnil))))) (gN 3)) (mRet (mC1 oAll (mBcons (mL (mLc (mZip true false (mVar 2) (mVar 3)) (gTp 2 (gCs (gN 4) (gCs (gTp 2 (gCs (gN 5) (gCs (gN 6) gNl))) gNl))) mYes (mLeLe (mVar 5) (mVar 4) (mVar 6)) [4, 5, 6])) mBnil))))
def ph_are_fitting : Phi := bodyPhi 7 3 m_are_fitting
theorem ok_are_fitting {f fd} (D_ : Def K mg "are_fitting" s_are_fitting [] f fd) {f_leasts_of fd_leasts_of} (D_leasts_of : Def K mg "leasts_of" s_leasts_of [] f_leasts_of fd_leasts_of) (O_leasts_of : FnOk P w K mg base CX0 5 f_leasts_of fd_leasts_of ["pieces", "seen"] (spG K (vT (tl TL)) (gT (tl TL)) 2 ph_leasts_of)) {f_greatests_of fd_greatests_of} (D_greatests_of : Def K mg "greatests_of" s_greatests_of [] f_greatests_of fd_greatests_of) (O_greatests_of : FnOk P w K mg base CX0 5 f_greatests_of fd_greatests_of ["pieces", "seen"] (spG K (vT (tl TL)) (gT (tl TL)) 2 ph_greatests_of)) (B : Blt mg) : FnOk P w K mg base CX0 6 f fd ["pieces", "seen", "bears"] (spG K (vT (tl TL)) (gT (tl TL)) 3 ph_are_fitting) := fnD (gstT (tl TL)) D_.F sc_are_fitting (by decide) fun cdv A outer s H S E hr => ⟨_, (s_cons (x_set 3 (PO'.e (o_lzip true true B.list B.zip (p_call O_leasts_of Compat.refl (hr.mono (by decide)) D_leasts_of.m D_leasts_of.F.kp (b_leasts_of D_leasts_of) (n_da (p_var 0) (n_da (p_var 1) n_nil))) (p_call O_greatests_of Compat.refl (hr.mono (by decide)) D_greatests_of.m D_greatests_of.F.kp (b_greatests_of D_greatests_of) (n_da (p_var 0) (n_da (p_var 1) n_nil))))) sc_are_fitting.nd) (s_one (x_ret (p_all B.all (b_cons (PO'.toB (o_lc [("number", 4), ("least", 5), ("greatest", 6)] sc_are_fitting.nd (PIt.toB (i_zip true false B.zip (p_var 2) (p_var 3))) (blkOk_by (N := ["pieces", "seen", "bears", "bounds", "number", "least", "greatest"]) (sc := defScope s_are_fitting) (by decide +kernel)) (by intro _ _ _ _ _; exact (g_tp (gs_cons (g_nm 4 sc_are_fitting.nd) (gs_cons (g_tp (gs_cons (g_nm 5 sc_are_fitting.nd) (gs_cons (g_nm 6 sc_are_fitting.nd) gs_nil))) gs_nil)))) (by intro _ _ _ _ _; exact t_nil) (by intro _ _ _ _ _; exact (p_leLe (PP.toB (p_var 5)) (PP.toB (p_var 4)) (PP.toB (p_var 6)))))) b_nil)))))⟩
theorem sc_check_seen : FnScope ["pieces", "seen", "at"] ["pieces", "seen"] (defScope s_check_seen) := ⟨rfl, rfl, rfl, by decide +kernel, rfl, by decide +kernel, by decide +kernel⟩
theorem b_check_seen {f fd} (D : Def K mg "check_seen" s_check_seen [] f fd) : Binds K fd ["pieces", "seen"] [] := FunD.bindsN (ps := ["pieces", "seen"]) D.F fun _ _ _ _ _ _ us hl => match us, hl with | [_, _], _ => rfl
def m_check_seen : MS := (mSeq (mFor (mItL (mCall (ph_wrong_pieces) (mAda (mVar 0) mAnil))) (gN 2) (fun _ _ => False) []) (mFor (mItL (mCall (ph_wrong_seen) (mAda (mVar 0) (mAda (mVar 1) mAnil)))) (gN 2) (fun _ _ => False) [2]))
def ph_check_seen : Phi := bodyPhi 3 2 m_check_seen
theorem ok_check_seen {f fd} (D_ : Def K mg "check_seen" s_check_seen [] f fd) {f_wrong_pieces fd_wrong_pieces} (D_wrong_pieces : Def K mg "wrong_pieces" s_wrong_pieces [] f_wrong_pieces fd_wrong_pieces) (O_wrong_pieces : FnOk P w K mg base CX0 7 f_wrong_pieces fd_wrong_pieces ["value"] (spG K (vT (tl TL)) (gT (tl TL)) 1 ph_wrong_pieces)) {f_wrong_seen fd_wrong_seen} (D_wrong_seen : Def K mg "wrong_seen" s_wrong_seen [] f_wrong_seen fd_wrong_seen) (O_wrong_seen : FnOk P w K mg base CX0 14 f_wrong_seen fd_wrong_seen ["pieces", "value"] (spG K (vT (tl TL)) (gT (tl TL)) 2 ph_wrong_seen)) : FnOk P w K mg base CX0 15 f fd ["pieces", "seen"] (spG K (vT (tl TL)) (gT (tl TL)) 2 ph_check_seen) := fnD (gstT (tl TL)) D_.F sc_check_seen (by decide) fun cdv A outer s H S E hr => ⟨_, (s_cons (x_for [] (i_list (p_call O_wrong_pieces Compat.refl (hr.mono (by decide)) D_wrong_pieces.m D_wrong_pieces.F.kp (b_wrong_pieces D_wrong_pieces) (n_da (p_var 0) n_nil))) (g_nm 2 sc_check_seen.nd) (s_one x_never)) (s_one (x_for [2] (i_list (p_call O_wrong_seen Compat.refl (hr.mono (by decide)) D_wrong_seen.m D_wrong_seen.F.kp (b_wrong_seen D_wrong_seen) (n_da (p_var 0) (n_da (p_var 1) n_nil)))) (g_nm 2 sc_check_seen.nd) (s_one x_never))))⟩
theorem sc_check_fit : FnScope ["pieces", "seen"] ["pieces", "seen"] (defScope s_check_fit) := ⟨rfl, rfl, rfl, by decide +kernel, rfl, by decide +kernel, by decide +kernel⟩
theorem b_check_fit {f fd} (D : Def K mg "check_fit" s_check_fit [] f fd) : Binds K fd ["pieces", "seen"] [] := FunD.bindsN (ps := ["pieces", "seen"]) D.F fun _ _ _ _ _ _ us hl => match us, hl with | [_, _], _ => rfl
def m_check_fit (PX : Ex → Prop) : MS := (mIf (mTest (mBin (oEq true) (mCall (ph_barred_pieces) (mAda (mVar 0) (mAda (mVar 1) mAnil))) (mL (mLst mBnil)))) (mRaise0 PX "NoFit") mNext)
def ph_check_fit : Phi := bodyPhiX 2 2 m_check_fit
theorem ok_check_fit {f fd} (D_ : Def K mg "check_fit" s_check_fit [] f fd) {f_barred_pieces fd_barred_pieces} (D_barred_pieces : Def K mg "barred_pieces" s_barred_pieces [] f_barred_pieces fd_barred_pieces) (O_barred_pieces : FnOk P w K mg base CX0 6 f_barred_pieces fd_barred_pieces ["pieces", "seen"] (spG K (vT (tl TL)) (gT (tl TL)) 2 ph_barred_pieces)) (W_NoFit : XN K mg "NoFit") : FnOk P w K mg base (L2.CX P w) 7 f fd ["pieces", "seen"] (spG K (vT (tl TL)) (gT (tl TL)) 2 ph_check_fit) := fnDX (gstT (tl TL)) D_.F sc_check_fit (by decide) fun cdv A outer s H S E PX hE hr => ⟨_, (s_one (x_if (q_ne hr.units (PP.toB (p_call O_barred_pieces Compat.refl (hr.mono (by decide)) D_barred_pieces.m D_barred_pieces.F.kp (b_barred_pieces D_barred_pieces) (n_da (p_var 0) (n_da (p_var 1) n_nil)))) (PO'.toB (o_lst d_nil))) (s_one (x_raise0 W_NoFit (takes_of rfl rfl rfl rfl))) s_nil))⟩
theorem sc_fits : FnScope ["pieces", "seen"] ["pieces", "seen"] (defScope s_fits) := ⟨rfl, rfl, rfl, by decide +kernel, rfl, by decide +kernel, by decide +kernel⟩
theorem b_fits {f fd} (D : Def K mg "fits" s_fits [] f fd) : Binds K fd ["pieces", "seen"] [] := FunD.bindsN (ps := ["pieces", "seen"]) D.F fun _ _ _ _ _ _ us hl => match us, hl with | [_, _], _ => rfl
def m_fits : MS := (mSeq (mDo (mCall (ph_check_seen) (mAda (mVar 0) (mAda (mVar 1) mAnil)))) (mRet (mBin (oEq false) (mCall (ph_barred_pieces) (mAda (mVar 0) (mAda (mVar 1) mAnil))) (mL (mLst mBnil)))))
def ph_fits : Phi := bodyPhi 2 2 m_fits
theorem ok_fits {f fd} (D_ : Def K mg "fits" s_fits [] f fd) {f_check_seen fd_check_seen} (D_check_seen : Def K mg "check_seen" s_check_seen [] f_check_seen fd_check_seen) (O_check_seen : FnOk P w K mg base CX0 15 f_check_seen fd_check_seen ["pieces", "seen"] (spG K (vT (tl TL)) (gT (tl TL)) 2 ph_check_seen)) {f_barred_pieces fd_barred_pieces} (D_barred_pieces : Def K mg "barred_pieces" s_barred_pieces [] f_barred_pieces fd_barred_pieces) (O_barred_pieces : FnOk P w K mg base CX0 6 f_barred_pieces fd_barred_pieces ["pieces", "seen"] (spG K (vT (tl TL)) (gT (tl TL)) 2 ph_barred_pieces)) : FnOk P w K mg base CX0 16 f fd ["pieces", "seen"] (spG K (vT (tl TL)) (gT (tl TL)) 2 ph_fits) := fnD (gstT (tl TL)) D_.F sc_fits (by decide) fun cdv A outer s H S E hr => ⟨_, (s_cons (x_do (p_call O_check_seen Compat.refl (hr.mono (by decide)) D_check_seen.m D_check_seen.F.kp (b_check_seen D_check_seen) (n_da (p_var 0) (n_da (p_var 1) n_nil)))) (s_one (x_ret (p_eq hr.units (PP.toB (p_call O_barred_pieces Compat.refl (hr.mono (by decide)) D_barred_pieces.m D_barred_pieces.F.kp (b_barred_pieces D_barred_pieces) (n_da (p_var 0) (n_da (p_var 1) n_nil)))) (PO'.toB (o_lst d_nil))))))⟩
theorem sc_do_fit : FnScope ["pieces", "seen", "bears", "at"] ["pieces", "seen", "bears"] (defScope s_do_fit) := ⟨rfl, rfl, rfl, by decide +kernel, rfl, by decide +kernel, by decide +kernel⟩
theorem b_do_fit {f fd} (D : Def K mg "do_fit" s_do_fit [] f fd) : Binds K fd ["pieces", "seen", "bears"] [] := FunD.bindsN (ps := ["pieces", "seen", "bears"]) D.F fun _ _ _ _ _ _ us hl => match us, hl with | [_, _, _], _ => rfl
def ml_do_fit_lam : ME := (mCall (ph_is_number) (mAda (mVar 0) (mAda (mC (.int 0)) (mAda (mC (.int 999)) mAnil))))
def pl_do_fit_lam : List D → Phi := fun ds => lamPhi 2 2 ds ml_do_fit_lam
def ml_do_fit_lam1 : ME := (mCall (ph_is_number) (mAda (mVar 0) (mAda (mC (.int 0)) (mAda (mC (.int 999)) mAnil))))
def pl_do_fit_lam1 : List D → Phi := fun ds => lamPhi 2 2 ds ml_do_fit_lam1
def m_do_fit : MS := (mSeq (mDo (mCall (ph_check_seen) (mAda (mVar 0) (mAda (mVar 1) mAnil)))) (mSeq (mFor (mItL (mCallL [] pl_do_fit_lam1 ps_wrong_for_all (mAda (mVar 2) (mAda (mC1 oLen (mBcons (mVar 0) mBnil)) mAnil)))) (gN 3) (fun _ _ => False) [3]) (mRet (mCall (ph_are_fitting) (mAda (mVar 0) (mAda (mVar 1) (mAda (mVar 2) mAnil)))))))
def ph_do_fit : Phi := bodyPhi 4 3 m_do_fit
theorem ok_do_fit {f fd} (D_ : Def K mg "do_fit" s_do_fit [] f fd) {f_check_seen fd_check_seen} (D_check_seen : Def K mg "check_seen" s_check_seen [] f_check_seen fd_check_seen) (O_check_seen : FnOk P w K mg base CX0 15 f_check_seen fd_check_seen ["pieces", "seen"] (spG K (vT (tl TL)) (gT (tl TL)) 2 ph_check_seen)) {f_wrong_for_all fd_wrong_for_all} (D_wrong_for_all : Def K mg "wrong_for_all" s_wrong_for_all [] f_wrong_for_all fd_wrong_for_all) (O_wrong_for_all : FnC P w K mg base 6 f_wrong_for_all fd_wrong_for_all ["values", "many", "is_right"] (spC P w K mg base (vT (tl TL)) (gT (tl TL)) 4 2 3 ps_wrong_for_all)) {f_is_number fd_is_number} (D_is_number : Def K mg "is_number" s_is_number [] f_is_number fd_is_number) (O_is_number : FnOk P w K mg base CX0 2 f_is_number fd_is_number ["value", "low", "high"] (spG K (vT (tl TL)) (gT (tl TL)) 3 ph_is_number)) {f_are_fitting fd_are_fitting} (D_are_fitting : Def K mg "are_fitting" s_are_fitting [] f_are_fitting fd_are_fitting) (O_are_fitting : FnOk P w K mg base CX0 6 f_are_fitting fd_are_fitting ["pieces", "seen", "bears"] (spG K (vT (tl TL)) (gT (tl TL)) 3 ph_are_fitting)) (V_MOST_BEARS : GVal K mg "MOST_BEARS" (.int 999)) (M_ : Mk base mg (tl TL) fd "do_fit.<locals>.<lambda>") (B : Blt mg) : FnOk P w K mg base CX0 16 f fd ["pieces", "seen", "bears"] (spG K (vT (tl TL)) (gT (tl TL)) 3 ph_do_fit) := fnDc (gstT (tl TL)) D_.F sc_do_fit (by decide) fun cdv A outer s H S E hcd hr => ⟨_, (s_cons (x_do (p_call O_check_seen Compat.refl (hr.mono (by decide)) D_check_seen.m D_check_seen.F.kp (b_check_seen D_check_seen) (n_da (p_var 0) (n_da (p_var 1) n_nil)))) (s_cons (x_for [3] (i_list (p_callL2 (js := []) (fr := []) (qs := ["each", "before"]) (kc := 4) (nc := 2) (Φc := pl_do_fit_lam1) (Ψ := ps_wrong_for_all) rfl rfl M_ hcd.symm rfl O_wrong_for_all (hr.mono (by decide)) D_wrong_for_all.m D_wrong_for_all.F.kp (b_wrong_for_all D_wrong_for_all) (p_var 2) (p_len B.len (b_cons (PP.toB (p_var 0)) b_nil)) rfl (NdefX.ndef_free (sc := defScope s_do_fit) (fr := []) (by decide +kernel)) (fun ok => NdefX.Caps.made ok (NdefX.ndef_free (sc := defScope s_do_fit) (fr := []) (by decide +kernel)) (NdefX.ndef_fr (sc := defScope s_do_fit) (fr := []) (by decide +kernel)) rfl) rfl (fun f2 c2 S2 ws ds hd hl => (lok_pure (k := 3) (N := ["each", "before"]) (ps := ["each", "before"]) (gstT (tl TL)) (NdefX.nscope_by (by first | kernel_rfl | rfl)) (fun _ _ us hl => match us, hl with | [_, _], _ => rfl) hd hl (by decide) fun A outer s H S hr => ⟨_, (p_call O_is_number Compat.refl (hr.mono (by decide)) D_is_number.m D_is_number.F.kp (b_is_number D_is_number) (n_da (p_var 0) (n_da p_int (n_da (p_gv V_MOST_BEARS) n_nil))))⟩)) (fun _ => rfl))) (g_nm 3 sc_do_fit.nd) (s_one x_never)) (s_one (x_ret (p_call O_are_fitting Compat.refl (hr.mono (by decide)) D_are_fitting.m D_are_fitting.F.kp (b_are_fitting D_are_fitting) (n_da (p_var 0) (n_da (p_var 1) (n_da (p_var 2) n_nil))))))))⟩
theorem sc_least_bears : FnScope ["pieces", "seen"] ["pieces", "seen"] (defScope s_least_bears) := ⟨rfl, rfl, rfl, by decide +kernel, rfl, by decide +kernel, by decide +kernel⟩
theorem b_least_bears {f fd} (D : Def K mg "least_bears" s_least_bears [] f fd) : Binds K fd ["pieces", "seen"] [] := FunD.bindsN (ps := ["pieces", "seen"]) D.F fun _ _ _ _ _ _ us hl => match us, hl with | [_, _], _ => rfl
def m_least_bears (PX : Ex → Prop) : MS := (mSeq (mDo (mCall (ph_check_seen) (mAda (mVar 0) (mAda (mVar 1) mAnil)))) (mSeq (mDo (mCallX PX ph_check_fit (mAda (mVar 0) (mAda (mVar 1) mAnil)))) (mRet (mCall (ph_leasts_of) (mAda (mVar 0) (mAda (mVar 1) mAnil))))))
def ph_least_bears : Phi := bodyPhiX 2 2 m_least_bears
theorem ok_least_bears {f fd} (D_ : Def K mg "least_bears" s_least_bears [] f fd) {f_check_seen fd_check_seen} (D_check_seen : Def K mg "check_seen" s_check_seen [] f_check_seen fd_check_seen) (O_check_seen : FnOk P w K mg base CX0 15 f_check_seen fd_check_seen ["pieces", "seen"] (spG K (vT (tl TL)) (gT (tl TL)) 2 ph_check_seen)) {f_check_fit fd_check_fit} (D_check_fit : Def K mg "check_fit" s_check_fit [] f_check_fit fd_check_fit) (O_check_fit : FnOk P w K mg base (L2.CX P w) 7 f_check_fit fd_check_fit ["pieces", "seen"] (spG K (vT (tl TL)) (gT (tl TL)) 2 ph_check_fit)) {f_leasts_of fd_leasts_of} (D_leasts_of : Def K mg "leasts_of" s_leasts_of [] f_leasts_of fd_leasts_of) (O_leasts_of : FnOk P w K mg base CX0 5 f_leasts_of fd_leasts_of ["pieces", "seen"] (spG K (vT (tl TL)) (gT (tl TL)) 2 ph_leasts_of)) : FnOk P w K mg base (L2.CX P w) 16 f fd ["pieces", "seen"] (spG K (vT (tl TL)) (gT (tl TL)) 2 ph_least_bears) := fnDX (gstT (tl TL)) D_.F sc_least_bears (by decide) fun cdv A outer s H S E PX hE hr => ⟨_, (s_cons (x_do (p_call O_check_seen Compat.refl (hr.mono (by decide)) D_check_seen.m D_check_seen.F.kp (b_check_seen D_check_seen) (n_da (p_var 0) (n_da (p_var 1) n_nil)))) (s_cons (x_do (p_callX O_check_fit Compat.refl (hr.mono (by decide)) D_check_fit.m D_check_fit.F.kp (b_check_fit D_check_fit) (n_da (p_var 0) (n_da (p_var 1) n_nil)) (takes_of rfl rfl rfl rfl))) (s_one (x_ret (p_call O_leasts_of Compat.refl (hr.mono (by decide)) D_leasts_of.m D_leasts_of.F.kp (b_leasts_of D_leasts_of) (n_da (p_var 0) (n_da (p_var 1) n_nil)))))))⟩
theorem sc_greatest_bears : FnScope ["pieces", "seen"] ["pieces", "seen"] (defScope s_greatest_bears) := ⟨rfl, rfl, rfl, by decide +kernel, rfl, by decide +kernel, by decide +kernel⟩
theorem b_greatest_bears {f fd} (D : Def K mg "greatest_bears" s_greatest_bears [] f fd) : Binds K fd ["pieces", "seen"] [] := FunD.bindsN (ps := ["pieces", "seen"]) D.F fun _ _ _ _ _ _ us hl => match us, hl with | [_, _], _ => rfl
def m_greatest_bears (PX : Ex → Prop) : MS := (mSeq (mDo (mCall (ph_check_seen) (mAda (mVar 0) (mAda (mVar 1) mAnil)))) (mSeq (mDo (mCallX PX ph_check_fit (mAda (mVar 0) (mAda (mVar 1) mAnil)))) (mRet (mCall (ph_greatests_of) (mAda (mVar 0) (mAda (mVar 1) mAnil))))))
def ph_greatest_bears : Phi := bodyPhiX 2 2 m_greatest_bears
theorem ok_greatest_bears {f fd} (D_ : Def K mg "greatest_bears" s_greatest_bears [] f fd) {f_check_seen fd_check_seen} (D_check_seen : Def K mg "check_seen" s_check_seen [] f_check_seen fd_check_seen) (O_check_seen : FnOk P w K mg base CX0 15 f_check_seen fd_check_seen ["pieces", "seen"] (spG K (vT (tl TL)) (gT (tl TL)) 2 ph_check_seen)) {f_check_fit fd_check_fit} (D_check_fit : Def K mg "check_fit" s_check_fit [] f_check_fit fd_check_fit) (O_check_fit : FnOk P w K mg base (L2.CX P w) 7 f_check_fit fd_check_fit ["pieces", "seen"] (spG K (vT (tl TL)) (gT (tl TL)) 2 ph_check_fit)) {f_greatests_of fd_greatests_of} (D_greatests_of : Def K mg "greatests_of" s_greatests_of [] f_greatests_of fd_greatests_of) (O_greatests_of : FnOk P w K mg base CX0 5 f_greatests_of fd_greatests_of ["pieces", "seen"] (spG K (vT (tl TL)) (gT (tl TL)) 2 ph_greatests_of)) : FnOk P w K mg base (L2.CX P w) 16 f fd ["pieces", "seen"] (spG K (vT (tl TL)) (gT (tl TL)) 2 ph_greatest_bears) := fnDX (gstT (tl TL)) D_.F sc_greatest_bears (by decide) fun cdv A outer s H S E PX hE hr => ⟨_, (s_cons (x_do (p_call O_check_seen Compat.refl (hr.mono (by decide)) D_check_seen.m D_check_seen.F.kp (b_check_seen D_check_seen) (n_da (p_var 0) (n_da (p_var 1) n_nil)))) (s_cons (x_do (p_callX O_check_fit Compat.refl (hr.mono (by decide)) D_check_fit.m D_check_fit.F.kp (b_check_fit D_check_fit) (n_da (p_var 0) (n_da (p_var 1) n_nil)) (takes_of rfl rfl rfl rfl))) (s_one (x_ret (p_call O_greatests_of Compat.refl (hr.mono (by decide)) D_greatests_of.m D_greatests_of.F.kp (b_greatests_of D_greatests_of) (n_da (p_var 0) (n_da (p_var 1) n_nil)))))))⟩
theorem sc_barring_piece : FnScope ["pieces", "seen", "found"] ["pieces", "seen"] (defScope s_barring_piece) := ⟨rfl, rfl, rfl, by decide +kernel, rfl, by decide +kernel, by decide +kernel⟩
theorem b_barring_piece {f fd} (D : Def K mg "barring_piece" s_barring_piece [] f fd) : Binds K fd ["pieces", "seen"] [] := FunD.bindsN (ps := ["pieces", "seen"]) D.F fun _ _ _ _ _ _ us hl => match us, hl with | [_, _], _ => rfl
def m_barring_piece : MS := (mSeq (mDo (mCall (ph_check_seen) (mAda (mVar 0) (mAda (mVar 1) mAnil)))) (mSeq (mAsg (mCall (ph_barred_pieces) (mAda (mVar 0) (mAda (mVar 1) mAnil))) (gN 2)) (mRet (mIfE (mTest (mBin (oEq true) (mVar 2) (mL (mLst mBnil)))) (mBin oIx (mVar 2) (mC (.int 0))) (mC .none)))))
def ph_barring_piece : Phi := bodyPhi 3 2 m_barring_piece
theorem ok_barring_piece {f fd} (D_ : Def K mg "barring_piece" s_barring_piece [] f fd) {f_check_seen fd_check_seen} (D_check_seen : Def K mg "check_seen" s_check_seen [] f_check_seen fd_check_seen) (O_check_seen : FnOk P w K mg base CX0 15 f_check_seen fd_check_seen ["pieces", "seen"] (spG K (vT (tl TL)) (gT (tl TL)) 2 ph_check_seen)) {f_barred_pieces fd_barred_pieces} (D_barred_pieces : Def K mg "barred_pieces" s_barred_pieces [] f_barred_pieces fd_barred_pieces) (O_barred_pieces : FnOk P w K mg base CX0 6 f_barred_pieces fd_barred_pieces ["pieces", "seen"] (spG K (vT (tl TL)) (gT (tl TL)) 2 ph_barred_pieces)) : FnOk P w K mg base CX0 16 f fd ["pieces", "seen"] (spG K (vT (tl TL)) (gT (tl TL)) 2 ph_barring_piece) := fnD (gstT (tl TL)) D_.F sc_barring_piece (by decide) fun cdv A outer s H S E hr => ⟨_, (s_cons (x_do (p_call O_check_seen Compat.refl (hr.mono (by decide)) D_check_seen.m D_check_seen.F.kp (b_check_seen D_check_seen) (n_da (p_var 0) (n_da (p_var 1) n_nil)))) (s_cons (x_set 2 (p_call O_barred_pieces Compat.refl (hr.mono (by decide)) D_barred_pieces.m D_barred_pieces.F.kp (b_barred_pieces D_barred_pieces) (n_da (p_var 0) (n_da (p_var 1) n_nil))) sc_barring_piece.nd) (s_one (x_ret (p_ifE (q_ne hr.units (PP.toB (p_var 2)) (PO'.toB (o_lst d_nil))) (p_ix (PP.toB (p_var 2)) (PP.toB p_int)) p_none)))))⟩
theorem sc__law_well : FnScope ["script", "lap", "stirred", "cell", "own"] ["script", "lap"] (defScope s__law_well) := ⟨rfl, rfl, rfl, by decide +kernel, rfl, by decide +kernel, by decide +kernel⟩
theorem b__law_well {f fd} (D : Def K mg "_law_well" s__law_well [] f fd) : Binds K fd ["script", "lap"] [] := FunD.bindsN (ps := ["script", "lap"]) D.F fun _ _ _ _ _ _ us hl => match us, hl with | [_, _], _ => rfl
def m__law_well : MSO := (mSeqO (mAsg (mBin o_add (mC (.int 130577)) (mBin o_mul (mC (.int 7013)) (mVar 1))) (gN 2)) (mSeqO (mFor (mItL (mL (mSlL (mVar 0) mNo (mSo (mC (.int 12)))))) (gN 3) (mAsg (mBin o_mod (mC1 oInt (mBcons (mBin o_add (mBin o_add (mBin o_mul (mVar 2) (mC (.int 45281))) (mBin o_mod (mC1 oInt (mBcons (mVar 3) mBnil)) (mC (.int 2147483549)))) (mC (.int 19))) mBnil)) (mC (.int 2147483563))) (gN 2)) [3]) (mSeqO (mAsg (mIfE (mTest (mBin o_lt (mVar 1) (mC1 oLen (mBcons (mVar 0) mBnil)))) (mC1 oInt (mBcons (mBin oIx (mVar 0) (mVar 1)) mBnil)) (mC (.int 0))) (gN 4)) (mSeqO (mAsg (mBin o_mod (mC1 oInt (mBcons (mBin o_add (mBin o_add (mBin o_mul (mVar 2) (mC (.int 41))) (mBin o_mul (mBin o_mod (mC1 oInt (mBcons (mVar 4) mBnil)) (mC (.int 2147483549))) (mC (.int 15031)))) (mC (.int 5))) mBnil)) (mC (.int 2147483563))) (gN 2)) (mLst (mDcons (mIfE (mOr (mTest (mBin o_lt (mVar 4) (mC (.int 0)))) (mTest (mBin o_ge (mVar 4) (mBin o_pow (mC (.int 10)) (mC (.int 15)))))) (mC1 oAbs (mBcons (mVar 4) mBnil)) (mC (.int 0))) (mDcons (mVar 2) (mDcons (mC (.int 0)) mBnil))))))))
def ph__law_well : PhiO := bodyPhiO 5 2 m__law_well
theorem ok__law_well {f fd} (D_ : Def K mg "_law_well" s__law_well [] f fd) (B : Blt mg) : FnOk P w K mg base CX0 1 f fd ["script", "lap"] (spGO K (vT (tl TL)) (gT (tl TL)) 2 ph__law_well) := fnO (gstT (tl TL)) D_.F sc__law_well (by decide) fun cdv A outer s H S E hr => ⟨_, (so_cons (x_set 2 (p_add (PP.toB p_int) (PP.toB (p_mul (PP.toB p_int) (PP.toB (p_var 1))))) sc__law_well.nd) (so_cons (x_for [3] (i_list (PO'.e (o_slL (PP.toB (p_var 0)) so_none (so_some p_int)))) (g_nm 3 sc__law_well.nd) (s_one (x_set 2 (p_mod (PP.toB (p_int1 B.int (b_cons (PP.toB (p_add (PP.toB (p_add (PP.toB (p_mul (PP.toB (p_var 2)) (PP.toB p_int))) (PP.toB (p_mod (PP.toB (p_int1 B.int (b_cons (PP.toB (p_var 3)) b_nil))) (PP.toB p_int))))) (PP.toB p_int))) b_nil))) (PP.toB p_int)) sc__law_well.nd))) (so_cons (x_set 4 (p_ifE (q_lt (PP.toB (p_var 1)) (PP.toB (p_len B.len (b_cons (PP.toB (p_var 0)) b_nil)))) (p_int1 B.int (b_cons (PP.toB (p_ix (PP.toB (p_var 0)) (PP.toB (p_var 1)))) b_nil)) p_int) sc__law_well.nd) (so_cons (x_set 2 (p_mod (PP.toB (p_int1 B.int (b_cons (PP.toB (p_add (PP.toB (p_add (PP.toB (p_mul (PP.toB (p_var 2)) (PP.toB p_int))) (PP.toB (p_mul (PP.toB (p_mod (PP.toB (p_int1 B.int (b_cons (PP.toB (p_var 4)) b_nil))) (PP.toB p_int))) (PP.toB p_int))))) (PP.toB p_int))) b_nil))) (PP.toB p_int)) sc__law_well.nd) (so_ret (o_lst (d_cons (p_ifE (PQW.q (q_or (q_lt (PP.toB (p_var 4)) (PP.toB p_int)) (q_or1 (q_ge (PP.toB (p_var 4)) (PP.toB (p_pow (PP.toB p_int) (PP.toB p_int))))))) (p_abs B.abs (b_cons (PP.toB (p_var 4)) b_nil)) p_int) (d_cons (p_var 2) (d_cons p_int d_nil)))))))))⟩
theorem sc__law_draw : FnScope ["well", "limit", "stir", "digit"] ["well", "limit"] (defScope s__law_draw) := ⟨rfl, rfl, rfl, by decide +kernel, rfl, by decide +kernel, by decide +kernel⟩
theorem b__law_draw {f fd} (D : Def K mg "_law_draw" s__law_draw [] f fd) : Binds K fd ["well", "limit"] [] := FunD.bindsN (ps := ["well", "limit"]) D.F fun _ _ _ _ _ _ us hl => match us, hl with | [_, _], _ => rfl
def m__law_draw (wl : Addr) : MS := (mSeq (mIf (mTest (mBin o_gt (mWix wl 0) (mC (.int 0)))) (mSeq (mWdiv wl 0 3 (mC1 oDivmod (mBcons (mWix wl 0) (mBcons (mVar 1) mBnil)))) (mRet (mVar 3))) mNext) (mSeq (mWset wl 0 (mBin o_add (mWix wl 0) (mC (.int 1)))) (mSeq (mAsg (mBin o_mod (mC1 oInt (mBcons (mBin o_add (mBin o_add (mBin o_mul (mWix wl 0) (mC (.int 40037))) (mBin o_mul (mC (.int 13001)) (mWix wl 0))) (mC (.int 7))) mBnil)) (mC (.int 2147483563))) (gN 2)) (mSeq (mWset wl 0 (mBin o_mod (mC1 oInt (mBcons (mBin o_add (mBin o_mul (mVar 2) (mBin o_add (mBin o_mod (mC1 oInt (mBcons (mVar 2) mBnil)) (mC (.int 5009))) (mC (.int 20023)))) (mWix wl 0)) mBnil)) (mC (.int 2147483563)))) (mRet (mBin o_mod (mC1 oInt (mBcons (mBin o_fdiv (mWix wl 0) (mC (.int 1013))) mBnil)) (mVar 1)))))))
def ph__law_draw (wl : Addr) : Phi := bodyPhi 4 2 (m__law_draw wl)
theorem ok__law_draw {f fd} {wl : Addr} (D_ : Def K mg "_law_draw" s__law_draw [] f fd) (B : Blt mg) : FnOk P w K mg base CX0 1 f fd ["well", "limit"] (spG K (vW (tl TL) wl) (gW (tl TL) wl) 2 (ph__law_draw wl)) := fnD (gstW (tl TL) wl) D_.F sc__law_draw (by decide) fun cdv A outer s H S E hr => ⟨_, (s_cons (x_if (q_gt (PP.toB (p_wix wl 0 0 (by decide))) (PP.toB p_int)) (s_cons (x_wdiv wl 0 3 0 (by decide) (p_divmod B.divmod (b_cons (PP.toB (p_wix wl 0 0 (by decide))) (b_cons (PP.toB (p_var 1)) b_nil))) sc__law_draw.nd) (s_one (x_ret (p_var 3)))) s_nil) (s_cons (x_wset wl 0 2 (by decide) (p_add (PP.toB (p_wix wl 0 2 (by decide))) (PP.toB p_int))) (s_cons (x_set 2 (p_mod (PP.toB (p_int1 B.int (b_cons (PP.toB (p_add (PP.toB (p_add (PP.toB (p_mul (PP.toB (p_wix wl 0 1 (by decide))) (PP.toB p_int))) (PP.toB (p_mul (PP.toB p_int) (PP.toB (p_wix wl 0 2 (by decide))))))) (PP.toB p_int))) b_nil))) (PP.toB p_int)) sc__law_draw.nd) (s_cons (x_wset wl 0 1 (by decide) (p_mod (PP.toB (p_int1 B.int (b_cons (PP.toB (p_add (PP.toB (p_mul (PP.toB (p_var 2)) (PP.toB (p_add (PP.toB (p_mod (PP.toB (p_int1 B.int (b_cons (PP.toB (p_var 2)) b_nil))) (PP.toB p_int))) (PP.toB p_int))))) (PP.toB (p_wix wl 0 2 (by decide))))) b_nil))) (PP.toB p_int))) (s_one (x_ret (p_mod (PP.toB (p_int1 B.int (b_cons (PP.toB (p_fdiv (PP.toB (p_wix wl 0 1 (by decide))) (PP.toB p_int))) b_nil))) (PP.toB (p_var 1)))))))))⟩
theorem sc__law_of : FnScope ["well", "some"] ["well", "some"] (defScope s__law_of) := ⟨rfl, rfl, rfl, by decide +kernel, rfl, by decide +kernel, by decide +kernel⟩
theorem b__law_of {f fd} (D : Def K mg "_law_of" s__law_of [] f fd) : Binds K fd ["well", "some"] [] := FunD.bindsN (ps := ["well", "some"]) D.F fun _ _ _ _ _ _ us hl => match us, hl with | [_, _], _ => rfl
def m__law_of (wl : Addr) : MS := (mRet (mBin oIx (mVar 1) (mCall (ph__law_draw wl) (mArw 0 (mAda (mC1 oLen (mBcons (mVar 1) mBnil)) mAnil)))))
def ph__law_of (wl : Addr) : Phi := bodyPhi 2 2 (m__law_of wl)
theorem ok__law_of {f fd} {wl : Addr} (D_ : Def K mg "_law_of" s__law_of [] f fd) {f__law_draw fd__law_draw} (D__law_draw : Def K mg "_law_draw" s__law_draw [] f__law_draw fd__law_draw) (O__law_draw : FnOk P w K mg base CX0 1 f__law_draw fd__law_draw ["well", "limit"] (spG K (vW (tl TL) wl) (gW (tl TL) wl) 2 (ph__law_draw wl))) (B : Blt mg) : FnOk P w K mg base CX0 2 f fd ["well", "some"] (spG K (vW (tl TL) wl) (gW (tl TL) wl) 2 (ph__law_of wl)) := fnD (gstW (tl TL) wl) D_.F sc__law_of (by decide) fun cdv A outer s H S E hr => ⟨_, (s_one (x_ret (p_ix (PP.toB (p_var 1)) (PP.toB (p_call O__law_draw Compat.refl (hr.mono (by decide)) D__law_draw.m D__law_draw.F.kp (b__law_draw D__law_draw) (n_rw 0 (n_da (p_len B.len (b_cons (PP.toB (p_var 1)) b_nil)) n_nil)))))))⟩
theorem sc__law_same : FnScope ["one", "two", "k"] ["one", "two"] (defScope s__law_same) := ⟨rfl, rfl, rfl, by decide +kernel, rfl, by decide +kernel, by decide +kernel⟩
theorem b__law_same {f fd} (D : Def K mg "_law_same" s__law_same [] f fd) : Binds K fd ["one", "two"] [] := FunD.bindsN (ps := ["one", "two"]) D.F fun _ _ _ _ _ _ us hl => match us, hl with | [_, _], _ => rfl
def m__law_same (Φ : Phi) : MS := (mSeq (mIf (mAnd (mTest (mIsi "tuple" (mVar 0))) (mTest (mIsi "tuple" (mVar 1)))) (mRet (mAndV (mBin (oEq false) (mC1 oLen (mBcons (mVar 0) mBnil)) (mC1 oLen (mBcons (mVar 1) mBnil))) (mC1 oAll (mBcons (mL (mLc (mRng (mBcons (mC1 oLen (mBcons (mVar 0) mBnil)) mBnil)) (gN 2) mYes (mCall Φ (mAda (mBin oIx (mVar 0) (mVar 2)) (mAda (mBin oIx (mVar 1) (mVar 2)) mAnil))) [2])) mBnil)))) mNext) (mSeq (mIf (mOr (mTest (mBin (oEq true) (mIsi "bool" (mVar 0)) (mIsi "bool" (mVar 1)))) (mTest (mBin (oEq true) (mIsi "int" (mVar 0)) (mIsi "int" (mVar 1))))) (mRet (mC (.bool false))) mNext) (mRet (mAndV (mBin (oEq false) (mIsi "tuple" (mVar 0)) (mIsi "tuple" (mVar 1))) (mBin (oEq false) (mVar 0) (mVar 1))))))
def ph__law_same_ : Nat → Phi
  | 0 => fun _ _ _ => False
  | n + 1 => bodyPhi 3 2 (m__law_same (ph__law_same_ n))
abbrev ph__law_same : Phi := ph__law_same_ 5
theorem ok1__law_same {f fd k} {Φ : Phi} (D_ : Def K mg "_law_same" s__law_same [] f fd) (B : Blt mg) (O_ : FnOk P w K mg base CX0 k f fd ["one", "two"] (spG K (vT (tl TL)) (gT (tl TL)) 2 Φ)) : FnOk P w K mg base CX0 (k + 1) f fd ["one", "two"] (spG K (vT (tl TL)) (gT (tl TL)) 2 (bodyPhi 3 2 (m__law_same Φ))) := fnD (gstT (tl TL)) D_.F sc__law_same (by decide) fun cdv A outer s H S E hr => ⟨_, (s_cons (x_if (PQW.q (q_and (q_val (PP.toB (p_isi "tuple" B.isinstance B.tuple PyProof.Rows.boot_tuple (PP.toB (p_var 0))))) (q_and1 (q_val (PP.toB (p_isi "tuple" B.isinstance B.tuple PyProof.Rows.boot_tuple (PP.toB (p_var 1)))))))) (s_one (x_ret (p_and (p_eq hr.units (PP.toB (p_len B.len (b_cons (PP.toB (p_var 0)) b_nil))) (PP.toB (p_len B.len (b_cons (PP.toB (p_var 1)) b_nil)))) (p_one (p_all B.all (b_cons (PO'.toB (o_lc [("k", 2)] sc__law_same.nd (PIt.toB (i_rng B.range (b_cons (PP.toB (p_len B.len (b_cons (PP.toB (p_var 0)) b_nil))) b_nil))) (blkOk_by (N := ["one", "two", "k"]) (sc := defScope s__law_same) (by decide +kernel)) (by intro _ _ _ _ _; exact (g_nm 2 sc__law_same.nd)) (by intro _ _ _ _ _; exact t_nil) (by intro _ _ _ _ _; exact (p_call O_ Compat.refl hr D_.m D_.F.kp (b__law_same D_) (n_da (p_ix (PP.toB (p_var 0)) (PP.toB (p_var 2))) (n_da (p_ix (PP.toB (p_var 1)) (PP.toB (p_var 2))) n_nil)))))) b_nil)))))) s_nil) (s_cons (x_if (PQW.q (q_or (q_ne hr.units (PP.toB (p_isi "bool" B.isinstance B.bool PyProof.Rows.boot_bool (PP.toB (p_var 0)))) (PP.toB (p_isi "bool" B.isinstance B.bool PyProof.Rows.boot_bool (PP.toB (p_var 1))))) (q_or1 (q_ne hr.units (PP.toB (p_isi "int" B.isinstance B.int PyProof.Rows.boot_int (PP.toB (p_var 0)))) (PP.toB (p_isi "int" B.isinstance B.int PyProof.Rows.boot_int (PP.toB (p_var 1)))))))) (s_one (x_ret p_bool)) s_nil) (s_one (x_ret (p_and (p_eq hr.units (PP.toB (p_isi "tuple" B.isinstance B.tuple PyProof.Rows.boot_tuple (PP.toB (p_var 0)))) (PP.toB (p_isi "tuple" B.isinstance B.tuple PyProof.Rows.boot_tuple (PP.toB (p_var 1))))) (p_one (p_eq hr.units (PP.toB (p_var 0)) (PP.toB (p_var 1)))))))))⟩
theorem ok2__law_same {f fd} (D_ : Def K mg "_law_same" s__law_same [] f fd) (B : Blt mg) : ∀ n, FnOk P w K mg base CX0 n f fd ["one", "two"] (spG K (vT (tl TL)) (gT (tl TL)) 2 (ph__law_same_ n))
  | 0 => ⟨fun vs H Q E h => by obtain ⟨_, _, _, _, _, _, _, h, _⟩ := h; exact h.elim, fun A outer s H args us vs Q E _ _ _ _ h => by obtain ⟨_, _, _, _, _, _, _, h, _⟩ := h; exact h.elim⟩
  | n + 1 => ok1__law_same D_    B (ok2__law_same D_    B n)
theorem ok__law_same {f fd} (D_ : Def K mg "_law_same" s__law_same [] f fd) (B : Blt mg) : FnOk P w K mg base CX0 5 f fd ["one", "two"] (spG K (vT (tl TL)) (gT (tl TL)) 2 ph__law_same) := ok2__law_same D_    B 5
theorem sc__law_names : FnScope ["well", "many", "words", "k", "found", "letters", "name", "lap"] ["well", "many"] (defScope s__law_names) := ⟨rfl, rfl, rfl, by decide +kernel, rfl, by decide +kernel, by decide +kernel⟩
theorem b__law_names {f fd} (D : Def K mg "_law_names" s__law_names [] f fd) : Binds K fd ["well", "many"] [] := FunD.bindsN (ps := ["well", "many"]) D.F fun _ _ _ _ _ _ us hl => match us, hl with | [_, _], _ => rfl
def m__law_names (wl : Addr) : MS := (mSeq (mPar2 4 5 (mXow (mLst mBnil) (mXda (mC (.str "abcdefghijklmnopqrstuvwxyz")) mXnil))) (mSeq (mAsg (mC (.str "above all any bears below broke by can crate day days goes guest held holds in leaves lifts loads most no")) (gN 2)) (mSeq (mAsg (mL (mCatL (mL (mSplit (mVar 2) (mC (.str " ")))) (mL (mSplit (mC (.str "none of on out pull put room rule shelf slip snow spare stack take")) (mC (.str " ")))))) (gN 2)) (mSeq (mAsg (mL (mCatL (mVar 2) (mL (mLst (mDcons (mC (.str "tidy")) (mDcons (mC (.str "to")) (mDcons (mC (.str "top")) (mDcons (mC (.str "weighs")) (mDcons (mC (.str "with")) (mDcons (mC (.str "yard")) mBnil)))))))))) (gN 2)) (mSeq (mFor (mRng (mBcons (mVar 1) mBnil)) (gN 3) (mSeq (mAsg (mC (.str "")) (gN 6)) (mSeq (mFor (mRng (mBcons (mCall (ph__law_of wl) (mArw 0 (mAda (mTup (mDcons (mC (.int 0)) (mDcons (mC (.int 1)) (mDcons (mC (.int 2)) (mDcons (mC (.int 3)) (mDcons (mC (.int 7)) mBnil)))))) mAnil))) mBnil)) (gN 7) (mAsg (mBin oCatS (mVar 6) (mCall (ph__law_of wl) (mArw 0 (mAda (mVar 5) mAnil)))) (gN 6)) [7]) (mSeq (mAsg (mBin oCatS (mVar 6) (mBin oIx (mVar 5) (mVar 3))) (gN 6)) (mApp 4 (mIfE (mTest (mBin (oInS false) (mVar 6) (mVar 2))) (mBin oCatS (mC (.str "q")) (mBin oIx (mVar 5) (mVar 3))) (mVar 6)))))) [3, 6]) (mRet (mC1 oTuple (mBcons (mL (mCo oSorted (mBcons (mVarB 4) mBnil))) mBnil))))))))
def ph__law_names (wl : Addr) : Phi := bodyPhi 8 2 (m__law_names wl)
theorem ok__law_names {f fd} {wl : Addr} (D_ : Def K mg "_law_names" s__law_names [] f fd) {f__law_of fd__law_of} (D__law_of : Def K mg "_law_of" s__law_of [] f__law_of fd__law_of) (O__law_of : FnOk P w K mg base CX0 2 f__law_of fd__law_of ["well", "some"] (spG K (vW (tl TL) wl) (gW (tl TL) wl) 2 (ph__law_of wl))) (B : Blt mg) : FnOk P w K mg base CX0 3 f fd ["well", "many"] (spG K (vW (tl TL) wl) (gW (tl TL) wl) 2 (ph__law_names wl)) := fnD (gstW (tl TL) wl) D_.F sc__law_names (by decide) fun cdv A outer s H S E hr => ⟨_, (s_cons (x_par2 4 5 (xa_ow (o_lst d_nil) (xa_da p_str x_pnil)) sc__law_names.nd) (s_cons (x_set 2 p_str sc__law_names.nd) (s_cons (x_set 2 (PO'.e (o_catL (PO'.toB (o_split (PP.toB (p_var 2)) (PP.toB p_str))) (PO'.toB (o_split (PP.toB p_str) (PP.toB p_str))))) sc__law_names.nd) (s_cons (x_set 2 (PO'.e (o_catL (PP.toB (p_var 2)) (PO'.toB (o_lst (d_cons p_str (d_cons p_str (d_cons p_str (d_cons p_str (d_cons p_str (d_cons p_str d_nil)))))))))) sc__law_names.nd) (s_cons (x_for [3, 6] (i_rng B.range (b_cons (PP.toB (p_var 1)) b_nil)) (g_nm 3 sc__law_names.nd) (s_cons (x_set 6 p_str sc__law_names.nd) (s_cons (x_for [7] (i_rng B.range (b_cons (PP.toB (p_call O__law_of Compat.refl (hr.mono (by decide)) D__law_of.m D__law_of.F.kp (b__law_of D__law_of) (n_rw 0 (n_da (p_tup (d_cons p_int (d_cons p_int (d_cons p_int (d_cons p_int (d_cons p_int d_nil)))))) n_nil)))) b_nil)) (g_nm 7 sc__law_names.nd) (s_one (x_set 6 (p_catS (PP.toB (p_var 6)) (PP.toB (p_call O__law_of Compat.refl (hr.mono (by decide)) D__law_of.m D__law_of.F.kp (b__law_of D__law_of) (n_rw 0 (n_da (p_var 5) n_nil))))) sc__law_names.nd))) (s_cons (x_set 6 (p_catS (PP.toB (p_var 6)) (PP.toB (p_ix (PP.toB (p_var 5)) (PP.toB (p_var 3))))) sc__law_names.nd) (s_one (x_app 4 (p_ifE (q_inS (PP.toB (p_var 6)) (PP.toB (p_var 2))) (p_catS (PP.toB p_str) (PP.toB (p_ix (PP.toB (p_var 5)) (PP.toB (p_var 3))))) (p_var 6)))))))) (s_one (x_ret (p_tuple B.tuple (b_cons (PO'.toB (o_sorted B.sorted hr.units (b_cons (p_varB 4) b_nil))) b_nil)))))))))⟩
theorem sc__law_shuffled : FnScope ["well", "things", "lap", "left", "found"] ["well", "things"] (defScope s__law_shuffled) := ⟨rfl, rfl, rfl, by decide +kernel, rfl, by decide +kernel, by decide +kernel⟩
theorem b__law_shuffled {f fd} (D : Def K mg "_law_shuffled" s__law_shuffled [] f fd) : Binds K fd ["well", "things"] [] := FunD.bindsN (ps := ["well", "things"]) D.F fun _ _ _ _ _ _ us hl => match us, hl with | [_, _], _ => rfl
def m__law_shuffled (wl : Addr) : MS := (mSeq (mPar2 3 4 (mXow (mCo oListOf (mBcons (mVar 1) mBnil)) (mXda (mTup mBnil) mXnil))) (mSeq (mFor (mRng (mBcons (mC1 oLen (mBcons (mVarB 3) mBnil)) mBnil)) (gN 2) (mPopCat 3 4 (mCall (ph__law_draw wl) (mArw 0 (mAda (mC1 oLen (mBcons (mVarB 3) mBnil)) mAnil)))) [2]) (mRet (mVar 4))))
def ph__law_shuffled (wl : Addr) : Phi := bodyPhi 5 2 (m__law_shuffled wl)
theorem ok__law_shuffled {f fd} {wl : Addr} (D_ : Def K mg "_law_shuffled" s__law_shuffled [] f fd) {f__law_draw fd__law_draw} (D__law_draw : Def K mg "_law_draw" s__law_draw [] f__law_draw fd__law_draw) (O__law_draw : FnOk P w K mg base CX0 1 f__law_draw fd__law_draw ["well", "limit"] (spG K (vW (tl TL) wl) (gW (tl TL) wl) 2 (ph__law_draw wl))) (B : Blt mg) : FnOk P w K mg base CX0 2 f fd ["well", "things"] (spG K (vW (tl TL) wl) (gW (tl TL) wl) 2 (ph__law_shuffled wl)) := fnD (gstW (tl TL) wl) D_.F sc__law_shuffled (by decide) fun cdv A outer s H S E hr => ⟨_, (s_cons (x_par2 3 4 (xa_ow (o_list B.list (b_cons (PP.toB (p_var 1)) b_nil)) (xa_da (p_tup d_nil) x_pnil)) sc__law_shuffled.nd) (s_cons (x_for [2] (i_rng B.range (b_cons (PP.toB (p_len B.len (b_cons (p_varB 3) b_nil))) b_nil)) (g_nm 2 sc__law_shuffled.nd) (s_one (x_popcat 3 4 (p_call O__law_draw Compat.refl (hr.mono (by decide)) D__law_draw.m D__law_draw.F.kp (b__law_draw D__law_draw) (n_rw 0 (n_da (p_len B.len (b_cons (p_varB 3) b_nil)) n_nil))) sc__law_shuffled.nd))) (s_one (x_ret (p_var 4)))))⟩
theorem sc__law_put : FnScope ["row", "at", "thing"] ["row", "at", "thing"] (defScope s__law_put) := ⟨rfl, rfl, rfl, by decide +kernel, rfl, by decide +kernel, by decide +kernel⟩
theorem b__law_put {f fd} (D : Def K mg "_law_put" s__law_put [] f fd) : Binds K fd ["row", "at", "thing"] [] := FunD.bindsN (ps := ["row", "at", "thing"]) D.F fun _ _ _ _ _ _ us hl => match us, hl with | [_, _, _], _ => rfl
def m__law_put : MS := (mRet (mBin oCatT (mBin oCatT (mSlT (mVar 0) mNo (mSo (mVar 1))) (mTup (mDcons (mVar 2) mBnil))) (mSlT (mVar 0) (mSo (mBin o_add (mVar 1) (mC (.int 1)))) mNo)))
def ph__law_put : Phi := bodyPhi 3 3 m__law_put
theorem ok__law_put {f fd} (D_ : Def K mg "_law_put" s__law_put [] f fd) : FnOk P w K mg base CX0 1 f fd ["row", "at", "thing"] (spG K (vT (tl TL)) (gT (tl TL)) 3 ph__law_put) := fnD (gstT (tl TL)) D_.F sc__law_put (by decide) fun cdv A outer s H S E hr => ⟨_, (s_one (x_ret (p_catT (PP.toB (p_catT (PP.toB (p_slT (PP.toB (p_var 0)) so_none (so_some (p_var 1)))) (PP.toB (p_tup (d_cons (p_var 2) d_nil))))) (PP.toB (p_slT (PP.toB (p_var 0)) (so_some (p_add (PP.toB (p_var 1)) (PP.toB p_int))) so_none)))))⟩
theorem sc__law_lot_of : FnScope ["well", "names", "top", "most", "name"] ["well", "names"] (defScope s__law_lot_of) := ⟨rfl, rfl, rfl, by decide +kernel, rfl, by decide +kernel, by decide +kernel⟩
theorem b__law_lot_of {f fd} (D : Def K mg "_law_lot_of" s__law_lot_of [] f fd) : Binds K fd ["well", "names"] [] := FunD.bindsN (ps := ["well", "names"]) D.F fun _ _ _ _ _ _ us hl => match us, hl with | [_, _], _ => rfl
def m__law_lot_of (wl : Addr) : MS := (mSeq (mAsg (mTup (mDcons (mCall (ph__law_of wl) (mArw 0 (mAda (mTup (mDcons (mC (.int 3)) (mDcons (mC (.int 9)) (mDcons (mC (.int 30)) mBnil)))) mAnil))) (mDcons (mCall (ph__law_of wl) (mArw 0 (mAda (mTup (mDcons (mC (.int 2)) (mDcons (mC (.int 9)) (mDcons (mC (.int 40)) (mDcons (mC (.int 100)) mBnil))))) mAnil))) mBnil))) (gTp 2 (gCs (gN 2) (gCs (gN 3) gNl)))) (mRet (mC1 oTuple (mBcons (mL (mLc (mItT (mVar 1)) (gN 4) mYes (mTup (mDcons (mVar 4) (mDcons (mBin o_add (mC (.int 1)) (mCall (ph__law_draw wl) (mArw 0 (mAda (mVar 2) mAnil)))) (mDcons (mCall (ph__law_draw wl) (mArw 0 (mAda (mVar 3) mAnil))) mBnil)))) [4])) mBnil))))
def ph__law_lot_of (wl : Addr) : Phi := bodyPhi 5 2 (m__law_lot_of wl)
theorem ok__law_lot_of {f fd} {wl : Addr} (D_ : Def K mg "_law_lot_of" s__law_lot_of [] f fd) {f__law_of fd__law_of} (D__law_of : Def K mg "_law_of" s__law_of [] f__law_of fd__law_of) (O__law_of : FnOk P w K mg base CX0 2 f__law_of fd__law_of ["well", "some"] (spG K (vW (tl TL) wl) (gW (tl TL) wl) 2 (ph__law_of wl))) {f__law_draw fd__law_draw} (D__law_draw : Def K mg "_law_draw" s__law_draw [] f__law_draw fd__law_draw) (O__law_draw : FnOk P w K mg base CX0 1 f__law_draw fd__law_draw ["well", "limit"] (spG K (vW (tl TL) wl) (gW (tl TL) wl) 2 (ph__law_draw wl))) (B : Blt mg) : FnOk P w K mg base CX0 3 f fd ["well", "names"] (spG K (vW (tl TL) wl) (gW (tl TL) wl) 2 (ph__law_lot_of wl)) := fnD (gstW (tl TL) wl) D_.F sc__law_lot_of (by decide) fun cdv A outer s H S E hr => ⟨_, (s_cons (x_asg (p_tup (d_cons (p_call O__law_of Compat.refl (hr.mono (by decide)) D__law_of.m D__law_of.F.kp (b__law_of D__law_of) (n_rw 0 (n_da (p_tup (d_cons p_int (d_cons p_int (d_cons p_int d_nil)))) n_nil))) (d_cons (p_call O__law_of Compat.refl (hr.mono (by decide)) D__law_of.m D__law_of.F.kp (b__law_of D__law_of) (n_rw 0 (n_da (p_tup (d_cons p_int (d_cons p_int (d_cons p_int (d_cons p_int d_nil))))) n_nil))) d_nil))) (g_tp (gs_cons (g_nm 2 sc__law_lot_of.nd) (gs_cons (g_nm 3 sc__law_lot_of.nd) gs_nil)))) (s_one (x_ret (p_tuple B.tuple (b_cons (PO'.toB (o_lc [("name", 4)] sc__law_lot_of.nd (PIt.toB (i_tup (p_var 1))) (blkOk_by (N := ["well", "names", "top", "most", "name"]) (sc := defScope s__law_lot_of) (by decide +kernel)) (by intro _ _ _ _ _; exact (g_nm 4 sc__law_lot_of.nd)) (by intro _ _ _ _ _; exact t_nil) (by intro _ _ _ _ _; exact (p_tup (d_cons (p_var 4) (d_cons (p_add (PP.toB p_int) (PP.toB (p_call O__law_draw Compat.refl (hr.mono (by decide)) D__law_draw.m D__law_draw.F.kp (b__law_draw D__law_draw) (n_rw 0 (n_da (p_var 2) n_nil))))) (d_cons (p_call O__law_draw Compat.refl (hr.mono (by decide)) D__law_draw.m D__law_draw.F.kp (b__law_draw D__law_draw) (n_rw 0 (n_da (p_var 3) n_nil))) d_nil))))))) b_nil)))))⟩
theorem sc__law_lot : FnScope ["well", "most"] ["well", "most"] (defScope s__law_lot) := ⟨rfl, rfl, rfl, by decide +kernel, rfl, by decide +kernel, by decide +kernel⟩
theorem b__law_lot {f fd} (D : Def K mg "_law_lot" s__law_lot [] f fd) : Binds K fd ["well", "most"] [] := FunD.bindsN (ps := ["well", "most"]) D.F fun _ _ _ _ _ _ us hl => match us, hl with | [_, _], _ => rfl
def m__law_lot (wl : Addr) : MS := (mRet (mCall (ph__law_lot_of wl) (mArw 0 (mAda (mCall (ph__law_names wl) (mArw 0 (mAda (mBin o_add (mC (.int 1)) (mCall (ph__law_draw wl) (mArw 0 (mAda (mVar 1) mAnil)))) mAnil))) mAnil))))
def ph__law_lot (wl : Addr) : Phi := bodyPhi 2 2 (m__law_lot wl)
theorem ok__law_lot {f fd} {wl : Addr} (D_ : Def K mg "_law_lot" s__law_lot [] f fd) {f__law_lot_of fd__law_lot_of} (D__law_lot_of : Def K mg "_law_lot_of" s__law_lot_of [] f__law_lot_of fd__law_lot_of) (O__law_lot_of : FnOk P w K mg base CX0 3 f__law_lot_of fd__law_lot_of ["well", "names"] (spG K (vW (tl TL) wl) (gW (tl TL) wl) 2 (ph__law_lot_of wl))) {f__law_names fd__law_names} (D__law_names : Def K mg "_law_names" s__law_names [] f__law_names fd__law_names) (O__law_names : FnOk P w K mg base CX0 3 f__law_names fd__law_names ["well", "many"] (spG K (vW (tl TL) wl) (gW (tl TL) wl) 2 (ph__law_names wl))) {f__law_draw fd__law_draw} (D__law_draw : Def K mg "_law_draw" s__law_draw [] f__law_draw fd__law_draw) (O__law_draw : FnOk P w K mg base CX0 1 f__law_draw fd__law_draw ["well", "limit"] (spG K (vW (tl TL) wl) (gW (tl TL) wl) 2 (ph__law_draw wl))) : FnOk P w K mg base CX0 4 f fd ["well", "most"] (spG K (vW (tl TL) wl) (gW (tl TL) wl) 2 (ph__law_lot wl)) := fnD (gstW (tl TL) wl) D_.F sc__law_lot (by decide) fun cdv A outer s H S E hr => ⟨_, (s_one (x_ret (p_call O__law_lot_of Compat.refl (hr.mono (by decide)) D__law_lot_of.m D__law_lot_of.F.kp (b__law_lot_of D__law_lot_of) (n_rw 0 (n_da (p_call O__law_names Compat.refl (hr.mono (by decide)) D__law_names.m D__law_names.F.kp (b__law_names D__law_names) (n_rw 0 (n_da (p_add (PP.toB p_int) (PP.toB (p_call O__law_draw Compat.refl (hr.mono (by decide)) D__law_draw.m D__law_draw.F.kp (b__law_draw D__law_draw) (n_rw 0 (n_da (p_var 1) n_nil))))) n_nil))) n_nil)))))⟩
theorem sc__law_plain : FnScope ["lot", "row"] ["lot"] (defScope s__law_plain) := ⟨rfl, rfl, rfl, by decide +kernel, rfl, by decide +kernel, by decide +kernel⟩
theorem b__law_plain {f fd} (D : Def K mg "_law_plain" s__law_plain [] f fd) : Binds K fd ["lot"] [] := FunD.bindsN (ps := ["lot"]) D.F fun _ _ _ _ _ _ us hl => match us, hl with | [_], _ => rfl
def m__law_plain : MS := (mRet (mC1 oTuple (mBcons (mL (mLc (mItT (mVar 0)) (gN 1) mYes (mBin oIx (mVar 1) (mC (.int 0))) [1])) mBnil)))
def ph__law_plain : Phi := bodyPhi 2 1 m__law_plain
theorem ok__law_plain {f fd} (D_ : Def K mg "_law_plain" s__law_plain [] f fd) (B : Blt mg) : FnOk P w K mg base CX0 1 f fd ["lot"] (spG K (vT (tl TL)) (gT (tl TL)) 1 ph__law_plain) := fnD (gstT (tl TL)) D_.F sc__law_plain (by decide) fun cdv A outer s H S E hr => ⟨_, (s_one (x_ret (p_tuple B.tuple (b_cons (PO'.toB (o_lc [("row", 1)] sc__law_plain.nd (PIt.toB (i_tup (p_var 0))) (blkOk_by (N := ["lot", "row"]) (sc := defScope s__law_plain) (by decide +kernel)) (by intro _ _ _ _ _; exact (g_nm 1 sc__law_plain.nd)) (by intro _ _ _ _ _; exact t_nil) (by intro _ _ _ _ _; exact (p_ix (PP.toB (p_var 1)) (PP.toB p_int))))) b_nil))))⟩
theorem sc__law_crate : FnScope ["lot", "name", "row"] ["lot", "name"] (defScope s__law_crate) := ⟨rfl, rfl, rfl, by decide +kernel, rfl, by decide +kernel, by decide +kernel⟩
theorem b__law_crate {f fd} (D : Def K mg "_law_crate" s__law_crate [] f fd) : Binds K fd ["lot", "name"] [] := FunD.bindsN (ps := ["lot", "name"]) D.F fun _ _ _ _ _ _ us hl => match us, hl with | [_, _], _ => rfl
def m__law_crate : MS := (mRet (mBin oIx (mL (mLc (mItT (mVar 0)) (gN 2) (mTest (mBin (oEq false) (mBin oIx (mVar 2) (mC (.int 0))) (mVar 1))) (mVar 2) [2])) (mC (.int 0))))
def ph__law_crate : Phi := bodyPhi 3 2 m__law_crate
theorem ok__law_crate {f fd} (D_ : Def K mg "_law_crate" s__law_crate [] f fd) : FnOk P w K mg base CX0 1 f fd ["lot", "name"] (spG K (vT (tl TL)) (gT (tl TL)) 2 ph__law_crate) := fnD (gstT (tl TL)) D_.F sc__law_crate (by decide) fun cdv A outer s H S E hr => ⟨_, (s_one (x_ret (p_ix (PO'.toB (o_lc [("row", 2)] sc__law_crate.nd (PIt.toB (i_tup (p_var 0))) (blkOk_by (N := ["lot", "name", "row"]) (sc := defScope s__law_crate) (by decide +kernel)) (by intro _ _ _ _ _; exact (g_nm 2 sc__law_crate.nd)) (by intro _ _ _ _ _; exact (t_one (q_eq hr.units (PP.toB (p_ix (PP.toB (p_var 2)) (PP.toB p_int))) (PP.toB (p_var 1))))) (by intro _ _ _ _ _; exact (p_var 2)))) (PP.toB p_int))))⟩
theorem sc__law_loads : FnScope ["lot", "stack", "name", "found", "load"] ["lot", "stack"] (defScope s__law_loads) := ⟨rfl, rfl, rfl, by decide +kernel, rfl, by decide +kernel, by decide +kernel⟩
theorem b__law_loads {f fd} (D : Def K mg "_law_loads" s__law_loads [] f fd) : Binds K fd ["lot", "stack"] [] := FunD.bindsN (ps := ["lot", "stack"]) D.F fun _ _ _ _ _ _ us hl => match us, hl with | [_, _], _ => rfl
def m__law_loads : MS := (mSeq (mPar2 3 4 (mXow (mLst mBnil) (mXda (mC (.int 0)) mXnil))) (mSeq (mFor (mItT (mVar 1)) (gN 2) (mSeq (mApp 3 (mVar 4)) (mAsg (mBin o_add (mVar 4) (mBin oIx (mCall (ph__law_crate) (mAda (mVar 0) (mAda (mVar 2) mAnil))) (mC (.int 1)))) (gN 4))) [2]) (mFrz 3 (mRet (mVar 3)))))
def ph__law_loads : Phi := bodyPhi 5 2 m__law_loads
theorem ok__law_loads {f fd} (D_ : Def K mg "_law_loads" s__law_loads [] f fd) {f__law_crate fd__law_crate} (D__law_crate : Def K mg "_law_crate" s__law_crate [] f__law_crate fd__law_crate) (O__law_crate : FnOk P w K mg base CX0 1 f__law_crate fd__law_crate ["lot", "name"] (spG K (vT (tl TL)) (gT (tl TL)) 2 ph__law_crate)) : FnOk P w K mg base CX0 2 f fd ["lot", "stack"] (spG K (vT (tl TL)) (gT (tl TL)) 2 ph__law_loads) := fnD (gstT (tl TL)) D_.F sc__law_loads (by decide) fun cdv A outer s H S E hr => ⟨_, (s_cons (x_par2 3 4 (xa_ow (o_lst d_nil) (xa_da p_int x_pnil)) sc__law_loads.nd) (s_cons (x_for [2] (i_tup (p_var 1)) (g_nm 2 sc__law_loads.nd) (s_cons (x_app 3 (p_var 4)) (s_one (x_set 4 (p_add (PP.toB (p_var 4)) (PP.toB (p_ix (PP.toB (p_call O__law_crate Compat.refl (hr.mono (by decide)) D__law_crate.m D__law_crate.F.kp (b__law_crate D__law_crate) (n_da (p_var 0) (n_da (p_var 2) n_nil)))) (PP.toB p_int)))) sc__law_loads.nd)))) (s_one (x_frz 3 (x_ret (p_var 3))))))⟩
theorem sc__law_broken : FnScope ["lot", "stack", "loads", "k"] ["lot", "stack"] (defScope s__law_broken) := ⟨rfl, rfl, rfl, by decide +kernel, rfl, by decide +kernel, by decide +kernel⟩
theorem b__law_broken {f fd} (D : Def K mg "_law_broken" s__law_broken [] f fd) : Binds K fd ["lot", "stack"] [] := FunD.bindsN (ps := ["lot", "stack"]) D.F fun _ _ _ _ _ _ us hl => match us, hl with | [_, _], _ => rfl
def m__law_broken : MS := (mSeq (mAsg (mCall (ph__law_loads) (mAda (mVar 0) (mAda (mVar 1) mAnil))) (gN 2)) (mRet (mL (mLc (mRng (mBcons (mC1 oLen (mBcons (mVar 1) mBnil)) mBnil)) (gN 3) (mTest (mBin o_gt (mBin oIx (mVar 2) (mVar 3)) (mBin oIx (mCall (ph__law_crate) (mAda (mVar 0) (mAda (mBin oIx (mVar 1) (mVar 3)) mAnil))) (mC (.int 2))))) (mBin oIx (mVar 1) (mVar 3)) [3]))))
def ph__law_broken : Phi := bodyPhi 4 2 m__law_broken
theorem ok__law_broken {f fd} (D_ : Def K mg "_law_broken" s__law_broken [] f fd) {f__law_loads fd__law_loads} (D__law_loads : Def K mg "_law_loads" s__law_loads [] f__law_loads fd__law_loads) (O__law_loads : FnOk P w K mg base CX0 2 f__law_loads fd__law_loads ["lot", "stack"] (spG K (vT (tl TL)) (gT (tl TL)) 2 ph__law_loads)) {f__law_crate fd__law_crate} (D__law_crate : Def K mg "_law_crate" s__law_crate [] f__law_crate fd__law_crate) (O__law_crate : FnOk P w K mg base CX0 1 f__law_crate fd__law_crate ["lot", "name"] (spG K (vT (tl TL)) (gT (tl TL)) 2 ph__law_crate)) (B : Blt mg) : FnOk P w K mg base CX0 3 f fd ["lot", "stack"] (spG K (vT (tl TL)) (gT (tl TL)) 2 ph__law_broken) := fnD (gstT (tl TL)) D_.F sc__law_broken (by decide) fun cdv A outer s H S E hr => ⟨_, (s_cons (x_set 2 (p_call O__law_loads Compat.refl (hr.mono (by decide)) D__law_loads.m D__law_loads.F.kp (b__law_loads D__law_loads) (n_da (p_var 0) (n_da (p_var 1) n_nil))) sc__law_broken.nd) (s_one (x_ret (PO'.e (o_lc [("k", 3)] sc__law_broken.nd (PIt.toB (i_rng B.range (b_cons (PP.toB (p_len B.len (b_cons (PP.toB (p_var 1)) b_nil))) b_nil))) (blkOk_by (N := ["lot", "stack", "loads", "k"]) (sc := defScope s__law_broken) (by decide +kernel)) (by intro _ _ _ _ _; exact (g_nm 3 sc__law_broken.nd)) (by intro _ _ _ _ _; exact (t_one (q_gt (PP.toB (p_ix (PP.toB (p_var 2)) (PP.toB (p_var 3)))) (PP.toB (p_ix (PP.toB (p_call O__law_crate Compat.refl (hr.mono (by decide)) D__law_crate.m D__law_crate.F.kp (b__law_crate D__law_crate) (n_da (p_var 0) (n_da (p_ix (PP.toB (p_var 1)) (PP.toB (p_var 3))) n_nil)))) (PP.toB p_int)))))) (by intro _ _ _ _ _; exact (p_ix (PP.toB (p_var 1)) (PP.toB (p_var 3)))))))))⟩
theorem sc__law_pieces : FnScope ["well", "most", "row"] ["well", "most"] (defScope s__law_pieces) := ⟨rfl, rfl, rfl, by decide +kernel, rfl, by decide +kernel, by decide +kernel⟩
theorem b__law_pieces {f fd} (D : Def K mg "_law_pieces" s__law_pieces [] f fd) : Binds K fd ["well", "most"] [] := FunD.bindsN (ps := ["well", "most"]) D.F fun _ _ _ _ _ _ us hl => match us, hl with | [_, _], _ => rfl
def m__law_pieces (wl : Addr) : MS := (mRet (mC1 oTuple (mBcons (mL (mLc (mItT (mCall (ph__law_lot wl) (mArw 0 (mAda (mVar 1) mAnil)))) (gN 2) mYes (mSlT (mVar 2) mNo (mSo (mC (.int 2)))) [2])) mBnil)))
def ph__law_pieces (wl : Addr) : Phi := bodyPhi 3 2 (m__law_pieces wl)
theorem ok__law_pieces {f fd} {wl : Addr} (D_ : Def K mg "_law_pieces" s__law_pieces [] f fd) {f__law_lot fd__law_lot} (D__law_lot : Def K mg "_law_lot" s__law_lot [] f__law_lot fd__law_lot) (O__law_lot : FnOk P w K mg base CX0 4 f__law_lot fd__law_lot ["well", "most"] (spG K (vW (tl TL) wl) (gW (tl TL) wl) 2 (ph__law_lot wl))) (B : Blt mg) : FnOk P w K mg base CX0 5 f fd ["well", "most"] (spG K (vW (tl TL) wl) (gW (tl TL) wl) 2 (ph__law_pieces wl)) := fnD (gstW (tl TL) wl) D_.F sc__law_pieces (by decide) fun cdv A outer s H S E hr => ⟨_, (s_one (x_ret (p_tuple B.tuple (b_cons (PO'.toB (o_lc [("row", 2)] sc__law_pieces.nd (PIt.toB (i_tup (p_call O__law_lot Compat.refl (hr.mono (by decide)) D__law_lot.m D__law_lot.F.kp (b__law_lot D__law_lot) (n_rw 0 (n_da (p_var 1) n_nil))))) (blkOk_by (N := ["well", "most", "row"]) (sc := defScope s__law_pieces) (by decide +kernel)) (by intro _ _ _ _ _; exact (g_nm 2 sc__law_pieces.nd)) (by intro _ _ _ _ _; exact t_nil) (by intro _ _ _ _ _; exact (p_slT (PP.toB (p_var 2)) so_none (so_some p_int))))) b_nil))))⟩
theorem sc__law_seen : FnScope ["well", "pieces", "bears", "lap", "lot", "found", "some", "broke", "k"] ["well", "pieces", "bears"] (defScope s__law_seen) := ⟨rfl, rfl, rfl, by decide +kernel, rfl, by decide +kernel, by decide +kernel⟩
theorem b__law_seen {f fd} (D : Def K mg "_law_seen" s__law_seen [] f fd) : Binds K fd ["well", "pieces", "bears"] [] := FunD.bindsN (ps := ["well", "pieces", "bears"]) D.F fun _ _ _ _ _ _ us hl => match us, hl with | [_, _, _], _ => rfl
def m__law_seen (wl : Addr) : MS := (mSeq (mPar2 4 5 (mXda (mC1 oTuple (mBcons (mL (mLc (mRng (mBcons (mC1 oLen (mBcons (mVar 1) mBnil)) mBnil)) (gN 8) mYes (mBin oCatT (mBin oIx (mVar 1) (mVar 8)) (mTup (mDcons (mBin oIx (mVar 2) (mVar 8)) mBnil))) [8])) mBnil)) (mXda (mTup mBnil) mXnil))) (mSeq (mFor (mRng (mBcons (mCall (ph__law_draw wl) (mArw 0 (mAda (mC (.int 6)) mAnil))) mBnil)) (gN 3) (mSeq (mAsg (mSlT (mCall (ph__law_shuffled wl) (mArw 0 (mAda (mCall (ph__law_plain) (mAda (mVar 4) mAnil)) mAnil))) mNo (mSo (mBin o_add (mC (.int 1)) (mCall (ph__law_draw wl) (mArw 0 (mAda (mC1 oLen (mBcons (mVar 4) mBnil)) mAnil)))))) (gN 6)) (mSeq (mAsg (mCall (ph__law_broken) (mAda (mVar 4) (mAda (mVar 6) mAnil))) (gN 7)) (mIf (mTest (mBin o_lt (mC1 oLen (mBcons (mVar 7) mBnil)) (mC (.int 2)))) (mAsg (mBin oCatT (mVar 5) (mTup (mDcons (mTup (mDcons (mVar 6) (mDcons (mIfE (mTest (mBin (oEq true) (mVar 7) (mL (mLst mBnil)))) (mBin oIx (mVar 7) (mC (.int 0))) (mC (.str ""))) mBnil))) mBnil))) (gN 5)) mNext))) [3, 6, 7]) (mSeq (mIf (mAnd (mTest (mBin (oEq true) (mVar 5) (mTup mBnil))) (mTest (mBin (oEq false) (mCall (ph__law_draw wl) (mArw 0 (mAda (mC (.int 5)) mAnil))) (mC (.int 0))))) (mSeq (mAsg (mCall (ph__law_draw wl) (mArw 0 (mAda (mC1 oLen (mBcons (mVar 5) mBnil)) mAnil))) (gN 8)) (mAsg (mCall (ph__law_put) (mAda (mVar 5) (mAda (mVar 8) (mAda (mTup (mDcons (mBin oIx (mBin oIx (mVar 5) (mVar 8)) (mC (.int 0))) (mDcons (mCall (ph__law_of wl) (mArw 0 (mAda (mBin oCatT (mBin oIx (mBin oIx (mVar 5) (mVar 8)) (mC (.int 0))) (mTup (mDcons (mC (.str "")) mBnil))) mAnil))) mBnil))) mAnil)))) (gN 5))) mNext) (mRet (mVar 5)))))
def ph__law_seen (wl : Addr) : Phi := bodyPhi 9 3 (m__law_seen wl)
theorem ok__law_seen {f fd} {wl : Addr} (D_ : Def K mg "_law_seen" s__law_seen [] f fd) {f__law_draw fd__law_draw} (D__law_draw : Def K mg "_law_draw" s__law_draw [] f__law_draw fd__law_draw) (O__law_draw : FnOk P w K mg base CX0 1 f__law_draw fd__law_draw ["well", "limit"] (spG K (vW (tl TL) wl) (gW (tl TL) wl) 2 (ph__law_draw wl))) {f__law_shuffled fd__law_shuffled} (D__law_shuffled : Def K mg "_law_shuffled" s__law_shuffled [] f__law_shuffled fd__law_shuffled) (O__law_shuffled : FnOk P w K mg base CX0 2 f__law_shuffled fd__law_shuffled ["well", "things"] (spG K (vW (tl TL) wl) (gW (tl TL) wl) 2 (ph__law_shuffled wl))) {f__law_plain fd__law_plain} (D__law_plain : Def K mg "_law_plain" s__law_plain [] f__law_plain fd__law_plain) (O__law_plain : FnOk P w K mg base CX0 1 f__law_plain fd__law_plain ["lot"] (spG K (vT (tl TL)) (gT (tl TL)) 1 ph__law_plain)) {f__law_broken fd__law_broken} (D__law_broken : Def K mg "_law_broken" s__law_broken [] f__law_broken fd__law_broken) (O__law_broken : FnOk P w K mg base CX0 3 f__law_broken fd__law_broken ["lot", "stack"] (spG K (vT (tl TL)) (gT (tl TL)) 2 ph__law_broken)) {f__law_put fd__law_put} (D__law_put : Def K mg "_law_put" s__law_put [] f__law_put fd__law_put) (O__law_put : FnOk P w K mg base CX0 1 f__law_put fd__law_put ["row", "at", "thing"] (spG K (vT (tl TL)) (gT (tl TL)) 3 ph__law_put)) {f__law_of fd__law_of} (D__law_of : Def K mg "_law_of" s__law_of [] f__law_of fd__law_of) (O__law_of : FnOk P w K mg base CX0 2 f__law_of fd__law_of ["well", "some"] (spG K (vW (tl TL) wl) (gW (tl TL) wl) 2 (ph__law_of wl))) (B : Blt mg) : FnOk P w K mg base CX0 4 f fd ["well", "pieces", "bears"] (spG K (vW (tl TL) wl) (gW (tl TL) wl) 3 (ph__law_seen wl)) := fnD (gstW (tl TL) wl) D_.F sc__law_seen (by decide) fun cdv A outer s H S E hr => ⟨_, (s_cons (x_par2 4 5 (xa_da (p_tuple B.tuple (b_cons (PO'.toB (o_lc [("k", 8)] sc__law_seen.nd (PIt.toB (i_rng B.range (b_cons (PP.toB (p_len B.len (b_cons (PP.toB (p_var 1)) b_nil))) b_nil))) (blkOk_by (N := ["well", "pieces", "bears", "lap", "lot", "found", "some", "broke", "k"]) (sc := defScope s__law_seen) (by decide +kernel)) (by intro _ _ _ _ _; exact (g_nm 8 sc__law_seen.nd)) (by intro _ _ _ _ _; exact t_nil) (by intro _ _ _ _ _; exact (p_catT (PP.toB (p_ix (PP.toB (p_var 1)) (PP.toB (p_var 8)))) (PP.toB (p_tup (d_cons (p_ix (PP.toB (p_var 2)) (PP.toB (p_var 8))) d_nil))))))) b_nil)) (xa_da (p_tup d_nil) x_pnil)) sc__law_seen.nd) (s_cons (x_for [3, 6, 7] (i_rng B.range (b_cons (PP.toB (p_call O__law_draw Compat.refl (hr.mono (by decide)) D__law_draw.m D__law_draw.F.kp (b__law_draw D__law_draw) (n_rw 0 (n_da p_int n_nil)))) b_nil)) (g_nm 3 sc__law_seen.nd) (s_cons (x_set 6 (p_slT (PP.toB (p_call O__law_shuffled Compat.refl (hr.mono (by decide)) D__law_shuffled.m D__law_shuffled.F.kp (b__law_shuffled D__law_shuffled) (n_rw 0 (n_da (p_call O__law_plain cpW (hr.mono (by decide)) D__law_plain.m D__law_plain.F.kp (b__law_plain D__law_plain) (n_da (p_var 4) n_nil)) n_nil)))) so_none (so_some (p_add (PP.toB p_int) (PP.toB (p_call O__law_draw Compat.refl (hr.mono (by decide)) D__law_draw.m D__law_draw.F.kp (b__law_draw D__law_draw) (n_rw 0 (n_da (p_len B.len (b_cons (PP.toB (p_var 4)) b_nil)) n_nil))))))) sc__law_seen.nd) (s_cons (x_set 7 (p_call O__law_broken cpW (hr.mono (by decide)) D__law_broken.m D__law_broken.F.kp (b__law_broken D__law_broken) (n_da (p_var 4) (n_da (p_var 6) n_nil))) sc__law_seen.nd) (s_one (x_if (q_lt (PP.toB (p_len B.len (b_cons (PP.toB (p_var 7)) b_nil))) (PP.toB p_int)) (s_one (x_set 5 (p_catT (PP.toB (p_var 5)) (PP.toB (p_tup (d_cons (p_tup (d_cons (p_var 6) (d_cons (p_ifE (q_ne hr.units (PP.toB (p_var 7)) (PO'.toB (o_lst d_nil))) (p_ix (PP.toB (p_var 7)) (PP.toB p_int)) p_str) d_nil))) d_nil)))) sc__law_seen.nd)) s_nil))))) (s_cons (x_if (PQW.q (q_and (q_ne hr.units (PP.toB (p_var 5)) (PP.toB (p_tup d_nil))) (q_and1 (q_eq hr.units (PP.toB (p_call O__law_draw Compat.refl (hr.mono (by decide)) D__law_draw.m D__law_draw.F.kp (b__law_draw D__law_draw) (n_rw 0 (n_da p_int n_nil)))) (PP.toB p_int))))) (s_cons (x_set 8 (p_call O__law_draw Compat.refl (hr.mono (by decide)) D__law_draw.m D__law_draw.F.kp (b__law_draw D__law_draw) (n_rw 0 (n_da (p_len B.len (b_cons (PP.toB (p_var 5)) b_nil)) n_nil))) sc__law_seen.nd) (s_one (x_set 5 (p_call O__law_put cpW (hr.mono (by decide)) D__law_put.m D__law_put.F.kp (b__law_put D__law_put) (n_da (p_var 5) (n_da (p_var 8) (n_da (p_tup (d_cons (p_ix (PP.toB (p_ix (PP.toB (p_var 5)) (PP.toB (p_var 8)))) (PP.toB p_int)) (d_cons (p_call O__law_of Compat.refl (hr.mono (by decide)) D__law_of.m D__law_of.F.kp (b__law_of D__law_of) (n_rw 0 (n_da (p_catT (PP.toB (p_ix (PP.toB (p_ix (PP.toB (p_var 5)) (PP.toB (p_var 8)))) (PP.toB p_int))) (PP.toB (p_tup (d_cons p_str d_nil)))) n_nil))) d_nil))) n_nil)))) sc__law_seen.nd))) s_nil) (s_one (x_ret (p_var 5))))))⟩
theorem sc__law_limits : FnScope ["pieces", "seen", "least", "most", "name", "weight", "stack", "broke", "load"] ["pieces", "seen"] (defScope s__law_limits) := ⟨rfl, rfl, rfl, by decide +kernel, rfl, by decide +kernel, by decide +kernel⟩
theorem b__law_limits {f fd} (D : Def K mg "_law_limits" s__law_limits [] f fd) : Binds K fd ["pieces", "seen"] [] := FunD.bindsN (ps := ["pieces", "seen"]) D.F fun _ _ _ _ _ _ us hl => match us, hl with | [_, _], _ => rfl
def m__law_limits (P : Program) (w : World) (K : PySem.W.Frag) : MS := (mSeq (mPar2 2 3 (mXod K (mXod K mXnil))) (mSeq (mFor (mItT (mVar 0)) (gTp 2 (gCs (gN 4) (gCs (gN 5) gNl))) (mOdput2 K 2 3 (mVar 4) (mVar 4) (mC (.int 0)) (mC (.int 999))) [5]) (mSeq (mFor (mItT (mVar 1)) (gTp 2 (gCs (gN 6) (gCs (gN 7) gNl))) (mSeq (mAsg (mC (.int 0)) (gN 8)) (mFor (mItT (mVar 6)) (gN 4) (mSeq (mIf (mTest (mBin (oEq false) (mVar 4) (mVar 7))) (mOdput K 3 (mVar 4) (mC1 oMin2 (mBcons (mOdget K 3 (mVar 4)) (mBcons (mBin o_sub (mVar 8) (mC (.int 1))) mBnil)))) (mOdput K 2 (mVar 4) (mC1 oMax2 (mBcons (mOdget K 2 (mVar 4)) (mBcons (mVar 8) mBnil))))) (mAsg (mBin o_add (mVar 8) (mDget (mDi (mDseq true (mVar 0))) (mVar 4))) (gN 8))) [])) [6, 7, 8]) (mRet (mL (mLc (mItT (mVar 0)) (gTp 2 (gCs (gN 4) (gCs (gN 5) gNl))) mYes (mTup (mDcons (mOdget K 2 (mVar 4)) (mDcons (mOdget K 3 (mVar 4)) mBnil))) [4, 5]))))))
def ph__law_limits : Phi := fun as Q X => ∀ P w K, bodyPhi 9 2 (m__law_limits P w K) as Q X
theorem okP__law_limits {f fd} (D_ : Def K mg "_law_limits" s__law_limits [] f fd) (KTP : TupPl K) (B : Blt mg) : FnOk P w K mg base CX0 1 f fd ["pieces", "seen"] (spG K (vT (tl TL)) (gT (tl TL)) 2 (bodyPhi 9 2 (m__law_limits P w K))) := fnD (gstT (tl TL)) D_.F sc__law_limits (by decide) fun cdv A outer s H S E hr => ⟨_, (s_cons (x_parC 2 3 (xa_od (xa_od x_pnil)) sc__law_limits.nd) (s_cons (x_for [5] (i_tup (p_var 0)) (g_tp (gs_cons (g_nm 4 sc__law_limits.nd) (gs_cons (g_nm 5 sc__law_limits.nd) gs_nil))) (s_one (x_odput2 2 3 hr.u1 (p_var 4) (p_var 4) p_int p_int))) (s_cons (x_for [6, 7, 8] (i_tup (p_var 1)) (g_tp (gs_cons (g_nm 6 sc__law_limits.nd) (gs_cons (g_nm 7 sc__law_limits.nd) gs_nil))) (s_cons (x_set 8 p_int sc__law_limits.nd) (s_one (x_for [] (i_tup (p_var 6)) (g_nm 4 sc__law_limits.nd) (s_cons (x_if (q_eq hr.units (PP.toB (p_var 4)) (PP.toB (p_var 7))) (s_one (x_odput 3 hr.u1 (p_var 4) (p_min2 B.min (b_cons (PP.toB (p_odget 3 hr.u1 (p_var 4))) (b_cons (PP.toB (p_sub (PP.toB (p_var 8)) (PP.toB p_int))) b_nil))))) (s_one (x_odput 2 hr.u1 (p_var 4) (p_max2 B.max (b_cons (PP.toB (p_odget 2 hr.u1 (p_var 4))) (b_cons (PP.toB (p_var 8)) b_nil)))))) (s_one (x_set 8 (p_add (PP.toB (p_var 8)) (PP.toB (p_dget hr.u1 (PP.toB (POd.toP (o_dseq true KTP B.dict (p_var 0)))) (p_var 4)))) sc__law_limits.nd))))))) (s_one (x_ret (PO'.e (o_lc [("name", 4), ("weight", 5)] sc__law_limits.nd (PIt.toB (i_tup (p_var 0))) (blkOk_by (N := ["pieces", "seen", "least", "most", "name", "weight", "stack", "broke", "load"]) (sc := defScope s__law_limits) (by decide +kernel)) (by intro _ _ _ _ _; exact (g_tp (gs_cons (g_nm 4 sc__law_limits.nd) (gs_cons (g_nm 5 sc__law_limits.nd) gs_nil)))) (by intro _ _ _ _ _; exact t_nil) (by intro _ _ _ _ _; exact (p_tup (d_cons (p_odget 2 hr.u1 (p_var 4)) (d_cons (p_odget 3 hr.u1 (p_var 4)) d_nil)))))))))))⟩
theorem ok__law_limits {f fd} (D_ : Def K mg "_law_limits" s__law_limits [] f fd) (KTP : TupPl K) (B : Blt mg) : FnOk P w K mg base CX0 1 f fd ["pieces", "seen"] (spG K (vT (tl TL)) (gT (tl TL)) 2 ph__law_limits) := FnOk.imp (okP__law_limits D_ KTP B) (spG_imp fun as Q X h => h P w K)
theorem sc__law_is_none : FnScope ["act", "e"] ["act"] (defScope s__law_is_none) := ⟨rfl, rfl, rfl, by decide +kernel, rfl, by decide +kernel, by decide +kernel⟩
theorem b__law_is_none {f fd} (D : Def K mg "_law_is_none" s__law_is_none [] f fd) : Binds K fd ["act"] [] := FunD.bindsN (ps := ["act"]) D.F fun _ _ _ _ _ _ us hl => match us, hl with | [_], _ => rfl
theorem sc__law_right : FnScope ["well", "pieces", "own", "seen", "limits", "bad", "first", "drawn", "bears", "lows", "highs", "due", "told", "k", "row", "each", "low", "high"] ["well"] (defScope s__law_right) := ⟨rfl, rfl, rfl, by decide +kernel, rfl, by decide +kernel, by decide +kernel⟩
theorem b__law_right {f fd} (D : Def K mg "_law_right" s__law_right [] f fd) : Binds K fd ["well"] [] := FunD.bindsN (ps := ["well"]) D.F fun _ _ _ _ _ _ us hl => match us, hl with | [_], _ => rfl
def m__law_right (wl : Addr) : MS := (mSeq (mAsg (mCall (ph__law_pieces wl) (mArw 0 (mAda (mC (.int 4)) mAnil))) (gN 1)) (mSeq (mAsg (mC1 oTuple (mBcons (mL (mLc (mItT (mVar 1)) (gN 14) mYes (mCall (ph__law_draw wl) (mArw 0 (mAda (mC (.int 40)) mAnil))) [14])) mBnil)) (gN 2)) (mSeq (mAsg (mCall (ph__law_seen wl) (mArw 0 (mAda (mVar 1) (mAda (mVar 2) mAnil)))) (gN 3)) (mSeq (mAsg (mCall (ph__law_limits) (mAda (mVar 1) (mAda (mVar 3) mAnil))) (gN 4)) (mSeq (mAsg (mL (mLc (mRng (mBcons (mC1 oLen (mBcons (mVar 1) mBnil)) mBnil)) (gN 13) (mTest (mBin o_gt (mBin oIx (mBin oIx (mVar 4) (mVar 13)) (mC (.int 0))) (mBin oIx (mBin oIx (mVar 4) (mVar 13)) (mC (.int 1))))) (mBin oIx (mBin oIx (mVar 1) (mVar 13)) (mC (.int 0))) [13])) (gN 5)) (mSeq (mIf (mTest (mBin (oEq true) (mC1 oRepr (mBcons (mL (mLst (mDcons (mCall (ph_fits) (mAda (mVar 1) (mAda (mVar 3) mAnil))) (mDcons (mCallK ph_fits (mAda (mVar 1) mAnil) (mAda (mVar 3) mAnil)) mBnil)))) mBnil)) (mC1 oRepr (mBcons (mL (mRepL (mLst (mDcons (mBin (oEq false) (mVar 5) (mL (mLst mBnil))) mBnil)) (mC (.int 2)))) mBnil)))) (mRet (mC (.bool false))) mNext) (mSeq (mAsg (mIfE (mTest (mBin (oEq true) (mVar 5) (mL (mLst mBnil)))) (mBin oIx (mVar 5) (mC (.int 0))) (mC .none)) (gN 6)) (mSeq (mIf (mNot (mTest (mCall (ph__law_same) (mAda (mTup (mDcons (mCall (ph_barring_piece) (mAda (mVar 1) (mAda (mVar 3) mAnil))) (mDcons (mCallK ph_barring_piece (mAda (mVar 1) mAnil) (mAda (mVar 3) mAnil)) mBnil))) (mAda (mTup (mDcons (mVar 6) (mDcons (mVar 6) mBnil))) mAnil))))) (mRet (mC (.bool false))) mNext) (mSeq (mPar2 9 10 (mXda (mC1 oTuple (mBcons (mL (mLc (mItL (mVar 4)) (gTp 2 (gCs (gN 16) (gCs (gN 17) gNl))) mYes (mVar 16) [16, 17])) mBnil)) (mXda (mC1 oTuple (mBcons (mL (mLc (mItL (mVar 4)) (gTp 2 (gCs (gN 16) (gCs (gN 17) gNl))) mYes (mVar 17) [16, 17])) mBnil)) mXnil))) (mSeq (mAsg (mC1 oTuple (mBcons (mL (mLc (mItL (mVar 4)) (gTp 2 (gCs (gN 16) (gCs (gN 17) gNl))) mYes (mCall (ph__law_of wl) (mArw 0 (mAda (mTup (mDcons (mVar 16) (mDcons (mVar 17) (mDcons (mBin o_sub (mVar 16) (mC (.int 1))) (mDcons (mBin o_add (mVar 17) (mC (.int 1))) (mDcons (mBin o_add (mVar 16) (mC (.int 1))) mBnil)))))) mAnil))) [16, 17])) mBnil)) (gN 7)) (mSeq (mAsg (mC1 oTuple (mBcons (mL (mLc (mItT (mVar 7)) (gN 15) mYes (mC1 oMax2 (mBcons (mC (.int 0)) (mBcons (mC1 oMin2 (mBcons (mC (.int 999)) (mBcons (mVar 15) mBnil))) mBnil))) [15])) mBnil)) (gN 7)) (mSeq (mFor (mItT (mTup (mDcons (mVar 2) (mDcons (mVar 7) (mDcons (mC1 oTuple (mBcons (mL (mLc (mItT (mVar 10)) (gN 15) mYes (mC1 oMax2 (mBcons (mC (.int 0)) (mBcons (mVar 15) mBnil))) [15])) mBnil)) (mDcons (mC1 oTuple (mBcons (mL (mLc (mItT (mVar 9)) (gN 15) mYes (mC1 oMin2 (mBcons (mC (.int 999)) (mBcons (mVar 15) mBnil))) [15])) mBnil)) mBnil)))))) (gN 8) (mSeq (mAsg (mBin (oEq false) (mL (mLc (mRng (mBcons (mC1 oLen (mBcons (mVar 8) mBnil)) mBnil)) (gN 13) (mNot (mTest (mLeLe (mBin oIx (mBin oIx (mVar 4) (mVar 13)) (mC (.int 0))) (mBin oIx (mVar 8) (mVar 13)) (mBin oIx (mBin oIx (mVar 4) (mVar 13)) (mC (.int 1)))))) (mVar 13) [13])) (mL (mLst mBnil))) (gN 11)) (mIf (mTest (mBin (oEq true) (mC1 oRepr (mBcons (mL (mLst (mDcons (mCall (ph_do_fit) (mAda (mVar 1) (mAda (mVar 3) (mAda (mVar 8) mAnil)))) (mDcons (mCallK ph_do_fit (mAda (mVar 1) (mAda (mVar 3) mAnil)) (mAda (mVar 8) mAnil)) mBnil)))) mBnil)) (mC1 oRepr (mBcons (mL (mLst (mDcons (mVar 11) (mDcons (mVar 11) mBnil)))) mBnil)))) (mRet (mC (.bool false))) mNext)) [8, 11, 15, 13]) (mSeq (mIf (mTest (mBin (oEq true) (mVar 5) (mL (mLst mBnil)))) (mSeq (mSetO 12 (mLst (mDcons (mIsX "NoFit" ph_least_bears (mAda (mVar 1) (mAda (mVar 3) mAnil))) mBnil))) (mSeq (mApp 12 (mIsX "NoFit" ph_greatest_bears (mAda (mVar 1) (mAda (mVar 3) mAnil)))) (mRet (mBin (oEq false) (mVarB 12) (mL (mLst (mDcons (mC (.bool true)) (mDcons (mC (.bool true)) mBnil)))))))) mNext) (mSeq (mIf (mNot (mTest (mCall (ph__law_same) (mAda (mTup (mDcons (mCall (ph_least_bears) (mAda (mVar 1) (mAda (mVar 3) mAnil))) (mDcons (mCallK ph_least_bears (mAda (mVar 1) mAnil) (mAda (mVar 3) mAnil)) mBnil))) (mAda (mTup (mDcons (mVar 9) (mDcons (mVar 9) mBnil))) mAnil))))) (mRet (mC (.bool false))) mNext) (mRet (mCall (ph__law_same) (mAda (mTup (mDcons (mCall (ph_greatest_bears) (mAda (mVar 1) (mAda (mVar 3) mAnil))) (mDcons (mCallK ph_greatest_bears (mAda (mVar 1) mAnil) (mAda (mVar 3) mAnil)) mBnil))) (mAda (mTup (mDcons (mVar 10) (mDcons (mVar 10) mBnil))) mAnil))))))))))))))))))
def ph__law_right (wl : Addr) : Phi := bodyPhi 18 1 (m__law_right wl)
theorem kb_fits_1 {f fd} (D : Def K mg "fits" s_fits [] f fd) : KBn K fd ["pieces", "seen"] 1 ["seen"] (fun us ws => us ++ ws) (fun vs zs => vs ++ zs) := kbN (ps := ["pieces", "seen"]) D.F fun _ _ _ _ _ _ us ws h1 h2 => match us, ws, h1, h2 with | [_], [_], _, _ => rfl
theorem kb_barring_piece_1 {f fd} (D : Def K mg "barring_piece" s_barring_piece [] f fd) : KBn K fd ["pieces", "seen"] 1 ["seen"] (fun us ws => us ++ ws) (fun vs zs => vs ++ zs) := kbN (ps := ["pieces", "seen"]) D.F fun _ _ _ _ _ _ us ws h1 h2 => match us, ws, h1, h2 with | [_], [_], _, _ => rfl
theorem kb_do_fit_2 {f fd} (D : Def K mg "do_fit" s_do_fit [] f fd) : KBn K fd ["pieces", "seen", "bears"] 2 ["bears"] (fun us ws => us ++ ws) (fun vs zs => vs ++ zs) := kbN (ps := ["pieces", "seen", "bears"]) D.F fun _ _ _ _ _ _ us ws h1 h2 => match us, ws, h1, h2 with | [_, _], [_], _, _ => rfl
theorem kb_least_bears_1 {f fd} (D : Def K mg "least_bears" s_least_bears [] f fd) : KBn K fd ["pieces", "seen"] 1 ["seen"] (fun us ws => us ++ ws) (fun vs zs => vs ++ zs) := kbN (ps := ["pieces", "seen"]) D.F fun _ _ _ _ _ _ us ws h1 h2 => match us, ws, h1, h2 with | [_], [_], _, _ => rfl
theorem kb_greatest_bears_1 {f fd} (D : Def K mg "greatest_bears" s_greatest_bears [] f fd) : KBn K fd ["pieces", "seen"] 1 ["seen"] (fun us ws => us ++ ws) (fun vs zs => vs ++ zs) := kbN (ps := ["pieces", "seen"]) D.F fun _ _ _ _ _ _ us ws h1 h2 => match us, ws, h1, h2 with | [_], [_], _, _ => rfl
theorem ok__law_right {f fd} {wl : Addr} (D_ : Def K mg "_law_right" s__law_right [] f fd) {f__law_pieces fd__law_pieces} (D__law_pieces : Def K mg "_law_pieces" s__law_pieces [] f__law_pieces fd__law_pieces) (O__law_pieces : FnOk P w K mg base CX0 5 f__law_pieces fd__law_pieces ["well", "most"] (spG K (vW (tl TL) wl) (gW (tl TL) wl) 2 (ph__law_pieces wl))) {f__law_draw fd__law_draw} (D__law_draw : Def K mg "_law_draw" s__law_draw [] f__law_draw fd__law_draw) (O__law_draw : FnOk P w K mg base CX0 1 f__law_draw fd__law_draw ["well", "limit"] (spG K (vW (tl TL) wl) (gW (tl TL) wl) 2 (ph__law_draw wl))) {f__law_seen fd__law_seen} (D__law_seen : Def K mg "_law_seen" s__law_seen [] f__law_seen fd__law_seen) (O__law_seen : FnOk P w K mg base CX0 4 f__law_seen fd__law_seen ["well", "pieces", "bears"] (spG K (vW (tl TL) wl) (gW (tl TL) wl) 3 (ph__law_seen wl))) {f__law_limits fd__law_limits} (D__law_limits : Def K mg "_law_limits" s__law_limits [] f__law_limits fd__law_limits) (O__law_limits : FnOk P w K mg base CX0 1 f__law_limits fd__law_limits ["pieces", "seen"] (spG K (vT (tl TL)) (gT (tl TL)) 2 ph__law_limits)) {f_fits fd_fits} (D_fits : Def K mg "fits" s_fits [] f_fits fd_fits) (O_fits : FnOk P w K mg base CX0 16 f_fits fd_fits ["pieces", "seen"] (spG K (vT (tl TL)) (gT (tl TL)) 2 ph_fits)) {f__law_same fd__law_same} (D__law_same : Def K mg "_law_same" s__law_same [] f__law_same fd__law_same) (O__law_same : FnOk P w K mg base CX0 5 f__law_same fd__law_same ["one", "two"] (spG K (vT (tl TL)) (gT (tl TL)) 2 ph__law_same)) {f_barring_piece fd_barring_piece} (D_barring_piece : Def K mg "barring_piece" s_barring_piece [] f_barring_piece fd_barring_piece) (O_barring_piece : FnOk P w K mg base CX0 16 f_barring_piece fd_barring_piece ["pieces", "seen"] (spG K (vT (tl TL)) (gT (tl TL)) 2 ph_barring_piece)) {f__law_of fd__law_of} (D__law_of : Def K mg "_law_of" s__law_of [] f__law_of fd__law_of) (O__law_of : FnOk P w K mg base CX0 2 f__law_of fd__law_of ["well", "some"] (spG K (vW (tl TL) wl) (gW (tl TL) wl) 2 (ph__law_of wl))) {f_do_fit fd_do_fit} (D_do_fit : Def K mg "do_fit" s_do_fit [] f_do_fit fd_do_fit) (O_do_fit : FnOk P w K mg base CX0 16 f_do_fit fd_do_fit ["pieces", "seen", "bears"] (spG K (vT (tl TL)) (gT (tl TL)) 3 ph_do_fit)) {f_least_bears fd_least_bears} (D_least_bears : Def K mg "least_bears" s_least_bears [] f_least_bears fd_least_bears) (O_least_bears : FnOk P w K mg base (L2.CX P w) 16 f_least_bears fd_least_bears ["pieces", "seen"] (spG K (vT (tl TL)) (gT (tl TL)) 2 ph_least_bears)) {f_greatest_bears fd_greatest_bears} (D_greatest_bears : Def K mg "greatest_bears" s_greatest_bears [] f_greatest_bears fd_greatest_bears) (O_greatest_bears : FnOk P w K mg base (L2.CX P w) 16 f_greatest_bears fd_greatest_bears ["pieces", "seen"] (spG K (vT (tl TL)) (gT (tl TL)) 2 ph_greatest_bears)) {f__law_is_none fd__law_is_none} (D__law_is_none : Def K mg "_law_is_none" s__law_is_none [] f__law_is_none fd__law_is_none) (N_NoFit : NoneC K (He.ga K "StackError") (He.ga K "NoFit")) (E_StackError : mg ("StackError" : Str) = some (.ref (He.ga K "StackError"))) (E_NoFit : mg ("NoFit" : Str) = some (.ref (He.ga K "NoFit"))) (E_ValueError : mg ("ValueError" : Str) = none) (M_ : Mk base mg (tl TL) fd "_law_right.<locals>.<lambda>") (B : Blt mg) : FnG P w K mg base 19 f fd ["well"] (spG K (vW (tl TL) wl) (gW (tl TL) wl) 1 (ph__law_right wl)) := fnG (gstW (tl TL) wl) D_.F sc__law_right (by decide) fun cdv A outer s H S hcd hgd hr => ⟨_, (s_cons (x_set 1 (p_call O__law_pieces Compat.refl (hr.mono (by decide)) D__law_pieces.m D__law_pieces.F.kp (b__law_pieces D__law_pieces) (n_rw 0 (n_da p_int n_nil))) sc__law_right.nd) (s_cons (x_set 2 (p_tuple B.tuple (b_cons (PO'.toB (o_lc [("row", 14)] sc__law_right.nd (PIt.toB (i_tup (p_var 1))) (blkOk_by (N := ["well", "pieces", "own", "seen", "limits", "bad", "first", "drawn", "bears", "lows", "highs", "due", "told", "k", "row", "each", "low", "high"]) (sc := defScope s__law_right) (by decide +kernel)) (by intro _ _ _ _ _; exact (g_nm 14 sc__law_right.nd)) (by intro _ _ _ _ _; exact t_nil) (by intro _ _ _ _ _; exact (p_call O__law_draw Compat.refl (hr.mono (by decide)) D__law_draw.m D__law_draw.F.kp (b__law_draw D__law_draw) (n_rw 0 (n_da p_int n_nil)))))) b_nil)) sc__law_right.nd) (s_cons (x_set 3 (p_call O__law_seen Compat.refl (hr.mono (by decide)) D__law_seen.m D__law_seen.F.kp (b__law_seen D__law_seen) (n_rw 0 (n_da (p_var 1) (n_da (p_var 2) n_nil)))) sc__law_right.nd) (s_cons (x_set 4 (p_call O__law_limits cpW (hr.mono (by decide)) D__law_limits.m D__law_limits.F.kp (b__law_limits D__law_limits) (n_da (p_var 1) (n_da (p_var 3) n_nil))) sc__law_right.nd) (s_cons (x_setLc 5 [("k", 13)] sc__law_right.nd (PIt.toB (i_rng B.range (b_cons (PP.toB (p_len B.len (b_cons (PP.toB (p_var 1)) b_nil))) b_nil))) (blkOk_by (N := ["well", "pieces", "own", "seen", "limits", "bad", "first", "drawn", "bears", "lows", "highs", "due", "told", "k", "row", "each", "low", "high"]) (sc := defScope s__law_right) (by decide +kernel)) (by intro _ _ _ _ _; exact (g_nm 13 sc__law_right.nd)) (by intro _ _ _ _ _; exact (t_one (q_gt (PP.toB (p_ix (PP.toB (p_ix (PP.toB (p_var 4)) (PP.toB (p_var 13)))) (PP.toB p_int))) (PP.toB (p_ix (PP.toB (p_ix (PP.toB (p_var 4)) (PP.toB (p_var 13)))) (PP.toB p_int)))))) (by intro _ _ _ _ _; exact (p_ix (PP.toB (p_ix (PP.toB (p_var 1)) (PP.toB (p_var 13)))) (PP.toB p_int))) (sw_true rfl rfl rfl (by decide +kernel))) (s_cons (x_if (q_ne hr.units (PP.toB (p_repr B.repr hgd hr.units (b_cons (PO'.toB (o_lst (d_cons (p_call O_fits cpW (hr.mono (by decide)) D_fits.m D_fits.F.kp (b_fits D_fits) (n_da (p_var 1) (n_da (p_var 3) n_nil))) (d_cons (p_callK (n := 1) (ks := ["seen"]) O_fits cpW (hr.mono (by decide)) D_fits.m D_fits.F.kp (kb_fits_1 D_fits) (n_da (p_var 1) n_nil) (k_da (p_var 3) k_nil)) d_nil)))) b_nil))) (PP.toB (p_repr B.repr hgd hr.units (b_cons (PO'.toB (o_repL (o_lst (d_cons (p_eq hr.units (PP.toB (p_var 5)) (PO'.toB (o_lst d_nil))) d_nil)) p_int)) b_nil)))) (s_one (x_ret p_bool)) s_nil) (s_cons (x_set 6 (p_ifE (q_ne hr.units (PP.toB (p_var 5)) (PO'.toB (o_lst d_nil))) (p_ix (PP.toB (p_var 5)) (PP.toB p_int)) p_none) sc__law_right.nd) (s_cons (x_if (q_not (q_val (PP.toB (p_call O__law_same cpW (hr.mono (by decide)) D__law_same.m D__law_same.F.kp (b__law_same D__law_same) (n_da (p_tup (d_cons (p_call O_barring_piece cpW (hr.mono (by decide)) D_barring_piece.m D_barring_piece.F.kp (b_barring_piece D_barring_piece) (n_da (p_var 1) (n_da (p_var 3) n_nil))) (d_cons (p_callK (n := 1) (ks := ["seen"]) O_barring_piece cpW (hr.mono (by decide)) D_barring_piece.m D_barring_piece.F.kp (kb_barring_piece_1 D_barring_piece) (n_da (p_var 1) n_nil) (k_da (p_var 3) k_nil)) d_nil))) (n_da (p_tup (d_cons (p_var 6) (d_cons (p_var 6) d_nil))) n_nil)))))) (s_one (x_ret p_bool)) s_nil) (s_cons (x_par2 9 10 (xa_da (p_tuple B.tuple (b_cons (PO'.toB (o_lc [("low", 16), ("high", 17)] sc__law_right.nd (PIt.toB (i_list (p_var 4))) (blkOk_by (N := ["well", "pieces", "own", "seen", "limits", "bad", "first", "drawn", "bears", "lows", "highs", "due", "told", "k", "row", "each", "low", "high"]) (sc := defScope s__law_right) (by decide +kernel)) (by intro _ _ _ _ _; exact (g_tp (gs_cons (g_nm 16 sc__law_right.nd) (gs_cons (g_nm 17 sc__law_right.nd) gs_nil)))) (by intro _ _ _ _ _; exact t_nil) (by intro _ _ _ _ _; exact (p_var 16)))) b_nil)) (xa_da (p_tuple B.tuple (b_cons (PO'.toB (o_lc [("low", 16), ("high", 17)] sc__law_right.nd (PIt.toB (i_list (p_var 4))) (blkOk_by (N := ["well", "pieces", "own", "seen", "limits", "bad", "first", "drawn", "bears", "lows", "highs", "due", "told", "k", "row", "each", "low", "high"]) (sc := defScope s__law_right) (by decide +kernel)) (by intro _ _ _ _ _; exact (g_tp (gs_cons (g_nm 16 sc__law_right.nd) (gs_cons (g_nm 17 sc__law_right.nd) gs_nil)))) (by intro _ _ _ _ _; exact t_nil) (by intro _ _ _ _ _; exact (p_var 17)))) b_nil)) x_pnil)) sc__law_right.nd) (s_cons (x_set 7 (p_tuple B.tuple (b_cons (PO'.toB (o_lc [("low", 16), ("high", 17)] sc__law_right.nd (PIt.toB (i_list (p_var 4))) (blkOk_by (N := ["well", "pieces", "own", "seen", "limits", "bad", "first", "drawn", "bears", "lows", "highs", "due", "told", "k", "row", "each", "low", "high"]) (sc := defScope s__law_right) (by decide +kernel)) (by intro _ _ _ _ _; exact (g_tp (gs_cons (g_nm 16 sc__law_right.nd) (gs_cons (g_nm 17 sc__law_right.nd) gs_nil)))) (by intro _ _ _ _ _; exact t_nil) (by intro _ _ _ _ _; exact (p_call O__law_of Compat.refl (hr.mono (by decide)) D__law_of.m D__law_of.F.kp (b__law_of D__law_of) (n_rw 0 (n_da (p_tup (d_cons (p_var 16) (d_cons (p_var 17) (d_cons (p_sub (PP.toB (p_var 16)) (PP.toB p_int)) (d_cons (p_add (PP.toB (p_var 17)) (PP.toB p_int)) (d_cons (p_add (PP.toB (p_var 16)) (PP.toB p_int)) d_nil)))))) n_nil)))))) b_nil)) sc__law_right.nd) (s_cons (x_set 7 (p_tuple B.tuple (b_cons (PO'.toB (o_lc [("each", 15)] sc__law_right.nd (PIt.toB (i_tup (p_var 7))) (blkOk_by (N := ["well", "pieces", "own", "seen", "limits", "bad", "first", "drawn", "bears", "lows", "highs", "due", "told", "k", "row", "each", "low", "high"]) (sc := defScope s__law_right) (by decide +kernel)) (by intro _ _ _ _ _; exact (g_nm 15 sc__law_right.nd)) (by intro _ _ _ _ _; exact t_nil) (by intro _ _ _ _ _; exact (p_max2 B.max (b_cons (PP.toB p_int) (b_cons (PP.toB (p_min2 B.min (b_cons (PP.toB p_int) (b_cons (PP.toB (p_var 15)) b_nil)))) b_nil)))))) b_nil)) sc__law_right.nd) (s_cons (x_for [8, 11, 15, 13] (i_tup (p_tup (d_cons (p_var 2) (d_cons (p_var 7) (d_cons (p_tuple B.tuple (b_cons (PO'.toB (o_lc [("each", 15)] sc__law_right.nd (PIt.toB (i_tup (p_var 10))) (blkOk_by (N := ["well", "pieces", "own", "seen", "limits", "bad", "first", "drawn", "bears", "lows", "highs", "due", "told", "k", "row", "each", "low", "high"]) (sc := defScope s__law_right) (by decide +kernel)) (by intro _ _ _ _ _; exact (g_nm 15 sc__law_right.nd)) (by intro _ _ _ _ _; exact t_nil) (by intro _ _ _ _ _; exact (p_max2 B.max (b_cons (PP.toB p_int) (b_cons (PP.toB (p_var 15)) b_nil)))))) b_nil)) (d_cons (p_tuple B.tuple (b_cons (PO'.toB (o_lc [("each", 15)] sc__law_right.nd (PIt.toB (i_tup (p_var 9))) (blkOk_by (N := ["well", "pieces", "own", "seen", "limits", "bad", "first", "drawn", "bears", "lows", "highs", "due", "told", "k", "row", "each", "low", "high"]) (sc := defScope s__law_right) (by decide +kernel)) (by intro _ _ _ _ _; exact (g_nm 15 sc__law_right.nd)) (by intro _ _ _ _ _; exact t_nil) (by intro _ _ _ _ _; exact (p_min2 B.min (b_cons (PP.toB p_int) (b_cons (PP.toB (p_var 15)) b_nil)))))) b_nil)) d_nil)))))) (g_nm 8 sc__law_right.nd) (s_cons (x_set 11 (p_eq hr.units (PO'.toB (o_lc [("k", 13)] sc__law_right.nd (PIt.toB (i_rng B.range (b_cons (PP.toB (p_len B.len (b_cons (PP.toB (p_var 8)) b_nil))) b_nil))) (blkOk_by (N := ["well", "pieces", "own", "seen", "limits", "bad", "first", "drawn", "bears", "lows", "highs", "due", "told", "k", "row", "each", "low", "high"]) (sc := defScope s__law_right) (by decide +kernel)) (by intro _ _ _ _ _; exact (g_nm 13 sc__law_right.nd)) (by intro _ _ _ _ _; exact (t_one (q_not (q_leLe (PP.toB (p_ix (PP.toB (p_ix (PP.toB (p_var 4)) (PP.toB (p_var 13)))) (PP.toB p_int))) (PP.toB (p_ix (PP.toB (p_var 8)) (PP.toB (p_var 13)))) (PP.toB (p_ix (PP.toB (p_ix (PP.toB (p_var 4)) (PP.toB (p_var 13)))) (PP.toB p_int))))))) (by intro _ _ _ _ _; exact (p_var 13)))) (PO'.toB (o_lst d_nil))) sc__law_right.nd) (s_one (x_if (q_ne hr.units (PP.toB (p_repr B.repr hgd hr.units (b_cons (PO'.toB (o_lst (d_cons (p_call O_do_fit cpW (hr.mono (by decide)) D_do_fit.m D_do_fit.F.kp (b_do_fit D_do_fit) (n_da (p_var 1) (n_da (p_var 3) (n_da (p_var 8) n_nil)))) (d_cons (p_callK (n := 2) (ks := ["bears"]) O_do_fit cpW (hr.mono (by decide)) D_do_fit.m D_do_fit.F.kp (kb_do_fit_2 D_do_fit) (n_da (p_var 1) (n_da (p_var 3) n_nil)) (k_da (p_var 8) k_nil)) d_nil)))) b_nil))) (PP.toB (p_repr B.repr hgd hr.units (b_cons (PO'.toB (o_lst (d_cons (p_var 11) (d_cons (p_var 11) d_nil)))) b_nil)))) (s_one (x_ret p_bool)) s_nil)))) (s_cons (x_if (q_ne hr.units (PP.toB (p_var 5)) (PO'.toB (o_lst d_nil))) (s_cons (x_setO 12 (o_lst (d_cons (p_isx (es := [.Name "pieces" ⟨0, 0, 0, 0⟩, .Name "seen" ⟨0, 0, 0, 0⟩]) rfl rfl (refT_pe M_ hcd.symm rfl D__law_is_none.F D__law_is_none.m (b__law_is_none D__law_is_none) sc__law_is_none (fun _ => none_gives (a := "act") N_NoFit rfl E_StackError rfl rfl E_NoFit rfl rfl B.isinstance rfl E_ValueError rfl rfl (by decide)) (hr.mono (by decide)) (lamS_by (sc := defScope s__law_right) (by decide +kernel)) rfl (fun _ _ _ _ _ => rfl) (ref_body O_least_bears (Nat.le_refl _) D_least_bears.m D_least_bears.F.kp (b_least_bears D_least_bears) rfl (fun _ _ _ _ _ _ _ => (pa_cons (pe_var (i := 1) rfl (Or.inr (Or.inr rfl)) (by decide) (by decide)) (pa_cons (pe_var (i := 3) rfl (Or.inr (Or.inr rfl)) (by decide) (by decide)) pa_nil))) (by decide) (fun _ => rfl) (fun _ => rfl))) (n_da (p_var 1) (n_da (p_var 3) n_nil))) d_nil)) sc__law_right.nd) (s_cons (x_app 12 (p_isx (es := [.Name "pieces" ⟨0, 0, 0, 0⟩, .Name "seen" ⟨0, 0, 0, 0⟩]) rfl rfl (refT_pe M_ hcd.symm rfl D__law_is_none.F D__law_is_none.m (b__law_is_none D__law_is_none) sc__law_is_none (fun _ => none_gives (a := "act") N_NoFit rfl E_StackError rfl rfl E_NoFit rfl rfl B.isinstance rfl E_ValueError rfl rfl (by decide)) (hr.mono (by decide)) (lamS_by (sc := defScope s__law_right) (by decide +kernel)) rfl (fun _ _ _ _ _ => rfl) (ref_body O_greatest_bears (Nat.le_refl _) D_greatest_bears.m D_greatest_bears.F.kp (b_greatest_bears D_greatest_bears) rfl (fun _ _ _ _ _ _ _ => (pa_cons (pe_var (i := 1) rfl (Or.inr (Or.inr rfl)) (by decide) (by decide)) (pa_cons (pe_var (i := 3) rfl (Or.inr (Or.inr rfl)) (by decide) (by decide)) pa_nil))) (by decide) (fun _ => rfl) (fun _ => rfl))) (n_da (p_var 1) (n_da (p_var 3) n_nil)))) (s_one (x_ret (p_eq hr.units (p_varB 12) (PO'.toB (o_lst (d_cons p_bool (d_cons p_bool d_nil))))))))) s_nil) (s_cons (x_if (q_not (q_val (PP.toB (p_call O__law_same cpW (hr.mono (by decide)) D__law_same.m D__law_same.F.kp (b__law_same D__law_same) (n_da (p_tup (d_cons (p_call0 O_least_bears cpW (hr.mono (by decide)) D_least_bears.m D_least_bears.F.kp (b_least_bears D_least_bears) (n_da (p_var 1) (n_da (p_var 3) n_nil))) (d_cons (p_callK0 (n := 1) (ks := ["seen"]) O_least_bears cpW (hr.mono (by decide)) D_least_bears.m D_least_bears.F.kp (kb_least_bears_1 D_least_bears) (n_da (p_var 1) n_nil) (k_da (p_var 3) k_nil)) d_nil))) (n_da (p_tup (d_cons (p_var 9) (d_cons (p_var 9) d_nil))) n_nil)))))) (s_one (x_ret p_bool)) s_nil) (s_one (x_ret (p_call O__law_same cpW (hr.mono (by decide)) D__law_same.m D__law_same.F.kp (b__law_same D__law_same) (n_da (p_tup (d_cons (p_call0 O_greatest_bears cpW (hr.mono (by decide)) D_greatest_bears.m D_greatest_bears.F.kp (b_greatest_bears D_greatest_bears) (n_da (p_var 1) (n_da (p_var 3) n_nil))) (d_cons (p_callK0 (n := 1) (ks := ["seen"]) O_greatest_bears cpW (hr.mono (by decide)) D_greatest_bears.m D_greatest_bears.F.kp (kb_greatest_bears_1 D_greatest_bears) (n_da (p_var 1) n_nil) (k_da (p_var 3) k_nil)) d_nil))) (n_da (p_tup (d_cons (p_var 10) (d_cons (p_var 10) d_nil))) n_nil)))))))))))))))))))⟩
theorem sc_law : FnScope ["script", "wells", "lap", "k"] ["script"] (defScope s_law) := ⟨rfl, rfl, rfl, by decide +kernel, rfl, by decide +kernel, by decide +kernel⟩
theorem ok_law {f fd f_w fd_w f_r fd_r} (D_ : Def K mg "law" s_law [] f fd) (D_w : Def K mg "_law_well" s__law_well [] f_w fd_w) (O_w : FnOk P w K mg base CX0 1 f_w fd_w ["script", "lap"] (spGO K (vT (tl TL)) (gT (tl TL)) 2 ph__law_well))
    (D_r : Def K mg "_law_right" s__law_right [] f_r fd_r) (O_r : ∀ wl, FnG P w K mg base 19 f_r fd_r ["well"] (spG K (vW (tl TL) wl) (gW (tl TL) wl) 1 (ph__law_right wl))) (B : Blt mg)
    (hw : ∀ (ns : List Int) (lap : Int), ns.length ≤ 63 → lap = 0 ∨ lap = 1 → ph__law_well [.da (.list (allI ns)), .da (.int lap)] oneWell) (hR : ∀ wl, ph__law_right wl [.rw (.ref wl)] (fun d => d = .bool true) (fun _ => False)) :
    FnG P w K mg base 20 f fd ["script"] (spLaw K (tl TL)) := by
  refine fnGs D_.F sc_law (fun vs H Q E h => by obtain ⟨a, ns, rfl, _⟩ := h; rfl) fun cdv A outer s H vs Q hgd hr h => ⟨_, ?_, law_run (n := 16) (N0 := 16) rfl (by decide) h hw hR⟩
  have Og := spRight_of (T := (tl TL)) (Φ := ph__law_right) fun wl => O_r wl
  refine pss_cons (ps_set (i := 1) sc_law.nd rfl (Or.inr rfl) (pe_lc (own := [("lap", 2)]) (g := gName 2) (tt := tYes) rfl sc_law.nd (pi_range1 rfl B.range (pa_cons pe_int pa_nil)) (blkOk_by (N := ["script", "wells", "lap", "k"]) (sc := defScope s_law) (by decide +kernel)) (fun _ _ _ _ _ => pg_name sc_law.nd rfl (Or.inl rfl)) (fun _ _ _ _ _ => pts_nil) ?e1)) (pss_one (ps_ret (pe_callB (cr_all rfl) rfl B.all PyProof.Rows.boot_all (pa_cons (pe_lc (own := [("k", 3)]) (g := gName 3) (tt := tYes) rfl sc_law.nd (pi_range1 rfl B.range (pa_cons pe_int pa_nil)) (blkOk_by (N := ["script", "wells", "lap", "k"]) (sc := defScope s_law) (by decide +kernel)) (fun _ _ _ _ _ => pg_name sc_law.nd rfl (Or.inl rfl)) (fun _ _ _ _ _ => pts_nil) ?e2) pa_nil))))
  case e1 =>
    intro s' H' Ca cl fp
    exact pe_call O_w (hr.mono (by decide)) rfl D_w.m D_w.F.kp (b__law_well D_w) .nil pass0 (pa_cons (pe_var (i := 0) rfl (by first | exact Or.inl rfl | exact Or.inr (Or.inl rfl) | exact Or.inr (Or.inr rfl)) (by decide) (by decide)) (pa_cons (pe_var (i := 2) rfl (Or.inl rfl) (by decide) (by decide)) pa_nil))
  case e2 =>
    intro s' H' Ca cl fp
    exact pe_callG Og hr hgd rfl D_r.m D_r.F.kp (b__law_right D_r) (pa_cons (pe_ix ix_seq (pe_var (i := 1) rfl (by first | exact Or.inl rfl | exact Or.inr (Or.inl rfl) | exact Or.inr (Or.inr rfl)) (by decide) (by decide)) (pe_op op_mod (pe_callTy call_int1 rfl B.int PyProof.Rows.boot_int (pa_cons (pe_var (i := 3) rfl (Or.inl rfl) (by decide) (by decide)) pa_nil)) pe_int) (fun _ _ => rfl)) pa_nil) (by decide) rfl rfl

end
end K75

set_option Elab.async false
set_option linter.all false
set_option maxRecDepth 100000
set_option maxHeartbeats 4000000
namespace K75
open PySem PySem.Spec L2 Pu Pl
open PyProof.Rows hiding St
local macro_rules | `(tactic| walk_at "px1") => `(tactic| first
  | (with_reducible refine w_seq ?_)
  | (with_reducible refine w_nx ?_)
  | (with_reducible refine w_rt ?_)
  | (with_reducible refine w_next ?_)
  | (with_reducible refine w_ret ?_)
  | (with_reducible refine w_retN ?_)
  | (with_reducible refine w_do ?_)
  | (with_reducible refine w_if ?_)
  | (with_reducible refine w_asgN ?_)
  | (with_reducible refine w_asg ?_)
  | (with_reducible refine w_gn ?_)
  | (with_reducible refine w_gcs ?_)
  | (with_reducible refine w_gnl ?_)
  | (with_reducible refine w_setO ?_)
  | (with_reducible refine w_par2 ?_)
  | (with_reducible refine w_par3 ?_)
  | (with_reducible refine w_ex2 ?_)
  | (with_reducible refine w_ex3 ?_)
  | (with_reducible refine w_xnil ?_)
  | (with_reducible refine w_xda ?_)
  | (with_reducible refine w_xow ?_)
  | (with_reducible refine w_test ?_)
  | (with_reducible refine w_exb ?_)
  | (with_reducible refine w_and ?_)
  | (with_reducible refine w_or ?_)
  | (with_reducible refine w_not ?_)
  | (with_reducible refine w_andV ?_)
  | (with_reducible refine w_orV ?_)
  | (with_reducible refine w_notV ?_)
  | (with_reducible refine w_ifE ?_)
  | (with_reducible refine w_ifT ?_)
  | (with_reducible refine w_ifF ?_)
  | (with_reducible refine w_ifNT ?_)
  | (with_reducible refine w_ifNF ?_)
  | (with_reducible refine w_isi ?_)
  | (with_reducible refine w_c ?_)
  | (with_reducible refine w_bin ?_)
  | (with_reducible refine w_oI ?_)
  | (with_reducible refine w_L ?_)
  | (with_reducible refine w_anil ?_)
  | (with_reducible refine w_ada ?_)
  | (with_reducible refine w_bnil ?_)
  | (with_reducible refine w_bcons ?_)
  | (with_reducible refine w_dcons ?_)
  | (with_reducible refine w_ndI ?_)
  | (with_reducible refine w_ndS ?_)
  | (with_reducible refine w_ndB ?_)
  | (with_reducible refine w_ndN ?_)
  | (with_reducible refine w_ndT ?_)
  | (with_reducible refine w_ndL ?_)
  | (with_reducible refine w_tup ?_)
  | (with_reducible refine w_lst ?_)
  | (with_reducible refine w_len0 ?_)
  | (with_reducible refine w_len1 ?_)
  | (with_reducible refine w_len2 ?_)
  | (with_reducible refine w_len3 ?_)
  | (with_reducible refine w_len4 ?_)
  | (with_reducible refine w_len5 ?_)
  | (with_reducible refine w_len6 ?_)
  | (with_reducible refine w_len7 ?_)
  | (with_reducible refine w_ltS ?_)
  | (with_reducible refine w_isN0 ?_)
  | (with_reducible refine w_isNi ?_)
  | (with_reducible refine w_isNs ?_)
  | (with_reducible refine w_isNt ?_)
  | (with_reducible refine w_noN0 ?_)
  | (with_reducible refine w_noNi ?_)
  | (with_reducible refine w_noNs ?_)
  | (with_reducible refine w_noNt ?_)
  | (with_reducible refine w_c1 ?_)
  | (with_reducible refine w_co ?_)
  | (with_reducible refine w_lenT ?_)
  | (with_reducible refine w_lenL ?_)
  | (with_reducible refine w_int ?_)
  | (with_reducible refine w_max2 ?_)
  | (with_reducible refine w_min2 ?_)
  | (with_reducible refine w_tupL ?_)
  | (with_reducible refine w_tupT ?_)
  | (with_reducible refine w_listL ?_)
  | (with_reducible refine w_listT ?_)
  | (with_reducible refine w_neg1 ?_)
  | (with_reducible refine w_un ?_)
  | (with_reducible refine w_call ?_)
  | (with_reducible refine w_callD ?_)
  | (with_reducible refine w_callK ?_)
  | (with_reducible refine w_callC ?_)
  | (with_reducible refine w_itL ?_)
  | (with_reducible refine w_itT ?_)
  | (with_reducible refine w_exl ?_)
  | (with_reducible refine w_ext' ?_)
  | (with_reducible refine w_rng ?_)
  | (with_reducible refine w_rng2 ?_)
  | (with_reducible refine w_rng3 ?_)
  | (with_reducible refine w_for ?_)
  | (with_reducible refine w_lc ?_)
  | (with_reducible refine w_lc2 ?_)
  | (with_reducible refine w_yes ?_)
  | (with_reducible refine w_dc ?_)
  | (with_reducible refine w_di ?_)
  | (with_reducible refine w_kydS ?_)
  | (with_reducible refine w_kydI ?_)
  | (with_reducible refine w_dget ?_)
  | (with_reducible refine w_en ?_)
  | (with_reducible refine w_enT ?_)
  | (with_reducible refine w_enL ?_)
  | (with_reducible refine w_zip ?_)
  | (with_reducible refine w_zTT ?_)
  | (with_reducible refine w_zTL ?_)
  | (with_reducible refine w_zLT ?_)
  | (with_reducible refine w_zLL ?_)
  | (with_reducible refine w_catL ?_)
  | (with_reducible refine w_idxT ?_)
  | (with_reducible refine w_no ?_)
  | (with_reducible refine w_exi ?_)
  | (with_reducible refine w_so ?_)
  | (with_reducible refine w_slT ?_)
  | (with_reducible refine w_slL ?_)
  | (with_reducible refine w_leLe ?_)
  | (with_reducible refine w_exs ?_)
  | (with_reducible refine w_itS ?_)
  | (with_reducible refine w_exii ?_)
  | (with_reducible refine w_ex1i ?_)
  | (with_reducible refine w_ex2i ?_)
  | (with_reducible refine w_ex3i ?_)
  | (with_reducible refine w_exll ?_)
  | (with_reducible refine w_seqO ?_)
  | (with_reducible refine w_absI ?_)
  | (with_reducible refine w_split ?_)
  | (with_reducible refine w_repL ?_)
  | (with_reducible refine w_eqI ?_)
  | (with_reducible refine w_neI ?_)
  | (with_reducible refine w_eqBtt ?_)
  | (with_reducible refine w_eqBtf ?_)
  | (with_reducible refine w_eqBft ?_)
  | (with_reducible refine w_eqBff ?_)
  | (with_reducible refine w_neBtt ?_)
  | (with_reducible refine w_neBtf ?_)
  | (with_reducible refine w_neBft ?_)
  | (with_reducible refine w_neBff ?_)
  | (with_reducible refine w_eqB ?_)
  | (with_reducible refine w_neB ?_)
  | (with_reducible refine w_eqLL ?_)
  | (with_reducible refine w_neLL ?_)
  | (with_reducible refine w_eqTT ?_)
  | (with_reducible refine w_eqIN ?_)
  | (with_reducible refine w_inT ?_)
  | (with_reducible refine w_inL ?_)
  | (with_reducible refine w_niT ?_)
  | (with_reducible refine w_niL ?_)
  | (with_reducible refine w_ni0 ?_)
  | (with_reducible refine w_in0 ?_)
  | (with_reducible refine w_all ?_)
  | (with_reducible refine w_sum ?_)
  | (with_reducible refine w_callL ?_)
  | (with_reducible refine w_dzip ?_)
  | (with_reducible refine w_dseq ?_)
  | (with_reducible refine w_keyS ?_)
  | (with_reducible refine w_xod ?_)
  | (with_reducible refine w_isx ?_)
  | (with_reducible refine w_callX ?_)
  | (with_reducible refine w_raise0 ?_)
  | ((with_reducible refine' w_frz ?pxg ?_); (case pxg => exact rfl))
  | ((with_reducible refine' w_app ?pxg ?_); (case pxg => exact rfl))
  | ((with_reducible refine' w_ext ?pxg ?_); (case pxg => exact rfl))
  | ((with_reducible refine' w_aug ?pxg ?_); (case pxg => exact rfl))
  | ((with_reducible refine' w_var ?pxg ?_); (case pxg => exact rfl))
  | ((with_reducible refine' w_varB ?pxg ?_); (case pxg => exact rfl))
  | ((with_reducible refine' w_varBo ?pxg ?_); (case pxg => exact rfl))
  | ((with_reducible refine' w_varBd ?pxg ?_); (case pxg => exact rfl))
  | ((with_reducible refine' w_arw ?pxg ?_); (case pxg => exact rfl))
  | ((with_reducible refine' w_clo ?pxg ?_); (case pxg => exact rfl))
  | ((with_reducible refine' w_ixT ?pxg ?_); (case pxg => exact rfl))
  | ((with_reducible refine' w_ixL ?pxg ?_); (case pxg => exact rfl))
  | ((with_reducible refine' w_gtp ?pxg ?_); (case pxg => exact rfl))
  | ((with_reducible refine' w_gtpl ?pxg ?_); (case pxg => exact rfl))
  | ((with_reducible refine' w_odget ?pxg ?_); (case pxg => exact rfl))
  | ((with_reducible refine' w_odput ?pxg ?_); (case pxg => exact rfl))
  | ((with_reducible refine' w_ty ?pxg ?_); (case pxg => first | exact ty_int_int _ | exact ty_int_bool _ | exact ty_int_tup _ | exact ty_int_str _ | exact ty_tup_tup _ | exact ty_tup_int _ | exact ty_tup_bool _ | exact ty_tup_str _ | exact ty_str_tup _ | exact ty_str_str _ | exact ty_str_int _ | exact ty_str_bool _ | exact ty_none_tup | exact ty_none_int | exact ty_none_bool | exact ty_none_str | exact ty_bool_tup _ | exact ty_bool_int _ | exact ty_bool_bool _ | exact ty_bool_str _)))
local macro_rules | `(tactic| walk_at "px") => `(tactic| repeat walk_at "px1")

theorem stksL_len5 {L : List Crt} (h5 : L.length ≤ 5) (k : Nat) (hk : k ≤ 5) : (Pm.stks (nms L) k).length ≤ 3125 := by
  refine Nat.le_trans (Pm.stks_len (n := 5) (by rw [nms, List.length_map]; exact h5)) ?_
  have : 5 ^ k ≤ 5 ^ 5 := Nat.pow_le_pow_right (by decide) hk
  omega
theorem c_is_whole (n : Int) {P X} (h : P (.bool true)) : ph_is_whole [.da (.int n)] P X := by
  refine w_body ?_; unfold m_is_whole; walk_at "px"
  exact h
theorem c_is_number {n lo hi : Int} {P X} (h1 : lo ≤ n) (h2 : n ≤ hi) (h : P (.bool true)) : ph_is_number [.da (.int n), .da (.int lo), .da (.int hi)] P X := by
  refine w_body ?_; unfold m_is_number; walk_at "px"
  refine c_is_whole _ ?_
  walk_at "px"
  refine w_neg (by simpa using h1) ?_
  walk_at "px"
  rw [decide_eq_true h2]
  exact h
theorem at_int {α : Type} {xs : List α} {r : Int} (h0 : 0 ≤ r) (h1 : r < xs.length) : ∃ d, d ∈ xs ∧ atI xs r = some d := by
  have e : r = ((r.toNat : Nat) : Int) := by omega
  have hl : r.toNat < xs.length := by omega
  rw [e]
  exact ⟨xs[r.toNat], List.getElem_mem hl, atI_nat (List.getElem?_eq_getElem hl)⟩
theorem c_draw {wl : Addr} {n : Int} {P X} (h0 : 0 < n) (h1 : n < 1073741824) (h : ∀ r : Int, 0 ≤ r → r < n → P (.int r)) : ph__law_draw wl [.rw (.ref wl), .da (.int n)] P X := by
  refine w_body ?_; unfold m__law_draw; walk_at "px"
  refine w_wix rfl fun a ha => ?_
  walk_at "px"
  by_cases hp : 0 < a
  · refine w_pos (by simpa using hp) ?_
    walk_at "px"
    refine w_wdiv rfl ?_
    walk_at "px"
    refine w_wix rfl fun b hb => ?_
    walk_at "px"
    refine w_divmod ⟨h0, h1⟩ ?_
    refine ⟨_, _, rfl, Int.ediv_nonneg hb (by omega), ?_⟩
    walk_at "px"
    exact h _ (Int.emod_nonneg _ (by omega)) (Int.emod_lt_of_pos _ h0)
  · refine w_neg (by simpa using hp) ?_
    walk_at "px"
    refine w_wset rfl ?_
    walk_at "px"
    refine w_wix rfl fun b hb => ?_
    walk_at "px"
    refine ⟨by omega, ?_⟩
    walk_at "px"
    refine w_wix rfl fun c hc => ?_
    walk_at "px"
    refine w_oIC (.inr ⟨by decide, by decide⟩) ?_
    walk_at "px"
    refine w_wix rfl fun e he => ?_
    walk_at "px"
    refine w_oIC (.inl ⟨by decide, by decide⟩) ?_
    walk_at "px"
    refine w_oIC (by decide) ?_
    walk_at "px"
    refine w_wset rfl ?_
    walk_at "px"
    refine w_oIC (by decide) ?_
    walk_at "px"
    generalize hz : ((c * 40037 + 13001 * e + 7) % 2147483563 : Int) = z
    have z0 : 0 ≤ z := by rw [← hz]; exact Int.emod_nonneg _ (by decide)
    have z1 : z < 2147483563 := by rw [← hz]; exact Int.emod_lt_of_pos _ (by decide)
    refine w_oIC (.inl ⟨by omega, by omega⟩) ?_
    walk_at "px"
    refine w_wix rfl fun g hg => ?_
    walk_at "px"
    refine w_oIC (by decide) ?_
    walk_at "px"
    refine ⟨Int.emod_nonneg _ (by decide), ?_⟩
    walk_at "px"
    refine w_wix rfl fun q hq => ?_
    walk_at "px"
    refine w_oIC ⟨by decide, by decide⟩ ?_
    walk_at "px"
    refine w_oIC h0 ?_
    exact h _ (Int.emod_nonneg _ (by omega)) (Int.emod_lt_of_pos _ h0)
theorem c_of {wl : Addr} {ds : List D} {P X} (h0 : 0 < ds.length) (h1 : ds.length < 1073741824) (h : ∀ d ∈ ds, P d) : ph__law_of wl [.rw (.ref wl), .da (.tuple ds)] P X := by
  refine w_body ?_; unfold m__law_of; walk_at "px"
  refine c_draw (by omega) (by omega) fun r hr1 hr2 => ?_
  obtain ⟨d, hd, e⟩ := at_int hr1 hr2
  exact ⟨d, e, h d hd⟩
theorem c_ofS {wl : Addr} {z : Str} {P X} (h0 : 0 < z.length) (h1 : z.length < 1000000) (hz : z.length = z.cps.toList.length) (h : ∀ c ∈ z.cps.toList, P (.str ⟨#[c]⟩)) : ph__law_of wl [.rw (.ref wl), .da (.str z)] P X := by
  refine w_body ?_; unfold m__law_of; walk_at "px"
  have hsz : sizeLine = 16777216 := rfl
  refine ⟨by omega, c_draw (by omega) (by omega) fun r hr1 hr2 => ?_⟩
  obtain ⟨d, hd, e⟩ := at_int (xs := z.cps.toList) hr1 (by omega)
  exact ⟨by omega, d, e, h d hd⟩
theorem c_is_name {z : Str} {P X} (hz : NameOk z) (h : P (.bool true)) : ph_is_name [.da (.str z)] P X := by
  refine w_body ?_; unfold m_is_name; walk_at "px"
  refine w_body ?_; unfold m_is_letters; walk_at "px"
  have l1 := hz.lo
  have l2 := hz.hi
  have hl : z.length ≤ sizeLine := Nat.le_trans hz.hi (by decide)
  have ez : z.length = z.cps.size := rfl
  refine ⟨hl, ?_⟩
  walk_at "px"
  rw [if_pos (by omega)]
  walk_at "px"
  rw [decide_eq_true (by omega)]
  walk_at "px"
  refine ⟨hl, ?_⟩
  refine lc_mapT (dec := fun c => .bool true) _ (fun c hc Q hq => ?_) ?_
  · walk_at "px"
    have e := abc_one c (hz.low c hc)
    show nd (.bool (!(Builtin.Str.occurrences (Str.ofString "abcdefghijklmnopqrstuvwxyz") ⟨#[c]⟩ 0 (Str.ofString "abcdefghijklmnopqrstuvwxyz").length 1).isEmpty)) _
    rw [show (Builtin.Str.occurrences (Str.ofString "abcdefghijklmnopqrstuvwxyz") ⟨#[c]⟩ 0 (Str.ofString "abcdefghijklmnopqrstuvwxyz").length 1).isEmpty = false from e]
    exact hq
  · walk_at "px"
    rw [show (z.cps.toList.all fun _ => true) = true from by simp]
    walk_at "px"
    refine ⟨wordS, rfl, ?_⟩
    rw [any_dec, decide_eq_false hz.out]
    exact h
/-- every item is right: no wrong place -/
theorem c_wrong_at {α : Type} {enc : α → D} {f : Addr} {Φ : Phi} {vs : List α} {md : D} {P X} (hm : ∀ i : Nat, i < vs.length → ∀ P : D → Prop, P (.bool false) → oEq false (.int (i : Int)) md P)
    (hΦ : ∀ (i : Nat) (d : α), vs[i]? = some d → ∀ Q : D → Prop, Q (.bool true) → Φ [.da (enc d), .da (.tuple ((vs.take i).map enc))] Q fun _ => False)
    (h : P (.list [])) : ps_wrong_at f Φ [.da (.tuple (vs.map enc)), .da md, .rw (.ref f)] P X := by
  refine w_body ?_; unfold m_wrong_at; walk_at "px"
  rw [enum_map]
  refine for_invT (enc := fun p : α × Nat => .tuple [.int (p.2 : Nat), enc p.1]) (fun u v ρ => ρ = [.da (.tuple (vs.map enc)), .da md, .rw (.ref f), .un, .un]) _ ?_ rfl ?_
  · rintro u v ⟨x, i⟩ ρ k e rfl hk
    have hi : i = u.length ∧ vs[i]? = some x := by
      have h1 : (vs.zipIdx 0)[u.length]? = some (x, i) := by rw [e]; simp
      rw [List.getElem?_zipIdx] at h1
      cases hv : vs[u.length]? with
      | none => rw [hv] at h1; simp at h1
      | some y =>
        rw [hv] at h1
        simp at h1
        obtain ⟨rfl, rfl⟩ := h1
        exact ⟨rfl, hv⟩
    obtain ⟨_, hx⟩ := hi
    walk_at "px"
    refine hm i (List.getElem?_eq_some_iff.mp hx).1 _ ?_
    walk_at "px"
    rw [cut_take, ← List.map_take]
    refine hΦ i x hx _ ?_
    walk_at "px"
    exact hk _ rfl
  · rintro ρ rfl
    walk_at "px"
    exact h
theorem c_weights_by {L : List Crt} {P X} (h : P (.dict (wtK L))) : ph_weights_by [.da (lotD L)] P X := by
  refine w_body ?_; unfold m_weights_by; walk_at "px"
  refine dc_mapT (fun r => (.inr r.n, .int r.w)) _ _ (fun r hr Q hq => ?_) ?_
  · walk_at "px"
    exact hq
  · walk_at "px"
    exact h
theorem c_is_one_of {z : Str} {N : List Str} {P X} (hz : z ∈ N) (h : P (.bool true)) : ph_is_one_of [.da (.str z), .da (stkD N)] P X := by
  refine w_body ?_; unfold m_is_one_of; walk_at "px"
  rw [decide_eq_true hz]
  exact h
theorem c_wrong_for_all {α : Type} {enc : α → D} {f : Addr} {Φ : Phi} {vs : List α} {n : Int} {P X} (hl : (vs.length : Int) = n)
    (hΦ : ∀ (i : Nat) (d : α), vs[i]? = some d → ∀ Q : D → Prop, Q (.bool true) → Φ [.da (enc d), .da (.tuple ((vs.take i).map enc))] Q fun _ => False)
    (h : P (.list [])) : ps_wrong_for_all f Φ [.da (.tuple (vs.map enc)), .da (.int n), .rw (.ref f)] P X := by
  refine w_body ?_; unfold m_wrong_for_all; walk_at "px"
  refine c_wrong_at (fun i hi P hP => w_eqIN hP) hΦ ?_
  walk_at "px"
  rw [List.length_map, hl, decide_eq_true rfl]
  walk_at "px"
  exact h
theorem c_loads_in {L : List Crt} {s : List Str} (hL : LotOk L) (hs : ∀ z ∈ s, z ∈ nms L) (hl : s.length ≤ 7) {P X} (h : P (.list ((ldI L s).map .int))) : ph_loads_in [.da (lotD L), .da (stkD s)] P X := by
  refine w_body ?_; unfold m_loads_in; walk_at "px"
  refine c_weights_by ?_
  walk_at "px"
  refine for_invT (fun u v ρ => ρ = [.da (lotD L), .da (stkD s), .un, .da (.dict (wtK L)), .ow ((Pm.ldF (wt L) 0 u).map .int), .da (.int (0 + (u.map (wt L)).sum))]) _ ?_ rfl ?_
  · rintro u v z ρ k e rfl hk
    walk_at "px"
    refine ⟨?_, ?_⟩
    · rw [List.length_map, Pm.ldF_len]
      have : u.length < s.length := by rw [e]; simp
      have : sizeLine = 16777216 := rfl
      omega
    walk_at "px"
    refine ⟨_, _, _, rfl, rfl, wt_look hL.nodup (hs z (by rw [e]; simp)), ?_⟩
    walk_at "px"
    refine hk _ ?_
    rw [Pm.ldF_app, List.map_append, List.map_append, List.sum_append]
    simp only [List.map_cons, List.map_nil, List.sum_cons, List.sum_nil, Pm.ldF, Int.add_zero, Int.zero_add]
    rfl
  · rintro ρ rfl
    walk_at "px"
    exact h
abbrev CS := Int × PySem.W.Tup Str
def csOf (L : List Crt) (pr : List Int) (s : List Str) : CS := (costI L s pr, ⟨s⟩)
/-- the least cost with its first stack -/
structure Best (L : List Crt) (pr : List Int) (m : CS) : Prop where
  mem : m ∈ (stksL L).map (csOf L pr)
  le : ∀ y ∈ (stksL L).map (csOf L pr), PySem.W.DatumOrd.lt y m = false
theorem Best.stk {L : List Crt} {pr : List Int} {m : CS} (hL : LotOk L) (hm : Best L pr m) : StkOk L m.2.items ∧ m.1 = costI L m.2.items pr := by
  obtain ⟨s, hs, rfl⟩ := List.mem_map.mp hm.mem
  exact ⟨(mem_stksL hL).mp hs, rfl⟩
theorem bin_int (t u : Nat) : (Pm.bin t u : Int) * ((t : Int) - (1 + (u : Int)) + 1) / (1 + (u : Int)) = (Pm.bin t (u + 1) : Nat) := by
  have hs := Pm.bin_step t u
  by_cases h : u ≤ t
  · have e : (t : Int) - (1 + (u : Int)) + 1 = ((t - u : Nat) : Int) := by omega
    rw [e, show (1 + (u : Int)) = ((u + 1 : Nat) : Int) by omega, ← Int.natCast_mul, ← hs, Int.natCast_mul]
    exact Int.mul_ediv_cancel _ (by omega)
  · rw [Pm.bin_gt (n := t) (k := u) (by omega), Pm.bin_gt (n := t) (k := u + 1) (by omega)]
    simp
/-- the fewest tries -/
structure Few (c m T : Nat) : Prop where
  le : T ≤ m
  ge : m ≤ Pm.Wr T c
  lt : ∀ t, t < T → Pm.Wr t c < m
theorem few_ex {c m : Nat} (hc : 1 ≤ c) : ∃ T, Few c m T := by
  obtain ⟨c, rfl⟩ : ∃ d, c = d + 1 := ⟨c - 1, by omega⟩
  obtain ⟨T, h1, h2, h3⟩ := Pm.least_at (fun t => Pm.Wr t (c + 1)) m m (Pm.Wr_ge c m)
  exact ⟨T, h1, h2, h3⟩
def firstD (c m T : Nat) : D := if m = 0 then .none else .int (m - 1 - Pm.Wr (T - 1) c : Nat)
theorem c_same : ∀ (n : Nat) (d : D), Pln n d → ∀ {P X}, P (.bool true) → ph__law_same_ (n + 1) [.da d, .da d] P X := by
  intro n d hd
  induction hd with
  | int i =>
    intro P X h
    refine w_body ?_; unfold m__law_same; walk_at "px"
    rw [decide_eq_true rfl]
    exact h
  | bool i =>
    intro P X h
    refine w_body ?_; unfold m__law_same; walk_at "px"
    rw [show (i == i) = true from by simp]
    exact h
  | none =>
    intro P X h
    refine w_body ?_; unfold m__law_same; walk_at "px"
    refine ⟨sh_none, sh_none, ?_⟩
    have e : PyData.eqv .none .none = true := by simp only [PyData.eqv]
    rw [e]
    exact h
  | str hz =>
    intro P X h
    refine w_body ?_; unfold m__law_same; walk_at "px"
    refine w_eqS hz hz ?_
    rw [decide_eq_true rfl]
    exact h
  | @tup n ds hall hl ih =>
    intro P X h
    refine w_body ?_; unfold m__law_same; walk_at "px"
    rw [decide_eq_true rfl]
    walk_at "px"
    refine ⟨by omega, by omega, ?_⟩
    unfold upto
    refine lc_mapT (dec := fun _ => .bool true) _ (fun k hk Q hq => ?_) ?_
    · walk_at "px"
      have hk' : k < ds.length := by simpa using hk
      refine ⟨ds[k], atI_nat (List.getElem?_eq_getElem hk'), ?_⟩
      walk_at "px"
      refine ⟨ds[k], atI_nat (List.getElem?_eq_getElem hk'), ?_⟩
      walk_at "px"
      refine ih _ (List.getElem_mem hk') ?_
      exact hq
    · walk_at "px"
      rw [show ((List.range (ds.length : Int).toNat).all fun _ => true) = true from by simp]
      exact h
theorem c_names {wl : Addr} {m : Nat} (hm : m ≤ 7) {P X} (h : ∀ N : List Str, N.length = m → NmsOk N → P (stkD N)) : ph__law_names wl [.rw (.ref wl), .da (.int m)] P X := by
  have hsz : sizeLine = 16777216 := rfl
  refine w_body ?_; unfold m__law_names; walk_at "px"
  refine ⟨⟨by decide +kernel, by decide +kernel⟩, ?_⟩
  walk_at "px"
  refine ⟨⟨by decide +kernel, by decide +kernel⟩, ?_⟩
  walk_at "px"
  refine ⟨by decide +kernel, ?_⟩
  walk_at "px"
  refine ⟨by decide +kernel, ?_⟩
  walk_at "px"
  refine ⟨by omega, by omega, ?_⟩
  unfold upto
  refine for_invT (enc := fun i : Nat => .int (i : Int)) (fun u v ρ => ∃ zs : List Str, zs.length = u.length ∧ (∀ z ∈ zs, NameOk z) ∧ (∀ (j : Nat) (z : Str), zs[j]? = some z → ∃ c, abcS.cps.toList[j]? = some c ∧ z.cps.back? = some c) ∧
    ρ = [.rw (.ref wl), .da (.int m), .da (.list (wordS.map .str)), .un, .ow (zs.map .str), .da (.str abcS), .un, .un]) _ ?_ ⟨[], rfl, by simp, by simp, by rw [words_eq]; rfl⟩ ?_
  · rintro u v i ρ k e ⟨zs, hl, hok, hlast, rfl⟩ hk
    obtain ⟨hi, hu⟩ := range_at e
    have hm7 : u.length < 7 := by omega
    have hc : abcS.cps.toList[i]? = some (abcS.cps.toList[i]'(by rw [abc_len]; omega)) := List.getElem?_eq_getElem _
    generalize abcS.cps.toList[i]'(by rw [abc_len]; omega) = c0 at hc
    have hc0 : c0 ∈ abcS.cps.toList := List.mem_of_getElem? hc
    walk_at "px"
    refine c_of (by decide) (by decide) fun d hd => ?_
    obtain ⟨r, hr, rfl⟩ : ∃ r : Nat, r ≤ 7 ∧ d = .int r := by
      simp only [List.mem_cons, List.not_mem_nil, or_false] at hd
      rcases hd with rfl | rfl | rfl | rfl | rfl
      · exact ⟨0, by decide, rfl⟩
      · exact ⟨1, by decide, rfl⟩
      · exact ⟨2, by decide, rfl⟩
      · exact ⟨3, by decide, rfl⟩
      · exact ⟨7, by decide, rfl⟩
    walk_at "px"
    refine ⟨by omega, by omega, ?_⟩
    unfold upto
    refine for_invT (enc := fun i : Nat => .int (i : Int)) (fun a b ρ => ∃ z : Str, z.cps.size = a.length ∧ (∀ c ∈ z.cps.toList, c ∈ abcS.cps.toList) ∧
      ρ = [.rw (.ref wl), .da (.int m), .da (.list (wordS.map .str)), .da (.int (i : Int)), .ow (zs.map .str), .da (.str abcS), .da (.str z), .un]) _ ?_ ⟨⟨#[]⟩, rfl, by simp, rfl⟩ ?_
    · rintro a b j ρ k2 e2 ⟨z, hz, hzc, rfl⟩ hk2
      obtain ⟨_, ha⟩ := range_at e2
      have ez : z.length = z.cps.size := rfl
      walk_at "px"
      refine c_ofS (by decide +kernel) (by decide +kernel) (by decide +kernel) fun c hcm => ?_
      refine ⟨?_, ?_⟩
      · show z.length + 1 ≤ sizeLine
        omega
      walk_at "px"
      refine hk2 _ ⟨_, ?_, ?_, rfl⟩
      · rw [app_size, hz, List.length_append]
        rfl
      · intro x hx
        rw [app_cps] at hx
        rcases List.mem_append.mp hx with hx | hx
        · exact hzc x hx
        · rw [List.mem_singleton.mp hx]; exact hcm
    · rintro ρ ⟨z, hz, hzc, rfl⟩
      rw [List.length_range] at hz
      have ez : z.length = z.cps.size := rfl
      walk_at "px"
      refine ⟨by decide +kernel, c0, atI_nat hc, ?_⟩
      refine ⟨?_, ?_⟩
      · show z.length + 1 ≤ sizeLine
        omega
      walk_at "px"
      have fin : ∀ z2 : Str, NameOk z2 → z2.cps.back? = some c0 → nd (.str z2) ((zs.map PyData.str).length < sizeLine ∧ k (wipeE ([.rw (.ref wl), .da (.int m), .da (.list (wordS.map .str)), .da (.int (i : Int)), .ow (zs.map .str ++ [.str z2]), .da (.str abcS), .da (.str (z ++ (⟨#[c0]⟩ : Str))), .un]) [3, 6])) := fun z2 h2 hb => by
        refine ⟨by rw [List.length_map, hl]; omega, hk _ ⟨zs ++ [z2], by simp [hl], ?_, ?_, by rw [List.map_append]; rfl⟩⟩
        · intro y hy
          rcases List.mem_append.mp hy with hy | hy
          · exact hok y hy
          · rw [List.mem_singleton.mp hy]; exact h2
        · intro j y hj
          by_cases hlt : j < zs.length
          · rw [List.getElem?_append_left hlt] at hj
            exact hlast j y hj
          · rw [List.getElem?_append_right (by omega)] at hj
            have hj0 : j - zs.length = 0 := by
              have := (List.getElem?_eq_some_iff.mp hj).1
              simp at this
              omega
            rw [hj0] at hj
            simp at hj
            subst hj
            exact ⟨c0, by rw [← hc, show j = i by omega], hb⟩
      by_cases hin : (z ++ (⟨#[c0]⟩ : Str)) ∈ wordS
      · refine w_pos (decide_eq_true hin) ?_
        walk_at "px"
        refine ⟨by decide +kernel, c0, atI_nat hc, ?_⟩
        refine ⟨show 1 + 1 ≤ sizeLine by decide, ?_⟩
        refine fin ((⟨#[113]⟩ : Str) ++ (⟨#[c0]⟩ : Str)) ⟨show 1 ≤ 2 by decide, show 2 ≤ 8 by decide, fun c hcm => ?_, q_out c0 hc0⟩ (app_back _ _)
        rw [app_cps] at hcm
        rcases List.mem_append.mp hcm with hx | hx
        · rw [List.mem_singleton.mp hx]; exact q_in
        · rw [List.mem_singleton.mp hx]; exact hc0
      · refine w_neg (decide_eq_false hin) ?_
        walk_at "px"
        refine fin _ ⟨by rw [app_size]; omega, by rw [app_size]; omega, fun c hcm => ?_, hin⟩ (app_back _ _)
        rw [app_cps] at hcm
        rcases List.mem_append.mp hcm with hx | hx
        · exact hzc c hx
        · rw [List.mem_singleton.mp hx]; exact hc0
  · rintro ρ ⟨zs, hl, hok, hlast, rfl⟩
    rw [List.length_range] at hl
    walk_at "px"
    refine w_sorted (xs := zs) (PySem.W.Sortable.others fun b => ⟨fun e => (nomatch e), fun xs e => (nomatch e)⟩) (by decide) ?_
    walk_at "px"
    refine h (tsort zs) (by rw [tsort_len, hl]; simp) ⟨fun z hz => hok z (tsort_mem.mp hz), asc_of (last_nodup abc_nodup hlast)⟩
theorem c_plain {L : List Crt} {P X} (h : P (stkD (nms L))) : ph__law_plain [.da (lotD L)] P X := by
  refine w_body ?_; unfold m__law_plain; walk_at "px"
  refine lc_mapT (dec := fun r => .str r.n) _ (fun r hr Q hq => ?_) ?_
  · walk_at "px"
    exact hq
  · walk_at "px"
    rw [show (L.map fun r => PyData.str r.n) = (nms L).map .str from by rw [nms, List.map_map]; rfl]
    exact h
theorem c_crate {L : List Crt} (hL : LotOk L) {z : Str} (hz : z ∈ nms L) {P X} (h : P (rowD (rowOf L z))) : ph__law_crate [.da (lotD L), .da (.str z)] P X := by
  refine w_body ?_; unfold m__law_crate; walk_at "px"
  refine lc_filT (dec := rowD) (fun r => decide (r.n = z)) _ (fun r hr Q h1 h2 => ?_) ?_
  · walk_at "px"
    refine w_eqS (hL.row r hr).nm.ok (hL.names z hz).ok ?_
    walk_at "px"
    by_cases e : r.n = z
    · refine w_pos (decide_eq_true e) ?_
      walk_at "px"
      exact h1 (decide_eq_true e)
    · refine w_neg (decide_eq_false e) ?_
      walk_at "px"
      exact h2 (decide_eq_false e)
  · walk_at "px"
    rw [fil_row hL.nodup hz]
    walk_at "px"
    exact h
theorem c_lloads {L : List Crt} {s : List Str} (hL : LotOk L) (hs : ∀ z ∈ s, z ∈ nms L) (hl : s.length ≤ 7) {P X} (h : P (.list ((ldI L s).map .int))) : ph__law_loads [.da (lotD L), .da (stkD s)] P X := by
  refine w_body ?_; unfold m__law_loads; walk_at "px"
  refine for_invT (fun u v ρ => ρ = [.da (lotD L), .da (stkD s), .un, .ow ((Pm.ldF (wt L) 0 u).map .int), .da (.int (0 + (u.map (wt L)).sum))]) _ ?_ rfl ?_
  · rintro u v z ρ k e rfl hk
    walk_at "px"
    refine ⟨?_, ?_⟩
    · rw [List.length_map, Pm.ldF_len]
      have : u.length < s.length := by rw [e]; simp
      have : sizeLine = 16777216 := rfl
      omega
    walk_at "px"
    refine c_crate hL (hs z (by rw [e]; simp)) ?_
    walk_at "px"
    refine hk _ ?_
    rw [Pm.ldF_app, List.map_append, List.map_append, List.sum_append]
    simp only [List.map_cons, List.map_nil, List.sum_cons, List.sum_nil, Pm.ldF, Int.add_zero, Int.zero_add]
    rfl
  · rintro ρ rfl
    walk_at "px"
    exact h
def brkL (L : List Crt) (s : List Str) : List Str := s.filter fun z => decide (ldO L s z > br L z)
theorem c_broken {L : List Crt} {s : List Str} (hL : LotOk L) (hs : StkOk L s) {P X} (h : P (.list ((brkL L s).map .str))) : ph__law_broken [.da (lotD L), .da (stkD s)] P X := by
  have hl7 : s.length ≤ 7 := by rw [hs.len hL]; exact hL.few
  refine w_body ?_; unfold m__law_broken; walk_at "px"
  refine c_lloads hL hs.sub hl7 ?_
  rw [ldI_eq hs.nd, List.map_map]
  walk_at "px"
  refine ⟨by rw [List.length_map]; omega, by rw [List.length_map]; omega, ?_⟩
  have eu : upto ((s.map PyData.str).length : Nat) = s.map fun z => .int ((s.idxOf z : Nat) : Int) := by
    unfold upto
    rw [List.length_map]
    refine List.ext_getElem? fun i => ?_
    rw [List.getElem?_map, List.getElem?_map]
    by_cases hi : i < s.length
    · rw [List.getElem?_range (by omega), List.getElem?_eq_getElem hi]
      have : s.idxOf s[i] = i := List.Nodup.idxOf_getElem hs.nd i hi
      simp [this]
    · rw [List.getElem?_eq_none (by simp; omega), List.getElem?_eq_none (by omega)]
      rfl
  rw [eu]
  refine lc_filT (dec := fun z => .str z) (fun z => decide (ldO L s z > br L z)) _ (fun z hz Q h1 h2 => ?_) ?_
  · have hi : s.idxOf z < s.length := List.idxOf_lt_length_of_mem hz
    have e : s[s.idxOf z]? = some z := by rw [List.getElem?_eq_getElem hi]; exact congrArg some (List.getElem_idxOf hi)
    walk_at "px"
    refine ⟨.int (ldO L s z), at_map (enc := fun z => .int (ldO L s z)) e, ?_⟩
    walk_at "px"
    refine ⟨.str z, at_map (enc := PyData.str) e, ?_⟩
    walk_at "px"
    refine c_crate hL (hs.sub z hz) ?_
    walk_at "px"
    by_cases hb : ldO L s z > br L z
    · refine w_pos (decide_eq_true hb) ?_
      walk_at "px"
      refine ⟨.str z, at_map (enc := PyData.str) e, ?_⟩
      exact h1 (decide_eq_true hb)
    · refine w_neg (decide_eq_false hb) ?_
      exact h2 (decide_eq_false hb)
  · walk_at "px"
    exact h
def bnN (r : Crt) : Int × Str := (r.w + r.b, r.n)
def risL (L : List Crt) : List Str := (tsort (L.map bnN)).map (·.2)
theorem ris_ok {L : List Crt} (hL : LotOk L) : StkOk L (risL L) := by
  have hp : (risL L).Perm (nms L) := by
    unfold risL
    refine (tsort_perm.map _).trans ?_
    rw [List.map_map]
    exact List.Perm.refl _
  exact ⟨hp.nodup_iff.mpr hL.nodup, fun z hz => hp.mem_iff.mp hz, fun z hz => hp.mem_iff.mpr hz⟩
theorem c_lot_of {wl : Addr} {N : List Str} (hN : NmsOk N) (hl : N.length ≤ 7) {P X} (h : ∀ L : List Crt, LotOk L → nms L = N → P (lotD L)) : ph__law_lot_of wl [.rw (.ref wl), .da (stkD N)] P X := by
  refine w_body ?_; unfold m__law_lot_of; walk_at "px"
  refine c_of (by decide) (by decide) fun d hd => ?_
  obtain ⟨top, ht1, ht2, rfl⟩ : ∃ r : Int, 1 ≤ r ∧ r ≤ 30 ∧ d = .int r := by
    simp only [List.mem_cons, List.not_mem_nil, or_false] at hd
    rcases hd with rfl | rfl | rfl
    · exact ⟨3, by decide, by decide, rfl⟩
    · exact ⟨9, by decide, by decide, rfl⟩
    · exact ⟨30, by decide, by decide, rfl⟩
  walk_at "px"
  refine c_of (by decide) (by decide) fun d hd => ?_
  obtain ⟨most, hm1, hm2, rfl⟩ : ∃ r : Int, 1 ≤ r ∧ r ≤ 100 ∧ d = .int r := by
    simp only [List.mem_cons, List.not_mem_nil, or_false] at hd
    rcases hd with rfl | rfl | rfl | rfl
    · exact ⟨2, by decide, by decide, rfl⟩
    · exact ⟨9, by decide, by decide, rfl⟩
    · exact ⟨40, by decide, by decide, rfl⟩
    · exact ⟨100, by decide, by decide, rfl⟩
  walk_at "px"
  refine lc_relT (dec := rowD) (fun (z : Str) (r : Crt) => r.n = z ∧ 1 ≤ r.w ∧ r.w ≤ 999 ∧ 0 ≤ r.b ∧ r.b ≤ 999) _ (fun z hz Q hq => ?_) fun L hL => ?_
  · walk_at "px"
    refine c_draw (by omega) (by omega) fun a ha1 ha2 => ?_
    walk_at "px"
    refine c_draw (by omega) (by omega) fun b hb1 hb2 => ?_
    walk_at "px"
    exact hq ⟨z, 1 + a, b⟩ ⟨rfl, show 1 ≤ 1 + a by omega, show 1 + a ≤ 999 by omega, show 0 ≤ b by omega, show b ≤ 999 by omega⟩
  · walk_at "px"
    have e : nms L = N ∧ ∀ r ∈ L, 1 ≤ r.w ∧ r.w ≤ 999 ∧ 0 ≤ r.b ∧ r.b ≤ 999 := by
      clear h hN hl
      induction hL with
      | nil => exact ⟨rfl, fun r hr => nomatch hr⟩
      | cons hr _ ih =>
        refine ⟨?_, fun q hq => ?_⟩
        · show _ :: nms _ = _
          rw [ih.1]
          exact congrArg (fun z => z :: _) hr.1
        · rcases List.mem_cons.mp hq with rfl | hq
          · exact hr.2
          · exact ih.2 q hq
    exact h L (LotOk.of hN e.1 hl e.2) e.1
theorem c_lot {wl : Addr} {most : Nat} (h1 : 1 ≤ most) (h7 : most ≤ 7) {P X} (h : ∀ L : List Crt, LotOk L → 1 ≤ L.length → L.length ≤ most → P (lotD L)) : ph__law_lot wl [.rw (.ref wl), .da (.int most)] P X := by
  refine w_body ?_; unfold m__law_lot; walk_at "px"
  refine c_draw (by omega) (by omega) fun a ha1 ha2 => ?_
  walk_at "px"
  rw [show (1 : Int) + a = ((1 + a.toNat : Nat) : Int) by omega]
  refine c_names (by omega) fun N hl hN => ?_
  walk_at "px"
  refine c_lot_of hN (by omega) fun L hL e => ?_
  have hlen : L.length = 1 + a.toNat := by rw [← hl, ← e, nms, List.length_map]
  exact h L hL (by omega) (by omega)
def rowW (c t : Nat) : List Int := (List.range (c + 1)).map fun k => (Pm.Wr t k : Nat)
theorem rowW_at {c t k : Nat} (hk : k ≤ c) : (rowW c t)[k]? = some ((Pm.Wr t k : Nat) : Int) := by
  unfold rowW
  rw [List.getElem?_map, List.getElem?_range (by omega)]
  rfl
theorem rowW_zero (c : Nat) : (List.replicate (c + 1) [PyData.int 0]).flatten = (rowW c 0).map .int := by
  unfold rowW
  refine List.ext_getElem? fun i => ?_
  have e : (List.replicate (c + 1) [PyData.int 0]).flatten = List.replicate (c + 1) (.int 0) := by
    induction c + 1 with
    | zero => rfl
    | succ n ih => rw [List.replicate_succ, List.replicate_succ, List.flatten_cons, ih]; rfl
  rw [e, List.getElem?_map, List.getElem?_map, List.getElem?_replicate]
  by_cases hi : i < c + 1
  · rw [if_pos hi, List.getElem?_range hi]
    simp [Pm.Wr_zero]
  · rw [if_neg hi, List.getElem?_eq_none (by simp; omega)]
    rfl
theorem c_ofL {wl : Addr} {ds : List D} {P X} (h0 : 0 < ds.length) (h1 : ds.length < 1073741824) (h : ∀ d ∈ ds, P d) : ph__law_of wl [.rw (.ref wl), .da (.list ds)] P X := by
  refine w_body ?_; unfold m__law_of; walk_at "px"
  refine c_draw (by omega) (by omega) fun r hr1 hr2 => ?_
  obtain ⟨d, hd, e⟩ := at_int hr1 hr2
  exact ⟨d, e, h d hd⟩
def downF (A B m u : Nat) : D := if max A (m - u) ≤ min B (m - 1) ∧ 0 < u then .int (max A (m - u) : Nat) else .none
theorem firstD_pln {c m T n : Nat} : Pln n (firstD c m T) := by
  unfold firstD
  split
  · exact .none
  · exact .int _
theorem sum_nonneg : ∀ {xs : List Int}, (∀ x ∈ xs, 0 ≤ x) → 0 ≤ xs.sum
  | [], _ => by simp
  | x :: xs, h => by
    rw [List.sum_cons]
    have := h x List.mem_cons_self
    have := sum_nonneg fun y hy => h y (List.mem_cons_of_mem _ hy)
    omega
theorem rz_nonneg {L : List Crt} {s : List Str} {z : Str} : 0 ≤ rzI L s z := by unfold rzI; split <;> omega
theorem cost_nonneg {L : List Crt} {s : List Str} {pr : List Int} (hp : ∀ p ∈ pr, 0 ≤ p ∧ p ≤ 99) : 0 ≤ costI L s pr := sum_nonneg fun x hx => by
  obtain ⟨p, hm, rfl⟩ := List.mem_map.mp hx
  exact Int.mul_nonneg (hp _ (List.of_mem_zip hm).2).1 rz_nonneg
theorem sum_zero : ∀ {xs : List Int}, (∀ x ∈ xs, x = 0) → xs.sum = 0
  | [], _ => by simp
  | x :: xs, h => by
    rw [List.sum_cons, h x List.mem_cons_self, sum_zero fun y hy => h y (List.mem_cons_of_mem _ hy)]
    rfl
theorem cost_zero {L : List Crt} {s : List Str} {pr : List Int} (hs : StkOk L s) (h : brkL L s = []) : costI L s pr = 0 := sum_zero fun x hx => by
  obtain ⟨p, hm, rfl⟩ := List.mem_map.mp hx
  have hz := hs.all _ (List.of_mem_zip hm).1
  have hb : ¬ ldO L s p.1 > br L p.1 := by
    have := List.filter_eq_nil_iff.mp h _ hz
    simpa using this
  have : rzI L s p.1 = 0 := by
    unfold rzI spI
    split <;> omega
  rw [this, Int.mul_zero]
theorem best_ex {L : List Crt} {pr : List Int} (hL : LotOk L) : ∃ m, Best L pr m := by
  have : (stksL L).map (csOf L pr) ≠ [] := fun e => by
    have h := (mem_stksL hL).mpr (ris_ok hL)
    rw [List.map_eq_nil_iff.mp e] at h
    cases h
  obtain ⟨m, h1, h2⟩ := min_ex this
  exact ⟨m, h1, h2⟩
theorem best_zero {L : List Crt} {pr : List Int} {m : CS} (hL : LotOk L) (hp : ∀ p ∈ pr, 0 ≤ p ∧ p ≤ 99) (hm : Best L pr m) (h : brkL L (risL L) = []) : m.1 = 0 := by
  have h1 := hm.le _ (List.mem_map.mpr ⟨_, (mem_stksL hL).mpr (ris_ok hL), rfl⟩)
  have h2 := (hm.stk hL).2
  have h3 := cost_nonneg (L := L) (s := m.2.items) hp
  have h1 : (if costI L (risL L) pr = m.1 then PySem.W.DatumOrd.lt (⟨risL L⟩ : PySem.W.Tup Str) m.2 else decide (costI L (risL L) pr < m.1)) = false := h1
  rw [cost_zero (ris_ok hL) h] at h1
  by_cases e : 0 = m.1
  · exact e.symm
  · rw [if_neg e] at h1
    simp only [decide_eq_false_iff_not] at h1
    omega
theorem paired_snd {α β : Type} {p : β → Prop} : ∀ {xs : List α} {ys : List β}, Paired (fun _ y => p y) xs ys → ∀ y ∈ ys, p y
  | _, _, .nil, _, h => nomatch h
  | _, _, .cons a t, y, h => by
    rcases List.mem_cons.mp h with rfl | h
    · exact a
    · exact paired_snd t y h
theorem c_well {ns : List Int} {lap : Int} (hl : ns.length ≤ 63) (h : lap = 0 ∨ lap = 1) : ph__law_well [.da (.list (allI ns)), .da (.int lap)] oneWell := by
  have cut : cutD (allI ns) none (some 12) = allI (ns.take 12) := by
    rw [show (some 12 : Option Int) = some ((12 : Nat) : Int) from rfl, cut_take]
    exact (List.map_take ..).symm
  refine w_bodyO ?_; unfold m__law_well
  walk_at "px"
  refine w_oIC (.inl ⟨by decide, by decide⟩) ?_
  walk_at "px"
  rw [cut]
  refine for_invT (enc := PyData.int) (fun u v ρ => ∃ z : Int, ρ = [.da (.list (allI ns)), .da (.int lap), .da (.int z), .un, .un]) _ ?_ ⟨_, rfl⟩ ?_
  · rintro u v x ρ k e ⟨z, rfl⟩ hk
    walk_at "px"
    refine w_oIC (.inr ⟨by decide, by decide⟩) ?_
    walk_at "px"
    refine w_oIC (by decide) ?_
    walk_at "px"
    refine w_oIC (by decide) ?_
    walk_at "px"
    exact hk _ ⟨_, rfl⟩
  · rintro ρ ⟨z, rfl⟩
    walk_at "px"
    by_cases hlt : lap < ((allI ns).length : Nat)
    case' pos =>
      refine w_pos (decide_eq_true hlt) ?_
      walk_at "px"
      obtain ⟨x, hx⟩ : ∃ x, ns[lap.toNat]? = some x := ⟨_, List.getElem?_eq_getElem (by rw [allI, List.length_map] at hlt; omega)⟩
      refine ⟨.int x, by rw [show lap = ((lap.toNat : Nat) : Int) by omega]; exact at_map (enc := PyData.int) hx, ?_⟩
    case' neg => refine w_neg (decide_eq_false hlt) ?_
    all_goals
      walk_at "px"
      refine w_oIC (.inr ⟨by decide, by decide⟩) ?_
      walk_at "px"
      refine w_oIC (by decide) ?_
      walk_at "px"
      refine w_oIC (.inr ⟨by decide, by decide⟩) ?_
      walk_at "px"
      refine w_oIC (by decide) ?_
      walk_at "px"
    · refine w_neg (decide_eq_false (by decide)) ?_
      walk_at "px"
      refine w_oIC ⟨by decide, by decide, by decide⟩ ?_
      walk_at "px"
      refine w_neg (decide_eq_false (by decide)) ?_
      walk_at "px"
      exact ⟨_, _, _, by decide, Int.emod_nonneg _ (by decide), by decide, rfl⟩
    · by_cases hn : x < 0
      · refine w_pos (decide_eq_true hn) ?_
        walk_at "px"
        exact ⟨_, _, _, by split <;> omega, Int.emod_nonneg _ (by decide), by decide, rfl⟩
      · refine w_neg (decide_eq_false hn) ?_
        walk_at "px"
        refine w_oIC ⟨by decide, by decide, by decide⟩ ?_
        walk_at "px"
        split
        · walk_at "px"
          exact ⟨_, _, _, by split <;> omega, Int.emod_nonneg _ (by decide), by decide, rfl⟩
        · walk_at "px"
          exact ⟨_, _, _, by decide, Int.emod_nonneg _ (by decide), by decide, rfl⟩
def holdL (L : List Crt) (s : List Str) : Bool := Pm.hld (wt L) (br L) s
theorem hold_all {L : List Crt} {s : List Str} : (s.all fun z => decide (spI L s z ≥ 0)) = holdL L s := by
  unfold holdL Pm.hld
  refine congrArg _ (funext fun z => decide_eq_decide.mpr ?_)
  unfold spI ldO
  omega
theorem hold_brk {L : List Crt} {s : List Str} : decide (brkL L s = []) = holdL L s := by
  unfold holdL Pm.hld brkL ldO
  rw [Bool.eq_iff_iff]
  simp only [decide_eq_true_eq, List.filter_eq_nil_iff, List.all_eq_true]
  exact ⟨fun h z hz => by have := h z hz; omega, fun h z hz => by have := h z hz; omega⟩
def goodL (L : List Crt) : List (List Str) := (stksL L).filter (holdL L)
def enS (L : List Crt) (s : List Str) : D := .tuple [stkD s, .int (Pm.ws (wt L) s)]
def hfL (L : List Crt) (k : Nat) : List (List Str) := (Pm.stks (nms L) k).filter (holdL L)
theorem hf_succ (L : List Crt) (k : Nat) : hfL L (k + 1) = (hfL L k).flatMap (Pm.grw (wt L) (br L) (nms L)) := Pm.fil_grow _
theorem grw_len {L : List Crt} {s : List Str} : (Pm.grw (wt L) (br L) (nms L) s).length ≤ L.length := by
  unfold Pm.grw
  rw [List.length_map]
  refine Nat.le_trans (List.length_filter_le _ _) ?_
  rw [nms, List.length_map]
  exact Nat.le_refl _
theorem fm_len {α β : Type} {g : α → List β} {n : Nat} (h : ∀ x, (g x).length ≤ n) : ∀ xs : List α, (xs.flatMap g).length ≤ n * xs.length
  | [] => by simp
  | x :: xs => by
    have := fm_len h xs
    have := h x
    rw [List.flatMap_cons, List.length_append, List.length_cons, Nat.mul_succ]
    omega
theorem ws_snoc {L : List Crt} {s : List Str} {z : Str} : Pm.ws (wt L) (s ++ [z]) = Pm.ws (wt L) s + wt L z := by
  rw [Pm.ws_app]
  simp [Pm.ws]
theorem cut_drop (vs : List D) (i : Nat) : Pu.cutD vs (some (i : Int)) none = vs.drop i := by
  unfold Pu.cutD
  rw [HT.sIx_none, HT.sIx_nat]
  rcases Nat.le_total i vs.length with h | h
  · rw [Nat.min_eq_left h, List.take_of_length_le (by rw [List.length_drop]; omega)]
  · rw [Nat.min_eq_right h, List.drop_of_length_le h, List.drop_of_length_le (Nat.le_refl _)]
    simp
abbrev Pr := Str × Str
abbrev prD (p : Pr) : D := .tuple [.str p.1, .str p.2]
def PrOk (p : Pr) : Prop := NameOk p.1 ∧ NameOk p.2
theorem eqvS (a b : Str) : PyData.eqv (.str a) (.str b) = decide (a = b) := by
  simp only [PyData.eqv]
  exact PySem.W.beq_decide a b
theorem eqvAllS : ∀ s t : List Str, PyData.eqvAll (s.map PyData.str) (t.map PyData.str) = decide (s = t)
  | [], [] => by simp [PyData.eqvAll]
  | [], b :: t => by simp [PyData.eqvAll]
  | a :: s, [] => by simp [PyData.eqvAll]
  | a :: s, b :: t => by
    simp only [List.map_cons, PyData.eqvAll]
    rw [eqvS, eqvAllS s t]
    by_cases h1 : a = b <;> by_cases h2 : s = t <;> simp [h1, h2]
theorem eqvK (s t : List Str) : PyData.eqv (stkD s) (stkD t) = decide (s = t) := by
  rw [stkD, stkD, PyData.eqv]
  exact eqvAllS s t
theorem eqvP (p q : Pr) : PyData.eqv (prD p) (prD q) = decide (p = q) := by
  have h := eqvAllS [p.1, p.2] [q.1, q.2]
  rw [prD, prD, PyData.eqv]
  refine h.trans (decide_eq_decide.mpr ?_)
  obtain ⟨a, b⟩ := p
  obtain ⟨c, d⟩ := q
  simp
theorem anyP (p : Pr) (qs : List Pr) : (qs.map prD).any (fun z => PyData.eqv z (prD p)) = decide (p ∈ qs) := by
  rw [List.any_map, Bool.eq_iff_iff]
  simp only [List.any_eq_true, Function.comp, eqvP, decide_eq_true_eq]
  exact ⟨fun ⟨x, h, e⟩ => e ▸ h, fun h => ⟨p, h, rfl⟩⟩
theorem anyK (p : List Str) (qs : List (List Str)) : (qs.map stkD).any (fun z => PyData.eqv z (stkD p)) = decide (p ∈ qs) := by
  rw [List.any_map, Bool.eq_iff_iff]
  simp only [List.any_eq_true, Function.comp, eqvK, decide_eq_true_eq]
  exact ⟨fun ⟨x, h, e⟩ => e ▸ h, fun h => ⟨p, h, rfl⟩⟩
theorem pr_shp {p : Pr} (h : PrOk p) : Shp 1 (prD p) := Shp.tup (n := 0) fun d hd => by
  simp only [List.mem_cons, List.not_mem_nil, or_false] at hd
  rcases hd with rfl | rfl
  · exact Shp.str h.1.ok
  · exact Shp.str h.2.ok
theorem prs_shp {qs : List Pr} (h : ∀ p ∈ qs, PrOk p) : Shp 2 (.list (qs.map prD)) := Shp.lst fun d hd => by
  obtain ⟨p, hp, rfl⟩ := List.mem_map.mp hd
  exact pr_shp (h p hp)
theorem stks_shp {qs : List (List Str)} (h : ∀ s ∈ qs, ∀ z ∈ s, NameOk z) : Shp 2 (.list (qs.map stkD)) := Shp.lst fun d hd => by
  obtain ⟨p, hp, rfl⟩ := List.mem_map.mp hd
  exact stk_shp (h p hp)
theorem w_inP {p : Pr} {qs : List Pr} {P : D → Prop} (hp : PrOk p) (hq : ∀ p ∈ qs, PrOk p) (h : P (.bool (decide (p ∈ qs)))) : oInD false (prD p) (.list (qs.map prD)) P := ⟨(pr_shp hp).ok (by decide), (prs_shp hq).ok (by decide), by rw [anyP]; exact h⟩
theorem w_niP {p : Pr} {qs : List Pr} {P : D → Prop} (hp : PrOk p) (hq : ∀ p ∈ qs, PrOk p) (h : P (.bool (!decide (p ∈ qs)))) : oInD true (prD p) (.list (qs.map prD)) P := ⟨(pr_shp hp).ok (by decide), (prs_shp hq).ok (by decide), by rw [anyP]; exact h⟩
theorem w_niK {p : List Str} {qs : List (List Str)} {P : D → Prop} (hp : ∀ z ∈ p, NameOk z) (hq : ∀ s ∈ qs, ∀ z ∈ s, NameOk z) (h : P (.bool (!decide (p ∈ qs)))) : oInD true (stkD p) (.list (qs.map stkD)) P := ⟨(stk_shp hp).ok (by decide), (stks_shp hq).ok (by decide), by rw [anyK]; exact h⟩
def rkK (t : List Str) : List (D × D) := putAll [] (t.zipIdx.map fun p => (.inr p.1, .int (p.2 : Nat)))
theorem zip_idx {t : List Str} (ht : t.Nodup) {p : Str × Nat} (hp : p ∈ t.zipIdx) : p.2 = t.idxOf p.1 := by
  have h := List.mem_zipIdx_iff_getElem?.mp hp
  obtain ⟨hi, e⟩ := List.getElem?_eq_some_iff.mp h
  rw [← e]
  exact (List.Nodup.idxOf_getElem ht _ hi).symm
theorem rk_look {t : List Str} (ht : t.Nodup) {z : Str} (hz : z ∈ t) : lookD (rkK t) (.inr z) = some (.int (t.idxOf z : Nat)) := by
  refine look_all (F := keyV fun z => .int (t.idxOf z : Nat)) _ _ (fun p hp => ?_) (.inr ?_)
  · obtain ⟨q, hq, rfl⟩ := List.mem_map.mp hp
    show PyData.int (q.2 : Nat) = .int (t.idxOf q.1 : Nat)
    rw [zip_idx ht hq]
  · obtain ⟨i, hi, e⟩ := List.mem_iff_getElem.mp hz
    exact ⟨_, List.mem_map.mpr ⟨(z, i), List.mem_zipIdx_iff_getElem?.mpr (by rw [List.getElem?_eq_getElem hi]; exact congrArg some e), rfl⟩, rfl⟩
theorem zip_at {s : List Str} {u v : List (Str × Nat)} {x : Str} {i : Nat} (e : s.zipIdx = u ++ (x, i) :: v) : i = u.length ∧ s = u.map (·.1) ++ x :: v.map (·.1) ∧ s.drop (i + 1) = v.map (·.1) := by
  have h1 : s.zipIdx[u.length]? = some (x, i) := by rw [e]; simp
  rw [List.getElem?_zipIdx] at h1
  have hi : i = u.length := by
    cases q : s[u.length]? with
    | none => rw [q] at h1; cases h1
    | some y => rw [q] at h1; simp at h1; omega
  have h2 : s = u.map (·.1) ++ x :: v.map (·.1) := by
    have := congrArg (List.map Prod.fst) e
    rw [List.zipIdx_map_fst] at this
    simpa using this
  refine ⟨hi, h2, ?_⟩
  have key : ∀ (a b : List Str) (x : Str), (a ++ x :: b).drop (a.length + 1) = b := fun a b x => by
    induction a with
    | nil => rfl
    | cons _ a ih => exact ih
  have := key (u.map (·.1)) (v.map (·.1)) x
  rw [← h2, List.length_map, ← hi] at this
  exact this
theorem cut_drop1 (vs : List D) (i : Nat) : Pu.cutD vs (some ((i : Int) + 1)) none = vs.drop (i + 1) := cut_drop vs (i + 1)
theorem cut_drop2 (vs : List D) (i : Nat) : Pu.cutD vs (some ((i : Int) + 2)) none = vs.drop (i + 2) := cut_drop vs (i + 2)
theorem pa_few {t s : List Str} (h : s.length ≤ 7) : (Pm.pa t s).length ≤ 49 := by
  have h1 := Pm.pa_len (t := t) s
  have h2 : s.length * s.length ≤ 7 * 7 := Nat.mul_le_mul h h
  omega
theorem pa_ok {L : List Crt} (hL : LotOk L) {s t : List Str} (hs : StkOk L s) : ∀ p ∈ Pm.pa t s, PrOk p := fun p hp => by
  obtain ⟨a, b, c, e, _⟩ := Pm.mem_pa.mp hp
  exact ⟨hL.names _ (hs.sub _ (by rw [e]; simp)), hL.names _ (hs.sub _ (by rw [e]; simp))⟩
def btw (s s2 s3 : List Str) : Bool := (Pm.pa s3 s).all fun p => decide (p ∈ Pm.pa s2 s)
theorem good_ok {L : List Crt} (hL : LotOk L) {s : List Str} (h : s ∈ goodL L) : StkOk L s := (mem_stksL hL).mp (List.mem_filter.mp h).1
theorem good_iff {L : List Crt} {s : List Str} (hL : LotOk L) (hs : StkOk L s) : s ∈ goodL L ↔ holdL L s = true := ⟨fun h => (List.mem_filter.mp h).2, fun h => List.mem_filter.mpr ⟨(mem_stksL hL).mpr hs, h⟩⟩
theorem w_popcat {i l : Nat} {ρ : List Sl} {ds fs : List D} {me : ME} {f bk ct : List Sl → Prop} {r : D → Prop} (hg : gt ρ i = .ow ds) (hf : gt ρ l = .da (.tuple fs)) (h : me ρ fun d => ∃ n, d = .int n ∧ ∃ z, 0 ≤ n ∧ n < ds.length ∧ ds[n.toNat]? = some z ∧ ds.length ≤ sizeLine ∧ fs.length + 1 ≤ sizeLine ∧ f ((ρ.set i (.ow (ds.eraseIdx n.toNat))).set l (.da (.tuple (fs ++ [z]))))) : mPopCat i l me ρ ⟨f, r, bk, ct⟩ := by
  unfold mPopCat
  rw [hg, hf]
  rw [fun_i] at h
  exact h
theorem erase_map (left : List Str) (k : Nat) : (left.map PyData.str).eraseIdx k = (left.eraseIdx k).map PyData.str := by
  induction left generalizing k with
  | nil => cases k <;> rfl
  | cons x left ih =>
    cases k with
    | zero => rfl
    | succ k => simp only [List.map_cons, List.eraseIdx_cons_succ, ih]
theorem erase_perm : ∀ (l : List Str) (k : Nat) (h : k < l.length), (l[k] :: l.eraseIdx k).Perm l
  | x :: l, 0, _ => List.Perm.refl _
  | x :: l, k + 1, h => by
    rw [List.eraseIdx_cons_succ, List.getElem_cons_succ]
    exact (List.Perm.swap _ _ _).trans (List.Perm.cons x (erase_perm l k (by simpa using h)))
theorem c_shuffled {wl : Addr} {s : List Str} (hl : s.length ≤ 7) {P X} (h : ∀ t : List Str, t.Perm s → P (stkD t)) : ph__law_shuffled wl [.rw (.ref wl), .da (stkD s)] P X := by
  refine w_body ?_; unfold m__law_shuffled; walk_at "px"
  have hsz : sizeLine = 16777216 := rfl
  refine ⟨by rw [List.length_map]; omega, by rw [List.length_map]; omega, ?_⟩
  unfold upto
  refine for_invT (enc := fun i : Nat => .int (i : Int)) (fun u v ρ => ∃ left found : List Str, left.length + u.length = s.length ∧ (found ++ left).Perm s ∧ ρ = [.rw (.ref wl), .da (stkD s), .un, .ow (left.map .str), .da (stkD found)]) _ ?_ ⟨s, [], by simp, List.Perm.refl _, rfl⟩ ?_
  · rintro u v i ρ k e ⟨left, found, hln, hp, rfl⟩ hk
    obtain ⟨hi, hu⟩ := range_at e
    rw [List.length_map] at hu
    have hfl : found.length ≤ 7 := by
      have := hp.length_eq
      rw [List.length_append] at this
      omega
    walk_at "px"
    refine w_popcat rfl rfl ?_
    walk_at "px"
    refine c_draw (by rw [List.length_map]; omega) (by rw [List.length_map]; omega) fun x hx1 hx2 => ?_
    rw [List.length_map] at hx2
    have hxl : x.toNat < left.length := by omega
    refine ⟨_, rfl, .str left[x.toNat], hx1, by rw [List.length_map]; exact hx2, by rw [List.getElem?_map, List.getElem?_eq_getElem hxl]; rfl, by rw [List.length_map]; omega, by rw [List.length_map]; omega, ?_⟩
    refine hk _ ⟨left.eraseIdx x.toNat, found ++ [left[x.toNat]], ?_, ?_, ?_⟩
    · rw [List.length_eraseIdx_of_lt hxl, List.length_append]
      simp only [List.length_cons, List.length_nil]
      omega
    · rw [List.append_assoc]
      exact (List.Perm.append_left found (erase_perm left x.toNat hxl)).trans hp
    · rw [← erase_map]
      have em : stkD (found ++ [left[x.toNat]]) = .tuple (found.map .str ++ [.str left[x.toNat]]) := by simp
      rw [em]
      rfl
  · rintro ρ ⟨left, found, hln, hp, rfl⟩
    walk_at "px"
    have : left = [] := by
      rw [List.length_range, List.length_map] at hln
      exact List.length_eq_zero_iff.mp (by omega)
    subst this
    rw [List.append_nil] at hp
    exact h _ hp
def glL (L : List Crt) : List (List Str) := (tsort ((goodL L).map fun s => (⟨s⟩ : PySem.W.Tup Str))).map (·.items)
theorem gl_perm (L : List Crt) : (glL L).Perm (goodL L) := by
  have h := (tsort_perm (xs := (goodL L).map fun s => (⟨s⟩ : PySem.W.Tup Str))).map (·.items)
  rw [List.map_map] at h
  have e : (goodL L).map ((fun x : PySem.W.Tup Str => x.items) ∘ fun s => (⟨s⟩ : PySem.W.Tup Str)) = goodL L := by
    conv => rhs; rw [← List.map_id (goodL L)]
    exact List.map_congr_left fun s _ => rfl
  rw [e] at h
  exact h
theorem upto_take {s : List Str} (hn : s.Nodup) {k : Nat} (hk : k ≤ s.length) : (List.range k).map (fun i : Nat => PyData.int (i : Int)) = (s.take k).map fun z => .int ((s.idxOf z : Nat) : Int) := by
  refine List.ext_getElem? fun i => ?_
  rw [List.getElem?_map, List.getElem?_map]
  by_cases hi : i < k
  · rw [List.getElem?_range hi, List.getElem?_take_of_lt hi, List.getElem?_eq_getElem (by omega)]
    have : s.idxOf s[i] = i := List.Nodup.idxOf_getElem hn i (by omega)
    simp [this]
  · rw [List.getElem?_eq_none (by simp; omega), List.getElem?_eq_none (by rw [List.length_take]; omega)]
    rfl
theorem perm_ok {L : List Crt} {t : List Str} (hL : LotOk L) (h : t.Perm (nms L)) : StkOk L t := ⟨h.nodup_iff.mpr hL.nodup, fun z hz => h.mem_iff.mp hz, fun z hz => h.mem_iff.mpr hz⟩
theorem gl_mem {L : List Crt} {s : List Str} : s ∈ glL L ↔ s ∈ goodL L := (gl_perm L).mem_iff
theorem gl_few {L : List Crt} (h4 : L.length ≤ 5) : (glL L).length ≤ 3125 := by
  rw [(gl_perm L).length_eq]
  exact Nat.le_trans (List.length_filter_le _ _) (stksL_len5 h4 _ h4)
theorem gl_names {L : List Crt} (hL : LotOk L) : ∀ s ∈ glL L, ∀ z ∈ s, NameOk z := fun s hs z hz => hL.names z ((good_ok hL (gl_mem.mp hs)).sub z hz)
end K75

set_option Elab.async false
set_option linter.all false
set_option maxRecDepth 100000
set_option maxHeartbeats 4000000
namespace K75
open PySem PySem.Spec L2 Pu Pl
open PyProof.Rows hiding St
local macro_rules | `(tactic| walk_at "px1") => `(tactic| first
  | (with_reducible refine w_seq ?_)
  | (with_reducible refine w_nx ?_)
  | (with_reducible refine w_rt ?_)
  | (with_reducible refine w_next ?_)
  | (with_reducible refine w_ret ?_)
  | (with_reducible refine w_retN ?_)
  | (with_reducible refine w_do ?_)
  | (with_reducible refine w_if ?_)
  | (with_reducible refine w_asgN ?_)
  | (with_reducible refine w_asg ?_)
  | (with_reducible refine w_gn ?_)
  | (with_reducible refine w_gcs ?_)
  | (with_reducible refine w_gnl ?_)
  | (with_reducible refine w_setO ?_)
  | (with_reducible refine w_par2 ?_)
  | (with_reducible refine w_par3 ?_)
  | (with_reducible refine w_ex2 ?_)
  | (with_reducible refine w_ex3 ?_)
  | (with_reducible refine w_xnil ?_)
  | (with_reducible refine w_xda ?_)
  | (with_reducible refine w_xow ?_)
  | (with_reducible refine w_test ?_)
  | (with_reducible refine w_exb ?_)
  | (with_reducible refine w_and ?_)
  | (with_reducible refine w_or ?_)
  | (with_reducible refine w_not ?_)
  | (with_reducible refine w_andV ?_)
  | (with_reducible refine w_orV ?_)
  | (with_reducible refine w_notV ?_)
  | (with_reducible refine w_ifE ?_)
  | (with_reducible refine w_ifT ?_)
  | (with_reducible refine w_ifF ?_)
  | (with_reducible refine w_ifNT ?_)
  | (with_reducible refine w_ifNF ?_)
  | (with_reducible refine w_isi ?_)
  | (with_reducible refine w_c ?_)
  | (with_reducible refine w_bin ?_)
  | (with_reducible refine w_oI ?_)
  | (with_reducible refine w_L ?_)
  | (with_reducible refine w_anil ?_)
  | (with_reducible refine w_ada ?_)
  | (with_reducible refine w_bnil ?_)
  | (with_reducible refine w_bcons ?_)
  | (with_reducible refine w_dcons ?_)
  | (with_reducible refine w_ndI ?_)
  | (with_reducible refine w_ndS ?_)
  | (with_reducible refine w_ndB ?_)
  | (with_reducible refine w_ndN ?_)
  | (with_reducible refine w_ndT ?_)
  | (with_reducible refine w_ndL ?_)
  | (with_reducible refine w_tup ?_)
  | (with_reducible refine w_lst ?_)
  | (with_reducible refine w_len0 ?_)
  | (with_reducible refine w_len1 ?_)
  | (with_reducible refine w_len2 ?_)
  | (with_reducible refine w_len3 ?_)
  | (with_reducible refine w_len4 ?_)
  | (with_reducible refine w_len5 ?_)
  | (with_reducible refine w_len6 ?_)
  | (with_reducible refine w_len7 ?_)
  | (with_reducible refine w_ltS ?_)
  | (with_reducible refine w_isN0 ?_)
  | (with_reducible refine w_isNi ?_)
  | (with_reducible refine w_isNs ?_)
  | (with_reducible refine w_isNt ?_)
  | (with_reducible refine w_noN0 ?_)
  | (with_reducible refine w_noNi ?_)
  | (with_reducible refine w_noNs ?_)
  | (with_reducible refine w_noNt ?_)
  | (with_reducible refine w_c1 ?_)
  | (with_reducible refine w_co ?_)
  | (with_reducible refine w_lenT ?_)
  | (with_reducible refine w_lenL ?_)
  | (with_reducible refine w_int ?_)
  | (with_reducible refine w_max2 ?_)
  | (with_reducible refine w_min2 ?_)
  | (with_reducible refine w_tupL ?_)
  | (with_reducible refine w_tupT ?_)
  | (with_reducible refine w_listL ?_)
  | (with_reducible refine w_listT ?_)
  | (with_reducible refine w_neg1 ?_)
  | (with_reducible refine w_un ?_)
  | (with_reducible refine w_call ?_)
  | (with_reducible refine w_callD ?_)
  | (with_reducible refine w_callK ?_)
  | (with_reducible refine w_callC ?_)
  | (with_reducible refine w_itL ?_)
  | (with_reducible refine w_itT ?_)
  | (with_reducible refine w_exl ?_)
  | (with_reducible refine w_ext' ?_)
  | (with_reducible refine w_rng ?_)
  | (with_reducible refine w_rng2 ?_)
  | (with_reducible refine w_rng3 ?_)
  | (with_reducible refine w_for ?_)
  | (with_reducible refine w_lc ?_)
  | (with_reducible refine w_lc2 ?_)
  | (with_reducible refine w_yes ?_)
  | (with_reducible refine w_dc ?_)
  | (with_reducible refine w_di ?_)
  | (with_reducible refine w_kydS ?_)
  | (with_reducible refine w_kydI ?_)
  | (with_reducible refine w_dget ?_)
  | (with_reducible refine w_en ?_)
  | (with_reducible refine w_enT ?_)
  | (with_reducible refine w_enL ?_)
  | (with_reducible refine w_zip ?_)
  | (with_reducible refine w_zTT ?_)
  | (with_reducible refine w_zTL ?_)
  | (with_reducible refine w_zLT ?_)
  | (with_reducible refine w_zLL ?_)
  | (with_reducible refine w_catL ?_)
  | (with_reducible refine w_idxT ?_)
  | (with_reducible refine w_no ?_)
  | (with_reducible refine w_exi ?_)
  | (with_reducible refine w_so ?_)
  | (with_reducible refine w_slT ?_)
  | (with_reducible refine w_slL ?_)
  | (with_reducible refine w_leLe ?_)
  | (with_reducible refine w_exs ?_)
  | (with_reducible refine w_itS ?_)
  | (with_reducible refine w_exii ?_)
  | (with_reducible refine w_ex1i ?_)
  | (with_reducible refine w_ex2i ?_)
  | (with_reducible refine w_ex3i ?_)
  | (with_reducible refine w_exll ?_)
  | (with_reducible refine w_seqO ?_)
  | (with_reducible refine w_absI ?_)
  | (with_reducible refine w_split ?_)
  | (with_reducible refine w_repL ?_)
  | (with_reducible refine w_eqI ?_)
  | (with_reducible refine w_neI ?_)
  | (with_reducible refine w_eqBtt ?_)
  | (with_reducible refine w_eqBtf ?_)
  | (with_reducible refine w_eqBft ?_)
  | (with_reducible refine w_eqBff ?_)
  | (with_reducible refine w_neBtt ?_)
  | (with_reducible refine w_neBtf ?_)
  | (with_reducible refine w_neBft ?_)
  | (with_reducible refine w_neBff ?_)
  | (with_reducible refine w_eqB ?_)
  | (with_reducible refine w_neB ?_)
  | (with_reducible refine w_eqLL ?_)
  | (with_reducible refine w_neLL ?_)
  | (with_reducible refine w_eqTT ?_)
  | (with_reducible refine w_eqIN ?_)
  | (with_reducible refine w_inT ?_)
  | (with_reducible refine w_inL ?_)
  | (with_reducible refine w_niT ?_)
  | (with_reducible refine w_niL ?_)
  | (with_reducible refine w_ni0 ?_)
  | (with_reducible refine w_in0 ?_)
  | (with_reducible refine w_all ?_)
  | (with_reducible refine w_sum ?_)
  | (with_reducible refine w_callL ?_)
  | (with_reducible refine w_dzip ?_)
  | (with_reducible refine w_dseq ?_)
  | (with_reducible refine w_keyS ?_)
  | (with_reducible refine w_xod ?_)
  | (with_reducible refine w_isx ?_)
  | (with_reducible refine w_callX ?_)
  | (with_reducible refine w_raise0 ?_)
  | ((with_reducible refine' w_frz ?pxg ?_); (case pxg => exact rfl))
  | ((with_reducible refine' w_app ?pxg ?_); (case pxg => exact rfl))
  | ((with_reducible refine' w_ext ?pxg ?_); (case pxg => exact rfl))
  | ((with_reducible refine' w_aug ?pxg ?_); (case pxg => exact rfl))
  | ((with_reducible refine' w_var ?pxg ?_); (case pxg => exact rfl))
  | ((with_reducible refine' w_varB ?pxg ?_); (case pxg => exact rfl))
  | ((with_reducible refine' w_varBo ?pxg ?_); (case pxg => exact rfl))
  | ((with_reducible refine' w_varBd ?pxg ?_); (case pxg => exact rfl))
  | ((with_reducible refine' w_arw ?pxg ?_); (case pxg => exact rfl))
  | ((with_reducible refine' w_clo ?pxg ?_); (case pxg => exact rfl))
  | ((with_reducible refine' w_ixT ?pxg ?_); (case pxg => exact rfl))
  | ((with_reducible refine' w_ixL ?pxg ?_); (case pxg => exact rfl))
  | ((with_reducible refine' w_gtp ?pxg ?_); (case pxg => exact rfl))
  | ((with_reducible refine' w_gtpl ?pxg ?_); (case pxg => exact rfl))
  | ((with_reducible refine' w_odget ?pxg ?_); (case pxg => exact rfl))
  | ((with_reducible refine' w_odput ?pxg ?_); (case pxg => exact rfl))
  | ((with_reducible refine' w_ty ?pxg ?_); (case pxg => first | exact ty_int_int _ | exact ty_int_bool _ | exact ty_int_tup _ | exact ty_int_str _ | exact ty_tup_tup _ | exact ty_tup_int _ | exact ty_tup_bool _ | exact ty_tup_str _ | exact ty_str_tup _ | exact ty_str_str _ | exact ty_str_int _ | exact ty_str_bool _ | exact ty_none_tup | exact ty_none_int | exact ty_none_bool | exact ty_none_str | exact ty_bool_tup _ | exact ty_bool_int _ | exact ty_bool_bool _ | exact ty_bool_str _)))
local macro_rules | `(tactic| walk_at "px") => `(tactic| repeat walk_at "px1")

/-! pieces, what was seen -/
abbrev pcR (r : Crt) : D := .tuple [.str r.n, .int r.w]
abbrev pcD (L : List Crt) : D := .tuple (L.map pcR)
structure Sgt where
  s : List Str
  z : Str
abbrev sgR (q : Sgt) : D := .tuple [stkD q.s, .str q.z]
abbrev snD (S : List Sgt) : D := .tuple (S.map sgR)
structure SgOk (L : List Crt) (q : Sgt) : Prop where
  ne : q.s ≠ []
  nd : q.s.Nodup
  sub : ∀ x ∈ q.s, x ∈ nms L
  br : q.z = ("" : Str) ∨ q.z ∈ q.s
structure SnOk (L : List Crt) (S : List Sgt) : Prop where
  few : S.length ≤ 5
  ok : ∀ q ∈ S, SgOk L q
theorem name_ne {x : Str} (h : NameOk x) : x ≠ ("" : Str) := fun e => by
  have := h.lo
  rw [e] at this
  exact absurd this (by decide +kernel)
theorem SgOk.few {L : List Crt} {q : Sgt} (hL : LotOk L) (h : SgOk L q) : q.s.length ≤ 7 := by
  have := Pm.len_le h.nd h.sub
  have e : (nms L).length = L.length := List.length_map ..
  have := hL.few
  omega
theorem emp_ok : PyData.strOk ("" : Str) = true := by decide +kernel
theorem SgOk.zok {L : List Crt} {q : Sgt} (hL : LotOk L) (h : SgOk L q) : PyData.strOk q.z = true := by
  rcases h.br with e | e
  · rw [e]; exact emp_ok
  · exact (hL.names _ (h.sub _ e)).ok
theorem SgOk.mem {L : List Crt} {q : Sgt} {x : Str} (hx : NameOk x) (h : SgOk L q) (e : x = q.z) : x ∈ q.s := by
  rcases h.br with e2 | e2
  · exact (name_ne hx (e.trans e2)).elim
  · rw [e]; exact e2
/-! the lot without what is borne -/
def zL (L : List Crt) : List Crt := L.map fun r => ⟨r.n, r.w, 0⟩
theorem zL_nms (L : List Crt) : nms (zL L) = nms L := by
  unfold nms zL
  rw [List.map_map]
  rfl
theorem zL_ok {L : List Crt} (h : LotOk L) : LotOk (zL L) where
  few := by unfold zL; rw [List.length_map]; exact h.few
  row := fun r hr => by
    obtain ⟨q, hq, rfl⟩ := List.mem_map.mp hr
    have := h.row q hq
    exact ⟨this.nm, this.w1, this.w2, Int.le_refl _, by show (0 : Int) ≤ 999; decide⟩
  asc := fun i a b ha hb => by
    unfold zL at ha hb
    rw [List.getElem?_map] at ha hb
    cases e1 : L[i]? with
    | none => rw [e1] at ha; cases ha
    | some p =>
      cases e2 : L[i + 1]? with
      | none => rw [e2] at hb; cases hb
      | some q =>
        rw [e1] at ha
        rw [e2] at hb
        cases ha
        cases hb
        exact h.asc i p q e1 e2
theorem zL_wt (L : List Crt) (z : Str) : wt (zL L) z = wt L z := by
  unfold wt Pl.rowOf zL
  rw [List.find?_map]
  cases e : L.find? ((fun r : Crt => decide (r.n = z)) ∘ fun r => ⟨r.n, r.w, 0⟩) with
  | none =>
    have e' : L.find? (fun r => decide (r.n = z)) = none := e
    rw [e']
    rfl
  | some r =>
    have e' : L.find? (fun r => decide (r.n = z)) = some r := e
    rw [e']
    rfl
theorem zL_ld (L : List Crt) (s : List Str) (z : Str) : ldO (zL L) s z = ldO L s z := by
  unfold ldO
  rw [show wt (zL L) = wt L from funext (zL_wt L)]
/-! loads by name -/
def ldK (L : List Crt) (s : List Str) : List (D × D) := putAll [] (s.map fun x => (.inr x, .int (ldO L s x)))
theorem ld_look {L : List Crt} {s : List Str} {x : Str} (hx : x ∈ s) : lookD (ldK L s) (.inr x) = some (.int (ldO L s x)) := by
  refine look_all (F := keyV fun z => .int (ldO L s z)) _ _ (fun p hp => ?_) (.inr ⟨_, List.mem_map.mpr ⟨x, hx, rfl⟩, rfl⟩)
  obtain ⟨r, hr, rfl⟩ := List.mem_map.mp hp
  rfl
/-! greatest, least -/
def mx (a b : Int) : Int := if b > a then b else a
def mn (a b : Int) : Int := if b < a then b else a
theorem fold_mx : ∀ (l : List Int) (a : Int), l.foldl mx a ∈ a :: l ∧ ∀ y ∈ a :: l, y ≤ l.foldl mx a
  | [], a => ⟨List.mem_cons_self, fun y hy => by rw [List.mem_singleton.mp hy]; exact Int.le_refl _⟩
  | b :: l, a => by
    obtain ⟨h1, h2⟩ := fold_mx l (mx a b)
    have hm : mx a b = a ∨ mx a b = b := by unfold mx; split <;> simp
    have ha : a ≤ mx a b := by unfold mx; split <;> omega
    have hb : b ≤ mx a b := by unfold mx; split <;> omega
    refine ⟨?_, fun y hy => ?_⟩
    · show l.foldl mx (mx a b) ∈ _
      rcases List.mem_cons.mp h1 with e | e
      · rw [e]
        rcases hm with e2 | e2 <;> rw [e2] <;> simp
      · exact List.mem_cons_of_mem _ (List.mem_cons_of_mem _ e)
    · show y ≤ l.foldl mx (mx a b)
      have h0 := h2 _ List.mem_cons_self
      rcases List.mem_cons.mp hy with e | hy
      · omega
      · rcases List.mem_cons.mp hy with e | hy
        · omega
        · exact h2 y (List.mem_cons_of_mem _ hy)
theorem fold_mn : ∀ (l : List Int) (a : Int), l.foldl mn a ∈ a :: l ∧ ∀ y ∈ a :: l, l.foldl mn a ≤ y
  | [], a => ⟨List.mem_cons_self, fun y hy => by rw [List.mem_singleton.mp hy]; exact Int.le_refl _⟩
  | b :: l, a => by
    obtain ⟨h1, h2⟩ := fold_mn l (mn a b)
    have hm : mn a b = a ∨ mn a b = b := by unfold mn; split <;> simp
    have ha : mn a b ≤ a := by unfold mn; split <;> omega
    have hb : mn a b ≤ b := by unfold mn; split <;> omega
    refine ⟨?_, fun y hy => ?_⟩
    · show l.foldl mn (mn a b) ∈ _
      rcases List.mem_cons.mp h1 with e | e
      · rw [e]
        rcases hm with e2 | e2 <;> rw [e2] <;> simp
      · exact List.mem_cons_of_mem _ (List.mem_cons_of_mem _ e)
    · show l.foldl mn (mn a b) ≤ y
      have h0 := h2 _ List.mem_cons_self
      rcases List.mem_cons.mp hy with e | hy
      · omega
      · rcases List.mem_cons.mp hy with e | hy
        · omega
        · exact h2 y (List.mem_cons_of_mem _ hy)
theorem w_maxL {xs : List Int} {m : Int} {P : D → Prop} (hm : m ∈ xs) (hl : ∀ y ∈ xs, y ≤ m) (h : P (.int m)) : oMaxL [.list (xs.map .int)] P := by
  refine ⟨xs, ?_, by cases xs with | nil => cases hm | cons a b => exact Nat.zero_lt_succ _, fun m' h1 h2 => ?_⟩
  · have := ints_map (fun i : Int => i) xs
    rw [List.map_id'] at this
    exact this
  · have : m' = m := Int.le_antisymm (hl m' h1) (h2 m hm)
    rw [this]
    exact h
theorem w_minL {xs : List Int} {m : Int} {P : D → Prop} (hm : m ∈ xs) (hl : ∀ y ∈ xs, m ≤ y) (h : P (.int m)) : oMinL [.list (xs.map .int)] P := by
  refine ⟨xs, ?_, by cases xs with | nil => cases hm | cons a b => exact Nat.zero_lt_succ _, fun m' h1 h2 => ?_⟩
  · have := ints_map (fun i : Int => i) xs
    rw [List.map_id'] at this
    exact this
  · have : m' = m := Int.le_antisymm (h2 m hm) (hl m' h1)
    rw [this]
    exact h
def bor (x : Str) (q : Sgt) : Bool := decide (x ∈ q.s) && !decide (x = q.z)
def borL (L : List Crt) (S : List Sgt) (x : Str) : List Int := (S.filter (bor x)).map fun q => ldO L q.s x
def broL (L : List Crt) (S : List Sgt) (x : Str) : List Int := (S.filter fun q => decide (x = q.z)).map fun q => ldO L q.s x
def lowI (L : List Crt) (S : List Sgt) (x : Str) : Int := (borL L S x).foldl mx 0
def topI (L : List Crt) (S : List Sgt) (x : Str) : Int := ((broL L S x).map fun i => i - 1).foldl mn 999
/-! program -/
theorem c_is_tuple {ds : List D} {n : Int} {P X} (hl : (ds.length : Int) = n) (h : P (.bool true)) : ph_is_tuple_of [.da (.tuple ds), .da (.int n)] P X := by
  refine w_body ?_; unfold m_is_tuple_of; walk_at "px"
  rw [decide_eq_true hl]
  exact h
theorem c_is_piece {r : Crt} (hr : RowOk r) {P X} (h : P (.bool true)) : ph_is_piece [.da (pcR r)] P X := by
  refine w_body ?_; unfold m_is_piece; walk_at "px"
  refine c_is_tuple rfl ?_
  walk_at "px"
  refine c_is_name hr.nm ?_
  walk_at "px"
  exact c_is_number hr.w1 hr.w2 h
theorem pc_shp {L : List Crt} (h : ∀ r ∈ L, RowOk r) : Shp 2 (pcD L) := Shp.tup fun d hd => by
  obtain ⟨r, hr, rfl⟩ := List.mem_map.mp hd
  refine Shp.tup fun d hd => ?_
  simp only [List.mem_cons, List.not_mem_nil, or_false] at hd
  rcases hd with rfl | rfl
  · exact Shp.str (h r hr).nm.ok
  · exact Shp.int
theorem c_from_one {α : Type} {enc : α → D} {f : Addr} {Φ : Phi} {vs : List α} {md : D} {P X} (hne : vs ≠ []) (hsh : SeqAt.shaped (.tuple (vs.map enc)) = true) (hm : ∀ i : Nat, i < vs.length → ∀ P : D → Prop, P (.bool false) → oEq false (.int (i : Int)) md P)
    (hΦ : ∀ (i : Nat) (d : α), vs[i]? = some d → ∀ Q : D → Prop, Q (.bool true) → Φ [.da (enc d), .da (.tuple ((vs.take i).map enc))] Q fun _ => False)
    (h : P (.list [])) : ps_wrong_from_one f Φ [.da (.tuple (vs.map enc)), .da md, .rw (.ref f)] P X := by
  refine w_body ?_; unfold m_wrong_from_one; walk_at "px"
  refine w_eqT0 hsh ?_
  rw [decide_eq_false (fun e => hne (List.map_eq_nil_iff.mp e))]
  walk_at "px"
  exact c_wrong_at hm hΦ h
theorem c_right_piece {L : List Crt} (hL : LotOk L) {i : Nat} {r : Crt} (hi : L[i]? = some r) {P X} (h : P (.bool true)) : pr_wrong_pieces [] [.da (pcR r), .da (pcD (L.take i))] P X := by
  have hr : RowOk r := hL.row r (List.mem_of_getElem? hi)
  refine w_clos ?_; unfold mr_wrong_pieces; walk_at "px"
  refine c_is_piece hr ?_
  walk_at "px"
  refine w_eqT0 ((pc_shp fun q hq => hL.row q (List.mem_of_mem_take hq)).ok (by decide)) ?_
  cases i with
  | zero =>
    simp only [List.take_zero, List.map_nil, decide_true]
    walk_at "px"
    exact h
  | succ i =>
    have hl : i + 1 < L.length := (List.getElem?_eq_some_iff.mp hi).1
    have hp : L[i]? = some (L[i]'(by omega)) := List.getElem?_eq_getElem (by omega)
    have e : L.take (i + 1) = L.take i ++ [L[i]'(by omega)] := (List.take_append_getElem (by omega)).symm
    have ha := hL.asc i _ _ hp hi
    rw [decide_eq_false (by rw [e, List.map_append]; exact List.append_ne_nil_of_right_ne_nil _ (List.cons_ne_nil _ _))]
    walk_at "px"
    refine ⟨pcR (L[i]'(by omega)), by rw [e, List.map_append]; exact atI_last _ _, ?_⟩
    walk_at "px"
    rw [decide_eq_true ha]
    exact h
theorem c_wrong_pieces {L : List Crt} (hL : LotOk L) (h1 : 1 ≤ L.length) {P X} (h : P (.list [])) : ph_wrong_pieces [.da (pcD L)] P X := by
  refine w_body ?_; unfold m_wrong_pieces; walk_at "px"
  refine w_ndef [] rfl (by decide) fun a => ?_
  walk_at "px"
  refine c_from_one (fun e => by rw [e] at h1; exact absurd h1 (by decide)) ((pc_shp hL.row).ok (by decide)) (fun i hi P hP => w_eqI ?_) (fun i d hd Q hq => c_right_piece hL hd hq) h
  have := hL.few
  rw [decide_eq_false (by omega)]
  exact hP
theorem c_piece_names {L : List Crt} {P X} (h : P (stkD (nms L))) : ph_piece_names [.da (pcD L)] P X := by
  refine w_body ?_; unfold m_piece_names; walk_at "px"
  refine lc_mapT (dec := fun r : Crt => .str r.n) _ (fun r hr Q hq => ?_) ?_
  · walk_at "px"
    exact hq
  · walk_at "px"
    have e : L.map (fun r : Crt => PyData.str r.n) = (nms L).map .str := by unfold nms; rw [List.map_map]; rfl
    rw [e]
    exact h
theorem c_wrong_order {N s : List Str} (hN : ∀ z ∈ s, z ∈ N) (hn : ∀ z ∈ s, NameOk z) (hd : s.Nodup) (hne : s ≠ []) {P X} (h : P (.list [])) : ph_wrong_order [.da (stkD N), .da (stkD s)] P X := by
  refine w_body ?_; unfold m_wrong_order; walk_at "px"
  refine ⟨[stkD N], rfl, fun d hd => by rw [List.mem_singleton.mp hd]; rfl, fun f => ?_⟩
  refine c_from_one hne ((stk_shp hn).ok (by decide)) (fun i hi P hP => w_eqIN hP) (fun i z hi Q hq => ?_) h
  refine w_clam ?_; unfold ml_wrong_order_lam; walk_at "px"
  refine c_is_one_of (hN z (List.mem_of_getElem? hi)) ?_
  walk_at "px"
  rw [decide_eq_false (mem_pre hd hi)]
  exact hq
theorem c_is_sight {L : List Crt} {q : Sgt} (hL : LotOk L) (hq : SgOk L q) {P X} (h : P (.bool true)) : ph_is_sight [.da (stkD (nms L)), .da (sgR q)] P X := by
  refine w_body ?_; unfold m_is_sight; walk_at "px"
  refine c_is_tuple rfl ?_
  walk_at "px"
  refine c_wrong_order hq.sub (fun z hz => hL.names z (hq.sub z hz)) hq.nd hq.ne ?_
  walk_at "px"
  refine w_catT (xs := [.str ""]) (ds := q.s.map .str) ?_ ?_
  · have := hq.few hL
    have : sizeLine = 16777216 := rfl
    rw [List.length_map]
    show 1 + _ ≤ _
    omega
  walk_at "px"
  refine c_is_one_of (N := ("" : Str) :: q.s) ?_ h
  rcases hq.br with e | e
  · rw [e]; exact List.mem_cons_self
  · exact List.mem_cons_of_mem _ e
theorem c_wrong_seen {L : List Crt} {S : List Sgt} (hL : LotOk L) (hS : SnOk L S) {P X} (h : P (.list [])) : ph_wrong_seen [.da (pcD L), .da (snD S)] P X := by
  refine w_body ?_; unfold m_wrong_seen; walk_at "px"
  refine c_piece_names ?_
  walk_at "px"
  refine ⟨[stkD (nms L)], rfl, fun d hd => by rw [List.mem_singleton.mp hd]; rfl, fun f => ?_⟩
  refine c_wrong_at (fun i hi P hP => w_eqI ?_) (fun i q hi Q hq => ?_) h
  · have := hS.few
    rw [decide_eq_false (by omega)]
    exact hP
  · refine w_clam ?_; unfold ml_wrong_seen_lam; walk_at "px"
    exact c_is_sight hL (hS.ok q (List.mem_of_getElem? hi)) hq
theorem w_for0 {st} {E : PEn} {ρ} (h : E.nx ρ) : forW st E [] ρ := h
theorem c_check_seen {L : List Crt} {S : List Sgt} (hL : LotOk L) (h1 : 1 ≤ L.length) (hS : SnOk L S) {P X} (h : P .none) : ph_check_seen [.da (pcD L), .da (snD S)] P X := by
  refine w_body ?_; unfold m_check_seen; walk_at "px"
  refine c_wrong_pieces hL h1 ?_
  refine ⟨[], rfl, w_for0 ?_⟩
  walk_at "px"
  refine c_wrong_seen hL hS ?_
  refine ⟨[], rfl, w_for0 ?_⟩
  walk_at "px"
  exact h
end K75

set_option Elab.async false
set_option linter.all false
set_option maxRecDepth 100000
set_option maxHeartbeats 4000000
namespace K75
open PySem PySem.Spec L2 Pu Pl
open PyProof.Rows hiding St
local macro_rules | `(tactic| walk_at "px1") => `(tactic| first
  | (with_reducible refine w_seq ?_)
  | (with_reducible refine w_nx ?_)
  | (with_reducible refine w_rt ?_)
  | (with_reducible refine w_next ?_)
  | (with_reducible refine w_ret ?_)
  | (with_reducible refine w_retN ?_)
  | (with_reducible refine w_do ?_)
  | (with_reducible refine w_if ?_)
  | (with_reducible refine w_asgN ?_)
  | (with_reducible refine w_asg ?_)
  | (with_reducible refine w_gn ?_)
  | (with_reducible refine w_gcs ?_)
  | (with_reducible refine w_gnl ?_)
  | (with_reducible refine w_setO ?_)
  | (with_reducible refine w_par2 ?_)
  | (with_reducible refine w_par3 ?_)
  | (with_reducible refine w_ex2 ?_)
  | (with_reducible refine w_ex3 ?_)
  | (with_reducible refine w_xnil ?_)
  | (with_reducible refine w_xda ?_)
  | (with_reducible refine w_xow ?_)
  | (with_reducible refine w_test ?_)
  | (with_reducible refine w_exb ?_)
  | (with_reducible refine w_and ?_)
  | (with_reducible refine w_or ?_)
  | (with_reducible refine w_not ?_)
  | (with_reducible refine w_andV ?_)
  | (with_reducible refine w_orV ?_)
  | (with_reducible refine w_notV ?_)
  | (with_reducible refine w_ifE ?_)
  | (with_reducible refine w_ifT ?_)
  | (with_reducible refine w_ifF ?_)
  | (with_reducible refine w_ifNT ?_)
  | (with_reducible refine w_ifNF ?_)
  | (with_reducible refine w_isi ?_)
  | (with_reducible refine w_c ?_)
  | (with_reducible refine w_bin ?_)
  | (with_reducible refine w_oI ?_)
  | (with_reducible refine w_L ?_)
  | (with_reducible refine w_anil ?_)
  | (with_reducible refine w_ada ?_)
  | (with_reducible refine w_bnil ?_)
  | (with_reducible refine w_bcons ?_)
  | (with_reducible refine w_dcons ?_)
  | (with_reducible refine w_ndI ?_)
  | (with_reducible refine w_ndS ?_)
  | (with_reducible refine w_ndB ?_)
  | (with_reducible refine w_ndN ?_)
  | (with_reducible refine w_ndT ?_)
  | (with_reducible refine w_ndL ?_)
  | (with_reducible refine w_tup ?_)
  | (with_reducible refine w_lst ?_)
  | (with_reducible refine w_len0 ?_)
  | (with_reducible refine w_len1 ?_)
  | (with_reducible refine w_len2 ?_)
  | (with_reducible refine w_len3 ?_)
  | (with_reducible refine w_len4 ?_)
  | (with_reducible refine w_len5 ?_)
  | (with_reducible refine w_len6 ?_)
  | (with_reducible refine w_len7 ?_)
  | (with_reducible refine w_ltS ?_)
  | (with_reducible refine w_isN0 ?_)
  | (with_reducible refine w_isNi ?_)
  | (with_reducible refine w_isNs ?_)
  | (with_reducible refine w_isNt ?_)
  | (with_reducible refine w_noN0 ?_)
  | (with_reducible refine w_noNi ?_)
  | (with_reducible refine w_noNs ?_)
  | (with_reducible refine w_noNt ?_)
  | (with_reducible refine w_c1 ?_)
  | (with_reducible refine w_co ?_)
  | (with_reducible refine w_lenT ?_)
  | (with_reducible refine w_lenL ?_)
  | (with_reducible refine w_int ?_)
  | (with_reducible refine w_max2 ?_)
  | (with_reducible refine w_min2 ?_)
  | (with_reducible refine w_tupL ?_)
  | (with_reducible refine w_tupT ?_)
  | (with_reducible refine w_listL ?_)
  | (with_reducible refine w_listT ?_)
  | (with_reducible refine w_neg1 ?_)
  | (with_reducible refine w_un ?_)
  | (with_reducible refine w_call ?_)
  | (with_reducible refine w_callD ?_)
  | (with_reducible refine w_callK ?_)
  | (with_reducible refine w_callC ?_)
  | (with_reducible refine w_itL ?_)
  | (with_reducible refine w_itT ?_)
  | (with_reducible refine w_exl ?_)
  | (with_reducible refine w_ext' ?_)
  | (with_reducible refine w_rng ?_)
  | (with_reducible refine w_rng2 ?_)
  | (with_reducible refine w_rng3 ?_)
  | (with_reducible refine w_for ?_)
  | (with_reducible refine w_lc ?_)
  | (with_reducible refine w_lc2 ?_)
  | (with_reducible refine w_yes ?_)
  | (with_reducible refine w_dc ?_)
  | (with_reducible refine w_di ?_)
  | (with_reducible refine w_kydS ?_)
  | (with_reducible refine w_kydI ?_)
  | (with_reducible refine w_dget ?_)
  | (with_reducible refine w_en ?_)
  | (with_reducible refine w_enT ?_)
  | (with_reducible refine w_enL ?_)
  | (with_reducible refine w_zip ?_)
  | (with_reducible refine w_zTT ?_)
  | (with_reducible refine w_zTL ?_)
  | (with_reducible refine w_zLT ?_)
  | (with_reducible refine w_zLL ?_)
  | (with_reducible refine w_catL ?_)
  | (with_reducible refine w_idxT ?_)
  | (with_reducible refine w_no ?_)
  | (with_reducible refine w_exi ?_)
  | (with_reducible refine w_so ?_)
  | (with_reducible refine w_slT ?_)
  | (with_reducible refine w_slL ?_)
  | (with_reducible refine w_leLe ?_)
  | (with_reducible refine w_exs ?_)
  | (with_reducible refine w_itS ?_)
  | (with_reducible refine w_exii ?_)
  | (with_reducible refine w_ex1i ?_)
  | (with_reducible refine w_ex2i ?_)
  | (with_reducible refine w_ex3i ?_)
  | (with_reducible refine w_exll ?_)
  | (with_reducible refine w_seqO ?_)
  | (with_reducible refine w_absI ?_)
  | (with_reducible refine w_split ?_)
  | (with_reducible refine w_repL ?_)
  | (with_reducible refine w_eqI ?_)
  | (with_reducible refine w_neI ?_)
  | (with_reducible refine w_eqBtt ?_)
  | (with_reducible refine w_eqBtf ?_)
  | (with_reducible refine w_eqBft ?_)
  | (with_reducible refine w_eqBff ?_)
  | (with_reducible refine w_neBtt ?_)
  | (with_reducible refine w_neBtf ?_)
  | (with_reducible refine w_neBft ?_)
  | (with_reducible refine w_neBff ?_)
  | (with_reducible refine w_eqB ?_)
  | (with_reducible refine w_neB ?_)
  | (with_reducible refine w_eqLL ?_)
  | (with_reducible refine w_neLL ?_)
  | (with_reducible refine w_eqTT ?_)
  | (with_reducible refine w_eqIN ?_)
  | (with_reducible refine w_inT ?_)
  | (with_reducible refine w_inL ?_)
  | (with_reducible refine w_niT ?_)
  | (with_reducible refine w_niL ?_)
  | (with_reducible refine w_ni0 ?_)
  | (with_reducible refine w_in0 ?_)
  | (with_reducible refine w_all ?_)
  | (with_reducible refine w_sum ?_)
  | (with_reducible refine w_callL ?_)
  | (with_reducible refine w_dzip ?_)
  | (with_reducible refine w_dseq ?_)
  | (with_reducible refine w_keyS ?_)
  | (with_reducible refine w_xod ?_)
  | (with_reducible refine w_isx ?_)
  | (with_reducible refine w_callX ?_)
  | (with_reducible refine w_raise0 ?_)
  | ((with_reducible refine' w_frz ?pxg ?_); (case pxg => exact rfl))
  | ((with_reducible refine' w_app ?pxg ?_); (case pxg => exact rfl))
  | ((with_reducible refine' w_ext ?pxg ?_); (case pxg => exact rfl))
  | ((with_reducible refine' w_aug ?pxg ?_); (case pxg => exact rfl))
  | ((with_reducible refine' w_var ?pxg ?_); (case pxg => exact rfl))
  | ((with_reducible refine' w_varB ?pxg ?_); (case pxg => exact rfl))
  | ((with_reducible refine' w_varBo ?pxg ?_); (case pxg => exact rfl))
  | ((with_reducible refine' w_varBd ?pxg ?_); (case pxg => exact rfl))
  | ((with_reducible refine' w_arw ?pxg ?_); (case pxg => exact rfl))
  | ((with_reducible refine' w_clo ?pxg ?_); (case pxg => exact rfl))
  | ((with_reducible refine' w_ixT ?pxg ?_); (case pxg => exact rfl))
  | ((with_reducible refine' w_ixL ?pxg ?_); (case pxg => exact rfl))
  | ((with_reducible refine' w_gtp ?pxg ?_); (case pxg => exact rfl))
  | ((with_reducible refine' w_gtpl ?pxg ?_); (case pxg => exact rfl))
  | ((with_reducible refine' w_odget ?pxg ?_); (case pxg => exact rfl))
  | ((with_reducible refine' w_odput ?pxg ?_); (case pxg => exact rfl))
  | ((with_reducible refine' w_ty ?pxg ?_); (case pxg => first | exact ty_int_int _ | exact ty_int_bool _ | exact ty_int_tup _ | exact ty_int_str _ | exact ty_tup_tup _ | exact ty_tup_int _ | exact ty_tup_bool _ | exact ty_tup_str _ | exact ty_str_tup _ | exact ty_str_str _ | exact ty_str_int _ | exact ty_str_bool _ | exact ty_none_tup | exact ty_none_int | exact ty_none_bool | exact ty_none_str | exact ty_bool_tup _ | exact ty_bool_int _ | exact ty_bool_bool _ | exact ty_bool_str _)))
local macro_rules | `(tactic| walk_at "px") => `(tactic| repeat walk_at "px1")

theorem w_neS {a b : Str} (ha : PyData.strOk a = true) (hb : PyData.strOk b = true) {P : D → Prop} (h : P (.bool (!decide (a = b)))) : oEq true (.str a) (.str b) P := ⟨sh_str ha, sh_str hb, by
  rw [eqvS]; exact h⟩
theorem zip_self {α : Type} : ∀ xs : List α, xs.zip xs = xs.map fun x => (x, x)
  | [] => rfl
  | x :: xs => by rw [List.zip_cons_cons, zip_self xs]; rfl
theorem zip_same {α : Type} (f g : α → D) (xs : List α) : zipD (xs.map f) (xs.map g) = xs.map fun x => .tuple [f x, g x] := by
  rw [zip_map, zip_self, List.map_map]
  rfl
theorem zip_two {α β γ : Type} (f : α → β) (g : α → γ) : ∀ xs : List α, (xs.map f).zip (xs.map g) = xs.map fun x => (f x, g x)
  | [] => rfl
  | x :: xs => by rw [List.map_cons, List.map_cons, List.zip_cons_cons, zip_two f g xs]; rfl
theorem c_lwb {L : List Crt} {P X} (h : P (lotD (zL L))) : ph_lot_with_bears [.da (pcD L), .da (.list (L.map fun _ => .int 0))] P X := by
  refine w_body ?_; unfold m_lot_with_bears; walk_at "px"
  rw [zip_same pcR]
  refine lc_mapT (enc := fun r : Crt => .tuple [pcR r, .int 0]) (dec := fun r : Crt => rowD ⟨r.n, r.w, 0⟩) _ (fun r hr Q hq => ?_) ?_
  · walk_at "px"
    exact hq
  walk_at "px"
  have e : lotD (zL L) = .tuple (L.map fun r : Crt => rowD ⟨r.n, r.w, 0⟩) := by
    unfold lotD zL
    rw [List.map_map]
    rfl
  rw [e] at h
  exact h
theorem c_loads_of {L : List Crt} {s : List Str} (hL : LotOk L) (hd : s.Nodup) (hs : ∀ z ∈ s, z ∈ nms L) (hl : s.length ≤ 7) {P X} (h : P (.dict (ldK L s))) : ph_loads_of [.da (pcD L), .da (stkD s)] P X := by
  refine w_body ?_; unfold m_loads_of; walk_at "px"
  refine lc_mapT (dec := fun _ : Crt => .int 0) _ (fun r hr Q hq => ?_) ?_
  · walk_at "px"
    exact hq
  walk_at "px"
  refine c_lwb ?_
  walk_at "px"
  refine c_loads_in (zL_ok hL) (fun z hz => by rw [zL_nms]; exact hs z hz) hl ?_
  have e : ldI (zL L) s = s.map (ldO L s) := by
    rw [ldI_eq hd]
    exact List.map_congr_left fun z _ => zL_ld L s z
  rw [e, List.map_map]
  refine ⟨s.map .str, _, s.map fun x => (.inr x, .int (ldO L s x)), rfl, rfl, ?_, h⟩
  rw [zip_two, List.map_map]
  rfl
theorem c_loads_borne {L : List Crt} {S : List Sgt} {x : Str} (hL : LotOk L) (hS : SnOk L S) (hx : NameOk x) {P X} (h : P (.list ((0 :: borL L S x).map .int))) : ph_loads_borne [.da (pcD L), .da (snD S), .da (.str x)] P X := by
  have hsz : sizeLine = 16777216 := rfl
  refine w_body ?_; unfold m_loads_borne; walk_at "px"
  refine for_invT (fun u v ρ => ρ = [.da (pcD L), .da (snD S), .da (.str x), .ow ((0 :: borL L u x).map .int), .un, .un]) _ ?_ rfl ?_
  · rintro u v q ρ k e rfl hk
    have hq := hS.ok q (by rw [e]; simp)
    have hul : u.length ≤ 5 := by
      have := congrArg List.length e
      rw [List.length_append, List.length_cons] at this
      have := hS.few
      omega
    have hbl : (borL L u x).length ≤ 5 := by
      unfold borL
      rw [List.length_map]
      exact Nat.le_trans (List.length_filter_le _ _) hul
    have hno : bor x q = false → borL L (u ++ [q]) x = borL L u x := fun e => by
      unfold borL
      rw [List.filter_append, List.filter_cons_of_neg (by rw [e]; simp), List.filter_nil, List.append_nil]
    walk_at "px"
    by_cases h1 : x ∈ q.s
    · rw [decide_eq_true h1]
      walk_at "px"
      refine w_neS hx.ok (hq.zok hL) ?_
      by_cases h2 : x = q.z
      · rw [decide_eq_true h2]
        walk_at "px"
        refine hk _ ?_
        rw [hno (by unfold bor; rw [decide_eq_true h2, Bool.not_true, Bool.and_false])]
        rfl
      · rw [decide_eq_false h2]
        walk_at "px"
        refine c_loads_of hL hq.nd hq.sub (hq.few hL) ?_
        walk_at "px"
        refine ⟨_, _, _, rfl, rfl, ld_look h1, ?_⟩
        refine ⟨by rw [List.length_map, List.length_cons]; omega, ?_⟩
        refine hk _ ?_
        have : borL L (u ++ [q]) x = borL L u x ++ [ldO L q.s x] := by
          unfold borL
          rw [List.filter_append, List.filter_cons_of_pos (by unfold bor; rw [decide_eq_true h1, decide_eq_false h2]; rfl), List.filter_nil, List.map_append]
          rfl
        rw [this, ← List.cons_append, List.map_append]
        rfl
    · rw [decide_eq_false h1]
      walk_at "px"
      refine hk _ ?_
      rw [hno (by unfold bor; rw [decide_eq_false h1]; rfl)]
      rfl
  · rintro ρ rfl
    walk_at "px"
    exact h
theorem c_loads_broken {L : List Crt} {S : List Sgt} {x : Str} (hL : LotOk L) (hS : SnOk L S) (hx : NameOk x) {P X} (h : P (.list ((1000 :: broL L S x).map .int))) : ph_loads_broken [.da (pcD L), .da (snD S), .da (.str x)] P X := by
  have hsz : sizeLine = 16777216 := rfl
  refine w_body ?_; unfold m_loads_broken; walk_at "px"
  refine lc_filT (dec := fun q : Sgt => .int (ldO L q.s x)) (fun q => decide (x = q.z)) _ (fun q hq Q h5 h6 => ?_) ?_
  · have hq := hS.ok q hq
    walk_at "px"
    refine w_eqS hx.ok (hq.zok hL) ?_
    by_cases h2 : x = q.z
    · rw [decide_eq_true h2]
      walk_at "px"
      refine c_loads_of hL hq.nd hq.sub (hq.few hL) ?_
      walk_at "px"
      refine ⟨_, _, _, rfl, rfl, ld_look (hq.mem hx h2), ?_⟩
      exact h5 (decide_eq_true h2)
    · rw [decide_eq_false h2]
      walk_at "px"
      exact h6 (decide_eq_false h2)
  · walk_at "px"
    refine ⟨?_, ?_⟩
    · rw [List.length_map]
      have := List.length_filter_le (fun q : Sgt => decide (x = q.z)) S
      have := hS.few
      show 1 + _ ≤ _
      omega
    have e : ((1000 : Int) :: broL L S x).map PyData.int = [.int (999 + 1)] ++ (S.filter fun q => decide (x = q.z)).map fun q : Sgt => .int (ldO L q.s x) := by
      unfold broL
      rw [List.map_cons, List.map_map]
      rfl
    rw [e] at h
    exact h
theorem top_min (L : List Crt) (S : List Sgt) (x : Str) : topI L S x + 1 ∈ 1000 :: broL L S x ∧ ∀ y ∈ 1000 :: broL L S x, topI L S x + 1 ≤ y := by
  obtain ⟨h1, h2⟩ := fold_mn ((broL L S x).map fun i => i - 1) 999
  refine ⟨?_, fun y hy => ?_⟩
  · rcases List.mem_cons.mp h1 with e | e
    · have : topI L S x = 999 := e
      rw [this]
      exact List.mem_cons_self
    · obtain ⟨y, hy, e⟩ := List.mem_map.mp e
      have : topI L S x + 1 = y := by unfold topI; omega
      rw [this]
      exact List.mem_cons_of_mem _ hy
  · rcases List.mem_cons.mp hy with e | hy
    · have := h2 999 List.mem_cons_self
      unfold topI
      omega
    · have := h2 (y - 1) (List.mem_cons_of_mem _ (List.mem_map.mpr ⟨y, hy, rfl⟩))
      unfold topI
      omega
abbrev lowsD (L : List Crt) (S : List Sgt) : D := .tuple (L.map fun r => .int (lowI L S r.n))
abbrev topsD (L : List Crt) (S : List Sgt) : D := .tuple (L.map fun r => .int (topI L S r.n))
theorem c_leasts_of {L : List Crt} {S : List Sgt} (hL : LotOk L) (hS : SnOk L S) {P X} (h : P (lowsD L S)) : ph_leasts_of [.da (pcD L), .da (snD S)] P X := by
  refine w_body ?_; unfold m_leasts_of; walk_at "px"
  refine lc_mapT (dec := fun r : Crt => .int (lowI L S r.n)) _ (fun r hr Q hq => ?_) ?_
  · walk_at "px"
    refine c_loads_borne hL hS (hL.row r hr).nm ?_
    walk_at "px"
    exact w_maxL (fold_mx _ _).1 (fold_mx _ _).2 hq
  · walk_at "px"
    exact h
theorem c_greatests_of {L : List Crt} {S : List Sgt} (hL : LotOk L) (hS : SnOk L S) {P X} (h : P (topsD L S)) : ph_greatests_of [.da (pcD L), .da (snD S)] P X := by
  refine w_body ?_; unfold m_greatests_of; walk_at "px"
  refine lc_mapT (dec := fun r : Crt => .int (topI L S r.n)) _ (fun r hr Q hq => ?_) ?_
  · walk_at "px"
    refine c_loads_broken hL hS (hL.row r hr).nm ?_
    walk_at "px"
    refine w_minL (top_min _ _ _).1 (top_min _ _ _).2 ?_
    walk_at "px"
    rw [Int.add_sub_cancel]
    exact hq
  · walk_at "px"
    exact h
def barB (L : List Crt) (S : List Sgt) (r : Crt) : Bool := decide (lowI L S r.n > topI L S r.n)
def barL (L : List Crt) (S : List Sgt) : List Str := (L.filter (barB L S)).map (·.n)
theorem c_barred {L : List Crt} {S : List Sgt} (hL : LotOk L) (hS : SnOk L S) {P X} (h : P (.list ((barL L S).map .str))) : ph_barred_pieces [.da (pcD L), .da (snD S)] P X := by
  refine w_body ?_; unfold m_barred_pieces; walk_at "px"
  refine c_leasts_of hL hS ?_
  walk_at "px"
  refine c_greatests_of hL hS ?_
  walk_at "px"
  rw [zip_same fun r : Crt => .int (lowI L S r.n)]
  walk_at "px"
  rw [zip_same pcR]
  refine lc_filT (enc := fun r : Crt => .tuple [pcR r, .tuple [.int (lowI L S r.n), .int (topI L S r.n)]]) (dec := fun r : Crt => .str r.n) (barB L S) _ (fun r hr Q h5 h6 => ?_) ?_
  · walk_at "px"
    cases e : barB L S r with
    | true =>
      have e' : decide (lowI L S r.n > topI L S r.n) = true := e
      rw [e']
      walk_at "px"
      exact h5 e
    | false =>
      have e' : decide (lowI L S r.n > topI L S r.n) = false := e
      rw [e']
      walk_at "px"
      exact h6 e
  · walk_at "px"
    unfold barL at h
    rw [List.map_map] at h
    exact h
def fitB (L : List Crt) (S : List Sgt) (bs : List Int) : Bool := (bs.zip L).all fun p => decide (lowI L S p.2.n ≤ p.1) && decide (p.1 ≤ topI L S p.2.n)
theorem c_are_fitting {L : List Crt} {S : List Sgt} {bs : List Int} (hL : LotOk L) (hS : SnOk L S) {P X} (h : P (.bool (fitB L S bs))) : ph_are_fitting [.da (pcD L), .da (snD S), .da (numsD bs)] P X := by
  refine w_body ?_; unfold m_are_fitting; walk_at "px"
  refine c_leasts_of hL hS ?_
  walk_at "px"
  refine c_greatests_of hL hS ?_
  walk_at "px"
  rw [zip_same fun r : Crt => .int (lowI L S r.n)]
  walk_at "px"
  rw [zip_map]
  refine lc_mapT (enc := fun p : Int × Crt => .tuple [.int p.1, .tuple [.int (lowI L S p.2.n), .int (topI L S p.2.n)]]) (dec := fun p : Int × Crt => .bool (decide (lowI L S p.2.n ≤ p.1) && decide (p.1 ≤ topI L S p.2.n))) _ (fun p hp Q hq => ?_) ?_
  · walk_at "px"
    by_cases e1 : lowI L S p.2.n ≤ p.1
    · rw [if_pos e1]
      walk_at "px"
      rw [decide_eq_true e1, Bool.true_and] at hq
      exact hq
    · rw [if_neg e1]
      walk_at "px"
      rw [decide_eq_false e1, Bool.false_and] at hq
      exact hq
  · walk_at "px"
    exact h
theorem bar_shp {L : List Crt} {S : List Sgt} (hL : LotOk L) : SeqAt.shaped (.list ((barL L S).map PyData.str)) = true := (Shp.lst (n := 0) fun d hd => by
  obtain ⟨z, hz, rfl⟩ := List.mem_map.mp hd
  obtain ⟨r, hr, rfl⟩ := List.mem_map.mp hz
  exact Shp.str (hL.row r (List.mem_filter.mp hr).1).nm.ok).ok (by decide)
theorem c_fits {L : List Crt} {S : List Sgt} (hL : LotOk L) (h1 : 1 ≤ L.length) (hS : SnOk L S) {P X} (h : P (.bool (decide (barL L S = [])))) : ph_fits [.da (pcD L), .da (snD S)] P X := by
  refine w_body ?_; unfold m_fits; walk_at "px"
  refine c_check_seen hL h1 hS ?_
  walk_at "px"
  refine c_barred hL hS ?_
  walk_at "px"
  refine w_eqL0 (bar_shp hL) ?_
  rw [show decide ((barL L S).map PyData.str = []) = decide (barL L S = []) from decide_eq_decide.mpr List.map_eq_nil_iff]
  exact h
def frstD (l : List Str) : D := match l with | [] => .none | z :: _ => .str z
theorem c_barring {L : List Crt} {S : List Sgt} (hL : LotOk L) (h1 : 1 ≤ L.length) (hS : SnOk L S) {P X} (h : P (frstD (barL L S))) : ph_barring_piece [.da (pcD L), .da (snD S)] P X := by
  refine w_body ?_; unfold m_barring_piece; walk_at "px"
  refine c_check_seen hL h1 hS ?_
  walk_at "px"
  refine c_barred hL hS ?_
  walk_at "px"
  refine w_neL0 (bar_shp hL) ?_
  match hb : barL L S with
  | [] =>
    rw [hb] at h
    walk_at "px"
    exact h
  | z :: r =>
    rw [hb] at h
    rw [decide_eq_false (by simp)]
    walk_at "px"
    exact ⟨.str z, at_map (enc := PyData.str) (xs := z :: r) (i := 0) rfl, h⟩
theorem c_check_fit {L : List Crt} {S : List Sgt} (hL : LotOk L) (hS : SnOk L S) {P : D → Prop} {X : Ex → Prop} (h0 : barL L S = [] → P .none) (hx : barL L S ≠ [] → X ("NoFit", none)) : ph_check_fit [.da (pcD L), .da (snD S)] P X := by
  refine w_bodyX ?_; unfold m_check_fit; walk_at "px"
  refine c_barred hL hS ?_
  walk_at "px"
  refine w_neL0 (bar_shp hL) ?_
  by_cases hb : barL L S = []
  · rw [decide_eq_true (List.map_eq_nil_iff.mpr hb)]
    walk_at "px"
    exact h0 hb
  · rw [decide_eq_false (fun e => hb (List.map_eq_nil_iff.mp e))]
    walk_at "px"
    exact hx hb
theorem c_least_bears {L : List Crt} {S : List Sgt} (hL : LotOk L) (h1 : 1 ≤ L.length) (hS : SnOk L S) {P : D → Prop} {X : Ex → Prop} (h0 : barL L S = [] → P (lowsD L S)) (hx : barL L S ≠ [] → X ("NoFit", none)) : ph_least_bears [.da (pcD L), .da (snD S)] P X := by
  refine w_bodyX ?_; unfold m_least_bears; walk_at "px"
  refine c_check_seen hL h1 hS ?_
  walk_at "px"
  refine c_check_fit hL hS (fun hb => ?_) hx
  walk_at "px"
  exact c_leasts_of hL hS (h0 hb)
theorem c_greatest_bears {L : List Crt} {S : List Sgt} (hL : LotOk L) (h1 : 1 ≤ L.length) (hS : SnOk L S) {P : D → Prop} {X : Ex → Prop} (h0 : barL L S = [] → P (topsD L S)) (hx : barL L S ≠ [] → X ("NoFit", none)) : ph_greatest_bears [.da (pcD L), .da (snD S)] P X := by
  refine w_bodyX ?_; unfold m_greatest_bears; walk_at "px"
  refine c_check_seen hL h1 hS ?_
  walk_at "px"
  refine c_check_fit hL hS (fun hb => ?_) hx
  walk_at "px"
  exact c_greatests_of hL hS (h0 hb)
theorem c_do_fit {L : List Crt} {S : List Sgt} {bs : List Int} (hL : LotOk L) (h1 : 1 ≤ L.length) (hS : SnOk L S) (hl : bs.length = L.length) (hb : ∀ b ∈ bs, 0 ≤ b ∧ b ≤ 999) {P X} (h : P (.bool (fitB L S bs))) : ph_do_fit [.da (pcD L), .da (snD S), .da (numsD bs)] P X := by
  refine w_body ?_; unfold m_do_fit; walk_at "px"
  refine c_check_seen hL h1 hS ?_
  walk_at "px"
  refine ⟨[], rfl, fun d hd => (by cases hd), fun f => ?_⟩
  refine c_wrong_for_all (by rw [List.length_map, hl]) (fun i b hi Q hq => ?_) ?_
  · refine w_clam ?_; unfold ml_do_fit_lam1; walk_at "px"
    have := hb b (List.mem_of_getElem? hi)
    exact c_is_number this.1 this.2 hq
  refine ⟨[], rfl, w_for0 ?_⟩
  walk_at "px"
  exact c_are_fitting hL hS h
end K75

set_option Elab.async false
set_option linter.all false
set_option maxRecDepth 100000
set_option maxHeartbeats 4000000
namespace K75
open PySem PySem.Spec L2 Pu Pl
open PyProof.Rows hiding St
local macro_rules | `(tactic| walk_at "px1") => `(tactic| first
  | (with_reducible refine w_seq ?_)
  | (with_reducible refine w_nx ?_)
  | (with_reducible refine w_rt ?_)
  | (with_reducible refine w_next ?_)
  | (with_reducible refine w_ret ?_)
  | (with_reducible refine w_retN ?_)
  | (with_reducible refine w_do ?_)
  | (with_reducible refine w_if ?_)
  | (with_reducible refine w_asgN ?_)
  | (with_reducible refine w_asg ?_)
  | (with_reducible refine w_gn ?_)
  | (with_reducible refine w_gcs ?_)
  | (with_reducible refine w_gnl ?_)
  | (with_reducible refine w_setO ?_)
  | (with_reducible refine w_par2 ?_)
  | (with_reducible refine w_par3 ?_)
  | (with_reducible refine w_ex2 ?_)
  | (with_reducible refine w_ex3 ?_)
  | (with_reducible refine w_xnil ?_)
  | (with_reducible refine w_xda ?_)
  | (with_reducible refine w_xow ?_)
  | (with_reducible refine w_test ?_)
  | (with_reducible refine w_exb ?_)
  | (with_reducible refine w_and ?_)
  | (with_reducible refine w_or ?_)
  | (with_reducible refine w_not ?_)
  | (with_reducible refine w_andV ?_)
  | (with_reducible refine w_orV ?_)
  | (with_reducible refine w_notV ?_)
  | (with_reducible refine w_ifE ?_)
  | (with_reducible refine w_ifT ?_)
  | (with_reducible refine w_ifF ?_)
  | (with_reducible refine w_ifNT ?_)
  | (with_reducible refine w_ifNF ?_)
  | (with_reducible refine w_isi ?_)
  | (with_reducible refine w_c ?_)
  | (with_reducible refine w_bin ?_)
  | (with_reducible refine w_oI ?_)
  | (with_reducible refine w_L ?_)
  | (with_reducible refine w_anil ?_)
  | (with_reducible refine w_ada ?_)
  | (with_reducible refine w_bnil ?_)
  | (with_reducible refine w_bcons ?_)
  | (with_reducible refine w_dcons ?_)
  | (with_reducible refine w_ndI ?_)
  | (with_reducible refine w_ndS ?_)
  | (with_reducible refine w_ndB ?_)
  | (with_reducible refine w_ndN ?_)
  | (with_reducible refine w_ndT ?_)
  | (with_reducible refine w_ndL ?_)
  | (with_reducible refine w_tup ?_)
  | (with_reducible refine w_lst ?_)
  | (with_reducible refine w_len0 ?_)
  | (with_reducible refine w_len1 ?_)
  | (with_reducible refine w_len2 ?_)
  | (with_reducible refine w_len3 ?_)
  | (with_reducible refine w_len4 ?_)
  | (with_reducible refine w_len5 ?_)
  | (with_reducible refine w_len6 ?_)
  | (with_reducible refine w_len7 ?_)
  | (with_reducible refine w_ltS ?_)
  | (with_reducible refine w_isN0 ?_)
  | (with_reducible refine w_isNi ?_)
  | (with_reducible refine w_isNs ?_)
  | (with_reducible refine w_isNt ?_)
  | (with_reducible refine w_noN0 ?_)
  | (with_reducible refine w_noNi ?_)
  | (with_reducible refine w_noNs ?_)
  | (with_reducible refine w_noNt ?_)
  | (with_reducible refine w_c1 ?_)
  | (with_reducible refine w_co ?_)
  | (with_reducible refine w_lenT ?_)
  | (with_reducible refine w_lenL ?_)
  | (with_reducible refine w_int ?_)
  | (with_reducible refine w_max2 ?_)
  | (with_reducible refine w_min2 ?_)
  | (with_reducible refine w_tupL ?_)
  | (with_reducible refine w_tupT ?_)
  | (with_reducible refine w_listL ?_)
  | (with_reducible refine w_listT ?_)
  | (with_reducible refine w_neg1 ?_)
  | (with_reducible refine w_un ?_)
  | (with_reducible refine w_call ?_)
  | (with_reducible refine w_callD ?_)
  | (with_reducible refine w_callK ?_)
  | (with_reducible refine w_callC ?_)
  | (with_reducible refine w_itL ?_)
  | (with_reducible refine w_itT ?_)
  | (with_reducible refine w_exl ?_)
  | (with_reducible refine w_ext' ?_)
  | (with_reducible refine w_rng ?_)
  | (with_reducible refine w_rng2 ?_)
  | (with_reducible refine w_rng3 ?_)
  | (with_reducible refine w_for ?_)
  | (with_reducible refine w_lc ?_)
  | (with_reducible refine w_lc2 ?_)
  | (with_reducible refine w_yes ?_)
  | (with_reducible refine w_dc ?_)
  | (with_reducible refine w_di ?_)
  | (with_reducible refine w_kydS ?_)
  | (with_reducible refine w_kydI ?_)
  | (with_reducible refine w_dget ?_)
  | (with_reducible refine w_en ?_)
  | (with_reducible refine w_enT ?_)
  | (with_reducible refine w_enL ?_)
  | (with_reducible refine w_zip ?_)
  | (with_reducible refine w_zTT ?_)
  | (with_reducible refine w_zTL ?_)
  | (with_reducible refine w_zLT ?_)
  | (with_reducible refine w_zLL ?_)
  | (with_reducible refine w_catL ?_)
  | (with_reducible refine w_idxT ?_)
  | (with_reducible refine w_no ?_)
  | (with_reducible refine w_exi ?_)
  | (with_reducible refine w_so ?_)
  | (with_reducible refine w_slT ?_)
  | (with_reducible refine w_slL ?_)
  | (with_reducible refine w_leLe ?_)
  | (with_reducible refine w_exs ?_)
  | (with_reducible refine w_itS ?_)
  | (with_reducible refine w_exii ?_)
  | (with_reducible refine w_ex1i ?_)
  | (with_reducible refine w_ex2i ?_)
  | (with_reducible refine w_ex3i ?_)
  | (with_reducible refine w_exll ?_)
  | (with_reducible refine w_seqO ?_)
  | (with_reducible refine w_absI ?_)
  | (with_reducible refine w_split ?_)
  | (with_reducible refine w_repL ?_)
  | (with_reducible refine w_eqI ?_)
  | (with_reducible refine w_neI ?_)
  | (with_reducible refine w_eqBtt ?_)
  | (with_reducible refine w_eqBtf ?_)
  | (with_reducible refine w_eqBft ?_)
  | (with_reducible refine w_eqBff ?_)
  | (with_reducible refine w_neBtt ?_)
  | (with_reducible refine w_neBtf ?_)
  | (with_reducible refine w_neBft ?_)
  | (with_reducible refine w_neBff ?_)
  | (with_reducible refine w_eqB ?_)
  | (with_reducible refine w_neB ?_)
  | (with_reducible refine w_eqLL ?_)
  | (with_reducible refine w_neLL ?_)
  | (with_reducible refine w_eqTT ?_)
  | (with_reducible refine w_eqIN ?_)
  | (with_reducible refine w_inT ?_)
  | (with_reducible refine w_inL ?_)
  | (with_reducible refine w_niT ?_)
  | (with_reducible refine w_niL ?_)
  | (with_reducible refine w_ni0 ?_)
  | (with_reducible refine w_in0 ?_)
  | (with_reducible refine w_all ?_)
  | (with_reducible refine w_sum ?_)
  | (with_reducible refine w_callL ?_)
  | (with_reducible refine w_dzip ?_)
  | (with_reducible refine w_dseq ?_)
  | (with_reducible refine w_keyS ?_)
  | (with_reducible refine w_xod ?_)
  | (with_reducible refine w_isx ?_)
  | (with_reducible refine w_callX ?_)
  | (with_reducible refine w_raise0 ?_)
  | ((with_reducible refine' w_frz ?pxg ?_); (case pxg => exact rfl))
  | ((with_reducible refine' w_app ?pxg ?_); (case pxg => exact rfl))
  | ((with_reducible refine' w_ext ?pxg ?_); (case pxg => exact rfl))
  | ((with_reducible refine' w_aug ?pxg ?_); (case pxg => exact rfl))
  | ((with_reducible refine' w_var ?pxg ?_); (case pxg => exact rfl))
  | ((with_reducible refine' w_varB ?pxg ?_); (case pxg => exact rfl))
  | ((with_reducible refine' w_varBo ?pxg ?_); (case pxg => exact rfl))
  | ((with_reducible refine' w_varBd ?pxg ?_); (case pxg => exact rfl))
  | ((with_reducible refine' w_arw ?pxg ?_); (case pxg => exact rfl))
  | ((with_reducible refine' w_clo ?pxg ?_); (case pxg => exact rfl))
  | ((with_reducible refine' w_ixT ?pxg ?_); (case pxg => exact rfl))
  | ((with_reducible refine' w_ixL ?pxg ?_); (case pxg => exact rfl))
  | ((with_reducible refine' w_gtp ?pxg ?_); (case pxg => exact rfl))
  | ((with_reducible refine' w_gtpl ?pxg ?_); (case pxg => exact rfl))
  | ((with_reducible refine' w_odget ?pxg ?_); (case pxg => exact rfl))
  | ((with_reducible refine' w_odput ?pxg ?_); (case pxg => exact rfl))
  | ((with_reducible refine' w_ty ?pxg ?_); (case pxg => first | exact ty_int_int _ | exact ty_int_bool _ | exact ty_int_tup _ | exact ty_int_str _ | exact ty_tup_tup _ | exact ty_tup_int _ | exact ty_tup_bool _ | exact ty_tup_str _ | exact ty_str_tup _ | exact ty_str_str _ | exact ty_str_int _ | exact ty_str_bool _ | exact ty_none_tup | exact ty_none_int | exact ty_none_bool | exact ty_none_str | exact ty_bool_tup _ | exact ty_bool_int _ | exact ty_bool_bool _ | exact ty_bool_str _)))
local macro_rules | `(tactic| walk_at "px") => `(tactic| repeat walk_at "px1")

theorem w_neT0 {ds : List D} {P : D → Prop} (hd : SeqAt.shaped (.tuple ds) = true) (h : P (.bool (!decide (ds = [])))) : oEq true (.tuple ds) (.tuple []) P := by
  refine ⟨hd, sh_tup0, ?_⟩
  rw [show PyData.eqv (.tuple ds) (.tuple []) = decide (ds = []) from by cases ds <;> simp [PyData.eqv, PyData.eqvAll]]
  exact h
theorem range_get {α : Type} (enc : α → D) (xs : List α) : (List.range xs.length).map (fun i => (xs[i]?.map enc).getD .none) = xs.map enc := by
  refine List.ext_getElem? fun i => ?_
  rw [List.getElem?_map, List.getElem?_map]
  by_cases hi : i < xs.length
  · rw [List.getElem?_range hi, List.getElem?_eq_getElem hi]
    simp [List.getElem?_eq_getElem hi]
  · rw [List.getElem?_eq_none (by simp; omega), List.getElem?_eq_none (by omega)]
    rfl
theorem c_pieces {wl : Addr} {most : Nat} (h1 : 1 ≤ most) (h7 : most ≤ 7) {P X} (h : ∀ L : List Crt, LotOk L → 1 ≤ L.length → L.length ≤ most → P (pcD L)) : ph__law_pieces wl [.rw (.ref wl), .da (.int most)] P X := by
  refine w_body ?_; unfold m__law_pieces; walk_at "px"
  refine c_lot h1 h7 fun L hL h2 h3 => ?_
  walk_at "px"
  refine lc_mapT (dec := pcR) _ (fun r hr Q hq => ?_) ?_
  · walk_at "px"
    exact hq
  · walk_at "px"
    exact h L hL h2 h3
theorem c_brokenP {L : List Crt} {s : List Str} (hL : LotOk L) (hd : s.Nodup) (hs : ∀ z ∈ s, z ∈ nms L) (hl7 : s.length ≤ 7) {P X} (h : P (.list ((brkL L s).map .str))) : ph__law_broken [.da (lotD L), .da (stkD s)] P X := by
  refine w_body ?_; unfold m__law_broken; walk_at "px"
  refine c_lloads hL hs hl7 ?_
  rw [ldI_eq hd, List.map_map]
  walk_at "px"
  have hsz : sizeLine = 16777216 := rfl
  refine ⟨by rw [List.length_map]; omega, by rw [List.length_map]; omega, ?_⟩
  have eu : upto ((s.map PyData.str).length : Nat) = s.map fun z => .int ((s.idxOf z : Nat) : Int) := by
    unfold upto
    rw [List.length_map]
    have := upto_take hd (Nat.le_refl s.length)
    rw [List.take_length] at this
    exact this
  rw [eu]
  refine lc_filT (dec := fun z => .str z) (fun z => decide (ldO L s z > br L z)) _ (fun z hz Q h1 h2 => ?_) ?_
  · have hi : s.idxOf z < s.length := List.idxOf_lt_length_of_mem hz
    have e : s[s.idxOf z]? = some z := by rw [List.getElem?_eq_getElem hi]; exact congrArg some (List.getElem_idxOf hi)
    walk_at "px"
    refine ⟨.int (ldO L s z), at_map (enc := fun z => .int (ldO L s z)) e, ?_⟩
    walk_at "px"
    refine ⟨.str z, at_map (enc := PyData.str) e, ?_⟩
    walk_at "px"
    refine c_crate hL (hs z hz) ?_
    walk_at "px"
    by_cases hb : ldO L s z > br L z
    · refine w_pos (decide_eq_true hb) ?_
      walk_at "px"
      refine ⟨.str z, at_map (enc := PyData.str) e, ?_⟩
      exact h1 (decide_eq_true hb)
    · refine w_neg (decide_eq_false hb) ?_
      exact h2 (decide_eq_false hb)
  · walk_at "px"
    exact h
theorem c_put {S : List Sgt} {q : Sgt} {k : Nat} (hk : k < S.length) (h5 : S.length ≤ 5) {P X} (h : P (snD (S.take k ++ q :: S.drop (k + 1)))) : ph__law_put [.da (snD S), .da (.int k), .da (sgR q)] P X := by
  refine w_body ?_; unfold m__law_put; walk_at "px"
  have hsz : sizeLine = 16777216 := rfl
  rw [cut_take, ← List.map_take]
  refine ⟨by rw [List.length_map, List.length_take]; show _ + 1 ≤ _; omega, ?_⟩
  walk_at "px"
  rw [show Pu.cutD (S.map sgR) (some ((k : Int) + 1)) none = (S.map sgR).drop (k + 1) from cut_drop _ (k + 1), ← List.map_drop]
  refine ⟨by rw [List.length_append, List.length_map, List.length_map, List.length_take, List.length_drop]; show _ + 1 + _ ≤ _; omega, ?_⟩
  have e : snD (S.take k ++ q :: S.drop (k + 1)) = .tuple (((S.take k).map sgR ++ [sgR q]) ++ (S.drop (k + 1)).map sgR) := by
    unfold snD
    rw [List.map_append, List.append_assoc]
    rfl
  rw [e] at h
  exact h
/-- the lot with what is borne -/
def lotW (L : List Crt) (bs : List Int) : List Crt := (L.zip bs).map fun p => ⟨p.1.n, p.1.w, p.2⟩
theorem lotW_len {L : List Crt} {bs : List Int} (h : bs.length = L.length) : (lotW L bs).length = L.length := by
  unfold lotW
  rw [List.length_map, List.length_zip]
  omega
theorem lotW_at {L : List Crt} {bs : List Int} (h : bs.length = L.length) {i : Nat} {r : Crt} (hi : L[i]? = some r) : ∃ b, bs[i]? = some b ∧ (lotW L bs)[i]? = some ⟨r.n, r.w, b⟩ := by
  have hl := (List.getElem?_eq_some_iff.mp hi).1
  refine ⟨bs[i]'(by omega), List.getElem?_eq_getElem _, ?_⟩
  unfold lotW
  have : (L.zip bs)[i]? = some (r, bs[i]'(by omega)) := List.getElem?_zip_eq_some.mpr ⟨hi, List.getElem?_eq_getElem _⟩
  rw [List.getElem?_map, this]
  rfl
theorem lotW_nms {L : List Crt} {bs : List Int} (h : bs.length = L.length) : nms (lotW L bs) = nms L := by
  refine List.ext_getElem? fun i => ?_
  unfold nms
  rw [List.getElem?_map, List.getElem?_map]
  cases e : L[i]? with
  | some r =>
    obtain ⟨b, _, e2⟩ := lotW_at h e
    rw [e2]
    rfl
  | none =>
    have := List.getElem?_eq_none_iff.mp e
    rw [List.getElem?_eq_none (by rw [lotW_len h]; exact this)]
theorem lotW_ok {L : List Crt} {bs : List Int} (hL : LotOk L) (h : bs.length = L.length) (hb : ∀ b ∈ bs, 0 ≤ b ∧ b ≤ 999) : LotOk (lotW L bs) where
  few := by rw [lotW_len h]; exact hL.few
  row := fun r hr => by
    obtain ⟨p, hp, rfl⟩ := List.mem_map.mp hr
    have h1 := hL.row p.1 (List.of_mem_zip hp).1
    have h2 := hb p.2 (List.of_mem_zip hp).2
    exact ⟨h1.nm, h1.w1, h1.w2, h2.1, h2.2⟩
  asc := fun i a b ha hb => by
    have hl := (List.getElem?_eq_some_iff.mp hb).1
    rw [lotW_len h] at hl
    have e1 : L[i]? = some (L[i]'(by omega)) := List.getElem?_eq_getElem (by omega)
    have e2 : L[i + 1]? = some L[i + 1] := List.getElem?_eq_getElem hl
    obtain ⟨b1, _, f1⟩ := lotW_at h e1
    obtain ⟨b2, _, f2⟩ := lotW_at h e2
    rw [f1] at ha
    rw [f2] at hb
    cases ha
    cases hb
    exact hL.asc i (L[i]'(by omega)) L[i + 1] e1 e2
theorem sn_shp {L : List Crt} {S : List Sgt} (hL : LotOk L) (h : ∀ q ∈ S, SgOk L q) : Shp 3 (snD S) := Shp.tup fun d hd => by
  obtain ⟨q, hq, rfl⟩ := List.mem_map.mp hd
  refine Shp.tup fun d hd => ?_
  simp only [List.mem_cons, List.not_mem_nil, or_false] at hd
  rcases hd with rfl | rfl
  · exact stk_shp fun z hz => hL.names z ((h q hq).sub z hz)
  · exact Shp.str ((h q hq).zok hL)
theorem c_seen {wl : Addr} {L : List Crt} {bs : List Int} (hL : LotOk L) (h1 : 1 ≤ L.length) (hl : bs.length = L.length) (hb : ∀ b ∈ bs, 0 ≤ b ∧ b ≤ 999) {P X} (h : ∀ S, SnOk L S → P (snD S)) : ph__law_seen wl [.rw (.ref wl), .da (pcD L), .da (numsD bs)] P X := by
  have hsz : sizeLine = 16777216 := rfl
  have hL7 := hL.few
  refine w_body ?_; unfold m__law_seen; walk_at "px"
  refine ⟨by rw [List.length_map]; omega, by rw [List.length_map]; omega, ?_⟩
  have eu : upto ((L.map pcR).length : Nat) = (List.range L.length).map fun i : Nat => .int (i : Int) := by
    unfold upto
    rw [List.length_map]
    rfl
  rw [eu]
  refine lc_mapT (dec := fun i : Nat => ((lotW L bs)[i]?.map rowD).getD .none) _ (fun i hi Q hq => ?_) ?_
  · have hi : i < L.length := List.mem_range.mp hi
    have e1 : L[i]? = some L[i] := List.getElem?_eq_getElem hi
    obtain ⟨b, e2, e3⟩ := lotW_at hl e1
    walk_at "px"
    refine ⟨pcR L[i], at_map (enc := pcR) e1, ?_⟩
    walk_at "px"
    refine ⟨.int b, at_map (enc := PyData.int) e2, ?_⟩
    walk_at "px"
    refine w_catT (xs := [.str L[i].n, .int L[i].w]) (ds := [.int b]) (by show 2 + 1 ≤ sizeLine; omega) ?_
    walk_at "px"
    rw [e3] at hq
    exact hq
  rw [← lotW_len hl, range_get rowD]
  have hW := lotW_ok hL hl hb
  have hN : nms (lotW L bs) = nms L := lotW_nms hl
  have hWl := lotW_len hl
  have hNl : (nms L).length = L.length := List.length_map ..
  generalize lotW L bs = W at *
  walk_at "px"
  refine c_draw (by decide) (by decide) fun n hn0 hn6 => ?_
  walk_at "px"
  obtain ⟨n, rfl⟩ : ∃ m : Nat, n = (m : Int) := ⟨n.toNat, by omega⟩
  refine ⟨by omega, by omega, ?_⟩
  unfold upto
  refine for_invT (enc := fun i : Nat => .int (i : Int)) (fun u v ρ => ∃ S : List Sgt, S.length ≤ u.length ∧ (∀ q ∈ S, SgOk L q) ∧ ρ = [.rw (.ref wl), .da (pcD L), .da (numsD bs), .un, .da (lotD W), .da (snD S), .un, .un, .un]) _ ?_ ⟨[], Nat.zero_le _, (by simp), rfl⟩ ?_
  · rintro u v i ρ k e ⟨S, hSl, hS, rfl⟩ hk
    obtain ⟨hi, hu⟩ := range_at e
    walk_at "px"
    refine c_plain ?_
    walk_at "px"
    refine c_shuffled (by rw [hN, hNl]; exact hL7) fun t ht => ?_
    rw [hN] at ht
    have htl : t.length = L.length := by rw [ht.length_eq, hNl]
    walk_at "px"
    refine c_draw (by rw [List.length_map, hWl]; omega) (by rw [List.length_map, hWl]; omega) fun j hj0 hj1 => ?_
    rw [List.length_map, hWl] at hj1
    walk_at "px"
    obtain ⟨j, rfl⟩ : ∃ m : Nat, j = (m : Int) := ⟨j.toNat, by omega⟩
    rw [show (1 : Int) + (j : Int) = ((1 + j : Nat) : Int) by omega, cut_take, ← List.map_take]
    have hsd : (t.take (1 + j)).Nodup := (ht.nodup_iff.mpr hL.nodup).sublist (List.take_sublist _ _)
    have hss : ∀ z ∈ t.take (1 + j), z ∈ nms L := fun z hz => ht.mem_iff.mp (List.mem_of_mem_take hz)
    have hsl : (t.take (1 + j)).length = 1 + j := by rw [List.length_take]; omega
    generalize t.take (1 + j) = s at *
    have hne : s ≠ [] := fun e => by rw [e] at hsl; simp only [List.length_nil] at hsl; omega
    walk_at "px"
    refine c_brokenP hW hsd (fun z hz => by rw [hN]; exact hss z hz) (by omega) ?_
    have hbm : ∀ z ∈ brkL W s, z ∈ s := fun z hz => (List.mem_filter.mp hz).1
    have hbs : SeqAt.shaped (.list ((brkL W s).map PyData.str)) = true := (Shp.lst (n := 0) fun d hd => by
      obtain ⟨z, hz, rfl⟩ := List.mem_map.mp hd
      exact Shp.str (hL.names z (hss z (hbm z hz))).ok).ok (by decide)
    have fin : ∀ z : Str, (z = ("" : Str) ∨ z ∈ s) → ((S.map sgR).length + 1 ≤ sizeLine ∧ k [.rw (.ref wl), .da (pcD L), .da (numsD bs), .un, .da (lotD W), .da (.tuple (S.map sgR ++ [sgR ⟨s, z⟩])), .un, .un, .un]) := fun z hz => by
      refine ⟨by rw [List.length_map]; omega, hk _ ⟨S ++ [⟨s, z⟩], ?_, fun q hq => ?_, ?_⟩⟩
      · rw [List.length_append, List.length_append]
        exact Nat.add_le_add_right hSl 1
      · rcases List.mem_append.mp hq with hq | hq
        · exact hS q hq
        · rw [List.mem_singleton.mp hq]
          exact ⟨hne, hsd, hss, hz⟩
      · unfold snD
        rw [List.map_append]
        rfl
    walk_at "px"
    rw [List.length_map]
    by_cases hb2 : ((brkL W s).length : Int) < 2
    · rw [decide_eq_true hb2]
      walk_at "px"
      refine w_neL0 hbs ?_
      match hb : brkL W s with
      | [] =>
        rw [decide_eq_true (show ([] : List Str).map PyData.str = [] from rfl)]
        walk_at "px"
        exact fin _ (.inl rfl)
      | z :: r =>
        rw [decide_eq_false (by simp)]
        walk_at "px"
        refine ⟨.str z, at_map (enc := PyData.str) (xs := z :: r) (i := 0) rfl, ?_⟩
        walk_at "px"
        exact fin z (.inr (hbm z (by rw [hb]; simp)))
    · rw [decide_eq_false hb2]
      walk_at "px"
      exact hk _ ⟨S, by rw [List.length_append]; exact Nat.le_trans hSl (Nat.le_add_right _ _), hS, rfl⟩
  · rintro ρ ⟨S, hSl, hS, rfl⟩
    have h5 : S.length ≤ 5 := by
      rw [List.length_range] at hSl
      omega
    walk_at "px"
    refine w_neT0 ((sn_shp hL hS).ok (by decide)) ?_
    by_cases h0 : S = []
    · subst h0
      walk_at "px"
      exact h [] ⟨h5, hS⟩
    · have hpos : 0 < S.length := List.length_pos_iff.mpr h0
      rw [decide_eq_false (fun e => h0 (List.map_eq_nil_iff.mp e))]
      walk_at "px"
      refine c_draw (by decide) (by decide) fun a ha0 ha1 => ?_
      walk_at "px"
      by_cases ha : a = 0
      · rw [decide_eq_true ha]
        walk_at "px"
        refine c_draw (by rw [List.length_map]; omega) (by rw [List.length_map]; omega) fun c hc0 hc1 => ?_
        rw [List.length_map] at hc1
        obtain ⟨c, rfl⟩ : ∃ m : Nat, c = (m : Int) := ⟨c.toNat, by omega⟩
        have hc : c < S.length := by omega
        have ec : S[c]? = some S[c] := List.getElem?_eq_getElem hc
        have hq := hS S[c] (List.getElem_mem hc)
        generalize S[c] = q at ec hq
        have hq7 := hq.few hL
        walk_at "px"
        refine ⟨sgR q, at_map (enc := sgR) ec, ?_⟩
        walk_at "px"
        refine ⟨sgR q, at_map (enc := sgR) ec, ?_⟩
        walk_at "px"
        refine ⟨by rw [List.length_map]; show _ + 1 ≤ _; omega, ?_⟩
        walk_at "px"
        refine c_of (by rw [List.length_append]; exact Nat.lt_add_left _ (by decide)) (by rw [List.length_append, List.length_map]; show _ + 1 < _; omega) fun d hd => ?_
        obtain ⟨z, hz, rfl⟩ : ∃ z : Str, (z = ("" : Str) ∨ z ∈ q.s) ∧ d = .str z := by
          rcases List.mem_append.mp hd with hd | hd
          · obtain ⟨z, hz, rfl⟩ := List.mem_map.mp hd
            exact ⟨z, .inr hz, rfl⟩
          · rw [List.mem_singleton.mp hd]
            exact ⟨_, .inl rfl, rfl⟩
        walk_at "px"
        refine c_put (q := ⟨q.s, z⟩) hc h5 ?_
        walk_at "px"
        refine h _ ⟨?_, fun p hp => ?_⟩
        · rw [List.length_append, List.length_cons, List.length_take, List.length_drop]
          omega
        · rcases List.mem_append.mp hp with hp | hp
          · exact hS p (List.mem_of_mem_take hp)
          · rcases List.mem_cons.mp hp with rfl | hp
            · exact ⟨hq.ne, hq.nd, hq.sub, hz⟩
            · exact hS p (List.mem_of_mem_drop hp)
      · rw [decide_eq_false ha]
        walk_at "px"
        exact h S ⟨h5, hS⟩
end K75

set_option Elab.async false
set_option linter.all false
set_option maxRecDepth 100000
set_option maxHeartbeats 4000000
namespace K75
open PySem PySem.Spec L2 Pu Pl
open PyProof.Rows hiding St
local macro_rules | `(tactic| walk_at "px1") => `(tactic| first
  | (with_reducible refine w_seq ?_)
  | (with_reducible refine w_nx ?_)
  | (with_reducible refine w_rt ?_)
  | (with_reducible refine w_next ?_)
  | (with_reducible refine w_ret ?_)
  | (with_reducible refine w_retN ?_)
  | (with_reducible refine w_do ?_)
  | (with_reducible refine w_if ?_)
  | (with_reducible refine w_asgN ?_)
  | (with_reducible refine w_asg ?_)
  | (with_reducible refine w_gn ?_)
  | (with_reducible refine w_gcs ?_)
  | (with_reducible refine w_gnl ?_)
  | (with_reducible refine w_setO ?_)
  | (with_reducible refine w_par2 ?_)
  | (with_reducible refine w_par3 ?_)
  | (with_reducible refine w_ex2 ?_)
  | (with_reducible refine w_ex3 ?_)
  | (with_reducible refine w_xnil ?_)
  | (with_reducible refine w_xda ?_)
  | (with_reducible refine w_xow ?_)
  | (with_reducible refine w_test ?_)
  | (with_reducible refine w_exb ?_)
  | (with_reducible refine w_and ?_)
  | (with_reducible refine w_or ?_)
  | (with_reducible refine w_not ?_)
  | (with_reducible refine w_andV ?_)
  | (with_reducible refine w_orV ?_)
  | (with_reducible refine w_notV ?_)
  | (with_reducible refine w_ifE ?_)
  | (with_reducible refine w_ifT ?_)
  | (with_reducible refine w_ifF ?_)
  | (with_reducible refine w_ifNT ?_)
  | (with_reducible refine w_ifNF ?_)
  | (with_reducible refine w_isi ?_)
  | (with_reducible refine w_c ?_)
  | (with_reducible refine w_bin ?_)
  | (with_reducible refine w_oI ?_)
  | (with_reducible refine w_L ?_)
  | (with_reducible refine w_anil ?_)
  | (with_reducible refine w_ada ?_)
  | (with_reducible refine w_bnil ?_)
  | (with_reducible refine w_bcons ?_)
  | (with_reducible refine w_dcons ?_)
  | (with_reducible refine w_ndI ?_)
  | (with_reducible refine w_ndS ?_)
  | (with_reducible refine w_ndB ?_)
  | (with_reducible refine w_ndN ?_)
  | (with_reducible refine w_ndT ?_)
  | (with_reducible refine w_ndL ?_)
  | (with_reducible refine w_tup ?_)
  | (with_reducible refine w_lst ?_)
  | (with_reducible refine w_len0 ?_)
  | (with_reducible refine w_len1 ?_)
  | (with_reducible refine w_len2 ?_)
  | (with_reducible refine w_len3 ?_)
  | (with_reducible refine w_len4 ?_)
  | (with_reducible refine w_len5 ?_)
  | (with_reducible refine w_len6 ?_)
  | (with_reducible refine w_len7 ?_)
  | (with_reducible refine w_ltS ?_)
  | (with_reducible refine w_isN0 ?_)
  | (with_reducible refine w_isNi ?_)
  | (with_reducible refine w_isNs ?_)
  | (with_reducible refine w_isNt ?_)
  | (with_reducible refine w_noN0 ?_)
  | (with_reducible refine w_noNi ?_)
  | (with_reducible refine w_noNs ?_)
  | (with_reducible refine w_noNt ?_)
  | (with_reducible refine w_c1 ?_)
  | (with_reducible refine w_co ?_)
  | (with_reducible refine w_lenT ?_)
  | (with_reducible refine w_lenL ?_)
  | (with_reducible refine w_int ?_)
  | (with_reducible refine w_max2 ?_)
  | (with_reducible refine w_min2 ?_)
  | (with_reducible refine w_tupL ?_)
  | (with_reducible refine w_tupT ?_)
  | (with_reducible refine w_listL ?_)
  | (with_reducible refine w_listT ?_)
  | (with_reducible refine w_neg1 ?_)
  | (with_reducible refine w_un ?_)
  | (with_reducible refine w_call ?_)
  | (with_reducible refine w_callD ?_)
  | (with_reducible refine w_callK ?_)
  | (with_reducible refine w_callC ?_)
  | (with_reducible refine w_itL ?_)
  | (with_reducible refine w_itT ?_)
  | (with_reducible refine w_exl ?_)
  | (with_reducible refine w_ext' ?_)
  | (with_reducible refine w_rng ?_)
  | (with_reducible refine w_rng2 ?_)
  | (with_reducible refine w_rng3 ?_)
  | (with_reducible refine w_for ?_)
  | (with_reducible refine w_lc ?_)
  | (with_reducible refine w_lc2 ?_)
  | (with_reducible refine w_yes ?_)
  | (with_reducible refine w_dc ?_)
  | (with_reducible refine w_di ?_)
  | (with_reducible refine w_kydS ?_)
  | (with_reducible refine w_kydI ?_)
  | (with_reducible refine w_dget ?_)
  | (with_reducible refine w_en ?_)
  | (with_reducible refine w_enT ?_)
  | (with_reducible refine w_enL ?_)
  | (with_reducible refine w_zip ?_)
  | (with_reducible refine w_zTT ?_)
  | (with_reducible refine w_zTL ?_)
  | (with_reducible refine w_zLT ?_)
  | (with_reducible refine w_zLL ?_)
  | (with_reducible refine w_catL ?_)
  | (with_reducible refine w_idxT ?_)
  | (with_reducible refine w_no ?_)
  | (with_reducible refine w_exi ?_)
  | (with_reducible refine w_so ?_)
  | (with_reducible refine w_slT ?_)
  | (with_reducible refine w_slL ?_)
  | (with_reducible refine w_leLe ?_)
  | (with_reducible refine w_exs ?_)
  | (with_reducible refine w_itS ?_)
  | (with_reducible refine w_exii ?_)
  | (with_reducible refine w_ex1i ?_)
  | (with_reducible refine w_ex2i ?_)
  | (with_reducible refine w_ex3i ?_)
  | (with_reducible refine w_exll ?_)
  | (with_reducible refine w_seqO ?_)
  | (with_reducible refine w_absI ?_)
  | (with_reducible refine w_split ?_)
  | (with_reducible refine w_repL ?_)
  | (with_reducible refine w_eqI ?_)
  | (with_reducible refine w_neI ?_)
  | (with_reducible refine w_eqBtt ?_)
  | (with_reducible refine w_eqBtf ?_)
  | (with_reducible refine w_eqBft ?_)
  | (with_reducible refine w_eqBff ?_)
  | (with_reducible refine w_neBtt ?_)
  | (with_reducible refine w_neBtf ?_)
  | (with_reducible refine w_neBft ?_)
  | (with_reducible refine w_neBff ?_)
  | (with_reducible refine w_eqB ?_)
  | (with_reducible refine w_neB ?_)
  | (with_reducible refine w_eqLL ?_)
  | (with_reducible refine w_neLL ?_)
  | (with_reducible refine w_eqTT ?_)
  | (with_reducible refine w_eqIN ?_)
  | (with_reducible refine w_inT ?_)
  | (with_reducible refine w_inL ?_)
  | (with_reducible refine w_niT ?_)
  | (with_reducible refine w_niL ?_)
  | (with_reducible refine w_ni0 ?_)
  | (with_reducible refine w_in0 ?_)
  | (with_reducible refine w_all ?_)
  | (with_reducible refine w_sum ?_)
  | (with_reducible refine w_callL ?_)
  | (with_reducible refine w_dzip ?_)
  | (with_reducible refine w_dseq ?_)
  | (with_reducible refine w_keyS ?_)
  | (with_reducible refine w_xod ?_)
  | (with_reducible refine w_isx ?_)
  | (with_reducible refine w_callX ?_)
  | (with_reducible refine w_raise0 ?_)
  | ((with_reducible refine' w_frz ?pxg ?_); (case pxg => exact rfl))
  | ((with_reducible refine' w_app ?pxg ?_); (case pxg => exact rfl))
  | ((with_reducible refine' w_ext ?pxg ?_); (case pxg => exact rfl))
  | ((with_reducible refine' w_aug ?pxg ?_); (case pxg => exact rfl))
  | ((with_reducible refine' w_var ?pxg ?_); (case pxg => exact rfl))
  | ((with_reducible refine' w_varB ?pxg ?_); (case pxg => exact rfl))
  | ((with_reducible refine' w_varBo ?pxg ?_); (case pxg => exact rfl))
  | ((with_reducible refine' w_varBd ?pxg ?_); (case pxg => exact rfl))
  | ((with_reducible refine' w_arw ?pxg ?_); (case pxg => exact rfl))
  | ((with_reducible refine' w_clo ?pxg ?_); (case pxg => exact rfl))
  | ((with_reducible refine' w_ixT ?pxg ?_); (case pxg => exact rfl))
  | ((with_reducible refine' w_ixL ?pxg ?_); (case pxg => exact rfl))
  | ((with_reducible refine' w_gtp ?pxg ?_); (case pxg => exact rfl))
  | ((with_reducible refine' w_gtpl ?pxg ?_); (case pxg => exact rfl))
  | ((with_reducible refine' w_odget ?pxg ?_); (case pxg => exact rfl))
  | ((with_reducible refine' w_odput ?pxg ?_); (case pxg => exact rfl))
  | ((with_reducible refine' w_ty ?pxg ?_); (case pxg => first | exact ty_int_int _ | exact ty_int_bool _ | exact ty_int_tup _ | exact ty_int_str _ | exact ty_tup_tup _ | exact ty_tup_int _ | exact ty_tup_bool _ | exact ty_tup_str _ | exact ty_str_tup _ | exact ty_str_str _ | exact ty_str_int _ | exact ty_str_bool _ | exact ty_none_tup | exact ty_none_int | exact ty_none_bool | exact ty_none_str | exact ty_bool_tup _ | exact ty_bool_int _ | exact ty_bool_bool _ | exact ty_bool_str _)))
local macro_rules | `(tactic| walk_at "px") => `(tactic| repeat walk_at "px1")

theorem put_len {kvs : List (D × D)} {k : Key} {d : D} : (putD kvs k d).length ≤ kvs.length + 1 := by
  unfold putD
  split
  · rw [List.length_map]; omega
  · rw [List.length_append]; exact Nat.le_refl _
theorem put_old {kvs : List (D × D)} {k : Key} {d v : D} (h : lookD kvs k = some v) : (putD kvs k d).length = kvs.length := by
  have : (kvs.any fun p : D × D => decide (Pu.keyOf p.1 = some k)) = true := by
    unfold lookD at h
    cases e : kvs.find? (fun p : D × D => decide (Pu.keyOf p.1 = some k)) with
    | none => rw [e] at h; cases h
    | some q =>
      have := List.find?_some e
      exact List.any_eq_true.mpr ⟨q, List.mem_of_find?_eq_some e, this⟩
  unfold putD
  rw [if_pos this, List.length_map]
theorem low_app {L : List Crt} {S : List Sgt} {q : Sgt} {x : Str} : lowI L (S ++ [q]) x = if bor x q = true then mx (lowI L S x) (ldO L q.s x) else lowI L S x := by
  unfold lowI borL
  rw [List.filter_append]
  by_cases h : bor x q = true
  · rw [if_pos h, List.filter_cons_of_pos h, List.filter_nil, List.map_append, List.foldl_append]
    rfl
  · rw [if_neg h, List.filter_cons_of_neg h, List.filter_nil, List.append_nil]
theorem top_app {L : List Crt} {S : List Sgt} {q : Sgt} {x : Str} : topI L (S ++ [q]) x = if x = q.z then mn (topI L S x) (ldO L q.s x - 1) else topI L S x := by
  unfold topI broL
  rw [List.filter_append]
  by_cases h : x = q.z
  · rw [if_pos h, List.filter_cons_of_pos (by exact decide_eq_true h), List.filter_nil, List.map_append, List.map_append, List.foldl_append]
    rfl
  · rw [if_neg h, List.filter_cons_of_neg (by simpa using h), List.filter_nil, List.append_nil]
def Has (N : List Str) (kvs : List (D × D)) (f : Str → Int) : Prop := ∀ x ∈ N, lookD kvs (.inr x) = some (.int (f x))
theorem Has.put {N u : List Str} {kvs : List (D × D)} {A B : Str → Int} {z : Str} (h : Has N kvs fun x => if x ∈ u then A x else B x) : Has N (putD kvs (.inr z) (.int (A z))) fun x => if x ∈ u ++ [z] then A x else B x := fun x hx => by
  have hx' : lookD kvs (.inr x) = some (.int (if x ∈ u then A x else B x)) := h x hx
  show _ = some (PyData.int (if x ∈ u ++ [z] then A x else B x))
  rw [look_put]
  by_cases e : z = x
  · subst e
    rw [if_pos rfl, if_pos (List.mem_append_right _ List.mem_cons_self)]
  · rw [if_neg (fun h => e (Sum.inr.inj h)), hx']
    by_cases h2 : x ∈ u
    · rw [if_pos h2, if_pos (List.mem_append_left _ h2)]
    · rw [if_neg h2, if_neg (fun h => (List.mem_append.mp h).elim h2 fun h => e (List.mem_singleton.mp h).symm)]
theorem Has.same {N u : List Str} {kvs : List (D × D)} {A B : Str → Int} {z : Str} (h : Has N kvs fun x => if x ∈ u then A x else B x) (e : A z = B z) : Has N kvs fun x => if x ∈ u ++ [z] then A x else B x := fun x hx => by
  have hx' : lookD kvs (.inr x) = some (.int (if x ∈ u then A x else B x)) := h x hx
  show _ = some (PyData.int (if x ∈ u ++ [z] then A x else B x))
  rw [hx']
  by_cases h2 : x ∈ u
  · rw [if_pos h2, if_pos (List.mem_append_left _ h2)]
  · rw [if_neg h2]
    by_cases h3 : x ∈ u ++ [z]
    · rw [if_pos h3]
      rcases List.mem_append.mp h3 with h3 | h3
      · exact (h2 h3).elim
      · rw [List.mem_singleton.mp h3, e]
    · rw [if_neg h3]
theorem Has.to {N : List Str} {kvs : List (D × D)} {f g : Str → Int} (h : Has N kvs f) (e : ∀ x ∈ N, f x = g x) : Has N kvs g := fun x hx => by rw [h x hx, e x hx]
theorem Has.step {N u : List Str} {kvs : List (D × D)} {c : Int} {z : Str} (h : Has u kvs fun _ => c) : Has (u ++ [z]) (putD kvs (.inr z) (.int c)) fun _ => c := fun x hx => by
  rw [look_put]
  by_cases e : z = x
  · subst e
    rw [if_pos rfl]
  · rw [if_neg (fun h => e (Sum.inr.inj h))]
    exact h x ((List.mem_append.mp hx).elim id fun h => (e (List.mem_singleton.mp h).symm).elim)
abbrev limD (L : List Crt) (S : List Sgt) : D := .list (L.map fun r => .tuple [.int (lowI L S r.n), .int (topI L S r.n)])
theorem c_limits {L : List Crt} {S : List Sgt} (hL : LotOk L) (hS : SnOk L S) {P X} (h : P (limD L S)) : ph__law_limits [.da (pcD L), .da (snD S)] P X := by
  have hsz : sizeLine = 16777216 := rfl
  have hL7 := hL.few
  intro Pg w K
  refine w_body ?_; unfold m__law_limits; walk_at "px"
  refine for_invT (fun u v ρ => ∃ k2 k3 a4, k2.length ≤ u.length ∧ k3.length ≤ u.length ∧ Has (nms u) k2 (fun _ => 0) ∧ Has (nms u) k3 (fun _ => 999) ∧ ρ = [.da (pcD L), .da (snD S), .ob (OdR K k2), .ob (OdR K k3), a4, .un, .un, .un, .un]) _ ?_ ⟨[], [], _, Nat.le_refl _, Nat.le_refl _, (fun _ h => nomatch h), (fun _ h => nomatch h), rfl⟩ ?_
  · rintro u v r ρ k e ⟨k2, k3, a4, l2, l3, h2, h3, rfl⟩ hk
    have hul : u.length ≤ 7 := by
      have := congrArg List.length e
      rw [List.length_append, List.length_cons] at this
      omega
    walk_at "px"
    refine w_odput2 rfl rfl ?_
    walk_at "px"
    refine ⟨by omega, ?_⟩
    walk_at "px"
    refine ⟨by omega, ?_⟩
    have en : nms (u ++ [r]) = nms u ++ [r.n] := by unfold nms; rw [List.map_append]; rfl
    refine hk _ ⟨_, _, _, ?_, ?_, ?_, ?_, rfl⟩
    · rw [List.length_append]
      exact Nat.le_trans put_len (Nat.add_le_add_right l2 1)
    · rw [List.length_append]
      exact Nat.le_trans put_len (Nat.add_le_add_right l3 1)
    · rw [en]; exact h2.step (N := [])
    · rw [en]; exact h3.step (N := [])
  rintro ρ ⟨k2, k3, a4, l2, l3, h2, h3, rfl⟩
  walk_at "px"
  refine for_invT (fun u v ρ => ∃ k2 k3 a4, k2.length ≤ L.length ∧ k3.length ≤ L.length ∧ Has (nms L) k2 (lowI L u) ∧ Has (nms L) k3 (topI L u) ∧ ρ = [.da (pcD L), .da (snD S), .ob (OdR K k2), .ob (OdR K k3), a4, .un, .un, .un, .un]) _ ?_ ⟨k2, k3, a4, l2, l3, h2, h3, rfl⟩ ?_
  · rintro u v q ρ k e ⟨k2, k3, a4, l2, l3, h2, h3, rfl⟩ hk
    have hq := hS.ok q (by rw [e]; simp)
    walk_at "px"
    refine for_invT (enc := PyData.str) (fun a b ρ => ∃ k2 k3 a4, k2.length ≤ L.length ∧ k3.length ≤ L.length ∧ Has (nms L) k2 (fun x => if x ∈ a then lowI L (u ++ [q]) x else lowI L u x) ∧ Has (nms L) k3 (fun x => if x ∈ a then topI L (u ++ [q]) x else topI L u x) ∧ ρ = [.da (pcD L), .da (snD S), .ob (OdR K k2), .ob (OdR K k3), a4, .un, .da (stkD q.s), .da (.str q.z), .da (.int (Pm.ws (wt L) a))]) _ ?_ ⟨k2, k3, a4, l2, l3, h2, h3, rfl⟩ ?_
    · rintro a b z ρ k4 e2 ⟨k2, k3, a4, l2, l3, h2, h3, rfl⟩ hk4
      have hzs : z ∈ q.s := by rw [e2]; simp
      have hzN := hq.sub z hzs
      have hz := hL.names z hzN
      have hza : z ∉ a := (Pm.nodup_split (by rw [← e2]; exact hq.nd)).1
      have hld : Pm.ws (wt L) a = ldO L q.s z := by
        unfold ldO
        rw [e2, Pm.load_split hza]
      have hlow : lookD k2 (.inr z) = some (.int (if z ∈ a then lowI L (u ++ [q]) z else lowI L u z)) := h2 z hzN
      have htop : lookD k3 (.inr z) = some (.int (if z ∈ a then topI L (u ++ [q]) z else topI L u z)) := h3 z hzN
      rw [if_neg hza] at hlow htop
      have fin : ∀ k2' k3' : List (D × D), k2'.length ≤ L.length → k3'.length ≤ L.length → Has (nms L) k2' (fun x => if x ∈ a ++ [z] then lowI L (u ++ [q]) x else lowI L u x) → Has (nms L) k3' (fun x => if x ∈ a ++ [z] then topI L (u ++ [q]) x else topI L u x) →
          k4 [.da (pcD L), .da (snD S), .ob (OdR K k2'), .ob (OdR K k3'), .da (.str z), .un, .da (stkD q.s), .da (.str q.z), .da (.int (Pm.ws (wt L) a + wt L z))] := fun k2' k3' g1 g2 g3 g4 => by
        refine hk4 _ ⟨k2', k3', .da (.str z), g1, g2, g3, g4, ?_⟩
        rw [ws_snoc]
      walk_at "px"
      refine w_eqS hz.ok (hq.zok hL) ?_
      by_cases hb : z = q.z
      · rw [decide_eq_true hb]
        walk_at "px"
        refine ⟨.inr z, _, rfl, htop, ?_⟩
        walk_at "px"
        refine ⟨by omega, ?_⟩
        walk_at "px"
        refine ⟨L.map fun r => (.inr r.n, .int r.w), by rw [List.map_map]; rfl, ?_⟩
        walk_at "px"
        refine ⟨_, _, _, rfl, rfl, wt_look hL.nodup hzN, ?_⟩
        walk_at "px"
        have ea : topI L (u ++ [q]) z = mn (topI L u z) (Pm.ws (wt L) a - 1) := by rw [top_app, if_pos hb, hld]
        have eb : lowI L (u ++ [q]) z = lowI L u z := by
          rw [low_app, if_neg]
          unfold bor
          rw [decide_eq_true hb, Bool.not_true, Bool.and_false]
          decide
        have h3' := h3.put (z := z)
        rw [ea] at h3'
        exact fin _ _ l2 (by rw [put_old htop]; exact l3) (h2.same eb) h3'
      · rw [decide_eq_false hb]
        walk_at "px"
        refine ⟨.inr z, _, rfl, hlow, ?_⟩
        walk_at "px"
        refine ⟨by omega, ?_⟩
        walk_at "px"
        refine ⟨L.map fun r => (.inr r.n, .int r.w), by rw [List.map_map]; rfl, ?_⟩
        walk_at "px"
        refine ⟨_, _, _, rfl, rfl, wt_look hL.nodup hzN, ?_⟩
        walk_at "px"
        have ea : lowI L (u ++ [q]) z = mx (lowI L u z) (Pm.ws (wt L) a) := by
          rw [low_app, if_pos, hld]
          unfold bor
          rw [decide_eq_true hzs, decide_eq_false hb]
          rfl
        have eb : topI L (u ++ [q]) z = topI L u z := by rw [top_app, if_neg hb]
        have h2' := h2.put (z := z)
        rw [ea] at h2'
        exact fin _ _ (by rw [put_old hlow]; exact l2) l3 h2' (h3.same eb)
    · rintro ρ ⟨k2, k3, a4, l2, l3, h2, h3, rfl⟩
      refine hk _ ⟨k2, k3, a4, l2, l3, h2.to fun x hx => ?_, h3.to fun x hx => ?_, rfl⟩
      · by_cases hxs : x ∈ q.s
        · rw [if_pos hxs]
        · rw [if_neg hxs, low_app, if_neg]
          unfold bor
          rw [decide_eq_false hxs]
          exact Bool.false_ne_true
      · by_cases hxs : x ∈ q.s
        · rw [if_pos hxs]
        · rw [if_neg hxs, top_app, if_neg fun e => hxs (hq.mem (hL.names x hx) e)]
  rintro ρ ⟨k2, k3, a4, l2, l3, h2, h3, rfl⟩
  walk_at "px"
  refine lc_mapT (dec := fun r : Crt => .tuple [.int (lowI L S r.n), .int (topI L S r.n)]) _ (fun r hr Q hq => ?_) ?_
  · have hrN : r.n ∈ nms L := List.mem_map.mpr ⟨r, hr, rfl⟩
    walk_at "px"
    refine ⟨.inr r.n, _, rfl, h2 _ hrN, ?_⟩
    walk_at "px"
    refine ⟨.inr r.n, _, rfl, h3 _ hrN, ?_⟩
    walk_at "px"
    exact hq
  · walk_at "px"
    exact h
end K75

set_option Elab.async false
set_option linter.all false
set_option maxRecDepth 100000
set_option maxHeartbeats 4000000
namespace K75
open PySem PySem.Spec L2 Pu Pl
open PyProof.Rows hiding St
local macro_rules | `(tactic| walk_at "px1") => `(tactic| first
  | (with_reducible refine w_seq ?_)
  | (with_reducible refine w_nx ?_)
  | (with_reducible refine w_rt ?_)
  | (with_reducible refine w_next ?_)
  | (with_reducible refine w_ret ?_)
  | (with_reducible refine w_retN ?_)
  | (with_reducible refine w_do ?_)
  | (with_reducible refine w_if ?_)
  | (with_reducible refine w_asgN ?_)
  | (with_reducible refine w_asg ?_)
  | (with_reducible refine w_gn ?_)
  | (with_reducible refine w_gcs ?_)
  | (with_reducible refine w_gnl ?_)
  | (with_reducible refine w_setO ?_)
  | (with_reducible refine w_par2 ?_)
  | (with_reducible refine w_par3 ?_)
  | (with_reducible refine w_ex2 ?_)
  | (with_reducible refine w_ex3 ?_)
  | (with_reducible refine w_xnil ?_)
  | (with_reducible refine w_xda ?_)
  | (with_reducible refine w_xow ?_)
  | (with_reducible refine w_test ?_)
  | (with_reducible refine w_exb ?_)
  | (with_reducible refine w_and ?_)
  | (with_reducible refine w_or ?_)
  | (with_reducible refine w_not ?_)
  | (with_reducible refine w_andV ?_)
  | (with_reducible refine w_orV ?_)
  | (with_reducible refine w_notV ?_)
  | (with_reducible refine w_ifE ?_)
  | (with_reducible refine w_ifT ?_)
  | (with_reducible refine w_ifF ?_)
  | (with_reducible refine w_ifNT ?_)
  | (with_reducible refine w_ifNF ?_)
  | (with_reducible refine w_isi ?_)
  | (with_reducible refine w_c ?_)
  | (with_reducible refine w_bin ?_)
  | (with_reducible refine w_oI ?_)
  | (with_reducible refine w_L ?_)
  | (with_reducible refine w_anil ?_)
  | (with_reducible refine w_ada ?_)
  | (with_reducible refine w_bnil ?_)
  | (with_reducible refine w_bcons ?_)
  | (with_reducible refine w_dcons ?_)
  | (with_reducible refine w_ndI ?_)
  | (with_reducible refine w_ndS ?_)
  | (with_reducible refine w_ndB ?_)
  | (with_reducible refine w_ndN ?_)
  | (with_reducible refine w_ndT ?_)
  | (with_reducible refine w_ndL ?_)
  | (with_reducible refine w_tup ?_)
  | (with_reducible refine w_lst ?_)
  | (with_reducible refine w_len0 ?_)
  | (with_reducible refine w_len1 ?_)
  | (with_reducible refine w_len2 ?_)
  | (with_reducible refine w_len3 ?_)
  | (with_reducible refine w_len4 ?_)
  | (with_reducible refine w_len5 ?_)
  | (with_reducible refine w_len6 ?_)
  | (with_reducible refine w_len7 ?_)
  | (with_reducible refine w_ltS ?_)
  | (with_reducible refine w_isN0 ?_)
  | (with_reducible refine w_isNi ?_)
  | (with_reducible refine w_isNs ?_)
  | (with_reducible refine w_isNt ?_)
  | (with_reducible refine w_noN0 ?_)
  | (with_reducible refine w_noNi ?_)
  | (with_reducible refine w_noNs ?_)
  | (with_reducible refine w_noNt ?_)
  | (with_reducible refine w_c1 ?_)
  | (with_reducible refine w_co ?_)
  | (with_reducible refine w_lenT ?_)
  | (with_reducible refine w_lenL ?_)
  | (with_reducible refine w_int ?_)
  | (with_reducible refine w_max2 ?_)
  | (with_reducible refine w_min2 ?_)
  | (with_reducible refine w_tupL ?_)
  | (with_reducible refine w_tupT ?_)
  | (with_reducible refine w_listL ?_)
  | (with_reducible refine w_listT ?_)
  | (with_reducible refine w_neg1 ?_)
  | (with_reducible refine w_un ?_)
  | (with_reducible refine w_call ?_)
  | (with_reducible refine w_callD ?_)
  | (with_reducible refine w_callK ?_)
  | (with_reducible refine w_callC ?_)
  | (with_reducible refine w_itL ?_)
  | (with_reducible refine w_itT ?_)
  | (with_reducible refine w_exl ?_)
  | (with_reducible refine w_ext' ?_)
  | (with_reducible refine w_rng ?_)
  | (with_reducible refine w_rng2 ?_)
  | (with_reducible refine w_rng3 ?_)
  | (with_reducible refine w_for ?_)
  | (with_reducible refine w_lc ?_)
  | (with_reducible refine w_lc2 ?_)
  | (with_reducible refine w_yes ?_)
  | (with_reducible refine w_dc ?_)
  | (with_reducible refine w_di ?_)
  | (with_reducible refine w_kydS ?_)
  | (with_reducible refine w_kydI ?_)
  | (with_reducible refine w_dget ?_)
  | (with_reducible refine w_en ?_)
  | (with_reducible refine w_enT ?_)
  | (with_reducible refine w_enL ?_)
  | (with_reducible refine w_zip ?_)
  | (with_reducible refine w_zTT ?_)
  | (with_reducible refine w_zTL ?_)
  | (with_reducible refine w_zLT ?_)
  | (with_reducible refine w_zLL ?_)
  | (with_reducible refine w_catL ?_)
  | (with_reducible refine w_idxT ?_)
  | (with_reducible refine w_no ?_)
  | (with_reducible refine w_exi ?_)
  | (with_reducible refine w_so ?_)
  | (with_reducible refine w_slT ?_)
  | (with_reducible refine w_slL ?_)
  | (with_reducible refine w_leLe ?_)
  | (with_reducible refine w_exs ?_)
  | (with_reducible refine w_itS ?_)
  | (with_reducible refine w_exii ?_)
  | (with_reducible refine w_ex1i ?_)
  | (with_reducible refine w_ex2i ?_)
  | (with_reducible refine w_ex3i ?_)
  | (with_reducible refine w_exll ?_)
  | (with_reducible refine w_seqO ?_)
  | (with_reducible refine w_absI ?_)
  | (with_reducible refine w_split ?_)
  | (with_reducible refine w_repL ?_)
  | (with_reducible refine w_eqI ?_)
  | (with_reducible refine w_neI ?_)
  | (with_reducible refine w_eqBtt ?_)
  | (with_reducible refine w_eqBtf ?_)
  | (with_reducible refine w_eqBft ?_)
  | (with_reducible refine w_eqBff ?_)
  | (with_reducible refine w_neBtt ?_)
  | (with_reducible refine w_neBtf ?_)
  | (with_reducible refine w_neBft ?_)
  | (with_reducible refine w_neBff ?_)
  | (with_reducible refine w_eqB ?_)
  | (with_reducible refine w_neB ?_)
  | (with_reducible refine w_eqLL ?_)
  | (with_reducible refine w_neLL ?_)
  | (with_reducible refine w_eqTT ?_)
  | (with_reducible refine w_eqIN ?_)
  | (with_reducible refine w_inT ?_)
  | (with_reducible refine w_inL ?_)
  | (with_reducible refine w_niT ?_)
  | (with_reducible refine w_niL ?_)
  | (with_reducible refine w_ni0 ?_)
  | (with_reducible refine w_in0 ?_)
  | (with_reducible refine w_all ?_)
  | (with_reducible refine w_sum ?_)
  | (with_reducible refine w_callL ?_)
  | (with_reducible refine w_dzip ?_)
  | (with_reducible refine w_dseq ?_)
  | (with_reducible refine w_keyS ?_)
  | (with_reducible refine w_xod ?_)
  | (with_reducible refine w_isx ?_)
  | (with_reducible refine w_callX ?_)
  | (with_reducible refine w_raise0 ?_)
  | ((with_reducible refine' w_frz ?pxg ?_); (case pxg => exact rfl))
  | ((with_reducible refine' w_app ?pxg ?_); (case pxg => exact rfl))
  | ((with_reducible refine' w_ext ?pxg ?_); (case pxg => exact rfl))
  | ((with_reducible refine' w_aug ?pxg ?_); (case pxg => exact rfl))
  | ((with_reducible refine' w_var ?pxg ?_); (case pxg => exact rfl))
  | ((with_reducible refine' w_varB ?pxg ?_); (case pxg => exact rfl))
  | ((with_reducible refine' w_varBo ?pxg ?_); (case pxg => exact rfl))
  | ((with_reducible refine' w_varBd ?pxg ?_); (case pxg => exact rfl))
  | ((with_reducible refine' w_arw ?pxg ?_); (case pxg => exact rfl))
  | ((with_reducible refine' w_clo ?pxg ?_); (case pxg => exact rfl))
  | ((with_reducible refine' w_ixT ?pxg ?_); (case pxg => exact rfl))
  | ((with_reducible refine' w_ixL ?pxg ?_); (case pxg => exact rfl))
  | ((with_reducible refine' w_gtp ?pxg ?_); (case pxg => exact rfl))
  | ((with_reducible refine' w_gtpl ?pxg ?_); (case pxg => exact rfl))
  | ((with_reducible refine' w_odget ?pxg ?_); (case pxg => exact rfl))
  | ((with_reducible refine' w_odput ?pxg ?_); (case pxg => exact rfl))
  | ((with_reducible refine' w_ty ?pxg ?_); (case pxg => first | exact ty_int_int _ | exact ty_int_bool _ | exact ty_int_tup _ | exact ty_int_str _ | exact ty_tup_tup _ | exact ty_tup_int _ | exact ty_tup_bool _ | exact ty_tup_str _ | exact ty_str_tup _ | exact ty_str_str _ | exact ty_str_int _ | exact ty_str_bool _ | exact ty_none_tup | exact ty_none_int | exact ty_none_bool | exact ty_none_str | exact ty_bool_tup _ | exact ty_bool_int _ | exact ty_bool_bool _ | exact ty_bool_str _)))
local macro_rules | `(tactic| walk_at "px") => `(tactic| repeat walk_at "px1")

theorem c_repr {b : Bool} {P} (h : P (.str (PyData.list [.bool b, .bool b]).shown)) : oRepr [.list [.bool b, .bool b]] P := by
  cases b
  · exact ⟨by decide +kernel, by decide +kernel, by decide +kernel, by decide +kernel, h⟩
  · exact ⟨by decide +kernel, by decide +kernel, by decide +kernel, by decide +kernel, h⟩
theorem shown_ok (b : Bool) : PyData.strOk (PyData.list [.bool b, .bool b]).shown = true := by
  cases b <;> decide +kernel
theorem range_some {α : Type} (xs : List α) : (List.range xs.length).map (fun i => xs[i]?) = xs.map some := by
  refine List.ext_getElem? fun i => ?_
  rw [List.getElem?_map, List.getElem?_map]
  by_cases hi : i < xs.length
  · rw [List.getElem?_range hi, List.getElem?_eq_getElem hi]
    simp [List.getElem?_eq_getElem hi]
  · rw [List.getElem?_eq_none (by simp; omega), List.getElem?_eq_none (by omega)]
    rfl
theorem range_fil {α : Type} (enc : α → D) (p : α → Bool) (xs : List α) : ((List.range xs.length).filter fun i => (xs[i]?.map p).getD false).map (fun i => (xs[i]?.map enc).getD .none) = (xs.filter p).map enc := by
  have e1 : (List.range xs.length).filter (fun i => (xs[i]?.map p).getD false) = (List.range xs.length).filter ((fun o : Option α => (o.map p).getD false) ∘ fun i => xs[i]?) := rfl
  have e2 : ∀ l : List Nat, l.map (fun i => (xs[i]?.map enc).getD .none) = (l.map fun i => xs[i]?).map fun o : Option α => (o.map enc).getD .none := fun l => by rw [List.map_map]; rfl
  rw [e1, e2, ← List.filter_map, range_some, List.filter_map, List.map_map]
  rfl
theorem pair_len {α β : Type} {R : α → β → Prop} : ∀ {xs : List α} {ys : List β}, Paired R xs ys → ys.length = xs.length
  | _, _, .nil => rfl
  | _, _, .cons _ t => by simp only [List.length_cons]; rw [pair_len t]
def okB (L : List Crt) (S : List Sgt) (r : Crt) (b : Int) : Bool := decide (lowI L S r.n ≤ b) && decide (b ≤ topI L S r.n)
def badAt (L : List Crt) (S : List Sgt) (bs : List Int) (i : Nat) : Bool := ((L[i]?).map fun r => ((bs[i]?).map fun b => !okB L S r b).getD false).getD false
theorem fit_eq {L : List Crt} {S : List Sgt} {bs : List Int} (hl : bs.length = L.length) : decide (((List.range bs.length).filter (badAt L S bs)).map (fun i : Nat => PyData.int (i : Int)) = []) = fitB L S bs := by
  unfold fitB
  rw [Bool.eq_iff_iff, decide_eq_true_eq, List.map_eq_nil_iff, List.filter_eq_nil_iff, List.all_eq_true]
  constructor
  · intro h p hp
    obtain ⟨i, hi⟩ := List.mem_iff_getElem?.mp hp
    obtain ⟨h1, h2⟩ := List.getElem?_zip_eq_some.mp hi
    have hlt := (List.getElem?_eq_some_iff.mp h1).1
    have := h i (List.mem_range.mpr hlt)
    unfold badAt at this
    rw [h1, h2] at this
    show okB L S p.2 p.1 = true
    cases e : okB L S p.2 p.1 with
    | true => rfl
    | false => exact (this (by simp [e])).elim
  · intro h i hi
    have hlt := List.mem_range.mp hi
    have h1 : bs[i]? = some bs[i] := List.getElem?_eq_getElem hlt
    have h2 : L[i]? = some (L[i]'(by omega)) := List.getElem?_eq_getElem (by omega)
    have := h (bs[i], L[i]'(by omega)) (List.mem_of_getElem? (List.getElem?_zip_eq_some.mpr ⟨h1, h2⟩))
    have : okB L S (L[i]'(by omega)) bs[i] = true := this
    unfold badAt
    rw [h1, h2]
    simp [this]
theorem low_0 {L : List Crt} {S : List Sgt} {x : Str} : 0 ≤ lowI L S x := (fold_mx _ _).2 0 List.mem_cons_self
theorem top_9 {L : List Crt} {S : List Sgt} {x : Str} : topI L S x ≤ 999 := (fold_mn _ _).2 999 List.mem_cons_self
theorem mx_in {i : Int} (h : i ≤ 999) : 0 ≤ mx 0 i ∧ mx 0 i ≤ 999 := by unfold mx; split <;> omega
theorem mn_in {i : Int} (h : 0 ≤ i) : 0 ≤ mn 999 i ∧ mn 999 i ≤ 999 := by unfold mn; split <;> omega
theorem mn_le {i : Int} : mn 999 i ≤ 999 := by unfold mn; split <;> omega
structure BsOk (L : List Crt) (bs : List Int) : Prop where
  len : bs.length = L.length
  rng : ∀ b ∈ bs, 0 ≤ b ∧ b ≤ 999
theorem frst_pln {l : List Str} {n : Nat} (h : ∀ z ∈ l, NameOk z) : Pln n (frstD l) := by
  cases l with
  | nil => exact .none
  | cons z r => exact .str (h z List.mem_cons_self).ok
theorem ints_pln {L : List Crt} {f : Crt → Int} {n : Nat} (h : L.length ≤ 7) : Pln (n + 1) (.tuple (L.map fun r => .int (f r))) := .tup (fun d hd => by
  obtain ⟨r, _, rfl⟩ := List.mem_map.mp hd
  exact .int _) (by rw [List.length_map]; omega)
theorem w_frst {ρ : List Sl} {P : D → Prop} {i : Nat} {l : List Str} (hg : gt ρ i = .da (.list (l.map .str))) (hs : SeqAt.shaped (.list (l.map PyData.str)) = true) (h : P (frstD l)) : mIfE (mTest (mBin (oEq true) (mVar i) (mL (mLst mBnil)))) (mBin oIx (mVar i) (mC (.int 0))) (mC .none) ρ P := by
  walk_at "px1"
  walk_at "px1"
  walk_at "px1"
  refine w_var hg ?_
  walk_at "px"
  refine w_neL0 hs ?_
  cases l with
  | nil => exact ⟨_, rfl, h⟩
  | cons z r =>
    rw [decide_eq_false (by simp)]
    refine ⟨_, rfl, ?_⟩
    refine w_var hg ?_
    exact ⟨.str z, at_map (enc := PyData.str) (xs := z :: r) (i := 0) rfl, h⟩
theorem w_ndF {l : List Str} {p : Prop} (h : p) : nd (frstD l) p := by
  cases l with
  | nil => exact w_ndN h
  | cons z r => exact w_ndS h
local macro_rules | `(tactic| walk_at "px1") => `(tactic| with_reducible refine w_ndF ?_)
local macro_rules | `(tactic| walk_at "px1") => `(tactic| ((with_reducible refine' w_frst ?pxg ?pxh ?_); (case pxg => exact rfl); (case pxh => assumption)))
theorem c_right {wl : Addr} : ph__law_right wl [.rw (.ref wl)] (fun d => d = .bool true) (fun _ => False) := by
  refine w_body ?_; unfold m__law_right; walk_at "px"
  refine c_pieces (most := 4) (by decide) (by decide) fun L hL h1 h4 => ?_
  have hsz : sizeLine = 16777216 := rfl
  walk_at "px"
  refine lc_relT (dec := PyData.int) (fun (_ : Crt) (b : Int) => 0 ≤ b ∧ b ≤ 999) _ (fun r hr Q hq => ?_) fun own hown => ?_
  · walk_at "px"
    refine c_draw (by decide) (by decide) fun a ha0 ha1 => ?_
    exact hq a ⟨ha0, by omega⟩
  have ho : BsOk L own := ⟨pair_len hown, paired_snd hown⟩
  walk_at "px"
  refine c_seen hL h1 ho.len ho.rng fun S hS => ?_
  walk_at "px"
  refine c_limits hL hS ?_
  walk_at "px"
  refine ⟨by rw [List.length_map]; omega, by rw [List.length_map]; omega, ?_⟩
  have eu : upto ((L.map pcR).length : Nat) = (List.range L.length).map fun i : Nat => .int (i : Int) := by
    unfold upto
    rw [List.length_map]
    rfl
  rw [eu]
  refine lc_filT (dec := fun i : Nat => (L[i]?.map fun r : Crt => PyData.str r.n).getD .none) (fun i => (L[i]?.map (barB L S)).getD false) _ (fun i hi Q h5 h6 => ?_) ?_
  · have hi : i < L.length := List.mem_range.mp hi
    have e1 : L[i]? = some L[i] := List.getElem?_eq_getElem hi
    generalize L[i] = r at e1
    rw [e1] at h5 h6
    walk_at "px"
    refine ⟨_, at_map (enc := fun r : Crt => .tuple [.int (lowI L S r.n), .int (topI L S r.n)]) e1, ?_⟩
    walk_at "px"
    refine ⟨_, at_map (enc := fun r : Crt => .tuple [.int (lowI L S r.n), .int (topI L S r.n)]) e1, ?_⟩
    walk_at "px"
    by_cases hb : lowI L S r.n > topI L S r.n
    · refine w_pos (decide_eq_true hb) ?_
      walk_at "px"
      refine ⟨_, at_map (enc := pcR) e1, ?_⟩
      walk_at "px"
      exact h5 (decide_eq_true hb)
    · refine w_neg (decide_eq_false hb) ?_
      exact h6 (decide_eq_false hb)
  rw [range_fil (fun r : Crt => PyData.str r.n) (barB L S), show (L.filter (barB L S)).map (fun r : Crt => PyData.str r.n) = (barL L S).map .str from by unfold barL; rw [List.map_map]; rfl]
  have hbn : ∀ z ∈ barL L S, NameOk z := fun z hz => by
    obtain ⟨r, hr, rfl⟩ := List.mem_map.mp hz
    exact (hL.row r (List.mem_filter.mp hr).1).nm
  have hbd : decide ((barL L S).map PyData.str = []) = decide (barL L S = []) := decide_eq_decide.mpr List.map_eq_nil_iff
  walk_at "px"
  refine c_fits hL h1 hS ?_
  walk_at "px"
  refine c_fits hL h1 hS ?_
  walk_at "px"
  refine c_repr ?_
  walk_at "px"
  refine w_eqL0 (bar_shp hL) ?_
  rw [hbd]
  walk_at "px"
  refine ⟨⟨by decide, by decide, (by decide : 1 * 2 ≤ sizeLine)⟩, ?_⟩
  walk_at "px"
  refine c_repr ?_
  walk_at "px"
  refine w_neS (shown_ok _) (shown_ok _) ?_
  rw [decide_eq_true rfl]
  have hbs : SeqAt.shaped (.list ((barL L S).map PyData.str)) = true := bar_shp hL
  walk_at "px"
  refine c_barring hL h1 hS ?_
  walk_at "px"
  refine c_barring hL h1 hS ?_
  walk_at "px"
  refine c_same 4 _ (Pln.two (n := 3) (frst_pln hbn)) ?_
  walk_at "px"
  refine lc_mapT (dec := fun r : Crt => .int (lowI L S r.n)) _ (fun r hr Q hq => ?_) ?_
  · walk_at "px"
    exact hq
  walk_at "px"
  refine lc_mapT (dec := fun r : Crt => .int (topI L S r.n)) _ (fun r hr Q hq => ?_) ?_
  · walk_at "px"
    exact hq
  walk_at "px"
  refine lc_relT (dec := PyData.int) (fun (_ : Crt) (_ : Int) => True) _ (fun r hr Q hq => ?_) fun ds hds => ?_
  · walk_at "px"
    refine c_of (show 0 < 5 by decide) (show 5 < 1073741824 by decide) fun d hd => ?_
    simp only [List.mem_cons, List.not_mem_nil, or_false] at hd
    rcases hd with rfl | rfl | rfl | rfl | rfl <;> exact hq _ trivial
  walk_at "px"
  refine lc_mapT (dec := fun i : Int => .int (mx 0 (mn 999 i))) _ (fun i hi Q hq => ?_) ?_
  · walk_at "px"
    exact hq
  rw [show ds.map (fun i : Int => PyData.int (mx 0 (mn 999 i))) = (ds.map fun i => mx 0 (mn 999 i)).map .int from by rw [List.map_map]; rfl]
  have hd : BsOk L (ds.map fun i => mx 0 (mn 999 i)) := ⟨by rw [List.length_map, pair_len hds], fun b hb => by
    obtain ⟨i, _, rfl⟩ := List.mem_map.mp hb
    exact mx_in mn_le⟩
  generalize (ds.map fun i => mx 0 (mn 999 i)) = dr at hd
  walk_at "px"
  refine lc_mapT (dec := fun r : Crt => .int (mx 0 (topI L S r.n))) _ (fun r hr Q hq => ?_) ?_
  · walk_at "px"
    exact hq
  rw [show L.map (fun r : Crt => PyData.int (mx 0 (topI L S r.n))) = (L.map fun r => mx 0 (topI L S r.n)).map .int from by rw [List.map_map]; rfl]
  have hh : BsOk L (L.map fun r => mx 0 (topI L S r.n)) := ⟨by rw [List.length_map], fun b hb => by
    obtain ⟨i, _, rfl⟩ := List.mem_map.mp hb
    exact mx_in top_9⟩
  generalize (L.map fun r => mx 0 (topI L S r.n)) = hs at hh
  walk_at "px"
  refine lc_mapT (dec := fun r : Crt => .int (mn 999 (lowI L S r.n))) _ (fun r hr Q hq => ?_) ?_
  · walk_at "px"
    exact hq
  rw [show L.map (fun r : Crt => PyData.int (mn 999 (lowI L S r.n))) = (L.map fun r => mn 999 (lowI L S r.n)).map .int from by rw [List.map_map]; rfl]
  have hl : BsOk L (L.map fun r => mn 999 (lowI L S r.n)) := ⟨by rw [List.length_map], fun b hb => by
    obtain ⟨i, _, rfl⟩ := List.mem_map.mp hb
    exact mn_in low_0⟩
  generalize (L.map fun r => mn 999 (lowI L S r.n)) = ls at hl
  walk_at "px"
  refine for_invT (enc := numsD) (fun u v ρ => ρ = [.rw (.ref wl), .da (pcD L), .da (numsD own), .da (snD S), .da (limD L S), .da (.list ((barL L S).map .str)), .da (frstD (barL L S)), .da (numsD dr), .un, .da (lowsD L S), .da (topsD L S), .un, .un, .un, .un, .un, .un, .un]) [own, dr, hs, ls] ?_ rfl ?_
  · rintro u v bs ρ k e rfl hk
    have hbs2 : BsOk L bs := by
      have hm : bs ∈ [own, dr, hs, ls] := by rw [e]; simp
      simp only [List.mem_cons, List.not_mem_nil, or_false] at hm
      rcases hm with rfl | rfl | rfl | rfl
      · exact ho
      · exact hd
      · exact hh
      · exact hl
    have hbl := hbs2.len
    walk_at "px"
    refine ⟨by rw [List.length_map]; omega, by rw [List.length_map]; omega, ?_⟩
    have eu : upto ((bs.map PyData.int).length : Nat) = (List.range bs.length).map fun i : Nat => .int (i : Int) := by
      unfold upto
      rw [List.length_map]
      rfl
    rw [eu]
    refine lc_filT (dec := fun i : Nat => .int (i : Int)) (badAt L S bs) _ (fun i hi Q h5 h6 => ?_) ?_
    · have hi : i < bs.length := List.mem_range.mp hi
      have e1 : L[i]? = some (L[i]'(by omega)) := List.getElem?_eq_getElem (by omega)
      have e2 : bs[i]? = some bs[i] := List.getElem?_eq_getElem hi
      generalize (L[i]'(by omega)) = r at e1
      generalize bs[i] = b at e2
      have eb : badAt L S bs i = !okB L S r b := by
        unfold badAt
        rw [e1, e2]
        rfl
      rw [eb] at h5 h6
      walk_at "px"
      refine ⟨_, at_map (enc := fun r : Crt => .tuple [.int (lowI L S r.n), .int (topI L S r.n)]) e1, ?_⟩
      walk_at "px"
      refine ⟨_, at_map (enc := PyData.int) e2, ?_⟩
      walk_at "px"
      by_cases q1 : lowI L S r.n ≤ b
      · rw [if_pos q1]
        walk_at "px"
        refine ⟨_, at_map (enc := fun r : Crt => .tuple [.int (lowI L S r.n), .int (topI L S r.n)]) e1, ?_⟩
        walk_at "px"
        by_cases q2 : b ≤ topI L S r.n
        · rw [decide_eq_true q2]
          walk_at "px"
          exact h6 (by unfold okB; rw [decide_eq_true q1, decide_eq_true q2]; rfl)
        · rw [decide_eq_false q2]
          walk_at "px"
          exact h5 (by unfold okB; rw [decide_eq_false q2, Bool.and_false]; rfl)
      · rw [if_neg q1]
        walk_at "px"
        exact h5 (by unfold okB; rw [decide_eq_false q1, Bool.false_and]; rfl)
    walk_at "px"
    refine w_eqL0 ((Shp.lst (n := 0) fun d hd => by
      obtain ⟨z, hz, rfl⟩ := List.mem_map.mp hd
      exact Shp.int).ok (by decide)) ?_
    rw [fit_eq hbl]
    walk_at "px"
    refine c_do_fit hL h1 hS hbl hbs2.rng ?_
    walk_at "px"
    refine c_do_fit hL h1 hS hbl hbs2.rng ?_
    walk_at "px"
    refine c_repr ?_
    walk_at "px"
    refine c_repr ?_
    walk_at "px"
    refine w_neS (shown_ok _) (shown_ok _) ?_
    rw [decide_eq_true rfl]
    walk_at "px"
    exact hk _ rfl
  rintro ρ rfl
  walk_at "px"
  refine w_neL0 hbs ?_
  by_cases hb : barL L S = []
  · rw [decide_eq_true (List.map_eq_nil_iff.mpr hb)]
    walk_at "px"
    refine c_least_bears hL h1 hS (fun _ => ?_) fun h => (h hb).elim
    walk_at "px"
    refine c_least_bears hL h1 hS (fun _ => ?_) fun h => (h hb).elim
    walk_at "px"
    refine c_same 4 _ (Pln.two (n := 3) (ints_pln hL.few)) ?_
    walk_at "px"
    refine c_greatest_bears hL h1 hS (fun _ => ?_) fun h => (h hb).elim
    walk_at "px"
    refine c_greatest_bears hL h1 hS (fun _ => ?_) fun h => (h hb).elim
    walk_at "px"
    refine c_same 4 _ (Pln.two (n := 3) (ints_pln hL.few)) ?_
    rfl
  · rw [decide_eq_false (fun e => hb (List.map_eq_nil_iff.mp e))]
    walk_at "px"
    refine c_least_bears hL h1 hS (fun h => (hb h).elim) fun _ => ⟨rfl, ?_⟩
    walk_at "px"
    refine c_greatest_bears hL h1 hS (fun h => (hb h).elim) fun _ => ⟨rfl, ?_⟩
    walk_at "px"
    refine ⟨(by decide : 1 < sizeLine), ?_⟩
    walk_at "px"
    refine ⟨by decide +kernel, by decide +kernel, ?_⟩
    simp [PyData.eqv, PyData.eqvAll]
end K75

set_option Elab.async false
set_option linter.all false
set_option maxRecDepth 100000
set_option maxHeartbeats 0
namespace K75
open PySem PySem.Spec L2 Pu LamX
open PyProof.Rows hiding St
def tabS (K : PySem.W.Frag) : List (Addr × Str) := [((He.cT K ("wrong_pieces", none)).2, "wrong_pieces.<locals>.is_right"), ((He.cT K ("wrong_order", none)).2, "wrong_order.<locals>.<lambda>"), ((He.cT K ("wrong_seen", none)).2, "wrong_seen.<locals>.<lambda>"), ((He.cT K ("do_fit", none)).2, "do_fit.<locals>.<lambda>"), ((He.cT K ("_law_right", none)).2, "_law_right.<locals>.<lambda>")]
abbrev tabL (K : PySem.W.Frag) : List NTab := tl (tabS K)
abbrev PG : Program := R.prog
section
variable {P : Program} {w : World} {K : PySem.W.Frag} {h base : Heap} {mg : Str → Option Value}
theorem faL_mem {f : He.Fa} (i : Nat) (h : faL[i]? = some f) : f ∈ faL := List.mem_of_getElem? h
theorem fnL_mem {f : He.DefD} (i : Nat) (h : fnL[i]? = some f) : f ∈ fnL := List.mem_of_getElem? h
theorem gl {x : Str} (X : K.In h) (G : h.Ns mainGlobals mg) (c : He.SaysD faL fnL K) (m : He.Fa.glo x ∈ faL) : mg x = some (.ref (He.ga K x)) := He.glo_ok X G (c.facts m)
theorem fr {x : Str} (X : K.In h) (G : h.Ns mainGlobals mg) (c : He.SaysD faL fnL K) (m : He.Fa.free x ∈ faL) : mg x = none := He.free_ok X G (c.facts m)
theorem df {x : Str} {i : Nat} {dfl : List He.Dv} (X : K.In h) (G : h.Ns mainGlobals mg) (c : He.SaysD faL fnL K) (m : He.Fa.glo x ∈ faL) (n : dN x i dfl ∈ fnL) : ∃ fd, Def K mg x (topS i) (dfl.map (He.Dv.v K)) (He.ga K x) fd := by
  obtain ⟨fd, F⟩ := c.defs n
  exact ⟨fd, F, gl X G c m⟩
theorem blt (X : K.In h) (G : h.Ns mainGlobals mg) (c : He.SaysD faL fnL K) : Blt mg where
  len := fr X G c (faL_mem 51 rfl)
  int := fr X G c (faL_mem 52 rfl)
  abs := fr X G c (faL_mem 53 rfl)
  all := fr X G c (faL_mem 54 rfl)
  any := fr X G c (faL_mem 55 rfl)
  sum := fr X G c (faL_mem 56 rfl)
  min := fr X G c (faL_mem 57 rfl)
  max := fr X G c (faL_mem 58 rfl)
  tuple := fr X G c (faL_mem 59 rfl)
  list := fr X G c (faL_mem 60 rfl)
  bool := fr X G c (faL_mem 61 rfl)
  str := fr X G c (faL_mem 62 rfl)
  dict := fr X G c (faL_mem 63 rfl)
  set := fr X G c (faL_mem 64 rfl)
  divmod := fr X G c (faL_mem 65 rfl)
  isinstance := fr X G c (faL_mem 66 rfl)
  range := fr X G c (faL_mem 67 rfl)
  enumerate := fr X G c (faL_mem 68 rfl)
  zip := fr X G c (faL_mem 69 rfl)
  sorted := fr X G c (faL_mem 70 rfl)
  repr := fr X G c (faL_mem 71 rfl)
end
theorem law_ok {w : World} {K : PySem.W.Frag} {h base : Heap} {mg : Str → Option Value} (X : K.In h) (G : h.Ns mainGlobals mg) (c : He.SaysD faL fnL K) (ex : exB K = true) (TB : ∀ p ∈ tfL.map (He.cT K), LamX.TabB base mg p.1 p.2) (sup : ∀ (i : Nat) (d : SupD), supL[i]? = some d → fnC1 K d.x = d.val) {fd : FuncData} (D_law : Def K mg "law" s_law [] (He.ga K "law") fd) :
    FnG PG w K mg base 20 (He.ga K "law") fd ["script"] (spLaw K (tabL K)) := by
  have D_law0 := D_law
  obtain ⟨fd_is_whole, D_is_whole⟩ := df (dfl := []) X G c (faL_mem 0 rfl) (fnL_mem 0 rfl)
  obtain ⟨fd_is_number, D_is_number⟩ := df (dfl := []) X G c (faL_mem 1 rfl) (fnL_mem 1 rfl)
  obtain ⟨fd_is_tuple_of, D_is_tuple_of⟩ := df (dfl := []) X G c (faL_mem 2 rfl) (fnL_mem 2 rfl)
  obtain ⟨fd_wrong_at, D_wrong_at⟩ := df (dfl := []) X G c (faL_mem 3 rfl) (fnL_mem 3 rfl)
  obtain ⟨fd_wrong_from_one, D_wrong_from_one⟩ := df (dfl := []) X G c (faL_mem 4 rfl) (fnL_mem 4 rfl)
  obtain ⟨fd_wrong_for_all, D_wrong_for_all⟩ := df (dfl := []) X G c (faL_mem 5 rfl) (fnL_mem 5 rfl)
  obtain ⟨fd_is_letters, D_is_letters⟩ := df (dfl := []) X G c (faL_mem 6 rfl) (fnL_mem 6 rfl)
  obtain ⟨fd_is_name, D_is_name⟩ := df (dfl := []) X G c (faL_mem 7 rfl) (fnL_mem 7 rfl)
  obtain ⟨fd_is_one_of, D_is_one_of⟩ := df (dfl := []) X G c (faL_mem 8 rfl) (fnL_mem 8 rfl)
  obtain ⟨fd_weights_by, D_weights_by⟩ := df (dfl := []) X G c (faL_mem 9 rfl) (fnL_mem 9 rfl)
  obtain ⟨fd_loads_in, D_loads_in⟩ := df (dfl := []) X G c (faL_mem 10 rfl) (fnL_mem 10 rfl)
  obtain ⟨fd_is_piece, D_is_piece⟩ := df (dfl := []) X G c (faL_mem 11 rfl) (fnL_mem 11 rfl)
  obtain ⟨fd_wrong_pieces, D_wrong_pieces⟩ := df (dfl := []) X G c (faL_mem 12 rfl) (fnL_mem 12 rfl)
  obtain ⟨fd_piece_names, D_piece_names⟩ := df (dfl := []) X G c (faL_mem 13 rfl) (fnL_mem 13 rfl)
  obtain ⟨fd_wrong_order, D_wrong_order⟩ := df (dfl := []) X G c (faL_mem 14 rfl) (fnL_mem 14 rfl)
  obtain ⟨fd_is_sight, D_is_sight⟩ := df (dfl := []) X G c (faL_mem 15 rfl) (fnL_mem 15 rfl)
  obtain ⟨fd_wrong_seen, D_wrong_seen⟩ := df (dfl := []) X G c (faL_mem 16 rfl) (fnL_mem 16 rfl)
  obtain ⟨fd_lot_with_bears, D_lot_with_bears⟩ := df (dfl := []) X G c (faL_mem 17 rfl) (fnL_mem 17 rfl)
  obtain ⟨fd_loads_of, D_loads_of⟩ := df (dfl := []) X G c (faL_mem 18 rfl) (fnL_mem 18 rfl)
  obtain ⟨fd_loads_borne, D_loads_borne⟩ := df (dfl := []) X G c (faL_mem 19 rfl) (fnL_mem 19 rfl)
  obtain ⟨fd_loads_broken, D_loads_broken⟩ := df (dfl := []) X G c (faL_mem 20 rfl) (fnL_mem 20 rfl)
  obtain ⟨fd_leasts_of, D_leasts_of⟩ := df (dfl := []) X G c (faL_mem 21 rfl) (fnL_mem 21 rfl)
  obtain ⟨fd_greatests_of, D_greatests_of⟩ := df (dfl := []) X G c (faL_mem 22 rfl) (fnL_mem 22 rfl)
  obtain ⟨fd_barred_pieces, D_barred_pieces⟩ := df (dfl := []) X G c (faL_mem 23 rfl) (fnL_mem 23 rfl)
  obtain ⟨fd_are_fitting, D_are_fitting⟩ := df (dfl := []) X G c (faL_mem 24 rfl) (fnL_mem 24 rfl)
  obtain ⟨fd_check_seen, D_check_seen⟩ := df (dfl := []) X G c (faL_mem 25 rfl) (fnL_mem 25 rfl)
  obtain ⟨fd_check_fit, D_check_fit⟩ := df (dfl := []) X G c (faL_mem 26 rfl) (fnL_mem 26 rfl)
  obtain ⟨fd_fits, D_fits⟩ := df (dfl := []) X G c (faL_mem 27 rfl) (fnL_mem 27 rfl)
  obtain ⟨fd_do_fit, D_do_fit⟩ := df (dfl := []) X G c (faL_mem 28 rfl) (fnL_mem 28 rfl)
  obtain ⟨fd_least_bears, D_least_bears⟩ := df (dfl := []) X G c (faL_mem 29 rfl) (fnL_mem 29 rfl)
  obtain ⟨fd_greatest_bears, D_greatest_bears⟩ := df (dfl := []) X G c (faL_mem 30 rfl) (fnL_mem 30 rfl)
  obtain ⟨fd_barring_piece, D_barring_piece⟩ := df (dfl := []) X G c (faL_mem 31 rfl) (fnL_mem 31 rfl)
  obtain ⟨fd__law_well, D__law_well⟩ := df (dfl := []) X G c (faL_mem 32 rfl) (fnL_mem 32 rfl)
  obtain ⟨fd__law_draw, D__law_draw⟩ := df (dfl := []) X G c (faL_mem 33 rfl) (fnL_mem 33 rfl)
  obtain ⟨fd__law_of, D__law_of⟩ := df (dfl := []) X G c (faL_mem 34 rfl) (fnL_mem 34 rfl)
  obtain ⟨fd__law_same, D__law_same⟩ := df (dfl := []) X G c (faL_mem 35 rfl) (fnL_mem 35 rfl)
  obtain ⟨fd__law_names, D__law_names⟩ := df (dfl := []) X G c (faL_mem 36 rfl) (fnL_mem 36 rfl)
  obtain ⟨fd__law_shuffled, D__law_shuffled⟩ := df (dfl := []) X G c (faL_mem 37 rfl) (fnL_mem 37 rfl)
  obtain ⟨fd__law_put, D__law_put⟩ := df (dfl := []) X G c (faL_mem 38 rfl) (fnL_mem 38 rfl)
  obtain ⟨fd__law_lot_of, D__law_lot_of⟩ := df (dfl := []) X G c (faL_mem 39 rfl) (fnL_mem 39 rfl)
  obtain ⟨fd__law_lot, D__law_lot⟩ := df (dfl := []) X G c (faL_mem 40 rfl) (fnL_mem 40 rfl)
  obtain ⟨fd__law_plain, D__law_plain⟩ := df (dfl := []) X G c (faL_mem 41 rfl) (fnL_mem 41 rfl)
  obtain ⟨fd__law_crate, D__law_crate⟩ := df (dfl := []) X G c (faL_mem 42 rfl) (fnL_mem 42 rfl)
  obtain ⟨fd__law_loads, D__law_loads⟩ := df (dfl := []) X G c (faL_mem 43 rfl) (fnL_mem 43 rfl)
  obtain ⟨fd__law_broken, D__law_broken⟩ := df (dfl := []) X G c (faL_mem 44 rfl) (fnL_mem 44 rfl)
  obtain ⟨fd__law_pieces, D__law_pieces⟩ := df (dfl := []) X G c (faL_mem 45 rfl) (fnL_mem 45 rfl)
  obtain ⟨fd__law_seen, D__law_seen⟩ := df (dfl := []) X G c (faL_mem 46 rfl) (fnL_mem 46 rfl)
  obtain ⟨fd__law_limits, D__law_limits⟩ := df (dfl := []) X G c (faL_mem 47 rfl) (fnL_mem 47 rfl)
  obtain ⟨fd__law_right, D__law_right⟩ := df (dfl := []) X G c (faL_mem 48 rfl) (fnL_mem 48 rfl)
  obtain ⟨fd__law_is_none, D__law_is_none⟩ := df (dfl := []) X G c (faL_mem 49 rfl) (fnL_mem 49 rfl)
  have B := blt X G c
  have V_SMALL_LETTERS : GVal K mg "SMALL_LETTERS" (.str "abcdefghijklmnopqrstuvwxyz") := Ex.gstr X G (c.facts (faL_mem 76 rfl))
  have V_MOST_IN_NAME : GVal K mg "MOST_IN_NAME" (.int 8) := Ex.gint X G (c.facts (faL_mem 77 rfl))
  have V_MOST_WEIGHT : GVal K mg "MOST_WEIGHT" (.int 999) := Ex.gint X G (c.facts (faL_mem 79 rfl))
  have V_MOST_BEARS : GVal K mg "MOST_BEARS" (.int 999) := Ex.gint X G (c.facts (faL_mem 80 rfl))
  have V_MOST_CRATES : GVal K mg "MOST_CRATES" (.int 7) := Ex.gint X G (c.facts (faL_mem 81 rfl))
  have V_MOST_SEEN : GVal K mg "MOST_SEEN" (.int 9) := Ex.gint X G (c.facts (faL_mem 82 rfl))
  have V_HELD : GVal K mg "HELD" (.str "") := Ex.gstr X G (c.facts (faL_mem 83 rfl))
  have KTP : TupPl K := Ex.plB_ok (He.ba (He.ba (He.ba (He.ba (He.ba ex).1).1).1).1).1
  have AP := (He.ba (He.ba (He.ba (He.ba (He.ba ex).1).1).1).1).2
  have V_WORDS : GTup K mg "WORDS" (He.ga K "WORDS") (.tuple [.str "above", .str "all", .str "any", .str "bears", .str "below", .str "broke", .str "by", .str "can", .str "crate", .str "day", .str "days", .str "goes", .str "guest", .str "held", .str "holds", .str "in", .str "leaves", .str "lifts", .str "loads", .str "most", .str "no", .str "none", .str "of", .str "on", .str "out", .str "pull", .str "put", .str "room", .str "rule", .str "shelf", .str "slip", .str "snow", .str "spare", .str "stack", .str "take", .str "tidy", .str "to", .str "top", .str "weighs", .str "with", .str "yard"]) := ⟨gl X G c (faL_mem 78 rfl), fun S => .tup (He.tupB_ok (He.ba (He.ba (He.ba (He.ba ex).1).1).1).2 S) (by repeat (first | exact .nil | refine .cons (.str _) ?_ | refine .cons (.int _) ?_))⟩
  have M_wrong_pieces : Mk base mg (tabL K) fd_wrong_pieces "wrong_pieces.<locals>.is_right" := Ex.mk D_wrong_pieces.F (TB _ (List.mem_map.mpr ⟨("wrong_pieces", none), List.mem_of_getElem? (i := 0) rfl, rfl⟩)) (List.mem_of_getElem? (i := 0) rfl) (by
    intro p hp e
    simp only [tabL, tabS, tl, List.map_cons, List.map_nil, List.mem_cons, List.not_mem_nil, or_false] at hp
    rcases hp with rfl | rfl | rfl | rfl | rfl
    · rfl
    · exact (Ex.apart_ne AP 1 0 (by decide) (p := ("wrong_order", none)) (q := ("wrong_pieces", none)) rfl rfl e).elim
    · exact (Ex.apart_ne AP 2 0 (by decide) (p := ("wrong_seen", none)) (q := ("wrong_pieces", none)) rfl rfl e).elim
    · exact (Ex.apart_ne AP 3 0 (by decide) (p := ("do_fit", none)) (q := ("wrong_pieces", none)) rfl rfl e).elim
    · exact (Ex.apart_ne AP 4 0 (by decide) (p := ("_law_right", none)) (q := ("wrong_pieces", none)) rfl rfl e).elim)
  have M_wrong_order : Mk base mg (tabL K) fd_wrong_order "wrong_order.<locals>.<lambda>" := Ex.mk D_wrong_order.F (TB _ (List.mem_map.mpr ⟨("wrong_order", none), List.mem_of_getElem? (i := 1) rfl, rfl⟩)) (List.mem_of_getElem? (i := 1) rfl) (by
    intro p hp e
    simp only [tabL, tabS, tl, List.map_cons, List.map_nil, List.mem_cons, List.not_mem_nil, or_false] at hp
    rcases hp with rfl | rfl | rfl | rfl | rfl
    · exact (Ex.apart_ne AP 0 1 (by decide) (p := ("wrong_pieces", none)) (q := ("wrong_order", none)) rfl rfl e).elim
    · rfl
    · exact (Ex.apart_ne AP 2 1 (by decide) (p := ("wrong_seen", none)) (q := ("wrong_order", none)) rfl rfl e).elim
    · exact (Ex.apart_ne AP 3 1 (by decide) (p := ("do_fit", none)) (q := ("wrong_order", none)) rfl rfl e).elim
    · exact (Ex.apart_ne AP 4 1 (by decide) (p := ("_law_right", none)) (q := ("wrong_order", none)) rfl rfl e).elim)
  have M_wrong_seen : Mk base mg (tabL K) fd_wrong_seen "wrong_seen.<locals>.<lambda>" := Ex.mk D_wrong_seen.F (TB _ (List.mem_map.mpr ⟨("wrong_seen", none), List.mem_of_getElem? (i := 2) rfl, rfl⟩)) (List.mem_of_getElem? (i := 2) rfl) (by
    intro p hp e
    simp only [tabL, tabS, tl, List.map_cons, List.map_nil, List.mem_cons, List.not_mem_nil, or_false] at hp
    rcases hp with rfl | rfl | rfl | rfl | rfl
    · exact (Ex.apart_ne AP 0 2 (by decide) (p := ("wrong_pieces", none)) (q := ("wrong_seen", none)) rfl rfl e).elim
    · exact (Ex.apart_ne AP 1 2 (by decide) (p := ("wrong_order", none)) (q := ("wrong_seen", none)) rfl rfl e).elim
    · rfl
    · exact (Ex.apart_ne AP 3 2 (by decide) (p := ("do_fit", none)) (q := ("wrong_seen", none)) rfl rfl e).elim
    · exact (Ex.apart_ne AP 4 2 (by decide) (p := ("_law_right", none)) (q := ("wrong_seen", none)) rfl rfl e).elim)
  have M_do_fit : Mk base mg (tabL K) fd_do_fit "do_fit.<locals>.<lambda>" := Ex.mk D_do_fit.F (TB _ (List.mem_map.mpr ⟨("do_fit", none), List.mem_of_getElem? (i := 3) rfl, rfl⟩)) (List.mem_of_getElem? (i := 3) rfl) (by
    intro p hp e
    simp only [tabL, tabS, tl, List.map_cons, List.map_nil, List.mem_cons, List.not_mem_nil, or_false] at hp
    rcases hp with rfl | rfl | rfl | rfl | rfl
    · exact (Ex.apart_ne AP 0 3 (by decide) (p := ("wrong_pieces", none)) (q := ("do_fit", none)) rfl rfl e).elim
    · exact (Ex.apart_ne AP 1 3 (by decide) (p := ("wrong_order", none)) (q := ("do_fit", none)) rfl rfl e).elim
    · exact (Ex.apart_ne AP 2 3 (by decide) (p := ("wrong_seen", none)) (q := ("do_fit", none)) rfl rfl e).elim
    · rfl
    · exact (Ex.apart_ne AP 4 3 (by decide) (p := ("_law_right", none)) (q := ("do_fit", none)) rfl rfl e).elim)
  have M__law_right : Mk base mg (tabL K) fd__law_right "_law_right.<locals>.<lambda>" := Ex.mk D__law_right.F (TB _ (List.mem_map.mpr ⟨("_law_right", none), List.mem_of_getElem? (i := 4) rfl, rfl⟩)) (List.mem_of_getElem? (i := 4) rfl) (by
    intro p hp e
    simp only [tabL, tabS, tl, List.map_cons, List.map_nil, List.mem_cons, List.not_mem_nil, or_false] at hp
    rcases hp with rfl | rfl | rfl | rfl | rfl
    · exact (Ex.apart_ne AP 0 4 (by decide) (p := ("wrong_pieces", none)) (q := ("_law_right", none)) rfl rfl e).elim
    · exact (Ex.apart_ne AP 1 4 (by decide) (p := ("wrong_order", none)) (q := ("_law_right", none)) rfl rfl e).elim
    · exact (Ex.apart_ne AP 2 4 (by decide) (p := ("wrong_seen", none)) (q := ("_law_right", none)) rfl rfl e).elim
    · exact (Ex.apart_ne AP 3 4 (by decide) (p := ("do_fit", none)) (q := ("_law_right", none)) rfl rfl e).elim
    · rfl)
  have E_StackError := gl X G c (faL_mem 72 rfl)
  have E_ValueError := fr X G c (faL_mem 74 rfl)
  have E_NoFit := gl X G c (faL_mem 73 rfl)
  have W_NoFit : XN K mg "NoFit" := xn_ok (He.ba (He.ba (He.ba ex).1).1).2 E_NoFit
  have N_NoFit := none_ok (He.ba (He.ba ex).1).2
  have O_is_whole := ok_is_whole (P := PG) (w := w) (base := base) (TL := tabS K) D_is_whole B
  have O_is_number := ok_is_number (P := PG) (w := w) (base := base) (TL := tabS K) D_is_number D_is_whole O_is_whole
  have O_is_tuple_of := ok_is_tuple_of (P := PG) (w := w) (base := base) (TL := tabS K) D_is_tuple_of B
  have O_wrong_at := ok_wrong_at (P := PG) (w := w) (base := base) (TL := tabS K) D_wrong_at B
  have O_wrong_at__H := ok_wrong_at__H (P := PG) (w := w) (base := base) (TL := tabS K) D_wrong_at B
  have O_wrong_from_one := ok_wrong_from_one (P := PG) (w := w) (base := base) (TL := tabS K) D_wrong_from_one D_wrong_at O_wrong_at B
  have O_wrong_from_one__H := ok_wrong_from_one__H (P := PG) (w := w) (base := base) (TL := tabS K) D_wrong_from_one D_wrong_at O_wrong_at__H B
  have O_wrong_for_all := ok_wrong_for_all (P := PG) (w := w) (base := base) (TL := tabS K) D_wrong_for_all D_wrong_at O_wrong_at B
  have O_wrong_for_all__H := ok_wrong_for_all__H (P := PG) (w := w) (base := base) (TL := tabS K) D_wrong_for_all D_wrong_at O_wrong_at__H B
  have O_is_letters := ok_is_letters (P := PG) (w := w) (base := base) (TL := tabS K) D_is_letters V_SMALL_LETTERS B
  have O_is_name := ok_is_name (P := PG) (w := w) (base := base) (TL := tabS K) D_is_name D_is_letters O_is_letters V_MOST_IN_NAME V_WORDS
  have O_is_one_of := ok_is_one_of (P := PG) (w := w) (base := base) (TL := tabS K) D_is_one_of B
  have O_weights_by := ok_weights_by (P := PG) (w := w) (base := base) (TL := tabS K) D_weights_by
  have O_loads_in := ok_loads_in (P := PG) (w := w) (base := base) (TL := tabS K) D_loads_in D_weights_by O_weights_by
  have O_is_piece := ok_is_piece (P := PG) (w := w) (base := base) (TL := tabS K) D_is_piece D_is_tuple_of O_is_tuple_of D_is_name O_is_name D_is_number O_is_number V_MOST_WEIGHT
  have O_wrong_pieces := ok_wrong_pieces (P := PG) (w := w) (base := base) (TL := tabS K) D_wrong_pieces M_wrong_pieces D_wrong_from_one O_wrong_from_one D_is_piece O_is_piece V_MOST_CRATES
  have O_piece_names := ok_piece_names (P := PG) (w := w) (base := base) (TL := tabS K) D_piece_names B
  have O_wrong_order := ok_wrong_order (P := PG) (w := w) (base := base) (TL := tabS K) D_wrong_order D_wrong_from_one O_wrong_from_one D_is_one_of O_is_one_of M_wrong_order
  have O_is_sight := ok_is_sight (P := PG) (w := w) (base := base) (TL := tabS K) D_is_sight D_is_tuple_of O_is_tuple_of D_wrong_order O_wrong_order D_is_one_of O_is_one_of V_HELD
  have O_wrong_seen := ok_wrong_seen (P := PG) (w := w) (base := base) (TL := tabS K) D_wrong_seen D_piece_names O_piece_names D_wrong_at O_wrong_at__H D_is_sight O_is_sight V_MOST_SEEN M_wrong_seen
  have O_lot_with_bears := ok_lot_with_bears (P := PG) (w := w) (base := base) (TL := tabS K) D_lot_with_bears B
  have O_loads_of := ok_loads_of (P := PG) (w := w) (base := base) (TL := tabS K) D_loads_of D_loads_in O_loads_in D_lot_with_bears O_lot_with_bears B
  have O_loads_borne := ok_loads_borne (P := PG) (w := w) (base := base) (TL := tabS K) D_loads_borne D_loads_of O_loads_of
  have O_loads_broken := ok_loads_broken (P := PG) (w := w) (base := base) (TL := tabS K) D_loads_broken D_loads_of O_loads_of V_MOST_BEARS
  have O_leasts_of := ok_leasts_of (P := PG) (w := w) (base := base) (TL := tabS K) D_leasts_of D_loads_borne O_loads_borne B
  have O_greatests_of := ok_greatests_of (P := PG) (w := w) (base := base) (TL := tabS K) D_greatests_of D_loads_broken O_loads_broken B
  have O_barred_pieces := ok_barred_pieces (P := PG) (w := w) (base := base) (TL := tabS K) D_barred_pieces D_leasts_of O_leasts_of D_greatests_of O_greatests_of B
  have O_are_fitting := ok_are_fitting (P := PG) (w := w) (base := base) (TL := tabS K) D_are_fitting D_leasts_of O_leasts_of D_greatests_of O_greatests_of B
  have O_check_seen := ok_check_seen (P := PG) (w := w) (base := base) (TL := tabS K) D_check_seen D_wrong_pieces O_wrong_pieces D_wrong_seen O_wrong_seen
  have O_check_fit := ok_check_fit (P := PG) (w := w) (base := base) (TL := tabS K) D_check_fit D_barred_pieces O_barred_pieces W_NoFit
  have O_fits := ok_fits (P := PG) (w := w) (base := base) (TL := tabS K) D_fits D_check_seen O_check_seen D_barred_pieces O_barred_pieces
  have O_do_fit := ok_do_fit (P := PG) (w := w) (base := base) (TL := tabS K) D_do_fit D_check_seen O_check_seen D_wrong_for_all O_wrong_for_all D_is_number O_is_number D_are_fitting O_are_fitting V_MOST_BEARS M_do_fit B
  have O_least_bears := ok_least_bears (P := PG) (w := w) (base := base) (TL := tabS K) D_least_bears D_check_seen O_check_seen D_check_fit O_check_fit D_leasts_of O_leasts_of
  have O_greatest_bears := ok_greatest_bears (P := PG) (w := w) (base := base) (TL := tabS K) D_greatest_bears D_check_seen O_check_seen D_check_fit O_check_fit D_greatests_of O_greatests_of
  have O_barring_piece := ok_barring_piece (P := PG) (w := w) (base := base) (TL := tabS K) D_barring_piece D_check_seen O_check_seen D_barred_pieces O_barred_pieces
  have O__law_well := ok__law_well (P := PG) (w := w) (base := base) (TL := tabS K) D__law_well B
  have O__law_draw := fun wl : Addr => ok__law_draw (P := PG) (w := w) (base := base) (TL := tabS K) (wl := wl) D__law_draw B
  have O__law_of := fun wl : Addr => ok__law_of (P := PG) (w := w) (base := base) (TL := tabS K) (wl := wl) D__law_of D__law_draw (O__law_draw wl) B
  have O__law_same := ok__law_same (P := PG) (w := w) (base := base) (TL := tabS K) D__law_same B
  have O__law_names := fun wl : Addr => ok__law_names (P := PG) (w := w) (base := base) (TL := tabS K) (wl := wl) D__law_names D__law_of (O__law_of wl) B
  have O__law_shuffled := fun wl : Addr => ok__law_shuffled (P := PG) (w := w) (base := base) (TL := tabS K) (wl := wl) D__law_shuffled D__law_draw (O__law_draw wl) B
  have O__law_put := ok__law_put (P := PG) (w := w) (base := base) (TL := tabS K) D__law_put
  have O__law_lot_of := fun wl : Addr => ok__law_lot_of (P := PG) (w := w) (base := base) (TL := tabS K) (wl := wl) D__law_lot_of D__law_of (O__law_of wl) D__law_draw (O__law_draw wl) B
  have O__law_lot := fun wl : Addr => ok__law_lot (P := PG) (w := w) (base := base) (TL := tabS K) (wl := wl) D__law_lot D__law_lot_of (O__law_lot_of wl) D__law_names (O__law_names wl) D__law_draw (O__law_draw wl)
  have O__law_plain := ok__law_plain (P := PG) (w := w) (base := base) (TL := tabS K) D__law_plain B
  have O__law_crate := ok__law_crate (P := PG) (w := w) (base := base) (TL := tabS K) D__law_crate
  have O__law_loads := ok__law_loads (P := PG) (w := w) (base := base) (TL := tabS K) D__law_loads D__law_crate O__law_crate
  have O__law_broken := ok__law_broken (P := PG) (w := w) (base := base) (TL := tabS K) D__law_broken D__law_loads O__law_loads D__law_crate O__law_crate B
  have O__law_pieces := fun wl : Addr => ok__law_pieces (P := PG) (w := w) (base := base) (TL := tabS K) (wl := wl) D__law_pieces D__law_lot (O__law_lot wl) B
  have O__law_seen := fun wl : Addr => ok__law_seen (P := PG) (w := w) (base := base) (TL := tabS K) (wl := wl) D__law_seen D__law_draw (O__law_draw wl) D__law_shuffled (O__law_shuffled wl) D__law_plain O__law_plain D__law_broken O__law_broken D__law_put O__law_put D__law_of (O__law_of wl) B
  have O__law_limits := ok__law_limits (P := PG) (w := w) (base := base) (TL := tabS K) D__law_limits KTP B
  have O__law_right := fun wl : Addr => ok__law_right (P := PG) (w := w) (base := base) (TL := tabS K) (wl := wl) D__law_right D__law_pieces (O__law_pieces wl) D__law_draw (O__law_draw wl) D__law_seen (O__law_seen wl) D__law_limits O__law_limits D_fits O_fits D__law_same O__law_same D_barring_piece O_barring_piece D__law_of (O__law_of wl) D_do_fit O_do_fit D_least_bears O_least_bears D_greatest_bears O_greatest_bears D__law_is_none N_NoFit E_StackError E_NoFit E_ValueError M__law_right B
  exact ok_law D_law D__law_well O__law_well D__law_right O__law_right B (fun ns lap h1 h2 => c_well h1 h2) (fun wl => c_right)
theorem facts {w : World} {K : PySem.W.Frag} {h : Heap} {mg : Str → Option Value} {fa : Addr} (X : K.In h) (G : h.Ns mainGlobals mg) (hfa : mg ("law" : Str) = some (.ref fa)) (CS : SaysS faL fnL [] tfL exB supL w h K) :
    ∃ fd, LawG PySem.Challenge.rw_bearstacks_k75_whole_what_was_seen w K 20 63 "script" mg fa h fd (tfL.map (He.cT K)) (spLaw K (tabL K)) := by
  have C := CS.x
  have c := C.t.d
  obtain ⟨fd, D⟩ := df (dfl := []) X G c (faL_mem 50 rfl) (fnL_mem 50 rfl)
  have e := hfa.symm.trans D.m
  cases e
  refine ⟨fd, ⟨fun p hp => ?_, fun p hp => ?_, fun p hp => ?_, fun s u => ?_, fun H a ns hl _ ht ho hS => ?_, fun base X2 G2 TB => law_ok X G c C.more TB (fun i d hd => CS.at i hd) D⟩⟩
  · obtain ⟨q, hq, rfl⟩ := List.mem_map.mp hp
    exact C.empty q hq
  · obtain ⟨q, hq, rfl⟩ := List.mem_map.mp hp
    exact C.out q hq
  · obtain ⟨q, hq, rfl⟩ := List.mem_map.mp hp
    exact PySem.W.codeHd_of_K X (C.hd q hq)
  · exact (FunD.bindsA (ps := ["script"]) D.F fun _ _ _ _ _ _ us hl => match us, hl with | [_], _ => rfl) s [u] rfl
  · refine ⟨a, ns, rfl, hS, hl, Ex.tabs0 fun p hp => ?_, fun b o e => ?_, fun _ => rfl⟩
    · obtain ⟨q, hq, e⟩ : ∃ q ∈ tfL, (He.cT K q).2 = p.1 := by
        simp only [tabL, tabS, tl, List.map_cons, List.map_nil, List.mem_cons, List.not_mem_nil, or_false] at hp
        rcases hp with rfl | rfl | rfl | rfl | rfl
        · exact ⟨("wrong_pieces", none), List.mem_of_getElem? (i := 0) rfl, rfl⟩
        · exact ⟨("wrong_order", none), List.mem_of_getElem? (i := 1) rfl, rfl⟩
        · exact ⟨("wrong_seen", none), List.mem_of_getElem? (i := 2) rfl, rfl⟩
        · exact ⟨("do_fit", none), List.mem_of_getElem? (i := 3) rfl, rfl⟩
        · exact ⟨("_law_right", none), List.mem_of_getElem? (i := 4) rfl, rfl⟩
      rw [← e]
      exact ht _ (List.mem_map.mpr ⟨q, hq, rfl⟩)
    · rcases ho b o e with hm | hm
      · refine .inl ?_
        obtain ⟨p, hp, rfl⟩ := List.mem_map.mp hm
        obtain ⟨q, hq, rfl⟩ := List.mem_map.mp hp
        simp only [tfL, List.mem_cons, List.not_mem_nil, or_false] at hq
        rcases hq with rfl | rfl | rfl | rfl | rfl
        · exact ⟨_, List.mem_of_getElem? (i := 0) rfl, rfl⟩
        · exact ⟨_, List.mem_of_getElem? (i := 1) rfl, rfl⟩
        · exact ⟨_, List.mem_of_getElem? (i := 2) rfl, rfl⟩
        · exact ⟨_, List.mem_of_getElem? (i := 3) rfl, rfl⟩
        · exact ⟨_, List.mem_of_getElem? (i := 4) rfl, rfl⟩
      · exact .inr hm
end K75
open PySem PySem.W PySem.Calls PyProof.Rows
set_option maxHeartbeats 0 in
theorem PySem.Challenge.cw_bearstacks_k75_whole_what_was_seen_holds : PySem.Challenge.rw_bearstacks_k75_whole_what_was_seen.Holds := by
  w_on; o_law
  refine HandSHeadRun.head_any (r := OpenLaw.row PySem.Challenge.rw_bearstacks_k75_whole_what_was_seen) (q := view (OpenLaw.row PySem.Challenge.rw_bearstacks_k75_whole_what_was_seen).prog [70]) (H := K75.hk) (ob := K75.ob) (M := 20000) (loose := K75.topN) (d := HandSHeadRun.topDef (OpenLaw.row PySem.Challenge.rw_bearstacks_k75_whole_what_was_seen).prog 70) (kwd := []) K75.ob_eq
    (by kernel_rfl) (fun s => by kernel_rfl) K75.run (by kernel_rfl) (by kernel_rfl) (by kernel_rfl) (by rfl) (by first | assumption | decide +kernel) (by decide +kernel) ⟨rfl, rfl, rfl, rfl, rfl, by decide +kernel⟩ ?hw ?hc
  case hw => w_witness2
  case hc =>
    refine Pu.walkG (l := PySem.Challenge.rw_bearstacks_k75_whole_what_was_seen) (n := 63) (k := 20) (x := "script") rfl (by decide) (by kernel_rfl) ⟨rfl, by decide, by decide⟩ ?F
    intro w mg fa h Y G hmg0
    obtain ⟨K, KX, C⟩ := Y
    have hmg : mg ("law" : PySem.Str) = some (.ref fa) := by
      have e : (HandSHeadRun.topDef (OpenLaw.row PySem.Challenge.rw_bearstacks_k75_whole_what_was_seen).prog 70).name = ("law" : PySem.Str) := by kernel_rfl
      rw [← e]
      exact hmg0
    obtain ⟨fd, L⟩ := K75.facts KX G hmg C
    exact ⟨K, fd, _, _, KX, L⟩
