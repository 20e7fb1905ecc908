import PyProof.Rows.All
import Wide.All
import OpenK.AllK
import Wide.FinOn
import HandS.Base
import HandS.Call
import HandS.Words
import HandS.Head0
import HandS.Head1
import HandS.Head2
import HandS.HeadHook1
import HandS.HeadHook2
import HandS.HeadHook3
import HandS.HeadHook4
import PySem.Challenge.RW_squarecall_k66_floors_come_to
import HandS.ForMost
import HandS.Exc
import HandS.ExcOwn
import HandS.WordsExc
import HandS.Deep
import HandS.IsInst
import HandS.Walk
import HandS.Conv
import KE.GoesEnum
import HandS.More
import KE.LtData
import HandS.ExcInit
import HandS.ClsMeth
import HandS.Defaults
import HandS.TryElse
import KE.KeyNested
import KE.KDictKeyed
import PyProof.StrOps2
import HandS.HeadEnd
/-! ## SqA0 -/
set_option Elab.async false
set_option linter.all false
set_option maxRecDepth 100000
set_option maxHeartbeats 0
/-! the top's constants as data; what the head is asked; the head's run (first in the joined text: it takes most memory) -/
namespace SQ
open PySem PySem.Spec L2
def top (i : Nat) : Stmt := PySem.Challenge.pw_squarecall_k66_floors_come_to.main.body.getD i (.Pass ⟨0, 0, 0, 0⟩)
def strsL (xs : List String) : PyData := .tuple (xs.map fun x => .str (Str.ofString x))
def stD (x y f : Int) : PyData := .tuple [.int x, .int y, .int f]
def d_FARTHEST : PyData := .int 200
def d_AHEAD : PyData := .tuple [.tuple [.int 0, .int 1], .tuple [.int (-1), .int 0], .tuple [.int 0, .int (-1)], .tuple [.int 1, .int 0]]
def d_HOME : PyData := .tuple [stD (-1) (-3) 0, stD 1 (-3) 0, stD 3 (-1) 1, stD 3 1 1, stD 1 3 2, stD (-1) 3 2, stD (-3) 1 3, stD (-3) (-1) 3]
def d_FIGURES : PyData := .str "0123456789"
def d_SEEN : PyData := .tuple [.str "none", .str "any", .str "same", .str "left", .str "about", .str "right", .str "partner", .str "opposite"]
def d_SHORT : PyData := .tuple [.str "head", .str "side", .str "lefts", .str "rights", .str "inward", .str "outward", .str "sideways"]
def d_MOVES : PyData := .tuple [.str "ahead", .str "back", .str "left", .str "right"]
def d_TURNS_rules : PyData := .tuple [.str "left", .str "right", .str "about"]
def d_MOST_RULES : PyData := .int 12
def d_MOST_TESTS : PyData := .int 6
def d_MOST_STEPS : PyData := .int 8
def d_LETTERS : PyData := .str "abcdefghijklmnopqrstuvwxyz"
def d_KEPT : PyData := .tuple [.str "times", .str "heads", .str "sides", .str "lefts", .str "rights", .str "inner", .str "couples"]
def d_MOST_CALLS : PyData := .int 60
def turnsD : List (Str × PyData) := [("same", .int 0), ("left", .int 1), ("about", .int 2), ("right", .int 3)]
end SQ
namespace SQH
open PySem PySem.Spec PyProof.Rows L2 SQ
mutual
def cstB (K : PySem.W.Frag) : PyData → Value → Bool
  | .int i, u => (match u with | .int j _ => decide (j = i) | _ => false)
  | .str x, u => (match u with | .str y _ => decide (y = x) | _ => false)
  | .tuple ds, u => (match u with
    | .ref a => (match K.lookup a with
      | some ⟨.type c, _, .seq its _, _⟩ => decide (c = "tuple") && (decide (its.size ≤ sizeLine) && cstL K ds its.toList)
      | _ => false)
    | _ => false)
  | _, _ => false
def cstL (K : PySem.W.Frag) : List PyData → List Value → Bool
  | [], us => us.isEmpty
  | d :: ds, us => (match us with | u :: us => cstB K d u && cstL K ds us | [] => false)
end
def csts : List (Str × PyData) := [("FARTHEST", d_FARTHEST), ("AHEAD", d_AHEAD), ("HOME", d_HOME), ("FIGURES", d_FIGURES), ("SEEN", d_SEEN), ("SHORT", d_SHORT), ("MOVES", d_MOVES), ("TURNS_rules", d_TURNS_rules), ("MOST_RULES", d_MOST_RULES), ("MOST_TESTS", d_MOST_TESTS), ("MOST_STEPS", d_MOST_STEPS), ("LETTERS", d_LETTERS), ("KEPT", d_KEPT), ("MOST_CALLS", d_MOST_CALLS)]
def gloB (K : PySem.W.Frag) (q : Str × PyData) : Bool := match PySem.W.nsIn K mainGlobals q.1 with
  | some (some u) => cstB K q.2 u
  | _ => false
def slB : List (Option Value) → Bool
  | [_, _, _, _, some (.builtin n), _] => decide (n = "ValueError.__new__")
  | _ => false
def vexB (K : PySem.W.Frag) (C : Addr) : Bool := match K.lookup C with
  | some ⟨.type c, _, .cls ⟨_, _, .ref C' :: bm, _, _, hd, _, _, _, _, hdel⟩, sl⟩ => decide (c = "type") && (decide (C' = C) && (hd && (!hdel && (PySem.HandSPX.refsVE bm && slB sl.toList))))
  | _ => false
def oexB (K : PySem.W.Frag) (C : Addr) : Bool := vexB K C && (He.eqO (PySem.W.findIn K (.ref C) "__setattr__") (some (some (.builtin "object.__setattr__"))) && (decide (PySem.W.subIn K (.ref C) (.type "BaseException") = some true) && (decide (PySem.W.typeIn K (.ref C) = some (.type "type")) && PySem.W.keepIn K (.ref C))))
def errB (K : PySem.W.Frag) (x : Str) (fs : List Str) : Bool := oexB K (He.ga K x) && (He.eqO (PySem.W.findIn K (.ref (He.ga K x)) "__init__") (some (some (.ref (He.ma K (He.ga K x) "__init__")))) && (decide (PySem.W.typeIn K (.ref (He.ma K (He.ga K x) "__init__")) = some (.type "function")) && fs.all fun f => He.eqO (PySem.W.findIn K (.ref (He.ga K x)) f) (some none)))
def fleB (K : PySem.W.Frag) : Bool := PySem.W.readsIn K (He.ga K "FloorError") (.type "type") && (He.eqO (PySem.W.specialIn K (.ref (He.ga K "FloorError")) "__getattribute__") (some (some (.builtin "type.__getattribute__"))) && (match PySem.W.findCls K (.ref (He.ga K "FloorError")) (.type "type") "__init__" with
  | some (.val (.builtin n)) => decide (n = "ValueError.__init__")
  | _ => false))
def exK (K : PySem.W.Frag) : Bool := (csts.all (gloB K)) && (fleB K && (errB K "Blind" ["who"] && (errB K "Out" ["who"] && (errB K "Meet" ["one", "other"] && (He.valsB K (He.ga K "TURNS_sights") [("same", .int 0), ("left", .int 1), ("about", .int 2), ("right", .int 3)])))))
abbrev R : PySem.W.OpenRow := PySem.W.OpenLaw.row PySem.Challenge.rw_squarecall_k66_floors_come_to
def loose0 : List PySem.Str := ["_wall", "__name__", "FloorError", "NoCall", "NoName", "TooMany", "Blind", "Out", "Meet", "FARTHEST", "AHEAD", "HOME", "is_whole", "is_spot", "is_stand", "spot_from", "who_at", "partner", "opposite", "TURNS_sights"]
def loose1 : List PySem.Str := ["is_of", "is_inner", "drift", "faces", "sees", "holds", "rule_for", "stepped", "way_of", "look_at_way", "ways", "look_at_spots", "danced", "turned", "form", "form_behind", "Search", "reached", "FIGURES", "SEEN"]
def loose2 : List PySem.Str := ["SHORT", "MOVES", "TURNS_rules", "MOST_RULES", "MOST_TESTS", "MOST_STEPS", "number_in", "word_at", "plain_test", "test_from", "read_tests", "read_steps", "read_rule", "read_call", "LETTERS", "KEPT", "MOST_CALLS", "is_call_name", "Book", "_law_cell_at"]
def loose3 : List PySem.Str := ["_law_texts", "_law_names", "_law_behind", "_law_rows", "_law_first"]
def loose : List PySem.Str := loose0 ++ (loose1 ++ (loose2 ++ (loose3)))
def fn0 : List He.DefD := [⟨("_law_behind", none), "_law_behind", "_law_behind", defArgs (top 70), defBody (top 70), defScope (top 70), [], []⟩, ⟨("_law_cell_at", none), "_law_cell_at", "_law_cell_at", defArgs (top 67), defBody (top 67), defScope (top 67), [], []⟩, ⟨("_law_first", none), "_law_first", "_law_first", defArgs (top 72), defBody (top 72), defScope (top 72), [], []⟩, ⟨("_law_names", none), "_law_names", "_law_names", defArgs (top 69), defBody (top 69), defScope (top 69), [], []⟩, ⟨("_law_rows", none), "_law_rows", "_law_rows", defArgs (top 71), defBody (top 71), defScope (top 71), [], []⟩, ⟨("danced", none), "danced", "danced", defArgs (top 35), defBody (top 35), defScope (top 35), [.non], []⟩, ⟨("drift", none), "drift", "drift", defArgs (top 24), defBody (top 24), defScope (top 24), [], []⟩, ⟨("faces", none), "faces", "faces", defArgs (top 25), defBody (top 25), defScope (top 25), [], []⟩, ⟨("form", none), "form", "form", defArgs (top 38), defBody (top 38), defScope (top 38), [], []⟩, ⟨("form_behind", none), "form_behind", "form_behind", defArgs (top 40), defBody (top 40), defScope (top 40), [], []⟩]
def fn1 : List He.DefD := [⟨("holds", none), "holds", "holds", defArgs (top 27), defBody (top 27), defScope (top 27), [], []⟩, ⟨("is_call_name", none), "is_call_name", "is_call_name", defArgs (top 64), defBody (top 64), defScope (top 64), [], []⟩, ⟨("is_inner", none), "is_inner", "is_inner", defArgs (top 23), defBody (top 23), defScope (top 23), [], []⟩, ⟨("is_of", none), "is_of", "is_of", defArgs (top 22), defBody (top 22), defScope (top 22), [], []⟩, ⟨("is_spot", none), "is_spot", "is_spot", defArgs (top 14), defBody (top 14), defScope (top 14), [], []⟩, ⟨("is_stand", none), "is_stand", "is_stand", defArgs (top 15), defBody (top 15), defScope (top 15), [], []⟩, ⟨("is_whole", none), "is_whole", "is_whole", defArgs (top 13), defBody (top 13), defScope (top 13), [], []⟩, ⟨("law", none), "law", "law", defArgs (top 73), defBody (top 73), defScope (top 73), [], []⟩, ⟨("look_at_spots", none), "look_at_spots", "look_at_spots", defArgs (top 34), defBody (top 34), defScope (top 34), [], []⟩, ⟨("look_at_way", none), "look_at_way", "look_at_way", defArgs (top 32), defBody (top 32), defScope (top 32), [], []⟩]
def fn2 : List He.DefD := [⟨("number_in", none), "number_in", "number_in", defArgs (top 52), defBody (top 52), defScope (top 52), [], []⟩, ⟨("opposite", none), "opposite", "opposite", defArgs (top 19), defBody (top 19), defScope (top 19), [], []⟩, ⟨("partner", none), "partner", "partner", defArgs (top 18), defBody (top 18), defScope (top 18), [], []⟩, ⟨("plain_test", none), "plain_test", "plain_test", defArgs (top 54), defBody (top 54), defScope (top 54), [], []⟩, ⟨("read_call", none), "read_call", "read_call", defArgs (top 59), defBody (top 59), defScope (top 59), [], []⟩, ⟨("read_rule", none), "read_rule", "read_rule", defArgs (top 58), defBody (top 58), defScope (top 58), [], []⟩, ⟨("read_steps", none), "read_steps", "read_steps", defArgs (top 57), defBody (top 57), defScope (top 57), [], []⟩, ⟨("read_tests", none), "read_tests", "read_tests", defArgs (top 56), defBody (top 56), defScope (top 56), [], []⟩, ⟨("rule_for", none), "rule_for", "rule_for", defArgs (top 28), defBody (top 28), defScope (top 28), [], []⟩, ⟨("sees", none), "sees", "sees", defArgs (top 26), defBody (top 26), defScope (top 26), [], []⟩]
def fn3 : List He.DefD := [⟨("spot_from", none), "spot_from", "spot_from", defArgs (top 16), defBody (top 16), defScope (top 16), [], []⟩, ⟨("stepped", none), "stepped", "stepped", defArgs (top 30), defBody (top 30), defScope (top 30), [], []⟩, ⟨("test_from", none), "test_from", "test_from", defArgs (top 55), defBody (top 55), defScope (top 55), [], []⟩, ⟨("turned", none), "turned", "turned", defArgs (top 37), defBody (top 37), defScope (top 37), [], []⟩, ⟨("way_of", none), "way_of", "way_of", defArgs (top 31), defBody (top 31), defScope (top 31), [], []⟩, ⟨("ways", none), "ways", "ways", defArgs (top 33), defBody (top 33), defScope (top 33), [.non], []⟩, ⟨("who_at", none), "who_at", "who_at", defArgs (top 17), defBody (top 17), defScope (top 17), [], []⟩, ⟨("word_at", none), "word_at", "word_at", defArgs (top 53), defBody (top 53), defScope (top 53), [], []⟩, ⟨("reached", none), "reached", "reached", defArgs (top 42), defBody (top 42), defScope (top 42), [.int 2000], []⟩, ⟨("_law_texts", none), "_law_texts", "_law_texts", defArgs (top 68), defBody (top 68), defScope (top 68), [], []⟩]
def fn4 : List He.DefD := [⟨("Blind", some "__init__"), "__init__", "Blind.__init__", defArgs (inClass (top 6) 0), defBody (inClass (top 6) 0), defScope (inClass (top 6) 0), [], []⟩, ⟨("Out", some "__init__"), "__init__", "Out.__init__", defArgs (inClass (top 7) 0), defBody (inClass (top 7) 0), defScope (inClass (top 7) 0), [], []⟩, ⟨("Meet", some "__init__"), "__init__", "Meet.__init__", defArgs (inClass (top 8) 0), defBody (inClass (top 8) 0), defScope (inClass (top 8) 0), [], []⟩, ⟨("Book", some "__init__"), "__init__", "Book.__init__", defArgs (inClass (top 65) 0), defBody (inClass (top 65) 0), defScope (inClass (top 65) 0), [], []⟩, ⟨("Book", some "call"), "call", "Book.call", defArgs (inClass (top 65) 2), defBody (inClass (top 65) 2), defScope (inClass (top 65) 2), [], []⟩, ⟨("Book", some "names"), "names", "Book.names", defArgs (inClass (top 65) 1), defBody (inClass (top 65) 1), defScope (inClass (top 65) 1), [], []⟩, ⟨("Search", some "__init__"), "__init__", "Search.__init__", defArgs (inClass (top 41) 0), defBody (inClass (top 41) 0), defScope (inClass (top 41) 0), [], []⟩, ⟨("Search", some "lay"), "lay", "Search.lay", defArgs (inClass (top 41) 1), defBody (inClass (top 41) 1), defScope (inClass (top 41) 1), [], []⟩, ⟨("Search", some "go_on"), "go_on", "Search.go_on", defArgs (inClass (top 41) 2), defBody (inClass (top 41) 2), defScope (inClass (top 41) 2), [], []⟩]
def fn : List He.DefD := fn0 ++ (fn1 ++ (fn2 ++ (fn3 ++ (fn4))))
def fa0 : List He.Fa := [.free "len", .free "abs", .free "max", .free "min", .free "isinstance", .free "int", .free "bool", .free "str", .free "tuple", .free "list", .free "all", .free "range", .free "enumerate", .free "sorted", .glo "_law_behind"]
def fa1 : List He.Fa := [.glo "_law_cell_at", .glo "_law_first", .glo "_law_names", .glo "_law_rows", .glo "danced", .glo "drift", .glo "faces", .glo "form", .glo "form_behind", .glo "holds", .glo "is_call_name", .glo "is_inner", .glo "is_of", .glo "is_spot", .glo "is_stand"]
def fa2 : List He.Fa := [.glo "is_whole", .glo "law", .glo "look_at_spots", .glo "look_at_way", .glo "number_in", .glo "opposite", .glo "partner", .glo "plain_test", .glo "read_call", .glo "read_rule", .glo "read_steps", .glo "read_tests", .glo "rule_for", .glo "sees", .glo "spot_from"]
def fa3 : List He.Fa := [.glo "stepped", .glo "test_from", .glo "turned", .glo "way_of", .glo "ways", .glo "who_at", .glo "word_at", .glo "reached", .glo "_law_texts", .glo "FloorError", .glo "TooMany", .glo "Blind", .glo "Out", .glo "Meet", .glo "Book"]
def fa4 : List He.Fa := [.glo "Search", .glo "TURNS_sights", .cls "Book", .cls "Search", .noat "Book" "known", .noat "Search" "most", .noat "Search" "rows", .noat "Search" "places", .mkr "Book", .mkr "Search", .meth "Book" "call", .meth "Book" "names", .meth "Search" "lay", .meth "Search" "go_on", .exc "TooMany"]
def fa5 : List He.Fa := [.exm "Blind" "Blind" true, .exm "Blind" "Out" false, .exm "Blind" "Meet" false, .exm "Out" "Blind" false, .exm "Out" "Out" true, .exm "Out" "Meet" false, .exm "Meet" "Blind" false, .exm "Meet" "Out" false, .exm "Meet" "Meet" true, .exm "Blind" "FloorError" true, .exm "Out" "FloorError" true, .exm "Meet" "FloorError" true, .exm "TooMany" "TooMany" true]
def fa : List He.Fa := fa0 ++ (fa1 ++ (fa2 ++ (fa3 ++ (fa4 ++ (fa5)))))
def ts : List He.Tab := [(fun K => He.ga K "TURNS_sights", ["same", "left", "about", "right"])]
/-- what is looked at: the statics' table too (readsIn asks it) -/
def Ks (g : Addr → Option Obj) : PySem.W.Frag := He.frT g (PySem.cStatics :: He.asD g 5)
def obsS (g : Addr → Option Obj) : He.AlX := (He.obsT fa fn ts (Ks g), exK (Ks g))
abbrev hk : PySem.W.Hook where
  α := He.AlX
  obs := fun s => obsS s.heap.get?
  val := fun w => He.valX fn ts w
  says := fun w h => ∃ K : PySem.W.Frag, K.In h ∧ He.SaysT fa fn ts w K ∧ exK K = true
  of := fun _ _ e => ⟨_, He.frT_in, congrArg (fun z : He.AlX => z.1) e, congrArg (fun z : He.AlX => z.2) e⟩
  keeps := fun _ _ _ ⟨K, hK, c⟩ k => ⟨K, PySem.W.Frag.In.keeps hK k, c⟩
def ob (s : PySem.W.SharedT) : He.AlX := obsS (HandSHeadRun.getT s)
theorem ob_eq (s : PySem.W.SharedT) : ob s = hk.obs s.abs := by
  have e : HandSHeadRun.getT s = s.abs.heap.get? := funext (HandSHeadRun.getT_eq s)
  show obsS (HandSHeadRun.getT s) = obsS s.abs.heap.get?
  rw [e]
theorem run_f (w : World) : HandSHeadRun.RunEq R (PySem.W.view R.prog [73]) hk ob 20000 loose (w.withFollow "special-get-raises" false) := by
  intro os
  kernel_rfl
theorem run_t (w : World) : HandSHeadRun.RunEq R (PySem.W.view R.prog [73]) hk ob 20000 loose (w.withFollow "special-get-raises" true) := by
  intro os
  kernel_rfl
theorem run (w : World) : HandSHeadRun.RunEq R (PySem.W.view R.prog [73]) hk ob 20000 loose w :=
  PySem.W.byRow2 "special-get-raises" (P := fun w => HandSHeadRun.RunEq R (PySem.W.view R.prog [73]) hk ob 20000 loose w) run_f run_t w
end SQH
/-! ## SqD1 -/
set_option Elab.async false
set_option linter.all false
set_option maxRecDepth 100000
set_option maxHeartbeats 4000000
namespace SQ
open PySem PySem.Spec L2

/-- a field: data, a dict with text keys -/
inductive Fk where
  | d (x : PyData)
  | t (kn : List (Str × PyData))
  | no
/-- a slot: not set, plain data, a list of the def's own, an object that stays as it is -/
inductive Sl where
  | u
  | d (x : PyData)
  | o (xs : List PyData)
  | k (C : Addr) (fk : List (Str × Fk))
abbrev En := List Sl

/-! ### heaps: a base below the heap, grown by what is new -/
def ex (Hb H H' : Hp) : Hp := fun b => if (H b).isSome then Hb b else H' b
section
variable {Hb H H1 H2 H' : Hp} {p : Addr} {o : HO}
theorem sub_none (bs : Same Hb H) {b : Addr} (h : H b = none) : Hb b = none := bs.free h
theorem ex_old (h : (H p).isSome = true) : ex Hb H H' p = Hb p := if_pos h
theorem ex_new (h : H p = none) : ex Hb H H' p = H' p := if_neg (by rw [h]; exact Bool.false_ne_true)
theorem ex_sub (bs : Same Hb H) (s : Same H H') : Same (ex Hb H H') H' := fun b u e => by
  cases q : H b with
  | none => rw [ex_new q] at e; exact e
  | some z =>
    rw [ex_old (by rw [q]; rfl)] at e
    exact s b u (bs b u e)
theorem sub_ex (bs : Same Hb H) : Same Hb (ex Hb H H') := fun b u e => by
  rw [ex_old (by rw [bs b u e]; rfl)]; exact e
theorem ex_trans (s1 : Same H H1) (s2 : Same H1 H2) : ex (ex Hb H H1) H1 H2 = ex Hb H H2 := by
  funext b
  cases q : H b with
  | some z =>
    rw [ex_old (H := H1) (by rw [s1 b z q]; rfl), ex_old (H := H) (by rw [q]; rfl), ex_old (H := H) (by rw [q]; rfl)]
  | none =>
    rw [ex_new (H := H) q]
    cases q1 : H1 b with
    | none => rw [ex_new q1]
    | some z => rw [ex_old (by rw [q1]; rfl), ex_new q, q1, s2 b z q1]
theorem ex_id (bs : Same Hb H) : ex Hb H H = Hb := by
  funext b
  cases q : H b with
  | some z => rw [ex_old (by rw [q]; rfl)]
  | none => rw [ex_new q, q, sub_none bs q]
theorem ex_self (s : Same H H') : ex H H H' = H' := by
  funext b
  cases q : H b with
  | some z => rw [ex_old (by rw [q]; rfl), q, s b z q]
  | none => rw [ex_new q]
theorem same_upd (h : H p = none) : Same H (upd H p o) := fun b u e => by rw [upd_ne (ne_of_none e h)]; exact e
theorem ex_upd (bs : Same Hb H) (h : H p = none) : ex Hb H (upd H p o) = upd Hb p o := by
  funext b
  by_cases hb : b = p
  · subst hb; rw [ex_new h, upd_same, upd_same]
  · rw [upd_ne hb]
    cases q : H b with
    | some z => rw [ex_old (by rw [q]; rfl)]
    | none => rw [ex_new q, upd_ne hb, q, sub_none bs q]
theorem sub_upd (bs : Same Hb H) (h : H p = none) : Same (upd Hb p o) (upd H p o) := fun b u e => by
  by_cases hb : b = p
  · subst hb; rw [upd_same] at e ⊢; exact e
  · rw [upd_ne hb] at e ⊢; exact bs b u e
end

theorem sameT {K : PySem.W.Frag} {H H' : Hp} {a : Addr} {xs : List V} (e : Same H H') (h : SqT K H a xs) : SqT K H' a xs := by
  rcases h with (h | ⟨o, h⟩) | h
  · exact .inl (.inl (e _ _ h))
  · exact .inl (.inr ⟨o, e _ _ h⟩)
  · exact .inr h
mutual
theorem _root_.L2.Dp.same {K : PySem.W.Frag} {H H' : Hp} (e : Same H H') : ∀ {d : PyData} {v : V}, Dp K H v d → Dp K H' v d
  | _, _, .non => .non
  | _, _, .bl b => .bl b
  | _, _, .int i => .int i
  | _, _, .str x => .str x
  | _, _, .lst s a => .lst (e.seq s) (L2.DpAll.same e a)
  | _, _, .tup s a => .tup (sameT e s) (L2.DpAll.same e a)
theorem _root_.L2.DpAll.same {K : PySem.W.Frag} {H H' : Hp} (e : Same H H') : ∀ {ds : List PyData} {vs : List V}, DpAll K H vs ds → DpAll K H' vs ds
  | _, _, .nil => .nil
  | _, _, .cons a b => .cons (L2.Dp.same e a) (L2.DpAll.same e b)
end
section
variable {K : PySem.W.Frag} {H : Hp} {v : V} {vs ws : List V} {d : PyData} {ds es : List PyData} {i : Int} {b : Bool} {x : Str}
theorem dp_int (h : Dp K H v (.int i)) : v = .int i := by cases h; rfl
theorem dp_bl (h : Dp K H v (.bool b)) : v = .bl b := by cases h; rfl
theorem dp_str (h : Dp K H v (.str x)) : v = .str x := by cases h; rfl
theorem dp_non (h : Dp K H v .none) : v = .non := by cases h; rfl
theorem dp_tup (h : Dp K H v (.tuple ds)) : ∃ a xs, v = .ref a ∧ SqT K H a xs ∧ DpAll K H xs ds := by cases h with | tup s a => exact ⟨_, _, rfl, s, a⟩
theorem dp_lst (h : Dp K H v (.list ds)) : ∃ a xs, v = .ref a ∧ SqL K H a xs ∧ DpAll K H xs ds := by cases h with | lst s a => exact ⟨_, _, rfl, s, a⟩
theorem _root_.L2.DpAll.length (h : DpAll K H vs ds) : vs.length = ds.length := by
  induction ds generalizing vs with
  | nil => cases h; rfl
  | cons d ds ih => cases h with | cons a b => exact congrArg (· + 1) (ih b)
theorem _root_.L2.DpAll.get {j : Nat} (h : DpAll K H vs ds) (e : ds[j]? = some d) : ∃ x, vs[j]? = some x ∧ Dp K H x d := by
  induction ds generalizing vs j with
  | nil => simp at e
  | cons d' ds ih =>
    cases h with
    | cons a b =>
      cases j with
      | zero => simp at e; subst e; exact ⟨_, rfl, a⟩
      | succ j => obtain ⟨x, h1, h2⟩ := ih (j := j) b (by simpa using e); exact ⟨x, by simpa using h1, h2⟩
theorem _root_.L2.DpAll.get' {j : Nat} {x : V} (h : DpAll K H vs ds) (e : vs[j]? = some x) : ∃ d, ds[j]? = some d ∧ Dp K H x d := by
  induction ds generalizing vs j with
  | nil => cases h; simp at e
  | cons d' ds ih =>
    cases h with
    | cons a b =>
      cases j with
      | zero => simp at e; subst e; exact ⟨_, rfl, a⟩
      | succ j => obtain ⟨d, h1, h2⟩ := ih (j := j) b (by simpa using e); exact ⟨d, by simpa using h1, h2⟩
theorem _root_.L2.DpAll.append (h : DpAll K H vs ds) (g : DpAll K H ws es) : DpAll K H (vs ++ ws) (ds ++ es) := by
  induction ds generalizing vs with
  | nil => cases h; exact g
  | cons d ds ih => cases h with | cons a b => exact .cons a (ih b)
theorem _root_.L2.DpAll.one (h : Dp K H v d) : DpAll K H [v] [d] := .cons h .nil
theorem _root_.L2.DpAll.take (n : Nat) (h : DpAll K H vs ds) : DpAll K H (vs.take n) (ds.take n) := by
  induction n generalizing vs ds with
  | zero => simp; exact .nil
  | succ n ih =>
    cases h with
    | nil => exact .nil
    | cons a b => exact .cons a (ih b)
theorem _root_.L2.DpAll.drop (n : Nat) (h : DpAll K H vs ds) : DpAll K H (vs.drop n) (ds.drop n) := by
  induction n generalizing vs ds with
  | zero => exact h
  | succ n ih =>
    cases h with
    | nil => exact .nil
    | cons a b => exact ih b
theorem _root_.L2.DpAll.set {j : Nat} {y : V} {e : PyData} (r : Dp K H y e) (h : DpAll K H vs ds) : DpAll K H (vs.set j y) (ds.set j e) := by
  induction ds generalizing vs j with
  | nil => cases h; exact .nil
  | cons d ds ih =>
    cases h with
    | cons a b =>
      cases j with
      | zero => exact .cons r b
      | succ j => exact .cons a (ih b)
theorem dall_ints : ∀ {ns : List Int}, DpAll K H (ns.map V.int) (ns.map PyData.int)
  | [] => .nil
  | n :: ns => .cons (.int n) dall_ints
theorem dall_strs : ∀ {ns : List Str}, DpAll K H (ns.map V.str) (ns.map PyData.str)
  | [] => .nil
  | n :: ns => .cons (.str n) dall_strs
theorem dall_of_strs : ∀ {ns : List Str} {vs : List V}, DpAll K H vs (ns.map PyData.str) → vs = ns.map V.str
  | [], _, .nil => rfl
  | n :: ns, _, .cons a b => by rw [dp_str a, dall_of_strs b]; rfl
theorem dall_of_ints : ∀ {ns : List Int} {vs : List V}, DpAll K H vs (ns.map PyData.int) → vs = ns.map V.int
  | [], _, .nil => rfl
  | n :: ns, _, .cons a b => by rw [dp_int a, dall_of_ints b]; rfl
theorem dall_of_bls : ∀ {ns : List Bool} {vs : List V}, DpAll K H vs (ns.map PyData.bool) → vs = ns.map V.bl
  | [], _, .nil => rfl
  | n :: ns, _, .cons a b => by rw [dp_bl a, dall_of_bls b]; rfl
end

/-! ### the slots as data -/
theorem getElem?_set' {α : Type} {l : List α} {i j : Nat} {x y : α} (h : (l.set i x)[j]? = some y) : (i = j ∧ x = y) ∨ (i ≠ j ∧ l[j]? = some y) := by
  by_cases e : i = j
  · subst e
    by_cases hl : i < l.length
    · rw [List.getElem?_set_self hl] at h
      exact .inl ⟨rfl, Option.some.inj h⟩
    · rw [List.getElem?_eq_none (by simpa using hl)] at h; cases h
  · rw [List.getElem?_set_ne e] at h
    exact .inr ⟨e, h⟩
/-- an instance of C by its fields -/
def FldAt (K : PySem.W.Frag) (H : Hp) : Fk → Option V → Prop
  | .d x, o => ∃ u, o = some u ∧ Dp K H u x
  | .t kn, o => ∃ kd kvs, o = some (.ref kd) ∧ H kd = some (.dK kvs) ∧ kvs.map (·.1) = kn.map (fun p => Sum.inr p.1) ∧ DpAll K H (kvs.map (·.2)) (kn.map (·.2))
  | .no, o => o = none
def ObjAt (K : PySem.W.Frag) (H : Hp) (C : Addr) (fk : List (Str × Fk)) (v : V) : Prop :=
  ∃ a dx fs, v = .ref a ∧ H a = some (.ins C dx fs) ∧ ∀ f k, fk.lookup f = some k → FldAt K H k (fs.lookup f)
theorem FldAt.same {K : PySem.W.Frag} {H H' : Hp} {k : Fk} {o : Option V} (s : Same H H') (h : FldAt K H k o) : FldAt K H' k o := by
  cases k with
  | d x =>
    obtain ⟨u, e, h⟩ := h
    exact ⟨u, e, L2.Dp.same s h⟩
  | t kn =>
    obtain ⟨kd, kvs, e, h2, h3, h4⟩ := h
    exact ⟨kd, kvs, e, s _ _ h2, h3, h4.same s⟩
  | no => exact h
theorem ObjAt.same {K : PySem.W.Frag} {H H' : Hp} {C : Addr} {fk : List (Str × Fk)} {v : V} (s : Same H H') (h : ObjAt K H C fk v) : ObjAt K H' C fk v := by
  obtain ⟨a, dx, fs, rfl, h1, h2⟩ := h
  exact ⟨a, dx, fs, rfl, s _ _ h1, fun f k e => (h2 f k e).same s⟩
structure Sta (K : PySem.W.Frag) (Hb H : Hp) (σ : St) (δ : En) : Prop where
  bs : Same Hb H
  len : σ.length = δ.length
  da : ∀ (i : Nat) (x : PyData), δ[i]? = some (Sl.d x) → ∃ v, σ[i]? = some (some v) ∧ Dp K Hb v x
  ow : ∀ (i : Nat) (xs : List PyData), δ[i]? = some (Sl.o xs) → ∃ (a : Addr) (vs : List V), σ[i]? = some (some (V.ref a)) ∧ Hb a = none ∧ H a = some (.lst vs) ∧ DpAll K Hb vs xs
  dj : ∀ (i j : Nat) (xs ys : List PyData) (a : Addr), δ[i]? = some (Sl.o xs) → δ[j]? = some (Sl.o ys) → σ[i]? = some (some (V.ref a)) → σ[j]? = some (some (V.ref a)) → i = j
  bk : ∀ (i : Nat) (C : Addr) (kn : List (Str × Fk)), δ[i]? = some (Sl.k C kn) → ∃ v, σ[i]? = some (some v) ∧ ObjAt K Hb C kn v
section
variable {K : PySem.W.Frag} {Hb Hb' : Hp} {σ : St} {δ : En}
theorem bk_set {i : Nat} {x : Sl} {y : Option V} (h : ∀ (i : Nat) (C : Addr) (kn : List (Str × Fk)), δ[i]? = some (Sl.k C kn) → ∃ v, σ[i]? = some (some v) ∧ ObjAt K Hb C kn v) (hx : ∀ C kn, x ≠ .k C kn) (s : Same Hb Hb') :
    ∀ (j : Nat) (C : Addr) (kn : List (Str × Fk)), (δ.set i x)[j]? = some (Sl.k C kn) → ∃ v, (σ.set i y)[j]? = some (some v) ∧ ObjAt K Hb' C kn v := fun j C kn e => by
  rcases getElem?_set' e with ⟨rfl, q⟩ | ⟨ne, q⟩
  · exact absurd q (hx C kn)
  · obtain ⟨v, h1, h2⟩ := h j C kn q
    exact ⟨v, by rw [List.getElem?_set_ne ne]; exact h1, h2.same s⟩
theorem bk_set0 {i : Nat} {x : Sl} (h : ∀ (i : Nat) (C : Addr) (kn : List (Str × Fk)), δ[i]? = some (Sl.k C kn) → ∃ v, σ[i]? = some (some v) ∧ ObjAt K Hb C kn v) (hx : ∀ C kn, x ≠ .k C kn) (s : Same Hb Hb') :
    ∀ (j : Nat) (C : Addr) (kn : List (Str × Fk)), (δ.set i x)[j]? = some (Sl.k C kn) → ∃ v, σ[j]? = some (some v) ∧ ObjAt K Hb' C kn v := fun j C kn e => by
  rcases getElem?_set' e with ⟨rfl, q⟩ | ⟨ne, q⟩
  · exact absurd q (hx C kn)
  · obtain ⟨v, h1, h2⟩ := h j C kn q
    exact ⟨v, h1, h2.same s⟩
end
section
variable {K : PySem.W.Frag} {Hb H H' : Hp} {σ : St} {δ : En} {p : Addr} {o : HO}
theorem Sta.grow (S : Sta K Hb H σ δ) (s : Same H H') : Sta K (ex Hb H H') H' σ δ where
  bs := ex_sub S.bs s
  len := S.len
  da := fun i x e => by
    obtain ⟨v, h1, h2⟩ := S.da i x e
    exact ⟨v, h1, h2.same (sub_ex S.bs)⟩
  ow := fun i xs e => by
    obtain ⟨a, vs, h1, h2, h3, h4⟩ := S.ow i xs e
    exact ⟨a, vs, h1, by rw [ex_old (by rw [h3]; rfl)]; exact h2, s _ _ h3, h4.same (sub_ex S.bs)⟩
  dj := S.dj
  bk := fun i C kn e => by
    obtain ⟨v, h1, h2⟩ := S.bk i C kn e
    exact ⟨v, h1, h2.same (sub_ex S.bs)⟩
theorem Sta.laid (S : Sta K Hb H σ δ) (h : H p = none) : Sta K (upd Hb p o) (upd H p o) σ δ := by
  rw [← ex_upd S.bs h]
  exact S.grow (same_upd h)
end

/-! ### expressions -/
theorem PE.imp {X : Cx} {e : Expr} {t t' : TE} (h : PE X e t) (i : ∀ σ H Q, t' σ H Q → t σ H Q) : PE X e t' := ⟨fun pins s σ H Q I q => h.run pins s σ H Q I (i σ H Q q)⟩
theorem PT.imp {X : Cx} {e : Expr} {t t' : TT} (h : PT X e t) (i : ∀ σ H Q, t' σ H Q → t σ H Q) : PT X e t' := ⟨fun pins s σ H Q I q => h.run pins s σ H Q I (i σ H Q q)⟩
theorem PW.imp {X : Cx} {e : Expr} {t t' : TT} (h : PW X e t) (i : ∀ σ H Q, t' σ H Q → t σ H Q) : PW X e t' := ⟨fun wh pins s σ H Q I q => h.run wh pins s σ H Q I (i σ H Q q)⟩
theorem PA.imp {X : Cx} {e : List Expr} {t t' : TA} (h : PA X e t) (i : ∀ σ H Q, t' σ H Q → t σ H Q) : PA X e t' := ⟨fun pos pins s σ H Q I q => h.run pos pins s σ H Q I (i σ H Q q)⟩
theorem PS.imp {X : Cx} {e : Stmt} {t t' : TS} (h : PS X e t) (i : ∀ D σ H, t' D σ H → t D σ H) : PS X e t' := ⟨fun pins s σ H D I q => h.run pins s σ H D I (i D σ H q)⟩
theorem PSs.imp {X : Cx} {e : List Stmt} {t t' : TS} (h : PSs X e t) (i : ∀ D σ H, t' D σ H → t D σ H) : PSs X e t' := ⟨fun pins s σ H D I q => h.run pins s σ H D I (i D σ H q)⟩
theorem PI.imp {X : Cx} {tg e : Expr} {t t' : TI} (h : PI X tg e t) (i : ∀ σ H R, t' σ H R → t σ H R) : PI X tg e t' := ⟨fun pins s σ H R I q => h.run pins s σ H R I (i σ H R q)⟩

/-- what follows a value: new things may stand -/
structure Ot (K : PySem.W.Frag) (Hb H : Hp) (e : PyData) (Q : VK) : Prop where
  bs : Same Hb H
  go : ∀ v H', Same H H' → Dp K (ex Hb H H') v e → Q v H'
section
variable {K : PySem.W.Frag} {Hb H H' : Hp} {e : PyData} {Q : VK} {v : V} {p : Addr} {o : HO}
theorem Ot.now (O : Ot K Hb H e Q) (h : Dp K Hb v e) : Q v H := O.go v H (Same.refl H) (by rw [ex_id O.bs]; exact h)
theorem Ot.new (O : Ot K Hb H e Q) (hp : H p = none) (h : Dp K (upd Hb p o) v e) : Q v (upd H p o) := O.go v _ (same_upd hp) (by rw [ex_upd O.bs hp]; exact h)
theorem Ot.newT {xs : List V} {ds : List PyData} (O : Ot K Hb H (.tuple ds) Q) (hp : H p = none) (h : DpAll K Hb xs ds) : Q (.ref p) (upd H p (.tup xs)) :=
  O.new hp (.tup (SqT.of upd_same) (h.same (same_upd (sub_none O.bs hp))))
theorem Ot.newL {xs : List V} {ds : List PyData} (O : Ot K Hb H (.list ds) Q) (hp : H p = none) (h : DpAll K Hb xs ds) : Q (.ref p) (upd H p (.lst xs)) :=
  O.new hp (.lst (SqL.of upd_same) (h.same (same_upd (sub_none O.bs hp))))
end

def tE (K : PySem.W.Frag) (f : En → Option PyData) : TE := fun σ H Q => ∃ Hb δ, Sta K Hb H σ δ ∧ ∃ d, f δ = some d ∧ Ot K Hb H d Q
def tT (K : PySem.W.Frag) (c : En → Option Bool) : TT := fun σ H Q => ∃ Hb δ, Sta K Hb H σ δ ∧ ∃ b, c δ = some b ∧ ∀ H', Same H H' → Q b H'
def tA (K : PySem.W.Frag) (f : En → Option (List PyData)) : TA := fun σ H Q => ∃ Hb δ, Sta K Hb H σ δ ∧ ∃ ds, f δ = some ds ∧ ∀ vs H', Same H H' → DpAll K (ex Hb H H') vs ds → Q vs H'

section
variable {K : PySem.W.Frag} {Hb H : Hp} {σ : St} {δ : En} {Q : VK}
/-- first f, then k -/
theorem tE_seq {f : En → Option PyData} {k : En → PyData → Option PyData} (h : tE K (fun δ => (f δ).bind (k δ)) σ H Q) :
    tE K f σ H fun v H1 => ∃ Hb δ d, Sta K Hb H1 σ δ ∧ Dp K Hb v d ∧ ∃ e, k δ d = some e ∧ Ot K Hb H1 e Q := by
  obtain ⟨Hb, δ, S, e, he, O⟩ := h
  obtain ⟨d, hd, hk⟩ := Option.bind_eq_some_iff.mp he
  refine ⟨Hb, δ, S, d, hd, S.bs, fun v H1 s hv => ⟨_, δ, d, S.grow s, hv, e, hk, ?_⟩⟩
  exact ⟨ex_sub S.bs s, fun v' H2 s2 h2 => O.go v' H2 (s.trans s2) (by rw [ex_trans s s2] at h2; exact h2)⟩
theorem tT_seq {f : En → Option PyData} {k : En → PyData → Option Bool} {Q : Bool → Hp → Prop} (h : tT K (fun δ => (f δ).bind (k δ)) σ H Q) :
    tE K f σ H fun v H1 => ∃ Hb δ d, Sta K Hb H1 σ δ ∧ Dp K Hb v d ∧ ∃ e, k δ d = some e ∧ ∀ H', Same H1 H' → Q e H' := by
  obtain ⟨Hb, δ, S, e, he, O⟩ := h
  obtain ⟨d, hd, hk⟩ := Option.bind_eq_some_iff.mp he
  exact ⟨Hb, δ, S, d, hd, S.bs, fun v H1 s hv => ⟨_, δ, d, S.grow s, hv, e, hk, fun H2 s2 => O H2 (s.trans s2)⟩⟩
theorem tE_seqA {f : En → Option (List PyData)} {k : En → List PyData → Option PyData} (h : tE K (fun δ => (f δ).bind (k δ)) σ H Q) :
    tA K f σ H fun vs H1 => ∃ Hb δ ds, Sta K Hb H1 σ δ ∧ DpAll K Hb vs ds ∧ ∃ e, k δ ds = some e ∧ Ot K Hb H1 e Q := by
  obtain ⟨Hb, δ, S, e, he, O⟩ := h
  obtain ⟨d, hd, hk⟩ := Option.bind_eq_some_iff.mp he
  refine ⟨Hb, δ, S, d, hd, fun v H1 s hv => ⟨_, δ, d, S.grow s, hv, e, hk, ?_⟩⟩
  exact ⟨ex_sub S.bs s, fun v' H2 s2 h2 => O.go v' H2 (s.trans s2) (by rw [ex_trans s s2] at h2; exact h2)⟩
end

/-! ### the forms of an expression's function -/
def eV (i : Nat) : En → Option PyData := fun δ => match δ[i]? with | some (.d x) => some x | _ => none
def eC (d : PyData) : En → Option PyData := fun _ => some d
def e1 (op : PyData → Option PyData) (f : En → Option PyData) : En → Option PyData := fun δ => (f δ).bind op
def e2 (op : PyData → PyData → Option PyData) (f g : En → Option PyData) : En → Option PyData := fun δ => (f δ).bind fun x => (g δ).bind fun y => op x y
def aNil : En → Option (List PyData) := fun _ => some []
def aCons (f : En → Option PyData) (g : En → Option (List PyData)) : En → Option (List PyData) := fun δ => (f δ).bind fun x => (g δ).bind fun xs => some (x :: xs)
def eA (op : List PyData → Option PyData) (f : En → Option (List PyData)) : En → Option PyData := fun δ => (f δ).bind op
def asB : PyData → Option Bool | .bool b => some b | _ => none
def cE (f : En → Option PyData) : En → Option Bool := fun δ => (f δ).bind asB
def cNot (c : En → Option Bool) : En → Option Bool := fun δ => (c δ).map not
def cAnd (c d : En → Option Bool) : En → Option Bool := fun δ => (c δ).bind fun b => if b = true then d δ else some false
def cOr (c d : En → Option Bool) : En → Option Bool := fun δ => (c δ).bind fun b => if b = true then some true else d δ
def eAnd (f g : En → Option PyData) : En → Option PyData := fun δ => (f δ).bind fun x => (asB x).bind fun b => if b = true then g δ else some (.bool false)
def eOr (f g : En → Option PyData) : En → Option PyData := fun δ => (f δ).bind fun x => (asB x).bind fun b => if b = true then some (.bool true) else g δ
def eNot (f : En → Option PyData) : En → Option PyData := fun δ => (f δ).bind fun x => (asB x).map fun b => .bool (!b)

section
variable {X : Cx} {a b c e : Expr} {es : List Expr} {rest : List Expr} {fa fb fc : En → Option PyData} {ca cb : En → Option Bool} {ga : En → Option (List PyData)} {pos : Pos}
theorem dv (i : Nat) {x : Str} {pos : Pos} (hN : X.N[i]? = some x := by rfl) (hv : Vis X.env.scope x := by first | exact Or.inl rfl | exact Or.inr (Or.inl rfl) | exact Or.inr (Or.inr rfl)) (hd : (x == ("__debug__" : Str)) = false := by decide)
    (hcd : (x == ("__classdict__" : Str)) = false := by decide) : PE X (.Name x pos) (tE X.K (eV i)) := by
  refine PE.imp (pe_var hN hv hd hcd) fun σ H Q h => ?_
  obtain ⟨Hb, δ, S, d, hd, O⟩ := h
  unfold eV at hd
  split at hd
  · rename_i x e
    cases hd
    obtain ⟨v, h1, h2⟩ := S.da _ _ e
    exact ⟨v, h1, O.now h2⟩
  · cases hd
theorem dc {t : TE} {v : V} {d : PyData} (h : PE X e t) (i : ∀ σ H Q, Q v H → t σ H Q) (hv : ∀ H, Dp X.K H v d) : PE X e (tE X.K (eC d)) := PE.imp h fun σ H Q q => by
  obtain ⟨Hb, δ, S, d', hd, O⟩ := q
  cases hd
  exact i σ H Q (O.now (hv _))
theorem d_int {i : Int} {j : Nat} : PE X (.Constant (.int i) j pos) (tE X.K (eC (.int i))) := dc pe_int (fun _ _ _ q => q) fun _ => .int i
theorem d_bl {i : Bool} {j : Nat} : PE X (.Constant (.bool i) j pos) (tE X.K (eC (.bool i))) := dc pe_bl (fun _ _ _ q => q) fun _ => .bl i
theorem d_str {i : Str} {j : Nat} : PE X (.Constant (.str i) j pos) (tE X.K (eC (.str i))) := dc pe_str (fun _ _ _ q => q) fun _ => .str i
theorem d_non {j : Nat} : PE X (.Constant .none j pos) (tE X.K (eC .none)) := dc pe_non (fun _ _ _ q => q) fun _ => .non
/-- a module's constant -/
theorem d_glob {x : Str} {v : V} {u : Value} {d : PyData} (hg : Gl X x) (hm : X.mg x = some u) (r : RelV v u) (hv : ∀ H, Dp X.K H v d) (hd : (x == ("__debug__" : Str)) = false := by decide) : PE X (.Name x pos) (tE X.K (eC d)) :=
  dc (pe_glob hg hm r hd) (fun _ _ _ q => q) hv
/-- two parts, by a reading of values -/
theorem rd2 {K : PySem.W.Frag} {r : R2} {op : PyData → PyData → Option PyData} (hr : ∀ Hb H x y dx dy e Q, Dp K Hb x dx → Dp K Hb y dy → op dx dy = some e → Ot K Hb H e Q → r x y H Q) :
    ∀ σ H Q, tE K (e2 op fa fb) σ H Q → tOp r (tE K fa) (tE K fb) σ H Q := fun σ H Q h => by
  obtain ⟨Hb, δ, S, d, hd, O⟩ := tE_seq (f := fa) (k := fun δ x => (fb δ).bind fun y => op x y) h
  refine ⟨Hb, δ, S, d, hd, O.bs, fun v H1 s hv => ?_⟩
  obtain ⟨Hb1, δ1, d1, S1, h1, e, he, O1⟩ := O.go v H1 s hv
  obtain ⟨d2, hd2, ho⟩ := Option.bind_eq_some_iff.mp he
  refine ⟨Hb1, δ1, S1, d2, hd2, S1.bs, fun v2 H2 s2 hv2 => hr _ H2 v v2 d1 d2 e Q (h1.same (sub_ex S1.bs)) hv2 ho ?_⟩
  exact ⟨ex_sub S1.bs s2, fun v' H3 s3 h3 => O1.go v' H3 (s2.trans s3) (by rw [ex_trans s2 s3] at h3; exact h3)⟩
theorem rd1 {K : PySem.W.Frag} {r : V → Hp → VK → Prop} {op : PyData → Option PyData} (hr : ∀ Hb H x dx e Q, Dp K Hb x dx → op dx = some e → Ot K Hb H e Q → r x H Q) :
    ∀ σ H Q, tE K (e1 op fa) σ H Q → tUn r (tE K fa) σ H Q := fun σ H Q h => by
  obtain ⟨Hb, δ, S, d, hd, O⟩ := tE_seq (f := fa) (k := fun _ x => op x) h
  refine ⟨Hb, δ, S, d, hd, O.bs, fun v H1 s hv => ?_⟩
  obtain ⟨Hb1, δ1, d1, S1, h1, e, he, O1⟩ := O.go v H1 s hv
  exact hr _ H1 v d1 e Q h1 he O1
theorem rdA {K : PySem.W.Frag} {r : List V → Hp → VK → Prop} {op : List PyData → Option PyData} (hr : ∀ Hb H xs ds e Q, DpAll K Hb xs ds → op ds = some e → Ot K Hb H e Q → r xs H Q) :
    ∀ σ H Q, tE K (eA op ga) σ H Q → tCB r (tA K ga) σ H Q := fun σ H Q h => by
  obtain ⟨Hb, δ, S, d, hd, O⟩ := tE_seqA (f := ga) (k := fun _ x => op x) h
  refine ⟨Hb, δ, S, d, hd, fun v H1 s hv => ?_⟩
  obtain ⟨Hb1, δ1, d1, S1, h1, e, he, O1⟩ := O v H1 s hv
  exact hr _ H1 v d1 e Q h1 he O1

theorem da_nil : PA X [] (tA X.K aNil) := PA.imp pa_nil fun σ H Q h => by
  obtain ⟨Hb, δ, S, ds, hd, O⟩ := h
  cases hd
  exact O [] H (Same.refl H) .nil
theorem da_cons (ha : PE X e (tE X.K fa)) (hr : PA X es (tA X.K ga)) (hs : starEach (e :: es) X.env = (false, eval e X.env) :: starEach es X.env := by rfl) : PA X (e :: es) (tA X.K (aCons fa ga)) := PA.imp (pa_cons ha hr hs) fun σ H Q h => by
  obtain ⟨Hb, δ, S, ds, hd, O⟩ := h
  obtain ⟨x, hx, hd⟩ := Option.bind_eq_some_iff.mp hd
  obtain ⟨xs, hxs, hd⟩ := Option.bind_eq_some_iff.mp hd
  cases hd
  refine ⟨Hb, δ, S, x, hx, S.bs, fun v H1 s hv => ?_⟩
  have S1 := S.grow s
  refine ⟨_, δ, S1, xs, hxs, fun vs H2 s2 hvs => O (v :: vs) H2 (s.trans s2) ?_⟩
  have hv2 := hv.same (sub_ex (H' := H2) S1.bs)
  rw [ex_trans s s2] at hv2 hvs
  exact .cons hv2 hvs
/-- tests -/
theorem dt_val (h : PE X e (tE X.K fa)) (he : ∀ whole, isTrue e X.env whole = (do let v ← whole; standAt e.pos; holding [v] (truthy v)) := by intro _; rfl) : PT X e (tT X.K (cE fa)) := PT.imp (pt_val h he) fun σ H Q q => by
  obtain ⟨Hb, δ, S, d, hd, O⟩ := tT_seq (f := fa) (k := fun _ x => asB x) q
  refine ⟨Hb, δ, S, d, hd, O.bs, fun v H1 s hv => ?_⟩
  obtain ⟨Hb1, δ1, d1, S1, h1, e, he, O1⟩ := O.go v H1 s hv
  unfold asB at he
  split at he
  · cases he
    exact ⟨_, dp_bl h1, O1 _ (Same.refl _)⟩
  · cases he
/-- a comparison as a test, by its reading -/
theorem dt_of {t : TE} (h : PT X e (tTest t)) (i : ∀ σ H Q, tE X.K fa σ H Q → t σ H Q) : PT X e (tT X.K (cE fa)) := PT.imp h fun σ H Q q => by
  refine i σ H _ ?_
  obtain ⟨Hb, δ, S, d, hd, O⟩ := tT_seq (f := fa) (k := fun _ x => asB x) q
  refine ⟨Hb, δ, S, d, hd, O.bs, fun v H1 s hv => ?_⟩
  obtain ⟨Hb1, δ1, d1, S1, h1, e, he, O1⟩ := O.go v H1 s hv
  unfold asB at he
  split at he
  · cases he
    exact ⟨_, dp_bl h1, O1 _ (Same.refl _)⟩
  · cases he
theorem dt_not (ha : PT X a (tT X.K ca)) : PT X (.UnaryOp .Not a pos) (tT X.K (cNot ca)) := PT.imp (pt_not ha) fun σ H Q h => by
  obtain ⟨Hb, δ, S, b, hb, O⟩ := h
  obtain ⟨c, hc, rfl⟩ := Option.map_eq_some_iff.mp hb
  exact ⟨Hb, δ, S, c, hc, O⟩
theorem dw_and1 (ha : PT X a (tT X.K ca)) : PW X (.BoolOp .And [a] pos) (tT X.K ca) := pw_and1 ha
theorem dw_or1 (ha : PT X a (tT X.K ca)) : PW X (.BoolOp .Or [a] pos) (tT X.K ca) := pw_or1 ha
theorem dw_and (ha : PT X a (tT X.K ca)) (hb : PW X (.BoolOp .And (b :: rest) pos) (tT X.K cb)) : PW X (.BoolOp .And (a :: b :: rest) pos) (tT X.K (cAnd ca cb)) := PW.imp (pw_and ha hb) fun σ H Q h => by
  obtain ⟨Hb, δ, S, r, hr, O⟩ := h
  obtain ⟨c, hc, hr⟩ := Option.bind_eq_some_iff.mp hr
  refine ⟨Hb, δ, S, c, hc, fun H1 s => ?_⟩
  cases c with
  | true => exact ⟨_, δ, S.grow s, r, hr, fun H2 s2 => O H2 (s.trans s2)⟩
  | false => cases hr; exact O H1 s
theorem dw_or (ha : PT X a (tT X.K ca)) (hb : PW X (.BoolOp .Or (b :: rest) pos) (tT X.K cb)) : PW X (.BoolOp .Or (a :: b :: rest) pos) (tT X.K (cOr ca cb)) := PW.imp (pw_or ha hb) fun σ H Q h => by
  obtain ⟨Hb, δ, S, r, hr, O⟩ := h
  obtain ⟨c, hc, hr⟩ := Option.bind_eq_some_iff.mp hr
  refine ⟨Hb, δ, S, c, hc, fun H1 s => ?_⟩
  cases c with
  | false => exact ⟨_, δ, S.grow s, r, hr, fun H2 s2 => O H2 (s.trans s2)⟩
  | true => cases hr; exact O H1 s
/-- as values -/
theorem d_one {op : BoolOp} (h : PE X a (tE X.K fa)) : PE X (.BoolOp op [a] pos) (tE X.K fa) := pe_one h
theorem d_and (ha : PE X a (tE X.K fa)) (hb : PE X (.BoolOp .And (b :: rest) pos) (tE X.K fb)) : PE X (.BoolOp .And (a :: b :: rest) pos) (tE X.K (eAnd fa fb)) := PE.imp (pe_and ha hb) fun σ H Q h => by
  obtain ⟨Hb, δ, S, d, hd, O⟩ := tE_seq (f := fa) (k := fun δ x => (asB x).bind fun b => if b = true then fb δ else some (.bool false)) h
  refine ⟨Hb, δ, S, d, hd, O.bs, fun v H1 s hv => ?_⟩
  obtain ⟨Hb1, δ1, d1, S1, h1, e, he, O1⟩ := O.go v H1 s hv
  obtain ⟨k, hk, he⟩ := Option.bind_eq_some_iff.mp he
  unfold asB at hk
  split at hk
  · cases hk
    refine ⟨k, dp_bl h1, ?_⟩
    cases k with
    | true => exact ⟨Hb1, δ1, S1, e, he, O1⟩
    | false => cases he; exact O1.now (.bl false)
  · cases hk
theorem d_or (ha : PE X a (tE X.K fa)) (hb : PE X (.BoolOp .Or (b :: rest) pos) (tE X.K fb)) : PE X (.BoolOp .Or (a :: b :: rest) pos) (tE X.K (eOr fa fb)) := PE.imp (pe_or ha hb) fun σ H Q h => by
  obtain ⟨Hb, δ, S, d, hd, O⟩ := tE_seq (f := fa) (k := fun δ x => (asB x).bind fun b => if b = true then some (.bool true) else fb δ) h
  refine ⟨Hb, δ, S, d, hd, O.bs, fun v H1 s hv => ?_⟩
  obtain ⟨Hb1, δ1, d1, S1, h1, e, he, O1⟩ := O.go v H1 s hv
  obtain ⟨k, hk, he⟩ := Option.bind_eq_some_iff.mp he
  unfold asB at hk
  split at hk
  · cases hk
    refine ⟨k, dp_bl h1, ?_⟩
    cases k with
    | false => exact ⟨Hb1, δ1, S1, e, he, O1⟩
    | true => cases he; exact O1.now (.bl true)
  · cases hk
theorem d_not (ha : PE X a (tE X.K fa)) : PE X (.UnaryOp .Not a pos) (tE X.K (eNot fa)) := PE.imp (pe_not ha) fun σ H Q h => by
  obtain ⟨Hb, δ, S, d, hd, O⟩ := tE_seq (f := fa) (k := fun δ x => (asB x).map fun b => .bool (!b)) h
  refine ⟨Hb, δ, S, d, hd, O.bs, fun v H1 s hv => ?_⟩
  obtain ⟨Hb1, δ1, d1, S1, h1, e, he, O1⟩ := O.go v H1 s hv
  obtain ⟨k, hk, rfl⟩ := Option.map_eq_some_iff.mp he
  unfold asB at hk
  split at hk
  · cases hk
    exact ⟨k, dp_bl h1, O1.now (.bl _)⟩
  · cases hk
end
end SQ
/-! ## SqD2 -/
set_option Elab.async false
set_option linter.all false
set_option maxRecDepth 100000
set_option maxHeartbeats 4000000
namespace SQ
open PySem PySem.Spec L2 TL

/-! ### operators over data -/
def addI : PyData → PyData → Option PyData | .int i, .int j => some (.int (i + j)) | _, _ => none
def subI : PyData → PyData → Option PyData | .int i, .int j => some (.int (i - j)) | _, _ => none
def mulI : PyData → PyData → Option PyData | .int i, .int j => if (-(2 ^ 64) < i ∧ i < 2 ^ 64) ∨ (-(2 ^ 64) < j ∧ j < 2 ^ 64) then some (.int (i * j)) else none | _, _ => none
def modI : PyData → PyData → Option PyData | .int i, .int j => if 0 < j then some (.int (i % j)) else none | _, _ => none
def divI : PyData → PyData → Option PyData | .int i, .int j => if 0 < j ∧ j < 1073741824 then some (.int (i / j)) else none | _, _ => none
def addS : PyData → PyData → Option PyData | .str i, .str j => if i.length + j.length ≤ sizeLine then some (.str (i ++ j)) else none | _, _ => none
def addT : PyData → PyData → Option PyData | .tuple (x :: xs), .tuple (y :: ys) => if (x :: xs).length + (y :: ys).length ≤ sizeLine then some (.tuple ((x :: xs) ++ (y :: ys))) else none | _, _ => none
def eqD (x y : PyData) : Option PyData := if SeqAt.shaped x = true ∧ SeqAt.shaped y = true then some (.bool (PyData.eqv x y)) else none
def neD (x y : PyData) : Option PyData := if SeqAt.shaped x = true ∧ SeqAt.shaped y = true then some (.bool (!PyData.eqv x y)) else none
def ltI : PyData → PyData → Option PyData | .int i, .int j => some (.bool (decide (i < j))) | _, _ => none
def leI : PyData → PyData → Option PyData | .int i, .int j => some (.bool (decide (i ≤ j))) | _, _ => none
def gtI : PyData → PyData → Option PyData | .int i, .int j => some (.bool (decide (j < i))) | _, _ => none
def geI : PyData → PyData → Option PyData | .int i, .int j => some (.bool (decide (j ≤ i))) | _, _ => none
def isN : PyData → PyData → Option PyData | .none, .none => some (.bool true) | _, .none => some (.bool false) | _, _ => none
def notN : PyData → PyData → Option PyData | .none, .none => some (.bool false) | _, .none => some (.bool true) | _, _ => none
def strsD : List PyData → Option (List Str)
  | [] => some []
  | .str x :: r => (strsD r).map (x :: ·)
  | _ => none
def seqD : PyData → Option (List PyData) | .tuple xs => some xs | .list xs => some xs | _ => none
def inS (x y : PyData) : Option PyData := match x with
  | .str a => (seqD y).bind fun ds => (strsD ds).map fun xs => .bool (xs.any (· == a))
  | _ => none
def ninS (x y : PyData) : Option PyData := match x with
  | .str a => (seqD y).bind fun ds => (strsD ds).map fun xs => .bool (!xs.any (· == a))
  | _ => none
def ninC : PyData → PyData → Option PyData
  | .str x, .str z => (match x.cps.toList with | [c] => some (.bool (!decide (c ∈ z.cps.toList))) | _ => none)
  | _, _ => none
def ixD : PyData → PyData → Option PyData
  | .tuple ds, .int i => atI ds i
  | .list ds, .int i => atI ds i
  | .str z, .int i => if z.length ≤ sizeLine then (atI z.cps.toList i).map fun c => .str ⟨#[c]⟩ else none
  | _, _ => none
def tupD : List PyData → Option PyData := fun xs => if xs.length ≤ sizeLine then some (.tuple xs) else none
def lstD : List PyData → Option PyData := fun xs => if xs.length ≤ sizeLine then some (.list xs) else none
def lenD : PyData → Option PyData
  | .tuple ds => some (.int ds.length)
  | .list ds => some (.int ds.length)
  | .str z => if z.length ≤ sizeLine then some (.int z.length) else none
  | _ => none
def absD : PyData → Option PyData | .int i => some (.int (if i < 0 then -i else i)) | _ => none
def maxD : List PyData → Option PyData | [.int i, .int j] => some (.int (if j > i then j else i)) | _ => none
def intD : PyData → Option PyData
  | .bool b => some (.int (if b then 1 else 0))
  | .str z => if z.length ≤ 640 then (PySem.intText? z).map .int else none
  | _ => none
def tupleD : PyData → Option PyData | .list xs => some (.tuple xs) | .tuple xs => some (.tuple xs) | _ => none
def tyD : PyData → Option String
  | .none => some "NoneType" | .bool _ => some "bool" | .int _ => some "int" | .str _ => some "str" | .list _ => some "list" | .tuple _ => some "tuple" | .dict _ => none
def isI (T : String) (d : PyData) : Option PyData := (tyD d).bind fun a => (kitB a T).map .bool
def blsD : List PyData → Option (List Bool)
  | [] => some []
  | .bool x :: r => (blsD r).map (x :: ·)
  | _ => none
def allD : PyData → Option PyData | .list ds => (blsD ds).map fun bs => .bool (bs.all id) | _ => none
def splitD : PyData → PyData → Option PyData
  | .str a, .str b => if (b.cps.all (· < 256)) = true ∧ (tl b).isEmpty = false ∧ a.length + 2 ≤ sizeLine then some (.list ((spl (tl b) 0 [] (tl a)).map fun l => .str ⟨l.toArray⟩)) else none
  | _, _ => none

theorem strsD_map : ∀ {ds : List PyData} {xs : List Str}, strsD ds = some xs → ds = xs.map PyData.str
  | [], _, h => by cases h; rfl
  | d :: ds, xs, h => by
    unfold strsD at h
    split at h
    · rename_i e; cases e
    · rename_i a r e
      cases e
      obtain ⟨ys, hy, rfl⟩ := Option.map_eq_some_iff.mp h
      rw [strsD_map hy]; rfl
    · cases h
theorem blsD_map : ∀ {ds : List PyData} {xs : List Bool}, blsD ds = some xs → ds = xs.map PyData.bool
  | [], _, h => by cases h; rfl
  | d :: ds, xs, h => by
    unfold blsD at h
    split at h
    · rename_i e; cases e
    · rename_i a r e
      cases e
      obtain ⟨ys, hy, rfl⟩ := Option.map_eq_some_iff.mp h
      rw [blsD_map hy]; rfl
    · cases h
theorem inV_strs (a : Str) (xs : List Str) : inV (.str a) (xs.map V.str) = xs.any (· == a) := by
  unfold inV
  rw [List.any_map]
  rfl
theorem all_flat (xs : List Str) : (xs.map V.str).all flatV = true := by
  rw [List.all_map, List.all_eq_true]
  intro x _
  rfl
theorem atI_dp {K : PySem.W.Frag} {H : Hp} {vs : List V} {ds : List PyData} {i : Int} {d : PyData} (h : DpAll K H vs ds) (e : atI ds i = some d) : ∃ v, atI vs i = some v ∧ Dp K H v d := by
  unfold atI at e ⊢
  rw [h.length]
  obtain ⟨j, hj, e⟩ := Option.bind_eq_some_iff.mp e
  obtain ⟨x, hx, r⟩ := h.get e
  exact ⟨x, by rw [hj]; exact hx, r⟩

/-- an operator by values, its meaning over data -/
structure OpD (X : Cx) (f : Value → Value → Sem Value) (op : PyData → PyData → Option PyData) : Prop where
  ex : ∃ r, OpR X f r ∧ ∀ Hb H x y dx dy e Q, Dp X.K Hb x dx → Dp X.K Hb y dy → op dx dy = some e → Ot X.K Hb H e Q → r x y H Q
section
variable {X : Cx}
theorem od_addI : OpD X (binaryOp .Add) addI := ⟨_, op_add, fun Hb H x y dx dy e Q h1 h2 ho O => by
  unfold addI at ho; split at ho
  · cases ho; exact ⟨_, _, dp_int h1, dp_int h2, O.now (.int _)⟩
  · cases ho⟩
theorem od_subI : OpD X (binaryOp .Sub) subI := ⟨_, op_sub, fun Hb H x y dx dy e Q h1 h2 ho O => by
  unfold subI at ho; split at ho
  · cases ho; exact ⟨_, _, dp_int h1, dp_int h2, O.now (.int _)⟩
  · cases ho⟩
theorem od_mulI : OpD X (binaryOp .Mult) mulI := ⟨_, op_mul, fun Hb H x y dx dy e Q h1 h2 ho O => by
  unfold mulI at ho; split at ho
  · split at ho
    · rename_i c; cases ho; exact ⟨_, _, dp_int h1, dp_int h2, c, O.now (.int _)⟩
    · cases ho
  · cases ho⟩
theorem od_modI : OpD X (binaryOp .Mod) modI := ⟨_, op_mod, fun Hb H x y dx dy e Q h1 h2 ho O => by
  unfold modI at ho; split at ho
  · split at ho
    · rename_i c; cases ho; exact ⟨_, _, dp_int h1, dp_int h2, c, O.now (.int _)⟩
    · cases ho
  · cases ho⟩
theorem od_divI : OpD X (binaryOp .FloorDiv) divI := ⟨_, op_fdiv, fun Hb H x y dx dy e Q h1 h2 ho O => by
  unfold divI at ho; split at ho
  · split at ho
    · rename_i c; cases ho; exact ⟨_, _, dp_int h1, dp_int h2, c, O.now (.int _)⟩
    · cases ho
  · cases ho⟩
theorem od_addS : OpD X (binaryOp .Add) addS := ⟨_, op_add_str, fun Hb H x y dx dy e Q h1 h2 ho O => by
  unfold addS at ho; split at ho
  · split at ho
    · rename_i c; cases ho; exact ⟨_, _, dp_str h1, dp_str h2, c, O.now (.str _)⟩
    · cases ho
  · cases ho⟩
theorem od_addT : OpD X (binaryOp .Add) addT := ⟨_, op_catT, fun Hb H x y dx dy e Q h1 h2 ho O => by
  unfold addT at ho; split at ho
  · split at ho
    · rename_i c; cases ho
      obtain ⟨a, xs, rfl, s1, r1⟩ := dp_tup h1
      obtain ⟨b, ys, rfl, s2, r2⟩ := dp_tup h2
      refine ⟨a, b, xs, ys, rfl, rfl, sameT O.bs s1, sameT O.bs s2, ?_, ?_, ?_, fun _ p hp => O.newT hp (r1.append r2)⟩
      · rintro rfl; cases r1
      · rw [r1.length, r2.length]; exact c
      · rintro rfl; cases r2
    · cases ho
  · cases ho⟩
theorem od_eq (hu : X.A.units + 64 < cLine) : OpD X (compareOp .Eq) eqD := ⟨_, op_eqD hu, fun Hb H x y dx dy e Q h1 h2 ho O => by
  unfold eqD at ho; split at ho
  · rename_i c; cases ho; exact ⟨_, _, h1.same O.bs, h2.same O.bs, c.1, c.2, O.now (.bl _)⟩
  · cases ho⟩
theorem od_ne (hu : X.A.units + 64 < cLine) : OpD X (compareOp .NotEq) neD := ⟨_, op_neD hu, fun Hb H x y dx dy e Q h1 h2 ho O => by
  unfold neD at ho; split at ho
  · rename_i c; cases ho; exact ⟨_, _, h1.same O.bs, h2.same O.bs, c.1, c.2, O.now (.bl _)⟩
  · cases ho⟩
theorem od_lt : OpD X (compareOp .Lt) ltI := ⟨_, op_lt, fun Hb H x y dx dy e Q h1 h2 ho O => by
  unfold ltI at ho; split at ho
  · cases ho; exact ⟨_, _, dp_int h1, dp_int h2, O.now (.bl _)⟩
  · cases ho⟩
theorem od_le : OpD X (compareOp .LtE) leI := ⟨_, op_le, fun Hb H x y dx dy e Q h1 h2 ho O => by
  unfold leI at ho; split at ho
  · cases ho; exact ⟨_, _, dp_int h1, dp_int h2, O.now (.bl _)⟩
  · cases ho⟩
theorem od_gt : OpD X (compareOp .Gt) gtI := ⟨_, op_gt, fun Hb H x y dx dy e Q h1 h2 ho O => by
  unfold gtI at ho; split at ho
  · cases ho; exact ⟨_, _, dp_int h1, dp_int h2, O.now (.bl _)⟩
  · cases ho⟩
theorem od_ge : OpD X (compareOp .GtE) geI := ⟨_, op_ge, fun Hb H x y dx dy e Q h1 h2 ho O => by
  unfold geI at ho; split at ho
  · cases ho; exact ⟨_, _, dp_int h1, dp_int h2, O.now (.bl _)⟩
  · cases ho⟩
theorem non_of {K : PySem.W.Frag} {H : Hp} {x : V} {d : PyData} (h : Dp K H x d) : decide (x = .non) = (match d with | .none => true | _ => false) := by
  cases h <;> rfl
theorem od_isN : OpD X (compareOp .Is) isN := ⟨_, op_isN, fun Hb H x y dx dy e Q h1 h2 ho O => by
  cases dy with
  | none =>
    refine ⟨dp_non h2, ?_⟩
    rw [non_of h1]
    cases dx <;> (cases ho; exact O.now (.bl _))
  | _ => cases dx <;> cases ho⟩
theorem od_notN : OpD X (compareOp .IsNot) notN := ⟨_, op_notN, fun Hb H x y dx dy e Q h1 h2 ho O => by
  cases dy with
  | none =>
    refine ⟨dp_non h2, ?_⟩
    rw [non_of h1]
    cases dx <;> (cases ho; exact O.now (.bl _))
  | _ => cases dx <;> cases ho⟩
theorem seqD_dp {K : PySem.W.Frag} {Hb H : Hp} {y : V} {d : PyData} {ds : List PyData} (bs : Same Hb H) (h : Dp K Hb y d) (e : seqD d = some ds) : ∃ p xs, y = .ref p ∧ (SqL K H p xs ∨ SqT K H p xs) ∧ DpAll K Hb xs ds := by
  cases h with
  | lst s a => cases e; exact ⟨_, _, rfl, .inl (bs.seq s), a⟩
  | tup s a => cases e; exact ⟨_, _, rfl, .inr (sameT bs s), a⟩
  | _ => cases e
theorem od_in : OpD X (compareOp .In) inS := ⟨_, op_in_seq, fun Hb H x y dx dy e Q h1 h2 ho O => by
  unfold inS at ho; split at ho
  · obtain ⟨ds, hd, ho⟩ := Option.bind_eq_some_iff.mp ho
    obtain ⟨xs, hx, rfl⟩ := Option.map_eq_some_iff.mp ho
    obtain ⟨p, vs, e1, sq, r⟩ := seqD_dp O.bs h2 hd
    have e2 := strsD_map hx
    subst e2
    have e3 := dall_of_strs r
    subst e3
    refine ⟨p, _, e1, sq, ?_, all_flat xs, ?_⟩
    · rw [dp_str h1]; rfl
    · rw [dp_str h1, inV_strs]; exact O.now (.bl _)
  · cases ho⟩
theorem od_nin : OpD X (compareOp .NotIn) ninS := ⟨_, op_notIn_seq, fun Hb H x y dx dy e Q h1 h2 ho O => by
  unfold ninS at ho; split at ho
  · obtain ⟨ds, hd, ho⟩ := Option.bind_eq_some_iff.mp ho
    obtain ⟨xs, hx, rfl⟩ := Option.map_eq_some_iff.mp ho
    obtain ⟨p, vs, e1, sq, r⟩ := seqD_dp O.bs h2 hd
    have e2 := strsD_map hx
    subst e2
    have e3 := dall_of_strs r
    subst e3
    refine ⟨p, _, e1, sq, ?_, all_flat xs, ?_⟩
    · rw [dp_str h1]; rfl
    · rw [dp_str h1, inV_strs]; exact O.now (.bl _)
  · cases ho⟩
theorem od_ninC : OpD X (compareOp .NotIn) ninC := ⟨_, op_notIn_sign, fun Hb H x y dx dy e Q h1 h2 ho O => by
  unfold ninC at ho; split at ho
  · split at ho
    · rename_i x' z c hc
      cases ho
      refine ⟨c, _, ?_, dp_str h2, O.now (.bl _)⟩
      rw [dp_str h1]
      exact congrArg V.str (ext_tl (by rw [tl, hc]))
    · cases ho
  · cases ho⟩

variable {a b c e : Expr} {es rest : List Expr} {fa fb fc : En → Option PyData} {ga : En → Option (List PyData)} {pos : Pos}
theorem d_op {op : Operator} {o : PyData → PyData → Option PyData} (h : OpD X (binaryOp op) o) (ha : PE X a (tE X.K fa)) (hb : PE X b (tE X.K fb)) : PE X (.BinOp a op b pos) (tE X.K (e2 o fa fb)) := by
  obtain ⟨r, hr, i⟩ := h.ex
  exact PE.imp (pe_op hr ha hb) (rd2 i)
theorem d_cmp {op : CmpOp} {o : PyData → PyData → Option PyData} (h : OpD X (compareOp op) o) (ha : PE X a (tE X.K fa)) (hb : PE X b (tE X.K fb)) (hm : behindInMarks op b = false := by first | exact nomark _ | rfl) : PE X (.Compare a [op] [b] pos) (tE X.K (e2 o fa fb)) := by
  obtain ⟨r, hr, i⟩ := h.ex
  exact PE.imp (pe_cmpR hr ha hb hm) (rd2 i)
theorem dt_cmp {op : CmpOp} {o : PyData → PyData → Option PyData} (h : OpD X (compareOp op) o) (ha : PE X a (tE X.K fa)) (hb : PE X b (tE X.K fb)) (hm : behindInMarks op b = false := by first | exact nomark _ | rfl) : PT X (.Compare a [op] [b] pos) (tT X.K (cE (e2 o fa fb))) := by
  obtain ⟨r, hr, i⟩ := h.ex
  exact dt_of (pt_cmpR hr ha hb hm) (rd2 i)
/-- a < b < c: b is asked once -/
def eChain (o o' : PyData → PyData → Option PyData) (fa fb fc : En → Option PyData) : En → Option PyData := fun δ =>
  (fa δ).bind fun x => (fb δ).bind fun y => (o x y).bind fun z => (asB z).bind fun k => if k = true then (fc δ).bind fun w => o' y w else some (.bool false)
theorem rd_chain {K : PySem.W.Frag} {r r' : R2} {o o' : PyData → PyData → Option PyData} (i : ∀ Hb H x y dx dy e Q, Dp K Hb x dx → Dp K Hb y dy → o dx dy = some e → Ot K Hb H e Q → r x y H Q)
    (i' : ∀ Hb H x y dx dy e Q, Dp K Hb x dx → Dp K Hb y dy → o' dx dy = some e → Ot K Hb H e Q → r' x y H Q) :
    ∀ σ H Q, tE K (eChain o o' fa fb fc) σ H Q → tChain r r' (tE K fa) (tE K fb) (tE K fc) σ H Q := fun σ H Q h => by
  obtain ⟨Hb, δ, S, e, he, O⟩ := h
  obtain ⟨x, hx, he⟩ := Option.bind_eq_some_iff.mp he
  obtain ⟨y, hy, he⟩ := Option.bind_eq_some_iff.mp he
  obtain ⟨z, hz, he⟩ := Option.bind_eq_some_iff.mp he
  obtain ⟨k, hk, he⟩ := Option.bind_eq_some_iff.mp he
  refine ⟨Hb, δ, S, x, hx, S.bs, fun v H1 s1 hv => ?_⟩
  have S1 := S.grow s1
  refine ⟨_, δ, S1, y, hy, S1.bs, fun u H2 s2 hu => ?_⟩
  have hv2 := hv.same (sub_ex (H' := H2) S1.bs)
  have S2 := S1.grow s2
  rw [ex_trans s1 s2] at hv2 hu S2
  refine i _ H2 v u x y z _ hv2 hu hz ⟨S2.bs, fun t H3 s3 ht => ?_⟩
  unfold asB at hk
  split at hk
  · cases hk
    refine ⟨k, dp_bl ht, ?_⟩
    have S3 := S2.grow s3
    have hu3 := hu.same (sub_ex (H' := H3) S2.bs)
    rw [ex_trans (s1.trans s2) s3] at S3 hu3
    cases k with
    | false => cases he; exact O.go _ H3 ((s1.trans s2).trans s3) (.bl false)
    | true =>
      have he' : ((fc δ).bind fun w => o' y w) = some e := he
      obtain ⟨w, hw, he'⟩ := Option.bind_eq_some_iff.mp he'
      refine ⟨_, δ, S3, w, hw, S3.bs, fun t4 H4 s4 h4 => ?_⟩
      have S4 := S3.grow s4
      have hu4 := hu3.same (sub_ex (H' := H4) S3.bs)
      rw [ex_trans ((s1.trans s2).trans s3) s4] at h4 S4 hu4
      exact i' _ H4 u t4 y w e Q hu4 h4 he' ⟨S4.bs, fun t5 H5 s5 h5 => O.go t5 H5 (((s1.trans s2).trans s3).trans (s4.trans s5)) (by rw [ex_trans (((s1.trans s2).trans s3).trans s4) s5] at h5; exact h5)⟩
  · cases hk
theorem d_chain {op op' : CmpOp} {o o' : PyData → PyData → Option PyData} (h : OpD X (compareOp op) o) (h' : OpD X (compareOp op') o') (ha : PE X a (tE X.K fa)) (hb : PE X b (tE X.K fb)) (hc : PE X c (tE X.K fc))
    (hm : lastMarks [op, op'] [b, c] = false := by with_unfolding_all rfl) : PE X (.Compare a [op, op'] [b, c] pos) (tE X.K (eChain o o' fa fb fc)) := by
  obtain ⟨r, hr, i⟩ := h.ex
  obtain ⟨r', hr', i'⟩ := h'.ex
  exact PE.imp (pe_chain hr hr' ha hb hc hm) (rd_chain i i')
theorem dt_chain {op op' : CmpOp} {o o' : PyData → PyData → Option PyData} (h : OpD X (compareOp op) o) (h' : OpD X (compareOp op') o') (ha : PE X a (tE X.K fa)) (hb : PE X b (tE X.K fb)) (hc : PE X c (tE X.K fc))
    (hm : lastMarks [op, op'] [b, c] = false := by with_unfolding_all rfl) : PT X (.Compare a [op, op'] [b, c] pos) (tT X.K (cE (eChain o o' fa fb fc))) := by
  obtain ⟨r, hr, i⟩ := h.ex
  obtain ⟨r', hr', i'⟩ := h'.ex
  exact dt_of (pt_chain hr hr' ha hb hc hm) (rd_chain i i')

/-! ### items, slices, displays -/
theorem d_ix (ha : PE X a (tE X.K fa)) (hb : PE X b (tE X.K fb)) (hs : PlainIx b := by exact fun _ _ => rfl) : PE X (.Subscript a b pos) (tE X.K (e2 ixD fa fb)) := PE.imp (pe_ix ix_seq ha hb hs) (rd2 fun Hb H x y dx dy e Q h1 h2 ho O => by
  unfold ixD at ho
  split at ho
  · obtain ⟨p, xs, rfl, s, r⟩ := dp_tup h1
    obtain ⟨v, hv, hd⟩ := atI_dp r ho
    exact .inr (.inl ⟨p, xs, _, v, rfl, dp_int h2, sameT O.bs s, hv, O.now hd⟩)
  · obtain ⟨p, xs, rfl, s, r⟩ := dp_lst h1
    obtain ⟨v, hv, hd⟩ := atI_dp r ho
    exact .inl ⟨p, xs, _, v, rfl, dp_int h2, O.bs.seq s, hv, O.now hd⟩
  · split at ho
    · obtain ⟨c, hc, rfl⟩ := Option.map_eq_some_iff.mp ho
      rename_i z
      exact .inr (.inr ⟨_, _, c, dp_str h1, dp_int h2, z, hc, O.now (.str _)⟩)
    · cases ho
  · cases ho)
/-- an end of a slice -/
def tP (K : PySem.W.Frag) (f : En → Option (Option Int)) : TO := fun σ H Q => ∃ Hb δ, Sta K Hb H σ δ ∧ ∃ o, f δ = some o ∧ ∀ H', Same H H' → Q o H'
def pN : En → Option (Option Int) := fun _ => some none
def asI : PyData → Option Int | .int i => some i | _ => none
def pE (f : En → Option PyData) : En → Option (Option Int) := fun δ => ((f δ).bind asI).map some
theorem dp_none : PO X none (tP X.K pN) := ⟨fun pins s σ H Q I q => po_none.run pins s σ H Q I (by
  obtain ⟨Hb, δ, S, o, ho, O⟩ := q
  cases ho
  exact O H (Same.refl H))⟩
theorem dp_some (h : PE X e (tE X.K fa)) : PO X (some e) (tP X.K (pE fa)) := ⟨fun pins s σ H Q I q => (po_some h).run pins s σ H Q I (by
  obtain ⟨Hb, δ, S, o, ho, O⟩ := q
  obtain ⟨i, hi, rfl⟩ := Option.map_eq_some_iff.mp ho
  obtain ⟨d, hd, hi⟩ := Option.bind_eq_some_iff.mp hi
  refine ⟨Hb, δ, S, d, hd, S.bs, fun v H1 s hv => ?_⟩
  unfold asI at hi
  split at hi
  · cases hi; exact ⟨_, dp_int hv, O H1 s⟩
  · cases hi)⟩
def cutL {α : Type} (xs : List α) (lo hi : Option Int) : List α := (xs.drop (HT.sIx xs.length 0 lo)).take (HT.sIx xs.length xs.length hi - HT.sIx xs.length 0 lo)
def cutD : PyData → Option Int → Option Int → Option PyData
  | .tuple ds, lo, hi => if HT.sIx ds.length 0 lo = 0 ∧ HT.sIx ds.length ds.length hi = ds.length then none else some (.tuple (cutL ds lo hi))
  | .list ds, lo, hi => some (.list (cutL ds lo hi))
  | .str z, lo, hi => if z.length ≤ sizeLine then some (.str (cutS z lo hi)) else none
  | _, _, _ => none
def eSl (f : En → Option PyData) (l h : En → Option (Option Int)) : En → Option PyData := fun δ => (f δ).bind fun x => (l δ).bind fun lo => (h δ).bind fun hi => cutD x lo hi
theorem cut_dp {K : PySem.W.Frag} {H : Hp} {vs : List V} {ds : List PyData} {lo hi : Option Int} (h : DpAll K H vs ds) : DpAll K H (cutV vs lo hi) (cutL ds lo hi) := by
  unfold cutV cutL
  rw [h.length]
  exact (h.drop _).take _
theorem d_sl {p2 : Pos} {lo hi : Option Expr} {fl fh : En → Option (Option Int)} (ha : PE X a (tE X.K fa)) (hl : PO X lo (tP X.K fl)) (hh : PO X hi (tP X.K fh)) : PE X (.Subscript a (.Slice lo hi none p2) pos) (tE X.K (eSl fa fl fh)) :=
  PE.imp (pe_slice (sl_list.or (sl_tup.or sl_str)) ha hl hh) fun σ H Q h => by
    obtain ⟨Hb, δ, S, e, he, O⟩ := h
    obtain ⟨x, hx, he⟩ := Option.bind_eq_some_iff.mp he
    obtain ⟨y, hy, he⟩ := Option.bind_eq_some_iff.mp he
    obtain ⟨z, hz, he⟩ := Option.bind_eq_some_iff.mp he
    refine ⟨Hb, δ, S, x, hx, S.bs, fun v H1 s1 hv => ?_⟩
    have S1 := S.grow s1
    refine ⟨_, δ, S1, y, hy, fun H2 s2 => ?_⟩
    have hv2 := hv.same (sub_ex (H' := H2) S1.bs)
    have S2 := S1.grow s2
    rw [ex_trans s1 s2] at hv2 S2
    refine ⟨_, δ, S2, z, hz, fun H3 s3 => ?_⟩
    have hv3 := hv2.same (sub_ex (H' := H3) S2.bs)
    have S3 := S2.grow s3
    rw [ex_trans (s1.trans s2) s3] at hv3 S3
    have O3 : Ot X.K (ex Hb H H3) H3 e Q := ⟨S3.bs, fun t H4 s4 h4 => O.go t H4 (((s1.trans s2).trans s3).trans s4) (by rw [ex_trans ((s1.trans s2).trans s3) s4] at h4; exact h4)⟩
    unfold cutD at he
    split at he
    · split at he
      · cases he
      · rename_i c
        cases he
        obtain ⟨p, xs, rfl, sq, r⟩ := dp_tup hv3
        refine .inr (.inl ⟨p, xs, rfl, sameT O3.bs sq, ?_, fun q hq => O3.newT hq (cut_dp r)⟩)
        rw [r.length]; exact c
    · cases he
      obtain ⟨p, xs, rfl, sq, r⟩ := dp_lst hv3
      exact .inl ⟨p, xs, rfl, O3.bs.seq sq, fun q hq => O3.newL hq (cut_dp r)⟩
    · split at he
      · rename_i c
        cases he
        exact .inr (.inr ⟨_, dp_str hv3, c, O3.now (.str _)⟩)
      · cases he
    · cases he
theorem rdAt {K : PySem.W.Frag} {op : List PyData → Option PyData} {t : TE} (hr : ∀ σ H Q, tA K ga σ H (fun xs H1 => ∃ Hb ds e, Same Hb H1 ∧ DpAll K Hb xs ds ∧ op ds = some e ∧ Ot K Hb H1 e Q) → t σ H Q) : ∀ σ H Q, tE K (eA op ga) σ H Q → t σ H Q := fun σ H Q h => by
  obtain ⟨Hb, δ, S, d, hd, O⟩ := tE_seqA (f := ga) (k := fun _ x => op x) h
  refine hr σ H Q ⟨Hb, δ, S, d, hd, fun v H1 s hv => ?_⟩
  obtain ⟨Hb1, δ1, d1, S1, h1, e, he, O1⟩ := O v H1 s hv
  exact ⟨Hb1, d1, e, S1.bs, h1, he, O1⟩
theorem tA_mono {K : PySem.W.Frag} {σ : L2.St} {H : Hp} {Q Q' : List V → Hp → Prop} (h : tA K ga σ H Q) (i : ∀ xs H1, Q xs H1 → Q' xs H1) : tA K ga σ H Q' := by
  obtain ⟨Hb, δ, S, d, hd, O⟩ := h
  exact ⟨Hb, δ, S, d, hd, fun v H1 s hv => i _ _ (O v H1 s hv)⟩
theorem d_tup {x1 : Nat} (h : PA X es (tA X.K ga)) : PE X (.Tuple es x1 pos) (tE X.K (eA tupD ga)) := PE.imp (pe_tup h) (rdAt fun σ H Q q => tA_mono q fun xs H1 ⟨Hb, ds, e, bs, r, he, O⟩ => by
  unfold tupD at he
  split at he
  · rename_i c
    cases he
    exact ⟨by rw [r.length]; exact c, fun p hp => O.newT hp r⟩
  · cases he)
theorem d_lst (h : PA X es (tA X.K ga)) : PE X (.List es pos) (tE X.K (eA lstD ga)) := PE.imp (pe_lst h) (rdAt fun σ H Q q => tA_mono q fun xs H1 ⟨Hb, ds, e, bs, r, he, O⟩ => by
  unfold lstD at he
  split at he
  · rename_i c
    cases he
    exact ⟨by rw [r.length]; exact c, fun p hp => O.newL hp r⟩
  · cases he)

/-! ### calls of built-ins -/
theorem tE_mono {K : PySem.W.Frag} {σ : L2.St} {H : Hp} {Q Q' : VK} (h : tE K fa σ H Q) (i : ∀ xs H1, Q xs H1 → Q' xs H1) : tE K fa σ H Q' := by
  obtain ⟨Hb, δ, S, d, hd, O⟩ := h
  exact ⟨Hb, δ, S, d, hd, O.bs, fun v H1 s hv => i _ _ (O.go v H1 s hv)⟩
theorem starEach1 {env : Env} : starEach [a] env = (false, eval a env) :: starEach [] env → starEach (a :: []) env = (false, eval a env) :: starEach [] env := id
/-- f(a), f a built-in: by what it does with one value -/
theorem d_b1 {x : Str} {id : String} {r : List V → Hp → VK → Prop} {op : PyData → Option PyData} {p : Pos} (hc : CallR X (.builtin id) r) (i : ∀ Hb H v dx e Q, Dp X.K Hb v dx → op dx = some e → Ot X.K Hb H e Q → r [v] H Q)
    (hg : Gl X x) (hm : X.mg x = none) (hv : bootBuiltins x = some (.builtin id)) (ha : PE X a (tE X.K fa)) (hs : starEach (a :: []) X.env = (false, eval a X.env) :: starEach [] X.env := by rfl)
    (hn : x ≠ "__name__" := by decide) (hdb : (x == ("__debug__" : Str)) = false := by decide) (hpl : (backTo pos (starEach [] X.env)).any (·.1) = false := by rfl) : PE X (.Call (.Name x p) [a] [] pos) (tE X.K (e1 op fa)) :=
  PE.imp (pe_callB hc hg hm hv (pa_cons ha pa_nil hs) hn hdb hs hpl) (rd1 (r := fun v H Q => r [v] H Q) i)
theorem d_t1 {x : Str} {id : String} {r : List V → Hp → VK → Prop} {op : PyData → Option PyData} {p : Pos} (hc : CallR X (.type id) r) (i : ∀ Hb H v dx e Q, Dp X.K Hb v dx → op dx = some e → Ot X.K Hb H e Q → r [v] H Q)
    (hg : Gl X x) (hm : X.mg x = none) (hv : bootBuiltins x = some (.type id)) (ha : PE X a (tE X.K fa)) (hs : starEach (a :: []) X.env = (false, eval a X.env) :: starEach [] X.env := by rfl)
    (hn : x ≠ "__name__" := by decide) (hdb : (x == ("__debug__" : Str)) = false := by decide) (hpl : (backTo pos (starEach [] X.env)).any (·.1) = false := by rfl) : PE X (.Call (.Name x p) [a] [] pos) (tE X.K (e1 op fa)) :=
  PE.imp (pe_callTy hc hg hm hv (pa_cons ha pa_nil hs) hn hdb hs hpl) (rd1 (r := fun v H Q => r [v] H Q) i)
end
end SQ
/-! ## SqD3 -/
set_option Elab.async false
set_option linter.all false
set_option maxRecDepth 100000
set_option maxHeartbeats 4000000
namespace SQ
open PySem PySem.Spec L2 TL

/-! ### built-ins -/
section
variable {X : Cx} {a b c e : Expr} {es rest : List Expr} {fa fb fc : En → Option PyData} {ga : En → Option (List PyData)} {pos : Pos}
theorem d_len {p : Pos} (hg : Gl X "len") (hm : X.mg "len" = none) (ha : PE X a (tE X.K fa)) (hs : starEach (a :: []) X.env = (false, eval a X.env) :: starEach [] X.env := by rfl) (hpl : (backTo pos (starEach [] X.env)).any (·.1) = false := by rfl) :
    PE X (.Call (.Name "len" p) [a] [] pos) (tE X.K (e1 lenD fa)) := d_b1 (call_len_seq.or call_len_str) (fun Hb H v dx e Q h ho O => by
  unfold lenD at ho
  split at ho
  · cases ho
    obtain ⟨p, xs, rfl, s, r⟩ := dp_tup h
    rw [← r.length] at O
    exact .inl ⟨p, xs, rfl, .inr (sameT O.bs s), O.now (.int _)⟩
  · cases ho
    obtain ⟨p, xs, rfl, s, r⟩ := dp_lst h
    rw [← r.length] at O
    exact .inl ⟨p, xs, rfl, .inl (O.bs.seq s), O.now (.int _)⟩
  · split at ho
    · rename_i z c
      cases ho
      exact .inr ⟨_, congrArg (fun q => [q]) (dp_str h), c, O.now (.int _)⟩
    · cases ho
  · cases ho) hg hm boot_len ha hs (by decide) (by decide) hpl
theorem d_abs {p : Pos} (hg : Gl X "abs") (hm : X.mg "abs" = none) (ha : PE X a (tE X.K fa)) (hs : starEach (a :: []) X.env = (false, eval a X.env) :: starEach [] X.env := by rfl) (hpl : (backTo pos (starEach [] X.env)).any (·.1) = false := by rfl) :
    PE X (.Call (.Name "abs" p) [a] [] pos) (tE X.K (e1 absD fa)) := d_b1 call_abs (fun Hb H v dx e Q h ho O => by
  unfold absD at ho
  split at ho
  · cases ho
    exact ⟨_, congrArg (fun q => [q]) (dp_int h), O.now (.int _)⟩
  · cases ho) hg hm (by decide +kernel) ha hs (by decide) (by decide) hpl
theorem d_all {p : Pos} (hc : X.calm = true) (hg : Gl X "all") (hm : X.mg "all" = none) (ha : PE X a (tE X.K fa)) (hs : starEach (a :: []) X.env = (false, eval a X.env) :: starEach [] X.env := by rfl) (hpl : (backTo pos (starEach [] X.env)).any (·.1) = false := by rfl) :
    PE X (.Call (.Name "all" p) [a] [] pos) (tE X.K (e1 allD fa)) := d_b1 (cr_all hc) (fun Hb H v dx e Q h ho O => by
  unfold allD at ho
  split at ho
  · obtain ⟨bs, hb, rfl⟩ := Option.map_eq_some_iff.mp ho
    have e2 := blsD_map hb
    subst e2
    obtain ⟨p, xs, rfl, s, r⟩ := dp_lst h
    have e3 := dall_of_bls r
    subst e3
    exact ⟨p, bs, rfl, O.bs.seq s, O.now (.bl _)⟩
  · cases ho) hg hm (by decide +kernel) ha hs (by decide) (by decide) hpl
theorem d_int1 {p : Pos} (hg : Gl X "int") (hm : X.mg "int" = none) (ha : PE X a (tE X.K fa)) (hs : starEach (a :: []) X.env = (false, eval a X.env) :: starEach [] X.env := by rfl) (hpl : (backTo pos (starEach [] X.env)).any (·.1) = false := by rfl) :
    PE X (.Call (.Name "int" p) [a] [] pos) (tE X.K (e1 intD fa)) := d_t1 (call_int1.or call_int_str) (fun Hb H v dx e Q h ho O => by
  unfold intD at ho
  split at ho
  · cases ho
    exact .inl (.inr ⟨_, congrArg (fun q => [q]) (dp_bl h), O.now (.int _)⟩)
  · split at ho
    · rename_i c
      obtain ⟨n, hn, rfl⟩ := Option.map_eq_some_iff.mp ho
      exact .inr ⟨_, n, congrArg (fun q => [q]) (dp_str h), hn, c, O.now (.int _)⟩
    · cases ho
  · cases ho) hg hm (by decide +kernel) ha hs (by decide) (by decide) hpl
theorem d_tupleOf {p : Pos} (hg : Gl X "tuple") (hm : X.mg "tuple" = none) (ha : PE X a (tE X.K fa)) (hs : starEach [a] X.env = (false, eval a X.env) :: starEach [] X.env := by rfl) :
    PE X (.Call (.Name "tuple" p) [a] [] pos) (tE X.K (e1 tupleD fa)) := PE.imp (pe_tupleOf hg hm ha hs) (rd1 (r := kTup X.K) fun Hb H v dx e Q h ho O => by
  unfold tupleD at ho
  split at ho
  · cases ho
    obtain ⟨p, xs, rfl, s, r⟩ := dp_lst h
    exact .inl ⟨p, xs, rfl, O.bs.seq s, fun q hq => O.newT hq r⟩
  · cases ho
    obtain ⟨p, xs, rfl, s, r⟩ := dp_tup h
    exact .inr ⟨p, xs, rfl, sameT O.bs s, O.now (.tup s r)⟩
  · cases ho)
theorem d_max {p : Pos} (hc : X.calm = true) (hg : Gl X "max") (hm : X.mg "max" = none) (ha : PA X (e :: es) (tA X.K ga)) (hs : starEach (e :: es) X.env = (false, eval e X.env) :: starEach es X.env := by rfl) (hpl : (backTo pos (starEach es X.env)).any (·.1) = false := by rfl) :
    PE X (.Call (.Name "max" p) (e :: es) [] pos) (tE X.K (eA maxD ga)) := PE.imp (pe_callB (call_max2 hc) hg hm (by decide +kernel) ha (by decide) (by decide) hs hpl) (rdA fun Hb H xs ds e Q h ho O => by
  unfold maxD at ho
  split at ho
  · cases ho
    cases h with
    | cons h1 h2 =>
      cases h2 with
      | cons h2 h3 =>
        cases h3
        rw [dp_int h1, dp_int h2]
        exact ⟨_, _, rfl, O.now (.int _)⟩
  · cases ho)
theorem tyD_ok {K : PySem.W.Frag} {Hb H : Hp} {v : V} {d : PyData} {T : String} (bs : Same Hb H) (h : Dp K Hb v d) (e : tyD d = some T) : TyX K H v (.type T) := by
  cases h with
  | non => cases e; exact .base .non
  | bl b => cases e; exact .base (.bl b)
  | int b => cases e; exact .base (.int b)
  | str b => cases e; exact .base (.str b)
  | lst s a =>
    cases e
    rcases s with (s | ⟨o, s⟩) | ⟨o, its, n, h1, h2, _⟩
    · exact .base (.lst (bs _ _ s))
    · exact .base (.frz (bs _ _ s))
    · exact .kList h1 h2
  | tup s a =>
    cases e
    rcases s with (s | ⟨o, s⟩) | ⟨o, its, n, h1, h2, _⟩
    · exact .base (.tup (bs _ _ s))
    · exact .fTuple (bs _ _ s)
    · exact .kTuple h1 h2
theorem d_isi {T : String} {p : Pos} {b : Expr} (hb : PE X b (tC (.ty T))) (hg : Gl X "isinstance") (hm : X.mg "isinstance" = none) (ha : PE X a (tE X.K fa)) (hs : starEach (a :: b :: []) X.env = (false, eval a X.env) :: starEach (b :: []) X.env := by rfl)
    (hs2 : starEach (b :: []) X.env = (false, eval b X.env) :: starEach [] X.env := by rfl) (hpl : (backTo pos (starEach [b] X.env)).any (·.1) = false := by rfl) :
    PE X (.Call (.Name "isinstance" p) [a, b] [] pos) (tE X.K (e1 (isI T) fa)) :=
  PE.imp (pe_callB call_isi hg hm (by decide +kernel) (pa_cons ha (pa_cons hb pa_nil hs2) hs) (by decide) (by decide) hs hpl) (rd1 (r := fun v H Q => rIsi X.K [v, .ty T] H Q) fun Hb H v dx e Q h ho O => by
  unfold isI at ho
  obtain ⟨t, ht, ho⟩ := Option.bind_eq_some_iff.mp ho
  obtain ⟨k, hk, rfl⟩ := Option.map_eq_some_iff.mp ho
  exact ⟨v, .ty T, .type t, .type T, k, rfl, .ty T, tyD_ok O.bs h ht, kit_ty hk, O.now (.bl _)⟩)
theorem pe_ty {T : String} {x : Str} {pos : Pos} (hg : Gl X x) (hm : X.mg x = none) (hv : bootBuiltins x = some (.type T)) (hn : x ≠ "__name__" := by decide) (hd : (x == ("__debug__" : Str)) = false := by decide) : PE X (.Name x pos) (tC (.ty T)) := pe_bltn hg hm hv rfl hn hd
theorem d_split {apos : Pos} (ha : PE X a (tE X.K fa)) (hb : PE X b (tE X.K fb)) (hs : starEach [b] X.env = [(false, eval b X.env)] := by rfl) (hbase : attributeBase a "split" X.env (eval a X.env) = eval a X.env := by rfl) (hline : (apos.endLine == pos.line) = true := by rfl) :
    PE X (.Call (.Attribute a "split" apos) [b] [] pos) (tE X.K (e2 splitD fa fb)) := PE.imp (pe_split ha hb hs hbase hline) fun σ H Q h => by
  obtain ⟨Hb, δ, S, d, hd, O⟩ := tE_seq (f := fa) (k := fun δ x => (fb δ).bind fun y => splitD x y) h
  refine ⟨Hb, δ, S, d, hd, O.bs, fun v H1 s hv => ?_⟩
  obtain ⟨Hb1, δ1, d1, S1, h1, e, he, O1⟩ := O.go v H1 s hv
  obtain ⟨d2, hd2, ho⟩ := Option.bind_eq_some_iff.mp he
  unfold splitD at ho
  split at ho
  · split at ho
    · rename_i x y c
      obtain ⟨c1, c2, c3⟩ := c
      cases ho
      refine ⟨⟨_, dp_str h1⟩, Hb1, δ1, S1, _, hd2, S1.bs, fun v2 H2 s2 hv2 => ?_⟩
      have O2 : Ot X.K (ex Hb1 H1 H2) H2 _ Q := ⟨ex_sub S1.bs s2, fun v' H3 s3 h3 => O1.go v' H3 (s2.trans s3) (by rw [ex_trans s2 s3] at h3; exact h3)⟩
      have ny : tl y ≠ [] := fun q => by rw [q] at c2; cases c2
      refine ⟨x, y, dp_str h1, congrArg (fun q => [q]) (dp_str hv2), ?_, c3, fun p hp => O2.newL hp ?_⟩
      · rw [beq_eq_false_iff_ne, len_tl]
        intro q
        exact ny (List.length_eq_zero_iff.mp q)
      · have e2 : (spl (tl y) 0 [] (tl x)).map (fun l => PyData.str ⟨l.toArray⟩) = (PySem.Txt.split x y).map PyData.str := by
          rw [← split_spl x y ny (kind_ok c1), List.map_map]
          refine List.map_congr_left fun z _ => ?_
          show PyData.str ⟨(tl z).toArray⟩ = PyData.str z
          rw [mk_tl]
        rw [e2]
        exact dall_strs
    · cases ho
  · cases ho
end

/-! ### own defs that raise nothing -/
def spD (K : PySem.W.Frag) (n : Nat) (G : List PyData → Option PyData) : Sp := fun vs H Q _ => ∃ Hb ds, DpAll K Hb vs ds ∧ ds.length = n ∧ ∃ d, G ds = some d ∧ Ot K Hb H d Q
theorem spD_len {K : PySem.W.Frag} {n : Nat} {G : List PyData → Option PyData} : ∀ vs H Q E, spD K n G vs H Q E → vs.length = n := fun vs H Q E ⟨Hb, ds, h, hn, _⟩ => by rw [h.length, hn]
/-- the function for n arguments -/
def gN (n : Nat) (G : List PyData → Option PyData) : List PyData → Option PyData := fun ds => if ds.length = n then G ds else none
section
variable {X : Cx} {a b c e : Expr} {es rest : List Expr} {fa fb fc : En → Option PyData} {ga : En → Option (List PyData)} {pos : Pos}
theorem d_call {k n : Nat} {f : Addr} {fd : FuncData} {ps : List Str} {G : List PyData → Option PyData} {x : Str} {p : Pos} (F : FnOk X.prog X.w X.K X.mg X.base CX0 k f fd ps (spD X.K n G)) (hr : Room k X.A) (hg : Gl X x) (hm : X.mg x = some (.ref f)) (hk : PySem.W.keepIn X.K (.ref f) = true)
    (hb : Binds X.K fd ps []) (ha : PA X (e :: es) (tA X.K ga)) (hdb : (x == ("__debug__" : Str)) = false := by decide) (he : starEach (e :: es) X.env = (false, eval e X.env) :: starEach es X.env := by rfl) (hpl : (backTo pos (starEach es X.env)).any (·.1) = false := by rfl) :
    PE X (.Call (.Name x p) (e :: es) [] pos) (tE X.K (eA (gN n G) ga)) := PE.imp (pe_call F hr hg hm hk hb .nil pass0 ha hdb he hpl) (rdAt fun σ H Q q => tA_mono q fun xs H1 ⟨Hb, ds, e, bs, r, he, O⟩ => by
  unfold gN at he
  split at he
  · rename_i c
    rw [List.append_nil]
    exact ⟨Hb, ds, r, c, e, he, O⟩
  · cases he)
end

/-! ### statements -/
inductive Res where
  | nx (δ : En)
  | rt (d : PyData)
  | ex (t : Nat)
/-- Hb0, H0: the def's entry -/
structure Stt (K : PySem.W.Frag) (Hb0 H0 Hb H : Hp) (σ : L2.St) (δ : En) : Prop where
  sta : Sta K Hb H σ δ
  s0 : Same Hb0 H0
  b0 : Same H0 H
  bb : Same Hb (ex Hb0 H0 H)
  fr : ∀ (i : Nat) (xs : List PyData) (a : Addr), δ[i]? = some (Sl.o xs) → σ[i]? = some (some (V.ref a)) → H0 a = none
section
variable {K : PySem.W.Frag} {Hb0 H0 Hb H H' : Hp} {σ : L2.St} {δ : En} {p : Addr} {o : HO}
theorem Stt.bs (S : Stt K Hb0 H0 Hb H σ δ) : Same Hb H := S.sta.bs
theorem ex_mono (b0 : Same H0 H) (bb : Same Hb (ex Hb0 H0 H)) (s : Same H H') : Same (ex Hb H H') (ex Hb0 H0 H') := fun b u e => by
  cases q : H b with
  | some z =>
    rw [ex_old (by rw [q]; rfl)] at e
    have e2 := bb b u e
    cases q0 : H0 b with
    | some z0 =>
      rw [ex_old (by rw [q0]; rfl)] at e2 ⊢
      exact e2
    | none =>
      rw [ex_new q0] at e2 ⊢
      exact s b u e2
  | none =>
    rw [ex_new q] at e
    rw [ex_new (b0.free q)]
    exact e
theorem Stt.grow (S : Stt K Hb0 H0 Hb H σ δ) (s : Same H H') : Stt K Hb0 H0 (ex Hb H H') H' σ δ :=
  ⟨S.sta.grow s, S.s0, S.b0.trans s, ex_mono S.b0 S.bb s, S.fr⟩
theorem set_lt {α : Type} {l : List α} {i : Nat} {x y : α} (h : (l.set i x)[i]? = some y) : i < l.length := by
  have := (List.getElem?_eq_some_iff.mp h).1
  simpa using this
/-- slot i holds data -/
theorem Sta.set (S : Sta K Hb H σ δ) {i : Nat} {v : V} {d : PyData} (h : Dp K Hb v d) : Sta K Hb H (σ.set i (some v)) (δ.set i (.d d)) where
  bs := S.bs
  len := by rw [List.length_set, List.length_set]; exact S.len
  da := fun j x e => by
    rcases getElem?_set' e with ⟨rfl, q⟩ | ⟨ne, q⟩
    · cases q
      have hl := set_lt e
      exact ⟨v, by rw [List.getElem?_set_self (by rw [S.len]; exact hl)], h⟩
    · obtain ⟨w, h1, h2⟩ := S.da j x q
      exact ⟨w, by rw [List.getElem?_set_ne ne]; exact h1, h2⟩
  ow := fun j x e => by
    rcases getElem?_set' e with ⟨rfl, q⟩ | ⟨ne, q⟩
    · cases q
    · obtain ⟨a, vs, h1, h2, h3, h4⟩ := S.ow j x q
      exact ⟨a, vs, by rw [List.getElem?_set_ne ne]; exact h1, h2, h3, h4⟩
  dj := fun j k xs ys a e1 e2 e3 e4 => by
    rcases getElem?_set' e1 with ⟨rfl, q⟩ | ⟨ne, q⟩
    · cases q
    · rcases getElem?_set' e2 with ⟨rfl, q2⟩ | ⟨ne2, q2⟩
      · cases q2
      · rw [List.getElem?_set_ne ne] at e3
        rw [List.getElem?_set_ne ne2] at e4
        exact S.dj j k xs ys a q q2 e3 e4
  bk := bk_set S.bk (fun C kn q => by cases q) (Same.refl _)
theorem Stt.set (S : Stt K Hb0 H0 Hb H σ δ) {i : Nat} {v : V} {d : PyData} (h : Dp K Hb v d) : Stt K Hb0 H0 Hb H (σ.set i (some v)) (δ.set i (.d d)) :=
  ⟨S.sta.set h, S.s0, S.b0, S.bb, fun j xs a e1 e2 => by
    rcases getElem?_set' e1 with ⟨rfl, q⟩ | ⟨ne, q⟩
    · cases q
    · rw [List.getElem?_set_ne ne] at e2
      exact S.fr j xs a q e2⟩
/-- a list of one's own is new in slot i -/
theorem Stt.own (S : Stt K Hb0 H0 Hb H σ δ) {i : Nat} {vs : List V} {xs : List PyData} (hp : H p = none) (h : DpAll K Hb vs xs) : Stt K Hb0 H0 Hb (upd H p (.lst vs)) (σ.set i (some (.ref p))) (δ.set i (.o xs)) := by
  have hs : Same H (upd H p (.lst vs)) := same_upd hp
  have hbp := sub_none S.bs hp
  have nof : ∀ (j : Nat) (ys : List PyData), δ[j]? = some (Sl.o ys) → σ[j]? ≠ some (some (V.ref p)) := fun j ys e q => by
    obtain ⟨a, ws, h1, _, h3, _⟩ := S.sta.ow j ys e
    rw [q] at h1
    cases h1
    rw [hp] at h3; cases h3
  refine ⟨⟨S.bs.trans hs, by rw [List.length_set, List.length_set]; exact S.sta.len, fun j x e => ?_, fun j x e => ?_, fun j k ys zs a e1 e2 e3 e4 => ?_, bk_set S.sta.bk (fun C kn q => by cases q) (Same.refl _)⟩, S.s0, S.b0.trans hs, fun b u e => ?_, fun j ys a e1 e2 => ?_⟩
  · rcases getElem?_set' e with ⟨rfl, q⟩ | ⟨ne, q⟩
    · cases q
    · obtain ⟨w, h1, h2⟩ := S.sta.da j x q
      exact ⟨w, by rw [List.getElem?_set_ne ne]; exact h1, h2⟩
  · rcases getElem?_set' e with ⟨rfl, q⟩ | ⟨ne, q⟩
    · cases q
      have hl := set_lt e
      exact ⟨p, vs, by rw [List.getElem?_set_self (by rw [S.sta.len]; exact hl)], hbp, upd_same, h⟩
    · obtain ⟨a, ws, h1, h2, h3, h4⟩ := S.sta.ow j x q
      exact ⟨a, ws, by rw [List.getElem?_set_ne ne]; exact h1, h2, hs _ _ h3, h4⟩
  · rcases getElem?_set' e1 with ⟨rfl, q⟩ | ⟨ne, q⟩
    · rcases getElem?_set' e2 with ⟨rfl, q2⟩ | ⟨ne2, q2⟩
      · rfl
      · have hl := set_lt e1
        rw [List.getElem?_set_self (by rw [S.sta.len]; exact hl)] at e3
        cases e3
        rw [List.getElem?_set_ne ne2] at e4
        exact (nof k zs q2 e4).elim
    · rw [List.getElem?_set_ne ne] at e3
      rcases getElem?_set' e2 with ⟨rfl, q2⟩ | ⟨ne2, q2⟩
      · have hl := set_lt e2
        rw [List.getElem?_set_self (by rw [S.sta.len]; exact hl)] at e4
        cases e4
        exact (nof j ys q e3).elim
      · rw [List.getElem?_set_ne ne2] at e4
        exact S.sta.dj j k ys zs a q q2 e3 e4
  · have e2 := S.bb b u e
    have hne : b ≠ p := fun q => by rw [q, hbp] at e; cases e
    cases q0 : H0 b with
    | some z0 => rw [ex_old (by rw [q0]; rfl)] at e2 ⊢; exact e2
    | none => rw [ex_new q0] at e2 ⊢; rw [upd_ne hne]; exact e2
  · rcases getElem?_set' e1 with ⟨rfl, q⟩ | ⟨ne, q⟩
    · have hl := set_lt e1
      rw [List.getElem?_set_self (by rw [S.sta.len]; exact hl)] at e2
      cases e2
      exact S.b0.free hp
    · rw [List.getElem?_set_ne ne] at e2
      exact S.fr j ys a q e2
/-- the own list in slot i is changed -/
theorem Stt.chg (S : Stt K Hb0 H0 Hb H σ δ) {i : Nat} {a : Addr} {vs : List V} {xs ys : List PyData} (hi : δ[i]? = some (Sl.o ys)) (ha : σ[i]? = some (some (V.ref a))) (h : DpAll K Hb vs xs) : Stt K Hb0 H0 Hb (upd H a (.lst vs)) σ (δ.set i (.o xs)) := by
  obtain ⟨a', ws, h1, h2, h3, h4⟩ := S.sta.ow i ys hi
  rw [ha] at h1
  cases h1
  have h0 := S.fr i ys a hi ha
  have hl : i < δ.length := (List.getElem?_eq_some_iff.mp hi).1
  refine ⟨⟨fun b u e => ?_, by rw [List.length_set]; exact S.sta.len, fun j x e => ?_, fun j x e => ?_, fun j k us zs c e1 e2 e3 e4 => ?_, bk_set0 S.sta.bk (fun C kn q => by cases q) (Same.refl _)⟩, S.s0, fun b u e => ?_, fun b u e => ?_, fun j us c e1 e2 => ?_⟩
  · have hne : b ≠ a := fun q => by rw [q, h2] at e; cases e
    rw [upd_ne hne]; exact S.bs b u e
  · rcases getElem?_set' e with ⟨rfl, q⟩ | ⟨ne, q⟩
    · cases q
    · exact S.sta.da j x q
  · rcases getElem?_set' e with ⟨rfl, q⟩ | ⟨ne, q⟩
    · cases q
      exact ⟨a, vs, ha, h2, upd_same, h⟩
    · obtain ⟨c, us, g1, g2, g3, g4⟩ := S.sta.ow j x q
      refine ⟨c, us, g1, g2, ?_, g4⟩
      have hne : c ≠ a := fun w => ne (S.sta.dj i j ys x a hi q ha (by rw [g1, w]))
      rw [upd_ne hne]; exact g3
  · have up : ∀ {j : Nat} {us : List PyData}, (δ.set i (Sl.o xs))[j]? = some (Sl.o us) → ∃ us', δ[j]? = some (Sl.o us') := fun {j us} e => by
      rcases getElem?_set' e with ⟨rfl, q⟩ | ⟨ne, q⟩
      · exact ⟨ys, hi⟩
      · exact ⟨us, q⟩
    obtain ⟨us', q1⟩ := up e1
    obtain ⟨zs', q2⟩ := up e2
    exact S.sta.dj j k us' zs' c q1 q2 e3 e4
  · have hne : b ≠ a := fun q => by rw [q, h0] at e; cases e
    rw [upd_ne hne]; exact S.b0 b u e
  · have e2 := S.bb b u e
    have hne : b ≠ a := fun q => by rw [q, h2] at e; cases e
    cases q0 : H0 b with
    | some z0 => rw [ex_old (by rw [q0]; rfl)] at e2 ⊢; exact e2
    | none => rw [ex_new q0] at e2 ⊢; rw [upd_ne hne]; exact e2
  · rcases getElem?_set' e1 with ⟨rfl, q⟩ | ⟨ne, q⟩
    · exact S.fr _ ys c hi e2
    · exact S.fr j us c q e2
/-- the own list in slot i becomes plain data -/
theorem Stt.freeze (S : Stt K Hb0 H0 Hb H σ δ) {i : Nat} {xs : List PyData} (hi : δ[i]? = some (Sl.o xs)) : ∃ Hb', Same Hb Hb' ∧ Stt K Hb0 H0 Hb' H σ (δ.set i (.d (.list xs))) := by
  obtain ⟨a, vs, h1, h2, h3, h4⟩ := S.sta.ow i xs hi
  have h0 := S.fr i xs a hi h1
  have hs : Same Hb (upd Hb a (.lst vs)) := same_upd h2
  refine ⟨upd Hb a (.lst vs), hs, ⟨fun b u e => ?_, by rw [List.length_set]; exact S.sta.len, fun j x e => ?_, fun j x e => ?_, fun j k us zs c e1 e2 e3 e4 => ?_, bk_set0 S.sta.bk (fun C kn q => by cases q) hs⟩, S.s0, S.b0, fun b u e => ?_, fun j us c e1 e2 => ?_⟩
  · by_cases hb : b = a
    · subst hb; rw [upd_same] at e; rw [h3]; exact e
    · rw [upd_ne hb] at e; exact S.bs b u e
  · rcases getElem?_set' e with ⟨rfl, q⟩ | ⟨ne, q⟩
    · cases q
      exact ⟨.ref a, h1, .lst (SqL.of upd_same) (h4.same hs)⟩
    · obtain ⟨v, g1, g2⟩ := S.sta.da j x q
      exact ⟨v, g1, g2.same hs⟩
  · rcases getElem?_set' e with ⟨rfl, q⟩ | ⟨ne, q⟩
    · cases q
    · obtain ⟨c, us, g1, g2, g3, g4⟩ := S.sta.ow j x q
      have hne : c ≠ a := fun w => ne (S.sta.dj i j xs x a hi q h1 (by rw [g1, w]))
      exact ⟨c, us, g1, by rw [upd_ne hne]; exact g2, g3, g4.same hs⟩
  · rcases getElem?_set' e1 with ⟨rfl, q⟩ | ⟨ne, q⟩
    · cases q
    · rcases getElem?_set' e2 with ⟨rfl, q2⟩ | ⟨ne2, q2⟩
      · cases q2
      · exact S.sta.dj j k us zs c q q2 e3 e4
  · by_cases hb : b = a
    · subst hb
      rw [upd_same] at e
      rw [ex_new h0, h3]
      exact e
    · rw [upd_ne hb] at e; exact S.bb b u e
  · rcases getElem?_set' e1 with ⟨rfl, q⟩ | ⟨ne, q⟩
    · cases q
    · exact S.fr j us c q e2
end

/-- what is wanted behind -/
def RPost (K : PySem.W.Frag) (E : XK) (cls : Nat → Value) (D : Ends) (Hb0 H0 Hb : Hp) : Res → Prop
  | .nx δ' => ∀ σ' H' Hb', Same Hb Hb' → Stt K Hb0 H0 Hb' H' σ' δ' → D.nx σ' H'
  | .rt d => ∀ v H', Same H0 H' → Dp K (ex Hb0 H0 H') v d → D.rt v H'
  | .ex t => ∀ H' dd, Same H0 H' → E (cls t) dd H'
def tS (K : PySem.W.Frag) (E : XK) (cls : Nat → Value) (g : En → Option Res) : TS := fun D σ H => ∃ Hb0 H0 Hb δ, Stt K Hb0 H0 Hb H σ δ ∧ ∃ r, g δ = some r ∧ RPost K E cls D Hb0 H0 Hb r
theorem RPost.mono {K : PySem.W.Frag} {E : XK} {cls : Nat → Value} {D : Ends} {Hb0 H0 Hb Hb' : Hp} {r : Res} (s : Same Hb Hb') (h : RPost K E cls D Hb0 H0 Hb r) : RPost K E cls D Hb0 H0 Hb' r := by
  cases r with
  | nx δ => exact fun σ' H' Hb2 s2 S => h σ' H' Hb2 (s.trans s2) S
  | rt d => exact h
  | ex t => exact h

def sNil : En → Option Res := fun δ => some (.nx δ)
def thenR (r : Res) (g : En → Option Res) : Option Res := match r with | .nx δ => g δ | .rt d => some (.rt d) | .ex t => some (.ex t)
def sSeq (f g : En → Option Res) : En → Option Res := fun δ => (f δ).bind fun r => thenR r g
def sIf (c : En → Option Bool) (f g : En → Option Res) : En → Option Res := fun δ => (c δ).bind fun b => if b = true then f δ else g δ
def sRet (f : En → Option PyData) : En → Option Res := fun δ => (f δ).map .rt
def sNo : En → Option Res := fun _ => none
def sApp (i : Nat) (f : En → Option PyData) : En → Option Res := fun δ => match δ[i]? with
  | some (.o xs) => (f δ).bind fun d => if xs.length < sizeLine then some (.nx (δ.set i (.o (xs ++ [d])))) else none
  | _ => none
def sNew (i : Nat) : En → Option Res := fun δ => some (.nx (δ.set i (.o [])))
def sRep (i : Nat) (n : Nat) : En → Option Res := fun δ => some (.nx (δ.set i (.o (List.replicate n .none))))
def sPut (i : Nat) (fi f : En → Option PyData) : En → Option Res := fun δ => (f δ).bind fun d => match δ[i]? with
  | some (.o xs) => (fi δ).bind fun k => (asI k).bind fun k => (ixN xs.length k).map fun j => .nx (δ.set i (.o (xs.set j d)))
  | _ => none
def sFrz (i : Nat) (g : En → Option Res) : En → Option Res := fun δ => match δ[i]? with
  | some (.o xs) => g (δ.set i (.d (.list xs)))
  | _ => none
def eIxO (i : Nat) (fi : En → Option PyData) : En → Option PyData := fun δ => match δ[i]? with
  | some (.o xs) => (fi δ).bind fun k => (asI k).bind fun k => atI xs k
  | _ => none
end SQ
/-! ## SqD4 -/
set_option Elab.async false
set_option linter.all false
set_option maxRecDepth 100000
set_option maxHeartbeats 4000000
namespace SQ
open PySem PySem.Spec L2 TL

/-! ### targets -/
inductive Tg where
  | nm (i : Nat)
  | tp (is : List Nat)
def Tg.ix : Tg → List Nat | .nm i => [i] | .tp is => is
def Tg.cut : Tg → PyData → Option (List PyData)
  | .nm _, d => some [d]
  | .tp is, .tuple ds => if ds.length = is.length then some ds else none
  | .tp _, _ => none
def setD : List Nat → List PyData → En → En
  | i :: is, d :: ds, δ => setD is ds (δ.set i (.d d))
  | _, _, δ => δ
def setS : List Nat → List V → L2.St → L2.St
  | i :: is, v :: vs, σ => setS is vs (σ.set i (some v))
  | _, _, σ => σ
def gD (K : PySem.W.Frag) (T : Tg) : TG := fun v σ H Q => ∃ Hb d ds, Same Hb H ∧ Dp K Hb v d ∧ T.cut d = some ds ∧ ∀ ws, DpAll K Hb ws ds → Q (setS T.ix ws σ) H
section
variable {X : Cx} {pos : Pos}
theorem dg_name {i : Nat} {x : Str} (hN : X.N.Nodup) (hi : X.N[i]? = some x := by rfl) (hx : Loc X.env.scope x := by first | exact Or.inl rfl | exact Or.inr rfl) (hf : X.fn x = true ∨ X.env.scope.names.lookup x = some .local := by first | exact .inl rfl | exact .inr rfl | assumption) :
    PG X (.Name x pos) (gD X.K (.nm i)) := ⟨fun pins s σ H v u Q I r h => (pg_name hN hi hx hf).run pins s σ H v u Q I r (by
  obtain ⟨Hb, d, ds, bs, hv, hc, q⟩ := h
  cases hc
  exact q [v] (.one hv))⟩
theorem dg_two {i j : Nat} {x y : Str} {p1 p2 : Pos} {k : Nat} (hc : X.calm = true) (hN : X.N.Nodup) (hi : X.N[i]? = some x := by rfl) (hj : X.N[j]? = some y := by rfl) (hx : Loc X.env.scope x := by first | exact Or.inl rfl | exact Or.inr rfl) (hy : Loc X.env.scope y := by first | exact Or.inl rfl | exact Or.inr rfl)
    (hf : X.fn x = true ∨ X.env.scope.names.lookup x = some .local := by first | exact .inl rfl | exact .inr rfl | assumption) (hf2 : X.fn y = true ∨ X.env.scope.names.lookup y = some .local := by first | exact .inl rfl | exact .inr rfl | assumption) :
    PG X (.Tuple [.Name x p1, .Name y p2] k pos) (gD X.K (.tp [i, j])) := ⟨fun pins s σ H v u Q I r h => (pg_tup hc (pgs_cons (pg_name hN hi hx hf) (pgs_cons (pg_name hN hj hy hf2) pgs_nil))).run pins s σ H v u Q I r (by
  obtain ⟨Hb, d, ds, bs, hv, hc, q⟩ := h
  unfold Tg.cut at hc
  split at hc
  · rename_i e; cases e
  · split at hc
    · rename_i is ds' e c
      cases e
      cases hc
      obtain ⟨a, xs, rfl, s, r⟩ := dp_tup hv
      have hl := r.length
      rw [c] at hl
      match xs, hl, r with
      | [x1, x2], _, r => exact ⟨a, [x1, x2], rfl, sameT bs s, rfl, x1, _, rfl, x2, _, rfl, rfl, q _ r⟩
    · cases hc
  · cases hc)⟩
theorem dg_three {i j l : Nat} {x y z : Str} {p1 p2 p3 : Pos} {k : Nat} (hc : X.calm = true) (hN : X.N.Nodup) (hi : X.N[i]? = some x := by rfl) (hj : X.N[j]? = some y := by rfl) (hl : X.N[l]? = some z := by rfl) (hx : Loc X.env.scope x := by first | exact Or.inl rfl | exact Or.inr rfl)
    (hy : Loc X.env.scope y := by first | exact Or.inl rfl | exact Or.inr rfl) (hz : Loc X.env.scope z := by first | exact Or.inl rfl | exact Or.inr rfl)
    (hf : X.fn x = true ∨ X.env.scope.names.lookup x = some .local := by first | exact .inl rfl | exact .inr rfl | assumption) (hf2 : X.fn y = true ∨ X.env.scope.names.lookup y = some .local := by first | exact .inl rfl | exact .inr rfl | assumption)
    (hf3 : X.fn z = true ∨ X.env.scope.names.lookup z = some .local := by first | exact .inl rfl | exact .inr rfl | assumption) :
    PG X (.Tuple [.Name x p1, .Name y p2, .Name z p3] k pos) (gD X.K (.tp [i, j, l])) := ⟨fun pins s σ H v u Q I r h => (pg_tup hc (pgs_cons (pg_name hN hi hx hf) (pgs_cons (pg_name hN hj hy hf2) (pgs_cons (pg_name hN hl hz hf3) pgs_nil)))).run pins s σ H v u Q I r (by
  obtain ⟨Hb, d, ds, bs, hv, hc, q⟩ := h
  unfold Tg.cut at hc
  split at hc
  · rename_i e; cases e
  · split at hc
    · rename_i is ds' e c
      cases e
      cases hc
      obtain ⟨a, xs, rfl, s, r⟩ := dp_tup hv
      have hl := r.length
      rw [c] at hl
      match xs, hl, r with
      | [x1, x2, x3], _, r => exact ⟨a, [x1, x2, x3], rfl, sameT bs s, rfl, x1, _, rfl, x2, _, rfl, x3, _, rfl, rfl, q _ r⟩
    · cases hc
  · cases hc)⟩
end
section
variable {K : PySem.W.Frag} {Hb0 H0 Hb H H' : Hp} {σ : L2.St} {δ : En}
theorem Sta.setL {is : List Nat} : ∀ {ws : List V} {ds : List PyData} {σ : L2.St} {δ : En}, Sta K Hb H σ δ → DpAll K Hb ws ds → Sta K Hb H (setS is ws σ) (setD is ds δ) := by
  induction is with
  | nil => intro ws ds σ δ S h; cases ws <;> cases ds <;> exact S
  | cons i is ih =>
    intro ws ds σ δ S h
    cases h with
    | nil => exact S
    | cons a b => exact ih (S.set a) b
theorem Stt.setL {is : List Nat} : ∀ {ws : List V} {ds : List PyData} {σ : L2.St} {δ : En}, Stt K Hb0 H0 Hb H σ δ → DpAll K Hb ws ds → Stt K Hb0 H0 Hb H (setS is ws σ) (setD is ds δ) := by
  induction is with
  | nil => intro ws ds σ δ S h; cases ws <;> cases ds <;> exact S
  | cons i is ih =>
    intro ws ds σ δ S h
    cases h with
    | nil => exact S
    | cons a b => exact ih (S.set a) b
end
def sAsg (f : En → Option PyData) (T : Tg) : En → Option Res := fun δ => (f δ).bind fun d => (T.cut d).map fun ds => .nx (setD T.ix ds δ)

section
variable {X : Cx} {E : XK} {cls : Nat → Value} {st : Stmt} {sts rest : List Stmt} {a b c e : Expr} {es : List Expr} {fa fb fc : En → Option PyData} {ca : En → Option Bool} {ga : En → Option (List PyData)} {f g h : En → Option Res} {pos : Pos}
theorem ds_nil : PSs X [] (tS X.K E cls sNil) := PSs.imp pss_nil fun D σ H ⟨Hb0, H0, Hb, δ, S, r, hr, P⟩ => by
  cases hr
  exact P σ H Hb (Same.refl _) S
theorem ds_cons (h1 : PS X st (tS X.K E cls f)) (h2 : PSs X rest (tS X.K E cls g)) : PSs X (st :: rest) (tS X.K E cls (sSeq f g)) := PSs.imp (pss_cons h1 h2) fun D σ H ⟨Hb0, H0, Hb, δ, S, r, hr, P⟩ => by
  obtain ⟨r1, h1, h2⟩ := Option.bind_eq_some_iff.mp hr
  refine ⟨Hb0, H0, Hb, δ, S, r1, h1, ?_⟩
  cases r1 with
  | nx δ' => exact fun σ' H' Hb' s S' => ⟨Hb0, H0, Hb', δ', S', r, h2, P.mono s⟩
  | rt d => cases h2; exact P
  | ex t => cases h2; exact P
theorem ds_one (h1 : PS X st (tS X.K E cls f)) : PSs X [st] (tS X.K E cls f) := pss_one h1
theorem ds_frz {i : Nat} (h1 : PSs X sts (tS X.K E cls g)) : PSs X sts (tS X.K E cls (sFrz i g)) := PSs.imp h1 fun D σ H ⟨Hb0, H0, Hb, δ, S, r, hr, P⟩ => by
  unfold sFrz at hr
  split at hr
  · rename_i xs e
    obtain ⟨Hb', s, S'⟩ := S.freeze e
    exact ⟨Hb0, H0, Hb', _, S', r, hr, P.mono s⟩
  · cases hr
theorem ds_pass : PS X (.Pass pos) (tS X.K E cls sNil) := PS.imp ps_pass fun D σ H ⟨Hb0, H0, Hb, δ, S, r, hr, P⟩ => by
  cases hr
  exact P σ H Hb (Same.refl _) S
theorem ds_no : PS X st (tS X.K E cls sNo) := PS.imp ps_never fun D σ H ⟨Hb0, H0, Hb, δ, S, r, hr, P⟩ => by cases hr
theorem ds_set {i : Nat} {x : Str} {pos' : Pos} (hN : X.N.Nodup) (he : PE X e (tE X.K fa)) (hi : X.N[i]? = some x := by rfl) (hx : Loc X.env.scope x := by first | exact Or.inl rfl | exact Or.inr rfl) (hs : swapsWith e (some (.Name x pos')) pos.line X.env = pure false := by rfl)
    (hf : X.fn x = true ∨ X.env.scope.names.lookup x = some .local := by first | exact .inl rfl | exact .inr rfl | assumption) : PS X (.Assign [.Name x pos'] e pos) (tS X.K E cls (sAsg fa (.nm i))) := PS.imp (ps_set hN hi hx he hs hf) fun D σ H ⟨Hb0, H0, Hb, δ, S, r, hr, P⟩ => by
  obtain ⟨d, hd, hr⟩ := Option.bind_eq_some_iff.mp hr
  cases hr
  exact ⟨Hb, δ, S.sta, d, hd, S.bs, fun v H' s hv => P _ H' _ (sub_ex S.bs) ((S.grow s).set hv)⟩
theorem ds_asg {tg : Expr} {T : Tg} (he : PE X e (tE X.K fa)) (hg : PG X tg (gD X.K T)) (hs : swapsWithSole [tg] e pos.line X.env = pure false := by rfl) (hw : swappedStores [tg] e X.env = pure none := by rfl)
    (h1 : (assignEach [tg] X.env).map (·.2) = [assign tg X.env] := by rfl) : PS X (.Assign [tg] e pos) (tS X.K E cls (sAsg fa T)) := PS.imp (ps_asg he hg hs hw h1) fun D σ H ⟨Hb0, H0, Hb, δ, S, r, hr, P⟩ => by
  obtain ⟨d, hd, hr⟩ := Option.bind_eq_some_iff.mp hr
  obtain ⟨ds, hds, rfl⟩ := Option.map_eq_some_iff.mp hr
  refine ⟨Hb, δ, S.sta, d, hd, S.bs, fun v H' s hv => ?_⟩
  have S1 := S.grow s
  exact ⟨_, d, ds, S1.bs, hv, hds, fun ws hws => P _ H' _ (sub_ex S.bs) (S1.setL hws)⟩
theorem ds_ret (he : PE X e (tE X.K fa)) : PS X (.Return (some e) pos) (tS X.K E cls (sRet fa)) := PS.imp (ps_ret he) fun D σ H ⟨Hb0, H0, Hb, δ, S, r, hr, P⟩ => by
  obtain ⟨d, hd, rfl⟩ := Option.map_eq_some_iff.mp hr
  exact ⟨Hb, δ, S.sta, d, hd, S.bs, fun v H' s hv => P v H' (S.b0.trans s) (hv.same (ex_mono S.b0 S.bb s))⟩
theorem ds_if {p q : List Stmt} (hc : PT X c (tT X.K ca)) (ha : PSs X p (tS X.K E cls f)) (hb : PSs X q (tS X.K E cls g)) : PS X (.If c p q pos) (tS X.K E cls (sIf ca f g)) := PS.imp (ps_if hc ha hb) fun D σ H ⟨Hb0, H0, Hb, δ, S, r, hr, P⟩ => by
  obtain ⟨k, hk, hr⟩ := Option.bind_eq_some_iff.mp hr
  refine ⟨Hb, δ, S.sta, k, hk, fun H' s => ?_⟩
  have P' := P.mono (sub_ex (H := H) (H' := H') S.bs)
  cases k with
  | true => exact ⟨Hb0, H0, _, δ, S.grow s, r, hr, P'⟩
  | false => exact ⟨Hb0, H0, _, δ, S.grow s, r, hr, P'⟩
theorem ds_new {i : Nat} {x : Str} {pos' : Pos} {p2 : Pos} (hN : X.N.Nodup) (hi : X.N[i]? = some x := by rfl) (hx : Loc X.env.scope x := by first | exact Or.inl rfl | exact Or.inr rfl) (hs : swapsWith (.List [] p2) (some (.Name x pos')) pos.line X.env = pure false := by rfl)
    (hf : X.fn x = true ∨ X.env.scope.names.lookup x = some .local := by first | exact .inl rfl | exact .inr rfl | assumption) : PS X (.Assign [.Name x pos'] (.List [] p2) pos) (tS X.K E cls (sNew i)) := PS.imp (ps_set hN hi hx (pe_lst pa_nil) hs hf) fun D σ H ⟨Hb0, H0, Hb, δ, S, r, hr, P⟩ => by
  cases hr
  exact ⟨Nat.zero_le _, fun p hp => P _ _ Hb (Same.refl _) (S.own hp .nil)⟩
theorem ds_rep {i n : Nat} {x : Str} {pos' p2 p3 p4 p5 : Pos} {j1 j2 : Nat} (hN : X.N.Nodup) (hn : n < 1000) (hi : X.N[i]? = some x := by rfl) (hx : Loc X.env.scope x := by first | exact Or.inl rfl | exact Or.inr rfl)
    (hs : swapsWith (.BinOp (.List [.Constant .none j1 p2] p3) .Mult (.Constant (.int (n : Int)) j2 p4) p5) (some (.Name x pos')) pos.line X.env = pure false := by rfl)
    (hst : starEach (.Constant .none j1 p2 :: []) X.env = (false, eval (.Constant .none j1 p2) X.env) :: starEach [] X.env := by rfl)
    (hf : X.fn x = true ∨ X.env.scope.names.lookup x = some .local := by first | exact .inl rfl | exact .inr rfl | assumption) : PS X (.Assign [.Name x pos'] (.BinOp (.List [.Constant .none j1 p2] p3) .Mult (.Constant (.int (n : Int)) j2 p4) p5) pos) (tS X.K E cls (sRep i n)) :=
  PS.imp (ps_set hN hi hx (pe_op op_rep (pe_lst (pa_cons pe_non pa_nil hst)) pe_int) hs hf) fun D σ H ⟨Hb0, H0, Hb, δ, S, r, hr, P⟩ => by
  cases hr
  refine ⟨by rw [sizeLine_eq]; exact (by decide : 1 ≤ 16777216), fun p hp => ?_⟩
  have s1 : Same H (upd H p (.lst [.non])) := same_upd hp
  have S1 := S.grow s1
  have en : ((n : Int)).toNat = n := by omega
  refine ⟨p, n, [.non], rfl, rfl, upd_same, by omega, by omega, by rw [sizeLine_eq, en]; simp; omega, fun q hq => ?_⟩
  rw [en]
  have e2 : ∀ m : Nat, (List.replicate m [V.non]).flatten = List.replicate m V.non := fun m => by
    induction m with
    | zero => rfl
    | succ m ih => rw [List.replicate_succ, List.flatten_cons, ih, List.replicate_succ]; rfl
  rw [e2]
  have e3 : ∀ m : Nat, DpAll X.K (ex Hb H (upd H p (.lst [.non]))) (List.replicate m V.non) (List.replicate m PyData.none) := fun m => by
    induction m with
    | zero => exact .nil
    | succ m ih => rw [List.replicate_succ, List.replicate_succ]; exact .cons .non ih
  exact P _ _ _ (sub_ex S.bs) (S1.own hq (e3 n))
theorem ds_app {i : Nat} {x : Str} {p1 apos p2 p3 : Pos} (he : PE X e (tE X.K fa)) (hN : X.N[i]? = some x := by rfl) (hv : Vis X.env.scope x := by first | exact Or.inl rfl | exact Or.inr (Or.inl rfl) | exact Or.inr (Or.inr rfl))
    (hd : (x == ("__debug__" : Str)) = false := by decide) (hcd : (x == ("__classdict__" : Str)) = false := by decide)
    (hst : starEach (e :: []) X.env = (false, eval e X.env) :: starEach [] X.env := by rfl) (hpl : (backTo p2 (starEach [] X.env)).any (·.1) = false := by rfl) (hbase : attributeBase (.Name x p1) "append" X.env (eval (.Name x p1) X.env) = eval (.Name x p1) X.env := by rfl)
    (hfew : ((backTo p2 (starEach (e :: []) X.env)).all (fun x => !x.1) && (backToKw p2 (keywordEach [] X.env)).all (fun x => x.1.isSome) && decide ((e :: []).length + ([] : List Keyword).length + (if ([] : List Keyword).isEmpty then 0 else 1) < 30)) = true := by rfl)
    (hline : (apos.endLine == p2.line) = true := by rfl) (hs : swapsWith (.Call (.Attribute (.Name x p1) "append" apos) [e] [] p2) none p3.line X.env = pure false := by rfl) :
    PS X (.Expr (.Call (.Attribute (.Name x p1) "append" apos) [e] [] p2) p3) (tS X.K E cls (sApp i fa)) :=
  PS.imp (ps_expr (pe_bm PySem.F.plainAttrs_list PySem.F.slot_list_append PySem.F.type_list_append mt_append (pv i hN hv hd hcd) (pa_cons he pa_nil hst) hbase hfew hline hst hpl) hs) fun D σ H ⟨Hb0, H0, Hb, δ, S, r, hr, P⟩ => by
  unfold sApp at hr
  split at hr
  · rename_i xs e
    obtain ⟨d, hd, hr⟩ := Option.bind_eq_some_iff.mp hr
    split at hr
    · rename_i c
      cases hr
      obtain ⟨a, vs, h1, h2, h3, h4⟩ := S.sta.ow _ _ e
      refine ⟨_, h1, .inl ⟨rfl, _, SqL.of h3⟩, Hb, δ, S.sta, d, hd, S.bs, fun v H' s hv => ?_⟩
      refine ⟨a, vs, v, rfl, rfl, s _ _ h3, by rw [h4.length]; exact c, P _ _ _ (sub_ex S.bs) ((S.grow s).chg e h1 ((h4.same (sub_ex S.bs)).append (.one hv)))⟩
    · cases hr
  · cases hr
theorem ds_put {i : Nat} {x : Str} {p1 p2 : Pos} (hb : PE X b (tE X.K fb)) (he : PE X e (tE X.K fa)) (hN : X.N[i]? = some x := by rfl) (hv : Vis X.env.scope x := by first | exact Or.inl rfl | exact Or.inr (Or.inl rfl) | exact Or.inr (Or.inr rfl))
    (hd : (x == ("__debug__" : Str)) = false := by decide) (hcd : (x == ("__classdict__" : Str)) = false := by decide)
    (ha : ∀ v, assign (.Subscript (.Name x p1) b p2) X.env v = (do
      let ov ← holding [v] (eval (.Name x p1) X.env)
      let iv ← holding [v, ov] (eval b X.env)
      standAt p2
      holding [v, ov, iv] (setItem ov iv v)
      release [v, ov, iv] []) := by intro _; rfl)
    (hs : swapsWithSole [.Subscript (.Name x p1) b p2] e pos.line X.env = pure false := by rfl) (hw : swappedStores [.Subscript (.Name x p1) b p2] e X.env = pure none := by rfl)
    (h1 : (assignEach [.Subscript (.Name x p1) b p2] X.env).map (·.2) = [assign (.Subscript (.Name x p1) b p2) X.env] := by rfl) :
    PS X (.Assign [.Subscript (.Name x p1) b p2] e pos) (tS X.K E cls (sPut i fb fa)) :=
  PS.imp (ps_asg he (pg_sub (pv i hN hv hd hcd) hb set_list ha) hs hw h1) fun D σ H ⟨Hb0, H0, Hb, δ, S, r, hr, P⟩ => by
  unfold sPut at hr
  obtain ⟨d, hd, hr⟩ := Option.bind_eq_some_iff.mp hr
  split at hr
  · rename_i xs e
    obtain ⟨k, hk, hr⟩ := Option.bind_eq_some_iff.mp hr
    obtain ⟨m, hm, hr⟩ := Option.bind_eq_some_iff.mp hr
    obtain ⟨j, hj, rfl⟩ := Option.map_eq_some_iff.mp hr
    obtain ⟨a, vs, g1, g2, g3, g4⟩ := S.sta.ow _ _ e
    refine ⟨Hb, δ, S.sta, d, hd, S.bs, fun v H1 s1 hv => ?_⟩
    have S1 := S.grow s1
    refine ⟨_, g1, _, δ, S1.sta, k, hk, S1.bs, fun w H2 s2 hw => ?_⟩
    have S2 := S1.grow s2
    have hv2 := hv.same (sub_ex (H' := H2) S1.bs)
    unfold asI at hm
    split at hm
    · cases hm
      refine ⟨a, vs, m, j, rfl, dp_int hw, s2 _ _ (s1 _ _ g3), by rw [g4.length]; exact hj, ?_⟩
      exact P _ _ _ ((sub_ex S.bs).trans (sub_ex S1.bs)) (S2.chg e g1 (((g4.same (sub_ex S.bs)).same (sub_ex S1.bs)).set hv2))
    · cases hm
  · cases hr
theorem d_ixO {i : Nat} {x : Str} {p1 p2 : Pos} (hb : PE X b (tE X.K fb)) (hN : X.N[i]? = some x := by rfl) (hv : Vis X.env.scope x := by first | exact Or.inl rfl | exact Or.inr (Or.inl rfl) | exact Or.inr (Or.inr rfl))
    (hd : (x == ("__debug__" : Str)) = false := by decide) (hcd : (x == ("__classdict__" : Str)) = false := by decide) (hs : PlainIx b := by exact fun _ _ => rfl) : PE X (.Subscript (.Name x p1) b p2) (tE X.K (eIxO i fb)) :=
  PE.imp (pe_ix ix_list (pv i hN hv hd hcd) hb hs) fun σ H Q ⟨Hb, δ, S, d, hr, O⟩ => by
  unfold eIxO at hr
  split at hr
  · rename_i xs e
    obtain ⟨k, hk, hr⟩ := Option.bind_eq_some_iff.mp hr
    obtain ⟨m, hm, hr⟩ := Option.bind_eq_some_iff.mp hr
    obtain ⟨a, vs, g1, g2, g3, g4⟩ := S.ow _ _ e
    refine ⟨_, g1, Hb, δ, S, k, hk, S.bs, fun w H2 s2 hw => ?_⟩
    unfold asI at hm
    split at hm
    · cases hm
      obtain ⟨v, hv, hd⟩ := atI_dp g4 hr
      exact ⟨a, vs, m, v, rfl, dp_int hw, SqL.of (s2 _ _ g3), hv, O.go v H2 s2 (hd.same (sub_ex S.bs))⟩
    · cases hm
  · cases hr
end

/-! ### walks -/
/-- J gives the data its, one after the other, from any heap over Hb -/
structure DWk (K : PySem.W.Frag) (Hb : Hp) (J : It) (its : List PyData) : Prop where
  go : ∀ (i : Nat) Hb' H, Same Hb Hb' → Same Hb' H → i < its.length → J.go i H
  stop : ∀ Hb' H, Same Hb Hb' → Same Hb' H → J.stop its.length H
  yld : ∀ (i : Nat) Hb' H x H', Same Hb Hb' → Same Hb' H → i < its.length → J.yld i H x H' → ∃ d, its[i]? = some d ∧ Same H H' ∧ Dp K (ex Hb' H H') x d
def tI (K : PySem.W.Frag) (fi : En → Option (List PyData)) : TI := fun σ H R => ∃ Hb δ, Sta K Hb H σ δ ∧ ∃ its, fi δ = some its ∧ ∀ J H', Same H H' → DWk K (ex Hb H H') J its → R J H'
def lsD : PyData → Option (List PyData) | .list xs => some xs | _ => none
def tuD : PyData → Option (List PyData) | .tuple xs => some xs | _ => none
def enD (xs : List PyData) : List PyData := (List.range xs.length).zipWith (fun i x => .tuple [.int (i : Nat), x]) xs
def chD : PyData → Option (List PyData) | .str z => some (z.cps.toList.map fun c => .str ⟨#[c]⟩) | _ => none
def rg1 : List PyData → Option (List PyData) | [.int n] => if -(2 ^ 62) ≤ n ∧ n < 2 ^ 62 then some ((List.range n.toNat).map fun i => .int (0 + (i : Nat))) else none | _ => none
def rg2 : List PyData → Option (List PyData) | [.int a, .int b] => if -(2 ^ 62) ≤ a ∧ a < 2 ^ 62 ∧ -(2 ^ 62) ≤ b ∧ b < 2 ^ 62 then some ((List.range (b - a).toNat).map fun i => .int (a + (i : Nat))) else none | _ => none
def iB {α : Type} (f : En → Option α) (k : α → Option (List PyData)) : En → Option (List PyData) := fun δ => (f δ).bind k
section
variable {X : Cx} {tg a b c e : Expr} {es : List Expr} {fa fb fc : En → Option PyData} {ga : En → Option (List PyData)} {pos : Pos}
theorem wk_list {K : PySem.W.Frag} {Hb : Hp} {p : Addr} {xs : List V} {its : List PyData} (s : SqL K Hb p xs) (r : DpAll K Hb xs its) : DWk K Hb (Itl K p) its where
  go := fun i Hb' H s1 s2 hi => ⟨xs, xs[i]'(by rw [r.length]; exact hi), (s1.trans s2).seq s, by simp [r.length, hi]⟩
  stop := fun Hb' H s1 s2 => ⟨xs, (s1.trans s2).seq s, by rw [r.length]; exact Nat.le_refl _⟩
  yld := fun i Hb' H x H' s1 s2 hi y => by
    obtain ⟨rfl, y⟩ := y
    obtain ⟨d, hd, h⟩ := r.get' (y xs ((s1.trans s2).seq s))
    exact ⟨d, hd, Same.refl _, (h.same s1).same (by rw [ex_id s2]; exact Same.refl _)⟩
theorem wk_tup {K : PySem.W.Frag} {Hb : Hp} {p : Addr} {xs : List V} {its : List PyData} (s : SqT K Hb p xs) (r : DpAll K Hb xs its) : DWk K Hb (Itt K p) its where
  go := fun i Hb' H s1 s2 hi => ⟨xs, xs[i]'(by rw [r.length]; exact hi), sameT (s1.trans s2) s, by simp [r.length, hi]⟩
  stop := fun Hb' H s1 s2 => ⟨xs, sameT (s1.trans s2) s, by rw [r.length]; exact Nat.le_refl _⟩
  yld := fun i Hb' H x H' s1 s2 hi y => by
    obtain ⟨rfl, y⟩ := y
    obtain ⟨d, hd, h⟩ := r.get' (y xs (sameT (s1.trans s2) s))
    exact ⟨d, hd, Same.refl _, (h.same s1).same (by rw [ex_id s2]; exact Same.refl _)⟩
theorem wk_rng {K : PySem.W.Frag} {Hb : Hp} {lo : Int} {n : Nat} : DWk K Hb (Itr lo n) ((List.range n).map fun i => .int (lo + (i : Nat))) where
  go := fun i Hb' H s1 s2 hi => by show i < n; simpa using hi
  stop := fun Hb' H s1 s2 => by show n ≤ _; simp
  yld := fun i Hb' H x H' s1 s2 hi y => by
    obtain ⟨rfl, rfl⟩ := y
    have hi' : i < n := by simpa using hi
    exact ⟨.int (lo + (i : Nat)), by rw [List.getElem?_map, List.getElem?_range hi']; rfl, Same.refl _, .int _⟩
theorem wk_str {K : PySem.W.Frag} {Hb : Hp} {z : Str} : DWk K Hb (Its z) (z.cps.toList.map fun c => .str ⟨#[c]⟩) where
  go := fun i Hb' H s1 s2 hi => by show i < z.cps.size; simpa using hi
  stop := fun Hb' H s1 s2 => by show z.cps.size ≤ _; simp
  yld := fun i Hb' H x H' s1 s2 hi y => by
    obtain ⟨rfl, c, hc, rfl⟩ := y
    exact ⟨.str ⟨#[c]⟩, by rw [List.getElem?_map]; simp [hc], Same.refl _, .str _⟩
theorem wk_enum {K : PySem.W.Frag} {Hb : Hp} {p : Addr} {xs : List V} {its : List PyData} (s : SqL K Hb p xs) (r : DpAll K Hb xs its) : DWk K Hb (Ite K p) (enD its) where
  go := fun i Hb' H s1 s2 hi => by
    have hi' : i < xs.length := by rw [r.length]; simpa [enD] using hi
    exact ⟨xs, xs[i], (s1.trans s2).seq s, by simp [hi']⟩
  stop := fun Hb' H s1 s2 => ⟨xs, (s1.trans s2).seq s, by rw [r.length]; simp [enD]⟩
  yld := fun i Hb' H x H' s1 s2 hi y => by
    obtain ⟨T, v, rfl, h3, rfl, h1⟩ := y
    have hi' : i < its.length := by simpa [enD] using hi
    obtain ⟨d, hd, h⟩ := r.get' (h1 xs ((s1.trans s2).seq s))
    refine ⟨.tuple [.int (i : Nat), d], ?_, same_upd h3, ?_⟩
    · have e : its[i] = d := by
        have := List.getElem?_eq_getElem hi'
        rw [this] at hd; exact Option.some.inj hd
      simp [enD, hi', e]
    · rw [ex_upd s2 h3]
      exact .tup (SqT.of upd_same) (.cons (.int _) (.one ((h.same s1).same (same_upd (sub_none s2 h3)))))
end
end SQ
/-! ## SqD5 -/
set_option Elab.async false
set_option linter.all false
set_option maxRecDepth 100000
set_option maxHeartbeats 4000000
/-! enumerate over a tuple -/
namespace SQ
open PySem PySem.Spec L2 TL
section
open AutoSeq1 (wpAny_loadPart')
theorem enumNewT (l : Addr) (items : Array Value) (o : Obj) (hc : o.cls = .type "tuple") (n : Nat) (hd : o.data = .seq items n) :
    Meets (Builtin.«enumerate.__new__» ⟨[.type "enumerate", .ref l], []⟩) (fun _ R s => s.heap.get? l = some o ∧
      R (.ok (.ret (.ref (s.heap.push { cls := .type "tuple_iterator", data := .fields #[.ref l, .int 0 0] }).objs.size)))
        { s with heap := (s.heap.push { cls := .type "tuple_iterator", data := .fields #[.ref l, .int 0 0] }).push { cls := .type "enumerate", data := .fields #[.none, .bool false, .ref s.heap.objs.size, rawInt 0, .none, .none] } }) :=
  .of_wp fun prog w A R s h => by
    obtain ⟨hp, g, d, tk, os⟩ := s
    obtain ⟨hl, h⟩ := h
    have isub := sub_enumerate
    have hL : Heap.IsTuple (Shared.heap ⟨hp, g, d, tk, os⟩) l items := ⟨o, hl, hc, n, hd⟩
    wp_walk using wpAny_loadPart' hl
    refine wpAny_stack_any fun st => wpAny_pure ?_
    split
    · rename_i c _ _ _ _ _
      cases (c == Value.type "enumerate")
      all_goals
        wp_walk using wpAny_loadPart' hl, wpAny_pyIter_tuple hL
        exact ⟨_, rfl, h⟩
    · wp_walk using wpAny_loadPart' hl, wpAny_pyIter_tuple hL
      exact ⟨_, rfl, h⟩
end
section
variable {prog : Program} {w : World} {A : Around} {E : Value → Shared → Prop} {s : Shared}
theorem callEnumT {l : Addr} {items : Array Value} {Q : Value → Shared → Prop} (hL : s.heap.IsTuple l items)
    (h : ∀ h', IsEnum h' (s.heap.objs.size + 1) s.heap.objs.size 0 .none → h'.IsTupleIter s.heap.objs.size l 0 → h'.objs.size = s.heap.objs.size + 2 →
      (∀ b o, s.heap.get? b = some o → h'.get? b = some o) → Q (.ref (s.heap.objs.size + 1)) { s with heap := h' }) :
    wpAny (model prog w) A (call (.type "enumerate") [.ref l]) Q E s := by
  obtain ⟨o, hl, hc, n, hd⟩ := hL
  refine callType_new F.called_enumerate (by decide) (F.typeCall_enumerate_1 _) (F.newCall_enumerate_1 _) (fun obj => F.args_object_init_2 obj _) F.entry_enumerate_new
    (enumNewT l items o hc n hd) ⟨hl, ?_⟩
  have hz : (s.heap.push { cls := .type "tuple_iterator", data := .fields #[.ref l, .int 0 0] }).objs.size = s.heap.objs.size + 1 := Heap.size_push ..
  show _ ∧ _
  rw [hz]
  have he : IsEnum ((s.heap.push { cls := .type "tuple_iterator", data := .fields #[.ref l, .int 0 0] }).push
      { cls := .type "enumerate", data := .fields #[.none, .bool false, .ref s.heap.objs.size, rawInt 0, .none, .none] }) (s.heap.objs.size + 1) s.heap.objs.size 0 .none := by
    have q := Heap.get?_push_size (s.heap.push { cls := .type "tuple_iterator", data := .fields #[.ref l, .int 0 0] })
      (o := { cls := .type "enumerate", data := .fields #[.none, .bool false, .ref s.heap.objs.size, rawInt 0, .none, .none] }) rfl
    rw [hz] at q
    exact q
  exact ⟨⟨_, he, rfl⟩, h _ he ⟨_, Heap.get?_push_of_some _ (Heap.get?_push_size _ rfl), rfl, rfl⟩ (by rw [Heap.size_push, hz]) fun b o x => Heap.get?_push_of_some _ (Heap.get?_push_of_some _ x)⟩
end
/-- the tuple at a, each item in a new pair -/
def Itet (K : PySem.W.Frag) (a : Addr) : It :=
  ⟨fun i H => ∃ (xs : List V) (x : V), SqT K H a xs ∧ xs[i]? = some x, fun i H v H' => ∃ T x, v = .ref T ∧ H T = none ∧ H' = upd H T (.tup [.int (i : Nat), x]) ∧ ∀ xs, SqT K H a xs → xs[i]? = some x, fun i H => ∃ xs : List V, SqT K H a xs ∧ xs.length = i⟩
theorem turnEnumT {P : Program} {w : World} {K : PySem.W.Frag} {elts : List Expr} {kk : Nat} {tpos : Pos} (a e it : Addr) (items : Array Value) (hia : a ≠ it) (hea : a ≠ e) :
    Turn P w K (.Tuple elts kk tpos) (Itet K a) [e, it] e (fun i h => (∃ old, IsEnum h e it ((i : Nat) : Int) old) ∧ h.IsTupleIter it a i ∧ e ≠ it) where
  mem := by simp
  obj := fun i h st b hb => by
    obtain ⟨⟨old, he⟩, ⟨o, ho, hc, hd⟩, _⟩ := st
    have e' : b = e ∨ b = it := by simpa using hb
    rcases e' with z | z
    · subst z; exact ⟨_, he, fun v q => nomatch q⟩
    · subst z; exact ⟨o, ho, fun v q => by rw [hd] at q; cases q⟩
  keep := fun i h h' st k => let ⟨⟨old, he⟩, hi, hne⟩ := st; ⟨⟨old, k e (by simp) _ he⟩, hi.at fun o q => k it (by simp) o q, hne⟩
  item := by
    intro X hP hw hK hc i pins s σ H E I hf st hg
    subst hP hw hK
    obtain ⟨⟨old, he⟩, hit, hne⟩ := st
    obtain ⟨xs, x, hq, hx⟩ := hg
    obtain ⟨its, rv, p, hz⟩ := I.tuple hq
    obtain ⟨u, hu, ru⟩ := rv.get hx
    have hel : e < s.heap.objs.size := Heap.lt_size he
    have hil : it < s.heap.objs.size := by obtain ⟨_, q, _⟩ := hit; exact Heap.lt_size q
    have D := Draws.tuple (prog := X.prog) (w := X.w) (A := X.A.in1) (I.ok.hd hc) it a hia its.toArray
    have hlt : i < its.toArray.size := by
      have q := (List.getElem?_eq_some_iff.mp hu).1
      simpa using q
    refine wpAny_pyNext_enum_itemD D he ⟨hit, p⟩ hlt hne (fun z => ?_) fun x' h' tk hP ho hst' hT hsz hk => ?_
    · rcases List.mem_cons.mp z with z | z
      · exact hne z
      · exact hea (List.mem_singleton.mp z).symm
    have ex' : x' = u := by
      have q : its.toArray[i]? = some x' := hP
      have q2 : its.toArray[i]? = some u := by simpa using hu
      rw [q] at q2
      exact Option.some.inj q2
    subst ex'
    refine ⟨_, rfl, wpAny_letOwnedTupleGo_enum (s := { s with heap := h', toks := tk + 1 }) ho fun h'' he' sb => ?_⟩
    have hT2 : h''.get? s.heap.objs.size = some { cls := .type "tuple", data := .seq #[.int i tk, x'] } := (sb.2 _ (Nat.ne_of_gt hel)).trans hT
    have new : ObjOk X.prog X.w (upd H s.heap.objs.size (.tup [.int (i : Nat), x])) h'' s.heap.objs.size (.tup [.int (i : Nat), x]) :=
      ⟨by show 2 ≤ sizeLine; decide, [.int i tk, x'], .cons ⟨_, rfl⟩ (.cons ru .nil), ⟨_, hT2, rfl, _, rfl⟩⟩
    have I1 : Inv X pins σ (upd H s.heap.objs.size (.tup [.int (i : Nat), x])) { s with heap := h'', toks := tk + 1 } :=
      I.turnedNew (ch := [e, it]) (fun b ob hb q => (sb.2 b (fun z => hb (by simp [z]))).trans (hk b ob (fun z => hb (by simp [z])) (fun z => hb (by simp [z])) q)) hf (Nat.le_refl _) new
    refine ⟨.ref s.heap.objs.size, _, I1, rfl, ⟨_, x, rfl, I.hok.fresh (Nat.le_refl _), rfl, fun ys hy => by rw [I.tuple_inj hy hq]; exact hx⟩, ⟨⟨x', ?_⟩, hst'.1.at fun o q => (sb.2 it (Ne.symm hne)).trans q, hne⟩, fun b hb => ?_⟩
    · have e1 : ((i + 1 : Nat) : Int) = (i : Int) + 1 := by omega
      rw [e1]; exact he'
    · have hb' : b < s.heap.objs.size := by
        have e' : b = e ∨ b = it := by simpa using hb
        rcases e' with z | z
        · rw [z]; exact hel
        · rw [z]; exact hil
      rw [upd_ne (Nat.ne_of_lt hb')]
      exact (hf b hb).1
  done := by
    intro X hP hw hK hc i pins s σ H E I hf st hg
    subst hP hw hK
    obtain ⟨⟨old, he⟩, hit, hne⟩ := st
    obtain ⟨xs, hq, hx⟩ := hg
    obtain ⟨its, rv, p, hz⟩ := I.tuple hq
    obtain ⟨f0, f1, f2, f3, f4, f5⟩ := hf it (by simp)
    have hl := rv.length
    have D := Draws.tuple (prog := X.prog) (w := X.w) (A := X.A.in1) (I.ok.hd hc) it a hia its.toArray
    have hi : i = its.toArray.size := by rw [List.size_toArray]; omega
    subst hi
    exact wpAny_pyNext_enum_endD D he ⟨hit, p⟩ fun h' eb => ⟨rfl, I.turned (t' := s.toks) (fun b o hb q => eb b o hb q) f0 f1 f3 f4 f5⟩
  self := fun A i s Q E st h => let ⟨⟨_, he⟩, _⟩ := st; wpAny_pyIter_enum he h

def iEnumT (K : PySem.W.Frag) (ta : TA) : TI := fun σ H R => ta σ H fun vs H1 => ∃ a xs, vs = [.ref a] ∧ SqT K H1 a xs ∧ R (Itet K a) H1
theorem pi_enumT {X : Cx} {e : Expr} {ta : TA} {p pos tpos : Pos} {elts : List Expr} {kk : Nat} (hg : Gl X "enumerate") (hm : X.mg "enumerate" = none) (ha : PA X [e] ta) (hs : starEach [e] X.env = [(false, eval e X.env)] := by rfl) :
    PI X (.Tuple elts kk tpos) (.Call (.Name "enumerate" p) [e] [] pos) (iEnumT X.K ta) := by
  refine ⟨fun pins s σ H R I h => ?_⟩
  refine PyProof.Rows.Call_ (ld_blt I hg hm PyProof.Rows.boot_enumerate (PyProof.Rows.callWith_type1 (thn (ha.run pos pins s σ H _ I h) fun us s1 ⟨vs, H1, I1, r1, q1⟩ => ?_) hs rfl))
  obtain ⟨a, xs, ex, hq, q⟩ := q1
  subst ex
  cases r1 with
  | cons r rr =>
    cases rr
    cases r
    obtain ⟨its, rv, p', hz⟩ := I1.tuple hq
    have hal : a < s1.heap.objs.size := p'.lt
    refine callEnumT (show s1.heap.IsTuple a its.toArray from p') fun h' he hit hsz hk => wpAny_pyIter_enum he ?_
    have I2 : Inv X pins σ H1 { s1 with heap := h' } := I1.kept (t' := s1.toks) hk
    refine ⟨s1.heap.objs.size + 1, [s1.heap.objs.size + 1, s1.heap.objs.size], _, _, H1, rfl, I2, turnEnumT a (s1.heap.objs.size + 1) s1.heap.objs.size its.toArray (Nat.ne_of_lt hal) (Nat.ne_of_lt (Nat.lt_succ_of_lt hal)), ⟨⟨.none, he⟩, hit, Nat.succ_ne_self _⟩, fun b hb => ?_, q⟩
    have e' : b = s1.heap.objs.size + 1 ∨ b = s1.heap.objs.size := by simpa using hb
    have hle : s1.heap.objs.size ≤ b := by
      rcases e' with z | z
      · rw [z]; exact Nat.le_add_right _ _
      · rw [z]; exact Nat.le_refl _
    exact I1.fpOk hle (I1.hok.fresh hle)
theorem wk_enumT {K : PySem.W.Frag} {Hb : Hp} {p : Addr} {xs : List V} {its : List PyData} (s : SqT K Hb p xs) (r : DpAll K Hb xs its) : DWk K Hb (Itet K p) (enD its) where
  go := fun i Hb' H s1 s2 hi => by
    have hi' : i < xs.length := by rw [r.length]; simpa [enD] using hi
    exact ⟨xs, xs[i], sameT (s1.trans s2) s, by simp [hi']⟩
  stop := fun Hb' H s1 s2 => ⟨xs, sameT (s1.trans s2) s, by rw [r.length]; simp [enD]⟩
  yld := fun i Hb' H x H' s1 s2 hi y => by
    obtain ⟨T, v, rfl, h3, rfl, h1⟩ := y
    have hi' : i < its.length := by simpa [enD] using hi
    obtain ⟨d, hd, h⟩ := r.get' (h1 xs (sameT (s1.trans s2) s))
    refine ⟨.tuple [.int (i : Nat), d], ?_, same_upd h3, ?_⟩
    · have e : its[i] = d := by
        have := List.getElem?_eq_getElem hi'
        rw [this] at hd; exact Option.some.inj hd
      simp [enD, hi', e]
    · rw [ex_upd s2 h3]
      exact .tup (SqT.of upd_same) (.cons (.int _) (.one ((h.same s1).same (same_upd (sub_none s2 h3)))))

/-! ### what a for walks, over data -/
section
variable {X : Cx} {tg a b c e : Expr} {es : List Expr} {fa fb fc : En → Option PyData} {ga : En → Option (List PyData)} {pos : Pos}
theorem di_list (ha : PE X a (tE X.K fa)) : PI X tg a (tI X.K (iB fa lsD)) := PI.imp (pi_list ha) fun σ H R ⟨Hb, δ, S, its, hi, q⟩ => by
  obtain ⟨d, hd, hl⟩ := Option.bind_eq_some_iff.mp hi
  refine ⟨Hb, δ, S, d, hd, S.bs, fun v H1 s hv => ?_⟩
  unfold lsD at hl
  split at hl
  · cases hl
    obtain ⟨p, xs, rfl, sq, r⟩ := dp_lst hv
    exact ⟨p, rfl, ⟨xs, (ex_sub S.bs s).seq sq⟩, q _ H1 s (wk_list sq r)⟩
  · cases hl
theorem di_tup (ha : PE X a (tE X.K fa)) : PI X tg a (tI X.K (iB fa tuD)) := PI.imp (pi_tup ha) fun σ H R ⟨Hb, δ, S, its, hi, q⟩ => by
  obtain ⟨d, hd, hl⟩ := Option.bind_eq_some_iff.mp hi
  refine ⟨Hb, δ, S, d, hd, S.bs, fun v H1 s hv => ?_⟩
  unfold tuD at hl
  split at hl
  · cases hl
    obtain ⟨p, xs, rfl, sq, r⟩ := dp_tup hv
    exact ⟨p, rfl, ⟨xs, sameT (ex_sub S.bs s) sq⟩, q _ H1 s (wk_tup sq r)⟩
  · cases hl
theorem di_str (ha : PE X a (tE X.K fa)) : PI X tg a (tI X.K (iB fa chD)) := PI.imp (pi_str ha) fun σ H R ⟨Hb, δ, S, its, hi, q⟩ => by
  obtain ⟨d, hd, hl⟩ := Option.bind_eq_some_iff.mp hi
  refine ⟨Hb, δ, S, d, hd, S.bs, fun v H1 s hv => ?_⟩
  unfold chD at hl
  split at hl
  · cases hl
    exact ⟨_, dp_str hv, q _ H1 s wk_str⟩
  · cases hl
theorem di_rng1 {p : Pos} (hg : Gl X "range") (hm : X.mg "range" = none) (ha : PA X [a] (tA X.K ga)) (hs : starEach [a] X.env = [(false, eval a X.env)] := by rfl) : PI X tg (.Call (.Name "range" p) [a] [] pos) (tI X.K (iB ga rg1)) := PI.imp (pi_range1 hg hm ha hs) fun σ H R ⟨Hb, δ, S, its, hi, q⟩ => by
  obtain ⟨d, hd, hl⟩ := Option.bind_eq_some_iff.mp hi
  refine ⟨Hb, δ, S, d, hd, fun v H1 s hv => ?_⟩
  unfold rg1 at hl
  split at hl
  · split at hl
    · rename_i c
      cases hl
      cases hv with
      | cons h1 h2 =>
        cases h2
        exact ⟨_, by rw [dp_int h1], c.1, c.2, q _ H1 s wk_rng⟩
    · cases hl
  · cases hl
theorem di_rng2 {p : Pos} (hg : Gl X "range") (hm : X.mg "range" = none) (ha : PA X [a, b] (tA X.K ga)) (hs : starEach [a, b] X.env = [(false, eval a X.env), (false, eval b X.env)] := by rfl) (hs2 : starEach [b] X.env = [(false, eval b X.env)] := by rfl) :
    PI X tg (.Call (.Name "range" p) [a, b] [] pos) (tI X.K (iB ga rg2)) := PI.imp (pi_range2 hg hm ha hs hs2) fun σ H R ⟨Hb, δ, S, its, hi, q⟩ => by
  obtain ⟨d, hd, hl⟩ := Option.bind_eq_some_iff.mp hi
  refine ⟨Hb, δ, S, d, hd, fun v H1 s hv => ?_⟩
  unfold rg2 at hl
  split at hl
  · split at hl
    · rename_i c
      cases hl
      cases hv with
      | cons h1 h2 =>
        cases h2 with
        | cons h2 h3 =>
          cases h3
          exact ⟨_, _, by rw [dp_int h1, dp_int h2], ⟨c.1, c.2.1, c.2.2.1, c.2.2.2⟩, q _ H1 s wk_rng⟩
    · cases hl
  · cases hl
def oneL (f : En → Option PyData) (k : PyData → Option (List PyData)) : En → Option (List PyData) := iB f fun d => (k d).map enD
theorem di_enum {p tpos : Pos} {elts : List Expr} {kk : Nat} (hg : Gl X "enumerate") (hm : X.mg "enumerate" = none) (ha : PE X e (tE X.K fa)) (hs : starEach (e :: []) X.env = (false, eval e X.env) :: starEach [] X.env := by rfl) :
    PI X (.Tuple elts kk tpos) (.Call (.Name "enumerate" p) [e] [] pos) (tI X.K (oneL fa lsD)) := PI.imp (pi_enum hg hm (pa_cons ha pa_nil hs) hs) fun σ H R ⟨Hb, δ, S, its, hi, q⟩ => by
  obtain ⟨d, hd, hl⟩ := Option.bind_eq_some_iff.mp hi
  obtain ⟨xs', hl2, e2⟩ := Option.map_eq_some_iff.mp hl
  clear hl
  subst e2
  refine ⟨Hb, δ, S, d, hd, S.bs, fun v H1 s hv => ?_⟩
  unfold lsD at hl2
  split at hl2
  · cases hl2
    obtain ⟨p, xs, rfl, sq, r⟩ := dp_lst hv
    exact ⟨p, xs, rfl, (ex_sub S.bs s).seq sq, q _ H1 s (wk_enum sq r)⟩
  · cases hl2
theorem di_enumT {p tpos : Pos} {elts : List Expr} {kk : Nat} (hg : Gl X "enumerate") (hm : X.mg "enumerate" = none) (ha : PE X e (tE X.K fa)) (hs : starEach (e :: []) X.env = (false, eval e X.env) :: starEach [] X.env := by rfl) :
    PI X (.Tuple elts kk tpos) (.Call (.Name "enumerate" p) [e] [] pos) (tI X.K (oneL fa tuD)) := PI.imp (pi_enumT hg hm (pa_cons ha pa_nil hs) hs) fun σ H R ⟨Hb, δ, S, its, hi, q⟩ => by
  obtain ⟨d, hd, hl⟩ := Option.bind_eq_some_iff.mp hi
  obtain ⟨xs', hl2, e2⟩ := Option.map_eq_some_iff.mp hl
  clear hl
  subst e2
  refine ⟨Hb, δ, S, d, hd, S.bs, fun v H1 s hv => ?_⟩
  unfold tuD at hl2
  split at hl2
  · cases hl2
    obtain ⟨p, xs, rfl, sq, r⟩ := dp_tup hv
    exact ⟨p, xs, rfl, sameT (ex_sub S.bs s) sq, q _ H1 s (wk_enumT sq r)⟩
  · cases hl2
end

/-! ### for, while -/
def forD (T : Tg) (body : En → Option Res) : List PyData → En → Option Res
  | [], δ => some (.nx δ)
  | d :: ds, δ => (T.cut d).bind fun xs => (body (setD T.ix xs δ)).bind fun r => thenR r (forD T body ds)
def sFor (fi : En → Option (List PyData)) (T : Tg) (body : En → Option Res) : En → Option Res := fun δ => (fi δ).bind fun its => forD T body its δ
def whileD (c : En → Option Bool) (body : En → Option Res) : Nat → En → Option Res
  | 0, _ => none
  | n + 1, δ => (c δ).bind fun b => if b = true then (body δ).bind fun r => thenR r (whileD c body n) else some (.nx δ)
section
variable {X : Cx} {E : XK} {cls : Nat → Value} {tg iter c : Expr} {body : List Stmt} {fi : En → Option (List PyData)} {ca : En → Option Bool} {g : En → Option Res} {T : Tg} {pos : Pos}
theorem ds_for (hp : PassesOwn (model X.prog X.w) X.A X.env X.xe) (hc : X.calm = true) (hi : PI X tg iter (tI X.K fi)) (hg : PG X tg (gD X.K T)) (hb : PSs X body (tS X.K E cls g)) (hs : ∀ x, foldedSetIterable iter X.env x = pure x := by intro _; rfl) :
    PS X (.For tg iter body [] pos) (tS X.K E cls (sFor fi T g)) := PS.imp (ps_for hp hc hi hg hb hs) fun D σ H ⟨Hb0, H0, Hb, δ, S, r, hr, P⟩ => by
  obtain ⟨its, hits, hr⟩ := Option.bind_eq_some_iff.mp hr
  refine ⟨Hb, δ, S.sta, its, hits, fun J H1 s W => ?_⟩
  have S1 := S.grow s
  have P1 : RPost X.K E cls D Hb0 H0 (ex Hb H H1) r := P.mono (sub_ex S.bs)
  refine ⟨fun i m σ HH => m = its.length - i ∧ i ≤ its.length ∧ ∃ Hb' δ', Same (ex Hb H H1) Hb' ∧ Stt X.K Hb0 H0 Hb' HH σ δ' ∧ forD T g (its.drop i) δ' = some r, ⟨its.length, by simp, Nat.zero_le _, _, δ, Same.refl _, S1, hr⟩, ?_⟩
  rintro i m σ2 H2 ⟨rfl, hi, Hb2, δ2, s2, S2, h2⟩
  by_cases hlt : i < its.length
  · refine .inr ⟨W.go i Hb2 H2 s2 S2.bs hlt, fun σ HH => i + 1 ≤ its.length ∧ ∃ Hb' δ', Same Hb2 Hb' ∧ Stt X.K Hb0 H0 Hb' HH σ δ' ∧ forD T g (its.drop (i + 1)) δ' = some r, fun σ' H' ⟨h1, Hb', δ', s', S', f'⟩ => ⟨its.length - (i + 1), by omega, rfl, h1, Hb', δ', s2.trans s', S', f'⟩, fun x H' y => ?_⟩
    obtain ⟨d, hd, sy, hx⟩ := W.yld i Hb2 H2 x H' s2 S2.bs hlt y
    have hdrop : its.drop i = d :: its.drop (i + 1) := by
      rw [List.drop_eq_getElem_cons hlt]
      rw [List.getElem?_eq_getElem hlt] at hd
      rw [Option.some.inj hd]
    rw [hdrop] at h2
    obtain ⟨xs, hxs, h2⟩ := Option.bind_eq_some_iff.mp h2
    obtain ⟨r1, hr1, h2⟩ := Option.bind_eq_some_iff.mp h2
    have S3 := S2.grow sy
    refine ⟨_, d, xs, S3.bs, hx, hxs, fun ws hws => ?_⟩
    refine ⟨Hb0, H0, _, _, S3.setL hws, r1, hr1, ?_⟩
    cases r1 with
    | nx δ4 => exact fun σ' H4 Hb4 s4 S4 => ⟨hlt, Hb4, δ4, (sub_ex S2.bs).trans s4, S4, h2⟩
    | rt d => cases h2; exact P1
    | ex t => cases h2; exact P1
  · have e : i = its.length := by omega
    subst e
    rw [List.drop_length] at h2
    cases h2
    exact .inl ⟨W.stop Hb2 H2 s2 S2.bs, P1 _ _ _ s2 S2⟩
theorem ds_while {n : Nat} (hp : PassesOwn (model X.prog X.w) X.A X.env X.xe) (hc : PT X c (tT X.K ca)) (hb : PSs X body (tS X.K E cls g)) : PS X (.While c body [] pos) (tS X.K E cls (whileD ca g n)) := PS.imp (ps_while hp hc hb) fun D σ H ⟨Hb0, H0, Hb, δ, S, r, hr, P⟩ => by
  refine ⟨fun m σ H => ∃ Hb' δ', Same Hb Hb' ∧ Stt X.K Hb0 H0 Hb' H σ δ' ∧ whileD ca g m δ' = some r, ⟨n, Hb, δ, Same.refl _, S, hr⟩, ?_⟩
  rintro m σ2 H2 ⟨Hb2, δ2, s2, S2, h2⟩
  cases m with
  | zero => cases h2
  | succ m =>
    obtain ⟨k, hk, h2⟩ := Option.bind_eq_some_iff.mp h2
    refine ⟨Hb2, δ2, S2.sta, k, hk, fun H3 s3 => ?_⟩
    have S3 := S2.grow s3
    have s23 : Same Hb (ex Hb2 H2 H3) := s2.trans (sub_ex S2.bs)
    cases k with
    | true =>
      have h2' : ((g δ2).bind fun r => thenR r (whileD ca g m)) = some r := h2
      obtain ⟨r1, hr1, h2'⟩ := Option.bind_eq_some_iff.mp h2'
      refine ⟨fun σ H => ∃ Hb' δ', Same Hb Hb' ∧ Stt X.K Hb0 H0 Hb' H σ δ' ∧ whileD ca g m δ' = some r, fun σ' H' q => ⟨m, Nat.lt_succ_self m, q⟩, Hb0, H0, _, δ2, S3, r1, hr1, ?_⟩
      cases r1 with
      | nx δ4 => exact fun σ' H4 Hb4 s4 S4 => ⟨Hb4, δ4, s23.trans s4, S4, h2'⟩
      | rt d => cases h2'; exact P
      | ex t => cases h2'; exact P
    | false =>
      cases h2
      exact P _ _ _ s23 S3
end
end SQ
/-! ## SqD6 -/
set_option Elab.async false
set_option linter.all false
set_option maxRecDepth 100000
set_option maxHeartbeats 4000000
namespace SQ
open PySem PySem.Spec L2 TL

/-! ### list comprehensions -/
def wipeD (δ : En) : List Nat → En
  | [] => δ
  | v :: vs => (wipeD δ vs).set v .u
def lcD (T : Tg) (fe : En → Option PyData) (δ : En) : List PyData → Option (List PyData)
  | [] => some []
  | d :: ds => (T.cut d).bind fun xs => (fe (setD T.ix xs δ)).bind fun y => (lcD T fe δ ds).map (y :: ·)
def eLc (fi : En → Option (List PyData)) (T : Tg) (own : List Nat) (fe : En → Option PyData) : En → Option PyData := fun δ =>
  (fi δ).bind fun its => if its.length ≤ sizeLine then (lcD T fe (wipeD δ own) its).map .list else none
section
variable {K : PySem.W.Frag} {Hb H H' : Hp} {σ : L2.St} {δ : En} {p D : Addr} {o : HO}
theorem Sta.unset (S : Sta K Hb H σ δ) (i : Nat) : Sta K Hb H (σ.set i none) (δ.set i .u) where
  bs := S.bs
  len := by rw [List.length_set, List.length_set]; exact S.len
  da := fun j x e => by
    rcases getElem?_set' e with ⟨rfl, q⟩ | ⟨ne, q⟩
    · cases q
    · obtain ⟨w, h1, h2⟩ := S.da j x q
      exact ⟨w, by rw [List.getElem?_set_ne ne]; exact h1, h2⟩
  ow := fun j x e => by
    rcases getElem?_set' e with ⟨rfl, q⟩ | ⟨ne, q⟩
    · cases q
    · obtain ⟨a, vs, h1, h2, h3, h4⟩ := S.ow j x q
      exact ⟨a, vs, by rw [List.getElem?_set_ne ne]; exact h1, h2, h3, h4⟩
  dj := fun j k xs ys a e1 e2 e3 e4 => by
    rcases getElem?_set' e1 with ⟨rfl, q⟩ | ⟨ne, q⟩
    · cases q
    · rcases getElem?_set' e2 with ⟨rfl, q2⟩ | ⟨ne2, q2⟩
      · cases q2
      · rw [List.getElem?_set_ne ne] at e3
        rw [List.getElem?_set_ne ne2] at e4
        exact S.dj j k xs ys a q q2 e3 e4
  bk := bk_set S.bk (fun C kn q => by cases q) (Same.refl _)
theorem Sta.wipe (S : Sta K Hb H σ δ) : ∀ vs : List Nat, Sta K Hb H (L2.wipe σ vs) (wipeD δ vs)
  | [] => S
  | v :: vs => (S.wipe vs).unset v
/-- an object that no slot holds and the base doesn't know -/
theorem Sta.hid (S : Sta K Hb H σ δ) (hD : Hb D = none) (nD : ∀ (i : Nat) (xs : List PyData), δ[i]? = some (Sl.o xs) → σ[i]? ≠ some (some (V.ref D))) : Sta K Hb (upd H D o) σ δ where
  bs := fun b u e => by
    have hne : b ≠ D := fun q => by rw [q, hD] at e; cases e
    rw [upd_ne hne]; exact S.bs b u e
  len := S.len
  da := S.da
  ow := fun i xs e => by
    obtain ⟨a, vs, h1, h2, h3, h4⟩ := S.ow i xs e
    have hne : a ≠ D := fun q => nD i xs e (by rw [← q]; exact h1)
    exact ⟨a, vs, h1, h2, by rw [upd_ne hne]; exact h3, h4⟩
  dj := S.dj
  bk := S.bk
theorem wipe_in {i : Nat} : ∀ {vs : List Nat} {σ : L2.St}, i ∈ vs → i < σ.length → (L2.wipe σ vs)[i]? = some none
  | [], _, h, _ => by cases h
  | v :: vs, σ, h, hl => by
    show ((L2.wipe σ vs).set v none)[i]? = some none
    by_cases e : v = i
    · subst e
      rw [List.getElem?_set_self (by rw [wipe_length]; exact hl)]
    · rw [List.getElem?_set_ne e]
      rcases List.mem_cons.mp h with q | q
      · exact absurd q.symm e
      · exact wipe_in q hl
theorem setS_length {is : List Nat} : ∀ {ws : List V} {σ : L2.St}, (setS is ws σ).length = σ.length := by
  induction is with
  | nil => intro ws σ; cases ws <;> rfl
  | cons i is ih =>
    intro ws σ
    cases ws with
    | nil => rfl
    | cons w ws => show (setS is ws (σ.set i (some w))).length = _; rw [ih, List.length_set]
theorem setS_out {is : List Nat} {j : Nat} : ∀ {ws : List V} {σ : L2.St}, j ∉ is → (setS is ws σ)[j]? = σ[j]? := by
  induction is with
  | nil => intro ws σ _; cases ws <;> rfl
  | cons i is ih =>
    intro ws σ h
    cases ws with
    | nil => rfl
    | cons w ws =>
      show (setS is ws (σ.set i (some w)))[j]? = _
      rw [ih (fun q => h (List.mem_cons_of_mem _ q)), List.getElem?_set_ne (fun q => h (by subst q; exact List.mem_cons_self))]
theorem wipe_set {is vs : List Nat} {ws : List V} (h : ∀ i ∈ is, i ∈ vs) : L2.wipe (setS is ws (L2.wipe σ vs)) vs = L2.wipe σ vs := by
  refine List.ext_getElem? fun j => ?_
  by_cases hj : j ∈ vs
  · by_cases hl : j < σ.length
    · rw [wipe_in hj (by rw [setS_length, wipe_length]; exact hl), wipe_in hj hl]
    · rw [List.getElem?_eq_none (by rw [wipe_length, setS_length, wipe_length]; omega), List.getElem?_eq_none (by rw [wipe_length]; omega)]
  · rw [wipe_out hj, setS_out (fun q => hj (h j q))]
end
theorem lcD_cons {T : Tg} {fe : En → Option PyData} {δ : En} {d : PyData} {ds zs : List PyData} (h : lcD T fe δ (d :: ds) = some zs) : ∃ xs y ys, T.cut d = some xs ∧ fe (setD T.ix xs δ) = some y ∧ lcD T fe δ ds = some ys ∧ zs = y :: ys := by
  obtain ⟨xs, h1, h⟩ := Option.bind_eq_some_iff.mp h
  obtain ⟨y, h2, h⟩ := Option.bind_eq_some_iff.mp h
  obtain ⟨ys, h3, rfl⟩ := Option.map_eq_some_iff.mp h
  exact ⟨xs, y, ys, h1, h2, h3, rfl⟩
theorem d_lc {X : Cx} {elt tg iter : Expr} {scope : Scope} {own : List (Str × Nat)} {pos : Pos} {fi : En → Option (List PyData)} {fe : En → Option PyData} {T : Tg} (hc : X.calm = true) (hN : X.N.Nodup) (hi : PI X tg iter (tI X.K fi)) (ok : BlkOk X.N X.env.scope scope own)
    (hg : ∀ (s : Shared) (H : Hp) (C : Addr) (cl : List (Str × Addr)) (fp : List Addr), PG (X.blk s H scope (compEnvC scope cl C X.env) fp) tg (gD X.K T))
    (he : ∀ (s : Shared) (H : Hp) (C : Addr) (cl : List (Str × Addr)) (fp : List Addr), PE (X.blk s H scope (compEnvC scope cl C X.env) fp) elt (tE X.K fe)) (hT : ∀ i ∈ T.ix, i ∈ own.map (·.2)) (hs : ∀ x, foldedSetIterable iter X.env x = pure x := by intro _; rfl) :
    PE X (.ListComp elt [⟨tg, iter, [], 0⟩] scope pos) (tE X.K (eLc fi T (own.map (·.2)) fe)) := PE.imp (pe_lc hc hN hi ok hg (fun _ _ _ _ _ => pts_nil) he hs) fun σ H Q ⟨Hb, δ, S, e, he, O⟩ => by
  obtain ⟨its, hits, he⟩ := Option.bind_eq_some_iff.mp he
  split at he
  · rename_i hsz
    obtain ⟨res, hres, rfl⟩ := Option.map_eq_some_iff.mp he
    refine ⟨Hb, δ, S, its, hits, fun J H1 s W D hD => ?_⟩
    generalize own.map (·.2) = vs at *
    have S1 := (S.grow s).wipe vs
    have noD : ∀ (i : Nat) (xs : List PyData), (wipeD δ vs)[i]? = some (Sl.o xs) → (L2.wipe σ vs)[i]? ≠ some (some (V.ref D)) := fun i xs e q => by
      obtain ⟨a, ws, h1, _, h3, _⟩ := S1.ow i xs e
      rw [q] at h1
      cases h1
      rw [hD] at h3; cases h3
    have hD0 : H D = none := s.free hD
    have hBD : ex Hb H H1 D = none := sub_none S1.bs hD
    refine ⟨fun i m HH => m = its.length - i ∧ i ≤ its.length ∧ ∃ Hb' acc ys zs, Same (ex Hb H H1) Hb' ∧ Sta X.K Hb' HH (L2.wipe σ vs) (wipeD δ vs) ∧ Same H HH ∧ Same Hb' (ex Hb H HH) ∧ Hb' D = none ∧ HH D = some (.lst acc) ∧ DpAll X.K Hb' acc ys ∧ ys.length = i ∧
      lcD T fe (wipeD δ vs) (its.drop i) = some zs ∧ res = ys ++ zs, ⟨its.length, by simp, Nat.zero_le _, ex Hb H H1, [], [], res, Same.refl _, S1.hid hBD noD, s.trans (same_upd hD), ?_, hBD, upd_same, .nil, rfl, hres, rfl⟩, ?_⟩
    · intro b u e
      have hne : b ≠ D := fun q => by rw [q, hBD] at e; cases e
      cases q : H b with
      | some z => rw [ex_old (by rw [q]; rfl)] at e ⊢; exact e
      | none => rw [ex_new q] at e ⊢; rw [upd_ne hne]; exact e
    · rintro i m H2 ⟨rfl, hi, Hb2, acc, ys, zs, s2, S2, b2, bb2, hD2, hl2, r2, hy2, h2, e2⟩
      by_cases hlt : i < its.length
      · refine .inr ⟨W.go i Hb2 H2 s2 S2.bs hlt, fun HH => i + 1 ≤ its.length ∧ ∃ Hb' acc ys zs, Same (ex Hb H H1) Hb' ∧ Sta X.K Hb' HH (L2.wipe σ vs) (wipeD δ vs) ∧ Same H HH ∧ Same Hb' (ex Hb H HH) ∧ Hb' D = none ∧ HH D = some (.lst acc) ∧ DpAll X.K Hb' acc ys ∧ ys.length = i + 1 ∧
          lcD T fe (wipeD δ vs) (its.drop (i + 1)) = some zs ∧ res = ys ++ zs, fun H' ⟨h1, q⟩ => ⟨its.length - (i + 1), by omega, rfl, h1, q⟩, fun x H3 y => ?_⟩
        obtain ⟨d, hd, sy, hx⟩ := W.yld i Hb2 H2 x H3 s2 S2.bs hlt y
        have hdrop : its.drop i = d :: its.drop (i + 1) := by
          rw [List.drop_eq_getElem_cons hlt]
          rw [List.getElem?_eq_getElem hlt] at hd
          rw [Option.some.inj hd]
        rw [hdrop] at h2
        obtain ⟨xs, yv, ys', hxs, hfe, h2, ezs⟩ := lcD_cons h2
        have S3 := S2.grow sy
        have bb3 := ex_mono b2 bb2 sy
        refine ⟨_, d, xs, S3.bs, hx, hxs, fun ws hws => ?_⟩
        refine ⟨wipe_set hT, ?_⟩
        unfold tYes; dsimp only
        rw [if_pos rfl]
        refine ⟨_, _, S3.setL hws, yv, hfe, S3.bs, fun v H4 s4 hv => ?_⟩
        have S4 := S3.grow s4
        have bb4 := ex_mono (b2.trans sy) bb3 s4
        have hD3 : ex Hb2 H2 H3 D = none := by rw [ex_old (by rw [hl2]; rfl)]; exact hD2
        have hl3 : H3 D = some (.lst acc) := sy _ _ hl2
        have hD4 : ex (ex Hb2 H2 H3) H3 H4 D = none := by rw [ex_old (by rw [hl3]; rfl)]; exact hD3
        have hl4 : H4 D = some (.lst acc) := s4 _ _ hl3
        refine ⟨acc, hl4, by rw [r2.length, hy2]; omega, hlt, ex (ex Hb2 H2 H3) H3 H4, acc ++ [v], ys ++ [yv], ys', (s2.trans (sub_ex S2.bs)).trans (sub_ex S3.bs), S4.hid hD4 noD, ?_, ?_, hD4, upd_same, ((r2.same (sub_ex S2.bs)).same (sub_ex S3.bs)).append (.one hv), by rw [List.length_append, hy2]; rfl, h2, by rw [e2, ezs, List.append_assoc]; rfl⟩
        · intro b u e
          have hne : b ≠ D := fun q => by rw [q, hD0] at e; cases e
          rw [upd_ne hne]; exact s4 _ _ (sy _ _ (b2 _ _ e))
        · intro b u e
          have hne : b ≠ D := fun q => by rw [q, hD4] at e; cases e
          have e3 := bb4 b u e
          cases q : H b with
          | some z => rw [ex_old (by rw [q]; rfl)] at e3 ⊢; exact e3
          | none => rw [ex_new q] at e3 ⊢; rw [upd_ne hne]; exact e3
      · have ei : i = its.length := by omega
        subst ei
        rw [List.drop_length] at h2
        cases h2
        rw [List.append_nil] at e2
        subst e2
        refine .inl ⟨W.stop Hb2 H2 s2 S2.bs, O.go _ H2 b2 (.lst (SqL.of (xs := acc) ?_) (r2.same bb2))⟩
        rw [ex_new hD0]; exact hl2
  · cases he
end SQ
/-! ## SqD7 -/
set_option Elab.async false
set_option linter.all false
set_option maxRecDepth 100000
set_option maxHeartbeats 4000000
namespace SQ
open PySem PySem.Spec L2 TL
open PyProof.Rows (envOfC)

/-! ### a def -/
def startD (n : Nat) (ds : List PyData) : En := ds.map Sl.d ++ List.replicate (n - ds.length) Sl.u
def outD : Option Res → Option PyData
  | some (.rt d) => some d
  | some (.nx _) => some .none
  | _ => none
def runG (n : Nat) (g : En → Option Res) (ds : List PyData) : Option PyData := outD (g (startD n ds))
theorem sta_start {K : PySem.W.Frag} {Hb H : Hp} {N : List Str} {vs : List V} {ds : List PyData} (bs : Same Hb H) (h : DpAll K Hb vs ds) : Sta K Hb H (L2.start N vs) (startD N.length ds) := by
  have none_u : ∀ {i : Nat} {x : Sl}, (startD N.length ds)[i]? = some x → (∃ d, ds[i]? = some d ∧ x = .d d) ∨ x = .u := fun {i x} e => by
    unfold startD at e
    by_cases hi : i < (ds.map Sl.d).length
    · rw [List.getElem?_append_left hi, List.getElem?_map] at e
      obtain ⟨d, hd, rfl⟩ := Option.map_eq_some_iff.mp e
      exact .inl ⟨d, hd, rfl⟩
    · rw [List.getElem?_append_right (by omega)] at e
      have := List.mem_of_getElem? e
      exact .inr (List.eq_of_mem_replicate this)
  refine ⟨bs, ?_, fun i x e => ?_, fun i xs e => ?_, fun i j xs ys a e1 => ?_, fun i C kn e => ?_⟩
  · unfold L2.start startD
    rw [List.length_append, List.length_append, List.length_map, List.length_map, List.length_replicate, List.length_replicate, h.length]
  · rcases none_u e with ⟨d, hd, q⟩ | q
    · cases q
      obtain ⟨v, hv, r⟩ := h.get hd
      refine ⟨v, ?_, r⟩
      unfold L2.start
      have hi := (List.getElem?_eq_some_iff.mp hv).1
      rw [List.getElem?_append_left (by rw [List.length_map]; exact hi), List.getElem?_map, hv]
      rfl
    · cases q
  · rcases none_u e with ⟨d, hd, q⟩ | q <;> cases q
  · rcases none_u e1 with ⟨d, hd, q⟩ | q <;> cases q
  · rcases none_u e with ⟨d, hd, q⟩ | q <;> cases q
theorem stt_start {K : PySem.W.Frag} {Hb H : Hp} {N : List Str} {vs : List V} {ds : List PyData} (bs : Same Hb H) (h : DpAll K Hb vs ds) : Stt K Hb H Hb H (L2.start N vs) (startD N.length ds) :=
  ⟨sta_start bs h, bs, Same.refl _, by rw [ex_id bs]; exact Same.refl _, fun i xs a e1 => by
    obtain ⟨_, vs', _, h2, _⟩ := (sta_start (N := N) bs h).ow i xs e1
    unfold startD at e1
    by_cases hi : i < (ds.map Sl.d).length
    · rw [List.getElem?_append_left hi, List.getElem?_map] at e1
      obtain ⟨d, hd, q⟩ := Option.map_eq_some_iff.mp e1
      cases q
    · rw [List.getElem?_append_right (by omega)] at e1
      have := List.mem_of_getElem? e1
      cases List.eq_of_mem_replicate this⟩
def cls0 : Nat → Value := fun _ => .none
section
variable {P : Program} {w : World} {K : PySem.W.Frag} {mg : Str → Option Value} {base : Heap}
theorem ok_pure {x qual : Str} {st : Stmt} {f : Addr} {fd : FuncData} {N ps : List Str} {k : Nat} {g : En → Option Res} (F : Fun K x qual st f fd) (S : FnScope N ps (defScope st))
    (h : ∀ (cdv : Value) (A : Around) (outer : List Env) (s : Shared) (H : Hp) (E : XK), Room k (A.deeper (envOfC qual (defScope st) s.heap.objs.size f cdv)) → PSs (cxOf CX0 P w K mg base N qual (defScope st) f cdv A outer s H E).nox (defBody st) (tS K E0 cls0 g)) :
    FnOk P w K mg base CX0 (k + 1) f fd ps (spD K ps.length (runG N.length g)) := by
  refine F.ok S (fun vs H Q E q => spD_len vs H Q E q) fun cdv A outer s H vs Q E hr q => ⟨_, h cdv A outer s H E hr, ?_⟩
  obtain ⟨Hb, ds, r, hn, d, hd, O⟩ := q
  unfold runG outD at hd
  split at hd
  · rename_i d' e
    cases hd
    exact ⟨Hb, H, Hb, _, stt_start O.bs r, _, e, fun v H' s hv => O.go v H' s hv⟩
  · rename_i δ' e
    cases hd
    exact ⟨Hb, H, Hb, _, stt_start O.bs r, _, e, fun σ' H' Hb' s S' => O.go _ H' S'.b0 .non⟩
  · cases hd
end

/-! ### defs that may raise -/
def outX : Option Res → Option (Except Nat PyData)
  | some (.rt d) => some (.ok d)
  | some (.nx _) => some (.ok .none)
  | some (.ex t) => some (.error t)
  | none => none
def runX (n : Nat) (g : En → Option Res) (ds : List PyData) : Option (Except Nat PyData) := outX (g (startD n ds))
def spX (K : PySem.W.Frag) (cls : Nat → Value) (n : Nat) (G : List PyData → Option (Except Nat PyData)) : Sp := fun vs H Q E => ∃ Hb ds, DpAll K Hb vs ds ∧ ds.length = n ∧ Same Hb H ∧
  ((∃ d, G ds = some (.ok d) ∧ Ot K Hb H d Q) ∨ ∃ t, G ds = some (.error t) ∧ ∀ H' dd, Same H H' → E (cls t) dd H')
section
variable {P : Program} {w : World} {K : PySem.W.Frag} {mg : Str → Option Value} {base : Heap}
theorem ok_raise {x qual : Str} {st : Stmt} {f : Addr} {fd : FuncData} {N ps : List Str} {k : Nat} {g : En → Option Res} {cls : Nat → Value} (F : Fun K x qual st f fd) (S : FnScope N ps (defScope st))
    (h : ∀ (cdv : Value) (A : Around) (outer : List Env) (s : Shared) (H : Hp) (E : XK), Room k (A.deeper (envOfC qual (defScope st) s.heap.objs.size f cdv)) → PSs (cxOf (L2.CX P w) P w K mg base N qual (defScope st) f cdv A outer s H E) (defBody st) (tS K E cls g)) :
    FnOk P w K mg base (L2.CX P w) (k + 1) f fd ps (spX K cls ps.length (runX N.length g)) := by
  refine F.okX S (fun vs H Q E ⟨Hb, ds, r, hn, _⟩ => by rw [r.length, hn]) fun cdv A outer s H vs Q E hr q => ⟨_, h cdv A outer s H E hr, ?_⟩
  obtain ⟨Hb, ds, r, hn, bs, q⟩ := q
  rcases q with ⟨d, hd, O⟩ | ⟨t, ht, O⟩
  · unfold runX outX at hd
    split at hd
    · rename_i d' e
      cases hd
      exact ⟨Hb, H, Hb, _, stt_start bs r, _, e, fun v H' s hv => O.go v H' s hv⟩
    · rename_i δ' e
      cases hd
      exact ⟨Hb, H, Hb, _, stt_start bs r, _, e, fun σ' H' Hb' s S' => O.go _ H' S'.b0 .non⟩
    · cases hd
    · cases hd
  · unfold runX outX at ht
    split at ht
    · cases ht
    · cases ht
    · rename_i t' e
      cases ht
      exact ⟨Hb, H, Hb, _, stt_start bs r, _, e, fun H' dd s => O H' dd s⟩
    · cases ht
end
/-- a call that may raise, in a def that lets it pass -/
def sCallX (G : List PyData → Option (Except Nat PyData)) (n : Nat) (f : En → Option (List PyData)) : En → Option Res := fun δ => (f δ).bind fun ds => if ds.length = n then (G ds).map fun r => match r with | .ok _ => .nx δ | .error t => .ex t else none
section
variable {X : Cx} {E : XK} {cls : Nat → Value} {e : Expr} {es : List Expr} {ga : En → Option (List PyData)} {pos : Pos}
theorem ds_callX {k n : Nat} {f : Addr} {fd : FuncData} {ps : List Str} {G : List PyData → Option (Except Nat PyData)} {x : Str} {p pos2 : Pos} (F : FnOk X.prog X.w X.K X.mg X.base (L2.CX X.prog X.w) k f fd ps (spX X.K cls n G)) (hr : Room k X.A) (hg : Gl X x) (hm : X.mg x = some (.ref f)) (hk : PySem.W.keepIn X.K (.ref f) = true)
    (hb : Binds X.K fd ps []) (hx : Passes (L2.CX X.prog X.w) X E) (ha : PA X (e :: es) (tA X.K ga)) (hdb : (x == ("__debug__" : Str)) = false := by decide) (he : starEach (e :: es) X.env = (false, eval e X.env) :: starEach es X.env := by rfl) (hpl : (backTo pos (starEach es X.env)).any (·.1) = false := by rfl)
    (hs : swapsWith (.Call (.Name x p) (e :: es) [] pos) none pos2.line X.env = pure false := by rfl) :
    PS X (.Expr (.Call (.Name x p) (e :: es) [] pos) pos2) (tS X.K E cls (sCallX G n ga)) := PS.imp (ps_expr (pe_call F hr hg hm hk hb .nil hx ha hdb he hpl) hs) fun D σ H ⟨Hb0, H0, Hb, δ, S, r, hr, P⟩ => by
  obtain ⟨ds, hds, hr⟩ := Option.bind_eq_some_iff.mp hr
  split at hr
  · rename_i c
    obtain ⟨r0, hr0, e0⟩ := Option.map_eq_some_iff.mp hr
    refine ⟨Hb, δ, S.sta, ds, hds, fun vs H1 s hvs => ?_⟩
    have S1 := S.grow s
    show spX X.K cls n G (vs ++ []) H1 (fun _ H2 => D.nx σ H2) E
    rw [List.append_nil]
    refine ⟨_, ds, hvs, c, S1.bs, ?_⟩
    cases r0 with
    | ok d =>
      cases e0
      exact .inl ⟨d, hr0, S1.bs, fun v H2 s2 hv => P _ H2 _ ((sub_ex S.bs).trans (sub_ex S1.bs)) (S1.grow s2)⟩
    | error t =>
      cases e0
      exact .inr ⟨t, hr0, fun H' dd s2 => P H' dd (S1.b0.trans s2)⟩
  · cases hr
end

/-! ### further built-ins -/
def srtI : PyData → Option PyData
  | .list ds => if ds.all (fun d => match d with | .int _ => true | _ => false) = true ∧ ds.length < 64 ∧ (ds.map fun d => match d with | .int i => i | _ => 0).Pairwise (· ≤ ·) then some (.list ds) else none
  | _ => none
theorem intsD : ∀ {ds : List PyData}, ds.all (fun d => match d with | .int _ => true | _ => false) = true → ds = (ds.map fun d => match d with | .int i => i | _ => 0).map PyData.int
  | [], _ => rfl
  | d :: ds, h => by
    rw [List.all_cons, Bool.and_eq_true] at h
    rw [List.map_cons, List.map_cons, ← intsD h.2]
    cases d <;> first | rfl | cases h.1
theorem perm_eq : ∀ {a b : List Int}, a.Perm b → a.Pairwise (· ≤ ·) → b.Pairwise (· ≤ ·) → a = b := fun {a b} h ha hb => by
  induction a generalizing b with
  | nil => exact (List.nil_perm.mp h).symm ▸ rfl
  | cons x xs ih =>
    cases b with
    | nil => exact absurd h.symm (by intro q; have := q.length_eq; simp at this)
    | cons y ys =>
      have hx : x ∈ y :: ys := h.mem_iff.mp List.mem_cons_self
      have hy : y ∈ x :: xs := h.mem_iff.mpr List.mem_cons_self
      have e : x = y := by
        rcases List.mem_cons.mp hx with q | q
        · exact q
        · rcases List.mem_cons.mp hy with r | r
          · exact r.symm
          · have h1 := (List.pairwise_cons.mp ha).1 y r
            have h2 := (List.pairwise_cons.mp hb).1 x q
            omega
      subst e
      rw [ih (List.Perm.cons_inv h) (List.pairwise_cons.mp ha).2 (List.pairwise_cons.mp hb).2]
section
variable {X : Cx} {a b c e : Expr} {es rest : List Expr} {fa fb fc : En → Option PyData} {ga : En → Option (List PyData)} {pos : Pos}
theorem d_sortI {p : Pos} (hg : Gl X "sorted") (hm : X.mg "sorted" = none) (ha : PE X a (tE X.K fa)) (hs : starEach (a :: []) X.env = (false, eval a X.env) :: starEach [] X.env := by rfl) (hpl : (backTo pos (starEach [] X.env)).any (·.1) = false := by rfl) :
    PE X (.Call (.Name "sorted" p) [a] [] pos) (tE X.K (e1 srtI fa)) := d_b1 cr_sorted (fun Hb H v dx e Q h ho O => by
  unfold srtI at ho
  split at ho
  · split at ho
    · rename_i ds c
      cases ho
      obtain ⟨p, xs, rfl, s, r⟩ := dp_lst h
      have r0 := r
      rw [intsD c.1] at r
      have e3 := dall_of_ints r
      subst e3
      refine ⟨p, _, rfl, O.bs.seq s, by rw [List.length_map]; exact c.2.1, fun ns' q hp hs hq => ?_⟩
      rw [perm_eq hp hs c.2.2]
      exact O.newL hq r0
    · cases ho
  · cases ho) hg hm (by decide +kernel) ha hs (by decide) (by decide) hpl
def rgL : PyData → Option PyData | .int n => if 0 ≤ n ∧ n ≤ 16777216 then some (.list ((List.range n.toNat).map fun i => .int (i : Nat))) else none | _ => none
theorem d_listRg {p p2 pos2 : Pos} (hc : X.calm = true) (hg : Gl X "list") (hm : X.mg "list" = none) (hg2 : Gl X "range") (hm2 : X.mg "range" = none) (ha : PE X a (tE X.K fa)) (hs : starEach [a] X.env = (false, eval a X.env) :: starEach [] X.env := by rfl)
    (hs2 : starEach [.Call (.Name "range" p2) [a] [] pos2] X.env = (false, eval (.Call (.Name "range" p2) [a] [] pos2) X.env) :: starEach [] X.env := by rfl) :
    PE X (.Call (.Name "list" p) [.Call (.Name "range" p2) [a] [] pos2] [] pos) (tE X.K (e1 rgL fa)) := PE.imp (pe_listRg hc hg hm (prg_1 hg2 hm2 ha hs) hs2) fun σ H Q h => by
  obtain ⟨Hb, δ, S, d, hd, O⟩ := tE_seq (f := fa) (k := fun _ x => rgL x) h
  refine ⟨Hb, δ, S, d, hd, O.bs, fun v H1 s hv => ?_⟩
  obtain ⟨Hb1, δ1, d1, S1, h1, e, he, O1⟩ := O.go v H1 s hv
  unfold rgL at he
  split at he
  · split at he
    · rename_i n c
      cases he
      refine ⟨n, dp_int h1, RgOk.of_le (by omega) c.2 (by omega) c.1, fun q hq => O1.newL hq ?_⟩
      unfold rgV
      rw [Int.sub_zero]
      have e2 : ∀ m : List Nat, DpAll X.K Hb1 (m.map fun i => V.int (0 + (i : Nat))) (m.map fun i => PyData.int (i : Nat)) := fun m => by
        induction m with
        | nil => exact .nil
        | cons x m ih =>
          refine .cons ?_ ih
          show Dp X.K Hb1 (.int (0 + (x : Int))) (.int (x : Int))
          rw [Int.zero_add]; exact .int _
      exact e2 _
    · cases he
  · cases he
/-- a written dict with text keys -/
def dkD (kvs : List (Str × PyData)) : PyData → Option PyData | .str z => kvs.lookup z | _ => none
theorem d_kdict {x : Str} {p : Pos} {dct : Addr} {kvs : List (Str × PyData)} (hg : Gl X x) (hm : X.mg x = some (.ref dct)) (hk : ∀ z d, kvs.lookup z = some d → ∃ v, KDct X.K X.w dct z v ∧ ∀ H, Dp X.K H v d) (hb : PE X b (tE X.K fb))
    (hd : (x == ("__debug__" : Str)) = false := by decide) (hs : PlainIx b := by exact fun _ _ => rfl) : PE X (.Subscript (.Name x p) b pos) (tE X.K (e1 (dkD kvs) fb)) :=
  PE.imp (pe_ix ix_kdict (pe_glob (v := .ref dct) hg hm rfl hd) hb hs) fun σ H Q h => by
  obtain ⟨Hb, δ, S, d, hd, O⟩ := tE_seq (f := fb) (k := fun _ x => dkD kvs x) h
  refine ⟨Hb, δ, S, d, hd, O.bs, fun v H1 s hv => ?_⟩
  obtain ⟨Hb1, δ1, d1, S1, h1, e, he, O1⟩ := O.go v H1 s hv
  unfold dkD at he
  split at he
  · obtain ⟨u, hu, hr⟩ := hk _ _ he
    exact ⟨dct, _, u, rfl, dp_str h1, hu, O1.now (hr _)⟩
  · cases he
end
end SQ
/-! ## SqD8 -/
set_option Elab.async false
set_option linter.all false
set_option maxRecDepth 100000
set_option maxHeartbeats 4000000
namespace SQ
open PySem PySem.Spec L2 TL
open PyProof.Rows (envOfC)

/-! ### list.count, list.index of texts -/
theorem countU {a : Str} : ∀ {ns : List Str} {us : List Value}, Vals (ns.map V.str) us → us.countP (eqU (.str a)) = ns.countP (· == a)
  | [], _, .nil => rfl
  | n :: ns, _, .cons r t => by
    rw [List.countP_cons, List.countP_cons, countU t, eqU_of r rfl]
    rfl
theorem mt_countS {X : Cx} : MtR X "list.count" (fun x xs H Q => ∃ (p : Addr) (ns : List Str) (a : Str), x = .ref p ∧ xs = [.str a] ∧ SqL X.K H p (ns.map V.str) ∧ Q (.int (ns.countP (· == a) : Nat)) H) := by
  intro pins s σ H x xs v us Q I rx rxs h
  obtain ⟨p, ns, a, rfl, rfl, hs, q⟩ := h
  cases rx
  obtain ⟨u, rfl, ru⟩ := rxs.one
  obtain ⟨its, rv, ⟨⟨cls, dd, data, sl⟩, n, ho, hc, hdn, hd⟩, hlen⟩ := I.list hs
  simp only at hc hd
  subst hc hd
  refine call_meets PySem.F.slot_list_count ⟨_, ho, rfl⟩ PySem.F.entry_list_count (PySem.F.args_list_count_2 _ _)
    (SeqAt.list_countAt p its.toArray n dd sl u (eqU (.str a))) ⟨ho, fun y hy => mem_eqAt ru rfl rv (all_flat ns) y (by simpa using hy), ?_⟩
  have ec : its.toArray.toList.countP (eqU (.str a)) = ns.countP (· == a) := countU rv
  refine ⟨.int (ns.countP (· == a) : Nat), H, I.tok _, ⟨s.toks, ?_⟩, q⟩
  show Value.int ((its.toArray.toList.countP (eqU (.str a)) : Nat) : Int) s.toks = Value.int ((ns.countP (· == a) : Nat) : Int) s.toks
  rw [ec]
def cntS (x y : PyData) : Option PyData := match x, y with
  | .list ds, .str a => (strsD ds).map fun ns => .int (ns.countP (· == a) : Nat)
  | _, _ => none
def idxS (x y : PyData) : Option PyData := match x, y with
  | .list ds, .str a => (strsD ds).bind fun ns => if ns.idxOf a < ns.length then some (.int (ns.idxOf a : Nat)) else none
  | _, _ => none
def r1of (K : PySem.W.Frag) (r : V → List V → Hp → VK → Prop) : R2 := fun x y H Q => r x [y] H Q
section
variable {X : Cx} {a b c e : Expr} {es rest : List Expr} {fa fb fc : En → Option PyData} {ga : En → Option (List PyData)} {pos : Pos}
theorem tyL_of {K : PySem.W.Frag} {H : Hp} {p : Addr} {xs : List V} (h : SqL K H p xs) : tyV K "list" (.ref p) H := .inl ⟨rfl, xs, h⟩
/-- o.m(e), o a list, by what it does with the data -/
theorem d_lm {m : Str} {id : String} {r : V → List V → Hp → VK → Prop} {op : PyData → PyData → Option PyData} {apos : Pos} (slot : Slot "list" m id) (hty : typeOf (.builtin id) = pure (.type "method_descriptor")) (hm : MtR X id r)
    (hl : ∀ dx dy e, op dx dy = some e → ∃ ds, dx = .list ds)
    (i : ∀ Hb H x y dx dy e Q, Dp X.K Hb x dx → Dp X.K Hb y dy → op dx dy = some e → Ot X.K Hb H e Q → r x [y] H Q) (ha : PE X a (tE X.K fa)) (hb : PE X b (tE X.K fb))
    (hst : starEach (b :: []) X.env = (false, eval b X.env) :: starEach [] X.env := by rfl) (hpl : (backTo pos (starEach [] X.env)).any (·.1) = false := by rfl) (hbase : attributeBase a m X.env (eval a X.env) = eval a X.env := by rfl)
    (hfew : ((backTo pos (starEach (b :: []) X.env)).all (fun x => !x.1) && (backToKw pos (keywordEach [] X.env)).all (fun x => x.1.isSome) && decide ((b :: []).length + ([] : List Keyword).length + (if ([] : List Keyword).isEmpty then 0 else 1) < 30)) = true := by rfl)
    (hline : (apos.endLine == pos.line) = true := by rfl) : PE X (.Call (.Attribute a m apos) [b] [] pos) (tE X.K (e2 op fa fb)) :=
  PE.imp (pe_bm PySem.F.plainAttrs_list slot hty hm ha (pa_cons hb pa_nil hst) hbase hfew hline hst hpl) fun σ H Q h => by
  obtain ⟨Hb, δ, S, d, hd, O⟩ := tE_seq (f := fa) (k := fun δ x => (fb δ).bind fun y => op x y) h
  refine ⟨Hb, δ, S, d, hd, O.bs, fun v H1 s hv => ?_⟩
  obtain ⟨Hb1, δ1, d1, S1, h1, e, he, O1⟩ := O.go v H1 s hv
  obtain ⟨d2, hd2, ho⟩ := Option.bind_eq_some_iff.mp he
  refine ⟨?_, Hb1, δ1, S1, d2, hd2, S1.bs, fun v2 H2 s2 hv2 => ?_⟩
  · obtain ⟨ds, rfl⟩ := hl _ _ _ ho
    obtain ⟨p, xs, rfl, sq, _⟩ := dp_lst h1
    exact tyL_of (S1.bs.seq sq)
  · exact i _ H2 v v2 d1 d2 e Q (h1.same (sub_ex S1.bs)) hv2 ho ⟨ex_sub S1.bs s2, fun v' H3 s3 h3 => O1.go v' H3 (s2.trans s3) (by rw [ex_trans s2 s3] at h3; exact h3)⟩
theorem d_count {apos : Pos} (ha : PE X a (tE X.K fa)) (hb : PE X b (tE X.K fb))
    (hst : starEach (b :: []) X.env = (false, eval b X.env) :: starEach [] X.env := by rfl) (hpl : (backTo pos (starEach [] X.env)).any (·.1) = false := by rfl) (hbase : attributeBase a "count" X.env (eval a X.env) = eval a X.env := by rfl)
    (hfew : ((backTo pos (starEach (b :: []) X.env)).all (fun x => !x.1) && (backToKw pos (keywordEach [] X.env)).all (fun x => x.1.isSome) && decide ((b :: []).length + ([] : List Keyword).length + (if ([] : List Keyword).isEmpty then 0 else 1) < 30)) = true := by rfl)
    (hline : (apos.endLine == pos.line) = true := by rfl) : PE X (.Call (.Attribute a "count" apos) [b] [] pos) (tE X.K (e2 cntS fa fb)) :=
  d_lm PySem.F.slot_list_count PySem.F.type_list_count mt_countS (fun dx dy e h => by
    unfold cntS at h
    split at h
    · exact ⟨_, rfl⟩
    · cases h) (fun Hb H x y dx dy e Q h1 h2 ho O => by
    unfold cntS at ho
    split at ho
    · obtain ⟨ns, hn, rfl⟩ := Option.map_eq_some_iff.mp ho
      have e2 := strsD_map hn
      subst e2
      obtain ⟨p, xs, rfl, sq, r⟩ := dp_lst h1
      have e3 := dall_of_strs r
      subst e3
      exact ⟨p, ns, _, rfl, by rw [dp_str h2], O.bs.seq sq, O.now (.int _)⟩
    · cases ho) ha hb hst hpl hbase hfew hline
theorem d_index {apos : Pos} (ha : PE X a (tE X.K fa)) (hb : PE X b (tE X.K fb))
    (hst : starEach (b :: []) X.env = (false, eval b X.env) :: starEach [] X.env := by rfl) (hpl : (backTo pos (starEach [] X.env)).any (·.1) = false := by rfl) (hbase : attributeBase a "index" X.env (eval a X.env) = eval a X.env := by rfl)
    (hfew : ((backTo pos (starEach (b :: []) X.env)).all (fun x => !x.1) && (backToKw pos (keywordEach [] X.env)).all (fun x => x.1.isSome) && decide ((b :: []).length + ([] : List Keyword).length + (if ([] : List Keyword).isEmpty then 0 else 1) < 30)) = true := by rfl)
    (hline : (apos.endLine == pos.line) = true := by rfl) : PE X (.Call (.Attribute a "index" apos) [b] [] pos) (tE X.K (e2 idxS fa fb)) :=
  d_lm PySem.F.slot_list_index PySem.F.type_list_index mt_index (fun dx dy e h => by
    unfold idxS at h
    split at h
    · exact ⟨_, rfl⟩
    · cases h) (fun Hb H x y dx dy e Q h1 h2 ho O => by
    unfold idxS at ho
    split at ho
    · rename_i ds z
      obtain ⟨ns, hn, ho⟩ := Option.bind_eq_some_iff.mp ho
      split at ho
      · rename_i c
        cases ho
        have e2 := strsD_map hn
        subst e2
        obtain ⟨p, xs, rfl, sq, r⟩ := dp_lst h1
        have e3 := dall_of_strs r
        subst e3
        refine ⟨p, _, .str z, ns.idxOf z, .str (ns[ns.idxOf z]), rfl, by rw [dp_str h2], O.bs.seq sq, rfl, all_flat ns, by rw [List.getElem?_map, List.getElem?_eq_getElem c]; rfl, ?_, fun m z' hm hz => ?_, O.now (.int _)⟩
        · show (ns[ns.idxOf z] == z) = true
          rw [List.getElem_idxOf c]; exact beq_self_eq_true _
        · rw [List.getElem?_map] at hz
          obtain ⟨w, hw, rfl⟩ := Option.map_eq_some_iff.mp hz
          show (w == z) = false
          obtain ⟨hml, rfl⟩ := List.getElem?_eq_some_iff.mp hw
          have := List.not_of_lt_findIdx (p := (· == z)) (xs := ns) (i := m) (by exact hm)
          simpa using this
      · cases ho
    · cases ho) ha hb hst hpl hbase hfew hline
def negI : PyData → Option PyData | .int i => some (.int (-i)) | _ => none
theorem d_neg (ha : PE X a (tE X.K fa)) : PE X (.UnaryOp .USub a pos) (tE X.K (e1 negI fa)) := PE.imp (pe_un un_neg ha) (rd1 fun Hb H v dx e Q h ho O => by
  unfold negI at ho
  split at ho
  · cases ho; exact ⟨_, dp_int h, O.now (.int _)⟩
  · cases ho)
/-- range(a, b, c) -/
def rg3 : List PyData → Option (List PyData)
  | [.int a, .int b, .int c] => if c ≠ 0 ∧ c.natAbs < 1073741824 ∧ Builtin.Range.small a b c = true ∧ 0 ≤ Builtin.Range.rangeSize a b c then some ((List.range (Builtin.Range.rangeSize a b c).toNat).map fun i => .int (a + (i : Nat) * c)) else none
  | _ => none
theorem wk_rngC {K : PySem.W.Frag} {Hb : Hp} {lo c : Int} {n : Nat} : DWk K Hb (Itc lo c n) ((List.range n).map fun i => .int (lo + (i : Nat) * c)) where
  go := fun i Hb' H s1 s2 hi => by show i < n; simpa using hi
  stop := fun Hb' H s1 s2 => by show n ≤ _; simp
  yld := fun i Hb' H x H' s1 s2 hi y => by
    obtain ⟨rfl, rfl⟩ := y
    have hi' : i < n := by simpa using hi
    exact ⟨.int (lo + (i : Nat) * c), by rw [List.getElem?_map, List.getElem?_range hi']; rfl, Same.refl _, .int _⟩
theorem di_rng3 {tg : Expr} {p : Pos} (hg : Gl X "range") (hm : X.mg "range" = none) (ha : PA X [a, b, c] (tA X.K ga))
    (hs : starEach [a, b, c] X.env = (false, eval a X.env) :: starEach [b, c] X.env := by rfl) (hpl : (backTo pos (starEach [b, c] X.env)).any (·.1) = false := by rfl) :
    PI X tg (.Call (.Name "range" p) [a, b, c] [] pos) (tI X.K (iB ga rg3)) := PI.imp (pi_range3 hg hm ha hs hpl) fun σ H R ⟨Hb, δ, S, its, hi, q⟩ => by
  obtain ⟨d, hd, hl⟩ := Option.bind_eq_some_iff.mp hi
  refine ⟨Hb, δ, S, d, hd, fun v H1 s hv => ?_⟩
  unfold rg3 at hl
  split at hl
  · split at hl
    · rename_i x y z k
      cases hl
      cases hv with
      | cons h1 h2 =>
        cases h2 with
        | cons h2 h3 =>
          cases h3 with
          | cons h3 h4 =>
            cases h4
            exact ⟨_, _, _, (Builtin.Range.rangeSize x y z).toNat, by rw [dp_int h1, dp_int h2, dp_int h3], ⟨k.1, k.2.1, k.2.2.1, by omega⟩, q _ H1 s wk_rngC⟩
    · cases hl
  · cases hl
end

/-! ### names of the top -/
structure Cst (K : PySem.W.Frag) (mg : Str → Option Value) (x : Str) (d : PyData) : Prop where
  ex : ∃ v u, mg x = some u ∧ RelV v u ∧ ∀ H, Dp K H v d
/-- a def of the top -/
structure Dfn (K : PySem.W.Frag) (mg : Str → Option Value) (x : Str) (st : Stmt) (ps : List Str) : Prop where
  ex : ∃ f fd, Fun K x x st f fd ∧ mg x = some (.ref f) ∧ Binds K fd ps []
/-- a def that keeps a promise over data -/
structure FnD (P : Program) (w : World) (K : PySem.W.Frag) (mg : Str → Option Value) (base : Heap) (k : Nat) (x : Str) (n : Nat) (G : List PyData → Option PyData) : Prop where
  ex : ∃ f fd ps, FnOk P w K mg base CX0 k f fd ps (spD K n G) ∧ mg x = some (.ref f) ∧ PySem.W.keepIn K (.ref f) = true ∧ Binds K fd ps []
structure FnX (P : Program) (w : World) (K : PySem.W.Frag) (mg : Str → Option Value) (base : Heap) (cls : Nat → Value) (k : Nat) (x : Str) (n : Nat) (G : List PyData → Option (Except Nat PyData)) : Prop where
  ex : ∃ f fd ps, FnOk P w K mg base (L2.CX P w) k f fd ps (spX K cls n G) ∧ mg x = some (.ref f) ∧ PySem.W.keepIn K (.ref f) = true ∧ Binds K fd ps []
section
variable {P : Program} {w : World} {K : PySem.W.Frag} {mg : Str → Option Value} {base : Heap}
theorem FnD.imp {k n : Nat} {x : Str} {G G' : List PyData → Option PyData} (F : FnD P w K mg base k x n G) (h : ∀ ds d, ds.length = n → G' ds = some d → G ds = some d) : FnD P w K mg base k x n G' := by
  obtain ⟨f, fd, ps, F, r⟩ := F.ex
  exact ⟨f, fd, ps, F.imp fun vs H Q E ⟨Hb, ds, h1, h2, d, h3, O⟩ => ⟨Hb, ds, h1, h2, d, h ds d h2 h3, O⟩, r⟩
theorem fnd_of {k : Nat} {x : Str} {st : Stmt} {N ps : List Str} {g : En → Option Res} (D : Dfn K mg x st ps) (S : FnScope N ps (defScope st))
    (h : ∀ (f : Addr) (cdv : Value) (A : Around) (outer : List Env) (s : Shared) (H : Hp) (E : XK), Room k (A.deeper (envOfC x (defScope st) s.heap.objs.size f cdv)) → PSs (cxOf CX0 P w K mg base N x (defScope st) f cdv A outer s H E).nox (defBody st) (tS K E0 cls0 g)) :
    FnD P w K mg base (k + 1) x ps.length (runG N.length g) := by
  obtain ⟨f, fd, F, hm, hb⟩ := D.ex
  exact ⟨f, fd, ps, ok_pure F S fun cdv A outer s H E hr => h f cdv A outer s H E hr, hm, F.kp, hb⟩
theorem fnx_of {k : Nat} {x : Str} {st : Stmt} {N ps : List Str} {g : En → Option Res} {cls : Nat → Value} (D : Dfn K mg x st ps) (S : FnScope N ps (defScope st))
    (h : ∀ (f : Addr) (cdv : Value) (A : Around) (outer : List Env) (s : Shared) (H : Hp) (E : XK), Room k (A.deeper (envOfC x (defScope st) s.heap.objs.size f cdv)) → PSs (cxOf (L2.CX P w) P w K mg base N x (defScope st) f cdv A outer s H E) (defBody st) (tS K E cls g)) :
    FnX P w K mg base cls (k + 1) x ps.length (runX N.length g) := by
  obtain ⟨f, fd, F, hm, hb⟩ := D.ex
  exact ⟨f, fd, ps, ok_raise F S fun cdv A outer s H E hr => h f cdv A outer s H E hr, hm, F.kp, hb⟩
end
section
variable {X : Cx} {a b c e : Expr} {es rest : List Expr} {fa fb fc : En → Option PyData} {ga : En → Option (List PyData)} {pos : Pos}
theorem d_cst {x : Str} {d : PyData} (C : Cst X.K X.mg x d) (hg : Gl X x := by rfl) (hd : (x == ("__debug__" : Str)) = false := by decide) : PE X (.Name x pos) (tE X.K (eC d)) := by
  obtain ⟨v, u, hm, r, h⟩ := C.ex
  exact d_glob hg hm r h hd
theorem d_fn {k n : Nat} {x : Str} {G : List PyData → Option PyData} {p : Pos} (F : FnD X.prog X.w X.K X.mg X.base k x n G) (hr : Room k X.A) (ha : PA X (e :: es) (tA X.K ga)) (hg : Gl X x := by rfl)
    (hdb : (x == ("__debug__" : Str)) = false := by decide) (he : starEach (e :: es) X.env = (false, eval e X.env) :: starEach es X.env := by rfl) (hpl : (backTo pos (starEach es X.env)).any (·.1) = false := by rfl) :
    PE X (.Call (.Name x p) (e :: es) [] pos) (tE X.K (eA (gN n G) ga)) := by
  obtain ⟨f, fd, ps, F, hm, hk, hb⟩ := F.ex
  exact d_call F hr hg hm hk hb ha hdb he hpl
theorem ds_fnX {E : XK} {cls : Nat → Value} {k n : Nat} {x : Str} {G : List PyData → Option (Except Nat PyData)} {p pos2 : Pos} (F : FnX X.prog X.w X.K X.mg X.base cls k x n G) (hr : Room k X.A) (hx : Passes (L2.CX X.prog X.w) X E) (ha : PA X (e :: es) (tA X.K ga)) (hg : Gl X x := by rfl)
    (hdb : (x == ("__debug__" : Str)) = false := by decide) (he : starEach (e :: es) X.env = (false, eval e X.env) :: starEach es X.env := by rfl) (hpl : (backTo pos (starEach es X.env)).any (·.1) = false := by rfl)
    (hs : swapsWith (.Call (.Name x p) (e :: es) [] pos) none pos2.line X.env = pure false := by rfl) :
    PS X (.Expr (.Call (.Name x p) (e :: es) [] pos) pos2) (tS X.K E cls (sCallX G n ga)) := by
  obtain ⟨f, fd, ps, F, hm, hk, hb⟩ := F.ex
  exact ds_callX F hr hg hm hk hb hx ha hdb he hpl hs
/-- x = [..]: a list of one's own -/
def sLst (i : Nat) (ga : En → Option (List PyData)) : En → Option Res := fun δ => (ga δ).bind fun ds => if ds.length ≤ sizeLine then some (.nx (δ.set i (.o ds))) else none
theorem ds_lst {E : XK} {cls : Nat → Value} {i : Nat} {x : Str} {pos' p2 : Pos} (hN : X.N.Nodup) (ha : PA X es (tA X.K ga)) (hi : X.N[i]? = some x := by rfl) (hx : Loc X.env.scope x := by first | exact Or.inl rfl | exact Or.inr rfl) (hs : swapsWith (.List es p2) (some (.Name x pos')) pos.line X.env = pure false := by rfl)
    (hf : X.fn x = true ∨ X.env.scope.names.lookup x = some .local := by first | exact .inl rfl | exact .inr rfl | assumption) : PS X (.Assign [.Name x pos'] (.List es p2) pos) (tS X.K E cls (sLst i ga)) := PS.imp (ps_set hN hi hx (pe_lst ha) hs hf) fun D σ H ⟨Hb0, H0, Hb, δ, S, r, hr, P⟩ => by
  obtain ⟨ds, hds, hr⟩ := Option.bind_eq_some_iff.mp hr
  split at hr
  · rename_i c
    cases hr
    refine ⟨Hb, δ, S.sta, ds, hds, fun vs H1 s hvs => ⟨by rw [hvs.length]; exact c, fun p hp => P _ _ _ (sub_ex S.bs) ((S.grow s).own hp hvs)⟩⟩
  · cases hr
end
end SQ
/-! ## SqBt -/
set_option Elab.async false
set_option linter.all false
set_option maxRecDepth 100000
set_option maxHeartbeats 4000000
namespace SQ
open PySem PySem.Spec L2 TL
/-- the built-ins' names, the top's constants -/
structure Bt (K : PySem.W.Frag) (w : World) (mg : Str → Option Value) : Prop where
  len : mg "len" = none
  abs : mg "abs" = none
  max : mg "max" = none
  min : mg "min" = none
  isinstance : mg "isinstance" = none
  int : mg "int" = none
  bool : mg "bool" = none
  str : mg "str" = none
  tuple : mg "tuple" = none
  list : mg "list" = none
  all : mg "all" = none
  range : mg "range" = none
  enumerate : mg "enumerate" = none
  sorted : mg "sorted" = none
  FARTHEST : Cst K mg "FARTHEST" d_FARTHEST
  AHEAD : Cst K mg "AHEAD" d_AHEAD
  HOME : Cst K mg "HOME" d_HOME
  FIGURES : Cst K mg "FIGURES" d_FIGURES
  SEEN : Cst K mg "SEEN" d_SEEN
  SHORT : Cst K mg "SHORT" d_SHORT
  MOVES : Cst K mg "MOVES" d_MOVES
  TURNS_rules : Cst K mg "TURNS_rules" d_TURNS_rules
  MOST_RULES : Cst K mg "MOST_RULES" d_MOST_RULES
  MOST_TESTS : Cst K mg "MOST_TESTS" d_MOST_TESTS
  MOST_STEPS : Cst K mg "MOST_STEPS" d_MOST_STEPS
  LETTERS : Cst K mg "LETTERS" d_LETTERS
  KEPT : Cst K mg "KEPT" d_KEPT
  MOST_CALLS : Cst K mg "MOST_CALLS" d_MOST_CALLS
  turns : ∃ dct, mg "TURNS_sights" = some (.ref dct) ∧ ∀ z d, turnsD.lookup z = some d → ∃ v, KDct K w dct z v ∧ ∀ H, Dp K H v d
/-- TURNS_sights[word] -/
theorem d_turns {X : Cx} {b : Expr} {fb : En → Option PyData} {pos p : Pos} (B : Bt X.K X.w X.mg) (hb : PE X b (tE X.K fb)) (hg : Gl X "TURNS_sights" := by rfl) (hs : PlainIx b := by exact fun _ _ => rfl) : PE X (.Subscript (.Name "TURNS_sights" p) b pos) (tE X.K (e1 (dkD turnsD) fb)) := by
  obtain ⟨dct, hm, h⟩ := B.turns
  exact d_kdict hg hm h hb (by decide) hs
end SQ
/-! ## SqMin -/
set_option Elab.async false
set_option linter.all false
set_option maxRecDepth 100000
set_option maxHeartbeats 4000000
/-! min of a list of data that are alike -/
namespace SQ
open PySem PySem.Spec L2 TL
section
variable {prog : Program} {w : World} {A : Around} {R : Result → Shared → Prop} {g : Heap} {l I S : Addr} {vs : List Value}
/-- what stands in g stands in h -/
def Holds (g h : Heap) : Prop := ∀ b o, g.get? b = some o → h.get? b = some o
/-- v < u, asked of two items wherever g stands -/
def LtOver (prog : Program) (w : World) (A : Around) (g : Heap) (vs : List Value) (bt : Nat → Nat → Bool) : Prop :=
  ∀ (i j : Nat) (vi vj : Value) (s : Shared) (Q E : Value → Shared → Prop), Holds g s.heap → vs[i]? = some vi → vs[j]? = some vj → Q (.bool (bt i j)) s → wpAny (model prog w) A (richCompare .Lt vi vj) Q E s
theorem upd_holds {h : Heap} {f : Obj → Obj} (hS : g.get? S = none) (k : Holds g h) : Holds g (h.update S f) := fun b o e => by
  have ne : S ≠ b := fun q => by rw [q, e] at hS; cases hS
  exact (Heap.get?_update_other _ _ ne).trans (k b o e)
theorem min_turns (hh : A.handled = none) (hl : g.IsList l vs.toArray) (hI : g.get? I = none) (hS : g.get? S = none) (hIS : S ≠ I) (bt : Nat → Nat → Bool) (cmp : LtOver prog w A.in1 g vs bt) :
    ∀ (k j : Nat) (s : Shared) (vb : Value) (c : Nat), vs.length - (j + 1) = k → j + 1 ≤ vs.length → Holds g s.heap → s.heap.IsListIter I l (j + 1) → vs[argBest bt j]? = some vb →
      s.heap.get? S = some { cls := .type "list", dict := none, data := .seq #[vb, vb] c, slots := #[] } →
      (∀ (v : Value) (h' : Heap) (tk : Nat), vs[argBest bt (vs.length - 1)]? = some v → Holds g h' → R (.ok (.ret v)) { s with heap := h', toks := tk }) → codeAny (model prog w) A (.builtin "min.loop" ⟨[.ref I, .none, .ref S], []⟩) R s := by
  have nm : (toString "min" ++ toString ".loop" : String) = "min.loop" := by decide
  have ne : l ≠ I := fun q => by
    obtain ⟨o, e, _⟩ := hl
    rw [q, hI] at e; cases e
  have W := Walks.list (prog := prog) (w := w) (A := A.in1) hh I l ne vs.toArray
  have z : vs.toArray.size = vs.length := List.size_toArray ..
  have keep : ∀ {h h' : Heap}, Holds g h → (∀ b o, b ∉ [I] → h.get? b = some o → h'.get? b = some o) → Holds g h' := fun {h h'} k1 k2 b o e =>
    k2 b o (fun q => by rw [List.mem_singleton.mp q, hI] at e; cases e) (k1 b o e)
  have lst : ∀ {h : Heap}, Holds g h → h.IsList l vs.toArray := fun {h} k1 => by
    obtain ⟨o, e, r⟩ := hl
    exact ⟨o, k1 _ _ e, r⟩
  intro k
  induction k with
  | zero =>
    intro j s vb c hk hj hg hit hb hs fin
    have ej : j + 1 = vs.toArray.size := by omega
    refine codeAny_builtin F.entry_min_loop ?_
    rw [Around.under_plainId F.plain_min_loop _]
    show wpAny _ A.in1 (seqItems? (.ref S) >>= _) _ _ s
    refine wpAny_bind (wpAny_seqItems hs rfl ?_)
    show wpAny _ A.in1 (tryCatch (pyNext (.ref I)) _ >>= _) _ _ s
    refine wpAny_bind (wpAny_tryCatch (W.done s _ _ ⟨by rw [← ej]; exact hit, lst hg⟩ fun h' tk k2 => ?_))
    have s2 := k2 S _ (by simpa using hIS) hs
    show wpAny _ A.in1 (updateSeq S (fun _ => #[]) >>= _) _ _ _
    refine wpAny_bind (wpAny_updateSeq s2 rfl (wpAny_bind (wpAny_letGo (wpAny_pure ?_))))
    have e2 : vs.length - 1 = j := by omega
    exact fin vb _ tk (by rw [e2]; exact hb) (upd_holds hS (keep hg k2))
  | succ k ih =>
    intro j s vb c hk hj hg hit hb hs fin
    have lt : j + 1 < vs.length := by omega
    refine codeAny_builtin F.entry_min_loop ?_
    rw [Around.under_plainId F.plain_min_loop _]
    show wpAny _ A.in1 (seqItems? (.ref S) >>= _) _ _ s
    refine wpAny_bind (wpAny_seqItems hs rfl ?_)
    show wpAny _ A.in1 (tryCatch (pyNext (.ref I)) _ >>= _) _ _ s
    refine wpAny_bind (wpAny_tryCatch (W.item (j + 1) s _ _ (by rw [z]; exact lt) ⟨hit, lst hg⟩ fun v h' tk hP st2 k2 => ?_))
    have hv : vs[j + 1]? = some v := by simpa using hP
    have s2 := k2 S _ (by simpa using hIS) hs
    have g2 := keep hg k2
    show wpAny _ A.in1 (tryCatch (holding [v, v] (richCompare .Lt v vb >>= _)) _ >>= _) _ _ _
    refine wpAny_bind (wpAny_tryCatch (wpAny_holding (wpAny_bind (cmp (j + 1) (argBest bt j) v vb _ _ _ g2 hv hb ?_))))
    refine wpAny_bind (wpAny_holding (wpAny_truthy_bool (wpAny_bind (wpAny_letGo (wpAny_pure ?_)))))
    cases e : bt (j + 1) (argBest bt j) with
    | true =>
      simp only [if_true]
      refine wpAny_bind (wpAny_updateSeq s2 rfl (wpAny_bind (wpAny_letGo ?_)))
      rw [nm]
      refine wpAny_pure ⟨plainId_quiet F.plain_min_loop _, ih (j + 1) _ v _ (by omega) lt (upd_holds hS g2) ?_ (by simp only [argBest, e, if_true]; exact hv) (Heap.get?_update_self _ s2 rfl) fin⟩
      exact st2.1.at fun o q => (Heap.get?_update_other _ _ hIS).trans q
    | false =>
      simp only [Bool.false_eq_true, if_false]
      refine wpAny_bind (wpAny_letGo ?_)
      rw [nm]
      exact wpAny_pure ⟨plainId_quiet F.plain_min_loop _, ih (j + 1) _ vb c (by omega) lt g2 st2.1 (by simp only [argBest, e, Bool.false_eq_true, if_false]; exact hb) s2 fin⟩
end
section
variable {prog : Program} {w : World} {A : Around} {E : Value → Shared → Prop} {s : Shared} {l : Addr} {vs : List Value}
theorem call_minL {Q : Value → Shared → Prop} (hh : A.handled = none) (hl : s.heap.IsList l vs.toArray) (hn : 0 < vs.length) (bt : Nat → Nat → Bool) (cmp : LtOver prog w A.in1 s.heap vs bt)
    (h : ∀ v h' tk, vs[argBest bt (vs.length - 1)]? = some v → Holds s.heap h' → Q v { s with heap := h', toks := tk }) : wpAny (model prog w) A (call (.builtin "min") [.ref l]) Q E s := by
  have nm : (toString "min" ++ toString ".loop" : String) = "min.loop" := by decide
  obtain ⟨hp, gs, dr, t0, os⟩ := s
  have hl0 : hp.IsList l vs.toArray := hl
  have ll : l < hp.objs.size := by obtain ⟨_, e, _⟩ := hl0; exact Heap.lt_size e
  have ne : l ≠ hp.objs.size := Nat.ne_of_lt ll
  refine call_function_tree F.kind_min F.plain_min F.entry_min (F.args_min1 _) ?_
  show wpAny _ A.in1 (Builtin.Builtins.bindParams "min" ["key", "default"] 0 ⟨[], []⟩ >>= _) _ _ _
  refine wpAny_bind (wpAny_of_eq (show Builtin.Builtins.bindParams "min" ["key", "default"] 0 ⟨[], []⟩ = pure [none, none] from rfl) ?_)
  refine wpAny_bind (wpAny_pure ?_)
  refine wpAny_bind (wpAny_pyIter_list hl ?_)
  refine wpAny_bind (wpAny_newObj_type ?_)
  rw [nm]
  refine wpAny_pure ⟨plainId_quiet F.plain_min_loop _, ?_⟩
  let it : Obj := { cls := .type "list_iterator", data := .fields #[.ref l, .int 0 0] }
  have zI : (hp.push it).objs.size = hp.objs.size + 1 := Heap.size_push ..
  have hI : hp.get? hp.objs.size = none := Heap.get?_none_of_le (Nat.le_refl _)
  have hS : hp.get? (hp.push it).objs.size = none := Heap.get?_none_of_le (by rw [zI]; exact Nat.le_succ _)
  have hIS : (hp.push it).objs.size ≠ hp.objs.size := by rw [zI]; exact Nat.succ_ne_self _
  have W := Walks.list (prog := prog) (w := w) (A := A.in1) hh hp.objs.size l ne vs.toArray
  have z : vs.toArray.size = vs.length := List.size_toArray ..
  let hp2 : Heap := (hp.push it).push { cls := .type "list", data := .seq #[] }
  have k0 : Holds hp hp2 := fun b o e => Heap.get?_push_of_some _ (Heap.get?_push_of_some _ e)
  have gI : hp2.get? hp.objs.size = some it := Heap.get?_push_of_some _ (Heap.get?_push_size _ rfl)
  have gS : hp2.get? (hp.push it).objs.size = some { cls := .type "list", data := .seq #[] } := Heap.get?_push_size _ rfl
  have lst : ∀ {h : Heap}, Holds hp h → h.IsList l vs.toArray := fun {h} k1 => by
    obtain ⟨o, e, r⟩ := hl0
    exact ⟨o, k1 _ _ e, r⟩
  refine codeAny_builtin F.entry_min_loop ?_
  rw [Around.under_plainId F.plain_min_loop _]
  show wpAny _ A.in1 (seqItems? (.ref (hp.push it).objs.size) >>= _) _ _ ⟨hp2, gs, dr, t0, os⟩
  refine wpAny_bind (wpAny_seqItems gS rfl ?_)
  show wpAny _ A.in1 (tryCatch (pyNext (.ref hp.objs.size)) _ >>= _) _ _ ⟨hp2, gs, dr, t0, os⟩
  refine wpAny_bind (wpAny_tryCatch (W.item 0 ⟨hp2, gs, dr, t0, os⟩ _ _ (by rw [z]; exact hn) ⟨⟨_, gI, rfl, rfl⟩, lst k0⟩ fun v h' tk hP st2 k2 => ?_))
  have hv : vs[0]? = some v := by simpa using hP
  have s2 := k2 _ _ (by simpa using hIS) gS
  have g2 : Holds hp h' := fun b o e => k2 b o (fun q => by rw [List.mem_singleton.mp q, hI] at e; cases e) (k0 b o e)
  show wpAny _ A.in1 (updateSeq (hp.push it).objs.size (fun _ => #[v, v]) >>= _) _ _ _
  refine wpAny_bind (wpAny_updateSeq s2 rfl ?_)
  rw [nm]
  refine wpAny_pure ⟨plainId_quiet F.plain_min_loop _, min_turns (g := hp) hh hl0 hI hS hIS bt cmp _ 0 _ v _ rfl hn (upd_holds hS g2) (st2.1.at fun o q => (Heap.get?_update_other _ _ hIS).trans q) hv (Heap.get?_update_self _ s2 rfl) fun v h' tk a b => h v h' tk a b⟩
end

/-! ### over data -/
def bestD (d : PyData) : List PyData → PyData
  | [] => d
  | e :: r => bestD (if PySem.W.dataLt e d then e else d) r
def isTup : PyData → Bool | .tuple _ => true | _ => false
def okM (ds : List PyData) : Bool := ds.all fun e => isTup e && decide (e.depth ≤ 64) && ds.all fun e' => PySem.W.alike e e'
/-- min of tuples that are alike -/
def minD : PyData → Option PyData
  | .list (d :: ds) => if okM (d :: ds) = true ∧ ds.length < 1000 then some (bestD d ds) else none
  | _ => none
theorem bestD_append (d e : PyData) : ∀ xs : List PyData, bestD d (xs ++ [e]) = if PySem.W.dataLt e (bestD d xs) then e else bestD d xs := fun xs => by
  induction xs generalizing d with
  | nil => rfl
  | cons x xs ih => exact ih _
theorem best_arg (d : PyData) (ds : List PyData) (bt : Nat → Nat → Bool) (hbt : ∀ i j x y, (d :: ds)[i]? = some x → (d :: ds)[j]? = some y → bt i j = PySem.W.dataLt x y) :
    ∀ k, k ≤ ds.length → (d :: ds)[argBest bt k]? = some (bestD d (ds.take k)) := by
  intro k
  induction k with
  | zero => intro _; rfl
  | succ k ih =>
    intro hk
    have h1 := ih (by omega)
    have h2 : (d :: ds)[k + 1]? = some (ds[k]'(by omega)) := by simp [show k < ds.length by omega]
    have e : ds.take (k + 1) = ds.take k ++ [ds[k]'(by omega)] := by simp
    rw [e, bestD_append]
    have hb := hbt (k + 1) (argBest bt k) _ _ h2 h1
    show (d :: ds)[if bt (k + 1) (argBest bt k) then k + 1 else argBest bt k]? = _
    rw [hb]
    split
    · exact h2
    · exact h1
section
variable {X : Cx} {a : Expr} {fa : En → Option PyData} {pos : Pos}
theorem cr_minD (hc : X.calm = true) (hu : X.A.units + 66 < cLine) : CallR X (.builtin "min") (fun xs H Q => ∃ p vs d ds, xs = [.ref p] ∧ SqL X.K H p vs ∧ DpAll X.K H vs (d :: ds) ∧ okM (d :: ds) = true ∧ ∀ (i : Nat) (v : V), vs[i]? = some v → (d :: ds)[i]? = some (bestD d ds) → Q v H) := by
  intro pins s σ H xs us Q I r h
  obtain ⟨p, vs, d, ds, rfl, hs, hd, ok, q⟩ := h
  obtain ⟨u, rfl, ru⟩ := r.one
  cases ru
  obtain ⟨its, rv, pl, hz⟩ := I.list hs
  have lv := rv.length
  have ld := hd.length
  rw [List.length_cons] at ld
  let bt : Nat → Nat → Bool := fun i j => PySem.W.dataLt ((d :: ds).getD i .none) ((d :: ds).getD j .none)
  have hbt : ∀ i j x y, (d :: ds)[i]? = some x → (d :: ds)[j]? = some y → bt i j = PySem.W.dataLt x y := fun i j x y h1 h2 => by
    show PySem.W.dataLt ((d :: ds).getD i .none) ((d :: ds).getD j .none) = _
    rw [List.getD_eq_getElem?_getD, List.getD_eq_getElem?_getD, h1, h2]; rfl
  have okAt : ∀ {x y : PyData}, x ∈ d :: ds → y ∈ d :: ds → isTup x = true ∧ x.depth ≤ 64 ∧ PySem.W.alike x y = true := fun {x y} hx hy => by
    have h1 := List.all_eq_true.mp ok x hx
    rw [Bool.and_eq_true, Bool.and_eq_true] at h1
    exact ⟨h1.1.1, of_decide_eq_true h1.1.2, List.all_eq_true.mp h1.2 y hy⟩
  refine call_minL (I.ok.hd hc) pl.isList (by omega) bt ?_ fun v h' tk hv hk => ?_
  · intro i j vi vj s2 Q2 E2 hk hi hj hQ
    have I2 : Inv X pins σ H { s with heap := s2.heap, toks := s.toks } := I.kept hk
    obtain ⟨li, ei⟩ := List.getElem?_eq_some_iff.mp hi
    obtain ⟨lj, ej⟩ := List.getElem?_eq_some_iff.mp hj
    have hx : vs[i]? = some vs[i] := List.getElem?_eq_getElem (by omega)
    have hy : vs[j]? = some vs[j] := List.getElem?_eq_getElem (by omega)
    obtain ⟨dx, edx, rx⟩ := hd.get' hx
    obtain ⟨dy, edy, ry⟩ := hd.get' hy
    obtain ⟨u1, eu1, r1⟩ := rv.get hx
    obtain ⟨u2, eu2, r2⟩ := rv.get hy
    rw [hi] at eu1
    cases eu1
    rw [hj] at eu2
    cases eu2
    obtain ⟨as, h1⟩ := Dp.reads I2 dx _ _ rx r1
    obtain ⟨bs, h2⟩ := Dp.reads I2 dy _ _ ry r2
    obtain ⟨t1, t2, t3⟩ := okAt (List.mem_of_getElem? edx) (List.mem_of_getElem? edy)
    have hm : min dx.depth dy.depth ≤ dx.depth := Nat.min_le_left _ _
    refine PySem.W.rcLt_alike dx dy X.A.in1 s2 vi vj as bs h1 h2 t3 (by rintro rfl; cases t1) (by show X.A.units + 1 + _ < _; omega) _ _ _ _ ?_
    rw [← hbt i j dx dy edx edy]
    exact hQ
  · have I2 : Inv X pins σ H { s with heap := h', toks := tk } := I.kept hk
    have e1 := best_arg d ds bt hbt ds.length (Nat.le_refl _)
    rw [List.take_length] at e1
    have e2 : its.length - 1 = ds.length := by omega
    rw [e2] at hv
    obtain ⟨lt, _⟩ := List.getElem?_eq_some_iff.mp hv
    have hx : vs[argBest bt ds.length]? = some (vs[argBest bt ds.length]'(by omega)) := List.getElem?_eq_getElem (by omega)
    obtain ⟨u1, eu1, r1⟩ := rv.get hx
    rw [hv] at eu1
    cases eu1
    exact ⟨_, H, I2, r1, q _ _ hx e1⟩
theorem d_min {k : Nat} {p : Pos} (hr : Room k X.A) (hc : X.calm = true) (hg : Gl X "min") (hm : X.mg "min" = none) (ha : PE X a (tE X.K fa)) (hs : starEach (a :: []) X.env = (false, eval a X.env) :: starEach [] X.env := by rfl) (hpl : (backTo pos (starEach [] X.env)).any (·.1) = false := by rfl) :
    PE X (.Call (.Name "min" p) [a] [] pos) (tE X.K (e1 minD fa)) := d_b1 (cr_minD hc (by have := hr.un; omega)) (fun Hb H v dx e Q h ho O => by
  unfold minD at ho
  split at ho
  · split at ho
    · rename_i d ds c
      cases ho
      obtain ⟨p, xs, rfl, s, r⟩ := dp_lst h
      refine ⟨p, xs, d, ds, rfl, O.bs.seq s, r.same O.bs, c.1, fun i v hv hd => ?_⟩
      obtain ⟨y, hy, hr⟩ := r.get hd
      rw [hv] at hy
      cases hy
      exact O.now hr
    · cases ho
  · cases ho) hg hm (by decide +kernel) ha hs (by decide) (by decide) hpl
end
end SQ
/-! ## SqW1 -/
set_option Elab.async false
set_option linter.all false
set_option maxRecDepth 100000
set_option maxHeartbeats 4000000
namespace SQ
open PySem PySem.Spec L2 TL
open PyProof.Rows (envOfC)
section
variable {P : Program} {w : World} {K : PySem.W.Frag} {mg : Str → Option Value} {base : Heap}

def g_is_whole : En → Option Res :=
  (sRet (eAnd (e1 (isI "int") (eV 0)) (eNot (e1 (isI "bool") (eV 0)))))
def F_is_whole : List PyData → Option PyData := runG 1 g_is_whole
theorem sc_is_whole : FnScope ["thing"] ["thing"] (defScope (top 13)) := ⟨rfl, rfl, rfl, by decide +kernel, rfl, by decide +kernel, by decide +kernel⟩
theorem fd_is_whole (B : Bt K w mg) (D : Dfn K mg "is_whole" (top 13) ["thing"]) : FnD P w K mg base 1 "is_whole" 1 (F_is_whole) :=
  fnd_of D sc_is_whole fun f cdv A outer s H E hr => by
    have S := sc_is_whole
    exact (ds_one (ds_ret (d_and (d_isi (pe_ty (T := "int") (by rfl) B.int (by decide +kernel)) (by rfl) B.isinstance (dv 0)) (d_one (d_not (d_isi (pe_ty (T := "bool") (by rfl) B.bool (by decide +kernel)) (by rfl) B.isinstance (dv 0)))))))
def g_is_spot : En → Option Res :=
  (sRet (eAnd (e2 leI (e1 absD (e2 ixD (eV 0) (eC (.int 0)))) (eC d_FARTHEST)) (e2 leI (e1 absD (e2 ixD (eV 0) (eC (.int 1)))) (eC d_FARTHEST))))
def F_is_spot : List PyData → Option PyData := runG 1 g_is_spot
theorem sc_is_spot : FnScope ["spot"] ["spot"] (defScope (top 14)) := ⟨rfl, rfl, rfl, by decide +kernel, rfl, by decide +kernel, by decide +kernel⟩
theorem fd_is_spot (B : Bt K w mg) (D : Dfn K mg "is_spot" (top 14) ["spot"]) : FnD P w K mg base 1 "is_spot" 1 (F_is_spot) :=
  fnd_of D sc_is_spot fun f cdv A outer s H E hr => by
    have S := sc_is_spot
    exact (ds_one (ds_ret (d_and (d_cmp (od_le) (d_abs (by rfl) B.abs (d_ix (dv 0) d_int)) (d_cst B.FARTHEST)) (d_one (d_cmp (od_le) (d_abs (by rfl) B.abs (d_ix (dv 0) d_int)) (d_cst B.FARTHEST))))))
def g_is_stand : En → Option Res :=
  (sSeq (sIf (cOr (cNot (cE (e1 (isI "tuple") (eV 0)))) (cE (e2 neD (e1 lenD (eV 0)) (eC (.int 3)))))
  (sRet (eC (.bool false)))
  sNil)
  (sSeq (sFor (iB (eV 0) tuD) (.nm 1)
  (sIf (cNot (cE (eA (gN 1 F_is_whole) (aCons (eV 1) aNil))))
  (sRet (eC (.bool false)))
  sNil))
  (sRet (eAnd (eA (gN 1 F_is_spot) (aCons (eSl (eV 0) pN (pE (eC (.int 2)))) aNil)) (eChain leI ltI (eC (.int 0)) (e2 ixD (eV 0) (eC (.int 2))) (eC (.int 4)))))))
def F_is_stand : List PyData → Option PyData := runG 2 g_is_stand
theorem sc_is_stand : FnScope ["thing", "number"] ["thing"] (defScope (top 15)) := ⟨rfl, rfl, rfl, by decide +kernel, rfl, by decide +kernel, by decide +kernel⟩
theorem fd_is_stand (B : Bt K w mg) (D : Dfn K mg "is_stand" (top 15) ["thing"]) (h_is_whole : FnD P w K mg base 1 "is_whole" 1 F_is_whole) (h_is_spot : FnD P w K mg base 1 "is_spot" 1 F_is_spot) : FnD P w K mg base 2 "is_stand" 1 (F_is_stand) :=
  fnd_of D sc_is_stand fun f cdv A outer s H E hr => by
    have S := sc_is_stand
    exact (ds_cons (ds_if ((dw_or (dt_not (dt_val (d_isi (pe_ty (T := "tuple") (by rfl) B.tuple (by decide +kernel)) (by rfl) B.isinstance (dv 0)))) (dw_or1 (dt_cmp (od_ne (hr.units)) (d_len (by rfl) B.len (dv 0)) d_int)))).pt
    (ds_one (ds_ret d_bl))
    ds_nil)
    (ds_cons (ds_for PassesOwn.never (by rfl) (di_tup (dv 0)) (dg_name (i := 1) S.nd)
    (ds_one (ds_if (dt_not (dt_val (d_fn h_is_whole (hr.mono (by decide)) (da_cons (dv 1) da_nil))))
    (ds_one (ds_ret d_bl))
    ds_nil)))
    (ds_one (ds_ret (d_and (d_fn h_is_spot (hr.mono (by decide)) (da_cons (d_sl (dv 0) dp_none (dp_some d_int)) da_nil)) (d_one (d_chain (od_le) (od_lt) d_int (d_ix (dv 0) d_int) d_int)))))))
def g_spot_from : En → Option Res :=
  (sSeq (sAsg (e2 ixD (eC d_AHEAD) (e2 ixD (eV 0) (eC (.int 2)))) (.tp [3, 4]))
  (sRet (eA tupD (aCons (e2 addI (e2 addI (e2 ixD (eV 0) (eC (.int 0))) (e2 mulI (eV 1) (eV 3))) (e2 mulI (eV 2) (eV 4))) (aCons (e2 subI (e2 addI (e2 ixD (eV 0) (eC (.int 1))) (e2 mulI (eV 1) (eV 4))) (e2 mulI (eV 2) (eV 3))) aNil)))))
def F_spot_from : List PyData → Option PyData := runG 5 g_spot_from
theorem sc_spot_from : FnScope ["stand", "ahead", "right", "east", "north"] ["stand", "ahead", "right"] (defScope (top 16)) := ⟨rfl, rfl, rfl, by decide +kernel, rfl, by decide +kernel, by decide +kernel⟩
theorem fd_spot_from (B : Bt K w mg) (D : Dfn K mg "spot_from" (top 16) ["stand", "ahead", "right"]) : FnD P w K mg base 1 "spot_from" 3 (F_spot_from) :=
  fnd_of D sc_spot_from fun f cdv A outer s H E hr => by
    have S := sc_spot_from
    exact (ds_cons (ds_asg (d_ix (d_cst B.AHEAD) (d_ix (dv 0) d_int)) (dg_two (i := 3) (j := 4) (by rfl) S.nd))
    (ds_one (ds_ret (d_tup (da_cons (d_op od_addI (d_op od_addI (d_ix (dv 0) d_int) (d_op od_mulI (dv 1) (dv 3))) (d_op od_mulI (dv 2) (dv 4))) (da_cons (d_op od_subI (d_op od_addI (d_ix (dv 0) d_int) (d_op od_mulI (dv 1) (dv 4))) (d_op od_mulI (dv 2) (dv 3))) da_nil))))))
def g_who_at : En → Option Res :=
  (sSeq (sFor (oneL (eV 0) tuD) (.tp [2, 3])
  (sIf (cE (e2 eqD (eSl (eV 3) pN (pE (eC (.int 2)))) (eV 1)))
  (sRet (eV 2))
  sNil))
  (sRet (eC .none)))
def F_who_at : List PyData → Option PyData := runG 4 g_who_at
theorem sc_who_at : FnScope ["floor", "spot", "dancer", "stand"] ["floor", "spot"] (defScope (top 17)) := ⟨rfl, rfl, rfl, by decide +kernel, rfl, by decide +kernel, by decide +kernel⟩
theorem fd_who_at (B : Bt K w mg) (D : Dfn K mg "who_at" (top 17) ["floor", "spot"]) : FnD P w K mg base 1 "who_at" 2 (F_who_at) :=
  fnd_of D sc_who_at fun f cdv A outer s H E hr => by
    have S := sc_who_at
    exact (ds_cons (ds_for PassesOwn.never (by rfl) (di_enumT (by rfl) B.enumerate (dv 0)) (dg_two (i := 2) (j := 3) (by rfl) S.nd)
    (ds_one (ds_if (dt_cmp (od_eq (hr.units)) (d_sl (dv 3) dp_none (dp_some d_int)) (dv 1))
    (ds_one (ds_ret (dv 2)))
    ds_nil)))
    (ds_one (ds_ret d_non)))
def g_partner : En → Option Res :=
  (sRet (e2 subI (e2 addI (eV 0) (eC (.int 1))) (e2 mulI (e2 modI (eV 0) (eC (.int 2))) (eC (.int 2)))))
def F_partner : List PyData → Option PyData := runG 1 g_partner
theorem sc_partner : FnScope ["dancer"] ["dancer"] (defScope (top 18)) := ⟨rfl, rfl, rfl, by decide +kernel, rfl, by decide +kernel, by decide +kernel⟩
theorem fd_partner (B : Bt K w mg) (D : Dfn K mg "partner" (top 18) ["dancer"]) : FnD P w K mg base 1 "partner" 1 (F_partner) :=
  fnd_of D sc_partner fun f cdv A outer s H E hr => by
    have S := sc_partner
    exact (ds_one (ds_ret (d_op od_subI (d_op od_addI (dv 0) d_int) (d_op od_mulI (d_op od_modI (dv 0) d_int) d_int))))
def g_opposite : En → Option Res :=
  (sRet (e2 modI (e2 addI (eV 0) (eC (.int 4))) (eC (.int 8))))
def F_opposite : List PyData → Option PyData := runG 1 g_opposite
theorem sc_opposite : FnScope ["dancer"] ["dancer"] (defScope (top 19)) := ⟨rfl, rfl, rfl, by decide +kernel, rfl, by decide +kernel, by decide +kernel⟩
theorem fd_opposite (B : Bt K w mg) (D : Dfn K mg "opposite" (top 19) ["dancer"]) : FnD P w K mg base 1 "opposite" 1 (F_opposite) :=
  fnd_of D sc_opposite fun f cdv A outer s H E hr => by
    have S := sc_opposite
    exact (ds_one (ds_ret (d_op od_modI (d_op od_addI (dv 0) d_int) d_int)))
def g_is_of : En → Option Res :=
  (sSeq (sIf (cE (e2 eqD (eV 1) (eC (.str "head"))))
  (sRet (e2 eqD (e2 modI (e2 divI (eV 0) (eC (.int 2))) (eC (.int 2))) (eC (.int 0))))
  sNil)
  (sSeq (sIf (cE (e2 eqD (eV 1) (eC (.str "side"))))
  (sRet (e2 eqD (e2 modI (e2 divI (eV 0) (eC (.int 2))) (eC (.int 2))) (eC (.int 1))))
  sNil)
  (sSeq (sIf (cE (e2 eqD (eV 1) (eC (.str "lefts"))))
  (sRet (e2 eqD (e2 modI (eV 0) (eC (.int 2))) (eC (.int 0))))
  sNil)
  (sRet (e2 eqD (e2 modI (eV 0) (eC (.int 2))) (eC (.int 1)))))))
def F_is_of : List PyData → Option PyData := runG 2 g_is_of
theorem sc_is_of : FnScope ["dancer", "word"] ["dancer", "word"] (defScope (top 22)) := ⟨rfl, rfl, rfl, by decide +kernel, rfl, by decide +kernel, by decide +kernel⟩
theorem fd_is_of (B : Bt K w mg) (D : Dfn K mg "is_of" (top 22) ["dancer", "word"]) : FnD P w K mg base 1 "is_of" 2 (F_is_of) :=
  fnd_of D sc_is_of fun f cdv A outer s H E hr => by
    have S := sc_is_of
    exact (ds_cons (ds_if (dt_cmp (od_eq (hr.units)) (dv 1) d_str)
    (ds_one (ds_ret (d_cmp (od_eq (hr.units)) (d_op od_modI (d_op od_divI (dv 0) d_int) d_int) d_int)))
    ds_nil)
    (ds_cons (ds_if (dt_cmp (od_eq (hr.units)) (dv 1) d_str)
    (ds_one (ds_ret (d_cmp (od_eq (hr.units)) (d_op od_modI (d_op od_divI (dv 0) d_int) d_int) d_int)))
    ds_nil)
    (ds_cons (ds_if (dt_cmp (od_eq (hr.units)) (dv 1) d_str)
    (ds_one (ds_ret (d_cmp (od_eq (hr.units)) (d_op od_modI (dv 0) d_int) d_int)))
    ds_nil)
    (ds_one (ds_ret (d_cmp (od_eq (hr.units)) (d_op od_modI (dv 0) d_int) d_int))))))
def g_is_inner : En → Option Res :=
  (sRet (e2 leI (eA maxD (aCons (e1 absD (e2 ixD (eV 0) (eC (.int 0)))) (aCons (e1 absD (e2 ixD (eV 0) (eC (.int 1)))) aNil))) (eV 1)))
def F_is_inner : List PyData → Option PyData := runG 2 g_is_inner
theorem sc_is_inner : FnScope ["stand", "most"] ["stand", "most"] (defScope (top 23)) := ⟨rfl, rfl, rfl, by decide +kernel, rfl, by decide +kernel, by decide +kernel⟩
theorem fd_is_inner (B : Bt K w mg) (D : Dfn K mg "is_inner" (top 23) ["stand", "most"]) : FnD P w K mg base 1 "is_inner" 2 (F_is_inner) :=
  fnd_of D sc_is_inner fun f cdv A outer s H E hr => by
    have S := sc_is_inner
    exact (ds_one (ds_ret (d_cmp (od_le) (d_max (by rfl) (by rfl) B.max (da_cons (d_abs (by rfl) B.abs (d_ix (dv 0) d_int)) (da_cons (d_abs (by rfl) B.abs (d_ix (dv 0) d_int)) da_nil))) (dv 1))))
def g_drift : En → Option Res :=
  (sSeq (sAsg (eA maxD (aCons (e1 absD (e2 ixD (eV 0) (eC (.int 0)))) (aCons (e1 absD (e2 ixD (eV 0) (eC (.int 1)))) aNil))) (.nm 2))
  (sSeq (sAsg (eA (gN 3 F_spot_from) (aCons (eV 0) (aCons (eC (.int 1)) (aCons (eC (.int 0)) aNil)))) (.tp [3, 4]))
  (sSeq (sAsg (eA maxD (aCons (e1 absD (eV 3)) (aCons (e1 absD (eV 4)) aNil))) (.nm 5))
  (sSeq (sIf (cE (e2 eqD (eV 1) (eC (.str "inward"))))
  (sRet (e2 ltI (eV 5) (eV 2)))
  sNil)
  (sSeq (sIf (cE (e2 eqD (eV 1) (eC (.str "outward"))))
  (sRet (e2 gtI (eV 5) (eV 2)))
  sNil)
  (sRet (e2 eqD (eV 5) (eV 2))))))))
def F_drift : List PyData → Option PyData := runG 6 g_drift
theorem sc_drift : FnScope ["stand", "word", "before", "x", "y", "behind"] ["stand", "word"] (defScope (top 24)) := ⟨rfl, rfl, rfl, by decide +kernel, rfl, by decide +kernel, by decide +kernel⟩
theorem fd_drift (B : Bt K w mg) (D : Dfn K mg "drift" (top 24) ["stand", "word"]) (h_spot_from : FnD P w K mg base 1 "spot_from" 3 F_spot_from) : FnD P w K mg base 2 "drift" 2 (F_drift) :=
  fnd_of D sc_drift fun f cdv A outer s H E hr => by
    have S := sc_drift
    exact (ds_cons (ds_set (i := 2) S.nd (d_max (by rfl) (by rfl) B.max (da_cons (d_abs (by rfl) B.abs (d_ix (dv 0) d_int)) (da_cons (d_abs (by rfl) B.abs (d_ix (dv 0) d_int)) da_nil))))
    (ds_cons (ds_asg (d_fn h_spot_from (hr.mono (by decide)) (da_cons (dv 0) (da_cons d_int (da_cons d_int da_nil)))) (dg_two (i := 3) (j := 4) (by rfl) S.nd))
    (ds_cons (ds_set (i := 5) S.nd (d_max (by rfl) (by rfl) B.max (da_cons (d_abs (by rfl) B.abs (dv 3)) (da_cons (d_abs (by rfl) B.abs (dv 4)) da_nil))))
    (ds_cons (ds_if (dt_cmp (od_eq (hr.units)) (dv 1) d_str)
    (ds_one (ds_ret (d_cmp (od_lt) (dv 5) (dv 2))))
    ds_nil)
    (ds_cons (ds_if (dt_cmp (od_eq (hr.units)) (dv 1) d_str)
    (ds_one (ds_ret (d_cmp (od_gt) (dv 5) (dv 2))))
    ds_nil)
    (ds_one (ds_ret (d_cmp (od_eq (hr.units)) (dv 5) (dv 2)))))))))
def g_faces : En → Option Res :=
  (sRet (e2 eqD (eV 1) (e2 modI (e2 addI (eV 0) (e1 (dkD turnsD) (eV 2))) (eC (.int 4)))))
def F_faces : List PyData → Option PyData := runG 3 g_faces
theorem sc_faces : FnScope ["own", "other", "word"] ["own", "other", "word"] (defScope (top 25)) := ⟨rfl, rfl, rfl, by decide +kernel, rfl, by decide +kernel, by decide +kernel⟩
theorem fd_faces (B : Bt K w mg) (D : Dfn K mg "faces" (top 25) ["own", "other", "word"]) : FnD P w K mg base 1 "faces" 3 (F_faces) :=
  fnd_of D sc_faces fun f cdv A outer s H E hr => by
    have S := sc_faces
    exact (ds_one (ds_ret (d_cmp (od_eq (hr.units)) (dv 1) (d_op od_modI (d_op od_addI (dv 0) (d_turns B (dv 2))) d_int))))
def g_sees : En → Option Res :=
  (sSeq (sAsg (eA (gN 2 F_who_at) (aCons (eV 0) (aCons (eV 2) aNil))) (.nm 4))
  (sSeq (sIf (cOr (cE (e2 eqD (eV 3) (eC (.str "none")))) (cE (e2 isN (eV 4) (eC .none))))
  (sRet (eAnd (e2 eqD (eV 3) (eC (.str "none"))) (e2 isN (eV 4) (eC .none))))
  sNil)
  (sSeq (sIf (cE (e2 eqD (eV 3) (eC (.str "any"))))
  (sRet (eC (.bool true)))
  sNil)
  (sSeq (sIf (cE (e2 eqD (eV 3) (eC (.str "partner"))))
  (sRet (e2 eqD (eV 4) (eA (gN 1 F_partner) (aCons (eV 1) aNil))))
  sNil)
  (sSeq (sIf (cE (e2 eqD (eV 3) (eC (.str "opposite"))))
  (sRet (e2 eqD (eV 4) (eA (gN 1 F_opposite) (aCons (eV 1) aNil))))
  sNil)
  (sRet (eA (gN 3 F_faces) (aCons (e2 ixD (e2 ixD (eV 0) (eV 1)) (eC (.int 2))) (aCons (e2 ixD (e2 ixD (eV 0) (eV 4)) (eC (.int 2))) (aCons (eV 3) aNil))))))))))
def F_sees : List PyData → Option PyData := runG 5 g_sees
theorem sc_sees : FnScope ["floor", "dancer", "spot", "what", "there"] ["floor", "dancer", "spot", "what"] (defScope (top 26)) := ⟨rfl, rfl, rfl, by decide +kernel, rfl, by decide +kernel, by decide +kernel⟩
theorem fd_sees (B : Bt K w mg) (D : Dfn K mg "sees" (top 26) ["floor", "dancer", "spot", "what"]) (h_who_at : FnD P w K mg base 1 "who_at" 2 F_who_at) (h_partner : FnD P w K mg base 1 "partner" 1 F_partner) (h_opposite : FnD P w K mg base 1 "opposite" 1 F_opposite) (h_faces : FnD P w K mg base 1 "faces" 3 F_faces) : FnD P w K mg base 2 "sees" 4 (F_sees) :=
  fnd_of D sc_sees fun f cdv A outer s H E hr => by
    have S := sc_sees
    exact (ds_cons (ds_set (i := 4) S.nd (d_fn h_who_at (hr.mono (by decide)) (da_cons (dv 0) (da_cons (dv 2) da_nil))))
    (ds_cons (ds_if ((dw_or (dt_cmp (od_eq (hr.units)) (dv 3) d_str) (dw_or1 (dt_cmp (od_isN) (dv 4) d_non)))).pt
    (ds_one (ds_ret (d_and (d_cmp (od_eq (hr.units)) (dv 3) d_str) (d_one (d_cmp (od_isN) (dv 4) d_non)))))
    ds_nil)
    (ds_cons (ds_if (dt_cmp (od_eq (hr.units)) (dv 3) d_str)
    (ds_one (ds_ret d_bl))
    ds_nil)
    (ds_cons (ds_if (dt_cmp (od_eq (hr.units)) (dv 3) d_str)
    (ds_one (ds_ret (d_cmp (od_eq (hr.units)) (dv 4) (d_fn h_partner (hr.mono (by decide)) (da_cons (dv 1) da_nil)))))
    ds_nil)
    (ds_cons (ds_if (dt_cmp (od_eq (hr.units)) (dv 3) d_str)
    (ds_one (ds_ret (d_cmp (od_eq (hr.units)) (dv 4) (d_fn h_opposite (hr.mono (by decide)) (da_cons (dv 1) da_nil)))))
    ds_nil)
    (ds_one (ds_ret (d_fn h_faces (hr.mono (by decide)) (da_cons (d_ix (d_ix (dv 0) (dv 1)) d_int) (da_cons (d_ix (d_ix (dv 0) (dv 4)) d_int) (da_cons (dv 3) da_nil)))))))))))
end
end SQ
/-! ## SqW2 -/
set_option Elab.async false
set_option linter.all false
set_option maxRecDepth 100000
set_option maxHeartbeats 4000000
namespace SQ
open PySem PySem.Spec L2 TL
open PyProof.Rows (envOfC)
section
variable {P : Program} {w : World} {K : PySem.W.Frag} {mg : Str → Option Value} {base : Heap}

def g_holds (Fr : List PyData → Option PyData) : En → Option Res :=
  (sSeq (sAsg (e2 ixD (eV 2) (eC (.int 0))) (.nm 3))
  (sSeq (sIf (cE (e2 eqD (eV 3) (eC (.str "not"))))
  (sRet (eNot (eA (gN 3 Fr) (aCons (eV 0) (aCons (eV 1) (aCons (e2 ixD (eV 2) (eC (.int 1))) aNil))))))
  sNil)
  (sSeq (sIf (cE (e2 eqD (eV 3) (eC (.str "at"))))
  (sRet (eA (gN 4 F_sees) (aCons (eV 0) (aCons (eV 1) (aCons (eA (gN 3 F_spot_from) (aCons (e2 ixD (eV 0) (eV 1)) (aCons (e2 ixD (eV 2) (eC (.int 1))) (aCons (e2 ixD (eV 2) (eC (.int 2))) aNil)))) (aCons (e2 ixD (eV 2) (eC (.int 3))) aNil))))))
  sNil)
  (sSeq (sIf (cE (e2 eqD (eV 3) (eC (.str "inner"))))
  (sRet (eA (gN 2 F_is_inner) (aCons (e2 ixD (eV 0) (eV 1)) (aCons (e2 ixD (eV 2) (eC (.int 1))) aNil))))
  sNil)
  (sSeq (sIf (cE (e2 inS (eV 3) (eA tupD (aCons (eC (.str "inward")) (aCons (eC (.str "outward")) (aCons (eC (.str "sideways")) aNil))))))
  (sRet (eA (gN 2 F_drift) (aCons (e2 ixD (eV 0) (eV 1)) (aCons (eV 3) aNil))))
  sNil)
  (sRet (eA (gN 2 F_is_of) (aCons (eV 1) (aCons (eV 3) aNil)))))))))
theorem sc_holds : FnScope ["floor", "dancer", "test", "word"] ["floor", "dancer", "test"] (defScope (top 27)) := ⟨rfl, rfl, rfl, by decide +kernel, rfl, by decide +kernel, by decide +kernel⟩
theorem fd_holds1 {Fr : List PyData → Option PyData} (B : Bt K w mg) (D : Dfn K mg "holds" (top 27) ["floor", "dancer", "test"]) (h_holds : FnD P w K mg base 0 "holds" 3 Fr) (h_spot_from : FnD P w K mg base 1 "spot_from" 3 F_spot_from) (h_sees : FnD P w K mg base 2 "sees" 4 F_sees) (h_is_inner : FnD P w K mg base 1 "is_inner" 2 F_is_inner) (h_drift : FnD P w K mg base 2 "drift" 2 F_drift) (h_is_of : FnD P w K mg base 1 "is_of" 2 F_is_of) : FnD P w K mg base 3 "holds" 3 (runG 4 (g_holds Fr)) :=
  fnd_of D sc_holds fun f cdv A outer s H E hr => by
    have S := sc_holds
    exact (ds_cons (ds_set (i := 3) S.nd (d_ix (dv 2) d_int))
    (ds_cons (ds_if (dt_cmp (od_eq (hr.units)) (dv 3) d_str)
    (ds_one (ds_ret (d_not (d_fn h_holds (hr.mono (by decide)) (da_cons (dv 0) (da_cons (dv 1) (da_cons (d_ix (dv 2) d_int) da_nil)))))))
    ds_nil)
    (ds_cons (ds_if (dt_cmp (od_eq (hr.units)) (dv 3) d_str)
    (ds_one (ds_ret (d_fn h_sees (hr.mono (by decide)) (da_cons (dv 0) (da_cons (dv 1) (da_cons (d_fn h_spot_from (hr.mono (by decide)) (da_cons (d_ix (dv 0) (dv 1)) (da_cons (d_ix (dv 2) d_int) (da_cons (d_ix (dv 2) d_int) da_nil)))) (da_cons (d_ix (dv 2) d_int) da_nil)))))))
    ds_nil)
    (ds_cons (ds_if (dt_cmp (od_eq (hr.units)) (dv 3) d_str)
    (ds_one (ds_ret (d_fn h_is_inner (hr.mono (by decide)) (da_cons (d_ix (dv 0) (dv 1)) (da_cons (d_ix (dv 2) d_int) da_nil)))))
    ds_nil)
    (ds_cons (ds_if (dt_cmp (od_in) (dv 3) (d_tup (da_cons d_str (da_cons d_str (da_cons d_str da_nil)))))
    (ds_one (ds_ret (d_fn h_drift (hr.mono (by decide)) (da_cons (d_ix (dv 0) (dv 1)) (da_cons (dv 3) da_nil)))))
    ds_nil)
    (ds_one (ds_ret (d_fn h_is_of (hr.mono (by decide)) (da_cons (dv 1) (da_cons (dv 3) da_nil))))))))))
theorem fd_holds2 {Fr : List PyData → Option PyData} (B : Bt K w mg) (D : Dfn K mg "holds" (top 27) ["floor", "dancer", "test"]) (h_holds : FnD P w K mg base 3 "holds" 3 Fr) (h_spot_from : FnD P w K mg base 1 "spot_from" 3 F_spot_from) (h_sees : FnD P w K mg base 2 "sees" 4 F_sees) (h_is_inner : FnD P w K mg base 1 "is_inner" 2 F_is_inner) (h_drift : FnD P w K mg base 2 "drift" 2 F_drift) (h_is_of : FnD P w K mg base 1 "is_of" 2 F_is_of) : FnD P w K mg base 4 "holds" 3 (runG 4 (g_holds Fr)) :=
  fnd_of D sc_holds fun f cdv A outer s H E hr => by
    have S := sc_holds
    exact (ds_cons (ds_set (i := 3) S.nd (d_ix (dv 2) d_int))
    (ds_cons (ds_if (dt_cmp (od_eq (hr.units)) (dv 3) d_str)
    (ds_one (ds_ret (d_not (d_fn h_holds (hr.mono (by decide)) (da_cons (dv 0) (da_cons (dv 1) (da_cons (d_ix (dv 2) d_int) da_nil)))))))
    ds_nil)
    (ds_cons (ds_if (dt_cmp (od_eq (hr.units)) (dv 3) d_str)
    (ds_one (ds_ret (d_fn h_sees (hr.mono (by decide)) (da_cons (dv 0) (da_cons (dv 1) (da_cons (d_fn h_spot_from (hr.mono (by decide)) (da_cons (d_ix (dv 0) (dv 1)) (da_cons (d_ix (dv 2) d_int) (da_cons (d_ix (dv 2) d_int) da_nil)))) (da_cons (d_ix (dv 2) d_int) da_nil)))))))
    ds_nil)
    (ds_cons (ds_if (dt_cmp (od_eq (hr.units)) (dv 3) d_str)
    (ds_one (ds_ret (d_fn h_is_inner (hr.mono (by decide)) (da_cons (d_ix (dv 0) (dv 1)) (da_cons (d_ix (dv 2) d_int) da_nil)))))
    ds_nil)
    (ds_cons (ds_if (dt_cmp (od_in) (dv 3) (d_tup (da_cons d_str (da_cons d_str (da_cons d_str da_nil)))))
    (ds_one (ds_ret (d_fn h_drift (hr.mono (by decide)) (da_cons (d_ix (dv 0) (dv 1)) (da_cons (dv 3) da_nil)))))
    ds_nil)
    (ds_one (ds_ret (d_fn h_is_of (hr.mono (by decide)) (da_cons (dv 1) (da_cons (dv 3) da_nil))))))))))
def F_holds1 : List PyData → Option PyData := runG 4 (g_holds fun _ => none)
def F_holds : List PyData → Option PyData := runG 4 (g_holds F_holds1)
def g_rule_for : En → Option Res :=
  (sSeq (sFor (oneL (eV 2) lsD) (.tp [3, 4])
  (sIf (cE (e1 allD (eLc (iB (e2 ixD (eV 4) (eC (.int 0))) tuD) (.nm 5) [5] (eA (gN 3 F_holds) (aCons (eV 0) (aCons (eV 1) (aCons (eV 5) aNil)))))))
  (sRet (eV 3))
  sNil))
  (sRet (eC .none)))
def F_rule_for : List PyData → Option PyData := runG 6 g_rule_for
theorem sc_rule_for : FnScope ["floor", "dancer", "call", "place", "rule", "test"] ["floor", "dancer", "call"] (defScope (top 28)) := ⟨rfl, rfl, rfl, by decide +kernel, rfl, by decide +kernel, by decide +kernel⟩
theorem fd_rule_for (B : Bt K w mg) (D : Dfn K mg "rule_for" (top 28) ["floor", "dancer", "call"]) (h_holds : FnD P w K mg base 4 "holds" 3 F_holds) : FnD P w K mg base 5 "rule_for" 3 (F_rule_for) :=
  fnd_of D sc_rule_for fun f cdv A outer s H E hr => by
    have S := sc_rule_for
    exact (ds_cons (ds_for PassesOwn.never (by rfl) (di_enum (by rfl) B.enumerate (dv 2)) (dg_two (i := 3) (j := 4) (by rfl) S.nd)
    (ds_one (ds_if (dt_val (d_all (by rfl) (by rfl) B.all (d_lc (own := [("test", 5)]) (by rfl) S.nd (di_tup (d_ix (dv 4) d_int)) (blkOk_by (N := ["floor", "dancer", "call", "place", "rule", "test"]) (sc := defScope (top 28)) (own := [("test", 5)]) (by decide +kernel)) (fun _ _ _ _ _ => (dg_name (i := 5) S.nd)) (fun _ _ _ _ _ => (d_fn h_holds (hr.mono (by decide)) (da_cons (dv 0) (da_cons (dv 1) (da_cons (dv 5) da_nil))))) (by decide))))
    (ds_one (ds_ret (dv 3)))
    ds_nil)))
    (ds_one (ds_ret d_non)))
def g_stepped : En → Option Res :=
  (sSeq (sAsg (e2 ixD (eV 1) (eC (.int 0))) (.nm 2))
  (sSeq (sIf (cE (e2 eqD (eV 2) (eC (.str "turn"))))
  (sRet (eA tupD (aCons (e2 ixD (eV 0) (eC (.int 0))) (aCons (e2 ixD (eV 0) (eC (.int 1))) (aCons (e2 modI (e2 addI (e2 ixD (eV 0) (eC (.int 2))) (e1 (dkD turnsD) (e2 ixD (eV 1) (eC (.int 1))))) (eC (.int 4))) aNil)))))
  sNil)
  (sSeq (sAsg (eC (.int 0)) (.nm 3))
  (sSeq (sAsg (eC (.int 0)) (.nm 4))
  (sSeq (sIf (cE (e2 eqD (eV 2) (eC (.str "ahead"))))
  (sAsg (e2 ixD (eV 1) (eC (.int 1))) (.nm 3))
  (sIf (cE (e2 eqD (eV 2) (eC (.str "back"))))
  (sAsg (e2 subI (eC (.int 0)) (e2 ixD (eV 1) (eC (.int 1)))) (.nm 3))
  (sIf (cE (e2 eqD (eV 2) (eC (.str "right"))))
  (sAsg (e2 ixD (eV 1) (eC (.int 1))) (.nm 4))
  (sAsg (e2 subI (eC (.int 0)) (e2 ixD (eV 1) (eC (.int 1)))) (.nm 4)))))
  (sRet (e2 addT (eA (gN 3 F_spot_from) (aCons (eV 0) (aCons (eV 3) (aCons (eV 4) aNil)))) (eA tupD (aCons (e2 ixD (eV 0) (eC (.int 2))) aNil)))))))))
def F_stepped : List PyData → Option PyData := runG 5 g_stepped
theorem sc_stepped : FnScope ["stand", "step", "word", "ahead", "aside"] ["stand", "step"] (defScope (top 30)) := ⟨rfl, rfl, rfl, by decide +kernel, rfl, by decide +kernel, by decide +kernel⟩
theorem fd_stepped (B : Bt K w mg) (D : Dfn K mg "stepped" (top 30) ["stand", "step"]) (h_spot_from : FnD P w K mg base 1 "spot_from" 3 F_spot_from) : FnD P w K mg base 2 "stepped" 2 (F_stepped) :=
  fnd_of D sc_stepped fun f cdv A outer s H E hr => by
    have S := sc_stepped
    exact (ds_cons (ds_set (i := 2) S.nd (d_ix (dv 1) d_int))
    (ds_cons (ds_if (dt_cmp (od_eq (hr.units)) (dv 2) d_str)
    (ds_one (ds_ret (d_tup (da_cons (d_ix (dv 0) d_int) (da_cons (d_ix (dv 0) d_int) (da_cons (d_op od_modI (d_op od_addI (d_ix (dv 0) d_int) (d_turns B (d_ix (dv 1) d_int))) d_int) da_nil))))))
    ds_nil)
    (ds_cons (ds_set (i := 3) S.nd d_int)
    (ds_cons (ds_set (i := 4) S.nd d_int)
    (ds_cons (ds_if (dt_cmp (od_eq (hr.units)) (dv 2) d_str)
    (ds_one (ds_set (i := 3) S.nd (d_ix (dv 1) d_int)))
    (ds_one (ds_if (dt_cmp (od_eq (hr.units)) (dv 2) d_str)
    (ds_one (ds_set (i := 3) S.nd (d_op od_subI d_int (d_ix (dv 1) d_int))))
    (ds_one (ds_if (dt_cmp (od_eq (hr.units)) (dv 2) d_str)
    (ds_one (ds_set (i := 4) S.nd (d_ix (dv 1) d_int)))
    (ds_one (ds_set (i := 4) S.nd (d_op od_subI d_int (d_ix (dv 1) d_int)))))))))
    (ds_one (ds_ret (d_op od_addT (d_fn h_spot_from (hr.mono (by decide)) (da_cons (dv 0) (da_cons (dv 3) (da_cons (dv 4) da_nil)))) (d_tup (da_cons (d_ix (dv 0) d_int) da_nil))))))))))
def g_way_of : En → Option Res :=
  (sSeq (sLst 2 (aCons (eV 0) aNil))
  (sSeq (sFor (iB (eV 1) tuD) (.nm 3)
  (sIf (cE (e2 neD (e2 ixD (eV 3) (eC (.int 0))) (eC (.str "stay"))))
  (sApp 2 (eA (gN 2 F_stepped) (aCons (eIxO 2 (e1 negI (eC (.int 1)))) (aCons (eV 3) aNil))))
  sNil))
  (sFrz 2 (sRet (eV 2)))))
def F_way_of : List PyData → Option PyData := runG 4 g_way_of
theorem sc_way_of : FnScope ["stand", "steps", "found", "step"] ["stand", "steps"] (defScope (top 31)) := ⟨rfl, rfl, rfl, by decide +kernel, rfl, by decide +kernel, by decide +kernel⟩
theorem fd_way_of (B : Bt K w mg) (D : Dfn K mg "way_of" (top 31) ["stand", "steps"]) (h_stepped : FnD P w K mg base 2 "stepped" 2 F_stepped) : FnD P w K mg base 3 "way_of" 2 (F_way_of) :=
  fnd_of D sc_way_of fun f cdv A outer s H E hr => by
    have S := sc_way_of
    exact (ds_cons (ds_lst (i := 2) S.nd (da_cons (dv 0) da_nil))
    (ds_cons (ds_for PassesOwn.never (by rfl) (di_tup (dv 1)) (dg_name (i := 3) S.nd)
    (ds_one (ds_if (dt_cmp (od_ne (hr.units)) (d_ix (dv 3) d_int) d_str)
    (ds_one (ds_app (i := 2) (d_fn h_stepped (hr.mono (by decide)) (da_cons (d_ixO (i := 2) (d_neg d_int)) (da_cons (dv 3) da_nil)))))
    ds_nil)))
    (ds_frz (i := 2) (ds_one (ds_ret (dv 2))))))
def g_turned : En → Option Res :=
  (sSeq (sFor (iB (aCons (e2 modI (eV 1) (eC (.int 4))) aNil) rg1) (.nm 2)
  (sAsg (e1 tupleD (eLc (iB (eV 0) tuD) (.tp [3, 4, 5]) [3, 4, 5] (eA tupD (aCons (e2 subI (eC (.int 0)) (eV 4)) (aCons (eV 3) (aCons (e2 modI (e2 addI (eV 5) (eC (.int 1))) (eC (.int 4))) aNil)))))) (.nm 0)))
  (sRet (eV 0)))
def F_turned : List PyData → Option PyData := runG 6 g_turned
theorem sc_turned : FnScope ["floor", "quarters", "quarter", "x", "y", "facing"] ["floor", "quarters"] (defScope (top 37)) := ⟨rfl, rfl, rfl, by decide +kernel, rfl, by decide +kernel, by decide +kernel⟩
theorem fd_turned (B : Bt K w mg) (D : Dfn K mg "turned" (top 37) ["floor", "quarters"]) : FnD P w K mg base 1 "turned" 2 (F_turned) :=
  fnd_of D sc_turned fun f cdv A outer s H E hr => by
    have S := sc_turned
    exact (ds_cons (ds_for PassesOwn.never (by rfl) (di_rng1 (by rfl) B.range (da_cons (d_op od_modI (dv 1) d_int) da_nil)) (dg_name (i := 2) S.nd)
    (ds_one (ds_set (i := 0) S.nd (d_tupleOf (by rfl) B.tuple (d_lc (own := [("x", 3), ("y", 4), ("facing", 5)]) (by rfl) S.nd (di_tup (dv 0)) (blkOk_by (N := ["floor", "quarters", "quarter", "x", "y", "facing"]) (sc := defScope (top 37)) (own := [("x", 3), ("y", 4), ("facing", 5)]) (by decide +kernel)) (fun _ _ _ _ _ => (dg_three (i := 3) (j := 4) (l := 5) (by rfl) S.nd)) (fun _ _ _ _ _ => (d_tup (da_cons (d_op od_subI d_int (dv 4)) (da_cons (dv 3) (da_cons (d_op od_modI (d_op od_addI (dv 5) d_int) d_int) da_nil))))) (by decide))))))
    (ds_one (ds_ret (dv 0))))
def g_form : En → Option Res :=
  (sRet (e1 minD (eLc (iB (aCons (eC (.int 4)) aNil) rg1) (.nm 1) [1] (eA (gN 2 F_turned) (aCons (eV 0) (aCons (eV 1) aNil))))))
def F_form : List PyData → Option PyData := runG 2 g_form
theorem sc_form : FnScope ["floor", "quarters"] ["floor"] (defScope (top 38)) := ⟨rfl, rfl, rfl, by decide +kernel, rfl, by decide +kernel, by decide +kernel⟩
theorem fd_form (B : Bt K w mg) (D : Dfn K mg "form" (top 38) ["floor"]) (h_turned : FnD P w K mg base 1 "turned" 2 F_turned) : FnD P w K mg base 2 "form" 1 (F_form) :=
  fnd_of D sc_form fun f cdv A outer s H E hr => by
    have S := sc_form
    exact (ds_one (ds_ret (d_min hr (by rfl) (by rfl) B.min (d_lc (own := [("quarters", 1)]) (by rfl) S.nd (di_rng1 (by rfl) B.range (da_cons d_int da_nil)) (blkOk_by (N := ["floor", "quarters"]) (sc := defScope (top 38)) (own := [("quarters", 1)]) (by decide +kernel)) (fun _ _ _ _ _ => (dg_name (i := 1) S.nd)) (fun _ _ _ _ _ => (d_fn h_turned (hr.mono (by decide)) (da_cons (dv 0) (da_cons (dv 1) da_nil)))) (by decide)))))
end
end SQ
/-! ## SqW3 -/
set_option Elab.async false
set_option linter.all false
set_option maxRecDepth 100000
set_option maxHeartbeats 4000000
namespace SQ
open PySem PySem.Spec L2 TL
open PyProof.Rows (envOfC)
section
variable {P : Program} {w : World} {K : PySem.W.Frag} {mg : Str → Option Value} {base : Heap}

def g_number_in : En → Option Res :=
  (sSeq (sAsg (eSl (eV 0) (pE (e1 intD (e2 eqD (eSl (eV 0) pN (pE (eC (.int 1)))) (eC (.str "-"))))) pN) (.nm 3))
  (sSeq (sFor (iB (eV 3) chD) (.nm 4)
  (sIf (cE (e2 ninC (eV 4) (eC d_FIGURES)))
  sNo
  sNil))
  (sSeq (sIf (cOr (cNot (cE (eChain leI leI (eC (.int 1)) (e1 lenD (eV 3)) (eC (.int 3))))) (cAnd (cE (e2 eqD (e2 ixD (eV 3) (eC (.int 0))) (eC (.str "0")))) (cE (e2 neD (eV 0) (eC (.str "0"))))))
  sNo
  sNil)
  (sSeq (sAsg (e1 intD (eV 0)) (.nm 5))
  (sSeq (sIf (cOr (cE (e2 ltI (eV 5) (eV 1))) (cE (e2 gtI (eV 5) (eV 2))))
  sNo
  sNil)
  (sRet (eV 5)))))))
def F_number_in : List PyData → Option PyData := runG 6 g_number_in
theorem sc_number_in : FnScope ["word", "low", "high", "figures", "sign", "number"] ["word", "low", "high"] (defScope (top 52)) := ⟨rfl, rfl, rfl, by decide +kernel, rfl, by decide +kernel, by decide +kernel⟩
theorem fd_number_in (B : Bt K w mg) (D : Dfn K mg "number_in" (top 52) ["word", "low", "high"]) : FnD P w K mg base 1 "number_in" 3 (F_number_in) :=
  fnd_of D sc_number_in fun f cdv A outer s H E hr => by
    have S := sc_number_in
    exact (ds_cons (ds_set (i := 3) S.nd (d_sl (dv 0) (dp_some (d_int1 (by rfl) B.int (d_cmp (od_eq (hr.units)) (d_sl (dv 0) dp_none (dp_some d_int)) d_str))) dp_none))
    (ds_cons (ds_for PassesOwn.never (by rfl) (di_str (dv 3)) (dg_name (i := 4) S.nd)
    (ds_one (ds_if (dt_cmp (od_ninC) (dv 4) (d_cst B.FIGURES))
    (ds_one ds_no)
    ds_nil)))
    (ds_cons (ds_if ((dw_or (dt_not (dt_chain (od_le) (od_le) d_int (d_len (by rfl) B.len (dv 3)) d_int)) (dw_or1 ((dw_and (dt_cmp (od_eq (hr.units)) (d_ix (dv 3) d_int) d_str) (dw_and1 (dt_cmp (od_ne (hr.units)) (dv 0) d_str)))).pt))).pt
    (ds_one ds_no)
    ds_nil)
    (ds_cons (ds_set (i := 5) S.nd (d_int1 (by rfl) B.int (dv 0)))
    (ds_cons (ds_if ((dw_or (dt_cmp (od_lt) (dv 5) (dv 1)) (dw_or1 (dt_cmp (od_gt) (dv 5) (dv 2))))).pt
    (ds_one ds_no)
    ds_nil)
    (ds_one (ds_ret (dv 5))))))))
def g_word_at : En → Option Res :=
  (sSeq (sIf (cE (e2 ltI (eV 1) (e1 lenD (eV 0))))
  (sRet (e2 ixD (eV 0) (eV 1)))
  sNil)
  (sRet (eC (.str ""))))
def F_word_at : List PyData → Option PyData := runG 2 g_word_at
theorem sc_word_at : FnScope ["words", "at"] ["words", "at"] (defScope (top 53)) := ⟨rfl, rfl, rfl, by decide +kernel, rfl, by decide +kernel, by decide +kernel⟩
theorem fd_word_at (B : Bt K w mg) (D : Dfn K mg "word_at" (top 53) ["words", "at"]) : FnD P w K mg base 1 "word_at" 2 (F_word_at) :=
  fnd_of D sc_word_at fun f cdv A outer s H E hr => by
    have S := sc_word_at
    exact (ds_cons (ds_if (dt_cmp (od_lt) (dv 1) (d_len (by rfl) B.len (dv 0)))
    (ds_one (ds_ret (d_ix (dv 0) (dv 1))))
    ds_nil)
    (ds_one (ds_ret d_str)))
def g_plain_test : En → Option Res :=
  (sSeq (sAsg (eA (gN 2 F_word_at) (aCons (eV 0) (aCons (eV 1) aNil))) (.nm 2))
  (sSeq (sIf (cE (e2 inS (eV 2) (eC d_SHORT)))
  (sRet (eA tupD (aCons (eA tupD (aCons (eV 2) aNil)) (aCons (e2 addI (eV 1) (eC (.int 1))) aNil))))
  sNil)
  (sSeq (sIf (cE (e2 eqD (eV 2) (eC (.str "inner"))))
  (sRet (eA tupD (aCons (eA tupD (aCons (eC (.str "inner")) (aCons (eA (gN 3 F_number_in) (aCons (eA (gN 2 F_word_at) (aCons (eV 0) (aCons (e2 addI (eV 1) (eC (.int 1))) aNil))) (aCons (eC (.int 0)) (aCons (eC (.int 200)) aNil)))) aNil))) (aCons (e2 addI (eV 1) (eC (.int 2))) aNil))))
  sNil)
  (sSeq (sIf (cOr (cE (e2 neD (eV 2) (eC (.str "at")))) (cE (e2 ninS (eA (gN 2 F_word_at) (aCons (eV 0) (aCons (e2 addI (eV 1) (eC (.int 3))) aNil))) (eC d_SEEN))))
  sNo
  sNil)
  (sSeq (sAsg (eA (gN 3 F_number_in) (aCons (e2 ixD (eV 0) (e2 addI (eV 1) (eC (.int 1)))) (aCons (e1 negI (eC (.int 9))) (aCons (eC (.int 9)) aNil)))) (.nm 3))
  (sSeq (sAsg (eA (gN 3 F_number_in) (aCons (e2 ixD (eV 0) (e2 addI (eV 1) (eC (.int 2)))) (aCons (e1 negI (eC (.int 9))) (aCons (eC (.int 9)) aNil)))) (.nm 4))
  (sSeq (sIf (cAnd (cE (e2 eqD (eV 3) (eC (.int 0)))) (cE (e2 eqD (eV 4) (eC (.int 0)))))
  sNo
  sNil)
  (sRet (eA tupD (aCons (eA tupD (aCons (eC (.str "at")) (aCons (eV 3) (aCons (eV 4) (aCons (e2 ixD (eV 0) (e2 addI (eV 1) (eC (.int 3)))) aNil))))) (aCons (e2 addI (eV 1) (eC (.int 4))) aNil)))))))))))
def F_plain_test : List PyData → Option PyData := runG 5 g_plain_test
theorem sc_plain_test : FnScope ["words", "at", "word", "ahead", "right"] ["words", "at"] (defScope (top 54)) := ⟨rfl, rfl, rfl, by decide +kernel, rfl, by decide +kernel, by decide +kernel⟩
theorem fd_plain_test (B : Bt K w mg) (D : Dfn K mg "plain_test" (top 54) ["words", "at"]) (h_word_at : FnD P w K mg base 1 "word_at" 2 F_word_at) (h_number_in : FnD P w K mg base 1 "number_in" 3 F_number_in) : FnD P w K mg base 2 "plain_test" 2 (F_plain_test) :=
  fnd_of D sc_plain_test fun f cdv A outer s H E hr => by
    have S := sc_plain_test
    exact (ds_cons (ds_set (i := 2) S.nd (d_fn h_word_at (hr.mono (by decide)) (da_cons (dv 0) (da_cons (dv 1) da_nil))))
    (ds_cons (ds_if (dt_cmp (od_in) (dv 2) (d_cst B.SHORT))
    (ds_one (ds_ret (d_tup (da_cons (d_tup (da_cons (dv 2) da_nil)) (da_cons (d_op od_addI (dv 1) d_int) da_nil)))))
    ds_nil)
    (ds_cons (ds_if (dt_cmp (od_eq (hr.units)) (dv 2) d_str)
    (ds_one (ds_ret (d_tup (da_cons (d_tup (da_cons d_str (da_cons (d_fn h_number_in (hr.mono (by decide)) (da_cons (d_fn h_word_at (hr.mono (by decide)) (da_cons (dv 0) (da_cons (d_op od_addI (dv 1) d_int) da_nil))) (da_cons d_int (da_cons d_int da_nil)))) da_nil))) (da_cons (d_op od_addI (dv 1) d_int) da_nil)))))
    ds_nil)
    (ds_cons (ds_if ((dw_or (dt_cmp (od_ne (hr.units)) (dv 2) d_str) (dw_or1 (dt_cmp (od_nin) (d_fn h_word_at (hr.mono (by decide)) (da_cons (dv 0) (da_cons (d_op od_addI (dv 1) d_int) da_nil))) (d_cst B.SEEN))))).pt
    (ds_one ds_no)
    ds_nil)
    (ds_cons (ds_set (i := 3) S.nd (d_fn h_number_in (hr.mono (by decide)) (da_cons (d_ix (dv 0) (d_op od_addI (dv 1) d_int)) (da_cons (d_neg d_int) (da_cons d_int da_nil)))))
    (ds_cons (ds_set (i := 4) S.nd (d_fn h_number_in (hr.mono (by decide)) (da_cons (d_ix (dv 0) (d_op od_addI (dv 1) d_int)) (da_cons (d_neg d_int) (da_cons d_int da_nil)))))
    (ds_cons (ds_if ((dw_and (dt_cmp (od_eq (hr.units)) (dv 3) d_int) (dw_and1 (dt_cmp (od_eq (hr.units)) (dv 4) d_int)))).pt
    (ds_one ds_no)
    ds_nil)
    (ds_one (ds_ret (d_tup (da_cons (d_tup (da_cons d_str (da_cons (dv 3) (da_cons (dv 4) (da_cons (d_ix (dv 0) (d_op od_addI (dv 1) d_int)) da_nil))))) (da_cons (d_op od_addI (dv 1) d_int) da_nil))))))))))))
def g_test_from : En → Option Res :=
  (sSeq (sIf (cE (e2 eqD (eA (gN 2 F_word_at) (aCons (eV 0) (aCons (eV 1) aNil))) (eC (.str "not"))))
  (sSeq (sAsg (eA (gN 2 F_plain_test) (aCons (eV 0) (aCons (e2 addI (eV 1) (eC (.int 1))) aNil))) (.tp [2, 3]))
  (sRet (eA tupD (aCons (eA tupD (aCons (eC (.str "not")) (aCons (eV 2) aNil))) (aCons (eV 3) aNil)))))
  sNil)
  (sRet (eA (gN 2 F_plain_test) (aCons (eV 0) (aCons (eV 1) aNil)))))
def F_test_from : List PyData → Option PyData := runG 4 g_test_from
theorem sc_test_from : FnScope ["words", "at", "inner", "end"] ["words", "at"] (defScope (top 55)) := ⟨rfl, rfl, rfl, by decide +kernel, rfl, by decide +kernel, by decide +kernel⟩
theorem fd_test_from (B : Bt K w mg) (D : Dfn K mg "test_from" (top 55) ["words", "at"]) (h_word_at : FnD P w K mg base 1 "word_at" 2 F_word_at) (h_plain_test : FnD P w K mg base 2 "plain_test" 2 F_plain_test) : FnD P w K mg base 3 "test_from" 2 (F_test_from) :=
  fnd_of D sc_test_from fun f cdv A outer s H E hr => by
    have S := sc_test_from
    exact (ds_cons (ds_if (dt_cmp (od_eq (hr.units)) (d_fn h_word_at (hr.mono (by decide)) (da_cons (dv 0) (da_cons (dv 1) da_nil))) d_str)
    (ds_cons (ds_asg (d_fn h_plain_test (hr.mono (by decide)) (da_cons (dv 0) (da_cons (d_op od_addI (dv 1) d_int) da_nil))) (dg_two (i := 2) (j := 3) (by rfl) S.nd))
    (ds_one (ds_ret (d_tup (da_cons (d_tup (da_cons d_str (da_cons (dv 2) da_nil))) (da_cons (dv 3) da_nil))))))
    ds_nil)
    (ds_one (ds_ret (d_fn h_plain_test (hr.mono (by decide)) (da_cons (dv 0) (da_cons (dv 1) da_nil))))))
def g_read_tests : En → Option Res :=
  (sSeq (sIf (cE (e2 eqD (eV 0) (eA lstD aNil)))
  (sRet (eA tupD aNil))
  sNil)
  (sSeq (sLst 1 aNil)
  (sSeq (sAsg (e1 negI (eC (.int 1))) (.nm 2))
  (sSeq (whileD (cE (e2 ltI (eV 2) (e1 lenD (eV 0))))
  (sSeq (sIf (cAnd (cE (e2 geI (eV 2) (eC (.int 0)))) (cE (e2 neD (e2 ixD (eV 0) (eV 2)) (eC (.str "and")))))
  sNo
  sNil)
  (sSeq (sAsg (eA (gN 2 F_test_from) (aCons (eV 0) (aCons (e2 addI (eV 2) (eC (.int 1))) aNil))) (.tp [3, 2]))
  (sApp 1 (eV 3)))) 64)
  (sFrz 1 (sSeq (sIf (cE (e2 gtI (e1 lenD (eV 1)) (eC d_MOST_TESTS)))
  sNo
  sNil)
  (sRet (e1 tupleD (eV 1)))))))))
def F_read_tests : List PyData → Option PyData := runG 4 g_read_tests
theorem sc_read_tests : FnScope ["words", "found", "at", "test"] ["words"] (defScope (top 56)) := ⟨rfl, rfl, rfl, by decide +kernel, rfl, by decide +kernel, by decide +kernel⟩
theorem fd_read_tests (B : Bt K w mg) (D : Dfn K mg "read_tests" (top 56) ["words"]) (h_test_from : FnD P w K mg base 3 "test_from" 2 F_test_from) : FnD P w K mg base 4 "read_tests" 1 (F_read_tests) :=
  fnd_of D sc_read_tests fun f cdv A outer s H E hr => by
    have S := sc_read_tests
    exact (ds_cons (ds_if (dt_cmp (od_eq (hr.units)) (dv 0) (d_lst da_nil))
    (ds_one (ds_ret (d_tup da_nil)))
    ds_nil)
    (ds_cons (ds_lst (i := 1) S.nd da_nil)
    (ds_cons (ds_set (i := 2) S.nd (d_neg d_int))
    (ds_cons (ds_while (n := 64) PassesOwn.never (dt_cmp (od_lt) (dv 2) (d_len (by rfl) B.len (dv 0)))
    (ds_cons (ds_if ((dw_and (dt_cmp (od_ge) (dv 2) d_int) (dw_and1 (dt_cmp (od_ne (hr.units)) (d_ix (dv 0) (dv 2)) d_str)))).pt
    (ds_one ds_no)
    ds_nil)
    (ds_cons (ds_asg (d_fn h_test_from (hr.mono (by decide)) (da_cons (dv 0) (da_cons (d_op od_addI (dv 2) d_int) da_nil))) (dg_two (i := 3) (j := 2) (by rfl) S.nd))
    (ds_one (ds_app (i := 1) (dv 3))))))
    (ds_frz (i := 1) (ds_cons (ds_if (dt_cmp (od_gt) (d_len (by rfl) B.len (dv 1)) (d_cst B.MOST_TESTS))
    (ds_one ds_no)
    ds_nil)
    (ds_one (ds_ret (d_tupleOf (by rfl) B.tuple (dv 1))))))))))
def g_read_steps : En → Option Res :=
  (sSeq (sIf (cE (e2 eqD (eV 0) (eA lstD (aCons (eC (.str "stay")) aNil))))
  (sRet (eA tupD (aCons (eA tupD (aCons (eC (.str "stay")) aNil)) aNil)))
  sNil)
  (sSeq (sLst 1 aNil)
  (sSeq (sFor (iB (aCons (eC (.int 0)) (aCons (e1 lenD (eV 0)) (aCons (eC (.int 2)) aNil))) rg3) (.nm 2)
  (sSeq (sAsg (e2 ixD (eV 0) (eV 2)) (.nm 3))
  (sSeq (sAsg (eA (gN 2 F_word_at) (aCons (eV 0) (aCons (e2 addI (eV 2) (eC (.int 1))) aNil))) (.nm 4))
  (sIf (cAnd (cE (e2 eqD (eV 3) (eC (.str "turn")))) (cE (e2 inS (eV 4) (eC d_TURNS_rules))))
  (sApp 1 (eA tupD (aCons (eC (.str "turn")) (aCons (eV 4) aNil))))
  (sIf (cE (e2 inS (eV 3) (eC d_MOVES)))
  (sApp 1 (eA tupD (aCons (eV 3) (aCons (eA (gN 3 F_number_in) (aCons (eV 4) (aCons (eC (.int 1)) (aCons (eC (.int 9)) aNil)))) aNil))))
  sNo)))))
  (sFrz 1 (sSeq (sIf (cNot (cE (eChain leI leI (eC (.int 1)) (e1 lenD (eV 1)) (eC d_MOST_STEPS))))
  sNo
  sNil)
  (sRet (e1 tupleD (eV 1))))))))
def F_read_steps : List PyData → Option PyData := runG 5 g_read_steps
theorem sc_read_steps : FnScope ["words", "found", "at", "word", "more"] ["words"] (defScope (top 57)) := ⟨rfl, rfl, rfl, by decide +kernel, rfl, by decide +kernel, by decide +kernel⟩
theorem fd_read_steps (B : Bt K w mg) (D : Dfn K mg "read_steps" (top 57) ["words"]) (h_word_at : FnD P w K mg base 1 "word_at" 2 F_word_at) (h_number_in : FnD P w K mg base 1 "number_in" 3 F_number_in) : FnD P w K mg base 2 "read_steps" 1 (F_read_steps) :=
  fnd_of D sc_read_steps fun f cdv A outer s H E hr => by
    have S := sc_read_steps
    exact (ds_cons (ds_if (dt_cmp (od_eq (hr.units)) (dv 0) (d_lst (da_cons d_str da_nil)))
    (ds_one (ds_ret (d_tup (da_cons (d_tup (da_cons d_str da_nil)) da_nil))))
    ds_nil)
    (ds_cons (ds_lst (i := 1) S.nd da_nil)
    (ds_cons (ds_for PassesOwn.never (by rfl) (di_rng3 (by rfl) B.range (da_cons d_int (da_cons (d_len (by rfl) B.len (dv 0)) (da_cons d_int da_nil)))) (dg_name (i := 2) S.nd)
    (ds_cons (ds_set (i := 3) S.nd (d_ix (dv 0) (dv 2)))
    (ds_cons (ds_set (i := 4) S.nd (d_fn h_word_at (hr.mono (by decide)) (da_cons (dv 0) (da_cons (d_op od_addI (dv 2) d_int) da_nil))))
    (ds_one (ds_if ((dw_and (dt_cmp (od_eq (hr.units)) (dv 3) d_str) (dw_and1 (dt_cmp (od_in) (dv 4) (d_cst B.TURNS_rules))))).pt
    (ds_one (ds_app (i := 1) (d_tup (da_cons d_str (da_cons (dv 4) da_nil)))))
    (ds_one (ds_if (dt_cmp (od_in) (dv 3) (d_cst B.MOVES))
    (ds_one (ds_app (i := 1) (d_tup (da_cons (dv 3) (da_cons (d_fn h_number_in (hr.mono (by decide)) (da_cons (dv 4) (da_cons d_int (da_cons d_int da_nil)))) da_nil)))))
    (ds_one ds_no))))))))
    (ds_frz (i := 1) (ds_cons (ds_if (dt_not (dt_chain (od_le) (od_le) d_int (d_len (by rfl) B.len (dv 1)) (d_cst B.MOST_STEPS)))
    (ds_one ds_no)
    ds_nil)
    (ds_one (ds_ret (d_tupleOf (by rfl) B.tuple (dv 1)))))))))
def g_read_rule : En → Option Res :=
  (sSeq (sIf (cE (e2 neD (e2 cntS (eV 0) (eC (.str ">"))) (eC (.int 1))))
  sNo
  sNil)
  (sSeq (sAsg (e2 idxS (eV 0) (eC (.str ">"))) (.nm 1))
  (sRet (eA tupD (aCons (eA (gN 1 F_read_tests) (aCons (eSl (eV 0) pN (pE (eV 1))) aNil)) (aCons (eA (gN 1 F_read_steps) (aCons (eSl (eV 0) (pE (e2 addI (eV 1) (eC (.int 1)))) pN) aNil)) aNil))))))
def F_read_rule : List PyData → Option PyData := runG 2 g_read_rule
theorem sc_read_rule : FnScope ["words", "at"] ["words"] (defScope (top 58)) := ⟨rfl, rfl, rfl, by decide +kernel, rfl, by decide +kernel, by decide +kernel⟩
theorem fd_read_rule (B : Bt K w mg) (D : Dfn K mg "read_rule" (top 58) ["words"]) (h_read_steps : FnD P w K mg base 2 "read_steps" 1 F_read_steps) (h_read_tests : FnD P w K mg base 4 "read_tests" 1 F_read_tests) : FnD P w K mg base 5 "read_rule" 1 (F_read_rule) :=
  fnd_of D sc_read_rule fun f cdv A outer s H E hr => by
    have S := sc_read_rule
    exact (ds_cons (ds_if (dt_cmp (od_ne (hr.units)) (d_count (dv 0) d_str) d_int)
    (ds_one ds_no)
    ds_nil)
    (ds_cons (ds_set (i := 1) S.nd (d_index (dv 0) d_str))
    (ds_one (ds_ret (d_tup (da_cons (d_fn h_read_tests (hr.mono (by decide)) (da_cons (d_sl (dv 0) dp_none (dp_some (dv 1))) da_nil)) (da_cons (d_fn h_read_steps (hr.mono (by decide)) (da_cons (d_sl (dv 0) (dp_some (d_op od_addI (dv 1) d_int)) dp_none) da_nil)) da_nil)))))))
def g_read_call : En → Option Res :=
  (sSeq (sIf (cNot (cE (e1 (isI "str") (eV 0))))
  sNo
  sNil)
  (sSeq (sAsg (e2 splitD (eV 0) (eC (.str " ; "))) (.nm 1))
  (sSeq (sIf (cE (e2 gtI (e1 lenD (eV 1)) (eC d_MOST_RULES)))
  sNo
  sNil)
  (sRet (eLc (iB (eV 1) lsD) (.nm 2) [2] (eA (gN 1 F_read_rule) (aCons (e2 splitD (eV 2) (eC (.str " "))) aNil)))))))
def F_read_call : List PyData → Option PyData := runG 3 g_read_call
theorem sc_read_call : FnScope ["text", "rows", "row"] ["text"] (defScope (top 59)) := ⟨rfl, rfl, rfl, by decide +kernel, rfl, by decide +kernel, by decide +kernel⟩
theorem fd_read_call (B : Bt K w mg) (D : Dfn K mg "read_call" (top 59) ["text"]) (h_read_rule : FnD P w K mg base 5 "read_rule" 1 F_read_rule) : FnD P w K mg base 6 "read_call" 1 (F_read_call) :=
  fnd_of D sc_read_call fun f cdv A outer s H E hr => by
    have S := sc_read_call
    exact (ds_cons (ds_if (dt_not (dt_val (d_isi (pe_ty (T := "str") (by rfl) B.str (by decide +kernel)) (by rfl) B.isinstance (dv 0))))
    (ds_one ds_no)
    ds_nil)
    (ds_cons (ds_set (i := 1) S.nd (d_split (dv 0) d_str))
    (ds_cons (ds_if (dt_cmp (od_gt) (d_len (by rfl) B.len (dv 1)) (d_cst B.MOST_RULES))
    (ds_one ds_no)
    ds_nil)
    (ds_one (ds_ret (d_lc (own := [("row", 2)]) (by rfl) S.nd (di_list (dv 1)) (blkOk_by (N := ["text", "rows", "row"]) (sc := defScope (top 59)) (own := [("row", 2)]) (by decide +kernel)) (fun _ _ _ _ _ => (dg_name (i := 2) S.nd)) (fun _ _ _ _ _ => (d_fn h_read_rule (hr.mono (by decide)) (da_cons (d_split (dv 2) d_str) da_nil))) (by decide)))))))
def g_is_call_name : En → Option Res :=
  (sSeq (sIf (cOr (cNot (cE (e1 (isI "str") (eV 0)))) (cOr (cNot (cE (eChain leI leI (eC (.int 1)) (e1 lenD (eV 0)) (eC (.int 8))))) (cE (e2 inS (eV 0) (eC d_KEPT)))))
  (sRet (eC (.bool false)))
  sNil)
  (sSeq (sFor (iB (eV 0) chD) (.nm 1)
  (sIf (cE (e2 ninC (eV 1) (eC d_LETTERS)))
  (sRet (eC (.bool false)))
  sNil))
  (sRet (eC (.bool true)))))
def F_is_call_name : List PyData → Option PyData := runG 2 g_is_call_name
theorem sc_is_call_name : FnScope ["thing", "sign"] ["thing"] (defScope (top 64)) := ⟨rfl, rfl, rfl, by decide +kernel, rfl, by decide +kernel, by decide +kernel⟩
theorem fd_is_call_name (B : Bt K w mg) (D : Dfn K mg "is_call_name" (top 64) ["thing"]) : FnD P w K mg base 1 "is_call_name" 1 (F_is_call_name) :=
  fnd_of D sc_is_call_name fun f cdv A outer s H E hr => by
    have S := sc_is_call_name
    exact (ds_cons (ds_if ((dw_or (dt_not (dt_val (d_isi (pe_ty (T := "str") (by rfl) B.str (by decide +kernel)) (by rfl) B.isinstance (dv 0)))) (dw_or (dt_not (dt_chain (od_le) (od_le) d_int (d_len (by rfl) B.len (dv 0)) d_int)) (dw_or1 (dt_cmp (od_in) (dv 0) (d_cst B.KEPT)))))).pt
    (ds_one (ds_ret d_bl))
    ds_nil)
    (ds_cons (ds_for PassesOwn.never (by rfl) (di_str (dv 0)) (dg_name (i := 1) S.nd)
    (ds_one (ds_if (dt_cmp (od_ninC) (dv 1) (d_cst B.LETTERS))
    (ds_one (ds_ret d_bl))
    ds_nil)))
    (ds_one (ds_ret d_bl))))
end
end SQ
/-! ## SqEx -/
set_option Elab.async false
set_option linter.all false
set_option maxRecDepth 100000
set_option maxHeartbeats 4000000
/-! the program's own errors: FloorError(ValueError), and those over it -/
namespace SQ
open PySem PySem.Spec L2 TL
open PyProof.Rows (envOfC)

/-- FloorError -/
structure FlE (K : PySem.W.Frag) (mg : Str → Option Value) : Prop where
  ex : ∃ CF, mg "FloorError" = some (.ref CF) ∧ PySem.W.readsIn K CF (.type "type") = true ∧ PySem.W.specialIn K (.ref CF) "__getattribute__" = some (some (.builtin "type.__getattribute__")) ∧
    PySem.W.findCls K (.ref CF) (.type "type") "__init__" = some (.val (.builtin "ValueError.__init__"))
section
variable {X : Cx} {e : Expr} {es : List Expr} {ta : TA} {p1 p2 pos : Pos}
theorem pe_flinit {pl : Sem Bool} (T : FlE X.K X.mg) (ha : PA X (e :: es) ta) (hg : Gl X "FloorError" := by rfl)
    (hc : eval (.Call (.Attribute (.Name "FloorError" p1) "__init__" p2) (e :: es) [] pos) X.env = (do
      let ov ← eval (.Name "FloorError" p1) X.env
      standAt p2.atName
      let (f, first) ← holding [ov] (getMethod ov "__init__" pl)
      callWith pos f first (backTo pos (starEach (e :: es) X.env)) (backToKw pos (keywordEach [] X.env))) := by rfl)
    (he : starEach (e :: es) X.env = (false, eval e X.env) :: starEach es X.env := by rfl) (hpl : (backTo pos (starEach es X.env)).any (·.1) = false := by rfl) :
    PE X (.Call (.Attribute (.Name "FloorError" p1) "__init__" p2) (e :: es) [] pos) (tVeI X.K ta) := by
  obtain ⟨CF, hm, hr, hga, hf⟩ := T.ex
  refine ⟨fun pins s σ H Q I h => ?_⟩
  refine PySem.W.methodCall_KW (ld_glob I hg hm ?_ (by decide)) hc
  refine PySem.W.method_cls I.kIn hga (PySem.W.cls_value I.kIn hr hf (by decide +kernel) ?_)
  show wpAny _ _ (callWith pos (Value.builtin "ValueError.__init__") [] (backTo pos (starEach (e :: es) X.env)) []) _ _ _
  refine PyProof.Rows.callWith_method1 (thn (ha.run pos pins _ σ H _ (I.tok _) h) fun us s1 ⟨vs, H1, I1, r1, a, C, ws, ev, hl, T, ea, q⟩ => ?_) he hpl
  subst ev
  cases r1 with
  | @cons _ u0 _ ur ra rw' =>
    obtain rfl : u0 = Value.ref a := ra
    have hlen : ur.length ≤ sizeLine := by
      rw [← Paired.length rw', sizeLine_eq]
      omega
    exact oinit_ok T I1 ea hlen fun s' J => ⟨.non, H1, J, rfl, q⟩
end
/-! ### __init__ with one field, with two -/
def spI1 (K : PySem.W.Frag) (f : Str) : Sp := fun vs H Q _ => ∃ (a C : Addr) (x : V), vs = [.ref a, x] ∧ H a = some (exo a C none) ∧ OexC K C ∧ PySem.W.findIn K (.ref C) f = some none ∧
  ∀ dx, H dx = none → dx ≠ a → Q .non (upd (upd H dx (exd dx [(f, x)])) a (exo a C (some dx)))
def spI2 (K : PySem.W.Frag) (f g : Str) : Sp := fun vs H Q _ => ∃ (a C : Addr) (x y : V), vs = [.ref a, x, y] ∧ H a = some (exo a C none) ∧ OexC K C ∧ PySem.W.findIn K (.ref C) f = some none ∧ PySem.W.findIn K (.ref C) g = some none ∧
  ∀ dx, H dx = none → dx ≠ a → Q .non (upd (upd (upd H dx (exd dx [(f, x)])) a (exo a C (some dx))) dx (exd dx [(g, y), (f, x)]))
section
variable {P : Program} {w : World} {K : PySem.W.Frag} {mg : Str → Option Value} {base : Heap}
theorem sc_Blind : FnScope ["self", "who"] ["self", "who"] (defScope (inClass (top 6) 0)) := ⟨rfl, rfl, rfl, by decide +kernel, rfl, by decide +kernel, by decide +kernel⟩
theorem sc_Out : FnScope ["self", "who"] ["self", "who"] (defScope (inClass (top 7) 0)) := ⟨rfl, rfl, rfl, by decide +kernel, rfl, by decide +kernel, by decide +kernel⟩
theorem sc_Meet : FnScope ["self", "one", "other"] ["self", "one", "other"] (defScope (inClass (top 8) 0)) := ⟨rfl, rfl, rfl, by decide +kernel, rfl, by decide +kernel, by decide +kernel⟩
theorem ok_Blind {f : Addr} {fd : FuncData} (T : FlE K mg) (F : Fun K "__init__" "Blind.__init__" (inClass (top 6) 0) f fd) : FnOk P w K mg base CX0 1 f fd ["self", "who"] (spI1 K "who") := by
  refine F.ok sc_Blind (fun vs H Q E h => ?_) (fun cdv A outer s H vs Q E hr h => ?_)
  · obtain ⟨a, C, x, rfl, _⟩ := h
    rfl
  · obtain ⟨a, C, x, rfl, ea, hC, hn, k⟩ := h
    refine ⟨_, pss_cons (ps_expr (pe_flinit T (pa_cons (pv 0) (pa_cons pe_str pa_nil)))) (pss_one (ps_ost (pv 0) (pv 1))), ?_⟩
    exact ⟨_, rfl, a, C, [.str _], rfl, (by decide), hC, ea, _, rfl, _, rfl, a, C, rfl, hC, hn, .inl ⟨ea, fun dx h1 h2 => k dx h1 h2⟩⟩
theorem ok_Out {f : Addr} {fd : FuncData} (T : FlE K mg) (F : Fun K "__init__" "Out.__init__" (inClass (top 7) 0) f fd) : FnOk P w K mg base CX0 1 f fd ["self", "who"] (spI1 K "who") := by
  refine F.ok sc_Out (fun vs H Q E h => ?_) (fun cdv A outer s H vs Q E hr h => ?_)
  · obtain ⟨a, C, x, rfl, _⟩ := h
    rfl
  · obtain ⟨a, C, x, rfl, ea, hC, hn, k⟩ := h
    refine ⟨_, pss_cons (ps_expr (pe_flinit T (pa_cons (pv 0) (pa_cons pe_str pa_nil)))) (pss_one (ps_ost (pv 0) (pv 1))), ?_⟩
    exact ⟨_, rfl, a, C, [.str _], rfl, (by decide), hC, ea, _, rfl, _, rfl, a, C, rfl, hC, hn, .inl ⟨ea, fun dx h1 h2 => k dx h1 h2⟩⟩
theorem ok_Meet {f : Addr} {fd : FuncData} (T : FlE K mg) (F : Fun K "__init__" "Meet.__init__" (inClass (top 8) 0) f fd) : FnOk P w K mg base CX0 1 f fd ["self", "one", "other"] (spI2 K "one" "other") := by
  refine F.ok sc_Meet (fun vs H Q E h => ?_) (fun cdv A outer s H vs Q E hr h => ?_)
  · obtain ⟨a, C, x, y, rfl, _⟩ := h
    rfl
  · obtain ⟨a, C, x, y, rfl, ea, hC, hn, hn2, k⟩ := h
    refine ⟨_, pss_cons (ps_expr (pe_flinit T (pa_cons (pv 0) (pa_cons pe_str pa_nil)))) (pss_cons (ps_ost (pv 0) (pv 1)) (pss_one (ps_ost (pv 0) (pv 2)))), ?_⟩
    refine ⟨_, rfl, a, C, [.str _], rfl, (by decide), hC, ea, _, rfl, _, rfl, a, C, rfl, hC, hn, .inl ⟨ea, fun dx h1 h2 => ?_⟩⟩
    exact ⟨_, rfl, _, rfl, a, C, rfl, hC, hn2, .inr ⟨dx, _, upd_same, by rw [upd_ne h2, upd_same], (by show 1 ≤ 900; decide), k dx h1 h2⟩⟩
end
/-! ### raised -/
/-- an error with its own __init__, as the top left it -/
structure ErrK (P : Program) (w : World) (K : PySem.W.Frag) (mg : Str → Option Value) (base : Heap) (x : Str) (C : Addr) (ps : List Str) (sp : Sp) : Prop where
  gC : mg x = some (.ref C)
  T : OexC K C
  ini : ∃ fI fd, PySem.W.findIn K (.ref C) "__init__" = some (some (.ref fI)) ∧ PySem.W.typeIn K (.ref fI) = some (.type "function") ∧ FnOk P w K mg base CX0 1 fI fd ps sp ∧ Binds K fd ps []
def sRaise (t : Nat) (ga : En → Option (List PyData)) : En → Option Res := fun δ => (ga δ).map fun _ => .ex t
section
variable {X : Cx} {E : XK} {cls : Nat → Value} {a b : Expr} {es : List Expr} {ga : En → Option (List PyData)} {pos pos2 p : Pos} {x : Str} {C : Addr} {ps : List Str}
theorem same_exc {H H1 : Hp} {a d : Addr} {o1 o2 o3 o4 : HO} (s : Same H H1) (ha : H1 a = none) (hd : H1 d = none) : Same H (upd (del (upd (upd (upd H1 a o1) d o2) a o3) a) d o4) := fun c o e => by
  have e1 := s c o e
  have n1 : c ≠ a := fun q => by rw [q, ha] at e1; cases e1
  have n2 : c ≠ d := fun q => by rw [q, hd] at e1; cases e1
  rw [upd_ne n2, del_ne n1, upd_ne n1, upd_ne n2, upd_ne n1]
  exact e1
theorem same_exc2 {H H1 : Hp} {a d : Addr} {o1 o2 o3 o4 o5 : HO} (s : Same H H1) (ha : H1 a = none) (hd : H1 d = none) : Same H (upd (del (upd (upd (upd (upd H1 a o1) d o2) a o3) d o5) a) d o4) := fun c o e => by
  have e1 := s c o e
  have n1 : c ≠ a := fun q => by rw [q, ha] at e1; cases e1
  have n2 : c ≠ d := fun q => by rw [q, hd] at e1; cases e1
  rw [upd_ne n2, del_ne n1, upd_ne n2, upd_ne n1, upd_ne n2, upd_ne n1]
  exact e1
theorem ds_raise1 {t : Nat} {f : Str} (T : ErrK X.prog X.w X.K X.mg X.base x C ps (spI1 X.K f)) (hf : PySem.W.findIn X.K (.ref C) f = some none) (ht : cls t = .ref C) (hc : X.calm = true) {k : Nat} (hr : Room k X.A) (h2 : 2 ≤ k) (tk : Takes X (fun c d _ H => E c d H)) (hx : Passes CX0 X (fun _ _ _ => False))
    (ha : PA X [a] (tA X.K ga)) (hg : Gl X x := by rfl) (hdb : (x == ("__debug__" : Str)) = false := by decide)
    (he : starEach (a :: []) X.env = (false, eval a X.env) :: starEach [] X.env := by rfl) (hpl : (backTo pos (starEach [] X.env)).any (·.1) = false := by rfl) :
    PS X (.Raise (some (.Call (.Name x p) [a] [] pos)) none pos2) (tS X.K E cls (sRaise t (fun δ => (ga δ).bind fun ds => if ds.length = 1 then some ds else none))) := by
  obtain ⟨fI, fd, h1, h3, F, hb⟩ := T.ini
  refine PS.imp (ps_raise hc tk (pmk_oex T.T h1 h3 F (hr.mono h2) hb .nil hx hg T.gC ha hdb he hpl)) fun D σ H ⟨Hb0, H0, Hb, δ, S, r, hr', P⟩ => ?_
  obtain ⟨ds, hds, rfl⟩ := Option.map_eq_some_iff.mp hr'
  obtain ⟨ds', hds', hds⟩ := Option.bind_eq_some_iff.mp hds
  split at hds
  · rename_i hl
    cases hds
    refine ⟨Hb, δ, S.sta, _, hds', fun vs H1 s hvs => ?_⟩
    have l := hvs.length
    rw [hl] at l
    match vs, l with
    | [v], _ =>
      refine ⟨(by show 1 ≤ 1000; decide), fun e hn => ⟨e, C, v, rfl, upd_same, T.T, hf, fun dx hd hne => ⟨rfl, dx, _, upd_same, by rw [upd_ne hne, upd_same], ?_, ?_⟩⟩⟩
      · rw [upd_ne hne] at hd; exact hd
      · rw [← ht]
        rw [upd_ne hne] at hd
        exact P _ _ (same_exc (S.b0.trans s) hn hd)
  · cases hds
theorem ds_raise2 {t : Nat} {f g : Str} (T : ErrK X.prog X.w X.K X.mg X.base x C ps (spI2 X.K f g)) (hf : PySem.W.findIn X.K (.ref C) f = some none) (hg2 : PySem.W.findIn X.K (.ref C) g = some none) (ht : cls t = .ref C) (hc : X.calm = true) {k : Nat} (hr : Room k X.A) (h2 : 2 ≤ k) (tk : Takes X (fun c d _ H => E c d H)) (hx : Passes CX0 X (fun _ _ _ => False))
    (ha : PA X (a :: b :: []) (tA X.K ga)) (hg : Gl X x := by rfl) (hdb : (x == ("__debug__" : Str)) = false := by decide)
    (he : starEach (a :: b :: []) X.env = (false, eval a X.env) :: starEach (b :: []) X.env := by rfl) (hpl : (backTo pos (starEach (b :: []) X.env)).any (·.1) = false := by rfl) :
    PS X (.Raise (some (.Call (.Name x p) (a :: b :: []) [] pos)) none pos2) (tS X.K E cls (sRaise t (fun δ => (ga δ).bind fun ds => if ds.length = 2 then some ds else none))) := by
  obtain ⟨fI, fd, h1, h3, F, hb⟩ := T.ini
  refine PS.imp (ps_raise hc tk (pmk_oex T.T h1 h3 F (hr.mono h2) hb .nil hx hg T.gC ha hdb he hpl)) fun D σ H ⟨Hb0, H0, Hb, δ, S, r, hr', P⟩ => ?_
  obtain ⟨ds, hds, rfl⟩ := Option.map_eq_some_iff.mp hr'
  obtain ⟨ds', hds', hds⟩ := Option.bind_eq_some_iff.mp hds
  split at hds
  · rename_i hl
    cases hds
    refine ⟨Hb, δ, S.sta, _, hds', fun vs H1 s hvs => ?_⟩
    have l := hvs.length
    rw [hl] at l
    match vs, l with
    | [v, u], _ =>
      refine ⟨(by show 2 ≤ 1000; decide), fun e hn => ⟨e, C, v, u, rfl, upd_same, T.T, hf, hg2, fun dx hd hne => ⟨rfl, dx, _, by rw [upd_ne (Ne.symm hne), upd_same], upd_same, ?_, ?_⟩⟩⟩
      · rw [upd_ne hne] at hd; exact hd
      · rw [← ht]
        rw [upd_ne hne] at hd
        exact P _ _ (same_exc2 (S.b0.trans s) hn hd)
  · cases hds
end
end SQ
/-! ## SqEx2 -/
set_option Elab.async false
set_option linter.all false
set_option maxRecDepth 100000
set_option maxHeartbeats 4000000
/-! the errors by tags; defs with defaults; calls that may raise, as values -/
namespace SQ
open PySem PySem.Spec L2 TL
open PyProof.Rows (envOfC)
/-- tags: 0 Blind, 1 Out, 2 Meet -/
structure Errs (P : Program) (w : World) (K : PySem.W.Frag) (mg : Str → Option Value) (base : Heap) (cls : Nat → Value) : Prop where
  blind : ∃ C, cls 0 = .ref C ∧ ErrK P w K mg base "Blind" C ["self", "who"] (spI1 K "who") ∧ PySem.W.findIn K (.ref C) "who" = some none
  out : ∃ C, cls 1 = .ref C ∧ ErrK P w K mg base "Out" C ["self", "who"] (spI1 K "who") ∧ PySem.W.findIn K (.ref C) "who" = some none
  meet : ∃ C, cls 2 = .ref C ∧ ErrK P w K mg base "Meet" C ["self", "one", "other"] (spI2 K "one" "other") ∧ PySem.W.findIn K (.ref C) "one" = some none ∧ PySem.W.findIn K (.ref C) "other" = some none
def sRz (t n : Nat) (ga : En → Option (List PyData)) : En → Option Res := sRaise t (fun δ => (ga δ).bind fun ds => if ds.length = n then some ds else none)
section
variable {X : Cx} {E : XK} {cls : Nat → Value} {a b e : Expr} {es : List Expr} {ga : En → Option (List PyData)} {pos pos2 p : Pos} {k : Nat}
theorem ds_raiseBlind (R : Errs X.prog X.w X.K X.mg X.base cls) (hc : X.calm = true) (hr : Room k X.A) (h2 : 2 ≤ k) (tk : Takes X (fun c d _ H => E c d H)) (ha : PA X [a] (tA X.K ga)) (hg : Gl X "Blind" := by rfl)
    (he : starEach (a :: []) X.env = (false, eval a X.env) :: starEach [] X.env := by rfl) (hpl : (backTo pos (starEach [] X.env)).any (·.1) = false := by rfl) :
    PS X (.Raise (some (.Call (.Name "Blind" p) [a] [] pos)) none pos2) (tS X.K E cls (sRz 0 1 ga)) := by
  obtain ⟨C, h1, T, h3⟩ := R.blind
  exact ds_raise1 T h3 h1 hc hr h2 tk pass0 ha hg (by decide) he hpl
theorem ds_raiseOut (R : Errs X.prog X.w X.K X.mg X.base cls) (hc : X.calm = true) (hr : Room k X.A) (h2 : 2 ≤ k) (tk : Takes X (fun c d _ H => E c d H)) (ha : PA X [a] (tA X.K ga)) (hg : Gl X "Out" := by rfl)
    (he : starEach (a :: []) X.env = (false, eval a X.env) :: starEach [] X.env := by rfl) (hpl : (backTo pos (starEach [] X.env)).any (·.1) = false := by rfl) :
    PS X (.Raise (some (.Call (.Name "Out" p) [a] [] pos)) none pos2) (tS X.K E cls (sRz 1 1 ga)) := by
  obtain ⟨C, h1, T, h3⟩ := R.out
  exact ds_raise1 T h3 h1 hc hr h2 tk pass0 ha hg (by decide) he hpl
theorem ds_raiseMeet (R : Errs X.prog X.w X.K X.mg X.base cls) (hc : X.calm = true) (hr : Room k X.A) (h2 : 2 ≤ k) (tk : Takes X (fun c d _ H => E c d H)) (ha : PA X [a, b] (tA X.K ga)) (hg : Gl X "Meet" := by rfl)
    (he : starEach (a :: b :: []) X.env = (false, eval a X.env) :: starEach (b :: []) X.env := by rfl) (hpl : (backTo pos (starEach (b :: []) X.env)).any (·.1) = false := by rfl) :
    PS X (.Raise (some (.Call (.Name "Meet" p) [a, b] [] pos)) none pos2) (tS X.K E cls (sRz 2 2 ga)) := by
  obtain ⟨C, h1, T, h3, h4⟩ := R.meet
  exact ds_raise2 T h3 h4 h1 hc hr h2 tk pass0 ha hg (by decide) he hpl
/-! ### a call that may raise -/
/-- raises the error of a tag -/
def tR (K : PySem.W.Frag) (E : XK) (cls : Nat → Value) (f : En → Option Nat) : TE := fun σ H _ => ∃ Hb δ, Sta K Hb H σ δ ∧ ∃ t, f δ = some t ∧ ∀ H' dd, Same H H' → E (cls t) dd H'
def okX (n : Nat) (G : List PyData → Option (Except Nat PyData)) : List PyData → Option PyData := fun ds => if ds.length = n then (G ds).bind fun r => match r with | .ok d => some d | .error _ => none else none
def erX (n : Nat) (G : List PyData → Option (Except Nat PyData)) : List PyData → Option Nat := fun ds => if ds.length = n then (G ds).bind fun r => match r with | .ok _ => none | .error t => some t else none
/-- a def that may raise; ds: the defaults of its last parameters -/
structure FnY (P : Program) (w : World) (K : PySem.W.Frag) (mg : Str → Option Value) (base : Heap) (cls : Nat → Value) (k : Nat) (x : Str) (n : Nat) (dfl : List PyData) (G : List PyData → Option (Except Nat PyData)) : Prop where
  ex : ∃ f fd ps ds dvs, FnOk P w K mg base (L2.CX P w) k f fd ps (spX K cls (n + dfl.length) G) ∧ mg x = some (.ref f) ∧ PySem.W.keepIn K (.ref f) = true ∧ Binds K fd ps ds ∧ Vals dvs ds ∧ (∀ H, DpAll K H dvs dfl)
theorem pass_false : Passes (L2.CX X.prog X.w) X (fun _ _ _ => False) := fun pins σ H s e s' I h => by
  obtain ⟨_, _, _, _, _, _, _, _, _, _, _, _, hE⟩ := h
  exact hE.elim
/-- f(e, ..): its value, where it raises nothing -/
theorem d_fnYok {k n : Nat} {x : Str} {dfl : List PyData} {G : List PyData → Option (Except Nat PyData)} {p : Pos} (F : FnY X.prog X.w X.K X.mg X.base cls k x n dfl G) (hr : Room k X.A) (ha : PA X (e :: es) (tA X.K ga)) (hg : Gl X x := by rfl)
    (hdb : (x == ("__debug__" : Str)) = false := by decide) (he : starEach (e :: es) X.env = (false, eval e X.env) :: starEach es X.env := by rfl) (hpl : (backTo pos (starEach es X.env)).any (·.1) = false := by rfl) :
    PE X (.Call (.Name x p) (e :: es) [] pos) (tE X.K (eA (okX n fun ds => G (ds ++ dfl)) ga)) := by
  obtain ⟨f, fd, ps, ds, dvs, F, hm, hk, hb, hv, hd⟩ := F.ex
  refine PE.imp (pe_call F hr hg hm hk hb hv pass_false ha hdb he hpl) fun σ H Q h => ?_
  obtain ⟨Hb, δ, S, d, hd0, O⟩ := h
  obtain ⟨xs, hxs, he0⟩ := Option.bind_eq_some_iff.mp hd0
  refine ⟨Hb, δ, S, xs, hxs, fun vs H1 s hvs => ?_⟩
  unfold okX at he0
  split at he0
  · rename_i hn
    obtain ⟨r, hr0, he1⟩ := Option.bind_eq_some_iff.mp he0
    split at he1
    · cases he1
      refine ⟨_, xs ++ dfl, hvs.append (hd _), by rw [List.length_append, hn], ex_sub S.bs s, .inl ⟨_, hr0, ex_sub S.bs s, fun v' H2 s2 h2 => O.go v' H2 (s.trans s2) (by rw [ex_trans s s2] at h2; exact h2)⟩⟩
    · cases he1
  · cases he0
/-- .. the error that it raises -/
theorem d_fnYer {k n : Nat} {x : Str} {dfl : List PyData} {G : List PyData → Option (Except Nat PyData)} {p : Pos} (F : FnY X.prog X.w X.K X.mg X.base cls k x n dfl G) (hr : Room k X.A) (hx : Passes (L2.CX X.prog X.w) X E) (ha : PA X (e :: es) (tA X.K ga)) (hg : Gl X x := by rfl)
    (hdb : (x == ("__debug__" : Str)) = false := by decide) (he : starEach (e :: es) X.env = (false, eval e X.env) :: starEach es X.env := by rfl) (hpl : (backTo pos (starEach es X.env)).any (·.1) = false := by rfl) :
    PE X (.Call (.Name x p) (e :: es) [] pos) (tR X.K E cls (fun δ => (ga δ).bind (erX n fun ds => G (ds ++ dfl)))) := by
  obtain ⟨f, fd, ps, ds, dvs, F, hm, hk, hb, hv, hd⟩ := F.ex
  refine PE.imp (pe_call F hr hg hm hk hb hv hx ha hdb he hpl) fun σ H Q h => ?_
  obtain ⟨Hb, δ, S, d, hd0, O⟩ := h
  obtain ⟨xs, hxs, he0⟩ := Option.bind_eq_some_iff.mp hd0
  refine ⟨Hb, δ, S, xs, hxs, fun vs H1 s hvs => ?_⟩
  unfold erX at he0
  split at he0
  · rename_i hn
    obtain ⟨r, hr0, he1⟩ := Option.bind_eq_some_iff.mp he0
    split at he1
    · cases he1
    · cases he1
      refine ⟨_, xs ++ dfl, hvs.append (hd _), by rw [List.length_append, hn], ex_sub S.bs s, .inr ⟨_, hr0, fun H' dd s2 => O H' dd (s.trans s2)⟩⟩
  · cases he0
/-- a statement's two readings -/
def sOr (f g : En → Option Res) : En → Option Res := fun δ => match f δ with | some r => some r | none => g δ
theorem ds_or {s : Stmt} {f g : En → Option Res} (h1 : PS X s (tS X.K E cls f)) (h2 : PS X s (tS X.K E cls g)) : PS X s (tS X.K E cls (sOr f g)) := ⟨fun pins s σ H D I h => by
  obtain ⟨Hb0, H0, Hb, δ, S, r, hr, P⟩ := h
  unfold sOr at hr
  split at hr
  · rename_i r0 e
    cases hr
    exact h1.run pins s σ H D I ⟨Hb0, H0, Hb, δ, S, _, e, P⟩
  · exact h2.run pins s σ H D I ⟨Hb0, H0, Hb, δ, S, _, hr, P⟩⟩
/-- x = e, where e raises -/
def sEr (f : En → Option Nat) : En → Option Res := fun δ => (f δ).map .ex
theorem ds_setR {f : En → Option Nat} {t : TE} {i : Nat} {x : Str} {pos' : Pos} (hN : X.N.Nodup) (ha : PE X a t) (ht : ∀ σ H Q, tR X.K E cls f σ H Q → t σ H Q) (hi : X.N[i]? = some x := by rfl) (hx : Loc X.env.scope x := by first | exact Or.inl rfl | exact Or.inr rfl) (hs : swapsWith a (some (.Name x pos')) pos.line X.env = pure false := by rfl)
    (hf : X.fn x = true ∨ X.env.scope.names.lookup x = some .local := by first | exact .inl rfl | exact .inr rfl | assumption) : PS X (.Assign [.Name x pos'] a pos) (tS X.K E cls (sEr f)) := PS.imp (ps_set hN hi hx ha hs hf) fun D σ H ⟨Hb0, H0, Hb, δ, S, r, hr, P⟩ => by
  obtain ⟨t', ht', rfl⟩ := Option.map_eq_some_iff.mp hr
  exact ht _ _ _ ⟨Hb, δ, S.sta, t', ht', fun H' dd s => P H' dd (S.b0.trans s)⟩
end
section
variable {P : Program} {w : World} {K : PySem.W.Frag} {mg : Str → Option Value} {base : Heap} {cls : Nat → Value}
theorem fny_of_fnx {k n : Nat} {x : Str} {G : List PyData → Option (Except Nat PyData)} (F : FnX P w K mg base cls k x n G) : FnY P w K mg base cls k x n [] G := by
  obtain ⟨f, fd, ps, F, hm, hk, hb⟩ := F.ex
  exact ⟨f, fd, ps, [], [], F, hm, hk, hb, .nil, fun H => .nil⟩
/-- a def with defaults -/
structure DfnD (K : PySem.W.Frag) (mg : Str → Option Value) (x : Str) (st : Stmt) (ps : List Str) (dfl : List PyData) : Prop where
  ex : ∃ f fd dvs kws, FunD K x x (defArgs st) (defBody st) (defScope st) dvs kws f fd ∧ mg x = some (.ref f) ∧ Binds K fd ps [] ∧ ∃ ds dv, Binds K fd ps ds ∧ Vals dv ds ∧ ∀ H, DpAll K H dv dfl
theorem ok_raiseD {x qual : Str} {st : Stmt} {f : Addr} {fd : FuncData} {dvs : List V} {kws : List (Str × V)} {N ps : List Str} {k : Nat} {g : En → Option Res} (F : FunD K x qual (defArgs st) (defBody st) (defScope st) dvs kws f fd) (S : FnScope N ps (defScope st))
    (h : ∀ (cdv : Value) (A : Around) (outer : List Env) (s : Shared) (H : Hp) (E : XK), Room k (A.deeper (envOfC qual (defScope st) s.heap.objs.size f cdv)) → PSs (cxOf (L2.CX P w) P w K mg base N qual (defScope st) f cdv A outer s H E) (defBody st) (tS K E cls g)) :
    FnOk P w K mg base (L2.CX P w) (k + 1) f fd ps (spX K cls ps.length (runX N.length g)) := by
  refine F.ok S (fun vs H Q E ⟨Hb, ds, r, hn, _⟩ => by rw [r.length, hn]) fun cdv A outer s H vs Q E hr q => ⟨_, h cdv A outer s H E hr, ?_⟩
  obtain ⟨Hb, ds, r, hn, bs, q⟩ := q
  rcases q with ⟨d, hd, O⟩ | ⟨t, ht, O⟩
  · unfold runX outX at hd
    split at hd
    · rename_i d' e
      cases hd
      exact ⟨Hb, H, Hb, _, stt_start bs r, _, e, fun v H' s hv => O.go v H' s hv⟩
    · rename_i δ' e
      cases hd
      exact ⟨Hb, H, Hb, _, stt_start bs r, _, e, fun σ' H' Hb' s S' => O.go _ H' S'.b0 .non⟩
    · cases hd
    · cases hd
  · unfold runX outX at ht
    split at ht
    · cases ht
    · cases ht
    · rename_i t' e
      cases ht
      exact ⟨Hb, H, Hb, _, stt_start bs r, _, e, fun H' dd s => O H' dd s⟩
    · cases ht
theorem fnx_ofD {k : Nat} {x : Str} {st : Stmt} {N ps : List Str} {dfl : List PyData} {g : En → Option Res} (D : DfnD K mg x st ps dfl) (S : FnScope N ps (defScope st))
    (h : ∀ (f : Addr) (cdv : Value) (A : Around) (outer : List Env) (s : Shared) (H : Hp) (E : XK), Room k (A.deeper (envOfC x (defScope st) s.heap.objs.size f cdv)) → PSs (cxOf (L2.CX P w) P w K mg base N x (defScope st) f cdv A outer s H E) (defBody st) (tS K E cls g)) :
    FnX P w K mg base cls (k + 1) x ps.length (runX N.length g) := by
  obtain ⟨f, fd, dvs, kws, F, hm, hb, _⟩ := D.ex
  exact ⟨f, fd, ps, ok_raiseD F S fun cdv A outer s H E hr => h f cdv A outer s H E hr, hm, F.kp, hb⟩
theorem fny_ofD {k n : Nat} {x : Str} {st : Stmt} {N ps : List Str} {dfl : List PyData} {g : En → Option Res} (hn : ps.length = n + dfl.length) (D : DfnD K mg x st ps dfl) (S : FnScope N ps (defScope st))
    (h : ∀ (f : Addr) (cdv : Value) (A : Around) (outer : List Env) (s : Shared) (H : Hp) (E : XK), Room k (A.deeper (envOfC x (defScope st) s.heap.objs.size f cdv)) → PSs (cxOf (L2.CX P w) P w K mg base N x (defScope st) f cdv A outer s H E) (defBody st) (tS K E cls g)) :
    FnY P w K mg base cls (k + 1) x n dfl (runX N.length g) := by
  obtain ⟨f, fd, dvs, kws, F, hm, _, ds, dv, hb, hv, hd⟩ := D.ex
  refine ⟨f, fd, ps, ds, dv, ?_, hm, F.kp, hb, hv, hd⟩
  rw [← hn]
  exact ok_raiseD F S fun cdv A outer s H E hr => h f cdv A outer s H E hr
end
end SQ
/-! ## SqW4 -/
set_option Elab.async false
set_option linter.all false
set_option maxRecDepth 100000
set_option maxHeartbeats 4000000
namespace SQ
open PySem PySem.Spec L2 TL
open PyProof.Rows (envOfC)
section
variable {P : Program} {w : World} {K : PySem.W.Frag} {mg : Str → Option Value} {base : Heap}

variable {cls : Nat → Value}
def g_look_at_way : En → Option Res :=
  (sFor (iB (eV 1) lsD) (.nm 2)
  (sIf (cNot (cE (eA (gN 1 F_is_stand) (aCons (eV 2) aNil))))
  (sRz 1 1 (aCons (eV 0) aNil))
  sNil))
def X_look_at_way : List PyData → Option (Except Nat PyData) := runX 3 g_look_at_way
theorem sc_look_at_way : FnScope ["dancer", "way", "stand"] ["dancer", "way"] (defScope (top 32)) := ⟨rfl, rfl, rfl, by decide +kernel, rfl, by decide +kernel, by decide +kernel⟩
theorem fd_look_at_way (B : Bt K w mg) (R : Errs P w K mg base cls) (D : Dfn K mg "look_at_way" (top 32) ["dancer", "way"]) (h_is_stand : FnD P w K mg base 2 "is_stand" 1 F_is_stand) : FnX P w K mg base cls 3 "look_at_way" 2 (X_look_at_way) :=
  fnx_of D sc_look_at_way fun f cdv A outer s H E hr => by
    have S := sc_look_at_way
    exact (ds_one (ds_for (passes_of rfl) (by rfl) (di_list (dv 1)) (dg_name (i := 2) S.nd)
    (ds_one (ds_if (dt_not (dt_val (d_fn h_is_stand (hr.mono (by decide)) (da_cons (dv 2) da_nil))))
    (ds_one (ds_raiseOut R (by rfl) hr (by decide) (takes_of rfl rfl rfl rfl) (da_cons (dv 0) da_nil)))
    ds_nil))))
def g_look_at_spots : En → Option Res :=
  (sFor (iB (aCons (eC (.int 8)) aNil) rg1) (.nm 1)
  (sFor (iB (aCons (e2 addI (eV 1) (eC (.int 1))) (aCons (eC (.int 8)) aNil)) rg2) (.nm 2)
  (sIf (cE (e2 eqD (eSl (e2 ixD (eV 0) (eV 1)) pN (pE (eC (.int 2)))) (eSl (e2 ixD (eV 0) (eV 2)) pN (pE (eC (.int 2))))))
  (sRz 2 2 (aCons (eV 1) (aCons (eV 2) aNil)))
  sNil)))
def X_look_at_spots : List PyData → Option (Except Nat PyData) := runX 3 g_look_at_spots
theorem sc_look_at_spots : FnScope ["floor", "one", "other"] ["floor"] (defScope (top 34)) := ⟨rfl, rfl, rfl, by decide +kernel, rfl, by decide +kernel, by decide +kernel⟩
theorem fd_look_at_spots (B : Bt K w mg) (R : Errs P w K mg base cls) (D : Dfn K mg "look_at_spots" (top 34) ["floor"]) : FnX P w K mg base cls 3 "look_at_spots" 1 (X_look_at_spots) :=
  fnx_of D sc_look_at_spots fun f cdv A outer s H E hr => by
    have S := sc_look_at_spots
    exact (ds_one (ds_for (passes_of rfl) (by rfl) (di_rng1 (by rfl) B.range (da_cons d_int da_nil)) (dg_name (i := 1) S.nd)
    (ds_one (ds_for (passes_of rfl) (by rfl) (di_rng2 (by rfl) B.range (da_cons (d_op od_addI (dv 1) d_int) (da_cons d_int da_nil))) (dg_name (i := 2) S.nd)
    (ds_one (ds_if (dt_cmp (od_eq (hr.units)) (d_sl (d_ix (dv 0) (dv 1)) dp_none (dp_some d_int)) (d_sl (d_ix (dv 0) (dv 2)) dp_none (dp_some d_int)))
    (ds_one (ds_raiseMeet R (by rfl) hr (by decide) (takes_of rfl rfl rfl rfl) (da_cons (dv 1) (da_cons (dv 2) da_nil))))
    ds_nil))))))
def g_ways : En → Option Res :=
  (sSeq (sIf (cE (e2 isN (eV 2) (eC .none)))
  (sAsg (e1 rgL (eC (.int 8))) (.nm 2))
  sNil)
  (sSeq (sRep 3 8)
  (sSeq (sFor (iB (e1 srtI (eV 2)) lsD) (.nm 4)
  (sSeq (sPut 3 (eV 4) (eA (gN 3 F_rule_for) (aCons (eV 0) (aCons (eV 4) (aCons (eV 1) aNil)))))
  (sIf (cE (e2 isN (eIxO 3 (eV 4)) (eC .none)))
  (sRz 0 1 (aCons (eV 4) aNil))
  sNil)))
  (sSeq (sLst 5 aNil)
  (sFrz 3 (sSeq (sFor (oneL (eV 3) lsD) (.tp [4, 6])
  (sSeq (sAsg (eA tupD aNil) (.nm 7))
  (sSeq (sIf (cE (e2 notN (eV 6) (eC .none)))
  (sAsg (e2 ixD (e2 ixD (eV 1) (eV 6)) (eC (.int 1))) (.nm 7))
  sNil)
  (sSeq (sApp 5 (eA (gN 2 F_way_of) (aCons (e2 ixD (eV 0) (eV 4)) (aCons (eV 7) aNil))))
  (sCallX X_look_at_way 2 (aCons (eV 4) (aCons (eIxO 5 (e1 negI (eC (.int 1)))) aNil)))))))
  (sFrz 5 (sRet (eV 5)))))))))
def X_ways : List PyData → Option (Except Nat PyData) := runX 8 g_ways
theorem sc_ways : FnScope ["floor", "call", "some", "rules", "dancer", "found", "place", "steps"] ["floor", "call", "some"] (defScope (top 33)) := ⟨rfl, rfl, rfl, by decide +kernel, rfl, by decide +kernel, by decide +kernel⟩
theorem fd_ways (B : Bt K w mg) (R : Errs P w K mg base cls) (D : DfnD K mg "ways" (top 33) ["floor", "call", "some"] [.none]) (h_rule_for : FnD P w K mg base 5 "rule_for" 3 F_rule_for) (h_way_of : FnD P w K mg base 3 "way_of" 2 F_way_of) (h_look_at_way : FnX P w K mg base cls 3 "look_at_way" 2 X_look_at_way) : FnX P w K mg base cls 6 "ways" 3 (X_ways) :=
  fnx_ofD D sc_ways fun f cdv A outer s H E hr => by
    have S := sc_ways
    exact (ds_cons (ds_if (dt_cmp (od_isN) (dv 2) d_non)
    (ds_one (ds_set (i := 2) S.nd (d_listRg (by rfl) (by rfl) B.list (by rfl) B.range d_int)))
    ds_nil)
    (ds_cons (ds_rep (i := 3) (n := 8) S.nd (by decide))
    (ds_cons (ds_for (passes_of rfl) (by rfl) (di_list (d_sortI (by rfl) B.sorted (dv 2))) (dg_name (i := 4) S.nd)
    (ds_cons (ds_put (i := 3) (dv 4) (d_fn h_rule_for (hr.mono (by decide)) (da_cons (dv 0) (da_cons (dv 4) (da_cons (dv 1) da_nil)))))
    (ds_one (ds_if (dt_cmp (od_isN) (d_ixO (i := 3) (dv 4)) d_non)
    (ds_one (ds_raiseBlind R (by rfl) hr (by decide) (takes_of rfl rfl rfl rfl) (da_cons (dv 4) da_nil)))
    ds_nil))))
    (ds_cons (ds_lst (i := 5) S.nd da_nil)
    (ds_frz (i := 3) (ds_cons (ds_for (passes_of rfl) (by rfl) (di_enum (by rfl) B.enumerate (dv 3)) (dg_two (i := 4) (j := 6) (by rfl) S.nd)
    (ds_cons (ds_set (i := 7) S.nd (d_tup da_nil))
    (ds_cons (ds_if (dt_cmp (od_notN) (dv 6) d_non)
    (ds_one (ds_set (i := 7) S.nd (d_ix (d_ix (dv 1) (dv 6)) d_int)))
    ds_nil)
    (ds_cons (ds_app (i := 5) (d_fn h_way_of (hr.mono (by decide)) (da_cons (d_ix (dv 0) (dv 4)) (da_cons (dv 7) da_nil))))
    (ds_one (ds_fnX h_look_at_way (hr.mono (by decide)) (passes_call (takes_of rfl rfl rfl rfl) fun _ _ _ _ h => h) (da_cons (dv 4) (da_cons (d_ixO (i := 5) (d_neg d_int)) da_nil))))))))
    (ds_frz (i := 5) (ds_one (ds_ret (dv 5))))))))))
end
end SQ
/-! ## SqW5 -/
set_option Elab.async false
set_option linter.all false
set_option maxRecDepth 100000
set_option maxHeartbeats 4000000
/-! danced, form_behind -/
namespace SQ
open PySem PySem.Spec L2 TL
open PyProof.Rows (envOfC)
section
variable {P : Program} {w : World} {K : PySem.W.Frag} {mg : Str → Option Value} {base : Heap} {cls : Nat → Value}
/-! ### danced -/
def aWays : En → Option (List PyData) := aCons (eV 0) (aCons (eV 1) (aCons (eV 2) aNil))
def g_danced : En → Option Res :=
  (sSeq (sOr (sAsg (e1 tupleD (eLc (iB (eA (okX 3 fun ds => X_ways (ds ++ [])) aWays) lsD) (.nm 4) [4] (e2 ixD (eV 4) (e1 negI (eC (.int 1)))))) (.nm 3)) (sEr fun δ => (aWays δ).bind (erX 3 fun ds => X_ways (ds ++ []))))
  (sSeq (sCallX X_look_at_spots 1 (aCons (eV 3) aNil))
  (sRet (eV 3))))
def X_danced : List PyData → Option (Except Nat PyData) := runX 5 g_danced
theorem sc_danced : FnScope ["floor", "call", "some", "found", "way"] ["floor", "call", "some"] (defScope (top 35)) := ⟨rfl, rfl, rfl, by decide +kernel, rfl, by decide +kernel, by decide +kernel⟩
theorem fd_danced (B : Bt K w mg) (R : Errs P w K mg base cls) (D : DfnD K mg "danced" (top 35) ["floor", "call", "some"] [.none]) (h_ways : FnX P w K mg base cls 6 "ways" 3 X_ways) (h_look_at_spots : FnX P w K mg base cls 3 "look_at_spots" 1 X_look_at_spots) :
    FnY P w K mg base cls 7 "danced" 2 [.none] X_danced :=
  fny_ofD (by rfl) D sc_danced fun f cdv A outer s H E hr => by
    have S := sc_danced
    have hw := fny_of_fnx h_ways
    refine ds_cons (ds_or
      (ds_set (i := 3) S.nd (d_tupleOf (by rfl) B.tuple (d_lc (own := [("way", 4)]) (by rfl) S.nd (di_list (d_fnYok hw (hr.mono (by decide)) (da_cons (dv 0) (da_cons (dv 1) (da_cons (dv 2) da_nil))))) (blkOk_by (N := ["floor", "call", "some", "found", "way"]) (sc := defScope (top 35)) (own := [("way", 4)]) (by decide +kernel)) (fun _ _ _ _ _ => (dg_name (i := 4) S.nd)) (fun _ _ _ _ _ => (d_ix (dv 4) (d_neg d_int))) (by decide)))) ?_)
      (ds_cons (ds_fnX h_look_at_spots (hr.mono (by decide)) (passes_call (takes_of rfl rfl rfl rfl) fun _ _ _ _ h => h) (da_cons (dv 3) da_nil))
      (ds_one (ds_ret (dv 3))))
    refine ds_setR (i := 3) S.nd (pe_tupleOf (by rfl) B.tuple (pe_lc (g := gD K (.nm 4)) (te := tE K (e2 ixD (eV 4) (e1 negI (eC (.int 1))))) (own := [("way", 4)]) (by rfl) S.nd (pi_list (d_fnYer (E := E) (cls := cls) hw (hr.mono (by decide)) (passes_call (takes_of rfl rfl rfl rfl) fun _ _ _ _ h => h) (da_cons (dv 0) (da_cons (dv 1) (da_cons (dv 2) da_nil))))) (blkOk_by (N := ["floor", "call", "some", "found", "way"]) (sc := defScope (top 35)) (own := [("way", 4)]) (by decide +kernel)) ?_ (fun _ _ _ _ _ => pts_nil) ?_ (fun _ => rfl))) (fun σ H Q h => h)
    · intro _ _ _ _ _
      exact dg_name (i := 4) S.nd
    · intro _ _ _ _ _
      exact d_ix (dv 4) (d_neg d_int)
end
end SQ
/-! ## SqTry -/
set_option Elab.async false
set_option linter.all false
set_option maxRecDepth 100000
set_option maxHeartbeats 4000000
/-! try around one statement that may raise -/
namespace SQ
open PySem PySem.Spec L2 TL
open PyProof.Rows (envOfC)
section
variable {X : Cx} {CX : CXT} {k : Nat} {f C : Addr} {fd : FuncData} {ps : List Str} {sp : Sp} {dvs : List V} {ds : List Value} {E : L2.St → XK} {x m : Str} {p pos apos : Pos} {e o : Expr} {es : List Expr} {ta : TE} {t : TA}
theorem run_fnSd {pins : List (Addr × Obj)} {σ : L2.St} {H : Hp} {s : Shared} {Q : VK} {us : List Value} {vs : List V} (F : FnOk X.prog X.w X.K X.mg X.base CX k f fd ps sp) (hr : Room k X.A) (hb : Binds X.K fd ps ds) (hd : Vals dvs ds) (hx : PassesAt CX X σ (E σ))
    (I : Inv X pins σ H s) (r : Vals vs us) (h : sp (vs ++ dvs) H Q (E σ)) : wpAny (model X.prog X.w) X.A (call (.ref f) us) (EP X pins σ Q) X.xe s := by
  have r2 : Vals (vs ++ dvs) (us ++ ds) := r.append hd
  have hl : (us ++ ds).length = ps.length := by rw [← r2.length]; exact F.len _ _ _ _ h
  refine wpAny_call (codeAny_mono (F.run X.A X.stack s H ⟨us, []⟩ (us ++ ds) (vs ++ dvs) Q (E σ) hr I.env0 (hb s us I.kIn hl) r2 h) fun r s' hq => ?_)
  cases r with
  | error e => exact hx pins H s e s' I hq
  | ok fl =>
    cases fl with
    | ret u => exact I.after hq
    | next => exact False.elim hq
    | brk => exact False.elim hq
    | cont => exact False.elim hq
theorem pe_callSd (F : FnOk X.prog X.w X.K X.mg X.base CX k f fd ps sp) (hr : Room k X.A) (hg : Gl X x) (hm : X.mg x = some (.ref f)) (hk : PySem.W.keepIn X.K (.ref f) = true) (hb : Binds X.K fd ps ds) (hd : Vals dvs ds) (hx : ∀ σ, PassesAt CX X σ (E σ))
    (ha : PA X (e :: es) t) (hdb : (x == ("__debug__" : Str)) = false := by decide) (he : starEach (e :: es) X.env = (false, eval e X.env) :: starEach es X.env := by rfl) (hpl : (backTo pos (starEach es X.env)).any (·.1) = false := by rfl) :
    PE X (.Call (.Name x p) (e :: es) [] pos) (fun σ H Q => t σ H fun vs H1 => sp (vs ++ dvs) H1 Q (E σ)) := by
  refine ⟨fun pins s σ H Q I h => ?_⟩
  refine wpAny_Call_Name_kw (ld_glob I hg hm ?_ hdb)
  refine PySem.W.callWith_K (h₀ := X.base) I.ok.mod.kin hk (thn (ha.run pos pins s σ H _ I h) fun us s1 ⟨vs, H1, I1, r, q⟩ => ⟨I1.kIn, ?_⟩) he hpl
  exact run_fnSd F hr hb hd (hx σ) I1 r q
end
/-- raises the error of a tag, the slots known -/
def tRS (K : PySem.W.Frag) (W : WX) (cls : Nat → Value) (f : En → Option Nat) : TE := fun σ H _ => ∃ Hb δ, Sta K Hb H σ δ ∧ ∃ t, f δ = some t ∧ ∀ H' dd, Same H H' → W (cls t) dd σ H'
def tSR (K : PySem.W.Frag) (W : WX) (cls : Nat → Value) (f : En → Option Nat) : TS := fun D σ H => ∃ Hb δ, Sta K Hb H σ δ ∧ ∃ t, f δ = some t ∧ ∀ H' dd, Same H H' → W (cls t) dd σ H'
/-- a try's body g, its errors er, what the handlers do with an error, the else part -/
def sTry (g : En → Option Res) (er : En → Option Nat) (hd : Nat → En → Option Res) (el : En → Option Res) : En → Option Res := fun δ => match g δ with | some r => thenR r el | none => (er δ).bind fun t => hd t δ
theorem tS_seq {K : PySem.W.Frag} {E : XK} {cls : Nat → Value} {f g : En → Option Res} {D : Ends} {σ : L2.St} {H Hb0 H0 Hb : Hp} {δ : En} {r1 r : Res} (S : Stt K Hb0 H0 Hb H σ δ) (h1 : f δ = some r1) (h2 : thenR r1 g = some r) (P : RPost K E cls D Hb0 H0 Hb r) : tS K E cls f { D with nx := tS K E cls g D } σ H := by
  refine ⟨Hb0, H0, Hb, δ, S, r1, h1, ?_⟩
  cases r1 with
  | nx δ' => exact fun σ' H' Hb' s S' => ⟨Hb0, H0, Hb', δ', S', r, h2, P.mono s⟩
  | rt d => cases h2; exact P
  | ex t => cases h2; exact P
section
variable {X : Cx} {E : XK} {cls : Nat → Value} {W : WX} {k : Nat} {e : Expr} {es : List Expr} {ga : En → Option (List PyData)} {p pos : Pos}
theorem d_fnYerS {n : Nat} {x : Str} {dfl : List PyData} {G : List PyData → Option (Except Nat PyData)} (F : FnY X.prog X.w X.K X.mg X.base cls k x n dfl G) (hr : Room k X.A) (tk : Takes X W) (ha : PA X (e :: es) (tA X.K ga)) (hg : Gl X x := by rfl)
    (hdb : (x == ("__debug__" : Str)) = false := by decide) (he : starEach (e :: es) X.env = (false, eval e X.env) :: starEach es X.env := by rfl) (hpl : (backTo pos (starEach es X.env)).any (·.1) = false := by rfl) :
    PE X (.Call (.Name x p) (e :: es) [] pos) (tRS X.K W cls (fun δ => (ga δ).bind (erX n fun ds => G (ds ++ dfl)))) := by
  obtain ⟨f, fd, ps, ds, dvs, F, hm, hk, hb, hv, hd⟩ := F.ex
  refine PE.imp (pe_callSd (E := WE W) F hr hg hm hk hb hv (passAt tk) ha hdb he hpl) fun σ H Q h => ?_
  obtain ⟨Hb, δ, S, d, hd0, O⟩ := h
  obtain ⟨xs, hxs, he0⟩ := Option.bind_eq_some_iff.mp hd0
  refine ⟨Hb, δ, S, xs, hxs, fun vs H1 s hvs => ?_⟩
  unfold erX at he0
  split at he0
  · rename_i hn
    obtain ⟨r, hr0, he1⟩ := Option.bind_eq_some_iff.mp he0
    split at he1
    · cases he1
    · cases he1
      exact ⟨_, xs ++ dfl, hvs.append (hd _), by rw [List.length_append, hn], ex_sub S.bs s, .inr ⟨_, hr0, fun H' dd s2 => O H' dd (s.trans s2)⟩⟩
  · cases he0
theorem ds_setRS {f : En → Option Nat} {i : Nat} {x : Str} {pos' : Pos} (hN : X.N.Nodup) (ha : PE X e (tRS X.K W cls f)) (hi : X.N[i]? = some x := by rfl) (hx : Loc X.env.scope x := by first | exact Or.inl rfl | exact Or.inr rfl) (hs : swapsWith e (some (.Name x pos')) pos.line X.env = pure false := by rfl)
    (hf : X.fn x = true ∨ X.env.scope.names.lookup x = some .local := by first | exact .inl rfl | exact .inr rfl | assumption) : PS X (.Assign [.Name x pos'] e pos) (tSR X.K W cls f) := PS.imp (ps_set hN hi hx ha hs hf) fun D σ H h => h
end
/-- the errors' classes, as handlers ask -/
structure Ctch (K : PySem.W.Frag) (mg : Str → Option Value) (cls : Nat → Value) : Prop where
  one : ∀ t j, t < 3 → j < 3 → PySem.W.exmOne K (cls t) (cls j) = some (decide (t = j))
  fl : ∃ CF, mg "FloorError" = some CF ∧ ∀ t, t < 3 → PySem.W.exmOne K (cls t) CF = some true
section
variable {X : Cx} {E : XK} {cls : Nat → Value} {k : Nat} {b b1 : Stmt} {g el : En → Option Res} {er : En → Option Nat} {orelse : List Stmt} {pos p0 p1 p2 q0 q1 q2 r0 r1 r2 c0 c1 c2 : Pos} {j0 j1 j2 : Nat}
def hdN : Nat → En → Option Res := fun t _ => if t < 3 then some (.rt .none) else none
/-- try: b / except Blind: return None / except Out: return None / except Meet: return None / else: .. -/
theorem ds_try3 (R : Errs X.prog X.w X.K X.mg X.base cls) (M : Ctch X.K X.mg cls) (hs : X.stack = X.env :: X.outer) (hf : X.env.frame = some X.env.locals) (g0 : Gl X "Blind") (g1 : Gl X "Out") (g2 : Gl X "Meet") (tk : Takes X (fun _ _ _ _ => False))
    (h1 : ∀ (pn : List (Addr × Obj)) (xe : Value → Shared → Prop), PS (X.tr pn xe) b (tS X.K E cls g)) (h2 : ∀ (W : WX) (pn : List (Addr × Obj)) (xe : Value → Shared → Prop), Takes (X.tr pn xe) W → PS (X.tr pn xe) b (tSR X.K W cls er)) (h3 : PSs X orelse (tS X.K E cls el)) :
    PS X (.Try [b] [.ExceptHandler (some (.Name "Blind" p0)) none [.Return (some (.Constant .none j0 c0)) q0] r0, .ExceptHandler (some (.Name "Out" p1)) none [.Return (some (.Constant .none j1 c1)) q1] r1, .ExceptHandler (some (.Name "Meet" p2)) none [.Return (some (.Constant .none j2 c2)) q2] r2] orelse [] pos)
      (tS X.K E cls (sTry g er hdN el)) := by
  obtain ⟨C0, e0, T0, _⟩ := R.blind
  obtain ⟨C1, e1, T1, _⟩ := R.out
  obtain ⟨C2, e2, T2, _⟩ := R.meet
  have n0 : Names X "Blind" (cls 0) := ⟨g0, by decide, .inl (by rw [e0]; exact T0.gC)⟩
  have n1 : Names X "Out" (cls 1) := ⟨g1, by decide, .inl (by rw [e1]; exact T1.gC)⟩
  have n2 : Names X "Meet" (cls 2) := ⟨g2, by decide, .inl (by rw [e2]; exact T2.gC)⟩
  have ret : ∀ (a : Addr) (oe : Obj) (c : Value) (d : Option Addr) (pn : List (Addr × Obj)) (j : Nat) (cc q : Pos), PSs (X.suite a ((a, oe) :: pn)) [.Return (some (.Constant .none j cc)) q] (fun D σ H => D.rt .non H) := fun a oe c d pn j cc q => PSs.imp (pss_one (ps_ret pe_non)) fun D σ H h => h
  refine PS.imp (ps_try_manyE (tb := fun W D σ H => tS X.K E cls g D σ H ∨ tSR X.K W cls er D σ H) (l := [(cls 0, fun _ _ _ D _ H => D.rt .non H), (cls 1, fun _ _ _ D _ H => D.rt .non H), (cls 2, fun _ _ _ D _ H => D.rt .non H)]) h3 hs hf tk ?_
    (.cons n0 (fun a oe c d pn _ _ => ret a oe c d pn _ _ _) (.cons n1 (fun a oe c d pn _ _ => ret a oe c d pn _ _ _) (.cons n2 (fun a oe c d pn _ _ => ret a oe c d pn _ _ _) .nil)))) fun D σ H h => ?_
  · intro W pn xe tkW _
    refine pss_one ⟨fun pins s σ H D I h => ?_⟩
    rcases h with h | h
    · exact (h1 pn xe).run pins s σ H D I h
    · exact (h2 W pn xe tkW).run pins s σ H D I h
  · obtain ⟨Hb0, H0, Hb, δ, S, r, hr, P⟩ := h
    unfold sTry at hr
    split at hr
    · rename_i r1 hg
      exact .inl (tS_seq S hg hr P)
    · obtain ⟨t, ht, hr⟩ := Option.bind_eq_some_iff.mp hr
      unfold hdN at hr
      split at hr
      · rename_i lt
        cases hr
        refine .inr ⟨Hb, δ, S.sta, t, ht, fun H' dd s => ?_⟩
        have fin : D.rt .non H' := P .non H' (S.b0.trans s) .non
        refine ⟨_, M.one t 0 lt (by decide), fun _ _ _ => fin, fun _ => ⟨_, M.one t 1 lt (by decide), fun _ _ _ => fin, fun _ => ⟨_, M.one t 2 lt (by decide), fun _ _ _ => fin, fun hn => ?_⟩⟩⟩
        have n2 := of_decide_eq_false hn
        rename_i a1 a2
        have m0 := of_decide_eq_false a1
        have m1 := of_decide_eq_false a2
        omega
      · cases hr
/-- try: b / except FloorError: x = None -/
def hdS (i : Nat) : Nat → En → Option Res := fun t δ => if t < 3 then some (.nx (δ.set i (.d .none))) else none
theorem ds_try1 {i : Nat} {y : Str} {py : Pos} (M : Ctch X.K X.mg cls) (hs : X.stack = X.env :: X.outer) (hf : X.env.frame = some X.env.locals) (g0 : Gl X "FloorError") (hN : X.N.Nodup) (hi : X.N[i]? = some y) (tk : Takes X (fun _ _ _ _ => False))
    (h1 : ∀ (pn : List (Addr × Obj)) (xe : Value → Shared → Prop), PS (X.tr pn xe) b (tS X.K E cls g)) (h2 : ∀ (W : WX) (pn : List (Addr × Obj)) (xe : Value → Shared → Prop), Takes (X.tr pn xe) W → PS (X.tr pn xe) b (tSR X.K W cls er)) 
    (h4 : ∀ (a : Addr) (pn : List (Addr × Obj)), PS (X.suite a pn) (.Assign [.Name y py] (.Constant .none j0 c0) q0) (tS X.K E cls (sAsg (eC .none) (.nm i)))) :
    PS X (.Try [b] [.ExceptHandler (some (.Name "FloorError" p0)) none [.Assign [.Name y py] (.Constant .none j0 c0) q0] r0] [] [] pos)
      (tS X.K E cls (sTry g er (hdS i) sNil)) := by
  obtain ⟨CF, e0, ef⟩ := M.fl
  have n0 : Names X "FloorError" CF := ⟨g0, by decide, .inl e0⟩
  refine PS.imp (ps_try_manyE (tb := fun W D σ H => tS X.K E cls g D σ H ∨ tSR X.K W cls er D σ H) (l := [(CF, fun _ _ _ => tS X.K E cls (sAsg (eC .none) (.nm i)))]) (u := tS X.K E cls sNil) ds_nil hs hf tk ?_
    (.cons n0 (fun a oe c d pn _ _ => pss_one (h4 a _)) .nil)) fun D σ H h => ?_
  · intro W pn xe tkW _
    refine pss_one ⟨fun pins s σ H D I h => ?_⟩
    rcases h with h | h
    · exact (h1 pn xe).run pins s σ H D I h
    · exact (h2 W pn xe tkW).run pins s σ H D I h
  · obtain ⟨Hb0, H0, Hb, δ, S, r, hr, P⟩ := h
    unfold sTry at hr
    split at hr
    · rename_i r1 hg
      exact .inl (tS_seq S hg hr P)
    · obtain ⟨t, ht, hr⟩ := Option.bind_eq_some_iff.mp hr
      unfold hdS at hr
      split at hr
      · rename_i lt
        cases hr
        refine .inr ⟨Hb, δ, S.sta, t, ht, fun H' dd s => ⟨true, ef t lt, fun _ a ha => ?_, fun hn => by cases hn⟩⟩
        exact ⟨Hb0, H0, _, δ, S.grow s, _, rfl, fun σ' H2 Hb' s2 S2 => P σ' H2 Hb' ((sub_ex S.bs).trans s2) S2⟩
      · cases hr
end
section
variable {P : Program} {w : World} {K : PySem.W.Frag} {mg : Str → Option Value} {base : Heap} {cls : Nat → Value}
def aFC : En → Option (List PyData) := aCons (eV 0) (aCons (eV 1) aNil)
def g_form_behind : En → Option Res :=
  sTry (sAsg (eA (okX 2 fun ds => X_danced (ds ++ [.none])) aFC) (.nm 2)) (fun δ => (aFC δ).bind (erX 2 fun ds => X_danced (ds ++ [.none]))) hdN (sRet (eA (gN 1 F_form) (aCons (eV 2) aNil)))
def F_form_behind : List PyData → Option PyData := runG 3 g_form_behind
theorem sc_form_behind : FnScope ["floor", "call", "found"] ["floor", "call"] (defScope (top 40)) := ⟨rfl, rfl, rfl, by decide +kernel, rfl, by decide +kernel, by decide +kernel⟩
theorem fd_form_behind (B : Bt K w mg) (R : Errs P w K mg base cls) (M : Ctch K mg cls) (D : Dfn K mg "form_behind" (top 40) ["floor", "call"]) (h_danced : FnY P w K mg base cls 7 "danced" 2 [.none] X_danced) (h_form : FnD P w K mg base 2 "form" 1 F_form) :
    FnD P w K mg base 8 "form_behind" 2 F_form_behind := by
  obtain ⟨f, fd, F, hm, hb⟩ := D.ex
  refine ⟨f, fd, _, ?_, hm, F.kp, hb⟩
  refine F.ok sc_form_behind (fun vs H Q E q => spD_len vs H Q E q) fun cdv A outer s H vs Q E hr q => ⟨tS K E0 cls g_form_behind, ?_, ?_⟩
  · have S := sc_form_behind
    exact ds_one (ds_try3 R M rfl rfl (by rfl) (by rfl) (by rfl) takes0
      (fun pn xe => ds_set (i := 2) S.nd (d_fnYok h_danced (hr.mono (by decide)) (da_cons (dv 0) (da_cons (dv 1) da_nil))))
      (fun W pn xe tk => ds_setRS (i := 2) S.nd (d_fnYerS h_danced (hr.mono (by decide)) tk (da_cons (dv 0) (da_cons (dv 1) da_nil))))
      (ds_one (ds_ret (d_fn h_form (hr.mono (by decide)) (da_cons (dv 2) da_nil)))))
  · obtain ⟨Hb, ds, r, hn, d, hd, O⟩ := q
    unfold F_form_behind runG outD at hd
    split at hd
    · rename_i d' e
      cases hd
      exact ⟨Hb, H, Hb, _, stt_start O.bs r, _, e, fun v H' s hv => O.go v H' s hv⟩
    · rename_i δ' e
      cases hd
      exact ⟨Hb, H, Hb, _, stt_start O.bs r, _, e, fun σ' H' Hb' s S' => O.go _ H' S'.b0 .non⟩
    · cases hd
end
end SQ
/-! ## SqPl -/
set_option Elab.async false
set_option linter.all false
set_option maxRecDepth 100000
set_option maxHeartbeats 4000000
/-! a dict whose keys are nested tuples -/
namespace SQ
open PySem PySem.Spec L2 TL
section
variable {X : Cx} {pins : List (Addr × Obj)} {σ : L2.St} {H : Hp} {s : Shared}
mutual
theorem nis (I : Inv X pins σ H s) : ∀ (k : NestedKey) (v : V) (u : Value), Dp X.K H v k.data → RelV v u → NestedIs s.heap k u
  | .none, _, _, h, r => by
    cases h
    cases r
    exact .none
  | .num i, _, _, h, r => by
    cases h
    obtain ⟨t, rfl⟩ := r
    exact .int i t
  | .text x, _, _, h, r => by
    cases h
    obtain ⟨t, rfl⟩ := r
    exact .text x t
  | .tup ks, _, _, h, r => by
    cases h with
    | tup hs ha =>
      cases r
      obtain ⟨its, rv, ⟨o, ho, hc, n, hd⟩, _⟩ := I.tuple hs
      exact .tup ho hc hd (by simpa using nisAll I ks _ its ha rv)
theorem nisAll (I : Inv X pins σ H s) : ∀ (ks : List NestedKey) (vs : List V) (us : List Value), DpAll X.K H vs (NestedKey.datas ks) → Vals vs us → NestedAll s.heap ks us
  | [], _, _, h, r => by
    cases h
    cases r
    exact .nil
  | k :: ks, _, _, h, r => by
    cases h with
    | cons h1 h2 =>
      cases r with
      | cons r1 r2 => exact .cons (nis I k _ _ h1 r1) (nisAll I ks _ _ h2 r2)
end
end
/-- the dict's own object -/
def PlcO (P : Program) (w : World) (pl : Addr) (xs : List (NestedKey × Addr × Value)) : HO := .ext fun h => xs.length ≤ sizeLine ∧ (pl == sysModules) = false ∧ ∃ o es ep, h.get? pl = some o ∧ o.ExactDict ∧ o.data = .dict es ep ∧ es.toList = xs.map (entryOfKey (nestedKind P w)) ∧ (xs.map (·.1)).Nodup
def PlcsAt (P : Program) (w : World) (K : PySem.W.Frag) (Hb H : Hp) (pl : Addr) (ks : List NestedKey) : Prop := ∃ xs, H pl = some (PlcO P w pl xs) ∧ xs.map (·.1) = ks ∧ ∀ x ∈ xs, Dp K Hb (.ref x.2.1) x.1.data ∧ x.1.depth ≤ 8
theorem plcO_ok {P : Program} {w : World} {H : Hp} {h : Heap} {pl : Addr} {xs : List (NestedKey × Addr × Value)} (z : xs.length ≤ sizeLine) (hd : (pl == sysModules) = false) (he : ∃ o es ep, h.get? pl = some o ∧ o.ExactDict ∧ o.data = .dict es ep ∧ es.toList = xs.map (entryOfKey (nestedKind P w)) ∧ (xs.map (·.1)).Nodup) :
    ObjOk P w H h pl (PlcO P w pl xs) := by
  refine ⟨⟨z, hd, he⟩, ?_, ?_⟩
  · obtain ⟨o, _, _, e, _⟩ := he
    exact ⟨o, e⟩
  · rintro h1 h2 ⟨_, _, o, es, ep, e, r⟩ k
    exact ⟨z, hd, o, es, ep, k o e, r⟩
theorem atKey_some {xs : List (NestedKey × Addr × Value)} {k : NestedKey} : (atKey xs k).isSome = decide (k ∈ xs.map (·.1)) := by
  induction xs with
  | nil => simp [atKey]
  | cons x xs ih =>
    by_cases h : x.1 = k
    · simp [atKey, h]
    · have h' : ¬ k = x.1 := fun q => h q.symm
      have e : atKey (x :: xs) k = atKey xs k := by simp [atKey, h]
      rw [e, ih]
      simp [h']
theorem PlcsAt.mono {P : Program} {w : World} {K : PySem.W.Frag} {Hb Hb' H H' : Hp} {pl : Addr} {ks : List NestedKey} (s : Same Hb Hb') (e : H' pl = H pl) (h : PlcsAt P w K Hb H pl ks) : PlcsAt P w K Hb' H' pl ks := by
  obtain ⟨xs, h1, h2, h3⟩ := h
  exact ⟨xs, e.trans h1, h2, fun x hx => ⟨(h3 x hx).1.same s, (h3 x hx).2⟩⟩
section
variable {X : Cx} {pins : List (Addr × Obj)} {σ : L2.St} {H Hb : Hp} {s : Shared} {A : Around} {E : Value → Shared → Prop} {pl b : Addr} {ks : List NestedKey} {k : NestedKey} {i o value : Expr} {ti to tv : TE} {pos pos' : Pos}
theorem plc_of (I : Inv X pins σ H s) {xs : List (NestedKey × Addr × Value)} (e : H pl = some (PlcO X.prog X.w pl xs)) (hk : ∀ x ∈ xs, Dp X.K H (.ref x.2.1) x.1.data ∧ x.1.depth ≤ 8) :
    xs.length ≤ sizeLine ∧ (pl == sysModules) = false ∧ s.heap.DictOfH (nestedKind X.prog X.w) pl xs := by
  obtain ⟨⟨z, hd, o, es, ep, e1, e2, e3, e4, e5⟩, _⟩ := I.hok pl _ e
  exact ⟨z, hd, o, es, ep, e1, e2, e3, e4, fun x hx => ⟨nis I _ _ _ (hk x hx).1 rfl, (hk x hx).2⟩, e5⟩
theorem pc_plin (hu : X.A.units + 64 < cLine) (hi : PE X i ti) (ho : PE X o to) : PC X .In i o (fun σ H Q => ti σ H fun y H1 => to σ H1 fun x H2 => ∃ pl Hb ks k b, x = .ref pl ∧ y = .ref b ∧ Same Hb H2 ∧ PlcsAt X.prog X.w X.K Hb H2 pl ks ∧ Dp X.K Hb (.ref b) k.data ∧ k.depth ≤ 8 ∧ Q (.bl (decide (k ∈ ks))) H2) := by
  refine ⟨fun pins s σ H Q I h => ?_⟩
  refine thn (hi.run pins s σ H _ I h) fun iv s1 ⟨y, H1, I1, ry, q1⟩ => thn (ho.run pins s1 σ H1 _ I1 q1) fun u s2 ⟨x, H2, I2, rx, pl, Hb, ks, k, b, ex, ey, bs, ⟨xs, e, ek, hk⟩, hb, dk, q2⟩ => ?_
  subst ex ey
  obtain rfl : u = Value.ref pl := rx
  obtain rfl : iv = Value.ref b := ry
  obtain ⟨z, hd, dd⟩ := plc_of I2 e fun x hx => ⟨(hk x hx).1.same bs, (hk x hx).2⟩
  refine wpAny_in_heap (knd := nestedKind X.prog X.w) (k := k) (by show X.A.units + 1 + 8 < _; omega) ⟨nis I2 _ _ _ (hb.same bs) rfl, dk⟩ hd dd ?_
  rw [atKey_some, ek]
  exact ⟨.bl _, H2, I2.tok _, rfl, q2⟩
theorem ps_plput (hu : X.A.units + 64 < cLine) (ho : PE X o to) (hi : PE X i ti) (hv : PE X value tv) (hs : swapsWith value (some (.Subscript o i pos')) pos.line X.env = pure false := by rfl) :
    PS X (.Assign [.Subscript o i pos'] value pos) (fun D σ H => tv σ H fun v H1 => to σ H1 fun x H2 => ti σ H2 fun y H3 => ∃ pl Hb ks k b, x = .ref pl ∧ y = .ref b ∧ Same Hb H3 ∧ Hb pl = none ∧ PlcsAt X.prog X.w X.K Hb H3 pl ks ∧ Dp X.K Hb (.ref b) k.data ∧ k.depth ≤ 8 ∧ k ∉ ks ∧ ks.length < sizeLine ∧
      ∀ ob, PlcsAt X.prog X.w X.K Hb (upd H3 pl ob) pl (ks ++ [k]) → D.nx σ (upd H3 pl ob)) := by
  refine ⟨fun pins s σ H D I h => ?_⟩
  refine wpAny_Assign_Subscript (thn (hv.run pins s σ H _ I h) fun r s1 ⟨v, H1, I1, rv, q1⟩ => thn (ho.run pins s1 σ H1 _ I1 q1) fun u s2 ⟨x, H2, I2, rx, q2⟩ => thn (hi.run pins s2 σ H2 _ I2 q2) fun iv s3 ⟨y, H3, I3, ry, pl, Hb, ks, k, b, ex, ey, bs, hbp, ⟨xs, e, ek, hk⟩, hb, dk, hn, hl, q3⟩ => ?_) hs
  subst ex ey
  obtain rfl : u = Value.ref pl := rx
  obtain rfl : iv = Value.ref b := ry
  obtain ⟨z, hd, dd⟩ := plc_of I3 e fun x hx => ⟨(hk x hx).1.same bs, (hk x hx).2⟩
  have hxl : xs.length = ks.length := by rw [← ek, List.length_map]
  have hno : atKey xs k = none := by
    have := atKey_some (xs := xs) (k := k)
    rw [ek, decide_eq_false hn] at this
    cases q : atKey xs k with
    | none => rfl
    | some _ => rw [q] at this; cases this
  refine wpAny_setItem_heap (knd := nestedKind X.prog X.w) (k := k) (hsz := z) (by show X.A.units + 1 + 8 < _; omega) ⟨nis I3 _ _ _ (hb.same bs) rfl, dk⟩ dd fun h' dd' hs => ?_
  have es : storedH xs k b r = xs ++ [(k, b, r)] := by
    unfold storedH
    rw [hno]
    rfl
  rw [es] at dd'
  obtain ⟨q, es, ep, hq, h2, h3, h4, _, h5⟩ := dd'
  refine ⟨σ, upd H3 pl (PlcO X.prog X.w pl (xs ++ [(k, b, r)])), d_write I3 (by rw [e]; exact True.intro) hs ⟨q, hq⟩ (plcO_ok (by rw [List.length_append, hxl]; show ks.length + 1 ≤ _; omega) hd ⟨q, es, ep, hq, h2, h3, h4, h5⟩), q3 _ ⟨_, upd_same, by rw [List.map_append, ek]; rfl, fun x hx => ?_⟩⟩
  rcases List.mem_append.mp hx with hx | hx
  · exact hk x hx
  · rw [List.mem_singleton.mp hx]
    exact ⟨hb, dk⟩
theorem pe_plnew : PE X (.Dict [] [] pos) (fun _ H Q => ∀ p, H p = none → Q (.ref p) (upd H p (PlcO X.prog X.w p []))) := ⟨fun pins s σ H Q I h =>
  wpAny_Dict_empty ⟨.ref s.heap.objs.size, _, I.laid (a := s.heap.objs.size) (o := PlcO X.prog X.w s.heap.objs.size []) (t' := s.toks) (fun _ _ q => Heap.get?_push_of_some _ q) (Nat.le_refl _)
    (plcO_ok (Nat.zero_le _) (beq_eq_false_iff_ne.mpr (Ne.symm (Nat.ne_of_lt I.big))) ⟨_, #[], 0, Heap.get?_push_size _ rfl, ⟨rfl, rfl, rfl⟩, rfl, rfl, List.nodup_nil⟩), rfl, h _ (I.hok.fresh (Nat.le_refl _))⟩⟩
end
end SQ
/-! ## SqSr -/
set_option Elab.async false
set_option linter.all false
set_option maxRecDepth 100000
set_option maxHeartbeats 4000000
/-! Search: its object, its methods -/
namespace SQ
open PySem PySem.Spec L2 TL
open PyProof.Rows (envOfC)
/-- e.f as data -/
def eF (C : Addr) (i : Nat) (f : Str) : En → Option PyData := fun δ => match δ[i]? with
  | some (.k C' fk) => if C' = C then (match fk.lookup f with | some (.d x) => some x | _ => none) else none
  | _ => none
theorem d_fld {X : Cx} {C : Addr} {i : Nat} {x f : Str} {p pos : Pos} (c : Cls X.K C) (n : NoAttr X.K C f) (hN : X.N[i]? = some x := by rfl) (hv : Vis X.env.scope x := by first | exact Or.inl rfl | exact Or.inr (Or.inl rfl) | exact Or.inr (Or.inr rfl))
    (hd : (x == ("__debug__" : Str)) = false := by decide) (hcd : (x == ("__classdict__" : Str)) = false := by decide) (hb : attributeBase (.Name x p) f X.env (eval (.Name x p) X.env) = eval (.Name x p) X.env := by rfl) :
    PE X (.Attribute (.Name x p) f pos) (tE X.K (eF C i f)) := PE.imp (pe_fld (pv i hN hv hd hcd) hb) fun σ H Q ⟨Hb, δ, S, d, hd, O⟩ => by
  unfold eF at hd
  split at hd
  · rename_i C' fk e
    split at hd
    · rename_i ec
      subst ec
      split at hd
      · rename_i y hy
        cases hd
        obtain ⟨v, hv, a, dx, fs, rfl, ha, hf⟩ := S.bk _ _ _ e
        obtain ⟨u, e1, e2⟩ : ∃ u, fs.lookup f = some u ∧ Dp X.K Hb u d := hf _ _ hy
        exact ⟨_, hv, a, _, dx, fs, u, rfl, O.bs _ _ ha, c, n, e1, O.now e2⟩
      · cases hd
    · cases hd
  · cases hd
theorem eF_at {C : Addr} {i : Nat} {f : Str} {δ : En} {fk : List (Str × Fk)} {x : PyData} (h : δ[i]? = some (.k C fk)) (hl : fk.lookup f = some (.d x)) : eF C i f δ = some x := by
  unfold eF
  rw [h]
  simp [hl]
theorem eq_ints {m n : Int} : (eqD (.int m) (.int n)).bind asB = some (decide (m = n)) := rfl
/-! ### data without lists -/
mutual
def noL : PyData → Bool
  | .tuple ds => noLs ds
  | .none => true
  | .bool _ => true
  | .int _ => true
  | .str _ => true
  | _ => false
def noLs : List PyData → Bool
  | [] => true
  | d :: ds => noL d && noLs ds
end
mutual
theorem dp_unl {K : PySem.W.Frag} {Hb : Hp} {rl : Addr} {ws : List V} (hn : Hb rl = none) : ∀ {d : PyData} {v : V}, noL d = true → Dp K (upd Hb rl (.lst ws)) v d → Dp K Hb v d
  | _, _, _, .non => .non
  | _, _, _, .bl b => .bl b
  | _, _, _, .int i => .int i
  | _, _, _, .str x => .str x
  | _, _, h, .lst s a => by unfold noL at h; cases h
  | _, _, h, .tup (a := p) (xs := xs) s a => by
    unfold noL at h
    refine .tup ?_ (dp_unlAll hn h a)
    have key : ∀ o, o ≠ HO.lst ws → upd Hb rl (.lst ws) p = some o → Hb p = some o := fun o ho e => by
      by_cases hp : p = rl
      · subst hp; rw [upd_same] at e; cases e; exact absurd rfl ho
      · rw [upd_ne hp] at e; exact e
    rcases s with (s | ⟨o, s⟩) | s
    · exact .inl (.inl (key _ (fun q => by cases q) s))
    · exact .inl (.inr ⟨o, key _ (fun q => by cases q) s⟩)
    · exact .inr s
theorem dp_unlAll {K : PySem.W.Frag} {Hb : Hp} {rl : Addr} {ws : List V} (hn : Hb rl = none) : ∀ {ds : List PyData} {vs : List V}, noLs ds = true → DpAll K (upd Hb rl (.lst ws)) vs ds → DpAll K Hb vs ds
  | _, _, _, .nil => .nil
  | _, _, h, .cons a b => by
    unfold noLs at h
    rw [Bool.and_eq_true] at h
    exact .cons (dp_unl hn h.1 a) (dp_unlAll hn h.2 b)
end
/-! ### the object of a search -/
structure SO (P : Program) (w : World) (K : PySem.W.Frag) (C : Addr) (Hb H : Hp) (a rl pl : Addr) (most : Int) (rows : List PyData) (ks : List NestedKey) : Prop where
  bs : Same Hb H
  ob : ∃ (dx : Addr) (fs : List (Str × V)), Hb a = some (.ins C dx fs) ∧ fs.lookup ("most" : Str) = some (.int most) ∧ fs.lookup ("rows" : Str) = some (.ref rl) ∧ fs.lookup ("places" : Str) = some (.ref pl) ∧ fs.lookup ("lay" : Str) = none ∧ fs.lookup ("go_on" : Str) = none
  rn : Hb rl = none
  pn : Hb pl = none
  rw : ∃ vs, H rl = some (.lst vs) ∧ DpAll K Hb vs rows
  pl : PlcsAt P w K Hb H pl ks
/-- all but the search's two is kept -/
def Fr (H H' : Hp) (rl pl : Addr) : Prop := ∀ b o, H b = some o → b ≠ rl → b ≠ pl → H' b = some o
def fkS (most : Int) (rows : List PyData) : List (Str × Fk) := [("most", .d (.int most)), ("rows", .d (.list rows))]
section
variable {P : Program} {w : World} {K : PySem.W.Frag} {C : Addr} {Hb H H' : Hp} {a rl pl : Addr} {most : Int} {rows : List PyData} {ks : List NestedKey} {σ : L2.St} {δ : En}
theorem SO.ne (O : SO P w K C Hb H a rl pl most rows ks) : rl ≠ pl := fun e => by
  obtain ⟨vs, h1, _⟩ := O.rw
  obtain ⟨xs, h2, _⟩ := O.pl
  rw [e, h2] at h1
  cases h1
theorem SO.grow (O : SO P w K C Hb H a rl pl most rows ks) (s : Same H H') : SO P w K C (ex Hb H H') H' a rl pl most rows ks := by
  obtain ⟨dx, fs, h1, hr⟩ := O.ob
  obtain ⟨vs, h2, h3⟩ := O.rw
  obtain ⟨xs, h4, h5⟩ := O.pl
  have sx := sub_ex (H' := H') O.bs
  exact ⟨ex_sub O.bs s, ⟨dx, fs, sx _ _ h1, hr⟩, by rw [ex_old (by rw [h2]; rfl)]; exact O.rn, by rw [ex_old (by rw [h4]; rfl)]; exact O.pn, ⟨vs, s _ _ h2, h3.same sx⟩, PlcsAt.mono sx ((s _ _ h4).trans h4.symm) O.pl⟩
/-- for a while the rows are plain data -/
theorem SO.froz (O : SO P w K C Hb H a rl pl most rows ks) (S : Sta K Hb H σ δ) {i : Nat} (hi : δ[i]? = some .u) (ha : σ[i]? = some (some (.ref a))) (no : ∀ (j : Nat) (xs : List PyData), δ[j]? ≠ some (.o xs)) :
    ∃ vs, H rl = some (.lst vs) ∧ DpAll K Hb vs rows ∧ Sta K (upd Hb rl (.lst vs)) H σ (δ.set i (.k C (fkS most rows))) := by
  obtain ⟨vs, h1, h2⟩ := O.rw
  have sx : Same Hb (upd Hb rl (.lst vs)) := same_upd O.rn
  have no' : ∀ (j : Nat) (xs : List PyData), (δ.set i (.k C (fkS most rows)))[j]? ≠ some (.o xs) := fun j xs e => by
    rcases getElem?_set' e with ⟨rfl, q⟩ | ⟨ne, q⟩
    · cases q
    · exact no j xs q
  refine ⟨vs, h1, h2, ⟨fun b u e => ?_, by rw [List.length_set]; exact S.len, fun j x e => ?_, fun j xs e => (no' j xs e).elim, fun j k xs ys c e => (no' j xs e).elim, fun j C' fk e => ?_⟩⟩
  · by_cases hb : b = rl
    · subst hb; rw [upd_same] at e; rw [h1]; exact e
    · rw [upd_ne hb] at e; exact S.bs b u e
  · rcases getElem?_set' e with ⟨rfl, q⟩ | ⟨ne, q⟩
    · cases q
    · obtain ⟨v, g1, g2⟩ := S.da j x q
      exact ⟨v, g1, g2.same sx⟩
  · rcases getElem?_set' e with ⟨rfl, q⟩ | ⟨ne, q⟩
    · cases q
      obtain ⟨dx, fs, g1, g2, g3, _⟩ := O.ob
      refine ⟨.ref a, ha, a, dx, fs, rfl, sx _ _ g1, fun f k e => ?_⟩
      unfold fkS at e
      by_cases f1 : f = "most"
      · subst f1
        cases e
        exact ⟨_, g2, .int _⟩
      · by_cases f2 : f = "rows"
        · subst f2
          cases e
          exact ⟨_, g3, .lst (SqL.of upd_same) (h2.same sx)⟩
        · rw [List.lookup_cons, List.lookup_cons] at e
          rw [show (f == "most") = false from beq_eq_false_iff_ne.mpr f1, show (f == "rows") = false from beq_eq_false_iff_ne.mpr f2] at e
          cases e
    · obtain ⟨v, g1, g2⟩ := S.bk j C' fk q
      exact ⟨v, g1, g2.same sx⟩
end
end SQ
/-! ## SqSl -/
set_option Elab.async false
set_option linter.all false
set_option maxRecDepth 100000
set_option maxHeartbeats 4000000
/-! Search.lay -/
namespace SQ
open PySem PySem.Spec L2 TL
open PyProof.Rows (envOfC)
/-- Search -/
structure SrC (K : PySem.W.Frag) (C : Addr) : Prop where
  cls : Cls K C
  most : NoAttr K C "most"
  rows : NoAttr K C "rows"
  places : NoAttr K C "places"
/-- TooMany -/
structure TooM (K : PySem.W.Frag) (mg : Str → Option Value) (CT : Addr) : Prop where
  g : mg "TooMany" = some (.ref CT)
  x : ∃ bm, PySem.W.excIn K CT bm "ValueError.__new__" = true ∧ ExcBaseFacts "ValueError" "ValueError.__new__" "ValueError.__init__" bm
  k : PySem.W.keepIn K (.ref CT) = true
  b : PySem.W.subIn K (.ref CT) (.type "BaseException") = some true
  t : PySem.W.typeIn K (.ref CT) = some (.type "type")
theorem ps_tooMany {X : Cx} {W : WX} {CT : Addr} {m : Str} {j : Nat} {p p2 pos pos2 : Pos} (hc : X.calm = true) (tk : Takes X W) (T : TooM X.K X.mg CT) (hg : Gl X "TooMany" := by rfl) :
    PS X (.Raise (some (.Call (.Name "TooMany" p) [.Constant (.str m) j p2] [] pos)) none pos2) (fun _ σ H => W (.ref CT) none σ H) := by
  obtain ⟨bm, h1, h2⟩ := T.x
  exact ps_raise hc tk (pmk_own h2 h1 T.g T.k (raises_own T.b T.t) hg)
theorem Sta.cons {K : PySem.W.Frag} {Hb H : Hp} {σ : L2.St} {δ : En} (S : Sta K Hb H σ δ) (v : Option V) : Sta K Hb H (v :: σ) (.u :: δ) where
  bs := S.bs
  len := by rw [List.length_cons, List.length_cons, S.len]
  da := fun j x e => by cases j with | zero => cases e | succ j => exact S.da j x e
  ow := fun j x e => by cases j with | zero => cases e | succ j => exact S.ow j x e
  dj := fun j k xs ys a e1 e2 e3 e4 => by
    cases j with
    | zero => cases e1
    | succ j =>
      cases k with
      | zero => cases e2
      | succ k => exact congrArg _ (S.dj j k xs ys a e1 e2 e3 e4)
  bk := fun j C kn e => by cases j with | zero => cases e | succ j => exact S.bk j C kn e
theorem sta_obj {K : PySem.W.Frag} {Hb H : Hp} {N : List Str} {x : Str} {v : V} {vs : List V} {ds : List PyData} (bs : Same Hb H) (h : DpAll K Hb vs ds) : Sta K Hb H (L2.start (x :: N) (v :: vs)) (.u :: startD N.length ds) := by
  have e : L2.start (x :: N) (v :: vs) = some v :: L2.start N vs := by
    unfold L2.start
    simp
  rw [e]
  exact (sta_start bs h).cons _
/-- lay(self, one, depth, above, name) -/
def spL (P : Program) (w : World) (K : PySem.W.Frag) (C CT : Addr) : Sp := fun vs H Q E => ∃ (Hb : Hp) (a rl pl : Addr) (most : Int) (rows : List PyData) (ks : List NestedKey) (k : NestedKey) (ws : List V) (d1 d2 d3 : PyData),
  vs = .ref a :: ws ∧ SO P w K C Hb H a rl pl most rows ks ∧ DpAll K Hb ws [k.data, d1, d2, d3] ∧ (∃ l, k = .tup l) ∧ k ∉ ks ∧ k.depth ≤ 8 ∧ rows.length < 5000 ∧ ks.length < 5000 ∧
  ((rows.length : Int) ≠ most → ∀ H', Fr H H' rl pl → SO P w K C (ex Hb H H') H' a rl pl most (rows ++ [.tuple [k.data, d1, d2, d3]]) (ks ++ [k]) → Q .non H') ∧ ((rows.length : Int) = most → ∀ H', Same H H' → E (.ref CT) none H')
section
variable {P : Program} {w : World} {K : PySem.W.Frag} {mg : Str → Option Value} {base : Heap} {C CT : Addr}
theorem sc_lay : FnScope ["self", "one", "depth", "above", "name"] ["self", "one", "depth", "above", "name"] (defScope (inClass (top 41) 1)) := ⟨rfl, rfl, rfl, by decide +kernel, rfl, by decide +kernel, by decide +kernel⟩
theorem sz5000 {n : Nat} (h : n < 5000) : n < sizeLine := by rw [sizeLine_eq]; omega
theorem ok_lay {f : Addr} {fd : FuncData} (B : Bt K w mg) (c : SrC K C) (T : TooM K mg CT) (F : Fun K "lay" "Search.lay" (inClass (top 41) 1) f fd) : FnOk P w K mg base (L2.CX P w) 3 f fd ["self", "one", "depth", "above", "name"] (spL P w K C CT) := by
  refine F.okX sc_lay (fun vs H Q E ⟨Hb, a, rl, pl, most, rows, ks, k, ws, d1, d2, d3, e, _, r, _⟩ => by rw [e, List.length_cons, r.length]; rfl) fun cdv A outer s H vs Q E hr q => ⟨_,
    pss_cons (ps_if (dt_cmp (od_eq hr.units) (d_len (by rfl) B.len (d_fld (i := 0) c.cls c.rows)) (d_fld (i := 0) c.cls c.most)) (pss_one (ps_tooMany (by rfl) (takes_of rfl rfl rfl rfl) T)) pss_nil)
    (pss_cons (ps_plput (hr.units) (pe_fld (pv 0) (by rfl)) (pv 1) (d_len (by rfl) B.len (d_fld (i := 0) c.cls c.rows)))
    (pss_one (ps_expr (pe_bm PySem.F.plainAttrs_list PySem.F.slot_list_append PySem.F.type_list_append mt_append (pe_fld (pv 0) (by rfl)) (pa_cons (pe_tup (pa_cons (pv 1) (pa_cons (pv 2) (pa_cons (pv 3) (pa_cons (pv 4) pa_nil))))) pa_nil))))), ?_⟩
  obtain ⟨Hb, a, rl, pl, most, rows, ks, k, ws, d1, d2, d3, rfl, O, r, ⟨l, hl⟩, hk, hd, z1, z2, hn, hx⟩ := q
  have S0 : Sta K Hb H (L2.start ["self", "one", "depth", "above", "name"] (.ref a :: ws)) (.u :: startD 4 [k.data, d1, d2, d3]) := sta_obj O.bs r
  have no : ∀ (j : Nat) (xs : List PyData), (Sl.u :: startD 4 [k.data, d1, d2, d3])[j]? ≠ some (.o xs) := fun j xs e => by
    match j, e with
    | 0, e => cases e
    | 1, e => cases e
    | 2, e => cases e
    | 3, e => cases e
    | 4, e => cases e
    | j + 5, e => simp [startD] at e
  obtain ⟨vs, hrl, hvs, S1⟩ := O.froz S0 (i := 0) rfl rfl no
  match ws, r with
  | [v0, v1, v2, v3], .cons r0 (.cons r1 (.cons r2 (.cons r3 .nil))) =>
  have hv0 : ∃ b, v0 = .ref b := by
    subst hl
    obtain ⟨b, xs, rfl, _⟩ := dp_tup r0
    exact ⟨b, rfl⟩
  obtain ⟨b, rfl⟩ := hv0
  refine ⟨_, _, S1, decide ((rows.length : Int) = most), ?_, fun H1 s1 => ?_⟩
  · show cE (e2 eqD (e1 lenD (eF C 0 "rows")) (eF C 0 "most")) _ = _
    unfold cE e2 e1
    rw [eF_at (x := .list rows) (fk := fkS most rows) rfl rfl, eF_at (x := .int most) (fk := fkS most rows) rfl rfl]
    exact eq_ints
  · obtain ⟨dx, fs, o1, o2, o3, o4, o5, _⟩ := O.ob
    have hHa : H a = some (.ins C dx fs) := O.bs _ _ o1
    by_cases hm : (rows.length : Int) = most
    · rw [if_pos (decide_eq_true hm)]
      exact hx hm H1 s1
    · rw [if_neg (by rw [decide_eq_false hm]; exact Bool.false_ne_true)]
      obtain ⟨vs', hrl', hvs', S2⟩ := (O.grow s1).froz (S0.grow s1) (i := 0) rfl rfl no
      refine ⟨_, _, S2, .int rows.length, ?_, S2.bs, fun v H2 s2 hv => ?_⟩
      · show e1 lenD (eF C 0 "rows") _ = _
        unfold e1
        rw [eF_at (x := .list rows) (fk := fkS most rows) rfl rfl]
        rfl
      · have s02 := s1.trans s2
        refine ⟨_, rfl, a, C, dx, fs, _, rfl, s02 _ _ hHa, c.cls, c.places, o4, _, rfl, pl, Hb, ks, k, b, rfl, rfl, O.bs.trans s02, O.pn, ?_, r0, hd, hk, sz5000 z2, fun ob hpl => ?_⟩
        · obtain ⟨xs, e1, _⟩ := id O.pl
          exact O.pl.mono (Same.refl _) ((s02 _ _ e1).trans e1.symm)
        · have nap : a ≠ pl := fun e => by rw [e, O.pn] at o1; cases o1
          have nar : a ≠ rl := fun e => by rw [e, O.rn] at o1; cases o1
          have nrp := O.ne
          have hrl2 : upd H2 pl ob rl = some (.lst vs) := by rw [upd_ne nrp]; exact s02 _ _ hrl
          refine ⟨_, rfl, a, C, dx, fs, _, rfl, by rw [upd_ne nap]; exact s02 _ _ hHa, c.cls, c.rows, o3, .inl ⟨rfl, vs, SqL.of hrl2⟩, ?_⟩
          refine ⟨_, rfl, _, rfl, _, rfl, _, rfl, (Nat.le_of_lt (sz5000 (by show 4 < 5000; decide))), fun p hp => ?_⟩
          have npr : p ≠ rl := fun e => by rw [e, hrl2] at hp; cases hp
          have npp : p ≠ pl := fun e => by rw [e, upd_same] at hp; cases hp
          have hp0 : H p = none := s02.free (by rw [upd_ne npp] at hp; exact hp)
          have hl0 := hvs.length
          refine ⟨rl, vs, .ref p, rfl, rfl, by rw [upd_ne (Ne.symm npr)]; exact hrl2, by rw [hl0]; exact sz5000 z1, ?_⟩
          have fr : Fr H (upd (upd (upd H2 pl ob) p (.tup [.ref b, v1, v2, v3])) rl (.lst (vs ++ [.ref p]))) rl pl := fun x o e n1 n2 => by
            have n3 : x ≠ p := fun q => by rw [q, hp0] at e; cases e
            rw [upd_ne n1, upd_ne n3, upd_ne n2]
            exact s02 _ _ e
          refine hn hm _ fr ?_
          have sx : Same Hb (ex Hb H (upd (upd (upd H2 pl ob) p (.tup [.ref b, v1, v2, v3])) rl (.lst (vs ++ [.ref p])))) := sub_ex O.bs
          refine ⟨fun x o e => ?_, ⟨dx, fs, sx _ _ o1, o2, o3, o4, o5, by assumption⟩, by rw [ex_old (by rw [hrl]; rfl)]; exact O.rn, ?_, ⟨_, upd_same, (hvs.same sx).append (.one (.tup (SqT.of (by rw [ex_new hp0, upd_ne npr, upd_same])) ?_))⟩, hpl.mono sx (by rw [upd_ne (Ne.symm nrp), upd_ne (Ne.symm npp)])⟩
          · cases q : H x with
            | none => rw [ex_new q] at e; exact e
            | some z =>
              rw [ex_old (by rw [q]; rfl)] at e
              exact fr _ _ (O.bs _ _ e) (fun w => by rw [w, O.rn] at e; cases e) (fun w => by rw [w, O.pn] at e; cases e)
          · obtain ⟨xs, e1, _⟩ := id O.pl
            rw [ex_old (by rw [e1]; rfl)]; exact O.pn
          · exact .cons (r0.same sx) (.cons (r1.same sx) (.cons (r2.same sx) (.cons (r3.same sx) .nil)))
end
end SQ
/-! ## SqSg -/
set_option Elab.async false
set_option linter.all false
set_option maxRecDepth 100000
set_option maxHeartbeats 4000000
/-! Search.go_on -/
namespace SQ
open PySem PySem.Spec L2 TL
open PyProof.Rows (envOfC)
section
variable {P : Program} {w : World} {K : PySem.W.Frag} {C : Addr} {Hb H H1 H2 H' : Hp} {a rl pl : Addr} {most : Int} {rows : List PyData} {ks : List NestedKey} {σ : L2.St} {δ : En}
theorem SO.rlS (O : SO P w K C Hb H a rl pl most rows ks) : (H rl).isSome = true := by
  obtain ⟨vs, h, _⟩ := O.rw
  rw [h]; rfl
theorem SO.plS (O : SO P w K C Hb H a rl pl most rows ks) : (H pl).isSome = true := by
  obtain ⟨vs, h, _⟩ := O.pl
  rw [h]; rfl
theorem ex_transF (s1 : Same H H1) (fr : Fr H1 H2 rl pl) (hr : (H rl).isSome = true) (hp : (H pl).isSome = true) : ex (ex Hb H H1) H1 H2 = ex Hb H H2 := by
  funext b
  cases q : H b with
  | some z =>
    rw [ex_old (H := H1) (by rw [s1 b z q]; rfl), ex_old (H := H) (by rw [q]; rfl), ex_old (H := H) (by rw [q]; rfl)]
  | none =>
    rw [ex_new (H := H) q]
    cases q1 : H1 b with
    | none => rw [ex_new q1]
    | some z => rw [ex_old (by rw [q1]; rfl), ex_new q, q1, fr b z q1 (fun e => by rw [← e, q] at hr; cases hr) (fun e => by rw [← e, q] at hp; cases hp)]
theorem Fr.of (s : Same H H1) (fr : Fr H1 H2 rl pl) : Fr H H2 rl pl := fun b o e n1 n2 => fr b o (s b o e) n1 n2
theorem ex_frz {o : HO} (h : (H rl).isSome = true) : ex (upd Hb rl o) H H1 = upd (ex Hb H H1) rl o := by
  funext b
  by_cases e : b = rl
  · subst e; rw [ex_old h, upd_same, upd_same]
  · cases q : H b with
    | some z => rw [ex_old (by rw [q]; rfl), upd_ne e, upd_ne e, ex_old (by rw [q]; rfl)]
    | none => rw [ex_new q, upd_ne e, ex_new q]
end
theorem atI_nat {α : Type} {ds : List α} {n : Nat} {d : α} (h : ds[n]? = some d) : atI ds (n : Int) = some d := by
  unfold atI ixN
  have hl := (List.getElem?_eq_some_iff.mp h).1
  rw [if_pos (Int.natCast_nonneg n), if_pos (by omega)]
  simpa using h
/-- go_on(self, place, name, call); r: what form_behind answers; the row at place -/
def spG (P : Program) (w : World) (K : PySem.W.Frag) (C CT : Addr) (G : List PyData → Option PyData) : Sp := fun vs H Q E => ∃ (Hb : Hp) (a rl pl : Addr) (most : Int) (rows : List PyData) (ks : List NestedKey) (ws : List V) (place : Nat) (nm cl one ab nb r : PyData) (dep : Int),
  vs = .ref a :: ws ∧ SO P w K C Hb H a rl pl most rows ks ∧ DpAll K Hb ws [.int place, nm, cl] ∧ rows[place]? = some (.tuple [one, .int dep, ab, nb]) ∧ noL one = true ∧ rows.length < 5000 ∧ ks.length < 5000 ∧ G [one, cl] = some r ∧
  ((r = .none ∧ ∀ v H', Same H H' → Q v H') ∨ ∃ k l, r = k.data ∧ k = .tup l ∧ k.depth ≤ 8 ∧ ((k ∈ ks ∧ ∀ v H', Same H H' → Q v H') ∨ (k ∉ ks ∧
    ((rows.length : Int) ≠ most → ∀ v H', Fr H H' rl pl → SO P w K C (ex Hb H H') H' a rl pl most (rows ++ [.tuple [k.data, .int (dep + 1), .int place, nm]]) (ks ++ [k]) → Q v H') ∧ ((rows.length : Int) = most → ∀ H', Same H H' → E (.ref CT) none H'))))
section
variable {P : Program} {w : World} {K : PySem.W.Frag} {mg : Str → Option Value} {base : Heap} {C CT : Addr}
theorem sc_go_on : FnScope ["self", "place", "name", "call", "one", "depth", "found"] ["self", "place", "name", "call"] (defScope (inClass (top 41) 2)) := ⟨rfl, rfl, rfl, by decide +kernel, rfl, by decide +kernel, by decide +kernel⟩
/-- a method's def by its promise -/
structure MtOk (P : Program) (w : World) (K : PySem.W.Frag) (mg : Str → Option Value) (base : Heap) (CX : CXT) (k : Nat) (C : Addr) (m : Str) (sp : Sp) : Prop where
  ex : ∃ f fd ps, Meth K C m f ∧ FnOk P w K mg base CX k f fd ps sp ∧ Binds K fd ps []
theorem ok_go_on {f : Addr} {fd : FuncData} {G : List PyData → Option PyData} (B : Bt K w mg) (c : SrC K C) (FL : MtOk P w K mg base (L2.CX P w) 3 C "lay" (spL P w K C CT)) (h_fb : FnD P w K mg base 8 "form_behind" 2 G) (F : Fun K "go_on" "Search.go_on" (inClass (top 41) 2) f fd) :
    FnOk P w K mg base (L2.CX P w) 9 f fd ["self", "place", "name", "call"] (spG P w K C CT G) := by
  obtain ⟨fl, fdl, psl, ml, FL, bl⟩ := FL.ex
  refine F.okX sc_go_on (fun vs H Q E ⟨Hb, a, rl, pl, most, rows, ks, ws, place, nm, cl, one, ab, nb, r, dep, e, _, rr, _⟩ => by rw [e, List.length_cons, rr.length]; rfl) fun cdv A outer s H vs Q E hr q => ⟨_,
    pss_cons (ps_asg (d_sl (d_ix (d_fld (i := 0) c.cls c.rows) (dv 1)) dp_none (dp_some d_int)) (dg_two (i := 4) (j := 5) (by rfl) sc_go_on.nd))
    (pss_cons (ps_set (i := 6) sc_go_on.nd (by rfl) (Or.inl rfl) (d_fn h_fb (hr.mono (by decide)) (da_cons (dv 4) (da_cons (dv 3) da_nil))))
    (pss_cons (ps_if (pw_or (dt_cmp od_isN (dv 6) d_non) (pw_or1 (pt_cmp (pc_plin (hr.units) (pv 6) (pe_fld (pv 0) (by rfl)))))).pt (pss_one (ps_ret pe_bl)) pss_nil)
    (pss_cons (ps_expr (pe_meth (pv 0) c.cls ml FL (hr.mono (by decide)) bl .nil (passes_call (takes_of rfl rfl rfl rfl) fun _ _ _ _ h => h) (da_cons (dv 6) (da_cons (d_op od_addI (dv 5) d_int) (da_cons (dv 1) (da_cons (dv 2) da_nil))))))
    (pss_one (ps_ret pe_bl))))), ?_⟩
  obtain ⟨Hb, a, rl, pl, most, rows, ks, ws, place, nm, cl, one, ab, nb, r, dep, rfl, O, rr, hrow, hno, z1, z2, hG, q⟩ := q
  match ws, rr with
  | [w1, w2, w3], .cons q1 (.cons q2 (.cons q3 .nil)) =>
  have S0 : Sta K Hb H (L2.start ["self", "place", "name", "call", "one", "depth", "found"] [.ref a, w1, w2, w3]) (.u :: startD 6 [.int place, nm, cl]) := sta_obj O.bs (.cons q1 (.cons q2 (.cons q3 .nil)))
  have no : ∀ (j : Nat) (xs : List PyData), (Sl.u :: startD 6 [.int place, nm, cl])[j]? ≠ some (.o xs) := fun j xs e => by
    match j, e with
    | 0, e => cases e
    | 1, e => cases e
    | 2, e => cases e
    | 3, e => cases e
    | 4, e => cases e
    | 5, e => cases e
    | 6, e => cases e
    | j + 7, e => simp [startD] at e
  obtain ⟨vs, hrl, hvs, S1⟩ := O.froz S0 (i := 0) rfl rfl no
  obtain ⟨dx, fs, o1, o2, o3, o4, o5, o6⟩ := O.ob
  have hHa : H a = some (.ins C dx fs) := O.bs _ _ o1
  have hplace : place < rows.length := (List.getElem?_eq_some_iff.mp hrow).1
  refine ⟨_, _, S1, .tuple [one, .int dep], ?_, S1.bs, fun v H1 s1 hv => ⟨_, _, [one, .int dep], ex_sub S1.bs s1, hv, rfl, fun ws2 hws2 => ?_⟩⟩
  · have e1 : ixD (.list rows) (.int place) = some (.tuple [one, .int dep, ab, nb]) := by
      show atI rows place = _
      exact atI_nat hrow
    unfold eSl e2
    rw [eF_at (x := .list rows) (fk := fkS most rows) rfl rfl]
    show ((ixD (.list rows) (.int place)).bind fun x => cutD x none (some 2)) = _
    rw [e1]
    rfl
  rw [ex_frz O.rlS] at hws2
  have O1 := O.grow s1
  have hws3 := dp_unlAll O1.rn (by simp [noLs, hno, noL]) hws2
  match ws2, hws3 with
  | [x, y], .cons rx (.cons ry .nil) =>
  have S2 := (S0.grow s1).setL (is := [4, 5]) (.cons rx (.cons ry .nil))
  refine ⟨_, _, S2, r, ?_, S2.bs, fun v H2 s2 hv2 => ?_⟩
  · show (if [one, cl].length = 2 then G [one, cl] else none) = _
    exact (if_pos rfl).trans hG
  have S3 := (S2.grow s2).set (i := 6) hv2
  have O2 := O1.grow s2
  have s02 := s1.trans s2
  rw [ex_trans s1 s2] at S3 O2 hv2
  rcases q with ⟨rfl, q⟩ | ⟨k, l, rfl, hl, hd, q⟩
  · refine ⟨_, _, S3, true, rfl, fun H3 s3 => ?_⟩
    exact q _ _ (s02.trans s3)
  · have hdt : ∃ l', k.data = .tuple l' := ⟨NestedKey.datas l, by rw [hl]; rfl⟩
    obtain ⟨l', hl'⟩ := hdt
    refine ⟨_, _, S3, false, ?_, fun H3 s3 => ?_⟩
    · show (isN k.data .none).bind asB = some false
      rw [hl']; rfl
    have hv3 := hv2
    rw [hl'] at hv3
    obtain ⟨b, zs, rfl, _⟩ := dp_tup hv3
    have O3 := O2.grow s3
    have S4 := S3.grow s3
    have hv4 := hv2.same (sub_ex (H' := H3) O2.bs)
    have s03 := s02.trans s3
    rw [ex_trans s02 s3] at O3 S4 hv4
    refine ⟨_, rfl, _, rfl, a, C, dx, fs, _, rfl, s03 _ _ hHa, c.cls, c.places, o4, pl, _, ks, k, b, rfl, rfl, O3.bs, O3.pl, hv4, hd, decide (k ∈ ks), rfl, ?_⟩
    rcases q with ⟨hk, q⟩ | ⟨hk, q1', q2'⟩
    · rw [if_pos (decide_eq_true hk)]
      exact q _ _ s03
    · rw [if_neg (by rw [decide_eq_false hk]; exact Bool.false_ne_true)]
      refine ⟨_, rfl, a, dx, fs, rfl, s03 _ _ hHa, o5, _, _, S4, [k.data, .int (dep + 1), .int place, nm], rfl, fun vs4 H4 s4 hvs4 => ?_⟩
      have O4 := O3.grow s4
      have s04 := s03.trans s4
      rw [ex_trans s03 s4] at O4 hvs4
      show spL P w K C CT (V.ref a :: (vs4 ++ [])) H4 _ E
      rw [List.append_nil]
      refine ⟨_, a, rl, pl, most, rows, ks, k, vs4, _, _, _, rfl, O4, hvs4, ⟨l, hl⟩, hk, hd, z1, z2, fun hne H' fr O5 => ?_, fun he H' s5 => q2' he H' (s04.trans s5)⟩
      rw [ex_transF s04 fr O.rlS O.plS] at O5
      exact q1' hne _ H' (Fr.of s04 fr) O5
end
end SQ
/-! ## SqSi -/
set_option Elab.async false
set_option linter.all false
set_option maxRecDepth 100000
set_option maxHeartbeats 4000000
/-! Search.__init__; list(..) -/
namespace SQ
open PySem PySem.Spec L2 TL
open PyProof.Rows (envOfC)
def listD : PyData → Option PyData
  | .list ds => some (.list ds)
  | .tuple ds => some (.list ds)
  | _ => none
theorem d_listOf {X : Cx} {a : Expr} {fa : En → Option PyData} {p pos : Pos} (hg : Gl X "list") (hm : X.mg "list" = none) (ha : PE X a (tE X.K fa)) (hs : starEach (a :: []) X.env = (false, eval a X.env) :: starEach [] X.env := by rfl) (hpl : (backTo pos (starEach [] X.env)).any (·.1) = false := by rfl) :
    PE X (.Call (.Name "list" p) [a] [] pos) (tE X.K (e1 listD fa)) := d_t1 call_list_of (fun Hb H v dx e Q h ho O => by
  unfold listD at ho
  split at ho
  · cases ho
    obtain ⟨p, xs, rfl, s, r⟩ := dp_lst h
    exact ⟨p, xs, rfl, .inl (O.bs.seq s), fun l hl => O.newL hl r⟩
  · cases ho
    obtain ⟨p, xs, rfl, s, r⟩ := dp_tup h
    exact ⟨p, xs, rfl, .inr (sameT O.bs s), fun l hl => O.newL hl r⟩
  · cases ho) hg hm (by decide +kernel) ha hs (by decide) (by decide) hpl
/-- __init__(self, floor, most) -/
def spSI (P : Program) (w : World) (K : PySem.W.Frag) (C : Addr) (G : List PyData → Option PyData) : Sp := fun vs H Q E => ∃ (H0 Hb : Hp) (a dx : Addr) (ws : List V) (fl : PyData) (most : Int) (k : NestedKey) (l : List NestedKey),
  vs = .ref a :: ws ∧ H = upd (upd H0 dx (.own a)) a (.ins C dx []) ∧ H0 a = none ∧ H0 dx = none ∧ dx ≠ a ∧ Same Hb H0 ∧ DpAll K Hb ws [fl, .int most] ∧ G [fl] = some k.data ∧ k = .tup l ∧ k.depth ≤ 8 ∧ most ≠ 0 ∧
  ∀ H' Hb' rl pl, Same H0 H' → Same Hb Hb' → Same Hb' (ex Hb H0 H') → H0 rl = none → H0 pl = none → SO P w K C Hb' H' a rl pl most [.tuple [k.data, .int 0, .none, .none]] [k] → Q .non H'
section
variable {P : Program} {w : World} {K : PySem.W.Frag} {mg : Str → Option Value} {base : Heap} {C CT : Addr}
theorem sc_sinit : FnScope ["self", "floor", "most"] ["self", "floor", "most"] (defScope (inClass (top 41) 0)) := ⟨rfl, rfl, rfl, by decide +kernel, rfl, by decide +kernel, by decide +kernel⟩
theorem ok_sinit {f : Addr} {fd : FuncData} {G : List PyData → Option PyData} (B : Bt K w mg) (c : SrC K C) (FL : MtOk P w K mg base (L2.CX P w) 3 C "lay" (spL P w K C CT)) (h_form : FnD P w K mg base 2 "form" 1 G) (F : Fun K "__init__" "Search.__init__" (inClass (top 41) 0) f fd) :
    FnOk P w K mg base (L2.CX P w) 4 f fd ["self", "floor", "most"] (spSI P w K C G) := by
  obtain ⟨fl, fdl, psl, ml, FL, bl⟩ := FL.ex
  refine F.okX sc_sinit (fun vs H Q E ⟨H0, Hb, a, dx, ws, fl, most, k, l, e, _, _, _, _, _, rr, _⟩ => by rw [e, List.length_cons, rr.length]; rfl) fun cdv A outer s H vs Q E hr q => ⟨_,
    pss_cons (ps_fld (pv 0) (pv 2) (by rfl))
    (pss_cons (ps_fld (pv 0) (pe_lst pa_nil) (by rfl))
    (pss_cons (ps_fld (pv 0) pe_plnew (by rfl))
    (pss_one (ps_expr (pe_meth (pv 0) c.cls ml FL (hr.mono (by decide)) bl .nil (passes_call (takes_of rfl rfl rfl rfl) fun _ _ _ _ h => h) (da_cons (d_fn h_form (hr.mono (by decide)) (da_cons (dv 1) da_nil)) (da_cons d_int (da_cons d_non (da_cons d_non da_nil))))))))), ?_⟩
  obtain ⟨H0, Hb, a, dx, ws, fl, most, k, l, rfl, eH, ha, hdx, hne, bs, rr, hG, hl, hd, hm, post⟩ := q
  match ws, rr with
  | [w1, w2], .cons q1 (.cons q2 .nil) =>
  obtain rfl := dp_int q2
  have s0 : Same H0 H := by
    rw [eH]
    exact (same_upd hdx).trans (same_upd (by rw [upd_ne (Ne.symm hne)]; exact ha))
  have hHa : H a = some (.ins C dx []) := by rw [eH, upd_same]
  have hHdx : H dx = some (.own a) := by rw [eH, upd_ne hne, upd_same]
  refine ⟨_, rfl, _, rfl, a, C, dx, [], rfl, hHa, c.cls, c.most, (by decide), ?_⟩
  refine ⟨(by show 0 ≤ sizeLine; omega), fun rl hrl => ?_⟩
  have nra : rl ≠ a := fun e => by rw [e, upd_same] at hrl; cases hrl
  refine ⟨_, rfl, a, C, dx, _, rfl, by rw [upd_ne (Ne.symm nra), upd_same], c.cls, c.rows, (by show 1 < 1000; decide), ?_⟩
  intro pl hpl
  have npa : pl ≠ a := fun e => by rw [e, upd_same] at hpl; cases hpl
  rw [upd_ne npa] at hpl
  have npr : pl ≠ rl := fun e => by rw [e, upd_same] at hpl; cases hpl
  rw [upd_ne npr, upd_ne npa] at hpl
  rw [upd_ne nra] at hrl
  refine ⟨_, rfl, a, C, dx, _, rfl, by rw [upd_ne (Ne.symm npa), upd_same], c.cls, c.places, (by show 2 < 1000; decide), ?_⟩
  have hpl0 : H0 pl = none := s0.free hpl
  have hrl0 : H0 rl = none := s0.free hrl
  have hba : Hb a = none := bs.free ha
  generalize hH3 : upd (upd (upd (upd (upd H a _) rl _) a _) pl _) a _ = H3
  have e3a : H3 a = some (.ins C dx [("most", .int most), ("rows", .ref rl), ("places", .ref pl)]) := by rw [← hH3, upd_same]; rfl
  have e3p : H3 pl = some (PlcO P w pl []) := by rw [← hH3, upd_ne npa, upd_same]; rfl
  have e3r : H3 rl = some (.lst []) := by rw [← hH3, upd_ne nra, upd_ne (Ne.symm npr), upd_ne nra, upd_same]
  have s03 : Same H0 H3 := fun b o e => by
    have n1 : b ≠ a := fun q => by rw [q, ha] at e; cases e
    have n2 : b ≠ pl := fun q => by rw [q, hpl0] at e; cases e
    have n3 : b ≠ rl := fun q => by rw [q, hrl0] at e; cases e
    rw [← hH3, upd_ne n1, upd_ne n2, upd_ne n1, upd_ne n3, upd_ne n1]
    exact s0 _ _ e
  let Hb3 : Hp := upd Hb a (.ins C dx [("most", .int most), ("rows", .ref rl), ("places", .ref pl)])
  have sb3 : Same Hb Hb3 := same_upd hba
  have bs3 : Same Hb3 H3 := fun b o e => by
    by_cases h : b = a
    · subst h; rw [show Hb3 b = _ from upd_same] at e; rw [e3a]; exact e
    · rw [show Hb3 b = Hb b from upd_ne h] at e; exact s03 _ _ (bs _ _ e)
  have O3 : SO P w K C Hb3 H3 a rl pl most [] [] := ⟨bs3, ⟨dx, _, upd_same, rfl, rfl, rfl, rfl, rfl⟩, by rw [show Hb3 rl = Hb rl from upd_ne nra]; exact bs.free hrl0, by rw [show Hb3 pl = Hb pl from upd_ne npa]; exact bs.free hpl0, ⟨[], e3r, .nil⟩, ⟨[], e3p, rfl, fun x hx => by cases hx⟩⟩
  have S3 : Sta K Hb3 H3 (L2.start ["self", "floor", "most"] [.ref a, w1, .int most]) (.u :: startD 2 [fl, .int most]) := sta_obj bs3 ((DpAll.cons q1 (.cons (.int most) .nil)).same sb3)
  refine ⟨_, rfl, a, dx, _, rfl, e3a, rfl, _, _, S3, [k.data, .int 0, .none, .none], ?_, fun vs4 H4 s4 hvs4 => ?_⟩
  · show (((if [fl].length = 1 then G [fl] else none) : Option PyData).bind fun x => some [x, .int 0, .none, .none]) = _
    rw [show (if [fl].length = 1 then G [fl] else none) = some k.data from (if_pos rfl).trans hG]
    rfl
  show spL P w K C CT (V.ref a :: (vs4 ++ [])) H4 _ E
  rw [List.append_nil]
  have O4 := O3.grow s4
  refine ⟨_, a, rl, pl, most, [], [], k, vs4, _, _, _, rfl, O4, hvs4, ⟨l, hl⟩, (fun h => by cases h), hd, (by decide), (by decide), fun _ H' fr O5 => ?_, fun he => absurd he.symm hm⟩
  rw [ex_transF s4 fr O3.rlS O3.plS] at O5
  have s04 := s03.trans s4
  have s0' : Same H0 H' := fun b o e => fr b o (s04 b o e) (fun q => by rw [q, hrl0] at e; cases e) (fun q => by rw [q, hpl0] at e; cases e)
  refine post H' _ rl pl s0' (sb3.trans (sub_ex bs3)) (fun b o e => ?_) hrl0 hpl0 O5
  have e' := O5.bs _ _ e
  cases q : H0 b with
  | none => rw [ex_new q]; exact e'
  | some z =>
    rw [ex_old (by rw [q]; rfl)]
    rw [ex_old (by rw [s03 _ _ q]; rfl)] at e
    have nb : b ≠ a := fun w => by rw [w, ha] at q; cases q
    rw [show Hb3 b = Hb b from upd_ne nb] at e
    exact e
end
end SQ
/-! ## SqSo -/
set_option Elab.async false
set_option linter.all false
set_option maxRecDepth 100000
/-! sorted texts are the same texts -/
namespace SQ
open PySem PySem.Spec L2 TL
open PyProof.Rows (sortedS risingS)
theorem ltC_eq : ∀ a b : List Nat, ltCps a b = decide (a < b)
  | [], [] => by simp [ltCps]
  | [], _ :: _ => by simp [ltCps]
  | _ :: _, [] => by simp [ltCps]
  | a :: r, b :: t => by
    rw [ltCps, ltC_eq r t]
    by_cases h : a < b
    · simp [h, List.cons_lt_cons_iff]
    · by_cases e : a = b
      · subst e; simp [List.cons_lt_cons_iff]
      · simp [h, e, List.cons_lt_cons_iff]
def leS (x y : Str) : Prop := x.cps.toList ≤ y.cps.toList
theorem leS_anti {x y : Str} (h1 : leS x y) (h2 : leS y x) : x = y := by
  have e : x.cps.toList = y.cps.toList := List.le_antisymm h1 h2
  obtain ⟨a⟩ := x
  obtain ⟨b⟩ := y
  exact congrArg Str.mk (Array.toList_inj.mp e)
theorem rising_pw : ∀ (r : List Str) (p : Str), risingS p r = true → (p :: r).Pairwise leS
  | [], p, _ => List.pairwise_singleton ..
  | x :: r, p, h => by
    unfold risingS at h
    rw [Bool.and_eq_true] at h
    have h1 : leS p x := by
      have := h.1
      rw [ltC_eq] at this
      simpa [leS, List.not_lt] using this
    have h2 := rising_pw r x h.2
    refine List.pairwise_cons.mpr ⟨fun y hy => ?_, h2⟩
    rcases List.mem_cons.mp hy with rfl | hy
    · exact h1
    · exact List.le_trans h1 ((List.pairwise_cons.mp h2).1 y hy)
theorem sorted_pw {r : List Str} (h : sortedS r = true) : r.Pairwise leS := by
  cases r with
  | nil => exact .nil
  | cons x r => exact rising_pw r x h
theorem perm_eqS : ∀ {a b : List Str}, a.Perm b → a.Pairwise leS → b.Pairwise leS → a = b := fun {a b} h ha hb => by
  induction a generalizing b with
  | nil => exact (List.nil_perm.mp h).symm ▸ rfl
  | cons x xs ih =>
    cases b with
    | nil => exact absurd h.symm (by intro q; have := q.length_eq; simp at this)
    | cons y ys =>
      have hx : x ∈ y :: ys := h.mem_iff.mp List.mem_cons_self
      have hy : y ∈ x :: xs := h.mem_iff.mpr List.mem_cons_self
      have e : x = y := by
        rcases List.mem_cons.mp hx with q | q
        · exact q
        · rcases List.mem_cons.mp hy with r | r
          · exact r.symm
          · exact leS_anti ((List.pairwise_cons.mp ha).1 y r) ((List.pairwise_cons.mp hb).1 x q)
      subst e
      rw [ih (List.Perm.cons_inv h) (List.pairwise_cons.mp ha).2 (List.pairwise_cons.mp hb).2]
theorem sorted_eqS {a b : List Str} (h : a.Perm b) (ha : sortedS a = true) (hb : sortedS b = true) : a = b := perm_eqS h (sorted_pw ha) (sorted_pw hb)
end SQ
/-! ## SqBk -/
set_option Elab.async false
set_option linter.all false
set_option maxRecDepth 100000
set_option maxHeartbeats 4000000
/-! Book: call, names; defs whose first parameter is a book -/
namespace SQ
open PySem PySem.Spec L2 TL
open PyProof.Rows (envOfC sortedS)
structure BkC (K : PySem.W.Frag) (C : Addr) : Prop where
  cls : Cls K C
  known : NoAttr K C "known"
def bkF (kn : List (Str × PyData)) : List (Str × Fk) := [("known", .t kn), ("call", .no), ("names", .no)]
/-- the texts' dict in the field f of the object in slot i -/
def eT (C : Addr) (i : Nat) (f : Str) (δ : En) : Option (List (Str × PyData)) := match δ[i]? with
  | some (.k C' fk) => if C' = C then (match fk.lookup f with | some (.t kn) => some kn | _ => none) else none
  | _ => none
theorem eT_at {C : Addr} {i : Nat} {f : Str} {δ : En} {fk : List (Str × Fk)} {kn : List (Str × PyData)} (h : δ[i]? = some (.k C fk)) (hl : fk.lookup f = some (.t kn)) : eT C i f δ = some kn := by
  unfold eT
  rw [h]
  simp [hl]
theorem eT_of {K : PySem.W.Frag} {Hb H : Hp} {σ : L2.St} {δ : En} {C : Addr} {i : Nat} {f : Str} {kn : List (Str × PyData)} (S : Sta K Hb H σ δ) (h : eT C i f δ = some kn) :
    ∃ a dx fs kd kvs, σ[i]? = some (some (.ref a)) ∧ Hb a = some (.ins C dx fs) ∧ fs.lookup f = some (.ref kd) ∧ Hb kd = some (.dK kvs) ∧ kvs.map (·.1) = kn.map (fun p => Sum.inr p.1) ∧ DpAll K Hb (kvs.map (·.2)) (kn.map (·.2)) := by
  unfold eT at h
  split at h
  · rename_i C' fk e
    split at h
    · rename_i ec
      subst ec
      split at h
      · rename_i kn' hl
        cases h
        obtain ⟨v, hv, a, dx, fs, rfl, ha, hf⟩ := S.bk _ _ _ e
        obtain ⟨kd, kvs, e1, e2, e3, e4⟩ : FldAt K Hb (.t kn) (fs.lookup f) := hf _ _ hl
        exact ⟨a, dx, fs, kd, kvs, hv, ha, e1, e2, e3, e4⟩
      · cases h
    · cases h
  · cases h
theorem kn_val {K : PySem.W.Frag} {H : Hp} {nm : Str} : ∀ {kn : List (Str × PyData)} {kvs : List (Key × V)}, kvs.map (·.1) = kn.map (fun p => Sum.inr p.1) → DpAll K H (kvs.map (·.2)) (kn.map (·.2)) →
    (kn.lookup nm = none ∧ valV kvs (Sum.inr nm) = none) ∨ ∃ d v, kn.lookup nm = some d ∧ valV kvs (Sum.inr nm) = some v ∧ Dp K H v d
  | [], [], _, _ => .inl ⟨rfl, rfl⟩
  | [], _ :: _, h, _ => by cases h
  | _ :: _, [], h, _ => by cases h
  | (x, d) :: kn, (k, v) :: kvs, h, r => by
    rw [List.map_cons, List.map_cons] at h
    obtain ⟨h1, h2⟩ := List.cons.inj h
    have r1 : Dp K H v d ∧ DpAll K H (kvs.map (·.2)) (kn.map (·.2)) := by
      cases r with | cons a b => exact ⟨a, b⟩
    have hk : k = Sum.inr x := h1
    subst hk
    by_cases e : x = nm
    · subst e
      exact .inr ⟨d, v, by rw [List.lookup_cons, beq_self_eq_true], valV_pos (p := (Sum.inr x, v)) rfl, r1.1⟩
    · have e1 : ((x, d) :: kn).lookup nm = kn.lookup nm := by
        rw [List.lookup_cons, show (nm == x) = false from beq_eq_false_iff_ne.mpr fun q => e q.symm]
      have e2 : valV (((Sum.inr x, v) : Key × V) :: kvs) (Sum.inr nm) = valV kvs (Sum.inr nm) := valV_neg fun q => e (Sum.inr.inj q)
      rw [e1, e2]
      exact kn_val h2 r1.2
section
variable {X : Cx} {C : Addr} {i : Nat} {x f : Str} {p pos apos : Pos} {e : Expr} {es : List Expr} {fe : En → Option PyData} {k : Nat}
/-- e not in o.f -/
def cNin (C : Addr) (i : Nat) (f : Str) (fe : En → Option PyData) : En → Option Bool := fun δ => (fe δ).bind fun d => match d with | .str nm => (eT C i f δ).map fun kn => (kn.lookup nm).isNone | _ => none
theorem dt_knin (hu : X.A.units + 1 < cLine) (c : Cls X.K C) (n : NoAttr X.K C f) (he : PE X e (tE X.K fe)) (hN : X.N[i]? = some x := by rfl) (hv : Vis X.env.scope x := by first | exact Or.inl rfl | exact Or.inr (Or.inl rfl) | exact Or.inr (Or.inr rfl))
    (hd : (x == ("__debug__" : Str)) = false := by decide) (hcd : (x == ("__classdict__" : Str)) = false := by decide) (hb : attributeBase (.Name x p) f X.env (eval (.Name x p) X.env) = eval (.Name x p) X.env := by rfl) :
    PT X (.Compare e [.NotIn] [.Attribute (.Name x p) f apos] pos) (tT X.K (cNin C i f fe)) := PT.imp (pt_cmp (pc_dnotin hu he (pe_fld (pv i hN hv hd hcd) hb))) fun σ H Q h => by
  refine (?_ : tE X.K fe σ H _)
  obtain ⟨Hb, δ, S, d, hd, O⟩ := tT_seq (f := fe) (k := fun δ d => match d with | .str nm => (eT C i f δ).map fun kn => (kn.lookup nm).isNone | _ => none) h
  refine ⟨Hb, δ, S, d, hd, O.bs, fun v H1 s hv => ?_⟩
  obtain ⟨Hb1, δ1, d1, S1, h1, r, hr, O1⟩ := O.go v H1 s hv
  split at hr
  · rename_i nm
    obtain ⟨kn, hk, rfl⟩ := Option.map_eq_some_iff.mp hr
    obtain ⟨a, dx, fs, kd, kvs, g1, g2, g3, g4, g5, g6⟩ := eT_of S1 hk
    obtain rfl := dp_str h1
    refine ⟨_, g1, a, C, dx, fs, _, rfl, S1.bs _ _ g2, c, n, g3, kd, valV kvs (Sum.inr nm), rfl, DGet.k (k := Sum.inr nm) (S1.bs _ _ g4), _, rfl, ?_⟩
    rcases kn_val (nm := nm) g5 g6 with ⟨e1, e2⟩ | ⟨d, v, e1, e2, _⟩
    · rw [e2]
      rw [e1] at O1
      exact O1 _ (Same.refl _)
    · rw [e2]
      rw [e1] at O1
      exact O1 _ (Same.refl _)
  · cases hr
/-- o.f[e] -/
def eGet (C : Addr) (i : Nat) (f : Str) (fe : En → Option PyData) : En → Option PyData := fun δ => (fe δ).bind fun d => match d with | .str nm => (eT C i f δ).bind fun kn => kn.lookup nm | _ => none
theorem d_kget (hu : X.A.units + 1 < cLine) (c : Cls X.K C) (n : NoAttr X.K C f) (he : PE X e (tE X.K fe)) (hs : NoSl e) (hN : X.N[i]? = some x := by rfl) (hv : Vis X.env.scope x := by first | exact Or.inl rfl | exact Or.inr (Or.inl rfl) | exact Or.inr (Or.inr rfl))
    (hd : (x == ("__debug__" : Str)) = false := by decide) (hcd : (x == ("__classdict__" : Str)) = false := by decide) (hb : attributeBase (.Name x p) f X.env (eval (.Name x p) X.env) = eval (.Name x p) X.env := by rfl) :
    PE X (.Subscript (.Attribute (.Name x p) f apos) e pos) (tE X.K (eGet C i f fe)) := PE.imp (pe_dget hu (pe_fld (pv i hN hv hd hcd) hb) he hs) fun σ H Q h => by
  obtain ⟨Hb, δ, S, r, hr, O⟩ := h
  obtain ⟨d, hd, hr⟩ := Option.bind_eq_some_iff.mp hr
  split at hr
  · rename_i nm
    obtain ⟨kn, hk, hl⟩ := Option.bind_eq_some_iff.mp hr
    obtain ⟨a, dx, fs, kd, kvs, g1, g2, g3, g4, g5, g6⟩ := eT_of S hk
    refine ⟨_, g1, a, C, dx, fs, _, rfl, S.bs _ _ g2, c, n, g3, Hb, δ, S, _, hd, S.bs, fun v H1 s hv => ?_⟩
    obtain rfl := dp_str hv
    rcases kn_val (nm := nm) g5 g6 with ⟨e1, e2⟩ | ⟨d, v, e1, e2, e3⟩
    · rw [e1] at hl; cases hl
    · rw [e1] at hl
      cases hl
      have sx := sub_ex (H' := H1) S.bs
      exact ⟨kd, v, rfl, by rw [← e2]; exact DGet.k (k := Sum.inr nm) (s _ _ (S.bs _ _ g4)), O.go v H1 s (e3.same sx)⟩
  · cases hr
/-- sorted(o.f) -/
def eNms (C : Addr) (i : Nat) (f : Str) : En → Option PyData := fun δ => (eT C i f δ).bind fun kn => if sortedS (kn.map (·.1)) = true ∧ kn.length < 64 then some (.list (kn.map fun p => .str p.1)) else none
theorem d_knms (hcalm : X.calm = true) (hg : Gl X "sorted") (hm : X.mg "sorted" = none) (c : Cls X.K C) (n : NoAttr X.K C f) (hN : X.N[i]? = some x := by rfl) (hv : Vis X.env.scope x := by first | exact Or.inl rfl | exact Or.inr (Or.inl rfl) | exact Or.inr (Or.inr rfl))
    (hd : (x == ("__debug__" : Str)) = false := by decide) (hcd : (x == ("__classdict__" : Str)) = false := by decide) (hb : attributeBase (.Name x p) f X.env (eval (.Name x p) X.env) = eval (.Name x p) X.env := by rfl) {p2 : Pos}
    (hs : starEach [.Attribute (.Name x p) f apos] X.env = (false, eval (.Attribute (.Name x p) f apos) X.env) :: starEach [] X.env := by rfl) (hpl : (backTo pos (starEach [] X.env)).any (·.1) = false := by rfl) :
    PE X (.Call (.Name "sorted" p2) [.Attribute (.Name x p) f apos] [] pos) (tE X.K (eNms C i f)) := PE.imp (pe_callB (call_sortedD hcalm) hg hm (by decide +kernel) (pa_cons (pe_fld (pv i hN hv hd hcd) hb) pa_nil hs) (by decide) (by decide) hs hpl) fun σ H Q h => by
  obtain ⟨Hb, δ, S, r, hr, O⟩ := h
  obtain ⟨kn, hk, hr⟩ := Option.bind_eq_some_iff.mp hr
  split at hr
  · rename_i hc
    cases hr
    obtain ⟨a, dx, fs, kd, kvs, g1, g2, g3, g4, g5, g6⟩ := eT_of S hk
    refine ⟨_, g1, a, C, dx, fs, _, rfl, S.bs _ _ g2, c, n, g3, kd, kvs, kn.map (·.1), rfl, .inl (S.bs _ _ g4), by rw [g5, List.map_map]; rfl, by rw [List.length_map]; exact hc.2, fun ys q hp hs hq => ?_⟩
    rw [sorted_eqS hp hs hc.1]
    refine O.newL hq ?_
    have e : kn.map (fun p => PyData.str p.1) = (kn.map (·.1)).map PyData.str := by rw [List.map_map]; rfl
    rw [e]
    exact dall_strs
  · cases hr
end
/-! ### defs whose first parameter is a book -/
def spO (K : PySem.W.Frag) (C : Addr) (n : Nat) (G : List (Str × PyData) → List PyData → Option PyData) : Sp := fun vs H Q _ => ∃ Hb kn b ws ds, vs = b :: ws ∧ ObjAt K Hb C (bkF kn) b ∧ DpAll K Hb ws ds ∧ ds.length = n ∧ ∃ d, G kn ds = some d ∧ Ot K Hb H d Q
theorem sta_k {K : PySem.W.Frag} {Hb H : Hp} {σ : L2.St} {δ : En} {v : V} {C : Addr} {fk : List (Str × Fk)} (S : Sta K Hb H (some v :: σ) (.u :: δ)) (h : ObjAt K Hb C fk v) : Sta K Hb H (some v :: σ) (.k C fk :: δ) where
  bs := S.bs
  len := S.len
  da := fun j x e => by cases j with | zero => cases e | succ j => exact S.da (j + 1) x e
  ow := fun j x e => by cases j with | zero => cases e | succ j => exact S.ow (j + 1) x e
  dj := fun j k xs ys a e1 e2 e3 e4 => by
    cases j with
    | zero => cases e1
    | succ j =>
      cases k with
      | zero => cases e2
      | succ k => exact S.dj (j + 1) (k + 1) xs ys a e1 e2 e3 e4
  bk := fun j C' fk' e => by
    cases j with
    | zero => cases e; exact ⟨v, rfl, h⟩
    | succ j => exact S.bk (j + 1) C' fk' e
theorem stt_k {K : PySem.W.Frag} {Hb H : Hp} {N : List Str} {x : Str} {v : V} {vs : List V} {ds : List PyData} {C : Addr} {fk : List (Str × Fk)} (bs : Same Hb H) (h : DpAll K Hb vs ds) (ho : ObjAt K Hb C fk v) : Stt K Hb H Hb H (L2.start (x :: N) (v :: vs)) (.k C fk :: startD N.length ds) := by
  have e : L2.start (x :: N) (v :: vs) = some v :: L2.start N vs := by
    unfold L2.start
    simp
  have S := sta_obj (N := N) (x := x) (v := v) bs h
  rw [e] at S ⊢
  have T := stt_start (N := N) bs h
  exact ⟨sta_k S ho, T.s0, T.b0, T.bb, fun i xs a e1 e2 => by
    cases i with
    | zero => cases e1
    | succ i => exact T.fr i xs a e1 e2⟩
def runO (n : Nat) (C : Addr) (g : En → Option Res) (kn : List (Str × PyData)) (ds : List PyData) : Option PyData := outD (g (.k C (bkF kn) :: startD (n - 1) ds))
section
variable {P : Program} {w : World} {K : PySem.W.Frag} {mg : Str → Option Value} {base : Heap} {C : Addr}
theorem ok_pureO {x qual : Str} {st : Stmt} {f : Addr} {fd : FuncData} {y z : Str} {N ps : List Str} {k : Nat} {g : En → Option Res} (F : Fun K x qual st f fd) (S : FnScope (y :: N) (z :: ps) (defScope st))
    (h : ∀ (cdv : Value) (A : Around) (outer : List Env) (s : Shared) (H : Hp) (E : XK), Room k (A.deeper (envOfC qual (defScope st) s.heap.objs.size f cdv)) → PSs (cxOf CX0 P w K mg base (y :: N) qual (defScope st) f cdv A outer s H E).nox (defBody st) (tS K E0 cls0 g)) :
    FnOk P w K mg base CX0 (k + 1) f fd (z :: ps) (spO K C ps.length (runO (N.length + 1) C g)) := by
  refine F.ok S (fun vs H Q E ⟨Hb, kn, b, ws, ds, e, _, r, hn, _⟩ => by rw [e, List.length_cons, List.length_cons, r.length, hn]) fun cdv A outer s H vs Q E hr q => ⟨_, h cdv A outer s H E hr, ?_⟩
  obtain ⟨Hb, kn, b, ws, ds, rfl, ho, r, hn, d, hd, O⟩ := q
  unfold runO outD at hd
  split at hd
  · rename_i d' e
    cases hd
    exact ⟨Hb, H, Hb, _, stt_k O.bs r ho, _, e, fun v H' s hv => O.go v H' s hv⟩
  · rename_i δ' e
    cases hd
    exact ⟨Hb, H, Hb, _, stt_k O.bs r ho, _, e, fun σ' H' Hb' s S' => O.go _ H' S'.b0 .non⟩
  · cases hd
/-! ### call, names -/
def g_bcall (C : Addr) : En → Option Res :=
  sSeq (sIf (cOr (cNot (cE (eA (gN 1 F_is_call_name) (aCons (eV 1) aNil)))) (cNin C 0 "known" (eV 1))) sNo sNil) (sRet (e1 listD (eGet C 0 "known" (eV 1))))
theorem sc_bcall : FnScope ["self", "name"] ["self", "name"] (defScope (inClass (top 65) 2)) := ⟨rfl, rfl, rfl, by decide +kernel, rfl, by decide +kernel, by decide +kernel⟩
theorem ok_bcall {f : Addr} {fd : FuncData} (B : Bt K w mg) (c : BkC K C) (h_icn : FnD P w K mg base 1 "is_call_name" 1 F_is_call_name) (F : Fun K "call" "Book.call" (inClass (top 65) 2) f fd) :
    FnOk P w K mg base CX0 2 f fd ["self", "name"] (spO K C 1 (runO 2 C (g_bcall C))) :=
  ok_pureO F sc_bcall fun cdv A outer s H E hr =>
    ds_cons (ds_if (dw_or (dt_not (dt_val (d_fn h_icn (hr.mono (by decide)) (da_cons (dv 1) da_nil)))) (dw_or1 (dt_knin (hu_of hr) c.cls c.known (dv 1)))).pt (ds_one ds_no) ds_nil)
      (ds_one (ds_ret (d_listOf (by rfl) B.list (d_kget (hu_of hr) c.cls c.known (dv 1) (fun _ _ => rfl)))))
def g_bnames (C : Addr) : En → Option Res := sRet (eNms C 0 "known")
theorem sc_bnames : FnScope ["self"] ["self"] (defScope (inClass (top 65) 1)) := ⟨rfl, rfl, rfl, by decide +kernel, rfl, by decide +kernel, by decide +kernel⟩
theorem ok_bnames {f : Addr} {fd : FuncData} (B : Bt K w mg) (c : BkC K C) (F : Fun K "names" "Book.names" (inClass (top 65) 1) f fd) :
    FnOk P w K mg base CX0 2 f fd ["self"] (spO K C 0 (runO 1 C (g_bnames C))) :=
  ok_pureO (k := 1) F sc_bnames fun cdv A outer s H E hr =>
    ds_one (ds_ret (d_knms (by rfl) (by rfl) B.sorted c.cls c.known))
end
/-! ### calls of them -/
section
variable {X : Cx} {C : Addr} {i : Nat} {x m : Str} {p pos apos : Pos} {e : Expr} {es : List Expr} {fe : En → Option PyData} {ga : En → Option (List PyData)} {k n : Nat} {G : List (Str × PyData) → List PyData → Option PyData}
/-- the book in slot i -/
def eB (C : Addr) (i : Nat) (δ : En) : Option (List (Str × PyData)) := match δ[i]? with
  | some (.k C' fk) => if C' = C then (match fk.lookup ("known" : Str), fk.lookup ("call" : Str), fk.lookup ("names" : Str) with | some (.t kn), some .no, some .no => some kn | _, _, _ => none) else none
  | _ => none
theorem eB_at {C : Addr} {i : Nat} {δ : En} {kn : List (Str × PyData)} (h : δ[i]? = some (.k C (bkF kn))) : eB C i δ = some kn := by
  unfold eB
  rw [h]
  show (if C = C then _ else _) = _
  rw [if_pos rfl]
  rfl
theorem eB_of {K : PySem.W.Frag} {Hb H : Hp} {σ : L2.St} {δ : En} {kn : List (Str × PyData)} (S : Sta K Hb H σ δ) (h : eB C i δ = some kn) :
    ∃ a dx fs, σ[i]? = some (some (.ref a)) ∧ Hb a = some (.ins C dx fs) ∧ fs.lookup ("call" : Str) = none ∧ fs.lookup ("names" : Str) = none ∧ ObjAt K Hb C (bkF kn) (.ref a) := by
  unfold eB at h
  split at h
  · rename_i C' fk e
    split at h
    · rename_i ec
      subst ec
      split at h
      · rename_i kn' h1 h2 h3
        cases h
        obtain ⟨v, hv, a, dx, fs, rfl, ha, hf⟩ := S.bk _ _ _ e
        have f2 : fs.lookup ("call" : Str) = none := hf _ _ h2
        have f3 : fs.lookup ("names" : Str) = none := hf _ _ h3
        refine ⟨a, dx, fs, hv, ha, f2, f3, a, dx, fs, rfl, ha, fun f k hk => ?_⟩
        unfold bkF at hk
        by_cases e1 : f = "known"
        · subst e1
          cases hk
          exact hf _ _ h1
        · by_cases e2 : f = "call"
          · subst e2
            cases hk
            exact f2
          · by_cases e3 : f = "names"
            · subst e3
              cases hk
              exact f3
            · rw [List.lookup_cons, List.lookup_cons, List.lookup_cons, show (f == "known") = false from beq_eq_false_iff_ne.mpr e1, show (f == "call") = false from beq_eq_false_iff_ne.mpr e2, show (f == "names") = false from beq_eq_false_iff_ne.mpr e3] at hk
              cases hk
      · cases h
    · cases h
  · cases h
/-- book.call(e) -/
def eBcall (C : Addr) (i : Nat) (G : List (Str × PyData) → List PyData → Option PyData) (fe : En → Option PyData) : En → Option PyData := fun δ => (eB C i δ).bind fun kn => (fe δ).bind fun d => G kn [d]
theorem d_bcall {pl : Sem Bool} (c : BkC X.K C) (M : MtOk X.prog X.w X.K X.mg X.base CX0 k C "call" (spO X.K C 1 G)) (hr : Room k X.A) (he : PE X e (tE X.K fe)) (hN : X.N[i]? = some x := by rfl) (hv : Vis X.env.scope x := by first | exact Or.inl rfl | exact Or.inr (Or.inl rfl) | exact Or.inr (Or.inr rfl))
    (hd : (x == ("__debug__" : Str)) = false := by decide) (hcd : (x == ("__classdict__" : Str)) = false := by decide) (hst : starEach (e :: []) X.env = (false, eval e X.env) :: starEach [] X.env := by rfl) (hpl : (backTo pos (starEach [] X.env)).any (·.1) = false := by rfl)
    (ht : eval (.Call (.Attribute (.Name x p) "call" apos) (e :: []) [] pos) X.env = (do
      let ov ← eval (.Name x p) X.env
      standAt apos.atName
      let (f, first) ← holding [ov] (getMethod ov "call" pl)
      callWith pos f first (backTo pos (starEach (e :: []) X.env)) (backToKw pos (keywordEach [] X.env))) := by rfl) :
    PE X (.Call (.Attribute (.Name x p) "call" apos) [e] [] pos) (tE X.K (eBcall C i G fe)) := by
  obtain ⟨f, fd, ps, hm, F, hb⟩ := M.ex
  refine PE.imp (pe_meth (E := E0) (pl := pl) (pv i hN hv hd hcd) c.cls hm F hr hb .nil pass0 (pa_cons he pa_nil hst) hst hpl ht) fun σ H Q h => ?_
  obtain ⟨Hb, δ, S, r, hr, O⟩ := h
  obtain ⟨kn, hk, hr⟩ := Option.bind_eq_some_iff.mp hr
  obtain ⟨d, hd, hr⟩ := Option.bind_eq_some_iff.mp hr
  obtain ⟨a, dx, fs, g1, g2, g3, g4, g5⟩ := eB_of S hk
  refine ⟨_, g1, a, dx, fs, rfl, S.bs _ _ g2, g3, Hb, δ, S, d, hd, S.bs, fun v H1 s hv => ?_⟩
  have sx := sub_ex (H' := H1) S.bs
  exact ⟨_, kn, _, [v], [d], rfl, g5.same sx, .one hv, rfl, r, hr, ex_sub S.bs s, fun v' H2 s2 h2 => O.go v' H2 (s.trans s2) (by rw [ex_trans s s2] at h2; exact h2)⟩
/-- book.names() -/
def eBnms (C : Addr) (i : Nat) (G : List (Str × PyData) → List PyData → Option PyData) : En → Option PyData := fun δ => (eB C i δ).bind fun kn => G kn []
theorem d_bnames {pl : Sem Bool} (c : BkC X.K C) (M : MtOk X.prog X.w X.K X.mg X.base CX0 k C "names" (spO X.K C 0 G)) (hr : Room k X.A) (hN : X.N[i]? = some x := by rfl) (hv : Vis X.env.scope x := by first | exact Or.inl rfl | exact Or.inr (Or.inl rfl) | exact Or.inr (Or.inr rfl))
    (hd : (x == ("__debug__" : Str)) = false := by decide) (hcd : (x == ("__classdict__" : Str)) = false := by decide)
    (ht : eval (.Call (.Attribute (.Name x p) "names" apos) [] [] pos) X.env = (do
      let ov ← eval (.Name x p) X.env
      standAt apos.atName
      let (f, first) ← holding [ov] (getMethod ov "names" pl)
      callWith pos f first (backTo pos (starEach [] X.env)) (backToKw pos (keywordEach [] X.env))) := by rfl) :
    PE X (.Call (.Attribute (.Name x p) "names" apos) [] [] pos) (tE X.K (eBnms C i G)) := by
  obtain ⟨f, fd, ps, hm, F, hb⟩ := M.ex
  refine PE.imp (pe_meth0 (E := E0) (pl := pl) (pv i hN hv hd hcd) c.cls hm F hr hb .nil pass0 ht) fun σ H Q h => ?_
  obtain ⟨Hb, δ, S, r, hr, O⟩ := h
  obtain ⟨kn, hk, hr⟩ := Option.bind_eq_some_iff.mp hr
  obtain ⟨a, dx, fs, g1, g2, g3, g4, g5⟩ := eB_of S hk
  exact ⟨_, g1, a, dx, fs, rfl, S.bs _ _ g2, g4, Hb, kn, _, [], [], rfl, g5, .nil, rfl, r, hr, O⟩
/-- f(book, e, ..) -/
structure FnB (P : Program) (w : World) (K : PySem.W.Frag) (mg : Str → Option Value) (base : Heap) (k : Nat) (x : Str) (C : Addr) (n : Nat) (G : List (Str × PyData) → List PyData → Option PyData) : Prop where
  ex : ∃ f fd ps, FnOk P w K mg base CX0 k f fd ps (spO K C n G) ∧ mg x = some (.ref f) ∧ PySem.W.keepIn K (.ref f) = true ∧ Binds K fd ps []
def eFnB (C : Addr) (i n : Nat) (G : List (Str × PyData) → List PyData → Option PyData) (ga : En → Option (List PyData)) : En → Option PyData := fun δ => (eB C i δ).bind fun kn => (ga δ).bind fun ds => if ds.length = n then G kn ds else none
theorem d_fnB {y : Str} {p2 : Pos} (M : FnB X.prog X.w X.K X.mg X.base k x C n G) (hr : Room k X.A) (ha : PA X es (tA X.K ga)) (hg : Gl X x := by rfl) (hN : X.N[i]? = some y := by rfl) (hv : Vis X.env.scope y := by first | exact Or.inl rfl | exact Or.inr (Or.inl rfl) | exact Or.inr (Or.inr rfl))
    (hd : (y == ("__debug__" : Str)) = false := by decide) (hcd : (y == ("__classdict__" : Str)) = false := by decide) (hdb : (x == ("__debug__" : Str)) = false := by decide)
    (he : starEach (.Name y p2 :: es) X.env = (false, eval (.Name y p2) X.env) :: starEach es X.env := by rfl) (hpl : (backTo pos (starEach es X.env)).any (·.1) = false := by rfl) :
    PE X (.Call (.Name x p) (.Name y p2 :: es) [] pos) (tE X.K (eFnB C i n G ga)) := by
  obtain ⟨f, fd, ps, F, hm, hk, hb⟩ := M.ex
  refine PE.imp (pe_call (E := E0) F hr hg hm hk hb .nil pass0 (pa_cons (pv i hN hv hd hcd) ha he) hdb he hpl) fun σ H Q h => ?_
  obtain ⟨Hb, δ, S, r, hr, O⟩ := h
  obtain ⟨kn, hk, hr⟩ := Option.bind_eq_some_iff.mp hr
  obtain ⟨ds, hds, hr⟩ := Option.bind_eq_some_iff.mp hr
  split at hr
  · rename_i hn
    obtain ⟨a, dx, fs, g1, g2, g3, g4, g5⟩ := eB_of S hk
    refine ⟨_, g1, Hb, δ, S, ds, hds, fun vs H1 s hvs => ?_⟩
    show spO X.K C n G (V.ref a :: vs ++ []) H1 Q E0
    rw [List.append_nil]
    have sx := sub_ex (H' := H1) S.bs
    exact ⟨_, kn, _, vs, ds, rfl, g5.same sx, hvs, hn, r, hr, ex_sub S.bs s, fun v' H2 s2 h2 => O.go v' H2 (s.trans s2) (by rw [ex_trans s s2] at h2; exact h2)⟩
  · cases hr
end
end SQ
/-! ## SqRe -/
set_option Elab.async false
set_option linter.all false
set_option maxRecDepth 100000
set_option maxHeartbeats 4000000
/-! reached -/
namespace SQ
open PySem PySem.Spec L2 TL
open PyProof.Rows (envOfC)
mutual
def nkD : PyData → NestedKey
  | .int i => .num i
  | .str x => .text x
  | .tuple ds => .tup (nkDs ds)
  | _ => .none
def nkDs : List PyData → List NestedKey
  | [] => []
  | d :: ds => nkD d :: nkDs ds
end
mutual
def okK : PyData → Bool
  | .none => true
  | .int _ => true
  | .str _ => true
  | .tuple ds => okKs ds
  | _ => false
def okKs : List PyData → Bool
  | [] => true
  | d :: ds => okK d && okKs ds
end
mutual
theorem nk_data : ∀ d : PyData, okK d = true → (nkD d).data = d
  | .none, _ => rfl
  | .int _, _ => rfl
  | .str _, _ => rfl
  | .tuple ds, h => congrArg PyData.tuple (nk_datas ds (by unfold okK at h; exact h))
  | .bool _, h => by unfold okK at h; cases h
  | .list _, h => by unfold okK at h; cases h
  | .dict _, h => by unfold okK at h; cases h
theorem nk_datas : ∀ ds : List PyData, okKs ds = true → NestedKey.datas (nkDs ds) = ds
  | [], _ => rfl
  | d :: ds, h => by
    unfold okKs at h
    rw [Bool.and_eq_true] at h
    show (nkD d).data :: NestedKey.datas (nkDs ds) = _
    rw [nk_data d h.1, nk_datas ds h.2]
end
def key0 : PyData → PyData
  | .tuple (d :: _) => d
  | d => d
def keyN (r : PyData) : NestedKey := nkD (key0 r)
def okKT : PyData → Bool
  | .tuple ds => okK (.tuple ds) && decide ((nkD (.tuple ds)).depth ≤ 8)
  | _ => false
theorem okKT_of {r : PyData} (h : okKT r = true) : (nkD r).data = r ∧ (∃ l, nkD r = .tup l) ∧ (nkD r).depth ≤ 8 := by
  cases r with
  | tuple ds =>
    unfold okKT at h
    rw [Bool.and_eq_true] at h
    exact ⟨nk_data _ h.1, ⟨_, rfl⟩, of_decide_eq_true h.2⟩
  | _ => cases h
/-- one go_on: the rows behind it, none where TooMany is raised -/
def goR (Gb : List PyData → Option PyData) (calls : PyData → Option PyData) (most : Int) (place : Nat) (nm : PyData) (rows : List PyData) : Option (Option (List PyData)) :=
  if rows.length < 5000 then (calls nm).bind fun cl => match rows[place]? with
    | some (.tuple [one, .int dep, _, _]) => if noL one = true then (Gb [one, cl]).bind fun r => match r with
        | .none => some (some rows)
        | r => if okKT r = true then (if nkD r ∈ rows.map keyN then some (some rows) else if (rows.length : Int) = most then some none else some (some (rows ++ [.tuple [r, .int (dep + 1), .int place, nm]]))) else none
      else none
    | _ => none
  else none
def forR (Gb : List PyData → Option PyData) (calls : PyData → Option PyData) (most : Int) (place : Nat) : List PyData → List PyData → Option (Option (List PyData))
  | [], rows => some (some rows)
  | nm :: nms, rows => (goR Gb calls most place nm rows).bind fun o => match o with | none => some none | some rows' => forR Gb calls most place nms rows'
def whileR (Gb : List PyData → Option PyData) (calls : PyData → Option PyData) (names : List PyData) (length most : Int) : Nat → Nat → List PyData → Option (Option (List PyData))
  | 0, _, _ => none
  | n + 1, place, rows => if place < rows.length then (match rows[place]? with
      | some (.tuple [_, .int dep, _, _]) => if dep < length then (forR Gb calls most place names rows).bind fun o => match o with | none => some none | some rows' => whileR Gb calls names length most n (place + 1) rows' else some (some rows)
      | _ => none) else some (some rows)
def G_reached (Gf Gb : List PyData → Option PyData) (Gc : List (Str × PyData) → List PyData → Option PyData) (kn : List (Str × PyData)) : List PyData → Option (Except Nat PyData)
  | [fl, .list names, .int length, .int most] => if most = 0 then none else (Gf [fl]).bind fun r0 => if okKT r0 = true then
      (whileR Gb (fun nm => Gc kn [nm]) names length most 100 0 [.tuple [r0, .int 0, .none, .none]]).map fun o => match o with | none => .error 3 | some rows => .ok (.list rows)
      else none
  | _ => none
def spBX (K : PySem.W.Frag) (cls : Nat → Value) (C : Addr) (n : Nat) (G : List (Str × PyData) → List PyData → Option (Except Nat PyData)) : Sp := fun vs H Q E => ∃ Hb kn b ws ds, vs = b :: ws ∧ ObjAt K Hb C (bkF kn) b ∧ DpAll K Hb ws ds ∧ ds.length = n ∧ Same Hb H ∧
  ((∃ d, G kn ds = some (.ok d) ∧ Ot K Hb H d Q) ∨ ∃ t, G kn ds = some (.error t) ∧ ∀ H' dd, Same H H' → E (cls t) dd H')
structure RS (P : Program) (w : World) (K : PySem.W.Frag) (C : Addr) (Hb0 H0 Hb H : Hp) (σ : L2.St) (δ : En) (a rl pl : Addr) (most : Int) (rows : List PyData) : Prop where
  sta : Sta K Hb H σ δ
  so : SO P w K C Hb H a rl pl most rows (rows.map keyN)
  b0 : Same H0 H
  bb : Same Hb (ex Hb0 H0 H)
  r0 : H0 rl = none
  p0 : H0 pl = none
  self : σ[5]? = some (some (.ref a))
  u : δ[5]? = some .u
  no : ∀ (j : Nat) (xs : List PyData), δ[j]? ≠ some (.o xs)
section
variable {P : Program} {w : World} {K : PySem.W.Frag} {C : Addr} {Hb0 H0 Hb H H' : Hp} {a rl pl : Addr} {most : Int} {rows rows' : List PyData} {σ : L2.St} {δ : En}
theorem RS.grow (R : RS P w K C Hb0 H0 Hb H σ δ a rl pl most rows) (s : Same H H') : RS P w K C Hb0 H0 (ex Hb H H') H' σ δ a rl pl most rows :=
  ⟨R.sta.grow s, R.so.grow s, R.b0.trans s, ex_mono R.b0 R.bb s, R.r0, R.p0, R.self, R.u, R.no⟩
theorem RS.set (R : RS P w K C Hb0 H0 Hb H σ δ a rl pl most rows) {i : Nat} {v : V} {d : PyData} (h : Dp K Hb v d) (hi : i ≠ 5) : RS P w K C Hb0 H0 Hb H (σ.set i (some v)) (δ.set i (.d d)) a rl pl most rows :=
  ⟨R.sta.set h, R.so, R.b0, R.bb, R.r0, R.p0, by rw [List.getElem?_set_ne hi]; exact R.self, by rw [List.getElem?_set_ne hi]; exact R.u, fun j xs e => by
    rcases getElem?_set' e with ⟨_, q⟩ | ⟨_, q⟩
    · cases q
    · exact R.no j xs q⟩
theorem RS.fr (R : RS P w K C Hb0 H0 Hb H σ δ a rl pl most rows) (fr : Fr H H' rl pl) (O : SO P w K C (ex Hb H H') H' a rl pl most rows' (rows'.map keyN)) : RS P w K C Hb0 H0 (ex Hb H H') H' σ δ a rl pl most rows' := by
  have sx : Same Hb (ex Hb H H') := sub_ex R.sta.bs
  refine ⟨⟨O.bs, R.sta.len, fun j x e => ?_, fun j xs e => (R.no j xs e).elim, fun j k xs ys c e => (R.no j xs e).elim, fun j C' fk e => ?_⟩, O, fun b o e => ?_, fun b u e => ?_, R.r0, R.p0, R.self, R.u, R.no⟩
  · obtain ⟨v, h1, h2⟩ := R.sta.da j x e
    exact ⟨v, h1, h2.same sx⟩
  · obtain ⟨v, h1, h2⟩ := R.sta.bk j C' fk e
    exact ⟨v, h1, h2.same sx⟩
  · exact fr b o (R.b0 b o e) (fun q => by rw [q, R.r0] at e; cases e) (fun q => by rw [q, R.p0] at e; cases e)
  · cases q : H b with
    | some z =>
      rw [ex_old (by rw [q]; rfl)] at e
      have e2 := R.bb b u e
      cases q0 : H0 b with
      | some z0 => rw [ex_old (by rw [q0]; rfl)] at e2 ⊢; exact e2
      | none =>
        rw [ex_new q0] at e2 ⊢
        exact fr b u e2 (fun w => by rw [w, R.so.rn] at e; cases e) (fun w => by rw [w, R.so.pn] at e; cases e)
    | none =>
      rw [ex_new q] at e
      rw [ex_new (R.b0.free q)]
      exact e
/-- the rows as data, for a while -/
theorem RS.froz (R : RS P w K C Hb0 H0 Hb H σ δ a rl pl most rows) : ∃ Hf, Same Hb Hf ∧ Sta K Hf H σ (δ.set 5 (.k C (fkS most rows))) ∧ Same Hf (ex Hb0 H0 H) := by
  obtain ⟨vs, h1, h2, S⟩ := R.so.froz R.sta R.u R.self R.no
  refine ⟨_, same_upd R.so.rn, S, fun b o e => ?_⟩
  by_cases h : b = rl
  · subst h
    rw [upd_same] at e
    rw [ex_new R.r0, h1]
    exact e
  · rw [upd_ne h] at e
    exact R.bb b o e
end
end SQ
/-! ## SqRf -/
set_option Elab.async false
set_option linter.all false
set_option maxRecDepth 100000
set_option maxHeartbeats 4000000
/-! reached: its def -/
namespace SQ
open PySem PySem.Spec L2 TL
open PyProof.Rows (envOfC)
theorem eV_at {i : Nat} {δ : En} {x : PyData} (h : δ[i]? = some (.d x)) : eV i δ = some x := by
  unfold eV
  rw [h]
theorem Sta.to {K : PySem.W.Frag} {Hb Hb' H H' : Hp} {σ : L2.St} {δ : En} (S : Sta K Hb H σ δ) (no : ∀ (j : Nat) (xs : List PyData), δ[j]? ≠ some (.o xs)) (s : Same Hb Hb') (bs : Same Hb' H') : Sta K Hb' H' σ δ :=
  ⟨bs, S.len, fun j x e => by
    obtain ⟨v, h1, h2⟩ := S.da j x e
    exact ⟨v, h1, h2.same s⟩, fun j xs e => (no j xs e).elim, fun j k xs ys c e => (no j xs e).elim, fun j C' fk e => by
    obtain ⟨v, h1, h2⟩ := S.bk j C' fk e
    exact ⟨v, h1, h2.same s⟩⟩
theorem Sta.anyU {K : PySem.W.Frag} {Hb H : Hp} {σ : L2.St} {δ : En} (S : Sta K Hb H σ δ) (no : ∀ (j : Nat) (xs : List PyData), δ[j]? ≠ some (.o xs)) {i : Nat} {y : Option V} (hi : δ[i]? = some .u) : Sta K Hb H (σ.set i y) δ :=
  ⟨S.bs, by rw [List.length_set]; exact S.len, fun j x e => by
    obtain ⟨v, h1, h2⟩ := S.da j x e
    exact ⟨v, by rw [List.getElem?_set_ne (fun q => by subst q; rw [hi] at e; cases e)]; exact h1, h2⟩, fun j xs e => (no j xs e).elim, fun j k xs ys c e => (no j xs e).elim, fun j C' fk e => by
    obtain ⟨v, h1, h2⟩ := S.bk j C' fk e
    exact ⟨v, by rw [List.getElem?_set_ne (fun q => by subst q; rw [hi] at e; cases e)]; exact h1, h2⟩⟩
section
variable {P : Program} {w : World} {K : PySem.W.Frag} {mg : Str → Option Value} {base : Heap} {C CB CT : Addr} {cls : Nat → Value}
theorem sc_reached : FnScope ["book", "floor", "names", "length", "most", "search", "place", "name"] ["book", "floor", "names", "length", "most"] (defScope (top 42)) := ⟨rfl, rfl, rfl, by decide +kernel, rfl, by decide +kernel, by decide +kernel⟩
/-- what stands through the loops -/
structure DS (δ : En) (CB : Addr) (kn : List (Str × PyData)) (names : List PyData) (length : Int) (place : Nat) : Prop where
  d0 : δ[0]? = some (.k CB (bkF kn))
  d2 : δ[2]? = some (.d (.list names))
  d3 : δ[3]? = some (.d (.int length))
  d6 : δ[6]? = some (.d (.int place))
  len : 7 < δ.length
theorem ok_reached {f fI : Addr} {fd fdI : FuncData} {psI : List Str} {dvs : List V} {kws : List (Str × V)} {Gf Gb : List PyData → Option PyData} {Gc : List (Str × PyData) → List PyData → Option PyData} (B : Bt K w mg) (c : SrC K C) (bk : BkC K CB) (hT : cls 3 = .ref CT) (M : Mk K C fI) (gS : mg "Search" = some (.ref C))
    (FI : FnOk P w K mg base (L2.CX P w) 4 fI fdI psI (spSI P w K C Gf)) (bI : Binds K fdI psI []) (FG : MtOk P w K mg base (L2.CX P w) 9 C "go_on" (spG P w K C CT Gb)) (FC : MtOk P w K mg base CX0 2 CB "call" (spO K CB 1 Gc))
    (F : FunD K "reached" "reached" (defArgs (top 42)) (defBody (top 42)) (defScope (top 42)) dvs kws f fd) :
    FnOk P w K mg base (L2.CX P w) 11 f fd ["book", "floor", "names", "length", "most"] (spBX K cls CB 4 (G_reached Gf Gb Gc)) := by
  obtain ⟨fg, fdg, psg, mgo, FGo, bg⟩ := FG.ex
  refine F.ok sc_reached (fun vs H Q E ⟨Hb, kn, b, ws, ds, e, _, rr, hn, _⟩ => by rw [e, List.length_cons, rr.length, hn]; rfl) fun cdv A outer s H vs Q E hr q => ⟨_,
    pss_cons (ps_set (i := 5) sc_reached.nd (by rfl) (Or.inl rfl) (pe_make M FI (hr.mono (by decide)) (by rfl) gS bI .nil (passes_call (takes_of rfl rfl rfl rfl) fun _ _ _ _ h => h) (da_cons (dv 1) (da_cons (dv 4) da_nil))))
    (pss_cons (ps_set (i := 6) sc_reached.nd (by rfl) (Or.inl rfl) d_int)
    (pss_cons (ps_while (passes_of rfl) (dw_and (dt_cmp od_lt (dv 6) (d_len (by rfl) B.len (d_fld (i := 5) c.cls c.rows))) (dw_and1 (dt_cmp od_lt (d_ix (d_ix (d_fld (i := 5) c.cls c.rows) (dv 6)) d_int) (dv 3)))).pt
      (pss_cons (ps_for (passes_of rfl) (by rfl) (di_list (dv 2)) (dg_name (i := 7) sc_reached.nd) (pss_one (ps_expr (pe_meth (pv 5) c.cls mgo FGo (hr.mono (by decide)) bg .nil (passes_call (takes_of rfl rfl rfl rfl) fun _ _ _ _ h => h) (da_cons (dv 6) (da_cons (dv 7) (da_cons (d_bcall (i := 0) bk FC (hr.mono (by decide)) (dv 7)) da_nil)))))))
      (pss_one (ps_set (i := 6) sc_reached.nd (by rfl) (Or.inl rfl) (d_op od_addI (dv 6) d_int)))))
    (pss_one (ps_ret (d_listOf (by rfl) B.list (d_fld (i := 5) c.cls c.rows)))))), ?_⟩
  obtain ⟨Hb, kn, b, ws, ds, rfl, ho, rr, hn, bs, q⟩ := q
  -- the arguments
  have hG : ∃ (fl : PyData) (names : List PyData) (length most : Int) (r0 : PyData) (r : Option (List PyData)), ds = [fl, .list names, .int length, .int most] ∧ most ≠ 0 ∧ Gf [fl] = some r0 ∧ okKT r0 = true ∧
      whileR Gb (fun nm => Gc kn [nm]) names length most 100 0 [.tuple [r0, .int 0, .none, .none]] = some r ∧ (r = none → ∀ H', Same H H' → E (.ref CT) none H') ∧ (∀ rows, r = some rows → ∀ v H', Same H H' → Dp K (ex Hb H H') v (.list rows) → Q v H') := by
    have inv : ∀ res, G_reached Gf Gb Gc kn ds = some res → ∃ (fl : PyData) (names : List PyData) (length most : Int) (r0 : PyData) (r : Option (List PyData)), ds = [fl, .list names, .int length, .int most] ∧ most ≠ 0 ∧ Gf [fl] = some r0 ∧ okKT r0 = true ∧
        whileR Gb (fun nm => Gc kn [nm]) names length most 100 0 [.tuple [r0, .int 0, .none, .none]] = some r ∧ res = (match r with | none => .error 3 | some rows => .ok (.list rows)) := fun res h => by
      unfold G_reached at h
      split at h
      · split at h
        · cases h
        · rename_i hm
          obtain ⟨r0, h0, h⟩ := Option.bind_eq_some_iff.mp h
          split at h
          · rename_i hk
            obtain ⟨r, hr, e⟩ := Option.map_eq_some_iff.mp h
            exact ⟨_, _, _, _, r0, r, rfl, hm, h0, hk, hr, e.symm⟩
          · cases h
      · cases h
    rcases q with ⟨d, hd, O⟩ | ⟨t, ht, hE⟩
    · obtain ⟨fl, names, length, most, r0, r, h1, h2, h3, h4, h5, h6⟩ := inv _ hd
      cases r with
      | none => cases h6
      | some rows =>
        cases h6
        exact ⟨fl, names, length, most, r0, _, h1, h2, h3, h4, h5, (fun e => by cases e), fun rows' e v H' s hv => by cases e; exact O.go v H' s hv⟩
    · obtain ⟨fl, names, length, most, r0, r, h1, h2, h3, h4, h5, h6⟩ := inv _ ht
      cases r with
      | none =>
        cases h6
        refine ⟨fl, names, length, most, r0, _, h1, h2, h3, h4, h5, (fun _ H' s => ?_), fun rows' e => by cases e⟩
        rw [← hT]
        exact hE H' none s
      | some rows => cases h6
  obtain ⟨fl, names, length, most, r0, r, rfl, hm, hf, hk, hw, hE, hQ⟩ := hG
  obtain ⟨k1, ⟨l, k2⟩, k3⟩ := okKT_of hk
  have T0 : Stt K Hb H Hb H (L2.start ["book", "floor", "names", "length", "most", "search", "place", "name"] (b :: ws)) (.k CB (bkF kn) :: startD 7 [fl, .list names, .int length, .int most]) := stt_k bs rr ho
  have no0 : ∀ (j : Nat) (xs : List PyData), (Sl.k CB (bkF kn) :: startD 7 [fl, .list names, .int length, .int most])[j]? ≠ some (.o xs) := fun j xs e => by
    match j, e with
    | 0, e => cases e
    | 1, e => cases e
    | 2, e => cases e
    | 3, e => cases e
    | 4, e => cases e
    | 5, e => cases e
    | 6, e => cases e
    | 7, e => cases e
    | j + 8, e => simp [startD] at e
  match ws, rr with
  | [w1, w2, w3, w4], rr =>
  refine ⟨_, _, T0.sta, [fl, .int most], rfl, fun vs1 H1 s1 hvs1 x dx hx hdx hne => ?_⟩
  show spSI P w K C Gf (V.ref x :: (vs1 ++ [])) _ _ E
  rw [List.append_nil]
  refine ⟨H1, _, x, dx, vs1, fl, most, nkD r0, l, rfl, rfl, hx, hdx, hne, ex_sub bs s1, hvs1, by rw [k1]; exact hf, k2, k3, hm, fun H2 Hb2 rl pl s2 sb2 sx2 hrl hpl O2 => ⟨rfl, ?_⟩⟩
  have s02 := s1.trans s2
  rw [ex_trans s1 s2] at sx2
  rw [k1] at O2
  have R2 : RS P w K C Hb H Hb2 H2 ((L2.start ["book", "floor", "names", "length", "most", "search", "place", "name"] [b, w1, w2, w3, w4]).set 5 (some (.ref x))) (.k CB (bkF kn) :: startD 7 [fl, .list names, .int length, .int most]) x rl pl most [.tuple [r0, .int 0, .none, .none]] :=
    ⟨((T0.sta.grow s1).to no0 sb2 O2.bs).anyU no0 rfl, O2, s02, sx2, s1.free hrl, s1.free hpl, rfl, rfl, no0⟩
  refine ⟨_, _, R2.sta, .int 0, rfl, R2.sta.bs, fun v H3 s3 hv => ?_⟩
  have R3 := (R2.grow s3).set (i := 6) hv (by decide)
  let W : Nat → L2.St → Hp → Prop := fun m σ HH => ∃ Hb' δ place rows, RS P w K C Hb H Hb' HH σ δ x rl pl most rows ∧ DS δ CB kn names length place ∧ whileR Gb (fun nm => Gc kn [nm]) names length most m place rows = some r
  refine ⟨W, ⟨100, _, _, 0, _, R3, ⟨rfl, rfl, rfl, rfl, (by show 7 < 8; decide)⟩, hw⟩, ?_⟩
  rintro m σ4 H4 ⟨Hb4, δ4, place, rows, R4, D4, hw4⟩
  cases m with
  | zero => cases hw4
  | succ m =>
  obtain ⟨Hf, sf, Sf, sf2⟩ := R4.froz
  have l5 : 5 < δ4.length := (List.getElem?_eq_some_iff.mp R4.u).1
  have f5 : (δ4.set 5 (.k C (fkS most rows)))[5]? = some (.k C (fkS most rows)) := List.getElem?_set_self l5
  have f6 : eV 6 (δ4.set 5 (.k C (fkS most rows))) = some (.int place) := eV_at (by rw [List.getElem?_set_ne (by decide)]; exact D4.d6)
  have f3 : eV 3 (δ4.set 5 (.k C (fkS most rows))) = some (.int length) := eV_at (by rw [List.getElem?_set_ne (by decide)]; exact D4.d3)
  have fr : eF C 5 "rows" (δ4.set 5 (.k C (fkS most rows))) = some (.list rows) := eF_at f5 rfl
  have t1 : cE (e2 ltI (eV 6) (e1 lenD (eF C 5 "rows"))) (δ4.set 5 (.k C (fkS most rows))) = some (decide ((place : Int) < (rows.length : Int))) := by
    unfold cE e2 e1
    rw [f6, fr]
    rfl
  have fin : ∀ H5, Same H4 H5 → r = some rows → (tRet (tE K (e1 listD (eF C 5 "rows")))) { nx := fun _ H' => Q .non H', rt := Q } σ4 H5 := fun H5 s5 er => by
    have R5 := R4.grow s5
    obtain ⟨Hg, sg, Sg, sg2⟩ := R5.froz
    have fr5 : eF C 5 "rows" (δ4.set 5 (.k C (fkS most rows))) = some (.list rows) := eF_at f5 rfl
    refine ⟨_, _, Sg, .list rows, ?_, Sg.bs, fun v H6 s6 hv6 => ?_⟩
    · unfold e1
      rw [fr5]
      rfl
    · exact hQ rows er v H6 (R5.b0.trans s6) (hv6.same (ex_mono R5.b0 sg2 s6))
  unfold whileR at hw4
  by_cases hp : place < rows.length
  · rw [if_pos hp] at hw4
    split at hw4
    · rename_i one dep ab nb hrow
      have t2 : cE (e2 ltI (e2 ixD (e2 ixD (eF C 5 "rows") (eV 6)) (eC (.int 1))) (eV 3)) (δ4.set 5 (.k C (fkS most rows))) = some (decide (dep < length)) := by
        have e1 : ixD (.list rows) (.int place) = some (.tuple [one, .int dep, ab, nb]) := by
          show atI rows place = _
          exact atI_nat hrow
        unfold cE e2
        rw [f6, fr, f3]
        show ((((ixD (.list rows) (.int place)).bind fun x => ixD x (.int 1)).bind fun x => ltI x (.int length)).bind asB) = _
        rw [e1]
        rfl
      refine ⟨_, _, Sf, decide (dep < length), ?_, fun H5 s5 => ?_⟩
      · unfold cAnd
        rw [t1, decide_eq_true (show (place : Int) < (rows.length : Int) by omega)]
        exact t2
      by_cases hd : dep < length
      · rw [if_pos hd] at hw4
        obtain ⟨o, ho4, hw5⟩ := Option.bind_eq_some_iff.mp hw4
        rw [if_pos (decide_eq_true hd)]
        have R5 := R4.grow s5
        refine ⟨fun σ' H' => W m σ' H', fun σ' H' q => ⟨m, Nat.lt_succ_self m, q⟩, ?_⟩
        refine ⟨_, δ4, R5.sta, names, ?_, fun J H6 s6 Wk => ?_⟩
        · show (eV 2 δ4).bind lsD = some names
          rw [eV_at D4.d2]
          rfl
        have R6 := R5.grow s6
        refine ⟨fun i k σ HH => k = names.length - i ∧ i ≤ names.length ∧ ∃ Hb' δ rows', Same (ex (ex Hb4 H4 H5) H5 H6) Hb' ∧ RS P w K C Hb H Hb' HH σ δ x rl pl most rows' ∧ DS δ CB kn names length place ∧ forR Gb (fun nm => Gc kn [nm]) most place (names.drop i) rows' = some o,
          ⟨names.length, by simp, Nat.zero_le _, _, δ4, rows, Same.refl _, R6, D4, ho4⟩, ?_⟩
        rintro i k σ7 H7 ⟨rfl, hi, Hb7, δ7, rows7, s7, R7, D7, h7⟩
        by_cases hlt : i < names.length
        · refine .inr ⟨Wk.go i Hb7 H7 s7 R7.sta.bs hlt, fun σ HH => i + 1 ≤ names.length ∧ ∃ Hb' δ rows', Same Hb7 Hb' ∧ RS P w K C Hb H Hb' HH σ δ x rl pl most rows' ∧ DS δ CB kn names length place ∧ forR Gb (fun nm => Gc kn [nm]) most place (names.drop (i + 1)) rows' = some o,
            fun σ' H' ⟨g1, Hb', δ', rows', g2, g3, g4, g5⟩ => ⟨names.length - (i + 1), by omega, rfl, g1, Hb', δ', rows', s7.trans g2, g3, g4, g5⟩, fun y H8 yy => ?_⟩
          obtain ⟨d, hd8, sy, hy⟩ := Wk.yld i Hb7 H7 y H8 s7 R7.sta.bs hlt yy
          have hdrop : names.drop i = d :: names.drop (i + 1) := by
            rw [List.drop_eq_getElem_cons hlt]
            rw [List.getElem?_eq_getElem hlt] at hd8
            rw [Option.some.inj hd8]
          rw [hdrop] at h7
          have h7' : ((goR Gb (fun nm => Gc kn [nm]) most place d rows7).bind fun o => match o with | none => some none | some rows' => forR Gb (fun nm => Gc kn [nm]) most place (names.drop (i + 1)) rows') = some o := h7
          obtain ⟨o1, ho1, h8⟩ := Option.bind_eq_some_iff.mp h7'
          have R8 := R7.grow sy
          refine ⟨_, d, [d], R8.sta.bs, hy, rfl, fun vw hvw => ?_⟩
          match vw, hvw with
          | [v8], .cons hv8 .nil =>
          have R9 := R8.set (i := 7) hv8 (by decide)
          have l7 : 7 < δ7.length := D7.len
          have D9 : DS (δ7.set 7 (.d d)) CB kn names length place := ⟨by rw [List.getElem?_set_ne (by decide)]; exact D7.d0, by rw [List.getElem?_set_ne (by decide)]; exact D7.d2, by rw [List.getElem?_set_ne (by decide)]; exact D7.d3, by rw [List.getElem?_set_ne (by decide)]; exact D7.d6, by rw [List.length_set]; exact l7⟩
          have f7 : eV 7 (δ7.set 7 (.d d)) = some d := eV_at (List.getElem?_set_self l7)
          unfold goR at ho1
          split at ho1
          · rename_i hz
            obtain ⟨cl, hcl, ho1⟩ := Option.bind_eq_some_iff.mp ho1
            split at ho1
            · rename_i one7 dep7 ab7 nb7 hrow7
              split at ho1
              · rename_i hno
                obtain ⟨r1, hr1, ho1⟩ := Option.bind_eq_some_iff.mp ho1
                obtain ⟨dx9, fs9, o1', o2', o3', o4', o5', o6'⟩ := R9.so.ob
                refine ⟨_, R9.self, x, dx9, fs9, rfl, R9.so.bs _ _ o1', o6', _, _, R9.sta, [.int place, d, cl], ?_, fun vs9 H9 s9 hvs9 => ?_⟩
                · show ((eV 6 (δ7.set 7 (.d d))).bind fun a => (((eV 7 (δ7.set 7 (.d d))).bind fun a2 => (((eBcall CB 0 Gc (eV 7) (δ7.set 7 (.d d))).bind fun a3 => some [a3]).bind fun xs => some (a2 :: xs))).bind fun xs => some (a :: xs))) = _
                  have eb : eBcall CB 0 Gc (eV 7) (δ7.set 7 (.d d)) = some cl := by
                    unfold eBcall
                    rw [eB_at D9.d0, f7]
                    exact hcl
                  rw [eV_at D9.d6, f7, eb]
                  rfl
                show spG P w K C CT Gb (V.ref x :: (vs9 ++ [])) H9 _ E
                rw [List.append_nil]
                have R10 := R9.grow s9
                have sb10 : Same Hb7 (ex (ex Hb7 H7 H8) H8 H9) := (sub_ex R7.sta.bs).trans (sub_ex R8.sta.bs)
                have nxt : ∀ rows', o1 = some rows' → ∀ Hb' H', Same Hb7 Hb' → RS P w K C Hb H Hb' H' _ _ x rl pl most rows' → i + 1 ≤ names.length ∧ ∃ Hb' δ rows', Same Hb7 Hb' ∧ RS P w K C Hb H Hb' H' ((σ7).set 7 (some v8)) δ x rl pl most rows' ∧ DS δ CB kn names length place ∧ forR Gb (fun nm => Gc kn [nm]) most place (names.drop (i + 1)) rows' = some o := fun rows' e Hb' H' sb R => ⟨hlt, Hb', δ7.set 7 (.d d), rows', sb, R, D9, by rw [e] at h8; exact h8⟩
                refine ⟨_, x, rl, pl, most, rows7, _, vs9, place, d, cl, one7, ab7, nb7, r1, dep7, rfl, R10.so, hvs9, hrow7, hno, hz, by rw [List.length_map]; exact hz, hr1, ?_⟩
                by_cases hn1 : r1 = .none
                · subst hn1
                  cases ho1
                  exact .inl ⟨rfl, fun v H' s' => nxt _ rfl _ _ (sb10.trans (sub_ex R10.so.bs)) (R10.grow s')⟩
                · have ho2 : (if okKT r1 = true then (if nkD r1 ∈ rows7.map keyN then some (some rows7) else if (rows7.length : Int) = most then some none else some (some (rows7 ++ [.tuple [r1, .int (dep7 + 1), .int place, d]]))) else none) = some o1 := by
                    cases r1 with
                    | none => exact absurd rfl hn1
                    | _ => exact ho1
                  split at ho2
                  · rename_i hkt
                    obtain ⟨q1, ⟨l', q2⟩, q3⟩ := okKT_of hkt
                    refine .inr ⟨nkD r1, l', q1.symm, q2, q3, ?_⟩
                    split at ho2
                    · rename_i hmem
                      cases ho2
                      exact .inl ⟨hmem, fun v H' s' => nxt _ rfl _ _ (sb10.trans (sub_ex R10.so.bs)) (R10.grow s')⟩
                    · rename_i hmem
                      refine .inr ⟨hmem, fun hne v H' fr' O' => ?_, fun he H' s' => ?_⟩
                      · rw [if_neg hne] at ho2
                        cases ho2
                        rw [q1] at O'
                        refine nxt _ rfl _ _ (sb10.trans (sub_ex R10.so.bs)) (R10.fr fr' ?_)
                        rw [List.map_append]
                        exact O'
                      · rw [if_pos he] at ho2
                        cases ho2
                        have h8' : (some none : Option (Option (List PyData))) = some o := h8
                        cases h8'
                        have h9 : (some none : Option (Option (List PyData))) = some r := hw5
                        cases h9
                        exact hE rfl H' (R10.b0.trans s')
                  · cases ho2
              · cases ho1
            · cases ho1
          · cases ho1
        · have e : i = names.length := by omega
          subst e
          rw [List.drop_length] at h7
          cases h7
          refine .inl ⟨Wk.stop Hb7 H7 s7 R7.sta.bs, ?_⟩
          refine ⟨_, δ7, R7.sta, .int (place + 1), ?_, R7.sta.bs, fun v8 H8 s8 hv8 => ?_⟩
          · unfold e2
            rw [eV_at D7.d6]
            rfl
          · have R8 := (R7.grow s8).set (i := 6) hv8 (by decide)
            have l6 : 6 < δ7.length := (List.getElem?_eq_some_iff.mp D7.d6).1
            exact ⟨_, _, place + 1, rows7, R8, ⟨by rw [List.getElem?_set_ne (by decide)]; exact D7.d0, by rw [List.getElem?_set_ne (by decide)]; exact D7.d2, by rw [List.getElem?_set_ne (by decide)]; exact D7.d3, by rw [List.getElem?_set_self l6]; rfl, by rw [List.length_set]; exact D7.len⟩, hw5⟩
      · rw [if_neg hd] at hw4
        rw [if_neg (by rw [decide_eq_false hd]; exact Bool.false_ne_true)]
        exact fin H5 s5 (Option.some.inj hw4).symm
    · cases hw4
  · rw [if_neg hp] at hw4
    refine ⟨_, _, Sf, false, ?_, fun H5 s5 => ?_⟩
    · unfold cAnd
      rw [t1, decide_eq_false (show ¬ (place : Int) < (rows.length : Int) by omega)]
      rfl
    · exact fin H5 s5 (Option.some.inj hw4).symm
end
end SQ
/-! ## SqLw -/
set_option Elab.async false
set_option linter.all false
set_option maxRecDepth 100000
set_option maxHeartbeats 4000000
/-! further rules, for the law's own defs -/
namespace SQ
open PySem PySem.Spec L2 TL
open PyProof.Rows (envOfC)
section
variable {X : Cx} {E : XK} {cls : Nat → Value} {a b c e : Expr} {es : List Expr} {fa fb fe : En → Option PyData} {ca : En → Option Bool} {pos p p1 p2 : Pos} {i j : Nat} {x y : Str}
/-- len of an own list -/
def eLenO (i : Nat) : En → Option PyData := fun δ => match δ[i]? with | some (.o xs) => some (.int xs.length) | _ => none
theorem d_lenO (hg : Gl X "len") (hm : X.mg "len" = none) (hN : X.N[i]? = some x := by rfl) (hv : Vis X.env.scope x := by first | exact Or.inl rfl | exact Or.inr (Or.inl rfl) | exact Or.inr (Or.inr rfl))
    (hd : (x == ("__debug__" : Str)) = false := by decide) (hcd : (x == ("__classdict__" : Str)) = false := by decide) (hs : starEach ((.Name x p1) :: []) X.env = (false, eval (.Name x p1) X.env) :: starEach [] X.env := by rfl) (hpl : (backTo pos (starEach [] X.env)).any (·.1) = false := by rfl) :
    PE X (.Call (.Name "len" p) [.Name x p1] [] pos) (tE X.K (eLenO i)) := PE.imp (pe_callB (call_len_seq) hg hm boot_len (pa_cons (pv i hN hv hd hcd) pa_nil hs) (by decide) (by decide) hs hpl) fun σ H Q h => by
  obtain ⟨Hb, δ, S, d, hd, O⟩ := h
  unfold eLenO at hd
  split at hd
  · rename_i xs e
    cases hd
    obtain ⟨q, vs, h1, h2, h3, h4⟩ := S.ow _ _ e
    rw [← h4.length] at O
    exact ⟨_, h1, q, vs, rfl, .inl (SqL.of h3), O.now (.int _)⟩
  · cases hd
/-- a test that reads an own list as data -/
def cFrz (i : Nat) (c : En → Option Bool) : En → Option Bool := fun δ => match δ[i]? with | some (.o xs) => c (δ.set i (.d (.list xs))) | _ => none
theorem Sta.stt {K : PySem.W.Frag} {Hb H : Hp} {σ : L2.St} {δ : En} (S : Sta K Hb H σ δ) : Stt K Hb Hb Hb H σ δ :=
  ⟨S, Same.refl _, S.bs, by rw [ex_self S.bs]; exact S.bs, fun i xs a e1 e2 => by
    obtain ⟨a', vs, h1, h2, _⟩ := S.ow i xs e1
    rw [e2] at h1
    cases h1
    exact h2⟩
theorem dt_frz (i : Nat) (h : PT X e (tT X.K ca)) : PT X e (tT X.K (cFrz i ca)) := PT.imp h fun σ H Q ⟨Hb, δ, S, r, hr, O⟩ => by
  unfold cFrz at hr
  split at hr
  · rename_i xs e
    obtain ⟨Hb', s, S'⟩ := S.stt.freeze e
    exact ⟨Hb', _, S'.sta, r, hr, O⟩
  · cases hr
/-- not in a list of data -/
def ninG (x y : PyData) : Option PyData := match y with
  | .list ds => if SeqAt.shaped x = true ∧ SeqAt.shaped (.list ds) = true then some (.bool (!ds.any fun z => PyData.eqv z x)) else none
  | _ => none
theorem od_ninG (hu : X.A.units + 65 < cLine) : OpD X (compareOp .NotIn) ninG := ⟨_, op_notInD hu, fun Hb H x y dx dy e Q h1 h2 ho O => by
  unfold ninG at ho
  split at ho
  · split at ho
    · rename_i c
      cases ho
      exact ⟨_, _, h1.same O.bs, h2.same O.bs, c.1, c.2, O.now (.bl _)⟩
    · cases ho
  · cases ho⟩
/-- x = x + [..], x an own list -/
def sCatO (i : Nat) (ga : En → Option (List PyData)) : En → Option Res := fun δ => match δ[i]? with
  | some (.o xs) => (ga δ).bind fun ds => if xs.length + ds.length ≤ 1000 then some (.nx (δ.set i (.o (xs ++ ds)))) else none
  | _ => none
theorem ds_catO {ga : En → Option (List PyData)} {py : Pos} (hN : X.N.Nodup) (ha : PA X es (tA X.K ga)) (hi : X.N[i]? = some x := by rfl) (hx : Loc X.env.scope x := by first | exact Or.inl rfl | exact Or.inr rfl) (hv : Vis X.env.scope x := by first | exact Or.inl rfl | exact Or.inr (Or.inl rfl) | exact Or.inr (Or.inr rfl))
    (hd : (x == ("__debug__" : Str)) = false := by decide) (hcd : (x == ("__classdict__" : Str)) = false := by decide) {p3 : Pos}
    (hs : swapsWith (.BinOp (.Name x p1) .Add (.List es p2) p3) (some (.Name x py)) pos.line X.env = pure false := by rfl) (hf : X.fn x = true ∨ X.env.scope.names.lookup x = some .local := by first | exact .inl rfl | exact .inr rfl | assumption) :
    PS X (.Assign [.Name x py] (.BinOp (.Name x p1) .Add (.List es p2) p3) pos) (tS X.K E cls (sCatO i ga)) := PS.imp (ps_set hN hi hx (pe_op op_cat (pv i hi hv hd hcd) (pe_lst ha)) hs hf) fun D σ H ⟨Hb0, H0, Hb, δ, S, r, hr, P⟩ => by
  unfold sCatO at hr
  split at hr
  · rename_i xs e
    obtain ⟨ds, hds, hr⟩ := Option.bind_eq_some_iff.mp hr
    split at hr
    · rename_i hz
      cases hr
      obtain ⟨q, vs, h1, h2, h3, h4⟩ := S.sta.ow _ _ e
      have z1 : ∀ {n : Nat}, n ≤ 1000 → n ≤ sizeLine := fun {n} h => by rw [sizeLine_eq]; omega
      refine ⟨_, h1, Hb, δ, S.sta, ds, hds, fun ws H1 s hws => ⟨by rw [hws.length]; exact z1 (by omega), fun p hp => ?_⟩⟩
      have S1 := S.grow s
      have nq : q ≠ p := fun e2 => by
        have := s _ _ h3
        rw [e2, hp] at this; cases this
      refine ⟨q, p, vs, ws, rfl, rfl, by rw [upd_ne nq]; exact s _ _ h3, upd_same, by rw [h4.length, hws.length]; exact z1 hz, fun p2 hp2 => ?_⟩
      have sp : Same H1 (upd H1 p (.lst ws)) := same_upd hp
      have S2 := S1.grow sp
      refine P _ _ _ ((sub_ex S.bs).trans (sub_ex S1.bs)) (S2.own hp2 ?_)
      have sx : Same Hb (ex (ex Hb H H1) H1 (upd H1 p (.lst ws))) := (sub_ex S.bs).trans (sub_ex S1.bs)
      exact (h4.same sx).append (hws.same (sub_ex S1.bs))
    · cases hr
  · cases hr
/-- text * int -/
def repS (x : Str) (n : Nat) : Str := ⟨(List.replicate n x.cps).foldl (· ++ ·) #[]⟩
def mulS : PyData → PyData → Option PyData | .str x, .int n => if 2 ≤ n ∧ n ≤ 100 ∧ 1 ≤ x.length ∧ x.length ≤ 100 ∧ (repS x n.toNat).length ≤ 1000 then some (.str (repS x n.toNat)) else none | _, _ => none
theorem op_mulStr : OpR X (binaryOp .Mult) (fun x y H Q => ∃ (z : Str) (n : Int), x = .str z ∧ y = .int n ∧ (2 ≤ n ∧ n ≤ 100 ∧ 1 ≤ z.length ∧ z.length ≤ 100 ∧ (repS z n.toNat).length ≤ 1000) ∧ Q (.str (repS z n.toNat)) H) := by
  intro pins s σ H x y v u Q I rx ry h
  obtain ⟨z, n, rfl, rfl, ⟨h1, h2, h3, h4, h5⟩, q⟩ := h
  obtain ⟨t, rfl⟩ := rx
  obtain ⟨t', rfl⟩ := ry
  have n1 : ¬ n < 1 := by omega
  have n2 : (n == 1 || z.length == 0) = false := by
    rw [Bool.or_eq_false_iff]
    exact ⟨beq_eq_false_iff_ne.mpr (by omega), beq_eq_false_iff_ne.mpr (by omega)⟩
  have hlen : z.length * n.toNat ≤ 10000 := by
    have : n.toNat ≤ 100 := by omega
    calc z.length * n.toNat ≤ 100 * 100 := Nat.mul_le_mul h4 this
      _ = 10000 := rfl
  refine PySem.P.mul_str (by rw [decide_eq_false (by omega), decide_eq_false (by omega)]; rfl) (fun _ _ => ?_) (fun _ _ => ?_) ?_
  · have : (100 : Int) ≤ (2 ^ 63 - 1) / n := Int.le_ediv_of_mul_le (by omega) (by omega)
    omega
  · unfold Builtin.Str.tooLong
    rw [sizeLine_eq]
    exact decide_eq_false (by omega)
  · rw [if_neg n1, if_neg (by rw [n2]; exact Bool.false_ne_true)]
    exact ⟨by rw [sizeLine_eq]; show (repS z n.toNat).length ≤ _; omega, ⟨.str (repS z n.toNat), H, I.tok _, ⟨_, rfl⟩, q⟩⟩
theorem od_mulS : OpD X (binaryOp .Mult) mulS := ⟨_, op_mulStr, fun Hb H x y dx dy e Q h1 h2 ho O => by
  unfold mulS at ho
  split at ho
  · split at ho
    · rename_i c
      cases ho
      exact ⟨_, _, dp_str h1, dp_int h2, c, O.now (.str _)⟩
    · cases ho
  · cases ho⟩
/-- z.partition(y) -/
def partD : PyData → PyData → Option PyData
  | .str z, .str y => if (y.length == 0) = false ∧ z.length ≤ 1000 then some (.tuple [.str (Txt.partition z y).1, .str (Txt.partition z y).2.1, .str (Txt.partition z y).2.2]) else none
  | _, _ => none
theorem d_part {apos : Pos} (ha : PE X a (tE X.K fa)) (hb : PE X b (tE X.K fb)) (hs : starEach [b] X.env = [(false, eval b X.env)] := by rfl) (hbase : attributeBase a "partition" X.env (eval a X.env) = eval a X.env := by rfl) (hline : (apos.endLine == pos.line) = true := by rfl) :
    PE X (.Call (.Attribute a "partition" apos) [b] [] pos) (tE X.K (e2 partD fa fb)) := PE.imp (pe_partition ha hb hs hbase hline) fun σ H Q h => by
  obtain ⟨Hb, δ, S, d, hd, O⟩ := tE_seq (f := fa) (k := fun δ x => (fb δ).bind fun y => partD x y) h
  refine ⟨Hb, δ, S, d, hd, O.bs, fun v H1 s hv => ?_⟩
  obtain ⟨Hb1, δ1, d1, S1, h1, e, he, O1⟩ := O.go v H1 s hv
  obtain ⟨d2, hd2, ho⟩ := Option.bind_eq_some_iff.mp he
  unfold partD at ho
  split at ho
  · split at ho
    · rename_i x y c
      cases ho
      refine ⟨⟨_, dp_str h1⟩, Hb1, δ1, S1, _, hd2, S1.bs, fun v2 H2 s2 hv2 => ?_⟩
      have O2 : Ot X.K (ex Hb1 H1 H2) H2 _ Q := ⟨ex_sub S1.bs s2, fun v' H3 s3 h3 => O1.go v' H3 (s2.trans s3) (by rw [ex_trans s2 s3] at h3; exact h3)⟩
      exact ⟨x, y, dp_str h1, congrArg (fun q => [q]) (dp_str hv2), c.1, by rw [sizeLine_eq]; omega, fun p hp => O2.newT hp (.cons (.str _) (.cons (.str _) (.cons (.str _) .nil)))⟩
    · cases ho
  · cases ho
theorem tS_step {K : PySem.W.Frag} {Hb0 H0 Hb H : Hp} {σ : L2.St} {δ δ' : En} {g : En → Option Res} {D : Ends} (S : Stt K Hb0 H0 Hb H σ δ) (hg : g δ = some (.nx δ')) (k : ∀ σ' H' Hb', Same Hb Hb' → Stt K Hb0 H0 Hb' H' σ' δ' → D.nx σ' H') : tS K E cls g D σ H :=
  ⟨Hb0, H0, Hb, δ, S, _, hg, k⟩
end
end SQ
/-! ## SqLt -/
set_option Elab.async false
set_option linter.all false
set_option maxRecDepth 100000
set_option maxHeartbeats 4000000
set_option pp.maxSteps 600
/-! _law_texts (printed by gen2.py) -/
namespace SQ
open PySem PySem.Spec L2 TL
open PyProof.Rows (envOfC)
def txts : List (Str × Str) := [("about", "> turn about"), ("lt", "> turn left"), ("walk", "at 2 0 none > ahead 2"), ("swap", "at 0 2 same > right 2 ; at 0 -2 same > left 2 ; > stay"), ("cross", "at 6 0 about > ahead 6 ; at 2 0 about > ahead 2 ; > stay"), ("hin", "head and inward > ahead 2 ; > stay"), ("hout", "head and inner 1 > back 2 ; > stay"), ("face", "lefts > turn right ; > turn left"), ("pass", "at 2 0 any and not at 4 0 any > ahead 4 ; at 2 0 none > ahead 2 ; > stay"), ("side", "side and at 0 2 same > right 1 ahead 2 left 1 ; > stay"), ("ring", "outward > turn left ahead 2 ; inward > right 2 turn left ; > turn left"), ("back", "inner 3 and not inner 1 > back 2 ; > turn about"), ("meet", "at 0 2 partner > right 1 ; at 0 -2 partner > left 1 turn left ; > stay"), ("own", "at 0 2 partner > turn left ; at 0 -2 partner > turn right ; > stay"), ("off", "outward > ahead 9 ahead 9 ahead 9 ahead 9 ahead 9 ahead 9 ahead 9 ahead 9 ; > turn about")]
def some0 : List Str := ["about:> turn about", "lt:> turn left", "walk:at 2 0 none > ahead 2", "swap:at 0 2 same > right 2 ; at 0 -2 same > left 2 ; > stay", "cross:at 6 0 about > ahead 6 ; at 2 0 about > ahead 2 ; > stay", "hin:head and inward > ahead 2 ; > stay", "hout:head and inner 1 > back 2 ; > stay", "face:lefts > turn right ; > turn left", "pass:at 2 0 any and not at 4 0 any > ahead 4 ; at 2 0 none > ahead 2 ; > stay", "side:side and at 0 2 same > right 1 ahead 2 left 1 ; > stay", "ring:outward > turn left ahead 2 ; inward > right 2 turn left ; > turn left", "back:inner 3 and not inner 1 > back 2 ; > turn about", "meet:at 0 2 partner > right 1 ; at 0 -2 partner > left 1 turn left ; > stay", "own:at 0 2 partner > turn left ; at 0 -2 partner > turn right ; > stay", "off:outward > ahead 9 ahead 9 ahead 9 ahead 9 ahead 9 ahead 9 ahead 9 ahead 9 ; > turn about"]
def dT (n : Nat) : En := .o ((some0.take n).map .str) :: List.replicate 5 .u
theorem some0_parts : some0.map (fun z => ((Txt.partition z ":").1, (Txt.partition z ":").2.2)) = txts := by decide +kernel
theorem some0_ok : some0.all (fun z => decide (z.length ≤ 1000)) = true := by decide +kernel
def entT (p : Str × Str) : Key × V := (Sum.inr p.1, V.str p.2)
def spLT : Sp := fun vs H Q _ => vs = [] ∧ ∀ H' d, Same H H' → H d = none → H' d = some (.dK (txts.map entT)) → Q (.ref d) H'
section
variable {K : PySem.W.Frag} {Hb0 H0 Hb H : Hp} {σ : L2.St} {δ : En} {D : Addr} {o : HO}
theorem Stt.hidU (S : Stt K Hb0 H0 Hb H σ δ) (no : ∀ (j : Nat) (xs : List PyData), δ[j]? ≠ some (.o xs)) (hb : Hb D = none) (h0 : H0 D = none) : Stt K Hb0 H0 Hb (upd H D o) σ δ :=
  ⟨S.sta.hid hb (fun i xs e => (no i xs e).elim), S.s0, fun b u e => by
    have hne : b ≠ D := fun q => by rw [q, h0] at e; cases e
    rw [upd_ne hne]; exact S.b0 b u e, fun b u e => by
    have e2 := S.bb b u e
    have hne : b ≠ D := fun q => by rw [q, hb] at e; cases e
    cases q0 : H0 b with
    | some z0 => rw [ex_old (by rw [q0]; rfl)] at e2 ⊢; exact e2
    | none => rw [ex_new q0] at e2 ⊢; rw [upd_ne hne]; exact e2, fun i xs a e1 => (no i xs e1).elim⟩
theorem Stt.anyU (S : Stt K Hb0 H0 Hb H σ δ) (no : ∀ (j : Nat) (xs : List PyData), δ[j]? ≠ some (.o xs)) {i : Nat} {y : Option V} (hi : δ[i]? = some .u) : Stt K Hb0 H0 Hb H (σ.set i y) δ :=
  ⟨S.sta.anyU no hi, S.s0, S.b0, S.bb, fun j xs a e1 => (no j xs e1).elim⟩
end
section
variable {P : Program} {w : World} {K : PySem.W.Frag} {mg : Str → Option Value} {base : Heap}
theorem sc_texts : FnScope ["_law_some", "_law_texts_here", "_law_one", "_law_name", "_law_mark", "_law_text"] [] (defScope (top 68)) := ⟨rfl, rfl, rfl, by decide +kernel, rfl, by decide +kernel, by decide +kernel⟩
theorem valV_no {i : Nat} {x : Str} : ∀ {l : List (Str × Str)}, (l.any fun p => p.1 == x) = false → valV (l.map entT) (Sum.inr x) = none
  | [], _ => rfl
  | p :: l, h => by
    rw [List.any_cons, Bool.or_eq_false_iff] at h
    have e : valV (entT p :: l.map entT) (Sum.inr x) = valV (l.map entT) (Sum.inr x) := valV_neg fun q => by
      have h1 := h.1
      rw [show p.1 = x from Sum.inr.inj q, beq_self_eq_true] at h1
      cases h1
    exact e.trans (valV_no (i := i) h.2)
theorem txts_fresh : ∀ i, i < 15 → ((txts.take i).any fun p => p.1 == (txts.getD i ("", "")).1) = false := by decide +kernel
theorem texts_end {X : Cx} {H0 Hb H : Hp} {σ : L2.St} {δ : En} {Q : VK} (hu : X.A.units + 1 < cLine) (T : Stt X.K H0 H0 Hb H σ δ) (h0 : δ[0]? = some (.d (.list (some0.map .str)))) (h1 : δ[1]? = some .u) (hl : δ.length = 6) (no : ∀ (j : Nat) (xs : List PyData), δ[j]? ≠ some (.o xs))
    (q : ∀ H' d, Same H0 H' → H0 d = none → H' d = some (.dK (txts.map entT)) → Q (.ref d) H') :
    tSeq (tAsg tDNewK (gName 1)) (tSeq (tFor (tI X.K (iB (eV 0) lsD)) (gD X.K (.nm 2)) (tSeq (tAsg (tE X.K (e2 partD (eV 2) (eC (.str ":")))) (gD X.K (.tp [3, 4, 5]))) (sDPut (tVar 1) (tVar 3) (tVar 5)))) (tRet (tVar 1))) { nx := fun _ H' => Q .non H', rt := Q } σ H := by
  intro p hp
  have hbp : Hb p = none := T.bs.free hp
  have h0p : H0 p = none := T.b0.free hp
  have T1 : Stt X.K H0 H0 Hb (upd H p (.dK [])) (σ.set 1 (some (.ref p))) δ := (T.anyU no h1).hidU no hbp h0p
  have lσ : (σ.set 1 (some (.ref p))).length = 6 := by rw [T1.sta.len]; exact hl
  refine ⟨_, _, T1.sta, some0.map .str, by show (eV 0 δ).bind lsD = _; rw [eV_at h0]; rfl, fun J H2 s2 Wk => ?_⟩
  have T2 := T1.grow s2
  have b2p : ex Hb (upd H p (.dK [])) H2 p = none := by rw [ex_old (by rw [upd_same]; rfl)]; exact hbp
  have n15 : (some0.map PyData.str).length = 15 := rfl
  refine ⟨fun i m σ HH => m = 15 - i ∧ i ≤ 15 ∧ ∃ Hb' δ', Same (ex Hb (upd H p (.dK [])) H2) Hb' ∧ Hb' p = none ∧ Stt X.K H0 H0 Hb' HH σ δ' ∧ HH p = some (.dK ((txts.take i).map entT)) ∧ σ[1]? = some (some (.ref p)) ∧ δ'.length = 6 ∧ (∀ (j : Nat) (xs : List PyData), δ'[j]? ≠ some (.o xs)) ∧ δ'[1]? = some .u,
    ⟨15, by simp, by simp, _, δ, Same.refl _, b2p, T2, s2 _ _ upd_same, by rw [List.getElem?_set_self (by rw [List.length_set] at lσ; omega)], hl, no, h1⟩, ?_⟩
  rintro i m σ3 H3 ⟨rfl, hi, B3, δ3, s3, b3, T3, e3, g3, l3, no3, u3⟩
  by_cases hlt : i < 15
  · refine .inr ⟨Wk.go i B3 H3 s3 T3.bs (by rw [n15]; exact hlt), fun σ HH => i + 1 ≤ 15 ∧ ∃ Hb' δ', Same B3 Hb' ∧ Hb' p = none ∧ Stt X.K H0 H0 Hb' HH σ δ' ∧ HH p = some (.dK ((txts.take (i + 1)).map entT)) ∧ σ[1]? = some (some (.ref p)) ∧ δ'.length = 6 ∧ (∀ (j : Nat) (xs : List PyData), δ'[j]? ≠ some (.o xs)) ∧ δ'[1]? = some .u,
      fun σ' H' ⟨a1, Hb', δ', a2, a3⟩ => ⟨15 - (i + 1), by omega, rfl, a1, Hb', δ', s3.trans a2, a3⟩, fun y H4 yy => ?_⟩
    obtain ⟨d, hd, sy, hy⟩ := Wk.yld i B3 H3 y H4 s3 T3.bs (by rw [n15]; exact hlt) yy
    rw [List.getElem?_map] at hd
    obtain ⟨z, hz, rfl⟩ := Option.map_eq_some_iff.mp hd
    have hzl : z.length ≤ 1000 := of_decide_eq_true (List.all_eq_true.mp some0_ok z (List.mem_of_getElem? hz))
    have hpt : txts[i]? = some ((Txt.partition z ":").1, (Txt.partition z ":").2.2) := by rw [← some0_parts, List.getElem?_map, hz]; rfl
    have T4 := T3.grow sy
    refine ⟨_, .str z, [.str z], T4.bs, hy, rfl, fun ws hws => ?_⟩
    match ws, hws with
    | [v], .cons hv .nil =>
    have T5 := T4.set (i := 2) hv
    have l5 : (δ3.set 2 (.d (.str z))).length = 6 := by rw [List.length_set]; exact l3
    have no5 : ∀ (j : Nat) (xs : List PyData), (δ3.set 2 (.d (.str z)))[j]? ≠ some (.o xs) := fun j xs e => by
      rcases getElem?_set' e with ⟨_, q⟩ | ⟨_, q⟩
      · cases q
      · exact no3 j xs q
    refine ⟨_, _, T5.sta, .tuple [.str (Txt.partition z ":").1, .str (Txt.partition z ":").2.1, .str (Txt.partition z ":").2.2], ?_, T5.bs, fun v5 H5 s5 hv5 => ⟨_, _, [.str (Txt.partition z ":").1, .str (Txt.partition z ":").2.1, .str (Txt.partition z ":").2.2], ex_sub T5.bs s5, hv5, rfl, fun ws hws => ?_⟩⟩
    · unfold e2
      rw [eV_at (List.getElem?_set_self (by omega))]
      show (if _ then _ else _) = _
      exact if_pos ⟨by decide, hzl⟩
    match ws, hws with
    | [v1, v2, v3], .cons q1 (.cons q2 (.cons q3 .nil)) =>
    obtain rfl := dp_str q1
    obtain rfl := dp_str q2
    obtain rfl := dp_str q3
    have T6 := (T5.grow s5).setL (is := [3, 4, 5]) (.cons q1 (.cons q2 (.cons q3 .nil)))
    have lσ3 : σ3.length = 6 := by rw [T3.sta.len]; exact l3
    have e5 : H5 p = some (.dK ((txts.take i).map entT)) := s5 _ _ (sy _ _ e3)
    have b5 : ex (ex B3 H3 H4) H4 H5 p = none := by
      rw [ex_old (by rw [sy _ _ e3]; rfl), ex_old (by rw [e3]; rfl)]; exact b3
    refine ⟨.str (Txt.partition z ":").2.2, ?_, .ref p, ?_, .str (Txt.partition z ":").1, ?_, p, _, rfl, DPut.k (k := Sum.inr (Txt.partition z ":").1) e5 (by rw [List.length_map, List.length_take, sizeLine_eq]; omega), ?_⟩
    · show ((((σ3.set 2 (some v)).set 3 _).set 4 _).set 5 _)[5]? = _
      rw [List.getElem?_set_self (by simp only [List.length_set]; omega)]
    · show ((((σ3.set 2 (some v)).set 3 _).set 4 _).set 5 _)[1]? = _
      rw [List.getElem?_set_ne (by decide), List.getElem?_set_ne (by decide), List.getElem?_set_ne (by decide), List.getElem?_set_ne (by decide)]
      exact g3
    · show ((((σ3.set 2 (some v)).set 3 _).set 4 _).set 5 _)[3]? = _
      rw [List.getElem?_set_ne (by decide), List.getElem?_set_ne (by decide), List.getElem?_set_self (by simp only [List.length_set]; omega)]
    · have fr : valV ((txts.take i).map entT) (Sum.inr (Txt.partition z ":").1) = none := by
        have h := txts_fresh i hlt
        rw [List.getD_eq_getElem?_getD, hpt] at h
        exact valV_no (i := i) h
      rw [putK_new _ fr]
      have et : (txts.take i).map entT ++ [(Sum.inr (Txt.partition z ":").1, V.str (Txt.partition z ":").2.2)] = (txts.take (i + 1)).map entT := by
        rw [List.take_add_one, hpt, List.map_append]
        rfl
      rw [et]
      have no6 : ∀ (j : Nat) (xs : List PyData), (setD [3, 4, 5] [.str (Txt.partition z ":").1, .str (Txt.partition z ":").2.1, .str (Txt.partition z ":").2.2] (δ3.set 2 (.d (.str z))))[j]? ≠ some (.o xs) := fun j xs e => by
        rcases getElem?_set' e with ⟨_, q⟩ | ⟨_, q⟩
        · cases q
        · rcases getElem?_set' q with ⟨_, q⟩ | ⟨_, q⟩
          · cases q
          · rcases getElem?_set' q with ⟨_, q⟩ | ⟨_, q⟩
            · cases q
            · exact no5 j xs q
      refine ⟨hlt, _, _, (sub_ex T3.bs).trans (sub_ex T4.bs), b5, T6.hidU no6 b5 h0p, upd_same, ?_, ?_, no6, ?_⟩
      · show ((((σ3.set 2 (some v)).set 3 _).set 4 _).set 5 _)[1]? = _
        rw [List.getElem?_set_ne (by decide), List.getElem?_set_ne (by decide), List.getElem?_set_ne (by decide), List.getElem?_set_ne (by decide)]
        exact g3
      · show ((((δ3.set 2 (.d (.str z))).set 3 _).set 4 _).set 5 _).length = 6
        simp only [List.length_set]
        exact l3
      · show ((((δ3.set 2 (.d (.str z))).set 3 _).set 4 _).set 5 _)[1]? = _
        rw [List.getElem?_set_ne (by decide), List.getElem?_set_ne (by decide), List.getElem?_set_ne (by decide), List.getElem?_set_ne (by decide)]
        exact u3
  · have e : i = 15 := by omega
    subst e
    refine .inl ⟨by rw [← n15]; exact Wk.stop B3 H3 s3 T3.bs, _, g3, ?_⟩
    exact q H3 p T3.b0 h0p e3
theorem ok_texts {f : Addr} {fd : FuncData} (B : Bt K w mg) (F : Fun K "_law_texts" "_law_texts" (top 68) f fd) : FnOk P w K mg base CX0 2 f fd [] spLT := by
  refine F.ok sc_texts (fun vs H Q E ⟨e, _⟩ => by rw [e]; rfl) fun cdv A outer s H vs Q E hr q => ⟨_,
    (pss_cons (ds_lst (E := E0) (cls := cls0) (i := 0) sc_texts.nd (da_cons d_str (da_cons d_str (da_cons d_str da_nil))))
    (pss_cons (ds_catO (E := E0) (cls := cls0) (i := 0) sc_texts.nd (da_cons d_str da_nil))
    (pss_cons (ds_catO (E := E0) (cls := cls0) (i := 0) sc_texts.nd (da_cons d_str da_nil))
    (pss_cons (ds_catO (E := E0) (cls := cls0) (i := 0) sc_texts.nd (da_cons d_str (da_cons d_str da_nil)))
    (pss_cons (ds_catO (E := E0) (cls := cls0) (i := 0) sc_texts.nd (da_cons d_str da_nil))
    (pss_cons (ds_catO (E := E0) (cls := cls0) (i := 0) sc_texts.nd (da_cons d_str da_nil))
    (pss_cons (ds_catO (E := E0) (cls := cls0) (i := 0) sc_texts.nd (da_cons d_str da_nil))
    (pss_cons (ds_catO (E := E0) (cls := cls0) (i := 0) sc_texts.nd (da_cons d_str da_nil))
    (pss_cons (ds_catO (E := E0) (cls := cls0) (i := 0) sc_texts.nd (da_cons d_str da_nil))
    (pss_cons (ds_catO (E := E0) (cls := cls0) (i := 0) sc_texts.nd (da_cons d_str da_nil))
    (pss_cons (ds_catO (E := E0) (cls := cls0) (i := 0) sc_texts.nd (da_cons d_str da_nil))
    (pss_cons (ds_catO (E := E0) (cls := cls0) (i := 0) sc_texts.nd (da_cons (d_op od_addS (d_op od_addS d_str (d_op od_mulS d_str d_int)) d_str) da_nil))
    (pss_cons (ps_set (i := 1) sc_texts.nd (by rfl) (Or.inl rfl) pe_dnewK)
    (pss_cons (ps_for PassesOwn.never (by rfl) (di_list (dv 0)) (dg_name (i := 2) sc_texts.nd) (pss_cons (ps_asg (d_part (dv 2) d_str) (dg_three (i := 3) (j := 4) (l := 5) (by rfl) sc_texts.nd)) (pss_one (ps_dput (hu_of hr) (pv 1) (pv 3) (pv 5) (by rfl)))))
    (pss_one (ps_ret (pv 1))))))))))))))))), ?_⟩
  obtain ⟨rfl, q⟩ := q
  have T0 : Stt K H H H H (L2.start ["_law_some", "_law_texts_here", "_law_one", "_law_name", "_law_mark", "_law_text"] []) (startD 6 []) := stt_start (Same.refl _) .nil
  refine tS_step (E := E0) (cls := cls0) (δ' := dT 3) T0 rfl fun σ1 H1 B1 s1 T1 => ?_
  refine tS_step (E := E0) (cls := cls0) (δ' := dT 4) T1 rfl fun σ2 H2 B2 s2 T2 => ?_
  refine tS_step (E := E0) (cls := cls0) (δ' := dT 5) T2 rfl fun σ3 H3 B3 s3 T3 => ?_
  refine tS_step (E := E0) (cls := cls0) (δ' := dT 7) T3 rfl fun σ4 H4 B4 s4 T4 => ?_
  refine tS_step (E := E0) (cls := cls0) (δ' := dT 8) T4 rfl fun σ5 H5 B5 s5 T5 => ?_
  refine tS_step (E := E0) (cls := cls0) (δ' := dT 9) T5 rfl fun σ6 H6 B6 s6 T6 => ?_
  refine tS_step (E := E0) (cls := cls0) (δ' := dT 10) T6 rfl fun σ7 H7 B7 s7 T7 => ?_
  refine tS_step (E := E0) (cls := cls0) (δ' := dT 11) T7 rfl fun σ8 H8 B8 s8 T8 => ?_
  refine tS_step (E := E0) (cls := cls0) (δ' := dT 12) T8 rfl fun σ9 H9 B9 s9 T9 => ?_
  refine tS_step (E := E0) (cls := cls0) (δ' := dT 13) T9 rfl fun σ10 H10 B10 s10 T10 => ?_
  refine tS_step (E := E0) (cls := cls0) (δ' := dT 14) T10 rfl fun σ11 H11 B11 s11 T11 => ?_
  refine tS_step (E := E0) (cls := cls0) (δ' := dT 15) T11 rfl fun σ12 H12 B12 s12 T12 => ?_
  obtain ⟨Bf, sf, Tf⟩ := T12.freeze (i := 0) rfl
  refine texts_end (hu_of hr) Tf ?_ ?_ ?_ (fun j xs => ?_) q
  · rfl
  · rfl
  · rfl
  · exact (by
    match j with
    | 0 => exact fun e => by cases e
    | 1 => exact fun e => by cases e
    | 2 => exact fun e => by cases e
    | 3 => exact fun e => by cases e
    | 4 => exact fun e => by cases e
    | 5 => exact fun e => by cases e
    | j + 6 => exact fun e => by cases e)
end
end SQ
/-! ## SqLn -/
set_option Elab.async false
set_option linter.all false
set_option maxRecDepth 100000
set_option maxHeartbeats 4000000
/-! _law_names -/
namespace SQ
open PySem PySem.Spec L2 TL
open PyProof.Rows (envOfC sortedS)
def nms15 : List Str := ["about", "back", "cross", "face", "hin", "hout", "lt", "meet", "off", "own", "pass", "ring", "side", "swap", "walk"]
theorem nms15_perm : nms15.Perm (txts.map (·.1)) := by decide +kernel
theorem nms15_sorted : sortedS nms15 = true := by decide +kernel
theorem _root_.L2.DpAll.erase {K : PySem.W.Frag} {H : Hp} : ∀ {ds : List PyData} {vs : List V} (n : Nat), DpAll K H vs ds → DpAll K H (vs.eraseIdx n) (ds.eraseIdx n)
  | _, _, _, .nil => .nil
  | _, _, 0, .cons a b => b
  | _, _, n + 1, .cons a b => .cons a (L2.DpAll.erase n b)
/-- x = sorted(_law_texts()) -/
def sNms (i : Nat) : En → Option Res := fun δ => some (.nx (δ.set i (.o (nms15.map .str))))
def sAppPop (i j : Nat) (fe : En → Option PyData) : En → Option Res := fun δ => if i = j then none else match δ[i]?, δ[j]? with
  | some (.o xs), some (.o ys) => if xs.length < 1000 ∧ ys.length < 1000 then (fe δ).bind fun n => (asI n).bind fun n => if 0 ≤ n ∧ n < ys.length then (ys[n.toNat]?).map fun d => .nx ((δ.set j (.o (ys.eraseIdx n.toNat))).set i (.o (xs ++ [d]))) else none else none
  | _, _ => none
section
variable {X : Cx} {E : XK} {cls : Nat → Value} {e : Expr} {fe : En → Option PyData} {i j : Nat} {x y : Str} {p p1 p2 p3 p4 p5 p6 pos py : Pos}
theorem ds_nms {f : Addr} {fd : FuncData} {k : Nat} (hc : X.calm = true) (F : FnOk X.prog X.w X.K X.mg X.base CX0 k f fd [] spLT) (hr : Room k X.A) (hm : X.mg "_law_texts" = some (.ref f)) (hk : PySem.W.keepIn X.K (.ref f) = true) (hb : Binds X.K fd [] []) (hms : X.mg "sorted" = none) (hg : Gl X "_law_texts") (hgs : Gl X "sorted")
    (hN : X.N.Nodup) (hi : X.N[i]? = some x := by rfl) (hx : Loc X.env.scope x := by first | exact Or.inl rfl | exact Or.inr rfl)
    (hs1 : starEach [.Call (.Name "_law_texts" p1) [] [] p2] X.env = (false, eval (.Call (.Name "_law_texts" p1) [] [] p2) X.env) :: starEach [] X.env := by rfl) (hpl : (backTo p4 (starEach [] X.env)).any (·.1) = false := by rfl)
    (hs : swapsWith (.Call (.Name "sorted" p3) [.Call (.Name "_law_texts" p1) [] [] p2] [] p4) (some (.Name x py)) pos.line X.env = pure false := by rfl) (hf : X.fn x = true ∨ X.env.scope.names.lookup x = some .local := by first | exact .inl rfl | exact .inr rfl | assumption) :
    PS X (.Assign [.Name x py] (.Call (.Name "sorted" p3) [.Call (.Name "_law_texts" p1) [] [] p2] [] p4) pos) (tS X.K E cls (sNms i)) :=
  PS.imp (ps_set hN hi hx (pe_callB (call_sortedD hc) hgs hms (by decide +kernel) (pa_cons (pe_call0 (E := E0) F hr hg hm hk hb .nil pass0) pa_nil hs1) (by decide) (by decide) hs1 hpl) hs hf) fun D σ H ⟨Hb0, H0, Hb, δ, S, r, hr, P⟩ => by
  cases hr
  refine ⟨rfl, fun H1 d s hd hd1 => ?_⟩
  have S1 := S.grow s
  refine ⟨d, txts.map entT, txts.map (·.1), rfl, .inl hd1, rfl, (by decide), fun ys q hp hs hq => ?_⟩
  have e : ys = nms15 := sorted_eqS (hp.trans nms15_perm.symm) hs nms15_sorted
  rw [e]
  exact P _ _ _ (sub_ex S.bs) (S1.own hq dall_strs)
theorem ds_appPop
    (b2 : PE X (.Call (.Attribute (.Name x p4) "append" p5) [.Call (.Attribute (.Name y p1) "pop" p2) [e] [] p3] [] p6) (tBM X.K "list" rAppend (tVar i) (tCons (tBM X.K "list" rPopAt (tVar j) (tCons (tE X.K fe) tNil)) tNil)))
    (hs : swapsWith (.Call (.Attribute (.Name x p4) "append" p5) [.Call (.Attribute (.Name y p1) "pop" p2) [e] [] p3] [] p6) none pos.line X.env = pure false := by rfl) :
    PS X (.Expr (.Call (.Attribute (.Name x p4) "append" p5) [.Call (.Attribute (.Name y p1) "pop" p2) [e] [] p3] [] p6) pos) (tS X.K E cls (sAppPop i j fe)) := PS.imp (ps_expr b2 hs) fun D σ H ⟨Hb0, H0, Hb, δ, S, r, hr, P⟩ => by
  unfold sAppPop at hr
  split at hr
  · cases hr
  · rename_i hij
    split at hr
    · rename_i xs ys hx hy
      split at hr
      · rename_i hz
        obtain ⟨n0, hn0, hr⟩ := Option.bind_eq_some_iff.mp hr
        obtain ⟨n, hn, hr⟩ := Option.bind_eq_some_iff.mp hr
        split at hr
        · rename_i hb
          obtain ⟨d, hd, rfl⟩ := Option.map_eq_some_iff.mp hr
          obtain ⟨a, vs, a1, a2, a3, a4⟩ := S.sta.ow _ _ hx
          obtain ⟨b, ws, c1, c2, c3, c4⟩ := S.sta.ow _ _ hy
          refine ⟨_, a1, .inl ⟨rfl, vs, SqL.of a3⟩, _, c1, .inl ⟨rfl, ws, SqL.of c3⟩, Hb, δ, S.sta, n0, hn0, S.bs, fun v H1 s hv => ?_⟩
          unfold asI at hn
          split at hn
          · cases hn
            obtain rfl := dp_int hv
            have S1 := S.grow s
            have sx := sub_ex (H' := H1) S.bs
            obtain ⟨u, hu, ru⟩ := (c4.same sx).get hd
            have lw := c4.length
            refine ⟨b, ws, n, n.toNat, u, rfl, rfl, s _ _ c3, by omega, by omega, ?_, hu, ?_⟩
            · exact (ixN_seq (by unfold ixN; rw [if_pos hb.1, if_pos (by omega)])).1
            have S2 := S1.chg hy c1 ((c4.same sx).erase n.toNat)
            have hij' : j ≠ i := fun e => hij e.symm
            have hx2 : (δ.set j (.o (ys.eraseIdx n.toNat)))[i]? = some (.o xs) := by rw [List.getElem?_set_ne hij']; exact hx
            have hab : a ≠ b := fun e => hij (S.sta.dj i j xs ys a hx hy a1 (by rw [e]; exact c1))
            refine ⟨a, vs, u, rfl, rfl, by rw [upd_ne hab]; exact s _ _ a3, by rw [a4.length, sizeLine_eq]; omega, ?_⟩
            exact P _ _ _ sx (S2.chg hx2 a1 ((a4.same sx).append (.one ru)))
          · cases hn
        · cases hr
      · cases hr
    · cases hr
end
section
variable {P : Program} {w : World} {K : PySem.W.Frag} {mg : Str → Option Value} {base : Heap}
def g_law_names : En → Option Res :=
  sSeq (sNms 2) (sSeq (sLst 3 aNil) (sSeq (sFor (iB (aCons (eV 1) aNil) rg1) (.nm 4) (sSeq (sAppPop 3 2 (e2 modI (eV 0) (eLenO 2))) (sAsg (e2 divI (eV 0) (eC (.int 14))) (.nm 0)))) (sFrz 3 (sRet (eV 3)))))
def F__law_names : List PyData → Option PyData := runG 5 g_law_names
theorem sc_law_names : FnScope ["_law_number", "_law_many", "_law_names_here", "_law_found", "_law_k"] ["_law_number", "_law_many"] (defScope (top 69)) := ⟨rfl, rfl, rfl, by decide +kernel, rfl, by decide +kernel, by decide +kernel⟩
theorem fd_law_names {f : Addr} {fd : FuncData} (B : Bt K w mg) (F : FnOk P w K mg base CX0 2 f fd [] spLT) (hm : mg "_law_texts" = some (.ref f)) (hk : PySem.W.keepIn K (.ref f) = true) (hb : Binds K fd [] []) (D : Dfn K mg "_law_names" (top 69) ["_law_number", "_law_many"]) : FnD P w K mg base 3 "_law_names" 2 F__law_names :=
  fnd_of D sc_law_names fun f' cdv A outer s H E hr => by
    have S := sc_law_names
    exact ds_cons (ds_nms (i := 2) (by rfl) F (hr.mono (by decide)) hm hk hb B.sorted (by rfl) (by rfl) S.nd)
      (ds_cons (ds_lst (i := 3) S.nd da_nil)
      (ds_cons (ds_for PassesOwn.never (by rfl) (di_rng1 (by rfl) B.range (da_cons (dv 1) da_nil)) (dg_name (i := 4) S.nd)
        (ds_cons (ds_appPop (i := 3) (j := 2) (pe_bm PySem.F.plainAttrs_list PySem.F.slot_list_append PySem.F.type_list_append mt_append (pv 3) (pa_cons (pe_bm PySem.F.plainAttrs_list PySem.F.slot_list_pop PySem.F.type_list_pop mt_popAt (pv 2) (pa_cons (d_op od_modI (dv 0) (d_lenO (i := 2) (by rfl) B.len)) pa_nil)) pa_nil)))
        (ds_one (ds_set (i := 0) S.nd (d_op od_divI (dv 0) d_int)))))
      (ds_frz (i := 3) (ds_one (ds_ret (dv 3))))))
end
end SQ
/-! ## SqBi -/
set_option Elab.async false
set_option linter.all false
set_option maxRecDepth 100000
set_option maxHeartbeats 4000000
set_option pp.maxSteps 2000
/-! Book.__init__ -/
namespace SQ
open PySem PySem.Spec L2 TL
open PyProof.Rows (envOfC sortedS)
/-- what the book is made of -/
structure Kn (Gn Gr : List PyData → Option PyData) (kn : List (Str × PyData)) : Prop where
  names : kn.map (·.1) = nms15
  ok : ∀ p ∈ txts, Gn [.str p.1] = some (.bool true)
  rd : ∀ p ∈ kn, ∃ t, valV (txts.map entT) (Sum.inr p.1) = some (.str t) ∧ Gr [.str t] = some p.2
/-- __init__(self, texts) -/
def spBI (K : PySem.W.Frag) (C : Addr) (kn : List (Str × PyData)) : Sp := fun vs H Q _ => ∃ (H0 Hb : Hp) (a dx d : Addr), vs = [.ref a, .ref d] ∧ H = upd (upd H0 dx (.own a)) a (.ins C dx []) ∧ H0 a = none ∧ H0 dx = none ∧ dx ≠ a ∧ Same Hb H0 ∧ H0 d = some (.dK (txts.map entT)) ∧ Hb d = none ∧
  ∀ H', Same H0 H' → ObjAt K (ex Hb H0 H') C (bkF kn) (.ref a) → Q .non H'
theorem sta_u {K : PySem.W.Frag} {Hb H : Hp} {σ : L2.St} {n : Nat} (bs : Same Hb H) (h : σ.length = n) : Sta K Hb H σ (List.replicate n .u) :=
  have nu : ∀ {j : Nat} {x : Sl}, (List.replicate n Sl.u)[j]? = some x → x = .u := fun {j x} e => List.eq_of_mem_replicate (List.mem_of_getElem? e)
  ⟨bs, by rw [h, List.length_replicate], fun j x e => (by cases nu e), fun j x e => (by cases nu e), fun j k x y a e => (by cases nu e), fun j C f e => (by cases nu e)⟩
theorem nms15_nodup : nms15.Nodup := by decide +kernel
section
variable {P : Program} {w : World} {K : PySem.W.Frag} {mg : Str → Option Value} {base : Heap} {C : Addr} {Gn Gr : List PyData → Option PyData} {kn : List (Str × PyData)}
theorem sc_binit : FnScope ["self", "texts", "name"] ["self", "texts"] (defScope (inClass (top 65) 0)) := ⟨rfl, rfl, rfl, by decide +kernel, rfl, by decide +kernel, by decide +kernel⟩
theorem ok_binit {f fr : Addr} {fd fdr : FuncData} {psr : List Str} (B : Bt K w mg) (c : BkC K C) (kk : Kn Gn Gr kn) (h_icn : FnD P w K mg base 1 "is_call_name" 1 Gn)
    (FR : FnOk P w K mg base CX0 6 fr fdr psr (spD K 1 Gr)) (mr : mg "read_call" = some (.ref fr)) (kr : PySem.W.keepIn K (.ref fr) = true) (br : Binds K fdr psr []) (F : Fun K "__init__" "Book.__init__" (inClass (top 65) 0) f fd) :
    FnOk P w K mg base CX0 7 f fd ["self", "texts"] (spBI K C kn) := by
  refine F.ok sc_binit (fun vs H Q E ⟨H0, Hb, a, dx, d, e, _⟩ => by rw [e]; rfl) fun cdv A outer s H vs Q E hr q => ⟨_,
    pss_cons (ps_if (pt_cmpR op_gt (pe_callB call_lenD (by rfl) B.len boot_len (pa_cons (pv 1) pa_nil)) (d_cst B.MOST_CALLS) (nomark _)) pss_never pss_nil)
    (pss_cons (ps_lock (ps_for PassesOwn.never (by rfl) (pi_keys (pv 1)) (dg_name (i := 2) sc_binit.nd) (pss_one (ps_if (dt_not (dt_val (d_fn h_icn (hr.mono (by decide)) (da_cons (dv 2) da_nil)))) pss_never pss_nil))))
    (pss_cons (ps_fld (pv 0) pe_dnewK (by rfl))
    (pss_one (ps_for PassesOwn.never (by rfl) (pi_list (pe_callB (call_sortedD (by rfl)) (by rfl) B.sorted (by decide +kernel) (pa_cons (pv 1) pa_nil))) (dg_name (i := 2) sc_binit.nd)
      (pss_one (ps_dput (hu_of hr) (pe_fld (pv 0) (by rfl)) (pv 2) (pe_call (E := E0) FR (hr.mono (by decide)) (by rfl) mr kr br .nil pass0 (pa_cons (pe_dget (hu_of hr) (pv 1) (pv 2) (fun _ _ => rfl)) pa_nil)) (by rfl))))))), ?_⟩
  obtain ⟨H0, Hb, a, dx, d, rfl, eH, ha, hdx, hne, bs, hd, hbd, q⟩ := q
  have hHa : H a = some (.ins C dx []) := by rw [eH, upd_same]
  have nda : d ≠ a := fun e => by rw [e, ha] at hd; cases hd
  have s0 : Same H0 H := by
    rw [eH]
    exact (same_upd hdx).trans (same_upd (by rw [upd_ne (Ne.symm hne)]; exact ha))
  have hHd := s0 _ _ hd
  refine ⟨_, rfl, d, _, rfl, hHd, ?_⟩
  have bsH : Same Hb H := bs.trans s0
  refine ⟨Hb, List.replicate 3 .u, sta_u bsH rfl, .int 60, rfl, bsH, fun v H1 s1 hv => ?_⟩
  obtain rfl := dp_int hv
  refine ⟨_, _, rfl, rfl, _, rfl, ?_⟩
  refine Eq.mpr (if_neg (show ¬ decide ((60 : Int) < ((txts.map entT).length : Int)) = true by decide)) ?_
  -- the first walk
  have s01 := s0.trans s1
  refine ⟨d, _, s01 _ _ hd, True.intro, fun od => ?_⟩
  have bx : Same Hb (upd H1 d (.frz od (.dK (txts.map entT)))) := fun b o e => by
    have hne : b ≠ d := fun q => by rw [q, hbd] at e; cases e
    rw [upd_ne hne]; exact s01 _ _ (bs _ _ e)
  generalize hHx : upd H1 d (.frz od (.dK (txts.map entT))) = Hx at *
  have hxd : Hx d = some (.frz od (.dK (txts.map entT))) := by rw [← hHx, upd_same]
  refine ⟨_, rfl, d, od, rfl, .inl ⟨txts.map entT, hxd, ?_⟩⟩
  have n15 : (txts.map entT).length = 15 := rfl
  refine ⟨fun i m σ HH => m = 15 - i ∧ i ≤ 15 ∧ Same Hx HH ∧ σ.length = 3 ∧ σ[0]? = some (some (.ref a)) ∧ σ[1]? = some (some (.ref d)), ⟨15, rfl, by decide, Same.refl _, rfl, rfl, rfl⟩, ?_⟩
  rintro i m σ2 H2 ⟨rfl, hi, s2, l2, g0, g1⟩
  by_cases hlt : i < 15
  · refine .inr ⟨⟨s2 _ _ hxd, by rw [n15]; exact hlt⟩, fun σ HH => i + 1 ≤ 15 ∧ Same Hx HH ∧ σ.length = 3 ∧ σ[0]? = some (some (.ref a)) ∧ σ[1]? = some (some (.ref d)), fun σ' H' q => ⟨15 - (i + 1), by omega, rfl, q⟩, ?_⟩
    rintro x H' ⟨rfl, k, v, hk, rfl⟩
    rw [List.getElem?_map] at hk
    obtain ⟨p, hp, ep⟩ := Option.map_eq_some_iff.mp hk
    cases ep
    refine ⟨Hb, .str p.1, [.str p.1], bx.trans s2, .str _, rfl, fun ws hws => ?_⟩
    match ws, hws with
    | [w0], .cons hw .nil =>
    have S2 : Sta K Hb H' σ2 (List.replicate 3 .u) := sta_u (bx.trans s2) l2
    have S3 := S2.set (i := 2) hw
    refine ⟨Hb, _, S3, false, ?_, fun H3 s3 => ?_⟩
    · show ((cE (eA (gN 1 Gn) (aCons (eV 2) aNil)) _).map not) = some false
      have e : gN 1 Gn [.str p.1] = some (.bool true) := (if_pos rfl).trans (kk.ok p (List.mem_of_getElem? hp))
      show ((((gN 1 Gn [.str p.1])).bind asB).map not) = some false
      rw [e]
      rfl
    · refine ⟨hlt, s2.trans s3, by show (σ2.set 2 _).length = 3; rw [List.length_set]; exact l2, ?_, ?_⟩
      · show (σ2.set 2 _)[0]? = _
        rw [List.getElem?_set_ne (by decide)]; exact g0
      · show (σ2.set 2 _)[1]? = _
        rw [List.getElem?_set_ne (by decide)]; exact g1
  have ei : i = 15 := by omega
  subst ei
  refine .inl ⟨⟨s2 _ _ hxd, by rw [n15]; exact Nat.le_refl _⟩, s2 _ _ hxd, ?_⟩
  -- behind the first walk
  have s03 : Same H0 (upd H2 d (.dK (txts.map entT))) := fun b o e => by
    by_cases h : b = d
    · subst h; rw [upd_same]; rw [hd] at e; exact e
    · rw [upd_ne h]
      refine s2 _ _ ?_
      rw [← hHx, upd_ne h]
      exact s01 _ _ e
  have e3a : (upd H2 d (.dK (txts.map entT))) a = some (.ins C dx []) := by
    rw [upd_ne (Ne.symm nda)]
    refine s2 _ _ ?_
    rw [← hHx, upd_ne (Ne.symm nda)]
    exact s1 _ _ hHa
  generalize upd H2 d (.dK (txts.map entT)) = H3 at s03 e3a ⊢
  intro kd hkd
  have nka : kd ≠ a := fun e => by rw [e, e3a] at hkd; cases hkd
  have h0k : H0 kd = none := s03.free hkd
  refine ⟨_, g0, a, C, dx, [], rfl, by rw [upd_ne (Ne.symm nka)]; exact e3a, c.cls, c.known, (by decide), ?_⟩
  have hbk : Hb kd = none := bs.free h0k
  have hba : Hb a = none := bs.free ha
  have e4a : (upd (upd H3 kd (.dK [])) a (.ins C dx (putF "known" (.ref kd) []))) a = some (.ins C dx [("known", .ref kd)]) := upd_same
  have e4k : (upd (upd H3 kd (.dK [])) a (.ins C dx (putF "known" (.ref kd) []))) kd = some (.dK []) := by rw [upd_ne nka, upd_same]
  have s04 : Same H0 (upd (upd H3 kd (.dK [])) a (.ins C dx (putF "known" (.ref kd) []))) := fun b o e => by
    have n1 : b ≠ a := fun q => by rw [q, ha] at e; cases e
    have n2 : b ≠ kd := fun q => by rw [q, h0k] at e; cases e
    rw [upd_ne n1, upd_ne n2]
    exact s03 _ _ e
  generalize upd (upd H3 kd (.dK [])) a (.ins C dx (putF "known" (.ref kd) [])) = H4 at e4a e4k s04 ⊢
  refine ⟨_, g1, d, txts.map entT, txts.map (·.1), rfl, .inl (s04 _ _ hd), rfl, (by decide), fun ys q' hp hs hq => ?_⟩
  have ey : ys = nms15 := sorted_eqS (hp.trans nms15_perm.symm) hs nms15_sorted
  rw [ey]
  have hq0 : H0 q' = none := s04.free hq
  have nkq : kd ≠ q' := fun e => by rw [← e, e4k] at hq; cases hq
  have naq : a ≠ q' := fun e => by rw [← e, e4a] at hq; cases hq
  refine ⟨q', rfl, ⟨_, SqL.of upd_same⟩, ?_⟩
  have bs5 : Same (upd Hb q' (.lst (nms15.map V.str))) (upd H4 q' (.lst (nms15.map V.str))) := fun b o e => by
    by_cases h : b = q'
    · subst h; rw [upd_same] at e ⊢; exact e
    · rw [upd_ne h] at e ⊢; exact s04 _ _ (bs _ _ e)
  have Wk : DWk K (upd Hb q' (.lst (nms15.map V.str))) (Itl K q') (nms15.map .str) := wk_list (SqL.of upd_same) dall_strs
  have l15 : (nms15.map PyData.str).length = 15 := rfl
  have lkn : kn.length = 15 := by
    have := congrArg List.length kk.names
    rw [List.length_map] at this
    exact this
  refine ⟨fun i m σ HH => m = 15 - i ∧ i ≤ 15 ∧ ∃ B' kvs, Same (upd Hb q' (.lst (nms15.map V.str))) B' ∧ Same B' HH ∧ Same H0 HH ∧ Same B' (ex Hb H0 HH) ∧ B' kd = none ∧ B' a = none ∧ HH a = some (.ins C dx [("known", .ref kd)]) ∧ HH kd = some (.dK kvs) ∧
      kvs.map (·.1) = (kn.take i).map (fun p => Sum.inr p.1) ∧ DpAll K B' (kvs.map (·.2)) ((kn.take i).map (·.2)) ∧ σ.length = 3 ∧ σ[0]? = some (some (.ref a)) ∧ σ[1]? = some (some (.ref d)),
    ⟨15, rfl, by decide, _, [], Same.refl _, bs5, ?_, ?_, by rw [upd_ne nkq]; exact hbk, by rw [upd_ne naq]; exact hba, by rw [upd_ne naq]; exact e4a, by rw [upd_ne nkq]; exact e4k, rfl, .nil, l2, g0, g1⟩, ?_⟩
  · intro b o e
    have hne : b ≠ q' := fun w => by rw [w, hq0] at e; cases e
    rw [upd_ne hne]; exact s04 _ _ e
  · intro b o e
    by_cases h : b = q'
    · subst h; rw [upd_same] at e; rw [ex_new hq0, upd_same]; exact e
    · rw [upd_ne h] at e; rw [ex_old (by rw [bs _ _ e]; rfl)]; exact e
  rintro i m σ5 H5 ⟨rfl, hi, B5, kvs, sB, bB, s05, xB, k5, a5, e5a, e5k, r1, r2, l5, g50, g51⟩
  by_cases hlt : i < 15
  · refine .inr ⟨Wk.go i B5 H5 sB bB (by rw [l15]; exact hlt), fun σ HH => i + 1 ≤ 15 ∧ ∃ B' kvs, Same (upd Hb q' (.lst (nms15.map V.str))) B' ∧ Same B' HH ∧ Same H0 HH ∧ Same B' (ex Hb H0 HH) ∧ B' kd = none ∧ B' a = none ∧ HH a = some (.ins C dx [("known", .ref kd)]) ∧ HH kd = some (.dK kvs) ∧
      kvs.map (·.1) = (kn.take (i + 1)).map (fun p => Sum.inr p.1) ∧ DpAll K B' (kvs.map (·.2)) ((kn.take (i + 1)).map (·.2)) ∧ σ.length = 3 ∧ σ[0]? = some (some (.ref a)) ∧ σ[1]? = some (some (.ref d)), fun σ' H' q => ⟨15 - (i + 1), by omega, rfl, q⟩, fun x H6 y => ?_⟩
    obtain ⟨d0, hd0, sy, hx⟩ := Wk.yld i B5 H5 x H6 sB bB (by rw [l15]; exact hlt) y
    have hkn : kn[i]? = some (kn[i]'(by omega)) := List.getElem?_eq_getElem (by omega)
    generalize kn[i]'(by omega) = p at hkn
    have hnm : nms15[i]? = some p.1 := by rw [← kk.names, List.getElem?_map, hkn]; rfl
    rw [List.getElem?_map, hnm] at hd0
    obtain rfl : PyData.str p.1 = d0 := Option.some.inj hd0
    refine ⟨_, .str p.1, [.str p.1], ex_sub bB sy, hx, rfl, fun ws hws => ?_⟩
    match ws, hws with
    | [w0], .cons hw .nil =>
    obtain rfl := dp_str hw
    obtain ⟨t, ht1, ht2⟩ := kk.rd p (List.mem_of_getElem? hkn)
    have f0 : (setS (Tg.nm 2).ix [V.str p.1] σ5)[0]? = some (some (.ref a)) := by
      show (σ5.set 2 _)[0]? = _
      rw [List.getElem?_set_ne (by decide)]; exact g50
    have f1 : (setS (Tg.nm 2).ix [V.str p.1] σ5)[1]? = some (some (.ref d)) := by
      show (σ5.set 2 _)[1]? = _
      rw [List.getElem?_set_ne (by decide)]; exact g51
    have f2 : (setS (Tg.nm 2).ix [V.str p.1] σ5)[2]? = some (some (.str p.1)) := by
      show (σ5.set 2 _)[2]? = _
      rw [List.getElem?_set_self (by omega)]
    refine ⟨_, f1, _, f2, d, .str t, rfl, by rw [← ht1]; exact DGet.k (k := Sum.inr p.1) (sy _ _ (s05 _ _ hd)), ?_⟩
    refine ⟨_, [.str t], .cons (.str t) .nil, rfl, p.2, ht2, ex_sub bB sy, fun v H7 s7 hv7 => ?_⟩
    rw [ex_trans sy s7] at hv7
    have s57 := sy.trans s7
    have frn : valV kvs (Sum.inr p.1) = none := by
      rcases kn_val (nm := p.1) r1 r2 with ⟨_, e⟩ | ⟨d', v', e, _, _⟩
      · exact e
      · have hm : p.1 ∈ nms15.take i := by
          rw [← kk.names, ← List.map_take]
          have : ∀ {l : List (Str × PyData)}, l.lookup p.1 = some d' → p.1 ∈ l.map (·.1) := fun {l} h => by
            induction l with
            | nil => cases h
            | cons z l ih =>
              rw [List.lookup_cons] at h
              by_cases e : p.1 = z.1
              · rw [List.map_cons, e]; exact List.mem_cons_self
              · rw [show (p.1 == z.1) = false from beq_eq_false_iff_ne.mpr e] at h
                exact List.mem_cons_of_mem _ (ih h)
          exact this e
        obtain ⟨j, hj, ej⟩ := List.mem_iff_getElem.mp hm
        have hj' : j < i := by rw [List.length_take] at hj; omega
        rw [List.getElem_take] at ej
        obtain ⟨hil, ei⟩ := List.getElem?_eq_some_iff.mp hnm
        exact absurd (ej.trans ei.symm) (List.pairwise_iff_getElem.mp nms15_nodup j i (by omega) hil hj')
    refine ⟨_, f0, a, C, dx, _, .ref kd, rfl, s57 _ _ e5a, c.cls, c.known, rfl, _, f2, kd, _, rfl, DPut.k (k := Sum.inr p.1) (s57 _ _ e5k) ?_, ?_⟩
    · have := congrArg List.length r1
      rw [List.length_map, List.length_map, List.length_take] at this
      rw [sizeLine_eq]
      omega
    rw [putK_new _ frn]
    have k7 : ex B5 H5 H7 kd = none := by rw [ex_old (by rw [e5k]; rfl)]; exact k5
    have a7 : ex B5 H5 H7 a = none := by rw [ex_old (by rw [e5a]; rfl)]; exact a5
    have et : kn.take (i + 1) = kn.take i ++ [p] := by rw [List.take_add_one, hkn]; rfl
    have nak : a ≠ kd := Ne.symm nka
    refine ⟨hlt, ex B5 H5 H7, _, sB.trans (sub_ex bB), fun b o e => ?_, fun b o e => ?_, fun b o e => ?_, k7, a7, by rw [upd_ne nak]; exact s57 _ _ e5a, upd_same, ?_, ?_, ?_, f0, f1⟩
    · have hne : b ≠ kd := fun w => by rw [w, k7] at e; cases e
      rw [upd_ne hne]; exact ex_sub bB s57 _ _ e
    · have hne : b ≠ kd := fun w => by rw [w, h0k] at e; cases e
      rw [upd_ne hne]; exact s57 _ _ (s05 _ _ e)
    · have e2 := ex_mono s05 xB s57 b o e
      have hne : b ≠ kd := fun w => by rw [w, k7] at e; cases e
      cases q0 : H0 b with
      | some z => rw [ex_old (by rw [q0]; rfl)] at e2 ⊢; exact e2
      | none => rw [ex_new q0] at e2 ⊢; rw [upd_ne hne]; exact e2
    · rw [et, List.map_append, List.map_append, r1]; rfl
    · rw [et, List.map_append, List.map_append]
      exact (r2.same (sub_ex bB)).append (.one hv7)
    · show (σ5.set 2 _).length = 3
      rw [List.length_set]; exact l5
  · have ei : i = 15 := by omega
    subst ei
    refine .inl ⟨by rw [← l15]; exact Wk.stop B5 H5 sB bB, ?_⟩
    rw [List.take_of_length_le (by omega)] at r1 r2
    refine q H5 s05 ⟨a, dx, [("known", .ref kd)], rfl, by rw [ex_new ha]; exact e5a, fun f k hk => ?_⟩
    unfold bkF at hk
    by_cases e1 : f = "known"
    · subst e1
      cases hk
      exact ⟨kd, kvs, rfl, by rw [ex_new h0k]; exact e5k, r1, r2.same xB⟩
    · by_cases e2 : f = "call"
      · subst e2
        cases hk
        rfl
      · by_cases e3 : f = "names"
        · subst e3
          cases hk
          rfl
        · rw [List.lookup_cons, List.lookup_cons, List.lookup_cons, show (f == "known") = false from beq_eq_false_iff_ne.mpr e1, show (f == "call") = false from beq_eq_false_iff_ne.mpr e2, show (f == "names") = false from beq_eq_false_iff_ne.mpr e3] at hk
          cases hk
end
end SQ
/-! ## SqLb -/
set_option Elab.async false
set_option linter.all false
set_option maxRecDepth 100000
set_option maxHeartbeats 4000000
/-! rules for the law's own defs, 2 -/
namespace SQ
open PySem PySem.Spec L2 TL
open PyProof.Rows (envOfC)
section
variable {P : Program} {w : World} {K : PySem.W.Frag} {mg : Str → Option Value} {base : Heap} {C : Addr}
theorem fnB_of {x : Str} {st : Stmt} {y z : Str} {N ps : List Str} {k : Nat} {g : En → Option Res} (D : Dfn K mg x st (z :: ps)) (S : FnScope (y :: N) (z :: ps) (defScope st))
    (h : ∀ (f : Addr) (cdv : Value) (A : Around) (outer : List Env) (s : Shared) (H : Hp) (E : XK), Room k (A.deeper (envOfC x (defScope st) s.heap.objs.size f cdv)) → PSs (cxOf CX0 P w K mg base (y :: N) x (defScope st) f cdv A outer s H E).nox (defBody st) (tS K E0 cls0 g)) :
    FnB P w K mg base (k + 1) x C ps.length (runO (N.length + 1) C g) := by
  obtain ⟨f, fd, F, hm, hb⟩ := D.ex
  exact ⟨f, fd, _, ok_pureO F S fun cdv A outer s H E hr => h f cdv A outer s H E hr, hm, F.kp, hb⟩
/-- reached -/
structure FnR4 (P : Program) (w : World) (K : PySem.W.Frag) (mg : Str → Option Value) (base : Heap) (cls : Nat → Value) (k : Nat) (C : Addr) (G : List (Str × PyData) → List PyData → Option (Except Nat PyData)) : Prop where
  ex : ∃ f fd ps ds, FnOk P w K mg base (L2.CX P w) k f fd ps (spBX K cls C 4 G) ∧ mg "reached" = some (.ref f) ∧ PySem.W.keepIn K (.ref f) = true ∧ Binds K fd ps [] ∧ Binds K fd ps ds ∧ Vals [.int 2000] ds
end
def eRch (C : Addr) (i : Nat) (dfl : List PyData) (G : List (Str × PyData) → List PyData → Option (Except Nat PyData)) (ga : En → Option (List PyData)) : En → Option PyData := fun δ => (eB C i δ).bind fun kn => (ga δ).bind fun ds => if (ds ++ dfl).length = 4 then (G kn (ds ++ dfl)).bind fun r => match r with | .ok d => some d | .error _ => none else none
def nRch (C : Addr) (i : Nat) (G : List (Str × PyData) → List PyData → Option (Except Nat PyData)) (ga : En → Option (List PyData)) : En → Option Nat := fun δ => (eB C i δ).bind fun kn => (ga δ).bind fun ds => if ds.length = 4 then (G kn ds).bind fun r => match r with | .ok _ => none | .error t => some t else none
section
variable {X : Cx} {E : XK} {cls : Nat → Value} {C : Addr} {i : Nat} {y : Str} {p p2 pos : Pos} {e : Expr} {es : List Expr} {ga : En → Option (List PyData)} {k : Nat} {G : List (Str × PyData) → List PyData → Option (Except Nat PyData)}
theorem d_rch (dfl : List PyData) (hdf : dfl = [] ∨ dfl = [.int 2000]) (M : FnR4 X.prog X.w X.K X.mg X.base cls k C G) (hr : Room k X.A) (ha : PA X es (tA X.K ga)) (hg : Gl X "reached" := by rfl) (hN : X.N[i]? = some y := by rfl) (hv : Vis X.env.scope y := by first | exact Or.inl rfl | exact Or.inr (Or.inl rfl) | exact Or.inr (Or.inr rfl))
    (hd : (y == ("__debug__" : Str)) = false := by decide) (hcd : (y == ("__classdict__" : Str)) = false := by decide)
    (he : starEach (.Name y p2 :: es) X.env = (false, eval (.Name y p2) X.env) :: starEach es X.env := by rfl) (hpl : (backTo pos (starEach es X.env)).any (·.1) = false := by rfl) :
    PE X (.Call (.Name "reached" p) (.Name y p2 :: es) [] pos) (tE X.K (eRch C i dfl G ga)) := by
  obtain ⟨f, fd, ps, ds0, F, hm, hk, hb, hb2, hv2⟩ := M.ex
  have main : ∀ {dvs : List V} {dss : List Value}, Binds X.K fd ps dss → Vals dvs dss → (∀ H, DpAll X.K H dvs dfl) → PE X (.Call (.Name "reached" p) (.Name y p2 :: es) [] pos) (tE X.K (eRch C i dfl G ga)) := fun {dvs dss} hB hV hD => by
    refine PE.imp (pe_call F hr hg hm hk hB hV pass_false (pa_cons (pv i hN hv hd hcd) ha he) (by decide) he hpl) fun σ H Q h => ?_
    obtain ⟨Hb, δ, S, r, hr, O⟩ := h
    obtain ⟨kn, hk, hr⟩ := Option.bind_eq_some_iff.mp hr
    obtain ⟨ds, hds, hr⟩ := Option.bind_eq_some_iff.mp hr
    split at hr
    · rename_i hn
      obtain ⟨r0, hr0, he1⟩ := Option.bind_eq_some_iff.mp hr
      split at he1
      · cases he1
        obtain ⟨a, dx, fs, g1, g2, g3, g4, g5⟩ := eB_of S hk
        refine ⟨_, g1, Hb, δ, S, ds, hds, fun vs H1 s hvs => ?_⟩
        have sx := sub_ex (H' := H1) S.bs
        exact ⟨_, kn, _, vs ++ dvs, ds ++ dfl, rfl, g5.same sx, hvs.append (hD _), hn, ex_sub S.bs s, .inl ⟨r, hr0, ex_sub S.bs s, fun v' H2 s2 h2 => O.go v' H2 (s.trans s2) (by rw [ex_trans s s2] at h2; exact h2)⟩⟩
      · cases he1
    · cases hr
  rcases hdf with rfl | rfl
  · exact main hb .nil fun H => .nil
  · exact main hb2 hv2 fun H => .one (.int 2000)
theorem d_rchS {W : WX} (M : FnR4 X.prog X.w X.K X.mg X.base cls k C G) (hr : Room k X.A) (tk : Takes X W) (ha : PA X es (tA X.K ga)) (hg : Gl X "reached" := by rfl) (hN : X.N[i]? = some y := by rfl) (hv : Vis X.env.scope y := by first | exact Or.inl rfl | exact Or.inr (Or.inl rfl) | exact Or.inr (Or.inr rfl))
    (hd : (y == ("__debug__" : Str)) = false := by decide) (hcd : (y == ("__classdict__" : Str)) = false := by decide)
    (he : starEach (.Name y p2 :: es) X.env = (false, eval (.Name y p2) X.env) :: starEach es X.env := by rfl) (hpl : (backTo pos (starEach es X.env)).any (·.1) = false := by rfl) :
    PE X (.Call (.Name "reached" p) (.Name y p2 :: es) [] pos) (tRS X.K W cls (nRch C i G ga)) := by
  obtain ⟨f, fd, ps, ds0, F, hm, hk, hb, hb2, hv2⟩ := M.ex
  refine PE.imp (pe_callSd (E := WE W) F hr hg hm hk hb .nil (passAt tk) (pa_cons (pv i hN hv hd hcd) ha he) (by decide) he hpl) fun σ H Q h => ?_
  obtain ⟨Hb, δ, S, t, ht, O⟩ := h
  obtain ⟨kn, hk, hr⟩ := Option.bind_eq_some_iff.mp ht
  obtain ⟨ds, hds, hr⟩ := Option.bind_eq_some_iff.mp hr
  split at hr
  · rename_i hn
    obtain ⟨r0, hr0, he1⟩ := Option.bind_eq_some_iff.mp hr
    split at he1
    · cases he1
    · cases he1
      obtain ⟨a, dx, fs, g1, g2, g3, g4, g5⟩ := eB_of S hk
      refine ⟨_, g1, Hb, δ, S, ds, hds, fun vs H1 s hvs => ?_⟩
      have sx := sub_ex (H' := H1) S.bs
      refine ⟨_, kn, _, vs ++ [], ds, rfl, g5.same sx, by rw [List.append_nil]; exact hvs, hn, ex_sub S.bs s, .inr ⟨t, hr0, fun H' dd s2 => O H' dd (s.trans s2)⟩⟩
  · cases hr
theorem ds_exprRS {W : WX} {f : En → Option Nat} (ha : PE X e (tRS X.K W cls f)) (hs : swapsWith e none pos.line X.env = pure false := by rfl) : PS X (.Expr e pos) (tSR X.K W cls f) := PS.imp (ps_expr ha hs) fun D σ H h => h
/-- try: e / except TooMany: y = True -/
def hdT (i : Nat) : Nat → En → Option Res := fun t δ => if t = 3 then some (.nx (δ.set i (.d (.bool true)))) else none
def sNone : En → Option Res := fun _ => none
theorem ds_tryT {CT : Addr} {b : Stmt} {er : En → Option Nat} {i : Nat} {y : Str} {py p0 q0 r0 c0 : Pos} {j0 : Nat} (T : TooM X.K X.mg CT) (hx : PySem.W.exmOne X.K (cls 3) (.ref CT) = some true) (hs : X.stack = X.env :: X.outer) (hf : X.env.frame = some X.env.locals) (g0 : Gl X "TooMany") (tk : Takes X (fun _ _ _ _ => False))
    (h2 : ∀ (W : WX) (pn : List (Addr × Obj)) (xe : Value → Shared → Prop), Takes (X.tr pn xe) W → PS (X.tr pn xe) b (tSR X.K W cls er))
    (h4 : ∀ (a : Addr) (pn : List (Addr × Obj)), PS (X.suite a pn) (.Assign [.Name y py] (.Constant (.bool true) j0 c0) q0) (tS X.K E cls (sAsg (eC (.bool true)) (.nm i)))) :
    PS X (.Try [b] [.ExceptHandler (some (.Name "TooMany" p0)) none [.Assign [.Name y py] (.Constant (.bool true) j0 c0) q0] r0] [] [] pos)
      (tS X.K E cls (sTry sNone er (hdT i) sNil)) := by
  have n0 : Names X "TooMany" (.ref CT) := ⟨g0, by decide, .inl T.g⟩
  refine PS.imp (ps_try_manyE (tb := fun W D σ H => tSR X.K W cls er D σ H) (l := [(.ref CT, fun _ _ _ => tS X.K E cls (sAsg (eC (.bool true)) (.nm i)))]) (u := tS X.K E cls sNil) ds_nil hs hf tk ?_
    (.cons n0 (fun a oe c d pn _ _ => pss_one (h4 a _)) .nil)) fun D σ H h => ?_
  · intro W pn xe tkW _
    exact pss_one (h2 W pn xe tkW)
  · obtain ⟨Hb0, H0, Hb, δ, S, r, hr, P⟩ := h
    obtain ⟨t, ht, hr⟩ := Option.bind_eq_some_iff.mp (show (er δ).bind (fun t => hdT i t δ) = some r from hr)
    unfold hdT at hr
    split at hr
    · rename_i lt
      cases hr
      subst lt
      refine ⟨Hb, δ, S.sta, 3, ht, fun H' dd s => ⟨true, hx, fun _ a ha => ?_, fun hn => by cases hn⟩⟩
      exact ⟨Hb0, H0, _, δ, S.grow s, _, rfl, fun σ' H2 Hb' s2 S2 => P σ' H2 Hb' ((sub_ex S.bs).trans s2) S2⟩
    · cases hr
end
/-! ### _law_book = Book(_law_texts()) -/
section
variable {K : PySem.W.Frag} {Hb0 H0 Hb H H' : Hp} {σ : L2.St} {δ : En}
theorem Sta.setK (S : Sta K Hb H σ δ) {i : Nat} {v : V} {C : Addr} {fk : List (Str × Fk)} (h : ObjAt K Hb C fk v) : Sta K Hb H (σ.set i (some v)) (δ.set i (.k C fk)) where
  bs := S.bs
  len := by rw [List.length_set, List.length_set]; exact S.len
  da := fun j x e => by
    rcases getElem?_set' e with ⟨rfl, q⟩ | ⟨ne, q⟩
    · cases q
    · obtain ⟨w, h1, h2⟩ := S.da j x q
      exact ⟨w, by rw [List.getElem?_set_ne ne]; exact h1, h2⟩
  ow := fun j x e => by
    rcases getElem?_set' e with ⟨rfl, q⟩ | ⟨ne, q⟩
    · cases q
    · obtain ⟨a, vs, h1, h2, h3, h4⟩ := S.ow j x q
      exact ⟨a, vs, by rw [List.getElem?_set_ne ne]; exact h1, h2, h3, h4⟩
  dj := fun j k xs ys a e1 e2 e3 e4 => by
    rcases getElem?_set' e1 with ⟨rfl, q⟩ | ⟨ne, q⟩
    · cases q
    · rcases getElem?_set' e2 with ⟨rfl, q2⟩ | ⟨ne2, q2⟩
      · cases q2
      · rw [List.getElem?_set_ne ne] at e3
        rw [List.getElem?_set_ne ne2] at e4
        exact S.dj j k xs ys a q q2 e3 e4
  bk := fun j C' kn e => by
    rcases getElem?_set' e with ⟨rfl, q⟩ | ⟨ne, q⟩
    · cases q
      have hl := set_lt e
      exact ⟨v, by rw [List.getElem?_set_self (by rw [S.len]; exact hl)], h⟩
    · obtain ⟨w, h1, h2⟩ := S.bk j C' kn q
      exact ⟨w, by rw [List.getElem?_set_ne ne]; exact h1, h2⟩
theorem Stt.setK (S : Stt K Hb0 H0 Hb H σ δ) {i : Nat} {v : V} {C : Addr} {fk : List (Str × Fk)} (h : ObjAt K Hb C fk v) : Stt K Hb0 H0 Hb H (σ.set i (some v)) (δ.set i (.k C fk)) :=
  ⟨S.sta.setK h, S.s0, S.b0, S.bb, fun j xs a e1 e2 => by
    rcases getElem?_set' e1 with ⟨rfl, q⟩ | ⟨ne, q⟩
    · cases q
    · rw [List.getElem?_set_ne ne] at e2
      exact S.fr j xs a q e2⟩
end
def sBook (i : Nat) (C : Addr) (kn : List (Str × PyData)) : En → Option Res := fun δ => some (.nx (δ.set i (.k C (bkF kn))))
section
variable {X : Cx} {E : XK} {cls : Nat → Value} {i : Nat} {x : Str} {p1 p2 p3 p4 pos py : Pos}
theorem ds_book {f fI C : Addr} {fd fdI : FuncData} {psI : List Str} {k kI : Nat} {kn : List (Str × PyData)} (F : FnOk X.prog X.w X.K X.mg X.base CX0 k f fd [] spLT) (hr : Room k X.A) (hm : X.mg "_law_texts" = some (.ref f)) (hk : PySem.W.keepIn X.K (.ref f) = true) (hb : Binds X.K fd [] []) (hg : Gl X "_law_texts")
    (M : Mk X.K C fI) (FI : FnOk X.prog X.w X.K X.mg X.base CX0 kI fI fdI psI (spBI X.K C kn)) (hrI : Room (kI + 1) X.A) (gB : X.mg "Book" = some (.ref C)) (bI : Binds X.K fdI psI []) (hgB : Gl X "Book")
    (hN : X.N.Nodup) (hi : X.N[i]? = some x := by rfl) (hx : Loc X.env.scope x := by first | exact Or.inl rfl | exact Or.inr rfl)
    (hs1 : starEach [.Call (.Name "_law_texts" p1) [] [] p2] X.env = (false, eval (.Call (.Name "_law_texts" p1) [] [] p2) X.env) :: starEach [] X.env := by rfl) (hpl : (backTo p4 (starEach [] X.env)).any (·.1) = false := by rfl)
    (hs : swapsWith (.Call (.Name "Book" p3) [.Call (.Name "_law_texts" p1) [] [] p2] [] p4) (some (.Name x py)) pos.line X.env = pure false := by rfl) (hf : X.fn x = true ∨ X.env.scope.names.lookup x = some .local := by first | exact .inl rfl | exact .inr rfl | assumption) :
    PS X (.Assign [.Name x py] (.Call (.Name "Book" p3) [.Call (.Name "_law_texts" p1) [] [] p2] [] p4) pos) (tS X.K E cls (sBook i C kn)) :=
  PS.imp (ps_set hN hi hx (pe_make (E := E0) M FI hrI hgB gB bI .nil pass0 (pa_cons (pe_call0 (E := E0) F hr hg hm hk hb .nil pass0) pa_nil hs1) (by decide) hs1 hpl) hs hf) fun D σ H ⟨Hb0, H0, Hb, δ, S, r, hr, P⟩ => by
  cases hr
  refine ⟨rfl, fun H1 d s hd hd1 => ?_⟩
  intro y dx hy hdx hne
  refine ⟨H1, Hb, y, dx, d, rfl, rfl, hy, hdx, hne, S.bs.trans s, hd1, S.bs.free hd, fun H' s' O => ⟨rfl, ?_⟩⟩
  have S1 := S.grow (s.trans s')
  refine P _ _ _ (sub_ex S.bs) (S1.setK (O.same fun b u e => ?_))
  cases q : H1 b with
  | some z =>
    rw [ex_old (by rw [q]; rfl)] at e
    rw [ex_old (by rw [S.bs _ _ e]; rfl)]
    exact e
  | none =>
    rw [ex_new q] at e
    rw [ex_new (s.free q)]
    exact e
end
end SQ
/-! ## SqLa -/
set_option Elab.async false
set_option linter.all false
set_option maxRecDepth 100000
set_option maxHeartbeats 4000000
namespace SQ
open PySem PySem.Spec L2 TL
open PyProof.Rows (envOfC)
section
variable {P : Program} {w : World} {K : PySem.W.Frag} {mg : Str → Option Value} {base : Heap}

variable {cls : Nat → Value}
theorem room65 {k : Nat} {A : Around} (r : Room k A) : A.units + 65 < cLine := by have := r.un; omega
def G_bcall (kn : List (Str × PyData)) (ds : List PyData) : Option PyData := match ds with
  | [.str nm] => (F_is_call_name [.str nm]).bind fun b => match b with
    | .bool true => (kn.lookup nm).bind fun d => (match d with | .list rs => some (.list rs) | _ => none)
    | _ => none
  | _ => none
def G_bnames (CB : Addr) : List (Str × PyData) → List PyData → Option PyData := runO 1 CB (g_bnames CB)
theorem tS_cls {E : XK} {cls cls' : Nat → Value} {g : En → Option Res} {D : Ends} {σ : L2.St} {H : Hp} (h : tS K E0 cls' g D σ H) : tS K E0 cls g D σ H := by
  obtain ⟨Hb0, H0, Hb, δ, S, r, hr, P⟩ := h
  refine ⟨Hb0, H0, Hb, δ, S, r, hr, ?_⟩
  cases r with
  | nx δ' => exact P
  | rt d => exact P
  | ex t => exact fun H' dd s => (P H' dd s).elim
def aDB (CB : Addr) : En → Option (List PyData) := aCons (eV 1) (aCons (eBcall CB 0 G_bcall (eV 2)) aNil)
def g__law_behind (CB : Addr) : En → Option Res :=
  sSeq (sAsg (eC .none) (.nm 3)) (sSeq (sTry (sAsg (eA (okX 2 fun ds => X_danced (ds ++ [.none])) (aDB CB)) (.nm 3)) (fun δ => (aDB CB δ).bind (erX 2 fun ds => X_danced (ds ++ [.none]))) (hdS 3) sNil) (sRet (eV 3)))
def O__law_behind (CB : Addr) : List (Str × PyData) → List PyData → Option PyData := runO 4 CB (g__law_behind CB)
theorem sc__law_behind : FnScope ["_law_book", "_law_floor", "_law_name", "_law_found"] ["_law_book", "_law_floor", "_law_name"] (defScope (top 70)) := ⟨rfl, rfl, rfl, by decide +kernel, rfl, by decide +kernel, by decide +kernel⟩
theorem fd__law_behind {CB : Addr} (M : Ctch K mg cls) (D : Dfn K mg "_law_behind" (top 70) ["_law_book", "_law_floor", "_law_name"]) (h_danced : FnY P w K mg base cls 7 "danced" 2 [.none] X_danced) (bk : BkC K CB) (FC : MtOk P w K mg base CX0 2 CB "call" (spO K CB 1 G_bcall)) :
    FnB P w K mg base 8 "_law_behind" CB 2 (O__law_behind CB) :=
  fnB_of D sc__law_behind fun f cdv A outer s H E hr => by
    have S := sc__law_behind
    exact PSs.imp (t := tS K E0 cls (g__law_behind CB)) (ds_cons (ds_set (i := 3) S.nd d_non) (ds_cons (ds_try1 (i := 3) M rfl rfl (by rfl) S.nd (by rfl) takes0
      (fun pn xe => ds_set (i := 3) S.nd (d_fnYok h_danced (hr.mono (by decide)) (da_cons (dv 1) (da_cons (d_bcall (i := 0) bk FC (hr.mono (by decide)) (dv 2)) da_nil))))
      (fun W pn xe tk => ds_setRS (i := 3) S.nd (d_fnYerS h_danced (hr.mono (by decide)) tk (da_cons (dv 1) (da_cons (d_bcall (i := 0) bk FC (hr.mono (by decide)) (dv 2)) da_nil))))
      (fun a pn => ds_set (i := 3) S.nd d_non))
      (ds_one (ds_ret (dv 3))))) fun D σ H h => tS_cls (E := E0) h

def g__law_cell_at : En → Option Res :=
  (sSeq (sIf (cE (e2 ltI (eV 1) (e1 lenD (eV 0))))
  (sRet (e2 ixD (eV 0) (eV 1)))
  sNil)
  (sRet (eC (.int 0))))
def F__law_cell_at : List PyData → Option PyData := runG 2 g__law_cell_at
theorem sc__law_cell_at : FnScope ["_law_script", "_law_k"] ["_law_script", "_law_k"] (defScope (top 67)) := ⟨rfl, rfl, rfl, by decide +kernel, rfl, by decide +kernel, by decide +kernel⟩
theorem fd__law_cell_at (B : Bt K w mg) (D : Dfn K mg "_law_cell_at" (top 67) ["_law_script", "_law_k"]) : FnD P w K mg base 1 "_law_cell_at" 2 (F__law_cell_at) :=
  fnd_of D sc__law_cell_at fun f cdv A outer s H E hr => by
    have S := sc__law_cell_at
    exact (ds_cons (ds_if (dt_cmp (od_lt) (dv 1) (d_len (by rfl) B.len (dv 0)))
    (ds_one (ds_ret (d_ix (dv 0) (dv 1))))
    ds_nil)
    (ds_one (ds_ret d_int)))
def g__law_rows (CB : Addr) : En → Option Res :=
  (sSeq (sLst 4 (aCons (eA tupD (aCons (eA (gN 1 F_form) (aCons (eV 1) aNil)) (aCons (eC (.int 0)) (aCons (eC .none) (aCons (eC .none) aNil))))) aNil))
  (sSeq (sLst 5 (aCons (eA (gN 1 F_form) (aCons (eV 1) aNil)) aNil))
  (sSeq (sAsg (eC (.int 0)) (.nm 6))
  (sSeq (whileD (cFrz 4 (cAnd (cE (e2 ltI (eV 6) (e1 lenD (eV 4)))) (cE (e2 ltI (e2 ixD (e2 ixD (eV 4) (eV 6)) (eC (.int 1))) (eV 3)))))
  (sSeq (sFor (iB (eV 2) lsD) (.nm 7)
  (sSeq (sAsg (eFnB CB 0 2 (O__law_behind CB) (aCons (e2 ixD (eIxO 4 (eV 6)) (eC (.int 0))) (aCons (eV 7) aNil))) (.nm 8))
  (sIf (cFrz 5 (cAnd (cE (e2 notN (eV 8) (eC .none))) (cE (e2 ninG (eA (gN 1 F_form) (aCons (eV 8) aNil)) (eV 5)))))
  (sSeq (sApp 5 (eA (gN 1 F_form) (aCons (eV 8) aNil)))
  (sApp 4 (eA tupD (aCons (eA (gN 1 F_form) (aCons (eV 8) aNil)) (aCons (e2 addI (e2 ixD (eIxO 4 (eV 6)) (eC (.int 1))) (eC (.int 1))) (aCons (eV 6) (aCons (eV 7) aNil)))))))
  sNil)))
  (sAsg (e2 addI (eV 6) (eC (.int 1))) (.nm 6))) 100)
  (sFrz 4 (sRet (eV 4)))))))
def O__law_rows (CB : Addr) : List (Str × PyData) → List PyData → Option PyData := runO 9 CB (g__law_rows CB)
theorem sc__law_rows : FnScope ["_law_book", "_law_floor", "_law_names_here", "_law_length", "_law_rows_here", "_law_forms", "_law_place", "_law_name", "_law_behind_here"] ["_law_book", "_law_floor", "_law_names_here", "_law_length"] (defScope (top 71)) := ⟨rfl, rfl, rfl, by decide +kernel, rfl, by decide +kernel, by decide +kernel⟩
theorem fd__law_rows {CB : Addr} (B : Bt K w mg) (D : Dfn K mg "_law_rows" (top 71) ["_law_book", "_law_floor", "_law_names_here", "_law_length"]) (h_form : FnD P w K mg base 2 "form" 1 F_form) (h__law_behind : FnB P w K mg base 8 "_law_behind" CB 2 (O__law_behind CB)) : FnB P w K mg base 9 "_law_rows" CB 3 (O__law_rows CB) :=
  fnB_of D sc__law_rows fun f cdv A outer s H E hr => by
    have S := sc__law_rows
    exact (ds_cons (ds_lst (i := 4) S.nd (da_cons (d_tup (da_cons (d_fn h_form (hr.mono (by decide)) (da_cons (dv 1) da_nil)) (da_cons d_int (da_cons d_non (da_cons d_non da_nil))))) da_nil))
    (ds_cons (ds_lst (i := 5) S.nd (da_cons (d_fn h_form (hr.mono (by decide)) (da_cons (dv 1) da_nil)) da_nil))
    (ds_cons (ds_set (i := 6) S.nd d_int)
    (ds_cons (ds_while (n := 100) PassesOwn.never (dt_frz 4 ((dw_and (dt_cmp (od_lt) (dv 6) (d_len (by rfl) B.len (dv 4))) (dw_and1 (dt_cmp (od_lt) (d_ix (d_ix (dv 4) (dv 6)) d_int) (dv 3))))).pt)
    (ds_cons (ds_for PassesOwn.never (by rfl) (di_list (dv 2)) (dg_name (i := 7) S.nd)
    (ds_cons (ds_set (i := 8) S.nd (d_fnB (i := 0) h__law_behind (hr.mono (by decide)) (da_cons (d_ix (d_ixO (i := 4) (dv 6)) d_int) (da_cons (dv 7) da_nil))))
    (ds_one (ds_if (dt_frz 5 ((dw_and (dt_cmp (od_notN) (dv 8) d_non) (dw_and1 (dt_cmp (od_ninG (room65 hr)) (d_fn h_form (hr.mono (by decide)) (da_cons (dv 8) da_nil)) (dv 5))))).pt)
    (ds_cons (ds_app (i := 5) (d_fn h_form (hr.mono (by decide)) (da_cons (dv 8) da_nil)))
    (ds_one (ds_app (i := 4) (d_tup (da_cons (d_fn h_form (hr.mono (by decide)) (da_cons (dv 8) da_nil)) (da_cons (d_op od_addI (d_ix (d_ixO (i := 4) (dv 6)) d_int) d_int) (da_cons (dv 6) (da_cons (dv 7) da_nil))))))))
    ds_nil))))
    (ds_one (ds_set (i := 6) S.nd (d_op od_addI (dv 6) d_int)))))
    (ds_frz (i := 4) (ds_one (ds_ret (dv 4))))))))
def g__law_first (CB : Addr) : En → Option Res :=
  (sSeq (sAsg (eC d_HOME) (.nm 2))
  (sSeq (sFor (iB (eSl (eV 1) (pE (eC (.int 2))) (pE (eC (.int 6)))) lsD) (.nm 3)
  (sSeq (sAsg (eFnB CB 0 2 (O__law_behind CB) (aCons (eV 2) (aCons (e2 ixD (eBnms CB 0 (G_bnames CB)) (e2 modI (eV 3) (e1 lenD (eBnms CB 0 (G_bnames CB))))) aNil))) (.nm 4))
  (sIf (cE (e2 notN (eV 4) (eC .none)))
  (sAsg (eV 4) (.nm 2))
  sNil)))
  (sRet (eA (gN 2 F_turned) (aCons (eV 2) (aCons (e2 modI (eA (gN 2 F__law_cell_at) (aCons (eV 1) (aCons (eC (.int 2)) aNil))) (eC (.int 4))) aNil))))))
def O__law_first (CB : Addr) : List (Str × PyData) → List PyData → Option PyData := runO 5 CB (g__law_first CB)
theorem sc__law_first : FnScope ["_law_book", "_law_script", "_law_floor", "_law_cell", "_law_behind_here"] ["_law_book", "_law_script"] (defScope (top 72)) := ⟨rfl, rfl, rfl, by decide +kernel, rfl, by decide +kernel, by decide +kernel⟩
theorem fd__law_first {CB : Addr} (B : Bt K w mg) (D : Dfn K mg "_law_first" (top 72) ["_law_book", "_law_script"]) (h__law_behind : FnB P w K mg base 8 "_law_behind" CB 2 (O__law_behind CB)) (h__law_cell_at : FnD P w K mg base 1 "_law_cell_at" 2 F__law_cell_at) (h_turned : FnD P w K mg base 1 "turned" 2 F_turned) (bk : BkC K CB) (FN : MtOk P w K mg base CX0 2 CB "names" (spO K CB 0 (G_bnames CB))) : FnB P w K mg base 9 "_law_first" CB 1 (O__law_first CB) :=
  fnB_of D sc__law_first fun f cdv A outer s H E hr => by
    have S := sc__law_first
    exact (ds_cons (ds_set (i := 2) S.nd (d_cst B.HOME))
    (ds_cons (ds_for PassesOwn.never (by rfl) (di_list (d_sl (dv 1) (dp_some d_int) (dp_some d_int))) (dg_name (i := 3) S.nd)
    (ds_cons (ds_set (i := 4) S.nd (d_fnB (i := 0) h__law_behind (hr.mono (by decide)) (da_cons (dv 2) (da_cons (d_ix (d_bnames (i := 0) bk FN (hr.mono (by decide))) (d_op od_modI (dv 3) (d_len (by rfl) B.len (d_bnames (i := 0) bk FN (hr.mono (by decide)))))) da_nil))))
    (ds_one (ds_if (dt_cmp (od_notN) (dv 4) d_non)
    (ds_one (ds_set (i := 2) S.nd (dv 4)))
    ds_nil))))
    (ds_one (ds_ret (d_fn h_turned (hr.mono (by decide)) (da_cons (dv 2) (da_cons (d_op od_modI (d_fn h__law_cell_at (hr.mono (by decide)) (da_cons (dv 1) (da_cons d_int da_nil))) d_int) da_nil)))))))
def g_law (CB : Addr) (kn : List (Str × PyData)) (G_rch : List (Str × PyData) → List PyData → Option (Except Nat PyData)) : En → Option Res :=
  (sSeq (sBook 1 CB kn)
  (sSeq (sAsg (e2 modI (e2 mulI (eA (gN 2 F__law_cell_at) (aCons (eV 0) (aCons (eC (.int 0)) aNil))) (eC (.int 69621))) (eC (.int 2147483629))) (.nm 2))
  (sSeq (sAsg (eA (gN 2 F__law_names) (aCons (e2 divI (eV 2) (eC (.int 4))) (aCons (e2 addI (eC (.int 1)) (e2 modI (eV 2) (eC (.int 4)))) aNil))) (.nm 3))
  (sSeq (sAsg (eA (gN 2 F__law_cell_at) (aCons (eV 0) (aCons (eC (.int 1)) aNil))) (.nm 4))
  (sSeq (sAsg (e2 modI (eV 4) (eC (.int 4))) (.nm 5))
  (sSeq (sIf (cE (e2 eqD (e2 modI (e2 divI (eV 4) (eC (.int 4))) (eC (.int 4))) (eC (.int 1))))
  (sSeq (sAsg (eSl (eV 3) pN (pE (e2 addI (eC (.int 1)) (e2 modI (e2 divI (eV 2) (eC (.int 60))) (eC (.int 2)))))) (.nm 3))
  (sAsg (e2 addI (eC (.int 4)) (e2 modI (e2 divI (eV 4) (eC (.int 16))) (e2 ixD (eA lstD (aCons (eC (.int 9)) (aCons (eC (.int 2)) aNil))) (e2 subI (e1 lenD (eV 3)) (eC (.int 1)))))) (.nm 5)))
  sNil)
  (sSeq (sAsg (eFnB CB 1 1 (O__law_first CB) (aCons (eV 0) aNil)) (.nm 6))
  (sSeq (sAsg (eFnB CB 1 3 (O__law_rows CB) (aCons (eV 6) (aCons (eV 3) (aCons (eV 5) aNil)))) (.nm 7))
  (sSeq (sAsg (e1 listD (eV 3)) (.nm 8))
  (sSeq (sAsg (eRch CB 1 [.int 2000] G_rch (aCons (eV 6) (aCons (eV 8) (aCons (eV 5) aNil)))) (.nm 9))
  (sSeq (sIf (cOr (cNot (cE (e1 (isI "list") (eV 9)))) (cOr (cE (e2 neD (eV 9) (eV 7))) (cE (e2 neD (eV 8) (eV 3)))))
  (sRet (eC (.bool false)))
  sNil)
  (sSeq (sFor (iB (eV 9) lsD) (.nm 10)
  (sIf (cOr (cNot (cE (e1 (isI "tuple") (eV 10)))) (cOr (cE (e1 (isI "bool") (e2 ixD (eV 10) (eC (.int 1))))) (cE (e1 (isI "bool") (e2 ixD (eV 10) (eC (.int 2)))))))
  (sRet (eC (.bool false)))
  sNil))
  (sSeq (sIf (cE (e2 neD (eRch CB 1 [] G_rch (aCons (eV 6) (aCons (eV 3) (aCons (eV 5) (aCons (e1 lenD (eV 7)) aNil))))) (eV 7)))
  (sRet (eC (.bool false)))
  sNil)
  (sSeq (sIf (cE (e2 neD (eRch CB 1 [.int 2000] G_rch (aCons (eA (gN 2 F_turned) (aCons (eV 6) (aCons (e2 addI (eC (.int 1)) (e2 modI (eV 2) (eC (.int 3)))) aNil))) (aCons (eV 3) (aCons (eV 5) aNil)))) (eV 7)))
  (sRet (eC (.bool false)))
  sNil)
  (sSeq (sIf (cE (e2 eqD (e1 lenD (eV 7)) (eC (.int 1))))
  (sRet (eC (.bool true)))
  sNil)
  (sSeq (sAsg (eC (.bool false)) (.nm 11))
  (sSeq (sTry sNone (nRch CB 1 G_rch (aCons (eV 6) (aCons (eV 3) (aCons (eV 5) (aCons (e2 subI (e1 lenD (eV 7)) (eC (.int 1))) aNil))))) (hdT 11) sNil)
  (sRet (eV 11)))))))))))))))))))

theorem sc_law : FnScope ["_law_script", "_law_book", "_law_number", "_law_names_here", "_law_cell", "_law_length", "_law_floor", "_law_due", "_law_handed", "_law_found", "_law_row", "_law_refused"] ["_law_script"] (defScope (top 73)) := ⟨rfl, rfl, rfl, by decide +kernel, rfl, by decide +kernel, by decide +kernel⟩
def F_law (CB : Addr) (kn : List (Str × PyData)) (G_rch : List (Str × PyData) → List PyData → Option (Except Nat PyData)) : List PyData → Option PyData := runG 12 (g_law CB kn G_rch)
theorem fd_law {CB : Addr} {kn : List (Str × PyData)} {G_rch : List (Str × PyData) → List PyData → Option (Except Nat PyData)} {cls : Nat → Value} (B : Bt K w mg) (D : Dfn K mg "law" (top 73) ["_law_script"]) (h__law_cell_at : FnD P w K mg base 1 "_law_cell_at" 2 F__law_cell_at) (h__law_names : FnD P w K mg base 3 "_law_names" 2 F__law_names) (h__law_first : FnB P w K mg base 9 "_law_first" CB 1 (O__law_first CB)) (h__law_rows : FnB P w K mg base 9 "_law_rows" CB 3 (O__law_rows CB)) (h_turned : FnD P w K mg base 1 "turned" 2 F_turned) {fT fI CT : Addr} {fdT fdI : FuncData} {psI : List Str} (h_reached : FnR4 P w K mg base cls 11 CB G_rch) (FT : FnOk P w K mg base CX0 2 fT fdT [] spLT) (mT : mg "_law_texts" = some (.ref fT)) (kT : PySem.W.keepIn K (.ref fT) = true) (bT : Binds K fdT [] []) (MB : Mk K CB fI) (FB : FnOk P w K mg base CX0 7 fI fdI psI (spBI K CB kn)) (gB : mg "Book" = some (.ref CB)) (bB : Binds K fdI psI []) (TM : TooM K mg CT) (hex : PySem.W.exmOne K (cls 3) (.ref CT) = some true) : FnD P w K mg base 12 "law" 1 (F_law CB kn G_rch) :=
  fnd_of D sc_law fun f cdv A outer s H E hr => by
    have S := sc_law
    exact (PSs.imp (t := tS K E0 cls (g_law CB kn G_rch)) ((ds_cons (ds_book (i := 1) FT (hr.mono (by decide)) mT kT bT (by rfl) MB FB (hr.mono (by decide)) gB bB (by rfl) S.nd)
    (ds_cons (ds_set (i := 2) S.nd (d_op od_modI (d_op od_mulI (d_fn h__law_cell_at (hr.mono (by decide)) (da_cons (dv 0) (da_cons d_int da_nil))) d_int) d_int))
    (ds_cons (ds_set (i := 3) S.nd (d_fn h__law_names (hr.mono (by decide)) (da_cons (d_op od_divI (dv 2) d_int) (da_cons (d_op od_addI d_int (d_op od_modI (dv 2) d_int)) da_nil))))
    (ds_cons (ds_set (i := 4) S.nd (d_fn h__law_cell_at (hr.mono (by decide)) (da_cons (dv 0) (da_cons d_int da_nil))))
    (ds_cons (ds_set (i := 5) S.nd (d_op od_modI (dv 4) d_int))
    (ds_cons (ds_if (dt_cmp (od_eq (hr.units)) (d_op od_modI (d_op od_divI (dv 4) d_int) d_int) d_int)
    (ds_cons (ds_set (i := 3) S.nd (d_sl (dv 3) dp_none (dp_some (d_op od_addI d_int (d_op od_modI (d_op od_divI (dv 2) d_int) d_int)))))
    (ds_one (ds_set (i := 5) S.nd (d_op od_addI d_int (d_op od_modI (d_op od_divI (dv 4) d_int) (d_ix (d_lst (da_cons d_int (da_cons d_int da_nil))) (d_op od_subI (d_len (by rfl) B.len (dv 3)) d_int)))))))
    ds_nil)
    (ds_cons (ds_set (i := 6) S.nd (d_fnB (i := 1) h__law_first (hr.mono (by decide)) (da_cons (dv 0) da_nil)))
    (ds_cons (ds_set (i := 7) S.nd (d_fnB (i := 1) h__law_rows (hr.mono (by decide)) (da_cons (dv 6) (da_cons (dv 3) (da_cons (dv 5) da_nil)))))
    (ds_cons (ds_set (i := 8) S.nd (d_listOf (by rfl) B.list (dv 3)))
    (ds_cons (ds_set (i := 9) S.nd (d_rch (i := 1) [.int 2000] (Or.inr rfl) h_reached (hr.mono (by decide)) (da_cons (dv 6) (da_cons (dv 8) (da_cons (dv 5) da_nil)))))
    (ds_cons (ds_if ((dw_or (dt_not (dt_val (d_isi (pe_ty (T := "list") (by rfl) B.list (by decide +kernel)) (by rfl) B.isinstance (dv 9)))) (dw_or (dt_cmp (od_ne (hr.units)) (dv 9) (dv 7)) (dw_or1 (dt_cmp (od_ne (hr.units)) (dv 8) (dv 3)))))).pt
    (ds_one (ds_ret d_bl))
    ds_nil)
    (ds_cons (ds_for PassesOwn.never (by rfl) (di_list (dv 9)) (dg_name (i := 10) S.nd)
    (ds_one (ds_if ((dw_or (dt_not (dt_val (d_isi (pe_ty (T := "tuple") (by rfl) B.tuple (by decide +kernel)) (by rfl) B.isinstance (dv 10)))) (dw_or (dt_val (d_isi (pe_ty (T := "bool") (by rfl) B.bool (by decide +kernel)) (by rfl) B.isinstance (d_ix (dv 10) d_int))) (dw_or1 (dt_val (d_isi (pe_ty (T := "bool") (by rfl) B.bool (by decide +kernel)) (by rfl) B.isinstance (d_ix (dv 10) d_int))))))).pt
    (ds_one (ds_ret d_bl))
    ds_nil)))
    (ds_cons (ds_if (dt_cmp (od_ne (hr.units)) (d_rch (i := 1) [] (Or.inl rfl) h_reached (hr.mono (by decide)) (da_cons (dv 6) (da_cons (dv 3) (da_cons (dv 5) (da_cons (d_len (by rfl) B.len (dv 7)) da_nil))))) (dv 7))
    (ds_one (ds_ret d_bl))
    ds_nil)
    (ds_cons (ds_if (dt_cmp (od_ne (hr.units)) (d_rch (i := 1) [.int 2000] (Or.inr rfl) h_reached (hr.mono (by decide)) (da_cons (d_fn h_turned (hr.mono (by decide)) (da_cons (dv 6) (da_cons (d_op od_addI d_int (d_op od_modI (dv 2) d_int)) da_nil))) (da_cons (dv 3) (da_cons (dv 5) da_nil)))) (dv 7))
    (ds_one (ds_ret d_bl))
    ds_nil)
    (ds_cons (ds_if (dt_cmp (od_eq (hr.units)) (d_len (by rfl) B.len (dv 7)) d_int)
    (ds_one (ds_ret d_bl))
    ds_nil)
    (ds_cons (ds_set (i := 11) S.nd d_bl)
    (ds_cons (ds_tryT (i := 11) TM hex rfl rfl (by rfl) takes0 (fun W pn xe tk => ds_exprRS (d_rchS (i := 1) h_reached (hr.mono (by decide)) tk (da_cons (dv 6) (da_cons (dv 3) (da_cons (dv 5) (da_cons (d_op od_subI (d_len (by rfl) B.len (dv 7)) d_int) da_nil)))))) (fun a pn => ds_set (i := 11) S.nd d_bl))
    (ds_one (ds_ret (dv 11))))))))))))))))))))) fun D σ H h => tS_cls (E := E0) h)
end
end SQ
/-! ## SqP1 -/
set_option Elab.async false
set_option linter.all false
set_option maxRecDepth 100000
set_option maxHeartbeats 4000000
/-! the plain law, 1: what the program's functions give -/
namespace SQ
open PySem PySem.Spec L2 TL
section
theorem F_is_spot_int (x y : Int) : F_is_spot [.tuple [.int x, .int y]] = some (.bool (decide ((if x < 0 then -x else x) ≤ 200) && decide ((if y < 0 then -y else y) ≤ 200))) := by
  by_cases h : (if x < 0 then -x else x) ≤ 200 <;> simp [runG, runX, outD, outX, startD, sSeq, thenR, sIf, sRet, sNil, sNo, sAsg, Tg.cut, Tg.ix, setD, sFor, forD, iB, oneL, eV, eC, e1, e2, eA, aNil, aCons, cE, cNot, cAnd, cOr, eAnd, eOr, eNot, eSl, pN, pE, asI, asB, gN, eChain, addI, subI, mulI, modI, divI, ltI, leI, gtI, geI, isN, notN, ixD, tupD, lstD, lenD, absD, maxD, tupleD, tyD, isI, atI, ixN, tuD, lsD, cutD, F_is_spot, g_is_spot, d_FARTHEST, h]
/-- within the bounds -/
def okXYF (x y f : Int) : Prop := (-200 ≤ x ∧ x ≤ 200) ∧ (-200 ≤ y ∧ y ≤ 200) ∧ 0 ≤ f ∧ f < 4
theorem F_is_stand_int (x y f : Int) : ∃ b, F_is_stand [stD x y f] = some (.bool b) ∧ (b = true → okXYF x y f) := by
  have e : F_is_spot [.tuple [.int x, .int y]] = _ := F_is_spot_int x y
  have w2 : ∀ i, F_is_whole [.int i] = some (.bool true) := fun i => rfl
  have k : cutL [PyData.int x, PyData.int y, PyData.int f] none (some 2) = [.int x, .int y] := rfl
  have k2 : HT.sIx 3 0 none = 0 ∧ HT.sIx 3 3 (some 2) = 2 := by decide
  have k3 : kitB "tuple" "tuple" = some true := by decide
  have a1 : ∀ z : Int, (if z < 0 then -z else z) ≤ 200 → -200 ≤ z ∧ z ≤ 200 := fun z h => by split at h <;> omega
  by_cases p1 : (if x < 0 then -x else x) ≤ 200 <;> by_cases p2 : (if y < 0 then -y else y) ≤ 200 <;> by_cases h0 : 0 ≤ f <;> by_cases h4 : f < 4 <;>
    simp [runG, runX, outD, outX, startD, sSeq, thenR, sIf, sRet, sNil, sNo, sAsg, Tg.cut, Tg.ix, setD, sFor, forD, iB, oneL, eV, eC, e1, e2, eA, aNil, aCons, cE, cNot, cAnd, cOr, eAnd, eOr, eNot, eSl, pN, pE, asI, asB, gN, eChain, addI, subI, mulI, modI, divI, ltI, leI, gtI, geI, isN, notN, ixD, tupD, lstD, lenD, absD, maxD, tupleD, tyD, isI, atI, ixN, tuD, lsD, cutD, eqD, neD, F_is_stand, g_is_stand, stD, e, w2, k, k2, k3, SeqAt.shaped, PyData.canLay0, PyData.depth, PyData.eqv, h0, p1, p2, h4]
  exact ⟨a1 x p1, a1 y p2, h0, h4⟩
/-- facing -/
theorem four {f : Int} (h0 : 0 ≤ f) (h4 : f < 4) : f = 0 ∨ f = 1 ∨ f = 2 ∨ f = 3 := by omega
theorem F_spot_from_int {x y f : Int} (h0 : 0 ≤ f) (h4 : f < 4) (a r : Int) : ∃ u v, F_spot_from [stD x y f, .int a, .int r] = some (.tuple [.int u, .int v]) := by
  rcases four h0 h4 with rfl | rfl | rfl | rfl <;> simp [runG, runX, outD, outX, startD, sSeq, thenR, sIf, sRet, sNil, sNo, sAsg, Tg.cut, Tg.ix, setD, sFor, forD, iB, oneL, eV, eC, e1, e2, eA, aNil, aCons, cE, cNot, cAnd, cOr, eAnd, eOr, eNot, eSl, pN, pE, asI, asB, gN, eChain, addI, subI, mulI, modI, divI, ltI, leI, gtI, geI, isN, notN, ixD, tupD, lstD, lenD, absD, maxD, tupleD, tyD, isI, atI, ixN, tuD, lsD, cutD, F_spot_from, g_spot_from, stD, d_AHEAD, sizeLine_eq]
theorem F_partner_int (i : Int) : ∃ v, F_partner [.int i] = some (.int v) := by simp [runG, runX, outD, outX, startD, sSeq, thenR, sIf, sRet, sNil, sNo, sAsg, Tg.cut, Tg.ix, setD, sFor, forD, iB, oneL, eV, eC, e1, e2, eA, aNil, aCons, cE, cNot, cAnd, cOr, eAnd, eOr, eNot, eSl, pN, pE, asI, asB, gN, eChain, addI, subI, mulI, modI, divI, ltI, leI, gtI, geI, isN, notN, ixD, tupD, lstD, lenD, absD, maxD, tupleD, tyD, isI, atI, ixN, tuD, lsD, cutD, F_partner, g_partner]
theorem F_opposite_int (i : Int) : ∃ v, F_opposite [.int i] = some (.int v) := by simp [runG, runX, outD, outX, startD, sSeq, thenR, sIf, sRet, sNil, sNo, sAsg, Tg.cut, Tg.ix, setD, sFor, forD, iB, oneL, eV, eC, e1, e2, eA, aNil, aCons, cE, cNot, cAnd, cOr, eAnd, eOr, eNot, eSl, pN, pE, asI, asB, gN, eChain, addI, subI, mulI, modI, divI, ltI, leI, gtI, geI, isN, notN, ixD, tupD, lstD, lenD, absD, maxD, tupleD, tyD, isI, atI, ixN, tuD, lsD, cutD, F_opposite, g_opposite]
theorem F_is_inner_int (x y f m : Int) : ∃ b, F_is_inner [stD x y f, .int m] = some (.bool b) := by simp [runG, runX, outD, outX, startD, sSeq, thenR, sIf, sRet, sNil, sNo, sAsg, Tg.cut, Tg.ix, setD, sFor, forD, iB, oneL, eV, eC, e1, e2, eA, aNil, aCons, cE, cNot, cAnd, cOr, eAnd, eOr, eNot, eSl, pN, pE, asI, asB, gN, eChain, addI, subI, mulI, modI, divI, ltI, leI, gtI, geI, isN, notN, ixD, tupD, lstD, lenD, absD, maxD, tupleD, tyD, isI, atI, ixN, tuD, lsD, cutD, F_is_inner, g_is_inner, stD]
end
end SQ
/-! ## SqP2 -/
set_option Elab.async false
set_option linter.all false
set_option maxRecDepth 100000
set_option maxHeartbeats 4000000
/-! the plain law, 2: words; tests (the facts of words printed by mk2.py) -/
namespace SQ
open PySem PySem.Spec L2 TL
theorem eqW {u v : Str} {b : Bool} (hu : SeqAt.shaped (.str u) = true) (hv : SeqAt.shaped (.str v) = true) (h : (u == v) = b) : eqD (.str u) (.str v) = some (.bool b) := by
  subst h
  unfold eqD
  rw [if_pos ⟨hu, hv⟩]
  rfl
theorem neW {u v : Str} {b : Bool} (hu : SeqAt.shaped (.str u) = true) (hv : SeqAt.shaped (.str v) = true) (h : (!(u == v)) = b) : neD (.str u) (.str v) = some (.bool b) := by
  subst h
  unfold neD
  rw [if_pos ⟨hu, hv⟩]
  rfl
theorem sh_about : SeqAt.shaped (.str "about") = true := by decide +kernel
theorem sh_ahead : SeqAt.shaped (.str "ahead") = true := by decide +kernel
theorem sh_any : SeqAt.shaped (.str "any") = true := by decide +kernel
theorem sh_at : SeqAt.shaped (.str "at") = true := by decide +kernel
theorem sh_back : SeqAt.shaped (.str "back") = true := by decide +kernel
theorem sh_head : SeqAt.shaped (.str "head") = true := by decide +kernel
theorem sh_inner : SeqAt.shaped (.str "inner") = true := by decide +kernel
theorem sh_inward : SeqAt.shaped (.str "inward") = true := by decide +kernel
theorem sh_left : SeqAt.shaped (.str "left") = true := by decide +kernel
theorem sh_lefts : SeqAt.shaped (.str "lefts") = true := by decide +kernel
theorem sh_none : SeqAt.shaped (.str "none") = true := by decide +kernel
theorem sh_not : SeqAt.shaped (.str "not") = true := by decide +kernel
theorem sh_opposite : SeqAt.shaped (.str "opposite") = true := by decide +kernel
theorem sh_outward : SeqAt.shaped (.str "outward") = true := by decide +kernel
theorem sh_partner : SeqAt.shaped (.str "partner") = true := by decide +kernel
theorem sh_right : SeqAt.shaped (.str "right") = true := by decide +kernel
theorem sh_rights : SeqAt.shaped (.str "rights") = true := by decide +kernel
theorem sh_same : SeqAt.shaped (.str "same") = true := by decide +kernel
theorem sh_side : SeqAt.shaped (.str "side") = true := by decide +kernel
theorem sh_sideways : SeqAt.shaped (.str "sideways") = true := by decide +kernel
theorem sh_stay : SeqAt.shaped (.str "stay") = true := by decide +kernel
theorem sh_turn : SeqAt.shaped (.str "turn") = true := by decide +kernel
theorem wf_head : eqD (.str "head") (.str "not") = some (.bool false) ∧ eqD (.str "head") (.str "at") = some (.bool false) ∧ eqD (.str "head") (.str "inner") = some (.bool false) := ⟨eqW sh_head sh_not (by decide +kernel), eqW sh_head sh_at (by decide +kernel), eqW sh_head sh_inner (by decide +kernel)⟩
theorem wf_side : eqD (.str "side") (.str "not") = some (.bool false) ∧ eqD (.str "side") (.str "at") = some (.bool false) ∧ eqD (.str "side") (.str "inner") = some (.bool false) := ⟨eqW sh_side sh_not (by decide +kernel), eqW sh_side sh_at (by decide +kernel), eqW sh_side sh_inner (by decide +kernel)⟩
theorem wf_lefts : eqD (.str "lefts") (.str "not") = some (.bool false) ∧ eqD (.str "lefts") (.str "at") = some (.bool false) ∧ eqD (.str "lefts") (.str "inner") = some (.bool false) := ⟨eqW sh_lefts sh_not (by decide +kernel), eqW sh_lefts sh_at (by decide +kernel), eqW sh_lefts sh_inner (by decide +kernel)⟩
theorem wf_rights : eqD (.str "rights") (.str "not") = some (.bool false) ∧ eqD (.str "rights") (.str "at") = some (.bool false) ∧ eqD (.str "rights") (.str "inner") = some (.bool false) := ⟨eqW sh_rights sh_not (by decide +kernel), eqW sh_rights sh_at (by decide +kernel), eqW sh_rights sh_inner (by decide +kernel)⟩
theorem wf_inward : eqD (.str "inward") (.str "not") = some (.bool false) ∧ eqD (.str "inward") (.str "at") = some (.bool false) ∧ eqD (.str "inward") (.str "inner") = some (.bool false) := ⟨eqW sh_inward sh_not (by decide +kernel), eqW sh_inward sh_at (by decide +kernel), eqW sh_inward sh_inner (by decide +kernel)⟩
theorem wf_outward : eqD (.str "outward") (.str "not") = some (.bool false) ∧ eqD (.str "outward") (.str "at") = some (.bool false) ∧ eqD (.str "outward") (.str "inner") = some (.bool false) := ⟨eqW sh_outward sh_not (by decide +kernel), eqW sh_outward sh_at (by decide +kernel), eqW sh_outward sh_inner (by decide +kernel)⟩
theorem wf_sideways : eqD (.str "sideways") (.str "not") = some (.bool false) ∧ eqD (.str "sideways") (.str "at") = some (.bool false) ∧ eqD (.str "sideways") (.str "inner") = some (.bool false) := ⟨eqW sh_sideways sh_not (by decide +kernel), eqW sh_sideways sh_at (by decide +kernel), eqW sh_sideways sh_inner (by decide +kernel)⟩
theorem wf_not : eqD (.str "not") (.str "not") = some (.bool true) ∧ eqD (.str "not") (.str "at") = some (.bool false) ∧ eqD (.str "not") (.str "inner") = some (.bool false) := ⟨eqW sh_not sh_not (by decide +kernel), eqW sh_not sh_at (by decide +kernel), eqW sh_not sh_inner (by decide +kernel)⟩
theorem wf_at : eqD (.str "at") (.str "not") = some (.bool false) ∧ eqD (.str "at") (.str "at") = some (.bool true) ∧ eqD (.str "at") (.str "inner") = some (.bool false) := ⟨eqW sh_at sh_not (by decide +kernel), eqW sh_at sh_at (by decide +kernel), eqW sh_at sh_inner (by decide +kernel)⟩
theorem wf_inner : eqD (.str "inner") (.str "not") = some (.bool false) ∧ eqD (.str "inner") (.str "at") = some (.bool false) ∧ eqD (.str "inner") (.str "inner") = some (.bool true) := ⟨eqW sh_inner sh_not (by decide +kernel), eqW sh_inner sh_at (by decide +kernel), eqW sh_inner sh_inner (by decide +kernel)⟩
theorem wo_head : eqD (.str "head") (.str "head") = some (.bool true) ∧ eqD (.str "head") (.str "side") = some (.bool false) ∧ eqD (.str "head") (.str "lefts") = some (.bool false) := ⟨eqW sh_head sh_head (by decide +kernel), eqW sh_head sh_side (by decide +kernel), eqW sh_head sh_lefts (by decide +kernel)⟩
theorem wo_side : eqD (.str "side") (.str "head") = some (.bool false) ∧ eqD (.str "side") (.str "side") = some (.bool true) ∧ eqD (.str "side") (.str "lefts") = some (.bool false) := ⟨eqW sh_side sh_head (by decide +kernel), eqW sh_side sh_side (by decide +kernel), eqW sh_side sh_lefts (by decide +kernel)⟩
theorem wo_lefts : eqD (.str "lefts") (.str "head") = some (.bool false) ∧ eqD (.str "lefts") (.str "side") = some (.bool false) ∧ eqD (.str "lefts") (.str "lefts") = some (.bool true) := ⟨eqW sh_lefts sh_head (by decide +kernel), eqW sh_lefts sh_side (by decide +kernel), eqW sh_lefts sh_lefts (by decide +kernel)⟩
theorem wo_rights : eqD (.str "rights") (.str "head") = some (.bool false) ∧ eqD (.str "rights") (.str "side") = some (.bool false) ∧ eqD (.str "rights") (.str "lefts") = some (.bool false) := ⟨eqW sh_rights sh_head (by decide +kernel), eqW sh_rights sh_side (by decide +kernel), eqW sh_rights sh_lefts (by decide +kernel)⟩
theorem ws_none : eqD (.str "none") (.str "none") = some (.bool true) ∧ eqD (.str "none") (.str "any") = some (.bool false) ∧ eqD (.str "none") (.str "partner") = some (.bool false) ∧ eqD (.str "none") (.str "opposite") = some (.bool false) := ⟨eqW sh_none sh_none (by decide +kernel), eqW sh_none sh_any (by decide +kernel), eqW sh_none sh_partner (by decide +kernel), eqW sh_none sh_opposite (by decide +kernel)⟩
theorem ws_any : eqD (.str "any") (.str "none") = some (.bool false) ∧ eqD (.str "any") (.str "any") = some (.bool true) ∧ eqD (.str "any") (.str "partner") = some (.bool false) ∧ eqD (.str "any") (.str "opposite") = some (.bool false) := ⟨eqW sh_any sh_none (by decide +kernel), eqW sh_any sh_any (by decide +kernel), eqW sh_any sh_partner (by decide +kernel), eqW sh_any sh_opposite (by decide +kernel)⟩
theorem ws_same : eqD (.str "same") (.str "none") = some (.bool false) ∧ eqD (.str "same") (.str "any") = some (.bool false) ∧ eqD (.str "same") (.str "partner") = some (.bool false) ∧ eqD (.str "same") (.str "opposite") = some (.bool false) := ⟨eqW sh_same sh_none (by decide +kernel), eqW sh_same sh_any (by decide +kernel), eqW sh_same sh_partner (by decide +kernel), eqW sh_same sh_opposite (by decide +kernel)⟩
theorem ws_left : eqD (.str "left") (.str "none") = some (.bool false) ∧ eqD (.str "left") (.str "any") = some (.bool false) ∧ eqD (.str "left") (.str "partner") = some (.bool false) ∧ eqD (.str "left") (.str "opposite") = some (.bool false) := ⟨eqW sh_left sh_none (by decide +kernel), eqW sh_left sh_any (by decide +kernel), eqW sh_left sh_partner (by decide +kernel), eqW sh_left sh_opposite (by decide +kernel)⟩
theorem ws_about : eqD (.str "about") (.str "none") = some (.bool false) ∧ eqD (.str "about") (.str "any") = some (.bool false) ∧ eqD (.str "about") (.str "partner") = some (.bool false) ∧ eqD (.str "about") (.str "opposite") = some (.bool false) := ⟨eqW sh_about sh_none (by decide +kernel), eqW sh_about sh_any (by decide +kernel), eqW sh_about sh_partner (by decide +kernel), eqW sh_about sh_opposite (by decide +kernel)⟩
theorem ws_right : eqD (.str "right") (.str "none") = some (.bool false) ∧ eqD (.str "right") (.str "any") = some (.bool false) ∧ eqD (.str "right") (.str "partner") = some (.bool false) ∧ eqD (.str "right") (.str "opposite") = some (.bool false) := ⟨eqW sh_right sh_none (by decide +kernel), eqW sh_right sh_any (by decide +kernel), eqW sh_right sh_partner (by decide +kernel), eqW sh_right sh_opposite (by decide +kernel)⟩
theorem ws_partner : eqD (.str "partner") (.str "none") = some (.bool false) ∧ eqD (.str "partner") (.str "any") = some (.bool false) ∧ eqD (.str "partner") (.str "partner") = some (.bool true) ∧ eqD (.str "partner") (.str "opposite") = some (.bool false) := ⟨eqW sh_partner sh_none (by decide +kernel), eqW sh_partner sh_any (by decide +kernel), eqW sh_partner sh_partner (by decide +kernel), eqW sh_partner sh_opposite (by decide +kernel)⟩
theorem ws_opposite : eqD (.str "opposite") (.str "none") = some (.bool false) ∧ eqD (.str "opposite") (.str "any") = some (.bool false) ∧ eqD (.str "opposite") (.str "partner") = some (.bool false) ∧ eqD (.str "opposite") (.str "opposite") = some (.bool true) := ⟨eqW sh_opposite sh_none (by decide +kernel), eqW sh_opposite sh_any (by decide +kernel), eqW sh_opposite sh_partner (by decide +kernel), eqW sh_opposite sh_opposite (by decide +kernel)⟩
theorem wd_inward : eqD (.str "inward") (.str "inward") = some (.bool true) ∧ eqD (.str "inward") (.str "outward") = some (.bool false) := ⟨eqW sh_inward sh_inward (by decide +kernel), eqW sh_inward sh_outward (by decide +kernel)⟩
theorem wd_outward : eqD (.str "outward") (.str "inward") = some (.bool false) ∧ eqD (.str "outward") (.str "outward") = some (.bool true) := ⟨eqW sh_outward sh_inward (by decide +kernel), eqW sh_outward sh_outward (by decide +kernel)⟩
theorem wd_sideways : eqD (.str "sideways") (.str "inward") = some (.bool false) ∧ eqD (.str "sideways") (.str "outward") = some (.bool false) := ⟨eqW sh_sideways sh_inward (by decide +kernel), eqW sh_sideways sh_outward (by decide +kernel)⟩
theorem wt_turn : eqD (.str "turn") (.str "turn") = some (.bool true) ∧ eqD (.str "turn") (.str "ahead") = some (.bool false) ∧ eqD (.str "turn") (.str "back") = some (.bool false) ∧ eqD (.str "turn") (.str "right") = some (.bool false) := ⟨eqW sh_turn sh_turn (by decide +kernel), eqW sh_turn sh_ahead (by decide +kernel), eqW sh_turn sh_back (by decide +kernel), eqW sh_turn sh_right (by decide +kernel)⟩
theorem wt_ahead : eqD (.str "ahead") (.str "turn") = some (.bool false) ∧ eqD (.str "ahead") (.str "ahead") = some (.bool true) ∧ eqD (.str "ahead") (.str "back") = some (.bool false) ∧ eqD (.str "ahead") (.str "right") = some (.bool false) := ⟨eqW sh_ahead sh_turn (by decide +kernel), eqW sh_ahead sh_ahead (by decide +kernel), eqW sh_ahead sh_back (by decide +kernel), eqW sh_ahead sh_right (by decide +kernel)⟩
theorem wt_back : eqD (.str "back") (.str "turn") = some (.bool false) ∧ eqD (.str "back") (.str "ahead") = some (.bool false) ∧ eqD (.str "back") (.str "back") = some (.bool true) ∧ eqD (.str "back") (.str "right") = some (.bool false) := ⟨eqW sh_back sh_turn (by decide +kernel), eqW sh_back sh_ahead (by decide +kernel), eqW sh_back sh_back (by decide +kernel), eqW sh_back sh_right (by decide +kernel)⟩
theorem wt_right : eqD (.str "right") (.str "turn") = some (.bool false) ∧ eqD (.str "right") (.str "ahead") = some (.bool false) ∧ eqD (.str "right") (.str "back") = some (.bool false) ∧ eqD (.str "right") (.str "right") = some (.bool true) := ⟨eqW sh_right sh_turn (by decide +kernel), eqW sh_right sh_ahead (by decide +kernel), eqW sh_right sh_back (by decide +kernel), eqW sh_right sh_right (by decide +kernel)⟩
theorem wt_left : eqD (.str "left") (.str "turn") = some (.bool false) ∧ eqD (.str "left") (.str "ahead") = some (.bool false) ∧ eqD (.str "left") (.str "back") = some (.bool false) ∧ eqD (.str "left") (.str "right") = some (.bool false) := ⟨eqW sh_left sh_turn (by decide +kernel), eqW sh_left sh_ahead (by decide +kernel), eqW sh_left sh_back (by decide +kernel), eqW sh_left sh_right (by decide +kernel)⟩
theorem wn_turn : neD (.str "turn") (.str "stay") = some (.bool true) := neW sh_turn sh_stay (by decide +kernel)
theorem wn_ahead : neD (.str "ahead") (.str "stay") = some (.bool true) := neW sh_ahead sh_stay (by decide +kernel)
theorem wn_back : neD (.str "back") (.str "stay") = some (.bool true) := neW sh_back sh_stay (by decide +kernel)
theorem wn_right : neD (.str "right") (.str "stay") = some (.bool true) := neW sh_right sh_stay (by decide +kernel)
theorem wn_left : neD (.str "left") (.str "stay") = some (.bool true) := neW sh_left sh_stay (by decide +kernel)
theorem wn_stay : neD (.str "stay") (.str "stay") = some (.bool false) := neW sh_stay sh_stay (by decide +kernel)
/-- what holds of a loop's end -/
def GoodR (Inv : En → Prop) (Ret : PyData → Prop) (Ex : Nat → Prop) : Res → Prop
  | .nx δ => Inv δ
  | .rt d => Ret d
  | .ex t => Ex t
theorem forD_inv {T : Tg} {body : En → Option Res} {Inv : En → Prop} {Ret : PyData → Prop} {Ex : Nat → Prop} : ∀ {its : List PyData}, (∀ d ∈ its, ∀ δ, Inv δ → ∃ xs r, T.cut d = some xs ∧ body (setD T.ix xs δ) = some r ∧ GoodR Inv Ret Ex r) →
    ∀ {δ : En}, Inv δ → ∃ r, forD T body its δ = some r ∧ GoodR Inv Ret Ex r
  | [], _, δ, h => ⟨.nx δ, rfl, h⟩
  | d :: ds, hb, δ, h => by
    obtain ⟨xs, r, h1, h2, h3⟩ := hb d List.mem_cons_self δ h
    cases r with
    | nx δ' =>
      obtain ⟨r', h4, h5⟩ := forD_inv (fun d' hd' => hb d' (List.mem_cons_of_mem _ hd')) h3
      exact ⟨r', by show ((T.cut d).bind fun xs => (body (setD T.ix xs δ)).bind fun r => thenR r (forD T body ds)) = _; rw [h1]; show ((body (setD T.ix xs δ)).bind fun r => thenR r (forD T body ds)) = _; rw [h2]; exact h4, h5⟩
    | rt x => exact ⟨.rt x, by show ((T.cut d).bind fun xs => (body (setD T.ix xs δ)).bind fun r => thenR r (forD T body ds)) = _; rw [h1]; show ((body (setD T.ix xs δ)).bind fun r => thenR r (forD T body ds)) = _; rw [h2]; rfl, h3⟩
    | ex t => exact ⟨.ex t, by show ((T.cut d).bind fun xs => (body (setD T.ix xs δ)).bind fun r => thenR r (forD T body ds)) = _; rw [h1]; show ((body (setD T.ix xs δ)).bind fun r => thenR r (forD T body ds)) = _; rw [h2]; rfl, h3⟩
/-- a stand -/
def St (d : PyData) : Prop := ∃ x y f, d = stD x y f ∧ 0 ≤ f ∧ f < 4
def OkSt (d : PyData) : Prop := ∃ x y f, d = stD x y f ∧ okXYF x y f
theorem OkSt.st {d : PyData} (h : OkSt d) : St d := by
  obtain ⟨x, y, f, e, h⟩ := h
  exact ⟨x, y, f, e, h.2.2⟩
/-- a floor of eight -/
def Fl8 (l : List PyData) : Prop := l.length = 8 ∧ ∀ s ∈ l, OkSt s
theorem mem_enD {l : List PyData} {d : PyData} (h : d ∈ enD l) : ∃ (i : Nat) (s : PyData), d = .tuple [.int i, s] ∧ i < l.length ∧ l[i]? = some s := by
  unfold enD at h
  obtain ⟨i, hi, e⟩ := List.mem_iff_getElem.mp h
  rw [List.getElem_zipWith] at e
  have hl : i < l.length := by
    simp at hi
    omega
  exact ⟨i, l[i], by rw [← e]; simp, hl, List.getElem?_eq_getElem hl⟩
theorem Fl8.at {l : List PyData} (h : Fl8 l) {i : Int} (h0 : 0 ≤ i) (h8 : i < 8) : ∃ s, ixD (.tuple l) (.int i) = some s ∧ OkSt s := by
  obtain ⟨n, rfl⟩ := Int.eq_ofNat_of_zero_le h0
  have hn : n < l.length := by rw [h.1]; omega
  exact ⟨l[n], by show atI l (n : Int) = _; exact atI_nat (List.getElem?_eq_getElem hn), h.2 _ (List.getElem_mem hn)⟩
theorem shapedXY (x y : Int) : SeqAt.shaped (.tuple [.int x, .int y]) = true := by simp [SeqAt.shaped, PyData.canLay0, PyData.canLayAll0, PyData.depth, PyData.depthAll]
theorem F_who_at_ok {l : List PyData} (h : Fl8 l) (u v : Int) : F_who_at [.tuple l, .tuple [.int u, .int v]] = some .none ∨ ∃ i : Int, F_who_at [.tuple l, .tuple [.int u, .int v]] = some (.int i) ∧ 0 ≤ i ∧ i < 8 := by
  have key := forD_inv (T := .tp [2, 3]) (body := sIf (cE (e2 eqD (eSl (eV 3) pN (pE (eC (.int 2)))) (eV 1))) (sRet (eV 2)) sNil) (its := enD l)
    (Inv := fun δ => ∃ a b, δ = [.d (.tuple l), .d (.tuple [.int u, .int v]), a, b]) (Ret := fun d => ∃ i : Int, d = .int i ∧ 0 ≤ i ∧ i < 8) (Ex := fun _ => False) (fun d hd δ hδ => by
      obtain ⟨a, b, rfl⟩ := hδ
      obtain ⟨i, s, rfl, hi, hs⟩ := mem_enD hd
      obtain ⟨x, y, f, rfl, _⟩ := h.2 s (List.mem_of_getElem? hs)
      have k : cutL [PyData.int x, PyData.int y, PyData.int f] none (some 2) = [.int x, .int y] := rfl
      have k2 : HT.sIx 3 0 none = 0 ∧ HT.sIx 3 3 (some 2) = 2 := by decide
      refine ⟨[.int i, stD x y f], if PyData.eqv (.tuple [.int x, .int y]) (.tuple [.int u, .int v]) = true then .rt (.int i) else .nx [.d (.tuple l), .d (.tuple [.int u, .int v]), .d (.int i), .d (stD x y f)], rfl, ?_, ?_⟩
      · cases hq : PyData.eqv (.tuple [.int x, .int y]) (.tuple [.int u, .int v]) <;> simp [runG, runX, outD, outX, startD, sSeq, thenR, sIf, sRet, sNil, sNo, sAsg, Tg.cut, Tg.ix, setD, sFor, forD, iB, oneL, eV, eC, e1, e2, eA, aNil, aCons, cE, cNot, cAnd, cOr, eAnd, eOr, eNot, eSl, pN, pE, asI, asB, gN, eChain, addI, subI, mulI, modI, divI, ltI, leI, gtI, geI, isN, notN, ixD, tupD, lstD, lenD, absD, maxD, tupleD, tyD, isI, atI, ixN, tuD, lsD, cutD, eqD, stD, k, k2, shapedXY, hq]
      · split
        · exact ⟨i, rfl, by omega, by rw [h.1] at hi; omega⟩
        · exact ⟨_, _, rfl⟩) (δ := [.d (.tuple l), .d (.tuple [.int u, .int v]), .u, .u]) ⟨_, _, rfl⟩
  obtain ⟨r, hr, hg⟩ := key
  have e : F_who_at [.tuple l, .tuple [.int u, .int v]] = outD (thenR r (sRet (eC .none))) := by
    show outD ((sSeq (sFor (oneL (eV 0) tuD) (.tp [2, 3]) _) (sRet (eC .none))) [.d (.tuple l), .d (.tuple [.int u, .int v]), .u, .u]) = _
    show outD ((forD (.tp [2, 3]) _ (enD l) [.d (.tuple l), .d (.tuple [.int u, .int v]), .u, .u]).bind _) = _
    rw [hr]
    rfl
  rw [e]
  cases r with
  | nx δ => exact .inl rfl
  | rt d =>
    obtain ⟨i, rfl, h0, h8⟩ := hg
    exact .inr ⟨i, rfl, h0, h8⟩
  | ex t => exact hg.elim
end SQ
/-! ## SqP3 -/
set_option Elab.async false
set_option linter.all false
set_option maxRecDepth 100000
set_option maxHeartbeats 4000000
/-! the plain law, 3: tests, rules -/
namespace SQ
open PySem PySem.Spec L2 TL
theorem eqII (a b : Int) : eqD (.int a) (.int b) = some (.bool (a == b)) := rfl
theorem dk_same : dkD turnsD (.str "same") = some (.int 0) := by
  show List.lookup ("same" : Str) [("same", PyData.int 0), ("left", .int 1), ("about", .int 2), ("right", .int 3)] = _
  rw [List.lookup_cons, show (("same" : Str) == "same") = true by decide +kernel]
theorem dk_left : dkD turnsD (.str "left") = some (.int 1) := by
  show List.lookup ("left" : Str) [("same", PyData.int 0), ("left", .int 1), ("about", .int 2), ("right", .int 3)] = _
  rw [List.lookup_cons, show (("left" : Str) == "same") = false by decide +kernel, List.lookup_cons, show (("left" : Str) == "left") = true by decide +kernel]
theorem dk_about : dkD turnsD (.str "about") = some (.int 2) := by
  show List.lookup ("about" : Str) [("same", PyData.int 0), ("left", .int 1), ("about", .int 2), ("right", .int 3)] = _
  rw [List.lookup_cons, show (("about" : Str) == "same") = false by decide +kernel, List.lookup_cons, show (("about" : Str) == "left") = false by decide +kernel, List.lookup_cons, show (("about" : Str) == "about") = true by decide +kernel]
theorem dk_right : dkD turnsD (.str "right") = some (.int 3) := by
  show List.lookup ("right" : Str) [("same", PyData.int 0), ("left", .int 1), ("about", .int 2), ("right", .int 3)] = _
  rw [List.lookup_cons, show (("right" : Str) == "same") = false by decide +kernel, List.lookup_cons, show (("right" : Str) == "left") = false by decide +kernel, List.lookup_cons, show (("right" : Str) == "about") = false by decide +kernel, List.lookup_cons, show (("right" : Str) == "right") = true by decide +kernel]
theorem F_faces_ok (a b : Int) {w : Str} (h : w = "same" ∨ w = "left" ∨ w = "about" ∨ w = "right") : ∃ k, F_faces [.int a, .int b, .str w] = some (.bool k) := by
  rcases h with rfl | rfl | rfl | rfl <;> simp [runG, runX, outD, outX, startD, sSeq, thenR, sIf, sRet, sNil, sNo, sAsg, Tg.cut, Tg.ix, setD, sFor, forD, iB, oneL, eV, eC, e1, e2, eA, aNil, aCons, cE, cNot, cAnd, cOr, eAnd, eOr, eNot, eSl, pN, pE, asI, asB, gN, eChain, addI, subI, mulI, modI, divI, ltI, leI, gtI, geI, isN, notN, ixD, tupD, lstD, lenD, absD, maxD, tupleD, tyD, isI, atI, ixN, tuD, lsD, cutD, F_faces, g_faces, dk_same, dk_left, dk_about, dk_right, eqII]
theorem F_is_of_ok (i : Int) {w : Str} (h : w = "head" ∨ w = "side" ∨ w = "lefts" ∨ w = "rights") : ∃ k, F_is_of [.int i, .str w] = some (.bool k) := by
  rcases h with rfl | rfl | rfl | rfl <;> simp [runG, runX, outD, outX, startD, sSeq, thenR, sIf, sRet, sNil, sNo, sAsg, Tg.cut, Tg.ix, setD, sFor, forD, iB, oneL, eV, eC, e1, e2, eA, aNil, aCons, cE, cNot, cAnd, cOr, eAnd, eOr, eNot, eSl, pN, pE, asI, asB, gN, eChain, addI, subI, mulI, modI, divI, ltI, leI, gtI, geI, isN, notN, ixD, tupD, lstD, lenD, absD, maxD, tupleD, tyD, isI, atI, ixN, tuD, lsD, cutD, F_is_of, g_is_of, wo_head, wo_side, wo_lefts, wo_rights, eqII]
theorem F_drift_ok {s : PyData} (hs : St s) {w : Str} (h : w = "inward" ∨ w = "outward" ∨ w = "sideways") : ∃ k, F_drift [s, .str w] = some (.bool k) := by
  obtain ⟨x, y, f, rfl, h0, h4⟩ := hs
  obtain ⟨u, v, hu⟩ := F_spot_from_int (x := x) (y := y) h0 h4 1 0
  unfold stD at hu
  rcases h with rfl | rfl | rfl <;> simp [runG, runX, outD, outX, startD, sSeq, thenR, sIf, sRet, sNil, sNo, sAsg, Tg.cut, Tg.ix, setD, sFor, forD, iB, oneL, eV, eC, e1, e2, eA, aNil, aCons, cE, cNot, cAnd, cOr, eAnd, eOr, eNot, eSl, pN, pE, asI, asB, gN, eChain, addI, subI, mulI, modI, divI, ltI, leI, gtI, geI, isN, notN, ixD, tupD, lstD, lenD, absD, maxD, tupleD, tyD, isI, atI, ixN, tuD, lsD, cutD, F_drift, g_drift, stD, hu, wd_inward, wd_outward, wd_sideways, eqII]
theorem F_sees_ok {l : List PyData} (h : Fl8 l) {i : Int} (h0 : 0 ≤ i) (h8 : i < 8) (u v : Int) {w : Str} (hw : w = "none" ∨ w = "any" ∨ w = "same" ∨ w = "left" ∨ w = "about" ∨ w = "right" ∨ w = "partner" ∨ w = "opposite") :
    ∃ k, F_sees [.tuple l, .int i, .tuple [.int u, .int v], .str w] = some (.bool k) := by
  obtain ⟨s, hs, ok⟩ := h.at h0 h8
  obtain ⟨x, y, f, rfl, _⟩ := ok
  obtain ⟨p, hp⟩ := F_partner_int i
  obtain ⟨o, ho⟩ := F_opposite_int i
  have e : ∀ (x y f : Int), ixD (stD x y f) (.int 2) = some (.int f) := fun _ _ _ => rfl
  rcases F_who_at_ok h u v with hn | ⟨j, hj, j0, j8⟩
  · rcases hw with rfl | rfl | rfl | rfl | rfl | rfl | rfl | rfl <;>
      simp [runG, outD, startD, sSeq, thenR, sIf, sRet, sNil, sAsg, Tg.cut, Tg.ix, setD, eV, eC, e1, e2, eA, aNil, aCons, cE, cOr, eAnd, asB, gN, isN, F_sees, g_sees, hn, ws_none, ws_any, ws_same, ws_left, ws_about, ws_right, ws_partner, ws_opposite]
  · obtain ⟨s2, hs2, ok2⟩ := h.at j0 j8
    obtain ⟨x2, y2, f2, rfl, _⟩ := ok2
    obtain ⟨q1, hq1⟩ := F_faces_ok f f2 (w := "same") (by simp)
    obtain ⟨q2, hq2⟩ := F_faces_ok f f2 (w := "left") (by simp)
    obtain ⟨q3, hq3⟩ := F_faces_ok f f2 (w := "about") (by simp)
    obtain ⟨q4, hq4⟩ := F_faces_ok f f2 (w := "right") (by simp)
    rcases hw with rfl | rfl | rfl | rfl | rfl | rfl | rfl | rfl <;>
      simp [runG, outD, startD, sSeq, thenR, sIf, sRet, sNil, sAsg, Tg.cut, Tg.ix, setD, eV, eC, e1, e2, eA, aNil, aCons, cE, cOr, eAnd, asB, gN, isN, F_sees, g_sees, hj, hp, ho, hs, hs2, e, hq1, hq2, hq3, hq4, eqII, ws_none, ws_any, ws_same, ws_left, ws_about, ws_right, ws_partner, ws_opposite]
/-- a plain test, a test -/
def T1 (t : PyData) : Prop := (∃ w : Str, t = .tuple [.str w] ∧ ((w = "head" ∨ w = "side" ∨ w = "lefts" ∨ w = "rights") ∨ (w = "inward" ∨ w = "outward" ∨ w = "sideways"))) ∨ (∃ m : Int, t = .tuple [.str "inner", .int m]) ∨
  ∃ (a r : Int) (w : Str), t = .tuple [.str "at", .int a, .int r, .str w] ∧ (w = "none" ∨ w = "any" ∨ w = "same" ∨ w = "left" ∨ w = "about" ∨ w = "right" ∨ w = "partner" ∨ w = "opposite")
def TT (t : PyData) : Prop := T1 t ∨ ∃ u, T1 u ∧ t = .tuple [.str "not", u]
def insW (w : Str) : Option PyData := inS (.str w) (.tuple [.str "inward", .str "outward", .str "sideways"])
theorem ins_head : insW "head" = some (.bool false) := by simp [insW, inS, seqD, strsD]; decide +kernel
theorem ins_side : insW "side" = some (.bool false) := by simp [insW, inS, seqD, strsD]; decide +kernel
theorem ins_lefts : insW "lefts" = some (.bool false) := by simp [insW, inS, seqD, strsD]; decide +kernel
theorem ins_rights : insW "rights" = some (.bool false) := by simp [insW, inS, seqD, strsD]; decide +kernel
theorem ins_inward : insW "inward" = some (.bool true) := by simp [insW, inS, seqD, strsD]
theorem ins_outward : insW "outward" = some (.bool true) := by simp [insW, inS, seqD, strsD]
theorem ins_sideways : insW "sideways" = some (.bool true) := by simp [insW, inS, seqD, strsD]
theorem ix0 (a : PyData) (r : List PyData) : ixD (.tuple (a :: r)) (.int 0) = some a := by
  show atI (a :: r) ((0 : Nat) : Int) = some a
  exact atI_nat rfl
theorem ix1 (a b : PyData) (r : List PyData) : ixD (.tuple (a :: b :: r)) (.int 1) = some b := by
  show atI (a :: b :: r) ((1 : Nat) : Int) = some b
  exact atI_nat rfl
theorem ix2 (a b c : PyData) (r : List PyData) : ixD (.tuple (a :: b :: c :: r)) (.int 2) = some c := by
  show atI (a :: b :: c :: r) ((2 : Nat) : Int) = some c
  exact atI_nat rfl
theorem ix3 (a b c d : PyData) (r : List PyData) : ixD (.tuple (a :: b :: c :: d :: r)) (.int 3) = some d := by
  show atI (a :: b :: c :: d :: r) ((3 : Nat) : Int) = some d
  exact atI_nat rfl
theorem holds_T1 {Fr : List PyData → Option PyData} {l : List PyData} (h : Fl8 l) {i : Int} (h0 : 0 ≤ i) (h8 : i < 8) {t : PyData} (ht : T1 t) : ∃ k, runG 4 (g_holds Fr) [.tuple l, .int i, t] = some (.bool k) := by
  obtain ⟨s, hs, ok⟩ := h.at h0 h8
  have st := ok.st
  rcases ht with ⟨w, rfl, hw⟩ | ⟨m, rfl⟩ | ⟨a, r, w, rfl, hw⟩
  · rcases hw with hw | hw
    · obtain ⟨k, hk⟩ := F_is_of_ok i hw
      refine ⟨k, ?_⟩
      rcases hw with rfl | rfl | rfl | rfl <;>
        simp [runG, outD, startD, sSeq, thenR, sIf, sRet, sNil, sAsg, Tg.cut, Tg.ix, setD, eV, eC, e1, e2, eA, aNil, aCons, cE, asB, gN, tupD, sizeLine_eq, g_holds, ix0, wf_head, wf_side, wf_lefts, wf_rights, show ∀ w : Str, inS (.str w) (.tuple [.str "inward", .str "outward", .str "sideways"]) = insW w from fun _ => rfl, ins_head, ins_side, ins_lefts, ins_rights, hk]
    · obtain ⟨k, hk⟩ := F_drift_ok st hw
      refine ⟨k, ?_⟩
      rcases hw with rfl | rfl | rfl <;>
        simp [runG, outD, startD, sSeq, thenR, sIf, sRet, sNil, sAsg, Tg.cut, Tg.ix, setD, eV, eC, e1, e2, eA, aNil, aCons, cE, asB, gN, tupD, sizeLine_eq, g_holds, ix0, wf_inward, wf_outward, wf_sideways, show ∀ w : Str, inS (.str w) (.tuple [.str "inward", .str "outward", .str "sideways"]) = insW w from fun _ => rfl, ins_inward, ins_outward, ins_sideways, hs, hk]
  · obtain ⟨x, y, f, rfl, _⟩ := ok
    obtain ⟨k, hk⟩ := F_is_inner_int x y f m
    refine ⟨k, ?_⟩
    simp [runG, outD, startD, sSeq, thenR, sIf, sRet, sNil, sAsg, Tg.cut, Tg.ix, setD, eV, eC, e1, e2, eA, aNil, aCons, cE, asB, gN, g_holds, ix0, ix1, wf_inner, hs, hk]
  · obtain ⟨x, y, f, rfl, ox⟩ := ok
    obtain ⟨u, v, hu⟩ := F_spot_from_int (x := x) (y := y) ox.2.2.1 ox.2.2.2 a r
    obtain ⟨k, hk⟩ := F_sees_ok h h0 h8 u v hw
    refine ⟨k, ?_⟩
    simp [runG, outD, startD, sSeq, thenR, sIf, sRet, sNil, sAsg, Tg.cut, Tg.ix, setD, eV, eC, e1, e2, eA, aNil, aCons, cE, asB, gN, g_holds, ix0, ix1, ix2, ix3, wf_at, hs, hu, hk]
theorem F_holds_ok {l : List PyData} (h : Fl8 l) {i : Int} (h0 : 0 ≤ i) (h8 : i < 8) {t : PyData} (ht : TT t) : ∃ k, F_holds [.tuple l, .int i, t] = some (.bool k) := by
  rcases ht with ht | ⟨u, hu, rfl⟩
  · exact holds_T1 h h0 h8 ht
  · obtain ⟨k, hk⟩ := holds_T1 (Fr := fun _ => none) h h0 h8 hu
    have hk' : F_holds1 [.tuple l, .int i, u] = some (.bool k) := hk
    refine ⟨!k, ?_⟩
    unfold F_holds
    simp [runG, outD, startD, sSeq, thenR, sIf, sRet, sNil, sAsg, Tg.cut, Tg.ix, setD, eV, eC, e1, e2, eA, aNil, aCons, cE, eNot, asB, gN, g_holds, ix0, ix1, wf_not, hk']
end SQ
/-! ## SqP4 -/
set_option Elab.async false
set_option linter.all false
set_option maxRecDepth 100000
set_option maxHeartbeats 4000000
/-! the plain law, 4: steps, ways -/
namespace SQ
open PySem PySem.Spec L2 TL
theorem forD_cons {T : Tg} {body : En → Option Res} {d : PyData} {ds xs : List PyData} {δ : En} {r : Res} (h1 : T.cut d = some xs) (h2 : body (setD T.ix xs δ) = some r) : forD T body (d :: ds) δ = thenR r (forD T body ds) := by
  show ((T.cut d).bind fun xs => (body (setD T.ix xs δ)).bind fun r => thenR r (forD T body ds)) = _
  rw [h1]
  show ((body (setD T.ix xs δ)).bind fun r => thenR r (forD T body ds)) = _
  rw [h2]
  rfl
/-- with the turns told -/
theorem forD_invN {T : Tg} {body : En → Option Res} {Inv : Nat → En → Prop} {Ret : PyData → Prop} {Ex : Nat → Prop} {N : Nat} : ∀ {its : List PyData} {k0 : Nat}, k0 + its.length = N → (∀ k d, its[k]? = some d → ∀ δ, Inv (k0 + k) δ → ∃ xs r, T.cut d = some xs ∧ body (setD T.ix xs δ) = some r ∧ GoodR (Inv (k0 + k + 1)) Ret Ex r) →
    ∀ {δ : En}, Inv k0 δ → ∃ r, forD T body its δ = some r ∧ GoodR (Inv N) Ret Ex r
  | [], k0, hN, _, δ, h => ⟨.nx δ, rfl, by rw [← hN]; exact h⟩
  | d :: ds, k0, hN, hb, δ, h => by
    obtain ⟨xs, r, h1, h2, h3⟩ := hb 0 d rfl δ h
    rw [forD_cons h1 h2]
    cases r with
    | nx δ' =>
      exact forD_invN (k0 := k0 + 1) (by rw [← hN, List.length_cons]; omega) (fun k d' hd' δ' hδ' => by
        have := hb (k + 1) d' hd' δ' (by rw [show k0 + (k + 1) = k0 + 1 + k by omega]; exact hδ')
        rw [show k0 + (k + 1) + 1 = k0 + 1 + k + 1 by omega] at this
        exact this) h3
    | rt x => exact ⟨_, rfl, h3⟩
    | ex t => exact ⟨_, rfl, h3⟩
theorem lcD_all {T : Tg} {fe : En → Option PyData} {δ : En} {Pr : PyData → Prop} : ∀ {its : List PyData}, (∀ d ∈ its, ∃ xs y, T.cut d = some xs ∧ fe (setD T.ix xs δ) = some y ∧ Pr y) → ∃ ys, lcD T fe δ its = some ys ∧ ys.length = its.length ∧ ∀ y ∈ ys, Pr y
  | [], _ => ⟨[], rfl, rfl, fun y h => by cases h⟩
  | d :: ds, h => by
    obtain ⟨xs, y, h1, h2, h3⟩ := h d List.mem_cons_self
    obtain ⟨ys, h4, h5, h6⟩ := lcD_all (its := ds) fun d' hd' => h d' (List.mem_cons_of_mem _ hd')
    refine ⟨y :: ys, ?_, by rw [List.length_cons, List.length_cons, h5], fun z hz => ?_⟩
    · show ((T.cut d).bind fun xs => (fe (setD T.ix xs δ)).bind fun y => (lcD T fe δ ds).map (y :: ·)) = _
      rw [h1]
      show ((fe (setD T.ix xs δ)).bind fun y => (lcD T fe δ ds).map (y :: ·)) = _
      rw [h2]
      show (lcD T fe δ ds).map (y :: ·) = _
      rw [h4]
      rfl
    · rcases List.mem_cons.mp hz with rfl | hz
      · exact h3
      · exact h6 z hz
theorem allD_ok {ys : List PyData} (h : ∀ y ∈ ys, ∃ b, y = .bool b) : ∃ b, allD (.list ys) = some (.bool b) := by
  have : ∃ bs, blsD ys = some bs := by
    induction ys with
    | nil => exact ⟨[], rfl⟩
    | cons y ys ih =>
      obtain ⟨b, rfl⟩ := h y List.mem_cons_self
      obtain ⟨bs, hb⟩ := ih fun z hz => h z (List.mem_cons_of_mem _ hz)
      exact ⟨b :: bs, by show (blsD ys).map (b :: ·) = _; rw [hb]; rfl⟩
  obtain ⟨bs, hb⟩ := this
  exact ⟨_, by show (blsD ys).map (fun bs => PyData.bool (bs.all id)) = _; rw [hb]; rfl⟩
/-! ### calls -/
def StepOk (s : PyData) : Prop := s = .tuple [.str "stay"] ∨ (∃ w : Str, s = .tuple [.str "turn", .str w] ∧ (w = "left" ∨ w = "about" ∨ w = "right")) ∨ ∃ (m : Str) (n : Int), s = .tuple [.str m, .int n] ∧ (m = "ahead" ∨ m = "back" ∨ m = "right" ∨ m = "left")
def RuleOk (r : PyData) : Prop := ∃ ts ss, r = .tuple [.tuple ts, .tuple ss] ∧ ts.length ≤ 1000 ∧ (∀ t ∈ ts, TT t) ∧ ss.length ≤ 1000 ∧ ∀ s ∈ ss, StepOk s
def CallOk (c : PyData) : Prop := ∃ rs, c = .list rs ∧ ∀ r ∈ rs, RuleOk r
theorem F_rule_for_ok {l : List PyData} (h : Fl8 l) {i : Int} (h0 : 0 ≤ i) (h8 : i < 8) {rs : List PyData} (hr : ∀ r ∈ rs, RuleOk r) : F_rule_for [.tuple l, .int i, .list rs] = some .none ∨ ∃ p : Nat, F_rule_for [.tuple l, .int i, .list rs] = some (.int p) ∧ p < rs.length := by
  obtain ⟨r, hrr, hg⟩ := forD_inv (T := .tp [3, 4]) (body := sIf (cE (e1 allD (eLc (iB (e2 ixD (eV 4) (eC (.int 0))) tuD) (.nm 5) [5] (eA (gN 3 F_holds) (aCons (eV 0) (aCons (eV 1) (aCons (eV 5) aNil))))))) (sRet (eV 3)) sNil) (its := enD rs)
    (Inv := fun δ => ∃ a b c, δ = [.d (.tuple l), .d (.int i), .d (.list rs), a, b, c]) (Ret := fun d => ∃ p : Nat, d = .int p ∧ p < rs.length) (Ex := fun _ => False) (fun d hd δ hδ => by
      obtain ⟨a, b, c, rfl⟩ := hδ
      obtain ⟨n, s, rfl, hn, hs⟩ := mem_enD hd
      obtain ⟨ts, ss, rfl, lt, ht, _⟩ := hr s (List.mem_of_getElem? hs)
      obtain ⟨ys, y1, y2, y3⟩ := lcD_all (T := .nm 5) (fe := eA (gN 3 F_holds) (aCons (eV 0) (aCons (eV 1) (aCons (eV 5) aNil)))) (δ := [.d (.tuple l), .d (.int i), .d (.list rs), .d (.int n), .d (.tuple [.tuple ts, .tuple ss]), .u]) (Pr := fun y => ∃ b, y = .bool b) (its := ts) (fun t htm => by
        obtain ⟨k, hk⟩ := F_holds_ok h h0 h8 (ht t htm)
        exact ⟨[t], .bool k, rfl, by simp [runG, runX, outD, outX, startD, sSeq, thenR, sIf, sRet, sNil, sNo, sAsg, Tg.cut, Tg.ix, setD, sFor, forD, iB, oneL, eV, eC, e1, e2, eA, aNil, aCons, cE, cNot, cAnd, cOr, eAnd, eOr, eNot, eSl, pN, pE, asI, asB, gN, eChain, addI, subI, mulI, modI, divI, ltI, leI, gtI, geI, isN, notN, ixD, tupD, lstD, lenD, absD, maxD, tupleD, tyD, isI, atI, ixN, tuD, lsD, cutD, hk], k, rfl⟩)
      obtain ⟨q, hq⟩ := allD_ok y3
      have lz : ts.length ≤ sizeLine := by rw [sizeLine_eq]; omega
      have e : e1 allD (eLc (iB (e2 ixD (eV 4) (eC (.int 0))) tuD) (.nm 5) [5] (eA (gN 3 F_holds) (aCons (eV 0) (aCons (eV 1) (aCons (eV 5) aNil))))) (setD [3, 4] [.int n, .tuple [.tuple ts, .tuple ss]] [.d (.tuple l), .d (.int i), .d (.list rs), a, b, c]) = some (.bool q) := by
        show (((((ixD (.tuple [.tuple ts, .tuple ss]) (.int 0)).bind tuD).bind fun its => if its.length ≤ sizeLine then (lcD (.nm 5) _ _ its).map PyData.list else none)).bind allD) = _
        rw [ix0]
        show ((if ts.length ≤ sizeLine then (lcD (.nm 5) _ _ ts).map PyData.list else none).bind allD) = _
        rw [if_pos lz]
        show ((lcD (.nm 5) (eA (gN 3 F_holds) (aCons (eV 0) (aCons (eV 1) (aCons (eV 5) aNil)))) [.d (.tuple l), .d (.int i), .d (.list rs), .d (.int n), .d (.tuple [.tuple ts, .tuple ss]), .u] ts).map PyData.list).bind allD = _
        rw [y1]
        exact hq
      refine ⟨[.int n, .tuple [.tuple ts, .tuple ss]], if q = true then .rt (.int n) else .nx [.d (.tuple l), .d (.int i), .d (.list rs), .d (.int n), .d (.tuple [.tuple ts, .tuple ss]), c], rfl, ?_, ?_⟩
      · show ((((e1 allD _ _).bind asB)).bind fun b => if b = true then _ else _) = _
        rw [show Tg.ix (.tp [3, 4]) = [3, 4] from rfl, e]
        cases q <;> rfl
      · split
        · exact ⟨n, rfl, hn⟩
        · exact ⟨_, _, _, rfl⟩) (δ := [.d (.tuple l), .d (.int i), .d (.list rs), .u, .u, .u]) ⟨_, _, _, rfl⟩
  have e : F_rule_for [.tuple l, .int i, .list rs] = outD (thenR r (sRet (eC .none))) := by
    show outD ((forD (.tp [3, 4]) _ (enD rs) [.d (.tuple l), .d (.int i), .d (.list rs), .u, .u, .u]).bind _) = _
    rw [hrr]
    rfl
  rw [e]
  cases r with
  | nx δ => exact .inl rfl
  | rt d =>
    obtain ⟨p, rfl, hp⟩ := hg
    exact .inr ⟨p, rfl, hp⟩
  | ex t => exact hg.elim
theorem mod4 (z : Int) : 0 ≤ z % 4 ∧ z % 4 < 4 := by omega
theorem F_stepped_ok {s : PyData} (hs : St s) {t : PyData} (ht : StepOk t) (hn : t ≠ .tuple [.str "stay"]) : ∃ s', F_stepped [s, t] = some s' ∧ St s' := by
  obtain ⟨x, y, f, rfl, h0, h4⟩ := hs
  rcases ht with rfl | ⟨w, rfl, hw⟩ | ⟨m, n, rfl, hm⟩
  · exact absurd rfl hn
  · rcases hw with rfl | rfl | rfl
    · exact ⟨stD x y ((f + 1) % 4), by simp [runG, runX, outD, outX, startD, sSeq, thenR, sIf, sRet, sNil, sNo, sAsg, Tg.cut, Tg.ix, setD, sFor, forD, iB, oneL, eV, eC, e1, e2, eA, aNil, aCons, cE, cNot, cAnd, cOr, eAnd, eOr, eNot, eSl, pN, pE, asI, asB, gN, eChain, addI, subI, mulI, modI, divI, ltI, leI, gtI, geI, isN, notN, ixD, tupD, lstD, lenD, absD, maxD, tupleD, tyD, isI, atI, ixN, tuD, lsD, cutD, F_stepped, g_stepped, stD, wt_turn, dk_left, sizeLine_eq], _, _, _, rfl, mod4 _⟩
    · exact ⟨stD x y ((f + 2) % 4), by simp [runG, runX, outD, outX, startD, sSeq, thenR, sIf, sRet, sNil, sNo, sAsg, Tg.cut, Tg.ix, setD, sFor, forD, iB, oneL, eV, eC, e1, e2, eA, aNil, aCons, cE, cNot, cAnd, cOr, eAnd, eOr, eNot, eSl, pN, pE, asI, asB, gN, eChain, addI, subI, mulI, modI, divI, ltI, leI, gtI, geI, isN, notN, ixD, tupD, lstD, lenD, absD, maxD, tupleD, tyD, isI, atI, ixN, tuD, lsD, cutD, F_stepped, g_stepped, stD, wt_turn, dk_about, sizeLine_eq], _, _, _, rfl, mod4 _⟩
    · exact ⟨stD x y ((f + 3) % 4), by simp [runG, runX, outD, outX, startD, sSeq, thenR, sIf, sRet, sNil, sNo, sAsg, Tg.cut, Tg.ix, setD, sFor, forD, iB, oneL, eV, eC, e1, e2, eA, aNil, aCons, cE, cNot, cAnd, cOr, eAnd, eOr, eNot, eSl, pN, pE, asI, asB, gN, eChain, addI, subI, mulI, modI, divI, ltI, leI, gtI, geI, isN, notN, ixD, tupD, lstD, lenD, absD, maxD, tupleD, tyD, isI, atI, ixN, tuD, lsD, cutD, F_stepped, g_stepped, stD, wt_turn, dk_right, sizeLine_eq], _, _, _, rfl, mod4 _⟩
  · obtain ⟨u1, v1, e1⟩ := F_spot_from_int (x := x) (y := y) h0 h4 n 0
    obtain ⟨u2, v2, e2⟩ := F_spot_from_int (x := x) (y := y) h0 h4 (-n) 0
    obtain ⟨u3, v3, e3⟩ := F_spot_from_int (x := x) (y := y) h0 h4 0 n
    obtain ⟨u4, v4, e4⟩ := F_spot_from_int (x := x) (y := y) h0 h4 0 (-n)
    unfold stD at e1 e2 e3 e4
    rcases hm with rfl | rfl | rfl | rfl
    · exact ⟨stD u1 v1 f, by simp [runG, outD, startD, sSeq, thenR, sIf, sRet, sNil, sAsg, Tg.cut, Tg.ix, setD, eV, eC, SQ.e1, SQ.e2, eA, aNil, aCons, cE, asB, gN, tupD, subI, addT, ixD, atI, ixN, F_stepped, g_stepped, stD, wt_ahead, e1, sizeLine_eq], _, _, _, rfl, h0, h4⟩
    · exact ⟨stD u2 v2 f, by simp [runG, outD, startD, sSeq, thenR, sIf, sRet, sNil, sAsg, Tg.cut, Tg.ix, setD, eV, eC, SQ.e1, SQ.e2, eA, aNil, aCons, cE, asB, gN, tupD, subI, addT, ixD, atI, ixN, F_stepped, g_stepped, stD, wt_back, e2, sizeLine_eq], _, _, _, rfl, h0, h4⟩
    · exact ⟨stD u3 v3 f, by simp [runG, outD, startD, sSeq, thenR, sIf, sRet, sNil, sAsg, Tg.cut, Tg.ix, setD, eV, eC, SQ.e1, SQ.e2, eA, aNil, aCons, cE, asB, gN, tupD, subI, addT, ixD, atI, ixN, F_stepped, g_stepped, stD, wt_right, e3, sizeLine_eq], _, _, _, rfl, h0, h4⟩
    · exact ⟨stD u4 v4 f, by simp [runG, outD, startD, sSeq, thenR, sIf, sRet, sNil, sAsg, Tg.cut, Tg.ix, setD, eV, eC, SQ.e1, SQ.e2, eA, aNil, aCons, cE, asB, gN, tupD, subI, addT, ixD, atI, ixN, F_stepped, g_stepped, stD, wt_left, e4, sizeLine_eq], _, _, _, rfl, h0, h4⟩
theorem ixL (ws : List PyData) (w : PyData) : atI (ws ++ [w]) (-1) = some w := by
  unfold atI ixN
  have hl : (ws ++ [w]).length = ws.length + 1 := by rw [List.length_append, List.length_singleton]
  rw [if_neg (by omega), hl, if_pos (by omega)]
  show (ws ++ [w])[((-1 : Int) + ((ws.length + 1 : Nat) : Int)).toNat]? = some w
  rw [show ((-1 : Int) + ((ws.length + 1 : Nat) : Int)).toNat = ws.length by omega]
  simp
def bodyWay : En → Option Res := sIf (cE (e2 neD (e2 ixD (eV 3) (eC (.int 0))) (eC (.str "stay")))) (sApp 2 (eA (gN 2 F_stepped) (aCons (eIxO 2 (e1 negI (eC (.int 1)))) (aCons (eV 3) aNil)))) sNil
theorem step_stay {t : PyData} (ht : StepOk t) : (t = .tuple [.str "stay"] ∧ e2 neD (e2 ixD (eC t) (eC (.int 0))) (eC (.str "stay")) [] = some (.bool false)) ∨ (t ≠ .tuple [.str "stay"] ∧ e2 neD (e2 ixD (eC t) (eC (.int 0))) (eC (.str "stay")) [] = some (.bool true)) := by
  rcases ht with rfl | ⟨w, rfl, hw⟩ | ⟨m, n, rfl, hm⟩
  · exact .inl ⟨rfl, by simp [e2, eC, ix0, wn_stay]⟩
  · refine .inr ⟨fun q => ?_, by simp [e2, eC, ix0, wn_turn]⟩
    injection q with q
    injection q with _ q
    cases q
  · refine .inr ⟨fun q => ?_, ?_⟩
    · injection q with q
      injection q with _ q
      cases q
    · rcases hm with rfl | rfl | rfl | rfl <;> simp [e2, eC, ix0, wn_ahead, wn_back, wn_right, wn_left]
theorem way_loop {s steps : PyData} : ∀ {its : List PyData} {ws : List PyData} {w x : _}, (∀ t ∈ its, StepOk t) → (∀ z ∈ ws, St z) → St w → ws.length + its.length < 5000 → ∃ ws' w' x', forD (.nm 3) bodyWay its [.d s, .d steps, .o (ws ++ [w]), x] = some (.nx [.d s, .d steps, .o (ws' ++ [w']), x']) ∧ (∀ z ∈ ws', St z) ∧ St w'
  | [], ws, w, x, _, h2, h3, _ => ⟨ws, w, x, rfl, h2, h3⟩
  | t :: its, ws, w, x, h1, h2, h3, h4 => by
    rw [List.length_cons] at h4
    have ht := h1 t List.mem_cons_self
    rcases step_stay ht with ⟨e, q⟩ | ⟨e, q⟩
    · have hb : bodyWay (setD (Tg.ix (.nm 3)) [t] [.d s, .d steps, .o (ws ++ [w]), x]) = some (.nx [.d s, .d steps, .o (ws ++ [w]), .d t]) := by
        show (((e2 neD (e2 ixD (eC t) (eC (.int 0))) (eC (.str "stay")) []).bind asB).bind fun b => if b = true then _ else _) = _
        rw [q]
        rfl
      rw [forD_cons (T := .nm 3) (xs := [t]) rfl hb]
      exact way_loop (fun t' ht' => h1 t' (List.mem_cons_of_mem _ ht')) h2 h3 (by omega)
    · obtain ⟨w', hw', sw'⟩ := F_stepped_ok h3 ht e
      have hb : bodyWay (setD (Tg.ix (.nm 3)) [t] [.d s, .d steps, .o (ws ++ [w]), x]) = some (.nx [.d s, .d steps, .o ((ws ++ [w]) ++ [w']), .d t]) := by
        show (((e2 neD (e2 ixD (eC t) (eC (.int 0))) (eC (.str "stay")) []).bind asB).bind fun b => if b = true then sApp 2 _ [.d s, .d steps, .o (ws ++ [w]), .d t] else _) = _
        rw [q]
        show ((eA (gN 2 F_stepped) (aCons (eIxO 2 (e1 negI (eC (.int 1)))) (aCons (eV 3) aNil)) [.d s, .d steps, .o (ws ++ [w]), .d t]).bind fun d => if (ws ++ [w]).length < sizeLine then some (Res.nx [.d s, .d steps, .o ((ws ++ [w]) ++ [d]), .d t]) else none) = _
        have e2 : eA (gN 2 F_stepped) (aCons (eIxO 2 (e1 negI (eC (.int 1)))) (aCons (eV 3) aNil)) [.d s, .d steps, .o (ws ++ [w]), .d t] = some w' := by
          show (((atI (ws ++ [w]) (-1)).bind fun x => some [x, t]).bind (gN 2 F_stepped)) = _
          rw [ixL]
          show (if [w, t].length = 2 then F_stepped [w, t] else none) = _
          exact (if_pos rfl).trans hw'
        rw [e2]
        exact if_pos (by rw [sizeLine_eq, List.length_append, List.length_singleton]; omega)
      rw [forD_cons (T := .nm 3) (xs := [t]) rfl hb]
      exact way_loop (fun t' ht' => h1 t' (List.mem_cons_of_mem _ ht')) (fun z hz => by
        rcases List.mem_append.mp hz with hz | hz
        · exact h2 z hz
        · rw [List.mem_singleton.mp hz]; exact h3) sw' (by rw [List.length_append, List.length_singleton]; omega)
theorem F_way_of_ok {s : PyData} (hs : St s) {ss : List PyData} (h : ∀ t ∈ ss, StepOk t) (hl : ss.length ≤ 1000) : ∃ ws w, F_way_of [s, .tuple ss] = some (.list (ws ++ [w])) ∧ (∀ z ∈ ws ++ [w], St z) := by
  obtain ⟨ws, w, x, e, h1, h2⟩ := way_loop (s := s) (steps := .tuple ss) (its := ss) (ws := []) (w := s) (x := .u) h (fun z hz => by cases hz) hs (by simp; omega)
  refine ⟨ws, w, ?_, fun z hz => ?_⟩
  · show outD ((forD (.nm 3) bodyWay ss [.d s, .d (.tuple ss), .o [s], .u]).bind _) = _
    rw [show [Sl.d s, .d (.tuple ss), .o [s], .u] = [.d s, .d (.tuple ss), .o ([] ++ [s]), .u] from rfl, e]
    rfl
  · rcases List.mem_append.mp hz with hz | hz
    · exact h1 z hz
    · rw [List.mem_singleton.mp hz]; exact h2
end SQ
/-! ## SqP5 -/
set_option Elab.async false
set_option linter.all false
set_option maxRecDepth 100000
set_option maxHeartbeats 4000000
/-! the plain law, 5: ways, danced -/
namespace SQ
open PySem PySem.Spec L2 TL
theorem eA_gN {n : Nat} {G : List PyData → Option PyData} {f : En → Option (List PyData)} {δ : En} {ds : List PyData} (h : f δ = some ds) (hl : ds.length = n) : eA (gN n G) f δ = G ds := by
  unfold eA
  rw [h]
  exact if_pos hl
theorem okX_ok {n : Nat} {G : List PyData → Option (Except Nat PyData)} {ds : List PyData} {d : PyData} (hl : ds.length = n) (h : G ds = some (.ok d)) : okX n G ds = some d := by
  unfold okX
  rw [if_pos hl, h]
  rfl
theorem okX_er {n : Nat} {G : List PyData → Option (Except Nat PyData)} {ds : List PyData} {t : Nat} (hl : ds.length = n) (h : G ds = some (.error t)) : okX n G ds = none := by
  unfold okX
  rw [if_pos hl, h]
  rfl
theorem erX_er {n : Nat} {G : List PyData → Option (Except Nat PyData)} {ds : List PyData} {t : Nat} (hl : ds.length = n) (h : G ds = some (.error t)) : erX n G ds = some t := by
  unfold erX
  rw [if_pos hl, h]
  rfl
def callR (δ : En) : Except Nat PyData → Res
  | .ok _ => .nx δ
  | .error t => .ex t
theorem sCallX_at {n : Nat} {G : List PyData → Option (Except Nat PyData)} {f : En → Option (List PyData)} {δ : En} {ds : List PyData} {q : Except Nat PyData} (hf : f δ = some ds) (hl : ds.length = n) (h : G ds = some q) : sCallX G n f δ = some (callR δ q) := by
  unfold sCallX
  rw [hf, Option.bind_some, if_pos hl, h]
  cases q <;> rfl
theorem enD_get {l : List PyData} {k : Nat} (h : k < l.length) : (enD l)[k]? = some (.tuple [.int k, l[k]]) := by
  unfold enD
  rw [List.getElem?_zipWith, List.getElem?_range h, List.getElem?_eq_getElem h]
def bodyL : En → Option Res := sIf (cNot (cE (eA (gN 1 F_is_stand) (aCons (eV 2) aNil)))) (sRz 1 1 (aCons (eV 0) aNil)) sNil
theorem look_loop {a b : PyData} : ∀ {its : List PyData} {x : Sl}, (∀ z ∈ its, St z) → (∃ x', forD (.nm 2) bodyL its [.d a, .d b, x] = some (.nx [.d a, .d b, x']) ∧ ∀ z ∈ its, OkSt z) ∨ forD (.nm 2) bodyL its [.d a, .d b, x] = some (.ex 1)
  | [], x, _ => .inl ⟨x, rfl, fun z h => by cases h⟩
  | z :: its, x, h => by
    obtain ⟨u, v, f, rfl, h0, h4⟩ := h z List.mem_cons_self
    obtain ⟨k, hk, ok⟩ := F_is_stand_int u v f
    have hb : bodyL (setD (Tg.ix (.nm 2)) [stD u v f] [.d a, .d b, x]) = some (if k = true then .nx [.d a, .d b, .d (stD u v f)] else .ex 1) := by
      show ((((eA (gN 1 F_is_stand) (aCons (eV 2) aNil) [.d a, .d b, .d (stD u v f)]).bind asB).map not).bind fun q => if q = true then _ else _) = _
      have e : eA (gN 1 F_is_stand) (aCons (eV 2) aNil) [.d a, .d b, .d (stD u v f)] = some (.bool k) := (eA_gN rfl rfl).trans hk
      rw [e]
      cases k <;> rfl
    rw [forD_cons (T := .nm 2) (xs := [stD u v f]) rfl hb]
    cases k with
    | true =>
      rcases look_loop (a := a) (b := b) (its := its) (x := .d (stD u v f)) (fun y hy => h y (List.mem_cons_of_mem _ hy)) with ⟨x', e, q⟩ | e
      · exact .inl ⟨x', e, fun y hy => by
          rcases List.mem_cons.mp hy with rfl | hy
          · exact ⟨u, v, f, rfl, ok rfl⟩
          · exact q y hy⟩
      · exact .inr e
    | false => exact .inr rfl
theorem X_look_ok {a : PyData} {ws : List PyData} (h : ∀ z ∈ ws, St z) : (X_look_at_way [a, .list ws] = some (.ok .none) ∧ ∀ z ∈ ws, OkSt z) ∨ X_look_at_way [a, .list ws] = some (.error 1) := by
  have e : X_look_at_way [a, .list ws] = outX (forD (.nm 2) bodyL ws [.d a, .d (.list ws), .u]) := rfl
  rw [e]
  rcases look_loop (a := a) (b := .list ws) (its := ws) (x := .u) h with ⟨x', e, q⟩ | e
  · rw [e]; exact .inl ⟨rfl, q⟩
  · rw [e]; exact .inr rfl
def rng8 : List PyData := [.int 0, .int 1, .int 2, .int 3, .int 4, .int 5, .int 6, .int 7]
theorem srt8 : srtI (.list rng8) = some (.list rng8) := by
  unfold srtI
  exact if_pos (by decide)
def bodyA : En → Option Res := (sSeq (sPut 3 (eV 4) (eA (gN 3 F_rule_for) (aCons (eV 0) (aCons (eV 4) (aCons (eV 1) aNil)))))
  (sIf (cE (e2 isN (eIxO 3 (eV 4)) (eC .none)))
  (sRz 0 1 (aCons (eV 4) aNil))
  sNil))
def bodyB : En → Option Res := (sSeq (sAsg (eA tupD aNil) (.nm 7))
  (sSeq (sIf (cE (e2 notN (eV 6) (eC .none)))
  (sAsg (e2 ixD (e2 ixD (eV 1) (eV 6)) (eC (.int 1))) (.nm 7))
  sNil)
  (sSeq (sApp 5 (eA (gN 2 F_way_of) (aCons (e2 ixD (eV 0) (eV 4)) (aCons (eV 7) aNil))))
  (sCallX X_look_at_way 2 (aCons (eV 4) (aCons (eIxO 5 (e1 negI (eC (.int 1)))) aNil))))))
def Rl (rs : List PyData) (d : PyData) : Prop := d = .none ∨ ∃ p : Nat, d = .int p ∧ p < rs.length
def WayOk (w : PyData) : Prop := ∃ ws z, w = .list (ws ++ [z]) ∧ ∀ y ∈ ws ++ [z], OkSt y
theorem bodyA_ok {l rs : List PyData} (h : Fl8 l) (hr : ∀ r ∈ rs, RuleOk r) {n : Nat} (hn : n < 8) {c : PyData} {rules : List PyData} (hl : rules.length = 8) (ho : ∀ d ∈ rules, Rl rs d) {x4 x5 x6 x7 : Sl} :
    ∃ r, bodyA (setD (Tg.ix (.nm 4)) [.int n] [.d (.tuple l), .d (.list rs), .d c, .o rules, x4, x5, x6, x7]) = some r ∧ GoodR (fun δ => ∃ rules x4, rules.length = 8 ∧ (∀ d ∈ rules, Rl rs d) ∧ δ = [.d (.tuple l), .d (.list rs), .d c, .o rules, x4, x5, x6, x7]) (fun _ => False) (fun t => t < 2) r := by
  have hd : ∃ d, F_rule_for [.tuple l, .int n, .list rs] = some d ∧ Rl rs d := by
    rcases F_rule_for_ok h (i := n) (by omega) (by omega) hr with e | ⟨p, e, hp⟩
    · exact ⟨_, e, .inl rfl⟩
    · exact ⟨_, e, .inr ⟨p, rfl, hp⟩⟩
  obtain ⟨d, hd, od⟩ := hd
  have e1 : eA (gN 3 F_rule_for) (aCons (eV 0) (aCons (eV 4) (aCons (eV 1) aNil))) [.d (.tuple l), .d (.list rs), .d c, .o rules, .d (.int n), x5, x6, x7] = some d := (eA_gN rfl rfl).trans hd
  have ex : ixN rules.length (n : Int) = some n := by
    unfold ixN
    rw [if_pos (Int.natCast_nonneg n), if_pos (by omega)]
    simp
  have e2 : sPut 3 (eV 4) (eA (gN 3 F_rule_for) (aCons (eV 0) (aCons (eV 4) (aCons (eV 1) aNil)))) [.d (.tuple l), .d (.list rs), .d c, .o rules, .d (.int n), x5, x6, x7] = some (.nx [.d (.tuple l), .d (.list rs), .d c, .o (rules.set n d), .d (.int n), x5, x6, x7]) := by
    unfold sPut
    rw [e1]
    show ((ixN rules.length (n : Int)).map fun j => Res.nx _) = _
    rw [ex]
    rfl
  have e3 : eIxO 3 (eV 4) [.d (.tuple l), .d (.list rs), .d c, .o (rules.set n d), .d (.int n), x5, x6, x7] = some d := by
    show atI (rules.set n d) (n : Int) = some d
    exact atI_nat (List.getElem?_set_self (by omega))
  have ok' : ∀ q ∈ rules.set n d, Rl rs q := fun q hq => by
    rcases List.mem_or_eq_of_mem_set hq with hq | rfl
    · exact ho q hq
    · exact od
  rcases od with rfl | ⟨p, rfl, hp⟩
  · refine ⟨.ex 0, ?_, (by decide : (0 : Nat) < 2)⟩
    show (sPut 3 (eV 4) _ [.d (.tuple l), .d (.list rs), .d c, .o rules, .d (.int n), x5, x6, x7]).bind _ = _
    rw [e2]
    show ((((eIxO 3 (eV 4) [.d (.tuple l), .d (.list rs), .d c, .o (rules.set n .none), .d (.int n), x5, x6, x7]).bind fun x => isN x .none).bind asB).bind fun b => if b = true then _ else _) = _
    rw [e3]
    rfl
  · refine ⟨.nx [.d (.tuple l), .d (.list rs), .d c, .o (rules.set n (.int p)), .d (.int n), x5, x6, x7], ?_, _, _, by rw [List.length_set]; exact hl, ok', rfl⟩
    show (sPut 3 (eV 4) _ [.d (.tuple l), .d (.list rs), .d c, .o rules, .d (.int n), x5, x6, x7]).bind _ = _
    rw [e2]
    show ((((eIxO 3 (eV 4) [.d (.tuple l), .d (.list rs), .d c, .o (rules.set n (.int p)), .d (.int n), x5, x6, x7]).bind fun x => isN x .none).bind asB).bind fun b => if b = true then _ else _) = _
    rw [e3]
    rfl
theorem bodyB_ok {l rs : List PyData} (h : Fl8 l) (hr : ∀ r ∈ rs, RuleOk r) {n : Nat} (hn : n < 8) {c rules place : PyData} (hp : Rl rs place) {found : List PyData} (hf : found.length = n) (ho : ∀ d ∈ found, WayOk d) {x4 x6 x7 : Sl} :
    ∃ r, bodyB (setD (Tg.ix (.tp [4, 6])) [.int n, place] [.d (.tuple l), .d (.list rs), .d c, .d rules, x4, .o found, x6, x7]) = some r ∧ GoodR (fun δ => ∃ found x4 x6 x7, found.length = n + 1 ∧ (∀ d ∈ found, WayOk d) ∧ δ = [.d (.tuple l), .d (.list rs), .d c, .d rules, x4, .o found, x6, x7]) (fun _ => False) (fun t => t < 2) r := by
  obtain ⟨s, hs, os⟩ := h.at (i := n) (by omega) (by omega)
  have hst : ∃ ss, (∀ t ∈ ss, StepOk t) ∧ ss.length ≤ 1000 ∧ (sSeq (sAsg (eA tupD aNil) (.nm 7)) (sIf (cE (e2 notN (eV 6) (eC .none))) (sAsg (e2 ixD (e2 ixD (eV 1) (eV 6)) (eC (.int 1))) (.nm 7)) sNil)) [.d (.tuple l), .d (.list rs), .d c, .d rules, .d (.int n), .o found, .d place, x7] = some (.nx [.d (.tuple l), .d (.list rs), .d c, .d rules, .d (.int n), .o found, .d place, .d (.tuple ss)]) := by
    rcases hp with rfl | ⟨p, rfl, hp⟩
    · refine ⟨[], (fun t ht => by cases ht), (by decide), ?_⟩
      show ((((if ([] : List PyData).length ≤ sizeLine then some (PyData.tuple []) else none) : Option PyData).bind fun d => some (Res.nx [.d (.tuple l), .d (.list rs), .d c, .d rules, .d (.int n), .o found, .d .none, .d d])).bind fun r => thenR r _) = _
      rw [if_pos (by rw [sizeLine_eq]; simp)]
      rfl
    · obtain ⟨ts, ss, e, _, _, l2, o2⟩ := hr rs[p] (List.getElem_mem hp)
      refine ⟨ss, o2, l2, ?_⟩
      show ((((if ([] : List PyData).length ≤ sizeLine then some (PyData.tuple []) else none) : Option PyData).bind fun d => some (Res.nx [.d (.tuple l), .d (.list rs), .d c, .d rules, .d (.int n), .o found, .d (.int p), .d d])).bind fun r => thenR r _) = _
      rw [if_pos (by rw [sizeLine_eq]; simp)]
      show (((ixD (.list rs) (.int p)).bind fun x => ixD x (.int 1)).bind fun d => some (Res.nx [.d (.tuple l), .d (.list rs), .d c, .d rules, .d (.int n), .o found, .d (.int p), .d d])) = _
      rw [show ixD (.list rs) (.int p) = some rs[p] from atI_nat (List.getElem?_eq_getElem hp), e]
      show ((ixD (.tuple [.tuple ts, .tuple ss]) (.int 1)).bind fun d => some (Res.nx [.d (.tuple l), .d (.list rs), .d c, .d rules, .d (.int n), .o found, .d (.int p), .d d])) = _
      rw [ix1]
      rfl
  obtain ⟨ss, o2, l2, k1⟩ := hst
  obtain ⟨ws, w, hw, ow⟩ := F_way_of_ok os.st o2 l2
  have k2 : sApp 5 (eA (gN 2 F_way_of) (aCons (e2 ixD (eV 0) (eV 4)) (aCons (eV 7) aNil))) [.d (.tuple l), .d (.list rs), .d c, .d rules, .d (.int n), .o found, .d place, .d (.tuple ss)] = some (.nx [.d (.tuple l), .d (.list rs), .d c, .d rules, .d (.int n), .o (found ++ [.list (ws ++ [w])]), .d place, .d (.tuple ss)]) := by
    have k3 : eA (gN 2 F_way_of) (aCons (e2 ixD (eV 0) (eV 4)) (aCons (eV 7) aNil)) [.d (.tuple l), .d (.list rs), .d c, .d rules, .d (.int n), .o found, .d place, .d (.tuple ss)] = some (.list (ws ++ [w])) := by
      show (((ixD (.tuple l) (.int n)).bind fun x => some [x, .tuple ss]).bind (gN 2 F_way_of)) = _
      rw [hs]
      show (if [s, .tuple ss].length = 2 then F_way_of [s, .tuple ss] else none) = _
      exact (if_pos rfl).trans hw
    show ((eA (gN 2 F_way_of) (aCons (e2 ixD (eV 0) (eV 4)) (aCons (eV 7) aNil)) [.d (.tuple l), .d (.list rs), .d c, .d rules, .d (.int n), .o found, .d place, .d (.tuple ss)]).bind fun d => if found.length < sizeLine then some (Res.nx [.d (.tuple l), .d (.list rs), .d c, .d rules, .d (.int n), .o (found ++ [d]), .d place, .d (.tuple ss)]) else none) = _
    rw [k3]
    exact if_pos (by rw [sizeLine_eq]; omega)
  have k4 : ∀ q, X_look_at_way [.int n, .list (ws ++ [w])] = some q → sCallX X_look_at_way 2 (aCons (eV 4) (aCons (eIxO 5 (e1 negI (eC (.int 1)))) aNil)) [.d (.tuple l), .d (.list rs), .d c, .d rules, .d (.int n), .o (found ++ [.list (ws ++ [w])]), .d place, .d (.tuple ss)] = some (match q with | .ok _ => .nx [.d (.tuple l), .d (.list rs), .d c, .d rules, .d (.int n), .o (found ++ [.list (ws ++ [w])]), .d place, .d (.tuple ss)] | .error t => .ex t) := fun q hq => by
    have ka : aCons (eV 4) (aCons (eIxO 5 (e1 negI (eC (.int 1)))) aNil) [.d (.tuple l), .d (.list rs), .d c, .d rules, .d (.int n), .o (found ++ [.list (ws ++ [w])]), .d place, .d (.tuple ss)] = some [.int n, .list (ws ++ [w])] := by
      show ((((atI (found ++ [PyData.list (ws ++ [w])]) (-1)).bind fun x => some [x]).bind fun xs => some (PyData.int n :: xs))) = _
      rw [ixL]
      rfl
    unfold sCallX
    rw [ka, Option.bind_some, if_pos (show [PyData.int n, PyData.list (ws ++ [w])].length = 2 from rfl), hq]
    cases q <;> rfl
  have seq : ∀ r, sCallX X_look_at_way 2 (aCons (eV 4) (aCons (eIxO 5 (e1 negI (eC (.int 1)))) aNil)) [.d (.tuple l), .d (.list rs), .d c, .d rules, .d (.int n), .o (found ++ [.list (ws ++ [w])]), .d place, .d (.tuple ss)] = some r → bodyB (setD (Tg.ix (.tp [4, 6])) [.int n, place] [.d (.tuple l), .d (.list rs), .d c, .d rules, x4, .o found, x6, x7]) = some r := fun r hr => by
    have assoc : ∀ (f g k : En → Option Res) δ, sSeq f (sSeq g k) δ = sSeq (sSeq f g) k δ := fun f g k δ => by
      show ((f δ).bind fun r => thenR r (sSeq g k)) = (((f δ).bind fun r => thenR r g).bind fun r => thenR r k)
      cases f δ with
      | none => rfl
      | some r => cases r <;> rfl
    unfold bodyB
    rw [assoc]
    show ((sSeq (sAsg (eA tupD aNil) (.nm 7)) (sIf (cE (e2 notN (eV 6) (eC .none))) (sAsg (e2 ixD (e2 ixD (eV 1) (eV 6)) (eC (.int 1))) (.nm 7)) sNil) [.d (.tuple l), .d (.list rs), .d c, .d rules, .d (.int n), .o found, .d place, x7]).bind fun r => thenR r _) = _
    rw [k1]
    show ((sApp 5 _ [.d (.tuple l), .d (.list rs), .d c, .d rules, .d (.int n), .o found, .d place, .d (.tuple ss)]).bind fun r => thenR r _) = _
    rw [k2]
    exact hr
  rcases X_look_ok (a := .int n) ow with ⟨q, o3⟩ | q
  · refine ⟨_, seq _ (k4 _ q), _, _, _, _, by rw [List.length_append, List.length_singleton, hf], fun d hd => ?_, rfl⟩
    rcases List.mem_append.mp hd with hd | hd
    · exact ho d hd
    · rw [List.mem_singleton.mp hd]; exact ⟨ws, w, rfl, o3⟩
  · exact ⟨_, seq _ (k4 _ q), (by decide : (1 : Nat) < 2)⟩
theorem X_ways_ok {l rs : List PyData} (h : Fl8 l) (hr : ∀ r ∈ rs, RuleOk r) : (∃ found, X_ways [.tuple l, .list rs, .none] = some (.ok (.list found)) ∧ found.length = 8 ∧ ∀ d ∈ found, WayOk d) ∨ ∃ t, t < 2 ∧ X_ways [.tuple l, .list rs, .none] = some (.error t) := by
  have hall : ∀ d ∈ rng8, ∃ n : Nat, d = .int n ∧ n < 8 := fun d hd => by
    unfold rng8 at hd
    simp only [List.mem_cons, List.not_mem_nil, or_false] at hd
    rcases hd with rfl | rfl | rfl | rfl | rfl | rfl | rfl | rfl
    · exact ⟨0, rfl, by decide⟩
    · exact ⟨1, rfl, by decide⟩
    · exact ⟨2, rfl, by decide⟩
    · exact ⟨3, rfl, by decide⟩
    · exact ⟨4, rfl, by decide⟩
    · exact ⟨5, rfl, by decide⟩
    · exact ⟨6, rfl, by decide⟩
    · exact ⟨7, rfl, by decide⟩
  obtain ⟨r, hA, gA⟩ := forD_inv (T := .nm 4) (body := bodyA) (its := rng8) (Inv := fun δ => ∃ rules x4, rules.length = 8 ∧ (∀ d ∈ rules, Rl rs d) ∧ δ = [.d (.tuple l), .d (.list rs), .d (.list rng8), .o rules, x4, .u, .u, .u]) (Ret := fun _ => False) (Ex := fun t => t < 2)
    (fun d hd δ hδ => by
      obtain ⟨rules, x4, hl, ho, rfl⟩ := hδ
      obtain ⟨n, rfl, hn⟩ := hall d hd
      obtain ⟨r, h1, h2⟩ := bodyA_ok h hr hn (c := .list rng8) hl ho (x4 := x4) (x5 := .u) (x6 := .u) (x7 := .u)
      exact ⟨[.int n], r, rfl, h1, h2⟩) (δ := [.d (.tuple l), .d (.list rs), .d (.list rng8), .o (List.replicate 8 .none), .u, .u, .u, .u]) ⟨_, _, rfl, fun d hd => by rw [List.eq_of_mem_replicate hd]; exact .inl rfl, rfl⟩
  have eW : X_ways [.tuple l, .list rs, .none] = outX (thenR r (sSeq (sLst 5 aNil) (sFrz 3 (sSeq (sFor (oneL (eV 3) lsD) (.tp [4, 6]) bodyB) (sFrz 5 (sRet (eV 5))))))) := by
    have s1 : iB (e1 srtI (eV 2)) lsD [.d (.tuple l), .d (.list rs), .d (.list rng8), .o (List.replicate 8 .none), .u, .u, .u, .u] = some rng8 := by
      show ((srtI (.list rng8)).bind lsD) = _
      rw [srt8]
      rfl
    have e : X_ways [.tuple l, .list rs, .none] = outX ((sSeq (sFor (iB (e1 srtI (eV 2)) lsD) (.nm 4) bodyA) (sSeq (sLst 5 aNil) (sFrz 3 (sSeq (sFor (oneL (eV 3) lsD) (.tp [4, 6]) bodyB) (sFrz 5 (sRet (eV 5))))))) [.d (.tuple l), .d (.list rs), .d (.list rng8), .o (List.replicate 8 .none), .u, .u, .u, .u]) := rfl
    rw [e]
    unfold sSeq sFor
    rw [s1, Option.bind_some, hA, Option.bind_some]
  rw [eW]
  cases r with
  | rt d => exact gA.elim
  | ex t => exact .inr ⟨t, gA, rfl⟩
  | nx δ =>
    obtain ⟨rules, x4, hl, ho, rfl⟩ := gA
    have hle : (enD rules).length = 8 := by unfold enD; simp [hl]
    obtain ⟨r2, hB, gB⟩ := forD_invN (T := .tp [4, 6]) (body := bodyB) (its := enD rules) (k0 := 0) (N := 8) (by rw [hle]) (Inv := fun k δ => ∃ found x4 x6 x7, found.length = k ∧ (∀ d ∈ found, WayOk d) ∧ δ = [.d (.tuple l), .d (.list rs), .d (.list rng8), .d (.list rules), x4, .o found, x6, x7]) (Ret := fun _ => False) (Ex := fun t => t < 2)
      (fun k d hd δ hδ => by
        obtain ⟨found, x4, x6, x7, hf, hw, rfl⟩ := hδ
        have hk : k < 8 := by rw [← hle]; exact (List.getElem?_eq_some_iff.mp hd).1
        have hd' : d = .tuple [.int k, rules[k]'(by omega)] := by
          rw [enD_get (by omega)] at hd
          exact (Option.some.inj hd).symm
        subst hd'
        rw [Nat.zero_add] at hf
        obtain ⟨r, h1, h2⟩ := bodyB_ok h hr hk (c := .list rng8) (rules := .list rules) (ho _ (List.getElem_mem (by omega : k < rules.length))) hf hw (x4 := x4) (x6 := x6) (x7 := x7)
        rw [Nat.zero_add]
        exact ⟨_, r, rfl, h1, h2⟩) (δ := [.d (.tuple l), .d (.list rs), .d (.list rng8), .d (.list rules), x4, .o [], .u, .u]) ⟨[], _, _, _, rfl, fun d hd => (by cases hd), rfl⟩
    have eL : thenR (.nx [.d (.tuple l), .d (.list rs), .d (.list rng8), .o rules, x4, .u, .u, .u]) (sSeq (sLst 5 aNil) (sFrz 3 (sSeq (sFor (oneL (eV 3) lsD) (.tp [4, 6]) bodyB) (sFrz 5 (sRet (eV 5)))))) = thenR r2 (sFrz 5 (sRet (eV 5))) := by
      have s2 : sLst 5 aNil [.d (.tuple l), .d (.list rs), .d (.list rng8), .o rules, x4, .u, .u, .u] = some (.nx [.d (.tuple l), .d (.list rs), .d (.list rng8), .o rules, x4, .o [], .u, .u]) := by
        show (if ([] : List PyData).length ≤ sizeLine then some (Res.nx [.d (.tuple l), .d (.list rs), .d (.list rng8), .o rules, x4, .o [], .u, .u]) else none) = _
        exact if_pos (by rw [sizeLine_eq]; simp)
      show (sSeq (sLst 5 aNil) _ [.d (.tuple l), .d (.list rs), .d (.list rng8), .o rules, x4, .u, .u, .u]) = _
      unfold sSeq
      rw [s2, Option.bind_some]
      show ((sFor (oneL (eV 3) lsD) (.tp [4, 6]) bodyB [.d (.tuple l), .d (.list rs), .d (.list rng8), .d (.list rules), x4, .o [], .u, .u]).bind fun r => thenR r (sFrz 5 (sRet (eV 5)))) = _
      rw [show sFor (oneL (eV 3) lsD) (.tp [4, 6]) bodyB [.d (.tuple l), .d (.list rs), .d (.list rng8), .d (.list rules), x4, .o [], .u, .u] = forD (.tp [4, 6]) bodyB (enD rules) [.d (.tuple l), .d (.list rs), .d (.list rng8), .d (.list rules), x4, .o [], .u, .u] from rfl, hB]
      rfl
    rw [eL]
    cases r2 with
    | rt d => exact gB.elim
    | ex t => exact .inr ⟨t, gB, rfl⟩
    | nx δ =>
      obtain ⟨found, x4', x6, x7, hf, hw, rfl⟩ := gB
      exact .inl ⟨found, rfl, hf, hw⟩
/-! ### two on one spot -/
def bodyS : En → Option Res := sIf (cE (e2 eqD (eSl (e2 ixD (eV 0) (eV 1)) pN (pE (eC (.int 2)))) (eSl (e2 ixD (eV 0) (eV 2)) pN (pE (eC (.int 2)))))) (sRz 2 2 (aCons (eV 1) (aCons (eV 2) aNil))) sNil
theorem sl2 {s : PyData} (h : OkSt s) : ∃ u v : Int, (some s).bind (fun x => cutD x none (some 2)) = some (.tuple [.int u, .int v]) := by
  obtain ⟨x, y, f, rfl, _⟩ := h
  exact ⟨x, y, rfl⟩
theorem X_spots_ok {l : List PyData} (h : Fl8 l) : X_look_at_spots [.tuple l] = some (.ok .none) ∨ X_look_at_spots [.tuple l] = some (.error 2) := by
  have inner : ∀ (i : Int) (x2 : Sl), 0 ≤ i → i < 8 → ∃ r, sFor (iB (aCons (e2 addI (eV 1) (eC (.int 1))) (aCons (eC (.int 8)) aNil)) rg2) (.nm 2) bodyS [.d (.tuple l), .d (.int i), x2] = some r ∧ GoodR (fun δ => ∃ x1 x2, δ = [.d (.tuple l), x1, x2]) (fun _ => False) (fun t => t = 2) r := fun i x2 i0 i8 => by
    have e1 : iB (aCons (e2 addI (eV 1) (eC (.int 1))) (aCons (eC (.int 8)) aNil)) rg2 [.d (.tuple l), .d (.int i), x2] = some ((List.range (8 - (i + 1)).toNat).map fun k => .int ((i + 1) + (k : Nat))) := by
      show (if -(2 ^ 62) ≤ i + 1 ∧ i + 1 < 2 ^ 62 ∧ -(2 ^ 62) ≤ (8 : Int) ∧ (8 : Int) < 2 ^ 62 then some _ else none) = _
      exact if_pos (by omega)
    unfold sFor
    rw [e1, Option.bind_some]
    obtain ⟨r, hr, gr⟩ := forD_inv (T := .nm 2) (body := bodyS) (its := (List.range (8 - (i + 1)).toNat).map fun k => PyData.int ((i + 1) + (k : Nat))) (Inv := fun δ => ∃ x2, δ = [.d (.tuple l), .d (.int i), x2]) (Ret := fun _ => False) (Ex := fun t => t = 2) (fun d hd δ hδ => by
      obtain ⟨x2, rfl⟩ := hδ
      obtain ⟨k, hk, rfl⟩ := List.mem_map.mp hd
      have hk' := List.mem_range.mp hk
      obtain ⟨s1, h1, o1⟩ := h.at i0 i8
      obtain ⟨s2, h2, o2⟩ := h.at (i := i + 1 + (k : Nat)) (by omega) (by omega)
      obtain ⟨u1, v1, q1⟩ := sl2 o1
      obtain ⟨u2, v2, q2⟩ := sl2 o2
      have q : cE (e2 eqD (eSl (e2 ixD (eV 0) (eV 1)) pN (pE (eC (.int 2)))) (eSl (e2 ixD (eV 0) (eV 2)) pN (pE (eC (.int 2))))) [.d (.tuple l), .d (.int i), .d (.int (i + 1 + (k : Nat)))] = some (PyData.eqv (.tuple [.int u1, .int v1]) (.tuple [.int u2, .int v2])) := by
        show ((((ixD (.tuple l) (.int i)).bind fun x => cutD x none (some 2)).bind fun x => (((ixD (.tuple l) (.int (i + 1 + (k : Nat)))).bind fun x => cutD x none (some 2)).bind fun y => eqD x y)).bind asB) = _
        rw [h1, h2, q1, q2, Option.bind_some, Option.bind_some]
        unfold eqD
        rw [if_pos ⟨shapedXY _ _, shapedXY _ _⟩]
        rfl
      refine ⟨[.int (i + 1 + (k : Nat))], if PyData.eqv (.tuple [.int u1, .int v1]) (.tuple [.int u2, .int v2]) = true then .ex 2 else .nx [.d (.tuple l), .d (.int i), .d (.int (i + 1 + (k : Nat)))], rfl, ?_, ?_⟩
      · show ((cE _ [.d (.tuple l), .d (.int i), .d (.int (i + 1 + (k : Nat)))]).bind fun b => if b = true then _ else _) = _
        rw [q]
        cases PyData.eqv (.tuple [.int u1, .int v1]) (.tuple [.int u2, .int v2]) <;> rfl
      · split
        · exact rfl
        · exact ⟨_, rfl⟩) (δ := [.d (.tuple l), .d (.int i), x2]) ⟨_, rfl⟩
    refine ⟨r, hr, ?_⟩
    cases r with
    | nx δ => obtain ⟨x2, rfl⟩ := gr; exact ⟨_, _, rfl⟩
    | rt d => exact gr
    | ex t => exact gr
  have e8 : iB (aCons (eC (.int 8)) aNil) rg1 [.d (.tuple l), .u, .u] = some ((List.range 8).map fun k => .int (0 + (k : Nat))) := by
    show (if -(2 ^ 62) ≤ (8 : Int) ∧ (8 : Int) < 2 ^ 62 then some _ else none) = _
    exact if_pos (by omega)
  obtain ⟨r, hr, gr⟩ := forD_inv (T := .nm 1) (body := sFor (iB (aCons (e2 addI (eV 1) (eC (.int 1))) (aCons (eC (.int 8)) aNil)) rg2) (.nm 2) bodyS) (its := (List.range 8).map fun k => PyData.int (0 + (k : Nat))) (Inv := fun δ => ∃ x1 x2, δ = [.d (.tuple l), x1, x2]) (Ret := fun _ => False) (Ex := fun t => t = 2) (fun d hd δ hδ => by
    obtain ⟨x1, x2, rfl⟩ := hδ
    obtain ⟨k, hk, rfl⟩ := List.mem_map.mp hd
    have hk' := List.mem_range.mp hk
    obtain ⟨r, h1, h2⟩ := inner (0 + (k : Nat)) x2 (by omega) (by omega)
    exact ⟨_, r, rfl, h1, h2⟩) (δ := [.d (.tuple l), .u, .u]) ⟨_, _, rfl⟩
  have e : X_look_at_spots [.tuple l] = outX (some r) := by
    show outX ((iB (aCons (eC (.int 8)) aNil) rg1 [.d (.tuple l), .u, .u]).bind fun its => forD (.nm 1) (sFor (iB (aCons (e2 addI (eV 1) (eC (.int 1))) (aCons (eC (.int 8)) aNil)) rg2) (.nm 2) bodyS) its [.d (.tuple l), .u, .u]) = _
    rw [e8, Option.bind_some, hr]
  rw [e]
  cases r with
  | nx δ => exact .inl rfl
  | rt d => exact gr.elim
  | ex t =>
    obtain rfl : t = 2 := gr
    exact .inr rfl
/-- danced -/
theorem X_danced_ok {l rs : List PyData} (h : Fl8 l) (hr : ∀ r ∈ rs, RuleOk r) : (∃ l', Fl8 l' ∧ X_danced [.tuple l, .list rs, .none] = some (.ok (.tuple l'))) ∨ ∃ t, t < 3 ∧ X_danced [.tuple l, .list rs, .none] = some (.error t) := by
  have ea : aWays [.d (.tuple l), .d (.list rs), .d .none, .u, .u] = some [.tuple l, .list rs, .none] := rfl
  rcases X_ways_ok h hr with ⟨found, hw, hf, ho⟩ | ⟨t, ht, hw⟩
  · have ew : eA (okX 3 fun ds => X_ways (ds ++ [])) aWays [.d (.tuple l), .d (.list rs), .d .none, .u, .u] = some (.list found) := by
      unfold eA
      rw [ea, Option.bind_some]
      exact okX_ok rfl hw
    obtain ⟨ys, y1, y2, y3⟩ := lcD_all (T := .nm 4) (fe := e2 ixD (eV 4) (e1 negI (eC (.int 1)))) (δ := [.d (.tuple l), .d (.list rs), .d .none, .u, .u]) (Pr := OkSt) (its := found) (fun d hd => by
      obtain ⟨ws, z, rfl, oz⟩ := ho d hd
      exact ⟨[.list (ws ++ [z])], z, rfl, ixL ws z, oz z (by simp)⟩)
    have el : e1 tupleD (eLc (iB (eA (okX 3 fun ds => X_ways (ds ++ [])) aWays) lsD) (.nm 4) [4] (e2 ixD (eV 4) (e1 negI (eC (.int 1))))) [.d (.tuple l), .d (.list rs), .d .none, .u, .u] = some (.tuple ys) := by
      unfold e1 eLc iB
      rw [ew, Option.bind_some, show lsD (.list found) = some found from rfl, Option.bind_some, if_pos (show found.length ≤ sizeLine by rw [sizeLine_eq]; omega)]
      rw [show wipeD [Sl.d (.tuple l), .d (.list rs), .d .none, .u, .u] [4] = [Sl.d (.tuple l), .d (.list rs), .d .none, .u, .u] from rfl]
      have y1' : lcD (.nm 4) (e2 ixD (eV 4) fun δ => (eC (.int 1) δ).bind negI) [Sl.d (.tuple l), .d (.list rs), .d .none, .u, .u] found = some ys := y1
      rw [y1']
      rfl
    have f8 : Fl8 ys := ⟨by rw [y2, hf], y3⟩
    have s1 : sOr (sAsg (e1 tupleD (eLc (iB (eA (okX 3 fun ds => X_ways (ds ++ [])) aWays) lsD) (.nm 4) [4] (e2 ixD (eV 4) (e1 negI (eC (.int 1)))))) (.nm 3)) (sEr fun δ => (aWays δ).bind (erX 3 fun ds => X_ways (ds ++ []))) [.d (.tuple l), .d (.list rs), .d .none, .u, .u] = some (.nx [.d (.tuple l), .d (.list rs), .d .none, .d (.tuple ys), .u]) := by
      unfold sOr sAsg
      rw [el]
      rfl
    have e0 : ∀ q, X_look_at_spots [.tuple ys] = some q → X_danced [.tuple l, .list rs, .none] = outX (thenR (callR [.d (.tuple l), .d (.list rs), .d .none, .d (.tuple ys), .u] q) (sRet (eV 3))) := fun q hq => by
      have s2 : sCallX X_look_at_spots 1 (aCons (eV 3) aNil) [.d (.tuple l), .d (.list rs), .d .none, .d (.tuple ys), .u] = some (callR [.d (.tuple l), .d (.list rs), .d .none, .d (.tuple ys), .u] q) := sCallX_at (ds := [.tuple ys]) rfl rfl hq
      show outX (g_danced [.d (.tuple l), .d (.list rs), .d .none, .u, .u]) = _
      unfold g_danced sSeq
      rw [s1, Option.bind_some]
      show outX ((sCallX X_look_at_spots 1 (aCons (eV 3) aNil) [.d (.tuple l), .d (.list rs), .d .none, .d (.tuple ys), .u]).bind fun r => thenR r (sRet (eV 3))) = _
      rw [s2]
      rfl
    rcases X_spots_ok f8 with q | q
    · exact .inl ⟨ys, f8, e0 _ q⟩
    · exact .inr ⟨2, by decide, e0 _ q⟩
  · have ew : eA (okX 3 fun ds => X_ways (ds ++ [])) aWays [.d (.tuple l), .d (.list rs), .d .none, .u, .u] = none := by
      unfold eA
      rw [ea, Option.bind_some]
      exact okX_er rfl hw
    refine .inr ⟨t, by omega, ?_⟩
    have s1 : sOr (sAsg (e1 tupleD (eLc (iB (eA (okX 3 fun ds => X_ways (ds ++ [])) aWays) lsD) (.nm 4) [4] (e2 ixD (eV 4) (e1 negI (eC (.int 1)))))) (.nm 3)) (sEr fun δ => (aWays δ).bind (erX 3 fun ds => X_ways (ds ++ []))) [.d (.tuple l), .d (.list rs), .d .none, .u, .u] = some (.ex t) := by
      unfold sOr sAsg e1 eLc iB
      rw [ew]
      show sEr (fun δ => (aWays δ).bind (erX 3 fun ds => X_ways (ds ++ []))) [.d (.tuple l), .d (.list rs), .d .none, .u, .u] = _
      show Option.map Res.ex ((aWays [.d (.tuple l), .d (.list rs), .d .none, .u, .u]).bind (erX 3 fun ds => X_ways (ds ++ []))) = _
      rw [ea, Option.bind_some]
      exact congrArg (Option.map Res.ex) (erX_er (n := 3) (G := fun ds => X_ways (ds ++ [])) (ds := [.tuple l, .list rs, .none]) (t := t) rfl hw)
    show outX (g_danced [.d (.tuple l), .d (.list rs), .d .none, .u, .u]) = _
    unfold g_danced sSeq
    rw [s1]
    rfl
end SQ
/-! ## SqP6 -/
set_option Elab.async false
set_option linter.all false
set_option maxRecDepth 100000
set_option maxHeartbeats 4000000
/-! the plain law, 6: turnings, forms -/
namespace SQ
open PySem PySem.Spec L2 TL
open PySem.W (dataLt keyToks keyToksAll alike alikeAll)
theorem dLt_trans {a b c : PyData} (h1 : dataLt a b = true) (h2 : dataLt b c = true) : dataLt a c = true := PyProof.Rows.lex_trans _ _ _ h1 h2
theorem dLt_neg {a c : PyData} (b : PyData) (h : dataLt a c = true) : dataLt a b = true ∨ dataLt b c = true := PyProof.Rows.lex_negTrans _ _ _ h
theorem dLt_total {a b : PyData} (h1 : dataLt a b = false) (h2 : dataLt b a = false) : keyToks a = keyToks b := PyProof.Rows.lex_total _ _ h1 h2
theorem bestD_min : ∀ (ds : List PyData) (d : PyData), bestD d ds ∈ d :: ds ∧ ∀ e ∈ d :: ds, dataLt e (bestD d ds) = false
  | [], d => ⟨List.mem_cons_self, fun e he => by
    rw [List.mem_singleton.mp he]
    exact PyProof.Rows.lex_irrefl _⟩
  | x :: r, d => by
    obtain ⟨h1, h2⟩ := bestD_min r (if dataLt x d then x else d)
    have e : bestD d (x :: r) = bestD (if dataLt x d then x else d) r := rfl
    rw [e]
    generalize bestD (if dataLt x d then x else d) r = b at h1 h2
    by_cases c : dataLt x d = true
    · rw [if_pos c] at h1 h2
      refine ⟨List.mem_cons_of_mem _ h1, fun z hz => ?_⟩
      rcases List.mem_cons.mp hz with rfl | hz
      · cases q : dataLt z b with
        | false => rfl
        | true =>
          have := dLt_trans c q
          rw [h2 x List.mem_cons_self] at this
          cases this
      · exact h2 z hz
    · rw [if_neg c] at h1 h2
      have c' : dataLt x d = false := by
        cases q : dataLt x d with
        | false => rfl
        | true => exact absurd q c
      refine ⟨?_, fun z hz => ?_⟩
      · rcases List.mem_cons.mp h1 with rfl | h1
        · exact List.mem_cons_self
        · exact List.mem_cons_of_mem _ (List.mem_cons_of_mem _ h1)
      · rcases List.mem_cons.mp hz with rfl | hz
        · exact h2 z List.mem_cons_self
        · rcases List.mem_cons.mp hz with rfl | hz
          · cases q : dataLt z b with
            | false => rfl
            | true =>
              rcases dLt_neg d q with w | w
              · rw [c'] at w; cases w
              · rw [h2 d List.mem_cons_self] at w; cases w
          · exact h2 z (List.mem_cons_of_mem _ hz)
/-- the signs of a row of stands tell the row -/
theorem toks_stands : ∀ {l m : List PyData}, (∀ s ∈ l, OkSt s) → (∀ s ∈ m, OkSt s) → keyToksAll l = keyToksAll m → l = m
  | [], [], _, _, _ => rfl
  | [], s :: m, _, _, h => by
    unfold keyToksAll at h
    injection h with h _
    injection h with h
    cases h
  | s :: l, [], _, _, h => by
    unfold keyToksAll at h
    injection h with h _
    injection h with h
    cases h
  | s :: l, t :: m, h1, h2, h => by
    obtain ⟨x, y, f, rfl, _⟩ := h1 s List.mem_cons_self
    obtain ⟨x', y', f', rfl, _⟩ := h2 t List.mem_cons_self
    have e : ∀ (x y f : Int) (l : List PyData), keyToksAll (stD x y f :: l) = [.inl 1, .inl 1, .inl x, .inl 1, .inl y, .inl 1, .inl f, .inl 0] ++ keyToksAll l := fun x y f l => by
      unfold stD
      simp [keyToksAll, keyToks]
    rw [e, e] at h
    simp only [List.cons_append, List.nil_append, List.cons.injEq, Sum.inl.injEq, true_and] at h
    obtain ⟨rfl, rfl, rfl, h⟩ := h
    rw [toks_stands (fun s hs => h1 s (List.mem_cons_of_mem _ hs)) (fun s hs => h2 s (List.mem_cons_of_mem _ hs)) h]
/-- the least of the same floors is the same -/
theorem bestD_same {d d' : PyData} {ds ds' : List PyData} (hf : ∀ e ∈ d :: ds, ∃ l, e = .tuple l ∧ Fl8 l) (h1 : ∀ e ∈ d :: ds, e ∈ d' :: ds') (h2 : ∀ e ∈ d' :: ds', e ∈ d :: ds) : bestD d ds = bestD d' ds' := by
  obtain ⟨m1, l1⟩ := bestD_min ds d
  obtain ⟨m2, l2⟩ := bestD_min ds' d'
  have q := dLt_total (l1 _ (h2 _ m2)) (l2 _ (h1 _ m1))
  obtain ⟨a, ea, fa⟩ := hf _ m1
  obtain ⟨b, eb, fb⟩ := hf _ (h2 _ m2)
  rw [ea, eb] at q ⊢
  have q' : keyToksAll b = keyToksAll a := by simpa [keyToks] using q
  rw [toks_stands fb.2 fa.2 q']
/-! ### turnings -/
def tq : PyData → PyData
  | .tuple [.int x, .int y, .int f] => stD (0 - y) x ((f + 1) % 4)
  | d => d
def turnN : Nat → List PyData → List PyData
  | 0, l => l
  | n + 1, l => turnN n (l.map tq)
theorem tq_ok {s : PyData} (h : OkSt s) : OkSt (tq s) := by
  obtain ⟨x, y, f, rfl, h⟩ := h
  exact ⟨0 - y, x, (f + 1) % 4, rfl, by unfold okXYF at *; omega⟩
theorem Fl8.tq {l : List PyData} (h : Fl8 l) : Fl8 (l.map tq) := ⟨by rw [List.length_map]; exact h.1, fun s hs => by
  obtain ⟨z, hz, rfl⟩ := List.mem_map.mp hs
  exact tq_ok (h.2 z hz)⟩
theorem Fl8.turnN : ∀ (n : Nat) {l : List PyData}, Fl8 l → Fl8 (turnN n l)
  | 0, _, h => h
  | n + 1, _, h => Fl8.turnN n h.tq
theorem turn_comp {l : List PyData} (h : Fl8 l) (a : Sl) (q : PyData) : e1 tupleD (eLc (iB (eV 0) tuD) (.tp [3, 4, 5]) [3, 4, 5] (eA tupD (aCons (e2 subI (eC (.int 0)) (eV 4)) (aCons (eV 3) (aCons (e2 modI (e2 addI (eV 5) (eC (.int 1))) (eC (.int 4))) aNil))))) [.d (.tuple l), .d q, a, .u, .u, .u] = some (.tuple (l.map tq)) := by
  have key : ∀ {l : List PyData} {δ : En}, (∀ s ∈ l, OkSt s) → δ.length = 6 → lcD (.tp [3, 4, 5]) (eA tupD (aCons (e2 subI (eC (.int 0)) (eV 4)) (aCons (eV 3) (aCons (e2 modI (e2 addI (eV 5) (eC (.int 1))) (eC (.int 4))) aNil)))) δ l = some (l.map tq) := fun {l δ} => by
    induction l with
    | nil => exact fun _ _ => rfl
    | cons s l ih =>
      intro h hδ
      obtain ⟨x, y, f, rfl, _⟩ := h s List.mem_cons_self
      match δ, hδ with
      | [a, b, c, d, e, g], hδ =>
        have e1 : eA tupD (aCons (e2 subI (eC (.int 0)) (eV 4)) (aCons (eV 3) (aCons (e2 modI (e2 addI (eV 5) (eC (.int 1))) (eC (.int 4))) aNil))) (setD [3, 4, 5] [.int x, .int y, .int f] [a, b, c, d, e, g]) = some (stD (0 - y) x ((f + 1) % 4)) := by
          simp [setD, eA, aCons, aNil, e2, eC, eV, subI, addI, modI, tupD, sizeLine_eq, stD]
        show ((eA tupD (aCons (e2 subI (eC (.int 0)) (eV 4)) (aCons (eV 3) (aCons (e2 modI (e2 addI (eV 5) (eC (.int 1))) (eC (.int 4))) aNil))) (setD [3, 4, 5] [.int x, .int y, .int f] [a, b, c, d, e, g])).bind fun z => (lcD (.tp [3, 4, 5]) _ [a, b, c, d, e, g] l).map (z :: ·)) = _
        rw [e1, Option.bind_some, ih (fun s hs => h s (List.mem_cons_of_mem _ hs)) hδ]
        rfl
  unfold SQ.e1 eLc iB
  rw [show eV 0 [Sl.d (.tuple l), .d q, a, .u, .u, .u] = some (.tuple l) from rfl, Option.bind_some, show tuD (.tuple l) = some l from rfl, Option.bind_some, if_pos (show l.length ≤ sizeLine by rw [sizeLine_eq, h.1]; omega), key h.2 rfl]
  rfl
theorem turn_loop : ∀ (n : Nat) {its l : List PyData} {a : Sl} {q : PyData}, its.length = n → Fl8 l → ∃ a', forD (.nm 2) (sAsg (e1 tupleD (eLc (iB (eV 0) tuD) (.tp [3, 4, 5]) [3, 4, 5] (eA tupD (aCons (e2 subI (eC (.int 0)) (eV 4)) (aCons (eV 3) (aCons (e2 modI (e2 addI (eV 5) (eC (.int 1))) (eC (.int 4))) aNil)))))) (.nm 0)) its [.d (.tuple l), .d q, a, .u, .u, .u] = some (.nx [.d (.tuple (turnN n l)), .d q, a', .u, .u, .u])
  | 0, its, l, a, q, hn, h => by
    obtain rfl := List.length_eq_zero_iff.mp hn
    exact ⟨a, rfl⟩
  | n + 1, its, l, a, q, hn, h => by
    match its, hn with
    | d :: its, hn =>
      have hb : (sAsg (e1 tupleD (eLc (iB (eV 0) tuD) (.tp [3, 4, 5]) [3, 4, 5] (eA tupD (aCons (e2 subI (eC (.int 0)) (eV 4)) (aCons (eV 3) (aCons (e2 modI (e2 addI (eV 5) (eC (.int 1))) (eC (.int 4))) aNil)))))) (.nm 0)) (setD (Tg.ix (.nm 2)) [d] [.d (.tuple l), .d q, a, .u, .u, .u]) = some (.nx [.d (.tuple (l.map tq)), .d q, .d d, .u, .u, .u]) := by
        unfold sAsg
        rw [show setD (Tg.ix (.nm 2)) [d] [Sl.d (.tuple l), .d q, a, .u, .u, .u] = [Sl.d (.tuple l), .d q, .d d, .u, .u, .u] from rfl, turn_comp h]
        rfl
      rw [forD_cons (T := .nm 2) (xs := [d]) rfl hb]
      exact turn_loop n (by simpa using hn) h.tq
theorem F_turned_ok {l : List PyData} (h : Fl8 l) (k : Int) : F_turned [.tuple l, .int k] = some (.tuple (turnN (k % 4).toNat l)) := by
  have e1 : iB (aCons (e2 modI (eV 1) (eC (.int 4))) aNil) rg1 [.d (.tuple l), .d (.int k), .u, .u, .u, .u] = some ((List.range (k % 4).toNat).map fun i => .int (0 + (i : Nat))) := by
    show (if -(2 ^ 62) ≤ k % 4 ∧ k % 4 < 2 ^ 62 then some _ else none) = _
    exact if_pos (by omega)
  obtain ⟨a', e2⟩ := turn_loop (k % 4).toNat (its := (List.range (k % 4).toNat).map fun i => PyData.int (0 + (i : Nat))) (a := .u) (q := .int k) (by simp) h
  show outD (((iB _ rg1 [.d (.tuple l), .d (.int k), .u, .u, .u, .u]).bind fun its => forD _ _ its [.d (.tuple l), .d (.int k), .u, .u, .u, .u]).bind fun r => thenR r (sRet (eV 0))) = _
  rw [e1, Option.bind_some, e2]
  rfl
/-! ### forms -/
theorem alike_stands : ∀ {l m : List PyData}, (∀ s ∈ l, OkSt s) → (∀ s ∈ m, OkSt s) → alikeAll l m = true
  | [], m, _, _ => by cases m <;> rfl
  | s :: l, [], _, _ => rfl
  | s :: l, t :: m, h1, h2 => by
    obtain ⟨x, y, f, rfl, _⟩ := h1 s List.mem_cons_self
    obtain ⟨x', y', f', rfl, _⟩ := h2 t List.mem_cons_self
    have e := alike_stands (fun s hs => h1 s (List.mem_cons_of_mem _ hs)) (fun s hs => h2 s (List.mem_cons_of_mem _ hs))
    simp [stD, alike, alikeAll, e]
theorem depth_stands : ∀ {l : List PyData}, (∀ s ∈ l, OkSt s) → PyData.depthAll l ≤ 2
  | [], _ => by simp [PyData.depthAll]
  | s :: l, h => by
    obtain ⟨x, y, f, rfl, _⟩ := h s List.mem_cons_self
    have e := depth_stands (fun s hs => h s (List.mem_cons_of_mem _ hs))
    simp [stD, PyData.depthAll, PyData.depth] at *
    omega
def quad (l : List PyData) : List PyData := [.tuple (turnN 1 l), .tuple (turnN 2 l), .tuple (turnN 3 l)]
theorem quad_fl {l : List PyData} (h : Fl8 l) : ∀ e ∈ .tuple l :: quad l, ∃ m, e = .tuple m ∧ Fl8 m := fun e he => by
  simp only [quad, List.mem_cons, List.not_mem_nil, or_false] at he
  rcases he with rfl | rfl | rfl | rfl
  · exact ⟨l, rfl, h⟩
  · exact ⟨_, rfl, h.turnN 1⟩
  · exact ⟨_, rfl, h.turnN 2⟩
  · exact ⟨_, rfl, h.turnN 3⟩
theorem quad_ok {l : List PyData} (h : Fl8 l) : okM (.tuple l :: quad l) = true := by
  refine List.all_eq_true.mpr fun e he => ?_
  obtain ⟨m, rfl, hm⟩ := quad_fl h e he
  rw [Bool.and_eq_true, Bool.and_eq_true]
  refine ⟨⟨rfl, decide_eq_true ?_⟩, List.all_eq_true.mpr fun e' he' => ?_⟩
  · have := depth_stands hm.2
    simp [PyData.depth]
    omega
  · obtain ⟨m', rfl, hm'⟩ := quad_fl h e' he'
    show alikeAll m m' = true
    exact alike_stands hm.2 hm'.2
def formL (l : List PyData) : PyData := bestD (.tuple l) (quad l)
theorem lcD_step {T : Tg} {fe : En → Option PyData} {δ : En} {d y : PyData} {ds xs ys : List PyData} (h1 : T.cut d = some xs) (h2 : fe (setD T.ix xs δ) = some y) (h3 : lcD T fe δ ds = some ys) : lcD T fe δ (d :: ds) = some (y :: ys) := by
  show ((T.cut d).bind fun xs => (fe (setD T.ix xs δ)).bind fun y => (lcD T fe δ ds).map (y :: ·)) = _
  rw [h1, Option.bind_some, h2, Option.bind_some, h3]
  rfl
theorem F_form_ok {l : List PyData} (h : Fl8 l) : F_form [.tuple l] = some (formL l) := by
  have e1 : iB (aCons (eC (.int 4)) aNil) rg1 [.d (.tuple l), .u] = some [.int 0, .int 1, .int 2, .int 3] := by
    show (if -(2 ^ 62) ≤ (4 : Int) ∧ (4 : Int) < 2 ^ 62 then some ((List.range (4 : Int).toNat).map fun i => PyData.int (0 + (i : Nat))) else none) = _
    rw [if_pos (by omega)]
    rfl
  have e2 : ∀ (k : Nat), k < 4 → eA (gN 2 F_turned) (aCons (eV 0) (aCons (eV 1) aNil)) (setD [1] [.int k] [.d (.tuple l), .u]) = some (.tuple (turnN k l)) := fun k hk => by
    have q := F_turned_ok h (k : Int)
    rw [show ((k : Int) % 4).toNat = k by omega] at q
    exact (eA_gN (ds := [.tuple l, .int k]) rfl rfl).trans q
  have e3 : lcD (.nm 1) (eA (gN 2 F_turned) (aCons (eV 0) (aCons (eV 1) aNil))) [.d (.tuple l), .u] [.int 0, .int 1, .int 2, .int 3] = some (.tuple l :: quad l) := by
    have a0 := e2 0 (by omega)
    have a1 := e2 1 (by omega)
    have a2 := e2 2 (by omega)
    have a3 := e2 3 (by omega)
    have st : ∀ (k : Nat) (r ys : List PyData) (y : PyData), eA (gN 2 F_turned) (aCons (eV 0) (aCons (eV 1) aNil)) (setD [1] [.int k] [.d (.tuple l), .u]) = some y → lcD (.nm 1) (eA (gN 2 F_turned) (aCons (eV 0) (aCons (eV 1) aNil))) [.d (.tuple l), .u] r = some ys →
        lcD (.nm 1) (eA (gN 2 F_turned) (aCons (eV 0) (aCons (eV 1) aNil))) [.d (.tuple l), .u] (.int k :: r) = some (y :: ys) := fun k r ys y h1 h2 => lcD_step (xs := [.int k]) rfl h1 h2
    exact st 0 _ _ _ a0 (st 1 _ _ _ a1 (st 2 _ _ _ a2 (st 3 _ _ _ a3 rfl)))
  show outD (((eLc (iB (aCons (eC (.int 4)) aNil) rg1) (.nm 1) [1] _ [.d (.tuple l), .u]).bind minD).map .rt) = _
  unfold eLc
  rw [e1, Option.bind_some, if_pos (show [PyData.int 0, .int 1, .int 2, .int 3].length ≤ sizeLine by rw [sizeLine_eq]; simp), show wipeD [Sl.d (.tuple l), .u] [1] = [Sl.d (.tuple l), .u] from rfl, e3]
  show outD (((if okM (.tuple l :: quad l) = true ∧ (quad l).length < 1000 then some (bestD (.tuple l) (quad l)) else none : Option PyData)).map .rt) = _
  rw [if_pos ⟨quad_ok h, by show 3 < 1000; decide⟩]
  rfl
theorem formL_ok {l : List PyData} (h : Fl8 l) : ∃ m, formL l = .tuple m ∧ Fl8 m := quad_fl h _ (bestD_min (quad l) (.tuple l)).1
theorem tq4 {l : List PyData} (h : ∀ s ∈ l, OkSt s) : (((l.map tq).map tq).map tq).map tq = l := by
  rw [List.map_map, List.map_map, List.map_map]
  conv => rhs; rw [← List.map_id l]
  refine List.map_congr_left fun s hs => ?_
  obtain ⟨x, y, f, rfl, _, _, h0, h4⟩ := h s hs
  have e1 : (0 : Int) - (0 - x) = x := by omega
  have e2 : (0 : Int) - (0 - y) = y := by omega
  have e3 : ((((f + 1) % 4 + 1) % 4 + 1) % 4 + 1) % 4 = f := by omega
  simp [Function.comp, stD, tq]
  omega
/-- a floor's turnings have its form -/
theorem formL_tq {l : List PyData} (h : Fl8 l) : formL (l.map tq) = formL l := by
  have e4 : turnN 3 (l.map tq) = l := tq4 h.2
  refine bestD_same (quad_fl h.tq) (fun e he => ?_) (fun e he => ?_)
  · simp only [quad, List.mem_cons, List.not_mem_nil, or_false] at he ⊢
    rcases he with rfl | rfl | rfl | rfl
    · exact .inr (.inl rfl)
    · exact .inr (.inr (.inl rfl))
    · exact .inr (.inr (.inr rfl))
    · rw [e4]; exact .inl rfl
  · simp only [quad, List.mem_cons, List.not_mem_nil, or_false] at he ⊢
    rcases he with rfl | rfl | rfl | rfl
    · rw [e4]; exact .inr (.inr (.inr rfl))
    · exact .inl rfl
    · exact .inr (.inl rfl)
    · exact .inr (.inr (.inl rfl))
theorem formL_turnN : ∀ (n : Nat) {l : List PyData}, Fl8 l → formL (turnN n l) = formL l
  | 0, _, _ => rfl
  | n + 1, l, h => (formL_turnN n h.tq).trans (formL_tq h)
end SQ
/-! ## SqP7 -/
set_option Elab.async false
set_option linter.all false
set_option maxRecDepth 100000
set_option maxHeartbeats 400000
/-! the plain law, 7: rows -/
namespace SQ
open PySem PySem.Spec L2 TL
/-! ### what a name's call does with a floor -/
def beh (cl : PyData) (l : List PyData) : Option (List PyData) := match X_danced [.tuple l, cl, .none] with
  | some (.ok (.tuple m)) => some m
  | _ => none
def behD : Option (List PyData) → PyData
  | some m => .tuple m
  | none => .none
def behF : Option (List PyData) → PyData
  | some m => formL m
  | none => .none
theorem beh_cases {l rs : List PyData} (h : Fl8 l) (hr : ∀ r ∈ rs, RuleOk r) : (∃ m, Fl8 m ∧ beh (.list rs) l = some m ∧ X_danced [.tuple l, .list rs, .none] = some (.ok (.tuple m))) ∨ ∃ t, t < 3 ∧ beh (.list rs) l = none ∧ X_danced [.tuple l, .list rs, .none] = some (.error t) := by
  rcases X_danced_ok h hr with ⟨m, hm, e⟩ | ⟨t, ht, e⟩
  · exact .inl ⟨m, hm, by unfold beh; rw [e], e⟩
  · exact .inr ⟨t, ht, by unfold beh; rw [e], e⟩
theorem beh_ok {l rs m : List PyData} (h : Fl8 l) (hr : ∀ r ∈ rs, RuleOk r) (e : beh (.list rs) l = some m) : Fl8 m := by
  rcases beh_cases h hr with ⟨m', hm, e', _⟩ | ⟨t, _, e', _⟩
  · rw [e'] at e; cases e; exact hm
  · rw [e'] at e; cases e
section
variable {X : List PyData → Option (Except Nat PyData)} {F : List PyData → Option PyData} {f : En → Option (List PyData)} {δ : En} {a b c d : PyData} {i t : Nat}
theorem asg_ok (ha : f δ = some [a, b]) (h : X [a, b, c] = some (.ok d)) : sAsg (eA (okX 2 fun ds => X (ds ++ [c])) f) (.nm i) δ = some (.nx (δ.set i (.d d))) := by
  unfold sAsg eA
  rw [ha, Option.bind_some, okX_ok (n := 2) (d := d) rfl (by exact h)]
  rfl
theorem asg_er (ha : f δ = some [a, b]) (h : X [a, b, c] = some (.error t)) : sAsg (eA (okX 2 fun ds => X (ds ++ [c])) f) (.nm i) δ = none := by
  unfold sAsg eA
  rw [ha, Option.bind_some, okX_er (n := 2) (t := t) rfl (by exact h)]
  rfl
theorem er_er (ha : f δ = some [a, b]) (h : X [a, b, c] = some (.error t)) : ((f δ).bind (erX 2 fun ds => X (ds ++ [c]))) = some t := by
  rw [ha, Option.bind_some]
  exact erX_er (n := 2) rfl (by exact h)
/-- form_behind, law_behind over any danced -/
def gFB (X : List PyData → Option (Except Nat PyData)) (F : List PyData → Option PyData) : En → Option Res :=
  sTry (sAsg (eA (okX 2 fun ds => X (ds ++ [.none])) aFC) (.nm 2)) (fun δ => (aFC δ).bind (erX 2 fun ds => X (ds ++ [.none]))) hdN (sRet (eA (gN 1 F) (aCons (eV 2) aNil)))
theorem gFB_ok {e : PyData} (h : X [a, b, .none] = some (.ok d)) (hF : F [d] = some e) : runG 3 (gFB X F) [a, b] = some e := by
  have s1 : sAsg (eA (okX 2 fun ds => X (ds ++ [.none])) aFC) (.nm 2) [.d a, .d b, .u] = some (.nx [.d a, .d b, .d d]) := asg_ok rfl h
  show outD (gFB X F [.d a, .d b, .u]) = _
  unfold gFB sTry
  rw [s1]
  show outD ((eA (gN 1 F) (aCons (eV 2) aNil) [.d a, .d b, .d d]).map .rt) = _
  rw [eA_gN (n := 1) (G := F) (f := aCons (eV 2) aNil) (δ := [.d a, .d b, .d d]) (ds := [d]) rfl rfl, hF]
  rfl
theorem gFB_er (h : X [a, b, .none] = some (.error t)) (ht : t < 3) : runG 3 (gFB X F) [a, b] = some .none := by
  have s1 : sAsg (eA (okX 2 fun ds => X (ds ++ [.none])) aFC) (.nm 2) [.d a, .d b, .u] = none := asg_er (t := t) rfl h
  have s2 : ((aFC [.d a, .d b, .u]).bind (erX 2 fun ds => X (ds ++ [.none]))) = some t := er_er rfl h
  show outD (gFB X F [.d a, .d b, .u]) = _
  unfold gFB sTry
  rw [s1]
  show outD (((aFC [.d a, .d b, .u]).bind (erX 2 fun ds => X (ds ++ [.none]))).bind fun t => hdN t [.d a, .d b, .u]) = _
  rw [s2, Option.bind_some]
  unfold hdN
  rw [if_pos ht]
  rfl
def gLB (X : List PyData → Option (Except Nat PyData)) (f : En → Option (List PyData)) : En → Option Res :=
  sSeq (sAsg (eC .none) (.nm 3)) (sSeq (sTry (sAsg (eA (okX 2 fun ds => X (ds ++ [.none])) f) (.nm 3)) (fun δ => (f δ).bind (erX 2 fun ds => X (ds ++ [.none]))) (hdS 3) sNil) (sRet (eV 3)))
theorem gLB_ok {k : Sl} {x y : PyData} (ha : f [k, .d x, .d y, .d .none] = some [a, b]) (h : X [a, b, .none] = some (.ok d)) : outD (gLB X f [k, .d x, .d y, .u]) = some d := by
  have a1 : sAsg (eC .none) (.nm 3) [k, .d x, .d y, .u] = some (.nx [k, .d x, .d y, .d .none]) := rfl
  have s1 : sAsg (eA (okX 2 fun ds => X (ds ++ [.none])) f) (.nm 3) [k, .d x, .d y, .d .none] = some (.nx [k, .d x, .d y, .d d]) := asg_ok ha h
  have s3 : sTry (sAsg (eA (okX 2 fun ds => X (ds ++ [.none])) f) (.nm 3)) (fun δ => (f δ).bind (erX 2 fun ds => X (ds ++ [.none]))) (hdS 3) sNil [k, .d x, .d y, .d .none] = some (.nx [k, .d x, .d y, .d d]) := by
    unfold sTry
    rw [s1]
    rfl
  unfold gLB sSeq
  rw [a1, Option.bind_some]
  show outD ((sTry (sAsg (eA (okX 2 fun ds => X (ds ++ [.none])) f) (.nm 3)) (fun δ => (f δ).bind (erX 2 fun ds => X (ds ++ [.none]))) (hdS 3) sNil [k, .d x, .d y, .d .none]).bind fun r => thenR r (sRet (eV 3))) = _
  rw [s3]
  rfl
theorem gLB_er {k : Sl} {x y : PyData} (ha : f [k, .d x, .d y, .d .none] = some [a, b]) (h : X [a, b, .none] = some (.error t)) (ht : t < 3) : outD (gLB X f [k, .d x, .d y, .u]) = some .none := by
  have a1 : sAsg (eC .none) (.nm 3) [k, .d x, .d y, .u] = some (.nx [k, .d x, .d y, .d .none]) := rfl
  have s1 : sAsg (eA (okX 2 fun ds => X (ds ++ [.none])) f) (.nm 3) [k, .d x, .d y, .d .none] = none := asg_er (t := t) ha h
  have s2 : ((f [k, .d x, .d y, .d .none]).bind (erX 2 fun ds => X (ds ++ [.none]))) = some t := er_er ha h
  have s3 : sTry (sAsg (eA (okX 2 fun ds => X (ds ++ [.none])) f) (.nm 3)) (fun δ => (f δ).bind (erX 2 fun ds => X (ds ++ [.none]))) (hdS 3) sNil [k, .d x, .d y, .d .none] = some (.nx [k, .d x, .d y, .d .none]) := by
    unfold sTry
    rw [s1]
    show (((f [k, .d x, .d y, .d .none]).bind (erX 2 fun ds => X (ds ++ [.none]))).bind fun t => hdS 3 t [k, .d x, .d y, .d .none]) = _
    rw [s2, Option.bind_some]
    unfold hdS
    rw [if_pos ht]
    rfl
  unfold gLB sSeq
  rw [a1, Option.bind_some]
  show outD ((sTry (sAsg (eA (okX 2 fun ds => X (ds ++ [.none])) f) (.nm 3)) (fun δ => (f δ).bind (erX 2 fun ds => X (ds ++ [.none]))) (hdS 3) sNil [k, .d x, .d y, .d .none]).bind fun r => thenR r (sRet (eV 3))) = _
  rw [s3]
  rfl
end
theorem F_fb_ok {l rs : List PyData} (h : Fl8 l) (hr : ∀ r ∈ rs, RuleOk r) : F_form_behind [.tuple l, .list rs] = some (behF (beh (.list rs) l)) := by
  have e0 : F_form_behind = runG 3 (gFB X_danced F_form) := rfl
  rw [e0]
  rcases beh_cases h hr with ⟨m, hm, e, x⟩ | ⟨t, ht, e, x⟩
  · rw [e]
    exact gFB_ok x (F_form_ok hm)
  · rw [e]
    exact gFB_er x ht
theorem O_behind_ok {CB : Addr} {kn : List (Str × PyData)} {l rs : List PyData} {nm : PyData} (h : Fl8 l) (hr : ∀ r ∈ rs, RuleOk r) (hc : G_bcall kn [nm] = some (.list rs)) : O__law_behind CB kn [.tuple l, nm] = some (behD (beh (.list rs) l)) := by
  have eb : eB CB 0 [.k CB (bkF kn), .d (.tuple l), .d nm, .d .none] = some kn := eB_at rfl
  have ea : aDB CB [.k CB (bkF kn), .d (.tuple l), .d nm, .d .none] = some [.tuple l, .list rs] := by
    show ((((eB CB 0 [.k CB (bkF kn), .d (.tuple l), .d nm, .d .none]).bind fun kn => G_bcall kn [nm]).bind fun x => some [x]).bind fun xs => some (PyData.tuple l :: xs)) = _
    rw [eb, Option.bind_some, hc]
    rfl
  have e0 : O__law_behind CB kn [.tuple l, nm] = outD (gLB X_danced (aDB CB) [.k CB (bkF kn), .d (.tuple l), .d nm, .u]) := rfl
  rw [e0]
  rcases beh_cases h hr with ⟨m, hm, e, x⟩ | ⟨t, ht, e, x⟩
  · rw [e]
    exact gLB_ok ea x
  · rw [e]
    exact gLB_er ea x ht
/-! ### floors as keys -/
theorem okKs_stands : ∀ {l : List PyData}, (∀ s ∈ l, OkSt s) → okKs l = true
  | [], _ => rfl
  | s :: l, h => by
    obtain ⟨x, y, f, rfl, _⟩ := h s List.mem_cons_self
    have e := okKs_stands (fun s hs => h s (List.mem_cons_of_mem _ hs))
    simp [okKs, okK, stD, e]
theorem noLs_stands : ∀ {l : List PyData}, (∀ s ∈ l, OkSt s) → noLs l = true
  | [], _ => rfl
  | s :: l, h => by
    obtain ⟨x, y, f, rfl, _⟩ := h s List.mem_cons_self
    have e := noLs_stands (fun s hs => h s (List.mem_cons_of_mem _ hs))
    simp [noLs, noL, stD, e]
theorem kdepth_stands : ∀ {l : List PyData}, (∀ s ∈ l, OkSt s) → NestedKey.depthAll (nkDs l) ≤ 1
  | [], _ => by simp [nkDs, NestedKey.depthAll]
  | s :: l, h => by
    obtain ⟨x, y, f, rfl, _⟩ := h s List.mem_cons_self
    have e := kdepth_stands (fun s hs => h s (List.mem_cons_of_mem _ hs))
    simp [nkDs, nkD, stD, NestedKey.depthAll, NestedKey.depth] at *
    omega
theorem okKT_fl {l : List PyData} (h : Fl8 l) : okKT (.tuple l) = true := by
  unfold okKT
  rw [Bool.and_eq_true]
  refine ⟨by unfold okK; exact okKs_stands h.2, decide_eq_true ?_⟩
  have := kdepth_stands h.2
  show NestedKey.depthAll (nkDs l) + 1 ≤ 8
  omega
theorem nk_inj {l m : List PyData} (h : Fl8 l) (h' : Fl8 m) (e : nkD (.tuple l) = nkD (.tuple m)) : l = m := by
  have e1 := (okKT_of (okKT_fl h)).1
  have e2 := (okKT_of (okKT_fl h')).1
  rw [e, e2] at e1
  injection e1 with e1
  exact e1.symm
theorem eqv_stands : ∀ {l m : List PyData}, (∀ s ∈ l, OkSt s) → (∀ s ∈ m, OkSt s) → (PyData.eqvAll l m = true ↔ l = m)
  | [], [], _, _ => by simp [PyData.eqvAll]
  | [], _ :: _, _, _ => by simp [PyData.eqvAll]
  | _ :: _, [], _, _ => by simp [PyData.eqvAll]
  | s :: l, t :: m, h1, h2 => by
    obtain ⟨x, y, f, rfl, _⟩ := h1 s List.mem_cons_self
    obtain ⟨x', y', f', rfl, _⟩ := h2 t List.mem_cons_self
    have e := eqv_stands (fun s hs => h1 s (List.mem_cons_of_mem _ hs)) (fun s hs => h2 s (List.mem_cons_of_mem _ hs))
    simp [PyData.eqvAll, PyData.eqv, stD, e, and_assoc]
end SQ
/-! ## SqP8 -/
set_option Elab.async false
set_option linter.all false
set_option maxRecDepth 100000
set_option maxHeartbeats 1000000
/-! the plain law, 8: the rows that reached lays -/
namespace SQ
open PySem PySem.Spec L2 TL
structure Rw where
  fl : List PyData
  dep : Int
  up : PyData
  nm : PyData
def Rw.D (r : Rw) : PyData := .tuple [.tuple r.fl, .int r.dep, r.up, r.nm]
def flOf : PyData → List PyData
  | .tuple l => l
  | _ => []
open Classical in
noncomputable def stepW (cl : PyData) (place : Nat) (nm : PyData) (rows : List Rw) : List Rw := match rows[place]? with
  | none => rows
  | some r => match beh cl r.fl with
    | none => rows
    | some m => if ∃ q ∈ rows, q.fl = flOf (formL m) then rows else rows ++ [⟨flOf (formL m), r.dep + 1, .int place, nm⟩]
noncomputable def forW (cl : PyData → PyData) (place : Nat) : List PyData → List Rw → List Rw
  | [], rows => rows
  | nm :: nms, rows => forW cl place nms (stepW (cl nm) place nm rows)
noncomputable def whileW (cl : PyData → PyData) (names : List PyData) (L : Int) : Nat → Nat → List Rw → Option (List Rw)
  | 0, _, _ => none
  | n + 1, place, rows => match rows[place]? with
    | none => some rows
    | some r => if r.dep < L then whileW cl names L n (place + 1) (forW cl place names rows) else some rows
/-- the calls -/
def ClOk (cl : PyData → PyData) (nm : PyData) : Prop := ∃ rs, cl nm = .list rs ∧ ∀ r ∈ rs, RuleOk r
def RwOk (rows : List Rw) : Prop := ∀ r ∈ rows, Fl8 r.fl
/-- what a step does -/
theorem step_cases {cl : PyData} {rs : List PyData} (hc : cl = .list rs) (hr : ∀ r ∈ rs, RuleOk r) {place : Nat} {nm : PyData} {rows : List Rw} (ho : RwOk rows) {r : Rw} (hp : rows[place]? = some r) :
    (beh cl r.fl = none ∧ stepW cl place nm rows = rows) ∨ ∃ m l', beh cl r.fl = some m ∧ Fl8 m ∧ formL m = .tuple l' ∧ Fl8 l' ∧ (((∃ q ∈ rows, q.fl = l') ∧ stepW cl place nm rows = rows) ∨ ((¬ ∃ q ∈ rows, q.fl = l') ∧ stepW cl place nm rows = rows ++ [⟨l', r.dep + 1, .int place, nm⟩])) := by
  have hf := ho r (List.mem_of_getElem? hp)
  unfold stepW
  rw [hp]
  cases hb : beh cl r.fl with
  | none => exact .inl ⟨rfl, by simp only [hb]⟩
  | some m =>
    have hm : Fl8 m := beh_ok hf hr (by rw [← hc]; exact hb)
    obtain ⟨l', e, h'⟩ := formL_ok hm
    refine .inr ⟨m, l', rfl, hm, e, h', ?_⟩
    have e' : flOf (formL m) = l' := by rw [e]; rfl
    simp only [hb]
    by_cases q : ∃ z ∈ rows, z.fl = flOf (formL m)
    · rw [if_pos q]
      rw [e'] at q
      exact .inl ⟨q, rfl⟩
    · rw [if_neg q]
      rw [e'] at q ⊢
      exact .inr ⟨q, rfl⟩
theorem step_ok {cl : PyData} {rs : List PyData} (hc : cl = .list rs) (hr : ∀ r ∈ rs, RuleOk r) {place : Nat} {nm : PyData} {rows : List Rw} (ho : RwOk rows) {r : Rw} (hp : rows[place]? = some r) :
    RwOk (stepW cl place nm rows) ∧ (stepW cl place nm rows = rows ∨ ∃ l', stepW cl place nm rows = rows ++ [⟨l', r.dep + 1, .int place, nm⟩]) := by
  rcases step_cases (nm := nm) hc hr ho hp with ⟨_, e⟩ | ⟨m, l', _, _, _, h', ⟨_, e⟩ | ⟨_, e⟩⟩
  · rw [e]; exact ⟨ho, .inl rfl⟩
  · rw [e]; exact ⟨ho, .inl rfl⟩
  · rw [e]
    refine ⟨fun q hq => ?_, .inr ⟨l', rfl⟩⟩
    rcases List.mem_append.mp hq with hq | hq
    · exact ho q hq
    · rw [List.mem_singleton.mp hq]; exact h'
theorem keyN_D (r : Rw) : keyN r.D = nkD (.tuple r.fl) := rfl
theorem mem_keys {rows : List Rw} (ho : RwOk rows) {l' : List PyData} (h' : Fl8 l') : nkD (.tuple l') ∈ (rows.map Rw.D).map keyN ↔ ∃ q ∈ rows, q.fl = l' := by
  rw [List.map_map, List.mem_map]
  constructor
  · rintro ⟨q, hq, e⟩
    exact ⟨q, hq, nk_inj (ho q hq) h' e⟩
  · rintro ⟨q, hq, rfl⟩
    exact ⟨q, hq, rfl⟩
/-- one go_on -/
theorem goR_ok {calls : PyData → Option PyData} {cl nm : PyData} {rs : List PyData} (hcl : calls nm = some cl) (hc : cl = .list rs) (hr : ∀ r ∈ rs, RuleOk r) {most : Int} {place : Nat} {rows : List Rw} (ho : RwOk rows) {r : Rw} (hp : rows[place]? = some r) (hl : (rows.length : Int) ≤ most) (hm : most ≤ 4000) :
    goR F_form_behind calls most place nm (rows.map Rw.D) = some (if ((stepW cl place nm rows).length : Int) ≤ most then some ((stepW cl place nm rows).map Rw.D) else none) := by
  have hf := ho r (List.mem_of_getElem? hp)
  have hD : (rows.map Rw.D)[place]? = some (.tuple [.tuple r.fl, .int r.dep, r.up, r.nm]) := by rw [List.getElem?_map, hp]; rfl
  have hn : noL (.tuple r.fl) = true := by unfold noL; exact noLs_stands hf.2
  have hb : F_form_behind [.tuple r.fl, cl] = some (behF (beh cl r.fl)) := by rw [hc]; exact F_fb_ok hf hr
  unfold goR
  rw [if_pos (show (rows.map Rw.D).length < 5000 by rw [List.length_map]; omega), hcl, Option.bind_some]
  simp only [hD, hn, hb, if_true, Option.bind_some]
  rcases step_cases (nm := nm) hc hr ho hp with ⟨e1, e2⟩ | ⟨m, l', e1, hm8, e3, h', ⟨q, e2⟩ | ⟨q, e2⟩⟩
  · rw [e1, e2, if_pos hl]
    rfl
  · rw [e1, e2, if_pos hl]
    simp only [behF, e3, okKT_fl h', if_true]
    rw [if_pos ((mem_keys ho h').mpr q)]
  · rw [e1, e2]
    simp only [behF, e3, okKT_fl h', if_true]
    rw [if_neg (fun w => q ((mem_keys ho h').mp w)), List.length_map, List.length_append, List.length_singleton]
    by_cases he : (rows.length : Int) = most
    · rw [if_pos he, if_neg (by omega)]
    · rw [if_neg he, if_pos (by omega), List.map_append]
      rfl
theorem forW_ok {cl : PyData → PyData} {place : Nat} : ∀ {names : List PyData} {rows : List Rw}, (∀ nm ∈ names, ClOk cl nm) → RwOk rows → place < rows.length → RwOk (forW cl place names rows) ∧ rows.length ≤ (forW cl place names rows).length
  | [], rows, _, ho, _ => ⟨ho, Nat.le_refl _⟩
  | nm :: nms, rows, hn, ho, hp => by
    obtain ⟨rs, hc, hr⟩ := hn nm List.mem_cons_self
    obtain ⟨o1, o2⟩ := step_ok (nm := nm) hc hr ho (List.getElem?_eq_getElem hp)
    have hl : rows.length ≤ (stepW (cl nm) place nm rows).length := by
      rcases o2 with e | ⟨l', e⟩
      · rw [e]; exact Nat.le_refl _
      · rw [e, List.length_append]; omega
    obtain ⟨o3, o4⟩ := forW_ok (cl := cl) (place := place) (names := nms) (fun x hx => hn x (List.mem_cons_of_mem _ hx)) o1 (by omega)
    exact ⟨o3, by show rows.length ≤ (forW cl place nms (stepW (cl nm) place nm rows)).length; omega⟩
theorem forR_ok {calls : PyData → Option PyData} {cl : PyData → PyData} {most : Int} {place : Nat} (hm : most ≤ 4000) : ∀ {names : List PyData} {rows : List Rw}, (∀ nm ∈ names, calls nm = some (cl nm) ∧ ClOk cl nm) → RwOk rows → place < rows.length → (rows.length : Int) ≤ most →
    forR F_form_behind calls most place names (rows.map Rw.D) = some (if ((forW cl place names rows).length : Int) ≤ most then some ((forW cl place names rows).map Rw.D) else none)
  | [], rows, _, ho, _, hl => by
    show some (some (rows.map Rw.D)) = _
    rw [show forW cl place [] rows = rows from rfl, if_pos hl]
  | nm :: nms, rows, hn, ho, hp, hl => by
    obtain ⟨h1, rs, hc, hr⟩ := hn nm List.mem_cons_self
    obtain ⟨o1, o2⟩ := step_ok (nm := nm) hc hr ho (List.getElem?_eq_getElem hp)
    have hle : rows.length ≤ (stepW (cl nm) place nm rows).length := by
      rcases o2 with e | ⟨l', e⟩
      · rw [e]; exact Nat.le_refl _
      · rw [e, List.length_append]; omega
    show ((goR F_form_behind calls most place nm (rows.map Rw.D)).bind fun o => match o with | none => some none | some rows' => forR F_form_behind calls most place nms rows') = _
    rw [goR_ok h1 hc hr ho (List.getElem?_eq_getElem hp) hl hm, Option.bind_some]
    have e : forW cl place (nm :: nms) rows = forW cl place nms (stepW (cl nm) place nm rows) := rfl
    rw [e]
    by_cases q : ((stepW (cl nm) place nm rows).length : Int) ≤ most
    · rw [if_pos q]
      exact forR_ok hm (fun x hx => hn x (List.mem_cons_of_mem _ hx)) o1 (by omega) q
    · rw [if_neg q]
      have := (forW_ok (cl := cl) (place := place) (names := nms) (fun x hx => (hn x (List.mem_cons_of_mem _ hx)).2) o1 (by omega)).2
      rw [if_neg (by omega)]
theorem whileW_le {cl : PyData → PyData} {names : List PyData} {L : Int} (hn : ∀ nm ∈ names, ClOk cl nm) : ∀ {n place : Nat} {rows fin : List Rw}, RwOk rows → whileW cl names L n place rows = some fin → rows.length ≤ fin.length ∧ RwOk fin
  | 0, _, _, _, _, h => by cases h
  | n + 1, place, rows, fin, ho, h => by
    unfold whileW at h
    cases hp : rows[place]? with
    | none =>
      simp only [hp] at h
      cases h
      exact ⟨Nat.le_refl _, ho⟩
    | some r =>
      simp only [hp] at h
      by_cases c : r.dep < L
      · rw [if_pos c] at h
        have hlt := (List.getElem?_eq_some_iff.mp hp).1
        obtain ⟨o1, o2⟩ := forW_ok (cl := cl) (place := place) hn ho hlt
        obtain ⟨o3, o4⟩ := whileW_le hn o1 h
        exact ⟨by omega, o4⟩
      · rw [if_neg c] at h
        cases h
        exact ⟨Nat.le_refl _, ho⟩
theorem whileR_ok {calls : PyData → Option PyData} {cl : PyData → PyData} {names : List PyData} {L most : Int} (hm : most ≤ 4000) (hn : ∀ nm ∈ names, calls nm = some (cl nm) ∧ ClOk cl nm) : ∀ {n place : Nat} {rows fin : List Rw}, RwOk rows → (rows.length : Int) ≤ most → whileW cl names L n place rows = some fin →
    whileR F_form_behind calls names L most n place (rows.map Rw.D) = some (if (fin.length : Int) ≤ most then some (fin.map Rw.D) else none)
  | 0, _, _, _, _, _, h => by cases h
  | n + 1, place, rows, fin, ho, hl, h => by
    unfold whileW at h
    unfold whileR
    cases hp : rows[place]? with
    | none =>
      simp only [hp] at h
      cases h
      have : rows.length ≤ place := List.getElem?_eq_none_iff.mp hp
      rw [if_neg (by rw [List.length_map]; omega), if_pos hl]
    | some r =>
      simp only [hp] at h
      have hlt := (List.getElem?_eq_some_iff.mp hp).1
      have hD : (rows.map Rw.D)[place]? = some (.tuple [.tuple r.fl, .int r.dep, r.up, r.nm]) := by rw [List.getElem?_map, hp]; rfl
      rw [if_pos (by rw [List.length_map]; exact hlt)]
      simp only [hD]
      by_cases c : r.dep < L
      · rw [if_pos c] at h ⊢
        obtain ⟨o1, o2⟩ := forW_ok (cl := cl) (place := place) (fun x hx => (hn x hx).2) ho hlt
        rw [forR_ok hm hn ho hlt hl, Option.bind_some]
        by_cases q : ((forW cl place names rows).length : Int) ≤ most
        · rw [if_pos q]
          exact whileR_ok hm hn o1 q h
        · rw [if_neg q]
          have := (whileW_le (fun x hx => (hn x hx).2) o1 h).1
          rw [if_neg (by omega)]
      · rw [if_neg c] at h ⊢
        cases h
        rw [if_pos hl]
/-! ### how many rows there are -/
def T (m : Nat) : Nat → Nat
  | 0 => 1
  | k + 1 => 1 + m * T m k
theorem T_pos (m k : Nat) : 1 ≤ T m k := by cases k <;> simp [T]
/-- what the rows from place on may still lay -/
def pot (m : Nat) (L : Int) (rows : List Rw) : Nat := (rows.map fun r => T m (L - r.dep).toNat).sum
theorem pot_append (m : Nat) (L : Int) (a b : List Rw) : pot m L (a ++ b) = pot m L a + pot m L b := by simp [pot]
theorem pot_len (m : Nat) (L : Int) : ∀ rows : List Rw, rows.length ≤ pot m L rows
  | [] => by simp [pot]
  | r :: rows => by
    have := pot_len m L rows
    have h := T_pos m (L - r.dep).toNat
    simp only [pot, List.map_cons, List.sum_cons, List.length_cons] at *
    omega
/-- names lay at most one row each, one deeper -/
theorem forW_pot {cl : PyData → PyData} {place : Nat} {M : Nat} {L : Int} : ∀ {names : List PyData} {rows : List Rw} {r : Rw}, (∀ nm ∈ names, ClOk cl nm) → RwOk rows → rows[place]? = some r → r.dep < L → (∀ q ∈ rows, 0 ≤ q.dep ∧ q.dep ≤ L) →
    ∃ more, forW cl place names rows = rows ++ more ∧ (∀ q ∈ rows ++ more, 0 ≤ q.dep ∧ q.dep ≤ L) ∧ pot M L more ≤ names.length * T M (L - r.dep - 1).toNat
  | [], rows, r, _, _, _, _, hd => ⟨[], by rw [List.append_nil]; rfl, by rw [List.append_nil]; exact hd, by simp [pot]⟩
  | nm :: nms, rows, r, hn, ho, hp, hL, hd => by
    obtain ⟨rs, hc, hr⟩ := hn nm List.mem_cons_self
    obtain ⟨o1, o2⟩ := step_ok (nm := nm) hc hr ho hp
    have r0 := hd r (List.mem_of_getElem? hp)
    have e : forW cl place (nm :: nms) rows = forW cl place nms (stepW (cl nm) place nm rows) := rfl
    rw [e]
    rcases o2 with q | ⟨l', q⟩
    · rw [q]
      obtain ⟨more, h1, h2, h3⟩ := forW_pot (M := M) (fun x hx => hn x (List.mem_cons_of_mem _ hx)) ho hp hL hd
      refine ⟨more, h1, h2, Nat.le_trans h3 ?_⟩
      rw [List.length_cons]
      exact Nat.mul_le_mul_right _ (by omega)
    · rw [q] at o1 ⊢
      have hp' : (rows ++ [(⟨l', r.dep + 1, .int place, nm⟩ : Rw)])[place]? = some r := by
        rw [List.getElem?_append_left (List.getElem?_eq_some_iff.mp hp).1]; exact hp
      obtain ⟨more, h1, h2, h3⟩ := forW_pot (M := M) (names := nms) (fun x hx => hn x (List.mem_cons_of_mem _ hx)) o1 hp' hL (fun z hz => by
        rcases List.mem_append.mp hz with hz | hz
        · exact hd z hz
        · rw [List.mem_singleton.mp hz]; exact ⟨by show 0 ≤ r.dep + 1; omega, by show r.dep + 1 ≤ L; omega⟩)
      refine ⟨⟨l', r.dep + 1, .int place, nm⟩ :: more, by rw [h1, List.append_assoc]; rfl, by rw [List.append_assoc] at h2; exact h2, ?_⟩
      have e2 : pot M L ((⟨l', r.dep + 1, .int place, nm⟩ : Rw) :: more) = T M (L - (r.dep + 1)).toNat + pot M L more := by simp [pot]
      rw [e2, List.length_cons, Nat.succ_mul, show L - (r.dep + 1) = L - r.dep - 1 by omega]
      omega
theorem whileW_end {cl : PyData → PyData} {names : List PyData} {L : Int} {Bd : Nat} (hn : ∀ nm ∈ names, ClOk cl nm) : ∀ {n place : Nat} {rows : List Rw}, RwOk rows → (∀ q ∈ rows, 0 ≤ q.dep ∧ q.dep ≤ L) → place ≤ rows.length → place + pot names.length L (rows.drop place) ≤ Bd → Bd + 1 ≤ n + place →
    ∃ fin, whileW cl names L n place rows = some fin ∧ fin.length ≤ Bd ∧ ∀ q ∈ fin, 0 ≤ q.dep ∧ q.dep ≤ L
  | 0, place, rows, _, _, hp, hb, hf => by
    have := pot_len names.length L (rows.drop place)
    rw [List.length_drop] at this
    omega
  | n + 1, place, rows, ho, hd, hp, hb, hf => by
    have pl := pot_len names.length L (rows.drop place)
    rw [List.length_drop] at pl
    unfold whileW
    cases hq : rows[place]? with
    | none => exact ⟨rows, rfl, by omega, hd⟩
    | some r =>
      have hlt := (List.getElem?_eq_some_iff.mp hq).1
      by_cases c : r.dep < L
      · simp only [if_pos c]
        obtain ⟨more, h1, h2, h3⟩ := forW_pot (M := names.length) hn ho hq c hd
        obtain ⟨o1, _⟩ := forW_ok (cl := cl) (place := place) hn ho hlt
        have hdr : rows.drop place = r :: rows.drop (place + 1) := by
          rw [List.drop_eq_getElem_cons hlt]
          obtain ⟨_, e⟩ := List.getElem?_eq_some_iff.mp hq
          rw [e]
        have r0 := hd r (List.mem_of_getElem? hq)
        have hb' : place + 1 + pot names.length L ((rows ++ more).drop (place + 1)) ≤ Bd := by
          rw [List.drop_append_of_le_length (by omega), pot_append]
          have e3 : pot names.length L (rows.drop place) = T names.length (L - r.dep).toNat + pot names.length L (rows.drop (place + 1)) := by rw [hdr]; simp [pot]
          have e4 : T names.length (L - r.dep).toNat = 1 + names.length * T names.length (L - r.dep - 1).toNat := by
            rw [show (L - r.dep).toNat = (L - r.dep - 1).toNat + 1 by omega]
            rfl
          omega
        rw [h1] at o1 ⊢
        exact whileW_end hn o1 h2 (by rw [List.length_append]; omega) hb' (by omega)
      · simp only [if_neg c]
        exact ⟨rows, rfl, by omega, hd⟩
end SQ
/-! ## SqP9 -/
set_option Elab.async false
set_option linter.all false
set_option maxRecDepth 100000
set_option maxHeartbeats 1000000
/-! the plain law, 9: the law's own rows -/
namespace SQ
open PySem PySem.Spec L2 TL
def K0 (r : Rw) : PyData := .tuple r.fl
section
variable (Fm : List PyData → Option PyData) (Bh : List (Str × PyData) → List PyData → Option PyData) (CB : Addr)
def inR : En → Option Res :=
  (sSeq (sAsg (eFnB CB 0 2 Bh (aCons (e2 ixD (eIxO 4 (eV 6)) (eC (.int 0))) (aCons (eV 7) aNil))) (.nm 8))
  (sIf (cFrz 5 (cAnd (cE (e2 notN (eV 8) (eC .none))) (cE (e2 ninG (eA (gN 1 Fm) (aCons (eV 8) aNil)) (eV 5)))))
  (sSeq (sApp 5 (eA (gN 1 Fm) (aCons (eV 8) aNil)))
  (sApp 4 (eA tupD (aCons (eA (gN 1 Fm) (aCons (eV 8) aNil)) (aCons (e2 addI (e2 ixD (eIxO 4 (eV 6)) (eC (.int 1))) (eC (.int 1))) (aCons (eV 6) (aCons (eV 7) aNil)))))))
  sNil))
def wcR : En → Option Bool := cFrz 4 (cAnd (cE (e2 ltI (eV 6) (e1 lenD (eV 4)))) (cE (e2 ltI (e2 ixD (e2 ixD (eV 4) (eV 6)) (eC (.int 1))) (eV 3))))
def wbR : En → Option Res := (sSeq (sFor (iB (eV 2) lsD) (.nm 7) (inR Fm Bh CB)) (sAsg (e2 addI (eV 6) (eC (.int 1))) (.nm 6)))
def gRows : En → Option Res :=
  (sSeq (sLst 4 (aCons (eA tupD (aCons (eA (gN 1 Fm) (aCons (eV 1) aNil)) (aCons (eC (.int 0)) (aCons (eC .none) (aCons (eC .none) aNil))))) aNil))
  (sSeq (sLst 5 (aCons (eA (gN 1 Fm) (aCons (eV 1) aNil)) aNil))
  (sSeq (sAsg (eC (.int 0)) (.nm 6))
  (sSeq (whileD wcR (wbR Fm Bh CB) 100)
  (sFrz 4 (sRet (eV 4)))))))
end
theorem g_rows_eq (CB : Addr) : g__law_rows CB = gRows F_form (O__law_behind CB) CB := rfl
theorem aCons_at {f : En → Option PyData} {g : En → Option (List PyData)} {δ : En} {x : PyData} {xs : List PyData} (h1 : f δ = some x) (h2 : g δ = some xs) : aCons f g δ = some (x :: xs) := by
  unfold aCons
  rw [h1, Option.bind_some, h2]
  rfl
theorem sSeq_nx {f g : En → Option Res} {δ δ1 : En} (h : f δ = some (.nx δ1)) : sSeq f g δ = g δ1 := by
  unfold sSeq
  rw [h]
  rfl
theorem sApp_at {i : Nat} {f : En → Option PyData} {δ : En} {xs : List PyData} {d : PyData} (h1 : δ[i]? = some (.o xs)) (h2 : f δ = some d) (h3 : xs.length < sizeLine) : sApp i f δ = some (.nx (δ.set i (.o (xs ++ [d])))) := by
  unfold sApp
  rw [h1]
  show ((f δ).bind fun d => if xs.length < sizeLine then some (Res.nx (δ.set i (.o (xs ++ [d])))) else none) = _
  rw [h2, Option.bind_some, if_pos h3]
theorem eA_at {op : List PyData → Option PyData} {f : En → Option (List PyData)} {δ : En} {ds : List PyData} (h : f δ = some ds) : eA op f δ = op ds := by
  unfold eA
  rw [h]
  rfl
def dR (CB : Addr) (kn : List (Str × PyData)) (fl : PyData) (names : List PyData) (L : Int) (rows : List Rw) (place : Nat) (x7 x8 : Sl) : En := [.k CB (bkF kn), .d fl, .d (.list names), .d (.int L), .o (rows.map Rw.D), .o (rows.map K0), .d (.int place), x7, x8]
theorem canLay_stands : ∀ {l : List PyData}, (∀ s ∈ l, OkSt s) → PyData.canLayAll0 l = true
  | [], _ => rfl
  | s :: l, h => by
    obtain ⟨x, y, f, rfl, _⟩ := h s List.mem_cons_self
    have e := canLay_stands (fun s hs => h s (List.mem_cons_of_mem _ hs))
    simp [PyData.canLayAll0, PyData.canLay0, stD, e]
theorem shaped_fl {l : List PyData} (h : Fl8 l) : SeqAt.shaped (.tuple l) = true := by
  have e := canLay_stands h.2
  have d := depth_stands h.2
  unfold SeqAt.shaped
  rw [Bool.and_eq_true]
  exact ⟨by unfold PyData.canLay0; exact e, decide_eq_true (by simp [PyData.depth]; omega)⟩
theorem canLay_K0 : ∀ {rows : List Rw}, RwOk rows → PyData.canLayAll0 (rows.map K0) = true ∧ PyData.depthAll (rows.map K0) ≤ 3
  | [], _ => ⟨rfl, by simp [PyData.depthAll]⟩
  | r :: rows, h => by
    obtain ⟨e1, e2⟩ := canLay_K0 (rows := rows) fun q hq => h q (List.mem_cons_of_mem _ hq)
    have c := canLay_stands (h r List.mem_cons_self).2
    have d := depth_stands (h r List.mem_cons_self).2
    refine ⟨by simp [PyData.canLayAll0, PyData.canLay0, K0, c]; exact e1, ?_⟩
    simp [PyData.depthAll, PyData.depth, K0] at *
    omega
theorem shaped_K0 {rows : List Rw} (h : RwOk rows) : SeqAt.shaped (.list (rows.map K0)) = true := by
  obtain ⟨e, d⟩ := canLay_K0 h
  unfold SeqAt.shaped
  rw [Bool.and_eq_true]
  exact ⟨by unfold PyData.canLay0; exact e, decide_eq_true (by simp [PyData.depth]; omega)⟩
theorem any_K0 {rows : List Rw} (h : RwOk rows) {l' : List PyData} (h' : Fl8 l') : ((rows.map K0).any fun z => PyData.eqv z (.tuple l')) = true ↔ ∃ q ∈ rows, q.fl = l' := by
  rw [List.any_eq_true]
  constructor
  · rintro ⟨z, hz, e⟩
    obtain ⟨q, hq, rfl⟩ := List.mem_map.mp hz
    exact ⟨q, hq, (eqv_stands (h q hq).2 h'.2).mp (by simpa [K0, PyData.eqv] using e)⟩
  · rintro ⟨q, hq, rfl⟩
    refine ⟨K0 q, List.mem_map.mpr ⟨q, hq, rfl⟩, ?_⟩
    have := (eqv_stands (h q hq).2 (h q hq).2).mpr rfl
    simpa [K0, PyData.eqv] using this
section
variable {Fm : List PyData → Option PyData} {Bh : List (Str × PyData) → List PyData → Option PyData} {CB : Addr} {kn : List (Str × PyData)} {fl : PyData} {names : List PyData} {L : Int}
theorem inR_ok (hFm : ∀ l, Fl8 l → Fm [.tuple l] = some (formL l)) {cl nm : PyData} {rs : List PyData} (hc : cl = .list rs) (hr : ∀ r ∈ rs, RuleOk r) (hB : ∀ l, Fl8 l → Bh kn [.tuple l, nm] = some (behD (beh cl l))) {rows : List Rw} (ho : RwOk rows) {place : Nat} {r : Rw} (hp : rows[place]? = some r) (hl : rows.length ≤ 4000) {x7 x8 : Sl} :
    ∃ x8', inR Fm Bh CB (setD (Tg.ix (.nm 7)) [nm] (dR CB kn fl names L rows place x7 x8)) = some (.nx (dR CB kn fl names L (stepW cl place nm rows) place (.d nm) x8')) := by
  have hf := ho r (List.mem_of_getElem? hp)
  have hD : (rows.map Rw.D)[place]? = some (.tuple [.tuple r.fl, .int r.dep, r.up, r.nm]) := by rw [List.getElem?_map, hp]; rfl
  have ix : ∀ y8, eIxO 4 (eV 6) (dR CB kn fl names L rows place (.d nm) y8) = some (.tuple [.tuple r.fl, .int r.dep, r.up, r.nm]) := fun y8 => by
    show atI (rows.map Rw.D) (place : Int) = _
    exact atI_nat hD
  have s1 : sAsg (eFnB CB 0 2 Bh (aCons (e2 ixD (eIxO 4 (eV 6)) (eC (.int 0))) (aCons (eV 7) aNil))) (.nm 8) (dR CB kn fl names L rows place (.d nm) x8) = some (.nx (dR CB kn fl names L rows place (.d nm) (.d (behD (beh cl r.fl))))) := by
    have a1 : aCons (e2 ixD (eIxO 4 (eV 6)) (eC (.int 0))) (aCons (eV 7) aNil) (dR CB kn fl names L rows place (.d nm) x8) = some [.tuple r.fl, nm] := by
      show (((eIxO 4 (eV 6) (dR CB kn fl names L rows place (.d nm) x8)).bind fun x => ixD x (.int 0)).bind fun x => some [x, nm]) = _
      rw [ix, Option.bind_some, ix0]
      rfl
    have a2 : eB CB 0 (dR CB kn fl names L rows place (.d nm) x8) = some kn := eB_at rfl
    unfold sAsg eFnB
    rw [a2, Option.bind_some, a1, Option.bind_some, if_pos (show [PyData.tuple r.fl, nm].length = 2 from rfl), hB _ hf]
    rfl
  have unf : ∀ q, sIf (cFrz 5 (cAnd (cE (e2 notN (eV 8) (eC .none))) (cE (e2 ninG (eA (gN 1 Fm) (aCons (eV 8) aNil)) (eV 5))))) (sSeq (sApp 5 (eA (gN 1 Fm) (aCons (eV 8) aNil))) (sApp 4 (eA tupD (aCons (eA (gN 1 Fm) (aCons (eV 8) aNil)) (aCons (e2 addI (e2 ixD (eIxO 4 (eV 6)) (eC (.int 1))) (eC (.int 1))) (aCons (eV 6) (aCons (eV 7) aNil))))))) sNil (dR CB kn fl names L rows place (.d nm) (.d (behD (beh cl r.fl)))) = some q →
      inR Fm Bh CB (setD (Tg.ix (.nm 7)) [nm] (dR CB kn fl names L rows place x7 x8)) = some q := fun q hq => by
    show inR Fm Bh CB (dR CB kn fl names L rows place (.d nm) x8) = _
    unfold inR sSeq
    rw [s1, Option.bind_some]
    exact hq
  refine ⟨.d (behD (beh cl r.fl)), unf _ ?_⟩
  have fz : ∀ (c : En → Option Bool) x, cFrz 5 c (dR CB kn fl names L rows place (.d nm) x) = c ([.k CB (bkF kn), .d fl, .d (.list names), .d (.int L), .o (rows.map Rw.D), .d (.list (rows.map K0)), .d (.int place), .d nm, x]) := fun _ _ => rfl
  unfold sIf
  rw [fz]
  rcases step_cases (nm := nm) hc hr ho hp with ⟨e1, e2⟩ | ⟨m, l', e1, hm8, e3, h', hq⟩
  · rw [e1, e2]
    rfl
  · rw [e1]
    have f1 : ∀ (δ : En), δ[8]? = some (.d (.tuple m)) → eA (gN 1 Fm) (aCons (eV 8) aNil) δ = some (.tuple l') := fun δ hδ => by
      have a : aCons (eV 8) aNil δ = some [.tuple m] := by
        unfold aCons
        rw [eV_at hδ]
        rfl
      rw [eA_gN (n := 1) (G := Fm) a rfl, hFm m hm8, e3]
    have c1 : cAnd (cE (SQ.e2 notN (eV 8) (eC .none))) (cE (SQ.e2 ninG (eA (gN 1 Fm) (aCons (eV 8) aNil)) (eV 5))) [.k CB (bkF kn), .d fl, .d (.list names), .d (.int L), .o (rows.map Rw.D), .d (.list (rows.map K0)), .d (.int place), .d nm, .d (behD (some m))] = some (!((rows.map K0).any fun z => PyData.eqv z (.tuple l'))) := by
      have n1 : cE (SQ.e2 notN (eV 8) (eC .none)) [.k CB (bkF kn), .d fl, .d (.list names), .d (.int L), .o (rows.map Rw.D), .d (.list (rows.map K0)), .d (.int place), .d nm, .d (behD (some m))] = some true := rfl
      unfold cAnd
      rw [n1, Option.bind_some, if_pos rfl]
      unfold cE SQ.e2
      rw [f1 _ rfl, Option.bind_some]
      have g1 : ninG (.tuple l') (.list (rows.map K0)) = some (.bool (!((rows.map K0).any fun z => PyData.eqv z (.tuple l')))) := if_pos ⟨shaped_fl h', shaped_K0 ho⟩
      show (ninG (.tuple l') (.list (rows.map K0))).bind asB = _
      rw [g1]
      rfl
    rw [c1, Option.bind_some]
    rcases hq with ⟨q, e2⟩ | ⟨q, e2⟩
    · rw [(any_K0 ho h').mpr q, e2]
      rfl
    · have q' : ((rows.map K0).any fun z => PyData.eqv z (.tuple l')) = false := by
        cases w : (rows.map K0).any fun z => PyData.eqv z (.tuple l') with
        | false => rfl
        | true => exact absurd ((any_K0 ho h').mp w) q
      rw [q', if_pos (show (!false) = true from rfl), e2]
      have z1 : (rows.map K0).length < sizeLine := by rw [List.length_map, sizeLine_eq]; omega
      have z2 : (rows.map Rw.D).length < sizeLine := by rw [List.length_map, sizeLine_eq]; omega
      have p1 : sApp 5 (eA (gN 1 Fm) (aCons (eV 8) aNil)) (dR CB kn fl names L rows place (.d nm) (.d (behD (some m)))) = some (.nx [.k CB (bkF kn), .d fl, .d (.list names), .d (.int L), .o (rows.map Rw.D), .o (rows.map K0 ++ [.tuple l']), .d (.int place), .d nm, .d (behD (some m))]) := by
        exact sApp_at rfl (f1 _ rfl) z1
      have p2 : sApp 4 (eA tupD (aCons (eA (gN 1 Fm) (aCons (eV 8) aNil)) (aCons (SQ.e2 addI (SQ.e2 ixD (eIxO 4 (eV 6)) (eC (.int 1))) (eC (.int 1))) (aCons (eV 6) (aCons (eV 7) aNil))))) [.k CB (bkF kn), .d fl, .d (.list names), .d (.int L), .o (rows.map Rw.D), .o (rows.map K0 ++ [.tuple l']), .d (.int place), .d nm, .d (behD (some m))] = some (.nx [.k CB (bkF kn), .d fl, .d (.list names), .d (.int L), .o (rows.map Rw.D ++ [.tuple [.tuple l', .int (r.dep + 1), .int place, nm]]), .o (rows.map K0 ++ [.tuple l']), .d (.int place), .d nm, .d (behD (some m))]) := by
        have a3 : SQ.e2 addI (SQ.e2 ixD (eIxO 4 (eV 6)) (eC (.int 1))) (eC (.int 1)) [.k CB (bkF kn), .d fl, .d (.list names), .d (.int L), .o (rows.map Rw.D), .o (rows.map K0 ++ [.tuple l']), .d (.int place), .d nm, .d (behD (some m))] = some (.int (r.dep + 1)) := by
          show (((atI (rows.map Rw.D) (place : Int)).bind fun x => ixD x (.int 1)).bind fun x => addI x (.int 1)) = _
          rw [atI_nat hD, Option.bind_some, ix1]
          rfl
        refine sApp_at rfl ?_ z2
        rw [eA_at (ds := [.tuple l', .int (r.dep + 1), .int place, nm]) (aCons_at (f1 _ rfl) (aCons_at a3 rfl))]
        exact if_pos (by rw [sizeLine_eq]; simp)
      rw [sSeq_nx p1, p2]
      unfold dR
      rw [List.map_append, List.map_append]
      rfl
end
end SQ
/-! ## SqPa -/
set_option Elab.async false
set_option linter.all false
set_option maxRecDepth 100000
set_option maxHeartbeats 1000000
/-! the plain law, 10: the law's own rows, their loops -/
namespace SQ
open PySem PySem.Spec L2 TL
section
variable {Fm : List PyData → Option PyData} {Bh : List (Str × PyData) → List PyData → Option PyData} {CB : Addr} {kn : List (Str × PyData)} {fl : PyData} {L : Int}
theorem inFor {names : List PyData} (hFm : ∀ l, Fl8 l → Fm [.tuple l] = some (formL l)) {cl : PyData → PyData} {place : Nat} : ∀ {nms : List PyData} {rows : List Rw} {x7 x8 : Sl}, (∀ nm ∈ nms, ClOk cl nm ∧ ∀ l, Fl8 l → Bh kn [.tuple l, nm] = some (behD (beh (cl nm) l))) → RwOk rows → place < rows.length → (forW cl place nms rows).length ≤ 4000 →
    ∃ x7' x8', forD (.nm 7) (inR Fm Bh CB) nms (dR CB kn fl names L rows place x7 x8) = some (.nx (dR CB kn fl names L (forW cl place nms rows) place x7' x8'))
  | [], rows, x7, x8, _, _, _, _ => ⟨x7, x8, rfl⟩
  | nm :: nms, rows, x7, x8, hn, ho, hp, hl => by
    obtain ⟨⟨rs, hc, hr⟩, hB⟩ := hn nm List.mem_cons_self
    obtain ⟨o1, o2⟩ := step_ok (nm := nm) hc hr ho (List.getElem?_eq_getElem hp)
    have hle : rows.length ≤ (stepW (cl nm) place nm rows).length := by
      rcases o2 with e | ⟨l', e⟩
      · rw [e]; exact Nat.le_refl _
      · rw [e, List.length_append]; omega
    have e : forW cl place (nm :: nms) rows = forW cl place nms (stepW (cl nm) place nm rows) := rfl
    rw [e] at hl ⊢
    have h2 := (forW_ok (cl := cl) (place := place) (names := nms) (fun x hx => (hn x (List.mem_cons_of_mem _ hx)).1) o1 (by omega)).2
    obtain ⟨y, hy⟩ := inR_ok (Fm := Fm) (Bh := Bh) (CB := CB) (kn := kn) (fl := fl) (names := names) (L := L) hFm hc hr hB ho (List.getElem?_eq_getElem hp) (by omega) (x7 := x7) (x8 := x8)
    rw [forD_cons (T := .nm 7) (xs := [nm]) rfl hy]
    exact inFor hFm (fun x hx => hn x (List.mem_cons_of_mem _ hx)) o1 (by omega) hl
theorem wcR_at {names : List PyData} {rows : List Rw} {place : Nat} {x7 x8 : Sl} : wcR (dR CB kn fl names L rows place x7 x8) = some (match rows[place]? with | none => false | some r => decide (r.dep < L)) := by
  have fz : wcR (dR CB kn fl names L rows place x7 x8) = cAnd (cE (e2 ltI (eV 6) (e1 lenD (eV 4)))) (cE (e2 ltI (e2 ixD (e2 ixD (eV 4) (eV 6)) (eC (.int 1))) (eV 3))) [.k CB (bkF kn), .d fl, .d (.list names), .d (.int L), .d (.list (rows.map Rw.D)), .o (rows.map K0), .d (.int place), x7, x8] := rfl
  have c1 : cE (e2 ltI (eV 6) (e1 lenD (eV 4))) [.k CB (bkF kn), .d fl, .d (.list names), .d (.int L), .d (.list (rows.map Rw.D)), .o (rows.map K0), .d (.int place), x7, x8] = some (decide ((place : Int) < ((rows.map Rw.D).length : Int))) := rfl
  rw [fz]
  unfold cAnd
  rw [c1, Option.bind_some]
  cases hp : rows[place]? with
  | none =>
    have : rows.length ≤ place := List.getElem?_eq_none_iff.mp hp
    rw [if_neg (by rw [decide_eq_true_iff, List.length_map]; omega)]
  | some r =>
    have hlt := (List.getElem?_eq_some_iff.mp hp).1
    rw [if_pos (by rw [decide_eq_true_iff, List.length_map]; omega)]
    have hD : (rows.map Rw.D)[place]? = some (.tuple [.tuple r.fl, .int r.dep, r.up, r.nm]) := by rw [List.getElem?_map, hp]; rfl
    show (((atI (rows.map Rw.D) (place : Int)).bind fun x => ixD x (.int 1)).bind fun x => ltI x (.int L)).bind asB = _
    rw [atI_nat hD, Option.bind_some, ix1]
    rfl
theorem wbR_at {names : List PyData} (hFm : ∀ l, Fl8 l → Fm [.tuple l] = some (formL l)) {cl : PyData → PyData} {place : Nat} {rows : List Rw} {x7 x8 : Sl} (hn : ∀ nm ∈ names, ClOk cl nm ∧ ∀ l, Fl8 l → Bh kn [.tuple l, nm] = some (behD (beh (cl nm) l))) (ho : RwOk rows) (hp : place < rows.length) (hl : (forW cl place names rows).length ≤ 4000) :
    ∃ x7' x8', wbR Fm Bh CB (dR CB kn fl names L rows place x7 x8) = some (.nx (dR CB kn fl names L (forW cl place names rows) (place + 1) x7' x8')) := by
  obtain ⟨x7', x8', h⟩ := inFor (Fm := Fm) (Bh := Bh) (CB := CB) (kn := kn) (fl := fl) (L := L) (names := names) hFm hn ho hp hl (x7 := x7) (x8 := x8)
  refine ⟨x7', x8', ?_⟩
  have s1 : sFor (iB (eV 2) lsD) (.nm 7) (inR Fm Bh CB) (dR CB kn fl names L rows place x7 x8) = some (.nx (dR CB kn fl names L (forW cl place names rows) place x7' x8')) := by
    have i1 : iB (eV 2) lsD (dR CB kn fl names L rows place x7 x8) = some names := rfl
    unfold sFor
    rw [i1, Option.bind_some]
    exact h
  unfold wbR
  rw [sSeq_nx s1]
  rfl
theorem while_law {names : List PyData} (hFm : ∀ l, Fl8 l → Fm [.tuple l] = some (formL l)) {cl : PyData → PyData} (hn : ∀ nm ∈ names, ClOk cl nm ∧ ∀ l, Fl8 l → Bh kn [.tuple l, nm] = some (behD (beh (cl nm) l))) : ∀ {n place : Nat} {rows fin : List Rw} {x7 x8 : Sl}, RwOk rows → whileW cl names L n place rows = some fin → fin.length ≤ 4000 →
    ∃ place' x7' x8', whileD wcR (wbR Fm Bh CB) n (dR CB kn fl names L rows place x7 x8) = some (.nx (dR CB kn fl names L fin place' x7' x8'))
  | 0, _, _, _, _, _, _, h, _ => by cases h
  | n + 1, place, rows, fin, x7, x8, ho, h, hl => by
    unfold whileW at h
    have e : whileD wcR (wbR Fm Bh CB) (n + 1) (dR CB kn fl names L rows place x7 x8) = ((wcR (dR CB kn fl names L rows place x7 x8)).bind fun b => if b = true then ((wbR Fm Bh CB (dR CB kn fl names L rows place x7 x8)).bind fun r => thenR r (whileD wcR (wbR Fm Bh CB) n)) else some (.nx (dR CB kn fl names L rows place x7 x8))) := rfl
    rw [e, wcR_at, Option.bind_some]
    cases hp : rows[place]? with
    | none =>
      simp only [hp] at h
      cases h
      exact ⟨place, x7, x8, rfl⟩
    | some r =>
      simp only [hp] at h
      have hlt := (List.getElem?_eq_some_iff.mp hp).1
      by_cases c : r.dep < L
      · rw [if_pos c] at h
        simp only [decide_eq_true c, if_true]
        obtain ⟨o1, o2⟩ := forW_ok (cl := cl) (place := place) (fun x hx => (hn x hx).1) ho hlt
        have := (whileW_le (fun x hx => (hn x hx).1) o1 h).1
        obtain ⟨y7, y8, hb⟩ := wbR_at (Fm := Fm) (Bh := Bh) (CB := CB) (kn := kn) (fl := fl) (L := L) hFm hn ho hlt (by omega) (x7 := x7) (x8 := x8)
        rw [hb, Option.bind_some]
        exact while_law hFm hn o1 h hl
      · rw [if_neg c] at h
        cases h
        simp only [decide_eq_false c]
        exact ⟨place, x7, x8, rfl⟩
theorem gRows_ok {names : List PyData} (hFm : ∀ l, Fl8 l → Fm [.tuple l] = some (formL l)) {cl : PyData → PyData} (hn : ∀ nm ∈ names, ClOk cl nm ∧ ∀ l, Fl8 l → Bh kn [.tuple l, nm] = some (behD (beh (cl nm) l))) {l l0 : List PyData} (h : Fl8 l) (e : formL l = .tuple l0) {fin : List Rw} (hw : whileW cl names L 100 0 [⟨l0, 0, .none, .none⟩] = some fin) (hl : fin.length ≤ 4000) :
    runO 9 CB (gRows Fm Bh CB) kn [.tuple l, .list names, .int L] = some (.list (fin.map Rw.D)) := by
  have h0 : Fl8 l0 := by
    obtain ⟨m, e', hm⟩ := formL_ok h
    rw [e] at e'
    injection e' with e'
    rw [e']; exact hm
  have fm : ∀ δ : En, δ[1]? = some (.d (.tuple l)) → eA (gN 1 Fm) (aCons (eV 1) aNil) δ = some (.tuple l0) := fun δ hδ => by
    rw [eA_gN (n := 1) (G := Fm) (aCons_at (eV_at hδ) rfl) rfl, hFm l h, e]
  have s1 : sLst 4 (aCons (eA tupD (aCons (eA (gN 1 Fm) (aCons (eV 1) aNil)) (aCons (eC (.int 0)) (aCons (eC .none) (aCons (eC .none) aNil))))) aNil) [.k CB (bkF kn), .d (.tuple l), .d (.list names), .d (.int L), .u, .u, .u, .u, .u] = some (.nx [.k CB (bkF kn), .d (.tuple l), .d (.list names), .d (.int L), .o [.tuple [.tuple l0, .int 0, .none, .none]], .u, .u, .u, .u]) := by
    have a1 : eA tupD (aCons (eA (gN 1 Fm) (aCons (eV 1) aNil)) (aCons (eC (.int 0)) (aCons (eC .none) (aCons (eC .none) aNil)))) [.k CB (bkF kn), .d (.tuple l), .d (.list names), .d (.int L), .u, .u, .u, .u, .u] = some (.tuple [.tuple l0, .int 0, .none, .none]) := by
      rw [eA_at (aCons_at (fm _ rfl) rfl)]
      exact if_pos (by rw [sizeLine_eq]; simp)
    unfold sLst
    rw [aCons_at a1 rfl, Option.bind_some]
    exact if_pos (by rw [sizeLine_eq]; simp)
  have s2 : sLst 5 (aCons (eA (gN 1 Fm) (aCons (eV 1) aNil)) aNil) [.k CB (bkF kn), .d (.tuple l), .d (.list names), .d (.int L), .o [.tuple [.tuple l0, .int 0, .none, .none]], .u, .u, .u, .u] = some (.nx [.k CB (bkF kn), .d (.tuple l), .d (.list names), .d (.int L), .o [.tuple [.tuple l0, .int 0, .none, .none]], .o [.tuple l0], .u, .u, .u]) := by
    unfold sLst
    rw [aCons_at (fm _ rfl) rfl, Option.bind_some]
    exact if_pos (by rw [sizeLine_eq]; simp)
  have s3 : sAsg (eC (.int 0)) (.nm 6) [.k CB (bkF kn), .d (.tuple l), .d (.list names), .d (.int L), .o [.tuple [.tuple l0, .int 0, .none, .none]], .o [.tuple l0], .u, .u, .u] = some (.nx (dR CB kn (.tuple l) names L [⟨l0, 0, .none, .none⟩] 0 .u .u)) := rfl
  obtain ⟨p', y7, y8, s4⟩ := while_law (Fm := Fm) (Bh := Bh) (CB := CB) (kn := kn) (fl := .tuple l) (L := L) hFm hn (rows := [⟨l0, 0, .none, .none⟩]) (x7 := .u) (x8 := .u) (fun q hq => by rw [List.mem_singleton.mp hq]; exact h0) hw hl
  have a0 : runO 9 CB (gRows Fm Bh CB) kn [.tuple l, .list names, .int L] = outD (gRows Fm Bh CB [.k CB (bkF kn), .d (.tuple l), .d (.list names), .d (.int L), .u, .u, .u, .u, .u]) := rfl
  rw [a0]
  unfold gRows
  rw [sSeq_nx s1, sSeq_nx s2, sSeq_nx s3, sSeq_nx s4]
  rfl
end
end SQ
/-! ## SqPb -/
set_option Elab.async false
set_option linter.all false
set_option maxRecDepth 100000
set_option maxHeartbeats 1000000
/-! the plain law, 11: the fifteen calls (printed by mk3.py) -/
namespace SQ
open PySem PySem.Spec L2 TL
mutual
def sameD : PyData → PyData → Bool
  | .none, .none => true
  | .bool a, .bool b => a == b
  | .int a, .int b => a == b
  | .str a, .str b => a == b
  | .list a, .list b => sameL a b
  | .tuple a, .tuple b => sameL a b
  | _, _ => false
def sameL : List PyData → List PyData → Bool
  | [], [] => true
  | x :: xs, y :: ys => sameD x y && sameL xs ys
  | _, _ => false
end
mutual
theorem sameD_eq : ∀ x y : PyData, sameD x y = true → x = y
  | .none, y, h => by cases y <;> first | rfl | (unfold sameD at h; cases h)
  | .bool a, y, h => by cases y <;> first | (unfold sameD at h; cases h; done) | (unfold sameD at h; rw [eq_of_beq h])
  | .int a, y, h => by cases y <;> first | (unfold sameD at h; cases h; done) | (unfold sameD at h; rw [eq_of_beq h])
  | .str a, y, h => by cases y <;> first | (unfold sameD at h; cases h; done) | (unfold sameD at h; rw [eq_of_beq h])
  | .list a, y, h => by cases y <;> first | (unfold sameD at h; cases h; done) | (unfold sameD at h; rw [sameL_eq _ _ h])
  | .tuple a, y, h => by cases y <;> first | (unfold sameD at h; cases h; done) | (unfold sameD at h; rw [sameL_eq _ _ h])
  | .dict a, y, h => by unfold sameD at h; cases h
theorem sameL_eq : ∀ x y : List PyData, sameL x y = true → x = y
  | [], y, h => by cases y <;> first | rfl | (unfold sameL at h; cases h)
  | a :: x, y, h => by
    cases y with
    | nil => unfold sameL at h; cases h
    | cons b y =>
      unfold sameL at h
      rw [Bool.and_eq_true] at h
      rw [sameD_eq a b h.1, sameL_eq x y h.2]
end
def sameO : Option PyData → PyData → Bool
  | some d, e => sameD d e
  | none, _ => false
theorem sameO_eq {o : Option PyData} {d : PyData} (h : sameO o d = true) : o = some d := by
  cases o with
  | none => cases h
  | some e => rw [sameD_eq e d h]
def r_about : List PyData := [.tuple [.tuple [], .tuple [.tuple [.str "turn", .str "about"]]]]
theorem ro_about : ∀ r ∈ r_about, RuleOk r := (List.forall_mem_cons.mpr ⟨⟨_, _, rfl, by decide, (fun _ h => by cases h), by decide, (List.forall_mem_cons.mpr ⟨(.inr (.inl ⟨"about", rfl, by simp⟩)), (fun _ h => by cases h)⟩)⟩, (fun _ h => by cases h)⟩)
theorem rd_about : sameO (F_read_call [.str "> turn about"]) (.list r_about) = true := by decide +kernel
def r_back : List PyData := [.tuple [.tuple [.tuple [.str "inner", .int (3)], .tuple [.str "not", .tuple [.str "inner", .int (1)]]], .tuple [.tuple [.str "back", .int 2]]],
  .tuple [.tuple [], .tuple [.tuple [.str "turn", .str "about"]]]]
theorem ro_back : ∀ r ∈ r_back, RuleOk r := (List.forall_mem_cons.mpr ⟨⟨_, _, rfl, by decide, (List.forall_mem_cons.mpr ⟨(.inl (.inr (.inl ⟨_, rfl⟩))), (List.forall_mem_cons.mpr ⟨(.inr ⟨_, (.inr (.inl ⟨_, rfl⟩)), rfl⟩), (fun _ h => by cases h)⟩)⟩), by decide, (List.forall_mem_cons.mpr ⟨(.inr (.inr ⟨"back", _, rfl, by simp⟩)), (fun _ h => by cases h)⟩)⟩, (List.forall_mem_cons.mpr ⟨⟨_, _, rfl, by decide, (fun _ h => by cases h), by decide, (List.forall_mem_cons.mpr ⟨(.inr (.inl ⟨"about", rfl, by simp⟩)), (fun _ h => by cases h)⟩)⟩, (fun _ h => by cases h)⟩)⟩)
theorem rd_back : sameO (F_read_call [.str "inner 3 and not inner 1 > back 2 ; > turn about"]) (.list r_back) = true := by decide +kernel
def r_cross : List PyData := [.tuple [.tuple [.tuple [.str "at", .int (6), .int (0), .str "about"]], .tuple [.tuple [.str "ahead", .int 6]]],
  .tuple [.tuple [.tuple [.str "at", .int (2), .int (0), .str "about"]], .tuple [.tuple [.str "ahead", .int 2]]],
  .tuple [.tuple [], .tuple [.tuple [.str "stay"]]]]
theorem ro_cross : ∀ r ∈ r_cross, RuleOk r := (List.forall_mem_cons.mpr ⟨⟨_, _, rfl, by decide, (List.forall_mem_cons.mpr ⟨(.inl (.inr (.inr ⟨_, _, "about", rfl, by simp⟩))), (fun _ h => by cases h)⟩), by decide, (List.forall_mem_cons.mpr ⟨(.inr (.inr ⟨"ahead", _, rfl, by simp⟩)), (fun _ h => by cases h)⟩)⟩, (List.forall_mem_cons.mpr ⟨⟨_, _, rfl, by decide, (List.forall_mem_cons.mpr ⟨(.inl (.inr (.inr ⟨_, _, "about", rfl, by simp⟩))), (fun _ h => by cases h)⟩), by decide, (List.forall_mem_cons.mpr ⟨(.inr (.inr ⟨"ahead", _, rfl, by simp⟩)), (fun _ h => by cases h)⟩)⟩, (List.forall_mem_cons.mpr ⟨⟨_, _, rfl, by decide, (fun _ h => by cases h), by decide, (List.forall_mem_cons.mpr ⟨(.inl rfl), (fun _ h => by cases h)⟩)⟩, (fun _ h => by cases h)⟩)⟩)⟩)
theorem rd_cross : sameO (F_read_call [.str "at 6 0 about > ahead 6 ; at 2 0 about > ahead 2 ; > stay"]) (.list r_cross) = true := by decide +kernel
def r_face : List PyData := [.tuple [.tuple [.tuple [.str "lefts"]], .tuple [.tuple [.str "turn", .str "right"]]],
  .tuple [.tuple [], .tuple [.tuple [.str "turn", .str "left"]]]]
theorem ro_face : ∀ r ∈ r_face, RuleOk r := (List.forall_mem_cons.mpr ⟨⟨_, _, rfl, by decide, (List.forall_mem_cons.mpr ⟨(.inl (.inl ⟨"lefts", rfl, .inl (by simp)⟩)), (fun _ h => by cases h)⟩), by decide, (List.forall_mem_cons.mpr ⟨(.inr (.inl ⟨"right", rfl, by simp⟩)), (fun _ h => by cases h)⟩)⟩, (List.forall_mem_cons.mpr ⟨⟨_, _, rfl, by decide, (fun _ h => by cases h), by decide, (List.forall_mem_cons.mpr ⟨(.inr (.inl ⟨"left", rfl, by simp⟩)), (fun _ h => by cases h)⟩)⟩, (fun _ h => by cases h)⟩)⟩)
theorem rd_face : sameO (F_read_call [.str "lefts > turn right ; > turn left"]) (.list r_face) = true := by decide +kernel
def r_hin : List PyData := [.tuple [.tuple [.tuple [.str "head"], .tuple [.str "inward"]], .tuple [.tuple [.str "ahead", .int 2]]],
  .tuple [.tuple [], .tuple [.tuple [.str "stay"]]]]
theorem ro_hin : ∀ r ∈ r_hin, RuleOk r := (List.forall_mem_cons.mpr ⟨⟨_, _, rfl, by decide, (List.forall_mem_cons.mpr ⟨(.inl (.inl ⟨"head", rfl, .inl (by simp)⟩)), (List.forall_mem_cons.mpr ⟨(.inl (.inl ⟨"inward", rfl, .inr (by simp)⟩)), (fun _ h => by cases h)⟩)⟩), by decide, (List.forall_mem_cons.mpr ⟨(.inr (.inr ⟨"ahead", _, rfl, by simp⟩)), (fun _ h => by cases h)⟩)⟩, (List.forall_mem_cons.mpr ⟨⟨_, _, rfl, by decide, (fun _ h => by cases h), by decide, (List.forall_mem_cons.mpr ⟨(.inl rfl), (fun _ h => by cases h)⟩)⟩, (fun _ h => by cases h)⟩)⟩)
theorem rd_hin : sameO (F_read_call [.str "head and inward > ahead 2 ; > stay"]) (.list r_hin) = true := by decide +kernel
def r_hout : List PyData := [.tuple [.tuple [.tuple [.str "head"], .tuple [.str "inner", .int (1)]], .tuple [.tuple [.str "back", .int 2]]],
  .tuple [.tuple [], .tuple [.tuple [.str "stay"]]]]
theorem ro_hout : ∀ r ∈ r_hout, RuleOk r := (List.forall_mem_cons.mpr ⟨⟨_, _, rfl, by decide, (List.forall_mem_cons.mpr ⟨(.inl (.inl ⟨"head", rfl, .inl (by simp)⟩)), (List.forall_mem_cons.mpr ⟨(.inl (.inr (.inl ⟨_, rfl⟩))), (fun _ h => by cases h)⟩)⟩), by decide, (List.forall_mem_cons.mpr ⟨(.inr (.inr ⟨"back", _, rfl, by simp⟩)), (fun _ h => by cases h)⟩)⟩, (List.forall_mem_cons.mpr ⟨⟨_, _, rfl, by decide, (fun _ h => by cases h), by decide, (List.forall_mem_cons.mpr ⟨(.inl rfl), (fun _ h => by cases h)⟩)⟩, (fun _ h => by cases h)⟩)⟩)
theorem rd_hout : sameO (F_read_call [.str "head and inner 1 > back 2 ; > stay"]) (.list r_hout) = true := by decide +kernel
def r_lt : List PyData := [.tuple [.tuple [], .tuple [.tuple [.str "turn", .str "left"]]]]
theorem ro_lt : ∀ r ∈ r_lt, RuleOk r := (List.forall_mem_cons.mpr ⟨⟨_, _, rfl, by decide, (fun _ h => by cases h), by decide, (List.forall_mem_cons.mpr ⟨(.inr (.inl ⟨"left", rfl, by simp⟩)), (fun _ h => by cases h)⟩)⟩, (fun _ h => by cases h)⟩)
theorem rd_lt : sameO (F_read_call [.str "> turn left"]) (.list r_lt) = true := by decide +kernel
def r_meet : List PyData := [.tuple [.tuple [.tuple [.str "at", .int (0), .int (2), .str "partner"]], .tuple [.tuple [.str "right", .int 1]]],
  .tuple [.tuple [.tuple [.str "at", .int (0), .int (-2), .str "partner"]], .tuple [.tuple [.str "left", .int 1], .tuple [.str "turn", .str "left"]]],
  .tuple [.tuple [], .tuple [.tuple [.str "stay"]]]]
theorem ro_meet : ∀ r ∈ r_meet, RuleOk r := (List.forall_mem_cons.mpr ⟨⟨_, _, rfl, by decide, (List.forall_mem_cons.mpr ⟨(.inl (.inr (.inr ⟨_, _, "partner", rfl, by simp⟩))), (fun _ h => by cases h)⟩), by decide, (List.forall_mem_cons.mpr ⟨(.inr (.inr ⟨"right", _, rfl, by simp⟩)), (fun _ h => by cases h)⟩)⟩, (List.forall_mem_cons.mpr ⟨⟨_, _, rfl, by decide, (List.forall_mem_cons.mpr ⟨(.inl (.inr (.inr ⟨_, _, "partner", rfl, by simp⟩))), (fun _ h => by cases h)⟩), by decide, (List.forall_mem_cons.mpr ⟨(.inr (.inr ⟨"left", _, rfl, by simp⟩)), (List.forall_mem_cons.mpr ⟨(.inr (.inl ⟨"left", rfl, by simp⟩)), (fun _ h => by cases h)⟩)⟩)⟩, (List.forall_mem_cons.mpr ⟨⟨_, _, rfl, by decide, (fun _ h => by cases h), by decide, (List.forall_mem_cons.mpr ⟨(.inl rfl), (fun _ h => by cases h)⟩)⟩, (fun _ h => by cases h)⟩)⟩)⟩)
theorem rd_meet : sameO (F_read_call [.str "at 0 2 partner > right 1 ; at 0 -2 partner > left 1 turn left ; > stay"]) (.list r_meet) = true := by decide +kernel
def r_off : List PyData := [.tuple [.tuple [.tuple [.str "outward"]], .tuple [.tuple [.str "ahead", .int 9], .tuple [.str "ahead", .int 9], .tuple [.str "ahead", .int 9], .tuple [.str "ahead", .int 9], .tuple [.str "ahead", .int 9], .tuple [.str "ahead", .int 9], .tuple [.str "ahead", .int 9], .tuple [.str "ahead", .int 9]]],
  .tuple [.tuple [], .tuple [.tuple [.str "turn", .str "about"]]]]
theorem ro_off : ∀ r ∈ r_off, RuleOk r := (List.forall_mem_cons.mpr ⟨⟨_, _, rfl, by decide, (List.forall_mem_cons.mpr ⟨(.inl (.inl ⟨"outward", rfl, .inr (by simp)⟩)), (fun _ h => by cases h)⟩), by decide, (List.forall_mem_cons.mpr ⟨(.inr (.inr ⟨"ahead", _, rfl, by simp⟩)), (List.forall_mem_cons.mpr ⟨(.inr (.inr ⟨"ahead", _, rfl, by simp⟩)), (List.forall_mem_cons.mpr ⟨(.inr (.inr ⟨"ahead", _, rfl, by simp⟩)), (List.forall_mem_cons.mpr ⟨(.inr (.inr ⟨"ahead", _, rfl, by simp⟩)), (List.forall_mem_cons.mpr ⟨(.inr (.inr ⟨"ahead", _, rfl, by simp⟩)), (List.forall_mem_cons.mpr ⟨(.inr (.inr ⟨"ahead", _, rfl, by simp⟩)), (List.forall_mem_cons.mpr ⟨(.inr (.inr ⟨"ahead", _, rfl, by simp⟩)), (List.forall_mem_cons.mpr ⟨(.inr (.inr ⟨"ahead", _, rfl, by simp⟩)), (fun _ h => by cases h)⟩)⟩)⟩)⟩)⟩)⟩)⟩)⟩)⟩, (List.forall_mem_cons.mpr ⟨⟨_, _, rfl, by decide, (fun _ h => by cases h), by decide, (List.forall_mem_cons.mpr ⟨(.inr (.inl ⟨"about", rfl, by simp⟩)), (fun _ h => by cases h)⟩)⟩, (fun _ h => by cases h)⟩)⟩)
theorem rd_off : sameO (F_read_call [.str "outward > ahead 9 ahead 9 ahead 9 ahead 9 ahead 9 ahead 9 ahead 9 ahead 9 ; > turn about"]) (.list r_off) = true := by decide +kernel
def r_own : List PyData := [.tuple [.tuple [.tuple [.str "at", .int (0), .int (2), .str "partner"]], .tuple [.tuple [.str "turn", .str "left"]]],
  .tuple [.tuple [.tuple [.str "at", .int (0), .int (-2), .str "partner"]], .tuple [.tuple [.str "turn", .str "right"]]],
  .tuple [.tuple [], .tuple [.tuple [.str "stay"]]]]
theorem ro_own : ∀ r ∈ r_own, RuleOk r := (List.forall_mem_cons.mpr ⟨⟨_, _, rfl, by decide, (List.forall_mem_cons.mpr ⟨(.inl (.inr (.inr ⟨_, _, "partner", rfl, by simp⟩))), (fun _ h => by cases h)⟩), by decide, (List.forall_mem_cons.mpr ⟨(.inr (.inl ⟨"left", rfl, by simp⟩)), (fun _ h => by cases h)⟩)⟩, (List.forall_mem_cons.mpr ⟨⟨_, _, rfl, by decide, (List.forall_mem_cons.mpr ⟨(.inl (.inr (.inr ⟨_, _, "partner", rfl, by simp⟩))), (fun _ h => by cases h)⟩), by decide, (List.forall_mem_cons.mpr ⟨(.inr (.inl ⟨"right", rfl, by simp⟩)), (fun _ h => by cases h)⟩)⟩, (List.forall_mem_cons.mpr ⟨⟨_, _, rfl, by decide, (fun _ h => by cases h), by decide, (List.forall_mem_cons.mpr ⟨(.inl rfl), (fun _ h => by cases h)⟩)⟩, (fun _ h => by cases h)⟩)⟩)⟩)
theorem rd_own : sameO (F_read_call [.str "at 0 2 partner > turn left ; at 0 -2 partner > turn right ; > stay"]) (.list r_own) = true := by decide +kernel
def r_pass : List PyData := [.tuple [.tuple [.tuple [.str "at", .int (2), .int (0), .str "any"], .tuple [.str "not", .tuple [.str "at", .int (4), .int (0), .str "any"]]], .tuple [.tuple [.str "ahead", .int 4]]],
  .tuple [.tuple [.tuple [.str "at", .int (2), .int (0), .str "none"]], .tuple [.tuple [.str "ahead", .int 2]]],
  .tuple [.tuple [], .tuple [.tuple [.str "stay"]]]]
theorem ro_pass : ∀ r ∈ r_pass, RuleOk r := (List.forall_mem_cons.mpr ⟨⟨_, _, rfl, by decide, (List.forall_mem_cons.mpr ⟨(.inl (.inr (.inr ⟨_, _, "any", rfl, by simp⟩))), (List.forall_mem_cons.mpr ⟨(.inr ⟨_, (.inr (.inr ⟨_, _, "any", rfl, by simp⟩)), rfl⟩), (fun _ h => by cases h)⟩)⟩), by decide, (List.forall_mem_cons.mpr ⟨(.inr (.inr ⟨"ahead", _, rfl, by simp⟩)), (fun _ h => by cases h)⟩)⟩, (List.forall_mem_cons.mpr ⟨⟨_, _, rfl, by decide, (List.forall_mem_cons.mpr ⟨(.inl (.inr (.inr ⟨_, _, "none", rfl, by simp⟩))), (fun _ h => by cases h)⟩), by decide, (List.forall_mem_cons.mpr ⟨(.inr (.inr ⟨"ahead", _, rfl, by simp⟩)), (fun _ h => by cases h)⟩)⟩, (List.forall_mem_cons.mpr ⟨⟨_, _, rfl, by decide, (fun _ h => by cases h), by decide, (List.forall_mem_cons.mpr ⟨(.inl rfl), (fun _ h => by cases h)⟩)⟩, (fun _ h => by cases h)⟩)⟩)⟩)
theorem rd_pass : sameO (F_read_call [.str "at 2 0 any and not at 4 0 any > ahead 4 ; at 2 0 none > ahead 2 ; > stay"]) (.list r_pass) = true := by decide +kernel
def r_ring : List PyData := [.tuple [.tuple [.tuple [.str "outward"]], .tuple [.tuple [.str "turn", .str "left"], .tuple [.str "ahead", .int 2]]],
  .tuple [.tuple [.tuple [.str "inward"]], .tuple [.tuple [.str "right", .int 2], .tuple [.str "turn", .str "left"]]],
  .tuple [.tuple [], .tuple [.tuple [.str "turn", .str "left"]]]]
theorem ro_ring : ∀ r ∈ r_ring, RuleOk r := (List.forall_mem_cons.mpr ⟨⟨_, _, rfl, by decide, (List.forall_mem_cons.mpr ⟨(.inl (.inl ⟨"outward", rfl, .inr (by simp)⟩)), (fun _ h => by cases h)⟩), by decide, (List.forall_mem_cons.mpr ⟨(.inr (.inl ⟨"left", rfl, by simp⟩)), (List.forall_mem_cons.mpr ⟨(.inr (.inr ⟨"ahead", _, rfl, by simp⟩)), (fun _ h => by cases h)⟩)⟩)⟩, (List.forall_mem_cons.mpr ⟨⟨_, _, rfl, by decide, (List.forall_mem_cons.mpr ⟨(.inl (.inl ⟨"inward", rfl, .inr (by simp)⟩)), (fun _ h => by cases h)⟩), by decide, (List.forall_mem_cons.mpr ⟨(.inr (.inr ⟨"right", _, rfl, by simp⟩)), (List.forall_mem_cons.mpr ⟨(.inr (.inl ⟨"left", rfl, by simp⟩)), (fun _ h => by cases h)⟩)⟩)⟩, (List.forall_mem_cons.mpr ⟨⟨_, _, rfl, by decide, (fun _ h => by cases h), by decide, (List.forall_mem_cons.mpr ⟨(.inr (.inl ⟨"left", rfl, by simp⟩)), (fun _ h => by cases h)⟩)⟩, (fun _ h => by cases h)⟩)⟩)⟩)
theorem rd_ring : sameO (F_read_call [.str "outward > turn left ahead 2 ; inward > right 2 turn left ; > turn left"]) (.list r_ring) = true := by decide +kernel
def r_side : List PyData := [.tuple [.tuple [.tuple [.str "side"], .tuple [.str "at", .int (0), .int (2), .str "same"]], .tuple [.tuple [.str "right", .int 1], .tuple [.str "ahead", .int 2], .tuple [.str "left", .int 1]]],
  .tuple [.tuple [], .tuple [.tuple [.str "stay"]]]]
theorem ro_side : ∀ r ∈ r_side, RuleOk r := (List.forall_mem_cons.mpr ⟨⟨_, _, rfl, by decide, (List.forall_mem_cons.mpr ⟨(.inl (.inl ⟨"side", rfl, .inl (by simp)⟩)), (List.forall_mem_cons.mpr ⟨(.inl (.inr (.inr ⟨_, _, "same", rfl, by simp⟩))), (fun _ h => by cases h)⟩)⟩), by decide, (List.forall_mem_cons.mpr ⟨(.inr (.inr ⟨"right", _, rfl, by simp⟩)), (List.forall_mem_cons.mpr ⟨(.inr (.inr ⟨"ahead", _, rfl, by simp⟩)), (List.forall_mem_cons.mpr ⟨(.inr (.inr ⟨"left", _, rfl, by simp⟩)), (fun _ h => by cases h)⟩)⟩)⟩)⟩, (List.forall_mem_cons.mpr ⟨⟨_, _, rfl, by decide, (fun _ h => by cases h), by decide, (List.forall_mem_cons.mpr ⟨(.inl rfl), (fun _ h => by cases h)⟩)⟩, (fun _ h => by cases h)⟩)⟩)
theorem rd_side : sameO (F_read_call [.str "side and at 0 2 same > right 1 ahead 2 left 1 ; > stay"]) (.list r_side) = true := by decide +kernel
def r_swap : List PyData := [.tuple [.tuple [.tuple [.str "at", .int (0), .int (2), .str "same"]], .tuple [.tuple [.str "right", .int 2]]],
  .tuple [.tuple [.tuple [.str "at", .int (0), .int (-2), .str "same"]], .tuple [.tuple [.str "left", .int 2]]],
  .tuple [.tuple [], .tuple [.tuple [.str "stay"]]]]
theorem ro_swap : ∀ r ∈ r_swap, RuleOk r := (List.forall_mem_cons.mpr ⟨⟨_, _, rfl, by decide, (List.forall_mem_cons.mpr ⟨(.inl (.inr (.inr ⟨_, _, "same", rfl, by simp⟩))), (fun _ h => by cases h)⟩), by decide, (List.forall_mem_cons.mpr ⟨(.inr (.inr ⟨"right", _, rfl, by simp⟩)), (fun _ h => by cases h)⟩)⟩, (List.forall_mem_cons.mpr ⟨⟨_, _, rfl, by decide, (List.forall_mem_cons.mpr ⟨(.inl (.inr (.inr ⟨_, _, "same", rfl, by simp⟩))), (fun _ h => by cases h)⟩), by decide, (List.forall_mem_cons.mpr ⟨(.inr (.inr ⟨"left", _, rfl, by simp⟩)), (fun _ h => by cases h)⟩)⟩, (List.forall_mem_cons.mpr ⟨⟨_, _, rfl, by decide, (fun _ h => by cases h), by decide, (List.forall_mem_cons.mpr ⟨(.inl rfl), (fun _ h => by cases h)⟩)⟩, (fun _ h => by cases h)⟩)⟩)⟩)
theorem rd_swap : sameO (F_read_call [.str "at 0 2 same > right 2 ; at 0 -2 same > left 2 ; > stay"]) (.list r_swap) = true := by decide +kernel
def r_walk : List PyData := [.tuple [.tuple [.tuple [.str "at", .int (2), .int (0), .str "none"]], .tuple [.tuple [.str "ahead", .int 2]]]]
theorem ro_walk : ∀ r ∈ r_walk, RuleOk r := (List.forall_mem_cons.mpr ⟨⟨_, _, rfl, by decide, (List.forall_mem_cons.mpr ⟨(.inl (.inr (.inr ⟨_, _, "none", rfl, by simp⟩))), (fun _ h => by cases h)⟩), by decide, (List.forall_mem_cons.mpr ⟨(.inr (.inr ⟨"ahead", _, rfl, by simp⟩)), (fun _ h => by cases h)⟩)⟩, (fun _ h => by cases h)⟩)
theorem rd_walk : sameO (F_read_call [.str "at 2 0 none > ahead 2"]) (.list r_walk) = true := by decide +kernel
def kn15 : List (Str × PyData) := [("about", .list r_about), ("back", .list r_back), ("cross", .list r_cross), ("face", .list r_face), ("hin", .list r_hin), ("hout", .list r_hout), ("lt", .list r_lt), ("meet", .list r_meet), ("off", .list r_off), ("own", .list r_own), ("pass", .list r_pass), ("ring", .list r_ring), ("side", .list r_side), ("swap", .list r_swap), ("walk", .list r_walk)]
theorem kn15_names : kn15.map (·.1) = nms15 := rfl
theorem names15 : nms15.all (fun n => sameO (F_is_call_name [.str n]) (.bool true)) = true := by decide +kernel
end SQ
/-! ## SqPc -/
set_option Elab.async false
set_option linter.all false
set_option maxRecDepth 100000
set_option maxHeartbeats 1000000
/-! the plain law, 12: the book, the names -/
namespace SQ
open PySem PySem.Spec L2 TL
open PyProof.Rows (sortedS)
theorem valV_txts {n : Str} : ∀ {l : List (Str × Str)}, valV (l.map entT) (Sum.inr n) = (l.lookup n).map V.str
  | [] => rfl
  | p :: l => by
    by_cases e : p.1 = n
    · subst e
      rw [List.lookup_cons, beq_self_eq_true]
      exact valV_pos (p := entT p) rfl
    · rw [List.lookup_cons, show (n == p.1) = false from beq_eq_false_iff_ne.mpr fun q => e q.symm]
      exact (valV_neg (p := entT p) fun q => e (Sum.inr.inj q)).trans valV_txts
theorem valv {n t : Str} (h : txts.lookup n = some t) : valV (txts.map entT) (Sum.inr n) = some (.str t) := by rw [valV_txts, h]; rfl
theorem kn15_rd : ∀ p ∈ kn15, ∃ t, valV (txts.map entT) (Sum.inr p.1) = some (.str t) ∧ F_read_call [.str t] = some p.2 := (List.forall_mem_cons.mpr ⟨⟨"> turn about", valv (n := "about") (t := "> turn about") (by decide +kernel), sameO_eq rd_about⟩, (List.forall_mem_cons.mpr ⟨⟨"inner 3 and not inner 1 > back 2 ; > turn about", valv (n := "back") (t := "inner 3 and not inner 1 > back 2 ; > turn about") (by decide +kernel), sameO_eq rd_back⟩, (List.forall_mem_cons.mpr ⟨⟨"at 6 0 about > ahead 6 ; at 2 0 about > ahead 2 ; > stay", valv (n := "cross") (t := "at 6 0 about > ahead 6 ; at 2 0 about > ahead 2 ; > stay") (by decide +kernel), sameO_eq rd_cross⟩, (List.forall_mem_cons.mpr ⟨⟨"lefts > turn right ; > turn left", valv (n := "face") (t := "lefts > turn right ; > turn left") (by decide +kernel), sameO_eq rd_face⟩, (List.forall_mem_cons.mpr ⟨⟨"head and inward > ahead 2 ; > stay", valv (n := "hin") (t := "head and inward > ahead 2 ; > stay") (by decide +kernel), sameO_eq rd_hin⟩, (List.forall_mem_cons.mpr ⟨⟨"head and inner 1 > back 2 ; > stay", valv (n := "hout") (t := "head and inner 1 > back 2 ; > stay") (by decide +kernel), sameO_eq rd_hout⟩, (List.forall_mem_cons.mpr ⟨⟨"> turn left", valv (n := "lt") (t := "> turn left") (by decide +kernel), sameO_eq rd_lt⟩, (List.forall_mem_cons.mpr ⟨⟨"at 0 2 partner > right 1 ; at 0 -2 partner > left 1 turn left ; > stay", valv (n := "meet") (t := "at 0 2 partner > right 1 ; at 0 -2 partner > left 1 turn left ; > stay") (by decide +kernel), sameO_eq rd_meet⟩, (List.forall_mem_cons.mpr ⟨⟨"outward > ahead 9 ahead 9 ahead 9 ahead 9 ahead 9 ahead 9 ahead 9 ahead 9 ; > turn about", valv (n := "off") (t := "outward > ahead 9 ahead 9 ahead 9 ahead 9 ahead 9 ahead 9 ahead 9 ahead 9 ; > turn about") (by decide +kernel), sameO_eq rd_off⟩, (List.forall_mem_cons.mpr ⟨⟨"at 0 2 partner > turn left ; at 0 -2 partner > turn right ; > stay", valv (n := "own") (t := "at 0 2 partner > turn left ; at 0 -2 partner > turn right ; > stay") (by decide +kernel), sameO_eq rd_own⟩, (List.forall_mem_cons.mpr ⟨⟨"at 2 0 any and not at 4 0 any > ahead 4 ; at 2 0 none > ahead 2 ; > stay", valv (n := "pass") (t := "at 2 0 any and not at 4 0 any > ahead 4 ; at 2 0 none > ahead 2 ; > stay") (by decide +kernel), sameO_eq rd_pass⟩, (List.forall_mem_cons.mpr ⟨⟨"outward > turn left ahead 2 ; inward > right 2 turn left ; > turn left", valv (n := "ring") (t := "outward > turn left ahead 2 ; inward > right 2 turn left ; > turn left") (by decide +kernel), sameO_eq rd_ring⟩, (List.forall_mem_cons.mpr ⟨⟨"side and at 0 2 same > right 1 ahead 2 left 1 ; > stay", valv (n := "side") (t := "side and at 0 2 same > right 1 ahead 2 left 1 ; > stay") (by decide +kernel), sameO_eq rd_side⟩, (List.forall_mem_cons.mpr ⟨⟨"at 0 2 same > right 2 ; at 0 -2 same > left 2 ; > stay", valv (n := "swap") (t := "at 0 2 same > right 2 ; at 0 -2 same > left 2 ; > stay") (by decide +kernel), sameO_eq rd_swap⟩, (List.forall_mem_cons.mpr ⟨⟨"at 2 0 none > ahead 2", valv (n := "walk") (t := "at 2 0 none > ahead 2") (by decide +kernel), sameO_eq rd_walk⟩, (fun _ h => by cases h)⟩)⟩)⟩)⟩)⟩)⟩)⟩)⟩)⟩)⟩)⟩)⟩)⟩)⟩)⟩)
theorem kn15_ok : ∀ p ∈ kn15, ∃ rs, p.2 = .list rs ∧ ∀ r ∈ rs, RuleOk r := (List.forall_mem_cons.mpr ⟨⟨_, rfl, ro_about⟩, (List.forall_mem_cons.mpr ⟨⟨_, rfl, ro_back⟩, (List.forall_mem_cons.mpr ⟨⟨_, rfl, ro_cross⟩, (List.forall_mem_cons.mpr ⟨⟨_, rfl, ro_face⟩, (List.forall_mem_cons.mpr ⟨⟨_, rfl, ro_hin⟩, (List.forall_mem_cons.mpr ⟨⟨_, rfl, ro_hout⟩, (List.forall_mem_cons.mpr ⟨⟨_, rfl, ro_lt⟩, (List.forall_mem_cons.mpr ⟨⟨_, rfl, ro_meet⟩, (List.forall_mem_cons.mpr ⟨⟨_, rfl, ro_off⟩, (List.forall_mem_cons.mpr ⟨⟨_, rfl, ro_own⟩, (List.forall_mem_cons.mpr ⟨⟨_, rfl, ro_pass⟩, (List.forall_mem_cons.mpr ⟨⟨_, rfl, ro_ring⟩, (List.forall_mem_cons.mpr ⟨⟨_, rfl, ro_side⟩, (List.forall_mem_cons.mpr ⟨⟨_, rfl, ro_swap⟩, (List.forall_mem_cons.mpr ⟨⟨_, rfl, ro_walk⟩, (fun _ h => by cases h)⟩)⟩)⟩)⟩)⟩)⟩)⟩)⟩)⟩)⟩)⟩)⟩)⟩)⟩)⟩)
theorem icn_ok {n : Str} (h : n ∈ nms15) : F_is_call_name [.str n] = some (.bool true) := sameO_eq (List.all_eq_true.mp names15 n h)
theorem kn15_Kn : Kn F_is_call_name F_read_call kn15 := ⟨kn15_names, fun p hp => icn_ok (nms15_perm.mem_iff.mpr (List.mem_map.mpr ⟨p, hp, rfl⟩)), kn15_rd⟩
theorem lookup_nodup {p : Str × PyData} : ∀ {l : List (Str × PyData)}, (l.map (·.1)).Nodup → p ∈ l → l.lookup p.1 = some p.2
  | [], _, h => by cases h
  | q :: l, hn, h => by
    rw [List.map_cons, List.nodup_cons] at hn
    rcases List.mem_cons.mp h with rfl | h
    · rw [List.lookup_cons, beq_self_eq_true]
    · have ne : p.1 ≠ q.1 := fun e => hn.1 (by rw [← e]; exact List.mem_map.mpr ⟨p, h, rfl⟩)
      rw [List.lookup_cons, show (p.1 == q.1) = false from beq_eq_false_iff_ne.mpr ne]
      exact lookup_nodup hn.2 h
/-- the call of a name -/
def cl15 : PyData → PyData
  | .str n => (kn15.lookup n).getD .none
  | _ => .none
theorem cl15_ok {n : Str} (h : n ∈ nms15) : G_bcall kn15 [.str n] = some (cl15 (.str n)) ∧ ClOk cl15 (.str n) := by
  rw [← kn15_names] at h
  obtain ⟨p, hp, rfl⟩ := List.mem_map.mp h
  have hl := lookup_nodup (by rw [kn15_names]; exact nms15_nodup) hp
  obtain ⟨rs, e, hr⟩ := kn15_ok p hp
  have ec : cl15 (.str p.1) = .list rs := by
    show (kn15.lookup p.1).getD .none = _
    rw [hl, e]
    rfl
  refine ⟨?_, rs, ec, hr⟩
  rw [ec]
  unfold G_bcall
  simp only [icn_ok (by rw [← kn15_names]; exact h : p.1 ∈ nms15), Option.bind_some, hl, e]
/-- what book.call gives -/
theorem G_bcall_run {CB : Addr} {kn : List (Str × PyData)} {ds : List PyData} {d : PyData} (h : G_bcall kn ds = some d) : runO 2 CB (g_bcall CB) kn ds = some d := by
  unfold G_bcall at h
  split at h
  · rename_i nm
    obtain ⟨b, hb, h⟩ := Option.bind_eq_some_iff.mp h
    split at h
    · obtain ⟨e, he, h⟩ := Option.bind_eq_some_iff.mp h
      split at h
      · rename_i rs
        cases h
        have t1 : eT CB 0 "known" [.k CB (bkF kn), .d (.str nm)] = some kn := eT_at rfl rfl
        have c1 : cOr (cNot (cE (eA (gN 1 F_is_call_name) (aCons (eV 1) aNil)))) (cNin CB 0 "known" (eV 1)) [.k CB (bkF kn), .d (.str nm)] = some false := by
          have a1 : eA (gN 1 F_is_call_name) (aCons (eV 1) aNil) [.k CB (bkF kn), .d (.str nm)] = some (.bool true) := (eA_gN (n := 1) (G := F_is_call_name) (ds := [.str nm]) rfl rfl).trans hb
          unfold cOr cNot cE
          rw [a1]
          show ((eT CB 0 "known" [.k CB (bkF kn), .d (.str nm)]).map fun kn => (kn.lookup nm).isNone) = _
          rw [t1]
          show some (kn.lookup nm).isNone = _
          rw [he]
          rfl
        have g1 : eGet CB 0 "known" (eV 1) [.k CB (bkF kn), .d (.str nm)] = some (.list rs) := by
          show ((eT CB 0 "known" [.k CB (bkF kn), .d (.str nm)]).bind fun kn => kn.lookup nm) = _
          rw [t1, Option.bind_some, he]
        show outD (g_bcall CB [.k CB (bkF kn), .d (.str nm)]) = _
        unfold g_bcall
        rw [sSeq_nx (δ1 := [.k CB (bkF kn), .d (.str nm)]) (by unfold sIf; rw [c1]; rfl)]
        unfold sRet e1
        rw [g1]
        rfl
      · cases h
    · cases h
  · cases h
theorem bnames_ok (CB : Addr) : G_bnames CB kn15 [] = some (.list (nms15.map .str)) := by
  have t1 : eT CB 0 "known" [.k CB (bkF kn15)] = some kn15 := eT_at rfl rfl
  show outD ((eNms CB 0 "known" [.k CB (bkF kn15)]).map .rt) = _
  unfold eNms
  rw [t1, Option.bind_some, if_pos ⟨by rw [kn15_names]; exact nms15_sorted, by decide⟩]
  rfl
theorem Lst_at {i : Nat} {f : En → Option (List PyData)} {δ : En} {ds : List PyData} (h : f δ = some ds) (hl : ds.length ≤ 1000) : sLst i f δ = some (.nx (δ.set i (.o ds))) := by
  unfold sLst
  rw [h, Option.bind_some, if_pos (by rw [sizeLine_eq]; omega)]
theorem rg1_nat {m : Nat} (h : m < 100) : rg1 [.int (m : Int)] = some ((List.range m).map fun i => .int (0 + (i : Nat))) := by
  unfold rg1
  simp only
  rw [if_pos (by omega), Int.toNat_natCast]
/-- names of the law -/
def NmOk (d : PyData) : Prop := ∃ n ∈ nms15, d = .str n
theorem law_names_ok {z many : Int} (hz : 0 ≤ z) (h1 : 1 ≤ many) (h4 : many ≤ 4) : ∃ names, F__law_names [.int z, .int many] = some (.list names) ∧ (names.length : Int) = many ∧ ∀ d ∈ names, NmOk d := by
  obtain ⟨m, rfl⟩ := Int.eq_ofNat_of_zero_le (show 0 ≤ many by omega)
  have i1 : iB (aCons (eV 1) aNil) rg1 [.d (.int z), .d (.int m), .o (nms15.map .str), .o [], .u] = some ((List.range m).map fun i => .int (0 + (i : Nat))) := by
    unfold iB
    rw [aCons_at (x := .int (m : Int)) (xs := []) (eV_at rfl) rfl, Option.bind_some]
    exact rg1_nat (by omega)
  obtain ⟨r, hr, gr⟩ := forD_invN (T := .nm 4) (body := sSeq (sAppPop 3 2 (e2 modI (eV 0) (eLenO 2))) (sAsg (e2 divI (eV 0) (eC (.int 14))) (.nm 0))) (its := (List.range m).map fun i => PyData.int (0 + (i : Nat))) (k0 := 0) (N := m) (by simp)
    (Inv := fun k δ => ∃ z ys found x4, 0 ≤ z ∧ ys.length + k = 15 ∧ found.length = k ∧ (∀ d ∈ ys, NmOk d) ∧ (∀ d ∈ found, NmOk d) ∧ δ = [.d (.int z), .d (.int m), .o ys, .o found, x4]) (Ret := fun _ => False) (Ex := fun _ => False)
    (fun k d hd δ hδ => by
      obtain ⟨z, ys, found, x4, hz, hy, hf, oy, of, rfl⟩ := hδ
      have hk : k < m := by
        have := (List.getElem?_eq_some_iff.mp hd).1
        simpa using this
      have hl : 0 < ys.length := by omega
      have e1 : e2 modI (eV 0) (eLenO 2) [.d (.int z), .d (.int m), .o ys, .o found, .d d] = some (.int (z % (ys.length : Int))) := by
        show modI (.int z) (.int (ys.length : Int)) = _
        exact if_pos (by omega)
      have b1 : 0 ≤ z % (ys.length : Int) := Int.emod_nonneg _ (by omega)
      have b2 : z % (ys.length : Int) < ys.length := Int.emod_lt_of_pos _ (by omega)
      have hq : ys[(z % (ys.length : Int)).toNat]? = some (ys[(z % (ys.length : Int)).toNat]'(by omega)) := List.getElem?_eq_getElem (by omega)
      have hm : ys[(z % (ys.length : Int)).toNat]'(by omega) ∈ ys := List.getElem_mem _
      generalize ys[(z % (ys.length : Int)).toNat]'(by omega) = q at hq hm
      have s1 : sAppPop 3 2 (e2 modI (eV 0) (eLenO 2)) [.d (.int z), .d (.int m), .o ys, .o found, .d d] = some (.nx [.d (.int z), .d (.int m), .o (ys.eraseIdx (z % (ys.length : Int)).toNat), .o (found ++ [q]), .d d]) := by
        show (if (3 : Nat) = 2 then none else if found.length < 1000 ∧ ys.length < 1000 then ((e2 modI (eV 0) (eLenO 2) [.d (.int z), .d (.int m), .o ys, .o found, .d d]).bind fun n => (asI n).bind fun n => if 0 ≤ n ∧ n < ys.length then (ys[n.toNat]?).map fun d' => Res.nx [.d (.int z), .d (.int m), .o (ys.eraseIdx n.toNat), .o (found ++ [d']), .d d] else none) else none) = _
        rw [if_neg (by decide), if_pos (by omega), e1, Option.bind_some]
        show (if 0 ≤ z % (ys.length : Int) ∧ z % (ys.length : Int) < ys.length then (ys[(z % (ys.length : Int)).toNat]?).map fun d' => Res.nx [.d (.int z), .d (.int m), .o (ys.eraseIdx (z % (ys.length : Int)).toNat), .o (found ++ [d']), .d d] else none) = _
        rw [if_pos ⟨b1, b2⟩, hq]
        rfl
      have s2 : sAsg (e2 divI (eV 0) (eC (.int 14))) (.nm 0) [.d (.int z), .d (.int m), .o (ys.eraseIdx (z % (ys.length : Int)).toNat), .o (found ++ [q]), .d d] = some (.nx [.d (.int (z / 14)), .d (.int m), .o (ys.eraseIdx (z % (ys.length : Int)).toNat), .o (found ++ [q]), .d d]) := by
        show ((if (0 : Int) < 14 ∧ (14 : Int) < 1073741824 then some (PyData.int (z / 14)) else none).bind fun d' => some (Res.nx [.d d', .d (.int m), .o (ys.eraseIdx (z % (ys.length : Int)).toNat), .o (found ++ [q]), .d d])) = _
        rw [if_pos (by omega)]
        rfl
      refine ⟨[d], .nx [.d (.int (z / 14)), .d (.int m), .o (ys.eraseIdx (z % (ys.length : Int)).toNat), .o (found ++ [q]), .d d], rfl, ?_, z / 14, _, _, _, by omega, ?_, ?_, fun x hx => oy x (List.mem_of_mem_eraseIdx hx), fun x hx => ?_, rfl⟩
      · show sSeq (sAppPop 3 2 (e2 modI (eV 0) (eLenO 2))) (sAsg (e2 divI (eV 0) (eC (.int 14))) (.nm 0)) [.d (.int z), .d (.int m), .o ys, .o found, .d d] = _
        rw [sSeq_nx s1, s2]
      · rw [List.length_eraseIdx_of_lt (by omega)]; omega
      · rw [List.length_append, List.length_singleton]; omega
      · rcases List.mem_append.mp hx with hx | hx
        · exact of x hx
        · rw [List.mem_singleton.mp hx]; exact oy q hm) (δ := [.d (.int z), .d (.int m), .o (nms15.map .str), .o [], .u]) ⟨z, _, _, _, hz, rfl, rfl, fun d hd => (by obtain ⟨n, hn, rfl⟩ := List.mem_map.mp hd; exact ⟨n, hn, rfl⟩), fun d hd => (by cases hd), rfl⟩
  cases r with
  | rt d => exact gr.elim
  | ex t => exact gr.elim
  | nx δ =>
    obtain ⟨z', ys, found, x4, _, _, hf, _, of, rfl⟩ := gr
    refine ⟨found, ?_, by rw [hf], of⟩
    have s1 : sNms 2 [.d (.int z), .d (.int m), .u, .u, .u] = some (.nx [.d (.int z), .d (.int m), .o (nms15.map .str), .u, .u]) := rfl
    have s2 : sLst 3 aNil [.d (.int z), .d (.int m), .o (nms15.map .str), .u, .u] = some (.nx [.d (.int z), .d (.int m), .o (nms15.map .str), .o [], .u]) := Lst_at rfl (by decide)
    have s3 : sFor (iB (aCons (eV 1) aNil) rg1) (.nm 4) (sSeq (sAppPop 3 2 (e2 modI (eV 0) (eLenO 2))) (sAsg (e2 divI (eV 0) (eC (.int 14))) (.nm 0))) [.d (.int z), .d (.int m), .o (nms15.map .str), .o [], .u] = some (.nx [.d (.int z'), .d (.int m), .o ys, .o found, x4]) := by
      unfold sFor
      rw [i1, Option.bind_some, hr]
    have a0 : F__law_names [.int z, .int m] = outD (g_law_names [.d (.int z), .d (.int m), .u, .u, .u]) := rfl
    rw [a0]
    unfold g_law_names
    rw [sSeq_nx s1, sSeq_nx s2, sSeq_nx s3]
    rfl
end SQ
/-! ## SqPd -/
set_option Elab.async false
set_option linter.all false
set_option maxRecDepth 100000
set_option maxHeartbeats 1000000
/-! the plain law, 13: the first floor, the rows' own fields, reached -/
namespace SQ
open PySem PySem.Spec L2 TL
theorem sAsg_at {f : En → Option PyData} {i : Nat} {δ : En} {d : PyData} (h : f δ = some d) : sAsg f (.nm i) δ = some (.nx (δ.set i (.d d))) := by
  unfold sAsg
  rw [h]
  rfl
theorem e2_at {op : PyData → PyData → Option PyData} {f g : En → Option PyData} {δ : En} {x y : PyData} (h1 : f δ = some x) (h2 : g δ = some y) : e2 op f g δ = op x y := by
  unfold e2
  rw [h1, Option.bind_some, h2, Option.bind_some]
theorem e1_at {op : PyData → Option PyData} {f : En → Option PyData} {δ : En} {x : PyData} (h1 : f δ = some x) : e1 op f δ = op x := by
  unfold e1
  rw [h1, Option.bind_some]
theorem cell_ok (ns : List Int) (k : Nat) : ∃ v : Int, F__law_cell_at [.list (ns.map .int), .int k] = some (.int v) := by
  have c1 : cE (e2 ltI (eV 1) (e1 lenD (eV 0))) [.d (.list (ns.map PyData.int)), .d (.int k)] = some (decide ((k : Int) < ((ns.map PyData.int).length : Int))) := rfl
  have a0 : F__law_cell_at [.list (ns.map .int), .int k] = outD (g__law_cell_at [.d (.list (ns.map PyData.int)), .d (.int k)]) := rfl
  by_cases h : k < ns.length
  · have e : ixD (.list (ns.map PyData.int)) (.int k) = some (.int ns[k]) := by
      show atI (ns.map PyData.int) (k : Int) = _
      exact atI_nat (by rw [List.getElem?_map, List.getElem?_eq_getElem h]; rfl)
    refine ⟨ns[k], ?_⟩
    rw [a0]
    unfold g__law_cell_at sSeq sIf
    rw [c1, decide_eq_true (by rw [List.length_map]; omega)]
    show outD (((e2 ixD (eV 0) (eV 1) [.d (.list (ns.map PyData.int)), .d (.int k)]).map Res.rt).bind fun r => thenR r (sRet (eC (.int 0)))) = _
    rw [e2_at (x := .list (ns.map PyData.int)) (y := .int k) rfl rfl, e]
    rfl
  · refine ⟨0, ?_⟩
    rw [a0]
    unfold g__law_cell_at sSeq sIf
    rw [c1, decide_eq_false (by rw [List.length_map]; omega)]
    rfl
/-! ### the first floor -/
section
variable (Bh : List (Str × PyData) → List PyData → Option PyData) (Bn : List (Str × PyData) → List PyData → Option PyData) (Tn Ca : List PyData → Option PyData) (CB : Addr)
def bF : En → Option Res :=
  (sSeq (sAsg (eFnB CB 0 2 Bh (aCons (eV 2) (aCons (e2 ixD (eBnms CB 0 Bn) (e2 modI (eV 3) (e1 lenD (eBnms CB 0 Bn)))) aNil))) (.nm 4))
  (sIf (cE (e2 notN (eV 4) (eC .none)))
  (sAsg (eV 4) (.nm 2))
  sNil))
def gFirst : En → Option Res :=
  (sSeq (sAsg (eC d_HOME) (.nm 2))
  (sSeq (sFor (iB (eSl (eV 1) (pE (eC (.int 2))) (pE (eC (.int 6)))) lsD) (.nm 3) (bF Bh Bn CB))
  (sRet (eA (gN 2 Tn) (aCons (eV 2) (aCons (e2 modI (eA (gN 2 Ca) (aCons (eV 1) (aCons (eC (.int 2)) aNil))) (eC (.int 4))) aNil))))))
end
theorem g_first_eq (CB : Addr) : g__law_first CB = gFirst (O__law_behind CB) (G_bnames CB) F_turned F__law_cell_at CB := rfl
def homeL : List PyData := [stD (-1) (-3) 0, stD 1 (-3) 0, stD 3 (-1) 1, stD 3 1 1, stD 1 3 2, stD (-1) 3 2, stD (-3) 1 3, stD (-3) (-1) 3]
theorem home_ok : Fl8 homeL := by
  refine ⟨rfl, fun s hs => ?_⟩
  simp only [homeL, List.mem_cons, List.not_mem_nil, or_false] at hs
  rcases hs with rfl | rfl | rfl | rfl | rfl | rfl | rfl | rfl <;> exact ⟨_, _, _, rfl, by unfold okXYF; omega⟩
theorem cut_mem {ds : List PyData} {lo hi : Option Int} {d : PyData} (h : d ∈ cutL ds lo hi) : d ∈ ds := by
  unfold cutL at h
  exact List.mem_of_mem_drop (List.mem_of_mem_take h)
section
variable {Bh : List (Str × PyData) → List PyData → Option PyData} {Bn : List (Str × PyData) → List PyData → Option PyData} {Tn Ca : List PyData → Option PyData} {CB : Addr}
theorem bF_ok (hB : ∀ n ∈ nms15, ∀ l, Fl8 l → Bh kn15 [.tuple l, .str n] = some (behD (beh (cl15 (.str n)) l))) (hN : Bn kn15 [] = some (.list (nms15.map .str))) {l : List PyData} (h : Fl8 l) (c : Int) {sc : PyData} {x4 : Sl} :
    ∃ l' x4', Fl8 l' ∧ bF Bh Bn CB [.k CB (bkF kn15), .d sc, .d (.tuple l), .d (.int c), x4] = some (.nx [.k CB (bkF kn15), .d sc, .d (.tuple l'), .d (.int c), x4']) := by
  have b1 : eBnms CB 0 Bn [.k CB (bkF kn15), .d sc, .d (.tuple l), .d (.int c), x4] = some (.list (nms15.map .str)) := by
    unfold eBnms
    rw [eB_at rfl, Option.bind_some, hN]
  have m1 : 0 ≤ c % 15 ∧ c % 15 < 15 := by omega
  have hk : (c % 15).toNat < nms15.length := by
    show _ < 15
    omega
  have b2 : e2 ixD (eBnms CB 0 Bn) (e2 modI (eV 3) (e1 lenD (eBnms CB 0 Bn))) [.k CB (bkF kn15), .d sc, .d (.tuple l), .d (.int c), x4] = some (.str nms15[(c % 15).toNat]) := by
    have q1 : e1 lenD (eBnms CB 0 Bn) [.k CB (bkF kn15), .d sc, .d (.tuple l), .d (.int c), x4] = some (.int 15) := by
      rw [e1_at b1]
      rfl
    have q2 : e2 modI (eV 3) (e1 lenD (eBnms CB 0 Bn)) [.k CB (bkF kn15), .d sc, .d (.tuple l), .d (.int c), x4] = some (.int (c % 15)) := by
      rw [e2_at (x := .int c) (eV_at rfl) q1]
      show (if (0:Int) < 15 then some (PyData.int (c % 15)) else none) = _
      exact if_pos (by omega)
    rw [e2_at b1 q2]
    show atI (nms15.map PyData.str) (c % 15) = _
    have q3 : ((c % 15).toNat : Int) = c % 15 := by omega
    have q4 := atI_nat (ds := nms15.map PyData.str) (n := (c % 15).toNat) (d := .str nms15[(c % 15).toNat]) (by rw [List.getElem?_map, List.getElem?_eq_getElem hk]; rfl)
    rw [q3] at q4
    exact q4
  have hn : nms15[(c % 15).toNat] ∈ nms15 := List.getElem_mem hk
  generalize nms15[(c % 15).toNat] = n at b2 hn
  obtain ⟨_, rs, hc, hr⟩ := cl15_ok hn
  have s1 : sAsg (eFnB CB 0 2 Bh (aCons (eV 2) (aCons (e2 ixD (eBnms CB 0 Bn) (e2 modI (eV 3) (e1 lenD (eBnms CB 0 Bn)))) aNil))) (.nm 4) [.k CB (bkF kn15), .d sc, .d (.tuple l), .d (.int c), x4] = some (.nx [.k CB (bkF kn15), .d sc, .d (.tuple l), .d (.int c), .d (behD (beh (cl15 (.str n)) l))]) := by
    refine sAsg_at ?_
    unfold eFnB
    rw [eB_at rfl, Option.bind_some, aCons_at (x := .tuple l) (eV_at rfl) (aCons_at b2 rfl), Option.bind_some, if_pos (show [PyData.tuple l, .str n].length = 2 from rfl), hB n hn l h]
  unfold bF
  rw [sSeq_nx s1]
  cases hb : beh (cl15 (.str n)) l with
  | none => exact ⟨l, _, h, rfl⟩
  | some m => exact ⟨m, _, beh_ok h hr (by rw [← hc]; exact hb), rfl⟩
theorem gFirst_ok (hB : ∀ n ∈ nms15, ∀ l, Fl8 l → Bh kn15 [.tuple l, .str n] = some (behD (beh (cl15 (.str n)) l))) (hN : Bn kn15 [] = some (.list (nms15.map .str))) (hT : ∀ l k, Fl8 l → Tn [.tuple l, .int k] = some (.tuple (turnN (k % 4).toNat l))) {ns : List Int} (hC : ∃ v : Int, Ca [.list (ns.map .int), .int 2] = some (.int v)) :
    ∃ l, Fl8 l ∧ runO 5 CB (gFirst Bh Bn Tn Ca CB) kn15 [.list (ns.map .int)] = some (.tuple l) := by
  obtain ⟨v, hv⟩ := hC
  have i1 : iB (eSl (eV 1) (pE (eC (.int 2))) (pE (eC (.int 6)))) lsD [.k CB (bkF kn15), .d (.list (ns.map PyData.int)), .d d_HOME, .u, .u] = some (cutL (ns.map PyData.int) (some 2) (some 6)) := rfl
  obtain ⟨r, hr, gr⟩ := forD_inv (T := .nm 3) (body := bF Bh Bn CB) (its := cutL (ns.map PyData.int) (some 2) (some 6)) (Inv := fun δ => ∃ l x3 x4, Fl8 l ∧ δ = [.k CB (bkF kn15), .d (.list (ns.map PyData.int)), .d (.tuple l), x3, x4]) (Ret := fun _ => False) (Ex := fun _ => False)
    (fun d hd δ hδ => by
      obtain ⟨l, x3, x4, hl, rfl⟩ := hδ
      obtain ⟨c, _, rfl⟩ := List.mem_map.mp (cut_mem hd)
      obtain ⟨l', x4', h', e⟩ := bF_ok (CB := CB) hB hN hl c (sc := .list (ns.map PyData.int)) (x4 := x4)
      exact ⟨[.int c], _, rfl, e, l', _, _, h', rfl⟩) (δ := [.k CB (bkF kn15), .d (.list (ns.map PyData.int)), .d d_HOME, .u, .u]) ⟨homeL, _, _, home_ok, rfl⟩
  cases r with
  | rt d => exact gr.elim
  | ex t => exact gr.elim
  | nx δ =>
    obtain ⟨l, x3, x4, hl, rfl⟩ := gr
    refine ⟨turnN ((v % 4) % 4).toNat l, hl.turnN _, ?_⟩
    have s1 : sAsg (eC d_HOME) (.nm 2) [.k CB (bkF kn15), .d (.list (ns.map PyData.int)), .u, .u, .u] = some (.nx [.k CB (bkF kn15), .d (.list (ns.map PyData.int)), .d d_HOME, .u, .u]) := rfl
    have s2 : sFor (iB (eSl (eV 1) (pE (eC (.int 2))) (pE (eC (.int 6)))) lsD) (.nm 3) (bF Bh Bn CB) [.k CB (bkF kn15), .d (.list (ns.map PyData.int)), .d d_HOME, .u, .u] = some (.nx [.k CB (bkF kn15), .d (.list (ns.map PyData.int)), .d (.tuple l), x3, x4]) := by
      unfold sFor
      rw [i1, Option.bind_some, hr]
    have a0 : runO 5 CB (gFirst Bh Bn Tn Ca CB) kn15 [.list (ns.map .int)] = outD (gFirst Bh Bn Tn Ca CB [.k CB (bkF kn15), .d (.list (ns.map PyData.int)), .u, .u, .u]) := rfl
    rw [a0]
    unfold gFirst
    rw [sSeq_nx s1, sSeq_nx s2]
    have c1 : eA (gN 2 Ca) (aCons (eV 1) (aCons (eC (.int 2)) aNil)) [.k CB (bkF kn15), .d (.list (ns.map PyData.int)), .d (.tuple l), x3, x4] = some (.int v) := by
      rw [eA_gN (n := 2) (G := Ca) (ds := [.list (ns.map PyData.int), .int 2]) rfl rfl, hv]
    have c2 : e2 modI (eA (gN 2 Ca) (aCons (eV 1) (aCons (eC (.int 2)) aNil))) (eC (.int 4)) [.k CB (bkF kn15), .d (.list (ns.map PyData.int)), .d (.tuple l), x3, x4] = some (.int (v % 4)) := by
      rw [e2_at (y := .int 4) c1 rfl]
      show (if (0:Int) < 4 then some (PyData.int (v % 4)) else none) = _
      exact if_pos (by omega)
    unfold sRet
    rw [eA_gN (n := 2) (G := Tn) (aCons_at (x := .tuple l) (eV_at rfl) (aCons_at c2 rfl)) rfl, hT l _ hl]
    rfl
end
/-! ### what stands in the rows -/
theorem forW_mem {cl : PyData → PyData} {place : Nat} {names0 : List PyData} : ∀ {names : List PyData} {rows : List Rw} {q : Rw}, (∀ x ∈ names, x ∈ names0) → (∀ nm ∈ names, ClOk cl nm) → RwOk rows → place < rows.length → q ∈ forW cl place names rows → q ∈ rows ∨ ∃ l' dep p nm, nm ∈ names0 ∧ q = ⟨l', dep, .int p, nm⟩
  | [], rows, q, _, _, _, _, h => .inl h
  | nm :: nms, rows, q, hs, hn, ho, hp, h => by
    obtain ⟨rs, hc, hr⟩ := hn nm List.mem_cons_self
    obtain ⟨o1, o2⟩ := step_ok (nm := nm) hc hr ho (List.getElem?_eq_getElem hp)
    have hle : rows.length ≤ (stepW (cl nm) place nm rows).length := by
      rcases o2 with e | ⟨l', e⟩
      · rw [e]; exact Nat.le_refl _
      · rw [e, List.length_append]; omega
    rcases forW_mem (names := nms) (fun x hx => hs x (List.mem_cons_of_mem _ hx)) (fun x hx => hn x (List.mem_cons_of_mem _ hx)) o1 (by omega) h with h | h
    · rcases o2 with e | ⟨l', e⟩
      · rw [e] at h; exact .inl h
      · rw [e] at h
        rcases List.mem_append.mp h with h | h
        · exact .inl h
        · exact .inr ⟨l', _, place, nm, hs nm List.mem_cons_self, List.mem_singleton.mp h⟩
    · exact .inr h
theorem whileW_mem {cl : PyData → PyData} {names : List PyData} {L : Int} (hn : ∀ nm ∈ names, ClOk cl nm) : ∀ {n place : Nat} {rows fin : List Rw} {q : Rw}, RwOk rows → whileW cl names L n place rows = some fin → q ∈ fin → q ∈ rows ∨ ∃ l' dep p nm, nm ∈ names ∧ q = ⟨l', dep, .int p, nm⟩
  | 0, _, _, _, _, _, h, _ => by cases h
  | n + 1, place, rows, fin, q, ho, h, hq => by
    unfold whileW at h
    cases hp : rows[place]? with
    | none =>
      simp only [hp] at h
      cases h
      exact .inl hq
    | some r =>
      simp only [hp] at h
      have hlt := (List.getElem?_eq_some_iff.mp hp).1
      by_cases c : r.dep < L
      · rw [if_pos c] at h
        obtain ⟨o1, _⟩ := forW_ok (cl := cl) (place := place) hn ho hlt
        rcases whileW_mem hn o1 h hq with h1 | h1
        · exact forW_mem (fun x hx => hx) hn ho hlt h1
        · exact .inr h1
      · rw [if_neg c] at h
        cases h
        exact .inl hq
/-! ### reached -/
theorem reach_ok {l l0 names : List PyData} {L most : Int} (h : Fl8 l) (e : formL l = .tuple l0) (hn : ∀ d ∈ names, NmOk d) {fin : List Rw} (hw : whileW cl15 names L 100 0 [⟨l0, 0, .none, .none⟩] = some fin) (h1 : 1 ≤ most) (h4 : most ≤ 4000) :
    G_reached F_form F_form_behind G_bcall kn15 [.tuple l, .list names, .int L, .int most] = some (if (fin.length : Int) ≤ most then .ok (.list (fin.map Rw.D)) else .error 3) := by
  have h0 : Fl8 l0 := by
    obtain ⟨m, e', hm⟩ := formL_ok h
    rw [e] at e'
    injection e' with e'
    rw [e']; exact hm
  have hw2 := whileR_ok (calls := fun nm => G_bcall kn15 [nm]) (cl := cl15) (L := L) h4 (fun nm hnm => by
    obtain ⟨n, hn', rfl⟩ := hn nm hnm
    exact cl15_ok hn') (rows := [⟨l0, 0, .none, .none⟩]) (fun q hq => by rw [List.mem_singleton.mp hq]; exact h0) (by simpa using h1) hw
  have hw3 : whileR F_form_behind (fun nm => G_bcall kn15 [nm]) names L most 100 0 [.tuple [.tuple l0, .int 0, .none, .none]] = some (if (fin.length : Int) ≤ most then some (fin.map Rw.D) else none) := hw2
  unfold G_reached
  simp only
  rw [if_neg (by omega), F_form_ok h, Option.bind_some, e, if_pos (okKT_fl h0), hw3]
  by_cases c : (fin.length : Int) ≤ most
  · rw [if_pos c, if_pos c]; rfl
  · rw [if_neg c, if_neg c]; rfl
end SQ
/-! ## SqPe -/
set_option Elab.async false
set_option linter.all false
set_option maxRecDepth 100000
set_option maxHeartbeats 1000000
/-! the plain law, 14: law, up to the names and the length -/
namespace SQ
open PySem PySem.Spec L2 TL
section
variable (Ca Nm : List PyData → Option PyData)
def sN : En → Option Res := (sAsg (e2 modI (e2 mulI (eA (gN 2 Ca) (aCons (eV 0) (aCons (eC (.int 0)) aNil))) (eC (.int 69621))) (eC (.int 2147483629))) (.nm 2))
def sM : En → Option Res := (sAsg (eA (gN 2 Nm) (aCons (e2 divI (eV 2) (eC (.int 4))) (aCons (e2 addI (eC (.int 1)) (e2 modI (eV 2) (eC (.int 4)))) aNil))) (.nm 3))
def sC : En → Option Res := (sAsg (eA (gN 2 Ca) (aCons (eV 0) (aCons (eC (.int 1)) aNil))) (.nm 4))
def sL : En → Option Res := (sAsg (e2 modI (eV 4) (eC (.int 4))) (.nm 5))
def sQ1 : En → Option Res := (sAsg (eSl (eV 3) pN (pE (e2 addI (eC (.int 1)) (e2 modI (e2 divI (eV 2) (eC (.int 60))) (eC (.int 2)))))) (.nm 3))
def sQ2 : En → Option Res := (sAsg (e2 addI (eC (.int 4)) (e2 modI (e2 divI (eV 4) (eC (.int 16))) (e2 ixD (eA lstD (aCons (eC (.int 9)) (aCons (eC (.int 2)) aNil))) (e2 subI (e1 lenD (eV 3)) (eC (.int 1)))))) (.nm 5))
def sQ : En → Option Res := (sIf (cE (e2 eqD (e2 modI (e2 divI (eV 4) (eC (.int 4))) (eC (.int 4))) (eC (.int 1)))) (sSeq sQ1 sQ2) sNil)
end
def dL (sc : PyData) (kn : List (Str × PyData)) (CB : Addr) (x2 x3 x4 x5 x6 x7 x8 x9 x10 x11 : Sl) : En := [.d sc, .k CB (bkF kn), x2, x3, x4, x5, x6, x7, x8, x9, x10, x11]
section
variable {Ca Nm : List PyData → Option PyData} {sc : PyData} {kn : List (Str × PyData)} {CB : Addr} {x2 x3 x4 x5 x6 x7 x8 x9 x10 x11 : Sl} {n c : Int}
theorem modI_at {a b : Int} (h : 0 < b) : modI (.int a) (.int b) = some (.int (a % b)) := by
  show (if 0 < b then some (PyData.int (a % b)) else none) = _
  exact if_pos h
theorem divI_at {a b : Int} (h : 0 < b ∧ b < 1073741824) : divI (.int a) (.int b) = some (.int (a / b)) := by
  show (if 0 < b ∧ b < 1073741824 then some (PyData.int (a / b)) else none) = _
  exact if_pos h
theorem sN_ok {v : Int} (h : Ca [sc, .int 0] = some (.int v)) : sN Ca (dL sc kn CB x2 x3 x4 x5 x6 x7 x8 x9 x10 x11) = some (.nx (dL sc kn CB (.d (.int ((v * 69621) % 2147483629))) x3 x4 x5 x6 x7 x8 x9 x10 x11)) := by
  refine sAsg_at ?_
  have c1 : eA (gN 2 Ca) (aCons (eV 0) (aCons (eC (.int 0)) aNil)) (dL sc kn CB x2 x3 x4 x5 x6 x7 x8 x9 x10 x11) = some (.int v) := by
    rw [eA_gN (n := 2) (G := Ca) (ds := [sc, .int 0]) rfl rfl, h]
  have c2 : e2 mulI (eA (gN 2 Ca) (aCons (eV 0) (aCons (eC (.int 0)) aNil))) (eC (.int 69621)) (dL sc kn CB x2 x3 x4 x5 x6 x7 x8 x9 x10 x11) = some (.int (v * 69621)) := by
    rw [e2_at (y := .int 69621) c1 rfl]
    show (if (-(2 ^ 64) < v ∧ v < 2 ^ 64) ∨ (-(2 ^ 64) < (69621 : Int) ∧ (69621 : Int) < 2 ^ 64) then some (PyData.int (v * 69621)) else none) = _
    exact if_pos (Or.inr (by decide))
  rw [e2_at (y := .int 2147483629) c2 rfl]
  exact modI_at (by decide)
theorem sM_ok {ns : PyData} (h : Nm [.int (n / 4), .int (1 + n % 4)] = some ns) : sM Nm (dL sc kn CB (.d (.int n)) x3 x4 x5 x6 x7 x8 x9 x10 x11) = some (.nx (dL sc kn CB (.d (.int n)) (.d ns) x4 x5 x6 x7 x8 x9 x10 x11)) := by
  refine sAsg_at ?_
  have d1 : e2 divI (eV 2) (eC (.int 4)) (dL sc kn CB (.d (.int n)) x3 x4 x5 x6 x7 x8 x9 x10 x11) = some (.int (n / 4)) := by
    rw [e2_at (x := .int n) (y := .int 4) rfl rfl]
    exact divI_at (by decide)
  have d2 : e2 modI (eV 2) (eC (.int 4)) (dL sc kn CB (.d (.int n)) x3 x4 x5 x6 x7 x8 x9 x10 x11) = some (.int (n % 4)) := by
    rw [e2_at (x := .int n) (y := .int 4) rfl rfl]
    exact modI_at (by decide)
  have d3 : e2 addI (eC (.int 1)) (e2 modI (eV 2) (eC (.int 4))) (dL sc kn CB (.d (.int n)) x3 x4 x5 x6 x7 x8 x9 x10 x11) = some (.int (1 + n % 4)) := by
    rw [e2_at (x := .int 1) (y := .int (n % 4)) rfl d2]
    rfl
  rw [eA_gN (n := 2) (G := Nm) (aCons_at d1 (aCons_at d3 rfl)) rfl, h]
theorem sC_ok {v : Int} (h : Ca [sc, .int 1] = some (.int v)) : sC Ca (dL sc kn CB x2 x3 x4 x5 x6 x7 x8 x9 x10 x11) = some (.nx (dL sc kn CB x2 x3 (.d (.int v)) x5 x6 x7 x8 x9 x10 x11)) := by
  refine sAsg_at ?_
  rw [eA_gN (n := 2) (G := Ca) (ds := [sc, .int 1]) rfl rfl, h]
theorem sL_ok : sL (dL sc kn CB x2 x3 (.d (.int c)) x5 x6 x7 x8 x9 x10 x11) = some (.nx (dL sc kn CB x2 x3 (.d (.int c)) (.d (.int (c % 4))) x6 x7 x8 x9 x10 x11)) := by
  refine sAsg_at ?_
  rw [e2_at (x := .int c) (y := .int 4) rfl rfl]
  exact modI_at (by decide)
theorem T_le : ∀ m < 5, ∀ k < 13, (m = 1 ∧ k ≤ 12) ∨ (m = 2 ∧ k ≤ 5) ∨ k ≤ 3 → T m k ≤ 85 := by decide
theorem T_leI {m : Nat} {L : Int} (h : (m = 1 ∧ L ≤ 12) ∨ (m = 2 ∧ L ≤ 5) ∨ (m ≤ 4 ∧ L ≤ 3)) : T m L.toNat ≤ 85 := T_le m (by omega) L.toNat (by omega) (by omega)
def NL (names : List PyData) (L : Int) : Prop := 0 ≤ L ∧ T names.length L.toNat ≤ 85 ∧ ∀ d ∈ names, NmOk d
theorem sQ_ok {names : List PyData} (h1 : (names.length : Int) = 1 + n % 4) (hn : ∀ d ∈ names, NmOk d) :
    ∃ names' L, NL names' L ∧ sQ (dL sc kn CB (.d (.int n)) (.d (.list names)) (.d (.int c)) (.d (.int (c % 4))) x6 x7 x8 x9 x10 x11) = some (.nx (dL sc kn CB (.d (.int n)) (.d (.list names')) (.d (.int c)) (.d (.int L)) x6 x7 x8 x9 x10 x11)) := by
  have d1 : e2 divI (eV 4) (eC (.int 4)) (dL sc kn CB (.d (.int n)) (.d (.list names)) (.d (.int c)) (.d (.int (c % 4))) x6 x7 x8 x9 x10 x11) = some (.int (c / 4)) := by
    rw [e2_at (x := .int c) (y := .int 4) rfl rfl]
    exact divI_at (by decide)
  have d2 : e2 modI (e2 divI (eV 4) (eC (.int 4))) (eC (.int 4)) (dL sc kn CB (.d (.int n)) (.d (.list names)) (.d (.int c)) (.d (.int (c % 4))) x6 x7 x8 x9 x10 x11) = some (.int (c / 4 % 4)) := by
    rw [e2_at (y := .int 4) d1 rfl]
    exact modI_at (by decide)
  have d3 : cE (e2 eqD (e2 modI (e2 divI (eV 4) (eC (.int 4))) (eC (.int 4))) (eC (.int 1))) (dL sc kn CB (.d (.int n)) (.d (.list names)) (.d (.int c)) (.d (.int (c % 4))) x6 x7 x8 x9 x10 x11) = some (PyData.eqv (.int (c / 4 % 4)) (.int 1)) := by
    unfold cE
    rw [e2_at (y := .int 1) d2 rfl]
    rfl
  generalize PyData.eqv (.int (c / 4 % 4)) (.int 1) = b at d3
  cases b with
  | false =>
    refine ⟨names, c % 4, ⟨by omega, T_leI (by omega), hn⟩, ?_⟩
    unfold sQ sIf
    rw [d3]
    rfl
  | true =>
    obtain ⟨k, hk⟩ : ∃ k : Nat, (k : Int) = 1 + n / 60 % 2 := ⟨(1 + n / 60 % 2).toNat, by omega⟩
    have a1 : e2 divI (eV 2) (eC (.int 60)) (dL sc kn CB (.d (.int n)) (.d (.list names)) (.d (.int c)) (.d (.int (c % 4))) x6 x7 x8 x9 x10 x11) = some (.int (n / 60)) := by
      rw [e2_at (x := .int n) (y := .int 60) rfl rfl]
      exact divI_at (by decide)
    have a2 : e2 modI (e2 divI (eV 2) (eC (.int 60))) (eC (.int 2)) (dL sc kn CB (.d (.int n)) (.d (.list names)) (.d (.int c)) (.d (.int (c % 4))) x6 x7 x8 x9 x10 x11) = some (.int (n / 60 % 2)) := by
      rw [e2_at (y := .int 2) a1 rfl]
      exact modI_at (by decide)
    have a3 : e2 addI (eC (.int 1)) (e2 modI (e2 divI (eV 2) (eC (.int 60))) (eC (.int 2))) (dL sc kn CB (.d (.int n)) (.d (.list names)) (.d (.int c)) (.d (.int (c % 4))) x6 x7 x8 x9 x10 x11) = some (.int k) := by
      rw [e2_at (x := .int 1) (y := .int (n / 60 % 2)) rfl a2, hk]
      rfl
    have a4 : eSl (eV 3) pN (pE (e2 addI (eC (.int 1)) (e2 modI (e2 divI (eV 2) (eC (.int 60))) (eC (.int 2))))) (dL sc kn CB (.d (.int n)) (.d (.list names)) (.d (.int c)) (.d (.int (c % 4))) x6 x7 x8 x9 x10 x11) = some (.list (names.take k)) := by
      unfold eSl pE
      rw [a3]
      show some (PyData.list (cutL names none (some (k : Int)))) = _
      unfold cutL
      rw [HT.sIx_none, HT.sIx_nat, List.drop_zero, Nat.sub_zero]
      congr 2
      by_cases hle : k ≤ names.length
      · rw [Nat.min_eq_left hle]
      · rw [Nat.min_eq_right (by omega), List.take_length, List.take_of_length_le (by omega)]
    have hm : (names.take k).length = 1 ∨ (names.take k).length = 2 := by
      rw [List.length_take]
      omega
    have hn' : ∀ d ∈ names.take k, NmOk d := fun d hd => hn d (List.mem_of_mem_take hd)
    generalize names.take k = nm at a4 hm hn'
    have s1 : sQ1 (dL sc kn CB (.d (.int n)) (.d (.list names)) (.d (.int c)) (.d (.int (c % 4))) x6 x7 x8 x9 x10 x11) = some (.nx (dL sc kn CB (.d (.int n)) (.d (.list nm)) (.d (.int c)) (.d (.int (c % 4))) x6 x7 x8 x9 x10 x11)) := sAsg_at a4
    have b1 : e2 divI (eV 4) (eC (.int 16)) (dL sc kn CB (.d (.int n)) (.d (.list nm)) (.d (.int c)) (.d (.int (c % 4))) x6 x7 x8 x9 x10 x11) = some (.int (c / 16)) := by
      rw [e2_at (x := .int c) (y := .int 16) rfl rfl]
      exact divI_at (by decide)
    have b2 : e2 ixD (eA lstD (aCons (eC (.int 9)) (aCons (eC (.int 2)) aNil))) (e2 subI (e1 lenD (eV 3)) (eC (.int 1))) (dL sc kn CB (.d (.int n)) (.d (.list nm)) (.d (.int c)) (.d (.int (c % 4))) x6 x7 x8 x9 x10 x11) = some (.int (if nm.length = 1 then 9 else 2)) := by
      have e0 : eA lstD (aCons (eC (.int 9)) (aCons (eC (.int 2)) aNil)) (dL sc kn CB (.d (.int n)) (.d (.list nm)) (.d (.int c)) (.d (.int (c % 4))) x6 x7 x8 x9 x10 x11) = some (.list [.int 9, .int 2]) := by
        show (if [PyData.int 9, PyData.int 2].length ≤ sizeLine then some (PyData.list [PyData.int 9, PyData.int 2]) else none) = _
        exact if_pos (by decide)
      have e1' : e2 subI (e1 lenD (eV 3)) (eC (.int 1)) (dL sc kn CB (.d (.int n)) (.d (.list nm)) (.d (.int c)) (.d (.int (c % 4))) x6 x7 x8 x9 x10 x11) = some (.int ((nm.length : Int) - 1)) := rfl
      rw [e2_at e0 e1']
      rcases hm with e | e <;> rw [e] <;> rfl
    have b3 : e2 modI (e2 divI (eV 4) (eC (.int 16))) (e2 ixD (eA lstD (aCons (eC (.int 9)) (aCons (eC (.int 2)) aNil))) (e2 subI (e1 lenD (eV 3)) (eC (.int 1)))) (dL sc kn CB (.d (.int n)) (.d (.list nm)) (.d (.int c)) (.d (.int (c % 4))) x6 x7 x8 x9 x10 x11) = some (.int (c / 16 % (if nm.length = 1 then 9 else 2))) := by
      rw [e2_at b1 b2]
      exact modI_at (by split <;> decide)
    have s2 : sQ2 (dL sc kn CB (.d (.int n)) (.d (.list nm)) (.d (.int c)) (.d (.int (c % 4))) x6 x7 x8 x9 x10 x11) = some (.nx (dL sc kn CB (.d (.int n)) (.d (.list nm)) (.d (.int c)) (.d (.int (4 + c / 16 % (if nm.length = 1 then 9 else 2)))) x6 x7 x8 x9 x10 x11)) := by
      refine sAsg_at ?_
      rw [e2_at (x := .int 4) rfl b3]
      rfl
    refine ⟨nm, 4 + c / 16 % (if nm.length = 1 then 9 else 2), ⟨?_, T_leI ?_, hn'⟩, ?_⟩
    · split <;> omega
    · split <;> omega
    · unfold sQ sIf
      rw [d3, Option.bind_some, if_pos rfl, sSeq_nx s1, s2]
end
end SQ
/-! ## SqPf -/
set_option Elab.async false
set_option linter.all false
set_option maxRecDepth 100000
set_option maxHeartbeats 1000000
/-! the plain law, 15: law, from the first floor on -/
namespace SQ
open PySem PySem.Spec L2 TL
section
variable (Of Or : List (Str × PyData) → List PyData → Option PyData) (Tn : List PyData → Option PyData) (G : List (Str × PyData) → List PyData → Option (Except Nat PyData)) (CB : Addr)
def u6 : En → Option Res := (sAsg (eFnB CB 1 1 Of (aCons (eV 0) aNil)) (.nm 6))
def u7 : En → Option Res := (sAsg (eFnB CB 1 3 Or (aCons (eV 6) (aCons (eV 3) (aCons (eV 5) aNil)))) (.nm 7))
def u8 : En → Option Res := (sAsg (e1 listD (eV 3)) (.nm 8))
def u9 : En → Option Res := (sAsg (eRch CB 1 [.int 2000] G (aCons (eV 6) (aCons (eV 8) (aCons (eV 5) aNil)))) (.nm 9))
def uI : En → Option Res := (sIf (cOr (cNot (cE (e1 (isI "list") (eV 9)))) (cOr (cE (e2 neD (eV 9) (eV 7))) (cE (e2 neD (eV 8) (eV 3)))))
  (sRet (eC (.bool false)))
  sNil)
def uB : En → Option Res := (sIf (cOr (cNot (cE (e1 (isI "tuple") (eV 10)))) (cOr (cE (e1 (isI "bool") (e2 ixD (eV 10) (eC (.int 1))))) (cE (e1 (isI "bool") (e2 ixD (eV 10) (eC (.int 2)))))))
  (sRet (eC (.bool false)))
  sNil)
def uF : En → Option Res := (sFor (iB (eV 9) lsD) (.nm 10) uB)
def uJ : En → Option Res := (sIf (cE (e2 neD (eRch CB 1 [] G (aCons (eV 6) (aCons (eV 3) (aCons (eV 5) (aCons (e1 lenD (eV 7)) aNil))))) (eV 7)))
  (sRet (eC (.bool false)))
  sNil)
def uK : En → Option Res := (sIf (cE (e2 neD (eRch CB 1 [.int 2000] G (aCons (eA (gN 2 Tn) (aCons (eV 6) (aCons (e2 addI (eC (.int 1)) (e2 modI (eV 2) (eC (.int 3)))) aNil))) (aCons (eV 3) (aCons (eV 5) aNil)))) (eV 7)))
  (sRet (eC (.bool false)))
  sNil)
def uM : En → Option Res := (sIf (cE (e2 eqD (e1 lenD (eV 7)) (eC (.int 1))))
  (sRet (eC (.bool true)))
  sNil)
def uS : En → Option Res := (sAsg (eC (.bool false)) (.nm 11))
def uT : En → Option Res := (sTry sNone (nRch CB 1 G (aCons (eV 6) (aCons (eV 3) (aCons (eV 5) (aCons (e2 subI (e1 lenD (eV 7)) (eC (.int 1))) aNil))))) (hdT 11) sNil)
def gTail : En → Option Res := sSeq (u6 Of CB) (sSeq (u7 Or CB) (sSeq u8 (sSeq (u9 G CB) (sSeq uI (sSeq uF (sSeq (uJ G CB) (sSeq (uK Tn G CB) (sSeq uM (sSeq uS (sSeq (uT G CB) (sRet (eV 11))))))))))))
def gLaw (Ca Nm : List PyData → Option PyData) : En → Option Res := sSeq (sBook 1 CB kn15) (sSeq (sN Ca) (sSeq (sM Nm) (sSeq (sC Ca) (sSeq sL (sSeq sQ (gTail Of Or Tn G CB))))))
end
theorem g_law_eq (CB : Addr) (G : List (Str × PyData) → List PyData → Option (Except Nat PyData)) : g_law CB kn15 G = gLaw (O__law_first CB) (O__law_rows CB) F_turned G CB F__law_cell_at F__law_names := rfl
theorem eFnB_at {C : Addr} {i n : Nat} {G : List (Str × PyData) → List PyData → Option PyData} {ga : En → Option (List PyData)} {δ : En} {kn : List (Str × PyData)} {ds : List PyData} (h : δ[i]? = some (.k C (bkF kn))) (h1 : ga δ = some ds) (h2 : ds.length = n) : eFnB C i n G ga δ = G kn ds := by
  unfold eFnB
  rw [eB_at h, Option.bind_some, h1, Option.bind_some, if_pos h2]
theorem eRch_at {C : Addr} {i : Nat} {dfl : List PyData} {G : List (Str × PyData) → List PyData → Option (Except Nat PyData)} {ga : En → Option (List PyData)} {δ : En} {kn : List (Str × PyData)} {ds : List PyData} {d : PyData} (h : δ[i]? = some (.k C (bkF kn))) (h1 : ga δ = some ds) (h2 : (ds ++ dfl).length = 4) (h3 : G kn (ds ++ dfl) = some (.ok d)) : eRch C i dfl G ga δ = some d := by
  unfold eRch
  rw [eB_at h, Option.bind_some, h1, Option.bind_some, if_pos h2, h3]
  rfl
theorem nRch_at {C : Addr} {i : Nat} {G : List (Str × PyData) → List PyData → Option (Except Nat PyData)} {ga : En → Option (List PyData)} {δ : En} {kn : List (Str × PyData)} {ds : List PyData} {t : Nat} (h : δ[i]? = some (.k C (bkF kn))) (h1 : ga δ = some ds) (h2 : ds.length = 4) (h3 : G kn ds = some (.error t)) : nRch C i G ga δ = some t := by
  unfold nRch
  rw [eB_at h, Option.bind_some, h1, Option.bind_some, if_pos h2, h3]
  rfl
theorem sh_can {d : PyData} (h : SeqAt.shaped d = true) : d.canLay0 = true := by
  unfold SeqAt.shaped at h
  exact (Bool.and_eq_true_iff.mp h).1
theorem neD_same {d : PyData} (h : SeqAt.shaped d = true) : neD d d = some (.bool false) := by
  unfold neD
  rw [if_pos ⟨h, h⟩, PySem.SeqAt.eqv_refl d (sh_can h)]
  rfl
theorem sIf_no {c : En → Option Bool} {f : En → Option Res} {δ : En} (h : c δ = some false) : sIf c f sNil δ = some (.nx δ) := by
  unfold sIf
  rw [h]
  rfl
theorem cE_ne {f g : En → Option PyData} {δ : En} {d : PyData} (h1 : f δ = some d) (h2 : g δ = some d) (h : SeqAt.shaped d = true) : cE (e2 neD f g) δ = some false := by
  unfold cE
  rw [e2_at h1 h2, neD_same h]
  rfl
theorem cOr_no {c d : En → Option Bool} {δ : En} (h1 : c δ = some false) (h2 : d δ = some false) : cOr c d δ = some false := by
  unfold cOr
  rw [h1, Option.bind_some, if_neg (by decide), h2]
theorem cI_no {T : String} {f : En → Option PyData} {δ : En} {d : PyData} (h1 : f δ = some d) (h : isI T d = some (.bool true)) : cNot (cE (e1 (isI T) f)) δ = some false := by
  unfold cNot cE
  rw [e1_at h1, h]
  rfl
theorem cI_is {T : String} {f : En → Option PyData} {δ : En} {d : PyData} (h1 : f δ = some d) (h : isI T d = some (.bool false)) : cE (e1 (isI T) f) δ = some false := by
  unfold cE
  rw [e1_at h1, h]
  rfl
def RowI (d : PyData) : Prop := ∃ a b u e, d = .tuple [a, .int b, u, e] ∧ (u = .none ∨ ∃ p : Int, u = .int p)
section
variable {Of Or : List (Str × PyData) → List PyData → Option PyData} {Tn : List PyData → Option PyData} {G : List (Str × PyData) → List PyData → Option (Except Nat PyData)} {CB : Addr} {kn : List (Str × PyData)} {sc x2 x4 : PyData} {n L : Int} {names R l l' : List PyData} {y6 y7 y8 y9 y10 y11 : Sl}
theorem uB_ok {ns : PyData} {d : PyData} (h : RowI d) : uB (dL sc kn CB (.d (.int n)) (.d ns) (.d x4) (.d (.int L)) y6 y7 y8 y9 (.d d) y11) = some (.nx (dL sc kn CB (.d (.int n)) (.d ns) (.d x4) (.d (.int L)) y6 y7 y8 y9 (.d d) y11)) := by
  obtain ⟨a, b, u, e, rfl, hu⟩ := h
  refine sIf_no (cOr_no (cI_no (d := .tuple [a, .int b, u, e]) (eV_at rfl) (by rfl)) (cOr_no (cI_is (d := .int b) ?_ (by rfl)) (cI_is (d := u) ?_ ?_)))
  · rw [e2_at (x := .tuple [a, .int b, u, e]) (y := .int 1) rfl rfl]
    exact atI_nat (n := 1) rfl
  · rw [e2_at (x := .tuple [a, .int b, u, e]) (y := .int 2) rfl rfl]
    exact atI_nat (n := 2) rfl
  · rcases hu with rfl | ⟨p, rfl⟩ <;> rfl
theorem tail_ok (hOf : Of kn [sc] = some (.tuple l)) (hOr : Or kn [.tuple l, .list names, .int L] = some (.list R)) (hT : Tn [.tuple l, .int (1 + n % 3)] = some (.tuple l'))
    (hG1 : G kn [.tuple l, .list names, .int L, .int 2000] = some (.ok (.list R))) (hG2 : G kn [.tuple l', .list names, .int L, .int 2000] = some (.ok (.list R))) (hG3 : G kn [.tuple l, .list names, .int L, .int R.length] = some (.ok (.list R)))
    (hG4 : R.length ≠ 1 → G kn [.tuple l, .list names, .int L, .int ((R.length : Int) - 1)] = some (.error 3)) (hsR : SeqAt.shaped (.list R) = true) (hsN : SeqAt.shaped (.list names) = true) (hR : ∀ d ∈ R, RowI d) :
    outD (gTail Of Or Tn G CB (dL sc kn CB (.d (.int n)) (.d (.list names)) (.d x4) (.d (.int L)) .u .u .u .u .u .u)) = some (.bool true) := by
  have s6 : u6 Of CB (dL sc kn CB (.d (.int n)) (.d (.list names)) (.d x4) (.d (.int L)) .u .u .u .u .u .u) = some (.nx (dL sc kn CB (.d (.int n)) (.d (.list names)) (.d x4) (.d (.int L)) (.d (.tuple l)) .u .u .u .u .u)) := by
    refine sAsg_at ?_
    rw [eFnB_at (kn := kn) (n := 1) (ds := [sc]) rfl rfl rfl, hOf]
  have s7 : u7 Or CB (dL sc kn CB (.d (.int n)) (.d (.list names)) (.d x4) (.d (.int L)) (.d (.tuple l)) .u .u .u .u .u) = some (.nx (dL sc kn CB (.d (.int n)) (.d (.list names)) (.d x4) (.d (.int L)) (.d (.tuple l)) (.d (.list R)) .u .u .u .u)) := by
    refine sAsg_at ?_
    rw [eFnB_at (kn := kn) (n := 3) (ds := [.tuple l, .list names, .int L]) rfl rfl rfl, hOr]
  have s8 : u8 (dL sc kn CB (.d (.int n)) (.d (.list names)) (.d x4) (.d (.int L)) (.d (.tuple l)) (.d (.list R)) .u .u .u .u) = some (.nx (dL sc kn CB (.d (.int n)) (.d (.list names)) (.d x4) (.d (.int L)) (.d (.tuple l)) (.d (.list R)) (.d (.list names)) .u .u .u)) := sAsg_at rfl
  have s9 : u9 G CB (dL sc kn CB (.d (.int n)) (.d (.list names)) (.d x4) (.d (.int L)) (.d (.tuple l)) (.d (.list R)) (.d (.list names)) .u .u .u) = some (.nx (dL sc kn CB (.d (.int n)) (.d (.list names)) (.d x4) (.d (.int L)) (.d (.tuple l)) (.d (.list R)) (.d (.list names)) (.d (.list R)) .u .u)) :=
    sAsg_at (eRch_at (kn := kn) (ds := [.tuple l, .list names, .int L]) rfl rfl rfl hG1)
  have sI : uI (dL sc kn CB (.d (.int n)) (.d (.list names)) (.d x4) (.d (.int L)) (.d (.tuple l)) (.d (.list R)) (.d (.list names)) (.d (.list R)) .u .u) = some (.nx (dL sc kn CB (.d (.int n)) (.d (.list names)) (.d x4) (.d (.int L)) (.d (.tuple l)) (.d (.list R)) (.d (.list names)) (.d (.list R)) .u .u)) :=
    sIf_no (cOr_no (cI_no (d := .list R) (eV_at rfl) (by rfl)) (cOr_no (cE_ne (d := .list R) (eV_at rfl) (eV_at rfl) hsR) (cE_ne (d := .list names) (eV_at rfl) (eV_at rfl) hsN)))
  obtain ⟨r, hr, gr⟩ := forD_inv (T := .nm 10) (body := uB) (its := R) (Inv := fun δ => ∃ y, δ = dL sc kn CB (.d (.int n)) (.d (.list names)) (.d x4) (.d (.int L)) (.d (.tuple l)) (.d (.list R)) (.d (.list names)) (.d (.list R)) y .u) (Ret := fun _ => False) (Ex := fun _ => False)
    (fun d hd δ hδ => by
      obtain ⟨y, rfl⟩ := hδ
      exact ⟨[d], _, rfl, uB_ok (hR d hd), _, rfl⟩) (δ := dL sc kn CB (.d (.int n)) (.d (.list names)) (.d x4) (.d (.int L)) (.d (.tuple l)) (.d (.list R)) (.d (.list names)) (.d (.list R)) .u .u) ⟨_, rfl⟩
  cases r with
  | rt d => exact gr.elim
  | ex t => exact gr.elim
  | nx δ =>
    obtain ⟨y, rfl⟩ := gr
    have sF : uF (dL sc kn CB (.d (.int n)) (.d (.list names)) (.d x4) (.d (.int L)) (.d (.tuple l)) (.d (.list R)) (.d (.list names)) (.d (.list R)) .u .u) = some (.nx (dL sc kn CB (.d (.int n)) (.d (.list names)) (.d x4) (.d (.int L)) (.d (.tuple l)) (.d (.list R)) (.d (.list names)) (.d (.list R)) y .u)) := by
      have i1 : iB (eV 9) lsD (dL sc kn CB (.d (.int n)) (.d (.list names)) (.d x4) (.d (.int L)) (.d (.tuple l)) (.d (.list R)) (.d (.list names)) (.d (.list R)) .u .u) = some R := rfl
      unfold uF sFor
      rw [i1, Option.bind_some, hr]
    have sJ : uJ G CB (dL sc kn CB (.d (.int n)) (.d (.list names)) (.d x4) (.d (.int L)) (.d (.tuple l)) (.d (.list R)) (.d (.list names)) (.d (.list R)) y .u) = some (.nx (dL sc kn CB (.d (.int n)) (.d (.list names)) (.d x4) (.d (.int L)) (.d (.tuple l)) (.d (.list R)) (.d (.list names)) (.d (.list R)) y .u)) :=
      sIf_no (cE_ne (d := .list R) (eRch_at (kn := kn) (ds := [.tuple l, .list names, .int L, .int R.length]) rfl rfl rfl hG3) (eV_at rfl) hsR)
    have k1 : e2 modI (eV 2) (eC (.int 3)) (dL sc kn CB (.d (.int n)) (.d (.list names)) (.d x4) (.d (.int L)) (.d (.tuple l)) (.d (.list R)) (.d (.list names)) (.d (.list R)) y .u) = some (.int (n % 3)) := by
      rw [e2_at (x := .int n) (y := .int 3) rfl rfl]
      exact modI_at (by decide)
    have k2 : e2 addI (eC (.int 1)) (e2 modI (eV 2) (eC (.int 3))) (dL sc kn CB (.d (.int n)) (.d (.list names)) (.d x4) (.d (.int L)) (.d (.tuple l)) (.d (.list R)) (.d (.list names)) (.d (.list R)) y .u) = some (.int (1 + n % 3)) := by
      rw [e2_at (x := .int 1) rfl k1]
      rfl
    have k3 : eA (gN 2 Tn) (aCons (eV 6) (aCons (e2 addI (eC (.int 1)) (e2 modI (eV 2) (eC (.int 3)))) aNil)) (dL sc kn CB (.d (.int n)) (.d (.list names)) (.d x4) (.d (.int L)) (.d (.tuple l)) (.d (.list R)) (.d (.list names)) (.d (.list R)) y .u) = some (.tuple l') := by
      rw [eA_gN (n := 2) (G := Tn) (aCons_at (x := .tuple l) (eV_at rfl) (aCons_at k2 rfl)) rfl, hT]
    have sK : uK Tn G CB (dL sc kn CB (.d (.int n)) (.d (.list names)) (.d x4) (.d (.int L)) (.d (.tuple l)) (.d (.list R)) (.d (.list names)) (.d (.list R)) y .u) = some (.nx (dL sc kn CB (.d (.int n)) (.d (.list names)) (.d x4) (.d (.int L)) (.d (.tuple l)) (.d (.list R)) (.d (.list names)) (.d (.list R)) y .u)) :=
      sIf_no (cE_ne (d := .list R) (eRch_at (kn := kn) (ds := [.tuple l', .list names, .int L]) rfl (aCons_at k3 rfl) rfl hG2) (eV_at rfl) hsR)
    have m1 : cE (e2 eqD (e1 lenD (eV 7)) (eC (.int 1))) (dL sc kn CB (.d (.int n)) (.d (.list names)) (.d x4) (.d (.int L)) (.d (.tuple l)) (.d (.list R)) (.d (.list names)) (.d (.list R)) y .u) = some (PyData.eqv (.int (R.length : Int)) (.int 1)) := rfl
    unfold gTail
    rw [sSeq_nx s6, sSeq_nx s7, sSeq_nx s8, sSeq_nx s9, sSeq_nx sI, sSeq_nx sF, sSeq_nx sJ, sSeq_nx sK]
    by_cases c1 : R.length = 1
    · have sM' : uM (dL sc kn CB (.d (.int n)) (.d (.list names)) (.d x4) (.d (.int L)) (.d (.tuple l)) (.d (.list R)) (.d (.list names)) (.d (.list R)) y .u) = some (.rt (.bool true)) := by
        unfold uM sIf
        rw [m1, c1]
        rfl
      unfold sSeq
      rw [sM']
      rfl
    · have sM' : uM (dL sc kn CB (.d (.int n)) (.d (.list names)) (.d x4) (.d (.int L)) (.d (.tuple l)) (.d (.list R)) (.d (.list names)) (.d (.list R)) y .u) = some (.nx (dL sc kn CB (.d (.int n)) (.d (.list names)) (.d x4) (.d (.int L)) (.d (.tuple l)) (.d (.list R)) (.d (.list names)) (.d (.list R)) y .u)) := by
        refine sIf_no ?_
        rw [m1]
        have : PyData.eqv (.int (R.length : Int)) (.int 1) = false := by
          simp only [PyData.eqv, decide_eq_false_iff_not, beq_eq_false_iff_ne, ne_eq]
          omega
        rw [this]
      have sS : uS (dL sc kn CB (.d (.int n)) (.d (.list names)) (.d x4) (.d (.int L)) (.d (.tuple l)) (.d (.list R)) (.d (.list names)) (.d (.list R)) y .u) = some (.nx (dL sc kn CB (.d (.int n)) (.d (.list names)) (.d x4) (.d (.int L)) (.d (.tuple l)) (.d (.list R)) (.d (.list names)) (.d (.list R)) y (.d (.bool false)))) := sAsg_at rfl
      have n1 : nRch CB 1 G (aCons (eV 6) (aCons (eV 3) (aCons (eV 5) (aCons (e2 subI (e1 lenD (eV 7)) (eC (.int 1))) aNil)))) (dL sc kn CB (.d (.int n)) (.d (.list names)) (.d x4) (.d (.int L)) (.d (.tuple l)) (.d (.list R)) (.d (.list names)) (.d (.list R)) y (.d (.bool false))) = some 3 :=
        nRch_at (kn := kn) (ds := [.tuple l, .list names, .int L, .int ((R.length : Int) - 1)]) rfl rfl rfl (hG4 c1)
      have sT : uT G CB (dL sc kn CB (.d (.int n)) (.d (.list names)) (.d x4) (.d (.int L)) (.d (.tuple l)) (.d (.list R)) (.d (.list names)) (.d (.list R)) y (.d (.bool false))) = some (.nx (dL sc kn CB (.d (.int n)) (.d (.list names)) (.d x4) (.d (.int L)) (.d (.tuple l)) (.d (.list R)) (.d (.list names)) (.d (.list R)) y (.d (.bool true)))) := by
        unfold uT sTry
        show Option.bind _ _ = _
        rw [n1]
        rfl
      rw [sSeq_nx sM', sSeq_nx sS, sSeq_nx sT]
      rfl
end
end SQ
/-! ## SqPg -/
set_option Elab.async false
set_option linter.all false
set_option maxRecDepth 100000
set_option maxHeartbeats 1000000
/-! the plain law, 16: law answers True -/
namespace SQ
open PySem PySem.Spec L2 TL
def RwG (q : Rw) : Prop := Fl8 q.fl ∧ (q.up = .none ∨ ∃ p : Int, q.up = .int p) ∧ (q.nm = .none ∨ NmOk q.nm)
theorem strOk15 : ∀ n ∈ nms15, (PyData.str n).canLay0 = true := fun n h => List.all_eq_true.mp (show nms15.all (fun n => (PyData.str n).canLay0) = true by decide +kernel) n h
theorem NmOk.lay {d : PyData} (h : NmOk d) : d.canLay0 = true ∧ d.depth ≤ 1 := by
  obtain ⟨n, hn, rfl⟩ := h
  exact ⟨strOk15 n hn, by simp [PyData.depth]⟩
theorem names_lay : ∀ {names : List PyData}, (∀ d ∈ names, NmOk d) → PyData.canLayAll0 names = true ∧ PyData.depthAll names ≤ 1
  | [], _ => ⟨rfl, by simp [PyData.depthAll]⟩
  | d :: ds, h => by
    obtain ⟨a, b⟩ := (h d List.mem_cons_self).lay
    obtain ⟨e1, e2⟩ := names_lay (names := ds) fun x hx => h x (List.mem_cons_of_mem _ hx)
    exact ⟨by simp [PyData.canLayAll0, a, e1], by simp [PyData.depthAll]; omega⟩
theorem shaped_names {names : List PyData} (h : ∀ d ∈ names, NmOk d) : SeqAt.shaped (.list names) = true := by
  obtain ⟨e, d⟩ := names_lay h
  unfold SeqAt.shaped
  rw [Bool.and_eq_true]
  exact ⟨by unfold PyData.canLay0; exact e, decide_eq_true (by simp [PyData.depth]; omega)⟩
theorem RwG.lay {q : Rw} (h : RwG q) : q.D.canLay0 = true ∧ q.D.depth ≤ 5 := by
  obtain ⟨h1, h2, h3⟩ := h
  have c := canLay_stands h1.2
  have d := depth_stands h1.2
  have u : q.up.canLay0 = true ∧ q.up.depth ≤ 1 := by
    rcases h2 with e | ⟨p, e⟩ <;> rw [e] <;> exact ⟨rfl, by simp [PyData.depth]⟩
  have v : q.nm.canLay0 = true ∧ q.nm.depth ≤ 1 := by
    rcases h3 with e | e
    · rw [e]; exact ⟨rfl, by simp [PyData.depth]⟩
    · exact e.lay
  refine ⟨?_, ?_⟩
  · simp [Rw.D, PyData.canLay0, PyData.canLayAll0, c, u.1, v.1]
  · have := u.2
    have := v.2
    simp [Rw.D, PyData.depth, PyData.depthAll]
    omega
theorem rows_lay : ∀ {rows : List Rw}, (∀ q ∈ rows, RwG q) → PyData.canLayAll0 (rows.map Rw.D) = true ∧ PyData.depthAll (rows.map Rw.D) ≤ 5
  | [], _ => ⟨rfl, by simp [PyData.depthAll]⟩
  | r :: rows, h => by
    obtain ⟨a, b⟩ := (h r List.mem_cons_self).lay
    obtain ⟨e1, e2⟩ := rows_lay (rows := rows) fun x hx => h x (List.mem_cons_of_mem _ hx)
    exact ⟨by simp [PyData.canLayAll0, a, e1], by simp [PyData.depthAll]; omega⟩
theorem shaped_rows {rows : List Rw} (h : ∀ q ∈ rows, RwG q) : SeqAt.shaped (.list (rows.map Rw.D)) = true := by
  obtain ⟨e, d⟩ := rows_lay h
  unfold SeqAt.shaped
  rw [Bool.and_eq_true]
  exact ⟨by unfold PyData.canLay0; exact e, decide_eq_true (by simp [PyData.depth]; omega)⟩
theorem gLaw_ok {Of Or : List (Str × PyData) → List PyData → Option PyData} {Tn Ca Nm : List PyData → Option PyData} {G : List (Str × PyData) → List PyData → Option (Except Nat PyData)} {CB : Addr} {sc : PyData}
    (hC0 : ∃ v : Int, Ca [sc, .int 0] = some (.int v)) (hC1 : ∃ v : Int, Ca [sc, .int 1] = some (.int v))
    (hNm : ∀ z many : Int, 0 ≤ z → 1 ≤ many → many ≤ 4 → ∃ names, Nm [.int z, .int many] = some (.list names) ∧ (names.length : Int) = many ∧ ∀ d ∈ names, NmOk d)
    (hOf : ∃ l, Fl8 l ∧ Of kn15 [sc] = some (.tuple l))
    (hOr : ∀ (l l0 names : List PyData) (L : Int) (fin : List Rw), Fl8 l → formL l = .tuple l0 → (∀ d ∈ names, NmOk d) → whileW cl15 names L 100 0 [⟨l0, 0, .none, .none⟩] = some fin → fin.length ≤ 4000 → Or kn15 [.tuple l, .list names, .int L] = some (.list (fin.map Rw.D)))
    (hT : ∀ l k, Fl8 l → Tn [.tuple l, .int k] = some (.tuple (turnN (k % 4).toNat l)))
    (hG : ∀ (l l0 names : List PyData) (L most : Int) (fin : List Rw), Fl8 l → formL l = .tuple l0 → (∀ d ∈ names, NmOk d) → whileW cl15 names L 100 0 [⟨l0, 0, .none, .none⟩] = some fin → 1 ≤ most → most ≤ 4000 → G kn15 [.tuple l, .list names, .int L, .int most] = some (if (fin.length : Int) ≤ most then .ok (.list (fin.map Rw.D)) else .error 3)) :
    runG 12 (gLaw Of Or Tn G CB Ca Nm) [sc] = some (.bool true) := by
  obtain ⟨v0, hv0⟩ := hC0
  obtain ⟨v1, hv1⟩ := hC1
  obtain ⟨l, hl, hf⟩ := hOf
  have a0 : runG 12 (gLaw Of Or Tn G CB Ca Nm) [sc] = outD (gLaw Of Or Tn G CB Ca Nm [.d sc, .u, .u, .u, .u, .u, .u, .u, .u, .u, .u, .u]) := rfl
  have s1 : sBook 1 CB kn15 [.d sc, .u, .u, .u, .u, .u, .u, .u, .u, .u, .u, .u] = some (.nx (dL sc kn15 CB .u .u .u .u .u .u .u .u .u .u)) := rfl
  rw [a0]
  unfold gLaw
  rw [sSeq_nx s1, sSeq_nx (sN_ok hv0)]
  have hn0 : 0 ≤ (v0 * 69621) % 2147483629 := Int.emod_nonneg _ (by decide)
  generalize (v0 * 69621) % 2147483629 = n at hn0
  obtain ⟨names0, hN, hlen, hno⟩ := hNm (n / 4) (1 + n % 4) (by omega) (by omega) (by omega)
  obtain ⟨names, L, ⟨hL, hT85, hnm⟩, hq⟩ := sQ_ok (sc := sc) (kn := kn15) (CB := CB) (c := v1) (x6 := .u) (x7 := .u) (x8 := .u) (x9 := .u) (x10 := .u) (x11 := .u) hlen hno
  rw [sSeq_nx (sM_ok hN), sSeq_nx (sC_ok hv1), sSeq_nx sL_ok, sSeq_nx hq]
  obtain ⟨l0, e0, h0⟩ := formL_ok hl
  have hcl : ∀ nm ∈ names, ClOk cl15 nm := fun nm hnm' => by
    obtain ⟨m, hm, rfl⟩ := hnm nm hnm'
    exact (cl15_ok hm).2
  have ho : RwOk [⟨l0, 0, .none, .none⟩] := fun q hq' => by rw [List.mem_singleton.mp hq']; exact h0
  obtain ⟨fin, hw, hfl, _⟩ := whileW_end (cl := cl15) (names := names) (L := L) (Bd := 85) hcl (n := 100) (place := 0) (rows := [⟨l0, 0, .none, .none⟩]) ho
    (fun q hq' => by rw [List.mem_singleton.mp hq']; exact ⟨Int.le_refl _, hL⟩) (by simp) (by simpa [pot] using hT85) (by omega)
  obtain ⟨hle, hfo⟩ := whileW_le hcl ho hw
  have hge : 1 ≤ fin.length := by simpa using hle
  have hrw : ∀ q ∈ fin, RwG q := fun q hq' => by
    refine ⟨hfo q hq', ?_⟩
    rcases whileW_mem hcl ho hw hq' with h | ⟨l', dep, p, nm, hnm', rfl⟩
    · rw [List.mem_singleton.mp h]
      exact ⟨.inl rfl, .inl rfl⟩
    · exact ⟨.inr ⟨_, rfl⟩, .inr (hnm nm hnm')⟩
  have hlR : (fin.map Rw.D).length = fin.length := List.length_map _
  refine tail_ok (l := l) (l' := turnN ((1 + n % 3) % 4).toNat l) (R := fin.map Rw.D) hf (hOr l l0 names L fin hl e0 hnm hw (by omega)) (hT l _ hl) ?_ ?_ ?_ ?_ (shaped_rows hrw) (shaped_names hnm) ?_
  · rw [hG l l0 names L 2000 fin hl e0 hnm hw (by decide) (by decide), if_pos (by omega)]
  · rw [hG _ l0 names L 2000 fin (hl.turnN _) (by rw [formL_turnN _ hl, e0]) hnm hw (by decide) (by decide), if_pos (by omega)]
  · rw [hlR, hG l l0 names L _ fin hl e0 hnm hw (by omega) (by omega), if_pos (by omega)]
  · intro hne
    rw [hlR] at hne ⊢
    rw [hG l l0 names L _ fin hl e0 hnm hw (by omega) (by omega), if_neg (by omega)]
  · intro d hd
    obtain ⟨q, hq', rfl⟩ := List.mem_map.mp hd
    obtain ⟨_, hu, _⟩ := hrw q hq'
    exact ⟨_, _, _, _, rfl, hu⟩
theorem F_law_ok (CB : Addr) (ns : List Int) : F_law CB kn15 (G_reached F_form F_form_behind G_bcall) [.list (ns.map .int)] = some (.bool true) := by
  have hB : ∀ n ∈ nms15, ∀ l, Fl8 l → O__law_behind CB kn15 [.tuple l, .str n] = some (behD (beh (cl15 (.str n)) l)) := fun n hn l hl => by
    obtain ⟨hc, rs, e, hr⟩ := cl15_ok hn
    rw [e] at hc ⊢
    exact O_behind_ok hl hr hc
  have a0 : F_law CB kn15 (G_reached F_form F_form_behind G_bcall) [.list (ns.map .int)] = runG 12 (g_law CB kn15 (G_reached F_form F_form_behind G_bcall)) [.list (ns.map .int)] := rfl
  rw [a0, g_law_eq]
  refine gLaw_ok ?_ ?_ ?_ ?_ ?_ ?_ ?_
  · exact cell_ok ns 0
  · exact cell_ok ns 1
  · exact fun z many h1 h2 h3 => law_names_ok h1 h2 h3
  · obtain ⟨l, hl, h⟩ := gFirst_ok (CB := CB) hB (bnames_ok CB) (fun l k hl => F_turned_ok hl k) (ns := ns) (cell_ok ns 2)
    exact ⟨l, hl, h⟩
  · intro l l0 names L fin hl e hn hw hle
    exact gRows_ok (CB := CB) (fun l hl => F_form_ok hl) (cl := cl15) (fun nm hnm => by
      obtain ⟨m, hm, rfl⟩ := hn nm hnm
      exact ⟨(cl15_ok hm).2, hB m hm⟩) hl e hw hle
  · exact fun l k hl => F_turned_ok hl k
  · exact fun l l0 names L most fin hl e hn hw h1 h4 => reach_ok hl e hn hw h1 h4
end SQ
/-! ## SqCk -/
set_option Elab.async false
set_option linter.all false
set_option maxRecDepth 100000
set_option maxHeartbeats 1000000
/-! what the head tells more: the top's constants -/
namespace SQ
open PySem PySem.Spec PyProof.Rows L2 SQH
mutual
theorem cstB_ok {K : PySem.W.Frag} : ∀ {d : PyData} {u : Value}, cstB K d u = true → ∃ v, RelV v u ∧ ∀ H, Dp K H v d
  | .int i, u, h => by
    unfold cstB at h
    split at h
    · rename_i j t
      have e : j = i := of_decide_eq_true h
      exact ⟨.int i, ⟨t, by rw [e]⟩, fun H => .int i⟩
    · cases h
  | .str x, u, h => by
    unfold cstB at h
    split at h
    · rename_i y t
      have e : y = x := of_decide_eq_true h
      exact ⟨.str x, ⟨t, by rw [e]⟩, fun H => .str x⟩
    · cases h
  | .tuple ds, u, h => by
    unfold cstB at h
    split at h
    · rename_i a
      split at h
      · rename_i c od its n sl q
        obtain ⟨h1, h2⟩ := He.ba h
        obtain ⟨h3, h4⟩ := He.ba h2
        obtain ⟨vs, hv, hd⟩ := cstL_ok h4
        exact ⟨.ref a, rfl, fun H => .tup (.inr ⟨_, its, n, q, congrArg Value.type (of_decide_eq_true h1), rfl, of_decide_eq_true h3, hv⟩) (hd H)⟩
      · cases h
    · cases h
  | .none, u, h => by unfold cstB at h; cases h
  | .bool b, u, h => by unfold cstB at h; cases h
  | .list ds, u, h => by unfold cstB at h; cases h
  | .dict ds, u, h => by unfold cstB at h; cases h
theorem cstL_ok {K : PySem.W.Frag} : ∀ {ds : List PyData} {us : List Value}, cstL K ds us = true → ∃ vs, Vals vs us ∧ ∀ H, DpAll K H vs ds
  | [], us, h => by
    unfold cstL at h
    rw [List.isEmpty_iff.mp h]
    exact ⟨[], .nil, fun H => .nil⟩
  | d :: ds, us, h => by
    unfold cstL at h
    split at h
    · rename_i u us'
      obtain ⟨h1, h2⟩ := He.ba h
      obtain ⟨v, r, dd⟩ := cstB_ok h1
      obtain ⟨vs, rs, ddd⟩ := cstL_ok h2
      exact ⟨v :: vs, .cons r rs, fun H => .cons (dd H) (ddd H)⟩
    · cases h
end
theorem cst_ok {K : PySem.W.Frag} {h : Heap} {mg : Str → Option Value} (X : K.In h) (G : h.Ns mainGlobals mg) {x : Str} {d : PyData} (c : gloB K (x, d) = true) : Cst K mg x d := by
  unfold gloB at c
  split at c
  · rename_i u e
    obtain ⟨v, r, dd⟩ := cstB_ok c
    exact ⟨v, u, PySem.W.mg_of X G e, r, dd⟩
  · cases c
/-! ### the errors' classes -/
theorem slB_ok {l : List (Option Value)} (h : slB l = true) : ∃ k0 k1 k2 k3 k5, l = [k0, k1, k2, k3, some (.builtin "ValueError.__new__"), k5] := by
  unfold slB at h
  split at h
  · rename_i a b c d n e
    have q : n = "ValueError.__new__" := of_decide_eq_true h
    rw [q]
    exact ⟨_, _, _, _, _, rfl⟩
  · cases h
theorem oex_ok {K : PySem.W.Frag} {C : Addr} (h : oexB K C = true) : OexC K C := by
  obtain ⟨h1, h⟩ := He.ba h
  obtain ⟨h2, h⟩ := He.ba h
  obtain ⟨h3, h⟩ := He.ba h
  obtain ⟨h4, h5⟩ := He.ba h
  refine ⟨?_, He.eqO_ok h2, of_decide_eq_true h3, of_decide_eq_true h4, h5⟩
  unfold vexB at h1
  split at h1
  · rename_i c od nm bs C' bm N q hd sn sub ab col hdel sl e
    obtain ⟨g1, h1⟩ := He.ba h1
    obtain ⟨g2, h1⟩ := He.ba h1
    obtain ⟨g3, h1⟩ := He.ba h1
    obtain ⟨g4, h1⟩ := He.ba h1
    obtain ⟨g5, g6⟩ := He.ba h1
    have e1 : c = "type" := of_decide_eq_true g1
    have e2 : C' = C := of_decide_eq_true g2
    have e3 : hd = true := g3
    have e4 : hdel = false := by cases hdel <;> first | rfl | cases g4
    obtain ⟨k0, k1, k2, k3, k5, e5⟩ := slB_ok g6
    obtain ⟨sl⟩ := sl
    have e6 : sl = [k0, k1, k2, k3, some (.builtin "ValueError.__new__"), k5] := e5
    rw [e1, e2, e3, e4, e6] at e
    exact ⟨nm, q, N, bs, bm, sn, sub, ab, col, od, k0, k1, k2, k3, k5, e, g5⟩
  · cases h1
theorem err_ok {P : Program} {w : World} {K : PySem.W.Frag} {mg : Str → Option Value} {base : Heap} {x : Str} {fs ps : List Str} {sp : Sp} (h : errB K x fs = true) (g : mg x = some (.ref (He.ga K x))) {fd : FuncData} (F : FnOk P w K mg base CX0 1 (He.ma K (He.ga K x) "__init__") fd ps sp) (b : Binds K fd ps []) :
    ErrK P w K mg base x (He.ga K x) ps sp ∧ ∀ f ∈ fs, PySem.W.findIn K (.ref (He.ga K x)) f = some none := by
  obtain ⟨h1, h⟩ := He.ba h
  obtain ⟨h2, h⟩ := He.ba h
  obtain ⟨h3, h4⟩ := He.ba h
  exact ⟨⟨g, oex_ok h1, _, fd, He.eqO_ok h2, of_decide_eq_true h3, F, b⟩, fun f hf => He.eqO_ok (List.all_eq_true.mp h4 f hf)⟩
theorem fle_ok {K : PySem.W.Frag} {mg : Str → Option Value} (h : fleB K = true) (g : mg "FloorError" = some (.ref (He.ga K "FloorError"))) : FlE K mg := by
  obtain ⟨h1, h⟩ := He.ba h
  obtain ⟨h2, h3⟩ := He.ba h
  refine ⟨_, g, h1, He.eqO_ok h2, ?_⟩
  split at h3
  · rename_i n e
    have q : n = "ValueError.__init__" := of_decide_eq_true h3
    rw [e, q]
  · cases h3
theorem too_ok {K : PySem.W.Frag} {mg : Str → Option Value} (h : (He.Fa.exc "TooMany").ok K = true) (g : mg "TooMany" = some (.ref (He.ga K "TooMany"))) : TooM K mg (He.ga K "TooMany") := by
  obtain ⟨h1, h2, h3, h4⟩ := He.exc_ok h
  exact ⟨g, ⟨He.veBase, h1, PySem.F.excBase_ValueError⟩, h2, h3, h4⟩
end SQ
/-! ## SqH2 -/
set_option Elab.async false
set_option linter.all false
set_option maxRecDepth 100000
set_option maxHeartbeats 1000000
/-! the defs from the head's facts (printed by mkh2.py) -/
namespace SQ
open PySem PySem.Spec PyProof.Rows L2 SQH
theorem fun_of {K : PySem.W.Frag} {x qual : Str} {st : Stmt} {f : Addr} {fd : FuncData} (F : FunD K x qual (defArgs st) (defBody st) (defScope st) [] [] f fd) : Fun K x qual st f fd := by
  obtain ⟨oc, od, dV, kV, doc, pm, an, cdv, ct, osl, rfl, lk, hcd, hD, hK⟩ := F.ex
  rcases hD with ⟨_, rfl⟩ | ⟨e, _⟩
  · exact ⟨⟨oc, od, kV, doc, pm, an, cdv, ct, osl, rfl, lk, hcd⟩, F.kp⟩
  · exact absurd rfl e
theorem dfn_mk {K : PySem.W.Frag} {h : Heap} {mg : Str → Option Value} {x : Str} {st : Stmt} {ps : List Str} (X : K.In h) (G : h.Ns mainGlobals mg) (g : (He.Fa.glo x).ok K = true) (F : ∃ fd, FunD K x x (defArgs st) (defBody st) (defScope st) [] [] (He.ga K x) fd)
    (b : ∀ (kV doc pm : Value) (an : Option Addr) (cdv ct : Value) (us : List Value), us.length = ps.length → bindArgs (PySem.W.fnOf x x (defArgs st) (defBody st) (defScope st) .none kV doc pm an cdv ct) ⟨us, []⟩ = pure (ps.zip us)) : Dfn K mg x st ps := by
  obtain ⟨fd, F⟩ := F
  exact ⟨_, fd, fun_of F, He.glo_ok X G g, F.bindsN b⟩
section
variable {w : World} {K : PySem.W.Frag} {h : Heap} {mg : Str → Option Value}
theorem dfn__law_behind (X : K.In h) (G : h.Ns mainGlobals mg) (c : He.SaysD fa fn K) : Dfn K mg "_law_behind" (top 70) ["_law_book", "_law_floor", "_law_name"] :=
  dfn_mk X G (c.fact 14 (f := .glo "_law_behind") rfl) (c.def_ 0 (d := ⟨("_law_behind", none), "_law_behind", "_law_behind", defArgs (top 70), defBody (top 70), defScope (top 70), [], []⟩) rfl) fun _ _ _ _ _ _ us hl => match us, hl with | [_, _, _], _ => rfl
theorem dfn__law_cell_at (X : K.In h) (G : h.Ns mainGlobals mg) (c : He.SaysD fa fn K) : Dfn K mg "_law_cell_at" (top 67) ["_law_script", "_law_k"] :=
  dfn_mk X G (c.fact 15 (f := .glo "_law_cell_at") rfl) (c.def_ 1 (d := ⟨("_law_cell_at", none), "_law_cell_at", "_law_cell_at", defArgs (top 67), defBody (top 67), defScope (top 67), [], []⟩) rfl) fun _ _ _ _ _ _ us hl => match us, hl with | [_, _], _ => rfl
theorem dfn__law_first (X : K.In h) (G : h.Ns mainGlobals mg) (c : He.SaysD fa fn K) : Dfn K mg "_law_first" (top 72) ["_law_book", "_law_script"] :=
  dfn_mk X G (c.fact 16 (f := .glo "_law_first") rfl) (c.def_ 2 (d := ⟨("_law_first", none), "_law_first", "_law_first", defArgs (top 72), defBody (top 72), defScope (top 72), [], []⟩) rfl) fun _ _ _ _ _ _ us hl => match us, hl with | [_, _], _ => rfl
theorem dfn__law_names (X : K.In h) (G : h.Ns mainGlobals mg) (c : He.SaysD fa fn K) : Dfn K mg "_law_names" (top 69) ["_law_number", "_law_many"] :=
  dfn_mk X G (c.fact 17 (f := .glo "_law_names") rfl) (c.def_ 3 (d := ⟨("_law_names", none), "_law_names", "_law_names", defArgs (top 69), defBody (top 69), defScope (top 69), [], []⟩) rfl) fun _ _ _ _ _ _ us hl => match us, hl with | [_, _], _ => rfl
theorem dfn__law_rows (X : K.In h) (G : h.Ns mainGlobals mg) (c : He.SaysD fa fn K) : Dfn K mg "_law_rows" (top 71) ["_law_book", "_law_floor", "_law_names_here", "_law_length"] :=
  dfn_mk X G (c.fact 18 (f := .glo "_law_rows") rfl) (c.def_ 4 (d := ⟨("_law_rows", none), "_law_rows", "_law_rows", defArgs (top 71), defBody (top 71), defScope (top 71), [], []⟩) rfl) fun _ _ _ _ _ _ us hl => match us, hl with | [_, _, _, _], _ => rfl
theorem dfn_drift (X : K.In h) (G : h.Ns mainGlobals mg) (c : He.SaysD fa fn K) : Dfn K mg "drift" (top 24) ["stand", "word"] :=
  dfn_mk X G (c.fact 20 (f := .glo "drift") rfl) (c.def_ 6 (d := ⟨("drift", none), "drift", "drift", defArgs (top 24), defBody (top 24), defScope (top 24), [], []⟩) rfl) fun _ _ _ _ _ _ us hl => match us, hl with | [_, _], _ => rfl
theorem dfn_faces (X : K.In h) (G : h.Ns mainGlobals mg) (c : He.SaysD fa fn K) : Dfn K mg "faces" (top 25) ["own", "other", "word"] :=
  dfn_mk X G (c.fact 21 (f := .glo "faces") rfl) (c.def_ 7 (d := ⟨("faces", none), "faces", "faces", defArgs (top 25), defBody (top 25), defScope (top 25), [], []⟩) rfl) fun _ _ _ _ _ _ us hl => match us, hl with | [_, _, _], _ => rfl
theorem dfn_form (X : K.In h) (G : h.Ns mainGlobals mg) (c : He.SaysD fa fn K) : Dfn K mg "form" (top 38) ["floor"] :=
  dfn_mk X G (c.fact 22 (f := .glo "form") rfl) (c.def_ 8 (d := ⟨("form", none), "form", "form", defArgs (top 38), defBody (top 38), defScope (top 38), [], []⟩) rfl) fun _ _ _ _ _ _ us hl => match us, hl with | [_], _ => rfl
theorem dfn_form_behind (X : K.In h) (G : h.Ns mainGlobals mg) (c : He.SaysD fa fn K) : Dfn K mg "form_behind" (top 40) ["floor", "call"] :=
  dfn_mk X G (c.fact 23 (f := .glo "form_behind") rfl) (c.def_ 9 (d := ⟨("form_behind", none), "form_behind", "form_behind", defArgs (top 40), defBody (top 40), defScope (top 40), [], []⟩) rfl) fun _ _ _ _ _ _ us hl => match us, hl with | [_, _], _ => rfl
theorem dfn_holds (X : K.In h) (G : h.Ns mainGlobals mg) (c : He.SaysD fa fn K) : Dfn K mg "holds" (top 27) ["floor", "dancer", "test"] :=
  dfn_mk X G (c.fact 24 (f := .glo "holds") rfl) (c.def_ 10 (d := ⟨("holds", none), "holds", "holds", defArgs (top 27), defBody (top 27), defScope (top 27), [], []⟩) rfl) fun _ _ _ _ _ _ us hl => match us, hl with | [_, _, _], _ => rfl
theorem dfn_is_call_name (X : K.In h) (G : h.Ns mainGlobals mg) (c : He.SaysD fa fn K) : Dfn K mg "is_call_name" (top 64) ["thing"] :=
  dfn_mk X G (c.fact 25 (f := .glo "is_call_name") rfl) (c.def_ 11 (d := ⟨("is_call_name", none), "is_call_name", "is_call_name", defArgs (top 64), defBody (top 64), defScope (top 64), [], []⟩) rfl) fun _ _ _ _ _ _ us hl => match us, hl with | [_], _ => rfl
theorem dfn_is_inner (X : K.In h) (G : h.Ns mainGlobals mg) (c : He.SaysD fa fn K) : Dfn K mg "is_inner" (top 23) ["stand", "most"] :=
  dfn_mk X G (c.fact 26 (f := .glo "is_inner") rfl) (c.def_ 12 (d := ⟨("is_inner", none), "is_inner", "is_inner", defArgs (top 23), defBody (top 23), defScope (top 23), [], []⟩) rfl) fun _ _ _ _ _ _ us hl => match us, hl with | [_, _], _ => rfl
theorem dfn_is_of (X : K.In h) (G : h.Ns mainGlobals mg) (c : He.SaysD fa fn K) : Dfn K mg "is_of" (top 22) ["dancer", "word"] :=
  dfn_mk X G (c.fact 27 (f := .glo "is_of") rfl) (c.def_ 13 (d := ⟨("is_of", none), "is_of", "is_of", defArgs (top 22), defBody (top 22), defScope (top 22), [], []⟩) rfl) fun _ _ _ _ _ _ us hl => match us, hl with | [_, _], _ => rfl
theorem dfn_is_spot (X : K.In h) (G : h.Ns mainGlobals mg) (c : He.SaysD fa fn K) : Dfn K mg "is_spot" (top 14) ["spot"] :=
  dfn_mk X G (c.fact 28 (f := .glo "is_spot") rfl) (c.def_ 14 (d := ⟨("is_spot", none), "is_spot", "is_spot", defArgs (top 14), defBody (top 14), defScope (top 14), [], []⟩) rfl) fun _ _ _ _ _ _ us hl => match us, hl with | [_], _ => rfl
theorem dfn_is_stand (X : K.In h) (G : h.Ns mainGlobals mg) (c : He.SaysD fa fn K) : Dfn K mg "is_stand" (top 15) ["thing"] :=
  dfn_mk X G (c.fact 29 (f := .glo "is_stand") rfl) (c.def_ 15 (d := ⟨("is_stand", none), "is_stand", "is_stand", defArgs (top 15), defBody (top 15), defScope (top 15), [], []⟩) rfl) fun _ _ _ _ _ _ us hl => match us, hl with | [_], _ => rfl
theorem dfn_is_whole (X : K.In h) (G : h.Ns mainGlobals mg) (c : He.SaysD fa fn K) : Dfn K mg "is_whole" (top 13) ["thing"] :=
  dfn_mk X G (c.fact 30 (f := .glo "is_whole") rfl) (c.def_ 16 (d := ⟨("is_whole", none), "is_whole", "is_whole", defArgs (top 13), defBody (top 13), defScope (top 13), [], []⟩) rfl) fun _ _ _ _ _ _ us hl => match us, hl with | [_], _ => rfl
theorem dfn_law (X : K.In h) (G : h.Ns mainGlobals mg) (c : He.SaysD fa fn K) : Dfn K mg "law" (top 73) ["_law_script"] :=
  dfn_mk X G (c.fact 31 (f := .glo "law") rfl) (c.def_ 17 (d := ⟨("law", none), "law", "law", defArgs (top 73), defBody (top 73), defScope (top 73), [], []⟩) rfl) fun _ _ _ _ _ _ us hl => match us, hl with | [_], _ => rfl
theorem dfn_look_at_spots (X : K.In h) (G : h.Ns mainGlobals mg) (c : He.SaysD fa fn K) : Dfn K mg "look_at_spots" (top 34) ["floor"] :=
  dfn_mk X G (c.fact 32 (f := .glo "look_at_spots") rfl) (c.def_ 18 (d := ⟨("look_at_spots", none), "look_at_spots", "look_at_spots", defArgs (top 34), defBody (top 34), defScope (top 34), [], []⟩) rfl) fun _ _ _ _ _ _ us hl => match us, hl with | [_], _ => rfl
theorem dfn_look_at_way (X : K.In h) (G : h.Ns mainGlobals mg) (c : He.SaysD fa fn K) : Dfn K mg "look_at_way" (top 32) ["dancer", "way"] :=
  dfn_mk X G (c.fact 33 (f := .glo "look_at_way") rfl) (c.def_ 19 (d := ⟨("look_at_way", none), "look_at_way", "look_at_way", defArgs (top 32), defBody (top 32), defScope (top 32), [], []⟩) rfl) fun _ _ _ _ _ _ us hl => match us, hl with | [_, _], _ => rfl
theorem dfn_number_in (X : K.In h) (G : h.Ns mainGlobals mg) (c : He.SaysD fa fn K) : Dfn K mg "number_in" (top 52) ["word", "low", "high"] :=
  dfn_mk X G (c.fact 34 (f := .glo "number_in") rfl) (c.def_ 20 (d := ⟨("number_in", none), "number_in", "number_in", defArgs (top 52), defBody (top 52), defScope (top 52), [], []⟩) rfl) fun _ _ _ _ _ _ us hl => match us, hl with | [_, _, _], _ => rfl
theorem dfn_opposite (X : K.In h) (G : h.Ns mainGlobals mg) (c : He.SaysD fa fn K) : Dfn K mg "opposite" (top 19) ["dancer"] :=
  dfn_mk X G (c.fact 35 (f := .glo "opposite") rfl) (c.def_ 21 (d := ⟨("opposite", none), "opposite", "opposite", defArgs (top 19), defBody (top 19), defScope (top 19), [], []⟩) rfl) fun _ _ _ _ _ _ us hl => match us, hl with | [_], _ => rfl
theorem dfn_partner (X : K.In h) (G : h.Ns mainGlobals mg) (c : He.SaysD fa fn K) : Dfn K mg "partner" (top 18) ["dancer"] :=
  dfn_mk X G (c.fact 36 (f := .glo "partner") rfl) (c.def_ 22 (d := ⟨("partner", none), "partner", "partner", defArgs (top 18), defBody (top 18), defScope (top 18), [], []⟩) rfl) fun _ _ _ _ _ _ us hl => match us, hl with | [_], _ => rfl
theorem dfn_plain_test (X : K.In h) (G : h.Ns mainGlobals mg) (c : He.SaysD fa fn K) : Dfn K mg "plain_test" (top 54) ["words", "at"] :=
  dfn_mk X G (c.fact 37 (f := .glo "plain_test") rfl) (c.def_ 23 (d := ⟨("plain_test", none), "plain_test", "plain_test", defArgs (top 54), defBody (top 54), defScope (top 54), [], []⟩) rfl) fun _ _ _ _ _ _ us hl => match us, hl with | [_, _], _ => rfl
theorem dfn_read_call (X : K.In h) (G : h.Ns mainGlobals mg) (c : He.SaysD fa fn K) : Dfn K mg "read_call" (top 59) ["text"] :=
  dfn_mk X G (c.fact 38 (f := .glo "read_call") rfl) (c.def_ 24 (d := ⟨("read_call", none), "read_call", "read_call", defArgs (top 59), defBody (top 59), defScope (top 59), [], []⟩) rfl) fun _ _ _ _ _ _ us hl => match us, hl with | [_], _ => rfl
theorem dfn_read_rule (X : K.In h) (G : h.Ns mainGlobals mg) (c : He.SaysD fa fn K) : Dfn K mg "read_rule" (top 58) ["words"] :=
  dfn_mk X G (c.fact 39 (f := .glo "read_rule") rfl) (c.def_ 25 (d := ⟨("read_rule", none), "read_rule", "read_rule", defArgs (top 58), defBody (top 58), defScope (top 58), [], []⟩) rfl) fun _ _ _ _ _ _ us hl => match us, hl with | [_], _ => rfl
theorem dfn_read_steps (X : K.In h) (G : h.Ns mainGlobals mg) (c : He.SaysD fa fn K) : Dfn K mg "read_steps" (top 57) ["words"] :=
  dfn_mk X G (c.fact 40 (f := .glo "read_steps") rfl) (c.def_ 26 (d := ⟨("read_steps", none), "read_steps", "read_steps", defArgs (top 57), defBody (top 57), defScope (top 57), [], []⟩) rfl) fun _ _ _ _ _ _ us hl => match us, hl with | [_], _ => rfl
theorem dfn_read_tests (X : K.In h) (G : h.Ns mainGlobals mg) (c : He.SaysD fa fn K) : Dfn K mg "read_tests" (top 56) ["words"] :=
  dfn_mk X G (c.fact 41 (f := .glo "read_tests") rfl) (c.def_ 27 (d := ⟨("read_tests", none), "read_tests", "read_tests", defArgs (top 56), defBody (top 56), defScope (top 56), [], []⟩) rfl) fun _ _ _ _ _ _ us hl => match us, hl with | [_], _ => rfl
theorem dfn_rule_for (X : K.In h) (G : h.Ns mainGlobals mg) (c : He.SaysD fa fn K) : Dfn K mg "rule_for" (top 28) ["floor", "dancer", "call"] :=
  dfn_mk X G (c.fact 42 (f := .glo "rule_for") rfl) (c.def_ 28 (d := ⟨("rule_for", none), "rule_for", "rule_for", defArgs (top 28), defBody (top 28), defScope (top 28), [], []⟩) rfl) fun _ _ _ _ _ _ us hl => match us, hl with | [_, _, _], _ => rfl
theorem dfn_sees (X : K.In h) (G : h.Ns mainGlobals mg) (c : He.SaysD fa fn K) : Dfn K mg "sees" (top 26) ["floor", "dancer", "spot", "what"] :=
  dfn_mk X G (c.fact 43 (f := .glo "sees") rfl) (c.def_ 29 (d := ⟨("sees", none), "sees", "sees", defArgs (top 26), defBody (top 26), defScope (top 26), [], []⟩) rfl) fun _ _ _ _ _ _ us hl => match us, hl with | [_, _, _, _], _ => rfl
theorem dfn_spot_from (X : K.In h) (G : h.Ns mainGlobals mg) (c : He.SaysD fa fn K) : Dfn K mg "spot_from" (top 16) ["stand", "ahead", "right"] :=
  dfn_mk X G (c.fact 44 (f := .glo "spot_from") rfl) (c.def_ 30 (d := ⟨("spot_from", none), "spot_from", "spot_from", defArgs (top 16), defBody (top 16), defScope (top 16), [], []⟩) rfl) fun _ _ _ _ _ _ us hl => match us, hl with | [_, _, _], _ => rfl
theorem dfn_stepped (X : K.In h) (G : h.Ns mainGlobals mg) (c : He.SaysD fa fn K) : Dfn K mg "stepped" (top 30) ["stand", "step"] :=
  dfn_mk X G (c.fact 45 (f := .glo "stepped") rfl) (c.def_ 31 (d := ⟨("stepped", none), "stepped", "stepped", defArgs (top 30), defBody (top 30), defScope (top 30), [], []⟩) rfl) fun _ _ _ _ _ _ us hl => match us, hl with | [_, _], _ => rfl
theorem dfn_test_from (X : K.In h) (G : h.Ns mainGlobals mg) (c : He.SaysD fa fn K) : Dfn K mg "test_from" (top 55) ["words", "at"] :=
  dfn_mk X G (c.fact 46 (f := .glo "test_from") rfl) (c.def_ 32 (d := ⟨("test_from", none), "test_from", "test_from", defArgs (top 55), defBody (top 55), defScope (top 55), [], []⟩) rfl) fun _ _ _ _ _ _ us hl => match us, hl with | [_, _], _ => rfl
theorem dfn_turned (X : K.In h) (G : h.Ns mainGlobals mg) (c : He.SaysD fa fn K) : Dfn K mg "turned" (top 37) ["floor", "quarters"] :=
  dfn_mk X G (c.fact 47 (f := .glo "turned") rfl) (c.def_ 33 (d := ⟨("turned", none), "turned", "turned", defArgs (top 37), defBody (top 37), defScope (top 37), [], []⟩) rfl) fun _ _ _ _ _ _ us hl => match us, hl with | [_, _], _ => rfl
theorem dfn_way_of (X : K.In h) (G : h.Ns mainGlobals mg) (c : He.SaysD fa fn K) : Dfn K mg "way_of" (top 31) ["stand", "steps"] :=
  dfn_mk X G (c.fact 48 (f := .glo "way_of") rfl) (c.def_ 34 (d := ⟨("way_of", none), "way_of", "way_of", defArgs (top 31), defBody (top 31), defScope (top 31), [], []⟩) rfl) fun _ _ _ _ _ _ us hl => match us, hl with | [_, _], _ => rfl
theorem dfn_who_at (X : K.In h) (G : h.Ns mainGlobals mg) (c : He.SaysD fa fn K) : Dfn K mg "who_at" (top 17) ["floor", "spot"] :=
  dfn_mk X G (c.fact 50 (f := .glo "who_at") rfl) (c.def_ 36 (d := ⟨("who_at", none), "who_at", "who_at", defArgs (top 17), defBody (top 17), defScope (top 17), [], []⟩) rfl) fun _ _ _ _ _ _ us hl => match us, hl with | [_, _], _ => rfl
theorem dfn_word_at (X : K.In h) (G : h.Ns mainGlobals mg) (c : He.SaysD fa fn K) : Dfn K mg "word_at" (top 53) ["words", "at"] :=
  dfn_mk X G (c.fact 51 (f := .glo "word_at") rfl) (c.def_ 37 (d := ⟨("word_at", none), "word_at", "word_at", defArgs (top 53), defBody (top 53), defScope (top 53), [], []⟩) rfl) fun _ _ _ _ _ _ us hl => match us, hl with | [_, _], _ => rfl
end
end SQ
/-! ## SqLc -/
set_option Elab.async false
set_option linter.all false
set_option maxRecDepth 100000
set_option maxHeartbeats 4000000
namespace SQ
open PySem PySem.Spec L2 TL
open PyProof.Rows (envOfC)
section
variable {P : Program} {w : World} {K : PySem.W.Frag} {mg : Str → Option Value} {base : Heap}
theorem ok_law {f : Addr} {fd : FuncData} {CB : Addr} {kn : List (Str × PyData)} {G_rch : List (Str × PyData) → List PyData → Option (Except Nat PyData)} {cls : Nat → Value} (B : Bt K w mg) (F : Fun K "law" "law" (top 73) f fd) (h__law_cell_at : FnD P w K mg base 1 "_law_cell_at" 2 F__law_cell_at) (h__law_names : FnD P w K mg base 3 "_law_names" 2 F__law_names) (h__law_first : FnB P w K mg base 9 "_law_first" CB 1 (O__law_first CB)) (h__law_rows : FnB P w K mg base 9 "_law_rows" CB 3 (O__law_rows CB)) (h_turned : FnD P w K mg base 1 "turned" 2 F_turned) {fT fI CT : Addr} {fdT fdI : FuncData} {psI : List Str} (h_reached : FnR4 P w K mg base cls 11 CB G_rch) (FT : FnOk P w K mg base CX0 2 fT fdT [] spLT) (mT : mg "_law_texts" = some (.ref fT)) (kT : PySem.W.keepIn K (.ref fT) = true) (bT : Binds K fdT [] []) (MB : Mk K CB fI) (FB : FnOk P w K mg base CX0 7 fI fdI psI (spBI K CB kn)) (gB : mg "Book" = some (.ref CB)) (bB : Binds K fdI psI []) (TM : TooM K mg CT) (hex : PySem.W.exmOne K (cls 3) (.ref CT) = some true) : FnOk P w K mg base CX0 12 f fd ["_law_script"] (spD K 1 (F_law CB kn G_rch)) :=
  ok_pure F sc_law fun cdv A outer s H E hr => by
    have S := sc_law
    exact (PSs.imp (t := tS K E0 cls (g_law CB kn G_rch)) ((ds_cons (ds_book (i := 1) FT (hr.mono (by decide)) mT kT bT (by rfl) MB FB (hr.mono (by decide)) gB bB (by rfl) S.nd)
    (ds_cons (ds_set (i := 2) S.nd (d_op od_modI (d_op od_mulI (d_fn h__law_cell_at (hr.mono (by decide)) (da_cons (dv 0) (da_cons d_int da_nil))) d_int) d_int))
    (ds_cons (ds_set (i := 3) S.nd (d_fn h__law_names (hr.mono (by decide)) (da_cons (d_op od_divI (dv 2) d_int) (da_cons (d_op od_addI d_int (d_op od_modI (dv 2) d_int)) da_nil))))
    (ds_cons (ds_set (i := 4) S.nd (d_fn h__law_cell_at (hr.mono (by decide)) (da_cons (dv 0) (da_cons d_int da_nil))))
    (ds_cons (ds_set (i := 5) S.nd (d_op od_modI (dv 4) d_int))
    (ds_cons (ds_if (dt_cmp (od_eq (hr.units)) (d_op od_modI (d_op od_divI (dv 4) d_int) d_int) d_int)
    (ds_cons (ds_set (i := 3) S.nd (d_sl (dv 3) dp_none (dp_some (d_op od_addI d_int (d_op od_modI (d_op od_divI (dv 2) d_int) d_int)))))
    (ds_one (ds_set (i := 5) S.nd (d_op od_addI d_int (d_op od_modI (d_op od_divI (dv 4) d_int) (d_ix (d_lst (da_cons d_int (da_cons d_int da_nil))) (d_op od_subI (d_len (by rfl) B.len (dv 3)) d_int)))))))
    ds_nil)
    (ds_cons (ds_set (i := 6) S.nd (d_fnB (i := 1) h__law_first (hr.mono (by decide)) (da_cons (dv 0) da_nil)))
    (ds_cons (ds_set (i := 7) S.nd (d_fnB (i := 1) h__law_rows (hr.mono (by decide)) (da_cons (dv 6) (da_cons (dv 3) (da_cons (dv 5) da_nil)))))
    (ds_cons (ds_set (i := 8) S.nd (d_listOf (by rfl) B.list (dv 3)))
    (ds_cons (ds_set (i := 9) S.nd (d_rch (i := 1) [.int 2000] (Or.inr rfl) h_reached (hr.mono (by decide)) (da_cons (dv 6) (da_cons (dv 8) (da_cons (dv 5) da_nil)))))
    (ds_cons (ds_if ((dw_or (dt_not (dt_val (d_isi (pe_ty (T := "list") (by rfl) B.list (by decide +kernel)) (by rfl) B.isinstance (dv 9)))) (dw_or (dt_cmp (od_ne (hr.units)) (dv 9) (dv 7)) (dw_or1 (dt_cmp (od_ne (hr.units)) (dv 8) (dv 3)))))).pt
    (ds_one (ds_ret d_bl))
    ds_nil)
    (ds_cons (ds_for PassesOwn.never (by rfl) (di_list (dv 9)) (dg_name (i := 10) S.nd)
    (ds_one (ds_if ((dw_or (dt_not (dt_val (d_isi (pe_ty (T := "tuple") (by rfl) B.tuple (by decide +kernel)) (by rfl) B.isinstance (dv 10)))) (dw_or (dt_val (d_isi (pe_ty (T := "bool") (by rfl) B.bool (by decide +kernel)) (by rfl) B.isinstance (d_ix (dv 10) d_int))) (dw_or1 (dt_val (d_isi (pe_ty (T := "bool") (by rfl) B.bool (by decide +kernel)) (by rfl) B.isinstance (d_ix (dv 10) d_int))))))).pt
    (ds_one (ds_ret d_bl))
    ds_nil)))
    (ds_cons (ds_if (dt_cmp (od_ne (hr.units)) (d_rch (i := 1) [] (Or.inl rfl) h_reached (hr.mono (by decide)) (da_cons (dv 6) (da_cons (dv 3) (da_cons (dv 5) (da_cons (d_len (by rfl) B.len (dv 7)) da_nil))))) (dv 7))
    (ds_one (ds_ret d_bl))
    ds_nil)
    (ds_cons (ds_if (dt_cmp (od_ne (hr.units)) (d_rch (i := 1) [.int 2000] (Or.inr rfl) h_reached (hr.mono (by decide)) (da_cons (d_fn h_turned (hr.mono (by decide)) (da_cons (dv 6) (da_cons (d_op od_addI d_int (d_op od_modI (dv 2) d_int)) da_nil))) (da_cons (dv 3) (da_cons (dv 5) da_nil)))) (dv 7))
    (ds_one (ds_ret d_bl))
    ds_nil)
    (ds_cons (ds_if (dt_cmp (od_eq (hr.units)) (d_len (by rfl) B.len (dv 7)) d_int)
    (ds_one (ds_ret d_bl))
    ds_nil)
    (ds_cons (ds_set (i := 11) S.nd d_bl)
    (ds_cons (ds_tryT (i := 11) TM hex rfl rfl (by rfl) takes0 (fun W pn xe tk => ds_exprRS (d_rchS (i := 1) h_reached (hr.mono (by decide)) tk (da_cons (dv 6) (da_cons (dv 3) (da_cons (dv 5) (da_cons (d_op od_subI (d_len (by rfl) B.len (dv 7)) d_int) da_nil)))))) (fun a pn => ds_set (i := 11) S.nd d_bl))
    (ds_one (ds_ret (dv 11))))))))))))))))))))) fun D σ H h => tS_cls (E := E0) h)


end
end SQ
/-! ## SqH3 -/
set_option Elab.async false
set_option linter.all false
set_option maxRecDepth 100000
set_option maxHeartbeats 2000000
/-! the facts put together (printed by mkh3.py) -/
namespace SQ
open PySem PySem.Spec PyProof.Rows L2 SQH
def clsK (K : PySem.W.Frag) : Nat → Value
  | 0 => .ref (He.ga K "Blind")
  | 1 => .ref (He.ga K "Out")
  | 2 => .ref (He.ga K "Meet")
  | _ => .ref (He.ga K "TooMany")
section
variable {P : Program} {w : World} {K : PySem.W.Frag} {h : Heap} {mg : Str → Option Value} {base : Heap}
theorem bt_of (X : K.In h) (G : h.Ns mainGlobals mg) (ct : He.SaysT fa fn ts w K) (x : exK K = true) : Bt K w mg := by
  have c := ct.d
  obtain ⟨x1, x⟩ := He.ba x
  obtain ⟨_, x⟩ := He.ba x
  obtain ⟨_, x⟩ := He.ba x
  obtain ⟨_, x⟩ := He.ba x
  obtain ⟨_, x6⟩ := He.ba x
  have q : ∀ p ∈ csts, gloB K p = true := fun p hp => List.all_eq_true.mp x1 p hp
  refine ⟨He.free_ok X G (c.fact 0 (f := .free "len") rfl), He.free_ok X G (c.fact 1 (f := .free "abs") rfl), He.free_ok X G (c.fact 2 (f := .free "max") rfl), He.free_ok X G (c.fact 3 (f := .free "min") rfl), He.free_ok X G (c.fact 4 (f := .free "isinstance") rfl), He.free_ok X G (c.fact 5 (f := .free "int") rfl), He.free_ok X G (c.fact 6 (f := .free "bool") rfl), He.free_ok X G (c.fact 7 (f := .free "str") rfl), He.free_ok X G (c.fact 8 (f := .free "tuple") rfl), He.free_ok X G (c.fact 9 (f := .free "list") rfl), He.free_ok X G (c.fact 10 (f := .free "all") rfl), He.free_ok X G (c.fact 11 (f := .free "range") rfl), He.free_ok X G (c.fact 12 (f := .free "enumerate") rfl), He.free_ok X G (c.fact 13 (f := .free "sorted") rfl), cst_ok X G (q _ (by simp [csts])), cst_ok X G (q _ (by simp [csts])), cst_ok X G (q _ (by simp [csts])), cst_ok X G (q _ (by simp [csts])), cst_ok X G (q _ (by simp [csts])), cst_ok X G (q _ (by simp [csts])), cst_ok X G (q _ (by simp [csts])), cst_ok X G (q _ (by simp [csts])), cst_ok X G (q _ (by simp [csts])), cst_ok X G (q _ (by simp [csts])), cst_ok X G (q _ (by simp [csts])), cst_ok X G (q _ (by simp [csts])), cst_ok X G (q _ (by simp [csts])), cst_ok X G (q _ (by simp [csts])), ?_⟩
  refine ⟨_, He.glo_ok X G (c.fact 61 (f := .glo "TURNS_sights") rfl), fun z d hz => ?_⟩
  obtain ⟨es, n, kd⟩ := ct.tab 0 (t := (fun K => He.ga K "TURNS_sights", ["same", "left", "about", "right"])) rfl
  have y : ∀ (i : Int), (z, (He.Dv.int i)) ∈ ([("same", .int 0), ("left", .int 1), ("about", .int 2), ("right", .int 3)] : List (Str × He.Dv)) → d = .int i → ∃ v, KDct K w (He.ga K "TURNS_sights") z v ∧ ∀ H, Dp K H v d := fun i hm e => by
    obtain ⟨u, hu, r⟩ := He.valsB_ok x6 hm
    exact ⟨.int i, ⟨es, n, u, kd.at_, kd.lit, hu, r⟩, fun H => by rw [e]; exact .int i⟩
  simp only [turnsD, List.lookup] at hz
  split at hz
  · rename_i e; have e := beq_iff_eq.mp e; cases hz; subst e; exact y 0 (by simp) rfl
  split at hz
  · rename_i e; have e := beq_iff_eq.mp e; cases hz; subst e; exact y 1 (by simp) rfl
  split at hz
  · rename_i e; have e := beq_iff_eq.mp e; cases hz; subst e; exact y 2 (by simp) rfl
  split at hz
  · rename_i e; have e := beq_iff_eq.mp e; cases hz; subst e; exact y 3 (by simp) rfl
  · cases hz
theorem errs_of (X : K.In h) (G : h.Ns mainGlobals mg) (c : He.SaysD fa fn K) (x : exK K = true) : Errs P w K mg base (clsK K) := by
  obtain ⟨_, x⟩ := He.ba x
  obtain ⟨x2, x⟩ := He.ba x
  obtain ⟨x3, x⟩ := He.ba x
  obtain ⟨x4, x⟩ := He.ba x
  obtain ⟨x5, _⟩ := He.ba x
  have T : FlE K mg := fle_ok x2 (He.glo_ok X G (c.fact 54 (f := .glo "FloorError") rfl))
  obtain ⟨fdBlind, FBlind⟩ := (c.def_ 40 (d := ⟨("Blind", some "__init__"), "__init__", "Blind.__init__", defArgs (inClass (top 6) 0), defBody (inClass (top 6) 0), defScope (inClass (top 6) 0), [], []⟩) rfl)
  have eBlind := err_ok (P := P) (w := w) (base := base) (mg := mg) x3 (He.glo_ok X G (c.fact 56 (f := .glo "Blind") rfl)) (ok_Blind T (fun_of FBlind)) (FBlind.bindsN fun _ _ _ _ _ _ us hl => match us, hl with | [_, _], _ => rfl)
  obtain ⟨fdOut, FOut⟩ := (c.def_ 41 (d := ⟨("Out", some "__init__"), "__init__", "Out.__init__", defArgs (inClass (top 7) 0), defBody (inClass (top 7) 0), defScope (inClass (top 7) 0), [], []⟩) rfl)
  have eOut := err_ok (P := P) (w := w) (base := base) (mg := mg) x4 (He.glo_ok X G (c.fact 57 (f := .glo "Out") rfl)) (ok_Out T (fun_of FOut)) (FOut.bindsN fun _ _ _ _ _ _ us hl => match us, hl with | [_, _], _ => rfl)
  obtain ⟨fdMeet, FMeet⟩ := (c.def_ 42 (d := ⟨("Meet", some "__init__"), "__init__", "Meet.__init__", defArgs (inClass (top 8) 0), defBody (inClass (top 8) 0), defScope (inClass (top 8) 0), [], []⟩) rfl)
  have eMeet := err_ok (P := P) (w := w) (base := base) (mg := mg) x5 (He.glo_ok X G (c.fact 58 (f := .glo "Meet") rfl)) (ok_Meet T (fun_of FMeet)) (FMeet.bindsN fun _ _ _ _ _ _ us hl => match us, hl with | [_, _, _], _ => rfl)
  exact ⟨⟨_, rfl, eBlind.1, eBlind.2 _ (by simp)⟩, ⟨_, rfl, eOut.1, eOut.2 _ (by simp)⟩, ⟨_, rfl, eMeet.1, eMeet.2 _ (by simp), eMeet.2 _ (by simp)⟩⟩
theorem ctch_of (X : K.In h) (G : h.Ns mainGlobals mg) (c : He.SaysD fa fn K) : Ctch K mg (clsK K) := by
  refine ⟨fun t j ht hj => ?_, _, He.glo_ok X G (c.fact 54 (f := .glo "FloorError") rfl), fun t ht => ?_⟩
  · match t, ht, j, hj with
    | 0, _, 0, _ => exact He.exm_ok (c.fact 75 (f := .exm "Blind" "Blind" true) rfl)
    | 0, _, 1, _ => exact He.exm_ok (c.fact 76 (f := .exm "Blind" "Out" false) rfl)
    | 0, _, 2, _ => exact He.exm_ok (c.fact 77 (f := .exm "Blind" "Meet" false) rfl)
    | 1, _, 0, _ => exact He.exm_ok (c.fact 78 (f := .exm "Out" "Blind" false) rfl)
    | 1, _, 1, _ => exact He.exm_ok (c.fact 79 (f := .exm "Out" "Out" true) rfl)
    | 1, _, 2, _ => exact He.exm_ok (c.fact 80 (f := .exm "Out" "Meet" false) rfl)
    | 2, _, 0, _ => exact He.exm_ok (c.fact 81 (f := .exm "Meet" "Blind" false) rfl)
    | 2, _, 1, _ => exact He.exm_ok (c.fact 82 (f := .exm "Meet" "Out" false) rfl)
    | 2, _, 2, _ => exact He.exm_ok (c.fact 83 (f := .exm "Meet" "Meet" true) rfl)
  · match t, ht with
    | 0, _ => exact He.exm_ok (c.fact 84 (f := .exm "Blind" "FloorError" true) rfl)
    | 1, _ => exact He.exm_ok (c.fact 85 (f := .exm "Out" "FloorError" true) rfl)
    | 2, _ => exact He.exm_ok (c.fact 86 (f := .exm "Meet" "FloorError" true) rfl)
theorem dfd_ways (X : K.In h) (G : h.Ns mainGlobals mg) (c : He.SaysD fa fn K) : DfnD K mg "ways" (top 33) ["floor", "call", "some"] [.none] := by
  obtain ⟨fd, F⟩ := (c.def_ 35 (d := ⟨("ways", none), "ways", "ways", defArgs (top 33), defBody (top 33), defScope (top 33), [.non], []⟩) rfl)
  have F' : FunD K "ways" "ways" (defArgs (top 33)) (defBody (top 33)) (defScope (top 33)) [.non] [] (He.ga K "ways") fd := F
  obtain ⟨ds, hv, hb⟩ := F'.binds1 (ps := ["floor", "call", "some"]) 2 0 (by simp) rfl fun T kV doc pm an cdv ct us its hu hi => match us, hu, its, hi with | [_, _], _, [_], _ => ⟨_, rfl, rfl⟩
  obtain ⟨ds0, hv0, hb0⟩ := F'.binds1 (ps := ["floor", "call", "some"]) 3 1 (by simp) rfl fun T kV doc pm an cdv ct us its hu hi => match us, hu, its, hi with | [_, _, _], _, [_], _ => ⟨_, rfl, rfl⟩
  have e0 : ds0 = [] := by cases hv0; rfl
  subst e0
  exact ⟨_, fd, _, _, F', He.glo_ok X G (c.fact 49 (f := .glo "ways") rfl), hb0, ds, [.non], hb, hv, fun H => .cons .non .nil⟩
theorem dfd_danced (X : K.In h) (G : h.Ns mainGlobals mg) (c : He.SaysD fa fn K) : DfnD K mg "danced" (top 35) ["floor", "call", "some"] [.none] := by
  obtain ⟨fd, F⟩ := (c.def_ 5 (d := ⟨("danced", none), "danced", "danced", defArgs (top 35), defBody (top 35), defScope (top 35), [.non], []⟩) rfl)
  have F' : FunD K "danced" "danced" (defArgs (top 35)) (defBody (top 35)) (defScope (top 35)) [.non] [] (He.ga K "danced") fd := F
  obtain ⟨ds, hv, hb⟩ := F'.binds1 (ps := ["floor", "call", "some"]) 2 0 (by simp) rfl fun T kV doc pm an cdv ct us its hu hi => match us, hu, its, hi with | [_, _], _, [_], _ => ⟨_, rfl, rfl⟩
  obtain ⟨ds0, hv0, hb0⟩ := F'.binds1 (ps := ["floor", "call", "some"]) 3 1 (by simp) rfl fun T kV doc pm an cdv ct us its hu hi => match us, hu, its, hi with | [_, _, _], _, [_], _ => ⟨_, rfl, rfl⟩
  have e0 : ds0 = [] := by cases hv0; rfl
  subst e0
  exact ⟨_, fd, _, _, F', He.glo_ok X G (c.fact 19 (f := .glo "danced") rfl), hb0, ds, [.non], hb, hv, fun H => .cons .non .nil⟩
end
end SQ
/-! ## SqH4 -/
set_option Elab.async false
set_option linter.all false
set_option maxRecDepth 100000
set_option maxHeartbeats 2000000
/-! every def of the chain, up to law (printed by mkh4.py) -/
namespace SQ
open PySem PySem.Spec PyProof.Rows L2 SQH
section
variable {P : Program} {w : World} {K : PySem.W.Frag} {h : Heap} {mg : Str → Option Value} {base : Heap}
theorem fnd_zero {x : Str} {st : Stmt} {ps : List Str} {n : Nat} (D : Dfn K mg x st ps) : FnD P w K mg base 0 x n fun _ => none := by
  obtain ⟨f, fd, F, hm, hb⟩ := D.ex
  refine ⟨f, fd, ps, ⟨fun vs H Q E q => ?_, fun A outer s H args us vs Q E hr he hbd hv q => ?_⟩, hm, F.kp, hb⟩
  · obtain ⟨_, _, _, _, _, e, _⟩ := q
    cases e
  · obtain ⟨_, _, _, _, _, e, _⟩ := q
    cases e
theorem mt_bcall {CB : Addr} {f : Addr} {fd : FuncData} (B : Bt K w mg) (c : BkC K CB) (h_icn : FnD P w K mg base 1 "is_call_name" 1 F_is_call_name) (M : Meth K CB "call" f) (F : FunD K "call" "Book.call" (defArgs (inClass (top 65) 2)) (defBody (inClass (top 65) 2)) (defScope (inClass (top 65) 2)) [] [] f fd) : MtOk P w K mg base CX0 2 CB "call" (spO K CB 1 G_bcall) := by
  refine ⟨f, fd, _, M, (ok_bcall (base := base) B c h_icn (fun_of F)).imp fun vs H Q E q => ?_, F.bindsN fun _ _ _ _ _ _ us hl => match us, hl with | [_, _], _ => rfl⟩
  obtain ⟨Hb, kn, b, ws, ds, e, ho, r, hn, d, hd, O⟩ := q
  exact ⟨Hb, kn, b, ws, ds, e, ho, r, hn, d, G_bcall_run hd, O⟩
theorem mt_bnames {CB : Addr} {f : Addr} {fd : FuncData} (B : Bt K w mg) (c : BkC K CB) (M : Meth K CB "names" f) (F : FunD K "names" "Book.names" (defArgs (inClass (top 65) 1)) (defBody (inClass (top 65) 1)) (defScope (inClass (top 65) 1)) [] [] f fd) : MtOk P w K mg base CX0 2 CB "names" (spO K CB 0 (G_bnames CB)) :=
  ⟨f, fd, _, M, ok_bnames (base := base) B c (fun_of F), F.bindsN fun _ _ _ _ _ _ us hl => match us, hl with | [_], _ => rfl⟩
theorem mt_lay {C CT : Addr} {f : Addr} {fd : FuncData} (B : Bt K w mg) (c : SrC K C) (T : TooM K mg CT) (M : Meth K C "lay" f) (F : FunD K "lay" "Search.lay" (defArgs (inClass (top 41) 1)) (defBody (inClass (top 41) 1)) (defScope (inClass (top 41) 1)) [] [] f fd) : MtOk P w K mg base (L2.CX P w) 3 C "lay" (spL P w K C CT) :=
  ⟨f, fd, _, M, ok_lay (base := base) B c T (fun_of F), F.bindsN fun _ _ _ _ _ _ us hl => match us, hl with | [_, _, _, _, _], _ => rfl⟩
theorem mt_go_on {C CT : Addr} {f : Addr} {fd : FuncData} {Gb : List PyData → Option PyData} (B : Bt K w mg) (c : SrC K C) (FL : MtOk P w K mg base (L2.CX P w) 3 C "lay" (spL P w K C CT)) (h_fb : FnD P w K mg base 8 "form_behind" 2 Gb) (M : Meth K C "go_on" f) (F : FunD K "go_on" "Search.go_on" (defArgs (inClass (top 41) 2)) (defBody (inClass (top 41) 2)) (defScope (inClass (top 41) 2)) [] [] f fd) : MtOk P w K mg base (L2.CX P w) 9 C "go_on" (spG P w K C CT Gb) :=
  ⟨f, fd, _, M, ok_go_on (base := base) B c FL h_fb (fun_of F), F.bindsN fun _ _ _ _ _ _ us hl => match us, hl with | [_, _, _, _], _ => rfl⟩
theorem r4_of {C CB CT : Addr} {cls : Nat → Value} {f fI : Addr} {fd fdI : FuncData} {psI : List Str} {Gf Gb : List PyData → Option PyData} {Gc : List (Str × PyData) → List PyData → Option PyData} (B : Bt K w mg) (c : SrC K C) (bk : BkC K CB) (hT : cls 3 = .ref CT) (M : Mk K C fI) (gS : mg "Search" = some (.ref C)) (gR : mg "reached" = some (.ref f))
    (FI : FnOk P w K mg base (L2.CX P w) 4 fI fdI psI (spSI P w K C Gf)) (bI : Binds K fdI psI []) (FG : MtOk P w K mg base (L2.CX P w) 9 C "go_on" (spG P w K C CT Gb)) (FC : MtOk P w K mg base CX0 2 CB "call" (spO K CB 1 Gc))
    (F : FunD K "reached" "reached" (defArgs (top 42)) (defBody (top 42)) (defScope (top 42)) [.int 2000] [] f fd) : FnR4 P w K mg base cls 11 CB (G_reached Gf Gb Gc) := by
  obtain ⟨ds, hv, hb⟩ := F.binds1 (ps := ["book", "floor", "names", "length", "most"]) 4 0 (by simp) rfl fun T kV doc pm an cdv ct us its hu hi => match us, hu, its, hi with | [_, _, _, _], _, [_], _ => ⟨_, rfl, rfl⟩
  obtain ⟨ds0, hv0, hb0⟩ := F.binds1 (ps := ["book", "floor", "names", "length", "most"]) 5 1 (by simp) rfl fun T kV doc pm an cdv ct us its hu hi => match us, hu, its, hi with | [_, _, _, _, _], _, [_], _ => ⟨_, rfl, rfl⟩
  have e0 : ds0 = [] := by cases hv0; rfl
  subst e0
  exact ⟨f, fd, _, ds, ok_reached (base := base) B c bk hT M gS FI bI FG FC F, gR, F.kp, hb0, hb, hv⟩
theorem law_fn {f : Addr} (X : K.In h) (G : h.Ns mainGlobals mg) (hfa : mg ("law" : Str) = some (.ref f)) (ct : He.SaysT fa fn ts w K) (x : exK K = true) :
    ∃ fd : FuncData, (∀ (s : Shared) (v : Value), BindsTo s fd ⟨[v], []⟩ [("_law_script", v)]) ∧ ∀ base : Heap, FnOk P w K mg base CX0 12 f fd ["_law_script"] (spD K 1 (F_law (He.ga K "Book") kn15 (G_reached F_form F_form_behind G_bcall))) := by
  have c := ct.d
  obtain ⟨fd, F9⟩ := (c.def_ 17 (d := ⟨("law", none), "law", "law", defArgs (top 73), defBody (top 73), defScope (top 73), [], []⟩) rfl)
  have e := hfa.symm.trans (He.glo_ok X G (c.fact 31 (f := .glo "law") rfl))
  cases e
  have b := FunD.bindsA (ps := ["_law_script"]) F9 fun _ _ _ _ _ _ us hl => match us, hl with | [_], _ => rfl
  refine ⟨fd, fun s v => b s [v] rfl, fun base => ?_⟩
  have B := bt_of X G ct x
  have R := errs_of (P := P) (w := w) (base := base) X G c x
  have M := ctch_of X G c
  have h_is_whole := fd_is_whole (P := P) (base := base) B (dfn_is_whole X G c)
  have h_is_spot := fd_is_spot (P := P) (base := base) B (dfn_is_spot X G c)
  have h_is_stand := fd_is_stand (P := P) (base := base) B (dfn_is_stand X G c) h_is_whole h_is_spot
  have h_spot_from := fd_spot_from (P := P) (base := base) B (dfn_spot_from X G c)
  have h_who_at := fd_who_at (P := P) (base := base) B (dfn_who_at X G c)
  have h_partner := fd_partner (P := P) (base := base) B (dfn_partner X G c)
  have h_opposite := fd_opposite (P := P) (base := base) B (dfn_opposite X G c)
  have h_is_of := fd_is_of (P := P) (base := base) B (dfn_is_of X G c)
  have h_is_inner := fd_is_inner (P := P) (base := base) B (dfn_is_inner X G c)
  have h_drift := fd_drift (P := P) (base := base) B (dfn_drift X G c) h_spot_from
  have h_faces := fd_faces (P := P) (base := base) B (dfn_faces X G c)
  have h_sees := fd_sees (P := P) (base := base) B (dfn_sees X G c) h_who_at h_partner h_opposite h_faces
  have h_holds1 := fd_holds1 B (dfn_holds X G c) (fnd_zero (P := P) (base := base) (n := 3) (dfn_holds X G c)) h_spot_from h_sees h_is_inner h_drift h_is_of
  have h_holds : FnD P w K mg base 4 "holds" 3 F_holds := fd_holds2 B (dfn_holds X G c) h_holds1 h_spot_from h_sees h_is_inner h_drift h_is_of
  have h_rule_for := fd_rule_for (P := P) (base := base) B (dfn_rule_for X G c) h_holds
  have h_stepped := fd_stepped (P := P) (base := base) B (dfn_stepped X G c) h_spot_from
  have h_way_of := fd_way_of (P := P) (base := base) B (dfn_way_of X G c) h_stepped
  have h_turned := fd_turned (P := P) (base := base) B (dfn_turned X G c)
  have h_form := fd_form (P := P) (base := base) B (dfn_form X G c) h_turned
  have h_number_in := fd_number_in (P := P) (base := base) B (dfn_number_in X G c)
  have h_word_at := fd_word_at (P := P) (base := base) B (dfn_word_at X G c)
  have h_plain_test := fd_plain_test (P := P) (base := base) B (dfn_plain_test X G c) h_word_at h_number_in
  have h_test_from := fd_test_from (P := P) (base := base) B (dfn_test_from X G c) h_word_at h_plain_test
  have h_read_tests := fd_read_tests (P := P) (base := base) B (dfn_read_tests X G c) h_test_from
  have h_read_steps := fd_read_steps (P := P) (base := base) B (dfn_read_steps X G c) h_word_at h_number_in
  have h_read_rule := fd_read_rule (P := P) (base := base) B (dfn_read_rule X G c) h_read_steps h_read_tests
  have h_read_call := fd_read_call (P := P) (base := base) B (dfn_read_call X G c) h_read_rule
  have h_is_call_name := fd_is_call_name (P := P) (base := base) B (dfn_is_call_name X G c)
  have h_look_at_way := fd_look_at_way (P := P) (base := base) B R (dfn_look_at_way X G c) h_is_stand
  have h_look_at_spots := fd_look_at_spots (P := P) (base := base) B R (dfn_look_at_spots X G c)
  have h_ways := fd_ways B R (dfd_ways X G c) h_rule_for h_way_of h_look_at_way
  have h_danced := fd_danced B R (dfd_danced X G c) h_ways h_look_at_spots
  have h_form_behind := fd_form_behind (P := P) (base := base) B R M (dfn_form_behind X G c) h_danced h_form
  have bk : BkC K (He.ga K "Book") := ⟨He.cls_ok (c.fact 62 (f := .cls "Book") rfl), He.noat_ok (c.fact 64 (f := .noat "Book" "known") rfl)⟩
  have sr : SrC K (He.ga K "Search") := ⟨He.cls_ok (c.fact 63 (f := .cls "Search") rfl), He.noat_ok (c.fact 65 (f := .noat "Search" "most") rfl), He.noat_ok (c.fact 66 (f := .noat "Search" "rows") rfl), He.noat_ok (c.fact 67 (f := .noat "Search" "places") rfl)⟩
  have gB := He.glo_ok X G (c.fact 59 (f := .glo "Book") rfl)
  have gS := He.glo_ok X G (c.fact 60 (f := .glo "Search") rfl)
  have gR := He.glo_ok X G (c.fact 52 (f := .glo "reached") rfl)
  have gT := He.glo_ok X G (c.fact 53 (f := .glo "_law_texts") rfl)
  have TM := too_ok (c.fact 74 (f := .exc "TooMany") rfl) (He.glo_ok X G (c.fact 55 (f := .glo "TooMany") rfl))
  have hex : PySem.W.exmOne K (clsK K 3) (.ref (He.ga K "TooMany")) = some true := He.exm_ok (c.fact 87 (f := .exm "TooMany" "TooMany" true) rfl)
  obtain ⟨fd1, F1⟩ := (c.def_ 44 (d := ⟨("Book", some "call"), "call", "Book.call", defArgs (inClass (top 65) 2), defBody (inClass (top 65) 2), defScope (inClass (top 65) 2), [], []⟩) rfl)
  have FC := mt_bcall (P := P) (base := base) B bk h_is_call_name (He.meth_ok (c.fact 70 (f := .meth "Book" "call") rfl)) F1
  obtain ⟨fd2, F2⟩ := (c.def_ 45 (d := ⟨("Book", some "names"), "names", "Book.names", defArgs (inClass (top 65) 1), defBody (inClass (top 65) 1), defScope (inClass (top 65) 1), [], []⟩) rfl)
  have FN := mt_bnames (P := P) (base := base) B bk (He.meth_ok (c.fact 71 (f := .meth "Book" "names") rfl)) F2
  have h__law_behind := fd__law_behind (P := P) (base := base) M (dfn__law_behind X G c) h_danced bk FC
  have h__law_cell_at := fd__law_cell_at (P := P) (base := base) B (dfn__law_cell_at X G c)
  have h__law_rows := fd__law_rows B (dfn__law_rows X G c) h_form h__law_behind
  have h__law_first := fd__law_first B (dfn__law_first X G c) h__law_behind h__law_cell_at h_turned bk FN
  obtain ⟨fd3, F3⟩ := (c.def_ 47 (d := ⟨("Search", some "lay"), "lay", "Search.lay", defArgs (inClass (top 41) 1), defBody (inClass (top 41) 1), defScope (inClass (top 41) 1), [], []⟩) rfl)
  have FL := mt_lay (P := P) (base := base) B sr TM (He.meth_ok (c.fact 72 (f := .meth "Search" "lay") rfl)) F3
  obtain ⟨fd4, F4⟩ := (c.def_ 48 (d := ⟨("Search", some "go_on"), "go_on", "Search.go_on", defArgs (inClass (top 41) 2), defBody (inClass (top 41) 2), defScope (inClass (top 41) 2), [], []⟩) rfl)
  have FG := mt_go_on B sr FL h_form_behind (He.meth_ok (c.fact 73 (f := .meth "Search" "go_on") rfl)) F4
  obtain ⟨fd5, F5⟩ := (c.def_ 46 (d := ⟨("Search", some "__init__"), "__init__", "Search.__init__", defArgs (inClass (top 41) 0), defBody (inClass (top 41) 0), defScope (inClass (top 41) 0), [], []⟩) rfl)
  have FI := ok_sinit (base := base) B sr FL h_form (fun_of F5)
  have bI := F5.bindsN (ps := ["self", "floor", "most"]) fun _ _ _ _ _ _ us hl => match us, hl with | [_, _, _], _ => rfl
  obtain ⟨fd6, F6⟩ := (c.def_ 38 (d := ⟨("reached", none), "reached", "reached", defArgs (top 42), defBody (top 42), defScope (top 42), [.int 2000], []⟩) rfl)
  have h_reached := r4_of (cls := clsK K) B sr bk rfl (He.mkr_ok (c.fact 69 (f := .mkr "Search") rfl)) gS gR FI bI FG FC F6
  obtain ⟨fd7, F7⟩ := (c.def_ 39 (d := ⟨("_law_texts", none), "_law_texts", "_law_texts", defArgs (top 68), defBody (top 68), defScope (top 68), [], []⟩) rfl)
  have FT := ok_texts (P := P) (base := base) B (fun_of F7)
  have bT := F7.bindsN (ps := []) fun _ _ _ _ _ _ us hl => match us, hl with | [], _ => rfl
  obtain ⟨fd8, F8⟩ := (c.def_ 43 (d := ⟨("Book", some "__init__"), "__init__", "Book.__init__", defArgs (inClass (top 65) 0), defBody (inClass (top 65) 0), defScope (inClass (top 65) 0), [], []⟩) rfl)
  obtain ⟨fr, fdr, psr, FR, mr, kr, br⟩ := h_read_call.ex
  have FB := ok_binit (base := base) B bk kn15_Kn h_is_call_name FR mr kr br (fun_of F8)
  have bB := F8.bindsN (ps := ["self", "texts"]) fun _ _ _ _ _ _ us hl => match us, hl with | [_, _], _ => rfl
  have h__law_names := fd_law_names B FT gT F7.kp bT (dfn__law_names X G c)
  exact ok_law B (fun_of F9) h__law_cell_at h__law_names h__law_first h__law_rows h_turned h_reached FT gT F7.kp bT (He.mkr_ok (c.fact 68 (f := .mkr "Book") rfl)) FB gB bB TM hex
end
end SQ
/-! ## SqH5 -/
set_option Elab.async false
set_option linter.all false
set_option maxRecDepth 100000
set_option maxHeartbeats 0
open PySem PySem.W PySem.Calls PyProof.Rows
theorem PySem.Challenge.cw_squarecall_k66_floors_come_to_holds : PySem.Challenge.rw_squarecall_k66_floors_come_to.Holds := by
  w_on; o_law
  refine HandSHeadRun.head_any (r := SQH.R) (q := view SQH.R.prog [73]) (H := SQH.hk) (ob := SQH.ob) (M := 20000) (loose := SQH.loose) (d := HandSHeadRun.topDef SQH.R.prog 73) (kwd := []) SQH.ob_eq
    (by kernel_rfl) (fun s => by kernel_rfl) SQH.run (by kernel_rfl) (by kernel_rfl) (by kernel_rfl) (by rfl) (by first | assumption | decide +kernel) (by decide +kernel) ⟨rfl, rfl, rfl, rfl, rfl, by decide +kernel⟩ ?hw ?hc
  case hw => w_witness2
  case hc =>
    refine L2.walk_ofE (l := PySem.Challenge.rw_squarecall_k66_floors_come_to) (n := 63) (k := 12) (x := "_law_script") (CX := L2.CX0) rfl (by decide) (by kernel_rfl) ⟨rfl, by decide, by decide⟩ ?F (fun _ _ _ _ z => z)
    intro w mg fa h Y G hmg0
    obtain ⟨K, KX, ct, x⟩ := Y
    have hmg : mg ("law" : PySem.Str) = some (.ref fa) := by
      have e : (HandSHeadRun.topDef SQH.R.prog 73).name = ("law" : PySem.Str) := by kernel_rfl
      rw [← e]
      exact hmg0
    obtain ⟨fd, hb, hF⟩ := SQ.law_fn (P := SQH.R.prog) (w := w) KX G hmg ct x
    refine ⟨K, fd, _, KX, hb, fun H a ns hl _ hS => ?_, fun base _ _ => hF base⟩
    exact ⟨H, _, .cons (.lst hS SQ.dall_ints) .nil, rfl, _, SQ.F_law_ok _ ns, L2.Same.refl H, fun v H' s hv => SQ.dp_bl hv⟩
