import PyProof.Rows.All
import Wide.All
import OpenK.AllK
import Wide.FinOn
import HandS.ForMost
import HandS.Walk
import HandS.Zip
import HandS.IsInst
import HandS.Wide
import HandS.Flow
import HandS.HeadHook1
import HandS.Dict
import HandS.TupAny
import KE.DatumOrd
import HandS.Style
import HandS.TupSets
import HandS.NoneIn
import HandS.Exc
import HandS.ExcOwn
import HandS.TryOnly
import HandS.EndBits
import HandS.HeadEnd
import HandS.HeadHook2
import KE.GoesMore
import KE.GoesZip
import KE.KDictZip
import HandS.RaiseMore
import HandS.Conv
import HandS.SortKw
import HandS.NamedTupSort
import HandS.ForDict
import HandS.Remove
import HandS.SetFor
import HandS.Strs
import HandS.Keys
import HandS.Text
import KE.KIndexOf
import HandS.Flt
import PyProof.SumWalkG
import PyProof.WalksMore
import HandS.ExcIs
import HandS.WordsExc
import HandS.ExcInit
import HandS.ExcField
import KE.KExcIs
import HandS.Head0
import HandS.Head1
import HandS.Head2
import PySem.Challenge.RW_tugrings_k09_moves_of_groups
set_option Elab.async false
set_option linter.all false
set_option maxRecDepth 100000
set_option maxHeartbeats 0
namespace Tg
open PySem PySem.Spec PyProof.Rows L2
abbrev Fg := PySem.W.Frag
/-- whether the class x is among the classes of y's instances' .. x is y or one of its heirs -/
def isA (xt : List (Str × List Str)) (x y : Str) : Bool := decide (x = y) || (match xt.lookup x with
  | some bs => bs.any fun z => decide (z = y)
  | none => false)
def bltX : List String := ["ValueError", "LookupError"]
/-- fields with the classes that have them; methods with their class, function and number of arguments -/
structure Ob where
  fl : List (Str × List Str)
  mt : List (Str × Str × String × Nat)
  /-- exceptions: own classes, each with its bases -/
  xt : List (Str × List Str) := []
  /-- defs that may raise, with the name of the function that tells it -/
  xf : List (String × String) := []
  /-- exceptions with an __init__ that stores its arguments: their fields -/
  xi : List (Str × List Str) := []
/-- a def of the text: its name, the name of its function, its statement, its names by slot, its parameters, where it makes cells, its qualified name, where it stands -/
structure Df where
  x : Str
  id : String
  st : Stmt
  N : List Str
  ps : List Str
  mu : List (Nat × Nat)
  q : Str
  h : Str × Option Str
def clFa (cs : List (Str × String × Nat)) (ob : Ob) : List He.Fa := cs.map (fun d => He.Fa.glo d.1) ++ (cs.map (fun d => He.Fa.cls d.1) ++ (cs.map (fun d => He.Fa.mkr d.1) ++ (ob.mt.map (fun q => He.Fa.meth q.2.1 q.1) ++ ob.fl.flatMap fun q => q.2.map fun x => He.Fa.noat x q.1)))
def mkFa (ds : List (Str × String × Nat)) (is : List (Str × Int)) (ss : List (Str × Str)) (blt : List Str) (cs : List (Str × String × Nat)) (ob : Ob) : List He.Fa :=
  ds.map (fun d => He.Fa.glo d.1) ++ (is.map (fun p => He.Fa.int p.1 p.2) ++ (ss.map (fun p => He.Fa.str p.1 p.2) ++ (blt.map He.Fa.free ++ clFa cs ob)))
def mkFn (ds : List Df) : List He.DefD := ds.map fun d => ⟨d.h, d.x, d.q, defArgs d.st, defBody d.st, defScope d.st, [], []⟩
/-- what the head tells of the exceptions' classes -/
def xcB (xi : List (Str × List Str)) (K : Fg) (x : Str) : Bool := (He.Fa.glo x).ok K && (((xi.lookup x).isSome || PySem.W.excIn K (He.ga K x) He.veBase "ValueError.__new__") && (PySem.W.keepIn K (.ref (He.ga K x)) && (decide (PySem.W.subIn K (.ref (He.ga K x)) (.type "BaseException") = some true) &&
  (decide (PySem.W.typeIn K (.ref (He.ga K x)) = some (.type "type")) && (decide (PySem.W.findIn K (.ref (He.ga K x)) "__getattribute__" = some (some (.builtin "BaseException.__getattribute__"))) && (decide (PySem.W.findIn K (.ref (He.ga K x)) "__getattr__" = some none) &&
  (PySem.W.hasDictIn K (He.ga K x) && (decide (PySem.W.findIn K (.ref (He.ga K x)) "__class__" = some (some (.builtin "object.__class__"))) && (decide (PySem.W.specialIn K (.builtin "object.__class__") "__get__" = some (some (.builtin "getset_descriptor.__get__"))) &&
  (decide (PySem.W.takesIn K (.builtin "object.__class__") = some true) && decide (PySem.W.mroIn K (He.ga K x) (.type "object") = some true)))))))))))
/-- the class's object -/
def oxB (K : Fg) (C : Addr) : Bool := match K.lookup C with
  | some ⟨.type "type", _, .cls ⟨_, _, .ref C' :: bm, _, _, true, _, _, _, _, false⟩, sl⟩ => (match sl.toList with
    | [_, _, _, _, some (.builtin n), _] => decide (C' = C) && (decide (n = "ValueError.__new__") && PySem.HandSPX.refsVE bm)
    | _ => false)
  | _ => false
def xiB (K : Fg) (q : Str × List Str) : Bool := oxB K (He.ga K q.1) && (decide (PySem.W.findIn K (.ref (He.ga K q.1)) "__setattr__" = some (some (.builtin "object.__setattr__"))) && (decide (PySem.W.findIn K (.ref (He.ga K q.1)) "__init__" = some (some (.ref (He.fAd K (q.1, some "__init__"))))) &&
  (decide (PySem.W.typeIn K (.ref (He.fAd K (q.1, some "__init__"))) = some (.type "function")) && q.2.all fun f => decide (PySem.W.findIn K (.ref (He.ga K q.1)) f = some none))))
def exX (xt xi : List (Str × List Str)) (K : Fg) : Bool := (xt.all fun q => xcB xi K q.1 && ((xt.all fun r => decide (PySem.W.kitOne K (.ref (He.ga K q.1)) (.ref (He.ga K r.1)) = some (isA xt q.1 r.1)) && decide (PySem.W.exmOne K (.ref (He.ga K q.1)) (.ref (He.ga K r.1)) = some (isA xt q.1 r.1))) &&
  (bltX.all (fun t => decide (PySem.W.kitOne K (.ref (He.ga K q.1)) (.type t) = some (isA xt q.1 (Str.ofString t)))) && (xi.flatMap fun q => q.2).all fun f => decide (PySem.W.findIn K (.ref (He.ga K q.1)) f = some none)))) && xi.all fun q => xiB K q
def hookE (n : Nat) (fa : List He.Fa) (fn : List He.DefD) (ex : Fg → Bool) : PySem.W.Hook where
  α := He.AlD × Bool
  obs := fun s => (He.obsDG n fa fn s.heap.get?, ex (He.frG s.heap.get? (He.asD s.heap.get? n)))
  val := fun _ => (He.valD fn, true)
  says := fun _ h => ∃ K : Fg, K.In h ∧ He.SaysD fa fn K ∧ ex K = true
  of := fun _ _ e => ⟨_, He.frG_in, congrArg (fun z : He.AlD × Bool => z.1) e, congrArg (fun z : He.AlD × Bool => z.2) e⟩
  keeps := fun _ _ _ ⟨K, hK, c⟩ k => ⟨K, PySem.W.Frag.In.keeps hK k, c⟩
def obE (n : Nat) (fa : List He.Fa) (fn : List He.DefD) (ex : Fg → Bool) (g : Addr → Option Obj) : He.AlD × Bool := (He.obsDG n fa fn g, ex (He.frG g (He.asD g n)))
theorem obE_eq {n : Nat} {fa : List He.Fa} {fn : List He.DefD} {ex : Fg → Bool} {g : Addr → Option Obj} {s : Shared} (h : ∀ a, g a = s.heap.get? a) : obE n fa fn ex g = (hookE n fa fn ex).obs s := by
  have e : g = s.heap.get? := funext h
  rw [e] <;> rfl
end Tg
namespace W_k09
open PySem PySem.Spec PyProof.Rows L2 Tg
def topS (i : Nat) : Stmt := PySem.Challenge.pw_tugrings_k09_moves_of_groups.main.body.getD i (.Pass ⟨0, 0, 0, 0⟩)
def xtT : List (Str × List Str) := [("TugError", ["ValueError"]), ("AtLimit", ["TugError", "ValueError"]), ("BarTaut", ["TugError", "ValueError"]), ("NotSliding", ["TugError", "ValueError"]), ("Full", ["TugError", "ValueError"])]
def xiT : List (Str × List Str) := [("AtLimit", ["ring"]), ("BarTaut", ["bar"]), ("NotSliding", ["step"])]
def tb : List (Str × String × Nat) := ("stretch_of", "stretch_of", 2) :: ("unit_of", "unit_of", 1) :: ("check_move", "check_move", 3) :: ("move_group", "move_group", 5) :: ("_law_draws", "_law_draws", 1) :: ("_law_next", "_law_next", 2) :: ("_law_one", "_law_one", 2) :: ("_law_equal", "_law_equal", 2) :: ("_law_integer", "_law_integer", 3) :: ("_law_amount", "_law_amount", 2) :: ("_law_pair", "_law_pair", 2) :: ("_law_rig", "_law_rig", 3) :: ("_law_sized", "_law_sized", 3) :: ("_law_stretches", "_law_stretches", 2) :: ("_law_is_placement", "_law_is_placement", 2) :: ("_law_groups", "_law_groups", 1) :: ("_law_moved", "_law_moved", 3) :: ("_law_wander", "_law_wander", 3) :: ("_law_unit", "_law_unit", 1) :: ("_law_other", "_law_other", 1) :: ("_law_due", "_law_due", 4) :: ("_law_caught", "_law_caught", 5) :: ("law", "law", 1) :: []
def cints : List (Str × Int) := []
def cstrs : List (Str × Str) := [("RIGHT", "right")]
def blt : List Str := ["all", "bool", "enumerate", "int", "isinstance", "len", "list", "max", "min", "range", "repr", "sorted", "str", "tuple", "zip"]
def cs : List (Str × String × Nat) := []
def obT : Ob := ⟨[], [], xtT, [("check_move", "check_move!"), ("move_group", "move_group!")], xiT⟩
def clsS (i j : Nat) : Stmt := match topS i with
  | .ClassDef _ _ _ body _ _ _ _ _ _ _ => body.getD j (.Pass ⟨0, 0, 0, 0⟩)
  | _ => .Pass ⟨0, 0, 0, 0⟩
def d_AtLimit__init_ : Df := ⟨"__init__", "AtLimit.__init__", clsS 2 0, ["self", "ring"], ["self", "ring"], [], "AtLimit.__init__", ("AtLimit", some "__init__")⟩
def d_BarTaut__init_ : Df := ⟨"__init__", "BarTaut.__init__", clsS 3 0, ["self", "bar"], ["self", "bar"], [], "BarTaut.__init__", ("BarTaut", some "__init__")⟩
def d_NotSliding__init_ : Df := ⟨"__init__", "NotSliding.__init__", clsS 4 0, ["self", "step"], ["self", "step"], [], "NotSliding.__init__", ("NotSliding", some "__init__")⟩
def d_stretch_of : Df := ⟨"stretch_of", "stretch_of", topS 7, ["part", "placement"], ["part", "placement"], [], "stretch_of", ("stretch_of", none)⟩
def d_unit_of : Df := ⟨"unit_of", "unit_of", topS 10, ["side"], ["side"], [], "unit_of", ("unit_of", none)⟩
def d_check_move : Df := ⟨"check_move", "check_move", topS 11, ["rig", "group", "placement", "ring", "low", "high", "load", "index", "bar"], ["rig", "group", "placement"], [], "check_move", ("check_move", none)⟩
def d_move_group : Df := ⟨"move_group", "move_group", topS 12, ["rig", "placement", "group", "side", "count", "offset", "found", "ring", "place"], ["rig", "placement", "group", "side", "count"], [], "move_group", ("move_group", none)⟩
def d_l_draws : Df := ⟨"_law_draws", "_law_draws", topS 14, ["_law_script", "_law_cells", "_law_cell"], ["_law_script"], [(41, 11), (41, 27)], "_law_draws", ("_law_draws", none)⟩
def d_l_next : Df := ⟨"_law_next", "_law_next", topS 15, ["_law_drawn", "_law_many", "_law_cells", "_law_turn", "_law_rests", "_law_spot", "_law_digit", "_law_mixed", "_law_again"], ["_law_drawn", "_law_many"], [], "_law_next", ("_law_next", none)⟩
def d_l_one : Df := ⟨"_law_one", "_law_one", topS 16, ["_law_drawn", "_law_items"], ["_law_drawn", "_law_items"], [], "_law_one", ("_law_one", none)⟩
def d_l_equal : Df := ⟨"_law_equal", "_law_equal", topS 17, ["_law_one_here", "_law_other_here", "_law_a", "_law_b"], ["_law_one_here", "_law_other_here"], [], "_law_equal", ("_law_equal", none)⟩
def d_l_integer : Df := ⟨"_law_integer", "_law_integer", topS 18, ["_law_value", "_law_low", "_law_high"], ["_law_value", "_law_low", "_law_high"], [], "_law_integer", ("_law_integer", none)⟩
def d_l_amount : Df := ⟨"_law_amount", "_law_amount", topS 19, ["_law_drawn", "_law_size", "_law_few"], ["_law_drawn", "_law_size"], [], "_law_amount", ("_law_amount", none)⟩
def d_l_pair : Df := ⟨"_law_pair", "_law_pair", topS 20, ["_law_drawn", "_law_count", "_law_one_here"], ["_law_drawn", "_law_count"], [], "_law_pair", ("_law_pair", none)⟩
def d_l_rig : Df := ⟨"_law_rig", "_law_rig", topS 21, ["_law_drawn", "_law_most", "_law_size", "_law_count", "_law_heavy", "_law_shift", "_law_places", "_law_rings", "_law_k", "_law_place", "_law_low", "_law_high", "_law_cords", "_law_bars", "_law_one_here", "_law_other_here", "_law_length"], ["_law_drawn", "_law_most", "_law_size"], [(75, 31), (75, 35), (81, 29), (81, 33)], "_law_rig", ("_law_rig", none)⟩
def d_l_sized : Df := ⟨"_law_sized", "_law_sized", topS 22, ["_law_value", "_law_low", "_law_high"], ["_law_value", "_law_low", "_law_high"], [], "_law_sized", ("_law_sized", none)⟩
def d_l_stretches : Df := ⟨"_law_stretches", "_law_stretches", topS 23, ["_law_lines", "_law_places", "_law_line"], ["_law_lines", "_law_places"], [], "_law_stretches", ("_law_stretches", none)⟩
def d_l_is_placement : Df := ⟨"_law_is_placement", "_law_is_placement", topS 24, ["_law_rig_here", "_law_value", "_law_place", "_law_ring", "_law_far", "_law_bar"], ["_law_rig_here", "_law_value"], [], "_law_is_placement", ("_law_is_placement", none)⟩
def d_l_groups : Df := ⟨"_law_groups", "_law_groups", topS 25, ["_law_count", "_law_found", "_law_ring", "_law_group"], ["_law_count"], [], "_law_groups", ("_law_groups", none)⟩
def d_l_moved : Df := ⟨"_law_moved", "_law_moved", topS 26, ["_law_places", "_law_group", "_law_offset", "_law_ring", "_law_place"], ["_law_places", "_law_group", "_law_offset"], [], "_law_moved", ("_law_moved", none)⟩
def d_l_wander : Df := ⟨"_law_wander", "_law_wander", topS 27, ["_law_drawn", "_law_rig_here", "_law_places", "_law_groups_here", "_law_turn", "_law_group", "_law_far", "_law_other_here"], ["_law_drawn", "_law_rig_here", "_law_places"], [], "_law_wander", ("_law_wander", none)⟩
def d_l_unit : Df := ⟨"_law_unit", "_law_unit", topS 28, ["_law_side"], ["_law_side"], [], "_law_unit", ("_law_unit", none)⟩
def d_l_other : Df := ⟨"_law_other", "_law_other", topS 29, ["_law_side"], ["_law_side"], [], "_law_other", ("_law_other", none)⟩
def d_l_due : Df := ⟨"_law_due", "_law_due", topS 30, ["_law_rig_here", "_law_places", "_law_group", "_law_offset", "_law_after", "_law_ring", "_law_index", "_law_bar"], ["_law_rig_here", "_law_places", "_law_group", "_law_offset"], [], "_law_due", ("_law_due", none)⟩
def d_l_caught : Df := ⟨"_law_caught", "_law_caught", topS 31, ["_law_rig_here", "_law_places", "_law_group", "_law_side", "_law_count", "_law_found", "error", "error.ring", "error.bar"], ["_law_rig_here", "_law_places", "_law_group", "_law_side", "_law_count"], [], "_law_caught", ("_law_caught", none)⟩
def d_law : Df := ⟨"law", "law", topS 32, ["_law_script", "_law_drawn", "_law_size", "_law_rig_here", "_law_places", "_law_groups_here", "_law_before", "_law_turn", "_law_group", "_law_side", "_law_count", "_law_due_here", "_law_found", "_law_again", "_law_back"], ["_law_script"], [], "law", ("law", none)⟩
def ds : List Df := d_AtLimit__init_ :: d_BarTaut__init_ :: d_NotSliding__init_ :: d_stretch_of :: d_unit_of :: d_check_move :: d_move_group :: d_l_draws :: d_l_next :: d_l_one :: d_l_equal :: d_l_integer :: d_l_amount :: d_l_pair :: d_l_rig :: d_l_sized :: d_l_stretches :: d_l_is_placement :: d_l_groups :: d_l_moved :: d_l_wander :: d_l_unit :: d_l_other :: d_l_due :: d_l_caught :: d_law :: []
abbrev R : PySem.W.OpenRow := PySem.W.OpenLaw.row PySem.Challenge.rw_tugrings_k09_moves_of_groups
abbrev fa : List He.Fa := mkFa tb cints cstrs blt cs obT
abbrev fn : List He.DefD := mkFn ds
abbrev hk : PySem.W.Hook := hookE 6 fa fn (exX xtT xiT)
def ob (s : PySem.W.SharedT) : He.AlD × Bool := obE 6 fa fn (exX xtT xiT) (HandSHeadRun.getT s)
theorem ob_eq (s : PySem.W.SharedT) : ob s = hk.obs s.abs := obE_eq (HandSHeadRun.getT_eq s)
def loose : List PySem.Str := (["TugError", "AtLimit", "BarTaut", "NotSliding", "Full", "stretch_of", "RIGHT", "unit_of", "check_move", "move_group", "_law_draws", "_law_next", "_law_one", "_law_equal", "_law_integer", "_law_amount", "_law_pair", "_law_rig", "_law_sized", "_law_stretches"] : List PySem.Str) ++ (["_law_is_placement", "_law_groups", "_law_moved", "_law_wander", "_law_unit", "_law_other", "_law_due", "_law_caught"] : List PySem.Str)
theorem run (w : World) : HandSHeadRun.RunEq R (PySem.W.view R.prog [32]) hk ob 4000 loose w := by
  intro os
  kernel_rfl
end W_k09
namespace Tg
open PySem PySem.Spec PyProof.Rows L2
/-- kinds of cells that are no lists: objects of a class, dicts -/
inductive Kn where
  | obj (x : Str)
  | dct
/-- what such a cell begins with: an object's class and fields, a dict's keys -/
inductive Tag where
  | ob (x : Str) (fs : List Str)
  | di (ks : List Key)
  | fz (ks : List Key)
inductive D where
  | non
  | bl (b : Bool)
  | int (i : Int)
  | str (x : Str)
  | tup (xs : List D)
  | lst (xs : List D)
  | scr (xs : List D)
  | dic
  | loc (n : Nat)
  | cel (k : Kn) (n : Nat)
  | tag (t : Tag)
  /-- a tuple whose whole object is known -/
  | otp (xs : List D)
abbrev Sto := List (List D)
abbrev En := List (Option D)
/-- a tuple that stands apart from the cells -/
def ImT (K : Fg) (r m : List Addr) (H : Hp) (a : Addr) (xs : List V) : Prop :=
  (H a = some (.tup xs) ∧ (a ∉ m ∧ a ∉ r) ∧ xs.length ≤ sizeLine) ∨
    ∃ (o : Obj) (its : Array Value) (n : Nat), K.lookup a = some o ∧ o.cls = .type "tuple" ∧ o.data = .seq its n ∧ its.size ≤ sizeLine ∧ Vals xs its.toList
def ImS (K : Fg) (r m : List Addr) (H : Hp) (a : Addr) (xs : List V) : Prop :=
  (Rd H a (.lst xs) ∧ (a ∉ m ∧ a ∉ r)) ∨
    ∃ (o : Obj) (its : Array Value) (n : Nat), K.lookup a = some o ∧ o.cls = .type "list" ∧ o.dict = none ∧ o.data = .seq its n ∧ its.size ≤ sizeLine ∧ Vals xs its.toList
/-- a tuple all of whose object is known -/
def ImO (r m : List Addr) (H : Hp) (a : Addr) (xs : List V) : Prop :=
  ∃ o : Obj, H a = some (.frz o (.tup xs)) ∧ o.cls = .type "tuple" ∧ o.dict = none ∧ (a ∉ m ∧ a ∉ r) ∧ xs.length ≤ sizeLine
/-- a dict, be it locked or not -/
def isDct : HO → Prop
  | .dK _ => True
  | .frz _ (.dK _) => True
  | _ => False
/-- an object of a kind -/
def KnIs (K : Fg) : Kn → HO → Prop
  | .obj x, o => ∃ dx fs, o = .ins (He.ga K x) dx fs
  | .dct, o => isDct o
/-- a cell's object stays of its kind; a dict may be locked -/
def KEq : HO → HO → Prop
  | .lst _, o => ∃ ys, o = .lst ys
  | .dK _, o => isDct o
  | .ins C dx _, o => ∃ fs, o = .ins C dx fs
  | x, o => o = x
theorem KEq.refl (o : HO) : KEq o o := by
  cases o <;> first | exact ⟨_, rfl⟩ | rfl | exact True.intro
theorem isDct.keep {o u : HO} (h : isDct o) (q : KEq o u) : isDct u := by
  unfold isDct at h
  split at h
  · exact q
  · have q : u = _ := q
    rw [q]
    exact True.intro
  · exact False.elim h
theorem KEq.trans {a b c : HO} (h : KEq a b) (q : KEq b c) : KEq a c := by
  cases a <;> first | (obtain ⟨ys, rfl⟩ := h; exact q) | (cases h; exact q) | exact isDct.keep h q
/-- what data asks of another heap -/
def KWk : HO → HO → Prop
  | .lst _, o => ∃ ys, o = .lst ys
  | .dK _, o => isDct o
  | .frz _ (.dK _), o => isDct o
  | .ins C dx _, o => ∃ fs, o = .ins C dx fs
  | _, _ => True
theorem KEq.wk {o u : HO} (h : KEq o u) : KWk o u := by
  cases o <;> try exact h
  case frz od w =>
    have h : u = .frz od w := h
    rw [h]
    cases w <;> exact True.intro
  all_goals exact True.intro
theorem KnIs.wk {K : Fg} {k : Kn} {o u : HO} (h : KnIs K k o) (q : KWk o u) : KnIs K k u := by
  cases k with
  | obj x =>
    obtain ⟨dx, fs, rfl⟩ := h
    obtain ⟨gs, rfl⟩ := q
    exact ⟨dx, gs, rfl⟩
  | dct =>
    have h : isDct o := h
    show isDct u
    unfold isDct at h
    split at h
    · exact q
    · exact q
    · exact False.elim h
theorem KnIs.keep {K : Fg} {k : Kn} {o u : HO} (h : KnIs K k o) (q : KEq o u) : KnIs K k u := h.wk q.wk
mutual
def Den (K : Fg) (r m : List Addr) (H : Hp) : D → V → Prop
  | .non, v => v = .non
  | .bl b, v => v = .bl b
  | .int i, v => v = .int i
  | .str x, v => v = .str x
  | .tup ds, v => ∃ a xs, v = .ref a ∧ ImT K r m H a xs ∧ Dens K r m H ds xs
  | .lst ds, v => ∃ a xs, v = .ref a ∧ H a = some (.lst xs) ∧ (a ∉ m ∧ a ∉ r) ∧ xs.length ≤ sizeLine ∧ Dens K r m H ds xs
  | .scr ds, v => ∃ a xs, v = .ref a ∧ ImS K r m H a xs ∧ ds.length ≤ 1000 ∧ Dens K r m H ds xs
  | .dic, v => ∃ a, v = .ref a ∧ H a = some (.dK []) ∧ (a ∉ m ∧ a ∉ r)
  | .loc n, v => ∃ a, v = .ref a ∧ m[n]? = some a ∧ ∃ xs, H a = some (.lst xs)
  | .cel k n, v => ∃ a o, v = .ref a ∧ m[n]? = some a ∧ H a = some o ∧ KnIs K k o
  | .tag _, _ => False
  | .otp ds, v => ∃ a xs, v = .ref a ∧ ImO r m H a xs ∧ Dens K r m H ds xs
def Dens (K : Fg) (r m : List Addr) (H : Hp) : List D → List V → Prop
  | [], xs => xs = []
  | d :: ds, xs => ∃ x q, xs = x :: q ∧ Den K r m H d x ∧ Dens K r m H ds q
end
/-- what lies at a cell's address -/
def CellR (K : Fg) (r m : List Addr) (H : Hp) (a : Addr) : List D → Prop
  | .tag (.ob x ns) :: ds => ∃ dx vs, H a = some (.ins (He.ga K x) dx (ns.zip vs)) ∧ ns.length = vs.length ∧ vs.length ≤ 900 ∧ Dens K r m H ds vs
  | .tag (.di ks) :: ds => ∃ vs, H a = some (.dK (ks.zip vs)) ∧ ks.length = vs.length ∧ vs.length ≤ sizeLine ∧ Dens K r m H ds vs
  | .tag (.fz ks) :: ds => ∃ od vs, H a = some (.frz od (.dK (ks.zip vs))) ∧ ks.length = vs.length ∧ vs.length ≤ sizeLine ∧ Dens K r m H ds vs
  | c => ∃ xs, H a = some (.lst xs) ∧ xs.length ≤ sizeLine ∧ Dens K r m H c xs
/-- the cells lie in the heap -/
structure Good (K : Fg) (r m : List Addr) (st : Sto) (H : Hp) : Prop where
  len : m.length = st.length
  nd : m.Nodup
  res : ∀ a ∈ r, H a ≠ none
  cell : ∀ (i : Nat) (a : Addr) (c : List D), m[i]? = some a → st[i]? = some c → CellR K r m H a c
/-- later heaps -/
structure Le (m : List Addr) (H : Hp) (m' : List Addr) (H' : Hp) : Prop where
  ext : ∃ r, m' = m ++ r ∧ ∀ a ∈ r, H a = none
  keep : ∀ a o, H a = some o → a ∉ m → H' a = some o
  there : ∀ a, H' a = none → H a = none
  kind : ∀ a o, a ∈ m → H a = some o → ∃ u, H' a = some u ∧ KEq o u
section
variable {K : Fg} {r m m1 m2 : List Addr} {H H1 H2 : Hp} {st : Sto}
theorem Le.refl (m : List Addr) (H : Hp) : Le m H m H := ⟨⟨[], by simp, fun _ h => nomatch h⟩, fun _ _ h _ => h, fun _ h => h, fun _ o _ h => ⟨o, h, KEq.refl o⟩⟩
theorem Le.trans (a : Le m H m1 H1) (b : Le m1 H1 m2 H2) : Le m H m2 H2 := by
  obtain ⟨⟨r, e, f⟩, k, t, kd⟩ := a
  obtain ⟨⟨r2, e2, f2⟩, k2, t2, kd2⟩ := b
  refine ⟨⟨r ++ r2, by rw [e2, e, List.append_assoc], fun x hx => ?_⟩, fun x o h n => ?_, fun x h => t x (t2 x h), fun x o hm h => ?_⟩
  · rcases List.mem_append.mp hx with h | h
    · exact f x h
    · exact t x (f2 x h)
  · refine k2 x o (k x o h n) ?_
    rw [e]
    intro z
    rcases List.mem_append.mp z with z | z
    · exact n z
    · rw [f x z] at h
      cases h
  · obtain ⟨u, h1, q1⟩ := kd x o hm h
    obtain ⟨w, h2, q2⟩ := kd2 x u (by rw [e]; exact List.mem_append_left _ hm) h1
    exact ⟨w, h2, q1.trans q2⟩
theorem Le.out1 (l : Le m H m1 H1) {a : Addr} {o : HO} (h : H a = some o) (n : a ∉ m) : a ∉ m1 := by
  obtain ⟨⟨r, e, f⟩, _, _, _⟩ := l
  rw [e]
  intro z
  rcases List.mem_append.mp z with z | z
  · exact n z
  · rw [f a z] at h
    cases h
theorem Le.out (l : Le m H m1 H1) {a : Addr} {o : HO} (h : H a = some o) (n : a ∉ m ∧ a ∉ r) : a ∉ m1 ∧ a ∉ r := ⟨l.out1 h n.1, n.2⟩
theorem Le.at (l : Le m H m1 H1) {n : Nat} {a : Addr} (h : m[n]? = some a) : m1[n]? = some a := by
  obtain ⟨⟨r, e, _⟩, _, _, _⟩ := l
  rw [e, List.getElem?_append_left (List.getElem?_eq_some_iff.mp h).1]
  exact h
theorem Le.isL (l : Le m H m1 H1) {n : Nat} {a : Addr} {xs : List V} (h : m[n]? = some a) (e : H a = some (.lst xs)) : ∃ ys, H1 a = some (.lst ys) := by
  obtain ⟨u, h1, ys, rfl⟩ := l.kind a _ (List.mem_of_getElem? h) e
  exact ⟨ys, h1⟩
theorem ImT.mono (l : Le m H m1 H1) {a : Addr} {xs : List V} (h : ImT K r m H a xs) : ImT K r m1 H1 a xs := by
  rcases h with ⟨h, n, z⟩ | h
  · exact .inl ⟨l.keep a _ h n.1, l.out h n, z⟩
  · exact .inr h
theorem ImS.mono (l : Le m H m1 H1) {a : Addr} {xs : List V} (h : ImS K r m H a xs) : ImS K r m1 H1 a xs := by
  rcases h with ⟨h | ⟨o, h⟩, n⟩ | h
  · exact .inl ⟨.inl (l.keep a _ h n.1), l.out h n⟩
  · exact .inl ⟨.inr ⟨o, l.keep a _ h n.1⟩, l.out h n⟩
  · exact .inr h
theorem ImO.mono (l : Le m H m1 H1) {a : Addr} {xs : List V} (h : ImO r m H a xs) : ImO r m1 H1 a xs := by
  obtain ⟨o, h, c, d, n, z⟩ := h
  exact ⟨o, l.keep a _ h n.1, c, d, l.out h n, z⟩
theorem ImO.sq {a : Addr} {xs : List V} (h : ImO r m H a xs) : SqT K H a xs := by
  obtain ⟨o, h, _⟩ := h
  exact .inl (.inr ⟨o, h⟩)
theorem ImO.len {a : Addr} {xs : List V} (h : ImO r m H a xs) : xs.length ≤ sizeLine := by
  obtain ⟨o, _, _, _, _, z⟩ := h
  exact z
theorem ImT.sq {a : Addr} {xs : List V} (h : ImT K r m H a xs) : SqT K H a xs := by
  rcases h with ⟨h, _⟩ | h
  · exact .inl (.inl h)
  · exact .inr h
theorem ImS.sq {a : Addr} {xs : List V} (h : ImS K r m H a xs) : SqL K H a xs := by
  rcases h with ⟨h, _⟩ | h
  · exact .inl h
  · exact .inr h
theorem ImT.len {a : Addr} {xs : List V} (h : ImT K r m H a xs) : xs.length ≤ sizeLine := by
  rcases h with ⟨_, _, h⟩ | ⟨o, its, n, _, _, _, h, r⟩
  · exact h
  · rw [r.length]
    simpa using h
mutual
theorem Den.mono (l : Le m H m1 H1) : ∀ (d : D) (v : V), Den K r m H d v → Den K r m1 H1 d v
  | .non, _, h => h
  | .bl _, _, h => h
  | .int _, _, h => h
  | .str _, _, h => h
  | .tup ds, _, h => by
    obtain ⟨a, xs, e, i, q⟩ := h
    exact ⟨a, xs, e, i.mono l, Dens.mono l ds xs q⟩
  | .lst ds, _, h => by
    obtain ⟨a, xs, e, i, n, z, q⟩ := h
    exact ⟨a, xs, e, l.keep a _ i n.1, l.out i n, z, Dens.mono l ds xs q⟩
  | .scr ds, _, h => by
    obtain ⟨a, xs, e, i, z, q⟩ := h
    exact ⟨a, xs, e, i.mono l, z, Dens.mono l ds xs q⟩
  | .dic, _, h => by
    obtain ⟨a, e, i, n⟩ := h
    exact ⟨a, e, l.keep a _ i n.1, l.out i n⟩
  | .loc n, _, h => by
    obtain ⟨a, e, i, xs, hx⟩ := h
    exact ⟨a, e, l.at i, l.isL i hx⟩
  | .cel k n, _, h => by
    obtain ⟨a, o, e, i, ho, hk⟩ := h
    obtain ⟨u, h1, q⟩ := l.kind a o (List.mem_of_getElem? i) ho
    exact ⟨a, u, e, l.at i, h1, hk.keep q⟩
  | .tag _, _, h => h
  | .otp ds, _, h => by
    obtain ⟨a, xs, e, i, q⟩ := h
    exact ⟨a, xs, e, i.mono l, Dens.mono l ds xs q⟩
theorem Dens.mono (l : Le m H m1 H1) : ∀ (ds : List D) (vs : List V), Dens K r m H ds vs → Dens K r m1 H1 ds vs
  | [], _, h => h
  | d :: ds, _, h => by
    obtain ⟨x, r, e, a, b⟩ := h
    exact ⟨x, r, e, Den.mono l d x a, Dens.mono l ds _ b⟩
end
theorem Dens.len : ∀ {ds : List D} {vs : List V}, Dens K r m H ds vs → ds.length = vs.length
  | [], _, h => by
    cases h
    rfl
  | d :: ds, _, h => by
    obtain ⟨x, r, rfl, _, b⟩ := h
    rw [List.length_cons, List.length_cons, Dens.len b]
theorem Dens.get : ∀ {ds : List D} {vs : List V} {i : Nat} {d : D}, Dens K r m H ds vs → ds[i]? = some d → ∃ v, vs[i]? = some v ∧ Den K r m H d v
  | [], _, _, _, _, e => by simp at e
  | d :: ds, _, 0, _, h, e => by
    obtain ⟨x, r, rfl, a, _⟩ := h
    simp at e
    subst e
    exact ⟨x, rfl, a⟩
  | d :: ds, _, i + 1, _, h, e => by
    obtain ⟨x, r, rfl, _, b⟩ := h
    exact Dens.get (i := i) b (by simpa using e)
theorem Dens.getV {ds : List D} {vs : List V} {i : Nat} {v : V} (h : Dens K r m H ds vs) (e : vs[i]? = some v) : ∃ d, ds[i]? = some d ∧ Den K r m H d v := by
  have hl := h.len
  have hi : i < ds.length := by
    rw [hl]
    exact (List.getElem?_eq_some_iff.mp e).1
  obtain ⟨w, e2, q⟩ := h.get (List.getElem?_eq_getElem hi)
  rw [e] at e2
  cases e2
  exact ⟨_, List.getElem?_eq_getElem hi, q⟩
theorem Dens.append : ∀ {ds es : List D} {vs ws : List V}, Dens K r m H ds vs → Dens K r m H es ws → Dens K r m H (ds ++ es) (vs ++ ws)
  | [], _, _, _, h, q => by
    cases h
    exact q
  | d :: ds, _, _, _, h, q => by
    obtain ⟨x, r, rfl, a, b⟩ := h
    exact ⟨x, r ++ _, rfl, a, b.append q⟩
theorem Dens.one {d : D} {v : V} (h : Den K r m H d v) : Dens K r m H [d] [v] := ⟨v, [], rfl, h, rfl⟩
theorem Dens.cons {d : D} {v : V} {ds : List D} {vs : List V} (h : Den K r m H d v) (q : Dens K r m H ds vs) : Dens K r m H (d :: ds) (v :: vs) := ⟨v, vs, rfl, h, q⟩
theorem Dens.drop : ∀ {ds : List D} {vs : List V} (n : Nat), Dens K r m H ds vs → Dens K r m H (ds.drop n) (vs.drop n)
  | _, _, 0, h => h
  | [], _, n + 1, h => by
    cases h
    rfl
  | d :: ds, _, n + 1, h => by
    obtain ⟨x, r, rfl, _, b⟩ := h
    exact Dens.drop n b
theorem Dens.take : ∀ {ds : List D} {vs : List V} (n : Nat), Dens K r m H ds vs → Dens K r m H (ds.take n) (vs.take n)
  | _, _, 0, _ => rfl
  | [], _, n + 1, h => by
    cases h
    rfl
  | d :: ds, _, n + 1, h => by
    obtain ⟨x, r, rfl, a, b⟩ := h
    exact ⟨x, r.take n, rfl, a, Dens.take n b⟩
theorem Dens.set : ∀ {ds : List D} {vs : List V} (n : Nat) {d : D} {v : V}, Den K r m H d v → Dens K r m H ds vs → Dens K r m H (ds.set n d) (vs.set n v)
  | [], _, _, _, _, _, h => by
    cases h
    rfl
  | d :: ds, _, 0, _, _, q, h => by
    obtain ⟨x, r, rfl, _, b⟩ := h
    exact ⟨_, r, rfl, q, b⟩
  | d :: ds, _, n + 1, _, _, q, h => by
    obtain ⟨x, r, rfl, a, b⟩ := h
    exact ⟨x, _, rfl, a, Dens.set n q b⟩
theorem Dens.eraseIdx : ∀ {ds : List D} {vs : List V} (n : Nat), Dens K r m H ds vs → Dens K r m H (ds.eraseIdx n) (vs.eraseIdx n)
  | [], _, _, h => by
    cases h
    rfl
  | d :: ds, _, 0, h => by
    obtain ⟨x, r, rfl, _, b⟩ := h
    exact b
  | d :: ds, _, n + 1, h => by
    obtain ⟨x, r, rfl, a, b⟩ := h
    exact ⟨x, _, rfl, a, Dens.eraseIdx n b⟩
theorem Dens.ints : ∀ (ns : List Int) (vs : List V), Dens K r m H (ns.map D.int) vs → vs = ns.map V.int
  | [], _, h => h
  | n :: ns, _, h => by
    obtain ⟨x, r, rfl, a, b⟩ := h
    cases a
    rw [Dens.ints ns r b]
    rfl
theorem Dens.of_ints : ∀ (ns : List Int), Dens K r m H (ns.map D.int) (ns.map V.int)
  | [] => rfl
  | n :: ns => ⟨_, _, rfl, rfl, Dens.of_ints ns⟩
theorem Dens.bls : ∀ (ns : List Bool) (vs : List V), Dens K r m H (ns.map D.bl) vs → vs = ns.map V.bl
  | [], _, h => h
  | n :: ns, _, h => by
    obtain ⟨x, r, rfl, a, b⟩ := h
    cases a
    rw [Dens.bls ns r b]
    rfl
/-- a cell of a list -/
theorem CellR.list {a : Addr} {c : List D} {ys : List V} (h : CellR K r m H a c) (e : H a = some (.lst ys)) : ∃ xs, H a = some (.lst xs) ∧ xs.length ≤ sizeLine ∧ Dens K r m H c xs := by
  unfold CellR at h
  split at h
  · obtain ⟨dx, vs, h, _⟩ := h
    rw [e] at h
    cases h
  · obtain ⟨vs, h, _⟩ := h
    rw [e] at h
    cases h
  · obtain ⟨od, vs, h, _⟩ := h
    rw [e] at h
    cases h
  · exact h
theorem CellR.ofList {a : Addr} {c : List D} {xs : List V} (e : H a = some (.lst xs)) (z : xs.length ≤ sizeLine) (q : Dens K r m H c xs) : CellR K r m H a c := by
  unfold CellR
  split
  · obtain ⟨x, t, _, f, _⟩ := q
    exact False.elim f
  · obtain ⟨x, t, _, f, _⟩ := q
    exact False.elim f
  · obtain ⟨x, t, _, f, _⟩ := q
    exact False.elim f
  · exact ⟨xs, e, z, q⟩
theorem CellR.there {a : Addr} {c : List D} (h : CellR K r m H a c) : ∃ o, H a = some o := by
  unfold CellR at h
  split at h
  · obtain ⟨dx, vs, h, _⟩ := h
    exact ⟨_, h⟩
  · obtain ⟨vs, h, _⟩ := h
    exact ⟨_, h⟩
  · obtain ⟨od, vs, h, _⟩ := h
    exact ⟨_, h⟩
  · obtain ⟨vs, h, _⟩ := h
    exact ⟨_, h⟩
theorem CellR.imp {r' m' : List Addr} {H' : Hp} {a : Addr} {c : List D} (h : CellR K r m H a c) (e : ∀ o, H a = some o → H' a = some o) (hd : ∀ ds vs, Dens K r m H ds vs → Dens K r' m' H' ds vs) : CellR K r' m' H' a c := by
  unfold CellR at h ⊢
  split at h
  · obtain ⟨dx, vs, h, l, z, q⟩ := h
    exact ⟨dx, vs, e _ h, l, z, hd _ _ q⟩
  · obtain ⟨vs, h, l, z, q⟩ := h
    exact ⟨vs, e _ h, l, z, hd _ _ q⟩
  · obtain ⟨od, vs, h, l, z, q⟩ := h
    exact ⟨od, vs, e _ h, l, z, hd _ _ q⟩
  · obtain ⟨vs, h, z, q⟩ := h
    exact ⟨vs, e _ h, z, hd _ _ q⟩
theorem Good.cellL (g : Good K r m st H) {i : Nat} {a : Addr} {c : List D} {ys : List V} (e : m[i]? = some a) (f : st[i]? = some c) (l : H a = some (.lst ys)) : ∃ xs, H a = some (.lst xs) ∧ xs.length ≤ sizeLine ∧ Dens K r m H c xs := (g.cell i a c e f).list l
theorem Good.fresh (g : Good K r m st H) {p : Addr} (h : H p = none) : p ∉ m ∧ p ∉ r := by
  refine ⟨fun z => ?_, fun z => g.res p z h⟩
  obtain ⟨i, e⟩ := List.getElem?_of_mem z
  have hi : i < st.length := by
    rw [← g.len]
    exact (List.getElem?_eq_some_iff.mp e).1
  obtain ⟨o, q⟩ := (g.cell i p _ e (List.getElem?_eq_getElem hi)).there
  rw [h] at q
  cases q
theorem le_upd {p : Addr} {o : HO} (h : H p = none) : Le m H m (upd H p o) := by
  refine ⟨⟨[], by simp, fun _ z => nomatch z⟩, fun a u e _ => ?_, fun a e => ?_, fun a u _ e => ⟨u, ?_, KEq.refl u⟩⟩
  · rw [upd_ne (ne_of_none e h)]
    exact e
  · by_cases q : a = p
    · rw [q]
      exact h
    · rw [upd_ne q] at e
      exact e
  · rw [upd_ne (ne_of_none e h)]
    exact e
theorem Good.mono (g : Good K r m st H) (l : Le m H m H1) (hc : ∀ a o, a ∈ m → H a = some o → H1 a = some o) : Good K r m st H1 :=
  ⟨g.len, g.nd, fun a ha e => g.res a ha (l.there a e), fun i a c e f => (g.cell i a c e f).imp (fun o => hc a o (List.mem_of_getElem? e)) fun ds vs q => q.mono l⟩
theorem Good.upd (g : Good K r m st H) {p : Addr} {o : HO} (h : H p = none) : Good K r m st (upd H p o) :=
  g.mono (le_upd h) fun a xs _ e => by
    rw [upd_ne (ne_of_none e h)]
    exact e
/-- a new cell -/
theorem Good.snoc (g : Good K r m st H) {p : Addr} {xs : List V} {c : List D} (h : H p = none) (z : xs.length ≤ sizeLine) (q : Dens K r m H c xs) :
    Le m H (m ++ [p]) (L2.upd H p (.lst xs)) ∧ Good K r (m ++ [p]) (st ++ [c]) (L2.upd H p (.lst xs)) := by
  have l : Le m H (m ++ [p]) (L2.upd H p (.lst xs)) := by
    refine ⟨⟨[p], rfl, fun a e => ?_⟩, (le_upd h).keep, (le_upd (m := m) h).there, (le_upd h).kind⟩
    rw [List.mem_singleton.mp e]
    exact h
  refine ⟨l, ?_, ?_, ?_, fun i a d e f => ?_⟩
  · rw [List.length_append, List.length_append, g.len]
    rfl
  · rw [List.nodup_append]
    refine ⟨g.nd, by simp, fun a ha b hb => ?_⟩
    rw [List.mem_singleton.mp hb]
    intro e
    rw [e] at ha
    exact (g.fresh h).1 ha
  · intro a ha e
    exact g.res a ha (l.there a e)
  · by_cases hi : i < m.length
    · rw [List.getElem?_append_left hi] at e
      rw [List.getElem?_append_left (by rw [← g.len]; exact hi)] at f
      refine (g.cell i a d e f).imp (fun o a1 => ?_) fun ds vs q => q.mono l
      rw [upd_ne (ne_of_none a1 h)]
      exact a1
    · have hm : m.length ≤ i := Nat.le_of_not_lt hi
      rw [List.getElem?_append_right hm] at e
      rw [List.getElem?_append_right (by rw [← g.len]; exact hm)] at f
      have hz : i - m.length = 0 := by
        have := (List.getElem?_eq_some_iff.mp e).1
        simp at this
        omega
      rw [hz] at e
      rw [← g.len, hz] at f
      simp at e f
      subst e f
      exact CellR.ofList upd_same z (q.mono l)
/-- a cell is written -/
theorem Good.put (g : Good K r m st H) {n : Nat} {p : Addr} {xs ys : List V} {c : List D} (hn : m[n]? = some p) (hl : H p = some (.lst ys)) (z : xs.length ≤ sizeLine) (q : Dens K r m H c xs) :
    Le m H m (L2.upd H p (.lst xs)) ∧ Good K r m (st.set n c) (L2.upd H p (.lst xs)) := by
  have hp : p ∈ m := List.mem_of_getElem? hn
  have l : Le m H m (L2.upd H p (.lst xs)) := by
    refine ⟨⟨[], by simp, fun _ z => nomatch z⟩, fun a u e na => ?_, fun a e => ?_, fun a u _ e => ?_⟩
    · rw [upd_ne (fun z => na (by rw [z]; exact hp))]
      exact e
    · by_cases qa : a = p
      · rw [qa, upd_same] at e
        cases e
      · rw [upd_ne qa] at e
        exact e
    · by_cases qa : a = p
      · subst qa
        rw [hl] at e
        cases e
        exact ⟨_, upd_same, xs, rfl⟩
      · exact ⟨u, by rw [upd_ne qa]; exact e, KEq.refl u⟩
  refine ⟨l, by rw [List.length_set]; exact g.len, g.nd, fun a ha e => g.res a ha (l.there a e), fun i a d e f => ?_⟩
  by_cases hi : i = n
  · subst hi
    rw [hn] at e
    cases e
    have hl : i < st.length := by
      have := (List.getElem?_eq_some_iff.mp f).1
      rwa [List.length_set] at this
    rw [List.getElem?_set_self hl] at f
    cases f
    exact CellR.ofList upd_same z (q.mono l)
  · rw [List.getElem?_set_ne (Ne.symm hi)] at f
    refine (g.cell i a d e f).imp (fun o a1 => ?_) fun ds vs q => q.mono l
    rw [upd_ne]
    · exact a1
    · intro z
      subst z
      obtain ⟨h1, e1⟩ := List.getElem?_eq_some_iff.mp e
      obtain ⟨h2, e2⟩ := List.getElem?_eq_some_iff.mp hn
      exact hi ((List.getElem_inj g.nd).mp (e1.trans e2.symm))
end
section
variable {K : Fg} {r m : List Addr} {H : Hp} {st : Sto}
/-- a cell gets another object of its kind -/
theorem Good.putG (g : Good K r m st H) {n : Nat} {p : Addr} {o u : HO} {c : List D} (hn : m[n]? = some p) (ho : H p = some o) (hk : KEq o u) (hc : Le m H m (L2.upd H p u) → CellR K r m (L2.upd H p u) p c) :
    Le m H m (L2.upd H p u) ∧ Good K r m (st.set n c) (L2.upd H p u) := by
  have hp : p ∈ m := List.mem_of_getElem? hn
  have l : Le m H m (L2.upd H p u) := by
    refine ⟨⟨[], by simp, fun _ z => nomatch z⟩, fun a w e na => ?_, fun a e => ?_, fun a w _ e => ?_⟩
    · rw [upd_ne (fun z => na (by rw [z]; exact hp))]
      exact e
    · by_cases qa : a = p
      · rw [qa, upd_same] at e
        cases e
      · rw [upd_ne qa] at e
        exact e
    · by_cases qa : a = p
      · subst qa
        rw [ho] at e
        cases e
        exact ⟨_, upd_same, hk⟩
      · exact ⟨w, by rw [upd_ne qa]; exact e, KEq.refl w⟩
  refine ⟨l, by rw [List.length_set]; exact g.len, g.nd, fun a ha e => g.res a ha (l.there a e), fun i a d e f => ?_⟩
  by_cases hi : i = n
  · subst hi
    rw [hn] at e
    cases e
    have hl : i < st.length := by
      have := (List.getElem?_eq_some_iff.mp f).1
      rwa [List.length_set] at this
    rw [List.getElem?_set_self hl] at f
    cases f
    exact hc l
  · rw [List.getElem?_set_ne (Ne.symm hi)] at f
    refine (g.cell i a d e f).imp (fun o a1 => ?_) fun ds vs q => q.mono l
    rw [upd_ne]
    · exact a1
    · intro z
      subst z
      obtain ⟨h1, e1⟩ := List.getElem?_eq_some_iff.mp e
      obtain ⟨h2, e2⟩ := List.getElem?_eq_some_iff.mp hn
      exact hi ((List.getElem_inj g.nd).mp (e1.trans e2.symm))
/-- a new cell of any kind -/
theorem Good.snocG (g : Good K r m st H) {p : Addr} {u : HO} {c : List D} (h : H p = none) (hc : Le m H (m ++ [p]) (L2.upd H p u) → CellR K r (m ++ [p]) (L2.upd H p u) p c) :
    Le m H (m ++ [p]) (L2.upd H p u) ∧ Good K r (m ++ [p]) (st ++ [c]) (L2.upd H p u) := by
  have l : Le m H (m ++ [p]) (L2.upd H p u) := by
    refine ⟨⟨[p], rfl, fun a e => ?_⟩, (le_upd h).keep, (le_upd (m := m) h).there, (le_upd h).kind⟩
    rw [List.mem_singleton.mp e]
    exact h
  refine ⟨l, ?_, ?_, ?_, fun i a d e f => ?_⟩
  · rw [List.length_append, List.length_append, g.len]
    rfl
  · rw [List.nodup_append]
    refine ⟨g.nd, by simp, fun a ha b hb => ?_⟩
    rw [List.mem_singleton.mp hb]
    intro e
    rw [e] at ha
    exact (g.fresh h).1 ha
  · intro a ha e
    exact g.res a ha (l.there a e)
  · by_cases hi : i < m.length
    · rw [List.getElem?_append_left hi] at e
      rw [List.getElem?_append_left (by rw [← g.len]; exact hi)] at f
      refine (g.cell i a d e f).imp (fun o a1 => ?_) fun ds vs q => q.mono l
      rw [upd_ne (ne_of_none a1 h)]
      exact a1
    · have hm : m.length ≤ i := Nat.le_of_not_lt hi
      rw [List.getElem?_append_right hm] at e
      rw [List.getElem?_append_right (by rw [← g.len]; exact hm)] at f
      have hz : i - m.length = 0 := by
        have := (List.getElem?_eq_some_iff.mp e).1
        simp at this
        omega
      rw [hz] at e
      rw [← g.len, hz] at f
      simp at e f
      subst e f
      exact hc l
end
def EnvR (K : Fg) (r m : List Addr) (H : Hp) (env : En) (σ : L2.St) : Prop :=
  env.length = σ.length ∧ ∀ (i : Nat) (d : D), env[i]? = some (some d) → ∃ v, σ[i]? = some (some v) ∧ Den K r m H d v
section
variable {K : Fg} {r m m1 : List Addr} {H H1 : Hp} {env : En} {σ : L2.St}
theorem EnvR.mono (l : Le m H m1 H1) (h : EnvR K r m H env σ) : EnvR K r m1 H1 env σ :=
  ⟨h.1, fun i d e => by
    obtain ⟨v, a, b⟩ := h.2 i d e
    exact ⟨v, a, b.mono l⟩⟩
theorem EnvR.set (h : EnvR K r m H env σ) {i : Nat} {d : D} {v : V} (q : Den K r m H d v) : EnvR K r m H (env.set i (some d)) (σ.set i (some v)) := by
  refine ⟨by rw [List.length_set, List.length_set]; exact h.1, fun j e f => ?_⟩
  by_cases hj : i = j
  · subst hj
    have hl : i < env.length := by
      have := (List.getElem?_eq_some_iff.mp f).1
      rwa [List.length_set] at this
    rw [List.getElem?_set_self hl] at f
    cases f
    exact ⟨v, List.getElem?_set_self (by rw [← h.1]; exact hl), q⟩
  · rw [List.getElem?_set_ne hj] at f
    rw [List.getElem?_set_ne hj]
    exact h.2 j e f
def wipeE (env : En) : List Nat → En
  | [] => env
  | v :: vs => (wipeE env vs).set v none
theorem EnvR.setN (h : EnvR K r m H env σ) (i : Nat) : EnvR K r m H (env.set i none) (σ.set i none) := by
  refine ⟨by rw [List.length_set, List.length_set]; exact h.1, fun j e f => ?_⟩
  by_cases hj : i = j
  · subst hj
    have hl : i < env.length := by
      have := (List.getElem?_eq_some_iff.mp f).1
      rwa [List.length_set] at this
    rw [List.getElem?_set_self hl] at f
    cases f
  · rw [List.getElem?_set_ne hj] at f
    rw [List.getElem?_set_ne hj]
    exact h.2 j e f
theorem EnvR.wipe (h : EnvR K r m H env σ) : ∀ vs : List Nat, EnvR K r m H (wipeE env vs) (L2.wipe σ vs)
  | [] => h
  | v :: vs => by
    unfold wipeE L2.wipe
    exact (EnvR.wipe h vs).setN v
end
end Tg
namespace Tg
open PySem PySem.Spec PyProof.Rows L2
abbrev DE := En → Sto → Option (D × Sto)
abbrev DB := En → Sto → Option (Bool × Sto)
abbrev DA := En → Sto → Option (List D × Sto)
def tE (K : Fg) (f : DE) : TE := fun σ H Q => ∃ r m st env d st', Good K r m st H ∧ EnvR K r m H env σ ∧ f env st = some (d, st') ∧
  ∀ m' H' v, Le m H m' H' → Good K r m' st' H' → Den K r m' H' d v → Q v H'
def tBo (K : Fg) (f : DB) : TT := fun σ H Q => ∃ r m st env b st', Good K r m st H ∧ EnvR K r m H env σ ∧ f env st = some (b, st') ∧
  ∀ m' H', Le m H m' H' → Good K r m' st' H' → Q b H'
def tAr (K : Fg) (f : DA) : TA := fun σ H Q => ∃ r m st env ds st', Good K r m st H ∧ EnvR K r m H env σ ∧ f env st = some (ds, st') ∧
  ∀ m' H' vs, Le m H m' H' → Good K r m' st' H' → Dens K r m' H' ds vs → Q vs H'
section
variable {X : Cx} {e : Expr} {K : Fg}
theorem pe_imp {t t' : TE} (h : PE X e t) (q : ∀ σ H Q, t' σ H Q → t σ H Q) : PE X e t' := ⟨fun pins s σ H Q I w => h.run pins s σ H Q I (q _ _ _ w)⟩
theorem pt_imp {t t' : TT} (h : PT X e t) (q : ∀ σ H Q, t' σ H Q → t σ H Q) : PT X e t' := ⟨fun pins s σ H Q I w => h.run pins s σ H Q I (q _ _ _ w)⟩
theorem pw_imp {t t' : TT} (h : PW X e t) (q : ∀ σ H Q, t' σ H Q → t σ H Q) : PW X e t' := ⟨fun wh pins s σ H Q I w => h.run wh pins s σ H Q I (q _ _ _ w)⟩
theorem pa_imp {es : List Expr} {t t' : TA} (h : PA X es t) (q : ∀ σ H Q, t' σ H Q → t σ H Q) : PA X es t' := ⟨fun pos pins s σ H Q I w => h.run pos pins s σ H Q I (q _ _ _ w)⟩
end
mutual
def pyD : D → PyData
  | .bl b => .bool b
  | .int i => .int i
  | .str x => .str x
  | .tup xs => .tuple (pyDs xs)
  | .lst xs => .list (pyDs xs)
  | _ => .none
def pyDs : List D → List PyData
  | [] => []
  | d :: ds => pyD d :: pyDs ds
end
mutual
def lay : D → Bool
  | .non => true
  | .bl _ => true
  | .int _ => true
  | .str x => PyData.strOk x
  | .tup xs => lays xs
  | .lst xs => lays xs
  | _ => false
def lays : List D → Bool
  | [] => true
  | d :: ds => lay d && lays ds
end
mutual
def dep : D → Nat
  | .tup xs => deps xs + 1
  | .lst xs => deps xs + 1
  | _ => 0
def deps : List D → Nat
  | [] => 0
  | d :: ds => max (dep d) (deps ds)
end
mutual
theorem lay_can : ∀ d : D, lay d = true → (pyD d).canLay0 = true
  | .non, _ => by simp [pyD, PyData.canLay0]
  | .bl _, _ => by simp [pyD, PyData.canLay0]
  | .int _, _ => by simp [pyD, PyData.canLay0]
  | .str _, h => by simpa [pyD, PyData.canLay0, lay] using h
  | .tup xs, h => by
    simp only [pyD, PyData.canLay0]
    exact lays_can xs (by simpa [lay] using h)
  | .lst xs, h => by
    simp only [pyD, PyData.canLay0]
    exact lays_can xs (by simpa [lay] using h)
  | .scr _, h => by simp [lay] at h
  | .dic, h => by simp [lay] at h
  | .loc _, h => by simp [lay] at h
  | .cel _ _, h => by simp [lay] at h
  | .tag _, h => by simp [lay] at h
  | .otp _, h => by simp [lay] at h
theorem lays_can : ∀ ds : List D, lays ds = true → PyData.canLayAll0 (pyDs ds) = true
  | [], _ => by simp [pyDs, PyData.canLayAll0]
  | d :: ds, h => by
    simp only [lays, Bool.and_eq_true] at h
    simp only [pyDs, PyData.canLayAll0, Bool.and_eq_true]
    exact ⟨lay_can d h.1, lays_can ds h.2⟩
end
mutual
theorem dep_eq : ∀ d : D, (pyD d).depth = dep d
  | .non => by simp [pyD, PyData.depth, dep]
  | .bl _ => by simp [pyD, PyData.depth, dep]
  | .int _ => by simp [pyD, PyData.depth, dep]
  | .str _ => by simp [pyD, PyData.depth, dep]
  | .tup xs => by
    simp only [pyD, PyData.depth, dep]
    rw [deps_eq xs]
  | .lst xs => by
    simp only [pyD, PyData.depth, dep]
    rw [deps_eq xs]
  | .scr _ => by simp [pyD, PyData.depth, dep]
  | .dic => by simp [pyD, PyData.depth, dep]
  | .loc _ => by simp [pyD, PyData.depth, dep]
  | .cel _ _ => by simp [pyD, PyData.depth, dep]
  | .tag _ => by simp [pyD, PyData.depth, dep]
  | .otp _ => by simp [pyD, PyData.depth, dep]
theorem deps_eq : ∀ ds : List D, PyData.depthAll (pyDs ds) = deps ds
  | [] => by simp [pyDs, PyData.depthAll, deps]
  | d :: ds => by
    simp only [pyDs, PyData.depthAll, deps]
    rw [dep_eq d, deps_eq ds]
end
def okD (d : D) : Bool := lay d && decide (dep d ≤ 64)
theorem okD_shaped {d : D} (h : okD d = true) : SeqAt.shaped (pyD d) = true := by
  unfold okD at h
  simp only [Bool.and_eq_true, decide_eq_true_eq] at h
  unfold SeqAt.shaped
  rw [lay_can d h.1, dep_eq d]
  simpa using h.2
def eqD (d e : D) : Bool := PyData.eqv (pyD d) (pyD e)
section
variable {X : Cx} {pins : List (Addr × Obj)} {σ : L2.St} {H : Hp} {s : Shared} {r m : List Addr}
mutual
theorem Den.reads (I : Inv X pins σ H s) : ∀ (d : D) (v : V) (u : Value), Den X.K r m H d v → lay d = true → RelV v u → ∃ as, Reads s.heap u (pyD d) as
  | .non, _, _, h, _, r => by
    cases h
    cases r
    exact ⟨_, Reads.none⟩
  | .bl b, _, _, h, _, r => by
    cases h
    cases r
    exact ⟨_, Reads.bool b⟩
  | .int i, _, _, h, _, r => by
    cases h
    obtain ⟨t, rfl⟩ := r
    exact ⟨_, Reads.int i t⟩
  | .str x, _, _, h, _, r => by
    cases h
    obtain ⟨t, rfl⟩ := r
    exact ⟨_, Reads.str x t⟩
  | .tup ds, _, _, h, l, r => by
    obtain ⟨a, xs, rfl, i, q⟩ := h
    cases r
    obtain ⟨its, rv, ⟨o, ho, hc, n, hd⟩, _⟩ := I.tuple i.sq
    obtain ⟨as, hr⟩ := Dens.reads I ds _ its q (by simpa [lay] using l) rv
    exact ⟨_, Reads.tuple ho hc hd hr⟩
  | .lst ds, _, _, h, l, r => by
    obtain ⟨a, xs, rfl, i, _, _, q⟩ := h
    cases r
    obtain ⟨its, rv, ⟨o, n, ho, hc, _, hd⟩, _⟩ := I.list (SqL.of i)
    obtain ⟨as, hr⟩ := Dens.reads I ds _ its q (by simpa [lay] using l) rv
    exact ⟨_, Reads.list ho hc hd hr⟩
  | .scr _, _, _, _, l, _ => by simp [lay] at l
  | .dic, _, _, _, l, _ => by simp [lay] at l
  | .loc _, _, _, _, l, _ => by simp [lay] at l
  | .cel _ _, _, _, _, l, _ => by simp [lay] at l
  | .tag _, _, _, _, l, _ => by simp [lay] at l
  | .otp _, _, _, _, l, _ => by simp [lay] at l
theorem Dens.reads (I : Inv X pins σ H s) : ∀ (ds : List D) (vs : List V) (us : List Value), Dens X.K r m H ds vs → lays ds = true → Vals vs us → ∃ as, ReadsAll s.heap us (pyDs ds) as
  | [], _, _, h, _, r => by
    cases h
    cases r
    exact ⟨_, ReadsAll.nil⟩
  | d :: ds, _, _, h, l, r => by
    obtain ⟨x, rs, rfl, h1, h2⟩ := h
    simp only [lays, Bool.and_eq_true] at l
    cases r with
    | cons r1 r2 =>
      obtain ⟨as, q1⟩ := Den.reads I d _ _ h1 l.1 r1
      obtain ⟨bs, q2⟩ := Dens.reads I ds _ _ h2 l.2 r2
      exact ⟨_, ReadsAll.cons q1 q2⟩
end
end
section
variable {X : Cx}
/-- data as it is read: a cell's items count as a list -/
def Sees (K : Fg) (H : Hp) (d : D) (x : V) : Prop := ∃ r m, Den K r m H d x ∨ ∃ ds a vs, d = .lst ds ∧ x = .ref a ∧ H a = some (.lst vs) ∧ Dens K r m H ds vs
theorem Sees.reads {pins : List (Addr × Obj)} {σ : L2.St} {H : Hp} {s : Shared} (I : Inv X pins σ H s) {d : D} {v : V} {u : Value} (h : Sees X.K H d v) (l : lay d = true) (r : RelV v u) : ∃ as, Reads s.heap u (pyD d) as := by
  obtain ⟨r', m, h | ⟨ds, a, vs, rfl, rfl, i, q⟩⟩ := h
  · exact Den.reads I d v u h l r
  · cases r
    obtain ⟨its, rv, ⟨o, n, ho, hc, _, hd⟩, _⟩ := I.list (SqL.of i)
    obtain ⟨as, hr⟩ := Dens.reads I ds _ its q (by simpa [lay] using l) rv
    exact ⟨_, Reads.list ho hc hd hr⟩
def rEqP (K : Fg) : R2 := fun x y H Q => ∃ d e, Sees K H d x ∧ Sees K H e y ∧ okD d = true ∧ okD e = true ∧ Q (.bl (eqD d e)) H
def rNeP (K : Fg) : R2 := fun x y H Q => ∃ d e, Sees K H d x ∧ Sees K H e y ∧ okD d = true ∧ okD e = true ∧ Q (.bl (!eqD d e)) H
theorem okD_lay {d : D} (h : okD d = true) : lay d = true := (Bool.and_eq_true_iff.mp h).1
theorem op_eqP (hu : X.A.units + 64 < cLine) : OpR X (compareOp .Eq) (rEqP X.K) := by
  intro pins s σ H x y v u Q I rx ry h
  obtain ⟨d, e, hd, he, sd, se, q⟩ := h
  obtain ⟨as, r1⟩ := hd.reads I (okD_lay sd) rx
  obtain ⟨bs, r2⟩ := he.reads I (okD_lay se) ry
  exact SeqAt.compareEq_shaped r1 r2 (okD_shaped sd) (okD_shaped se) hu ⟨.bl _, H, I, rfl, q⟩
theorem op_neP (hu : X.A.units + 64 < cLine) : OpR X (compareOp .NotEq) (rNeP X.K) := by
  intro pins s σ H x y v u Q I rx ry h
  obtain ⟨d, e, hd, he, sd, se, q⟩ := h
  obtain ⟨as, r1⟩ := hd.reads I (okD_lay sd) rx
  obtain ⟨bs, r2⟩ := he.reads I (okD_lay se) ry
  exact SeqAt.compareNe_shaped r1 r2 (okD_shaped sd) (okD_shaped se) hu ⟨.bl _, H, I, rfl, q⟩
end
def eVar (i : Nat) : DE := fun env st => match env[i]? with
  | some (some d) => some (d, st)
  | _ => none
def eC (d : D) : DE := fun _ st => some (d, st)
def eOp (o : Sto → D → D → Option D) (fa fb : DE) : DE := fun env st =>
  (fa env st).bind fun p => (fb env p.2).bind fun q => (o q.2 p.1 q.1).map fun d => (d, q.2)
def eUn (o : D → Option D) (fa : DE) : DE := fun env st => (fa env st).bind fun p => (o p.1).map fun d => (d, p.2)
def aNil : DA := fun _ st => some ([], st)
def aCons (fa : DE) (fr : DA) : DA := fun env st => (fa env st).bind fun p => (fr env p.2).bind fun q => some (p.1 :: q.1, q.2)
def eBlt (g : Sto → List D → Option D) (fa : DA) : DE := fun env st => (fa env st).bind fun p => (g p.2 p.1).map fun d => (d, p.2)
/-- a new cell -/
def eNew (g : Sto → List D → Option (List D)) (fa : DA) : DE := fun env st => (fa env st).bind fun p => (g p.2 p.1).map fun c => (.loc p.2.length, p.2 ++ [c])
def eTup (fa : DA) : DE := fun env st => (fa env st).bind fun p => some (.tup p.1, p.2)
def eLst (fa : DA) : DE := fun env st => (fa env st).bind fun p => some (.lst p.1, p.2)
def eMLst (fa : DA) : DE := fun env st => (fa env st).bind fun p => some (.loc p.2.length, p.2 ++ [p.1])
def eIf (c : DB) (fa fb : DE) : DE := fun env st => (c env st).bind fun p => if p.1 then fa env p.2 else fb env p.2
def eAnd (fa fb : DE) : DE := fun env st => (fa env st).bind fun p => match p.1 with
  | .bl true => fb env p.2
  | .bl false => some (.bl false, p.2)
  | _ => none
def eOr (fa fb : DE) : DE := fun env st => (fa env st).bind fun p => match p.1 with
  | .bl true => some (.bl true, p.2)
  | .bl false => fb env p.2
  | _ => none
def eNot (fa : DE) : DE := fun env st => (fa env st).bind fun p => match p.1 with
  | .bl b => some (.bl (!b), p.2)
  | _ => none
def bVal (fa : DE) : DB := fun env st => (fa env st).bind fun p => match p.1 with
  | .bl b => some (b, p.2)
  | _ => none
def bAnd (fa fb : DB) : DB := fun env st => (fa env st).bind fun p => if p.1 then fb env p.2 else some (false, p.2)
def bOr (fa fb : DB) : DB := fun env st => (fa env st).bind fun p => if p.1 then some (true, p.2) else fb env p.2
def bNot (fa : DB) : DB := fun env st => (fa env st).bind fun p => some (!p.1, p.2)
/-- a op b op' c -/
def eChain (o o' : Sto → D → D → Option D) (fa fb fc : DE) : DE := fun env st =>
  (fa env st).bind fun p => (fb env p.2).bind fun q => (o q.2 p.1 q.1).bind fun z => match z with
    | .bl true => (fc env q.2).bind fun r => (o' r.2 q.1 r.1).map fun d => (d, r.2)
    | .bl false => some (.bl false, q.2)
    | _ => none
section
variable {K : Fg} {σ : L2.St} {H : Hp} {Q : VK}
theorem t_var {i : Nat} (h : tE K (eVar i) σ H Q) : tVar i σ H Q := by
  obtain ⟨r, m, st, env, d, st', g, e, f, q⟩ := h
  unfold eVar at f
  split at f
  · next d' hd =>
    cases f
    obtain ⟨v, a, b⟩ := e.2 i _ hd
    exact ⟨v, a, q m H v (Le.refl m H) g b⟩
  · cases f
theorem t_c {d : D} {v : V} (hv : ∀ r m H, Den K r m H d v) (h : tE K (eC d) σ H Q) : tC v σ H Q := by
  obtain ⟨r, m, st, env, d', st', g, e, f, q⟩ := h
  cases f
  exact q m H v (Le.refl m H) g (hv r m H)
def OpD (K : Fg) (o : Sto → D → D → Option D) (rr : R2) : Prop := ∀ (r m : List Addr) (st : Sto) (H : Hp) (dx dy d : D) (x y : V) (Q : VK), Good K r m st H → Den K r m H dx x → Den K r m H dy y → o st dx dy = some d →
  (∀ m' H' v, Le m H m' H' → Good K r m' st H' → Den K r m' H' d v → Q v H') → rr x y H Q
theorem t_op {o : Sto → D → D → Option D} {rr : R2} (ho : OpD K o rr) {fa fb : DE} (h : tE K (eOp o fa fb) σ H Q) : tOp rr (tE K fa) (tE K fb) σ H Q := by
  obtain ⟨r, m, st, env, d, st', g, e, f, q⟩ := h
  unfold eOp at f
  obtain ⟨⟨x, s1⟩, f1, f⟩ := Option.bind_eq_some_iff.mp f
  obtain ⟨⟨y, s2⟩, f2, f⟩ := Option.bind_eq_some_iff.mp f
  obtain ⟨d', f3, f⟩ := Option.map_eq_some_iff.mp f
  cases f
  refine ⟨r, m, st, env, x, s1, g, e, f1, fun m1 H1 v1 l1 g1 d1 => ?_⟩
  refine ⟨r, m1, s1, env, y, s2, g1, e.mono l1, f2, fun m2 H2 v2 l2 g2 d2 => ?_⟩
  exact ho r m2 s2 H2 x y d v1 v2 Q g2 (d1.mono l2) d2 f3 fun m3 H3 v3 l3 g3 d3 => q m3 H3 v3 ((l1.trans l2).trans l3) g3 d3
def UnD (K : Fg) (o : D → Option D) (rr : V → Hp → VK → Prop) : Prop := ∀ (r m : List Addr) (st : Sto) (H : Hp) (dx d : D) (x : V) (Q : VK), Good K r m st H → Den K r m H dx x → o dx = some d →
  (∀ m' H' v, Le m H m' H' → Good K r m' st H' → Den K r m' H' d v → Q v H') → rr x H Q
theorem t_un {o : D → Option D} {rr : V → Hp → VK → Prop} (ho : UnD K o rr) {fa : DE} (h : tE K (eUn o fa) σ H Q) : tUn rr (tE K fa) σ H Q := by
  obtain ⟨r, m, st, env, d, st', g, e, f, q⟩ := h
  unfold eUn at f
  obtain ⟨⟨x, s1⟩, f1, f⟩ := Option.bind_eq_some_iff.mp f
  obtain ⟨d', f3, f⟩ := Option.map_eq_some_iff.mp f
  cases f
  refine ⟨r, m, st, env, x, s1, g, e, f1, fun m1 H1 v1 l1 g1 d1 => ?_⟩
  exact ho r m1 s1 H1 x d v1 Q g1 d1 f3 fun m3 H3 v3 l3 g3 d3 => q m3 H3 v3 (l1.trans l3) g3 d3
theorem t_nil {Q : List V → Hp → Prop} (h : tAr K aNil σ H Q) : tNil σ H Q := by
  obtain ⟨r, m, st, env, ds, st', g, e, f, q⟩ := h
  cases f
  exact q m H [] (Le.refl m H) g rfl
theorem t_cons {Q : List V → Hp → Prop} {fa : DE} {fr : DA} (h : tAr K (aCons fa fr) σ H Q) : tCons (tE K fa) (tAr K fr) σ H Q := by
  obtain ⟨r, m, st, env, ds, st', g, e, f, q⟩ := h
  unfold aCons at f
  obtain ⟨⟨x, s1⟩, f1, f⟩ := Option.bind_eq_some_iff.mp f
  obtain ⟨⟨y, s2⟩, f2, f⟩ := Option.bind_eq_some_iff.mp f
  cases f
  refine ⟨r, m, st, env, x, s1, g, e, f1, fun m1 H1 v1 l1 g1 d1 => ?_⟩
  refine ⟨r, m1, s1, env, y, s2, g1, e.mono l1, f2, fun m2 H2 v2 l2 g2 d2 => ?_⟩
  exact q m2 H2 (v1 :: v2) (l1.trans l2) g2 ⟨v1, v2, rfl, d1.mono l2, d2⟩
def CallD (K : Fg) (g : Sto → List D → Option D) (rr : List V → Hp → VK → Prop) : Prop := ∀ (r m : List Addr) (st : Sto) (H : Hp) (ds : List D) (d : D) (vs : List V) (Q : VK), Good K r m st H → Dens K r m H ds vs → g st ds = some d →
  (∀ m' H' v, Le m H m' H' → Good K r m' st H' → Den K r m' H' d v → Q v H') → rr vs H Q
theorem t_blt {gg : Sto → List D → Option D} {rr : List V → Hp → VK → Prop} (ho : CallD K gg rr) {fa : DA} (h : tE K (eBlt gg fa) σ H Q) : tCB rr (tAr K fa) σ H Q := by
  obtain ⟨r, m, st, env, d, st', g, e, f, q⟩ := h
  unfold eBlt at f
  obtain ⟨⟨x, s1⟩, f1, f⟩ := Option.bind_eq_some_iff.mp f
  obtain ⟨d', f3, f⟩ := Option.map_eq_some_iff.mp f
  cases f
  refine ⟨r, m, st, env, x, s1, g, e, f1, fun m1 H1 v1 l1 g1 d1 => ?_⟩
  exact ho r m1 s1 H1 x d v1 Q g1 d1 f3 fun m3 H3 v3 l3 g3 d3 => q m3 H3 v3 (l1.trans l3) g3 d3
theorem t_tup {fa : DA} (hz : ∀ env st ds st', fa env st = some (ds, st') → ds.length ≤ sizeLine) (h : tE K (eTup fa) σ H Q) : tTup (tAr K fa) σ H Q := by
  obtain ⟨r, m, st, env, d, st', g, e, f, q⟩ := h
  unfold eTup at f
  obtain ⟨⟨x, s1⟩, f1, f⟩ := Option.bind_eq_some_iff.mp f
  cases f
  refine ⟨r, m, st, env, x, s1, g, e, f1, fun m1 H1 v1 l1 g1 d1 => ?_⟩
  have z : v1.length ≤ sizeLine := by
    rw [← d1.len]
    exact hz _ _ _ _ f1
  refine ⟨z, fun p np => ?_⟩
  have l2 : Le m1 H1 m1 (upd H1 p (.tup v1)) := le_upd np
  exact q m1 _ (.ref p) (l1.trans l2) (g1.upd np) ⟨p, v1, rfl, .inl ⟨upd_same, g1.fresh np, z⟩, d1.mono l2⟩
theorem t_lst {fa : DA} (hz : ∀ env st ds st', fa env st = some (ds, st') → ds.length ≤ sizeLine) (h : tE K (eLst fa) σ H Q) : tLst (tAr K fa) σ H Q := by
  obtain ⟨r, m, st, env, d, st', g, e, f, q⟩ := h
  unfold eLst at f
  obtain ⟨⟨x, s1⟩, f1, f⟩ := Option.bind_eq_some_iff.mp f
  cases f
  refine ⟨r, m, st, env, x, s1, g, e, f1, fun m1 H1 v1 l1 g1 d1 => ?_⟩
  have z : v1.length ≤ sizeLine := by
    rw [← d1.len]
    exact hz _ _ _ _ f1
  refine ⟨z, fun p np => ?_⟩
  have l2 : Le m1 H1 m1 (upd H1 p (.lst v1)) := le_upd np
  exact q m1 _ (.ref p) (l1.trans l2) (g1.upd np) ⟨p, v1, rfl, upd_same, g1.fresh np, z, d1.mono l2⟩
theorem new_cell {r m : List Addr} {st : Sto} {p : Addr} {xs : List V} {c : List D} (g : Good K r m st H) (np : H p = none) (z : xs.length ≤ sizeLine) (q : Dens K r m H c xs) :
    Le m H (m ++ [p]) (upd H p (.lst xs)) ∧ Good K r (m ++ [p]) (st ++ [c]) (upd H p (.lst xs)) ∧ Den K r (m ++ [p]) (upd H p (.lst xs)) (.loc st.length) (.ref p) := by
  obtain ⟨l, g2⟩ := g.snoc np z q
  refine ⟨l, g2, p, rfl, ?_, xs, upd_same⟩
  rw [← g.len, List.getElem?_append_right (Nat.le_refl _), Nat.sub_self]
  rfl
theorem t_mlst {fa : DA} (hz : ∀ env st ds st', fa env st = some (ds, st') → ds.length ≤ sizeLine) (h : tE K (eMLst fa) σ H Q) : tLst (tAr K fa) σ H Q := by
  obtain ⟨r, m, st, env, d, st', g, e, f, q⟩ := h
  unfold eMLst at f
  obtain ⟨⟨x, s1⟩, f1, f⟩ := Option.bind_eq_some_iff.mp f
  cases f
  refine ⟨r, m, st, env, x, s1, g, e, f1, fun m1 H1 v1 l1 g1 d1 => ?_⟩
  have z : v1.length ≤ sizeLine := by
    rw [← d1.len]
    exact hz _ _ _ _ f1
  refine ⟨z, fun p np => ?_⟩
  obtain ⟨l2, g2, d2⟩ := new_cell g1 np z d1
  exact q _ _ (.ref p) (l1.trans l2) g2 d2
theorem t_if {c : DB} {fa fb : DE} (h : tE K (eIf c fa fb) σ H Q) : tIf (tBo K c) (tE K fa) (tE K fb) σ H Q := by
  obtain ⟨r, m, st, env, d, st', g, e, f, q⟩ := h
  unfold eIf at f
  obtain ⟨⟨b, s1⟩, f1, f⟩ := Option.bind_eq_some_iff.mp f
  refine ⟨r, m, st, env, b, s1, g, e, f1, fun m1 H1 l1 g1 => ?_⟩
  cases b with
  | true => exact ⟨r, m1, s1, env, d, st', g1, e.mono l1, f, fun m2 H2 v2 l2 g2 d2 => q m2 H2 v2 (l1.trans l2) g2 d2⟩
  | false => exact ⟨r, m1, s1, env, d, st', g1, e.mono l1, f, fun m2 H2 v2 l2 g2 d2 => q m2 H2 v2 (l1.trans l2) g2 d2⟩
theorem t_and {fa fb : DE} (h : tE K (eAnd fa fb) σ H Q) : tAndV (tE K fa) (tE K fb) σ H Q := by
  obtain ⟨r, m, st, env, d, st', g, e, f, q⟩ := h
  unfold eAnd at f
  obtain ⟨⟨x, s1⟩, f1, f⟩ := Option.bind_eq_some_iff.mp f
  refine ⟨r, m, st, env, x, s1, g, e, f1, fun m1 H1 v1 l1 g1 d1 => ?_⟩
  dsimp only at f
  split at f
  · cases d1
    exact ⟨true, rfl, ⟨r, m1, s1, env, d, st', g1, e.mono l1, f, fun m2 H2 v2 l2 g2 d2 => q m2 H2 v2 (l1.trans l2) g2 d2⟩⟩
  · cases d1
    cases f
    exact ⟨false, rfl, q m1 H1 _ l1 g1 rfl⟩
  · cases f
theorem t_or {fa fb : DE} (h : tE K (eOr fa fb) σ H Q) : tOrV (tE K fa) (tE K fb) σ H Q := by
  obtain ⟨r, m, st, env, d, st', g, e, f, q⟩ := h
  unfold eOr at f
  obtain ⟨⟨x, s1⟩, f1, f⟩ := Option.bind_eq_some_iff.mp f
  refine ⟨r, m, st, env, x, s1, g, e, f1, fun m1 H1 v1 l1 g1 d1 => ?_⟩
  dsimp only at f
  split at f
  · cases d1
    cases f
    exact ⟨true, rfl, q m1 H1 _ l1 g1 rfl⟩
  · cases d1
    exact ⟨false, rfl, ⟨r, m1, s1, env, d, st', g1, e.mono l1, f, fun m2 H2 v2 l2 g2 d2 => q m2 H2 v2 (l1.trans l2) g2 d2⟩⟩
  · cases f
theorem t_not {fa : DE} (h : tE K (eNot fa) σ H Q) : tNotV (tE K fa) σ H Q := by
  obtain ⟨r, m, st, env, d, st', g, e, f, q⟩ := h
  unfold eNot at f
  obtain ⟨⟨x, s1⟩, f1, f⟩ := Option.bind_eq_some_iff.mp f
  refine ⟨r, m, st, env, x, s1, g, e, f1, fun m1 H1 v1 l1 g1 d1 => ?_⟩
  dsimp only at f
  split at f
  · cases d1
    cases f
    exact ⟨_, rfl, q m1 H1 _ l1 g1 rfl⟩
  · cases f
theorem t_bval {Q : Bool → Hp → Prop} {fa : DE} (h : tBo K (bVal fa) σ H Q) : tTest (tE K fa) σ H Q := by
  obtain ⟨r, m, st, env, b, st', g, e, f, q⟩ := h
  unfold bVal at f
  obtain ⟨⟨x, s1⟩, f1, f⟩ := Option.bind_eq_some_iff.mp f
  refine ⟨r, m, st, env, x, s1, g, e, f1, fun m1 H1 v1 l1 g1 d1 => ?_⟩
  dsimp only at f
  split at f
  · cases d1
    cases f
    exact ⟨_, rfl, q m1 H1 l1 g1⟩
  · cases f
theorem t_band {Q : Bool → Hp → Prop} {fa fb : DB} (h : tBo K (bAnd fa fb) σ H Q) : tAnd (tBo K fa) (tBo K fb) σ H Q := by
  obtain ⟨r, m, st, env, b, st', g, e, f, q⟩ := h
  unfold bAnd at f
  obtain ⟨⟨x, s1⟩, f1, f⟩ := Option.bind_eq_some_iff.mp f
  refine ⟨r, m, st, env, x, s1, g, e, f1, fun m1 H1 l1 g1 => ?_⟩
  cases x with
  | true => exact ⟨r, m1, s1, env, b, st', g1, e.mono l1, f, fun m2 H2 l2 g2 => q m2 H2 (l1.trans l2) g2⟩
  | false =>
    cases f
    exact q m1 H1 l1 g1
theorem t_bor {Q : Bool → Hp → Prop} {fa fb : DB} (h : tBo K (bOr fa fb) σ H Q) : tOr (tBo K fa) (tBo K fb) σ H Q := by
  obtain ⟨r, m, st, env, b, st', g, e, f, q⟩ := h
  unfold bOr at f
  obtain ⟨⟨x, s1⟩, f1, f⟩ := Option.bind_eq_some_iff.mp f
  refine ⟨r, m, st, env, x, s1, g, e, f1, fun m1 H1 l1 g1 => ?_⟩
  cases x with
  | false => exact ⟨r, m1, s1, env, b, st', g1, e.mono l1, f, fun m2 H2 l2 g2 => q m2 H2 (l1.trans l2) g2⟩
  | true =>
    cases f
    exact q m1 H1 l1 g1
theorem t_bnot {Q : Bool → Hp → Prop} {fa : DB} (h : tBo K (bNot fa) σ H Q) : L2.tNot (tBo K fa) σ H Q := by
  obtain ⟨r, m, st, env, b, st', g, e, f, q⟩ := h
  unfold bNot at f
  obtain ⟨⟨x, s1⟩, f1, f⟩ := Option.bind_eq_some_iff.mp f
  cases f
  exact ⟨r, m, st, env, x, s1, g, e, f1, fun m1 H1 l1 g1 => q m1 H1 l1 g1⟩
theorem t_chain {o o' : Sto → D → D → Option D} {rr rr' : R2} (ho : OpD K o rr) (ho' : OpD K o' rr') {fa fb fc : DE} (h : tE K (eChain o o' fa fb fc) σ H Q) : tChain rr rr' (tE K fa) (tE K fb) (tE K fc) σ H Q := by
  obtain ⟨r, m, st, env, d, st', g, e, f, q⟩ := h
  unfold eChain at f
  obtain ⟨⟨x, s1⟩, f1, f⟩ := Option.bind_eq_some_iff.mp f
  obtain ⟨⟨y, s2⟩, f2, f⟩ := Option.bind_eq_some_iff.mp f
  obtain ⟨z, f3, f⟩ := Option.bind_eq_some_iff.mp f
  refine ⟨r, m, st, env, x, s1, g, e, f1, fun m1 H1 v1 l1 g1 d1 => ?_⟩
  refine ⟨r, m1, s1, env, y, s2, g1, e.mono l1, f2, fun m2 H2 v2 l2 g2 d2 => ?_⟩
  refine ho r m2 s2 H2 x y z v1 v2 _ g2 (d1.mono l2) d2 f3 fun m3 H3 v3 l3 g3 d3 => ?_
  dsimp only at f
  split at f
  · cases d3
    obtain ⟨⟨w, s4⟩, f4, f⟩ := Option.bind_eq_some_iff.mp f
    obtain ⟨d', f5, f⟩ := Option.map_eq_some_iff.mp f
    cases f
    refine ⟨true, rfl, ?_⟩
    rw [if_pos rfl]
    refine ⟨r, m3, s2, env, w, _, g3, e.mono ((l1.trans l2).trans l3), f4, fun m4 H4 v4 l4 g4 d4 => ?_⟩
    exact ho' r m4 _ H4 y w d v2 v4 Q g4 (d2.mono (l3.trans l4)) d4 f5 fun m5 H5 v5 l5 g5 d5 => q m5 H5 v5 ((((l1.trans l2).trans l3).trans l4).trans l5) g5 d5
  · cases d3
    cases f
    refine ⟨false, rfl, ?_⟩
    rw [if_neg Bool.false_ne_true]
    exact q m3 H3 _ ((l1.trans l2).trans l3) g3 rfl
  · cases f
end
end Tg
namespace Tg
open PySem PySem.Spec PyProof.Rows L2
def mulOk (i j : Int) : Bool := decide (i.natAbs < 2 ^ 64) || decide (j.natAbs < 2 ^ 64)
def powOk (i j : Int) : Bool := decide (0 ≤ j) && decide (j ≤ 1000000) && decide (i.natAbs < 2 ^ 64)
def divOk (j : Int) : Bool := decide (0 < j) && decide (j.natAbs < 2 ^ 64)
def fits (n : Nat) : Bool := decide (n ≤ 16000000)
theorem fits_line {n : Nat} (h : fits n = true) : n ≤ sizeLine := Nat.le_trans (of_decide_eq_true h) (by decide)
theorem fits_lt {n : Nat} (h : fits n = true) : n < sizeLine := Nat.lt_of_le_of_lt (of_decide_eq_true h) (by decide)
def lstOf (st : Sto) : D → Option (List D)
  | .lst xs => some xs
  | .loc n => st[n]?
  | _ => none
def oAdd (st : Sto) : D → D → Option D
  | .int i, .int j => some (.int (i + j))
  | .str x, .str y => if fits (x.length + y.length) then some (.str (x ++ y)) else none
  | .tup xs, .tup ys => if fits (xs.length + ys.length) then some (.tup (xs ++ ys)) else none
  | .otp xs, .tup ys => if fits (xs.length + ys.length) && !ys.isEmpty then some (.tup (xs ++ ys)) else none
  | d, e => (lstOf st d).bind fun xs => (lstOf st e).bind fun ys => if fits (xs.length + ys.length) then some (.lst (xs ++ ys)) else none
def oSub (_ : Sto) : D → D → Option D
  | .int i, .int j => some (.int (i - j))
  | _, _ => none
def oMul (_ : Sto) : D → D → Option D
  | .int i, .int j => if mulOk i j then some (.int (i * j)) else none
  | .lst xs, .int k => if fits (xs.length * k.toNat) && decide (-1000000 ≤ k) && decide (k ≤ 1000000) then some (.lst (List.replicate k.toNat xs).flatten) else none
  | _, _ => none
def oDiv (_ : Sto) : D → D → Option D
  | .int i, .int j => if divOk j then some (.int (i / j)) else none
  | _, _ => none
def oMod (_ : Sto) : D → D → Option D
  | .int i, .int j => if decide (0 < j) then some (.int (i % j)) else none
  | _, _ => none
def oPow (_ : Sto) : D → D → Option D
  | .int i, .int j => if powOk i j then some (.int (i ^ j.toNat)) else none
  | _, _ => none
/-- a cell by its items -/
def resD (st : Sto) : D → D
  | .loc n => match st[n]? with
    | some xs => .lst xs
    | none => .loc n
  | d => d
/-- something against nothing -/
def moreB : D → D → Bool
  | .tup (_ :: _), .tup [] => true
  | .lst (_ :: _), .lst [] => true
  | _, _ => false
def oEq (st : Sto) : D → D → Option D
  | .int i, .int j => some (.bl (decide (i = j)))
  | .str x, .str y => some (.bl (decide (x = y)))
  | d, e => if okD (resD st d) && okD (resD st e) then some (.bl (eqD (resD st d) (resD st e))) else if moreB (resD st d) (resD st e) then some (.bl false) else none
def oNe (st : Sto) : D → D → Option D
  | .int i, .int j => some (.bl (!decide (i = j)))
  | .str x, .str y => some (.bl (!decide (x = y)))
  | d, e => if okD (resD st d) && okD (resD st e) then some (.bl (!eqD (resD st d) (resD st e))) else if moreB (resD st d) (resD st e) then some (.bl true) else none
def oLt (_ : Sto) : D → D → Option D
  | .int i, .int j => some (.bl (decide (i < j)))
  | _, _ => none
def oLe (_ : Sto) : D → D → Option D
  | .int i, .int j => some (.bl (decide (i ≤ j)))
  | _, _ => none
def oGt (_ : Sto) : D → D → Option D
  | .int i, .int j => some (.bl (decide (j < i)))
  | _, _ => none
def oGe (_ : Sto) : D → D → Option D
  | .int i, .int j => some (.bl (decide (j ≤ i)))
  | _, _ => none
def isNon : D → Bool
  | .non => true
  | _ => false
def oIs (_ : Sto) : D → D → Option D
  | d, .non => some (.bl (isNon d))
  | .bl a, .bl b => some (.bl (decide (a = b)))
  | _, _ => none
def oIsNot (_ : Sto) : D → D → Option D
  | d, .non => some (.bl (!isNon d))
  | .bl a, .bl b => some (.bl (!decide (a = b)))
  | _, _ => none
/-- the items of a sequence -/
def seqOf (st : Sto) : D → Option (List D)
  | .tup xs => some xs
  | .lst xs => some xs
  | .scr xs => some xs
  | .otp xs => some xs
  | .loc n => st[n]?
  | _ => none
/-- a dict's keys and values; the value of a key -/
def keyD : D → Option Key
  | .int i => some (.inl i)
  | .str x => some (.inr x)
  | _ => none
def dictOf (st : Sto) (n : Nat) : Option (List Key × List D) := match st[n]? with
  | some (.tag (.di ks) :: ds) => some (ks, ds)
  | some (.tag (.fz ks) :: ds) => some (ks, ds)
  | _ => none
def valD {α : Type} (ks : List Key) (ds : List α) (k : Key) : Option α := ((ks.zip ds).find? fun q => decide (q.1 = k)).map (·.2)
def oIx (st : Sto) : D → D → Option D
  | .cel .dct n, e => (dictOf st n).bind fun q => (keyD e).bind fun k => valD q.1 q.2 k
  | .str z, .int i => if fits z.length then (atI z.cps.toList i).map fun c => .str ⟨#[c]⟩ else none
  | d, .int i => (seqOf st d).bind fun xs => atI xs i
  | _, _ => none
def flatD : D → Option V
  | .non => some .non
  | .bl b => some (.bl b)
  | .int i => some (.int i)
  | .str x => some (.str x)
  | _ => none
def flatDs : List D → Option (List V)
  | [] => some []
  | d :: ds => (flatD d).bind fun v => (flatDs ds).map fun vs => v :: vs
/-- what can be compared with the items of a list at any depth -/
def okI (d : D) : Bool := lay d && decide (dep d ≤ 60)
def inDeep (neg : Bool) (d : D) : D → Option D
  | .lst xs => if okI d && lays xs then some (.bl (if neg then !(xs.any fun z => eqD z d) else xs.any fun z => eqD z d)) else none
  | .tup xs => if okI d && lays xs then some (.bl (if neg then !(xs.any fun z => eqD z d) else xs.any fun z => eqD z d)) else none
  | _ => none
def oInS (neg : Bool) (st : Sto) : D → D → Option D
  | d, .cel .dct n => (dictOf st n).bind fun q => (keyD d).map fun k => .bl (if neg then !(valD q.1 q.2 k).isSome else (valD q.1 q.2 k).isSome)
  | d, e => ((seqOf st e).bind fun xs => (flatD d).bind fun v => (flatDs xs).map fun vs => .bl (if neg then !inV v vs else inV v vs)).or (inDeep neg d (resD st e))
section
variable {K : Fg} {r m : List Addr} {H : Hp} {st : Sto}
theorem natAbs64 {i : Int} (h : i.natAbs < 2 ^ 64) : -(2 ^ 64) < i ∧ i < 2 ^ 64 := by
  have : (2 : Nat) ^ 64 = 18446744073709551616 := by decide
  have e : (2 : Int) ^ 64 = 18446744073709551616 := by decide
  rw [this] at h
  rw [e]
  omega
theorem seq_list {d : D} {xs : List D} {v : V} (g : Good K r m st H) (h : Den K r m H d v) (e : seqOf st d = some xs) :
    ∃ a vs, v = .ref a ∧ (SqL K H a vs ∨ SqT K H a vs) ∧ Dens K r m H xs vs ∧ vs.length ≤ sizeLine := by
  cases d with
  | tup ds =>
    cases e
    obtain ⟨a, vs, rfl, i, q⟩ := h
    exact ⟨a, vs, rfl, .inr i.sq, q, i.len⟩
  | lst ds =>
    cases e
    obtain ⟨a, vs, rfl, i, _, z, q⟩ := h
    exact ⟨a, vs, rfl, .inl (SqL.of i), q, z⟩
  | scr ds =>
    cases e
    obtain ⟨a, vs, rfl, i, z, q⟩ := h
    exact ⟨a, vs, rfl, .inl i.sq, q, by rw [← q.len]; exact Nat.le_trans z (by decide)⟩
  | otp ds =>
    cases e
    obtain ⟨a, vs, rfl, i, q⟩ := h
    exact ⟨a, vs, rfl, .inr i.sq, q, i.len⟩
  | loc n =>
    obtain ⟨a, rfl, i, ys, hy⟩ := h
    obtain ⟨vs, q, z, r⟩ := g.cellL i e hy
    exact ⟨a, vs, rfl, .inl (SqL.of q), r, z⟩
  | _ => cases e
theorem at_den {ds : List D} {vs : List V} {i : Int} {d : D} (q : Dens K r m H ds vs) (e : atI ds i = some d) : ∃ v, atI vs i = some v ∧ Den K r m H d v := by
  unfold atI at e ⊢
  rw [← q.len]
  obtain ⟨j, e1, e2⟩ := Option.bind_eq_some_iff.mp e
  obtain ⟨v, a, b⟩ := q.get e2
  exact ⟨v, by rw [e1]; exact a, b⟩
theorem lst_list0 {d : D} {xs : List D} {v : V} (g : Good K r m st H) (h : Den K r m H d v) (e : lstOf st d = some xs) :
    ∃ a vs, v = .ref a ∧ H a = some (.lst vs) ∧ Dens K r m H xs vs ∧ vs.length ≤ sizeLine := by
  cases d with
  | lst ds =>
    cases e
    obtain ⟨a, vs, rfl, i, _, z, q⟩ := h
    exact ⟨a, vs, rfl, i, q, z⟩
  | loc n =>
    obtain ⟨a, rfl, i, ys, hy⟩ := h
    obtain ⟨vs, q, z, w⟩ := g.cellL i e hy
    exact ⟨a, vs, rfl, q, w, z⟩
  | _ => cases e
def rAdds (K : Fg) : R2 := fun x y H Q => rI0 (fun i j => .int (i + j)) x y H Q ∨ (∃ i j, x = .str i ∧ y = .str j ∧ i.length + j.length ≤ sizeLine ∧ Q (.str (i ++ j)) H) ∨ rCatA K x y H Q ∨ rCat x y H Q
theorem op_adds {X : Cx} : OpR X (binaryOp .Add) (rAdds X.K) := op_add.or (op_add_str.or (op_catA.or op_cat))
theorem od_add : OpD K oAdd (rAdds K) := by
  intro r m st H dx dy d x y Q g hx hy e q
  unfold oAdd at e
  split at e
  · cases e; cases hx; cases hy
    exact .inl ⟨_, _, rfl, rfl, q m H _ (Le.refl m H) g rfl⟩
  · split at e
    · next hz =>
      cases e; cases hx; cases hy
      exact .inr (.inl ⟨_, _, rfl, rfl, fits_line hz, q m H _ (Le.refl m H) g rfl⟩)
    · cases e
  · split at e
    · next xs ys hz =>
      cases e
      have hx0 := hx
      have hy0 := hy
      obtain ⟨a, vs, rfl, i1, q1⟩ := hx
      obtain ⟨b, ws, rfl, i2, q2⟩ := hy
      have z : vs.length + ws.length ≤ sizeLine := by
        rw [← q1.len, ← q2.len]
        exact fits_line hz
      refine .inr (.inr (.inl ⟨a, b, vs, ws, rfl, rfl, i1.sq, i2.sq, z, fun e0 => ?_, fun _ e0 => ?_, fun _ _ p np => ?_⟩))
      · have e1 : xs = [] := by
          rw [e0] at q1
          have := q1.len
          exact List.length_eq_zero_iff.mp this
        rw [e1] at q
        exact q m H _ (Le.refl m H) g hy0
      · have e1 : ys = [] := by
          rw [e0] at q2
          have := q2.len
          exact List.length_eq_zero_iff.mp this
        rw [e1, List.append_nil] at q
        exact q m H _ (Le.refl m H) g hx0
      · have l2 : Le m H m (upd H p (.tup (vs ++ ws))) := le_upd np
        exact q m _ _ l2 (g.upd np) ⟨p, _, rfl, .inl ⟨upd_same, g.fresh np, by rw [List.length_append]; exact z⟩, (q1.append q2).mono l2⟩
    · cases e
  · split at e
    · next xs ys hz =>
      cases e
      simp only [Bool.and_eq_true, Bool.not_eq_true', List.isEmpty_eq_false_iff] at hz
      have hy0 := hy
      obtain ⟨a, vs, rfl, i1, q1⟩ := hx
      obtain ⟨b, ws, rfl, i2, q2⟩ := hy
      have z : vs.length + ws.length ≤ sizeLine := by
        rw [← q1.len, ← q2.len]
        exact fits_line hz.1
      refine .inr (.inr (.inl ⟨a, b, vs, ws, rfl, rfl, i1.sq, i2.sq, z, fun e0 => ?_, fun _ e0 => ?_, fun _ _ p np => ?_⟩))
      · have e1 : xs = [] := by
          rw [e0] at q1
          have := q1.len
          exact List.length_eq_zero_iff.mp this
        rw [e1] at q
        exact q m H _ (Le.refl m H) g hy0
      · have e1 : ys = [] := by
          rw [e0] at q2
          have := q2.len
          exact List.length_eq_zero_iff.mp this
        exact absurd e1 hz.2
      · have l2 : Le m H m (upd H p (.tup (vs ++ ws))) := le_upd np
        exact q m _ _ l2 (g.upd np) ⟨p, _, rfl, .inl ⟨upd_same, g.fresh np, by rw [List.length_append]; exact z⟩, (q1.append q2).mono l2⟩
    · cases e
  · obtain ⟨xs, e1, e⟩ := Option.bind_eq_some_iff.mp e
    obtain ⟨ys, e2, e⟩ := Option.bind_eq_some_iff.mp e
    split at e
    · next hz =>
      cases e
      obtain ⟨a, vs, rfl, i1, q1, z1⟩ := lst_list0 g hx e1
      obtain ⟨b, ws, rfl, i2, q2, z2⟩ := lst_list0 g hy e2
      have z : vs.length + ws.length ≤ sizeLine := by
        rw [← q1.len, ← q2.len]
        exact fits_line hz
      refine .inr (.inr (.inr ⟨a, b, vs, ws, rfl, rfl, i1, i2, z, fun p np => ?_⟩))
      have l2 : Le m H m (upd H p (.lst (vs ++ ws))) := le_upd np
      exact q m _ _ l2 (g.upd np) ⟨p, _, rfl, upd_same, g.fresh np, by rw [List.length_append]; exact z, (q1.append q2).mono l2⟩
    · cases e
/-- the sum of two lists as a new cell -/
def eCat (fa fb : DE) : DE := fun env st => (fa env st).bind fun p => (fb env p.2).bind fun q => (lstOf q.2 p.1).bind fun xs => (lstOf q.2 q.1).bind fun ys => if fits (xs.length + ys.length) then some (.loc q.2.length, q.2 ++ [xs ++ ys]) else none
theorem t_cat {σ : L2.St} {H : Hp} {Q : VK} {fa fb : DE} (h : tE K (eCat fa fb) σ H Q) : tOp (rAdds K) (tE K fa) (tE K fb) σ H Q := by
  obtain ⟨r, m, st, env, d, st', g, e, f, q⟩ := h
  unfold eCat at f
  obtain ⟨⟨x, s1⟩, f1, f⟩ := Option.bind_eq_some_iff.mp f
  obtain ⟨⟨y, s2⟩, f2, f⟩ := Option.bind_eq_some_iff.mp f
  obtain ⟨xs, f3, f⟩ := Option.bind_eq_some_iff.mp f
  obtain ⟨ys, f4, f⟩ := Option.bind_eq_some_iff.mp f
  split at f
  · next hz =>
    cases f
    refine ⟨r, m, st, env, x, s1, g, e, f1, fun m1 H1 v1 l1 g1 d1 => ?_⟩
    refine ⟨r, m1, s1, env, y, s2, g1, e.mono l1, f2, fun m2 H2 v2 l2 g2 d2 => ?_⟩
    obtain ⟨a, vs, rfl, i1, q1, z1⟩ := lst_list0 g2 (d1.mono l2) f3
    obtain ⟨b, ws, rfl, i2, q2, z2⟩ := lst_list0 g2 d2 f4
    have z : vs.length + ws.length ≤ sizeLine := by
      rw [← q1.len, ← q2.len]
      exact fits_line hz
    refine .inr (.inr (.inr ⟨a, b, vs, ws, rfl, rfl, i1, i2, z, fun p np => ?_⟩))
    obtain ⟨l3, g3, d3⟩ := new_cell g2 np (by rw [List.length_append]; exact z) (q1.append q2)
    exact q _ _ (.ref p) ((l1.trans l2).trans l3) g3 d3
  · cases f
theorem od_sub : OpD K oSub (rI0 fun i j => .int (i - j)) := by
  intro r m st H dx dy d x y Q g hx hy e q
  unfold oSub at e
  split at e
  · cases e; cases hx; cases hy
    exact ⟨_, _, rfl, rfl, q m H _ (Le.refl m H) g rfl⟩
  · cases e
theorem Dens.rep {ds : List D} {vs : List V} (h : Dens K r m H ds vs) : ∀ k : Nat, Dens K r m H (List.replicate k ds).flatten (List.replicate k vs).flatten
  | 0 => rfl
  | k + 1 => by
    rw [List.replicate_succ, List.replicate_succ, List.flatten_cons, List.flatten_cons]
    exact h.append (Dens.rep h k)
def rMuls (K : Fg) : R2 := fun x y H Q => rI CMul (fun i j => .int (i * j)) x y H Q ∨ rRep x y H Q
theorem op_muls {X : Cx} : OpR X (binaryOp .Mult) (rMuls X.K) := op_mul.or op_rep
theorem od_mul : OpD K oMul (rMuls K) := by
  intro r m st H dx dy d x y Q g hx hy e q
  unfold oMul at e
  split at e
  · split at e
    · next i j hc =>
      cases e; cases hx; cases hy
      refine .inl ⟨_, _, rfl, rfl, ?_, q m H _ (Le.refl m H) g rfl⟩
      unfold mulOk at hc
      rcases Bool.or_eq_true_iff.mp hc with h | h
      · exact .inl (natAbs64 (of_decide_eq_true h))
      · exact .inr (natAbs64 (of_decide_eq_true h))
    · cases e
  · split at e
    · next xs k hc =>
      cases e
      cases hy
      obtain ⟨a, vs, rfl, i1, n1, z1, q1⟩ := hx
      simp only [Bool.and_eq_true, decide_eq_true_eq] at hc
      obtain ⟨⟨h1, h2⟩, h3⟩ := hc
      have z : vs.length * k.toNat ≤ sizeLine := by
        rw [← q1.len]
        exact fits_line h1
      have e62 : (2 : Int) ^ 63 = 9223372036854775808 := by decide
      refine .inr ⟨a, k, vs, rfl, rfl, i1, by rw [e62]; omega, by rw [e62]; omega, z, fun p np => ?_⟩
      have l2 : Le m H m (upd H p (.lst (List.replicate k.toNat vs).flatten)) := le_upd np
      refine q m _ _ l2 (g.upd np) ⟨p, _, rfl, upd_same, g.fresh np, ?_, (q1.rep _).mono l2⟩
      rw [List.length_flatten, List.map_replicate, List.sum_replicate_nat]
      rw [Nat.mul_comm]
      exact z
    · cases e
  · cases e
/-- a list repeated, as a new cell -/
def repC (st : Sto) (x : D) : D → Option (List D)
  | .int k => (lstOf st x).bind fun xs => if fits (xs.length * k.toNat) && decide (-1000000 ≤ k) && decide (k ≤ 1000000) then some (List.replicate k.toNat xs).flatten else none
  | _ => none
def eRepM (fa fb : DE) : DE := fun env st => (fa env st).bind fun p => (fb env p.2).bind fun q => (repC q.2 p.1 q.1).map fun c => (.loc q.2.length, q.2 ++ [c])
theorem rep_cell {x y : D} {v w : V} {c : List D} {Q : VK} (g : Good K r m st H) (hx : Den K r m H x v) (hy : Den K r m H y w) (e : repC st x y = some c) (q : ∀ m' H' u, Le m H m' H' → Good K r m' (st ++ [c]) H' → Den K r m' H' (.loc st.length) u → Q u H') : rMuls K v w H Q := by
  unfold repC at e
  split at e
  · next k =>
    obtain ⟨xs, e1, e⟩ := Option.bind_eq_some_iff.mp e
    split at e
    · next hc =>
      cases e
      cases hy
      obtain ⟨a, vs, rfl, i1, q1, z1⟩ := lst_list0 g hx e1
      simp only [Bool.and_eq_true, decide_eq_true_eq] at hc
      obtain ⟨⟨h1, h2⟩, h3⟩ := hc
      have z : vs.length * k.toNat ≤ sizeLine := by
        rw [← q1.len]
        exact fits_line h1
      have e62 : (2 : Int) ^ 63 = 9223372036854775808 := by decide
      refine .inr ⟨a, k, vs, rfl, rfl, i1, by rw [e62]; omega, by rw [e62]; omega, z, fun p np => ?_⟩
      obtain ⟨l3, g3, d3⟩ := new_cell g np (by rw [List.length_flatten, List.map_replicate, List.sum_replicate_nat, Nat.mul_comm]; exact z) (q1.rep k.toNat)
      exact q _ _ (.ref p) l3 g3 d3
    · cases e
  · cases e
theorem t_repM {σ : L2.St} {H : Hp} {Q : VK} {fa fb : DE} (h : tE K (eRepM fa fb) σ H Q) : tOp (rMuls K) (tE K fa) (tE K fb) σ H Q := by
  obtain ⟨r, m, st, env, d, st', g, e, f, q⟩ := h
  unfold eRepM at f
  obtain ⟨⟨x, s1⟩, f1, f⟩ := Option.bind_eq_some_iff.mp f
  obtain ⟨⟨y, s2⟩, f2, f⟩ := Option.bind_eq_some_iff.mp f
  obtain ⟨c, f3, f⟩ := Option.map_eq_some_iff.mp f
  cases f
  refine ⟨r, m, st, env, x, s1, g, e, f1, fun m1 H1 v1 l1 g1 d1 => ?_⟩
  refine ⟨r, m1, s1, env, y, s2, g1, e.mono l1, f2, fun m2 H2 v2 l2 g2 d2 => ?_⟩
  exact rep_cell g2 (d1.mono l2) d2 f3 fun m3 H3 u l3 g3 d3 => q m3 H3 u ((l1.trans l2).trans l3) g3 d3
theorem od_div : OpD K oDiv (rI CDivW fun i j => .int (i / j)) := by
  intro r m st H dx dy d x y Q g hx hy e q
  unfold oDiv at e
  split at e
  · split at e
    · next i j hc =>
      cases e; cases hx; cases hy
      unfold divOk at hc
      simp only [Bool.and_eq_true, decide_eq_true_eq] at hc
      exact ⟨_, _, rfl, rfl, wide_div hc.1 hc.2 (by decide) (by decide), q m H _ (Le.refl m H) g rfl⟩
    · cases e
  · cases e
theorem od_mod : OpD K oMod (rI (fun _ j => 0 < j) fun i j => .int (i % j)) := by
  intro r m st H dx dy d x y Q g hx hy e q
  unfold oMod at e
  split at e
  · split at e
    · next i j hc =>
      cases e; cases hx; cases hy
      exact ⟨_, _, rfl, rfl, of_decide_eq_true hc, q m H _ (Le.refl m H) g rfl⟩
    · cases e
  · cases e
theorem od_pow : OpD K oPow (rI CPow fun i j => .int (i ^ j.toNat)) := by
  intro r m st H dx dy d x y Q g hx hy e q
  unfold oPow at e
  split at e
  · split at e
    · next i j hc =>
      cases e; cases hx; cases hy
      unfold powOk at hc
      simp only [Bool.and_eq_true, decide_eq_true_eq] at hc
      exact ⟨_, _, rfl, rfl, ⟨hc.1.1, hc.1.2, hc.2⟩, q m H _ (Le.refl m H) g rfl⟩
    · cases e
  · cases e
def rMore (K : Fg) (b : Bool) : R2 := fun x y H Q => (∃ d e, Sees K H d x ∧ Sees K H e y ∧ moreB d e = true) ∧ Q (.bl b) H
def rEqs (K : Fg) : R2 := fun x y H Q => (rEq x y H Q ∨ rEqP K x y H Q) ∨ rMore K false x y H Q
def rNes (K : Fg) : R2 := fun x y H Q => (rNe x y H Q ∨ rNeP K x y H Q) ∨ rMore K true x y H Q
theorem more_at {X : Cx} {pins : List (Addr × Obj)} {σ : L2.St} {H : Hp} {s : Shared} {d e : D} {x y : V} {v u : Value} (I : Inv X pins σ H s) (hd : Sees X.K H d x) (he : Sees X.K H e y) (hm : moreB d e = true) (rx : RelV x v) (ry : RelV y u) :
    ∃ a b, v = .ref a ∧ u = .ref b ∧ ((∃ is js : Array Value, s.heap.IsTuple a is ∧ s.heap.IsTuple b js ∧ is.size ≠ 0 ∧ js.size = 0) ∨ (∃ is js : Array Value, s.heap.IsList a is ∧ s.heap.IsList b js ∧ is.size ≠ 0 ∧ js.size = 0)) := by
  have ls : ∀ {ds : List D} {z : V} {t : Value}, Sees X.K H (.lst ds) z → RelV z t → ∃ a, t = .ref a ∧ ∃ is : Array Value, s.heap.IsList a is ∧ is.size = ds.length := by
    rintro ds z t ⟨r, m, h | ⟨ds2, a, vs, e1, rfl, i, q⟩⟩ rt
    · obtain ⟨a, xs, rfl, i, _, _, q⟩ := h
      cases rt
      obtain ⟨its, rv, il, _⟩ := I.list (SqL.of i)
      exact ⟨a, rfl, _, il.isList, by rw [List.size_toArray, ← rv.length, q.len]⟩
    · cases e1
      cases rt
      obtain ⟨its, rv, il, _⟩ := I.list (SqL.of i)
      exact ⟨a, rfl, _, il.isList, by rw [List.size_toArray, ← rv.length, q.len]⟩
  have tp : ∀ {ds : List D} {z : V} {t : Value}, Sees X.K H (.tup ds) z → RelV z t → ∃ a, t = .ref a ∧ ∃ is : Array Value, s.heap.IsTuple a is ∧ is.size = ds.length := by
    rintro ds z t ⟨r, m, h | ⟨ds2, a, vs, e1, rfl, i, q⟩⟩ rt
    · obtain ⟨a, xs, rfl, i, q⟩ := h
      cases rt
      obtain ⟨its, rv, it, _⟩ := I.tuple i.sq
      exact ⟨a, rfl, _, it, by rw [List.size_toArray, ← rv.length, q.len]⟩
    · cases e1
  unfold moreB at hm
  split at hm
  · obtain ⟨a, rfl, is, h1, l1⟩ := tp hd rx
    obtain ⟨b, rfl, js, h2, l2⟩ := tp he ry
    exact ⟨a, b, rfl, rfl, .inl ⟨is, js, h1, h2, by rw [l1]; simp, by rw [l2]; rfl⟩⟩
  · obtain ⟨a, rfl, is, h1, l1⟩ := ls hd rx
    obtain ⟨b, rfl, js, h2, l2⟩ := ls he ry
    exact ⟨a, b, rfl, rfl, .inr ⟨is, js, h1, h2, by rw [l1]; simp, by rw [l2]; rfl⟩⟩
  · cases hm
theorem op_moreE {X : Cx} (hu : X.A.units + 64 < cLine) : OpR X (compareOp .Eq) (rMore X.K false) := by
  rintro pins s σ H x y v u Q I rx ry ⟨⟨d, e, hd, he, hm⟩, q⟩
  have fin : EP X pins σ Q (.bool false) s := ⟨.bl false, H, I, rfl, q⟩
  obtain ⟨a, b, rfl, rfl, ⟨is, js, h1, h2, l1, l2⟩ | ⟨is, js, h1, h2, l1, l2⟩⟩ := more_at I hd he hm rx ry
  · have := SeqAt.RcAt.tuples (A := X.A) (e := fun _ => true) h1 h2 (by omega) (fun j _ h => by omega) X.prog X.w X.xe (EP X pins σ Q)
    refine this ?_
    have e1 : (is.size == js.size) = false := by simpa using (by omega : is.size ≠ js.size)
    rw [e1, Bool.and_false]
    exact fin
  · exact SeqAt.RcAt.lists_lengths (A := X.A) h1 h2 (by simpa using (by omega : is.size ≠ js.size)) (by omega) X.prog X.w X.xe (EP X pins σ Q) fin
theorem op_moreN {X : Cx} (hu : X.A.units + 64 < cLine) : OpR X (compareOp .NotEq) (rMore X.K true) := by
  rintro pins s σ H x y v u Q I rx ry ⟨⟨d, e, hd, he, hm⟩, q⟩
  have fin : EP X pins σ Q (.bool true) s := ⟨.bl true, H, I, rfl, q⟩
  obtain ⟨a, b, rfl, rfl, ⟨is, js, h1, h2, l1, l2⟩ | ⟨is, js, h1, h2, l1, l2⟩⟩ := more_at I hd he hm rx ry
  · have := SeqAt.RcNeAt.tuples (A := X.A) (e := fun _ => true) h1 h2 (by omega) (fun j _ h => by omega) X.prog X.w X.xe (EP X pins σ Q)
    refine this ?_
    have e1 : (is.size == js.size) = false := by simpa using (by omega : is.size ≠ js.size)
    rw [e1, Bool.and_false]
    exact fin
  · exact SeqAt.RcNeAt.lists_lengths (A := X.A) h1 h2 (by simpa using (by omega : is.size ≠ js.size)) (by omega) X.prog X.w X.xe (EP X pins σ Q) fin
theorem op_eqs {X : Cx} (hu : X.A.units + 64 < cLine) : OpR X (compareOp .Eq) (rEqs X.K) := (op_eq.or (op_eqP hu)).or (op_moreE hu)
theorem op_nes {X : Cx} (hu : X.A.units + 64 < cLine) : OpR X (compareOp .NotEq) (rNes X.K) := (op_ne.or (op_neP hu)).or (op_moreN hu)
theorem dec_vint {i j : Int} : decide (V.int i = V.int j) = decide (i = j) := by
  by_cases h : i = j
  · subst h; simp
  · have : V.int i ≠ V.int j := fun z => h (V.int.inj z)
    simp [h, this]
theorem dec_vstr {i j : Str} : decide (V.str i = V.str j) = decide (i = j) := by
  by_cases h : i = j
  · subst h; simp
  · have : V.str i ≠ V.str j := fun z => h (V.str.inj z)
    simp [h, this]
theorem sees_res {d : D} {v : V} (g : Good K r m st H) (h : Den K r m H d v) : Sees K H (resD st d) v := by
  cases d with
  | loc n =>
    obtain ⟨a, rfl, i, ys, hy⟩ := h
    have hi : n < st.length := by
      rw [← g.len]
      exact (List.getElem?_eq_some_iff.mp i).1
    obtain ⟨xs, q, _, dd⟩ := g.cellL i (List.getElem?_eq_getElem hi) hy
    refine ⟨r, m, .inr ⟨st[n], a, xs, ?_, rfl, q, dd⟩⟩
    show (match st[n]? with | some xs => D.lst xs | none => D.loc n) = _
    rw [List.getElem?_eq_getElem hi]
  | _ => exact ⟨r, m, .inl h⟩
theorem od_eq : OpD K oEq (rEqs K) := by
  intro r m st H dx dy d x y Q g hx hy e q
  unfold oEq at e
  split at e
  · cases e; cases hx; cases hy
    refine .inl (.inl ⟨rfl, ?_⟩)
    rw [dec_vint]
    exact q m H _ (Le.refl m H) g rfl
  · cases e; cases hx; cases hy
    refine .inl (.inl ⟨rfl, ?_⟩)
    rw [dec_vstr]
    exact q m H _ (Le.refl m H) g rfl
  · split at e
    · next hc =>
      cases e
      rw [Bool.and_eq_true] at hc
      exact .inl (.inr ⟨_, _, sees_res g hx, sees_res g hy, hc.1, hc.2, q m H _ (Le.refl m H) g rfl⟩)
    · split at e
      · next hm =>
        cases e
        exact .inr ⟨⟨_, _, sees_res g hx, sees_res g hy, hm⟩, q m H _ (Le.refl m H) g rfl⟩
      · cases e
theorem od_ne : OpD K oNe (rNes K) := by
  intro r m st H dx dy d x y Q g hx hy e q
  unfold oNe at e
  split at e
  · cases e; cases hx; cases hy
    refine .inl (.inl ⟨rfl, ?_⟩)
    rw [dec_vint]
    exact q m H _ (Le.refl m H) g rfl
  · cases e; cases hx; cases hy
    refine .inl (.inl ⟨rfl, ?_⟩)
    rw [dec_vstr]
    exact q m H _ (Le.refl m H) g rfl
  · split at e
    · next hc =>
      cases e
      rw [Bool.and_eq_true] at hc
      exact .inl (.inr ⟨_, _, sees_res g hx, sees_res g hy, hc.1, hc.2, q m H _ (Le.refl m H) g rfl⟩)
    · split at e
      · next hm =>
        cases e
        exact .inr ⟨⟨_, _, sees_res g hx, sees_res g hy, hm⟩, q m H _ (Le.refl m H) g rfl⟩
      · cases e
theorem od_lt : OpD K oLt (rI0 fun i j => .bl (decide (i < j))) := by
  intro r m st H dx dy d x y Q g hx hy e q
  unfold oLt at e
  split at e
  · cases e; cases hx; cases hy
    exact ⟨_, _, rfl, rfl, q m H _ (Le.refl m H) g rfl⟩
  · cases e
theorem od_le : OpD K oLe (rI0 fun i j => .bl (decide (i ≤ j))) := by
  intro r m st H dx dy d x y Q g hx hy e q
  unfold oLe at e
  split at e
  · cases e; cases hx; cases hy
    exact ⟨_, _, rfl, rfl, q m H _ (Le.refl m H) g rfl⟩
  · cases e
theorem od_gt : OpD K oGt (rI0 fun i j => .bl (decide (j < i))) := by
  intro r m st H dx dy d x y Q g hx hy e q
  unfold oGt at e
  split at e
  · cases e; cases hx; cases hy
    exact ⟨_, _, rfl, rfl, q m H _ (Le.refl m H) g rfl⟩
  · cases e
theorem od_ge : OpD K oGe (rI0 fun i j => .bl (decide (j ≤ i))) := by
  intro r m st H dx dy d x y Q g hx hy e q
  unfold oGe at e
  split at e
  · cases e; cases hx; cases hy
    exact ⟨_, _, rfl, rfl, q m H _ (Le.refl m H) g rfl⟩
  · cases e
theorem isNon_iff {d : D} {v : V} (h : Den K r m H d v) : decide (v = V.non) = isNon d := by
  cases d with
  | non => cases h; rfl
  | bl b => cases h; rfl
  | int i => cases h; rfl
  | str x => cases h; rfl
  | tup ds => obtain ⟨a, xs, rfl, _⟩ := h; rfl
  | lst ds => obtain ⟨a, xs, rfl, _⟩ := h; rfl
  | scr ds => obtain ⟨a, xs, rfl, _⟩ := h; rfl
  | dic => obtain ⟨a, rfl, _⟩ := h; rfl
  | loc n => obtain ⟨a, rfl, _⟩ := h; rfl
  | cel k n => obtain ⟨a, o, rfl, _⟩ := h; rfl
  | tag t => exact False.elim h
  | otp ds => obtain ⟨a, xs, rfl, _⟩ := h; rfl
theorem od_is : OpD K oIs (fun x y H Q => (y = .non ∧ Q (.bl (decide (x = .non))) H) ∨ rIsB x y H Q) := by
  intro r m st H dx dy d x y Q g hx hy e q
  unfold oIs at e
  split at e
  · cases e; cases hy
    refine .inl ⟨rfl, ?_⟩
    rw [isNon_iff hx]
    exact q m H _ (Le.refl m H) g rfl
  · cases e; cases hx; cases hy
    exact .inr ⟨_, _, rfl, rfl, q m H _ (Le.refl m H) g rfl⟩
  · cases e
theorem od_isnot : OpD K oIsNot (fun x y H Q => (y = .non ∧ Q (.bl (!decide (x = .non))) H) ∨ rNotB x y H Q) := by
  intro r m st H dx dy d x y Q g hx hy e q
  unfold oIsNot at e
  split at e
  · cases e; cases hy
    refine .inl ⟨rfl, ?_⟩
    rw [isNon_iff hx]
    exact q m H _ (Le.refl m H) g rfl
  · cases e; cases hx; cases hy
    exact .inr ⟨_, _, rfl, rfl, q m H _ (Le.refl m H) g rfl⟩
  · cases e
theorem key_den {d : D} {v : V} {k : Key} (h : Den K r m H d v) (e : keyD d = some k) : v = kV k := by
  unfold keyD at e
  split at e
  · cases e; exact h
  · cases e; exact h
  · cases e
theorem val_den {k : Key} : ∀ {ks : List Key} {ds : List D} {vs : List V}, Dens K r m H ds vs → (∀ d, valD ks ds k = some d → ∃ v, valV (ks.zip vs) k = some v ∧ Den K r m H d v) ∧ (valD ks ds k).isSome = (valV (ks.zip vs) k).isSome
  | [], _, _, _ => ⟨fun d e => (by cases e), rfl⟩
  | _ :: _, [], _, h => by
    cases h
    exact ⟨fun d e => (by cases e), rfl⟩
  | k' :: ks, x :: ds, _, h => by
    obtain ⟨w, ws, rfl, a, b⟩ := h
    obtain ⟨i1, i2⟩ := val_den (k := k) (ks := ks) b
    unfold valD valV at i1 i2 ⊢
    rw [List.zip_cons_cons, List.zip_cons_cons, List.find?_cons, List.find?_cons]
    by_cases e : k' = k
    · simp only [decide_eq_true e]
      exact ⟨fun d q => by cases q; exact ⟨w, rfl, a⟩, rfl⟩
    · simp only [decide_eq_false e]
      exact ⟨i1, i2⟩
theorem dict_cell {n : Nat} {v : V} {ks : List Key} {ds : List D} (g : Good K r m st H) (h : Den K r m H (.cel .dct n) v) (e : dictOf st n = some (ks, ds)) :
    ∃ a vs, v = .ref a ∧ m[n]? = some a ∧ Rd H a (.dK (ks.zip vs)) ∧ ks.length = vs.length ∧ vs.length ≤ sizeLine ∧ Dens K r m H ds vs := by
  obtain ⟨a, o, rfl, i, h1, hk⟩ := h
  unfold dictOf at e
  split at e
  · next e1 =>
    cases e
    obtain ⟨vs, h2, l, z, q⟩ := g.cell n a _ i e1
    exact ⟨a, vs, rfl, i, .inl h2, l, z, q⟩
  · next e1 =>
    cases e
    obtain ⟨od, vs, h2, l, z, q⟩ := g.cell n a _ i e1
    exact ⟨a, vs, rfl, i, .inr ⟨od, h2⟩, l, z, q⟩
  · cases e
def rIxD : R2 := fun x y H Q => ∃ a v, x = .ref a ∧ DGet H a y (some v) ∧ Q v H
def rIxA (K : Fg) : R2 := fun x y H Q => rIx K x y H Q ∨ rIxD x y H Q
theorem ix_dict {X : Cx} (hu : X.A.units + 1 < cLine) : IxR X rIxD := by
  intro value slice pins s σ H x y v u Q I rx ry h hs
  obtain ⟨a, w, rfl, gd, q⟩ := h
  cases rx
  have hT := dict_typeIs I gd
  unfold subscriptTail
  refine wpAny_bind ?_
  rw [getitemInPython_of_ne hT.not_modules]
  refine wpAny_bind (wpAny_specialOf hT PySem.F.slot_dict_getitem.lookup ?_)
  have fin : wpAny (model X.prog X.w) X.A (subscripted slice false (.ref a) u) (fun r s₃ => wpAny (model X.prog X.w) X.A (letTemporaryGo value (.ref a) r >>= fun _ => pure r) (EP X pins σ Q) X.xe s₃) X.xe s := by
    rw [hs]
    exact wpAny_operating (d_getItem hu I gd ry fun w' s' I' rw' => wpAny_bind (wpAny_letTemporaryGo (wpAny_pure ⟨w, H, I', rw', q⟩)))
  first
    | exact wpAny_pure (wpAny_bind fin)
    | exact wpAny_bind (wpAny_pure (wpAny_bind fin))
    | exact wpAny_bind fin
theorem ix_all {X : Cx} (hu : X.A.units + 1 < cLine) : IxR X (rIxA X.K) := ix_seq.or (ix_dict hu)
theorem od_ix : OpD K oIx (rIxA K) := by
  intro r m st H dx dy d x y Q g hx hy e q
  unfold oIx at e
  split at e
  · next n _ =>
    obtain ⟨⟨ks, ds⟩, e1, e⟩ := Option.bind_eq_some_iff.mp e
    obtain ⟨k, e2, e⟩ := Option.bind_eq_some_iff.mp e
    obtain ⟨a, vs, rfl, i, h1, _, _, dd⟩ := dict_cell g hx e1
    obtain ⟨v, ev, dv⟩ := (val_den (k := k) (ks := ks) dd).1 d e
    exact .inr ⟨a, v, rfl, .inl ⟨_, k, h1, key_den hy e2, ev.symm⟩, q m H _ (Le.refl m H) g dv⟩
  · split at e
    · next z i hz =>
      obtain ⟨c, e1, e2⟩ := Option.map_eq_some_iff.mp e
      subst e2
      cases hx; cases hy
      exact .inl (.inr (.inr ⟨z, i, c, rfl, rfl, fits_line hz, e1, q m H _ (Le.refl m H) g rfl⟩))
    · cases e
  · next i _ _ =>
    obtain ⟨xs, e1, e2⟩ := Option.bind_eq_some_iff.mp e
    cases hy
    obtain ⟨a, vs, rfl, s, dd, _⟩ := seq_list g hx e1
    obtain ⟨v, ev, dv⟩ := at_den dd e2
    rcases s with s | s
    · exact .inl (.inl ⟨a, vs, i, v, rfl, rfl, s, ev, q m H _ (Le.refl m H) g dv⟩)
    · exact .inl (.inr (.inl ⟨a, vs, i, v, rfl, rfl, s, ev, q m H _ (Le.refl m H) g dv⟩))
  · cases e
theorem flat_den {d : D} {v w : V} (h : Den K r m H d v) (e : flatD d = some w) : v = w ∧ flatV w = true := by
  cases d with
  | non => cases e; cases h; exact ⟨rfl, rfl⟩
  | bl b => cases e; cases h; exact ⟨rfl, rfl⟩
  | int i => cases e; cases h; exact ⟨rfl, rfl⟩
  | str x => cases e; cases h; exact ⟨rfl, rfl⟩
  | _ => cases e
theorem flats_den : ∀ {ds : List D} {vs ws : List V}, Dens K r m H ds vs → flatDs ds = some ws → vs = ws ∧ ws.all flatV = true
  | [], _, _, h, e => by
    cases h; cases e
    exact ⟨rfl, rfl⟩
  | d :: ds, _, _, h, e => by
    obtain ⟨x, tl, rfl, a, b⟩ := h
    unfold flatDs at e
    obtain ⟨v, e1, e⟩ := Option.bind_eq_some_iff.mp e
    obtain ⟨us, e2, e3⟩ := Option.map_eq_some_iff.mp e
    subst e3
    obtain ⟨rfl, f⟩ := flat_den a e1
    obtain ⟨rfl, fs⟩ := flats_den b e2
    exact ⟨rfl, by rw [List.all_cons, f, fs]; rfl⟩
def rInD (neg : Bool) : R2 := fun x y H Q => ∃ a o, y = .ref a ∧ DGet H a x o ∧ Q (.bl (if neg then !o.isSome else o.isSome)) H
theorem op_inD {X : Cx} (hu : X.A.units + 1 < cLine) : OpR X (compareOp .In) (rInD false) := by
  intro pins s σ H x y v u Q I rx ry h
  obtain ⟨a, o, rfl, gd, q⟩ := h
  cases ry
  exact d_in hu I gd rx fun s' I' => ⟨.bl o.isSome, H, I', rfl, q⟩
theorem op_notInD {X : Cx} (hu : X.A.units + 1 < cLine) : OpR X (compareOp .NotIn) (rInD true) := by
  intro pins s σ H x y v u Q I rx ry h
  obtain ⟨a, o, rfl, gd, q⟩ := h
  cases ry
  exact d_notIn hu I gd rx fun s' I' => ⟨.bl (!o.isSome), H, I', rfl, q⟩
def rInP (K : Fg) (neg : Bool) : R2 := fun x y H Q => ∃ d xs, Sees K H d x ∧ Sees K H (.lst xs) y ∧ okI d = true ∧ lays xs = true ∧ Q (.bl (if neg then !(xs.any fun z => eqD z d) else xs.any fun z => eqD z d)) H
theorem any_py (d : D) : ∀ xs : List D, ((pyDs xs).any fun y => PyData.eqv y (pyD d)) = xs.any fun z => eqD z d
  | [] => by simp [pyDs]
  | x :: xs => by
    simp only [pyDs, List.any_cons, any_py d xs]
    rfl
theorem okI_room {d : D} {xs : List D} {n : Nat} (h : okI d = true) (hu : n + 64 < cLine) : n + 1 + min (PyData.depthAll (pyDs xs)) (pyD d).depth < cLine := by
  unfold okI at h
  rw [Bool.and_eq_true, decide_eq_true_eq] at h
  have := dep_eq d
  omega
theorem op_inP {X : Cx} (hu : X.A.units + 64 < cLine) : OpR X (compareOp .In) (rInP X.K false) := by
  intro pins s σ H x y v u Q I rx ry h
  obtain ⟨d, xs, hd, he, sd, se, q⟩ := h
  have l : lay d = true := by unfold okI at sd; rw [Bool.and_eq_true] at sd; exact sd.1
  obtain ⟨as, r1⟩ := hd.reads I l rx
  obtain ⟨bs, r2⟩ := he.reads I (by unfold lay; exact se) ry
  have r2 : Reads s.heap u (.list (pyDs xs)) bs := by simpa only [pyD] using r2
  have q : Q (.bl ((pyDs xs).any fun y => PyData.eqv y (pyD d))) H := by rw [any_py]; exact q
  exact SeqAt.in_list_reads r2 r1 (lays_can xs se) (lay_can d l) (okI_room sd hu) ⟨.bl _, H, I, rfl, q⟩
theorem op_notInP {X : Cx} (hu : X.A.units + 64 < cLine) : OpR X (compareOp .NotIn) (rInP X.K true) := by
  intro pins s σ H x y v u Q I rx ry h
  obtain ⟨d, xs, hd, he, sd, se, q⟩ := h
  have l : lay d = true := by unfold okI at sd; rw [Bool.and_eq_true] at sd; exact sd.1
  obtain ⟨as, r1⟩ := hd.reads I l rx
  obtain ⟨bs, r2⟩ := he.reads I (by unfold lay; exact se) ry
  have r2 : Reads s.heap u (.list (pyDs xs)) bs := by simpa only [pyD] using r2
  have q : Q (.bl (!(pyDs xs).any fun y => PyData.eqv y (pyD d))) H := by rw [any_py]; exact q
  exact SeqAt.notIn_list_reads r2 r1 (lays_can xs se) (lay_can d l) (okI_room sd hu) ⟨.bl _, H, I, rfl, q⟩
def rInT (K : Fg) (neg : Bool) : R2 := fun x y H Q => ∃ d xs, Sees K H d x ∧ Sees K H (.tup xs) y ∧ okI d = true ∧ lays xs = true ∧ Q (.bl (if neg then !(xs.any fun z => eqD z d) else xs.any fun z => eqD z d)) H
theorem op_inT {X : Cx} (hu : X.A.units + 64 < cLine) : OpR X (compareOp .In) (rInT X.K false) := by
  intro pins s σ H x y v u Q I rx ry h
  obtain ⟨d, xs, hd, he, sd, se, q⟩ := h
  have l : lay d = true := by unfold okI at sd; rw [Bool.and_eq_true] at sd; exact sd.1
  obtain ⟨as, r1⟩ := hd.reads I l rx
  obtain ⟨bs, r2⟩ := he.reads I (by unfold lay; exact se) ry
  have r2 : Reads s.heap u (.tuple (pyDs xs)) bs := by simpa only [pyD] using r2
  have q : Q (.bl ((pyDs xs).any fun y => PyData.eqv y (pyD d))) H := by rw [any_py]; exact q
  exact SeqAt.in_tuple_reads r2 r1 (lays_can xs se) (lay_can d l) (okI_room sd hu) ⟨.bl _, H, I, rfl, q⟩
theorem op_notInT {X : Cx} (hu : X.A.units + 64 < cLine) : OpR X (compareOp .NotIn) (rInT X.K true) := by
  intro pins s σ H x y v u Q I rx ry h
  obtain ⟨d, xs, hd, he, sd, se, q⟩ := h
  have l : lay d = true := by unfold okI at sd; rw [Bool.and_eq_true] at sd; exact sd.1
  obtain ⟨as, r1⟩ := hd.reads I l rx
  obtain ⟨bs, r2⟩ := he.reads I (by unfold lay; exact se) ry
  have r2 : Reads s.heap u (.tuple (pyDs xs)) bs := by simpa only [pyD] using r2
  have q : Q (.bl (!(pyDs xs).any fun y => PyData.eqv y (pyD d))) H := by rw [any_py]; exact q
  exact SeqAt.notIn_tuple_reads r2 r1 (lays_can xs se) (lay_can d l) (okI_room sd hu) ⟨.bl _, H, I, rfl, q⟩
theorem od_in (neg : Bool) : OpD K (oInS neg) (fun x y H Q => ((rIn K neg x y H Q ∨ rInD neg x y H Q) ∨ rInP K neg x y H Q) ∨ rInT K neg x y H Q) := by
  intro r m st H dx dy d x y Q g hx hy e q
  unfold oInS at e
  split at e
  · next n =>
    obtain ⟨⟨ks, ds⟩, e1, e⟩ := Option.bind_eq_some_iff.mp e
    obtain ⟨k, e2, e3⟩ := Option.map_eq_some_iff.mp e
    subst e3
    obtain ⟨a, vs, rfl, i, h1, _, _, dd⟩ := dict_cell g hy e1
    refine .inl (.inl (.inr ⟨a, _, rfl, .inl ⟨_, k, h1, key_den hx e2, rfl⟩, ?_⟩))
    rw [← (val_den (k := k) (ks := ks) dd).2]
    exact q m H _ (Le.refl m H) g rfl
  · rcases Option.or_eq_some_iff.mp e with e | ⟨_, e⟩
    · obtain ⟨xs, e1, e⟩ := Option.bind_eq_some_iff.mp e
      obtain ⟨v, e2, e⟩ := Option.bind_eq_some_iff.mp e
      obtain ⟨vs, e3, e4⟩ := Option.map_eq_some_iff.mp e
      subst e4
      obtain ⟨a, ws, rfl, s, dd, _⟩ := seq_list g hy e1
      obtain ⟨rfl, f⟩ := flat_den hx e2
      obtain ⟨rfl, fs⟩ := flats_den dd e3
      exact .inl (.inl (.inl ⟨a, ws, rfl, s, f, fs, q m H _ (Le.refl m H) g rfl⟩))
    · have sy := sees_res g hy
      unfold inDeep at e
      split at e
      · next xs hr =>
        split at e
        · next hc =>
          cases e
          rw [Bool.and_eq_true] at hc
          rw [hr] at sy
          exact .inl (.inr ⟨dx, xs, ⟨r, m, .inl hx⟩, sy, hc.1, hc.2, q m H _ (Le.refl m H) g rfl⟩)
        · cases e
      · next xs hr =>
        split at e
        · next hc =>
          cases e
          rw [Bool.and_eq_true] at hc
          rw [hr] at sy
          exact .inr ⟨dx, xs, ⟨r, m, .inl hx⟩, sy, hc.1, hc.2, q m H _ (Le.refl m H) g rfl⟩
        · cases e
      · cases e
def oNeg : D → Option D
  | .int i => some (.int (-i))
  | _ => none
theorem ud_neg : UnD K oNeg (rU fun i => .int (-i)) := by
  intro r m st H dx d x Q g hx e q
  unfold oNeg at e
  split at e
  · cases e; cases hx
    exact ⟨_, rfl, q m H _ (Le.refl m H) g rfl⟩
  · cases e
def gLen (st : Sto) : List D → Option D
  | [.str z] => if fits z.length then some (.int z.length) else none
  | [d] => (seqOf st d).map fun xs => .int xs.length
  | _ => none
def rLens (K : Fg) : List V → Hp → VK → Prop := fun xs H Q => (∃ p ys, xs = [.ref p] ∧ (SqL K H p ys ∨ SqT K H p ys) ∧ Q (.int ys.length) H) ∨ (∃ z, xs = [.str z] ∧ z.length ≤ sizeLine ∧ Q (.int z.length) H)
theorem cr_lens {X : Cx} : CallR X (.builtin "len") (rLens X.K) := call_len_seq.or call_len_str
theorem cd_len : CallD K gLen (rLens K) := by
  intro r m st H ds d vs Q g h e q
  unfold gLen at e
  split at e
  · split at e
    · next z hz =>
      cases e
      obtain ⟨x, tl, rfl, a, b⟩ := h
      cases a; cases b
      exact .inr ⟨z, rfl, fits_line hz, q m H _ (Le.refl m H) g rfl⟩
    · cases e
  · next d' _ =>
    obtain ⟨xs, e1, e2⟩ := Option.map_eq_some_iff.mp e
    subst e2
    obtain ⟨x, tl, rfl, a, b⟩ := h
    cases b
    obtain ⟨p, ws, rfl, s, dd, _⟩ := seq_list g a e1
    rw [dd.len] at q
    exact .inl ⟨p, ws, rfl, s, q m H _ (Le.refl m H) g rfl⟩
  · cases e
def gMin2 (_ : Sto) : List D → Option D
  | [.int i, .int j] => some (.int (if j < i then j else i))
  | _ => none
def gMax2 (_ : Sto) : List D → Option D
  | [.int i, .int j] => some (.int (if j > i then j else i))
  | _ => none
theorem cd_min2 : CallD K gMin2 (fun xs H Q => ∃ i j, xs = [.int i, .int j] ∧ Q (.int (if j < i then j else i)) H) := by
  intro r m st H ds d vs Q g h e q
  unfold gMin2 at e
  split at e
  · cases e
    obtain ⟨x, tl, rfl, a, y, s, rfl, b, c⟩ := h
    cases a; cases b; cases c
    exact ⟨_, _, rfl, q m H _ (Le.refl m H) g rfl⟩
  · cases e
theorem cd_max2 : CallD K gMax2 (fun xs H Q => ∃ i j, xs = [.int i, .int j] ∧ Q (.int (if j > i then j else i)) H) := by
  intro r m st H ds d vs Q g h e q
  unfold gMax2 at e
  split at e
  · cases e
    obtain ⟨x, tl, rfl, a, y, s, rfl, b, c⟩ := h
    cases a; cases b; cases c
    exact ⟨_, _, rfl, q m H _ (Le.refl m H) g rfl⟩
  · cases e
def intsOf : List D → Option (List Int)
  | [] => some []
  | .int i :: ds => (intsOf ds).map fun r => i :: r
  | _ => none
def blsOf : List D → Option (List Bool)
  | [] => some []
  | .bl b :: ds => (blsOf ds).map fun r => b :: r
  | _ => none
theorem intsOf_eq : ∀ {ds : List D} {ns : List Int}, intsOf ds = some ns → ds = ns.map D.int
  | [], _, e => by cases e; rfl
  | d :: ds, ns, e => by
    unfold intsOf at e
    split at e
    · next h => cases h
    · next i ds' h =>
      cases h
      obtain ⟨r, e1, e2⟩ := Option.map_eq_some_iff.mp e
      subst e2
      rw [intsOf_eq e1]
      rfl
    · cases e
theorem blsOf_eq : ∀ {ds : List D} {ns : List Bool}, blsOf ds = some ns → ds = ns.map D.bl
  | [], _, e => by cases e; rfl
  | d :: ds, ns, e => by
    unfold blsOf at e
    split at e
    · next h => cases h
    · next i ds' h =>
      cases h
      obtain ⟨r, e1, e2⟩ := Option.map_eq_some_iff.mp e
      subst e2
      rw [blsOf_eq e1]
      rfl
    · cases e
theorem intsOf_map (ns : List Int) : intsOf (ns.map D.int) = some ns := by
  induction ns with
  | nil => rfl
  | cons n ns ih =>
    rw [List.map_cons]
    unfold intsOf
    rw [ih]
    rfl
theorem blsOf_map (ns : List Bool) : blsOf (ns.map D.bl) = some ns := by
  induction ns with
  | nil => rfl
  | cons n ns ih =>
    rw [List.map_cons]
    unfold blsOf
    rw [ih]
    rfl
/-- the items of a list (no tuple) -/
theorem lst_list {d : D} {xs : List D} {v : V} (g : Good K r m st H) (h : Den K r m H d v) (e : lstOf st d = some xs) :
    ∃ a vs, v = .ref a ∧ H a = some (.lst vs) ∧ Dens K r m H xs vs ∧ vs.length ≤ sizeLine := by
  cases d with
  | lst ds =>
    cases e
    obtain ⟨a, vs, rfl, i, _, z, q⟩ := h
    exact ⟨a, vs, rfl, i, q, z⟩
  | loc n =>
    obtain ⟨a, rfl, i, ys, hy⟩ := h
    obtain ⟨vs, q, z, r⟩ := g.cellL i e hy
    exact ⟨a, vs, rfl, q, r, z⟩
  | _ => cases e
def gSum0 (st : Sto) : List D → Option D
  | [d] => (lstOf st d).bind fun xs => (intsOf xs).map fun ns => .int ns.sum
  | _ => none
theorem cd_sum0 : CallD K gSum0 (rSum K) := by
  intro r m st H ds d vs Q g h e q
  unfold gSum0 at e
  split at e
  · obtain ⟨xs, e1, e⟩ := Option.bind_eq_some_iff.mp e
    obtain ⟨ns, e2, e3⟩ := Option.map_eq_some_iff.mp e
    subst e3
    obtain ⟨x, tl, rfl, a, b⟩ := h
    cases b
    obtain ⟨p, ws, rfl, s, dd, _⟩ := lst_list g a e1
    rw [intsOf_eq e2] at dd
    rw [dd.ints] at s
    exact ⟨p, ns, rfl, SqL.of s, q m H _ (Le.refl m H) g rfl⟩
  · cases e
def gAll (st : Sto) : List D → Option D
  | [d] => (lstOf st d).bind fun xs => (blsOf xs).map fun ns => .bl (ns.all id)
  | _ => none
theorem cd_all : CallD K gAll (rAll K) := by
  intro r m st H ds d vs Q g h e q
  unfold gAll at e
  split at e
  · obtain ⟨xs, e1, e⟩ := Option.bind_eq_some_iff.mp e
    obtain ⟨ns, e2, e3⟩ := Option.map_eq_some_iff.mp e
    subst e3
    obtain ⟨x, tl, rfl, a, b⟩ := h
    cases b
    obtain ⟨p, ws, rfl, s, dd, _⟩ := lst_list g a e1
    rw [blsOf_eq e2] at dd
    rw [dd.bls] at s
    exact ⟨p, ns, rfl, SqL.of s, q m H _ (Le.refl m H) g rfl⟩
  · cases e
def gAny (st : Sto) : List D → Option D
  | [d] => (lstOf st d).bind fun xs => (blsOf xs).map fun ns => .bl (ns.any id)
  | _ => none
theorem cd_any : CallD K gAny (rAny K) := by
  intro r m st H ds d vs Q g h e q
  unfold gAny at e
  split at e
  · obtain ⟨xs, e1, e⟩ := Option.bind_eq_some_iff.mp e
    obtain ⟨ns, e2, e3⟩ := Option.map_eq_some_iff.mp e
    subst e3
    obtain ⟨x, tl, rfl, a, b⟩ := h
    cases b
    obtain ⟨p, ws, rfl, s, dd, _⟩ := lst_list g a e1
    rw [blsOf_eq e2] at dd
    rw [dd.bls] at s
    exact ⟨p, ns, rfl, SqL.of s, q m H _ (Le.refl m H) g rfl⟩
  · cases e
/-- the greatest, the least of a list of ints -/
def maxOf : List Int → Int
  | [] => 0
  | [x] => x
  | x :: y :: r => max x (maxOf (y :: r))
def minOf : List Int → Int
  | [] => 0
  | [x] => x
  | x :: y :: r => min x (minOf (y :: r))
theorem maxOf_spec : ∀ (ns : List Int), 0 < ns.length → maxOf ns ∈ ns ∧ ∀ y ∈ ns, y ≤ maxOf ns
  | [], h => absurd h (by decide)
  | [x], _ => ⟨by simp [maxOf], fun y hy => by simp at hy; simp [maxOf, hy]⟩
  | x :: y :: r, _ => by
    obtain ⟨a, b⟩ := maxOf_spec (y :: r) (by simp)
    unfold maxOf
    refine ⟨?_, fun z hz => ?_⟩
    · by_cases h : x ≤ maxOf (y :: r)
      · rw [Int.max_eq_right h]
        exact List.mem_cons_of_mem _ a
      · rw [Int.max_eq_left (by omega)]
        exact List.mem_cons_self
    · rcases List.mem_cons.mp hz with rfl | hz
      · exact Int.le_max_left _ _
      · exact Int.le_trans (b z hz) (Int.le_max_right _ _)
theorem minOf_spec : ∀ (ns : List Int), 0 < ns.length → minOf ns ∈ ns ∧ ∀ y ∈ ns, minOf ns ≤ y
  | [], h => absurd h (by decide)
  | [x], _ => ⟨by simp [minOf], fun y hy => by simp at hy; simp [minOf, hy]⟩
  | x :: y :: r, _ => by
    obtain ⟨a, b⟩ := minOf_spec (y :: r) (by simp)
    unfold minOf
    refine ⟨?_, fun z hz => ?_⟩
    · by_cases h : x ≤ minOf (y :: r)
      · rw [Int.min_eq_left h]
        exact List.mem_cons_self
      · rw [Int.min_eq_right (by omega)]
        exact List.mem_cons_of_mem _ a
    · rcases List.mem_cons.mp hz with rfl | hz
      · exact Int.min_le_left _ _
      · exact Int.le_trans (Int.min_le_right _ _) (b z hz)
def rMaxT (K : Fg) : List V → Hp → VK → Prop := fun vs H Q => ∃ (a : Addr) (ns : List Int), vs = [V.ref a] ∧ SqT K H a (ns.map V.int) ∧ 0 < ns.length ∧ ∀ m, m ∈ ns → (∀ y, y ∈ ns → y ≤ m) → Q (.int m) H
def rMinT (K : Fg) : List V → Hp → VK → Prop := fun vs H Q => ∃ (a : Addr) (ns : List Int), vs = [V.ref a] ∧ SqT K H a (ns.map V.int) ∧ 0 < ns.length ∧ ∀ m, m ∈ ns → (∀ y, y ∈ ns → m ≤ y) → Q (.int m) H
theorem reads_ints (h : Heap) : ∀ {ns : List Int} {us : List Value}, Vals (ns.map V.int) us → PySem.W.HoldAll h us ns
  | [], _, r => by
    cases r
    exact ⟨_, .nil⟩
  | n :: ns, _, r => by
    cases r with
    | cons a b =>
      obtain ⟨t, rfl⟩ := a
      obtain ⟨as, q⟩ := reads_ints h b
      exact ⟨_, .cons (.int n t) q⟩
theorem fold_min : ∀ (xs : List Int) (x : Int), (PySem.W.minOf x xs ∈ x :: xs) ∧ ∀ y ∈ x :: xs, PySem.W.minOf x xs ≤ y
  | [], x => ⟨List.mem_cons_self, fun y hy => by rw [List.mem_singleton.mp hy]; exact Int.le_refl _⟩
  | z :: xs, x => by
    have e : PySem.W.minOf x (z :: xs) = PySem.W.minOf (if decide (z < x) = true then z else x) xs := rfl
    rw [e]
    by_cases h : z < x
    · rw [decide_eq_true h, if_pos rfl]
      obtain ⟨a, b⟩ := fold_min xs z
      refine ⟨List.mem_cons_of_mem _ a, fun y hy => ?_⟩
      rcases List.mem_cons.mp hy with e | hy
      · have := b z List.mem_cons_self
        omega
      · exact b y hy
    · rw [decide_eq_false h, if_neg Bool.false_ne_true]
      obtain ⟨a, b⟩ := fold_min xs x
      refine ⟨?_, fun y hy => ?_⟩
      · rcases List.mem_cons.mp a with e | e
        · rw [e]; exact List.mem_cons_self
        · exact List.mem_cons_of_mem _ (List.mem_cons_of_mem _ e)
      · rcases List.mem_cons.mp hy with e | hy
        · rw [e]; exact b x List.mem_cons_self
        · rcases List.mem_cons.mp hy with e | hy
          · have := b x List.mem_cons_self
            omega
          · exact b y (List.mem_cons_of_mem _ hy)
theorem fold_max : ∀ (xs : List Int) (x : Int), (PySem.W.maxOf x xs ∈ x :: xs) ∧ ∀ y ∈ x :: xs, y ≤ PySem.W.maxOf x xs
  | [], x => ⟨List.mem_cons_self, fun y hy => by rw [List.mem_singleton.mp hy]; exact Int.le_refl _⟩
  | z :: xs, x => by
    have e : PySem.W.maxOf x (z :: xs) = PySem.W.maxOf (if decide (x < z) = true then z else x) xs := rfl
    rw [e]
    by_cases h : x < z
    · rw [decide_eq_true h, if_pos rfl]
      obtain ⟨a, b⟩ := fold_max xs z
      refine ⟨List.mem_cons_of_mem _ a, fun y hy => ?_⟩
      rcases List.mem_cons.mp hy with e | hy
      · have := b z List.mem_cons_self
        omega
      · exact b y hy
    · rw [decide_eq_false h, if_neg Bool.false_ne_true]
      obtain ⟨a, b⟩ := fold_max xs x
      refine ⟨?_, fun y hy => ?_⟩
      · rcases List.mem_cons.mp a with e | e
        · rw [e]; exact List.mem_cons_self
        · exact List.mem_cons_of_mem _ (List.mem_cons_of_mem _ e)
      · rcases List.mem_cons.mp hy with e | hy
        · rw [e]; exact b x List.mem_cons_self
        · rcases List.mem_cons.mp hy with e | hy
          · have := b x List.mem_cons_self
            omega
          · exact b y (List.mem_cons_of_mem _ hy)
theorem cr_minT {X : Cx} (hc : X.calm = true) (hu : X.A.units + 64 < cLine) : CallR X (.builtin "min") (rMinT X.K) := by
  rintro pins s σ H _ us Q I r ⟨a, ns, rfl, sq, hne, q⟩
  obtain ⟨its, rv, tup, _⟩ := I.tuple sq
  rw [Vals.ref1 r]
  match ns, hne, rv, q with
  | n :: ms, _, rv, q =>
    refine PySem.W.min_tuple_datum (x := n) (xs := ms) (I.ok.hd hc) tup (by simpa using reads_ints s.heap rv) (Nat.lt_of_le_of_lt (Nat.add_le_add_left (show 1 + 0 ≤ 64 by decide) _) hu) fun i v h' tk _ hv hk => ?_
    obtain ⟨bs, hv⟩ := hv
    have hv : Reads h' v (.int (PySem.W.minOf n ms)) bs := hv
    cases hv
    exact ⟨.int _, H, I.kept hk, ⟨_, rfl⟩, q _ (fold_min ms n).1 (fold_min ms n).2⟩
theorem cr_maxT {X : Cx} (hc : X.calm = true) (hu : X.A.units + 64 < cLine) : CallR X (.builtin "max") (rMaxT X.K) := by
  rintro pins s σ H _ us Q I r ⟨a, ns, rfl, sq, hne, q⟩
  obtain ⟨its, rv, tup, _⟩ := I.tuple sq
  rw [Vals.ref1 r]
  match ns, hne, rv, q with
  | n :: ms, _, rv, q =>
    refine PySem.W.max_tuple_datum (x := n) (xs := ms) (I.ok.hd hc) tup (by simpa using reads_ints s.heap rv) (Nat.lt_of_le_of_lt (Nat.add_le_add_left (show 1 + 0 ≤ 64 by decide) _) hu) fun i v h' tk _ hv hk => ?_
    obtain ⟨bs, hv⟩ := hv
    have hv : Reads h' v (.int (PySem.W.maxOf n ms)) bs := hv
    cases hv
    exact ⟨.int _, H, I.kept hk, ⟨_, rfl⟩, q _ (fold_max ms n).1 (fold_max ms n).2⟩
def gMaxO (st : Sto) : List D → Option D
  | [d] => (seqOf st d).bind fun xs => (intsOf xs).bind fun ns => if ns.isEmpty then none else some (.int (maxOf ns))
  | _ => none
def intK : List Key → Option (List Int)
  | [] => some []
  | .inl i :: ks => (intK ks).map fun is => i :: is
  | _ => none
theorem intK_eq : ∀ {ks : List Key} {is : List Int}, intK ks = some is → ks = is.map Sum.inl
  | [], _, h => by cases h; rfl
  | .inl i :: ks, _, h => by
    obtain ⟨is, h1, rfl⟩ := Option.map_eq_some_iff.mp h
    rw [intK_eq h1]
    rfl
  | .inr _ :: ks, _, h => by cases h
def keysD (st : Sto) (n : Nat) : Option (List Int) := match st[n]? with
  | some (.tag (.di ks) :: _) => intK ks
  | _ => none
def rTopK : List V → Hp → VK → Prop := fun vs H Q => ∃ (d : Addr) (ps : List (Key × V)) (ns : List Int), vs = [V.ref d] ∧ H d = some (.dK ps) ∧ ps.map (·.1) = ns.map Sum.inl ∧ ns ≠ [] ∧ ∀ t, t ∈ ns → (∀ j ∈ ns, j ≤ t) → Q (.int t) H
theorem cr_topK {X : Cx} (calm : X.calm = true) : CallR X (.builtin "max") rTopK := by
  intro pins s σ H vs us Q I r ⟨d, ps, ns, e0, hd, keys, some1, fin⟩
  subst e0
  rw [Vals.ref1 r]
  obtain ⟨_, sysNe, ws, kv, dic⟩ := dk_of I.hok hd
  obtain ⟨ep, dat⟩ := dic.dictAt
  obtain ⟨ob, es, got, _⟩ := id dat
  have inHeap : d < s.heap.objs.size := Heap.lt_size got
  have keys2 : ws.map (·.1) = ns.map Sum.inl := (KV.keys kv).symm.trans keys
  have len2 : ws.length = ns.length := by
    have z := congrArg List.length keys2
    rwa [List.length_map, List.length_map] at z
  have pos2 : 0 < ws.length := by
    rw [len2]
    cases ns with
    | nil => exact absurd rfl some1
    | cons _ _ => exact Nat.succ_pos _
  let num : Nat → Int := fun i => ns.getD i 0
  have nums : ∀ (i : Nat) (v : Value), (∃ k x, ws[i]? = some (k, x) ∧ (mixKind X.prog X.w).is k v = true) → ∃ t, v = Value.int (num i) t := by
    rintro i v ⟨k, x, wk, isk⟩
    have z : (ws.map (·.1))[i]? = some k := by
      rw [List.getElem?_map, wk]
      rfl
    rw [keys2, List.getElem?_map] at z
    obtain ⟨j, nj, rfl⟩ := Option.map_eq_some_iff.mp z
    obtain ⟨t, ht⟩ := Value.isInt_shape (k := j) (v := v) isk
    refine ⟨t, ?_⟩
    show v = Value.int (ns.getD i 0) t
    rw [ht, List.getD_eq_getElem?_getD, nj]
    rfl
  refine call_max_walk (wpAny_pyIter_dict (knd := mixKind X.prog X.w) sysNe dat ?_)
  refine ⟨_, _, _, _, _, _, _, rfl, Walks.dictKeys (knd := mixKind X.prog X.w) (A := X.A.in1) (I.ok.hd calm) s.heap.objs.size d (Nat.ne_of_lt inHeap) ws ep,
    ⟨⟨_, Heap.get?_push_size _ rfl, rfl, rfl⟩, dat.keep fun b u e => Heap.get?_push_of_some _ e⟩, fun b hb => ?_, pos2, CmpOf.ints_gt num nums, fun v h' tk isP keep => ?_⟩
  · show b < (s.heap.push _).objs.size
    rw [Heap.size_push]
    simp only [List.mem_cons, List.not_mem_nil, or_false] at hb
    rcases hb with rfl | rfl
    · exact Nat.lt_succ_self _
    · exact Nat.lt_succ_of_lt inHeap
  · obtain ⟨t, rfl⟩ := nums _ v isP
    obtain ⟨le1, best⟩ := argBest_gt num (ws.length - 1)
    refine ⟨.int _, H, I.kept (t' := tk) fun b u e => keep b u (fun hm => ?_) (Heap.get?_push_of_some _ e), ⟨t, rfl⟩, fin _ ?_ ?_⟩
    · have z := Heap.lt_size e
      rw [List.mem_singleton.mp hm] at z
      exact absurd z (Nat.lt_irrefl _)
    · have lt2 : argBest (fun i j => decide (num i > num j)) (ws.length - 1) < ns.length := by omega
      show ns.getD _ 0 ∈ ns
      rw [List.getD_eq_getElem?_getD, List.getElem?_eq_getElem lt2]
      exact List.getElem_mem lt2
    · intro j hj
      obtain ⟨i, hi, rfl⟩ := List.mem_iff_getElem.mp hj
      have z : num i = ns[i] := by
        show ns.getD i 0 = _
        rw [List.getD_eq_getElem?_getD, List.getElem?_eq_getElem hi]
        rfl
      rw [← z]
      exact best i (by omega)
theorem keys_den {n : Nat} {v : V} {is : List Int} (g : Good K r m st H) (h : Den K r m H (.cel .dct n) v) (e : keysD st n = some is) :
    ∃ a ps, v = .ref a ∧ H a = some (.dK ps) ∧ ps.map (·.1) = is.map Sum.inl := by
  obtain ⟨a, o, rfl, i, h1, hk⟩ := h
  unfold keysD at e
  split at e
  · next ks _ e1 =>
    obtain ⟨vs, h2, l, z, q⟩ := g.cell n a _ i e1
    refine ⟨a, _, rfl, h2, ?_⟩
    rw [← intK_eq e, List.map_fst_zip (by omega)]
  · cases e
def gMaxL (st : Sto) : List D → Option D
  | [.cel .dct n] => (keysD st n).bind fun is => if is.isEmpty then none else some (.int (maxOf is))
  | ds => gMaxO st ds
def gMinO (st : Sto) : List D → Option D
  | [d] => (seqOf st d).bind fun xs => (intsOf xs).bind fun ns => if ns.isEmpty then none else some (.int (minOf ns))
  | _ => none
theorem cd_maxO : CallD K gMaxO (fun vs H Q => rMax K vs H Q ∨ rMaxT K vs H Q) := by
  intro r m st H ds d vs Q g h e q
  unfold gMaxO at e
  split at e
  · obtain ⟨xs, e1, e⟩ := Option.bind_eq_some_iff.mp e
    obtain ⟨ns, e2, e3⟩ := Option.bind_eq_some_iff.mp e
    split at e3
    · cases e3
    · next hne =>
      cases e3
      obtain ⟨x, tl, rfl, a, b⟩ := h
      cases b
      obtain ⟨p, ws, rfl, s, dd, _⟩ := seq_list g a e1
      rw [intsOf_eq e2] at dd
      rw [dd.ints] at s
      have hl : 0 < ns.length := by
        cases ns with
        | nil => exact absurd rfl hne
        | cons _ _ => simp
      have fin : ∀ w, w ∈ ns → (∀ y, y ∈ ns → y ≤ w) → Q (.int w) H := fun w hw hle => by
        obtain ⟨a1, a2⟩ := maxOf_spec ns hl
        have ew : w = maxOf ns := Int.le_antisymm (a2 w hw) (hle _ a1)
        rw [ew]
        exact q m H _ (Le.refl m H) g rfl
      rcases s with s | s
      · exact .inl ⟨p, ns, rfl, s, hl, fin⟩
      · exact .inr ⟨p, ns, rfl, s, hl, fin⟩
  · cases e
theorem cd_maxL : CallD K gMaxL (fun vs H Q => (rMax K vs H Q ∨ rMaxT K vs H Q) ∨ rTopK vs H Q) := by
  intro r m st H ds d vs Q g h e q
  unfold gMaxL at e
  split at e
  · obtain ⟨is, e1, e⟩ := Option.bind_eq_some_iff.mp e
    split at e
    · cases e
    · next hne =>
      cases e
      obtain ⟨x, tl, rfl, a, b⟩ := h
      cases b
      obtain ⟨p, ps, rfl, h1, h2⟩ := keys_den g a e1
      have hl : 0 < is.length := by
        cases is with
        | nil => exact absurd rfl hne
        | cons _ _ => exact Nat.succ_pos _
      refine .inr ⟨p, ps, is, rfl, h1, h2, fun z => hne (by rw [z]; rfl), fun w hw hle => ?_⟩
      obtain ⟨a1, a2⟩ := maxOf_spec is hl
      have ew : w = maxOf is := Int.le_antisymm (a2 w hw) (hle _ a1)
      rw [ew]
      exact q m H _ (Le.refl m H) g rfl
  · exact .inl (cd_maxO r m st H _ d vs Q g h e q)
theorem cd_minO : CallD K gMinO (fun vs H Q => rMin K vs H Q ∨ rMinT K vs H Q) := by
  intro r m st H ds d vs Q g h e q
  unfold gMinO at e
  split at e
  · obtain ⟨xs, e1, e⟩ := Option.bind_eq_some_iff.mp e
    obtain ⟨ns, e2, e3⟩ := Option.bind_eq_some_iff.mp e
    split at e3
    · cases e3
    · next hne =>
      cases e3
      obtain ⟨x, tl, rfl, a, b⟩ := h
      cases b
      obtain ⟨p, ws, rfl, s, dd, _⟩ := seq_list g a e1
      rw [intsOf_eq e2] at dd
      rw [dd.ints] at s
      have hl : 0 < ns.length := by
        cases ns with
        | nil => exact absurd rfl hne
        | cons _ _ => simp
      have fin : ∀ w, w ∈ ns → (∀ y, y ∈ ns → w ≤ y) → Q (.int w) H := fun w hw hle => by
        obtain ⟨a1, a2⟩ := minOf_spec ns hl
        have ew : w = minOf ns := Int.le_antisymm (hle _ a1) (a2 w hw)
        rw [ew]
        exact q m H _ (Le.refl m H) g rfl
      rcases s with s | s
      · exact .inl ⟨p, ns, rfl, s, hl, fin⟩
      · exact .inr ⟨p, ns, rfl, s, hl, fin⟩
  · cases e
def prD (p : Int × Int) : D := .tup [.int p.1, .int p.2]
def pairsOf : List D → Option (List (Int × Int))
  | [] => some []
  | .tup [.int a, .int b] :: ds => (pairsOf ds).map fun ps => (a, b) :: ps
  | _ => none
theorem pairsOf_eq : ∀ {ds : List D} {ps : List (Int × Int)}, pairsOf ds = some ps → ds = ps.map prD
  | [], _, h => by cases h; rfl
  | d :: ds, _, h => by
    unfold pairsOf at h
    split at h
    · next e => cases e
    · next a b tl e =>
      cases e
      obtain ⟨ps, h1, rfl⟩ := Option.map_eq_some_iff.mp h
      rw [pairsOf_eq h1]
      rfl
    · cases h
def ltP (p q : Int × Int) : Bool := if p.1 = q.1 then decide (p.2 < q.2) else decide (p.1 < q.1)
def minP (x : Int × Int) (xs : List (Int × Int)) : Int × Int := xs.foldl (fun a y => if ltP y a = true then y else a) x
theorem lays_pairs : ∀ ps : List (Int × Int), lays (ps.map prD) = true
  | [] => rfl
  | p :: ps => by
    show (lay (prD p) && lays (ps.map prD)) = true
    rw [lays_pairs ps]
    rfl
theorem py_pairs : ∀ ps : List (Int × Int), pyDs (ps.map prD) = ps.map PySem.W.Datum.toD
  | [] => rfl
  | p :: ps => by
    show pyD (prD p) :: pyDs (ps.map prD) = _
    rw [py_pairs ps]
    rfl
def rMinP (K : Fg) : List V → Hp → VK → Prop := fun vs H Q => ∃ (a : Addr) (p : Int × Int) (ps : List (Int × Int)) (ws : List V) (r m : List Addr), vs = [V.ref a] ∧ SqL K H a ws ∧ Dens K r m H ((p :: ps).map prD) ws ∧ ∀ (i : Nat) (w : V), ws[i]? = some w → (p :: ps)[i]? = some (minP p ps) → Q w H
theorem cr_minP {X : Cx} (hc : X.calm = true) (hu : X.A.units + 64 < cLine) : CallR X (.builtin "min") (rMinP X.K) := by
  rintro pins s σ H _ us Q I r ⟨a, p, ps, ws, ra, m, rfl, sq, dd, q⟩
  obtain ⟨its, rv, lst, zz⟩ := I.list sq
  rw [Vals.ref1 r]
  obtain ⟨as, hr⟩ := Dens.reads I _ _ its dd (lays_pairs _) rv
  have ha : PySem.W.HoldAll s.heap its (p :: ps) := ⟨as, by rw [← py_pairs]; exact hr⟩
  refine PySem.W.min_list_datum (x := p) (xs := ps) (I.ok.hd hc) lst.isList (by simpa using ha) (Nat.lt_of_le_of_lt (Nat.add_le_add_left (show 1 + 1 ≤ 64 by decide) _) hu) fun i v h' tk hi hv hk => ?_
  have hi' : its[i]? = some v := by simpa using hi
  obtain ⟨x, hx, hh⟩ := ha.at hi'
  obtain ⟨bs, hv⟩ := hv
  obtain ⟨cs, hh⟩ := hh
  have hd := (reads_det (fun b o e _ => hk b o e) hh hv).1
  have ex : x = minP p ps := by
    have e1 : PySem.W.minOf p ps = minP p ps := rfl
    have hd : PySem.W.Datum.toD (minP p ps) = PySem.W.Datum.toD x := by rw [← e1]; exact hd
    have hd : PyData.tuple [.int (minP p ps).1, .int (minP p ps).2] = .tuple [.int x.1, .int x.2] := hd
    injection hd with hd
    injection hd with h1 hd
    injection hd with h2 hd
    injection h1 with h1
    injection h2 with h2
    exact Prod.ext h1.symm h2.symm
  obtain ⟨w, hw, hwv⟩ : ∃ w, ws[i]? = some w ∧ RelV w v := by
    clear q dd hr ha hx hh hd hv sq lst hi zz
    induction rv generalizing i with
    | nil => simp at hi'
    | cons a b ih =>
      cases i with
      | zero =>
        cases hi'
        exact ⟨_, rfl, a⟩
      | succ i => exact ih i (by simpa using hi')
  exact ⟨w, H, I.kept hk, hwv, q i w hw (by rw [hx, ex])⟩
def minPs : List D → Option D := fun xs => match pairsOf xs with
  | some (p :: ps) => some (prD (minP p ps))
  | _ => none
theorem dens_at {K : Fg} {r m : List Addr} {H : Hp} : ∀ {ds : List D} {vs : List V}, Dens K r m H ds vs → ∀ {i : Nat} {v : V} {d : D}, vs[i]? = some v → ds[i]? = some d → Den K r m H d v
  | [], _, h, i, v, d, h1, h2 => by simp at h2
  | e :: ds, _, h, i, v, d, h1, h2 => by
    obtain ⟨x, rs, rfl, a, b⟩ := h
    cases i with
    | zero =>
      cases h1
      cases h2
      exact a
    | succ i => exact dens_at b (i := i) (by simpa using h1) (by simpa using h2)
def gMinM (st : Sto) : List D → Option D
  | [d] => ((seqOf st d).bind fun xs => (intsOf xs).bind fun ns => if ns.isEmpty then none else some (.int (minOf ns))).or ((lstOf st d).bind minPs)
  | _ => none
theorem cd_minM : CallD K gMinM (fun vs H Q => (rMin K vs H Q ∨ rMinT K vs H Q) ∨ rMinP K vs H Q) := by
  intro r m st H ds d vs Q g h e q
  unfold gMinM at e
  split at e
  · next d0 =>
    rcases Option.or_eq_some_iff.mp e with e | ⟨_, e⟩
    · exact .inl (cd_minO r m st H [d0] d vs Q g h e q)
    · obtain ⟨xs, e1, e⟩ := Option.bind_eq_some_iff.mp e
      unfold minPs at e
      split at e
      · next p ps hp =>
        cases e
        obtain ⟨x, tl, rfl, a, b⟩ := h
        cases b
        obtain ⟨l, ws, rfl, s, dd, z⟩ := lst_list g a e1
        rw [pairsOf_eq hp] at dd
        refine .inr ⟨l, p, ps, ws, r, m, rfl, SqL.of s, dd, fun i w hw hi => q m H _ (Le.refl m H) g (dens_at dd hw ?_)⟩
        rw [List.getElem?_map, hi]
        rfl
      · cases e
  · cases e
def gMinL (st : Sto) : List D → Option D
  | [.cel .dct n] => (keysD st n).bind fun is => if is.isEmpty then none else some (.int (minOf is))
  | ds => gMinM st ds
theorem cd_minL : CallD K gMinL (fun vs H Q => ((rMin K vs H Q ∨ rMinT K vs H Q) ∨ rMinP K vs H Q) ∨ rMinK vs H Q) := by
  intro r m st H ds d vs Q g h e q
  unfold gMinL at e
  split at e
  · obtain ⟨is, e1, e⟩ := Option.bind_eq_some_iff.mp e
    split at e
    · cases e
    · next hne =>
      cases e
      obtain ⟨x, tl, rfl, a, b⟩ := h
      cases b
      obtain ⟨p, ps, rfl, h1, h2⟩ := keys_den g a e1
      have hl : 0 < is.length := by
        cases is with
        | nil => exact absurd rfl hne
        | cons _ _ => exact Nat.succ_pos _
      refine .inr ⟨p, ps, is, rfl, h1, h2, fun z => hne (by rw [z]; rfl), fun w hw hle => ?_⟩
      obtain ⟨a1, a2⟩ := minOf_spec is hl
      have ew : w = minOf is := Int.le_antisymm (hle _ a1) (a2 w hw)
      rw [ew]
      exact q m H _ (Le.refl m H) g rfl
  · exact .inl (cd_minM r m st H _ d vs Q g h e q)
/-- tuple(x) -/
def gTuple (st : Sto) : List D → Option D
  | [.tup xs] => some (.tup xs)
  | [d] => (lstOf st d).map .tup
  | _ => none
theorem cd_tuple : CallD K gTuple (fun xs H Q => ∃ p ys, xs = [.ref p] ∧ ((SqL K H p ys ∧ ∀ l, H l = none → Q (.ref l) (upd H l (.tup ys))) ∨ (SqT K H p ys ∧ Q (.ref p) H))) := by
  intro r m st H ds d vs Q g h e q
  unfold gTuple at e
  split at e
  · cases e
    obtain ⟨x, tl, rfl, a, b⟩ := h
    cases b
    have a0 := a
    obtain ⟨p, ws, rfl, i, dd⟩ := a
    exact ⟨p, ws, rfl, .inr ⟨i.sq, q m H _ (Le.refl m H) g a0⟩⟩
  · obtain ⟨xs, e1, e2⟩ := Option.map_eq_some_iff.mp e
    subst e2
    obtain ⟨x, tl, rfl, a, b⟩ := h
    cases b
    obtain ⟨p, ws, rfl, s, dd, z⟩ := lst_list g a e1
    refine ⟨p, ws, rfl, .inl ⟨SqL.of s, fun l nl => ?_⟩⟩
    have l2 : Le m H m (upd H l (.tup ws)) := le_upd nl
    exact q m _ _ l2 (g.upd nl) ⟨l, ws, rfl, .inl ⟨upd_same, g.fresh nl, z⟩, dd.mono l2⟩
  · cases e
def seq1 (st : Sto) : List D → Option (List D)
  | [d] => seqOf st d
  | _ => none
/-- list(x), never changed -/
def gList (st : Sto) (ds : List D) : Option D := (seq1 st ds).map .lst
theorem cd_list : CallD K gList (fun xs H Q => ∃ p ys, xs = [.ref p] ∧ (SqL K H p ys ∨ SqT K H p ys) ∧ ∀ l, H l = none → Q (.ref l) (upd H l (.lst ys))) := by
  intro r m st H ds d vs Q g h e q
  unfold gList seq1 at e
  split at e
  · obtain ⟨xs, e1, e2⟩ := Option.map_eq_some_iff.mp e
    subst e2
    obtain ⟨x, tl, rfl, a, b⟩ := h
    cases b
    obtain ⟨p, ws, rfl, s, dd, z⟩ := seq_list g a e1
    refine ⟨p, ws, rfl, s, fun l nl => ?_⟩
    have l2 : Le m H m (upd H l (.lst ws)) := le_upd nl
    exact q m _ _ l2 (g.upd nl) ⟨l, ws, rfl, upd_same, g.fresh nl, z, dd.mono l2⟩
  · cases e
/-- list(x), a cell -/
theorem t_mlist {σ : L2.St} {Q : VK} {fa : DA} (h : tE K (eNew seq1 fa) σ H Q) : tCB (fun xs H Q => ∃ p ys, xs = [.ref p] ∧ (SqL K H p ys ∨ SqT K H p ys) ∧ ∀ l, H l = none → Q (.ref l) (upd H l (.lst ys))) (tAr K fa) σ H Q := by
  obtain ⟨r, m, st, env, d, st', g, e, f, q⟩ := h
  unfold eNew at f
  obtain ⟨⟨x, s1⟩, f1, f⟩ := Option.bind_eq_some_iff.mp f
  obtain ⟨c, f3, f⟩ := Option.map_eq_some_iff.mp f
  cases f
  refine ⟨r, m, st, env, x, s1, g, e, f1, fun m1 H1 v1 l1 g1 d1 => ?_⟩
  dsimp only [seq1] at f3
  split at f3
  · next d' =>
    obtain ⟨x, tl, rfl, a, b⟩ := d1
    cases b
    obtain ⟨p, ws, rfl, s, dd, z⟩ := seq_list g1 a f3
    refine ⟨p, ws, rfl, s, fun l nl => ?_⟩
    obtain ⟨l2, g2, d2⟩ := new_cell g1 nl z dd
    exact q _ _ _ (l1.trans l2) g2 d2
  · cases f3
def gInt (_ : Sto) : List D → Option D
  | [.int i] => some (.int i)
  | [.bl b] => some (.int (if b then 1 else 0))
  | _ => none
theorem cd_int : CallD K gInt (fun xs H Q => (∃ i, xs = [.int i] ∧ Q (.int i) H) ∨ ∃ k, xs = [.bl k] ∧ Q (.int (if k then 1 else 0)) H) := by
  intro r m st H ds d vs Q g h e q
  unfold gInt at e
  split at e
  · cases e
    obtain ⟨x, tl, rfl, a, b⟩ := h
    cases a; cases b
    exact .inl ⟨_, rfl, q m H _ (Le.refl m H) g rfl⟩
  · cases e
    obtain ⟨x, tl, rfl, a, b⟩ := h
    cases a; cases b
    exact .inr ⟨_, rfl, q m H _ (Le.refl m H) g rfl⟩
  · cases e
def gAbs (_ : Sto) : List D → Option D
  | [.int i] => some (.int (if i < 0 then -i else i))
  | _ => none
theorem cd_abs : CallD K gAbs (fun xs H Q => ∃ i, xs = [.int i] ∧ Q (.int (if i < 0 then -i else i)) H) := by
  intro r m st H ds d vs Q g h e q
  unfold gAbs at e
  split at e
  · cases e
    obtain ⟨x, tl, rfl, a, b⟩ := h
    cases a; cases b
    exact ⟨_, rfl, q m H _ (Le.refl m H) g rfl⟩
  · cases e
inductive Ty where
  | int | bool | str | tuple | list
  deriving DecidableEq
def Ty.name : Ty → String
  | .int => "int" | .bool => "bool" | .str => "str" | .tuple => "tuple" | .list => "list"
/-- the kinds of data -/
inductive Tk where
  | non | bl | int | str | tup | lst | dic
  deriving DecidableEq
def Tk.name : Tk → String
  | .non => "NoneType" | .bl => "bool" | .int => "int" | .str => "str" | .tup => "tuple" | .lst => "list" | .dic => "dict"
def tk : D → Tk
  | .non => .non
  | .bl _ => .bl
  | .int _ => .int
  | .str _ => .str
  | .tup _ => .tup
  | .lst _ => .lst
  | .scr _ => .lst
  | .dic => .dic
  | .loc _ => .lst
  | .cel _ _ => .dic
  | .tag _ => .dic
  | .otp _ => .tup
/-- what isinstance of a built-in type can be asked of -/
def isObj : D → Bool
  | .cel _ _ => true
  | .tag _ => true
  | .otp _ => true
  | _ => false
def isTk : Ty → Tk → Bool
  | .int, .int => true
  | .int, .bl => true
  | .bool, .bl => true
  | .str, .str => true
  | .tuple, .tup => true
  | .list, .lst => true
  | _, _ => false
def isTy (t : Ty) (d : D) : Bool := isTk t (tk d)
def tyD (d : D) : String := (tk d).name
theorem kit_tk (t : Ty) (k : Tk) : kitB k.name t.name = some (isTk t k) := by
  cases t <;> cases k <;> decide +kernel
theorem kit_all (t : Ty) (d : D) : kitB (tyD d) t.name = some (isTy t d) := kit_tk t (tk d)
theorem ty_den {d : D} {v : V} (g : Good K r m st H) (h : Den K r m H d v) (hn : isObj d = false) : TyX K H v (.type (tyD d)) := by
  cases d with
  | non => cases h; exact .base .non
  | bl b => cases h; exact .base (.bl b)
  | int i => cases h; exact .base (.int i)
  | str x => cases h; exact .base (.str x)
  | tup ds =>
    obtain ⟨a, xs, rfl, i, _⟩ := h
    rcases i with ⟨i, _⟩ | ⟨o, its, n, i, c, _⟩
    · exact .base (.tup i)
    · exact .kTuple i c
  | lst ds =>
    obtain ⟨a, xs, rfl, i, _⟩ := h
    exact .base (.lst i)
  | scr ds =>
    obtain ⟨a, xs, rfl, i, _⟩ := h
    rcases i with ⟨i | ⟨o, i⟩, _⟩ | ⟨o, its, n, i, c, _⟩
    · exact .base (.lst i)
    · exact .base (.frz i)
    · exact .kList i c
  | dic =>
    obtain ⟨a, rfl, i, _⟩ := h
    exact .base (.dK i)
  | loc n =>
    obtain ⟨a, rfl, i, ys, hy⟩ := h
    have hi : n < st.length := by
      rw [← g.len]
      exact (List.getElem?_eq_some_iff.mp i).1
    obtain ⟨xs, q, _⟩ := g.cellL i (List.getElem?_eq_getElem hi) hy
    exact .base (.lst q)
  | cel k n => cases hn
  | tag t => exact False.elim h
  | otp ds => cases hn
def isiD (t : Ty) (d : D) : Option D := if isObj d then none else some (.bl (isTy t d))
def eIsi (t : Ty) (fa : DE) : DE := eUn (isiD t) fa
theorem t_isi {t : Ty} {σ : L2.St} {Q : VK} {fa : DE} (h : tE K (eIsi t fa) σ H Q) : tCB (rIsi K) (tCons (tE K fa) (tCons (tC (.ty t.name)) tNil)) σ H Q := by
  obtain ⟨r, m, st, env, d, st', g, e, f, q⟩ := h
  unfold eIsi eUn at f
  obtain ⟨⟨x, s1⟩, f1, f⟩ := Option.bind_eq_some_iff.mp f
  obtain ⟨y, f2, f⟩ := Option.map_eq_some_iff.mp f
  cases f
  unfold isiD at f2
  split at f2
  · cases f2
  next hn =>
  cases f2
  refine ⟨r, m, st, env, x, s1, g, e, f1, fun m1 H1 v1 l1 g1 d1 => ?_⟩
  exact ⟨v1, .ty t.name, _, _, isTy t x, rfl, .ty _, ty_den g1 d1 (Bool.eq_false_iff.mpr hn), kit_ty (kit_all t x), q m1 H1 _ l1 g1 rfl⟩
abbrev DO := En → Sto → Option (Option Int × Sto)
def oNo : DO := fun _ st => some (none, st)
def oSo (f : DE) : DO := fun env st => (f env st).bind fun p => match p.1 with
  | .int i => some (some i, p.2)
  | _ => none
def tOo (K : Fg) (f : DO) : TO := fun σ H Q => ∃ r m st env o st', Good K r m st H ∧ EnvR K r m H env σ ∧ f env st = some (o, st') ∧
  ∀ m' H', Le m H m' H' → Good K r m' st' H' → Q o H'
def cutD (xs : List D) (lo hi : Option Int) : List D := (xs.drop (HT.sIx xs.length 0 lo)).take (HT.sIx xs.length xs.length hi - HT.sIx xs.length 0 lo)
def lsqOf (st : Sto) : D → Option (List D)
  | .lst xs => some xs
  | .scr xs => some xs
  | .loc n => st[n]?
  | _ => none
theorem lsq_list {d : D} {xs : List D} {v : V} (g : Good K r m st H) (h : Den K r m H d v) (e : lsqOf st d = some xs) :
    ∃ a vs, v = .ref a ∧ SqL K H a vs ∧ Dens K r m H xs vs ∧ vs.length ≤ sizeLine := by
  cases d with
  | lst ds =>
    cases e
    obtain ⟨a, vs, rfl, i, _, z, q⟩ := h
    exact ⟨a, vs, rfl, SqL.of i, q, z⟩
  | scr ds =>
    cases e
    obtain ⟨a, vs, rfl, i, z, q⟩ := h
    exact ⟨a, vs, rfl, i.sq, q, by rw [← q.len]; exact Nat.le_trans z (by decide)⟩
  | loc n =>
    obtain ⟨a, rfl, i, ys, hy⟩ := h
    obtain ⟨vs, q, z, r⟩ := g.cellL i e hy
    exact ⟨a, vs, rfl, SqL.of q, r, z⟩
  | _ => cases e
def sliceD (st : Sto) (lo hi : Option Int) : D → Option D
  | .tup xs => some (.tup (cutD xs lo hi))
  | d => (lsqOf st d).map fun xs => .lst (cutD xs lo hi)
def eSl (f : DE) (fl fh : DO) : DE := fun env st => (f env st).bind fun p => (fl env p.2).bind fun l => (fh env l.2).bind fun u => (sliceD u.2 l.1 u.1 p.1).map fun d => (d, u.2)
theorem t_ono {σ : L2.St} {Q : Option Int → Hp → Prop} (h : tOo K oNo σ H Q) : tNoPart σ H Q := by
  obtain ⟨r, m, st, env, d, st', g, e, f, q⟩ := h
  cases f
  exact q m H (Le.refl m H) g
theorem t_oso {σ : L2.St} {Q : Option Int → Hp → Prop} {fa : DE} (h : tOo K (oSo fa) σ H Q) : tPart (tE K fa) σ H Q := by
  obtain ⟨r, m, st, env, d, st', g, e, f, q⟩ := h
  unfold oSo at f
  obtain ⟨⟨x, s1⟩, f1, f⟩ := Option.bind_eq_some_iff.mp f
  refine ⟨r, m, st, env, x, s1, g, e, f1, fun m1 H1 v1 l1 g1 d1 => ?_⟩
  dsimp only at f
  split at f
  · cases d1; cases f
    exact ⟨_, rfl, q m1 H1 l1 g1⟩
  · cases f
theorem cut_den {ds : List D} {vs : List V} {lo hi : Option Int} (h : Dens K r m H ds vs) : Dens K r m H (cutD ds lo hi) (cutV vs lo hi) := by
  unfold cutD cutV
  rw [h.len]
  exact (h.drop _).take _
def rSls (K : Fg) : V → Option Int → Option Int → Hp → VK → Prop := fun x lo hi H Q => rSlA K x lo hi H Q ∨ rSlL K x lo hi H Q
theorem sl_all {X : Cx} : SlR X (rSls X.K) := sl_tupA.or sl_list
theorem t_sl {σ : L2.St} {Q : VK} {fa : DE} {fl fh : DO} (h : tE K (eSl fa fl fh) σ H Q) : tSl (rSls K) (tE K fa) (tOo K fl) (tOo K fh) σ H Q := by
  obtain ⟨r, m, st, env, d, st', g, e, f, q⟩ := h
  unfold eSl at f
  obtain ⟨⟨x, s1⟩, f1, f⟩ := Option.bind_eq_some_iff.mp f
  obtain ⟨⟨lo, s2⟩, f2, f⟩ := Option.bind_eq_some_iff.mp f
  obtain ⟨⟨hi, s3⟩, f3, f⟩ := Option.bind_eq_some_iff.mp f
  obtain ⟨d', f4, f⟩ := Option.map_eq_some_iff.mp f
  cases f
  refine ⟨r, m, st, env, x, s1, g, e, f1, fun m1 H1 v1 l1 g1 d1 => ?_⟩
  refine ⟨r, m1, s1, env, lo, s2, g1, e.mono l1, f2, fun m2 H2 l2 g2 => ?_⟩
  refine ⟨r, m2, s2, env, hi, s3, g2, e.mono (l1.trans l2), f3, fun m3 H3 l3 g3 => ?_⟩
  have d3 := d1.mono (l2.trans l3)
  have lT := (l1.trans l2).trans l3
  have f4 : sliceD s3 lo hi x = some d := f4
  unfold sliceD at f4
  split at f4
  · cases f4
    rename_i ys _ _ _
    have d30 := d3
    obtain ⟨a, xs, rfl, i, dd⟩ := d3
    have hlen := dd.len
    refine .inl ⟨a, xs, rfl, i.sq, fun hw => ?_, fun _ p np => ?_⟩
    · have e0 : cutD ys lo hi = ys := by
        unfold cutD
        rw [hlen, hw.1, hw.2, Nat.sub_zero, List.drop_zero, ← hlen, List.take_length]
      rw [e0] at q
      exact q m3 H3 _ lT g3 d30
    · have l4 : Le m3 H3 m3 (upd H3 p (.tup (cutV xs lo hi))) := le_upd np
      exact q m3 _ _ (lT.trans l4) (g3.upd np) ⟨p, _, rfl, .inl ⟨upd_same, g3.fresh np, Nat.le_trans (cutV_length _ _ _) i.len⟩, (cut_den dd).mono l4⟩
  · next hnt =>
    obtain ⟨xs, e1, e2⟩ := Option.map_eq_some_iff.mp f4
    subst e2
    obtain ⟨a, vs, rfl, sL, dd, z⟩ := lsq_list g3 d3 e1
    refine .inr ⟨a, vs, rfl, sL, fun p np => ?_⟩
    have l4 : Le m3 H3 m3 (upd H3 p (.lst (cutV vs lo hi))) := le_upd np
    exact q m3 _ _ (lT.trans l4) (g3.upd np) ⟨p, _, rfl, upd_same, g3.fresh np, Nat.le_trans (cutV_length _ _ _) z, (cut_den dd).mono l4⟩
end
end Tg
namespace Tg
open PySem PySem.Spec PyProof.Rows L2
inductive Fl where
  | nx (env : En)
  | rt (d : D)
  | bk (env : En)
  | ct (env : En)
  | xc (env : En) (x : Str) (fs : List (Str × D))
abbrev DS := En → Sto → Option (Fl × Sto)
abbrev DG := D → En → Sto → Option (En × Sto)
abbrev DGs := List D → En → Sto → Option (En × Sto)
abbrev DI := En → Sto → Option (((Sto → Bool) × List D) × Sto)
section
variable {X : Cx} {e : Expr}
theorem pg_imp {t t' : TG} (h : PG X e t) (q : ∀ v σ H Q, t' v σ H Q → t v σ H Q) : PG X e t' := ⟨fun pins s σ H v u Q I r w => h.run pins s σ H v u Q I r (q _ _ _ _ w)⟩
theorem pgs_imp {es : List Expr} {t t' : TGs} (h : PGs X es t) (q : ∀ v σ H Q, t' v σ H Q → t v σ H Q) : PGs X es t' := ⟨fun pins s σ H v u Q I r w => h.run pins s σ H v u Q I r (q _ _ _ _ w)⟩
theorem pg_or {t t' : TG} (h : PG X e t) (h' : PG X e t') : PG X e (fun v σ H Q => t v σ H Q ∨ t' v σ H Q) :=
  ⟨fun pins s σ H v u Q I r w => w.elim (h.run pins s σ H v u Q I r) (h'.run pins s σ H v u Q I r)⟩
theorem pi_imp {tg : Expr} {t t' : TI} (h : PI X tg e t) (q : ∀ σ H R, t' σ H R → t σ H R) : PI X tg e t' := ⟨fun pins s σ H R I w => h.run pins s σ H R I (q _ _ _ w)⟩
theorem pi_or {tg : Expr} {t t' : TI} (h : PI X tg e t) (h' : PI X tg e t') : PI X tg e (fun σ H R => t σ H R ∨ t' σ H R) :=
  ⟨fun pins s σ H R I w => w.elim (h.run pins s σ H R I) (h'.run pins s σ H R I)⟩
theorem ps_imp {st : Stmt} {t t' : TS} (h : PS X st t) (q : ∀ D σ H, t' D σ H → t D σ H) : PS X st t' := ⟨fun pins s σ H D I w => h.run pins s σ H D I (q _ _ _ w)⟩
theorem pss_imp {st : List Stmt} {t t' : TS} (h : PSs X st t) (q : ∀ D σ H, t' D σ H → t D σ H) : PSs X st t' := ⟨fun pins s σ H D I w => h.run pins s σ H D I (q _ _ _ w)⟩
end
def Off (ws : List Nat) (σ σ' : L2.St) : Prop := σ'.length = σ.length ∧ ∀ i, i ∉ ws → σ'[i]? = σ[i]?
theorem Off.refl (ws : List Nat) (σ : L2.St) : Off ws σ σ := ⟨rfl, fun _ _ => rfl⟩
theorem Off.trans {ws vs : List Nat} {σ σ1 σ2 : L2.St} (a : Off ws σ σ1) (b : Off vs σ1 σ2) : Off (ws ++ vs) σ σ2 :=
  ⟨b.1.trans a.1, fun i hi => by
    rw [List.mem_append, not_or] at hi
    rw [b.2 i hi.2, a.2 i hi.1]⟩
theorem off_set (i : Nat) (v : Option V) (σ : L2.St) : Off [i] σ (σ.set i v) :=
  ⟨List.length_set, fun j hj => by
    rw [List.getElem?_set_ne (fun e => hj (by rw [e]; exact List.mem_singleton.mpr rfl))]⟩
theorem wipe_get (σ : L2.St) : ∀ (vs : List Nat) (i : Nat), i < σ.length → (L2.wipe σ vs)[i]? = if i ∈ vs then some none else σ[i]?
  | [], i, _ => by simp [L2.wipe]
  | v :: vs, i, h => by
    unfold L2.wipe
    by_cases hv : v = i
    · subst hv
      rw [List.getElem?_set_self (by rw [wipe_length]; exact h)]
      simp
    · rw [List.getElem?_set_ne hv, wipe_get σ vs i h]
      simp [Ne.symm hv]
theorem wipe_off {ws vs : List Nat} {σ σ' : L2.St} (h : Off ws (L2.wipe σ vs) σ') (hs : ∀ i ∈ ws, i ∈ vs) : L2.wipe σ' vs = L2.wipe σ vs := by
  have hl : σ'.length = σ.length := by rw [h.1, wipe_length]
  apply List.ext_getElem?
  intro i
  by_cases hi : i < σ.length
  · rw [wipe_get σ' vs i (by rw [hl]; exact hi), wipe_get σ vs i hi]
    by_cases hv : i ∈ vs
    · rw [if_pos hv, if_pos hv]
    · rw [if_neg hv, if_neg hv, h.2 i (fun z => hv (hs i z)), wipe_get σ vs i hi, if_neg hv]
  · rw [List.getElem?_eq_none (by rw [wipe_length, hl]; omega), List.getElem?_eq_none (by rw [wipe_length]; omega)]
def tG (K : Fg) (ws : List Nat) (f : DG) : TG := fun v σ H Q => ∃ r m st env d env' st', Good K r m st H ∧ EnvR K r m H env σ ∧ Den K r m H d v ∧ f d env st = some (env', st') ∧
  ∀ m' H' σ', Le m H m' H' → Good K r m' st' H' → EnvR K r m' H' env' σ' → Off ws σ σ' → Q σ' H'
def tGs (K : Fg) (ws : List Nat) (f : DGs) : TGs := fun vs σ H Q => ∃ r m st env ds env' st', Good K r m st H ∧ EnvR K r m H env σ ∧ Dens K r m H ds vs ∧ f ds env st = some (env', st') ∧
  ∀ m' H' σ', Le m H m' H' → Good K r m' st' H' → EnvR K r m' H' env' σ' → Off ws σ σ' → Q σ' H'
def gN (i : Nat) : DG := fun d env st => some (env.set i (some d), st)
def gsNil : DGs := fun ds env st => match ds with
  | [] => some (env, st)
  | _ => none
def gsCons (f : DG) (g : DGs) : DGs := fun ds env st => match ds with
  | d :: r => (f d env st).bind fun p => g r p.1 p.2
  | _ => none
def gT (n : Nat) (f : DGs) : DG := fun d env st => match d with
  | .tup xs => if xs.length = n then f xs env st else none
  | d => (lsqOf st d).bind fun xs => if xs.length = n then f xs env st else none
/-- o[i] = d, o a cell -/
def setC (st : Sto) (o i d : D) : Option Sto := match o, i with
  | .loc n, .int k => (st[n]?).bind fun xs => (ixN xs.length k).map fun j => st.set n (xs.set j d)
  | _, _ => none
/-- a dict with one more key, or another value -/
def kIn (ks : List Key) (k : Key) : Bool := ks.any fun x => decide (x = k)
def putKs (ks : List Key) (k : Key) : List Key := if kIn ks k = true then ks else ks ++ [k]
def putKX {α : Type} (ks : List Key) (xs : List α) (k : Key) (a : α) : List α := if kIn ks k = true then (ks.zip xs).map (fun q => if q.1 = k then a else q.2) else xs ++ [a]
/-- o[i] = d, o a cell or a dict -/
def setA (st : Sto) (o i d : D) : Option Sto := match o with
  | .cel .dct n => (match st[n]? with
    | some (.tag (.di ks) :: ds) => (keyD i).bind fun k => if fits ds.length then some (st.set n (.tag (.di (putKs ks k)) :: putKX ks ds k d)) else none
    | _ => none)
  | o => setC st o i d
def gSb (fo fi : DE) : DG := fun d env st => (fo env st).bind fun p => (fi env p.2).bind fun q => (setA q.2 p.1 q.1 d).map fun s => (env, s)
theorem zip_any {k : Key} : ∀ {ks : List Key} {vs : List V}, ks.length = vs.length → ((ks.zip vs).any fun kv => decide (kv.1 = k)) = kIn ks k
  | [], [], _ => rfl
  | [], _ :: _, h => by cases h
  | _ :: _, [], h => by cases h
  | k' :: ks, v :: vs, h => by
    rw [List.zip_cons_cons, List.any_cons, zip_any (by simpa using h)]
    rfl
theorem zip_put {k : Key} {v : V} : ∀ {ks : List Key} {vs : List V}, ks.length = vs.length → (ks.zip vs).map (fun kv => if kv.1 = k then (kv.1, v) else kv) = ks.zip ((ks.zip vs).map fun q => if q.1 = k then v else q.2)
  | [], [], _ => rfl
  | [], _ :: _, h => by cases h
  | _ :: _, [], h => by cases h
  | k' :: ks, w :: vs, h => by
    rw [List.zip_cons_cons, List.map_cons, List.map_cons, List.zip_cons_cons, zip_put (by simpa using h)]
    congr 1
    by_cases e : k' = k
    · simp only [e, if_true]
    · simp only [e, if_false]
theorem put_zipK {ks : List Key} {vs : List V} {k : Key} {v : V} (h : ks.length = vs.length) : putK (ks.zip vs) k v = (putKs ks k).zip (putKX ks vs k v) ∧ (putKs ks k).length = (putKX ks vs k v).length ∧ (putKX ks vs k v).length ≤ vs.length + 1 := by
  unfold putK putKs putKX
  rw [zip_any h]
  by_cases e : kIn ks k = true
  · rw [if_pos e, if_pos e, if_pos e]
    refine ⟨zip_put h, ?_, ?_⟩
    · rw [List.length_map, List.length_zip]
      omega
    · rw [List.length_map, List.length_zip]
      omega
  · rw [if_neg e, if_neg e, if_neg e]
    refine ⟨?_, ?_, ?_⟩
    · rw [List.zip_append h]
      rfl
    · rw [List.length_append, List.length_append, h]
      rfl
    · rw [List.length_append]
      exact Nat.le_refl _
section
variable {K : Fg} {σ : L2.St} {H : Hp}
theorem Dens.putK0 {r m : List Addr} {d : D} {v : V} {k : Key} (hd : Den K r m H d v) : ∀ {ks : List Key} {ds : List D} {vs : List V}, Dens K r m H ds vs → Dens K r m H ((ks.zip ds).map fun q => if q.1 = k then d else q.2) ((ks.zip vs).map fun q => if q.1 = k then v else q.2)
  | [], _, _, _ => rfl
  | _ :: _, [], _, h => by cases h; rfl
  | k' :: ks, x :: ds, _, h => by
    obtain ⟨w, ws, rfl, a, b⟩ := h
    rw [List.zip_cons_cons, List.zip_cons_cons, List.map_cons, List.map_cons]
    refine Dens.cons ?_ (Dens.putK0 hd b)
    by_cases e : k' = k
    · simp only [e, if_true]; exact hd
    · simp only [e, if_false]; exact a
theorem Dens.putK {r m : List Addr} {d : D} {v : V} {k : Key} {ks : List Key} {ds : List D} {vs : List V} (hd : Den K r m H d v) (h : Dens K r m H ds vs) : Dens K r m H (putKX ks ds k d) (putKX ks vs k v) := by
  unfold putKX
  by_cases e : kIn ks k = true
  · rw [if_pos e, if_pos e]
    exact Dens.putK0 hd h
  · rw [if_neg e, if_neg e]
    exact h.append (Dens.one hd)
def rSetD : V → V → V → Hp → (Hp → Prop) → Prop := fun o i v H Q => ∃ a H', o = .ref a ∧ DPut H a i v H' ∧ Q H'
def rSetA : V → V → V → Hp → (Hp → Prop) → Prop := fun o i v H Q => rSetL o i v H Q ∨ rSetD o i v H Q
theorem set_all {X : Cx} (hu : X.A.units + 1 < cLine) : PSet X rSetA := by
  intro pins s σ H o i v ov iv u Q I ro ri rv h
  rcases h with h | ⟨a, H', rfl, g, q⟩
  · exact set_list pins s σ H o i v ov iv u Q I ro ri rv h
  · cases ro
    exact d_setItem hu I g ri rv fun s' I' => ⟨H', I', q⟩
theorem g_name {i : Nat} {v : V} {Q : L2.St → Hp → Prop} (h : tG K [i] (gN i) v σ H Q) : gName i v σ H Q := by
  obtain ⟨r, m, st, env, d, env', st', g, e, dd, f, q⟩ := h
  cases f
  exact q m H _ (Le.refl m H) g (e.set dd) (off_set i _ σ)
theorem g_nil {vs : List V} {Q : L2.St → Hp → Prop} (h : tGs K [] gsNil vs σ H Q) : gNil vs σ H Q := by
  obtain ⟨r, m, st, env, ds, env', st', g, e, dd, f, q⟩ := h
  unfold gsNil at f
  split at f
  · cases f
    cases dd
    exact ⟨rfl, q m H _ (Le.refl m H) g e (Off.refl _ σ)⟩
  · cases f
theorem g_cons {ws us : List Nat} {fg : DG} {fs : DGs} {vs : List V} {Q : L2.St → Hp → Prop} (h : tGs K (ws ++ us) (gsCons fg fs) vs σ H Q) : gCons (tG K ws fg) (tGs K us fs) vs σ H Q := by
  obtain ⟨r, m, st, env, ds, env', st', g, e, dd, f, q⟩ := h
  unfold gsCons at f
  split at f
  · next d ds' =>
    obtain ⟨x, tl, rfl, a, b⟩ := dd
    obtain ⟨⟨e1, s1⟩, f1, f2⟩ := Option.bind_eq_some_iff.mp f
    refine ⟨x, tl, rfl, r, m, st, env, d, e1, s1, g, e, a, f1, fun m1 H1 σ1 l1 g1 er1 o1 => ?_⟩
    exact ⟨r, m1, s1, e1, ds', env', st', g1, er1, b.mono l1, f2, fun m2 H2 σ2 l2 g2 er2 o2 => q m2 H2 σ2 (l1.trans l2) g2 er2 (o1.trans o2)⟩
  · cases f
theorem g_tup {ws : List Nat} {fs : DGs} {n : Nat} {v : V} {Q : L2.St → Hp → Prop} (h : tG K ws (gT n fs) v σ H Q) : gTup K n (tGs K ws fs) v σ H Q ∨ gUnl K n (tGs K ws fs) v σ H Q := by
  obtain ⟨r, m, st, env, d, env', st', g, e, dd, f, q⟩ := h
  unfold gT at f
  split at f
  · split at f
    · next xs hn =>
      obtain ⟨a, vs, rfl, i, ds⟩ := dd
      exact .inl ⟨a, vs, rfl, i.sq, by rw [← ds.len]; exact hn, r, m, st, env, xs, env', st', g, e, ds, f, q⟩
    · cases f
  · obtain ⟨xs, e1, f⟩ := Option.bind_eq_some_iff.mp f
    split at f
    · next hn =>
      obtain ⟨a, vs, rfl, i, ds, _⟩ := lsq_list g dd e1
      exact .inr ⟨a, vs, rfl, i, by rw [← ds.len]; exact hn, r, m, st, env, xs, env', st', g, e, ds, f, q⟩
    · cases f
theorem set_cell {r m : List Addr} {st st' : Sto} {o i d : D} {vo vi v : V} {Q : Hp → Prop} (g : Good K r m st H) (ho : Den K r m H o vo) (hi : Den K r m H i vi) (hd : Den K r m H d v) (f : setC st o i d = some st')
    (q : ∀ H', Le m H m H' → Good K r m st' H' → Q H') : rSetL vo vi v H Q := by
  unfold setC at f
  split at f
  · next n k =>
    obtain ⟨xs, e1, f⟩ := Option.bind_eq_some_iff.mp f
    obtain ⟨j, e2, e3⟩ := Option.map_eq_some_iff.mp f
    subst e3
    cases hi
    obtain ⟨a, rfl, ha, ys, hy⟩ := ho
    obtain ⟨vs, h1, z, ds⟩ := g.cellL ha e1 hy
    obtain ⟨l, g2⟩ := g.put (xs := vs.set j v) (c := xs.set j d) ha h1 (by rw [List.length_set]; exact z) (ds.set j hd)
    exact ⟨a, vs, k, j, rfl, rfl, h1, by rw [← ds.len]; exact e2, q _ l g2⟩
  · cases f
theorem set_any {r m : List Addr} {st st' : Sto} {o i d : D} {vo vi v : V} {Q : Hp → Prop} (g : Good K r m st H) (ho : Den K r m H o vo) (hi : Den K r m H i vi) (hd : Den K r m H d v) (f : setA st o i d = some st')
    (q : ∀ H', Le m H m H' → Good K r m st' H' → Q H') : rSetA vo vi v H Q := by
  unfold setA at f
  split at f
  · next n =>
    split at f
    · next ks ds e1 =>
      obtain ⟨k, e2, f⟩ := Option.bind_eq_some_iff.mp f
      split at f
      · next hz =>
        cases f
        obtain ⟨a, o, rfl, ha, _⟩ := ho
        obtain ⟨vs, h1, hl, z, dd⟩ := g.cell n a _ ha e1
        obtain ⟨p1, p2, p3⟩ := put_zipK (k := k) (v := v) hl
        have hv : vs.length < sizeLine := by
          rw [← dd.len]
          exact fits_lt hz
        obtain ⟨l, g2⟩ := g.putG (u := .dK (L2.putK (ks.zip vs) k v)) (c := .tag (.di (putKs ks k)) :: putKX ks ds k d) ha h1 True.intro fun l => by
          refine ⟨putKX ks vs k v, ?_, p2, Nat.le_trans p3 hv, (Dens.putK hd dd).mono l⟩
          rw [upd_same, p1]
        have ek := key_den hi e2
        subst ek
        exact .inr ⟨a, _, rfl, DPut.k h1 (by rw [List.length_zip]; omega), q _ l g2⟩
      · cases f
    · cases f
  · exact .inl (set_cell g ho hi hd f q)
theorem g_sub {fo fi : DE} {v : V} {Q : L2.St → Hp → Prop} (h : tG K [] (gSb fo fi) v σ H Q) : gSub (tE K fo) (tE K fi) rSetA v σ H Q := by
  obtain ⟨r, m, st, env, d, env', st', g, e, dd, f, q⟩ := h
  unfold gSb at f
  obtain ⟨⟨x, s1⟩, f1, f⟩ := Option.bind_eq_some_iff.mp f
  obtain ⟨⟨y, s2⟩, f2, f⟩ := Option.bind_eq_some_iff.mp f
  obtain ⟨s3, f3, f⟩ := Option.map_eq_some_iff.mp f
  cases f
  refine ⟨r, m, st, env, x, s1, g, e, f1, fun m1 H1 v1 l1 g1 d1 => ?_⟩
  refine ⟨r, m1, s1, env, y, s2, g1, e.mono l1, f2, fun m2 H2 v2 l2 g2 d2 => ?_⟩
  exact set_any g2 (d1.mono l2) d2 (dd.mono (l1.trans l2)) f3 fun H3 l3 g3 => q m2 H3 σ ((l1.trans l2).trans l3) g3 (e.mono ((l1.trans l2).trans l3)) (Off.refl _ σ)
end
/-- more reserved addresses: all of them new -/
def Rs (r r' : List Addr) (H : Hp) : Prop := ∀ b ∈ r', b ∈ r ∨ H b = none
structure Strm (K : Fg) (r : List Addr) (J : It) (chk : Sto → Bool) (ds : List D) (m0 : List Addr) (H0 : Hp) : Prop where
  len : ds.length ≤ sizeLine
  go : ∀ r' m H st i, Rs r r' H0 → Le m0 H0 m H → Good K r' m st H → chk st = true → i < ds.length → J.go i H
  yld : ∀ r' m H st i x H' d, Rs r r' H0 → Le m0 H0 m H → Good K r' m st H → chk st = true → ds[i]? = some d → J.yld i H x H' → Le m H m H' ∧ Good K r' m st H' ∧ Den K r' m H' d x
  stop : ∀ r' m H st, Rs r r' H0 → Le m0 H0 m H → Good K r' m st H → chk st = true → J.stop ds.length H
section
variable {K : Fg} {r r' m : List Addr} {H : Hp}
theorem Rs.out (h : Rs r r' H) {a : Addr} {o : HO} (e : H a = some o) (n : a ∉ m ∧ a ∉ r) : a ∉ m ∧ a ∉ r' :=
  ⟨n.1, fun z => (h a z).elim n.2 fun q => by rw [q] at e; cases e⟩
mutual
theorem Den.ext (h : Rs r r' H) : ∀ (d : D) (v : V), Den K r m H d v → Den K r' m H d v
  | .non, _, q => q
  | .bl _, _, q => q
  | .int _, _, q => q
  | .str _, _, q => q
  | .tup ds, _, q => by
    obtain ⟨a, xs, e, i, q⟩ := q
    refine ⟨a, xs, e, ?_, Dens.ext h ds xs q⟩
    rcases i with ⟨i, n, z⟩ | i
    · exact .inl ⟨i, h.out i n, z⟩
    · exact .inr i
  | .lst ds, _, q => by
    obtain ⟨a, xs, e, i, n, z, q⟩ := q
    exact ⟨a, xs, e, i, h.out i n, z, Dens.ext h ds xs q⟩
  | .scr ds, _, q => by
    obtain ⟨a, xs, e, i, z, q⟩ := q
    refine ⟨a, xs, e, ?_, z, Dens.ext h ds xs q⟩
    rcases i with ⟨i | ⟨o, i⟩, n⟩ | i
    · exact .inl ⟨.inl i, h.out i n⟩
    · exact .inl ⟨.inr ⟨o, i⟩, h.out i n⟩
    · exact .inr i
  | .dic, _, q => by
    obtain ⟨a, e, i, n⟩ := q
    exact ⟨a, e, i, h.out i n⟩
  | .loc n, _, q => q
  | .cel k n, _, q => q
  | .tag _, _, q => q
  | .otp ds, _, q => by
    obtain ⟨a, xs, e, ⟨o, i, c, d, n, z⟩, q⟩ := q
    exact ⟨a, xs, e, ⟨o, i, c, d, h.out i n, z⟩, Dens.ext h ds xs q⟩
theorem Dens.ext (h : Rs r r' H) : ∀ (ds : List D) (vs : List V), Dens K r m H ds vs → Dens K r' m H ds vs
  | [], _, q => q
  | d :: ds, _, q => by
    obtain ⟨x, t, e, a, b⟩ := q
    exact ⟨x, t, e, Den.ext h d x a, Dens.ext h ds t b⟩
end
/-- other reserved addresses and cells, another heap: what immutable data asks -/
structure Same2 (r m : List Addr) (H : Hp) (r' m' : List Addr) (H' : Hp) : Prop where
  out : ∀ a, a ∉ m ∧ a ∉ r → a ∉ m' ∧ a ∉ r'
  keep : ∀ a o, H a = some o → a ∉ m ∧ a ∉ r → H' a = some o
  cell : ∀ (n : Nat) (a : Addr), m[n]? = some a → m'[n]? = some a
  kind : ∀ a o, a ∈ m → H a = some o → ∃ u, H' a = some u ∧ KWk o u
mutual
theorem Den.same {m' : List Addr} {H' : Hp} (h : Same2 r m H r' m' H') : ∀ (d : D) (v : V), Den K r m H d v → Den K r' m' H' d v
  | .non, _, q => q
  | .bl _, _, q => q
  | .int _, _, q => q
  | .str _, _, q => q
  | .tup ds, _, q => by
    obtain ⟨a, xs, e, i, q⟩ := q
    refine ⟨a, xs, e, ?_, Dens.same h ds xs q⟩
    rcases i with ⟨i, n, z⟩ | i
    · exact .inl ⟨h.keep a _ i n, h.out a n, z⟩
    · exact .inr i
  | .lst ds, _, q => by
    obtain ⟨a, xs, e, i, n, z, q⟩ := q
    exact ⟨a, xs, e, h.keep a _ i n, h.out a n, z, Dens.same h ds xs q⟩
  | .scr ds, _, q => by
    obtain ⟨a, xs, e, i, z, q⟩ := q
    refine ⟨a, xs, e, ?_, z, Dens.same h ds xs q⟩
    rcases i with ⟨i | ⟨o, i⟩, n⟩ | i
    · exact .inl ⟨.inl (h.keep a _ i n), h.out a n⟩
    · exact .inl ⟨.inr ⟨o, h.keep a _ i n⟩, h.out a n⟩
    · exact .inr i
  | .dic, _, q => by
    obtain ⟨a, e, i, n⟩ := q
    exact ⟨a, e, h.keep a _ i n, h.out a n⟩
  | .loc n, _, q => by
    obtain ⟨a, e, i, xs, hx⟩ := q
    obtain ⟨u, h1, ys, rfl⟩ := h.kind a _ (List.mem_of_getElem? i) hx
    exact ⟨a, e, h.cell n a i, ys, h1⟩
  | .cel k n, _, q => by
    obtain ⟨a, o, e, i, ho, hk⟩ := q
    obtain ⟨u, h1, q⟩ := h.kind a _ (List.mem_of_getElem? i) ho
    exact ⟨a, u, e, h.cell n a i, h1, hk.wk q⟩
  | .tag _, _, q => q
  | .otp ds, _, q => by
    obtain ⟨a, xs, e, ⟨o, i, c, d, n, z⟩, q⟩ := q
    exact ⟨a, xs, e, ⟨o, h.keep a _ i n, c, d, h.out a n, z⟩, Dens.same h ds xs q⟩
theorem Dens.same {m' : List Addr} {H' : Hp} (h : Same2 r m H r' m' H') : ∀ (ds : List D) (vs : List V), Dens K r m H ds vs → Dens K r' m' H' ds vs
  | [], _, q => q
  | d :: ds, _, q => by
    obtain ⟨x, t, e, a, b⟩ := q
    exact ⟨x, t, e, Den.same h d x a, Dens.same h ds t b⟩
end
theorem same_drop {p : Addr} : Same2 (p :: r) m H r m H := ⟨fun a n => ⟨n.1, fun z => n.2 (List.mem_cons_of_mem _ z)⟩, fun _ _ e _ => e, fun _ _ e => e, fun _ o _ e => ⟨o, e, (KEq.refl o).wk⟩⟩
theorem same_upd {p : Addr} {o : HO} (np : p ∉ m) : Same2 (p :: r) m H (p :: r) m (upd H p o) := ⟨fun _ n => n, fun a u e n => by
  rw [upd_ne (fun z => n.2 (by rw [z]; exact List.mem_cons_self))]
  exact e, fun _ _ e => e, fun a u ha e => ⟨u, by rw [upd_ne (fun z => np (by rw [← z]; exact ha))]; exact e, (KEq.refl u).wk⟩⟩
theorem same_adopt {p : Addr} : Same2 (p :: r) m H r (m ++ [p]) H := ⟨fun a n => ⟨fun z => (List.mem_append.mp z).elim n.1 fun q => n.2 (by rw [List.mem_singleton.mp q]; exact List.mem_cons_self), fun z => n.2 (List.mem_cons_of_mem _ z)⟩, fun _ _ e _ => e, fun n a e => by
  rw [List.getElem?_append_left (List.getElem?_eq_some_iff.mp e).1]
  exact e, fun _ o _ e => ⟨o, e, (KEq.refl o).wk⟩⟩
theorem EnvR.ext {env : En} {σ : L2.St} (h : Rs r r' H) (e : EnvR K r m H env σ) : EnvR K r' m H env σ := ⟨e.1, fun i d q => by
  obtain ⟨v, a, b⟩ := e.2 i d q
  exact ⟨v, a, b.ext h⟩⟩
theorem Good.same {st : Sto} (g : Good K r m st H) {H' : Hp} (h : Same2 r m H r' m H') (hr : ∀ a ∈ r', H' a ≠ none) (hc : ∀ a o, a ∈ m → H a = some o → H' a = some o) : Good K r' m st H' :=
  ⟨g.len, g.nd, hr, fun i a c e f => (g.cell i a c e f).imp (fun o => hc a o (List.mem_of_getElem? e)) fun _ _ dd => dd.same h⟩
end
def tI (K : Fg) (f : DI) : TI := fun σ H R => ∃ r m st env chk ds st', Good K r m st H ∧ EnvR K r m H env σ ∧ f env st = some ((chk, ds), st') ∧
  ∀ m' H' J, Le m H m' H' → Good K r m' st' H' → Strm K r J chk ds m' H' → R J H'
def always (_ : Sto) : Bool := true
noncomputable def unchanged (n : Nat) (ds : List D) (st : Sto) : Bool := @decide (st[n]? = some ds) (Classical.propDecidable _)
theorem unchanged_iff {n : Nat} {ds : List D} {st : Sto} : unchanged n ds st = true ↔ st[n]? = some ds := by
  unfold unchanged
  exact @decide_eq_true_iff _ (Classical.propDecidable _)
/-- a sequence's items; a cell must not change meanwhile -/
noncomputable def srcOf (st : Sto) : D → Option ((Sto → Bool) × List D)
  | .tup xs => some (always, xs)
  | .lst xs => some (always, xs)
  | .otp xs => some (always, xs)
  | .loc n => (st[n]?).map fun xs => (unchanged n xs, xs)
  | _ => none
noncomputable def iSeq (f : DE) : DI := fun env st => (f env st).bind fun p => (srcOf p.2 p.1).map fun q => (q, p.2)
def rangeD (lo : Int) (n : Nat) : List D := (List.range n).map fun (k : Nat) => .int (lo + k)
def iRng (fa : DA) : DI := fun env st => (fa env st).bind fun p => match p.1 with
  | [.int j] => if decide (j ≤ 1000000) && decide (-1000000 ≤ j) then some ((always, rangeD 0 j.toNat), p.2) else none
  | [.int i, .int j] => if decide (j - i ≤ 1000000) && decide (i.natAbs ≤ 4000000000000000000) && decide (j.natAbs ≤ 4000000000000000000) then some ((always, rangeD i (j - i).toNat), p.2) else none
  | _ => none
def pairsD : List D → List D → List D
  | x :: xs, y :: ys => .tup [x, y] :: pairsD xs ys
  | _, _ => []
section
variable {K : Fg} {σ : L2.St} {H : Hp}
theorem rangeD_length (lo : Int) (n : Nat) : (rangeD lo n).length = n := by simp [rangeD]
theorem rangeD_get {lo : Int} {n i : Nat} {d : D} (h : (rangeD lo n)[i]? = some d) : d = .int (lo + i) ∧ i < n := by
  unfold rangeD at h
  rw [List.getElem?_map] at h
  obtain ⟨k, h1, h2⟩ := Option.map_eq_some_iff.mp h
  obtain ⟨h3, h4⟩ := List.getElem?_eq_some_iff.mp h1
  rw [List.getElem_range] at h4
  subst h4
  rw [List.length_range] at h3
  exact ⟨h2.symm, h3⟩
theorem strm_lst {r m : List Addr} {st : Sto} {ds : List D} {v : V} (g : Good K r m st H) (h : Den K r m H (.lst ds) v) : ∃ a vs, v = .ref a ∧ SqL K H a vs ∧ Strm K r (Itl K a) always ds m H := by
  obtain ⟨a, vs, rfl, i, n, z, dd⟩ := h
  have later : ∀ r1 m1 H1, Rs r r1 H → Le m H m1 H1 → SqL K H1 a vs ∧ Dens K r1 m1 H1 ds vs := fun r1 m1 H1 hr l => ⟨SqL.of (l.keep a _ i n.1), (dd.ext hr).mono l⟩
  refine ⟨a, vs, rfl, SqL.of i, by rw [dd.len]; exact z, fun r1 m1 H1 s1 k hr l _ _ hk => ?_, fun r1 m1 H1 s1 k x H' d hr l g1 _ hk y => ?_, fun r1 m1 H1 s1 hr l _ _ => ?_⟩
  · obtain ⟨q, d1⟩ := later r1 m1 H1 hr l
    have hk' : k < vs.length := by rw [← d1.len]; exact hk
    exact ⟨vs, vs[k], q, List.getElem?_eq_getElem hk'⟩
  · obtain ⟨q, d1⟩ := later r1 m1 H1 hr l
    obtain ⟨rfl, y⟩ := y
    obtain ⟨v, e1, e2⟩ := d1.get hk
    rw [y vs q] at e1
    cases e1
    exact ⟨Le.refl _ _, g1, e2⟩
  · obtain ⟨q, d1⟩ := later r1 m1 H1 hr l
    exact ⟨vs, q, by rw [d1.len]; exact Nat.le_refl _⟩
theorem strm_tup {r m : List Addr} {st : Sto} {ds : List D} {v : V} (g : Good K r m st H) (h : Den K r m H (.tup ds) v) : ∃ a vs, v = .ref a ∧ SqT K H a vs ∧ Strm K r (Itt K a) always ds m H := by
  obtain ⟨a, vs, rfl, i, dd⟩ := h
  have later : ∀ r1 m1 H1, Rs r r1 H → Le m H m1 H1 → SqT K H1 a vs ∧ Dens K r1 m1 H1 ds vs := fun r1 m1 H1 hr l => ⟨(i.mono l).sq, (dd.ext hr).mono l⟩
  refine ⟨a, vs, rfl, i.sq, by rw [dd.len]; exact i.len, fun r1 m1 H1 s1 k hr l _ _ hk => ?_, fun r1 m1 H1 s1 k x H' d hr l g1 _ hk y => ?_, fun r1 m1 H1 s1 hr l _ _ => ?_⟩
  · obtain ⟨q, d1⟩ := later r1 m1 H1 hr l
    have hk' : k < vs.length := by rw [← d1.len]; exact hk
    exact ⟨vs, vs[k], q, List.getElem?_eq_getElem hk'⟩
  · obtain ⟨q, d1⟩ := later r1 m1 H1 hr l
    obtain ⟨rfl, y⟩ := y
    obtain ⟨v, e1, e2⟩ := d1.get hk
    rw [y vs q] at e1
    cases e1
    exact ⟨Le.refl _ _, g1, e2⟩
  · obtain ⟨q, d1⟩ := later r1 m1 H1 hr l
    exact ⟨vs, q, by rw [d1.len]; exact Nat.le_refl _⟩
theorem strm_otp {r m : List Addr} {st : Sto} {ds : List D} {v : V} (g : Good K r m st H) (h : Den K r m H (.otp ds) v) : ∃ a vs, v = .ref a ∧ SqT K H a vs ∧ Strm K r (Itt K a) always ds m H := by
  obtain ⟨a, vs, rfl, i, dd⟩ := h
  have later : ∀ r1 m1 H1, Rs r r1 H → Le m H m1 H1 → SqT K H1 a vs ∧ Dens K r1 m1 H1 ds vs := fun r1 m1 H1 hr l => ⟨(i.mono l).sq, (dd.ext hr).mono l⟩
  refine ⟨a, vs, rfl, i.sq, by rw [dd.len]; exact i.len, fun r1 m1 H1 s1 k hr l _ _ hk => ?_, fun r1 m1 H1 s1 k x H' d hr l g1 _ hk y => ?_, fun r1 m1 H1 s1 hr l _ _ => ?_⟩
  · obtain ⟨q, d1⟩ := later r1 m1 H1 hr l
    have hk' : k < vs.length := by rw [← d1.len]; exact hk
    exact ⟨vs, vs[k], q, List.getElem?_eq_getElem hk'⟩
  · obtain ⟨q, d1⟩ := later r1 m1 H1 hr l
    obtain ⟨rfl, y⟩ := y
    obtain ⟨v, e1, e2⟩ := d1.get hk
    rw [y vs q] at e1
    cases e1
    exact ⟨Le.refl _ _, g1, e2⟩
  · obtain ⟨q, d1⟩ := later r1 m1 H1 hr l
    exact ⟨vs, q, by rw [d1.len]; exact Nat.le_refl _⟩
theorem strm_loc {r m : List Addr} {st : Sto} {n : Nat} {ds : List D} {v : V} (g : Good K r m st H) (h : Den K r m H (.loc n) v) (e : st[n]? = some ds) : ∃ a vs, v = .ref a ∧ SqL K H a vs ∧ Strm K r (Itl K a) (unchanged n ds) ds m H := by
  obtain ⟨a, rfl, ha, ys, hy⟩ := h
  obtain ⟨vs, h1, z, dd⟩ := g.cellL ha e hy
  have later : ∀ r1 m1 H1 s1, Le m H m1 H1 → Good K r1 m1 s1 H1 → unchanged n ds s1 = true → ∃ vs, SqL K H1 a vs ∧ Dens K r1 m1 H1 ds vs := fun r1 m1 H1 s1 l g1 c => by
    obtain ⟨ws, hw⟩ := l.isL ha hy
    obtain ⟨vs, h1, _, dd⟩ := g1.cellL (l.at ha) (unchanged_iff.mp c) hw
    exact ⟨vs, SqL.of h1, dd⟩
  refine ⟨a, vs, rfl, SqL.of h1, by rw [dd.len]; exact z, fun r1 m1 H1 s1 k hr l g1 c hk => ?_, fun r1 m1 H1 s1 k x H' d hr l g1 c hk y => ?_, fun r1 m1 H1 s1 hr l g1 c => ?_⟩
  · obtain ⟨vs, q, d1⟩ := later r1 m1 H1 s1 l g1 c
    have hk' : k < vs.length := by rw [← d1.len]; exact hk
    exact ⟨vs, vs[k], q, List.getElem?_eq_getElem hk'⟩
  · obtain ⟨vs, q, d1⟩ := later r1 m1 H1 s1 l g1 c
    obtain ⟨rfl, y⟩ := y
    obtain ⟨v, e1, e2⟩ := d1.get hk
    rw [y vs q] at e1
    cases e1
    exact ⟨Le.refl _ _, g1, e2⟩
  · obtain ⟨vs, q, d1⟩ := later r1 m1 H1 s1 l g1 c
    exact ⟨vs, q, by rw [d1.len]; exact Nat.le_refl _⟩
theorem i_seq {f : DE} {R : It → Hp → Prop} (h : tI K (iSeq f) σ H R) : iList K (tE K f) σ H R ∨ iTup K (tE K f) σ H R := by
  obtain ⟨r, m, st, env, chk, ds, st', g, e, f1, q⟩ := h
  unfold iSeq at f1
  obtain ⟨⟨x, s1⟩, f2, f3⟩ := Option.bind_eq_some_iff.mp f1
  obtain ⟨⟨c, xs⟩, f4, f5⟩ := Option.map_eq_some_iff.mp f3
  cases f5
  have f4 : srcOf s1 x = some (chk, ds) := f4
  cases x with
  | tup ys =>
    cases f4
    refine .inr ⟨r, m, st, env, _, _, g, e, f2, fun m1 H1 v l g1 d => ?_⟩
    obtain ⟨a, vs, rfl, s, S⟩ := strm_tup g1 d
    exact ⟨a, rfl, ⟨vs, s⟩, q m1 H1 _ l g1 S⟩
  | otp ys =>
    cases f4
    refine .inr ⟨r, m, st, env, _, _, g, e, f2, fun m1 H1 v l g1 d => ?_⟩
    obtain ⟨a, vs, rfl, s, S⟩ := strm_otp g1 d
    exact ⟨a, rfl, ⟨vs, s⟩, q m1 H1 _ l g1 S⟩
  | lst ys =>
    cases f4
    refine .inl ⟨r, m, st, env, _, _, g, e, f2, fun m1 H1 v l g1 d => ?_⟩
    obtain ⟨a, vs, rfl, s, S⟩ := strm_lst g1 d
    exact ⟨a, rfl, ⟨vs, s⟩, q m1 H1 _ l g1 S⟩
  | loc n =>
    obtain ⟨ys, e1, e2⟩ := Option.map_eq_some_iff.mp f4
    cases e2
    refine .inl ⟨r, m, st, env, _, _, g, e, f2, fun m1 H1 v l g1 d => ?_⟩
    obtain ⟨a, vs, rfl, s, S⟩ := strm_loc g1 d e1
    exact ⟨a, rfl, ⟨vs, s⟩, q m1 H1 _ l g1 S⟩
  | _ => cases f4
theorem strm_rng {r m : List Addr} {lo : Int} {n : Nat} (hn : n ≤ sizeLine) : Strm K r (Itr lo n) always (rangeD lo n) m H := by
  refine ⟨by rw [rangeD_length]; exact hn, fun r1 m1 H1 s1 k hr l _ _ hk => ?_, fun r1 m1 H1 s1 k x H' d hr l g1 _ hk y => ?_, fun r1 m1 H1 s1 hr l _ _ => ?_⟩
  · rw [rangeD_length] at hk
    exact hk
  · obtain ⟨rfl, rfl⟩ := y
    obtain ⟨rfl, _⟩ := rangeD_get hk
    exact ⟨Le.refl _ _, g1, rfl⟩
  · rw [rangeD_length]
    exact Nat.le_refl n
theorem i_rng1 {fa : DA} {R : It → Hp → Prop} (h1 : ∀ env st ds st', fa env st = some (ds, st') → ds.length = 1) (h : tI K (iRng fa) σ H R) : iRng1 (tAr K fa) σ H R := by
  obtain ⟨r, m, st, env, chk, ds, st', g, e, f1, q⟩ := h
  unfold iRng at f1
  obtain ⟨⟨x, s1⟩, f2, f3⟩ := Option.bind_eq_some_iff.mp f1
  have hl := h1 _ _ _ _ f2
  dsimp only at f3
  split at f3
  · next j =>
    split at f3
    · next hj =>
      cases f3
      simp only [Bool.and_eq_true, decide_eq_true_eq] at hj
      refine ⟨r, m, st, env, _, _, g, e, f2, fun m1 H1 v l g1 d => ?_⟩
      obtain ⟨y, tl, rfl, a, b⟩ := d
      cases a; cases b
      have e62 : (2 : Int) ^ 62 = 4611686018427387904 := by decide
      refine ⟨j, rfl, by rw [e62]; omega, by rw [e62]; omega, q m1 H1 _ l g1 (strm_rng ?_)⟩
      have : sizeLine = 16777216 := by decide
      omega
    · cases f3
  · simp at hl
  · cases f3
theorem i_rng2 {fa : DA} {R : It → Hp → Prop} (h1 : ∀ env st ds st', fa env st = some (ds, st') → ds.length = 2) (h : tI K (iRng fa) σ H R) : iRng2 (tAr K fa) σ H R := by
  obtain ⟨r, m, st, env, chk, ds, st', g, e, f1, q⟩ := h
  unfold iRng at f1
  obtain ⟨⟨x, s1⟩, f2, f3⟩ := Option.bind_eq_some_iff.mp f1
  have hl := h1 _ _ _ _ f2
  dsimp only at f3
  split at f3
  · simp at hl
  · next i j =>
    split at f3
    · next hj =>
      cases f3
      simp only [Bool.and_eq_true, decide_eq_true_eq] at hj
      refine ⟨r, m, st, env, _, _, g, e, f2, fun m1 H1 v l g1 d => ?_⟩
      obtain ⟨y, tl, rfl, a, y2, tl2, rfl, b, c⟩ := d
      cases a; cases b; cases c
      have e62 : (2 : Int) ^ 62 = 4611686018427387904 := by decide
      refine ⟨i, j, rfl, ⟨by rw [e62]; omega, by rw [e62]; omega, by rw [e62]; omega, by rw [e62]; omega⟩, q m1 H1 _ l g1 (strm_rng ?_)⟩
      have : sizeLine = 16777216 := by decide
      omega
    · cases f3
  · cases f3
/-- a source that tells its items at any heap -/
def tIR (K : Fg) (f : DI) : TI := fun σ H R => ∃ r m st env chk ds st', Good K r m st H ∧ EnvR K r m H env σ ∧ f env st = some ((chk, ds), st') ∧
  ∀ m' H' J, Le m H m' H' → Good K r m' st' H' → (∀ m2 H2, Strm K r J chk ds m2 H2) → R J H'
theorem EnvR.same {r m r' m' : List Addr} {H' : Hp} {env : En} (h : Same2 r m H r' m' H') (e : EnvR K r m H env σ) : EnvR K r' m' H' env σ := ⟨e.1, fun i d q => by
  obtain ⟨v, a, b⟩ := e.2 i d q
  exact ⟨v, a, b.same h⟩⟩
theorem i_rngR1 {fa : DA} {R : It → Hp → Prop} (h1 : ∀ env st ds st', fa env st = some (ds, st') → ds.length = 1) (h : tIR K (iRng fa) σ H R) : iRng1 (tAr K fa) σ H R := by
  obtain ⟨r, m, st, env, chk, ds, st', g, e, f1, q⟩ := h
  unfold iRng at f1
  obtain ⟨⟨x, s1⟩, f2, f3⟩ := Option.bind_eq_some_iff.mp f1
  have hl := h1 _ _ _ _ f2
  dsimp only at f3
  split at f3
  · next j =>
    split at f3
    · next hj =>
      cases f3
      simp only [Bool.and_eq_true, decide_eq_true_eq] at hj
      refine ⟨r, m, st, env, _, _, g, e, f2, fun m1 H1 v l g1 d => ?_⟩
      obtain ⟨y, tl, rfl, a, b⟩ := d
      cases a; cases b
      have e62 : (2 : Int) ^ 62 = 4611686018427387904 := by decide
      refine ⟨j, rfl, by rw [e62]; omega, by rw [e62]; omega, q m1 H1 _ l g1 fun _ _ => strm_rng ?_⟩
      have : sizeLine = 16777216 := by decide
      omega
    · cases f3
  · simp at hl
  · cases f3
theorem i_rngR2 {fa : DA} {R : It → Hp → Prop} (h1 : ∀ env st ds st', fa env st = some (ds, st') → ds.length = 2) (h : tIR K (iRng fa) σ H R) : iRng2 (tAr K fa) σ H R := by
  obtain ⟨r, m, st, env, chk, ds, st', g, e, f1, q⟩ := h
  unfold iRng at f1
  obtain ⟨⟨x, s1⟩, f2, f3⟩ := Option.bind_eq_some_iff.mp f1
  have hl := h1 _ _ _ _ f2
  dsimp only at f3
  split at f3
  · simp at hl
  · next i j =>
    split at f3
    · next hj =>
      cases f3
      simp only [Bool.and_eq_true, decide_eq_true_eq] at hj
      refine ⟨r, m, st, env, _, _, g, e, f2, fun m1 H1 v l g1 d => ?_⟩
      obtain ⟨y, tl, rfl, a, y2, tl2, rfl, b, c⟩ := d
      cases a; cases b; cases c
      have e62 : (2 : Int) ^ 62 = 4611686018427387904 := by decide
      refine ⟨i, j, rfl, ⟨by rw [e62]; omega, by rw [e62]; omega, by rw [e62]; omega, by rw [e62]; omega⟩, q m1 H1 _ l g1 fun _ _ => strm_rng ?_⟩
      have : sizeLine = 16777216 := by decide
      omega
    · cases f3
  · cases f3
end
/-- an exception: its class, its fields; they stand in its dict, which is no cell -/
def XVal (K : Fg) (r m : List Addr) (H : Hp) (x : Str) (fs : List (Str × D)) (cls : Value) (d : Option Addr) : Prop := cls = .ref (He.ga K x) ∧
  ((fs = [] ∧ d = none) ∨ ∃ (dd : Addr) (us : List (Str × V)), d = some dd ∧ dd ∉ m ∧ H dd = some (.xd us) ∧ ∀ q ∈ fs, ∃ v, us.lookup q.1 = some v ∧ Den K r m H q.2 v)
theorem XVal.mono {K : Fg} {r m m1 : List Addr} {H H1 : Hp} {x : Str} {fs : List (Str × D)} {cls : Value} {d : Option Addr} (h : XVal K r m H x fs cls d) (l : Le m H m1 H1) : XVal K r m1 H1 x fs cls d := by
  obtain ⟨e, h | ⟨dd, us, e2, n, i, q⟩⟩ := h
  · exact ⟨e, .inl h⟩
  · refine ⟨e, .inr ⟨dd, us, e2, l.out1 i n, l.keep _ _ i n, fun p hp => ?_⟩⟩
    obtain ⟨v, h1, h2⟩ := q p hp
    exact ⟨v, h1, h2.mono l⟩
theorem XVal.bare {K : Fg} {r m : List Addr} {H : Hp} {x : Str} : XVal K r m H x [] (.ref (He.ga K x)) none := ⟨rfl, .inl ⟨rfl, rfl⟩⟩
def EndOk (K : Fg) (W : WX) (r m : List Addr) (H : Hp) (fl : Fl) (st' : Sto) (D : Ends) : Prop := match fl with
  | .nx env' => ∀ m' H' σ', Le m H m' H' → Good K r m' st' H' → EnvR K r m' H' env' σ' → D.nx σ' H'
  | .bk env' => ∀ m' H' σ', Le m H m' H' → Good K r m' st' H' → EnvR K r m' H' env' σ' → D.bk σ' H'
  | .ct env' => ∀ m' H' σ', Le m H m' H' → Good K r m' st' H' → EnvR K r m' H' env' σ' → D.ct σ' H'
  | .rt d => ∀ m' H' v, Le m H m' H' → Good K r m' st' H' → Den K r m' H' d v → D.rt v H'
  | .xc env' x fs => ∀ m' H' σ' cls d, Le m H m' H' → Good K r m' st' H' → EnvR K r m' H' env' σ' → XVal K r m' H' x fs cls d → W cls d σ' H'
def tS (K : Fg) (W : WX) (f : DS) : TS := fun D σ H => ∃ r m st env fl st', Good K r m st H ∧ EnvR K r m H env σ ∧ f env st = some (fl, st') ∧ EndOk K W r m H fl st' D
theorem EndOk.mono {K : Fg} {W : WX} {r m m1 : List Addr} {H H1 : Hp} {fl : Fl} {st' : Sto} {D : Ends} (l : Le m H m1 H1) (h : EndOk K W r m H fl st' D) : EndOk K W r m1 H1 fl st' D := by
  cases fl with
  | nx env' => exact fun m' H' σ' l' => h m' H' σ' (l.trans l')
  | bk env' => exact fun m' H' σ' l' => h m' H' σ' (l.trans l')
  | ct env' => exact fun m' H' σ' l' => h m' H' σ' (l.trans l')
  | rt d => exact fun m' H' v l' => h m' H' v (l.trans l')
  | xc env' x fs => exact fun m' H' σ' cls d l' => h m' H' σ' cls d (l.trans l')
def sNil : DS := fun env st => some (.nx env, st)
def sSeq (a b : DS) : DS := fun env st => (a env st).bind fun p => match p.1 with
  | .nx env' => b env' p.2
  | f => some (f, p.2)
def sExpr (f : DE) : DS := fun env st => (f env st).bind fun p => some (.nx env, p.2)
def sRet (f : DE) : DS := fun env st => (f env st).bind fun p => some (.rt p.1, p.2)
def sRetN : DS := fun _ st => some (.rt .non, st)
def sBrk : DS := fun env st => some (.bk env, st)
def sCt : DS := fun env st => some (.ct env, st)
def sIf (c : DB) (a b : DS) : DS := fun env st => (c env st).bind fun p => if p.1 then a env p.2 else b env p.2
def sAsg (f : DE) (g : DG) : DS := fun env st => (f env st).bind fun p => (g p.1 env p.2).bind fun q => some (.nx q.1, q.2)
def forL (chk : Sto → Bool) (tg : DG) (body : DS) : List D → DS
  | [], env, st => if chk st then some (.nx env, st) else none
  | d :: ds, env, st => if chk st then (tg d env st).bind fun p => (body p.1 p.2).bind fun q => match q.1 with
      | .nx env' => forL chk tg body ds env' q.2
      | .ct env' => forL chk tg body ds env' q.2
      | .bk env' => some (.nx env', q.2)
      | .rt v => some (.rt v, q.2)
      | .xc e x fs => some (.xc e x fs, q.2) else none
def sFor (src : DI) (tg : DG) (body : DS) : DS := fun env st => (src env st).bind fun p => forL p.1.1 tg body p.1.2 env p.2
def lcL (chk : Sto → Bool) (tg : DG) (ifs : DB) (elt : DE) (env : En) : List D → Sto → Option (List D × Sto)
  | [], st => if chk st then some ([], st) else none
  | d :: ds, st => if chk st then (tg d env st).bind fun p => (ifs p.1 p.2).bind fun b =>
      if b.1 then (elt p.1 b.2).bind fun y => (lcL chk tg ifs elt env ds y.2).map fun q => (y.1 :: q.1, q.2) else lcL chk tg ifs elt env ds b.2 else none
def bYes : DB := fun _ st => some (true, st)
def eLc (vs : List Nat) (src : DI) (tg : DG) (ifs : DB) (elt : DE) : DE := fun env st => (src env st).bind fun p => (lcL p.1.1 tg ifs elt (wipeE env vs) p.1.2 p.2).map fun q => (.lst q.1, q.2)
def eMLc (vs : List Nat) (src : DI) (tg : DG) (ifs : DB) (elt : DE) : DE := fun env st => (src env st).bind fun p => (lcL p.1.1 tg ifs elt (wipeE env vs) p.1.2 p.2).map fun q => (.loc q.2.length, q.2 ++ [q.1])
/-- a comprehension with two clauses -/
def lcL2 (chk : Sto → Bool) (tg : DG) (ifs : DB) (vs1 : List Nat) (src1 : DI) (tg1 : DG) (ifs1 : DB) (elt : DE) (env : En) : List D → Sto → Option (List D × Sto)
  | [], st => if chk st then some ([], st) else none
  | d :: ds, st => if chk st then (tg d env st).bind fun p => (ifs p.1 p.2).bind fun b =>
      if b.1 then (src1 p.1 b.2).bind fun q => (lcL q.1.1 tg1 ifs1 elt (wipeE p.1 vs1) q.1.2 q.2).bind fun o => (lcL2 chk tg ifs vs1 src1 tg1 ifs1 elt env ds o.2).map fun o2 => (o.1 ++ o2.1, o2.2)
      else lcL2 chk tg ifs vs1 src1 tg1 ifs1 elt env ds b.2 else none
def eLc2 (vs vs1 : List Nat) (src : DI) (tg : DG) (ifs : DB) (src1 : DI) (tg1 : DG) (ifs1 : DB) (elt : DE) : DE := fun env st => (src env st).bind fun p => (lcL2 p.1.1 tg ifs vs1 src1 tg1 ifs1 elt (wipeE env vs) p.1.2 p.2).bind fun q => if fits q.1.length then some (.lst q.1, q.2) else none
def sAug (i : Nat) (o : Sto → D → D → Option D) (f : DE) : DS := fun env st => match env[i]? with
  | some (some x) => (f env st).bind fun p => (o p.2 x p.1).map fun d => (.nx (env.set i (some d)), p.2)
  | _ => none
def whileL (c : DB) (body : DS) : Nat → DS
  | 0, _, _ => none
  | n + 1, env, st => (c env st).bind fun p => if p.1 then (body env p.2).bind fun q => match q.1 with
      | .nx env' => whileL c body n env' q.2
      | .ct env' => whileL c body n env' q.2
      | .bk env' => some (.nx env', q.2)
      | .rt v => some (.rt v, q.2)
      | .xc e x fs => some (.xc e x fs, q.2) else some (.nx env, p.2)
section
variable {K : Fg} {W : WX} {σ : L2.St} {H : Hp} {D : Ends}
theorem s_nil (h : tS K W sNil D σ H) : tNext D σ H := by
  obtain ⟨r, m, st, env, fl, st', g, e, f, q⟩ := h
  cases f
  exact q m H σ (Le.refl m H) g e
theorem s_seq {a b : DS} (h : tS K W (sSeq a b) D σ H) : tSeq (tS K W a) (tS K W b) D σ H := by
  obtain ⟨r, m, st, env, fl, st', g, e, f, q⟩ := h
  unfold sSeq at f
  obtain ⟨⟨fa, s1⟩, f1, f⟩ := Option.bind_eq_some_iff.mp f
  refine ⟨r, m, st, env, fa, s1, g, e, f1, ?_⟩
  cases fa with
  | nx env' => exact fun m1 H1 σ1 l1 g1 e1 => ⟨r, m1, s1, env', fl, st', g1, e1, f, q.mono l1⟩
  | rt d => cases f; exact q
  | xc env' x fs => cases f; exact q
  | bk env' => cases f; exact q
  | ct env' => cases f; exact q
theorem s_expr {fe : DE} (h : tS K W (sExpr fe) D σ H) : tDrop (tE K fe) D σ H := by
  obtain ⟨r, m, st, env, fl, st', g, e, f, q⟩ := h
  unfold sExpr at f
  obtain ⟨⟨x, s1⟩, f1, f⟩ := Option.bind_eq_some_iff.mp f
  cases f
  exact ⟨r, m, st, env, x, _, g, e, f1, fun m1 H1 v l1 g1 _ => q m1 H1 σ l1 g1 (e.mono l1)⟩
theorem s_ret {fe : DE} (h : tS K W (sRet fe) D σ H) : tRet (tE K fe) D σ H := by
  obtain ⟨r, m, st, env, fl, st', g, e, f, q⟩ := h
  unfold sRet at f
  obtain ⟨⟨x, s1⟩, f1, f⟩ := Option.bind_eq_some_iff.mp f
  cases f
  exact ⟨r, m, st, env, x, _, g, e, f1, fun m1 H1 v l1 g1 d1 => q m1 H1 v l1 g1 d1⟩
theorem s_retN (h : tS K W sRetN D σ H) : tRetN D σ H := by
  obtain ⟨r, m, st, env, fl, st', g, e, f, q⟩ := h
  cases f
  exact q m H _ (Le.refl m H) g rfl
theorem s_brk (h : tS K W sBrk D σ H) : tBreak D σ H := by
  obtain ⟨r, m, st, env, fl, st', g, e, f, q⟩ := h
  cases f
  exact q m H σ (Le.refl m H) g e
theorem s_ct (h : tS K W sCt D σ H) : tCont D σ H := by
  obtain ⟨r, m, st, env, fl, st', g, e, f, q⟩ := h
  cases f
  exact q m H σ (Le.refl m H) g e
theorem s_if {c : DB} {a b : DS} (h : tS K W (sIf c a b) D σ H) : tIfS (tBo K c) (tS K W a) (tS K W b) D σ H := by
  obtain ⟨r, m, st, env, fl, st', g, e, f, q⟩ := h
  unfold sIf at f
  obtain ⟨⟨x, s1⟩, f1, f⟩ := Option.bind_eq_some_iff.mp f
  refine ⟨r, m, st, env, x, s1, g, e, f1, fun m1 H1 l1 g1 => ?_⟩
  cases x with
  | true => exact ⟨r, m1, s1, env, fl, st', g1, e.mono l1, f, q.mono l1⟩
  | false => exact ⟨r, m1, s1, env, fl, st', g1, e.mono l1, f, q.mono l1⟩
theorem s_asg {fe : DE} {gg : DG} {ws : List Nat} (h : tS K W (sAsg fe gg) D σ H) : tAsg (tE K fe) (tG K ws gg) D σ H := by
  obtain ⟨r, m, st, env, fl, st', g, e, f, q⟩ := h
  unfold sAsg at f
  obtain ⟨⟨x, s1⟩, f1, f⟩ := Option.bind_eq_some_iff.mp f
  obtain ⟨⟨e2, s2⟩, f2, f⟩ := Option.bind_eq_some_iff.mp f
  cases f
  refine ⟨r, m, st, env, x, s1, g, e, f1, fun m1 H1 v l1 g1 d1 => ?_⟩
  exact ⟨r, m1, s1, env, x, e2, s2, g1, e.mono l1, d1, f2, fun m2 H2 σ2 l2 g2 er2 _ => q m2 H2 σ2 (l1.trans l2) g2 er2⟩
theorem s_aug {i : Nat} {o : Sto → Tg.D → Tg.D → Option Tg.D} {rr : R2} (ho : OpD K o rr) {fe : DE} (h : tS K W (sAug i o fe) D σ H) : tAug i (tE K fe) rr D σ H := by
  obtain ⟨r, m, st, env, fl, st', g, e, f, q⟩ := h
  unfold sAug at f
  split at f
  · next x hx =>
    obtain ⟨⟨y, s1⟩, f1, f⟩ := Option.bind_eq_some_iff.mp f
    obtain ⟨d, f2, f⟩ := Option.map_eq_some_iff.mp f
    cases f
    obtain ⟨v, a, b⟩ := e.2 i _ hx
    refine ⟨v, a, r, m, st, env, y, s1, g, e, f1, fun m1 H1 w l1 g1 d1 => ?_⟩
    exact ho r m1 s1 H1 x y d v w _ g1 (b.mono l1) d1 f2 fun m2 H2 z l2 g2 d2 => q m2 H2 _ (l1.trans l2) g2 ((e.mono (l1.trans l2)).set d2)
  · cases f
theorem s_for {src : DI} {tg : DG} {body : DS} {ws : List Nat} (h : tS K W (sFor src tg body) D σ H) : tFor (tI K src) (tG K ws tg) (tS K W body) D σ H := by
  obtain ⟨r, m, st, env, fl, st', g, e, f, q⟩ := h
  unfold sFor at f
  obtain ⟨⟨⟨chk, ds⟩, s1⟩, f1, f⟩ := Option.bind_eq_some_iff.mp f
  have f : forL chk tg body ds env s1 = some (fl, st') := f
  refine ⟨r, m, st, env, chk, ds, s1, g, e, f1, fun m1 H1 J l1 g1 S => ?_⟩
  refine ⟨fun i k σ' H' => k = ds.length - i ∧ i ≤ ds.length ∧ ∃ m2 s2 e2, Le m1 H1 m2 H' ∧ Good K r m2 s2 H' ∧ EnvR K r m2 H' e2 σ' ∧ forL chk tg body (ds.drop i) e2 s2 = some (fl, st'),
    ⟨ds.length, rfl, Nat.zero_le _, m1, s1, env, Le.refl _ _, g1, e.mono l1, f⟩, ?_⟩
  rintro i k σ2 H2 ⟨rfl, hi, m2, s2, e2, l2, g2, er2, f2⟩
  by_cases hlt : i < ds.length
  · rw [List.drop_eq_getElem_cons hlt] at f2
    unfold forL at f2
    split at f2
    · next hc =>
      obtain ⟨⟨e3, s3⟩, f3, f2⟩ := Option.bind_eq_some_iff.mp f2
      obtain ⟨⟨fb, s4⟩, f4, f5⟩ := Option.bind_eq_some_iff.mp f2
      refine .inr ⟨S.go r m2 H2 s2 i (fun b hb => .inl hb) l2 g2 hc hlt, fun σ' H' => i + 1 ≤ ds.length ∧ ∃ m2 s2 e2, Le m1 H1 m2 H' ∧ Good K r m2 s2 H' ∧ EnvR K r m2 H' e2 σ' ∧ forL chk tg body (ds.drop (i + 1)) e2 s2 = some (fl, st'), fun σ' H' hN => ⟨ds.length - (i + 1), by omega, rfl, hN.1, hN.2⟩, fun x H3 y => ?_⟩
      obtain ⟨l3, g3, d3⟩ := S.yld r m2 H2 s2 i x H3 _ (fun b hb => .inl hb) l2 g2 hc (List.getElem?_eq_getElem hlt) y
      refine ⟨r, m2, s2, e2, _, e3, s3, g3, er2.mono l3, d3, f3, fun m4 H4 σ4 l4 g4 er4 _ => ?_⟩
      refine ⟨r, m4, s3, e3, fb, s4, g4, er4, f4, ?_⟩
      have lT : Le m1 H1 m4 H4 := (l2.trans l3).trans l4
      cases fb with
      | nx e5 => exact fun m5 H5 σ5 l5 g5 er5 => ⟨hlt, m5, s4, e5, lT.trans l5, g5, er5, f5⟩
      | ct e5 => exact fun m5 H5 σ5 l5 g5 er5 => ⟨hlt, m5, s4, e5, lT.trans l5, g5, er5, f5⟩
      | bk e5 =>
        cases f5
        exact fun m5 H5 σ5 l5 g5 er5 => q m5 H5 σ5 (l1.trans (lT.trans l5)) g5 er5
      | rt d =>
        cases f5
        exact fun m5 H5 v l5 g5 d5 => q m5 H5 v (l1.trans (lT.trans l5)) g5 d5
      | xc e5 x fs =>
        cases f5
        exact fun m5 H5 σ5 cls d l5 g5 er5 xv => q m5 H5 σ5 cls d (l1.trans (lT.trans l5)) g5 er5 xv
    · cases f2
  · have hz : i = ds.length := by omega
    subst hz
    rw [List.drop_length] at f2
    unfold forL at f2
    split at f2
    · next hc =>
      cases f2
      exact .inl ⟨S.stop r m2 H2 _ (fun b hb => .inl hb) l2 g2 hc, q m2 H2 σ2 (l1.trans l2) g2 er2⟩
    · cases f2
theorem s_while {c : DB} {body : DS} {n : Nat} (h : tS K W (whileL c body n) D σ H) : tWhile (tBo K c) (tS K W body) D σ H := by
  obtain ⟨r, m, st, env, fl, st', g, e, f, q⟩ := h
  refine ⟨fun k σ' H' => ∃ m2 s2 e2, Le m H m2 H' ∧ Good K r m2 s2 H' ∧ EnvR K r m2 H' e2 σ' ∧ whileL c body k e2 s2 = some (fl, st'), ⟨n, m, st, env, Le.refl _ _, g, e, f⟩, ?_⟩
  rintro k σ2 H2 ⟨m2, s2, e2, l2, g2, er2, f2⟩
  cases k with
  | zero => cases f2
  | succ k =>
    unfold whileL at f2
    obtain ⟨⟨b, s3⟩, f3, f4⟩ := Option.bind_eq_some_iff.mp f2
    refine ⟨r, m2, _, e2, b, s3, g2, er2, f3, fun m3 H3 l3 g3 => ?_⟩
    cases b with
    | true =>
      obtain ⟨⟨fb, s4⟩, f4, f5⟩ := Option.bind_eq_some_iff.mp f4
      rw [if_pos rfl]
      refine ⟨fun σ' H' => ∃ m2 s2 e2, Le m H m2 H' ∧ Good K r m2 s2 H' ∧ EnvR K r m2 H' e2 σ' ∧ whileL c body k e2 s2 = some (fl, st'), fun σ' H' hN => ⟨k, Nat.lt_succ_self k, hN⟩, ?_⟩
      refine ⟨r, m3, s3, e2, fb, s4, g3, er2.mono l3, f4, ?_⟩
      have lT : Le m H m3 H3 := l2.trans l3
      cases fb with
      | nx e5 => exact fun m5 H5 σ5 l5 g5 er5 => ⟨m5, s4, e5, lT.trans l5, g5, er5, f5⟩
      | ct e5 => exact fun m5 H5 σ5 l5 g5 er5 => ⟨m5, s4, e5, lT.trans l5, g5, er5, f5⟩
      | bk e5 =>
        cases f5
        exact fun m5 H5 σ5 l5 g5 er5 => q m5 H5 σ5 (lT.trans l5) g5 er5
      | rt d =>
        cases f5
        exact fun m5 H5 v l5 g5 d5 => q m5 H5 v (lT.trans l5) g5 d5
      | xc e5 x fs =>
        cases f5
        exact fun m5 H5 σ5 cls d l5 g5 er5 xv => q m5 H5 σ5 cls d (lT.trans l5) g5 er5 xv
    | false =>
      cases f4
      rw [if_neg Bool.false_ne_true]
      exact q m3 H3 σ2 (l2.trans l3) g3 (er2.mono l3)
theorem le_res {m1 m2 : List Addr} {H1 H2 : Hp} {p : Addr} {o : HO} (l : Le m1 H1 m2 H2) (hp : H1 p = none) : Le m1 H1 m2 (upd H2 p o) :=
  ⟨l.ext, fun a u e n => by
    rw [upd_ne (ne_of_none e hp)]
    exact l.keep a u e n, fun a e => by
    by_cases q : a = p
    · rw [q]; exact hp
    · rw [upd_ne q] at e
      exact l.there a e, fun a u ha e => by
    obtain ⟨w, h1, q⟩ := l.kind a u ha e
    exact ⟨w, by rw [upd_ne (ne_of_none e hp)]; exact h1, q⟩⟩
/-- the loop of a comprehension -/
theorem lc_run {r m1 : List Addr} {H1 : Hp} {s1 st' : Sto} {J : It} {chk : Sto → Bool} {ds out : List Tg.D} {tg : DG} {ifs : DB} {elt : DE} {env : En} {vs ws : List Nat} {p : Addr} {Qd : Hp → Prop}
    (S : Strm K r J chk ds m1 H1) (g1 : Good K r m1 s1 H1) (er : EnvR K r m1 H1 env σ) (f : lcL chk tg ifs elt (wipeE env vs) ds s1 = some (out, st')) (hp : H1 p = none) (hw : ∀ i ∈ ws, i ∈ vs)
    (fin : ∀ m2 H2 acc, Le m1 H1 m2 H2 → Good K (p :: r) m2 st' H2 → p ∉ m2 → H2 p = some (.lst acc) → acc.length ≤ sizeLine → Dens K (p :: r) m2 H2 out acc → Qd H2) :
    ∃ W : Nat → Nat → Hp → Prop, (∃ k, W 0 k (upd H1 p (.lst []))) ∧ ∀ i k H, W i k H →
      (J.stop i H ∧ Qd H) ∨ (J.go i H ∧ ∃ Nx : Hp → Prop, (∀ H', Nx H' → ∃ k', k' < k ∧ W (i + 1) k' H') ∧ ∀ x H', J.yld i H x H' → tG K ws tg x (L2.wipe σ vs) H' fun σ2 H2 => L2.wipe σ2 vs = L2.wipe σ vs ∧ tBo K ifs σ2 H2 fun b H3 =>
        if b = true then tE K elt σ2 H3 fun y H4 => ∃ acc, H4 p = some (.lst acc) ∧ acc.length < sizeLine ∧ Nx (upd H4 p (.lst (acc ++ [y]))) else Nx H3) := by
  have hr : Rs r (p :: r) H1 := fun b hb => (List.mem_cons.mp hb).elim (fun e => .inr (by rw [e]; exact hp)) .inl
  have er0 : EnvR K (p :: r) m1 H1 (wipeE env vs) (L2.wipe σ vs) := (er.ext hr).wipe vs
  refine ⟨fun i k H' => k = ds.length - i ∧ i ≤ ds.length ∧ ∃ m2 s2 acc dn rest, Le m1 H1 m2 H' ∧ Good K (p :: r) m2 s2 H' ∧ p ∉ m2 ∧ H' p = some (.lst acc) ∧ acc.length ≤ i ∧ Dens K (p :: r) m2 H' dn acc ∧ lcL chk tg ifs elt (wipeE env vs) (ds.drop i) s2 = some (rest, st') ∧ dn ++ rest = out,
    ⟨ds.length, rfl, Nat.zero_le _, m1, s1, [], [], out, le_res (Le.refl _ _) hp, ?_, (g1.fresh hp).1, upd_same, Nat.le_refl _, rfl, f, rfl⟩, ?_⟩
  · refine ⟨g1.len, g1.nd, fun a ha e => ?_, fun i a c e q => ?_⟩
    · rcases List.mem_cons.mp ha with z | z
      · rw [z, upd_same] at e
        cases e
      · exact g1.res a z ((le_upd (m := m1) hp).there a e)
    · refine (g1.cell i a c e q).imp (fun o h1 => ?_) fun _ _ dd => (dd.ext hr).mono (le_upd hp)
      rw [upd_ne (ne_of_none h1 hp)]
      exact h1
  · rintro i k H2 ⟨rfl, hi, m2, s2, acc, dn, rest, l2, g2, np, hP, hacc, dacc, f2, eo⟩
    by_cases hlt : i < ds.length
    · rw [List.drop_eq_getElem_cons hlt] at f2
      unfold lcL at f2
      split at f2
      · next hc =>
        obtain ⟨⟨e3, s3⟩, f3, f2⟩ := Option.bind_eq_some_iff.mp f2
        obtain ⟨⟨b, s4⟩, f4, f5⟩ := Option.bind_eq_some_iff.mp f2
        refine .inr ⟨S.go _ m2 H2 s2 i hr l2 g2 hc hlt, fun H' => ∃ m2 s2 acc dn rest, Le m1 H1 m2 H' ∧ Good K (p :: r) m2 s2 H' ∧ p ∉ m2 ∧ H' p = some (.lst acc) ∧ acc.length ≤ i + 1 ∧ Dens K (p :: r) m2 H' dn acc ∧ lcL chk tg ifs elt (wipeE env vs) (ds.drop (i + 1)) s2 = some (rest, st') ∧ dn ++ rest = out, fun H' hN => ⟨ds.length - (i + 1), by omega, rfl, hlt, hN⟩, fun x H3 y => ?_⟩
        obtain ⟨l3, g3, d3⟩ := S.yld _ m2 H2 s2 i x H3 _ hr l2 g2 hc (List.getElem?_eq_getElem hlt) y
        refine ⟨p :: r, m2, s2, wipeE env vs, _, e3, s3, g3, (er0.mono l2).mono l3, d3, f3, fun m4 H4 σ4 l4 g4 er4 o4 => ⟨wipe_off o4 hw, ?_⟩⟩
        refine ⟨p :: r, m4, s3, e3, b, s4, g4, er4, f4, fun m5 H5 l5 g5 => ?_⟩
        have lA : Le m2 H2 m5 H5 := (l3.trans l4).trans l5
        have hP5 : H5 p = some (.lst acc) := lA.keep p _ hP np
        have np5 : p ∉ m5 := lA.out1 hP np
        cases b with
        | true =>
          obtain ⟨⟨y1, s6⟩, f6, f7⟩ := Option.bind_eq_some_iff.mp f5
          obtain ⟨⟨out', s7⟩, f8, f9⟩ := Option.map_eq_some_iff.mp f7
          cases f9
          refine iteT ?_
          refine ⟨p :: r, m5, s4, e3, y1, s6, g5, er4.mono l5, f6, fun m6 H6 v6 l6 g6 d6 => ?_⟩
          have lB : Le m2 H2 m6 H6 := lA.trans l6
          have hP6 : H6 p = some (.lst acc) := lB.keep p _ hP np
          have np6 : p ∉ m6 := lB.out1 hP np
          have hz : acc.length < sizeLine := Nat.lt_of_le_of_lt hacc (Nat.lt_of_lt_of_le hlt S.len)
          refine ⟨acc, hP6, hz, m6, s6, acc ++ [v6], dn ++ [y1], out', le_res (l2.trans lB) hp, ?_, np6, upd_same, ?_, ?_, f8, ?_⟩
          · refine g6.same (same_upd np6) (fun a ha e => ?_) fun a xs ha e => ?_
            · by_cases q : a = p
              · rw [q, upd_same] at e
                cases e
              · rw [upd_ne q] at e
                exact g6.res a ha e
            · rw [upd_ne (fun z => np6 (by rw [← z]; exact ha))]
              exact e
          · rw [List.length_append]
            exact Nat.succ_le_succ hacc
          · exact ((dacc.mono lB).append (Dens.one d6)).same (same_upd np6)
          · rw [List.append_assoc]
            exact eo
        | false =>
          refine iteF ?_
          exact ⟨m5, s4, acc, dn, rest, l2.trans lA, g5, np5, hP5, Nat.le_succ_of_le hacc, dacc.mono lA, f5, eo⟩
      · cases f2
    · have hz : i = ds.length := by omega
      subst hz
      rw [List.drop_length] at f2
      unfold lcL at f2
      split at f2
      · next hc =>
        cases f2
        rw [List.append_nil] at eo
        subst eo
        exact .inl ⟨S.stop _ m2 H2 _ hr l2 g2 hc, fin m2 H2 acc l2 g2 np hP (Nat.le_trans hacc S.len) dacc⟩
      · cases f2
theorem t_lc {Q : VK} {src : DI} {tg : DG} {ifs : DB} {elt : DE} {vs ws : List Nat} (hw : ∀ i ∈ ws, i ∈ vs) (h : tE K (eLc vs src tg ifs elt) σ H Q) : tLc (tI K src) (tG K ws tg) (tBo K ifs) (tE K elt) vs σ H Q := by
  obtain ⟨r, m, st, env, d, st', g, e, f, q⟩ := h
  unfold eLc at f
  obtain ⟨⟨⟨chk, ds⟩, s1⟩, f1, f⟩ := Option.bind_eq_some_iff.mp f
  obtain ⟨⟨out, s2⟩, f2, f⟩ := Option.map_eq_some_iff.mp f
  cases f
  refine ⟨r, m, st, env, chk, ds, s1, g, e, f1, fun m1 H1 J l1 g1 S p hp => ?_⟩
  refine lc_run S g1 (e.mono l1) f2 hp hw fun m2 H2 acc l2 g2 np hP hz dd => ?_
  have g3 : Good K r m2 s2 H2 := g2.same same_drop (fun a ha => g2.res a (List.mem_cons_of_mem _ ha)) fun _ _ _ e => e
  exact q m2 H2 (.ref p) (l1.trans l2) g3 ⟨p, acc, rfl, hP, ⟨np, (g1.fresh hp).2⟩, hz, dd.same same_drop⟩
/-- the loops of a comprehension with two clauses -/
theorem lc_run2 {r m1 : List Addr} {H1 : Hp} {s1 st' : Sto} {J : It} {chk : Sto → Bool} {ds out : List Tg.D} {tg tg1 : DG} {ifs ifs1 : DB} {src1 : DI} {elt : DE} {env : En} {vs vs1 ws ws1 : List Nat} {p : Addr} {Qd : Hp → Prop}
    (S : Strm K r J chk ds m1 H1) (g1 : Good K r m1 s1 H1) (er : EnvR K r m1 H1 env σ) (f : lcL2 chk tg ifs vs1 src1 tg1 ifs1 elt (wipeE env vs) ds s1 = some (out, st')) (hz : out.length ≤ sizeLine) (hp : H1 p = none) (hw : ∀ i ∈ ws, i ∈ vs) (hw1 : ∀ i ∈ ws1, i ∈ vs1)
    (fin : ∀ m2 H2 acc, Le m1 H1 m2 H2 → Good K (p :: r) m2 st' H2 → p ∉ m2 → H2 p = some (.lst acc) → acc.length ≤ sizeLine → Dens K (p :: r) m2 H2 out acc → Qd H2) :
    ∃ W : Nat → Nat → Hp → Prop, (∃ k, W 0 k (upd H1 p (.lst []))) ∧ ∀ i k H, W i k H →
      (J.stop i H ∧ Qd H) ∨ (J.go i H ∧ ∃ Nx : Hp → Prop, (∀ H', Nx H' → ∃ k', k' < k ∧ W (i + 1) k' H') ∧ ∀ x H', J.yld i H x H' → tG K ws tg x (L2.wipe σ vs) H' fun σ2 H2 => L2.wipe σ2 vs = L2.wipe σ vs ∧ tBo K ifs σ2 H2 fun b H3 =>
        if b = true then tIR K src1 σ2 H3 fun J1 H4 => ∃ W1 : Nat → Nat → Hp → Prop, (∃ k, W1 0 k H4) ∧ ∀ j k H, W1 j k H →
          (J1.stop j H ∧ Nx H) ∨ (J1.go j H ∧ ∃ Nx1 : Hp → Prop, (∀ H', Nx1 H' → ∃ k', k' < k ∧ W1 (j + 1) k' H') ∧ ∀ x H', J1.yld j H x H' → tG K ws1 tg1 x (L2.wipe σ2 vs1) H' fun σ3 H5 => L2.wipe σ3 vs1 = L2.wipe σ2 vs1 ∧ tBo K ifs1 σ3 H5 fun b H6 =>
            if b = true then tE K elt σ3 H6 fun y H7 => ∃ acc, H7 p = some (.lst acc) ∧ acc.length < sizeLine ∧ Nx1 (upd H7 p (.lst (acc ++ [y]))) else Nx1 H6)
        else Nx H3) := by
  have hr : Rs r (p :: r) H1 := fun b hb => (List.mem_cons.mp hb).elim (fun e => .inr (by rw [e]; exact hp)) .inl
  have er0 : EnvR K (p :: r) m1 H1 (wipeE env vs) (L2.wipe σ vs) := (er.ext hr).wipe vs
  refine ⟨fun i k H' => k = ds.length - i ∧ i ≤ ds.length ∧ ∃ m2 s2 acc dn rest, Le m1 H1 m2 H' ∧ Good K (p :: r) m2 s2 H' ∧ p ∉ m2 ∧ H' p = some (.lst acc) ∧ Dens K (p :: r) m2 H' dn acc ∧ lcL2 chk tg ifs vs1 src1 tg1 ifs1 elt (wipeE env vs) (ds.drop i) s2 = some (rest, st') ∧ dn ++ rest = out,
    ⟨ds.length, rfl, Nat.zero_le _, m1, s1, [], [], out, le_res (Le.refl _ _) hp, ?_, (g1.fresh hp).1, upd_same, rfl, f, rfl⟩, ?_⟩
  · refine ⟨g1.len, g1.nd, fun a ha e => ?_, fun i a c e q => ?_⟩
    · rcases List.mem_cons.mp ha with z | z
      · rw [z, upd_same] at e
        cases e
      · exact g1.res a z ((le_upd (m := m1) hp).there a e)
    · refine (g1.cell i a c e q).imp (fun o h1 => ?_) fun _ _ dd => (dd.ext hr).mono (le_upd hp)
      rw [upd_ne (ne_of_none h1 hp)]
      exact h1
  · rintro i k H2 ⟨rfl, hi, m2, s2, acc, dn, rest, l2, g2, np, hP, dacc, f2, eo⟩
    by_cases hlt : i < ds.length
    · rw [List.drop_eq_getElem_cons hlt] at f2
      unfold lcL2 at f2
      split at f2
      · next hc =>
        obtain ⟨⟨e3, s3⟩, f3, f2⟩ := Option.bind_eq_some_iff.mp f2
        obtain ⟨⟨b, s4⟩, f4, f5⟩ := Option.bind_eq_some_iff.mp f2
        refine .inr ⟨S.go _ m2 H2 s2 i hr l2 g2 hc hlt, fun H' => ∃ m2 s2 acc dn rest, Le m1 H1 m2 H' ∧ Good K (p :: r) m2 s2 H' ∧ p ∉ m2 ∧ H' p = some (.lst acc) ∧ Dens K (p :: r) m2 H' dn acc ∧ lcL2 chk tg ifs vs1 src1 tg1 ifs1 elt (wipeE env vs) (ds.drop (i + 1)) s2 = some (rest, st') ∧ dn ++ rest = out, fun H' hN => ⟨ds.length - (i + 1), by omega, rfl, hlt, hN⟩, fun x H3 y => ?_⟩
        obtain ⟨l3, g3, d3⟩ := S.yld _ m2 H2 s2 i x H3 _ hr l2 g2 hc (List.getElem?_eq_getElem hlt) y
        refine ⟨p :: r, m2, s2, wipeE env vs, _, e3, s3, g3, (er0.mono l2).mono l3, d3, f3, fun m4 H4 σ4 l4 g4 er4 o4 => ⟨wipe_off o4 hw, ?_⟩⟩
        refine ⟨p :: r, m4, s3, e3, b, s4, g4, er4, f4, fun m5 H5 l5 g5 => ?_⟩
        have lA : Le m2 H2 m5 H5 := (l3.trans l4).trans l5
        have hP5 : H5 p = some (.lst acc) := lA.keep p _ hP np
        have np5 : p ∉ m5 := lA.out1 hP np
        cases b with
        | true =>
          obtain ⟨⟨⟨chk1, ds1⟩, s6⟩, f6, f7⟩ := Option.bind_eq_some_iff.mp f5
          obtain ⟨⟨o1, s7⟩, f8, f9⟩ := Option.bind_eq_some_iff.mp f7
          obtain ⟨⟨out', s8⟩, f10, f11⟩ := Option.map_eq_some_iff.mp f9
          cases f11
          refine iteT ?_
          refine ⟨p :: r, m5, s4, e3, chk1, ds1, s6, g5, er4.mono l5, f6, fun m6 H6 J1 l6 g6 S1 => ?_⟩
          have lB : Le m2 H2 m6 H6 := lA.trans l6
          have hP6 : H6 p = some (.lst acc) := lB.keep p _ hP np
          have np6 : p ∉ m6 := lB.out1 hP np
          have er6 : EnvR K (p :: r) m6 H6 (wipeE e3 vs1) (L2.wipe σ4 vs1) := ((er4.mono l5).mono l6).wipe vs1
          have hz1 : (dn ++ o1).length ≤ sizeLine := by
            have q : (dn ++ (o1 ++ out')).length = out.length := congrArg List.length eo
            simp only [List.length_append] at q ⊢
            omega
          have rr : ∀ H', Rs (p :: r) (p :: r) H' := fun _ b hb => .inl hb
          refine ⟨fun j k H' => k = ds1.length - j ∧ j ≤ ds1.length ∧ ∃ m7 s7' acc7 dn7 rest7, EnvR K (p :: r) m7 H' (wipeE e3 vs1) (L2.wipe σ4 vs1) ∧ Le m1 H1 m7 H' ∧ Good K (p :: r) m7 s7' H' ∧ p ∉ m7 ∧ H' p = some (.lst acc7) ∧ Dens K (p :: r) m7 H' dn7 acc7 ∧ lcL chk1 tg1 ifs1 elt (wipeE e3 vs1) (ds1.drop j) s7' = some (rest7, s7) ∧ dn7 ++ rest7 = dn ++ o1,
            ⟨ds1.length, rfl, Nat.zero_le _, m6, s6, acc, dn, o1, er6, l2.trans lB, g6, np6, hP6, dacc.mono lB, f8, rfl⟩, ?_⟩
          rintro j k H7 ⟨rfl, hj, m7, s7', acc7, dn7, rest7, l7, l17, g7, np7, hP7, dacc7, fj, ej⟩
          by_cases hlt1 : j < ds1.length
          · rw [List.drop_eq_getElem_cons hlt1] at fj
            unfold lcL at fj
            split at fj
            · next hc1 =>
              obtain ⟨⟨e9, s9⟩, f9, fj⟩ := Option.bind_eq_some_iff.mp fj
              obtain ⟨⟨b1, s10⟩, f12, f13⟩ := Option.bind_eq_some_iff.mp fj
              refine .inr ⟨(S1 m7 H7).go _ m7 H7 s7' j (rr _) (Le.refl _ _) g7 hc1 hlt1, fun H' => ∃ m7 s7' acc7 dn7 rest7, EnvR K (p :: r) m7 H' (wipeE e3 vs1) (L2.wipe σ4 vs1) ∧ Le m1 H1 m7 H' ∧ Good K (p :: r) m7 s7' H' ∧ p ∉ m7 ∧ H' p = some (.lst acc7) ∧ Dens K (p :: r) m7 H' dn7 acc7 ∧ lcL chk1 tg1 ifs1 elt (wipeE e3 vs1) (ds1.drop (j + 1)) s7' = some (rest7, s7) ∧ dn7 ++ rest7 = dn ++ o1, fun H' hN => ⟨ds1.length - (j + 1), by omega, rfl, hlt1, hN⟩, fun x1 H8 y1 => ?_⟩
              obtain ⟨l8, g8, d8⟩ := (S1 m7 H7).yld _ m7 H7 s7' j x1 H8 _ (rr _) (Le.refl _ _) g7 hc1 (List.getElem?_eq_getElem hlt1) y1
              refine ⟨p :: r, m7, s7', wipeE e3 vs1, _, e9, s9, g8, l7.mono l8, d8, f9, fun m9 H9 σ9 l9 g9 er9 o9 => ⟨wipe_off o9 hw1, ?_⟩⟩
              refine ⟨p :: r, m9, s9, e9, b1, s10, g9, er9, f12, fun m10 H10 l10 g10 => ?_⟩
              have lC : Le m7 H7 m10 H10 := (l8.trans l9).trans l10
              have hP10 : H10 p = some (.lst acc7) := lC.keep p _ hP7 np7
              have np10 : p ∉ m10 := lC.out1 hP7 np7
              cases b1 with
              | true =>
                obtain ⟨⟨y2, s11⟩, f14, f15⟩ := Option.bind_eq_some_iff.mp f13
                obtain ⟨⟨out2, s12⟩, f16, f17⟩ := Option.map_eq_some_iff.mp f15
                cases f17
                refine iteT ?_
                refine ⟨p :: r, m10, s10, e9, y2, s11, g10, er9.mono l10, f14, fun m11 H11 v11 l11 g11 d11 => ?_⟩
                have lD : Le m7 H7 m11 H11 := lC.trans l11
                have hP11 : H11 p = some (.lst acc7) := lD.keep p _ hP7 np7
                have np11 : p ∉ m11 := lD.out1 hP7 np7
                have hz2 : acc7.length < sizeLine := by
                  have q1 := congrArg List.length ej
                  have q2 := dacc7.len
                  simp only [List.length_append, List.length_cons] at q1 hz1
                  omega
                refine ⟨acc7, hP11, hz2, m11, s11, acc7 ++ [v11], dn7 ++ [y2], out2, ?_, le_res (l17.trans lD) hp, ?_, np11, upd_same, ?_, f16, ?_⟩
                · exact (l7.mono lD).same (same_upd np11)
                · refine g11.same (same_upd np11) (fun a ha e => ?_) fun a xs ha e => ?_
                  · by_cases q : a = p
                    · rw [q, upd_same] at e
                      cases e
                    · rw [upd_ne q] at e
                      exact g11.res a ha e
                  · rw [upd_ne (fun z => np11 (by rw [← z]; exact ha))]
                    exact e
                · exact ((dacc7.mono lD).append (Dens.one d11)).same (same_upd np11)
                · rw [List.append_assoc]
                  exact ej
              | false =>
                refine iteF ?_
                exact ⟨m10, s10, acc7, dn7, rest7, l7.mono lC, l17.trans lC, g10, np10, hP10, dacc7.mono lC, f13, ej⟩
            · cases fj
          · have hz3 : j = ds1.length := by omega
            subst hz3
            rw [List.drop_length] at fj
            unfold lcL at fj
            split at fj
            · next hc1 =>
              cases fj
              rw [List.append_nil] at ej
              subst ej
              exact .inl ⟨(S1 m7 H7).stop _ m7 H7 _ (rr _) (Le.refl _ _) g7 hc1, m7, _, acc7, dn ++ o1, out', l17, g7, np7, hP7, dacc7, f10, by rw [List.append_assoc]; exact eo⟩
            · cases fj
        | false =>
          refine iteF ?_
          exact ⟨m5, s4, acc, dn, rest, l2.trans lA, g5, np5, hP5, dacc.mono lA, f5, eo⟩
      · cases f2
    · have hz : i = ds.length := by omega
      subst hz
      rw [List.drop_length] at f2
      unfold lcL2 at f2
      split at f2
      · next hc =>
        cases f2
        rw [List.append_nil] at eo
        subst eo
        refine .inl ⟨S.stop _ m2 H2 _ hr l2 g2 hc, fin m2 H2 acc l2 g2 np hP ?_ dacc⟩
        rw [← dacc.len]
        assumption
      · cases f2
theorem t_lc2 {Q : VK} {src src1 : DI} {tg tg1 : DG} {ifs ifs1 : DB} {elt : DE} {vs vs1 ws : List Nat} (hw : ∀ i ∈ ws, i ∈ vs) (h : tE K (eLc2 vs vs1 src tg ifs src1 tg1 ifs1 elt) σ H Q) : tLc2 (tI K src) (tG K ws tg) (tBo K ifs) (tIR K src1) (tG K vs1 tg1) (tBo K ifs1) (tE K elt) vs vs1 σ H Q := by
  obtain ⟨r, m, st, env, d, st', g, e, f, q⟩ := h
  unfold eLc2 at f
  obtain ⟨⟨⟨chk, ds⟩, s1⟩, f1, f⟩ := Option.bind_eq_some_iff.mp f
  obtain ⟨⟨out, s2⟩, f2, f⟩ := Option.bind_eq_some_iff.mp f
  split at f
  · next hf =>
    cases f
    refine ⟨r, m, st, env, chk, ds, s1, g, e, f1, fun m1 H1 J l1 g1 S p hp => ?_⟩
    refine lc_run2 S g1 (e.mono l1) f2 (fits_line hf) hp hw (fun _ z => z) fun m2 H2 acc l2 g2 np hP hz dd => ?_
    have g3 : Good K r m2 s2 H2 := g2.same same_drop (fun a ha => g2.res a (List.mem_cons_of_mem _ ha)) fun _ _ _ e => e
    exact q m2 H2 (.ref p) (l1.trans l2) g3 ⟨p, acc, rfl, hP, ⟨np, (g1.fresh hp).2⟩, hz, dd.same same_drop⟩
  · cases f
theorem t_mlc {Q : VK} {src : DI} {tg : DG} {ifs : DB} {elt : DE} {vs ws : List Nat} (hw : ∀ i ∈ ws, i ∈ vs) (h : tE K (eMLc vs src tg ifs elt) σ H Q) : tLc (tI K src) (tG K ws tg) (tBo K ifs) (tE K elt) vs σ H Q := by
  obtain ⟨r, m, st, env, d, st', g, e, f, q⟩ := h
  unfold eMLc at f
  obtain ⟨⟨⟨chk, ds⟩, s1⟩, f1, f⟩ := Option.bind_eq_some_iff.mp f
  obtain ⟨⟨out, s2⟩, f2, f⟩ := Option.map_eq_some_iff.mp f
  cases f
  refine ⟨r, m, st, env, chk, ds, s1, g, e, f1, fun m1 H1 J l1 g1 S p hp => ?_⟩
  refine lc_run S g1 (e.mono l1) f2 hp hw fun m2 H2 acc l2 g2 np hP hz dd => ?_
  have lT : Le m H m2 H2 := l1.trans l2
  have hp0 : H p = none := l1.there p hp
  refine q (m2 ++ [p]) H2 (.ref p) ⟨?_, lT.keep, lT.there, lT.kind⟩ ⟨?_, ?_, fun a ha => g2.res a (List.mem_cons_of_mem _ ha), fun i a c e1 e2 => ?_⟩ ⟨p, rfl, ?_, acc, hP⟩
  · obtain ⟨t, e1, e2⟩ := lT.ext
    refine ⟨t ++ [p], by rw [e1, List.append_assoc], fun a ha => ?_⟩
    rcases List.mem_append.mp ha with z | z
    · exact e2 a z
    · rw [List.mem_singleton.mp z]
      exact hp0
  · rw [List.length_append, List.length_append, g2.len]
    rfl
  · rw [List.nodup_append]
    refine ⟨g2.nd, by simp, fun a ha b hb => ?_⟩
    rw [List.mem_singleton.mp hb]
    intro e0
    rw [e0] at ha
    exact np ha
  · by_cases hi : i < m2.length
    · rw [List.getElem?_append_left hi] at e1
      rw [List.getElem?_append_left (by rw [← g2.len]; exact hi)] at e2
      exact (g2.cell i a c e1 e2).imp (fun _ q => q) fun _ _ q => q.same same_adopt
    · have hm : m2.length ≤ i := Nat.le_of_not_lt hi
      rw [List.getElem?_append_right hm] at e1
      rw [List.getElem?_append_right (by rw [← g2.len]; exact hm)] at e2
      have hz0 : i - m2.length = 0 := by
        have := (List.getElem?_eq_some_iff.mp e1).1
        simp at this
        omega
      rw [hz0] at e1
      rw [← g2.len, hz0] at e2
      simp at e1 e2
      subst e1 e2
      exact CellR.ofList hP hz (dd.same same_adopt)
  · rw [← g2.len, List.getElem?_append_right (Nat.le_refl _), Nat.sub_self]
    rfl
end
end Tg
namespace Tg
open PySem PySem.Spec PyProof.Rows L2
structure FnG (P : Program) (w : World) (K : Fg) (mg : Str → Option Value) (base : Heap) (k : Nat) (f : Addr) (fd : FuncData) (ps : List Str) (sp : List V → Hp → VK → Prop) : Prop where
  len : ∀ vs H Q, sp vs H Q → vs.length = ps.length
  run : ∀ (A : Around) (outer : List Env) (s : Shared) (H : Hp) (args : Args) (us : List Value) (vs : List V) (Q : VK), A.guards = some [] → Room k A →
    Env0 P w K mg base A outer s H → BindsTo s fd args (ps.zip us) → Vals vs us → sp vs H Q →
    codeAny (model P w) A (.call (.ref f) args) (CR CX0 outer P w H s Q E0) s
theorem FnG.up {P : Program} {w : World} {K : Fg} {mg : Str → Option Value} {base : Heap} {j k : Nat} {f : Addr} {fd : FuncData} {ps : List Str} {sp : List V → Hp → VK → Prop}
    (F : FnG P w K mg base j f fd ps sp) (h : j ≤ k) : FnG P w K mg base k f fd ps sp :=
  ⟨F.len, fun A o s H ar us vs Q g rm => F.run A o s H ar us vs Q g (rm.mono h)⟩
theorem FnG.imp {P : Program} {w : World} {K : Fg} {mg : Str → Option Value} {base : Heap} {k : Nat} {f : Addr} {fd : FuncData} {ps : List Str} {sp sp' : List V → Hp → VK → Prop}
    (F : FnG P w K mg base k f fd ps sp) (h : ∀ vs H Q, sp' vs H Q → sp vs H Q) : FnG P w K mg base k f fd ps sp' :=
  ⟨fun vs H Q q => F.len vs H Q (h _ _ _ q), fun A o s H ar us vs Q g rm e b r q => F.run A o s H ar us vs Q g rm e b r (h _ _ _ q)⟩
section
variable {X : Cx} {k : Nat} {f : Addr} {fd : FuncData} {ps : List Str} {sp : List V → Hp → VK → Prop}
theorem call_g {pins : List (Addr × Obj)} {σ : L2.St} {H : Hp} {s : Shared} {Q : VK} {us : List Value} {vs : List V} (F : FnG X.prog X.w X.K X.mg X.base k f fd ps sp)
    (gd : X.A.guards = some []) (rm : Room k X.A) (hb : Binds X.K fd ps []) (I : Inv X pins σ H s) (rv : Vals vs us) (h : sp vs H Q) :
    wpAny (model X.prog X.w) X.A (call (.ref f) us) (EP X pins σ Q) X.xe s := by
  have hl : (us ++ []).length = ps.length := by
    rw [List.append_nil, ← rv.length]
    exact F.len _ _ _ h
  have hB := hb s us I.kIn hl
  rw [List.append_nil] at hB
  refine wpAny_call (codeAny_mono (F.run X.A X.stack s H _ us vs Q gd rm I.env0 hB rv h) fun res s2 q => ?_)
  match res, q with
  | .ok (.ret u), q => exact I.after q
  | .ok .next, q => exact False.elim q
  | .ok .brk, q => exact False.elim q
  | .ok .cont, q => exact False.elim q
  | .error e, q => exact False.elim q
def tCallG (sp : List V → Hp → VK → Prop) (t : TA) : TE := fun σ H Q => t σ H fun vs H1 => sp vs H1 Q
theorem pe_callG {x : Str} {p pos : Pos} {e : Expr} {es : List Expr} {t : TA} (F : FnG X.prog X.w X.K X.mg X.base k f fd ps sp) (gd : X.A.guards = some []) (rm : Room k X.A) (hg : Gl X x)
    (hm : X.mg x = some (.ref f)) (hk : PySem.W.keepIn X.K (.ref f) = true) (hb : Binds X.K fd ps []) (ha : PA X (e :: es) t) (hdb : (x == ("__debug__" : Str)) = false)
    (he : starEach (e :: es) X.env = (false, eval e X.env) :: starEach es X.env) (hpl : (backTo pos (starEach es X.env)).any (·.1) = false) :
    PE X (.Call (.Name x p) (e :: es) [] pos) (tCallG sp t) :=
  ⟨fun pins s σ H Q I h => wpAny_Call_Name_kw (ld_glob I hg hm
    (PySem.W.callWith_K (h₀ := X.base) I.ok.mod.kin hk (thn (ha.run pos pins s σ H _ I h) fun us s1 ⟨vs, H1, I1, rv, q⟩ => ⟨I1.kIn, call_g F gd rm hb I1 rv q⟩) he hpl) hdb)⟩
theorem pe_callG0 {x : Str} {p pos : Pos} (F : FnG X.prog X.w X.K X.mg X.base k f fd ps sp) (gd : X.A.guards = some []) (rm : Room k X.A) (hg : Gl X x)
    (hm : X.mg x = some (.ref f)) (hk : PySem.W.keepIn X.K (.ref f) = true) (hb : Binds X.K fd ps []) (hdb : (x == ("__debug__" : Str)) = false) :
    PE X (.Call (.Name x p) [] [] pos) (tCallG sp tNil) :=
  ⟨fun pins s σ H Q I h => wpAny_Call_Name_kw (ld_glob I hg hm (PySem.W.callWith_K0 I.kIn hk (call_g (us := []) F gd rm hb I .nil h)) hdb)⟩
end
/-- a def of the text keeps a promise, by its body -/
theorem fn_g {P : Program} {w : World} {K : Fg} {mg : Str → Option Value} {base : Heap} {k : Nat} {f : Addr} {x qual : Str} {params : Arguments} {body : List Stmt} {scope : Scope} {dvs : List V} {kws : List (Str × V)} {fd : FuncData} {N ps : List Str} {sp : List V → Hp → VK → Prop}
    (F : FunD K x qual params body scope dvs kws f fd) (S : FnScope N ps scope) (len : ∀ vs H Q, sp vs H Q → vs.length = ps.length)
    (hbody : ∀ (cdv : Value) (A : Around) (outer : List Env) (s : Shared) (H : Hp) (vs : List V) (Q : VK), A.guards = some [] → Room k (A.deeper (envOfC qual scope s.heap.objs.size f cdv)) → sp vs H Q →
      ∃ t, PSs (cxOf CX0 P w K mg base N qual scope f cdv A outer s H E0).nox body t ∧ t { nx := fun _ H' => Q .non H', rt := Q } (L2.start N vs) H) :
    FnG P w K mg base (k + 1) f fd ps sp := by
  obtain ⟨oc, od, dV, kV, doc, pm, an, cdv, ct, osl, rfl, lk, hcd, _, _⟩ := F.ex
  constructor
  · exact len
  · intro A outer s H args us vs Q gd rm e0 hb rv q
    have hl := len _ _ _ q
    have old : ∀ b o, base.get? b = some o → s.heap.get? b = some o := fun b o e => (e0.bs b o e).1
    have KX := e0.mod.kin.keeps old
    have hkind : ∀ y ∈ ps.zip us, scope.names.lookup y.1 = some .local ∨
        (scope.names.lookup y.1 = some .cell ∧ ((cellsFrom (s.heap.objs.size + 1) scope.names []).lookup y.1).isSome = true) := by
      rintro ⟨n, v⟩ hy
      exact (S.par n (List.of_mem_zip hy).1).imp id fun z => ⟨z, PySem.W.cellsFrom_some _ _ _ (.inl z)⟩
    refine codeAny_call_function rm.depth (KX _ _ lk) rfl S.co S.gen rfl (PySem.W.codeRec_of KX hcd) (hb _ _ _ _ ?_)
    refine wpAny_newFunctionEnv_cells S.kind hkind ?_
    rintro env rfl s1 inc
    refine ⟨(e0.mod.nolimit.keeps old).keeps inc.toInCall.keep, codeAny_func ?_⟩
    obtain ⟨t, ht, hq⟩ := hbody cdv A outer s H vs Q gd (rm.deeper _) q
    have I0 : Inv (cxOf CX0 P w K mg base N qual scope f cdv A outer s H E0) [] (L2.start N vs) H s1 := inv_start S rm.hd e0 hl rv inc
    refine wpAny_mono (ht.nox.run [] s1 _ H _ I0 hq) (fun fl s2 h2 => ?_) fun _ _ z => z
    match fl, h2 with
    | .ret u, ⟨v, σ', H', J, ru, q2⟩ => exact ⟨v, H', J.os, J.bare, J.base, J.hok, ru, q2⟩
    | .next, ⟨σ', H', J, q2⟩ => exact ⟨.non, H', J.os, J.bare, J.base, J.hok, rfl, q2⟩
    | .brk, ⟨_, _, _, z⟩ => exact False.elim z
    | .cont, ⟨_, _, _, z⟩ => exact False.elim z
/-- the law's call -/
theorem law_g {P : Program} {w : World} {K : Fg} {mg mb : Str → Option Value} {k : Nat} {fa a : Addr} {fd : FuncData} {x : Str} {sp : List V → Hp → VK → Prop} {s1 : Shared} {vs : List Value} {ns : List Int}
    (KX : K.In s1.heap) (hns : s1.heap.Ns mainGlobals mg) (hb : s1.heap.Ns builtinsNs mb) (hbb : ∀ x : Str, x ≠ "__name__" → mb x = bootBuiltins x) (hlim : s1.heap.NoLimit) (hg : s1.gens = #[])
    (ha : s1.heap.get? a = some { cls := .type "list", data := .seq vs.toArray }) (hi : IntsAre vs ns) (hl : ns.length ≤ sizeLine) (rm : Room k callerA)
    (F : ∀ base : Heap, K.In base → base.Ns mainGlobals mg → FnG P w K mg base k fa fd [x] sp) (hbind : BindsTo s1 fd ⟨[.ref a], []⟩ [(x, .ref a)])
    (hsp : ∀ H : Hp, SqL K H a (ns.map V.int) → sp [.ref a] H (fun v _ => v = .bl true)) :
    codeAny (model P w) callerA (.call (.ref fa) ⟨[.ref a], []⟩) (fun r s' => r = .ok (.ret (.bool true)) ∧ OldK s1.heap s'.heap ∧ s'.os = s1.os ∧ AllBare s'.gens) s1 := by
  have rv : Vals (ns.map V.int) vs := vals_ints hi
  -- nothing is tracked but, where it is none of the module's own objects, the script
  suffices h : ∀ H : Hp, (∀ b u, H b = some u → b = a ∧ K.lookup a = none ∧ ∃ o xs, u = .frz o (.lst xs)) → SqL K H a (ns.map V.int) → HOk P w H s1.heap →
      codeAny (model P w) callerA (.call (.ref fa) ⟨[.ref a], []⟩) (fun r s' => r = .ok (.ret (.bool true)) ∧ OldK s1.heap s'.heap ∧ s'.os = s1.os ∧ AllBare s'.gens) s1 by
    cases hk : K.lookup a with
    | some o =>
      have e0 := KX a o hk
      rw [ha] at e0
      cases e0
      refine h (fun _ => none) (fun b u z => nomatch z) (.inr ⟨_, vs.toArray, _, hk, rfl, rfl, rfl, ?_, by simpa using rv⟩) fun b u z => nomatch z
      rw [List.size_toArray, hi.length]
      exact hl
    | none =>
      have z : (ns.map V.int).length ≤ sizeLine := by rw [List.length_map]; exact hl
      refine h (fun b => if b = a then some (.frz { cls := .type "list", data := .seq vs.toArray } (.lst (ns.map V.int))) else none) ?_ (.inl (.inr ⟨_, if_pos rfl⟩)) ?_
      · intro b u e
        split at e
        · next hb => cases e; exact ⟨hb, hk, _, _, rfl⟩
        · cases e
      · intro b u e
        dsimp only at e
        split at e
        · next hb => cases e; subst hb; exact ⟨ha, z, vs, _, rv, ha⟩
        · cases e
  intro H only hS hok
  -- what is not tracked
  have get0 : ∀ {b : Addr} {o : Obj}, s1.heap.get? b = some o → (b = a → H b = none) → (hidT s1.heap H).get? b = some o := fun {b o} e n => hidT_get e (by
    cases q : H b with
    | none => rfl
    | some u => rw [n (only b u q).1] at q; cases q)
  have nsK : ∀ {b : Addr} {m : Str → Option Value}, s1.heap.Ns b m → (hidT s1.heap H).Ns b m := fun {b m} ⟨o, es, ep, e, d, r⟩ => ⟨o, es, ep, get0 e (fun z => by
    subst z
    rw [ha] at e
    cases e
    cases d), d, r⟩
  have kB : K.In (hidT s1.heap H) := fun b o e => get0 (KX b o e) fun z => by
    cases q : H b with
    | none => rfl
    | some u => rw [z, (only b u q).2.1] at e; cases e
  have mB : Mod K mg (hidT s1.heap H) := ⟨kB, nsK hns, ⟨mb, nsK hb, hbb⟩, by
    obtain ⟨mc, h1, h2⟩ := hlim
    exact ⟨mc, nsK h1, h2⟩⟩
  have e0 : Env0 P w K mg (hidT s1.heap H) callerA [] s1 H := by
    refine ⟨rfl, mB, fun b o e => of_hidT e, Nat.le_of_eq (hidT_size _ _), trivial, ?_, hok, .of_eq hg⟩
    intro b z
    exact absurd (show b ∈ ([] : List Addr) from z) List.not_mem_nil
  have rs : Vals [V.ref a] [Value.ref a] := .cons rfl .nil
  refine codeAny_mono ((F _ kB (nsK hns)).run callerA [] s1 H _ [.ref a] [.ref a] _ rfl rm e0 hbind rs (hsp H hS)) fun res s2 q => ?_
  match res, q with
  | .error e, q => exact False.elim q
  | .ok .next, q => exact False.elim q
  | .ok .brk, q => exact False.elim q
  | .ok .cont, q => exact False.elim q
  | .ok (.ret u), ⟨v, H', os, bare, un, hok2, ru, qv⟩ =>
    cases (show v = .bl true from qv)
    cases (show u = Value.bool true from ru)
    refine ⟨rfl, OldK.of_keep fun b o e => ?_, os, bare⟩
    cases z : H b with
    | none =>
      refine un.keep b o e z ?_ List.not_mem_nil
      intro y
      exact absurd (show b ∈ ([] : List Addr) from y) List.not_mem_nil
    | some t =>
      obtain ⟨_, _, ob, xs, rfl⟩ := only b t z
      have e1 : s1.heap.get? b = some ob := (hok b _ z).1
      have e2 : s2.heap.get? b = some ob := (hok2 b _ (un.frzs b ob _ z)).1
      rw [e] at e1
      cases e1
      exact e2
end Tg
namespace Tg
open PySem PySem.Spec PyProof.Rows L2
/-- a list or a tuple -/
inductive Kd | l | t
namespace Kd
def sq (K : Fg) : Kd → Hp → Addr → List V → Prop
  | .l => SqL K
  | .t => SqT K
def holds : Kd → Heap → Addr → Array Value → Prop
  | .l, h => h.IsList
  | .t, h => h.IsTuple
def itr : Kd → Heap → Addr → Addr → Nat → Prop
  | .l, h => h.IsListIter
  | .t, h => h.IsTupleIter
def obj : Kd → Addr → Obj
  | .l, a => { cls := .type "list_iterator", data := .fields #[.ref a, .int 0 0] }
  | .t, a => { cls := .type "tuple_iterator", data := .fields #[.ref a, .int 0 0] }
theorem draws (k : Kd) {prog : Program} {w : World} {A : Around} (hh : A.handled = none) (it a : Addr) (hne : a ≠ it) (items : Array Value) :
    PySem.Draws prog w A it [it, a] items.size (fun i v => items[i]? = some v) (fun i h => k.itr h it a i ∧ k.holds h a items) := by
  cases k with
  | l => exact .list hh it a hne items
  | t => exact .tuple hh it a hne items
theorem starts (k : Kd) (a : Addr) (items : Array Value) : Begins (.ref a) (k.obj a) fun h => k.holds h a items := by
  cases k with
  | l => exact begins_list a items
  | t => exact begins_tuple a items
theorem itr0 (k : Kd) {h : Heap} {it a : Addr} (e : h.get? it = some (k.obj a)) : k.itr h it a 0 := by
  cases k with
  | l => exact ⟨_, e, rfl, rfl⟩
  | t => exact ⟨_, e, rfl, rfl⟩
theorem itr_obj (k : Kd) {h : Heap} {it a : Addr} {i : Nat} (e : k.itr h it a i) : ∃ o, h.get? it = some o ∧ ∀ v, o.data ≠ .cell v := by
  cases k with
  | l => obtain ⟨o, q, _, d⟩ := e; exact ⟨o, q, fun v z => by rw [d] at z; cases z⟩
  | t => obtain ⟨o, q, _, d⟩ := e; exact ⟨o, q, fun v z => by rw [d] at z; cases z⟩
theorem itr_at (k : Kd) {h h' : Heap} {it a : Addr} {i : Nat} (e : k.itr h it a i) (q : ∀ o, h.get? it = some o → h'.get? it = some o) : k.itr h' it a i := by
  cases k with
  | l => exact Heap.IsListIter.at e q
  | t => exact Heap.IsTupleIter.at e q
theorem lt (k : Kd) {h : Heap} {a : Addr} {xs : Array Value} (e : k.holds h a xs) : a < h.objs.size := by
  cases k with
  | l => obtain ⟨o, q, _⟩ := e; exact Heap.lt_size q
  | t => obtain ⟨o, q, _⟩ := e; exact Heap.lt_size q
section
variable {X : Cx} {pins : List (Addr × Obj)} {σ : L2.St} {H : Hp} {s : Shared} {a : Addr} {xs ys : List V}
theorem inv (k : Kd) (I : Inv X pins σ H s) (h : k.sq X.K H a xs) : ∃ its : List Value, Vals xs its ∧ k.holds s.heap a its.toArray := by
  cases k with
  | l => obtain ⟨its, rv, p, _⟩ := I.list h; exact ⟨its, rv, p.isList⟩
  | t => obtain ⟨its, rv, p, _⟩ := I.tuple h; exact ⟨its, rv, p⟩
theorem inj (k : Kd) (I : Inv X pins σ H s) (h : k.sq X.K H a xs) (h2 : k.sq X.K H a ys) : ys = xs := by
  cases k with
  | l => exact I.list_inj h2 h
  | t => exact I.tuple_inj h2 h
end
end Kd
def ItE (K : Fg) (k : Kd) (a : Addr) : It where
  go i H := ∃ (xs : List V) (x : V), k.sq K H a xs ∧ xs[i]? = some x
  yld i H v H' := ∃ T x, v = .ref T ∧ H T = none ∧ H' = upd H T (.tup [.int (i : Nat), x]) ∧ ∀ xs, k.sq K H a xs → xs[i]? = some x
  stop i H := ∃ xs : List V, k.sq K H a xs ∧ xs.length = i
theorem new_ok {P : Program} {w : World} {H : Hp} {h : Heap} {T : Addr} {vs : List V} {us : List Value} (hT : h.get? T = some { cls := .type "tuple", data := .seq us.toArray }) (rv : Vals vs us) (hl : vs.length ≤ 100) :
    ObjOk P w (upd H T (.tup vs)) h T (.tup vs) := by
  refine ⟨Nat.le_trans hl (by decide), us, rv, ?_⟩
  exact ⟨_, hT, rfl, _, rfl⟩
theorem turn_en {P : Program} {w : World} {K : Fg} {elts : List Expr} {kk : Nat} {tpos : Pos} (k : Kd) {a e it : Addr} (hei : e ≠ it) (hae : a ≠ e) (hai : a ≠ it) :
    Turn P w K (.Tuple elts kk tpos) (ItE K k a) [e, it] e (fun i h => (∃ old, IsEnum h e it ((i : Nat) : Int) old) ∧ k.itr h it a i) where
  mem := List.mem_cons_self
  obj := by
    rintro i h ⟨⟨old, he⟩, hi⟩ b hb
    simp only [List.mem_cons, List.not_mem_nil, or_false] at hb
    rcases hb with rfl | rfl
    · exact ⟨_, he, fun v q => nomatch q⟩
    · exact k.itr_obj hi
  keep := by
    rintro i h h' ⟨⟨old, he⟩, hi⟩ hk
    exact ⟨⟨old, hk e List.mem_cons_self _ he⟩, k.itr_at hi fun o q => hk it (by simp) o q⟩
  item := by
    rintro X rfl rfl rfl hc i pins s σ H E I hf ⟨⟨old, he⟩, hi⟩ ⟨xs, x, hq, hx⟩
    obtain ⟨its, rv, p⟩ := k.inv I hq
    obtain ⟨u, hu, ru⟩ := rv.get hx
    have el : e < s.heap.objs.size := Heap.lt_size he
    have il : it < s.heap.objs.size := by obtain ⟨_, q, _⟩ := k.itr_obj hi; exact Heap.lt_size q
    have dd := k.draws (prog := X.prog) (w := X.w) (A := X.A.in1) (I.ok.hd hc) it a hai its.toArray
    have iz : i < its.toArray.size := by
      have := (List.getElem?_eq_some_iff.mp hu).1
      simpa using this
    refine wpAny_pyNext_enum_itemD dd he ⟨hi, p⟩ iz hei (by simp [hei, hae.symm]) fun y h1 tk hy ho hst hT hsz hk => ?_
    obtain rfl : y = u := by
      have hy : its.toArray[i]? = some y := hy
      rw [List.getElem?_toArray, hu] at hy
      cases hy
      rfl
    refine ⟨_, rfl, wpAny_letOwnedTupleGo_enum (s := ⟨h1, s.gens, s.drawn, tk + 1, s.os⟩) ho fun h2 he2 sb => ?_⟩
    have hT2 : h2.get? s.heap.objs.size = some { cls := .type "tuple", data := .seq [.int i tk, y].toArray } := (sb.2 _ (Nat.ne_of_gt el)).trans hT
    have nw := new_ok (P := X.prog) (w := X.w) (H := H) (vs := [.int (i : Nat), x]) hT2 (.cons ⟨_, rfl⟩ (.cons ru .nil)) (by simp)
    have I1 := I.turnedNew (t' := tk + 1) (ch := [e, it]) (h' := h2) (fun b ob hb q => by
      have hbe : b ≠ e := fun z => hb (by simp [z])
      have hbi : b ≠ it := fun z => hb (by simp [z])
      exact (sb.2 b hbe).trans (hk b ob hbe hbi q)) hf (Nat.le_refl _) nw
    refine ⟨.ref s.heap.objs.size, _, I1, rfl, ⟨_, x, rfl, I.hok.fresh (Nat.le_refl _), rfl, fun ys hy => by rw [k.inj I hq hy]; exact hx⟩, ⟨⟨y, ?_⟩, ?_⟩, ?_⟩
    · rw [show ((i + 1 : Nat) : Int) = (i : Int) + 1 by omega]
      exact he2
    · exact k.itr_at hst.1 fun o q => (sb.2 it hei.symm).trans q
    · intro b hb
      have bl : b < s.heap.objs.size := by
        simp only [List.mem_cons, List.not_mem_nil, or_false] at hb
        rcases hb with rfl | rfl <;> assumption
      rw [upd_ne (Nat.ne_of_lt bl)]
      exact (hf b hb).1
  done := by
    rintro X rfl rfl rfl hc i pins s σ H E I hf ⟨⟨old, he⟩, hi⟩ ⟨xs, hq, hx⟩
    obtain ⟨its, rv, p⟩ := k.inv I hq
    have dd := k.draws (prog := X.prog) (w := X.w) (A := X.A.in1) (I.ok.hd hc) it a hai its.toArray
    have hn : its.toArray.size = i := by
      rw [← hx, rv.length]
      simp
    refine wpAny_pyNext_enum_endD dd he (by rw [hn]; exact ⟨hi, p⟩) fun h1 eb => ⟨rfl, ?_⟩
    exact I.turnedL (t' := s.toks) (ch := [e, it]) (fun b o hb q => eb b o (fun z => hb (by simp [z])) q) hf
  self := by
    rintro A i s Q E ⟨⟨old, he⟩, hi⟩ h
    exact wpAny_pyIter_enum he h
end Tg
namespace Tg
open PySem PySem.Spec PyProof.Rows L2
abbrev enObj (b : Addr) : Obj := { cls := .type "enumerate", data := .fields #[.none, .bool false, .ref b, rawInt 0, .none, .none] }
set_option maxHeartbeats 8000000 in
theorem en_new {v : Value} {o : Obj} {G : Heap → Prop} (B : Begins v o G) :
    Meets (Builtin.«enumerate.__new__» ⟨[.type "enumerate", v], []⟩) (fun _ R s => G s.heap ∧ R (.ok (.ret (.ref (s.heap.push o).objs.size))) { s with heap := (s.heap.push o).push (enObj s.heap.objs.size) }) := by
  refine .of_wp ?_
  rintro prog w A R ⟨hp, g, d, tk, os⟩ ⟨h1, h⟩
  have hsub := sub_enumerate
  have go : ∀ {A2 : Around} {E2 : Value → Shared → Prop} {Q2 : Value → Shared → Prop}, Q2 (.ref hp.objs.size) ⟨hp.push o, g, d, tk, os⟩ → wpAny (model prog w) A2 (pyIter v) Q2 E2 ⟨hp, g, d, tk, os⟩ :=
    fun q => B.iter prog w _ _ ⟨hp, g, d, tk, os⟩ _ h1 q
  wp_walk using go
  refine wpAny_stack_any ?_
  intro st
  refine wpAny_pure ?_
  split
  · next c _ _ _ _ _ =>
    rcases Bool.eq_false_or_eq_true (c == Value.type "enumerate") with z | z
    all_goals
      rw [z]
      wp_walk using go
      exact ⟨_, rfl, h⟩
  · wp_walk using go
    exact ⟨_, rfl, h⟩
theorem en_call {prog : Program} {w : World} {A : Around} {E : Value → Shared → Prop} {s : Shared} {v : Value} {o : Obj} {G : Heap → Prop} {Q : Value → Shared → Prop} (B : Begins v o G) (h1 : G s.heap)
    (h : ∀ h2, IsEnum h2 (s.heap.objs.size + 1) s.heap.objs.size 0 .none → h2.get? s.heap.objs.size = some o → (∀ b ob, s.heap.get? b = some ob → h2.get? b = some ob) → Q (.ref (s.heap.objs.size + 1)) { s with heap := h2 }) :
    wpAny (model prog w) A (call (.type "enumerate") [v]) Q E s := by
  refine callType_new F.called_enumerate (by decide) (F.typeCall_enumerate_1 _) (F.newCall_enumerate_1 _) (fun ob => F.args_object_init_2 ob _) F.entry_enumerate_new (en_new B) ⟨h1, ?_⟩
  have z : (s.heap.push o).objs.size = s.heap.objs.size + 1 := Heap.size_push ..
  have g0 := Heap.get?_push_size (s.heap.push o) (o := enObj s.heap.objs.size) rfl
  rw [z] at g0
  show _ ∧ _
  rw [z]
  exact ⟨⟨_, g0, rfl⟩, h _ g0 (Heap.get?_push_of_some _ (Heap.get?_push_size _ B.free)) fun b ob q => Heap.get?_push_of_some _ (Heap.get?_push_of_some _ q)⟩
def iEnK (K : Fg) (ta : TA) : TI := fun σ H R => ta σ H fun vs H1 => ∃ (k : Kd) (a : Addr) (xs : List V), vs = [.ref a] ∧ k.sq K H1 a xs ∧ R (ItE K k a) H1
theorem pi_enK {X : Cx} {e : Expr} {ta : TA} {p pos tpos : Pos} {elts : List Expr} {kk : Nat} (hg : Gl X "enumerate") (hm : X.mg "enumerate" = none) (ha : PA X [e] ta) (hs : starEach [e] X.env = [(false, eval e X.env)]) :
    PI X (.Tuple elts kk tpos) (.Call (.Name "enumerate" p) [e] [] pos) (iEnK X.K ta) := by
  refine ⟨fun pins s σ H R I h => ?_⟩
  refine Call_ (ld_blt I hg hm boot_enumerate (PyProof.Rows.callWith_type1 (thn (ha.run pos pins s σ H _ I h) ?_) hs rfl))
  rintro us s1 ⟨vs, H1, I1, r1, k, a, xs, rfl, hq, q⟩
  cases r1 with
  | cons r rr =>
    cases rr
    cases r
    obtain ⟨its, rv, p'⟩ := k.inv I1 hq
    have al := k.lt p'
    refine en_call (k.starts a its.toArray) p' fun h2 he ho hk => wpAny_pyIter_enum he ?_
    have I2 : Inv X pins σ H1 { s1 with heap := h2 } := I1.kept (t' := s1.toks) hk
    refine ⟨s1.heap.objs.size + 1, [s1.heap.objs.size + 1, s1.heap.objs.size], _, _, H1, rfl, I2, turn_en k (a := a) (Nat.succ_ne_self _) ?_ ?_, ⟨⟨.none, he⟩, k.itr0 ho⟩, ?_, q⟩
    · exact Nat.ne_of_lt (Nat.lt_succ_of_lt al)
    · exact Nat.ne_of_lt al
    · intro b hb
      have hle : s1.heap.objs.size ≤ b := by
        simp only [List.mem_cons, List.not_mem_nil, or_false] at hb
        rcases hb with rfl | rfl
        · exact Nat.le_succ _
        · exact Nat.le_refl _
      exact I1.fpOk hle (I1.hok.fresh hle)
def ItZ (K : Fg) (k1 k2 : Kd) (a b : Addr) : It where
  go i H := ∃ (xs ys : List V) (x y : V), k1.sq K H a xs ∧ k2.sq K H b ys ∧ xs[i]? = some x ∧ ys[i]? = some y
  yld i H v H' := ∃ T x y, v = .ref T ∧ H T = none ∧ H' = upd H T (.tup [x, y]) ∧ (∀ xs, k1.sq K H a xs → xs[i]? = some x) ∧ ∀ ys, k2.sq K H b ys → ys[i]? = some y
  stop i H := ∃ xs ys : List V, k1.sq K H a xs ∧ k2.sq K H b ys ∧ i ≤ xs.length ∧ i ≤ ys.length ∧ (i = xs.length ∨ i = ys.length)
theorem sz_lt {its : List Value} {i : Nat} {u : Value} (hu : its[i]? = some u) : i < its.toArray.size := by
  have := (List.getElem?_eq_some_iff.mp hu).1
  simpa using this
theorem arr_get {its : List Value} {i : Nat} {u y : Value} (hu : its[i]? = some u) (hy : its.toArray[i]? = some y) : y = u := by
  rw [List.getElem?_toArray, hu] at hy
  cases hy
  rfl
theorem turn_z2 {P : Program} {w : World} {K : Fg} {elts : List Expr} {kk : Nat} {tpos : Pos} (k1 k2 : Kd) {a b z TI TO i1 i2 : Addr} (S : ZipSep2 z TI TO i1 i2 [i1, a] [i2, b]) (n1 : a ≠ i1) (n2 : b ≠ i2) :
    Turn P w K (.Tuple elts kk tpos) (ItZ K k1 k2 a b) [z, TI, TO, i1, i2] z (fun i h => IsZip h z TI TO .none ∧ IsTupOf2 h TI (.ref i1) (.ref i2) ∧ (∃ x y, IsTupOf2 h TO x y) ∧ k1.itr h i1 a i ∧ k2.itr h i2 b i) where
  mem := List.mem_cons_self
  obj := by
    rintro i h ⟨hz, hTI, ⟨x, y, hTO⟩, h1, h2⟩ c hc
    simp only [List.mem_cons, List.not_mem_nil, or_false] at hc
    rcases hc with rfl | rfl | rfl | rfl | rfl
    · exact ⟨_, hz, fun v q => nomatch q⟩
    · exact ⟨_, hTI, fun v q => nomatch q⟩
    · exact ⟨_, hTO, fun v q => nomatch q⟩
    · exact k1.itr_obj h1
    · exact k2.itr_obj h2
  keep := by
    rintro i h h' ⟨hz, hTI, ⟨x, y, hTO⟩, h1, h2⟩ hk
    exact ⟨hk z (by simp) _ hz, hk TI (by simp) _ hTI, ⟨x, y, hk TO (by simp) _ hTO⟩, k1.itr_at h1 fun o q => hk i1 (by simp) o q, k2.itr_at h2 fun o q => hk i2 (by simp) o q⟩
  item := by
    rintro X rfl rfl rfl hc i pins s σ H E I hf ⟨hz, hTI, ⟨x0, y0, hTO⟩, h1, h2⟩ ⟨xs, ys, x, y, hqx, hqy, hx, hy⟩
    obtain ⟨its1, rv1, p1⟩ := k1.inv I hqx
    obtain ⟨its2, rv2, p2⟩ := k2.inv I hqy
    obtain ⟨u1, hu1, ru1⟩ := rv1.get hx
    obtain ⟨u2, hu2, ru2⟩ := rv2.get hy
    have zl : z < s.heap.objs.size := Heap.lt_size hz
    have d1 := k1.draws (prog := X.prog) (w := X.w) (A := X.A.in1) (I.ok.hd hc) i1 a n1 its1.toArray
    have d2 := k2.draws (prog := X.prog) (w := X.w) (A := X.A.in1) (I.ok.hd hc) i2 b n2 its2.toArray
    refine wpAny_pyNext_zipD2_item S d1 d2 hz hTI hTO ⟨h1, p1⟩ ⟨h2, p2⟩ (sz_lt hu1) (sz_lt hu2) fun w1 w2 g tk e1 e2 hz2 hTO2 s1 s2 hT hsz hk => ?_
    obtain rfl : w1 = u1 := arr_get hu1 e1
    obtain rfl : w2 = u2 := arr_get hu2 e2
    refine ⟨_, rfl, wpAny_letOwnedTupleGo_zip (s := ⟨g, s.gens, s.drawn, tk, s.os⟩) hz2 fun g2 hz3 sb => ?_⟩
    have hT2 : g2.get? s.heap.objs.size = some { cls := .type "tuple", data := .seq [w1, w2].toArray } := (sb.2 _ (Nat.ne_of_gt zl)).trans hT
    have nw := new_ok (P := X.prog) (w := X.w) (H := H) (vs := [x, y]) hT2 (.cons ru1 (.cons ru2 .nil)) (by simp)
    have kp : ∀ c o, c ≠ z → c ≠ TO → c ≠ i1 → c ≠ i2 → s.heap.get? c = some o → g2.get? c = some o := fun c o q1 q2 q3 q4 q => (sb.2 c q1).trans (hk c o q1 q2 q3 q4 q)
    have I1 := I.turnedNew (t' := tk) (ch := [z, TI, TO, i1, i2]) (h' := g2) (fun c o hb q => kp c o (fun z => hb (by simp [z])) (fun z => hb (by simp [z])) (fun z => hb (by simp [z])) (fun z => hb (by simp [z])) q) hf (Nat.le_refl _) nw
    refine ⟨.ref s.heap.objs.size, _, I1, rfl, ⟨_, x, y, rfl, I.hok.fresh (Nat.le_refl _), rfl, fun l hl => by rw [k1.inj I hqx hl]; exact hx, fun l hl => by rw [k2.inj I hqy hl]; exact hy⟩, ⟨hz3, ?_, ⟨w1, w2, ?_⟩, ?_, ?_⟩, ?_⟩
    · exact kp _ _ S.TIz S.TITO S.TIi1 S.TIi2 hTI
    · exact (sb.2 _ S.TOz).trans hTO2
    · exact k1.itr_at s1.1 fun o q => (sb.2 _ S.zi1.symm).trans q
    · exact k2.itr_at s2.1 fun o q => (sb.2 _ S.zi2.symm).trans q
    · intro c hcm
      have cl : c < s.heap.objs.size := by
        have hcm2 := hcm
        simp only [List.mem_cons, List.not_mem_nil, or_false] at hcm2
        rcases hcm2 with rfl | rfl | rfl | rfl | rfl
        · exact zl
        · exact Heap.lt_size hTI
        · exact Heap.lt_size hTO
        · obtain ⟨_, q, _⟩ := k1.itr_obj h1; exact Heap.lt_size q
        · obtain ⟨_, q, _⟩ := k2.itr_obj h2; exact Heap.lt_size q
      rw [upd_ne (Nat.ne_of_lt cl)]
      exact (hf c hcm).1
  done := by
    rintro X rfl rfl rfl hc i pins s σ H E I hf ⟨hz, hTI, ⟨x0, y0, hTO⟩, h1, h2⟩ ⟨xs, ys, hqx, hqy, l1, l2, hend⟩
    obtain ⟨its1, rv1, p1⟩ := k1.inv I hqx
    obtain ⟨its2, rv2, p2⟩ := k2.inv I hqy
    have m1 : its1.toArray.size = xs.length := by rw [rv1.length]; simp
    have m2 : its2.toArray.size = ys.length := by rw [rv2.length]; simp
    have d1 := k1.draws (prog := X.prog) (w := X.w) (A := X.A.in1) (I.ok.hd hc) i1 a n1 its1.toArray
    have d2 := k2.draws (prog := X.prog) (w := X.w) (A := X.A.in1) (I.ok.hd hc) i2 b n2 its2.toArray
    refine wpAny_pyNext_zipD2_end S d1 d2 hz hTI hTO ⟨h1, p1⟩ ⟨h2, p2⟩ (by omega) (by omega) (by omega) fun g tk hk => ⟨rfl, ?_⟩
    exact I.turnedL (t' := tk) (ch := [z, TI, TO, i1, i2]) (fun c o hb q => hk c o (fun z => hb (by simp [z])) (fun z => hb (by simp [z])) (fun z => hb (by simp [z])) (fun z => hb (by simp [z])) q) hf
  self := by
    rintro A i s Q E ⟨hz, _⟩ h
    exact wpAny_pyIter_zip hz h
theorem sep2 (N a b : Nat) (ha : a < N) (hb : b < N) : ZipSep2 (N + 4) (N + 2) (N + 3) N (N + 1) [N, a] [N + 1, b] := by
  constructor
  all_goals (first | exact List.mem_cons_self | (intro h; simp only [List.mem_cons, List.not_mem_nil, or_false] at h; exact absurd h (by show ¬ (_ : Prop); simp only [Addr] at *; omega)) | (simp only [Addr, ne_eq] at *; omega))
theorem new_le {N : Nat} {c : Addr} : ∀ {ks : List Nat}, c ∈ ks.map (fun k => N + k) → N ≤ c
  | [], h => by simp at h
  | k :: ks, h => by
    rw [List.map_cons] at h
    rcases List.mem_cons.mp h with e | h
    · rw [e]; exact Nat.le_add_right _ _
    · exact new_le h
def iZpK (K : Fg) (ta : TA) : TI := fun σ H R => ta σ H fun vs H1 => ∃ (k1 k2 : Kd) (a b : Addr) (xs ys : List V), vs = [.ref a, .ref b] ∧ k1.sq K H1 a xs ∧ k2.sq K H1 b ys ∧ R (ItZ K k1 k2 a b) H1
theorem pi_zpK {X : Cx} {e e2 : Expr} {ta : TA} {p pos tpos : Pos} {elts : List Expr} {kk : Nat} (hg : Gl X "zip") (hm : X.mg "zip" = none) (ha : PA X [e, e2] ta)
    (hs : starEach [e, e2] X.env = (false, eval e X.env) :: starEach [e2] X.env) (hpl : (backTo pos (starEach [e2] X.env)).any (·.1) = false) : PI X (.Tuple elts kk tpos) (.Call (.Name "zip" p) [e, e2] [] pos) (iZpK X.K ta) := by
  refine ⟨fun pins s σ H R I h => ?_⟩
  refine Call_ (ld_blt I hg hm PyProof.Rows.boot_zip (PyProof.Rows.callWith_type1 (thn (ha.run pos pins s σ H _ I h) ?_) hs hpl))
  rintro us s1 ⟨vs, H1, I1, r1, k1, k2, a, b, xs, ys, rfl, hqx, hqy, q⟩
  cases r1 with
  | cons r rr =>
    cases rr with
    | cons r' rr =>
      cases rr
      cases r
      cases r'
      obtain ⟨its1, rv1, p1⟩ := k1.inv I1 hqx
      obtain ⟨its2, rv2, p2⟩ := k2.inv I1 hqy
      have al := k1.lt p1
      have bl := k2.lt p2
      refine zip_begins2 (k1.starts a its1.toArray) (k2.starts b its2.toArray) p1 p2 fun h2 hz hTI hTO o1 o2 hsz hk => wpAny_pyIter_zip hz ?_
      have I2 : Inv X pins σ H1 { s1 with heap := h2 } := I1.kept (t' := s1.toks) hk
      refine ⟨s1.heap.objs.size + 4, [s1.heap.objs.size + 4, s1.heap.objs.size + 2, s1.heap.objs.size + 3, s1.heap.objs.size, s1.heap.objs.size + 1], _, _, H1, rfl, I2, turn_z2 k1 k2 (a := a) (b := b) (sep2 _ a b al bl) (Nat.ne_of_lt al) (Nat.ne_of_lt (Nat.lt_succ_of_lt bl)), ⟨hz, hTI, ⟨_, _, hTO⟩, k1.itr0 o1, k2.itr0 o2⟩, ?_, q⟩
      intro c hc
      have hle : s1.heap.objs.size ≤ c := new_le (ks := [4, 2, 3, 0, 1]) hc
      exact I1.fpOk hle (I1.hok.fresh hle)
end Tg
namespace Tg
open PySem PySem.Spec PyProof.Rows L2
def ItZ3 (K : Fg) (k1 k2 k3 : Kd) (a b c : Addr) : It where
  go i H := ∃ (xs ys zs : List V) (x y z : V), k1.sq K H a xs ∧ k2.sq K H b ys ∧ k3.sq K H c zs ∧ xs[i]? = some x ∧ ys[i]? = some y ∧ zs[i]? = some z
  yld i H v H' := ∃ T x y z, v = .ref T ∧ H T = none ∧ H' = upd H T (.tup [x, y, z]) ∧ (∀ xs, k1.sq K H a xs → xs[i]? = some x) ∧ (∀ ys, k2.sq K H b ys → ys[i]? = some y) ∧ ∀ zs, k3.sq K H c zs → zs[i]? = some z
  stop i H := ∃ xs ys zs : List V, k1.sq K H a xs ∧ k2.sq K H b ys ∧ k3.sq K H c zs ∧ i ≤ xs.length ∧ i ≤ ys.length ∧ i ≤ zs.length ∧ (i = xs.length ∨ i = ys.length ∨ i = zs.length)
theorem turn_z3 {P : Program} {w : World} {K : Fg} {elts : List Expr} {kk : Nat} {tpos : Pos} (k1 k2 k3 : Kd) {a b c z TI TO i1 i2 i3 : Addr} (S : ZipSep3 z TI TO i1 i2 i3 [i1, a] [i2, b] [i3, c]) (n1 : a ≠ i1) (n2 : b ≠ i2) (n3 : c ≠ i3) :
    Turn P w K (.Tuple elts kk tpos) (ItZ3 K k1 k2 k3 a b c) [z, TI, TO, i1, i2, i3] z (fun i h => IsZip h z TI TO .none ∧ IsTupOf3 h TI (.ref i1) (.ref i2) (.ref i3) ∧ (∃ x y u, IsTupOf3 h TO x y u) ∧ k1.itr h i1 a i ∧ k2.itr h i2 b i ∧ k3.itr h i3 c i) where
  mem := List.mem_cons_self
  obj := by
    rintro i h ⟨hz, hTI, ⟨x, y, u, hTO⟩, h1, h2, h3⟩ c hc
    simp only [List.mem_cons, List.not_mem_nil, or_false] at hc
    rcases hc with rfl | rfl | rfl | rfl | rfl | rfl
    · exact ⟨_, hz, fun v q => nomatch q⟩
    · exact ⟨_, hTI, fun v q => nomatch q⟩
    · exact ⟨_, hTO, fun v q => nomatch q⟩
    · exact k1.itr_obj h1
    · exact k2.itr_obj h2
    · exact k3.itr_obj h3
  keep := by
    rintro i h h' ⟨hz, hTI, ⟨x, y, u, hTO⟩, h1, h2, h3⟩ hk
    exact ⟨hk z (by simp) _ hz, hk TI (by simp) _ hTI, ⟨x, y, u, hk TO (by simp) _ hTO⟩, k1.itr_at h1 fun o q => hk i1 (by simp) o q, k2.itr_at h2 fun o q => hk i2 (by simp) o q, k3.itr_at h3 fun o q => hk i3 (by simp) o q⟩
  item := by
    rintro X rfl rfl rfl hc i pins s σ H E I hf ⟨hz, hTI, ⟨x0, y0, u0, hTO⟩, h1, h2, h3⟩ ⟨xs, ys, zs, x, y, v, hqx, hqy, hqz, hx, hy, hv⟩
    obtain ⟨its1, rv1, p1⟩ := k1.inv I hqx
    obtain ⟨its2, rv2, p2⟩ := k2.inv I hqy
    obtain ⟨its3, rv3, p3⟩ := k3.inv I hqz
    obtain ⟨u1, hu1, ru1⟩ := rv1.get hx
    obtain ⟨u2, hu2, ru2⟩ := rv2.get hy
    obtain ⟨u3, hu3, ru3⟩ := rv3.get hv
    have zl : z < s.heap.objs.size := Heap.lt_size hz
    have d1 := k1.draws (prog := X.prog) (w := X.w) (A := X.A.in1) (I.ok.hd hc) i1 a n1 its1.toArray
    have d2 := k2.draws (prog := X.prog) (w := X.w) (A := X.A.in1) (I.ok.hd hc) i2 b n2 its2.toArray
    have d3 := k3.draws (prog := X.prog) (w := X.w) (A := X.A.in1) (I.ok.hd hc) i3 c n3 its3.toArray
    refine wpAny_pyNext_zipD3_item S d1 d2 d3 hz hTI hTO ⟨h1, p1⟩ ⟨h2, p2⟩ ⟨h3, p3⟩ (sz_lt hu1) (sz_lt hu2) (sz_lt hu3) fun w1 w2 w3 g tk e1 e2 e3 hz2 hTO2 s1 s2 s3 hT hsz hk => ?_
    obtain rfl : w1 = u1 := arr_get hu1 e1
    obtain rfl : w2 = u2 := arr_get hu2 e2
    obtain rfl : w3 = u3 := arr_get hu3 e3
    refine ⟨_, rfl, wpAny_letOwnedTupleGo_zip (s := ⟨g, s.gens, s.drawn, tk, s.os⟩) hz2 fun g2 hz3 sb => ?_⟩
    have hT2 : g2.get? s.heap.objs.size = some { cls := .type "tuple", data := .seq [w1, w2, w3].toArray } := (sb.2 _ (Nat.ne_of_gt zl)).trans hT
    have nw := new_ok (P := X.prog) (w := X.w) (H := H) (vs := [x, y, v]) hT2 (.cons ru1 (.cons ru2 (.cons ru3 .nil))) (by simp)
    have kp : ∀ c o, c ≠ z → c ≠ TO → c ≠ i1 → c ≠ i2 → c ≠ i3 → s.heap.get? c = some o → g2.get? c = some o := fun c o q1 q2 q3 q4 q5 q => (sb.2 c q1).trans (hk c o q1 q2 q3 q4 q5 q)
    have I1 := I.turnedNew (t' := tk) (ch := [z, TI, TO, i1, i2, i3]) (h' := g2) (fun c o hb q => kp c o (fun z => hb (by simp [z])) (fun z => hb (by simp [z])) (fun z => hb (by simp [z])) (fun z => hb (by simp [z])) (fun z => hb (by simp [z])) q) hf (Nat.le_refl _) nw
    refine ⟨.ref s.heap.objs.size, _, I1, rfl, ⟨_, x, y, v, rfl, I.hok.fresh (Nat.le_refl _), rfl, fun l hl => by rw [k1.inj I hqx hl]; exact hx, fun l hl => by rw [k2.inj I hqy hl]; exact hy, fun l hl => by rw [k3.inj I hqz hl]; exact hv⟩, ⟨hz3, ?_, ⟨w1, w2, w3, ?_⟩, ?_, ?_, ?_⟩, ?_⟩
    · exact kp _ _ S.TIz S.TITO S.TIi1 S.TIi2 S.TIi3 hTI
    · exact (sb.2 _ S.TOz).trans hTO2
    · exact k1.itr_at s1.1 fun o q => (sb.2 _ (fun e => S.zf1 (by rw [← e]; exact List.mem_cons_self))).trans q
    · exact k2.itr_at s2.1 fun o q => (sb.2 _ (fun e => S.zf2 (by rw [← e]; exact List.mem_cons_self))).trans q
    · exact k3.itr_at s3.1 fun o q => (sb.2 _ (fun e => S.zf3 (by rw [← e]; exact List.mem_cons_self))).trans q
    · intro c hcm
      have cl : c < s.heap.objs.size := by
        have hcm2 := hcm
        simp only [List.mem_cons, List.not_mem_nil, or_false] at hcm2
        rcases hcm2 with rfl | rfl | rfl | rfl | rfl | rfl
        · exact zl
        · exact Heap.lt_size hTI
        · exact Heap.lt_size hTO
        · obtain ⟨_, q, _⟩ := k1.itr_obj h1; exact Heap.lt_size q
        · obtain ⟨_, q, _⟩ := k2.itr_obj h2; exact Heap.lt_size q
        · obtain ⟨_, q, _⟩ := k3.itr_obj h3; exact Heap.lt_size q
      rw [upd_ne (Nat.ne_of_lt cl)]
      exact (hf c hcm).1
  done := by
    rintro X rfl rfl rfl hc i pins s σ H E I hf ⟨hz, hTI, ⟨x0, y0, u0, hTO⟩, h1, h2, h3⟩ ⟨xs, ys, zs, hqx, hqy, hqz, l1, l2, l3, hend⟩
    obtain ⟨its1, rv1, p1⟩ := k1.inv I hqx
    obtain ⟨its2, rv2, p2⟩ := k2.inv I hqy
    obtain ⟨its3, rv3, p3⟩ := k3.inv I hqz
    have m1 : its1.toArray.size = xs.length := by rw [rv1.length]; simp
    have m2 : its2.toArray.size = ys.length := by rw [rv2.length]; simp
    have m3 : its3.toArray.size = zs.length := by rw [rv3.length]; simp
    have d1 := k1.draws (prog := X.prog) (w := X.w) (A := X.A.in1) (I.ok.hd hc) i1 a n1 its1.toArray
    have d2 := k2.draws (prog := X.prog) (w := X.w) (A := X.A.in1) (I.ok.hd hc) i2 b n2 its2.toArray
    have d3 := k3.draws (prog := X.prog) (w := X.w) (A := X.A.in1) (I.ok.hd hc) i3 c n3 its3.toArray
    refine wpAny_pyNext_zipD3_end S d1 d2 d3 hz hTI hTO ⟨h1, p1⟩ ⟨h2, p2⟩ ⟨h3, p3⟩ (by omega) (by omega) (by omega) (by omega) fun g tk hk => ⟨rfl, ?_⟩
    exact I.turnedL (t' := tk) (ch := [z, TI, TO, i1, i2, i3]) (fun c o hb q => hk c o (fun z => hb (by simp [z])) (fun z => hb (by simp [z])) (fun z => hb (by simp [z])) (fun z => hb (by simp [z])) (fun z => hb (by simp [z])) q) hf
  self := by
    rintro A i s Q E ⟨hz, _⟩ h
    exact wpAny_pyIter_zip hz h
theorem sep3 (N a b c : Nat) (ha : a < N) (hb : b < N) (hc : c < N) : ZipSep3 (N + 5) (N + 3) (N + 4) N (N + 1) (N + 2) [N, a] [N + 1, b] [N + 2, c] := by
  constructor
  all_goals (first | exact List.mem_cons_self | (intro h; simp only [List.mem_cons, List.not_mem_nil, or_false] at h; exact absurd h (by show ¬ (_ : Prop); simp only [Addr] at *; omega)) | (simp only [Addr, ne_eq] at *; omega))
def iZp3 (K : Fg) (ta : TA) : TI := fun σ H R => ta σ H fun vs H1 => ∃ (k1 k2 k3 : Kd) (a b c : Addr) (xs ys zs : List V), vs = [.ref a, .ref b, .ref c] ∧ k1.sq K H1 a xs ∧ k2.sq K H1 b ys ∧ k3.sq K H1 c zs ∧ R (ItZ3 K k1 k2 k3 a b c) H1
theorem pi_zp3 {X : Cx} {e e2 e3 : Expr} {ta : TA} {p pos tpos : Pos} {elts : List Expr} {kk : Nat} (hg : Gl X "zip") (hm : X.mg "zip" = none) (ha : PA X [e, e2, e3] ta)
    (hs : starEach [e, e2, e3] X.env = (false, eval e X.env) :: starEach [e2, e3] X.env) (hpl : (backTo pos (starEach [e2, e3] X.env)).any (·.1) = false) : PI X (.Tuple elts kk tpos) (.Call (.Name "zip" p) [e, e2, e3] [] pos) (iZp3 X.K ta) := by
  refine ⟨fun pins s σ H R I h => ?_⟩
  refine Call_ (ld_blt I hg hm PyProof.Rows.boot_zip (PyProof.Rows.callWith_type1 (thn (ha.run pos pins s σ H _ I h) ?_) hs hpl))
  rintro us s1 ⟨vs, H1, I1, r1, k1, k2, k3, a, b, c, xs, ys, zs, rfl, hqx, hqy, hqz, q⟩
  cases r1 with
  | cons r rr =>
    cases rr with
    | cons r' rr =>
      cases rr with
      | cons r'' rr =>
        cases rr
        cases r
        cases r'
        cases r''
        obtain ⟨its1, rv1, p1⟩ := k1.inv I1 hqx
        obtain ⟨its2, rv2, p2⟩ := k2.inv I1 hqy
        obtain ⟨its3, rv3, p3⟩ := k3.inv I1 hqz
        have al := k1.lt p1
        have bl := k2.lt p2
        have cl := k3.lt p3
        refine zip_begins3 (k1.starts a its1.toArray) (k2.starts b its2.toArray) (k3.starts c its3.toArray) p1 p2 p3 fun h2 hz hTI hTO o1 o2 o3 hsz hk => wpAny_pyIter_zip hz ?_
        have I2 : Inv X pins σ H1 { s1 with heap := h2 } := I1.kept (t' := s1.toks) hk
        refine ⟨s1.heap.objs.size + 5, [s1.heap.objs.size + 5, s1.heap.objs.size + 3, s1.heap.objs.size + 4, s1.heap.objs.size, s1.heap.objs.size + 1, s1.heap.objs.size + 2], _, _, H1, rfl, I2,
          turn_z3 k1 k2 k3 (a := a) (b := b) (c := c) (sep3 _ a b c al bl cl) (Nat.ne_of_lt al) (Nat.ne_of_lt (Nat.lt_succ_of_lt bl)) (Nat.ne_of_lt (Nat.lt_succ_of_lt (Nat.lt_succ_of_lt cl))), ⟨hz, hTI, ⟨_, _, _, hTO⟩, k1.itr0 o1, k2.itr0 o2, k3.itr0 o3⟩, ?_, q⟩
        intro c hc
        have hle : s1.heap.objs.size ≤ c := new_le (ks := [5, 3, 4, 0, 1, 2]) hc
        exact I1.fpOk hle (I1.hok.fresh hle)
end Tg
namespace Tg
open PySem PySem.Spec PyProof.Rows L2
/-- a zip, whatever it handed out before -/
def Zo (h : Heap) (z TI TO : Addr) (v : Value) (f : Bool) : Prop := h.get? z = some { cls := .type "zip", dict := none, data := .fields #[v, .bool f, .bool false, .ref TI, .ref TO], slots := #[] }
def Zs (h : Heap) (z TI TO : Addr) : Prop := ∃ v f, (v = .none ∨ ∃ T : Addr, v = rawInt T) ∧ Zo h z TI TO v f
section
variable {prog : Program} {w : World} {A : Around} {E : Value → Shared → Prop} {s : Shared} {z TI TO i1 i2 : Addr} {fp1 fp2 : List Addr} {n1 n2 i : Nat} {P1 P2 : Nat → Value → Prop} {St1 St2 : Nat → Heap → Prop} {a1 a2 v0 : Value} {f : Bool}
theorem z_free {Q : Bool → Shared → Prop} (hz : Zo s.heap z TI TO v0 f) (hv : v0 = .none ∨ ∃ T : Addr, v0 = rawInt T) (h1 : Q true s) (h2 : ∀ h', Zo h' z TI TO v0 true → Heap.SameBut z s.heap h' → Q false { s with heap := h' }) :
    wpAny (model prog w) A (Builtin.SmallTypes.ownedTupleIsFree (.ref z)) Q E s := by
  rcases hv with rfl | ⟨T, rfl⟩
  · exact wpAny_bind (wpAny_field hz rfl (x := Value.none) rfl (wpAny_pure h1))
  · cases hT : s.heap.get? T with
    | some o => exact wpAny_tupleHeld_zip hz hT h2
    | none =>
      refine wpAny_bind (wpAny_field hz rfl (x := rawInt T) rfl ?_)
      have q : wpAny (model prog w) A (loadIfAlive T) (fun r s' => r = none ∧ s' = s) E s := fun _ _ _ => by
        show s.heap.get? T = none ∧ s = s
        exact ⟨hT, rfl⟩
      show wpAny _ _ (loadIfAlive ((T : Int).toNat) >>= _) _ _ _
      rw [show ((T : Int)).toNat = T from Int.toNat_natCast T]
      refine wpAny_bind (wpAny_mono q (fun r s' e => ?_) fun _ _ e => e)
      obtain ⟨rfl, rfl⟩ := e
      exact wpAny_pure h1
theorem z_item {Q : Value → Shared → Prop} (S : ZipSep2 z TI TO i1 i2 fp1 fp2) (D1 : PySem.Draws prog w A i1 fp1 n1 P1 St1) (D2 : PySem.Draws prog w A i2 fp2 n2 P2 St2) (hz : Zs s.heap z TI TO) (hTI : IsTupOf2 s.heap TI (.ref i1) (.ref i2)) (hTO : IsTupOf2 s.heap TO a1 a2) (t1 : St1 i s.heap) (t2 : St2 i s.heap) (l1 : i < n1) (l2 : i < n2)
    (hQ : ∀ x y h' tk, P1 i x → P2 i y → Zs h' z TI TO → (∃ b c, IsTupOf2 h' TO b c) → St1 (i + 1) h' → St2 (i + 1) h' → IsTupOf2 h' s.heap.objs.size x y →
      (∀ c o, c ≠ z → c ≠ TO → c ≠ i1 → c ≠ i2 → s.heap.get? c = some o → h'.get? c = some o) → Q (.ref s.heap.objs.size) { s with heap := h', toks := tk }) :
    wpAny (model prog w) A (Builtin.«zip.__next__» ⟨[.ref z], []⟩) (fun fin s' => ∃ v, fin = .done (.ret v) ∧ Q v s') E s := by
  obtain ⟨v0, f, hv, hz⟩ := hz
  obtain ⟨hp, gn, dn, tk0, os⟩ := s
  change wpAny (model prog w) A (field (.ref z) 2 >>= _) _ E _
  refine wpAny_bind (wpAny_field hz rfl (x := .bool false) rfl ?_)
  change wpAny (model prog w) A (field (.ref z) 3 >>= _) _ E _
  refine wpAny_bind (wpAny_field hz rfl (x := .ref TI) rfl (wpAny_bind (wpAny_seqItems hTI rfl ?_)))
  change wpAny (model prog w) A (Builtin.SmallTypes.ownedTupleIsFree (.ref z) >>= _) _ E _
  refine wpAny_bind (z_free hz hv ?free ?held)
  case held =>
    intro h1 z1 b1
    have b1 : Heap.SameBut z hp h1 := b1
    simp only [Bool.false_eq_true, if_false]
    refine wpAny_bind ?_
    rw [← Array.forIn_toList]
    simp only [List.forIn_cons, List.forIn_nil]
    refine wpAny_bind (wpAny_bind (wpAny_holding ?_))
    change wpAny (model prog w) A (Builtin.SmallTypes.nextOf (.ref i1) >>= _) _ E _
    refine wpAny_bind (D1.item i ⟨h1, gn, dn, tk0, os⟩ _ _ l1 (D1.over t1 b1 S.zf1) fun x h2 k2 px u2 b2 => wpAny_pure (wpAny_pure ?_))
    have b2 : Heap.SameBut i1 h1 h2 := b2
    refine wpAny_bind (wpAny_bind (wpAny_holding ?_))
    change wpAny (model prog w) A (Builtin.SmallTypes.nextOf (.ref i2) >>= _) _ E _
    refine wpAny_bind (D2.item i ⟨h2, gn, dn, k2, os⟩ _ _ l2 (D2.over (D2.over t2 b1 S.zf2) b2 S.sep1_2) fun y h3 k3 py u3 b3 => wpAny_pure (wpAny_pure (wpAny_pure ?_)))
    have b3 : Heap.SameBut i2 h2 h3 := b3
    change wpAny (model prog w) A (newTuple [x, y] >>= _) _ E _
    refine wpAny_bind (wpAny_newTuple (wpAny_pure ⟨_, rfl, ?_⟩))
    have sz : h3.objs.size = hp.objs.size := by rw [b3.1, b2.1, b1.1]
    have kp : ∀ c o, c ≠ z → c ≠ i1 → c ≠ i2 → hp.get? c = some o → (h3.push { cls := .type "tuple", data := .seq #[x, y] }).get? c = some o := fun c o q1 q2 q3 e =>
      Heap.get?_push_of_some _ (b3.extBut _ _ q3 (b2.extBut _ _ q2 (b1.extBut _ _ q1 e)))
    have tp : IsTupOf2 (h3.push { cls := .type "tuple", data := .seq #[x, y] }) h3.objs.size x y := Heap.get?_push_size _ rfl
    have zz : Zo (h3.push { cls := .type "tuple", data := .seq #[x, y] }) z TI TO v0 true := Heap.get?_push_of_some _ (b3.extBut _ _ S.zi2 (b2.extBut _ _ S.zi1 z1))
    have e1 : St1 (i + 1) (h3.push { cls := .type "tuple", data := .seq #[x, y] }) := D1.frame _ _ _ (D1.over u2 b3 S.sep2_1) fun _ _ _ e => Heap.get?_push_of_some _ e
    have e2 : St2 (i + 1) (h3.push { cls := .type "tuple", data := .seq #[x, y] }) := D2.frame _ _ _ u3 fun _ _ _ e => Heap.get?_push_of_some _ e
    have fin := hQ x y (h3.push { cls := .type "tuple", data := .seq #[x, y] }) k3 px py ⟨v0, true, hv, zz⟩ ⟨a1, a2, kp _ _ S.TOz S.Ti1 S.Ti2 hTO⟩ e1 e2 (by rw [sz] at tp; exact tp) fun c o q1 _ q3 q4 e => kp c o q1 q3 q4 e
    show Q (.ref h3.objs.size) _
    rw [sz]
    exact fin
  case free =>
    simp only [if_true]
    refine wpAny_bind (wpAny_rule (wpAny_bind (wpAny_field hz rfl (x := .ref TO) rfl (wpAny_bind (wpAny_setField_rec hz (by simp) fun h1 z1 b1 => ?_)))))
    have z1 : Zo h1 z TI TO .ellipsis f := z1
    have b1 : Heap.SameBut z hp h1 := b1
    refine wpAny_bind ?_
    simp only [List.zipIdx_cons, List.zipIdx_nil, List.forIn_cons, List.forIn_nil]
    refine wpAny_bind (wpAny_bind (wpAny_onRaise ?_))
    change wpAny (model prog w) A (Builtin.SmallTypes.nextOf (.ref i1) >>= _) _ _ _
    refine wpAny_bind (D1.item i ⟨h1, gn, dn, tk0, os⟩ _ _ l1 (D1.over t1 b1 S.zf1) fun x h2 k2 px u2 b2 => wpAny_pure ?_)
    have b2 : Heap.SameBut i1 h1 h2 := b2
    have o2 : IsTupOf2 h2 TO a1 a2 := b2.extBut _ _ S.Ti1 (b1.extBut _ _ S.TOz hTO)
    refine wpAny_bind (wpAny_seqItems (s := ⟨h2, gn, dn, k2, os⟩) o2 rfl (wpAny_bind (updateSeq_IsTupOf2 (s := ⟨h2, gn, dn, k2, os⟩) o2 fun h3 o3 b3 => wpAny_bind (wpAny_letGo (wpAny_pure ?_)))))
    have o3 : IsTupOf2 h3 TO x a2 := o3
    have b3 : Heap.SameBut TO h2 h3 := b3
    refine wpAny_bind (wpAny_bind (wpAny_onRaise ?_))
    change wpAny (model prog w) A (Builtin.SmallTypes.nextOf (.ref i2) >>= _) _ _ _
    refine wpAny_bind (D2.item i ⟨h3, gn, dn, k2, os⟩ _ _ l2 (D2.over (D2.over (D2.over t2 b1 S.zf2) b2 S.sep1_2) b3 S.Tf2) fun y h4 k4 py u4 b4 => wpAny_pure ?_)
    have b4 : Heap.SameBut i2 h3 h4 := b4
    have o4 : IsTupOf2 h4 TO x a2 := b4.extBut _ _ S.Ti2 o3
    refine wpAny_bind (wpAny_seqItems (s := ⟨h4, gn, dn, k4, os⟩) o4 rfl (wpAny_bind (updateSeq_IsTupOf2 (s := ⟨h4, gn, dn, k4, os⟩) o4 fun h5 o5 b5 => wpAny_bind (wpAny_letGo (wpAny_pure (wpAny_pure ?_))))))
    have o5 : IsTupOf2 h5 TO x y := o5
    have b5 : Heap.SameBut TO h4 h5 := b5
    refine wpAny_bind (wpAny_seqItems (s := ⟨h5, gn, dn, k4, os⟩) o5 rfl (wpAny_bind (wpAny_newTuple ?_)))
    have sz : h5.objs.size = hp.objs.size := by rw [b5.1, b4.1, b3.1, b2.1, b1.1]
    have z5 : Zo h5 z TI TO .ellipsis f := b5.extBut _ _ S.TOz.symm (b4.extBut _ _ S.zi2 (b3.extBut _ _ S.TOz.symm (b2.extBut _ _ S.zi1 z1)))
    have zl : z < h5.objs.size := Heap.lt_size z5
    have z6 : Zo (h5.push { cls := .type "tuple", data := .seq #[x, y] }) z TI TO .ellipsis f := Heap.get?_push_of_some _ z5
    change wpAny (model prog w) A (Builtin.SmallTypes.ownedTupleHandOut (.ref z) (.ref h5.objs.size) >>= _) _ E _
    refine wpAny_bind ?_
    unfold Builtin.SmallTypes.ownedTupleHandOut
    refine wpAny_bind (wpAny_setField_rec (s := ⟨h5.push { cls := .type "tuple", data := .seq #[x, y] }, gn, dn, k4, os⟩) z6 (by simp) fun h7 z7 b7 => ?_)
    have z7 : Zo h7 z TI TO (rawInt h5.objs.size) f := z7
    have b7 : Heap.SameBut z (h5.push { cls := .type "tuple", data := .seq #[x, y] }) h7 := b7
    refine wpAny_setField_rec (s := ⟨h7, gn, dn, k4, os⟩) z7 (by simp) fun h8 z8 b8 => wpAny_pure ⟨_, rfl, ?_⟩
    have z8 : Zo h8 z TI TO (rawInt h5.objs.size) false := z8
    have b8 : Heap.SameBut z h7 h8 := b8
    have up : ∀ c o, c ≠ z → h5.get? c = some o → h8.get? c = some o := fun c o q e => b8.extBut _ _ q (b7.extBut _ _ q (Heap.get?_push_of_some _ e))
    have tp : IsTupOf2 h8 h5.objs.size x y := b8.extBut _ _ (Nat.ne_of_gt zl) (b7.extBut _ _ (Nat.ne_of_gt zl) (Heap.get?_push_size _ rfl))
    have e1 : St1 (i + 1) h8 := D1.frame _ _ _ (D1.over (D1.over (D1.over u2 b3 S.Tf1) b4 S.sep2_1) b5 S.Tf1) fun b hb o e => up b o (fun q => S.zf1 (q ▸ hb)) e
    have e2 : St2 (i + 1) h8 := D2.frame _ _ _ (D2.over u4 b5 S.Tf2) fun b hb o e => up b o (fun q => S.zf2 (q ▸ hb)) e
    have fin := hQ x y h8 k4 px py ⟨_, false, .inr ⟨_, rfl⟩, z8⟩ ⟨x, y, up _ _ S.TOz o5⟩ e1 e2 (by rw [sz] at tp; exact tp) fun c o q1 q2 q3 q4 e =>
      up c o q1 (b5.extBut _ _ q2 (b4.extBut _ _ q4 (b3.extBut _ _ q2 (b2.extBut _ _ q3 (b1.extBut _ _ q1 e)))))
    show Q (.ref h5.objs.size) _
    rw [sz]
    exact fin
theorem z_end {Q : PySem.Fin → Shared → Prop} (S : ZipSep2 z TI TO i1 i2 fp1 fp2) (D1 : PySem.Draws prog w A i1 fp1 n1 P1 St1) (D2 : PySem.Draws prog w A i2 fp2 n2 P2 St2) (hz : Zs s.heap z TI TO) (hTI : IsTupOf2 s.heap TI (.ref i1) (.ref i2)) (hTO : IsTupOf2 s.heap TO a1 a2) (t1 : St1 i s.heap) (t2 : St2 i s.heap) (l1 : i ≤ n1) (l2 : i ≤ n2) (hend : i = n1 ∨ i = n2)
    (hE : ∀ h' tk e, (∀ c o, c ≠ z → c ≠ TO → c ≠ i1 → c ≠ i2 → s.heap.get? c = some o → h'.get? c = some o) → (∃ o, h'.get? e = some o ∧ o.cls = .type "StopIteration") → E (.ref e) { s with heap := h', toks := tk }) :
    wpAny (model prog w) A (Builtin.«zip.__next__» ⟨[.ref z], []⟩) Q E s := by
  obtain ⟨v0, f, hv, hz⟩ := hz
  obtain ⟨hp, gn, dn, tk0, os⟩ := s
  change wpAny (model prog w) A (field (.ref z) 2 >>= _) _ E _
  refine wpAny_bind (wpAny_field hz rfl (x := .bool false) rfl ?_)
  change wpAny (model prog w) A (field (.ref z) 3 >>= _) _ E _
  refine wpAny_bind (wpAny_field hz rfl (x := .ref TI) rfl (wpAny_bind (wpAny_seqItems hTI rfl ?_)))
  change wpAny (model prog w) A (Builtin.SmallTypes.ownedTupleIsFree (.ref z) >>= _) _ E _
  refine wpAny_bind (z_free hz hv ?free ?held)
  case held =>
    intro h1 z1 b1
    have b1 : Heap.SameBut z hp h1 := b1
    simp only [Bool.false_eq_true, if_false]
    refine wpAny_bind ?_
    rw [← Array.forIn_toList]
    simp only [List.forIn_cons, List.forIn_nil]
    refine wpAny_bind (wpAny_bind (wpAny_holding ?_))
    change wpAny (model prog w) A (Builtin.SmallTypes.nextOf (.ref i1) >>= _) _ E _
    rcases Nat.lt_or_eq_of_le l1 with lt | eq
    · refine wpAny_bind (D1.item i ⟨h1, gn, dn, tk0, os⟩ _ _ lt (D1.over t1 b1 S.zf1) fun x h2 k2 px u2 b2 => wpAny_pure (wpAny_pure ?_))
      have b2 : Heap.SameBut i1 h1 h2 := b2
      refine wpAny_bind (wpAny_bind (wpAny_holding ?_))
      change wpAny (model prog w) A (Builtin.SmallTypes.nextOf (.ref i2) >>= _) _ E _
      have e2 : i = n2 := by omega
      refine wpAny_bind (D2.done ⟨h2, gn, dn, k2, os⟩ _ _ (by rw [← e2]; exact D2.over (D2.over t2 b1 S.zf2) b2 S.sep1_2) fun q e b3 he => ?_)
      have b3 : Heap.ExtBut i2 h2 q := b3
      exact hE q k2 e (fun c o q1 _ q3 q4 x => b3 _ _ q4 (b2.extBut _ _ q3 (b1.extBut _ _ q1 x))) he
    · refine wpAny_bind (D1.done ⟨h1, gn, dn, tk0, os⟩ _ _ (by rw [← eq]; exact D1.over t1 b1 S.zf1) fun q e b2 he => ?_)
      have b2 : Heap.ExtBut i1 h1 q := b2
      exact hE q tk0 e (fun c o q1 _ q3 _ x => b2 _ _ q3 (b1.extBut _ _ q1 x)) he
  case free =>
    simp only [if_true]
    refine wpAny_bind (wpAny_rule (wpAny_bind (wpAny_field hz rfl (x := .ref TO) rfl (wpAny_bind (wpAny_setField_rec hz (by simp) fun h1 z1 b1 => ?_)))))
    have z1 : Zo h1 z TI TO .ellipsis f := z1
    have b1 : Heap.SameBut z hp h1 := b1
    refine wpAny_bind ?_
    simp only [List.zipIdx_cons, List.zipIdx_nil, List.forIn_cons, List.forIn_nil]
    refine wpAny_bind (wpAny_bind (wpAny_onRaise ?_))
    change wpAny (model prog w) A (Builtin.SmallTypes.nextOf (.ref i1) >>= _) _ _ _
    have out : ∀ (q : Heap) (tk : Nat) (e : Addr), Zo q z TI TO .ellipsis f → (∃ o, q.get? e = some o ∧ o.cls = .type "StopIteration") → (∀ c o, c ≠ z → c ≠ TO → c ≠ i1 → c ≠ i2 → hp.get? c = some o → q.get? c = some o) →
        wpAny (model prog w) A (setField (.ref z) 0 .none) (fun _ s' => E (.ref e) s') E ⟨q, gn, dn, tk, os⟩ := by
      rintro q tk e hq ⟨oe, h1, h2⟩ hk
      have ne : e ≠ z := fun x => by
        subst x
        rw [hq] at h1
        cases h1
        simp at h2
      refine wpAny_setField_rec (s := ⟨q, gn, dn, tk, os⟩) hq (by simp) fun q' _ b => ?_
      have b : Heap.SameBut z q q' := b
      exact hE q' tk e (fun c o q1 q2 q3 q4 x => b.extBut _ _ q1 (hk c o q1 q2 q3 q4 x)) ⟨oe, b.extBut _ _ ne h1, h2⟩
    rcases Nat.lt_or_eq_of_le l1 with lt | eq
    · refine wpAny_bind (D1.item i ⟨h1, gn, dn, tk0, os⟩ _ _ lt (D1.over t1 b1 S.zf1) fun x h2 k2 px u2 b2 => wpAny_pure ?_)
      have b2 : Heap.SameBut i1 h1 h2 := b2
      have o2 : IsTupOf2 h2 TO a1 a2 := b2.extBut _ _ S.Ti1 (b1.extBut _ _ S.TOz hTO)
      refine wpAny_bind (wpAny_seqItems (s := ⟨h2, gn, dn, k2, os⟩) o2 rfl (wpAny_bind (updateSeq_IsTupOf2 (s := ⟨h2, gn, dn, k2, os⟩) o2 fun h3 o3 b3 => wpAny_bind (wpAny_letGo (wpAny_pure ?_)))))
      have b3 : Heap.SameBut TO h2 h3 := b3
      have e2 : i = n2 := by omega
      refine wpAny_bind (wpAny_bind (wpAny_onRaise ?_))
      change wpAny (model prog w) A (Builtin.SmallTypes.nextOf (.ref i2) >>= _) _ _ _
      refine wpAny_bind (D2.done ⟨h3, gn, dn, k2, os⟩ _ _ (by rw [← e2]; exact D2.over (D2.over (D2.over t2 b1 S.zf2) b2 S.sep1_2) b3 S.Tf2) fun q e b4 he => ?_)
      have b4 : Heap.ExtBut i2 h3 q := b4
      exact out q k2 e (b4 _ _ S.zi2 (b3.extBut _ _ S.TOz.symm (b2.extBut _ _ S.zi1 z1))) he fun c o q1 q2 q3 q4 x => b4 _ _ q4 (b3.extBut _ _ q2 (b2.extBut _ _ q3 (b1.extBut _ _ q1 x)))
    · refine wpAny_bind (D1.done ⟨h1, gn, dn, tk0, os⟩ _ _ (by rw [← eq]; exact D1.over t1 b1 S.zf1) fun q e b2 he => ?_)
      have b2 : Heap.ExtBut i1 h1 q := b2
      exact out q tk0 e (b2 _ _ S.zi1 z1) he fun c o q1 q2 q3 q4 x => b2 _ _ q3 (b1.extBut _ _ q1 x)
theorem Zs.ty (hz : Zs s.heap z TI TO) : s.TypeIs (.ref z) "zip" := by
  obtain ⟨_, _, _, h⟩ := hz
  exact ⟨_, h, rfl⟩
theorem z_next {Q : Option Value → Shared → Prop} (S : ZipSep2 z TI TO i1 i2 fp1 fp2) (D1 : PySem.Draws prog w A.in1 i1 fp1 n1 P1 St1) (D2 : PySem.Draws prog w A.in1 i2 fp2 n2 P2 St2) (hz : Zs s.heap z TI TO) (hTI : IsTupOf2 s.heap TI (.ref i1) (.ref i2)) (hTO : IsTupOf2 s.heap TO a1 a2) (t1 : St1 i s.heap) (t2 : St2 i s.heap) (l1 : i < n1) (l2 : i < n2)
    (hQ : ∀ x y h' tk, P1 i x → P2 i y → Zs h' z TI TO → (∃ b c, IsTupOf2 h' TO b c) → St1 (i + 1) h' → St2 (i + 1) h' → IsTupOf2 h' s.heap.objs.size x y →
      (∀ c o, c ≠ z → c ≠ TO → c ≠ i1 → c ≠ i2 → s.heap.get? c = some o → h'.get? c = some o) → Q (some (.ref s.heap.objs.size)) { s with heap := h', toks := tk }) :
    wpAny (model prog w) A (pyNext (.ref z)) Q E s := by
  unfold pyNext
  refine wpAny_bind (wpAny_attempt (wpAny_callSpecial?_slot (name := Str.ofString "__next__") hz.ty F.slot_zip_next (wpAny_call_entry F.slot_zip_next hz.ty F.entry_zip_next ?_ (F.args_zip_next_1 _))))
  exact z_item S D1 D2 hz hTI hTO t1 t2 l1 l2 fun x y h' tk c1 c2 c3 c4 c5 c6 c7 c8 => wpAny_pure (hQ x y h' tk c1 c2 c3 c4 c5 c6 c7 c8)
theorem z_stop {Q : Option Value → Shared → Prop} (S : ZipSep2 z TI TO i1 i2 fp1 fp2) (D1 : PySem.Draws prog w A.in1 i1 fp1 n1 P1 St1) (D2 : PySem.Draws prog w A.in1 i2 fp2 n2 P2 St2) (hz : Zs s.heap z TI TO) (hTI : IsTupOf2 s.heap TI (.ref i1) (.ref i2)) (hTO : IsTupOf2 s.heap TO a1 a2) (t1 : St1 i s.heap) (t2 : St2 i s.heap) (l1 : i ≤ n1) (l2 : i ≤ n2) (hend : i = n1 ∨ i = n2)
    (hQ : ∀ h' tk, (∀ c o, c ≠ z → c ≠ TO → c ≠ i1 → c ≠ i2 → s.heap.get? c = some o → h'.get? c = some o) → Q none { s with heap := h', toks := tk }) : wpAny (model prog w) A (pyNext (.ref z)) Q E s := by
  unfold pyNext
  refine wpAny_bind (wpAny_attempt (wpAny_callSpecial?_slot (name := Str.ofString "__next__") hz.ty F.slot_zip_next (wpAny_call_entry F.slot_zip_next hz.ty F.entry_zip_next ?_ (F.args_zip_next_1 _))))
  refine z_end S D1 D2 hz hTI hTO t1 t2 l1 l2 hend ?_
  rintro h' tk e hk ⟨o, ho, hc⟩
  exact wpAny_bind (wpAny_isInstance (T := "StopIteration") (b := true) ⟨o, ho, hc⟩ isSubtype_stop (wpAny_pure (hQ _ _ hk)))
end
theorem turn_zN {P : Program} {w : World} {K : Fg} {x : Str} {tpos : Pos} (k1 k2 : Kd) {a b z TI TO i1 i2 : Addr} (S : ZipSep2 z TI TO i1 i2 [i1, a] [i2, b]) (n1 : a ≠ i1) (n2 : b ≠ i2) :
    Turn P w K (.Name x tpos) (ItZ K k1 k2 a b) [z, TI, TO, i1, i2] z (fun i h => Zs h z TI TO ∧ IsTupOf2 h TI (.ref i1) (.ref i2) ∧ (∃ x y, IsTupOf2 h TO x y) ∧ k1.itr h i1 a i ∧ k2.itr h i2 b i) where
  mem := List.mem_cons_self
  obj := by
    rintro i h ⟨⟨v, f, _, hz⟩, hTI, ⟨x, y, hTO⟩, h1, h2⟩ c hc
    simp only [List.mem_cons, List.not_mem_nil, or_false] at hc
    rcases hc with rfl | rfl | rfl | rfl | rfl
    · exact ⟨_, hz, fun v q => nomatch q⟩
    · exact ⟨_, hTI, fun v q => nomatch q⟩
    · exact ⟨_, hTO, fun v q => nomatch q⟩
    · exact k1.itr_obj h1
    · exact k2.itr_obj h2
  keep := by
    rintro i h h' ⟨⟨v, f, hv, hz⟩, hTI, ⟨x, y, hTO⟩, h1, h2⟩ hk
    exact ⟨⟨v, f, hv, hk z (by simp) _ hz⟩, hk TI (by simp) _ hTI, ⟨x, y, hk TO (by simp) _ hTO⟩, k1.itr_at h1 fun o q => hk i1 (by simp) o q, k2.itr_at h2 fun o q => hk i2 (by simp) o q⟩
  item := by
    rintro X rfl rfl rfl hc i pins s σ H E I hf ⟨hz, hTI, ⟨x0, y0, hTO⟩, h1, h2⟩ ⟨xs, ys, x, y, hqx, hqy, hx, hy⟩
    obtain ⟨its1, rv1, p1⟩ := k1.inv I hqx
    obtain ⟨its2, rv2, p2⟩ := k2.inv I hqy
    obtain ⟨u1, hu1, ru1⟩ := rv1.get hx
    obtain ⟨u2, hu2, ru2⟩ := rv2.get hy
    have d1 := k1.draws (prog := X.prog) (w := X.w) (A := X.A.in1) (I.ok.hd hc) i1 a n1 its1.toArray
    have d2 := k2.draws (prog := X.prog) (w := X.w) (A := X.A.in1) (I.ok.hd hc) i2 b n2 its2.toArray
    refine z_next S d1 d2 hz hTI hTO ⟨h1, p1⟩ ⟨h2, p2⟩ (sz_lt hu1) (sz_lt hu2) fun w1 w2 g tk e1 e2 hz2 hTO2 s1 s2 hT hk => ?_
    obtain rfl : w1 = u1 := arr_get hu1 e1
    obtain rfl : w2 = u2 := arr_get hu2 e2
    refine ⟨_, rfl, wpAny_pure ?_⟩
    have nw := new_ok (P := X.prog) (w := X.w) (H := H) (vs := [x, y]) hT (.cons ru1 (.cons ru2 .nil)) (by simp)
    have I1 := I.turnedNew (t' := tk) (ch := [z, TI, TO, i1, i2]) (h' := g) (fun c o hb q => hk c o (fun z => hb (by simp [z])) (fun z => hb (by simp [z])) (fun z => hb (by simp [z])) (fun z => hb (by simp [z])) q) hf (Nat.le_refl _) nw
    refine ⟨.ref s.heap.objs.size, _, I1, rfl, ⟨_, x, y, rfl, I.hok.fresh (Nat.le_refl _), rfl, fun l hl => by rw [k1.inj I hqx hl]; exact hx, fun l hl => by rw [k2.inj I hqy hl]; exact hy⟩, ⟨hz2, hk _ _ S.TIz S.TITO S.TIi1 S.TIi2 hTI, hTO2, s1.1, s2.1⟩, ?_⟩
    intro c hcm
    have cl : c < s.heap.objs.size := by
      obtain ⟨v, f, _, hz⟩ := hz
      have hcm2 := hcm
      simp only [List.mem_cons, List.not_mem_nil, or_false] at hcm2
      rcases hcm2 with rfl | rfl | rfl | rfl | rfl
      · exact Heap.lt_size hz
      · exact Heap.lt_size hTI
      · exact Heap.lt_size hTO
      · obtain ⟨_, q, _⟩ := k1.itr_obj h1; exact Heap.lt_size q
      · obtain ⟨_, q, _⟩ := k2.itr_obj h2; exact Heap.lt_size q
    rw [upd_ne (Nat.ne_of_lt cl)]
    exact (hf c hcm).1
  done := by
    rintro X rfl rfl rfl hc i pins s σ H E I hf ⟨hz, hTI, ⟨x0, y0, hTO⟩, h1, h2⟩ ⟨xs, ys, hqx, hqy, l1, l2, hend⟩
    obtain ⟨its1, rv1, p1⟩ := k1.inv I hqx
    obtain ⟨its2, rv2, p2⟩ := k2.inv I hqy
    have m1 : its1.toArray.size = xs.length := by rw [rv1.length]; simp
    have m2 : its2.toArray.size = ys.length := by rw [rv2.length]; simp
    have d1 := k1.draws (prog := X.prog) (w := X.w) (A := X.A.in1) (I.ok.hd hc) i1 a n1 its1.toArray
    have d2 := k2.draws (prog := X.prog) (w := X.w) (A := X.A.in1) (I.ok.hd hc) i2 b n2 its2.toArray
    refine z_stop S d1 d2 hz hTI hTO ⟨h1, p1⟩ ⟨h2, p2⟩ (by omega) (by omega) (by omega) fun g tk hk => ⟨rfl, ?_⟩
    exact I.turnedL (t' := tk) (ch := [z, TI, TO, i1, i2]) (fun c o hb q => hk c o (fun z => hb (by simp [z])) (fun z => hb (by simp [z])) (fun z => hb (by simp [z])) (fun z => hb (by simp [z])) q) hf
  self := by
    rintro A i s Q E ⟨hz, _⟩ h
    refine wpAny_pyIter_slot hz.ty F.slot_zip_iter (wpAny_call_entry F.slot_zip_iter hz.ty F.entry_zip_iter ?_ (F.args_zip_iter_1 _))
    change wpAny (model P w) _ (ret (.ref z)) _ _ s
    exact wpAny_pure ⟨_, rfl, "zip", _, hz.ty, F.slot_zip_next.lookup, h⟩
theorem pi_zpN {X : Cx} {e e2 : Expr} {ta : TA} {p pos tpos : Pos} {x : Str} (hg : Gl X "zip") (hm : X.mg "zip" = none) (ha : PA X [e, e2] ta)
    (hs : starEach [e, e2] X.env = (false, eval e X.env) :: starEach [e2] X.env) (hpl : (backTo pos (starEach [e2] X.env)).any (·.1) = false) : PI X (.Name x tpos) (.Call (.Name "zip" p) [e, e2] [] pos) (iZpK X.K ta) := by
  refine ⟨fun pins s σ H R I h => ?_⟩
  refine Call_ (ld_blt I hg hm PyProof.Rows.boot_zip (PyProof.Rows.callWith_type1 (thn (ha.run pos pins s σ H _ I h) ?_) hs hpl))
  rintro us s1 ⟨vs, H1, I1, r1, k1, k2, a, b, xs, ys, rfl, hqx, hqy, q⟩
  cases r1 with
  | cons r rr =>
    cases rr with
    | cons r' rr =>
      cases rr
      cases r
      cases r'
      obtain ⟨its1, rv1, p1⟩ := k1.inv I1 hqx
      obtain ⟨its2, rv2, p2⟩ := k2.inv I1 hqy
      have al := k1.lt p1
      have bl := k2.lt p2
      refine zip_begins2 (k1.starts a its1.toArray) (k2.starts b its2.toArray) p1 p2 fun h2 hz hTI hTO o1 o2 hsz hk => wpAny_pyIter_zip hz ?_
      have I2 : Inv X pins σ H1 { s1 with heap := h2 } := I1.kept (t' := s1.toks) hk
      refine ⟨s1.heap.objs.size + 4, [s1.heap.objs.size + 4, s1.heap.objs.size + 2, s1.heap.objs.size + 3, s1.heap.objs.size, s1.heap.objs.size + 1], _, _, H1, rfl, I2, turn_zN k1 k2 (a := a) (b := b) (sep2 _ a b al bl) (Nat.ne_of_lt al) (Nat.ne_of_lt (Nat.lt_succ_of_lt bl)), ⟨⟨_, _, .inl rfl, hz⟩, hTI, ⟨_, _, hTO⟩, k1.itr0 o1, k2.itr0 o2⟩, ?_, q⟩
      intro c hc
      have hle : s1.heap.objs.size ≤ c := new_le (ks := [4, 2, 3, 0, 1]) hc
      exact I1.fpOk hle (I1.hok.fresh hle)
end Tg
namespace Tg
open PySem PySem.Spec PyProof.Rows L2
mutual
def pyR : D → PyData
  | .bl b => .bool b
  | .int i => .int i
  | .str x => .str x
  | .tup xs => .tuple (pyRs xs)
  | .lst xs => .list (pyRs xs)
  | .dic => .dict []
  | _ => .none
def pyRs : List D → List PyData
  | [] => []
  | d :: ds => pyR d :: pyRs ds
end
mutual
def layR : D → Bool
  | .non => true
  | .bl _ => true
  | .int _ => true
  | .str x => PyData.strOk x
  | .tup xs => layRs xs
  | .lst xs => layRs xs
  | .dic => true
  | _ => false
def layRs : List D → Bool
  | [] => true
  | d :: ds => layR d && layRs ds
end
section
variable {X : Cx} {pins : List (Addr × Obj)} {σ : L2.St} {H : Hp} {s : Shared} {r m : List Addr}
/-- an empty dict, as it lies in memory -/
theorem dic_at (I : Inv X pins σ H s) {a : Addr} (h : H a = some (.dK [])) : (a == sysModules) = false ∧ ∃ o n, s.heap.get? a = some o ∧ o.cls = .type "dict" ∧ o.data = .dict #[] n := by
  obtain ⟨_, hn, vs, kv, o, es, ep, ho, hx, hd, _, hp, _⟩ : ([] : List (Key × V)).length ≤ sizeLine ∧ (a == sysModules) = false ∧ ∃ vs, KV ([] : List (Key × V)) vs ∧ s.heap.DictOf (mixKind X.prog X.w) a vs := I.hok a _ h
  cases kv
  refine ⟨hn, o, ep, ho, hx.1, ?_⟩
  have hl := hp.length
  rw [hd]
  obtain ⟨l⟩ := es
  cases l with
  | nil => rfl
  | cons e l => cases hl
mutual
theorem Den.readsR (I : Inv X pins σ H s) : ∀ (d : D) (v : V) (u : Value), Den X.K r m H d v → layR d = true → RelV v u → ∃ as, Reads s.heap u (pyR d) as
  | .non, _, _, h, _, q => by
    cases h
    cases q
    exact ⟨_, Reads.none⟩
  | .bl b, _, _, h, _, q => by
    cases h
    cases q
    exact ⟨_, Reads.bool b⟩
  | .int i, _, _, h, _, q => by
    cases h
    obtain ⟨t, rfl⟩ := q
    exact ⟨_, Reads.int i t⟩
  | .str x, _, _, h, _, q => by
    cases h
    obtain ⟨t, rfl⟩ := q
    exact ⟨_, Reads.str x t⟩
  | .tup ds, _, _, h, l, q => by
    obtain ⟨a, xs, rfl, i, hq⟩ := h
    cases q
    obtain ⟨its, rv, ⟨o, ho, hc, n, hd⟩, _⟩ := I.tuple i.sq
    obtain ⟨as, hr⟩ := Dens.readsR I ds _ its hq (by simpa [layR] using l) rv
    exact ⟨_, Reads.tuple ho hc hd hr⟩
  | .lst ds, _, _, h, l, q => by
    obtain ⟨a, xs, rfl, i, _, _, hq⟩ := h
    cases q
    obtain ⟨its, rv, ⟨o, n, ho, hc, _, hd⟩, _⟩ := I.list (SqL.of i)
    obtain ⟨as, hr⟩ := Dens.readsR I ds _ its hq (by simpa [layR] using l) rv
    exact ⟨_, Reads.list ho hc hd hr⟩
  | .dic, _, _, h, _, q => by
    obtain ⟨a, rfl, ha, _⟩ := h
    cases q
    obtain ⟨_, o, n, ho, hc, hd⟩ := dic_at I ha
    exact ⟨_, Reads.dict ho hc hd ReadsAll.nil ReadsAll.nil⟩
  | .scr _, _, _, _, l, _ => by simp [layR] at l
  | .loc _, _, _, _, l, _ => by simp [layR] at l
  | .cel _ _, _, _, _, l, _ => by simp [layR] at l
  | .tag _, _, _, _, l, _ => by simp [layR] at l
  | .otp _, _, _, _, l, _ => by simp [layR] at l
theorem Dens.readsR (I : Inv X pins σ H s) : ∀ (ds : List D) (vs : List V) (us : List Value), Dens X.K r m H ds vs → layRs ds = true → Vals vs us → ∃ as, ReadsAll s.heap us (pyRs ds) as
  | [], _, _, h, _, q => by
    cases h
    cases q
    exact ⟨_, ReadsAll.nil⟩
  | d :: ds, _, _, h, l, q => by
    obtain ⟨x, rs, rfl, h1, h2⟩ := h
    simp only [layRs, Bool.and_eq_true] at l
    cases q with
    | cons r1 r2 =>
      obtain ⟨as, q1⟩ := Den.readsR I d _ _ h1 l.1 r1
      obtain ⟨bs, q2⟩ := Dens.readsR I ds _ _ h2 l.2 r2
      exact ⟨_, ReadsAll.cons q1 q2⟩
end
mutual
theorem rk_of (I : Inv X pins σ H s) : ∀ (d : D) (v : V) (u : Value), Den X.K r m H d v → layR d = true → RelV v u → (pyR d).showable = true → (pyR d).shown.length ≤ sizeLine → ∃ bs, ReadAtMost s.heap (pyR d).depth bs ∧ ReprK X.prog X.w bs s.heap (pyR d).depth u (pyR d).shown
  | .non, _, _, h, _, q, _, _ => by
    cases h
    cases q
    refine ⟨[], (fun _ z => nomatch z), ?_⟩
    simp only [pyR, PyData.shown]
    exact .of_is ReprIs.none _ _ _
  | .bl b, _, _, h, _, q, _, _ => by
    cases h
    cases q
    refine ⟨[], (fun _ z => nomatch z), ?_⟩
    simp only [pyR, PyData.shown]
    exact .of_is (ReprIs.bool b) _ _ _
  | .int i, _, _, h, _, q, hs, _ => by
    cases h
    obtain ⟨t, rfl⟩ := q
    refine ⟨[], (fun _ z => nomatch z), ?_⟩
    simp only [pyR, PyData.shown]
    exact .of_is (ReprIs.int t (by simpa [pyR, PyData.showable] using hs)) _ _ _
  | .str x, _, _, h, _, q, _, hz => by
    cases h
    obtain ⟨t, rfl⟩ := q
    refine ⟨[], (fun _ z => nomatch z), ?_⟩
    simp only [pyR, PyData.shown]
    exact .of_is (ReprIs.str x t (by simpa only [pyR, PyData.shown] using hz)) _ _ _
  | .tup ds, v, u, h, l, q, hs, hz => by
    obtain ⟨as0, rd⟩ := Den.readsR I (.tup ds) v u h l q
    obtain ⟨a, xs, rfl, i, hq⟩ := h
    cases q
    obtain ⟨its, rv, ⟨o, ho, hc, n, hd⟩, _⟩ := I.tuple i.sq
    simp only [pyR] at hs hz rd ⊢
    have hz2 : (tupleText (PyData.shownAll (pyRs ds))).length ≤ sizeLine := by simpa only [PyData.shown] using hz
    obtain ⟨bs, hb, hk⟩ := rks_of I ds xs its hq (by simpa [layR] using l) rv (by simpa [PyData.showable] using hs) fun t ht => Nat.le_trans (tupleText_mem_le ht) hz2
    have out : a ∉ bs := not_mem_of_deeper rd (by simp only [PyData.depth]; omega) hb
    refine ⟨a :: bs, ReadAtMost.cons rd (by simp only [PyData.depth]; omega) hb, ?_⟩
    simp only [PyData.shown, PyData.depth]
    exact ReprK.tuple ho hc hd out hk
  | .lst ds, v, u, h, l, q, hs, hz => by
    obtain ⟨as0, rd⟩ := Den.readsR I (.lst ds) v u h l q
    obtain ⟨a, xs, rfl, i, _, _, hq⟩ := h
    cases q
    obtain ⟨its, rv, ⟨o, n, ho, hc, _, hd⟩, _⟩ := I.list (SqL.of i)
    simp only [pyR] at hs hz rd ⊢
    have hz2 : (listText (PyData.shownAll (pyRs ds))).length ≤ sizeLine := by simpa only [PyData.shown] using hz
    obtain ⟨bs, hb, hk⟩ := rks_of I ds xs its hq (by simpa [layR] using l) rv (by simpa [PyData.showable] using hs) fun t ht => Nat.le_trans (listText_mem_le ht) hz2
    have out : a ∉ bs := not_mem_of_deeper rd (by simp only [PyData.depth]; omega) hb
    refine ⟨a :: bs, ReadAtMost.cons rd (by simp only [PyData.depth]; omega) hb, ?_⟩
    simp only [PyData.shown, PyData.depth]
    cases its with
    | nil =>
      cases ds with
      | nil =>
        simp only [pyRs, PyData.shownAll, listText_nil]
        exact ReprK.listEmpty ho hc hd
      | cons e es =>
        obtain ⟨x, rs, rfl, _⟩ := hq
        cases rv
    | cons y l => exact ReprK.list ho hc hd out (by simpa using hk.length_eq) fun j y e => hk.item j y (by simpa using e)
  | .dic, v, u, h, l, q, _, _ => by
    obtain ⟨as0, rd⟩ := Den.readsR I .dic v u h l q
    obtain ⟨a, rfl, ha, _⟩ := h
    cases q
    obtain ⟨hn, o, n, ho, hc, hd⟩ := dic_at I ha
    refine ⟨[a], ReadAtMost.cons rd (Nat.zero_le _) (fun _ z => nomatch z), ?_⟩
    have e1 : (pyR .dic).shown = dictText [] := by simp only [pyR, PyData.shown, PyData.shownKv]
    have e2 : (pyR .dic).depth = 0 + 1 := by simp [pyR, PyData.depth, PyData.depthKv]
    rw [e1, e2]
    exact ReprK.dict ho hc hd hn List.not_mem_nil ReprEntriesK.nil
  | .scr _, _, _, _, l, _, _, _ => by simp [layR] at l
  | .loc _, _, _, _, l, _, _, _ => by simp [layR] at l
  | .cel _ _, _, _, _, l, _, _, _ => by simp [layR] at l
  | .tag _, _, _, _, l, _, _, _ => by simp [layR] at l
  | .otp _, _, _, _, l, _, _, _ => by simp [layR] at l
theorem rks_of (I : Inv X pins σ H s) : ∀ (ds : List D) (vs : List V) (us : List Value), Dens X.K r m H ds vs → layRs ds = true → Vals vs us → PyData.showableAll (pyRs ds) = true → (∀ t ∈ PyData.shownAll (pyRs ds), t.length ≤ sizeLine) → ∃ bs, ReadAtMost s.heap (PyData.depthAll (pyRs ds)) bs ∧ ReprAllK X.prog X.w bs s.heap (PyData.depthAll (pyRs ds)) us (PyData.shownAll (pyRs ds))
  | [], _, _, h, _, q, _, _ => by
    cases h
    cases q
    refine ⟨[], (fun _ z => nomatch z), ?_⟩
    simp only [pyRs, PyData.shownAll]
    exact .nil
  | d :: ds, _, _, h, l, q, hs, hz => by
    obtain ⟨x, rs, rfl, h1, h2⟩ := h
    simp only [layRs, Bool.and_eq_true] at l
    have hs2 : (pyR d).showable = true ∧ PyData.showableAll (pyRs ds) = true := by simpa [pyRs, PyData.showableAll] using hs
    simp only [pyRs, PyData.shownAll, PyData.depthAll] at hz ⊢
    cases q with
    | cons q1 q2 =>
      obtain ⟨b1, hb1, k1⟩ := rk_of I d _ _ h1 l.1 q1 hs2.1 (hz _ List.mem_cons_self)
      obtain ⟨b2, hb2, k2⟩ := rks_of I ds _ _ h2 l.2 q2 hs2.2 fun t ht => hz t (List.mem_cons_of_mem _ ht)
      refine ⟨b1 ++ b2, (hb1.mono (Nat.le_max_left _ _)).append (hb2.mono (Nat.le_max_right _ _)), ?_⟩
      have m1 := (k1.more (as' := b1 ++ b2) fun b hb => List.mem_append_left _ hb).level_le (Nat.le_max_left _ (PyData.depthAll (pyRs ds)))
      have m2 := k2.more_le (as' := b1 ++ b2) (fun b hb => List.mem_append_right _ hb) (Nat.le_max_right (pyR d).depth _)
      exact .cons m1 m2
end
mutual
theorem depR_le : ∀ d : D, (pyR d).depth ≤ dep d + 1
  | .non => by simp [pyR, PyData.depth]
  | .bl _ => by simp [pyR, PyData.depth]
  | .int _ => by simp [pyR, PyData.depth]
  | .str _ => by simp [pyR, PyData.depth]
  | .tup xs => by
    have := depRs_le xs
    simp only [pyR, PyData.depth, dep]
    omega
  | .lst xs => by
    have := depRs_le xs
    simp only [pyR, PyData.depth, dep]
    omega
  | .dic => by simp [pyR, PyData.depth, PyData.depthKv]
  | .scr _ => by simp [pyR, PyData.depth]
  | .loc _ => by simp [pyR, PyData.depth]
  | .cel _ _ => by simp [pyR, PyData.depth]
  | .tag _ => by simp [pyR, PyData.depth]
  | .otp _ => by simp [pyR, PyData.depth]
theorem depRs_le : ∀ ds : List D, PyData.depthAll (pyRs ds) ≤ deps ds + 1
  | [] => by simp [pyRs, PyData.depthAll]
  | d :: ds => by
    have h1 := depR_le d
    have h2 := depRs_le ds
    simp only [pyRs, PyData.depthAll, deps]
    omega
end
def shownR (d : D) : Str := (pyR d).shown
def rpOkR (d : D) : Bool := layR d && decide (dep d ≤ 60) && (pyR d).showable && fits (shownR d).length
/-- repr of a list or tuple or of an empty dict -/
theorem reprR_ok (I : Inv X pins σ H s) (gd : X.A.guards = some []) (hu : X.A.units + 80 < cLine) {d : D} {a : Addr} (hd : Den X.K r m H d (.ref a)) (ok : rpOkR d = true) {Q : Value → Shared → Prop} {E : Value → Shared → Prop}
    (fin : ∀ h' t tk, (∀ b o, s.heap.get? b = some o → h'.get? b = some o) → Q (.str (shownR d) t) { s with heap := h', toks := tk }) : wpAny (model X.prog X.w) X.A (call (.builtin "repr") [.ref a]) Q E s := by
  unfold rpOkR at ok
  simp only [Bool.and_eq_true, decide_eq_true_eq] at ok
  obtain ⟨⟨⟨l, dp⟩, hs⟩, hf⟩ := ok
  have hz : (pyR d).shown.length ≤ sizeLine := fits_line hf
  have du := depR_le d
  obtain ⟨as0, rd⟩ := Den.readsR I d _ _ hd l (show RelV (.ref a) (.ref a) from rfl)
  have all : ∀ b o, s.heap.get? b = some o → s.heap.get? b = some o := fun _ _ e => e
  cases d with
  | tup ds =>
    obtain ⟨a2, xs, e, i, hq⟩ := hd
    cases e
    obtain ⟨its, rv, ⟨o, ho, hc, n, hd⟩, _⟩ := I.tuple i.sq
    simp only [pyR] at hs hz rd du
    have hz2 : (tupleText (PyData.shownAll (pyRs ds))).length ≤ sizeLine := by simpa only [PyData.shown] using hz
    obtain ⟨bs, hb, hk⟩ := rks_of I ds xs its hq (by simpa [layR] using l) rv (by simpa [PyData.showable] using hs) fun t ht => Nat.le_trans (tupleText_mem_le ht) hz2
    have out : a ∉ bs := not_mem_of_deeper rd (by simp only [PyData.depth]; omega) hb
    simp only [PyData.depth] at du
    refine call_repr_slot (by omega) ⟨o, ho, hc⟩ F.slot_tuple_repr (call_tuple_reprK ho hc hd out hk gd (fun b _ => Clear.nil b) (show X.A.units + 1 + _ < cLine by omega) all (fun h' u tk hk => ⟨_, _, rfl, ?_⟩) hz2)
    have := fin h' u tk hk
    simpa only [shownR, pyR, PyData.shown] using this
  | lst ds =>
    obtain ⟨a2, xs, e, i, _, _, hq⟩ := hd
    cases e
    obtain ⟨its, rv, ⟨o, n, ho, hc, _, hd⟩, _⟩ := I.list (SqL.of i)
    simp only [pyR] at hs hz rd du
    have hz2 : (listText (PyData.shownAll (pyRs ds))).length ≤ sizeLine := by simpa only [PyData.shown] using hz
    obtain ⟨bs, hb, hk⟩ := rks_of I ds xs its hq (by simpa [layR] using l) rv (by simpa [PyData.showable] using hs) fun t ht => Nat.le_trans (listText_mem_le ht) hz2
    have out : a ∉ bs := not_mem_of_deeper rd (by simp only [PyData.depth]; omega) hb
    simp only [PyData.depth] at du
    have fin : ∀ h' t tk, (∀ b o, s.heap.get? b = some o → h'.get? b = some o) → Q (.str (listText (PyData.shownAll (pyRs ds))) t) { s with heap := h', toks := tk } := fun h' t tk hk => by
      have := fin h' t tk hk
      simpa only [shownR, pyR, PyData.shown] using this
    cases its with
    | nil =>
      cases ds with
      | nil =>
        simp only [pyRs, PyData.shownAll, listText_nil] at fin
        exact call_repr_slot (by omega) ⟨o, ho, hc⟩ F.slot_list_repr.toG (call_list_repr_empty ⟨o, ho, hc⟩ ho hd ⟨_, _, rfl, fin s.heap _ _ all⟩)
      | cons e es =>
        obtain ⟨x, rs, rfl, _⟩ := hq
        cases rv
    | cons y l =>
      exact call_repr_slot (by omega) ⟨o, ho, hc⟩ F.slot_list_repr.toG (call_list_reprK ho hc hd out (by simpa using hk.length_eq) (fun j y e => hk.item j y (by simpa using e)) gd (fun b _ => Clear.nil b) (show X.A.units + 1 + _ < cLine by omega) all (fun h' u tk hk => ⟨_, _, rfl, fin h' u tk hk⟩) hz2)
  | dic =>
    obtain ⟨a2, e, ha, _⟩ := hd
    cases e
    obtain ⟨hn, o, n, ho, hc, hd⟩ := dic_at I ha
    refine call_repr_slot (by omega) ⟨o, ho, hc⟩ F.slot_dict_repr (call_dict_reprK (as := []) (d := 0) (ps := []) ho hc hd hn List.not_mem_nil ReprEntriesK.nil gd (fun b _ => Clear.nil b) (show X.A.units + 1 + _ < cLine by omega) all (fun h' u tk hk => ⟨_, _, rfl, ?_⟩) ?_)
    · have := fin h' u tk hk
      simpa only [shownR, pyR, PyData.shown, PyData.shownKv] using this
    · simpa only [pyR, PyData.shown, PyData.shownKv] using hz
  | non => cases hd
  | bl _ => cases hd
  | int _ => cases hd
  | str _ => cases hd
  | scr _ => simp [layR] at l
  | loc _ => simp [layR] at l
  | cel _ _ => simp [layR] at l
  | tag _ => simp [layR] at l
  | otp _ => simp [layR] at l
end
end Tg
namespace Tg
open PySem PySem.Spec PyProof.Rows L2
def eAppend (fo : DE) (fa : DE) : DE := fun env st => (fo env st).bind fun p => (fa env p.2).bind fun q => match p.1 with
  | .loc n => (q.2[n]?).bind fun xs => if fits xs.length then some (.non, q.2.set n (xs ++ [q.1])) else none
  | _ => none
section
variable {K : Fg} {σ : L2.St} {H : Hp} {Q : VK}
theorem ty_loc {r m : List Addr} {st : Sto} {n : Nat} {v : V} (g : Good K r m st H) (h : Den K r m H (.loc n) v) : tyV K "list" v H := by
  obtain ⟨a, rfl, ha, xs, q⟩ := h
  exact .inl ⟨rfl, xs, SqL.of q⟩
theorem t_append {fo fa : DE} (h : tE K (eAppend fo fa) σ H Q) : tBM K "list" rAppend (tE K fo) (tAr K (aCons fa aNil)) σ H Q := by
  obtain ⟨r, m, st, env, d, st', g, e, f, q⟩ := h
  unfold eAppend at f
  obtain ⟨⟨x, s1⟩, f1, f⟩ := Option.bind_eq_some_iff.mp f
  obtain ⟨⟨y, s2⟩, f2, f⟩ := Option.bind_eq_some_iff.mp f
  dsimp only at f
  cases x with
  | loc n =>
    obtain ⟨xs, f3, f⟩ := Option.bind_eq_some_iff.mp f
    split at f
    · next hz =>
      cases f
      refine ⟨r, m, st, env, _, s1, g, e, f1, fun m1 H1 v1 l1 g1 d1 => ⟨ty_loc g1 d1, ?_⟩⟩
      have fr : aCons fa aNil env s1 = some ([y], s2) := by
        unfold aCons aNil
        rw [show fa env s1 = some (y, s2) from f2]
        rfl
      refine ⟨r, m1, s1, env, [y], s2, g1, e.mono l1, fr, fun m2 H2 vs l2 g2 d2 => ?_⟩
      obtain ⟨w, tl, rfl, a2, b2⟩ := d2
      cases b2
      obtain ⟨a, rfl, ha, ys0, hy0⟩ := d1.mono l2
      obtain ⟨us, h1, z, dd⟩ := g2.cellL ha f3 hy0
      have hz2 : us.length < sizeLine := by
        rw [← dd.len]
        exact fits_lt hz
      obtain ⟨l3, g3⟩ := g2.put (xs := us ++ [w]) (c := xs ++ [y]) ha h1 (by rw [List.length_append]; exact hz2) (dd.append (Dens.one a2))
      exact ⟨a, us, w, rfl, rfl, h1, hz2, q m2 _ _ ((l1.trans l2).trans l3) g3 rfl⟩
    · cases f
  | _ => cases f
/-- x.extend(list) -/
def eExtend (fo : DE) (fa : DE) : DE := fun env st => (fo env st).bind fun p => (fa env p.2).bind fun q => match p.1 with
  | .loc n => (q.2[n]?).bind fun xs => (lstOf q.2 q.1).bind fun ys => if fits (xs.length + ys.length) then some (.non, q.2.set n (xs ++ ys)) else none
  | _ => none
theorem args1 {fa : DE} {env : En} {s1 s2 : Sto} {y : D} (f2 : fa env s1 = some (y, s2)) : aCons fa aNil env s1 = some ([y], s2) := by
  unfold aCons aNil
  rw [f2]
  rfl
theorem t_extend {fo fa : DE} (h : tE K (eExtend fo fa) σ H Q) : tBM K "list" rExtend (tE K fo) (tAr K (aCons fa aNil)) σ H Q := by
  obtain ⟨r, m, st, env, d, st', g, e, f, q⟩ := h
  unfold eExtend at f
  obtain ⟨⟨x, s1⟩, f1, f⟩ := Option.bind_eq_some_iff.mp f
  obtain ⟨⟨y, s2⟩, f2, f⟩ := Option.bind_eq_some_iff.mp f
  dsimp only at f
  cases x with
  | loc n =>
    obtain ⟨xs, f3, f⟩ := Option.bind_eq_some_iff.mp f
    obtain ⟨ys, f4, f⟩ := Option.bind_eq_some_iff.mp f
    split at f
    · next hz =>
      cases f
      refine ⟨r, m, st, env, _, s1, g, e, f1, fun m1 H1 v1 l1 g1 d1 => ⟨ty_loc g1 d1, ?_⟩⟩
      refine ⟨r, m1, s1, env, [y], s2, g1, e.mono l1, args1 f2, fun m2 H2 vs l2 g2 d2 => ?_⟩
      obtain ⟨w, tl, rfl, a2, b2⟩ := d2
      cases b2
      obtain ⟨a, rfl, ha, ys0, hy0⟩ := d1.mono l2
      obtain ⟨us, h1, z, dd⟩ := g2.cellL ha f3 hy0
      obtain ⟨b, ws, rfl, hb, db, zb⟩ := lst_list0 g2 a2 f4
      have hz2 : us.length + ws.length ≤ sizeLine := by
        rw [← dd.len, ← db.len]
        exact fits_line hz
      obtain ⟨l3, g3⟩ := g2.put (xs := us ++ ws) (c := xs ++ ys) ha h1 (by rw [List.length_append]; exact hz2) (dd.append db)
      exact ⟨a, b, us, ws, rfl, rfl, h1, hb, hz2, q m2 _ _ ((l1.trans l2).trans l3) g3 rfl⟩
    · cases f
  | _ => cases f
/-- x.pop(i), i not negative -/
def ePopAt (fo : DE) (fa : DE) : DE := fun env st => (fo env st).bind fun p => (fa env p.2).bind fun q => match p.1, q.1 with
  | .loc n, .int i => (q.2[n]?).bind fun xs => if decide (0 ≤ i) && decide (i < (xs.length : Int)) && decide (i ≤ 1000000) then (xs[i.toNat]?).map fun y => (y, q.2.set n (xs.eraseIdx i.toNat)) else none
  | _, _ => none
theorem t_popAt {fo fa : DE} (h : tE K (ePopAt fo fa) σ H Q) : tBM K "list" rPopAt (tE K fo) (tAr K (aCons fa aNil)) σ H Q := by
  obtain ⟨r, m, st, env, d, st', g, e, f, q⟩ := h
  unfold ePopAt at f
  obtain ⟨⟨x, s1⟩, f1, f⟩ := Option.bind_eq_some_iff.mp f
  obtain ⟨⟨y, s2⟩, f2, f⟩ := Option.bind_eq_some_iff.mp f
  dsimp only at f
  split at f
  · next n i _ =>
    obtain ⟨xs, f3, f⟩ := Option.bind_eq_some_iff.mp f
    split at f
    · next hz =>
      obtain ⟨w, f4, f⟩ := Option.map_eq_some_iff.mp f
      cases f
      simp only [Bool.and_eq_true, decide_eq_true_eq] at hz
      obtain ⟨⟨h0, hl⟩, hm⟩ := hz
      refine ⟨r, m, st, env, _, s1, g, e, f1, fun m1 H1 v1 l1 g1 d1 => ⟨ty_loc g1 d1, ?_⟩⟩
      refine ⟨r, m1, s1, env, [.int i], s2, g1, e.mono l1, args1 f2, fun m2 H2 vs l2 g2 d2 => ?_⟩
      obtain ⟨u, tl, rfl, a2, b2⟩ := d2
      cases b2
      cases a2
      obtain ⟨a, rfl, ha, ys0, hy0⟩ := d1.mono l2
      obtain ⟨us, h1, z, dd⟩ := g2.cellL ha f3 hy0
      obtain ⟨w2, e4, d4⟩ := dd.get f4
      have e63 : (2 : Int) ^ 63 = 9223372036854775808 := by decide
      have ul : (us.eraseIdx i.toNat).length ≤ sizeLine := by
        rw [List.length_eraseIdx]
        split <;> omega
      obtain ⟨l3, g3⟩ := g2.put (xs := us.eraseIdx i.toNat) (c := xs.eraseIdx i.toNat) ha h1 ul (dd.eraseIdx i.toNat)
      exact ⟨a, us, i, i.toNat, w2, rfl, rfl, h1, by rw [e63]; omega, by rw [e63]; omega, seqIndex_of h0 (by rw [← dd.len]; exact hl), e4, q m2 _ _ ((l1.trans l2).trans l3) g3 (d4.mono l3)⟩
    · cases f
  · cases f
/-- x.index(v), integers -/
def eIndex0 (fo : DE) (fa : DE) : DE := fun env st => (fo env st).bind fun p => (fa env p.2).bind fun q => match q.1 with
  | .int v => (lstOf q.2 p.1).bind fun xs => (intsOf xs).bind fun ns => (ns.findIdx? fun z => decide (z = v)).map fun j => (.int (j : Nat), q.2)
  | _ => none
theorem ty_lst {r m : List Addr} {st st2 : Sto} {d : D} {xs : List D} {v : V} (g : Good K r m st H) (h : Den K r m H d v) (e : lstOf st2 d = some xs) : tyV K "list" v H := by
  cases d with
  | lst ds =>
    obtain ⟨a, vs, rfl, i, _⟩ := h
    exact .inl ⟨rfl, vs, SqL.of i⟩
  | loc n => exact ty_loc g h
  | _ => cases e
theorem t_index {fo fa : DE} (h : tE K (eIndex0 fo fa) σ H Q) : tBM K "list" (rIndex K) (tE K fo) (tAr K (aCons fa aNil)) σ H Q := by
  obtain ⟨r, m, st, env, d, st', g, e, f, q⟩ := h
  unfold eIndex0 at f
  obtain ⟨⟨x, s1⟩, f1, f⟩ := Option.bind_eq_some_iff.mp f
  obtain ⟨⟨y, s2⟩, f2, f⟩ := Option.bind_eq_some_iff.mp f
  dsimp only at f
  split at f
  · next v =>
    obtain ⟨xs, f3, f⟩ := Option.bind_eq_some_iff.mp f
    obtain ⟨ns, f4, f⟩ := Option.bind_eq_some_iff.mp f
    obtain ⟨j, f5, f⟩ := Option.map_eq_some_iff.mp f
    cases f
    refine ⟨r, m, st, env, _, _, g, e, f1, fun m1 H1 v1 l1 g1 d1 => ⟨ty_lst g1 d1 f3, ?_⟩⟩
    refine ⟨r, m1, _, env, [.int v], _, g1, e.mono l1, args1 f2, fun m2 H2 vs l2 g2 d2 => ?_⟩
    obtain ⟨u, tl, rfl, a2, b2⟩ := d2
    cases b2
    cases a2
    obtain ⟨a, us, rfl, h1, dd, z⟩ := lst_list0 g2 (d1.mono l2) f3
    rw [intsOf_eq f4] at dd
    rw [dd.ints] at h1
    obtain ⟨hj, p1, p2⟩ := List.findIdx?_eq_some_iff_getElem.mp f5
    have p1 := of_decide_eq_true p1
    refine ⟨a, ns.map V.int, .int v, j, .int ns[j], rfl, rfl, SqL.of h1, rfl, ?_, by rw [List.getElem?_map, List.getElem?_eq_getElem hj]; rfl, by show (ns[j] == v) = true; rw [p1]; exact beq_self_eq_true _, fun i z' hi hz => ?_, q m2 _ _ (l1.trans l2) g2 rfl⟩
    · rw [List.all_eq_true]
      intro w hw
      obtain ⟨_, _, rfl⟩ := List.mem_map.mp hw
      rfl
    · rw [List.getElem?_map, List.getElem?_eq_getElem (by omega)] at hz
      cases hz
      have := p2 i hi
      simp only [decide_eq_true_eq] at this
      show (ns[i] == v) = false
      simpa using this
  · cases f
/-- list(range(n)), tuple(range(n)) -/
def rg1 (j : Int) : Option (List D) := if decide (-1000000 ≤ j) && decide (j ≤ 1000000) then some (rangeD 0 j.toNat) else none
def eRgL (fa : DE) : DE := fun env st => (fa env st).bind fun p => match p.1 with
  | .int j => (rg1 j).map fun xs => (.lst xs, p.2)
  | _ => none
def eRgM (fa : DE) : DE := fun env st => (fa env st).bind fun p => match p.1 with
  | .int j => (rg1 j).map fun xs => (.loc p.2.length, p.2 ++ [xs])
  | _ => none
def eRgT (fa : DE) : DE := fun env st => (fa env st).bind fun p => match p.1 with
  | .int j => (rg1 j).map fun xs => (.tup xs, p.2)
  | _ => none
theorem rg_den {r m : List Addr} {j : Int} {xs : List D} (e : rg1 j = some xs) : RgOk 0 j ∧ Dens K r m H xs (rgV 0 j) ∧ (rgV 0 j).length ≤ sizeLine := by
  unfold rg1 at e
  split at e
  · next hc =>
    cases e
    simp only [Bool.and_eq_true, decide_eq_true_eq] at hc
    have e62 : (2 : Int) ^ 62 = 4611686018427387904 := by decide
    have e24 : (2 : Nat) ^ 24 = 16777216 := by decide
    refine ⟨⟨by rw [e62]; omega, by rw [e62]; omega, by rw [e62]; omega, by rw [e62]; omega, by rw [e24]; omega⟩, ?_, ?_⟩
    · have h1 : rangeD 0 j.toNat = ((List.range j.toNat).map fun i : Nat => (0 : Int) + (i : Int)).map D.int := by
        rw [List.map_map]
        rfl
      have h2 : rgV 0 j = ((List.range j.toNat).map fun i : Nat => (0 : Int) + (i : Int)).map V.int := by
        unfold rgV
        rw [List.map_map, Int.sub_zero]
        rfl
      rw [h1, h2]
      exact Dens.of_ints _
    · unfold rgV
      rw [List.length_map, List.length_range, sizeLine_eq]
      omega
  · cases e
theorem t_rgL {fa : DE} (h : tE K (eRgL fa) σ H Q) : tLstRg (tRg1 (tE K fa)) σ H Q := by
  obtain ⟨r, m, st, env, d, st', g, e, f, q⟩ := h
  unfold eRgL at f
  obtain ⟨⟨x, s1⟩, f1, f⟩ := Option.bind_eq_some_iff.mp f
  dsimp only at f
  split at f
  · next j =>
    obtain ⟨xs, f2, f⟩ := Option.map_eq_some_iff.mp f
    cases f
    refine ⟨r, m, st, env, _, _, g, e, f1, fun m1 H1 v1 l1 g1 d1 => ?_⟩
    cases d1
    obtain ⟨ok, dd, z⟩ := rg_den (K := K) (r := r) (m := m1) (H := H1) f2
    refine ⟨j, rfl, ok, fun p np => ?_⟩
    have l2 : Le m1 H1 m1 (upd H1 p (.lst (rgV 0 j))) := le_upd np
    exact q m1 _ (.ref p) (l1.trans l2) (g1.upd np) ⟨p, _, rfl, upd_same, g1.fresh np, z, dd.mono l2⟩
  · cases f
theorem t_rgM {fa : DE} (h : tE K (eRgM fa) σ H Q) : tLstRg (tRg1 (tE K fa)) σ H Q := by
  obtain ⟨r, m, st, env, d, st', g, e, f, q⟩ := h
  unfold eRgM at f
  obtain ⟨⟨x, s1⟩, f1, f⟩ := Option.bind_eq_some_iff.mp f
  dsimp only at f
  split at f
  · next j =>
    obtain ⟨xs, f2, f⟩ := Option.map_eq_some_iff.mp f
    cases f
    refine ⟨r, m, st, env, _, _, g, e, f1, fun m1 H1 v1 l1 g1 d1 => ?_⟩
    cases d1
    obtain ⟨ok, dd, z⟩ := rg_den (K := K) (r := r) (m := m1) (H := H1) f2
    refine ⟨j, rfl, ok, fun p np => ?_⟩
    obtain ⟨l2, g2, d2⟩ := new_cell g1 np z dd
    exact q _ _ (.ref p) (l1.trans l2) g2 d2
  · cases f
theorem t_rgT {fa : DE} (h : tE K (eRgT fa) σ H Q) : tTupRg (tRg1 (tE K fa)) σ H Q := by
  obtain ⟨r, m, st, env, d, st', g, e, f, q⟩ := h
  unfold eRgT at f
  obtain ⟨⟨x, s1⟩, f1, f⟩ := Option.bind_eq_some_iff.mp f
  dsimp only at f
  split at f
  · next j =>
    obtain ⟨xs, f2, f⟩ := Option.map_eq_some_iff.mp f
    cases f
    refine ⟨r, m, st, env, _, _, g, e, f1, fun m1 H1 v1 l1 g1 d1 => ?_⟩
    cases d1
    obtain ⟨ok, dd, z⟩ := rg_den (K := K) (r := r) (m := m1) (H := H1) f2
    refine ⟨j, rfl, ok, fun p np => ?_⟩
    have l2 : Le m1 H1 m1 (upd H1 p (.tup (rgV 0 j))) := le_upd np
    exact q m1 _ (.ref p) (l1.trans l2) (g1.upd np) ⟨p, _, rfl, .inl ⟨upd_same, g1.fresh np, z⟩, dd.mono l2⟩
  · cases f
abbrev Orc := String → List D → Sto → Option (D × Sto)
def eCall (C : Orc) (x : String) (fa : DA) : DE := fun env st => (fa env st).bind fun p => C x p.1 p.2
def spC (K : Fg) (C : Orc) (x : String) (n : Nat) : List V → Hp → VK → Prop := fun vs H Q => ∃ r m st ds d st', ds.length = n ∧ Good K r m st H ∧ Dens K r m H ds vs ∧ C x ds st = some (d, st') ∧
  ∀ m' H' v, Le m H m' H' → Good K r m' st' H' → Den K r m' H' d v → Q v H'
theorem t_call {C : Orc} {x : String} {n : Nat} {fa : DA} (hn : ∀ env st ds st', fa env st = some (ds, st') → ds.length = n) (h : tE K (eCall C x fa) σ H Q) : tCallG (spC K C x n) (tAr K fa) σ H Q := by
  obtain ⟨r, m, st, env, d, st', g, e, f, q⟩ := h
  unfold eCall at f
  obtain ⟨⟨ds, s1⟩, f1, f⟩ := Option.bind_eq_some_iff.mp f
  exact ⟨r, m, st, env, ds, s1, g, e, f1, fun m1 H1 vs l1 g1 d1 => ⟨r, m1, s1, ds, d, st', hn _ _ _ _ f1, g1, d1, f, fun m2 H2 v l2 g2 d2 => q m2 H2 v (l1.trans l2) g2 d2⟩⟩
noncomputable def ksrc (st : Sto) : D → Option (Kd × (Sto → Bool) × List D)
  | .tup xs => some (.t, always, xs)
  | .otp xs => some (.t, always, xs)
  | .lst xs => some (.l, always, xs)
  | .loc n => (st[n]?).map fun xs => (.l, unchanged n xs, xs)
  | _ => none
def both (a b : Sto → Bool) : Sto → Bool := fun s => a s && b s
noncomputable def zipSrc (st : Sto) (d e : D) : Option ((Sto → Bool) × List D) := (ksrc st d).bind fun p => (ksrc st e).map fun q => (both p.2.1 q.2.1, pairsD p.2.2 q.2.2)
noncomputable def iZip (fa fb : DE) : DI := fun env st => (fa env st).bind fun p => (fb env p.2).bind fun q => (zipSrc q.2 p.1 q.1).map fun z => (z, q.2)
def enD : Nat → List D → List D
  | _, [] => []
  | i, x :: xs => .tup [.int i, x] :: enD (i + 1) xs
noncomputable def enSrc (st : Sto) (d : D) : Option ((Sto → Bool) × List D) := (ksrc st d).map fun p => (p.2.1, enD 0 p.2.2)
noncomputable def iEn (fa : DE) : DI := fun env st => (fa env st).bind fun p => (enSrc p.2 p.1).map fun z => (z, p.2)
def triD : List D → List D → List D → List D
  | x :: xs, y :: ys, z :: zs => .tup [x, y, z] :: triD xs ys zs
  | _, _, _ => []
noncomputable def zip3Src (st : Sto) (d e f : D) : Option ((Sto → Bool) × List D) := (ksrc st d).bind fun p => (ksrc st e).bind fun q => (ksrc st f).map fun u => (both p.2.1 (both q.2.1 u.2.1), triD p.2.2 q.2.2 u.2.2)
noncomputable def iZip3 (fa fb fc : DE) : DI := fun env st => (fa env st).bind fun p => (fb env p.2).bind fun q => (fc env q.2).bind fun u => (zip3Src u.2 p.1 q.1 u.1).map fun z => (z, u.2)
theorem pairsD_length : ∀ xs ys : List D, (pairsD xs ys).length = min xs.length ys.length
  | [], _ => by simp [pairsD]
  | _ :: _, [] => by simp [pairsD]
  | x :: xs, y :: ys => by
    simp only [pairsD, List.length_cons, pairsD_length xs ys]
    omega
theorem pairsD_get : ∀ {xs ys : List D} {i : Nat} {d : D}, (pairsD xs ys)[i]? = some d → ∃ x y, xs[i]? = some x ∧ ys[i]? = some y ∧ d = .tup [x, y]
  | [], _, _, _, h => by simp [pairsD] at h
  | _ :: _, [], _, _, h => by simp [pairsD] at h
  | x :: xs, y :: ys, 0, _, h => by
    simp [pairsD] at h
    exact ⟨x, y, rfl, rfl, h.symm⟩
  | x :: xs, y :: ys, i + 1, d, h => by
    simp only [pairsD, List.getElem?_cons_succ] at h
    simpa using pairsD_get h
theorem enD_length : ∀ (i : Nat) (xs : List D), (enD i xs).length = xs.length
  | _, [] => rfl
  | i, x :: xs => by simp only [enD, List.length_cons, enD_length (i + 1) xs]
theorem enD_get : ∀ {j : Nat} {xs : List D} {i : Nat} {d : D}, (enD j xs)[i]? = some d → ∃ x, xs[i]? = some x ∧ d = .tup [.int ((j + i : Nat) : Int), x]
  | _, [], _, _, h => by simp [enD] at h
  | j, x :: xs, 0, _, h => by
    simp [enD] at h
    exact ⟨x, rfl, h.symm⟩
  | j, x :: xs, i + 1, d, h => by
    simp only [enD, List.getElem?_cons_succ] at h
    obtain ⟨y, h1, h2⟩ := enD_get h
    refine ⟨y, by simpa using h1, ?_⟩
    rw [h2, show j + 1 + i = j + (i + 1) by omega]
theorem triD_length : ∀ xs ys zs : List D, (triD xs ys zs).length = min xs.length (min ys.length zs.length)
  | [], _, _ => by simp [triD]
  | _ :: _, [], _ => by simp [triD]
  | _ :: _, _ :: _, [] => by simp [triD]
  | x :: xs, y :: ys, z :: zs => by
    simp only [triD, List.length_cons, triD_length xs ys zs]
    omega
theorem triD_get : ∀ {xs ys zs : List D} {i : Nat} {d : D}, (triD xs ys zs)[i]? = some d → ∃ x y z, xs[i]? = some x ∧ ys[i]? = some y ∧ zs[i]? = some z ∧ d = .tup [x, y, z]
  | [], _, _, _, _, h => by simp [triD] at h
  | _ :: _, [], _, _, _, h => by simp [triD] at h
  | _ :: _, _ :: _, [], _, _, h => by simp [triD] at h
  | x :: xs, y :: ys, z :: zs, 0, _, h => by
    simp [triD] at h
    exact ⟨x, y, z, rfl, rfl, rfl, h.symm⟩
  | x :: xs, y :: ys, z :: zs, i + 1, d, h => by
    simp only [triD, List.getElem?_cons_succ] at h
    simpa using triD_get h
theorem ksrc_later {r m : List Addr} {st : Sto} {d : D} {k : Kd} {chk : Sto → Bool} {xs : List D} {v : V} (g : Good K r m st H) (h : Den K r m H d v) (e : ksrc st d = some (k, chk, xs)) :
    ∃ a vs, v = .ref a ∧ k.sq K H a vs ∧ xs.length ≤ sizeLine ∧ ∀ r1 m1 H1 s1, Rs r r1 H → Le m H m1 H1 → Good K r1 m1 s1 H1 → chk s1 = true → ∃ vs, k.sq K H1 a vs ∧ Dens K r1 m1 H1 xs vs := by
  cases d with
  | tup ds =>
    cases e
    obtain ⟨a, us, rfl, ia, da⟩ := h
    exact ⟨a, us, rfl, ia.sq, by rw [da.len]; exact ia.len, fun r1 m1 H1 s1 hr l _ _ => ⟨us, (ia.mono l).sq, (da.ext hr).mono l⟩⟩
  | otp ds =>
    cases e
    obtain ⟨a, us, rfl, ia, da⟩ := h
    exact ⟨a, us, rfl, ia.sq, by rw [da.len]; exact ia.len, fun r1 m1 H1 s1 hr l _ _ => ⟨us, (ia.mono l).sq, (da.ext hr).mono l⟩⟩
  | lst ds =>
    cases e
    obtain ⟨a, vs, rfl, i, n, z, dd⟩ := h
    exact ⟨a, vs, rfl, SqL.of i, by rw [dd.len]; exact z, fun r1 m1 H1 s1 hr l _ _ => ⟨vs, SqL.of (l.keep a _ i n.1), (dd.ext hr).mono l⟩⟩
  | loc n =>
    obtain ⟨ys, e1, e2⟩ := Option.map_eq_some_iff.mp e
    cases e2
    obtain ⟨a, rfl, ha, ys0, hy0⟩ := h
    obtain ⟨vs, h1, z, dd⟩ := g.cellL ha e1 hy0
    refine ⟨a, vs, rfl, SqL.of h1, by rw [dd.len]; exact z, fun r1 m1 H1 s1 _ l g1 c => ?_⟩
    obtain ⟨us0, hu0⟩ := l.isL ha hy0
    obtain ⟨ws, h1, _, dd⟩ := g1.cellL (l.at ha) (unchanged_iff.mp c) hu0
    exact ⟨ws, SqL.of h1, dd⟩
  | _ => cases e
/-- a new tuple -/
theorem new_tuple {r m : List Addr} {st : Sto} {ds : List D} {vs : List V} {p : Addr} (g : Good K r m st H) (hd : Dens K r m H ds vs) (hl : vs.length ≤ 100) (h0 : 0 < vs.length) (np : H p = none) :
    Le m H m (upd H p (.tup vs)) ∧ Good K r m st (upd H p (.tup vs)) ∧ Den K r m (upd H p (.tup vs)) (.tup ds) (.ref p) := by
  have l : Le m H m (upd H p (.tup vs)) := le_upd np
  exact ⟨l, g.upd np, p, _, rfl, .inl ⟨upd_same, g.fresh np, Nat.le_trans hl (by decide)⟩, hd.mono l⟩
theorem zip_strm {r m1 : List Addr} {H1 : Hp} {s2 : Sto} {x y : D} {vx vy : V} {chk : Sto → Bool} {ds : List D} (g1 : Good K r m1 s2 H1) (dx : Den K r m1 H1 x vx) (dy : Den K r m1 H1 y vy) (f3 : zipSrc s2 x y = some (chk, ds)) :
    ∃ k1 k2 a b xs ys, vx = .ref a ∧ vy = .ref b ∧ Kd.sq K k1 H1 a xs ∧ Kd.sq K k2 H1 b ys ∧ Strm K r (ItZ K k1 k2 a b) chk ds m1 H1 := by
  obtain ⟨⟨k1, c1, xs⟩, f4, f5⟩ := Option.bind_eq_some_iff.mp f3
  obtain ⟨⟨k2, c2, ys⟩, f6, f7⟩ := Option.map_eq_some_iff.mp f5
  cases f7
  obtain ⟨a, us, rfl, qa0, za, la⟩ := ksrc_later g1 dx f4
  obtain ⟨b, ws, rfl, qb0, zb, lb⟩ := ksrc_later g1 dy f6
  refine ⟨k1, k2, a, b, us, ws, rfl, rfl, qa0, qb0, ?_⟩
  refine ⟨?_, fun r2 m2 H2 s3 i hr l g2 c hi => ?_, fun r2 m2 H2 s3 i v H' d hr l g2 c hi y => ?_, fun r2 m2 H2 s3 hr l g2 c => ?_⟩
  · rw [pairsD_length]
    exact Nat.le_trans (Nat.min_le_left _ _) za
  · have c := (Bool.and_eq_true _ _).mp c
    rw [pairsD_length] at hi
    obtain ⟨us, qa, d2⟩ := la r2 m2 H2 s3 hr l g2 c.1
    obtain ⟨ws, qb, d3⟩ := lb r2 m2 H2 s3 hr l g2 c.2
    have h1 : i < us.length := by rw [← d2.len]; exact Nat.lt_of_lt_of_le hi (Nat.min_le_left _ _)
    have h2 : i < ws.length := by rw [← d3.len]; exact Nat.lt_of_lt_of_le hi (Nat.min_le_right _ _)
    exact ⟨us, ws, us[i], ws[i], qa, qb, List.getElem?_eq_getElem h1, List.getElem?_eq_getElem h2⟩
  · have c := (Bool.and_eq_true _ _).mp c
    obtain ⟨us, qa, d2⟩ := la r2 m2 H2 s3 hr l g2 c.1
    obtain ⟨ws, qb, d3⟩ := lb r2 m2 H2 s3 hr l g2 c.2
    obtain ⟨x1, x2, e1, e2, rfl⟩ := pairsD_get hi
    obtain ⟨T, v1, v2, rfl, nT, rfl, y1, y2⟩ := y
    obtain ⟨w1, b1, k1⟩ := d2.get e1
    obtain ⟨w2, b2, k2⟩ := d3.get e2
    rw [y1 us qa] at b1
    rw [y2 ws qb] at b2
    cases b1
    cases b2
    exact new_tuple g2 ⟨_, _, rfl, k1, _, _, rfl, k2, rfl⟩ (by simp) (by simp) nT
  · have c := (Bool.and_eq_true _ _).mp c
    obtain ⟨us, qa, d2⟩ := la r2 m2 H2 s3 hr l g2 c.1
    obtain ⟨ws, qb, d3⟩ := lb r2 m2 H2 s3 hr l g2 c.2
    refine ⟨us, ws, qa, qb, ?_⟩
    rw [pairsD_length, d2.len, d3.len]
    omega
theorem en_strm {r m1 : List Addr} {H1 : Hp} {s2 : Sto} {x : D} {vx : V} {chk : Sto → Bool} {ds : List D} (g1 : Good K r m1 s2 H1) (dx : Den K r m1 H1 x vx) (f3 : enSrc s2 x = some (chk, ds)) :
    ∃ k a xs, vx = .ref a ∧ Kd.sq K k H1 a xs ∧ Strm K r (ItE K k a) chk ds m1 H1 := by
  obtain ⟨⟨k, c1, xs⟩, f4, f5⟩ := Option.map_eq_some_iff.mp f3
  cases f5
  obtain ⟨a, us, rfl, qa0, za, la⟩ := ksrc_later g1 dx f4
  refine ⟨k, a, us, rfl, qa0, ?_⟩
  refine ⟨?_, fun r2 m2 H2 s3 i hr l g2 c hi => ?_, fun r2 m2 H2 s3 i v H' d hr l g2 c hi y => ?_, fun r2 m2 H2 s3 hr l g2 c => ?_⟩
  · rw [enD_length]
    exact za
  · rw [enD_length] at hi
    obtain ⟨us, qa, d2⟩ := la r2 m2 H2 s3 hr l g2 c
    have h1 : i < us.length := by rw [← d2.len]; exact hi
    exact ⟨us, us[i], qa, List.getElem?_eq_getElem h1⟩
  · obtain ⟨us, qa, d2⟩ := la r2 m2 H2 s3 hr l g2 c
    obtain ⟨x1, e1, rfl⟩ := enD_get hi
    obtain ⟨T, v1, rfl, nT, rfl, y1⟩ := y
    obtain ⟨w1, b1, k1⟩ := d2.get e1
    rw [y1 us qa] at b1
    cases b1
    exact new_tuple g2 ⟨_, _, rfl, (by rw [Nat.zero_add]; rfl), _, _, rfl, k1, rfl⟩ (by simp) (by simp) nT
  · obtain ⟨us, qa, d2⟩ := la r2 m2 H2 s3 hr l g2 c
    refine ⟨us, qa, ?_⟩
    rw [enD_length, d2.len]
theorem zip3_strm {r m1 : List Addr} {H1 : Hp} {s2 : Sto} {x y z : D} {vx vy vz : V} {chk : Sto → Bool} {ds : List D} (g1 : Good K r m1 s2 H1) (dx : Den K r m1 H1 x vx) (dy : Den K r m1 H1 y vy) (dz : Den K r m1 H1 z vz) (f3 : zip3Src s2 x y z = some (chk, ds)) :
    ∃ k1 k2 k3 a b c xs ys zs, vx = .ref a ∧ vy = .ref b ∧ vz = .ref c ∧ Kd.sq K k1 H1 a xs ∧ Kd.sq K k2 H1 b ys ∧ Kd.sq K k3 H1 c zs ∧ Strm K r (ItZ3 K k1 k2 k3 a b c) chk ds m1 H1 := by
  obtain ⟨⟨k1, c1, xs⟩, f4, f5⟩ := Option.bind_eq_some_iff.mp f3
  obtain ⟨⟨k2, c2, ys⟩, f6, f7⟩ := Option.bind_eq_some_iff.mp f5
  obtain ⟨⟨k3, c3, zs⟩, f8, f9⟩ := Option.map_eq_some_iff.mp f7
  cases f9
  obtain ⟨a, us, rfl, qa0, za, la⟩ := ksrc_later g1 dx f4
  obtain ⟨b, ws, rfl, qb0, zb, lb⟩ := ksrc_later g1 dy f6
  obtain ⟨c, ts, rfl, qc0, zc, lc⟩ := ksrc_later g1 dz f8
  refine ⟨k1, k2, k3, a, b, c, us, ws, ts, rfl, rfl, rfl, qa0, qb0, qc0, ?_⟩
  refine ⟨?_, fun r2 m2 H2 s3 i hr l g2 c hi => ?_, fun r2 m2 H2 s3 i v H' d hr l g2 c hi y => ?_, fun r2 m2 H2 s3 hr l g2 c => ?_⟩
  · rw [triD_length]
    exact Nat.le_trans (Nat.min_le_left _ _) za
  · have c := (Bool.and_eq_true _ _).mp c
    have c2 := (Bool.and_eq_true _ _).mp c.2
    rw [triD_length] at hi
    have hi : i < min xs.length (min ys.length zs.length) := hi
    obtain ⟨us, qa, d2⟩ := la r2 m2 H2 s3 hr l g2 c.1
    obtain ⟨ws, qb, d3⟩ := lb r2 m2 H2 s3 hr l g2 c2.1
    obtain ⟨ts, qc, d4⟩ := lc r2 m2 H2 s3 hr l g2 c2.2
    have h1 : i < us.length := by rw [← d2.len]; omega
    have h2 : i < ws.length := by rw [← d3.len]; omega
    have h3 : i < ts.length := by rw [← d4.len]; omega
    exact ⟨us, ws, ts, us[i], ws[i], ts[i], qa, qb, qc, List.getElem?_eq_getElem h1, List.getElem?_eq_getElem h2, List.getElem?_eq_getElem h3⟩
  · have c := (Bool.and_eq_true _ _).mp c
    have c2 := (Bool.and_eq_true _ _).mp c.2
    obtain ⟨us, qa, d2⟩ := la r2 m2 H2 s3 hr l g2 c.1
    obtain ⟨ws, qb, d3⟩ := lb r2 m2 H2 s3 hr l g2 c2.1
    obtain ⟨ts, qc, d4⟩ := lc r2 m2 H2 s3 hr l g2 c2.2
    obtain ⟨x1, x2, x3, e1, e2, e3, rfl⟩ := triD_get hi
    obtain ⟨T, v1, v2, v3, rfl, nT, rfl, y1, y2, y3⟩ := y
    obtain ⟨w1, b1, k1⟩ := d2.get e1
    obtain ⟨w2, b2, k2⟩ := d3.get e2
    obtain ⟨w3, b3, k3⟩ := d4.get e3
    rw [y1 us qa] at b1
    rw [y2 ws qb] at b2
    rw [y3 ts qc] at b3
    cases b1
    cases b2
    cases b3
    exact new_tuple g2 ⟨_, _, rfl, k1, _, _, rfl, k2, _, _, rfl, k3, rfl⟩ (by simp) (by simp) nT
  · have c := (Bool.and_eq_true _ _).mp c
    have c2 := (Bool.and_eq_true _ _).mp c.2
    obtain ⟨us, qa, d2⟩ := la r2 m2 H2 s3 hr l g2 c.1
    obtain ⟨ws, qb, d3⟩ := lb r2 m2 H2 s3 hr l g2 c2.1
    obtain ⟨ts, qc, d4⟩ := lc r2 m2 H2 s3 hr l g2 c2.2
    refine ⟨us, ws, ts, qa, qb, qc, ?_⟩
    rw [triD_length, d2.len, d3.len, d4.len]
    omega
theorem i_zip {fa fb : DE} {R : It → Hp → Prop} (h : tI K (iZip fa fb) σ H R) : iZpK K (tAr K (aCons fa (aCons fb aNil))) σ H R := by
  obtain ⟨r, m, st, env, chk, ds, st', g, e, f, q⟩ := h
  unfold iZip at f
  obtain ⟨⟨x, s1⟩, f1, f⟩ := Option.bind_eq_some_iff.mp f
  obtain ⟨⟨y, s2⟩, f2, f⟩ := Option.bind_eq_some_iff.mp f
  obtain ⟨zz, f3, f⟩ := Option.map_eq_some_iff.mp f
  cases f
  have f3 : zipSrc s2 x y = some (chk, ds) := f3
  have fr : aCons fa (aCons fb aNil) env st = some ([x, y], s2) := by
    unfold aCons aNil
    rw [show fa env st = some (x, s1) from f1]
    show (Option.bind (Option.bind (fb env s1) _) _) = _
    rw [show fb env s1 = some (y, s2) from f2]
    rfl
  refine ⟨r, m, st, env, [x, y], s2, g, e, fr, fun m1 H1 vs l1 g1 d1 => ?_⟩
  obtain ⟨vx, t1, rfl, dx, vy, t2, rfl, dy, dn⟩ := d1
  cases dn
  obtain ⟨k1, k2, a, b, us, ws, rfl, rfl, z1, z2, z3⟩ := zip_strm g1 dx dy f3
  exact ⟨k1, k2, a, b, us, ws, rfl, z1, z2, q m1 H1 _ l1 g1 z3⟩
theorem i_en {fa : DE} {R : It → Hp → Prop} (h : tI K (iEn fa) σ H R) : iEnK K (tAr K (aCons fa aNil)) σ H R := by
  obtain ⟨r, m, st, env, chk, ds, st', g, e, f, q⟩ := h
  unfold iEn at f
  obtain ⟨⟨x, s1⟩, f1, f⟩ := Option.bind_eq_some_iff.mp f
  obtain ⟨zz, f3, f⟩ := Option.map_eq_some_iff.mp f
  cases f
  have f3 : enSrc s1 x = some (chk, ds) := f3
  have fr : aCons fa aNil env st = some ([x], s1) := by
    unfold aCons aNil
    rw [show fa env st = some (x, s1) from f1]
    rfl
  refine ⟨r, m, st, env, [x], s1, g, e, fr, fun m1 H1 vs l1 g1 d1 => ?_⟩
  obtain ⟨vx, t1, rfl, dx, dn⟩ := d1
  cases dn
  obtain ⟨k1, a, us, rfl, z1, z3⟩ := en_strm g1 dx f3
  exact ⟨k1, a, us, rfl, z1, q m1 H1 _ l1 g1 z3⟩
theorem i_zip3 {fa fb fc : DE} {R : It → Hp → Prop} (h : tI K (iZip3 fa fb fc) σ H R) : iZp3 K (tAr K (aCons fa (aCons fb (aCons fc aNil)))) σ H R := by
  obtain ⟨r, m, st, env, chk, ds, st', g, e, f, q⟩ := h
  unfold iZip3 at f
  obtain ⟨⟨x, s1⟩, f1, f⟩ := Option.bind_eq_some_iff.mp f
  obtain ⟨⟨y, s2⟩, f2, f⟩ := Option.bind_eq_some_iff.mp f
  obtain ⟨⟨u, s3⟩, f4, f⟩ := Option.bind_eq_some_iff.mp f
  obtain ⟨zz, f3, f⟩ := Option.map_eq_some_iff.mp f
  cases f
  have f3 : zip3Src s3 x y u = some (chk, ds) := f3
  have fr : aCons fa (aCons fb (aCons fc aNil)) env st = some ([x, y, u], s3) := by
    unfold aCons aNil
    rw [show fa env st = some (x, s1) from f1]
    show (Option.bind (Option.bind (fb env s1) _) _) = _
    rw [show fb env s1 = some (y, s2) from f2]
    show (Option.bind (Option.bind (Option.bind (fc env s2) _) _) _) = _
    rw [show fc env s2 = some (u, s3) from f4]
    rfl
  refine ⟨r, m, st, env, [x, y, u], s3, g, e, fr, fun m1 H1 vs l1 g1 d1 => ?_⟩
  obtain ⟨vx, t1, rfl, dx, vy, t2, rfl, dy, vz, t3, rfl, dz, dn⟩ := d1
  cases dn
  obtain ⟨k1, k2, k3, a, b, c, us, ws, ts, rfl, rfl, rfl, z1, z2, z4, z3⟩ := zip3_strm g1 dx dy dz f3
  exact ⟨k1, k2, k3, a, b, c, us, ws, ts, rfl, z1, z2, z4, q m1 H1 _ l1 g1 z3⟩
end
mutual
theorem noDict : ∀ d : D, (pyD d).hasDict = false
  | .non => by simp [pyD, PyData.hasDict]
  | .bl _ => by simp [pyD, PyData.hasDict]
  | .int _ => by simp [pyD, PyData.hasDict]
  | .str _ => by simp [pyD, PyData.hasDict]
  | .tup xs => by simp only [pyD, PyData.hasDict]; exact noDicts xs
  | .lst xs => by simp only [pyD, PyData.hasDict]; exact noDicts xs
  | .scr _ => by simp [pyD, PyData.hasDict]
  | .dic => by simp [pyD, PyData.hasDict]
  | .loc _ => by simp [pyD, PyData.hasDict]
  | .cel _ _ => by simp [pyD, PyData.hasDict]
  | .tag _ => by simp [pyD, PyData.hasDict]
  | .otp _ => by simp [pyD, PyData.hasDict]
theorem noDicts : ∀ ds : List D, PyData.hasDictAll (pyDs ds) = false
  | [] => by simp [pyDs, PyData.hasDictAll]
  | d :: ds => by simp only [pyDs, PyData.hasDictAll, noDict d, noDicts ds]; rfl
end
def shownD (d : D) : Str := (pyD d).shown
def rpOk (d : D) : Bool := okD d && (pyD d).showable && fits (shownD d).length
def isRef : D → Bool
  | .tup _ => true
  | .lst _ => true
  | .dic => true
  | _ => false
def gRepr (_ : Sto) : List D → Option D
  | [d] => if rpOk d then some (.str (shownD d)) else if rpOkR d && isRef d then some (.str (shownR d)) else none
  | _ => none
def rRepr (K : Fg) : List V → Hp → VK → Prop := fun xs H Q => ∃ x r m d, xs = [x] ∧ Den K r m H d x ∧ ((rpOk d = true ∧ Q (.str (shownD d)) H) ∨ (rpOkR d = true ∧ isRef d = true ∧ Q (.str (shownR d)) H))
section
variable {X : Cx}
theorem cr_repr (gd : X.A.guards = some []) (hu : X.A.units + 80 < cLine) : CallR X (.builtin "repr") (rRepr X.K) := by
  intro pins s σ H xs us Q I rv h
  obtain ⟨x, r, m, d, rfl, hd, h⟩ := h
  obtain ⟨u, rfl, ru⟩ := vals1 rv
  rcases h with ⟨ok, q⟩ | ⟨ok, hr, q⟩
  case inr =>
    have fin : ∀ h' t tk, (∀ b o, s.heap.get? b = some o → h'.get? b = some o) → EP X pins σ Q (.str (shownR d) t) { s with heap := h', toks := tk } :=
      fun h' t tk hk => ⟨.str (shownR d), H, I.kept (t' := tk) hk, ⟨t, rfl⟩, q⟩
    have go : ∀ a, x = .ref a → wpAny (model X.prog X.w) X.A (call (.builtin "repr") [u]) (EP X pins σ Q) X.xe s := fun a e => by
      subst e
      cases ru
      exact reprR_ok I gd hu hd ok fin
    cases d with
    | tup ds =>
      obtain ⟨a, xs, rfl, _⟩ := id hd
      exact go a rfl
    | lst ds =>
      obtain ⟨a, xs, rfl, _⟩ := id hd
      exact go a rfl
    | dic =>
      obtain ⟨a, rfl, _⟩ := id hd
      exact go a rfl
    | _ => cases hr
  unfold rpOk at ok
  simp only [Bool.and_eq_true] at ok
  obtain ⟨⟨k1, k2⟩, k3⟩ := ok
  have hz : (pyD d).shown.length ≤ sizeLine := fits_line k3
  have fin : ∀ h' t tk, (∀ b o, s.heap.get? b = some o → h'.get? b = some o) → EP X pins σ Q (.str (pyD d).shown t) { s with heap := h', toks := tk } :=
    fun h' t tk hk => ⟨.str (shownD d), H, I.kept (t' := tk) hk, ⟨t, rfl⟩, q⟩
  have hdep : (pyD d).depth ≤ 64 := by
    rw [dep_eq d]
    exact of_decide_eq_true (Bool.and_eq_true_iff.mp k1).2
  have big : ∀ a, u = .ref a → wpAny (model X.prog X.w) X.A (call (.builtin "repr") [u]) (EP X pins σ Q) X.xe s := fun a e => by
    subst e
    obtain ⟨as, rd⟩ := Den.reads I d x _ hd (okD_lay k1) ru
    refine repr_of_reads' rd k2 (fun z => ?_) gd (by omega) (fun _ _ e => e) fin hz
    rw [noDict d] at z
    cases z
  cases d with
  | non =>
    cases hd; cases ru
    exact P.repr_of_none (fin s.heap _ _ fun _ _ e => e)
  | bl b =>
    cases hd; cases ru
    exact P.repr_of_bool (fin s.heap _ _ fun _ _ e => e)
  | int i =>
    cases hd
    obtain ⟨t, rfl⟩ := ru
    exact P.repr_of_int (of_decide_eq_true (by simpa [pyD, PyData.showable] using k2)) (fin s.heap _ _ fun _ _ e => e)
  | str z =>
    cases hd
    obtain ⟨t, rfl⟩ := ru
    exact P.repr_of_str (fin s.heap _ _ fun _ _ e => e) hz
  | tup ds =>
    obtain ⟨a, xs, rfl, _⟩ := id hd
    exact big a ru
  | lst ds =>
    obtain ⟨a, xs, rfl, _⟩ := id hd
    exact big a ru
  | scr _ => simp [okD, lay] at k1
  | dic => simp [okD, lay] at k1
  | loc _ => simp [okD, lay] at k1
  | cel _ _ => simp [okD, lay] at k1
  | tag _ => simp [okD, lay] at k1
  | otp _ => simp [okD, lay] at k1
theorem cd_repr {K : Fg} : CallD K gRepr (rRepr K) := by
  intro r m st H ds d vs Q g h e q
  unfold gRepr at e
  split at e
  · split at e
    · next d' ok =>
      cases e
      obtain ⟨x, tl, rfl, a, b⟩ := h
      cases b
      exact ⟨x, r, m, d', rfl, a, .inl ⟨ok, q m H _ (Le.refl m H) g rfl⟩⟩
    · next d' _ =>
      split at e
      · next ok =>
        cases e
        rw [Bool.and_eq_true] at ok
        obtain ⟨x, tl, rfl, a, b⟩ := h
        cases b
        exact ⟨x, r, m, d', rfl, a, .inr ⟨ok.1, ok.2, q m H _ (Le.refl m H) g rfl⟩⟩
      · cases e
  · cases e
end
end Tg
namespace Tg
open PySem PySem.Spec PyProof.Rows L2
section
variable {α β : Type} {lt : α → α → Bool}
def insB (lt : α → α → Bool) (x : α) : List α → List α
  | [] => [x]
  | y :: ys => if lt y x then y :: insB lt x ys else x :: y :: ys
def isort (lt : α → α → Bool) : List α → List α
  | [] => []
  | x :: xs => insB lt x (isort lt xs)
theorem insB_perm (x : α) : ∀ ys : List α, (insB lt x ys).Perm (x :: ys)
  | [] => List.Perm.refl _
  | y :: ys => by
    unfold insB
    split
    · exact ((insB_perm x ys).cons y).trans (List.Perm.swap x y ys)
    · exact List.Perm.refl _
theorem isort_perm : ∀ xs : List α, (isort lt xs).Perm xs
  | [] => List.Perm.refl _
  | x :: xs => (insB_perm x _).trans ((isort_perm xs).cons x)
theorem insB_srtd (O : SrtO.Swo lt) (x : α) : ∀ ys : List α, SrtO.Srtd lt ys → SrtO.Srtd lt (insB lt x ys)
  | [], _ => List.pairwise_singleton _ _
  | y :: ys, h => by
    unfold insB
    obtain ⟨h1, h2⟩ := List.pairwise_cons.mp h
    split
    · next hl =>
      refine List.pairwise_cons.mpr ⟨fun z hz => ?_, insB_srtd O x ys h2⟩
      rcases List.mem_cons.mp ((insB_perm x ys).mem_iff.mp hz) with rfl | hz
      · exact O.asym _ _ hl
      · exact h1 z hz
    · next hl =>
      have hl : lt y x = false := by simpa using hl
      refine List.pairwise_cons.mpr ⟨fun z hz => ?_, h⟩
      rcases List.mem_cons.mp hz with rfl | hz
      · exact hl
      · exact O.tr x y z hl (h1 z hz)
theorem isort_srtd (O : SrtO.Swo lt) : ∀ xs : List α, SrtO.Srtd lt (isort lt xs)
  | [] => List.Pairwise.nil
  | x :: xs => insB_srtd O x _ (isort_srtd O xs)
theorem insB_cls (O : SrtO.Swo lt) (x z : α) : ∀ ys : List α, (insB lt x ys).filter (SrtO.eqv lt z) = (x :: ys).filter (SrtO.eqv lt z)
  | [] => rfl
  | y :: ys => by
    unfold insB
    split
    · next hl =>
      have ih := insB_cls O x z ys
      rw [List.filter_cons, ih]
      rw [List.filter_cons, List.filter_cons, List.filter_cons]
      by_cases h1 : SrtO.eqv lt z y = true
      · by_cases h2 : SrtO.eqv lt z x = true
        · have := SrtO.eqv_trans O (v := x) h1
          rw [h2] at this
          have := (SrtO.eqv_iff.mp this.symm).1
          rw [hl] at this
          cases this
        · simp only [h1, h2, if_true, Bool.false_eq_true, if_false]
      · simp only [h1, Bool.false_eq_true, if_false]
    · rfl
theorem isort_stb (O : SrtO.Swo lt) : ∀ xs : List α, SrtO.Stb lt (isort lt xs) xs
  | [] => SrtO.Stb.refl _
  | x :: xs => ⟨isort_perm _, fun z => by
      have ih := (isort_stb O xs).cls z
      show (insB lt x (isort lt xs)).filter _ = _
      rw [insB_cls O x z, List.filter_cons, List.filter_cons, ih]⟩
theorem isort_uniq (O : SrtO.Swo lt) {xs ys : List α} (h : SrtO.Srtd lt ys) (q : SrtO.Stb lt ys xs) : ys = isort lt xs := by
  have s := isort_stb O xs
  exact SrtO.stb_uniq O h (isort_srtd O xs) ⟨q.perm.trans s.perm.symm, fun z => (q.cls z).trans (s.cls z).symm⟩
theorem insB_map (f : β → α) (x : β) : ∀ ys : List β, (insB (fun a b => lt (f a) (f b)) x ys).map f = insB lt (f x) (ys.map f)
  | [] => rfl
  | y :: ys => by
    unfold insB
    rw [List.map_cons]
    show _ = if lt (f y) (f x) = true then _ else _
    by_cases h : lt (f y) (f x) = true
    · rw [if_pos h, if_pos h, List.map_cons, insB_map f x ys]
    · rw [if_neg h, if_neg h]
      rfl
theorem isort_map (f : β → α) : ∀ xs : List β, (isort (fun a b => lt (f a) (f b)) xs).map f = isort lt (xs.map f)
  | [] => rfl
  | x :: xs => by
    show (insB _ x (isort _ xs)).map f = insB lt (f x) (isort lt (xs.map f))
    rw [insB_map, isort_map f xs]
theorem insB_congr {lt' : α → α → Bool} (x : α) : ∀ ys : List α, (∀ y ∈ ys, lt y x = lt' y x) → insB lt x ys = insB lt' x ys
  | [], _ => rfl
  | y :: ys, h => by
    unfold insB
    rw [h y List.mem_cons_self, insB_congr x ys fun z hz => h z (List.mem_cons_of_mem _ hz)]
theorem isort_congr {lt' : α → α → Bool} : ∀ xs : List α, (∀ x ∈ xs, ∀ y ∈ xs, lt x y = lt' x y) → isort lt xs = isort lt' xs
  | [], _ => rfl
  | x :: xs, h => by
    show insB lt x (isort lt xs) = insB lt' x (isort lt' xs)
    rw [isort_congr xs fun a ha b hb => h a (List.mem_cons_of_mem _ ha) b (List.mem_cons_of_mem _ hb)]
    exact insB_congr x _ fun y hy => h y (List.mem_cons_of_mem _ ((isort_perm xs).mem_iff.mp hy)) x List.mem_cons_self
end
theorem vals_pairs {γ : Type} {f : γ → V} {g : γ → Value} : ∀ {l : List γ}, (∀ x ∈ l, RelV (f x) (g x)) → Vals (l.map f) (l.map g)
  | [], _ => .nil
  | x :: l, h => .cons (h x List.mem_cons_self) (vals_pairs fun y hy => h y (List.mem_cons_of_mem _ hy))
theorem vals_zip : ∀ {xs : List V} {us : List Value}, Vals xs us → ∀ p ∈ xs.zip us, RelV p.1 p.2
  | _, _, .nil, p, h => by simp at h
  | _, _, .cons a b, p, h => by
    rw [List.zip_cons_cons] at h
    rcases List.mem_cons.mp h with rfl | h
    · exact a
    · exact vals_zip b p h
section
variable {prog : Program} {w : World} {A : Around} {E : Value → Shared → Prop} {s : Shared}
theorem lt_tup {v u : Value} {ns ms : List Int} {Q : Bool → Shared → Prop} (hu : A.units < cLine) (hv : TS.TupInts s.heap v ns) (hw : TS.TupInts s.heap u ms) (h : Q (HT.lexLt ns ms) s) : wpAny (model prog w) A (keyLt' oneType' v u) Q E s := by
  obtain ⟨a, xs, rfl, ⟨⟨cls, dd, data, sl⟩, ho, hc, n, hd⟩, i⟩ := hv
  obtain ⟨b, ys, rfl, ⟨⟨cls2, dd2, data2, sl2⟩, ho2, hc2, n2, hd2⟩, j⟩ := hw
  simp only at hc hd hc2 hd2
  subst hc hd hc2 hd2
  rw [keyLt'_oneType, oneLt'_eq]
  simp only [if_true]
  refine wpAny_bind (wpAny_cRoomFor hu ?_)
  refine wpAny_bind (wpAny_callSpecialIfBound?_slot ⟨_, ho, rfl⟩ PySem.F.slot_tuple_lt (call_meets PySem.F.slot_tuple_lt ⟨_, ho, rfl⟩ PySem.F.entry_tuple_lt (PySem.F.args_tuple_lt_2 _ _) (HT.tuple_lt_ints a b xs ys n n2 dd dd2 sl sl2 ns ms i j) ⟨ho, ho2, ?_⟩))
  exact wpAny_truthy_bool h
/-- list.sort by a key that is an int -/
theorem list_sort_key {a : Addr} {vs : List Value} {n : Nat} {f : Value} {ks : List Int} {R : PySem.Fin → Shared → Prop} (ho : s.heap.get? a = some (seqObj "list" vs.toArray n)) (hz : vs.length ≤ sizeLine) (hlen : ks.length = vs.length)
    (turn : ∀ (i : Nat) (v : Value) (k : Int), vs[i]? = some v → ks[i]? = some k → ∀ (h : Heap) (tk : Nat), (∀ b o, b ≠ a → s.heap.get? b = some o → h.get? b = some o) →
      wpAny (model prog w) A (call f [v]) (fun r s' => ∃ t tk', r = .int k t ∧ s' = { s with heap := h, toks := tk' }) (fun _ _ => False) { s with heap := h, toks := tk })
    (h : ∀ (h' : Heap) (tk : Nat) (out : List Value) (c : Nat), (∀ b o, b ≠ a → s.heap.get? b = some o → h'.get? b = some o) → h'.get? a = some (seqObj "list" out.toArray c) → out = (isort (fun p q : Value × Int => decide (p.2 < q.2)) (vs.zip ks)).map (·.1) → R (.done (.ret .none)) { s with heap := h', toks := tk }) :
    wpAny (model prog w) A (ksk_tree a f false) R E s := by
  have ha : a < s.heap.objs.size := Heap.lt_size ho
  have s1 := Heap.SameBut.update s.heap a (Obj.mapSeq fun _ => (#[] : Array Value))
  obtain ⟨e1, ho1⟩ : ∃ e1, (s.heap.update a (Obj.mapSeq fun _ => (#[] : Array Value))).get? a = some (seqObj "list" #[] e1) := ⟨_, get?_update_seq ho fun _ => #[]⟩
  have hkS : ((s.heap.update a (Obj.mapSeq fun _ => (#[] : Array Value))).push (seqObj "tuple" vs.toArray 0)).objs.size = s.heap.objs.size + 1 := by rw [size_push', Heap.size_update]
  unfold ksk_tree
  refine wpAny_bind (listItems_at ho rfl ?_)
  refine wpAny_bind (listUpdate_at ho rfl ?_ (by rw [List.size_toArray]; exact hz) (Nat.zero_le _))
  refine wpAny_bind (seqEpoch_at ho1 rfl ?_)
  refine wpAny_bind (wpAny_newTuple ?_ (by show vs.length ≤ _; exact hz))
  refine wpAny_bind (wpAny_newList ?_ (Nat.zero_le _))
  refine wpAny_holding ?_
  generalize hh0 : ((s.heap.update a (Obj.mapSeq fun _ => (#[] : Array Value))).push (seqObj "tuple" vs.toArray 0)).push (seqObj "list" #[] 0) = h0
  rw [hkS]
  have k0 : ∀ b o, b ≠ a → s.heap.get? b = some o → h0.get? b = some o := fun b o hb e => by
    rw [← hh0]
    exact Heap.get?_push_of_some _ (Heap.get?_push_of_some _ ((s1.2 b hb).trans e))
  have a0 : h0.get? a = some (seqObj "list" #[] e1) := by
    rw [← hh0]
    exact Heap.get?_push_of_some _ (Heap.get?_push_of_some _ ho1)
  have q0 : h0.get? (s.heap.objs.size + 1) = some (seqObj "list" #[] 0) := by
    rw [← hh0, ← hkS]
    exact Heap.get?_push_size _ rfl
  have hka : s.heap.objs.size + 1 ≠ a := Nat.ne_of_gt (Nat.lt_succ_of_lt ha)
  have hbk : ∀ b o, s.heap.get? b = some o → b ≠ s.heap.objs.size + 1 := fun b o e => Nat.ne_of_lt (Nat.lt_succ_of_lt (Heap.lt_size e))
  show wpAny (model prog w) A (ksk_rest a f false vs.toArray e1 (.ref (s.heap.objs.size + 1))) R E { s with heap := h0 }
  unfold ksk_rest
  refine wpAny_bind (wpAny_rule ?_)
  first
    | rw [List.forIn_toArray]
    | (rw [← Array.forIn_toList]; simp only [List.toList_toArray])
    | rw [← Array.forIn_toList]
  refine wpAny_bind (ksk_fold (fun i s' => ∃ h' tk kA e, s' = { s with heap := h', toks := tk } ∧ (∀ b o, b ≠ a → s.heap.get? b = some o → h'.get? b = some o) ∧ h'.get? a = some (seqObj "list" #[] e1) ∧ h'.get? (s.heap.objs.size + 1) = some (seqObj "list" kA e) ∧ IntsAre kA.toList (ks.take i)) vs 0 _
    ⟨h0, s.toks, #[], 0, rfl, k0, a0, q0, by simpa using IntsAre.nil⟩ ?step ?done)
  case step =>
    rintro j x s' hx ⟨h', tk, kA, e, rfl, k1, a1, q1, hk⟩
    simp only [Nat.zero_add] at hk ⊢
    have hj : j < vs.length := (List.getElem?_eq_some_iff.mp hx).1
    obtain ⟨k, hkj⟩ : ∃ k, ks[j]? = some k := ⟨_, List.getElem?_eq_getElem (by omega)⟩
    have hz2 : kA.size ≤ j := by
      have h1 := hk.length
      rw [Array.length_toList, List.length_take] at h1
      omega
    refine wpAny_bind (wpAny_attempt (wpAny_mono (turn j x k hx hkj h' tk k1) (fun v s'' he => ?_) fun _ _ hF => hF.elim))
    obtain ⟨t2, tk2, rfl, rfl⟩ := he
    try dsimp only
    have s2 := Heap.SameBut.update h' (s.heap.objs.size + 1) (Obj.mapSeq (·.push (.int k t2)))
    obtain ⟨c2, hc2⟩ : ∃ c2, (h'.update (s.heap.objs.size + 1) (Obj.mapSeq (·.push (.int k t2)))).get? (s.heap.objs.size + 1) = some (seqObj "list" (kA.push (.int k t2)) c2) := ⟨_, get?_update_seq q1 (·.push (.int k t2))⟩
    have ek : ks.take (j + 1) = ks.take j ++ [k] := by rw [List.take_add_one, hkj]; simp
    have ea : (kA.push (Value.int k t2)).toList = kA.toList ++ [Value.int k t2] := by simp
    refine wpAny_bind (listUpdate_at q1 rfl ?_ (by omega) (Nat.le_trans (Nat.le_of_eq (Array.size_push ..)) (by omega)))
    exact wpAny_pure ⟨rfl, _, _, kA.push (.int k t2), c2, rfl, fun b o hb e => (s2.2 b (hbk b o e)).trans (k1 b o hb e), (s2.2 a hka.symm).trans a1, hc2, by rw [ea, ek]; exact ksk_snoc hk⟩
  case done =>
    rintro s' ⟨h', tk, kA, e, rfl, k1, a1, q1, hk⟩
    have hk' : IntsAre kA.toList ks := by
      have e3 : ks.take (0 + vs.length) = ks := List.take_of_length_le (by omega)
      rw [e3] at hk
      exact hk
    have hsz : kA.size = vs.length := by
      have h1 := hk'.length
      rw [Array.length_toList] at h1
      omega
    try dsimp only
    refine wpAny_bind (listItems_at q1 rfl ?_)
    unfold ksk_end
    try dsimp only
    have tail : ∀ st : SortSt, failedOf st = none → SrtO.Srtd (SrtO.lt2 SrtO.ltIv) (arrOf st).toList → SrtO.Stb (SrtO.lt2 SrtO.ltIv) (arrOf st).toList (kA.zip vs.toArray).toList →
        wpAny (model prog w) A (ksk_tail a false e1 (.ref (s.heap.objs.size + 1)) st) R E { s with heap := h', toks := tk } := by
      intro st hfl hs hb
      have u := isort_uniq (SrtO.swo2 SrtO.swo_int) hs hb
      rw [ksk_zip] at u
      have eo : ((arrOf st).map (·.2)).toList = (isort (fun p q : Value × Int => decide (p.2 < q.2)) (vs.zip ks)).map (·.1) := by
        have ez : (kA.toList.zip vs).map (fun p : Keyed => (p.2, SrtO.iv p.1)) = vs.zip ks := by
          rw [← SrtO.iv_ints hk', List.zip_map_right]
          apply List.ext_getElem
          · simp [Nat.min_comm]
          · intro i h1 h2
            simp
        rw [Array.toList_map, u, ← ez, ← isort_map (lt := fun p q : Value × Int => decide (p.2 < q.2)) (fun p : Keyed => (p.2, SrtO.iv p.1)), List.map_map]
        rfl
      have hsz2 : (arrOf st).size = vs.length := by
        have := hb.perm.length_eq
        rw [ksk_zip, List.length_zip, Array.length_toList, Array.length_toList, hsz, Nat.min_self] at this
        exact this
      have s3 := Heap.SameBut.update h' (s.heap.objs.size + 1) (Obj.mapSeq fun _ => (#[] : Array Value))
      have na1 : (h'.update (s.heap.objs.size + 1) (Obj.mapSeq fun _ => (#[] : Array Value))).get? a = some (seqObj "list" #[] e1) := (s3.2 a hka.symm).trans a1
      have s4 := Heap.SameBut.update (h'.update (s.heap.objs.size + 1) (Obj.mapSeq fun _ => (#[] : Array Value))) a (Obj.mapSeq fun _ => (arrOf st).map (·.2))
      obtain ⟨c2, hc2⟩ : ∃ c2, ((h'.update (s.heap.objs.size + 1) (Obj.mapSeq fun _ => (#[] : Array Value))).update a (Obj.mapSeq fun _ => (arrOf st).map (·.2))).get? a = some (seqObj "list" ((arrOf st).map (·.2)) c2) :=
        ⟨_, get?_update_seq na1 fun _ => (arrOf st).map (·.2)⟩
      unfold ksk_tail
      try dsimp only
      refine wpAny_bind (listUpdate_at q1 rfl ?_ (by omega) (Nat.zero_le _))
      refine wpAny_bind (wpAny_letGo ?_)
      refine wpAny_bind (seqEpoch_at na1 rfl ?_)
      refine wpAny_bind (listUpdate_at na1 rfl ?_ (Nat.zero_le _) (by simp only [Bool.false_eq_true, if_false, Array.size_map]; omega))
      rw [hfl]
      simp only [bne_self_eq_false, Bool.false_eq_true, if_false]
      refine wpAny_pure (h _ _ ((arrOf st).map (·.2)).toList c2 (fun b o hb e => (s4.2 b hb).trans ((s3.2 b (hbk b o e)).trans (k1 b o hb e))) ?_ eo)
      rw [Array.toArray_toList]
      exact hc2
    simp only [Bool.false_eq_true, if_false]
    by_cases h2 : vs.toArray.size < 2
    · rw [if_pos h2, if_pos h2]
      refine wpAny_bind (wpAny_pure ?_)
      rw [StateT.run_pure]
      refine wpAny_bind (wpAny_pure ?_)
      try dsimp only
      refine tail (SortSt.mk' general' (kA.zip vs.toArray) #[] 7 none) rfl ?_ (SrtO.Stb.refl _)
      show SrtO.Srtd _ (kA.zip vs.toArray).toList
      rw [ksk_zip]
      have : (kA.toList.zip vs).length < 2 := by
        rw [List.length_zip, Array.length_toList]
        rw [List.size_toArray] at h2
        omega
      match hq : kA.toList.zip vs, this with
      | [], _ => exact List.Pairwise.nil
      | [p], _ => exact List.pairwise_singleton _ _
      | _ :: _ :: _, h => exact absurd h (by simp)
    · rw [if_neg h2, if_neg h2]
      rw [List.size_toArray] at h2
      rw [ksk_kind hk' (by omega)]
      refine wpAny_bind (wpAny_pure ?_)
      refine wpAny_bind (wpAny_mono (SrtO.wpS_sortO (κ := oneType') (P := fun p => p.1 ∈ kA.toList) (lt := SrtO.lt2 SrtO.ltIv) (st0 := SortSt.mk' oneType' (kA.zip vs.toArray) #[] 7 none)
        (Q := fun _ st' => SrtO.Srtd (SrtO.lt2 SrtO.ltIv) (arrOf st').toList ∧ SrtO.Stb (SrtO.lt2 SrtO.ltIv) (arrOf st').toList (kA.zip vs.toArray).toList ∧ failedOf st' = none) (SrtO.swo2 SrtO.swo_int) (SrtO.int_cmp hk') rfl (fun p hp => ?_) rfl rfl fun st' b1 b2 b3 => ⟨b1, b2, b3⟩) ?_ fun _ _ e => e)
      · have hp : p ∈ (kA.zip vs.toArray).toList := hp
        rw [ksk_zip] at hp
        exact (List.of_mem_zip hp).1
      · rintro ⟨⟨⟩, st'⟩ s' ⟨rfl, hp1, hp2, hf⟩
        try dsimp only
        exact tail st' hf hp1 hp2
end
/-- x stands before y by what is known of them -/
def lexP {α : Type} (p q : α × List Int) : Bool := HT.lexLt p.2 q.2
def lenP {α : Type} (p q : α × Int) : Bool := decide (p.2 < q.2)
def rSortTI (K : Fg) : List V → Hp → VK → Prop := fun vs H Q => ∃ (a : Addr) (ps : List (V × List Int)), vs = [.ref a] ∧ SqL K H a (ps.map (·.1)) ∧ (∀ p ∈ ps, ∃ t, p.1 = .ref t ∧ SqT K H t (p.2.map V.int)) ∧ (∃ v r, ps = (v, []) :: r) ∧
  ∀ q, H q = none → Q (.ref q) (upd H q (.lst ((isort lexP ps).map (·.1))))
def rSortLen (K : Fg) : List V → Hp → VK → Prop := fun vs H Q => ∃ (a : Addr) (ps : List (V × Int)), vs = [.ref a] ∧ SqL K H a (ps.map (·.1)) ∧ (∀ p ∈ ps, ∃ t xs, p.1 = .ref t ∧ SqT K H t xs ∧ (xs.length : Int) = p.2) ∧
  ∀ q, H q = none → Q (.ref q) (upd H q (.lst ((isort lenP ps).map (·.1))))
section
variable {X : Cx}
theorem kind_tup0 {M : Model} {A : Around} {E : Value → Shared → Prop} {s : Shared} {v : Value} {vs : List Value} {Q : SortKind → Shared → Prop} (h0 : TS.TupInts s.heap v []) (hv : ∀ u ∈ vs, ∃ ns, TS.TupInts s.heap u ns) (h : Q oneType' s) :
    wpAny M A (keyKind' (v :: vs).toArray) Q E s := by
  have ty : ∀ {u : Value} {ns : List Int}, TS.TupInts s.heap u ns → PySem.W.Looks M s.heap (typeOf u) (.type "tuple") := fun {u ns} ⟨a, xs, e, ⟨o, ho, hc, hd⟩, _⟩ => by
    subst e
    rw [← hc]
    exact (PySem.W.Looks.ld ho).andThen .now
  have fst : ∀ {u : Value} {ns : List Int}, TS.TupInts s.heap u ns → ∃ r : Option Value, (ns = [] → r = none) ∧ ∀ Q' : Option Value → Shared → Prop, Q' r s → wpAny M A (firstOfTuple' u) Q' E s := fun {u ns} h => by
    have t1 := ty h
    obtain ⟨a, xs, e, ⟨o, ho, hc, n, hd⟩, i⟩ := h
    subst e
    refine ⟨xs[0]?, fun hn => ?_, fun Q' hq => ?_⟩
    · subst hn
      have e0 : xs.toList = [] := List.length_eq_zero_iff.mp (by rw [i.length]; rfl)
      have e1 : xs = #[] := by rw [← Array.toArray_toList (xs := xs), e0]
      rw [e1]; rfl
    · rw [PySem.W.kas_first_eq]
      refine wpAny_bind (t1.here ?_)
      rw [if_neg (by decide)]
      exact wpAny_bind (listItems_at ho hd (wpAny_pure hq))
  have fsts : ∀ us : List Value, (∀ u ∈ us, ∃ ns, TS.TupInts s.heap u ns) → ∀ Q' : List (Option Value) → Shared → Prop, (∀ rs, Q' rs s) → wpAny M A (us.mapM firstOfTuple') Q' E s := by
    intro us
    induction us with
    | nil => intro _ Q' hq; rw [List.mapM_nil]; exact wpAny_pure (hq [])
    | cons u us ih =>
      intro hu Q' hq
      obtain ⟨ns, hn⟩ := hu u List.mem_cons_self
      obtain ⟨r, _, hr⟩ := fst hn
      rw [List.mapM_cons]
      exact wpAny_bind (hr _ (wpAny_bind (ih (fun x hx => hu x (List.mem_cons_of_mem _ hx)) _ fun rs => wpAny_pure (hq _))))
  obtain ⟨r0, r0n, hr0⟩ := fst h0
  have r0n := r0n rfl
  subst r0n
  rw [keyKind'_eq, List.mapM_toArray, map_eq_pure_bind, List.mapM_cons]
  refine wpAny_bind (wpAny_bind (wpAny_bind (hr0 _ (wpAny_bind (fsts vs hv _ fun rs => wpAny_pure (wpAny_pure ?_))))))
  rw [if_neg (by simp), if_neg (by simp)]
  rw [oneTypeOnly'_eq, List.mapM_toArray, map_eq_pure_bind]
  refine wpAny_bind (wpAny_bind (wpAny_bind (PySem.W.kas_mapM (r := .type "tuple") _ (fun u hu Q' hq => ?_) (wpAny_pure ?_))))
  · rcases List.mem_cons.mp hu with rfl | hu
    · exact (ty h0).here hq
    · obtain ⟨ns, hn⟩ := hv u hu
      exact (ty hn).here hq
  · have hall : ((List.map (fun _ => Value.type "tuple") (v :: vs)).toArray.all fun x => x == Value.type "tuple") = true := by
      simp only [List.all_toArray, List.all_map, List.all_eq_true]
      intro _ _
      rfl
    have h0 : (List.map (fun _ => Value.type "tuple") (v :: vs)).toArray[0]? = some (Value.type "tuple") := by simp
    rw [h0]
    simp only [hall, if_true]
    exact wpAny_pure (wpAny_pure h)
theorem cr_sortTI (hu : X.A.units + 64 < cLine) : CallR X (.builtin "sorted") (rSortTI X.K) := by
  intro pins s σ H vs us Q I r h
  obtain ⟨a, ps, rfl, hs, hx, ⟨v0, rest, hps⟩, q⟩ := h
  obtain ⟨its, rv, hl, hz⟩ := I.list hs
  rw [Vals.ref1 r]
  have hzl : ps.length = its.length := by rw [← rv.length, List.length_map]
  have hrel : ∀ z ∈ ps.zip its, RelV z.1.1 z.2 ∧ TS.TupInts s.heap z.2 z.1.2 := fun z hz => by
    have h1 : (z.1.1, z.2) ∈ (ps.map (·.1)).zip its := by
      rw [List.zip_map_left]
      exact List.mem_map.mpr ⟨z, hz, rfl⟩
    have h2 := vals_zip rv _ h1
    refine ⟨h2, ?_⟩
    obtain ⟨t, e, ht⟩ := hx z.1 (List.of_mem_zip hz).1
    rw [e] at h2
    rw [show z.2 = Value.ref t from h2]
    obtain ⟨its', rv', hT', _⟩ := I.tuple ht
    exact ⟨t, its'.toArray, rfl, hT', by simpa using rv'.ints⟩
  have e1 : (ps.zip its).map (·.1) = ps := List.map_fst_zip (by omega)
  have e2 : (ps.zip its).map (·.2) = its := List.map_snd_zip (by omega)
  have hT : ∀ u ∈ its, TS.TupInts s.heap u (TS.intsOf s.heap u) := fun u hu => by
    rw [← e2] at hu
    obtain ⟨z, hz, rfl⟩ := List.mem_map.mp hu
    have := (hrel z hz).2
    rw [this.ints]
    exact this
  have O := NtL.swo_lexL fun u => TS.intsOf s.heap u
  refine SrtO.sorted_ord O hl.isList (by rw [← hzl, ← List.length_map (f := (·.1))]; exact hz) (fun h2 h₁ a' ha' kk => ?_) fun out h1 h2 => ?_
  · intro h' keep
    have hT' : ∀ u ∈ its, TS.TupInts h' u (TS.intsOf s.heap u) := fun u hu => by
      refine (hT u hu).keeps fun b o e c => ?_
      obtain ⟨n1, n2⟩ := kk b o e
      exact keep b o n1 n2
    refine ⟨oneType', fun Q' E' hq => ?_, fun p q' hp hq => lt_tup (Q := fun r s' => s' = _ ∧ r = HT.lexLt (TS.intsOf s.heap p.1) (TS.intsOf s.heap q'.1)) (by show X.A.units + 1 + 1 < cLine; omega) (hT' p.1 hp) (hT' q'.1 hq) ⟨rfl, rfl⟩⟩
    match its, hzl, hT', hps, hrel with
    | u :: us', hzl, hT', hps, hrel =>
      have : TS.intsOf s.heap u = [] := by
        have := (hrel ((v0, []), u) (by rw [hps, List.zip_cons_cons]; exact List.mem_cons_self)).2
        exact this.ints
      have t0 := hT' u List.mem_cons_self
      rw [this] at t0
      exact kind_tup0 t0 (fun w hw => ⟨_, hT' w (List.mem_cons_of_mem _ hw)⟩) hq
    | [], hzl, _, hps, _ => rw [hps] at hzl; simp at hzl
  · have u := isort_uniq O h1 h2
    have ev : isort (fun v u => HT.lexLt (TS.intsOf s.heap v) (TS.intsOf s.heap u)) its = (isort (fun z z' : (V × List Int) × Value => lexP z.1 z'.1) (ps.zip its)).map (·.2) := by
      conv => lhs; rw [← e2]
      rw [← isort_map]
      congr 1
      refine isort_congr _ fun z hz z' hz' => ?_
      show HT.lexLt (TS.intsOf s.heap z.2) (TS.intsOf s.heap z'.2) = HT.lexLt z.1.2 z'.1.2
      rw [(hrel z hz).2.ints, (hrel z' hz').2.ints]
    have ex : isort lexP ps = (isort (fun z z' : (V × List Int) × Value => lexP z.1 z'.1) (ps.zip its)).map (·.1) := by
      conv => lhs; rw [← e1]
      rw [← isort_map]
    have vo : Vals ((isort lexP ps).map (·.1)) out := by
      rw [u, ev, ex, List.map_map]
      exact vals_pairs fun z hz => (hrel z ((isort_perm _).mem_iff.mp hz)).1
    obtain ⟨ep, he'⟩ := PyProof.Rows.sortedAll_at s.heap its out.toArray
    have hlen : ((isort lexP ps).map (·.1)).length ≤ sizeLine := by
      rw [List.length_map, (isort_perm _).length_eq]
      rw [List.length_map] at hz
      exact hz
    exact ⟨.ref _, upd H (s.heap.objs.size + 1) (.lst ((isort lexP ps).map (·.1))), I.laid (t' := s.toks) (fun _ _ => PyProof.Rows.sortedAll_old) (Nat.le_succ _) ⟨hlen, out, ep, vo, he'⟩, rfl, q _ (I.hok.fresh (Nat.le_succ _))⟩
theorem pe_sortLen {p p2 kp pos : Pos} {a : Expr} {ta : TE} (hg : Gl X "sorted") (hm : X.mg "sorted" = none) (hg2 : Gl X "len") (hm2 : X.mg "len" = none) (ha : PE X a ta)
    (he : backTo pos (starEach [a] X.env) = (false, eval a X.env) :: backTo pos (starEach [] X.env)) (hpl : (backTo pos (starEach [a] X.env)).any (·.1) = false) (hpa : PA X [a] (tCons ta tNil)) :
    PE X (.Call (.Name "sorted" p) [a] [⟨some "key", .Name "len" p2, kp⟩] pos) (tCB (rSortLen X.K) (tCons ta tNil)) := by
  refine ⟨fun pins s σ H Q I h => ?_⟩
  refine wpAny_Call_Name_kw (ld_blt I hg hm (u := .builtin "sorted") (by decide +kernel) ?_)
  refine PyProof.Rows.callWith_kw (thn (hpa.run pos pins s σ H _ I h) fun us s1 ⟨vs, H1, I1, r1, q1⟩ => ?_) he hpl
  show wpAny _ _ (evalAll [(do let v ← eval (.Name "len" p2) X.env; standAt pos; pure v)]) _ _ _
  refine wpAny_evalAll_cons (wpAny_bind (ld_blt I1 hg2 hm2 (u := .builtin "len") (by decide +kernel) (wpAny_bind (wpAny_standAt (wpAny_pure (wpAny_evalAll_nil ?_))))))
  show wpAny (model X.prog X.w) X.A (call (.builtin "sorted") us [(Str.ofString "key", .builtin "len")]) _ _ _
  obtain ⟨l, ps, rfl, hs, hx, q⟩ := q1
  obtain ⟨its, rv, hl, hz⟩ := I1.list hs
  rw [Vals.ref1 r1]
  have hzl : ps.length = its.length := by rw [← rv.length, List.length_map]
  have hzi : its.length ≤ sizeLine := by rw [← hzl, ← List.length_map (f := (·.1))]; exact hz
  have hrel : ∀ z ∈ ps.zip its, RelV z.1.1 z.2 := fun z hz => by
    have h1 : (z.1.1, z.2) ∈ (ps.map (·.1)).zip its := by
      rw [List.zip_map_left]
      exact List.mem_map.mpr ⟨z, hz, rfl⟩
    exact vals_zip rv _ h1
  have e1 : (ps.zip its).map (·.1) = ps := List.map_fst_zip (by omega)
  have e2 : (ps.zip its).map (·.2) = its := List.map_snd_zip (by omega)
  refine call_function_entry_kw kind_sorted plain_sorted entry_sorted (ksk_s1 _ _) ?_
  unfold Builtin.«sorted»
  refine wpAny_bind (m := checkCount "sorted" 1 1 _) (wpAny_pure ?_)
  refine wpAny_bind (collect_list hl.isList ?_ hzi)
  refine wpAny_bind (wpAny_newList ?_ hzi)
  have hsz : ((s1.heap.push (seqObj "list" #[] 0)).update s1.heap.objs.size (Obj.mapSeq (· ++ its.toArray))).objs.size = s1.heap.objs.size + 1 := by
    rw [Heap.size_update, size_push']
  have hoL : (((s1.heap.push (seqObj "list" #[] 0)).update s1.heap.objs.size (Obj.mapSeq (· ++ its.toArray))).push (seqObj "list" its.toArray 0)).get? (s1.heap.objs.size + 1) = some (seqObj "list" its.toArray 0) := by
    rw [← hsz]; exact Heap.get?_push_size _ rfl
  have keep : ∀ b o, s1.heap.get? b = some o → b ≠ s1.heap.objs.size + 1 ∧ (((s1.heap.push (seqObj "list" #[] 0)).update s1.heap.objs.size (Obj.mapSeq (· ++ its.toArray))).push (seqObj "list" its.toArray 0)).get? b = some o := fun b o q => by
    have hlt : b < s1.heap.objs.size := Heap.lt_size q
    refine ⟨Nat.ne_of_lt (Nat.lt_succ_of_lt hlt), Heap.get?_push_of_some _ ?_⟩
    rw [Heap.get?_update_ne _ _ _ _ (Nat.ne_of_lt hlt)]
    exact Heap.get?_push_of_some _ q
  show wpAny _ _ _ _ _ { s1 with heap := ((s1.heap.push (seqObj "list" #[] 0)).update s1.heap.objs.size (Obj.mapSeq (· ++ its.toArray))).push (seqObj "list" its.toArray 0) }
  rw [hsz]
  refine wpAny_bind (wpAny_holding (wpAny_call_entry_kw slot_list_sort ⟨_, hoL, rfl⟩ entry_list_sort ?body (ksk_l1 _ _)))
  case body =>
    rw [ksk_t4]
    refine list_sort_key (ks := ps.map (·.2)) hoL hzi (by rw [List.length_map]; exact hzl) (fun i v k hv hk h tk kp => ?_) fun h' tk out c kp ho eo => ⟨_, rfl, ?_⟩
    · obtain ⟨p, hp, rfl⟩ : ∃ p, ps[i]? = some p ∧ p.2 = k := by
        rw [List.getElem?_map] at hk
        obtain ⟨p, h1, h2⟩ := Option.map_eq_some_iff.mp hk
        exact ⟨p, h1, h2⟩
      have hz' : (p, v) ∈ ps.zip its := by
        rw [List.mem_iff_getElem?]
        exact ⟨i, by rw [List.getElem?_zip_eq_some]; exact ⟨hp, hv⟩⟩
      obtain ⟨t, xs, e, ht, hn⟩ := hx p (List.mem_of_getElem? hp)
      have hr := hrel _ hz'
      rw [e] at hr
      cases hr
      obtain ⟨its2, r', ⟨o, ho2, hc2, hd2⟩, hz2⟩ := I1.tuple ht
      have big := line63
      have hlen2 := r'.length
      obtain ⟨n1, n2⟩ := keep t o ho2
      have pl : PyProof.Rows.IsTup h t its2.toArray := ⟨o, kp t o n1 n2, hc2, hd2⟩
      refine len_tuple (s := { s1 with heap := h, toks := tk }) pl (by simp only [List.size_toArray] <;> omega) ⟨tk + 1, tk + 1 + 1, ?_, rfl⟩
      rw [List.size_toArray, ← hlen2, hn]
    · have vo : Vals ((isort lenP ps).map (·.1)) out := by
        have ex : isort lenP ps = (isort (fun z z' : (V × Int) × Value => lenP z.1 z'.1) (ps.zip its)).map (·.1) := by
          conv => lhs; rw [← e1]
          rw [← isort_map]
        have ey : its.zip (ps.map (·.2)) = (ps.zip its).map fun z => (z.2, z.1.2) := by
          apply List.ext_getElem
          · simp [Nat.min_comm]
          · intro i h1 h2
            simp
        rw [eo, ex, ey, ← isort_map, List.map_map, List.map_map]
        exact vals_pairs fun z hz => hrel z ((isort_perm _).mem_iff.mp hz)
      have hlen : ((isort lenP ps).map (·.1)).length ≤ sizeLine := by
        rw [List.length_map, (isort_perm _).length_eq]
        rw [List.length_map] at hz
        exact hz
      refine wpAny_pure ⟨_, rfl, .ref _, upd H1 (s1.heap.objs.size + 1) (.lst ((isort lenP ps).map (·.1))), I1.laid (t' := tk) (fun b u e => ?_) (Nat.le_succ _) ⟨hlen, out, c, vo, ho⟩, rfl, q _ (I1.hok.fresh (Nat.le_succ _))⟩
      obtain ⟨n1, n2⟩ := keep b u e
      exact kp b u n1 n2
end
end Tg
namespace Tg
open PySem PySem.Spec PyProof.Rows L2
def tupsOf : List D → Option (List (List Int))
  | [] => some []
  | .tup xs :: ds => (intsOf xs).bind fun ns => (tupsOf ds).map fun r => ns :: r
  | _ => none
def lensOf : List D → Option (List Int)
  | [] => some []
  | .tup xs :: ds => (lensOf ds).map fun r => (xs.length : Int) :: r
  | _ => none
def ltI (a b : Int) : Bool := decide (a < b)
def gtI (a b : Int) : Bool := decide (b < a)
def sortT (xs : List D) : Option D := (tupsOf xs).bind fun ks => match ks with
  | [] :: _ => some (.lst ((isort lexP (xs.zip ks)).map (·.1)))
  | _ => none
def sortX (xs : List D) : Option D := match intsOf xs with
  | some ns => some (.lst ((isort ltI ns).map D.int))
  | none => sortT xs
def gSorted (st : Sto) : List D → Option D
  | [d] => (lsqOf st d).bind sortX
  | _ => none
def gSortRev (st : Sto) : List D → Option D
  | [d] => (lsqOf st d).bind fun xs => (intsOf xs).map fun ns => .lst ((isort gtI ns).map D.int)
  | _ => none
def gSortLen (st : Sto) : List D → Option D
  | [d] => (lsqOf st d).bind fun xs => (lensOf xs).map fun ks => .lst ((isort lenP (xs.zip ks)).map (·.1))
  | _ => none
theorem swo_ltI : SrtO.Swo ltI := by
  refine ⟨fun x y h => ?_, fun x y z h1 h2 => ?_⟩
  · have a := of_decide_eq_true (p := x < y) h
    exact decide_eq_false (p := y < x) (by omega)
  · have a := of_decide_eq_false (p := y < x) h1
    have b := of_decide_eq_false (p := z < y) h2
    exact decide_eq_false (p := z < x) (by omega)
theorem swo_gtI : SrtO.Swo gtI := by
  refine ⟨fun x y h => ?_, fun x y z h1 h2 => ?_⟩
  · have a := of_decide_eq_true (p := y < x) h
    exact decide_eq_false (p := x < y) (by omega)
  · have a := of_decide_eq_false (p := x < y) h1
    have b := of_decide_eq_false (p := y < z) h2
    exact decide_eq_false (p := x < z) (by omega)
theorem isort_le (ns : List Int) : (isort ltI ns).Pairwise (· ≤ ·) := (isort_srtd swo_ltI ns).imp fun {x y} h => by
  have := of_decide_eq_false (p := y < x) h
  omega
theorem isort_ge (ns : List Int) : (isort gtI ns).Pairwise (· ≥ ·) := (isort_srtd swo_gtI ns).imp fun {x y} h => by
  have := of_decide_eq_false (p := x < y) h
  show y ≤ x
  omega
theorem sorted_ints {ns ms : List Int} (h : ms.Perm ns) (p : ms.Pairwise (· ≤ ·)) : ms = isort ltI ns :=
  List.Perm.eq_of_pairwise (fun a b _ _ h1 h2 => Int.le_antisymm h1 h2) p (isort_le ns) (h.trans (isort_perm ns).symm)
theorem sorted_down {ns ms : List Int} (h : ms.Perm ns) (p : ms.Pairwise (· ≥ ·)) : ms = isort gtI ns :=
  List.Perm.eq_of_pairwise (le := fun a b : Int => a ≥ b) (fun a b _ _ h1 h2 => Int.le_antisymm h2 h1) p (isort_ge ns) (h.trans (isort_perm ns).symm)
section
variable {K : Fg} {r m : List Addr} {H : Hp} {st : Sto}
theorem dens_pairs {γ : Type} {f : γ → D} {g : γ → V} : ∀ {l : List γ}, (∀ x ∈ l, Den K r m H (f x) (g x)) → Dens K r m H (l.map f) (l.map g)
  | [], _ => rfl
  | x :: l, h => ⟨_, _, rfl, h x List.mem_cons_self, dens_pairs fun y hy => h y (List.mem_cons_of_mem _ hy)⟩
theorem dens_zip : ∀ {ds : List D} {vs : List V}, Dens K r m H ds vs → ∀ p ∈ ds.zip vs, Den K r m H p.1 p.2
  | [], _, h, p, hp => by simp at hp
  | d :: ds, _, h, p, hp => by
    obtain ⟨x, q, rfl, a, b⟩ := h
    rw [List.zip_cons_cons] at hp
    rcases List.mem_cons.mp hp with rfl | hp
    · exact a
    · exact dens_zip b p hp
theorem tups_len : ∀ {ds : List D} {ks : List (List Int)}, tupsOf ds = some ks → ks.length = ds.length ∧ ∀ p ∈ ds.zip ks, p.1 = .tup (p.2.map D.int)
  | [], _, h => by
    cases h
    exact ⟨rfl, fun p hp => by simp at hp⟩
  | d :: ds, ks, h => by
    unfold tupsOf at h
    split at h
    · next e => cases e
    · next xs ds' e =>
      cases e
      obtain ⟨ns, h1, h⟩ := Option.bind_eq_some_iff.mp h
      obtain ⟨rr, h2, h3⟩ := Option.map_eq_some_iff.mp h
      subst h3
      obtain ⟨a, b⟩ := tups_len h2
      refine ⟨by rw [List.length_cons, List.length_cons, a], fun p hp => ?_⟩
      rw [List.zip_cons_cons] at hp
      rcases List.mem_cons.mp hp with rfl | hp
      · show D.tup xs = _
        rw [intsOf_eq h1]
      · exact b p hp
    · cases h
theorem lens_len : ∀ {ds : List D} {ks : List Int}, lensOf ds = some ks → ks.length = ds.length ∧ ∀ p ∈ ds.zip ks, ∃ xs, p.1 = .tup xs ∧ (xs.length : Int) = p.2
  | [], _, h => by
    cases h
    exact ⟨rfl, fun p hp => by simp at hp⟩
  | d :: ds, ks, h => by
    unfold lensOf at h
    split at h
    · next e => cases e
    · next xs ds' e =>
      cases e
      obtain ⟨rr, h2, h3⟩ := Option.map_eq_some_iff.mp h
      subst h3
      obtain ⟨a, b⟩ := lens_len h2
      refine ⟨by rw [List.length_cons, List.length_cons, a], fun p hp => ?_⟩
      rw [List.zip_cons_cons] at hp
      rcases List.mem_cons.mp hp with rfl | hp
      · exact ⟨xs, rfl, rfl⟩
      · exact b p hp
    · cases h
/-- keys sort data and values alike -/
theorem sort_both {κ : Type} {lt : κ → κ → Bool} {ds : List D} {vs : List V} {ks : List κ} (h : Dens K r m H ds vs) (hk : ks.length = ds.length) :
    Dens K r m H ((isort (fun p q : D × κ => lt p.2 q.2) (ds.zip ks)).map (·.1)) ((isort (fun p q : V × κ => lt p.2 q.2) (vs.zip ks)).map (·.1)) := by
  have hl := h.len
  have e1 : ds.zip ks = ((ds.zip vs).zip ks).map fun z => (z.1.1, z.2) := by
    apply List.ext_getElem
    · simp; omega
    · intro i h1 h2
      simp
  have e2 : vs.zip ks = ((ds.zip vs).zip ks).map fun z => (z.1.2, z.2) := by
    apply List.ext_getElem
    · simp; omega
    · intro i h1 h2
      simp
  rw [e1, e2, ← isort_map (lt := fun p q : D × κ => lt p.2 q.2), ← isort_map (lt := fun p q : V × κ => lt p.2 q.2), List.map_map, List.map_map]
  refine dens_pairs fun z hz => ?_
  have hz := (isort_perm _).mem_iff.mp hz
  exact dens_zip h z.1 (List.of_mem_zip hz).1
theorem cd_sorted : CallD K gSorted (fun vs H Q => rSortedI K vs H Q ∨ rSortTI K vs H Q) := by
  intro r m st H ds d vs Q g h e q
  unfold gSorted at e
  split at e
  · obtain ⟨xs, e1, e⟩ := Option.bind_eq_some_iff.mp e
    obtain ⟨x, tl, rfl, a, b⟩ := h
    cases b
    obtain ⟨p, ws, rfl, s, dd, z⟩ := lsq_list g a e1
    unfold sortX at e
    split at e
    · next ns e2 =>
      cases e
      rw [intsOf_eq e2] at dd
      have hw := dd.ints
      subst hw
      refine .inl ⟨p, ns, rfl, s, fun ns' l pm pw nl => ?_⟩
      rw [sorted_ints pm pw]
      have l2 : Le m H m (upd H l (.lst ((isort ltI ns).map V.int))) := le_upd nl
      refine q m _ _ l2 (g.upd nl) ⟨l, _, rfl, upd_same, g.fresh nl, ?_, Dens.of_ints _⟩
      rw [List.length_map, (isort_perm ns).length_eq]
      rw [List.length_map] at z
      exact z
    · unfold sortT at e
      obtain ⟨ks, e2, e⟩ := Option.bind_eq_some_iff.mp e
      obtain ⟨t1, t2⟩ := tups_len e2
      split at e
      · next ks' =>
        cases e
        have hl := dd.len
        generalize hks : ([] : List Int) :: ks' = ks at *
        refine .inr ⟨p, ws.zip ks, rfl, ?_, fun y hy => ?_, ?_, fun l nl => ?_⟩
        · rw [List.map_fst_zip (by omega)]
          exact s
        · obtain ⟨i, hi⟩ := List.mem_iff_getElem?.mp hy
          rw [List.getElem?_zip_eq_some] at hi
          obtain ⟨dv, h1, h2⟩ := dd.getV hi.1
          have h3 := t2 (dv, y.2) (List.mem_iff_getElem?.mpr ⟨i, by rw [List.getElem?_zip_eq_some]; exact ⟨h1, hi.2⟩⟩)
          have h3 : dv = .tup (y.2.map D.int) := h3
          rw [h3] at h2
          obtain ⟨t, us, e, it, du⟩ := h2
          rw [du.ints] at it
          exact ⟨t, e, it.sq⟩
        · cases ws with
          | nil =>
            rw [← hks, List.length_cons] at t1
            rw [List.length_nil] at hl
            omega
          | cons w ws' => exact ⟨w, ws'.zip ks', by rw [← hks, List.zip_cons_cons]⟩
        · have l2 : Le m H m (upd H l (.lst ((isort lexP (ws.zip ks)).map (·.1)))) := le_upd nl
          refine q m _ _ l2 (g.upd nl) ⟨l, _, rfl, upd_same, g.fresh nl, ?_, (sort_both (lt := HT.lexLt) dd t1).mono l2⟩
          rw [List.length_map, (isort_perm _).length_eq, List.length_zip]
          omega
      · cases e
  · cases e
theorem cd_sortLen : CallD K gSortLen (rSortLen K) := by
  intro r m st H ds d vs Q g h e q
  unfold gSortLen at e
  split at e
  · obtain ⟨xs, e1, e⟩ := Option.bind_eq_some_iff.mp e
    obtain ⟨ks, e2, e3⟩ := Option.map_eq_some_iff.mp e
    subst e3
    obtain ⟨x, tl, rfl, a, b⟩ := h
    cases b
    obtain ⟨p, ws, rfl, s, dd, z⟩ := lsq_list g a e1
    obtain ⟨t1, t2⟩ := lens_len e2
    have hl := dd.len
    refine ⟨p, ws.zip ks, rfl, ?_, fun y hy => ?_, fun l nl => ?_⟩
    · rw [List.map_fst_zip (by omega)]
      exact s
    · obtain ⟨i, hi⟩ := List.mem_iff_getElem?.mp hy
      rw [List.getElem?_zip_eq_some] at hi
      obtain ⟨dv, h1, h2⟩ := dd.getV hi.1
      obtain ⟨ys, h3, h4⟩ := t2 (dv, y.2) (List.mem_iff_getElem?.mpr ⟨i, by rw [List.getElem?_zip_eq_some]; exact ⟨h1, hi.2⟩⟩)
      have h3 : dv = .tup ys := h3
      rw [h3] at h2
      obtain ⟨t, us, e, it, du⟩ := h2
      exact ⟨t, us, e, it.sq, by rw [← du.len]; exact h4⟩
    · have l2 : Le m H m (upd H l (.lst ((isort lenP (ws.zip ks)).map (·.1)))) := le_upd nl
      refine q m _ _ l2 (g.upd nl) ⟨l, _, rfl, upd_same, g.fresh nl, ?_, (sort_both (lt := fun a b : Int => decide (a < b)) dd t1).mono l2⟩
      rw [List.length_map, (isort_perm _).length_eq, List.length_zip]
      omega
  · cases e
/-- sorted(xs, reverse=True) -/
theorem t_sortRev {σ : L2.St} {H : Hp} {Q : VK} {fa : DA} (h : tE K (eBlt gSortRev fa) σ H Q) : tCKw (rSortedKw K true [.bl true]) (tAr K fa) (tCons (tC (.bl true)) tNil) σ H Q := by
  obtain ⟨r, m, st, env, d, st', g, e, f, q⟩ := h
  unfold eBlt at f
  obtain ⟨⟨x, s1⟩, f1, f⟩ := Option.bind_eq_some_iff.mp f
  obtain ⟨d', f3, f⟩ := Option.map_eq_some_iff.mp f
  cases f
  refine ⟨r, m, st, env, x, s1, g, e, f1, fun m1 H1 v1 l1 g1 d1 => ?_⟩
  have f3 : gSortRev s1 x = some d := f3
  unfold gSortRev at f3
  split at f3
  · obtain ⟨xs, e1, f3⟩ := Option.bind_eq_some_iff.mp f3
    obtain ⟨ns, e2, e3⟩ := Option.map_eq_some_iff.mp f3
    subst e3
    obtain ⟨y, tl, rfl, a, b⟩ := d1
    cases b
    obtain ⟨p, ws, rfl, s, dd, z⟩ := lsq_list g1 a e1
    rw [intsOf_eq e2] at dd
    have hw := dd.ints
    subst hw
    refine ⟨p, ns, rfl, rfl, s, fun ns' l pm pw nl => ?_⟩
    have pw : ns'.Pairwise (· ≥ ·) := pw
    rw [sorted_down pm pw]
    have l2 : Le m1 H1 m1 (upd H1 l (.lst ((isort gtI ns).map V.int))) := le_upd nl
    refine q m1 _ _ (l1.trans l2) (g1.upd nl) ⟨l, _, rfl, upd_same, g1.fresh nl, ?_, Dens.of_ints _⟩
    rw [List.length_map, (isort_perm ns).length_eq]
    rw [List.length_map] at z
    exact z
  · cases f3
/-- xs[::-1] -/
def revD (st : Sto) : D → Option D
  | .tup xs => some (.tup xs.reverse)
  | d => (lsqOf st d).map fun xs => .lst xs.reverse
def eRev (fa : DE) : DE := fun env st => (fa env st).bind fun p => (revD p.2 p.1).map fun d => (d, p.2)
end
end Tg
namespace Tg
open PySem PySem.Spec PyProof.Rows L2
section
variable {K : Fg} {r m : List Addr} {H : Hp} {st : Sto}
theorem zip_lookup {κ : Type} [BEq κ] {f : κ} {d : D} : ∀ {ns : List κ} {ds : List D} {vs : List V}, Dens K r m H ds vs → (ns.zip ds).lookup f = some d → ∃ v, (ns.zip vs).lookup f = some v ∧ Den K r m H d v
  | [], _, _, _, e => by cases e
  | _ :: _, [], _, _, e => by cases e
  | n :: ns, x :: ds, _, h, e => by
    obtain ⟨w, ws, rfl, a, b⟩ := h
    rw [List.zip_cons_cons, List.lookup_cons] at e ⊢
    cases q : f == n with
    | true =>
      rw [q] at e
      cases e
      exact ⟨w, rfl, a⟩
    | false =>
      rw [q] at e
      exact zip_lookup b e
theorem zip_nolook {κ : Type} [BEq κ] [LawfulBEq κ] {f : κ} : ∀ {ns : List κ} {vs : List V}, f ∉ ns → (ns.zip vs).lookup f = none
  | [], _, _ => rfl
  | _ :: _, [], _ => rfl
  | n :: ns, v :: vs, h => by
    rw [List.zip_cons_cons, List.lookup_cons]
    have hn : (f == n) = false := beq_eq_false_iff_ne.mpr fun e => h (by rw [e]; exact List.mem_cons_self)
    rw [hn]
    exact zip_nolook fun z => h (List.mem_cons_of_mem _ z)
/-- names and values with one more, or another value -/
def putN (f : Str) : List Str → List Str
  | [] => [f]
  | g :: r => if g = f then g :: r else g :: putN f r
def putX {α : Type} (f : Str) (a : α) : List Str → List α → List α
  | [], _ => [a]
  | g :: r, x :: xs => if g = f then a :: xs else x :: putX f a r xs
  | _ :: _, [] => []
theorem put_zip {f : Str} {v : V} : ∀ {ns : List Str} {vs : List V}, ns.length = vs.length → putF f v (ns.zip vs) = (putN f ns).zip (putX f v ns vs) ∧ (putN f ns).length = (putX f v ns vs).length ∧ (putX f v ns vs).length ≤ vs.length + 1
  | [], [], _ => ⟨rfl, rfl, Nat.le_refl _⟩
  | [], _ :: _, h => by cases h
  | _ :: _, [], h => by cases h
  | n :: ns, w :: vs, h => by
    have h' : ns.length = vs.length := by simpa using h
    obtain ⟨h1, h2, h3⟩ := put_zip (f := f) (v := v) h'
    rw [List.zip_cons_cons]
    unfold putF putN putX
    by_cases e : n = f
    · rw [if_pos e, if_pos e, if_pos e]
      exact ⟨rfl, by rw [List.length_cons, List.length_cons, h'], by rw [List.length_cons, List.length_cons]; omega⟩
    · rw [if_neg e, if_neg e, if_neg e, h1, List.zip_cons_cons]
      exact ⟨rfl, by rw [List.length_cons, List.length_cons, h2], by rw [List.length_cons, List.length_cons]; omega⟩
theorem Dens.putX {f : Str} {d : D} {v : V} (hd : Den K r m H d v) : ∀ {ns : List Str} {ds : List D} {vs : List V}, Dens K r m H ds vs → ns.length = vs.length → Dens K r m H (Tg.putX f d ns ds) (Tg.putX f v ns vs)
  | [], _, _, _, _ => Dens.one hd
  | _ :: _, [], _, h, e => by cases h; cases e
  | n :: ns, x :: ds, _, h, e => by
    obtain ⟨w, ws, rfl, a, b⟩ := h
    unfold Tg.putX
    by_cases z : n = f
    · rw [if_pos z, if_pos z]
      exact Dens.cons hd b
    · rw [if_neg z, if_neg z]
      exact Dens.cons a (Dens.putX hd b (by simpa using e))
/-- what an object is -/
theorem obj_cell {x : Str} {n : Nat} {v : V} {c : List D} (g : Good K r m st H) (h : Den K r m H (.cel (.obj x) n) v) (e : st[n]? = some c) :
    ∃ a dx y ns ds vs, v = .ref a ∧ m[n]? = some a ∧ c = .tag (.ob y ns) :: ds ∧ He.ga K y = He.ga K x ∧ H a = some (.ins (He.ga K x) dx (ns.zip vs)) ∧ ns.length = vs.length ∧ vs.length ≤ 900 ∧ Dens K r m H ds vs := by
  obtain ⟨a, o, rfl, i, h1, dx, fs, rfl⟩ := h
  have hc := g.cell n a c i e
  unfold CellR at hc
  split at hc
  · next y ns ds =>
    obtain ⟨dx', vs, h2, l, z, q⟩ := hc
    rw [h1] at h2
    obtain ⟨e1, e2, e3⟩ := HO.ins.inj (Option.some.inj h2)
    subst e2 e3
    exact ⟨a, dx, y, ns, ds, vs, rfl, i, rfl, e1.symm, h1, l, z, q⟩
  · obtain ⟨vs, h2, _⟩ := hc
    rw [h1] at h2
    cases h2
  · obtain ⟨od, vs, h2, _⟩ := hc
    rw [h1] at h2
    cases h2
  · obtain ⟨vs, h2, _⟩ := hc
    rw [h1] at h2
    cases h2
def fieldD (st : Sto) (cls : List Str) (f : Str) : D → Option D
  | .cel (.obj x) n => if decide (x ∈ cls) then (match st[n]? with
    | some (.tag (.ob _ ns) :: ds) => (ns.zip ds).lookup f
    | _ => none) else none
  | _ => none
def eAt (cls : List Str) (f : Str) (fa : DE) : DE := fun env st => (fa env st).bind fun p => (fieldD p.2 cls f p.1).map fun d => (d, p.2)
theorem t_at {cls : List Str} {f : Str} {fa : DE} {σ : L2.St} {Q : VK} (hc : ∀ x ∈ cls, Cls K (He.ga K x) ∧ NoAttr K (He.ga K x) f) (h : tE K (eAt cls f fa) σ H Q) : tFld K (tE K fa) f σ H Q := by
  obtain ⟨r, m, st, env, d, st', g, e, f1, q⟩ := h
  unfold eAt at f1
  obtain ⟨⟨x, s1⟩, f2, f1⟩ := Option.bind_eq_some_iff.mp f1
  obtain ⟨d', f3, f1⟩ := Option.map_eq_some_iff.mp f1
  cases f1
  refine ⟨r, m, st, env, x, s1, g, e, f2, fun m1 H1 v1 l1 g1 d1 => ?_⟩
  have f3 : fieldD s1 cls f x = some d := f3
  cases x with
  | cel k n =>
    cases k with
    | obj y =>
      have f3 : (if decide (y ∈ cls) then (match s1[n]? with
        | some (.tag (.ob _ ns) :: ds) => (ns.zip ds).lookup f
        | _ => none) else none) = some d := f3
      split at f3
      · next hy =>
        split at f3
        · next z ns ds e1 =>
          obtain ⟨a, dx, y', ns', ds', vs, rfl, i, ec, ey, h1, hl, hz, dd⟩ := obj_cell g1 d1 e1
          cases ec
          obtain ⟨v, e2, dv⟩ := zip_lookup dd f3
          obtain ⟨c1, c2⟩ := hc y (of_decide_eq_true hy)
          exact ⟨a, _, dx, _, v, rfl, h1, c1, c2, e2, q m1 H1 v l1 g1 dv⟩
        · cases f3
      · cases f3
    | dct => cases f3
  | _ => cases f3
def setF (st : Sto) (cls : List Str) (f : Str) (d : D) : D → Option Sto
  | .cel (.obj x) n => if decide (x ∈ cls) then (match st[n]? with
    | some (.tag (.ob y ns) :: ds) => if decide (ds.length < 900) then some (st.set n (.tag (.ob y (putN f ns)) :: putX f d ns ds)) else none
    | _ => none) else none
  | _ => none
def sSetF (cls : List Str) (f : Str) (fo fv : DE) : DS := fun env st => (fv env st).bind fun p => (fo env p.2).bind fun q => (setF q.2 cls f p.1 q.1).map fun s => (.nx env, s)
theorem s_setF {cls : List Str} {f : Str} {fo fv : DE} {σ : L2.St} {D : Ends} {W : WX} (hc : ∀ x ∈ cls, Cls K (He.ga K x) ∧ NoAttr K (He.ga K x) f) (h : tS K W (sSetF cls f fo fv) D σ H) : sFld K (tE K fo) (tE K fv) f D σ H := by
  obtain ⟨r, m, st, env, fl, st', g, e, f1, q⟩ := h
  unfold sSetF at f1
  obtain ⟨⟨y, s1⟩, f2, f1⟩ := Option.bind_eq_some_iff.mp f1
  obtain ⟨⟨x, s2⟩, f3, f1⟩ := Option.bind_eq_some_iff.mp f1
  obtain ⟨s3, f4, f1⟩ := Option.map_eq_some_iff.mp f1
  cases f1
  refine ⟨r, m, st, env, y, s1, g, e, f2, fun m1 H1 v1 l1 g1 d1 => ?_⟩
  refine ⟨r, m1, s1, env, x, s2, g1, e.mono l1, f3, fun m2 H2 v2 l2 g2 d2 => ?_⟩
  have f4 : setF s2 cls f y x = some st' := f4
  cases x with
  | cel k n =>
   cases k with
   | obj w =>
    have f4 : (if decide (w ∈ cls) then (match s2[n]? with
      | some (.tag (.ob y0 ns) :: ds) => if decide (ds.length < 900) then some (s2.set n (.tag (.ob y0 (putN f ns)) :: putX f y ns ds)) else none
      | _ => none) else none) = some st' := f4
    split at f4
    · next hy =>
      split at f4
      · next z ns ds e1 =>
        split at f4
        · next hz0 =>
          cases f4
          obtain ⟨a, dx, y', ns', ds', vs, rfl, i, ec, ey, h1, hl, hz, dd⟩ := obj_cell g2 d2 e1
          cases ec
          obtain ⟨c1, c2⟩ := hc w (of_decide_eq_true hy)
          have hv : vs.length < 900 := by rw [← dd.len]; exact of_decide_eq_true hz0
          obtain ⟨p1, p2, p3⟩ := put_zip (f := f) (v := v1) hl
          have d1' := d1.mono l2
          obtain ⟨l3, g3⟩ := g2.putG (u := .ins (He.ga K w) dx (putF f v1 (ns.zip vs))) (c := .tag (.ob z (putN f ns)) :: putX f y ns ds) i h1 ⟨_, rfl⟩ fun l => by
            refine ⟨dx, putX f v1 ns vs, ?_, p2, by omega, (Dens.putX d1' dd hl).mono l⟩
            rw [upd_same, ← p1, ey]
          refine ⟨a, _, dx, _, rfl, h1, c1, c2, ?_, ?_⟩
          · rw [List.length_zip]
            omega
          · exact q m2 _ σ ((l1.trans l2).trans l3) g3 (e.mono ((l1.trans l2).trans l3))
        · cases f4
      · cases f4
    · cases f4
   | dct => cases f4
  | _ => cases f4
def noFld (st : Sto) (n : Nat) (f : Str) : Bool := match st[n]? with
  | some (.tag (.ob _ ns) :: _) => decide (f ∉ ns)
  | _ => false
def eMth (C : Orc) (x : Str) (id : String) (f : Str) (fo : DE) (fa : DA) : DE := fun env st => (fo env st).bind fun p => match p.1 with
  | .cel (.obj y) n => if decide (y = x) && noFld p.2 n f then (fa env p.2).bind fun q => C id (.cel (.obj y) n :: q.1) q.2 else none
  | _ => none
def tMethG (C : Addr) (f : Str) (sp : List V → Hp → VK → Prop) (ta : TE) (t : TA) : TE := fun σ H Q => ta σ H fun x H1 => ∃ a dx fs, x = .ref a ∧ H1 a = some (.ins C dx fs) ∧ fs.lookup f = none ∧
  t σ H1 fun vs H2 => sp (x :: vs) H2 Q
theorem t_mth {C : Orc} {x : Str} {id : String} {f : Str} {k : Nat} {fo : DE} {fa : DA} {σ : L2.St} {Q : VK} (hn : ∀ env st ds st', fa env st = some (ds, st') → ds.length = k) (h : tE K (eMth C x id f fo fa) σ H Q) :
    tMethG (He.ga K x) f (spC K C id (k + 1)) (tE K fo) (tAr K fa) σ H Q := by
  obtain ⟨r, m, st, env, d, st', g, e, f1, q⟩ := h
  unfold eMth at f1
  obtain ⟨⟨o, s1⟩, f2, f1⟩ := Option.bind_eq_some_iff.mp f1
  cases o with
  | cel k n =>
   cases k with
   | obj y =>
    have f1 : (if decide (y = x) && noFld s1 n f then (fa env s1).bind fun q => C id (.cel (.obj y) n :: q.1) q.2 else none) = some (d, st') := f1
    split at f1
    · next hy =>
      obtain ⟨⟨ds, s2⟩, f3, f5⟩ := Option.bind_eq_some_iff.mp f1
      rw [Bool.and_eq_true] at hy
      have ey := of_decide_eq_true hy.1
      subst ey
      refine ⟨r, m, st, env, _, s1, g, e, f2, fun m1 H1 v1 l1 g1 d1 => ?_⟩
      have hf := hy.2
      unfold noFld at hf
      split at hf
      · next z ns ds' e1 =>
        obtain ⟨a, dx, y', ns', ds'', vs, rfl, i, ec, ey, h1, hl, hz, dd⟩ := obj_cell g1 d1 e1
        cases ec
        refine ⟨a, dx, _, rfl, h1, zip_nolook (of_decide_eq_true hf), ?_⟩
        refine ⟨r, m1, s1, env, ds, s2, g1, e.mono l1, f3, fun m2 H2 us l2 g2 d2 => ?_⟩
        exact ⟨r, m2, s2, _, d, st', by rw [List.length_cons, hn _ _ _ _ f3], g2, Dens.cons (d1.mono l2) d2, f5, fun m3 H3 v l3 g3 d3 => q m3 H3 v ((l1.trans l2).trans l3) g3 d3⟩
      · cases hf
    · cases f1
   | dct => cases f1
  | _ => cases f1
end
section
variable {X : Cx} {k : Nat} {f C : Addr} {fd : FuncData} {ps : List Str} {sp : List V → Hp → VK → Prop} {o e : Expr} {es : List Expr} {nm : Str} {ta : TE} {t : TA} {apos pos p : Pos} {x : Str}
theorem pe_methG {pl : Sem Bool} (he : PE X o ta) (c : Cls X.K C) (hm : Meth X.K C nm f) (F : FnG X.prog X.w X.K X.mg X.base k f fd ps sp) (gd : X.A.guards = some []) (hr : Room k X.A) (hb : Binds X.K fd ps []) (ha : PA X (e :: es) t)
    (hst : starEach (e :: es) X.env = (false, eval e X.env) :: starEach es X.env) (hpl : (backTo pos (starEach es X.env)).any (·.1) = false)
    (ht : eval (.Call (.Attribute o nm apos) (e :: es) [] pos) X.env = (do
      let ov ← eval o X.env
      standAt apos.atName
      let (f, first) ← holding [ov] (getMethod ov nm pl)
      callWith pos f first (backTo pos (starEach (e :: es) X.env)) (backToKw pos (keywordEach [] X.env)))) :
    PE X (.Call (.Attribute o nm apos) (e :: es) [] pos) (tMethG C nm sp ta t) := by
  refine ⟨fun pins s σ H Q I h => ?_⟩
  refine PySem.W.methodCall_KW (pl := pl) (thn (he.run pins s σ H _ I h) fun u s1 ⟨x, H1, I1, rx, a, dx, fs, ex, ea, l, q⟩ => ?_) ht
  subst ex
  obtain rfl : u = Value.ref a := rx
  refine getmeth_ok I1 ea c hm l ?_
  refine PySem.W.callWith_K (first := [.ref a]) (h₀ := X.base) I.ok.mod.kin hm.kp (thn (ha.run pos pins s1 σ H1 _ I1 q) fun us s2 ⟨vs, H2, I2, r, q2⟩ => ⟨I2.kIn, ?_⟩) hst hpl
  exact call_g (us := .ref a :: us) (vs := .ref a :: vs) F gd hr hb I2 (.cons rfl r) q2
theorem pe_methG0 {pl : Sem Bool} (he : PE X o ta) (c : Cls X.K C) (hm : Meth X.K C nm f) (F : FnG X.prog X.w X.K X.mg X.base k f fd ps sp) (gd : X.A.guards = some []) (hr : Room k X.A) (hb : Binds X.K fd ps [])
    (ht : eval (.Call (.Attribute o nm apos) [] [] pos) X.env = (do
      let ov ← eval o X.env
      standAt apos.atName
      let (f, first) ← holding [ov] (getMethod ov nm pl)
      callWith pos f first (backTo pos (starEach [] X.env)) (backToKw pos (keywordEach [] X.env)))) :
    PE X (.Call (.Attribute o nm apos) [] [] pos) (tMethG C nm sp ta tNil) := by
  refine ⟨fun pins s σ H Q I h => ?_⟩
  refine PySem.W.methodCall_KW (pl := pl) (thn (he.run pins s σ H _ I h) fun u s1 ⟨x, H1, I1, rx, a, dx, fs, ex, ea, l, q⟩ => ?_) ht
  subst ex
  obtain rfl : u = Value.ref a := rx
  refine getmeth_ok I1 ea c hm l ?_
  exact PySem.W.callWith_K0 (first := [.ref a]) I1.kIn hm.kp (call_g (us := [.ref a]) (vs := [.ref a]) F gd hr hb I1 (.cons rfl .nil) q)
def tMakeG (C : Addr) (sp : List V → Hp → VK → Prop) (t : TA) : TE := fun σ H Q => t σ H fun vs H1 => ∀ x dx, H1 x = none → H1 dx = none → dx ≠ x →
  sp (.ref x :: vs) (upd (upd H1 dx (.own x)) x (.ins C dx [])) (fun v H2 => v = .non ∧ Q (.ref x) H2)
theorem run_makeG {pins : List (Addr × Obj)} {σ : L2.St} {H : Hp} {s : Shared} {Q : VK} {us : List Value} {vs : List V} (M : Mk X.K C f) (F : FnG X.prog X.w X.K X.mg X.base k f fd ps sp) (gd : X.A.guards = some []) (hr : Room (k + 1) X.A) (hb : Binds X.K fd ps [])
    (I : Inv X pins σ H s) (r : Vals vs us)
    (h : ∀ x dx, H x = none → H dx = none → dx ≠ x → sp (.ref x :: vs) (upd (upd H dx (.own x)) x (.ins C dx [])) (fun v H2 => v = .non ∧ Q (.ref x) H2)) :
    wpAny (model X.prog X.w) X.A (call (.ref C) us) (EP X pins σ Q) X.xe s := by
  have hq := h (s.heap.objs.size + 1) s.heap.objs.size (I.hok.fresh (Nat.le_succ _)) (I.hok.fresh (Nat.le_refl _)) (Nat.ne_of_lt (Nat.lt_succ_self _))
  have I2 := Inv.made (C := C) I
  have r2 : Vals (V.ref (s.heap.objs.size + 1) :: vs) (Value.ref (s.heap.objs.size + 1) :: us) := .cons rfl r
  have hl : ((Value.ref (s.heap.objs.size + 1) :: us) ++ []).length = ps.length := by
    have e := r2.length
    rw [F.len _ _ _ hq] at e
    rw [List.append_nil]
    exact e.symm
  have hB := hb _ (Value.ref (s.heap.objs.size + 1) :: us) I2.kIn hl
  rw [List.append_nil] at hB
  refine wpAny_call (make_map (f := f) I.kIn M.makes M.init (beq_iff_eq.mp M.fn) (codeAny_mono (F.run _ X.stack _ _ ⟨Value.ref (s.heap.objs.size + 1) :: us, []⟩ (Value.ref (s.heap.objs.size + 1) :: us) _ _ gd (hr.make C us [])
    (I2.env0.make C us []) hB r2 hq) fun r s' hq' => ?_))
  cases r with
  | error e => exact False.elim hq'
  | ok fl =>
    cases fl with
    | ret u =>
      obtain ⟨v, H', I3, rv, ev, q3⟩ := I2.after hq'
      subst ev
      exact ⟨rv, ⟨V.ref (s.heap.objs.size + 1), H', I3, rfl, q3⟩⟩
    | next => exact False.elim hq'
    | brk => exact False.elim hq'
    | cont => exact False.elim hq'
theorem pe_makeG (M : Mk X.K C f) (F : FnG X.prog X.w X.K X.mg X.base k f fd ps sp) (gd : X.A.guards = some []) (hr : Room (k + 1) X.A) (hg : Gl X x) (hm : X.mg x = some (.ref C)) (hb : Binds X.K fd ps [])
    (ha : PA X (e :: es) t) (hdb : (x == ("__debug__" : Str)) = false) (he : starEach (e :: es) X.env = (false, eval e X.env) :: starEach es X.env) (hpl : (backTo pos (starEach es X.env)).any (·.1) = false) :
    PE X (.Call (.Name x p) (e :: es) [] pos) (tMakeG C sp t) := by
  refine ⟨fun pins s σ H Q I h => ?_⟩
  refine wpAny_Call_Name_kw (ld_glob I hg hm ?_ hdb)
  refine PySem.W.callWith_K (h₀ := X.base) I.ok.mod.kin M.kp (thn (ha.run pos pins s σ H _ I h) fun us s1 ⟨vs, H1, I1, r, q⟩ => ⟨I1.kIn, ?_⟩) he hpl
  exact run_makeG M F gd hr hb I1 r q
end
section
variable {K : Fg} {σ : L2.St} {H : Hp} {Q : VK}
def eMake (C : Orc) (x : Str) (id : String) (fa : DA) : DE := fun env st => (fa env st).bind fun p => (C id (.cel (.obj x) p.2.length :: p.1) (p.2 ++ [[.tag (.ob x [])]])).bind fun q => match q.1 with
  | .non => some (.cel (.obj x) p.2.length, q.2)
  | _ => none
theorem t_make {C : Orc} {x : Str} {id : String} {k : Nat} {fa : DA} (hn : ∀ env st ds st', fa env st = some (ds, st') → ds.length = k) (h : tE K (eMake C x id fa) σ H Q) :
    tMakeG (He.ga K x) (spC K C id (k + 1)) (tAr K fa) σ H Q := by
  obtain ⟨r, m, st, env, d, st', g, e, f1, q⟩ := h
  unfold eMake at f1
  obtain ⟨⟨ds, s1⟩, f2, f1⟩ := Option.bind_eq_some_iff.mp f1
  obtain ⟨⟨y, s2⟩, f3, f1⟩ := Option.bind_eq_some_iff.mp f1
  dsimp only at f1
  split at f1
  · cases f1
    refine ⟨r, m, st, env, ds, s1, g, e, f2, fun m1 H1 vs l1 g1 d1 a dx na nd ne => ?_⟩
    have l2 : Le m1 H1 m1 (upd H1 dx (.own a)) := le_upd nd
    have g2 := g1.upd (o := .own a) nd
    have na2 : (upd H1 dx (.own a)) a = none := by rw [upd_ne (Ne.symm ne)]; exact na
    obtain ⟨l3, g3⟩ := g2.snocG (u := .ins (He.ga K x) dx []) (c := [.tag (.ob x [])]) na2 fun l => ⟨dx, [], upd_same, rfl, Nat.zero_le _, rfl⟩
    have dn : Den K r (m1 ++ [a]) (upd (upd H1 dx (.own a)) a (.ins (He.ga K x) dx [])) (.cel (.obj x) s1.length) (.ref a) := by
      refine ⟨a, _, rfl, ?_, upd_same, dx, [], rfl⟩
      rw [← g1.len, List.getElem?_append_right (Nat.le_refl _), Nat.sub_self]
      rfl
    refine ⟨r, m1 ++ [a], s1 ++ [[.tag (.ob x [])]], _, .non, _, by rw [List.length_cons, hn _ _ _ _ f2], g3, Dens.cons dn ((d1.mono l2).mono l3), f3, fun m4 H4 v l4 g4 d4 => ⟨d4, ?_⟩⟩
    exact q m4 H4 _ (((l1.trans l2).trans l3).trans l4) g4 (dn.mono l4)
  · cases f1
end
end Tg
namespace Tg
open PySem PySem.Spec PyProof.Rows L2
section
variable {K : Fg} {r m : List Addr} {H : Hp} {st : Sto} {σ : L2.St} {Q : VK}
def eDict0 : DE := fun _ st => some (.cel .dct st.length, st ++ [[.tag (.di [])]])
theorem dct_den {m1 : List Addr} {H1 : Hp} {st1 : Sto} {p : Addr} {o : HO} (hl : m1.length = st1.length) (h : H1 p = some o) (ho : isDct o) : Den K r (m1 ++ [p]) H1 (.cel .dct st1.length) (.ref p) := by
  refine ⟨p, o, rfl, ?_, h, ho⟩
  rw [← hl, List.getElem?_append_right (Nat.le_refl _), Nat.sub_self]
  rfl
theorem t_dict0 (h : tE K eDict0 σ H Q) : tDNewK σ H Q := by
  obtain ⟨r, m, st, env, d, st', g, e, f, q⟩ := h
  cases f
  intro p np
  obtain ⟨l, g2⟩ := g.snocG (u := .dK []) (c := [.tag (.di [])]) np fun l => ⟨[], upd_same, rfl, Nat.zero_le _, rfl⟩
  exact q _ _ _ l g2 (dct_den g.len upd_same True.intro)
/-- an empty dict that is not changed -/
def eDic : DE := fun _ st => some (.dic, st)
theorem t_dic (h : tE K eDic σ H Q) : tDNewK σ H Q := by
  obtain ⟨r, m, st, env, d, st', g, e, f, q⟩ := h
  cases f
  intro p np
  exact q m _ (.ref p) (le_upd np) (g.upd np) ⟨p, rfl, upd_same, g.fresh np⟩
def eDict1 (fk fv : DE) : DE := fun env st => (fk env (st ++ [[.tag (.di [])]])).bind fun p => (fv env p.2).bind fun q => (keyD p.1).bind fun k => match q.2[st.length]? with
  | some (.tag (.di []) :: []) => some (.cel .dct st.length, q.2.set st.length [.tag (.di [k]), q.1])
  | _ => none
theorem t_dict1 {fk fv : DE} (h : tE K (eDict1 fk fv) σ H Q) : tDisp [(tE K fk, tE K fv)] σ H Q := by
  obtain ⟨r, m, st, env, d, st', g, e, f, q⟩ := h
  unfold eDict1 at f
  obtain ⟨⟨x, s1⟩, f1, f⟩ := Option.bind_eq_some_iff.mp f
  obtain ⟨⟨y, s2⟩, f2, f⟩ := Option.bind_eq_some_iff.mp f
  obtain ⟨k, f3, f⟩ := Option.bind_eq_some_iff.mp f
  intro p np
  obtain ⟨l, g0⟩ := g.snocG (u := .dK []) (c := [.tag (.di [])]) np fun l => ⟨[], upd_same, rfl, Nat.zero_le _, rfl⟩
  have i0 : (m ++ [p])[st.length]? = some p := by
    rw [← g.len, List.getElem?_append_right (Nat.le_refl _), Nat.sub_self]
    rfl
  refine ⟨r, m ++ [p], st ++ [[.tag (.di [])]], env, x, s1, g0, e.mono l, f1, fun m1 H1 v1 l1 g1 d1 => ?_⟩
  refine ⟨r, m1, s1, env, y, s2, g1, (e.mono l).mono l1, f2, fun m2 H2 v2 l2 g2 d2 => ?_⟩
  have f : (match s2[st.length]? with
    | some (.tag (.di []) :: []) => some (D.cel .dct st.length, s2.set st.length [.tag (.di [k]), y])
    | _ => none) = some (d, st') := f
  split at f
  · next e1 =>
    cases f
    have i2 : m2[st.length]? = some p := l2.at (l1.at i0)
    obtain ⟨vs, h1, hl, z, dd⟩ := g2.cell _ p _ i2 e1
    have ev : vs = [] := by simpa using hl.symm
    subst ev
    have h1 : H2 p = some (.dK []) := h1
    have ek := key_den (d1.mono l2) f3
    subst ek
    refine ⟨h1, [(k, v2)], rfl, by show 1 ≤ 15; decide, ?_⟩
    obtain ⟨l3, g3⟩ := g2.putG (u := .dK (mergeK [] [(k, v2)])) (c := [.tag (.di [k]), y]) i2 h1 True.intro fun l => ⟨[v2], upd_same, rfl, by show 1 ≤ sizeLine; decide, (Dens.one d2).mono l⟩
    exact q m2 _ _ (((l.trans l1).trans l2).trans l3) g3 ⟨p, _, rfl, i2, upd_same, True.intro⟩
  · cases f
def eRemove (fo fa : DE) : DE := fun env st => (fo env st).bind fun p => (fa env p.2).bind fun q => match p.1, q.1 with
  | .loc n, .int k => (q.2[n]?).bind fun xs => (intsOf xs).bind fun ns => if decide (k ∈ ns) then some (.non, q.2.set n ((ns.erase k).map D.int)) else none
  | _, _ => none
theorem t_remove {W : WX} {fo fa : DE} (h : tE K (eRemove fo fa) σ H Q) : tRemX K W (tE K fo) (tE K fa) σ H Q := by
  obtain ⟨r, m, st, env, d, st', g, e, f, q⟩ := h
  unfold eRemove at f
  obtain ⟨⟨x, s1⟩, f1, f⟩ := Option.bind_eq_some_iff.mp f
  obtain ⟨⟨y, s2⟩, f2, f⟩ := Option.bind_eq_some_iff.mp f
  cases x with
  | loc n =>
   cases y with
   | int k =>
    have f : ((s2[n]?).bind fun xs => (intsOf xs).bind fun ns => if decide (k ∈ ns) then some (D.non, s2.set n ((ns.erase k).map D.int)) else none) = some (d, st') := f
    obtain ⟨xs, f3, f⟩ := Option.bind_eq_some_iff.mp f
    obtain ⟨ns, f4, f⟩ := Option.bind_eq_some_iff.mp f
    split at f
    · next hk =>
      cases f
      refine ⟨r, m, st, env, _, s1, g, e, f1, fun m1 H1 v1 l1 g1 d1 => ⟨ty_loc g1 d1, ?_⟩⟩
      refine ⟨r, m1, s1, env, _, s2, g1, e.mono l1, f2, fun m2 H2 v2 l2 g2 d2 => ?_⟩
      obtain ⟨a, rfl, ha, ys, hy⟩ := d1.mono l2
      obtain ⟨us, h1, z, dd⟩ := g2.cellL ha f3 hy
      rw [intsOf_eq f4] at dd
      have eu := Dens.ints ns us dd
      subst eu
      cases d2
      have lz : ((ns.erase k).map V.int).length ≤ sizeLine := by
        rw [List.length_map] at z ⊢
        exact Nat.le_trans (List.length_erase_le ..) z
      obtain ⟨l3, g3⟩ := g2.put (xs := (ns.erase k).map V.int) (c := (ns.erase k).map D.int) ha h1 lz (Dens.of_ints _)
      exact ⟨a, ns, k, rfl, rfl, h1, fun _ => q m2 _ _ ((l1.trans l2).trans l3) g3 rfl, fun hn => absurd (of_decide_eq_true hk) hn⟩
    · cases f
   | _ => cases f
  | _ => cases f
theorem Le.frz {m1 : List Addr} {H1 : Hp} (l : Le m H m1 H1) {a : Addr} {od : Obj} {u : HO} (ha : a ∈ m) (h : H a = some (.frz od u)) : H1 a = some (.frz od u) := by
  obtain ⟨w, h1, q⟩ := l.kind a _ ha h
  have q : w = .frz od u := q
  rw [h1, q]
def kD : Key → D
  | .inl i => .int i
  | .inr x => .str x
theorem kD_den (k : Key) : Den K r m H (kD k) (kV k) := by
  cases k <;> rfl
noncomputable def iItm (i : Nat) : DI := fun env st => match env[i]? with
  | some (some (.cel .dct n)) => (match st[n]? with
    | some (.tag (.fz ks) :: ds) => some ((always, (ks.zip ds).map fun q => .tup [kD q.1, q.2]), st)
    | _ => none)
  | _ => none
theorem i_items {i : Nat} {R : It → Hp → Prop} (h : tI K (iItm i) σ H R) : iItems (tE K (eVar i)) σ H R := by
  obtain ⟨r, m, st, env, chk, ds, st', g, e, f, q⟩ := h
  unfold iItm at f
  split at f
  · next n e1 =>
    split at f
    · next ks ds0 e2 =>
      cases f
      refine ⟨r, m, st, env, .cel .dct n, st, g, e, by unfold eVar; rw [e1], fun m1 H1 v1 l1 g1 d1 => ?_⟩
      obtain ⟨a, o, rfl, ha, h0, _⟩ := d1
      obtain ⟨od, vs, h1, hl, z, dd⟩ := g1.cell n a _ ha e2
      have ham := List.mem_of_getElem? ha
      have zl : ((ks.zip ds0).map fun q : Key × D => D.tup [kD q.1, q.2]).length = (ks.zip vs).length := by
        rw [List.length_map, List.length_zip, List.length_zip, dd.len]
      refine ⟨a, od, _, rfl, h1, q m1 H1 _ l1 g1 ⟨?_, fun r2 m2 H2 s2 i hr l g2 c hi => ?_, fun r2 m2 H2 s2 i x H' d hr l g2 c hi y => ?_, fun r2 m2 H2 s2 hr l g2 c => ?_⟩⟩
      · rw [zl, List.length_zip]
        omega
      · exact ⟨l.frz ham h1, by rw [← zl]; exact hi⟩
      · obtain ⟨T, k, v, e3, rfl, nT, rfl⟩ := y
        rw [List.getElem?_map] at hi
        obtain ⟨⟨k', d'⟩, e4, e5⟩ := Option.map_eq_some_iff.mp hi
        subst e5
        obtain ⟨e6, e7⟩ := List.getElem?_zip_eq_some.mp e4
        obtain ⟨e8, e9⟩ := List.getElem?_zip_eq_some.mp e3
        have ek : k' = k := by
          rw [e6] at e8
          exact Option.some.inj e8
        subst ek
        obtain ⟨w, e10, dw⟩ := dd.get e7
        have ew : w = v := by
          rw [e9] at e10
          exact (Option.some.inj e10).symm
        subst ew
        exact new_tuple g2 ⟨_, _, rfl, kD_den k', _, _, rfl, Den.mono l _ _ (Den.ext hr _ _ dw), rfl⟩ (by simp) (by simp) nT
      · exact ⟨l.frz ham h1, by rw [zl]; exact Nat.le_refl _⟩
    · cases f
  · cases f
/-- the lock is put on -/
theorem lock_on {n : Nat} {a : Addr} {ks : List Key} {ds : List D} {vs : List V} {od : Obj} (g : Good K r m st H) (ha : m[n]? = some a) (h : H a = some (.dK (ks.zip vs))) (hl : ks.length = vs.length) (z : vs.length ≤ sizeLine) (dd : Dens K r m H ds vs) :
    Le m H m (upd H a (.frz od (.dK (ks.zip vs)))) ∧ Good K r m (st.set n (.tag (.fz ks) :: ds)) (upd H a (.frz od (.dK (ks.zip vs)))) :=
  g.putG ha h True.intro fun l => ⟨od, vs, upd_same, hl, z, dd.mono l⟩
/-- the lock is taken off -/
theorem same_off {a : Addr} {od : Obj} {kvs : List (Key × V)} (ha : a ∈ m) (h : H a = some (.frz od (.dK kvs))) : Same2 r m H r m (upd H a (.dK kvs)) :=
  ⟨fun _ n => n, fun b u e n => by
    rw [upd_ne (fun z => n.1 (by rw [z]; exact ha))]
    exact e, fun _ _ e => e, fun b u hb e => by
    by_cases q : b = a
    · subst q
      rw [h] at e
      cases e
      exact ⟨_, upd_same, True.intro⟩
    · exact ⟨u, by rw [upd_ne q]; exact e, (KEq.refl u).wk⟩⟩
theorem lock_off {n : Nat} {a : Addr} {ks : List Key} {ds : List D} {od : Obj} {kvs : List (Key × V)} (g : Good K r m st H) (ha : m[n]? = some a) (h : H a = some (.frz od (.dK kvs))) (e : st[n]? = some (.tag (.fz ks) :: ds)) :
    Good K r m (st.set n (.tag (.di ks) :: ds)) (upd H a (.dK kvs)) := by
  have ham := List.mem_of_getElem? ha
  have S := same_off (r := r) ham h
  refine ⟨by rw [List.length_set]; exact g.len, g.nd, fun b hb z => ?_, fun i b d e1 f => ?_⟩
  · by_cases q : b = a
    · rw [q, upd_same] at z
      cases z
    · rw [upd_ne q] at z
      exact g.res b hb z
  · by_cases hi : i = n
    · subst hi
      rw [ha] at e1
      cases e1
      have hl : i < st.length := by
        have := (List.getElem?_eq_some_iff.mp f).1
        rwa [List.length_set] at this
      rw [List.getElem?_set_self hl] at f
      cases f
      obtain ⟨od', vs, h2, hl2, z, dd⟩ := g.cell i a _ ha e
      rw [h] at h2
      cases h2
      exact ⟨vs, upd_same, hl2, z, dd.same S⟩
    · rw [List.getElem?_set_ne (Ne.symm hi)] at f
      refine (g.cell i b d e1 f).imp (fun o a1 => ?_) fun ds vs q => q.same S
      rw [upd_ne]
      · exact a1
      · intro z
        subst z
        obtain ⟨h1, e3⟩ := List.getElem?_eq_some_iff.mp e1
        obtain ⟨h2, e4⟩ := List.getElem?_eq_some_iff.mp ha
        exact hi ((List.getElem_inj g.nd).mp (e3.trans e4.symm))
theorem le_off {m1 : List Addr} {H1 : Hp} {a : Addr} {od : Obj} {kvs : List (Key × V)} (ha : a ∈ m) (h : H a = some (.dK kvs)) (l : Le m (upd H a (.frz od (.dK kvs))) m1 H1) : Le m H m1 (upd H1 a (.dK kvs)) := by
  refine ⟨?_, fun b o e n => ?_, fun b e => ?_, fun b o hb e => ?_⟩
  · obtain ⟨t, e1, e2⟩ := l.ext
    refine ⟨t, e1, fun b hb => ?_⟩
    have := e2 b hb
    by_cases q : b = a
    · rw [q, upd_same] at this
      cases this
    · rwa [upd_ne q] at this
  · have q : b ≠ a := fun z => n (by rw [z]; exact ha)
    rw [upd_ne q]
    exact l.keep b o (by rw [upd_ne q]; exact e) n
  · by_cases q : b = a
    · rw [q, upd_same] at e
      cases e
    · rw [upd_ne q] at e
      have := l.there b e
      rwa [upd_ne q] at this
  · by_cases q : b = a
    · subst q
      rw [h] at e
      cases e
      exact ⟨_, upd_same, True.intro⟩
    · obtain ⟨u, h1, k⟩ := l.kind b o hb (by rw [upd_ne q]; exact e)
      exact ⟨u, by rw [upd_ne q]; exact h1, k⟩
def onLock (st : Sto) (n : Nat) : Option Sto := match st[n]? with
  | some (.tag (.di ks) :: ds) => some (st.set n (.tag (.fz ks) :: ds))
  | _ => none
def offLock (st : Sto) (n : Nat) : Option Sto := match st[n]? with
  | some (.tag (.fz ks) :: ds) => some (st.set n (.tag (.di ks) :: ds))
  | _ => none
def dctAt (env : En) (i : Nat) : Option Nat := match env[i]? with
  | some (some (.cel .dct n)) => some n
  | _ => none
def noX : Fl → Bool
  | .xc _ _ _ => false
  | _ => true
def sLock (i : Nat) (f : DS) : DS := fun env st => (dctAt env i).bind fun n => (onLock st n).bind fun s1 => (f env s1).bind fun p => if noX p.1 = true then (offLock p.2 n).map fun s2 => (p.1, s2) else none
def eLock (i : Nat) (f : DE) : DE := fun env st => (dctAt env i).bind fun n => (onLock st n).bind fun s1 => (f env s1).bind fun p => (offLock p.2 n).map fun s2 => (p.1, s2)
theorem lock_at {env : En} {i n : Nat} {s1 : Sto} (g : Good K r m st H) (e : EnvR K r m H env σ) (f1 : dctAt env i = some n) (f2 : onLock st n = some s1) :
    ∃ (a : Addr) (ks : List Key) (vs : List V), m[n]? = some a ∧ H a = some (.dK (ks.zip vs)) ∧ ∀ od, Le m H m (upd H a (.frz od (.dK (ks.zip vs)))) ∧ Good K r m s1 (upd H a (.frz od (.dK (ks.zip vs)))) := by
  unfold dctAt at f1
  split at f1
  · next n' e1 =>
    cases f1
    obtain ⟨v, _, dv⟩ := e.2 i _ e1
    obtain ⟨a, o, rfl, ha, _⟩ := dv
    unfold onLock at f2
    split at f2
    · next ks ds e2 =>
      cases f2
      obtain ⟨vs, h1, hl, z, dd⟩ := g.cell n a _ ha e2
      exact ⟨a, ks, vs, ha, h1, fun od => lock_on g ha h1 hl z dd⟩
    · cases f2
  · cases f1
theorem s_lock {i : Nat} {f : DS} {D : Ends} {W : WX} (h : tS K W (sLock i f) D σ H) : tLock (tS K W f) D σ H := by
  obtain ⟨r, m, st, env, fl, st', g, e, f0, q⟩ := h
  unfold sLock at f0
  obtain ⟨n, f1, f0⟩ := Option.bind_eq_some_iff.mp f0
  obtain ⟨s1, f2, f0⟩ := Option.bind_eq_some_iff.mp f0
  obtain ⟨⟨fl', s2⟩, f3, f0⟩ := Option.bind_eq_some_iff.mp f0
  have hx : noX fl' = true := by
    by_cases hx : noX fl' = true
    · exact hx
    · rw [if_neg hx] at f0
      cases f0
  rw [if_pos hx] at f0
  obtain ⟨s3, f4, f0⟩ := Option.map_eq_some_iff.mp f0
  cases f0
  obtain ⟨a, ks, vs, ha, h1, hon⟩ := lock_at g e f1 f2
  have ham := List.mem_of_getElem? ha
  refine ⟨a, _, h1, True.intro, fun od => ?_⟩
  obtain ⟨l0, g0⟩ := hon od
  have f4 : offLock s2 n = some st' := f4
  have off : ∀ m' H', Le m (upd H a (.frz od (.dK (ks.zip vs)))) m' H' → Good K r m' s2 H' → H' a = some (.frz od (.dK (ks.zip vs))) ∧ Le m H m' (upd H' a (.dK (ks.zip vs))) ∧ Good K r m' st' (upd H' a (.dK (ks.zip vs))) ∧ Same2 r m' H' r m' (upd H' a (.dK (ks.zip vs))) := fun m' H' l' g' => by
    have hf : H' a = some (.frz od (.dK (ks.zip vs))) := l'.frz ham upd_same
    have ha' : m'[n]? = some a := l'.at ha
    refine ⟨hf, le_off ham h1 l', ?_, same_off (List.mem_of_getElem? ha') hf⟩
    unfold offLock at f4
    split at f4
    · next ks' ds' e2 =>
      cases f4
      exact lock_off g' ha' hf e2
    · cases f4
  refine ⟨r, m, s1, env, fl', s2, g0, e.mono l0, f3, ?_⟩
  have q : EndOk K W r m H fl' st' D := q
  cases fl' with
  | nx env' => exact fun m' H' σ' l' g' e' => let ⟨o1, o2, o3, o4⟩ := off m' H' l' g'; ⟨o1, q m' _ σ' o2 o3 (e'.same o4)⟩
  | bk env' => exact fun m' H' σ' l' g' e' => let ⟨o1, o2, o3, o4⟩ := off m' H' l' g'; ⟨o1, q m' _ σ' o2 o3 (e'.same o4)⟩
  | ct env' => exact fun m' H' σ' l' g' e' => let ⟨o1, o2, o3, o4⟩ := off m' H' l' g'; ⟨o1, q m' _ σ' o2 o3 (e'.same o4)⟩
  | rt d => exact fun m' H' v l' g' d' => let ⟨o1, o2, o3, o4⟩ := off m' H' l' g'; ⟨o1, q m' _ v o2 o3 (Den.same o4 _ _ d')⟩
  | xc env' x fs => cases hx
theorem t_lock {i : Nat} {f : DE} (h : tE K (eLock i f) σ H Q) : tLockE (tE K f) σ H Q := by
  obtain ⟨r, m, st, env, d, st', g, e, f0, q⟩ := h
  unfold eLock at f0
  obtain ⟨n, f1, f0⟩ := Option.bind_eq_some_iff.mp f0
  obtain ⟨s1, f2, f0⟩ := Option.bind_eq_some_iff.mp f0
  obtain ⟨⟨d', s2⟩, f3, f0⟩ := Option.bind_eq_some_iff.mp f0
  obtain ⟨s3, f4, f0⟩ := Option.map_eq_some_iff.mp f0
  cases f0
  obtain ⟨a, ks, vs, ha, h1, hon⟩ := lock_at g e f1 f2
  have ham := List.mem_of_getElem? ha
  refine ⟨a, _, h1, True.intro, fun od => ?_⟩
  obtain ⟨l0, g0⟩ := hon od
  have f4 : offLock s2 n = some st' := f4
  refine ⟨r, m, s1, env, d', s2, g0, e.mono l0, f3, fun m' H' v l' g' dv => ?_⟩
  have hf : H' a = some (.frz od (.dK (ks.zip vs))) := l'.frz ham upd_same
  have ha' : m'[n]? = some a := l'.at ha
  refine ⟨hf, q m' _ v (le_off ham h1 l') ?_ (Den.same (same_off (List.mem_of_getElem? ha') hf) _ _ dv)⟩
  unfold offLock at f4
  split at f4
  · next ks' ds' e2 =>
    cases f4
    exact lock_off g' ha' hf e2
  · cases f4
end
end Tg
namespace Tg
open PySem PySem.Spec PyProof.Rows L2
def pickL {α : Type} (xs : List α) (lo hi st : Option Int) : List α := (sliceRange (sliceBounds lo hi st xs.length).1 (sliceBounds lo hi st xs.length).2.1 (sliceBounds lo hi st xs.length).2.2).filterMap (xs[·]?)
theorem pick_arr (its : List Value) (lo hi st : Option Int) : slicePick its.toArray lo hi st = (pickL its lo hi st).toArray := by
  unfold slicePick pickL
  simp
theorem vals_pick {xs : List V} {us : List Value} (r : Vals xs us) : ∀ is : List Nat, Vals (is.filterMap (xs[·]?)) (is.filterMap (us[·]?))
  | [] => .nil
  | i :: is => by
    have ih := vals_pick r is
    rw [List.filterMap_cons, List.filterMap_cons]
    cases hx : xs[i]? with
    | none =>
      have hl : us[i]? = none := by
        rw [List.getElem?_eq_none_iff] at hx ⊢
        rw [← r.length]
        exact hx
      rw [hl]
      exact ih
    | some x =>
      obtain ⟨u, hu, ru⟩ := r.get hx
      rw [hu]
      exact .cons ru ih
theorem pick_le {α : Type} (xs : List α) (lo hi st : Option Int) : (pickL xs lo hi st).length ≤ xs.length := by
  have h := slicePick_size_le (xs.map fun _ => Value.none).toArray lo hi st
  unfold slicePick at h
  unfold pickL
  simp only [List.size_toArray, List.length_map] at h
  refine Nat.le_trans (Nat.le_of_eq ?_) h
  generalize (sliceRange (sliceBounds lo hi st xs.length).1 (sliceBounds lo hi st xs.length).2.1 (sliceBounds lo hi st xs.length).2.2) = is
  induction is with
  | nil => rfl
  | cons i is ih =>
    rw [List.filterMap_cons, List.filterMap_cons]
    have e : ((xs.map fun _ => Value.none).toArray)[i]? = (xs[i]?).map fun _ => Value.none := by simp
    rw [e]
    cases xs[i]? with
    | none => exact ih
    | some x => simp only [Option.map_some, List.length_cons, ih]
section
variable {K : Fg} {r m : List Addr} {H : Hp}
theorem dens_pick {ds : List D} {vs : List V} (h : Dens K r m H ds vs) : ∀ is : List Nat, Dens K r m H (is.filterMap (ds[·]?)) (is.filterMap (vs[·]?))
  | [] => rfl
  | i :: is => by
    have ih := dens_pick h is
    rw [List.filterMap_cons, List.filterMap_cons]
    cases hx : ds[i]? with
    | none =>
      have hl : vs[i]? = none := by
        rw [List.getElem?_eq_none_iff] at hx ⊢
        rw [← h.len]
        exact hx
      rw [hl]
      exact ih
    | some x =>
      obtain ⟨u, hu, ru⟩ := h.get hx
      rw [hu]
      exact .cons ru ih
end
end Tg
namespace L2
open PySem PySem.Spec PyProof.Rows
section
variable {P : Program} {w : World} {A : Around} {E : Value → Shared → Prop} {s : Shared}
set_option maxHeartbeats 3200000 in
theorem set_of_ints {l : Addr} {items : Array Value} (ns : List Int) {Q : Value → Shared → Prop} (qh : A.handled = none) (ql : s.heap.IsList l items) (qit : IntsAre items.toList ns) (hb : ns.length + 1 < scanBound)
    (h : ∀ (hp1 : Heap) (tk c : Nat), SetR w hp1 s.heap.objs.size (fun j => decide (j ∈ ns)) c → c ≤ ns.length → (∀ b o, s.heap.get? b = some o → hp1.get? b = some o) → Q (.ref s.heap.objs.size) { s with heap := hp1, toks := tk }) :
    wpAny (model P w) A (call (.type "set") [.ref l]) Q E s := by
  have qsz : items.size = ns.length := by
    have q := IntsAre.length qit
    rw [Array.length_toList] at q
    exact q
  obtain ⟨c, tl, qmro⟩ := F.called_set.mro
  have qmade := F.called_set.made
  have qsub := F.called_set.sub
  refine (wpAny_call (codeAny_of_tree ?_))
  show wpAny _ _ ((callAny (.type "set") _)) _ _ _
  refine (wpAny_pure ⟨Code.quiet_builtin _ (by decide +kernel), codeAny_builtin F.entry_type_call ?_⟩)
  rw [(Around.under_plain (weight_type_call_type "set" [.ref l] []) rfl)]
  have q1 := F.called_set.notType
  have q2 := F.called_set.canCreate
  have qct := F.typeCall_set_1 (.ref l)
  repeat (any_goals (first | (assumption) | wp_step))
  refine (codeAny_mono (code_set_led1 (.ref l) (E := E) (Q₁ := fun obj s₁ => obj = .ref s.heap.objs.size ∧ s₁ = { s with heap := s.heap.push { cls := .type "set", dict := none, data := .set #[] 0 (.fresh 0 0 (!w.params.followText "set-order")) } }) ⟨rfl, rfl⟩) fun r s₁ qr => ?_)
  cases r with
  | error e => exact qr
  | ok fl =>
    cases fl with
    | ret obj =>
      obtain ⟨rfl, rfl⟩ := qr
      have qS : (s.heap.push { cls := .type "set", dict := none, data := .set #[] 0 (.fresh 0 0 (!w.params.followText "set-order")) }).get? s.heap.objs.size = some { cls := .type "set", dict := none, data := .set #[] 0 (.fresh 0 0 (!w.params.followText "set-order")) } := Heap.get?_push_size _ rfl
      have qT : Shared.TypeIs { s with heap := s.heap.push { cls := .type "set", dict := none, data := .set #[] 0 (.fresh 0 0 (!w.params.followText "set-order")) } } (.ref s.heap.objs.size) "set" := ⟨_, qS, rfl⟩
      have qli := F.called_set.init.lookup
      have qbi := F.called_set.init.bind (.ref s.heap.objs.size)
      repeat (any_goals (first | (assumption) | wp_step))
      refine codeAny_mono (codeAny_call_builtin (R := wants (fun r s₂ => r = .none ∧ ∃ hp1 tk c, s₂ = { s with heap := hp1, toks := tk } ∧ SetR w hp1 s.heap.objs.size (fun j => decide (j ∈ ns)) c ∧ c ≤ ns.length ∧
          (∀ b o, s.heap.get? b = some o → hp1.get? b = some o)) E) F.called_set.init.plain F.entry_set_init (check_set_init_1 qT ?_)) fun r₂ s₂ qr2 => ?_
      · obtain ⟨ol, qol, qcl, nl, qdl⟩ := ql
        obtain ⟨ocls, odict, odata, oslots⟩ := ol
        simp only at qcl qdl
        subst qcl; subst qdl
        have qol1 : (s.heap.push { cls := .type "set", dict := none, data := .set #[] 0 (.fresh 0 0 (!w.params.followText "set-order")) }).get? l = some { cls := .type "list", dict := odict, data := .seq items nl, slots := oslots } := Heap.get?_push_of_some _ qol
        have qsls := F.sub_list_set
        have qslf := F.sub_list_frozenset
        have qne : (Value.type "list" == Value.type "dict") = false := by decide
        have ql1 : (s.heap.push { cls := .type "set", dict := none, data := .set #[] 0 (.fresh 0 0 (!w.params.followText "set-order")) }).IsList l items := ⟨_, qol1, rfl, nl, rfl⟩
        unfold Builtin.«set.__init__» Builtin.Frozenset.updateFrom noKeywords
        generalize qPI : pyIter = PI
        wp_walk
        subst qPI
        refine (wpAny_pyIter_list ql1 ?_)
        refine (wpAny_bind (wpAny_runValue ?_))
        have qlS : l < s.heap.objs.size := Heap.lt_size qol
        have qh3 : A.in1.in1.in1.handled = none := by simp [qh]
        have qz1 : (s.heap.push { cls := .type "set", dict := none, data := .set #[] 0 (.fresh 0 0 (!w.params.followText "set-order")) }).objs.size = s.heap.objs.size + 1 := Heap.size_push ..
        have qneI : l ≠ (s.heap.push { cls := .type "set", dict := none, data := .set #[] 0 (.fresh 0 0 (!w.params.followText "set-order")) }).objs.size := by
          rw [Heap.size_push]; exact (Nat.ne_of_lt (Nat.lt_succ_of_lt qlS))
        have qSf : s.heap.objs.size ∉ [(s.heap.push { cls := .type "set", dict := none, data := .set #[] 0 (.fresh 0 0 (!w.params.followText "set-order")) }).objs.size, l] := by
          rw [Heap.size_push]; simp only [List.mem_cons, List.mem_singleton, List.not_mem_nil, not_or, or_false]
          exact (⟨Nat.ne_of_lt (Nat.lt_succ_self _), Nat.ne_of_gt qlS⟩)
        have qval : ∀ (i : Nat) (v : Value), items[i]? = some v → ∃ k t, ns[i]? = some k ∧ v = .int k t := fun i v hv => by
          have hi : i < ns.length := by rw [← qsz]; exact (Array.getElem?_eq_some_iff.mp hv).1
          obtain ⟨t, e⟩ := PyProof.Rows.IntsAre.int_at qit i v (by rw [Array.getElem?_toList]; exact hv)
          refine (⟨ns[i], t, List.getElem?_eq_getElem hi, ?_⟩)
          rw [e, List.getD_eq_getElem?_getD, (List.getElem?_eq_getElem hi)] <;> rfl
        refine set_update_ints ((Walks.list qh3 _ l qneI items).toS) s.heap.objs.size
          qSf ns qsz hb qval (items.size - 0) 0 _ (by omega) (Nat.zero_le _)
          ⟨⟨_, Heap.get?_push_size _ rfl, rfl, rfl⟩, (ql1.push _)⟩ ?hS0 ?hR
        case hS0 =>
          have qget : ((s.heap.push { cls := .type "set", dict := none, data := .set #[] 0 (.fresh 0 0 (!w.params.followText "set-order")) }).push { cls := .type "list_iterator", data := .fields #[.ref l, .int 0 0] }).get? s.heap.objs.size
              = some { cls := .type "set", dict := none, data := .set #[] 0 (.fresh 0 0 (!w.params.followText "set-order")) } := (Heap.get?_push_of_some _ qS)
          exact (⟨0, Nat.le_refl 0, setR_new_at qget⟩)
        case hR =>
          intro s1 c' qm qc1 qS1
          obtain ⟨hp1, gg2, dd1, tk1, oo1⟩ := s1
          have eg1 : gg2 = s.gens := qm.gens
          have ed1 : dd1 = s.drawn := qm.drawn
          have eo1 : oo1 = s.os := qm.os
          subst eg1; subst ed1; subst eo1
          show wpAny _ _ _ _ _ _
          refine wpAny_pure ?_
          show wpAny _ _ ((ret Value.none)) _ _ _
          rw [qsz] at qc1
          refine (wpAny_pure ⟨rfl, hp1, tk1, c', rfl, qS1, qc1, fun b o e => ?_⟩)
          have qb0 : b < s.heap.objs.size := Heap.lt_size e
          have qb1 : b ≠ s.heap.objs.size := Nat.ne_of_lt qb0
          have qb2 : b ≠ (s.heap.push { cls := .type "set", dict := none, data := .set #[] 0 (.fresh 0 0 (!w.params.followText "set-order")) }).objs.size := by
            rw [Heap.size_push]; exact (Nat.ne_of_lt (Nat.lt_succ_of_lt qb0))
          exact (qm.heap b o (by simp only [List.mem_cons, List.mem_singleton, List.not_mem_nil, or_false, not_or]; exact ⟨qb1, qb2⟩) (Heap.get?_push_of_some _ (Heap.get?_push_of_some _ e)))
      · cases r₂ with
        | error e => exact qr2
        | ok fl₂ =>
          cases fl₂ with
          | ret r =>
            obtain ⟨rfl, hp1, tk, c', rfl, qS1, qc1, qk1⟩ := qr2
            repeat (any_goals (first | (assumption) | wp_step))
            exact h _ _ _ qS1 qc1 qk1
          | _ => exact qr2.elim
    | _ => exact qr.elim
end
end L2
namespace Tg
open PySem PySem.Spec PyProof.Rows L2
def uins (x : Int) : List Int → List Int
  | [] => [x]
  | y :: r => if x < y then x :: y :: r else if x = y then y :: r else y :: uins x r
def usort : List Int → List Int
  | [] => []
  | x :: r => uins x (usort r)
theorem mem_uins {x z : Int} : ∀ {l : List Int}, z ∈ uins x l ↔ z = x ∨ z ∈ l
  | [] => by simp [uins]
  | y :: r => by
    unfold uins
    split
    · simp
    · split
      · next h => subst h; simp
      · rw [List.mem_cons, List.mem_cons, mem_uins (l := r)]
        constructor <;> rintro (h | h | h) <;> simp [h]
theorem uins_pw {x : Int} : ∀ {l : List Int}, l.Pairwise (· < ·) → (uins x l).Pairwise (· < ·)
  | [], _ => by simp [uins]
  | y :: r, h => by
    have h0 := h
    rw [List.pairwise_cons] at h
    unfold uins
    split
    · next hx =>
      rw [List.pairwise_cons]
      refine ⟨fun z hz => ?_, h0⟩
      rcases List.mem_cons.mp hz with rfl | hz
      · exact hx
      · have := h.1 z hz
        omega
    · split
      · exact h0
      · rw [List.pairwise_cons]
        refine ⟨fun z hz => ?_, uins_pw h.2⟩
        rcases mem_uins.mp hz with rfl | hz
        · omega
        · exact h.1 z hz
theorem mem_usort {z : Int} : ∀ {l : List Int}, z ∈ usort l ↔ z ∈ l
  | [] => by simp [usort]
  | x :: r => by
    unfold usort
    rw [mem_uins, mem_usort (l := r), List.mem_cons]
theorem usort_pw : ∀ l : List Int, (usort l).Pairwise (· < ·)
  | [] => by simp [usort]
  | x :: r => uins_pw (usort_pw r)
theorem pw_ext : ∀ {l m : List Int}, l.Pairwise (· < ·) → m.Pairwise (· < ·) → (∀ z, z ∈ l ↔ z ∈ m) → l = m
  | [], [], _, _, _ => rfl
  | [], y :: m, _, _, h => absurd ((h y).mpr List.mem_cons_self) (by simp)
  | x :: l, [], _, _, h => absurd ((h x).mp List.mem_cons_self) (by simp)
  | x :: l, y :: m, hl, hm, h => by
    rw [List.pairwise_cons] at hl hm
    have e : x = y := by
      have h1 := (h x).mp List.mem_cons_self
      have h2 := (h y).mpr List.mem_cons_self
      rcases List.mem_cons.mp h1 with e | h1
      · exact e
      · rcases List.mem_cons.mp h2 with e | h2
        · exact e.symm
        · have := hm.1 x h1
          have := hl.1 y h2
          omega
    subst e
    rw [pw_ext hl.2 hm.2 fun z => ?_]
    constructor
    · intro hz
      rcases List.mem_cons.mp ((h z).mp (List.mem_cons_of_mem _ hz)) with rfl | q
      · have := hl.1 z hz
        omega
      · exact q
    · intro hz
      rcases List.mem_cons.mp ((h z).mpr (List.mem_cons_of_mem _ hz)) with rfl | q
      · have := hm.1 z hz
        omega
      · exact q
def tSoSet (K : PySem.W.Frag) (w : World) (ta : TE) : TE := fun σ H Q => ta σ H fun x H1 => ∃ (l : Addr) (ns : List Int), x = V.ref l ∧ (SqL K H1 l (ns.map V.int) ∨ SqT K H1 l (ns.map V.int)) ∧ ns.length < 63 ∧
  ∀ (a p : Addr) (n : Nat), H1 a = none → upd H1 a (SetO w a (fun j => decide (j ∈ ns)) n) p = none → Q (.ref p) (upd (upd H1 a (SetO w a (fun j => decide (j ∈ ns)) n)) p (.lst ((usort ns).map V.int)))
theorem pe_soSet {X : Cx} {a : Expr} {ta : TE} {p p2 q pos : Pos} (hc : X.calm = true) (hg : Gl X "sorted") (hm : X.mg "sorted" = none) (hg2 : Gl X "set") (hm2 : X.mg "set" = none) (ha : PE X a ta)
    (na : starEach [a] X.env = (false, eval a X.env) :: starEach [] X.env) : PE X (.Call (.Name "sorted" p) [.Call (.Name "set" p2) [a] [] q] [] pos) (tSoSet X.K X.w ta) := by
  refine ⟨fun pins s σ H Q I h => ?_⟩
  refine Call_ (ld_blt I hg hm PyProof.Rows.boot_sorted ?_)
  refine (PyProof.Rows.callWith_builtin1 (PyProof.Rows.args_cons ?_ rfl) rfl rfl)
  refine (Call_ (ld_blt I hg2 hm2 PyProof.Rows.boot_set ?_))
  refine PyProof.Rows.callWith_type1 (PyProof.Rows.args_cons (thn (ha.run pins s σ H _ I h) fun v s1 ⟨x, H1, I1, r1, q1⟩ => (PyProof.Rows.args_nil ?_)) na) na rfl
  obtain ⟨l, ns, rfl, hq, h63, q1⟩ := q1
  cases r1
  have hn0 : H1 s1.heap.objs.size = none := I1.hok.fresh (Nat.le_refl _)
  rcases hq with hq | hq
  · obtain ⟨its, r, pl, hz⟩ := I1.list hq
    refine set_of_ints ns (I1.ok.hd hc) pl.isList (by simpa using r.ints) (by unfold scanBound; omega) fun h2 tk c hS hle k => ?_
    have I2 : Inv X pins σ (upd H1 s1.heap.objs.size (SetO X.w s1.heap.objs.size (fun j => decide (j ∈ ns)) c)) { s1 with heap := h2, toks := tk } := I1.laid (t' := tk) k (Nat.le_refl _) (setO_new hS)
    refine (PyProof.Rows.args_nil ?_)
    refine thn (cr_sortedSet hc pins { s1 with heap := h2, toks := tk } σ _ [.ref s1.heap.objs.size] [.ref s1.heap.objs.size] Q I2 (.cons rfl .nil) ⟨_, _, c, rfl, upd_same, by omega, fun ms p pw hms hml np => ?_⟩) fun _ _ z => z
    have e : ms = usort ns := pw_ext pw (usort_pw ns) fun z => by rw [hms z, mem_usort, decide_eq_true_iff]
    subst e
    exact q1 _ p c hn0 np
  · obtain ⟨its, r, pl, hz⟩ := I1.tuple hq
    refine call_set_tupI ns (I1.ok.hd hc) pl (by simpa using r.ints) (by unfold scanBound; omega) fun h2 tk c hS hle k => ?_
    have I2 : Inv X pins σ (upd H1 s1.heap.objs.size (SetO X.w s1.heap.objs.size (fun j => decide (j ∈ ns)) c)) { s1 with heap := h2, toks := tk } := I1.laid (t' := tk) k (Nat.le_refl _) (setO_new hS)
    refine (PyProof.Rows.args_nil ?_)
    refine thn (cr_sortedSet hc pins { s1 with heap := h2, toks := tk } σ _ [.ref s1.heap.objs.size] [.ref s1.heap.objs.size] Q I2 (.cons rfl .nil) ⟨_, _, c, rfl, upd_same, by omega, fun ms p pw hms hml np => ?_⟩) fun _ _ z => z
    have e : ms = usort ns := pw_ext pw (usort_pw ns) fun z => by rw [hms z, mem_usort, decide_eq_true_iff]
    subst e
    exact q1 _ p c hn0 np
end Tg
namespace Tg
open PySem PySem.Spec PyProof.Rows L2
section
variable {K : Fg} {r m : List Addr} {H : Hp} {st : Sto}
def gSoSet (st : Sto) : List D → Option D
  | [.tup xs] => (intsOf xs).bind fun ns => if ns.length < 63 then some (.lst ((usort ns).map D.int)) else none
  | [d] => (lsqOf st d).bind fun xs => (intsOf xs).bind fun ns => if ns.length < 63 then some (.lst ((usort ns).map D.int)) else none
  | _ => none
theorem t_soSet {w : World} {σ : L2.St} {Q : VK} {fa : DE} (h : tE K (eBlt gSoSet (aCons fa aNil)) σ H Q) : tSoSet K w (tE K fa) σ H Q := by
  obtain ⟨r, m, st, env, d, st', g, e, f, q⟩ := h
  unfold eBlt at f
  obtain ⟨⟨ds, s1⟩, f1, f⟩ := Option.bind_eq_some_iff.mp f
  unfold aCons at f1
  obtain ⟨⟨x, s2⟩, f2, f1⟩ := Option.bind_eq_some_iff.mp f1
  obtain ⟨⟨ys, s3⟩, f3, f1⟩ := Option.bind_eq_some_iff.mp f1
  obtain ⟨rfl, rfl⟩ := Prod.mk.inj (Option.some.inj f3)
  obtain ⟨rfl, rfl⟩ := Prod.mk.inj (Option.some.inj f1)
  obtain ⟨d', f4, f⟩ := Option.map_eq_some_iff.mp f
  obtain ⟨rfl, rfl⟩ := Prod.mk.inj f
  refine ⟨r, m, st, env, x, _, g, e, f2, fun m1 H1 v1 l1 g1 d1 => ?_⟩
  have f4 : gSoSet _ [x] = some d' := f4
  have nn : ∀ ns : List Int, ns.length < 63 → ∀ (m1 : List Addr) (H1 : Hp) (p : Addr), Le m H m1 H1 → Good K r m1 s2 H1 → d' = .lst ((usort ns).map D.int) →
      ∀ (a b : Addr) (n : Nat), H1 a = none → upd H1 a (SetO w a (fun j => decide (j ∈ ns)) n) b = none → Q (.ref b) (upd (upd H1 a (SetO w a (fun j => decide (j ∈ ns)) n)) b (.lst ((usort ns).map V.int))) := fun ns h63 m1 H1 p l1 g1 ed a b n na nb => by
    subst ed
    have l2 : Le m1 H1 m1 (upd H1 a (SetO w a (fun j => decide (j ∈ ns)) n)) := le_upd na
    have g2 := g1.upd (o := SetO w a (fun j => decide (j ∈ ns)) n) na
    have l3 := le_upd (m := m1) (o := .lst ((usort ns).map V.int)) nb
    refine q m1 _ _ ((l1.trans l2).trans l3) (g2.upd nb) ⟨b, _, rfl, upd_same, g2.fresh nb, ?_, Dens.of_ints _⟩
    rw [List.length_map]
    have z1 : ∀ (x : Int) (l : List Int), (uins x l).length ≤ l.length + 1 := fun x l => by
      induction l with
      | nil => exact Nat.le_refl _
      | cons y l ih =>
        unfold uins
        split
        · simp
        · split <;> simp <;> omega
    have z2 : ∀ l : List Int, (usort l).length ≤ l.length := fun l => by
      induction l with
      | nil => exact Nat.le_refl _
      | cons x l ih =>
        have := z1 x (usort l)
        show (uins x (usort l)).length ≤ _
        rw [List.length_cons]
        omega
    have := z2 ns
    have : (63 : Nat) ≤ sizeLine := by decide
    omega
  unfold gSoSet at f4
  split at f4
  · next xs e0 =>
    cases e0
    obtain ⟨ns, e2, f4⟩ := Option.bind_eq_some_iff.mp f4
    split at f4
    · next h63 =>
      cases f4
      obtain ⟨p, ws, rfl, im, dd⟩ := d1
      rw [intsOf_eq e2] at dd
      have hw := dd.ints
      subst hw
      exact ⟨p, ns, rfl, .inr im.sq, h63, nn ns h63 m1 H1 p l1 g1 rfl⟩
    · cases f4
  · next x' e0 e1 =>
    cases e1
    obtain ⟨xs, e1, f4⟩ := Option.bind_eq_some_iff.mp f4
    obtain ⟨ns, e2, f4⟩ := Option.bind_eq_some_iff.mp f4
    split at f4
    · next h63 =>
      cases f4
      obtain ⟨p, ws, rfl, sL, dd, z⟩ := lsq_list g1 d1 e1
      rw [intsOf_eq e2] at dd
      have hw := dd.ints
      subst hw
      exact ⟨p, ns, rfl, .inl sL, h63, nn ns h63 m1 H1 p l1 g1 rfl⟩
    · cases f4
  · cases f4
end
end Tg
namespace Tg
open PySem PySem.Spec PyProof.Rows L2
def adjT (n : Nat) (lo hi : Option Int) (c : Int) : Int × Int := Builtin.Slice.sliceAdjust lo hi c (n : Int)
def plaT (n : Nat) (lo hi : Option Int) (c : Int) : Nat := Builtin.Slice.slicePlaces (adjT n lo hi c).1 (adjT n lo hi c).2 c
/-- the items of a tuple that a slice with a step takes -/
def pickT {α : Type} (xs : List α) (lo hi : Option Int) (c : Int) : List α := (List.range (plaT xs.length lo hi c)).filterMap fun (k : Nat) => xs[((adjT xs.length lo hi c).1 + (k : Int) * c).toNat]?
/-- the slice takes all -/
def allT (n : Nat) (lo hi : Option Int) (c : Int) : Bool := (adjT n lo hi c).1 == 0 && c == 1 && plaT n lo hi c == n
theorem pl_neg {a b c : Int} {n : Nat} (hc : c < 0) (ha : a ≤ (n : Int) - 1) (hb : -1 ≤ b) : Builtin.Slice.slicePlaces a b c ≤ n := by
  unfold Builtin.Slice.slicePlaces
  have hc2 : ¬ c > 0 := by omega
  simp only [hc2, if_false]
  split
  · have hd : (a - b - 1) / -c ≤ a - b - 1 := Int.ediv_le_self _ (by omega)
    omega
  · omega
theorem pl_pos {a b c : Int} {n : Nat} (hc : c > 0) (ha : 0 ≤ a) (hb : b ≤ n) : Builtin.Slice.slicePlaces a b c ≤ n := by
  unfold Builtin.Slice.slicePlaces
  simp only [hc, if_true]
  split
  · have hd : (b - a - 1) / c ≤ b - a - 1 := Int.ediv_le_self _ (by omega)
    omega
  · omega
theorem pla_le {n : Nat} {lo hi : Option Int} {c : Int} (h0 : c ≠ 0) : plaT n lo hi c ≤ n := by
  unfold plaT adjT
  by_cases hc : c < 0
  · refine pl_neg hc ?_ ?_
    · unfold Builtin.Slice.sliceAdjust
      cases lo with
      | none => simp only [hc, if_true]; omega
      | some v => simp only [hc, if_true]; split <;> omega
    · unfold Builtin.Slice.sliceAdjust
      cases hi with
      | none => simp only [hc, if_true]; omega
      | some v => simp only [hc, if_true]; split <;> omega
  · refine pl_pos (by omega) ?_ ?_
    · unfold Builtin.Slice.sliceAdjust
      cases lo with
      | none => simp only [hc, if_false]; omega
      | some v => simp only [hc, if_false]; split <;> omega
    · unfold Builtin.Slice.sliceAdjust
      cases hi with
      | none => simp only [hc, if_false]; omega
      | some v => simp only [hc, if_false]; split <;> omega
theorem pickT_le {α : Type} {xs : List α} {lo hi : Option Int} {c : Int} (h0 : c ≠ 0) : (pickT xs lo hi c).length ≤ xs.length := by
  unfold pickT
  refine Nat.le_trans (List.length_filterMap_le _ _) ?_
  rw [List.length_range]
  exact pla_le h0
theorem pickT_all {α : Type} {xs : List α} {lo hi : Option Int} {c : Int} (h : allT xs.length lo hi c = true) : pickT xs lo hi c = xs := by
  unfold allT at h
  rw [Bool.and_eq_true, Bool.and_eq_true] at h
  have h1 : (adjT xs.length lo hi c).1 = 0 := eq_of_beq h.1.1
  have h2 : c = 1 := eq_of_beq h.1.2
  have h3 : plaT xs.length lo hi c = xs.length := eq_of_beq h.2
  unfold pickT
  rw [h3, h1, h2]
  have e : (fun k : Nat => xs[((0 : Int) + (k : Int) * 1).toNat]?) = fun k => xs[k]? := by
    funext k
    congr 1
    omega
  rw [e]
  have := pick_run xs.toArray 0 xs.length
  simpa [List.filterMap_map, Function.comp_def] using this
theorem pickT_rev {α : Type} (xs : List α) : pickT xs none none (-1) = xs.reverse := by
  have e1 : adjT xs.length none none (-1) = ((xs.length : Int) - 1, -1) := rfl
  have e2 : plaT xs.length none none (-1) = xs.length := by
    unfold plaT
    rw [e1]
    unfold Builtin.Slice.slicePlaces
    have : ¬ ((-1 : Int) > 0) := by omega
    simp only [this, if_false]
    split
    · rw [show (- -1 : Int) = 1 by omega, Int.ediv_one]
      omega
    · omega
  unfold pickT
  rw [e1, e2]
  apply List.ext_getElem?
  intro i
  have fm : ∀ n, n ≤ xs.length → (List.range n).filterMap (fun k : Nat => xs[((xs.length : Int) - 1 + (k : Int) * -1).toNat]?) = (List.range n).filterMap fun k : Nat => xs[xs.length - 1 - k]? := fun n hn => by
    congr 1
    funext k
    congr 1
    omega
  have key : ∀ n, n ≤ xs.length → (List.range n).filterMap (fun k : Nat => xs[((xs.length : Int) - 1 + (k : Int) * -1).toNat]?) = xs.reverse.take n := by
    intro n
    induction n with
    | zero => intro _; simp
    | succ n ih =>
      intro hn
      rw [List.range_succ, List.filterMap_append, ih (by omega), List.take_add_one]
      congr 1
      have e3 : xs[((xs.length : Int) - 1 + (n : Int) * -1).toNat]? = xs.reverse[n]? := by
        rw [List.getElem?_reverse (by omega)]
        congr 1
        omega
      rw [List.filterMap_cons, e3]
      cases xs.reverse[n]? <;> rfl
  rw [key _ (Nat.le_refl _), List.take_of_length_le (by rw [List.length_reverse]; exact Nat.le_refl _)]
section
variable {prog : Program} {w : World} {A : Around} {E : Value → Shared → Prop} {s : Shared}
theorem applied_step {sl : Addr} {vl vu vs : Value} {lo hi : Option Int} {c : Int} {n : Nat} {Q : Int × Int × Nat → Shared → Prop} (hs : s.heap.IsSliceOf sl vl vu vs) (pl : IsPart vl lo) (pu : IsPart vu hi) (ps : IsPart vs (some c)) (h0 : c ≠ 0)
    (h : Q ((adjT n lo hi c).1, c, plaT n lo hi c) s) : wpAny (model prog w) A (Builtin.Slice.sliceApplied (.ref sl) (pure (n : Int))) Q E s := by
  obtain ⟨os, hos, hcs, hds⟩ := id hs
  unfold Builtin.Slice.sliceApplied Builtin.Slice.sliceFields
  refine wpAny_bind (wpAny_bind (wpAny_field hos hds (x := vl) rfl (wpAny_bind (wpAny_field hos hds (x := vu) rfl (wpAny_bind (wpAny_field hos hds (x := vs) rfl (wpAny_pure ?_)))))))
  refine wpAny_bind (HT.slicePart_ ps ?_)
  have hz : ¬ ((c == 0) = true) := fun z => h0 (eq_of_beq z)
  show wpAny _ _ (if (c == 0) = true then _ else _) _ _ s
  rw [if_neg hz]
  refine wpAny_bind (HT.slicePart_ pl (wpAny_bind (HT.slicePart_ pu (wpAny_bind (wpAny_pure ?_)))))
  exact wpAny_pure h
theorem getItem_tuple_step {t sl : Addr} {items : Array Value} {vl vu vs : Value} {lo hi : Option Int} {c : Int} {Q : Value → Shared → Prop} (ht : IsTup s.heap t items) (hs : s.heap.IsSliceOf sl vl vu vs) (pl : IsPart vl lo) (pu : IsPart vu hi) (ps : IsPart vs (some c)) (h0 : c ≠ 0)
    (h1 : allT items.size lo hi c = true → Q (.ref t) s)
    (h2 : allT items.size lo hi c = false → Q (.ref s.heap.objs.size) { s with heap := s.heap.push { cls := .type "tuple", data := .seq (pickT items.toList lo hi c).toArray } })
    (hsz : items.size ≤ sizeLine) : wpAny (model prog w) A (getItem (.ref t) (.ref sl)) Q E s := by
  have hl : items.toList.length = items.size := Array.length_toList
  have htake : sizeOk (.seq (pickT items.toList lo hi c).toArray) := by
    show (pickT items.toList lo hi c).toArray.size ≤ sizeLine
    rw [List.size_toArray]
    have := pickT_le (xs := items.toList) (lo := lo) (hi := hi) h0
    omega
  obtain ⟨os, hos, hcs, hds⟩ := id hs
  have hTs : s.TypeIs (.ref sl) "slice" := ⟨os, hos, hcs⟩
  unfold getItem
  try with_reducible refine wpAny_holding ?_
  first | refine wpAny_bind (wpAny_pure ?_) | skip
  refine (wpAny_bind (wpAny_sequenceKey ht.typeIs (by decide) ?_))
  refine wpAny_bind (wpAny_callSpecial?_slot (name := Str.ofString "__getitem__") ht.typeIs slot_tuple_getitem
    (wpAny_call_entry slot_tuple_getitem ht.typeIs entry_tuple_getitem ?_ (args_tuple_getitem _ _)))
  show wpAny _ _ (Builtin.Tuple.tupleItemsOf (.ref t) >>= _) _ _ s
  refine (wpAny_bind (tupleItemsOf_ ht ?_))
  refine (wpAny_bind (wpAny_typeOf hTs ?_))
  rw [if_pos (by decide)]
  refine wpAny_bind (applied_step (n := items.size) hs pl pu ps h0 ?_)
  show wpAny _ _ (if allT items.size lo hi c = true then _ else _) _ _ s
  have em : ((List.range (plaT items.size lo hi c)).filterMap fun (k : Nat) => items[((adjT items.size lo hi c).1 + (k : Int) * c).toNat]?).toArray = (pickT items.toList lo hi c).toArray := by
    unfold pickT
    rw [hl]
    congr 2
    funext k
    rw [Array.getElem?_toList]
  cases hall : allT items.size lo hi c with
  | true =>
    rw [if_pos rfl]
    refine wpAny_bind ?_
    show wpAny _ _ (typeOf (.ref t) >>= fun T => pure (T == .type "tuple")) _ _ s
    refine (wpAny_bind (wpAny_typeOf ht.typeIs (wpAny_pure ?_)))
    first
      | rw [if_pos (by decide)]
      | simp only [beq_self_eq_true, if_true]
    first
      | exact wpAny_bind (wpAny_rule (wpAny_pure ⟨_, rfl, wpAny_pure (h1 hall)⟩))
      | exact wpAny_bind (wpAny_rule (wpAny_bind (wpAny_pure (wpAny_pure ⟨_, rfl, wpAny_pure (h1 hall)⟩))))
  | false =>
    rw [if_neg Bool.false_ne_true, em]
    have h := h2 hall
    first
      | exact wpAny_bind (m := Builtin.Tuple.tupleExact _) (wpAny_newObj_type (wpAny_pure ⟨_, rfl, (wpAny_pure h)⟩) htake)
      | exact wpAny_bind (m := Builtin.Tuple.tupleExact _) (wpAny_newObj_type (wpAny_bind (wpAny_pure (wpAny_pure ⟨_, rfl, (wpAny_pure h)⟩))) htake)
      | exact wpAny_bind (wpAny_bind (m := Builtin.Tuple.tupleExact _) (wpAny_newObj_type (wpAny_pure (wpAny_pure ⟨_, rfl, (wpAny_pure h)⟩)) htake))
      | exact wpAny_bind (wpAny_bind (m := Builtin.Tuple.tupleExact _) (wpAny_newObj_type (wpAny_pure ⟨_, rfl, (wpAny_pure h)⟩) htake))
end
def tSlS (K : PySem.W.Frag) (te : TE) (tl th : TO) (ts : TE) : TE := fun σ H Q => te σ H fun x H1 => tl σ H1 fun l H2 => th σ H2 fun u H3 => ts σ H3 fun z H4 => ∃ i, z = .int i ∧ (some i).isSome = true ∧ some i ≠ some 0 ∧ ∃ (a : Addr) (xs : List V), x = .ref a ∧
  ((SqL K H4 a xs ∧ ∀ p, H4 p = none → Q (.ref p) (upd H4 p (.lst (pickL xs l u (some i))))) ∨
   (SqT K H4 a xs ∧ (allT xs.length l u ((some i).getD 0) = true → Q (.ref a) H4) ∧ (allT xs.length l u ((some i).getD 0) = false → ∀ p, H4 p = none → Q (.ref p) (upd H4 p (.tup (pickT xs l u ((some i).getD 0)))))))
theorem vals_pickF {xs : List V} {us : List Value} (r : Vals xs us) (f : Nat → Nat) (is : List Nat) : Vals (is.filterMap fun k => xs[f k]?) (is.filterMap fun k => us[f k]?) := by
  have := vals_pick r (is.map f)
  rw [List.filterMap_map, List.filterMap_map] at this
  exact this
theorem pe_slS {X : Cx} {e s : Expr} {lo hi : Option Expr} {te ts : TE} {tl th : TO} {p3 pos : Pos} (he : PE X e te) (hl : PO X lo tl) (hu : PO X hi th) (hs : PE X s ts) :
    PE X (.Subscript e (.Slice lo hi (some s) p3) pos) (tSlS X.K te tl th ts) := by
  refine ⟨fun pins s0 σ H Q I h => ?_⟩
  refine Subscript_ (thn (he.run pins s0 σ H _ I h) fun v s1 ⟨x, H1, I1, r1, k1⟩ => ?_)
  refine wpAny_Slice (thn (hl.run pins s1 σ H1 _ I1 k1) fun vl s2 ⟨l, H2, I2, pl, k2⟩ => ?_)
  refine thn (hu.run pins s2 σ H2 _ I2 k2) fun vu s3 ⟨u, H3, I3, pu, k3⟩ => ?_
  have hst := po_some hs
  refine thn (hst.run pins s3 σ H3 (fun o H4 => o.isSome = true ∧ o ≠ some 0 ∧ ∃ (a : Addr) (xs : List V), x = .ref a ∧
    ((SqL X.K H4 a xs ∧ ∀ p, H4 p = none → Q (.ref p) (upd H4 p (.lst (pickL xs l u o)))) ∨
     (SqT X.K H4 a xs ∧ (allT xs.length l u (o.getD 0) = true → Q (.ref a) H4) ∧ (allT xs.length l u (o.getD 0) = false → ∀ p, H4 p = none → Q (.ref p) (upd H4 p (.tup (pickT xs l u (o.getD 0)))))))) I3 k3) fun vs s4 ⟨o, H4, I4, ps, q⟩ => ?_
  obtain ⟨hsome, hi0, a, xs, rfl, q⟩ := q
  cases r1
  have I5 : Inv X pins σ H4 { s4 with heap := s4.heap.push { cls := .type "slice", data := .fields #[vl, vu, vs] } } := I4.kept (t' := s4.toks) fun b ob z => Heap.get?_push_of_some _ z
  rcases q with ⟨hx, q⟩ | ⟨hx, q1, q2⟩
  · obtain ⟨its, r, ht, hz⟩ := I5.list hx
    have hlen := r.length
    show wpAny (model X.prog X.w) X.A (subscriptTail e (.Slice lo hi (some s) p3) (.ref a) (.ref s4.heap.objs.size)) (EP X pins σ Q) X.xe { s4 with heap := s4.heap.push { cls := .type "slice", data := .fields #[vl, vu, vs] } }
    refine tail_any (ops := [.ref a, .ref s4.heap.objs.size]) ht.isList.typeIs (PySem.slot_list_getitem.lookup) ?_ (by with_unfolding_all rfl)
    refine wpAny_getItem_list_slice ht.isList (Heap.IsSliceOf.new _ vl vu vs) pl pu ps hi0 ?_ (by rw [List.size_toArray]; omega)
    rw [pick_arr]
    refine ⟨.ref _, _, I5.laid (t' := s4.toks) (o := .lst (pickL xs l u o)) (fun b ob z => Heap.get?_push_of_some _ z) (Nat.le_refl _) ?_, rfl, q _ (I5.hok.fresh (Nat.le_refl _))⟩
    refine ⟨Nat.le_trans (pick_le _ _ _ _) hz, _, 0, ?_, Heap.get?_push_size _ rfl⟩
    unfold pickL
    rw [← hlen]
    exact vals_pick r _
  · obtain ⟨c, rfl⟩ : ∃ c, o = some c := by
      cases o with
      | none => cases hsome
      | some c => exact ⟨c, rfl⟩
    have hc0 : c ≠ 0 := fun z => hi0 (by rw [z])
    obtain ⟨its, r, ht, hz⟩ := I5.tuple hx
    have hlen : its.toArray.size = xs.length := by rw [List.size_toArray]; exact r.length.symm
    show wpAny (model X.prog X.w) X.A (subscriptTail e (.Slice lo hi (some s) p3) (.ref a) (.ref s4.heap.objs.size)) (EP X pins σ Q) X.xe { s4 with heap := s4.heap.push { cls := .type "slice", data := .fields #[vl, vu, vs] } }
    refine tail_any (ops := [.ref a, .ref s4.heap.objs.size]) ht.typeIs (PyProof.Rows.slot_tuple_getitem.lookup) ?_ (by with_unfolding_all rfl)
    refine getItem_tuple_step ht (Heap.IsSliceOf.new _ vl vu vs) pl pu ps hc0 (fun hall => ?_) (fun hall => ?_) (by rw [hlen]; exact hz)
    · rw [hlen] at hall
      exact ⟨.ref a, H4, I5, rfl, q1 hall⟩
    · rw [hlen] at hall
      refine ⟨.ref _, _, I5.laid (t' := s4.toks) (o := .tup (pickT xs l u c)) (fun b ob z => Heap.get?_push_of_some _ z) (Nat.le_refl _) ?_, rfl, q2 hall _ (I5.hok.fresh (Nat.le_refl _))⟩
      refine ⟨Nat.le_trans (pickT_le hc0) hz, _, ?_, IsTup.new _ _⟩
      unfold pickT
      rw [List.size_toArray] at hlen
      rw [hlen]
      exact vals_pickF r _ _
theorem krv_pick' {α : Type} (xs : List α) : pickL xs none none (some (-1)) = xs.reverse := by
  unfold pickL
  rw [PySem.W.krv_bounds]
  show ((sliceRange ((xs.length : Int) - 1) (-1) (-1)).filterMap (xs[·]?)) = _
  rw [PySem.W.krv_sliceRange, PySem.W.krv_range, List.filterMap_reverse]
  have := PySem.W.krv_all xs.toArray
  simp only [List.size_toArray, List.getElem?_toArray] at this
  rw [this]
section
variable {K : Fg} {r m : List Addr} {H : Hp}
theorem dens_pickF {ds : List D} {vs : List V} (h : Dens K r m H ds vs) (f : Nat → Nat) (is : List Nat) : Dens K r m H (is.filterMap fun k => ds[f k]?) (is.filterMap fun k => vs[f k]?) := by
  have := dens_pick h (is.map f)
  rw [List.filterMap_map, List.filterMap_map] at this
  exact this
def slsD (st : Sto) (lo hi : Option Int) (i : Int) : D → Option D
  | .tup xs => if i = 0 then none else some (.tup (pickT xs lo hi i))
  | d => if i = 0 then none else (lsqOf st d).map fun xs => .lst (pickL xs lo hi (some i))
def eSlS (fa : DE) (fl fh : DO) (fs : DE) : DE := fun env st => (fa env st).bind fun p => (fl env p.2).bind fun l => (fh env l.2).bind fun u => (fs env u.2).bind fun z => match z.1 with
  | .int i => (slsD z.2 l.1 u.1 i p.1).map fun d => (d, z.2)
  | _ => none
theorem sls_fin {m0 m4 : List Addr} {H0 H4 : Hp} {st' : Sto} {x d : D} {v1 : V} {lo hi : Option Int} {i : Int} {Q : VK} (lT : Le m0 H0 m4 H4) (g4 : Good K r m4 st' H4) (dx : Den K r m4 H4 x v1) (f : slsD st' lo hi i x = some d) (q : ∀ m' H' v, Le m0 H0 m' H' → Good K r m' st' H' → Den K r m' H' d v → Q v H') :
    i ≠ 0 ∧ ∃ (a : Addr) (xs : List V), v1 = .ref a ∧
  ((SqL K H4 a xs ∧ ∀ p, H4 p = none → Q (.ref p) (upd H4 p (.lst (pickL xs lo hi (some i))))) ∨
   (SqT K H4 a xs ∧ (allT xs.length lo hi i = true → Q (.ref a) H4) ∧ (allT xs.length lo hi i = false → ∀ p, H4 p = none → Q (.ref p) (upd H4 p (.tup (pickT xs lo hi i)))))) := by
  unfold slsD at f
  split at f
  · split at f
    · cases f
    · next ds _ hne =>
      cases f
      have d30 := dx
      obtain ⟨a, xs, rfl, im, dd⟩ := dx
      refine ⟨hne, a, xs, rfl, .inr ⟨im.sq, fun hall => ?_, fun _ p np => ?_⟩⟩
      · rw [← dd.len] at hall
        rw [pickT_all hall] at q
        exact q m4 H4 _ lT g4 d30
      · have l5 : Le m4 H4 m4 (upd H4 p (.tup (pickT xs lo hi i))) := le_upd np
        refine q m4 _ _ (lT.trans l5) (g4.upd np) ⟨p, _, rfl, .inl ⟨upd_same, g4.fresh np, Nat.le_trans (pickT_le hne) im.len⟩, Dens.mono l5 _ _ ?_⟩
        unfold pickT
        rw [← dd.len]
        exact dens_pickF dd _ _
  · split at f
    · cases f
    · next hne =>
      obtain ⟨xs, e1, e2⟩ := Option.map_eq_some_iff.mp f
      subst e2
      obtain ⟨a, vs, rfl, sL, dd, zz⟩ := lsq_list g4 dx e1
      refine ⟨hne, a, vs, rfl, .inl ⟨sL, fun p np => ?_⟩⟩
      have l5 : Le m4 H4 m4 (upd H4 p (.lst (pickL vs lo hi (some i)))) := le_upd np
      refine q m4 _ _ (lT.trans l5) (g4.upd np) ⟨p, _, rfl, upd_same, g4.fresh np, Nat.le_trans (pick_le _ _ _ _) zz, Dens.mono l5 _ _ ?_⟩
      unfold pickL
      rw [← dd.len]
      exact dens_pick dd _
theorem t_slS {σ : L2.St} {Q : VK} {fa fs : DE} {fl fh : DO} (h : tE K (eSlS fa fl fh fs) σ H Q) : tSlS K (tE K fa) (tOo K fl) (tOo K fh) (tE K fs) σ H Q := by
  obtain ⟨r, m, st, env, d, st', g, e, f, q⟩ := h
  unfold eSlS at f
  obtain ⟨⟨x, s1⟩, f1, f⟩ := Option.bind_eq_some_iff.mp f
  obtain ⟨⟨lo, s2⟩, f2, f⟩ := Option.bind_eq_some_iff.mp f
  obtain ⟨⟨hi, s3⟩, f3, f⟩ := Option.bind_eq_some_iff.mp f
  obtain ⟨⟨z, s4⟩, f4, f⟩ := Option.bind_eq_some_iff.mp f
  refine ⟨r, m, st, env, x, s1, g, e, f1, fun m1 H1 v1 l1 g1 d1 => ?_⟩
  refine ⟨r, m1, s1, env, lo, s2, g1, e.mono l1, f2, fun m2 H2 l2 g2 => ?_⟩
  refine ⟨r, m2, s2, env, hi, s3, g2, e.mono (l1.trans l2), f3, fun m3 H3 l3 g3 => ?_⟩
  refine ⟨r, m3, s3, env, z, s4, g3, e.mono ((l1.trans l2).trans l3), f4, fun m4 H4 v4 l4 g4 d4 => ?_⟩
  have lT := ((l1.trans l2).trans l3).trans l4
  have dx := d1.mono ((l2.trans l3).trans l4)
  split at f
  · next i hi0 =>
    simp only at hi0
    subst hi0
    obtain ⟨d', e1, e2⟩ := Option.map_eq_some_iff.mp f
    cases e2
    obtain ⟨hne, a, xs, ea, k⟩ := sls_fin lT g4 dx e1 q
    exact ⟨i, d4, rfl, fun z => hne (Option.some.inj z), a, xs, ea, k⟩
  · cases f
theorem rev_sls {st : Sto} {x : D} : revD st x = slsD st none none (-1) x := by
  have e2 : ∀ o : Option (List D), o.map (fun xs => D.lst xs.reverse) = o.map fun xs => D.lst (pickL xs none none (some (-1))) := fun o => by
    congr 1
    funext xs
    rw [krv_pick' xs]
  have h0 : ¬ ((-1 : Int) = 0) := by decide
  unfold revD
  split
  · show _ = (if (-1 : Int) = 0 then none else some (D.tup (pickT _ none none (-1))))
    rw [if_neg h0, pickT_rev]
  · next hne =>
    unfold slsD
    split
    · next ys => exact absurd rfl (hne ys)
    · rw [if_neg h0, e2]
theorem t_rev {σ : L2.St} {Q : VK} {fa : DE} (h : tE K (eRev fa) σ H Q) : tSlS K (tE K fa) tNoPart tNoPart (tUn (rU fun i => .int (-i)) (tC (.int 1))) σ H Q := by
  obtain ⟨r, m, st, env, d, st', g, e, f, q⟩ := h
  unfold eRev at f
  obtain ⟨⟨x, s1⟩, f1, f⟩ := Option.bind_eq_some_iff.mp f
  obtain ⟨d', f3, f⟩ := Option.map_eq_some_iff.mp f
  cases f
  refine ⟨r, m, st, env, x, s1, g, e, f1, fun m1 H1 v1 l1 g1 d1 => ?_⟩
  rw [rev_sls] at f3
  obtain ⟨hne, a, xs, ea, k⟩ := sls_fin l1 g1 d1 f3 q
  exact ⟨1, rfl, -1, rfl, rfl, fun z => hne (Option.some.inj z), a, xs, ea, k⟩
end
end Tg
namespace Tg
open PySem PySem.Spec PyProof.Rows L2
section
variable {K : Fg} {σ : L2.St} {H : Hp} {Q : VK}
def eRgL2 (fa fb : DE) : DE := fun env st => (fa env st).bind fun p => (fb env p.2).bind fun q => match p.1, q.1 with
  | .int i, .int j => if decide (j - i ≤ 1000000) && decide (i.natAbs ≤ 4000000000000000000) && decide (j.natAbs ≤ 4000000000000000000) then some (.lst (rangeD i (j - i).toNat), q.2) else none
  | _, _ => none
theorem rg2_den {r m : List Addr} {i j : Int} (hc : (j - i ≤ 1000000 ∧ i.natAbs ≤ 4000000000000000000) ∧ j.natAbs ≤ 4000000000000000000) : RgOk i j ∧ Dens K r m H (rangeD i (j - i).toNat) (rgV i j) ∧ (rgV i j).length ≤ sizeLine := by
  have e62 : (2 : Int) ^ 62 = 4611686018427387904 := by decide
  have e24 : (2 : Nat) ^ 24 = 16777216 := by decide
  refine ⟨⟨by rw [e62]; omega, by rw [e62]; omega, by rw [e62]; omega, by rw [e62]; omega, by rw [e24]; omega⟩, ?_, ?_⟩
  · have h1 : rangeD i (j - i).toNat = ((List.range (j - i).toNat).map fun k : Nat => i + (k : Int)).map D.int := by
      rw [List.map_map]
      rfl
    have h2 : rgV i j = ((List.range (j - i).toNat).map fun k : Nat => i + (k : Int)).map V.int := by
      unfold rgV
      rw [List.map_map]
      rfl
    rw [h1, h2]
    exact Dens.of_ints _
  · unfold rgV
    rw [List.length_map, List.length_range, sizeLine_eq]
    omega
theorem t_rgL2 {fa fb : DE} (h : tE K (eRgL2 fa fb) σ H Q) : tLstRg (tRg2 (tE K fa) (tE K fb)) σ H Q := by
  obtain ⟨r, m, st, env, d, st', g, e, f, q⟩ := h
  unfold eRgL2 at f
  obtain ⟨⟨x, s1⟩, f1, f⟩ := Option.bind_eq_some_iff.mp f
  obtain ⟨⟨y, s2⟩, f2, f⟩ := Option.bind_eq_some_iff.mp f
  dsimp only at f
  split at f
  · next x0 x1 i j w =>
    split at f
    · next hc =>
      cases f
      simp only [Bool.and_eq_true, decide_eq_true_eq] at hc
      refine ⟨r, m, st, env, _, _, g, e, f1, fun m1 H1 v1 l1 g1 d1 => ?_⟩
      refine ⟨r, m1, _, env, _, _, g1, e.mono l1, f2, fun m2 H2 v2 l2 g2 d2 => ?_⟩
      cases d1
      cases d2
      obtain ⟨ok, dd, z⟩ := rg2_den (K := K) (r := r) (m := m2) (H := H2) hc
      refine ⟨i, j, rfl, rfl, ok, fun p np => ?_⟩
      have l3 : Le m2 H2 m2 (upd H2 p (.lst (rgV i j))) := le_upd np
      exact q m2 _ (.ref p) ((l1.trans l2).trans l3) (g2.upd np) ⟨p, _, rfl, upd_same, g2.fresh np, z, dd.mono l3⟩
    · cases f
  · cases f
end
end Tg
namespace Tg
open PySem PySem.Spec PyProof.Rows L2
theorem zip_no_len : typeLookup (.type "zip") "__len__" = pure none := by rw [typeLookup_type, builtinLookup_eq_fast]; kernel_rfl
theorem zip_no_hint : typeLookup (.type "zip") "__length_hint__" = pure none := by rw [typeLookup_type, builtinLookup_eq_fast]; kernel_rfl
/-- a list under way -/
def Ls (h : Heap) (a : Addr) (acc : Array Value) (c : Nat) : Prop := h.get? a = some { cls := .type "list", dict := none, data := .seq acc c, slots := #[] }
/-- pairs made so far -/
structure Made (h : Heap) (base : Addr) (no : List Addr) (i : Nat) (P1 P2 : Nat → Value → Prop) (Ts : List Addr) : Prop where
  len : Ts.length = i
  nd : Ts.Nodup
  at' : ∀ T ∈ Ts, base ≤ T ∧ T ∉ no
  is : ∀ j T, Ts[j]? = some T → ∃ x y, P1 j x ∧ P2 j y ∧ IsTupOf2 h T x y
theorem Made.keep {h h' : Heap} {base : Addr} {no : List Addr} {i : Nat} {P1 P2 : Nat → Value → Prop} {Ts : List Addr} (m : Made h base no i P1 P2 Ts) (k : ∀ c o, c ∉ no → h.get? c = some o → h'.get? c = some o) : Made h' base no i P1 P2 Ts :=
  ⟨m.len, m.nd, m.at', fun j T e => by
    obtain ⟨x, y, p, q, t⟩ := m.is j T e
    exact ⟨x, y, p, q, k _ _ (m.at' T (List.mem_of_getElem? e)).2 t⟩⟩
theorem Made.add {h : Heap} {base : Addr} {no : List Addr} {i : Nat} {P1 P2 : Nat → Value → Prop} {Ts : List Addr} {T : Addr} {x y : Value} (m : Made h base no i P1 P2 Ts) (hT : IsTupOf2 h T x y) (p : P1 i x) (q : P2 i y) (nT : T ∉ Ts) (hb : base ≤ T) (hn : T ∉ no) : Made h base no (i + 1) P1 P2 (Ts ++ [T]) :=
  ⟨by simp [m.len], by
    rw [List.nodup_append]
    exact ⟨m.nd, by simp, fun a ha b hb' => by
      rw [List.mem_singleton] at hb'
      rintro rfl
      exact nT (hb' ▸ ha)⟩, fun U hU => by
    rcases List.mem_append.mp hU with e | e
    · exact m.at' U e
    · rw [List.mem_singleton.mp e]
      exact ⟨hb, hn⟩, fun j U e => by
    rw [List.getElem?_append] at e
    split at e
    · exact m.is j U e
    · next hj =>
      have hl := m.len
      have e0 : j - Ts.length = 0 := by
        rcases Nat.eq_zero_or_pos (j - Ts.length) with z | z
        · exact z
        · rw [List.getElem?_eq_none (by simp; omega)] at e
          cases e
      rw [e0] at e
      cases e
      have ej : j = i := by omega
      subst ej
      exact ⟨x, y, p, q, hT⟩⟩
section
variable {prog : Program} {w : World} {A : Around} {s : Shared} {R : Result → Shared → Prop} {z TI TO i1 i2 S : Addr} {fp1 fp2 : List Addr} {n1 n2 : Nat} {P1 P2 : Nat → Value → Prop} {St1 St2 : Nat → Heap → Prop}
/-- what the loop needs at turn i -/
def Zat (z TI TO i1 i2 : Addr) (St1 St2 : Nat → Heap → Prop) (i : Nat) (h : Heap) : Prop := Zs h z TI TO ∧ IsTupOf2 h TI (.ref i1) (.ref i2) ∧ (∃ x y, IsTupOf2 h TO x y) ∧ St1 i h ∧ St2 i h
theorem zl_loop (Sp : ZipSep2 z TI TO i1 i2 fp1 fp2) (D1 : PySem.Draws prog w A.in1.in1 i1 fp1 n1 P1 St1) (D2 : PySem.Draws prog w A.in1.in1 i2 fp2 n2 P2 St2) (sS : S ∉ [z, TI, TO, i1, i2]) (s1 : S ∉ fp1) (s2 : S ∉ fp2) (res : Value) (base : Addr) (hlo : ∀ d ∈ [S, z, TO, i1, i2], d < base) (n : Nat) (hn : n = min n1 n2) (hz : n ≤ 1000) :
    ∀ (k i : Nat) (s : Shared) (acc : Array Value) (c : Nat) (Ts : List Addr), n - i = k → i ≤ n → Zat z TI TO i1 i2 St1 St2 i s.heap → Ls s.heap S acc c → acc.toList = Ts.map Value.ref → Made s.heap base [S, z, TO, i1, i2] i P1 P2 Ts → base ≤ s.heap.objs.size →
    (∀ h' tk acc' c' Ts', (∀ c o, c ∉ [S, z, TO, i1, i2] → s.heap.get? c = some o → h'.get? c = some o) → Ls h' S acc' c' → acc'.toList = Ts'.map Value.ref → Made h' base [S, z, TO, i1, i2] n P1 P2 Ts' → R (.ok (.ret res)) { s with heap := h', toks := tk }) →
    codeAny (model prog w) A (.builtin "list.extend.loop" ⟨[.ref S, .ref z, res], []⟩) R s := by
  have nin : ∀ {c : Addr}, c ∉ [S, z, TO, i1, i2] → c ≠ S ∧ c ≠ z ∧ c ≠ TO ∧ c ≠ i1 ∧ c ≠ i2 := fun {c} h => by
    simpa using h
  have sS' : S ≠ z ∧ S ≠ TI ∧ S ≠ TO ∧ S ≠ i1 ∧ S ≠ i2 := by simpa using sS
  intro k
  induction k with
  | zero =>
    intro i s acc c Ts hk hi zat hS hacc md hb hR
    have hin : i = n := by omega
    subst hin
    obtain ⟨hz0, hTI, ⟨x0, y0, hTO⟩, t1, t2⟩ := zat
    refine codeAny_builtin F.entry_extend_loop ?_
    rw [Around.under_plainId F.plain_extend_loop _]
    show wpAny _ A.in1 (pyNext (.ref z) >>= _) _ _ s
    refine wpAny_bind (z_stop Sp D1 D2 hz0 hTI hTO t1 t2 (by omega) (by omega) (by omega) fun g tk hk => ?_)
    refine wpAny_pure (hR g tk acc c Ts (fun d o hd e => hk d o (nin hd).2.1 (nin hd).2.2.1 (nin hd).2.2.2.1 (nin hd).2.2.2.2 e) (hk S _ sS'.1 sS'.2.2.1 sS'.2.2.2.1 sS'.2.2.2.2 hS) hacc ?_)
    exact md.keep fun d o hd e => hk d o (nin hd).2.1 (nin hd).2.2.1 (nin hd).2.2.2.1 (nin hd).2.2.2.2 e
  | succ k ih =>
    intro i s acc c Ts hk hi zat hS hacc md hb hR
    obtain ⟨hz0, hTI, ⟨x0, y0, hTO⟩, t1, t2⟩ := zat
    refine codeAny_builtin F.entry_extend_loop ?_
    rw [Around.under_plainId F.plain_extend_loop _]
    show wpAny _ A.in1 (pyNext (.ref z) >>= _) _ _ s
    refine wpAny_bind (z_next Sp D1 D2 hz0 hTI hTO t1 t2 (by omega) (by omega) fun x y g tk p1 p2 hz2 hTO2 u1 u2 hT hk2 => ?_)
    have hS2 : Ls g S acc c := hk2 S _ sS'.1 sS'.2.2.1 sS'.2.2.2.1 sS'.2.2.2.2 hS
    have md2 : Made g base [S, z, TO, i1, i2] i P1 P2 Ts := md.keep fun d o hd e => hk2 d o (nin hd).2.1 (nin hd).2.2.1 (nin hd).2.2.2.1 (nin hd).2.2.2.2 e
    have al : acc.size = i := by
      rw [← md.len, ← Array.length_toList, hacc, List.length_map]
    have hTI2 := hk2 TI _ Sp.TIz Sp.TITO Sp.TIi1 Sp.TIi2 hTI
    have nT : s.heap.objs.size ∉ Ts := fun hm => by
      obtain ⟨j, hj⟩ := List.getElem?_of_mem hm
      obtain ⟨_, _, _, _, t⟩ := md.is j _ hj
      exact Nat.lt_irrefl _ (Heap.lt_size t)
    have lt5 : ∀ d ∈ [S, z, TO, i1, i2], d < s.heap.objs.size := fun d hd => Nat.lt_of_lt_of_le (hlo d hd) hb
    have nT5 : s.heap.objs.size ∉ [S, z, TO, i1, i2] := fun hm => Nat.lt_irrefl _ (lt5 _ hm)
    have md3 := md2.add hT p1 p2 nT hb nT5
    show wpAny _ A.in1 (updateSeq S (·.push (.ref s.heap.objs.size)) >>= _) _ _ _
    refine wpAny_bind ?_
    have sk : ∀ d o, d ≠ S → g.get? d = some o → (g.update S (Obj.mapSeq (·.push (Value.ref s.heap.objs.size)))).get? d = some o := fun d o hd e => (Heap.get?_update_other _ _ (Ne.symm hd)).trans e
    have up := Heap.get?_update_self (Obj.mapSeq (·.push (Value.ref s.heap.objs.size))) (show g.get? S = some _ from hS2) rfl
    refine wpAny_updateSeq (show g.get? S = some _ from hS2) rfl (wpAny_pure ⟨plainId_quiet F.plain_extend_loop _, ih (i + 1) _ (acc.push (.ref s.heap.objs.size)) _ (Ts ++ [s.heap.objs.size]) (by omega) (by omega) ?_ up ?_ ?_ ?_ fun h' tk' acc' c' Ts' fr hS' ha' md' => ?_⟩)
      (by rw [al, sizeLine_eq]; omega) (by show (acc.push _).size ≤ sizeLine + 1; rw [Array.size_push, al, sizeLine_eq]; omega)
    · obtain ⟨v, f, hv, hzz⟩ := hz2
      obtain ⟨b, d, hTOO⟩ := hTO2
      refine ⟨⟨v, f, hv, sk _ _ (Ne.symm sS'.1) hzz⟩, sk _ _ (Ne.symm sS'.2.1) hTI2, ⟨b, d, sk _ _ (Ne.symm sS'.2.2.1) hTOO⟩, D1.frame _ _ _ u1 fun b hb o e => sk b o (fun q => s1 (q ▸ hb)) e, D2.frame _ _ _ u2 fun b hb o e => sk b o (fun q => s2 (q ▸ hb)) e⟩
    · rw [Array.toList_push, hacc, List.map_append]
      rfl
    · exact md3.keep fun d o hd e => sk d o (nin hd).1 e
    · exact Nat.le_of_lt (Nat.lt_of_le_of_lt hb (Heap.lt_size (sk _ _ (fun q => nT5 (q ▸ List.mem_cons_self)) hT)))
    · refine hR h' tk' acc' c' Ts' (fun d o hd e => fr d o hd (sk d o (nin hd).1 (hk2 d o (nin hd).2.1 (nin hd).2.2.1 (nin hd).2.2.2.1 (nin hd).2.2.2.2 e))) hS' ha' md'
theorem zl_extend (Sp : ZipSep2 z TI TO i1 i2 fp1 fp2) (D1 : PySem.Draws prog w A.in1.in1 i1 fp1 n1 P1 St1) (D2 : PySem.Draws prog w A.in1.in1 i2 fp2 n2 P2 St2) (sS : S ∉ [z, TI, TO, i1, i2]) (s1 : S ∉ fp1) (s2 : S ∉ fp2) (res : Value) (base : Addr) (hlo : ∀ d ∈ [S, z, TO, i1, i2], d < base) (n : Nat) (hn : n = min n1 n2) (hz : n ≤ 1000)
    {c₀ : Nat} (zat : Zat z TI TO i1 i2 St1 St2 0 s.heap) (hS : Ls s.heap S #[] c₀) (hb : base ≤ s.heap.objs.size)
    (hR : ∀ h' tk acc' c' Ts', (∀ c o, c ∉ [S, z, TO, i1, i2] → s.heap.get? c = some o → h'.get? c = some o) → Ls h' S acc' c' → acc'.toList = Ts'.map Value.ref → Made h' base [S, z, TO, i1, i2] n P1 P2 Ts' → R (.ok (.ret res)) { s with heap := h', toks := tk }) :
    wpAny (model prog w) A.in1 (Builtin.List.listExtendWith (.ref S) (.ref z) res)
      (fun fin s' => match fin with | .done f => R (.ok f) s' | .again c' => c'.quiet = true ∧ codeAny (model prog w) A c' R s') (fun e s' => R (.error e) s') s := by
  have sS' : S ≠ z ∧ S ≠ TI ∧ S ≠ TO ∧ S ≠ i1 ∧ S ≠ i2 := by simpa using sS
  have zty : s.TypeIs (.ref z) "zip" := zat.1.ty
  unfold Builtin.List.listExtendWith
  refine wpAny_bind (wpAny_typeOf zty ?_)
  have h1 : Builtin.List.listSameRef (.ref S) (.ref z) = false := by simp [Builtin.List.listSameRef, sS'.1]
  have h2 : (Value.type "zip" == Value.type "list") = false := by decide
  have h3 : (Value.type "zip" == Value.type "tuple") = false := by decide
  simp only [h1, h2, h3, Bool.or_false, Bool.false_eq_true, if_false]
  refine wpAny_bind (wpAny_pyIter_slot zty F.slot_zip_iter (wpAny_call_entry F.slot_zip_iter zty F.entry_zip_iter ?_ (F.args_zip_iter_1 _)))
  change wpAny (model prog w) _ (ret (.ref z)) _ _ s
  refine wpAny_pure ⟨_, rfl, "zip", _, zty, F.slot_zip_next.lookup, ?_⟩
  refine wpAny_bind (wpAny_holding ?_)
  unfold Builtin.List.listLengthHint
  refine wpAny_bind (wpAny_specialOf zty zip_no_len ?_)
  show wpAny _ A.in1 (specialOf (Value.ref z) (Str.ofString "__length_hint__") >>= _) _ _ _
  refine wpAny_bind (wpAny_specialOf zty zip_no_hint ?_)
  refine wpAny_pure ?_
  show wpAny _ A.in1 (rule "list.extend.makes-room" >>= fun _ => Builtin.List.listTouch (.ref S) >>= fun _ =>
    again (.builtin "list.extend.loop" ⟨[.ref S, .ref z, res], []⟩)) _ _ _
  refine wpAny_bind (wpAny_rule ?_)
  refine wpAny_bind ?_
  show wpAny _ A.in1 (updateSeq S (·.push .none) >>= fun _ => updateSeq S (·.pop)) _ _ _
  have hS : s.heap.get? S = some _ := hS
  refine wpAny_bind (wpAny_updateSeq hS rfl ?_)
  have hS₂ := Heap.get?_update_self (Obj.mapSeq (·.push Value.none)) hS rfl
  refine wpAny_updateSeq (hz := by seq_fits) hS₂ rfl ?_
  have hS₃ := Heap.get?_update_self (Obj.mapSeq (·.pop)) hS₂ rfl
  have oth : ∀ b o, b ≠ S → s.heap.get? b = some o → ((s.heap.update S (Obj.mapSeq (·.push Value.none))).update S (Obj.mapSeq (·.pop))).get? b = some o :=
    fun b o hb e => (Heap.get?_update_other _ _ (Ne.symm hb)).trans ((Heap.get?_update_other _ _ (Ne.symm hb)).trans e)
  obtain ⟨⟨v, f, hv, hzz⟩, hTI, ⟨x0, y0, hTO⟩, t1, t2⟩ := zat
  refine wpAny_pure ⟨plainId_quiet F.plain_extend_loop _, zl_loop Sp D1 D2 sS s1 s2 res base hlo n hn hz n 0 _ #[] _ [] rfl (Nat.zero_le _)
    ⟨⟨v, f, hv, oth _ _ (Ne.symm sS'.1) hzz⟩, oth _ _ (Ne.symm sS'.2.1) hTI, ⟨x0, y0, oth _ _ (Ne.symm sS'.2.2.1) hTO⟩, D1.frame _ _ _ t1 fun b hb o e => oth b o (fun q => s1 (q ▸ hb)) e, D2.frame _ _ _ t2 fun b hb o e => oth b o (fun q => s2 (q ▸ hb)) e⟩ hS₃ rfl ⟨rfl, List.nodup_nil, (fun _ h => nomatch h), fun j T h => by simp at h⟩ ?_ fun h' tk acc' c' Ts' fr hS' ha' md' => ?_⟩
  · refine Nat.le_trans hb ?_
    rw [(Heap.SameBut.update (a := S) (f := Obj.mapSeq (·.pop)) ..).1, (Heap.SameBut.update ..).1]
    exact Nat.le_refl _
  · exact hR h' tk acc' c' Ts' (fun d o hd e => fr d o hd (oth d o (fun q => hd (q ▸ List.mem_cons_self)) e)) hS' ha' md'
theorem zl_init (Sp : ZipSep2 z TI TO i1 i2 fp1 fp2) (D1 : PySem.Draws prog w A.in1.in1 i1 fp1 n1 P1 St1) (D2 : PySem.Draws prog w A.in1.in1 i2 fp2 n2 P2 St2) (sS : S ∉ [z, TI, TO, i1, i2]) (s1 : S ∉ fp1) (s2 : S ∉ fp2) (base : Addr) (hlo : ∀ d ∈ [S, z, TO, i1, i2], d < base) (n : Nat) (hn : n = min n1 n2) (hz : n ≤ 1000)
    (zat : Zat z TI TO i1 i2 St1 St2 0 s.heap) (hS : s.heap.get? S = some { cls := .type "list", data := .seq #[] }) (hb : base ≤ s.heap.objs.size)
    (hR : ∀ h' tk acc' c' Ts', (∀ c o, c ∉ [S, z, TO, i1, i2] → s.heap.get? c = some o → h'.get? c = some o) → Ls h' S acc' c' → acc'.toList = Ts'.map Value.ref → Made h' base [S, z, TO, i1, i2] n P1 P2 Ts' → R (.ok (.ret .none)) { s with heap := h', toks := tk }) :
    wpAny (model prog w) A.in1 (Builtin.«list.__init__» ⟨[.ref S, .ref z], []⟩)
      (fun fin s' => match fin with | .done f => R (.ok f) s' | .again c' => c'.quiet = true ∧ codeAny (model prog w) A c' R s') (fun e s' => R (.error e) s') s := by
  have sS' : S ≠ z ∧ S ≠ TI ∧ S ≠ TO ∧ S ≠ i1 ∧ S ≠ i2 := by simpa using sS
  show wpAny _ A.in1 (do let old ← Builtin.List.listItems (.ref S); Builtin.List.listUpdate (.ref S) (fun _ => #[]); letGo old.toList.reverse; Builtin.List.listExtendWith (.ref S) (.ref z) .none) _ _ s
  refine wpAny_bind ?_
  unfold Builtin.List.listItems
  refine wpAny_bind (wpAny_seqItems hS rfl (wpAny_pure ?_))
  show wpAny _ A.in1 (updateSeq S (fun _ => #[]) >>= fun _ => letGo (#[] : Array Value).toList.reverse >>= fun _ => Builtin.List.listExtendWith (.ref S) (.ref z) .none) _ _ s
  refine wpAny_bind (wpAny_updateSeq hS rfl ?_)
  have hS₂ := Heap.get?_update_self (Obj.mapSeq (fun _ => (#[] : Array Value))) hS rfl
  have oth : ∀ b o, b ≠ S → s.heap.get? b = some o → (s.heap.update S (Obj.mapSeq (fun _ => (#[] : Array Value)))).get? b = some o :=
    fun b o hb e => (Heap.get?_update_other _ _ (Ne.symm hb)).trans e
  refine wpAny_bind (wpAny_letGo ?_)
  obtain ⟨⟨v, f, hv, hzz⟩, hTI, ⟨x0, y0, hTO⟩, t1, t2⟩ := zat
  refine zl_extend Sp D1 D2 sS s1 s2 .none base hlo n hn hz ⟨⟨v, f, hv, oth _ _ (Ne.symm sS'.1) hzz⟩, oth _ _ (Ne.symm sS'.2.1) hTI, ⟨x0, y0, oth _ _ (Ne.symm sS'.2.2.1) hTO⟩, D1.frame _ _ _ t1 fun b hb o e => oth b o (fun q => s1 (q ▸ hb)) e, D2.frame _ _ _ t2 fun b hb o e => oth b o (fun q => s2 (q ▸ hb)) e⟩ hS₂ ?_ fun h' tk acc' c' Ts' fr hS' ha' md' => ?_
  · refine Nat.le_trans hb ?_
    rw [(Heap.SameBut.update ..).1]
    exact Nat.le_refl _
  · exact hR h' tk acc' c' Ts' (fun d o hd e => fr d o hd (oth d o (fun q => hd (q ▸ List.mem_cons_self)) e)) hS' ha' md'
theorem zl_call {Q : Value → Shared → Prop} {E : Value → Shared → Prop} (Sp : ZipSep2 z TI TO i1 i2 fp1 fp2) (D1 : PySem.Draws prog w A.in1.in1.in1 i1 fp1 n1 P1 St1) (D2 : PySem.Draws prog w A.in1.in1.in1 i2 fp2 n2 P2 St2) (n : Nat) (hn : n = min n1 n2) (hz : n ≤ 1000)
    (zat : Zat z TI TO i1 i2 St1 St2 0 s.heap) (lt : ∀ d ∈ [z, TI, TO, i1, i2], d < s.heap.objs.size) (l1 : ∀ d ∈ fp1, d < s.heap.objs.size) (l2 : ∀ d ∈ fp2, d < s.heap.objs.size)
    (hQ : ∀ h' tk acc' c' Ts', (∀ c o, c ∉ [z, TO, i1, i2] → s.heap.get? c = some o → h'.get? c = some o) → Ls h' s.heap.objs.size acc' c' → acc'.toList = Ts'.map Value.ref → Made h' (s.heap.objs.size + 1) [s.heap.objs.size, z, TO, i1, i2] n P1 P2 Ts' → Q (.ref s.heap.objs.size) { s with heap := h', toks := tk }) :
    wpAny (model prog w) A (call (.type "list") [.ref z]) Q E s := by
  have lt' := lt
  simp only [List.mem_cons, List.not_mem_nil, or_false, forall_eq_or_imp, forall_eq] at lt
  refine callType_codes (Q₁ := fun obj s₁ => obj = .ref s.heap.objs.size ∧ s₁ = { s with heap := s.heap.push { cls := .type "list", data := .seq #[] } }) F.called_list (F.typeCall_list_1 _) F.entry_list_init
    (code_list_new _ ⟨rfl, rfl⟩) fun obj s₁ h₁ => ?_
  obtain ⟨rfl, rfl⟩ := h₁
  have hS : (s.heap.push { cls := .type "list", data := .seq #[] }).get? s.heap.objs.size = some { cls := .type "list", data := .seq #[] } := Heap.get?_push_size _ rfl
  obtain ⟨⟨v, f, hv, hzz⟩, hTI, ⟨x0, y0, hTO⟩, t1, t2⟩ := zat
  have psz : (s.heap.push { cls := .type "list", data := .seq #[] }).objs.size = s.heap.objs.size + 1 := by
    unfold Heap.push
    rw [Array.size_push]
  refine ⟨⟨_, hS, rfl⟩, F.args_list_init_2 _ _, zl_init (A := A.in1) Sp D1 D2 (fun h => Nat.lt_irrefl _ (lt' _ h)) (fun h => Nat.lt_irrefl _ (l1 _ h)) (fun h => Nat.lt_irrefl _ (l2 _ h)) (s.heap.objs.size + 1) (fun d hd => ?_) n hn hz
    ⟨⟨v, f, hv, Heap.get?_push_of_some _ hzz⟩, Heap.get?_push_of_some _ hTI, ⟨x0, y0, Heap.get?_push_of_some _ hTO⟩, D1.frame _ _ _ t1 fun b hb o e => Heap.get?_push_of_some _ e, D2.frame _ _ _ t2 fun b hb o e => Heap.get?_push_of_some _ e⟩ hS (Nat.le_of_eq psz.symm) fun h' tk acc' c' Ts' fr hS' ha' md' => ?_⟩
  · rcases List.mem_cons.mp hd with e | e
    · rw [e]
      exact Nat.lt_succ_self _
    · exact Nat.lt_succ_of_lt (lt' d (by
        simp only [List.mem_cons, List.not_mem_nil, or_false] at e ⊢
        rcases e with e | e | e | e <;> simp [e]))
  · refine ⟨rfl, hQ h' tk acc' c' Ts' (fun d o hd e => fr d o (fun hm => ?_) (Heap.get?_push_of_some _ e)) hS' ha' md'⟩
    rcases List.mem_cons.mp hm with q | q
    · have e2 := Heap.lt_size e
      rw [q] at e2
      exact Nat.lt_irrefl _ e2
    · exact hd q
end
/-- pairs are laid, one by one -/
def tPairs : List (V × V) → Hp → (List V → Hp → Prop) → Prop
  | [], H, Q => Q [] H
  | (x, y) :: ps, H, Q => ∀ T, H T = none → tPairs ps (upd H T (.tup [x, y])) fun vs H' => Q (.ref T :: vs) H'
theorem lay_pairs {X : Cx} {pins : List (Addr × Obj)} {σ : L2.St} {s : Shared} : ∀ (ps : List (V × V)) (Ts : List Addr) (H : Hp) (Q : List V → Hp → Prop), Inv X pins σ H s → (∀ T ∈ Ts, ∀ H' : Hp, H' T = none → FpOk X pins H' T) → Ts.Nodup → (∀ T ∈ Ts, H T = none) → Ts.length = ps.length →
    (∀ (j : Nat) (T : Addr) (p : V × V), Ts[j]? = some T → ps[j]? = some p → ∃ u v : Value, RelV p.1 u ∧ RelV p.2 v ∧ IsTupOf2 s.heap T u v) → tPairs ps H Q →
    ∃ H', Inv X pins σ H' s ∧ Q (Ts.map V.ref) H' ∧ ∀ b, H b = none → b ∉ Ts → H' b = none
  | [], [], H, Q, I, _, _, _, _, _, q => ⟨H, I, q, fun _ h _ => h⟩
  | [], _ :: _, _, _, _, _, _, _, l, _, _ => by simp at l
  | _ :: _, [], _, _, _, _, _, _, l, _, _ => by simp at l
  | (x, y) :: ps, T :: Ts, H, Q, I, f, nd, nh, l, d, q => by
    obtain ⟨u, v, r1, r2, t⟩ := d 0 T (x, y) rfl rfl
    have nw := new_ok (P := X.prog) (w := X.w) (H := H) (vs := [x, y]) (us := [u, v]) t (.cons r1 (.cons r2 .nil)) (by simp)
    have hT := nh T List.mem_cons_self
    have I2 : Inv X pins σ (upd H T (.tup [x, y])) s := I.take (h' := s.heap) (t' := s.toks) (fun b ob _ e => e) (f T List.mem_cons_self H hT) nw
    rw [List.nodup_cons] at nd
    obtain ⟨H', I', q', n'⟩ := lay_pairs ps Ts (upd H T (.tup [x, y])) (fun vs H' => Q (.ref T :: vs) H') I2 (fun U hU => f U (List.mem_cons_of_mem _ hU)) nd.2 (fun U hU => by
      rw [upd_ne (fun (e : U = T) => nd.1 (by rw [← e]; exact hU))]
      exact nh U (List.mem_cons_of_mem _ hU)) (by simpa using l) (fun j U p h1 h2 => d (j + 1) U p (by simpa using h1) (by simpa using h2)) (q T hT)
    refine ⟨H', I', q', fun b hb nb => n' b ?_ fun h => nb (List.mem_cons_of_mem _ h)⟩
    rw [upd_ne (fun (e : b = T) => nb (by rw [e]; exact List.mem_cons_self))]
    exact hb
theorem vals_refs : ∀ Ts : List Addr, Vals (Ts.map V.ref) (Ts.map Value.ref)
  | [] => .nil
  | _ :: ts => .cons rfl (vals_refs ts)
theorem Kd.holds_at (k : Kd) {h h' : Heap} {a : Addr} {xs : Array Value} (e : k.holds h a xs) (f : ∀ c o, h.get? c = some o → h'.get? c = some o) : k.holds h' a xs := by
  cases k with
  | l => obtain ⟨o, q, r⟩ := e; exact ⟨o, f _ _ q, r⟩
  | t => obtain ⟨o, q, r⟩ := e; exact ⟨o, f _ _ q, r⟩
def tLstZ (K : Fg) (ta : TA) : TE := fun σ H Q => ta σ H fun vs H1 => ∃ (k1 k2 : Kd) (a b : Addr) (xs ys : List V), vs = [.ref a, .ref b] ∧ k1.sq K H1 a xs ∧ k2.sq K H1 b ys ∧ (xs.zip ys).length ≤ 1000 ∧ tPairs (xs.zip ys) H1 fun vs H2 => ∀ l, H2 l = none → Q (.ref l) (upd H2 l (.lst vs))
theorem pe_listZip {X : Cx} {e e2 : Expr} {ta : TA} {p q pos tpos : Pos} (hc : X.calm = true) (hgl : Gl X "list") (hml : X.mg "list" = none) (hg : Gl X "zip") (hm : X.mg "zip" = none) (ha : PA X [e, e2] ta)
    (hs : starEach [e, e2] X.env = (false, eval e X.env) :: starEach [e2] X.env) (hpl : (backTo tpos (starEach [e2] X.env)).any (·.1) = false)
    (na : starEach [.Call (.Name "zip" q) [e, e2] [] tpos] X.env = (false, eval (.Call (.Name "zip" q) [e, e2] [] tpos) X.env) :: starEach [] X.env := by rfl) :
    PE X (.Call (.Name "list" p) [.Call (.Name "zip" q) [e, e2] [] tpos] [] pos) (tLstZ X.K ta) := by
  refine ⟨fun pins s σ H Q I h => ?_⟩
  refine Call_ (ld_blt I hgl hml boot_list (PyProof.Rows.callWith_type1 (args_cons (Call_ (ld_blt I hg hm PyProof.Rows.boot_zip (PyProof.Rows.callWith_type1 (thn (ha.run tpos pins s σ H _ I h) ?_) hs hpl))) na) na))
  rintro us s1 ⟨vs, H1, I1, r1, k1, k2, a, b, xs, ys, rfl, hqx, hqy, hz, q⟩
  cases r1 with
  | cons r rr =>
    cases rr with
    | cons r' rr =>
      cases rr
      cases r
      cases r'
      obtain ⟨its1, rv1, p1⟩ := k1.inv I1 hqx
      obtain ⟨its2, rv2, p2⟩ := k2.inv I1 hqy
      have al := k1.lt p1
      have bl := k2.lt p2
      refine zip_begins2 (k1.starts a its1.toArray) (k2.starts b its2.toArray) p1 p2 fun h2 hz2 hTI hTO o1 o2 hsz hk => args_nil ?_
      have d1 := k1.draws (prog := X.prog) (w := X.w) (A := X.A.in1.in1.in1) (I1.ok.hd hc) s1.heap.objs.size a (Nat.ne_of_lt al) its1.toArray
      have d2 := k2.draws (prog := X.prog) (w := X.w) (A := X.A.in1.in1.in1) (I1.ok.hd hc) (s1.heap.objs.size + 1) b (Nat.ne_of_lt (Nat.lt_succ_of_lt bl)) its2.toArray
      have sz5 : ∀ d, d ∈ [s1.heap.objs.size + 4, s1.heap.objs.size + 2, s1.heap.objs.size + 3, s1.heap.objs.size, s1.heap.objs.size + 1] → s1.heap.objs.size ≤ d ∧ d < h2.objs.size := fun d hd => by
        rw [hsz]
        simp only [List.mem_cons, List.not_mem_nil, or_false] at hd
        rcases hd with rfl | rfl | rfl | rfl | rfl <;> exact ⟨by simp, by simp⟩
      have lt0 : ∀ {d : Addr}, d < s1.heap.objs.size → d < h2.objs.size := fun {d} hd => Nat.lt_of_lt_of_le hd (by rw [hsz]; exact Nat.le_add_right _ _)
      refine zl_call (z := s1.heap.objs.size + 4) (TI := s1.heap.objs.size + 2) (TO := s1.heap.objs.size + 3) (i1 := s1.heap.objs.size) (i2 := s1.heap.objs.size + 1) (sep2 _ a b al bl) d1 d2 (xs.zip ys).length ?hn hz
        ⟨⟨_, _, .inl rfl, hz2⟩, hTI, ⟨_, _, hTO⟩, ⟨k1.itr0 o1, k1.holds_at p1 hk⟩, ⟨k2.itr0 o2, k2.holds_at p2 hk⟩⟩ (fun d hd => (sz5 d hd).2) ?l1 ?l2 fun h' tk acc c Ts fr hS hacc md => ?_
      case hn =>
        have m1 : its1.toArray.size = xs.length := by rw [rv1.length]; simp
        have m2 : its2.toArray.size = ys.length := by rw [rv2.length]; simp
        rw [m1, m2, List.length_zip]
      case l1 =>
        intro d hd
        rcases List.mem_cons.mp hd with e | e
        · rw [e]
          exact (sz5 _ (by simp)).2
        · rw [List.mem_singleton.mp e]
          exact lt0 al
      case l2 =>
        intro d hd
        rcases List.mem_cons.mp hd with e | e
        · rw [e]
          exact (sz5 _ (by simp)).2
        · rw [List.mem_singleton.mp e]
          exact lt0 bl
      have frA : ∀ d o, s1.heap.get? d = some o → h'.get? d = some o := fun d o e => fr d o (fun hd => by
        have g := (sz5 d (by
          simp only [List.mem_cons, List.not_mem_nil, or_false] at hd ⊢
          rcases hd with hd | hd | hd | hd <;> simp [hd])).1
        exact Nat.lt_irrefl _ (Nat.lt_of_lt_of_le (Heap.lt_size e) g)) (hk d o e)
      have hle : s1.heap.objs.size ≤ h2.objs.size := by
        rw [hsz]
        exact Nat.le_add_right _ _
      have I2 : Inv X pins σ H1 { s1 with heap := h', toks := tk } := I1.kept frA
      have tle : ∀ T ∈ Ts, s1.heap.objs.size ≤ T := fun T hT => Nat.le_trans hle (Nat.le_of_succ_le (md.at' T hT).1)
      obtain ⟨H3, I3, q3, n3⟩ := lay_pairs (xs.zip ys) Ts H1 _ I2 (fun T hT H' hn => I1.fpOk (tle T hT) hn) md.nd (fun T hT => I1.hok.fresh (tle T hT)) md.len (fun j T pr e1 e2 => by
        obtain ⟨u, v, g1, g2, t⟩ := md.is j T e1
        obtain ⟨x, y⟩ := pr
        obtain ⟨e3, e4⟩ := List.getElem?_zip_eq_some.mp e2
        obtain ⟨u', hu', ru⟩ := rv1.get e3
        obtain ⟨v', hv', rv⟩ := rv2.get e4
        obtain rfl : u = u' := arr_get hu' g1
        obtain rfl : v = v' := arr_get hv' g2
        exact ⟨u, v, ru, rv, t⟩) q
      have nS : H3 h2.objs.size = none := n3 _ (I1.hok.fresh hle) fun hm => Nat.lt_irrefl _ (Nat.lt_of_succ_le (md.at' _ hm).1)
      have I4 : Inv X pins σ (upd H3 h2.objs.size (.lst (Ts.map V.ref))) { s1 with heap := h', toks := tk } := I3.take (h' := h') (t' := tk) (fun b ob _ e => e) (I1.fpOk hle nS) (by
        refine ⟨?_, acc.toList, c, ?_, ?_⟩
        · rw [List.length_map, md.len, sizeLine_eq]
          omega
        · rw [hacc]
          exact vals_refs Ts
        · rw [Array.toArray_toList]
          exact hS)
      exact ⟨.ref h2.objs.size, _, I4, rfl, q3 _ nS⟩
end Tg
namespace Tg
open PySem PySem.Spec PyProof.Rows L2
section
variable {K : Fg} {σ : L2.St} {H : Hp} {Q : VK}
def zsq : D → Option (List D)
  | .tup xs => some xs
  | .lst xs => some xs
  | _ => none
def eLZ (fa fb : DE) : DE := fun env st => (fa env st).bind fun p => (fb env p.2).bind fun q => (zsq p.1).bind fun xs => (zsq q.1).bind fun ys =>
  if decide (xs.length ≤ 1000) then some (.lst (pairsD xs ys), q.2) else none
theorem zsq_den {r m : List Addr} {st : Sto} {d : D} {xs : List D} {v : V} (g : Good K r m st H) (h : Den K r m H d v) (e : zsq d = some xs) : ∃ (k : Kd) (a : Addr) (vs : List V), v = .ref a ∧ k.sq K H a vs ∧ Dens K r m H xs vs := by
  cases d with
  | tup ds =>
    cases e
    obtain ⟨a, us, rfl, ia, da⟩ := h
    exact ⟨.t, a, us, rfl, ia.sq, da⟩
  | lst ds =>
    cases e
    obtain ⟨a, vs, rfl, i, n, z, dd⟩ := h
    exact ⟨.l, a, vs, rfl, SqL.of i, dd⟩
  | _ => cases e
theorem lay_dens {r m : List Addr} {st : Sto} : ∀ (ds es : List D) (us ws : List V) (H : Hp) (Q : List V → Hp → Prop), Good K r m st H → Dens K r m H ds us → Dens K r m H es ws →
    (∀ vs H2, Le m H m H2 → Good K r m st H2 → Dens K r m H2 (pairsD ds es) vs → Q vs H2) → tPairs (us.zip ws) H Q
  | [], es, us, ws, H, Q, g, d1, d2, q => by
    cases d1
    exact q [] H (Le.refl _ _) g rfl
  | d :: ds, [], us, ws, H, Q, g, d1, d2, q => by
    cases d2
    rw [List.zip_nil_right]
    exact q [] H (Le.refl _ _) g rfl
  | d :: ds, e :: es, us, ws, H, Q, g, d1, d2, q => by
    obtain ⟨u, us, rfl, du, dus⟩ := d1
    obtain ⟨w, ws, rfl, dw, dws⟩ := d2
    intro T nT
    obtain ⟨l, g2, dT⟩ := new_tuple (ds := [d, e]) (vs := [u, w]) g ⟨u, _, rfl, du, w, _, rfl, dw, rfl⟩ (by simp) (by simp) nT
    refine lay_dens ds es us ws _ _ g2 (dus.mono l) (dws.mono l) fun vs H2 l2 g3 dd => q _ H2 (l.trans l2) g3 ⟨_, _, rfl, dT.mono l2, dd⟩
theorem t_listZip {fa fb : DE} (h : tE K (eLZ fa fb) σ H Q) : tLstZ K (tAr K (aCons fa (aCons fb aNil))) σ H Q := by
  obtain ⟨r, m, st, env, d, st', g, e, f, q⟩ := h
  unfold eLZ at f
  obtain ⟨⟨x, s1⟩, f1, f⟩ := Option.bind_eq_some_iff.mp f
  obtain ⟨⟨y, s2⟩, f2, f⟩ := Option.bind_eq_some_iff.mp f
  obtain ⟨xs, f3, f⟩ := Option.bind_eq_some_iff.mp f
  obtain ⟨ys, f4, f⟩ := Option.bind_eq_some_iff.mp f
  split at f
  · next hl =>
    cases f
    have hl := of_decide_eq_true hl
    have fr : aCons fa (aCons fb aNil) env st = some ([x, y], s2) := by
      unfold aCons aNil
      rw [show fa env st = some (x, s1) from f1]
      show (Option.bind (Option.bind (fb env s1) _) _) = _
      rw [show fb env s1 = some (y, s2) from f2]
      rfl
    refine ⟨r, m, st, env, [x, y], s2, g, e, fr, fun m1 H1 vs l1 g1 d1 => ?_⟩
    obtain ⟨vx, t1, rfl, dx, vy, t2, rfl, dy, dn⟩ := d1
    cases dn
    obtain ⟨k1, a, us, rfl, z1, du⟩ := zsq_den g1 dx f3
    obtain ⟨k2, b, ws, rfl, z2, dw⟩ := zsq_den g1 dy f4
    refine ⟨k1, k2, a, b, us, ws, rfl, z1, z2, ?_, lay_dens xs ys us ws H1 _ g1 du dw fun vs H2 l2 g2 dd l nl => ?_⟩
    · rw [List.length_zip]
      have := du.len
      omega
    · have l3 : Le m1 H2 m1 (upd H2 l (.lst vs)) := le_upd nl
      refine q m1 _ (.ref l) ((l1.trans l2).trans l3) (g2.upd nl) ⟨l, _, rfl, upd_same, g2.fresh nl, ?_, dd.mono l3⟩
      rw [← dd.len, pairsD_length, sizeLine_eq]
      omega
  · cases f
end
end Tg
namespace Tg
open PySem PySem.Spec PyProof.Rows L2
section
variable {K : Fg} {σ : L2.St} {H : Hp} {Q : VK}
/-- the last item, taken off -/
def ePop0 (fo : DE) : DE := fun env st => (fo env st).bind fun p => match p.1 with
  | .loc n => (p.2[n]?).bind fun xs => (xs[xs.length - 1]?).map fun y => (y, p.2.set n xs.dropLast)
  | _ => none
theorem Dens.dropLast {r m : List Addr} : ∀ {ds : List D} {vs : List V}, Dens K r m H ds vs → Dens K r m H ds.dropLast vs.dropLast
  | [], _, h => by cases h; rfl
  | [_], _, h => by
    obtain ⟨v, t, rfl, a, b⟩ := h
    cases b
    rfl
  | x :: y :: ds, _, h => by
    obtain ⟨v, t, rfl, a, b⟩ := h
    obtain ⟨v2, t2, rfl, a2, b2⟩ := id b
    exact ⟨v, _, rfl, a, Dens.dropLast b⟩
theorem t_pop0 {fo : DE} (h : tE K (ePop0 fo) σ H Q) : tBM0 K "list" rPop (tE K fo) σ H Q := by
  obtain ⟨r, m, st, env, d, st', g, e, f, q⟩ := h
  unfold ePop0 at f
  obtain ⟨⟨x, s1⟩, f1, f⟩ := Option.bind_eq_some_iff.mp f
  dsimp only at f
  split at f
  · next n =>
    obtain ⟨xs, f3, f⟩ := Option.bind_eq_some_iff.mp f
    obtain ⟨w, f4, f⟩ := Option.map_eq_some_iff.mp f
    cases f
    refine ⟨r, m, st, env, _, s1, g, e, f1, fun m1 H1 v1 l1 g1 d1 => ⟨ty_loc g1 d1, ?_⟩⟩
    obtain ⟨a, rfl, ha, ys0, hy0⟩ := d1
    obtain ⟨us, h1, z, dd⟩ := g1.cellL ha f3 hy0
    obtain ⟨w2, e4, d4⟩ := dd.get f4
    have ul : us.dropLast.length ≤ sizeLine := by
      rw [List.length_dropLast]
      omega
    obtain ⟨l3, g3⟩ := g1.put (xs := us.dropLast) (c := xs.dropLast) ha h1 ul dd.dropLast
    exact ⟨a, us, w2, rfl, rfl, h1, by rw [← dd.len]; exact e4, q m1 _ _ (l1.trans l3) g3 (d4.mono l3)⟩
  · cases f
/-- d.get(k, x) -/
def eGet2 (fo fk fx : DE) : DE := fun env st => (fo env st).bind fun p => match p.1 with
  | .cel .dct n => (dictOf p.2 n).bind fun _ => (fk env p.2).bind fun k => (fx env k.2).bind fun x => (dictOf x.2 n).bind fun q => (keyD k.1).map fun key => ((valD q.1 q.2 key).getD x.1, x.2)
  | _ => none
theorem t_get2 {fo fk fx : DE} (h : tE K (eGet2 fo fk fx) σ H Q) : tDGet2 (tE K fo) (tE K fk) (tE K fx) σ H Q := by
  obtain ⟨r, m, st, env, d, st', g, e, f, q⟩ := h
  unfold eGet2 at f
  obtain ⟨⟨x, s1⟩, f1, f⟩ := Option.bind_eq_some_iff.mp f
  dsimp only at f
  split at f
  · next n =>
    obtain ⟨⟨ks0, ds0⟩, f0, f⟩ := Option.bind_eq_some_iff.mp f
    obtain ⟨⟨k, s2⟩, f2, f⟩ := Option.bind_eq_some_iff.mp f
    obtain ⟨⟨y, s3⟩, f3, f⟩ := Option.bind_eq_some_iff.mp f
    obtain ⟨⟨ks, ds⟩, f4, f⟩ := Option.bind_eq_some_iff.mp f
    obtain ⟨key, f5, f⟩ := Option.map_eq_some_iff.mp f
    cases f
    refine ⟨r, m, st, env, _, s1, g, e, f1, fun m1 H1 v1 l1 g1 d1 => ?_⟩
    obtain ⟨a, vs0, rfl, _, rd0, _, _, _⟩ := dict_cell g1 d1 f0
    refine ⟨a, rfl, .inl ⟨_, rd0⟩, r, m1, s1, env, _, s2, g1, e.mono l1, f2, fun m2 H2 v2 l2 g2 d2 => ?_⟩
    refine ⟨r, m2, s2, env, _, _, g2, e.mono (l1.trans l2), f3, fun m3 H3 v3 l3 g3 d3 => ?_⟩
    obtain ⟨a', vs, ea, _, rd, _, _, dd⟩ := dict_cell g3 ((d1.mono l2).mono l3) f4
    cases ea
    have ek := key_den (d2.mono l3) f5
    obtain ⟨i1, i2⟩ := val_den (k := key) (ks := ks) dd
    refine ⟨valV (ks.zip vs) key, .inl ⟨_, key, rd, ek, rfl⟩, ?_⟩
    cases hv : valD ks ds key with
    | some w =>
      obtain ⟨u, hu, du⟩ := i1 w hv
      rw [hu]
      rw [hv] at q
      exact q m3 H3 u ((l1.trans l2).trans l3) g3 du
    | none =>
      rw [hv] at i2
      cases hu : valV (ks.zip vs) key with
      | some u => rw [hu] at i2; cases i2
      | none =>
        rw [hv] at q
        exact q m3 H3 v3 ((l1.trans l2).trans l3) g3 d3
  · cases f
/-- x.upper() -/
def eUpper (fo : DE) : DE := fun env st => (fo env st).bind fun p => match p.1 with
  | .str a => if decide (a.length ≤ 1000000) then some (.str (Txt.upper a), p.2) else none
  | _ => none
def rUpper : V → List V → Hp → VK → Prop := fun x xs H Q => ∃ a, x = .str a ∧ xs = [] ∧ a.length ≤ 5592405 ∧ Q (.str (Txt.upper a)) H
theorem t_upper {fo : DE} (h : tE K (eUpper fo) σ H Q) : tM0 rUpper (tE K fo) σ H Q := by
  obtain ⟨r, m, st, env, d, st', g, e, f, q⟩ := h
  unfold eUpper at f
  obtain ⟨⟨x, s1⟩, f1, f⟩ := Option.bind_eq_some_iff.mp f
  dsimp only at f
  split at f
  · next a =>
    split at f
    · next hz =>
      cases f
      have hz := of_decide_eq_true hz
      refine ⟨r, m, st, env, _, _, g, e, f1, fun m1 H1 v1 l1 g1 d1 => ?_⟩
      cases d1
      exact ⟨⟨a, rfl⟩, a, rfl, rfl, by omega, q m1 H1 _ l1 g1 rfl⟩
    · cases f
  · cases f
end
end Tg
namespace Tg
open PySem PySem.Spec PyProof.Rows L2
abbrev Tu4 (h : Heap) (T : Addr) (a1 a2 a3 a4 : Value) : Prop := h.get? T = some { cls := .type "tuple", data := .seq #[a1, a2, a3, a4] }
structure Sep4 (z TI TO i1 i2 i3 i4 : Addr) (f1 f2 f3 f4 : List Addr) : Prop where
  t1 : TI ≠ z
  t2 : TO ≠ z
  t3 : TI ≠ TO
  u1 : TI ≠ i1
  m1 : i1 ∈ f1
  z1 : z ∉ f1
  o1 : TO ∉ f1
  u2 : TI ≠ i2
  m2 : i2 ∈ f2
  z2 : z ∉ f2
  o2 : TO ∉ f2
  u3 : TI ≠ i3
  m3 : i3 ∈ f3
  z3 : z ∉ f3
  o3 : TO ∉ f3
  u4 : TI ≠ i4
  m4 : i4 ∈ f4
  z4 : z ∉ f4
  o4 : TO ∉ f4
  s12 : i1 ∉ f2
  s13 : i1 ∉ f3
  s14 : i1 ∉ f4
  s21 : i2 ∉ f1
  s23 : i2 ∉ f3
  s24 : i2 ∉ f4
  s31 : i3 ∉ f1
  s32 : i3 ∉ f2
  s34 : i3 ∉ f4
  s41 : i4 ∉ f1
  s42 : i4 ∉ f2
  s43 : i4 ∉ f3
section
variable {prog : Program} {w : World} {A : Around} {E : Value → Shared → Prop} {s : Shared} {z TI TO i1 i2 i3 i4 : Addr} {f1 f2 f3 f4 : List Addr} {n1 n2 n3 n4 k : Nat} {P1 P2 P3 P4 : Nat → Value → Prop} {S1 S2 S3 S4 : Nat → Heap → Prop} {a1 a2 a3 a4 : Value}
theorem Sep4.zi1 (D : Sep4 z TI TO i1 i2 i3 i4 f1 f2 f3 f4) : z ≠ i1 := fun e => D.z1 (by rw [e]; exact D.m1)
theorem Sep4.ti1 (D : Sep4 z TI TO i1 i2 i3 i4 f1 f2 f3 f4) : TO ≠ i1 := fun e => D.o1 (by rw [e]; exact D.m1)
theorem Sep4.zi2 (D : Sep4 z TI TO i1 i2 i3 i4 f1 f2 f3 f4) : z ≠ i2 := fun e => D.z2 (by rw [e]; exact D.m2)
theorem Sep4.ti2 (D : Sep4 z TI TO i1 i2 i3 i4 f1 f2 f3 f4) : TO ≠ i2 := fun e => D.o2 (by rw [e]; exact D.m2)
theorem Sep4.zi3 (D : Sep4 z TI TO i1 i2 i3 i4 f1 f2 f3 f4) : z ≠ i3 := fun e => D.z3 (by rw [e]; exact D.m3)
theorem Sep4.ti3 (D : Sep4 z TI TO i1 i2 i3 i4 f1 f2 f3 f4) : TO ≠ i3 := fun e => D.o3 (by rw [e]; exact D.m3)
theorem Sep4.zi4 (D : Sep4 z TI TO i1 i2 i3 i4 f1 f2 f3 f4) : z ≠ i4 := fun e => D.z4 (by rw [e]; exact D.m4)
theorem Sep4.ti4 (D : Sep4 z TI TO i1 i2 i3 i4 f1 f2 f3 f4) : TO ≠ i4 := fun e => D.o4 (by rw [e]; exact D.m4)
theorem upd_Tu4 {T : Addr} {x : Value} {j : Nat} {Q : Unit → Shared → Prop} (hT : Tu4 s.heap T a1 a2 a3 a4)
    (h : ∀ h', h'.get? T = some { cls := .type "tuple", data := .seq ((#[a1, a2, a3, a4] : Array Value).setIfInBounds j x) } → Heap.SameBut T s.heap h' → Q () { s with heap := h' }) : wpAny (model prog w) A (updateSeq T (·.setIfInBounds j x)) Q E s := by
  refine wpAny_updateSeq hT rfl (h _ (?_ : _ = _) (Heap.SameBut.update ..))
  rw [Heap.get?_update_self _ hT rfl]; simp [Obj.mapSeq]
theorem z4_item {Q : Value → Shared → Prop} (S : Sep4 z TI TO i1 i2 i3 i4 f1 f2 f3 f4) (D1 : PySem.Draws prog w A i1 f1 n1 P1 S1) (D2 : PySem.Draws prog w A i2 f2 n2 P2 S2) (D3 : PySem.Draws prog w A i3 f3 n3 P3 S3) (D4 : PySem.Draws prog w A i4 f4 n4 P4 S4) (pz : IsZip s.heap z TI TO .none) (pT : Tu4 s.heap TI (.ref i1) (.ref i2) (.ref i3) (.ref i4)) (pO : Tu4 s.heap TO a1 a2 a3 a4) (st1 : S1 k s.heap) (st2 : S2 k s.heap) (st3 : S3 k s.heap) (st4 : S4 k s.heap) (l1 : k < n1) (l2 : k < n2) (l3 : k < n3) (l4 : k < n4)
    (hQ : ∀ x1 x2 x3 x4 h' tk, P1 k x1 → P2 k x2 → P3 k x3 → P4 k x4 → IsZip h' z TI TO (rawInt s.heap.objs.size) → Tu4 h' TO x1 x2 x3 x4 → S1 (k + 1) h' → S2 (k + 1) h' → S3 (k + 1) h' → S4 (k + 1) h' → Tu4 h' s.heap.objs.size x1 x2 x3 x4 → h'.objs.size = s.heap.objs.size + 1 → (∀ c o, c ≠ z → c ≠ TO → c ≠ i1 → c ≠ i2 → c ≠ i3 → c ≠ i4 → s.heap.get? c = some o → h'.get? c = some o) → Q (.ref s.heap.objs.size) { s with heap := h', toks := tk }) :
    wpAny (model prog w) A (Builtin.«zip.__next__» ⟨[.ref z], []⟩) (fun fin s' => ∃ v, fin = .done (.ret v) ∧ Q v s') E s := by
  obtain ⟨hp, gg, dd, tk0, os⟩ := s
  show wpAny _ _ (field (.ref z) 2 >>= _) _ _ _; refine wpAny_bind (wpAny_field pz rfl (x := .bool false) rfl ?_)
  show wpAny _ _ (field (.ref z) 3 >>= _) _ _ _; refine wpAny_bind (wpAny_field pz rfl (x := .ref TI) rfl ?_)
  refine wpAny_bind (wpAny_seqItems pT rfl ?_); show wpAny _ _ (Builtin.SmallTypes.ownedTupleIsFree (.ref z) >>= _) _ _ _
  refine wpAny_bind ?_; unfold Builtin.SmallTypes.ownedTupleIsFree
  refine wpAny_bind (wpAny_field pz rfl (x := .none) rfl (wpAny_pure ?_)); simp only [if_true]
  refine wpAny_bind (wpAny_rule ?_); refine wpAny_bind (wpAny_field pz rfl (x := .ref TO) rfl ?_)
  refine wpAny_bind (wpAny_setField_rec pz (by simp) fun g0 z0 b0 => ?_); replace z0 : IsZip g0 z TI TO .ellipsis := z0
  replace b0 : Heap.SameBut z hp g0 := b0; refine wpAny_bind ?_
  simp only [List.zipIdx_cons, List.zipIdx_nil, List.forIn_cons, List.forIn_nil]; refine wpAny_bind (wpAny_bind (wpAny_onRaise ?_))
  show wpAny _ _ (Builtin.SmallTypes.nextOf (.ref i1) >>= _) _ _ ⟨g0, gg, dd, tk0, os⟩
  refine wpAny_bind (D1.item k _ _ _ l1 (D1.over st1 b0 S.z1) fun x1 p1 tk1 hx1 sn1 q1 => wpAny_pure ?_); replace q1 : Heap.SameBut i1 g0 p1 := q1
  have v1 : Tu4 p1 TO a1 a2 a3 a4 := q1.extBut _ _ S.ti1 (b0.extBut _ _ S.t2 pO)
  refine wpAny_bind (wpAny_seqItems (s := ⟨p1, gg, dd, tk1, os⟩) v1 rfl ?_)
  refine wpAny_bind (upd_Tu4 (s := ⟨p1, gg, dd, tk1, os⟩) v1 fun g1 w1 b1 => ?_)
  replace w1 : Tu4 g1 TO x1 a2 a3 a4 := w1; replace b1 : Heap.SameBut TO p1 g1 := b1
  refine wpAny_bind (wpAny_letGo (wpAny_pure ?_)); refine wpAny_bind (wpAny_bind (wpAny_onRaise ?_))
  show wpAny _ _ (Builtin.SmallTypes.nextOf (.ref i2) >>= _) _ _ ⟨g1, gg, dd, tk1, os⟩
  refine wpAny_bind (D2.item k _ _ _ l2 (D2.over (D2.over (D2.over st2 b0 S.z2) q1 S.s12) b1 S.o2) fun x2 p2 tk2 hx2 sn2 q2 => wpAny_pure ?_); replace q2 : Heap.SameBut i2 g1 p2 := q2
  have v2 : Tu4 p2 TO x1 a2 a3 a4 := q2.extBut _ _ S.ti2 w1
  refine wpAny_bind (wpAny_seqItems (s := ⟨p2, gg, dd, tk2, os⟩) v2 rfl ?_)
  refine wpAny_bind (upd_Tu4 (s := ⟨p2, gg, dd, tk2, os⟩) v2 fun g2 w2 b2 => ?_)
  replace w2 : Tu4 g2 TO x1 x2 a3 a4 := w2; replace b2 : Heap.SameBut TO p2 g2 := b2
  refine wpAny_bind (wpAny_letGo (wpAny_pure ?_)); refine wpAny_bind (wpAny_bind (wpAny_onRaise ?_))
  show wpAny _ _ (Builtin.SmallTypes.nextOf (.ref i3) >>= _) _ _ ⟨g2, gg, dd, tk2, os⟩
  refine wpAny_bind (D3.item k _ _ _ l3 (D3.over (D3.over (D3.over (D3.over (D3.over st3 b0 S.z3) q1 S.s13) b1 S.o3) q2 S.s23) b2 S.o3) fun x3 p3 tk3 hx3 sn3 q3 => wpAny_pure ?_); replace q3 : Heap.SameBut i3 g2 p3 := q3
  have v3 : Tu4 p3 TO x1 x2 a3 a4 := q3.extBut _ _ S.ti3 w2
  refine wpAny_bind (wpAny_seqItems (s := ⟨p3, gg, dd, tk3, os⟩) v3 rfl ?_)
  refine wpAny_bind (upd_Tu4 (s := ⟨p3, gg, dd, tk3, os⟩) v3 fun g3 w3 b3 => ?_)
  replace w3 : Tu4 g3 TO x1 x2 x3 a4 := w3; replace b3 : Heap.SameBut TO p3 g3 := b3
  refine wpAny_bind (wpAny_letGo (wpAny_pure ?_)); refine wpAny_bind (wpAny_bind (wpAny_onRaise ?_))
  show wpAny _ _ (Builtin.SmallTypes.nextOf (.ref i4) >>= _) _ _ ⟨g3, gg, dd, tk3, os⟩
  refine wpAny_bind (D4.item k _ _ _ l4 (D4.over (D4.over (D4.over (D4.over (D4.over (D4.over (D4.over st4 b0 S.z4) q1 S.s14) b1 S.o4) q2 S.s24) b2 S.o4) q3 S.s34) b3 S.o4) fun x4 p4 tk4 hx4 sn4 q4 => wpAny_pure ?_); replace q4 : Heap.SameBut i4 g3 p4 := q4
  have v4 : Tu4 p4 TO x1 x2 x3 a4 := q4.extBut _ _ S.ti4 w3
  refine wpAny_bind (wpAny_seqItems (s := ⟨p4, gg, dd, tk4, os⟩) v4 rfl ?_)
  refine wpAny_bind (upd_Tu4 (s := ⟨p4, gg, dd, tk4, os⟩) v4 fun g4 w4 b4 => ?_)
  replace w4 : Tu4 g4 TO x1 x2 x3 x4 := w4; replace b4 : Heap.SameBut TO p4 g4 := b4
  refine wpAny_bind (wpAny_letGo (wpAny_pure (wpAny_pure ?_)))
  refine wpAny_bind (wpAny_seqItems (s := ⟨g4, gg, dd, tk4, os⟩) w4 rfl ?_); refine wpAny_bind (wpAny_newTuple ?_)
  have hsz : g4.objs.size = hp.objs.size := by rw [b4.1, q4.1, b3.1, q3.1, b2.1, q2.1, b1.1, q1.1, b0.1]
  have hzz : IsZip g4 z TI TO .ellipsis := (b4.extBut _ _ S.t2.symm (q4.extBut _ _ S.zi4 (b3.extBut _ _ S.t2.symm (q3.extBut _ _ S.zi3 (b2.extBut _ _ S.t2.symm (q2.extBut _ _ S.zi2 (b1.extBut _ _ S.t2.symm (q1.extBut _ _ S.zi1 z0))))))))
  have hkk : ∀ c o, c ≠ z → c ≠ TO → c ≠ i1 → c ≠ i2 → c ≠ i3 → c ≠ i4 → hp.get? c = some o → g4.get? c = some o := fun c o cz cT c1 c2 c3 c4 e => (b4.extBut _ _ cT (q4.extBut _ _ c4 (b3.extBut _ _ cT (q3.extBut _ _ c3 (b2.extBut _ _ cT (q2.extBut _ _ c2 (b1.extBut _ _ cT (q1.extBut _ _ c1 (b0.extBut _ _ cz e)))))))))
  have j1 : S1 (k + 1) g4 := (D1.over (D1.over (D1.over (D1.over (D1.over (D1.over (D1.over sn1 b1 S.o1) q2 S.s21) b2 S.o1) q3 S.s31) b3 S.o1) q4 S.s41) b4 S.o1)
  have j2 : S2 (k + 1) g4 := (D2.over (D2.over (D2.over (D2.over (D2.over sn2 b2 S.o2) q3 S.s32) b3 S.o2) q4 S.s42) b4 S.o2)
  have j3 : S3 (k + 1) g4 := (D3.over (D3.over (D3.over sn3 b3 S.o3) q4 S.s43) b4 S.o3)
  have j4 : S4 (k + 1) g4 := (D4.over sn4 b4 S.o4)
  have zlt : z < g4.objs.size := Heap.lt_size hzz
  show wpAny _ _ (Builtin.SmallTypes.ownedTupleHandOut (.ref z) (.ref g4.objs.size) >>= _) _ _ ⟨g4.push { cls := .type "tuple", data := .seq #[x1, x2, x3, x4] }, gg, dd, tk4, os⟩
  refine wpAny_bind ?_; unfold Builtin.SmallTypes.ownedTupleHandOut
  have y6 : IsZip (g4.push { cls := .type "tuple", data := .seq #[x1, x2, x3, x4] }) z TI TO .ellipsis := Heap.get?_push_of_some _ hzz
  refine wpAny_bind (wpAny_setField_rec y6 (by simp) fun h7 y7 e7 => ?_); replace y7 : IsZip h7 z TI TO (rawInt g4.objs.size) := y7
  refine wpAny_setField_rec y7 (by simp) fun h8 y8 e8 => ?_; replace y8 : IsZip h8 z TI TO (rawInt g4.objs.size) := y8
  replace e7 : Heap.SameBut z (g4.push { cls := .type "tuple", data := .seq #[x1, x2, x3, x4] }) h7 := e7; replace e8 : Heap.SameBut z h7 h8 := e8
  have up : ∀ c o, c ≠ z → g4.get? c = some o → h8.get? c = some o := fun c o c1 e => e8.extBut _ _ c1 (e7.extBut _ _ c1 (Heap.get?_push_of_some _ e))
  have t8 : Tu4 h8 g4.objs.size x1 x2 x3 x4 := e8.extBut _ _ (Nat.ne_of_gt zlt) (e7.extBut _ _ (Nat.ne_of_gt zlt) (Heap.get?_push_size _ rfl))
  have z8 : h8.objs.size = g4.objs.size + 1 := by rw [e8.1, e7.1, Heap.size_push]
  rw [hsz] at y8 t8 z8
  refine wpAny_pure ⟨_, rfl, ?_⟩; show Q (.ref g4.objs.size) ⟨h8, gg, dd, tk4, os⟩; rw [hsz]
  exact hQ x1 x2 x3 x4 h8 tk4 hx1 hx2 hx3 hx4 y8 (up _ _ S.t2 w4) (D1.frame _ _ _ j1 fun b hb o e => up b o (fun q => S.z1 (q ▸ hb)) e) (D2.frame _ _ _ j2 fun b hb o e => up b o (fun q => S.z2 (q ▸ hb)) e) (D3.frame _ _ _ j3 fun b hb o e => up b o (fun q => S.z3 (q ▸ hb)) e) (D4.frame _ _ _ j4 fun b hb o e => up b o (fun q => S.z4 (q ▸ hb)) e) t8 z8 fun c o cz cT c1 c2 c3 c4 e => up c o cz (hkk c o cz cT c1 c2 c3 c4 e)
theorem z4_end {Q : PySem.Fin → Shared → Prop} (S : Sep4 z TI TO i1 i2 i3 i4 f1 f2 f3 f4) (D1 : PySem.Draws prog w A i1 f1 n1 P1 S1) (D2 : PySem.Draws prog w A i2 f2 n2 P2 S2) (D3 : PySem.Draws prog w A i3 f3 n3 P3 S3) (D4 : PySem.Draws prog w A i4 f4 n4 P4 S4) (pz : IsZip s.heap z TI TO .none) (pT : Tu4 s.heap TI (.ref i1) (.ref i2) (.ref i3) (.ref i4)) (pO : Tu4 s.heap TO a1 a2 a3 a4) (st1 : S1 k s.heap) (st2 : S2 k s.heap) (st3 : S3 k s.heap) (st4 : S4 k s.heap) (l1 : k ≤ n1) (l2 : k ≤ n2) (l3 : k ≤ n3) (l4 : k ≤ n4) (hend : k = n1 ∨ k = n2 ∨ k = n3 ∨ k = n4)
    (hE : ∀ h' tk e, (∀ c o, c ≠ z → c ≠ TO → c ≠ i1 → c ≠ i2 → c ≠ i3 → c ≠ i4 → s.heap.get? c = some o → h'.get? c = some o) → (∃ o, h'.get? e = some o ∧ o.cls = .type "StopIteration") → E (.ref e) { s with heap := h', toks := tk }) : wpAny (model prog w) A (Builtin.«zip.__next__» ⟨[.ref z], []⟩) Q E s := by
  obtain ⟨hp, gg, dd, tk0, os⟩ := s
  show wpAny _ _ (field (.ref z) 2 >>= _) _ _ _; refine wpAny_bind (wpAny_field pz rfl (x := .bool false) rfl ?_)
  show wpAny _ _ (field (.ref z) 3 >>= _) _ _ _; refine wpAny_bind (wpAny_field pz rfl (x := .ref TI) rfl ?_)
  refine wpAny_bind (wpAny_seqItems pT rfl ?_); show wpAny _ _ (Builtin.SmallTypes.ownedTupleIsFree (.ref z) >>= _) _ _ _
  refine wpAny_bind ?_; unfold Builtin.SmallTypes.ownedTupleIsFree
  refine wpAny_bind (wpAny_field pz rfl (x := .none) rfl (wpAny_pure ?_)); simp only [if_true]
  refine wpAny_bind (wpAny_rule ?_); refine wpAny_bind (wpAny_field pz rfl (x := .ref TO) rfl ?_)
  refine wpAny_bind (wpAny_setField_rec pz (by simp) fun g0 z0 b0 => ?_); replace z0 : IsZip g0 z TI TO .ellipsis := z0
  replace b0 : Heap.SameBut z hp g0 := b0; refine wpAny_bind ?_
  simp only [List.zipIdx_cons, List.zipIdx_nil, List.forIn_cons, List.forIn_nil]; refine wpAny_bind (wpAny_bind (wpAny_onRaise ?_))
  by_cases k1 : k < n1
  · show wpAny _ _ (Builtin.SmallTypes.nextOf (.ref i1) >>= _) _ _ ⟨g0, gg, dd, tk0, os⟩
    refine wpAny_bind (D1.item k _ _ _ k1 (D1.over st1 b0 S.z1) fun x1 p1 tk1 hx1 sn1 q1 => wpAny_pure ?_); replace q1 : Heap.SameBut i1 g0 p1 := q1
    have v1 : Tu4 p1 TO a1 a2 a3 a4 := q1.extBut _ _ S.ti1 (b0.extBut _ _ S.t2 pO)
    refine wpAny_bind (wpAny_seqItems (s := ⟨p1, gg, dd, tk1, os⟩) v1 rfl ?_)
    refine wpAny_bind (upd_Tu4 (s := ⟨p1, gg, dd, tk1, os⟩) v1 fun g1 w1 b1 => ?_)
    replace w1 : Tu4 g1 TO x1 a2 a3 a4 := w1; replace b1 : Heap.SameBut TO p1 g1 := b1
    refine wpAny_bind (wpAny_letGo (wpAny_pure ?_)); refine wpAny_bind (wpAny_bind (wpAny_onRaise ?_))
    by_cases k2 : k < n2
    · show wpAny _ _ (Builtin.SmallTypes.nextOf (.ref i2) >>= _) _ _ ⟨g1, gg, dd, tk1, os⟩
      refine wpAny_bind (D2.item k _ _ _ k2 (D2.over (D2.over (D2.over st2 b0 S.z2) q1 S.s12) b1 S.o2) fun x2 p2 tk2 hx2 sn2 q2 => wpAny_pure ?_); replace q2 : Heap.SameBut i2 g1 p2 := q2
      have v2 : Tu4 p2 TO x1 a2 a3 a4 := q2.extBut _ _ S.ti2 w1
      refine wpAny_bind (wpAny_seqItems (s := ⟨p2, gg, dd, tk2, os⟩) v2 rfl ?_)
      refine wpAny_bind (upd_Tu4 (s := ⟨p2, gg, dd, tk2, os⟩) v2 fun g2 w2 b2 => ?_)
      replace w2 : Tu4 g2 TO x1 x2 a3 a4 := w2; replace b2 : Heap.SameBut TO p2 g2 := b2
      refine wpAny_bind (wpAny_letGo (wpAny_pure ?_)); refine wpAny_bind (wpAny_bind (wpAny_onRaise ?_))
      by_cases k3 : k < n3
      · show wpAny _ _ (Builtin.SmallTypes.nextOf (.ref i3) >>= _) _ _ ⟨g2, gg, dd, tk2, os⟩
        refine wpAny_bind (D3.item k _ _ _ k3 (D3.over (D3.over (D3.over (D3.over (D3.over st3 b0 S.z3) q1 S.s13) b1 S.o3) q2 S.s23) b2 S.o3) fun x3 p3 tk3 hx3 sn3 q3 => wpAny_pure ?_); replace q3 : Heap.SameBut i3 g2 p3 := q3
        have v3 : Tu4 p3 TO x1 x2 a3 a4 := q3.extBut _ _ S.ti3 w2
        refine wpAny_bind (wpAny_seqItems (s := ⟨p3, gg, dd, tk3, os⟩) v3 rfl ?_)
        refine wpAny_bind (upd_Tu4 (s := ⟨p3, gg, dd, tk3, os⟩) v3 fun g3 w3 b3 => ?_)
        replace w3 : Tu4 g3 TO x1 x2 x3 a4 := w3; replace b3 : Heap.SameBut TO p3 g3 := b3
        refine wpAny_bind (wpAny_letGo (wpAny_pure ?_)); refine wpAny_bind (wpAny_bind (wpAny_onRaise ?_))
        have he4 : k = n4 := by omega
        show wpAny _ _ (Builtin.SmallTypes.nextOf (.ref i4) >>= _) _ _ ⟨g3, gg, dd, tk3, os⟩
        refine wpAny_bind (D4.done ⟨g3, gg, dd, tk3, os⟩ _ _ (by rw [← he4]; exact (D4.over (D4.over (D4.over (D4.over (D4.over (D4.over (D4.over st4 b0 S.z4) q1 S.s14) b1 S.o4) q2 S.s24) b2 S.o4) q3 S.s34) b3 S.o4)) fun q e hq he => ?_)
        replace hq : Heap.ExtBut i4 g3 q := hq; obtain ⟨oe, hoe, hce⟩ := he; replace hoe : q.get? e = some oe := hoe
        have zq : IsZip q z TI TO .ellipsis := hq _ _ S.zi4 (b3.extBut _ _ S.t2.symm (q3.extBut _ _ S.zi3 (b2.extBut _ _ S.t2.symm (q2.extBut _ _ S.zi2 (b1.extBut _ _ S.t2.symm (q1.extBut _ _ S.zi1 z0))))))
        have ez : e ≠ z := fun x => by subst x; rw [zq] at hoe; cases hoe; simp at hce
        refine wpAny_setField_rec (s := ⟨q, gg, dd, tk3, os⟩) zq (by simp) fun r _ hr => ?_; replace hr : Heap.SameBut z q r := hr
        exact hE r tk3 e (fun c o cz cT c1 c2 c3 c4 x => hr.extBut _ _ cz (hq _ _ c4 (b3.extBut _ _ cT (q3.extBut _ _ c3 (b2.extBut _ _ cT (q2.extBut _ _ c2 (b1.extBut _ _ cT (q1.extBut _ _ c1 (b0.extBut _ _ cz x))))))))) ⟨oe, hr.extBut _ _ ez hoe, hce⟩
      · have he3 : k = n3 := by omega
        show wpAny _ _ (Builtin.SmallTypes.nextOf (.ref i3) >>= _) _ _ ⟨g2, gg, dd, tk2, os⟩
        refine wpAny_bind (D3.done ⟨g2, gg, dd, tk2, os⟩ _ _ (by rw [← he3]; exact (D3.over (D3.over (D3.over (D3.over (D3.over st3 b0 S.z3) q1 S.s13) b1 S.o3) q2 S.s23) b2 S.o3)) fun q e hq he => ?_)
        replace hq : Heap.ExtBut i3 g2 q := hq; obtain ⟨oe, hoe, hce⟩ := he; replace hoe : q.get? e = some oe := hoe
        have zq : IsZip q z TI TO .ellipsis := hq _ _ S.zi3 (b2.extBut _ _ S.t2.symm (q2.extBut _ _ S.zi2 (b1.extBut _ _ S.t2.symm (q1.extBut _ _ S.zi1 z0))))
        have ez : e ≠ z := fun x => by subst x; rw [zq] at hoe; cases hoe; simp at hce
        refine wpAny_setField_rec (s := ⟨q, gg, dd, tk2, os⟩) zq (by simp) fun r _ hr => ?_; replace hr : Heap.SameBut z q r := hr
        exact hE r tk2 e (fun c o cz cT c1 c2 c3 c4 x => hr.extBut _ _ cz (hq _ _ c3 (b2.extBut _ _ cT (q2.extBut _ _ c2 (b1.extBut _ _ cT (q1.extBut _ _ c1 (b0.extBut _ _ cz x))))))) ⟨oe, hr.extBut _ _ ez hoe, hce⟩
    · have he2 : k = n2 := by omega
      show wpAny _ _ (Builtin.SmallTypes.nextOf (.ref i2) >>= _) _ _ ⟨g1, gg, dd, tk1, os⟩
      refine wpAny_bind (D2.done ⟨g1, gg, dd, tk1, os⟩ _ _ (by rw [← he2]; exact (D2.over (D2.over (D2.over st2 b0 S.z2) q1 S.s12) b1 S.o2)) fun q e hq he => ?_)
      replace hq : Heap.ExtBut i2 g1 q := hq; obtain ⟨oe, hoe, hce⟩ := he; replace hoe : q.get? e = some oe := hoe
      have zq : IsZip q z TI TO .ellipsis := hq _ _ S.zi2 (b1.extBut _ _ S.t2.symm (q1.extBut _ _ S.zi1 z0))
      have ez : e ≠ z := fun x => by subst x; rw [zq] at hoe; cases hoe; simp at hce
      refine wpAny_setField_rec (s := ⟨q, gg, dd, tk1, os⟩) zq (by simp) fun r _ hr => ?_; replace hr : Heap.SameBut z q r := hr
      exact hE r tk1 e (fun c o cz cT c1 c2 c3 c4 x => hr.extBut _ _ cz (hq _ _ c2 (b1.extBut _ _ cT (q1.extBut _ _ c1 (b0.extBut _ _ cz x))))) ⟨oe, hr.extBut _ _ ez hoe, hce⟩
  · have he1 : k = n1 := by omega
    show wpAny _ _ (Builtin.SmallTypes.nextOf (.ref i1) >>= _) _ _ ⟨g0, gg, dd, tk0, os⟩
    refine wpAny_bind (D1.done ⟨g0, gg, dd, tk0, os⟩ _ _ (by rw [← he1]; exact (D1.over st1 b0 S.z1)) fun q e hq he => ?_)
    replace hq : Heap.ExtBut i1 g0 q := hq; obtain ⟨oe, hoe, hce⟩ := he; replace hoe : q.get? e = some oe := hoe
    have zq : IsZip q z TI TO .ellipsis := hq _ _ S.zi1 z0
    have ez : e ≠ z := fun x => by subst x; rw [zq] at hoe; cases hoe; simp at hce
    refine wpAny_setField_rec (s := ⟨q, gg, dd, tk0, os⟩) zq (by simp) fun r _ hr => ?_; replace hr : Heap.SameBut z q r := hr
    exact hE r tk0 e (fun c o cz cT c1 c2 c3 c4 x => hr.extBut _ _ cz (hq _ _ c1 (b0.extBut _ _ cz x))) ⟨oe, hr.extBut _ _ ez hoe, hce⟩
theorem z4_next {Q : Option Value → Shared → Prop} (S : Sep4 z TI TO i1 i2 i3 i4 f1 f2 f3 f4) (D1 : PySem.Draws prog w A.in1 i1 f1 n1 P1 S1) (D2 : PySem.Draws prog w A.in1 i2 f2 n2 P2 S2) (D3 : PySem.Draws prog w A.in1 i3 f3 n3 P3 S3) (D4 : PySem.Draws prog w A.in1 i4 f4 n4 P4 S4) (pz : IsZip s.heap z TI TO .none) (pT : Tu4 s.heap TI (.ref i1) (.ref i2) (.ref i3) (.ref i4)) (pO : Tu4 s.heap TO a1 a2 a3 a4) (st1 : S1 k s.heap) (st2 : S2 k s.heap) (st3 : S3 k s.heap) (st4 : S4 k s.heap) (l1 : k < n1) (l2 : k < n2) (l3 : k < n3) (l4 : k < n4)
    (hQ : ∀ x1 x2 x3 x4 h' tk, P1 k x1 → P2 k x2 → P3 k x3 → P4 k x4 → IsZip h' z TI TO (rawInt s.heap.objs.size) → Tu4 h' TO x1 x2 x3 x4 → S1 (k + 1) h' → S2 (k + 1) h' → S3 (k + 1) h' → S4 (k + 1) h' → Tu4 h' s.heap.objs.size x1 x2 x3 x4 → h'.objs.size = s.heap.objs.size + 1 → (∀ c o, c ≠ z → c ≠ TO → c ≠ i1 → c ≠ i2 → c ≠ i3 → c ≠ i4 → s.heap.get? c = some o → h'.get? c = some o) → Q (some (.ref s.heap.objs.size)) { s with heap := h', toks := tk }) : wpAny (model prog w) A (pyNext (.ref z)) Q E s := by
  have ty : s.TypeIs (.ref z) "zip" := ⟨_, pz, rfl⟩
  unfold pyNext; exact wpAny_bind (wpAny_attempt (wpAny_callSpecial?_slot (name := Str.ofString "__next__") ty F.slot_zip_next (wpAny_call_entry F.slot_zip_next ty F.entry_zip_next
    (z4_item S D1 D2 D3 D4 pz pT pO st1 st2 st3 st4 l1 l2 l3 l4 fun x1 x2 x3 x4 h' tk y1 y2 y3 y4 e1 e2 d1 d2 d3 d4 e5 e6 e7 => wpAny_pure (hQ x1 x2 x3 x4 h' tk y1 y2 y3 y4 e1 e2 d1 d2 d3 d4 e5 e6 e7)) (F.args_zip_next_1 _))))
theorem z4_stop {Q : Option Value → Shared → Prop} (S : Sep4 z TI TO i1 i2 i3 i4 f1 f2 f3 f4) (D1 : PySem.Draws prog w A.in1 i1 f1 n1 P1 S1) (D2 : PySem.Draws prog w A.in1 i2 f2 n2 P2 S2) (D3 : PySem.Draws prog w A.in1 i3 f3 n3 P3 S3) (D4 : PySem.Draws prog w A.in1 i4 f4 n4 P4 S4) (pz : IsZip s.heap z TI TO .none) (pT : Tu4 s.heap TI (.ref i1) (.ref i2) (.ref i3) (.ref i4)) (pO : Tu4 s.heap TO a1 a2 a3 a4) (st1 : S1 k s.heap) (st2 : S2 k s.heap) (st3 : S3 k s.heap) (st4 : S4 k s.heap) (l1 : k ≤ n1) (l2 : k ≤ n2) (l3 : k ≤ n3) (l4 : k ≤ n4) (hend : k = n1 ∨ k = n2 ∨ k = n3 ∨ k = n4)
    (hQ : ∀ h' tk, (∀ c o, c ≠ z → c ≠ TO → c ≠ i1 → c ≠ i2 → c ≠ i3 → c ≠ i4 → s.heap.get? c = some o → h'.get? c = some o) → Q none { s with heap := h', toks := tk }) : wpAny (model prog w) A (pyNext (.ref z)) Q E s := by
  have ty : s.TypeIs (.ref z) "zip" := ⟨_, pz, rfl⟩
  unfold pyNext; refine wpAny_bind (wpAny_attempt (wpAny_callSpecial?_slot (name := Str.ofString "__next__") ty F.slot_zip_next
    (wpAny_call_entry F.slot_zip_next ty F.entry_zip_next (z4_end S D1 D2 D3 D4 pz pT pO st1 st2 st3 st4 l1 l2 l3 l4 hend fun h' tk e hk he => ?_) (F.args_zip_next_1 _))))
  obtain ⟨o, ho, hc⟩ := he; refine wpAny_bind (wpAny_isInstance (T := "StopIteration") (b := true) ⟨o, ho, hc⟩ isSubtype_stop (wpAny_pure (hQ _ _ hk)))
end
abbrev zT4 (h : Heap) (o1 o2 o3 o4 : Obj) : Heap := ((((h.push o1).push o2).push o3).push o4).push { cls := .type "tuple", data := .seq #[.ref h.objs.size, .ref (h.push o1).objs.size, .ref ((h.push o1).push o2).objs.size, .ref (((h.push o1).push o2).push o3).objs.size] }
abbrev zO4 (h : Heap) (o1 o2 o3 o4 : Obj) : Heap := (zT4 h o1 o2 o3 o4).push { cls := .type "tuple", data := .seq #[.none, .none, .none, .none] }
abbrev zZ4 (h : Heap) (o1 o2 o3 o4 : Obj) : Heap := (zO4 h o1 o2 o3 o4).push { cls := .type "zip", data := .fields #[.none, .bool false, .bool false, .ref ((((h.push o1).push o2).push o3).push o4).objs.size, .ref (zT4 h o1 o2 o3 o4).objs.size] }
theorem tc_zip4 (v1 v2 v3 v4 : Value) : checkTypeCall "zip" ⟨[v1, v2, v3, v4], []⟩ = pure () := by kernel_rfl
theorem nc_zip4 (v1 v2 v3 v4 : Value) : checkBuiltinCall "zip.__new__" ⟨[.type "zip", v1, v2, v3, v4], []⟩ = pure () := by kernel_rfl
theorem oi_zip4 (ob v1 v2 v3 v4 : Value) : argsOk "object.__init__" ⟨[ob, v1, v2, v3, v4], []⟩ := by unfold argsOk; kernel_rfl
theorem new_zip4 {v1 v2 v3 v4 : Value} {o1 o2 o3 o4 : Obj} {H1 H2 H3 H4 : Heap → Prop} (B1 : Begins v1 o1 H1) (B2 : Begins v2 o2 H2) (B3 : Begins v3 o3 H3) (B4 : Begins v4 o4 H4) :
    Meets (Builtin.«zip.__new__» ⟨[.type "zip", v1, v2, v3, v4], []⟩) (fun _ R s => (H1 s.heap ∧ H2 s.heap ∧ H3 s.heap ∧ H4 s.heap) ∧ R (.ok (.ret (.ref (zO4 s.heap o1 o2 o3 o4).objs.size))) { s with heap := zZ4 s.heap o1 o2 o3 o4 }) :=
  .of_wp fun prog w A R s h => by
    obtain ⟨hp, gg, dd, tk, os⟩ := s; obtain ⟨⟨h1, h2, h3, h4⟩, h⟩ := h; have hsub := sub_zip
    have q1 : ∀ {A' : Around} {E : Value → Shared → Prop} {Q : Value → Shared → Prop}, Q (.ref hp.objs.size) ⟨(hp.push o1), gg, dd, tk, os⟩ → wpAny (model prog w) A' (pyIter v1) Q E ⟨hp, gg, dd, tk, os⟩ := fun q => B1.iter prog w _ _ ⟨hp, gg, dd, tk, os⟩ _ (B1.keeps _ _ h1 fun b o' e => e) q
    have q2 : ∀ {A' : Around} {E : Value → Shared → Prop} {Q : Value → Shared → Prop}, Q (.ref (hp.push o1).objs.size) ⟨((hp.push o1).push o2), gg, dd, tk, os⟩ → wpAny (model prog w) A' (pyIter v2) Q E ⟨(hp.push o1), gg, dd, tk, os⟩ := fun q => B2.iter prog w _ _ ⟨(hp.push o1), gg, dd, tk, os⟩ _ (B2.keeps _ _ h2 fun b o' e => (Heap.get?_push_of_some _ e)) q
    have q3 : ∀ {A' : Around} {E : Value → Shared → Prop} {Q : Value → Shared → Prop}, Q (.ref ((hp.push o1).push o2).objs.size) ⟨(((hp.push o1).push o2).push o3), gg, dd, tk, os⟩ → wpAny (model prog w) A' (pyIter v3) Q E ⟨((hp.push o1).push o2), gg, dd, tk, os⟩ := fun q => B3.iter prog w _ _ ⟨((hp.push o1).push o2), gg, dd, tk, os⟩ _ (B3.keeps _ _ h3 fun b o' e => (Heap.get?_push_of_some _ (Heap.get?_push_of_some _ e))) q
    have q4 : ∀ {A' : Around} {E : Value → Shared → Prop} {Q : Value → Shared → Prop}, Q (.ref (((hp.push o1).push o2).push o3).objs.size) ⟨((((hp.push o1).push o2).push o3).push o4), gg, dd, tk, os⟩ → wpAny (model prog w) A' (pyIter v4) Q E ⟨(((hp.push o1).push o2).push o3), gg, dd, tk, os⟩ := fun q => B4.iter prog w _ _ ⟨(((hp.push o1).push o2).push o3), gg, dd, tk, os⟩ _ (B4.keeps _ _ h4 fun b o' e => (Heap.get?_push_of_some _ (Heap.get?_push_of_some _ (Heap.get?_push_of_some _ e)))) q
    wp_walk using q1, q2, q3, q4
    exact ⟨_, rfl, h⟩
section
variable {prog : Program} {w : World} {A : Around} {E : Value → Shared → Prop} {s : Shared}
theorem begins4 {v1 v2 v3 v4 : Value} {o1 o2 o3 o4 : Obj} {H1 H2 H3 H4 : Heap → Prop} {Q : Value → Shared → Prop} (B1 : Begins v1 o1 H1) (B2 : Begins v2 o2 H2) (B3 : Begins v3 o3 H3) (B4 : Begins v4 o4 H4) (h1 : H1 s.heap) (h2 : H2 s.heap) (h3 : H3 s.heap) (h4 : H4 s.heap)
    (h : ∀ h', IsZip h' (s.heap.objs.size + 6) (s.heap.objs.size + 4) (s.heap.objs.size + 5) .none → Tu4 h' (s.heap.objs.size + 4) (.ref s.heap.objs.size) (.ref (s.heap.objs.size + 1)) (.ref (s.heap.objs.size + 2)) (.ref (s.heap.objs.size + 3)) → Tu4 h' (s.heap.objs.size + 5) .none .none .none .none → h'.get? s.heap.objs.size = some o1 → h'.get? (s.heap.objs.size + 1) = some o2 → h'.get? (s.heap.objs.size + 2) = some o3 → h'.get? (s.heap.objs.size + 3) = some o4 → h'.objs.size = s.heap.objs.size + 7 → (∀ c o, s.heap.get? c = some o → h'.get? c = some o) → Q (.ref (s.heap.objs.size + 6)) { s with heap := h' }) :
    wpAny (model prog w) A (call (.type "zip") [v1, v2, v3, v4]) Q E s := by
  refine callType_new F.called_zip (by decide) (tc_zip4 _ _ _ _) (nc_zip4 _ _ _ _) (fun ob => oi_zip4 ob _ _ _ _) F.entry_zip_new (new_zip4 B1 B2 B3 B4) ⟨⟨h1, h2, h3, h4⟩, ?_⟩
  have z1 : (s.heap.push o1).objs.size = s.heap.objs.size + 1 := by rw [Heap.size_push]
  have z2 : ((s.heap.push o1).push o2).objs.size = s.heap.objs.size + 2 := by rw [Heap.size_push, z1]
  have z3 : (((s.heap.push o1).push o2).push o3).objs.size = s.heap.objs.size + 3 := by rw [Heap.size_push, z2]
  have z4 : ((((s.heap.push o1).push o2).push o3).push o4).objs.size = s.heap.objs.size + 4 := by rw [Heap.size_push, z3]
  have zT : (zT4 s.heap o1 o2 o3 o4).objs.size = s.heap.objs.size + 5 := by rw [Heap.size_push, z4]
  have zO : (zO4 s.heap o1 o2 o3 o4).objs.size = s.heap.objs.size + 6 := by rw [Heap.size_push, zT]
  have zZ : (zZ4 s.heap o1 o2 o3 o4).objs.size = s.heap.objs.size + 7 := by rw [Heap.size_push, zO]
  have gZ : (zZ4 s.heap o1 o2 o3 o4).get? (zO4 s.heap o1 o2 o3 o4).objs.size = some { cls := .type "zip", data := .fields #[.none, .bool false, .bool false, .ref ((((s.heap.push o1).push o2).push o3).push o4).objs.size, .ref (zT4 s.heap o1 o2 o3 o4).objs.size] } := Heap.get?_push_size _ rfl
  have gO : (zZ4 s.heap o1 o2 o3 o4).get? (zT4 s.heap o1 o2 o3 o4).objs.size = some { cls := .type "tuple", data := .seq #[.none, .none, .none, .none] } := Heap.get?_push_of_some _ (Heap.get?_push_size _ rfl)
  have gT : (zZ4 s.heap o1 o2 o3 o4).get? ((((s.heap.push o1).push o2).push o3).push o4).objs.size = some { cls := .type "tuple", data := .seq #[.ref s.heap.objs.size, .ref (s.heap.push o1).objs.size, .ref ((s.heap.push o1).push o2).objs.size, .ref (((s.heap.push o1).push o2).push o3).objs.size] } := Heap.get?_push_of_some _ (Heap.get?_push_of_some _ (Heap.get?_push_size _ rfl))
  have g1 : (zZ4 s.heap o1 o2 o3 o4).get? s.heap.objs.size = some o1 := (Heap.get?_push_of_some _ (Heap.get?_push_of_some _ (Heap.get?_push_of_some _ (Heap.get?_push_of_some _ (Heap.get?_push_of_some _ (Heap.get?_push_of_some _ (Heap.get?_push_size _ B1.free)))))))
  have g2 : (zZ4 s.heap o1 o2 o3 o4).get? (s.heap.push o1).objs.size = some o2 := (Heap.get?_push_of_some _ (Heap.get?_push_of_some _ (Heap.get?_push_of_some _ (Heap.get?_push_of_some _ (Heap.get?_push_of_some _ (Heap.get?_push_size _ B2.free))))))
  have g3 : (zZ4 s.heap o1 o2 o3 o4).get? ((s.heap.push o1).push o2).objs.size = some o3 := (Heap.get?_push_of_some _ (Heap.get?_push_of_some _ (Heap.get?_push_of_some _ (Heap.get?_push_of_some _ (Heap.get?_push_size _ B3.free)))))
  have g4 : (zZ4 s.heap o1 o2 o3 o4).get? (((s.heap.push o1).push o2).push o3).objs.size = some o4 := (Heap.get?_push_of_some _ (Heap.get?_push_of_some _ (Heap.get?_push_of_some _ (Heap.get?_push_size _ B4.free))))
  rw [zO, zT, z4] at gZ; rw [zT] at gO; rw [z4, z3, z2, z1] at gT
  rw [z1] at g2
  rw [z2] at g3
  rw [z3] at g4
  show _ ∧ _; rw [zO]; exact ⟨⟨_, gZ, rfl⟩, h _ gZ gT gO g1 g2 g3 g4 zZ fun c o e => (Heap.get?_push_of_some _ (Heap.get?_push_of_some _ (Heap.get?_push_of_some _ (Heap.get?_push_of_some _ (Heap.get?_push_of_some _ (Heap.get?_push_of_some _ (Heap.get?_push_of_some _ e)))))))⟩
end
def ItZ4 (K : Fg) (k1 k2 k3 k4 : Kd) (a1 a2 a3 a4 : Addr) : It where
  go i H := ∃ (l1 l2 l3 l4 : List V) (x1 x2 x3 x4 : V), k1.sq K H a1 l1 ∧ k2.sq K H a2 l2 ∧ k3.sq K H a3 l3 ∧ k4.sq K H a4 l4 ∧ l1[i]? = some x1 ∧ l2[i]? = some x2 ∧ l3[i]? = some x3 ∧ l4[i]? = some x4
  yld i H v H' := ∃ T x1 x2 x3 x4, v = .ref T ∧ H T = none ∧ H' = upd H T (.tup [x1, x2, x3, x4]) ∧ (∀ l, k1.sq K H a1 l → l[i]? = some x1) ∧ (∀ l, k2.sq K H a2 l → l[i]? = some x2) ∧ (∀ l, k3.sq K H a3 l → l[i]? = some x3) ∧ (∀ l, k4.sq K H a4 l → l[i]? = some x4)
  stop i H := ∃ (l1 l2 l3 l4 : List V), k1.sq K H a1 l1 ∧ k2.sq K H a2 l2 ∧ k3.sq K H a3 l3 ∧ k4.sq K H a4 l4 ∧ i ≤ l1.length ∧ i ≤ l2.length ∧ i ≤ l3.length ∧ i ≤ l4.length ∧ (i = l1.length ∨ i = l2.length ∨ i = l3.length ∨ i = l4.length)
theorem turn_z4 {P : Program} {w : World} {K : Fg} {elts : List Expr} {kk : Nat} {tpos : Pos} (k1 k2 k3 k4 : Kd) {a1 a2 a3 a4 z TI TO i1 i2 i3 i4 : Addr} (S : Sep4 z TI TO i1 i2 i3 i4 [i1, a1] [i2, a2] [i3, a3] [i4, a4]) (n1 : a1 ≠ i1) (n2 : a2 ≠ i2) (n3 : a3 ≠ i3) (n4 : a4 ≠ i4) :
    Turn P w K (.Tuple elts kk tpos) (ItZ4 K k1 k2 k3 k4 a1 a2 a3 a4) [z, TI, TO, i1, i2, i3, i4] z (fun i h => IsZip h z TI TO .none ∧ Tu4 h TI (.ref i1) (.ref i2) (.ref i3) (.ref i4) ∧ (∃ y1 y2 y3 y4, Tu4 h TO y1 y2 y3 y4) ∧ k1.itr h i1 a1 i ∧ k2.itr h i2 a2 i ∧ k3.itr h i3 a3 i ∧ k4.itr h i4 a4 i) where
  mem := List.mem_cons_self
  obj := by
    rintro i h ⟨hz, hTI, ⟨y1, y2, y3, y4, hTO⟩, h1, h2, h3, h4⟩ c hc
    simp only [List.mem_cons, List.not_mem_nil, or_false] at hc
    rcases hc with rfl | rfl | rfl | rfl | rfl | rfl | rfl
    · exact ⟨_, hz, fun v q => nomatch q⟩
    · exact ⟨_, hTI, fun v q => nomatch q⟩
    · exact ⟨_, hTO, fun v q => nomatch q⟩
    · exact k1.itr_obj h1
    · exact k2.itr_obj h2
    · exact k3.itr_obj h3
    · exact k4.itr_obj h4
  keep := by
    rintro i h h' ⟨hz, hTI, ⟨y1, y2, y3, y4, hTO⟩, h1, h2, h3, h4⟩ hk
    exact ⟨hk z (by simp) _ hz, hk TI (by simp) _ hTI, ⟨y1, y2, y3, y4, hk TO (by simp) _ hTO⟩, k1.itr_at h1 fun o q => hk i1 (by simp) o q, k2.itr_at h2 fun o q => hk i2 (by simp) o q, k3.itr_at h3 fun o q => hk i3 (by simp) o q, k4.itr_at h4 fun o q => hk i4 (by simp) o q⟩
  item := by
    rintro X rfl rfl rfl hc i pins s σ H E I hf ⟨hz, hTI, ⟨y1, y2, y3, y4, hTO⟩, h1, h2, h3, h4⟩ ⟨l1, l2, l3, l4, x1, x2, x3, x4, hq1, hq2, hq3, hq4, hx1, hx2, hx3, hx4⟩
    obtain ⟨its1, rv1, p1⟩ := k1.inv I hq1
    obtain ⟨its2, rv2, p2⟩ := k2.inv I hq2
    obtain ⟨its3, rv3, p3⟩ := k3.inv I hq3
    obtain ⟨its4, rv4, p4⟩ := k4.inv I hq4
    obtain ⟨u1, hu1, ru1⟩ := rv1.get hx1
    obtain ⟨u2, hu2, ru2⟩ := rv2.get hx2
    obtain ⟨u3, hu3, ru3⟩ := rv3.get hx3
    obtain ⟨u4, hu4, ru4⟩ := rv4.get hx4
    have zl : z < s.heap.objs.size := Heap.lt_size hz
    have d1 := k1.draws (prog := X.prog) (w := X.w) (A := X.A.in1) (I.ok.hd hc) i1 a1 n1 its1.toArray
    have d2 := k2.draws (prog := X.prog) (w := X.w) (A := X.A.in1) (I.ok.hd hc) i2 a2 n2 its2.toArray
    have d3 := k3.draws (prog := X.prog) (w := X.w) (A := X.A.in1) (I.ok.hd hc) i3 a3 n3 its3.toArray
    have d4 := k4.draws (prog := X.prog) (w := X.w) (A := X.A.in1) (I.ok.hd hc) i4 a4 n4 its4.toArray
    refine z4_next S d1 d2 d3 d4 hz hTI hTO ⟨h1, p1⟩ ⟨h2, p2⟩ ⟨h3, p3⟩ ⟨h4, p4⟩ (sz_lt hu1) (sz_lt hu2) (sz_lt hu3) (sz_lt hu4) fun w1 w2 w3 w4 g tk e1 e2 e3 e4 hz2 hTO2 s1 s2 s3 s4 hT hsz hk => ?_
    obtain rfl : w1 = u1 := arr_get hu1 e1
    obtain rfl : w2 = u2 := arr_get hu2 e2
    obtain rfl : w3 = u3 := arr_get hu3 e3
    obtain rfl : w4 = u4 := arr_get hu4 e4
    refine ⟨_, rfl, wpAny_letOwnedTupleGo_zip (s := ⟨g, s.gens, s.drawn, tk, s.os⟩) hz2 fun g2 hz3 sb => ?_⟩
    have hT2 : g2.get? s.heap.objs.size = some { cls := .type "tuple", data := .seq [w1, w2, w3, w4].toArray } := (sb.2 _ (Nat.ne_of_gt zl)).trans hT
    have nw := new_ok (P := X.prog) (w := X.w) (H := H) (vs := [x1, x2, x3, x4]) hT2 (.cons ru1 (.cons ru2 (.cons ru3 (.cons ru4 .nil)))) (by simp)
    have kp : ∀ c o, c ≠ z → c ≠ TO → c ≠ i1 → c ≠ i2 → c ≠ i3 → c ≠ i4 → s.heap.get? c = some o → g2.get? c = some o := fun c o r1 r2 t1 t2 t3 t4 q => (sb.2 c r1).trans (hk c o r1 r2 t1 t2 t3 t4 q)
    have I1 := I.turnedNew (t' := tk) (ch := [z, TI, TO, i1, i2, i3, i4]) (h' := g2) (fun c o hb q => kp c o (fun z => hb (by simp [z])) (fun z => hb (by simp [z])) (fun z => hb (by simp [z])) (fun z => hb (by simp [z])) (fun z => hb (by simp [z])) (fun z => hb (by simp [z])) q) hf (Nat.le_refl _) nw
    refine ⟨.ref s.heap.objs.size, _, I1, rfl, ⟨_, x1, x2, x3, x4, rfl, I.hok.fresh (Nat.le_refl _), rfl, fun l hl => by rw [k1.inj I hq1 hl]; exact hx1, fun l hl => by rw [k2.inj I hq2 hl]; exact hx2, fun l hl => by rw [k3.inj I hq3 hl]; exact hx3, fun l hl => by rw [k4.inj I hq4 hl]; exact hx4⟩, ⟨hz3, ?_, ⟨w1, w2, w3, w4, ?_⟩, ?_, ?_, ?_, ?_⟩, ?_⟩
    · exact kp _ _ S.t1 S.t3 S.u1 S.u2 S.u3 S.u4 hTI
    · exact (sb.2 _ S.t2).trans hTO2
    · exact k1.itr_at s1.1 fun o q => (sb.2 _ (fun e => S.z1 (by rw [← e]; exact List.mem_cons_self))).trans q
    · exact k2.itr_at s2.1 fun o q => (sb.2 _ (fun e => S.z2 (by rw [← e]; exact List.mem_cons_self))).trans q
    · exact k3.itr_at s3.1 fun o q => (sb.2 _ (fun e => S.z3 (by rw [← e]; exact List.mem_cons_self))).trans q
    · exact k4.itr_at s4.1 fun o q => (sb.2 _ (fun e => S.z4 (by rw [← e]; exact List.mem_cons_self))).trans q
    · intro c hcm
      have cl : c < s.heap.objs.size := by
        have hcm2 := hcm
        simp only [List.mem_cons, List.not_mem_nil, or_false] at hcm2
        rcases hcm2 with rfl | rfl | rfl | rfl | rfl | rfl | rfl
        · exact zl
        · exact Heap.lt_size hTI
        · exact Heap.lt_size hTO
        · obtain ⟨_, q, _⟩ := k1.itr_obj h1; exact Heap.lt_size q
        · obtain ⟨_, q, _⟩ := k2.itr_obj h2; exact Heap.lt_size q
        · obtain ⟨_, q, _⟩ := k3.itr_obj h3; exact Heap.lt_size q
        · obtain ⟨_, q, _⟩ := k4.itr_obj h4; exact Heap.lt_size q
      rw [upd_ne (Nat.ne_of_lt cl)]
      exact (hf c hcm).1
  done := by
    rintro X rfl rfl rfl hc i pins s σ H E I hf ⟨hz, hTI, ⟨y1, y2, y3, y4, hTO⟩, h1, h2, h3, h4⟩ ⟨l1, l2, l3, l4, hq1, hq2, hq3, hq4, e1, e2, e3, e4, hend⟩
    obtain ⟨its1, rv1, p1⟩ := k1.inv I hq1
    obtain ⟨its2, rv2, p2⟩ := k2.inv I hq2
    obtain ⟨its3, rv3, p3⟩ := k3.inv I hq3
    obtain ⟨its4, rv4, p4⟩ := k4.inv I hq4
    have m1 : its1.toArray.size = l1.length := by rw [rv1.length]; simp
    have m2 : its2.toArray.size = l2.length := by rw [rv2.length]; simp
    have m3 : its3.toArray.size = l3.length := by rw [rv3.length]; simp
    have m4 : its4.toArray.size = l4.length := by rw [rv4.length]; simp
    have d1 := k1.draws (prog := X.prog) (w := X.w) (A := X.A.in1) (I.ok.hd hc) i1 a1 n1 its1.toArray
    have d2 := k2.draws (prog := X.prog) (w := X.w) (A := X.A.in1) (I.ok.hd hc) i2 a2 n2 its2.toArray
    have d3 := k3.draws (prog := X.prog) (w := X.w) (A := X.A.in1) (I.ok.hd hc) i3 a3 n3 its3.toArray
    have d4 := k4.draws (prog := X.prog) (w := X.w) (A := X.A.in1) (I.ok.hd hc) i4 a4 n4 its4.toArray
    refine z4_stop S d1 d2 d3 d4 hz hTI hTO ⟨h1, p1⟩ ⟨h2, p2⟩ ⟨h3, p3⟩ ⟨h4, p4⟩ (by omega) (by omega) (by omega) (by omega) (by omega) fun g tk hk => ⟨rfl, ?_⟩
    exact I.turnedL (t' := tk) (ch := [z, TI, TO, i1, i2, i3, i4]) (fun c o hb q => hk c o (fun z => hb (by simp [z])) (fun z => hb (by simp [z])) (fun z => hb (by simp [z])) (fun z => hb (by simp [z])) (fun z => hb (by simp [z])) (fun z => hb (by simp [z])) q) hf
  self := by
    rintro A i s Q E ⟨hz, _⟩ h
    exact wpAny_pyIter_zip hz h
theorem sep4 (N a1 a2 a3 a4 : Nat) (h1 : a1 < N) (h2 : a2 < N) (h3 : a3 < N) (h4 : a4 < N) : Sep4 (N + 6) (N + 4) (N + 5) N (N + 1) (N + 2) (N + 3) [N, a1] [N + 1, a2] [N + 2, a3] [N + 3, a4] := by
  constructor
  all_goals (first | exact List.mem_cons_self | (intro h; simp only [List.mem_cons, List.not_mem_nil, or_false] at h; exact absurd h (by show ¬ (_ : Prop); simp only [Addr] at *; omega)) | (simp only [Addr, ne_eq] at *; omega))
def iZp4 (K : Fg) (ta : TA) : TI := fun σ H R => ta σ H fun vs H1 => ∃ (k1 k2 k3 k4 : Kd) (a1 a2 a3 a4 : Addr) (l1 l2 l3 l4 : List V), vs = [.ref a1, .ref a2, .ref a3, .ref a4] ∧ k1.sq K H1 a1 l1 ∧ k2.sq K H1 a2 l2 ∧ k3.sq K H1 a3 l3 ∧ k4.sq K H1 a4 l4 ∧ R (ItZ4 K k1 k2 k3 k4 a1 a2 a3 a4) H1
theorem pi_zp4 {X : Cx} {e1 e2 e3 e4 : Expr} {ta : TA} {p pos tpos : Pos} {elts : List Expr} {kk : Nat} (hg : Gl X "zip") (hm : X.mg "zip" = none) (ha : PA X [e1, e2, e3, e4] ta)
    (hs : starEach [e1, e2, e3, e4] X.env = (false, eval e1 X.env) :: starEach [e2, e3, e4] X.env) (hpl : (backTo pos (starEach [e2, e3, e4] X.env)).any (·.1) = false) : PI X (.Tuple elts kk tpos) (.Call (.Name "zip" p) [e1, e2, e3, e4] [] pos) (iZp4 X.K ta) := by
  refine ⟨fun pins s σ H R I h => ?_⟩
  refine Call_ (ld_blt I hg hm PyProof.Rows.boot_zip (PyProof.Rows.callWith_type1 (thn (ha.run pos pins s σ H _ I h) ?_) hs hpl))
  rintro us s1 ⟨vs, H1, I1, r1, k1, k2, k3, k4, a1, a2, a3, a4, l1, l2, l3, l4, rfl, hq1, hq2, hq3, hq4, q⟩
  obtain ⟨c1, c2, c3, c4, rfl, t1, t2, t3, t4⟩ : ∃ c1 c2 c3 c4, us = [c1, c2, c3, c4] ∧ RelV (.ref a1) c1 ∧ RelV (.ref a2) c2 ∧ RelV (.ref a3) c3 ∧ RelV (.ref a4) c4 := by
    cases r1 with | cons b1 r1 => cases r1 with | cons b2 r1 => cases r1 with | cons b3 r1 => cases r1 with | cons b4 r1 => (cases r1; exact ⟨_, _, _, _, rfl, b1, b2, b3, b4⟩)
  cases t1; cases t2; cases t3; cases t4
  obtain ⟨its1, rv1, p1⟩ := k1.inv I1 hq1; have m1 := k1.lt p1
  obtain ⟨its2, rv2, p2⟩ := k2.inv I1 hq2; have m2 := k2.lt p2
  obtain ⟨its3, rv3, p3⟩ := k3.inv I1 hq3; have m3 := k3.lt p3
  obtain ⟨its4, rv4, p4⟩ := k4.inv I1 hq4; have m4 := k4.lt p4
  refine begins4 (k1.starts a1 its1.toArray) (k2.starts a2 its2.toArray) (k3.starts a3 its3.toArray) (k4.starts a4 its4.toArray) p1 p2 p3 p4 fun h2 hz hTI hTO o1 o2 o3 o4 hsz hk => wpAny_pyIter_zip hz ?_
  have I2 : Inv X pins σ H1 { s1 with heap := h2 } := I1.kept (t' := s1.toks) hk
  refine ⟨s1.heap.objs.size + 6, [s1.heap.objs.size + 6, s1.heap.objs.size + 4, s1.heap.objs.size + 5, s1.heap.objs.size, s1.heap.objs.size + 1, s1.heap.objs.size + 2, s1.heap.objs.size + 3], _, _, H1, rfl, I2, turn_z4 k1 k2 k3 k4 (a1 := a1) (a2 := a2) (a3 := a3) (a4 := a4) (sep4 _ a1 a2 a3 a4 m1 m2 m3 m4) (Nat.ne_of_lt m1) (Nat.ne_of_lt (Nat.lt_add_right 1 m2)) (Nat.ne_of_lt (Nat.lt_add_right 2 m3)) (Nat.ne_of_lt (Nat.lt_add_right 3 m4)), ⟨hz, hTI, ⟨_, _, _, _, hTO⟩, k1.itr0 o1, k2.itr0 o2, k3.itr0 o3, k4.itr0 o4⟩, ?_, q⟩
  intro c hc
  have hle : s1.heap.objs.size ≤ c := new_le (ks := [6, 4, 5, 0, 1, 2, 3]) hc
  exact I1.fpOk hle (I1.hok.fresh hle)
def quaD : List D → List D → List D → List D → List D
  | x :: xs, y :: ys, z :: zs, u :: us => .tup [x, y, z, u] :: quaD xs ys zs us
  | _, _, _, _ => []
noncomputable def zip4Src (st : Sto) (d e f g : D) : Option ((Sto → Bool) × List D) := (ksrc st d).bind fun p => (ksrc st e).bind fun q => (ksrc st f).bind fun u => (ksrc st g).map fun v => (both p.2.1 (both q.2.1 (both u.2.1 v.2.1)), quaD p.2.2 q.2.2 u.2.2 v.2.2)
noncomputable def iZip4 (fa fb fc fd : DE) : DI := fun env st => (fa env st).bind fun p => (fb env p.2).bind fun q => (fc env q.2).bind fun u => (fd env u.2).bind fun v => (zip4Src v.2 p.1 q.1 u.1 v.1).map fun z => (z, v.2)
theorem quaD_length : ∀ xs ys zs us : List D, (quaD xs ys zs us).length = min xs.length (min ys.length (min zs.length us.length))
  | [], _, _, _ => by simp [quaD]
  | _ :: _, [], _, _ => by simp [quaD]
  | _ :: _, _ :: _, [], _ => by simp [quaD]
  | _ :: _, _ :: _, _ :: _, [] => by simp [quaD]
  | x :: xs, y :: ys, z :: zs, u :: us => by
    simp only [quaD, List.length_cons, quaD_length xs ys zs us]
    omega
theorem quaD_get : ∀ {xs ys zs us : List D} {i : Nat} {d : D}, (quaD xs ys zs us)[i]? = some d → ∃ x y z u, xs[i]? = some x ∧ ys[i]? = some y ∧ zs[i]? = some z ∧ us[i]? = some u ∧ d = .tup [x, y, z, u]
  | [], _, _, _, _, _, h => by simp [quaD] at h
  | _ :: _, [], _, _, _, _, h => by simp [quaD] at h
  | _ :: _, _ :: _, [], _, _, _, h => by simp [quaD] at h
  | _ :: _, _ :: _, _ :: _, [], _, _, h => by simp [quaD] at h
  | x :: xs, y :: ys, z :: zs, u :: us, 0, _, h => by
    simp [quaD] at h
    exact ⟨x, y, z, u, rfl, rfl, rfl, rfl, h.symm⟩
  | x :: xs, y :: ys, z :: zs, u :: us, i + 1, d, h => by
    simp only [quaD, List.getElem?_cons_succ] at h
    simpa using quaD_get h
section
variable {K : Fg} {σ : L2.St} {H : Hp}
theorem zip4_strm {r m1 : List Addr} {H1 : Hp} {s2 : Sto} {x y z u : D} {vx vy vz vu : V} {chk : Sto → Bool} {ds : List D} (g1 : Good K r m1 s2 H1) (dx : Den K r m1 H1 x vx) (dy : Den K r m1 H1 y vy) (dz : Den K r m1 H1 z vz) (du : Den K r m1 H1 u vu) (f3 : zip4Src s2 x y z u = some (chk, ds)) :
    ∃ k1 k2 k3 k4 a b c d xs ys zs us, vx = .ref a ∧ vy = .ref b ∧ vz = .ref c ∧ vu = .ref d ∧ Kd.sq K k1 H1 a xs ∧ Kd.sq K k2 H1 b ys ∧ Kd.sq K k3 H1 c zs ∧ Kd.sq K k4 H1 d us ∧ Strm K r (ItZ4 K k1 k2 k3 k4 a b c d) chk ds m1 H1 := by
  obtain ⟨⟨k1, c1, xs⟩, f4, f5⟩ := Option.bind_eq_some_iff.mp f3
  obtain ⟨⟨k2, c2, ys⟩, f6, f7⟩ := Option.bind_eq_some_iff.mp f5
  obtain ⟨⟨k3, c3, zs⟩, f8, f9⟩ := Option.bind_eq_some_iff.mp f7
  obtain ⟨⟨k4, c4, us⟩, fA, fB⟩ := Option.map_eq_some_iff.mp f9
  cases fB
  obtain ⟨a, xa, rfl, qa0, za, la⟩ := ksrc_later g1 dx f4
  obtain ⟨b, xb, rfl, qb0, zb, lb⟩ := ksrc_later g1 dy f6
  obtain ⟨c, xc, rfl, qc0, zc, lc⟩ := ksrc_later g1 dz f8
  obtain ⟨d, xd, rfl, qd0, zd, ld⟩ := ksrc_later g1 du fA
  refine ⟨k1, k2, k3, k4, a, b, c, d, xa, xb, xc, xd, rfl, rfl, rfl, rfl, qa0, qb0, qc0, qd0, ?_⟩
  have all : ∀ {s3 : Sto}, both c1 (both c2 (both c3 c4)) s3 = true → c1 s3 = true ∧ c2 s3 = true ∧ c3 s3 = true ∧ c4 s3 = true := fun {s3} h => by
    have h1 := (Bool.and_eq_true _ _).mp h
    have h2 := (Bool.and_eq_true _ _).mp h1.2
    have h3 := (Bool.and_eq_true _ _).mp h2.2
    exact ⟨h1.1, h2.1, h3.1, h3.2⟩
  refine ⟨?_, fun r2 m2 H2 s3 i hr l g2 c hi => ?_, fun r2 m2 H2 s3 i v H' d hr l g2 c hi y => ?_, fun r2 m2 H2 s3 hr l g2 c => ?_⟩
  · rw [quaD_length]
    exact Nat.le_trans (Nat.min_le_left _ _) za
  · obtain ⟨ca, cb, cc, cd⟩ := all c
    rw [quaD_length] at hi
    have hi : i < min xs.length (min ys.length (min zs.length us.length)) := hi
    obtain ⟨wa, qa, ea⟩ := la r2 m2 H2 s3 hr l g2 ca
    obtain ⟨wb, qb, eb⟩ := lb r2 m2 H2 s3 hr l g2 cb
    obtain ⟨wc, qc, ec⟩ := lc r2 m2 H2 s3 hr l g2 cc
    obtain ⟨wd, qd, ed⟩ := ld r2 m2 H2 s3 hr l g2 cd
    have h1 : i < wa.length := by rw [← ea.len]; omega
    have h2 : i < wb.length := by rw [← eb.len]; omega
    have h3 : i < wc.length := by rw [← ec.len]; omega
    have h4 : i < wd.length := by rw [← ed.len]; omega
    exact ⟨wa, wb, wc, wd, wa[i], wb[i], wc[i], wd[i], qa, qb, qc, qd, List.getElem?_eq_getElem h1, List.getElem?_eq_getElem h2, List.getElem?_eq_getElem h3, List.getElem?_eq_getElem h4⟩
  · obtain ⟨ca, cb, cc, cd⟩ := all c
    obtain ⟨wa, qa, ea⟩ := la r2 m2 H2 s3 hr l g2 ca
    obtain ⟨wb, qb, eb⟩ := lb r2 m2 H2 s3 hr l g2 cb
    obtain ⟨wc, qc, ec⟩ := lc r2 m2 H2 s3 hr l g2 cc
    obtain ⟨wd, qd, ed⟩ := ld r2 m2 H2 s3 hr l g2 cd
    obtain ⟨x1, x2, x3, x4, e1, e2, e3, e4, rfl⟩ := quaD_get hi
    obtain ⟨T, v1, v2, v3, v4, rfl, nT, rfl, y1, y2, y3, y4⟩ := y
    obtain ⟨w1, b1, k1⟩ := ea.get e1
    obtain ⟨w2, b2, k2⟩ := eb.get e2
    obtain ⟨w3, b3, k3⟩ := ec.get e3
    obtain ⟨w4, b4, k4⟩ := ed.get e4
    rw [y1 wa qa] at b1
    rw [y2 wb qb] at b2
    rw [y3 wc qc] at b3
    rw [y4 wd qd] at b4
    cases b1
    cases b2
    cases b3
    cases b4
    exact new_tuple g2 ⟨_, _, rfl, k1, _, _, rfl, k2, _, _, rfl, k3, _, _, rfl, k4, rfl⟩ (by simp) (by simp) nT
  · obtain ⟨ca, cb, cc, cd⟩ := all c
    obtain ⟨wa, qa, ea⟩ := la r2 m2 H2 s3 hr l g2 ca
    obtain ⟨wb, qb, eb⟩ := lb r2 m2 H2 s3 hr l g2 cb
    obtain ⟨wc, qc, ec⟩ := lc r2 m2 H2 s3 hr l g2 cc
    obtain ⟨wd, qd, ed⟩ := ld r2 m2 H2 s3 hr l g2 cd
    refine ⟨wa, wb, wc, wd, qa, qb, qc, qd, ?_⟩
    rw [quaD_length, ea.len, eb.len, ec.len, ed.len]
    omega
theorem i_zip4 {fa fb fc fd : DE} {R : It → Hp → Prop} (h : tI K (iZip4 fa fb fc fd) σ H R) : iZp4 K (tAr K (aCons fa (aCons fb (aCons fc (aCons fd aNil))))) σ H R := by
  obtain ⟨r, m, st, env, chk, ds, st', g, e, f, q⟩ := h
  unfold iZip4 at f
  obtain ⟨⟨x, s1⟩, f1, f⟩ := Option.bind_eq_some_iff.mp f
  obtain ⟨⟨y, s2⟩, f2, f⟩ := Option.bind_eq_some_iff.mp f
  obtain ⟨⟨u, s3⟩, f4, f⟩ := Option.bind_eq_some_iff.mp f
  obtain ⟨⟨v, s4⟩, f5, f⟩ := Option.bind_eq_some_iff.mp f
  obtain ⟨zz, f3, f⟩ := Option.map_eq_some_iff.mp f
  cases f
  have f3 : zip4Src s4 x y u v = some (chk, ds) := f3
  have fr : aCons fa (aCons fb (aCons fc (aCons fd aNil))) env st = some ([x, y, u, v], s4) := by
    unfold aCons aNil
    have f1 : fa env st = some (x, s1) := f1
    have f2 : fb env s1 = some (y, s2) := f2
    have f4 : fc env s2 = some (u, s3) := f4
    have f5 : fd env s3 = some (v, s4) := f5
    simp only [f1, f2, f4, f5, Option.bind_some]
  refine ⟨r, m, st, env, [x, y, u, v], s4, g, e, fr, fun m1 H1 vs l1 g1 d1 => ?_⟩
  obtain ⟨vx, t1, rfl, dx, vy, t2, rfl, dy, vz, t3, rfl, dz, vu, t4, rfl, du, dn⟩ := d1
  cases dn
  obtain ⟨k1, k2, k3, k4, a, b, c, d, wa, wb, wc, wd, rfl, rfl, rfl, rfl, z1, z2, z3, z4, z5⟩ := zip4_strm g1 dx dy dz du f3
  exact ⟨k1, k2, k3, k4, a, b, c, d, wa, wb, wc, wd, rfl, z1, z2, z3, z4, q m1 H1 _ l1 g1 z5⟩
end
end Tg
namespace Tg
open PySem PySem.Spec PyProof.Rows L2
/-- tuple(x) of a list, its object known -/
def gOtp (st : Sto) : List D → Option D
  | [d] => (lstOf st d).map .otp
  | _ => none
def rOtp (K : Fg) : List V → Hp → VK → Prop := fun xs H Q => ∃ p ys, xs = [.ref p] ∧ SqL K H p ys ∧ ∀ (l : Addr) (o : Obj), H l = none → o.cls = .type "tuple" → o.dict = none → Q (.ref l) (upd H l (.frz o (.tup ys)))
section
variable {X : Cx}
theorem call_otp : CallR X (.type "tuple") (rOtp X.K) := by
  intro pins s σ H xs us Q I rv h
  obtain ⟨p, ys, rfl, hq, q⟩ := h
  obtain ⟨u, rfl, rx⟩ := vals1 rv
  cases rx
  obtain ⟨its, r1, pl, hz⟩ := I.list hq
  have hl := r1.length
  refine call_tuple_list pl.isList (fun h' kp => ?_) (by simp only [List.size_toArray]; omega)
  have I1 : Inv X pins σ H { s with heap := h' } := I.kept (t' := s.toks) kp
  have e : (h'.push { cls := .type "tuple", data := .seq its.toArray }).get? h'.objs.size = some { cls := .type "tuple", data := .seq its.toArray } := Heap.get?_push_size _ rfl
  have I2 : Inv X pins σ (upd H h'.objs.size (.frz { cls := .type "tuple", data := .seq its.toArray } (.tup ys))) { s with heap := h'.push { cls := .type "tuple", data := .seq its.toArray } } :=
    I1.laid (t' := s.toks) (fun b o e => Heap.get?_push_of_some _ e) (Nat.le_refl _) (show ObjOk X.prog X.w _ _ _ (.frz _ (.tup ys)) from ⟨e, hz, its, r1, IsTup.new _ _⟩)
  exact ⟨.ref h'.objs.size, _, I2, rfl, q _ _ (I1.hok.fresh (Nat.le_refl _)) rfl rfl⟩
end
theorem cd_otp {K : Fg} : CallD K gOtp (rOtp K) := by
  intro r m st H ds d vs Q g h e q
  unfold gOtp at e
  split at e
  · obtain ⟨xs, e1, e2⟩ := Option.map_eq_some_iff.mp e
    subst e2
    obtain ⟨x, tl, rfl, a, b⟩ := h
    cases b
    obtain ⟨p, ws, rfl, s, dd, z⟩ := lst_list g a e1
    refine ⟨p, ws, rfl, SqL.of s, fun l o nl hc hd => ?_⟩
    have l2 : Le m H m (upd H l (.frz o (.tup ws))) := le_upd nl
    exact q m _ _ l2 (g.upd nl) ⟨l, ws, rfl, ⟨o, upd_same, hc, hd, g.fresh nl, z⟩, dd.mono l2⟩
  · cases e
def gMax3 (_ : Sto) : List D → Option D
  | [.int i, .int j, .int k] => some (.int (max (max i j) k))
  | _ => none
theorem pick2 (i j : Int) : nuMax2 (.int i) (.int j) = some (.int (max i j)) := by
  show some (if decide (i < j) = true then V.int j else V.int i) = _
  by_cases c : i < j
  · rw [decide_eq_true c, if_pos rfl, Int.max_eq_right (by omega)]
  · rw [decide_eq_false c, if_neg Bool.false_ne_true, Int.max_eq_left (by omega)]
theorem cd_max3 {K : Fg} : CallD K gMax3 (rNuC3 nuMax3) := by
  intro r m st H ds d vs Q g h e q
  unfold gMax3 at e
  split at e
  · next i j k =>
    cases e
    obtain ⟨x, t1, rfl, a, y, t2, rfl, b, z, t3, rfl, c, dn⟩ := h
    cases a; cases b; cases c; cases dn
    refine ⟨_, _, _, .int (max (max i j) k), rfl, ?_, q m H _ (Le.refl m H) g rfl⟩
    show (nuMax2 (.int i) (.int j)).bind (fun m => nuMax2 m (.int k)) = _
    rw [pick2]
    exact pick2 _ _
  · cases e
def rSumT (K : Fg) : List V → Hp → VK → Prop := fun vs H Q => ∃ (a : Addr) (ns : List Int), vs = [V.ref a] ∧ SqT K H a (ns.map V.int) ∧ Q (.int ns.sum) H
theorem sum_tup {prog : Program} {w : World} {A : Around} {E : Value → Shared → Prop} {s : Shared} {l : Addr} {its : List Value} {ns : List Int} {Q : Value → Shared → Prop} (hh : A.handled = none) (hl : s.heap.IsTuple l its.toArray) (hi : IntsAre its ns)
    (h : ∀ h' tk t', (∀ b o, s.heap.get? b = some o → h'.get? b = some o) → Q (.int ns.sum t') { s with heap := h', toks := tk }) : wpAny (model prog w) A (call (.builtin "sum") [.ref l]) Q E s := by
  obtain ⟨xs, e⟩ := hi.allInts.items
  have hn : numsOf (intItems xs).toList = ns := by rw [← e]; exact hi.numsOf
  rw [nums_intItems] at hn; rw [e] at hl
  have lt : l < s.heap.objs.size := by obtain ⟨o, ho, _⟩ := hl; exact Heap.lt_size ho
  refine call_sum_walkG (wpAny_pyIter_tuple hl ?_)
  have sz : (s.heap.push { cls := .type "tuple_iterator", data := .fields #[.ref l, .int 0 0] }).objs.size = s.heap.objs.size + 1 := Heap.size_push ..
  refine ⟨_, [_, l], [_], _, _, _, numAt xs, rfl, Walks.tuple (A := A.in1) hh _ l (Nat.ne_of_lt lt) (intItems xs), ⟨⟨_, Heap.get?_push_size _ rfl, rfl, rfl⟩, hl.push _⟩, fun d hd => ?_, (fun _ _ => intItems_at), fun h' tk t' hk => ?_⟩
  · show d < (s.heap.push _).objs.size
    rw [sz]
    rcases List.mem_cons.mp hd with rfl | hd
    · exact Nat.lt_succ_self _
    · rcases List.mem_cons.mp hd with rfl | hd
      · exact Nat.lt_succ_of_lt lt
      · cases hd
  · have old : ∀ b o, s.heap.get? b = some o → h'.get? b = some o := fun b o q => by
      refine hk b o (fun hm => ?_) (Heap.get?_push_of_some _ q)
      have e1 : b = s.heap.objs.size := by simpa using hm
      have := Heap.lt_size q
      rw [e1] at this
      exact Nat.lt_irrefl _ this
    have := h h' tk t' old
    rw [preSum_eq, List.take_of_length_le (by simp [intItems]), hn]
    exact this
theorem cr_sumT {X : Cx} (hc : X.calm = true) : CallR X (.builtin "sum") (rSumT X.K) := by
  intro pins s σ H vs us Q I r h
  obtain ⟨a, ns, rfl, hs, q⟩ := h
  obtain ⟨its, rv, hl, _⟩ := I.tuple hs
  rw [Vals.ref1 r]
  exact sum_tup (I.ok.hd hc) hl rv.ints fun h' tk t' hk => ⟨.int _, H, I.kept hk, ⟨_, rfl⟩, q⟩
def gSum (st : Sto) : List D → Option D
  | [.tup xs] => (intsOf xs).map fun ns => .int ns.sum
  | ds => gSum0 st ds
theorem cd_sum {K : Fg} : CallD K gSum (fun vs H Q => rSum K vs H Q ∨ rSumT K vs H Q) := by
  intro r m st H ds d vs Q g h e q
  unfold gSum at e
  split at e
  · obtain ⟨ns, e2, e3⟩ := Option.map_eq_some_iff.mp e
    subst e3
    obtain ⟨x, tl, rfl, a, b⟩ := h
    cases b
    obtain ⟨p, ws, rfl, i, dd⟩ := a
    rw [intsOf_eq e2] at dd
    have ev := dd.ints
    subst ev
    exact .inr ⟨p, ns, rfl, i.sq, q m H _ (Le.refl m H) g rfl⟩
  · exact .inl (cd_sum0 r m st H _ d vs Q g h e q)
def rMinDK (K : Fg) : List V → List V → Hp → VK → Prop := fun vs zs H Q => ∃ (a : Addr) (ns : List Int), vs = [V.ref a] ∧ zs = [V.non] ∧ SqL K H a (ns.map V.int) ∧ (ns = [] → Q .non H) ∧ ∀ m, m ∈ ns → (∀ y, y ∈ ns → m ≤ y) → Q (.int m) H
theorem cr_minD {X : Cx} (hc : X.calm = true) (hu : X.A.units + 64 < cLine) : CallRK X (.builtin "min") ["default"] (rMinDK X.K) := by
  intro pins s σ H xs zs us ws Q I r1 r2 h
  obtain ⟨a, ns, rfl, rfl, hs, q0, q⟩ := h
  obtain ⟨its, rv, hl, _⟩ := I.list hs
  rw [Vals.ref1 r1]
  obtain ⟨u, rfl, ru⟩ := vals1 r2
  cases ru
  refine PySem.W.min_list_datum_default (xs := ns) (I.ok.hd hc) hl.isList (by simpa using reads_ints s.heap rv) (Nat.lt_of_le_of_lt (Nat.add_le_add_left (show 1 + 0 ≤ 64 by decide) _) hu) (fun e h' tk hk => ⟨.non, H, I.kept hk, rfl, q0 e⟩) fun y ys i v h' tk e _ hv hk => ?_
  obtain ⟨bs, hv⟩ := hv
  have hv : Reads h' v (.int (PySem.W.minOf y ys)) bs := hv
  cases hv
  rw [e] at q
  exact ⟨.int _, H, I.kept hk, ⟨_, rfl⟩, q _ (fold_min ys y).1 (fold_min ys y).2⟩
def gMinD (st : Sto) : List D → Option D
  | [d] => (lstOf st d).bind fun xs => (intsOf xs).map fun ns => if ns.isEmpty then .non else .int (minOf ns)
  | _ => none
theorem t_minD {K : Fg} {σ : L2.St} {H : Hp} {Q : VK} {fa : DA} (h : tE K (eBlt gMinD fa) σ H Q) : tCKw (rMinDK K) (tAr K fa) (tCons (tC .non) tNil) σ H Q := by
  obtain ⟨r, m, st, env, d, st', g, e, f, q⟩ := h
  unfold eBlt at f
  obtain ⟨⟨x, s1⟩, f1, f⟩ := Option.bind_eq_some_iff.mp f
  obtain ⟨d', f3, f⟩ := Option.map_eq_some_iff.mp f
  cases f
  refine ⟨r, m, st, env, x, s1, g, e, f1, fun m1 H1 v1 l1 g1 d1 => ?_⟩
  have f3 : gMinD s1 x = some d := f3
  unfold gMinD at f3
  split at f3
  · obtain ⟨xs, e1, f3⟩ := Option.bind_eq_some_iff.mp f3
    obtain ⟨ns, e2, e3⟩ := Option.map_eq_some_iff.mp f3
    subst e3
    obtain ⟨y, tl, rfl, a, b⟩ := d1
    cases b
    obtain ⟨p, ws, rfl, s, dd, z⟩ := lst_list g1 a e1
    rw [intsOf_eq e2] at dd
    have hw := dd.ints
    subst hw
    refine ⟨p, ns, rfl, rfl, SqL.of s, fun e0 => ?_, fun k hk hl => ?_⟩
    · subst e0
      exact q m1 _ _ l1 g1 rfl
    · have pos : 0 < ns.length := List.length_pos_of_mem hk
      obtain ⟨a1, a2⟩ := minOf_spec ns pos
      have ek : k = minOf ns := Int.le_antisymm (hl _ a1) (a2 _ hk)
      have ne : ns.isEmpty = false := by cases ns with
        | nil => cases hk
        | cons _ _ => rfl
      rw [ne] at q
      rw [ek]
      exact q m1 _ _ l1 g1 rfl
  · cases f3
def tyO (x : V) (H : Hp) : Prop := ∃ (p : Addr) (o : Obj) (ys : List V), x = .ref p ∧ H p = some (.frz o (.tup ys)) ∧ o.cls = .type "tuple" ∧ o.dict = none
def rIxO (K : Fg) : V → List V → Hp → VK → Prop := fun x xs H Q => ∃ (p : Addr) (ns : List Int) (k : Int), x = .ref p ∧ xs = [.int k] ∧ SqT K H p (ns.map V.int) ∧ k ∈ ns ∧ Q (.int (ns.idxOf k : Nat)) H
def tIxA (K : Fg) (to : TE) (t : TA) : TE := fun σ H Q => to σ H fun x H1 => (tyV K "list" x H1 ∧ t σ H1 fun xs H2 => rIndex K x xs H2 Q) ∨ (tyO x H1 ∧ t σ H1 fun xs H2 => rIxO K x xs H2 Q)
theorem mt_ixO {X : Cx} : MtR X "tuple.index" (rIxO X.K) := by
  intro pins s σ H x xs v us Q I rx rxs h
  obtain ⟨p, ns, k, rfl, rfl, hs, hk, q⟩ := h
  cases rx
  obtain ⟨u, rfl, ru⟩ := vals1 rxs
  obtain ⟨t, rfl⟩ := ru
  obtain ⟨its, rv, pl, _⟩ := I.tuple hs
  exact PySem.SeqAt.tuple_index_ints pl (intsAre_of rv) hk ⟨.int _, H, I.tok _, ⟨_, rfl⟩, q⟩
theorem pe_ixA {X : Cx} {o e : Expr} {to : TE} {t : TA} {apos cpos : Pos} (ho : PE X o to) (ha : PA X [e] t)
    (hbase : attributeBase o "index" X.env (eval o X.env) = eval o X.env)
    (hfew : ((backTo cpos (starEach [e] X.env)).all (fun x => !x.1) && (backToKw cpos (keywordEach [] X.env)).all (fun x => x.1.isSome)
      && decide (([e] : List Expr).length + ([] : List Keyword).length + (if ([] : List Keyword).isEmpty then 0 else 1) < 30)) = true)
    (hline : (apos.endLine == cpos.line) = true) (hs : starEach [e] X.env = (false, eval e X.env) :: starEach [] X.env) :
    PE X (.Call (.Attribute o "index" apos) [e] [] cpos) (tIxA X.K to t) := by
  refine ⟨fun pins s σ H Q I h => ?_⟩
  refine wpAny_Call_method_late hbase hfew hline rfl (thn (ho.run pins s σ H _ I h) fun v s1 ⟨x, H1, I1, r1, q1⟩ => ?_)
  rcases q1 with ⟨ty, q1⟩ | ⟨ty, q1⟩
  · obtain ⟨h1, h2⟩ := tyV_is I1 r1 ty
    refine ⟨"list", "list.index", PySem.F.plainAttrs_list, PySem.F.slot_list_index, PySem.F.type_list_index, h1, h2, ?_⟩
    have hA := ha.run cpos pins s1 σ H1 _ I1 q1
    rw [hs] at hA ⊢
    refine Calls.callWith_builtin rfl (Calls.evalArgs_plain ?_)
    exact thn hA fun us s2 ⟨vs, H2, I2, r2, q2⟩ => mt_index pins s2 σ H2 x vs v us Q I2 r1 r2 q2
  · obtain ⟨p, ob, ys, rfl, hp, hc, hd⟩ := ty
    cases r1
    have hg : s1.heap.get? p = some ob := (show ObjOk X.prog X.w H1 s1.heap p (.frz ob (.tup ys)) from I1.hok p _ hp).1
    refine ⟨"tuple", "tuple.index", PySem.F.plainAttrs_tuple, PySem.F.slot_tuple_index, PySem.F.type_tuple_index, ⟨ob, hg, hc⟩, fun a e => ?_, ?_⟩
    · cases e
      exact ⟨ob, hg, hd⟩
    · have hA := ha.run cpos pins s1 σ H1 _ I1 q1
      rw [hs] at hA ⊢
      refine Calls.callWith_builtin rfl (Calls.evalArgs_plain ?_)
      exact thn hA fun us s2 ⟨vs, H2, I2, r2, q2⟩ => mt_ixO pins s2 σ H2 (.ref p) vs (.ref p) us Q I2 rfl r2 q2
/-- x.index(v), integers -/
def eIndex (fo : DE) (fa : DE) : DE := fun env st => (fo env st).bind fun p => (fa env p.2).bind fun q => match q.1 with
  | .int v => (match p.1 with
    | .otp xs => (intsOf xs).bind fun ns => if v ∈ ns then some (.int (ns.idxOf v : Nat), q.2) else none
    | _ => (lstOf q.2 p.1).bind fun xs => (intsOf xs).bind fun ns => (ns.findIdx? fun z => decide (z = v)).map fun j => (.int (j : Nat), q.2))
  | _ => none
theorem t_ixA {K : Fg} {σ : L2.St} {H : Hp} {Q : VK} {fo fa : DE} (h : tE K (eIndex fo fa) σ H Q) : tIxA K (tE K fo) (tAr K (aCons fa aNil)) σ H Q := by
  obtain ⟨r, m, st, env, d, st', g, e, f, q⟩ := h
  unfold eIndex at f
  obtain ⟨⟨x, s1⟩, f1, f⟩ := Option.bind_eq_some_iff.mp f
  obtain ⟨⟨y, s2⟩, f2, f⟩ := Option.bind_eq_some_iff.mp f
  dsimp only at f
  split at f
  · next v =>
    split at f
    · next xs =>
      obtain ⟨ns, f4, f⟩ := Option.bind_eq_some_iff.mp f
      split at f
      · next hv =>
        cases f
        refine ⟨r, m, st, env, _, _, g, e, f1, fun m1 H1 v1 l1 g1 d1 => .inr ?_⟩
        have d0 := d1
        obtain ⟨p, vs, rfl, ⟨o, ho, hc, hd, n, z⟩, dd⟩ := d1
        refine ⟨⟨p, o, vs, rfl, ho, hc, hd⟩, r, m1, _, env, [.int v], _, g1, e.mono l1, args1 f2, fun m2 H2 vs2 l2 g2 d2 => ?_⟩
        obtain ⟨u, tl, rfl, a2, b2⟩ := d2
        cases b2
        cases a2
        obtain ⟨p', vs', e', i', dd'⟩ := d0.mono l2
        cases e'
        rw [intsOf_eq f4] at dd'
        have ev := dd'.ints
        subst ev
        exact ⟨p, ns, v, rfl, rfl, i'.sq, hv, q m2 _ _ (l1.trans l2) g2 rfl⟩
      · cases f
    · obtain ⟨xs, f3, f⟩ := Option.bind_eq_some_iff.mp f
      obtain ⟨ns, f4, f⟩ := Option.bind_eq_some_iff.mp f
      obtain ⟨j, f5, f⟩ := Option.map_eq_some_iff.mp f
      cases f
      have h0 : tE K (eIndex0 fo fa) σ H Q := by
        refine ⟨r, m, st, env, .int (j : Nat), _, g, e, ?_, q⟩
        unfold eIndex0
        have f1 : fo env st = some (x, s1) := f1
        rw [f1]
        show ((fa env s1).bind _) = _
        rw [f2]
        show ((lstOf _ x).bind _) = _
        rw [f3]
        show ((intsOf xs).bind _) = _
        rw [f4]
        show ((ns.findIdx? _).map _) = _
        rw [f5]
        rfl
      obtain ⟨r', m', st1, env1, d1, st2, g', e', f', q'⟩ := t_index h0
      exact ⟨r', m', st1, env1, d1, st2, g', e', f', fun m1 H1 v1 l1 g1 dd => .inl (q' m1 H1 v1 l1 g1 dd)⟩
  · cases f
end Tg
namespace Tg
open PySem PySem.Spec PyProof.Rows L2
/-- a op b op' c op'' d -/
def eChain3 (o o' o'' : Sto → D → D → Option D) (fa fb fc fd : DE) : DE := fun env st =>
  (fa env st).bind fun p => (fb env p.2).bind fun q => (o q.2 p.1 q.1).bind fun z => match z with
    | .bl true => (fc env q.2).bind fun r => (o' r.2 q.1 r.1).bind fun z2 => match z2 with
      | .bl true => (fd env r.2).bind fun u => (o'' u.2 r.1 u.1).map fun d => (d, u.2)
      | .bl false => some (.bl false, r.2)
      | _ => none
    | .bl false => some (.bl false, q.2)
    | _ => none
def tChain3 (r r' r'' : R2) (ta tb tc td : TE) : TE := fun σ H Q => ta σ H fun x H1 => tb σ H1 fun y H2 => r x y H2 fun z H3 => ∃ k, z = .bl k ∧
  (if k = true then tc σ H3 fun w H4 => r' y w H4 fun z2 H5 => ∃ k2, z2 = .bl k2 ∧ (if k2 = true then td σ H5 fun u H6 => r'' w u H6 Q else Q (.bl false) H5) else Q (.bl false) H3)
section
variable {K : Fg} {σ : L2.St} {H : Hp} {Q : VK}
theorem t_chain3 {o o' o'' : Sto → D → D → Option D} {rr rr' rr'' : R2} (ho : OpD K o rr) (ho' : OpD K o' rr') (ho'' : OpD K o'' rr'') {fa fb fc fd : DE} (h : tE K (eChain3 o o' o'' fa fb fc fd) σ H Q) : tChain3 rr rr' rr'' (tE K fa) (tE K fb) (tE K fc) (tE K fd) σ H Q := by
  obtain ⟨r, m, st, env, d, st', g, e, f, q⟩ := h
  unfold eChain3 at f
  obtain ⟨⟨x, s1⟩, f1, f⟩ := Option.bind_eq_some_iff.mp f
  obtain ⟨⟨y, s2⟩, f2, f⟩ := Option.bind_eq_some_iff.mp f
  obtain ⟨z, f3, f⟩ := Option.bind_eq_some_iff.mp f
  refine ⟨r, m, st, env, x, s1, g, e, f1, fun m1 H1 v1 l1 g1 d1 => ?_⟩
  refine ⟨r, m1, s1, env, y, s2, g1, e.mono l1, f2, fun m2 H2 v2 l2 g2 d2 => ?_⟩
  refine ho r m2 s2 H2 x y z v1 v2 _ g2 (d1.mono l2) d2 f3 fun m3 H3 v3 l3 g3 d3 => ?_
  dsimp only at f
  split at f
  · cases d3
    obtain ⟨⟨w, s4⟩, f4, f⟩ := Option.bind_eq_some_iff.mp f
    obtain ⟨z2, f5, f⟩ := Option.bind_eq_some_iff.mp f
    refine ⟨true, rfl, ?_⟩
    rw [if_pos rfl]
    refine ⟨r, m3, s2, env, w, _, g3, e.mono ((l1.trans l2).trans l3), f4, fun m4 H4 v4 l4 g4 d4 => ?_⟩
    refine ho' r m4 _ H4 y w z2 v2 v4 _ g4 (d2.mono (l3.trans l4)) d4 f5 fun m5 H5 v5 l5 g5 d5 => ?_
    dsimp only at f
    split at f
    · cases d5
      obtain ⟨⟨u, s6⟩, f6, f⟩ := Option.bind_eq_some_iff.mp f
      obtain ⟨d', f7, f⟩ := Option.map_eq_some_iff.mp f
      cases f
      refine ⟨true, rfl, ?_⟩
      rw [if_pos rfl]
      refine ⟨r, m5, s4, env, u, _, g5, e.mono ((((l1.trans l2).trans l3).trans l4).trans l5), f6, fun m6 H6 v6 l6 g6 d6 => ?_⟩
      exact ho'' r m6 _ H6 w u d v4 v6 Q g6 (d4.mono (l5.trans l6)) d6 f7 fun m7 H7 v7 l7 g7 d7 => q m7 H7 v7 ((((((l1.trans l2).trans l3).trans l4).trans l5).trans l6).trans l7) g7 d7
    · cases d5
      cases f
      refine ⟨false, rfl, ?_⟩
      rw [if_neg Bool.false_ne_true]
      exact q m5 H5 _ ((((l1.trans l2).trans l3).trans l4).trans l5) g5 rfl
    · cases f
  · cases d3
    cases f
    refine ⟨false, rfl, ?_⟩
    rw [if_neg Bool.false_ne_true]
    exact q m3 H3 _ ((l1.trans l2).trans l3) g3 rfl
  · cases f
end
section
variable {X : Cx} {a b c d : Expr} {ta tb tc td : TE} {pos : Pos}
theorem pe_chain3 {op op' op'' : CmpOp} {r r' r'' : R2} (ho : OpR X (compareOp op) r) (ho' : OpR X (compareOp op') r') (ho'' : OpR X (compareOp op'') r'') (ha : PE X a ta) (hb : PE X b tb) (hc : PE X c tc) (hd : PE X d td)
    (hm : lastMarks [op, op', op''] [b, c, d] = false) : PE X (.Compare a [op, op', op''] [b, c, d] pos) (tChain3 r r' r'' ta tb tc td) := by
  refine ⟨fun pins s σ H Q I h => ?_⟩
  refine Compare_chain (thn (ha.run pins s σ H _ I h) fun v s1 ⟨x, H1, I1, r1, q1⟩ => chain_link (thn (hb.run pins s1 σ H1 _ I1 q1) fun u s2 ⟨y, H2, I2, r2, q2⟩ =>
    thn (ho pins s2 σ H2 x y v u _ I2 r1 r2 q2) fun e1 s3 ⟨z, H3, I3, r3, k, e, q3⟩ => ?_)) hm
  subst e
  cases r3
  refine wpAny_truthy_bool ?_
  cases k with
  | false => exact ite_ff ⟨.bl false, H3, I3, rfl, q3⟩
  | true =>
    refine ite_tt (chain_link (thn (hc.run pins s3 σ H3 _ I3 q3) fun w' s4 ⟨z', H4, I4, r4, q4⟩ => thn (ho' pins s4 σ H4 y z' u w' _ I4 r2 r4 q4) fun e2 s5 ⟨z2, H5, I5, r5, k2, e', q5⟩ => ?_))
    subst e'
    cases r5
    refine wpAny_truthy_bool ?_
    cases k2 with
    | false => exact ite_ff ⟨.bl false, H5, I5, rfl, q5⟩
    | true => exact ite_tt (chain_last (thn (hd.run pins s5 σ H5 _ I5 q5) fun w2 s6 ⟨z3, H6, I6, r6, q6⟩ => ho'' pins s6 σ H6 z' z3 w' w2 Q I6 r4 r6 q6))
theorem pt_chain3 {op op' op'' : CmpOp} {r r' r'' : R2} (ho : OpR X (compareOp op) r) (ho' : OpR X (compareOp op') r') (ho'' : OpR X (compareOp op'') r'') (ha : PE X a ta) (hb : PE X b tb) (hc : PE X c tc) (hd : PE X d td)
    (hm : lastMarks [op, op', op''] [b, c, d] = false) : PT X (.Compare a [op, op', op''] [b, c, d] pos) (tTest (tChain3 r r' r'' ta tb tc td)) := by
  refine ⟨fun pins s σ H Q I h => ?_⟩
  refine isTrue_chain (thn (ha.run pins s σ H _ I h) fun v s1 ⟨x, H1, I1, r1, q1⟩ => test_link (thn (hb.run pins s1 σ H1 _ I1 q1) fun u s2 ⟨y, H2, I2, r2, q2⟩ =>
    thn (ho pins s2 σ H2 x y v u _ I2 r1 r2 q2) fun e1 s3 ⟨z, H3, I3, r3, k, e, q3⟩ => ?_)) hm
  subst e
  cases r3
  refine wpAny_truthy_bool ?_
  cases k with
  | false =>
    obtain ⟨k', e', q'⟩ := q3
    cases e'
    exact ite_ff ⟨H3, I3, q'⟩
  | true =>
    refine ite_tt (test_link (thn (hc.run pins s3 σ H3 _ I3 q3) fun w' s4 ⟨z', H4, I4, r4, q4⟩ => thn (ho' pins s4 σ H4 y z' u w' _ I4 r2 r4 q4) fun e2 s5 ⟨z2, H5, I5, r5, k2, e', q5⟩ => ?_))
    subst e'
    cases r5
    refine wpAny_truthy_bool ?_
    cases k2 with
    | false =>
      obtain ⟨k', e', q'⟩ := q5
      cases e'
      exact ite_ff ⟨H5, I5, q'⟩
    | true =>
      refine ite_tt (test_last (thn (hd.run pins s5 σ H5 _ I5 q5) fun w2 s6 ⟨z3, H6, I6, r6, q6⟩ => thn (ho'' pins s6 σ H6 z' z3 w' w2 _ I6 r4 r6 q6) fun e3 s7 ⟨z4, H7, I7, r7, k3, e4, q7⟩ => ?_))
      subst e4
      cases r7
      exact wpAny_truthy_bool ⟨H7, I7, q7⟩
end
end Tg
namespace Tg
open PySem PySem.Spec PyProof.Rows L2
inductive Gv where
  | fn (id : String) (n : Nat)
  | cst (d : D)
  | cls (id : String) (n : Nat)
structure Ct where
  N : List Str
  sc : Scope
  fn : Str → Bool
  mu : List (Nat × Nat)
  glb : List (Str × Gv)
  blt : List Str
  ob : Ob
/-- built-ins that only compute -/
inductive Bt where
  | len | min2 | max2 | sum | all | any | maxL | minL | tuple | list | int | abs | repr | sorted | max3
def Bt.nm : Bt → Str
  | .len => "len" | .min2 => "min" | .max2 => "max" | .sum => "sum" | .all => "all" | .any => "any" | .maxL => "max" | .minL => "min" | .tuple => "tuple" | .list => "list" | .int => "int" | .abs => "abs" | .repr => "repr" | .sorted => "sorted" | .max3 => "max"
def Bt.ar : Bt → Nat
  | .min2 => 2 | .max2 => 2 | .max3 => 3 | _ => 1
def Bt.g : Bt → Sto → List D → Option D
  | .len => gLen | .min2 => gMin2 | .max2 => gMax2 | .sum => gSum | .all => gAll | .any => gAny | .maxL => gMaxL | .minL => gMinL | .tuple => gTuple | .list => gList | .int => gInt | .abs => gAbs | .repr => gRepr | .sorted => gSorted | .max3 => gMax3
def Bt.every : List Bt := [.len, .min2, .max2, .sum, .all, .any, .maxL, .minL, .tuple, .list, .int, .abs, .repr, .sorted, .max3]
def btOf (x : Str) (n : Nat) : Option Bt := Bt.every.find? fun b => decide (b.nm = x) && decide (b.ar = n)
def tyOf (x : Str) : Option Ty := [Ty.int, .bool, .str, .tuple, .list].find? fun t => decide (Str.ofString t.name = x)
def plainE : Expr → Bool
  | .Starred .. => false
  | .Set .. => false
  | .Slice .. => false
  | _ => true
def isComp : Expr → Bool
  | .ListComp .. => true
  | .SetComp .. => true
  | .DictComp .. => true
  | _ => false
def isTupE : Expr → Bool
  | .Tuple .. => true
  | _ => false
def isNmE : Expr → Bool
  | .Name .. => true
  | _ => false
/-- a test that is the value's own truth -/
def ownTest : Expr → Bool
  | .UnaryOp .Not _ _ => false
  | .BoolOp .. => false
  | .IfExp .. => false
  | .Compare .. => false
  | _ => true
def ixS (N : List Str) (x : Str) : Option Nat := N.findIdx? fun y => decide (y = x)
def visB (sc : Scope) (x : Str) : Bool := match sc.names.lookup x with
  | some .local => true
  | some .cell => true
  | some .free => true
  | _ => false
def locB (c : Ct) (x : Str) : Bool := match c.sc.names.lookup x with
  | some .local => true
  | some .cell => c.fn x
  | _ => false
def glB (sc : Scope) (x : Str) : Bool := decide (sc.names.lookup x = some .globalImplicit)
def okNm (x : Str) : Bool := !(x == ("__debug__" : Str)) && !(x == ("__classdict__" : Str)) && decide (x ≠ "__name__")
def binD : Operator → Option (Sto → D → D → Option D)
  | .Add => some oAdd
  | .Sub => some oSub
  | .Mult => some oMul
  | .FloorDiv => some oDiv
  | .Mod => some oMod
  | .Pow => some oPow
  | _ => none
def cmpD : CmpOp → Option (Sto → D → D → Option D)
  | .Eq => some oEq
  | .NotEq => some oNe
  | .Lt => some oLt
  | .LtE => some oLe
  | .Gt => some oGt
  | .GtE => some oGe
  | .Is => some oIs
  | .IsNot => some oIsNot
  | .In => some (oInS false)
  | .NotIn => some (oInS true)
def addB : Operator → Bool
  | .Add => true
  | _ => false
def mulB : Operator → Bool
  | .Mult => true
  | _ => false
def muB (c : Ct) (pos : Pos) : Bool := c.mu.any fun q => decide (q.1 = pos.line) && decide (q.2 = pos.col)
/-- the block's own names with their slots -/
def ownOf (N : List Str) (scope : Scope) : List (Str × Nat) := scope.names.filterMap fun y => match y.2 with
  | .local => (ixS N y.1).map fun i => (y.1, i)
  | .cell => (ixS N y.1).map fun i => (y.1, i)
  | _ => none
def Ct.blk (c : Ct) (scope : Scope) : Ct := { c with sc := relS scope c.sc, fn := fun x => scope.names.lookup x == some .cell }
/-- how a pair of tuples is stored: none where the model has no answer -/
def swapP (sc : Scope) (ts vs : List Expr) : Option (Option (List Str)) :=
  if !(ts.length == 2 || ts.length == 3) || vs.length != ts.length then some none else
  if vs.any (fun | .Starred .. => true | _ => false) then some none else
  let line := (ts.head?.map (·.pos.line)).getD 0
  let names := ts.filterMap fun
    | .Name id pos => if sc.names.lookup id == some .local && pos.line == line then some id else none
    | _ => none
  if names.length != ts.length || names.eraseDups.length != names.length then some none else
  if vs.all (foldedForSure 8) then some none else
  if vs.all (constantsAlone 8) then none else some (some names)
def sliceP : Expr → Option (Option Expr × Option Expr)
  | .Slice lo hi none _ => some (lo, hi)
  | _ => none
/-- [::-1] -/
def revP : Expr → Bool
  | .Slice none none (some (.UnaryOp .USub (.Constant (.int 1) _ _) _)) _ => true
  | _ => false
/-- [lo:hi:step] -/
def stepP : Expr → Option (Option Expr × Option Expr × Expr)
  | .Slice lo hi (some s) _ => some (lo, hi, s)
  | _ => none
/-- sorted(set(a)) -/
def srtP (x : Str) (es : List Expr) : Option Expr := if decide (x = "sorted") then (match es with
  | [.Call (.Name y _) [a] [] _] => if decide (y = "set") then some a else none
  | _ => none) else none
/-- list(range(a, b)) -/
def rng2P (x : Str) (es : List Expr) : Option (Expr × Expr) := if decide (x = "list") then (match es with
  | [.Call (.Name y _) [a, b] [] _] => if decide (y = "range") then some (a, b) else none
  | _ => none) else none
/-- list(zip(a, b)) -/
def lzP (x : Str) (es : List Expr) : Option (Expr × Expr) := if decide (x = "list") then (match es with
  | [.Call (.Name y _) [a, b] [] _] => if decide (y = "zip") then some (a, b) else none
  | _ => none) else none
/-- sorted(a, key=len): some false; sorted(a, reverse=True): some true; min(a, default=None): none -/
def kwP (x : Str) (es : List Expr) (kws : List Keyword) : Option (Expr × Option Bool) := if decide (x = "sorted") then (match es, kws with
  | [a], [⟨some k, .Name y _, _⟩] => if decide (k = "key") && decide (y = "len") then some (a, some false) else none
  | [a], [⟨some k, .Constant (.bool true) _ _, _⟩] => if decide (k = "reverse") then some (a, some true) else none
  | _, _ => none) else if decide (x = "min") then (match es, kws with
  | [a], [⟨some k, .Constant .none _ _, _⟩] => if decide (k = "default") then some (a, none) else none
  | _, _ => none) else none
def isiP (x : Str) (es : List Expr) : Option (Expr × Str) := if decide (x = "isinstance") then (match es with
  | [a, .Name y _] => some (a, y)
  | _ => none) else none
/-- list(range(a)) or tuple(range(a)) -/
def rngP (x : Str) (es : List Expr) : Option (Bool × Expr) := if decide (x = "list") || decide (x = "tuple") then (match es with
  | [.Call (.Name y _) [a] [] _] => if decide (y = "range") then some (decide (x = "list"), a) else none
  | _ => none) else none
inductive Mth | append | extend | pop | index
def mthOf (m : Str) : Option Mth := if decide (m = "append") then some .append else if decide (m = "extend") then some .extend else if decide (m = "pop") then some .pop else if decide (m = "index") then some .index else none
def Mth.e : Mth → DE → DE → DE
  | .append => eAppend
  | .extend => eExtend
  | .pop => ePopAt
  | .index => eIndex
/-- what a method may be called of -/
def recvE : Expr → Bool
  | .Name .. => true
  | .Subscript .. => true
  | .Attribute .. => true
  | .Call (.Name ..) (_ :: _) _ _ => true
  | _ => false
/-- d.items() of a name -/
def itemsP : Expr → Option (Str × Pos × Pos × Pos)
  | .Call (.Attribute (.Name o po) m apos) [] [] cpos => if decide (m = "items") && decide (apos.endLine = cpos.line) then some (o, po, apos, cpos) else none
  | _ => none
def itemsI (c : Ct) (e : Expr) : Option Nat := (itemsP e).bind fun q => if okNm q.1 && visB c.sc q.1 then ixS c.N q.1 else none
def lockE (c : Ct) (e : Expr) (f : DE) : DE := match itemsI c e with
  | some i => eLock i f
  | none => f
def mthE (m : Str) (fo fa : DE) : Option DE := if decide (m = "remove") then some (eRemove fo fa) else (mthOf m).map fun mt => mt.e fo fa
variable (C : Orc)
/-- a call of a built-in or of a def, its arguments compiled -/
def cC (c : Ct) (x : Str) (k : Nat) (pos : Pos) (fa : DA) : Option DE := match c.glb.lookup x with
  | some (.fn id j) => if decide (j = k) then some (eCall C id fa) else none
  | some (.cls id j) => if decide (j = k) && decide (0 < k) then some (eMake C x id fa) else none
  | _ => if decide (x ∈ c.blt) then (btOf x k).bind fun b => some (if muB c pos && decide (b.nm = "list") then eNew seq1 fa else if muB c pos && decide (b.nm = "tuple") then eBlt gOtp fa else eBlt b.g fa) else none
mutual
noncomputable def cE : Nat → Expr → Ct → Option DE
  | 0, _, _ => none
  | n + 1, e, c => if plainE e then (match e with
    | .Name x _ => if okNm x then (match ixS c.N x with
      | some i => if visB c.sc x then some (eVar i) else none
      | none => if glB c.sc x then (match c.glb.lookup x with
        | some (.cst d) => some (eC d)
        | _ => none) else none) else none
    | .Constant (.int i) _ _ => some (eC (.int i))
    | .Constant (.bool b) _ _ => some (eC (.bl b))
    | .Constant .none _ _ => some (eC .non)
    | .Constant (.str x) _ _ => some (eC (.str x))
    | .BinOp a op b pos => (binD op).bind fun o => (cE n a c).bind fun fa => (cE n b c).map fun fb => if muB c pos && addB op then eCat fa fb else if muB c pos && mulB op then eRepM fa fb else eOp o fa fb
    | .UnaryOp .USub a _ => (cE n a c).map fun fa => eUn oNeg fa
    | .UnaryOp .Not a _ => (cE n a c).map fun fa => eNot fa
    | .BoolOp op es _ => cBE n op es c
    | .Compare a [op] [b] _ => (cmpD op).bind fun o => (cE n a c).bind fun fa => (cE n b c).map fun fb => eOp o fa fb
    | .Compare a [op, op'] [b, b'] _ => (cmpD op).bind fun o => (cmpD op').bind fun o' => (cE n a c).bind fun fa => (cE n b c).bind fun fb => (cE n b' c).map fun fc => eChain o o' fa fb fc
    | .Compare a [op, op', op''] [b, b', b''] _ => (cmpD op).bind fun o => (cmpD op').bind fun o' => (cmpD op'').bind fun o'' => (cE n a c).bind fun fa => (cE n b c).bind fun fb => (cE n b' c).bind fun fc => (cE n b'' c).map fun fd => eChain3 o o' o'' fa fb fc fd
    | .IfExp t a b _ => (cT n t c).bind fun ft => (cE n a c).bind fun fa => (cE n b c).map fun fb => eIf ft fa fb
    | .Tuple es _ _ => if decide (es.length ≤ 1000) then (cA n es c).map fun fa => eTup fa else none
    | .List es pos => if decide (es.length ≤ 1000) then (cA n es c).map fun fa => if muB c pos then eMLst fa else eLst fa else none
    | .Subscript a b _ => (match sliceP b with
      | some (lo, hi) => (cE n a c).bind fun fa => (cO n lo c).bind fun fl => (cO n hi c).map fun fh => eSl fa fl fh
      | none => if revP b then (cE n a c).map fun fa => eRev fa else (match stepP b with
        | some (lo, hi, s) => (cE n a c).bind fun fa => (cO n lo c).bind fun fl => (cO n hi c).bind fun fh => (cE n s c).map fun fs => eSlS fa fl fh fs
        | none => (cE n a c).bind fun fa => (cE n b c).map fun fb => eOp oIx fa fb))
    | .Call (.Name x _) es [] pos => if okNm x && glB c.sc x then (match isiP x es with
      | some (a, y) => if okNm y && glB c.sc y && decide (x ∈ c.blt) && decide (y ∈ c.blt) then (tyOf y).bind fun t => (cE n a c).map fun fa => eIsi t fa else none
      | none => (match rngP x es with
        | some (l, a) => if glB c.sc "range" && decide (x ∈ c.blt) && decide (("range" : Str) ∈ c.blt) then (cE n a c).map fun fa => if l then (if muB c pos then eRgM fa else eRgL fa) else eRgT fa else none
        | none => (match srtP x es with
          | some a => if glB c.sc "set" && decide (x ∈ c.blt) && decide (("set" : Str) ∈ c.blt) then (cE n a c).map fun fa => eBlt gSoSet (aCons fa aNil) else none
          | none => (match rng2P x es with
            | some (a, b) => if !muB c pos && glB c.sc "range" && decide (x ∈ c.blt) && decide (("range" : Str) ∈ c.blt) then (cE n a c).bind fun fa => (cE n b c).map fun fb => eRgL2 fa fb else none
            | none => (match lzP x es with
              | some (a, b) => if !muB c pos && glB c.sc "zip" && decide (x ∈ c.blt) && decide (("zip" : Str) ∈ c.blt) then (cE n a c).bind fun fa => (cE n b c).map fun fb => eLZ fa fb else none
              | none => (cA n es c).bind fun fa => cC C c x es.length pos fa))))) else none
    | .Call (.Name x _) es (kw :: kws) _ => if okNm x && glB c.sc x && decide (x ∈ c.blt) then (match kwP x es (kw :: kws) with
      | some (a, some false) => if glB c.sc "len" && decide (("len" : Str) ∈ c.blt) then (cE n a c).map fun fa => eBlt gSortLen (aCons fa aNil) else none
      | some (a, some true) => (cE n a c).map fun fa => eBlt gSortRev (aCons fa aNil)
      | some (a, none) => (cE n a c).map fun fa => eBlt gMinD (aCons fa aNil)
      | none => none) else none
    | .Call (.Attribute o m apos) es [] cpos => if recvE o && decide (apos.endLine = cpos.line) then (match c.ob.mt.lookup m with
      | some (x, id, k) => if decide (es.length = k) && decide (k ≤ 20) then (cE n o c).bind fun fo => (cA n es c).map fun fa => eMth C x id m fo fa else none
      | none => (match es with
        | [a] => (cE n o c).bind fun fo => (cE n a c).bind fun fa => mthE m fo fa
        | [] => if decide (m = "pop") then (cE n o c).map fun fo => ePop0 fo else if decide (m = "upper") then (cE n o c).map fun fo => eUpper fo else none
        | [a, b] => if decide (m = "get") then (cE n o c).bind fun fo => (cE n a c).bind fun fa => (cE n b c).map fun fb => eGet2 fo fa fb else none
        | _ => none)) else none
    | .Attribute o f _ => if isNmE o then (c.ob.fl.lookup f).bind fun cls => (cE n o c).map fun fa => eAt cls f fa else none
    | .Dict [] [] pos => some (if muB c pos then eDict0 else eDic)
    | .Dict [some k] [v] _ => (cE n k c).bind fun fk => (cE n v c).map fun fv => eDict1 fk fv
    | .ListComp elt [⟨tg, iter, ifs, 0⟩] scope pos => (cLc n elt tg iter ifs scope pos c).map fun q => lockE c iter q.2
    | .ListComp elt [⟨tg, iter, ifs, 0⟩, ⟨tg1, .Call (.Name x _) es [] _, ifs1, 0⟩] scope pos => (cLc2 n elt tg iter ifs tg1 x es ifs1 scope pos c).map fun q => q.2
    | _ => none) else none
noncomputable def cLc : Nat → Expr → Expr → Expr → List Expr → Scope → Pos → Ct → Option (Unit × DE)
  | 0, _, _, _, _, _, _, _ => none
  | n + 1, elt, tg, iter, ifs, scope, pos, c => if blkC c.N c.sc scope (ownOf c.N scope) && plainE iter then
      (cI n tg iter c).bind fun fi => (cG n tg (c.blk scope)).bind fun g => if g.1.all (fun i => decide (i ∈ (ownOf c.N scope).map (·.2))) then
        (cIf n ifs (c.blk scope)).bind fun fb => (cE n elt (c.blk scope)).map fun fe => ((), if muB c pos then eMLc ((ownOf c.N scope).map (·.2)) fi g.2 fb fe else eLc ((ownOf c.N scope).map (·.2)) fi g.2 fb fe) else none else none
noncomputable def cLc2 : Nat → Expr → Expr → Expr → List Expr → Expr → Str → List Expr → List Expr → Scope → Pos → Ct → Option (Unit × DE)
  | 0, _, _, _, _, _, _, _, _, _, _, _ => none
  | n + 1, elt, tg, iter, ifs, tg1, x, es, ifs1, scope, pos, c => if blkC c.N c.sc scope (ownOf c.N scope) && plainE iter && !muB c pos && glB (relS scope c.sc) x && decide (x = "range") && decide (x ∈ c.blt) && (decide (es.length = 1) || decide (es.length = 2)) then
      (cI n tg iter c).bind fun fi => (cG n tg (c.blk scope)).bind fun g => (cA n es (c.blk scope)).bind fun fa => (cG n tg1 (c.blk scope)).bind fun g1 =>
        if g.1.all (fun i => decide (i ∈ (ownOf c.N scope).map (·.2))) && g1.1.all (fun i => decide (i ∈ (ownOf c.N scope).map (·.2))) then
          (cIf n ifs (c.blk scope)).bind fun fb => (cIf n ifs1 (c.blk scope)).bind fun fb1 => (cE n elt (c.blk scope)).map fun fe => ((), eLc2 ((ownOf c.N scope).map (·.2)) g1.1 fi g.2 fb (iRng fa) g1.2 fb1 fe) else none else none
noncomputable def cIf : Nat → List Expr → Ct → Option DB
  | 0, _, _ => none
  | n + 1, es, c => match es with
    | [] => some bYes
    | [t] => cT n t c
    | _ => none
noncomputable def cBE : Nat → BoolOp → List Expr → Ct → Option DE
  | 0, _, _, _ => none
  | n + 1, op, es, c => match es with
    | [a] => cE n a c
    | a :: b :: es => (match op with
      | .And => (cE n a c).bind fun fa => (cBE n .And (b :: es) c).map fun fb => eAnd fa fb
      | .Or => (cE n a c).bind fun fa => (cBE n .Or (b :: es) c).map fun fb => eOr fa fb)
    | [] => none
noncomputable def cBT : Nat → BoolOp → List Expr → Ct → Option DB
  | 0, _, _, _ => none
  | n + 1, op, es, c => match es with
    | [a] => cT n a c
    | a :: b :: es => (match op with
      | .And => (cT n a c).bind fun fa => (cBT n .And (b :: es) c).map fun fb => bAnd fa fb
      | .Or => (cT n a c).bind fun fa => (cBT n .Or (b :: es) c).map fun fb => bOr fa fb)
    | [] => none
noncomputable def cT : Nat → Expr → Ct → Option DB
  | 0, _, _ => none
  | n + 1, e, c => match e with
    | .UnaryOp .Not a _ => (cT n a c).map fun fa => bNot fa
    | .BoolOp op es _ => cBT n op es c
    | .Compare a [op] [b] _ => (cmpD op).bind fun o => (cE n a c).bind fun fa => (cE n b c).map fun fb => bVal (eOp o fa fb)
    | .Compare a [op, op'] [b, b'] _ => (cmpD op).bind fun o => (cmpD op').bind fun o' => (cE n a c).bind fun fa => (cE n b c).bind fun fb => (cE n b' c).map fun fc => bVal (eChain o o' fa fb fc)
    | .Compare a [op, op', op''] [b, b', b''] _ => (cmpD op).bind fun o => (cmpD op').bind fun o' => (cmpD op'').bind fun o'' => (cE n a c).bind fun fa => (cE n b c).bind fun fb => (cE n b' c).bind fun fc => (cE n b'' c).map fun fd => bVal (eChain3 o o' o'' fa fb fc fd)
    | e => if ownTest e then (cE n e c).map fun fa => bVal fa else none
noncomputable def cA : Nat → List Expr → Ct → Option DA
  | 0, _, _ => none
  | n + 1, es, c => match es with
    | [] => some aNil
    | e :: es => (cE n e c).bind fun fa => (cA n es c).map fun fr => aCons fa fr
noncomputable def cO : Nat → Option Expr → Ct → Option DO
  | 0, _, _ => none
  | n + 1, e, c => match e with
    | none => some oNo
    | some e => (cE n e c).map fun f => oSo f
noncomputable def cI : Nat → Expr → Expr → Ct → Option DI
  | 0, _, _, _ => none
  | n + 1, tg, e, c => match e with
    | .Call (.Name x _) es [] _ => if okNm x && glB c.sc x && decide (x ∈ c.blt) && decide (c.glb.lookup x = none) then
        (if decide (x = "range") && (decide (es.length = 1) || decide (es.length = 2)) then (cA n es c).map fun fa => iRng fa
        else if decide (x = "zip") && isTupE tg then (match es with
          | [a, b] => (cE n a c).bind fun fa => (cE n b c).map fun fb => iZip fa fb
          | [a, b, d] => (cE n a c).bind fun fa => (cE n b c).bind fun fb => (cE n d c).map fun fd => iZip3 fa fb fd
          | [a, b, d, e] => (cE n a c).bind fun fa => (cE n b c).bind fun fb => (cE n d c).bind fun fd => (cE n e c).map fun fe => iZip4 fa fb fd fe
          | _ => none)
        else if decide (x = "zip") && isNmE tg then (match es with
          | [a, b] => (cE n a c).bind fun fa => (cE n b c).map fun fb => iZip fa fb
          | _ => none)
        else if decide (x = "enumerate") && isTupE tg then (match es with
          | [a] => (cE n a c).map fun fa => iEn fa
          | _ => none)
        else if decide (x = "range") || decide (x = "zip") || decide (x = "enumerate") || decide (x = "reversed") then none
        else (cE n e c).map fun f => iSeq f) else (cE n e c).map fun f => iSeq f
    | e => (match itemsI c e with
      | some i => if isTupE tg then some (iItm i) else none
      | none => (cE n e c).map fun f => iSeq f)
noncomputable def cG : Nat → Expr → Ct → Option (List Nat × DG)
  | 0, _, _ => none
  | n + 1, e, c => match e with
    | .Name x _ => if locB c x then (ixS c.N x).map fun i => ([i], gN i) else none
    | .Tuple es _ _ => (cGs n es c).map fun g => (g.1, gT es.length g.2)
    | .Subscript o i _ => if plainE i then (cE n o c).bind fun fo => (cE n i c).map fun fi => ([], gSb fo fi) else none
    | _ => none
noncomputable def cGs : Nat → List Expr → Ct → Option (List Nat × DGs)
  | 0, _, _ => none
  | n + 1, es, c => match es with
    | [] => some ([], gsNil)
    | e :: es => (cG n e c).bind fun g => (cGs n es c).map fun h => (g.1 ++ h.1, gsCons g.2 h.2)
end
end Tg
namespace Tg
open PySem PySem.Spec PyProof.Rows L2
structure Stat (C : Orc) (k : Nat) (c : Ct) (X : Cx) : Prop where
  N : X.N = c.N
  nd : c.N.Nodup
  sc : X.env.scope = c.sc
  fn : X.fn = c.fn
  kind : c.sc.kind = .function
  calm : X.calm = true
  gd : X.A.guards = some []
  rm : Room (k + 1) X.A
  ps : PassesOwn (model X.prog X.w) X.A X.env X.xe
  free : ∀ x ∈ c.blt, X.mg x = none
  funs : ∀ x id n, c.glb.lookup x = some (.fn id n) → ∃ f fd ps, X.mg x = some (.ref f) ∧ PySem.W.keepIn X.K (.ref f) = true ∧ Binds X.K fd ps [] ∧ FnG X.prog X.w X.K X.mg X.base k f fd ps (spC X.K C id n)
  csts : ∀ x d, c.glb.lookup x = some (.cst d) → ∃ u v, X.mg x = some u ∧ RelV v u ∧ ∀ r m H, Den X.K r m H d v
  clss : ∀ x id n, c.glb.lookup x = some (.cls id n) → ∃ f fd ps, X.mg x = some (.ref (He.ga X.K x)) ∧ Mk X.K (He.ga X.K x) f ∧ Binds X.K fd ps [] ∧ FnG X.prog X.w X.K X.mg X.base k f fd ps (spC X.K C id (n + 1))
  flds : ∀ f cls, c.ob.fl.lookup f = some cls → ∀ x ∈ cls, Cls X.K (He.ga X.K x) ∧ NoAttr X.K (He.ga X.K x) f
  mths : ∀ m x id n, c.ob.mt.lookup m = some (x, id, n) → Cls X.K (He.ga X.K x) ∧ ∃ f fd ps, Meth X.K (He.ga X.K x) m f ∧ Binds X.K fd ps [] ∧ FnG X.prog X.w X.K X.mg X.base k f fd ps (spC X.K C id (n + 1))
theorem ixS_get {N : List Str} {x : Str} {i : Nat} (h : ixS N x = some i) : N[i]? = some x := by
  unfold ixS at h
  obtain ⟨hi, h1, _⟩ := List.findIdx?_eq_some_iff_getElem.mp h
  rw [List.getElem?_eq_getElem hi, of_decide_eq_true h1]
theorem visB_ok {sc : Scope} {x : Str} (h : visB sc x = true) : Vis sc x := by
  unfold visB at h
  unfold Vis
  split at h
  · next e => exact .inl e
  · next e => exact .inr (.inl e)
  · next e => exact .inr (.inr e)
  · cases h
theorem okNm_ok {x : Str} (h : okNm x = true) : (x == ("__debug__" : Str)) = false ∧ (x == ("__classdict__" : Str)) = false ∧ x ≠ "__name__" := by
  unfold okNm at h
  simp only [Bool.and_eq_true, Bool.not_eq_true', decide_eq_true_eq] at h
  exact ⟨h.1.1, h.1.2, h.2⟩
theorem plain_star {e : Expr} (h : plainE e = true) (es : List Expr) (env : Env) : starEach (e :: es) env = (false, eval e env) :: starEach es env := by
  cases e <;> first | rfl | cases h
theorem plain_ix {e : Expr} (h : plainE e = true) : PlainIx e := by
  intro o i
  cases e <;> first | rfl | cases h
theorem plain_mark {e : Expr} (h : plainE e = true) (op : CmpOp) : behindInMarks op e = false := by
  cases e <;> first | rfl | cases h
theorem plain_set {e : Expr} (h : plainE e = true) (env : Env) (x : Value) : foldedSetIterable e env x = pure x := by
  cases e <;> first | rfl | cases h
theorem plain_each {e : Expr} (h : plainE e = true) (es : List Expr) (env : Env) : assignEach (e :: es) env = (false, assign e env) :: assignEach es env := by
  cases e <;> first | rfl | cases h
theorem stars_none {es : List Expr} (h : es.all plainE = true) (pos : Pos) (env : Env) : (backTo pos (starEach es env)).any (·.1) = false := by
  induction es with
  | nil => rfl
  | cons e es ih =>
    rw [List.all_cons, Bool.and_eq_true] at h
    rw [plain_star h.1]
    have := ih h.2
    unfold backTo at this ⊢
    rw [List.map_cons, List.any_cons, this]
    rfl
theorem comp_noswap {e : Expr} (h : isComp e = false) (t : Option Expr) (l : Nat) (env : Env) : swapsWith e t l env = pure false := by
  cases e <;> first | rfl | cases h
theorem own_test {e : Expr} (h : ownTest e = true) (env : Env) (whole : Sem Value) : isTrue e env whole = (do let v ← whole; standAt e.pos; holding [v] (truthy v)) := by
  cases e with
  | UnaryOp op a p => cases op <;> first | rfl | cases h
  | BoolOp _ _ _ => cases h
  | IfExp _ _ _ _ => cases h
  | Compare _ _ _ _ => cases h
  | _ => rfl
theorem pa_len1' {K : Fg} {σ : L2.St} {H : Hp} {fa : DE} {Q : List V → Hp → Prop} (h : tAr K (aCons fa aNil) σ H Q) : tCons (tE K fa) tNil σ H Q := by
  have := t_cons h
  obtain ⟨r, m, st, env, d, st', g, e, f, q⟩ := this
  exact ⟨r, m, st, env, d, st', g, e, f, fun m1 H1 v l g1 d1 => t_nil (q m1 H1 v l g1 d1)⟩
section
variable {C : Orc} {k : Nat} {c : Ct} {X : Cx}
theorem Stat.blk (S : Stat C k c X) {scope : Scope} (hk : scope.kind = .function) (s : Shared) (H : Hp) (A : Addr) (cl : List (Str × Addr)) (fp : List Addr) :
    Stat C k (c.blk scope) (X.blk s H scope (compEnvC scope cl A X.env) fp) :=
  ⟨S.N, S.nd, by show relS scope X.env.scope = relS scope c.sc; rw [S.sc], rfl, hk, S.calm, S.gd, S.rm, PassesOwn.never, S.free, S.funs, S.csts, S.clss, S.flds, S.mths⟩
theorem Stat.gl (S : Stat C k c X) {x : Str} (h : glB c.sc x = true) : Gl X x := by
  unfold Gl
  show X.env.scope.names.lookup x = _
  rw [S.sc]
  exact of_decide_eq_true h
theorem Stat.passes (S : Stat C k c X) : PassesOwn (model X.prog X.w) X.A X.env X.xe := S.ps
theorem Stat.ndX (S : Stat C k c X) : X.N.Nodup := by
  rw [S.N]
  exact S.nd
theorem Stat.at_ (S : Stat C k c X) {x : Str} {i : Nat} (h : ixS c.N x = some i) : X.N[i]? = some x := by
  rw [S.N]
  exact ixS_get h
theorem bin_ok (S : Stat C k c X) {op : Operator} {o : Sto → D → D → Option D} (h : binD op = some o) {a b : Expr} {fa fb : DE} {pos : Pos} (ha : PE X a (tE X.K fa)) (hb : PE X b (tE X.K fb)) :
    PE X (.BinOp a op b pos) (tE X.K (eOp o fa fb)) := by
  cases op with
  | Add => cases h; exact pe_imp (pe_op op_adds ha hb) fun _ _ _ => t_op od_add
  | Sub => cases h; exact pe_imp (pe_op op_sub ha hb) fun _ _ _ => t_op od_sub
  | Mult => cases h; exact pe_imp (pe_op op_muls ha hb) fun _ _ _ => t_op od_mul
  | FloorDiv => cases h; exact pe_imp (pe_op op_fdivW ha hb) fun _ _ _ => t_op od_div
  | Mod => cases h; exact pe_imp (pe_op op_mod ha hb) fun _ _ _ => t_op od_mod
  | Pow => cases h; exact pe_imp (pe_op op_pow ha hb) fun _ _ _ => t_op od_pow
  | _ => cases h
theorem Stat.un1 (S : Stat C k c X) : X.A.units + 1 < cLine := by
  have := S.rm.un
  omega
theorem Stat.rm1 (S : Stat C k c X) : Room k X.A := S.rm.mono (Nat.le_succ k)
theorem cmp_ok (S : Stat C k c X) {op : CmpOp} {o : Sto → D → D → Option D} (h : cmpD op = some o) : ∃ rr, OpR X (compareOp op) rr ∧ OpD X.K o rr := by
  cases op with
  | Eq => cases h; exact ⟨_, op_eqs S.rm.units, od_eq⟩
  | NotEq => cases h; exact ⟨_, op_nes S.rm.units, od_ne⟩
  | Lt => cases h; exact ⟨_, op_lt, od_lt⟩
  | LtE => cases h; exact ⟨_, op_le, od_le⟩
  | Gt => cases h; exact ⟨_, op_gt, od_gt⟩
  | GtE => cases h; exact ⟨_, op_ge, od_ge⟩
  | Is => cases h; exact ⟨_, op_isN.or op_isBl, od_is⟩
  | IsNot => cases h; exact ⟨_, op_notN.or op_notBl, od_isnot⟩
  | In => cases h; exact ⟨_, ((op_in_seq.or (op_inD S.un1)).or (op_inP S.rm.units)).or (op_inT S.rm.units), od_in false⟩
  | NotIn => cases h; exact ⟨_, ((op_notIn_seq.or (op_notInD S.un1)).or (op_notInP S.rm.units)).or (op_notInT S.rm.units), od_in true⟩
theorem bt_ok (S : Stat C k c X) {x : Str} {j : Nat} {b : Bt} (h : btOf x j = some b) {e : Expr} {es : List Expr} {fa : DA} {p pos : Pos} (hg : glB c.sc x = true) (hm : x ∈ c.blt) (ha : PA X (e :: es) (tAr X.K fa)) (hp : (e :: es).all plainE = true) :
    PE X (.Call (.Name x p) (e :: es) [] pos) (tE X.K (eBlt b.g fa)) ∧ (b.nm = "list" → PE X (.Call (.Name x p) (e :: es) [] pos) (tE X.K (eNew seq1 fa))) ∧ (b.nm = "tuple" → PE X (.Call (.Name x p) (e :: es) [] pos) (tE X.K (eBlt gOtp fa))) := by
  have hb := List.find?_some h
  simp only [Bool.and_eq_true, decide_eq_true_eq] at hb
  obtain ⟨hb, _⟩ := hb
  rw [List.all_cons, Bool.and_eq_true] at hp
  have h1 := plain_star hp.1 es X.env
  have h2 := stars_none hp.2 pos X.env
  subst hb
  have hG := S.gl hg
  have hM := S.free _ hm
  cases b with
  | len => exact ⟨pe_imp (pe_callB cr_lens hG hM (by decide +kernel) ha (by decide) (by decide) h1 h2) fun _ _ _ => t_blt cd_len, fun z => absurd z (by decide), fun z => absurd z (by decide)⟩
  | min2 => exact ⟨pe_imp (pe_callB (call_min2 S.calm) hG hM (by decide +kernel) ha (by decide) (by decide) h1 h2) fun _ _ _ => t_blt cd_min2, fun z => absurd z (by decide), fun z => absurd z (by decide)⟩
  | max2 => exact ⟨pe_imp (pe_callB (call_max2 S.calm) hG hM (by decide +kernel) ha (by decide) (by decide) h1 h2) fun _ _ _ => t_blt cd_max2, fun z => absurd z (by decide), fun z => absurd z (by decide)⟩
  | sum => exact ⟨pe_imp (pe_callB ((cr_sum S.calm).or (cr_sumT S.calm)) hG hM (by decide +kernel) ha (by decide) (by decide) h1 h2) fun _ _ _ => t_blt cd_sum, fun z => absurd z (by decide), fun z => absurd z (by decide)⟩
  | all => exact ⟨pe_imp (pe_callB (cr_all S.calm) hG hM (by decide +kernel) ha (by decide) (by decide) h1 h2) fun _ _ _ => t_blt cd_all, fun z => absurd z (by decide), fun z => absurd z (by decide)⟩
  | any => exact ⟨pe_imp (pe_callB (cr_any S.calm) hG hM (by decide +kernel) ha (by decide) (by decide) h1 h2) fun _ _ _ => t_blt cd_any, fun z => absurd z (by decide), fun z => absurd z (by decide)⟩
  | maxL => exact ⟨pe_imp (pe_callB (((cr_max S.calm).or (cr_maxT S.calm S.rm.units)).or (cr_topK S.calm)) hG hM (by decide +kernel) ha (by decide) (by decide) h1 h2) fun _ _ _ => t_blt cd_maxL, fun z => absurd z (by decide), fun z => absurd z (by decide)⟩
  | minL => exact ⟨pe_imp (pe_callB ((((cr_min S.calm).or (cr_minT S.calm S.rm.units)).or (cr_minP S.calm S.rm.units)).or (cr_minK S.calm)) hG hM (by decide +kernel) ha (by decide) (by decide) h1 h2) fun _ _ _ => t_blt cd_minL, fun z => absurd z (by decide), fun z => absurd z (by decide)⟩
  | tuple => exact ⟨pe_imp (pe_callTy call_tuple_of hG hM (by decide +kernel) ha (by decide) (by decide) h1 h2) fun _ _ _ => t_blt cd_tuple, fun z => absurd z (by decide),
      fun _ => pe_imp (pe_callTy call_otp hG hM (by decide +kernel) ha (by decide) (by decide) h1 h2) fun _ _ _ => t_blt cd_otp⟩
  | int => exact ⟨pe_imp (pe_callTy call_int1 hG hM (by decide +kernel) ha (by decide) (by decide) h1 h2) fun _ _ _ => t_blt cd_int, fun z => absurd z (by decide), fun z => absurd z (by decide)⟩
  | abs => exact ⟨pe_imp (pe_callB call_abs hG hM (by decide +kernel) ha (by decide) (by decide) h1 h2) fun _ _ _ => t_blt cd_abs, fun z => absurd z (by decide), fun z => absurd z (by decide)⟩
  | sorted => exact ⟨pe_imp (pe_callB (cr_sortedI.or (cr_sortTI S.rm.units)) hG hM (by decide +kernel) ha (by decide) (by decide) h1 h2) fun _ _ _ => t_blt cd_sorted, fun z => absurd z (by decide), fun z => absurd z (by decide)⟩
  | repr => exact ⟨pe_imp (pe_callB (cr_repr S.gd (by have := S.rm.un; omega)) hG hM (by decide +kernel) ha (by decide) (by decide) h1 h2) fun _ _ _ => t_blt cd_repr, fun z => absurd z (by decide), fun z => absurd z (by decide)⟩
  | max3 => exact ⟨pe_imp (pe_callB (call_max3Nu S.calm) hG hM (by decide +kernel) ha (by decide) (by decide) h1 h2) fun _ _ _ => t_blt cd_max3, fun z => absurd z (by decide), fun z => absurd z (by decide)⟩
  | list =>
    exact ⟨pe_imp (pe_callTy call_list_of hG hM (by decide +kernel) ha (by decide) (by decide) h1 h2) fun _ _ _ => t_blt cd_list,
      fun _ => pe_imp (pe_callTy call_list_of hG hM (by decide +kernel) ha (by decide) (by decide) h1 h2) fun _ _ _ => t_mlist, fun z => absurd z (by decide)⟩
def kwE (fa : DE) : Option Bool → DE
  | some true => eBlt gSortRev (aCons fa aNil)
  | some false => eBlt gSortLen (aCons fa aNil)
  | none => eBlt gMinD (aCons fa aNil)
theorem kw_ok (S : Stat C k c X) {x : Str} {es : List Expr} {kws : List Keyword} {a : Expr} {b : Option Bool} {fa : DE} {p pos : Pos} (hk : kwP x es kws = some (a, b)) (hg : glB c.sc x = true) (hm : x ∈ c.blt) (hl : b = some false → glB c.sc "len" = true ∧ ("len" : Str) ∈ c.blt) (ha : PE X a (tE X.K fa)) (hp : plainE a = true) :
    PE X (.Call (.Name x p) es kws pos) (tE X.K (kwE fa b)) := by
  unfold kwP at hk
  split at hk
  · next hx =>
    have hx := of_decide_eq_true hx
    subst hx
    have hs := plain_star hp [] X.env
    have hn : (backTo pos (starEach [a] X.env)).any (·.1) = false := stars_none (by simp [hp]) pos X.env
    have he : backTo pos (starEach [a] X.env) = (false, eval a X.env) :: backTo pos (starEach [] X.env) := by rw [hs]; rfl
    split at hk
    · split at hk
      · next hc =>
        simp only [Bool.and_eq_true, decide_eq_true_eq] at hc
        obtain ⟨rfl, rfl⟩ := hc
        cases hk
        obtain ⟨l1, l2⟩ := hl rfl
        refine pe_imp (pe_sortLen (S.gl hg) (S.free _ hm) (S.gl l1) (S.free _ l2) ha he hn (pa_cons ha pa_nil hs)) fun σ H Q hh => ?_
        obtain ⟨r, m, st, env, d, st', g, e, f, q⟩ := t_blt cd_sortLen hh
        exact pa_len1' ⟨r, m, st, env, d, st', g, e, f, q⟩
      · cases hk
    · split at hk
      · next hc =>
        have hc := of_decide_eq_true hc
        subst hc
        cases hk
        refine pe_imp (pe_callBK (cr_sortedRev (b := true)) (S.gl hg) (S.free _ hm) (by decide +kernel) (pa_cons ha pa_nil hs) (pk_cons pe_bl pk_nil) (by decide) (by decide) he hn) fun σ H Q hh => ?_
        obtain ⟨r, m, st, env, d, st', g, e, f, q⟩ := t_sortRev hh
        exact pa_len1' ⟨r, m, st, env, d, st', g, e, f, q⟩
      · cases hk
    · cases hk
  · split at hk
    · next hx =>
      have hx := of_decide_eq_true hx
      subst hx
      have hs := plain_star hp [] X.env
      have hn : (backTo pos (starEach [a] X.env)).any (·.1) = false := stars_none (by simp [hp]) pos X.env
      have he : backTo pos (starEach [a] X.env) = (false, eval a X.env) :: backTo pos (starEach [] X.env) := by rw [hs]; rfl
      split at hk
      · split at hk
        · next hc =>
          have hc := of_decide_eq_true hc
          subst hc
          cases hk
          refine pe_imp (pe_callBK (cr_minD S.calm S.rm.units) (S.gl hg) (S.free _ hm) (by decide +kernel) (pa_cons ha pa_nil hs) (pk_cons pe_non pk_nil) (by decide) (by decide) he hn) fun σ H Q hh => ?_
          obtain ⟨r, m, st, env, d, st', g, e, f, q⟩ := t_minD hh
          exact pa_len1' ⟨r, m, st, env, d, st', g, e, f, q⟩
        · cases hk
      · cases hk
    · cases hk
theorem isi_ok (S : Stat C k c X) {y : Str} {t : Ty} (h : tyOf y = some t) {a : Expr} {fa : DE} {p py pos : Pos} (hg : glB c.sc "isinstance" = true) (hm : ("isinstance" : Str) ∈ c.blt) (gy : glB c.sc y = true) (my : y ∈ c.blt) (ha : PE X a (tE X.K fa)) (hp : plainE a = true) :
    PE X (.Call (.Name "isinstance" p) [a, .Name y py] [] pos) (tE X.K (eIsi t fa)) := by
  unfold tyOf at h
  have hb : decide (Str.ofString t.name = y) = true := List.find?_some (p := fun t : Ty => decide (Str.ofString t.name = y)) h
  have hb := of_decide_eq_true hb
  subst hb
  have hT : PE X (.Name (Str.ofString t.name) py) (tC (.ty t.name)) := by
    have hG := S.gl gy
    have hM := S.free _ my
    cases t with
    | int => exact pe_bltn hG hM (u := .type "int") (by decide +kernel) rfl (by decide) (by decide)
    | bool => exact pe_bltn hG hM (u := .type "bool") (by decide +kernel) rfl (by decide) (by decide)
    | str => exact pe_bltn hG hM (u := .type "str") (by decide +kernel) rfl (by decide) (by decide)
    | tuple => exact pe_bltn hG hM (u := .type "tuple") (by decide +kernel) rfl (by decide) (by decide)
    | list => exact pe_bltn hG hM (u := .type "list") (by decide +kernel) rfl (by decide) (by decide)
  exact pe_imp (pe_callB call_isi (S.gl hg) (S.free _ hm) (by decide +kernel) (pa_cons ha (pa_cons hT pa_nil) (plain_star hp _ _)) (by decide) (by decide) (plain_star hp _ _) rfl) fun _ _ _ => t_isi
end
section
variable {C : Orc} {k : Nat} {c : Ct} {X : Cx}
theorem recv_base {o : Expr} (h : recvE o = true) (m : Str) (env : Env) : attributeBase o m env (eval o env) = eval o env := by
  unfold recvE at h
  split at h
  · rfl
  · rfl
  · rfl
  · rfl
  · cases h
theorem recv_call {o : Expr} (h : recvE o = true) {m : Str} {apos cpos : Pos} (hl : apos.endLine = cpos.line) (es : List Expr) (env : Env) (hf : methodCallForm (es.length + ([] : List Keyword).length) (backTo cpos (starEach es env)) (backToKw cpos (keywordEach [] env)) = true) : ∃ pl : Sem Bool, eval (.Call (.Attribute o m apos) es [] cpos) env = (do
      let ov ← eval o env
      standAt apos.atName
      let (f, first) ← holding [ov] (getMethod ov m pl)
      callWith cpos f first (backTo cpos (starEach es env)) (backToKw cpos (keywordEach [] env))) := by
  refine ⟨(do return (← importBound o env).getD true), ?_⟩
  have e0 : eval (.Call (.Attribute o m apos) es [] cpos) env = (do
      let ov ← attributeBase o m env (eval o env)
      standAt apos.atName
      methodCall o m apos cpos env ov (es.length + ([] : List Keyword).length) (backTo cpos (starEach es env)) (backToKw cpos (keywordEach [] env))) := rfl
  have e1 : methodCallPos true o env apos cpos = pure cpos := by
    unfold methodCallPos
    rw [hl, beq_self_eq_true]
    rfl
  rw [e0, recv_base h]
  unfold methodCall
  rw [hf, e1]
  rfl
end
end Tg
namespace Tg
open PySem PySem.Spec PyProof.Rows L2
structure Snd (C : Orc) (n : Nat) : Prop where
  E : ∀ e c f k X, Stat C k c X → cE C n e c = some f → PE X e (tE X.K f) ∧ plainE e = true
  BE : ∀ op es c f k X pos, Stat C k c X → cBE C n op es c = some f → PE X (.BoolOp op es pos) (tE X.K f)
  BT : ∀ op es c f k X pos, Stat C k c X → cBT C n op es c = some f → PW X (.BoolOp op es pos) (tBo X.K f)
  T : ∀ e c f k X, Stat C k c X → cT C n e c = some f → PT X e (tBo X.K f)
  A : ∀ es c f k X, Stat C k c X → cA C n es c = some f → PA X es (tAr X.K f) ∧ es.all plainE = true ∧ ∀ env st ds st', f env st = some (ds, st') → ds.length = es.length
  O : ∀ e c f k X, Stat C k c X → cO C n e c = some f → PO X e (tOo X.K f)
  I : ∀ tg e c f k X, Stat C k c X → cI C n tg e c = some f → PI X tg e (tI X.K f)
  G : ∀ e c g k X, Stat C k c X → cG C n e c = some g → PG X e (tG X.K g.1 g.2) ∧ plainE e = true
  Gs : ∀ es c g k X, Stat C k c X → cGs C n es c = some g → PGs X es (tGs X.K g.1 g.2) ∧ es.all plainE = true
  If : ∀ es c f k X, Stat C k c X → cIf C n es c = some f → PTs X es (tBo X.K f)
  Lc : ∀ elt tg iter ifs scope pos c q k X, Stat C k c X → cLc C n elt tg iter ifs scope pos c = some q → PE X (.ListComp elt [⟨tg, iter, ifs, 0⟩] scope pos) (tE X.K q.2) ∧
    ∀ i y py spos, X.N[i]? = some y → X.env.scope.names.lookup y = some .local → swapsWith (.ListComp elt [⟨tg, iter, ifs, 0⟩] scope pos) (some (.Name y py)) spos.line X.env = pure true →
      PS X (.Assign [.Name y py] (.ListComp elt [⟨tg, iter, ifs, 0⟩] scope pos) spos) (tAsg (tE X.K q.2) (gName i))
  Lc2 : ∀ elt tg iter ifs tg1 x xp es cp ifs1 scope pos c q k X, Stat C k c X → cLc2 C n elt tg iter ifs tg1 x es ifs1 scope pos c = some q → PE X (.ListComp elt [⟨tg, iter, ifs, 0⟩, ⟨tg1, .Call (.Name x xp) es [] cp, ifs1, 0⟩] scope pos) (tE X.K q.2) ∧
    ∀ i y py spos, X.N[i]? = some y → X.env.scope.names.lookup y = some .local → swapsWith (.ListComp elt [⟨tg, iter, ifs, 0⟩, ⟨tg1, .Call (.Name x xp) es [] cp, ifs1, 0⟩] scope pos) (some (.Name y py)) spos.line X.env = pure true →
      PS X (.Assign [.Name y py] (.ListComp elt [⟨tg, iter, ifs, 0⟩, ⟨tg1, .Call (.Name x xp) es [] cp, ifs1, 0⟩] scope pos) spos) (tAsg (tE X.K q.2) (gName i))
section
variable {X : Cx} {K : Fg}
theorem pts_imp {es : List Expr} {t t' : TT} (h : PTs X es t) (q : ∀ σ H Q, t' σ H Q → t σ H Q) : PTs X es t' := ⟨fun pins s σ H Q I w => h.run pins s σ H Q I (q _ _ _ w)⟩
theorem po_imp {e : Option Expr} {t t' : TO} (h : PO X e t) (q : ∀ σ H Q, t' σ H Q → t σ H Q) : PO X e t' := ⟨fun pins s σ H Q I w => h.run pins s σ H Q I (q _ _ _ w)⟩
theorem t_yes {σ : L2.St} {H : Hp} {Q : Bool → Hp → Prop} (h : tBo K bYes σ H Q) : tYes σ H Q := by
  obtain ⟨r, m, st, env, b, st', g, e, f, q⟩ := h
  cases f
  exact q m H (Le.refl m H) g
theorem ta_imp {D : Ends} {σ : L2.St} {H : Hp} {t t' : TE} {g : TG} (q : ∀ σ H Q, t' σ H Q → t σ H Q) (h : tAsg t' g D σ H) : tAsg t g D σ H := q _ _ _ h
end
theorem pa_len1 {K : Fg} {σ : L2.St} {H : Hp} {fa : DE} {Q : List V → Hp → Prop} (h : tAr K (aCons fa aNil) σ H Q) : tCons (tE K fa) tNil σ H Q := by
  have := t_cons h
  obtain ⟨r, m, st, env, d, st', g, e, f, q⟩ := this
  exact ⟨r, m, st, env, d, st', g, e, f, fun m1 H1 v l g1 d1 => t_nil (q m1 H1 v l g1 d1)⟩
theorem each_plain {es : List Expr} (h : es.all plainE = true) (env : Env) : (assignEach es env).length = es.length ∧ (assignEach es env).findIdx? (·.1) = none := by
  induction es with
  | nil => exact ⟨rfl, rfl⟩
  | cons e es ih =>
    rw [List.all_cons, Bool.and_eq_true] at h
    obtain ⟨a, b⟩ := ih h.2
    rw [plain_each h.1]
    refine ⟨by rw [List.length_cons, List.length_cons, a], ?_⟩
    rw [List.findIdx?_cons, b]
    rfl
theorem sub_assign {i : Expr} (h : plainE i = true) (o : Expr) (pos : Pos) (env : Env) (v : Value) : assign (.Subscript o i pos) env v = (do
    let ov ← holding [v] (eval o env)
    let iv ← holding [v, ov] (eval i env)
    standAt pos
    holding [v, ov, iv] (setItem ov iv v)
    release [v, ov, iv] []) := by
  cases i <;> first | rfl | cases h
theorem mth_ok {X : Cx} {o : Expr} {apos cpos : Pos} {m : Str} {a : Expr} {mt : Mth} {fo fa : DE} (hv : recvE o = true) (hm : mthOf m = some mt) (hl : apos.endLine = cpos.line) (q1 : PE X o (tE X.K fo)) (q2 : PE X a (tE X.K fa) ∧ plainE a = true) :
    PE X (.Call (.Attribute o m apos) [a] [] cpos) (tE X.K (mt.e fo fa)) := by
  obtain ⟨q2, p2⟩ := q2
  have hs := plain_star p2 [] X.env
  have key : ∀ {T id : String} {nm : Str} {r : V → List V → Hp → VK → Prop} {f : DE}, PySem.PlainAttrs T → PySem.Slot T nm id → typeOf (.builtin id) = pure (.type "method_descriptor") → MtR X id r →
      (∀ σ H Q, tE X.K f σ H Q → tBM X.K T r (tE X.K fo) (tAr X.K (aCons fa aNil)) σ H Q) → PE X (.Call (.Attribute o nm apos) [a] [] cpos) (tE X.K f) := by
    intro T id nm r f pA sl ty mr imp
    refine pe_imp (pe_bm pA sl ty mr q1 (pa_cons q2 pa_nil hs) (recv_base hv nm X.env) (by rw [hs]; rfl) (by rw [hl]; exact beq_self_eq_true _) hs rfl) fun σ H Q hh => ?_
    obtain ⟨r, mm, st, env, d, st', g, e, f, q⟩ := imp σ H Q hh
    exact ⟨r, mm, st, env, d, st', g, e, f, fun m1 H1 v l g1 d1 => ⟨(q m1 H1 v l g1 d1).1, pa_len1 (q m1 H1 v l g1 d1).2⟩⟩
  unfold mthOf at hm
  split at hm
  · next h =>
    cases hm
    rw [of_decide_eq_true h]
    exact key PySem.F.plainAttrs_list PySem.F.slot_list_append PySem.F.type_list_append mt_append fun _ _ _ => t_append
  · split at hm
    · next h =>
      cases hm
      rw [of_decide_eq_true h]
      exact key PySem.F.plainAttrs_list PySem.F.slot_list_extend PySem.F.type_list_extend mt_extend fun _ _ _ => t_extend
    · split at hm
      · next h =>
        cases hm
        rw [of_decide_eq_true h]
        exact key PySem.F.plainAttrs_list PySem.F.slot_list_pop PySem.F.type_list_pop mt_popAt fun _ _ _ => t_popAt
      · split at hm
        · next h =>
          cases hm
          rw [of_decide_eq_true h]
          refine pe_imp (pe_ixA q1 (pa_cons q2 pa_nil hs) (recv_base hv "index" X.env) (by rw [hs]; rfl) (by rw [hl]; exact beq_self_eq_true _) hs) fun σ H Q hh => ?_
          obtain ⟨r, mm, st, env, d, st', g, e, f, q⟩ := t_ixA hh
          exact ⟨r, mm, st, env, d, st', g, e, f, fun m1 H1 v l g1 d1 => (q m1 H1 v l g1 d1).imp (fun z => ⟨z.1, pa_len1 z.2⟩) fun z => ⟨z.1, pa_len1 z.2⟩⟩
        · cases hm
theorem rng_ok {C : Orc} {k : Nat} {c : Ct} {X : Cx} (S : Stat C k c X) {x : Str} {es : List Expr} {l : Bool} {a : Expr} {p pos : Pos} {fa : DE} (hr : rngP x es = some (l, a)) (hg : glB c.sc x = true) (hm : x ∈ c.blt) (hg2 : glB c.sc "range" = true) (hm2 : ("range" : Str) ∈ c.blt) (qa : PE X a (tE X.K fa) ∧ plainE a = true) :
    PE X (.Call (.Name x p) es [] pos) (tE X.K (if l then (if muB c pos then eRgM fa else eRgL fa) else eRgT fa)) := by
  obtain ⟨q1, p1⟩ := qa
  unfold rngP at hr
  split at hr
  · next hx =>
    split at hr
    · next y py a' pr =>
      split at hr
      · next hy =>
        cases hr
        have hy := of_decide_eq_true hy
        subst hy
        have pr1 : PRg X (.Call (.Name "range" py) [a] [] pr) (tRg1 (tE X.K fa)) := prg_1 (S.gl hg2) (S.free _ hm2) q1 (plain_star p1 _ _)
        have hs : starEach [.Call (.Name "range" py) [a] [] pr] X.env = (false, eval (.Call (.Name "range" py) [a] [] pr) X.env) :: starEach [] X.env := rfl
        by_cases hxl : x = "list"
        · subst hxl
          rw [decide_eq_true rfl, if_pos rfl]
          split
          · exact pe_imp (pe_listRg S.calm (S.gl hg) (S.free _ hm) pr1 hs) fun _ _ _ => t_rgM
          · exact pe_imp (pe_listRg S.calm (S.gl hg) (S.free _ hm) pr1 hs) fun _ _ _ => t_rgL
        · rw [decide_eq_false hxl, if_neg Bool.false_ne_true]
          rw [decide_eq_false hxl, Bool.false_or] at hx
          have hx := of_decide_eq_true hx
          subst hx
          exact pe_imp (pe_tupRg S.calm (S.gl hg) (S.free _ hm) pr1 hs) fun _ _ _ => t_rgT
      · cases hr
    · cases hr
  · cases hr
theorem srt_ok {C : Orc} {k : Nat} {c : Ct} {X : Cx} (S : Stat C k c X) {x : Str} {es : List Expr} {a : Expr} {p pos : Pos} {fa : DE} (hr : srtP x es = some a) (hg : glB c.sc x = true) (hm : x ∈ c.blt) (hg2 : glB c.sc "set" = true) (hm2 : ("set" : Str) ∈ c.blt) (qa : PE X a (tE X.K fa) ∧ plainE a = true) :
    PE X (.Call (.Name x p) es [] pos) (tE X.K (eBlt gSoSet (aCons fa aNil))) := by
  obtain ⟨q1, p1⟩ := qa
  unfold srtP at hr
  split at hr
  · next hx =>
    have hx := of_decide_eq_true hx
    subst hx
    split at hr
    · next y py a' pr =>
      split at hr
      · next hy =>
        cases hr
        have hy := of_decide_eq_true hy
        subst hy
        exact pe_imp (pe_soSet S.calm (S.gl hg) (S.free _ hm) (S.gl hg2) (S.free _ hm2) q1 (plain_star p1 _ _)) fun _ _ _ => t_soSet
      · cases hr
    · cases hr
  · cases hr
theorem rng2_ok {C : Orc} {k : Nat} {c : Ct} {X : Cx} (S : Stat C k c X) {x : Str} {es : List Expr} {a b : Expr} {p pos : Pos} {fa fb : DE} (hr : rng2P x es = some (a, b)) (hg : glB c.sc x = true) (hm : x ∈ c.blt) (hg2 : glB c.sc "range" = true) (hm2 : ("range" : Str) ∈ c.blt) (qa : PE X a (tE X.K fa) ∧ plainE a = true) (qb : PE X b (tE X.K fb) ∧ plainE b = true) :
    PE X (.Call (.Name x p) es [] pos) (tE X.K (eRgL2 fa fb)) := by
  obtain ⟨q1, p1⟩ := qa
  obtain ⟨q2, p2⟩ := qb
  unfold rng2P at hr
  split at hr
  · next hx =>
    have hx := of_decide_eq_true hx
    subst hx
    split at hr
    · next y py a' b' pr =>
      split at hr
      · next hy =>
        cases hr
        have hy := of_decide_eq_true hy
        subst hy
        have pr1 : PRg X (.Call (.Name "range" py) [a, b] [] pr) (tRg2 (tE X.K fa) (tE X.K fb)) := prg_2 (S.gl hg2) (S.free _ hm2) q1 q2 (plain_star p1 _ _) (plain_star p2 _ _) (stars_none (by simp [p2]) _ _)
        exact pe_imp (pe_listRg S.calm (S.gl hg) (S.free _ hm) pr1 rfl) fun _ _ _ => t_rgL2
      · cases hr
    · cases hr
  · cases hr
theorem lz_ok {C : Orc} {k : Nat} {c : Ct} {X : Cx} (S : Stat C k c X) {x : Str} {es : List Expr} {a b : Expr} {p pos : Pos} {fa fb : DE} (hr : lzP x es = some (a, b)) (hg : glB c.sc x = true) (hm : x ∈ c.blt) (hg2 : glB c.sc "zip" = true) (hm2 : ("zip" : Str) ∈ c.blt) (qa : PE X a (tE X.K fa) ∧ plainE a = true) (qb : PE X b (tE X.K fb) ∧ plainE b = true) :
    PE X (.Call (.Name x p) es [] pos) (tE X.K (eLZ fa fb)) := by
  obtain ⟨q1, p1⟩ := qa
  obtain ⟨q2, p2⟩ := qb
  unfold lzP at hr
  split at hr
  · next hx =>
    have hx := of_decide_eq_true hx
    subst hx
    split at hr
    · next y py a' b' pr =>
      split at hr
      · next hy =>
        cases hr
        have hy := of_decide_eq_true hy
        subst hy
        have pa2 : PA X [a, b] (tAr X.K (aCons fa (aCons fb aNil))) := pa_imp (pa_cons q1 (pa_imp (pa_cons q2 (pa_imp pa_nil fun _ _ _ => t_nil) (plain_star p2 _ _)) fun _ _ _ => t_cons) (plain_star p1 _ _)) fun _ _ _ => t_cons
        exact pe_imp (pe_listZip S.calm (S.gl hg) (S.free _ hm) (S.gl hg2) (S.free _ hm2) pa2 (plain_star p1 _ _) (by rw [plain_star p2]; rfl) rfl) fun _ _ _ => t_listZip
      · cases hr
    · cases hr
  · cases hr
theorem form_ok {es : List Expr} (hp : es.all plainE = true) (hl : es.length ≤ 20) (pos : Pos) (env : Env) : methodCallForm (es.length + ([] : List Keyword).length) (backTo pos (starEach es env)) (backToKw pos (keywordEach [] env)) = true := by
  unfold methodCallForm
  have h1 : (backTo pos (starEach es env)).any (·.1) = false := stars_none hp pos env
  have h2 : (backTo pos (starEach es env)).all (fun x => !x.1) = true := by
    rw [List.all_eq_true]
    intro x hx
    rw [List.any_eq_false] at h1
    have := h1 x hx
    simpa using this
  rw [h2]
  show (true && true && decide _) = true
  rw [Bool.true_and, Bool.true_and, decide_eq_true_eq]
  show es.length + 0 + 0 < 30
  omega
theorem umth_ok {C : Orc} {k : Nat} {c : Ct} {X : Cx} (S : Stat C k c X) {o : Expr} {apos cpos : Pos} {m x : Str} {id : String} {j : Nat} {es : List Expr} {fo : DE} {fa : DA} (hv : recvE o = true) (hm : c.ob.mt.lookup m = some (x, id, j)) (h0 : es = [] → fa = aNil) (hj : es.length = j) (h20 : j ≤ 20) (hl : apos.endLine = cpos.line)
    (q1 : PE X o (tE X.K fo)) (q2 : PA X es (tAr X.K fa) ∧ es.all plainE = true ∧ ∀ env st ds st', fa env st = some (ds, st') → ds.length = es.length) : PE X (.Call (.Attribute o m apos) es [] cpos) (tE X.K (eMth C x id m fo fa)) := by
  obtain ⟨q2, p2, l2⟩ := q2
  subst hj
  obtain ⟨cl, f, fd, ps, m1, m2, F⟩ := S.mths m x id _ hm
  obtain ⟨pl, ht⟩ := recv_call hv hl es X.env (m := m) (form_ok p2 h20 cpos X.env)
  cases es with
  | nil =>
    refine pe_imp (pe_methG0 (pl := pl) q1 cl m1 F S.gd S.rm1 m2 ht) fun σ H Q hh => ?_
    obtain ⟨r, mm, st, env, d, st', g, e, f, q⟩ := t_mth l2 hh
    refine ⟨r, mm, st, env, d, st', g, e, f, fun m1 H1 v l g1 d1 => ?_⟩
    obtain ⟨a, dx, fs, z1, z2, z3, z4⟩ := q m1 H1 v l g1 d1
    refine ⟨a, dx, fs, z1, z2, z3, ?_⟩
    have e0 := h0 rfl
    subst e0
    exact t_nil z4
  | cons e es =>
    rw [List.all_cons, Bool.and_eq_true] at p2
    exact pe_imp (pe_methG (pl := pl) q1 cl m1 F S.gd S.rm1 m2 q2 (plain_star p2.1 _ _) (stars_none p2.2 _ _) ht) fun _ _ _ => t_mth l2
theorem sound (C : Orc) : ∀ n, Snd C n := by
  intro n
  induction n with
  | zero =>
    constructor
    · intro e c f k X S h; unfold cE at h; cases h
    · intro op es c f k X pos S h; unfold cBE at h; cases h
    · intro op es c f k X pos S h; unfold cBT at h; cases h
    · intro e c f k X S h; unfold cT at h; cases h
    · intro es c f k X S h; unfold cA at h; cases h
    · intro e c f k X S h; unfold cO at h; cases h
    · intro tg e c f k X S h; unfold cI at h; cases h
    · intro e c g k X S h; unfold cG at h; cases h
    · intro es c g k X S h; unfold cGs at h; cases h
    · intro es c f k X S h; unfold cIf at h; cases h
    · intro elt tg iter ifs scope pos c q k X S h; unfold cLc at h; cases h
    · intro elt tg iter ifs tg1 x xp es cp ifs1 scope pos c q k X S h; unfold cLc2 at h; cases h
  | succ n ih =>
    constructor
    · -- expressions
      intro e c f k X S h
      unfold cE at h
      split at h
      · next hp =>
        refine ⟨?_, hp⟩
        split at h
        · next x pos =>
          split at h
          · next hx =>
            obtain ⟨h1, h2, h3⟩ := okNm_ok hx
            split at h
            · next i hi =>
              split at h
              · next hv =>
                cases h
                exact pe_imp (pe_var (S.at_ hi) (by rw [S.sc]; exact visB_ok hv) h1 h2) fun _ _ _ => t_var
              · cases h
            · split at h
              · next hg =>
                split at h
                · next d hd =>
                  cases h
                  obtain ⟨u, v, m1, r1, d1⟩ := S.csts x d hd
                  exact pe_imp (pe_glob (S.gl hg) m1 r1 h1) fun _ _ _ => t_c d1
                · cases h
              · cases h
          · cases h
        · cases h; exact pe_imp pe_int fun _ _ _ => t_c fun _ _ _ => rfl
        · cases h; exact pe_imp pe_bl fun _ _ _ => t_c fun _ _ _ => rfl
        · cases h; exact pe_imp pe_non fun _ _ _ => t_c fun _ _ _ => rfl
        · cases h; exact pe_imp pe_str fun _ _ _ => t_c fun _ _ _ => rfl
        · obtain ⟨o, ho, h⟩ := Option.bind_eq_some_iff.mp h
          obtain ⟨fa, h1, h⟩ := Option.bind_eq_some_iff.mp h
          obtain ⟨fb, h2, h⟩ := Option.map_eq_some_iff.mp h
          cases h
          split
          · next hm =>
            have ha := (Bool.and_eq_true_iff.mp hm).2
            unfold addB at ha
            split at ha
            · exact pe_imp (pe_op op_adds (ih.E _ _ _ _ _ S h1).1 (ih.E _ _ _ _ _ S h2).1) fun _ _ _ => t_cat
            · cases ha
          · split
            · next hm =>
              have ha := (Bool.and_eq_true_iff.mp hm).2
              unfold mulB at ha
              split at ha
              · exact pe_imp (pe_op op_muls (ih.E _ _ _ _ _ S h1).1 (ih.E _ _ _ _ _ S h2).1) fun _ _ _ => t_repM
              · cases ha
            exact bin_ok S ho (ih.E _ _ _ _ _ S h1).1 (ih.E _ _ _ _ _ S h2).1
        · obtain ⟨fa, h1, h⟩ := Option.map_eq_some_iff.mp h
          cases h
          exact pe_imp (pe_un un_neg (ih.E _ _ _ _ _ S h1).1) fun _ _ _ => t_un ud_neg
        · obtain ⟨fa, h1, h⟩ := Option.map_eq_some_iff.mp h
          cases h
          exact pe_imp (pe_not (ih.E _ _ _ _ _ S h1).1) fun _ _ _ => t_not
        · exact ih.BE _ _ _ _ _ _ _ S h
        · obtain ⟨o, ho, h⟩ := Option.bind_eq_some_iff.mp h
          obtain ⟨fa, h1, h⟩ := Option.bind_eq_some_iff.mp h
          obtain ⟨fb, h2, h⟩ := Option.map_eq_some_iff.mp h
          cases h
          obtain ⟨rr, a1, a2⟩ := cmp_ok S ho
          obtain ⟨q2, p2⟩ := ih.E _ _ _ _ _ S h2
          exact pe_imp (pe_cmpR a1 (ih.E _ _ _ _ _ S h1).1 q2 (plain_mark p2 _)) fun _ _ _ => t_op a2
        · obtain ⟨o, ho, h⟩ := Option.bind_eq_some_iff.mp h
          obtain ⟨o', ho', h⟩ := Option.bind_eq_some_iff.mp h
          obtain ⟨fa, h1, h⟩ := Option.bind_eq_some_iff.mp h
          obtain ⟨fb, h2, h⟩ := Option.bind_eq_some_iff.mp h
          obtain ⟨fc, h3, h⟩ := Option.map_eq_some_iff.mp h
          cases h
          obtain ⟨rr, a1, a2⟩ := cmp_ok S ho
          obtain ⟨rr', b1, b2⟩ := cmp_ok S ho'
          obtain ⟨q2, p2⟩ := ih.E _ _ _ _ _ S h2
          obtain ⟨q3, p3⟩ := ih.E _ _ _ _ _ S h3
          refine pe_imp (pe_chain a1 b1 (ih.E _ _ _ _ _ S h1).1 q2 q3 ?_) fun _ _ _ => t_chain a2 b2
          exact plain_mark p3 _
        · obtain ⟨o, ho, h⟩ := Option.bind_eq_some_iff.mp h
          obtain ⟨o', ho', h⟩ := Option.bind_eq_some_iff.mp h
          obtain ⟨o'', ho'', h⟩ := Option.bind_eq_some_iff.mp h
          obtain ⟨fa, h1, h⟩ := Option.bind_eq_some_iff.mp h
          obtain ⟨fb, h2, h⟩ := Option.bind_eq_some_iff.mp h
          obtain ⟨fc, h3, h⟩ := Option.bind_eq_some_iff.mp h
          obtain ⟨fd, h4, h⟩ := Option.map_eq_some_iff.mp h
          cases h
          obtain ⟨rr, a1, a2⟩ := cmp_ok S ho
          obtain ⟨rr', b1, b2⟩ := cmp_ok S ho'
          obtain ⟨rr'', c1, c2⟩ := cmp_ok S ho''
          obtain ⟨q2, p2⟩ := ih.E _ _ _ _ _ S h2
          obtain ⟨q3, p3⟩ := ih.E _ _ _ _ _ S h3
          obtain ⟨q4, p4⟩ := ih.E _ _ _ _ _ S h4
          refine pe_imp (pe_chain3 a1 b1 c1 (ih.E _ _ _ _ _ S h1).1 q2 q3 q4 ?_) fun _ _ _ => t_chain3 a2 b2 c2
          exact plain_mark p4 _
        · obtain ⟨ft, h1, h⟩ := Option.bind_eq_some_iff.mp h
          obtain ⟨fa, h2, h⟩ := Option.bind_eq_some_iff.mp h
          obtain ⟨fb, h3, h⟩ := Option.map_eq_some_iff.mp h
          cases h
          exact pe_imp (pe_ifExp (ih.T _ _ _ _ _ S h1) (ih.E _ _ _ _ _ S h2).1 (ih.E _ _ _ _ _ S h3).1) fun _ _ _ => t_if
        · split at h
          · next hz =>
            obtain ⟨fa, h1, h⟩ := Option.map_eq_some_iff.mp h
            cases h
            obtain ⟨q1, p1, l1⟩ := ih.A _ _ _ _ _ S h1
            refine pe_imp (pe_tup q1) fun _ _ _ => t_tup fun env st ds st' e => ?_
            rw [l1 _ _ _ _ e]
            exact Nat.le_trans (of_decide_eq_true hz) (by decide)
          · cases h
        · split at h
          · next hz =>
            obtain ⟨fa, h1, h⟩ := Option.map_eq_some_iff.mp h
            cases h
            obtain ⟨q1, p1, l1⟩ := ih.A _ _ _ _ _ S h1
            have hl : ∀ env st ds st', fa env st = some (ds, st') → ds.length ≤ sizeLine := fun env st ds st' e => by
              rw [l1 _ _ _ _ e]
              exact Nat.le_trans (of_decide_eq_true hz) (by decide)
            split
            · exact pe_imp (pe_lst q1) fun _ _ _ => t_mlst hl
            · exact pe_imp (pe_lst q1) fun _ _ _ => t_lst hl
          · cases h
        · next a b pos =>
          split at h
          · next lo hi hs =>
            obtain ⟨fa, h1, h⟩ := Option.bind_eq_some_iff.mp h
            obtain ⟨fl, h2, h⟩ := Option.bind_eq_some_iff.mp h
            obtain ⟨fh, h3, h⟩ := Option.map_eq_some_iff.mp h
            cases h
            unfold sliceP at hs
            split at hs
            · cases hs
              exact pe_imp (pe_slice sl_all (ih.E _ _ _ _ _ S h1).1 (ih.O _ _ _ _ _ S h2) (ih.O _ _ _ _ _ S h3)) fun _ _ _ => t_sl
            · cases hs
          · split at h
            · next hr =>
              obtain ⟨fa, h1, h⟩ := Option.map_eq_some_iff.mp h
              cases h
              unfold revP at hr
              split at hr
              · exact pe_imp (pe_slS (ih.E _ _ _ _ _ S h1).1 po_none po_none (pe_un un_neg pe_int)) fun _ _ _ => t_rev
              · cases hr
            split at h
            · next lo hi s hr2 =>
              obtain ⟨fa, h1, h⟩ := Option.bind_eq_some_iff.mp h
              obtain ⟨fl, h2, h⟩ := Option.bind_eq_some_iff.mp h
              obtain ⟨fh, h3, h⟩ := Option.bind_eq_some_iff.mp h
              obtain ⟨fs, h4, h⟩ := Option.map_eq_some_iff.mp h
              cases h
              unfold stepP at hr2
              split at hr2
              · cases hr2
                exact pe_imp (pe_slS (ih.E _ _ _ _ _ S h1).1 (ih.O _ _ _ _ _ S h2) (ih.O _ _ _ _ _ S h3) (ih.E _ _ _ _ _ S h4).1) fun _ _ _ => t_slS
              · cases hr2
            obtain ⟨fa, h1, h⟩ := Option.bind_eq_some_iff.mp h
            obtain ⟨fb, h2, h⟩ := Option.map_eq_some_iff.mp h
            cases h
            obtain ⟨q2, p2⟩ := ih.E _ _ _ _ _ S h2
            exact pe_imp (pe_ix (ix_all S.un1) (ih.E _ _ _ _ _ S h1).1 q2 (plain_ix p2)) fun _ _ _ => t_op od_ix
        · next x p es pos =>
          split at h
          · next hx =>
            rw [Bool.and_eq_true] at hx
            obtain ⟨h1, h2, h3⟩ := okNm_ok hx.1
            split at h
            · next a y hi =>
              unfold isiP at hi
              split at hi
              · next hn =>
                have hn := of_decide_eq_true hn
                subst hn
                split at hi
                · cases hi
                  split at h
                  · next hc =>
                    simp only [Bool.and_eq_true, decide_eq_true_eq] at hc
                    obtain ⟨t, h4, h⟩ := Option.bind_eq_some_iff.mp h
                    obtain ⟨fa, h5, h⟩ := Option.map_eq_some_iff.mp h
                    cases h
                    obtain ⟨q1, p1⟩ := ih.E _ _ _ _ _ S h5
                    exact isi_ok S h4 hx.2 hc.1.2 hc.1.1.2 hc.2 q1 p1
                  · cases h
                · cases hi
              · cases hi
            · split at h
              · next l a hr =>
                split at h
                · next hc =>
                  simp only [Bool.and_eq_true, decide_eq_true_eq] at hc
                  obtain ⟨fa, h5, h⟩ := Option.map_eq_some_iff.mp h
                  cases h
                  exact rng_ok S hr hx.2 hc.1.2 hc.1.1 hc.2 (ih.E _ _ _ _ _ S h5)
                · cases h
              split at h
              · next a hr2 =>
                split at h
                · next hc =>
                  simp only [Bool.and_eq_true, decide_eq_true_eq] at hc
                  obtain ⟨fa, h5, h⟩ := Option.map_eq_some_iff.mp h
                  cases h
                  exact srt_ok S hr2 hx.2 hc.1.2 hc.1.1 hc.2 (ih.E _ _ _ _ _ S h5)
                · cases h
              split at h
              · next a b hr2 =>
                split at h
                · next hc =>
                  simp only [Bool.and_eq_true, decide_eq_true_eq, Bool.not_eq_true'] at hc
                  obtain ⟨fa, h5, h⟩ := Option.bind_eq_some_iff.mp h
                  obtain ⟨fb, h6, h⟩ := Option.map_eq_some_iff.mp h
                  cases h
                  exact rng2_ok S hr2 hx.2 hc.1.2 hc.1.1.2 hc.2 (ih.E _ _ _ _ _ S h5) (ih.E _ _ _ _ _ S h6)
                · cases h
              split at h
              · next a b hr2 =>
                split at h
                · next hc =>
                  simp only [Bool.and_eq_true, decide_eq_true_eq, Bool.not_eq_true'] at hc
                  obtain ⟨fa, h5, h⟩ := Option.bind_eq_some_iff.mp h
                  obtain ⟨fb, h6, h⟩ := Option.map_eq_some_iff.mp h
                  cases h
                  exact lz_ok S hr2 hx.2 hc.1.2 hc.1.1.2 hc.2 (ih.E _ _ _ _ _ S h5) (ih.E _ _ _ _ _ S h6)
                · cases h
              obtain ⟨fa, h4, h⟩ := Option.bind_eq_some_iff.mp h
              obtain ⟨q1, p1, l1⟩ := ih.A _ _ _ _ _ S h4
              unfold cC at h
              split at h
              · next id j hj =>
                split at h
                · next he =>
                  cases h
                  have he := of_decide_eq_true he
                  subst he
                  obtain ⟨fA, fd, ps, m1, m2, m3, F⟩ := S.funs x id _ hj
                  cases es with
                  | nil =>
                    refine pe_imp (pe_callG0 F S.gd S.rm1 (S.gl hx.2) m1 m2 m3 h1) fun σ H Q hh => ?_
                    have e0 : fa = aNil := by
                      cases n with
                      | zero => unfold cA at h4; cases h4
                      | succ n => unfold cA at h4; cases h4; rfl
                    subst e0
                    exact t_nil (t_call (n := 0) l1 hh)
                  | cons e es =>
                    rw [List.all_cons, Bool.and_eq_true] at p1
                    exact pe_imp (pe_callG F S.gd S.rm1 (S.gl hx.2) m1 m2 m3 q1 h1 (plain_star p1.1 _ _) (stars_none p1.2 _ _)) fun _ _ _ => t_call l1
                · cases h
              · next id j hj =>
                split at h
                · next he =>
                  cases h
                  simp only [Bool.and_eq_true, decide_eq_true_eq] at he
                  obtain ⟨he, hpos⟩ := he
                  subst he
                  obtain ⟨fA, fd, ps, m1, m2, m3, F⟩ := S.clss x id _ hj
                  cases es with
                  | nil => cases hpos
                  | cons e es =>
                    rw [List.all_cons, Bool.and_eq_true] at p1
                    exact pe_imp (pe_makeG m2 F S.gd S.rm (S.gl hx.2) m1 m3 q1 h1 (plain_star p1.1 _ _) (stars_none p1.2 _ _)) fun _ _ _ => t_make l1
                · cases h
              · split at h
                · next hm =>
                  obtain ⟨b, h5, h⟩ := Option.bind_eq_some_iff.mp h
                  cases h
                  cases es with
                  | nil =>
                    exfalso
                    unfold btOf at h5
                    have := List.find?_some h5
                    simp only [Bool.and_eq_true, decide_eq_true_eq] at this
                    cases b <;> cases this.2
                  | cons e es =>
                    obtain ⟨a1, a2, a3⟩ := bt_ok S h5 (p := p) (pos := pos) hx.2 (of_decide_eq_true hm) q1 p1
                    split
                    · next hc => exact a2 (of_decide_eq_true (Bool.and_eq_true_iff.mp hc).2)
                    · split
                      · next hc => exact a3 (of_decide_eq_true (Bool.and_eq_true_iff.mp hc).2)
                      · exact a1
                · cases h
          · cases h
        · next x p es kw kws pos =>
          split at h
          · next hx =>
            simp only [Bool.and_eq_true, decide_eq_true_eq] at hx
            split at h
            · next a hk =>
              split at h
              · next hc =>
                simp only [Bool.and_eq_true, decide_eq_true_eq] at hc
                obtain ⟨fa, h1, h⟩ := Option.map_eq_some_iff.mp h
                cases h
                obtain ⟨q1, p1⟩ := ih.E _ _ _ _ _ S h1
                exact kw_ok S hk hx.1.2 hx.2 (fun _ => hc) q1 p1
              · cases h
            · next a hk =>
              obtain ⟨fa, h1, h⟩ := Option.map_eq_some_iff.mp h
              cases h
              obtain ⟨q1, p1⟩ := ih.E _ _ _ _ _ S h1
              exact kw_ok S hk hx.1.2 hx.2 (fun z => by cases z) q1 p1
            · next a hk =>
              obtain ⟨fa, h1, h⟩ := Option.map_eq_some_iff.mp h
              cases h
              obtain ⟨q1, p1⟩ := ih.E _ _ _ _ _ S h1
              exact kw_ok S hk hx.1.2 hx.2 (fun z => by cases z) q1 p1
            · cases h
          · cases h
        · next o m apos es cpos =>
          split at h
          · next hc =>
            rw [Bool.and_eq_true] at hc
            split at h
            · next x id j hm =>
              split at h
              · next hj =>
                simp only [Bool.and_eq_true, decide_eq_true_eq] at hj
                obtain ⟨fo, h1, h⟩ := Option.bind_eq_some_iff.mp h
                obtain ⟨fa, h2, h⟩ := Option.map_eq_some_iff.mp h
                cases h
                refine umth_ok S hc.1 hm (fun e0 => ?_) hj.1 hj.2 (of_decide_eq_true hc.2) (ih.E _ _ _ _ _ S h1).1 (ih.A _ _ _ _ _ S h2)
                subst e0
                cases n with
                | zero => unfold cA at h2; cases h2
                | succ n => unfold cA at h2; cases h2; rfl
              · cases h
            · split at h
              · next a =>
                obtain ⟨fo, h1, h⟩ := Option.bind_eq_some_iff.mp h
                obtain ⟨fa, h2, h⟩ := Option.bind_eq_some_iff.mp h
                unfold mthE at h
                split at h
                · next hr =>
                  cases h
                  rw [of_decide_eq_true hr]
                  obtain ⟨q2, p2⟩ := ih.E _ _ _ _ _ S h2
                  have hs := plain_star p2 [] X.env
                  refine pe_imp (pe_remX (W := fun _ _ _ _ => False) S.calm (fun u s' z => ?_) (ih.E _ _ _ _ _ S h1).1 q2 (recv_base hc.1 _ _) (by rw [hs]; rfl) (by rw [of_decide_eq_true hc.2]; exact beq_self_eq_true _) hs rfl) fun _ _ _ => t_remove
                  obtain ⟨a, B, sI, pins, σ, H, cls, d, e, I, nb, up, sky, na, os, ag, w⟩ := z
                  exact False.elim w
                · obtain ⟨mt, hm, h⟩ := Option.map_eq_some_iff.mp h
                  cases h
                  exact mth_ok hc.1 hm (of_decide_eq_true hc.2) (ih.E _ _ _ _ _ S h1).1 (ih.E _ _ _ _ _ S h2)
              · split at h
                · next hm0 =>
                  obtain ⟨fo, h1, h⟩ := Option.map_eq_some_iff.mp h
                  cases h
                  rw [of_decide_eq_true hm0]
                  exact pe_imp (pe_bm0 PySem.F.plainAttrs_list PySem.F.slot_list_pop PySem.F.type_list_pop mt_pop (ih.E _ _ _ _ _ S h1).1 (recv_base hc.1 _ _) (by rw [of_decide_eq_true hc.2]; exact beq_self_eq_true _)) fun _ _ _ => t_pop0
                · split at h
                  · next hm0 =>
                    obtain ⟨fo, h1, h⟩ := Option.map_eq_some_iff.mp h
                    cases h
                    rw [of_decide_eq_true hm0]
                    exact pe_imp (pe_upper (ih.E _ _ _ _ _ S h1).1 (recv_base hc.1 _ _) (by rw [of_decide_eq_true hc.2]; exact beq_self_eq_true _)) fun _ _ _ => t_upper
                  · cases h
              · next a b =>
                split at h
                · next hm0 =>
                  obtain ⟨fo, h1, h⟩ := Option.bind_eq_some_iff.mp h
                  obtain ⟨fa, h2, h⟩ := Option.bind_eq_some_iff.mp h
                  obtain ⟨fb, h3, h⟩ := Option.map_eq_some_iff.mp h
                  cases h
                  rw [of_decide_eq_true hm0]
                  obtain ⟨q2, p2⟩ := ih.E _ _ _ _ _ S h2
                  obtain ⟨q3, p3⟩ := ih.E _ _ _ _ _ S h3
                  have hs : starEach [a, b] X.env = [(false, eval a X.env), (false, eval b X.env)] := by rw [plain_star p2, plain_star p3]; rfl
                  exact pe_imp (pe_dget2 S.un1 (ih.E _ _ _ _ _ S h1).1 q2 q3 ⟨recv_base hc.1 _ _, by rw [hs]; rfl, by rw [of_decide_eq_true hc.2]; exact beq_self_eq_true _, by rw [hs]; rfl⟩) fun _ _ _ => t_get2
                · cases h
              · cases h
          · cases h
        · next o f pos =>
          split at h
          · next ho =>
            obtain ⟨cls, hf, h⟩ := Option.bind_eq_some_iff.mp h
            obtain ⟨fa, h1, h⟩ := Option.map_eq_some_iff.mp h
            cases h
            refine pe_imp (pe_fld (ih.E _ _ _ _ _ S h1).1 ?_) fun _ _ _ => t_at (S.flds _ _ hf)
            unfold isNmE at ho
            split at ho
            · rfl
            · cases ho
          · cases h
        · cases h
          split
          · exact pe_imp pe_dnewK fun _ _ _ => t_dict0
          · exact pe_imp pe_dnewK fun _ _ _ => t_dic
        · obtain ⟨fk, h1, h⟩ := Option.bind_eq_some_iff.mp h
          obtain ⟨fv, h2, h⟩ := Option.map_eq_some_iff.mp h
          cases h
          exact pe_imp (pe_disp (pps_cons (ih.E _ _ _ _ _ S h1).1 (ih.E _ _ _ _ _ S h2).1 pps_nil) rfl rfl (by simp) (by show 1 ≤ 15; decide)) fun _ _ _ => t_dict1
        · obtain ⟨q, h1, h⟩ := Option.map_eq_some_iff.mp h
          cases h
          have hE := (ih.Lc _ _ _ _ _ _ _ _ _ _ S h1).1
          unfold lockE
          split
          · exact pe_imp (pe_lock hE) fun _ _ _ => t_lock
          · exact hE
        · obtain ⟨q, h1, h⟩ := Option.map_eq_some_iff.mp h
          cases h
          exact (ih.Lc2 _ _ _ _ _ _ _ _ _ _ _ _ _ _ _ _ S h1).1
        · cases h
      · cases h
    · -- and, or as values
      intro op es c f k X pos S h
      unfold cBE at h
      split at h
      · exact pe_one (ih.E _ _ _ _ _ S h).1
      · split at h
        · obtain ⟨fa, h1, h⟩ := Option.bind_eq_some_iff.mp h
          obtain ⟨fb, h2, h⟩ := Option.map_eq_some_iff.mp h
          cases h
          exact pe_imp (pe_and (ih.E _ _ _ _ _ S h1).1 (ih.BE _ _ _ _ _ _ _ S h2)) fun _ _ _ => t_and
        · obtain ⟨fa, h1, h⟩ := Option.bind_eq_some_iff.mp h
          obtain ⟨fb, h2, h⟩ := Option.map_eq_some_iff.mp h
          cases h
          exact pe_imp (pe_or (ih.E _ _ _ _ _ S h1).1 (ih.BE _ _ _ _ _ _ _ S h2)) fun _ _ _ => t_or
      · cases h
    · -- and, or as tests
      intro op es c f k X pos S h
      unfold cBT at h
      split at h
      · have h1 := ih.T _ _ _ _ _ S h
        cases op with
        | And => exact pw_and1 h1
        | Or => exact pw_or1 h1
      · split at h
        · obtain ⟨fa, h1, h⟩ := Option.bind_eq_some_iff.mp h
          obtain ⟨fb, h2, h⟩ := Option.map_eq_some_iff.mp h
          cases h
          exact pw_imp (pw_and (ih.T _ _ _ _ _ S h1) (ih.BT _ _ _ _ _ _ _ S h2)) fun _ _ _ => t_band
        · obtain ⟨fa, h1, h⟩ := Option.bind_eq_some_iff.mp h
          obtain ⟨fb, h2, h⟩ := Option.map_eq_some_iff.mp h
          cases h
          exact pw_imp (pw_or (ih.T _ _ _ _ _ S h1) (ih.BT _ _ _ _ _ _ _ S h2)) fun _ _ _ => t_bor
      · cases h
    · -- tests
      intro e c f k X S h
      unfold cT at h
      split at h
      · obtain ⟨fa, h1, h⟩ := Option.map_eq_some_iff.mp h
        cases h
        exact pt_imp (pt_not (ih.T _ _ _ _ _ S h1)) fun _ _ _ => t_bnot
      · exact (ih.BT _ _ _ _ _ _ _ S h).pt
      · obtain ⟨o, ho, h⟩ := Option.bind_eq_some_iff.mp h
        obtain ⟨fa, h1, h⟩ := Option.bind_eq_some_iff.mp h
        obtain ⟨fb, h2, h⟩ := Option.map_eq_some_iff.mp h
        cases h
        obtain ⟨rr, a1, a2⟩ := cmp_ok S ho
        obtain ⟨q2, p2⟩ := ih.E _ _ _ _ _ S h2
        refine pt_imp (pt_cmpR a1 (ih.E _ _ _ _ _ S h1).1 q2 (plain_mark p2 _)) fun σ H Q hh => ?_
        obtain ⟨r, m, st, env, d, st', g, e, f, q⟩ := t_bval hh
        exact t_op a2 ⟨r, m, st, env, d, st', g, e, f, q⟩
      · obtain ⟨o, ho, h⟩ := Option.bind_eq_some_iff.mp h
        obtain ⟨o', ho', h⟩ := Option.bind_eq_some_iff.mp h
        obtain ⟨fa, h1, h⟩ := Option.bind_eq_some_iff.mp h
        obtain ⟨fb, h2, h⟩ := Option.bind_eq_some_iff.mp h
        obtain ⟨fc, h3, h⟩ := Option.map_eq_some_iff.mp h
        cases h
        obtain ⟨rr, a1, a2⟩ := cmp_ok S ho
        obtain ⟨rr', b1, b2⟩ := cmp_ok S ho'
        obtain ⟨q2, p2⟩ := ih.E _ _ _ _ _ S h2
        obtain ⟨q3, p3⟩ := ih.E _ _ _ _ _ S h3
        refine pt_imp (pt_chain a1 b1 (ih.E _ _ _ _ _ S h1).1 q2 q3 ?_) fun σ H Q hh => ?_
        · exact plain_mark p3 _
        · obtain ⟨r, m, st, env, d, st', g, e, f, q⟩ := t_bval hh
          exact t_chain a2 b2 ⟨r, m, st, env, d, st', g, e, f, q⟩
      · obtain ⟨o, ho, h⟩ := Option.bind_eq_some_iff.mp h
        obtain ⟨o', ho', h⟩ := Option.bind_eq_some_iff.mp h
        obtain ⟨o'', ho'', h⟩ := Option.bind_eq_some_iff.mp h
        obtain ⟨fa, h1, h⟩ := Option.bind_eq_some_iff.mp h
        obtain ⟨fb, h2, h⟩ := Option.bind_eq_some_iff.mp h
        obtain ⟨fc, h3, h⟩ := Option.bind_eq_some_iff.mp h
        obtain ⟨fd, h4, h⟩ := Option.map_eq_some_iff.mp h
        cases h
        obtain ⟨rr, a1, a2⟩ := cmp_ok S ho
        obtain ⟨rr', b1, b2⟩ := cmp_ok S ho'
        obtain ⟨rr'', c1, c2⟩ := cmp_ok S ho''
        obtain ⟨q2, p2⟩ := ih.E _ _ _ _ _ S h2
        obtain ⟨q3, p3⟩ := ih.E _ _ _ _ _ S h3
        obtain ⟨q4, p4⟩ := ih.E _ _ _ _ _ S h4
        refine pt_imp (pt_chain3 a1 b1 c1 (ih.E _ _ _ _ _ S h1).1 q2 q3 q4 ?_) fun σ H Q hh => ?_
        · exact plain_mark p4 _
        · obtain ⟨r, m, st, env, d, st', g, e, f, q⟩ := t_bval hh
          exact t_chain3 a2 b2 c2 ⟨r, m, st, env, d, st', g, e, f, q⟩
      · split at h
        · next ho =>
          obtain ⟨fa, h1, h⟩ := Option.map_eq_some_iff.mp h
          cases h
          exact pt_imp (pt_val (ih.E _ _ _ _ _ S h1).1 (fun w => own_test ho _ w)) fun _ _ _ => t_bval
        · cases h
    · -- arguments
      intro es c f k X S h
      unfold cA at h
      split at h
      · cases h
        refine ⟨pa_imp pa_nil fun _ _ _ => t_nil, rfl, fun env st ds st' e => ?_⟩
        cases e
        rfl
      · obtain ⟨fa, h1, h⟩ := Option.bind_eq_some_iff.mp h
        obtain ⟨fr, h2, h⟩ := Option.map_eq_some_iff.mp h
        cases h
        obtain ⟨q1, p1⟩ := ih.E _ _ _ _ _ S h1
        obtain ⟨q2, p2, l2⟩ := ih.A _ _ _ _ _ S h2
        refine ⟨pa_imp (pa_cons q1 q2 (plain_star p1 _ _)) fun _ _ _ => t_cons, ?_, fun env st ds st' e => ?_⟩
        · rw [List.all_cons, p1, p2]
          rfl
        · unfold aCons at e
          obtain ⟨⟨x, s1⟩, e1, e⟩ := Option.bind_eq_some_iff.mp e
          obtain ⟨⟨y, s2⟩, e2, e⟩ := Option.bind_eq_some_iff.mp e
          cases e
          rw [List.length_cons, List.length_cons, l2 _ _ _ _ e2]
    · -- parts of a slice
      intro e c f k X S h
      unfold cO at h
      split at h
      · cases h
        exact po_imp po_none fun _ _ _ => t_ono
      · obtain ⟨fa, h1, h⟩ := Option.map_eq_some_iff.mp h
        cases h
        exact po_imp (po_some (ih.E _ _ _ _ _ S h1).1) fun _ _ _ => t_oso
    · -- what is walked
      intro tg e c f k X S h
      have seq : ∀ {e : Expr} {f : DE}, cE C n e c = some f → PI X tg e (tI X.K (iSeq f)) := fun {e f} h1 =>
        pi_imp (pi_or (pi_list (ih.E _ _ _ _ _ S h1).1) (pi_tup (ih.E _ _ _ _ _ S h1).1)) fun _ _ _ => i_seq
      unfold cI at h
      split at h
      · next x p es pos =>
        split at h
        · next hx =>
          simp only [Bool.and_eq_true, decide_eq_true_eq] at hx
          obtain ⟨⟨⟨hx1, hx2⟩, hx3⟩, hx4⟩ := hx
          split at h
          · next hr =>
            simp only [Bool.and_eq_true, Bool.or_eq_true, decide_eq_true_eq] at hr
            obtain ⟨rfl, hr⟩ := hr
            obtain ⟨fa, h1, h⟩ := Option.map_eq_some_iff.mp h
            cases h
            obtain ⟨q1, p1, l1⟩ := ih.A _ _ _ _ _ S h1
            rcases hr with hr | hr
            · match es, hr, q1, p1, l1 with
              | [a], _, q1, p1, l1 =>
                rw [List.all_cons, Bool.and_eq_true] at p1
                exact pi_imp (pi_range1 (S.gl hx2) (S.free _ hx3) q1 (plain_star p1.1 _ _)) fun _ _ _ => i_rng1 l1
            · match es, hr, q1, p1, l1 with
              | [a, b], _, q1, p1, l1 =>
                rw [List.all_cons, Bool.and_eq_true, List.all_cons, Bool.and_eq_true] at p1
                refine pi_imp (pi_range2 (S.gl hx2) (S.free _ hx3) q1 ?_ (plain_star p1.2.1 _ _)) fun _ _ _ => i_rng2 l1
                rw [plain_star p1.1, plain_star p1.2.1]
                rfl
          · split at h
            · next hz =>
              simp only [Bool.and_eq_true, decide_eq_true_eq] at hz
              obtain ⟨rfl, ht⟩ := hz
              split at h
              · obtain ⟨fa, h1, h⟩ := Option.bind_eq_some_iff.mp h
                obtain ⟨fb, h2, h⟩ := Option.map_eq_some_iff.mp h
                cases h
                obtain ⟨q1, p1⟩ := ih.E _ _ _ _ _ S h1
                obtain ⟨q2, p2⟩ := ih.E _ _ _ _ _ S h2
                cases tg with
                | Tuple elts kk tpos =>
                  have pa2 : PA X [_, _] (tAr X.K (aCons fa (aCons fb aNil))) := pa_imp (pa_cons q1 (pa_imp (pa_cons q2 (pa_imp pa_nil fun _ _ _ => t_nil) (plain_star p2 _ _)) fun _ _ _ => t_cons) (plain_star p1 _ _)) fun _ _ _ => t_cons
                  refine pi_imp (pi_zpK (S.gl hx2) (S.free _ hx3) pa2 (plain_star p1 _ _) ?_) fun _ _ _ => i_zip
                  rw [plain_star p2]
                  rfl
                | _ => cases ht
              · obtain ⟨fa, h1, h⟩ := Option.bind_eq_some_iff.mp h
                obtain ⟨fb, h2, h⟩ := Option.bind_eq_some_iff.mp h
                obtain ⟨fc, h3, h⟩ := Option.map_eq_some_iff.mp h
                cases h
                obtain ⟨q1, p1⟩ := ih.E _ _ _ _ _ S h1
                obtain ⟨q2, p2⟩ := ih.E _ _ _ _ _ S h2
                obtain ⟨q3, p3⟩ := ih.E _ _ _ _ _ S h3
                cases tg with
                | Tuple elts kk tpos =>
                  have pa3 : PA X [_, _, _] (tAr X.K (aCons fa (aCons fb (aCons fc aNil)))) := pa_imp (pa_cons q1 (pa_imp (pa_cons q2 (pa_imp (pa_cons q3 (pa_imp pa_nil fun _ _ _ => t_nil) (plain_star p3 _ _)) fun _ _ _ => t_cons) (plain_star p2 _ _)) fun _ _ _ => t_cons) (plain_star p1 _ _)) fun _ _ _ => t_cons
                  refine pi_imp (pi_zp3 (S.gl hx2) (S.free _ hx3) pa3 (plain_star p1 _ _) ?_) fun _ _ _ => i_zip3
                  rw [plain_star p2, plain_star p3]
                  rfl
                | _ => cases ht
              · obtain ⟨fa, h1, h⟩ := Option.bind_eq_some_iff.mp h
                obtain ⟨fb, h2, h⟩ := Option.bind_eq_some_iff.mp h
                obtain ⟨fc, h3, h⟩ := Option.bind_eq_some_iff.mp h
                obtain ⟨fd, h4, h⟩ := Option.map_eq_some_iff.mp h
                cases h
                obtain ⟨q1, p1⟩ := ih.E _ _ _ _ _ S h1
                obtain ⟨q2, p2⟩ := ih.E _ _ _ _ _ S h2
                obtain ⟨q3, p3⟩ := ih.E _ _ _ _ _ S h3
                obtain ⟨q4, p4⟩ := ih.E _ _ _ _ _ S h4
                cases tg with
                | Tuple elts kk tpos =>
                  have pa4 : PA X [_, _, _, _] (tAr X.K (aCons fa (aCons fb (aCons fc (aCons fd aNil))))) := pa_imp (pa_cons q1 (pa_imp (pa_cons q2 (pa_imp (pa_cons q3 (pa_imp (pa_cons q4 (pa_imp pa_nil fun _ _ _ => t_nil) (plain_star p4 _ _)) fun _ _ _ => t_cons) (plain_star p3 _ _)) fun _ _ _ => t_cons) (plain_star p2 _ _)) fun _ _ _ => t_cons) (plain_star p1 _ _)) fun _ _ _ => t_cons
                  refine pi_imp (pi_zp4 (S.gl hx2) (S.free _ hx3) pa4 (plain_star p1 _ _) ?_) fun _ _ _ => i_zip4
                  rw [plain_star p2, plain_star p3, plain_star p4]
                  rfl
                | _ => cases ht
              · cases h
            · split at h
              · next hz =>
                simp only [Bool.and_eq_true, decide_eq_true_eq] at hz
                obtain ⟨rfl, ht⟩ := hz
                split at h
                · obtain ⟨fa, h1, h⟩ := Option.bind_eq_some_iff.mp h
                  obtain ⟨fb, h2, h⟩ := Option.map_eq_some_iff.mp h
                  cases h
                  obtain ⟨q1, p1⟩ := ih.E _ _ _ _ _ S h1
                  obtain ⟨q2, p2⟩ := ih.E _ _ _ _ _ S h2
                  cases tg with
                  | Name y tpos =>
                    have pa2 : PA X [_, _] (tAr X.K (aCons fa (aCons fb aNil))) := pa_imp (pa_cons q1 (pa_imp (pa_cons q2 (pa_imp pa_nil fun _ _ _ => t_nil) (plain_star p2 _ _)) fun _ _ _ => t_cons) (plain_star p1 _ _)) fun _ _ _ => t_cons
                    refine pi_imp (pi_zpN (S.gl hx2) (S.free _ hx3) pa2 (plain_star p1 _ _) ?_) fun _ _ _ => i_zip
                    rw [plain_star p2]
                    rfl
                  | _ => cases ht
                · cases h
              split at h
              · next hz =>
                simp only [Bool.and_eq_true, decide_eq_true_eq] at hz
                obtain ⟨rfl, ht⟩ := hz
                split at h
                · obtain ⟨fa, h1, h⟩ := Option.map_eq_some_iff.mp h
                  cases h
                  obtain ⟨q1, p1⟩ := ih.E _ _ _ _ _ S h1
                  cases tg with
                  | Tuple elts kk tpos =>
                    have pa1 : PA X [_] (tAr X.K (aCons fa aNil)) := pa_imp (pa_cons q1 (pa_imp pa_nil fun _ _ _ => t_nil) (plain_star p1 _ _)) fun _ _ _ => t_cons
                    exact pi_imp (pi_enK (S.gl hx2) (S.free _ hx3) pa1 (plain_star p1 _ _)) fun _ _ _ => i_en
                  | _ => cases ht
                · cases h
              · split at h
                · cases h
                · obtain ⟨fa, h1, h⟩ := Option.map_eq_some_iff.mp h
                  cases h
                  exact seq h1
        · obtain ⟨fa, h1, h⟩ := Option.map_eq_some_iff.mp h
          cases h
          exact seq h1
      · split at h
        · next i hi =>
          split at h
          · next ht =>
            cases h
            unfold itemsI at hi
            obtain ⟨⟨o, po, apos, cpos⟩, hp, hi⟩ := Option.bind_eq_some_iff.mp hi
            split at hi
            · next hx =>
              rw [Bool.and_eq_true] at hx
              obtain ⟨h1, h2, h3⟩ := okNm_ok hx.1
              have pv : PE X (.Name o po) (tE X.K (eVar i)) := pe_imp (pe_var (S.at_ hi) (by rw [S.sc]; exact visB_ok hx.2) h1 h2) fun _ _ _ => t_var
              unfold itemsP at hp
              split at hp
              · split at hp
                · next hm =>
                  cases hp
                  simp only [Bool.and_eq_true, decide_eq_true_eq] at hm
                  obtain ⟨rfl, hl⟩ := hm
                  unfold isTupE at ht
                  split at ht
                  · exact pi_imp (pi_items pv rfl (by rw [hl]; exact beq_self_eq_true _)) fun _ _ _ => i_items
                  · cases ht
                · cases hp
              · cases hp
            · cases hi
          · cases h
        · obtain ⟨fa, h1, h⟩ := Option.map_eq_some_iff.mp h
          cases h
          exact seq h1
    · -- a target
      intro e c g k X S h
      unfold cG at h
      split at h
      · next x p =>
        split at h
        · next hl =>
          obtain ⟨i, hi, h⟩ := Option.map_eq_some_iff.mp h
          cases h
          refine ⟨?_, rfl⟩
          unfold locB at hl
          rw [← S.sc, ← S.fn] at hl
          have hx : Loc X.env.scope x ∧ (X.fn x = true ∨ X.env.scope.names.lookup x = some .local) := by
            split at hl
            · next q => exact ⟨.inl q, .inr q⟩
            · next q => exact ⟨.inr q, .inl hl⟩
            · cases hl
          exact pg_imp (pg_name S.ndX (S.at_ hi) hx.1 hx.2) fun _ _ _ _ => g_name
        · cases h
      · obtain ⟨g', h1, h⟩ := Option.map_eq_some_iff.mp h
        cases h
        obtain ⟨q1, p1⟩ := ih.Gs _ _ _ _ _ S h1
        refine ⟨?_, rfl⟩
        obtain ⟨e1, e2⟩ := each_plain p1 X.env
        exact pg_imp (pg_or (pg_tup S.calm q1 e1 e2) (pg_unl S.calm q1 e1 e2)) fun _ _ _ _ => g_tup
      · split at h
        · next hp =>
          obtain ⟨fo, h1, h⟩ := Option.bind_eq_some_iff.mp h
          obtain ⟨fi, h2, h⟩ := Option.map_eq_some_iff.mp h
          cases h
          refine ⟨?_, rfl⟩
          exact pg_imp (pg_sub (ih.E _ _ _ _ _ S h1).1 (ih.E _ _ _ _ _ S h2).1 (set_all S.un1) (sub_assign hp _ _ _)) fun _ _ _ _ => g_sub
        · cases h
      · cases h
    · -- targets
      intro es c g k X S h
      unfold cGs at h
      split at h
      · cases h
        exact ⟨pgs_imp pgs_nil fun _ _ _ _ => g_nil, rfl⟩
      · obtain ⟨g1, h1, h⟩ := Option.bind_eq_some_iff.mp h
        obtain ⟨g2, h2, h⟩ := Option.map_eq_some_iff.mp h
        cases h
        obtain ⟨q1, p1⟩ := ih.G _ _ _ _ _ S h1
        obtain ⟨q2, p2⟩ := ih.Gs _ _ _ _ _ S h2
        refine ⟨pgs_imp (pgs_cons q1 q2 (by rw [plain_each p1]; rfl)) fun _ _ _ _ => g_cons, ?_⟩
        rw [List.all_cons, p1, p2]
        rfl
    · -- a clause's tests
      intro es c f k X S h
      unfold cIf at h
      split at h
      · cases h
        exact pts_imp pts_nil fun _ _ _ => t_yes
      · exact pts_one (ih.T _ _ _ _ _ S h)
      · cases h
    · -- a comprehension
      intro elt tg iter ifs scope pos c q k X S h
      unfold cLc at h
      split at h
      · next hc =>
        rw [Bool.and_eq_true] at hc
        obtain ⟨fi, h1, h⟩ := Option.bind_eq_some_iff.mp h
        obtain ⟨g, h2, h⟩ := Option.bind_eq_some_iff.mp h
        split at h
        · next hw =>
          obtain ⟨fb, h3, h⟩ := Option.bind_eq_some_iff.mp h
          obtain ⟨fe, h4, h⟩ := Option.map_eq_some_iff.mp h
          cases h
          have hw : ∀ i ∈ g.1, i ∈ (ownOf c.N scope).map (·.2) := fun i hi => of_decide_eq_true (List.all_eq_true.mp hw i hi)
          have ok : BlkOk X.N X.env.scope scope (ownOf c.N scope) := by
            rw [S.N, S.sc]
            exact blkOk_by hc.1
          have SB := fun (s : Shared) (H : Hp) (A : Addr) (cl : List (Str × Addr)) (fp : List Addr) => S.blk ok.kind s H A cl fp
          have imp : ∀ σ H Q, tE X.K (if muB c pos then eMLc ((ownOf c.N scope).map (·.2)) fi g.2 fb fe else eLc ((ownOf c.N scope).map (·.2)) fi g.2 fb fe) σ H Q →
              tLc (tI X.K fi) (tG X.K g.1 g.2) (tBo X.K fb) (tE X.K fe) ((ownOf c.N scope).map (·.2)) σ H Q := by
            intro σ H Q hh
            split at hh
            · exact t_mlc hw hh
            · exact t_lc hw hh
          have hI := ih.I _ _ _ _ _ _ S h1
          refine ⟨pe_imp (pe_lc S.calm S.ndX hI ok (fun s H A cl fp => (ih.G _ _ _ _ _ (SB s H A cl fp) h2).1) (fun s H A cl fp => ih.If _ _ _ _ _ (SB s H A cl fp) h3) (fun s H A cl fp => (ih.E _ _ _ _ _ (SB s H A cl fp) h4).1) (plain_set hc.2 _)) imp, ?_⟩
          intro i y py spos hy hl hs
          exact ps_imp (ps_setLc S.calm S.ndX hy hl hs hI ok (fun s H A cl fp => (ih.G _ _ _ _ _ (SB s H A cl fp) h2).1) (fun s H A cl fp => ih.If _ _ _ _ _ (SB s H A cl fp) h3) (fun s H A cl fp => (ih.E _ _ _ _ _ (SB s H A cl fp) h4).1) (plain_set hc.2 _)) fun D σ H hh => ta_imp imp hh
        · cases h
      · cases h
    · -- a comprehension with two clauses
      intro elt tg iter ifs tg1 x xp es cp ifs1 scope pos c q k X S h
      unfold cLc2 at h
      split at h
      · next hc =>
        simp only [Bool.and_eq_true, Bool.or_eq_true, decide_eq_true_eq] at hc
        obtain ⟨⟨⟨⟨⟨⟨hb, hp⟩, _⟩, hg⟩, rfl⟩, hm⟩, hes⟩ := hc
        obtain ⟨fi, h1, h⟩ := Option.bind_eq_some_iff.mp h
        obtain ⟨g, h2, h⟩ := Option.bind_eq_some_iff.mp h
        obtain ⟨fa, h3, h⟩ := Option.bind_eq_some_iff.mp h
        obtain ⟨g1, h4, h⟩ := Option.bind_eq_some_iff.mp h
        split at h
        · next hw =>
          obtain ⟨fb, h5, h⟩ := Option.bind_eq_some_iff.mp h
          obtain ⟨fb1, h6, h⟩ := Option.bind_eq_some_iff.mp h
          obtain ⟨fe, h7, h⟩ := Option.map_eq_some_iff.mp h
          cases h
          rw [Bool.and_eq_true] at hw
          have hw0 : ∀ i ∈ g.1, i ∈ (ownOf c.N scope).map (·.2) := fun i hi => of_decide_eq_true (List.all_eq_true.mp hw.1 i hi)
          have hw1 : ∀ i ∈ g1.1, i ∈ (ownOf c.N scope).map (·.2) := fun i hi => of_decide_eq_true (List.all_eq_true.mp hw.2 i hi)
          have ok : BlkOk X.N X.env.scope scope (ownOf c.N scope) := by
            rw [S.N, S.sc]
            exact blkOk_by hb
          have SB := fun (s : Shared) (H : Hp) (A : Addr) (cl : List (Str × Addr)) (fp : List Addr) => S.blk ok.kind s H A cl fp
          have hI := ih.I _ _ _ _ _ _ S h1
          have hI1 : ∀ (s : Shared) (H : Hp) (A : Addr) (cl : List (Str × Addr)) (fp : List Addr), PI (X.blk s H scope (compEnvC scope cl A X.env) fp) tg1 (.Call (.Name "range" xp) es [] cp) (tIR X.K (iRng fa)) := by
            intro s H A cl fp
            have SB1 := SB s H A cl fp
            obtain ⟨q1, p1, l1⟩ := ih.A _ _ _ _ _ SB1 h3
            have gl := SB1.gl (x := "range") hg
            have fr := SB1.free "range" hm
            rcases hes with hr | hr
            · match es, hr, q1, p1, l1 with
              | [a], _, q1, p1, l1 =>
                rw [List.all_cons, Bool.and_eq_true] at p1
                exact pi_imp (pi_range1 gl fr q1 (plain_star p1.1 _ _)) fun _ _ _ => i_rngR1 l1
            · match es, hr, q1, p1, l1 with
              | [a, b], _, q1, p1, l1 =>
                rw [List.all_cons, Bool.and_eq_true, List.all_cons, Bool.and_eq_true] at p1
                refine pi_imp (pi_range2 gl fr q1 ?_ (plain_star p1.2.1 _ _)) fun _ _ _ => i_rngR2 l1
                rw [plain_star p1.1, plain_star p1.2.1]
                rfl
          have imp : ∀ σ H Q, tE X.K (eLc2 ((ownOf c.N scope).map (·.2)) g1.1 fi g.2 fb (iRng fa) g1.2 fb1 fe) σ H Q →
              tLc2 (tI X.K fi) (tG X.K g.1 g.2) (tBo X.K fb) (tIR X.K (iRng fa)) (tG X.K g1.1 g1.2) (tBo X.K fb1) (tE X.K fe) ((ownOf c.N scope).map (·.2)) g1.1 σ H Q := fun σ H Q hh => t_lc2 hw0 hh
          refine ⟨pe_imp (pe_lc2 S.calm S.ndX hI ok hw1 (fun s H A cl fp => (ih.G _ _ _ _ _ (SB s H A cl fp) h2).1) (fun s H A cl fp => ih.If _ _ _ _ _ (SB s H A cl fp) h5) hI1 (fun s H A cl fp => (ih.G _ _ _ _ _ (SB s H A cl fp) h4).1) (fun s H A cl fp => ih.If _ _ _ _ _ (SB s H A cl fp) h6)
            (fun s H A cl fp => (ih.E _ _ _ _ _ (SB s H A cl fp) h7).1) (plain_set hp _) (fun env x => rfl)) imp, ?_⟩
          intro i y py spos hy hl hs
          exact ps_imp (ps_setLc2 S.calm S.ndX hy hl hs hI ok hw1 (fun s H A cl fp => (ih.G _ _ _ _ _ (SB s H A cl fp) h2).1) (fun s H A cl fp => ih.If _ _ _ _ _ (SB s H A cl fp) h5) hI1 (fun s H A cl fp => (ih.G _ _ _ _ _ (SB s H A cl fp) h4).1) (fun s H A cl fp => ih.If _ _ _ _ _ (SB s H A cl fp) h6)
            (fun s H A cl fp => (ih.E _ _ _ _ _ (SB s H A cl fp) h7).1) (plain_set hp _) (fun env x => rfl)) fun D σ H hh => ta_imp imp hh
        · cases h
      · cases h
end Tg
namespace Tg
open PySem PySem.Spec PyProof.Rows L2
theorem pmk_own0 {X : Cx} {C : Addr} {bmB : List Value} {B newId initId : String} {x : Str} {p pos : Pos} (F : ExcBaseFacts B newId initId bmB) (q : PySem.W.excIn X.K C bmB newId = true) (gC : X.mg x = some (.ref C)) (kC : PySem.W.keepIn X.K (.ref C) = true)
    (r : Raises X (.ref C)) (hg : Gl X x) (hdb : (x == ("__debug__" : Str)) = false) : PMk X (.Call (.Name x p) [] [] pos) (fun _ H Q => Q (.ref C) none H) := by
  intro pins s σ H Q I h
  refine wpAny_Call_Name_kw (ld_glob I hg gC ?_ hdb)
  refine PySem.W.callWith_K0 I.kIn kC ?_
  show wpAny _ _ (call (.ref C) []) _ _ _
  obtain ⟨bm, N, nm, qn, bs, hdct, sn, sub, ab, col, dd, k0, k1, k2, k3, k5, mN, hC, hN, hni, T⟩ := exc_obj I.kIn q
  refine wpAny_call_exc_subT F T hC hN hni (fun h' e hm => ?_) (by show 0 ≤ sizeLine; exact Nat.zero_le _)
  exact mk_of I hm r h (I.hok.gone hm.new)
structure FnX (P : Program) (w : World) (K : Fg) (mg : Str → Option Value) (base : Heap) (k : Nat) (f : Addr) (fd : FuncData) (ps : List Str) (sp : List V → Hp → VK → XK → Prop) : Prop where
  len : ∀ vs H Q E, sp vs H Q E → vs.length = ps.length
  run : ∀ (A : Around) (outer : List Env) (s : Shared) (H : Hp) (args : Args) (us : List Value) (vs : List V) (Q : VK) (E : XK), A.guards = some [] → Room k A →
    Env0 P w K mg base A outer s H → BindsTo s fd args (ps.zip us) → Vals vs us → sp vs H Q E →
    codeAny (model P w) A (.call (.ref f) args) (CR (L2.CX P w) outer P w H s Q E) s
section
variable {X : Cx} {W : WX} {k : Nat} {f : Addr} {fd : FuncData} {ps : List Str} {sp : List V → Hp → VK → XK → Prop}
theorem call_x {pins : List (Addr × Obj)} {σ : L2.St} {H : Hp} {s : Shared} {Q : VK} {us : List Value} {vs : List V} (tk : Takes X W) (F : FnX X.prog X.w X.K X.mg X.base k f fd ps sp)
    (gd : X.A.guards = some []) (rm : Room k X.A) (hb : Binds X.K fd ps []) (I : Inv X pins σ H s) (rv : Vals vs us) (h : sp vs H Q (WE W σ)) :
    wpAny (model X.prog X.w) X.A (call (.ref f) us) (EP X pins σ Q) X.xe s := by
  have hl : (us ++ []).length = ps.length := by
    rw [List.append_nil, ← rv.length]
    exact F.len _ _ _ _ h
  have hB := hb s us I.kIn hl
  rw [List.append_nil] at hB
  refine wpAny_call (codeAny_mono (F.run X.A X.stack s H _ us vs Q _ gd rm I.env0 hB rv h) fun res s2 q => ?_)
  match res, q with
  | .ok (.ret u), q => exact I.after q
  | .ok .next, q => exact False.elim q
  | .ok .brk, q => exact False.elim q
  | .ok .cont, q => exact False.elim q
  | .error e, q => exact passAt tk σ pins H s e s2 I q
def tCallX (sp : List V → Hp → VK → XK → Prop) (W : WX) (t : TA) : TE := fun σ H Q => t σ H fun vs H1 => sp vs H1 Q (WE W σ)
theorem pe_callX {x : Str} {p pos : Pos} {e : Expr} {es : List Expr} {t : TA} (tk : Takes X W) (F : FnX X.prog X.w X.K X.mg X.base k f fd ps sp) (gd : X.A.guards = some []) (rm : Room k X.A) (hg : Gl X x)
    (hm : X.mg x = some (.ref f)) (hk : PySem.W.keepIn X.K (.ref f) = true) (hb : Binds X.K fd ps []) (ha : PA X (e :: es) t) (hdb : (x == ("__debug__" : Str)) = false)
    (he : starEach (e :: es) X.env = (false, eval e X.env) :: starEach es X.env) (hpl : (backTo pos (starEach es X.env)).any (·.1) = false) :
    PE X (.Call (.Name x p) (e :: es) [] pos) (tCallX sp W t) :=
  ⟨fun pins s σ H Q I h => wpAny_Call_Name_kw (ld_glob I hg hm
    (PySem.W.callWith_K (h₀ := X.base) I.ok.mod.kin hk (thn (ha.run pos pins s σ H _ I h) fun us s1 ⟨vs, H1, I1, rv, q⟩ => ⟨I1.kIn, call_x tk F gd rm hb I1 rv q⟩) he hpl) hdb)⟩
end
/-- a def of the text keeps a promise, by its body -/
theorem fn_x {P : Program} {w : World} {K : Fg} {mg : Str → Option Value} {base : Heap} {k : Nat} {f : Addr} {x qual : Str} {params : Arguments} {body : List Stmt} {scope : Scope} {dvs : List V} {kws : List (Str × V)} {fd : FuncData} {N ps : List Str} {sp : List V → Hp → VK → XK → Prop}
    (F : FunD K x qual params body scope dvs kws f fd) (S : FnScope N ps scope) (len : ∀ vs H Q E, sp vs H Q E → vs.length = ps.length)
    (hbody : ∀ (cdv : Value) (A : Around) (outer : List Env) (s : Shared) (H : Hp) (vs : List V) (Q : VK) (E : XK), A.guards = some [] → Room k (A.deeper (envOfC qual scope s.heap.objs.size f cdv)) → sp vs H Q E →
      ∃ t, PSs (cxOf (L2.CX P w) P w K mg base N qual scope f cdv A outer s H E) body t ∧ t { nx := fun _ H' => Q .non H', rt := Q } (L2.start N vs) H) :
    FnX P w K mg base (k + 1) f fd ps sp := by
  obtain ⟨oc, od, dV, kV, doc, pm, an, cdv, ct, osl, rfl, lk, hcd, _, _⟩ := F.ex
  constructor
  · exact len
  · intro A outer s H args us vs Q E gd rm e0 hb rv q
    have hl := len _ _ _ _ q
    have old : ∀ b o, base.get? b = some o → s.heap.get? b = some o := fun b o e => (e0.bs b o e).1
    have KX := e0.mod.kin.keeps old
    have hkind : ∀ y ∈ ps.zip us, scope.names.lookup y.1 = some .local ∨
        (scope.names.lookup y.1 = some .cell ∧ ((cellsFrom (s.heap.objs.size + 1) scope.names []).lookup y.1).isSome = true) := by
      rintro ⟨n, v⟩ hy
      exact (S.par n (List.of_mem_zip hy).1).imp id fun z => ⟨z, PySem.W.cellsFrom_some _ _ _ (.inl z)⟩
    refine codeAny_call_function rm.depth (KX _ _ lk) rfl S.co S.gen rfl (PySem.W.codeRec_of KX hcd) (hb _ _ _ _ ?_)
    refine wpAny_newFunctionEnv_cells S.kind hkind ?_
    rintro env rfl s1 inc
    refine ⟨(e0.mod.nolimit.keeps old).keeps inc.toInCall.keep, codeAny_func ?_⟩
    obtain ⟨t, ht, hq⟩ := hbody cdv A outer s H vs Q E gd (rm.deeper _) q
    have I0 : Inv (cxOf (L2.CX P w) P w K mg base N qual scope f cdv A outer s H E) [] (L2.start N vs) H s1 := inv_start S rm.hd e0 hl rv inc
    refine wpAny_mono (ht.run [] s1 _ H _ I0 hq) (fun fl s2 h2 => ?_) fun e s' z => z
    match fl, h2 with
    | .ret u, ⟨v, σ', H', J, ru, q2⟩ => exact ⟨v, H', J.os, J.bare, J.base, J.hok, ru, q2⟩
    | .next, ⟨σ', H', J, q2⟩ => exact ⟨.non, H', J.os, J.bare, J.base, J.hok, rfl, q2⟩
    | .brk, ⟨_, _, _, z⟩ => exact False.elim z
    | .cont, ⟨_, _, _, z⟩ => exact False.elim z
def exD (x : Str) (fs : List (Str × D)) : D := .tup (.tag (.ob x (fs.map (·.1))) :: fs.map (·.2))
def xOf : D → Option (Str × List (Str × D))
  | .tup (.tag (.ob x ns) :: ds) => some (x, ns.zip ds)
  | _ => none
def sAsgX (f : DE) (g : DG) : DS := fun env st => (f env st).bind fun p => match xOf p.1 with
  | some q => some (.xc env q.1 q.2, p.2)
  | none => (g p.1 env p.2).bind fun q => some (.nx q.1, q.2)
def sRetX (f : DE) : DS := fun env st => (f env st).bind fun p => match xOf p.1 with
  | some q => some (.xc env q.1 q.2, p.2)
  | none => some (.rt p.1, p.2)
def sExprX (f : DE) : DS := fun env st => (f env st).bind fun p => match xOf p.1 with
  | some q => some (.xc env q.1 q.2, p.2)
  | none => some (.nx env, p.2)
def sRaise (x : Str) : DS := fun env st => some (.xc env x [], st)
/-- a body whose exceptions are told by its answer -/
def wrapX (b : DS) : DS := fun env st => (b env st).map fun p => match p.1 with
  | .xc _ x fs => (.rt (exD x fs), p.2)
  | f => (f, p.2)
def XEnd (K : Fg) (r m : List Addr) (H : Hp) (st' : Sto) (e : D) (Q : VK) (E : XK) : Prop := match xOf e with
  | some q => ∀ m' H' cls d, Le m H m' H' → Good K r m' st' H' → XVal K r m' H' q.1 q.2 cls d → E cls d H'
  | none => ∀ m' H' v, Le m H m' H' → Good K r m' st' H' → Den K r m' H' e v → Q v H'
theorem XEnd.mono {K : Fg} {r m m1 : List Addr} {H H1 : Hp} {st' : Sto} {e : D} {Q : VK} {E : XK} (l : Le m H m1 H1) (h : XEnd K r m H st' e Q E) : XEnd K r m1 H1 st' e Q E := by
  unfold XEnd at h ⊢
  split at h
  · next q e => exact fun m' H' cls d l' => h m' H' cls d (l.trans l')
  · next e => exact fun m' H' v l' => h m' H' v (l.trans l')
def spX (K : Fg) (C : Orc) (x : String) (n : Nat) : List V → Hp → VK → XK → Prop := fun vs H Q E => ∃ r m st as e st', as.length = n ∧ Good K r m st H ∧ Dens K r m H as vs ∧ C x as st = some (e, st') ∧ XEnd K r m H st' e Q E
def tX (K : Fg) (W : WX) (f : DE) : TE := fun σ H Q => ∃ r m st env d st', Good K r m st H ∧ EnvR K r m H env σ ∧ f env st = some (d, st') ∧ XEnd K r m H st' d Q (WE W σ)
section
variable {K : Fg} {W : WX} {σ : L2.St} {H : Hp} {D : Ends}
theorem t_callX {C : Orc} {x : String} {n : Nat} {fa : DA} {Q : VK} (hn : ∀ env st ds st', fa env st = some (ds, st') → ds.length = n) (h : tX K W (eCall C x fa) σ H Q) : tCallX (spX K C x n) W (tAr K fa) σ H Q := by
  obtain ⟨r, m, st, env, d, st', g, e, f, q⟩ := h
  unfold eCall at f
  obtain ⟨⟨ds, s1⟩, f1, f⟩ := Option.bind_eq_some_iff.mp f
  exact ⟨r, m, st, env, ds, s1, g, e, f1, fun m1 H1 vs l1 g1 d1 => ⟨r, m1, s1, ds, d, st', hn _ _ _ _ f1, g1, d1, f, q.mono l1⟩⟩
theorem s_asgX {fe : DE} {gg : DG} {ws : List Nat} (h : tS K W (sAsgX fe gg) D σ H) : tAsg (tX K W fe) (tG K ws gg) D σ H := by
  obtain ⟨r, m, st, env, fl, st', g, e, f, q⟩ := h
  unfold sAsgX at f
  obtain ⟨⟨x, s1⟩, f1, f⟩ := Option.bind_eq_some_iff.mp f
  refine ⟨r, m, st, env, x, s1, g, e, f1, ?_⟩
  unfold XEnd
  split at f
  · next q' hx =>
    have hx : xOf x = some q' := hx
    cases f
    rw [hx]
    exact fun m1 H1 cls d l1 g1 xv => q m1 H1 σ cls d l1 g1 (e.mono l1) xv
  · next hx =>
    have hx : xOf x = none := hx
    rw [hx]
    obtain ⟨⟨e2, s2⟩, f2, f⟩ := Option.bind_eq_some_iff.mp f
    cases f
    exact fun m1 H1 v l1 g1 d1 => ⟨r, m1, s1, env, x, e2, s2, g1, e.mono l1, d1, f2, fun m2 H2 σ2 l2 g2 er2 _ => q m2 H2 σ2 (l1.trans l2) g2 er2⟩
theorem s_retX {fe : DE} (h : tS K W (sRetX fe) D σ H) : tRet (tX K W fe) D σ H := by
  obtain ⟨r, m, st, env, fl, st', g, e, f, q⟩ := h
  unfold sRetX at f
  obtain ⟨⟨x, s1⟩, f1, f⟩ := Option.bind_eq_some_iff.mp f
  refine ⟨r, m, st, env, x, s1, g, e, f1, ?_⟩
  unfold XEnd
  split at f
  · next q' hx =>
    have hx : xOf x = some q' := hx
    cases f
    rw [hx]
    exact fun m1 H1 cls d l1 g1 xv => q m1 H1 σ cls d l1 g1 (e.mono l1) xv
  · next hx =>
    have hx : xOf x = none := hx
    rw [hx]
    cases f
    exact fun m1 H1 v l1 g1 d1 => q m1 H1 v l1 g1 d1
theorem s_exprX {fe : DE} (h : tS K W (sExprX fe) D σ H) : tDrop (tX K W fe) D σ H := by
  obtain ⟨r, m, st, env, fl, st', g, e, f, q⟩ := h
  unfold sExprX at f
  obtain ⟨⟨x, s1⟩, f1, f⟩ := Option.bind_eq_some_iff.mp f
  refine ⟨r, m, st, env, x, s1, g, e, f1, ?_⟩
  unfold XEnd
  split at f
  · next q' hx =>
    have hx : xOf x = some q' := hx
    cases f
    rw [hx]
    exact fun m1 H1 cls d l1 g1 xv => q m1 H1 σ cls d l1 g1 (e.mono l1) xv
  · next hx =>
    have hx : xOf x = none := hx
    rw [hx]
    cases f
    exact fun m1 H1 v l1 g1 _ => q m1 H1 σ l1 g1 (e.mono l1)
theorem s_raise {x : Str} (h : tS K W (sRaise x) D σ H) : W (.ref (He.ga K x)) none σ H := by
  obtain ⟨r, m, st, env, fl, st', g, e, f, q⟩ := h
  cases f
  exact q m H σ _ _ (Le.refl m H) g e .bare
end
end Tg
namespace Tg
open PySem PySem.Spec PyProof.Rows L2
def iniS (s f p : Str) : Stmt → Bool
  | .Assign [.Attribute (.Name s' _) f' _] (.Name p' _) _ => decide (s' = s) && decide (f' = f) && decide (p' = p) && okNm s && okNm p
  | _ => false
def iniB (ps ns : List Str) (body : List Stmt) : Bool := match ps, ns, body with
  | [s, p], [f], [a] => iniS s f p a
  | [s, p, p2], [f, f2], [a, b] => iniS s f p a && iniS s f2 p2 b
  | _, _, _ => false
/-- what it promises: the fields stand in the exception's dict -/
def spI (C : Addr) (ns : List Str) : Sp := fun vs H Q _ => ∃ a ys, vs = V.ref a :: ys ∧ ys.length = ns.length ∧ H a = some (exo a C none) ∧
  ∀ dx, H dx = none → dx ≠ a → Q .non (upd (upd H dx (exd dx (ns.zip ys).reverse)) a (exo a C (some dx)))
section
variable {K : Fg} {X : Cx} {C : Addr}
theorem ini_s {s f p : Str} {st : Stmt} (h : iniS s f p st = true) (T : OexC X.K C) {i j : Nat} (hi : X.N[i]? = some s) (hj : X.N[j]? = some p) (vi : Vis X.env.scope s) (vj : Vis X.env.scope p) : PS X st (tOst X.K f (tVar i) (tVar j)) := by
  unfold iniS at h
  split at h
  · next s' q f' q2 p' q3 q4 =>
    simp only [Bool.and_eq_true, decide_eq_true_eq] at h
    obtain ⟨⟨⟨⟨rfl, rfl⟩, rfl⟩, o1⟩, o2⟩ := h
    obtain ⟨a1, a2, _⟩ := okNm_ok o1
    obtain ⟨b1, b2, _⟩ := okNm_ok o2
    exact ps_ost (pe_var hi vi a1 a2) (pe_var hj vj b1 b2)
  · cases h
theorem upd_back {H : Hp} {dx a : Addr} {o o' u : HO} (ne : dx ≠ a) : upd (upd (upd H dx o) a u) dx o' = upd (upd H dx o') a u := by
  funext b
  by_cases h1 : b = dx
  · rw [h1, upd_same, upd_ne ne, upd_same]
  · by_cases h2 : b = a
    · rw [h2, upd_ne (by rw [← h2]; exact h1), upd_same, upd_same]
    · rw [upd_ne h1, upd_ne h2, upd_ne h1, upd_ne h2, upd_ne h1]
end
theorem ini_ok {P : Program} {w : World} {K : Fg} {mg : Str → Option Value} {base : Heap} {k : Nat} {f C : Addr} {x qual : Str} {params : Arguments} {body : List Stmt} {scope : Scope} {fd : FuncData} {N ps ns : List Str} (F : FunD K x qual params body scope [] [] f fd) (S : FnScope N ps scope)
    (T : OexC K C) (hno : ∀ n ∈ ns, PySem.W.findIn K (.ref C) n = some none) (hb : iniB ps ns body = true) : FnOk P w K mg base (L2.CX P w) (k + 1) f fd ps (spI C ns) := by
  have vis : ∀ y ∈ ps, Vis scope y := fun y hy => (S.par y hy).elim (fun e => .inl e) fun e => .inr (.inl e)
  have at_ : ∀ i y, ps[i]? = some y → N[i]? = some y := fun i y e => by
    have hi := (List.getElem?_eq_some_iff.mp e).1
    rw [← S.pre, List.getElem?_take_of_lt hi] at e
    exact e
  have len : ps.length = ns.length + 1 := by
    unfold iniB at hb
    split at hb
    · rfl
    · rfl
    · cases hb
  refine F.ok S (fun vs H Q E h => ?_) fun cdv A outer u H vs Q E _ h => ?_
  · obtain ⟨a, ys, rfl, e, _⟩ := h
    rw [List.length_cons, e, len]
  · obtain ⟨a, ys, rfl, e, ha, q⟩ := h
    unfold iniB at hb
    split at hb
    · next s p g st =>
      obtain ⟨y, rfl⟩ : ∃ y, ys = [y] := by
        cases ys with
        | nil => cases e
        | cons y t => cases t with
          | nil => exact ⟨y, rfl⟩
          | cons _ _ => cases e
      have h0 := at_ 0 s rfl
      have h1 := at_ 1 p rfl
      refine ⟨_, pss_one (ini_s (X := cxOf (L2.CX P w) P w K mg base N qual scope f cdv A outer u H E) hb T h0 h1 (vis s (by simp)) (vis p (by simp))), ?_⟩
      exact ⟨y, rfl, .ref a, rfl, a, C, rfl, T, hno g (by simp), .inl ⟨ha, fun dx n ne => q dx n ne⟩⟩
    · next s p p2 g g2 st st2 =>
      rw [Bool.and_eq_true] at hb
      obtain ⟨y, y2, rfl⟩ : ∃ y y2, ys = [y, y2] := by
        cases ys with
        | nil => cases e
        | cons y t => cases t with
          | nil => cases e
          | cons y2 t => cases t with
            | nil => exact ⟨y, y2, rfl⟩
            | cons _ _ => cases e
      have h0 := at_ 0 s rfl
      have h1 := at_ 1 p rfl
      have h2 := at_ 2 p2 rfl
      refine ⟨_, pss_cons (ini_s (X := cxOf (L2.CX P w) P w K mg base N qual scope f cdv A outer u H E) hb.1 T h0 h1 (vis s (by simp)) (vis p (by simp))) (pss_one (ini_s (X := cxOf (L2.CX P w) P w K mg base N qual scope f cdv A outer u H E) hb.2 T h0 h2 (vis s (by simp)) (vis p2 (by simp)))), ?_⟩
      refine ⟨y, rfl, .ref a, rfl, a, C, rfl, T, hno g (by simp), .inl ⟨ha, fun dx n ne => ?_⟩⟩
      refine ⟨y2, rfl, .ref a, rfl, a, C, rfl, T, hno g2 (by simp), .inr ⟨dx, [(g, y)], upd_same, by rw [upd_ne ne, upd_same], by simp, ?_⟩⟩
      have z := q dx n ne
      rw [← upd_back ne (o := exd dx [(g, y)])] at z
      exact z
    · cases hb
/-- the fields are named as the class's __init__ names them -/
def sRaiseF (x : Str) (ns : List Str) (fa : DA) : DS := fun env st => (fa env st).bind fun p => if decide (p.1.length = ns.length) = true then some (.xc env x (ns.zip p.1), p.2) else none
theorem lookup_of : ∀ {l : List (Str × V)} {y : Str} {v : V}, (l.map (·.1)).Nodup → (y, v) ∈ l → l.lookup y = some v
  | [], _, _, _, h => by cases h
  | (z, w) :: l, y, v, nd, h => by
    rw [List.map_cons, List.nodup_cons] at nd
    rw [lookup_put]
    rcases List.mem_cons.mp h with h | h
    · cases h
      rw [if_pos rfl]
    · have ne : y ≠ z := fun e => nd.1 (List.mem_map.mpr ⟨(y, v), h, e⟩)
      rw [if_neg ne]
      exact lookup_of nd.2 h
theorem zip_den {K : Fg} {r m : List Addr} {H : Hp} : ∀ {ns : List Str} {ds : List D} {vs : List V} {q : Str × D}, Dens K r m H ds vs → q ∈ ns.zip ds → ∃ v, (q.1, v) ∈ ns.zip vs ∧ Den K r m H q.2 v
  | [], _, _, _, _, h => by simp at h
  | _ :: _, [], _, _, _, h => by simp at h
  | n :: ns, d :: ds, vs, q, dd, h => by
    obtain ⟨v, vs, rfl, a, b⟩ := dd
    rw [List.zip_cons_cons] at h ⊢
    rcases List.mem_cons.mp h with rfl | h
    · exact ⟨v, List.mem_cons_self, a⟩
    · obtain ⟨u, h1, h2⟩ := zip_den b h
      exact ⟨u, List.mem_cons_of_mem _ h1, h2⟩
theorem s_raiseF {K : Fg} {W : WX} {σ : L2.St} {H : Hp} {Z : Ends} {x : Str} {ns : List Str} {fa : DA} (hnd : ns.Nodup) (hl : ns.length ≤ 900) (h : tS K W (sRaiseF x ns fa) Z σ H) :
    tMkO (He.ga K x) (spI (He.ga K x) ns) [] (tAr K fa) σ H fun cls d H' => W cls d σ H' := by
  obtain ⟨r, m, st, env, fl, st', g, e, f, q⟩ := h
  unfold sRaiseF at f
  obtain ⟨⟨ds, s1⟩, f1, f⟩ := Option.bind_eq_some_iff.mp f
  split at f
  · next hd =>
    have hd : ds.length = ns.length := of_decide_eq_true hd
    cases f
    refine ⟨r, m, st, env, ds, s1, g, e, f1, fun m1 H1 vs l1 g1 d1 => ?_⟩
    have vl : vs.length = ns.length := by rw [← d1.len, hd]
    refine ⟨by omega, fun a na => ⟨a, vs, by rw [List.append_nil], vl, upd_same, fun dx nx ne => ?_⟩⟩
    rw [upd_ne ne] at nx
    refine ⟨rfl, dx, _, upd_same, by rw [upd_ne ne, upd_same], nx, ?_⟩
    have eH : upd (del (upd (upd (upd H1 a (exo a (He.ga K x) none)) dx (exd dx (ns.zip vs).reverse)) a (exo a (He.ga K x) (some dx))) a) dx (.xd (ns.zip vs).reverse) = upd H1 dx (.xd (ns.zip vs).reverse) := by
      funext b
      by_cases h1 : b = dx
      · rw [h1, upd_same, upd_same]
      · rw [upd_ne h1, upd_ne h1]
        by_cases h2 : b = a
        · rw [h2, del_same, na]
        · rw [del_ne h2, upd_ne h2, upd_ne h1, upd_ne h2]
    rw [eH]
    refine q m1 _ σ _ _ (l1.trans (le_upd nx)) (g1.upd nx) (e.mono (l1.trans (le_upd nx))) ⟨rfl, .inr ⟨dx, _, rfl, (g1.fresh nx).1, upd_same, fun p hp => ?_⟩⟩
    obtain ⟨v, h1, h2⟩ := zip_den d1 hp
    refine ⟨v, lookup_of ?_ (List.mem_reverse.mpr h1), h2.mono (le_upd nx)⟩
    rw [List.map_reverse, List.map_fst_zip (by omega)]
    exact List.pairwise_reverse.mpr (List.Pairwise.imp (fun h => Ne.symm h) hnd)
  · cases f
end Tg
namespace Tg
open PySem PySem.Spec PyProof.Rows L2
/-- a class that isinstance may ask for -/
def clsB (c : Ct) (y : Str) : Bool := okNm y && glB c.sc y && ((c.ob.xt.any fun q => decide (q.1 = y)) || (decide (y ∈ c.blt) && bltX.any fun t => decide (Str.ofString t = y)))
def nmsOf : List Expr → Option (List Str)
  | [] => some []
  | .Name y _ :: es => (nmsOf es).map fun r => y :: r
  | _ => none
/-- isinstance(err, ..) -/
def isxP (c : Ct) (err : Option Str) (x : Str) : Expr → Option Bool
  | .Call (.Name f _) [.Name v _, t] [] _ => if decide (f = "isinstance") && glB c.sc f && decide (f ∈ c.blt) && okNm v && visB c.sc v && (ixS c.N v).isSome && decide (err = some v) then (match t with
    | .Name y _ => if clsB c y then some (isA c.ob.xt x y) else none
    | .Tuple ts _ _ => (nmsOf ts).bind fun ys => if ys.all (clsB c) && decide (ts.length ≤ 1000) then some (ys.any (isA c.ob.xt x)) else none
    | _ => none) else none
  | _ => none
/-- the name under which a field of what a clause caught stands -/
def hidN (v f : Str) : Str := v ++ "." ++ f
/-- the fields' slots -/
def hidP (c : Ct) : Option Str → List (Str × Nat)
  | none => []
  | some v => (c.ob.xi.flatMap fun q => q.2).filterMap fun f => if visB c.sc (hidN v f) then none else (ixS c.N (hidN v f)).map fun j => (f, j)
def fldB (c : Ct) (f : Str) : Bool := decide (f ∈ c.ob.xi.flatMap fun q => q.2)
section
variable (c : Ct) (err : Option Str) (x : Str)
mutual
def cXe : Nat → Expr → Option DE
  | 0, _ => none
  | n + 1, e => match isxP c err x e with
    | some b => some (eC (.bl b))
    | none => (match e with
      | .Name y _ => if okNm y && visB c.sc y && decide (err ≠ some y) then (ixS c.N y).map fun i => eVar i else none
      | .Constant (.int i) _ _ => some (eC (.int i))
      | .Constant (.bool b) _ _ => some (eC (.bl b))
      | .Constant .none _ _ => some (eC .non)
      | .Constant (.str z) _ _ => some (eC (.str z))
      | .UnaryOp .Not a _ => (cXe n a).map fun fa => eNot fa
      | .BoolOp op es _ => cXb n op es
      | .Tuple es _ _ => if decide (es.length ≤ 1000) then (cXa n es).map fun fa => eTup fa else none
      | .List es pos => if decide (es.length ≤ 1000) && !muB c pos then (cXa n es).map fun fa => eLst fa else none
      | .Attribute (.Name v _) f _ => if okNm v && visB c.sc v && (ixS c.N v).isSome && decide (err = some v) && fldB c f then ((hidP c err).lookup f).map fun j => eVar j else none
      | _ => none)
def cXb : Nat → BoolOp → List Expr → Option DE
  | 0, _, _ => none
  | n + 1, op, es => match es with
    | [a] => cXe n a
    | a :: b :: es => (match op with
      | .And => (cXe n a).bind fun fa => (cXb n .And (b :: es)).map fun fb => eAnd fa fb
      | .Or => (cXe n a).bind fun fa => (cXb n .Or (b :: es)).map fun fb => eOr fa fb)
    | [] => none
def cXa : Nat → List Expr → Option DA
  | 0, _ => none
  | n + 1, es => match es with
    | [] => some aNil
    | e :: es => (cXe n e).bind fun fa => (cXa n es).map fun fr => aCons fa fr
def cXd : Nat → BoolOp → List Expr → Option DB
  | 0, _, _ => none
  | n + 1, op, es => match es with
    | [a] => cXt n a
    | a :: b :: es => (match op with
      | .And => (cXt n a).bind fun fa => (cXd n .And (b :: es)).map fun fb => bAnd fa fb
      | .Or => (cXt n a).bind fun fa => (cXd n .Or (b :: es)).map fun fb => bOr fa fb)
    | [] => none
def cXt : Nat → Expr → Option DB
  | 0, _ => none
  | n + 1, e => match e with
    | .UnaryOp .Not a _ => (cXt n a).map fun fa => bNot fa
    | .BoolOp op es _ => cXd n op es
    | e => if ownTest e then (cXe n e).map fun fa => bVal fa else none
end
mutual
def cXs : Nat → Stmt → Option DS
  | 0, _ => none
  | n + 1, s => match s with
    | .Return (some e) _ => (cXe c err x n e).map fun f => sRet f
    | .Return none _ => some sRetN
    | .Pass _ => some sNil
    | .If t a b _ => (cXt c err x n t).bind fun ft => (cXss n a).bind fun fa => (cXss n b).map fun fb => sIf ft fa fb
    | .Assign [.Name y _] e _ => if locB c y && decide (err ≠ some y) && !isComp e then (ixS c.N y).bind fun i => (cXe c err x n e).map fun f => sAsg f (gN i) else none
    | _ => none
def cXss : Nat → List Stmt → Option DS
  | 0, _ => none
  | n + 1, ss => match ss with
    | [] => some sNil
    | s :: ss => (cXs n s).bind fun a => (cXss n ss).map fun b => sSeq a b
end
end
/-- the exception that a clause caught: the slot of its name, its address, its dict and what stands there, the slots of its fields -/
structure Ca where
  i : Option Nat
  a : Addr
  d : Option Addr
  us : List (Str × V)
  hs : List (Str × Nat)
def DcOk (q : Ca) (H : Hp) : Prop := (q.d = none ∧ q.us = []) ∨ ∃ dd, q.d = some dd ∧ H dd = some (.xd q.us)
def Hold (q : Ca) (σ : L2.St) (H : Hp) : Prop := (match q.i with
  | none => True
  | some i => σ[i]? = some (some (.ref q.a))) ∧ DcOk q H ∧ ∀ p ∈ q.hs, σ[p.2]? = some (q.us.lookup p.1)
theorem cell_xd {K : Fg} {r m : List Addr} {H : Hp} {a : Addr} {c : List D} {us : List (Str × V)} (h : CellR K r m H a c) (e : H a = some (.xd us)) : False := by
  unfold CellR at h
  split at h
  · obtain ⟨_, _, h, _⟩ := h
    rw [e] at h
    cases h
  · obtain ⟨_, h, _⟩ := h
    rw [e] at h
    cases h
  · obtain ⟨_, _, h, _⟩ := h
    rw [e] at h
    cases h
  · obtain ⟨_, h, _⟩ := h
    rw [e] at h
    cases h
theorem Good.xd {K : Fg} {r m : List Addr} {st : Sto} {H : Hp} (g : Good K r m st H) {a : Addr} {us : List (Str × V)} (e : H a = some (.xd us)) : a ∉ m := fun hm => by
  obtain ⟨i, hi⟩ := List.getElem?_of_mem hm
  have hl : i < st.length := by
    rw [← g.len]
    exact (List.getElem?_eq_some_iff.mp hi).1
  exact cell_xd (g.cell i a _ hi (List.getElem?_eq_getElem hl)) e
theorem Hold.up {K : Fg} {r m m1 : List Addr} {st : Sto} {H H1 : Hp} {q : Ca} {σ : L2.St} (h : Hold q σ H) (g : Good K r m st H) (l : Le m H m1 H1) : Hold q σ H1 := by
  refine ⟨h.1, h.2.1.imp id ?_, h.2.2⟩
  rintro ⟨dd, e, i⟩
  exact ⟨dd, e, l.keep _ _ i (g.xd i)⟩
theorem Hold.set {q : Ca} {σ : L2.St} {H : Hp} (h : Hold q σ H) {j : Nat} {w : Option V} (h1 : q.i ≠ some j) (h2 : ∀ p ∈ q.hs, p.2 ≠ j) : Hold q (σ.set j w) H := by
  refine ⟨?_, h.2.1, fun p hp => ?_⟩
  · have h0 := h.1
    cases hi : q.i with
    | none => trivial
    | some i =>
      rw [hi] at h0 h1
      show (σ.set j w)[i]? = _
      rw [List.getElem?_set_ne (fun e => h1 (by rw [e]))]
      exact h0
  · rw [List.getElem?_set_ne (Ne.symm (h2 p hp))]
    exact h.2.2 p hp
def rIsX (K : Fg) (D : Addr) (k : Ca) : List V → Hp → VK → Prop := fun xs H Q => DcOk k H ∧ ∃ (c : V) (u : Value) (b : Bool), xs = [.ref k.a, c] ∧ ClsV c u ∧ PySem.W.kitOne K (.ref D) u = some b ∧ Q (.bl b) H
def rIsXT (K : Fg) (D : Addr) (k : Ca) : List V → Hp → VK → Prop := fun xs H Q => DcOk k H ∧ ∃ (tp : Addr) (cs : List V) (us : List Value) (b : Bool), xs = [.ref k.a, .ref tp] ∧ H tp = some (.tup cs) ∧ Paired ClsV cs us ∧ PySem.W.kitAny K (.ref D) us = some b ∧ Q (.bl b) H
section
variable {X : Cx} {k : Ca} {D : Addr} {oe : Obj} {pn : List (Addr × Obj)}
theorem exc_at {pins : List (Addr × Obj)} {σ : L2.St} {H : Hp} {s : Shared} (hz : Zc (.ref D) k.d oe) (hf : ∃ vs, oe.data = .fields vs) (hd : DcOk k H) (I : Inv (X.suite k.a ((k.a, oe) :: pn)) pins σ H s) : ∃ od, PySem.W.InstAt s.heap k.a oe D od := by
  obtain ⟨vs, hv⟩ := hf
  have no : PySem.W.notCls oe = true := by
    unfold PySem.W.notCls
    rw [hv]
  have hget := (I.pin (k.a, oe) (List.mem_append.mpr (.inl List.mem_cons_self))).1
  rcases hd with ⟨e, _⟩ | ⟨dd, e, i⟩
  · refine ⟨none, hget, hz.1, no, ?_⟩
    rw [hz.2, e]
    trivial
  · obtain ⟨mA, ⟨o, _, _, ho, _⟩, _⟩ : ObjOk X.prog X.w H s.heap dd (.xd k.us) := I.hok dd _ i
    refine ⟨some o, hget, hz.1, no, ?_⟩
    rw [hz.2, e]
    exact ho
theorem kit_at (C : ExcC X.K D) {od : Option Obj} : PySem.W.KitX X.K (.ref k.a) (.ref D) (fun h => PySem.W.InstAt h k.a oe D od) := by
  refine PySem.W.kitx_exc ?_ C.hg C.hk C.hs C.ha C.hn C.ht C.hm
  obtain ⟨cd, h, _⟩ := PySem.W.any_some C.hd
  rw [h]
  rfl
theorem call_isX (C : ExcC X.K D) (hz : Zc (.ref D) k.d oe) (hf : ∃ vs, oe.data = .fields vs) : CallR (X.suite k.a ((k.a, oe) :: pn)) (.builtin "isinstance") (rIsX X.K D k) := by
  intro pins s σ H xs us Q I r h
  obtain ⟨hd, c, u, b, rfl, kc, e, q⟩ := h
  obtain ⟨u1, u2, rfl, r1, r2⟩ := vals2 r
  have e2 := kc.eq r2
  subst e2
  cases (show u1 = Value.ref k.a from r1)
  obtain ⟨od, J⟩ := exc_at hz hf hd I
  exact PySem.W.kia_one (kit_at C) I.kIn J e (fun z => nomatch z) fun tk => ⟨.bl b, H, I.tok tk, rfl, q⟩
theorem call_isXT (C : ExcC X.K D) (hz : Zc (.ref D) k.d oe) (hf : ∃ vs, oe.data = .fields vs) : CallR (X.suite k.a ((k.a, oe) :: pn)) (.builtin "isinstance") (rIsXT X.K D k) := by
  intro pins s σ H xs us Q I r h
  obtain ⟨hd, tp, cs, ws, b, rfl, hT, kc, e, q⟩ := h
  obtain ⟨u1, u2, rfl, r1, r2⟩ := vals2 r
  cases (show u1 = Value.ref k.a from r1)
  cases (show u2 = Value.ref tp from r2)
  obtain ⟨_, its, rv, o, h1, h2, n, h3⟩ := (show ObjOk X.prog X.w H s.heap tp (.tup cs) from I.hok tp _ hT)
  have e3 := ClsV.all kc rv
  subst e3
  obtain ⟨od, J⟩ := exc_at hz hf hd I
  obtain ⟨oc, od', dt, sl⟩ := o
  simp only at h2 h3
  subst h2 h3
  exact PySem.W.kia_tup (kit_at C) I.kIn J h1 e (fun z => nomatch z) fun tk => ⟨.bl b, H, I.tok tk, rfl, q⟩
/-- err.f -/
theorem xfc_of {K : Fg} {C : Addr} (h : ExcC K C) : XfC K C := ⟨h.hg, h.hk, h.hs, h.hd⟩
end
end Tg
namespace Tg
open PySem PySem.Spec PyProof.Rows L2
def tH (k : Ca) (t : TE) : TE := fun σ H Q => Hold k σ H ∧ t σ H Q
def tHB (k : Ca) (t : TT) : TT := fun σ H Q => Hold k σ H ∧ t σ H Q
def tHA (k : Ca) (t : TA) : TA := fun σ H Q => Hold k σ H ∧ t σ H Q
def EndsH (k : Ca) (D : Ends) : Ends := { nx := fun σ H => Hold k σ H → D.nx σ H, rt := D.rt, bk := fun σ H => Hold k σ H → D.bk σ H, ct := fun σ H => Hold k σ H → D.ct σ H }
def noW : WX := fun _ _ _ _ => False
def tHS (K : Fg) (k : Ca) (f : DS) : TS := fun D σ H => Hold k σ H ∧ tS K noW f (EndsH k D) σ H
section
variable {K : Fg} {k : Ca} {σ : L2.St} {H : Hp} {W : WX}
theorem tE_keep {f : DE} {Q Q' : VK} (h : tE K f σ H Q) (hd : Hold k σ H) (q : ∀ v H', Hold k σ H' → Q v H' → Q' v H') : tE K f σ H Q' := by
  obtain ⟨r, m, st, env, d, st', g, e, f1, p⟩ := h
  exact ⟨r, m, st, env, d, st', g, e, f1, fun m1 H1 v l g1 d1 => q _ _ (hd.up g l) (p m1 H1 v l g1 d1)⟩
theorem tBo_keep {f : DB} {Q Q' : Bool → Hp → Prop} (h : tBo K f σ H Q) (hd : Hold k σ H) (q : ∀ v H', Hold k σ H' → Q v H' → Q' v H') : tBo K f σ H Q' := by
  obtain ⟨r, m, st, env, d, st', g, e, f1, p⟩ := h
  exact ⟨r, m, st, env, d, st', g, e, f1, fun m1 H1 l g1 => q _ _ (hd.up g l) (p m1 H1 l g1)⟩
structure EndLe (D D' : Ends) : Prop where
  nx : ∀ σ H, D.nx σ H → D'.nx σ H
  rt : ∀ v H, D.rt v H → D'.rt v H
  bk : ∀ σ H, D.bk σ H → D'.bk σ H
  ct : ∀ σ H, D.ct σ H → D'.ct σ H
theorem tS_mono {f : DS} {D D' : Ends} (h : tS K W f D σ H) (q : EndLe D D') : tS K W f D' σ H := by
  obtain ⟨r, m, st, env, fl, st', g, e, f1, p⟩ := h
  refine ⟨r, m, st, env, fl, st', g, e, f1, ?_⟩
  cases fl with
  | nx env' => exact fun m1 H1 σ1 l g1 e1 => q.nx _ _ (p m1 H1 σ1 l g1 e1)
  | bk env' => exact fun m1 H1 σ1 l g1 e1 => q.bk _ _ (p m1 H1 σ1 l g1 e1)
  | ct env' => exact fun m1 H1 σ1 l g1 e1 => q.ct _ _ (p m1 H1 σ1 l g1 e1)
  | rt d => exact fun m1 H1 v l g1 d1 => q.rt _ _ (p m1 H1 v l g1 d1)
  | xc env' x fs => exact p
theorem h_and {fa fb : DE} {Q : VK} (h : tH k (tE K (eAnd fa fb)) σ H Q) : tAndV (tH k (tE K fa)) (tH k (tE K fb)) σ H Q :=
  ⟨h.1, tE_keep (t_and h.2) h.1 fun v H' hk ⟨c, e, q⟩ => ⟨c, e, by
    cases c with
    | true => rw [if_pos rfl] at q ⊢; exact ⟨hk, q⟩
    | false => rw [if_neg Bool.false_ne_true] at q ⊢; exact q⟩⟩
theorem h_or {fa fb : DE} {Q : VK} (h : tH k (tE K (eOr fa fb)) σ H Q) : tOrV (tH k (tE K fa)) (tH k (tE K fb)) σ H Q :=
  ⟨h.1, tE_keep (t_or h.2) h.1 fun v H' hk ⟨c, e, q⟩ => ⟨c, e, by
    cases c with
    | true => rw [if_pos rfl] at q ⊢; exact q
    | false => rw [if_neg Bool.false_ne_true] at q ⊢; exact ⟨hk, q⟩⟩⟩
theorem h_c {d : D} {v : V} {Q : VK} (hv : ∀ r m H, Den K r m H d v) (h : tH k (tE K (eC d)) σ H Q) : tC v σ H Q := t_c hv h.2
theorem h_not {fa : DE} {Q : VK} (h : tH k (tE K (eNot fa)) σ H Q) : tNotV (tH k (tE K fa)) σ H Q := ⟨h.1, t_not h.2⟩
theorem h_bval {fa : DE} {Q : Bool → Hp → Prop} (h : tHB k (tBo K (bVal fa)) σ H Q) : tTest (tH k (tE K fa)) σ H Q := ⟨h.1, t_bval h.2⟩
theorem h_bnot {fa : DB} {Q : Bool → Hp → Prop} (h : tHB k (tBo K (bNot fa)) σ H Q) : L2.tNot (tHB k (tBo K fa)) σ H Q := ⟨h.1, t_bnot h.2⟩
theorem h_band {fa fb : DB} {Q : Bool → Hp → Prop} (h : tHB k (tBo K (bAnd fa fb)) σ H Q) : tAnd (tHB k (tBo K fa)) (tHB k (tBo K fb)) σ H Q :=
  ⟨h.1, tBo_keep (t_band h.2) h.1 fun c H' hk q => by
    cases c with
    | true => rw [if_pos rfl] at q ⊢; exact ⟨hk, q⟩
    | false => rw [if_neg Bool.false_ne_true] at q ⊢; exact q⟩
theorem h_bor {fa fb : DB} {Q : Bool → Hp → Prop} (h : tHB k (tBo K (bOr fa fb)) σ H Q) : tOr (tHB k (tBo K fa)) (tHB k (tBo K fb)) σ H Q :=
  ⟨h.1, tBo_keep (t_bor h.2) h.1 fun c H' hk q => by
    cases c with
    | true => rw [if_pos rfl] at q ⊢; exact q
    | false => rw [if_neg Bool.false_ne_true] at q ⊢; exact ⟨hk, q⟩⟩
theorem h_nil {Q : List V → Hp → Prop} (h : tHA k (tAr K aNil) σ H Q) : tNil σ H Q := t_nil h.2
theorem h_cons {fa : DE} {fr : DA} {Q : List V → Hp → Prop} (h : tHA k (tAr K (aCons fa fr)) σ H Q) : tCons (tH k (tE K fa)) (tHA k (tAr K fr)) σ H Q :=
  ⟨h.1, tE_keep (t_cons h.2) h.1 fun v H' hk q => ⟨hk, q⟩⟩
theorem h_tup {fa : DA} {Q : VK} (hz : ∀ env st ds st', fa env st = some (ds, st') → ds.length ≤ sizeLine) (h : tH k (tE K (eTup fa)) σ H Q) : tTup (tHA k (tAr K fa)) σ H Q := ⟨h.1, t_tup hz h.2⟩
theorem h_lst {fa : DA} {Q : VK} (hz : ∀ env st ds st', fa env st = some (ds, st') → ds.length ≤ sizeLine) (h : tH k (tE K (eLst fa)) σ H Q) : tLst (tHA k (tAr K fa)) σ H Q := ⟨h.1, t_lst hz h.2⟩
theorem h_seq {f g : DS} {D : Ends} (h : tHS K k (sSeq f g) D σ H) : tSeq (tHS K k f) (tHS K k g) D σ H :=
  ⟨h.1, tS_mono (s_seq h.2) ⟨fun σ' H' q => fun hh => ⟨hh, q⟩, fun _ _ q => q, fun _ _ q => q, fun _ _ q => q⟩⟩
theorem h_if {c : DB} {f g : DS} {D : Ends} (h : tHS K k (sIf c f g) D σ H) : tIfS (tHB k (tBo K c)) (tHS K k f) (tHS K k g) D σ H :=
  ⟨h.1, tBo_keep (s_if h.2) h.1 fun b H' hk q => by
    cases b with
    | true => rw [if_pos rfl] at q ⊢; exact ⟨hk, q⟩
    | false => rw [if_neg Bool.false_ne_true] at q ⊢; exact ⟨hk, q⟩⟩
theorem h_ret {fe : DE} {D : Ends} (h : tHS K k (sRet fe) D σ H) : tRet (tH k (tE K fe)) D σ H := ⟨h.1, s_ret (D := EndsH k D) h.2⟩
theorem h_retN {D : Ends} (h : tHS K k sRetN D σ H) : tRetN D σ H := s_retN (D := EndsH k D) h.2
theorem h_snil {D : Ends} (h : tHS K k sNil D σ H) : tNext D σ H := (s_nil h.2) h.1
theorem h_asg {fe : DE} {j : Nat} {D : Ends} (hj : k.i ≠ some j) (hj2 : ∀ q ∈ k.hs, q.2 ≠ j) (h : tHS K k (sAsg fe (gN j)) D σ H) : tAsg (tH k (tE K fe)) (gName j) D σ H := by
  refine ⟨h.1, tE_keep (s_asg (ws := [j]) h.2) h.1 fun v H' hk q => ?_⟩
  have q := g_name q
  have q : Hold k (σ.set j (some v)) H' → D.nx (σ.set j (some v)) H' := q
  exact q (hk.set hj hj2)
/-- a field is read as its slot -/
theorem h_fld {C : Addr} {i j : Nat} {f : Str} {Q : VK} (hi : k.i = some i) (hj : (f, j) ∈ k.hs) (h : tH k (tE K (eVar j)) σ H Q) : tXf k.a (.ref C) k.d C f (tVar i) σ H Q := by
  obtain ⟨⟨h1, h2, h3⟩, h⟩ := h
  obtain ⟨v, e, q⟩ := t_var h
  have e3 := h3 _ hj
  rw [e] at e3
  have e3 := Option.some.inj e3
  rw [hi] at h1
  refine ⟨.ref k.a, h1, rfl, rfl, ?_⟩
  rcases h2 with ⟨_, e0⟩ | ⟨dd, e0, e1⟩
  · rw [e0] at e3
    cases e3
  · exact ⟨dd, k.us, v, e0, e1, e3.symm, q⟩
end
/-- what a suite must know -/
structure SuOk (c : Ct) (err : Option Str) (x : Str) (k : Ca) (X : Cx) : Prop where
  N : X.N = c.N
  nd : c.N.Nodup
  sc : X.env.scope = c.sc
  fn : X.fn = c.fn
  free : ∀ y ∈ c.blt, X.mg y = none
  one : CallR X (.builtin "isinstance") (rIsX X.K (He.ga X.K x) k)
  tup : CallR X (.builtin "isinstance") (rIsXT X.K (He.ga X.K x) k)
  own : ∀ y, (c.ob.xt.any fun q => decide (q.1 = y)) = true → X.mg y = some (.ref (He.ga X.K y)) ∧ PySem.W.kitOne X.K (.ref (He.ga X.K x)) (.ref (He.ga X.K y)) = some (isA c.ob.xt x y)
  ty : ∀ t ∈ bltX, Str.ofString t ∈ c.blt → PySem.W.kitOne X.K (.ref (He.ga X.K x)) (.type t) = some (isA c.ob.xt x (Str.ofString t))
  fld : ∀ (f v : Str) (pv pos : Pos) (te : TE), fldB c f = true → PE X (.Name v pv) te → PE X (.Attribute (.Name v pv) f pos) (tXf k.a (.ref (He.ga X.K x)) k.d (He.ga X.K x) f te)
section
variable {c : Ct} {err : Option Str} {x : Str} {k : Ca} {X : Cx}
theorem SuOk.gl (S : SuOk c err x k X) {y : Str} (h : glB c.sc y = true) : Gl X y := by
  unfold Gl
  show X.env.scope.names.lookup y = _
  rw [S.sc]
  exact of_decide_eq_true h
theorem SuOk.at_ (S : SuOk c err x k X) {y : Str} {i : Nat} (h : ixS c.N y = some i) : X.N[i]? = some y := by
  rw [S.N]
  exact ixS_get h
theorem SuOk.cls (S : SuOk c err x k X) {y : Str} (h : clsB c y = true) {p : Pos} : ∃ (v : V) (u : Value), PE X (.Name y p) (tC v) ∧ ClsV v u ∧ PySem.W.kitOne X.K (.ref (He.ga X.K x)) u = some (isA c.ob.xt x y) := by
  unfold clsB at h
  simp only [Bool.and_eq_true, Bool.or_eq_true, decide_eq_true_eq] at h
  obtain ⟨⟨h1, h2⟩, h3⟩ := h
  obtain ⟨n1, n2, n3⟩ := okNm_ok h1
  have hG := S.gl h2
  rcases h3 with h3 | ⟨h3, h4⟩
  · obtain ⟨m, k⟩ := S.own y h3
    exact ⟨.ref (He.ga X.K y), .ref (He.ga X.K y), pe_glob hG m rfl n1, .own _, k⟩
  · have hM := S.free _ h3
    obtain ⟨t, ht, h4⟩ := List.any_eq_true.mp h4
    have h4 := of_decide_eq_true h4
    subst h4
    refine ⟨.ty t, .type t, ?_, .ty t, S.ty t ht h3⟩
    unfold bltX at ht
    simp only [List.mem_cons, List.not_mem_nil, or_false] at ht
    rcases ht with rfl | rfl
    · exact pe_bltn hG hM (u := .type "ValueError") (by decide +kernel) rfl (by decide) (by decide)
    · exact pe_bltn hG hM (u := .type "LookupError") (by decide +kernel) rfl (by decide) (by decide)
/-- the classes of a tuple -/
theorem SuOk.clss (S : SuOk c err x k X) : ∀ (es : List Expr) (ys : List Str), nmsOf es = some ys → ys.all (clsB c) = true → ∃ (vs : List V) (us : List Value), PA X es (fun _ H Q => Q vs H) ∧ Paired ClsV vs us ∧ vs.length = es.length ∧ PySem.W.kitAny X.K (.ref (He.ga X.K x)) us = some (ys.any (isA c.ob.xt x))
  | [], ys, h, _ => by
    cases h
    exact ⟨[], [], ⟨fun _ pins s σ H Q I w => (pa_nil (X := X)).run _ pins s σ H Q I w⟩, .nil, rfl, rfl⟩
  | e :: es, ys, h, hb => by
    cases e with
    | Name y p =>
      obtain ⟨r, h1, h⟩ := Option.map_eq_some_iff.mp h
      cases h
      rw [List.all_cons, Bool.and_eq_true] at hb
      obtain ⟨v, u, pe, k, e1⟩ := S.cls (p := p) hb.1
      obtain ⟨vs, us, pa, ks, l, e2⟩ := S.clss es r h1 hb.2
      refine ⟨v :: vs, u :: us, pa_imp (pa_cons pe pa (plain_star rfl _ _)) fun σ H Q q => q, .cons k ks, by rw [List.length_cons, List.length_cons, l], ?_⟩
      refine kitAny_cons e1 (fun z => ?_) fun z => ?_
      · rw [e2, List.any_cons, z]
        rfl
      · rw [List.any_cons, z]
        rfl
    | _ => cases h
theorem isx_plain {e : Expr} {b : Bool} (h : isxP c err x e = some b) : plainE e = true := by
  unfold isxP at h
  split at h
  · rfl
  · cases h
theorem isx_ok (S : SuOk c err x k X) (hi : ∀ n, err = some n → ∃ j, k.i = some j ∧ ixS c.N n = some j) {e : Expr} {b : Bool} (h : isxP c err x e = some b) : PE X e (tH k (tE X.K (eC (.bl b)))) := by
  unfold isxP at h
  split at h
  · next f p v pv t pos =>
    split at h
    · next hc =>
      simp only [Bool.and_eq_true, decide_eq_true_eq] at hc
      obtain ⟨⟨⟨⟨⟨⟨rfl, g1⟩, m1⟩, o1⟩, vi⟩, ix⟩, ev⟩ := hc
      obtain ⟨n1, n2, n3⟩ := okNm_ok o1
      obtain ⟨j, ij, hj⟩ := hi v ev
      have at_ : ∀ {σ : L2.St} {H : Hp}, Hold k σ H → σ[j]? = some (some (.ref k.a)) := fun h => by
        have h1 := h.1
        rw [ij] at h1
        exact h1
      have pe1 : PE X (.Name v pv) (tVar j) := pe_var (S.at_ hj) (by rw [S.sc]; exact visB_ok vi) n1 n2
      have hG := S.gl g1
      have hM := S.free _ m1
      have vn : plainE (.Name v pv) = true := rfl
      split at h
      · next y p2 =>
        split at h
        · next hy =>
          cases h
          obtain ⟨w, u, pe2, kc, e1⟩ := S.cls (p := p2) hy
          refine pe_imp (pe_callB S.one hG hM (by decide +kernel) (pa_cons pe1 (pa_cons pe2 pa_nil (plain_star rfl _ _)) (plain_star vn _ _)) (by decide) (by decide) (plain_star vn _ _) rfl) fun σ H Q hh => ?_
          obtain ⟨hh1, r, m, st, env, d, st', g, en, f, q⟩ := hh
          cases f
          exact ⟨.ref k.a, at_ hh1, hh1.2.1, w, u, _, rfl, kc, e1, q m H (.bl _) (Le.refl m H) g rfl⟩
        · cases h
      · next ts kk p2 =>
        obtain ⟨ys, h1, h⟩ := Option.bind_eq_some_iff.mp h
        split at h
        · next hb =>
          cases h
          rw [Bool.and_eq_true, decide_eq_true_eq] at hb
          obtain ⟨vs, us, pa, ks, l, e1⟩ := S.clss ts ys h1 hb.1
          have pe2 : PE X (.Tuple ts kk p2) (tTup fun _ H Q => Q vs H) := pe_tup pa
          refine pe_imp (pe_callB S.tup hG hM (by decide +kernel) (pa_cons pe1 (pa_cons pe2 pa_nil (plain_star rfl _ _)) (plain_star vn _ _)) (by decide) (by decide) (plain_star vn _ _) rfl) fun σ H Q hh => ?_
          obtain ⟨hh1, r, m, st, env, d, st', g, en, f, q⟩ := hh
          cases f
          refine ⟨.ref k.a, at_ hh1, by rw [l]; exact Nat.le_trans hb.2 (by decide), fun p np => ?_⟩
          exact ⟨(hh1.up g (le_upd np)).2.1, p, vs, us, _, rfl, upd_same, ks, e1, q m _ (.bl _) (le_upd np) (g.upd np) rfl⟩
        · cases h
      · cases h
    · cases h
  · cases h
theorem ixS_inj {N : List Str} {y z : Str} {j : Nat} (h : ixS N y = some j) (h' : ixS N z = some j) : y = z := by
  have a := ixS_get h
  have b := ixS_get h'
  rw [a] at b
  exact Option.some.inj b
structure SuE (c : Ct) (err : Option Str) (x : Str) (k : Ca) (X : Cx) (n : Nat) : Prop where
  E : ∀ e f, cXe c err x n e = some f → PE X e (tH k (tE X.K f)) ∧ plainE e = true
  B : ∀ op es f pos, cXb c err x n op es = some f → PE X (.BoolOp op es pos) (tH k (tE X.K f))
  A : ∀ es f, cXa c err x n es = some f → PA X es (tHA k (tAr X.K f)) ∧ ∀ env st ds st', f env st = some (ds, st') → ds.length = es.length
  D : ∀ op es f pos, cXd c err x n op es = some f → PW X (.BoolOp op es pos) (tHB k (tBo X.K f))
  T : ∀ e f, cXt c err x n e = some f → PT X e (tHB k (tBo X.K f))
theorem su_e (S : SuOk c err x k X) (hh_s : k.hs = hidP c err) (hi : ∀ n, err = some n → ∃ j, k.i = some j ∧ ixS c.N n = some j) : ∀ n, SuE c err x k X n := by
  intro n
  induction n with
  | zero =>
    constructor
    · intro e f h; unfold cXe at h; cases h
    · intro op es f pos h; unfold cXb at h; cases h
    · intro es f h; unfold cXa at h; cases h
    · intro op es f pos h; unfold cXd at h; cases h
    · intro e f h; unfold cXt at h; cases h
  | succ n ih =>
    constructor
    · intro e f h
      unfold cXe at h
      split at h
      · next b hb =>
        cases h
        exact ⟨isx_ok S hi hb, isx_plain hb⟩
      · split at h
        · next y p =>
          split at h
          · next hx =>
            simp only [Bool.and_eq_true, decide_eq_true_eq] at hx
            obtain ⟨j, hj, h⟩ := Option.map_eq_some_iff.mp h
            cases h
            obtain ⟨n1, n2, n3⟩ := okNm_ok hx.1.1
            exact ⟨pe_imp (pe_var (S.at_ hj) (by rw [S.sc]; exact visB_ok hx.1.2) n1 n2) fun _ _ _ hh => t_var hh.2, rfl⟩
          · cases h
        · cases h; exact ⟨pe_imp pe_int fun _ _ _ => h_c fun _ _ _ => rfl, rfl⟩
        · cases h; exact ⟨pe_imp pe_bl fun _ _ _ => h_c fun _ _ _ => rfl, rfl⟩
        · cases h; exact ⟨pe_imp pe_non fun _ _ _ => h_c fun _ _ _ => rfl, rfl⟩
        · cases h; exact ⟨pe_imp pe_str fun _ _ _ => h_c fun _ _ _ => rfl, rfl⟩
        · obtain ⟨fa, h1, h⟩ := Option.map_eq_some_iff.mp h
          cases h
          exact ⟨pe_imp (pe_not (ih.E _ _ h1).1) fun _ _ _ => h_not, rfl⟩
        · exact ⟨ih.B _ _ _ _ h, rfl⟩
        · split at h
          · next hz =>
            obtain ⟨fa, h1, h⟩ := Option.map_eq_some_iff.mp h
            cases h
            obtain ⟨q1, l1⟩ := ih.A _ _ h1
            refine ⟨pe_imp (pe_tup q1) fun _ _ _ => h_tup fun env st ds st' e => ?_, rfl⟩
            rw [l1 _ _ _ _ e]
            exact Nat.le_trans (of_decide_eq_true hz) (by decide)
          · cases h
        · split at h
          · next hz =>
            rw [Bool.and_eq_true] at hz
            obtain ⟨fa, h1, h⟩ := Option.map_eq_some_iff.mp h
            cases h
            obtain ⟨q1, l1⟩ := ih.A _ _ h1
            refine ⟨pe_imp (pe_lst q1) fun _ _ _ => h_lst fun env st ds st' e => ?_, rfl⟩
            rw [l1 _ _ _ _ e]
            exact Nat.le_trans (of_decide_eq_true hz.1) (by decide)
          · cases h
        · next v pv f' pos _ =>
          split at h
          · next hx =>
            simp only [Bool.and_eq_true, decide_eq_true_eq] at hx
            obtain ⟨⟨⟨⟨o1, vi⟩, _⟩, ev⟩, hf⟩ := hx
            obtain ⟨j, hj, h⟩ := Option.map_eq_some_iff.mp h
            cases h
            obtain ⟨n1, n2, n3⟩ := okNm_ok o1
            obtain ⟨i, ij, hi2⟩ := hi v ev
            refine ⟨pe_imp (S.fld f' v pv pos _ hf (pe_var (S.at_ hi2) (by rw [S.sc]; exact visB_ok vi) n1 n2)) fun _ _ _ hh => h_fld ij (by rw [hh_s]; exact PySem.mem_of_lookup hj) hh, rfl⟩
          · cases h
        · cases h
    · intro op es f pos h
      unfold cXb at h
      split at h
      · exact pe_one (ih.E _ _ h).1
      · split at h
        · obtain ⟨fa, h1, h⟩ := Option.bind_eq_some_iff.mp h
          obtain ⟨fb, h2, h⟩ := Option.map_eq_some_iff.mp h
          cases h
          exact pe_imp (pe_and (ih.E _ _ h1).1 (ih.B _ _ _ _ h2)) fun _ _ _ => h_and
        · obtain ⟨fa, h1, h⟩ := Option.bind_eq_some_iff.mp h
          obtain ⟨fb, h2, h⟩ := Option.map_eq_some_iff.mp h
          cases h
          exact pe_imp (pe_or (ih.E _ _ h1).1 (ih.B _ _ _ _ h2)) fun _ _ _ => h_or
      · cases h
    · intro es f h
      unfold cXa at h
      split at h
      · cases h
        refine ⟨pa_imp pa_nil fun _ _ _ => h_nil, fun env st ds st' e => ?_⟩
        cases e
        rfl
      · obtain ⟨fa, h1, h⟩ := Option.bind_eq_some_iff.mp h
        obtain ⟨fr, h2, h⟩ := Option.map_eq_some_iff.mp h
        cases h
        obtain ⟨q1, p1⟩ := ih.E _ _ h1
        obtain ⟨q2, l2⟩ := ih.A _ _ h2
        refine ⟨pa_imp (pa_cons q1 q2 (plain_star p1 _ _)) fun _ _ _ => h_cons, fun env st ds st' e => ?_⟩
        unfold aCons at e
        obtain ⟨⟨u, s1⟩, e1, e⟩ := Option.bind_eq_some_iff.mp e
        obtain ⟨⟨y, s2⟩, e2, e⟩ := Option.bind_eq_some_iff.mp e
        cases e
        rw [List.length_cons, List.length_cons, l2 _ _ _ _ e2]
    · intro op es f pos h
      unfold cXd at h
      split at h
      · have h1 := ih.T _ _ h
        cases op with
        | And => exact pw_and1 h1
        | Or => exact pw_or1 h1
      · split at h
        · obtain ⟨fa, h1, h⟩ := Option.bind_eq_some_iff.mp h
          obtain ⟨fb, h2, h⟩ := Option.map_eq_some_iff.mp h
          cases h
          exact pw_imp (pw_and (ih.T _ _ h1) (ih.D _ _ _ _ h2)) fun _ _ _ => h_band
        · obtain ⟨fa, h1, h⟩ := Option.bind_eq_some_iff.mp h
          obtain ⟨fb, h2, h⟩ := Option.map_eq_some_iff.mp h
          cases h
          exact pw_imp (pw_or (ih.T _ _ h1) (ih.D _ _ _ _ h2)) fun _ _ _ => h_bor
      · cases h
    · intro e f h
      unfold cXt at h
      split at h
      · obtain ⟨fa, h1, h⟩ := Option.map_eq_some_iff.mp h
        cases h
        exact pt_imp (pt_not (ih.T _ _ h1)) fun _ _ _ => h_bnot
      · exact (ih.D _ _ _ _ h).pt
      · split at h
        · next ho =>
          obtain ⟨fa, h1, h⟩ := Option.map_eq_some_iff.mp h
          cases h
          exact pt_imp (pt_val (ih.E _ _ h1).1 (fun w => own_test ho _ w)) fun _ _ _ => h_bval
        · cases h
theorem hid_loc {c : Ct} {err : Option Str} {y : Str} {j : Nat} (hl : locB c y = true) (hj : ixS c.N y = some j) : ∀ q ∈ hidP c err, q.2 ≠ j := by
  intro q hq e
  cases err with
  | none => cases hq
  | some v =>
    obtain ⟨f, _, h⟩ := List.mem_filterMap.mp hq
    split at h
    · cases h
    · next nv =>
      obtain ⟨i, hi, h⟩ := Option.map_eq_some_iff.mp h
      cases h
      have e : i = j := e
      rw [e] at hi
      rw [ixS_inj hi hj] at nv
      apply nv
      unfold locB at hl
      unfold visB
      split at hl
      · next z => rw [z]
      · next z => rw [z]
      · cases hl
theorem su_s (S : SuOk c err x k X) (hh_s : k.hs = hidP c err) (hi : ∀ n, err = some n → ∃ j, k.i = some j ∧ ixS c.N n = some j) (hn : err = none → k.i = none) : ∀ n, (∀ s f, cXs c err x n s = some f → PS X s (tHS X.K k f)) ∧ (∀ ss f, cXss c err x n ss = some f → PSs X ss (tHS X.K k f)) := by
  intro n
  induction n with
  | zero =>
    constructor
    · intro s f h; unfold cXs at h; cases h
    · intro ss f h; unfold cXss at h; cases h
  | succ n ih =>
    obtain ⟨ihS, ihB⟩ := ih
    constructor
    · intro s f h
      unfold cXs at h
      split at h
      · obtain ⟨fe, h1, h⟩ := Option.map_eq_some_iff.mp h
        cases h
        exact ps_imp (ps_ret ((su_e S hh_s hi n).E _ _ h1).1) fun _ _ _ => h_ret
      · cases h; exact ps_imp ps_retN fun _ _ _ => h_retN
      · cases h; exact ps_imp ps_pass fun _ _ _ => h_snil
      · obtain ⟨ft, h1, h⟩ := Option.bind_eq_some_iff.mp h
        obtain ⟨fa, h2, h⟩ := Option.bind_eq_some_iff.mp h
        obtain ⟨fb, h3, h⟩ := Option.map_eq_some_iff.mp h
        cases h
        exact ps_imp (ps_if ((su_e S hh_s hi n).T _ _ h1) (ihB _ _ h2) (ihB _ _ h3)) fun _ _ _ => h_if
      · next y py e pos =>
        split at h
        · next hc =>
          simp only [Bool.and_eq_true, decide_eq_true_eq, Bool.not_eq_true'] at hc
          obtain ⟨⟨hl, he⟩, hcm⟩ := hc
          obtain ⟨j, hj, h⟩ := Option.bind_eq_some_iff.mp h
          obtain ⟨fe, h1, h⟩ := Option.map_eq_some_iff.mp h
          cases h
          have hx : Loc X.env.scope y ∧ (X.fn y = true ∨ X.env.scope.names.lookup y = some .local) := by
            unfold locB at hl
            rw [← S.sc, ← S.fn] at hl
            split at hl
            · next q => exact ⟨.inl q, .inr q⟩
            · next q => exact ⟨.inr q, .inl hl⟩
            · cases hl
          have ij : k.i ≠ some j := by
            intro e0
            cases err with
            | none => rw [hn rfl] at e0; cases e0
            | some v =>
              obtain ⟨j', e1, e2⟩ := hi v rfl
              rw [e0] at e1
              cases e1
              exact he (congrArg some (ixS_inj e2 hj))
          have nd : X.N.Nodup := by rw [S.N]; exact S.nd
          exact ps_imp (ps_set nd (S.at_ hj) hx.1 ((su_e S hh_s hi n).E _ _ h1).1 (comp_noswap hcm _ _ _) hx.2) fun _ _ _ => h_asg ij (by rw [hh_s]; exact hid_loc hl hj)
        · cases h
      · cases h
    · intro ss f h
      unfold cXss at h
      split at h
      · cases h; exact pss_imp pss_nil fun _ _ _ => h_snil
      · obtain ⟨fa, h1, h⟩ := Option.bind_eq_some_iff.mp h
        obtain ⟨fb, h2, h⟩ := Option.map_eq_some_iff.mp h
        cases h
        exact pss_imp (pss_cons (ihS _ _ h1) (ihB _ _ h2)) fun _ _ _ => h_seq
end
end Tg
namespace Tg
open PySem PySem.Spec PyProof.Rows L2
def setS (i : Option Nat) (env : En) : En := match i with
  | none => env
  | some i => env.set i none
def unS (i : Option Nat) : Fl → Fl
  | .nx e => .nx (setS i e)
  | .bk e => .bk (setS i e)
  | .ct e => .ct (setS i e)
  | f => f
def inXt (xt : List (Str × List Str)) (x : Str) : Bool := xt.any fun q => decide (q.1 = x)
def slotB (i : Option Nat) (env : En) : Bool := match i with
  | none => true
  | some i => decide (i < env.length)
/-- try: body, except cls (as the name of slot i): suite -/
def sTry (xt : List (Str × List Str)) (cls : Str) (i : Option Nat) (body : DS) (suite : Str → DS) : DS := fun env st => (body env st).bind fun p => match p.1 with
  | .xc env' x fs => if (inXt xt x && slotB i env') = true then (if isA xt x cls = true then (suite x (setS i env') p.2).bind fun q => if noX q.1 = true then some (unS i q.1, q.2) else none else some (.xc env' x fs, p.2)) else none
  | f => some (f, p.2)
section
variable {K : Fg} {σ : L2.St} {H : Hp} {D : Ends} {W : WX}
theorem EnvR.setW {r m : List Addr} {env : En} (h : EnvR K r m H env σ) (i : Nat) (w : Option V) : EnvR K r m H (env.set i none) (σ.set i w) := by
  refine ⟨by rw [List.length_set, List.length_set]; exact h.1, fun j d e => ?_⟩
  by_cases c : i = j
  · subst c
    by_cases l : i < env.length
    · rw [List.getElem?_set_self l] at e
      cases e
    · rw [List.getElem?_eq_none (by rw [List.length_set]; omega)] at e
      cases e
  · rw [List.getElem?_set_ne c] at e
    obtain ⟨v, a, b⟩ := h.2 j d e
    exact ⟨v, by rw [List.getElem?_set_ne c]; exact a, b⟩
/-- the fields' slots, on data and in the state -/
def envH (hs : List (Str × Nat)) (fs : List (Str × Tg.D)) (env : En) : En := hs.foldl (fun e p => e.set p.2 (fs.lookup p.1)) env
def sigH (hs : List (Str × Nat)) (us : List (Str × V)) (σ : L2.St) : L2.St := hs.foldl (fun s p => s.set p.2 (us.lookup p.1)) σ
def hidOk (hs : List (Str × Nat)) : Bool := hs.all fun p => hs.all fun q => decide (p.2 ≠ q.2) || decide (p.1 = q.1)
/-- the reading of a suite, for the class that was caught -/
def tsX (K : Fg) (xt : List (Str × List Str)) (i : Option Nat) (hs : List (Str × Nat)) (suite : Str → DS) : Addr → Value → Option Addr → TS := fun a cls d Z σ H => ∃ x us, cls = .ref (He.ga K x) ∧ inXt xt x = true ∧ tHS K ⟨i, a, d, us, hs⟩ (suite x) Z (sigH hs us σ) H
theorem XVal.dc {K : Fg} {r m : List Addr} {H : Hp} {x : Str} {fs : List (Str × Tg.D)} {cls : Value} {d : Option Addr} (h : XVal K r m H x fs cls d) : ∃ us, cls = .ref (He.ga K x) ∧ ((d = none ∧ us = []) ∨ ∃ dd, d = some dd ∧ H dd = some (.xd us)) ∧ ∀ q ∈ fs, ∃ v, us.lookup q.1 = some v ∧ Den K r m H q.2 v := by
  obtain ⟨e, ⟨rfl, e2⟩ | ⟨dd, us, e2, _, h1, h2⟩⟩ := h
  · exact ⟨[], e, .inl ⟨e2, rfl⟩, fun q hq => by cases hq⟩
  · exact ⟨us, e, .inr ⟨dd, e2, h1⟩, h2⟩
theorem s_try_as {xt : List (Str × List Str)} {cls : Str} {i : Nat} {fb : DS} {su : Str → DS} (hx : ∀ x, inXt xt x = true → PySem.W.exmOne K (.ref (He.ga K x)) (.ref (He.ga K cls)) = some (isA xt x cls)) (h : tS K W (sTry xt cls (some i) fb su) D σ H) :
    tS K (wAs K (.ref (He.ga K cls)) i (tsX K xt (some i) [] su) W D) fb D σ H := by
  obtain ⟨r, m, st, env, fl, st', g, e, f, q⟩ := h
  unfold sTry at f
  obtain ⟨⟨p, s1⟩, f1, f⟩ := Option.bind_eq_some_iff.mp f
  refine ⟨r, m, st, env, p, s1, g, e, f1, ?_⟩
  cases p with
  | nx e1 => cases f; exact q
  | rt d => cases f; exact q
  | bk e1 => cases f; exact q
  | ct e1 => cases f; exact q
  | xc e1 x fs =>
    intro m1 H1 σ1 cv dv l1 g1 er1 xv
    obtain ⟨us, ec, dc, _⟩ := xv.dc
    subst ec
    have f : (if (inXt xt x && slotB (some i) e1) = true then (if isA xt x cls = true then (su x (setS (some i) e1) s1).bind fun q => if noX q.1 = true then some (unS (some i) q.1, q.2) else none else some (.xc e1 x fs, s1)) else none) = some (fl, st') := f
    split at f
    · next hk =>
      rw [Bool.and_eq_true] at hk
      obtain ⟨k1, k2⟩ := hk
      refine ⟨isA xt x cls, hx x k1, fun hb a na => ?_, fun hb => ?_⟩
      · rw [if_pos hb] at f
        obtain ⟨⟨p2, s2⟩, f2, f⟩ := Option.bind_eq_some_iff.mp f
        split at f
        · next hn =>
          cases f
          refine ⟨x, us, rfl, k1, ⟨?_, dc, fun p hp => nomatch hp⟩, r, m1, s1, e1.set i none, p2, s2, g1, er1.setW i _, f2, ?_⟩
          · show (σ1.set i (some (.ref a)))[i]? = _
            have k2 : i < e1.length := of_decide_eq_true k2
            rw [List.getElem?_set_self (by rw [← er1.1]; exact k2)]
          · have q : EndOk K W r m H (unS (some i) p2) s2 D := q
            cases p2 with
            | nx e2 => exact fun m2 H2 σ2 l2 g2 er2 _ => q m2 H2 _ (l1.trans l2) g2 (er2.setW i none)
            | bk e2 => exact fun m2 H2 σ2 l2 g2 er2 _ => q m2 H2 _ (l1.trans l2) g2 (er2.setW i none)
            | ct e2 => exact fun m2 H2 σ2 l2 g2 er2 _ => q m2 H2 _ (l1.trans l2) g2 (er2.setW i none)
            | rt d => exact fun m2 H2 v l2 g2 d2 => q m2 H2 v (l1.trans l2) g2 d2
            | xc e2 x2 fs2 => cases hn
        · cases f
      · rw [if_neg (by rw [hb]; decide)] at f
        cases f
        exact q m1 H1 σ1 _ _ l1 g1 er1 xv
    · cases f
theorem s_try_only {xt : List (Str × List Str)} {cls : Str} {fb : DS} {su : Str → DS} (hx : ∀ x, inXt xt x = true → PySem.W.exmOne K (.ref (He.ga K x)) (.ref (He.ga K cls)) = some (isA xt x cls)) (h : tS K W (sTry xt cls none fb su) D σ H) :
    tS K (wOnly K (.ref (He.ga K cls)) (tsX K xt none [] su) W D) fb D σ H := by
  obtain ⟨r, m, st, env, fl, st', g, e, f, q⟩ := h
  unfold sTry at f
  obtain ⟨⟨p, s1⟩, f1, f⟩ := Option.bind_eq_some_iff.mp f
  refine ⟨r, m, st, env, p, s1, g, e, f1, ?_⟩
  cases p with
  | nx e1 => cases f; exact q
  | rt d => cases f; exact q
  | bk e1 => cases f; exact q
  | ct e1 => cases f; exact q
  | xc e1 x fs =>
    intro m1 H1 σ1 cv dv l1 g1 er1 xv
    obtain ⟨us, ec, dc, _⟩ := xv.dc
    subst ec
    have f : (if (inXt xt x && slotB none e1) = true then (if isA xt x cls = true then (su x (setS none e1) s1).bind fun q => if noX q.1 = true then some (unS none q.1, q.2) else none else some (.xc e1 x fs, s1)) else none) = some (fl, st') := f
    split at f
    · next hk =>
      rw [Bool.and_eq_true] at hk
      obtain ⟨k1, k2⟩ := hk
      refine ⟨isA xt x cls, hx x k1, fun hb a na => ?_, fun hb => ?_⟩
      · rw [if_pos hb] at f
        obtain ⟨⟨p2, s2⟩, f2, f⟩ := Option.bind_eq_some_iff.mp f
        split at f
        · next hn =>
          cases f
          refine ⟨x, us, rfl, k1, ⟨trivial, dc, fun p hp => nomatch hp⟩, r, m1, s1, e1, p2, s2, g1, er1, f2, ?_⟩
          have q : EndOk K W r m H (unS none p2) s2 D := q
          cases p2 with
          | nx e2 => exact fun m2 H2 σ2 l2 g2 er2 _ => q m2 H2 _ (l1.trans l2) g2 er2
          | bk e2 => exact fun m2 H2 σ2 l2 g2 er2 _ => q m2 H2 _ (l1.trans l2) g2 er2
          | ct e2 => exact fun m2 H2 σ2 l2 g2 er2 _ => q m2 H2 _ (l1.trans l2) g2 er2
          | rt d => exact fun m2 H2 v l2 g2 d2 => q m2 H2 v (l1.trans l2) g2 d2
          | xc e2 x2 fs2 => cases hn
        · cases f
      · rw [if_neg (by rw [hb]; decide)] at f
        cases f
        exact q m1 H1 σ1 _ _ l1 g1 er1 xv
    · cases f
end
/-- what the exceptions' classes must say -/
structure XcK (K : Fg) (x : Str) : Prop where
  kp : PySem.W.keepIn K (.ref (He.ga K x)) = true
  bs : PySem.W.subIn K (.ref (He.ga K x)) (.type "BaseException") = some true
  ty : PySem.W.typeIn K (.ref (He.ga K x)) = some (.type "type")
  ec : ExcC K (He.ga K x)
/-- and of those with fields -/
structure XiK (K : Fg) (x : Str) (ns : List Str) : Prop where
  ox : OexC K (He.ga K x)
  no : ∀ f ∈ ns, PySem.W.findIn K (.ref (He.ga K x)) f = some none
  nd : ns.Nodup
  ln : ns.length ≤ 900
  fn : ∃ fI fd ps, PySem.W.findIn K (.ref (He.ga K x)) "__init__" = some (some (.ref fI)) ∧ PySem.W.typeIn K (.ref fI) = some (.type "function") ∧ Binds K fd ps [] ∧ ∀ P w mg base, FnOk P w K mg base (L2.CX P w) 1 fI fd ps (spI (He.ga K x) ns)
structure XTab (K : Fg) (mg : Str → Option Value) (xt xi : List (Str × List Str)) : Prop where
  cls : ∀ x, inXt xt x = true → mg x = some (.ref (He.ga K x)) ∧ XcK K x
  inn : ∀ x, inXt xt x = true → xi.lookup x = none → PySem.W.excIn K (He.ga K x) He.veBase "ValueError.__new__" = true
  ini : ∀ x ns, inXt xt x = true → xi.lookup x = some ns → XiK K x ns
  nof : ∀ x, inXt xt x = true → ∀ f ∈ (xi.flatMap fun q => q.2), PySem.W.findIn K (.ref (He.ga K x)) f = some none
  kit : ∀ x y, inXt xt x = true → inXt xt y = true → PySem.W.kitOne K (.ref (He.ga K x)) (.ref (He.ga K y)) = some (isA xt x y)
  exm : ∀ x y, inXt xt x = true → inXt xt y = true → PySem.W.exmOne K (.ref (He.ga K x)) (.ref (He.ga K y)) = some (isA xt x y)
  blt : ∀ x, inXt xt x = true → ∀ t ∈ bltX, PySem.W.kitOne K (.ref (He.ga K x)) (.type t) = some (isA xt x (Str.ofString t))
/-- a context whose exceptions are wished for -/
structure StatX (C : Orc) (k : Nat) (c : Ct) (X : Cx) (W : WX) : Prop where
  S : Stat C k c X
  tk : Takes X W
  st : X.stack = X.env :: X.outer
  fr : X.env.frame = some X.env.locals
  r2 : Room 2 X.A
  tab : XTab X.K X.mg c.ob.xt c.ob.xi
  fnx : ∀ x id n ix, c.glb.lookup x = some (.fn id n) → c.ob.xf.lookup id = some ix → ∃ f fd ps, X.mg x = some (.ref f) ∧ PySem.W.keepIn X.K (.ref f) = true ∧ Binds X.K fd ps [] ∧ FnX X.prog X.w X.K X.mg X.base k f fd ps (spX X.K C ix n)
theorem inv_hid {X : Cx} {pins : List (Addr × Obj)} {σ : L2.St} {H : Hp} {s : Shared} (I : Inv X pins σ H s) {j : Nat} {y : Str} {w : Option V} (hj : X.N[j]? = some y) (nv : ¬ Vis X.env.scope y) : Inv X pins (σ.set j w) H s := by
  obtain ⟨m, hn, hl⟩ := I.loc
  refine ⟨I.ok, I.os, I.bare, I.base, ⟨m, hn, fun i z v e1 e2 e3 => hl i z v e1 ?_ e3⟩, I.cell, I.free, I.freeC, I.pin, I.hok, by rw [List.length_set]; exact I.len⟩
  by_cases e : j = i
  · subst e
    rw [hj] at e1
    cases e1
    exact absurd e3 nv
  · rwa [List.getElem?_set_ne e] at e2
theorem inv_hids {X : Cx} {pins : List (Addr × Obj)} {H : Hp} {s : Shared} {us : List (Str × V)} : ∀ (hs : List (Str × Nat)) {σ : L2.St}, (∀ p ∈ hs, ∃ y, X.N[p.2]? = some y ∧ ¬ Vis X.env.scope y) → Inv X pins σ H s → Inv X pins (sigH hs us σ) H s
  | [], _, _, I => I
  | p :: hs, σ, h, I => by
    obtain ⟨y, h1, h2⟩ := h p List.mem_cons_self
    exact inv_hids hs (σ := σ.set p.2 (us.lookup p.1)) (fun q hq => h q (List.mem_cons_of_mem _ hq)) (inv_hid I h1 h2)
theorem vis_b {sc : Scope} {y : Str} (h : Vis sc y) : visB sc y = true := by
  unfold visB
  rcases h with h | h | h <;> rw [h]
theorem hid_at {c : Ct} {err : Option Str} : ∀ p ∈ hidP c err, ∃ y, c.N[p.2]? = some y ∧ ¬ Vis c.sc y := by
  intro p hp
  cases err with
  | none => cases hp
  | some v =>
    obtain ⟨f, _, h⟩ := List.mem_filterMap.mp hp
    split at h
    · cases h
    · next nv =>
      obtain ⟨i, hi, h⟩ := Option.map_eq_some_iff.mp h
      cases h
      exact ⟨_, ixS_get hi, fun z => nv (vis_b z)⟩
section
variable {C : Orc} {k : Nat} {c : Ct} {X : Cx} {W : WX}
theorem StatX.tr (S : StatX C k c X W) {pn : List (Addr × Obj)} {xe : Value → Shared → Prop} {W' : WX} (tk : Takes (X.tr pn xe) W') (ps : PassesOwn (model X.prog X.w) X.A X.env xe) : StatX C k c (X.tr pn xe) W' :=
  ⟨{ N := S.S.N, nd := S.S.nd, sc := S.S.sc, fn := S.S.fn, kind := S.S.kind, calm := S.S.calm, gd := S.S.gd, rm := S.S.rm, ps := ps, free := S.S.free, funs := S.S.funs, csts := S.S.csts, clss := S.S.clss, flds := S.S.flds, mths := S.S.mths }, tk, S.st, S.fr, S.r2, S.tab, S.fnx⟩
theorem StatX.su (S : StatX C k c X W) {err : Option Str} {x : Str} {q : Ca} {oe : Obj} {pn : List (Addr × Obj)} (hx : inXt c.ob.xt x = true) (hz : Zc (.ref (He.ga X.K x)) q.d oe) (hf : ∃ vs, oe.data = .fields vs) : SuOk c err x q (X.suite q.a ((q.a, oe) :: pn)) := by
  refine ⟨S.S.N, S.S.nd, S.S.sc, S.S.fn, S.S.free, call_isX (S.tab.cls x hx).2.ec hz hf, call_isXT (S.tab.cls x hx).2.ec hz hf, fun y hy => ⟨(S.tab.cls y hy).1, S.tab.kit x y hx hy⟩, fun t ht _ => S.tab.blt x hx t ht, fun f v pv pos te hb he => ?_⟩
  exact pe_xf (xfc_of (S.tab.cls x hx).2.ec) (S.tab.nof x hx f (of_decide_eq_true hb)) hz hf he
theorem raise_ok (S : StatX C k c X W) {x : Str} {p pos pos' : Pos} (hg : glB c.sc x = true) (hn : okNm x = true) (hx : inXt c.ob.xt x = true) (hi : c.ob.xi.lookup x = none) : PS X (.Raise (some (.Call (.Name x p) [] [] pos)) none pos') (tS X.K W (sRaise x)) := by
  obtain ⟨m, k⟩ := S.tab.cls x hx
  exact ps_imp (ps_raise S.S.calm S.tk (pmk_own0 PySem.F.excBase_ValueError (S.tab.inn x hx hi) m k.kp (raises_own k.bs k.ty) (S.S.gl hg) (okNm_ok hn).1)) fun D σ H h => s_raise h
theorem raiseF_ok (S : StatX C k c X W) {x : Str} {ns : List Str} {e : Expr} {es : List Expr} {fa : DA} {p pos pos' : Pos} (hg : glB c.sc x = true) (hn : okNm x = true) (hx : inXt c.ob.xt x = true) (hi : c.ob.xi.lookup x = some ns) (ha : PA X (e :: es) (tAr X.K fa)) (hp : (e :: es).all plainE = true) :
    PS X (.Raise (some (.Call (.Name x p) (e :: es) [] pos)) none pos') (tS X.K W (sRaiseF x ns fa)) := by
  obtain ⟨m, _⟩ := S.tab.cls x hx
  have T := S.tab.ini x ns hx hi
  obtain ⟨fI, fd, ps, i1, i2, i3, F⟩ := T.fn
  rw [List.all_cons, Bool.and_eq_true] at hp
  refine ps_imp (ps_raise S.S.calm S.tk (pmk_oex (CX := L2.CX X.prog X.w) T.ox i1 i2 (F _ _ _ _) S.r2 i3 .nil (fun _ _ _ _ _ _ _ z => ?_) (S.S.gl hg) m ha (okNm_ok hn).1 (plain_star hp.1 _ _) (stars_none hp.2 _ _))) fun D σ H h => s_raiseF T.nd T.ln h
  obtain ⟨_, _, _, _, _, _, _, _, _, _, _, _, z⟩ := z
  exact z.elim
theorem suite_ok (S : StatX C k c X W) {err : Option Str} {i : Option Nat} (hi : ∀ n, err = some n → ∃ j, i = some j ∧ ixS c.N n = some j) (hn : err = none → i = none) {n : Nat} {ss : List Stmt} {a : Addr} {oe : Obj} {cls : Value} {d : Option Addr} {pn : List (Addr × Obj)}
    (hz : Zc cls d oe) (hf : ∃ vs, oe.data = .fields vs) : PSs (X.suite a ((a, oe) :: pn)) ss (tsX X.K c.ob.xt i (hidP c err) (fun x => (cXss c err x n ss).getD fun _ _ => none) a cls d) := by
  refine ⟨fun pins s σ H D I w => ?_⟩
  obtain ⟨x, us, rfl, hx, w⟩ := w
  dsimp only at w
  cases h : cXss c err x n ss with
  | none =>
    rw [h] at w
    obtain ⟨_, r, m, st, env, fl, st', g, e, f, q⟩ := w
    cases f
  | some f =>
    rw [h] at w
    have I' := inv_hids (us := us) (hidP c err) (fun p hp => by
      obtain ⟨y, h1, h2⟩ := hid_at p hp
      exact ⟨y, by rw [← S.S.N] at h1; exact h1, by rw [← S.S.sc] at h2; exact h2⟩) I
    exact ((su_s (k := ⟨i, a, d, us, hidP c err⟩) (S.su hx hz hf) rfl hi hn n).2 ss f h).run pins s _ H D I' w
end
end Tg
namespace Tg
open PySem PySem.Spec PyProof.Rows L2
/-- whether the classes that a clause names take a class -/
def TestOk (X : Cx) (te : Expr) (tst : Value → Option Bool) : Prop :=
  ∀ (a : Addr) (oe : Obj) (ps : List (Addr × Obj)) (τ : L2.St) (G : Hp) (t : Shared) (k : Value) (b : Bool) (R : Bool → Shared → Prop) (N : Value → Shared → Prop), Inv (X.suite a ((a, oe) :: ps)) [] τ G t → oe.cls = k → tst k = some b →
    (∀ g, (∀ y o, t.heap.get? y = some o → g.get? y = some o) → R b { t with heap := g }) →
    wpAny (model X.prog X.w) (X.A.mark (some (.ref a))) (eval te X.env) (fun v u => wpAny (model X.prog X.w) (X.A.mark (some (.ref a))) (excMatches (.ref a) v) R N u) N t
section
variable {X : Cx} {a : Addr} {oe : Obj} {ps : List (Addr × Obj)} {τ : L2.St} {G : Hp} {t : Shared}
theorem name_ev {y : Str} {v : Value} {np : Pos} (hc : Names X y v) (S : Inv (X.suite a ((a, oe) :: ps)) [] τ G t) {R : Value → Shared → Prop} {N : Value → Shared → Prop} (q : R v t) :
    wpAny (model X.prog X.w) (X.A.mark (some (.ref a))) (eval (.Name y np) X.env) R N t :=
  hc.2.2.elim (fun e => ld_glob (X := X.suite a ((a, oe) :: ps)) S hc.1 e q hc.2.1) fun e => ld_blt (X := X.suite a ((a, oe) :: ps)) S hc.1 e.1 e.2.1 q e.2.2 hc.2.1
theorem suite_ty {k : Value} (S : Inv (X.suite a ((a, oe) :: ps)) [] τ G t) (hc : oe.cls = k) : PySem.W.Looks (model X.prog X.w) t.heap (typeOf (.ref a)) k := by
  intro A Q E u kp q
  refine wpAny_typeOf_ref (kp a oe ?_) (hc.symm ▸ q)
  exact (S.pin (a, oe) (by simp)).1
end
section
variable {X : Cx} {y1 y2 y3 y4 : Str} {v1 v2 v3 v4 : Value} {p1 p2 p3 p4 tp : Pos} {kk : Nat}
theorem test_one (n1 : Names X y1 v1) : TestOk X (.Name y1 p1) (fun k => PySem.W.exmOne X.K k v1) := fun _ _ _ _ _ t _ _ _ _ S hcl ht q =>
  name_ev n1 S ((PySem.W.exm_one (M := model X.prog X.w) S.kIn (suite_ty S hcl) ht).here (q t.heap fun _ _ z => z))
theorem kept_push (h : Heap) (o : Obj) : ∀ y u, h.get? y = some u → (h.push o).get? y = some u := fun _ _ e => Heap.get?_push_of_some _ e
theorem test_two (n1 : Names X y1 v1) (n2 : Names X y2 v2) : TestOk X (.Tuple [.Name y1 p1, .Name y2 p2] kk tp) (fun k => PySem.W.exmAny X.K k [v1, v2]) := fun _ _ _ _ _ t _ _ _ _ S hcl ht q => by
  have kp := kept_push t.heap { cls := .type "tuple", data := .seq [v1, v2].toArray }
  exact wpAny_Tuple (wpAny_items_cons (name_ev n1 S (wpAny_items_cons (name_ev n2 S (wpAny_items_nil ⟨by size_fits, (PySem.W.exm_tup2 (S.kIn.keeps kp) ((suite_ty S hcl).keeps kp) (Heap.get?_push_size _ rfl) ht).here (q _ kp)⟩)))))
theorem test_four (n1 : Names X y1 v1) (n2 : Names X y2 v2) (n3 : Names X y3 v3) (n4 : Names X y4 v4) : TestOk X (.Tuple [.Name y1 p1, .Name y2 p2, .Name y3 p3, .Name y4 p4] kk tp) (fun k => PySem.W.exmAny X.K k [v1, v2, v3, v4]) := fun _ _ _ _ _ t _ _ _ _ S hcl ht q => by
  have kp := kept_push t.heap { cls := .type "tuple", data := .seq [v1, v2, v3, v4].toArray }
  exact wpAny_Tuple (wpAny_items_cons (name_ev n1 S (wpAny_items_cons (name_ev n2 S (wpAny_items_cons (name_ev n3 S (wpAny_items_cons (name_ev n4 S (wpAny_items_nil
    ⟨by size_fits, (PySem.W.exm_tup4 (S.kIn.keeps kp) ((suite_ty S hcl).keeps kp) (Heap.get?_push_size _ rfl) ht).here (q _ kp)⟩)))))))))
end
/-- a clause as it is read -/
structure Cl where
  tst : Value → Option Bool
  i : Option Nat
  ts : Addr → Value → Option Addr → TS
def putA (i : Option Nat) (a : Addr) (σ : L2.St) : L2.St := match i with
  | none => σ
  | some i => σ.set i (some (.ref a))
def goneI (i : Option Nat) (σ : L2.St) : L2.St := match i with
  | none => σ
  | some i => σ.set i none
def endsI (i : Option Nat) (D : Ends) : Ends := { nx := fun σ H => D.nx (goneI i σ) H, rt := D.rt, bk := fun σ H => D.bk (goneI i σ) H, ct := fun σ H => D.ct (goneI i σ) H }
def wCl (Wout : WX) (D : Ends) : List Cl → WX
  | [] => Wout
  | c :: r => fun k d σ H => ∃ b, c.tst k = some b ∧ (b = true → ∀ a, H a = none → c.ts a k d (endsI c.i D) (putA c.i a σ) H) ∧ (b = false → wCl Wout D r k d σ H)
def SuiteOk (X : Cx) (su : List Stmt) (ts : Addr → Value → Option Addr → TS) : Prop :=
  ∀ (a : Addr) (oe : Obj) (k : Value) (d : Option Addr) (ps : List (Addr × Obj)), Zc k d oe → (∃ vs, oe.data = .fields vs) → PSs (X.suite a ((a, oe) :: ps)) su (ts a k d)
inductive ClsOk (X : Cx) : List ExceptHandler → List Cl → Prop
  | nil : ClsOk X [] []
  | only {te : Expr} {tst : Value → Option Bool} {ts : Addr → Value → Option Addr → TS} {b₀ : Stmt} {su : List Stmt} {p : Pos} {es : List ExceptHandler} {l : List Cl} (ht : TestOk X te tst) (hsu : SuiteOk X (b₀ :: su) ts) (r : ClsOk X es l) :
      ClsOk X (.ExceptHandler (some te) none (b₀ :: su) p :: es) (⟨tst, none, ts⟩ :: l)
  | named {te : Expr} {tst : Value → Option Bool} {ts : Addr → Value → Option Addr → TS} {b₀ : Stmt} {su : List Stmt} {p : Pos} {n : Str} {i : Nat} {es : List ExceptHandler} {l : List Cl} (ht : TestOk X te tst) (hi : X.N[i]? = some n) (hln : X.env.kindOf n = some .local)
      (hsu : SuiteOk X (b₀ :: su) ts) (r : ClsOk X es l) : ClsOk X (.ExceptHandler (some te) (some n) (b₀ :: su) p :: es) (⟨tst, some i, ts⟩ :: l)
/-- in the heap h the exception a has landed; all else is as σ and H say -/
structure Gnd (X : Cx) (pins : List (Addr × Obj)) (σ : L2.St) (H : Hp) (a : Addr) (k : Value) (d : Option Addr) (u : Shared) (h : Heap) : Prop where
  na : H a = none
  ag : AllBare u.gens
  air : ∃ (B : Heap) (sI : Shared), Inv X pins σ H sI ∧ (∀ b o, sI.heap.get? b = some o → b ∉ frs X.stack → B.get? b = some o) ∧ HandSPX.FlyingZ B (X.env :: X.outer) a (Zc k d) h ∧ sI.heap.UpToSlots h ∧ u.os = sI.os
section
variable {X : Cx} {pins : List (Addr × Obj)} {σ : L2.St} {H : Hp} {a : Addr} {k : Value} {d : Option Addr} {u : Shared} {h : Heap}
theorem Gnd.inv (g : Gnd X pins σ H a k d u h) : Inv X pins σ H { u with heap := h } := by
  obtain ⟨B, sI, J, nb, fl, up, os⟩ := g.air
  exact J.landed nb fl.1 up os g.ag
theorem Gnd.grow (g : Gnd X pins σ H a k d u h) {h2 : Heap} (kp : ∀ b o, h.get? b = some o → h2.get? b = some o) : Gnd X pins σ H a k d u h2 := by
  obtain ⟨B, sI, J, nb, ⟨f1, f2, f3, oe, vs, T, oT, ts, c1, c2, c3, c4, c5, c6, c7, c8, c9⟩, up, os⟩ := g.air
  refine ⟨g.na, g.ag, B, sI, J, nb, ⟨fun b o e => kp b o (f1 b o e), f2, f3.of_keeps fun b o e _ => ⟨o, kp b o e, rfl⟩, oe, vs, T, oT, ts, kp _ _ c1, c2, c3, c4, c5, c6, kp _ _ c7, c8, c9⟩, up.trans (Heap.UpToSlots.of_keeps kp), os⟩
/-- the suite's state -/
theorem Gnd.hot (hf : X.env.frame = some X.env.locals) (g : Gnd X pins σ H a k d u h) : ∃ oe, Zc k d oe ∧ (∃ vs, oe.data = .fields vs) ∧ Inv (X.suite a ((a, oe) :: (X.pn ++ pins))) [] σ H { u with heap := h } := by
  have J := g.inv
  obtain ⟨B, sI, _, _, fl, _, _⟩ := g.air
  obtain ⟨oe, vs, h1, h2, h3⟩ := fl.there
  have out : a ∉ frs (X.env :: X.outer) := by
    intro hm
    obtain ⟨_, o, e, no⟩ := fl.2.2.1.mem hm
    rw [h1] at e
    cases e
    exact no vs h3
  refine ⟨oe, h2, ⟨vs, h3⟩, J.suite h1 h3 g.na (fun z => out ?_) fun hm => out ?_⟩
  · exact List.mem_filterMap.mpr ⟨X.env, .head _, hf.trans (congrArg some z.symm)⟩
  · obtain ⟨e, q1, q2⟩ := List.mem_filterMap.mp hm
    exact List.mem_filterMap.mpr ⟨e, .tail _ q1, q2⟩
theorem Gnd.again {M : Model} {A : Around} {R : Unit → Shared → Prop} {N : Value → Shared → Prop} (g : Gnd X pins σ H a k d u h) (q : ∀ h2, Gnd X pins σ H a k d u h2 → R () { u with heap := h2 }) : wpAny M A (setFlight (.ref a) none) R N { u with heap := h } := by
  obtain ⟨B, sI, J, nb, fl, up, os⟩ := g.air
  exact HandSPX.lands_againZ fl fun h2 fl2 up2 => q h2 ⟨g.na, g.ag, B, sI, J, nb, fl2, up.trans up2, os⟩
/-- no clause takes it -/
theorem Gnd.lost (hs : X.stack = X.env :: X.outer) (hf : X.env.frame = some X.env.locals) {Wout : WX} (tk : Takes X Wout) {R : Flow → Shared → Prop} (g : Gnd X pins σ H a k d u h) (w : Wout k d σ H) :
    wpAny (model X.prog X.w) X.A (handleBy (.ref a) X.env []) R X.xe { u with heap := h } := by
  obtain ⟨B, sI, J, nb, fl, up, os⟩ := g.air
  have up0 : wpAny (model X.prog X.w) X.A (setFlight (.ref a) X.env.frame) (fun _ v => wpAny (model X.prog X.w) X.A (throw (.ref a) : Sem Flow) R X.xe v) X.xe { u with heap := h } :=
    hf ▸ HandSPX.setFlight_upZ fl fun h2 held up2 => wpAny_throw (tk _ _ ⟨a, B, sI, pins, σ, H, k, d, rfl, J, nb, up.trans up2, .inr (.inr (hs ▸ held)), g.na, os, g.ag, w⟩)
  obtain ⟨_, _, _, oe, vs, T, _, _, c1, _, c3, c4, _⟩ := fl
  have tn : ¬ (Value.ref T == Value.none) = true := Bool.false_ne_true
  refine wpAny_handleBy_nil ?_
  unfold PySem.passOn
  refine wpAny_bind (wpAny_field c1 c3 c4 (by rw [if_neg tn]; first | exact wpAny_bind up0 | exact wpAny_bind (wpAny_pure (wpAny_bind up0))))
end
section
variable {X : Cx} {body : List Stmt} {h₀ : ExceptHandler} {es : List ExceptHandler} {l : List Cl} {pos : Pos} {tb : WX → TS} {Wout : WX}
/-- what a suite's end says of the try's -/
theorem sp_only {pins : List (Addr × Obj)} {D : Ends} {a : Addr} {q : Addr × Obj} {f : Flow} {u : Shared} (ok : X.Ok) (h : SP (X.suite a (q :: (X.pn ++ pins))) [] (endsI none D) f u) : SP X pins D f u := by
  cases f with
  | ret v => exact h.imp fun _ h => h.imp fun _ h => h.imp fun _ h => ⟨h.1.unsuite ok, h.2⟩
  | _ => exact h.imp fun _ h => h.imp fun _ h => ⟨h.1.unsuite ok, h.2⟩
theorem sp_named {pins : List (Addr × Obj)} {D : Ends} {a : Addr} {q : Addr × Obj} {f : Flow} {u : Shared} {i : Nat} {n : Str} {p : Pos} (ok : X.Ok) (hN : X.N.Nodup) (hi : X.N[i]? = some n) (hln : X.env.kindOf n = some .local) (h : SP (X.suite a (q :: (X.pn ++ pins))) [] (endsI (some i) D) f u) :
    wpAny (model X.prog X.w) X.A (do bindName X.env n .none; unbindBehindTheSuite X.env n p) (fun _ z => SP X pins D f z) X.xe u := by
  cases f with
  | ret v =>
    obtain ⟨x, τ, G, J, hv⟩ := h
    exact gone_ok (J.unsuite ok) hN hi hln fun z Jz => ⟨x, τ.set i none, G, Jz, hv⟩
  | _ =>
    obtain ⟨τ, G, J, hq⟩ := h
    exact gone_ok (J.unsuite ok) hN hi hln fun z Jz => ⟨τ.set i none, G, Jz, hq⟩
/-- the clauses, one after the other -/
theorem Gnd.seek (hs : X.stack = X.env :: X.outer) (hf : X.env.frame = some X.env.locals) (hN : X.N.Nodup) (tk : Takes X Wout) (ok : X.Ok) {pins : List (Addr × Obj)} {D : Ends} {σ : L2.St} {H : Hp} {a : Addr} {k : Value} {d : Option Addr} {u : Shared} (c : ClsOk X es l) :
    ∀ h, Gnd X pins σ H a k d u h → wCl Wout D l k d σ H → wpAny (model X.prog X.w) X.A (handleBy (.ref a) X.env es) (SP X pins D) X.xe { u with heap := h } := by
  induction c with
  | nil => exact fun h g w => g.lost hs hf tk w
  | only ht hsu r ih =>
    rintro h g ⟨b, e, yes, no⟩
    obtain ⟨oe, z, fl, S⟩ := g.hot hf
    refine wpAny_handleBy_cons (codeAny_handlers_test (ht _ _ _ _ _ _ _ _ _ _ S z.1 e fun h2 kp => ?_)) (fun q => nomatch q)
    have g2 := g.grow kp
    cases b with
    | false => exact ih h2 g2 (no rfl)
    | true =>
      refine codeAny_handlers_suite (g2.again fun h3 g3 => ?_)
      obtain ⟨oe3, z3, fl3, S3⟩ := g3.hot hf
      exact wpAny_mono ((hsu a oe3 k d (X.pn ++ pins) z3 fl3).run [] _ _ _ _ S3 (yes rfl a g.na)) (fun f t e => sp_only ok e) fun _ _ e => e.elim
  | @named te tst ts b₀ su p n i es l ht hi hln hsu r ih =>
    rintro h g ⟨b, e, yes, no⟩
    obtain ⟨oe, z, fl, S⟩ := g.hot hf
    refine wpAny_handleBy_cons (codeAny_handlers_test (ht _ _ _ _ _ _ _ _ _ _ S z.1 e fun h2 kp => ?_)) (fun q => nomatch q)
    have g2 := g.grow kp
    cases b with
    | false => exact ih h2 g2 (no rfl)
    | true =>
      refine codeAny_handlers_suite_as (g2.again fun h3 g3 => ?_)
      obtain ⟨oe3, z3, fl3, S3⟩ := g3.hot hf
      exact store_ok (X := X.suite a ((a, oe3) :: (X.pn ++ pins))) (v := .ref a) S3 hN hi (Or.inl hln) rfl (fun t St => wpAny_mono ((hsu a oe3 k d (X.pn ++ pins) z3 fl3).run [] t _ _ _ St (yes rfl a g.na)) (fun f v e => sp_named ok hN hi hln e) fun _ _ e => e.elim) (.inr hln)
theorem ps_try_cl (hs : X.stack = X.env :: X.outer) (hf : X.env.frame = some X.env.locals) (hN : X.N.Nodup) (tk : Takes X Wout)
    (hb : ∀ (V : WX) (qs : List (Addr × Obj)) (ye : Value → Shared → Prop), Takes (X.tr qs ye) V → PassesOwn (model X.prog X.w) X.A X.env ye → PSs (X.tr qs ye) body (tb V))
    (hh : ClsOk X (h₀ :: es) l) : PS X (.Try body (h₀ :: es) [] [] pos) (fun D σ H => tb (wCl Wout D l) D σ H) := by
  constructor
  intro pins s σ H D I h
  have frs2 : X.A.frames = some (X.env :: X.outer) := I.ok.frames.trans (congrArg some hs)
  let look : Value → Shared → Prop := fun e t => wpAny (model X.prog X.w) X.A (noteFrame e X.env) (fun _ t => wpAny (model X.prog X.w) X.A (setFlight e none) (fun _ t => wpAny (model X.prog X.w) X.A (handleBy e X.env (h₀ :: es)) (SP X pins D) X.xe t) X.xe t) X.xe t
  have tk2 : Takes (X.tr (X.pn ++ pins) look) (wCl Wout D l) := by
    rintro v t ⟨a, B, sI, _, τ, G, k, d, rfl, J, nb, up, sky, na, os, ag, w⟩
    have sky : Sky B (X.env :: X.outer) a (Zc k d) X.env.locals t.heap := hs ▸ sky
    exact Sky.land Zc.steady frs2 hf sky fun h3 fl up3 => Gnd.seek hs hf hN tk I.ok hh h3 ⟨na, ag, B, sI, J.ofTry I.ok, nb, fl, up.trans up3, os⟩ w
  refine wpAny_Try_except (wpAny_mono ((hb _ (X.pn ++ pins) look tk2 PassesOwn.looking).run [] s σ H D (I.toTry _) h) (fun f t e => ?_) fun _ _ e => e)
  cases f with
  | next => exact wpAny_execs_nil (e.imp fun _ e => e.imp fun _ e => ⟨e.1.ofTry I.ok, e.2⟩)
  | ret v => exact e.imp fun _ e => e.imp fun _ e => e.imp fun _ e => ⟨e.1.ofTry I.ok, e.2⟩
  | _ => exact e.imp fun _ e => e.imp fun _ e => ⟨e.1.ofTry I.ok, e.2⟩
end
end Tg
namespace Tg
open PySem PySem.Spec PyProof.Rows L2
/-- a clause: its classes, the slot of its name, the slots of the fields, its suite -/
abbrev Hd := List Str × Option Nat × List (Str × Nat) × (Str → DS)
def hsB (i : Option Nat) (hs : List (Str × Nat)) (env : En) : Bool := slotB i env && hidOk hs && hs.all fun p => decide (p.2 < env.length) && decide (i ≠ some p.2)
def catchM (xt : List (Str × List Str)) : List Hd → En → Str → List (Str × D) → Sto → Option (Fl × Sto)
  | [], env, x, fs, st => some (.xc env x fs, st)
  | h :: r, env, x, fs, st => if h.1.any (isA xt x) = true then (if hsB h.2.1 h.2.2.1 env = true then (h.2.2.2 x (envH h.2.2.1 fs (setS h.2.1 env)) st).bind fun q => if noX q.1 = true then some (unS h.2.1 q.1, q.2) else none else none) else catchM xt r env x fs st
def sTryM (xt : List (Str × List Str)) (body : DS) (hs : List Hd) : DS := fun env st => (body env st).bind fun p => match p.1 with
  | .xc env' x fs => if inXt xt x = true then catchM xt hs env' x fs p.2 else none
  | f => some (f, p.2)
/-- clauses of the text and clauses on data -/
inductive ClsM (K : Fg) (xt : List (Str × List Str)) : List Cl → List Hd → Prop
  | nil : ClsM K xt [] []
  | cons {c : Cl} {h : Hd} {l : List Cl} {hs : List Hd} (ht : ∀ x, inXt xt x = true → c.tst (.ref (He.ga K x)) = some (h.1.any (isA xt x))) (hi : c.i = h.2.1) (hts : c.ts = tsX K xt h.2.1 h.2.2.1 h.2.2.2) (r : ClsM K xt l hs) : ClsM K xt (c :: l) (h :: hs)
section
variable {K : Fg} {r m : List Addr} {H : Hp} {us : List (Str × V)}
theorem env_put {env : En} {σ : L2.St} (h : EnvR K r m H env σ) (j : Nat) {od : Option D} {w : Option V} (q : ∀ d, od = some d → ∃ v, w = some v ∧ Den K r m H d v) : EnvR K r m H (env.set j od) (σ.set j w) := by
  refine ⟨by rw [List.length_set, List.length_set]; exact h.1, fun i d e => ?_⟩
  by_cases c : j = i
  · subst c
    by_cases l : j < env.length
    · rw [List.getElem?_set_self l] at e
      obtain ⟨v, e1, e2⟩ := q d (Option.some.inj e)
      exact ⟨v, by rw [List.getElem?_set_self (by rw [← h.1]; exact l), e1], e2⟩
    · rw [List.getElem?_eq_none (by rw [List.length_set]; omega)] at e
      cases e
  · rw [List.getElem?_set_ne c] at e ⊢
    exact h.2 i d e
theorem env_hid {fs : List (Str × D)} (q : ∀ p ∈ fs, ∃ v, us.lookup p.1 = some v ∧ Den K r m H p.2 v) : ∀ (hs : List (Str × Nat)) {env : En} {σ : L2.St}, EnvR K r m H env σ → EnvR K r m H (envH hs fs env) (sigH hs us σ)
  | [], _, _, h => h
  | p :: hs, env, σ, h => env_hid q hs (env := env.set p.2 (fs.lookup p.1)) (σ := σ.set p.2 (us.lookup p.1)) (env_put h p.2 fun d e => q (p.1, d) (PySem.mem_of_lookup e))
theorem sig_out {i : Nat} : ∀ (hs : List (Str × Nat)) {σ : L2.St}, (∀ p ∈ hs, p.2 ≠ i) → (sigH hs us σ)[i]? = σ[i]?
  | [], _, _ => rfl
  | p :: hs, σ, h => (sig_out hs (σ := σ.set p.2 (us.lookup p.1)) fun q hq => h q (List.mem_cons_of_mem _ hq)).trans (List.getElem?_set_ne (h p List.mem_cons_self))
theorem sig_at {j : Nat} {f : Str} : ∀ (hs : List (Str × Nat)) {σ : L2.St}, (∀ q ∈ hs, q.2 = j → q.1 = f) → j < σ.length → ((∃ q ∈ hs, q.2 = j) ∨ σ[j]? = some (us.lookup f)) → (sigH hs us σ)[j]? = some (us.lookup f)
  | [], _, _, _, h => by
    rcases h with ⟨_, hq, _⟩ | h
    · cases hq
    · exact h
  | p :: hs, σ, hf, hl, h => by
    refine sig_at hs (σ := σ.set p.2 (us.lookup p.1)) (fun q hq => hf q (List.mem_cons_of_mem _ hq)) (by rw [List.length_set]; exact hl) ?_
    by_cases e : p.2 = j
    · right
      rw [← hf p List.mem_cons_self e, ← e, List.getElem?_set_self (by rw [e]; exact hl)]
    · rcases h with ⟨q, hq, e2⟩ | h
      · rcases List.mem_cons.mp hq with rfl | hq
        · exact absurd e2 e
        · exact .inl ⟨q, hq, e2⟩
      · right
        rw [List.getElem?_set_ne e]
        exact h
end
section
variable {K : Fg} {σ : L2.St} {H : Hp} {Z : Ends} {W : WX}
theorem catch_ok {xt : List (Str × List Str)} {l : List Cl} {hs : List Hd} (M : ClsM K xt l hs) {r m : List Addr} {e1 : En} {x : Str} {fs : List (Str × D)} {s1 st' : Sto} {fl : Fl} (hx : inXt xt x = true) (f : catchM xt hs e1 x fs s1 = some (fl, st')) (q : EndOk K W r m H fl st' Z)
    {m1 : List Addr} {H1 : Hp} {σ1 : L2.St} {cv : Value} {dv : Option Addr} (l1 : Le m H m1 H1) (g1 : Good K r m1 s1 H1) (er1 : EnvR K r m1 H1 e1 σ1) (xv : XVal K r m1 H1 x fs cv dv) : wCl W Z l cv dv σ1 H1 := by
  induction M with
  | nil =>
    unfold catchM at f
    cases f
    exact q m1 H1 σ1 _ _ l1 g1 er1 xv
  | @cons c h l hs ht hi hts M ih =>
    obtain ⟨us, ec, dc, fd⟩ := xv.dc
    refine ⟨h.1.any (isA xt x), by rw [ec]; exact ht x hx, fun hb a na => ?_, fun hb => ?_⟩
    · unfold catchM at f
      rw [if_pos hb] at f
      split at f
      · next k2 =>
        unfold hsB at k2
        simp only [Bool.and_eq_true] at k2
        obtain ⟨⟨k2, k3⟩, k4⟩ := k2
        obtain ⟨⟨p2, s2⟩, f2, f⟩ := Option.bind_eq_some_iff.mp f
        split at f
        · next hn =>
          cases f
          rw [hi, hts]
          have low : ∀ p ∈ h.2.2.1, p.2 < e1.length ∧ h.2.1 ≠ some p.2 := fun p hp => by
            have := List.all_eq_true.mp k4 p hp
            rw [Bool.and_eq_true, decide_eq_true_eq, decide_eq_true_eq] at this
            exact this
          have fld : ∀ {τ : L2.St}, τ.length = e1.length → ∀ p ∈ h.2.2.1, (sigH h.2.2.1 us τ)[p.2]? = some (us.lookup p.1) := fun {τ} tl p hp => by
            refine sig_at _ (fun o ho e => ?_) (by rw [tl]; exact (low p hp).1) (.inl ⟨p, hp, rfl⟩)
            have z := List.all_eq_true.mp (List.all_eq_true.mp k3 o ho) p hp
            rw [Bool.or_eq_true, decide_eq_true_eq, decide_eq_true_eq] at z
            exact z.resolve_left (fun ne => ne e)
          cases hj : h.2.1 with
          | none =>
            rw [hj] at f2 q
            refine ⟨x, us, ec, hx, ⟨trivial, dc, fld er1.1.symm⟩, r, m1, s1, envH h.2.2.1 fs e1, p2, s2, g1, env_hid fd _ er1, f2, ?_⟩
            have q : EndOk K W r m H (unS none p2) s2 Z := q
            cases p2 with
            | nx e2 => exact fun m2 H2 σ2 l2 g2 er2 _ => q m2 H2 _ (l1.trans l2) g2 er2
            | bk e2 => exact fun m2 H2 σ2 l2 g2 er2 _ => q m2 H2 _ (l1.trans l2) g2 er2
            | ct e2 => exact fun m2 H2 σ2 l2 g2 er2 _ => q m2 H2 _ (l1.trans l2) g2 er2
            | rt d => exact fun m2 H2 v l2 g2 d2 => q m2 H2 v (l1.trans l2) g2 d2
            | xc e2 x2 fs2 => cases hn
          | some i =>
            rw [hj] at f2 q k2
            have er2 := er1.setW i (some (V.ref a))
            refine ⟨x, us, ec, hx, ⟨?_, dc, fld (by show (σ1.set i _).length = _; rw [List.length_set]; exact er1.1.symm)⟩, r, m1, s1, envH h.2.2.1 fs (e1.set i none), p2, s2, g1, env_hid fd _ er2, f2, ?_⟩
            · show (sigH h.2.2.1 us (σ1.set i (some (.ref a))))[i]? = _
              have k2 : i < e1.length := of_decide_eq_true k2
              rw [sig_out _ (fun p hp e => (low p hp).2 (by rw [hj, e])), List.getElem?_set_self (by rw [← er1.1]; exact k2)]
            · have q : EndOk K W r m H (unS (some i) p2) s2 Z := q
              cases p2 with
              | nx e2 => exact fun m2 H2 σ2 l2 g2 er2 _ => q m2 H2 _ (l1.trans l2) g2 (er2.setW i none)
              | bk e2 => exact fun m2 H2 σ2 l2 g2 er2 _ => q m2 H2 _ (l1.trans l2) g2 (er2.setW i none)
              | ct e2 => exact fun m2 H2 σ2 l2 g2 er2 _ => q m2 H2 _ (l1.trans l2) g2 (er2.setW i none)
              | rt d => exact fun m2 H2 v l2 g2 d2 => q m2 H2 v (l1.trans l2) g2 d2
              | xc e2 x2 fs2 => cases hn
        · cases f
      · cases f
    · unfold catchM at f
      rw [if_neg (by rw [hb]; decide)] at f
      exact ih f
theorem s_try_m {xt : List (Str × List Str)} {l : List Cl} {hs : List Hd} (M : ClsM K xt l hs) {fb : DS} (h : tS K W (sTryM xt fb hs) Z σ H) : tS K (wCl W Z l) fb Z σ H := by
  obtain ⟨r, m, st, env, fl, st', g, e, f, q⟩ := h
  unfold sTryM at f
  obtain ⟨⟨p, s1⟩, f1, f⟩ := Option.bind_eq_some_iff.mp f
  refine ⟨r, m, st, env, p, s1, g, e, f1, ?_⟩
  cases p with
  | nx e1 => cases f; exact q
  | rt d => cases f; exact q
  | bk e1 => cases f; exact q
  | ct e1 => cases f; exact q
  | xc e1 x fs =>
    intro m1 H1 σ1 cv dv l1 g1 er1 xv
    have f : (if inXt xt x = true then catchM xt hs e1 x fs s1 else none) = some (fl, st') := f
    split at f
    · next hk => exact catch_ok M hk f q l1 g1 er1 xv
    · cases f
end
/-- the class that a clause may name -/
def xnB (c : Ct) (y : Str) : Bool := okNm y && glB c.sc y && inXt c.ob.xt y
def hdP (c : Ct) : Expr → Option (List Str)
  | .Name y _ => if xnB c y then some [y] else none
  | .Tuple [.Name y _, .Name z _] _ _ => if xnB c y && xnB c z then some [y, z] else none
  | .Tuple [.Name y _, .Name z _, .Name u _, .Name v _] _ _ => if xnB c y && xnB c z && xnB c u && xnB c v then some [y, z, u, v] else none
  | _ => none
def cHd (c : Ct) (n : Nat) : ExceptHandler → Option Hd
  | .ExceptHandler (some te) none (b₀ :: suite) _ => (hdP c te).map fun ys => (ys, none, hidP c none, fun x => (cXss c none x n (b₀ :: suite)).getD fun _ _ => none)
  | .ExceptHandler (some te) (some v) (b₀ :: suite) _ => (hdP c te).bind fun ys => if decide (c.sc.names.lookup v = some .local) then (ixS c.N v).map fun i => (ys, some i, hidP c (some v), fun x => (cXss c (some v) x n (b₀ :: suite)).getD fun _ _ => none) else none
  | _ => none
def cHds (c : Ct) (n : Nat) : List ExceptHandler → Option (List Hd)
  | [] => some []
  | h :: hs => (cHd c n h).bind fun a => (cHds c n hs).map fun r => a :: r
section
variable {C : Orc} {k : Nat} {c : Ct} {X : Cx} {W : WX}
theorem StatX.nm (S : StatX C k c X W) {y : Str} (h : xnB c y = true) : Names X y (.ref (He.ga X.K y)) ∧ inXt c.ob.xt y = true := by
  unfold xnB at h
  simp only [Bool.and_eq_true] at h
  exact ⟨⟨S.S.gl h.1.2, (okNm_ok h.1.1).1, .inl (S.tab.cls y h.2).1⟩, h.2⟩
theorem hd_ok (S : StatX C k c X W) {te : Expr} {ys : List Str} (h : hdP c te = some ys) : ∃ tst, TestOk X te tst ∧ ∀ x, inXt c.ob.xt x = true → tst (.ref (He.ga X.K x)) = some (ys.any (isA c.ob.xt x)) := by
  unfold hdP at h
  split at h
  · split at h
    · next y p hy =>
      cases h
      obtain ⟨n1, x1⟩ := S.nm hy
      refine ⟨_, test_one n1, fun x hx => ?_⟩
      show PySem.W.exmOne X.K _ _ = _
      rw [S.tab.exm x y hx x1]
      simp only [List.any_cons, List.any_nil, Bool.or_false]
    · cases h
  · split at h
    · next y p z p2 _ _ hy =>
      cases h
      rw [Bool.and_eq_true] at hy
      obtain ⟨n1, x1⟩ := S.nm hy.1
      obtain ⟨n2, x2⟩ := S.nm hy.2
      refine ⟨_, test_two n1 n2, fun x hx => ?_⟩
      show PySem.W.exmAny X.K _ _ = _
      simp only [PySem.W.exmAny, S.tab.exm x _ hx x1, S.tab.exm x _ hx x2, List.any_cons, List.any_nil]
    · cases h
  · split at h
    · next y p z p2 u p3 v p4 _ _ hy =>
      cases h
      simp only [Bool.and_eq_true] at hy
      obtain ⟨n1, x1⟩ := S.nm hy.1.1.1
      obtain ⟨n2, x2⟩ := S.nm hy.1.1.2
      obtain ⟨n3, x3⟩ := S.nm hy.1.2
      obtain ⟨n4, x4⟩ := S.nm hy.2
      refine ⟨_, test_four n1 n2 n3 n4, fun x hx => ?_⟩
      show PySem.W.exmAny X.K _ _ = _
      simp only [PySem.W.exmAny, S.tab.exm x _ hx x1, S.tab.exm x _ hx x2, S.tab.exm x _ hx x3, S.tab.exm x _ hx x4, List.any_cons, List.any_nil]
    · cases h
  · cases h
theorem cHds_ok (S : StatX C k c X W) {n : Nat} : ∀ {hds : List ExceptHandler} {hs : List Hd}, cHds c n hds = some hs → ∃ l, ClsOk X hds l ∧ ClsM X.K c.ob.xt l hs
  | [], hs, h => by
    cases h
    exact ⟨[], .nil, .nil⟩
  | hd :: hds, hs, h => by
    unfold cHds at h
    obtain ⟨a, h1, h⟩ := Option.bind_eq_some_iff.mp h
    obtain ⟨r, h2, h⟩ := Option.map_eq_some_iff.mp h
    cases h
    obtain ⟨l, ok, M⟩ := cHds_ok S h2
    unfold cHd at h1
    split at h1
    · obtain ⟨ys, h3, h1⟩ := Option.map_eq_some_iff.mp h1
      cases h1
      obtain ⟨tst, t1, t2⟩ := hd_ok S h3
      exact ⟨⟨tst, none, _⟩ :: l, .only t1 (fun a oe cls d pn hz hf => suite_ok S (err := none) (i := none) (fun _ z => by cases z) (fun _ => rfl) hz hf) ok, .cons t2 rfl rfl M⟩
    · obtain ⟨ys, h3, h1⟩ := Option.bind_eq_some_iff.mp h1
      split at h1
      · next v b₀ suite pos hte hv =>
        have hv := of_decide_eq_true hv
        obtain ⟨i, hi, h1⟩ := Option.map_eq_some_iff.mp h1
        cases h1
        obtain ⟨tst, t1, t2⟩ := hd_ok S h3
        have hk : X.env.kindOf v = some .local := by
          unfold Env.kindOf
          rw [S.S.sc]
          exact hv
        exact ⟨⟨tst, some i, _⟩ :: l, .named t1 (S.S.at_ hi) hk (fun a oe cls d pn hz hf => suite_ok S (err := some v) (i := some i) (fun u z => by cases z; exact ⟨i, rfl, hi⟩) (fun z => by cases z) hz hf) ok, .cons t2 rfl rfl M⟩
      · cases h1
    · cases h1
end
end Tg
namespace Tg
open PySem PySem.Spec PyProof.Rows L2
def oAddI (_ : Sto) : D → D → Option D
  | .int i, .int j => some (.int (i + j))
  | _, _ => none
def oMulI (_ : Sto) : D → D → Option D
  | .int i, .int j => if mulOk i j then some (.int (i * j)) else none
  | _, _ => none
def augD : Operator → Option (Sto → D → D → Option D)
  | .Add => some oAddI
  | .Sub => some oSub
  | .Mult => some oMulI
  | _ => none
def isDoc : Expr → Bool
  | .Constant (.str _) _ _ => true
  | _ => false
/-- a while, with as many turns as it takes -/
noncomputable def whileF (c : DB) (body : DS) : DS := fun env st => @dite _ (∃ r n, whileL c body n env st = some r) (Classical.propDecidable _) (fun h => some (Classical.choose h)) fun _ => none
theorem whileF_ex {c : DB} {body : DS} {env : En} {st : Sto} {r : Fl × Sto} (h : whileF c body env st = some r) : ∃ n, whileL c body n env st = some r := by
  unfold whileF at h
  split at h
  · next hh =>
    cases h
    exact Classical.choose_spec hh
  · cases h
/-- name = comprehension: stored within the comprehension's frame -/
def swB (sc scope : Scope) (x : Str) (px lpos : Pos) : Bool := (sc.names.lookup x == some .local) && (px.line == lpos.line) && !(scope.names.any fun (n, k) => n == x && (k == .local || k == .cell))
def sPar2 (i j : Nat) (fa : DA) : DS := sAsg (eTup fa) (gT 2 (gsCons (gN i) (gsCons (gN j) gsNil)))
def sPar3 (i j l : Nat) (fa : DA) : DS := sAsg (eTup fa) (gT 3 (gsCons (gN i) (gsCons (gN j) (gsCons (gN l) gsNil))))
/-- what the reading lacks: it must not be reached -/
def sStuck : DS := fun _ _ => none
/-- o[i] op= e -/
def sAugS (o : Sto → D → D → Option D) (fo fi fe : DE) : DS := fun env st => (fo env st).bind fun p => (fi env p.2).bind fun q => (oIx q.2 p.1 q.1).bind fun x => (fe env q.2).bind fun y => (o y.2 x y.1).bind fun d => (setC y.2 p.1 q.1 d).map fun s => (.nx env, s)
def DX := En → Sto → Option ((List D × Option D) × Sto)
def aNilN : DX := fun _ st => some (([], none), st)
def aConsN (f : DE) (g : DX) : DX := fun env st => (f env st).bind fun p => match xOf p.1 with
  | some _ => some (([], some p.1), p.2)
  | none => (g env p.2).bind fun q => some ((p.1 :: q.1.1, q.1.2), q.2)
def eCallN (C : Orc) (x : String) (fa : DX) : DE := fun env st => (fa env st).bind fun p => match p.1.2 with
  | some e => if (xOf e).isSome then some (e, p.2) else none
  | none => C x p.1.1 p.2
/-- a list in whose making a call may raise -/
def eLstN (fa : DX) : DE := fun env st => (fa env st).bind fun p => match p.1.2 with
  | some e => if (xOf e).isSome then some (e, p.2) else none
  | none => some (.lst p.1.1, p.2)
/-- a tuple in whose making a call may raise -/
def eTupN (fa : DX) : DE := fun env st => (fa env st).bind fun p => match p.1.2 with
  | some e => if (xOf e).isSome then some (e, p.2) else none
  | none => if (xOf (.tup p.1.1)).isNone then some (.tup p.1.1, p.2) else none
def eMthN (C : Orc) (x : Str) (id : String) (f : Str) (fo : DE) : DE := fun env st => (fo env st).bind fun p => match xOf p.1 with
  | some _ => some p
  | none => (match p.1 with
    | .cel (.obj y) n => if decide (y = x) && noFld p.2 n f then C id [.cel (.obj y) n] p.2 else none
    | _ => none)
variable (C : Orc)
noncomputable def cPar (n : Nat) (ts vs : List Expr) (names : List Str) (c : Ct) : Option DS := match ts, names with
  | [.Name x _, .Name y _], [x', y'] => if decide (x = x') && decide (y = y') && decide (vs.length = 2) && decide (c.sc.names.lookup x = some .local) && decide (c.sc.names.lookup y = some .local) then
      (ixS c.N x).bind fun i => (ixS c.N y).bind fun j => if decide (i ≠ j) then (cA C n vs c).map fun fa => sPar2 i j fa else none else none
  | [.Name x _, .Name y _, .Name z _], [x', y', z'] => if decide (x = x') && decide (y = y') && decide (z = z') && decide (vs.length = 3) && decide (c.sc.names.lookup x = some .local) && decide (c.sc.names.lookup y = some .local) && decide (c.sc.names.lookup z = some .local) then
      (ixS c.N x).bind fun i => (ixS c.N y).bind fun j => (ixS c.N z).bind fun l => if decide (i ≠ j) && decide (i ≠ l) && decide (j ≠ l) then (cA C n vs c).map fun fa => sPar3 i j l fa else none else none
  | _, _ => none
noncomputable def cAsg (n : Nat) (tg e : Expr) (c : Ct) : Option DS := match tg with
  | .Name x px => if locB c x then (ixS c.N x).bind fun i => (match e with
      | .ListComp elt [⟨tg', iter, ifs, 0⟩] scope lpos => (cLc C n elt tg' iter ifs scope lpos c).map fun q => sAsg q.2 (gN i)
      | .ListComp elt [⟨tg', iter, ifs, 0⟩, ⟨tg1, .Call (.Name x2 _) es [] _, ifs1, 0⟩] scope lpos => (cLc2 C n elt tg' iter ifs tg1 x2 es ifs1 scope lpos c).map fun q => sAsg q.2 (gN i)
      | e => if isComp e then none else (cE C n e c).map fun f => sAsg f (gN i)) else none
  | .Tuple ts _ _ => (match e with
      | .Tuple vs _ _ => (swapP c.sc ts vs).bind fun sw => (match sw with
        | some names => cPar C n ts vs names c
        | none => (cE C n e c).bind fun f => (cG C n tg c).map fun g => sAsg f g.2)
      | e => (cE C n e c).bind fun f => (cG C n tg c).map fun g => sAsg f g.2)
  | .Subscript _ _ _ => (cE C n e c).bind fun f => (cG C n tg c).map fun g => sAsg f g.2
  | .Attribute o f _ => if isNmE o then (c.ob.fl.lookup f).bind fun cls => (cE C n o c).bind fun fo => (cE C n e c).map fun fv => sSetF cls f fo fv else none
  | _ => none
def lockS (c : Ct) (e : Expr) (f : DS) : DS := match itemsI c e with
  | some i => sLock i f
  | none => f
/-- a call that may raise -/
def xcP (c : Ct) : Expr → Option (String × List Expr)
  | .Call (.Name x _) es [] _ => if okNm x && glB c.sc x && !es.isEmpty then (match c.glb.lookup x with
    | some (.fn id j) => if decide (j = es.length) then (c.ob.xf.lookup id).map fun ix => (ix, es) else none
    | _ => none) else none
  | _ => none
def nestX : Nat → Ct → Expr → Bool
  | 0, _, _ => false
  | n + 1, c, e => (xcP c e).isSome || (match e with
    | .Call (.Name _ _) es [] _ => es.any (nestX n c)
    | .Call (.Attribute o _ _) [] [] _ => nestX n c o
    | .List es _ => es.any (nestX n c)
    | .Tuple es _ _ => es.any (nestX n c)
    | _ => false)
def isLstE : Expr → Bool
  | .List .. => true
  | _ => false
mutual
/-- an expression in which a call may raise -/
noncomputable def cX : Nat → Expr → Ct → Option DE
  | 0, _, _ => none
  | n + 1, e, c => match xcP c e with
    | some q => (cA C n q.2 c).map fun fa => eCall C q.1 fa
    | none => (match e with
      | .Call (.Name x _) (e₀ :: es) [] _ => if okNm x && glB c.sc x then (match c.glb.lookup x with
        | some (.fn id j) => if decide (j = es.length + 1) && (isiP x (e₀ :: es)).isNone then (cXA n (e₀ :: es) c).map fun fa => eCallN C id fa else none
        | _ => none) else none
      | .Call (.Attribute o m apos) [] [] cpos => if recvE o && decide (apos.endLine = cpos.line) then (match c.ob.mt.lookup m with
        | some (x, id, k) => if decide (k = 0) then (cX n o c).map fun fo => eMthN C x id m fo else none
        | none => none) else none
      | .Tuple es k pos => if es.any (nestX 20 c) && decide (es.length ≤ 1000) then (cXA n es c).map fun fa => eTupN fa else cE C n (.Tuple es k pos) c
      | .List es pos => if es.any (nestX 20 c) && decide (es.length ≤ 1000) && !muB c pos then (cXA n es c).map fun fa => eLstN fa else cE C n (.List es pos) c
      | e => cE C n e c)
noncomputable def cXA : Nat → List Expr → Ct → Option DX
  | 0, _, _ => none
  | n + 1, es, c => match es with
    | [] => some aNilN
    | e :: es => (cX n e c).bind fun f => (cXA n es c).map fun g => aConsN f g
end
noncomputable def cAsgX (n : Nat) (tg e : Expr) (c : Ct) : Option DS := match xcP c e with
  | none => if nestX 20 c e && !isComp e then (match tg with
    | .Name x _ => if locB c x then (ixS c.N x).bind fun i => (cX C n e c).map fun f => sAsgX f (gN i) else none
    | _ => none) else cAsg C n tg e c
  | some q => (cA C n q.2 c).bind fun fa => (match tg with
    | .Name x _ => if locB c x then (ixS c.N x).map fun i => sAsgX (eCall C q.1 fa) (gN i) else none
    | .Tuple _ _ _ => (cG C n tg c).map fun g => sAsgX (eCall C q.1 fa) g.2
    | _ => none)
mutual
noncomputable def cS : Nat → Stmt → Ct → Option DS
  | 0, _, _ => none
  | n + 1, s, c => match s with
    | .Expr e _ => if isDoc e then some sNil else if isComp e then none else (match xcP c e with
      | some q => (cA C n q.2 c).map fun fa => sExprX (eCall C q.1 fa)
      | none => (cE C n e c).map fun f => sExpr f)
    | .Return (some e) _ => (match xcP c e with
      | some q => (cA C n q.2 c).map fun fa => sRetX (eCall C q.1 fa)
      | none => if nestX 20 c e && isLstE e then (cX C n e c).map fun f => sRetX f else (cE C n e c).map fun f => sRet f)
    | .Raise (some (.Call (.Name x _) [] [] _)) none _ => if okNm x && glB c.sc x && inXt c.ob.xt x && (c.ob.xi.lookup x).isNone then some (sRaise x) else none
    | .Raise (some (.Call (.Name x _) (e :: es) [] _)) none _ => if okNm x && glB c.sc x && inXt c.ob.xt x then (c.ob.xi.lookup x).bind fun ns => (cA C n (e :: es) c).map fun fa => sRaiseF x ns fa else none
    | .Try body [.ExceptHandler (some (.Name y _)) none (b₀ :: suite) _] [] [] _ => if okNm y && glB c.sc y && inXt c.ob.xt y then
        (cSs n body c).map fun fb => sTry c.ob.xt y none fb (fun x => (cXss c none x n (b₀ :: suite)).getD fun _ _ => none) else none
    | .Try body [.ExceptHandler (some (.Name y yp)) (some v) (b₀ :: suite) hp] [] [] _ => if (hidP c (some v)).isEmpty then (if okNm y && glB c.sc y && inXt c.ob.xt y && decide (c.sc.names.lookup v = some .local) then (ixS c.N v).bind fun i =>
        (cSs n body c).map fun fb => sTry c.ob.xt y (some i) fb (fun x => (cXss c (some v) x n (b₀ :: suite)).getD fun _ _ => none) else none)
      else (cSs n body c).bind fun fb => (cHds c n [.ExceptHandler (some (.Name y yp)) (some v) (b₀ :: suite) hp]).map fun hs => sTryM c.ob.xt fb hs
    | .Try body (h₀ :: hds) [] [] _ => (cSs n body c).bind fun fb => (cHds c n (h₀ :: hds)).map fun hs => sTryM c.ob.xt fb hs
    | .Return none _ => some sRetN
    | .Pass _ => some sNil
    | .Break _ => some sBrk
    | .Continue _ => some sCt
    | .If t a b _ => (cT C n t c).bind fun ft => (cSs n a c).bind fun fa => (cSs n b c).map fun fb => sIf ft fa fb
    | .Assign [tg] e _ => cAsgX C n tg e c
    | .AugAssign (.Name x _) op e _ => if locB c x then (ixS c.N x).bind fun i => (augD op).bind fun o => (cE C n e c).map fun f => sAug i o f else none
    | .AugAssign (.Subscript o i _) op e _ => if plainE i then (augD op).bind fun oo => (cE C n o c).bind fun fo => (cE C n i c).bind fun fi => (cE C n e c).map fun f => sAugS oo fo fi f else none
    | .For tg iter body [] _ => if plainE iter then (cI C n tg iter c).bind fun fi => (cG C n tg c).bind fun g => (cSs n body c).map fun fb => lockS c iter (sFor fi g.2 fb) else none
    | .While t body [] _ => (cT C n t c).bind fun ft => (cSs n body c).map fun fb => whileF ft fb
    | _ => none
noncomputable def cSs : Nat → List Stmt → Ct → Option DS
  | 0, _, _ => none
  | n + 1, ss, c => match ss with
    | [] => some sNil
    | s :: ss => (cSs n ss c).map fun b => sSeq ((cS n s c).getD sStuck) b
end
section
variable {X : Cx}
theorem get_list : PGet X (rIxL X.K) := by
  rintro pins s σ H _ _ ov iv Q I ro ri ⟨p, xs, i, z, rfl, rfl, sq, at', q⟩
  cases ro
  obtain ⟨tk, rfl⟩ := ri
  obtain ⟨us, vals, plain, _⟩ := I.list sq
  obtain ⟨j, jx, jv, _, jn, jp⟩ := atI_get at'
  obtain ⟨u, uj, ru⟩ := vals.get jv
  have lens := vals.length
  have big := line63
  have done : EP X pins σ Q u s := ⟨z, H, I, ru, q⟩
  rcases Int.lt_or_le i 0 with neg | pos
  · have e := seqIndex_neg neg jn
    rw [e] at jx
    have ej : (i + (us.toArray.size : Int)).toNat = j := by
      rw [List.size_toArray, ← lens]
      exact Option.some.inj jx
    exact wpAny_getItem_list_neg plain.isList neg (by rw [List.size_toArray]; omega) (by omega) (by rw [ej]; simpa using uj) done
  · have e := seqIndex_of pos jp
    rw [e] at jx
    have ej : i.toNat = j := Option.some.inj jx
    exact wpAny_getItem_list plain.isList pos (by omega) (by rw [ej]; simpa using uj) done
theorem pip_of {op : Operator} {r : R2} (h : OpR X (inplaceOp op) r) : PIp X op r := h
end
section
variable {C} {K : Fg}
theorem od_mulI : OpD K oMulI (rI CMul fun i j => .int (i * j)) := by
  intro r m st H dx dy d x y Q g hx hy e q
  unfold oMulI at e
  split at e
  · split at e
    · next i j hc =>
      cases e; cases hx; cases hy
      refine ⟨_, _, rfl, rfl, ?_, q m H _ (Le.refl m H) g rfl⟩
      unfold mulOk at hc
      rcases Bool.or_eq_true_iff.mp hc with h | h
      · exact .inl (natAbs64 (of_decide_eq_true h))
      · exact .inr (natAbs64 (of_decide_eq_true h))
    · cases e
  · cases e
theorem od_addI : OpD K oAddI (rI0 fun i j => .int (i + j)) := by
  intro r m st H dx dy d x y Q g hx hy e q
  unfold oAddI at e
  split at e
  · cases e; cases hx; cases hy
    exact ⟨_, _, rfl, rfl, q m H _ (Le.refl m H) g rfl⟩
  · cases e
theorem swap_ok {env : Env} {sc : Scope} (he : env.scope = sc) (hk : sc.kind = .function) {ts vs : List Expr} {r : Option (List Str)} (h : swapP sc ts vs = some r) {k1 k2 : Nat} {p1 p2 : Pos} :
    swappedStores [.Tuple ts k1 p1] (.Tuple vs k2 p2) env = pure r := by
  have hb : (env.blockKind != .function) = false := by
    unfold Env.blockKind
    rw [he, hk]
    rfl
  have hn : ∀ id, env.kindOf id = sc.names.lookup id := fun id => by
    unfold Env.kindOf
    rw [he]
  unfold swapP at h
  unfold swappedStores
  simp only [hb, Bool.or_false, hn]
  split at h
  · next h1 => cases h; exact if_pos h1
  · next h1 =>
    refine (if_neg h1).trans ?_
    split at h
    · next h2 => cases h; exact if_pos h2
    · next h2 =>
      refine (if_neg h2).trans ?_
      dsimp only at h
      split at h
      · next h3 => cases h; exact if_pos h3
      · next h3 =>
        refine (if_neg h3).trans ?_
        split at h
        · next h4 => cases h; exact if_pos h4
        · next h4 =>
          refine (if_neg h4).trans ?_
          split at h
          · cases h
          · next h5 => cases h; exact if_neg h5
theorem s_par2 {i j : Nat} {fa : DA} {D : Ends} {σ : L2.St} {H : Hp} {W : WX} (h : tS K W (sPar2 i j fa) D σ H) : tPar i j (tAr K fa) D σ H := by
  obtain ⟨r, m, st, env, fl, st', g, e, f, q⟩ := h
  unfold sPar2 sAsg eTup at f
  obtain ⟨⟨x, s1⟩, f1, f⟩ := Option.bind_eq_some_iff.mp f
  obtain ⟨⟨ds, s2⟩, f2, f1⟩ := Option.bind_eq_some_iff.mp f1
  cases f1
  obtain ⟨⟨e2, s3⟩, f3, f⟩ := Option.bind_eq_some_iff.mp f
  cases f
  refine ⟨r, m, st, env, ds, _, g, e, f2, fun m1 H1 vs l1 g1 d1 => ?_⟩
  match ds, d1, f3 with
  | [a, b], d1, f3 =>
    obtain ⟨v, t1, rfl, da, w, t2, rfl, db, dn⟩ := d1
    cases dn
    cases f3
    exact ⟨v, w, rfl, q m1 H1 _ l1 g1 (((e.mono l1).set da).set db)⟩
  | [], d1, f3 => simp [gT] at f3
  | [a], d1, f3 => simp [gT] at f3
  | a :: b :: c :: t, d1, f3 => simp [gT] at f3
theorem s_par3 {i j l : Nat} {fa : DA} {D : Ends} {σ : L2.St} {H : Hp} {W : WX} (h : tS K W (sPar3 i j l fa) D σ H) : tPar3 i j l (tAr K fa) D σ H := by
  obtain ⟨r, m, st, env, fl, st', g, e, f, q⟩ := h
  unfold sPar3 sAsg eTup at f
  obtain ⟨⟨x, s1⟩, f1, f⟩ := Option.bind_eq_some_iff.mp f
  obtain ⟨⟨ds, s2⟩, f2, f1⟩ := Option.bind_eq_some_iff.mp f1
  cases f1
  obtain ⟨⟨e2, s3⟩, f3, f⟩ := Option.bind_eq_some_iff.mp f
  cases f
  refine ⟨r, m, st, env, ds, _, g, e, f2, fun m1 H1 vs l1 g1 d1 => ?_⟩
  match ds, d1, f3 with
  | [a, b, c], d1, f3 =>
    obtain ⟨v, t1, rfl, da, w, t2, rfl, db, z, t3, rfl, dc, dn⟩ := d1
    cases dn
    cases f3
    exact ⟨v, w, z, rfl, q m1 H1 _ l1 g1 ((((e.mono l1).set da).set db).set dc)⟩
  | [], d1, f3 => simp [gT] at f3
  | [a], d1, f3 => simp [gT] at f3
  | [a, b], d1, f3 => simp [gT] at f3
  | a :: b :: c :: d :: t, d1, f3 => simp [gT] at f3
theorem loc_ok {k : Nat} {c : Ct} {X : Cx} (S : Stat C k c X) {x : Str} (hl : locB c x = true) : Loc X.env.scope x ∧ (X.fn x = true ∨ X.env.scope.names.lookup x = some .local) := by
  unfold locB at hl
  rw [← S.sc, ← S.fn] at hl
  split at hl
  · next q => exact ⟨.inl q, .inr q⟩
  · next q => exact ⟨.inr q, .inl hl⟩
  · cases hl
theorem par_ok {n k : Nat} {c : Ct} {X : Cx} (S : Stat C k c X) {ts vs : List Expr} {names : List Str} {f : DS} {k1 k2 : Nat} {p1 p2 pos : Pos} (hw : swapP c.sc ts vs = some (some names)) (h : cPar C n ts vs names c = some f) {W : WX} :
    PS X (.Assign [.Tuple ts k1 p1] (.Tuple vs k2 p2) pos) (tS X.K W f) := by
  have hsw := swap_ok (k1 := k1) (k2 := k2) (p1 := p1) (p2 := p2) S.sc S.kind hw
  unfold cPar at h
  split at h
  · split at h
    · next hc =>
      simp only [Bool.and_eq_true, decide_eq_true_eq] at hc
      obtain ⟨⟨⟨⟨rfl, rfl⟩, hl⟩, hx⟩, hy⟩ := hc
      obtain ⟨i, hi, h⟩ := Option.bind_eq_some_iff.mp h
      obtain ⟨j, hj, h⟩ := Option.bind_eq_some_iff.mp h
      split at h
      · next hij =>
        obtain ⟨fa, h1, h⟩ := Option.map_eq_some_iff.mp h
        cases h
        obtain ⟨q1, p1, l1⟩ := (sound C n).A _ _ _ _ _ S h1
        match vs, hl, q1, hsw with
        | [a, b], _, q1, hsw =>
          exact ps_imp (ps_par S.calm S.ndX (S.at_ hi) (S.at_ hj) (of_decide_eq_true hij) (by rw [S.sc]; exact hx) (by rw [S.sc]; exact hy) q1 hsw rfl) fun _ _ _ => s_par2
      · cases h
    · cases h
  · split at h
    · next hc =>
      simp only [Bool.and_eq_true, decide_eq_true_eq] at hc
      obtain ⟨⟨⟨⟨⟨⟨rfl, rfl⟩, rfl⟩, hl⟩, hx⟩, hy⟩, hz⟩ := hc
      obtain ⟨i, hi, h⟩ := Option.bind_eq_some_iff.mp h
      obtain ⟨j, hj, h⟩ := Option.bind_eq_some_iff.mp h
      obtain ⟨l, hl2, h⟩ := Option.bind_eq_some_iff.mp h
      split at h
      · next hij =>
        simp only [Bool.and_eq_true, decide_eq_true_eq] at hij
        obtain ⟨fa, h1, h⟩ := Option.map_eq_some_iff.mp h
        cases h
        obtain ⟨q1, p1, l1⟩ := (sound C n).A _ _ _ _ _ S h1
        match vs, hl, q1, hsw with
        | [a, b, c], _, q1, hsw =>
          exact ps_imp (ps_par3 S.calm S.ndX (S.at_ hi) (S.at_ hj) (S.at_ hl2) hij.1.1 hij.1.2 hij.2 (by rw [S.sc]; exact hx) (by rw [S.sc]; exact hy) (by rw [S.sc]; exact hz) q1 hsw rfl) fun _ _ _ => s_par3
      · cases h
    · cases h
  · cases h
theorem each_one {e : Expr} (h : plainE e = true) (env : Env) : (assignEach [e] env).map (·.2) = [assign e env] := by
  rw [plain_each h]
  rfl
theorem noSwap_ne {e tg : Expr} (h : ∀ x p, tg ≠ .Name x p) (l : Nat) (env : Env) : swapsWithSole [tg] e l env = pure false := by
  show swapsWith e (some tg) l env = pure false
  cases hc : isComp e with
  | false => exact comp_noswap hc _ _ _
  | true =>
    cases e with
    | ListComp _ _ _ _ =>
      cases tg with
      | Name x p => exact absurd rfl (h x p)
      | _ => rfl
    | SetComp _ _ _ _ =>
      cases tg with
      | Name x p => exact absurd rfl (h x p)
      | _ => rfl
    | DictComp _ _ _ _ _ =>
      cases tg with
      | Name x p => exact absurd rfl (h x p)
      | _ => rfl
    | _ => cases hc
def env_fn (X : Cx) : Prop := X.env.blockKind = .function
theorem asg_ok {n k : Nat} {c : Ct} {X : Cx} (S : Stat C k c X) {tg e : Expr} {f : DS} {pos : Pos} (h : cAsg C n tg e c = some f) {W : WX} : PS X (.Assign [tg] e pos) (tS X.K W f) := by
  unfold cAsg at h
  split at h
  · next x px =>
    split at h
    · next hl =>
      obtain ⟨l1, l2⟩ := loc_ok S hl
      obtain ⟨i, hi, h⟩ := Option.bind_eq_some_iff.mp h
      split at h
      · next elt tg' iter ifs scope lpos _ =>
        obtain ⟨q, h1, h⟩ := Option.map_eq_some_iff.mp h
        cases h
        obtain ⟨a1, a2⟩ := (sound C n).Lc _ _ _ _ _ _ _ _ _ _ S h1
        have hb : env_fn X := by
          unfold env_fn Env.blockKind
          rw [S.sc, S.kind]
          rfl
        have sw : swapsWith (.ListComp elt [⟨tg', iter, ifs, 0⟩] scope lpos) (some (.Name x px)) pos.line X.env = pure (swB X.env.scope scope x px lpos) := by
          unfold swapsWith swB
          simp only [show X.env.blockKind = .function from hb]
          rfl
        by_cases hs : swB X.env.scope scope x px lpos = true
        · rw [hs] at sw
          unfold swB at hs
          simp only [Bool.and_eq_true] at hs
          exact ps_imp (a2 i x px pos (S.at_ hi) (eq_of_beq hs.1.1) sw) fun D σ H hh => (by
            obtain ⟨r, m, st, env, d, st', g, e, f, q⟩ := s_asg (ws := [i]) hh
            exact ⟨r, m, st, env, d, st', g, e, f, fun m1 H1 v l g1 d1 => g_name (q m1 H1 v l g1 d1)⟩)
        · rw [Bool.not_eq_true] at hs
          rw [hs] at sw
          exact ps_imp (ps_set S.ndX (S.at_ hi) l1 a1 sw l2) fun D σ H hh => (by
            obtain ⟨r, m, st, env, d, st', g, e, f, q⟩ := s_asg (ws := [i]) hh
            exact ⟨r, m, st, env, d, st', g, e, f, fun m1 H1 v l g1 d1 => g_name (q m1 H1 v l g1 d1)⟩)
      · next elt tg' iter ifs tg1 x2 xp2 es cp2 ifs1 scope lpos _ =>
        obtain ⟨q, h1, h⟩ := Option.map_eq_some_iff.mp h
        cases h
        obtain ⟨a1, a2⟩ := (sound C n).Lc2 _ _ _ _ _ _ xp2 _ cp2 _ _ _ _ _ _ _ S h1
        have hb : env_fn X := by
          unfold env_fn Env.blockKind
          rw [S.sc, S.kind]
          rfl
        have sw : swapsWith (.ListComp elt [⟨tg', iter, ifs, 0⟩, ⟨tg1, .Call (.Name x2 xp2) es [] cp2, ifs1, 0⟩] scope lpos) (some (.Name x px)) pos.line X.env = pure (swB X.env.scope scope x px lpos) := by
          unfold swapsWith swB
          simp only [show X.env.blockKind = .function from hb]
          rfl
        by_cases hs : swB X.env.scope scope x px lpos = true
        · rw [hs] at sw
          unfold swB at hs
          simp only [Bool.and_eq_true] at hs
          exact ps_imp (a2 i x px pos (S.at_ hi) (eq_of_beq hs.1.1) sw) fun D σ H hh => (by
            obtain ⟨r, m, st, env, d, st', g, e, f, q⟩ := s_asg (ws := [i]) hh
            exact ⟨r, m, st, env, d, st', g, e, f, fun m1 H1 v l g1 d1 => g_name (q m1 H1 v l g1 d1)⟩)
        · rw [Bool.not_eq_true] at hs
          rw [hs] at sw
          exact ps_imp (ps_set S.ndX (S.at_ hi) l1 a1 sw l2) fun D σ H hh => (by
            obtain ⟨r, m, st, env, d, st', g, e, f, q⟩ := s_asg (ws := [i]) hh
            exact ⟨r, m, st, env, d, st', g, e, f, fun m1 H1 v l g1 d1 => g_name (q m1 H1 v l g1 d1)⟩)
      · split at h
        · cases h
        · next hc =>
          obtain ⟨fe, h1, h⟩ := Option.map_eq_some_iff.mp h
          cases h
          exact ps_imp (ps_set S.ndX (S.at_ hi) l1 ((sound C n).E _ _ _ _ _ S h1).1 (comp_noswap (by simpa using hc) _ _ _) l2) fun D σ H hh => (by
            obtain ⟨r, m, st, env, d, st', g, e, f, q⟩ := s_asg (ws := [i]) hh
            exact ⟨r, m, st, env, d, st', g, e, f, fun m1 H1 v l g1 d1 => g_name (q m1 H1 v l g1 d1)⟩)
    · cases h
  · next ts k1 p1 =>
    split at h
    · next vs k2 p2 =>
      obtain ⟨sw, hsw, h⟩ := Option.bind_eq_some_iff.mp h
      split at h
      · exact par_ok S hsw h
      · obtain ⟨fe, h1, h⟩ := Option.bind_eq_some_iff.mp h
        obtain ⟨g, h2, h⟩ := Option.map_eq_some_iff.mp h
        cases h
        obtain ⟨q2, p2⟩ := (sound C n).G _ _ _ _ _ S h2
        exact ps_imp (ps_asg ((sound C n).E _ _ _ _ _ S h1).1 q2 (noSwap_ne (fun _ _ z => by cases z) _ _) (swap_ok S.sc S.kind hsw) (each_one p2 _)) fun _ _ _ => s_asg
    · next hnt =>
      obtain ⟨fe, h1, h⟩ := Option.bind_eq_some_iff.mp h
      obtain ⟨g, h2, h⟩ := Option.map_eq_some_iff.mp h
      cases h
      obtain ⟨q2, p2⟩ := (sound C n).G _ _ _ _ _ S h2
      refine ps_imp (ps_asg ((sound C n).E _ _ _ _ _ S h1).1 q2 (noSwap_ne (fun _ _ z => by cases z) _ _) ?_ (each_one p2 _)) fun _ _ _ => s_asg
      unfold swappedStores
      cases e with
      | Tuple vs k2 p2 => exact absurd rfl (hnt vs k2 p2)
      | _ => rfl
  · obtain ⟨fe, h1, h⟩ := Option.bind_eq_some_iff.mp h
    obtain ⟨g, h2, h⟩ := Option.map_eq_some_iff.mp h
    cases h
    obtain ⟨q2, p2⟩ := (sound C n).G _ _ _ _ _ S h2
    exact ps_imp (ps_asg ((sound C n).E _ _ _ _ _ S h1).1 q2 (noSwap_ne (fun _ _ z => by cases z) _ _) rfl (each_one p2 _)) fun _ _ _ => s_asg
  · split at h
    · obtain ⟨cls, hf, h⟩ := Option.bind_eq_some_iff.mp h
      obtain ⟨fo, h1, h⟩ := Option.bind_eq_some_iff.mp h
      obtain ⟨fv, h2, h⟩ := Option.map_eq_some_iff.mp h
      cases h
      exact ps_imp (ps_fld ((sound C n).E _ _ _ _ _ S h1).1 ((sound C n).E _ _ _ _ _ S h2).1 (by cases e <;> rfl)) fun _ _ _ => s_setF (S.flds _ _ hf)
    · cases h
  · cases h
theorem s_augS {o : Sto → D → D → Option D} {rr : R2} (ho : OpD K o rr) {fo fi fe : DE} {D : Ends} {σ : L2.St} {H : Hp} {W : WX} (h : tS K W (sAugS o fo fi fe) D σ H) : tAugS (tE K fo) (tE K fi) (tE K fe) (rIxL K) rr rSetL D σ H := by
  obtain ⟨r, m, st, env, fl, st', g, e, f, q⟩ := h
  unfold sAugS at f
  obtain ⟨⟨x, s1⟩, f1, f⟩ := Option.bind_eq_some_iff.mp f
  obtain ⟨⟨y, s2⟩, f2, f⟩ := Option.bind_eq_some_iff.mp f
  obtain ⟨z, f3, f⟩ := Option.bind_eq_some_iff.mp f
  obtain ⟨⟨u, s3⟩, f4, f⟩ := Option.bind_eq_some_iff.mp f
  obtain ⟨d, f5, f⟩ := Option.bind_eq_some_iff.mp f
  obtain ⟨s4, f6, f⟩ := Option.map_eq_some_iff.mp f
  cases f
  have f3 : oIx s2 x y = some z := f3
  have f5 : o s3 z u = some d := f5
  have f6 : setC s3 x y d = some _ := f6
  have hx : ∃ n k, x = .loc n ∧ y = .int k := by
    unfold setC at f6
    split at f6
    · exact ⟨_, _, rfl, rfl⟩
    · cases f6
  obtain ⟨n, k, rfl, rfl⟩ := hx
  refine ⟨r, m, st, env, _, s1, g, e, f1, fun m1 H1 v1 l1 g1 d1 => ?_⟩
  refine ⟨r, m1, s1, env, _, s2, g1, e.mono l1, f2, fun m2 H2 v2 l2 g2 d2 => ?_⟩
  obtain ⟨xs, e1, e2⟩ := Option.bind_eq_some_iff.mp (show (s2[n]?).bind (fun xs => atI xs k) = some z from f3)
  have d1' := d1.mono l2
  obtain ⟨a, rfl, ha, ys0, hy0⟩ := d1
  cases d2
  obtain ⟨us0, hu0⟩ := l2.isL ha hy0
  obtain ⟨vs, h1, zz, ds⟩ := g2.cellL (l2.at ha) e1 hu0
  obtain ⟨w, ew, dw⟩ := at_den ds e2
  refine ⟨a, vs, k, w, rfl, rfl, SqL.of h1, ew, ?_⟩
  refine ⟨r, m2, s2, env, u, s3, g2, e.mono (l1.trans l2), f4, fun m3 H3 v3 l3 g3 d3 => ?_⟩
  refine ho r m3 s3 H3 z u d w v3 _ g3 (dw.mono l3) d3 f5 fun m4 H4 v4 l4 g4 d4 => ?_
  exact set_cell (i := .int k) g4 ((d1'.mono l3).mono l4) rfl d4 f6 fun H5 l5 g5 => q m4 H5 σ ((((l1.trans l2).trans l3).trans l4).trans l5) g5 (e.mono ((((l1.trans l2).trans l3).trans l4).trans l5))
theorem plain_aug {i : Expr} (h : plainE i = true) (ov iv new : Value) : augStore i ov iv new = (do holding [new, ov, iv] (setItem ov iv new); release [new, ov, iv] []; pure .next) := by
  cases i <;> first | rfl | cases h
theorem augs_ok {k : Nat} {c : Ct} {X : Cx} (S : Stat C k c X) {o i e : Expr} {op : Operator} {oo : Sto → D → D → Option D} {fo fi fe : DE} {tpos pos : Pos} (hp : plainE i = true) (ho : augD op = some oo) (h1 : PE X o (tE X.K fo)) (h2 : PE X i (tE X.K fi)) (h3 : PE X e (tE X.K fe)) {W : WX} :
    PS X (.AugAssign (.Subscript o i tpos) op e pos) (tS X.K W (sAugS oo fo fi fe)) := by
  cases op with
  | Add => cases ho; exact ps_imp (ps_augS h1 h2 get_list h3 (pip_of iop_add) set_list (plain_aug hp)) fun _ _ _ => s_augS od_addI
  | Sub => cases ho; exact ps_imp (ps_augS h1 h2 get_list h3 (pip_of iop_sub) set_list (plain_aug hp)) fun _ _ _ => s_augS od_sub
  | Mult => cases ho; exact ps_imp (ps_augS h1 h2 get_list h3 (pip_of iop_mul) set_list (plain_aug hp)) fun _ _ _ => s_augS od_mulI
  | _ => cases ho
/-- a call that may raise, as a statement's value -/
theorem xc_ok {n k : Nat} {c : Ct} {X : Cx} {W : WX} (S : StatX C k c X W) {e : Expr} {q : String × List Expr} {fa : DA} (hx : xcP c e = some q) (h : cA C n q.2 c = some fa) : PE X e (tX X.K W (eCall C q.1 fa)) ∧ plainE e = true ∧ isComp e = false ∧ isTupE e = false := by
  unfold xcP at hx
  split at hx
  · next x p es pos =>
    split at hx
    · next hc =>
      simp only [Bool.and_eq_true, Bool.not_eq_true'] at hc
      obtain ⟨⟨h1, h2⟩, h3⟩ := hc
      split at hx
      · next id j hl =>
        split at hx
        · next hj =>
          obtain ⟨ix, hf, hx⟩ := Option.map_eq_some_iff.mp hx
          cases hx
          have hj := of_decide_eq_true hj
          subst hj
          obtain ⟨f, fd, ps, m1, m2, m3, F⟩ := S.fnx x id _ _ hl hf
          obtain ⟨q1, p1, l1⟩ := (sound C n).A _ _ _ _ _ S.S h
          refine ⟨?_, rfl, rfl, rfl⟩
          cases es with
          | nil => cases h3
          | cons e es =>
            rw [List.all_cons, Bool.and_eq_true] at p1
            exact pe_imp (pe_callX S.tk F S.S.gd S.S.rm1 (S.S.gl h2) m1 m2 m3 q1 (okNm_ok h1).1 (plain_star p1.1 _ _) (stars_none p1.2 _ _)) fun _ _ _ => t_callX l1
        · cases hx
      · cases hx
    · cases hx
  · cases hx
end
theorem xOf_not {K : Fg} {r m : List Addr} {H : Hp} {d : D} {v : V} {q : Str × List (Str × D)} (h : xOf d = some q) (hd : Den K r m H d v) : False := by
  unfold xOf at h
  split at h
  · unfold Den at hd
    obtain ⟨a, xs, _, _, hd⟩ := hd
    unfold Dens at hd
    obtain ⟨x, q, _, hd, _⟩ := hd
    unfold Den at hd
    exact hd
  · cases h
def tArN (K : Fg) (W : WX) (fa : DX) : TA := fun σ H Q => ∃ r m st env ds oe st', Good K r m st H ∧ EnvR K r m H env σ ∧ fa env st = some ((ds, oe), st') ∧
  (oe = none → ∀ m' H' vs, Le m H m' H' → Good K r m' st' H' → Dens K r m' H' ds vs → Q vs H') ∧
  (∀ e, oe = some e → ∃ q, xOf e = some q ∧ ∀ m' H' cls d, Le m H m' H' → Good K r m' st' H' → XVal K r m' H' q.1 q.2 cls d → WE W σ cls d H')
section
variable {K : Fg} {W : WX} {σ : L2.St} {H : Hp}
theorem XEnd.no {r m : List Addr} {st' : Sto} {e : D} {Q : VK} {E : XK} (hx : xOf e = none) : XEnd K r m H st' e Q E ↔ ∀ m' H' v, Le m H m' H' → Good K r m' st' H' → Den K r m' H' e v → Q v H' := by
  unfold XEnd
  rw [hx]
theorem XEnd.yes {r m : List Addr} {st' : Sto} {e : D} {Q : VK} {E : XK} {q : Str × List (Str × D)} (hx : xOf e = some q) : XEnd K r m H st' e Q E ↔ ∀ m' H' cls d, Le m H m' H' → Good K r m' st' H' → XVal K r m' H' q.1 q.2 cls d → E cls d H' := by
  unfold XEnd
  rw [hx]
theorem t_plainX {f : DE} {Q : VK} (h : tX K W f σ H Q) : tE K f σ H Q := by
  obtain ⟨r, m, st, env, d, st', g, e, f, q⟩ := h
  refine ⟨r, m, st, env, d, st', g, e, f, fun m1 H1 v l1 g1 d1 => ?_⟩
  cases hx : xOf d with
  | some q' => exact (xOf_not hx d1).elim
  | none => exact (XEnd.no hx).mp q m1 H1 v l1 g1 d1
theorem t_nilN {Q : List V → Hp → Prop} (h : tArN K W aNilN σ H Q) : tNil σ H Q := by
  obtain ⟨r, m, st, env, ds, oe, st', g, e, f, q, _⟩ := h
  cases f
  exact q rfl m H [] (Le.refl m H) g rfl
theorem t_consN {Q : List V → Hp → Prop} {fa : DE} {fr : DX} (h : tArN K W (aConsN fa fr) σ H Q) : tCons (tX K W fa) (tArN K W fr) σ H Q := by
  obtain ⟨r, m, st, env, ds, oe, st', g, e, f, q1, q2⟩ := h
  unfold aConsN at f
  obtain ⟨⟨x, s1⟩, f1, f⟩ := Option.bind_eq_some_iff.mp f
  refine ⟨r, m, st, env, x, s1, g, e, f1, ?_⟩
  split at f
  · next q' hx =>
    cases f
    obtain ⟨q, hq, k⟩ := q2 x rfl
    exact (XEnd.yes hq).mpr k
  · next hx =>
    obtain ⟨⟨⟨ys, oy⟩, s2⟩, f2, f⟩ := Option.bind_eq_some_iff.mp f
    cases f
    refine (XEnd.no hx).mpr fun m1 H1 v1 l1 g1 d1 => ?_
    refine ⟨r, m1, s1, env, ys, oy, s2, g1, e.mono l1, f2, fun h0 m2 H2 v2 l2 g2 d2 => ?_, fun e1 h1 => ?_⟩
    · exact q1 h0 m2 H2 (v1 :: v2) (l1.trans l2) g2 ⟨v1, v2, rfl, d1.mono l2, d2⟩
    · obtain ⟨q, hq, k⟩ := q2 e1 h1
      exact ⟨q, hq, fun m2 H2 cls d l2 => k m2 H2 cls d (l1.trans l2)⟩
theorem t_callN {C : Orc} {x : String} {n : Nat} {fa : DX} {Q : VK} (hn : ∀ env st ds st', fa env st = some ((ds, none), st') → ds.length = n) (h : tX K W (eCallN C x fa) σ H Q) : tCallG (spC K C x n) (tArN K W fa) σ H Q := by
  obtain ⟨r, m, st, env, d, st', g, e, f, q⟩ := h
  unfold eCallN at f
  obtain ⟨⟨⟨ds, oe⟩, s1⟩, f1, f⟩ := Option.bind_eq_some_iff.mp f
  cases oe with
  | some e1 =>
    have f : (if (xOf e1).isSome then some (e1, s1) else none) = some (d, st') := f
    split at f
    · next hx =>
      cases f
      obtain ⟨q', hx⟩ := Option.isSome_iff_exists.mp hx
      refine ⟨r, m, st, env, ds, some d, st', g, e, f1, fun h0 => (nomatch h0), fun e1 h1 => ?_⟩
      cases h1
      exact ⟨q', hx, (XEnd.yes hx).mp q⟩
    · cases f
  | none =>
    refine ⟨r, m, st, env, ds, none, s1, g, e, f1, fun _ m1 H1 vs l1 g1 d1 => ?_, fun e1 h1 => (nomatch h1)⟩
    refine ⟨r, m1, s1, ds, d, st', hn _ _ _ _ f1, g1, d1, f, fun m2 H2 v l2 g2 d2 => ?_⟩
    cases hx : xOf d with
    | some q' => exact (xOf_not hx d2).elim
    | none => exact (XEnd.no hx).mp q m2 H2 v (l1.trans l2) g2 d2
theorem t_lstN {fa : DX} {Q : VK} (hn : ∀ env st ds st', fa env st = some ((ds, none), st') → ds.length ≤ sizeLine) (h : tX K W (eLstN fa) σ H Q) : tLst (tArN K W fa) σ H Q := by
  obtain ⟨r, m, st, env, d, st', g, e, f, q⟩ := h
  unfold eLstN at f
  obtain ⟨⟨⟨ds, oe⟩, s1⟩, f1, f⟩ := Option.bind_eq_some_iff.mp f
  cases oe with
  | some e1 =>
    have f : (if (xOf e1).isSome then some (e1, s1) else none) = some (d, st') := f
    split at f
    · next hx =>
      cases f
      obtain ⟨q', hx⟩ := Option.isSome_iff_exists.mp hx
      refine ⟨r, m, st, env, ds, some d, st', g, e, f1, fun h0 => (nomatch h0), fun e1 h1 => ?_⟩
      cases h1
      exact ⟨q', hx, (XEnd.yes hx).mp q⟩
    · cases f
  | none =>
    have f : some (D.lst ds, s1) = some (d, st') := f
    cases f
    have q := (XEnd.no (e := .lst ds) rfl).mp q
    refine ⟨r, m, st, env, ds, none, st', g, e, f1, fun _ m1 H1 vs l1 g1 d1 => ?_, fun e1 h1 => (nomatch h1)⟩
    have z : vs.length ≤ sizeLine := by
      rw [← d1.len]
      exact hn _ _ _ _ f1
    refine ⟨z, fun p np => ?_⟩
    have l2 : Le m1 H1 m1 (upd H1 p (.lst vs)) := le_upd np
    exact q m1 _ (.ref p) (l1.trans l2) (g1.upd np) ⟨p, vs, rfl, upd_same, g1.fresh np, z, d1.mono l2⟩
theorem t_tupN {fa : DX} {Q : VK} (hn : ∀ env st ds st', fa env st = some ((ds, none), st') → ds.length ≤ sizeLine) (h : tX K W (eTupN fa) σ H Q) : tTup (tArN K W fa) σ H Q := by
  obtain ⟨r, m, st, env, d, st', g, e, f, q⟩ := h
  unfold eTupN at f
  obtain ⟨⟨⟨ds, oe⟩, s1⟩, f1, f⟩ := Option.bind_eq_some_iff.mp f
  cases oe with
  | some e1 =>
    have f : (if (xOf e1).isSome then some (e1, s1) else none) = some (d, st') := f
    split at f
    · next hx =>
      cases f
      obtain ⟨q', hx⟩ := Option.isSome_iff_exists.mp hx
      refine ⟨r, m, st, env, ds, some d, st', g, e, f1, fun h0 => (nomatch h0), fun e1 h1 => ?_⟩
      cases h1
      exact ⟨q', hx, (XEnd.yes hx).mp q⟩
    · cases f
  | none =>
    have f : (if (xOf (D.tup ds)).isNone then some (D.tup ds, s1) else none) = some (d, st') := f
    split at f
    · next hx =>
      cases f
      have q := (XEnd.no (e := .tup ds) (Option.isNone_iff_eq_none.mp hx)).mp q
      refine ⟨r, m, st, env, ds, none, st', g, e, f1, fun _ m1 H1 vs l1 g1 d1 => ?_, fun e1 h1 => (nomatch h1)⟩
      have z : vs.length ≤ sizeLine := by
        rw [← d1.len]
        exact hn _ _ _ _ f1
      refine ⟨z, fun p np => ?_⟩
      have l2 : Le m1 H1 m1 (upd H1 p (.tup vs)) := le_upd np
      exact q m1 _ (.ref p) (l1.trans l2) (g1.upd np) ⟨p, vs, rfl, .inl ⟨upd_same, g1.fresh np, z⟩, d1.mono l2⟩
    · cases f
theorem t_mthN {C : Orc} {x : Str} {id : String} {f : Str} {fo : DE} {Q : VK} (h : tX K W (eMthN C x id f fo) σ H Q) : tMethG (He.ga K x) f (spC K C id 1) (tX K W fo) tNil σ H Q := by
  obtain ⟨r, m, st, env, d, st', g, e, f1, q⟩ := h
  unfold eMthN at f1
  obtain ⟨⟨o, s1⟩, f2, f1⟩ := Option.bind_eq_some_iff.mp f1
  refine ⟨r, m, st, env, o, s1, g, e, f2, ?_⟩
  split at f1
  · next q' hx =>
    cases f1
    exact (XEnd.yes hx).mpr ((XEnd.yes hx).mp q)
  · next hx =>
    refine (XEnd.no hx).mpr fun m1 H1 v1 l1 g1 d1 => ?_
    cases o with
    | cel k n =>
     cases k with
     | obj y =>
      have f9 : (if decide (y = x) && noFld s1 n f then C id [.cel (.obj y) n] s1 else none) = some (d, st') := f1
      split at f9
      · next hy =>
        rw [Bool.and_eq_true] at hy
        have ey := of_decide_eq_true hy.1
        subst ey
        have hf := hy.2
        unfold noFld at hf
        split at hf
        · next z ns ds' e1 =>
          obtain ⟨a, dx, y', ns', ds'', vs, rfl, i, ec, ey, h1, hl, hz, dd⟩ := obj_cell g1 d1 e1
          cases ec
          refine ⟨a, dx, _, rfl, h1, zip_nolook (of_decide_eq_true hf), ?_⟩
          refine ⟨r, m1, s1, [.cel (.obj y) n], d, st', rfl, g1, Dens.cons d1 (by unfold Dens; rfl), f9, fun m3 H3 v l3 g3 d3 => ?_⟩
          cases hx' : xOf d with
          | some q' => exact (xOf_not hx' d3).elim
          | none => exact (XEnd.no hx').mp q m3 H3 v (l1.trans l3) g3 d3
        · cases hf
      · cases f9
     | dct => cases f1
    | _ => cases f1
end
theorem soundX {C : Orc} {k : Nat} {c : Ct} {X : Cx} {W : WX} (S : StatX C k c X W) : ∀ n, (∀ e f, cX C n e c = some f → PE X e (tX X.K W f) ∧ plainE e = true) ∧
    (∀ es f, cXA C n es c = some f → PA X es (tArN X.K W f) ∧ es.all plainE = true ∧ ∀ env st ds st', f env st = some ((ds, none), st') → ds.length = es.length) := by
  intro n
  induction n with
  | zero =>
    constructor
    · intro e f h; unfold cX at h; cases h
    · intro es f h; unfold cXA at h; cases h
  | succ n ih =>
    obtain ⟨ihE, ihA⟩ := ih
    constructor
    · intro e f h
      unfold cX at h
      split at h
      · next q hq =>
        obtain ⟨fa, h1, h⟩ := Option.map_eq_some_iff.mp h
        cases h
        obtain ⟨q1, q2, _, _⟩ := xc_ok S hq h1
        exact ⟨q1, q2⟩
      · split at h
        · next x p e₀ es pos _ =>
          split at h
          · next hc =>
            simp only [Bool.and_eq_true] at hc
            split at h
            · next id j hl =>
              split at h
              · next hj =>
                obtain ⟨fa, h1, h⟩ := Option.map_eq_some_iff.mp h
                cases h
                rw [Bool.and_eq_true] at hj
                have hj := of_decide_eq_true hj.1
                subst hj
                obtain ⟨f, fd, ps, m1, m2, m3, F⟩ := S.S.funs x id _ hl
                obtain ⟨q1, p1, l1⟩ := ihA _ _ h1
                rw [List.all_cons, Bool.and_eq_true] at p1
                exact ⟨pe_imp (pe_callG F S.S.gd S.S.rm1 (S.S.gl hc.2) m1 m2 m3 q1 (okNm_ok hc.1).1 (plain_star p1.1 _ _) (stars_none p1.2 _ _)) fun _ _ _ => t_callN l1, rfl⟩
              · cases h
            · cases h
          · cases h
        · next o m apos cpos _ =>
          split at h
          · next hc =>
            rw [Bool.and_eq_true, decide_eq_true_eq] at hc
            split at h
            · next x id j hm =>
              split at h
              · next hj =>
                obtain ⟨fo, h1, h⟩ := Option.map_eq_some_iff.mp h
                cases h
                have hj := of_decide_eq_true hj
                subst hj
                obtain ⟨cl, f, fd, ps, m1, m2, F⟩ := S.S.mths m x id _ hm
                obtain ⟨pl, ht⟩ := recv_call hc.1 hc.2 [] X.env (m := m) (form_ok rfl (by decide) cpos X.env)
                exact ⟨pe_imp (pe_methG0 (pl := pl) (ihE _ _ h1).1 cl m1 F S.S.gd S.S.rm1 m2 ht) fun _ _ _ => t_mthN, rfl⟩
              · cases h
            · cases h
          · cases h
        · next es k pos _ =>
          split at h
          · next hc =>
            simp only [Bool.and_eq_true, decide_eq_true_eq] at hc
            obtain ⟨fa, h1, h⟩ := Option.map_eq_some_iff.mp h
            cases h
            obtain ⟨q1, p1, l1⟩ := ihA _ _ h1
            refine ⟨pe_imp (pe_tup q1) fun _ _ _ => t_tupN fun env st ds st' e => ?_, rfl⟩
            rw [l1 _ _ _ _ e]
            exact Nat.le_trans hc.2 (by decide)
          · obtain ⟨q1, q2⟩ := (sound C n).E _ _ _ _ _ S.S h
            exact ⟨pe_imp q1 fun _ _ _ => t_plainX, q2⟩
        · next es pos _ =>
          split at h
          · next hc =>
            simp only [Bool.and_eq_true, decide_eq_true_eq] at hc
            obtain ⟨fa, h1, h⟩ := Option.map_eq_some_iff.mp h
            cases h
            obtain ⟨q1, p1, l1⟩ := ihA _ _ h1
            refine ⟨pe_imp (pe_lst q1) fun _ _ _ => t_lstN fun env st ds st' e => ?_, rfl⟩
            rw [l1 _ _ _ _ e]
            exact Nat.le_trans hc.1.2 (by decide)
          · obtain ⟨q1, q2⟩ := (sound C n).E _ _ _ _ _ S.S h
            exact ⟨pe_imp q1 fun _ _ _ => t_plainX, q2⟩
        · obtain ⟨q1, q2⟩ := (sound C n).E _ _ _ _ _ S.S h
          exact ⟨pe_imp q1 fun _ _ _ => t_plainX, q2⟩
    · intro es f h
      unfold cXA at h
      split at h
      · cases h
        refine ⟨pa_imp pa_nil fun _ _ _ => t_nilN, rfl, fun env st ds st' e => ?_⟩
        cases e
        rfl
      · next e es =>
        obtain ⟨fa, h1, h⟩ := Option.bind_eq_some_iff.mp h
        obtain ⟨fr, h2, h⟩ := Option.map_eq_some_iff.mp h
        cases h
        obtain ⟨q1, p1⟩ := ihE _ _ h1
        obtain ⟨q2, p2, l2⟩ := ihA _ _ h2
        refine ⟨pa_imp (pa_cons q1 q2 (plain_star p1 _ _)) fun _ _ _ => t_consN, by rw [List.all_cons, p1, p2]; rfl, fun env st ds st' e => ?_⟩
        unfold aConsN at e
        obtain ⟨⟨u, s1⟩, e1, e⟩ := Option.bind_eq_some_iff.mp e
        split at e
        · cases e
        · obtain ⟨⟨⟨y, oy⟩, s2⟩, e2, e⟩ := Option.bind_eq_some_iff.mp e
          cases e
          rw [List.length_cons, List.length_cons, l2 _ _ _ _ e2]
section
variable {C : Orc} {K : Fg}
theorem asgX_ok {n k : Nat} {c : Ct} {X : Cx} {W : WX} (S : StatX C k c X W) {tg e : Expr} {f : DS} {pos : Pos} (h : cAsgX C n tg e c = some f) : PS X (.Assign [tg] e pos) (tS X.K W f) := by
  unfold cAsgX at h
  split at h
  · split at h
    · next hx =>
      rw [Bool.and_eq_true, Bool.not_eq_true'] at hx
      split at h
      · next x px =>
        split at h
        · next hl =>
          obtain ⟨l1, l2⟩ := loc_ok S.S hl
          obtain ⟨i, hi, h⟩ := Option.bind_eq_some_iff.mp h
          obtain ⟨f, h1, h⟩ := Option.map_eq_some_iff.mp h
          cases h
          obtain ⟨pe, _⟩ := (soundX S n).1 _ _ h1
          exact ps_imp (ps_set S.S.ndX (S.S.at_ hi) l1 pe (comp_noswap hx.2 _ _ _) l2) fun D σ H hh => (by
            have z := s_asgX (ws := [i]) hh
            obtain ⟨r, m, st, env, d, st', g, e, f, q⟩ := z
            refine ⟨r, m, st, env, d, st', g, e, f, ?_⟩
            unfold XEnd at q ⊢
            split at q
            · exact q
            · exact fun m1 H1 v l g1 d1 => g_name (q m1 H1 v l g1 d1))
        · cases h
      · cases h
    · exact asg_ok S.S h
  · next q hq =>
    obtain ⟨fa, h1, h⟩ := Option.bind_eq_some_iff.mp h
    obtain ⟨pe, p1, p2, p3⟩ := xc_ok S hq h1
    split at h
    · next x px =>
      split at h
      · next hl =>
        obtain ⟨l1, l2⟩ := loc_ok S.S hl
        obtain ⟨i, hi, h⟩ := Option.map_eq_some_iff.mp h
        cases h
        exact ps_imp (ps_set S.S.ndX (S.S.at_ hi) l1 pe (comp_noswap p2 _ _ _) l2) fun D σ H hh => (by
          have z := s_asgX (ws := [i]) hh
          obtain ⟨r, m, st, env, d, st', g, e, f, q⟩ := z
          refine ⟨r, m, st, env, d, st', g, e, f, ?_⟩
          unfold XEnd at q ⊢
          split at q
          · exact q
          · exact fun m1 H1 v l g1 d1 => g_name (q m1 H1 v l g1 d1))
      · cases h
    · obtain ⟨g, h2, h⟩ := Option.map_eq_some_iff.mp h
      cases h
      obtain ⟨q2, p4⟩ := (sound C n).G _ _ _ _ _ S.S h2
      refine ps_imp (ps_asg pe q2 (noSwap_ne (fun _ _ z => by cases z) _ _) ?_ (each_one p4 _)) fun _ _ _ => s_asgX
      unfold swappedStores
      cases e with
      | Tuple vs k2 p2 => cases p3
      | _ => rfl
    · cases h
end
end Tg
namespace Tg
open PySem PySem.Spec PyProof.Rows L2
theorem soundS (C : Orc) : ∀ n, (∀ s c f k X W, StatX C k c X W → cS C n s c = some f → PS X s (tS X.K W f)) ∧ (∀ ss c f k X W, StatX C k c X W → cSs C n ss c = some f → PSs X ss (tS X.K W f)) := by
  intro n
  induction n with
  | zero =>
    constructor
    · intro s c f k X W S h; unfold cS at h; cases h
    · intro ss c f k X W S h; unfold cSs at h; cases h
  | succ n ih =>
    obtain ⟨ihS, ihB⟩ := ih
    constructor
    · intro s c f k X W SX h
      have S := SX.S
      unfold cS at h
      split at h
      · next e p =>
        split at h
        · next hd =>
          cases h
          unfold isDoc at hd
          split at hd
          · exact ps_imp ps_doc fun _ _ _ => s_nil
          · cases hd
        · split at h
          · cases h
          · next hc =>
            split at h
            · next q hq =>
              obtain ⟨fa, h1, h⟩ := Option.map_eq_some_iff.mp h
              cases h
              exact ps_imp (ps_expr (xc_ok SX hq h1).1 (comp_noswap (by simpa using hc) _ _ _)) fun _ _ _ => s_exprX
            · obtain ⟨fe, h1, h⟩ := Option.map_eq_some_iff.mp h
              cases h
              exact ps_imp (ps_expr ((sound C n).E _ _ _ _ _ S h1).1 (comp_noswap (by simpa using hc) _ _ _)) fun _ _ _ => s_expr
      · split at h
        · next q hq =>
          obtain ⟨fa, h1, h⟩ := Option.map_eq_some_iff.mp h
          cases h
          exact ps_imp (ps_ret (xc_ok SX hq h1).1) fun _ _ _ => s_retX
        · split at h
          · obtain ⟨fe, h1, h⟩ := Option.map_eq_some_iff.mp h
            cases h
            exact ps_imp (ps_ret ((soundX SX n).1 _ _ h1).1) fun _ _ _ => s_retX
          · obtain ⟨fe, h1, h⟩ := Option.map_eq_some_iff.mp h
            cases h
            exact ps_imp (ps_ret ((sound C n).E _ _ _ _ _ S h1).1) fun _ _ _ => s_ret
      · split at h
        · next hc =>
          cases h
          simp only [Bool.and_eq_true, Option.isNone_iff_eq_none] at hc
          exact raise_ok SX hc.1.1.2 hc.1.1.1 hc.1.2 hc.2
        · cases h
      · split at h
        · next hc =>
          simp only [Bool.and_eq_true] at hc
          obtain ⟨ns, hi, h⟩ := Option.bind_eq_some_iff.mp h
          obtain ⟨fa, h1, h⟩ := Option.map_eq_some_iff.mp h
          cases h
          obtain ⟨q1, q2, _⟩ := (sound C n).A _ _ _ _ _ S h1
          exact raiseF_ok SX hc.1.2 hc.1.1 hc.2 hi q1 q2
        · cases h
      · next body y py b₀ suite hpos tpos =>
        split at h
        · next hc =>
          simp only [Bool.and_eq_true] at hc
          obtain ⟨⟨h1, h2⟩, h3⟩ := hc
          obtain ⟨fb, h4, h⟩ := Option.map_eq_some_iff.mp h
          cases h
          exact ps_imp (ps_try_only (tb := fun W => tS X.K W fb) (ts := tsX X.K c.ob.xt none [] (fun x => (cXss c none x n (b₀ :: suite)).getD fun _ _ => none)) (Wout := W) SX.st SX.fr ⟨S.gl h2, (okNm_ok h1).1, .inl (SX.tab.cls y h3).1⟩ SX.tk
            (fun W' pn xe tk ps => ihB _ _ _ _ _ _ (SX.tr tk ps) h4) fun a oe cls d pn hz hf => suite_ok SX (err := none) (i := none) (fun _ z => by cases z) (fun _ => rfl) hz hf) fun D σ H hh => s_try_only (fun x hx => SX.tab.exm x y hx h3) hh
        · cases h
      · next body y py v b₀ suite hpos tpos =>
        split at h
        · next he =>
          have he : hidP c (some v) = [] := List.isEmpty_iff.mp he
          split at h
          · next hc =>
            simp only [Bool.and_eq_true, decide_eq_true_eq] at hc
            obtain ⟨⟨⟨h1, h2⟩, h3⟩, hv⟩ := hc
            obtain ⟨i, hi, h⟩ := Option.bind_eq_some_iff.mp h
            obtain ⟨fb, h4, h⟩ := Option.map_eq_some_iff.mp h
            cases h
            have hk : X.env.kindOf v = some .local := by
              unfold Env.kindOf
              rw [S.sc]
              exact hv
            exact ps_imp (ps_try_as (i := i) (tb := fun W => tS X.K W fb) (ts := tsX X.K c.ob.xt (some i) [] (fun x => (cXss c (some v) x n (b₀ :: suite)).getD fun _ _ => none)) (Wout := W) SX.st SX.fr S.ndX (S.at_ hi) hk ⟨S.gl h2, (okNm_ok h1).1, .inl (SX.tab.cls y h3).1⟩ SX.tk
              (fun W' pn xe tk ps => ihB _ _ _ _ _ _ (SX.tr tk ps) h4) fun a oe cls d pn hz hf => by
                have z := suite_ok SX (err := some v) (i := some i) (n := n) (ss := b₀ :: suite) (a := a) (pn := pn) (fun u z => by cases z; exact ⟨i, rfl, hi⟩) (fun z => by cases z) hz hf
                rw [he] at z
                exact z) fun D σ H hh => s_try_as (fun x hx => SX.tab.exm x y hx h3) hh
          · cases h
        · obtain ⟨fb, h4, h⟩ := Option.bind_eq_some_iff.mp h
          obtain ⟨hs, h5, h⟩ := Option.map_eq_some_iff.mp h
          cases h
          obtain ⟨l, ok, M⟩ := cHds_ok SX h5
          exact ps_imp (ps_try_cl (tb := fun W => tS X.K W fb) (Wout := W) SX.st SX.fr S.ndX SX.tk (fun W' pn xe tk ps => ihB _ _ _ _ _ _ (SX.tr tk ps) h4) ok) fun D σ H hh => s_try_m M hh
      · next body h₀ hds tpos n1 n2 =>
        obtain ⟨fb, h4, h⟩ := Option.bind_eq_some_iff.mp h
        obtain ⟨hs, h5, h⟩ := Option.map_eq_some_iff.mp h
        cases h
        obtain ⟨l, ok, M⟩ := cHds_ok SX h5
        exact ps_imp (ps_try_cl (tb := fun W => tS X.K W fb) (Wout := W) SX.st SX.fr S.ndX SX.tk (fun W' pn xe tk ps => ihB _ _ _ _ _ _ (SX.tr tk ps) h4) ok) fun D σ H hh => s_try_m M hh
      · cases h; exact ps_imp ps_retN fun _ _ _ => s_retN
      · cases h; exact ps_imp ps_pass fun _ _ _ => s_nil
      · cases h; exact ps_imp ps_break fun _ _ _ => s_brk
      · cases h; exact ps_imp ps_continue fun _ _ _ => s_ct
      · obtain ⟨ft, h1, h⟩ := Option.bind_eq_some_iff.mp h
        obtain ⟨fa, h2, h⟩ := Option.bind_eq_some_iff.mp h
        obtain ⟨fb, h3, h⟩ := Option.map_eq_some_iff.mp h
        cases h
        exact ps_imp (ps_if ((sound C n).T _ _ _ _ _ S h1) (ihB _ _ _ _ _ _ SX h2) (ihB _ _ _ _ _ _ SX h3)) fun _ _ _ => s_if
      · exact asgX_ok SX h
      · next x px op e p =>
        split at h
        · next hl =>
          obtain ⟨i, hi, h⟩ := Option.bind_eq_some_iff.mp h
          obtain ⟨o, ho, h⟩ := Option.bind_eq_some_iff.mp h
          obtain ⟨fe, h1, h⟩ := Option.map_eq_some_iff.mp h
          cases h
          obtain ⟨l1, l2⟩ := loc_ok S hl
          have hE := ((sound C n).E _ _ _ _ _ S h1).1
          cases op with
          | Add => cases ho; exact ps_imp (ps_aug S.ndX (S.at_ hi) l1 hE iop_add l2) fun _ _ _ => s_aug od_addI
          | Sub => cases ho; exact ps_imp (ps_aug S.ndX (S.at_ hi) l1 hE iop_sub l2) fun _ _ _ => s_aug od_sub
          | Mult => cases ho; exact ps_imp (ps_aug S.ndX (S.at_ hi) l1 hE iop_mul l2) fun _ _ _ => s_aug od_mulI
          | _ => cases ho
        · cases h
      · next o i tpos op e p =>
        split at h
        · next hp =>
          obtain ⟨oo, ho, h⟩ := Option.bind_eq_some_iff.mp h
          obtain ⟨fo, h1, h⟩ := Option.bind_eq_some_iff.mp h
          obtain ⟨fi, h2, h⟩ := Option.bind_eq_some_iff.mp h
          obtain ⟨fe, h3, h⟩ := Option.map_eq_some_iff.mp h
          cases h
          exact augs_ok S hp ho ((sound C n).E _ _ _ _ _ S h1).1 ((sound C n).E _ _ _ _ _ S h2).1 ((sound C n).E _ _ _ _ _ S h3).1
        · cases h
      · next ftg fiter fbody fpos =>
        split at h
        · next hp =>
          obtain ⟨fi, h1, h⟩ := Option.bind_eq_some_iff.mp h
          obtain ⟨g, h2, h⟩ := Option.bind_eq_some_iff.mp h
          obtain ⟨fb, h3, h⟩ := Option.map_eq_some_iff.mp h
          cases h
          have hF : PS X (.For _ _ _ [] fpos) (tS X.K W (sFor fi g.2 fb)) := ps_imp (ps_for S.passes S.calm ((sound C n).I _ _ _ _ _ _ S h1) ((sound C n).G _ _ _ _ _ S h2).1 (ihB _ _ _ _ _ _ SX h3) (plain_set hp _)) fun _ _ _ => s_for
          unfold lockS
          split
          · exact ps_imp (ps_lock hF) fun _ _ _ => s_lock
          · exact hF
        · cases h
      · obtain ⟨ft, h1, h⟩ := Option.bind_eq_some_iff.mp h
        obtain ⟨fb, h2, h⟩ := Option.map_eq_some_iff.mp h
        cases h
        exact ps_imp (ps_while S.passes ((sound C n).T _ _ _ _ _ S h1) (ihB _ _ _ _ _ _ SX h2)) fun D σ H hh => (by
          obtain ⟨r, m, st, env, fl, st', g, e, f, q⟩ := hh
          obtain ⟨j, f⟩ := whileF_ex f
          exact s_while (n := j) ⟨r, m, st, env, fl, st', g, e, f, q⟩)
      · cases h
    · intro ss c f k X W SX h
      have S := SX.S
      unfold cSs at h
      split at h
      · cases h; exact pss_imp pss_nil fun _ _ _ => s_nil
      · next s ss =>
        obtain ⟨fb, h2, h⟩ := Option.map_eq_some_iff.mp h
        cases h
        cases h1 : cS C n s c with
        | some fa => exact pss_imp (pss_cons (ihS _ _ _ _ _ _ SX h1) (ihB _ _ _ _ _ _ SX h2)) fun _ _ _ => s_seq
        | none => exact ⟨fun pins s σ H D I w => by
            obtain ⟨r, m, st, env, fl, st', g, e, f, q⟩ := w
            cases f⟩
structure Fn where
  k : Nat
  n : Nat
  body : Orc → DS
def startE (n : Nat) (ds : List D) : En := ds.map some ++ List.replicate (n - ds.length) none
def runFn (f : Fn) (C : Orc) (ds : List D) (st : Sto) : Option (D × Sto) := if ds.length = f.k then (f.body C (startE f.n ds) st).bind fun p => match p.1 with
  | .rt d => some (d, p.2)
  | .nx _ => some (.non, p.2)
  | _ => none else none
def callN (F : String → Option Fn) : Nat → Orc
  | 0 => fun _ _ _ => none
  | n + 1 => fun x ds st => (F x).bind fun f => runFn f (callN F n) ds st
/-- how deep the text may be nested -/
def fuelC : Nat := 300
theorem no_xf {o : Option String} {P : String → Prop} (e : o = none) : ∀ ix, o = some ix → P ix := fun ix h => by rw [e] at h; cases h
theorem yes_xf {o : Option String} {F : String → Option Fn} {r : Option Fn} {jx : String} (e : o = some jx) (h : F jx = r) : ∀ ix, o = some ix → F ix = r := fun ix h' => by rw [e] at h'; cases h'; exact h
structure DfOk (F : String → Option Fn) (glb : List (Str × Gv)) (blt : List Str) (ob : Ob) (d : Df) : Prop where
  sc : FnScope d.N d.ps (defScope d.st)
  comp : ∃ body, F d.id = some ⟨d.ps.length, d.N.length, body⟩ ∧ (∀ C, cSs C fuelC (defBody d.st) ⟨d.N, defScope d.st, fun _ => true, d.mu, glb, blt, ob⟩ = some (body C)) ∧ (∀ ix, ob.xf.lookup d.id = some ix → F ix = some ⟨d.ps.length, d.N.length, fun C => wrapX (body C)⟩)
structure TxtOk (K : Fg) (mg : Str → Option Value) (glb : List (Str × Gv)) (blt : List Str) (ob : Ob) (ds : List Df) : Prop where
  free : ∀ x ∈ blt, mg x = none
  csts : ∀ x d, glb.lookup x = some (.cst d) → ∃ u v, mg x = some u ∧ RelV v u ∧ ∀ r m H, Den K r m H d v
  defs : ∀ d ∈ ds, ∃ fd, FunD K d.x d.q (defArgs d.st) (defBody d.st) (defScope d.st) [] [] (He.fAd K d.h) fd ∧ Binds K fd d.ps []
  top : ∀ d ∈ ds, ∀ x, d.h = (x, none) → mg x = some (.ref (He.fAd K d.h))
  all : ∀ x id n, glb.lookup x = some (.fn id n) → ∃ d ∈ ds, d.h = (x, none) ∧ d.id = id ∧ d.ps.length = n
  clss : ∀ x id n, glb.lookup x = some (.cls id n) → mg x = some (.ref (He.ga K x)) ∧ ∃ d ∈ ds, Mk K (He.ga K x) (He.fAd K d.h) ∧ d.id = id ∧ d.ps.length = n + 1
  flds : ∀ f cls, ob.fl.lookup f = some cls → ∀ x ∈ cls, Cls K (He.ga K x) ∧ NoAttr K (He.ga K x) f
  mths : ∀ m x id n, ob.mt.lookup m = some (x, id, n) → Cls K (He.ga K x) ∧ ∃ d ∈ ds, Meth K (He.ga K x) m (He.fAd K d.h) ∧ d.id = id ∧ d.ps.length = n + 1
  tab : XTab K mg ob.xt ob.xi
section
variable {P : Program} {w : World} {K : Fg} {mg : Str → Option Value} {base : Heap} {F : String → Option Fn} {glb : List (Str × Gv)} {blt : List Str} {ob : Ob} {ds : List Df}
theorem start_env {r m : List Addr} {H : Hp} {N : List Str} {as : List D} {vs : List V} (h : Dens K r m H as vs) : EnvR K r m H (startE N.length as) (L2.start N vs) := by
  unfold startE L2.start
  rw [h.len]
  constructor
  · simp [h.len]
  · intro i d e
    by_cases hi : i < as.length
    · rw [List.getElem?_append_left (by simpa using hi), List.getElem?_map] at e
      obtain ⟨x, e1, e2⟩ := Option.map_eq_some_iff.mp e
      cases e2
      obtain ⟨v, e3, q⟩ := h.get e1
      refine ⟨v, ?_, q⟩
      rw [List.getElem?_append_left (by rw [List.length_map, ← h.len]; exact hi), List.getElem?_map, e3]
      rfl
    · rw [List.getElem?_append_right (by simpa using hi), List.getElem?_replicate] at e
      split at e <;> cases e
/-- what defs promise, exceptions or none -/
structure Lev (P : Program) (w : World) (K : Fg) (mg : Str → Option Value) (base : Heap) (F : String → Option Fn) (ob : Ob) (ds : List Df) (n : Nat) : Prop where
  g : ∀ d ∈ ds, ∀ fd, FunD K d.x d.q (defArgs d.st) (defBody d.st) (defScope d.st) [] [] (He.fAd K d.h) fd → FnG P w K mg base (2 * n + 1) (He.fAd K d.h) fd d.ps (spC K (callN F n) d.id d.ps.length)
  x : ∀ d ∈ ds, ∀ ix, ob.xf.lookup d.id = some ix → ∀ fd, FunD K d.x d.q (defArgs d.st) (defBody d.st) (defScope d.st) [] [] (He.fAd K d.h) fd → FnX P w K mg base (2 * n + 1) (He.fAd K d.h) fd d.ps (spX K (callN F n) ix d.ps.length)
theorem lev_stat (T : TxtOk K mg glb blt ob ds) {n : Nat} (ih : Lev P w K mg base F ob ds n) {d : Df} (S : FnScope d.N d.ps (defScope d.st)) {X : Cx} {W : WX} (e1 : X.N = d.N) (e2 : X.env.scope = defScope d.st) (e3 : X.fn = fun _ => true) (e4 : X.calm = true) (gd : X.A.guards = some []) (rm : Room (2 * n + 2) X.A)
    (ps : PassesOwn (model X.prog X.w) X.A X.env X.xe) (eP : X.prog = P) (ew : X.w = w) (eK : X.K = K) (em : X.mg = mg) (eb : X.base = base) (tk : Takes X W) (est : X.stack = X.env :: X.outer) (efr : X.env.frame = some X.env.locals) :
    StatX (callN F n) (2 * n + 1) ⟨d.N, defScope d.st, fun _ => true, d.mu, glb, blt, ob⟩ X W := by
  subst eP ew eK em eb
  refine ⟨⟨e1, S.nd, e2, e3, S.kind, e4, gd, rm, ps, T.free, fun x id j hx => ?_, T.csts, fun x id j hx => ?_, T.flds, fun m x id j hx => ?_⟩, tk, est, efr, rm.mono (by omega), T.tab, fun x id j ix hx hf => ?_⟩
  · obtain ⟨d2, h1, h2, rfl, rfl⟩ := T.all x id j hx
    obtain ⟨fd2, a1, a3⟩ := T.defs d2 h1
    exact ⟨_, fd2, d2.ps, T.top d2 h1 x h2, a1.kp, a3, ih.g d2 h1 fd2 a1⟩
  · obtain ⟨hm, d2, h1, h2, rfl, h4⟩ := T.clss x id j hx
    obtain ⟨fd2, a1, a3⟩ := T.defs d2 h1
    have := ih.g d2 h1 fd2 a1
    rw [h4] at this
    exact ⟨_, fd2, d2.ps, hm, h2, a3, this⟩
  · obtain ⟨hc, d2, h1, h2, rfl, h4⟩ := T.mths m x id j hx
    obtain ⟨fd2, a1, a3⟩ := T.defs d2 h1
    have := ih.g d2 h1 fd2 a1
    rw [h4] at this
    exact ⟨hc, _, fd2, d2.ps, h2, a3, this⟩
  · obtain ⟨d2, h1, h2, rfl, rfl⟩ := T.all x id j hx
    obtain ⟨fd2, a1, a3⟩ := T.defs d2 h1
    exact ⟨_, fd2, d2.ps, T.top d2 h1 x h2, a1.kp, a3, ih.x d2 h1 ix hf fd2 a1⟩
theorem zip_un : ∀ fs : List (Str × D), (fs.map (·.1)).zip (fs.map (·.2)) = fs
  | [] => rfl
  | (f, d) :: fs => congrArg ((f, d) :: ·) (zip_un fs)
theorem xOf_exD (x : Str) (fs : List (Str × D)) : xOf (exD x fs) = some (x, fs) := congrArg (fun z => some (x, z)) (zip_un fs)
theorem level (ok : ∀ d ∈ ds, DfOk F glb blt ob d) (T : TxtOk K mg glb blt ob ds) : ∀ n, Lev P w K mg base F ob ds n := by
  intro n
  induction n with
  | zero =>
    refine ⟨fun d hd fd hf => ⟨fun vs H Q h => ?_, fun A outer s H args us vs Q _ _ _ _ _ h => ?_⟩, fun d hd _ _ fd hf => ⟨fun vs H Q E h => ?_, fun A outer s H args us vs Q E _ _ _ _ _ h => ?_⟩⟩
    · obtain ⟨r, m, st, as, e, st', hl, g, dd, hc, q⟩ := h
      cases hc
    · obtain ⟨r, m, st, as, e, st', hl, g, dd, hc, q⟩ := h
      cases hc
    · obtain ⟨r, m, st, as, e, st', hl, g, dd, hc, q⟩ := h
      cases hc
    · obtain ⟨r, m, st, as, e, st', hl, g, dd, hc, q⟩ := h
      cases hc
  | succ n ih =>
    refine ⟨fun d hd fd hf => ?_, fun d hd ix hx fd hf => ?_⟩
    · obtain ⟨S, body, hF, hC, _⟩ := ok d hd
      show FnG P w K mg base (2 * n + 2 + 1) _ _ _ _
      refine fn_g hf S (fun vs H Q h => ?_) fun cdv A outer s H vs Q gd rm h => ?_
      · obtain ⟨r, m, st, as, e, st', hl, g, dd, hc, q⟩ := h
        rw [← dd.len]
        exact hl
      · obtain ⟨r, m, st, as, e, st', hl, g, dd, hc, q⟩ := h
        have stat : StatX (callN F n) (2 * n + 1) ⟨d.N, defScope d.st, fun _ => true, d.mu, glb, blt, ob⟩ (cxOf CX0 P w K mg base d.N d.q (defScope d.st) (He.fAd K d.h) cdv A outer s H E0).nox (fun _ _ _ _ => False) :=
          lev_stat T ih S rfl rfl rfl rfl gd rm PassesOwn.never rfl rfl rfl rfl rfl takes0 rfl rfl
        refine ⟨_, (soundS _ _).2 _ _ _ _ _ _ stat (hC _), ?_⟩
        unfold callN at hc
        rw [hF] at hc
        have hc : runFn ⟨d.ps.length, d.N.length, body⟩ (callN F n) as st = some (e, st') := hc
        unfold runFn at hc
        rw [if_pos hl] at hc
        obtain ⟨⟨fl, s2⟩, f1, f2⟩ := Option.bind_eq_some_iff.mp hc
        refine ⟨r, m, st, _, fl, s2, g, start_env dd, f1, ?_⟩
        cases fl with
        | rt d2 =>
          cases f2
          exact fun m1 H1 v l g1 d1 => q m1 H1 v l g1 d1
        | nx env =>
          cases f2
          exact fun m1 H1 σ l g1 _ => q m1 H1 _ l g1 rfl
        | bk env => cases f2
        | ct env => cases f2
        | xc env x fs => cases f2
    · obtain ⟨S, body, hF, hC, hX⟩ := ok d hd
      have hX := hX ix hx
      show FnX P w K mg base (2 * n + 2 + 1) _ _ _ _
      refine fn_x hf S (fun vs H Q E h => ?_) fun cdv A outer s H vs Q E gd rm h => ?_
      · obtain ⟨r, m, st, as, e, st', hl, g, dd, hc, q⟩ := h
        rw [← dd.len]
        exact hl
      · obtain ⟨r, m, st, as, e, st', hl, g, dd, hc, q⟩ := h
        have stat : StatX (callN F n) (2 * n + 1) ⟨d.N, defScope d.st, fun _ => true, d.mu, glb, blt, ob⟩ (cxOf (L2.CX P w) P w K mg base d.N d.q (defScope d.st) (He.fAd K d.h) cdv A outer s H E) (fun cls d _ H => E cls d H) :=
          lev_stat T ih S rfl rfl rfl rfl gd rm (passes_of (K := fun e s'' => L2.CX P w outer H s E e s'') rfl) rfl rfl rfl rfl rfl (takes_of rfl rfl rfl rfl) rfl rfl
        refine ⟨_, (soundS _ _).2 _ _ _ _ _ _ stat (hC _), ?_⟩
        unfold callN at hc
        rw [hX] at hc
        have hc : runFn ⟨d.ps.length, d.N.length, fun C => wrapX (body C)⟩ (callN F n) as st = some (e, st') := hc
        unfold runFn at hc
        rw [if_pos hl] at hc
        obtain ⟨⟨fl, s2⟩, f1, f2⟩ := Option.bind_eq_some_iff.mp hc
        have f1 : (body (callN F n) (startE d.N.length as) st).map _ = some (fl, s2) := f1
        obtain ⟨⟨fl0, s0⟩, f0, f3⟩ := Option.map_eq_some_iff.mp f1
        refine ⟨r, m, st, _, fl0, s0, g, start_env dd, f0, ?_⟩
        unfold XEnd at q
        cases fl0 with
        | rt d2 =>
          cases f3
          cases f2
          intro m1 H1 v l g1 d1
          cases hq : xOf e with
          | none =>
            rw [hq] at q
            exact q m1 H1 v l g1 d1
          | some z =>
            unfold xOf at hq
            split at hq
            · obtain ⟨_, vs, _, _, _, _, _, dz, _⟩ := d1
              cases dz
            · cases hq
        | nx env =>
          cases f3
          cases f2
          exact fun m1 H1 σ l g1 _ => q m1 H1 _ l g1 rfl
        | bk env => cases f3; cases f2
        | ct env => cases f3; cases f2
        | xc env x fs =>
          cases f3
          cases f2
          intro m1 H1 σ cls dv l g1 er xv
          rw [xOf_exD] at q
          exact q m1 H1 _ _ l g1 xv
end
theorem law_walk {l : PySem.W.OpenLaw} {n k : Nat} {q : Program} {loose : List Str} {XP : (Str → Option Value) → Heap → Prop} {YP : World → Heap → Prop} {d : DefRec} {F : String → Option Fn} {glb : List (Str × Gv)} {blt : List Str} {ob : Ob} {ds : List Df} {dl : Df} {x : Str}
    (hn : l.most = some n) (hn2 : n ≤ 1000) (hdf : d.params.defaults = []) (rm : Room (2 * k + 1) callerA) (hdl : dl ∈ ds) (hps : dl.ps = [x]) (hid : dl.id = "law") (hnm : dl.h = (d.name, none))
    (ok : ∀ e ∈ ds, DfOk F glb blt ob e)
    (T : ∀ (w : World) (mg : Str → Option Value) (h : Heap), YP w h → h.Ns mainGlobals mg → ∃ K : Fg, K.In h ∧ TxtOk K mg glb blt ob ds)
    (main : ∀ ns : List Int, ns.length ≤ n → (∀ z ∈ ns, Builtin.Int.intBits z ≤ 1048576) → ∃ st', callN F k "law" [.scr (ns.map D.int)] [] = some (.bl true, st')) :
    PySem.W.WalkO q loose XP YP l.row.toRowW d [] (fun f vs => PySem.call f vs) := by
  refine Att.attach_callB hn hdf fun w s₀ s₁ mg mb fa o pm cd doc a vs ns G Y ho hd hcd hmg hobj hints hlen hbits hg => ?_
  obtain ⟨K, KX, t⟩ := T w mg _ Y G.T.g
  obtain ⟨fd, h1, h3⟩ := t.defs dl hdl
  rw [t.top dl hdl _ hnm] at hmg
  cases hmg
  obtain ⟨st', hm⟩ := main ns hlen hbits
  rw [hps] at h3
  have hb : BindsTo s₁ fd ⟨[.ref a], []⟩ [(x, .ref a)] := h3 s₁ [.ref a] KX rfl
  refine law_g (sp := spC K (callN F k) dl.id dl.ps.length) KX G.T.g G.T.b G.T.builtins G.T.nolimit hg hobj hints (Nat.le_trans hlen (Nat.le_trans hn2 (by decide))) rm (fun base kb nb => ?_) hb fun H hS => ?_
  · have := (level (P := l.prog) (w := w) (base := base) ok t k).g dl hdl fd h1
    rw [hps] at this
    rw [hps]
    exact this
  · rw [hid, hps]
    refine ⟨[], [], [], [.scr (ns.map D.int)], .bl true, st', rfl, ⟨rfl, List.nodup_nil, fun _ z => (nomatch z), fun i a c e => by simp at e⟩, ?_, hm, fun m' H' v _ _ dv => dv⟩
    refine ⟨_, _, rfl, ⟨a, ns.map V.int, rfl, ?_, by rw [List.length_map]; exact Nat.le_trans hlen hn2, Dens.of_ints ns⟩, rfl⟩
    rcases hS with hS | hS
    · exact .inl ⟨hS, List.not_mem_nil, List.not_mem_nil⟩
    · exact .inr hS
end Tg
namespace Tg
open PySem PySem.Spec PyProof.Rows L2
/-- tables: defs by name; constants; classes with their __init__; fields and methods -/
def mkGlb (ds : List (Str × String × Nat)) (is : List (Str × Int)) (ss : List (Str × Str)) (cs : List (Str × String × Nat)) : List (Str × Gv) :=
  ds.map (fun d => (d.1, Gv.fn d.2.1 d.2.2)) ++ (is.map (fun p => (p.1, Gv.cst (.int p.2))) ++ (ss.map (fun p => (p.1, Gv.cst (.str p.2))) ++ cs.map fun d => (d.1, Gv.cls d.2.1 d.2.2)))
def Bnd (d : Df) : Prop := ∀ (K : Fg) (f : Addr) (fd : FuncData), FunD K d.x d.q (defArgs d.st) (defBody d.st) (defScope d.st) [] [] f fd → Binds K fd d.ps []
/-- scopes of defs, as a test -/
def scB (N ps : List Str) (sc : Scope) : Bool := (match sc.kind with
  | .function => true
  | _ => false) && (!sc.isCoroutine && (!sc.isGenerator && (decide N.Nodup && (decide (N.take ps.length = ps) && (ps.all (fun x => match sc.names.lookup x with
  | some .local => true
  | some .cell => true
  | _ => false) && sc.names.all fun y => match y.2 with
  | .free => false
  | _ => true)))))
theorem scB_ok {N ps : List Str} {sc : Scope} (h : scB N ps sc = true) : FnScope N ps sc := by
  unfold scB at h
  simp only [Bool.and_eq_true, Bool.not_eq_true', decide_eq_true_eq] at h
  obtain ⟨h1, h2, h3, h4, h5, h6, h7⟩ := h
  refine ⟨?_, h2, h3, h4, h5, fun x hx => ?_, fun y hy e => ?_⟩
  · split at h1
    · next e => exact e
    · cases h1
  · have z := List.all_eq_true.mp h6 x hx
    split at z
    · next e => exact .inl e
    · next e => exact .inr e
    · cases z
  · have z := List.all_eq_true.mp h7 y hy
    rw [e] at z
    cases z
/-- a class with fields has its __init__ among the defs -/
def iniOk (ds : List Df) (q : Str × List Str) : Bool := decide q.2.Nodup && (decide (q.2.length ≤ 900) && ds.any fun d => decide (d.h = (q.1, some ("__init__" : Str))) && (iniB d.ps q.2 (defBody d.st) && scB d.N d.ps (defScope d.st)))
/-- the tables fit the defs -/
def hasDf (ds : List Df) (h : Str × Option Str) (id : String) (n : Nat) : Bool := ds.any fun d => decide (d.h = h) && decide (d.id = id) && decide (d.ps.length = n)
def tabOk (ds : List Df) (tb cs : List (Str × String × Nat)) (ob : Ob) : Bool :=
  tb.all (fun t => hasDf ds (t.1, none) t.2.1 t.2.2) && cs.all (fun t => hasDf ds (t.1, some "__init__") t.2.1 (t.2.2 + 1)) && ob.mt.all (fun q => hasDf ds (q.2.1, some q.1) q.2.2.1 (q.2.2.2 + 1) && decide (q.2.1 ∈ cs.map (·.1))) &&
    ob.fl.all (fun q => q.2.all fun x => decide (x ∈ cs.map (·.1))) && ds.all (fun d => match d.h.2 with
      | none => decide (d.h.1 ∈ tb.map (·.1))
      | some _ => true) && ob.xi.all (iniOk ds)
theorem hasDf_ok {ds : List Df} {h : Str × Option Str} {id : String} {n : Nat} (e : hasDf ds h id n = true) : ∃ d ∈ ds, d.h = h ∧ d.id = id ∧ d.ps.length = n := by
  obtain ⟨d, hd, q⟩ := List.any_eq_true.mp e
  simp only [Bool.and_eq_true, decide_eq_true_eq] at q
  exact ⟨d, hd, q.1.1, q.1.2, q.2⟩
theorem says_mem {fa : List He.Fa} {fn : List He.DefD} {K : Fg} (c : He.SaysD fa fn K) {f : He.Fa} (h : f ∈ fa) : f.ok K = true := by
  obtain ⟨i, e⟩ := List.getElem?_of_mem h
  exact c.fact i e
theorem oxB_ok {K : Fg} {C : Addr} (h : oxB K C = true) : ∃ nm q N bs bm sn sub ab col dd k0 k1 k2 k3 k5, K.lookup C = some (excClassObj nm q C N bs bm true sn sub ab col dd k0 k1 k2 k3 k5 "ValueError.__new__") ∧ PySem.HandSPX.refsVE bm = true := by
  unfold oxB at h
  split at h
  · next dd nm bs C' bm N q sn sub ab col sl e =>
    split at h
    · next k0 k1 k2 k3 n k5 es =>
      simp only [Bool.and_eq_true, decide_eq_true_eq] at h
      obtain ⟨rfl, rfl, hv⟩ := h
      have es : sl = #[k0, k1, k2, k3, some (.builtin "ValueError.__new__"), k5] := by
        cases sl with
        | mk l => exact congrArg Array.mk es
      rw [es] at e
      exact ⟨nm, q, N, bs, bm, sn, sub, ab, col, dd, k0, k1, k2, k3, k5, e, hv⟩
    · cases h
  · cases h
theorem inXt_mem {xt : List (Str × List Str)} {x : Str} (h : inXt xt x = true) : ∃ q ∈ xt, q.1 = x := by
  obtain ⟨q, h1, h2⟩ := List.any_eq_true.mp h
  exact ⟨q, h1, of_decide_eq_true h2⟩
theorem xtab_of {K : Fg} {h : Heap} {mg : Str → Option Value} {xt xi : List (Str × List Str)} (X : K.In h) (G : h.Ns mainGlobals mg) (e : exX xt xi K = true) {ds : List Df} (hd : ∀ d ∈ ds, ∃ fd, FunD K d.x d.q (defArgs d.st) (defBody d.st) (defScope d.st) [] [] (He.fAd K d.h) fd ∧ Binds K fd d.ps []) (hi : xi.all (iniOk ds) = true) : XTab K mg xt xi := by
  unfold exX at e
  rw [Bool.and_eq_true] at e
  obtain ⟨e, ei⟩ := e
  have at_ : ∀ x, inXt xt x = true → xcB xi K x = true ∧ (∀ y, inXt xt y = true → PySem.W.kitOne K (.ref (He.ga K x)) (.ref (He.ga K y)) = some (isA xt x y) ∧ PySem.W.exmOne K (.ref (He.ga K x)) (.ref (He.ga K y)) = some (isA xt x y)) ∧ (∀ t ∈ bltX, PySem.W.kitOne K (.ref (He.ga K x)) (.type t) = some (isA xt x (Str.ofString t))) ∧ ∀ f ∈ (xi.flatMap fun q => q.2), PySem.W.findIn K (.ref (He.ga K x)) f = some none := fun x hx => by
    obtain ⟨q, hq, rfl⟩ := inXt_mem hx
    have h1 := List.all_eq_true.mp e q hq
    rw [Bool.and_eq_true, Bool.and_eq_true, Bool.and_eq_true] at h1
    refine ⟨h1.1, fun y hy => ?_, fun t ht => of_decide_eq_true (List.all_eq_true.mp h1.2.2.1 t ht), fun f hf => of_decide_eq_true (List.all_eq_true.mp h1.2.2.2 f hf)⟩
    obtain ⟨r, hr, rfl⟩ := inXt_mem hy
    have h2 := List.all_eq_true.mp h1.2.1 r hr
    rw [Bool.and_eq_true] at h2
    exact ⟨of_decide_eq_true h2.1, of_decide_eq_true h2.2⟩
  have one : ∀ x, inXt xt x = true → (mg x = some (.ref (He.ga K x)) ∧ XcK K x) ∧ ((xi.lookup x).isSome = true ∨ PySem.W.excIn K (He.ga K x) He.veBase "ValueError.__new__" = true) := fun x hx => by
    have h1 := (at_ x hx).1
    unfold xcB at h1
    simp only [Bool.and_eq_true, Bool.or_eq_true, decide_eq_true_eq] at h1
    obtain ⟨a1, a2, b2, b3, b4, a3, a4, a5, a6, a7, a8, a9⟩ := h1
    exact ⟨⟨He.glo_ok X G a1, b2, b3, b4, ⟨a3, a4, b3, a5, a6, a7, a8, a9⟩⟩, a2⟩
  refine ⟨fun x hx => (one x hx).1, fun x hx hn => ?_, fun x ns hx hn => ?_, fun x hx => (at_ x hx).2.2.2, fun x y hx hy => ((at_ x hx).2.1 y hy).1, fun x y hx hy => ((at_ x hx).2.1 y hy).2, fun x hx t ht => (at_ x hx).2.2.1 t ht⟩
  · rcases (one x hx).2 with z | z
    · rw [hn] at z
      cases z
    · exact z
  · have hm := PySem.mem_of_lookup hn
    have h1 := List.all_eq_true.mp ei _ hm
    have h2 := List.all_eq_true.mp hi _ hm
    unfold xiB at h1
    unfold iniOk at h2
    simp only [Bool.and_eq_true, decide_eq_true_eq] at h1 h2
    obtain ⟨c1, c2, c3, c4, c5⟩ := h1
    obtain ⟨d1, d2, d3⟩ := h2
    obtain ⟨d, hdm, d3⟩ := List.any_eq_true.mp d3
    simp only [Bool.and_eq_true, decide_eq_true_eq] at d3
    obtain ⟨d3, d4, d5⟩ := d3
    have K1 := (one x hx).1.2
    have T : OexC K (He.ga K x) := ⟨oxB_ok c1, c2, K1.bs, K1.ty, K1.kp⟩
    have no : ∀ f ∈ ns, PySem.W.findIn K (.ref (He.ga K x)) f = some none := fun f hf => of_decide_eq_true (List.all_eq_true.mp c5 f hf)
    obtain ⟨fd, F, B⟩ := hd d hdm
    rw [d3] at F
    exact ⟨T, no, d1, d2, _, fd, d.ps, c3, c4, B, fun P w mg base => ini_ok F (scB_ok d5) T no d4⟩
theorem txt_ok {K : Fg} {h : Heap} {mg : Str → Option Value} {ds : List Df} {is : List (Str × Int)} {ss : List (Str × Str)} {blt : List Str} {tb cs : List (Str × String × Nat)} {ob : Ob} (hb : ∀ d ∈ ds, Bnd d) (ht : tabOk ds tb cs ob = true)
    (X : K.In h) (G : h.Ns mainGlobals mg) (c : He.SaysD (mkFa tb is ss blt cs ob) (mkFn ds) K) (hx : exX ob.xt ob.xi K = true) : TxtOk K mg (mkGlb tb is ss cs) blt ob ds := by
  unfold tabOk at ht
  simp only [Bool.and_eq_true] at ht
  obtain ⟨⟨⟨⟨⟨t1, t2⟩, t3⟩, t4⟩, t5⟩, t6⟩ := ht
  have defs : ∀ d ∈ ds, ∃ fd, FunD K d.x d.q (defArgs d.st) (defBody d.st) (defScope d.st) [] [] (He.fAd K d.h) fd ∧ Binds K fd d.ps [] := fun d hd => by
    obtain ⟨i, e⟩ := List.getElem?_of_mem hd
    obtain ⟨fd, F⟩ := c.def_ i (d := ⟨d.h, d.x, d.q, defArgs d.st, defBody d.st, defScope d.st, [], []⟩) (by
      unfold mkFn
      rw [List.getElem?_map, e]
      rfl)
    exact ⟨fd, F, hb d hd K _ fd F⟩
  have m1 : ∀ {f}, f ∈ clFa cs ob → f.ok K = true := fun hf => says_mem c (List.mem_append_right _ (List.mem_append_right _ (List.mem_append_right _ (List.mem_append_right _ hf))))
  have hcl : ∀ x, x ∈ cs.map (·.1) → Cls K (He.ga K x) := fun x hx => by
    obtain ⟨t, ht, rfl⟩ := List.mem_map.mp hx
    exact He.cls_ok (m1 (List.mem_append_right _ (List.mem_append_left _ (List.mem_map.mpr ⟨t, ht, rfl⟩))))
  refine ⟨fun x hx => ?_, fun x d hx => ?_, fun d hd => ?_, fun d hd x hx => ?_, fun x id n hx => ?_, fun x id n hx => ?_, fun f cls hf x hx => ?_, fun m x id n hx => ?_, xtab_of X G hx defs t6⟩
  · exact He.free_ok X G (says_mem c (List.mem_append_right _ (List.mem_append_right _ (List.mem_append_right _ (List.mem_append_left _ (List.mem_map.mpr ⟨x, hx, rfl⟩))))))
  · have hm := PySem.mem_of_lookup hx
    rcases List.mem_append.mp hm with hm | hm
    · obtain ⟨d2, _, e⟩ := List.mem_map.mp hm
      cases e
    · rcases List.mem_append.mp hm with hm | hm
      · obtain ⟨p, hp, e⟩ := List.mem_map.mp hm
        cases e
        obtain ⟨t, e⟩ := He.int_ok X G (says_mem c (f := .int p.1 p.2) (List.mem_append_right _ (List.mem_append_left _ (List.mem_map.mpr ⟨p, hp, rfl⟩))))
        exact ⟨_, .int p.2, e, ⟨t, rfl⟩, fun _ _ _ => rfl⟩
      · rcases List.mem_append.mp hm with hm | hm
        · obtain ⟨p, hp, e⟩ := List.mem_map.mp hm
          cases e
          obtain ⟨t, e⟩ := He.str_ok X G (says_mem c (f := .str p.1 p.2) (List.mem_append_right _ (List.mem_append_right _ (List.mem_append_left _ (List.mem_map.mpr ⟨p, hp, rfl⟩)))))
          exact ⟨_, .str p.2, e, ⟨t, rfl⟩, fun _ _ _ => rfl⟩
        · obtain ⟨p, hp, e⟩ := List.mem_map.mp hm
          cases e
  · exact defs d hd
  · have q := List.all_eq_true.mp t5 d hd
    rw [hx] at q
    obtain ⟨t, ht, e⟩ := List.mem_map.mp (of_decide_eq_true q)
    have e : t.1 = x := e
    rw [hx]
    exact He.glo_ok X G (says_mem c (f := .glo x) (List.mem_append_left _ (List.mem_map.mpr ⟨t, ht, by rw [e]⟩)))
  · have hm := PySem.mem_of_lookup hx
    rcases List.mem_append.mp hm with hm | hm
    · obtain ⟨t, ht, e⟩ := List.mem_map.mp hm
      cases e
      exact hasDf_ok (List.all_eq_true.mp t1 t ht)
    · rcases List.mem_append.mp hm with hm | hm
      · obtain ⟨p, hp, e⟩ := List.mem_map.mp hm
        cases e
      · rcases List.mem_append.mp hm with hm | hm
        · obtain ⟨p, hp, e⟩ := List.mem_map.mp hm
          cases e
        · obtain ⟨p, hp, e⟩ := List.mem_map.mp hm
          cases e
  · have hm := PySem.mem_of_lookup hx
    rcases List.mem_append.mp hm with hm | hm
    · obtain ⟨t, ht, e⟩ := List.mem_map.mp hm
      cases e
    · rcases List.mem_append.mp hm with hm | hm
      · obtain ⟨p, hp, e⟩ := List.mem_map.mp hm
        cases e
      · rcases List.mem_append.mp hm with hm | hm
        · obtain ⟨p, hp, e⟩ := List.mem_map.mp hm
          cases e
        · obtain ⟨t, ht, e⟩ := List.mem_map.mp hm
          cases e
          refine ⟨He.glo_ok X G (m1 (List.mem_append_left _ (List.mem_map.mpr ⟨t, ht, rfl⟩))), ?_⟩
          obtain ⟨d, hd, e1, e2, e3⟩ := hasDf_ok (List.all_eq_true.mp t2 t ht)
          refine ⟨d, hd, ?_, e2, e3⟩
          rw [e1]
          exact He.mkr_ok (m1 (List.mem_append_right _ (List.mem_append_right _ (List.mem_append_left _ (List.mem_map.mpr ⟨t, ht, rfl⟩)))))
  · have hm := PySem.mem_of_lookup hf
    have q := List.all_eq_true.mp (List.all_eq_true.mp t4 _ hm) x hx
    exact ⟨hcl x (of_decide_eq_true q), He.noat_ok (m1 (List.mem_append_right _ (List.mem_append_right _ (List.mem_append_right _ (List.mem_append_right _ (List.mem_flatMap.mpr ⟨_, hm, List.mem_map.mpr ⟨x, hx, rfl⟩⟩))))))⟩
  · have hm := PySem.mem_of_lookup hx
    have q := List.all_eq_true.mp t3 _ hm
    rw [Bool.and_eq_true] at q
    refine ⟨hcl x (of_decide_eq_true q.2), ?_⟩
    obtain ⟨d, hd, e1, e2, e3⟩ := hasDf_ok q.1
    refine ⟨d, hd, ?_, e2, e3⟩
    rw [e1]
    exact He.meth_ok (m1 (List.mem_append_right _ (List.mem_append_right _ (List.mem_append_right _ (List.mem_append_left _ (List.mem_map.mpr ⟨_, hm, rfl⟩))))))
end Tg
namespace Tg
open PySem PySem.Spec PyProof.Rows L2
section
def kVar (st : Sto) : Option (Option D) → Option (D × Sto)
  | some (some d) => some (d, st)
  | _ => none
def mk2 (s : Sto) (d : D) : D × Sto := (d, s)
def kOp (o : Sto → D → D → Option D) (fb : DE) (env : En) (p : D × Sto) : Option (D × Sto) := (fb env p.2).bind fun q => (o q.2 p.1 q.1).map fun d => (d, q.2)
def kOp2 (o : Sto → D → D → Option D) (x : D) (q : D × Sto) : Option (D × Sto) := (o q.2 x q.1).map fun d => (d, q.2)
def kUn (o : D → Option D) (p : D × Sto) : Option (D × Sto) := (o p.1).map fun d => (d, p.2)
def kA (fr : DA) (env : En) (p : D × Sto) : Option (List D × Sto) := (fr env p.2).bind fun q => some (p.1 :: q.1, q.2)
def kA2 (x : D) (q : List D × Sto) : Option (List D × Sto) := some (x :: q.1, q.2)
def kBlt (g : Sto → List D → Option D) (p : List D × Sto) : Option (D × Sto) := (g p.2 p.1).map fun d => (d, p.2)
def kNew (g : Sto → List D → Option (List D)) (p : List D × Sto) : Option (D × Sto) := (g p.2 p.1).map fun c => (.loc p.2.length, p.2 ++ [c])
def kNew2 (s : Sto) (c : List D) : D × Sto := (.loc s.length, s ++ [c])
def kCall (C : Orc) (x : String) (p : List D × Sto) : Option (D × Sto) := C x p.1 p.2
def kTup (p : List D × Sto) : Option (D × Sto) := some (.tup p.1, p.2)
def kLst (p : List D × Sto) : Option (D × Sto) := some (.lst p.1, p.2)
def kMLst (p : List D × Sto) : Option (D × Sto) := some (.loc p.2.length, p.2 ++ [p.1])
def kIf (fa fb : DE) (env : En) (p : Bool × Sto) : Option (D × Sto) := if p.1 then fa env p.2 else fb env p.2
def kAnd (fb : DE) (env : En) (p : D × Sto) : Option (D × Sto) := match p.1 with
  | .bl true => fb env p.2
  | .bl false => some (.bl false, p.2)
  | _ => none
def kOr (fb : DE) (env : En) (p : D × Sto) : Option (D × Sto) := match p.1 with
  | .bl true => some (.bl true, p.2)
  | .bl false => fb env p.2
  | _ => none
def kNot (p : D × Sto) : Option (D × Sto) := match p.1 with
  | .bl b => some (.bl (!b), p.2)
  | _ => none
def kBv (p : D × Sto) : Option (Bool × Sto) := match p.1 with
  | .bl b => some (b, p.2)
  | _ => none
def kBand (fb : DB) (env : En) (p : Bool × Sto) : Option (Bool × Sto) := if p.1 then fb env p.2 else some (false, p.2)
def kBor (fb : DB) (env : En) (p : Bool × Sto) : Option (Bool × Sto) := if p.1 then some (true, p.2) else fb env p.2
def kBnot (p : Bool × Sto) : Option (Bool × Sto) := some (!p.1, p.2)
def kSl (fl fh : DO) (env : En) (p : D × Sto) : Option (D × Sto) := (fl env p.2).bind fun l => (fh env l.2).bind fun u => (sliceD u.2 l.1 u.1 p.1).map fun d => (d, u.2)
def kSl2 (fh : DO) (env : En) (x : D) (l : Option Int × Sto) : Option (D × Sto) := (fh env l.2).bind fun u => (sliceD u.2 l.1 u.1 x).map fun d => (d, u.2)
def kSl3 (x : D) (l : Option Int) (u : Option Int × Sto) : Option (D × Sto) := (sliceD u.2 l u.1 x).map fun d => (d, u.2)
def kSo (p : D × Sto) : Option (Option Int × Sto) := match p.1 with
  | .int i => some (some i, p.2)
  | _ => none
def kApp (fa : DE) (env : En) (p : D × Sto) : Option (D × Sto) := (fa env p.2).bind fun q => match p.1 with
  | .loc n => (q.2[n]?).bind fun xs => if fits xs.length then some (.non, q.2.set n (xs ++ [q.1])) else none
  | _ => none
def kApp2 (o : D) (q : D × Sto) : Option (D × Sto) := match o with
  | .loc n => (q.2[n]?).bind fun xs => if fits xs.length then some (.non, q.2.set n (xs ++ [q.1])) else none
  | _ => none
def kCh (o o' : Sto → D → D → Option D) (fb fc : DE) (env : En) (p : D × Sto) : Option (D × Sto) := (fb env p.2).bind fun q => (o q.2 p.1 q.1).bind fun z => match z with
    | .bl true => (fc env q.2).bind fun r => (o' r.2 q.1 r.1).map fun d => (d, r.2)
    | .bl false => some (.bl false, q.2)
    | _ => none
def kCh2 (o o' : Sto → D → D → Option D) (fc : DE) (env : En) (x : D) (q : D × Sto) : Option (D × Sto) := (o q.2 x q.1).bind fun z => match z with
    | .bl true => (fc env q.2).bind fun r => (o' r.2 q.1 r.1).map fun d => (d, r.2)
    | .bl false => some (.bl false, q.2)
    | _ => none
def kCh3 (o' : Sto → D → D → Option D) (fc : DE) (env : En) (y : D) (s : Sto) (z : D) : Option (D × Sto) := match z with
    | .bl true => (fc env s).bind fun r => (o' r.2 y r.1).map fun d => (d, r.2)
    | .bl false => some (.bl false, s)
    | _ => none
def kSeq (b : DS) (p : Fl × Sto) : Option (Fl × Sto) := match p.1 with
  | .nx env' => b env' p.2
  | f => some (f, p.2)
def kDrop (env : En) (p : D × Sto) : Option (Fl × Sto) := some (.nx env, p.2)
def kRet (p : D × Sto) : Option (Fl × Sto) := some (.rt p.1, p.2)
def kSif (a b : DS) (env : En) (p : Bool × Sto) : Option (Fl × Sto) := if p.1 then a env p.2 else b env p.2
def kAsg (g : DG) (env : En) (p : D × Sto) : Option (Fl × Sto) := (g p.1 env p.2).bind fun q => some (.nx q.1, q.2)
def kNx (q : En × Sto) : Option (Fl × Sto) := some (.nx q.1, q.2)
def kGs (g : DGs) (r : List D) (p : En × Sto) : Option (En × Sto) := g r p.1 p.2
def kSb (fi : DE) (d : D) (env : En) (p : D × Sto) : Option (En × Sto) := (fi env p.2).bind fun q => (setA q.2 p.1 q.1 d).map fun s => (env, s)
def kSb2 (o d : D) (env : En) (q : D × Sto) : Option (En × Sto) := (setA q.2 o q.1 d).map fun s => (env, s)
def kEs (env : En) (s : Sto) : En × Sto := (env, s)
def kFor (tg : DG) (body : DS) (env : En) (p : ((Sto → Bool) × List D) × Sto) : Option (Fl × Sto) := forL p.1.1 tg body p.1.2 env p.2
def kLc (tg : DG) (ifs : DB) (elt : DE) (env : En) (p : ((Sto → Bool) × List D) × Sto) : Option (D × Sto) := (lcL p.1.1 tg ifs elt env p.1.2 p.2).map fun q => (.lst q.1, q.2)
def kMLc (tg : DG) (ifs : DB) (elt : DE) (env : En) (p : ((Sto → Bool) × List D) × Sto) : Option (D × Sto) := (lcL p.1.1 tg ifs elt env p.1.2 p.2).map fun q => (.loc q.2.length, q.2 ++ [q.1])
def kL (q : List D × Sto) : D × Sto := (.lst q.1, q.2)
def kML (q : List D × Sto) : D × Sto := (.loc q.2.length, q.2 ++ [q.1])
noncomputable def kSrc (p : D × Sto) : Option (((Sto → Bool) × List D) × Sto) := (srcOf p.2 p.1).map fun q => (q, p.2)
def kSr2 (s : Sto) (q : (Sto → Bool) × List D) : ((Sto → Bool) × List D) × Sto := (q, s)
def kRng (p : List D × Sto) : Option (((Sto → Bool) × List D) × Sto) := match p.1 with
  | [.int j] => if decide (j ≤ 1000000) && decide (-1000000 ≤ j) then some ((always, rangeD 0 j.toNat), p.2) else none
  | [.int i, .int j] => if decide (j - i ≤ 1000000) && decide (i.natAbs ≤ 4000000000000000000) && decide (j.natAbs ≤ 4000000000000000000) then some ((always, rangeD i (j - i).toNat), p.2) else none
  | _ => none
noncomputable def kZip (fb : DE) (env : En) (p : D × Sto) : Option (((Sto → Bool) × List D) × Sto) := (fb env p.2).bind fun q => (zipSrc q.2 p.1 q.1).map fun z => (z, q.2)
noncomputable def kZip2 (x : D) (q : D × Sto) : Option (((Sto → Bool) × List D) × Sto) := (zipSrc q.2 x q.1).map fun z => (z, q.2)
noncomputable def kEn (p : D × Sto) : Option (((Sto → Bool) × List D) × Sto) := (enSrc p.2 p.1).map fun z => (z, p.2)
noncomputable def kZ3 (fb fc : DE) (env : En) (p : D × Sto) : Option (((Sto → Bool) × List D) × Sto) := (fb env p.2).bind fun q => (fc env q.2).bind fun u => (zip3Src u.2 p.1 q.1 u.1).map fun z => (z, u.2)
noncomputable def kZ3b (fc : DE) (env : En) (x : D) (q : D × Sto) : Option (((Sto → Bool) × List D) × Sto) := (fc env q.2).bind fun u => (zip3Src u.2 x q.1 u.1).map fun z => (z, u.2)
noncomputable def kZ3c (x y : D) (u : D × Sto) : Option (((Sto → Bool) × List D) × Sto) := (zip3Src u.2 x y u.1).map fun z => (z, u.2)
def kFn (p : Fl × Sto) : Option (D × Sto) := match p.1 with
  | .rt d => some (d, p.2)
  | .nx _ => some (.non, p.2)
  | _ => none
end
section
variable {env : En} {st s : Sto} {d x y : D} {ds : List D} {C : Orc}
theorem e_var (i : Nat) : eVar i env st = kVar st env[i]? := by
  unfold eVar kVar
  rfl
theorem e_kvar : kVar st (some (some d)) = some (d, st) := rfl
theorem e_c : eC d env st = some (d, st) := rfl
theorem e_op {o fa fb} : eOp o fa fb env st = (fa env st).bind (kOp o fb env) := rfl
theorem e_kop {o fb} : kOp o fb env (x, s) = (fb env s).bind (kOp2 o x) := rfl
theorem e_kop2 {o} : kOp2 o x (y, s) = (o s x y).map (mk2 s) := rfl
theorem e_mk2 : mk2 s d = (d, s) := rfl
theorem e_un {o fa} : eUn o fa env st = (fa env st).bind (kUn o) := rfl
theorem e_kun {o} : kUn o (x, s) = (o x).map (mk2 s) := rfl
theorem e_anil : aNil env st = some ([], st) := rfl
theorem e_acons {fa fr} : aCons fa fr env st = (fa env st).bind (kA fr env) := rfl
theorem e_ka {fr} : kA fr env (x, s) = (fr env s).bind (kA2 x) := rfl
theorem e_ka2 : kA2 x (ds, s) = some (x :: ds, s) := rfl
theorem e_blt {g fa} : eBlt g fa env st = (fa env st).bind (kBlt g) := rfl
theorem e_kblt {g} : kBlt g (ds, s) = (g s ds).map (mk2 s) := rfl
theorem e_new {g fa} : eNew g fa env st = (fa env st).bind (kNew g) := rfl
theorem e_knew {g} : kNew g (ds, s) = (g s ds).map (kNew2 s) := rfl
theorem e_knew2 : kNew2 s ds = (.loc s.length, s ++ [ds]) := rfl
theorem e_call {f fa} : eCall C f fa env st = (fa env st).bind (kCall C f) := rfl
theorem e_kcall {f} : kCall C f (ds, s) = C f ds s := rfl
theorem e_tup {fa} : eTup fa env st = (fa env st).bind kTup := rfl
theorem e_ktup : kTup (ds, s) = some (.tup ds, s) := rfl
theorem e_lst {fa} : eLst fa env st = (fa env st).bind kLst := rfl
theorem e_klst : kLst (ds, s) = some (.lst ds, s) := rfl
theorem e_mlst {fa} : eMLst fa env st = (fa env st).bind kMLst := rfl
theorem e_kmlst : kMLst (ds, s) = some (.loc s.length, s ++ [ds]) := rfl
theorem e_if {c fa fb} : eIf c fa fb env st = (c env st).bind (kIf fa fb env) := rfl
theorem e_kifT {fa fb} : kIf fa fb env (true, s) = fa env s := rfl
theorem e_kifF {fa fb} : kIf fa fb env (false, s) = fb env s := rfl
theorem e_and {fa fb} : eAnd fa fb env st = (fa env st).bind (kAnd fb env) := rfl
theorem e_kandT {fb} : kAnd fb env (.bl true, s) = fb env s := rfl
theorem e_kandF {fb} : kAnd fb env (.bl false, s) = some (.bl false, s) := rfl
theorem e_or {fa fb} : eOr fa fb env st = (fa env st).bind (kOr fb env) := rfl
theorem e_korT {fb} : kOr fb env (.bl true, s) = some (.bl true, s) := rfl
theorem e_korF {fb} : kOr fb env (.bl false, s) = fb env s := rfl
theorem e_not {fa} : eNot fa env st = (fa env st).bind kNot := rfl
theorem e_knot {b} : kNot (.bl b, s) = some (.bl (!b), s) := rfl
theorem e_bval {fa} : bVal fa env st = (fa env st).bind kBv := rfl
theorem e_kbv {b} : kBv (.bl b, s) = some (b, s) := rfl
theorem e_band {fa fb} : bAnd fa fb env st = (fa env st).bind (kBand fb env) := rfl
theorem e_kbandT {fb} : kBand fb env (true, s) = fb env s := rfl
theorem e_kbandF {fb} : kBand fb env (false, s) = some (false, s) := rfl
theorem e_bor {fa fb} : bOr fa fb env st = (fa env st).bind (kBor fb env) := rfl
theorem e_kborT {fb} : kBor fb env (true, s) = some (true, s) := rfl
theorem e_kborF {fb} : kBor fb env (false, s) = fb env s := rfl
theorem e_bnot {fa} : bNot fa env st = (fa env st).bind kBnot := rfl
theorem e_kbnot {b} : kBnot (b, s) = some (!b, s) := rfl
theorem e_yes : bYes env st = some (true, st) := rfl
def kIsi (t : Ty) (p : D × Sto) : Option (D × Sto) := (isiD t p.1).map fun d => (d, p.2)
theorem e_isi {t fa} : eIsi t fa env st = (fa env st).bind (kIsi t) := rfl
theorem e_kisiN {t : Ty} : kIsi t (.non, s) = some (.bl (isTy t (.non)), s) := rfl
theorem e_kisiB {t : Ty} {b : Bool} : kIsi t (.bl b, s) = some (.bl (isTy t (.bl b)), s) := rfl
theorem e_kisiI {t : Ty} {i : Int} : kIsi t (.int i, s) = some (.bl (isTy t (.int i)), s) := rfl
theorem e_kisiS {t : Ty} {x : Str} : kIsi t (.str x, s) = some (.bl (isTy t (.str x)), s) := rfl
theorem e_kisiT {t : Ty} {xs : List D} : kIsi t (.tup xs, s) = some (.bl (isTy t (.tup xs)), s) := rfl
theorem e_kisiL {t : Ty} {xs : List D} : kIsi t (.lst xs, s) = some (.bl (isTy t (.lst xs)), s) := rfl
theorem e_kisiC {t : Ty} {xs : List D} : kIsi t (.scr xs, s) = some (.bl (isTy t (.scr xs)), s) := rfl
theorem e_kisiD {t : Ty} : kIsi t (.dic, s) = some (.bl (isTy t (.dic)), s) := rfl
theorem e_kisiO {t : Ty} {n : Nat} : kIsi t (.loc n, s) = some (.bl (isTy t (.loc n)), s) := rfl
theorem e_sl {fa fl fh} : eSl fa fl fh env st = (fa env st).bind (kSl fl fh env) := rfl
theorem e_ksl {fl fh} : kSl fl fh env (x, s) = (fl env s).bind (kSl2 fh env x) := rfl
theorem e_ksl2 {fh l} : kSl2 fh env x (l, s) = (fh env s).bind (kSl3 x l) := rfl
theorem e_ksl3 {l u} : kSl3 x l (u, s) = (sliceD s l u x).map (mk2 s) := rfl
theorem e_ono : oNo env st = some (none, st) := rfl
theorem e_oso {f} : oSo f env st = (f env st).bind kSo := rfl
theorem e_kso {i} : kSo (.int i, s) = some (some i, s) := rfl
def kPop0 (p : D × Sto) : Option (D × Sto) := match p.1 with
  | .loc n => (p.2[n]?).bind fun xs => (xs[xs.length - 1]?).map fun y => (y, p.2.set n xs.dropLast)
  | _ => none
def kGet2 (fk fx : DE) (env : En) (p : D × Sto) : Option (D × Sto) := match p.1 with
  | .cel .dct n => (dictOf p.2 n).bind fun _ => (fk env p.2).bind fun k => (fx env k.2).bind fun x => (dictOf x.2 n).bind fun q => (keyD k.1).map fun key => ((valD q.1 q.2 key).getD x.1, x.2)
  | _ => none
def kUpper (p : D × Sto) : Option (D × Sto) := match p.1 with
  | .str a => if decide (a.length ≤ 1000000) then some (.str (Txt.upper a), p.2) else none
  | _ => none
theorem e_pop0 {fo} : ePop0 fo env st = (fo env st).bind kPop0 := rfl
theorem e_get2 {fo fk fx} : eGet2 fo fk fx env st = (fo env st).bind (kGet2 fk fx env) := rfl
theorem e_upper {fo} : eUpper fo env st = (fo env st).bind kUpper := rfl
theorem e_app {fo fa} : eAppend fo fa env st = (fo env st).bind (kApp fa env) := rfl
theorem e_kapp {fa} : kApp fa env (x, s) = (fa env s).bind (kApp2 x) := rfl
theorem e_chain {o o' fa fb fc} : eChain o o' fa fb fc env st = (fa env st).bind (kCh o o' fb fc env) := rfl
theorem e_kch {o o' fb fc} : kCh o o' fb fc env (x, s) = (fb env s).bind (kCh2 o o' fc env x) := rfl
theorem e_kch2 {o o' fc} : kCh2 o o' fc env x (y, s) = (o s x y).bind (kCh3 o' fc env y s) := rfl
theorem e_kch3T {o' fc} : kCh3 o' fc env y s (.bl true) = (fc env s).bind (kOp2 o' y) := rfl
theorem e_kch3F {o' fc} : kCh3 o' fc env y s (.bl false) = some (.bl false, s) := rfl
theorem e_snil : sNil env st = some (.nx env, st) := rfl
theorem e_seq {a b} : sSeq a b env st = (a env st).bind (kSeq b) := rfl
theorem e_kseqN {b} : kSeq b (.nx env, s) = b env s := rfl
theorem e_kseqR {b} : kSeq b (.rt d, s) = some (.rt d, s) := rfl
theorem e_kseqB {b} : kSeq b (.bk env, s) = some (.bk env, s) := rfl
theorem e_kseqC {b} : kSeq b (.ct env, s) = some (.ct env, s) := rfl
theorem e_expr {f} : sExpr f env st = (f env st).bind (kDrop env) := rfl
theorem e_kdrop : kDrop env (d, s) = some (.nx env, s) := rfl
theorem e_ret {f} : sRet f env st = (f env st).bind kRet := rfl
theorem e_kret : kRet (d, s) = some (.rt d, s) := rfl
theorem e_retn : sRetN env st = some (.rt .non, st) := rfl
theorem e_sif {c a b} : sIf c a b env st = (c env st).bind (kSif a b env) := rfl
theorem e_ksifT {a b} : kSif a b env (true, s) = a env s := rfl
theorem e_ksifF {a b} : kSif a b env (false, s) = b env s := rfl
theorem e_asg {f g} : sAsg f g env st = (f env st).bind (kAsg g env) := rfl
theorem e_kasg {g} : kAsg g env (d, s) = (g d env s).bind kNx := rfl
theorem e_knx : kNx (env, s) = some (.nx env, s) := rfl
theorem e_gn {i} : gN i d env st = some (env.set i (some d), st) := rfl
theorem e_gtT {n f xs} : gT n f (.tup xs) env st = if xs.length = n then f xs env st else none := rfl
theorem e_gtL {n f xs} : gT n f (.lst xs) env st = if xs.length = n then f xs env st else none := rfl
theorem e_gsnil : gsNil [] env st = some (env, st) := rfl
theorem e_gscons {f g} : gsCons f g (d :: ds) env st = (f d env st).bind (kGs g ds) := rfl
theorem e_kgs {g} : kGs g ds (env, s) = g ds env s := rfl
theorem e_gsb {fo fi} : gSb fo fi d env st = (fo env st).bind (kSb fi d env) := rfl
theorem e_ksb {fi} : kSb fi d env (x, s) = (fi env s).bind (kSb2 x d env) := rfl
theorem e_ksb2 : kSb2 x d env (y, s) = (setA s x y d).map (kEs env) := rfl
theorem e_setL {n : Nat} : setA s (.loc n) y d = setC s (.loc n) y d := rfl
theorem e_kes : kEs env s = (env, s) := rfl
theorem e_for {src tg body} : sFor src tg body env st = (src env st).bind (kFor tg body env) := rfl
theorem e_kfor {tg body chk} : kFor tg body env ((chk, ds), s) = forL chk tg body ds env s := rfl
theorem e_lc {vs src tg ifs elt} : eLc vs src tg ifs elt env st = (src env st).bind (kLc tg ifs elt (wipeE env vs)) := rfl
theorem e_klc {tg ifs elt chk} : kLc tg ifs elt env ((chk, ds), s) = (lcL chk tg ifs elt env ds s).map kL := rfl
theorem e_kl : kL (ds, s) = (.lst ds, s) := rfl
theorem e_mlc {vs src tg ifs elt} : eMLc vs src tg ifs elt env st = (src env st).bind (kMLc tg ifs elt (wipeE env vs)) := rfl
theorem e_kmlc {tg ifs elt chk} : kMLc tg ifs elt env ((chk, ds), s) = (lcL chk tg ifs elt env ds s).map kML := rfl
theorem e_kml : kML (ds, s) = (.loc s.length, s ++ [ds]) := rfl
theorem e_seqs {f} : iSeq f env st = (f env st).bind kSrc := rfl
theorem e_ksrc : kSrc (x, s) = (srcOf s x).map (kSr2 s) := rfl
theorem e_ksr2 {q} : kSr2 s q = (q, s) := rfl
theorem e_srcT : srcOf s (.tup ds) = some (always, ds) := rfl
theorem e_srcL : srcOf s (.lst ds) = some (always, ds) := rfl
theorem e_rng {fa} : iRng fa env st = (fa env st).bind kRng := rfl
theorem e_krng1 {j : Int} (h : 0 ≤ j) (h2 : j ≤ 1000000) : kRng ([.int j], s) = some ((always, rangeD 0 j.toNat), s) := by
  show (if decide (j ≤ 1000000) && decide (-1000000 ≤ j) then _ else _) = _
  rw [decide_eq_true h2, decide_eq_true (by omega)]
  rfl
theorem e_zip {fa fb} : iZip fa fb env st = (fa env st).bind (kZip fb env) := rfl
theorem e_kzip {fb} : kZip fb env (x, s) = (fb env s).bind (kZip2 x) := rfl
theorem e_kzip2 : kZip2 x (y, s) = (zipSrc s x y).map (kSr2 s) := rfl
theorem e_zipT {es : List D} : zipSrc s (.tup ds) (.tup es) = some (always, pairsD ds es) := rfl
theorem e_zipL {es : List D} : zipSrc s (.lst ds) (.lst es) = some (always, pairsD ds es) := rfl
theorem e_zipTL {es : List D} : zipSrc s (.tup ds) (.lst es) = some (always, pairsD ds es) := rfl
theorem e_zipLT {es : List D} : zipSrc s (.lst ds) (.tup es) = some (always, pairsD ds es) := rfl
theorem e_en {fa} : iEn fa env st = (fa env st).bind kEn := rfl
theorem e_ken : kEn (x, s) = (enSrc s x).map (kSr2 s) := rfl
theorem e_enT : enSrc s (.tup ds) = some (always, enD 0 ds) := rfl
theorem e_enL : enSrc s (.lst ds) = some (always, enD 0 ds) := rfl
theorem e_zip3 {fa fb fc} : iZip3 fa fb fc env st = (fa env st).bind (kZ3 fb fc env) := rfl
theorem e_kz3 {fb fc} : kZ3 fb fc env (x, s) = (fb env s).bind (kZ3b fc env x) := rfl
theorem e_kz3b {fc} : kZ3b fc env x (y, s) = (fc env s).bind (kZ3c x y) := rfl
theorem e_kz3c {z : D} : kZ3c x y (z, s) = (zip3Src s x y z).map (kSr2 s) := rfl
theorem e_zip3T {es fs : List D} : zip3Src s (.tup ds) (.tup es) (.tup fs) = some (always, triD ds es fs) := rfl
theorem e_par2 {i j : Nat} {fa} : sPar2 i j fa env st = (fa env st).bind fun p => match p.1 with
  | [a, b] => some (.nx ((env.set i (some a)).set j (some b)), p.2)
  | _ => none := by
  unfold sPar2 sAsg eTup
  cases fa env st with
  | none => rfl
  | some p =>
    obtain ⟨ds, s⟩ := p
    match ds with
    | [a, b] => rfl
    | [] => rfl
    | [a] => rfl
    | a :: b :: c :: t => simp [gT]
end
/-- an assignment of two cells -/
def kPar2 (i j : Nat) (env : En) (p : List D × Sto) : Option (Fl × Sto) := match p.1 with
  | [a, b] => some (.nx ((env.set i (some a)).set j (some b)), p.2)
  | _ => none
theorem e_par2' {i j : Nat} {fa env st} : sPar2 i j fa env st = (fa env st).bind (kPar2 i j env) := by
  rw [e_par2]
  rfl
theorem e_kpar2 {i j : Nat} {env : En} {a b : D} {s : Sto} : kPar2 i j env ([a, b], s) = some (.nx ((env.set i (some a)).set j (some b)), s) := rfl
section
variable {s : Sto} {i j : Int}
theorem o_add : oAdd s (.int i) (.int j) = some (.int (i + j)) := rfl
theorem o_sub : oSub s (.int i) (.int j) = some (.int (i - j)) := rfl
theorem o_mul (h : mulOk i j = true) : oMul s (.int i) (.int j) = some (.int (i * j)) := by
  show (if mulOk i j then _ else _) = _
  rw [h]
  rfl
theorem o_div (h : 0 < j) (h2 : j < 18446744073709551616) : oDiv s (.int i) (.int j) = some (.int (i / j)) := by
  show (if divOk j then _ else _) = _
  unfold divOk
  have e : (2 : Nat) ^ 64 = 18446744073709551616 := by decide
  rw [decide_eq_true h, decide_eq_true (by rw [e]; omega)]
  rfl
theorem o_mod (h : 0 < j) : oMod s (.int i) (.int j) = some (.int (i % j)) := by
  show (if decide (0 < j) then _ else _) = _
  rw [decide_eq_true h]
  rfl
theorem o_eq : oEq s (.int i) (.int j) = some (.bl (decide (i = j))) := rfl
theorem o_ne : oNe s (.int i) (.int j) = some (.bl (!decide (i = j))) := rfl
theorem o_eqS {x y : Str} : oEq s (.str x) (.str y) = some (.bl (decide (x = y))) := rfl
theorem o_neS {x y : Str} : oNe s (.str x) (.str y) = some (.bl (!decide (x = y))) := rfl
theorem o_lt : oLt s (.int i) (.int j) = some (.bl (decide (i < j))) := rfl
theorem o_le : oLe s (.int i) (.int j) = some (.bl (decide (i ≤ j))) := rfl
theorem o_gt : oGt s (.int i) (.int j) = some (.bl (decide (j < i))) := rfl
theorem o_ge : oGe s (.int i) (.int j) = some (.bl (decide (j ≤ i))) := rfl
theorem o_neg : oNeg (.int i) = some (.int (-i)) := rfl
theorem o_min2 : gMin2 s [.int i, .int j] = some (.int (min i j)) := by
  show some (D.int (if j < i then j else i)) = _
  congr 2
  rw [Int.min_def]
  split <;> split <;> omega
theorem o_max2 : gMax2 s [.int i, .int j] = some (.int (max i j)) := by
  show some (D.int (if j > i then j else i)) = _
  congr 2
  rw [Int.max_def]
  split <;> split <;> omega
theorem o_ixT {xs : List D} : oIx s (.tup xs) (.int i) = atI xs i := rfl
theorem o_ixL {xs : List D} : oIx s (.lst xs) (.int i) = atI xs i := rfl
theorem o_tupL {xs : List D} : gTuple s [.lst xs] = some (.tup xs) := rfl
theorem o_tupT {xs : List D} : gTuple s [.tup xs] = some (.tup xs) := rfl
theorem o_lenT {xs : List D} : gLen s [.tup xs] = some (.int xs.length) := rfl
theorem o_lenL {xs : List D} : gLen s [.lst xs] = some (.int xs.length) := rfl
theorem o_lenS {xs : List D} : gLen s [.scr xs] = some (.int xs.length) := rfl
theorem o_sum {ns : List Int} : gSum s [.lst (ns.map D.int)] = some (.int ns.sum) := by
  show ((intsOf (ns.map D.int)).map fun ns => D.int ns.sum) = _
  rw [intsOf_map]
  rfl
theorem o_all {ns : List Bool} : gAll s [.lst (ns.map D.bl)] = some (.bl (ns.all id)) := by
  show ((blsOf (ns.map D.bl)).map fun ns => D.bl (ns.all id)) = _
  rw [blsOf_map]
  rfl
theorem o_any {ns : List Bool} : gAny s [.lst (ns.map D.bl)] = some (.bl (ns.any id)) := by
  show ((blsOf (ns.map D.bl)).map fun ns => D.bl (ns.any id)) = _
  rw [blsOf_map]
  rfl
theorem o_intB {b : Bool} : gInt s [.bl b] = some (.int (if b then 1 else 0)) := rfl
theorem o_intI : gInt s [.int i] = some (.int i) := rfl
theorem atI_0 {x : D} {xs : List D} : atI (x :: xs) 0 = some x := by
  rw [show (0 : Int) = ((0 : Nat) : Int) from rfl]
  exact atI_nat rfl
theorem atI_1 {x y : D} {xs : List D} : atI (x :: y :: xs) 1 = some y := by
  rw [show (1 : Int) = ((1 : Nat) : Int) from rfl]
  exact atI_nat rfl
theorem atI_2 {x y z : D} {xs : List D} : atI (x :: y :: z :: xs) 2 = some z := by
  rw [show (2 : Int) = ((2 : Nat) : Int) from rfl]
  exact atI_nat rfl
theorem atI_3 {x y z w : D} {xs : List D} : atI (x :: y :: z :: w :: xs) 3 = some w := by
  rw [show (3 : Int) = ((3 : Nat) : Int) from rfl]
  exact atI_nat rfl
theorem atI_in {α : Type} (xs : List α) (h0 : 0 ≤ i) (h : i < xs.length) : ∃ x, x ∈ xs ∧ atI xs i = some x ∧ xs[i.toNat]? = some x := by
  have hn : i.toNat < xs.length := by omega
  refine ⟨xs[i.toNat], List.getElem_mem hn, ?_, List.getElem?_eq_getElem hn⟩
  have e : atI xs ((i.toNat : Nat) : Int) = some xs[i.toNat] := atI_nat (List.getElem?_eq_getElem hn)
  rwa [Int.toNat_of_nonneg h0] at e
end
/-- comprehensions that only compute -/
theorem lc_pure {tg : DG} {ifs : DB} {elt : DE} {env : En} {s : Sto} (g : D → D) : ∀ (ds : List D), (∀ d ∈ ds, ∃ e, tg d env s = some (e, s) ∧ ifs e s = some (true, s) ∧ elt e s = some (g d, s)) → lcL always tg ifs elt env ds s = some (ds.map g, s)
  | [], _ => rfl
  | d :: ds, h => by
    obtain ⟨e, h1, h2, h3⟩ := h d List.mem_cons_self
    have ih := lc_pure g ds fun d hd => h d (List.mem_cons_of_mem _ hd)
    unfold lcL
    simp only [show always s = true from rfl, if_true, h1, Option.bind_some, h2, h3, ih, Option.map_some, List.map_cons]
/-- a for loop: an invariant over what is left -/
theorem for_ind {chk : Sto → Bool} {tg : DG} {body : DS} (P : List D → En → Sto → Prop) (hc : ∀ ds env st, P ds env st → chk st = true)
    (step : ∀ d ds env st, P (d :: ds) env st → ∃ e s, tg d env st = some (e, s) ∧ ∃ e2 s2, body e s = some (.nx e2, s2) ∧ P ds e2 s2) :
    ∀ (ds : List D) (env : En) (st : Sto), P ds env st → ∃ env' st', forL chk tg body ds env st = some (.nx env', st') ∧ P [] env' st'
  | [], env, st, h => ⟨env, st, by unfold forL; rw [hc _ _ _ h]; rfl, h⟩
  | d :: ds, env, st, h => by
    obtain ⟨e, s, h1, e2, s2, h2, h3⟩ := step d ds env st h
    obtain ⟨e3, s3, h4, h5⟩ := for_ind P hc step ds e2 s2 h3
    refine ⟨e3, s3, ?_, h5⟩
    unfold forL
    rw [hc _ _ _ h, if_pos rfl, h1]
    show (body e s).bind _ = _
    rw [h2]
    exact h4
def kRev (p : D × Sto) : Option (D × Sto) := (revD p.2 p.1).map fun d => (d, p.2)
theorem e_rev {fa : DE} {env : En} {st : Sto} : eRev fa env st = (fa env st).bind kRev := rfl
theorem e_krev {xs : List D} {s : Sto} : kRev (.lst xs, s) = some (.lst xs.reverse, s) := rfl
theorem tupsOf_map (gs : List (List Int)) : tupsOf (gs.map fun g => D.tup (g.map D.int)) = some gs := by
  induction gs with
  | nil => rfl
  | cons g gs ih =>
    rw [List.map_cons]
    unfold tupsOf
    rw [intsOf_map, ih]
    rfl
theorem zip_map2 {α β γ : Type} (f : α → β) (g : α → γ) : ∀ xs : List α, (xs.map f).zip (xs.map g) = xs.map fun x => (f x, g x)
  | [] => rfl
  | x :: xs => by rw [List.map_cons, List.map_cons, List.zip_cons_cons, zip_map2 f g xs, List.map_cons]
/-- sorted tuples of ints, the first of them empty -/
theorem o_sortT {s : Sto} {gs : List (List Int)} : gSorted s [.lst ((([] : List Int) :: gs).map fun g => D.tup (g.map D.int))] = some (.lst ((isort HT.lexLt ([] :: gs)).map fun g => D.tup (g.map D.int))) := by
  show sortX ((([] : List Int) :: gs).map fun g => D.tup (g.map D.int)) = _
  have h0 : intsOf ((([] : List Int) :: gs).map fun g => D.tup (g.map D.int)) = none := rfl
  unfold sortX
  rw [h0]
  unfold sortT
  rw [tupsOf_map]
  show some (D.lst _) = _
  congr 2
  have e : ((([] : List Int) :: gs).map fun g => D.tup (g.map D.int)).zip (([] : List Int) :: gs) = (([] : List Int) :: gs).map fun g => (D.tup (g.map D.int), g) := by
    have := zip_map2 (fun g : List Int => D.tup (g.map D.int)) id (([] : List Int) :: gs)
    rw [List.map_id] at this
    exact this
  rw [e, show isort HT.lexLt (([] : List Int) :: gs) = isort (fun a b => lexP ((fun g : List Int => (D.tup (g.map D.int), g)) a) ((fun g : List Int => (D.tup (g.map D.int), g)) b)) (([] : List Int) :: gs) from rfl, ← isort_map, List.map_map]
  rfl
def kRep2 (x : D) (q : D × Sto) : Option (D × Sto) := (repC q.2 x q.1).map fun c => (.loc q.2.length, q.2 ++ [c])
def kRep (fb : DE) (env : En) (p : D × Sto) : Option (D × Sto) := (fb env p.2).bind (kRep2 p.1)
theorem e_repM {fa fb : DE} {env : En} {st : Sto} : eRepM fa fb env st = (fa env st).bind (kRep fb env) := rfl
theorem e_krep {fb : DE} {env : En} {x : D} {s : Sto} : kRep fb env (x, s) = (fb env s).bind (kRep2 x) := rfl
section
variable {env : En} {st s : Sto} {x : D}
end
end Tg
local macro_rules | `(tactic| walk_at "ev") => `(tactic| simp -implicitDefEqProofs only [Tg.e_var, Tg.e_kvar, Tg.e_c, Tg.e_op, Tg.e_kop, Tg.e_kop2, Tg.e_mk2, Tg.e_un, Tg.e_kun, Tg.e_anil, Tg.e_acons, Tg.e_ka, Tg.e_ka2, Tg.e_blt, Tg.e_kblt, Tg.e_new, Tg.e_knew, Tg.e_knew2, Tg.e_call, Tg.e_kcall, Tg.e_tup, Tg.e_ktup, Tg.e_lst, Tg.e_klst, Tg.e_mlst, Tg.e_kmlst, Tg.e_if, Tg.e_kifT, Tg.e_kifF, Tg.e_and, Tg.e_kandT, Tg.e_kandF, Tg.e_or, Tg.e_korT, Tg.e_korF, Tg.e_not, Tg.e_knot, Tg.e_bval, Tg.e_kbv, Tg.e_band, Tg.e_kbandT, Tg.e_kbandF, Tg.e_bor, Tg.e_kborT, Tg.e_kborF, Tg.e_bnot, Tg.e_kbnot, Tg.e_yes, Tg.e_isi, Tg.e_kisiN, Tg.e_kisiB, Tg.e_kisiI, Tg.e_kisiS, Tg.e_kisiT, Tg.e_kisiL, Tg.e_kisiC, Tg.e_kisiD, Tg.e_kisiO, Tg.e_rev, Tg.e_krev, Tg.e_repM, Tg.e_krep, Tg.e_sl, Tg.e_ksl, Tg.e_ksl2, Tg.e_ksl3, Tg.e_ono, Tg.e_oso, Tg.e_kso, Tg.e_pop0, Tg.e_get2, Tg.e_upper, Tg.e_app, Tg.e_kapp, Tg.e_chain, Tg.e_kch, Tg.e_kch2, Tg.e_kch3T, Tg.e_kch3F, Tg.e_snil, Tg.e_seq, Tg.e_kseqN, Tg.e_kseqR, Tg.e_kseqB, Tg.e_kseqC, Tg.e_expr, Tg.e_kdrop, Tg.e_ret, Tg.e_kret, Tg.e_retn, Tg.e_sif, Tg.e_ksifT, Tg.e_ksifF, Tg.e_asg, Tg.e_kasg, Tg.e_knx, Tg.e_gn, Tg.e_gsnil, Tg.e_gscons, Tg.e_kgs, Tg.e_gsb, Tg.e_ksb, Tg.e_ksb2, Tg.e_setL, Tg.e_kes, Tg.e_for, Tg.e_kfor, Tg.e_lc, Tg.e_klc, Tg.e_kl, Tg.e_mlc, Tg.e_kmlc, Tg.e_kml, Tg.e_seqs, Tg.e_ksrc, Tg.e_ksr2, Tg.e_srcT, Tg.e_srcL, Tg.e_rng, Tg.e_zip, Tg.e_kzip, Tg.e_kzip2, Tg.e_zipT, Tg.e_zipL, Tg.e_zipTL, Tg.e_zipLT, Tg.e_en, Tg.e_ken, Tg.e_enT, Tg.e_enL, Tg.e_zip3, Tg.e_kz3, Tg.e_kz3b, Tg.e_kz3c, Tg.e_zip3T, Tg.e_par2', Tg.e_kpar2,
  Tg.o_add, Tg.o_sub, Tg.o_eq, Tg.o_ne, Tg.o_eqS, Tg.o_neS, Tg.o_lt, Tg.o_le, Tg.o_gt, Tg.o_ge, Tg.o_neg, Tg.o_min2, Tg.o_max2, Tg.o_ixT, Tg.o_ixL, Tg.o_tupL, Tg.o_tupT, Tg.o_lenT, Tg.o_lenL, Tg.o_lenS, Tg.o_sum, Tg.o_all, Tg.o_any, Tg.o_intB, Tg.o_intI, Tg.atI_0, Tg.atI_1, Tg.atI_2, Tg.atI_3,
  Option.bind_some, Option.map_some, List.getElem?_cons_zero, List.getElem?_cons_succ, List.set_cons_zero, List.set_cons_succ, List.length_cons, List.length_nil, List.length_map, Tg.wipeE])
local macro_rules | `(tactic| walk_at "go") => `(tactic| repeat (first | walk_at "ev" | simp -implicitDefEqProofs only [*, Tg.e_gtT, Tg.e_gtL, if_true, reduceIte, Nat.reduceAdd, Tg.e_kfnR, Bool.not_true, Bool.not_false, decide_true, decide_false]))
namespace Tg
open PySem PySem.Spec PyProof.Rows L2
noncomputable def b_l_draws (C : Orc) : DS := (sSeq (sAsg (eOp oAdd (eBlt gList (aCons (eSl (eVar 0) oNo (oSo (eC (.int 63)))) aNil)) (eOp oMul (eLst (aCons (eC (.int 0)) aNil)) (eBlt gInt (aCons (eOp oEq (eBlt gLen (aCons (eVar 0) aNil)) (eC (.int 0))) aNil)))) (gN 1))
    (sSeq (sRet (eMLst (aCons (eVar 1) (aCons (eC (.int 0)) (aCons (eMLc [2] (iSeq (eVar 1)) (gN 2) bYes (eOp oMul (eVar 2) (eBlt gInt (aCons (eOp oGe (eVar 2) (eOp oPow (eC (.int 10)) (eC (.int 18)))) aNil)))) aNil)))))
    sNil))
noncomputable def b_l_next (C : Orc) : DS := (sSeq (sAsg (eVar 0) (gT 3 (gsCons (gN 2) (gsCons (gN 3) (gsCons (gN 4) gsNil)))))
    (sSeq (sAsg (eOp oMod (eVar 3) (eBlt gLen (aCons (eVar 2) aNil))) (gN 5))
    (sSeq (sAsg (eOp oAdd (eVar 3) (eC (.int 1))) (gSb (eVar 0) (eC (.int 1))))
    (sSeq (sIf (bVal (eOp oGt (eOp oIx (eVar 4) (eVar 5)) (eC (.int 0)))) (sSeq (sAsg (eOp oMod (eOp oIx (eVar 4) (eVar 5)) (eVar 1)) (gN 6))
    (sSeq (sAsg (eOp oDiv (eOp oIx (eVar 4) (eVar 5)) (eVar 1)) (gSb (eVar 4) (eVar 5)))
    (sSeq (sRet (eVar 6))
    sNil))) sNil)
    (sSeq (sAsg (eOp oMod (eOp oPow (eOp oAdd (eOp oAdd (eOp oMod (eOp oIx (eVar 2) (eVar 5)) (eC (.int 2147483629))) (eOp oMul (eC (.int 39119)) (eVar 3))) (eC (.int 9901))) (eC (.int 3))) (eC (.int 2147483587))) (gN 7))
    (sSeq (sAsg (eOp oMod (eOp oPow (eOp oAdd (eOp oAdd (eVar 7) (eOp oMul (eOp oMul (eC (.int 7001)) (eVar 3)) (eVar 3))) (eC (.int 41))) (eC (.int 3))) (eC (.int 2147483563))) (gN 8))
    (sSeq (sRet (eOp oMod (eOp oMod (eOp oAdd (eOp oMul (eVar 8) (eC (.int 2147483423))) (eVar 7)) (eC (.int 4611686018427387847))) (eVar 1)))
    sNil)))))))
noncomputable def b_l_amount (C : Orc) : DS := (sSeq (sAsg (eCall C "_law_next" (aCons (eVar 0) (aCons (eOp oAdd (eBlt gMin2 (aCons (eVar 1) (aCons (eC (.int 3)) aNil))) (eC (.int 1))) aNil))) (gN 2))
    (sSeq (sRet (eOp oIx (eLst (aCons (eVar 2) (aCons (eOp oSub (eVar 1) (eVar 2)) (aCons (eCall C "_law_next" (aCons (eVar 0) (aCons (eOp oAdd (eVar 1) (eC (.int 1))) aNil))) aNil)))) (eCall C "_law_next" (aCons (eVar 0) (aCons (eC (.int 3)) aNil)))))
    sNil))
noncomputable def b_l_pair (C : Orc) : DS := (sSeq (sAsg (eCall C "_law_next" (aCons (eVar 0) (aCons (eVar 1) aNil))) (gN 2))
    (sSeq (sRet (eTup (aCons (eVar 2) (aCons (eOp oMod (eOp oAdd (eOp oAdd (eVar 2) (eC (.int 1))) (eCall C "_law_next" (aCons (eVar 0) (aCons (eOp oSub (eVar 1) (eC (.int 1))) aNil)))) (eVar 1)) aNil))))
    sNil))
theorem call_eq {F : String → Option Fn} {x : String} {f : Fn} (h : F x = some f) {ds : List D} (hl : ds.length = f.k) (n : Nat) (st : Sto) :
    callN F (n + 1) x ds st = (f.body (callN F n) (startE f.n ds) st).bind kFn := by
  show (F x).bind (fun f => runFn f (callN F n) ds st) = _
  rw [h]
  show runFn f (callN F n) ds st = _
  unfold runFn
  rw [if_pos hl]
  rfl
theorem e_kfnR {d : D} {s : Sto} : kFn (.rt d, s) = some (d, s) := rfl
structure Dr where
  cells : List Int
  turn : Int
  rests : List Int
def mkSt (s : Dr) (o : Sto) : Sto := s.rests.map D.int :: [.lst (s.cells.map D.int), .int s.turn, .loc 0] :: o
/-- b more draws may be made -/
structure DOk (s : Dr) (b : Int) : Prop where
  pos : 0 < s.cells.length
  len : s.rests.length = s.cells.length
  t0 : 0 ≤ s.turn
  t1 : s.turn + b ≤ 10000000
section
variable {s : Dr} {o : Sto} {env : En}
theorem gt_drawn {f : DGs} : gT 3 f (.loc 1) env (mkSt s o) = f [.lst (s.cells.map D.int), .int s.turn, .loc 0] env (mkSt s o) := rfl
theorem set_turn {t : Int} : setC (mkSt s o) (.loc 1) (.int 1) (.int t) = some (mkSt ⟨s.cells, t, s.rests⟩ o) := rfl
theorem set_rests {k v : Int} (h0 : 0 ≤ k) (h : k < s.rests.length) : setC (mkSt s o) (.loc 0) (.int k) (.int v) = some (mkSt ⟨s.cells, s.turn, s.rests.set k.toNat v⟩ o) := by
  show (ixN (s.rests.map D.int).length k).map _ = _
  unfold ixN
  rw [if_pos h0, if_pos (by rw [List.length_map]; exact h)]
  simp only [Option.map_some, mkSt, List.set_cons_zero]
  rw [← List.map_set]
theorem at_int {xs : List Int} {k : Int} (h0 : 0 ≤ k) (h : k < xs.length) : ∃ v, v ∈ xs ∧ atI (xs.map D.int) k = some (.int v) := by
  obtain ⟨x, hx, e, e2⟩ := atI_in xs h0 h
  refine ⟨x, hx, ?_⟩
  have e3 : atI (xs.map D.int) ((k.toNat : Nat) : Int) = some (.int x) := atI_nat (by rw [List.getElem?_map, e2]; rfl)
  rwa [Int.toNat_of_nonneg h0] at e3
end
theorem mul_nat {a b : Int} (h : a.natAbs < 2 ^ 64) : mulOk a b = true := by
  unfold mulOk
  rw [decide_eq_true h]
  rfl
theorem mulOk_l {a b : Int} (h0 : -18446744073709551616 < a) (h1 : a < 18446744073709551616) : mulOk a b = true := by
  apply mul_nat
  have e : (2 : Nat) ^ 64 = 18446744073709551616 := by decide
  rw [e]
  omega
theorem o_pow3 {s : Sto} {i : Int} (h0 : 0 ≤ i) (h : i < 18446744073709551616) : oPow s (.int i) (.int 3) = some (.int (i ^ 3)) := by
  have e : (2 : Nat) ^ 64 = 18446744073709551616 := by decide
  show (if powOk i 3 then _ else _) = _
  unfold powOk
  rw [decide_eq_true (by decide : (0 : Int) ≤ 3), decide_eq_true (by decide : (3 : Int) ≤ 1000000), decide_eq_true (by rw [e]; omega)]
  rfl
set_option maxHeartbeats 8000000 in
theorem next_spec {F : String → Option Fn} (hF : F "_law_next" = some ⟨2, 9, b_l_next⟩) (n : Nat) {s : Dr} {b : Int} (hs : DOk s (b + 1)) (hb : 0 ≤ b) (o : Sto) {many : Int} (hm : 0 < many) (hm2 : many < 18446744073709551616) :
    ∃ r s', callN F (n + 1) "_law_next" [.loc 1, .int many] (mkSt s o) = some (.int r, mkSt s' o) ∧ 0 ≤ r ∧ r < many ∧ DOk s' b := by
  obtain ⟨h1, h2, h3, h4⟩ := hs
  rw [call_eq hF rfl]
  have hl : (0 : Int) < (s.cells.length : Int) := by omega
  have k0 : 0 ≤ s.turn % (s.cells.length : Int) := Int.emod_nonneg _ (by omega)
  have k1 : s.turn % (s.cells.length : Int) < s.cells.length := Int.emod_lt_of_pos _ hl
  obtain ⟨v, hv, ev⟩ := at_int (xs := s.rests) k0 (by rw [h2]; exact k1)
  obtain ⟨c, hc, ec⟩ := at_int (xs := s.cells) k0 k1
  have e0 : startE 9 [.loc 1, .int many] = [some (.loc 1), some (.int many), none, none, none, none, none, none, none] := rfl
  simp only [e0, b_l_next]
  have m1 : (c % 2147483629 + 39119 * s.turn + 9901) < 18446744073709551616 := by
    have := Int.emod_lt_of_pos c (by decide : (0 : Int) < 2147483629)
    omega
  have m0 : 0 ≤ (c % 2147483629 + 39119 * s.turn + 9901) := by
    have := Int.emod_nonneg c (by decide : (2147483629 : Int) ≠ 0)
    omega
  have i1 : oIx (mkSt ⟨s.cells, s.turn + 1, s.rests⟩ o) (.loc 0) (.int (s.turn % (s.cells.length : Int))) = some (.int v) := ev
  by_cases hv0 : 0 < v
  · have sr := set_rests (s := ⟨s.cells, s.turn + 1, s.rests⟩) (o := o) (v := v / many) k0 (show s.turn % (s.cells.length : Int) < ((s.rests.length : Nat) : Int) by rw [h2]; exact k1)
    repeat (first | walk_at "ev" | simp only [gt_drawn, o_mod hl, set_turn, i1, decide_eq_true hv0, o_mod hm, o_div hm hm2, sr, e_kfnR])
    refine ⟨_, _, rfl, Int.emod_nonneg _ (by omega), Int.emod_lt_of_pos _ hm, h1, ?_, ?_, ?_⟩
    · show (s.rests.set _ _).length = _
      rw [List.length_set]
      exact h2
    · show 0 ≤ s.turn + 1
      omega
    · show s.turn + 1 + b ≤ _
      omega
  · have p1 : mulOk 39119 s.turn = true := mulOk_l (by decide) (by decide)
    have p2 : mulOk 7001 s.turn = true := mulOk_l (by decide) (by decide)
    have p3 : mulOk (7001 * s.turn) s.turn = true := mulOk_l (by omega) (by omega)
    have M0 := Int.emod_nonneg ((c % 2147483629 + 39119 * s.turn + 9901) ^ 3) (by decide : (2147483587 : Int) ≠ 0)
    have M1 := Int.emod_lt_of_pos ((c % 2147483629 + 39119 * s.turn + 9901) ^ 3) (by decide : (0 : Int) < 2147483587)
    generalize hM : (c % 2147483629 + 39119 * s.turn + 9901) ^ 3 % 2147483587 = M at M0 M1
    have t2 : 0 ≤ 7001 * s.turn * s.turn ∧ 7001 * s.turn * s.turn ≤ 7001 * 10000000 * 10000000 := by
      have a1 : 7001 * s.turn ≤ 7001 * 10000000 := by omega
      have a0 : 0 ≤ 7001 * s.turn := by omega
      exact ⟨Int.mul_nonneg a0 h3, Int.mul_le_mul a1 (by omega) h3 (by omega)⟩
    have q0 : 0 ≤ M + 7001 * s.turn * s.turn + 41 := by omega
    have q1 : M + 7001 * s.turn * s.turn + 41 < 18446744073709551616 := by omega
    have G0 := Int.emod_nonneg ((M + 7001 * s.turn * s.turn + 41) ^ 3) (by decide : (2147483563 : Int) ≠ 0)
    have G1 := Int.emod_lt_of_pos ((M + 7001 * s.turn * s.turn + 41) ^ 3) (by decide : (0 : Int) < 2147483563)
    have p4 : mulOk ((M + 7001 * s.turn * s.turn + 41) ^ 3 % 2147483563) 2147483423 = true := mulOk_l (by omega) (by omega)
    repeat (first | walk_at "ev" | simp only [gt_drawn, o_mod hl, set_turn, i1, decide_eq_false hv0, ec, o_mod hm, o_mod (show (0 : Int) < 2147483629 by decide), o_mod (show (0 : Int) < 2147483587 by decide), o_mod (show (0 : Int) < 2147483563 by decide), o_mod (show (0 : Int) < 4611686018427387847 by decide), o_mul p1, o_mul p2, o_mul p3, o_mul p4, o_pow3 m0 m1, o_pow3 q0 q1, hM, e_kfnR])
    refine ⟨_, _, rfl, Int.emod_nonneg _ (by omega), Int.emod_lt_of_pos _ hm, h1, h2, ?_, ?_⟩
    · show 0 ≤ s.turn + 1
      omega
    · show s.turn + 1 + b ≤ _
      omega
/-- the next draw, as a caller of any level sees it -/
structure Draws (C : Orc) : Prop where
  nx : ∀ (s : Dr) (b : Int) (o : Sto) (many : Int), DOk s (b + 1) → 0 ≤ b → 0 < many → many < 18446744073709551616 → ∃ r s', C "_law_next" [.loc 1, .int many] (mkSt s o) = some (.int r, mkSt s' o) ∧ 0 ≤ r ∧ r < many ∧ DOk s' b
theorem draws_of {F : String → Option Fn} (hF : F "_law_next" = some ⟨2, 9, b_l_next⟩) (n : Nat) : Draws (callN F (n + 1)) := ⟨fun s b o many h1 h2 h3 h4 => next_spec hF n h1 h2 o h3 h4⟩
theorem DOk.mono {s : Dr} {a b : Int} (h : DOk s a) (hb : b ≤ a) : DOk s b := ⟨h.pos, h.len, h.t0, by have := h.t1; omega⟩
theorem at_list {xs : List D} {k : Int} {n : Int} (h0 : 0 ≤ k) (h : k < n) (hn : n = xs.length) : ∃ x, x ∈ xs ∧ atI xs k = some x := by
  obtain ⟨x, a, b, _⟩ := atI_in xs h0 (by omega)
  exact ⟨x, a, b⟩
set_option maxHeartbeats 8000000 in
theorem amount_spec {F : String → Option Fn} (hN : F "_law_next" = some ⟨2, 9, b_l_next⟩) (hF : F "_law_amount" = some ⟨2, 3, b_l_amount⟩) (n : Nat) {s : Dr} {b : Int} (hs : DOk s (b + 3)) (hb : 0 ≤ b) (o : Sto) {size : Int} (h0 : 0 ≤ size) (h1 : size < 10000000000000) :
    ∃ r s', callN F (n + 2) "_law_amount" [.loc 1, .int size] (mkSt s o) = some (.int r, mkSt s' o) ∧ 0 ≤ r ∧ r ≤ size ∧ DOk s' b := by
  have dr := draws_of hN n
  rw [call_eq hF rfl]
  have e0 : startE 3 [.loc 1, .int size] = [some (.loc 1), some (.int size), none] := rfl
  simp only [e0, b_l_amount]
  obtain ⟨f, s1, k1, f0, f1, d1⟩ := dr.nx s (b + 2) o (min size 3 + 1) (hs.mono (by omega)) (by omega) (by omega) (by omega)
  obtain ⟨t, s2, k2, t0, t1, d2⟩ := dr.nx s1 (b + 1) o (size + 1) (d1.mono (by omega)) (by omega) (by omega) (by omega)
  obtain ⟨i, s3, k3, i0, i1, d3⟩ := dr.nx s2 b o 3 d2 hb (by omega) (by omega)
  obtain ⟨x, hx, ex⟩ := at_list (xs := [D.int f, .int (size - f), .int t]) (n := 3) i0 i1 rfl
  repeat (first | walk_at "ev" | simp only [k1, k2, k3, ex, e_kfnR])
  simp only [List.mem_cons, List.not_mem_nil, or_false] at hx
  rcases hx with rfl | rfl | rfl
  · exact ⟨_, _, rfl, f0, by omega, d3⟩
  · exact ⟨_, _, rfl, by omega, by omega, d3⟩
  · exact ⟨_, _, rfl, t0, by omega, d3⟩
structure Amounts (C : Orc) : Prop where
  am : ∀ (s : Dr) (b : Int) (o : Sto) (size : Int), DOk s (b + 3) → 0 ≤ b → 0 ≤ size → size < 10000000000000 → ∃ r s', C "_law_amount" [.loc 1, .int size] (mkSt s o) = some (.int r, mkSt s' o) ∧ 0 ≤ r ∧ r ≤ size ∧ DOk s' b
theorem amounts_of {F : String → Option Fn} (hN : F "_law_next" = some ⟨2, 9, b_l_next⟩) (hF : F "_law_amount" = some ⟨2, 3, b_l_amount⟩) (n : Nat) : Amounts (callN F (n + 2)) := ⟨fun s b o size h1 h2 h3 h4 => amount_spec hN hF n h1 h2 o h3 h4⟩
set_option maxHeartbeats 8000000 in
theorem pair_spec {F : String → Option Fn} (hN : F "_law_next" = some ⟨2, 9, b_l_next⟩) (hF : F "_law_pair" = some ⟨2, 3, b_l_pair⟩) (n : Nat) {s : Dr} {b : Int} (hs : DOk s (b + 2)) (hb : 0 ≤ b) (o : Sto) {c : Int} (h0 : 1 < c) (h1 : c < 1000) :
    ∃ i j s', callN F (n + 2) "_law_pair" [.loc 1, .int c] (mkSt s o) = some (.tup [.int i, .int j], mkSt s' o) ∧ 0 ≤ i ∧ i < c ∧ 0 ≤ j ∧ j < c ∧ i ≠ j ∧ DOk s' b := by
  have dr := draws_of hN n
  rw [call_eq hF rfl]
  have e0 : startE 3 [.loc 1, .int c] = [some (.loc 1), some (.int c), none] := rfl
  simp only [e0, b_l_pair]
  obtain ⟨i, s1, k1, i0, i1, d1⟩ := dr.nx s (b + 1) o c (hs.mono (by omega)) (by omega) (by omega) (by omega)
  obtain ⟨t, s2, k2, t0, t1, d2⟩ := dr.nx s1 b o (c - 1) d1 hb (by omega) (by omega)
  repeat (first | walk_at "ev" | simp only [k1, k2, o_mod (show 0 < c by omega), e_kfnR])
  refine ⟨_, _, _, rfl, i0, i1, Int.emod_nonneg _ (by omega), Int.emod_lt_of_pos _ (by omega), ?_, d2⟩
  intro e
  by_cases hc : i + 1 + t < c
  · rw [Int.emod_eq_of_lt (by omega) hc] at e
    omega
  · have e2 : (i + 1 + t) % c = i + 1 + t - c := by
      rw [← Int.sub_emod_right, Int.emod_eq_of_lt (by omega) (by omega)]
    rw [e2] at e
    omega
structure Pairs (C : Orc) : Prop where
  pr : ∀ (s : Dr) (b : Int) (o : Sto) (c : Int), DOk s (b + 2) → 0 ≤ b → 1 < c → c < 1000 → ∃ i j s', C "_law_pair" [.loc 1, .int c] (mkSt s o) = some (.tup [.int i, .int j], mkSt s' o) ∧ 0 ≤ i ∧ i < c ∧ 0 ≤ j ∧ j < c ∧ i ≠ j ∧ DOk s' b
theorem pairs_of {F : String → Option Fn} (hN : F "_law_next" = some ⟨2, 9, b_l_next⟩) (hF : F "_law_pair" = some ⟨2, 3, b_l_pair⟩) (n : Nat) : Pairs (callN F (n + 2)) := ⟨fun s b o c h1 h2 h3 h4 => pair_spec hN hF n h1 h2 o h3 h4⟩
/-- what a cell of 10 ** 18 or more leaves -/
def restOf (c : Int) : Int := c * (if decide (1000000000000000000 ≤ c) then 1 else 0)
set_option maxHeartbeats 8000000 in
theorem draws_spec {F : String → Option Fn} (hF : F "_law_draws" = some ⟨1, 3, b_l_draws⟩) (n : Nat) (ns : List Int) (hl : ns.length ≤ 63) :
    ∃ s, callN F (n + 1) "_law_draws" [.scr (ns.map D.int)] [] = some (.loc 1, mkSt s []) ∧ DOk s 10000000 := by
  rw [call_eq hF rfl]
  have e0 : startE 3 [.scr (ns.map D.int)] = [some (.scr (ns.map D.int)), none, none] := rfl
  simp only [e0, b_l_draws]
  have e1 : sliceD [] none (some 63) (.scr (ns.map D.int)) = some (.lst (ns.map D.int)) := by
    show some (D.lst (cutD (ns.map D.int) none (some 63))) = _
    unfold cutD
    rw [HT.sIx_none, show (some (63 : Int)) = some ((63 : Nat) : Int) from rfl, HT.sIx_nat, List.drop_zero, List.length_map, List.take_of_length_le (by rw [List.length_map]; omega)]
  have e2 : gList [] [.lst (ns.map D.int)] = some (.lst (ns.map D.int)) := rfl
  have e3 : ∃ cs : List Int, 0 < cs.length ∧ (oMul [] (.lst [.int 0]) (.int (if decide ((ns.length : Int) = 0) then 1 else 0))).bind (fun d => oAdd [] (.lst (ns.map D.int)) d) = some (.lst (cs.map D.int)) := by
    cases ns with
    | nil => exact ⟨[0], by decide, rfl⟩
    | cons a t =>
      refine ⟨a :: t, by simp, ?_⟩
      have hne : ¬ (((a :: t).length : Int) = 0) := by
        rw [List.length_cons]
        omega
      rw [decide_eq_false hne]
      show oAdd [] (.lst ((a :: t).map D.int)) (.lst []) = _
      show (if fits (((a :: t).map D.int).length + 0) then some (D.lst ((a :: t).map D.int ++ [])) else none) = _
      rw [List.append_nil, List.length_map]
      unfold fits
      rw [decide_eq_true (by omega)]
      rfl
  obtain ⟨cs, hcs, e3⟩ := e3
  obtain ⟨dz, e4, e5⟩ := Option.bind_eq_some_iff.mp e3
  have e6 : ∀ {env : En}, lcL always (gN 2) bYes (eOp oMul (eVar 2) (eBlt gInt (aCons (eOp oGe (eVar 2) (eOp oPow (eC (.int 10)) (eC (.int 18)))) aNil))) [some (D.scr (ns.map D.int)), some (.lst (cs.map D.int)), none] (cs.map D.int) [] = some ((cs.map restOf).map D.int, []) := by
    intro env
    have := lc_pure (tg := gN 2) (ifs := bYes) (elt := eOp oMul (eVar 2) (eBlt gInt (aCons (eOp oGe (eVar 2) (eOp oPow (eC (.int 10)) (eC (.int 18)))) aNil))) (env := [some (D.scr (ns.map D.int)), some (.lst (cs.map D.int)), none]) (s := []) (fun d => match d with | .int c => .int (restOf c) | d => d) (cs.map D.int) (by
      intro d hd
      obtain ⟨c, _, rfl⟩ := List.mem_map.mp hd
      refine ⟨_, rfl, rfl, ?_⟩
      have hp : oPow [] (.int 10) (.int 18) = some (.int 1000000000000000000) := by rfl
      have hm : mulOk c (if decide (1000000000000000000 ≤ c) = true then 1 else 0) = true := by
        unfold mulOk
        rw [show decide ((if decide (1000000000000000000 ≤ c) = true then (1 : Int) else 0).natAbs < 2 ^ 64) = true by split <;> decide]
        exact Bool.or_true _
      repeat (first | walk_at "ev" | simp only [hp, o_mul hm])
      rfl)
    rw [this, List.map_map, List.map_map]
    rfl
  repeat (first | walk_at "ev" | simp only [e1, e2, e4, e5, e6 (env := []), e_kfnR])
  refine ⟨⟨cs, 0, cs.map restOf⟩, rfl, hcs, ?_, Int.le_refl _, by show (0 : Int) + _ ≤ _; omega⟩
  show (cs.map restOf).length = cs.length
  rw [List.length_map]
end Tg
namespace Tg
open PySem PySem.Spec PyProof.Rows L2
noncomputable def b_l_rig_f2 (C : Orc) : DS := (sSeq (sAsg (eCall C "_law_pair" (aCons (eVar 0) (aCons (eVar 3) aNil))) (gT 2 (gsCons (gN 14) (gsCons (gN 15) gsNil))))
    (sSeq (sAsg (eOp oSub (eOp oAdd (eOp oSub (eOp oIx (eVar 6) (eVar 15)) (eOp oIx (eVar 6) (eVar 14))) (eCall C "_law_next" (aCons (eVar 0) (aCons (eC (.int 5)) aNil)))) (eC (.int 2))) (gN 16))
    (sSeq (sExpr (eAppend (eVar 12) (eTup (aCons (eVar 14) (aCons (eVar 15) (aCons (eVar 16) (aCons (eOp oAdd (eC (.int 1)) (eCall C "_law_amount" (aCons (eVar 0) (aCons (eOp oSub (eVar 4) (eC (.int 1))) aNil)))) aNil)))))))
    sNil)))
noncomputable def b_l_rig_f3 (C : Orc) : DS := (sSeq (sAsg (eCall C "_law_pair" (aCons (eVar 0) (aCons (eVar 3) aNil))) (gT 2 (gsCons (gN 14) (gsCons (gN 15) gsNil))))
    (sSeq (sExpr (eAppend (eVar 13) (eTup (aCons (eVar 14) (aCons (eVar 15) (aCons (eOp oAdd (eOp oSub (eOp oIx (eVar 6) (eVar 15)) (eOp oIx (eVar 6) (eVar 14))) (eCall C "_law_amount" (aCons (eVar 0) (aCons (eC (.int 2)) aNil)))) aNil))))))
    sNil))
structure Ring where
  lo : Int
  hi : Int
  ld : Int
structure Cord where
  a : Int
  b : Int
  len : Int
  w : Int
structure Bar where
  a : Int
  b : Int
  len : Int
def ringD (r : Ring) : D := .tup [.int r.lo, .int r.hi, .int r.ld]
def cordD (c : Cord) : D := .tup [.int c.a, .int c.b, .int c.len, .int c.w]
def barD (c : Bar) : D := .tup [.int c.a, .int c.b, .int c.len]
/-- a ring with its place, the cords and bars -/
structure Rig where
  qs : List (Ring × Int)
  cords : List Cord
  bars : List Bar
def Rig.rings (R : Rig) : List Ring := R.qs.map (·.1)
def Rig.ps (R : Rig) : List Int := R.qs.map (·.2)
def Rig.d (R : Rig) : D := .tup [.tup (R.rings.map ringD), .tup (R.cords.map cordD), .tup (R.bars.map barD)]
def Rig.pd (R : Rig) : D := .tup (R.ps.map D.int)
def QOk (size : Int) (q : Ring × Int) : Prop := q.1.lo ≤ q.2 ∧ q.2 ≤ q.1.hi ∧ -1000000000000 ≤ q.1.lo ∧ q.1.hi ≤ 1000000000000 ∧ -1000000000 ≤ q.1.ld ∧ q.1.ld ≤ 1000000000
def CordOk (n : Nat) (c : Cord) : Prop := 0 ≤ c.a ∧ c.a < n ∧ 0 ≤ c.b ∧ c.b < n ∧ c.a ≠ c.b ∧ -2000000000000 ≤ c.len ∧ c.len ≤ 2000000000000 ∧ 1 ≤ c.w ∧ c.w ≤ 1000000000
def BarOk (ps : List Int) (c : Bar) : Prop := 0 ≤ c.a ∧ c.a < ps.length ∧ 0 ≤ c.b ∧ c.b < ps.length ∧ c.a ≠ c.b ∧ -2000000000000 ≤ c.len ∧ c.len ≤ 2000000000000 ∧ ∃ x y, ps[c.a.toNat]? = some x ∧ ps[c.b.toNat]? = some y ∧ y - x ≤ c.len
structure RigOk (most : Int) (R : Rig) : Prop where
  n1 : 1 ≤ R.qs.length
  n2 : (R.qs.length : Int) ≤ most
  q : ∀ q ∈ R.qs, QOk 0 q
  c1 : R.cords.length ≤ 12
  c2 : ∀ c ∈ R.cords, CordOk R.qs.length c
  b1 : R.bars.length ≤ 8
  b2 : ∀ c ∈ R.bars, BarOk R.ps c
section
variable {s : Dr} {o l : Sto} {d : D}
theorem mk_len : (mkSt s o).length = o.length + 2 := rfl
theorem mk_app {c : List D} : mkSt s o ++ [c] = mkSt s (o ++ [c]) := rfl
theorem mk_get {n k : Nat} (hn : n = o.length + 2 + k) : (mkSt s (o ++ l))[n]? = l[k]? := by
  have : n = (o.length + k) + 2 := by omega
  subst this
  show (o ++ l)[o.length + k]? = _
  rw [List.getElem?_append_right (by omega), Nat.add_sub_cancel_left]
theorem mk_set {n k : Nat} {c : List D} (hn : n = o.length + 2 + k) : (mkSt s (o ++ l)).set n c = mkSt s (o ++ l.set k c) := by
  have : n = (o.length + k) + 2 := by omega
  subst this
  show _ :: _ :: (o ++ l).set (o.length + k) c = _
  rw [List.set_append_right _ _ (by omega), Nat.add_sub_cancel_left]
  rfl
theorem app_at {n k : Nat} {a : List D} (hn : n = o.length + 2 + k) (ha : l[k]? = some a) (hf : fits a.length = true) :
    kApp2 (.loc n) (d, mkSt s (o ++ l)) = some (.non, mkSt s (o ++ l.set k (a ++ [d]))) := by
  show ((mkSt s (o ++ l))[n]?).bind _ = _
  rw [mk_get hn, ha]
  show (if fits a.length then _ else _) = _
  rw [hf, if_pos rfl, mk_set hn]
theorem tup_at {n k : Nat} {a : List D} (hn : n = o.length + 2 + k) (ha : l[k]? = some a) : gTuple (mkSt s (o ++ l)) [.loc n] = some (.tup a) := by
  show ((mkSt s (o ++ l))[n]?).map D.tup = _
  rw [mk_get hn, ha]
  rfl
theorem ix_at {n k : Nat} {a : List D} {i : Int} (hn : n = o.length + 2 + k) (ha : l[k]? = some a) : oIx (mkSt s (o ++ l)) (.loc n) (.int i) = atI a i := by
  show ((mkSt s (o ++ l))[n]?).bind _ = _
  rw [mk_get hn, ha]
  rfl
end
theorem len1 {α : Type} (l : List α) (x : α) : (l ++ [x]).length = l.length + 1 := by simp
theorem fits_small {n : Nat} (h : n ≤ 1000) : fits n = true := decide_eq_true (by omega)
def plD (qs : List (Ring × Int)) : List D := qs.map fun q => D.int q.2
def rgD (qs : List (Ring × Int)) : List D := qs.map fun q => ringD q.1
theorem plD_len (qs : List (Ring × Int)) : (plD qs).length = qs.length := List.length_map ..
theorem rgD_len (qs : List (Ring × Int)) : (rgD qs).length = qs.length := List.length_map ..
theorem plD_app (qs : List (Ring × Int)) (q : Ring × Int) : plD (qs ++ [q]) = plD qs ++ [.int q.2] := by simp [plD]
theorem rgD_app (qs : List (Ring × Int)) (q : Ring × Int) : rgD (qs ++ [q]) = rgD qs ++ [ringD q.1] := by simp [rgD]
/-- the rings -/
def rigP1 (o : Sto) (b most size count heavy shift : Int) (ds : List D) (env : En) (st : Sto) : Prop := ∃ (s : Dr) (qs : List (Ring × Int)) (v8 v9 v10 v11 : Option D),
  env = [some (.loc 1), some (.int most), some (.int size), some (.int count), some (.int heavy), some (.int shift), some (.loc (o.length + 2)), some (.loc (o.length + 3)), v8, v9, v10, v11, none, none, none, none, none] ∧
  st = mkSt s (o ++ [plD qs, rgD qs]) ∧ DOk s (b + 12 * ds.length) ∧ (qs.length : Int) + ds.length = count ∧ (∀ q ∈ qs, QOk 0 q ∧ shift ≤ q.2 ∧ q.2 ≤ shift + size ∧ q.1.hi - q.1.lo ≤ 2 * size)
def csD (cs : List Cord) : List D := cs.map cordD
def bsD (cs : List Bar) : List D := cs.map barD
theorem csD_len (cs : List Cord) : (csD cs).length = cs.length := List.length_map ..
theorem bsD_len (cs : List Bar) : (bsD cs).length = cs.length := List.length_map ..
theorem csD_app (cs : List Cord) (c : Cord) : csD (cs ++ [c]) = csD cs ++ [cordD c] := by simp [csD]
theorem bsD_app (cs : List Bar) (c : Bar) : bsD (cs ++ [c]) = bsD cs ++ [barD c] := by simp [bsD]
theorem plD_at {qs : List (Ring × Int)} {i : Int} (h0 : 0 ≤ i) (h : i < qs.length) : ∃ q, q ∈ qs ∧ qs[i.toNat]? = some q ∧ atI (plD qs) i = some (.int q.2) := by
  obtain ⟨q, a, _, b⟩ := atI_in qs h0 h
  refine ⟨q, a, b, ?_⟩
  have e : atI (plD qs) ((i.toNat : Nat) : Int) = some (.int q.2) := atI_nat (by unfold plD; rw [List.getElem?_map, b]; rfl)
  rwa [Int.toNat_of_nonneg h0] at e
/-- the cords -/
def rigP2 (o : Sto) (qs : List (Ring × Int)) (b most size count heavy shift : Int) (ds : List D) (env : En) (st : Sto) : Prop := ∃ (s : Dr) (cs : List Cord) (v8 v9 v10 v11 v14 v15 v16 : Option D),
  env = [some (.loc 1), some (.int most), some (.int size), some (.int count), some (.int heavy), some (.int shift), some (.loc (o.length + 2)), some (.loc (o.length + 3)), v8, v9, v10, v11, some (.loc (o.length + 4)), some (.loc (o.length + 5)), v14, v15, v16] ∧
  st = mkSt s (o ++ [plD qs, rgD qs, csD cs, []]) ∧ DOk s (b + 6 * ds.length) ∧ cs.length + ds.length ≤ 12 ∧ (∀ c ∈ cs, CordOk qs.length c)
set_option maxHeartbeats 8000000 in
theorem rig_f2 {C : Orc} (dr : Draws C) (am : Amounts C) (pr : Pairs C) {o : Sto} {qs : List (Ring × Int)} {b most size count heavy shift : Int} (hb : 0 ≤ b) (h0 : 0 ≤ size) (h1 : size ≤ 1000000000000) (hc0 : 1 < count) (hc : count ≤ 8) (hcq : (qs.length : Int) = count) (hh : 1 ≤ heavy) (hh2 : heavy ≤ 1000000000)
    (hq : ∀ q ∈ qs, shift ≤ q.2 ∧ q.2 ≤ shift + size) (d : D) (ds : List D) (env : En) (st : Sto) (h : rigP2 o qs b most size count heavy shift (d :: ds) env st) :
    ∃ e s, gN 8 d env st = some (e, s) ∧ ∃ e2 s2, b_l_rig_f2 C e s = some (.nx e2, s2) ∧ rigP2 o qs b most size count heavy shift ds e2 s2 := by
  obtain ⟨s, cs, v8, v9, v10, v11, v14, v15, v16, rfl, rfl, hd, hl, hcs⟩ := h
  rw [List.length_cons] at hd hl
  refine ⟨_, _, rfl, ?_⟩
  obtain ⟨i, j, s1, k1, i0, i1, j0, j1, hij, d1⟩ := pr.pr s (b + 6 * ds.length + 4) (o ++ [plD qs, rgD qs, csD cs, []]) count (hd.mono (by omega)) (by omega) hc0 (by omega)
  obtain ⟨r, s2, k2, r0, r1, d2⟩ := dr.nx s1 (b + 6 * ds.length + 3) (o ++ [plD qs, rgD qs, csD cs, []]) 5 (d1.mono (by omega)) (by omega) (by omega) (by omega)
  obtain ⟨w, s3, k3, w0, w1, d3⟩ := am.am s2 (b + 6 * ds.length) (o ++ [plD qs, rgD qs, csD cs, []]) (heavy - 1) (d2.mono (by omega)) (by omega) (by omega) (by omega)
  obtain ⟨qi, mi, gi, ai⟩ := plD_at (qs := qs) i0 (by omega)
  obtain ⟨qj, mj, gj, aj⟩ := plD_at (qs := qs) j0 (by omega)
  have xi := (ix_at (s := s1) (o := o) (l := [plD qs, rgD qs, csD cs, []]) (i := i) (n := o.length + 2) (k := 0) rfl rfl).trans ai
  have xj := (ix_at (s := s1) (o := o) (l := [plD qs, rgD qs, csD cs, []]) (i := j) (n := o.length + 2) (k := 0) rfl rfl).trans aj
  have a1 := fun dd : D => app_at (s := s3) (o := o) (l := [plD qs, rgD qs, csD cs, []]) (d := dd) (n := o.length + 4) (k := 2) rfl rfl (fits_small (by rw [csD_len]; omega))
  have hqi := hq qi mi
  have hqj := hq qj mj
  simp only [List.set_cons_zero, List.set_cons_succ] at a1
  simp only [b_l_rig_f2]
  repeat (first | walk_at "ev" | simp only [k1, k2, k3, a1, xi, xj, e_gtT, if_true, reduceIte, Nat.reduceAdd])
  refine ⟨_, _, rfl, s3, cs ++ [⟨i, j, qj.2 - qi.2 + r - 2, 1 + w⟩], _, _, _, _, _, _, _, rfl, ?_, d3, ?_, ?_⟩
  · rw [csD_app]
    rfl
  · rw [len1]
    omega
  · intro c hc2
    rcases List.mem_append.mp hc2 with hc2 | hc2
    · exact hcs c hc2
    · rw [List.mem_singleton.mp hc2]
      refine ⟨i0, ?_, j0, ?_, hij, ?_, ?_, ?_, ?_⟩ <;> simp only [] <;> omega
/-- the bars -/
def rigP3 (o : Sto) (qs : List (Ring × Int)) (cs : List Cord) (b most size count heavy shift : Int) (ds : List D) (env : En) (st : Sto) : Prop := ∃ (s : Dr) (bs : List Bar) (v8 v9 v10 v11 v14 v15 v16 : Option D),
  env = [some (.loc 1), some (.int most), some (.int size), some (.int count), some (.int heavy), some (.int shift), some (.loc (o.length + 2)), some (.loc (o.length + 3)), v8, v9, v10, v11, some (.loc (o.length + 4)), some (.loc (o.length + 5)), v14, v15, v16] ∧
  st = mkSt s (o ++ [plD qs, rgD qs, csD cs, bsD bs]) ∧ DOk s (b + 5 * ds.length) ∧ bs.length + ds.length ≤ 8 ∧ (∀ c ∈ bs, BarOk (qs.map (·.2)) c)
set_option maxHeartbeats 8000000 in
theorem rig_f3 {C : Orc} (dr : Draws C) (am : Amounts C) (pr : Pairs C) {o : Sto} {qs : List (Ring × Int)} {cs : List Cord} {b most size count heavy shift : Int} (hb : 0 ≤ b) (h0 : 0 ≤ size) (h1 : size ≤ 1000000000000) (hc0 : 1 < count) (hc : count ≤ 8) (hcq : (qs.length : Int) = count)
    (hq : ∀ q ∈ qs, shift ≤ q.2 ∧ q.2 ≤ shift + size) (d : D) (ds : List D) (env : En) (st : Sto) (h : rigP3 o qs cs b most size count heavy shift (d :: ds) env st) :
    ∃ e s, gN 8 d env st = some (e, s) ∧ ∃ e2 s2, b_l_rig_f3 C e s = some (.nx e2, s2) ∧ rigP3 o qs cs b most size count heavy shift ds e2 s2 := by
  obtain ⟨s, bs, v8, v9, v10, v11, v14, v15, v16, rfl, rfl, hd, hl, hcs⟩ := h
  rw [List.length_cons] at hd hl
  refine ⟨_, _, rfl, ?_⟩
  obtain ⟨i, j, s1, k1, i0, i1, j0, j1, hij, d1⟩ := pr.pr s (b + 5 * ds.length + 3) (o ++ [plD qs, rgD qs, csD cs, bsD bs]) count (hd.mono (by omega)) (by omega) hc0 (by omega)
  obtain ⟨w, s3, k3, w0, w1, d3⟩ := am.am s1 (b + 5 * ds.length) (o ++ [plD qs, rgD qs, csD cs, bsD bs]) 2 (d1.mono (by omega)) (by omega) (by omega) (by omega)
  obtain ⟨qi, mi, gi, ai⟩ := plD_at (qs := qs) i0 (by omega)
  obtain ⟨qj, mj, gj, aj⟩ := plD_at (qs := qs) j0 (by omega)
  have xi := (ix_at (s := s1) (o := o) (l := [plD qs, rgD qs, csD cs, bsD bs]) (i := i) (n := o.length + 2) (k := 0) rfl rfl).trans ai
  have xj := (ix_at (s := s1) (o := o) (l := [plD qs, rgD qs, csD cs, bsD bs]) (i := j) (n := o.length + 2) (k := 0) rfl rfl).trans aj
  have a1 := fun dd : D => app_at (s := s3) (o := o) (l := [plD qs, rgD qs, csD cs, bsD bs]) (d := dd) (n := o.length + 5) (k := 3) rfl rfl (fits_small (by rw [bsD_len]; omega))
  have hqi := hq qi mi
  have hqj := hq qj mj
  simp only [List.set_cons_zero, List.set_cons_succ] at a1
  simp only [b_l_rig_f3]
  repeat (first | walk_at "ev" | simp only [k1, k3, a1, xi, xj, e_gtT, if_true, reduceIte, Nat.reduceAdd])
  refine ⟨_, _, rfl, s3, bs ++ [⟨i, j, qj.2 - qi.2 + w⟩], _, _, _, _, _, _, _, rfl, ?_, d3, ?_, ?_⟩
  · rw [bsD_app]
    rfl
  · rw [len1]
    omega
  · intro c hc2
    rcases List.mem_append.mp hc2 with hc2 | hc2
    · exact hcs c hc2
    · rw [List.mem_singleton.mp hc2]
      refine ⟨i0, ?_, j0, ?_, hij, ?_, ?_, qi.2, qj.2, ?_, ?_, ?_⟩
      · rw [List.length_map]; simp only []; omega
      · rw [List.length_map]; simp only []; omega
      · simp only []; omega
      · simp only []; omega
      · rw [List.getElem?_map]; simp only []; rw [gi]; rfl
      · rw [List.getElem?_map]; simp only []; rw [gj]; rfl
      · simp only []; omega
structure Rigs (C : Orc) : Prop where
  sp : ∀ (s : Dr) (b : Int) (o : Sto) (most size : Int), DOk s (b + 300) → 0 ≤ b → 1 ≤ most → most ≤ 8 → 0 ≤ size → size ≤ 1000000000000 → ∃ R s' g, C "_law_rig" [.loc 1, .int most, .int size] (mkSt s o) = some (.lst [R.d, R.pd], mkSt s' (o ++ g)) ∧ (RigOk most R ∧ ∀ q ∈ R.qs, q.1.hi - q.1.lo ≤ 2 * size) ∧ DOk s' b
theorem Rigs.rg {C : Orc} (h : Rigs C) (s : Dr) (b : Int) (o : Sto) (most size : Int) (h1 : DOk s (b + 300)) (h2 : 0 ≤ b) (h3 : 1 ≤ most) (h4 : most ≤ 8) (h5 : 0 ≤ size) (h6 : size ≤ 1000000000000) : ∃ R s' g, C "_law_rig" [.loc 1, .int most, .int size] (mkSt s o) = some (.lst [R.d, R.pd], mkSt s' (o ++ g)) ∧ RigOk most R ∧ DOk s' b := by
  obtain ⟨R, s', g, k, ⟨r, _⟩, d⟩ := h.sp s b o most size h1 h2 h3 h4 h5 h6
  exact ⟨R, s', g, k, r, d⟩
end Tg
namespace Tg
open PySem PySem.Spec PyProof.Rows L2
mutual
def szD : D → Nat
  | .int _ => 80
  | .str x => (reprText x).length
  | .tup xs => 5 + szDs xs
  | .lst xs => 5 + szDs xs
  | _ => 5
def szDs : List D → Nat
  | [] => 0
  | d :: ds => szD d + 2 + szDs ds
end
mutual
def smI : D → Bool
  | .int i => decide (i.natAbs.log2 < 70)
  | .tup xs => smIs xs
  | .lst xs => smIs xs
  | _ => true
def smIs : List D → Bool
  | [] => true
  | d :: ds => smI d && smIs ds
end
theorem txt_from : ∀ (ts : List Str) (k : Nat) (acc : Str) (B : Nat), (ts.map fun t => t.length + 2).sum ≤ B → (textFrom k acc ts).length ≤ acc.length + B
  | [], k, acc, B, h => by
    show acc.length ≤ _
    omega
  | t :: r, k, acc, B, h => by
    rw [List.map_cons, List.sum_cons] at h
    have ih := txt_from r (k + 1) (acc ++ (if k > 0 then ", " else "" : String) ++ t) (B - (t.length + 2)) (by omega)
    have e : (acc ++ (if k > 0 then ", " else "" : String) ++ t).length ≤ acc.length + 2 + t.length := by
      rw [strLen_append, strLen_append]
      have : ((if k > 0 then ", " else "" : String) : Str).length ≤ 2 := by split <;> decide
      omega
    show (textFrom (k + 1) (acc ++ (if k > 0 then ", " else "" : String) ++ t) r).length ≤ _
    omega
theorem list_len (ts : List Str) (B : Nat) (h : (ts.map fun t => t.length + 2).sum ≤ B) : (listText ts).length ≤ 2 + B := by
  unfold listText
  rw [strLen_append]
  have h1 := txt_from ts 0 "[" B h
  have h2 : (("[" : String) : Str).length = 1 := by decide
  have h3 : (("]" : String) : Str).length = 1 := by decide
  omega
theorem tuple_len (ts : List Str) (B : Nat) (h : (ts.map fun t => t.length + 2).sum ≤ B) : (tupleText ts).length ≤ 3 + B := by
  unfold tupleText
  rw [strLen_append, strLen_append]
  have h2 : (("(" : String) : Str).length = 1 := by decide
  have h3 : ((if ts.length == 1 then ",)" else ")" : String) : Str).length ≤ 2 := by split <;> decide
  have h4 : (Str.join ", " ts).length ≤ B := by
    cases ts with
    | nil =>
      show (Str.join ", " []).length ≤ B
      exact Nat.le_trans (by decide) (Nat.zero_le B)
    | cons x r =>
      have := join_length_add (x :: r) (by simp)
      have e : piled (x :: r) ≤ B := h
      omega
  omega
mutual
theorem shown_len : ∀ d : D, smI d = true → (pyD d).shown.length ≤ szD d
  | .non, _ => by simp only [pyD, PyData.shown, szD]; decide
  | .bl b, _ => by simp only [pyD, PyData.shown, szD]; cases b <;> decide
  | .int i, h => by
    simp only [pyD, PyData.shown, szD]
    have h1 : i.natAbs.log2 < 70 := by simpa [smI] using h
    have h2 := int_text_length_le (a := i) (k := 70) (by decide) h1
    show (Str.ofString (toString i)).length ≤ 80
    rw [PySem.ofString_length]
    omega
  | .str x, _ => by simp only [pyD, PyData.shown, szD]; exact Nat.le_refl _
  | .tup xs, h => by
    simp only [pyD, PyData.shown, szD]
    have := tuple_len _ _ (shown_lens xs (by simpa [smI] using h))
    omega
  | .lst xs, h => by
    simp only [pyD, PyData.shown, szD]
    have := list_len _ _ (shown_lens xs (by simpa [smI] using h))
    omega
  | .scr _, _ => by simp only [pyD, PyData.shown, szD]; decide
  | .dic, _ => by simp only [pyD, PyData.shown, szD]; decide
  | .loc _, _ => by simp only [pyD, PyData.shown, szD]; decide
  | .cel _ _, _ => by simp only [pyD, PyData.shown, szD]; decide
  | .tag _, _ => by simp only [pyD, PyData.shown, szD]; decide
  | .otp _, _ => by simp only [pyD, PyData.shown, szD]; decide
theorem shown_lens : ∀ ds : List D, smIs ds = true → ((PyData.shownAll (pyDs ds)).map fun t => t.length + 2).sum ≤ szDs ds
  | [], _ => by simp [pyDs, PyData.shownAll, szDs]
  | d :: ds, h => by
    simp only [smIs, Bool.and_eq_true] at h
    simp only [pyDs, PyData.shownAll, szDs, List.map_cons, List.sum_cons]
    have h1 := shown_len d h.1
    have h2 := shown_lens ds h.2
    omega
end
mutual
theorem smI_show : ∀ d : D, smI d = true → (pyD d).showable = true
  | .non, _ => by simp [pyD, PyData.showable]
  | .bl _, _ => by simp [pyD, PyData.showable]
  | .int i, h => by
    simp only [pyD, PyData.showable]
    have h1 : i.natAbs.log2 < 70 := by simpa [smI] using h
    exact decide_eq_true (by omega)
  | .str _, _ => by simp [pyD, PyData.showable]
  | .tup xs, h => by simp only [pyD, PyData.showable]; exact smIs_show xs (by simpa [smI] using h)
  | .lst xs, h => by simp only [pyD, PyData.showable]; exact smIs_show xs (by simpa [smI] using h)
  | .scr _, _ => by simp [pyD, PyData.showable]
  | .dic, _ => by simp [pyD, PyData.showable]
  | .loc _, _ => by simp [pyD, PyData.showable]
  | .cel _ _, _ => by simp [pyD, PyData.showable]
  | .tag _, _ => by simp [pyD, PyData.showable]
  | .otp _, _ => by simp [pyD, PyData.showable]
theorem smIs_show : ∀ ds : List D, smIs ds = true → PyData.showableAll (pyDs ds) = true
  | [], _ => by simp [pyDs, PyData.showableAll]
  | d :: ds, h => by
    simp only [smIs, Bool.and_eq_true] at h
    simp only [pyDs, PyData.showableAll, smI_show d h.1, smIs_show ds h.2]
    rfl
end
/-- plain data of depth at most k whose text has at most B signs -/
structure Nice (k B : Nat) (d : D) : Prop where
  lay : lay d = true
  dep : dep d ≤ k
  sm : smI d = true
  sz : szD d ≤ B
theorem Nice.mono {k B k' B' : Nat} {d : D} (h : Nice k B d) (hk : k ≤ k') (hB : B ≤ B') : Nice k' B' d := ⟨h.lay, Nat.le_trans h.dep hk, h.sm, Nat.le_trans h.sz hB⟩
theorem nice_int {i : Int} (h0 : -18446744073709551616 < i) (h1 : i < 18446744073709551616) : Nice 0 80 (.int i) := by
  refine ⟨rfl, Nat.le_refl _, ?_, Nat.le_refl _⟩
  have h : i.natAbs < 2 ^ 64 := by
    have e : (2 : Nat) ^ 64 = 18446744073709551616 := by decide
    rw [e]
    omega
  show decide (i.natAbs.log2 < 70) = true
  apply decide_eq_true
  by_cases hz : i.natAbs = 0
  · rw [hz]; decide
  · have := (Nat.log2_lt hz).mpr h
    omega
theorem nice_all {k B : Nat} : ∀ {ds : List D}, (∀ d ∈ ds, Nice k B d) → lays ds = true ∧ deps ds ≤ k ∧ smIs ds = true ∧ szDs ds ≤ ds.length * (B + 2)
  | [], _ => ⟨rfl, Nat.zero_le _, rfl, Nat.zero_le _⟩
  | d :: ds, h => by
    obtain ⟨a, b, c, e⟩ := nice_all fun x hx => h x (List.mem_cons_of_mem _ hx)
    obtain ⟨a', b', c', e'⟩ := h d List.mem_cons_self
    refine ⟨?_, ?_, ?_, ?_⟩
    · simp only [lays, a, a']; rfl
    · simp only [deps]; omega
    · simp only [smIs, c, c']; rfl
    · simp only [szDs, List.length_cons]
      have : (ds.length + 1) * (B + 2) = ds.length * (B + 2) + (B + 2) := Nat.succ_mul _ _
      omega
theorem nice_tup {k B n : Nat} {ds : List D} (h : ∀ d ∈ ds, Nice k B d) (hn : ds.length ≤ n) : Nice (k + 1) (5 + n * (B + 2)) (.tup ds) := by
  obtain ⟨a, b, c, e⟩ := nice_all h
  refine ⟨by simpa [Tg.lay] using a, by simp only [Tg.dep]; omega, by simpa [smI] using c, ?_⟩
  simp only [szD]
  have := Nat.mul_le_mul_right (B + 2) hn
  omega
theorem nice_lst {k B n : Nat} {ds : List D} (h : ∀ d ∈ ds, Nice k B d) (hn : ds.length ≤ n) : Nice (k + 1) (5 + n * (B + 2)) (.lst ds) := by
  obtain ⟨a, b, c, e⟩ := nice_all h
  refine ⟨by simpa [Tg.lay] using a, by simp only [Tg.dep]; omega, by simpa [smI] using c, ?_⟩
  simp only [szD]
  have := Nat.mul_le_mul_right (B + 2) hn
  omega
theorem repr_nice {k B : Nat} {d : D} {s : Sto} (h : Nice k B d) (hk : k ≤ 64) (hB : B ≤ 1000000) : gRepr s [d] = some (.str (shownD d)) := by
  show (if rpOk d then _ else _) = _
  have : rpOk d = true := by
    unfold rpOk okD
    rw [h.lay, decide_eq_true (Nat.le_trans h.dep hk), smI_show d h.sm]
    exact decide_eq_true (Nat.le_trans (shown_len d h.sm) (Nat.le_trans (Nat.le_trans h.sz hB) (by decide)))
  rw [this]
  rfl
mutual
/-- no list, no cell -/
def plD0 : D → Bool
  | .tup xs => plDs0 xs
  | .non => true
  | .bl _ => true
  | .int _ => true
  | .str _ => true
  | _ => false
def plDs0 : List D → Bool
  | [] => true
  | d :: ds => plD0 d && plDs0 ds
end
theorem plDs0_mem : ∀ {ds : List D}, plDs0 ds = true → ∀ d ∈ ds, plD0 d = true
  | [], _, d, h => by simp at h
  | x :: ds, h, d, hd => by
    simp only [plDs0, Bool.and_eq_true] at h
    rcases List.mem_cons.mp hd with rfl | hd
    · exact h.1
    · exact plDs0_mem h.2 d hd
theorem deps_mem : ∀ {ds : List D} {d : D}, d ∈ ds → dep d ≤ deps ds
  | [], d, h => by simp at h
  | x :: ds, d, hd => by
    simp only [deps]
    rcases List.mem_cons.mp hd with rfl | hd
    · omega
    · have := deps_mem hd
      omega
theorem pairs_self_mem : ∀ {xs : List D} {d : D}, d ∈ pairsD xs xs → ∃ x ∈ xs, d = .tup [x, x]
  | [], d, h => by simp [pairsD] at h
  | x :: xs, d, h => by
    simp only [pairsD, List.mem_cons] at h
    rcases h with rfl | h
    · exact ⟨x, List.mem_cons_self, rfl⟩
    · obtain ⟨y, hy, e⟩ := pairs_self_mem h
      exact ⟨y, List.mem_cons_of_mem _ hy, e⟩
theorem ne_bl {s : Sto} {b : Bool} : oNe s (.bl b) (.bl b) = some (.bl false) := by cases b <;> rfl
theorem eq_bl {s : Sto} {b : Bool} : oEq s (.bl b) (.bl b) = some (.bl true) := by cases b <;> rfl
theorem map_const_true (xs : List D) : (pairsD xs xs).map (fun _ => D.bl true) = (xs.map fun _ => true).map D.bl := by
  induction xs with
  | nil => rfl
  | cons x xs ih => simp only [pairsD, List.map_cons, ih]
theorem all_const_true (xs : List D) : (xs.map fun _ => true).all id = true := by
  induction xs with
  | nil => rfl
  | cons x xs ih => simp only [List.map_cons, List.all_cons, ih]; rfl
end Tg
namespace Tg
open PySem PySem.Spec PyProof.Rows L2
theorem lc_map {α : Type} {tg : DG} {ifs : DB} {elt : DE} {env : En} {s : Sto} (f g : α → D) : ∀ (xs : List α), (∀ x ∈ xs, ∃ e, tg (f x) env s = some (e, s) ∧ ifs e s = some (true, s) ∧ elt e s = some (g x, s)) → lcL always tg ifs elt env (xs.map f) s = some (xs.map g, s)
  | [], _ => rfl
  | d :: ds, h => by
    obtain ⟨e, h1, h2, h3⟩ := h d List.mem_cons_self
    have ih := lc_map f g ds fun d hd => h d (List.mem_cons_of_mem _ hd)
    rw [List.map_cons, List.map_cons]
    unfold lcL
    simp only [show always s = true from rfl, if_true, h1, Option.bind_some, h2, h3, ih, Option.map_some]
theorem pairs_map {α : Type} (f g : α → D) : ∀ xs : List α, pairsD (xs.map f) (xs.map g) = xs.map fun x => .tup [f x, g x]
  | [] => rfl
  | x :: xs => by rw [List.map_cons, List.map_cons, List.map_cons, ← pairs_map f g xs]; rfl
/-- the place of ring i -/
def pAt (ps : List Int) (i : Int) : Int := ps.getD i.toNat 0
theorem pat_at {ps : List Int} {i : Int} (h0 : 0 ≤ i) (h : i < ps.length) : atI (ps.map D.int) i = some (.int (pAt ps i)) := by
  obtain ⟨x, a, b, c⟩ := atI_in ps h0 h
  have e : atI (ps.map D.int) ((i.toNat : Nat) : Int) = some (.int x) := atI_nat (by rw [List.getElem?_map, c]; rfl)
  rw [Int.toNat_of_nonneg h0] at e
  rw [e]
  unfold pAt
  rw [List.getD_eq_getElem?_getD, c]
  rfl
def gap (ps : List Int) (a b : Int) : Int := pAt ps b - pAt ps a
theorem RigOk.pl {most : Int} {R : Rig} (h : RigOk most R) : ∀ p ∈ R.ps, -1000000000000 ≤ p ∧ p ≤ 1000000000000 := by
  intro p hp
  obtain ⟨q, hq, rfl⟩ := List.mem_map.mp hp
  obtain ⟨a, b, c, d, _⟩ := h.q q hq
  exact ⟨by omega, by omega⟩
theorem ps_len (R : Rig) : R.ps.length = R.qs.length := List.length_map ..
theorem rigs_len (R : Rig) : R.rings.length = R.qs.length := List.length_map ..
theorem dep_ints : ∀ ns : List Int, deps (ns.map D.int) = 0
  | [] => rfl
  | n :: ns => by rw [List.map_cons]; simp only [deps, dep, dep_ints ns]; rfl
end Tg
namespace Tg
open PySem PySem.Spec PyProof.Rows L2
noncomputable def b_l_one (C : Orc) : DS := (sSeq (sRet (eOp oIx (eVar 1) (eCall C "_law_next" (aCons (eVar 0) (aCons (eBlt gLen (aCons (eVar 1) aNil)) aNil)))))
    sNil)
noncomputable def b_l_equal2 (C : Orc) : DS := (sSeq (sIf (bAnd (bVal (eIsi .tuple (eVar 0))) (bVal (eIsi .tuple (eVar 1)))) (sSeq (sRet (eAnd (eOp oEq (eBlt gLen (aCons (eVar 0) aNil)) (eBlt gLen (aCons (eVar 1) aNil))) (eBlt gAll (aCons (eLc [2, 3] (iZip (eVar 0) (eVar 1)) (gT 2 (gsCons (gN 2) (gsCons (gN 3) gsNil))) bYes (eCall C "_law_equal" (aCons (eVar 2) (aCons (eVar 3) aNil)))) aNil))))
    sNil) sNil)
    (sSeq (sIf (bOr (bVal (eIsi .bool (eVar 0))) (bVal (eIsi .bool (eVar 1)))) (sSeq (sRet (eAnd (eIsi .bool (eVar 0)) (eAnd (eIsi .bool (eVar 1)) (eOp oEq (eVar 0) (eVar 1)))))
    sNil) sNil)
    (sSeq (sIf (bOr (bVal (eOp oNe (eIsi .tuple (eVar 0)) (eIsi .tuple (eVar 1)))) (bVal (eOp oNe (eIsi .int (eVar 0)) (eIsi .int (eVar 1))))) (sSeq (sRet (eC (.bl false)))
    sNil) sNil)
    (sSeq (sRet (eAnd (eOp oEq (eIsi .str (eVar 0)) (eIsi .str (eVar 1))) (eOp oEq (eVar 0) (eVar 1))))
    sNil))))
noncomputable def b_l_rig2_f1 (C : Orc) : DS := (sSeq (sAsg (eOp oAdd (eVar 5) (eCall C "_law_amount" (aCons (eVar 0) (aCons (eVar 2) aNil)))) (gN 9))
    (sSeq (sPar2 10 11 (aCons (eOp oSub (eVar 9) (eCall C "_law_amount" (aCons (eVar 0) (aCons (eVar 2) aNil)))) (aCons (eOp oAdd (eVar 9) (eCall C "_law_amount" (aCons (eVar 0) (aCons (eVar 2) aNil)))) aNil)))
    (sSeq (sExpr (eAppend (eVar 6) (eVar 9)))
    (sSeq (sExpr (eAppend (eVar 7) (eTup (aCons (eBlt gMax2 (aCons (eVar 10) (aCons (eUn oNeg (eOp oPow (eC (.int 10)) (eC (.int 12)))) aNil))) (aCons (eBlt gMin2 (aCons (eVar 11) (aCons (eOp oPow (eC (.int 10)) (eC (.int 12))) aNil))) (aCons (eOp oSub (eCall C "_law_amount" (aCons (eVar 0) (aCons (eOp oMul (eC (.int 2)) (eVar 4)) aNil))) (eVar 4)) aNil))))))
    sNil))))
noncomputable def b_l_rig2 (C : Orc) : DS := (sSeq (sAsg (eOp oAdd (eC (.int 1)) (eCall C "_law_next" (aCons (eVar 0) (aCons (eVar 1) aNil)))) (gN 3))
    (sSeq (sAsg (eOp oIx (eLst (aCons (eC (.int 3)) (aCons (eC (.int 9)) (aCons (eOp oPow (eC (.int 10)) (eC (.int 9))) aNil)))) (eCall C "_law_next" (aCons (eVar 0) (aCons (eC (.int 3)) aNil)))) (gN 4))
    (sSeq (sAsg (eOp oIx (eLst (aCons (eC (.int 0)) (aCons (eC (.int 0)) (aCons (eUn oNeg (eC (.int 3))) (aCons (eOp oSub (eOp oPow (eC (.int 10)) (eC (.int 12))) (eOp oMul (eC (.int 2)) (eVar 2))) aNil))))) (eCall C "_law_next" (aCons (eVar 0) (aCons (eC (.int 4)) aNil)))) (gN 5))
    (sSeq (sPar2 6 7 (aCons (eMLst aNil) (aCons (eMLst aNil) aNil)))
    (sSeq (sFor (iRng (aCons (eVar 3) aNil)) (gN 8) (b_l_rig2_f1 C))
    (sSeq (sPar2 12 13 (aCons (eMLst aNil) (aCons (eMLst aNil) aNil)))
    (sSeq (sIf (bVal (eOp oGt (eVar 3) (eC (.int 1)))) (sSeq (sFor (iRng (aCons (eOp oIx (eLst (aCons (eC (.int 0)) (aCons (eC (.int 1)) (aCons (eC (.int 2)) (aCons (eC (.int 3)) (aCons (eC (.int 5)) (aCons (eC (.int 12)) aNil))))))) (eCall C "_law_next" (aCons (eVar 0) (aCons (eC (.int 6)) aNil)))) aNil)) (gN 8) (b_l_rig_f2 C))
    (sSeq (sFor (iRng (aCons (eOp oIx (eLst (aCons (eC (.int 0)) (aCons (eC (.int 0)) (aCons (eC (.int 1)) (aCons (eC (.int 2)) (aCons (eC (.int 8)) aNil)))))) (eCall C "_law_next" (aCons (eVar 0) (aCons (eC (.int 5)) aNil)))) aNil)) (gN 8) (b_l_rig_f3 C))
    sNil)) sNil)
    (sSeq (sRet (eLst (aCons (eTup (aCons (eBlt gTuple (aCons (eVar 7) aNil)) (aCons (eBlt gTuple (aCons (eVar 12) aNil)) (aCons (eBlt gTuple (aCons (eVar 13) aNil)) aNil)))) (aCons (eBlt gTuple (aCons (eVar 6) aNil)) aNil))))
    sNil))))))))
set_option maxHeartbeats 8000000 in
theorem rig2_f1 {C : Orc} (am : Amounts C) {o : Sto} {b most size count heavy shift : Int} (hb : 0 ≤ b) (h0 : 0 ≤ size) (h1 : size ≤ 1000000000000) (hc : count ≤ 8) (hh : 0 ≤ heavy) (hh2 : heavy ≤ 1000000000) (hs0 : -1000000000000 ≤ shift) (hs1 : shift ≤ 1000000000000 - size)
    (d : D) (ds : List D) (env : En) (st : Sto) (h : rigP1 o b most size count heavy shift (d :: ds) env st) :
    ∃ e s, gN 8 d env st = some (e, s) ∧ ∃ e2 s2, b_l_rig2_f1 C e s = some (.nx e2, s2) ∧ rigP1 o b most size count heavy shift ds e2 s2 := by
  obtain ⟨s, qs, v8, v9, v10, v11, rfl, rfl, hd, hl, hq⟩ := h
  rw [List.length_cons] at hd hl
  refine ⟨_, _, rfl, ?_⟩
  obtain ⟨x, s1, k1, x0, x1, d1⟩ := am.am s (b + 12 * ds.length + 9) (o ++ [plD qs, rgD qs]) size (hd.mono (by omega)) (by omega) h0 (by omega)
  obtain ⟨y, s2, k2, y0, y1, d2⟩ := am.am s1 (b + 12 * ds.length + 6) (o ++ [plD qs, rgD qs]) size (d1.mono (by omega)) (by omega) h0 (by omega)
  obtain ⟨z, s3, k3, z0, z1, d3⟩ := am.am s2 (b + 12 * ds.length + 3) (o ++ [plD qs, rgD qs]) size (d2.mono (by omega)) (by omega) h0 (by omega)
  obtain ⟨w, s4, k4, w0, w1, d4⟩ := am.am s3 (b + 12 * ds.length) (o ++ [plD qs ++ [.int (shift + x)], rgD qs]) (2 * heavy) (d3.mono (by omega)) (by omega) (by omega) (by omega)
  have a1 := app_at (s := s3) (o := o) (l := [plD qs, rgD qs]) (d := .int (shift + x)) (n := o.length + 2) (k := 0) rfl rfl (fits_small (by rw [plD_len]; omega))
  have a2 := fun dd : D => app_at (s := s4) (o := o) (l := [plD qs ++ [.int (shift + x)], rgD qs]) (d := dd) (n := o.length + 3) (k := 1) rfl rfl (fits_small (by rw [rgD_len]; omega))
  have p12 : oPow (mkSt s3 (o ++ [plD qs ++ [.int (shift + x)], rgD qs])) (.int 10) (.int 12) = some (.int 1000000000000) := rfl
  have m2 : mulOk 2 heavy = true := mulOk_l (by decide) (by decide)
  simp only [List.set_cons_zero, List.set_cons_succ] at a1 a2
  simp only [b_l_rig2_f1]
  repeat (first | walk_at "ev" | simp only [k1, k2, k3, k4, a1, a2, p12, o_mul m2])
  refine ⟨_, _, rfl, s4, qs ++ [(⟨max (shift + x - y) (-1000000000000), min (shift + x + z) 1000000000000, w - heavy⟩, shift + x)], _, _, _, _, rfl, ?_, d4, ?_, ?_⟩
  · rw [plD_app, rgD_app]
    rfl
  · rw [len1]
    omega
  · intro q hq2
    rcases List.mem_append.mp hq2 with hq2 | hq2
    · exact hq q hq2
    · rw [List.mem_singleton.mp hq2]
      refine ⟨⟨?_, ?_, ?_, ?_, ?_, ?_⟩, ?_, ?_, ?_⟩ <;> simp only [] <;> omega
set_option maxHeartbeats 16000000 in
theorem rigs_of2 {F : String → Option Fn} (hN : F "_law_next" = some ⟨2, 9, b_l_next⟩) (hA : F "_law_amount" = some ⟨2, 3, b_l_amount⟩) (hP : F "_law_pair" = some ⟨2, 3, b_l_pair⟩) (hF : F "_law_rig" = some ⟨3, 17, b_l_rig2⟩) (n : Nat) : Rigs (callN F (n + 3)) := by
  constructor
  intro s b o most size hs hb hm hm2 h0 h1
  have dr := draws_of hN (n + 1)
  have am := amounts_of hN hA n
  have pr := pairs_of hN hP n
  rw [call_eq hF rfl]
  have e0 : startE 17 [.loc 1, .int most, .int size] = [some (.loc 1), some (.int most), some (.int size), none, none, none, none, none, none, none, none, none, none, none, none, none, none] := rfl
  simp only [e0, b_l_rig2]
  obtain ⟨c, s1, k1, c0, c1, d1⟩ := dr.nx s (b + 299) o most (hs.mono (by omega)) (by omega) (by omega) (by omega)
  obtain ⟨i, s2, k2, i0, i1, d2⟩ := dr.nx s1 (b + 298) o 3 (d1.mono (by omega)) (by omega) (by omega) (by omega)
  obtain ⟨j, s3, k3, j0, j1, d3⟩ := dr.nx s2 (b + 297) o 4 (d2.mono (by omega)) (by omega) (by omega) (by omega)
  have p9 : ∀ t : Sto, oPow t (.int 10) (.int 9) = some (.int 1000000000) := fun _ => rfl
  have p12 : ∀ t : Sto, oPow t (.int 10) (.int 12) = some (.int 1000000000000) := fun _ => rfl
  have m2 : mulOk 2 size = true := mulOk_l (by decide) (by decide)
  obtain ⟨hv, hhv, ehv⟩ := at_list (xs := [D.int 3, .int 9, .int 1000000000]) (n := 3) i0 i1 rfl
  obtain ⟨sf, hsf, esf⟩ := at_list (xs := [D.int 0, .int 0, .int (-3), .int (1000000000000 - 2 * size)]) (n := 4) j0 j1 rfl
  obtain ⟨heavy, rfl, hh, hh2⟩ : ∃ heavy, hv = .int heavy ∧ 1 ≤ heavy ∧ heavy ≤ 1000000000 := by
    simp only [List.mem_cons, List.not_mem_nil, or_false] at hhv
    rcases hhv with rfl | rfl | rfl
    · exact ⟨_, rfl, by omega, by omega⟩
    · exact ⟨_, rfl, by omega, by omega⟩
    · exact ⟨_, rfl, by omega, by omega⟩
  obtain ⟨shift, rfl, hs0, hs1⟩ : ∃ shift, sf = .int shift ∧ -1000000000000 ≤ shift ∧ shift ≤ 1000000000000 - size := by
    simp only [List.mem_cons, List.not_mem_nil, or_false] at hsf
    rcases hsf with rfl | rfl | rfl | rfl
    · exact ⟨_, rfl, by omega, by omega⟩
    · exact ⟨_, rfl, by omega, by omega⟩
    · exact ⟨_, rfl, by omega, by omega⟩
    · exact ⟨_, rfl, by omega, by omega⟩
  have rg1 := fun (t : Sto) => e_krng1 (s := t) (j := 1 + c) (by omega) (by omega)
  repeat (first | walk_at "ev" | simp only [k1, k2, k3, p9, p12, o_mul m2, ehv, esf, mk_len, mk_app, rg1])
  have l1 : (o ++ [([] : List D)]).length + 2 = o.length + 3 := by simp
  simp only [l1, List.append_assoc, List.cons_append, List.nil_append]
  obtain ⟨env1, st1, f1, s4, qs, v8, v9, v10, v11, rfl, rfl, d4, hl4, hq⟩ := for_ind (chk := always) (tg := gN 8) (body := b_l_rig2_f1 (callN F (n + 2))) (rigP1 o (b + 201) most size (1 + c) heavy shift) (fun _ _ _ _ => rfl)
    (fun d ds env st h => rig2_f1 am (by omega) h0 h1 (by omega) (by omega) hh2 hs0 hs1 d ds env st h) (rangeD 0 (1 + c).toNat)
    [some (D.loc 1), some (D.int most), some (D.int size), some (D.int (1 + c)), some (D.int heavy), some (D.int shift), some (D.loc (List.length o + 2)), some (D.loc (List.length o + 3)), none, none, none, none, none, none, none, none, none]
    (mkSt s3 (o ++ [[], []])) ⟨s3, [], none, none, none, none, rfl, rfl, d3.mono (by rw [rangeD_length]; omega), by rw [rangeD_length]; simp only [List.length_nil]; omega, fun q hq => by simp at hq⟩
  have hlq : (qs.length : Int) = 1 + c := by
    simp only [List.length_nil] at hl4
    omega
  simp only [List.length_nil] at d4
  have hq2 : ∀ q ∈ qs, shift ≤ q.2 ∧ q.2 ≤ shift + size := fun q h => ⟨(hq q h).2.1, (hq q h).2.2.1⟩
  have hq3 : ∀ q ∈ qs, QOk 0 q := fun q h => (hq q h).1
  have l2 : (o ++ [plD qs, rgD qs]).length + 2 = o.length + 4 := by simp
  have l3 : (o ++ [plD qs, rgD qs, ([] : List D)]).length + 2 = o.length + 5 := by simp
  simp only [f1]
  repeat (first | walk_at "ev" | simp only [mk_len, mk_app, List.append_assoc, List.cons_append, List.nil_append, l2, l3])
  by_cases hc1 : 1 < 1 + c
  · simp only [decide_eq_true hc1]
    obtain ⟨i2, s5, k5, i20, i21, d5⟩ := dr.nx s4 (b + 200) (o ++ [plD qs, rgD qs, [], []]) 6 (d4.mono (by omega)) (by omega) (by omega) (by omega)
    obtain ⟨x2, hx2, ex2⟩ := at_list (xs := [D.int 0, .int 1, .int 2, .int 3, .int 5, .int 12]) (n := 6) i20 i21 rfl
    obtain ⟨t2, rfl, t20, t21⟩ : ∃ t : Int, x2 = .int t ∧ 0 ≤ t ∧ t ≤ 12 := by
      simp only [List.mem_cons, List.not_mem_nil, or_false] at hx2
      rcases hx2 with rfl | rfl | rfl | rfl | rfl | rfl <;> exact ⟨_, rfl, by omega, by omega⟩
    have rg2 := fun (t : Sto) => e_krng1 (s := t) (j := t2) (by omega) (by omega)
    repeat (first | walk_at "ev" | simp only [k5, ex2, rg2])
    obtain ⟨env2, st2, f2, s6, cs, w8, w9, w10, w11, w14, w15, w16, rfl, rfl, d6, hl6, hcs⟩ := for_ind (chk := always) (tg := gN 8) (body := b_l_rig_f2 (callN F (n + 2))) (rigP2 o qs (b + 128) most size (1 + c) heavy shift) (fun _ _ _ _ => rfl)
      (fun d ds env st h => rig_f2 dr am pr (by omega) h0 h1 hc1 (by omega) hlq hh hh2 hq2 d ds env st h) (rangeD 0 t2.toNat) _ _
      ⟨s5, [], v8, v9, v10, v11, none, none, none, rfl, rfl, d5.mono (by rw [rangeD_length]; omega), by rw [rangeD_length]; simp only [List.length_nil]; omega, fun q hq => by simp at hq⟩
    simp only [List.length_nil] at d6 hl6
    obtain ⟨i3, s7, k7, i30, i31, d7⟩ := dr.nx s6 (b + 127) (o ++ [plD qs, rgD qs, csD cs, []]) 5 (d6.mono (by omega)) (by omega) (by omega) (by omega)
    obtain ⟨x3, hx3, ex3⟩ := at_list (xs := [D.int 0, .int 0, .int 1, .int 2, .int 8]) (n := 5) i30 i31 rfl
    obtain ⟨t3, rfl, t30, t31⟩ : ∃ t : Int, x3 = .int t ∧ 0 ≤ t ∧ t ≤ 8 := by
      simp only [List.mem_cons, List.not_mem_nil, or_false] at hx3
      rcases hx3 with rfl | rfl | rfl | rfl | rfl <;> exact ⟨_, rfl, by omega, by omega⟩
    have rg3 := fun (t : Sto) => e_krng1 (s := t) (j := t3) (by omega) (by omega)
    simp only [show csD [] = [] from rfl] at f2
    simp only [f2]
    repeat (first | walk_at "ev" | simp only [k7, ex3, rg3])
    obtain ⟨env3, st3, f3, s8, bs, u8, u9, u10, u11, u14, u15, u16, rfl, rfl, d8, hl8, hbs⟩ := for_ind (chk := always) (tg := gN 8) (body := b_l_rig_f3 (callN F (n + 2))) (rigP3 o qs cs (b + 87) most size (1 + c) heavy shift) (fun _ _ _ _ => rfl)
      (fun d ds env st h => rig_f3 dr am pr (by omega) h0 h1 hc1 (by omega) hlq hq2 d ds env st h) (rangeD 0 t3.toNat) _ _
      ⟨s7, [], w8, w9, w10, w11, w14, w15, w16, rfl, rfl, d7.mono (by rw [rangeD_length]; omega), by rw [rangeD_length]; simp only [List.length_nil]; omega, fun q hq => by simp at hq⟩
    simp only [List.length_nil] at d8 hl8
    simp only [show bsD [] = [] from rfl] at f3
    simp only [f3]
    have t0 := tup_at (s := s8) (o := o) (l := [plD qs, rgD qs, csD cs, bsD bs]) (n := o.length + 2) (k := 0) rfl rfl
    have t1 := tup_at (s := s8) (o := o) (l := [plD qs, rgD qs, csD cs, bsD bs]) (n := o.length + 3) (k := 1) rfl rfl
    have t2 := tup_at (s := s8) (o := o) (l := [plD qs, rgD qs, csD cs, bsD bs]) (n := o.length + 4) (k := 2) rfl rfl
    have t3 := tup_at (s := s8) (o := o) (l := [plD qs, rgD qs, csD cs, bsD bs]) (n := o.length + 5) (k := 3) rfl rfl
    repeat (first | walk_at "ev" | simp only [t0, t1, t2, t3, e_kfnR])
    refine ⟨⟨qs, cs, bs⟩, s8, [plD qs, rgD qs, csD cs, bsD bs], ?_, ⟨⟨?_, ?_, hq3, by show cs.length ≤ 12; omega, hcs, by show bs.length ≤ 8; omega, hbs⟩, fun q h => (hq q h).2.2.2⟩, d8.mono (by omega)⟩
    · simp only [Rig.d, Rig.pd, Rig.rings, Rig.ps, List.map_map]
      rfl
    · show 1 ≤ qs.length
      omega
    · show (qs.length : Int) ≤ most
      omega
  · simp only [decide_eq_false hc1]
    have t0 := tup_at (s := s4) (o := o) (l := [plD qs, rgD qs, [], []]) (n := o.length + 2) (k := 0) rfl rfl
    have t1 := tup_at (s := s4) (o := o) (l := [plD qs, rgD qs, [], []]) (n := o.length + 3) (k := 1) rfl rfl
    have t2 := tup_at (s := s4) (o := o) (l := [plD qs, rgD qs, [], []]) (n := o.length + 4) (k := 2) rfl rfl
    have t3 := tup_at (s := s4) (o := o) (l := [plD qs, rgD qs, [], []]) (n := o.length + 5) (k := 3) rfl rfl
    repeat (first | walk_at "ev" | simp only [t0, t1, t2, t3, e_kfnR])
    refine ⟨⟨qs, [], []⟩, s4, [plD qs, rgD qs, [], []], ?_, ⟨⟨?_, ?_, hq3, by show 0 ≤ 12; omega, fun c h => by simp at h, by show 0 ≤ 8; omega, fun c h => by simp at h⟩, fun q h => (hq q h).2.2.2⟩, d4.mono (by omega)⟩
    · simp only [Rig.d, Rig.pd, Rig.rings, Rig.ps, List.map_map]
      rfl
    · show 1 ≤ qs.length
      omega
    · show (qs.length : Int) ≤ most
      omega
set_option maxHeartbeats 16000000 in
theorem equal_self2 {F : String → Option Fn} (hF : F "_law_equal" = some ⟨2, 4, b_l_equal2⟩) : ∀ (n : Nat) (d : D), plD0 d = true → dep d ≤ n → ∀ st : Sto, callN F (n + 1) "_law_equal" [d, d] st = some (.bl true, st) := by
  intro n
  induction n with
  | zero =>
    intro d hp hd st
    rw [call_eq hF rfl]
    have e0 : startE 4 [d, d] = [some d, some d, none, none] := rfl
    simp only [e0, b_l_equal2]
    cases d with
    | non =>
      have z : oEq st .non .non = some (.bl true) := rfl
      repeat (first | walk_at "ev" | simp only [isTy, tk, isTk, ne_bl, eq_bl, z, e_kfnR])
    | bl b => repeat (first | walk_at "ev" | simp only [isTy, tk, isTk, ne_bl, eq_bl, e_kfnR])
    | int i => repeat (first | walk_at "ev" | simp only [isTy, tk, isTk, ne_bl, eq_bl, decide_true, e_kfnR])
    | str x => repeat (first | walk_at "ev" | simp only [isTy, tk, isTk, ne_bl, eq_bl, decide_true, e_kfnR])
    | tup xs => simp only [dep] at hd; omega
    | _ => simp [plD0] at hp
  | succ n ih =>
    intro d hp hd st
    rw [call_eq hF rfl]
    have e0 : startE 4 [d, d] = [some d, some d, none, none] := rfl
    simp only [e0, b_l_equal2]
    cases d with
    | non =>
      have z : oEq st .non .non = some (.bl true) := rfl
      repeat (first | walk_at "ev" | simp only [isTy, tk, isTk, ne_bl, eq_bl, z, e_kfnR])
    | bl b => repeat (first | walk_at "ev" | simp only [isTy, tk, isTk, ne_bl, eq_bl, e_kfnR])
    | int i => repeat (first | walk_at "ev" | simp only [isTy, tk, isTk, ne_bl, eq_bl, decide_true, e_kfnR])
    | str x => repeat (first | walk_at "ev" | simp only [isTy, tk, isTk, ne_bl, eq_bl, decide_true, e_kfnR])
    | tup xs =>
      simp only [plD0] at hp
      simp only [dep] at hd
      have lc : lcL always (gT 2 (gsCons (gN 2) (gsCons (gN 3) gsNil))) bYes (eCall (callN F (n + 1)) "_law_equal" (aCons (eVar 2) (aCons (eVar 3) aNil))) [some (D.tup xs), some (.tup xs), none, none] (pairsD xs xs) st = some ((pairsD xs xs).map (fun _ => D.bl true), st) := by
        apply lc_pure (fun _ => D.bl true)
        intro d hd2
        obtain ⟨x, hx, rfl⟩ := pairs_self_mem hd2
        refine ⟨_, rfl, rfl, ?_⟩
        have k := ih x (plDs0_mem hp x hx) (by have := deps_mem hx; omega) st
        repeat (first | walk_at "ev" | simp only [k])
      repeat (first | walk_at "ev" | simp only [isTy, tk, isTk, decide_true, lc, map_const_true, all_const_true, e_kfnR])
    | _ => simp [plD0] at hp
theorem one_spec {F : String → Option Fn} (hN : F "_law_next" = some ⟨2, 9, b_l_next⟩) (hF : F "_law_one" = some ⟨2, 2, b_l_one⟩) (n : Nat) {s : Dr} {b : Int} (hs : DOk s (b + 1)) (hb : 0 ≤ b) (o : Sto) {it : D} {xs : List D} (hi : it = .lst xs ∨ it = .tup xs) (h0 : 0 < xs.length) (h1 : xs.length ≤ 1000000) :
    ∃ x s', callN F (n + 2) "_law_one" [.loc 1, it] (mkSt s o) = some (x, mkSt s' o) ∧ x ∈ xs ∧ DOk s' b := by
  have dr := draws_of hN n
  obtain ⟨i, s1, k1, i0, i1, d1⟩ := dr.nx s b o (xs.length : Int) hs hb (by omega) (by omega)
  obtain ⟨x, hx, ex⟩ := at_list (xs := xs) (n := (xs.length : Int)) i0 i1 rfl
  refine ⟨x, s1, ?_, hx, d1⟩
  rw [call_eq hF rfl]
  have e0 : startE 2 [.loc 1, it] = [some (.loc 1), some it] := rfl
  simp only [e0, b_l_one]
  rcases hi with rfl | rfl
  · repeat (first | walk_at "ev" | simp only [k1, ex, e_kfnR])
  · repeat (first | walk_at "ev" | simp only [k1, ex, e_kfnR])
end Tg
namespace Tg
open PySem PySem.Spec PyProof.Rows L2
section
variable {st : Sto} {xs ys : List D} {i : Int}
theorem cut_from (h : 0 ≤ i) : cutD xs (some i) none = xs.drop i.toNat := by
  unfold cutD
  have e : (some i) = some ((i.toNat : Nat) : Int) := by rw [Int.toNat_of_nonneg h]
  rw [HT.sIx_none, e, HT.sIx_nat]
  by_cases hh : i.toNat ≤ xs.length
  · rw [Nat.min_eq_left hh, List.take_of_length_le (by rw [List.length_drop]; omega)]
  · rw [Nat.min_eq_right (by omega), List.drop_of_length_le (Nat.le_refl _), List.drop_of_length_le (by omega), List.take_nil]
theorem add_tup (h : xs.length + ys.length ≤ 1000) : oAdd st (.tup xs) (.tup ys) = some (.tup (xs ++ ys)) := by
  show (if fits (xs.length + ys.length) then _ else _) = _
  rw [fits_small h]
  rfl
end
/-- plain data of depth at most k -/
def Pl (k : Nat) (d : D) : Prop := plD0 d = true ∧ dep d ≤ k
theorem Pl.mono {k k' : Nat} {d : D} (h : Pl k d) (hk : k ≤ k') : Pl k' d := ⟨h.1, Nat.le_trans h.2 hk⟩
theorem pl_int {k : Nat} {i : Int} : Pl k (.int i) := ⟨rfl, by simp only [dep]; omega⟩
theorem pl_str {k : Nat} {s : Str} : Pl k (.str s) := ⟨rfl, by simp only [dep]; omega⟩
theorem pl_all {k : Nat} : ∀ {ds : List D}, (∀ d ∈ ds, Pl k d) → plDs0 ds = true ∧ deps ds ≤ k
  | [], _ => ⟨rfl, Nat.zero_le _⟩
  | d :: ds, h => by
    obtain ⟨a, b⟩ := pl_all fun x hx => h x (List.mem_cons_of_mem _ hx)
    obtain ⟨a', b'⟩ := h d List.mem_cons_self
    refine ⟨?_, ?_⟩
    · simp only [plDs0, a, a']; rfl
    · simp only [deps]; omega
theorem pl_tup {k : Nat} {ds : List D} (h : ∀ d ∈ ds, Pl k d) : Pl (k + 1) (.tup ds) := by
  obtain ⟨a, b⟩ := pl_all h
  exact ⟨by simpa [plD0] using a, by simp only [dep]; omega⟩
theorem pl_nil {k : Nat} : ∀ d ∈ ([] : List D), Pl k d := fun d h => by simp at h
theorem pl_cons {k : Nat} {x : D} {xs : List D} (hx : Pl k x) (h : ∀ d ∈ xs, Pl k d) : ∀ d ∈ x :: xs, Pl k d := fun d hd => by
  rcases List.mem_cons.mp hd with rfl | hd
  · exact hx
  · exact h d hd
theorem pl_map {α : Type} {k : Nat} {xs : List α} {f : α → D} (h : ∀ x ∈ xs, Pl k (f x)) : ∀ d ∈ xs.map f, Pl k d := fun d hd => by
  obtain ⟨x, hx, rfl⟩ := List.mem_map.mp hd
  exact h x hx
theorem eq2 {F : String → Option Fn} (hF : F "_law_equal" = some ⟨2, 4, b_l_equal2⟩) {n k : Nat} {d : D} (h : Pl k d) (hk : k ≤ n) (st : Sto) : callN F (n + 1) "_law_equal" [d, d] st = some (.bl true, st) := equal_self2 hF n d h.1 (Nat.le_trans h.2 hk) st
end Tg
namespace Tg
open PySem PySem.Spec PyProof.Rows L2
abbrev pa (x : List Int) (i : Nat) : Int := x.getD i 0
theorem pa_ext {x y : List Int} (hl : x.length = y.length) (h : ∀ i, i < x.length → pa x i = pa y i) : x = y := by
  apply List.ext_getElem hl
  intro i h1 h2
  have := h i h1
  unfold pa at this
  rw [List.getD_eq_getElem?_getD, List.getD_eq_getElem?_getD, List.getElem?_eq_getElem h1, List.getElem?_eq_getElem h2] at this
  simpa using this
theorem pa_set {x : List Int} {i j : Nat} {v : Int} : pa (x.set i v) j = if i = j ∧ i < x.length then v else pa x j := by
  unfold pa
  rw [List.getD_eq_getElem?_getD, List.getD_eq_getElem?_getD, List.getElem?_set]
  by_cases h : i = j
  · subst h
    by_cases hl : i < x.length
    · simp [hl]
    · simp [hl, List.getElem?_eq_none (Nat.le_of_not_lt hl)]
  · simp [h]
def vec (n : Nat) (f : Nat → Int) : List Int := (List.range n).map f
theorem vec_len {n : Nat} {f : Nat → Int} : (vec n f).length = n := by simp [vec]
theorem pa_vec {n i : Nat} {f : Nat → Int} (h : i < n) : pa (vec n f) i = f i := by
  unfold pa vec
  rw [List.getD_eq_getElem?_getD, List.getElem?_map, List.getElem?_range h]
  rfl
theorem sum_vec_le {f g : Nat → Int} : ∀ n, (∀ i, i < n → f i ≤ g i) → (vec n f).sum ≤ (vec n g).sum
  | 0, _ => by simp [vec]
  | n + 1, h => by
    have ih := sum_vec_le n (fun i hi => h i (by omega))
    have := h n (by omega)
    unfold vec at *
    rw [List.range_succ, List.map_append, List.map_append, List.sum_append, List.sum_append]
    simp only [List.map_cons, List.map_nil, List.sum_cons, List.sum_nil]
    omega
theorem sum_vec_lt {f g : Nat → Int} : ∀ n, (∀ i, i < n → f i ≤ g i) → (∃ i, i < n ∧ f i < g i) → (vec n f).sum < (vec n g).sum
  | 0, _, h => by
    obtain ⟨i, hi, _⟩ := h
    omega
  | n + 1, h, hx => by
    have h1 := sum_vec_le n (fun i hi => h i (by omega))
    have h2 := h n (by omega)
    obtain ⟨i, hi, hx⟩ := hx
    unfold vec at *
    rw [List.range_succ, List.map_append, List.map_append, List.sum_append, List.sum_append]
    simp only [List.map_cons, List.map_nil, List.sum_cons, List.sum_nil]
    by_cases e : i = n
    · subst e
      omega
    · have := sum_vec_lt n (fun i hi => h i (by omega)) ⟨i, by omega, hx⟩
      unfold vec at this
      omega
theorem vec_self (x : List Int) : vec x.length (pa x) = x := pa_ext vec_len fun i hi => pa_vec (by rwa [vec_len] at hi)
def lift1 (x : List Int) (c : Bar) : List Int := x.set c.a.toNat (max (pa x c.a.toNat) (pa x c.b.toNat - c.len))
def liftL (bs : List Bar) (x : List Int) : List Int := bs.foldl lift1 x
def liftN (bs : List Bar) : Nat → List Int → List Int
  | 0, x => x
  | n + 1, x => liftN bs n (liftL bs x)
def BIn (n : Nat) (c : Bar) : Prop := c.a.toNat < n ∧ c.b.toNat < n
def Holds (bs : List Bar) (x : List Int) : Prop := ∀ c ∈ bs, pa x c.b.toNat - pa x c.a.toNat ≤ c.len
theorem lift1_len {x : List Int} {c : Bar} : (lift1 x c).length = x.length := List.length_set
theorem liftL_len {bs : List Bar} : ∀ {x : List Int}, (liftL bs x).length = x.length := by
  induction bs with
  | nil => intro x; rfl
  | cons c bs ih => intro x; show (liftL bs (lift1 x c)).length = _; rw [ih, lift1_len]
theorem lift1_ge {x : List Int} {c : Bar} (i : Nat) : pa x i ≤ pa (lift1 x c) i := by
  unfold lift1
  rw [pa_set]
  split
  · next h => rw [← h.1]; omega
  · omega
theorem liftL_ge {bs : List Bar} : ∀ {x : List Int} (i : Nat), pa x i ≤ pa (liftL bs x) i := by
  induction bs with
  | nil => intro x i; exact Int.le_refl _
  | cons c bs ih => intro x i; exact Int.le_trans (lift1_ge i) (ih i)
theorem lift1_le {x p : List Int} {c : Bar} (h : ∀ i, pa x i ≤ pa p i) (hc : pa p c.b.toNat - pa p c.a.toNat ≤ c.len) (i : Nat) : pa (lift1 x c) i ≤ pa p i := by
  unfold lift1
  rw [pa_set]
  split
  · next e =>
    have h1 := h c.a.toNat
    have h2 := h c.b.toNat
    rw [← e.1]
    omega
  · exact h i
theorem liftL_le {p : List Int} {bs : List Bar} (hb : Holds bs p) : ∀ {x : List Int}, (∀ i, pa x i ≤ pa p i) → ∀ i, pa (liftL bs x) i ≤ pa p i := by
  induction bs with
  | nil => intro x h; exact h
  | cons c bs ih =>
    intro x h
    exact ih (fun c hc => hb c (List.mem_cons_of_mem _ hc)) (lift1_le h (hb c List.mem_cons_self))
/-- a round serves each bar -/
theorem liftL_bar {bs : List Bar} {c : Bar} (hc : c ∈ bs) : ∀ {x : List Int}, c.a.toNat < x.length → pa x c.b.toNat - c.len ≤ pa (liftL bs x) c.a.toNat := by
  induction bs with
  | nil => cases hc
  | cons d bs ih =>
    intro x hl
    show _ ≤ pa (liftL bs (lift1 x d)) _
    rcases List.mem_cons.mp hc with e | hc
    · subst e
      refine Int.le_trans ?_ (liftL_ge _)
      unfold lift1
      rw [pa_set, if_pos ⟨rfl, hl⟩]
      omega
    · have := ih hc (x := lift1 x d) (by rw [lift1_len]; exact hl)
      have := lift1_ge (x := x) (c := d) c.b.toNat
      omega
structure Feas (lo : List Int) (bs : List Bar) (x : List Int) : Prop where
  len : x.length = lo.length
  ge : ∀ i, i < lo.length → pa lo i ≤ pa x i
  bar : Holds bs x
theorem feas_min {lo : List Int} {bs : List Bar} : ∀ (m : Nat) (p : List Int), Feas lo bs p → p.sum - lo.sum ≤ m → ∃ L, Feas lo bs L ∧ ∀ q, Feas lo bs q → L.sum ≤ q.sum
  | m, p, hp, hm => by
    by_cases h : ∃ q, Feas lo bs q ∧ q.sum < p.sum
    · obtain ⟨q, hq, hl⟩ := h
      have h0 : lo.sum ≤ q.sum := by
        rw [← vec_self lo, ← vec_self q, hq.len]
        exact sum_vec_le _ hq.ge
      cases m with
      | zero => omega
      | succ m => exact feas_min m q hq (by omega)
    · refine ⟨p, hp, fun q hq => ?_⟩
      apply Classical.byContradiction
      intro hn
      exact h ⟨q, hq, by omega⟩
/-- how many places are already least -/
def same (x L : List Int) : Nat := (List.range L.length).countP fun i => decide (pa x i = pa L i)
theorem countP_lt {p q : Nat → Bool} : ∀ n, (∀ i, i < n → p i = true → q i = true) → (∃ i, i < n ∧ p i = false ∧ q i = true) → (List.range n).countP p < (List.range n).countP q
  | 0, _, h => by
    obtain ⟨i, hi, _⟩ := h
    omega
  | n + 1, h, hx => by
    have mono : (List.range n).countP p ≤ (List.range n).countP q := List.countP_mono_left fun i hi => h i (by have := List.mem_range.mp hi; omega)
    rw [List.range_succ, List.countP_append, List.countP_append, List.countP_singleton, List.countP_singleton]
    obtain ⟨i, hi, h1, h2⟩ := hx
    by_cases e : i = n
    · subst e
      rw [h1, h2]
      simp
      omega
    · have := countP_lt n (fun i hi => h i (by omega)) ⟨i, by omega, h1, h2⟩
      have h3 := h n (by omega)
      cases hp : p n with
      | true => rw [h3 hp]; omega
      | false =>
        rw [if_neg (by simp)]
        have : 0 ≤ (if q n = true then 1 else 0) := Nat.zero_le _
        omega
theorem same_le (x L : List Int) : same x L ≤ L.length := by
  unfold same
  exact Nat.le_trans List.countP_le_length (by simp)
theorem same_all {x L : List Int} (hl : x.length = L.length) (h : same x L = L.length) : x = L := by
  unfold same at h
  have h2 := (List.countP_eq_length (p := fun i => decide (pa x i = pa L i)) (l := List.range L.length)).mp (by rw [h]; simp)
  exact pa_ext hl fun i hi => of_decide_eq_true (h2 i (List.mem_range.mpr (by omega)))
/-- some place that is not yet least stands by a tight bar from a least one, or at its low -/
theorem one_more {lo L x : List Int} {bs : List Bar} (hi : ∀ c ∈ bs, BIn lo.length c) (hL : Feas lo bs L) (hm : ∀ q, Feas lo bs q → L.sum ≤ q.sum) (hx : x.length = lo.length) (hle : ∀ i, pa x i ≤ pa L i) (hlo : ∀ i, i < lo.length → pa lo i ≤ pa x i) (hne : x ≠ L) :
    ∃ c ∈ bs, pa x c.a.toNat < pa L c.a.toNat ∧ pa x c.b.toNat = pa L c.b.toNat ∧ pa L c.a.toNat = pa L c.b.toNat - c.len := by
  apply Classical.byContradiction
  intro hno
  have hno : ∀ c ∈ bs, pa x c.a.toNat < pa L c.a.toNat → pa x c.b.toNat = pa L c.b.toNat → pa L c.b.toNat - c.len < pa L c.a.toNat := by
    intro c hc h1 h2
    have h3 := hL.bar c hc
    have : pa L c.a.toNat ≠ pa L c.b.toNat - c.len := fun e => hno ⟨c, hc, h1, h2, e⟩
    omega
  let f : Nat → Int := fun i => if pa x i = pa L i then pa L i else pa L i - 1
  have fe : ∀ i, i < lo.length → pa (vec lo.length f) i = f i := fun i h => pa_vec h
  have hq : Feas lo bs (vec lo.length f) := by
    refine ⟨vec_len, fun i h => ?_, fun c hc => ?_⟩
    · rw [fe i h]
      have := hle i
      have := hlo i h
      simp only [f]
      split <;> omega
    · obtain ⟨ha, hb⟩ := hi c hc
      rw [fe _ ha, fe _ hb]
      have h1 := hle c.a.toNat
      have h2 := hle c.b.toNat
      have h3 := hL.bar c hc
      have h4 := hno c hc
      simp only [f]
      split <;> split <;> omega
  have hd : ∃ i, i < lo.length ∧ pa x i ≠ pa L i := by
    apply Classical.byContradiction
    intro hn
    refine hne (pa_ext (by rw [hx, hL.len]) fun i h => ?_)
    apply Classical.byContradiction
    intro h2
    exact hn ⟨i, by omega, h2⟩
  obtain ⟨i, hil, hix⟩ := hd
  have hs := hm _ hq
  have : (vec lo.length f).sum < L.sum := by
    have e := vec_self L
    rw [hL.len] at e
    rw [← e]
    refine sum_vec_lt _ (fun j _ => ?_) ⟨i, hil, ?_⟩
    · show f j ≤ pa L j
      simp only [f]
      split <;> omega
    · show f i < pa L i
      simp only [f]
      rw [if_neg hix]
      omega
  omega
theorem rounds {lo L : List Int} {bs : List Bar} (hi : ∀ c ∈ bs, BIn lo.length c) (hL : Feas lo bs L) (hm : ∀ q, Feas lo bs q → L.sum ≤ q.sum) :
    ∀ (k : Nat) (x : List Int), x.length = lo.length → (∀ i, pa x i ≤ pa L i) → (∀ i, i < lo.length → pa lo i ≤ pa x i) → lo.length ≤ same x L + k → liftN bs k x = L
  | 0, x, hx, hle, hlo, hk => by
    have h1 := same_le x L
    show x = L
    exact same_all (by rw [hx, hL.len]) (by have := hL.len; omega)
  | k + 1, x, hx, hle, hlo, hk => by
    show liftN bs k (liftL bs x) = L
    refine rounds hi hL hm k _ (by rw [liftL_len]; exact hx) (liftL_le hL.bar hle) (fun i h => Int.le_trans (hlo i h) (liftL_ge i)) ?_
    have mono : ∀ i, i < L.length → decide (pa x i = pa L i) = true → decide (pa (liftL bs x) i = pa L i) = true := by
      intro i _ h
      have h := of_decide_eq_true h
      have h1 := liftL_ge (bs := bs) (x := x) i
      have h2 := liftL_le hL.bar hle i
      exact decide_eq_true (by omega)
    by_cases hne : x = L
    · have : same x L ≤ same (liftL bs x) L := List.countP_mono_left fun i hi => mono i (List.mem_range.mp hi)
      have h3 : same x L = L.length := by
        rw [hne]
        unfold same
        rw [List.countP_eq_length.mpr (by intro i _; simp)]
        simp
      have := hL.len
      omega
    · obtain ⟨c, hc, h1, h2, h3⟩ := one_more hi hL hm hx hle hlo hne
      obtain ⟨ha, hb⟩ := hi c hc
      have : same x L < same (liftL bs x) L := by
        refine countP_lt _ mono ⟨c.a.toNat, by rw [hL.len]; exact ha, decide_eq_false (by omega), decide_eq_true ?_⟩
        have h4 := liftL_bar hc (x := x) (by rw [hx]; exact ha)
        have h5 := liftL_le hL.bar hle c.a.toNat
        omega
      omega
theorem least {lo p : List Int} {bs : List Bar} (hi : ∀ c ∈ bs, BIn lo.length c) (hp : Feas lo bs p) : Feas lo bs (liftN bs lo.length lo) := by
  obtain ⟨L, hL, hm⟩ := feas_min (p.sum - lo.sum).toNat p hp (by omega)
  have h0 : ∀ i, pa lo i ≤ pa L i := by
    intro i
    by_cases h : i < lo.length
    · exact hL.ge i h
    · unfold pa
      rw [List.getD_eq_getElem?_getD, List.getD_eq_getElem?_getD, List.getElem?_eq_none (by omega), List.getElem?_eq_none (by have := hL.len; omega)]
      exact Int.le_refl _
  rw [rounds hi hL hm lo.length lo rfl h0 (fun _ _ => Int.le_refl _) (by omega)]
  exact hL
end Tg
namespace Tg
open PySem PySem.Spec PyProof.Rows L2
noncomputable def b_stretch_of (C : Orc) : DS := (sSeq (sRet (eOp oSub (eOp oIx (eVar 1) (eOp oIx (eVar 0) (eC (.int 1)))) (eOp oIx (eVar 1) (eOp oIx (eVar 0) (eC (.int 0))))))
    sNil)
noncomputable def b_l_integer (C : Orc) : DS := (sSeq (sRet (eAnd (eIsi .int (eVar 0)) (eAnd (eNot (eIsi .bool (eVar 0))) (eChain oLe oLe (eVar 1) (eVar 0) (eVar 2)))))
    sNil)
noncomputable def b_l_sized (C : Orc) : DS := (sSeq (sRet (eAnd (eIsi .tuple (eVar 0)) (eChain oLe oLe (eVar 1) (eBlt gLen (aCons (eVar 0) aNil)) (eVar 2))))
    sNil)
noncomputable def b_l_stretches (C : Orc) : DS := (sSeq (sRet (eBlt gTuple (aCons (eLc [2] (iSeq (eVar 0)) (gN 2) bYes (eOp oSub (eOp oIx (eVar 1) (eOp oIx (eVar 2) (eC (.int 1)))) (eOp oIx (eVar 1) (eOp oIx (eVar 2) (eC (.int 0)))))) aNil)))
    sNil)
noncomputable def b_l_is_placement_f1 (C : Orc) : DS := (sSeq (sIf (bNot (bVal (eCall C "_law_integer" (aCons (eVar 2) (aCons (eOp oIx (eVar 3) (eC (.int 0))) (aCons (eOp oIx (eVar 3) (eC (.int 1))) aNil)))))) (sSeq (sRet (eC (.bl false)))
    sNil) sNil)
    sNil)
noncomputable def b_l_is_placement (C : Orc) : DS := (sSeq (sIf (bNot (bVal (eCall C "_law_sized" (aCons (eVar 1) (aCons (eBlt gLen (aCons (eOp oIx (eVar 0) (eC (.int 0))) aNil)) (aCons (eBlt gLen (aCons (eOp oIx (eVar 0) (eC (.int 0))) aNil)) aNil)))))) (sSeq (sRet (eC (.bl false)))
    sNil) sNil)
    (sSeq (sFor (iZip (eVar 1) (eOp oIx (eVar 0) (eC (.int 0)))) (gT 2 (gsCons (gN 2) (gsCons (gN 3) gsNil))) (b_l_is_placement_f1 C))
    (sSeq (sRet (eOp oEq (eLc [4, 5] (iZip (eCall C "_law_stretches" (aCons (eOp oIx (eVar 0) (eC (.int 2))) (aCons (eVar 1) aNil))) (eOp oIx (eVar 0) (eC (.int 2)))) (gT 2 (gsCons (gN 4) (gsCons (gN 5) gsNil))) (bVal (eOp oGt (eVar 4) (eOp oIx (eVar 5) (eC (.int 2))))) (eC (.int 1))) (eLst aNil)))
    sNil)))
theorem for_rel {α : Type} {tg : DG} {body : DS} (f : α → D) (P : List α → En → Sto → Prop)
    (step : ∀ x xs env st, P (x :: xs) env st → ∃ e s, tg (f x) env st = some (e, s) ∧ ∃ e2 s2, body e s = some (.nx e2, s2) ∧ P xs e2 s2) :
    ∀ xs env st, P xs env st → ∃ env' st', forL always tg body (xs.map f) env st = some (.nx env', st') ∧ P [] env' st'
  | [], env, st, h => ⟨env, st, rfl, h⟩
  | x :: xs, env, st, h => by
    obtain ⟨e, s, h1, e2, s2, h2, h3⟩ := step x xs env st h
    obtain ⟨env', st', h4, h5⟩ := for_rel f P step xs e2 s2 h3
    refine ⟨env', st', ?_, h5⟩
    rw [List.map_cons]
    unfold forL
    simp only [show always st = true from rfl, if_true, h1, Option.bind_some, h2, h4]
theorem lc_filter {α : Type} {tg : DG} {ifs : DB} {elt : DE} {env : En} {s : Sto} (f g : α → D) (p : α → Bool) : ∀ (xs : List α), (∀ x ∈ xs, ∃ e, tg (f x) env s = some (e, s) ∧ ifs e s = some (p x, s) ∧ (p x = true → elt e s = some (g x, s))) → lcL always tg ifs elt env (xs.map f) s = some ((xs.filter p).map g, s)
  | [], _ => by simp [lcL, always]
  | x :: xs, h => by
    obtain ⟨e, h1, h2, h3⟩ := h x List.mem_cons_self
    have ih := lc_filter f g p xs fun y hy => h y (List.mem_cons_of_mem _ hy)
    rw [List.map_cons]
    unfold lcL
    simp only [show always s = true from rfl, if_true, h1, Option.bind_some, h2]
    cases hp : p x with
    | true => simp only [if_true, h3 hp, Option.bind_some, ih, Option.map_some, List.filter_cons_of_pos hp, List.map_cons]
    | false =>
      rw [List.filter_cons, hp]
      simp only [Bool.false_eq_true, if_false, ih]
section
variable {st : Sto} {c : List D} {x : List Int} {i v : Int}
end
abbrev rigD (rs : List Ring) (cs : List Cord) (bs : List Bar) : D := .tup [.tup (rs.map ringD), .tup (cs.map cordD), .tup (bs.map barD)]
abbrev plcD (x : List Int) : D := .tup (x.map D.int)
def BIx (n : Nat) (c : Bar) : Prop := 0 ≤ c.a ∧ c.a < n ∧ 0 ≤ c.b ∧ c.b < n
theorem BIx.in {n : Nat} {c : Bar} (h : BIx n c) : BIn n c := by
  obtain ⟨a, b, c, d⟩ := h
  constructor <;> omega
section
variable {F : String → Option Fn}
theorem lay_ints : ∀ x : List Int, lays (x.map D.int) = true
  | [] => rfl
  | _ :: x => by simp only [List.map_cons, lays, lay, lay_ints x, Bool.and_self]
theorem eqD_ints : ∀ x y : List Int, PyData.eqvAll (pyDs (x.map D.int)) (pyDs (y.map D.int)) = decide (x = y)
  | [], [] => by simp [pyDs, PyData.eqvAll]
  | [], _ :: _ => by simp [pyDs, PyData.eqvAll]
  | _ :: _, [] => by simp [pyDs, PyData.eqvAll]
  | a :: x, b :: y => by
    simp only [List.map_cons, pyDs, pyD, PyData.eqvAll, PyData.eqv, eqD_ints x y]
    by_cases h : a = b <;> by_cases h2 : x = y <;> simp [h, h2]
def losL (rs : List Ring) : List Int := rs.map Ring.lo
theorem pairs_zip {α β : Type} (f : α → D) (g : β → D) : ∀ (xs : List α) (ys : List β), pairsD (xs.map f) (ys.map g) = (xs.zip ys).map fun q => .tup [f q.1, g q.2]
  | [], _ => by simp [pairsD]
  | _ :: _, [] => by simp [pairsD]
  | x :: xs, y :: ys => by
    rw [List.map_cons, List.map_cons, List.zip_cons_cons, List.map_cons, ← pairs_zip f g xs ys]
    rfl
end
end Tg
namespace Tg
open PySem PySem.Spec PyProof.Rows L2
def hisL (rs : List Ring) : List Int := rs.map Ring.hi
structure Plc (rs : List Ring) (bs : List Bar) (p : List Int) : Prop where
  len : p.length = rs.length
  lo : ∀ i, i < rs.length → pa (losL rs) i ≤ pa p i
  hi : ∀ i, i < rs.length → pa p i ≤ pa (hisL rs) i
  bar : Holds bs p
theorem pa_get {x : List Int} {i : Nat} (h : i < x.length) : pa x i = x[i] := by
  unfold pa
  rw [List.getD_eq_getElem?_getD, List.getElem?_eq_getElem h]
  rfl
theorem pa_map {α : Type} {f : α → Int} {xs : List α} {i : Nat} (h : i < xs.length) : pa (xs.map f) i = f xs[i] := by
  rw [pa_get (by simpa using h)]
  simp
def inB (q : Int × Ring) : Bool := decide (q.2.lo ≤ q.1) && decide (q.1 ≤ q.2.hi)
def plcB (rs : List Ring) (bs : List Bar) (y : List Int) : Bool := decide (y.length = rs.length) && (((y.zip rs).map inB).all id && (bs.map fun c => decide (gap y c.a c.b ≤ c.len)).all id)
theorem plcB_iff {rs : List Ring} {bs : List Bar} {y : List Int} : plcB rs bs y = true ↔ Plc rs bs y := by
  unfold plcB
  rw [Bool.and_eq_true, Bool.and_eq_true, decide_eq_true_iff, List.all_eq_true, List.all_eq_true]
  constructor
  · rintro ⟨hl, h1, h2⟩
    have h3 : ∀ i (hi : i < rs.length), rs[i].lo ≤ pa y i ∧ pa y i ≤ rs[i].hi := fun i hi => by
      have hz : i < (y.zip rs).length := by rw [List.length_zip]; omega
      have hm := List.getElem_mem hz
      rw [List.getElem_zip] at hm
      have := h1 _ (List.mem_map.mpr ⟨_, hm, rfl⟩)
      unfold inB at this
      simp only [id, Bool.and_eq_true, decide_eq_true_eq] at this
      rw [pa_get (by omega)]
      exact this
    refine ⟨hl, fun i hi => ?_, fun i hi => ?_, fun c hc => ?_⟩
    · unfold losL
      rw [pa_map hi]
      exact (h3 i hi).1
    · unfold hisL
      rw [pa_map hi]
      exact (h3 i hi).2
    · have := h2 _ (List.mem_map.mpr ⟨c, hc, rfl⟩)
      exact of_decide_eq_true this
  · rintro h
    refine ⟨h.len, fun b hb => ?_, fun b hb => ?_⟩
    · obtain ⟨q, hq, rfl⟩ := List.mem_map.mp hb
      obtain ⟨i, hi, e⟩ := List.mem_iff_getElem.mp hq
      have hl := h.len
      rw [List.length_zip] at hi
      rw [List.getElem_zip] at e
      have h1 := h.lo i (by omega)
      have h2 := h.hi i (by omega)
      unfold losL at h1
      unfold hisL at h2
      rw [pa_map (by omega), pa_get (by omega)] at h1
      rw [pa_map (by omega), pa_get (by omega)] at h2
      rw [← e]
      unfold inB
      simp only [id, Bool.and_eq_true, decide_eq_true_eq]
      exact ⟨h1, h2⟩
    · obtain ⟨c, hc, rfl⟩ := List.mem_map.mp hb
      exact decide_eq_true (h.bar c hc)
section
variable {F : String → Option Fn}
theorem linteger_spec (h1 : F "_law_integer" = some ⟨3, 3, b_l_integer⟩ := by first | assumption | rfl) (n : Nat) (v lo hi : Int) (st : Sto) : callN F (n + 1) "_law_integer" [.int v, .int lo, .int hi] st = some (.bl (decide (lo ≤ v) && decide (v ≤ hi)), st) := by
  rw [call_eq h1 rfl]
  have e0 : startE 3 [.int v, .int lo, .int hi] = [some (.int v), some (.int lo), some (.int hi)] := rfl
  simp only [e0, b_l_integer]
  repeat (first | walk_at "ev" | simp only [isTy, tk, isTk, decide_true, decide_false, Bool.not_true, Bool.not_false, e_kfnR])
  generalize decide (lo ≤ _) = p
  cases p <;> repeat (first | walk_at "ev" | simp only [e_kfnR, Bool.true_and, Bool.false_and])
theorem sized_spec (h1 : F "_law_sized" = some ⟨3, 3, b_l_sized⟩ := by first | assumption | rfl) (n : Nat) (xs : List D) (lo hi : Int) (st : Sto) : callN F (n + 1) "_law_sized" [.tup xs, .int lo, .int hi] st = some (.bl (decide (lo ≤ (xs.length : Int)) && decide ((xs.length : Int) ≤ hi)), st) := by
  rw [call_eq h1 rfl]
  have e0 : startE 3 [.tup xs, .int lo, .int hi] = [some (.tup xs), some (.int lo), some (.int hi)] := rfl
  simp only [e0, b_l_sized]
  repeat (first | walk_at "ev" | simp only [isTy, tk, isTk, decide_true, decide_false, Bool.not_true, Bool.not_false, e_kfnR])
  generalize decide (lo ≤ _) = p
  cases p <;> repeat (first | walk_at "ev" | simp only [e_kfnR, Bool.true_and, Bool.false_and])
theorem size_eq {a b : Nat} : (decide ((b : Int) ≤ (a : Int)) && decide ((a : Int) ≤ (b : Int))) = decide (a = b) := by
  by_cases h : a = b
  · subst h; simp
  · rw [decide_eq_false h]
    by_cases h2 : (b : Int) ≤ a
    · rw [decide_eq_false (show ¬ ((a : Int) ≤ b) by omega), Bool.and_false]
    · rw [decide_eq_false h2, Bool.false_and]
theorem stretch_bar_spec (h1 : F "stretch_of" = some ⟨2, 2, b_stretch_of⟩ := by first | assumption | rfl) (n : Nat) {y : List Int} {c : Bar} (h : BIx y.length c) (st : Sto) : callN F (n + 1) "stretch_of" [barD c, plcD y] st = some (.int (gap y c.a c.b), st) := by
  obtain ⟨a0, a1, b0, b1⟩ := h
  rw [call_eq h1 rfl]
  have e0 : startE 2 [barD c, plcD y] = [some (barD c), some (plcD y)] := rfl
  have ea := pat_at (ps := y) a0 a1
  have eb := pat_at (ps := y) b0 b1
  simp only [e0]
  simp only [b_stretch_of, barD]
  repeat (first | walk_at "ev" | simp only [ea, eb, e_kfnR])
  rfl
def CIx (n : Nat) (c : Cord) : Prop := 0 ≤ c.a ∧ c.a < n ∧ 0 ≤ c.b ∧ c.b < n
theorem lstretches_bars (h1 : F "_law_stretches" = some ⟨2, 3, b_l_stretches⟩ := by first | assumption | rfl) (n : Nat) {y : List Int} {bs : List Bar} (h : ∀ c ∈ bs, BIx y.length c) (st : Sto) : callN F (n + 1) "_law_stretches" [.tup (bs.map barD), plcD y] st = some (plcD (bs.map fun c => gap y c.a c.b), st) := by
  rw [call_eq h1 rfl]
  have e0 : startE 3 [.tup (bs.map barD), plcD y] = [some (.tup (bs.map barD)), some (plcD y), none] := rfl
  simp only [e0, b_l_stretches]
  walk_at "ev"
  rw [lc_map barD (fun c => .int (gap y c.a c.b)) bs ?h]
  case h =>
    intro c hc
    obtain ⟨a0, a1, b0, b1⟩ := h c hc
    have ea := pat_at (ps := y) a0 a1
    have eb := pat_at (ps := y) b0 b1
    refine ⟨_, rfl, rfl, ?_⟩
    simp only [barD]
    repeat (first | walk_at "ev" | simp only [ea, eb])
    rfl
  repeat (first | walk_at "ev" | simp only [e_kfnR])
  simp only [plcD, List.map_map, Function.comp_def]
theorem lis_placement_spec (h1 : F "_law_integer" = some ⟨3, 3, b_l_integer⟩ := by first | assumption | rfl) (h2 : F "_law_sized" = some ⟨3, 3, b_l_sized⟩ := by first | assumption | rfl) (h3 : F "_law_stretches" = some ⟨2, 3, b_l_stretches⟩ := by first | assumption | rfl)
    (h4 : F "_law_is_placement" = some ⟨2, 6, b_l_is_placement⟩ := by first | assumption | rfl) (n : Nat) {rs : List Ring} {cs : D} {bs : List Bar} {y : List Int} (hb : ∀ c ∈ bs, BIx rs.length c) (st : Sto) :
    callN F (n + 2) "_law_is_placement" [.tup [.tup (rs.map ringD), cs, .tup (bs.map barD)], plcD y] st = some (.bl (plcB rs bs y), st) := by
  rw [call_eq h4 rfl]
  generalize hR : D.tup [.tup (rs.map ringD), cs, .tup (bs.map barD)] = R
  have u : ∀ (s : Sto) i, oIx s R (.int i) = atI [.tup (rs.map ringD), cs, .tup (bs.map barD)] i := fun s i => by rw [← hR]; rfl
  have e0 : startE 6 [R, plcD y] = [some R, some (plcD y), none, none, none, none] := rfl
  have t1 := sized_spec h2 n (y.map D.int) (rs.length : Int) (rs.length : Int) st
  rw [List.length_map, size_eq] at t1
  simp only [e0, b_l_is_placement]
  repeat (first | walk_at "ev" | simp only [e_gtT, if_true, reduceIte, Nat.reduceAdd, t1, u])
  unfold plcB
  by_cases hl : y.length = rs.length
  · rw [decide_eq_true hl]
    repeat (first | walk_at "ev" | simp only [Bool.not_true, pairs_zip, u])
    have lp : ∀ (qs : List (Int × Ring)) (v2 v3 : Option D), (∃ w2 w3, forL always (gT 2 (gsCons (gN 2) (gsCons (gN 3) gsNil))) (b_l_is_placement_f1 (callN F (n + 1))) (qs.map fun q => .tup [.int q.1, ringD q.2]) [some R, some (plcD y), v2, v3, none, none] st = some (.nx [some R, some (plcD y), w2, w3, none, none], st) ∧ (qs.map inB).all id = true) ∨
        (forL always (gT 2 (gsCons (gN 2) (gsCons (gN 3) gsNil))) (b_l_is_placement_f1 (callN F (n + 1))) (qs.map fun q => .tup [.int q.1, ringD q.2]) [some R, some (plcD y), v2, v3, none, none] st = some (.rt (.bl false), st) ∧ (qs.map inB).all id = false) := by
      intro qs
      induction qs with
      | nil => intro v2 v3; exact .inl ⟨v2, v3, rfl, rfl⟩
      | cons q qs ih =>
        intro v2 v3
        have k := linteger_spec h1 n q.1 q.2.lo q.2.hi st
        have ui : ∀ i, oIx st (ringD q.2) (.int i) = atI [.int q.2.lo, .int q.2.hi, .int q.2.ld] i := fun i => rfl
        have go : forL always (gT 2 (gsCons (gN 2) (gsCons (gN 3) gsNil))) (b_l_is_placement_f1 (callN F (n + 1))) ((q :: qs).map fun q => .tup [.int q.1, ringD q.2]) [some R, some (plcD y), v2, v3, none, none] st =
            if inB q then forL always (gT 2 (gsCons (gN 2) (gsCons (gN 3) gsNil))) (b_l_is_placement_f1 (callN F (n + 1))) (qs.map fun q => .tup [.int q.1, ringD q.2]) [some R, some (plcD y), some (.int q.1), some (ringD q.2), none, none] st else some (.rt (.bl false), st) := by
          rw [List.map_cons]
          conv => lhs; unfold forL
          simp only [show always st = true from rfl, if_true]
          generalize hT : forL always (gT 2 (gsCons (gN 2) (gsCons (gN 3) gsNil))) (b_l_is_placement_f1 (callN F (n + 1))) (qs.map fun q => D.tup [.int q.1, ringD q.2]) = T
          clear hT
          simp only [b_l_is_placement_f1]
          repeat (first | walk_at "ev" | simp only [e_gtT, if_true, reduceIte, Nat.reduceAdd, k, ui])
          unfold inB
          cases hq : (decide (q.2.lo ≤ q.1) && decide (q.1 ≤ q.2.hi)) with
          | true => repeat (first | walk_at "ev" | simp only [Bool.not_true, if_true])
          | false => repeat (first | walk_at "ev" | simp only [Bool.not_false, if_false, Bool.false_eq_true])
        rw [go, List.map_cons, List.all_cons]
        cases hq : inB q with
        | true =>
          simp only [if_true, id, Bool.true_and]
          exact ih _ _
        | false => exact .inr ⟨by simp, by simp⟩
    rcases lp (y.zip rs) none none with ⟨w2, w3, k, hk⟩ | ⟨k, hk⟩
    · rw [k, hk]
      have st1 := lstretches_bars h3 n (y := y) (bs := bs) (by rw [hl]; exact hb) st
      have zp : pairsD ((bs.map fun c => gap y c.a c.b).map D.int) (bs.map barD) = bs.map fun c => .tup [.int (gap y c.a c.b), barD c] := by
        rw [List.map_map]
        exact pairs_map _ _ bs
      repeat (first | walk_at "ev" | simp only [st1, u, zp])
      rw [lc_filter (fun c => D.tup [.int (gap y c.a c.b), barD c]) (fun _ => .int 1) (fun c => decide (c.len < gap y c.a c.b)) bs ?h]
      case h =>
        intro c hc
        refine ⟨_, rfl, ?_, fun _ => rfl⟩
        have u3 : ∀ i, oIx st (barD c) (.int i) = atI [.int c.a, .int c.b, .int c.len] i := fun i => rfl
        repeat (first | walk_at "ev" | simp only [u3])
      have eqe : ∀ xs : List Int, oEq st (.lst (xs.map D.int)) (.lst []) = some (.bl (decide (xs = []))) := by
        intro xs
        show (if okD (.lst (xs.map D.int)) && okD (.lst []) then some (D.bl (eqD (.lst (xs.map D.int)) (.lst []))) else _) = _
        have o1 : okD (.lst (xs.map D.int)) = true := by
          unfold okD
          simp only [lay, lay_ints, dep, dep_ints, Bool.true_and]
          decide
        rw [o1, show okD (.lst []) = true from rfl]
        unfold eqD
        simp only [pyD, PyData.eqv]
        have := eqD_ints xs []
        simp only [List.map_nil] at this
        rw [this]
        rfl
      have eqe := eqe (((bs.filter fun c => decide (c.len < gap y c.a c.b)).map fun _ => 1))
      rw [List.map_map] at eqe
      simp only [Function.comp_def] at eqe
      repeat (first | walk_at "ev" | simp only [eqe, e_kfnR, Bool.true_and])
      rw [show decide ((bs.filter fun c => decide (c.len < gap y c.a c.b)).map (fun _ => (1 : Int)) = []) = (bs.map fun c => decide (gap y c.a c.b ≤ c.len)).all id from ?_]
      rw [List.all_map, Bool.eq_iff_iff, decide_eq_true_iff, List.map_eq_nil_iff, List.filter_eq_nil_iff, List.all_eq_true]
      simp only [decide_eq_true_eq, Function.comp_def, id]
      exact ⟨fun h c hc => by have := h c hc; omega, fun h c hc => by have := h c hc; omega⟩
    · rw [k, hk]
      repeat (first | walk_at "ev" | simp only [e_kfnR, Bool.true_and, Bool.false_and])
  · rw [decide_eq_false hl]
    repeat (first | walk_at "ev" | simp only [Bool.not_false, e_kfnR, Bool.false_and])
end
end Tg
namespace Tg
open PySem PySem.Spec PyProof.Rows L2
section
variable {tg : DG} {body : DS} {d v : D} {ds : List D} {env : En} {st : Sto}
end
structure VRig (rs : List Ring) (cs : List Cord) (bs : List Bar) : Prop where
  r1 : 1 ≤ rs.length
  r2 : rs.length ≤ 8
  c1 : cs.length ≤ 12
  b1 : bs.length ≤ 8
  ring : ∀ r ∈ rs, -2000000000000 ≤ r.lo ∧ r.lo ≤ r.hi ∧ r.hi ≤ 2000000000000 ∧ -1000000000000 ≤ r.ld ∧ r.ld ≤ 1000000000000
  cord : ∀ c ∈ cs, CIx rs.length c ∧ c.a ≠ c.b ∧ -2000000000000 ≤ c.len ∧ c.len ≤ 2000000000000 ∧ 1 ≤ c.w ∧ c.w ≤ 1000000000
  bar : ∀ c ∈ bs, BIx rs.length c ∧ c.a ≠ c.b ∧ -2000000000000 ≤ c.len ∧ c.len ≤ 2000000000000
/-- a ring as the document allows it -/
def RStr (r : Ring) : Prop := -1000000000000 ≤ r.lo ∧ r.lo ≤ r.hi ∧ r.hi ≤ 1000000000000 ∧ -1000000000 ≤ r.ld ∧ r.ld ≤ 1000000000
theorem VRig.ix {rs : List Ring} {cs : List Cord} {bs : List Bar} (h : VRig rs cs bs) : ∀ c ∈ bs, BIx rs.length c := fun c hc => (h.bar c hc).1
section
variable {F : String → Option Fn}
end
end Tg
namespace Tg
open PySem PySem.Spec PyProof.Rows L2
section
variable {C : Orc} {s : Dr} {b : Int}
theorem Draws.n (dr : Draws C) (d : DOk s b) (o : Sto) (many : Int) (h1 : 1 ≤ b) (h2 : 0 < many) (h3 : many < 18446744073709551616) :
    ∃ r s', C "_law_next" [.loc 1, .int many] (mkSt s o) = some (.int r, mkSt s' o) ∧ 0 ≤ r ∧ r < many ∧ DOk s' (b - 1) := dr.nx s (b - 1) o many (d.mono (by omega)) (by omega) h2 h3
theorem Amounts.n (am : Amounts C) (d : DOk s b) (o : Sto) (size : Int) (h1 : 3 ≤ b) (h2 : 0 ≤ size) (h3 : size < 10000000000000) :
    ∃ r s', C "_law_amount" [.loc 1, .int size] (mkSt s o) = some (.int r, mkSt s' o) ∧ 0 ≤ r ∧ r ≤ size ∧ DOk s' (b - 3) := am.am s (b - 3) o size (d.mono (by omega)) (by omega) h2 h3
theorem Pairs.n (pr : Pairs C) (d : DOk s b) (o : Sto) (c : Int) (h1 : 2 ≤ b) (h2 : 1 < c) (h3 : c < 1000) :
    ∃ i j s', C "_law_pair" [.loc 1, .int c] (mkSt s o) = some (.tup [.int i, .int j], mkSt s' o) ∧ 0 ≤ i ∧ i < c ∧ 0 ≤ j ∧ j < c ∧ i ≠ j ∧ DOk s' (b - 2) := pr.pr s (b - 2) o c (d.mono (by omega)) (by omega) h2 h3
theorem Rigs.n (rg : Rigs C) (d : DOk s b) (o : Sto) (most size : Int) (h1 : 300 ≤ b) (h2 : 1 ≤ most) (h3 : most ≤ 8) (h4 : 0 ≤ size) (h5 : size ≤ 1000000000000) :
    ∃ R s' g, C "_law_rig" [.loc 1, .int most, .int size] (mkSt s o) = some (.lst [R.d, R.pd], mkSt s' (o ++ g)) ∧ RigOk most R ∧ DOk s' (b - 300) := rg.rg s (b - 300) o most size (d.mono (by omega)) (by omega) h2 h3 h4 h5
structure Ones (C : Orc) : Prop where
  on : ∀ (s : Dr) (b : Int) (o : Sto) (it : D) (xs : List D), DOk s b → 1 ≤ b → (it = .lst xs ∨ it = .tup xs) → 0 < xs.length → xs.length ≤ 1000000 → ∃ x s', C "_law_one" [.loc 1, it] (mkSt s o) = some (x, mkSt s' o) ∧ x ∈ xs ∧ DOk s' (b - 1)
theorem ones_of {F : String → Option Fn} (hN : F "_law_next" = some ⟨2, 9, b_l_next⟩ := by first | assumption | rfl) (hF : F "_law_one" = some ⟨2, 2, b_l_one⟩ := by first | assumption | rfl) (n : Nat) : Ones (callN F (n + 2)) :=
  ⟨fun s b o it xs h1 h2 h3 h4 h5 => one_spec hN hF n (b := b - 1) (h1.mono (by omega)) (by omega) o h3 h4 h5⟩
theorem Ones.l (on : Ones C) (d : DOk s b) (o : Sto) (xs : List D) (h1 : 1 ≤ b) (h2 : 0 < xs.length) (h3 : xs.length ≤ 1000000) : ∃ x s', C "_law_one" [.loc 1, .lst xs] (mkSt s o) = some (x, mkSt s' o) ∧ x ∈ xs ∧ DOk s' (b - 1) := on.on s b o _ xs d h1 (.inl rfl) h2 h3
theorem Ones.t (on : Ones C) (d : DOk s b) (o : Sto) (xs : List D) (h1 : 1 ≤ b) (h2 : 0 < xs.length) (h3 : xs.length ≤ 1000000) : ∃ x s', C "_law_one" [.loc 1, .tup xs] (mkSt s o) = some (x, mkSt s' o) ∧ x ∈ xs ∧ DOk s' (b - 1) := on.on s b o _ xs d h1 (.inr rfl) h2 h3
end
def Rel2 {α β : Type} (Q : α → β → Prop) : List α → List β → Prop
  | [], [] => True
  | x :: xs, y :: ys => Q x y ∧ Rel2 Q xs ys
  | _, _ => False
theorem Rel2.len {α β : Type} {Q : α → β → Prop} : ∀ {xs : List α} {ys : List β}, Rel2 Q xs ys → ys.length = xs.length
  | [], [], _ => rfl
  | _ :: _, _ :: _, h => by rw [List.length_cons, List.length_cons, Rel2.len h.2]
  | [], _ :: _, h => False.elim h
  | _ :: _, [], h => False.elim h
theorem Rel2.get {α β : Type} {Q : α → β → Prop} : ∀ {xs : List α} {ys : List β}, Rel2 Q xs ys → ∀ i (h1 : i < xs.length) (h2 : i < ys.length), Q xs[i] ys[i]
  | [], [], _, i, h1, _ => by simp at h1
  | _ :: _, _ :: _, h, 0, _, _ => h.1
  | _ :: _, _ :: _, h, i + 1, h1, h2 => Rel2.get h.2 i (by simpa using h1) (by simpa using h2)
  | [], _ :: _, h, _, _, _ => False.elim h
  | _ :: _, [], h, _, _, _ => False.elim h
theorem Rel2.mem {α β : Type} {Q : α → β → Prop} : ∀ {xs : List α} {ys : List β}, Rel2 Q xs ys → ∀ y ∈ ys, ∃ x ∈ xs, Q x y
  | [], [], _, y, h => by simp at h
  | x :: xs, z :: ys, h, y, hy => by
    rcases List.mem_cons.mp hy with e | hy
    · subst e
      exact ⟨x, List.mem_cons_self, h.1⟩
    · obtain ⟨x', hx, q⟩ := Rel2.mem h.2 y hy
      exact ⟨x', List.mem_cons_of_mem _ hx, q⟩
  | [], _ :: _, h, _, _ => False.elim h
  | _ :: _, [], h, _, _ => False.elim h
/-- the results as images -/
theorem Rel2.pre {α β : Type} {f : β → D} {Q : α → β → Prop} : ∀ {xs : List α} {ys : List D}, Rel2 (fun x y => ∃ z, y = f z ∧ Q x z) xs ys → ∃ zs : List β, ys = zs.map f ∧ Rel2 Q xs zs
  | [], [], _ => ⟨[], rfl, trivial⟩
  | x :: xs, y :: ys, h => by
    obtain ⟨⟨z, rfl, q⟩, h⟩ := h
    obtain ⟨zs, rfl, r⟩ := Rel2.pre h
    exact ⟨z :: zs, rfl, q, r⟩
  | [], _ :: _, h => False.elim h
  | _ :: _, [], h => False.elim h
theorem RigOk.v {R : Rig} (h : RigOk 8 R) : VRig R.rings R.cords R.bars := by
  have hr : R.rings.length = R.qs.length := rigs_len R
  have hp : R.ps.length = R.qs.length := ps_len R
  refine ⟨by rw [hr]; exact h.n1, by rw [hr]; have := h.n2; omega, h.c1, h.b1, fun r hm => ?_, fun c hc => ?_, fun c hc => ?_⟩
  · obtain ⟨q, hq, rfl⟩ := List.mem_map.mp hm
    obtain ⟨h1, h2, h3, h4, h5, h6⟩ := h.q q hq
    exact ⟨by omega, by omega, by omega, by omega, by omega⟩
  · obtain ⟨a0, a1, b0, b1, ne, l0, l1, w0, w1⟩ := h.c2 c hc
    exact ⟨⟨a0, by rw [hr]; exact a1, b0, by rw [hr]; exact b1⟩, ne, l0, l1, w0, w1⟩
  · obtain ⟨a0, a1, b0, b1, ne, l0, l1, _⟩ := h.b2 c hc
    exact ⟨⟨a0, by rw [hr, ← hp]; exact a1, b0, by rw [hr, ← hp]; exact b1⟩, ne, l0, l1⟩
theorem RigOk.str {R : Rig} (h : RigOk 8 R) : ∀ r ∈ R.rings, RStr r := fun r hm => by
  obtain ⟨q, hq, rfl⟩ := List.mem_map.mp hm
  obtain ⟨h1, h2, h3, h4, h5, h6⟩ := h.q q hq
  exact ⟨h3, by omega, h4, h5, h6⟩
theorem RigOk.plc {R : Rig} (h : RigOk 8 R) : Plc R.rings R.bars R.ps := by
  have hr : R.rings.length = R.qs.length := rigs_len R
  have hp : R.ps.length = R.qs.length := ps_len R
  have hq : ∀ i (hi : i < R.rings.length), R.rings[i].lo ≤ pa R.ps i ∧ pa R.ps i ≤ R.rings[i].hi := by
    intro i hi
    have hi2 : i < R.qs.length := by omega
    obtain ⟨h1, h2, _⟩ := h.q R.qs[i] (List.getElem_mem hi2)
    rw [pa_get (by omega)]
    simp only [Rig.rings, Rig.ps, List.getElem_map]
    exact ⟨h1, h2⟩
  refine ⟨by rw [hp, hr], fun i hi => ?_, fun i hi => ?_, fun c hc => ?_⟩
  · unfold losL
    rw [pa_map hi]
    exact (hq i hi).1
  · unfold hisL
    rw [pa_map hi]
    exact (hq i hi).2
  · obtain ⟨a0, a1, b0, b1, ne, l0, l1, x, y, ex, ey, hxy⟩ := h.b2 c hc
    unfold pa
    rw [List.getD_eq_getElem?_getD, List.getD_eq_getElem?_getD, ex, ey]
    exact hxy
def pinR (rs : List Ring) (k : Nat) (z : Int) : List Ring := rs.set k ⟨z, z, (rs.getD k ⟨0, 0, 0⟩).ld⟩
theorem pinR_len {rs : List Ring} {k : Nat} {z : Int} : (pinR rs k z).length = rs.length := List.length_set
theorem pin_at {rs : List Ring} {k i : Nat} {z : Int} (hi : i < rs.length) : pa (losL (pinR rs k z)) i = (if k = i then z else pa (losL rs) i) ∧ pa (hisL (pinR rs k z)) i = (if k = i then z else pa (hisL rs) i) := by
  unfold losL hisL pinR
  rw [List.map_set, List.map_set, pa_set, pa_set]
  simp only [List.length_map]
  by_cases h : k = i
  · subst h
    simp [hi]
  · simp [h]
theorem Plc.pin {rs : List Ring} {bs : List Bar} {p : List Int} {k : Nat} {z : Int} (h : Plc rs bs p) (e : pa p k = z) : Plc (pinR rs k z) bs p := by
  refine ⟨by rw [pinR_len]; exact h.len, fun i hi => ?_, fun i hi => ?_, h.bar⟩
  · rw [pinR_len] at hi
    rw [(pin_at hi).1]
    split
    · next e2 => rw [← e2]; omega
    · exact h.lo i hi
  · rw [pinR_len] at hi
    rw [(pin_at hi).2]
    split
    · next e2 => rw [← e2]; omega
    · exact h.hi i hi
theorem VRig.pin {rs : List Ring} {cs : List Cord} {bs : List Bar} {k : Nat} {z : Int} (v : VRig rs cs bs) (hk : k < rs.length) (h1 : -2000000000000 ≤ z) (h2 : z ≤ 2000000000000) : VRig (pinR rs k z) cs bs := by
  refine ⟨by rw [pinR_len]; exact v.r1, by rw [pinR_len]; exact v.r2, v.c1, v.b1, fun r hr => ?_, fun c hc => by rw [pinR_len]; exact v.cord c hc, fun c hc => by rw [pinR_len]; exact v.bar c hc⟩
  rcases List.mem_or_eq_of_mem_set hr with h | h
  · exact v.ring r h
  · subst h
    have := v.ring (rs.getD k ⟨0, 0, 0⟩) (by rw [List.getD_eq_getElem?_getD, List.getElem?_eq_getElem hk]; exact List.getElem_mem hk)
    exact ⟨h1, Int.le_refl _, h2, this.2.2.2.1, this.2.2.2.2⟩
end Tg
namespace Tg
open PySem PySem.Spec PyProof.Rows L2
section
variable {F : String → Option Fn}
end
end Tg
namespace Tg
open PySem PySem.Spec PyProof.Rows L2
abbrev Tab := List (List Int)
abbrev ta (T : Tab) (i j : Nat) : Int := pa (T.getD i []) j
/-- a square table -/
structure Sq (n : Nat) (T : Tab) : Prop where
  len : T.length = n
  row : ∀ i, i < n → (T.getD i []).length = n
theorem getD_set {α : Type} {T : List α} {i j : Nat} {r d : α} : (T.set i r).getD j d = if i = j ∧ i < T.length then r else T.getD j d := by
  rw [List.getD_eq_getElem?_getD, List.getD_eq_getElem?_getD, List.getElem?_set]
  by_cases h : i = j
  · subst h
    by_cases hl : i < T.length
    · simp [hl]
    · simp [hl, List.getElem?_eq_none (Nat.le_of_not_lt hl)]
  · simp [h]
/-- positions that keep a table; x is at each node -/
def Keeps (n : Nat) (T : Tab) (x : Nat → Int) : Prop := ∀ a b, a < n → b < n → x b - x a ≤ ta T a b
def Diag (n : Nat) (T : Tab) : Prop := ∀ a, a < n → ta T a a = 0
end Tg
namespace Tg
open PySem PySem.Spec PyProof.Rows L2
theorem p9 {t : Sto} : oPow t (.int 10) (.int 9) = some (.int 1000000000) := rfl
theorem p12 {t : Sto} : oPow t (.int 10) (.int 12) = some (.int 1000000000000) := rfl
theorem p6 {t : Sto} : oPow t (.int 10) (.int 6) = some (.int 1000000) := rfl
structure Spot where
  p : Int
  lo : Int
  hi : Int
def SpOk (q : Spot) : Prop := -1000000000000 ≤ q.lo ∧ q.lo ≤ q.p ∧ q.p ≤ q.hi ∧ q.hi ≤ 1000000000000
section
variable {F : String → Option Fn}
/-- a tension that fits a cord -/
def TC (ps : List Int) (c : Cord) (t : Int) : Prop := 0 ≤ t ∧ t ≤ c.w ∧ (gap ps c.a c.b < c.len → t = 0) ∧ (c.len < gap ps c.a c.b → t = c.w)
def TB (ps : List Int) (c : Bar) (t : Int) : Prop := 0 ≤ t ∧ t ≤ 10000000 ∧ gap ps c.a c.b ≤ c.len ∧ (gap ps c.a c.b < c.len → t = 0)
def CVal (n : Nat) (c : Cord) : Prop := CIx n c ∧ c.a ≠ c.b ∧ -2000000000000 ≤ c.len ∧ c.len ≤ 2000000000000 ∧ 1 ≤ c.w ∧ c.w ≤ 40000000
def BVal (n : Nat) (c : Bar) : Prop := BIx n c ∧ c.a ≠ c.b ∧ -2000000000000 ≤ c.len ∧ c.len ≤ 2000000000000
section
variable {s : Dr} {o l : Sto} {n k : Nat} {a : List D}
end
theorem en_zip {α : Type} (f : α → D) : ∀ (xs : List α) (k : Nat), enD k (xs.map f) = (xs.zipIdx k).map fun p => .tup [.int (p.2 : Nat), f p.1]
  | [], _ => rfl
  | x :: xs, k => by
    rw [List.map_cons, List.zipIdx_cons, List.map_cons, ← en_zip f xs (k + 1)]
    rfl
inductive Ln where
  | c (x : Cord) (t : Int)
  | b (x : Bar) (t : Int)
def Ln.d : Ln → D
  | .c x t => .tup [cordD x, .int t]
  | .b x t => .tup [barD x, .int t]
def Ln.p : Ln → D
  | .c x _ => cordD x
  | .b x _ => barD x
def Ln.a : Ln → Int
  | .c x _ => x.a
  | .b x _ => x.a
def Ln.z : Ln → Int
  | .c x _ => x.b
  | .b x _ => x.b
def Ln.t : Ln → Int
  | .c _ t => t
  | .b _ t => t
def lnL (cs : List (Cord × Int)) (bs : List (Bar × Int)) : List Ln := cs.map (fun q => .c q.1 q.2) ++ bs.map fun q => .b q.1 q.2
def pullA (ls : List Ln) (k : Int) : Int := ((ls.filter fun l => decide (l.a = k)).map Ln.t).sum
def pullB (ls : List Ln) (k : Int) : Int := ((ls.filter fun l => decide (l.z = k)).map Ln.t).sum
theorem sum_filter {ls : List Ln} (p : Ln → Bool) (h : ∀ l ∈ ls, 0 ≤ l.t ∧ l.t ≤ 40000000) : 0 ≤ ((ls.filter p).map Ln.t).sum ∧ ((ls.filter p).map Ln.t).sum ≤ 40000000 * ls.length := by
  induction ls with
  | nil => simp
  | cons x ls ih =>
    obtain ⟨a, b⟩ := ih fun l hl => h l (List.mem_cons_of_mem _ hl)
    have := h x List.mem_cons_self
    rw [List.filter_cons]
    rw [List.length_cons]
    split
    · rw [List.map_cons, List.sum_cons]
      omega
    · omega
/-- a ring of the balanced rig -/
def RingAt (ls : List Ln) (i : Nat) (q : Spot) (r : Ring) : Prop := r.lo = q.lo ∧ r.hi = q.hi ∧ ∃ x : Int, -1000000 ≤ x ∧ x ≤ 1000000 ∧ r.ld = x - (pullA ls i - pullB ls i) ∧ (0 < x → q.p = q.hi) ∧ (x < 0 → q.p = q.lo)
structure Bal (most : Int) (qs : List Spot) (rs : List Ring) (cs : List (Cord × Int)) (bs : List (Bar × Int)) : Prop where
  q1 : 1 ≤ qs.length
  q2 : qs.length ≤ 8
  q3 : (qs.length : Int) ≤ most
  ok : ∀ q ∈ qs, SpOk q
  c1 : cs.length ≤ 12
  b1 : bs.length ≤ 8
  cord : ∀ q ∈ cs, CVal qs.length q.1 ∧ TC (qs.map Spot.p) q.1 q.2
  bar : ∀ q ∈ bs, BVal qs.length q.1 ∧ TB (qs.map Spot.p) q.1 q.2
  rl : rs.length = qs.length
  ring : ∀ i (h1 : i < qs.length) (h2 : i < rs.length), RingAt (lnL cs bs) i qs[i] rs[i]
theorem Bal.v {most : Int} {qs : List Spot} {rs : List Ring} {cs : List (Cord × Int)} {bs : List (Bar × Int)} (h : Bal most qs rs cs bs) : VRig rs (cs.map (·.1)) (bs.map (·.1)) := by
  have rl := h.rl
  refine ⟨by rw [rl]; exact h.q1, by rw [rl]; exact h.q2, by rw [List.length_map]; exact h.c1, by rw [List.length_map]; exact h.b1, fun r hr => ?_, fun c hc => ?_, fun c hc => ?_⟩
  · obtain ⟨i, hi, rfl⟩ := List.mem_iff_getElem.mp hr
    obtain ⟨e1, e2, x, x0, x1, e3, _⟩ := h.ring i (by omega) hi
    have ok := h.ok qs[i] (List.getElem_mem (by omega))
    unfold SpOk at ok
    have ht : ∀ l ∈ lnL cs bs, 0 ≤ l.t ∧ l.t ≤ 40000000 := by
      intro l hl
      rcases List.mem_append.mp hl with z | z
      · obtain ⟨q, hq, rfl⟩ := List.mem_map.mp z
        obtain ⟨a1, a2⟩ := h.cord q hq
        exact ⟨a2.1, by have := a2.2.1; have := a1.2.2.2.2.2; show q.2 ≤ _; omega⟩
      · obtain ⟨q, hq, rfl⟩ := List.mem_map.mp z
        obtain ⟨a1, a2⟩ := h.bar q hq
        exact ⟨a2.1, by have := a2.2.1; show q.2 ≤ _; omega⟩
    have ll : (lnL cs bs).length ≤ 20 := by
      unfold lnL
      rw [List.length_append, List.length_map, List.length_map]
      have := h.c1
      have := h.b1
      omega
    have sa := sum_filter (fun l => decide (l.a = ((i : Nat) : Int))) ht
    have sb := sum_filter (fun l => decide (l.z = ((i : Nat) : Int))) ht
    have pa0 : 0 ≤ pullA (lnL cs bs) (i : Nat) ∧ pullA (lnL cs bs) (i : Nat) ≤ 800000000 := ⟨sa.1, Int.le_trans sa.2 (by omega)⟩
    have pb0 : 0 ≤ pullB (lnL cs bs) (i : Nat) ∧ pullB (lnL cs bs) (i : Nat) ≤ 800000000 := ⟨sb.1, Int.le_trans sb.2 (by omega)⟩
    rw [e1, e2, e3]
    omega
  · obtain ⟨q, hq, rfl⟩ := List.mem_map.mp hc
    obtain ⟨a, b, c, d, e, f⟩ := (h.cord q hq).1
    rw [rl]
    exact ⟨a, b, c, d, e, by omega⟩
  · obtain ⟨q, hq, rfl⟩ := List.mem_map.mp hc
    rw [rl]
    exact (h.bar q hq).1
theorem Bal.plc {most : Int} {qs : List Spot} {rs : List Ring} {cs : List (Cord × Int)} {bs : List (Bar × Int)} (h : Bal most qs rs cs bs) : Plc rs (bs.map (·.1)) (qs.map Spot.p) := by
  have rl := h.rl
  refine ⟨by rw [List.length_map, rl], fun i hi => ?_, fun i hi => ?_, fun c hc => ?_⟩
  · unfold losL
    obtain ⟨e1, e2, _⟩ := h.ring i (by omega) hi
    have ok := h.ok qs[i] (List.getElem_mem (by omega))
    unfold SpOk at ok
    rw [pa_map hi, pa_map (by omega), e1]
    omega
  · unfold hisL
    obtain ⟨e1, e2, _⟩ := h.ring i (by omega) hi
    have ok := h.ok qs[i] (List.getElem_mem (by omega))
    unfold SpOk at ok
    rw [pa_map hi, pa_map (by omega), e2]
    omega
  · obtain ⟨q, hq, rfl⟩ := List.mem_map.mp hc
    exact (h.bar q hq).2.2.2.1
end
end Tg
namespace Tg
open PySem PySem.Spec PyProof.Rows L2
def setT (T : Tab) (i j : Nat) (v : Int) : Tab := T.set i ((T.getD i []).set j v)
theorem setT_sq {N i j : Nat} {v : Int} {T : Tab} (h : Sq N T) (hi : i < N) : Sq N (setT T i j v) := by
  refine ⟨by unfold setT; rw [List.length_set]; exact h.len, fun a ha => ?_⟩
  unfold setT
  rw [getD_set]
  split
  · rw [List.length_set]; exact h.row i hi
  · exact h.row a ha
theorem ta_setT {N i j a b : Nat} {v : Int} {T : Tab} (h : Sq N T) (hi : i < N) (hj : j < N) : ta (setT T i j v) a b = if i = a ∧ j = b then v else ta T a b := by
  unfold ta setT
  rw [getD_set]
  by_cases e : i = a
  · subst e
    rw [if_pos ⟨rfl, by rw [h.len]; exact hi⟩, pa_set, h.row i hi]
    by_cases e2 : j = b
    · subst e2
      simp [hj]
    · simp [e2]
  · rw [if_neg (fun z => e z.1), if_neg (fun z => e z.1)]
section
variable {st : Sto} {N : Nat} {T : Tab}
end
def big : Int := 100000000000000
def nodes (x : List Int) (i : Nat) : Int := pa x i
theorem nodes_end {x : List Int} {n : Nat} (h : x.length = n) : nodes x n = 0 := by
  unfold nodes pa
  rw [List.getD_eq_getElem?_getD, List.getElem?_eq_none (by omega)]
  rfl
/-- a table of limits and bars -/
structure LimT (rs : List Ring) (bs : List Bar) (T : Tab) : Prop where
  sq : Sq (rs.length + 1) T
  diag : Diag (rs.length + 1) T
  rail : ∀ k, k < rs.length → ta T rs.length k = pa (hisL rs) k ∧ ta T k rs.length = 0 - pa (losL rs) k
  keeps : ∀ x : List Int, x.length = rs.length → (Keeps (rs.length + 1) T (nodes x) ↔ (∀ i, i < rs.length → pa (losL rs) i ≤ pa x i ∧ pa x i ≤ pa (hisL rs) i) ∧ (∀ a b, a < rs.length → b < rs.length → a ≠ b → pa x b - pa x a ≤ big) ∧ Holds bs x)
theorem LimT.plc {rs : List Ring} {cs : List Cord} {bs : List Bar} {T : Tab} (v : VRig rs cs bs) (h : LimT rs bs T) {x : List Int} (hl : x.length = rs.length) : Keeps (rs.length + 1) T (nodes x) ↔ Plc rs bs x := by
  rw [h.keeps x hl]
  constructor
  · rintro ⟨h1, _, h3⟩
    exact ⟨hl, fun i hi => (h1 i hi).1, fun i hi => (h1 i hi).2, h3⟩
  · intro p
    have bd : ∀ i, i < rs.length → -2000000000000 ≤ pa x i ∧ pa x i ≤ 2000000000000 := by
      intro i hi
      have a := p.lo i hi
      have b := p.hi i hi
      unfold losL at a
      unfold hisL at b
      rw [pa_map hi] at a b
      have := v.ring rs[i] (List.getElem_mem hi)
      omega
    refine ⟨fun i hi => ⟨p.lo i hi, p.hi i hi⟩, fun a b ha hb _ => ?_, p.bar⟩
    have := bd a ha
    have := bd b hb
    unfold big
    omega
section
variable {F : String → Option Fn}
def nds (n : Nat) (x : List Int) : List (Nat × Int) := (n, 0) :: x.zipIdx.map fun p => (p.2, p.1)
theorem nds_in {n : Nat} {x : List Int} {i : Nat} (h : i < x.length) : (i, x[i]) ∈ nds n x := by
  refine List.mem_cons_of_mem _ (List.mem_map.mpr ⟨(x[i], i), ?_, rfl⟩)
  rw [List.mem_zipIdx_iff_getElem?]
  simpa using List.getElem?_eq_getElem h
def Fit (n : Nat) (T : Tab) (x : List Int) : Prop := ∀ p ∈ nds n x, ∀ q ∈ nds n x, q.2 - p.2 ≤ ta T p.1 q.1
theorem Fit.keeps {n : Nat} {T : Tab} {x : List Int} (hl : x.length = n) (h : Fit n T x) : Keeps (n + 1) T (nodes x) := by
  have mem : ∀ a, a < n + 1 → (a, nodes x a) ∈ nds n x := by
    intro a ha
    by_cases e : a = n
    · subst e
      rw [nodes_end hl]
      exact List.mem_cons_self
    · have := nds_in (n := n) (x := x) (i := a) (by omega)
      unfold nodes
      rwa [pa_get (by omega)]
  intro a b ha hb
  exact h _ (mem a ha) _ (mem b hb)
end
end Tg
namespace Tg
open PySem PySem.Spec PyProof.Rows L2
structure EOk (rs : List Ring) (cs : List Cord) (y : List Int) : Prop where
  ix : ∀ c ∈ cs, CIx y.length c ∧ 1 ≤ c.w ∧ c.w ≤ 1000000000000
  ld : ∀ r ∈ rs, -1000000000000 ≤ r.ld ∧ r.ld ≤ 1000000000000
theorem VRig.e {rs : List Ring} {cs : List Cord} {bs : List Bar} (v : VRig rs cs bs) {y : List Int} (h : y.length = rs.length) : EOk rs cs y :=
  ⟨fun c hc => by
    obtain ⟨a, _, _, _, b, d⟩ := v.cord c hc
    rw [h]
    exact ⟨a, b, by omega⟩, fun r hr => by
    have := v.ring r hr
    omega⟩
section
variable {F : String → Option Fn}
end
end Tg
namespace Tg
open PySem PySem.Spec PyProof.Rows L2
theorem flat_ints : ∀ g : List Int, flatDs (g.map D.int) = some (g.map V.int)
  | [] => rfl
  | x :: g => by
    rw [List.map_cons]
    show (flatDs (g.map D.int)).map _ = _
    rw [flat_ints g]
    rfl
theorem in_ints {st : Sto} {k : Int} {g : List Int} : oInS false st (.int k) (plcD g) = some (.bl (decide (k ∈ g))) := by
  show ((flatDs (g.map D.int)).map fun vs => D.bl (inV (.int k) vs)).or _ = _
  rw [flat_ints]
  show some (D.bl (inV (.int k) (g.map V.int))) = _
  congr 2
  unfold inV
  rw [List.any_map, Bool.eq_iff_iff, List.any_eq_true, decide_eq_true_iff]
  constructor
  · rintro ⟨x, hx, e⟩
    have e : (x == k) = true := e
    rw [← eq_of_beq e]
    exact hx
  · intro h
    exact ⟨k, h, by show (k == k) = true; exact beq_self_eq_true k⟩
def sideS (rt : Bool) : Str := if rt then Str.ofString "right" else Str.ofString "left"
def sideD (rt : Bool) : D := .str (sideS rt)
theorem side_eq (rt : Bool) : decide (sideS rt = Str.ofString "right") = rt := by
  cases rt
  · decide +kernel
  · simp [sideS]
def stepC (rt : Bool) (c : Int) : Int := if rt then c else 0 - c
def mv (g : List Int) (rt : Bool) (c : Int) (x : List Int) : List Int := x.zipIdx.map fun p => if ((p.2 : Nat) : Int) ∈ g then p.1 + stepC rt c else p.1
theorem mv_len {g : List Int} {rt : Bool} {c : Int} {x : List Int} : (mv g rt c x).length = x.length := by simp [mv]
theorem pa_mv {g : List Int} {rt : Bool} {c : Int} {x : List Int} {i : Nat} (h : i < x.length) : pa (mv g rt c x) i = if (i : Int) ∈ g then pa x i + stepC rt c else pa x i := by
  rw [pa_get (by rw [mv_len]; exact h), pa_get h]
  unfold mv
  simp
section
variable {F : String → Option Fn}
/-- groups -/
def Grp (n : Nat) (g : List Int) : Prop := g ≠ [] ∧ (∀ k ∈ g, 0 ≤ k ∧ k < n) ∧ g.Pairwise (· < ·)
end
end Tg
namespace Tg
open PySem PySem.Spec PyProof.Rows L2
section
variable {F : String → Option Tg.Fn}
def minT (T : Tab) (A B : Nat) (v : Int) : Tab := setT T A B (min (ta T A B) v)
theorem set_keeps {N A B : Nat} {v : Int} {T : Tab} (hT : Sq N T) (hA : A < N) (hB : B < N) (hv : v ≤ ta T A B) (x : Nat → Int) : Keeps N (setT T A B v) x ↔ Keeps N T x ∧ x B - x A ≤ v := by
  constructor
  · intro q
    have qq : ∀ a b, a < N → b < N → x b - x a ≤ if A = a ∧ B = b then v else ta T a b := fun a b ha hb' => by
      have := q a b ha hb'
      rwa [ta_setT hT hA hB] at this
    refine ⟨fun a b ha hb' => ?_, ?_⟩
    · have := qq a b ha hb'
      split at this
      · next e => obtain ⟨rfl, rfl⟩ := e; omega
      · exact this
    · have := qq A B hA hB
      rwa [if_pos ⟨rfl, rfl⟩] at this
  · rintro ⟨q1, q2⟩ a b ha hb'
    rw [ta_setT hT hA hB]
    split
    · next e =>
      obtain ⟨rfl, rfl⟩ := e
      exact q2
    · exact q1 a b ha hb'
/-- a table that came from the limits by further bounds between rings -/
structure Rul (rs : List Ring) (T0 : Tab) (X : (Nat → Int) → Prop) (T : Tab) : Prop where
  sq : Sq (rs.length + 1) T
  dg : Diag (rs.length + 1) T
  rl : ∀ k, k < rs.length → ta T rs.length k = pa (hisL rs) k ∧ ta T k rs.length = 0 - pa (losL rs) k
  kp : ∀ x, Keeps (rs.length + 1) T x ↔ Keeps (rs.length + 1) T0 x ∧ X x
theorem Rul.min {rs : List Ring} {T0 T : Tab} {X : (Nat → Int) → Prop} (h : Rul rs T0 X T) {A B : Nat} {v : Int} (hA : A < rs.length) (hB : B < rs.length) (ne : A ≠ B) : Rul rs T0 (fun x => X x ∧ x B - x A ≤ v) (minT T A B v) := by
  unfold minT
  refine ⟨setT_sq h.sq (by omega), fun a ha => ?_, fun k hk => ?_, fun x => ?_⟩
  · rw [ta_setT h.sq (by omega) (by omega), if_neg (by omega)]
    exact h.dg a ha
  · rw [ta_setT h.sq (by omega) (by omega), ta_setT h.sq (by omega) (by omega), if_neg (by omega), if_neg (by omega)]
    exact h.rl k hk
  · rw [set_keeps h.sq (by omega) (by omega) (by omega), h.kp x]
    constructor
    · rintro ⟨⟨a, b⟩, c⟩
      exact ⟨a, b, by omega⟩
    · rintro ⟨a, b, c⟩
      have := (h.kp x).mpr ⟨a, b⟩ A B (by omega) (by omega)
      exact ⟨⟨a, b⟩, by omega⟩
theorem Rul.congr {rs : List Ring} {T0 T : Tab} {X Y : (Nat → Int) → Prop} (h : Rul rs T0 X T) (e : ∀ x, X x ↔ Y x) : Rul rs T0 Y T := ⟨h.sq, h.dg, h.rl, fun x => by rw [h.kp x, e x]⟩
end
end Tg
namespace Tg
open PySem PySem.Spec PyProof.Rows L2
section
variable {F : String → Option Tg.Fn}
end
end Tg
namespace Tg
open PySem PySem.Spec PyProof.Rows L2
noncomputable def b_unit_of (C : Orc) : DS := (sSeq (sRet (eIf (bVal (eOp oEq (eVar 0) (eC (.str (Str.ofString "right"))))) (eC (.int 1)) (eUn oNeg (eC (.int 1)))))
    sNil)
noncomputable def b_l_groups_f1 (C : Orc) : DS := (sSeq (sAsg (eOp oAdd (eVar 1) (eLc [3] (iSeq (eVar 1)) (gN 3) bYes (eOp oAdd (eVar 3) (eTup (aCons (eVar 2) aNil))))) (gN 1))
    sNil)
noncomputable def b_l_groups (C : Orc) : DS := (sSeq (sAsg (eLst (aCons (eTup aNil) aNil)) (gN 1))
    (sSeq (sFor (iRng (aCons (eVar 0) aNil)) (gN 2) (b_l_groups_f1 C))
    (sSeq (sRet (eSl (eBlt gSorted (aCons (eVar 1) aNil)) (oSo (eC (.int 1))) oNo))
    sNil)))
noncomputable def b_l_moved (C : Orc) : DS := (sSeq (sRet (eBlt gTuple (aCons (eLc [3, 4] (iEn (eVar 0)) (gT 2 (gsCons (gN 3) (gsCons (gN 4) gsNil))) bYes (eOp oAdd (eVar 4) (eOp oMul (eVar 2) (eBlt gInt (aCons (eOp (oInS false) (eVar 3) (eVar 1)) aNil))))) aNil)))
    sNil)
noncomputable def b_l_wander_f1 (C : Orc) : DS := (sSeq (sAsg (eCall C "_law_one" (aCons (eVar 0) (aCons (eVar 3) aNil))) (gN 5))
    (sSeq (sAsg (eOp oAdd (eC (.int 1)) (eCall C "_law_next" (aCons (eVar 0) (aCons (eOp oPow (eC (.int 10)) (eC (.int 6))) aNil)))) (gN 6))
    (sSeq (sAsg (eCall C "_law_moved" (aCons (eVar 2) (aCons (eVar 5) (aCons (eCall C "_law_one" (aCons (eVar 0) (aCons (eLst (aCons (eC (.int 1)) (aCons (eUn oNeg (eC (.int 1))) (aCons (eC (.int 1)) (aCons (eUn oNeg (eC (.int 1))) (aCons (eC (.int 2)) (aCons (eUn oNeg (eC (.int 3))) (aCons (eVar 6) (aCons (eOp oSub (eC (.int 0)) (eVar 6)) aNil))))))))) aNil))) aNil)))) (gN 7))
    (sSeq (sIf (bVal (eCall C "_law_is_placement" (aCons (eVar 1) (aCons (eVar 7) aNil)))) (sSeq (sAsg (eVar 7) (gN 2))
    sNil) sNil)
    sNil))))
noncomputable def b_l_wander (C : Orc) : DS := (sSeq (sAsg (eCall C "_law_groups" (aCons (eBlt gLen (aCons (eVar 2) aNil)) aNil)) (gN 3))
    (sSeq (sFor (iRng (aCons (eCall C "_law_next" (aCons (eVar 0) (aCons (eC (.int 7)) aNil))) aNil)) (gN 4) (b_l_wander_f1 C))
    (sSeq (sRet (eVar 2))
    sNil)))
noncomputable def b_l_unit (C : Orc) : DS := (sSeq (sRet (eOp oIx (eLst (aCons (eUn oNeg (eC (.int 1))) (aCons (eC (.int 1)) aNil))) (eBlt gInt (aCons (eOp oEq (eVar 0) (eC (.str (Str.ofString "right")))) aNil))))
    sNil)
def unitI (rt : Bool) : Int := if rt then 1 else -1
def ringAt (rs : List Ring) (k : Int) : Ring := rs.getD k.toNat ⟨0, 0, 0⟩
theorem ringG {rs : List Ring} {k : Int} (h0 : 0 ≤ k) (h1 : k < rs.length) : atI (rs.map ringD) k = some (ringD (ringAt rs k)) := by
  unfold atI ixN
  rw [if_pos h0, if_pos (by rw [List.length_map]; exact h1)]
  show (rs.map ringD)[k.toNat]? = _
  unfold ringAt
  rw [List.getElem?_map, List.getElem?_eq_getElem (by omega), List.getD_eq_getElem?_getD, List.getElem?_eq_getElem (by omega)]
  rfl
theorem plG {x : List Int} {k : Int} (h0 : 0 ≤ k) (h1 : k < x.length) : atI (x.map D.int) k = some (.int (pa x k.toNat)) := by
  unfold atI ixN
  rw [if_pos h0, if_pos (by rw [List.length_map]; exact h1)]
  show (x.map D.int)[k.toNat]? = _
  rw [List.getElem?_map, List.getElem?_eq_getElem (by omega), pa_get (by omega)]
  rfl
section
variable {F : String → Option Fn}
theorem unit_spec (h1 : F "unit_of" = some ⟨1, 1, b_unit_of⟩ := by first | assumption | rfl) (n : Nat) (rt : Bool) (st : Sto) : callN F (n + 1) "unit_of" [sideD rt] st = some (.int (unitI rt), st) := by
  rw [call_eq h1 rfl]
  have e0 : startE 1 [sideD rt] = [some (.str (sideS rt))] := rfl
  simp only [e0, b_unit_of]
  repeat (first | walk_at "ev" | simp only [side_eq])
  cases rt <;> repeat (first | walk_at "ev" | simp only [unitI, if_true, Bool.false_eq_true, if_false, e_kfnR])
end
end Tg
namespace Tg
open PySem PySem.Spec PyProof.Rows L2
theorem lo_at {rs : List Ring} {i : Nat} (h : i < rs.length) : pa (losL rs) i = (ringAt rs i).lo ∧ pa (hisL rs) i = (ringAt rs i).hi := by
  unfold losL hisL ringAt
  rw [pa_map h, pa_map h, Int.toNat_natCast, List.getD_eq_getElem?_getD, List.getElem?_eq_getElem h]
  exact ⟨rfl, rfl⟩
/-- a group of rings that a rig has -/
def InR (n : Nat) (g : List Int) : Prop := ∀ k ∈ g, 0 ≤ k ∧ k < n
def grpsN : Nat → List (List Int)
  | 0 => [[]]
  | n + 1 => grpsN n ++ (grpsN n).map (· ++ [(n : Int)])
def grpT : Nat → List (List Int)
  | 0 => []
  | n + 1 => grpT n ++ (grpsN n).map (· ++ [(n : Int)])
theorem grps_cons : ∀ n, grpsN n = [] :: grpT n
  | 0 => rfl
  | n + 1 => by
    show grpsN n ++ _ = [] :: (grpT n ++ (grpsN n).map (· ++ [(n : Int)]))
    conv => lhs; arg 1; rw [grps_cons n]
    rfl
theorem grps_len : ∀ n, (grpsN n).length = 2 ^ n
  | 0 => rfl
  | n + 1 => by
    show (grpsN n ++ _).length = _
    rw [List.length_append, List.length_map, grps_len n, Nat.pow_succ]
    omega
theorem grps_mem : ∀ (n : Nat) (g : List Int), g ∈ grpsN n ↔ InR n g ∧ g.Pairwise (· < ·)
  | 0, g => by
    constructor
    · intro h
      have : g = [] := by simpa [grpsN] using h
      subst this
      exact ⟨fun k hk => by simp at hk, List.Pairwise.nil⟩
    · rintro ⟨h, _⟩
      cases g with
      | nil => simp [grpsN]
      | cons k g => have := h k List.mem_cons_self; omega
  | n + 1, g => by
    show g ∈ grpsN n ++ _ ↔ _
    rw [List.mem_append, grps_mem n g, List.mem_map]
    constructor
    · rintro (⟨h1, h2⟩ | ⟨h, hh, rfl⟩)
      · exact ⟨fun k hk => by have := h1 k hk; omega, h2⟩
      · obtain ⟨h1, h2⟩ := (grps_mem n h).mp hh
        refine ⟨fun k hk => ?_, List.pairwise_append.mpr ⟨h2, List.pairwise_singleton _ _, fun a ha b hb => ?_⟩⟩
        · rcases List.mem_append.mp hk with z | z
          · have := h1 k z; omega
          · rw [List.mem_singleton.mp z]; omega
        · rw [List.mem_singleton.mp hb]
          have := h1 a ha; omega
    · rintro ⟨h1, h2⟩
      by_cases e : g = []
      · subst e
        exact .inl ⟨fun k hk => by simp at hk, h2⟩
      · obtain ⟨i, l, rfl⟩ : ∃ i l, g = i ++ [l] := ⟨g.dropLast, g.getLast e, (List.dropLast_concat_getLast e).symm⟩
        obtain ⟨p1, _, p3⟩ := List.pairwise_append.mp h2
        have hl := h1 l (by simp)
        by_cases q : l = n
        · subst q
          exact .inr ⟨i, (grps_mem n i).mpr ⟨fun k hk => by
            have := p3 k hk n (by simp)
            have := h1 k (by simp [hk])
            omega, p1⟩, rfl⟩
        · refine .inl ⟨fun k hk => ?_, h2⟩
          rcases List.mem_append.mp hk with z | z
          · have := p3 k z l (by simp)
            have := h1 k (by simp [z])
            omega
          · rw [List.mem_singleton.mp z]; omega
theorem grps_sz : ∀ (n : Nat) (g : List Int), g ∈ grpsN n → g.length ≤ n
  | 0, g, h => by
    have : g = [] := by simpa [grpsN] using h
    subst this
    simp
  | n + 1, g, h => by
    rcases List.mem_append.mp h with z | z
    · have := grps_sz n g z
      omega
    · obtain ⟨i, hi, rfl⟩ := List.mem_map.mp z
      have := grps_sz n i hi
      rw [List.length_append]
      simp
      omega
theorem grpT_ne : ∀ (n : Nat) (g : List Int), g ∈ grpT n → g ≠ []
  | 0, g, h => by simp [grpT] at h
  | n + 1, g, h => by
    rcases List.mem_append.mp h with z | z
    · exact grpT_ne n g z
    · obtain ⟨i, _, rfl⟩ := List.mem_map.mp z
      simp
theorem grpT_mem {n : Nat} {g : List Int} : g ∈ grpT n ↔ Grp n g := by
  have h := grps_mem n g
  rw [grps_cons, List.mem_cons] at h
  constructor
  · intro z
    obtain ⟨h1, h2⟩ := h.mp (.inr z)
    exact ⟨grpT_ne n g z, h1, h2⟩
  · rintro ⟨h1, h2, h3⟩
    exact (h.mpr ⟨h2, h3⟩).resolve_left h1
theorem isort_front {α : Type} {lt : α → α → Bool} {x : α} {t : List α} (h : ∀ y ∈ t, lt y x = false) : isort lt (x :: t) = x :: isort lt t := by
  show insB lt x (isort lt t) = _
  have h2 : ∀ y ∈ isort lt t, lt y x = false := fun y hy => h y ((isort_perm t).mem_iff.mp hy)
  cases e : isort lt t with
  | nil => rfl
  | cons y ys =>
    unfold insB
    rw [if_neg (by rw [h2 y (by rw [e]; exact List.mem_cons_self)]; decide)]
/-- all groups, ascending -/
def grpsX (n : Nat) : List (List Int) := isort HT.lexLt (grpT n)
theorem grpsX_mem {n : Nat} {g : List Int} : g ∈ grpsX n ↔ Grp n g := by
  unfold grpsX
  rw [(isort_perm _).mem_iff, grpT_mem]
theorem lex_nil (y : List Int) : HT.lexLt y [] = false := by
  cases y with
  | nil => exact HT.lexLt_nil_nil
  | cons a y => exact HT.lexLt_cons_nil a y
section
variable {F : String → Option Fn}
theorem grp_step {C : Orc} (body : Orc → DS) (hb : body C = sSeq (sAsg (eOp oAdd (eVar 1) (eLc [3] (iSeq (eVar 1)) (gN 3) bYes (eOp oAdd (eVar 3) (eTup (aCons (eVar 2) aNil))))) (gN 1)) sNil) (N : Int) (n : Nat) (hn : n ≤ 7) (v2 : Option D) (st : Sto) :
    body C [some (.int N), some (.lst ((grpsN n).map plcD)), some (.int (n : Nat)), none] st = some (.nx [some (.int N), some (.lst ((grpsN (n + 1)).map plcD)), some (.int (n : Nat)), none], st) := by
  rw [hb]
  repeat (first | walk_at "ev")
  rw [lc_map plcD (fun g => plcD (g ++ [(n : Int)])) (grpsN n) ?h]
  case h =>
    intro g hg
    refine ⟨_, rfl, rfl, ?_⟩
    have hl : g.length ≤ 7 := by
      have := grps_sz n g hg
      omega
    have ad : oAdd st (plcD g) (.tup [.int (n : Nat)]) = some (plcD (g ++ [(n : Int)])) := by
      show oAdd st (.tup (g.map D.int)) (.tup [.int (n : Nat)]) = some (.tup ((g ++ [(n : Int)]).map D.int))
      rw [add_tup (by simp; omega), List.map_append]
      rfl
    repeat (first | walk_at "ev" | simp only [ad])
  have p2 : 2 ^ n ≤ 2 ^ 7 := Nat.pow_le_pow_right (by omega) hn
  have ad : oAdd st (.lst ((grpsN n).map plcD)) (.lst ((grpsN n).map fun g => plcD (g ++ [(n : Int)]))) = some (.lst ((grpsN (n + 1)).map plcD)) := by
    show (if fits (((grpsN n).map plcD).length + ((grpsN n).map fun g => plcD (g ++ [(n : Int)])).length) then some (D.lst (_ ++ _)) else none) = _
    rw [fits_small (by rw [List.length_map, List.length_map, grps_len]; omega), if_pos rfl]
    congr 2
    show _ = (grpsN n ++ (grpsN n).map (· ++ [(n : Int)])).map plcD
    rw [List.map_append, List.map_map]
    rfl
  repeat (first | walk_at "ev" | simp only [ad])
end
end Tg
namespace Tg
open PySem PySem.Spec PyProof.Rows L2
section
variable {F : String → Option Fn}
theorem grp_loop {C : Orc} (body : Orc → DS) (hb : body C = sSeq (sAsg (eOp oAdd (eVar 1) (eLc [3] (iSeq (eVar 1)) (gN 3) bYes (eOp oAdd (eVar 3) (eTup (aCons (eVar 2) aNil))))) (gN 1)) sNil) (N : Nat) (hN : N ≤ 8) (st : Sto) :
    ∃ v2, forL always (gN 2) (body C) (rangeD 0 N) [some (.int (N : Nat)), some (.lst [.tup []]), none, none] st = some (.nx [some (.int (N : Nat)), some (.lst ((grpsN N).map plcD)), v2, none], st) := by
  obtain ⟨env', st', k, n, v2, rfl, rfl, hn, hy⟩ := for_rel (tg := gN 2) (body := body C) (fun i : Nat => D.int (0 + (i : Int)))
    (fun is env s => ∃ (n : Nat) (v2 : Option D), env = [some (.int (N : Nat)), some (.lst ((grpsN n).map plcD)), v2, none] ∧ s = st ∧ n ≤ N ∧ is = (List.range N).drop n)
    (by
      rintro i is env s ⟨n, v2, rfl, rfl, hn, hy⟩
      have hlt : n < N := by
        apply Classical.byContradiction
        intro h
        rw [List.drop_eq_nil_of_le (by rw [List.length_range]; omega)] at hy
        cases hy
      rw [List.drop_eq_getElem_cons (by rw [List.length_range]; exact hlt)] at hy
      obtain ⟨hi, hys⟩ := List.cons.inj hy
      rw [List.getElem_range] at hi
      subst hi
      refine ⟨_, _, rfl, ?_⟩
      rw [Int.zero_add]
      have k := grp_step body hb (N : Nat) i (by omega) v2 s
      exact ⟨_, _, k, i + 1, _, rfl, rfl, hlt, hys⟩)
    (List.range N) [some (.int (N : Nat)), some (.lst ((grpsN 0).map plcD)), none, none] st ⟨0, none, rfl, rfl, Nat.zero_le _, rfl⟩
  have : n = N := by
    apply Classical.byContradiction
    intro h
    rw [List.drop_eq_getElem_cons (by rw [List.length_range]; omega)] at hy
    cases hy
  subst this
  exact ⟨v2, k⟩
theorem lgroups_spec (h1 : F "_law_groups" = some ⟨1, 4, b_l_groups⟩ := by first | assumption | rfl) (n : Nat) (N : Nat) (hN : N ≤ 8) (st : Sto) : callN F (n + 1) "_law_groups" [.int (N : Nat)] st = some (.lst ((grpsX N).map plcD), st) := by
  rw [call_eq h1 rfl]
  obtain ⟨v2, k⟩ := grp_loop b_l_groups_f1 (C := callN F n) rfl N hN st
  have rg := e_krng1 (s := st) (j := (N : Int)) (by omega) (by omega)
  rw [Int.toNat_natCast] at rg
  have so : gSorted st [.lst ((grpsN N).map plcD)] = some (.lst (([] :: grpsX N).map plcD)) := by
    rw [grps_cons]
    have := o_sortT (s := st) (gs := grpT N)
    rw [this, isort_front (fun y _ => lex_nil y)]
    rfl
  have sl : sliceD st (some 1) none (.lst (([] :: grpsX N).map plcD)) = some (.lst ((grpsX N).map plcD)) := by
    show some (D.lst (cutD _ (some 1) none)) = _
    rw [cut_from (by decide)]
    rfl
  have e0 : startE 4 [.int (N : Nat)] = [some (.int (N : Nat)), none, none, none] := rfl
  simp only [e0, b_l_groups]
  repeat (first | walk_at "ev" | simp only [rg, k, so, sl, e_kfnR])
end
end Tg
namespace Tg
open PySem PySem.Spec PyProof.Rows L2
section
variable {F : String → Option Fn}
end
end Tg
namespace Tg
open PySem PySem.Spec PyProof.Rows L2
theorem grpsX_pos {n : Nat} (h : 1 ≤ n) : 0 < (grpsX n).length ∧ (grpsX n).length ≤ 2 ^ n := by
  unfold grpsX
  have h1 := grps_len n
  rw [grps_cons, List.length_cons] at h1
  have : 2 ^ 1 ≤ 2 ^ n := Nat.pow_le_pow_right (by omega) h
  rw [(isort_perm _).length_eq]
  omega
section
variable {F : String → Option Fn}
theorem lmoved_spec (h1 : F "_law_moved" = some ⟨3, 5, b_l_moved⟩ := by first | assumption | rfl) (n : Nat) (x g : List Int) {c : Int} (c0 : -10000000000000 ≤ c) (c1 : c ≤ 10000000000000) (st : Sto) : callN F (n + 1) "_law_moved" [plcD x, plcD g, .int c] st = some (plcD (mv g true c x), st) := by
  rw [call_eq h1 rfl]
  have e0 : startE 5 [plcD x, plcD g, .int c] = [some (plcD x), some (plcD g), some (.int c), none, none] := rfl
  simp only [e0, b_l_moved]
  repeat (first | walk_at "ev" | simp only [en_zip])
  rw [lc_map (fun p : Int × Nat => D.tup [.int (p.2 : Nat), .int p.1]) (fun p => .int (if ((p.2 : Nat) : Int) ∈ g then p.1 + stepC true c else p.1)) x.zipIdx ?h]
  case h =>
    intro p _
    refine ⟨_, rfl, rfl, ?_⟩
    have m := fun z : Int => o_mul (s := st) (mulOk_l (a := c) (b := z) (by omega) (by omega))
    by_cases hp : ((p.2 : Nat) : Int) ∈ g
    · repeat (first | walk_at "ev" | simp only [in_ints, decide_eq_true hp, if_pos hp, if_true, m, Int.mul_one])
      rfl
    · repeat (first | walk_at "ev" | simp only [in_ints, decide_eq_false hp, if_neg hp, Bool.false_eq_true, if_false, m, Int.mul_zero, Int.add_zero])
  repeat (first | walk_at "ev" | simp only [e_kfnR])
  simp only [plcD, mv, List.map_map, Function.comp_def]
theorem lunit_spec (h1 : F "_law_unit" = some ⟨1, 1, b_l_unit⟩ := by first | assumption | rfl) (n : Nat) (rt : Bool) (st : Sto) : callN F (n + 1) "_law_unit" [sideD rt] st = some (.int (unitI rt), st) := by
  rw [call_eq h1 rfl]
  have e0 : startE 1 [sideD rt] = [some (.str (sideS rt))] := rfl
  simp only [e0, b_l_unit]
  repeat (first | walk_at "ev" | simp only [side_eq])
  cases rt <;> repeat (first | walk_at "ev" | simp only [unitI, if_true, Bool.false_eq_true, if_false, e_kfnR])
theorem wander_spec (hN : F "_law_next" = some ⟨2, 9, b_l_next⟩ := by first | assumption | rfl) (hO : F "_law_one" = some ⟨2, 2, b_l_one⟩ := by first | assumption | rfl) (h1 : F "_law_integer" = some ⟨3, 3, b_l_integer⟩ := by first | assumption | rfl) (h2 : F "_law_sized" = some ⟨3, 3, b_l_sized⟩ := by first | assumption | rfl) (h3 : F "_law_stretches" = some ⟨2, 3, b_l_stretches⟩ := by first | assumption | rfl)
    (h4 : F "_law_is_placement" = some ⟨2, 6, b_l_is_placement⟩ := by first | assumption | rfl) (h6 : F "_law_moved" = some ⟨3, 5, b_l_moved⟩ := by first | assumption | rfl) (h7 : F "_law_groups" = some ⟨1, 4, b_l_groups⟩ := by first | assumption | rfl) (h8 : F "_law_wander" = some ⟨3, 8, b_l_wander⟩ := by first | assumption | rfl) (n : Nat) {rs : List Ring} {cs : List Cord} {bs : List Bar} {x : List Int}
    (v : VRig rs cs bs) (hp : Plc rs bs x) {s : Dr} {b : Int} (hd : DOk s b) (hb : 19 ≤ b) (o : Sto) :
    ∃ y s', callN F (n + 3) "_law_wander" [.loc 1, rigD rs cs bs, plcD x] (mkSt s o) = some (plcD y, mkSt s' o) ∧ Plc rs bs y ∧ DOk s' (b - 19) := by
  have r1 := v.r1
  have r2 := v.r2
  have dr := draws_of (F := F) hN (n + 1)
  have on := ones_of (F := F) hN hO n
  have kg := lgroups_spec h7 (n + 1) rs.length (by omega) (mkSt s o)
  obtain ⟨t, s1, k1, t0, t1, d1⟩ := dr.n hd o 7 (by omega) (by omega) (by omega)
  have kp : ∀ (y : List Int) (st : Sto), callN F (n + 2) "_law_is_placement" [rigD rs cs bs, plcD y] st = some (.bl (plcB rs bs y), st) := fun y st => lis_placement_spec h1 h2 h3 h4 n v.ix st
  obtain ⟨p1, p2⟩ := grpsX_pos r1
  have p3 : 2 ^ rs.length ≤ 2 ^ 8 := Nat.pow_le_pow_right (by omega) r2
  generalize hR : rigD rs cs bs = R at *
  obtain ⟨env', st', k, y, s2, v4, v5, v6, v7, rfl, rfl, hy, d2⟩ := for_rel (tg := gN 4) (body := b_l_wander_f1 (callN F (n + 2))) (fun i : Nat => D.int (0 + (i : Int)))
    (fun is env st => ∃ (y : List Int) (s2 : Dr) (v4 v5 v6 v7 : Option D), env = [some (.loc 1), some R, some (plcD y), some (.lst ((grpsX rs.length).map plcD)), v4, v5, v6, v7] ∧ st = mkSt s2 o ∧ Plc rs bs y ∧ DOk s2 (b - 19 + 3 * is.length))
    (by
      rintro i is env st ⟨y, s2, v4, v5, v6, v7, rfl, rfl, hy, d2⟩
      rw [List.length_cons] at d2
      refine ⟨_, _, rfl, ?_⟩
      obtain ⟨gd, s3, k2, hg, d3⟩ := on.l d2 o ((grpsX rs.length).map plcD) (by omega) (by rw [List.length_map]; omega) (by rw [List.length_map]; omega)
      obtain ⟨g, hg, rfl⟩ := List.mem_map.mp hg
      obtain ⟨f, s4, k3, f0, f1, d4⟩ := dr.n d3 o 1000000 (by omega) (by omega) (by omega)
      obtain ⟨cd, s5, k4, hc, d5⟩ := on.l d4 o [.int 1, .int (-1), .int 1, .int (-1), .int 2, .int (-3), .int (1 + f), .int (0 - (1 + f))] (by omega) (by simp) (by simp)
      obtain ⟨c, rfl, c0, c1⟩ : ∃ c : Int, cd = .int c ∧ -1000001 ≤ c ∧ c ≤ 1000001 := by
        simp only [List.mem_cons, List.not_mem_nil, or_false] at hc
        rcases hc with rfl | rfl | rfl | rfl | rfl | rfl | rfl | rfl <;> exact ⟨_, rfl, by omega, by omega⟩
      have k5 := lmoved_spec h6 (n + 1) y g (c := c) (by omega) (by omega) (mkSt s5 o)
      have k6 := kp (mv g true c y) (mkSt s5 o)
      have p6 : ∀ t : Sto, oPow t (.int 10) (.int 6) = some (.int 1000000) := fun _ => rfl
      have eg : D.tup (g.map D.int) = plcD g := rfl
      simp only [b_l_wander_f1]
      cases hb : plcB rs bs (mv g true c y) with
      | false =>
        rw [hb] at k6
        repeat (first | walk_at "ev" | simp only [k2, p6, k3, k4, k5, k6])
        exact ⟨_, _, rfl, y, s5, _, _, _, _, rfl, rfl, hy, d5.mono (by omega)⟩
      | true =>
        rw [hb] at k6
        repeat (first | walk_at "ev" | simp only [k2, p6, k3, k4, k5, k6])
        exact ⟨_, _, rfl, mv g true c y, s5, _, _, _, _, rfl, rfl, plcB_iff.mp hb, d5.mono (by omega)⟩)
    (List.range t.toNat) [some (.loc 1), some R, some (plcD x), some (.lst ((grpsX rs.length).map plcD)), none, none, none, none] (mkSt s1 o) ⟨x, s1, none, none, none, none, rfl, rfl, hp, d1.mono (by rw [List.length_range]; omega)⟩
  refine ⟨y, s2, ?_, hy, d2.mono (by simp)⟩
  have rg := e_krng1 (s := mkSt s1 o) (j := t) (by omega) (by omega)
  have k : forL always (gN 4) (b_l_wander_f1 (callN F (n + 2))) (rangeD 0 t.toNat) [some (.loc 1), some R, some (plcD x), some (.lst ((grpsX rs.length).map plcD)), none, none, none, none] (mkSt s1 o) = _ := k
  have ln : gLen (mkSt s o) [plcD x] = some (.int (rs.length : Nat)) := by
    show some (D.int ((x.map D.int).length : Nat)) = _
    rw [List.length_map, hp.len]
  have hl := hp.len
  rw [call_eq h8 rfl]
  have e0 : startE 8 [.loc 1, R, plcD x] = [some (.loc 1), some R, some (plcD x), none, none, none, none, none] := rfl
  simp only [e0, b_l_wander]
  repeat (first | walk_at "ev" | simp only [hl, kg, k1, rg, k, e_kfnR])
end
end Tg
namespace Tg
open PySem PySem.Spec PyProof.Rows L2
theorem nice_int_list {xs : List Int} (n : Nat) (hn : xs.length ≤ n) (h : ∀ z ∈ xs, -10000000000000 ≤ z ∧ z ≤ 10000000000000) : Nice 1 (5 + n * 82) (plcD xs) := nice_tup (k := 0) (B := 80) (by
  intro d hd
  obtain ⟨z, hz, rfl⟩ := List.mem_map.mp hd
  have := h z hz
  exact nice_int (by omega) (by omega)) (by rw [List.length_map]; exact hn)
theorem VRig.nice {rs : List Ring} {cs : List Cord} {bs : List Bar} (v : VRig rs cs bs) : Nice 3 12086 (rigD rs cs bs) := by
  have a1 : Nice 2 4025 (.tup (rs.map ringD)) := (nice_tup (n := 8) (k := 1) (B := 251) (by
    intro d hd
    obtain ⟨r, hr, rfl⟩ := List.mem_map.mp hd
    have := v.ring r hr
    exact nice_int_list (xs := [r.lo, r.hi, r.ld]) 3 (by simp) (by intro z hz; simp only [List.mem_cons, List.not_mem_nil, or_false] at hz; rcases hz with rfl | rfl | rfl <;> omega)) (by rw [List.length_map]; exact v.r2)).mono (by omega) (by omega)
  have a2 : Nice 2 4025 (.tup (cs.map cordD)) := (nice_tup (n := 12) (k := 1) (B := 333) (by
    intro d hd
    obtain ⟨r, hr, rfl⟩ := List.mem_map.mp hd
    obtain ⟨⟨x1, x2, x3, x4⟩, _, x5, x6, x7, x8⟩ := v.cord r hr
    have r2 := v.r2
    exact nice_int_list (xs := [r.a, r.b, r.len, r.w]) 4 (by simp) (by intro z hz; simp only [List.mem_cons, List.not_mem_nil, or_false] at hz; rcases hz with rfl | rfl | rfl | rfl <;> omega)) (by rw [List.length_map]; exact v.c1)).mono (by omega) (by omega)
  have a3 : Nice 2 4025 (.tup (bs.map barD)) := (nice_tup (n := 8) (k := 1) (B := 251) (by
    intro d hd
    obtain ⟨r, hr, rfl⟩ := List.mem_map.mp hd
    obtain ⟨⟨x1, x2, x3, x4⟩, _, x5, x6⟩ := v.bar r hr
    have r2 := v.r2
    exact nice_int_list (xs := [r.a, r.b, r.len]) 3 (by simp) (by intro z hz; simp only [List.mem_cons, List.not_mem_nil, or_false] at hz; rcases hz with rfl | rfl | rfl <;> omega)) (by rw [List.length_map]; exact v.b1)).mono (by omega) (by omega)
  exact nice_tup (n := 3) (k := 2) (B := 4025) (by
    intro d hd
    simp only [List.mem_cons, List.not_mem_nil, or_false] at hd
    rcases hd with rfl | rfl | rfl
    · exact a1
    · exact a2
    · exact a3) (by simp)
theorem Plc.nice {rs : List Ring} {cs : List Cord} {bs : List Bar} {x : List Int} (h : Plc rs bs x) (v : VRig rs cs bs) : Nice 1 661 (plcD x) := nice_int_list 8 (by rw [h.len]; exact v.r2) (by
  intro z hz
  obtain ⟨i, hi, rfl⟩ := List.mem_iff_getElem.mp hz
  have xl := h.len
  have lo := h.lo i (by omega)
  have hi' := h.hi i (by omega)
  rw [(lo_at (by omega)).1] at lo
  rw [(lo_at (by omega)).2] at hi'
  have rr := v.ring (ringAt rs i) (by unfold ringAt; rw [Int.toNat_natCast, List.getD_eq_getElem?_getD, List.getElem?_eq_getElem (by omega)]; exact List.getElem_mem _)
  rw [pa_get hi] at lo hi'
  omega)
/-- a rig and a placement in one list -/
theorem repr_rp {rs : List Ring} {cs : List Cord} {bs : List Bar} {x : List Int} (h : Plc rs bs x) (v : VRig rs cs bs) (s : Sto) : gRepr s [.lst [rigD rs cs bs, plcD x]] = some (.str (shownD (.lst [rigD rs cs bs, plcD x]))) :=
  repr_nice (nice_lst (n := 2) (k := 3) (B := 12086) (by
    intro d hd
    simp only [List.mem_cons, List.not_mem_nil, or_false] at hd
    rcases hd with rfl | rfl
    · exact v.nice
    · exact (h.nice v).mono (by omega) (by omega)) (by simp)) (by omega) (by omega)
theorem RigOk.up {most : Int} {R : Rig} (h : RigOk most R) (hm : most ≤ 8) : RigOk 8 R := { h with n2 := by have := h.n2; omega }
theorem pl_plc {k : Nat} (x : List Int) : Pl (k + 1) (plcD x) := pl_tup (pl_map fun _ _ => pl_int)
end Tg
namespace Tg
open PySem PySem.Spec PyProof.Rows L2
def kAsgX (g : DG) (env : En) (p : D × Sto) : Option (Fl × Sto) := match xOf p.1 with
  | some q => some (.xc env q.1 q.2, p.2)
  | none => (g p.1 env p.2).bind fun q => some (.nx q.1, q.2)
def kExprX (env : En) (p : D × Sto) : Option (Fl × Sto) := match xOf p.1 with
  | some q => some (.xc env q.1 q.2, p.2)
  | none => some (.nx env, p.2)
def kTryM (xt : List (Str × List Str)) (hs : List Hd) (p : Fl × Sto) : Option (Fl × Sto) := match p.1 with
  | .xc env' x fs => if inXt xt x = true then catchM xt hs env' x fs p.2 else none
  | f => some (f, p.2)
def kTN (p : (List D × Option D) × Sto) : Option (D × Sto) := match p.1.2 with
  | some e => if (xOf e).isSome then some (e, p.2) else none
  | none => if (xOf (.tup p.1.1)).isNone then some (.tup p.1.1, p.2) else none
def kTry2 (i : Option Nat) (q : Fl × Sto) : Option (Fl × Sto) := if noX q.1 = true then some (unS i q.1, q.2) else none
def kAN (g : DX) (env : En) (p : D × Sto) : Option ((List D × Option D) × Sto) := match xOf p.1 with
  | some _ => some (([], some p.1), p.2)
  | none => (g env p.2).bind fun q => some ((p.1 :: q.1.1, q.1.2), q.2)
def kAN2 (d : D) (q : (List D × Option D) × Sto) : Option ((List D × Option D) × Sto) := some ((d :: q.1.1, q.1.2), q.2)
section
variable {f : DE} {g : DG} {b : DS} {env : En} {st s : Sto} {d : D} {x cls : Str} {xt : List (Str × List Str)} {i : Option Nat} {su : Str → DS} {fs : List (Str × D)}
theorem e_asgX : sAsgX f g env st = (f env st).bind (kAsgX g env) := rfl
theorem e_exprX : sExprX f env st = (f env st).bind (kExprX env) := rfl
theorem e_anilN : aNilN env st = some (([], none), st) := rfl
theorem e_aconsN {f : DE} {g : DX} : aConsN f g env st = (f env st).bind (kAN g env) := rfl
theorem e_kanX {g : DX} {d : D} {q : Str × List (Str × D)} (h : xOf d = some q) : kAN g env (d, s) = some (([], some d), s) := by
  show (match xOf d with
    | some _ => some (([], some d), s)
    | none => (g env s).bind fun q => some ((d :: q.1.1, q.1.2), q.2)) = _
  rw [h]
theorem e_kan {g : DX} {d : D} (h : xOf d = none) : kAN g env (d, s) = (g env s).bind (kAN2 d) := by
  show (match xOf d with
    | some _ => some (([], some d), s)
    | none => (g env s).bind fun q => some ((d :: q.1.1, q.1.2), q.2)) = _
  rw [h]
  rfl
theorem e_kan2 {d : D} {ds : List D} {oe : Option D} : kAN2 d ((ds, oe), s) = some ((d :: ds, oe), s) := rfl
theorem e_kasgX (h : xOf d = none) : kAsgX g env (d, s) = kAsg g env (d, s) := by
  show (match xOf d with
    | some q => some (Fl.xc env q.1 q.2, s)
    | none => (g d env s).bind fun q => some (.nx q.1, q.2)) = _
  rw [h]
  rfl
theorem e_kexprX (h : xOf d = none) : kExprX env (d, s) = some (.nx env, s) := by
  show (match xOf d with
    | some q => some (Fl.xc env q.1 q.2, s)
    | none => some (.nx env, s)) = _
  rw [h]
theorem x_exDf {x : Str} {fs : List (Str × D)} : xOf (exD x fs) = some (x, fs) := xOf_exD x fs
theorem e_kasgXf : kAsgX g env (exD x fs, s) = some (.xc env x fs, s) := by
  show (match xOf (exD x fs) with
    | some q => some (Fl.xc env q.1 q.2, s)
    | none => (g (exD x fs) env s).bind fun q => some (.nx q.1, q.2)) = _
  rw [x_exDf]
theorem e_kexprXf : kExprX env (exD x fs, s) = some (.xc env x fs, s) := by
  show (match xOf (exD x fs) with
    | some q => some (Fl.xc env q.1 q.2, s)
    | none => some (.nx env, s)) = _
  rw [x_exDf]
theorem e_kseqX : kSeq b (.xc env x fs, s) = some (.xc env x fs, s) := rfl
theorem e_trym {hs : List Hd} : sTryM xt b hs env st = (b env st).bind (kTryM xt hs) := rfl
theorem e_ktrymN {hs : List Hd} {e : En} : kTryM xt hs (.nx e, s) = some (.nx e, s) := rfl
theorem e_ktrymX {hs : List Hd} (h : inXt xt x = true) : kTryM xt hs (.xc env x fs, s) = catchM xt hs env x fs s := by
  show (if inXt xt x = true then _ else none) = _
  rw [if_pos h]
theorem e_catchY {r : List Hd} {ys : List Str} {hs : List (Str × Nat)} (h : ys.any (isA xt x) = true) (h2 : hsB i hs env = true) : catchM xt ((ys, i, hs, su) :: r) env x fs s = (su x (envH hs fs (setS i env)) s).bind (kTry2 i) := by
  show (if ys.any (isA xt x) = true then (if hsB i hs env = true then (su x (envH hs fs (setS i env)) s).bind _ else none) else _) = _
  rw [if_pos h, if_pos h2]
  rfl
theorem e_catchN {r : List Hd} {ys : List Str} {hs : List (Str × Nat)} (h : ys.any (isA xt x) = false) : catchM xt ((ys, i, hs, su) :: r) env x fs s = catchM xt r env x fs s := by
  show (if ys.any (isA xt x) = true then _ else _) = _
  rw [if_neg (by rw [h]; decide)]
def kRaiseF (x : Str) (ns : List Str) (env : En) (p : List D × Sto) : Option (Fl × Sto) := if decide (p.1.length = ns.length) = true then some (.xc env x (ns.zip p.1), p.2) else none
theorem e_raiseF {fa : DA} {ns : List Str} : sRaiseF x ns fa env st = (fa env st).bind (kRaiseF x ns env) := rfl
theorem e_kraiseF {ns : List Str} {ds : List D} (h : ds.length = ns.length) : kRaiseF x ns env (ds, s) = some (.xc env x (ns.zip ds), s) := by
  unfold kRaiseF
  rw [if_pos (decide_eq_true h)]
theorem e_tupN {g : DX} : eTupN g env st = (g env st).bind kTN := rfl
theorem e_ktnX {d : D} {q : Str × List (Str × D)} {ds : List D} (h : xOf d = some q) : kTN ((ds, some d), s) = some (d, s) := by
  show (if (xOf d).isSome then some (d, s) else none) = _
  rw [h]
  rfl
theorem e_ktn {ds : List D} (h : xOf (.tup ds) = none) : kTN ((ds, none), s) = some (.tup ds, s) := by
  show (if (xOf (.tup ds)).isNone then some (D.tup ds, s) else none) = _
  rw [h]
  rfl
theorem e_ktry2N {e : En} : kTry2 i (.nx e, s) = some (.nx (setS i e), s) := rfl
end
section
variable {F : String → Option Fn} {ix : String} {k m n : Nat} {body : Orc → DS} {as : List D} {st st' : Sto}
theorem callX_rt (h : F ix = some ⟨k, m, fun C => wrapX (body C)⟩) (hl : as.length = k) {d : D} (hb : (body (callN F n) (startE m as) st).bind kFn = some (d, st')) : callN F (n + 1) ix as st = some (d, st') := by
  rw [call_eq h hl]
  show ((wrapX (body (callN F n))) (startE m as) st).bind kFn = _
  obtain ⟨⟨fl, s2⟩, h1, h2⟩ := Option.bind_eq_some_iff.mp hb
  show (((body (callN F n)) (startE m as) st).map _).bind kFn = _
  rw [h1]
  cases fl with
  | rt d => exact h2
  | nx e => exact h2
  | bk e => cases h2
  | ct e => cases h2
  | xc e x fs => cases h2
theorem callX_xc (h : F ix = some ⟨k, m, fun C => wrapX (body C)⟩) (hl : as.length = k) {e : En} {x : Str} {fs : List (Str × D)} (hb : body (callN F n) (startE m as) st = some (.xc e x fs, st')) : callN F (n + 1) ix as st = some (exD x fs, st') := by
  rw [call_eq h hl]
  show ((wrapX (body (callN F n))) (startE m as) st).bind kFn = _
  show (((body (callN F n)) (startE m as) st).map _).bind kFn = _
  rw [hb]
  rfl
end
end Tg
namespace W_k09
open PySem PySem.Spec PyProof.Rows L2 Tg
noncomputable def b_AtLimit__init_ (C : Orc) : DS := (sSeq sStuck
    sNil)
noncomputable def b_BarTaut__init_ (C : Orc) : DS := (sSeq sStuck
    sNil)
noncomputable def b_NotSliding__init_ (C : Orc) : DS := (sSeq sStuck
    sNil)
noncomputable def b_check_move_f1 (C : Orc) : DS := (sSeq (sAsg (eOp oIx (eOp oIx (eVar 0) (eC (.int 0))) (eVar 3)) (gT 3 (gsCons (gN 4) (gsCons (gN 5) (gsCons (gN 6) gsNil)))))
    (sSeq (sIf (bNot (bVal (eChain oLe oLe (eVar 4) (eOp oIx (eVar 2) (eVar 3)) (eVar 5)))) (sSeq (sRaiseF "AtLimit" ["ring"] (aCons (eVar 3) aNil))
    sNil) sNil)
    sNil))
noncomputable def b_check_move_f2 (C : Orc) : DS := (sSeq (sIf (bVal (eOp oGt (eCall C "stretch_of" (aCons (eVar 8) (aCons (eVar 2) aNil))) (eOp oIx (eVar 8) (eC (.int 2))))) (sSeq (sRaiseF "BarTaut" ["bar"] (aCons (eVar 7) aNil))
    sNil) sNil)
    sNil)
noncomputable def b_check_move (C : Orc) : DS := (sSeq (sFor (iSeq (eVar 1)) (gN 3) (b_check_move_f1 C))
    (sSeq (sFor (iEn (eOp oIx (eVar 0) (eC (.int 2)))) (gT 2 (gsCons (gN 7) (gsCons (gN 8) gsNil))) (b_check_move_f2 C))
    sNil))
noncomputable def b_move_group (C : Orc) : DS := (sSeq (sAsg (eOp oMul (eCall C "unit_of" (aCons (eVar 3) aNil)) (eVar 4)) (gN 5))
    (sSeq (sAsg (eBlt gTuple (aCons (eLc [7, 8] (iEn (eVar 1)) (gT 2 (gsCons (gN 7) (gsCons (gN 8) gsNil))) bYes (eOp oAdd (eVar 8) (eOp oMul (eVar 5) (eBlt gInt (aCons (eOp (oInS false) (eVar 7) (eVar 2)) aNil))))) aNil)) (gN 6))
    (sSeq (sExprX (eCall C "check_move!" (aCons (eVar 0) (aCons (eVar 2) (aCons (eVar 6) aNil)))))
    (sSeq (sRet (eVar 6))
    sNil))))
noncomputable def b_l_other (C : Orc) : DS := (sSeq (sRet (eOp oIx (eLst (aCons (eC (.str (Str.ofString "right"))) (aCons (eC (.str (Str.ofString "left"))) aNil))) (eBlt gInt (aCons (eOp oEq (eVar 0) (eC (.str (Str.ofString "right")))) aNil))))
    sNil)
noncomputable def b_l_due_f1 (C : Orc) : DS := (sSeq (sIf (bNot (bVal (eChain oLe oLe (eOp oIx (eOp oIx (eOp oIx (eVar 0) (eC (.int 0))) (eVar 5)) (eC (.int 0))) (eOp oIx (eVar 4) (eVar 5)) (eOp oIx (eOp oIx (eOp oIx (eVar 0) (eC (.int 0))) (eVar 5)) (eC (.int 1)))))) (sSeq (sRet (eTup (aCons (eC (.str (Str.ofString "limit"))) (aCons (eVar 5) aNil))))
    sNil) sNil)
    sNil)
noncomputable def b_l_due_f2 (C : Orc) : DS := (sSeq (sIf (bVal (eOp oGt (eOp oSub (eOp oIx (eVar 4) (eOp oIx (eVar 7) (eC (.int 1)))) (eOp oIx (eVar 4) (eOp oIx (eVar 7) (eC (.int 0))))) (eOp oIx (eVar 7) (eC (.int 2))))) (sSeq (sRet (eTup (aCons (eC (.str (Str.ofString "bar"))) (aCons (eVar 6) aNil))))
    sNil) sNil)
    sNil)
noncomputable def b_l_due (C : Orc) : DS := (sSeq (sAsg (eCall C "_law_moved" (aCons (eVar 1) (aCons (eVar 2) (aCons (eVar 3) aNil)))) (gN 4))
    (sSeq (sFor (iSeq (eVar 2)) (gN 5) (b_l_due_f1 C))
    (sSeq (sFor (iEn (eOp oIx (eVar 0) (eC (.int 2)))) (gT 2 (gsCons (gN 6) (gsCons (gN 7) gsNil))) (b_l_due_f2 C))
    (sSeq (sRet (eTup (aCons (eC (.str (Str.ofString "placement"))) (aCons (eVar 4) aNil))))
    sNil))))
noncomputable def b_l_caught (C : Orc) : DS := (sSeq (sAsg (eTup (aCons (eC (.str (Str.ofString "other"))) aNil)) (gN 5))
    (sSeq (sTryM xtT (sSeq (sAsgX (eTupN (aConsN (eC (.str (Str.ofString "placement"))) (aConsN (eCall C "move_group!" (aCons (eVar 0) (aCons (eVar 1) (aCons (eVar 2) (aCons (eVar 3) (aCons (eVar 4) aNil)))))) aNilN))) (gN 5))
    sNil) [(["AtLimit"], (some 6), [("ring", 7), ("bar", 8)], (fun x => (sSeq (sIf (bAnd (bVal (eC (.bl (isA xtT x "TugError")))) (bNot (bVal (eC (.bl ((["BarTaut", "Full", "NotSliding"] : List Str).any (isA xtT x))))))) (sSeq (sAsg (eTup (aCons (eC (.str (Str.ofString "limit"))) (aCons (eVar 7) aNil))) (gN 5))
    sNil) sNil)
    sNil))), (["BarTaut"], (some 6), [("ring", 7), ("bar", 8)], (fun x => (sSeq (sIf (bAnd (bVal (eC (.bl (isA xtT x "TugError")))) (bNot (bVal (eC (.bl ((["AtLimit", "Full", "NotSliding"] : List Str).any (isA xtT x))))))) (sSeq (sAsg (eTup (aCons (eC (.str (Str.ofString "bar"))) (aCons (eVar 8) aNil))) (gN 5))
    sNil) sNil)
    sNil)))])
    (sSeq (sRet (eVar 5))
    sNil)))
noncomputable def b_law_f1 (C : Orc) : DS := (sSeq (sAsg (eTup (aCons (eCall C "_law_one" (aCons (eVar 1) (aCons (eVar 5) aNil))) (aCons (eCall C "_law_one" (aCons (eVar 1) (aCons (eLst (aCons (eC (.str (Str.ofString "left"))) (aCons (eC (.str (Str.ofString "right"))) aNil))) aNil))) aNil))) (gT 2 (gsCons (gN 8) (gsCons (gN 9) gsNil))))
    (sSeq (sAsg (eCall C "_law_one" (aCons (eVar 1) (aCons (eLst (aCons (eC (.int 0)) (aCons (eC (.int 1)) (aCons (eC (.int 1)) (aCons (eC (.int 2)) (aCons (eC (.int 3)) (aCons (eVar 2) (aCons (eOp oMul (eC (.int 2)) (eOp oPow (eC (.int 10)) (eC (.int 12)))) (aCons (eCall C "_law_next" (aCons (eVar 1) (aCons (eOp oAdd (eVar 2) (eC (.int 1))) aNil))) aNil))))))))) aNil))) (gN 10))
    (sSeq (sAsg (eCall C "_law_due" (aCons (eVar 3) (aCons (eVar 4) (aCons (eVar 8) (aCons (eOp oMul (eVar 10) (eCall C "_law_unit" (aCons (eVar 9) aNil))) aNil))))) (gN 11))
    (sSeq (sAsg (eLc [13] (iRng (aCons (eC (.int 2)) aNil)) (gN 13) bYes (eCall C "_law_caught" (aCons (eVar 3) (aCons (eVar 4) (aCons (eVar 8) (aCons (eVar 9) (aCons (eVar 10) aNil))))))) (gN 12))
    (sSeq (sIf (bNot (bVal (eCall C "_law_equal" (aCons (eBlt gTuple (aCons (eVar 12) aNil)) (aCons (eTup (aCons (eVar 11) (aCons (eVar 11) aNil))) aNil))))) (sSeq (sRet (eC (.bl false)))
    sNil) sNil)
    (sSeq (sIf (bVal (eOp oEq (eOp oIx (eVar 11) (eC (.int 0))) (eC (.str (Str.ofString "placement"))))) (sSeq (sAsg (eCall C "_law_caught" (aCons (eVar 3) (aCons (eOp oIx (eVar 11) (eC (.int 1))) (aCons (eVar 8) (aCons (eCall C "_law_other" (aCons (eVar 9) aNil)) (aCons (eVar 10) aNil)))))) (gN 14))
    (sSeq (sIf (bNot (bVal (eCall C "_law_equal" (aCons (eVar 14) (aCons (eTup (aCons (eC (.str (Str.ofString "placement"))) (aCons (eVar 4) aNil))) aNil))))) (sSeq (sRet (eC (.bl false)))
    sNil) sNil)
    sNil)) sNil)
    sNil))))))
noncomputable def b_law_f2 (C : Orc) : DS := (sSeq (sAsg (eCall C "_law_rig" (aCons (eVar 1) (aCons (eC (.int 8)) (aCons (eVar 2) aNil)))) (gT 2 (gsCons (gN 3) (gsCons (gN 4) gsNil))))
    (sSeq (sAsg (eCall C "_law_wander" (aCons (eVar 1) (aCons (eVar 3) (aCons (eVar 4) aNil)))) (gN 4))
    (sSeq (sAsg (eCall C "_law_groups" (aCons (eBlt gLen (aCons (eVar 4) aNil)) aNil)) (gN 5))
    (sSeq (sAsg (eBlt gRepr (aCons (eLst (aCons (eVar 3) (aCons (eVar 4) aNil))) aNil)) (gN 6))
    (sSeq (sFor (iRng (aCons (eC (.int 16)) aNil)) (gN 7) (b_law_f1 C))
    (sSeq (sIf (bVal (eOp oNe (eBlt gRepr (aCons (eLst (aCons (eVar 3) (aCons (eVar 4) aNil))) aNil)) (eVar 6))) (sSeq (sRet (eC (.bl false)))
    sNil) sNil)
    sNil))))))
noncomputable def b_law (C : Orc) : DS := (sSeq (sAsg (eCall C "_law_draws" (aCons (eVar 0) aNil)) (gN 1))
    (sSeq (sFor (iSeq (eLst (aCons (eC (.int 2)) (aCons (eC (.int 9)) (aCons (eOp oPow (eC (.int 10)) (eC (.int 11))) aNil))))) (gN 2) (b_law_f2 C))
    (sSeq (sRet (eC (.bl true)))
    sNil)))
noncomputable def F : String → Option Fn
  | "AtLimit.__init__" => some ⟨2, 2, b_AtLimit__init_⟩
  | "BarTaut.__init__" => some ⟨2, 2, b_BarTaut__init_⟩
  | "NotSliding.__init__" => some ⟨2, 2, b_NotSliding__init_⟩
  | "stretch_of" => some ⟨2, 2, b_stretch_of⟩
  | "unit_of" => some ⟨1, 1, b_unit_of⟩
  | "check_move" => some ⟨3, 9, b_check_move⟩
  | "move_group" => some ⟨5, 9, b_move_group⟩
  | "_law_draws" => some ⟨1, 3, b_l_draws⟩
  | "_law_next" => some ⟨2, 9, b_l_next⟩
  | "_law_one" => some ⟨2, 2, b_l_one⟩
  | "_law_equal" => some ⟨2, 4, b_l_equal2⟩
  | "_law_integer" => some ⟨3, 3, b_l_integer⟩
  | "_law_amount" => some ⟨2, 3, b_l_amount⟩
  | "_law_pair" => some ⟨2, 3, b_l_pair⟩
  | "_law_rig" => some ⟨3, 17, b_l_rig2⟩
  | "_law_sized" => some ⟨3, 3, b_l_sized⟩
  | "_law_stretches" => some ⟨2, 3, b_l_stretches⟩
  | "_law_is_placement" => some ⟨2, 6, b_l_is_placement⟩
  | "_law_groups" => some ⟨1, 4, b_l_groups⟩
  | "_law_moved" => some ⟨3, 5, b_l_moved⟩
  | "_law_wander" => some ⟨3, 8, b_l_wander⟩
  | "_law_unit" => some ⟨1, 1, b_l_unit⟩
  | "_law_other" => some ⟨1, 1, b_l_other⟩
  | "_law_due" => some ⟨4, 8, b_l_due⟩
  | "_law_caught" => some ⟨5, 9, b_l_caught⟩
  | "law" => some ⟨1, 15, b_law⟩
  | "check_move!" => some ⟨3, 9, fun C => wrapX (b_check_move C)⟩
  | "move_group!" => some ⟨5, 9, fun C => wrapX (b_move_group C)⟩
  | _ => none
abbrev glb : List (Str × Gv) := mkGlb tb cints cstrs cs
theorem ok_AtLimit__init_ : DfOk F glb blt obT d_AtLimit__init_ := ⟨⟨rfl, rfl, rfl, by decide +kernel, rfl, by decide +kernel, by decide +kernel⟩, b_AtLimit__init_, by kernel_rfl, fun C => by kernel_rfl, no_xf (by kernel_rfl)⟩
theorem bn_AtLimit__init_ : Bnd d_AtLimit__init_ := fun K f fd F => F.bindsN fun _ _ _ _ _ _ us hl => match us, hl with | [_, _], _ => rfl
theorem ok_BarTaut__init_ : DfOk F glb blt obT d_BarTaut__init_ := ⟨⟨rfl, rfl, rfl, by decide +kernel, rfl, by decide +kernel, by decide +kernel⟩, b_BarTaut__init_, by kernel_rfl, fun C => by kernel_rfl, no_xf (by kernel_rfl)⟩
theorem bn_BarTaut__init_ : Bnd d_BarTaut__init_ := fun K f fd F => F.bindsN fun _ _ _ _ _ _ us hl => match us, hl with | [_, _], _ => rfl
theorem ok_NotSliding__init_ : DfOk F glb blt obT d_NotSliding__init_ := ⟨⟨rfl, rfl, rfl, by decide +kernel, rfl, by decide +kernel, by decide +kernel⟩, b_NotSliding__init_, by kernel_rfl, fun C => by kernel_rfl, no_xf (by kernel_rfl)⟩
theorem bn_NotSliding__init_ : Bnd d_NotSliding__init_ := fun K f fd F => F.bindsN fun _ _ _ _ _ _ us hl => match us, hl with | [_, _], _ => rfl
theorem ok_stretch_of : DfOk F glb blt obT d_stretch_of := ⟨⟨rfl, rfl, rfl, by decide +kernel, rfl, by decide +kernel, by decide +kernel⟩, b_stretch_of, by kernel_rfl, fun C => by kernel_rfl, no_xf (by kernel_rfl)⟩
theorem bn_stretch_of : Bnd d_stretch_of := fun K f fd F => F.bindsN fun _ _ _ _ _ _ us hl => match us, hl with | [_, _], _ => rfl
theorem ok_unit_of : DfOk F glb blt obT d_unit_of := ⟨⟨rfl, rfl, rfl, by decide +kernel, rfl, by decide +kernel, by decide +kernel⟩, b_unit_of, by kernel_rfl, fun C => by kernel_rfl, no_xf (by kernel_rfl)⟩
theorem bn_unit_of : Bnd d_unit_of := fun K f fd F => F.bindsN fun _ _ _ _ _ _ us hl => match us, hl with | [_], _ => rfl
theorem ok_check_move : DfOk F glb blt obT d_check_move := ⟨⟨rfl, rfl, rfl, by decide +kernel, rfl, by decide +kernel, by decide +kernel⟩, b_check_move, by kernel_rfl, fun C => by kernel_rfl, yes_xf (jx := "check_move!") (by kernel_rfl) (by rfl)⟩
theorem bn_check_move : Bnd d_check_move := fun K f fd F => F.bindsN fun _ _ _ _ _ _ us hl => match us, hl with | [_, _, _], _ => rfl
theorem ok_move_group : DfOk F glb blt obT d_move_group := ⟨⟨rfl, rfl, rfl, by decide +kernel, rfl, by decide +kernel, by decide +kernel⟩, b_move_group, by kernel_rfl, fun C => by kernel_rfl, yes_xf (jx := "move_group!") (by kernel_rfl) (by rfl)⟩
theorem bn_move_group : Bnd d_move_group := fun K f fd F => F.bindsN fun _ _ _ _ _ _ us hl => match us, hl with | [_, _, _, _, _], _ => rfl
theorem ok_l_draws : DfOk F glb blt obT d_l_draws := ⟨⟨rfl, rfl, rfl, by decide +kernel, rfl, by decide +kernel, by decide +kernel⟩, b_l_draws, by kernel_rfl, fun C => by kernel_rfl, no_xf (by kernel_rfl)⟩
theorem bn_l_draws : Bnd d_l_draws := fun K f fd F => F.bindsN fun _ _ _ _ _ _ us hl => match us, hl with | [_], _ => rfl
theorem ok_l_next : DfOk F glb blt obT d_l_next := ⟨⟨rfl, rfl, rfl, by decide +kernel, rfl, by decide +kernel, by decide +kernel⟩, b_l_next, by kernel_rfl, fun C => by kernel_rfl, no_xf (by kernel_rfl)⟩
theorem bn_l_next : Bnd d_l_next := fun K f fd F => F.bindsN fun _ _ _ _ _ _ us hl => match us, hl with | [_, _], _ => rfl
theorem ok_l_one : DfOk F glb blt obT d_l_one := ⟨⟨rfl, rfl, rfl, by decide +kernel, rfl, by decide +kernel, by decide +kernel⟩, b_l_one, by kernel_rfl, fun C => by kernel_rfl, no_xf (by kernel_rfl)⟩
theorem bn_l_one : Bnd d_l_one := fun K f fd F => F.bindsN fun _ _ _ _ _ _ us hl => match us, hl with | [_, _], _ => rfl
theorem ok_l_equal : DfOk F glb blt obT d_l_equal := ⟨⟨rfl, rfl, rfl, by decide +kernel, rfl, by decide +kernel, by decide +kernel⟩, b_l_equal2, by kernel_rfl, fun C => by kernel_rfl, no_xf (by kernel_rfl)⟩
theorem bn_l_equal : Bnd d_l_equal := fun K f fd F => F.bindsN fun _ _ _ _ _ _ us hl => match us, hl with | [_, _], _ => rfl
theorem ok_l_integer : DfOk F glb blt obT d_l_integer := ⟨⟨rfl, rfl, rfl, by decide +kernel, rfl, by decide +kernel, by decide +kernel⟩, b_l_integer, by kernel_rfl, fun C => by kernel_rfl, no_xf (by kernel_rfl)⟩
theorem bn_l_integer : Bnd d_l_integer := fun K f fd F => F.bindsN fun _ _ _ _ _ _ us hl => match us, hl with | [_, _, _], _ => rfl
theorem ok_l_amount : DfOk F glb blt obT d_l_amount := ⟨⟨rfl, rfl, rfl, by decide +kernel, rfl, by decide +kernel, by decide +kernel⟩, b_l_amount, by kernel_rfl, fun C => by kernel_rfl, no_xf (by kernel_rfl)⟩
theorem bn_l_amount : Bnd d_l_amount := fun K f fd F => F.bindsN fun _ _ _ _ _ _ us hl => match us, hl with | [_, _], _ => rfl
theorem ok_l_pair : DfOk F glb blt obT d_l_pair := ⟨⟨rfl, rfl, rfl, by decide +kernel, rfl, by decide +kernel, by decide +kernel⟩, b_l_pair, by kernel_rfl, fun C => by kernel_rfl, no_xf (by kernel_rfl)⟩
theorem bn_l_pair : Bnd d_l_pair := fun K f fd F => F.bindsN fun _ _ _ _ _ _ us hl => match us, hl with | [_, _], _ => rfl
theorem ok_l_rig : DfOk F glb blt obT d_l_rig := ⟨⟨rfl, rfl, rfl, by decide +kernel, rfl, by decide +kernel, by decide +kernel⟩, b_l_rig2, by kernel_rfl, fun C => by kernel_rfl, no_xf (by kernel_rfl)⟩
theorem bn_l_rig : Bnd d_l_rig := fun K f fd F => F.bindsN fun _ _ _ _ _ _ us hl => match us, hl with | [_, _, _], _ => rfl
theorem ok_l_sized : DfOk F glb blt obT d_l_sized := ⟨⟨rfl, rfl, rfl, by decide +kernel, rfl, by decide +kernel, by decide +kernel⟩, b_l_sized, by kernel_rfl, fun C => by kernel_rfl, no_xf (by kernel_rfl)⟩
theorem bn_l_sized : Bnd d_l_sized := fun K f fd F => F.bindsN fun _ _ _ _ _ _ us hl => match us, hl with | [_, _, _], _ => rfl
theorem ok_l_stretches : DfOk F glb blt obT d_l_stretches := ⟨⟨rfl, rfl, rfl, by decide +kernel, rfl, by decide +kernel, by decide +kernel⟩, b_l_stretches, by kernel_rfl, fun C => by kernel_rfl, no_xf (by kernel_rfl)⟩
theorem bn_l_stretches : Bnd d_l_stretches := fun K f fd F => F.bindsN fun _ _ _ _ _ _ us hl => match us, hl with | [_, _], _ => rfl
theorem ok_l_is_placement : DfOk F glb blt obT d_l_is_placement := ⟨⟨rfl, rfl, rfl, by decide +kernel, rfl, by decide +kernel, by decide +kernel⟩, b_l_is_placement, by kernel_rfl, fun C => by kernel_rfl, no_xf (by kernel_rfl)⟩
theorem bn_l_is_placement : Bnd d_l_is_placement := fun K f fd F => F.bindsN fun _ _ _ _ _ _ us hl => match us, hl with | [_, _], _ => rfl
theorem ok_l_groups : DfOk F glb blt obT d_l_groups := ⟨⟨rfl, rfl, rfl, by decide +kernel, rfl, by decide +kernel, by decide +kernel⟩, b_l_groups, by kernel_rfl, fun C => by kernel_rfl, no_xf (by kernel_rfl)⟩
theorem bn_l_groups : Bnd d_l_groups := fun K f fd F => F.bindsN fun _ _ _ _ _ _ us hl => match us, hl with | [_], _ => rfl
theorem ok_l_moved : DfOk F glb blt obT d_l_moved := ⟨⟨rfl, rfl, rfl, by decide +kernel, rfl, by decide +kernel, by decide +kernel⟩, b_l_moved, by kernel_rfl, fun C => by kernel_rfl, no_xf (by kernel_rfl)⟩
theorem bn_l_moved : Bnd d_l_moved := fun K f fd F => F.bindsN fun _ _ _ _ _ _ us hl => match us, hl with | [_, _, _], _ => rfl
theorem ok_l_wander : DfOk F glb blt obT d_l_wander := ⟨⟨rfl, rfl, rfl, by decide +kernel, rfl, by decide +kernel, by decide +kernel⟩, b_l_wander, by kernel_rfl, fun C => by kernel_rfl, no_xf (by kernel_rfl)⟩
theorem bn_l_wander : Bnd d_l_wander := fun K f fd F => F.bindsN fun _ _ _ _ _ _ us hl => match us, hl with | [_, _, _], _ => rfl
theorem ok_l_unit : DfOk F glb blt obT d_l_unit := ⟨⟨rfl, rfl, rfl, by decide +kernel, rfl, by decide +kernel, by decide +kernel⟩, b_l_unit, by kernel_rfl, fun C => by kernel_rfl, no_xf (by kernel_rfl)⟩
theorem bn_l_unit : Bnd d_l_unit := fun K f fd F => F.bindsN fun _ _ _ _ _ _ us hl => match us, hl with | [_], _ => rfl
theorem ok_l_other : DfOk F glb blt obT d_l_other := ⟨⟨rfl, rfl, rfl, by decide +kernel, rfl, by decide +kernel, by decide +kernel⟩, b_l_other, by kernel_rfl, fun C => by kernel_rfl, no_xf (by kernel_rfl)⟩
theorem bn_l_other : Bnd d_l_other := fun K f fd F => F.bindsN fun _ _ _ _ _ _ us hl => match us, hl with | [_], _ => rfl
theorem ok_l_due : DfOk F glb blt obT d_l_due := ⟨⟨rfl, rfl, rfl, by decide +kernel, rfl, by decide +kernel, by decide +kernel⟩, b_l_due, by kernel_rfl, fun C => by kernel_rfl, no_xf (by kernel_rfl)⟩
theorem bn_l_due : Bnd d_l_due := fun K f fd F => F.bindsN fun _ _ _ _ _ _ us hl => match us, hl with | [_, _, _, _], _ => rfl
theorem ok_l_caught : DfOk F glb blt obT d_l_caught := ⟨⟨rfl, rfl, rfl, by decide +kernel, rfl, by decide +kernel, by decide +kernel⟩, b_l_caught, by kernel_rfl, fun C => by kernel_rfl, no_xf (by kernel_rfl)⟩
theorem bn_l_caught : Bnd d_l_caught := fun K f fd F => F.bindsN fun _ _ _ _ _ _ us hl => match us, hl with | [_, _, _, _, _], _ => rfl
theorem ok_law : DfOk F glb blt obT d_law := ⟨⟨rfl, rfl, rfl, by decide +kernel, rfl, by decide +kernel, by decide +kernel⟩, b_law, by kernel_rfl, fun C => by kernel_rfl, no_xf (by kernel_rfl)⟩
theorem bn_law : Bnd d_law := fun K f fd F => F.bindsN fun _ _ _ _ _ _ us hl => match us, hl with | [_], _ => rfl
theorem ok_all : ∀ d ∈ ds, DfOk F glb blt obT d := by
  intro d hd
  simp only [ds, List.mem_cons, List.not_mem_nil, or_false] at hd
  rcases hd with rfl | rfl | rfl | rfl | rfl | rfl | rfl | rfl | rfl | rfl | rfl | rfl | rfl | rfl | rfl | rfl | rfl | rfl | rfl | rfl | rfl | rfl | rfl | rfl | rfl | rfl
  · exact ok_AtLimit__init_
  · exact ok_BarTaut__init_
  · exact ok_NotSliding__init_
  · exact ok_stretch_of
  · exact ok_unit_of
  · exact ok_check_move
  · exact ok_move_group
  · exact ok_l_draws
  · exact ok_l_next
  · exact ok_l_one
  · exact ok_l_equal
  · exact ok_l_integer
  · exact ok_l_amount
  · exact ok_l_pair
  · exact ok_l_rig
  · exact ok_l_sized
  · exact ok_l_stretches
  · exact ok_l_is_placement
  · exact ok_l_groups
  · exact ok_l_moved
  · exact ok_l_wander
  · exact ok_l_unit
  · exact ok_l_other
  · exact ok_l_due
  · exact ok_l_caught
  · exact ok_law
theorem bn_all : ∀ d ∈ ds, Bnd d := by
  intro d hd
  simp only [ds, List.mem_cons, List.not_mem_nil, or_false] at hd
  rcases hd with rfl | rfl | rfl | rfl | rfl | rfl | rfl | rfl | rfl | rfl | rfl | rfl | rfl | rfl | rfl | rfl | rfl | rfl | rfl | rfl | rfl | rfl | rfl | rfl | rfl | rfl
  · exact bn_AtLimit__init_
  · exact bn_BarTaut__init_
  · exact bn_NotSliding__init_
  · exact bn_stretch_of
  · exact bn_unit_of
  · exact bn_check_move
  · exact bn_move_group
  · exact bn_l_draws
  · exact bn_l_next
  · exact bn_l_one
  · exact bn_l_equal
  · exact bn_l_integer
  · exact bn_l_amount
  · exact bn_l_pair
  · exact bn_l_rig
  · exact bn_l_sized
  · exact bn_l_stretches
  · exact bn_l_is_placement
  · exact bn_l_groups
  · exact bn_l_moved
  · exact bn_l_wander
  · exact bn_l_unit
  · exact bn_l_other
  · exact bn_l_due
  · exact bn_l_caught
  · exact bn_law
end W_k09
namespace W_k09
open PySem PySem.Spec PyProof.Rows L2 Tg
theorem for_exit {α : Type} {tg : DG} {body : DS} {st : Sto} (f : α → D) (p : α → Bool) (I : En → Prop) (E : α → Fl → Prop) (hx : ∀ x fl, E x fl → (∃ v, fl = .rt v) ∨ ∃ e y fs, fl = .xc e y fs) :
    ∀ (xs : List α), (∀ x ∈ xs, ∀ env, I env → ∃ e, tg (f x) env st = some (e, st) ∧ ((p x = false ∧ ∃ e2, body e st = some (.nx e2, st) ∧ I e2) ∨ (p x = true ∧ ∃ fl, body e st = some (fl, st) ∧ E x fl))) → ∀ env, I env →
    (∀ x, xs.find? p = some x → ∃ fl, forL always tg body (xs.map f) env st = some (fl, st) ∧ E x fl) ∧ (xs.find? p = none → ∃ e, forL always tg body (xs.map f) env st = some (.nx e, st) ∧ I e)
  | [], _, env, hI => ⟨fun x h => (by cases h), fun _ => ⟨env, rfl, hI⟩⟩
  | x :: xs, h, env, hI => by
    obtain ⟨e, h1, h2⟩ := h x List.mem_cons_self env hI
    have go : forL always tg body ((x :: xs).map f) env st = (body e st).bind fun q => match q.1 with
      | .nx env' => forL always tg body (xs.map f) env' q.2
      | .ct env' => forL always tg body (xs.map f) env' q.2
      | .bk env' => some (.nx env', q.2)
      | .rt v => some (.rt v, q.2)
      | .xc e x fs => some (.xc e x fs, q.2) := by
      show (if always st then (tg (f x) env st).bind fun p => (body p.1 p.2).bind _ else none) = _
      rw [if_pos (show always st = true from rfl), h1]
      rfl
    rw [go]
    rcases h2 with ⟨hp, e2, h3, h4⟩ | ⟨hp, fl, h3, h4⟩
    · rw [List.find?_cons_of_neg (by rw [hp]; decide), h3]
      exact for_exit f p I E hx xs (fun y hy => h y (List.mem_cons_of_mem _ hy)) e2 h4
    · rw [List.find?_cons_of_pos hp, h3]
      refine ⟨fun y hy => ?_, fun hn => by cases hn⟩
      cases hy
      refine ⟨fl, ?_, h4⟩
      rcases hx _ _ h4 with ⟨v, rfl⟩ | ⟨e', y, fs, rfl⟩ <;> rfl
def badR (rs : List Ring) (y : List Int) (k : Int) : Bool := !(decide ((ringAt rs k).lo ≤ pa y k.toNat) && decide (pa y k.toNat ≤ (ringAt rs k).hi))
def badB (y : List Int) (p : Bar × Nat) : Bool := decide (gap y p.1.a p.1.b > p.1.len)
def outD (rs : List Ring) (bs : List Bar) (g y : List Int) : D := match g.find? (badR rs y) with
  | some k => .tup [.str (Str.ofString "limit"), .int k]
  | none => match bs.zipIdx.find? (badB y) with
    | some p => .tup [.str (Str.ofString "bar"), .int (p.2 : Nat)]
    | none => .tup [.str (Str.ofString "placement"), plcD y]
def outX (rs : List Ring) (bs : List Bar) (g y : List Int) (d : D) : D := match g.find? (badR rs y) with
  | some k => exD "AtLimit" [("ring", .int k)]
  | none => match bs.zipIdx.find? (badB y) with
    | some p => exD "BarTaut" [("bar", .int (p.2 : Nat))]
    | none => d
theorem plc_of {rs : List Ring} {bs : List Bar} {x g : List Int} {rt : Bool} {c : Int} (hp : Plc rs bs x) (h1 : g.find? (badR rs (mv g rt c x)) = none) (h2 : bs.zipIdx.find? (badB (mv g rt c x)) = none) : Plc rs bs (mv g rt c x) := by
  have xl := hp.len
  have lim : ∀ i, i < rs.length → pa (losL rs) i ≤ pa (mv g rt c x) i ∧ pa (mv g rt c x) i ≤ pa (hisL rs) i := fun i hi => by
    by_cases hg : (i : Int) ∈ g
    · have := List.find?_eq_none.mp h1 _ hg
      obtain ⟨l1, l2⟩ := lo_at (rs := rs) hi
      rw [l1, l2]
      unfold badR at this
      simp only [Bool.not_eq_true', Bool.not_eq_false, Bool.and_eq_true, decide_eq_true_eq, Int.toNat_natCast] at this
      exact this
    · rw [pa_mv (by omega), if_neg hg]
      exact ⟨hp.lo i hi, hp.hi i hi⟩
  refine ⟨by rw [mv_len, xl], fun i hi => (lim i hi).1, fun i hi => (lim i hi).2, fun b hb => ?_⟩
  obtain ⟨i, hi, e⟩ := List.getElem_of_mem hb
  have := List.find?_eq_none.mp h2 (b, i) (by
    rw [List.mem_iff_getElem?]
    exact ⟨i, by rw [List.getElem?_zipIdx, List.getElem?_eq_getElem hi, e]; simp⟩)
  unfold badB at this
  simp only [decide_eq_true_eq] at this
  have z : gap (mv g rt c x) b.a b.b ≤ b.len := by omega
  exact z
theorem out_plc {rs : List Ring} {bs : List Bar} {x g : List Int} (hp : Plc rs bs x) (hg : InR rs.length g) : g.find? (badR rs x) = none ∧ bs.zipIdx.find? (badB x) = none := by
  constructor
  · refine List.find?_eq_none.mpr fun k hk => ?_
    obtain ⟨k0, k1⟩ := hg k hk
    have c1 := hp.lo k.toNat (by omega)
    have c2 := hp.hi k.toNat (by omega)
    obtain ⟨l1, l2⟩ := lo_at (rs := rs) (i := k.toNat) (by omega)
    rw [l1, Int.toNat_of_nonneg k0] at c1
    rw [l2, Int.toNat_of_nonneg k0] at c2
    unfold badR
    rw [decide_eq_true c1, decide_eq_true c2]
    decide
  · refine List.find?_eq_none.mpr fun p hm => ?_
    obtain ⟨_, _, e⟩ := List.mem_zipIdx hm
    have c1 : gap x p.1.a p.1.b ≤ p.1.len := hp.bar _ (by rw [e]; exact List.getElem_mem _)
    unfold badB
    rw [decide_eq_false (by omega)]
    decide
theorem mv_there {g x : List Int} {rt : Bool} {c : Int} : mv g (!rt) c (mv g rt c x) = x := by
  apply pa_ext (by rw [mv_len, mv_len])
  intro i hi
  rw [mv_len, mv_len] at hi
  rw [pa_mv (by rw [mv_len]; exact hi), pa_mv hi]
  split
  · cases rt <;> simp [stepC] <;> omega
  · rfl
section
variable {rs : List Ring} {cs : List Cord} {bs : List Bar} {x y g : List Int}
theorem check_x (n : Nat) (v : VRig rs cs bs) (yl : y.length = rs.length) (hg : InR rs.length g) (st : Sto) : callN F (n + 2) "check_move!" [rigD rs cs bs, plcD g, plcD y] st = some (outX rs bs g y .non, st) := by
  generalize hR : rigD rs cs bs = R
  have u0 : ∀ st, oIx st R (.int 0) = some (.tup (rs.map ringD)) := fun st => by rw [← hR]; rfl
  have u2 : ∀ st, oIx st R (.int 2) = some (.tup (bs.map barD)) := fun st => by rw [← hR]; rfl
  have e0 : startE 9 [R, plcD g, plcD y] = [some R, some (plcD g), some (plcD y), none, none, none, none, none, none] := rfl
  obtain ⟨A, B⟩ := for_exit (tg := gN 3) (body := b_check_move_f1 (callN F (n + 1))) (st := st) D.int (badR rs y) (fun env => ∃ v3 v4 v5 v6 : Option D, env = [some R, some (plcD g), some (plcD y), v3, v4, v5, v6, none, none])
    (fun k fl => ∃ e, fl = .xc e "AtLimit" [("ring", .int k)]) (fun k fl h => .inr (by obtain ⟨e, rfl⟩ := h; exact ⟨_, _, _, rfl⟩)) g (by
      rintro k hk env ⟨v3, v4, v5, v6, rfl⟩
      obtain ⟨k0, k1⟩ := hg k hk
      have a1 := ringG k0 k1
      have a2 := plG (x := y) k0 (by omega)
      refine ⟨_, rfl, ?_⟩
      simp only [b_check_move_f1, ringD, badR] at *
      by_cases c1 : (ringAt rs k).lo ≤ pa y k.toNat
      · by_cases c2 : pa y k.toNat ≤ (ringAt rs k).hi
        · left
          refine ⟨by rw [decide_eq_true c1, decide_eq_true c2]; rfl, ?_⟩
          repeat (first | walk_at "ev" | simp only [u0, a1, a2, e_gtT, if_true, reduceIte, Nat.reduceAdd, decide_eq_true c1, decide_eq_true c2, Bool.not_true, e_chain, e_kch, e_kch2, e_kch3T, e_kch3F])
          exact ⟨_, rfl, _, _, _, _, rfl⟩
        · right
          refine ⟨by rw [decide_eq_true c1, decide_eq_false c2]; rfl, ?_⟩
          repeat (first | walk_at "ev" | simp only [u0, a1, a2, e_gtT, if_true, reduceIte, Nat.reduceAdd, decide_eq_true c1, decide_eq_false c2, Bool.not_false, e_chain, e_kch, e_kch2, e_kch3T, e_kch3F, e_raiseF, e_kraiseF (ns := ["ring"]) (ds := [.int k]) rfl, e_kseqX])
          exact ⟨_, rfl, _, rfl⟩
      · right
        refine ⟨by rw [decide_eq_false c1]; rfl, ?_⟩
        repeat (first | walk_at "ev" | simp only [u0, a1, a2, e_gtT, if_true, reduceIte, Nat.reduceAdd, decide_eq_false c1, Bool.not_false, e_chain, e_kch, e_kch2, e_kch3T, e_kch3F, e_raiseF, e_kraiseF (ns := ["ring"]) (ds := [.int k]) rfl, e_kseqX])
        exact ⟨_, rfl, _, rfl⟩)
    [some R, some (plcD g), some (plcD y), none, none, none, none, none, none] ⟨_, _, _, _, rfl⟩
  unfold outX
  cases h1 : g.find? (badR rs y) with
  | some k =>
    obtain ⟨fl, f1, e, rfl⟩ := A k h1
    refine callX_xc (F := F) (ix := "check_move!") (body := b_check_move) (k := 3) (m := 9) (e := e) rfl rfl ?_
    simp only [e0, b_check_move]
    repeat (first | walk_at "ev" | simp only [f1, e_kseqX])
  | none =>
    obtain ⟨e, f1, v3, v4, v5, v6, rfl⟩ := B h1
    obtain ⟨A2, B2⟩ := for_exit (tg := gT 2 (gsCons (gN 7) (gsCons (gN 8) gsNil))) (body := b_check_move_f2 (callN F (n + 1))) (st := st) (fun p : Bar × Nat => D.tup [.int (p.2 : Nat), barD p.1]) (badB y) (fun env => ∃ v7 v8 : Option D, env = [some R, some (plcD g), some (plcD y), v3, v4, v5, v6, v7, v8])
      (fun p fl => ∃ e, fl = .xc e "BarTaut" [("bar", .int (p.2 : Nat))]) (fun k fl h => .inr (by obtain ⟨e, rfl⟩ := h; exact ⟨_, _, _, rfl⟩)) bs.zipIdx (by
        rintro p hp env ⟨v7, v8, rfl⟩
        have hm : p.1 ∈ bs := by
          obtain ⟨_, _, e⟩ := List.mem_zipIdx hp
          rw [e]
          exact List.getElem_mem _
        have a1 := stretch_bar_spec (F := F) rfl n (y := y) (c := p.1) (by rw [yl]; exact v.ix _ hm) st
        have a2 : oIx st (barD p.1) (.int 2) = some (.int p.1.len) := rfl
        refine ⟨_, rfl, ?_⟩
        simp only [b_check_move_f2, badB]
        by_cases c : gap y p.1.a p.1.b > p.1.len
        · right
          refine ⟨decide_eq_true c, ?_⟩
          repeat (first | walk_at "ev" | simp only [a1, a2, decide_eq_true c, e_raiseF, e_kraiseF (ns := ["bar"]) (ds := [.int (p.2 : Nat)]) rfl, e_kseqX])
          exact ⟨_, rfl, _, rfl⟩
        · left
          refine ⟨decide_eq_false c, ?_⟩
          repeat (first | walk_at "ev" | simp only [a1, a2, decide_eq_false c])
          exact ⟨_, rfl, _, _, rfl⟩)
      [some R, some (plcD g), some (plcD y), v3, v4, v5, v6, none, none] ⟨_, _, rfl⟩
    dsimp only
    cases h2 : bs.zipIdx.find? (badB y) with
    | some p =>
      obtain ⟨fl, f2, e, rfl⟩ := A2 p h2
      refine callX_xc (F := F) (ix := "check_move!") (body := b_check_move) (k := 3) (m := 9) (e := e) rfl rfl ?_
      simp only [e0, b_check_move]
      repeat (first | walk_at "ev" | simp only [f1, f2, u2, en_zip, e_kseqX])
    | none =>
      obtain ⟨e, f2, v7, v8, rfl⟩ := B2 h2
      refine callX_rt (F := F) (ix := "check_move!") (body := b_check_move) (k := 3) (m := 9) rfl rfl ?_
      simp only [e0, b_check_move]
      repeat (first | walk_at "ev" | simp only [u2, en_zip])
      rw [f1]
      repeat (first | walk_at "ev" | simp only [u2, en_zip])
      rw [f2]
      repeat (first | walk_at "ev" | simp only [e_kfnN])
      rfl
end
section
variable {rs : List Ring} {cs : List Cord} {bs : List Bar} {x y g : List Int}
theorem move_x (n : Nat) (v : VRig rs cs bs) (xl : x.length = rs.length) (hg : InR rs.length g) {rt : Bool} {c : Int} (c0 : -10000000000000 ≤ c) (c1 : c ≤ 10000000000000) (st : Sto) :
    callN F (n + 3) "move_group!" [rigD rs cs bs, plcD x, plcD g, sideD rt, .int c] st = some (outX rs bs g (mv g rt c x) (plcD (mv g rt c x)), st) := by
  have ku := unit_spec (F := F) rfl (n + 1) rt st
  have kc := check_x (y := mv g rt c x) n v (by rw [mv_len, xl]) hg st
  have mu := o_mul (s := st) (mulOk_l (a := unitI rt) (b := c) (by cases rt <;> simp [unitI]) (by cases rt <;> simp [unitI]))
  have sb : -10000000000000 ≤ stepC rt c ∧ stepC rt c ≤ 10000000000000 := by cases rt <;> simp [stepC] <;> omega
  rw [show unitI rt * c = stepC rt c by cases rt <;> simp [unitI, stepC]] at mu
  generalize hR : rigD rs cs bs = R at *
  have e0 : startE 9 [R, plcD x, plcD g, sideD rt, .int c] = [some R, some (plcD x), some (plcD g), some (sideD rt), some (.int c), none, none, none, none] := rfl
  have lc : lcL always (gT 2 (gsCons (gN 7) (gsCons (gN 8) gsNil))) bYes (eOp oAdd (eVar 8) (eOp oMul (eVar 5) (eBlt gInt (aCons (eOp (oInS false) (eVar 7) (eVar 2)) aNil)))) [some R, some (plcD x), some (plcD g), some (sideD rt), some (.int c), some (.int (stepC rt c)), none, none, none]
      (x.zipIdx.map fun p : Int × Nat => D.tup [.int (p.2 : Nat), .int p.1]) st = some ((mv g rt c x).map D.int, st) := by
    have em : (x.zipIdx.map fun p : Int × Nat => D.int (if ((p.2 : Nat) : Int) ∈ g then p.1 + stepC rt c else p.1)) = (mv g rt c x).map D.int := by
      simp only [mv, List.map_map, Function.comp_def]
    rw [← em]
    refine lc_map (fun p : Int × Nat => D.tup [.int (p.2 : Nat), .int p.1]) (fun p => .int (if ((p.2 : Nat) : Int) ∈ g then p.1 + stepC rt c else p.1)) x.zipIdx fun p _ => ⟨_, rfl, rfl, ?_⟩
    have m := fun z : Int => o_mul (s := st) (mulOk_l (a := stepC rt c) (b := z) (by omega) (by omega))
    by_cases hp : ((p.2 : Nat) : Int) ∈ g
    · repeat (first | walk_at "ev" | simp only [in_ints, decide_eq_true hp, if_pos hp, if_true, m, Int.mul_one])
    · repeat (first | walk_at "ev" | simp only [in_ints, decide_eq_false hp, if_neg hp, Bool.false_eq_true, if_false, m, Int.mul_zero, Int.add_zero])
  have kc : callN F (n + 2) "check_move!" [R, plcD g, .tup ((mv g rt c x).map D.int)] st = _ := kc
  have all0 : (∀ d, outX rs bs g (mv g rt c x) d = d) ∨ ∃ z fs, ∀ d, outX rs bs g (mv g rt c x) d = exD z fs := by
    rcases hf : g.find? (badR rs (mv g rt c x)) with _ | k
    · rcases hf2 : bs.zipIdx.find? (badB (mv g rt c x)) with _ | p
      · left; intro d; unfold outX; rw [hf]; dsimp only; rw [hf2]
      · right; exact ⟨_, _, fun d => by unfold outX; rw [hf]; dsimp only; rw [hf2]⟩
    · right; exact ⟨_, _, fun d => by unfold outX; rw [hf]⟩
  rcases all0 with hn | ⟨z, fs, hx⟩
  · rw [hn] at kc ⊢
    refine callX_rt (F := F) (ix := "move_group!") (body := b_move_group) (k := 5) (m := 9) rfl rfl ?_
    have xn : xOf D.non = none := rfl
    simp only [e0, b_move_group]
    repeat (first | walk_at "ev" | simp only [ku, mu, en_zip, lc, kc, e_exprX, e_kexprX xn, e_kfnR])
    try rfl
  · rw [hx] at kc ⊢
    refine callX_xc (F := F) (ix := "move_group!") (body := b_move_group) (k := 5) (m := 9) (e := [some R, some (plcD x), some (plcD g), some (sideD rt), some (.int c), some (.int (stepC rt c)), some (.tup ((mv g rt c x).map D.int)), none, none]) rfl rfl ?_
    simp only [e0, b_move_group]
    repeat (first | walk_at "ev" | simp only [ku, mu, en_zip, lc, kc, e_exprX, e_kexprXf, e_kseqX])
theorem caught_spec (n : Nat) (v : VRig rs cs bs) (xl : x.length = rs.length) (hg : InR rs.length g) {rt : Bool} {c : Int} (c0 : -10000000000000 ≤ c) (c1 : c ≤ 10000000000000) (st : Sto) :
    callN F (n + 4) "_law_caught" [rigD rs cs bs, plcD x, plcD g, sideD rt, .int c] st = some (outD rs bs g (mv g rt c x), st) := by
  have k := move_x n v xl hg (rt := rt) c0 c1 st
  generalize hR : rigD rs cs bs = R at *
  generalize hY : mv g rt c x = Y at *
  have e0 : startE 9 [R, plcD x, plcD g, sideD rt, .int c] = [some R, some (plcD x), some (plcD g), some (sideD rt), some (.int c), none, none, none, none] := rfl
  rw [call_eq (f := ⟨5, 9, b_l_caught⟩) rfl rfl]
  unfold outX at k
  unfold outD
  have xs : ∀ z : Str, xOf (.str z) = none := fun _ => rfl
  have xp : xOf (plcD Y) = none := by
    unfold plcD
    cases Y <;> rfl
  have xt2 : ∀ z d, xOf (.tup [.str z, d]) = none := fun _ _ => rfl
  simp only [e0, b_l_caught]
  cases h1 : g.find? (badR rs Y) with
  | some q =>
    rw [h1] at k
    have i0 : inXt xtT "AtLimit" = true := by decide +kernel
    have i1 : (["AtLimit"] : List Str).any (isA xtT "AtLimit") = true := by decide +kernel
    have i2 : isA xtT "AtLimit" "TugError" = true := by decide +kernel
    have i3 : (["BarTaut", "Full", "NotSliding"] : List Str).any (isA xtT "AtLimit") = false := by decide +kernel
    repeat (first | walk_at "ev" | simp only [k, e_trym, e_asgX, e_tupN, e_aconsN, e_kan (xs _), e_kanX x_exDf, e_kan2, e_ktnX x_exDf, e_kasgXf, e_kseqX, e_ktrymX i0])
    rw [e_catchY i1 (by rfl)]
    repeat (first | walk_at "ev" | simp only [i2, i3, envH, setS, List.foldl_cons, List.foldl_nil, e_ktry2N, Bool.not_false, e_kfnR])
    try rfl
  | none =>
    rw [h1] at k
    dsimp only at k ⊢
    cases h2 : bs.zipIdx.find? (badB Y) with
    | some p =>
      rw [h2] at k
      have i0 : inXt xtT "BarTaut" = true := by decide +kernel
      have i1 : (["AtLimit"] : List Str).any (isA xtT "BarTaut") = false := by decide +kernel
      have i2 : (["BarTaut"] : List Str).any (isA xtT "BarTaut") = true := by decide +kernel
      have i3 : isA xtT "BarTaut" "TugError" = true := by decide +kernel
      have i4 : (["AtLimit", "Full", "NotSliding"] : List Str).any (isA xtT "BarTaut") = false := by decide +kernel
      repeat (first | walk_at "ev" | simp only [k, e_trym, e_asgX, e_tupN, e_aconsN, e_kan (xs _), e_kanX x_exDf, e_kan2, e_ktnX x_exDf, e_kasgXf, e_kseqX, e_ktrymX i0, e_catchN i1])
      rw [e_catchY i2 (by rfl)]
      repeat (first | walk_at "ev" | simp only [i3, i4, envH, setS, List.foldl_cons, List.foldl_nil, e_ktry2N, Bool.not_false, e_kfnR])
      try rfl
    | none =>
      rw [h2] at k
      repeat (first | walk_at "ev" | simp only [k, e_trym, e_asgX, e_tupN, e_aconsN, e_anilN, e_kan (xs _), e_kan xp, e_kan2, e_ktn (xt2 _ _), e_kasgX (xt2 _ _), e_ktrymN, e_kfnR])
      try rfl
end
section
variable {rs : List Ring} {cs : List Cord} {bs : List Bar} {x g : List Int}
theorem due_spec (n : Nat) (v : VRig rs cs bs) (xl : x.length = rs.length) (hg : InR rs.length g) {c : Int} (c0 : -10000000000000 ≤ c) (c1 : c ≤ 10000000000000) (st : Sto) :
    callN F (n + 2) "_law_due" [rigD rs cs bs, plcD x, plcD g, .int c] st = some (outD rs bs g (mv g true c x), st) := by
  have km := lmoved_spec (F := F) rfl n x g (c := c) c0 c1 st
  have yl : (mv g true c x).length = rs.length := by rw [mv_len, xl]
  generalize hY : mv g true c x = y at *
  generalize hR : rigD rs cs bs = R
  have u0 : ∀ st, oIx st R (.int 0) = some (.tup (rs.map ringD)) := fun st => by rw [← hR]; rfl
  have u2 : ∀ st, oIx st R (.int 2) = some (.tup (bs.map barD)) := fun st => by rw [← hR]; rfl
  have e0 : startE 8 [R, plcD x, plcD g, .int c] = [some R, some (plcD x), some (plcD g), some (.int c), none, none, none, none] := rfl
  obtain ⟨A, B⟩ := for_exit (tg := gN 5) (body := b_l_due_f1 (callN F (n + 1))) (st := st) D.int (badR rs y) (fun env => ∃ v5 : Option D, env = [some R, some (plcD x), some (plcD g), some (.int c), some (plcD y), v5, none, none])
    (fun k fl => fl = .rt (.tup [.str (Str.ofString "limit"), .int k])) (fun k fl h => .inl ⟨_, h⟩) g (by
      rintro k hk env ⟨v5, rfl⟩
      obtain ⟨k0, k1⟩ := hg k hk
      have a1 := ringG k0 k1
      have a2 := plG (x := y) k0 (by omega)
      refine ⟨_, rfl, ?_⟩
      simp only [b_l_due_f1, ringD, badR] at *
      by_cases c1 : (ringAt rs k).lo ≤ pa y k.toNat
      · by_cases c2 : pa y k.toNat ≤ (ringAt rs k).hi
        · left
          refine ⟨by rw [decide_eq_true c1, decide_eq_true c2]; rfl, ?_⟩
          repeat (first | walk_at "ev" | simp only [u0, a1, a2, decide_eq_true c1, decide_eq_true c2, Bool.not_true, e_chain, e_kch, e_kch2, e_kch3T, e_kch3F])
          exact ⟨_, rfl, _, rfl⟩
        · right
          refine ⟨by rw [decide_eq_true c1, decide_eq_false c2]; rfl, ?_⟩
          repeat (first | walk_at "ev" | simp only [u0, a1, a2, decide_eq_true c1, decide_eq_false c2, Bool.not_false, e_chain, e_kch, e_kch2, e_kch3T, e_kch3F])
          exact ⟨_, rfl, rfl⟩
      · right
        refine ⟨by rw [decide_eq_false c1]; rfl, ?_⟩
        repeat (first | walk_at "ev" | simp only [u0, a1, a2, decide_eq_false c1, Bool.not_false, e_chain, e_kch, e_kch2, e_kch3T, e_kch3F])
        exact ⟨_, rfl, rfl⟩)
    [some R, some (plcD x), some (plcD g), some (.int c), some (plcD y), none, none, none] ⟨_, rfl⟩
  rw [call_eq (f := ⟨4, 8, b_l_due⟩) rfl rfl]
  unfold outD
  simp only [e0, b_l_due]
  cases h1 : g.find? (badR rs y) with
  | some k =>
    obtain ⟨fl, f1, rfl⟩ := A k h1
    repeat (first | walk_at "ev" | simp only [km, f1, e_kfnR])
  | none =>
    obtain ⟨e, f1, v5, rfl⟩ := B h1
    obtain ⟨A2, B2⟩ := for_exit (tg := gT 2 (gsCons (gN 6) (gsCons (gN 7) gsNil))) (body := b_l_due_f2 (callN F (n + 1))) (st := st) (fun p : Bar × Nat => D.tup [.int (p.2 : Nat), barD p.1]) (badB y) (fun env => ∃ v6 v7 : Option D, env = [some R, some (plcD x), some (plcD g), some (.int c), some (plcD y), v5, v6, v7])
      (fun p fl => fl = .rt (.tup [.str (Str.ofString "bar"), .int (p.2 : Nat)])) (fun k fl h => .inl ⟨_, h⟩) bs.zipIdx (by
        rintro p hp env ⟨v6, v7, rfl⟩
        have hm : p.1 ∈ bs := by
          obtain ⟨_, _, e⟩ := List.mem_zipIdx hp
          rw [e]
          exact List.getElem_mem _
        obtain ⟨b0, b1, b2, b3⟩ := v.ix _ hm
        have a1 := pat_at (ps := y) (i := p.1.a) b0 (by omega)
        have a2 := pat_at (ps := y) (i := p.1.b) b2 (by omega)
        have g0 : gap y p.1.a p.1.b = pAt y p.1.b - pAt y p.1.a := rfl
        refine ⟨_, rfl, ?_⟩
        simp only [b_l_due_f2, badB, barD, g0] at *
        by_cases c : pAt y p.1.b - pAt y p.1.a > p.1.len
        · right
          refine ⟨decide_eq_true c, ?_⟩
          repeat (first | walk_at "ev" | simp only [a1, a2, decide_eq_true c])
          exact ⟨_, rfl, rfl⟩
        · left
          refine ⟨decide_eq_false c, ?_⟩
          repeat (first | walk_at "ev" | simp only [a1, a2, decide_eq_false c])
          exact ⟨_, rfl, _, _, rfl⟩)
      [some R, some (plcD x), some (plcD g), some (.int c), some (plcD y), v5, none, none] ⟨_, _, rfl⟩
    dsimp only
    cases h2 : bs.zipIdx.find? (badB y) with
    | some p =>
      obtain ⟨fl, f2, rfl⟩ := A2 p h2
      repeat (first | walk_at "ev" | simp only [km, f1, f2, u2, en_zip, e_kfnR])
    | none =>
      obtain ⟨e, f2, v6, v7, rfl⟩ := B2 h2
      repeat (first | walk_at "ev" | simp only [km, f1, f2, u2, en_zip, e_kfnR])
theorem other_spec (n : Nat) (rt : Bool) (st : Sto) : callN F (n + 1) "_law_other" [sideD rt] st = some (sideD (!rt), st) := by
  rw [call_eq (f := ⟨1, 1, b_l_other⟩) rfl rfl]
  have e0 : startE 1 [sideD rt] = [some (.str (sideS rt))] := rfl
  simp only [e0, b_l_other]
  repeat (first | walk_at "ev" | simp only [side_eq])
  cases rt <;> repeat (first | walk_at "ev" | simp only [if_true, Bool.false_eq_true, if_false, e_kfnR])
  all_goals rfl
theorem pl_out {bs : List Bar} {y : List Int} : Pl 2 (outD rs bs g y) := by
  unfold outD
  split
  · exact pl_tup (pl_cons pl_str (pl_cons pl_int pl_nil))
  · split
    · exact pl_tup (pl_cons pl_str (pl_cons pl_int pl_nil))
    · exact pl_tup (pl_cons pl_str (pl_cons (pl_plc _) pl_nil))
end
def turnP (sc : D) (d : Int) (RD : D) (n : Nat) (y : List Int) (o : Sto) (b : Int) (ks : List Nat) (env : En) (st : Sto) : Prop := ∃ (s : Dr) (v7 v8 v9 v10 v11 v12 v13 v14 : Option D),
  env = [some sc, some (.loc 1), some (.int d), some RD, some (plcD y), some (.lst ((grpsX n).map plcD)), some (.str (shownD (.lst [RD, plcD y]))), v7, v8, v9, v10, v11, v12, v13, v14] ∧ st = mkSt s o ∧ DOk s (b + 4 * ks.length)
theorem turn_step (n : Nat) {rs : List Ring} {cs : List Cord} {bs : List Bar} {y : List Int} (v : VRig rs cs bs) (hp : Plc rs bs y) (sc : D) {d : Int} (z0 : 0 ≤ d) (z1 : d ≤ 100000000000) (o : Sto) {b : Int} (hb : 0 ≤ b) (k : Nat) (ks : List Nat) (env : En) (st : Sto)
    (h : turnP sc d (rigD rs cs bs) rs.length y o b (k :: ks) env st) :
    ∃ e s, gN 7 (.int (0 + (k : Int))) env st = some (e, s) ∧ ∃ e2 s2, b_law_f1 (callN F (n + 4)) e s = some (.nx e2, s2) ∧ turnP sc d (rigD rs cs bs) rs.length y o b ks e2 s2 := by
  obtain ⟨s, v7, v8, v9, v10, v11, v12, v13, v14, rfl, rfl, hd⟩ := h
  rw [List.length_cons] at hd
  refine ⟨_, _, rfl, ?_⟩
  have r1 := v.r1
  have r2 := v.r2
  have xl := hp.len
  obtain ⟨p1, p2⟩ := grpsX_pos r1
  have p3 : 2 ^ rs.length ≤ 2 ^ 8 := Nat.pow_le_pow_right (by omega) r2
  have on := ones_of (F := F) rfl rfl (n + 2)
  have dr := draws_of (F := F) rfl (n + 3)
  obtain ⟨gd, s1, k1, hg, d1⟩ := on.l hd o ((grpsX rs.length).map plcD) (by omega) (by rw [List.length_map]; omega) (by rw [List.length_map]; omega)
  obtain ⟨g, hgm, rfl⟩ := List.mem_map.mp hg
  have hG := grpsX_mem.mp hgm
  obtain ⟨sd, s2, k2, hs, d2⟩ := on.l d1 o [.str (Str.ofString "left"), .str (Str.ofString "right")] (by omega) (by simp) (by simp)
  obtain ⟨rt, rfl⟩ : ∃ rt, sd = sideD rt := by
    simp only [List.mem_cons, List.not_mem_nil, or_false] at hs
    rcases hs with rfl | rfl
    · exact ⟨false, rfl⟩
    · exact ⟨true, rfl⟩
  obtain ⟨t, s3, k3, t0, t1, d3⟩ := dr.n d2 o (d + 1) (by omega) (by omega) (by omega)
  obtain ⟨cd, s4, k4, hc, d4⟩ := on.l d3 o [.int 0, .int 1, .int 1, .int 2, .int 3, .int d, .int 2000000000000, .int t] (by omega) (by simp) (by simp)
  obtain ⟨c, rfl, c0, c1⟩ : ∃ c : Int, cd = .int c ∧ 0 ≤ c ∧ c ≤ 2000000000000 := by
    simp only [List.mem_cons, List.not_mem_nil, or_false] at hc
    rcases hc with rfl | rfl | rfl | rfl | rfl | rfl | rfl | rfl <;> exact ⟨_, rfl, by omega, by omega⟩
  have ku := fun st => lunit_spec (F := F) rfl (n + 3) rt st
  have ub : -1 ≤ unitI rt ∧ unitI rt ≤ 1 := by cases rt <;> simp [unitI]
  have mu := fun st : Sto => o_mul (s := st) (mulOk_l (a := c) (b := unitI rt) (by omega) (by omega))
  have sb : c * unitI rt = stepC rt c := by cases rt <;> simp [unitI, stepC]
  have sb2 : -10000000000000 ≤ stepC rt c ∧ stepC rt c ≤ 10000000000000 := by cases rt <;> simp [stepC] <;> omega
  rw [sb] at mu
  have em : mv g true (stepC rt c) y = mv g rt c y := by
    unfold mv
    rw [show stepC true (stepC rt c) = stepC rt c from rfl]
  have kd := fun st => due_spec (n + 2) v xl hG.2.1 (c := stepC rt c) sb2.1 sb2.2 st
  rw [em] at kd
  have kc := fun st => caught_spec n v xl hG.2.1 (rt := rt) (c := c) (by omega) (by omega) st
  have ko := fun st => other_spec (n + 3) rt st
  have lt := eq2 (F := F) rfl (n := n + 3) (k := 3) (d := .tup [outD rs bs g (mv g rt c y), outD rs bs g (mv g rt c y)]) (pl_tup (pl_cons pl_out (pl_cons pl_out pl_nil))) (by omega)
  have p12 : ∀ t : Sto, oPow t (.int 10) (.int 12) = some (.int 1000000000000) := fun _ => rfl
  have m12 : ∀ t : Sto, oMul t (.int 2) (.int 1000000000000) = some (.int 2000000000000) := fun _ => rfl
  have d5 : DOk s4 (b + 4 * ks.length) := d4.mono (by omega)
  have rg2 := fun st : Sto => e_krng1 (s := st) (j := 2) (by omega) (by omega)
  -- the end
  have fin : (∃ z w, outD rs bs g (mv g rt c y) = .tup [.str z, w] ∧ decide (z = Str.ofString "placement") = false) ∨ (outD rs bs g (mv g rt c y) = .tup [.str (Str.ofString "placement"), plcD (mv g rt c y)] ∧ Plc rs bs (mv g rt c y)) := by
    unfold outD
    rcases hf : g.find? (badR rs (mv g rt c y)) with _ | q
    · rcases hf2 : bs.zipIdx.find? (badB (mv g rt c y)) with _ | p
      · exact .inr ⟨rfl, plc_of hp hf hf2⟩
      · exact .inl ⟨_, _, rfl, by decide +kernel⟩
    · exact .inl ⟨_, _, rfl, by decide +kernel⟩
  have eg : D.tup (g.map D.int) = plcD g := rfl
  rcases fin with ⟨z, w, eO, ez⟩ | ⟨eO, hY⟩
  · rw [eO] at kd kc lt
    have lc : ∀ st, lcL always (gN 13) bYes (eCall (callN F (n + 4)) "_law_caught" (aCons (eVar 3) (aCons (eVar 4) (aCons (eVar 8) (aCons (eVar 9) (aCons (eVar 10) aNil)))))) [some sc, some (.loc 1), some (.int d), some (rigD rs cs bs), some (plcD y), some (.lst ((grpsX rs.length).map plcD)), some (.str (shownD (.lst [rigD rs cs bs, plcD y]))), some (.int (0 + (k : Int))), some (plcD g), some (sideD rt), some (.int c), some (.tup [.str z, w]), v12, none, v14] (rangeD 0 (2 : Int).toNat) st = some ([.tup [.str z, w], .tup [.str z, w]], st) := fun st => by
      have h0 := kc st
      generalize rigD rs cs bs = R at *
      exact lc_map (fun i : Nat => D.int (0 + (i : Int))) (fun _ => .tup [.str z, w]) (List.range 2) fun i hi => ⟨_, rfl, rfl, by repeat (first | walk_at "ev" | simp only [h0])⟩
    generalize rigD rs cs bs = R at *
    simp only [b_law_f1]
    repeat (first | walk_at "ev" | simp only [e_gtT, if_true, reduceIte, Nat.reduceAdd, rg2, k1, k2, k3, k4, p12, m12, ku, mu, kd, lc, lt, ez, Bool.not_true])
    exact ⟨_, _, rfl, s4, _, _, _, _, _, _, _, _, rfl, rfl, d5⟩
  · rw [eO] at kd kc lt
    have kb := fun st => caught_spec n v hY.len hG.2.1 (rt := !rt) (c := c) (by omega) (by omega) st
    rw [mv_there] at kb
    obtain ⟨o1, o2⟩ := out_plc hp hG.2.1
    have eB : outD rs bs g y = .tup [.str (Str.ofString "placement"), plcD y] := by
      unfold outD
      rw [o1]
      dsimp only
      rw [o2]
    rw [eB] at kb
    have lb := eq2 (F := F) rfl (n := n + 3) (k := 2) (d := .tup [.str (Str.ofString "placement"), plcD y]) (pl_tup (pl_cons pl_str (pl_cons (pl_plc _) pl_nil))) (by omega)
    have lc : ∀ st, lcL always (gN 13) bYes (eCall (callN F (n + 4)) "_law_caught" (aCons (eVar 3) (aCons (eVar 4) (aCons (eVar 8) (aCons (eVar 9) (aCons (eVar 10) aNil)))))) [some sc, some (.loc 1), some (.int d), some (rigD rs cs bs), some (plcD y), some (.lst ((grpsX rs.length).map plcD)), some (.str (shownD (.lst [rigD rs cs bs, plcD y]))), some (.int (0 + (k : Int))), some (plcD g), some (sideD rt), some (.int c), some (.tup [.str (Str.ofString "placement"), plcD (mv g rt c y)]), v12, none, v14] (rangeD 0 (2 : Int).toNat) st = some ([.tup [.str (Str.ofString "placement"), plcD (mv g rt c y)], .tup [.str (Str.ofString "placement"), plcD (mv g rt c y)]], st) := fun st => by
      have h0 := kc st
      generalize rigD rs cs bs = R at *
      exact lc_map (fun i : Nat => D.int (0 + (i : Int))) (fun _ => .tup [.str (Str.ofString "placement"), plcD (mv g rt c y)]) (List.range 2) fun i hi => ⟨_, rfl, rfl, by repeat (first | walk_at "ev" | simp only [h0])⟩
    generalize hYD : plcD (mv g rt c y) = YD at *
    generalize rigD rs cs bs = R at *
    simp only [b_law_f1]
    repeat (first | walk_at "ev" | simp only [e_gtT, if_true, reduceIte, Nat.reduceAdd, rg2, k1, k2, k3, k4, p12, m12, ku, mu, kd, lc, lt, ko, kb, lb, decide_true, Bool.not_true])
    exact ⟨_, _, rfl, s4, _, _, _, _, _, _, _, _, rfl, rfl, d5⟩
def lawP (sc : D) (ds : List Int) (env : En) (st : Sto) : Prop := ∃ (s : Dr) (o : Sto) (v2 v3 v4 v5 v6 v7 v8 v9 v10 v11 v12 v13 v14 : Option D),
  env = [some sc, some (.loc 1), v2, v3, v4, v5, v6, v7, v8, v9, v10, v11, v12, v13, v14] ∧ st = mkSt s o ∧ (∀ z ∈ ds, 0 ≤ z ∧ z ≤ 100000000000) ∧ DOk s (600 * ds.length)
theorem law_step (n : Nat) (sc : D) (d : Int) (ds : List Int) (env : En) (st : Sto) (h : lawP sc (d :: ds) env st) :
    ∃ e s, gN 2 (.int d) env st = some (e, s) ∧ ∃ e2 s2, b_law_f2 (callN F (n + 4)) e s = some (.nx e2, s2) ∧ lawP sc ds e2 s2 := by
  obtain ⟨s, o, v2, v3, v4, v5, v6, v7, v8, v9, v10, v11, v12, v13, v14, rfl, rfl, hz, hd⟩ := h
  rw [List.length_cons] at hd
  refine ⟨_, _, rfl, ?_⟩
  obtain ⟨z0, z1⟩ := hz d List.mem_cons_self
  have rg := rigs_of2 (F := F) rfl rfl rfl rfl (n + 1)
  obtain ⟨R, s1, g1, k1, hR, d1⟩ := rg.n hd o 8 d (by omega) (by omega) (by omega) z0 (by omega)
  have v := hR.v
  obtain ⟨y, s2, k2, hp, d2⟩ := wander_spec (F := F) rfl rfl rfl rfl rfl rfl rfl rfl rfl (n + 1) v hR.plc d1 (by omega) (o ++ g1)
  have rp := fun t => repr_rp hp v t
  have r2 := v.r2
  have k3 := fun t => lgroups_spec (F := F) rfl (n + 3) R.rings.length (by omega) t
  have k1 : callN F (n + 4) "_law_rig" [.loc 1, .int 8, .int d] (mkSt s o) = some (.lst [rigD R.rings R.cords R.bars, plcD R.ps], mkSt s1 (o ++ g1)) := k1
  have yl := hp.len
  have st8 := fun (k : Nat) (ks : List Nat) (env : En) (st : Sto) h => turn_step n v hp sc z0 z1 (o ++ g1) (b := 600 * ds.length) (by omega) k ks env st h
  generalize hRD : rigD R.rings R.cords R.bars = RD at *
  obtain ⟨env', st', k, s5, w7, w8, w9, w10, w11, w12, w13, w14, rfl, hst, d5⟩ := for_rel (tg := gN 7) (body := b_law_f1 (callN F (n + 4))) (fun i : Nat => D.int (0 + (i : Int)))
    (turnP sc d RD R.rings.length y (o ++ g1) (600 * ds.length)) st8
    (List.range 16) [some sc, some (.loc 1), some (.int d), some RD, some (plcD y), some (.lst ((grpsX R.rings.length).map plcD)), some (.str (shownD (.lst [RD, plcD y]))), v7, v8, v9, v10, v11, v12, v13, v14] (mkSt s2 (o ++ g1)) ⟨s2, _, _, _, _, _, _, _, _, rfl, rfl, d2.mono (by rw [List.length_range]; omega)⟩
  rw [hst] at k
  have nes : ∀ t z, oNe t (.str z) (.str z) = some (.bl false) := fun t z => by
    show some (D.bl (!decide (z = z))) = _
    rw [decide_eq_true rfl]
    rfl
  have rg16 := e_krng1 (s := mkSt s2 (o ++ g1)) (j := 16) (by omega) (by omega)
  have k : forL always (gN 7) (b_law_f1 (callN F (n + 4))) (rangeD 0 (16 : Int).toNat) [some sc, some (.loc 1), some (.int d), some RD, some (plcD y), some (.lst ((grpsX R.rings.length).map plcD)), some (.str (shownD (.lst [RD, plcD y]))), v7, v8, v9, v10, v11, v12, v13, v14] (mkSt s2 (o ++ g1)) = _ := k
  simp only [b_law_f2]
  repeat (first | walk_at "ev" | simp only [k1, e_gtL, if_true, reduceIte, Nat.reduceAdd, k2, rp, yl, k3, rg16, k, nes, decide_true, Bool.not_true])
  exact ⟨_, _, rfl, s5, _, _, _, _, _, _, _, _, _, _, _, _, _, _, rfl, rfl, fun z hz' => hz z (List.mem_cons_of_mem _ hz'), d5.mono (by simp)⟩
theorem main (ns : List Int) (hl : ns.length ≤ 63) (_ : ∀ z ∈ ns, Builtin.Int.intBits z ≤ 1048576) : ∃ st', callN F 10 "law" [.scr (ns.map D.int)] [] = some (.bl true, st') := by
  rw [call_eq (f := ⟨1, 15, b_law⟩) rfl rfl]
  have e0 : startE 15 [.scr (ns.map D.int)] = [some (.scr (ns.map D.int)), none, none, none, none, none, none, none, none, none, none, none, none, none, none] := rfl
  obtain ⟨s, k1, hs⟩ := draws_spec (F := F) rfl 8 ns hl
  obtain ⟨env1, st1, f1, s4, o4, v2, v3, v4, v5, v6, v7, v8, v9, v10, v11, v12, v13, v14, rfl, rfl, _, d4⟩ := for_rel (tg := gN 2) (body := b_law_f2 (callN F 9)) D.int (lawP (.scr (ns.map D.int)))
    (fun d ds env st h => law_step 5 _ d ds env st h) [2, 9, 100000000000]
    [some (.scr (ns.map D.int)), some (.loc 1), none, none, none, none, none, none, none, none, none, none, none, none, none] (mkSt s [])
    ⟨s, [], none, none, none, none, none, none, none, none, none, none, none, none, none, rfl, rfl, by intro z hz; simp only [List.mem_cons, List.not_mem_nil, or_false] at hz; rcases hz with rfl | rfl | rfl <;> omega, hs.mono (by simp)⟩
  have p11 : ∀ t : Sto, oPow t (.int 10) (.int 11) = some (.int 100000000000) := fun _ => rfl
  have f1 : forL always (gN 2) (b_law_f2 (callN F 9)) [.int 2, .int 9, .int 100000000000] _ _ = _ := f1
  simp only [e0, b_law]
  repeat (first | walk_at "ev" | simp only [k1, p11, f1, e_kfnR])
  exact ⟨_, rfl⟩
end W_k09
open PySem PySem.W PySem.Calls PyProof.Rows
theorem PySem.Challenge.cw_tugrings_k09_moves_of_groups_holds : PySem.Challenge.rw_tugrings_k09_moves_of_groups.Holds := by
  w_on; o_law
  refine HandSHeadRun.head_any (r := OpenLaw.row PySem.Challenge.rw_tugrings_k09_moves_of_groups) (q := view (OpenLaw.row PySem.Challenge.rw_tugrings_k09_moves_of_groups).prog [32]) (H := W_k09.hk) (ob := W_k09.ob) (M := 4000) (loose := W_k09.loose) (d := HandSHeadRun.topDef (OpenLaw.row PySem.Challenge.rw_tugrings_k09_moves_of_groups).prog 32) (kwd := []) W_k09.ob_eq
    (by kernel_rfl) (fun s => by kernel_rfl) W_k09.run (by kernel_rfl) (by kernel_rfl) (by kernel_rfl) (by rfl) (by first | assumption | decide +kernel) (by decide +kernel) ⟨rfl, rfl, rfl, rfl, rfl, by decide +kernel⟩ ?hw ?hc
  case hw => w_witness2
  case hc =>
    refine Tg.law_walk (l := PySem.Challenge.rw_tugrings_k09_moves_of_groups) (n := 63) (k := 10) (F := W_k09.F) (glb := W_k09.glb) (blt := W_k09.blt) (ob := W_k09.obT) (ds := W_k09.ds) (dl := W_k09.d_law) (x := "_law_script") rfl (by decide) (by kernel_rfl) ⟨rfl, by decide, by decide⟩ (by simp [W_k09.ds]) rfl rfl (by kernel_rfl) W_k09.ok_all ?T W_k09.main
    intro w mg h Y G
    obtain ⟨K, KX, c, e⟩ := Y
    exact ⟨K, KX, Tg.txt_ok W_k09.bn_all (by kernel_rfl) KX G c e⟩
