import PyProof.Rows.All
import HandS.Words
import HandS.ExcField
import HandS.ForMost
import HandS.Exc
import HandS.HeadHook4
import HandS.HeadWalk
import PySem.Challenge.RW_calmgroups_k30_sides_and_odd_rings
import HandS.Head0
import HandS.Head1
import HandS.Head2
import HandS.HeadEnd
import HandS.Lambda
import HandS.Nested
import KE.LtData
import KE.SortData
import HandS.TupAny
import HandS.Conv
import HandS.CallSlots
import HandS.ExcOwn
import HandS.ExcInit
import HandS.Defaults
import HandS.TryMany
import HandS.Deep
import HandS.TupLe
import HandS.Style
import HandS.Wide
import HandS.IsInst
import HandS.WordsDict
import KE.GoesEnum
import KE.KRevSl
import KE.SortKeyHeap
import HandS.SortKw
import HandS.TupSets
import HandS.SetFor
import HandS.Dict
import HandS.Zip
import KE.DataMinMax
import HandS.Strs
import KE.KxMul
set_option Elab.async false
set_option linter.all false
set_option maxRecDepth 100000
set_option maxHeartbeats 1000000
namespace EV
open PySem L2
def oexB (K : PySem.W.Frag) (C : Addr) : Bool := (match K.lookup C with
  | some ⟨.type "type", _, .cls cd, sl⟩ => (match cd.mro, sl.toList with
    | .ref D :: bm, [_, _, _, _, some (.builtin n), _] => D == C && n == "ValueError.__new__" && !cd.hasDel && cd.hasDict && PySem.HandSPX.refsVE bm
    | _, _ => false)
  | _ => false) && (He.eqO (PySem.W.findIn K (.ref C) "__setattr__") (some (some (.builtin "object.__setattr__"))) && (decide (PySem.W.subIn K (.ref C) (.type "BaseException") = some true) && (decide (PySem.W.typeIn K (.ref C) = some (.type "type")) && PySem.W.keepIn K (.ref C))))
def insB (K : PySem.W.Frag) (C : Addr) : Bool := (PySem.W.plainGet K C Str.empty && (PySem.W.hasDictIn K C && (PySem.W.plainOver K C && He.eqO (PySem.W.findIn K (.ref C) "__setattr__") (some (some (.builtin "object.__setattr__")))))) &&
  (He.eqO (PySem.W.findIn K (.ref C) "__class__") (some (some (.builtin "object.__class__"))) && (He.eqO (PySem.W.specialIn K (.builtin "object.__class__") "__get__") (some (some (.builtin "getset_descriptor.__get__"))) &&
    (decide (PySem.W.takesIn K (.builtin "object.__class__") = some true) && decide (PySem.W.mroIn K C (.type "object") = some true))))
/-- a class of the program: the fields of its instances, the methods; an exception: the arguments' names -/
structure ClsD where
  name : Str
  exc : Bool
  fields : List Str
  meths : List Str
def ClsD.ok (K : PySem.W.Frag) (d : ClsD) : Bool :=
  if d.exc then oexB K (He.ga K d.name) && (xfB K (He.ga K d.name) && (He.eqO (PySem.W.findIn K (.ref (He.ga K d.name)) "__init__") (some (some (.ref (He.ma K (He.ga K d.name) "__init__")))) &&
    (decide (PySem.W.typeIn K (.ref (He.ma K (He.ga K d.name) "__init__")) = some (.type "function")) && d.fields.all fun f => He.eqO (PySem.W.findIn K (.ref (He.ga K d.name)) f) (some none))))
  else insB K (He.ga K d.name) && ((He.Fa.mkr d.name).ok K && (d.fields.all (fun f => He.eqO (PySem.W.findIn K (.ref (He.ga K d.name)) f) (some none)) && d.meths.all fun m => (He.Fa.meth d.name m).ok K))
/-- each pair of exceptions is told apart -/
def exmB (K : PySem.W.Frag) (cs : List ClsD) : Bool := cs.all fun d => !d.exc || cs.all fun e => !e.exc || decide (PySem.W.exmOne K (.ref (He.ga K d.name)) (.ref (He.ga K e.name)) = some (decide (e.name = d.name)))
def tyNs : List String := ["NoneType", "bool", "int", "str", "tuple", "list", "dict"]
/-- isinstance of the program's own instances -/
def kitAll (cs : List ClsD) (K : PySem.W.Frag) : Bool := cs.all fun d => d.exc || (tyNs.all fun n => (n == "NoneType" || decide (PySem.W.kitOne K (.ref (He.ga K d.name)) (.type n) = some false)) && decide (PySem.W.kitOne K (.type n) (.ref (He.ga K d.name)) = some false)) && cs.all fun e => e.exc || decide (PySem.W.kitOne K (.ref (He.ga K d.name)) (.ref (He.ga K e.name)) = some (decide (e.name = d.name)))
def clsEx (cs : List ClsD) (K : PySem.W.Frag) : Bool := (cs.all fun d => d.ok K) && (exmB K cs && kitAll cs K)
/-- no two are the same -/
def apartB : List Addr → Bool
  | [] => true
  | x :: xs => (xs.all fun y => !(Nat.beq x y)) && apartB xs
end EV
set_option maxHeartbeats 0
namespace Lk30
open PySem L2 EV
abbrev pg : PySem.Program := PySem.Challenge.pw_calmgroups_k30_sides_and_odd_rings
def top (i : Nat) : Stmt := pg.main.body.getD i (.Pass ⟨0, 0, 0, 0⟩)
def inC (st : Stmt) (i : Nat) : Stmt := match st with
  | .ClassDef _ _ _ bd _ _ _ _ _ _ _ => bd.getD i (.Pass ⟨0, 0, 0, 0⟩)
  | _ => .Pass ⟨0, 0, 0, 0⟩

abbrev s_0 : Stmt := top 7
def d_0 : He.DefD := ⟨("is_integer", none), "is_integer", "is_integer", defArgs s_0, defBody s_0, defScope s_0, [], []⟩
abbrev s_1 : Stmt := top 8
def d_1 : He.DefD := ⟨("is_within", none), "is_within", "is_within", defArgs s_1, defBody s_1, defScope s_1, [], []⟩
abbrev s_2 : Stmt := top 9
def d_2 : He.DefD := ⟨("is_ascending", none), "is_ascending", "is_ascending", defArgs s_2, defBody s_2, defScope s_2, [], []⟩
abbrev s_3 : Stmt := top 10
def d_3 : He.DefD := ⟨("is_rising", none), "is_rising", "is_rising", defArgs s_3, defBody s_3, defScope s_3, [], []⟩
abbrev s_4 : Stmt := top 13
def d_4 : He.DefD := ⟨("is_group", none), "is_group", "is_group", defArgs s_4, defBody s_4, defScope s_4, [], []⟩
abbrev s_5 : Stmt := top 14
def d_5 : He.DefD := ⟨("are_groups", none), "are_groups", "are_groups", defArgs s_5, defBody s_5, defScope s_5, [], []⟩
abbrev s_6 : Stmt := inC (top 15) 0
def d_6 : He.DefD := ⟨("Collection", some "__init__"), "__init__", "Collection.__init__", defArgs s_6, defBody s_6, defScope s_6, [], []⟩
abbrev s_7 : Stmt := top 17
def d_7 : He.DefD := ⟨("is_pairs", none), "is_pairs", "is_pairs", defArgs s_7, defBody s_7, defScope s_7, [], []⟩
abbrev s_8 : Stmt := top 18
def d_8 : He.DefD := ⟨("require_pairs", none), "require_pairs", "require_pairs", defArgs s_8, defBody s_8, defScope s_8, [], []⟩
abbrev s_9 : Stmt := top 19
def d_9 : He.DefD := ⟨("pair_of", none), "pair_of", "pair_of", defArgs s_9, defBody s_9, defScope s_9, [], []⟩
abbrev s_10 : Stmt := top 20
def d_10 : He.DefD := ⟨("partners", none), "partners", "partners", defArgs s_10, defBody s_10, defScope s_10, [], []⟩
abbrev s_11 : Stmt := top 21
def d_11 : He.DefD := ⟨("found_sides", none), "found_sides", "found_sides", defArgs s_11, defBody s_11, defScope s_11, [], []⟩
abbrev s_12 : Stmt := top 22
def d_12 : He.DefD := ⟨("sides", none), "sides", "sides", defArgs s_12, defBody s_12, defScope s_12, [], []⟩
abbrev s_13 : Stmt := top 23
def d_13 : He.DefD := ⟨("odd_ring", none), "odd_ring", "odd_ring", defArgs s_13, defBody s_13, defScope s_13, [], []⟩
abbrev s_14 : Stmt := top 24
def d_14 : He.DefD := ⟨("odd_ring_holds", none), "odd_ring_holds", "odd_ring_holds", defArgs s_14, defBody s_14, defScope s_14, [], []⟩
abbrev s_15 : Stmt := top 26
def d_15 : He.DefD := ⟨("_law_box", none), "_law_box", "_law_box", defArgs s_15, defBody s_15, defScope s_15, [], []⟩
abbrev s_16 : Stmt := top 27
def d_16 : He.DefD := ⟨("_law_take", none), "_law_take", "_law_take", defArgs s_16, defBody s_16, defScope s_16, [], []⟩
abbrev s_17 : Stmt := top 28
def d_17 : He.DefD := ⟨("_law_pick", none), "_law_pick", "_law_pick", defArgs s_17, defBody s_17, defScope s_17, [], []⟩
abbrev s_18 : Stmt := top 29
def d_18 : He.DefD := ⟨("_law_whole", none), "_law_whole", "_law_whole", defArgs s_18, defBody s_18, defScope s_18, [], []⟩
abbrev s_19 : Stmt := top 30
def d_19 : He.DefD := ⟨("_law_is_numbers", none), "_law_is_numbers", "_law_is_numbers", defArgs s_19, defBody s_19, defScope s_19, [], []⟩
abbrev s_20 : Stmt := top 31
def d_20 : He.DefD := ⟨("_law_is_due", none), "_law_is_due", "_law_is_due", defArgs s_20, defBody s_20, defScope s_20, [], []⟩
abbrev s_21 : Stmt := top 32
def d_21 : He.DefD := ⟨("_law_spoilt", none), "_law_spoilt", "_law_spoilt", defArgs s_21, defBody s_21, defScope s_21, [], []⟩
abbrev s_22 : Stmt := top 33
def d_22 : He.DefD := ⟨("_law_shuffled", none), "_law_shuffled", "_law_shuffled", defArgs s_22, defBody s_22, defScope s_22, [], []⟩
abbrev s_23 : Stmt := top 34
def d_23 : He.DefD := ⟨("_law_all_groups", none), "_law_all_groups", "_law_all_groups", defArgs s_23, defBody s_23, defScope s_23, [], []⟩
abbrev s_24 : Stmt := top 35
def d_24 : He.DefD := ⟨("_law_drawn_tree", none), "_law_drawn_tree", "_law_drawn_tree", defArgs s_24, defBody s_24, defScope s_24, [], []⟩
abbrev s_25 : Stmt := top 36
def d_25 : He.DefD := ⟨("_law_hangs", none), "_law_hangs", "_law_hangs", defArgs s_25, defBody s_25, defScope s_25, [], []⟩
abbrev s_26 : Stmt := top 37
def d_26 : He.DefD := ⟨("_law_is_forest", none), "_law_is_forest", "_law_is_forest", defArgs s_26, defBody s_26, defScope s_26, [], []⟩
abbrev s_27 : Stmt := top 38
def d_27 : He.DefD := ⟨("_law_groups", none), "_law_groups", "_law_groups", defArgs s_27, defBody s_27, defScope s_27, [], []⟩
abbrev s_28 : Stmt := top 39
def d_28 : He.DefD := ⟨("_law_two_sides", none), "_law_two_sides", "_law_two_sides", defArgs s_28, defBody s_28, defScope s_28, [], []⟩
abbrev s_29 : Stmt := top 40
def d_29 : He.DefD := ⟨("_law_is_pairs", none), "_law_is_pairs", "_law_is_pairs", defArgs s_29, defBody s_29, defScope s_29, [], []⟩
abbrev s_30 : Stmt := top 41
def d_30 : He.DefD := ⟨("_law_is_odd_ring", none), "_law_is_odd_ring", "_law_is_odd_ring", defArgs s_30, defBody s_30, defScope s_30, [], []⟩
abbrev s_31 : Stmt := top 42
def d_31 : He.DefD := ⟨("_law_told", none), "_law_told", "_law_told", defArgs s_31, defBody s_31, defScope s_31, [], []⟩
abbrev s_32 : Stmt := top 43
def d_32 : He.DefD := ⟨("law", none), "law", "law", defArgs s_32, defBody s_32, defScope s_32, [], []⟩
abbrev s_33 : Stmt := inC (top 3) 0
def d_33 : He.DefD := ⟨("InvalidNumber", some "__init__"), "__init__", "InvalidNumber.__init__", defArgs s_33, defBody s_33, defScope s_33, [], []⟩
abbrev s_34 : Stmt := inC (top 4) 0
def d_34 : He.DefD := ⟨("InvalidGroups", some "__init__"), "__init__", "InvalidGroups.__init__", defArgs s_34, defBody s_34, defScope s_34, [], []⟩
abbrev s_35 : Stmt := inC (top 5) 0
def d_35 : He.DefD := ⟨("Undefined", some "__init__"), "__init__", "Undefined.__init__", defArgs s_35, defBody s_35, defScope s_35, [], []⟩
def fn : List He.DefD := [d_0, d_1, d_2, d_3, d_4, d_5, d_6, d_7, d_8, d_9, d_10, d_11, d_12, d_13, d_14, d_15, d_16, d_17, d_18, d_19, d_20, d_21, d_22, d_23, d_24, d_25, d_26, d_27, d_28, d_29, d_30, d_31, d_32, d_33, d_34, d_35]
def cd_0 : ClsD := ⟨"InvalidNumber", true, ["value"], []⟩
def cd_1 : ClsD := ⟨"InvalidGroups", true, ["value"], []⟩
def cd_2 : ClsD := ⟨"Undefined", true, ["what"], []⟩
def cd_3 : ClsD := ⟨"Collection", false, ["n", "groups"], []⟩
def cds : List ClsD := [cd_0, cd_1, cd_2, cd_3]


def LT : List (He.Defn × Str) := [(d_23.at_, (d_23.qual ++ ".<locals>.") ++ "<lambda>")]
def tf : List He.Defn := LT.map (·.1)
def TT (K : PySem.W.Frag) : List (Addr × Str) := LT.map fun p => ((He.cT K p.1).2, p.2)
def exK (K : PySem.W.Frag) : Bool := clsEx cds K && apartB ((TT K).map (·.1))
def fa : List He.Fa := [.free "bool", .free "isinstance", .free "int", .glo "is_integer", .free "len", .free "range", .free "all", .glo "is_within", .free "tuple", .glo "is_ascending", .glo "is_rising", .int "MOST_GROUPS" 24, .free "list", .free "set", .glo "is_group", .glo "InvalidNumber", .glo "are_groups", .glo "InvalidGroups", .glo "is_pairs", .glo "Undefined", .free "max", .free "min", .glo "pair_of", .glo "partners", .glo "require_pairs", .glo "found_sides", .glo "odd_ring_holds", .free "abs", .glo "_law_take", .glo "_law_whole", .glo "_law_spoilt", .free "str", .glo "_law_pick", .free "sorted", .glo "_law_shuffled", .glo "_law_all_groups", .glo "_law_drawn_tree", .glo "_law_hangs", .glo "_law_is_forest", .glo "_law_is_numbers", .glo "_law_is_pairs", .glo "sides", .glo "odd_ring", .glo "_law_box", .glo "_law_groups", .glo "Collection", .glo "_law_is_due", .glo "_law_told", .glo "_law_two_sides", .glo "_law_is_odd_ring", .glo "law"]
end Lk30
set_option maxHeartbeats 0
namespace Lk30
open PySem L2 EV
def nm0 : List Str := ["_wall", "GroupError", "InvalidNumber", "InvalidGroups", "Undefined", "is_integer", "is_within", "is_ascending", "is_rising", "MOST_GROUPS", "is_group", "are_groups", "Collection", "is_pairs", "require_pairs", "pair_of", "partners", "found_sides", "sides", "odd_ring", "odd_ring_holds", "_law_box", "_law_take", "_law_pick", "_law_whole", "_law_is_numbers", "_law_is_due", "_law_spoilt", "_law_shuffled", "_law_all_groups"]
def nm1 : List Str := ["_law_drawn_tree", "_law_hangs", "_law_is_forest", "_law_groups", "_law_two_sides", "_law_is_pairs", "_law_is_odd_ring", "_law_told"]
def names : List Str := nm0 ++ nm1
abbrev RR : PySem.W.OpenRow := PySem.W.OpenLaw.row PySem.Challenge.rw_calmgroups_k30_sides_and_odd_rings
abbrev hk : PySem.W.Hook := He.hookX 5 fa fn [] tf exK
def ob (s : PySem.W.SharedT) : He.AlX := He.obsX 5 fa fn [] tf exK (HandSHeadRun.getT s)
theorem ob_eq (s : PySem.W.SharedT) : ob s = hk.obs s.abs := He.obsX_eq (HandSHeadRun.getT_eq s)
theorem runs (w : World) : HandSHeadRun.RunEq RR (PySem.W.view RR.prog [43]) hk ob 20000 names w := by
  intro os
  kernel_rfl
end Lk30
namespace EV
open PySem L2

/-- a value without an address: what never changes any more -/
inductive D where
  | non | bl (b : Bool) | int (i : Int) | str (x : Str)
  | tup (xs : List D) | lst (xs : List D)
  | dK (ks : List Key) (ds : List D) | dT (ks : List (List Key)) (ds : List D)
  | ins (c : Nat) (fs : List Str) (ds : List D)
  | exc (c : Nat) (fs : List Str) (ds : List D)
  | fn (n : Nat)
  | pr (x y : D)
  deriving Inhabited
/-- what a slot holds: such a value, or the number of a cell that may change -/
inductive W where
  | d (x : D) | c (k : Nat)
  deriving Inhabited
/-- what stands in a cell; m: whether it may still change -/
inductive Cell where
  | lst (m : Bool) (xs : List D)
  | dK (m : Bool) (kvs : List (Key × D)) | dT (m : Bool) (kvs : List (List Key × D))
  | obj (c : Nat) (fs : List (Str × W))
  deriving Inhabited
abbrev Store := List Cell
abbrev Env' := List (Option W)
/-- an end: a value and the cells, an exception and the cells, or nothing that is known -/
inductive R (α : Type) where
  | ok (a : α) (S : Store) | exn (c : Nat) (fs : List Str) (ds : List D) (ρ : Env') (S : Store) | bad
def R.bind {α β : Type} (r : R α) (k : α → Store → R β) : R β := match r with
  | .ok a S => k a S
  | .exn c fs ds ρ S => .exn c fs ds ρ S
  | .bad => .bad
/-- a statement's end -/
inductive F where
  | nx (ρ : Env') | rt (w : W) | bk (ρ : Env') | ct (ρ : Env')
abbrev Sm := Env' → Store → R W
abbrev SmL := Env' → Store → R (List W)
abbrev SmT := Env' → Store → R Bool
abbrev SmS := Env' → Store → R F
abbrev SmI := Env' → Store → R (List D)
theorem R.bind_ok {α β : Type} (a : α) (S : Store) (k : α → Store → R β) : (R.ok a S).bind k = k a S := rfl
theorem R.bind_assoc {α β γ : Type} (r : R α) (k : α → Store → R β) (l : β → Store → R γ) : (r.bind k).bind l = r.bind fun a S => (k a S).bind l := by
  cases r <;> rfl

/-- the value that stands there now, for a look that keeps nothing of it -/
def view (S : Store) : W → Option D
  | .d x => some x
  | .c k => match S[k]? with
    | some (.lst _ xs) => some (.lst xs)
    | some (.dK _ kvs) => some (.dK (kvs.map (·.1)) (kvs.map (·.2)))
    | some (.dT _ kvs) => some (.dT (kvs.map (·.1)) (kvs.map (·.2)))
    | _ => none
/-- the value, which is to change no more -/
def frz (S : Store) : W → Option (D × Store)
  | .d x => some (x, S)
  | .c k => match S[k]? with
    | some (.lst _ xs) => some (.lst xs, S.set k (.lst false xs))
    | some (.dK _ kvs) => some (.dK (kvs.map (·.1)) (kvs.map (·.2)), S.set k (.dK false kvs))
    | some (.dT _ kvs) => some (.dT (kvs.map (·.1)) (kvs.map (·.2)), S.set k (.dT false kvs))
    | _ => none
def frzL : Store → List W → Option (List D × Store)
  | S, [] => some ([], S)
  | S, w :: ws => match frz S w with
    | none => none
    | some (x, S1) => match frzL S1 ws with
      | none => none
      | some (xs, S2) => some (x :: xs, S2)

def cCst (d : D) : Sm := fun _ S => .ok (.d d) S
def cVar (i : Nat) : Sm := fun ρ S => match ρ[i]? with
  | some (some w) => .ok w S
  | _ => .bad
def cNil : SmL := fun _ S => .ok [] S
def cCons (f : Sm) (g : SmL) : SmL := fun ρ S => (f ρ S).bind fun w S1 => (g ρ S1).bind fun ws S2 => .ok (w :: ws) S2
def cTup (g : SmL) : Sm := fun ρ S => (g ρ S).bind fun ws S1 => match frzL S1 ws with
  | some (xs, S2) => if xs.length ≤ 16777216 then .ok (.d (.tup xs)) S2 else .bad
  | none => .bad
def cLst (m : Bool) (g : SmL) : Sm := fun ρ S => (g ρ S).bind fun ws S1 => match frzL S1 ws with
  | some (xs, S2) => if xs.length ≤ 16777216 then (if m then .ok (.c S2.length) (S2 ++ [.lst true xs]) else .ok (.d (.lst xs)) S2) else .bad
  | none => .bad
/-- an operation on values that makes a value: its operands are looked at -/
def cOp2 (o : D → D → Option D) (f g : Sm) : Sm := fun ρ S => (f ρ S).bind fun v S1 => (g ρ S1).bind fun w S2 => match view S2 v, view S2 w with
  | some x, some y => (match o x y with
    | some z => .ok (.d z) S2
    | none => .bad)
  | _, _ => .bad
end EV
namespace EV
open PySem L2

structure Ext (Fz : Addr → Prop) (H : Hp) (Fz' : Addr → Prop) (H' : Hp) : Prop where
  fz : ∀ a, Fz a → Fz' a
  at_ : ∀ a o, Fz a → H a = some o → H' a = some o
theorem Ext.refl {Fz : Addr → Prop} {H : Hp} : Ext Fz H Fz H := ⟨fun _ h => h, fun _ _ _ h => h⟩
theorem Ext.trans {Fz Fz1 Fz2 : Addr → Prop} {H H1 H2 : Hp} (a : Ext Fz H Fz1 H1) (b : Ext Fz1 H1 Fz2 H2) : Ext Fz H Fz2 H2 :=
  ⟨fun x h => b.fz x (a.fz x h), fun x o f h => b.at_ x o (a.fz x f) (a.at_ x o f h)⟩
/-- one state behind another: what was known stays -/
structure Step (Fz : Addr → Prop) (α : Nat → Addr) (S : Store) (H : Hp) (Fz' : Addr → Prop) (α' : Nat → Addr) (S' : Store) (H' : Hp) : Prop where
  ext : Ext Fz H Fz' H'
  at_ : ∀ k, k < S.length → α' k = α k
  len : S.length ≤ S'.length
  frame : ∀ a o, H a = some o → (∀ ps, o ≠ .tbl ps) → ¬ Fz a → (∀ k, k < S.length → α k ≠ a) → H' a = some o ∧ ¬ Fz' a ∧ ∀ k, k < S'.length → α' k ≠ a
theorem Step.refl {Fz : Addr → Prop} {α : Nat → Addr} {S : Store} {H : Hp} : Step Fz α S H Fz α S H := ⟨Ext.refl, fun _ _ => rfl, Nat.le_refl _, fun _ _ e _ f k => ⟨e, f, k⟩⟩
theorem Step.trans {Fz Fz1 Fz2 : Addr → Prop} {α α1 α2 : Nat → Addr} {S S1 S2 : Store} {H H1 H2 : Hp} (a : Step Fz α S H Fz1 α1 S1 H1) (b : Step Fz1 α1 S1 H1 Fz2 α2 S2 H2) : Step Fz α S H Fz2 α2 S2 H2 :=
  ⟨a.ext.trans b.ext, fun k h => (b.at_ k (Nat.lt_of_lt_of_le h a.len)).trans (a.at_ k h), Nat.le_trans a.len b.len, fun x o e n f k =>
    let ⟨e1, f1, k1⟩ := a.frame x o e n f k
    b.frame x o e1 n f1 k1⟩
/-- the program's static part: what stands where; pc, ps: what else is known of the state, of the slots -/
structure SP where
  K : PySem.W.Frag
  cls : Nat → Addr
  fad : Nat → Addr
  T : List (Addr × (Nat → Nat → Str))
  pc : (Addr → Prop) → (Nat → Addr) → Store → Hp → Prop
  pcS : ∀ {Fz α S H Fz' α' S' H'}, Step Fz α S H Fz' α' S' H' → pc Fz α S H → pc Fz' α' S' H'
  ps : L2.St → Prop

def KTup (K : PySem.W.Frag) (a : Addr) (vs : List V) : Prop :=
  ∃ (o : Obj) (its : Array Value) (n : Nat), K.lookup a = some o ∧ o.cls = .type "tuple" ∧ o.dict = none ∧ o.data = .seq its n ∧ its.size ≤ sizeLine ∧ Vals vs its.toList
theorem KTup.sq {K : PySem.W.Frag} {H : Hp} {a : Addr} {vs : List V} (h : KTup K a vs) : SqT K H a vs := by
  obtain ⟨o, its, n, h1, h2, _, h3⟩ := h
  exact .inr ⟨o, its, n, h1, h2, h3⟩
/-- a tuple that the program made: its object has no dict -/
def PlT (o : Obj) : Prop := o.cls = .type "tuple" ∧ o.dict = none
def TupF (H : Hp) (a : Addr) (vs : List V) : Prop := ∃ o, H a = some (.frz o (.tup vs)) ∧ PlT o
theorem TupF.rd {H : Hp} {a : Addr} {vs : List V} (h : TupF H a vs) : Rd H a (.tup vs) := by
  obtain ⟨o, h, _⟩ := h
  exact .inr ⟨o, h⟩
/-- a new tuple -/
def NewT (H : Hp) (Q : VK) (xs : List V) : Prop := ∀ p o, H p = none → PlT o → Q (.ref p) (upd H p (.frz o (.tup xs)))
def KLst (K : PySem.W.Frag) (a : Addr) (vs : List V) : Prop :=
  ∃ (o : Obj) (its : Array Value) (n : Nat), K.lookup a = some o ∧ o.cls = .type "list" ∧ o.dict = none ∧ o.data = .seq its n ∧ its.size ≤ sizeLine ∧ Vals vs its.toList
variable (G : SP)
mutual
/-- v stands for the value d, in what is frozen -/
def Rep (Fz : Addr → Prop) (H : Hp) : D → V → Prop
  | .non, v => v = .non
  | .bl b, v => v = .bl b
  | .int i, v => v = .int i
  | .str x, v => v = .str x
  | .tup ds, v => ∃ a vs, v = .ref a ∧ ((Fz a ∧ TupF H a vs) ∨ KTup G.K a vs) ∧ vs.length ≤ 16777216 ∧ Reps Fz H ds vs
  | .lst ds, v => ∃ a vs, v = .ref a ∧ ((Fz a ∧ Rd H a (.lst vs)) ∨ KLst G.K a vs) ∧ vs.length ≤ 16777216 ∧ Reps Fz H ds vs
  | .dK ks ds, v => ∃ a kvs, v = .ref a ∧ Fz a ∧ H a = some (.dK kvs) ∧ ks = kvs.map (·.1) ∧ Reps Fz H ds (kvs.map (·.2))
  | .dT ks ds, v => ∃ a kvs, v = .ref a ∧ Fz a ∧ H a = some (.dT kvs) ∧ ks = kvs.map (·.1) ∧ Reps Fz H ds (kvs.map (·.2))
  | .ins c fs ds, v => ∃ a dx kvs, v = .ref a ∧ Fz a ∧ H a = some (.ins (G.cls c) dx kvs) ∧ fs = kvs.map (·.1) ∧ Reps Fz H ds (kvs.map (·.2))
  | .exc _ _ _, _ => False
  | .fn n, v => v = .ref (G.fad n)
  | .pr x y, v => ∃ a vx vy, v = .ref a ∧ Fz a ∧ Rd H a (.tup [vx, vy]) ∧ Rep Fz H x vx ∧ Rep Fz H y vy
def Reps (Fz : Addr → Prop) (H : Hp) : List D → List V → Prop
  | [], vs => vs = []
  | d :: ds, vs => ∃ v r, vs = v :: r ∧ Rep Fz H d v ∧ Reps Fz H ds r
end
variable {G}
theorem Ext.rd {Fz Fz' : Addr → Prop} {H H' : Hp} (e : Ext Fz H Fz' H') {a : Addr} {u : HO} (f : Fz a) (h : Rd H a u) : Rd H' a u := by
  rcases h with h | ⟨o, h⟩
  · exact .inl (e.at_ _ _ f h)
  · exact .inr ⟨o, e.at_ _ _ f h⟩
theorem Ext.tf {Fz Fz' : Addr → Prop} {H H' : Hp} (e : Ext Fz H Fz' H') {a : Addr} {vs : List V} (f : Fz a) (h : TupF H a vs) : TupF H' a vs := by
  obtain ⟨o, h, p⟩ := h
  exact ⟨o, e.at_ _ _ f h, p⟩
mutual
theorem Rep.mono {Fz Fz' : Addr → Prop} {H H' : Hp} (e : Ext Fz H Fz' H') : ∀ {d : D} {v : V}, Rep G Fz H d v → Rep G Fz' H' d v
  | .non, _, h => h
  | .bl _, _, h => h
  | .int _, _, h => h
  | .str _, _, h => h
  | .tup ds, _, ⟨a, vs, q, h, l, r⟩ => ⟨a, vs, q, h.elim (fun z => .inl ⟨e.fz _ z.1, e.tf z.1 z.2⟩) .inr, l, Reps.mono e r⟩
  | .lst ds, _, ⟨a, vs, q, h, l, r⟩ => ⟨a, vs, q, h.elim (fun z => .inl ⟨e.fz _ z.1, e.rd z.1 z.2⟩) .inr, l, Reps.mono e r⟩
  | .dK _ _, _, ⟨a, kvs, q, f, h, k, r⟩ => ⟨a, kvs, q, e.fz _ f, e.at_ _ _ f h, k, Reps.mono e r⟩
  | .dT _ _, _, ⟨a, kvs, q, f, h, k, r⟩ => ⟨a, kvs, q, e.fz _ f, e.at_ _ _ f h, k, Reps.mono e r⟩
  | .ins _ _ _, _, ⟨a, dx, kvs, q, f, h, k, r⟩ => ⟨a, dx, kvs, q, e.fz _ f, e.at_ _ _ f h, k, Reps.mono e r⟩
  | .exc _ _ _, _, h => h
  | .fn _, _, h => h
  | .pr _ _, _, ⟨a, vx, vy, q, f, h, r, r'⟩ => ⟨a, vx, vy, q, e.fz _ f, e.rd f h, Rep.mono e r, Rep.mono e r'⟩
theorem Reps.mono {Fz Fz' : Addr → Prop} {H H' : Hp} (e : Ext Fz H Fz' H') : ∀ {ds : List D} {vs : List V}, Reps G Fz H ds vs → Reps G Fz' H' ds vs
  | [], _, h => h
  | d :: ds, _, ⟨v, r, q, h, t⟩ => ⟨v, r, q, Rep.mono e h, Reps.mono e t⟩
end
theorem Reps.length {Fz : Addr → Prop} {H : Hp} : ∀ {ds : List D} {vs : List V}, Reps G Fz H ds vs → ds.length = vs.length
  | [], _, h => by
    have h : _ = [] := h
    rw [h]
    rfl
  | d :: ds, _, ⟨v, r, q, _, t⟩ => by rw [q, List.length_cons, List.length_cons, Reps.length t]
theorem Reps.append {Fz : Addr → Prop} {H : Hp} : ∀ {ds es : List D} {vs us : List V}, Reps G Fz H ds vs → Reps G Fz H es us → Reps G Fz H (ds ++ es) (vs ++ us)
  | [], _, _, _, h, t => by
    have h : _ = [] := h
    rw [h]
    exact t
  | d :: ds, _, _, _, ⟨v, r, q, h, t⟩, t' => ⟨v, r ++ _, by rw [q]; rfl, h, Reps.append t t'⟩
theorem Reps.nil {Fz : Addr → Prop} {H : Hp} : Reps G Fz H [] [] := rfl
theorem Reps.cons {Fz : Addr → Prop} {H : Hp} {d : D} {ds : List D} {v : V} {vs : List V} (h : Rep G Fz H d v) (t : Reps G Fz H ds vs) : Reps G Fz H (d :: ds) (v :: vs) := ⟨v, vs, rfl, h, t⟩
theorem Reps.get {Fz : Addr → Prop} {H : Hp} : ∀ {ds : List D} {vs : List V} {i : Nat} {d : D}, Reps G Fz H ds vs → ds[i]? = some d → ∃ v, vs[i]? = some v ∧ Rep G Fz H d v
  | [], _, _, _, _, e => by simp at e
  | d :: ds, _, 0, x, ⟨v, r, q, h, t⟩, e => by
    simp at e
    subst e
    exact ⟨v, by rw [q]; rfl, h⟩
  | d :: ds, _, i + 1, x, ⟨v, r, q, h, t⟩, e => by
    obtain ⟨u, h1, h2⟩ := Reps.get (i := i) t (by simpa using e)
    exact ⟨u, by rw [q]; simpa using h1, h2⟩
theorem Reps.get' {Fz : Addr → Prop} {H : Hp} : ∀ {ds : List D} {vs : List V} {i : Nat} {v : V}, Reps G Fz H ds vs → vs[i]? = some v → ∃ d, ds[i]? = some d ∧ Rep G Fz H d v
  | [], _, _, _, h, e => by
    have h : _ = [] := h
    rw [h] at e
    simp at e
  | d :: ds, _, 0, x, ⟨v, r, q, h, t⟩, e => by
    rw [q] at e
    simp at e
    subst e
    exact ⟨d, rfl, h⟩
  | d :: ds, _, i + 1, x, ⟨v, r, q, h, t⟩, e => by
    rw [q] at e
    obtain ⟨u, h1, h2⟩ := Reps.get' (i := i) t (by simpa using e)
    exact ⟨u, by simpa using h1, h2⟩
theorem Reps.take {Fz : Addr → Prop} {H : Hp} : ∀ (n : Nat) {ds : List D} {vs : List V}, Reps G Fz H ds vs → Reps G Fz H (ds.take n) (vs.take n)
  | 0, _, _, _ => rfl
  | n + 1, [], _, h => by
    have h : _ = [] := h
    rw [h]
    exact rfl
  | n + 1, d :: ds, _, ⟨v, r, q, h, t⟩ => ⟨v, r.take n, by rw [q]; rfl, h, Reps.take n t⟩
theorem Reps.drop {Fz : Addr → Prop} {H : Hp} : ∀ (n : Nat) {ds : List D} {vs : List V}, Reps G Fz H ds vs → Reps G Fz H (ds.drop n) (vs.drop n)
  | 0, _, _, h => h
  | n + 1, [], _, h => by
    have h : _ = [] := h
    rw [h]
    exact rfl
  | n + 1, d :: ds, _, ⟨v, r, q, h, t⟩ => by
    rw [q]
    exact Reps.drop n t
theorem Reps.set {Fz : Addr → Prop} {H : Hp} {d : D} {v : V} (r : Rep G Fz H d v) : ∀ (i : Nat) {ds : List D} {vs : List V}, Reps G Fz H ds vs → Reps G Fz H (ds.set i d) (vs.set i v)
  | _, [], _, h => by
    have h : _ = [] := h
    rw [h]
    exact rfl
  | 0, _ :: _, _, ⟨u, r', q, h, t⟩ => ⟨v, r', by rw [q]; rfl, r, t⟩
  | i + 1, _ :: _, _, ⟨u, r', q, h, t⟩ => ⟨u, r'.set i v, by rw [q]; rfl, h, Reps.set r i t⟩
theorem Reps.reverse {Fz : Addr → Prop} {H : Hp} : ∀ {ds : List D} {vs : List V}, Reps G Fz H ds vs → Reps G Fz H ds.reverse vs.reverse
  | [], _, h => by
    have h : _ = [] := h
    rw [h]
    exact rfl
  | d :: ds, _, ⟨v, r, q, h, t⟩ => by
    rw [q, List.reverse_cons, List.reverse_cons]
    exact Reps.append (Reps.reverse t) (Reps.cons h rfl)

def RepW (G : SP) (Fz : Addr → Prop) (α : Nat → Addr) (n : Nat) (H : Hp) : W → V → Prop
  | .d x, v => Rep G Fz H x v
  | .c k, v => k < n ∧ v = .ref (α k)
def RepWs (G : SP) (Fz : Addr → Prop) (α : Nat → Addr) (n : Nat) (H : Hp) (ws : List W) (vs : List V) : Prop := Paired (fun w v => RepW G Fz α n H w v) ws vs
def CellOk (G : SP) (Fz : Addr → Prop) (α : Nat → Addr) (n : Nat) (H : Hp) (a : Addr) : Cell → Prop
  | .lst m xs => ∃ vs, H a = some (.lst vs) ∧ vs.length ≤ 16777216 ∧ Reps G Fz H xs vs ∧ (m = true → ¬ Fz a) ∧ (m = false → Fz a)
  | .dK m kvs => ∃ us, H a = some (.dK us) ∧ kvs.map (·.1) = us.map (·.1) ∧ Reps G Fz H (kvs.map (·.2)) (us.map (·.2)) ∧ (m = true → ¬ Fz a) ∧ (m = false → Fz a)
  | .dT m kvs => ∃ us, H a = some (.dT us) ∧ kvs.map (·.1) = us.map (·.1) ∧ Reps G Fz H (kvs.map (·.2)) (us.map (·.2)) ∧ (m = true → ¬ Fz a) ∧ (m = false → Fz a)
  | .obj c fs => ∃ dx us, H a = some (.ins (G.cls c) dx us) ∧ us.length ≤ 900 ∧ fs.map (·.1) = us.map (·.1) ∧ RepWs G Fz α n H (fs.map (·.2)) (us.map (·.2)) ∧ ¬ Fz a
/-- what may be frozen -/
def Froz : HO → Prop
  | .tbl _ => False
  | .xd _ => False
  | _ => True
/-- the state without slots: what is frozen, where the cells stand, the cells, the abstract heap -/
structure Sim (G : SP) (Fz : Addr → Prop) (α : Nat → Addr) (S : Store) (H : Hp) : Prop where
  fzH : ∀ a, Fz a → ∃ o, H a = some o ∧ Froz o
  cell : ∀ k c, S[k]? = some c → CellOk G Fz α S.length H (α k) c
  inj : ∀ j k, j < S.length → k < S.length → α j = α k → j = k
  tab : NdefX.TabsN G.T H
  pc : G.pc Fz α S H
theorem RepW.mono {Fz Fz' : Addr → Prop} {α α' : Nat → Addr} {S S' : Store} {H H' : Hp} (s : Step Fz α S H Fz' α' S' H') : ∀ {w : W} {v : V}, RepW G Fz α S.length H w v → RepW G Fz' α' S'.length H' w v
  | .d x, _, h => Rep.mono s.ext h
  | .c k, _, ⟨h, e⟩ => ⟨Nat.lt_of_lt_of_le h s.len, by rw [e, s.at_ k h]⟩
theorem RepWs.mono {Fz Fz' : Addr → Prop} {α α' : Nat → Addr} {S S' : Store} {H H' : Hp} (s : Step Fz α S H Fz' α' S' H') {ws : List W} {vs : List V} (h : RepWs G Fz α S.length H ws vs) : RepWs G Fz' α' S'.length H' ws vs :=
  Paired.mapP h fun _ _ z => RepW.mono s z
def Slots (G : SP) (Fz : Addr → Prop) (α : Nat → Addr) (n : Nat) (H : Hp) (σ : L2.St) (ρ : Env') : Prop :=
  (σ.length = ρ.length ∧ G.ps σ) ∧ ∀ (i : Nat) (w : W), ρ[i]? = some (some w) → ∃ v, σ[i]? = some (some v) ∧ RepW G Fz α n H w v
theorem Slots.mono {Fz Fz' : Addr → Prop} {α α' : Nat → Addr} {S S' : Store} {H H' : Hp} (s : Step Fz α S H Fz' α' S' H') {σ : L2.St} {ρ : Env'} (h : Slots G Fz α S.length H σ ρ) : Slots G Fz' α' S'.length H' σ ρ := ⟨h.1, fun i w e => by
  obtain ⟨v, h1, h2⟩ := h.2 i w e
  exact ⟨v, h1, RepW.mono s h2⟩⟩

/-- an exception as it lies behind a raise -/
structure ExcRep (G : SP) (Fz : Addr → Prop) (H : Hp) (cls : Value) (d : Option Addr) (c : Nat) (fs : List Str) (ds : List D) : Prop where
  cls : cls = .ref (G.cls c)
  at_ : ∃ (dd : Addr) (us : List (Str × V)), d = some dd ∧ H dd = some (.xd us) ∧ (∀ (i : Nat) (f : Str), fs[i]? = some f → ∃ (v : V) (x : D), us.lookup f = some v ∧ ds[i]? = some x ∧ Rep G Fz H x v)

/-- what is wished of a value, of an exception -/
abbrev QT (α' : Type) := (Addr → Prop) → (Nat → Addr) → Store → Hp → α' → Prop
abbrev ET := (Addr → Prop) → (Nat → Addr) → Store → Hp → Env' → Value → Option Addr → Prop
/-- what an end asks of what stands behind it -/
def Post {α' : Type} (G : SP) (Fz : Addr → Prop) (α : Nat → Addr) (S : Store) (H : Hp) (r : R α') (Q : QT α') (E : ET) : Prop := match r with
  | .ok w S' => ∀ Fz' β H', Step Fz α S H Fz' β S' H' → Sim G Fz' β S' H' → Q Fz' β S' H' w
  | .exn c fs ds ρ S' => ∀ Fz' β H' cls d, Step Fz α S H Fz' β S' H' → Sim G Fz' β S' H' → ExcRep G Fz' H' cls d c fs ds → E Fz' β S' H' ρ cls d
  | .bad => False
theorem Post.mono {α' : Type} {Fz : Addr → Prop} {α : Nat → Addr} {S : Store} {H : Hp} {r : R α'} {Q Q' : QT α'} {E : ET} (h : Post G Fz α S H r Q E)
    (k : ∀ Fz' β S' H' w, Step Fz α S H Fz' β S' H' → Sim G Fz' β S' H' → Q Fz' β S' H' w → Q' Fz' β S' H' w) : Post G Fz α S H r Q' E := by
  cases r with
  | ok w S' => exact fun Fz' β H' s m => k _ _ _ _ _ s m (h Fz' β H' s m)
  | exn c fs ds ρ S' => exact h
  | bad => exact h
/-- from an earlier state -/
theorem Post.after {α' : Type} {Fz Fz1 : Addr → Prop} {α α1 : Nat → Addr} {S S1 : Store} {H H1 : Hp} {r : R α'} {Q : QT α'} {E : ET} (s : Step Fz α S H Fz1 α1 S1 H1) (h : Post G Fz α S H r Q E) :
    Post G Fz1 α1 S1 H1 r Q E := by
  cases r with
  | ok w S' => exact fun Fz' β H' s' m => h Fz' β H' (s.trans s') m
  | exn c fs ds ρ S' => exact fun Fz' β H' cls d s' m e => h Fz' β H' cls d (s.trans s') m e
  | bad => exact h
theorem Post.bind {α' β' : Type} {Fz : Addr → Prop} {α : Nat → Addr} {S : Store} {H : Hp} {r : R α'} {k : α' → Store → R β'} {Q : QT β'} {E : ET} (h : Post G Fz α S H (r.bind k) Q E) :
    Post G Fz α S H r (fun Fz1 α1 S1 H1 w => Post G Fz1 α1 S1 H1 (k w S1) Q E) E := by
  cases r with
  | ok w S' => exact fun Fz' β H' s m => h.after s
  | exn c fs ds ρ S' => exact h
  | bad => exact h
theorem Post.now {α' : Type} {Fz : Addr → Prop} {α : Nat → Addr} {S : Store} {H : Hp} {w : α'} {Q : QT α'} {E : ET} (h : Post G Fz α S H (.ok w S) Q E) (m : Sim G Fz α S H) : Q Fz α S H w :=
  h Fz α H Step.refl m
end EV
namespace EV
open PySem L2 PySem.Spec PyProof.Rows
section
variable {X : Cx} {pins : List (Addr × Obj)} {σ : L2.St} {H : Hp} {s : Shared} {Q : VK}
theorem newT_ok {h' : Heap} {xs : List V} {its : List Value} {p : Addr} {n tk : Nat} {sl : Array (Option Value)} (I : Inv X pins σ H s) (hz : xs.length ≤ sizeLine) (hv : Vals xs its) (hk : ∀ b o, s.heap.get? b = some o → h'.get? b = some o) (hp : s.heap.objs.size ≤ p)
    (e : h'.get? p = some { cls := .type "tuple", dict := none, data := .seq its.toArray n, slots := sl }) (q : NewT H Q xs) : EP X pins σ Q (.ref p) { s with heap := h', toks := tk } :=
  ⟨.ref p, _, I.laid (t' := tk) (o := .frz _ (.tup xs)) hk hp ⟨e, hz, its, hv, ⟨_, e, rfl, n, rfl⟩⟩, rfl, q p _ (I.hok.fresh hp) ⟨rfl, rfl⟩⟩
def tTupF (t : TA) : TE := fun σ H Q => t σ H fun xs H1 => xs.length ≤ sizeLine ∧ NewT H1 Q xs
theorem pe_tupF {es : List Expr} {t : TA} {pos : Pos} {x1} (h : PA X es t) : PE X (.Tuple es x1 pos) (tTupF t) :=
  ⟨fun pins s σ H Q I hq => wpAny_Tuple_spliced (thn (h.run pos pins s σ H _ I hq) fun us s1 ⟨xs, H1, I1, r, z, q⟩ => ⟨by rw [← r.length]; exact z,
    newT_ok (tk := s1.toks) I1 z r (fun b u e => Heap.get?_push_of_some _ e) (Nat.le_refl _) (Heap.get?_push_size _ rfl) q⟩)⟩
def rTupF (K : PySem.W.Frag) : List V → Hp → VK → Prop := fun xs H Q => ∃ p ys, xs = [.ref p] ∧ ((SqL K H p ys ∧ NewT H Q ys) ∨ (SqT K H p ys ∧ Q (.ref p) H))
theorem call_tupF : CallR X (.type "tuple") (rTupF X.K) := fun pins s σ H xs us Q I r ⟨p, ys, e, h⟩ => by
  subst e
  obtain ⟨u, eu, ru⟩ := vals1 r
  subst eu
  obtain rfl : u = Value.ref p := ru
  rcases h with ⟨hq, q⟩ | ⟨hq, q⟩
  · have ⟨its, r', pl, hz⟩ := I.list hq
    have hlen := r'.length
    exact call_tuple_list pl.isList (fun h' kp => newT_ok (s := { s with heap := h' }) (tk := s.toks) (I.kept (t' := s.toks) kp) hz r' (fun b o e => Heap.get?_push_of_some _ e) (Nat.le_refl _) (Heap.get?_push_size _ rfl) q) (by rw [List.size_toArray]; omega)
  · have ⟨its, r', pl, hz⟩ := I.tuple hq
    exact call_tuple_same pl ⟨.ref p, H, I, rfl, q⟩
def rCatF (K : PySem.W.Frag) : R2 := fun x y H Q => ∃ a b xs ys, x = .ref a ∧ y = .ref b ∧ SqT K H a xs ∧ SqT K H b ys ∧ xs.length + ys.length ≤ sizeLine ∧ (xs = [] → Q (.ref b) H) ∧ (xs ≠ [] → ys = [] → Q (.ref a) H) ∧ (xs ≠ [] → ys ≠ [] → NewT H Q (xs ++ ys))
theorem op_catF : OpR X (binaryOp .Add) (rCatF X.K) := fun pins s σ H x y v u Q I rx ry ⟨a, b, xs, ys, e1, e2, ha, hb, hz, q0, q1, q2⟩ => by
  subst e1 e2
  obtain rfl : v = Value.ref a := rx
  obtain rfl : u = Value.ref b := ry
  have ⟨its, r1, p1, _⟩ := I.tuple ha
  have ⟨its2, r2, p2, _⟩ := I.tuple hb
  by_cases hx : xs = []
  · subst hx
    cases r1
    exact cat_tup0 p1 p2 ⟨.ref b, H, I, rfl, q0 rfl⟩
  · exact HT.cat_tup p1 p2 (fun z => hx (r1.nil_iff.mp z)) (fun z => ⟨.ref a, H, I, rfl, q1 hx (r2.nil_iff.mp z)⟩)
      (fun z => newT_ok (tk := s.toks) I (by rw [List.length_append]; exact hz) (r1.append r2) (fun b o e => Heap.get?_push_of_some _ e) (Nat.le_refl _) (Heap.get?_push_size _ rfl) (q2 hx fun w => z (r2.nil_iff.mpr w))) (by rw [← r1.length, ← r2.length]; exact hz)
def rSlF (K : PySem.W.Frag) : V → Option Int → Option Int → Hp → VK → Prop := fun x lo hi H Q => ∃ a xs, x = .ref a ∧ SqT K H a xs ∧ (HT.sIx xs.length 0 lo = 0 ∧ HT.sIx xs.length xs.length hi = xs.length → Q (.ref a) H) ∧
  (¬ (HT.sIx xs.length 0 lo = 0 ∧ HT.sIx xs.length xs.length hi = xs.length) → NewT H Q (cutV xs lo hi))
theorem sl_tupF : SlR X (rSlF X.K) := fun pins s σ H x v vl vu lo hi sl Q I rx hs pl pu ⟨a, xs, e, hx, q1, q2⟩ => by
  subst e
  obtain rfl : v = Value.ref a := rx
  have ⟨its, r, ht, hz⟩ := I.tuple hx
  have hlen : its.toArray.size = xs.length := by rw [List.size_toArray, r.length]
  refine ⟨"tuple", _, PyProof.Rows.slot_tuple_getitem.lookup, ht.typeIs, ?_⟩
  by_cases hw : HT.sIx xs.length 0 lo = 0 ∧ HT.sIx xs.length xs.length hi = xs.length
  · exact getItem_tuple_whole ht hs pl pu (by rw [hlen]; exact hw) ⟨.ref a, H, I, rfl, q1 hw⟩
  · refine HT.getItem_tuple_cut ht hs pl pu (by rw [hlen]; exact hw) ?_ (by rw [hlen]; exact hz)
    rw [hlen]
    exact newT_ok (tk := s.toks) I (Nat.le_trans (cutV_length xs lo hi) hz) ((r.drop _).take _) (fun b o e => Heap.get?_push_of_some _ e) (Nat.le_refl _) (Heap.get?_push_size _ rfl) (q2 hw)
end
end EV
namespace EV
open PySem L2
variable {G : SP} {Fz : Addr → Prop} {α : Nat → Addr} {S : Store} {H : Hp}

theorem Sim.free (m : Sim G Fz α S H) {p : Addr} (hp : H p = none) : ¬ Fz p := fun f => by
  obtain ⟨o, e, _⟩ := m.fzH p f
  rw [hp] at e
  cases e
theorem cell_some {a : Addr} {n : Nat} {c : Cell} (h : CellOk G Fz α n H a c) : ∃ o, H a = some o ∧ (∀ ps, o ≠ .tbl ps) ∧ (∀ φ, o ≠ .ext φ) ∧ Froz o ∧ (∀ us, o ≠ .xd us) := by
  cases c with
  | lst m xs => obtain ⟨_, e, _⟩ := h; exact ⟨_, e, fun _ z => by (cases z), fun _ z => by (cases z), trivial, fun _ z => by (cases z)⟩
  | dK m xs => obtain ⟨_, e, _⟩ := h; exact ⟨_, e, fun _ z => by (cases z), fun _ z => by (cases z), trivial, fun _ z => by (cases z)⟩
  | dT m xs => obtain ⟨_, e, _⟩ := h; exact ⟨_, e, fun _ z => by (cases z), fun _ z => by (cases z), trivial, fun _ z => by (cases z)⟩
  | obj c fs => obtain ⟨_, _, e, _⟩ := h; exact ⟨_, e, fun _ z => by (cases z), fun _ z => by (cases z), trivial, fun _ z => by (cases z)⟩
theorem Sim.cellNe (m : Sim G Fz α S H) {p : Addr} (hp : H p = none) {k : Nat} (hk : k < S.length) : α k ≠ p := fun e => by
  obtain ⟨o, h, _⟩ := cell_some (m.cell k S[k] (by simp [hk]))
  rw [e, hp] at h
  cases h
/-- a cell's description in a later state -/
theorem CellOk.mono {Fz' : Addr → Prop} {α' : Nat → Addr} {S' : Store} {H' : Hp} (s : Step Fz α S H Fz' α' S' H') {a : Addr} {c : Cell} (hH : H' a = H a) (hF : Fz' a ↔ Fz a) (h : CellOk G Fz α S.length H a c) : CellOk G Fz' α' S'.length H' a c := by
  cases c with
  | lst m xs =>
    obtain ⟨vs, e, l, r, f1, f2⟩ := h
    exact ⟨vs, by rw [hH]; exact e, l, Reps.mono s.ext r, fun z => fun q => f1 z (hF.mp q), fun z => hF.mpr (f2 z)⟩
  | dK m xs =>
    obtain ⟨vs, e, l, r, f1, f2⟩ := h
    exact ⟨vs, by rw [hH]; exact e, l, Reps.mono s.ext r, fun z => fun q => f1 z (hF.mp q), fun z => hF.mpr (f2 z)⟩
  | dT m xs =>
    obtain ⟨vs, e, l, r, f1, f2⟩ := h
    exact ⟨vs, by rw [hH]; exact e, l, Reps.mono s.ext r, fun z => fun q => f1 z (hF.mp q), fun z => hF.mpr (f2 z)⟩
  | obj c fs =>
    obtain ⟨dx, us, e, l, k, r, f⟩ := h
    exact ⟨dx, us, by rw [hH]; exact e, l, k, RepWs.mono s r, fun q => f (hF.mp q)⟩
def addA (Fz : Addr → Prop) (p : Addr) : Addr → Prop := fun a => Fz a ∨ a = p
theorem tabs_new {p : Addr} {o : HO} (h : NdefX.TabsN G.T H) (hp : H p = none) : NdefX.TabsN G.T (upd H p o) := h.ext fun b u e => by
  rw [upd_ne (ne_of_none e hp)]
  exact e
theorem tabs_set {p : Addr} {o u : HO} (h : NdefX.TabsN G.T H) (hp : H p = some u) (n1 : ∀ ps, u ≠ .tbl ps) (n2 : ∀ φ, u ≠ .ext φ) : NdefX.TabsN G.T (upd H p o) := fun q hq => by
  obtain ⟨ps, h1, h2, h3⟩ := h q hq
  refine ⟨ps, ?_, h2, fun pos cv hc => ?_⟩
  · rw [upd_ne (ne_of h1 hp fun z => n1 ps z.symm)]
    exact h1
  · obtain ⟨c, e1, e2⟩ := h3 pos cv hc
    refine ⟨c, e1, ?_⟩
    rw [upd_ne (ne_of e2 hp fun z => n2 _ (by rw [← z, LamX.CodeO]))]
    exact e2
/-- a new object that is frozen at once -/
theorem new_frz (m : Sim G Fz α S H) {p : Addr} {o : HO} (hp : H p = none) (ho : Froz o) : Step Fz α S H (addA Fz p) α S (upd H p o) ∧ Sim G (addA Fz p) α S (upd H p o) := by
  have st : Step Fz α S H (addA Fz p) α S (upd H p o) := ⟨⟨fun _ h => .inl h, fun a u f e => by
    rw [upd_ne (ne_of_none e hp)]
    exact e⟩, fun _ _ => rfl, Nat.le_refl _, fun a u e _ f k => ⟨by rw [upd_ne (ne_of_none e hp)]; exact e, fun z => z.elim f fun z => ne_of_none e hp z, k⟩⟩
  refine ⟨st, ⟨fun a h => ?_, fun k c e => ?_, m.inj, tabs_new m.tab hp, G.pcS st m.pc⟩⟩
  · by_cases hb : a = p
    · subst hb
      exact ⟨o, upd_same, ho⟩
    · rcases h with h | h
      · obtain ⟨u, e, n⟩ := m.fzH a h
        exact ⟨u, by rw [upd_ne hb]; exact e, n⟩
      · exact absurd h hb
  · have hk : k < S.length := (List.getElem?_eq_some_iff.mp e).1
    have ne := m.cellNe hp hk
    exact (m.cell k c e).mono st (upd_ne ne) ⟨fun z => z.elim id fun z => absurd z ne, .inl⟩
def setA (α : Nat → Addr) (n : Nat) (p : Addr) : Nat → Addr := fun k => if k = n then p else α k
/-- a new cell -/
theorem new_cell (m : Sim G Fz α S H) {p : Addr} {o : HO} {c : Cell} (hp : H p = none) (ho : ∀ ps, o ≠ .tbl ps) (hc : Step Fz α S H Fz (setA α S.length p) (S ++ [c]) (upd H p o) → CellOk G Fz (setA α S.length p) (S ++ [c]).length (upd H p o) p c) :
    Step Fz α S H Fz (setA α S.length p) (S ++ [c]) (upd H p o) ∧ Sim G Fz (setA α S.length p) (S ++ [c]) (upd H p o) := by
  have st : Step Fz α S H Fz (setA α S.length p) (S ++ [c]) (upd H p o) := ⟨⟨fun _ h => h, fun a u f e => by
    rw [upd_ne (ne_of_none e hp)]
    exact e⟩, fun k hk => if_neg (Nat.ne_of_lt hk), by simp, fun a u e _ f k => ⟨by rw [upd_ne (ne_of_none e hp)]; exact e, f, fun j hj z => by
      unfold setA at z
      by_cases h1 : j = S.length
      · rw [if_pos h1] at z
        exact ne_of_none e hp z.symm
      · rw [if_neg h1] at z
        exact k j (by simp at hj; omega) z⟩⟩
  refine ⟨st, ⟨fun a h => ?_, fun k c' e => ?_, fun j k hj hk e => ?_, tabs_new m.tab hp, G.pcS st m.pc⟩⟩
  · obtain ⟨u, e, n⟩ := m.fzH a h
    exact ⟨u, by rw [upd_ne (ne_of_none e hp)]; exact e, n⟩
  · by_cases hk : k < S.length
    · rw [List.getElem?_append_left hk] at e
      have ne := m.cellNe hp hk
      rw [st.at_ k hk]
      exact (m.cell k c' e).mono st (upd_ne ne) Iff.rfl
    · have hk2 : k = S.length := by
        have := (List.getElem?_eq_some_iff.mp e).1
        simp at this
        omega
      subst hk2
      simp at e
      subst e
      have : setA α S.length p S.length = p := if_pos rfl
      rw [this]
      exact hc st
  · simp at hj hk
    unfold setA at e
    by_cases h1 : j = S.length
    · by_cases h2 : k = S.length
      · omega
      · rw [if_pos h1, if_neg h2] at e
        exact absurd e.symm (m.cellNe hp (by omega))
    · by_cases h2 : k = S.length
      · rw [if_neg h1, if_pos h2] at e
        exact absurd e (m.cellNe hp (by omega))
      · rw [if_neg h1, if_neg h2] at e
        exact m.inj j k (by omega) (by omega) e
/-- a cell changes -/
theorem set_cell (m : Sim G Fz α S H) {k : Nat} {c c' : Cell} {o : HO} (hk : S[k]? = some c) (hF : ¬ Fz (α k)) (hc : Step Fz α S H Fz α (S.set k c') (upd H (α k) o) → CellOk G Fz α (S.set k c').length (upd H (α k) o) (α k) c') :
    Step Fz α S H Fz α (S.set k c') (upd H (α k) o) ∧ Sim G Fz α (S.set k c') (upd H (α k) o) := by
  have hkl : k < S.length := (List.getElem?_eq_some_iff.mp hk).1
  obtain ⟨u, hu, n1, n2, n3, _⟩ := cell_some (m.cell k c hk)
  have st : Step Fz α S H Fz α (S.set k c') (upd H (α k) o) := ⟨⟨fun _ h => h, fun a u f e => by
    rw [upd_ne (fun z => hF (by rw [← z]; exact f))]
    exact e⟩, fun _ _ => rfl, by simp, fun a u e _ f j => ⟨by rw [upd_ne (fun z => j k hkl z.symm)]; exact e, f, fun i hi => j i (by simpa using hi)⟩⟩
  refine ⟨st, ⟨fun a h => ?_, fun j d e => ?_, fun i j hi hj e => m.inj i j (by simpa using hi) (by simpa using hj) e, tabs_set m.tab hu n1 n2, G.pcS st m.pc⟩⟩
  · obtain ⟨u, e, n⟩ := m.fzH a h
    exact ⟨u, by rw [upd_ne (fun z => hF (by rw [← z]; exact h))]; exact e, n⟩
  · by_cases hj : j = k
    · subst hj
      rw [List.getElem?_set_self hkl] at e
      cases e
      exact hc st
    · rw [List.getElem?_set_ne (Ne.symm hj)] at e
      have hjl : j < S.length := (List.getElem?_eq_some_iff.mp e).1
      exact (m.cell j d e).mono st (upd_ne fun z => hj (m.inj j k hjl hkl z)) Iff.rfl
/-- a cell is frozen: nothing changes in the heap -/
theorem frz_cell (m : Sim G Fz α S H) {k : Nat} {c c' : Cell} (hk : S[k]? = some c) (hc : CellOk G (addA Fz (α k)) α S.length H (α k) c') :
    Step Fz α S H (addA Fz (α k)) α (S.set k c') H ∧ Sim G (addA Fz (α k)) α (S.set k c') H := by
  have hkl : k < S.length := (List.getElem?_eq_some_iff.mp hk).1
  obtain ⟨u, hu, n1, n2, n3, _⟩ := cell_some (m.cell k c hk)
  have st : Step Fz α S H (addA Fz (α k)) α (S.set k c') H := ⟨⟨fun _ h => .inl h, fun _ _ _ e => e⟩, fun _ _ => rfl, by simp, fun a u e _ f j => ⟨e, fun z => z.elim f fun z => j k hkl z.symm, fun i hi => j i (by simpa using hi)⟩⟩
  refine ⟨st, ⟨fun a h => ?_, fun j d e => ?_, fun i j hi hj e => m.inj i j (by simpa using hi) (by simpa using hj) e, m.tab, G.pcS st m.pc⟩⟩
  · rcases h with h | h
    · exact m.fzH a h
    · exact ⟨u, by rw [h]; exact hu, n3⟩
  · by_cases hj : j = k
    · subst hj
      rw [List.getElem?_set_self hkl] at e
      cases e
      rw [List.length_set]
      exact hc
    · rw [List.getElem?_set_ne (Ne.symm hj)] at e
      have hjl : j < S.length := (List.getElem?_eq_some_iff.mp e).1
      refine (m.cell j d e).mono st rfl ⟨fun z => z.elim id fun z => absurd (m.inj j k hjl hkl z) hj, .inl⟩
theorem Reps.addA {p : Addr} {ds : List D} {vs : List V} (h : Reps G Fz H ds vs) : Reps G (addA Fz p) H ds vs := Reps.mono ⟨fun _ h => .inl h, fun _ _ _ e => e⟩ h
/-- the value that a word stands for, frozen -/
theorem frz_ok (m : Sim G Fz α S H) {w : W} {x : D} {S1 : Store} {v : V} (e : frz S w = some (x, S1)) (r : RepW G Fz α S.length H w v) : ∃ Fz1, Step Fz α S H Fz1 α S1 H ∧ Sim G Fz1 α S1 H ∧ Rep G Fz1 H x v := by
  cases w with
  | d y =>
    cases e
    exact ⟨Fz, Step.refl, m, r⟩
  | c k =>
    obtain ⟨hk, rfl⟩ := r
    unfold frz at e
    dsimp only at e
    cases q : S[k]? with
    | none => rw [q] at e; cases e
    | some c =>
      rw [q] at e
      have ok := m.cell k c q
      cases c with
      | lst b xs =>
        cases e
        obtain ⟨vs, h1, h2, h3, h4, h5⟩ := ok
        obtain ⟨st, m'⟩ := frz_cell (c' := .lst false xs) m q ⟨vs, h1, h2, h3.addA, fun z => (by cases z), fun _ => .inr rfl⟩
        exact ⟨_, st, m', _, vs, rfl, .inl ⟨.inr rfl, .inl h1⟩, h2, h3.addA⟩
      | dK b kvs =>
        cases e
        obtain ⟨vs, h1, h2, h3, h4, h5⟩ := ok
        obtain ⟨st, m'⟩ := frz_cell (c' := .dK false kvs) m q ⟨vs, h1, h2, h3.addA, fun z => (by cases z), fun _ => .inr rfl⟩
        exact ⟨_, st, m', _, vs, rfl, .inr rfl, h1, h2, h3.addA⟩
      | dT b kvs =>
        cases e
        obtain ⟨vs, h1, h2, h3, h4, h5⟩ := ok
        obtain ⟨st, m'⟩ := frz_cell (c' := .dT false kvs) m q ⟨vs, h1, h2, h3.addA, fun z => (by cases z), fun _ => .inr rfl⟩
        exact ⟨_, st, m', _, vs, rfl, .inr rfl, h1, h2, h3.addA⟩
      | obj c fs => cases e
theorem frzL_ok : ∀ {ws : List W} {Fz : Addr → Prop} {S : Store} {xs : List D} {S1 : Store} {vs : List V}, Sim G Fz α S H → frzL S ws = some (xs, S1) → RepWs G Fz α S.length H ws vs → ∃ Fz1, Step Fz α S H Fz1 α S1 H ∧ Sim G Fz1 α S1 H ∧ Reps G Fz1 H xs vs
  | [], Fz, S, xs, S1, vs, m, e, r => by
    cases e
    cases r
    exact ⟨Fz, Step.refl, m, rfl⟩
  | w :: ws, Fz, S, xs, S1, _, m, e, .cons (l₂ := vs) (b := v) h t => by
    unfold frzL at e
    cases q : frz S w with
    | none => rw [q] at e; cases e
    | some p =>
      obtain ⟨x, S2⟩ := p
      rw [q] at e
      dsimp only at e
      cases q2 : frzL S2 ws with
      | none => rw [q2] at e; cases e
      | some p =>
        obtain ⟨ys, S3⟩ := p
        rw [q2] at e
        cases e
        obtain ⟨F1, s1, m1, r1⟩ := frz_ok m q h
        obtain ⟨F2, s2, m2, r2⟩ := frzL_ok m1 q2 (RepWs.mono s1 t)
        exact ⟨F2, s1.trans s2, m2, Reps.cons (Rep.mono s2.ext r1) r2⟩
/-- a look: what stands there, whether it may change or not -/
inductive Look (G : SP) (Fz : Addr → Prop) (H : Hp) : D → V → Prop where
  | at_ {x v} : Rep G Fz H x v → Look G Fz H x v
  | lst {a vs xs} : H a = some (.lst vs) → vs.length ≤ 16777216 → Reps G Fz H xs vs → Look G Fz H (.lst xs) (.ref a)
  | dK {a kvs ds} : H a = some (.dK kvs) → Reps G Fz H ds (kvs.map (·.2)) → Look G Fz H (.dK (kvs.map (·.1)) ds) (.ref a)
  | dT {a kvs ds} : H a = some (.dT kvs) → Reps G Fz H ds (kvs.map (·.2)) → Look G Fz H (.dT (kvs.map (·.1)) ds) (.ref a)
theorem view_ok (m : Sim G Fz α S H) {w : W} {x : D} {v : V} (e : view S w = some x) (r : RepW G Fz α S.length H w v) : Look G Fz H x v := by
  cases w with
  | d y =>
    cases e
    exact .at_ r
  | c k =>
    obtain ⟨hk, rfl⟩ := r
    unfold view at e
    dsimp only at e
    cases q : S[k]? with
    | none => rw [q] at e; cases e
    | some c =>
      rw [q] at e
      have ok := m.cell k c q
      cases c with
      | lst b xs =>
        cases e
        obtain ⟨vs, h1, h2, h3, h4, h5⟩ := ok
        exact .lst h1 h2 h3
      | dK b kvs =>
        cases e
        obtain ⟨vs, h1, h2, h3, h4, h5⟩ := ok
        rw [h2]
        exact .dK h1 h3
      | dT b kvs =>
        cases e
        obtain ⟨vs, h1, h2, h3, h4, h5⟩ := ok
        rw [h2]
        exact .dT h1 h3
      | obj c fs => cases e

def EW (G : SP) (W : WX) : ET := fun Fz β S H ρ cls d => ∀ σ, Slots G Fz β S.length H σ ρ → W cls d σ H
def RdE (G : SP) (W : WX) (f : Sm) : TE := fun σ H Q => ∃ Fz α S ρ, Sim G Fz α S H ∧ Slots G Fz α S.length H σ ρ ∧ Post G Fz α S H (f ρ S) (fun Fz' β S' H' w => ∀ v, RepW G Fz' β S'.length H' w v → Q v H') (EW G W)
def RdT (G : SP) (W : WX) (f : SmT) : TT := fun σ H Q => ∃ Fz α S ρ, Sim G Fz α S H ∧ Slots G Fz α S.length H σ ρ ∧ Post G Fz α S H (f ρ S) (fun Fz' β S' H' b => Q b H') (EW G W)
def RdA (G : SP) (W : WX) (f : SmL) : TA := fun σ H Q => ∃ Fz α S ρ, Sim G Fz α S H ∧ Slots G Fz α S.length H σ ρ ∧ Post G Fz α S H (f ρ S) (fun Fz' β S' H' ws => ∀ vs, RepWs G Fz' β S'.length H' ws vs → Q vs H') (EW G W)
def FlowOk (G : SP) (D : Ends) (Fz : Addr → Prop) (α : Nat → Addr) (S : Store) (H : Hp) : F → Prop
  | .nx ρ => ∀ σ, Slots G Fz α S.length H σ ρ → D.nx σ H
  | .rt w => ∀ v, RepW G Fz α S.length H w v → D.rt v H
  | .bk ρ => ∀ σ, Slots G Fz α S.length H σ ρ → D.bk σ H
  | .ct ρ => ∀ σ, Slots G Fz α S.length H σ ρ → D.ct σ H
def RdS (G : SP) (W : WX) (f : SmS) : TS := fun D σ H => ∃ Fz α S ρ, Sim G Fz α S H ∧ Slots G Fz α S.length H σ ρ ∧ Post G Fz α S H (f ρ S) (FlowOk G D) (EW G W)
theorem pe_le {X : Cx} {e : Expr} {t t' : TE} (h : PE X e t) (k : ∀ σ H Q, t' σ H Q → t σ H Q) : PE X e t' := ⟨fun pins s σ H Q I q => h.run pins s σ H Q I (k _ _ _ q)⟩
theorem pt_le {X : Cx} {e : Expr} {t t' : TT} (h : PT X e t) (k : ∀ σ H Q, t' σ H Q → t σ H Q) : PT X e t' := ⟨fun pins s σ H Q I q => h.run pins s σ H Q I (k _ _ _ q)⟩
theorem pw_le {X : Cx} {e : Expr} {t t' : TT} (h : PW X e t) (k : ∀ σ H Q, t' σ H Q → t σ H Q) : PW X e t' := ⟨fun wh pins s σ H Q I q => h.run wh pins s σ H Q I (k _ _ _ q)⟩
theorem pa_le {X : Cx} {e : List Expr} {t t' : TA} (h : PA X e t) (k : ∀ σ H Q, t' σ H Q → t σ H Q) : PA X e t' := ⟨fun pos pins s σ H Q I q => h.run pos pins s σ H Q I (k _ _ _ q)⟩
theorem ps_le {X : Cx} {e : Stmt} {t t' : TS} (h : PS X e t) (k : ∀ D σ H, t' D σ H → t D σ H) : PS X e t' := ⟨fun pins s σ H D I q => h.run pins s σ H D I (k _ _ _ q)⟩
theorem pss_le {X : Cx} {e : List Stmt} {t t' : TS} (h : PSs X e t) (k : ∀ D σ H, t' D σ H → t D σ H) : PSs X e t' := ⟨fun pins s σ H D I q => h.run pins s σ H D I (k _ _ _ q)⟩

section
variable {X : Cx} {W : WX} {e a b : Expr} {es : List Expr} {f g : Sm} {fs : SmL} {pos : Pos}
theorem ex_var {i : Nat} {x : Str} (hN : X.N[i]? = some x) (hv : Vis X.env.scope x) (hd : (x == ("__debug__" : Str)) = false) (hcd : (x == ("__classdict__" : Str)) = false) : PE X (.Name x pos) (RdE G W (cVar i)) :=
  pe_le (pe_var hN hv hd hcd) fun σ H Q ⟨Fz, α, S, ρ, m, sl, q⟩ => by
    unfold cVar at q
    cases h : ρ[i]? with
    | none => rw [h] at q; exact q.elim
    | some o =>
      cases o with
      | none => rw [h] at q; exact q.elim
      | some w =>
        rw [h] at q
        obtain ⟨v, e, r⟩ := sl.2 i w h
        exact ⟨v, e, q.now m v r⟩
theorem ex_cst {d : D} {v : V} (h : PE X e (tC v)) (hr : ∀ Fz H, Rep G Fz H d v) : PE X e (RdE G W (cCst d)) :=
  pe_le h fun σ H Q ⟨Fz, α, S, ρ, m, sl, q⟩ => q.now m v (hr _ _)
theorem ax_nil : PA X [] (RdA G W cNil) := pa_le pa_nil fun σ H Q ⟨Fz, α, S, ρ, m, sl, q⟩ => q.now m [] .nil
theorem ax_cons (ha : PE X e (RdE G W f)) (hr : PA X es (RdA G W fs)) (hs : starEach (e :: es) X.env = (false, eval e X.env) :: starEach es X.env) : PA X (e :: es) (RdA G W (cCons f fs)) :=
  pa_le (pa_cons ha hr hs) fun σ H Q ⟨Fz, α, S, ρ, m, sl, q⟩ => ⟨Fz, α, S, ρ, m, sl, (Post.bind q).mono fun F1 α1 S1 H1 w st m1 q1 v r => ⟨F1, α1, S1, ρ, m1, sl.mono st, (Post.bind q1).mono fun F2 α2 S2 H2 ws st2 m2 q2 vs rs =>
    q2.now m2 _ (.cons (RepW.mono st2 r) rs)⟩⟩
theorem ex_tup {x1} (h : PA X es (RdA G W fs)) : PE X (.Tuple es x1 pos) (RdE G W (cTup fs)) :=
  pe_le (pe_tupF h) fun σ H Q ⟨Fz, α, S, ρ, m, sl, q⟩ => ⟨Fz, α, S, ρ, m, sl, (Post.bind q).mono fun F1 α1 S1 H1 ws st m1 q1 vs rs => by
    cases h1 : frzL S1 ws with
    | none => rw [h1] at q1; exact q1.elim
    | some p =>
      obtain ⟨xs, S2⟩ := p
      rw [h1] at q1
      dsimp only at q1
      obtain ⟨F2, s2, m2, r2⟩ := frzL_ok m1 h1 rs
      have hl := Reps.length r2
      by_cases hz : xs.length ≤ 16777216
      · rw [if_pos hz] at q1
        refine ⟨by rw [← hl, sizeLine_eq]; exact hz, fun p o hp ho => ?_⟩
        obtain ⟨s3, m3⟩ := new_frz (o := .frz o (.tup vs)) m2 hp trivial
        exact q1 _ _ _ (s2.trans s3) m3 _ ⟨p, vs, rfl, .inl ⟨.inr rfl, ⟨o, upd_same, ho⟩⟩, by omega, Reps.mono s3.ext r2⟩
      · rw [if_neg hz] at q1
        exact q1.elim⟩
theorem ex_lst {mu : Bool} (h : PA X es (RdA G W fs)) : PE X (.List es pos) (RdE G W (cLst mu fs)) :=
  pe_le (pe_lst h) fun σ H Q ⟨Fz, α, S, ρ, m, sl, q⟩ => ⟨Fz, α, S, ρ, m, sl, (Post.bind q).mono fun F1 α1 S1 H1 ws st m1 q1 vs rs => by
    cases h1 : frzL S1 ws with
    | none => rw [h1] at q1; exact q1.elim
    | some p =>
      obtain ⟨xs, S2⟩ := p
      rw [h1] at q1
      dsimp only at q1
      obtain ⟨F2, s2, m2, r2⟩ := frzL_ok m1 h1 rs
      have hl := Reps.length r2
      by_cases hz : xs.length ≤ 16777216
      · rw [if_pos hz] at q1
        refine ⟨by rw [← hl, sizeLine_eq]; exact hz, fun p hp => ?_⟩
        cases mu with
        | false =>
          obtain ⟨s3, m3⟩ := new_frz (o := .lst vs) m2 hp trivial
          exact q1 _ _ _ (s2.trans s3) m3 _ ⟨p, vs, rfl, .inl ⟨.inr rfl, .inl upd_same⟩, by omega, Reps.mono s3.ext r2⟩
        | true =>
          obtain ⟨s3, m3⟩ := new_cell (o := .lst vs) (c := .lst true xs) m2 hp (fun _ z => by cases z) fun st => ⟨vs, upd_same, by omega, Reps.mono st.ext r2, fun _ => m2.free hp, fun z => by cases z⟩
          exact q1 _ _ _ (s2.trans s3) m3 _ ⟨by simp, by show V.ref p = _; rw [setA, if_pos rfl]⟩
      · rw [if_neg hz] at q1
        exact q1.elim⟩
/-- an operation on two values: its rule, over what is looked at -/
def Op2 (G : SP) (X : Cx) (f : Value → Value → Sem Value) (o : D → D → Option D) : Prop :=
  ∃ r : R2, OpR X f r ∧ ∀ (Fz : Addr → Prop) (α : Nat → Addr) (S : Store) (H : Hp) (x y z : D) (v u : V) (Q : VK), Sim G Fz α S H → Look G Fz H x v → Look G Fz H y u → o x y = some z →
    (∀ Fz' H' w, Step Fz α S H Fz' α S H' → Sim G Fz' α S H' → Rep G Fz' H' z w → Q w H') → r v u H Q
theorem op2_read {r : R2} {o : D → D → Option D} (hf : PE X a (RdE G W f)) (hg : PE X b (RdE G W g))
    (hr : ∀ (Fz : Addr → Prop) (α : Nat → Addr) (S : Store) (H : Hp) (x y z : D) (v u : V) (Q : VK), Sim G Fz α S H → Look G Fz H x v → Look G Fz H y u → o x y = some z →
      (∀ Fz' H' w, Step Fz α S H Fz' α S H' → Sim G Fz' α S H' → Rep G Fz' H' z w → Q w H') → r v u H Q) {σ : L2.St} {H : Hp} {Q : VK} (h : RdE G W (cOp2 o f g) σ H Q) : tOp r (RdE G W f) (RdE G W g) σ H Q := by
  obtain ⟨Fz, α, S, ρ, m, sl, q⟩ := h
  refine ⟨Fz, α, S, ρ, m, sl, (Post.bind q).mono fun F1 α1 S1 H1 w st m1 q1 v rv => ⟨F1, α1, S1, ρ, m1, sl.mono st, (Post.bind q1).mono fun F2 α2 S2 H2 w2 st2 m2 q2 u ru => ?_⟩⟩
  cases h1 : view S2 w with
  | none => rw [h1] at q2; exact q2.elim
  | some x =>
    cases h2 : view S2 w2 with
    | none => rw [h1, h2] at q2; exact q2.elim
    | some y =>
      rw [h1, h2] at q2
      dsimp only at q2
      cases h3 : o x y with
      | none => rw [h3] at q2; exact q2.elim
      | some z =>
        rw [h3] at q2
        exact hr F2 α2 S2 H2 x y z v u Q m2 (view_ok m2 h1 (RepW.mono st2 rv)) (view_ok m2 h2 ru) h3 fun Fz' H' w' s m' r' => q2 _ _ _ s m' _ r'
theorem ex_bin {op : Operator} {o : D → D → Option D} (ho : Op2 G X (binaryOp op) o) (hf : PE X a (RdE G W f)) (hg : PE X b (RdE G W g)) : PE X (.BinOp a op b pos) (RdE G W (cOp2 o f g)) := by
  obtain ⟨r, h1, h2⟩ := ho
  exact pe_le (pe_op h1 hf hg) fun σ H Q h => op2_read hf hg h2 h
theorem ex_cmp {op : CmpOp} {o : D → D → Option D} (ho : Op2 G X (compareOp op) o) (hf : PE X a (RdE G W f)) (hg : PE X b (RdE G W g)) (hm : behindInMarks op b = false) : PE X (.Compare a [op] [b] pos) (RdE G W (cOp2 o f g)) := by
  obtain ⟨r, h1, h2⟩ := ho
  exact pe_le (pe_cmpR h1 hf hg hm) fun σ H Q h => op2_read hf hg h2 h
end
end EV
namespace EV
open PySem L2
variable {G : SP}

def toB (w : W) (S : Store) : R Bool := match w with
  | .d (.bl b) => .ok b S
  | _ => .bad
def toT (f : Sm) : SmT := fun ρ S => (f ρ S).bind toB
def cAnd (f g : Sm) : Sm := fun ρ S => (toT f ρ S).bind fun b S1 => if b = true then g ρ S1 else .ok (.d (.bl false)) S1
def cOr (f g : Sm) : Sm := fun ρ S => (toT f ρ S).bind fun b S1 => if b = true then .ok (.d (.bl true)) S1 else g ρ S1
def cNot (f : Sm) : Sm := fun ρ S => (toT f ρ S).bind fun b S1 => .ok (.d (.bl (!b))) S1
def cIf (t : Sm) (f g : Sm) : Sm := fun ρ S => (toT t ρ S).bind fun b S1 => if b = true then f ρ S1 else g ρ S1
theorem toB_bl {Fz : Addr → Prop} {α : Nat → Addr} {S : Store} {H : Hp} {w : W} {Q : QT Bool} {E : ET} (m : Sim G Fz α S H) (h : Post G Fz α S H (toB w S) Q E) : ∃ b, w = .d (.bl b) ∧ Q Fz α S H b := by
  cases w with
  | c k => exact h.elim
  | d x =>
    cases x with
    | bl b => exact ⟨b, rfl, h.now m⟩
    | _ => exact h.elim

section
variable {X : Cx} {W : WX} {e a b c : Expr} {rest : List Expr} {f g t : Sm} {pos : Pos}
/-- from a value's reading to what is asked of a bool -/
theorem rd_bl {σ : L2.St} {H : Hp} {Q : Bool → Hp → Prop} (h : RdT G W (toT f) σ H Q) : RdE G W f σ H fun x H1 => ∃ k, x = .bl k ∧ Q k H1 := by
  obtain ⟨Fz, α, S, ρ, m, sl, q⟩ := h
  refine ⟨Fz, α, S, ρ, m, sl, (Post.bind q).mono fun F1 α1 S1 H1 w st m1 q1 v r => ?_⟩
  obtain ⟨b, rfl, q2⟩ := toB_bl m1 q1
  exact ⟨b, r, q2⟩
theorem xt_val (h : PE X e (RdE G W f)) (he : ∀ whole, isTrue e X.env whole = (do let v ← whole; standAt e.pos; holding [v] (truthy v))) : PT X e (RdT G W (toT f)) :=
  pt_le (pt_val h he) fun σ H Q q => rd_bl q
theorem xt_cmp {op : CmpOp} {o : D → D → Option D} (ho : Op2 G X (compareOp op) o) (hf : PE X a (RdE G W f)) (hg : PE X b (RdE G W g)) (hm : behindInMarks op b = false) : PT X (.Compare a [op] [b] pos) (RdT G W (toT (cOp2 o f g))) := by
  obtain ⟨r, h1, h2⟩ := ho
  exact pt_le (pt_cmpR h1 hf hg hm) fun σ H Q h => op2_read hf hg h2 (rd_bl h)
theorem toT_and (f g : Sm) (ρ : Env') (S : Store) : toT (cAnd f g) ρ S = (toT f ρ S).bind fun b S1 => if b = true then toT g ρ S1 else .ok false S1 := by
  show ((toT f ρ S).bind _).bind toB = _
  rw [R.bind_assoc]
  congr 1
  funext b S1
  cases b <;> rfl
theorem toT_or (f g : Sm) (ρ : Env') (S : Store) : toT (cOr f g) ρ S = (toT f ρ S).bind fun b S1 => if b = true then .ok true S1 else toT g ρ S1 := by
  show ((toT f ρ S).bind _).bind toB = _
  rw [R.bind_assoc]
  congr 1
  funext b S1
  cases b <;> rfl
theorem toT_not (f : Sm) (ρ : Env') (S : Store) : toT (cNot f) ρ S = (toT f ρ S).bind fun b S1 => .ok (!b) S1 := by
  show ((toT f ρ S).bind _).bind toB = _
  rw [R.bind_assoc]
  congr 1
theorem rd_toT {σ : L2.St} {H : Hp} {Q : VK} {t : Sm} {u : Bool → Sm} (h : RdE G W (fun ρ S => (toT t ρ S).bind fun b S1 => u b ρ S1) σ H Q) : RdT G W (toT t) σ H fun b H1 => RdE G W (u b) σ H1 Q := by
  obtain ⟨Fz, α, S, ρ, m, sl, q⟩ := h
  exact ⟨Fz, α, S, ρ, m, sl, (Post.bind q).mono fun F1 α1 S1 H1 b st m1 q1 => ⟨F1, α1, S1, ρ, m1, sl.mono st, q1⟩⟩
theorem rt_toT {σ : L2.St} {H : Hp} {Q : Bool → Hp → Prop} {t : Sm} {u : Bool → SmT} (h : RdT G W (fun ρ S => (toT t ρ S).bind fun b S1 => u b ρ S1) σ H Q) : RdT G W (toT t) σ H fun b H1 => RdT G W (u b) σ H1 Q := by
  obtain ⟨Fz, α, S, ρ, m, sl, q⟩ := h
  exact ⟨Fz, α, S, ρ, m, sl, (Post.bind q).mono fun F1 α1 S1 H1 b st m1 q1 => ⟨F1, α1, S1, ρ, m1, sl.mono st, q1⟩⟩
theorem rt_ok {σ : L2.St} {H : Hp} {Q : Bool → Hp → Prop} {b : Bool} (h : RdT G W (fun _ S => .ok b S) σ H Q) : Q b H := by
  obtain ⟨Fz, α, S, ρ, m, sl, q⟩ := h
  exact q.now m
theorem re_ok {σ : L2.St} {H : Hp} {Q : VK} {d : D} {v : V} (hr : ∀ Fz H, Rep G Fz H d v) (h : RdE G W (fun _ S => .ok (.d d) S) σ H Q) : Q v H := by
  obtain ⟨Fz, α, S, ρ, m, sl, q⟩ := h
  exact q.now m v (hr _ _)
theorem ex_if (hc : PT X c (RdT G W (toT t))) (ha : PE X a (RdE G W f)) (hb : PE X b (RdE G W g)) : PE X (.IfExp c a b pos) (RdE G W (cIf t f g)) :=
  pe_le (pe_ifExp hc ha hb) fun σ H Q h => by
    have h := rd_toT (t := t) (u := fun b ρ S1 => if b = true then f ρ S1 else g ρ S1) h
    obtain ⟨Fz, α, S, ρ, m, sl, q⟩ := h
    refine ⟨Fz, α, S, ρ, m, sl, q.mono fun F1 α1 S1 H1 b st m1 q1 => ?_⟩
    cases b <;> exact q1
theorem ex_one {op} (h : PE X a (RdE G W f)) : PE X (.BoolOp op [a] pos) (RdE G W f) := pe_one h
theorem ex_and (ha : PE X a (RdE G W f)) (hb : PE X (.BoolOp .And (b :: rest) pos) (RdE G W g)) : PE X (.BoolOp .And (a :: b :: rest) pos) (RdE G W (cAnd f g)) :=
  pe_le (pe_and ha hb) fun σ H Q h => by
    have h := rd_bl (rd_toT (t := f) (u := fun b ρ S1 => if b = true then g ρ S1 else .ok (.d (.bl false)) S1) h)
    obtain ⟨Fz, α, S, ρ, m, sl, q⟩ := h
    refine ⟨Fz, α, S, ρ, m, sl, q.mono fun F1 α1 S1 H1 w st m1 q1 v r => ?_⟩
    obtain ⟨k, e, q2⟩ := q1 v r
    refine ⟨k, e, ?_⟩
    cases k with
    | true => exact q2
    | false => exact re_ok (d := .bl false) (v := .bl false) (fun _ _ => rfl) q2
theorem ex_not (ha : PE X a (RdE G W f)) : PE X (.UnaryOp .Not a pos) (RdE G W (cNot f)) :=
  pe_le (pe_not ha) fun σ H Q h => by
    have h := rd_bl (rd_toT (t := f) (u := fun b ρ S1 => .ok (.d (.bl (!b))) S1) h)
    obtain ⟨Fz, α, S, ρ, m, sl, q⟩ := h
    refine ⟨Fz, α, S, ρ, m, sl, q.mono fun F1 α1 S1 H1 w st m1 q1 v r => ?_⟩
    obtain ⟨k, e, q2⟩ := q1 v r
    exact ⟨k, e, re_ok (d := .bl (!k)) (v := .bl (!k)) (fun _ _ => rfl) q2⟩
theorem xt_not (ha : PT X a (RdT G W (toT f))) : PT X (.UnaryOp .Not a pos) (RdT G W (toT (cNot f))) :=
  pt_le (pt_not ha) fun σ H Q h => by
    have e : toT (cNot f) = fun ρ S => (toT f ρ S).bind fun b S1 => .ok (!b) S1 := by funext ρ S; exact toT_not f ρ S
    rw [e] at h
    have h := rt_toT (t := f) (u := fun b ρ S1 => .ok (!b) S1) h
    obtain ⟨Fz, α, S, ρ, m, sl, q⟩ := h
    exact ⟨Fz, α, S, ρ, m, sl, q.mono fun F1 α1 S1 H1 b st m1 q1 => rt_ok q1⟩
/-- the tests of a chain of and, or -/
theorem xw_and1 (ha : PT X a (RdT G W (toT f))) : PW X (.BoolOp .And [a] pos) (RdT G W (toT f)) := pw_and1 ha
theorem xw_or1 (ha : PT X a (RdT G W (toT f))) : PW X (.BoolOp .Or [a] pos) (RdT G W (toT f)) := pw_or1 ha
theorem xw_and (ha : PT X a (RdT G W (toT f))) (hb : PW X (.BoolOp .And (b :: rest) pos) (RdT G W (toT g))) : PW X (.BoolOp .And (a :: b :: rest) pos) (RdT G W (toT (cAnd f g))) :=
  pw_le (pw_and ha hb) fun σ H Q h => by
    have e : toT (cAnd f g) = fun ρ S => (toT f ρ S).bind fun b S1 => if b = true then toT g ρ S1 else .ok false S1 := by funext ρ S; exact toT_and f g ρ S
    rw [e] at h
    have h := rt_toT (t := f) (u := fun b ρ S1 => if b = true then toT g ρ S1 else .ok false S1) h
    obtain ⟨Fz, α, S, ρ, m, sl, q⟩ := h
    refine ⟨Fz, α, S, ρ, m, sl, q.mono fun F1 α1 S1 H1 b st m1 q1 => ?_⟩
    cases b with
    | true => exact q1
    | false => exact rt_ok q1
theorem xw_or (ha : PT X a (RdT G W (toT f))) (hb : PW X (.BoolOp .Or (b :: rest) pos) (RdT G W (toT g))) : PW X (.BoolOp .Or (a :: b :: rest) pos) (RdT G W (toT (cOr f g))) :=
  pw_le (pw_or ha hb) fun σ H Q h => by
    have e : toT (cOr f g) = fun ρ S => (toT f ρ S).bind fun b S1 => if b = true then .ok true S1 else toT g ρ S1 := by funext ρ S; exact toT_or f g ρ S
    rw [e] at h
    have h := rt_toT (t := f) (u := fun b ρ S1 => if b = true then .ok true S1 else toT g ρ S1) h
    obtain ⟨Fz, α, S, ρ, m, sl, q⟩ := h
    refine ⟨Fz, α, S, ρ, m, sl, q.mono fun F1 α1 S1 H1 b st m1 q1 => ?_⟩
    cases b with
    | false => exact q1
    | true => exact rt_ok q1
end

def sNil : SmS := fun ρ S => .ok (.nx ρ) S
def sSeq (f g : SmS) : SmS := fun ρ S => (f ρ S).bind fun r S1 => match r with
  | .nx ρ1 => g ρ1 S1
  | r => .ok r S1
def sSet (i : Nat) (f : Sm) : SmS := fun ρ S => (f ρ S).bind fun w S1 => .ok (.nx (ρ.set i (some w))) S1
def sDrop (f : Sm) : SmS := fun ρ S => (f ρ S).bind fun _ S1 => .ok (.nx ρ) S1
/-- return e; z: a cell is frozen -/
def sRet (z : Bool) (f : Sm) : SmS := fun ρ S => (f ρ S).bind fun w S1 => if z = true then (match frz S1 w with
  | some (x, S2) => .ok (.rt (.d x)) S2
  | none => .bad) else .ok (.rt w) S1
def sIf (t : Sm) (f g : SmS) : SmS := fun ρ S => (toT t ρ S).bind fun b S1 => if b = true then f ρ S1 else g ρ S1
section
variable {X : Cx} {W : WX} {e c : Expr} {st : Stmt} {rest sa sb : List Stmt} {f t : Sm} {p q : SmS} {pos : Pos}
theorem Slots.set {Fz : Addr → Prop} {α : Nat → Addr} {n : Nat} {H : Hp} {σ : L2.St} {ρ : Env'} {i : Nat} {w : EV.W} {v : V} (sl : Slots G Fz α n H σ ρ) (hps : ∀ σ o, G.ps σ → G.ps (σ.set i o)) (r : RepW G Fz α n H w v) : Slots G Fz α n H (σ.set i (some v)) (ρ.set i (some w)) := by
  have hl := sl.1.1
  refine ⟨⟨by simp [hl], hps _ _ sl.1.2⟩, fun j u e => ?_⟩
  by_cases h : i = j
  · subst h
    have hi : i < ρ.length := by
      have := (List.getElem?_eq_some_iff.mp e).1
      simpa using this
    rw [List.getElem?_set_self hi] at e
    have e2 : w = u := by
      have := Option.some.inj e
      exact Option.some.inj this
    subst e2
    exact ⟨v, by rw [List.getElem?_set_self (by omega)], r⟩
  · rw [List.getElem?_set_ne h] at e
    obtain ⟨v', h1, h2⟩ := sl.2 j u e
    exact ⟨v', by rw [List.getElem?_set_ne h]; exact h1, h2⟩
theorem xs_nil : PSs X [] (RdS G W sNil) := pss_le pss_nil fun D σ H ⟨Fz, α, S, ρ, m, sl, q⟩ => q.now m σ sl
/-- the rest of a block, behind its first statement -/
theorem rs_seq {D : Ends} {σ : L2.St} {H : Hp} (h : RdS G W (sSeq p q) D σ H) : RdS G W p { D with nx := fun σ' H' => RdS G W q D σ' H' } σ H := by
  obtain ⟨Fz, α, S, ρ, m, sl, z⟩ := h
  refine ⟨Fz, α, S, ρ, m, sl, (Post.bind z).mono fun F1 α1 S1 H1 r st m1 q1 => ?_⟩
  cases r with
  | nx ρ1 => exact fun σ' sl' => ⟨F1, α1, S1, ρ1, m1, sl', q1⟩
  | rt w => exact q1.now m1
  | bk ρ1 => exact q1.now m1
  | ct ρ1 => exact q1.now m1
theorem xs_cons (h1 : PS X st (RdS G W p)) (h2 : PSs X rest (RdS G W q)) : PSs X (st :: rest) (RdS G W (sSeq p q)) := pss_le (pss_cons h1 h2) fun D σ H h => rs_seq h
theorem xs_one (h1 : PS X st (RdS G W p)) : PSs X [st] (RdS G W p) := pss_one h1
theorem xs_set {i : Nat} {x : Str} {pos' : Pos} (hN : X.N.Nodup) (hi : X.N[i]? = some x) (hx : Loc X.env.scope x) (hps : ∀ σ o, G.ps σ → G.ps (σ.set i o)) (he : PE X e (RdE G W f)) (hs : swapsWith e (some (.Name x pos')) pos.line X.env = pure false) (hf : X.fn x = true ∨ X.env.scope.names.lookup x = some .local) :
    PS X (.Assign [.Name x pos'] e pos) (RdS G W (sSet i f)) := ps_le (ps_set hN hi hx he hs hf) fun D σ H ⟨Fz, α, S, ρ, m, sl, q⟩ =>
  ⟨Fz, α, S, ρ, m, sl, (Post.bind q).mono fun F1 α1 S1 H1 w st m1 q1 v r => q1.now m1 _ ((sl.mono st).set hps r)⟩
theorem xs_drop (he : PE X e (RdE G W f)) (hs : swapsWith e none pos.line X.env = pure false) : PS X (.Expr e pos) (RdS G W (sDrop f)) := ps_le (ps_expr he hs) fun D σ H ⟨Fz, α, S, ρ, m, sl, q⟩ =>
  ⟨Fz, α, S, ρ, m, sl, (Post.bind q).mono fun F1 α1 S1 H1 w st m1 q1 v r => q1.now m1 σ (sl.mono st)⟩
theorem xs_ret {z : Bool} (he : PE X e (RdE G W f)) : PS X (.Return (some e) pos) (RdS G W (sRet z f)) := ps_le (ps_ret he) fun D σ H ⟨Fz, α, S, ρ, m, sl, q⟩ =>
  ⟨Fz, α, S, ρ, m, sl, (Post.bind q).mono fun F1 α1 S1 H1 w st m1 q1 v r => by
    cases z with
    | false => exact q1.now m1 v r
    | true =>
      rw [if_pos rfl] at q1
      cases h : frz S1 w with
      | none => rw [h] at q1; exact q1.elim
      | some pr =>
        obtain ⟨x, S2⟩ := pr
        rw [h] at q1
        obtain ⟨F2, s2, m2, r2⟩ := frz_ok m1 h r
        exact q1 F2 _ _ s2 m2 v r2⟩
theorem xs_if (hc : PT X c (RdT G W (toT t))) (ha : PSs X sa (RdS G W p)) (hb : PSs X sb (RdS G W q)) : PS X (.If c sa sb pos) (RdS G W (sIf t p q)) := ps_le (ps_if hc ha hb) fun D σ H ⟨Fz, α, S, ρ, m, sl, h⟩ =>
  ⟨Fz, α, S, ρ, m, sl, (Post.bind h).mono fun F1 α1 S1 H1 b st m1 q1 => by
    cases b with
    | true => exact ⟨F1, α1, S1, ρ, m1, sl.mono st, q1⟩
    | false => exact ⟨F1, α1, S1, ρ, m1, sl.mono st, q1⟩⟩
end
end EV
namespace EV
open PySem L2
variable {G : SP}

def Cell.below (n : Nat) : Cell → Bool
  | .obj _ fs => fs.all fun p => match p.2 with
    | .c j => decide (j < n)
    | _ => true
  | _ => true
def closed (n : Nat) (S : Store) : Bool := (S.take n).all (Cell.below n)
/-- a call's end, for the caller -/
def fin (ρ : Env') (n : Nat) (r : R W) : R W := match r with
  | .ok (.d x) S => if closed n S = true then .ok (.d x) (S.take n) else .bad
  | .ok (.c k) S => if closed n S = true then (if k < n then .ok (.c k) (S.take n) else match S[k]? with
    | some (.lst true xs) => .ok (.c n) (S.take n ++ [.lst true xs])
    | _ => .bad) else .bad
  | .exn c fs ds _ S => if closed n S = true then .exn c fs ds ρ (S.take n) else .bad
  | .bad => .bad
section
variable {Fz : Addr → Prop} {α β : Nat → Addr} {S S' : Store} {H H' : Hp}
/-- what is frozen when the cells from n on (but those of ex) are let go -/
def letGo (Fz : Addr → Prop) (β : Nat → Addr) (n m : Nat) (ex : Nat → Prop) : Addr → Prop := fun a => Fz a ∨ ∃ j, n ≤ j ∧ j < m ∧ ¬ ex j ∧ a = β j
theorem CellOk.cut {Fz2 : Addr → Prop} {n : Nat} {a : Addr} {c : Cell} {m : Nat} (h : CellOk G Fz β m H a c) (hb : c.below n = true) (hF : ∀ b, Fz b → Fz2 b) (hF2 : Fz2 a → Fz a) : CellOk G Fz2 β n H a c := by
  have ex : Ext Fz H Fz2 H := ⟨hF, fun _ _ _ e => e⟩
  cases c with
  | lst b xs =>
    obtain ⟨vs, e, l, r, f1, f2⟩ := h
    exact ⟨vs, e, l, Reps.mono ex r, fun z q => f1 z (hF2 q), fun z => hF _ (f2 z)⟩
  | dK b xs =>
    obtain ⟨vs, e, l, r, f1, f2⟩ := h
    exact ⟨vs, e, l, Reps.mono ex r, fun z q => f1 z (hF2 q), fun z => hF _ (f2 z)⟩
  | dT b xs =>
    obtain ⟨vs, e, l, r, f1, f2⟩ := h
    exact ⟨vs, e, l, Reps.mono ex r, fun z q => f1 z (hF2 q), fun z => hF _ (f2 z)⟩
  | obj c fs =>
    obtain ⟨dx, us, e, l, k, r, f⟩ := h
    refine ⟨dx, us, e, l, k, ?_, fun q => f (hF2 q)⟩
    have hb : (fs.all fun p => match p.2 with
      | .c j => decide (j < n)
      | _ => true) = true := hb
    have all : ∀ w ∈ fs.map (·.2), ∀ j, w = .c j → j < n := by
      intro w hw j e
      obtain ⟨p, hp, rfl⟩ := List.mem_map.mp hw
      have z := List.all_eq_true.mp hb p hp
      rw [e] at z
      exact of_decide_eq_true z
    have go : ∀ {ws : List W} {vs : List V}, (∀ w ∈ ws, ∀ j, w = .c j → j < n) → RepWs G Fz β m H ws vs → RepWs G Fz2 β n H ws vs := by
      intro ws vs ha r
      induction r with
      | nil => exact .nil
      | @cons w v ws vs h t ih =>
        refine .cons ?_ (ih fun w hw => ha w (List.mem_cons_of_mem _ hw))
        cases w with
        | d x => exact Rep.mono ex h
        | c j => exact ⟨ha _ List.mem_cons_self j rfl, h.2⟩
    exact go all r
theorem CellOk.ren {β' : Nat → Addr} {n n' : Nat} {a : Addr} {c : Cell} (h : CellOk G Fz β n H a c) (k : ∀ i, i < n → β' i = β i) (hn : n ≤ n') : CellOk G Fz β' n' H a c := by
  cases c with
  | lst b xs => exact h
  | dK b xs => exact h
  | dT b xs => exact h
  | obj c fs =>
    obtain ⟨dx, us, e, l, q, r, f⟩ := h
    refine ⟨dx, us, e, l, q, Paired.mapP r fun w v z => ?_, f⟩
    cases w with
    | d x => exact z
    | c j => exact ⟨Nat.lt_of_lt_of_le z.1 hn, by rw [z.2, k j z.1]⟩
theorem cut_step {Fz0 : Addr → Prop} {α : Nat → Addr} {S : Store} {H : Hp} (s : Step Fz0 α S H Fz β S' H') (ex : Nat → Prop) : Step Fz0 α S H (letGo Fz β S.length S'.length ex) β (S'.take S.length) H' :=
  ⟨⟨fun a h => .inl (s.ext.fz a h), s.ext.at_⟩, s.at_, by have := s.len; rw [List.length_take]; omega, fun a o e n f k => by
    obtain ⟨e1, f1, k1⟩ := s.frame a o e n f k
    refine ⟨e1, fun z => z.elim f1 fun ⟨j, _, h2, _, h4⟩ => k1 j h2 h4.symm, fun j hj => k1 j ?_⟩
    rw [List.length_take] at hj
    omega⟩
/-- the cells from n on are let go -/
theorem cut_ok {Fz0 : Addr → Prop} {α : Nat → Addr} {S : Store} {H : Hp} (m0 : Sim G Fz0 α S H) (st : Step Fz0 α S H Fz β S' H') (m : Sim G Fz β S' H') (hc : closed S.length S' = true) (ex : Nat → Prop) :
    Sim G (letGo Fz β S.length S'.length ex) β (S'.take S.length) H' := by
  have hn := st.len
  have hpc := G.pcS (cut_step st ex) m0.pc
  generalize S.length = n at hn hc hpc ⊢
  have hl : (S'.take n).length = n := by simp; omega
  refine ⟨fun a h => ?_, fun k c e => ?_, fun i j hi hj e => m.inj i j (by omega) (by omega) e, m.tab, hpc⟩
  · rcases h with h | ⟨j, h1, h2, _, rfl⟩
    · exact m.fzH a h
    · obtain ⟨o, e, _, _, n1, _⟩ := cell_some (m.cell j S'[j] (by simp [h2]))
      exact ⟨o, e, n1⟩
  · have hk : k < n := by
      have := (List.getElem?_eq_some_iff.mp e).1
      omega
    rw [hl]
    have e' : S'[k]? = some c := by
      rw [List.getElem?_take_of_lt hk] at e
      exact e
    refine (m.cell k c e').cut (List.all_eq_true.mp hc c (List.mem_of_getElem? e)) (fun _ h => .inl h) fun h => ?_
    rcases h with h | ⟨j, h1, h2, _, h3⟩
    · exact h
    · exact absurd (m.inj k j (by omega) h2 h3) (by omega)
theorem letGo_rep {n m : Nat} {ex : Nat → Prop} {x : D} {v : V} (h : Rep G Fz H x v) : Rep G (letGo Fz β n m ex) H x v := Rep.mono ⟨fun _ h => .inl h, fun _ _ _ e => e⟩ h
/-- from a call's wishes to the caller's -/
theorem fin_post {ρ : Env'} {r : R W} {Q : VK} {E : XK} {EE : ET} (m0 : Sim G Fz α S H) (h : Post G Fz α S H (fin ρ S.length r) (fun Fz' β S' H' w => ∀ v, RepW G Fz' β S'.length H' w v → Q v H') EE)
    (hE : ∀ Fz' β S' H' cls d, Step Fz α S H Fz' β S' H' → EE Fz' β S' H' ρ cls d → E cls d H') :
    Post G Fz α S H r (fun Fz' β S' H' w => ∀ v, RepW G Fz' β S'.length H' w v → Q v H') (fun _ _ _ H' _ cls d => E cls d H') := by
  cases r with
  | bad => exact h
  | exn c fs ds ρ' S' =>
    intro Fz' β H' cls d st m e
    unfold fin at h
    dsimp only at h
    by_cases hc : closed S.length S' = true
    · rw [if_pos hc] at h
      have s2 := cut_step st (fun _ => False)
      refine hE _ β _ H' cls d s2 (h _ β H' cls d s2 (cut_ok m0 st m hc _) ?_)
      obtain ⟨e1, dd, us, e2, e3, e4⟩ := e
      exact ⟨e1, dd, us, e2, e3, fun i f hf => by
        obtain ⟨v, x, a1, a2, a3⟩ := e4 i f hf
        exact ⟨v, x, a1, a2, letGo_rep a3⟩⟩
    · rw [if_neg hc] at h
      exact h.elim
  | ok w S' =>
    intro Fz' β H' st m v rv
    cases w with
    | d x =>
      unfold fin at h
      dsimp only at h
      by_cases hc : closed S.length S' = true
      · rw [if_pos hc] at h
        exact h _ β H' (cut_step st (fun _ => False)) (cut_ok m0 st m hc _) v (letGo_rep rv)
      · rw [if_neg hc] at h
        exact h.elim
    | c k =>
      unfold fin at h
      dsimp only at h
      by_cases hc : closed S.length S' = true
      · rw [if_pos hc] at h
        obtain ⟨hk, rfl⟩ := rv
        by_cases hkn : k < S.length
        · rw [if_pos hkn] at h
          exact h _ β H' (cut_step st (fun _ => False)) (cut_ok m0 st m hc _) _ ⟨by simp; omega, rfl⟩
        · rw [if_neg hkn] at h
          cases q : S'[k]? with
          | none => rw [q] at h; exact h.elim
          | some c =>
            rw [q] at h
            cases c with
            | lst b xs =>
              cases b with
              | false => exact h.elim
              | true =>
                have hl : (S'.take S.length).length = S.length := by
                  have := st.len
                  simp
                  omega
                have m1 := cut_ok m0 st m hc (fun j => j = k)
                have s1 := cut_step st (fun j => j = k)
                obtain ⟨vs, a1, a2, a3, a4, a5⟩ := m.cell k _ q
                have nF : ¬ letGo Fz' β S.length S'.length (fun j => j = k) (β k) := fun z => by
                  rcases z with z | ⟨j, h1, h2, h3, h4⟩
                  · exact a4 rfl z
                  · exact h3 (m.inj j k h2 hk h4.symm)
                have sf : Step Fz α S H (letGo Fz' β S.length S'.length fun j => j = k) (setA β S.length (β k)) (S'.take S.length ++ [.lst true xs]) H' :=
                  ⟨s1.ext, fun j hj => (if_neg (Nat.ne_of_lt hj)).trans (st.at_ j hj), by simp; have := st.len; omega, fun a o e n f kk => by
                    obtain ⟨e1, f1, k1⟩ := s1.frame a o e n f kk
                    obtain ⟨_, _, k2⟩ := st.frame a o e n f kk
                    refine ⟨e1, f1, fun j hj z => ?_⟩
                    unfold setA at z
                    by_cases h1 : j = S.length
                    · rw [if_pos h1] at z
                      exact k2 k hk z
                    · rw [if_neg h1] at z
                      refine k1 j ?_ z
                      simp at hj ⊢
                      have := st.len
                      omega⟩
                refine h (letGo Fz' β S.length S'.length (fun j => j = k)) (setA β S.length (β k)) H' sf ⟨m1.fzH, fun j c e => ?_, fun i j hi hj e => ?_, m1.tab, G.pcS sf m0.pc⟩ _ ⟨by simp; have := st.len; omega, by rw [setA, if_pos rfl]⟩
                · by_cases hj : j < S.length
                  · rw [List.getElem?_append_left (by omega)] at e
                    have ok := m1.cell j c e
                    have ej : setA β S.length (β k) j = β j := if_neg (Nat.ne_of_lt hj)
                    rw [ej]
                    exact ok.ren (fun i hi => if_neg (by omega)) (by simp)
                  · have hj2 : j = S.length := by
                      have z := (List.getElem?_eq_some_iff.mp e).1
                      simp at z
                      omega
                    subst hj2
                    rw [List.getElem?_append_right (by omega), hl] at e
                    simp at e
                    subst e
                    have e1 : setA β S.length (β k) S.length = β k := if_pos rfl
                    rw [e1]
                    exact ⟨vs, a1, a2, Reps.mono ⟨fun _ h => .inl h, fun _ _ _ e => e⟩ a3, fun _ => nF, fun z => by cases z⟩
                · have hi2 : i < S.length + 1 := by simp at hi; omega
                  have hj2 : j < S.length + 1 := by simp at hj; omega
                  have sl := st.len
                  unfold setA at e
                  by_cases h1 : i = S.length
                  · by_cases h2 : j = S.length
                    · omega
                    · rw [if_pos h1, if_neg h2] at e
                      have := m.inj k j hk (by omega) e
                      omega
                  · by_cases h2 : j = S.length
                    · rw [if_neg h1, if_pos h2] at e
                      have := m.inj i k (by omega) hk e
                      omega
                    · rw [if_neg h1, if_neg h2] at e
                      exact m.inj i j (by omega) (by omega) e
            | dK b xs => exact h.elim
            | dT b xs => exact h.elim
            | obj c fs => exact h.elim
      · rw [if_neg hc] at h
        exact h.elim
end
/-- a def's promise: what is made of its arguments -/
def spF (G : SP) (np : Nat) (Φ : List W → Store → R W) : Sp := fun vs H Q E => ∃ Fz α S ws, Sim G Fz α S H ∧ RepWs G Fz α S.length H ws vs ∧ ws.length = np ∧
  Post G Fz α S H (Φ ws S) (fun Fz' β S' H' w => ∀ v, RepW G Fz' β S'.length H' w v → Q v H') (fun _ _ _ H' _ cls d => E cls d H')
theorem spF.len {np : Nat} {Φ : List W → Store → R W} {vs : List V} {H : Hp} {Q : VK} {E : XK} (h : spF G np Φ vs H Q E) : vs.length = np := by
  obtain ⟨Fz, α, S, ws, _, r, l, _⟩ := h
  rw [← l]
  exact (Paired.length r).symm
def cCall (np : Nat) (Φ : List W → Store → R W) (g : SmL) : Sm := fun ρ S => (g ρ S).bind fun ws S1 => if ws.length = np then fin ρ S1.length (Φ ws S1) else .bad
section
variable {X : Cx} {W : WX} {x : Str} {p pos : Pos} {e : Expr} {es : List Expr} {gs : SmL} {np k : Nat} {Φ : List EV.W → Store → R EV.W} {fd : FuncData} {ps : List Str} {f : Addr}
/-- what a call of the promise reads as -/
theorem rd_call {σ : L2.St} {H : Hp} {Q : VK} (h : RdE G W (cCall np Φ gs) σ H Q) : RdA G W gs σ H fun vs H1 => spF G np Φ vs H1 Q (WE W σ) := by
  obtain ⟨Fz, α, S, ρ, m, sl, q⟩ := h
  refine ⟨Fz, α, S, ρ, m, sl, (Post.bind q).mono fun F1 α1 S1 H1 ws st m1 q1 vs rs => ?_⟩
  by_cases hl : ws.length = np
  · rw [if_pos hl] at q1
    exact ⟨F1, α1, S1, ws, m1, rs, hl, fin_post m1 q1 fun Fz' β S' H' cls d st2 z => z σ ((sl.mono st).mono st2)⟩
  · rw [if_neg hl] at q1
    exact q1.elim
theorem ex_call (F : FnOk X.prog X.w X.K X.mg X.base (L2.CX X.prog X.w) k f fd ps (spF G np Φ)) (tk : Takes X W) (hr : Room k X.A) (hg : Gl X x) (hm : X.mg x = some (.ref f)) (hk : PySem.W.keepIn X.K (.ref f) = true) (hb : Binds X.K fd ps [])
    (ha : PA X (e :: es) (RdA G W gs)) (hdb : (x == ("__debug__" : Str)) = false) (he : starEach (e :: es) X.env = (false, eval e X.env) :: starEach es X.env) (hpl : (backTo pos (starEach es X.env)).any (·.1) = false) :
    PE X (.Call (.Name x p) (e :: es) [] pos) (RdE G W (cCall np Φ gs)) :=
  pe_le (pe_callS (E := fun σ => WE W σ) F hr hg hm hk hb (fun σ => passAt tk σ) ha hdb he hpl) fun σ H Q h => rd_call h
end
end EV
namespace EV
open PySem L2
variable {G : SP}

/-- the value of a name among names and values -/
def look2 (f : Str) : List Str → List D → Option D
  | g :: gs, d :: ds => if g = f then some d else look2 f gs ds
  | _, _ => none
def lookW (f : Str) : List (Str × W) → Option W
  | [] => none
  | (g, w) :: r => if g = f then some w else lookW f r
def putW (f : Str) (w : W) : List (Str × W) → List (Str × W)
  | [] => [(f, w)]
  | (g, x) :: r => if g = f then (g, w) :: r else (g, x) :: putW f w r
theorem lookup_if {f g : Str} {v : V} {r : List (Str × V)} : ((g, v) :: r).lookup f = if g = f then some v else r.lookup f := by
  by_cases h : g = f
  · subst h
    simp [List.lookup]
  · have e : (f == g) = false := by
      rw [beq_eq_false_iff_ne]
      exact fun z => h z.symm
    simp [List.lookup, e, h]
theorem look2_ok {Fz : Addr → Prop} {H : Hp} {f : Str} : ∀ {kvs : List (Str × V)} {ds : List D} {d : D}, Reps G Fz H ds (kvs.map (·.2)) → look2 f (kvs.map (·.1)) ds = some d → ∃ v, kvs.lookup f = some v ∧ Rep G Fz H d v
  | [], _, _, _, e => by simp [look2] at e
  | (g, u) :: r, [], _, _, e => by simp [look2] at e
  | (g, u) :: r, x :: ds, d, ⟨v, r', q, h, t⟩, e => by
    have q : u :: r.map (·.2) = v :: r' := q
    injection q with q1 q2
    subst q1 q2
    have e : (if g = f then some x else look2 f (r.map (·.1)) ds) = some d := e
    rw [lookup_if]
    by_cases hg : g = f
    · rw [if_pos hg] at e ⊢
      cases e
      exact ⟨u, rfl, h⟩
    · rw [if_neg hg] at e ⊢
      exact look2_ok t e
theorem lookW_ok {Fz : Addr → Prop} {α : Nat → Addr} {n : Nat} {H : Hp} {f : Str} : ∀ {fs : List (Str × W)} {us : List (Str × V)} {w : W}, fs.map (·.1) = us.map (·.1) → RepWs G Fz α n H (fs.map (·.2)) (us.map (·.2)) → lookW f fs = some w → ∃ v, us.lookup f = some v ∧ RepW G Fz α n H w v
  | [], _, _, _, _, e => by simp [lookW] at e
  | (g, y) :: r, [], _, k, _, _ => by simp at k
  | (g, y) :: r, (g', u) :: us, w, k, h, e => by
    simp only [List.map_cons, List.cons.injEq] at k
    obtain ⟨k1, k2⟩ := k
    subst k1
    have h : Paired (fun w v => RepW G Fz α n H w v) (y :: r.map (·.2)) (u :: us.map (·.2)) := h
    have e : (if g = f then some y else lookW f r) = some w := e
    rw [lookup_if]
    cases h with
    | cons h t =>
      by_cases hg : g = f
      · rw [if_pos hg] at e ⊢
        cases e
        exact ⟨u, rfl, h⟩
      · rw [if_neg hg] at e ⊢
        exact lookW_ok k2 t e
theorem putW_ok {Fz : Addr → Prop} {α : Nat → Addr} {n : Nat} {H : Hp} {f : Str} {w : W} {v : V} (r : RepW G Fz α n H w v) : ∀ {fs : List (Str × W)} {us : List (Str × V)}, fs.map (·.1) = us.map (·.1) → RepWs G Fz α n H (fs.map (·.2)) (us.map (·.2)) →
    (putW f w fs).map (·.1) = (putF f v us).map (·.1) ∧ RepWs G Fz α n H ((putW f w fs).map (·.2)) ((putF f v us).map (·.2))
  | [], [], _, _ => ⟨rfl, .cons r .nil⟩
  | [], _ :: _, k, _ => by simp at k
  | _ :: _, [], k, _ => by simp at k
  | (g, y) :: fs, (g', u) :: us, k, h => by
    simp only [List.map_cons, List.cons.injEq] at k
    obtain ⟨k1, k2⟩ := k
    subst k1
    have h : Paired (fun w v => RepW G Fz α n H w v) (y :: fs.map (·.2)) (u :: us.map (·.2)) := h
    cases h with
    | cons h t =>
      obtain ⟨i1, i2⟩ := putW_ok r k2 t
      show (List.map (·.1) (if g = f then (g, w) :: fs else (g, y) :: putW f w fs)) = List.map (·.1) (if g = f then (g, v) :: us else (g, u) :: putF f v us) ∧ RepWs G Fz α n H (List.map (·.2) (if g = f then (g, w) :: fs else (g, y) :: putW f w fs)) (List.map (·.2) (if g = f then (g, v) :: us else (g, u) :: putF f v us))
      by_cases hg : g = f
      · rw [if_pos hg, if_pos hg]
        exact ⟨by simp [k2], .cons r t⟩
      · rw [if_neg hg, if_neg hg]
        exact ⟨by simp [i1], .cons h i2⟩
/-- what is known of the classes: their fields' names -/
structure ClsOk (G : SP) (FT : Nat → List Str) : Prop where
  cl : ∀ c f, f ∈ FT c → Cls G.K (G.cls c) ∧ NoAttr G.K (G.cls c) f
def cFld (FT : Nat → List Str) (f : Str) (g : Sm) : Sm := fun ρ S => (g ρ S).bind fun w S1 => match w with
  | .d (.ins c fs ds) => if (FT c).contains f = true then (match look2 f fs ds with
    | some d => .ok (.d d) S1
    | none => .bad) else .bad
  | .c k => (match S1[k]? with
    | some (.obj c fs) => if (FT c).contains f = true then (match lookW f fs with
      | some w => .ok w S1
      | none => .bad) else .bad
    | _ => .bad)
  | _ => .bad
/-- e.f = value: the value first, then the instance, which is being made -/
def sFldW (FT : Nat → List Str) (f : Str) (g v : Sm) : SmS := fun ρ S => (v ρ S).bind fun w S1 => (g ρ S1).bind fun o S2 => match o with
  | .c k => (match S2[k]? with
    | some (.obj c fs) => if (FT c).contains f = true ∧ fs.length < 900 then .ok (.nx ρ) (S2.set k (.obj c (putW f w fs))) else .bad
    | _ => .bad)
  | _ => .bad
section
variable {X : Cx} {W : WX} {x m f : Str} {p apos pos tpos : Pos} {e o v : Expr} {es : List Expr} {g h : Sm} {gs : SmL} {np k c : Nat} {Φ : List EV.W → Store → R EV.W} {fd : FuncData} {ps : List Str} {fa : Addr} {FT : Nat → List Str}
theorem mem_of_contains {l : List Str} {f : Str} (h : l.contains f = true) : f ∈ l := by simpa using h
theorem ex_fld (hK : X.K = G.K) (C : ClsOk G FT) (he : PE X e (RdE G W g)) (hb : attributeBase e f X.env (eval e X.env) = eval e X.env) : PE X (.Attribute e f pos) (RdE G W (cFld FT f g)) :=
  pe_le (pe_fld he hb) fun σ H Q ⟨Fz, α, S, ρ, m, sl, q⟩ => ⟨Fz, α, S, ρ, m, sl, (Post.bind q).mono fun F1 α1 S1 H1 w st m1 q1 v r => by
    rw [hK]
    cases w with
    | d y =>
      cases y with
      | ins c fs ds =>
        dsimp only at q1
        by_cases hc : (FT c).contains f = true
        · rw [if_pos hc] at q1
          obtain ⟨a, dx, kvs, e1, f1, e2, e3, rs⟩ := r
          obtain ⟨c1, c2⟩ := C.cl c f (mem_of_contains hc)
          cases hl : look2 f fs ds with
          | none => rw [hl] at q1; exact q1.elim
          | some d =>
            rw [hl] at q1
            rw [e3] at hl
            obtain ⟨u, l, ru⟩ := look2_ok rs hl
            exact ⟨a, _, dx, kvs, u, e1, e2, c1, c2, l, q1.now m1 u ru⟩
        · rw [if_neg hc] at q1
          exact q1.elim
      | _ => exact q1.elim
    | c k =>
      dsimp only at q1
      obtain ⟨hk, rfl⟩ := r
      cases hs : S1[k]? with
      | none => rw [hs] at q1; exact q1.elim
      | some cell =>
        rw [hs] at q1
        cases cell with
        | obj c fs =>
          dsimp only at q1
          by_cases hc : (FT c).contains f = true
          · rw [if_pos hc] at q1
            obtain ⟨dx, us, e2, _, e3, rs, _⟩ := m1.cell k _ hs
            obtain ⟨c1, c2⟩ := C.cl c f (mem_of_contains hc)
            cases hl : lookW f fs with
            | none => rw [hl] at q1; exact q1.elim
            | some w =>
              rw [hl] at q1
              obtain ⟨u, l, ru⟩ := lookW_ok e3 rs hl
              exact ⟨_, _, dx, us, u, rfl, e2, c1, c2, l, q1.now m1 u ru⟩
          · rw [if_neg hc] at q1
            exact q1.elim
        | _ => exact q1.elim⟩
theorem xs_fld (hK : X.K = G.K) (C : ClsOk G FT) (ho : PE X o (RdE G W g)) (hv : PE X v (RdE G W h)) (hs : swapsWith v (some (.Attribute o f tpos)) pos.line X.env = pure false) : PS X (.Assign [.Attribute o f tpos] v pos) (RdS G W (sFldW FT f g h)) :=
  ps_le (ps_fld ho hv hs) fun D σ H ⟨Fz, α, S, ρ, m, sl, q⟩ => ⟨Fz, α, S, ρ, m, sl, (Post.bind q).mono fun F1 α1 S1 H1 w st m1 q1 y ry => ⟨F1, α1, S1, ρ, m1, sl.mono st, (Post.bind q1).mono fun F2 α2 S2 H2 ow st2 m2 q2 xv rx => by
    rw [hK]
    cases ow with
    | d z => exact q2.elim
    | c k =>
      dsimp only at q2
      obtain ⟨hk, rfl⟩ := rx
      cases hs : S2[k]? with
      | none => rw [hs] at q2; exact q2.elim
      | some cell =>
        rw [hs] at q2
        cases cell with
        | obj c fs =>
          dsimp only at q2
          by_cases hc : (FT c).contains f = true ∧ fs.length < 900
          · rw [if_pos hc] at q2
            obtain ⟨dx, us, e2, l0, e3, rs, nf⟩ := m2.cell k _ hs
            obtain ⟨c1, c2⟩ := C.cl c f (mem_of_contains hc.1)
            have hl : us.length = fs.length := by
              have := congrArg List.length e3
              simp at this
              omega
            refine ⟨_, _, dx, us, rfl, e2, c1, c2, by omega, ?_⟩
            obtain ⟨s3, m3⟩ := set_cell (c' := .obj c (putW f w fs)) (o := .ins (G.cls c) dx (putF f y us)) m2 hs nf fun s3 => by
              have z := putW_ok (f := f) (RepW.mono st2 ry) e3 rs
              refine ⟨dx, putF f y us, upd_same, ?_, z.1, ?_, nf⟩
              · have := length_putF f y us
                omega
              · exact RepWs.mono s3 z.2
            exact q2 F2 _ _ s3 m3 σ (((sl.mono st).mono st2).mono s3)
          · rw [if_neg hc] at q2
            exact q2.elim
        | _ => exact q2.elim⟩⟩
end
end EV
namespace EV
open PySem L2
variable {G : SP}

section
variable {X : Cx} {W : WX} {m x : Str} {p apos pos pos2 : Pos} {e o : Expr} {es : List Expr} {og : Sm} {gs : SmL} {np k c : Nat} {Φ : List EV.W → Store → R EV.W} {fd : FuncData} {ps : List Str} {C f : Addr} {CX : CXT} {sp : Sp} {E : L2.St → XK} {ta : TE} {t : TA}
/-- the fields of an instance made behind the n cells that stood, as values -/
def fldsD (n : Nat) (S : Store) : List (Str × EV.W) → Option (List D)
  | [] => some []
  | (_, .d x) :: r => (fldsD n S r).map (x :: ·)
  | (_, .c j) :: r => if n ≤ j then (match view S (.c j) with
    | some x => (fldsD n S r).map (x :: ·)
    | none => none) else none
/-- C(..), the instance as a value -/
def cMake (c : Nat) (np : Nat) (Φ : List EV.W → Store → R EV.W) (g : SmL) : Sm := fun ρ S => (g ρ S).bind fun ws S1 => if (EV.W.c S1.length :: ws).length = np then (match Φ (.c S1.length :: ws) (S1 ++ [.obj c []]) with
  | .ok (.d .non) S' => if closed S1.length S' = true then (match S'[S1.length]? with
    | some (.obj c' fs) => (match fldsD S1.length S' fs with
      | some ds => .ok (.d (.ins c' (fs.map (·.1)) ds)) (S'.take S1.length)
      | none => .bad)
    | _ => .bad) else .bad
  | .exn c fs ds _ S' => if closed S1.length S' = true then .exn c fs ds ρ (S'.take S1.length) else .bad
  | _ => .bad) else .bad
theorem new_any {Fz : Addr → Prop} {α : Nat → Addr} {S : Store} {H : Hp} (m : Sim G Fz α S H) {p : Addr} {o : HO} (hp : H p = none) : Step Fz α S H Fz α S (upd H p o) ∧ Sim G Fz α S (upd H p o) := by
  have st : Step Fz α S H Fz α S (upd H p o) := ⟨⟨fun _ h => h, fun a u f e => by
    rw [upd_ne (ne_of_none e hp)]
    exact e⟩, fun _ _ => rfl, Nat.le_refl _, fun a u e _ f k => ⟨by rw [upd_ne (ne_of_none e hp)]; exact e, f, k⟩⟩
  refine ⟨st, ⟨fun a h => ?_, fun k c e => ?_, m.inj, tabs_new m.tab hp, G.pcS st m.pc⟩⟩
  · obtain ⟨u, e, n⟩ := m.fzH a h
    exact ⟨u, by rw [upd_ne (ne_of_none e hp)]; exact e, n⟩
  · have hk : k < S.length := (List.getElem?_eq_some_iff.mp e).1
    exact (m.cell k c e).mono st (upd_ne (m.cellNe hp hk)) Iff.rfl
def tMakeX (C : Addr) (sp : Sp) (E : L2.St → XK) (t : TA) : TE := fun σ H Q => t σ H fun vs H1 => ∀ x dx, H1 x = none → H1 dx = none → dx ≠ x → sp (.ref x :: vs) (upd (upd H1 dx (.own x)) x (.ins C dx [])) (fun v H2 => v = .non ∧ Q (.ref x) H2) (E σ)
theorem pe_makeX (M : Mk X.K C f) (F : FnOk X.prog X.w X.K X.mg X.base CX k f fd ps sp) (hr : Room (k + 1) X.A) (hg : Gl X x) (hm : X.mg x = some (.ref C)) (hb : Binds X.K fd ps [])
    (hx : ∀ σ, PassesAt CX X σ (E σ)) (ha : PA X (e :: es) t) (hdb : (x == ("__debug__" : Str)) = false) (he : starEach (e :: es) X.env = (false, eval e X.env) :: starEach es X.env) (hpl : (backTo pos (starEach es X.env)).any (·.1) = false) :
    PE X (.Call (.Name x p) (e :: es) [] pos) (tMakeX C sp E t) := by
  refine ⟨fun pins s σ H Q I h => wpAny_Call_Name_kw (ld_glob I hg hm ?_ hdb)⟩
  refine PySem.W.callWith_K (h₀ := X.base) I.ok.mod.kin M.kp (thn (ha.run pos pins s σ H _ I h) fun us s1 z => ?_) he hpl
  obtain ⟨vs, H1, I1, r, q⟩ := z
  refine ⟨I1.kIn, ?_⟩
  show wpAny _ _ (call (.ref C) us) _ _ _
  have hq := q (s1.heap.objs.size + 1) s1.heap.objs.size (I1.hok.fresh (Nat.le_succ _)) (I1.hok.fresh (Nat.le_refl _)) (Nat.ne_of_lt (Nat.lt_succ_self _))
  have I2 := Inv.made (C := C) I1
  have r2 : Vals (V.ref (s1.heap.objs.size + 1) :: vs) (Value.ref (s1.heap.objs.size + 1) :: us) := .cons rfl r
  have hl : (Value.ref (s1.heap.objs.size + 1) :: us).length = ps.length := (Paired.length r2).symm.trans (F.len _ _ _ _ hq)
  have bd := hb _ (Value.ref (s1.heap.objs.size + 1) :: us) I2.kIn (by rw [List.append_nil]; exact hl)
  rw [List.append_nil] at bd
  refine wpAny_call (make_map (f := f) I1.kIn M.makes M.init (beq_iff_eq.mp M.fn) (codeAny_mono (F.run _ X.stack _ _ ⟨Value.ref (s1.heap.objs.size + 1) :: us, []⟩ _ _ _ (E σ) (hr.make C us []) (I2.env0.make C us []) bd r2 hq) fun r s' hq' => ?_))
  cases r with
  | error e => exact hx σ pins _ _ e s' I2 hq'
  | ok fl =>
    cases fl with
    | ret u =>
      obtain ⟨v, H', I3, rv, ev, q3⟩ := I2.after hq'
      subst ev
      exact ⟨rv, ⟨V.ref (s1.heap.objs.size + 1), H', I3, rfl, q3⟩⟩
    | next => exact hq'.elim
    | brk => exact hq'.elim
    | cont => exact hq'.elim
theorem fldsD_ok {Fz : Addr → Prop} {β : Nat → Addr} {S' : Store} {H' : Hp} (m : Sim G Fz β S' H') {n : Nat} : ∀ {fs : List (Str × EV.W)} {us : List (Str × V)} {ds : List D}, fldsD n S' fs = some ds → RepWs G Fz β S'.length H' (fs.map (·.2)) (us.map (·.2)) → fs.map (·.1) = us.map (·.1) →
    Reps G (letGo Fz β n S'.length fun _ => False) H' ds (us.map (·.2))
  | [], [], _, e, _, _ => by
    cases e
    exact rfl
  | [], _ :: _, _, _, _, k => by simp at k
  | _ :: _, [], _, _, _, k => by simp at k
  | (g, w) :: fs, (g', u) :: us, ds, e, r, k => by
    have r : Paired (fun w v => RepW G Fz β S'.length H' w v) (w :: fs.map (·.2)) (u :: us.map (·.2)) := r
    simp only [List.map_cons, List.cons.injEq] at k
    cases r with
    | cons h t =>
      cases w with
      | d y =>
        have e : (fldsD n S' fs).map (y :: ·) = some ds := e
        obtain ⟨ds', e1, rfl⟩ := Option.map_eq_some_iff.mp e
        exact Reps.cons (letGo_rep h) (fldsD_ok m e1 t k.2)
      | c j =>
        have e : (if n ≤ j then (match view S' (.c j) with
          | some x => (fldsD n S' fs).map (x :: ·)
          | none => none) else none) = some ds := e
        by_cases hj : n ≤ j
        · rw [if_pos hj] at e
          cases hv : view S' (.c j) with
          | none => rw [hv] at e; cases e
          | some x =>
            rw [hv] at e
            obtain ⟨ds', e1, rfl⟩ := Option.map_eq_some_iff.mp e
            refine Reps.cons ?_ (fldsD_ok m e1 t k.2)
            obtain ⟨hl, rfl⟩ := h
            have fz : letGo Fz β n S'.length (fun _ => False) (β j) := .inr ⟨j, hj, hl, id, rfl⟩
            unfold view at hv
            dsimp only at hv
            cases hs : S'[j]? with
            | none => rw [hs] at hv; cases hv
            | some cell =>
              rw [hs] at hv
              cases cell with
              | lst b xs =>
                cases hv
                obtain ⟨vs, a1, a2, a3, _, _⟩ := m.cell j _ hs
                exact ⟨_, vs, rfl, .inl ⟨fz, .inl a1⟩, a2, Reps.mono ⟨fun _ h => .inl h, fun _ _ _ e => e⟩ a3⟩
              | dK b xs =>
                cases hv
                obtain ⟨vs, a1, a2, a3, _, _⟩ := m.cell j _ hs
                exact ⟨_, vs, rfl, fz, a1, a2, Reps.mono ⟨fun _ h => .inl h, fun _ _ _ e => e⟩ a3⟩
              | dT b xs =>
                cases hv
                obtain ⟨vs, a1, a2, a3, _, _⟩ := m.cell j _ hs
                exact ⟨_, vs, rfl, fz, a1, a2, Reps.mono ⟨fun _ h => .inl h, fun _ _ _ e => e⟩ a3⟩
              | obj c fs => cases hv
        · rw [if_neg hj] at e
          cases e
theorem ex_make (M : Mk X.K (G.cls c) f) (F : FnOk X.prog X.w X.K X.mg X.base (L2.CX X.prog X.w) k f fd ps (spF G np Φ)) (tk : Takes X W) (hr : Room (k + 1) X.A) (hg : Gl X x) (hm : X.mg x = some (.ref (G.cls c))) (hb : Binds X.K fd ps [])
    (ha : PA X (e :: es) (RdA G W gs)) (hdb : (x == ("__debug__" : Str)) = false) (he : starEach (e :: es) X.env = (false, eval e X.env) :: starEach es X.env) (hpl : (backTo pos (starEach es X.env)).any (·.1) = false) :
    PE X (.Call (.Name x p) (e :: es) [] pos) (RdE G W (cMake c np Φ gs)) :=
  pe_le (pe_makeX (E := fun σ => WE W σ) M F hr hg hm hb (fun σ => passAt tk σ) ha hdb he hpl) fun σ H Q ⟨Fz, α, S, ρ, m0, sl, q⟩ => ⟨Fz, α, S, ρ, m0, sl, (Post.bind q).mono fun F1 α1 S1 H1 ws st m1 q1 vs rs a dx ha hd hne => by
    by_cases hl : (EV.W.c S1.length :: ws).length = np
    · rw [if_pos hl] at q1
      obtain ⟨s2, m2⟩ := new_any (o := .own a) m1 hd
      have ha2 : (upd H1 dx (.own a)) a = none := by
        rw [upd_ne (Ne.symm hne)]
        exact ha
      obtain ⟨s3, m3⟩ := new_cell (o := .ins (G.cls c) dx []) (c := .obj c []) m2 ha2 (fun _ z => by cases z) fun st => ⟨dx, [], upd_same, Nat.zero_le _, rfl, .nil, m2.free ha2⟩
      have s13 := s2.trans s3
      have eβ : setA α1 S1.length a S1.length = a := if_pos rfl
      refine ⟨F1, _, _, EV.W.c S1.length :: ws, m3, .cons ⟨by simp, by rw [eβ]⟩ (RepWs.mono s13 rs), hl, ?_⟩
      cases hΦ : Φ (.c S1.length :: ws) (S1 ++ [.obj c []]) with
      | bad => rw [hΦ] at q1; exact q1.elim
      | exn c2 fs2 ds2 ρ2 S' =>
        rw [hΦ] at q1
        intro Fz' β H' cls d st4 m4 e4
        dsimp only at q1
        by_cases hc : closed S1.length S' = true
        · rw [if_pos hc] at q1
          have s14 := s13.trans st4
          refine q1 _ β H' cls d (cut_step s14 fun _ => False) (cut_ok m1 s14 m4 hc _) ?_ σ ((sl.mono st).mono (cut_step s14 fun _ => False))
          obtain ⟨e1, dd, us, e2, e3, e4⟩ := e4
          exact ⟨e1, dd, us, e2, e3, fun i f hf => by
            obtain ⟨v, x, a1, a2, a3⟩ := e4 i f hf
            exact ⟨v, x, a1, a2, letGo_rep a3⟩⟩
        · rw [if_neg hc] at q1
          exact q1.elim
      | ok w S' =>
        rw [hΦ] at q1
        intro Fz' β H' st4 m4 v rv
        cases w with
        | c j => exact q1.elim
        | d y =>
          cases y with
          | non =>
            refine ⟨rv, ?_⟩
            dsimp only at q1
            by_cases hc : closed S1.length S' = true
            · rw [if_pos hc] at q1
              have s14 := s13.trans st4
              cases hs : S'[S1.length]? with
              | none => rw [hs] at q1; exact q1.elim
              | some cell =>
                rw [hs] at q1
                cases cell with
                | obj c' fs =>
                  dsimp only at q1
                  cases hf : fldsD S1.length S' fs with
                  | none => rw [hf] at q1; exact q1.elim
                  | some ds =>
                    rw [hf] at q1
                    obtain ⟨dx', us, a1, a2, a3, a4, a5⟩ := m4.cell _ _ hs
                    have hβ : β S1.length = a := by
                      rw [st4.at_ S1.length (by simp), eβ]
                    have hlt := (List.getElem?_eq_some_iff.mp hs).1
                    refine q1 _ β H' (cut_step s14 fun _ => False) (cut_ok m1 s14 m4 hc _) _ ⟨a, dx', us, rfl, .inr ⟨_, Nat.le_refl _, hlt, id, hβ.symm⟩, by rw [← hβ]; exact a1, a3, fldsD_ok m4 hf a4 a3⟩
                | _ => exact q1.elim
            · rw [if_neg hc] at q1
              exact q1.elim
          | _ => exact q1.elim
    · rw [if_neg hl] at q1
      exact q1.elim⟩
end
end EV
namespace EV
open PySem L2
variable {G : SP}

/-- J yields the values ds, one after the other, from whatever state comes behind this one -/
def Yld (G : SP) (Fz : Addr → Prop) (β : Nat → Addr) (S : Store) (H : Hp) (J : It) (ds : List D) : Prop :=
  ∀ (i : Nat) Fz1 β1 S1 H1, Ext Fz H Fz1 H1 → Sim G Fz1 β1 S1 H1 →
    (∀ d, ds[i]? = some d → J.go i H1 ∧ ∀ x H2, J.yld i H1 x H2 → ∃ Fz2, Step Fz1 β1 S1 H1 Fz2 β1 S1 H2 ∧ Sim G Fz2 β1 S1 H2 ∧ Rep G Fz2 H2 d x) ∧ (ds.length ≤ i → J.stop i H1)
def RdI (G : SP) (W : WX) (f : SmI) : TI := fun σ H R => ∃ Fz α S ρ, Sim G Fz α S H ∧ Slots G Fz α S.length H σ ρ ∧ Post G Fz α S H (f ρ S) (fun F' β S' H' ds => ∀ J, Yld G F' β S' H' J ds → R J H') (EW G W)
/-- the items of a value that is walked -/
def items : D → Option (List D)
  | .lst xs => some xs
  | .tup xs => some xs
  | _ => none
def cIter (f : Sm) : SmI := fun ρ S => (f ρ S).bind fun w S1 => match frz S1 w with
  | some (d, S2) => (match items d with
    | some xs => .ok xs S2
    | none => .bad)
  | none => .bad
/-- the ints from lo on, n of them -/
def upto (lo : Int) (n : Nat) : List D := (List.range n).map fun (i : Nat) => D.int (lo + i)
theorem upto_get {lo : Int} {n i : Nat} {d : D} (h : (upto lo n)[i]? = some d) : i < n ∧ d = .int (lo + i) := by
  unfold upto at h
  rw [List.getElem?_map] at h
  by_cases hi : i < n
  · rw [List.getElem?_range hi] at h
    exact ⟨hi, (Option.some.inj h).symm⟩
  · rw [List.getElem?_eq_none (by simpa using hi)] at h
    cases h
theorem upto_length {lo : Int} {n : Nat} : (upto lo n).length = n := by simp [upto]
def cRange1 (g : SmL) : SmI := fun ρ S => (g ρ S).bind fun ws S1 => match ws with
  | [.d (.int j)] => if j ≤ 16777216 ∧ -16777216 ≤ j then .ok (upto 0 j.toNat) S1 else .bad
  | _ => .bad
def cRange2 (g : SmL) : SmI := fun ρ S => (g ρ S).bind fun ws S1 => match ws with
  | [.d (.int i), .d (.int j)] => if (j ≤ 16777216 ∧ -16777216 ≤ j) ∧ (i ≤ 16777216 ∧ -16777216 ≤ i) then .ok (upto i (j - i).toNat) S1 else .bad
  | _ => .bad
theorem vals_of1 {Fz : Addr → Prop} {α : Nat → Addr} {n : Nat} {H : Hp} {w : W} {vs : List V} (h : RepWs G Fz α n H [w] vs) : ∃ v, vs = [v] ∧ RepW G Fz α n H w v := by
  cases h with
  | cons h t =>
    cases t
    exact ⟨_, rfl, h⟩
theorem vals_of2 {Fz : Addr → Prop} {α : Nat → Addr} {n : Nat} {H : Hp} {w w2 : W} {vs : List V} (h : RepWs G Fz α n H [w, w2] vs) : ∃ v v2, vs = [v, v2] ∧ RepW G Fz α n H w v ∧ RepW G Fz α n H w2 v2 := by
  cases h with
  | cons h t =>
    obtain ⟨v, rfl, h2⟩ := vals_of1 t
    exact ⟨_, _, rfl, h, h2⟩
section
variable {X : Cx} {W : WX} {e a b tg iter c elt : Expr} {f t : Sm} {gs : SmL} {p pos : Pos}
/-- a list or a tuple that is frozen yields its items -/
theorem yld_lst {Fz : Addr → Prop} {β : Nat → Addr} {S : Store} {H : Hp} {ds : List D} {a : Addr} {vs : List V} (h : (Fz a ∧ Rd H a (.lst vs)) ∨ KLst G.K a vs) (r : Reps G Fz H ds vs) : Yld G Fz β S H (Itl G.K a) ds := by
  intro i Fz1 β1 S1 H1 st m
  have hq : SqL G.K H1 a vs := h.elim (fun z => .inl (st.rd z.1 z.2)) .inr
  refine ⟨fun d hd => ?_, fun hi => ⟨vs, hq, by rw [← r.length]; exact hi⟩⟩
  obtain ⟨v, hv, rv⟩ := r.get hd
  refine ⟨⟨vs, v, hq, hv⟩, fun x H2 ⟨e, y⟩ => ?_⟩
  subst e
  have := y vs hq
  rw [hv] at this
  cases this
  exact ⟨Fz1, Step.refl, m, Rep.mono st rv⟩
theorem yld_range {Fz : Addr → Prop} {β : Nat → Addr} {S : Store} {H : Hp} {lo : Int} {n : Nat} : Yld G Fz β S H (Itr lo n) (upto lo n) := by
  intro i Fz1 β1 S1 H1 st m
  refine ⟨fun d hd => ?_, fun hi => by rw [upto_length] at hi; exact hi⟩
  obtain ⟨hi, rfl⟩ := upto_get hd
  exact ⟨hi, fun x H2 ⟨e, y⟩ => by
    subst e
    exact ⟨Fz1, Step.refl, m, y⟩⟩
theorem xi_range1 (hg : Gl X "range") (hm : X.mg "range" = none) (ha : PA X [a] (RdA G W gs)) (hs : starEach [a] X.env = [(false, eval a X.env)]) : PI X tg (.Call (.Name "range" p) [a] [] pos) (RdI G W (cRange1 gs)) :=
  ⟨fun pins s σ H R I ⟨Fz, α, S, ρ, m, sl, q⟩ => (pi_range1 hg hm ha hs).run pins s σ H R I ⟨Fz, α, S, ρ, m, sl, (Post.bind q).mono fun F1 α1 S1 H1 ws st m1 q1 vs rs => by
    split at q1
    · obtain ⟨v, rfl, r⟩ := vals_of1 rs
      rename_i j
      by_cases hj : j ≤ 16777216 ∧ -16777216 ≤ j
      · rw [if_pos hj] at q1
        exact ⟨j, by rw [show v = .int j from r], by omega, by omega, q1.now m1 _ yld_range⟩
      · rw [if_neg hj] at q1
        exact q1.elim
    · exact q1.elim⟩⟩
theorem xi_range2 (hg : Gl X "range") (hm : X.mg "range" = none) (ha : PA X [a, b] (RdA G W gs)) (hs : starEach [a, b] X.env = [(false, eval a X.env), (false, eval b X.env)]) (hs2 : starEach [b] X.env = [(false, eval b X.env)]) :
    PI X tg (.Call (.Name "range" p) [a, b] [] pos) (RdI G W (cRange2 gs)) :=
  ⟨fun pins s σ H R I ⟨Fz, α, S, ρ, m, sl, q⟩ => (pi_range2 hg hm ha hs hs2).run pins s σ H R I ⟨Fz, α, S, ρ, m, sl, (Post.bind q).mono fun F1 α1 S1 H1 ws st m1 q1 vs rs => by
    split at q1
    · obtain ⟨v, u, rfl, r1, r2⟩ := vals_of2 rs
      rename_i i j
      by_cases hj : (j ≤ 16777216 ∧ -16777216 ≤ j) ∧ (i ≤ 16777216 ∧ -16777216 ≤ i)
      · rw [if_pos hj] at q1
        exact ⟨i, j, by rw [show v = .int i from r1, show u = .int j from r2], ⟨by omega, by omega, by omega, by omega⟩, q1.now m1 _ yld_range⟩
      · rw [if_neg hj] at q1
        exact q1.elim
    · exact q1.elim⟩⟩
theorem yld_tup {Fz : Addr → Prop} {β : Nat → Addr} {S : Store} {H : Hp} {ds : List D} {a : Addr} {vs : List V} (h : (Fz a ∧ TupF H a vs) ∨ KTup G.K a vs) (r : Reps G Fz H ds vs) : Yld G Fz β S H (Itt G.K a) ds := by
  intro i Fz1 β1 S1 H1 st m
  have hq : SqT G.K H1 a vs := h.elim (fun z => .inl (st.rd z.1 z.2.rd)) KTup.sq
  refine ⟨fun d hd => ?_, fun hi => ⟨vs, hq, by rw [← r.length]; exact hi⟩⟩
  obtain ⟨v, hv, rv⟩ := r.get hd
  refine ⟨⟨vs, v, hq, hv⟩, fun x H2 ⟨e, y⟩ => ?_⟩
  subst e
  have := y vs hq
  rw [hv] at this
  cases this
  exact ⟨Fz1, Step.refl, m, Rep.mono st rv⟩
theorem rep_sqT {Fz : Addr → Prop} {H : Hp} {ds : List D} {v : V} (h : Rep G Fz H (.tup ds) v) : ∃ a vs, v = .ref a ∧ SqT G.K H a vs ∧ Reps G Fz H ds vs ∧ vs.length ≤ 16777216 := by
  obtain ⟨a, vs, e, z, l, r⟩ := h
  exact ⟨a, vs, e, z.elim (fun z => .inl z.2.rd) KTup.sq, r, l⟩
/-- an expression whose value is walked: a list or a tuple -/
theorem xi_iter (hK : X.K = G.K) (he : PE X e (RdE G W f)) : PI X tg e (RdI G W (cIter f)) := by
  refine ⟨fun pins s σ H R I ⟨Fz, α, S, ρ, m, sl, q⟩ => ?_⟩
  unfold cIter at q
  cases e1 : f ρ S with
  | bad =>
    rw [e1] at q
    exact q.elim
  | exn c fs ds ρ2 S2 =>
    rw [e1] at q
    exact (pi_list he).run pins s σ H R I ⟨Fz, α, S, ρ, m, sl, by rw [e1]; exact q⟩
  | ok w S1 =>
    rw [e1, EV.R.bind_ok] at q
    cases e2 : frz S1 w with
    | none => rw [e2] at q; exact q.elim
    | some pr =>
      obtain ⟨d, S2⟩ := pr
      rw [e2] at q
      cases d with
      | lst xs =>
        refine (pi_list he).run pins s σ H R I ⟨Fz, α, S, ρ, m, sl, by
          rw [e1]
          intro F1 β H1 st m1 v r
          obtain ⟨F2, s2, m2, r2⟩ := frz_ok m1 e2 r
          rw [hK]
          obtain ⟨a, vs, ev, hq, rs, hl⟩ := r2
          exact ⟨a, ev, ⟨vs, hq.elim (fun z => .inl z.2) .inr⟩, q F2 β H1 (st.trans s2) m2 _ (yld_lst hq hl)⟩⟩
      | tup xs =>
        refine (pi_tup he).run pins s σ H R I ⟨Fz, α, S, ρ, m, sl, by
          rw [e1]
          intro F1 β H1 st m1 v r
          obtain ⟨F2, s2, m2, r2⟩ := frz_ok m1 e2 r
          rw [hK]
          obtain ⟨a, vs, ev, hq, rs, hl⟩ := r2
          exact ⟨a, ev, ⟨vs, hq.elim (fun z => .inl z.2.rd) KTup.sq⟩, q F2 β H1 (st.trans s2) m2 _ (yld_tup hq hl)⟩⟩
      | _ => exact q.elim
end

/-- what a target does to the slots -/
inductive Tg where
  | one (i : Nat) | many (ts : List Tg)
mutual
def Tg.put : Tg → D → Env' → Option Env'
  | .one i, d, ρ => some (ρ.set i (some (.d d)))
  | .many ts, d, ρ => match d with
    | .tup ds => Tg.puts ts ds ρ
    | .pr x y => Tg.puts ts [x, y] ρ
    | _ => none
def Tg.puts : List Tg → List D → Env' → Option Env'
  | [], [], ρ => some ρ
  | t :: ts, d :: ds, ρ => match Tg.put t d ρ with
    | some ρ1 => Tg.puts ts ds ρ1
    | none => none
  | _, _, _ => none
end
mutual
def Tg.slots : Tg → List Nat
  | .one i => [i]
  | .many ts => Tg.slotsL ts
def Tg.slotsL : List Tg → List Nat
  | [] => []
  | t :: ts => Tg.slots t ++ Tg.slotsL ts
end
/-- two rows of slots that are alike but at these -/
def Agree (l : List Nat) (σ σ' : L2.St) : Prop := ∀ vs : List Nat, (∀ i ∈ l, i ∈ vs) → wipe σ' vs = wipe σ vs
theorem wipe_set {σ : L2.St} {i : Nat} {o : Option V} : ∀ {vs : List Nat}, i ∈ vs → wipe (σ.set i o) vs = wipe σ vs
  | [], h => by cases h
  | v :: vs, h => by
    show (wipe (σ.set i o) vs).set v none = (wipe σ vs).set v none
    by_cases hi : i ∈ vs
    · rw [wipe_set hi]
    · have hv : v = i := by
        rcases List.mem_cons.mp h with e | e
        · exact e.symm
        · exact absurd e hi
      subst hv
      have : ∀ {vs : List Nat}, v ∉ vs → wipe (σ.set v o) vs = (wipe σ vs).set v o := by
        intro vs
        induction vs with
        | nil => intro _; rfl
        | cons u vs ih =>
          intro hu
          rw [List.mem_cons, not_or] at hu
          show (wipe (σ.set v o) vs).set u none = ((wipe σ vs).set u none).set v o
          rw [ih hu.2, List.set_comm _ _ hu.1]
      rw [this hi, List.set_set]
/-- a target's reading -/
def RdG (G : SP) (t : Tg) : TG := fun v σ H Q => ∃ Fz α S ρ d ρ', Sim G Fz α S H ∧ Slots G Fz α S.length H σ ρ ∧ Rep G Fz H d v ∧ t.put d ρ = some ρ' ∧ ∀ σ', Slots G Fz α S.length H σ' ρ' → Agree t.slots σ σ' → Q σ' H
def RdGs (G : SP) (ts : List Tg) : TGs := fun vs σ H Q => ∃ Fz α S ρ ds ρ', Sim G Fz α S H ∧ Slots G Fz α S.length H σ ρ ∧ Reps G Fz H ds vs ∧ Tg.puts ts ds ρ = some ρ' ∧ ∀ σ', Slots G Fz α S.length H σ' ρ' → Agree (Tg.slotsL ts) σ σ' → Q σ' H
theorem pg_le {X : Cx} {e : Expr} {t t' : TG} (h : PG X e t) (k : ∀ v σ H Q, t' v σ H Q → t v σ H Q) : PG X e t' := ⟨fun pins s σ H v u Q I r q => h.run pins s σ H v u Q I r (k _ _ _ _ q)⟩
theorem pgs_le {X : Cx} {e : List Expr} {t t' : TGs} (h : PGs X e t) (k : ∀ v σ H Q, t' v σ H Q → t v σ H Q) : PGs X e t' := ⟨fun pins s σ H v u Q I r q => h.run pins s σ H v u Q I r (k _ _ _ _ q)⟩
section
variable {X : Cx} {e : Expr} {es : List Expr} {t : Tg} {ts : List Tg} {pos : Pos}
theorem xg_name {i : Nat} {x : Str} (hN : X.N.Nodup) (hi : X.N[i]? = some x) (hx : Loc X.env.scope x) (hps : ∀ σ o, G.ps σ → G.ps (σ.set i o)) (hf : X.fn x = true ∨ X.env.scope.names.lookup x = some .local) : PG X (.Name x pos) (RdG G (.one i)) :=
  pg_le (pg_name hN hi hx hf) fun v σ H Q ⟨Fz, α, S, ρ, d, ρ', m, sl, r, e, q⟩ => by
    cases e
    exact q _ (sl.set (w := .d d) hps r) fun vs h => wipe_set (h i (List.mem_singleton.mpr rfl))
theorem xgs_nil : PGs X [] (RdGs G []) := pgs_le pgs_nil fun vs σ H Q ⟨Fz, α, S, ρ, ds, ρ', m, sl, r, e, q⟩ => by
  cases ds with
  | nil =>
    cases e
    exact ⟨r, q _ sl fun _ _ => rfl⟩
  | cons d ds => cases e
theorem xgs_cons (h1 : PG X e (RdG G t)) (h2 : PGs X es (RdGs G ts)) (hs : (assignEach (e :: es) X.env).map (·.2) = assign e X.env :: (assignEach es X.env).map (·.2)) : PGs X (e :: es) (RdGs G (t :: ts)) :=
  pgs_le (pgs_cons h1 h2 hs) fun vs σ H Q ⟨Fz, α, S, ρ, ds, ρ', m, sl, r, e, q⟩ => by
    cases ds with
    | nil => cases e
    | cons d ds =>
      obtain ⟨v, r', ev, hv, hr⟩ := r
      have e : (match Tg.put t d ρ with
        | some ρ1 => Tg.puts ts ds ρ1
        | none => none) = some ρ' := e
      cases e1 : t.put d ρ with
      | none => rw [e1] at e; cases e
      | some ρ1 =>
        rw [e1] at e
        exact ⟨v, r', ev, Fz, α, S, ρ, d, ρ1, m, sl, hv, e1, fun σ1 sl1 a1 => ⟨Fz, α, S, ρ1, ds, ρ', m, sl1, hr, e, fun σ2 sl2 a2 => q σ2 sl2 fun vs h =>
          (a2 vs fun i hi => h i (List.mem_append_right _ hi)).trans (a1 vs fun i hi => h i (List.mem_append_left _ hi))⟩⟩
theorem puts_length : ∀ {ts : List Tg} {ds : List D} {ρ ρ' : Env'}, Tg.puts ts ds ρ = some ρ' → ds.length = ts.length
  | [], [], _, _, _ => rfl
  | [], _ :: _, _, _, e => by cases e
  | _ :: _, [], _, _, e => by cases e
  | t :: ts, d :: ds, ρ, ρ', e => by
    have e : (match Tg.put t d ρ with
      | some ρ1 => Tg.puts ts ds ρ1
      | none => none) = some ρ' := e
    cases e1 : t.put d ρ with
    | none => rw [e1] at e; cases e
    | some ρ1 =>
      rw [e1] at e
      simp [puts_length e]
theorem xg_tup {k n : Nat} (hK : X.K = G.K) (hc : X.calm = true) (h : PGs X es (RdGs G ts)) (hn : (assignEach es X.env).length = n) (hl : ts.length = n) (hst : (assignEach es X.env).findIdx? (·.1) = none) : PG X (.Tuple es k pos) (RdG G (.many ts)) :=
  pg_le (pg_tup hc h hn hst) fun v σ H Q ⟨Fz, α, S, ρ, d, ρ', m, sl, r, e, q⟩ => by
    cases d with
    | tup ds =>
      obtain ⟨a, vs, ev, hq, rs, _⟩ := rep_sqT r
      have e : Tg.puts ts ds ρ = some ρ' := e
      rw [hK]
      exact ⟨a, vs, ev, hq, by rw [← rs.length, puts_length e, hl], Fz, α, S, ρ, ds, ρ', m, sl, rs, e, q⟩
    | pr x y =>
      obtain ⟨a, vx, vy, ev, _, h, rx, ry⟩ := r
      have e : Tg.puts ts [x, y] ρ = some ρ' := e
      rw [hK]
      exact ⟨a, [vx, vy], ev, .inl h, by rw [show [vx, vy].length = [x, y].length from rfl, puts_length e, hl], Fz, α, S, ρ, [x, y], ρ', m, sl, Reps.cons rx (Reps.cons ry rfl), e, q⟩
    | _ => cases e
end

/-- the turns of a for -/
def forL (t : Tg) (b : SmS) : List D → SmS
  | [], ρ, S => .ok (.nx ρ) S
  | d :: ds, ρ, S => match t.put d ρ with
    | none => .bad
    | some ρ1 => (b ρ1 S).bind fun r S1 => match r with
      | .nx ρ2 => forL t b ds ρ2 S1
      | .ct ρ2 => forL t b ds ρ2 S1
      | .bk ρ2 => .ok (.nx ρ2) S1
      | .rt w => .ok (.rt w) S1
def sFor (t : Tg) (i : SmI) (b : SmS) : SmS := fun ρ S => (i ρ S).bind fun ds S1 => forL t b ds ρ S1
/-- the turns of a while, at most n -/
def whileL (c : Sm) (b : SmS) : Nat → SmS
  | 0, _, _ => .bad
  | n + 1, ρ, S => (toT c ρ S).bind fun k S1 => if k = true then ((b ρ S1).bind fun r S2 => match r with
      | .nx ρ2 => whileL c b n ρ2 S2
      | .ct ρ2 => whileL c b n ρ2 S2
      | .bk ρ2 => .ok (.nx ρ2) S2
      | .rt w => .ok (.rt w) S2) else .ok (.nx ρ) S1
section
variable {X : Cx} {W : WX} {e a c tg iter : Expr} {body : List Stmt} {t : Tg} {i : SmI} {b : SmS} {cs : Sm} {pos : Pos}
theorem xs_for (hp : PassesOwn (model X.prog X.w) X.A X.env X.xe) (hc : X.calm = true) (hi : PI X tg iter (RdI G W i)) (hg : PG X tg (RdG G t)) (hb : PSs X body (RdS G W b)) (hs : ∀ x, foldedSetIterable iter X.env x = pure x) :
    PS X (.For tg iter body [] pos) (RdS G W (sFor t i b)) :=
  ps_le (ps_for hp hc hi hg hb hs) fun D σ H ⟨Fz, α, S, ρ, m, sl, q⟩ => ⟨Fz, α, S, ρ, m, sl, (Post.bind q).mono fun F1 α1 S1 H1 ds st m1 q1 J hJ => by
    refine ⟨fun j n σ' H' => n = ds.length - j ∧ ∃ F2 α2 S2 ρ2, Step F1 α1 S1 H1 F2 α2 S2 H' ∧ Sim G F2 α2 S2 H' ∧ Slots G F2 α2 S2.length H' σ' ρ2 ∧ Post G F2 α2 S2 H' (forL t b (ds.drop j) ρ2 S2) (FlowOk G D) (EW G W),
      ⟨ds.length, rfl, F1, α1, S1, ρ, Step.refl, m1, sl.mono st, q1⟩, ?_⟩
    rintro j n σ' H' ⟨rfl, F2, α2, S2, ρ2, st2, m2, sl2, q2⟩
    obtain ⟨y1, y2⟩ := hJ j F2 α2 S2 H' st2.ext m2
    by_cases hj : j < ds.length
    · refine .inr ⟨(y1 ds[j] (by simp [hj])).1, fun σ'' H'' => ∃ F3 α3 S3 ρ3, Step F1 α1 S1 H1 F3 α3 S3 H'' ∧ Sim G F3 α3 S3 H'' ∧ Slots G F3 α3 S3.length H'' σ'' ρ3 ∧ Post G F3 α3 S3 H'' (forL t b (ds.drop (j + 1)) ρ3 S3) (FlowOk G D) (EW G W),
        fun σ'' H'' z => ⟨ds.length - (j + 1), by omega, rfl, z⟩, fun x H3 hy => ?_⟩
      obtain ⟨F3, st3, m3, r3⟩ := (y1 ds[j] (by simp [hj])).2 x H3 hy
      rw [List.drop_eq_getElem_cons hj] at q2
      unfold forL at q2
      cases e1 : t.put ds[j] ρ2 with
      | none => rw [e1] at q2; exact q2.elim
      | some ρ3 =>
        rw [e1] at q2
        refine ⟨F3, α2, S2, ρ2, ds[j], ρ3, m3, sl2.mono st3, r3, e1, fun σ3 sl3 _ => ⟨F3, α2, S2, ρ3, m3, sl3, (Post.bind (q2.after st3)).mono fun F4 α4 S4 H4 r st4 m4 q4 => ?_⟩⟩
        cases r with
        | nx ρ4 => exact fun σ4 sl4 => ⟨F4, α4, S4, ρ4, (st2.trans st3).trans st4, m4, sl4, q4⟩
        | ct ρ4 => exact fun σ4 sl4 => ⟨F4, α4, S4, ρ4, (st2.trans st3).trans st4, m4, sl4, q4⟩
        | bk ρ4 => exact fun σ4 sl4 => q4.now m4 σ4 sl4
        | rt w => exact fun v rv => q4.now m4 v rv
    · refine .inl ⟨y2 (by omega), ?_⟩
      rw [List.drop_eq_nil_of_le (by omega)] at q2
      exact q2.now m2 σ' sl2⟩
theorem xs_while {n : Nat} (hp : PassesOwn (model X.prog X.w) X.A X.env X.xe) (hc : PT X c (RdT G W (toT cs))) (hb : PSs X body (RdS G W b)) : PS X (.While c body [] pos) (RdS G W (whileL cs b n)) :=
  ps_le (ps_while hp hc hb) fun D σ H h => by
    refine ⟨fun k σ' H' => ∃ F2 α2 S2 ρ2, Sim G F2 α2 S2 H' ∧ Slots G F2 α2 S2.length H' σ' ρ2 ∧ Post G F2 α2 S2 H' (whileL cs b k ρ2 S2) (FlowOk G D) (EW G W), ⟨n, h⟩, ?_⟩
    rintro k σ' H' ⟨F2, α2, S2, ρ2, m2, sl2, q2⟩
    cases k with
    | zero => exact q2.elim
    | succ k =>
      refine ⟨F2, α2, S2, ρ2, m2, sl2, (Post.bind (show Post G F2 α2 S2 H' ((toT cs ρ2 S2).bind _) _ _ from q2)).mono fun F3 α3 S3 H3 b' st3 m3 q3 => ?_⟩
      cases b' with
      | false => exact q3.now m3 σ' (sl2.mono st3)
      | true =>
        refine ⟨fun σ'' H'' => ∃ F2 α2 S2 ρ2, Sim G F2 α2 S2 H'' ∧ Slots G F2 α2 S2.length H'' σ'' ρ2 ∧ Post G F2 α2 S2 H'' (whileL cs b k ρ2 S2) (FlowOk G D) (EW G W), fun σ'' H'' z => ⟨k, Nat.lt_succ_self k, z⟩,
          F3, α3, S3, ρ2, m3, sl2.mono st3, (Post.bind q3).mono fun F4 α4 S4 H4 r st4 m4 q4 => ?_⟩
        cases r with
        | nx ρ4 => exact fun σ4 sl4 => ⟨F4, α4, S4, ρ4, m4, sl4, q4⟩
        | ct ρ4 => exact fun σ4 sl4 => ⟨F4, α4, S4, ρ4, m4, sl4, q4⟩
        | bk ρ4 => exact fun σ4 sl4 => q4.now m4 σ4 sl4
        | rt w => exact fun v rv => q4.now m4 v rv
end

/-- in a comprehension nothing may be raised -/
def R.bindN {α β : Type} (r : R α) (k : α → Store → R β) : R β := match r with
  | .ok a S => k a S
  | _ => .bad
def W0 : WX := fun _ _ _ _ => False
theorem Post.bindN {α' β' : Type} {Fz : Addr → Prop} {α : Nat → Addr} {S : Store} {H : Hp} {r : R α'} {k : α' → Store → R β'} {Q : QT β'} {E E' : ET} (h : Post G Fz α S H (r.bindN k) Q E) :
    Post G Fz α S H r (fun Fz1 α1 S1 H1 w => Post G Fz1 α1 S1 H1 (k w S1) Q E) E' := by
  cases r with
  | ok w S' => exact fun Fz' β H' s m => h.after s
  | exn c fs ds ρ S' => exact h.elim
  | bad => exact h
def wipeE (ρ : Env') : List Nat → Env'
  | [] => ρ
  | v :: vs => (wipeE ρ vs).set v none
theorem wipeE_length (ρ : Env') : ∀ vs : List Nat, (wipeE ρ vs).length = ρ.length
  | [] => rfl
  | v :: vs => by
    show ((wipeE ρ vs).set v none).length = _
    rw [List.length_set, wipeE_length ρ vs]
theorem wipeE_some {ρ : Env'} {i : Nat} {x : W} : ∀ {vs : List Nat}, (wipeE ρ vs)[i]? = some (some x) → ρ[i]? = some (some x) ∧ i ∉ vs
  | [], h => ⟨h, by simp⟩
  | v :: vs, h => by
    have h : ((wipeE ρ vs).set v none)[i]? = some (some x) := h
    by_cases hi : v = i
    · subst hi
      by_cases hv : v < (wipeE ρ vs).length
      · rw [List.getElem?_set_self hv] at h; cases h
      · rw [List.getElem?_eq_none (by simpa using hv)] at h; cases h
    · rw [List.getElem?_set_ne hi] at h
      obtain ⟨h1, h2⟩ := wipeE_some h
      exact ⟨h1, by simp only [List.mem_cons, not_or]; exact ⟨fun e => hi e.symm, h2⟩⟩
theorem wipe_get {σ : L2.St} {i : Nat} {o : Option (Option V)} : ∀ {vs : List Nat}, i ∉ vs → σ[i]? = o → (wipe σ vs)[i]? = o
  | [], _, h => h
  | v :: vs, hi, h => by
    rw [List.mem_cons, not_or] at hi
    show ((wipe σ vs).set v none)[i]? = o
    rw [List.getElem?_set_ne (Ne.symm hi.1)]
    exact wipe_get hi.2 h
theorem Slots.wipe {Fz : Addr → Prop} {α : Nat → Addr} {n : Nat} {H : Hp} {σ : L2.St} {ρ : Env'} (sl : Slots G Fz α n H σ ρ) (hps : ∀ i σ o, G.ps σ → G.ps (σ.set i o)) (vs : List Nat) : Slots G Fz α n H (L2.wipe σ vs) (wipeE ρ vs) :=
  ⟨⟨by rw [wipe_length, wipeE_length]; exact sl.1.1, by
    induction vs with
    | nil => exact sl.1.2
    | cons v vs ih => exact hps _ _ _ ih⟩, fun i w e => by
    obtain ⟨e1, e2⟩ := wipeE_some e
    obtain ⟨v, h1, h2⟩ := sl.2 i w e1
    exact ⟨v, wipe_get e2 h1, h2⟩⟩
/-- an object that is neither frozen nor a cell nor a table changes -/
theorem foreign {Fz : Addr → Prop} {α : Nat → Addr} {S : Store} {H : Hp} {p : Addr} {o u : HO} (m : Sim G Fz α S H) (hu : H p = some u) (n1 : ∀ ps, u ≠ .tbl ps) (n2 : ∀ φ, u ≠ .ext φ) (hF : ¬ Fz p) (hC : ∀ k, k < S.length → α k ≠ p) (hpc : G.pc Fz α S (upd H p o)) : Sim G Fz α S (upd H p o) := by
  have ex : Ext Fz H Fz (upd H p o) := ⟨fun _ h => h, fun a w f e => by
    rw [upd_ne (fun z => hF (by rw [← z]; exact f))]
    exact e⟩
  refine ⟨fun a h => ?_, fun k c e => ?_, m.inj, tabs_set m.tab hu n1 n2, hpc⟩
  · obtain ⟨w, e, n⟩ := m.fzH a h
    exact ⟨w, by rw [upd_ne (fun z => hF (by rw [← z]; exact h))]; exact e, n⟩
  · have hk : k < S.length := (List.getElem?_eq_some_iff.mp e).1
    have st : Step Fz α S H Fz α S H := Step.refl
    have ok := m.cell k c e
    cases c with
    | lst b xs =>
      obtain ⟨vs, e, l, r, f1, f2⟩ := ok
      exact ⟨vs, by rw [upd_ne (hC k hk)]; exact e, l, Reps.mono ex r, f1, f2⟩
    | dK b xs =>
      obtain ⟨vs, e, l, r, f1, f2⟩ := ok
      exact ⟨vs, by rw [upd_ne (hC k hk)]; exact e, l, Reps.mono ex r, f1, f2⟩
    | dT b xs =>
      obtain ⟨vs, e, l, r, f1, f2⟩ := ok
      exact ⟨vs, by rw [upd_ne (hC k hk)]; exact e, l, Reps.mono ex r, f1, f2⟩
    | obj c fs =>
      obtain ⟨dx, us, e, l, q, r, f⟩ := ok
      refine ⟨dx, us, by rw [upd_ne (hC k hk)]; exact e, l, q, Paired.mapP r fun w v z => ?_, f⟩
      cases w with
      | d x => exact Rep.mono ex z
      | c j => exact z
theorem Step.foreign {Fz0 Fz : Addr → Prop} {α0 α : Nat → Addr} {S0 S : Store} {H0 H : Hp} {p : Addr} {o : HO} (s : Step Fz0 α0 S0 H0 Fz α S H) (h0 : H0 p = none) (m0 : Sim G Fz0 α0 S0 H0) : Step Fz0 α0 S0 H0 Fz α S (upd H p o) :=
  ⟨⟨s.ext.fz, fun a u f e => by
    rw [upd_ne (ne_of_none e h0)]
    exact s.ext.at_ a u f e⟩, s.at_, s.len, fun a u e n f k => by
    obtain ⟨e1, f1, k1⟩ := s.frame a u e n f k
    exact ⟨by rw [upd_ne (ne_of_none e h0)]; exact e1, f1, k1⟩⟩
theorem R.bindN_assoc {α β γ : Type} (r : R α) (k : α → Store → R β) (l : β → Store → R γ) : (r.bindN k).bindN l = r.bindN fun a S => (k a S).bindN l := by
  cases r <;> rfl
/-- the same, the wish kept as it was -/
theorem Post.bindB {α' β' : Type} {Fz : Addr → Prop} {α : Nat → Addr} {S : Store} {H : Hp} {r : R α'} {k : α' → Store → R β'} {Q : QT β'} {E E' : ET} (h : Post G Fz α S H (r.bindN k) Q E) :
    Post G Fz α S H r (fun _ _ S1 _ w => Post G Fz α S H (k w S1) Q E) E' := by
  cases r with
  | ok w S' => exact fun _ _ _ _ _ => h
  | exn c fs ds ρ S' => exact h.elim
  | bad => exact h
/-- an object that was made behind the state at (Fz0 ..) comes to be frozen -/
theorem adopt_frz {Fz0 Fz : Addr → Prop} {α0 α : Nat → Addr} {S0 S : Store} {H0 H : Hp} {p : Addr} {u : HO} (m0 : Sim G Fz0 α0 S0 H0) (s : Step Fz0 α0 S0 H0 Fz α S H) (m : Sim G Fz α S H) (h0 : H0 p = none) (hu : H p = some u) (n1 : Froz u) (hC : ∀ k, k < S.length → α k ≠ p) :
    Step Fz0 α0 S0 H0 (addA Fz p) α S H ∧ Sim G (addA Fz p) α S H := by
  have st : Step Fz0 α0 S0 H0 (addA Fz p) α S H := ⟨⟨fun a h => .inl (s.ext.fz a h), s.ext.at_⟩, s.at_, s.len, fun a o e n f k => by
    obtain ⟨e1, f1, k1⟩ := s.frame a o e n f k
    exact ⟨e1, fun z => z.elim f1 fun z => ne_of_none e h0 z, k1⟩⟩
  refine ⟨st, ⟨fun a h => ?_, fun k c e => ?_, m.inj, m.tab, G.pcS st m0.pc⟩⟩
  · rcases h with h | h
    · exact m.fzH a h
    · exact ⟨u, by rw [h]; exact hu, n1⟩
  · have hk : k < S.length := (List.getElem?_eq_some_iff.mp e).1
    refine (m.cell k c e).cut (n := S.length) ?_ (fun _ h => .inl h) fun z => z.elim id fun z => absurd z (hC k hk)
    cases c with
    | obj c fs =>
      obtain ⟨dx, us, _, _, _, r, _⟩ := m.cell k _ e
      show (fs.all fun p => match p.2 with
        | .c j => decide (j < S.length)
        | _ => true) = true
      rw [List.all_eq_true]
      intro p hp
      have go : ∀ {ws : List EV.W} {vs : List V}, RepWs G Fz α S.length H ws vs → ∀ w ∈ ws, ∀ j, w = .c j → j < S.length := by
        intro ws vs r
        induction r with
        | nil => intro w hw; cases hw
        | cons h t ih =>
          intro w hw j e
          rcases List.mem_cons.mp hw with q | q
          · rw [← q, e] at h
            exact h.1
          · exact ih w q j e
      cases hp2 : p.2 with
      | d x => rfl
      | c j =>
        have := go r p.2 (List.mem_map.mpr ⟨p, hp, rfl⟩) j hp2
        simpa using this
    | _ => rfl
/-- .. or a cell -/
theorem adopt_cell {Fz0 Fz : Addr → Prop} {α0 α : Nat → Addr} {S0 S : Store} {H0 H : Hp} {p : Addr} {vs : List V} {xs : List D} (m0 : Sim G Fz0 α0 S0 H0) (s : Step Fz0 α0 S0 H0 Fz α S H) (m : Sim G Fz α S H) (h0 : H0 p = none) (hu : H p = some (.lst vs)) (hl : vs.length ≤ 16777216) (r : Reps G Fz H xs vs)
    (hF : ¬ Fz p) (hC : ∀ k, k < S.length → α k ≠ p) :
    Step Fz0 α0 S0 H0 Fz (setA α S.length p) (S ++ [.lst true xs]) H ∧ Sim G Fz (setA α S.length p) (S ++ [.lst true xs]) H := by
  have st : Step Fz0 α0 S0 H0 Fz (setA α S.length p) (S ++ [.lst true xs]) H := ⟨s.ext, fun k hk => (if_neg (by have := s.len; omega)).trans (s.at_ k hk), by simp; have := s.len; omega, fun a o e n f k => by
    obtain ⟨e1, f1, k1⟩ := s.frame a o e n f k
    refine ⟨e1, f1, fun j hj z => ?_⟩
    unfold setA at z
    by_cases h1 : j = S.length
    · rw [if_pos h1] at z
      exact ne_of_none e h0 z.symm
    · rw [if_neg h1] at z
      exact k1 j (by simp at hj; omega) z⟩
  refine ⟨st, ⟨m.fzH, fun k c e => ?_, fun i j hi hj e => ?_, m.tab, G.pcS st m0.pc⟩⟩
  · by_cases hk : k < S.length
    · rw [List.getElem?_append_left hk] at e
      have ek : setA α S.length p k = α k := if_neg (Nat.ne_of_lt hk)
      rw [ek]
      exact (m.cell k c e).ren (fun i hi => if_neg (by omega)) (by simp)
    · have hk2 : k = S.length := by
        have := (List.getElem?_eq_some_iff.mp e).1
        simp at this
        omega
      subst hk2
      simp at e
      subst e
      have : setA α S.length p S.length = p := if_pos rfl
      rw [this]
      exact ⟨vs, hu, hl, r, fun _ => hF, fun z => by cases z⟩
  · simp at hi hj
    unfold setA at e
    by_cases h1 : i = S.length
    · by_cases h2 : j = S.length
      · omega
      · rw [if_pos h1, if_neg h2] at e
        exact absurd e.symm (hC j (by omega))
    · by_cases h2 : j = S.length
      · rw [if_neg h1, if_pos h2] at e
        exact absurd e (hC i (by omega))
      · rw [if_neg h1, if_neg h2] at e
        exact m.inj i j (by omega) (by omega) e
theorem wipe_wipe (σ : L2.St) (vs : List Nat) : wipe (wipe σ vs) vs = wipe σ vs := by
  have n1 : ∀ (τ : L2.St) (us : List Nat) (k : Nat), k ∈ us → k < τ.length → (wipe τ us)[k]? = some none := by
    intro τ us k hk ht
    induction us with
    | nil => cases hk
    | cons u us ih =>
      show ((wipe τ us).set u none)[k]? = some none
      by_cases hu : u = k
      · subst hu
        rw [List.getElem?_set_self (by rw [wipe_length]; exact ht)]
      · rw [List.getElem?_set_ne hu]
        rcases List.mem_cons.mp hk with e | e
        · exact absurd e.symm hu
        · exact ih e
  apply List.ext_getElem?
  intro k
  by_cases hk : k ∈ vs
  · by_cases hkl : k < σ.length
    · rw [n1 σ vs k hk hkl, n1 _ vs k hk (by rw [wipe_length]; exact hkl)]
    · rw [List.getElem?_eq_none (by rw [wipe_length, wipe_length]; omega), List.getElem?_eq_none (by rw [wipe_length]; omega)]
  · exact wipe_get hk rfl
/-- the turns of a list comprehension: acc is what has been made -/
def lcL (t : Tg) (c f : Sm) (ρ : Env') : List D → List D → Store → R (List D)
  | [], acc, S => .ok acc S
  | d :: ds, acc, S => match t.put d ρ with
    | none => .bad
    | some ρ1 => (toT c ρ1 S).bindN fun k S1 => if k = true then (f ρ1 S1).bindN fun w S2 => match frz S2 w with
        | some (x, S3) => lcL t c f ρ ds (acc ++ [x]) S3
        | none => .bad
      else lcL t c f ρ ds acc S1
def cTrue : Sm := fun _ S => .ok (.d (.bl true)) S
/-- a new list's end: a cell that may change, or a value -/
def newL (mu : Bool) (xs : List D) (S : Store) : R W := if mu = true then .ok (.c S.length) (S ++ [.lst true xs]) else .ok (.d (.lst xs)) S
def cLc (mu : Bool) (own : List Nat) (t : Tg) (i : SmI) (c f : Sm) : Sm := fun ρ S => (i ρ S).bind fun ds S1 => if ds.length ≤ 16777216 then ((lcL t c f (wipeE ρ own) ds [] S1).bindN fun xs S2 => newL mu xs S2) else .bad
/-- a list that has been made behind the state at (F1 ..) is handed on -/
theorem newL_ok {W : WX} {mu : Bool} {F1 F2 : Addr → Prop} {α1 α2 : Nat → Addr} {S1 S2 : Store} {H1 H2 : Hp} {p : Addr} {vs : List V} {xs : List D} {Q : VK} (m0 : Sim G F1 α1 S1 H1) (s : Step F1 α1 S1 H1 F2 α2 S2 H2) (m : Sim G F2 α2 S2 H2) (h0 : H1 p = none) (hu : H2 p = some (.lst vs))
    (hl : vs.length ≤ 16777216) (r : Reps G F2 H2 xs vs) (hF : ¬ F2 p) (hC : ∀ k, k < S2.length → α2 k ≠ p) (h : Post G F1 α1 S1 H1 (newL mu xs S2) (fun Fz' β S' H' w => ∀ v, RepW G Fz' β S'.length H' w v → Q v H') (EW G W)) : Q (.ref p) H2 := by
  unfold newL at h
  cases mu with
  | false =>
    obtain ⟨s1, m1⟩ := adopt_frz m0 s m h0 hu trivial hC
    exact h _ _ _ s1 m1 _ ⟨p, vs, rfl, .inl ⟨.inr rfl, .inl hu⟩, hl, Reps.addA r⟩
  | true =>
    obtain ⟨s1, m1⟩ := adopt_cell m0 s m h0 hu hl r hF hC
    exact h _ _ _ s1 m1 _ ⟨by simp, by rw [setA, if_pos rfl]⟩
section
variable {X : Cx} {W : WX} {e a tg iter elt : Expr} {ifs : List Expr} {own : List (Str × Nat)} {scope : Scope} {t : Tg} {i : SmI} {c f : Sm} {pos : Pos}
/-- the reading of a comprehension -/
theorem rd_lc {mu : Bool} {tt : TT} (hps : ∀ i σ o, G.ps σ → G.ps (σ.set i o)) (htt : ∀ σ H (Q : Bool → Hp → Prop), RdT G W0 (toT c) σ H Q → tt σ H Q) (hsub : ∀ j ∈ t.slots, j ∈ own.map (·.2)) {σ : L2.St} {H : Hp} {Q : VK} (h : RdE G W (cLc mu (own.map (·.2)) t i c f) σ H Q) :
    tLc (RdI G W i) (RdG G t) tt (RdE G W0 f) (own.map (·.2)) σ H Q := by
  obtain ⟨Fz, α, S, ρ, m, sl, q⟩ := h
  refine ⟨Fz, α, S, ρ, m, sl, (Post.bind q).mono fun F1 α1 S1 H1 ds st m1 q1 J hJ D hD => ?_⟩
  by_cases hlen : ds.length ≤ 16777216
  · rw [if_pos hlen] at q1
    have nFD := m1.free hD
    have nCD : ∀ k, k < S1.length → α1 k ≠ D := fun k hk => m1.cellNe hD hk
    have wl := (sl.mono st).wipe hps (own.map (·.2))
    refine ⟨fun j n H' => n = ds.length - j ∧ ∃ F2 α2 S2 acc vs, Step F1 α1 S1 H1 F2 α2 S2 H' ∧ Sim G F2 α2 S2 H' ∧ H' D = some (.lst vs) ∧ ¬ F2 D ∧ (∀ k, k < S2.length → α2 k ≠ D) ∧ (vs.length ≤ j ∧ j ≤ ds.length) ∧ Reps G F2 H' acc vs ∧
        Slots G F2 α2 S2.length H' (wipe σ (own.map (·.2))) (wipeE ρ (own.map (·.2))) ∧
        Post G F1 α1 S1 H1 ((lcL t c f (wipeE ρ (own.map (·.2))) (ds.drop j) acc S2).bindN fun xs S2 => newL mu xs S2) (fun Fz' β S' H' w => ∀ v, RepW G Fz' β S'.length H' w v → Q v H') (EW G W),
      ⟨ds.length, rfl, F1, α1, S1, [], [], Step.foreign Step.refl hD m1, (new_any m1 hD).2, upd_same, nFD, nCD, ⟨Nat.le_refl _, Nat.zero_le _⟩, rfl, wl.mono (new_any m1 hD).1, q1⟩, ?_⟩
    rintro j n H2 ⟨rfl, F2, α2, S2, acc, vs, st2, m2, hD2, nF2, nC2, hl2, ra, sl2, q2⟩
    obtain ⟨y1, y2⟩ := hJ j F2 α2 S2 H2 st2.ext m2
    by_cases hj : j < ds.length
    · refine .inr ⟨(y1 ds[j] (by simp [hj])).1, fun H' => ∃ F2 α2 S2 acc vs, Step F1 α1 S1 H1 F2 α2 S2 H' ∧ Sim G F2 α2 S2 H' ∧ H' D = some (.lst vs) ∧ ¬ F2 D ∧ (∀ k, k < S2.length → α2 k ≠ D) ∧ (vs.length ≤ j + 1 ∧ j + 1 ≤ ds.length) ∧ Reps G F2 H' acc vs ∧
          Slots G F2 α2 S2.length H' (wipe σ (own.map (·.2))) (wipeE ρ (own.map (·.2))) ∧
          Post G F1 α1 S1 H1 ((lcL t c f (wipeE ρ (own.map (·.2))) (ds.drop (j + 1)) acc S2).bindN fun xs S2 => newL mu xs S2) (fun Fz' β S' H' w => ∀ v, RepW G Fz' β S'.length H' w v → Q v H') (EW G W),
        fun H' z => ⟨ds.length - (j + 1), by omega, rfl, z⟩, fun x H3 hy => ?_⟩
      obtain ⟨F3, st3, m3, r3⟩ := (y1 ds[j] (by simp [hj])).2 x H3 hy
      rw [List.drop_eq_getElem_cons hj] at q2
      unfold lcL at q2
      cases e1 : t.put ds[j] (wipeE ρ (own.map (·.2))) with
      | none => rw [e1] at q2; exact q2.elim
      | some ρ3 =>
        rw [e1] at q2
        dsimp only at q2
        rw [R.bindN_assoc] at q2
        obtain ⟨hD3, nF3, nC3⟩ := st3.frame D _ hD2 (fun _ z => by cases z) nF2 nC2
        refine ⟨F3, α2, S2, wipeE ρ (own.map (·.2)), ds[j], ρ3, m3, sl2.mono st3, r3, e1, fun σ3 sl3 ag => ⟨?_, htt _ _ _ ⟨F3, α2, S2, ρ3, m3, sl3, ?_⟩⟩⟩
        · rw [ag (own.map (·.2)) hsub, wipe_wipe]
        · refine ((Post.bindB (E' := EW G W0) q2).after (st2.trans st3)).mono fun F4 α4 S4 H4 k st4 m4 q4 => ?_
          obtain ⟨hD4, nF4, nC4⟩ := st4.frame D _ hD3 (fun _ z => by cases z) nF3 nC3
          have s14 := (st2.trans st3).trans st4
          cases k with
          | false => exact ⟨F4, α4, S4, acc, vs, s14, m4, hD4, nF4, nC4, ⟨by omega, by omega⟩, Reps.mono (st3.trans st4).ext ra, sl2.mono (st3.trans st4), q4⟩
          | true =>
            rw [if_pos rfl] at q4 ⊢
            rw [R.bindN_assoc] at q4
            refine ⟨F4, α4, S4, ρ3, m4, sl3.mono st4, ((Post.bindB (E' := EW G W0) q4).after s14).mono fun F5 α5 S5 H5 w st5 m5 q5 y ry => ?_⟩
            obtain ⟨hD5, nF5, nC5⟩ := st5.frame D _ hD4 (fun _ z => by cases z) nF4 nC4
            refine ⟨vs, hD5, by rw [sizeLine_eq]; omega, ?_⟩
            cases e6 : frz S5 w with
            | none => rw [e6] at q5; exact q5.elim
            | some pr =>
              obtain ⟨x, S6⟩ := pr
              rw [e6] at q5
              obtain ⟨F6, st6, m6, r6⟩ := frz_ok m5 e6 ry
              obtain ⟨hD6, nF6, nC6⟩ := st6.frame D _ hD5 (fun _ z => by cases z) nF5 nC5
              have s36 := ((st3.trans st4).trans st5).trans st6
              have m7 := foreign (o := .lst (vs ++ [y])) m6 hD6 (fun _ z => by cases z) (fun _ z => by cases z) nF6 nC6 (G.pcS (Step.foreign (st2.trans s36) hD m1) m1.pc)
              have ex7 : Ext F6 H5 F6 (upd H5 D (.lst (vs ++ [y]))) := ⟨fun _ h => h, fun a u f e => by
                rw [upd_ne (fun z => nF6 (by rw [← z]; exact f))]
                exact e⟩
              refine ⟨F6, α5, S6, acc ++ [x], vs ++ [y], Step.foreign (st2.trans s36) hD m1, m7, upd_same, nF6, nC6, ⟨by simp; omega, by omega⟩, Reps.append (Reps.mono ex7 (Reps.mono s36.ext ra)) (Reps.cons (Rep.mono ex7 r6) rfl), ?_, q5⟩
              have z := sl2.mono s36
              exact ⟨z.1, fun i w e => by
                obtain ⟨v, h1, h2⟩ := z.2 i w e
                refine ⟨v, h1, ?_⟩
                cases w with
                | d x => exact Rep.mono ex7 h2
                | c j => exact h2⟩
    · refine .inl ⟨y2 (by omega), ?_⟩
      rw [List.drop_eq_nil_of_le (by omega)] at q2
      exact newL_ok m1 st2 m2 hD hD2 (by omega) ra nF2 nC2 q2
  · rw [if_neg hlen] at q1
    exact q1.elim
theorem ex_lc {mu : Bool} {tt : TT} (hps : ∀ i σ o, G.ps σ → G.ps (σ.set i o)) (htt : ∀ σ H (Q : Bool → Hp → Prop), RdT G W0 (toT c) σ H Q → tt σ H Q) (hsub : ∀ j ∈ t.slots, j ∈ own.map (·.2)) (hc : X.calm = true) (hN : X.N.Nodup) (hi : PI X tg iter (RdI G W i)) (ok : BlkOk X.N X.env.scope scope own)
    (hg : ∀ (s : Shared) (H : Hp) (C : Addr) (cl : List (Str × Addr)) (fp : List Addr), PG (X.blk s H scope (compEnvC scope cl C X.env) fp) tg (RdG G t)) (ht : ∀ (s : Shared) (H : Hp) (C : Addr) (cl : List (Str × Addr)) (fp : List Addr), PTs (X.blk s H scope (compEnvC scope cl C X.env) fp) ifs tt)
    (he : ∀ (s : Shared) (H : Hp) (C : Addr) (cl : List (Str × Addr)) (fp : List Addr), PE (X.blk s H scope (compEnvC scope cl C X.env) fp) elt (RdE G W0 f)) (hs : ∀ x, foldedSetIterable iter X.env x = pure x) :
    PE X (.ListComp elt [⟨tg, iter, ifs, 0⟩] scope pos) (RdE G W (cLc mu (own.map (·.2)) t i c f)) :=
  pe_le (pe_lc hc hN hi ok hg ht he hs) fun σ H Q h => rd_lc hps htt hsub h
theorem xs_setLc {mu : Bool} {tt : TT} {j : Nat} {y : Str} {py spos : Pos} (hps : ∀ i σ o, G.ps σ → G.ps (σ.set i o)) (htt : ∀ σ H (Q : Bool → Hp → Prop), RdT G W0 (toT c) σ H Q → tt σ H Q) (hsub : ∀ j ∈ t.slots, j ∈ own.map (·.2)) (hc : X.calm = true) (hN : X.N.Nodup) (hy : X.N[j]? = some y)
    (hyl : X.env.scope.names.lookup y = some .local) (hsw : swapsWith (.ListComp elt [⟨tg, iter, ifs, 0⟩] scope pos) (some (.Name y py)) spos.line X.env = pure true) (hi : PI X tg iter (RdI G W i)) (ok : BlkOk X.N X.env.scope scope own)
    (hg : ∀ (s : Shared) (H : Hp) (C : Addr) (cl : List (Str × Addr)) (fp : List Addr), PG (X.blk s H scope (compEnvC scope cl C X.env) fp) tg (RdG G t)) (ht : ∀ (s : Shared) (H : Hp) (C : Addr) (cl : List (Str × Addr)) (fp : List Addr), PTs (X.blk s H scope (compEnvC scope cl C X.env) fp) ifs tt)
    (he : ∀ (s : Shared) (H : Hp) (C : Addr) (cl : List (Str × Addr)) (fp : List Addr), PE (X.blk s H scope (compEnvC scope cl C X.env) fp) elt (RdE G W0 f)) (hs : ∀ x, foldedSetIterable iter X.env x = pure x) :
    PS X (.Assign [.Name y py] (.ListComp elt [⟨tg, iter, ifs, 0⟩] scope pos) spos) (RdS G W (sSet j (cLc mu (own.map (·.2)) t i c f))) :=
  ps_le (ps_setLc hc hN hy hyl hsw hi ok hg ht he hs) fun D σ H h => rd_lc hps htt hsub (by
    obtain ⟨Fz, α, S, ρ, m, sl, q⟩ := h
    exact ⟨Fz, α, S, ρ, m, sl, (Post.bind q).mono fun F1 α1 S1 H1 w st m1 q1 v r => q1.now m1 _ ((sl.mono st).set (hps _) r)⟩)
theorem tt_nil : ∀ σ H (Q : Bool → Hp → Prop), RdT G W0 (toT cTrue) σ H Q → tYes σ H Q := fun σ H Q ⟨Fz, α, S, ρ, m, sl, q⟩ => q.now m
theorem tt_one : ∀ σ H (Q : Bool → Hp → Prop), RdT G W0 (toT c) σ H Q → RdT G W0 (toT c) σ H Q := fun _ _ _ h => h
end
end EV
namespace EV
open PySem L2
variable {G : SP}

/-- an exception's __init__ that keeps its arguments under the names fs -/
def spX (G : SP) (fs : List Str) : Sp := fun vs H Q E => ∃ (a C : Addr) (args : List V), vs = .ref a :: args ∧ args.length = fs.length ∧ H a = some (exo a C none) ∧ OexC G.K C ∧ (∀ f ∈ fs, PySem.W.findIn G.K (.ref C) f = some none) ∧
  ∀ (dx : Addr) (us : List (Str × V)) (H' : Hp), H dx = none → dx ≠ a → H' a = some (exo a C (some dx)) → H' dx = some (exd dx us) → (∀ b, b ≠ a → b ≠ dx → H' b = H b) →
    (∀ (i : Nat) (f : Str), fs[i]? = some f → ∃ v, args[i]? = some v ∧ us.lookup f = some v) → Q .non H'
section
variable {P : Program} {w : World} {mg : Str → Option Value} {base : Heap} {qual f1 f2 v1 v2 : Str} {params : Arguments} {scope : Scope} {f : Addr} {fd : FuncData} {p1 p2 p3 p4 q1 q2 q3 q4 : Pos}
theorem init_one (F : FunD G.K "__init__" qual params [.Assign [.Attribute (.Name "self" p1) f1 p2] (.Name v1 p3) p4] scope [] [] f fd) (S : FnScope ["self", v1] ["self", v1] scope) (l0 : scope.names.lookup (Str.ofString "self") = some NameKind.local) (l1 : scope.names.lookup v1 = some .local)
    (d1 : (v1 == ("__debug__" : Str)) = false) (d2 : (v1 == ("__classdict__" : Str)) = false) :
    FnOk P w G.K mg base C8.CX0 1 f fd ["self", v1] (spX G [f1]) := by
  refine F.ok S (fun vs H Q E h => ?_) fun cdv A outer s H vs Q E hr h => ?_
  · obtain ⟨a, C, args, rfl, hl, _⟩ := h
    simpa using hl
  · obtain ⟨a, C, args, rfl, hl, ha, T, hno, k⟩ := h
    obtain ⟨y, rfl⟩ : ∃ y, args = [y] := by
      match args, hl with
      | [y], _ => exact ⟨y, rfl⟩
    refine ⟨_, pss_one (ps_ost (pe_var (i := 0) rfl (.inl l0)) (pe_var (i := 1) rfl (.inl l1) d1 d2)), ?_⟩
    refine ⟨y, rfl, .ref a, rfl, a, C, rfl, T, hno f1 (List.mem_singleton.mpr rfl), .inl ⟨ha, fun dx hd hne => k dx [(f1, y)] _ hd hne upd_same (by rw [upd_ne hne, upd_same]) (fun b b1 b2 => by rw [upd_ne b1, upd_ne b2]) fun i g hg => ?_⟩⟩
    match i, hg with
    | 0, hg =>
      cases hg
      exact ⟨y, rfl, by simp [List.lookup]⟩
end
/-- raise C(..) -/
def sRaise (c : Nat) (fs : List Str) (g : SmL) : SmS := fun ρ S => (g ρ S).bind fun ws S1 => match frzL S1 ws with
  | some (xs, S2) => if xs.length = fs.length ∧ fs.length ≤ 9 then .exn c fs xs ρ S2 else .bad
  | none => .bad
section
variable {X : Cx} {W : WX} {x : Str} {e : Expr} {es : List Expr} {gs : SmL} {p pos pos2 : Pos} {c : Nat} {fs : List Str} {fI : Addr} {fd : FuncData} {ps : List Str} {k : Nat}
theorem xs_raise (hK : X.K = G.K) (hc : X.calm = true) (tk : Takes X W) (T : OexC X.K (G.cls c)) (hno : ∀ f ∈ fs, PySem.W.findIn G.K (.ref (G.cls c)) f = some none) (iC : PySem.W.findIn X.K (.ref (G.cls c)) "__init__" = some (some (.ref fI))) (tI : PySem.W.typeIn X.K (.ref fI) = some (.type "function"))
    (F1 : FnOk X.prog X.w X.K X.mg X.base C8.CX0 k fI fd ps (spX G fs)) (hr : Room (k + 1) X.A) (hb : Binds X.K fd ps []) (hg : Gl X x) (hm : X.mg x = some (.ref (G.cls c))) (ha : PA X (e :: es) (RdA G W gs))
    (hdb : (x == ("__debug__" : Str)) = false) (he : starEach (e :: es) X.env = (false, eval e X.env) :: starEach es X.env) (hpl : (backTo pos (starEach es X.env)).any (·.1) = false) :
    PS X (.Raise (some (.Call (.Name x p) (e :: es) [] pos)) none pos2) (RdS G W (sRaise c fs gs)) :=
  ps_le (ps_raise hc tk (pmk_oex (dvs := []) T iC tI F1 hr hb .nil C8.pass0 hg hm ha hdb he hpl)) fun D σ H ⟨Fz, α, S, ρ, m, sl, q⟩ => ⟨Fz, α, S, ρ, m, sl, (Post.bind q).mono fun F1 α1 S1 H1 ws st m1 q1 vs rs => by
    cases h1 : frzL S1 ws with
    | none => rw [h1] at q1; exact q1.elim
    | some pr =>
      obtain ⟨xs, S2⟩ := pr
      rw [h1] at q1
      dsimp only at q1
      by_cases hl : xs.length = fs.length ∧ fs.length ≤ 9
      · rw [if_pos hl] at q1
        obtain ⟨F2, s2, m2, r2⟩ := frzL_ok m1 h1 rs
        have hlv := r2.length
        refine ⟨by omega, fun a hap => ⟨a, G.cls c, vs ++ [], rfl, by rw [List.append_nil]; omega, upd_same, by rw [← hK]; exact T, hno, fun dx us H' hd hdx e1 e2 e3 e4 => ?_⟩⟩
        have hd1 : H1 dx = none := by rwa [upd_ne hdx] at hd
        refine ⟨rfl, dx, us, e1, e2, hd1, ?_⟩
        have eH : upd (del H' a) dx (.xd us) = upd H1 dx (.xd us) := by
          funext b
          by_cases hb : b = dx
          · subst hb
            rw [upd_same, upd_same]
          · rw [upd_ne hb, upd_ne hb]
            by_cases hb2 : b = a
            · subst hb2
              rw [del_same, hap]
            · rw [del_ne hb2, e3 b hb2 hb, upd_ne hb2]
        rw [eH]
        obtain ⟨s3, m3⟩ := new_any (o := .xd us) m2 hd1
        have s23 := s2.trans s3
        refine q1 F2 _ _ _ _ s23 m3 ⟨rfl, dx, us, rfl, upd_same, fun i f hf => ?_⟩ σ ((sl.mono st).mono s23)
        obtain ⟨v, a1, a2⟩ := e4 i f hf
        rw [List.append_nil] at a1
        obtain ⟨d, b1, b2⟩ := r2.get' a1
        exact ⟨v, d, a2, b1, Rep.mono s3.ext b2⟩
      · rw [if_neg hl] at q1
        exact q1.elim⟩
end
end EV
set_option maxHeartbeats 1000000
namespace EV
open PySem L2
variable {G : SP}

/-- a clause: its class, the slot of its name, its suite's reading -/
abbrev Cl : Type := Value × Option Nat × (Addr → Value → Option Addr → TS)
def behind (o : Option Nat) (D : Ends) : Ends := match o with
  | none => D
  | some i => { nx := fun σ H => D.nx (σ.set i none) H, rt := D.rt, bk := fun σ H => D.bk (σ.set i none) H, ct := fun σ H => D.ct (σ.set i none) H }
def held (o : Option Nat) (a : Addr) (σ : L2.St) : L2.St := match o with
  | none => σ
  | some i => σ.set i (some (.ref a))
def wCl (K : PySem.W.Frag) (Wout : WX) (D : Ends) : List Cl → WX
  | [] => Wout
  | (c, o, ts) :: r => fun cls d σ H => ∃ b, PySem.W.exmOne K cls c = some b ∧ (b = true → ∀ a, H a = none → ts a cls d (behind o D) (held o a σ) H) ∧ (b = false → wCl K Wout D r cls d σ H)
inductive ClOk (X : Cx) : List ExceptHandler → List Cl → Prop
  | nil : ClOk X [] []
  | bare {x : Str} {c : Value} {ts : Addr → Value → Option Addr → TS} {b0 : Stmt} {su : List Stmt} {np p : Pos} {hs : List ExceptHandler} {l : List Cl} (hc : Names X x c)
      (hsu : ∀ (a : Addr) (oe : Obj) (cls : Value) (d : Option Addr) (pn : List (Addr × Obj)), Zc cls d oe → (∃ vs, oe.data = .fields vs) → PSs (X.suite a ((a, oe) :: pn)) (b0 :: su) (ts a cls d)) (r : ClOk X hs l) :
      ClOk X (.ExceptHandler (some (.Name x np)) none (b0 :: su) p :: hs) ((c, none, ts) :: l)
  | named {x n : Str} {i : Nat} {c : Value} {ts : Addr → Value → Option Addr → TS} {b0 : Stmt} {su : List Stmt} {np p : Pos} {hs : List ExceptHandler} {l : List Cl} (hc : Names X x c) (hi : X.N[i]? = some n) (hl : X.env.kindOf n = some .local)
      (hsu : ∀ (a : Addr) (oe : Obj) (cls : Value) (d : Option Addr) (pn : List (Addr × Obj)), Zc cls d oe → (∃ vs, oe.data = .fields vs) → PSs (X.suite a ((a, oe) :: pn)) (b0 :: su) (ts a cls d)) (r : ClOk X hs l) :
      ClOk X (.ExceptHandler (some (.Name x np)) (some n) (b0 :: su) p :: hs) ((c, some i, ts) :: l)
section
variable {X : Cx} {body : List Stmt} {h0 : ExceptHandler} {hds : List ExceptHandler} {l : List Cl} {pos : Pos} {tb : WX → TS} {Wout : WX}
/-- an exception's object is none of the frames -/
theorem not_frame {B h : Heap} {l : List Env} {a : Addr} {o : Obj} {vs : Array Value} (ff : h.FunFrames B l) (e : h.get? a = some o) (dd : o.data = .fields vs) : a ∉ frs l := fun hm => by
  obtain ⟨_, o', e', hnf⟩ := ff.mem hm
  rw [e] at e'
  cases e'
  exact hnf _ dd
theorem ps_try_cl (hs : X.stack = X.env :: X.outer) (hf : X.env.frame = some X.env.locals) (hN : X.N.Nodup) (tk : Takes X Wout)
    (hb : ∀ (W : WX) (pn : List (Addr × Obj)) (xe : Value → Shared → Prop), Takes (X.tr pn xe) W → PassesOwn (model X.prog X.w) X.A X.env xe → PSs (X.tr pn xe) body (tb W)) (hh : ClOk X (h0 :: hds) l) :
    PS X (.Try body (h0 :: hds) [] [] pos) (fun D σ H => tb (wCl X.K Wout D l) D σ H) := by
  refine ⟨fun pins s σ H D I hq => wpAny_Try_except (wpAny_mono ((hb (wCl X.K Wout D l) (X.pn ++ pins) (fun e z => wpAny (model X.prog X.w) X.A (noteFrame e X.env) (fun _ z2 => wpAny (model X.prog X.w) X.A (setFlight e none) (fun _ z3 =>
    wpAny (model X.prog X.w) X.A (handleBy e X.env (h0 :: hds)) (L2.SP X pins D) X.xe z3) X.xe z2) X.xe z) (fun u s' xx => ?_) PassesOwn.looking).run [] s σ H D (I.toTry _) hq) (fun f s1 hsp => ?_) fun e s1 he => he)⟩
  · have ok := I.ok
    obtain ⟨a, B, sI, pins', σ', H', cls, d, rfl, J', nb, up, sky, na, os, ag, w⟩ := xx
    have J := J'.ofTry (pins := pins) ok
    refine Sky.land (env := X.env) (outer := X.outer) Zc.steady (by rw [ok.frames, hs]) hf (by rw [← hs]; exact sky) fun h3 fl3 up3 => ?_
    have J3 := J.landed (s' := { s' with heap := h3 }) nb fl3.1 (up.trans up3) os ag
    obtain ⟨oe3, vs3, he3, hz3, hd3⟩ := fl3.there
    have nfr := not_frame fl3.2.2.1 he3 hd3
    have nL : a ≠ X.env.locals := fun z => nfr (List.mem_filterMap.mpr ⟨X.env, List.mem_cons_self, by rw [hf, z]⟩)
    have nF : a ∉ X.fs := fun hm => by
      obtain ⟨e, he, q⟩ := List.mem_filterMap.mp hm
      exact nfr (List.mem_filterMap.mpr ⟨e, List.mem_cons_of_mem _ he, q⟩)
    have S3 := J3.suite he3 hd3 na nL nF
    -- a clause's class is looked at
    have look : ∀ {x : Str} {c : Value} {np : Pos} {Q E : Value → Shared → Prop}, Names X x c → Q c { s' with heap := h3 } → wpAny (model X.prog X.w) (X.A.mark (some (.ref a))) (eval (.Name x np) X.env) Q E { s' with heap := h3 } := fun {x c np Q E} hc q => by
      rcases hc with ⟨hg, hdbg, hm | ⟨hm, hv, hnn⟩⟩
      · exact ld_glob (X := X.suite a ((a, oe3) :: (X.pn ++ pins))) S3 hg hm q hdbg
      · exact ld_blt (X := X.suite a ((a, oe3) :: (X.pn ++ pins))) S3 hg hm hv q hnn hdbg
    have hty : PySem.W.Looks (model X.prog X.w) h3 (typeOf (.ref a)) cls := fun A Q E s k q => wpAny_typeOf_ref (k _ _ he3) (by rw [hz3.1]; exact q)
    have go : ∀ {hs' : List ExceptHandler} {l' : List Cl}, ClOk X hs' l' → wCl X.K Wout D l' cls d σ' H' → wpAny (model X.prog X.w) X.A (handleBy (.ref a) X.env hs') (L2.SP X pins D) X.xe { s' with heap := h3 } := by
      intro hs' l' hk
      induction hk with
      | nil =>
        intro w
        obtain ⟨_, _, _, oe, vs, T, oT, ts', he, _, hd, h1, _⟩ := id fl3
        refine wpAny_handleBy_nil (by
          unfold PySem.passOn
          refine wpAny_bind (wpAny_field he hd h1 ?_)
          rw [if_neg (show ¬ ((Value.ref T == Value.none) = true) from by simp)]
          have last : wpAny (model X.prog X.w) X.A (setFlight (.ref a) X.env.frame) (fun _ z => wpAny (model X.prog X.w) X.A (throw (.ref a) : Sem Flow) (L2.SP X pins D) X.xe z) X.xe { s' with heap := h3 } := by
            rw [hf]
            exact HandSPX.setFlight_upZ fl3 fun h4 hh4 up4 => wpAny_throw (tk _ _ ⟨a, B, sI, pins, σ', H', cls, d, rfl, J, nb, (up.trans up3).trans up4, .inr (.inr (by rw [hs]; exact hh4)), na, os, ag, w⟩)
          first
            | exact wpAny_bind (wpAny_pure (wpAny_bind last))
            | exact wpAny_bind last)
      | @bare x c ts b0 su np p hs2 l2 hc hsu r ih =>
        rintro ⟨b, hb1, hyes, hno⟩
        refine wpAny_handleBy_cons (codeAny_handlers_test (look hc ((PySem.W.exm_one (M := model X.prog X.w) J3.kIn hty hb1).here ?_))) (by intro q; cases q)
        cases b with
        | false => exact ih (hno rfl)
        | true =>
          refine codeAny_handlers_suite (HandSPX.lands_againZ fl3 fun h4 fl4 up4 => ?_)
          obtain ⟨oe4, vs4, he4, hz4, hd4⟩ := fl4.there
          have S4 := (J.landed (s' := { s' with heap := h4 }) nb fl4.1 ((up.trans up3).trans up4) os ag).suite he4 hd4 na nL nF
          refine wpAny_mono ((hsu a oe4 cls d (X.pn ++ pins) hz4 ⟨_, hd4⟩).run [] _ _ H' _ S4 (hyes rfl a na)) (fun f z hsp => ?_) (fun _ _ z => z.elim)
          cases f with
          | next => exact let ⟨_, _, Z, q⟩ := hsp; ⟨_, _, Z.unsuite ok, q⟩
          | brk => exact let ⟨_, _, Z, q⟩ := hsp; ⟨_, _, Z.unsuite ok, q⟩
          | cont => exact let ⟨_, _, Z, q⟩ := hsp; ⟨_, _, Z.unsuite ok, q⟩
          | ret u => exact let ⟨_, _, _, Z, r, q⟩ := hsp; ⟨_, _, _, Z.unsuite ok, r, q⟩
      | @named x n i c ts b0 su np p hs2 l2 hc hi hl hsu r ih =>
        rintro ⟨b, hb1, hyes, hno⟩
        refine wpAny_handleBy_cons (codeAny_handlers_test (look hc ((PySem.W.exm_one (M := model X.prog X.w) J3.kIn hty hb1).here ?_))) (by intro q; cases q)
        cases b with
        | false => exact ih (hno rfl)
        | true =>
          refine codeAny_handlers_suite_as (HandSPX.lands_againZ fl3 fun h4 fl4 up4 => ?_)
          obtain ⟨oe4, vs4, he4, hz4, hd4⟩ := fl4.there
          have S4 := (J.landed (s' := { s' with heap := h4 }) nb fl4.1 ((up.trans up3).trans up4) os ag).suite he4 hd4 na nL nF
          refine store_ok (X := X.suite a ((a, oe4) :: (X.pn ++ pins))) (v := .ref a) S4 hN hi (.inl hl) rfl (fun s5 S5 => ?_) (.inr hl)
          refine wpAny_mono ((hsu a oe4 cls d (X.pn ++ pins) hz4 ⟨_, hd4⟩).run [] s5 _ H' _ S5 (hyes rfl a na)) (fun f s6 hsp => ?_) (fun _ _ z => z.elim)
          cases f with
          | next => exact let ⟨_, _, Z, q⟩ := hsp; gone_ok (Z.unsuite ok) hN hi hl fun s7 J7 => ⟨_, _, J7, q⟩
          | brk => exact let ⟨_, _, Z, q⟩ := hsp; gone_ok (Z.unsuite ok) hN hi hl fun s7 J7 => ⟨_, _, J7, q⟩
          | cont => exact let ⟨_, _, Z, q⟩ := hsp; gone_ok (Z.unsuite ok) hN hi hl fun s7 J7 => ⟨_, _, J7, q⟩
          | ret u => exact let ⟨_, _, _, Z, r, q⟩ := hsp; gone_ok (Z.unsuite ok) hN hi hl fun s7 J7 => ⟨_, _, _, J7, r, q⟩
    exact go hh w
  · have ok := I.ok
    cases f with
    | next => exact let ⟨_, _, Z, q⟩ := hsp; wpAny_execs_nil ⟨_, _, Z.ofTry ok, q⟩
    | brk => exact let ⟨_, _, Z, q⟩ := hsp; ⟨_, _, Z.ofTry ok, q⟩
    | cont => exact let ⟨_, _, Z, q⟩ := hsp; ⟨_, _, Z.ofTry ok, q⟩
    | ret u => exact let ⟨_, _, _, Z, r, q⟩ := hsp; ⟨_, _, _, Z.ofTry ok, r, q⟩
end

/-- the reading's part of the state in a suite: the exception's fields, where it stands -/
def exP (G : SP) (a dd : Addr) (us : List (Str × V)) (fs : List Str) (ds : List D) (o : Option Nat) : SP := { G with
  pc := fun Fz α S H => G.pc Fz α S H ∧ H dd = some (.xd us) ∧ ¬ Fz dd ∧ (∀ k, k < S.length → α k ≠ dd) ∧ (∀ (i : Nat) (f : Str), fs[i]? = some f → ∃ (v : V) (x : D), us.lookup f = some v ∧ ds[i]? = some x ∧ Rep G Fz H x v)
  pcS := fun {Fz α S H Fz' α' S' H'} st ⟨p, e, nf, nc, r⟩ => by
    obtain ⟨e1, f1, c1⟩ := st.frame dd _ e (fun _ z => by cases z) nf nc
    exact ⟨G.pcS st p, e1, f1, c1, fun i f hf => by
      obtain ⟨v, x, h1, h2, h3⟩ := r i f hf
      exact ⟨v, x, h1, h2, Rep.mono st.ext h3⟩⟩
  ps := fun σ => G.ps σ ∧ match o with
    | none => True
    | some i => σ[i]? = some (some (.ref a)) }
mutual
theorem Rep.tr {G G' : SP} (h1 : G.K = G'.K) (h2 : G.cls = G'.cls) (h3 : G.fad = G'.fad) {Fz : Addr → Prop} {H : Hp} : ∀ {d : D} {v : V}, Rep G Fz H d v → Rep G' Fz H d v
  | .non, _, h => h
  | .bl _, _, h => h
  | .int _, _, h => h
  | .str _, _, h => h
  | .tup ds, _, ⟨a, vs, q, h, l, r⟩ => ⟨a, vs, q, by rw [← h1]; exact h, l, Reps.tr h1 h2 h3 r⟩
  | .lst ds, _, ⟨a, vs, q, h, l, r⟩ => ⟨a, vs, q, by rw [← h1]; exact h, l, Reps.tr h1 h2 h3 r⟩
  | .dK _ _, _, ⟨a, kvs, q, f, h, k, r⟩ => ⟨a, kvs, q, f, h, k, Reps.tr h1 h2 h3 r⟩
  | .dT _ _, _, ⟨a, kvs, q, f, h, k, r⟩ => ⟨a, kvs, q, f, h, k, Reps.tr h1 h2 h3 r⟩
  | .ins _ _ _, _, ⟨a, dx, kvs, q, f, h, k, r⟩ => ⟨a, dx, kvs, q, f, by rw [← h2]; exact h, k, Reps.tr h1 h2 h3 r⟩
  | .exc _ _ _, _, h => h
  | .fn n, v, h => by
    have h : v = .ref (G.fad n) := h
    show v = .ref (G'.fad n)
    rw [← h3]
    exact h
  | .pr _ _, _, ⟨a, vx, vy, q, f, h, r, r'⟩ => ⟨a, vx, vy, q, f, h, Rep.tr h1 h2 h3 r, Rep.tr h1 h2 h3 r'⟩
theorem Reps.tr {G G' : SP} (h1 : G.K = G'.K) (h2 : G.cls = G'.cls) (h3 : G.fad = G'.fad) {Fz : Addr → Prop} {H : Hp} : ∀ {ds : List D} {vs : List V}, Reps G Fz H ds vs → Reps G' Fz H ds vs
  | [], _, h => h
  | d :: ds, _, ⟨v, r, q, h, t⟩ => ⟨v, r, q, Rep.tr h1 h2 h3 h, Reps.tr h1 h2 h3 t⟩
end
theorem RepW.tr {G G' : SP} (h1 : G.K = G'.K) (h2 : G.cls = G'.cls) (h3 : G.fad = G'.fad) {Fz : Addr → Prop} {α : Nat → Addr} {n : Nat} {H : Hp} : ∀ {w : EV.W} {v : V}, RepW G Fz α n H w v → RepW G' Fz α n H w v
  | .d _, _, h => Rep.tr h1 h2 h3 h
  | .c _, _, h => h
theorem CellOk.tr {G G' : SP} (h1 : G.K = G'.K) (h2 : G.cls = G'.cls) (h3 : G.fad = G'.fad) {Fz : Addr → Prop} {α : Nat → Addr} {n : Nat} {H : Hp} {a : Addr} {c : Cell} (h : CellOk G Fz α n H a c) : CellOk G' Fz α n H a c := by
  cases c with
  | lst b xs =>
    obtain ⟨vs, e, l, r, f⟩ := h
    exact ⟨vs, e, l, Reps.tr h1 h2 h3 r, f⟩
  | dK b xs =>
    obtain ⟨vs, e, l, r, f⟩ := h
    exact ⟨vs, e, l, Reps.tr h1 h2 h3 r, f⟩
  | dT b xs =>
    obtain ⟨vs, e, l, r, f⟩ := h
    exact ⟨vs, e, l, Reps.tr h1 h2 h3 r, f⟩
  | obj c fs =>
    obtain ⟨dx, us, e, l, q, r, f⟩ := h
    exact ⟨dx, us, by rw [← h2]; exact e, l, q, Paired.mapP r fun w v z => RepW.tr h1 h2 h3 z, f⟩
def clr (o : Option Nat) (ρ : Env') : Env' := match o with
  | none => ρ
  | some i => ρ.set i none
/-- a clause: the class's number, the name's slot, the suite over the exception's fields -/
abbrev Cz : Type := Nat × Option Nat × (List Str → List D → SmS)
def endSu (o : Option Nat) (r : R F) : R F := match r with
  | .ok (.nx ρ) S => .ok (.nx (clr o ρ)) S
  | .ok (.rt w) S => .ok (.rt w) S
  | .ok (.bk ρ) S => .ok (.bk (clr o ρ)) S
  | .ok (.ct ρ) S => .ok (.ct (clr o ρ)) S
  | _ => .bad
def okO (o : Option Nat) (ρ : Env') : Bool := match o with
  | none => true
  | some i => decide (i < ρ.length)
def pick (c : Nat) (fs : List Str) (ds : List D) (ρ : Env') (S : Store) : List Cz → R F
  | [] => .exn c fs ds ρ S
  | (c', o, su) :: r => if c' = c then (if okO o ρ then endSu o (su fs ds (clr o ρ) S) else .bad) else pick c fs ds ρ S r
def sTry (ks : List Nat) (b : SmS) (l : List Cz) : SmS := fun ρ S => match b ρ S with
  | .exn c fs ds ρ1 S1 => if ks.contains c = true then pick c fs ds ρ1 S1 l else .bad
  | r => r
/-- a suite's reading -/
def tSu (G : SP) (c : Nat) (o : Option Nat) (su : List Str → List D → SmS) : Addr → Value → Option Addr → TS := fun a cls d De σ H =>
  ∃ (dd : Addr) (us : List (Str × V)) (fs : List Str) (ds : List D), cls = .ref (G.cls c) ∧ d = some dd ∧ RdS (exP G a dd us fs ds o) W0 (su fs ds) De σ H
/-- the clauses of a text, with what is made of them -/
inductive CzOk (G : SP) (X : Cx) : List ExceptHandler → List Cz → Prop
  | nil : CzOk G X [] []
  | bare {x : Str} {c : Nat} {su : List Str → List D → SmS} {b0 : Stmt} {st : List Stmt} {np p : Pos} {hs : List ExceptHandler} {l : List Cz} (hc : Names X x (.ref (G.cls c)))
      (hsu : ∀ (a dd : Addr) (us : List (Str × V)) (fs : List Str) (ds : List D) (oe : Obj) (pn : List (Addr × Obj)), Zc (.ref (G.cls c)) (some dd) oe → (∃ vs, oe.data = .fields vs) → PSs (X.suite a ((a, oe) :: pn)) (b0 :: st) (RdS (exP G a dd us fs ds none) W0 (su fs ds))) (r : CzOk G X hs l) :
      CzOk G X (.ExceptHandler (some (.Name x np)) none (b0 :: st) p :: hs) ((c, none, su) :: l)
  | named {x n : Str} {i : Nat} {c : Nat} {su : List Str → List D → SmS} {b0 : Stmt} {st : List Stmt} {np p : Pos} {hs : List ExceptHandler} {l : List Cz} (hc : Names X x (.ref (G.cls c))) (hi : X.N[i]? = some n) (hl : X.env.kindOf n = some .local)
      (hsu : ∀ (a dd : Addr) (us : List (Str × V)) (fs : List Str) (ds : List D) (oe : Obj) (pn : List (Addr × Obj)), Zc (.ref (G.cls c)) (some dd) oe → (∃ vs, oe.data = .fields vs) → PSs (X.suite a ((a, oe) :: pn)) (b0 :: st) (RdS (exP G a dd us fs ds (some i)) W0 (su fs ds))) (r : CzOk G X hs l) :
      CzOk G X (.ExceptHandler (some (.Name x np)) (some n) (b0 :: st) p :: hs) ((c, some i, su) :: l)
def toCl (G : SP) (l : List Cz) : List Cl := l.map fun p => (.ref (G.cls p.1), p.2.1, tSu G p.1 p.2.1 p.2.2)
section
variable {X : Cx} {W : WX} {body : List Stmt} {h0 : ExceptHandler} {hds : List ExceptHandler} {l : List Cz} {b : SmS} {pos : Pos}
theorem CzOk.cl (h : CzOk G X hds l) : ClOk X hds (toCl G l) := by
  have su_ok : ∀ {c : Nat} {o : Option Nat} {su : List Str → List D → SmS} {st : List Stmt}, (∀ (a dd : Addr) (us : List (Str × V)) (fs : List Str) (ds : List D) (oe : Obj) (pn : List (Addr × Obj)), Zc (.ref (G.cls c)) (some dd) oe → (∃ vs, oe.data = .fields vs) → PSs (X.suite a ((a, oe) :: pn)) st (RdS (exP G a dd us fs ds o) W0 (su fs ds))) →
      ∀ (a : Addr) (oe : Obj) (cls : Value) (d : Option Addr) (pn : List (Addr × Obj)), Zc cls d oe → (∃ vs, oe.data = .fields vs) → PSs (X.suite a ((a, oe) :: pn)) st (tSu G c o su a cls d) :=
    fun hsu a oe cls d pn hz hd => ⟨fun pins s σ H D I ⟨dd, us, fs, ds, e1, e2, q⟩ => by
      subst e1 e2
      exact (hsu a dd us fs ds oe pn hz hd).run pins s σ H D I q⟩
  induction h with
  | nil => exact .nil
  | bare hc hsu r ih => exact .bare hc (su_ok hsu) ih
  | named hc hi hl hsu r ih => exact .named hc hi hl (su_ok hsu) ih
/-- the classes that the clauses name are told apart -/
def Apart (G : SP) (c : Nat) (l : List Cz) : Prop := ∀ p ∈ l, PySem.W.exmOne G.K (.ref (G.cls c)) (.ref (G.cls p.1)) = some (decide (p.1 = c))
theorem su_in {Fz : Addr → Prop} {α : Nat → Addr} {S : Store} {H : Hp} {σ : L2.St} {ρ : Env'} {c : Nat} {fs : List Str} {ds : List D} {o : Option Nat} {su : List Str → List D → SmS} {De : Ends} {cls : Value} {d : Option Addr} (hps : ∀ i σ o, G.ps σ → G.ps (σ.set i o)) (ho : ∀ i, o = some i → i < σ.length) (m : Sim G Fz α S H) (sl : Slots G Fz α S.length H σ ρ) (e : ExcRep G Fz H cls d c fs ds)
    (q : Post G Fz α S H (endSu o (su fs ds (clr o ρ) S)) (FlowOk G De) (EW G W)) (a : Addr) : tSu G c o su a cls d (behind o De) (held o a σ) H := by
  obtain ⟨e1, dd, us, e2, e3, e4⟩ := e
  refine ⟨dd, us, fs, ds, e1, e2, Fz, α, S, clr o ρ, ⟨m.fzH, fun k c h => CellOk.tr (G := G) (G' := exP G a dd us fs ds o) rfl rfl rfl (m.cell k c h), m.inj, m.tab, m.pc, e3, fun z => ?_, fun k hk z => ?_, e4⟩, ?_, ?_⟩
  · obtain ⟨u, hu, n⟩ := m.fzH dd z
    rw [e3] at hu
    cases hu
    exact n
  · obtain ⟨u, hu, _, _, _, n⟩ := cell_some (m.cell k S[k] (by simp [hk]))
    rw [z, e3] at hu
    exact n us (Option.some.inj hu).symm
  · cases o with
    | none => exact ⟨⟨sl.1.1, sl.1.2, trivial⟩, fun j w h => by
        obtain ⟨v, h1, h2⟩ := sl.2 j w h
        exact ⟨v, h1, RepW.tr (G := G) (G' := exP G a dd us fs ds none) rfl rfl rfl h2⟩⟩
    | some i =>
      have hi := ho i rfl
      refine ⟨⟨by show (σ.set i _).length = (ρ.set i none).length; simp [sl.1.1], hps _ _ _ sl.1.2, by show (σ.set i (some (V.ref a)))[i]? = _; rw [List.getElem?_set_self hi]⟩, fun j w h => ?_⟩
      have h : (ρ.set i none)[j]? = some (some w) := h
      by_cases hj : i = j
      · subst hj
        rw [List.getElem?_set_self (by rw [← sl.1.1]; exact hi)] at h
        cases h
      · rw [List.getElem?_set_ne hj] at h
        obtain ⟨v, h1, h2⟩ := sl.2 j w h
        exact ⟨v, by show (σ.set i _)[j]? = _; rw [List.getElem?_set_ne hj]; exact h1, RepW.tr (G := G) (G' := exP G a dd us fs ds (some i)) rfl rfl rfl h2⟩
  · -- the suite's end
    have back : ∀ {Fz' β S' H'}, Sim (exP G a dd us fs ds o) Fz' β S' H' → Sim G Fz' β S' H' := fun m => ⟨m.fzH, fun k c h => CellOk.tr (G := exP G a dd us fs ds o) (G' := G) rfl rfl rfl (m.cell k c h), m.inj, m.tab, m.pc.1⟩
    have slb : ∀ {Fz' β S' H' ρ' σ'}, Slots (exP G a dd us fs ds o) Fz' β (List.length S') H' σ' ρ' → Slots G Fz' β (List.length (α := Cell) S') H' (match o with
        | none => σ'
        | some i => σ'.set i none) (clr o ρ') := fun {Fz' β S' H' ρ' σ'} sl => by
      cases o with
      | none => exact ⟨⟨sl.1.1, sl.1.2.1⟩, fun j w h => by
          obtain ⟨v, h1, h2⟩ := sl.2 j w h
          exact ⟨v, h1, RepW.tr (G := exP G a dd us fs ds none) (G' := G) rfl rfl rfl h2⟩⟩
      | some i =>
        refine ⟨⟨by show (σ'.set i none).length = (ρ'.set i none).length; simp [sl.1.1], hps _ _ _ sl.1.2.1⟩, fun j w h => ?_⟩
        have h : (ρ'.set i none)[j]? = some (some w) := h
        by_cases hj : i = j
        · subst hj
          have hl : i < ρ'.length := by simpa using (List.getElem?_eq_some_iff.mp h).1
          rw [List.getElem?_set_self hl] at h
          cases h
        · rw [List.getElem?_set_ne hj] at h
          obtain ⟨v, h1, h2⟩ := sl.2 j w h
          exact ⟨v, by show (σ'.set i none)[j]? = _; rw [List.getElem?_set_ne hj]; exact h1, RepW.tr (G := exP G a dd us fs ds (some i)) (G' := G) rfl rfl rfl h2⟩
    cases hr : su fs ds (clr o ρ) S with
    | bad => rw [hr] at q; exact q.elim
    | exn c2 fs2 ds2 ρ2 S2 => rw [hr] at q; exact q.elim
    | ok r S2 =>
      rw [hr] at q
      intro Fz' β H' st m'
      cases r with
      | nx ρ2 =>
        intro σ' sl'
        have z := q Fz' β H' st (back m') _ (slb sl')
        cases o <;> exact z
      | bk ρ2 =>
        intro σ' sl'
        have z := q Fz' β H' st (back m') _ (slb sl')
        cases o <;> exact z
      | ct ρ2 =>
        intro σ' sl'
        have z := q Fz' β H' st (back m') _ (slb sl')
        cases o <;> exact z
      | rt w =>
        intro v rv
        have z := q Fz' β H' st (back m') v (RepW.tr (G := exP G a dd us fs ds o) (G' := G) rfl rfl rfl rv)
        cases o <;> exact z
theorem cz_in {Fz : Addr → Prop} {α : Nat → Addr} {S : Store} {H : Hp} {σ : L2.St} {ρ : Env'} {c : Nat} {fs : List Str} {ds : List D} {De : Ends} {cls : Value} {d : Option Addr} (hps : ∀ i σ o, G.ps σ → G.ps (σ.set i o)) (m : Sim G Fz α S H) (sl : Slots G Fz α S.length H σ ρ) (e : ExcRep G Fz H cls d c fs ds) :
    ∀ {l : List Cz}, (∀ p ∈ l, PySem.W.exmOne G.K (.ref (G.cls c)) (.ref (G.cls p.1)) = some (decide (p.1 = c))) → Post G Fz α S H (pick c fs ds ρ S l) (FlowOk G De) (EW G W) → wCl G.K W De (toCl G l) cls d σ H
  | [], _, q => q Fz α H cls d Step.refl m e σ sl
  | (c', o, su) :: r, ap, q => by
    refine ⟨decide (c' = c), ?_, fun z a _ => ?_, fun z => ?_⟩
    · rw [e.cls]
      exact ap _ (List.mem_cons_self ..)
    · have z := of_decide_eq_true z
      subst z
      have q : Post G Fz α S H (pick c' fs ds ρ S ((c', o, su) :: r)) (FlowOk G De) (EW G W) := q
      unfold pick at q
      rw [if_pos rfl] at q
      cases ho : okO o ρ with
      | false =>
        rw [ho] at q
        exact q.elim
      | true =>
        rw [ho] at q
        exact su_in hps (fun i hi => by
          subst hi
          rw [sl.1.1]
          exact of_decide_eq_true ho) m sl e q a
    · have z := of_decide_eq_false z
      have q : Post G Fz α S H (pick c fs ds ρ S ((c', o, su) :: r)) (FlowOk G De) (EW G W) := q
      unfold pick at q
      rw [if_neg z] at q
      exact cz_in hps m sl e (fun p hp => ap p (List.mem_cons_of_mem _ hp)) q
theorem xs_try (hK : X.K = G.K) (hps : ∀ i σ o, G.ps σ → G.ps (σ.set i o)) (hs : X.stack = X.env :: X.outer) (hf : X.env.frame = some X.env.locals) (hN : X.N.Nodup) (tk : Takes X W) {ks : List Nat} (hap : ∀ c ∈ ks, Apart G c l)
    (hb : ∀ (W : WX) (pn : List (Addr × Obj)) (xe : Value → Shared → Prop), Takes (X.tr pn xe) W → PassesOwn (model X.prog X.w) X.A X.env xe → PSs (X.tr pn xe) body (RdS G W b)) (hh : CzOk G X (h0 :: hds) l) :
    PS X (.Try body (h0 :: hds) [] [] pos) (RdS G W (sTry ks b l)) := by
  refine ⟨fun pins s σ H D I hq => (ps_try_cl (tb := fun W => RdS G W b) hs hf hN tk hb hh.cl).run pins s σ H D I ?_⟩
  obtain ⟨Fz, α, S, ρ, m, sl, q⟩ := hq
  refine ⟨Fz, α, S, ρ, m, sl, ?_⟩
  unfold sTry at q
  rw [hK]
  cases hr : b ρ S with
  | bad => rw [hr] at q; exact q.elim
  | ok r S1 => rw [hr] at q; exact q
  | exn c fs ds ρ1 S1 =>
    rw [hr] at q
    dsimp only at q
    cases hk : ks.contains c with
    | false => rw [hk] at q; exact q.elim
    | true =>
      rw [hk, if_pos rfl] at q
      intro Fz' β H' cls d st m' e σ' sl'
      exact cz_in hps m' sl' e (hap c (by simpa using hk)) (Post.after st q)
end
end EV
set_option maxHeartbeats 1000000
namespace EV
open PySem L2
variable {G : SP} {Fz : Addr → Prop} {α : Nat → Addr} {S : Store} {H : Hp}

theorem look_non {v : V} (h : Look G Fz H .non v) : v = .non := by cases h with | at_ r => exact r
theorem look_bl {b : Bool} {v : V} (h : Look G Fz H (.bl b) v) : v = .bl b := by cases h with | at_ r => exact r
theorem look_int {i : Int} {v : V} (h : Look G Fz H (.int i) v) : v = .int i := by cases h with | at_ r => exact r
theorem look_str {x : Str} {v : V} (h : Look G Fz H (.str x) v) : v = .str x := by cases h with | at_ r => exact r
theorem look_lst {xs : List D} {v : V} (h : Look G Fz H (.lst xs) v) : ∃ a vs, v = .ref a ∧ SqL G.K H a vs ∧ vs.length ≤ 16777216 ∧ Reps G Fz H xs vs := by
  cases h with
  | at_ r =>
    obtain ⟨a, vs, e, h, l, r⟩ := r
    exact ⟨a, vs, e, h.elim (fun z => .inl z.2) .inr, l, r⟩
  | lst e l r => exact ⟨_, _, rfl, .inl (.inl e), l, r⟩
theorem look_tup {xs : List D} {v : V} (h : Look G Fz H (.tup xs) v) : ∃ a vs, v = .ref a ∧ SqT G.K H a vs ∧ vs.length ≤ 16777216 ∧ Reps G Fz H xs vs ∧ ((Fz a ∧ TupF H a vs) ∨ KTup G.K a vs) := by
  cases h with
  | at_ r =>
    obtain ⟨a, vs, e, h, l, r⟩ := r
    exact ⟨a, vs, e, h.elim (fun z => .inl z.2.rd) KTup.sq, l, r, h⟩
mutual
def toPy : D → Option PyData
  | .non => some .none
  | .bl b => some (.bool b)
  | .int i => some (.int i)
  | .str x => some (.str x)
  | .tup xs => (toPys xs).map .tuple
  | .lst xs => (toPys xs).map .list
  | .dK _ _ => none
  | .dT _ _ => none
  | .ins _ _ _ => none
  | .exc _ _ _ => none
  | .fn _ => none
  | .pr _ _ => none
def toPys : List D → Option (List PyData)
  | [] => some []
  | x :: xs => match toPy x, toPys xs with
    | some p, some ps => some (p :: ps)
    | _, _ => none
end
theorem toPys_cons {x : D} {xs : List D} {ps : List PyData} (h : toPys (x :: xs) = some ps) : ∃ p r, toPy x = some p ∧ toPys xs = some r ∧ ps = p :: r := by
  unfold toPys at h
  cases h1 : toPy x with
  | none => rw [h1] at h; cases h
  | some p =>
    cases h2 : toPys xs with
    | none => rw [h1, h2] at h; cases h
    | some r =>
      rw [h1, h2] at h
      exact ⟨p, r, rfl, rfl, (Option.some.inj h).symm⟩
mutual
theorem rep_dp : ∀ {d : D} {v : V} {p : PyData}, Rep G Fz H d v → toPy d = some p → Dp G.K H v p
  | .non, _, _, r, e => by cases e; cases (show _ = V.non from r); exact .non
  | .bl b, _, _, r, e => by cases e; cases (show _ = V.bl b from r); exact .bl b
  | .int b, _, _, r, e => by cases e; cases (show _ = V.int b from r); exact .int b
  | .str b, _, _, r, e => by cases e; cases (show _ = V.str b from r); exact .str b
  | .tup xs, _, p, ⟨a, vs, q, h, l, r⟩, e => by
    cases h1 : toPys xs with
    | none => unfold toPy at e; rw [h1] at e; cases e
    | some ps =>
      unfold toPy at e
      rw [h1] at e
      cases e
      subst q
      exact .tup (h.elim (fun z => .inl z.2.rd) KTup.sq) (reps_dp r h1)
  | .lst xs, _, p, ⟨a, vs, q, h, l, r⟩, e => by
    cases h1 : toPys xs with
    | none => unfold toPy at e; rw [h1] at e; cases e
    | some ps =>
      unfold toPy at e
      rw [h1] at e
      cases e
      subst q
      exact .lst (h.elim (fun z => .inl z.2) .inr) (reps_dp r h1)
  | .dK _ _, _, _, _, e => by cases e
  | .dT _ _, _, _, _, e => by cases e
  | .ins _ _ _, _, _, _, e => by cases e
  | .exc _ _ _, _, _, _, e => by cases e
  | .fn _, _, _, _, e => by cases e
  | .pr _ _, _, _, _, e => by cases e
theorem reps_dp : ∀ {ds : List D} {vs : List V} {ps : List PyData}, Reps G Fz H ds vs → toPys ds = some ps → DpAll G.K H vs ps
  | [], _, _, r, e => by cases e; cases (show _ = [] from r); exact .nil
  | x :: xs, _, _, ⟨v, r, q, h, t⟩, e => by
    obtain ⟨p, ps, e1, e2, e3⟩ := toPys_cons e
    subst q e3
    exact .cons (rep_dp h e1) (reps_dp t e2)
end
theorem look_dp {d : D} {v : V} {p : PyData} (h : Look G Fz H d v) (e : toPy d = some p) : Dp G.K H v p := by
  cases h with
  | at_ r => exact rep_dp r e
  | @lst a vs xs e1 l r =>
    cases h1 : toPys xs with
    | none => unfold toPy at e; rw [h1] at e; cases e
    | some ps =>
      unfold toPy at e
      rw [h1] at e
      cases e
      exact .lst (.inl (.inl e1)) (reps_dp r h1)
  | dK _ _ => cases e
  | dT _ _ => cases e
section
variable {X : Cx}
theorem opr_or {f : Value → Value → Sem Value} {r r' : R2} (h : OpR X f r) (h' : OpR X f r') : OpR X f (fun x y H Q => r x y H Q ∨ r' x y H Q) := fun pins s σ H x y v u Q I rx ry q =>
  q.elim (h pins s σ H x y v u Q I rx ry) (h' pins s σ H x y v u Q I rx ry)
def orO (o o' : D → D → Option D) : D → D → Option D := fun x y => match o x y with
  | some z => some z
  | none => o' x y
theorem Op2.or {f : Value → Value → Sem Value} {o o' : D → D → Option D} (h : Op2 G X f o) (h' : Op2 G X f o') : Op2 G X f (orO o o') := by
  obtain ⟨r, h1, h2⟩ := h
  obtain ⟨r', h1', h2'⟩ := h'
  refine ⟨_, opr_or h1 h1', fun Fz α S H x y z v u Q m l1 l2 e k => ?_⟩
  unfold orO at e
  cases q : o x y with
  | some z' =>
    rw [q] at e
    cases e
    exact .inl (h2 Fz α S H x y z v u Q m l1 l2 q k)
  | none =>
    rw [q] at e
    exact .inr (h2' Fz α S H x y z v u Q m l1 l2 e k)
def oI (C : Int → Int → Bool) (g : Int → Int → D) : D → D → Option D
  | .int i, .int j => if C i j = true then some (g i j) else none
  | _, _ => none
theorem op2_I {f : Value → Value → Sem Value} {C : Int → Int → Prop} {C' : Int → Int → Bool} {g : Int → Int → V} {g' : Int → Int → D} (h : OpR X f (rI C g)) (hC : ∀ i j, C' i j = true → C i j) (hg : ∀ Fz H i j, Rep G Fz H (g' i j) (g i j)) : Op2 G X f (oI C' g') :=
  ⟨_, h, fun Fz α S H x y z v u Q m l1 l2 e k => by
    unfold oI at e
    split at e
    · rename_i i j
      by_cases c : C' i j = true
      · rw [if_pos c] at e
        cases e
        exact ⟨i, j, look_int l1, look_int l2, hC i j c, k Fz H _ Step.refl m (hg _ _ _ _)⟩
      · rw [if_neg c] at e
        cases e
    · cases e⟩
theorem rI_of {f : Value → Value → Sem Value} {g : Int → Int → V} (h : OpR X f (rI0 g)) : OpR X f (rI (fun _ _ => True) g) := fun pins s σ H x y v u Q I rx ry ⟨i, j, e1, e2, _, q⟩ => h pins s σ H x y v u Q I rx ry ⟨i, j, e1, e2, q⟩
abbrev oI0 (g : Int → Int → D) : D → D → Option D := oI (fun _ _ => true) g
theorem op2_I0 {f : Value → Value → Sem Value} {g : Int → Int → V} {g' : Int → Int → D} (h : OpR X f (rI0 g)) (hg : ∀ Fz H i j, Rep G Fz H (g' i j) (g i j)) : Op2 G X f (oI0 g') := op2_I (rI_of h) (fun _ _ _ => trivial) hg
def oS (C : Str → Str → Bool) (g : Str → Str → D) : D → D → Option D
  | .str i, .str j => if C i j = true then some (g i j) else none
  | _, _ => none
theorem op2_S {f : Value → Value → Sem Value} {r : R2} {C : Str → Str → Bool} {g : Str → Str → D} (h : OpR X f r) (hr : ∀ i j H Q (w : V), C i j = true → (∀ Fz H, Rep G Fz H (g i j) w) → Q w H → r (.str i) (.str j) H Q) (w : Str → Str → V) (hw : ∀ i j Fz H, Rep G Fz H (g i j) (w i j)) : Op2 G X f (oS C g) :=
  ⟨_, h, fun Fz α S H x y z v u Q m l1 l2 e k => by
    unfold oS at e
    split at e
    · rename_i i j
      by_cases c : C i j = true
      · rw [if_pos c] at e
        cases e
        rw [look_str l1, look_str l2]
        exact hr i j H Q (w i j) c (hw i j) (k Fz H _ Step.refl m (hw _ _ _ _))
      · rw [if_neg c] at e
        cases e
    · cases e⟩
/-- tuple + tuple -/
def oCatT : D → D → Option D
  | .tup xs, .tup ys => if xs.length + ys.length ≤ 16777216 then some (.tup (xs ++ ys)) else none
  | _, _ => none
theorem op2_catT (hK : X.K = G.K) : Op2 G X (binaryOp .Add) oCatT := ⟨_, op_catF, fun Fz α S H x y z v u Q m l1 l2 e k => by
  unfold oCatT at e
  split at e
  · rename_i xs ys
    by_cases c : xs.length + ys.length ≤ 16777216
    · rw [if_pos c] at e
      cases e
      obtain ⟨a, vs, rfl, h1, h2, h3, h4⟩ := look_tup l1
      obtain ⟨b, us, rfl, k1, k2, k3, k4⟩ := look_tup l2
      have e1 := Reps.length h3
      have e2 := Reps.length k3
      refine ⟨a, b, vs, us, rfl, rfl, by rw [hK]; exact h1, by rw [hK]; exact k1, by rw [sizeLine_eq]; omega, fun z => ?_, fun z1 z2 => ?_, fun z1 z2 p o hp ho => ?_⟩
      · subst z
        have e3 : xs = [] := List.length_eq_zero_iff.mp (by simpa using e1)
        subst e3
        exact k Fz H _ Step.refl m ⟨b, us, rfl, k4, k2, k3⟩
      · subst z2
        have e3 : ys = [] := List.length_eq_zero_iff.mp (by simpa using e2)
        subst e3
        exact k Fz H _ Step.refl m ⟨a, vs, rfl, h4, h2, by rw [List.append_nil]; exact h3⟩
      · obtain ⟨s3, m3⟩ := new_frz (o := .frz o (.tup (vs ++ us))) m hp trivial
        exact k _ _ _ s3 m3 ⟨p, vs ++ us, rfl, .inl ⟨.inr rfl, ⟨o, upd_same, ho⟩⟩, by rw [List.length_append]; omega, Reps.mono s3.ext (Reps.append h3 k3)⟩
    · rw [if_neg c] at e
      cases e
  · cases e⟩
/-- list + list -/
def rCatL (K : PySem.W.Frag) : R2 := fun x y H Q => ∃ l b xs zs, x = .ref l ∧ y = .ref b ∧ SqL K H l xs ∧ SqL K H b zs ∧ xs.length + zs.length ≤ sizeLine ∧ ∀ p, H p = none → Q (.ref p) (upd H p (.lst (xs ++ zs)))
theorem op_catL : OpR X (binaryOp .Add) (rCatL X.K) := by
  intro pins s σ H x y v u Q I rx ry h
  obtain ⟨l, b, xs, zs, rfl, rfl, hx, hz, hl, q⟩ := h
  cases rx
  cases ry
  obtain ⟨its, r1, ⟨⟨cls, dd, data, sl⟩, n, ho, hc, hdn, hd⟩, _⟩ := I.list hx
  obtain ⟨its2, r2, ⟨⟨cls2, dd2, data2, sl2⟩, n2, ho2, hc2, hdn2, hd2⟩, _⟩ := I.list hz
  simp only at hc hd hc2 hd2
  subst hc hd hc2 hd2
  have e : its.toArray ++ its2.toArray = (its ++ its2).toArray := by simp
  have e1 := r1.length
  have e2 := r2.length
  refine concat_meets ⟨_, ho, rfl⟩ ⟨_, ho2, rfl⟩ noFill_list_add seq_list_add PySem.F.slot_list_add PySem.F.entry_list_add (PySem.F.args_list_add_2 _ _) (PyProof.Rows.list_addW l b its.toArray its2.toArray n n2 dd dd2 sl sl2 (by simp; omega)) ⟨ho, ho2, ?_⟩
  rw [e]
  exact ⟨.ref _, _, I.lnew (t' := s.toks) (r1.append r2) (by rw [List.length_append]; omega), rfl, q _ I.fresh⟩
def oCatL : D → D → Option D
  | .lst xs, .lst ys => if xs.length + ys.length ≤ 16777216 then some (.lst (xs ++ ys)) else none
  | _, _ => none
theorem op2_catL (hK : X.K = G.K) : Op2 G X (binaryOp .Add) oCatL := ⟨_, op_catL, fun Fz α S H x y z v u Q m l1 l2 e k => by
  unfold oCatL at e
  split at e
  · rename_i xs ys
    by_cases c : xs.length + ys.length ≤ 16777216
    · rw [if_pos c] at e
      cases e
      obtain ⟨a, vs, rfl, h1, h2, h3⟩ := look_lst l1
      obtain ⟨b, us, rfl, k1, k2, k3⟩ := look_lst l2
      have e1 := Reps.length h3
      have e2 := Reps.length k3
      refine ⟨a, b, vs, us, rfl, rfl, by rw [hK]; exact h1, by rw [hK]; exact k1, by rw [sizeLine_eq]; omega, fun p hp => ?_⟩
      obtain ⟨s3, m3⟩ := new_frz (o := .lst (vs ++ us)) m hp trivial
      exact k _ _ _ s3 m3 ⟨p, vs ++ us, rfl, .inl ⟨.inr rfl, .inl upd_same⟩, by rw [List.length_append]; omega, Reps.mono s3.ext (Reps.append h3 k3)⟩
    · rw [if_neg c] at e
      cases e
  · cases e⟩
def oAdd : D → D → Option D := orO (oI0 fun i j => .int (i + j)) (orO oCatT (orO oCatL (oS (fun i j => decide (i.length + j.length ≤ 16777216)) fun i j => .str (i ++ j))))
theorem op2_add (hK : X.K = G.K) : Op2 G X (binaryOp .Add) oAdd :=
  (op2_I0 (g' := fun i j => .int (i + j)) op_add fun _ _ _ _ => rfl).or ((op2_catT hK).or ((op2_catL hK).or (op2_S (w := fun i j => .str (i ++ j)) op_add_str (fun i j H Q w c hw q => by
    have e : w = .str (i ++ j) := hw (fun _ => False) H
    subst e
    exact ⟨i, j, rfl, rfl, by rw [sizeLine_eq]; exact of_decide_eq_true c, q⟩) fun _ _ _ _ => rfl)))
def oSub : D → D → Option D := oI0 fun i j => .int (i - j)
theorem op2_sub : Op2 G X (binaryOp .Sub) oSub := op2_I0 op_sub fun _ _ _ _ => rfl
def cMulB (i j : Int) : Bool := decide (i.natAbs < 18446744073709551616) || decide (j.natAbs < 18446744073709551616)
def oMul : D → D → Option D := oI cMulB fun i j => .int (i * j)
theorem op2_mul : Op2 G X (binaryOp .Mult) oMul := op2_I op_mul (fun i j h => by
  unfold cMulB at h
  unfold CMul
  rw [show (2 : Int) ^ 64 = 18446744073709551616 from rfl]
  rcases Bool.or_eq_true_iff.mp h with h | h
  · have := of_decide_eq_true h
    exact .inl (by omega)
  · have := of_decide_eq_true h
    exact .inr (by omega)) fun _ _ _ _ => rfl
def cDivB (_ j : Int) : Bool := decide (j ≠ 0) && decide (j.natAbs < 1073741824)
def oDiv : D → D → Option D := oI cDivB fun i j => .int (i.fdiv j)
theorem op2_div : Op2 G X (binaryOp .FloorDiv) oDiv := op2_I op_fdivN (fun i j h => by
  obtain ⟨h1, h2⟩ := Bool.and_eq_true_iff.mp h
  exact ⟨of_decide_eq_true h1, of_decide_eq_true h2⟩) fun _ _ _ _ => rfl
def oMod : D → D → Option D := oI (fun _ j => decide (j ≠ 0)) fun i j => .int (i.fmod j)
theorem op2_mod : Op2 G X (binaryOp .Mod) oMod := op2_I op_modN (fun i j h => of_decide_eq_true h) fun _ _ _ _ => rfl
def cPowB (i j : Int) : Bool := decide (0 ≤ j) && (decide (j ≤ 1000000) && decide (i.natAbs < 18446744073709551616))
def oPow : D → D → Option D := oI cPowB fun i j => .int (i ^ j.toNat)
theorem op2_pow : Op2 G X (binaryOp .Pow) oPow := op2_I op_pow (fun i j h => by
  obtain ⟨h1, h⟩ := Bool.and_eq_true_iff.mp h
  obtain ⟨h2, h3⟩ := Bool.and_eq_true_iff.mp h
  exact ⟨of_decide_eq_true h1, of_decide_eq_true h2, of_decide_eq_true h3⟩) fun _ _ _ _ => rfl
/-- ==, of what is read as data -/
def dEq (x y : D) : Option Bool := match toPy x, toPy y with
  | some p, some q => if (SeqAt.shaped p && SeqAt.shaped q) = true then some (PyData.eqv p q) else none
  | _, _ => none
theorem dEq_some {x y : D} {b : Bool} (h : dEq x y = some b) : ∃ p q, toPy x = some p ∧ toPy y = some q ∧ SeqAt.shaped p = true ∧ SeqAt.shaped q = true ∧ b = PyData.eqv p q := by
  unfold dEq at h
  cases h1 : toPy x with
  | none => rw [h1] at h; cases h
  | some p =>
    cases h2 : toPy y with
    | none => rw [h1, h2] at h; cases h
    | some q =>
      rw [h1, h2] at h
      dsimp only at h
      cases h3 : SeqAt.shaped p && SeqAt.shaped q with
      | false => rw [h3] at h; cases h
      | true =>
        rw [h3] at h
        obtain ⟨h4, h5⟩ := Bool.and_eq_true_iff.mp h3
        exact ⟨p, q, rfl, rfl, h4, h5, (Option.some.inj h).symm⟩
def oEq (x y : D) : Option D := (dEq x y).map .bl
def oNe (x y : D) : Option D := (dEq x y).map fun b => .bl (!b)
theorem op2_eq (hK : X.K = G.K) (hu : X.A.units + 64 < cLine) : Op2 G X (compareOp .Eq) oEq := ⟨_, op_eqD hu, fun Fz α S H x y z v u Q m l1 l2 e k => by
  unfold oEq at e
  obtain ⟨b, h, rfl⟩ := Option.map_eq_some_iff.mp e
  obtain ⟨p, q, h1, h2, h3, h4, rfl⟩ := dEq_some h
  exact ⟨p, q, by rw [hK]; exact look_dp l1 h1, by rw [hK]; exact look_dp l2 h2, h3, h4, k Fz H _ Step.refl m rfl⟩⟩
theorem op2_ne (hK : X.K = G.K) (hu : X.A.units + 64 < cLine) : Op2 G X (compareOp .NotEq) oNe := ⟨_, op_neD hu, fun Fz α S H x y z v u Q m l1 l2 e k => by
  unfold oNe at e
  obtain ⟨b, h, rfl⟩ := Option.map_eq_some_iff.mp e
  obtain ⟨p, q, h1, h2, h3, h4, rfl⟩ := dEq_some h
  exact ⟨p, q, by rw [hK]; exact look_dp l1 h1, by rw [hK]; exact look_dp l2 h2, h3, h4, k Fz H _ Step.refl m rfl⟩⟩
def nonPy : PyData → Bool
  | .none => true
  | _ => false
/-- <, of data that are alike -/
def dLt (x y : D) : Option Bool := match toPy x, toPy y with
  | some p, some q => if (SeqAt.shaped p && (PySem.W.alike p q && !nonPy p)) = true then some (PySem.W.dataLt p q) else none
  | _, _ => none
def rLtD (K : PySem.W.Frag) : R2 := fun x y H Q => ∃ d e, Dp K H x d ∧ Dp K H y e ∧ SeqAt.shaped d = true ∧ PySem.W.alike d e = true ∧ d ≠ .none ∧ Q (.bl (PySem.W.dataLt d e)) H
theorem op_ltD (hu : X.A.units + 64 < cLine) : OpR X (compareOp .Lt) (rLtD X.K) := by
  intro pins s σ H x y v u Q I rx ry h
  obtain ⟨d, e, hd, he, sd, al, nn, q⟩ := h
  obtain ⟨as, r1⟩ := Dp.reads I d x v hd rx
  obtain ⟨bs, r2⟩ := Dp.reads I e y u he ry
  have z : wpAny (model X.prog X.w) X.A (compareOp .Lt v u) (EP X pins σ Q) X.xe s := PySem.W.rcLt_alike d e X.A s v u as bs r1 r2 al nn (by
    have h1 := SeqAt.depth_of_shaped sd
    have h2 : min d.depth e.depth ≤ d.depth := Nat.min_le_left _ _
    omega) X.prog X.w X.xe (EP X pins σ Q) ⟨.bl _, H, I, rfl, q⟩
  exact z
def oLt (x y : D) : Option D := (dLt x y).map .bl
theorem op2_lt (hK : X.K = G.K) (hu : X.A.units + 64 < cLine) : Op2 G X (compareOp .Lt) (orO (oI0 fun i j => .bl (decide (i < j))) oLt) := (op2_I0 (g' := fun i j => .bl (decide (i < j))) op_lt fun _ _ _ _ => rfl).or ⟨_, op_ltD hu, fun Fz α S H x y z v u Q m l1 l2 e k => by
  unfold oLt at e
  obtain ⟨b, h, rfl⟩ := Option.map_eq_some_iff.mp e
  unfold dLt at h
  cases h1 : toPy x with
  | none => rw [h1] at h; cases h
  | some p =>
    cases h2 : toPy y with
    | none => rw [h1, h2] at h; cases h
    | some q =>
      rw [h1, h2] at h
      dsimp only at h
      split at h
      · rename_i c
        obtain ⟨c1, c⟩ := Bool.and_eq_true_iff.mp c
        obtain ⟨c2, c3⟩ := Bool.and_eq_true_iff.mp c
        cases h
        exact ⟨p, q, by rw [hK]; exact look_dp l1 h1, by rw [hK]; exact look_dp l2 h2, c1, c2, (fun z => by subst z; exact absurd c3 (by decide)), k Fz H _ Step.refl m rfl⟩
      · cases h⟩
def oLe : D → D → Option D := oI0 fun i j => .bl (decide (i ≤ j))
def oGt : D → D → Option D := oI0 fun i j => .bl (decide (j < i))
def oGe : D → D → Option D := oI0 fun i j => .bl (decide (j ≤ i))
theorem op2_le : Op2 G X (compareOp .LtE) oLe := op2_I0 op_le fun _ _ _ _ => rfl
theorem op2_gt : Op2 G X (compareOp .Gt) oGt := op2_I0 op_gt fun _ _ _ _ => rfl
theorem op2_ge : Op2 G X (compareOp .GtE) oGe := op2_I0 op_ge fun _ _ _ _ => rfl
/-- is None, is True -/
def isNonD : D → Bool
  | .non => true
  | _ => false
def oIs (neg : Bool) : D → D → Option D
  | x, .non => some (.bl (neg != isNonD x))
  | .bl a, .bl b => some (.bl (neg != decide (a = b)))
  | _, _ => none
theorem look_isN {x : D} {v : V} (h : Look G Fz H x v) : decide (v = V.non) = isNonD x := by
  cases h with
  | at_ r =>
    cases x with
    | non => cases (show v = V.non from r); rfl
    | bl b => cases (show v = V.bl b from r); rfl
    | int b => cases (show v = V.int b from r); rfl
    | str b => cases (show v = V.str b from r); rfl
    | tup xs => obtain ⟨a, vs, rfl, _⟩ := r; rfl
    | lst xs => obtain ⟨a, vs, rfl, _⟩ := r; rfl
    | dK _ _ => obtain ⟨a, vs, rfl, _⟩ := r; rfl
    | dT _ _ => obtain ⟨a, vs, rfl, _⟩ := r; rfl
    | ins _ _ _ => obtain ⟨a, dx, vs, rfl, _⟩ := r; rfl
    | exc _ _ _ => exact r.elim
    | fn n => cases (show v = V.ref (G.fad n) from r); rfl
    | pr _ _ => obtain ⟨a, vx, vy, rfl, _⟩ := r; rfl
  | lst _ _ _ => rfl
  | dK _ _ => rfl
  | dT _ _ => rfl
theorem op2_is : Op2 G X (compareOp .Is) (oIs false) := ⟨_, opr_or op_isN op_isBl, fun Fz α S H x y z v u Q m l1 l2 e k => by
  unfold oIs at e
  split at e
  · cases e
    refine .inl ⟨look_non l2, ?_⟩
    rw [look_isN l1]
    exact k Fz H _ Step.refl m (by cases isNonD x <;> rfl)
  · cases e
    rename_i a b
    exact .inr ⟨a, b, look_bl l1, look_bl l2, k Fz H _ Step.refl m (by cases a <;> cases b <;> rfl)⟩
  · cases e⟩
/-- in, not in: a list or a tuple of data -/
def rInSq (K : PySem.W.Frag) (neg : Bool) : R2 := fun x y H Q => ∃ d ds, Dp K H x d ∧ (Dp K H y (.list ds) ∨ Dp K H y (.tuple ds)) ∧ SeqAt.shaped d = true ∧ PyData.canLayAll0 ds = true ∧ Q (.bl (neg != (ds.any fun z => PyData.eqv z d))) H
theorem op_inSq (hu : X.A.units + 65 < cLine) : OpR X (compareOp .In) (rInSq X.K false) := by
  intro pins s σ H x y v u Q I rx ry h
  obtain ⟨d, ds, hd, he, sd, se, q⟩ := h
  obtain ⟨as, r1⟩ := Dp.reads I d x v hd rx
  have q2 : Q (.bl (ds.any fun z => PyData.eqv z d)) H := by
    have e : (false != (ds.any fun z => PyData.eqv z d)) = (ds.any fun z => PyData.eqv z d) := by cases (ds.any fun z => PyData.eqv z d) <;> rfl
    rw [e] at q
    exact q
  rcases he with he | he
  · obtain ⟨bs, r2⟩ := Dp.reads I (.list ds) y u he ry
    exact SeqAt.in_list_reads r2 r1 se (SeqAt.canLay_of_shaped sd) (PyProof.Rows.room_in_shaped sd hu) ⟨.bl _, H, I, rfl, q2⟩
  · obtain ⟨bs, r2⟩ := Dp.reads I (.tuple ds) y u he ry
    exact SeqAt.in_tuple_reads r2 r1 se (SeqAt.canLay_of_shaped sd) (PyProof.Rows.room_in_shaped sd hu) ⟨.bl _, H, I, rfl, q2⟩
theorem op_notInSq (hu : X.A.units + 65 < cLine) : OpR X (compareOp .NotIn) (rInSq X.K true) := by
  intro pins s σ H x y v u Q I rx ry h
  obtain ⟨d, ds, hd, he, sd, se, q⟩ := h
  obtain ⟨as, r1⟩ := Dp.reads I d x v hd rx
  have q2 : Q (.bl (!(ds.any fun z => PyData.eqv z d))) H := by
    have e : (true != (ds.any fun z => PyData.eqv z d)) = (!(ds.any fun z => PyData.eqv z d)) := by cases (ds.any fun z => PyData.eqv z d) <;> rfl
    rw [e] at q
    exact q
  rcases he with he | he
  · obtain ⟨bs, r2⟩ := Dp.reads I (.list ds) y u he ry
    exact SeqAt.notIn_list_reads r2 r1 se (SeqAt.canLay_of_shaped sd) (PyProof.Rows.room_in_shaped sd hu) ⟨.bl _, H, I, rfl, q2⟩
  · obtain ⟨bs, r2⟩ := Dp.reads I (.tuple ds) y u he ry
    exact SeqAt.notIn_tuple_reads r2 r1 se (SeqAt.canLay_of_shaped sd) (PyProof.Rows.room_in_shaped sd hu) ⟨.bl _, H, I, rfl, q2⟩
def seqPy : D → Option (List PyData)
  | .lst xs => toPys xs
  | .tup xs => toPys xs
  | _ => none
def dIn (x y : D) : Option Bool := match toPy x, seqPy y with
  | some p, some qs => if (SeqAt.shaped p && PyData.canLayAll0 qs) = true then some (qs.any fun z => PyData.eqv z p) else none
  | _, _ => none
def oIn (neg : Bool) (x y : D) : Option D := (dIn x y).map fun b => .bl (neg != b)
theorem look_seqPy {y : D} {u : V} {qs : List PyData} (h : Look G Fz H y u) (e : seqPy y = some qs) : Dp G.K H u (.list qs) ∨ Dp G.K H u (.tuple qs) := by
  cases y with
  | lst xs => exact .inl (look_dp h (by unfold toPy; rw [show toPys xs = some qs from e]; rfl))
  | tup xs => exact .inr (look_dp h (by unfold toPy; rw [show toPys xs = some qs from e]; rfl))
  | _ => cases e
theorem in_read {neg : Bool} (hK : X.K = G.K) {x y z : D} {v u : V} {Q : VK} (m : Sim G Fz α S H) (l1 : Look G Fz H x v) (l2 : Look G Fz H y u) (e : oIn neg x y = some z) (k : ∀ Fz' H' w, Step Fz α S H Fz' α S H' → Sim G Fz' α S H' → Rep G Fz' H' z w → Q w H') : rInSq X.K neg v u H Q := by
  unfold oIn at e
  obtain ⟨b, h, rfl⟩ := Option.map_eq_some_iff.mp e
  unfold dIn at h
  cases h1 : toPy x with
  | none => rw [h1] at h; cases h
  | some p =>
    cases h2 : seqPy y with
    | none => rw [h1, h2] at h; cases h
    | some q =>
      rw [h1, h2] at h
      dsimp only at h
      split at h
      · rename_i c
        obtain ⟨c1, c2⟩ := Bool.and_eq_true_iff.mp c
        cases h
        exact ⟨p, q, by rw [hK]; exact look_dp l1 h1, by rw [hK]; exact look_seqPy l2 h2, c1, c2, k Fz H _ Step.refl m rfl⟩
      · cases h
theorem op2_in (hK : X.K = G.K) (hu : X.A.units + 65 < cLine) : Op2 G X (compareOp .In) (oIn false) := ⟨_, op_inSq hu, fun Fz α S H x y z v u Q m l1 l2 e k => in_read hK m l1 l2 e k⟩
theorem op2_notin (hK : X.K = G.K) (hu : X.A.units + 65 < cLine) : Op2 G X (compareOp .NotIn) (oIn true) := ⟨_, op_notInSq hu, fun Fz α S H x y z v u Q m l1 l2 e k => in_read hK m l1 l2 e k⟩
end
end EV
set_option maxHeartbeats 1000000
namespace EV
open PySem L2
variable {G : SP} {Fz : Addr → Prop} {α : Nat → Addr} {S : Store} {H : Hp}

def views (S : Store) : List W → Option (List D)
  | [] => some []
  | w :: ws => match view S w, views S ws with
    | some x, some xs => some (x :: xs)
    | _, _ => none
def cBi (o : List D → Option D) (g : SmL) : Sm := fun ρ S => (g ρ S).bind fun ws S1 => match views S1 ws with
  | some ds => (match o ds with
    | some z => .ok (.d z) S1
    | none => .bad)
  | none => .bad
/-- a new list, that may change or not -/
def cBiL (mu : Bool) (o : List D → Option (List D)) (g : SmL) : Sm := fun ρ S => (g ρ S).bind fun ws S1 => match views S1 ws with
  | some ds => (match o ds with
    | some zs => if mu = true then .ok (.c S1.length) (S1 ++ [.lst true zs]) else .ok (.d (.lst zs)) S1
    | none => .bad)
  | none => .bad
abbrev Looks (G : SP) (Fz : Addr → Prop) (H : Hp) (ds : List D) (vs : List V) : Prop := Paired (fun x v => Look G Fz H x v) ds vs
theorem views_ok (m : Sim G Fz α S H) : ∀ {ws : List W} {ds : List D} {vs : List V}, views S ws = some ds → RepWs G Fz α S.length H ws vs → Looks G Fz H ds vs
  | [], ds, vs, e, r => by
    cases e
    cases r
    exact .nil
  | w :: ws, ds, _, e, .cons h t => by
    unfold views at e
    cases h1 : view S w with
    | none => rw [h1] at e; cases e
    | some x =>
      cases h2 : views S ws with
      | none => rw [h1, h2] at e; cases e
      | some xs =>
        rw [h1, h2] at e
        cases e
        exact .cons (view_ok m h1 h) (views_ok m h2 t)
def FnB (G : SP) (r : List V → Hp → VK → Prop) (o : List D → Option D) : Prop := ∀ (Fz : Addr → Prop) (α : Nat → Addr) (S : Store) (H : Hp) (ds : List D) (vs : List V) (z : D) (Q : VK), Sim G Fz α S H → Looks G Fz H ds vs → o ds = some z →
  (∀ Fz' H' w, Step Fz α S H Fz' α S H' → Sim G Fz' α S H' → Rep G Fz' H' z w → Q w H') → r vs H Q
def FnL (G : SP) (r : List V → Hp → VK → Prop) (o : List D → Option (List D)) : Prop := ∀ (Fz : Addr → Prop) (α : Nat → Addr) (S : Store) (H : Hp) (ds : List D) (vs : List V) (zs : List D) (Q : VK), Sim G Fz α S H → Looks G Fz H ds vs → o ds = some zs →
  (∀ us p, Reps G Fz H zs us → us.length ≤ 16777216 → H p = none → Q (.ref p) (upd H p (.lst us))) → r vs H Q
theorem rd_bi {W : WX} {r : List V → Hp → VK → Prop} {o : List D → Option D} {g : SmL} (hr : FnB G r o) {σ : L2.St} {H : Hp} {Q : VK} (h : RdE G W (cBi o g) σ H Q) : tCB r (RdA G W g) σ H Q := by
  obtain ⟨Fz, α, S, ρ, m, sl, q⟩ := h
  refine ⟨Fz, α, S, ρ, m, sl, (Post.bind q).mono fun F1 α1 S1 H1 ws st m1 q1 vs rs => ?_⟩
  cases h1 : views S1 ws with
  | none => rw [h1] at q1; exact q1.elim
  | some ds =>
    rw [h1] at q1
    dsimp only at q1
    cases h2 : o ds with
    | none => rw [h2] at q1; exact q1.elim
    | some z =>
      rw [h2] at q1
      exact hr F1 α1 S1 H1 ds vs z Q m1 (views_ok m1 h1 rs) h2 fun F2 H2 w s2 m2 r2 => q1 F2 α1 H2 s2 m2 w r2
theorem rd_biL {W : WX} {r : List V → Hp → VK → Prop} {mu : Bool} {o : List D → Option (List D)} {g : SmL} (hr : FnL G r o) {σ : L2.St} {H : Hp} {Q : VK} (h : RdE G W (cBiL mu o g) σ H Q) : tCB r (RdA G W g) σ H Q := by
  obtain ⟨Fz, α, S, ρ, m, sl, q⟩ := h
  refine ⟨Fz, α, S, ρ, m, sl, (Post.bind q).mono fun F1 α1 S1 H1 ws st m1 q1 vs rs => ?_⟩
  cases h1 : views S1 ws with
  | none => rw [h1] at q1; exact q1.elim
  | some ds =>
    rw [h1] at q1
    dsimp only at q1
    cases h2 : o ds with
    | none => rw [h2] at q1; exact q1.elim
    | some zs =>
      rw [h2] at q1
      refine hr F1 α1 S1 H1 ds vs zs Q m1 (views_ok m1 h1 rs) h2 fun us p ru hl hp => ?_
      cases mu with
      | false =>
        obtain ⟨s3, m3⟩ := new_frz (o := .lst us) m1 hp trivial
        exact q1 _ _ _ s3 m3 _ ⟨p, us, rfl, .inl ⟨.inr rfl, .inl upd_same⟩, hl, Reps.mono s3.ext ru⟩
      | true =>
        obtain ⟨s3, m3⟩ := new_cell (o := .lst us) (c := .lst true zs) m1 hp (fun _ z => by cases z) fun st => ⟨us, upd_same, hl, Reps.mono st.ext ru, fun _ => m1.free hp, fun z => by cases z⟩
        exact q1 _ _ _ s3 m3 _ ⟨by simp, by show V.ref p = _; rw [setA, if_pos rfl]⟩
section
variable {X : Cx} {W : WX} {x : Str} {id : String} {T : String} {r : List V → Hp → VK → Prop} {o : List D → Option D} {oL : List D → Option (List D)} {mu : Bool} {g : SmL} {e : Expr} {es : List Expr} {p pos : Pos}
theorem ex_bi (hr : FnB G r o) (hc : CallR X (.builtin id) r) (hg : Gl X x) (hm : X.mg x = none) (hv : bootBuiltins x = some (.builtin id)) (ha : PA X (e :: es) (RdA G W g)) (hn : x ≠ "__name__") (hdb : (x == ("__debug__" : Str)) = false)
    (he : starEach (e :: es) X.env = (false, eval e X.env) :: starEach es X.env) (hpl : (backTo pos (starEach es X.env)).any (·.1) = false) : PE X (.Call (.Name x p) (e :: es) [] pos) (RdE G W (cBi o g)) :=
  pe_le (pe_callB hc hg hm hv ha hn hdb he hpl) fun σ H Q h => rd_bi hr h
theorem ex_biL (hr : FnL G r oL) (hc : CallR X (.builtin id) r) (hg : Gl X x) (hm : X.mg x = none) (hv : bootBuiltins x = some (.builtin id)) (ha : PA X (e :: es) (RdA G W g)) (hn : x ≠ "__name__") (hdb : (x == ("__debug__" : Str)) = false)
    (he : starEach (e :: es) X.env = (false, eval e X.env) :: starEach es X.env) (hpl : (backTo pos (starEach es X.env)).any (·.1) = false) : PE X (.Call (.Name x p) (e :: es) [] pos) (RdE G W (cBiL mu oL g)) :=
  pe_le (pe_callB hc hg hm hv ha hn hdb he hpl) fun σ H Q h => rd_biL hr h
theorem ex_ty (hr : FnB G r o) (hc : CallR X (.type T) r) (hg : Gl X x) (hm : X.mg x = none) (hv : bootBuiltins x = some (.type T)) (ha : PA X (e :: es) (RdA G W g)) (hn : x ≠ "__name__") (hdb : (x == ("__debug__" : Str)) = false)
    (he : starEach (e :: es) X.env = (false, eval e X.env) :: starEach es X.env) (hpl : (backTo pos (starEach es X.env)).any (·.1) = false) : PE X (.Call (.Name x p) (e :: es) [] pos) (RdE G W (cBi o g)) :=
  pe_le (pe_callTy hc hg hm hv ha hn hdb he hpl) fun σ H Q h => rd_bi hr h
theorem ex_tyL (hr : FnL G r oL) (hc : CallR X (.type T) r) (hg : Gl X x) (hm : X.mg x = none) (hv : bootBuiltins x = some (.type T)) (ha : PA X (e :: es) (RdA G W g)) (hn : x ≠ "__name__") (hdb : (x == ("__debug__" : Str)) = false)
    (he : starEach (e :: es) X.env = (false, eval e X.env) :: starEach es X.env) (hpl : (backTo pos (starEach es X.env)).any (·.1) = false) : PE X (.Call (.Name x p) (e :: es) [] pos) (RdE G W (cBiL mu oL g)) :=
  pe_le (pe_callTy hc hg hm hv ha hn hdb he hpl) fun σ H Q h => rd_biL hr h
end
theorem cr_or {X : Cx} {f : Value} {r r' : List V → Hp → VK → Prop} (h : CallR X f r) (h' : CallR X f r') : CallR X f (fun vs H Q => r vs H Q ∨ r' vs H Q) := fun pins s σ H xs us Q I rs q =>
  q.elim (h pins s σ H xs us Q I rs) (h' pins s σ H xs us Q I rs)
theorem looks1 {x : D} {vs : List V} (h : Looks G Fz H [x] vs) : ∃ v, vs = [v] ∧ Look G Fz H x v := by
  cases h with
  | cons h t => cases t; exact ⟨_, rfl, h⟩
theorem looks2 {x y : D} {vs : List V} (h : Looks G Fz H [x, y] vs) : ∃ v u, vs = [v, u] ∧ Look G Fz H x v ∧ Look G Fz H y u := by
  cases h with
  | cons h t =>
    obtain ⟨u, rfl, h2⟩ := looks1 t
    exact ⟨_, u, rfl, h, h2⟩

def fLen : List D → Option D
  | [.lst xs] => some (.int xs.length)
  | [.tup xs] => some (.int xs.length)
  | [.str z] => if z.length ≤ 16777216 then some (.int z.length) else none
  | [.dK ks _] => some (.int ks.length)
  | _ => none
theorem look_dK {ks : List Key} {ds : List D} {v : V} (h : Look G Fz H (.dK ks ds) v) : ∃ a kvs, v = .ref a ∧ H a = some (.dK kvs) ∧ ks = kvs.map (·.1) ∧ Reps G Fz H ds (kvs.map (·.2)) := by
  cases h with
  | at_ r =>
    obtain ⟨a, kvs, e, f, h, k, r⟩ := r
    exact ⟨a, kvs, e, h, k, r⟩
  | dK e r => exact ⟨_, _, rfl, e, rfl, r⟩
theorem cr_len {X : Cx} : CallR X (.builtin "len") (fun vs H Q => (∃ p ys, vs = [.ref p] ∧ (SqL X.K H p ys ∨ SqT X.K H p ys) ∧ Q (.int ys.length) H) ∨ (∃ z, vs = [.str z] ∧ z.length ≤ sizeLine ∧ Q (.int z.length) H) ∨ (∃ a kvs, vs = [V.ref a] ∧ H a = some (.dK kvs) ∧ Q (.int kvs.length) H)) :=
  cr_or call_len_seq (cr_or call_len_str call_lenD)
theorem fb_len {K : PySem.W.Frag} (hK : K = G.K) : FnB G (fun vs H Q => (∃ p ys, vs = [.ref p] ∧ (SqL K H p ys ∨ SqT K H p ys) ∧ Q (.int ys.length) H) ∨ (∃ z, vs = [.str z] ∧ z.length ≤ sizeLine ∧ Q (.int z.length) H) ∨ (∃ a kvs, vs = [V.ref a] ∧ H a = some (.dK kvs) ∧ Q (.int kvs.length) H)) fLen := fun Fz α S H ds vs z Q m l e k => by
  subst hK
  unfold fLen at e
  split at e
  · cases e
    obtain ⟨v, rfl, h⟩ := looks1 l
    obtain ⟨a, us, rfl, h1, h2, h3⟩ := look_lst h
    exact .inl ⟨a, us, rfl, .inl h1, k Fz H _ Step.refl m (by rw [Reps.length h3]; rfl)⟩
  · cases e
    obtain ⟨v, rfl, h⟩ := looks1 l
    obtain ⟨a, us, rfl, h1, h2, h3, _⟩ := look_tup h
    exact .inl ⟨a, us, rfl, .inr h1, k Fz H _ Step.refl m (by rw [Reps.length h3]; rfl)⟩
  · rename_i z
    obtain ⟨v, rfl, h⟩ := looks1 l
    cases look_str h
    by_cases c : z.length ≤ 16777216
    · rw [if_pos c] at e
      cases e
      exact .inr (.inl ⟨z, rfl, by rw [sizeLine_eq]; exact c, k Fz H _ Step.refl m rfl⟩)
    · rw [if_neg c] at e
      cases e
  · cases e
    obtain ⟨v, rfl, h⟩ := looks1 l
    obtain ⟨a, kvs, rfl, h1, h2, _⟩ := look_dK h
    exact .inr (.inr ⟨a, kvs, rfl, h1, k Fz H _ Step.refl m (by rw [h2, List.length_map]; rfl)⟩)
  · cases e
def fAbs : List D → Option D
  | [.int i] => some (.int (if i < 0 then -i else i))
  | _ => none
theorem fb_abs : FnB G (fun xs H Q => ∃ i, xs = [.int i] ∧ Q (.int (if i < 0 then -i else i)) H) fAbs := fun Fz α S H ds vs z Q m l e k => by
  unfold fAbs at e
  split at e
  · cases e
    obtain ⟨v, rfl, h⟩ := looks1 l
    cases look_int h
    exact ⟨_, rfl, k Fz H _ Step.refl m rfl⟩
  · cases e
def fInt : List D → Option D
  | [.int i] => some (.int i)
  | [.bl b] => some (.int (if b then 1 else 0))
  | _ => none
theorem fb_int : FnB G (fun xs H Q => (∃ i, xs = [.int i] ∧ Q (.int i) H) ∨ ∃ k, xs = [.bl k] ∧ Q (.int (if k then 1 else 0)) H) fInt := fun Fz α S H ds vs z Q m l e k => by
  unfold fInt at e
  split at e
  · cases e
    obtain ⟨v, rfl, h⟩ := looks1 l
    cases look_int h
    exact .inl ⟨_, rfl, k Fz H _ Step.refl m rfl⟩
  · cases e
    obtain ⟨v, rfl, h⟩ := looks1 l
    cases look_bl h
    exact .inr ⟨_, rfl, k Fz H _ Step.refl m rfl⟩
  · cases e
def fStr : List D → Option D
  | [.int i] => if i.natAbs.log2 < 1920 then some (.str (toString i)) else none
  | _ => none
theorem fb_str : FnB G (fun xs H Q => ∃ i : Int, xs = [.int i] ∧ i.natAbs.log2 < 1920 ∧ Q (.str (toString i)) H) fStr := fun Fz α S H ds vs z Q m l e k => by
  unfold fStr at e
  split at e
  · rename_i i
    obtain ⟨v, rfl, h⟩ := looks1 l
    cases look_int h
    by_cases c : i.natAbs.log2 < 1920
    · rw [if_pos c] at e
      cases e
      exact ⟨_, rfl, c, k Fz H _ Step.refl m rfl⟩
    · rw [if_neg c] at e
      cases e
  · cases e
def fMax2 : List D → Option D
  | [.int i, .int j] => some (.int (if j > i then j else i))
  | _ => none
def fMin2 : List D → Option D
  | [.int i, .int j] => some (.int (if j < i then j else i))
  | _ => none
theorem fb_max2 : FnB G (fun xs H Q => ∃ i j, xs = [.int i, .int j] ∧ Q (.int (if j > i then j else i)) H) fMax2 := fun Fz α S H ds vs z Q m l e k => by
  unfold fMax2 at e
  split at e
  · cases e
    obtain ⟨v, u, rfl, h, h2⟩ := looks2 l
    cases look_int h
    cases look_int h2
    exact ⟨_, _, rfl, k Fz H _ Step.refl m rfl⟩
  · cases e
theorem fb_min2 : FnB G (fun xs H Q => ∃ i j, xs = [.int i, .int j] ∧ Q (.int (if j < i then j else i)) H) fMin2 := fun Fz α S H ds vs z Q m l e k => by
  unfold fMin2 at e
  split at e
  · cases e
    obtain ⟨v, u, rfl, h, h2⟩ := looks2 l
    cases look_int h
    cases look_int h2
    exact ⟨_, _, rfl, k Fz H _ Step.refl m rfl⟩
  · cases e
def intsD : List D → Option (List Int)
  | [] => some []
  | .int i :: r => (intsD r).map (i :: ·)
  | _ => none
def blsD : List D → Option (List Bool)
  | [] => some []
  | .bl i :: r => (blsD r).map (i :: ·)
  | _ => none
theorem reps_ints : ∀ {xs : List D} {vs : List V} {ns : List Int}, Reps G Fz H xs vs → intsD xs = some ns → vs = ns.map V.int
  | [], _, _, r, e => by cases e; exact r
  | x :: xs, _, ns, ⟨v, us, q, h, t⟩, e => by
    cases x with
    | int i =>
      unfold intsD at e
      obtain ⟨r, h1, rfl⟩ := Option.map_eq_some_iff.mp e
      rw [q, reps_ints t h1, show v = V.int i from h]
      rfl
    | _ => cases e
theorem reps_bls : ∀ {xs : List D} {vs : List V} {ns : List Bool}, Reps G Fz H xs vs → blsD xs = some ns → vs = ns.map V.bl
  | [], _, _, r, e => by cases e; exact r
  | x :: xs, _, ns, ⟨v, us, q, h, t⟩, e => by
    cases x with
    | bl i =>
      unfold blsD at e
      obtain ⟨r, h1, rfl⟩ := Option.map_eq_some_iff.mp e
      rw [q, reps_bls t h1, show v = V.bl i from h]
      rfl
    | _ => cases e
def fAll : List D → Option D
  | [.lst xs] => (blsD xs).map fun bs => .bl (bs.all id)
  | _ => none
theorem fb_all {K : PySem.W.Frag} (hK : K = G.K) : FnB G (rAll K) fAll := fun Fz α S H ds vs z Q m l e k => by
  subst hK
  unfold fAll at e
  split at e
  · obtain ⟨ns, h0, rfl⟩ := Option.map_eq_some_iff.mp e
    obtain ⟨v, rfl, h⟩ := looks1 l
    obtain ⟨a, us, rfl, h1, h2, h3⟩ := look_lst h
    rw [reps_bls h3 h0] at h1
    exact ⟨a, ns, rfl, h1, k Fz H _ Step.refl m rfl⟩
  · cases e
def fTuple : List D → Option D
  | [.lst xs] => some (.tup xs)
  | [.tup xs] => some (.tup xs)
  | _ => none
def fList : List D → Option (List D)
  | [.lst xs] => some xs
  | [.tup xs] => some xs
  | _ => none
theorem fb_tuple {K : PySem.W.Frag} (hK : K = G.K) : FnB G (rTupF K) fTuple := fun Fz α S H ds vs z Q m l e k => by
  subst hK
  unfold fTuple at e
  split at e
  · cases e
    obtain ⟨v, rfl, h⟩ := looks1 l
    obtain ⟨a, us, rfl, h1, h2, h3⟩ := look_lst h
    refine ⟨a, us, rfl, .inl ⟨h1, fun p o hp ho => ?_⟩⟩
    obtain ⟨s3, m3⟩ := new_frz (o := .frz o (.tup us)) m hp trivial
    exact k _ _ _ s3 m3 ⟨p, us, rfl, .inl ⟨.inr rfl, ⟨o, upd_same, ho⟩⟩, h2, Reps.mono s3.ext h3⟩
  · cases e
    obtain ⟨v, rfl, h⟩ := looks1 l
    obtain ⟨a, us, rfl, h1, h2, h3, h4⟩ := look_tup h
    exact ⟨a, us, rfl, .inr ⟨h1, k Fz H _ Step.refl m ⟨a, us, rfl, h4, h2, h3⟩⟩⟩
  · cases e
theorem fl_list {K : PySem.W.Frag} (hK : K = G.K) : FnL G (fun xs H Q => ∃ p ys, xs = [.ref p] ∧ (SqL K H p ys ∨ SqT K H p ys) ∧ ∀ l, H l = none → Q (.ref l) (upd H l (.lst ys))) fList := fun Fz α S H ds vs z Q m l e k => by
  subst hK
  unfold fList at e
  split at e
  · cases e
    obtain ⟨v, rfl, h⟩ := looks1 l
    obtain ⟨a, us, rfl, h1, h2, h3⟩ := look_lst h
    exact ⟨a, us, rfl, .inl h1, fun p hp => k us p h3 h2 hp⟩
  · cases e
    obtain ⟨v, rfl, h⟩ := looks1 l
    obtain ⟨a, us, rfl, h1, h2, h3, h4⟩ := look_tup h
    exact ⟨a, us, rfl, .inr h1, fun p hp => k us p h3 h2 hp⟩
  · cases e
def pyD (d : D) : PyData := (toPy d).getD .none
def dLe : D → D → Bool := PySem.W.dataLe false pyD
def srtOk (ds : List PyData) : Bool := (ds.all fun d => ds.all fun d' => PySem.W.alike d d') && ((ds.all fun d => match d with
    | .tuple (_ :: _) => true
    | _ => false) || (ds.all fun d => match d with
    | .none => false
    | .tuple _ => false
    | _ => true)) && ds.all fun d => SeqAt.shaped d
def seqD : D → Option (List D)
  | .lst xs => some xs
  | .tup xs => some xs
  | _ => none
def fSorted : List D → Option (List D)
  | [x] => match seqD x with
    | some xs => (match toPys xs with
      | some ds => if srtOk ds = true then some (xs.mergeSort dLe) else none
      | none => none)
    | none => none
  | _ => none
theorem AllOk {ds : List PyData} (h : srtOk ds = true) : PySem.W.AllAlike ds ∧ PySem.W.Sortable ds ∧ ∀ d ∈ ds, SeqAt.shaped d = true := by
  unfold srtOk at h
  obtain ⟨h, h3⟩ := Bool.and_eq_true_iff.mp h
  obtain ⟨h1, h2⟩ := Bool.and_eq_true_iff.mp h
  refine ⟨fun d hd d' hd' => ?_, ?_, fun d hd => List.all_eq_true.mp h3 d hd⟩
  · exact List.all_eq_true.mp (List.all_eq_true.mp h1 d hd) d' hd'
  · rcases Bool.or_eq_true_iff.mp h2 with h2 | h2
    · refine .inl fun d hd => ?_
      have z := List.all_eq_true.mp h2 d hd
      cases d with
      | tuple xs =>
        cases xs with
        | nil => cases z
        | cons x r => exact ⟨x, r, rfl⟩
      | _ => cases z
    · refine .inr fun d hd => ?_
      have z := List.all_eq_true.mp h2 d hd
      cases d with
      | none => cases z
      | tuple xs => cases z
      | _ => exact ⟨fun q => (by cases q), fun _ q => (by cases q)⟩
/-- what a tuple holds, as a new list within -/
theorem got_tup {prog : Program} {w : World} {A : Around} {E : Value → Shared → Prop} {s : Shared} {t : Addr} {us : List Value} {Q : List Value → Shared → Prop} (ht : s.heap.IsTuple t us.toArray) (hz : us.length ≤ sizeLine)
    (k : Q us { s with heap := (s.heap.push (PyProof.Rows.seqObj "list" #[] 0)).update s.heap.objs.size (Obj.mapSeq (· ++ us.toArray)) }) : wpAny (model prog w) A (collect (.ref t)) Q E s := by
  obtain ⟨ob, hob, hcl, n, hdt⟩ := ht
  have hob' : (s.heap.push (PyProof.Rows.seqObj "list" #[] 0)).get? t = some ob := Heap.get?_push_of_some _ hob
  have hnew : (s.heap.push (PyProof.Rows.seqObj "list" #[] 0)).get? s.heap.objs.size = some (PyProof.Rows.seqObj "list" #[] 0) := Heap.get?_push_size _ rfl
  unfold collect
  refine wpAny_bind (wpAny_runValue (codeAny_builtin PyProof.Rows.entry_proto_collect' (wpAny_bind (wpAny_newList (wpAny_pure ⟨Code.quiet_builtin _ (by decide +kernel), codeAny_builtin PyProof.Rows.entry_list_iadd' ?_⟩)))))
  show wpAny _ _ (Builtin.List.listExtendWith (.ref s.heap.objs.size) (.ref t) (.ref s.heap.objs.size)) _ _ { s with heap := s.heap.push (PyProof.Rows.seqObj "list" #[] 0) }
  unfold Builtin.List.listExtendWith
  refine wpAny_bind (wpAny_typeOf (T := "tuple") ⟨ob, hob', hcl⟩ ?_)
  rw [if_pos (by rw [show (Value.type "tuple" == Value.type "tuple") = true from rfl]; simp)]
  refine wpAny_bind (PyProof.Rows.listItems_at hob' hdt (wpAny_bind (PyProof.Rows.listItems_at (xs := #[]) (n := 0) hnew rfl ?_)))
  rw [if_neg (by simp)]
  refine wpAny_bind (PyProof.Rows.listUpdate_at (xs := #[]) (n := 0) hnew rfl (wpAny_pure ?_) (Nat.zero_le _) (by simp; omega))
  refine wpAny_bind (wpAny_load (PyProof.Rows.get?_update_seq hnew _) ?_)
  have e : ((#[] : Array Value) ++ us.toArray).toList = us := by simp
  refine wpAny_pure ?_
  rw [e]
  exact k
theorem sorted_tupD {prog : Program} {w : World} {A : Around} {E : Value → Shared → Prop} {s : Shared} {β : Type} {bs : List β} {enc : β → PyData} {R : Value → β → Prop} {t : Addr} {us : List Value} {Q : Value → Shared → Prop} (ht : s.heap.IsTuple t us.toArray)
    (e : PySem.W.EachIs R us bs) (er : PySem.W.EachIs (fun v b => ∃ as, Reads s.heap v (enc b) as) us bs) (hal : PySem.W.AllAlike (bs.map enc)) (hk : PySem.W.Sortable (bs.map enc)) (hL : bs.length ≤ sizeLine) (hu : ∀ b, b ∈ bs → A.units + 2 + (enc b).depth < cLine)
    (k : ∀ out, out.length = bs.length → PySem.W.EachIs R out (bs.mergeSort (PySem.W.dataLe false enc)) → Q (.ref (s.heap.objs.size + 1)) { s with heap := PyProof.Rows.sortedAll s.heap us (List.toArray out) }) :
    wpAny (model prog w) A (call (.builtin "sorted") [.ref t]) Q E s := by
  have hz : us.length ≤ sizeLine := by rw [e.length]; exact hL
  have er2 : PySem.W.EachIs (fun v b => ∃ as, Reads (PySem.W.sortingHeap (PySem.W.copyHeap s.heap us) (s.heap.objs.size + 1) us) v (enc b) as) us bs :=
    er.mono fun _ _ ⟨as, r⟩ => ⟨as, PyProof.Rows.Reads.keeps (fun _ _ => PySem.W.sorting_copy_old) r⟩
  refine PyProof.Rows.call_function_entry_kw PyProof.Rows.kind_sorted PyProof.Rows.plain_sorted PyProof.Rows.entry_sorted (PyProof.Rows.args_sorted1 _) ?_
  unfold Builtin.«sorted»
  refine wpAny_bind (m := checkCount "sorted" 1 1 _) (wpAny_pure (wpAny_bind (got_tup ht hz (wpAny_bind (wpAny_newList ?_ hz)))))
  have eq : ((s.heap.push (PyProof.Rows.seqObj "list" #[] 0)).update s.heap.objs.size (Obj.mapSeq (· ++ us.toArray))).objs.size = s.heap.objs.size + 1 := by
    rw [Heap.size_update, PyProof.Rows.size_push']
  show wpAny _ _ _ _ _ { s with heap := PySem.W.copyHeap s.heap us }
  rw [eq]
  refine wpAny_bind (wpAny_holding (PyProof.Rows.wpAny_call_entry_kw PyProof.Rows.slot_list_sort ⟨_, PySem.W.copyHeap_at s.heap us, rfl⟩ PyProof.Rows.entry_list_sort ?b (PyProof.Rows.args_list_sort _)))
  case b =>
    refine wpAny_mono (PySem.W.list_sort_vals (A := A.in1.in1) (κ := PySem.W.dataKind _ (bs.map enc)) (s := { s with heap := PySem.W.copyHeap s.heap us }) (P := fun f s' => f = .done (.ret .none) ∧ Q (.ref (s.heap.objs.size + 1)) s') (PySem.W.copyHeap_at s.heap us)
      (PySem.W.SortsAt.data (PySem.W.each_map (R := fun v d => ∃ as, Reads (PySem.W.sortingHeap (PySem.W.copyHeap s.heap us) (s.heap.objs.size + 1) us) v d as) enc er2) hal hk (PySem.W.bound_map hu)) hz
      ⟨rfl, k _ (by rw [PySem.W.sortVals_length false rfl]; exact e.length) (PySem.W.sortVals_data false e er2 hal)⟩) (fun f s' hf => ?_) fun _ _ z => z
    obtain ⟨rfl, hq⟩ := hf
    exact ⟨_, rfl, wpAny_pure ⟨_, rfl, hq⟩⟩
/-- sorted(x) of a list or a tuple of data: xs the items, zs what they are -/
def rSrtD (K : PySem.W.Frag) : List V → Hp → VK → Prop := fun vs H Q => ∃ (a : Addr) (xs : List V) (zs : List D), vs = [.ref a] ∧ (SqL K H a xs ∨ SqT K H a xs) ∧ zs.length = xs.length ∧ DpAll K H xs (zs.map pyD) ∧ srtOk (zs.map pyD) = true ∧
  ∀ p, H p = none → Q (.ref p) (upd H p (.lst (((xs.zip zs).mergeSort (PySem.W.dataLe false fun b => pyD b.2)).map (·.1))))
theorem each_zip {R : Value → V → Prop} : ∀ {xs : List V} {zs : List D} {us : List Value}, zs.length = xs.length → Paired (fun x u => R u x) xs us → PySem.W.EachIs (fun u (b : V × D) => R u b.1) us (xs.zip zs)
  | [], [], _, _, .nil => .nil
  | x :: xs, z :: zs, _, h, .cons r t => .cons r (each_zip (by simpa using h) t)
  | [], _ :: _, _, h, _ => by simp at h
  | _ :: _, [], _, h, _ => by simp at h
theorem vals_each : ∀ {bs : List (V × D)} {us : List Value}, PySem.W.EachIs (fun u (b : V × D) => RelV b.1 u) us bs → Vals (bs.map (·.1)) us
  | _, _, .nil => .nil
  | _, _, .cons r t => .cons r (vals_each t)
theorem zip_snd : ∀ {xs : List V} {zs : List D}, zs.length = xs.length → (xs.zip zs).map (·.2) = zs
  | [], [], _ => rfl
  | x :: xs, z :: zs, h => by
    show z :: (xs.zip zs).map (·.2) = _
    rw [zip_snd (by simpa using h)]
  | [], _ :: _, h => by simp at h
  | _ :: _, [], h => by simp at h
theorem reads_zip {h : Heap} : ∀ {zs : List D} {xs : List V} {us : List Value} {as : List Addr}, zs.length = xs.length → us.length = xs.length → ReadsAll h us (zs.map pyD) as → PySem.W.EachIs (fun v (b : V × D) => ∃ as, Reads h v (pyD b.2) as) us (xs.zip zs)
  | [], [], [], _, _, _, _ => .nil
  | z :: zs, x :: xs, u :: us, _, h1, h2, r => by
    have r' : ReadsAll h (u :: us) (pyD z :: zs.map pyD) _ := r
    cases r' with
    | cons r1 r2 => exact .cons ⟨_, r1⟩ (reads_zip (by simpa using h1) (by simpa using h2) r2)
  | [], _ :: _, _, _, h, _, _ => by simp at h
  | _ :: _, [], _, _, h, _, _ => by simp at h
  | [], [], _ :: _, _, _, h, _ => by simp at h
  | _ :: _, _ :: _, [], _, _, h, _ => by simp at h
theorem cr_srtD {X : Cx} (hu : X.A.units + 70 < cLine) : CallR X (.builtin "sorted") (rSrtD X.K) := by
  intro pins s σ H vs us Q I r h
  obtain ⟨a, xs, zs, rfl, hs, hl, hd, hok, q⟩ := h
  obtain ⟨u, rfl, ru⟩ := L2.vals1 r
  cases ru
  obtain ⟨al, so, sh⟩ := AllOk hok
  have em : (xs.zip zs).map (fun b => pyD b.2) = zs.map pyD := by
    have : (xs.zip zs).map (fun b => pyD b.2) = ((xs.zip zs).map (·.2)).map pyD := by rw [List.map_map]; rfl
    rw [this, zip_snd hl]
  have eL : (xs.zip zs).length = xs.length := by simp [hl]
  have hdep : ∀ b, b ∈ xs.zip zs → X.A.units + 2 + (pyD b.2).depth < cLine := fun b hb => by
    have : pyD b.2 ∈ zs.map pyD := by
      rw [← em]
      exact List.mem_map.mpr ⟨b, hb, rfl⟩
    have := SeqAt.depth_of_shaped (sh _ this)
    omega
  have fin : ∀ its : List Value, Vals xs its → xs.length ≤ sizeLine → ∀ out : List Value, out.length = (xs.zip zs).length → PySem.W.EachIs (fun u (b : V × D) => RelV b.1 u) out ((xs.zip zs).mergeSort (PySem.W.dataLe false fun b => pyD b.2)) →
      EP X pins σ Q (.ref (s.heap.objs.size + 1)) { s with heap := PyProof.Rows.sortedAll s.heap its (List.toArray out) } := fun its rv hz out ho he => by
    obtain ⟨ep, he'⟩ := PyProof.Rows.sortedAll_at s.heap its (List.toArray out)
    refine ⟨.ref _, _, I.laid (t' := s.toks) (o := .lst (((xs.zip zs).mergeSort (PySem.W.dataLe false fun b => pyD b.2)).map (·.1))) (fun _ _ => PyProof.Rows.sortedAll_old) (Nat.le_succ _) ⟨?_, out, ep, vals_each he, he'⟩, rfl, q _ (I.hok.fresh (Nat.le_succ _))⟩
    rw [List.length_map, List.length_mergeSort, eL]
    exact hz
  rcases hs with hs | hs
  · obtain ⟨its, rv, pl, hz⟩ := I.list hs
    obtain ⟨as, ra⟩ := Dp.readsAll I _ _ its hd rv
    refine PySem.W.sorted_data (bs := xs.zip zs) (enc := fun b => pyD b.2) (R := fun u b => RelV b.1 u) pl.isList (each_zip hl rv) (reads_zip hl rv.length.symm ra) (by rw [em]; exact al) (by rw [em]; exact so) (by rw [eL]; exact hz) hdep fun out ho he => fin its rv hz out ho he
  · obtain ⟨its, rv, pl, hz⟩ := I.tuple hs
    obtain ⟨as, ra⟩ := Dp.readsAll I _ _ its hd rv
    refine sorted_tupD (bs := xs.zip zs) (enc := fun b => pyD b.2) (R := fun u b => RelV b.1 u) pl (each_zip hl rv) (reads_zip hl rv.length.symm ra) (by rw [em]; exact al) (by rw [em]; exact so) (by rw [eL]; exact hz) hdep fun out ho he => fin its rv hz out ho he
theorem toPys_map : ∀ {zs : List D} {ds : List PyData}, toPys zs = some ds → zs.map pyD = ds
  | [], _, e => by cases e; rfl
  | x :: xs, _, e => by
    obtain ⟨p, r, e1, e2, rfl⟩ := toPys_cons e
    show pyD x :: xs.map pyD = _
    rw [toPys_map e2]
    unfold pyD
    rw [e1]
    rfl
theorem reps_pairs : ∀ {L : List (V × D)}, (∀ b ∈ L, Rep G Fz H b.2 b.1) → Reps G Fz H (L.map (·.2)) (L.map (·.1))
  | [], _ => rfl
  | b :: L, h => Reps.cons (h b (List.mem_cons_self ..)) (reps_pairs fun c hc => h c (List.mem_cons_of_mem _ hc))
theorem zip_reps : ∀ {zs : List D} {xs : List V}, Reps G Fz H zs xs → ∀ b ∈ xs.zip zs, Rep G Fz H b.2 b.1
  | [], _, h, b, hb => by
    cases (show _ = [] from h)
    simp at hb
  | z :: zs, _, ⟨v, r, q, h, t⟩, b, hb => by
    subst q
    rcases List.mem_cons.mp (show b ∈ (v, z) :: r.zip zs from hb) with e | e
    · subst e; exact h
    · exact zip_reps t b e
theorem fl_sorted {K : PySem.W.Frag} (hK : K = G.K) : FnL G (rSrtD K) fSorted := fun Fz α S H ds vs zs Q m l e k => by
  subst hK
  unfold fSorted at e
  split at e
  · rename_i x
    cases h0 : seqD x with
    | none => rw [h0] at e; cases e
    | some xs =>
      rw [h0] at e
      dsimp only at e
      cases h1 : toPys xs with
      | none => rw [h1] at e; cases e
      | some ps =>
        rw [h1] at e
        dsimp only at e
        by_cases c : srtOk ps = true
        · rw [if_pos c] at e
          cases e
          obtain ⟨v, rfl, h⟩ := looks1 l
          have key : ∃ a us, v = .ref a ∧ (SqL G.K H a us ∨ SqT G.K H a us) ∧ us.length ≤ 16777216 ∧ Reps G Fz H xs us := by
            cases x with
            | lst ys =>
              cases h0
              obtain ⟨a, us, rfl, h1, h2, h3⟩ := look_lst h
              exact ⟨a, us, rfl, .inl h1, h2, h3⟩
            | tup ys =>
              cases h0
              obtain ⟨a, us, rfl, h1, h2, h3, _⟩ := look_tup h
              exact ⟨a, us, rfl, .inr h1, h2, h3⟩
            | _ => cases h0
          obtain ⟨a, us, rfl, h2, h3, h4⟩ := key
          have hl := Reps.length h4
          have e1 : ((us.zip xs).mergeSort (PySem.W.dataLe false fun b => pyD b.2)).map (·.2) = xs.mergeSort dLe := by
            rw [List.map_mergeSort (r := PySem.W.dataLe false fun b : V × D => pyD b.2) (s := dLe) (f := fun b : V × D => b.2) (fun a _ b _ => rfl), zip_snd hl]
          refine ⟨a, us, xs, rfl, h2, hl, by rw [toPys_map h1]; exact reps_dp h4 h1, by rw [toPys_map h1]; exact c, fun p hp => k _ p ?_ ?_ hp⟩
          · rw [← e1]
            exact reps_pairs fun b hb => zip_reps h4 b ((List.mergeSort_perm _ _).mem_iff.mp hb)
          · rw [List.length_map, List.length_mergeSort]
            simp [hl]
            exact h3
        · rw [if_neg c] at e
          cases e
  · cases e
end EV
set_option maxHeartbeats 1000000
namespace EV
open PySem L2
variable {G : SP}

def cChn (o o' : D → D → Option D) (f g h : Sm) : Sm := fun ρ S => (f ρ S).bind fun v S1 => (g ρ S1).bind fun w S2 => match view S2 v, view S2 w with
  | some x, some y => (match o x y with
    | some (.bl true) => (h ρ S2).bind fun u S3 => (match view S3 w, view S3 u with
      | some y', some z => (match o' y' z with
        | some r => .ok (.d r) S3
        | none => .bad)
      | _, _ => .bad)
    | some (.bl false) => .ok (.d (.bl false)) S2
    | _ => .bad)
  | _, _ => .bad
section
variable {X : Cx} {W : WX} {a b c e : Expr} {es : List Expr} {f g h : Sm} {gs : SmL} {pos : Pos} {o o' : D → D → Option D} {r r' : R2}
abbrev OpRead (G : SP) (r : R2) (o : D → D → Option D) : Prop := ∀ (Fz : Addr → Prop) (α : Nat → Addr) (S : Store) (H : Hp) (x y z : D) (v u : V) (Q : VK), Sim G Fz α S H → Look G Fz H x v → Look G Fz H y u → o x y = some z →
      (∀ Fz' H' w, Step Fz α S H Fz' α S H' → Sim G Fz' α S H' → Rep G Fz' H' z w → Q w H') → r v u H Q
theorem chn_read (hr : OpRead G r o) (hr' : OpRead G r' o') {σ : L2.St} {H : Hp} {Q : VK} (q : RdE G W (cChn o o' f g h) σ H Q) : tChain r r' (RdE G W f) (RdE G W g) (RdE G W h) σ H Q := by
  obtain ⟨Fz, α, S, ρ, m, sl, q⟩ := q
  refine ⟨Fz, α, S, ρ, m, sl, (Post.bind q).mono fun F1 α1 S1 H1 w st m1 q1 v rv => ⟨F1, α1, S1, ρ, m1, sl.mono st, (Post.bind q1).mono fun F2 α2 S2 H2 w2 st2 m2 q2 u ru => ?_⟩⟩
  cases h1 : view S2 w with
  | none => rw [h1] at q2; exact q2.elim
  | some x =>
    cases h2 : view S2 w2 with
    | none =>
      rw [h1, h2] at q2
      exact q2.elim
    | some y =>
      rw [h1, h2] at q2
      dsimp only at q2
      cases h3 : o x y with
      | none => rw [h3] at q2; exact q2.elim
      | some z =>
        rw [h3] at q2
        refine hr F2 α2 S2 H2 x y z v u _ m2 (view_ok m2 h1 (RepW.mono st2 rv)) (view_ok m2 h2 ru) h3 fun F3 H3 k st3 m3 r3 => ?_
        cases z with
        | bl k =>
          cases (show _ = V.bl k from r3)
          refine ⟨k, rfl, ?_⟩
          cases k with
          | false =>
            rw [if_neg (by decide)]
            exact (Post.after st3 q2).now m3 (.bl false) rfl
          | true =>
            rw [if_pos rfl]
            refine ⟨F3, α2, S2, ρ, m3, ((sl.mono st).mono st2).mono st3, (Post.bind (Post.after st3 q2)).mono fun F4 α4 S4 H4 w4 st4 m4 q4 v4 r4 => ?_⟩
            cases h5 : view S4 w2 with
            | none => rw [h5] at q4; exact q4.elim
            | some y' =>
              cases h6 : view S4 w4 with
              | none => rw [h5, h6] at q4; exact q4.elim
              | some z =>
                rw [h5, h6] at q4
                dsimp only at q4
                cases h7 : o' y' z with
                | none => rw [h7] at q4; exact q4.elim
                | some t =>
                  rw [h7] at q4
                  exact hr' F4 α4 S4 H4 y' z t u v4 Q m4 (view_ok m4 h5 (RepW.mono st4 (RepW.mono st3 ru))) (view_ok m4 h6 r4) h7 fun F5 H5 k st5 m5 r5 => q4 F5 α4 H5 st5 m5 k r5
        | _ => exact q2.elim
theorem ex_chn {op op' : CmpOp} (ho : Op2 G X (compareOp op) o) (ho' : Op2 G X (compareOp op') o') (hf : PE X a (RdE G W f)) (hg : PE X b (RdE G W g)) (hh : PE X c (RdE G W h)) (hm : lastMarks [op, op'] [b, c] = false) : PE X (.Compare a [op, op'] [b, c] pos) (RdE G W (cChn o o' f g h)) := by
  obtain ⟨r, h1, h2⟩ := ho
  obtain ⟨r', h1', h2'⟩ := ho'
  exact pe_le (pe_chain h1 h1' hf hg hh hm) fun σ H Q q => chn_read h2 h2' q
def cNeg (f : Sm) : Sm := fun ρ S => (f ρ S).bind fun w S1 => match w with
  | .d (.int i) => .ok (.d (.int (-i))) S1
  | _ => .bad
theorem ex_neg (hf : PE X a (RdE G W f)) : PE X (.UnaryOp .USub a pos) (RdE G W (cNeg f)) :=
  pe_le (pe_un un_neg hf) fun σ H Q ⟨Fz, α, S, ρ, m, sl, q⟩ => ⟨Fz, α, S, ρ, m, sl, (Post.bind q).mono fun F1 α1 S1 H1 w st m1 q1 v rv => by
    cases w with
    | c k => exact q1.elim
    | d x =>
      cases x with
      | int i =>
        cases (show _ = V.int i from rv)
        exact ⟨i, rfl, q1.now m1 _ rfl⟩
      | _ => exact q1.elim⟩
def oIx : D → D → Option D
  | .lst xs, .int i => atI xs i
  | .tup xs, .int i => atI xs i
  | .str z, .int i => if z.length ≤ 16777216 then (atI z.cps.toList i).map fun c => .str ⟨#[c]⟩ else none
  | _, _ => none
theorem reps_at {Fz : Addr → Prop} {H : Hp} {ds : List D} {vs : List V} {i : Int} {d : D} (r : Reps G Fz H ds vs) (e : atI ds i = some d) : ∃ v, atI vs i = some v ∧ Rep G Fz H d v := by
  unfold atI at e ⊢
  obtain ⟨j, h1, h2⟩ := Option.bind_eq_some_iff.mp e
  rw [Reps.length r] at h1
  obtain ⟨v, h3, h4⟩ := Reps.get r h2
  exact ⟨v, by rw [h1]; exact h3, h4⟩
theorem ix_read {K : PySem.W.Frag} (hK : K = G.K) : OpRead G (rIx K) oIx := fun Fz α S H x y z v u Q m l1 l2 e k => by
  subst hK
  unfold oIx at e
  split at e
  · obtain ⟨a, vs, rfl, h1, h2, h3⟩ := look_lst l1
    obtain ⟨w, h4, h5⟩ := reps_at h3 e
    exact .inl ⟨a, vs, _, w, rfl, look_int l2, h1, h4, k Fz H _ Step.refl m h5⟩
  · obtain ⟨a, vs, rfl, h1, h2, h3, _⟩ := look_tup l1
    obtain ⟨w, h4, h5⟩ := reps_at h3 e
    exact .inr (.inl ⟨a, vs, _, w, rfl, look_int l2, h1, h4, k Fz H _ Step.refl m h5⟩)
  · rename_i z i
    by_cases c : z.length ≤ 16777216
    · rw [if_pos c] at e
      obtain ⟨t, h1, rfl⟩ := Option.map_eq_some_iff.mp e
      exact .inr (.inr ⟨z, i, t, look_str l1, look_int l2, by rw [sizeLine_eq]; exact c, h1, k Fz H _ Step.refl m rfl⟩)
    · rw [if_neg c] at e
      cases e
  · cases e
theorem ex_ix (hK : X.K = G.K) (hf : PE X a (RdE G W f)) (hg : PE X b (RdE G W g)) (hs : PlainIx b) : PE X (.Subscript a b pos) (RdE G W (cOp2 oIx f g)) :=
  pe_le (pe_ix ix_seq hf hg hs) fun σ H Q q => op2_read hf hg (ix_read hK) q
def cutD {A : Type} (xs : List A) (lo hi : Option Int) : List A := (xs.drop (HT.sIx xs.length 0 lo)).take (HT.sIx xs.length xs.length hi - HT.sIx xs.length 0 lo)
abbrev SmO := Env' → Store → R (Option Int)
def oNone : SmO := fun _ S => .ok none S
def oSome (f : Sm) : SmO := fun ρ S => (f ρ S).bind fun w S1 => match w with
  | .d (.int i) => .ok (some i) S1
  | _ => .bad
def RdO (G : SP) (W : WX) (f : SmO) : TO := fun σ H Q => ∃ Fz α S ρ, Sim G Fz α S H ∧ Slots G Fz α S.length H σ ρ ∧ Post G Fz α S H (f ρ S) (fun Fz' β S' H' o => Q o H') (EW G W)
theorem xo_none : PO X none (RdO G W oNone) := ⟨fun pins s σ H Q I ⟨Fz, α, S, ρ, m, sl, q⟩ => po_none.run pins s σ H Q I (q.now m)⟩
theorem xo_some (hf : PE X e (RdE G W f)) : PO X (some e) (RdO G W (oSome f)) := ⟨fun pins s σ H Q I ⟨Fz, α, S, ρ, m, sl, q⟩ => (po_some hf).run pins s σ H Q I ⟨Fz, α, S, ρ, m, sl, (Post.bind q).mono fun F1 α1 S1 H1 w st m1 q1 v rv => by
    cases w with
    | c k => exact q1.elim
    | d x =>
      cases x with
      | int i =>
        cases (show _ = V.int i from rv)
        exact ⟨i, rfl, q1.now m1⟩
      | _ => exact q1.elim⟩⟩
def cSl (mu : Bool) (f : Sm) (lo hi : SmO) : Sm := fun ρ S => (f ρ S).bind fun w S1 => (lo ρ S1).bind fun l S2 => (hi ρ S2).bind fun u S3 => match view S3 w with
  | some (.lst xs) => newL mu (cutD xs l u) S3
  | some (.tup xs) => .ok (.d (.tup (cutD xs l u))) S3
  | some (.str z) => if z.length ≤ 16777216 then .ok (.d (.str (cutS z l u))) S3 else .bad
  | _ => .bad
theorem cut_whole {A : Type} {xs : List A} {lo hi : Option Int} (h : HT.sIx xs.length 0 lo = 0 ∧ HT.sIx xs.length xs.length hi = xs.length) : cutD xs lo hi = xs := by
  unfold cutD
  rw [h.1, h.2]
  simp
theorem ex_sl {mu : Bool} {lo hi : Option Expr} {l u : SmO} {p2 : Pos} (hK : X.K = G.K) (hf : PE X a (RdE G W f)) (hl : PO X lo (RdO G W l)) (hu : PO X hi (RdO G W u)) : PE X (.Subscript a (.Slice lo hi none p2) pos) (RdE G W (cSl mu f l u)) :=
  pe_le (pe_slice (SlR.or sl_list (SlR.or sl_tupF sl_str)) hf hl hu) fun σ H Q ⟨Fz, α, S, ρ, m, sl, q⟩ => ⟨Fz, α, S, ρ, m, sl, (Post.bind q).mono fun F1 α1 S1 H1 w st m1 q1 v rv =>
    ⟨F1, α1, S1, ρ, m1, sl.mono st, (Post.bind q1).mono fun F2 α2 S2 H2 lo st2 m2 q2 => ⟨F2, α2, S2, ρ, m2, (sl.mono st).mono st2, (Post.bind q2).mono fun F3 α3 S3 H3 hi st3 m3 q3 => by
    cases h1 : view S3 w with
    | none => rw [h1] at q3; exact q3.elim
    | some x =>
      rw [h1] at q3
      have lk := view_ok m3 h1 (RepW.mono st3 (RepW.mono st2 rv))
      cases x with
      | lst xs =>
        obtain ⟨a, vs, rfl, h1, h2, h3⟩ := look_lst lk
        have hl := Reps.length h3
        have hr : Reps G F3 H3 (cutD xs lo hi) (cutV vs lo hi) := by
          unfold cutD cutV
          rw [hl]
          exact Reps.take _ (Reps.drop _ h3)
        have hz : (cutV vs lo hi).length ≤ 16777216 := Nat.le_trans (cutV_length _ _ _) h2
        refine .inl ⟨a, vs, rfl, by rw [hK]; exact h1, fun p hp => ?_⟩
        cases mu with
        | false =>
          obtain ⟨s4, m4⟩ := new_frz (o := .lst (cutV vs lo hi)) m3 hp trivial
          exact q3 _ _ _ s4 m4 _ ⟨p, _, rfl, .inl ⟨.inr rfl, .inl upd_same⟩, hz, Reps.mono s4.ext hr⟩
        | true =>
          obtain ⟨s4, m4⟩ := new_cell (o := .lst (cutV vs lo hi)) (c := .lst true (cutD xs lo hi)) m3 hp (fun _ z => by cases z) fun st => ⟨_, upd_same, hz, Reps.mono st.ext hr, fun _ => m3.free hp, fun z => by cases z⟩
          exact q3 _ _ _ s4 m4 _ ⟨by simp, by show V.ref p = _; rw [setA, if_pos rfl]⟩
      | tup xs =>
        obtain ⟨a, vs, rfl, h1, h2, h3, h4⟩ := look_tup lk
        have hl := Reps.length h3
        have hr : Reps G F3 H3 (cutD xs lo hi) (cutV vs lo hi) := by
          unfold cutD cutV
          rw [hl]
          exact Reps.take _ (Reps.drop _ h3)
        have hz : (cutV vs lo hi).length ≤ 16777216 := Nat.le_trans (cutV_length _ _ _) h2
        refine .inr (.inl ⟨a, vs, rfl, by rw [hK]; exact h1, fun hw => ?_, fun hw p o hp ho => ?_⟩)
        · dsimp only at q3
          rw [cut_whole (by rw [hl]; exact hw)] at q3
          exact q3.now m3 _ ⟨a, vs, rfl, h4, h2, h3⟩
        · obtain ⟨s4, m4⟩ := new_frz (o := .frz o (.tup (cutV vs lo hi))) m3 hp trivial
          exact q3 _ _ _ s4 m4 _ ⟨p, _, rfl, .inl ⟨.inr rfl, ⟨o, upd_same, ho⟩⟩, hz, Reps.mono s4.ext hr⟩
      | str z =>
        cases look_str lk
        by_cases c : z.length ≤ 16777216
        · dsimp only at q3
          rw [if_pos c] at q3
          exact .inr (.inr ⟨z, rfl, by rw [sizeLine_eq]; exact c, q3.now m3 _ rfl⟩)
        · dsimp only at q3
          rw [if_neg c] at q3
          exact q3.elim
      | _ => exact q3.elim⟩⟩⟩
def sAsg (t : Tg) (f : Sm) : SmS := fun ρ S => (f ρ S).bind fun w S1 => match frz S1 w with
  | some (d, S2) => (match t.put d ρ with
    | some ρ' => .ok (.nx ρ') S2
    | none => .bad)
  | none => .bad
theorem xs_asg {t : Tg} {tg : Expr} (he : PE X e (RdE G W f)) (hg : PG X tg (RdG G t)) (hs : swapsWithSole [tg] e pos.line X.env = pure false) (hw : swappedStores [tg] e X.env = pure none) (h1 : (assignEach [tg] X.env).map (·.2) = [assign tg X.env]) :
    PS X (.Assign [tg] e pos) (RdS G W (sAsg t f)) := ps_le (ps_asg he hg hs hw h1) fun D σ H ⟨Fz, α, S, ρ, m, sl, q⟩ => ⟨Fz, α, S, ρ, m, sl, (Post.bind q).mono fun F1 α1 S1 H1 w st m1 q1 v rv => by
  cases h1 : frz S1 w with
  | none => rw [h1] at q1; exact q1.elim
  | some p =>
    obtain ⟨d, S2⟩ := p
    rw [h1] at q1
    dsimp only at q1
    obtain ⟨F2, st2, m2, r2⟩ := frz_ok m1 h1 rv
    cases h2 : t.put d ρ with
    | none => rw [h2] at q1; exact q1.elim
    | some ρ' =>
      rw [h2] at q1
      exact ⟨F2, α1, S2, ρ, d, ρ', m2, (sl.mono st).mono st2, r2, h2, fun σ' sl' _ => (Post.after st2 q1).now m2 σ' sl'⟩⟩
def sSetIx (f o i : Sm) : SmS := fun ρ S => (f ρ S).bind fun w S1 => (o ρ S1).bind fun a S2 => (i ρ S2).bind fun j S3 => match frz S3 w with
  | some (d, S4) => (match a, j with
    | .c k, .d (.int n) => (match S4[k]? with
      | some (.lst true xs) => (match ixN xs.length n with
        | some t => .ok (.nx ρ) (S4.set k (.lst true (xs.set t d)))
        | none => .bad)
      | _ => .bad)
    | _, _ => .bad)
  | none => .bad
theorem xs_setIx {spos : Pos} (he : PE X e (RdE G W f)) (ho : PE X a (RdE G W g)) (hi : PE X b (RdE G W h)) (ha : ∀ v, assign (.Subscript a b spos) X.env v = (do
      let ov ← holding [v] (eval a X.env)
      let iv ← holding [v, ov] (eval b X.env)
      standAt spos
      holding [v, ov, iv] (setItem ov iv v)
      release [v, ov, iv] []))
    (hs : swapsWithSole [.Subscript a b spos] e pos.line X.env = pure false) (hw : swappedStores [.Subscript a b spos] e X.env = pure none) (h1 : (assignEach [.Subscript a b spos] X.env).map (·.2) = [assign (.Subscript a b spos) X.env]) :
    PS X (.Assign [.Subscript a b spos] e pos) (RdS G W (sSetIx f g h)) :=
  ps_le (ps_asg he (pg_sub ho hi set_list ha) hs hw h1) fun D σ H ⟨Fz, α, S, ρ, m, sl, q⟩ => ⟨Fz, α, S, ρ, m, sl, (Post.bind q).mono fun F1 α1 S1 H1 w st m1 q1 v rv =>
    ⟨F1, α1, S1, ρ, m1, sl.mono st, (Post.bind q1).mono fun F2 α2 S2 H2 w2 st2 m2 q2 u ru => ⟨F2, α2, S2, ρ, m2, (sl.mono st).mono st2, (Post.bind q2).mono fun F3 α3 S3 H3 w3 st3 m3 q3 t rt => by
    cases h1 : frz S3 w with
    | none => rw [h1] at q3; exact q3.elim
    | some p =>
      obtain ⟨d, S4⟩ := p
      rw [h1] at q3
      dsimp only at q3
      obtain ⟨F4, st4, m4, r4⟩ := frz_ok m3 h1 (RepW.mono st3 (RepW.mono st2 rv))
      cases w2 with
      | d _ => exact q3.elim
      | c k =>
        cases w3 with
        | c _ => exact q3.elim
        | d x =>
          cases x with
          | int n =>
            cases (show _ = V.int n from rt)
            obtain ⟨hk, rfl⟩ := RepW.mono st4 (RepW.mono st3 ru)
            dsimp only at q3
            cases h2 : S4[k]? with
            | none => rw [h2] at q3; exact q3.elim
            | some cl =>
              rw [h2] at q3
              cases cl with
              | lst b xs =>
                cases b with
                | false => exact q3.elim
                | true =>
                  dsimp only at q3
                  cases h3 : ixN xs.length n with
                  | none => rw [h3] at q3; exact q3.elim
                  | some t =>
                    rw [h3] at q3
                    obtain ⟨vs, e1, e2, e3, e4, e5⟩ := m4.cell k _ h2
                    have hl := Reps.length e3
                    refine ⟨α3 k, vs, n, t, rfl, rfl, e1, by rw [← hl]; exact h3, ?_⟩
                    obtain ⟨s5, m5⟩ := set_cell (c' := .lst true (xs.set t d)) (o := .lst (vs.set t v)) m4 h2 (e4 rfl) fun st => ⟨_, upd_same, by rw [List.length_set]; exact e2, Reps.mono st.ext (Reps.set r4 t e3), fun _ => e4 rfl, fun z => by cases z⟩
                    exact (Post.after st4 q3) _ _ _ s5 m5 σ ((((sl.mono st).mono st2).mono st3).mono (st4.trans s5))
              | _ => exact q3.elim
          | _ => exact q3.elim⟩⟩⟩
/-- the receiver's items, the arguments: the items behind, the answer -/
abbrev LM := List D → List D → Option (List D × D)
def cLm (h : LM) (o : Sm) (g : SmL) : Sm := fun ρ S => (o ρ S).bind fun w S1 => match w with
  | .c k => (match S1[k]? with
    | some (.lst _ _) => (g ρ S1).bind fun ws S2 => (match frzL S2 ws with
      | some (ds, S3) => (match S3[k]? with
        | some (.lst true xs) => (match h xs ds with
          | some (ys, z) => .ok (.d z) (S3.set k (.lst true ys))
          | none => .bad)
        | _ => .bad)
      | none => .bad)
    | _ => .bad)
  | _ => .bad
def LmR (G : SP) (r : V → List V → Hp → VK → Prop) (h : LM) : Prop := ∀ (Fz : Addr → Prop) (H : Hp) (a : Addr) (vs us : List V) (xs ds ys : List D) (z : D) (Q : VK), H a = some (.lst vs) → vs.length ≤ 16777216 → Reps G Fz H xs vs → Reps G Fz H ds us → h xs ds = some (ys, z) →
  (∀ vs' zv, Reps G Fz H ys vs' → vs'.length ≤ 16777216 → Rep G Fz H z zv → Q zv (upd H a (.lst vs'))) → r (.ref a) us H Q
theorem lm_read {r : V → List V → Hp → VK → Prop} {hh : LM} (hK : X.K = G.K) (hr : LmR G r hh) {σ : L2.St} {H : Hp} {Q : VK} (q : RdE G W (cLm hh f gs) σ H Q) : tBM X.K "list" r (RdE G W f) (RdA G W gs) σ H Q := by
  obtain ⟨Fz, α, S, ρ, m, sl, q⟩ := q
  refine ⟨Fz, α, S, ρ, m, sl, (Post.bind q).mono fun F1 α1 S1 H1 w st m1 q1 v rv => ?_⟩
  cases w with
  | d _ => exact q1.elim
  | c k =>
    obtain ⟨hk, rfl⟩ := rv
    dsimp only at q1
    cases h1 : S1[k]? with
    | none => rw [h1] at q1; exact q1.elim
    | some cl =>
      rw [h1] at q1
      cases cl with
      | lst b xs0 =>
        obtain ⟨vs0, e0, _⟩ := m1.cell k _ h1
        refine ⟨.inl ⟨rfl, vs0, .inl (.inl e0)⟩, F1, α1, S1, ρ, m1, sl.mono st, (Post.bind q1).mono fun F2 α2 S2 H2 ws st2 m2 q2 us rs => ?_⟩
        cases h2 : frzL S2 ws with
        | none => rw [h2] at q2; exact q2.elim
        | some p =>
          obtain ⟨ds, S3⟩ := p
          rw [h2] at q2
          dsimp only at q2
          obtain ⟨F3, st3, m3, r3⟩ := frzL_ok m2 h2 rs
          cases h3 : S3[k]? with
          | none => rw [h3] at q2; exact q2.elim
          | some c3 =>
            rw [h3] at q2
            cases c3 with
            | lst b xs =>
              cases b with
              | false => exact q2.elim
              | true =>
                dsimp only at q2
                cases h4 : hh xs ds with
                | none => rw [h4] at q2; exact q2.elim
                | some p =>
                  obtain ⟨ys, z⟩ := p
                  rw [h4] at q2
                  obtain ⟨vs, e1, e2, e3, e4, e5⟩ := m3.cell k _ h3
                  rw [← st2.at_ k hk]
                  refine hr F3 H2 (α2 k) vs us xs ds ys z Q e1 e2 e3 r3 h4 fun vs' zv g1 g2 g3 => ?_
                  obtain ⟨s5, m5⟩ := set_cell (c' := .lst true ys) (o := .lst vs') m3 h3 (e4 rfl) fun st => ⟨_, upd_same, g2, Reps.mono st.ext g1, fun _ => e4 rfl, fun z => by cases z⟩
                  exact (Post.after st3 q2) _ _ _ s5 m5 zv (Rep.mono s5.ext g3)
            | _ => exact q2.elim
      | _ => exact q1.elim
theorem ex_lm {hh : LM} {r : V → List V → Hp → VK → Prop} {name : Str} {id : String} {apos cpos : Pos} (hK : X.K = G.K) (hr : LmR G r hh) (pa : PlainAttrs "list") (slot : Slot "list" name id) (hty : typeOf (.builtin id) = pure (.type "method_descriptor")) (hm : MtR X id r) (ho : PE X a (RdE G W f)) (ha : PA X (e :: es) (RdA G W gs))
    (hbase : attributeBase a name X.env (eval a X.env) = eval a X.env)
    (hfew : ((backTo cpos (starEach (e :: es) X.env)).all (fun x => !x.1) && (backToKw cpos (keywordEach [] X.env)).all (fun x => x.1.isSome) && decide ((e :: es).length + ([] : List Keyword).length + (if ([] : List Keyword).isEmpty then 0 else 1) < 30)) = true)
    (hline : (apos.endLine == cpos.line) = true) (hs : starEach (e :: es) X.env = (false, eval e X.env) :: starEach es X.env) (hplain : (backTo cpos (starEach es X.env)).any (·.1) = false) : PE X (.Call (.Attribute a name apos) (e :: es) [] cpos) (RdE G W (cLm hh f gs)) :=
  pe_le (pe_bm pa slot hty hm ho ha hbase hfew hline hs hplain) fun σ H Q q => lm_read hK hr q
theorem lm_read0 {r : V → List V → Hp → VK → Prop} {hh : LM} (hK : X.K = G.K) (hr : LmR G r hh) {σ : L2.St} {H : Hp} {Q : VK} (q : RdE G W (cLm hh f cNil) σ H Q) : tBM0 X.K "list" r (RdE G W f) σ H Q := by
  obtain ⟨Fz, α, S, ρ, m, sl, q⟩ := lm_read hK hr q
  exact ⟨Fz, α, S, ρ, m, sl, q.mono fun F1 α1 S1 H1 w st m1 q1 v rv => ⟨(q1 v rv).1, by
    obtain ⟨_, F2, α2, S2, ρ2, m2, sl2, q2⟩ := q1 v rv
    exact q2.now m2 [] .nil⟩⟩
theorem ex_lm0 {hh : LM} {r : V → List V → Hp → VK → Prop} {name : Str} {id : String} {apos cpos : Pos} (hK : X.K = G.K) (hr : LmR G r hh) (pa : PlainAttrs "list") (slot : Slot "list" name id) (hty : typeOf (.builtin id) = pure (.type "method_descriptor")) (hm : MtR X id r) (ho : PE X a (RdE G W f))
    (hbase : attributeBase a name X.env (eval a X.env) = eval a X.env) (hline : (apos.endLine == cpos.line) = true) : PE X (.Call (.Attribute a name apos) [] [] cpos) (RdE G W (cLm hh f cNil)) :=
  pe_le (pe_bm0 pa slot hty hm ho hbase hline) fun σ H Q q => lm_read0 hK hr q
end
def lAppend : LM := fun xs ds => match ds with
  | [d] => if xs.length < 16777216 then some (xs ++ [d], .non) else none
  | _ => none
theorem reps1 {Fz : Addr → Prop} {H : Hp} {d : D} {us : List V} (h : Reps G Fz H [d] us) : ∃ u, us = [u] ∧ Rep G Fz H d u := by
  obtain ⟨u, r, rfl, h1, h2⟩ := h
  cases (show r = [] from h2)
  exact ⟨u, rfl, h1⟩
theorem lm_append : LmR G rAppend lAppend := fun Fz H a vs us xs ds ys z Q e l r rd e2 k => by
  unfold lAppend at e2
  split at e2
  · rename_i d
    by_cases c : xs.length < 16777216
    · rw [if_pos c] at e2
      cases e2
      obtain ⟨u, rfl, h⟩ := reps1 rd
      have hl := Reps.length r
      exact ⟨a, vs, u, rfl, rfl, e, by rw [sizeLine_eq]; omega, k _ _ (Reps.append r (Reps.cons h rfl)) (by rw [List.length_append]; simp; omega) rfl⟩
    · rw [if_neg c] at e2
      cases e2
  · cases e2
def lInsert : LM := fun xs ds => match ds with
  | [.int i, d] => if xs.length < 16777216 ∧ 0 ≤ i ∧ i < 9223372036854775808 then some (xs.take i.toNat ++ [d] ++ xs.drop i.toNat, .non) else none
  | _ => none
theorem lm_insert : LmR G (fun x vs H Q => ∃ (l : Addr) (xs : List V) (i : Int) (y : V), x = .ref l ∧ vs = [.int i, y] ∧ H l = some (.lst xs) ∧ xs.length < sizeLine ∧ 0 ≤ i ∧ i < 2 ^ 63 ∧
    Q .non (upd H l (.lst (xs.take i.toNat ++ [y] ++ xs.drop i.toNat)))) lInsert := fun Fz H a vs us xs ds ys z Q e l r rd e2 k => by
  unfold lInsert at e2
  split at e2
  · rename_i i d
    by_cases c : xs.length < 16777216 ∧ 0 ≤ i ∧ i < 9223372036854775808
    · rw [if_pos c] at e2
      cases e2
      obtain ⟨u, us', rfl, h, t⟩ := rd
      obtain ⟨u2, rfl, h2⟩ := reps1 t
      cases (show u = V.int i from h)
      have hl := Reps.length r
      refine ⟨a, vs, i, u2, rfl, rfl, e, by rw [sizeLine_eq]; omega, c.2.1, by omega, k _ _ (Reps.append (Reps.append (Reps.take _ r) (Reps.cons h2 rfl)) (Reps.drop _ r)) ?_ rfl⟩
      rw [List.length_append, List.length_append, List.length_take, List.length_drop, List.length_singleton]
      omega
    · rw [if_neg c] at e2
      cases e2
  · cases e2
def lPop : LM := fun xs ds => match ds with
  | [] => match xs[xs.length - 1]? with
    | some d => some (xs.dropLast, d)
    | none => none
  | _ => none
theorem Reps.dropLast {Fz : Addr → Prop} {H : Hp} {ds : List D} {vs : List V} (h : Reps G Fz H ds vs) : Reps G Fz H ds.dropLast vs.dropLast := by
  rw [List.dropLast_eq_take, List.dropLast_eq_take, Reps.length h]
  exact Reps.take _ h
theorem lm_pop : LmR G rPop lPop := fun Fz H a vs us xs ds ys z Q e l r rd e2 k => by
  unfold lPop at e2
  split at e2
  · cases h : xs[xs.length - 1]? with
    | none => rw [h] at e2; cases e2
    | some d =>
      rw [h] at e2
      cases e2
      cases (show us = [] from rd)
      obtain ⟨v, h1, h2⟩ := Reps.get r h
      rw [Reps.length r] at h1
      exact ⟨a, vs, v, rfl, rfl, e, h1, k _ _ (Reps.dropLast r) (by rw [List.length_dropLast]; omega) h2⟩
  · cases e2
end EV
set_option maxHeartbeats 1000000
namespace EV
open PySem L2
variable {G : SP}

/-- a class whose instances answer isinstance plainly -/
structure InsTy (K : PySem.W.Frag) (C : Addr) : Prop where
  cl : Cls K C
  ha : PySem.W.findIn K (.ref C) "__class__" = some (some (.builtin "object.__class__"))
  hn : PySem.W.specialIn K (.builtin "object.__class__") "__get__" = some (some (.builtin "getset_descriptor.__get__"))
  htk : PySem.W.takesIn K (.builtin "object.__class__") = some true
  hm : PySem.W.mroIn K C (.type "object") = some true
def tyN : D → Option String
  | .non => some "NoneType"
  | .bl _ => some "bool"
  | .int _ => some "int"
  | .str _ => some "str"
  | .tup _ => some "tuple"
  | .lst _ => some "list"
  | .dK _ _ => some "dict"
  | .dT _ _ => some "dict"
  | _ => none
def tyVal (G : SP) : D → Option Value
  | .ins c _ _ => some (.ref (G.cls c))
  | x => (tyN x).map Value.type
/-- q tells of each value whether it is one of the class u -/
structure QOk (G : SP) (u : Value) (q : D → Option Bool) : Prop where
  ok : ∀ x b, q x = some b → ∃ t, tyVal G x = some t ∧ PySem.W.kitOne G.K t u = some b ∧ ∀ c fs ds, x = .ins c fs ds → InsTy G.K (G.cls c)
/-- a built-in class; cs: the program's own classes -/
def isT (n : String) (cs : List Nat) : D → Option Bool
  | .ins c _ _ => if cs.contains c = true then some false else none
  | x => (tyN x).bind fun m => kitB m n
theorem qok_ty {n : String} {cs : List Nat} (h : ∀ c ∈ cs, InsTy G.K (G.cls c) ∧ PySem.W.kitOne G.K (.ref (G.cls c)) (.type n) = some false) : QOk G (.type n) (isT n cs) := ⟨fun x b e => by
  cases x with
  | ins c fs ds =>
    unfold isT at e
    dsimp only at e
    by_cases hc : cs.contains c = true
    · rw [if_pos hc] at e
      cases e
      obtain ⟨h1, h2⟩ := h c (by simpa using hc)
      exact ⟨_, rfl, h2, fun c' fs' ds' q => by cases q; exact h1⟩
    · rw [if_neg hc] at e
      cases e
  | exc _ _ _ => cases e
  | fn _ => cases e
  | pr _ _ => cases e
  | _ => exact ⟨_, rfl, e, fun _ _ _ q => by cases q⟩⟩
theorem look_dT {ks : List (List Key)} {ds : List D} {Fz : Addr → Prop} {H : Hp} {v : V} (h : Look G Fz H (.dT ks ds) v) : ∃ a kvs, v = .ref a ∧ H a = some (.dT kvs) ∧ ks = kvs.map (·.1) ∧ Reps G Fz H ds (kvs.map (·.2)) := by
  cases h with
  | at_ r =>
    obtain ⟨a, kvs, e, f, h, k, r⟩ := r
    exact ⟨a, kvs, e, h, k, r⟩
  | dT e r => exact ⟨_, _, rfl, e, rfl, r⟩
theorem look_ty {Fz : Addr → Prop} {H : Hp} {x : D} {v : V} {t : Value} (h : Look G Fz H x v) (e : tyVal G x = some t) (hi : ∀ c fs ds, x = .ins c fs ds → InsTy G.K (G.cls c)) : TyX G.K H v t := by
  cases x with
  | non => cases e; cases look_non h; exact .base .non
  | bl b => cases e; cases look_bl h; exact .base (.bl b)
  | int b => cases e; cases look_int h; exact .base (.int b)
  | str b => cases e; cases look_str h; exact .base (.str b)
  | pr _ _ => cases e
  | tup xs =>
    cases e
    obtain ⟨a, vs, rfl, h1, _⟩ := look_tup h
    rcases h1 with (h1 | ⟨o, h1⟩) | ⟨o, its, n, h1, h2, _⟩
    · exact .base (.tup h1)
    · exact .fTuple h1
    · exact .kTuple h1 h2
  | lst xs =>
    cases e
    obtain ⟨a, vs, rfl, h1, _⟩ := look_lst h
    rcases h1 with (h1 | ⟨o, h1⟩) | ⟨o, its, n, h1, h2, _⟩
    · exact .base (.lst h1)
    · exact .base (.frz h1)
    · exact .kList h1 h2
  | dK ks ds =>
    cases e
    obtain ⟨a, kvs, rfl, h1, _⟩ := look_dK h
    exact .base (.dK h1)
  | dT ks ds =>
    cases e
    obtain ⟨a, kvs, rfl, h1, _⟩ := look_dT h
    exact .base (.dT h1)
  | ins c fs ds =>
    cases e
    have z := hi c fs ds rfl
    cases h with
    | at_ r =>
      obtain ⟨a, dx, kvs, rfl, f, h1, _⟩ := r
      exact .base (.ins h1 z.cl z.ha z.hn z.htk z.hm)
  | exc _ _ _ => cases e
  | fn _ => cases e
def cIs (q : D → Option Bool) (f : Sm) : Sm := fun ρ S => (f ρ S).bind fun w S1 => match view S1 w with
  | some x => (match q x with
    | some b => .ok (.d (.bl b)) S1
    | none => .bad)
  | none => .bad
section
variable {X : Cx} {W : WX} {x : Str} {a b c e : Expr} {es : List Expr} {f g h : Sm} {gs : SmL} {p pos tpos : Pos}
theorem ex_isi {q : D → Option Bool} {u : V} {uv : Value} (hK : X.K = G.K) (hq : QOk G uv q) (hu : ClsV u uv) (hf : PE X a (RdE G W f)) (hc : PE X c (tC u)) (hg : Gl X "isinstance") (hm : X.mg "isinstance" = none)
    (h1 : starEach [a, c] X.env = (false, eval a X.env) :: starEach [c] X.env) (h2 : starEach [c] X.env = (false, eval c X.env) :: starEach [] X.env) (hpl : (backTo pos (starEach [c] X.env)).any (·.1) = false) :
    PE X (.Call (.Name "isinstance" p) [a, c] [] pos) (RdE G W (cIs q f)) :=
  pe_le (pe_callB call_isi hg hm PyProof.Rows.boot_isinstance (pa_cons hf (pa_cons hc pa_nil h2) h1) (by decide) (by decide) h1 hpl) fun σ H Q ⟨Fz, α, S, ρ, m, sl, q1⟩ => ⟨Fz, α, S, ρ, m, sl, (Post.bind q1).mono fun F1 α1 S1 H1 w st m1 q2 v rv => by
    cases e1 : view S1 w with
    | none => rw [e1] at q2; exact q2.elim
    | some x =>
      rw [e1] at q2
      dsimp only at q2
      cases e2 : q x with
      | none => rw [e2] at q2; exact q2.elim
      | some b =>
        rw [e2] at q2
        obtain ⟨t, k1, k2, k3⟩ := hq.ok x b e2
        exact ⟨v, u, t, uv, b, rfl, hu, by rw [hK]; exact look_ty (view_ok m1 e1 rv) k1 k3, by rw [hK]; exact k2, q2.now m1 _ rfl⟩⟩
/-- several classes, written as a tuple -/
def isAny : List (D → Option Bool) → D → Option Bool
  | [], _ => some false
  | q :: qs, x => match q x with
    | some true => some true
    | some false => isAny qs x
    | none => none
inductive QsOk (G : SP) (X : Cx) : List Expr → List V → List Value → List (D → Option Bool) → Prop
  | nil : QsOk G X [] [] [] []
  | cons {e : Expr} {es : List Expr} {u : V} {us : List V} {uv : Value} {uvs : List Value} {q : D → Option Bool} {qs : List (D → Option Bool)} (hc : PE X e (tC u)) (hu : ClsV u uv) (hq : QOk G uv q) (hs : starEach (e :: es) X.env = (false, eval e X.env) :: starEach es X.env) (r : QsOk G X es us uvs qs) :
      QsOk G X (e :: es) (u :: us) (uv :: uvs) (q :: qs)
def tCs : List V → TA
  | [] => tNil
  | u :: us => tCons (tC u) (tCs us)
theorem QsOk.pa {es : List Expr} {us : List V} {uvs : List Value} {qs : List (D → Option Bool)} (h : QsOk G X es us uvs qs) : PA X es (tCs us) ∧ Paired ClsV us uvs := by
  induction h with
  | nil => exact ⟨pa_nil, .nil⟩
  | cons hc hu hq hs r ih => exact ⟨pa_cons hc ih.1 hs, .cons hu ih.2⟩
theorem tCs_run {us : List V} : ∀ {σ : L2.St} {H : Hp} {Q : List V → Hp → Prop}, Q us H → tCs us σ H Q := by
  induction us with
  | nil => exact fun q => q
  | cons u us ih => exact fun {σ H Q} q => (ih q : tCs us σ H fun r H' => Q (u :: r) H')
theorem QsOk.any {es : List Expr} {us : List V} {uvs : List Value} {qs : List (D → Option Bool)} (h : QsOk G X es us uvs qs) {x : D} {b : Bool} (e : isAny qs x = some b) (hne : qs ≠ []) :
    ∃ t, tyVal G x = some t ∧ PySem.W.kitAny G.K t uvs = some b ∧ ∀ c fs ds, x = .ins c fs ds → InsTy G.K (G.cls c) := by
  induction h with
  | nil => exact absurd rfl hne
  | @cons e0 es u us uv uvs q qs hc hu hq hs r ih =>
    unfold isAny at e
    cases e1 : q x with
    | none => rw [e1] at e; cases e
    | some k =>
      obtain ⟨t, k1, k2, k3⟩ := hq.ok x k e1
      rw [e1] at e
      cases k with
      | true =>
        cases e
        exact ⟨t, k1, kitAny_cons k2 (fun z => by cases z) fun _ => rfl, k3⟩
      | false =>
        dsimp only at e
        by_cases hn : qs = []
        · subst hn
          cases r
          cases e
          exact ⟨t, k1, kitAny_cons k2 (fun _ => rfl) (fun z => by cases z), k3⟩
        · obtain ⟨t', j1, j2, _⟩ := ih e hn
          rw [k1] at j1
          cases j1
          exact ⟨t, k1, kitAny_cons k2 (fun _ => j2) (fun z => by cases z), k3⟩
theorem ex_isis {kk : Nat} {us : List V} {uvs : List Value} {qs : List (D → Option Bool)} (hK : X.K = G.K) (hq : QsOk G X es us uvs qs) (hne : qs ≠ []) (hlen : us.length ≤ 16777216) (hf : PE X a (RdE G W f)) (hg : Gl X "isinstance") (hm : X.mg "isinstance" = none)
    (h1 : starEach [a, .Tuple es kk tpos] X.env = (false, eval a X.env) :: starEach [.Tuple es kk tpos] X.env) (h2 : starEach [.Tuple es kk tpos] X.env = (false, eval (.Tuple es kk tpos) X.env) :: starEach [] X.env) (hpl : (backTo pos (starEach [.Tuple es kk tpos] X.env)).any (·.1) = false) :
    PE X (.Call (.Name "isinstance" p) [a, .Tuple es kk tpos] [] pos) (RdE G W (cIs (isAny qs) f)) :=
  pe_le (pe_callB call_isiT hg hm PyProof.Rows.boot_isinstance (pa_cons hf (pa_cons (pe_tup hq.pa.1) pa_nil h2) h1) (by decide) (by decide) h1 hpl) fun σ H Q ⟨Fz, α, S, ρ, m, sl, q1⟩ => ⟨Fz, α, S, ρ, m, sl, (Post.bind q1).mono fun F1 α1 S1 H1 w st m1 q2 v rv => by
    cases e1 : view S1 w with
    | none => rw [e1] at q2; exact q2.elim
    | some x =>
      rw [e1] at q2
      dsimp only at q2
      cases e2 : isAny qs x with
      | none => rw [e2] at q2; exact q2.elim
      | some b =>
        rw [e2] at q2
        obtain ⟨t, k1, k2, k3⟩ := hq.any e2 hne
        refine tCs_run ⟨by rw [sizeLine_eq]; exact hlen, fun p hp => ?_⟩
        obtain ⟨s2, m2⟩ := new_any (o := .tup us) m1 hp
        exact ⟨v, p, us, t, uvs, b, rfl, upd_same, hq.pa.2, by rw [hK]; exact look_ty (view_ok m2 e1 (RepW.mono s2 rv)) k1 k3, by rw [hK]; exact k2, (Post.after s2 q2).now m2 _ rfl⟩⟩
def rgOk (a b : Int) : Bool := decide (-4611686018427387904 ≤ a) && (decide (a < 4611686018427387904) && (decide (-4611686018427387904 ≤ b) && (decide (b < 4611686018427387904) && decide ((b - a).toNat ≤ 16777216))))
theorem rgOk_of {a b : Int} (h : rgOk a b = true) : RgOk a b := by
  unfold rgOk at h
  simp only [Bool.and_eq_true, decide_eq_true_eq] at h
  obtain ⟨h1, h2, h3, h4, h5⟩ := h
  exact ⟨by omega, by omega, by omega, by omega, by omega⟩
theorem reps_rg {Fz : Addr → Prop} {H : Hp} {a b : Int} : Reps G Fz H (upto a (b - a).toNat) (rgV a b) := by
  unfold upto rgV
  generalize (b - a).toNat = n
  have : ∀ l : List Nat, Reps G Fz H (l.map fun (i : Nat) => D.int (a + i)) (l.map fun i => V.int (a + (i : Nat))) := fun l => by
    induction l with
    | nil => exact rfl
    | cons i l ih => exact Reps.cons rfl ih
  exact this _
def rgE (tu mu : Bool) (a b : Int) (S : Store) : R EV.W := if rgOk a b = true then (if tu = true then .ok (.d (.tup (upto a (b - a).toNat))) S else newL mu (upto a (b - a).toNat) S) else .bad
def cRgA (tu mu : Bool) (f : Sm) : Sm := fun ρ S => (f ρ S).bind fun w S1 => match w with
  | .d (.int n) => rgE tu mu 0 n S1
  | _ => .bad
theorem rg_lst {mu : Bool} {Fz : Addr → Prop} {α : Nat → Addr} {S : Store} {H : Hp} {a b : Int} {Q : VK} (m : Sim G Fz α S H) (q : Post G Fz α S H (rgE false mu a b S) (fun Fz' β S' H' w => ∀ v, RepW G Fz' β S'.length H' w v → Q v H') (EW G W)) :
    RgOk a b ∧ ∀ p, H p = none → Q (.ref p) (upd H p (.lst (rgV a b))) := by
  unfold rgE at q
  by_cases c : rgOk a b = true
  · rw [if_pos c, if_neg (by decide)] at q
    have ok := rgOk_of c
    refine ⟨ok, fun p hp => ?_⟩
    have hl : (rgV a b).length ≤ 16777216 := by rw [rgV_length]; exact ok.2.2.2.2
    cases mu with
    | false =>
      obtain ⟨s4, m4⟩ := new_frz (o := .lst (rgV a b)) m hp trivial
      exact q _ _ _ s4 m4 _ ⟨p, _, rfl, .inl ⟨.inr rfl, .inl upd_same⟩, hl, reps_rg⟩
    | true =>
      obtain ⟨s4, m4⟩ := new_cell (o := .lst (rgV a b)) (c := .lst true (upto a (b - a).toNat)) m hp (fun _ z => by cases z) fun st => ⟨_, upd_same, hl, reps_rg, fun _ => m.free hp, fun z => by cases z⟩
      exact q _ _ _ s4 m4 _ ⟨by simp, by show V.ref p = _; rw [setA, if_pos rfl]⟩
  · rw [if_neg c] at q
    exact q.elim
theorem ex_lrg1 {mu : Bool} {q : Pos} (hc : X.calm = true) (hg : Gl X "list") (hm : X.mg "list" = none) (hg2 : Gl X "range") (hm2 : X.mg "range" = none) (hf : PE X a (RdE G W f)) (n1 : starEach [a] X.env = (false, eval a X.env) :: starEach [] X.env)
    (n2 : starEach [.Call (.Name "range" q) [a] [] tpos] X.env = (false, eval (.Call (.Name "range" q) [a] [] tpos) X.env) :: starEach [] X.env) : PE X (.Call (.Name "list" p) [.Call (.Name "range" q) [a] [] tpos] [] pos) (RdE G W (cRgA false mu f)) :=
  pe_le (pe_listRg hc hg hm (prg_1 hg2 hm2 hf n1) n2) fun σ H Q ⟨Fz, α, S, ρ, m, sl, q⟩ => ⟨Fz, α, S, ρ, m, sl, (Post.bind q).mono fun F1 α1 S1 H1 w st m1 q1 v rv => by
    cases w with
    | c k => exact q1.elim
    | d x =>
      cases x with
      | int i => cases (show _ = V.int i from rv); exact ⟨i, rfl, rg_lst m1 q1⟩
      | _ => exact q1.elim⟩
end
end EV
set_option maxHeartbeats 1000000
namespace EV
open PySem L2
variable {G : SP}

/-- what stands while a list is being made at p -/
structure Mak (G : SP) (F1 : Addr → Prop) (α1 : Nat → Addr) (S1 : Store) (H1 : Hp) (p : Addr) (F2 : Addr → Prop) (α2 : Nat → Addr) (S2 : Store) (H2 : Hp) (acc : List D) (vs : List V) : Prop where
  st : Step F1 α1 S1 H1 F2 α2 S2 H2
  m : Sim G F2 α2 S2 H2
  at_ : H2 p = some (.lst vs)
  nF : ¬ F2 p
  nC : ∀ k, k < S2.length → α2 k ≠ p
  r : Reps G F2 H2 acc vs
theorem Mak.move {F1 : Addr → Prop} {α1 : Nat → Addr} {S1 : Store} {H1 : Hp} {p : Addr} {F2 F3 : Addr → Prop} {α2 α3 : Nat → Addr} {S2 S3 : Store} {H2 H3 : Hp} {acc : List D} {vs : List V} (k : Mak G F1 α1 S1 H1 p F2 α2 S2 H2 acc vs) (s : Step F2 α2 S2 H2 F3 α3 S3 H3) (m : Sim G F3 α3 S3 H3) : Mak G F1 α1 S1 H1 p F3 α3 S3 H3 acc vs :=
  let ⟨h1, h2, h3⟩ := s.frame p _ k.at_ (fun _ z => by cases z) k.nF k.nC
  ⟨k.st.trans s, m, h1, h2, h3, Reps.mono s.ext k.r⟩
theorem Mak.put {F1 : Addr → Prop} {α1 : Nat → Addr} {S1 : Store} {H1 : Hp} {p : Addr} {F2 : Addr → Prop} {α2 : Nat → Addr} {S2 : Store} {H2 : Hp} {acc : List D} {vs : List V} {x : D} {y : V} (m1 : Sim G F1 α1 S1 H1) (h0 : H1 p = none) (k : Mak G F1 α1 S1 H1 p F2 α2 S2 H2 acc vs) (r : Rep G F2 H2 x y) :
    Mak G F1 α1 S1 H1 p F2 α2 S2 (upd H2 p (.lst (vs ++ [y]))) (acc ++ [x]) (vs ++ [y]) ∧ ∀ {σ : L2.St} {ρ : Env'}, Slots G F2 α2 S2.length H2 σ ρ → Slots G F2 α2 S2.length (upd H2 p (.lst (vs ++ [y]))) σ ρ := by
  have ex : Ext F2 H2 F2 (upd H2 p (.lst (vs ++ [y]))) := ⟨fun _ h => h, fun a u f e => by
    rw [upd_ne (fun z => k.nF (by rw [← z]; exact f))]
    exact e⟩
  have m7 := foreign (o := .lst (vs ++ [y])) k.m k.at_ (fun _ z => by cases z) (fun _ z => by cases z) k.nF k.nC (G.pcS (Step.foreign k.st h0 m1) m1.pc)
  refine ⟨⟨Step.foreign k.st h0 m1, m7, upd_same, k.nF, k.nC, Reps.append (Reps.mono ex k.r) (Reps.cons (Rep.mono ex r) rfl)⟩, fun z => ⟨z.1, fun i w e => ?_⟩⟩
  obtain ⟨v, h1, h2⟩ := z.2 i w e
  refine ⟨v, h1, ?_⟩
  cases w with
  | d x => exact Rep.mono ex h2
  | c j => exact h2
/-- the turns of a clause -/
theorem walk_lc {W : WX} {F1 F2 : Addr → Prop} {α1 α2 : Nat → Addr} {S1 S2 : Store} {H1 H2 : Hp} {p : Addr} {acc : List D} {vs : List V} {J : It} {ds : List D} {t : Tg} {c f : Sm} {tt : TT} {vs1 : List Nat} {σb : L2.St} {ρb : Env'} {Nx : Hp → Prop} {QQ : QT EV.W} {KK : List D → Store → R EV.W}
    (m1 : Sim G F1 α1 S1 H1) (h0 : H1 p = none) (htt : ∀ σ H (Q : Bool → Hp → Prop), RdT G W0 (toT c) σ H Q → tt σ H Q) (hsub : ∀ j ∈ t.slots, j ∈ vs1) (hw : wipe σb vs1 = σb) (yl : Yld G F2 α2 S2 H2 J ds) (k : Mak G F1 α1 S1 H1 p F2 α2 S2 H2 acc vs) (sl : Slots G F2 α2 S2.length H2 σb ρb) (hlen : acc.length + ds.length ≤ 16777216)
    (q : Post G F1 α1 S1 H1 ((lcL t c f ρb ds acc S2).bindN KK) QQ (EW G W))
    (hN : ∀ F3 α3 S3 H3 acc' vs', Mak G F1 α1 S1 H1 p F3 α3 S3 H3 acc' vs' → (∀ {σ : L2.St} {ρ : Env'}, Slots G F2 α2 S2.length H2 σ ρ → Slots G F3 α3 S3.length H3 σ ρ) → Post G F1 α1 S1 H1 (KK acc' S3) QQ (EW G W) → Nx H3) :
    ∃ W1 : Nat → Nat → Hp → Prop, (∃ m, W1 0 m H2) ∧ ∀ j n H, W1 j n H → (J.stop j H ∧ Nx H) ∨ (J.go j H ∧ ∃ Nx1 : Hp → Prop, (∀ H', Nx1 H' → ∃ n', n' < n ∧ W1 (j + 1) n' H') ∧ ∀ x H', J.yld j H x H' → RdG G t x σb H' fun σ3 H5 => wipe σ3 vs1 = σb ∧ tt σ3 H5 fun b H6 =>
      if b = true then RdE G W0 f σ3 H6 fun y H7 => ∃ acc, H7 p = some (.lst acc) ∧ acc.length < sizeLine ∧ Nx1 (upd H7 p (.lst (acc ++ [y]))) else Nx1 H6) := by
  refine ⟨fun j n H' => n = ds.length - j ∧ ∃ F3 α3 S3 acc' vs', Mak G F1 α1 S1 H1 p F3 α3 S3 H' acc' vs' ∧ Ext F2 H2 F3 H' ∧ (∀ {σ : L2.St} {ρ : Env'}, Slots G F2 α2 S2.length H2 σ ρ → Slots G F3 α3 S3.length H' σ ρ) ∧ (acc'.length + (ds.length - j) ≤ 16777216 ∧ j ≤ ds.length) ∧
      Post G F1 α1 S1 H1 ((lcL t c f ρb (ds.drop j) acc' S3).bindN KK) QQ (EW G W), ⟨ds.length, rfl, F2, α2, S2, acc, vs, k, Ext.refl, fun z => z, ⟨by omega, Nat.zero_le _⟩, q⟩, ?_⟩
  rintro j n H3 ⟨rfl, F3, α3, S3, acc', vs', k3, ex3, hs3, hl3, q3⟩
  obtain ⟨y1, y2⟩ := yl j F3 α3 S3 H3 ex3 k3.m
  by_cases hj : j < ds.length
  · refine .inr ⟨(y1 ds[j] (by simp [hj])).1, fun H' => ∃ F4 α4 S4 acc4 vs4, Mak G F1 α1 S1 H1 p F4 α4 S4 H' acc4 vs4 ∧ Ext F2 H2 F4 H' ∧ (∀ {σ : L2.St} {ρ : Env'}, Slots G F2 α2 S2.length H2 σ ρ → Slots G F4 α4 S4.length H' σ ρ) ∧ (acc4.length + (ds.length - (j + 1)) ≤ 16777216 ∧ j + 1 ≤ ds.length) ∧
        Post G F1 α1 S1 H1 ((lcL t c f ρb (ds.drop (j + 1)) acc4 S4).bindN KK) QQ (EW G W), fun H' z => ⟨ds.length - (j + 1), by omega, rfl, z⟩, fun x H4 hy => ?_⟩
    obtain ⟨F4, st4, m4, r4⟩ := (y1 ds[j] (by simp [hj])).2 x H4 hy
    rw [List.drop_eq_getElem_cons hj] at q3
    unfold lcL at q3
    cases e1 : t.put ds[j] ρb with
    | none => rw [e1] at q3; exact q3.elim
    | some ρ4 =>
      rw [e1] at q3
      dsimp only at q3
      rw [R.bindN_assoc] at q3
      have k4 := k3.move st4 m4
      refine ⟨F4, α3, S3, ρb, ds[j], ρ4, m4, (hs3 sl).mono st4, r4, e1, fun σ4 sl4 ag => ⟨?_, htt _ _ _ ⟨F4, α3, S3, ρ4, m4, sl4, ?_⟩⟩⟩
      · rw [ag vs1 hsub, hw]
      · refine ((Post.bindB (E' := EW G W0) q3).after k4.st).mono fun F5 α5 S5 H5 b st5 m5 q5 => ?_
        have k5 := k4.move st5 m5
        cases b with
        | false => exact ⟨F5, α5, S5, acc', vs', k5, ex3.trans (st4.trans st5).ext, fun z => (hs3 z).mono (st4.trans st5), ⟨by omega, by omega⟩, q5⟩
        | true =>
          rw [if_pos rfl] at q5
          show (if true = true then _ else _)
          rw [if_pos rfl]
          rw [R.bindN_assoc] at q5
          refine ⟨F5, α5, S5, ρ4, m5, sl4.mono st5, ((Post.bindB (E' := EW G W0) q5).after k5.st).mono fun F6 α6 S6 H6 w st6 m6 q6 y ry => ?_⟩
          have k6 := k5.move st6 m6
          have hv := Reps.length k6.r
          refine ⟨vs', k6.at_, by rw [sizeLine_eq]; omega, ?_⟩
          cases e6 : frz S6 w with
          | none => rw [e6] at q6; exact q6.elim
          | some pr =>
            obtain ⟨x, S7⟩ := pr
            rw [e6] at q6
            obtain ⟨F7, st7, m7, r7⟩ := frz_ok m6 e6 ry
            have k7 := k6.move st7 m7
            obtain ⟨k8, hs8⟩ := k7.put m1 h0 r7
            have ex8 : Ext F7 H6 F7 (upd H6 p (.lst (vs' ++ [y]))) := ⟨fun _ h => h, fun a u f e => by
              rw [upd_ne (fun z => k7.nF (by rw [← z]; exact f))]
              exact e⟩
            exact ⟨F7, α6, S7, acc' ++ [x], vs' ++ [y], k8, (ex3.trans (((st4.trans st5).trans st6).trans st7).ext).trans ex8, fun z => hs8 ((hs3 z).mono (((st4.trans st5).trans st6).trans st7)), ⟨by simp; omega, by omega⟩, q6⟩
  · refine .inl ⟨y2 (by omega), ?_⟩
    rw [List.drop_eq_nil_of_le (by omega)] at q3
    exact hN F3 α3 S3 H3 acc' vs' k3 hs3 q3
/-- the outer turns: each walks the inner clause -/
def lcM (t : Tg) (c : Sm) (i1 : SmI) (own1 : List Nat) (t1 : Tg) (c1 f : Sm) (ρ : Env') : List D → List D → Store → R (List D)
  | [], acc, S => .ok acc S
  | d :: ds, acc, S => match t.put d ρ with
    | none => .bad
    | some ρ1 => (toT c ρ1 S).bindN fun k S1 => if k = true then (i1 ρ1 S1).bindN fun es S2 => if acc.length + es.length ≤ 16777216 then (lcL t1 c1 f (wipeE ρ1 own1) es acc S2).bindN fun acc2 S3 => lcM t c i1 own1 t1 c1 f ρ ds acc2 S3 else .bad
      else lcM t c i1 own1 t1 c1 f ρ ds acc S1
def cLc2 (mu : Bool) (own : List Nat) (t : Tg) (i : SmI) (c : Sm) (own1 : List Nat) (t1 : Tg) (i1 : SmI) (c1 f : Sm) : Sm := fun ρ S => (i ρ S).bind fun ds S1 => (lcM t c i1 own1 t1 c1 f (wipeE ρ own) ds [] S1).bindN fun xs S2 => if xs.length ≤ 16777216 then newL mu xs S2 else .bad
section
variable {X : Cx} {W : WX} {e a tg tg1 iter iter1 elt : Expr} {ifs ifs1 : List Expr} {own : List (Str × Nat)} {own1 : List Nat} {scope : Scope} {t t1 : Tg} {i i1 : SmI} {c c1 f : Sm} {pos : Pos}
theorem rd_lc2 {mu : Bool} {tt tt1 : TT} (hps : ∀ i σ o, G.ps σ → G.ps (σ.set i o)) (htt : ∀ σ H (Q : Bool → Hp → Prop), RdT G W0 (toT c) σ H Q → tt σ H Q) (htt1 : ∀ σ H (Q : Bool → Hp → Prop), RdT G W0 (toT c1) σ H Q → tt1 σ H Q) (hsub : ∀ j ∈ t.slots, j ∈ own.map (·.2)) (hsub1 : ∀ j ∈ t1.slots, j ∈ own1)
    {σ : L2.St} {H : Hp} {Q : VK} (h : RdE G W (cLc2 mu (own.map (·.2)) t i c own1 t1 i1 c1 f) σ H Q) : tLc2 (RdI G W i) (RdG G t) tt (RdI G W0 i1) (RdG G t1) tt1 (RdE G W0 f) (own.map (·.2)) own1 σ H Q := by
  obtain ⟨Fz, α, S, ρ, m, sl, q⟩ := h
  refine ⟨Fz, α, S, ρ, m, sl, (Post.bind q).mono fun F1 α1 S1 H1 ds st m1 q1 J hJ p hp => ?_⟩
  have wl := (sl.mono st).wipe hps (own.map (·.2))
  obtain ⟨s0, m0⟩ := new_any (o := .lst []) m1 hp
  have k0 : Mak G F1 α1 S1 H1 p F1 α1 S1 (upd H1 p (.lst [])) [] [] := ⟨s0, m0, upd_same, m1.free hp, fun k hk => m1.cellNe hp hk, rfl⟩
  refine ⟨fun j n H' => n = ds.length - j ∧ ∃ F2 α2 S2 acc vs, Mak G F1 α1 S1 H1 p F2 α2 S2 H' acc vs ∧ Slots G F2 α2 S2.length H' (wipe σ (own.map (·.2))) (wipeE ρ (own.map (·.2))) ∧ j ≤ ds.length ∧
      Post G F1 α1 S1 H1 ((lcM t c i1 own1 t1 c1 f (wipeE ρ (own.map (·.2))) (ds.drop j) acc S2).bindN fun xs S2 => if xs.length ≤ 16777216 then newL mu xs S2 else .bad) (fun Fz' β S' H' w => ∀ v, RepW G Fz' β S'.length H' w v → Q v H') (EW G W),
    ⟨ds.length, rfl, F1, α1, S1, [], [], k0, wl.mono s0, Nat.zero_le _, q1⟩, ?_⟩
  rintro j n H2 ⟨rfl, F2, α2, S2, acc, vs, k2, sl2, hj2, q2⟩
  obtain ⟨y1, y2⟩ := hJ j F2 α2 S2 H2 k2.st.ext k2.m
  by_cases hj : j < ds.length
  · refine .inr ⟨(y1 ds[j] (by simp [hj])).1, fun H' => ∃ F3 α3 S3 acc3 vs3, Mak G F1 α1 S1 H1 p F3 α3 S3 H' acc3 vs3 ∧ Slots G F3 α3 S3.length H' (wipe σ (own.map (·.2))) (wipeE ρ (own.map (·.2))) ∧ j + 1 ≤ ds.length ∧
        Post G F1 α1 S1 H1 ((lcM t c i1 own1 t1 c1 f (wipeE ρ (own.map (·.2))) (ds.drop (j + 1)) acc3 S3).bindN fun xs S2 => if xs.length ≤ 16777216 then newL mu xs S2 else .bad) (fun Fz' β S' H' w => ∀ v, RepW G Fz' β S'.length H' w v → Q v H') (EW G W),
      fun H' z => ⟨ds.length - (j + 1), by omega, rfl, z⟩, fun x H3 hy => ?_⟩
    obtain ⟨F3, st3, m3, r3⟩ := (y1 ds[j] (by simp [hj])).2 x H3 hy
    rw [List.drop_eq_getElem_cons hj] at q2
    unfold lcM at q2
    cases e1 : t.put ds[j] (wipeE ρ (own.map (·.2))) with
    | none => rw [e1] at q2; exact q2.elim
    | some ρ3 =>
      rw [e1] at q2
      dsimp only at q2
      rw [R.bindN_assoc] at q2
      have k3 := k2.move st3 m3
      refine ⟨F3, α2, S2, wipeE ρ (own.map (·.2)), ds[j], ρ3, m3, sl2.mono st3, r3, e1, fun σ3 sl3 ag => ⟨?_, htt _ _ _ ⟨F3, α2, S2, ρ3, m3, sl3, ?_⟩⟩⟩
      · rw [ag (own.map (·.2)) hsub, wipe_wipe]
      · refine ((Post.bindB (E' := EW G W0) q2).after k3.st).mono fun F4 α4 S4 H4 b st4 m4 q4 => ?_
        have k4 := k3.move st4 m4
        cases b with
        | false => exact ⟨F4, α4, S4, acc, vs, k4, sl2.mono (st3.trans st4), by omega, q4⟩
        | true =>
          rw [if_pos rfl] at q4
          show (if true = true then _ else _)
          rw [if_pos rfl]
          rw [R.bindN_assoc] at q4
          refine ⟨F4, α4, S4, ρ3, m4, sl3.mono st4, ((Post.bindB (E' := EW G W0) q4).after k4.st).mono fun F5 α5 S5 H5 es st5 m5 q5 J1 hJ1 => ?_⟩
          have k5 := k4.move st5 m5
          by_cases hlen : acc.length + es.length ≤ 16777216
          · rw [if_pos hlen] at q5
            rw [R.bindN_assoc] at q5
            have sl5 := ((sl3.mono st4).mono st5).wipe hps own1
            exact walk_lc m1 hp htt1 hsub1 (wipe_wipe σ3 own1) hJ1 k5 sl5 hlen q5 fun F6 α6 S6 H6 acc6 vs6 k6 hs6 q6 => ⟨F6, α6, S6, acc6, vs6, k6, hs6 (sl2.mono ((st3.trans st4).trans st5)), by omega, q6⟩
          · rw [if_neg hlen] at q5
            exact q5.elim
  · refine .inl ⟨y2 (by omega), ?_⟩
    rw [List.drop_eq_nil_of_le (by omega)] at q2
    have q2 : Post G F1 α1 S1 H1 (if acc.length ≤ 16777216 then newL mu acc S2 else .bad) (fun Fz' β S' H' w => ∀ v, RepW G Fz' β S'.length H' w v → Q v H') (EW G W) := q2
    by_cases hz : acc.length ≤ 16777216
    · rw [if_pos hz] at q2
      exact newL_ok m1 k2.st k2.m hp k2.at_ (by rw [← Reps.length k2.r]; exact hz) k2.r k2.nF k2.nC q2
    · rw [if_neg hz] at q2
      exact q2.elim
theorem xs_setLc2 {mu : Bool} {tt tt1 : TT} {j : Nat} {y : Str} {py spos : Pos} (hps : ∀ i σ o, G.ps σ → G.ps (σ.set i o)) (htt : ∀ σ H (Q : Bool → Hp → Prop), RdT G W0 (toT c) σ H Q → tt σ H Q) (htt1 : ∀ σ H (Q : Bool → Hp → Prop), RdT G W0 (toT c1) σ H Q → tt1 σ H Q) (hsub : ∀ j ∈ t.slots, j ∈ own.map (·.2)) (hsub1 : ∀ j ∈ t1.slots, j ∈ own1)
    (hc : X.calm = true) (hN : X.N.Nodup) (hy : X.N[j]? = some y) (hyl : X.env.scope.names.lookup y = some .local) (hsw : swapsWith (.ListComp elt [⟨tg, iter, ifs, 0⟩, ⟨tg1, iter1, ifs1, 0⟩] scope pos) (some (.Name y py)) spos.line X.env = pure true) (hi : PI X tg iter (RdI G W i)) (ok : BlkOk X.N X.env.scope scope own) (hv : ∀ i ∈ own1, i ∈ own.map (·.2))
    (hg : ∀ (s : Shared) (H : Hp) (C : Addr) (cl : List (Str × Addr)) (fp : List Addr), PG (X.blk s H scope (compEnvC scope cl C X.env) fp) tg (RdG G t)) (ht : ∀ (s : Shared) (H : Hp) (C : Addr) (cl : List (Str × Addr)) (fp : List Addr), PTs (X.blk s H scope (compEnvC scope cl C X.env) fp) ifs tt)
    (hi1 : ∀ (s : Shared) (H : Hp) (C : Addr) (cl : List (Str × Addr)) (fp : List Addr), PI (X.blk s H scope (compEnvC scope cl C X.env) fp) tg1 iter1 (RdI G W0 i1))
    (hg1 : ∀ (s : Shared) (H : Hp) (C : Addr) (cl : List (Str × Addr)) (fp : List Addr), PG (X.blk s H scope (compEnvC scope cl C X.env) fp) tg1 (RdG G t1)) (ht1 : ∀ (s : Shared) (H : Hp) (C : Addr) (cl : List (Str × Addr)) (fp : List Addr), PTs (X.blk s H scope (compEnvC scope cl C X.env) fp) ifs1 tt1)
    (he : ∀ (s : Shared) (H : Hp) (C : Addr) (cl : List (Str × Addr)) (fp : List Addr), PE (X.blk s H scope (compEnvC scope cl C X.env) fp) elt (RdE G W0 f)) (hs : ∀ x, foldedSetIterable iter X.env x = pure x) (hs1 : ∀ env x, foldedSetIterable iter1 env x = pure x) :
    PS X (.Assign [.Name y py] (.ListComp elt [⟨tg, iter, ifs, 0⟩, ⟨tg1, iter1, ifs1, 0⟩] scope pos) spos) (RdS G W (sSet j (cLc2 mu (own.map (·.2)) t i c own1 t1 i1 c1 f))) :=
  ps_le (ps_setLc2 hc hN hy hyl hsw hi ok hv hg ht hi1 hg1 ht1 he hs hs1) fun D σ H h => rd_lc2 hps htt htt1 hsub hsub1 (by
    obtain ⟨Fz, α, S, ρ, m, sl, q⟩ := h
    exact ⟨Fz, α, S, ρ, m, sl, (Post.bind q).mono fun F1 α1 S1 H1 w st m1 q1 v r => q1.now m1 _ ((sl.mono st).set (hps _) r)⟩)
end
end EV
set_option maxHeartbeats 1000000
namespace EV
open PySem L2
variable {G : SP}

def pairs (n : Nat) : List D → List D
  | [] => []
  | x :: xs => .pr (.int n) x :: pairs (n + 1) xs
end EV
set_option maxHeartbeats 1000000
namespace EV
open PySem L2
variable {G : SP}

def body0 (n : Nat) (b : SmS) (ws : List W) (S : Store) : R W := match b (ws.map some ++ List.replicate (n - ws.length) none) S with
  | .ok (.rt w) S1 => .ok w S1
  | .ok (.nx _) S1 => .ok (.d .non) S1
  | .ok _ _ => .bad
  | .exn c fs ds _ S1 => .exn c fs ds [] S1
  | .bad => .bad
theorem start_slots {Fz : Addr → Prop} {α : Nat → Addr} {n : Nat} {H : Hp} {N : List Str} {ws : List W} {vs : List V} (hps : ∀ σ, G.ps σ) (r : RepWs G Fz α n H ws vs) : Slots G Fz α n H (L2.start N vs) (ws.map some ++ List.replicate (N.length - ws.length) none) := by
  have hl := Paired.length r
  refine ⟨⟨by unfold L2.start; simp [hl], hps _⟩, fun i w h => ?_⟩
  by_cases hi : i < ws.length
  · rw [List.getElem?_append_left (by simpa using hi), List.getElem?_map] at h
    have hw : ws[i]? = some w := by
      cases q : ws[i]? with
      | none => rw [q] at h; cases h
      | some u => rw [q] at h; exact Option.some.inj h
    have key : ∀ (ws : List W) (vs : List V) (i : Nat), RepWs G Fz α n H ws vs → ws[i]? = some w → ∃ v, vs[i]? = some v ∧ RepW G Fz α n H w v := by
      intro ws vs i r
      induction r generalizing i with
      | nil => intro h; simp at h
      | cons hh t ih =>
        intro hw
        cases i with
        | zero => simp at hw; subst hw; exact ⟨_, rfl, hh⟩
        | succ i => obtain ⟨v, h1, h2⟩ := ih i (by simpa using hw); exact ⟨v, by simpa using h1, h2⟩
    obtain ⟨v, h1, h2⟩ := key ws vs i r hw
    refine ⟨v, ?_, h2⟩
    unfold L2.start
    rw [List.getElem?_append_left (by rw [List.length_map, ← hl]; exact hi), List.getElem?_map, h1]
    rfl
  · rw [List.getElem?_append_right (by simpa using hi)] at h
    have h2 := List.mem_of_getElem? h
    rw [List.mem_replicate] at h2
    cases h2.2
theorem rd_body {N : List Str} {b : SmS} {np : Nat} {vs : List V} {H : Hp} {Q : VK} {E : XK} (hps : ∀ σ, G.ps σ) (h : spF G np (body0 N.length b) vs H Q E) : RdS G (fun cls d _ H => E cls d H) b { nx := fun _ H' => Q .non H', rt := Q } (L2.start N vs) H := by
  obtain ⟨Fz, α, S, ws, m, r, hl, q⟩ := h
  refine ⟨Fz, α, S, ws.map some ++ List.replicate (N.length - ws.length) none, m, start_slots hps r, ?_⟩
  unfold body0 at q
  cases e : b (ws.map some ++ List.replicate (N.length - ws.length) none) S with
  | bad => rw [e] at q; exact q
  | exn c fs ds ρ S1 =>
    rw [e] at q
    exact fun Fz' β H' cls d st m' er σ sl => q Fz' β H' cls d st m' er
  | ok f S1 =>
    rw [e] at q
    cases f with
    | nx ρ => exact fun Fz' β H' st m' σ sl => q Fz' β H' st m' .non rfl
    | rt w => exact fun Fz' β H' st m' v rv => q Fz' β H' st m' v rv
    | bk ρ => exact q.elim
    | ct ρ => exact q.elim
theorem fn_ok {P : Program} {w : World} {mg : Str → Option Value} {base : Heap} {x qual : Str} {params : Arguments} {body : List Stmt} {scope : Scope} {dvs : List V} {kws : List (Str × V)} {f : Addr} {fd : FuncData} {N ps : List Str} {k : Nat} {b : SmS} (hps : ∀ σ, G.ps σ)
    (F : FunD G.K x qual params body scope dvs kws f fd) (S : FnScope N ps scope)
    (hbody : ∀ (cdv : Value) (A : Around) (outer : List Env) (s : Shared) (H : Hp) (E : XK), Room k (A.deeper (PyProof.Rows.envOfC qual scope s.heap.objs.size f cdv)) → PSs (cxOf (L2.CX P w) P w G.K mg base N qual scope f cdv A outer s H E) body (RdS G (fun cls d _ H => E cls d H) b)) :
    FnOk P w G.K mg base (L2.CX P w) (k + 1) f fd ps (spF G ps.length (body0 N.length b)) :=
  F.ok S (fun vs H Q E h => spF.len h) fun cdv A outer s H vs Q E hr h => ⟨_, hbody cdv A outer s H E hr, rd_body hps h⟩
theorem fn_bad {P : Program} {w : World} {mg : Str → Option Value} {base : Heap} {f : Addr} {fd : FuncData} {ps : List Str} {k : Nat} : FnOk P w G.K mg base (L2.CX P w) k f fd ps (spF G ps.length fun _ _ => .bad) :=
  ⟨fun vs H Q E h => spF.len h, fun A outer s H args us vs Q E hr e0 hb hv ⟨_, _, _, _, _, _, _, h⟩ => h.elim⟩
def cEf (f : Str) (fs : List Str) (ds : List D) : Sm := fun _ S => match look2 f fs ds with
  | some d => .ok (.d d) S
  | none => .bad
theorem look2_ix {f : Str} : ∀ {fs : List Str} {ds : List D} {d : D}, look2 f fs ds = some d → ∃ i : Nat, fs[i]? = some f ∧ ds[i]? = some d
  | [], ds, d, h => by cases ds <;> cases h
  | g :: fs, [], d, h => by cases h
  | g :: fs, x :: ds, d, h => by
    unfold look2 at h
    by_cases e : g = f
    · rw [if_pos e] at h
      cases h
      exact ⟨0, by rw [e]; rfl, rfl⟩
    · rw [if_neg e] at h
      obtain ⟨i, h1, h2⟩ := look2_ix h
      exact ⟨i + 1, by simpa using h1, by simpa using h2⟩
theorem ex_ef {X : Cx} {W : WX} {a dd : Addr} {us : List (Str × V)} {fs : List Str} {ds : List D} {i c : Nat} {oe : Obj} {pn : List (Addr × Obj)} {n f : Str} {pos p : Pos} (T : XfC X.K (G.cls c)) (hno : PySem.W.findIn X.K (.ref (G.cls c)) f = some none)
    (hz : Zc (.ref (G.cls c)) (some dd) oe) (hf : ∃ vs, oe.data = .fields vs) (hN : X.N[i]? = some n) (hv : Vis X.env.scope n) (hd : (n == ("__debug__" : Str)) = false) (hcd : (n == ("__classdict__" : Str)) = false)
    (hb : attributeBase (.Name n p) f X.env (eval (.Name n p) X.env) = eval (.Name n p) X.env) :
    PE (X.suite a ((a, oe) :: pn)) (.Attribute (.Name n p) f pos) (RdE (exP G a dd us fs ds (some i)) W (cEf f fs ds)) :=
  pe_le (pe_xf T hno hz hf (pe_var (X := X.suite a ((a, oe) :: pn)) hN hv hd hcd) hb) fun σ H Q ⟨Fz, α, S, ρ, m, sl, q⟩ => by
    have h1 : σ[i]? = some (some (.ref a)) := sl.1.2.2
    unfold cEf at q
    cases h2 : look2 f fs ds with
    | none => rw [h2] at q; exact q.elim
    | some d =>
      rw [h2] at q
      obtain ⟨j, j1, j2⟩ := look2_ix h2
      obtain ⟨v, x, k1, k2, k3⟩ := m.pc.2.2.2.2 j f j1
      rw [j2] at k2
      cases k2
      exact ⟨.ref a, h1, rfl, rfl, dd, us, v, rfl, m.pc.2.1, k1, q.now m v (Rep.tr (G := G) (G' := exP G a dd us fs ds (some i)) rfl rfl rfl k3)⟩
end EV
set_option maxHeartbeats 1000000
namespace EV
open PySem L2
theorem oexB_ok {K : PySem.W.Frag} {C : Addr} (q : oexB K C = true) : OexC K C := by
  unfold oexB at q
  obtain ⟨q, q2⟩ := He.ba q
  obtain ⟨a1, q2⟩ := He.ba q2
  obtain ⟨a2, q2⟩ := He.ba q2
  obtain ⟨a3, a4⟩ := He.ba q2
  refine ⟨?_, He.eqO_ok a1, of_decide_eq_true a2, of_decide_eq_true a3, a4⟩
  split at q
  · rename_i dd cd sl ho
    split at q
    · rename_i D bm k0 k1 k2 k3 n k5 hm hs
      simp only [Bool.and_eq_true, beq_iff_eq, Bool.not_eq_true'] at q
      obtain ⟨⟨⟨⟨rfl, rfl⟩, hdel⟩, hdct⟩, ht⟩ := q
      obtain ⟨nm, bs, mro, ns, qn, hd, sn, sub, ab, col, del⟩ := cd
      dsimp only at hm hdel hdct
      subst hm hdel hdct
      obtain ⟨l⟩ := sl
      have hs : l = _ := hs
      subst hs
      exact ⟨nm, qn, ns, bs, bm, sn, sub, ab, col, dd, k0, k1, k2, k3, k5, ho, ht⟩
    · cases q
  · cases q
theorem insB_ok {K : PySem.W.Frag} {C : Addr} (q : insB K C = true) : InsTy K C := by
  unfold insB at q
  obtain ⟨q, q2⟩ := He.ba q
  obtain ⟨a1, q⟩ := He.ba q
  obtain ⟨a2, q⟩ := He.ba q
  obtain ⟨a3, a4⟩ := He.ba q
  obtain ⟨b1, q2⟩ := He.ba q2
  obtain ⟨b2, q2⟩ := He.ba q2
  obtain ⟨b3, b4⟩ := He.ba q2
  exact ⟨⟨a1, a2, a3, He.eqO_ok a4⟩, He.eqO_ok b1, He.eqO_ok b2, of_decide_eq_true b3, of_decide_eq_true b4⟩
theorem ClsD.excOk {K : PySem.W.Frag} {d : ClsD} (h : d.ok K = true) (he : d.exc = true) : OexC K (He.ga K d.name) ∧ XfC K (He.ga K d.name) ∧ PySem.W.findIn K (.ref (He.ga K d.name)) "__init__" = some (some (.ref (He.ma K (He.ga K d.name) "__init__"))) ∧
    PySem.W.typeIn K (.ref (He.ma K (He.ga K d.name) "__init__")) = some (.type "function") ∧ ∀ f ∈ d.fields, PySem.W.findIn K (.ref (He.ga K d.name)) f = some none := by
  unfold ClsD.ok at h
  rw [if_pos he] at h
  obtain ⟨h1, h⟩ := He.ba h
  obtain ⟨h2, h⟩ := He.ba h
  obtain ⟨h3, h⟩ := He.ba h
  obtain ⟨h4, h5⟩ := He.ba h
  exact ⟨oexB_ok h1, xfB_ok h2, He.eqO_ok h3, of_decide_eq_true h4, fun f hf => He.eqO_ok (List.all_eq_true.mp h5 f hf)⟩
theorem ClsD.insOk {K : PySem.W.Frag} {d : ClsD} (h : d.ok K = true) (he : d.exc = false) : InsTy K (He.ga K d.name) ∧ Mk K (He.ga K d.name) (He.ma K (He.ga K d.name) "__init__") ∧ (∀ f ∈ d.fields, NoAttr K (He.ga K d.name) f) ∧ ∀ m ∈ d.meths, Meth K (He.ga K d.name) m (He.ma K (He.ga K d.name) m) := by
  unfold ClsD.ok at h
  rw [if_neg (by rw [he]; decide)] at h
  obtain ⟨h1, h⟩ := He.ba h
  obtain ⟨h2, h⟩ := He.ba h
  obtain ⟨h3, h4⟩ := He.ba h
  exact ⟨insB_ok h1, He.mkr_ok h2, fun f hf => He.eqO_ok (List.all_eq_true.mp h3 f hf), fun m hm => He.meth_ok (List.all_eq_true.mp h4 m hm)⟩
theorem clsEx_at {cs : List ClsD} {K : PySem.W.Frag} (h : clsEx cs K = true) {i : Nat} {d : ClsD} (hd : cs[i]? = some d) : d.ok K = true := List.all_eq_true.mp (He.ba h).1 d (List.mem_of_getElem? hd)
theorem clsEx_exm {cs : List ClsD} {K : PySem.W.Frag} (h : clsEx cs K = true) {i j : Nat} {d e : ClsD} (hd : cs[i]? = some d) (he : cs[j]? = some e) (xd : d.exc = true) (xe : e.exc = true) : PySem.W.exmOne K (.ref (He.ga K d.name)) (.ref (He.ga K e.name)) = some (decide (e.name = d.name)) := by
  have z := List.all_eq_true.mp (He.ba (He.ba h).2).1 d (List.mem_of_getElem? hd)
  rw [xd] at z
  have z2 := List.all_eq_true.mp (show (cs.all fun e => !e.exc || decide (PySem.W.exmOne K (.ref (He.ga K d.name)) (.ref (He.ga K e.name)) = some (decide (e.name = d.name)))) = true from z) e (List.mem_of_getElem? he)
  rw [xe] at z2
  exact of_decide_eq_true (show decide _ = true from z2)
def isX (cs : List ClsD) (i : Nat) : Bool := match cs[i]? with
  | some d => d.exc
  | none => false
theorem isX_at {cs : List ClsD} {i : Nat} (h : isX cs i = true) : ∃ d, cs[i]? = some d ∧ d.exc = true := by
  unfold isX at h
  cases e : cs[i]? with
  | none => rw [e] at h; cases h
  | some d => rw [e] at h; exact ⟨d, rfl, h⟩
theorem name_ix {cs : List ClsD} (nd : (cs.map (·.name)).Nodup) {i j : Nat} {d e : ClsD} (hd : cs[i]? = some d) (he : cs[j]? = some e) : decide (e.name = d.name) = decide (j = i) := by
  have h1 : (cs.map (·.name))[i]? = some d.name := by rw [List.getElem?_map, hd]; rfl
  have h2 : (cs.map (·.name))[j]? = some e.name := by rw [List.getElem?_map, he]; rfl
  have li : i < (cs.map (·.name)).length := (List.getElem?_eq_some_iff.mp h1).1
  by_cases q : j = i
  · subst q
    rw [hd] at he
    cases he
    simp
  · rw [decide_eq_false q]
    refine decide_eq_false fun z => q ?_
    exact ((List.getElem?_inj li nd).mp (by rw [h1, h2, z])).symm
theorem apart_of {G : EV.SP} {cs : List ClsD} (hG : ∀ i d, cs[i]? = some d → G.cls i = He.ga G.K d.name) (nd : (cs.map (·.name)).Nodup) (h : clsEx cs G.K = true) {ks : List Nat} {l : List Cz} (hk : (ks.all fun i => isX cs i) = true) (hl : (l.all fun p => isX cs p.1) = true) : ∀ c ∈ ks, Apart G c l := fun c hc p hp => by
  obtain ⟨d, hd, xd⟩ := isX_at (List.all_eq_true.mp hk c hc)
  obtain ⟨e, he, xe⟩ := isX_at (List.all_eq_true.mp hl p hp)
  rw [hG c d hd, hG p.1 e he, clsEx_exm h hd he xd xe, name_ix nd hd he]
def isI (cs : List ClsD) (i : Nat) : Bool := match cs[i]? with
  | some d => !d.exc
  | none => false
theorem isI_at {cs : List ClsD} {i : Nat} (h : isI cs i = true) : ∃ d, cs[i]? = some d ∧ d.exc = false := by
  unfold isI at h
  cases e : cs[i]? with
  | none => rw [e] at h; cases h
  | some d => rw [e] at h; exact ⟨d, rfl, by simpa using h⟩
theorem kit_at {cs : List ClsD} {K : PySem.W.Frag} (h : clsEx cs K = true) {i : Nat} {d : ClsD} (hd : cs[i]? = some d) (xd : d.exc = false) :
    (∀ n ∈ tyNs, (n ≠ "NoneType" → PySem.W.kitOne K (.ref (He.ga K d.name)) (.type n) = some false) ∧ PySem.W.kitOne K (.type n) (.ref (He.ga K d.name)) = some false) ∧ ∀ (j : Nat) (e : ClsD), cs[j]? = some e → e.exc = false → PySem.W.kitOne K (.ref (He.ga K d.name)) (.ref (He.ga K e.name)) = some (decide (e.name = d.name)) := by
  have z := List.all_eq_true.mp (He.ba (He.ba h).2).2 d (List.mem_of_getElem? hd)
  rw [xd] at z
  have z : ((tyNs.all fun n => (n == "NoneType" || decide (PySem.W.kitOne K (.ref (He.ga K d.name)) (.type n) = some false)) && decide (PySem.W.kitOne K (.type n) (.ref (He.ga K d.name)) = some false)) && cs.all fun e => e.exc || decide (PySem.W.kitOne K (.ref (He.ga K d.name)) (.ref (He.ga K e.name)) = some (decide (e.name = d.name)))) = true := z
  obtain ⟨z1, z2⟩ := He.ba z
  refine ⟨fun n hn => ?_, fun j e he xe => ?_⟩
  · obtain ⟨a, b⟩ := He.ba (List.all_eq_true.mp z1 n hn)
    refine ⟨fun hne => ?_, of_decide_eq_true b⟩
    rcases Bool.or_eq_true_iff.mp a with a | a
    · exact absurd (beq_iff_eq.mp a) hne
    · exact of_decide_eq_true a
  · have a := List.all_eq_true.mp z2 e (List.mem_of_getElem? he)
    rw [xe] at a
    exact of_decide_eq_true (show decide _ = true from a)
theorem qok_of {G : EV.SP} {cs : List ClsD} (hG : ∀ i d, cs[i]? = some d → G.cls i = He.ga G.K d.name) (h : clsEx cs G.K = true) {ics : List Nat} (hi : (ics.all fun i => isI cs i) = true) {n : String} (hn : n ∈ tyNs) (h0 : n ≠ "NoneType") : QOk G (.type n) (isT n ics) := qok_ty fun c hc => by
  obtain ⟨d, hd, xd⟩ := isI_at (List.all_eq_true.mp hi c hc)
  rw [hG c d hd]
  exact ⟨(ClsD.insOk (clsEx_at h hd) xd).1, ((kit_at h hd xd).1 n hn).1 h0⟩
theorem hu65 {A : Around} {k : Nat} (hr : Room k A) : A.units + 65 < cLine := by have := hr.un; omega
theorem hu70 {A : Around} {k : Nat} (hr : Room k A) : A.units + 70 < cLine := by have := hr.un; omega
theorem takes0 {X : Cx} : Takes X W0 := fun u s' ⟨a, B, sI, pins, σ, H, cls, d, e, I, nb, up, sky, na, os, ag, w⟩ => w.elim
end EV
set_option maxHeartbeats 1000000
namespace EV
open PySem L2
variable {G : EV.SP}
section
variable {prog : Program} {w : World} {A : Around} {E : Value → Shared → Prop} {s : Shared}
theorem adjust_back (n : Nat) : Builtin.Slice.sliceAdjust none none (-1) (n : Int) = ((n : Int) - 1, -1) := by
  unfold Builtin.Slice.sliceAdjust
  first
    | rfl
    | simp
theorem places_back (n : Nat) : Builtin.Slice.slicePlaces ((n : Int) - 1) (-1) (-1) = n := by
  unfold Builtin.Slice.slicePlaces
  first
    | (simp; omega)
    | (split <;> omega)
theorem pick_back (us : List Value) : ((List.range us.length).filterMap fun (k : Nat) => us.toArray[(((us.length : Nat) : Int) - 1 + (k : Int) * -1).toNat]?) = us.reverse := by
  apply List.ext_getElem?
  intro i
  have e : ∀ l : List Nat, (∀ k ∈ l, k < us.length) → (l.filterMap fun (k : Nat) => us.toArray[(((us.length : Nat) : Int) - 1 + (k : Int) * -1).toNat]?) = l.map fun k => us.getD (us.length - 1 - k) .none := fun l hl => by
    induction l with
    | nil => rfl
    | cons k l ih =>
      have hk := hl k (List.mem_cons_self ..)
      have e1 : (((us.length : Nat) : Int) - 1 + (k : Int) * -1).toNat = us.length - 1 - k := by omega
      rw [List.filterMap_cons, List.map_cons, e1]
      have e2 : us.toArray[us.length - 1 - k]? = some (us.getD (us.length - 1 - k) .none) := by
        have : us.length - 1 - k < us.length := by omega
        simp [this]
      rw [e2]
      dsimp only
      rw [ih fun k hk => hl k (List.mem_cons_of_mem _ hk)]
  rw [e _ fun k hk => List.mem_range.mp hk, List.getElem?_map]
  by_cases hi : i < us.length
  · rw [List.getElem?_range hi, List.getElem?_reverse hi]
    have : us.length - 1 - i < us.length := by omega
    simp [this]
  · rw [List.getElem?_eq_none (by simpa using hi), List.getElem?_eq_none (by simpa using hi)]
    rfl
theorem item_back {t sl : Addr} {us : List Value} {vs : Value} {Q : Value → Shared → Prop} (ht : s.heap.IsTuple t us.toArray) (hs : s.heap.IsSliceOf sl .none .none vs) (ps : IsPart vs (some (-1))) (hz : us.length ≤ sizeLine)
    (k : Q (.ref s.heap.objs.size) { s with heap := s.heap.push { cls := .type "tuple", data := .seq us.reverse.toArray } }) : wpAny (model prog w) A (getItem (.ref t) (.ref sl)) Q E s := by
  have fit : sizeOk (.seq us.reverse.toArray) := by
    show us.reverse.toArray.size ≤ sizeLine
    simpa using hz
  have hty : s.TypeIs (.ref t) "tuple" := by
    obtain ⟨o, ho, hc, _⟩ := ht
    exact ⟨o, ho, hc⟩
  obtain ⟨os, hos, hcs, hds⟩ := id hs
  unfold getItem
  try with_reducible refine wpAny_holding ?_
  first | refine wpAny_bind (wpAny_pure ?_) | skip
  refine wpAny_bind (wpAny_sequenceKey hty (by decide) (wpAny_bind (wpAny_callSpecial?_slot (name := Str.ofString "__getitem__") hty PyProof.Rows.slot_tuple_getitem (wpAny_call_entry PyProof.Rows.slot_tuple_getitem hty PyProof.Rows.entry_tuple_getitem ?_ (PyProof.Rows.args_tuple_getitem _ _)))))
  show wpAny _ _ (Builtin.Tuple.tupleItemsOf (.ref t) >>= _) _ _ s
  refine wpAny_bind (PyProof.Rows.tupleItemsOf_ ht (wpAny_bind (wpAny_typeOf (T := "slice") ⟨os, hos, hcs⟩ ?_)))
  rw [if_pos (by decide)]
  refine wpAny_bind ?_
  · unfold Builtin.Slice.sliceApplied Builtin.Slice.sliceFields
    refine wpAny_bind (wpAny_bind (wpAny_field hos hds (x := .none) rfl (wpAny_bind (wpAny_field hos hds (x := .none) rfl (wpAny_bind (wpAny_field hos hds (x := vs) rfl (wpAny_pure ?_)))))))
    refine wpAny_bind (HT.slicePart_ ps ?_)
    show wpAny _ _ (if ((-1 : Int) == 0) = true then _ else _) _ _ s
    rw [if_neg (by decide)]
    refine wpAny_bind (HT.slicePart_ .none (wpAny_bind (HT.slicePart_ .none (wpAny_bind (wpAny_pure ?_)))))
    show wpAny _ _ (match Builtin.Slice.sliceAdjust none none (-1) ((us.toArray.size : Nat) : Int) with | (lo, hi) => pure (lo, (-1 : Int), Builtin.Slice.slicePlaces lo hi (-1))) _ _ s
    rw [adjust_back]
    show wpAny _ _ (pure (((us.toArray.size : Nat) : Int) - 1, (-1 : Int), Builtin.Slice.slicePlaces (((us.toArray.size : Nat) : Int) - 1) (-1) (-1))) _ _ s
    rw [places_back]
    refine wpAny_pure ?_
    have e1 : us.toArray.size = us.length := by simp
    have no : ¬ (((((us.toArray.size : Nat) : Int) - 1) == 0 && (-1 : Int) == 1 && us.toArray.size == us.toArray.size) = true) := by simp
    show wpAny _ _ (if ((((us.toArray.size : Nat) : Int) - 1) == 0 && (-1 : Int) == 1 && us.toArray.size == us.toArray.size) = true then _ else _) _ _ s
    rw [if_neg no, e1, pick_back]
    first
      | exact wpAny_bind (m := Builtin.Tuple.tupleExact _) (wpAny_newObj_type (wpAny_pure ⟨_, rfl, wpAny_pure k⟩) fit)
      | exact wpAny_bind (m := Builtin.Tuple.tupleExact _) (wpAny_newObj_type (wpAny_bind (wpAny_pure (wpAny_pure ⟨_, rfl, wpAny_pure k⟩))) fit)
      | exact wpAny_bind (wpAny_bind (m := Builtin.Tuple.tupleExact _) (wpAny_newObj_type (wpAny_pure (wpAny_pure ⟨_, rfl, wpAny_pure k⟩)) fit))
      | exact wpAny_bind (wpAny_bind (m := Builtin.Tuple.tupleExact _) (wpAny_newObj_type (wpAny_pure ⟨_, rfl, wpAny_pure k⟩) fit))
end
/-- of a list, of a tuple -/
def tRevA (K : PySem.W.Frag) (te : TE) : TE := fun σ H Q => te σ H fun x H1 => ∃ a xs, x = .ref a ∧ ((SqL K H1 a xs ∧ ∀ p, H1 p = none → Q (.ref p) (upd H1 p (.lst xs.reverse))) ∨ (SqT K H1 a xs ∧ NewT H1 Q xs.reverse))
theorem pe_revA {X : Cx} {e : Expr} {te : TE} {k : Nat} {p1 p2 p3 pos : Pos} (he : PE X e te) : PE X (.Subscript e (.Slice none none (some (.UnaryOp .USub (.Constant (.int 1) k p1) p2)) p3) pos) (tRevA X.K te) := by
  refine ⟨fun pins s σ H Q I h => ?_⟩
  refine PyProof.Rows.Subscript_ (thn (he.run pins s σ H _ I h) fun v s1 ⟨x, H1, I1, r1, a, xs, ex, q⟩ => ?_)
  subst ex
  cases r1
  have one : PO X (some (.UnaryOp .USub (.Constant (.int 1) k p1) p2)) (tPart (tUn (rU fun i => .int (-i)) (tC (.int 1)))) := po_some (pe_un un_neg pe_int)
  refine wpAny_Slice (thn (po_none.run pins s1 σ H1 (fun o H2 => o = none ∧ H2 = H1) I1 ⟨rfl, rfl⟩) fun vl s2 ⟨l, H2, I2, pl, el, e2⟩ => ?_)
  subst el e2
  refine thn (po_none.run pins s2 σ H2 (fun o H3 => o = none ∧ H3 = H2) I2 ⟨rfl, rfl⟩) fun vu s3 ⟨u, H3, I3, pu, eu, e3⟩ => ?_
  subst eu e3
  refine thn (one.run pins s3 σ H3 (fun o H4 => o = some (-1) ∧ H4 = H3) I3 ⟨1, rfl, -1, rfl, rfl, rfl⟩) fun vs s4 ⟨o, H4, I4, ps, eo, e4⟩ => ?_
  subst eo e4
  cases pl
  cases pu
  have I5 : Inv X pins σ H4 { s4 with heap := s4.heap.push { cls := .type "slice", data := .fields #[.none, .none, vs] } } := I4.kept (t' := s4.toks) fun b ob q => Heap.get?_push_of_some _ q
  show wpAny (model X.prog X.w) X.A (PyProof.Rows.subscriptTail e (.Slice none none (some (.UnaryOp .USub (.Constant (.int 1) k p1) p2)) p3) (.ref a) (.ref s4.heap.objs.size)) (EP X pins σ Q) X.xe { s4 with heap := s4.heap.push { cls := .type "slice", data := .fields #[.none, .none, vs] } }
  rcases q with ⟨hx, q⟩ | ⟨hx, q⟩
  · obtain ⟨its, r, ht, hz⟩ := I5.list hx
    have hlen := r.length
    refine PyProof.Rows.tail_any (ops := [.ref a, .ref s4.heap.objs.size]) ht.isList.typeIs (PySem.slot_list_getitem.lookup) ?_ (by with_unfolding_all rfl)
    refine wpAny_getItem_list_slice ht.isList (Heap.IsSliceOf.new _ .none .none vs) .none .none ps (by decide) ?_ (by rw [List.size_toArray]; omega)
    rw [PySem.W.krv_pick]
    exact ⟨.ref _, _, I5.laid (t' := s4.toks) (o := .lst xs.reverse) (fun b ob q => Heap.get?_push_of_some _ q) (Nat.le_refl _) ⟨by rw [List.length_reverse]; exact hz, _, 0, r.reverse, Heap.get?_push_size _ rfl⟩, rfl, q _ (I5.hok.fresh (Nat.le_refl _))⟩
  · obtain ⟨its, r, ht, hz⟩ := I5.tuple hx
    have hlen := r.length
    have hty : Shared.TypeIs { s4 with heap := s4.heap.push { cls := .type "slice", data := .fields #[.none, .none, vs] } } (.ref a) "tuple" := by
      obtain ⟨o, ho, hc, _⟩ := ht
      exact ⟨o, ho, hc⟩
    refine PyProof.Rows.tail_any (ops := [.ref a, .ref s4.heap.objs.size]) hty (PyProof.Rows.slot_tuple_getitem.lookup) ?_ (by with_unfolding_all rfl)
    refine item_back ht (Heap.IsSliceOf.new _ .none .none vs) ps (by omega) ?_
    exact newT_ok (s := { s4 with heap := s4.heap.push { cls := .type "slice", data := .fields #[.none, .none, vs] } }) (tk := s4.toks) I5 (by rw [List.length_reverse]; exact hz) r.reverse (fun b ob q => Heap.get?_push_of_some _ q) (Nat.le_refl _) (Heap.get?_push_size _ rfl) q
def cRev (mu : Bool) (f : Sm) : Sm := fun ρ S => (f ρ S).bind fun w S1 => match view S1 w with
  | some (.lst xs) => newL mu xs.reverse S1
  | some (.tup xs) => .ok (.d (.tup xs.reverse)) S1
  | _ => .bad
theorem ex_rev {X : Cx} {W : WX} {mu : Bool} {a : Expr} {f : Sm} {k : Nat} {p1 p2 p3 pos : Pos} (hK : X.K = G.K) (hf : PE X a (RdE G W f)) : PE X (.Subscript a (.Slice none none (some (.UnaryOp .USub (.Constant (.int 1) k p1) p2)) p3) pos) (RdE G W (cRev mu f)) :=
  pe_le (pe_revA hf) fun σ H Q ⟨Fz, α, S, ρ, m, sl, q⟩ => ⟨Fz, α, S, ρ, m, sl, (Post.bind q).mono fun F1 α1 S1 H1 w st m1 q1 v rv => by
    cases h1 : view S1 w with
    | none => rw [h1] at q1; exact q1.elim
    | some x =>
      rw [h1] at q1
      have lk := view_ok m1 h1 rv
      cases x with
      | lst xs =>
        obtain ⟨a, vs, rfl, h1, h2, h3⟩ := look_lst lk
        refine ⟨a, vs, rfl, .inl ⟨by rw [hK]; exact h1, fun p hp => ?_⟩⟩
        have hz : vs.reverse.length ≤ 16777216 := by rw [List.length_reverse]; exact h2
        cases mu with
        | false =>
          obtain ⟨s4, m4⟩ := new_frz (o := .lst vs.reverse) m1 hp trivial
          exact q1 _ _ _ s4 m4 _ ⟨p, _, rfl, .inl ⟨.inr rfl, .inl upd_same⟩, hz, Reps.mono s4.ext (Reps.reverse h3)⟩
        | true =>
          obtain ⟨s4, m4⟩ := new_cell (o := .lst vs.reverse) (c := .lst true xs.reverse) m1 hp (fun _ z => by cases z) fun st => ⟨_, upd_same, hz, Reps.mono st.ext (Reps.reverse h3), fun _ => m1.free hp, fun z => by cases z⟩
          exact q1 _ _ _ s4 m4 _ ⟨by simp, by show V.ref p = _; rw [setA, if_pos rfl]⟩
      | tup xs =>
        obtain ⟨a, vs, rfl, h1, h2, h3, h4⟩ := look_tup lk
        refine ⟨a, vs, rfl, .inr ⟨by rw [hK]; exact h1, fun p o hp ho => ?_⟩⟩
        have hz : vs.reverse.length ≤ 16777216 := by rw [List.length_reverse]; exact h2
        obtain ⟨s4, m4⟩ := new_frz (o := .frz o (.tup vs.reverse)) m1 hp trivial
        exact q1 _ _ _ s4 m4 _ ⟨p, _, rfl, .inl ⟨.inr rfl, ⟨o, upd_same, ho⟩⟩, hz, Reps.mono s4.ext (Reps.reverse h3)⟩
      | _ => exact q1.elim⟩
end EV
set_option maxHeartbeats 1000000
namespace EV
open PySem L2
variable {G : EV.SP}
end EV
set_option maxHeartbeats 1000000
namespace EV
open PySem L2 NdefX
variable {G : EV.SP}
theorem lam_call {X : Cx} {pins : List (Addr × Obj)} {σ : L2.St} {H : Hp} {s : Shared} {F : NF} {lb : Expr} {pm ctv : Value} {f : Addr} {N ps fr : List Str} {us : List Value} {vs : List V} {ws : List (Option V)} {k : Nat} {tb : TE} {Q : VK} (I : Inv X pins σ H s) (hr : Room (k + 1) X.A.in1.in1)
    (hf : s.heap.get? f = some (PySem.W.kla_obj "<lambda>" F.qual F.params lb F.scope F.cl pm F.c ctv)) (hc : H F.c = some (LamX.CodeO F.c F.qual)) (S : NScope N ps fr F.scope) (C : CellsAt F.cl fr ws s.heap H)
    (hb : bindArgs (PySem.W.kla_fn "<lambda>" F.qual F.params lb F.scope F.cl pm (.ref F.c) ctv) ⟨us, []⟩ = pure (ps.zip us)) (r : Vals vs us) (hl : vs.length = ps.length)
    (hbody : ∀ E : XK, Room k (X.A.in1.in1.deeper (envF F f s.heap.objs.size)) → PE (ncx (L2.CX X.prog X.w) X.prog X.w X.K X.mg X.base N F f X.A.in1.in1 X.stack s H E) lb tb) (q : tb (startF N vs ws) H Q) :
    wpAny (model X.prog X.w) X.A.in1.in1 (call (.ref f) us) (EP X pins σ Q) (fun _ _ => False) s := by
  have e0 : Env0 X.prog X.w X.K X.mg X.base X.A.in1.in1 X.stack s H := ⟨I.env0.frames, I.env0.mod, I.env0.bs, I.env0.bsz, I.env0.funs, I.env0.frf, I.env0.hok, I.env0.bare⟩
  have lim : s.heap.NoLimit := e0.mod.nolimit.keeps fun b o e => (e0.bs b o e).1
  have rc : codeAny (model X.prog X.w) X.A.in1.in1 (.call (.ref f) ⟨us, []⟩) (CR (L2.CX X.prog X.w) X.stack X.prog X.w H s Q (fun _ _ _ => False)) s := by
    obtain ⟨⟨oc, us', t, hoc, hdc, hvc⟩, _, _⟩ := I.hok F.c _ hc
    refine PySem.W.kla_callFunE hr.depth hf rfl S.co S.gen rfl ⟨F.c, oc, us', t, rfl, hoc, hdc, hvc⟩ ?_
    rw [hb]
    refine wpAny_pure (wpAny_newFunctionEnv S.nocell (fun ⟨n, _⟩ hy => S.par n (List.of_mem_zip hy).1) (fun h₁ hns hsb => ⟨lim.fresh _ hsb, ?_⟩) S.kind)
    show codeAny _ _ (.expr lb (envF F f s.heap.objs.size)) _ _
    have kp : ∀ b o, s.heap.get? b = some o → h₁.get? b = some o := fun b o e => hsb.extBut b o (Nat.ne_of_lt (Heap.lt_size e)) (Heap.get?_push_of_some _ e)
    have J : Inv (ncx (L2.CX X.prog X.w) X.prog X.w X.K X.mg X.base N F f X.A.in1.in1 X.stack s H (fun _ _ _ => False)) [] (startF N vs ws) H { s with heap := h₁, toks := s.toks + (ps.zip us).length } := inv_startN S hr.hd e0 hl r C hns kp
    refine PySem.W.kla_codeExpr (wpAny_mono ((hbody _ (hr.deeper _)).run [] _ _ H Q J q) (fun v s' hq => ?_) fun e s' hq => hq)
    obtain ⟨w', H', J', rv, q⟩ := hq
    exact ⟨w', H', J'.os, J'.bare, J'.base, J'.hok, rv, q⟩
  refine wpAny_call (codeAny_mono rc fun r s' hq => ?_)
  cases r with
  | error e =>
    obtain ⟨_, _, _, _, _, _, _, _, _, _, _, _, z⟩ := hq
    exact z
  | ok fl =>
    cases fl with
    | ret u => exact I.after hq
    | next => exact False.elim hq
    | brk => exact False.elim hq
    | cont => exact False.elim hq
end EV
set_option maxHeartbeats 1000000
namespace EV
open PySem L2 PyProof.Rows PySem.W
variable {G : SP}
theorem adopt_obj {X : Cx} {pins : List (Addr × Obj)} {σ : L2.St} {H : Hp} {s : Shared} {h' : Heap} {t' : Nat} {ch : List Addr} {T : Addr} {ob : HO} (I : Inv X pins σ H s) (k : ∀ b o, b ∉ ch → s.heap.get? b = some o → h'.get? b = some o) (hf : ∀ b ∈ ch, FpOk X pins H b) (hT : T ∈ ch)
    (new : ObjOk X.prog X.w (upd H T ob) h' T ob) : Inv X pins σ (upd H T ob) { s with heap := h', toks := t' } := by
  have hn : H T = none := (hf T hT).1
  have nit : ∀ b u, H b = some u → b ∉ ch := fun b u e z => by
    have q := (hf b z).1
    rw [q] at e
    cases e
  have kept : ∀ b u, H b = some u → upd H T ob b = some u := fun b u e => by
    rw [upd_ne (ne_of_none e hn)]
    exact e
  refine I.step (g' := s.gens) (d' := s.drawn) (ch := ch) (fun b hb => ⟨(hf b hb).2.2.2.1, (hf b hb).2.1, (hf b hb).2.2.2.2.1, (hf b hb).2.2.2.2.2⟩) (fun b o _ _ hc e _ => k b o hc e) (fun b o _ _ hc e _ => ⟨o.slots, k b o hc e⟩)
    (fun b o hc e n => ?_) (fun b o hc e => ⟨o, k b o hc e⟩) (fun b xs e => kept b _ e) (fun b o u e => kept b _ e) (fun b ps e => ⟨#[], by rw [kept b _ e, Array.append_empty]⟩) (fun m hm => ?_) (fun b u e => ?_) I.bare
  · rw [upd_ne (fun z => hc (by rw [z]; exact hT))]
    exact n
  · obtain ⟨o, es, ep, ho, r⟩ := hm
    exact ⟨o, es, ep, k _ o (fun z => (hf _ z).2.1 rfl) ho, r⟩
  · by_cases hb : b = T
    · subst hb
      rw [upd_same] at e
      cases e
      exact new
    · rw [upd_ne hb] at e
      refine (I.hok b u e).stay (fun c v hc q => k c v ?_ q) (fun c q => kept c _ q) fun c xs q => kept c _ q
      rcases hc with z | z
      · rw [z]
        exact nit b u e
      · exact nit c _ z
/-- what a call of the key gives, told of every state of the walk -/
def KeyCall (G : SP) (X : Cx) (pins : List (Addr × Obj)) (σ : L2.St) (ρ : Env') (f : Value) (Φ : List W → Store → R W) (Fz0 : Addr → Prop) (α0 : Nat → Addr) (S0 : Store) (H0 : Hp) : Prop :=
  ∀ (pl : List (Addr × Obj)) (s : Shared) (H : Hp) (Fz : Addr → Prop) (α : Nat → Addr) (S : Store) (x : D) (v : V) (u : Value) (Q : VK), Inv X (pins ++ pl) σ H s → Step Fz0 α0 S0 H0 Fz α S H → Sim G Fz α S H → Slots G Fz α S.length H σ ρ → Rep G Fz H x v → RelV v u →
    Post G Fz α S H (Φ [.d x] S) (fun Fz' β S' H' w => ∀ v, RepW G Fz' β S'.length H' w v → Q v H') (fun _ _ _ _ _ _ _ => False) → wpAny (model X.prog X.w) X.A.in1.in1 (call f [u]) (EP X (pins ++ pl) σ Q) (fun _ _ => False) s
def keysR (Φ : List W → Store → R W) : List D → Store → Option (List D × Store)
  | [], S => some ([], S)
  | x :: xs, S => match fin [] S.length (Φ [.d x] S) with
    | .ok w S1 => (match frz S1 w with
      | some (k, S2) => (match keysR Φ xs S2 with
        | some (ks, S3) => some (k :: ks, S3)
        | none => none)
      | none => none)
    | _ => none
theorem keysR_cons {Φ : List W → Store → R W} {x : D} {xs ks : List D} {S S3 : Store} (h : keysR Φ (x :: xs) S = some (ks, S3)) : ∃ w S1 k S2 ks', fin [] S.length (Φ [.d x] S) = .ok w S1 ∧ frz S1 w = some (k, S2) ∧ keysR Φ xs S2 = some (ks', S3) ∧ ks = k :: ks' := by
  unfold keysR at h
  cases e : fin [] S.length (Φ [.d x] S) with
  | bad => rw [e] at h; cases h
  | exn => rw [e] at h; cases h
  | ok w S1 =>
    rw [e] at h
    dsimp only at h
    cases e1 : frz S1 w with
    | none => rw [e1] at h; cases h
    | some p =>
      obtain ⟨k, S2⟩ := p
      rw [e1] at h
      dsimp only at h
      cases e2 : keysR Φ xs S2 with
      | none => rw [e2] at h; cases h
      | some p =>
        obtain ⟨ks', S3'⟩ := p
        rw [e2] at h
        cases h
        exact ⟨w, S1, k, S2, ks', rfl, e1, e2, rfl⟩
theorem keysR_len {Φ : List W → Store → R W} : ∀ {xs ks : List D} {S S3 : Store}, keysR Φ xs S = some (ks, S3) → ks.length = xs.length
  | [], ks, S, S3, h => by
    cases h
    rfl
  | x :: xs, ks, S, S3, h => by
    obtain ⟨w, S1, k, S2, ks', _, _, h3, rfl⟩ := keysR_cons h
    rw [List.length_cons, List.length_cons, keysR_len h3]
/-- one key -/
theorem key_turn {X : Cx} {pins pl : List (Addr × Obj)} {σ : L2.St} {ρ : Env'} {f : Value} {Φ : List W → Store → R W} {Fz0 : Addr → Prop} {α0 : Nat → Addr} {S0 : Store} {H0 : Hp} (KC : KeyCall G X pins σ ρ f Φ Fz0 α0 S0 H0) {s : Shared} {H : Hp} {Fz : Addr → Prop} {α : Nat → Addr} {S S1 S2 : Store} {x k : D} {v : V} {u : Value} {w : W}
    (I : Inv X (pins ++ pl) σ H s) (st0 : Step Fz0 α0 S0 H0 Fz α S H) (m : Sim G Fz α S H) (sl : Slots G Fz α S.length H σ ρ) (r : Rep G Fz H x v) (rv : RelV v u) (e : fin [] S.length (Φ [.d x] S) = .ok w S1) (e1 : frz S1 w = some (k, S2)) :
    wpAny (model X.prog X.w) X.A.in1.in1 (call f [u]) (EP X (pins ++ pl) σ fun v' H' => ∃ Fz' β, Step Fz α S H Fz' β S2 H' ∧ Sim G Fz' β S2 H' ∧ Rep G Fz' H' k v') (fun _ _ => False) s := by
  refine KC pl s H Fz α S x v u _ I st0 m sl r rv (fin_post (ρ := []) (EE := fun _ _ _ _ _ _ _ => False) (E := fun _ _ _ => False) m ?_ fun _ _ _ _ _ _ _ z => z)
  rw [e]
  intro Fz' β H' st m' v' rw'
  obtain ⟨F2, s2, m2, r2⟩ := frz_ok m' e1 rw'
  exact ⟨F2, β, st.trans s2, m2, r2⟩
structure SrtSt (G : SP) (X : Cx) (pins : List (Addr × Obj)) (σ : L2.St) (a kS : Addr) (e1 : Nat) (Fz0 : Addr → Prop) (α0 : Nat → Addr) (S0 : Store) (H0 : Hp) (Φ : List W → Store → R W) (xs ks : List D) (S3 : Store) (i : Nat) (s : Shared) : Prop where
  run : ∃ (H : Hp) (Fz : Addr → Prop) (α : Nat → Addr) (S : Store) (kA : Array Value) (kv : List V) (e : Nat), Inv X (pins ++ [(a, seqObj "list" #[] e1)]) σ H s ∧ FpOk X (pins ++ [(a, seqObj "list" #[] e1)]) H kS ∧ s.heap.get? kS = some (seqObj "list" kA e) ∧
    Step Fz0 α0 S0 H0 Fz α S H ∧ Sim G Fz α S H ∧ Reps G Fz H (ks.take i) kv ∧ Vals kv kA.toList ∧ keysR Φ (xs.drop i) S = some (ks.drop i, S3)
theorem pins_assoc {X : Cx} {p q r : List (Addr × Obj)} {σ : L2.St} {H : Hp} {s : Shared} (I : Inv X (p ++ q ++ r) σ H s) : Inv X (p ++ (q ++ r)) σ H s := by
  rw [← List.append_assoc]
  exact I
theorem pins_assoc' {X : Cx} {p q r : List (Addr × Obj)} {σ : L2.St} {H : Hp} {s : Shared} (I : Inv X (p ++ (q ++ r)) σ H s) : Inv X (p ++ q ++ r) σ H s := by
  rw [List.append_assoc]
  exact I
theorem srt_step {X : Cx} {pins : List (Addr × Obj)} {σ : L2.St} {ρ : Env'} {f : Value} {Φ : List W → Store → R W} {a kS : Addr} {e1 : Nat} {Fz0 : Addr → Prop} {α0 : Nat → Addr} {S0 S3 : Store} {H0 : Hp} {xs ks : List D} {vs : List V} {us : List Value}
    (KC : KeyCall G X pins σ ρ f Φ Fz0 α0 S0 H0) (sl0 : Slots G Fz0 α0 S0.length H0 σ ρ) (r0 : Reps G Fz0 H0 xs vs) (rv : Vals vs us) (hlen : ks.length = xs.length) (hz : us.length ≤ sizeLine) (hka : kS ≠ a) {i : Nat} {u : Value} {s : Shared} (hu : us[i]? = some u)
    (T : SrtSt G X pins σ a kS e1 Fz0 α0 S0 H0 Φ xs ks S3 i s) {Q : Value → Shared → Prop}
    (hQ : ∀ (v : Value) (s' : Shared), (∃ (kA : Array Value) (e : Nat), s'.heap.get? kS = some (seqObj "list" kA e) ∧ kA.size ≤ us.length ∧ ∀ (c : Nat), (s'.heap.update kS (Obj.mapSeq (·.push v))).get? kS = some (seqObj "list" (kA.push v) c) →
      SrtSt G X pins σ a kS e1 Fz0 α0 S0 H0 Φ xs ks S3 (i + 1) { s' with heap := s'.heap.update kS (Obj.mapSeq (·.push v)) }) → Q v s') : wpAny (model X.prog X.w) X.A.in1.in1 (call f [u]) Q (fun _ _ => False) s := by
  obtain ⟨H, Fz, α, S, kA, kv, e, I, hf, hk, st, m, rk, rkv, hks⟩ := T.run
  have hlv : us.length = vs.length := rv.length.symm
  have hlx : xs.length = vs.length := Reps.length r0
  have hi : i < xs.length := by
    have := (List.getElem?_eq_some_iff.mp hu).1
    omega
  have ex : xs.drop i = xs[i] :: xs.drop (i + 1) := List.drop_eq_getElem_cons hi
  rw [ex] at hks
  obtain ⟨w, S1, k, S2, ks', h1, h2, h3, h4⟩ := keysR_cons hks
  have hki : i < ks.length := by omega
  have ek : ks.drop i = ks[i] :: ks.drop (i + 1) := List.drop_eq_getElem_cons hki
  rw [ek] at h4
  obtain ⟨e2, e3⟩ := List.cons.inj h4
  obtain ⟨v, hv, rx⟩ := Reps.get (i := i) r0 (List.getElem?_eq_getElem hi)
  obtain ⟨u', hu', ruv⟩ : ∃ u', us[i]? = some u' ∧ RelV v u' := by
    have key : ∀ (vs : List V) (us : List Value) (i : Nat), Vals vs us → vs[i]? = some v → ∃ u', us[i]? = some u' ∧ RelV v u' := by
      intro vs us i r
      induction r generalizing i with
      | nil => intro h; simp at h
      | cons hh t ih =>
        intro hw
        cases i with
        | zero => simp at hw; subst hw; exact ⟨_, rfl, hh⟩
        | succ i => obtain ⟨u, a1, a2⟩ := ih i (by simpa using hw); exact ⟨u, by simpa using a1, a2⟩
    exact key vs us i rv hv
  rw [hu] at hu'
  cases hu'
  have Ip := I.pinned (fp := [kS]) (fun b hb => by rw [List.mem_singleton.mp hb]; exact hf) (fun b hb => by rw [List.mem_singleton.mp hb]; exact ⟨_, hk, fun v z => by cases z⟩)
  have hkz : kA.size ≤ us.length := by
    have q1 := rkv.length
    have q2 := Reps.length rk
    have q3 : kA.toList.length = kA.size := Array.length_toList
    rw [List.length_take] at q2
    omega
  refine wpAny_mono (key_turn KC (pins_assoc Ip) st m (sl0.mono st) (Rep.mono st.ext rx) ruv h1 h2) (fun v' s' hq => hQ v' s' ?_) fun _ _ z => z
  obtain ⟨v2, H2, I2, rv2, Fz2, α2, st2, m2, rep2⟩ := hq
  have I3 := pins_assoc' I2
  have pk := I3.pin (kS, seqObj "list" kA e) (List.mem_append_right _ (List.mem_append_right _ (mem_pinsAt (List.mem_singleton.mpr rfl) hk)))
  have I4 : Inv X (pins ++ [(a, seqObj "list" #[] e1)]) σ H2 s' := I3.unpinned
  refine ⟨kA, e, pk.1, hkz, fun c hc => ⟨H2, Fz2, α2, S2, kA.push v', kv ++ [v2], c, ?_, ⟨pk.2.1, hf.2⟩, hc, st.trans st2, m2, ?_, ?_, ?_⟩⟩
  · have sb := Heap.SameBut.update s'.heap kS (Obj.mapSeq (·.push v'))
    exact I4.turnedL (t' := s'.toks) (ch := [kS]) (h' := s'.heap.update kS (Obj.mapSeq (·.push v'))) (fun b o hb ho => (sb.2 b fun z => hb (by rw [z]; exact List.mem_cons_self)).trans ho) fun b hb => by
      rw [List.mem_singleton.mp hb]
      exact ⟨pk.2.1, hf.2⟩
  · have et : ks.take (i + 1) = ks.take i ++ [k] := by
      rw [List.take_add_one, List.getElem?_eq_getElem hki, ← e2]
      rfl
    rw [et]
    exact Reps.append (Reps.mono st2.ext rk) (Reps.cons rep2 Reps.nil)
  · rw [Array.toList_push]
    exact rkv.append (.cons rv2 .nil)
  · rw [e3]
    exact h3
end EV
set_option maxHeartbeats 1000000
namespace EV
open PySem L2 PyProof.Rows PySem.W
variable {G : SP}
theorem each_reads {h : Heap} : ∀ {us : List Value} {ds : List PyData} {as : List Addr}, ReadsAll h us ds as → EachIs (fun v d => ∃ as, Reads h v d as) us ds
  | [], [], _, _ => .nil
  | u :: us, d :: ds, _, r => by
    cases r with
    | cons r1 r2 => exact .cons ⟨_, r1⟩ (each_reads r2)
  | [], _ :: _, _, r => by cases r
  | _ :: _, [], _, r => by cases r
theorem fp_less {X : Cx} {pins pl : List (Addr × Obj)} {H : Hp} {b : Addr} (h : FpOk X (pins ++ pl) H b) : FpOk X pins H b :=
  ⟨h.1, h.2.1, h.2.2.1, h.2.2.2.1, h.2.2.2.2.1, fun p hp => h.2.2.2.2.2 p ((List.mem_append.mp hp).elim (fun z => List.mem_append_left _ z) fun z => List.mem_append_right _ (List.mem_append_left _ z))⟩
/-- what stands sorted, by keys -/
def keyedV (vs : List V) (ks : List D) : List V := ((vs.zip ks).mergeSort (dataLe false fun b => pyD b.2)).map (·.1)
theorem srt_rest {X : Cx} {pins : List (Addr × Obj)} {σ : L2.St} {ρ : Env'} {f : Value} {Φ : List EV.W → Store → R EV.W} {a kS : Addr} {e1 : Nat} {Fz0 : Addr → Prop} {α0 : Nat → Addr} {S0 S3 : Store} {H0 H9 : Hp} {xs ks : List D} {vs : List V} {us : List Value} {ps : List PyData}
    (KC : KeyCall G X pins σ ρ f Φ Fz0 α0 S0 H0) (hK : X.K = G.K) (hun : X.A.units + 70 < cLine) (sl0 : Slots G Fz0 α0 S0.length H0 σ ρ) (r0 : Reps G Fz0 H0 xs vs) (rv : Vals vs us) (hlen : ks.length = xs.length) (hp : toPys ks = some ps) (hok : srtOk ps = true) (hz : us.length ≤ sizeLine) (hka : kS ≠ a)
    (fa : FpOk X pins H9 a) {P : PySem.Fin → Shared → Prop} {E : Value → Shared → Prop} {s : Shared} (T : SrtSt G X pins σ a kS e1 Fz0 α0 S0 H0 Φ xs ks S3 0 s)
    (hP : ∀ (s' : Shared) (H : Hp) (Fz : Addr → Prop) (α : Nat → Addr), Step Fz0 α0 S0 H0 Fz α S3 H → Sim G Fz α S3 H → H a = none → Inv X pins σ (upd H a (.lst (keyedV vs ks))) s' → P (.done (.ret .none)) s') :
    wpAny (model X.prog X.w) X.A.in1.in1 (ksk_rest a f false us.toArray e1 (.ref kS)) P E s := by
  have hlx : xs.length = vs.length := Reps.length r0
  have hlv : us.length = vs.length := rv.length.symm
  have hkv : ks.length = vs.length := by omega
  obtain ⟨al, so, sh⟩ := AllOk hok
  have ep : ks.map pyD = ps := toPys_map hp
  have em : (vs.zip ks).map (fun b => pyD b.2) = ps := by
    have : (vs.zip ks).map (fun b => pyD b.2) = ((vs.zip ks).map (·.2)).map pyD := by rw [List.map_map]; rfl
    rw [this, zip_snd hkv, ep]
  unfold ksk_rest
  refine wpAny_bind (wpAny_rule ?_)
  first
    | rw [List.forIn_toArray]
    | (rw [← Array.forIn_toList]; simp only [List.toList_toArray])
    | rw [← Array.forIn_toList]
  refine wpAny_bind (ksk_fold (fun i s' => SrtSt G X pins σ a kS e1 Fz0 α0 S0 H0 Φ xs ks S3 i s') us 0 s T ?step ?done)
  case step =>
    intro j x s' hx Tj
    simp only [Nat.zero_add] at Tj ⊢
    refine wpAny_bind (wpAny_attempt (wpAny_mono (srt_step KC sl0 r0 rv hlen hz hka hx Tj fun v s2 c => c) (fun v s2 he => ?_) fun _ _ hF => hF.elim))
    obtain ⟨kA, e, nk, hkz, hn⟩ := he
    obtain ⟨c2, hc2⟩ : ∃ c2, (s2.heap.update kS (Obj.mapSeq (·.push v))).get? kS = some (seqObj "list" (kA.push v) c2) := ⟨_, get?_update_seq nk (·.push v)⟩
    dsimp only
    refine wpAny_bind (listUpdate_at nk rfl ?_ (Nat.le_trans hkz hz) (Nat.le_trans (Nat.le_of_eq (Array.size_push ..)) (Nat.succ_le_succ (Nat.le_trans hkz hz))))
    exact wpAny_pure ⟨rfl, hn c2 hc2⟩
  case done =>
    intro s' Td
    obtain ⟨H, Fz, α, S, kA, kv, e, I, hf, hk, st, m, rk, rkv, hks⟩ := Td.run
    rw [List.take_of_length_le (by omega)] at rk
    rw [List.drop_eq_nil_of_le (by omega), List.drop_eq_nil_of_le (by omega)] at hks
    obtain rfl : S = S3 := by
      have z : some (([] : List D), S) = some ([], S3) := hks
      cases z
      rfl
    have pa := I.pin (a, seqObj "list" #[] e1) (List.mem_append_right _ (List.mem_append_right _ (List.mem_singleton.mpr rfl)))
    have hd := reps_dp rk hp
    rw [← hK] at hd
    obtain ⟨as, ra⟩ := Dp.readsAll I _ _ kA.toList hd rkv
    have hea := each_reads ra
    have hsz : kA.size = us.length := by
      have q1 := rkv.length
      have q2 := Reps.length rk
      have q3 : kA.toList.length = kA.size := Array.length_toList
      omega
    obtain ⟨Gh, g1, g2⟩ := restrict s'.heap fun b => decide (b ≠ kS)
    have gG : ∀ b o, b ≠ kS → s'.heap.get? b = some o → Gh.get? b = some o := fun b o hb q => by
      rw [g1 b (decide_eq_true hb)]
      exact q
    have gk : Gh.get? kS = none := g2 kS (decide_eq_false fun z => z rfl)
    have gS : ∀ b o, Gh.get? b = some o → s'.heap.get? b = some o := fun b o q => by
      by_cases hb : b = kS
      · rw [hb, gk] at q
        cases q
      · rw [← g1 b (decide_eq_true hb)]
        exact q
    refine wpAny_bind (listItems_at hk rfl ?_)
    refine keyH_end (κ := dataKind s'.heap ps) (h₁ := Gh) (fun b o _ q => gS b o q) gk hk pa.1 hka (SortsAt.data hea al so fun d hd => ?_) hsz hz fun h3 tk3 c k3 n3 => ?_
    · have z := SeqAt.depth_of_shaped (sh d hd)
      show X.A.units + 1 + 1 + d.depth < cLine
      omega
    · have he : EachIs (fun u (b : V × D) => RelV b.1 u) (sortVals (dataKind s'.heap ps) false kA.toList us) ((vs.zip ks).mergeSort (dataLe false fun b => pyD b.2)) :=
        keyedOut_each (fun b : V × D => pyD b.2) ⟨s'.heap, kA.toList, by rw [em]; exact al, by rw [em], by rw [em]; exact hea⟩ (each_zip hkv rv)
      refine hP _ H Fz α st m pa.2.1 (adopt_obj (t' := tk3) (ch := [a, kS]) (T := a) (ob := .lst (keyedV vs ks)) I.unpinned (fun b o hb q => ?_) (fun b hb => ?_) List.mem_cons_self ⟨?_, _, c, vals_each he, n3⟩)
      · exact k3 b o (fun z => hb (by rw [z]; exact List.mem_cons_self)) (gG b o (fun z => hb (by rw [z]; exact List.mem_cons_of_mem _ List.mem_cons_self)) q)
      · rcases List.mem_cons.mp hb with z | z
        · rw [z]
          exact ⟨pa.2.1, fa.2⟩
        · rw [List.mem_singleton.mp z]
          exact fp_less hf
      · unfold keyedV
        rw [List.length_map, List.length_mergeSort, List.length_zip]
        omega
end EV
set_option maxHeartbeats 1000000
namespace EV
open PySem L2 PyProof.Rows PySem.W
variable {G : SP}
theorem srt_tree {X : Cx} {pins : List (Addr × Obj)} {σ : L2.St} {ρ : Env'} {f : Addr} {Φ : List EV.W → Store → R EV.W} {a : Addr} {Fz0 : Addr → Prop} {α0 : Nat → Addr} {S0 S3 : Store} {H0 : Hp} {xs ks : List D} {vs : List V} {us : List Value} {ps : List PyData}
    (KC : KeyCall G X pins σ ρ (.ref f) Φ Fz0 α0 S0 H0) (hK : X.K = G.K) (hun : X.A.units + 70 < cLine) (m0 : Sim G Fz0 α0 S0 H0) (sl0 : Slots G Fz0 α0 S0.length H0 σ ρ) (r0 : Reps G Fz0 H0 xs vs) (rv : Vals vs us) (hks : keysR Φ xs S0 = some (ks, S3)) (hp : toPys ks = some ps) (hok : srtOk ps = true) (hz : us.length ≤ sizeLine)
    {P : PySem.Fin → Shared → Prop} {E : Value → Shared → Prop} {s : Shared} (I : Inv X pins σ H0 s) (fa : FpOk X pins H0 a) (ha : s.heap.get? a = some (seqObj "list" us.toArray 0))
    (hP : ∀ (s' : Shared) (H : Hp) (Fz : Addr → Prop) (α : Nat → Addr), Step Fz0 α0 S0 H0 Fz α S3 H → Sim G Fz α S3 H → H a = none → Inv X pins σ (upd H a (.lst (keyedV vs ks))) s' → P (.done (.ret .none)) s') :
    wpAny (model X.prog X.w) X.A.in1.in1 (ksk_tree a (.ref f) false) P E s := by
  have hlt : a < s.heap.objs.size := Heap.lt_size ha
  obtain ⟨e1, ho1⟩ : ∃ e1, (s.heap.update a (Obj.mapSeq fun _ => (#[] : Array Value))).get? a = some (seqObj "list" #[] e1) := ⟨_, get?_update_seq ha fun _ => #[]⟩
  have hkS : ((s.heap.update a (Obj.mapSeq fun _ => (#[] : Array Value))).push (seqObj "tuple" us.toArray 0)).objs.size = s.heap.objs.size + 1 := by rw [size_push', Heap.size_update]
  have hka : ((s.heap.update a (Obj.mapSeq fun _ => (#[] : Array Value))).push (seqObj "tuple" us.toArray 0)).objs.size ≠ a := by
    rw [hkS]
    exact Nat.ne_of_gt (Nat.lt_succ_of_lt hlt)
  have hn : H0 (((s.heap.update a (Obj.mapSeq fun _ => (#[] : Array Value))).push (seqObj "tuple" us.toArray 0)).objs.size) = none := I.hok.fresh (by rw [hkS]; exact Nat.le_succ _)
  have fk := I.fpOk (b := ((s.heap.update a (Obj.mapSeq fun _ => (#[] : Array Value))).push (seqObj "tuple" us.toArray 0)).objs.size) (by rw [hkS]; exact Nat.le_succ _) hn
  unfold ksk_tree
  refine wpAny_bind (listItems_at ha rfl ?_)
  refine wpAny_bind (listUpdate_at ha rfl ?_ (by rw [List.size_toArray]; exact hz) (Nat.zero_le _))
  refine wpAny_bind (seqEpoch_at ho1 rfl ?_)
  refine wpAny_bind (wpAny_newTuple ?_ (by show us.length ≤ _; exact hz))
  refine wpAny_bind (wpAny_newList ?_ (Nat.zero_le _))
  refine wpAny_holding ?_
  have hga : (sortingHeap s.heap a us).get? a = some (seqObj "list" #[] e1) := Heap.get?_push_of_some _ (Heap.get?_push_of_some _ ho1)
  have I1 : Inv X pins σ H0 { s with heap := sortingHeap s.heap a us, toks := s.toks } :=
    I.turnedL (t' := s.toks) (ch := [a]) (h' := sortingHeap s.heap a us) (fun b o hb q => sortingHeap_old (fun z => hb (by rw [z]; exact List.mem_cons_self)) q) fun b hb => by rw [List.mem_singleton.mp hb]; exact fa
  have I2 : Inv X (pins ++ [(a, seqObj "list" #[] e1)]) σ H0 { s with heap := sortingHeap s.heap a us, toks := s.toks } := I1.pins_of fun p hp => by
    rcases List.mem_append.mp hp with z | z
    · exact I1.pin p (List.mem_append_right _ z)
    · rw [List.mem_singleton.mp z]
      exact ⟨hga, fa.1, fa.2.1, fa.2.2.1, fun v q => by cases q⟩
  refine srt_rest (s := { s with heap := sortingHeap s.heap a us }) KC hK hun sl0 r0 rv (keysR_len hks) hp hok hz hka fa ⟨H0, Fz0, α0, S0, #[], [], 0, I2, ?_, Heap.get?_push_size _ rfl, Step.refl, m0, rfl, .nil, hks⟩ hP
  refine ⟨hn, fk.2.1, fk.2.2.1, fk.2.2.2.1, fk.2.2.2.2.1, fun p hp => ?_⟩
  rcases List.mem_append.mp hp with z | z
  · exact fk.2.2.2.2.2 p (List.mem_append_left _ z)
  · rcases List.mem_append.mp z with z | z
    · exact fk.2.2.2.2.2 p (List.mem_append_right _ z)
    · rw [List.mem_singleton.mp z]
      exact hka.symm
/-- the items as they stand sorted -/
def keyedD (xs ks : List D) : List D := ((xs.zip ks).mergeSort fun p q => dLe p.2 q.2).map (·.1)
theorem zips3 : ∀ {xs ks : List D} {vs : List V}, xs.length = vs.length → ks.length = xs.length → vs.zip ks = ((vs.zip xs).zip ks).map (fun t => (t.1.1, t.2)) ∧ xs.zip ks = ((vs.zip xs).zip ks).map (fun t => (t.1.2, t.2))
  | [], [], [], _, _ => ⟨rfl, rfl⟩
  | x :: xs, k :: ks, v :: vs, h1, h2 => by
    obtain ⟨a, b⟩ := zips3 (xs := xs) (ks := ks) (vs := vs) (by simpa using h1) (by simpa using h2)
    refine ⟨?_, ?_⟩
    · show (v, k) :: vs.zip ks = (v, k) :: ((vs.zip xs).zip ks).map _
      rw [a]
    · show (x, k) :: xs.zip ks = (x, k) :: ((vs.zip xs).zip ks).map _
      rw [b]
  | [], _ :: _, _, _, h => by simp at h
  | _ :: _, [], _, _, h => by simp at h
  | [], [], _ :: _, h, _ => by simp at h
  | _ :: _, _ :: _, [], h, _ => by simp at h
theorem keyed_reps {Fz : Addr → Prop} {H : Hp} {xs ks : List D} {vs : List V} (r : Reps G Fz H xs vs) (hl : ks.length = xs.length) : Reps G Fz H (keyedD xs ks) (keyedV vs ks) := by
  obtain ⟨a, b⟩ := zips3 (Reps.length r) hl
  have ev : keyedV vs ks = ((((vs.zip xs).zip ks).mergeSort fun p q => dLe p.2 q.2).map (·.1)).map (·.1) := by
    unfold keyedV
    rw [a, ← List.map_mergeSort (r := fun p q : (V × D) × D => dLe p.2 q.2) (s := dataLe false fun b : V × D => pyD b.2) (f := fun t : (V × D) × D => (t.1.1, t.2)) (fun _ _ _ _ => rfl), List.map_map, List.map_map]
    rfl
  have ed : keyedD xs ks = ((((vs.zip xs).zip ks).mergeSort fun p q => dLe p.2 q.2).map (·.1)).map (·.2) := by
    unfold keyedD
    rw [b, ← List.map_mergeSort (r := fun p q : (V × D) × D => dLe p.2 q.2) (s := fun p q : D × D => dLe p.2 q.2) (f := fun t : (V × D) × D => (t.1.2, t.2)) (fun _ _ _ _ => rfl), List.map_map, List.map_map]
    rfl
  rw [ev, ed]
  refine reps_pairs fun b hb => ?_
  obtain ⟨t, ht, rfl⟩ := List.mem_map.mp hb
  have h1 := (List.mergeSort_perm _ _).mem_iff.mp ht
  exact zip_reps r t.1 (List.of_mem_zip h1).1
theorem keyedD_len {xs ks : List D} (hl : ks.length = xs.length) : (keyedD xs ks).length = xs.length := by
  unfold keyedD
  rw [List.length_map, List.length_mergeSort, List.length_zip, hl, Nat.min_self]
/-- the call, of a list or a tuple -/
theorem srt_call {X : Cx} {pins : List (Addr × Obj)} {σ : L2.St} {ρ : Env'} {f l : Addr} {Φ : List EV.W → Store → R EV.W} {Fz0 : Addr → Prop} {α0 : Nat → Addr} {S0 S3 : Store} {H0 : Hp} {xs ks : List D} {vs : List V} {ps : List PyData}
    (KC : KeyCall G X pins σ ρ (.ref f) Φ Fz0 α0 S0 H0) (hK : X.K = G.K) (hun : X.A.units + 70 < cLine) (m0 : Sim G Fz0 α0 S0 H0) (sl0 : Slots G Fz0 α0 S0.length H0 σ ρ) (hs : SqL X.K H0 l vs ∨ SqT X.K H0 l vs) (r0 : Reps G Fz0 H0 xs vs) (hks : keysR Φ xs S0 = some (ks, S3)) (hp : toPys ks = some ps) (hok : srtOk ps = true)
    {Q : Value → Shared → Prop} {E : Value → Shared → Prop} {s : Shared} (I : Inv X pins σ H0 s)
    (hP : ∀ (s' : Shared) (H : Hp) (Fz : Addr → Prop) (α : Nat → Addr) (a : Addr), Step Fz0 α0 S0 H0 Fz α S3 H → Sim G Fz α S3 H → H a = none → Inv X pins σ (upd H a (.lst (keyedV vs ks))) s' → Q (.ref a) s') :
    wpAny (model X.prog X.w) X.A (call (.builtin "sorted") [.ref l] [(Str.ofString "key", .ref f)]) Q E s := by
  have core : ∀ us : List Value, Vals vs us → us.length ≤ sizeLine → ∀ E' : Value → Shared → Prop, wpAny (model X.prog X.w) X.A.in1.in1 (Builtin.«list.sort» ⟨[.ref (s.heap.objs.size + 1)], [(Str.ofString "key", .ref f)]⟩) (fun f s' => f = .done (.ret .none) ∧ Q (.ref (s.heap.objs.size + 1)) s') E' { s with heap := copyHeap s.heap us } := by
    intro us rv hz E'
    rw [ksk_t1]
    have I1 : Inv X pins σ H0 { s with heap := copyHeap s.heap us, toks := s.toks } := I.kept fun _ _ => copyHeap_old
    exact srt_tree (s := { s with heap := copyHeap s.heap us }) KC hK hun m0 sl0 r0 rv hks hp hok hz I1 (I.fpOk (Nat.le_succ _) (I.hok.fresh (Nat.le_succ _))) (copyHeap_at s.heap us) fun s' H Fz α st m hn J => ⟨rfl, hP s' H Fz α _ st m hn J⟩
  rcases hs with hs | hs
  · obtain ⟨its, rv, pl, hz⟩ := I.list hs
    have hz' : its.length ≤ sizeLine := by rw [← rv.length]; exact hz
    exact sorted_of_sort pl.isList hz' (ksk_s1 _ _) (fun _ => ksk_l1 _ _) (core its rv hz')
  · obtain ⟨its, rv, pl, hz⟩ := I.tuple hs
    have hz' : its.length ≤ sizeLine := by rw [← rv.length]; exact hz
    refine call_function_entry_kw kind_sorted plain_sorted entry_sorted (ksk_s1 _ _) ?_
    unfold Builtin.«sorted»
    refine wpAny_bind (m := checkCount "sorted" 1 1 _) (wpAny_pure (wpAny_bind (got_tup pl hz' (wpAny_bind (wpAny_newList ?_ hz')))))
    have eq : ((s.heap.push (seqObj "list" #[] 0)).update s.heap.objs.size (Obj.mapSeq (· ++ its.toArray))).objs.size = s.heap.objs.size + 1 := by
      rw [Heap.size_update, size_push']
    show wpAny _ _ _ _ _ { s with heap := copyHeap s.heap its }
    rw [eq]
    refine wpAny_bind (wpAny_holding (wpAny_call_entry_kw slot_list_sort ⟨_, copyHeap_at s.heap its, rfl⟩ entry_list_sort ?b (ksk_l1 _ _)))
    case b =>
      refine wpAny_mono (core its rv hz' _) (fun f s' hf => ?_) fun _ _ z => z
      obtain ⟨rfl, hq⟩ := hf
      exact ⟨_, rfl, wpAny_pure ⟨_, rfl, hq⟩⟩
def cSortK (mu : Bool) (Φ : Env' → List W → Store → R W) (g : SmL) : Sm := fun ρ S => (g ρ S).bind fun ws S1 => match views S1 ws with
  | some [x] => (match seqD x with
    | some xs => (match keysR (Φ ρ) xs S1 with
      | some (ks, S3) => (match toPys ks with
        | some ps => if srtOk ps = true then (if mu = true then .ok (.c S3.length) (S3 ++ [.lst true (keyedD xs ks)]) else .ok (.d (.lst (keyedD xs ks))) S3) else .bad
        | none => .bad)
      | none => .bad)
    | none => .bad)
  | _ => .bad
/-- how the key's expression is made -/
def KeyE (G : SP) (X : Cx) (kf : Expr) (Φ : Env' → List W → Store → R W) : Prop :=
  ∀ (pins : List (Addr × Obj)) (s : Shared) (σ : L2.St) (H : Hp) (Fz : Addr → Prop) (α : Nat → Addr) (S : Store) (ρ : Env') (Q : Value → Shared → Prop), Inv X pins σ H s → Sim G Fz α S H → Slots G Fz α S.length H σ ρ →
    (∀ (f : Addr) (s' : Shared) (H' : Hp) (pf : List (Addr × Obj)), Inv X (pins ++ pf) σ H' s' → Step Fz α S H Fz α S H' → Sim G Fz α S H' → KeyCall G X (pins ++ pf) σ ρ (.ref f) (Φ ρ) Fz α S H' → Q (.ref f) s') → wpAny (model X.prog X.w) X.A (eval kf X.env) Q X.xe s
theorem ex_sortK {X : Cx} {W : WX} {mu : Bool} {Φ : Env' → List EV.W → Store → R EV.W} {g : SmL} {x : Str} {e kf : Expr} {p kpos pos : Pos} (hK : X.K = G.K) (hun : X.A.units + 70 < cLine) (hke : KeyE G X kf Φ) (hg : Gl X x) (hm : X.mg x = none) (hv : bootBuiltins x = some (.builtin "sorted")) (ha : PA X [e] (RdA G W g)) (hn : x ≠ "__name__") (hdb : (x == ("__debug__" : Str)) = false)
    (he : backTo pos (starEach [e] X.env) = (false, eval e X.env) :: backTo pos (starEach [] X.env)) (hpl : (backTo pos (starEach [e] X.env)).any (·.1) = false)
    (hall : (backToKw pos (keywordEach [⟨some "key", kf, kpos⟩] X.env)).all (·.1.isSome) = true) (hnone : (backToKw pos (keywordEach [⟨some "key", kf, kpos⟩] X.env)).any (·.1.isNone) = false) (hks : (backToKw pos (keywordEach [⟨some "key", kf, kpos⟩] X.env)).filterMap (·.1) = [Str.ofString "key"]) :
    PE X (.Call (.Name x p) [e] [⟨some "key", kf, kpos⟩] pos) (RdE G W (cSortK mu Φ g)) := by
  refine ⟨fun pins s σ H Q I h => ?_⟩
  obtain ⟨Fz, α, S, ρ, m, sl, q⟩ := h
  refine wpAny_Call_Name_kw (ld_blt I hg hm hv ?_ hn hdb)
  refine callWith_kw (thn (ha.run pos pins s σ H (fun vs H1 => ∃ Fz1 α1 S1 ws, Step Fz α S H Fz1 α1 S1 H1 ∧ Sim G Fz1 α1 S1 H1 ∧ RepWs G Fz1 α1 S1.length H1 ws vs ∧ Post G Fz1 α1 S1 H1 (match views S1 ws with
    | some [x] => (match seqD x with
      | some xs => (match keysR (Φ ρ) xs S1 with
        | some (ks, S3) => (match toPys ks with
          | some ps => if srtOk ps = true then (if mu = true then .ok (.c S3.length) (S3 ++ [.lst true (keyedD xs ks)]) else .ok (.d (.lst (keyedD xs ks))) S3) else .bad
          | none => .bad)
        | none => .bad)
      | none => .bad)
    | _ => .bad) (fun Fz' β S' H' w => ∀ v, RepW G Fz' β S'.length H' w v → Q v H') (EW G W)) I ⟨Fz, α, S, ρ, m, sl, (Post.bind q).mono fun F1 α1 S1 H1 ws st m1 q1 vs rs => ⟨F1, α1, S1, ws, st, m1, rs, q1⟩⟩) fun us s1 ⟨vs, H1, I1, r1, F1, α1, S1, ws, st, m1, rs, q1⟩ => ?_) he hpl hall hnone
  rw [hks]
  show wpAny _ _ (evalAll ((do let v ← eval kf X.env; standAt pos; pure v) :: [])) _ _ s1
  refine wpAny_evalAll_cons (wpAny_bind (hke pins s1 σ H1 F1 α1 S1 ρ _ I1 m1 (sl.mono st) fun f s2 H2 pf I2 st2 m2 KC => wpAny_bind (wpAny_standAt (wpAny_pure (wpAny_evalAll_nil ?_)))))
  cases h1 : views S1 ws with
  | none => rw [h1] at q1; exact q1.elim
  | some ds =>
    rw [h1] at q1
    cases ds with
    | nil => exact q1.elim
    | cons x ds =>
      cases ds with
      | cons _ _ => exact q1.elim
      | nil =>
        dsimp only at q1
        cases h2 : seqD x with
        | none => rw [h2] at q1; exact q1.elim
        | some xs =>
          rw [h2] at q1
          dsimp only at q1
          cases h3 : keysR (Φ ρ) xs S1 with
          | none => rw [h3] at q1; exact q1.elim
          | some pr =>
            obtain ⟨ks, S3⟩ := pr
            rw [h3] at q1
            dsimp only at q1
            cases h4 : toPys ks with
            | none => rw [h4] at q1; exact q1.elim
            | some ps =>
              rw [h4] at q1
              dsimp only at q1
              by_cases c : srtOk ps = true
              · rw [if_pos c] at q1
                obtain ⟨v, rfl, lk⟩ := looks1 (views_ok m2 h1 (RepWs.mono st2 rs))
                obtain ⟨u, rfl, ru⟩ := L2.vals1 r1
                have key : ∃ l us, v = .ref l ∧ (SqL X.K H2 l us ∨ SqT X.K H2 l us) ∧ us.length ≤ 16777216 ∧ Reps G F1 H2 xs us := by
                  rw [hK]
                  cases x with
                  | lst ys =>
                    cases h2
                    obtain ⟨a, us, rfl, h1, h2, h3⟩ := look_lst lk
                    exact ⟨a, us, rfl, .inl h1, h2, h3⟩
                  | tup ys =>
                    cases h2
                    obtain ⟨a, us, rfl, h1, h2, h3, _⟩ := look_tup lk
                    exact ⟨a, us, rfl, .inr h1, h2, h3⟩
                  | _ => cases h2
                obtain ⟨l, us, rfl, hs, hlen, hr⟩ := key
                cases ru
                refine srt_call KC hK hun m2 ((sl.mono st).mono st2) hs hr h3 h4 c I2 fun s3 H3 F3 α3 a st3 m3 hna J => ?_
                have rk := keyed_reps (Reps.mono st3.ext hr) (keysR_len h3)
                have hzz : (keyedV us ks).length ≤ 16777216 := by
                  rw [← Reps.length rk, keyedD_len (keysR_len h3), Reps.length hr]
                  exact hlen
                refine ⟨.ref a, _, J.unpinned, rfl, ?_⟩
                cases mu with
                | false =>
                  obtain ⟨s4, m4⟩ := new_frz (o := .lst (keyedV us ks)) m3 hna trivial
                  exact q1 _ _ _ (st2.trans (st3.trans s4)) m4 _ ⟨a, keyedV us ks, rfl, .inl ⟨.inr rfl, .inl upd_same⟩, hzz, Reps.mono s4.ext rk⟩
                | true =>
                  obtain ⟨s4, m4⟩ := new_cell (o := .lst (keyedV us ks)) (c := .lst true (keyedD xs ks)) m3 hna (fun _ z => by cases z) fun st => ⟨keyedV us ks, upd_same, hzz, Reps.mono st.ext rk, fun _ => m3.free hna, fun z => by cases z⟩
                  exact q1 _ _ _ (st2.trans (st3.trans s4)) m4 _ ⟨by simp, by show V.ref a = _; rw [setA, if_pos rfl]⟩
              · rw [if_neg c] at q1
                exact q1.elim
end EV
set_option maxHeartbeats 1000000
namespace EV
open PySem L2 PyProof.Rows NdefX
variable {G : SP}
def slotW (ρ : Env') (j : Nat) : Option W := match ρ[j]? with
  | some o => o
  | none => none
theorem slotW_some {ρ : Env'} {j : Nat} {w : W} (h : slotW ρ j = some w) : ρ[j]? = some (some w) := by
  unfold slotW at h
  cases e : ρ[j]? with
  | none =>
    rw [e] at h
    cases h
  | some o =>
    rw [e] at h
    have h : o = some w := h
    rw [h]
/-- what a lambda makes: js, the captured names' slots; N.length slots of its own -/
def cLam (nn : Nat) (js : List Nat) (g : Sm) : Env' → List W → Store → R W := fun ρ ws S => g (ws.map some ++ (js.map (slotW ρ) ++ List.replicate (nn - ws.length - js.length) none)) S
theorem room2 {k : Nat} {A : Around} (r : Room (k + 1) A) : Room k A.in1.in1 := ⟨r.hd, by
  have := r.dp
  show A.depth + 3 * k + 5 < _
  omega, by
  have := r.un
  show A.units + 1 + 1 + 16 * k + 200 < _
  omega⟩
/-- the heap's tables have grown, all else is kept -/
theorem extN_sim {Fz : Addr → Prop} {α : Nat → Addr} {S : Store} {H H1 : Hp} (m : Sim G Fz α S H) (e : LamX.ExtN H H1) (hT : TabsN G.T H1) : Step Fz α S H Fz α S H1 ∧ Sim G Fz α S H1 := by
  have st : Step Fz α S H Fz α S H1 := ⟨⟨fun _ h => h, fun a o f h => e a o h fun ps z => by
    obtain ⟨u, h1, h2⟩ := m.fzH a f
    rw [h] at h1
    cases h1
    rw [z] at h2
    exact h2⟩, fun _ _ => rfl, Nat.le_refl _, fun a o h n f k => ⟨e a o h n, f, k⟩⟩
  refine ⟨st, ⟨fun a f => ?_, fun k c hc => ?_, m.inj, hT, G.pcS st m.pc⟩⟩
  · obtain ⟨o, h1, h2⟩ := m.fzH a f
    exact ⟨o, st.ext.at_ a o f h1, h2⟩
  · have ok := m.cell k c hc
    obtain ⟨o, h1, h2, _⟩ := cell_some ok
    exact ok.mono st (by rw [e _ _ h1 h2, h1]) Iff.rfl
theorem ext_kept {Fz Fz' : Addr → Prop} {α α' : Nat → Addr} {S S' : Store} {H H' : Hp} (m : Sim G Fz α S H) (st : Step Fz α S H Fz' α' S' H') {a : Addr} {φ : Heap → Prop} (h : H a = some (.ext φ)) : H' a = some (.ext φ) := by
  by_cases f : Fz a
  · exact st.ext.at_ a _ f h
  · refine (st.frame a _ h (fun ps z => by cases z) f fun k hk z => ?_).1
    obtain ⟨o, h1, _, h2, _⟩ := cell_some (m.cell k S[k] (by simp [hk]))
    rw [z, h] at h1
    exact h2 φ (Option.some.inj h1).symm
theorem post_no {Fz : Addr → Prop} {α : Nat → Addr} {S : Store} {H : Hp} {r : R W} {Q : QT W} {E : ET} (h : Post G Fz α S H r Q fun _ _ _ _ _ _ _ => False) : Post G Fz α S H r Q E := by
  cases r with
  | ok w S' => exact h
  | exn c fs ds ρ S' => exact fun Fz' β H' cls d s m e => (h Fz' β H' cls d s m e).elim
  | bad => exact h
theorem lam_slots {Fz : Addr → Prop} {α : Nat → Addr} {n : Nat} {H : Hp} {N : List Str} {σ : L2.St} {ρ : Env'} {x : D} {v : V} {js : List Nat} (hps : ∀ σ, G.ps σ) (sl : Slots G Fz α n H σ ρ) (r : Rep G Fz H x v) :
    Slots G Fz α n H (startF N [v] (js.map (slotAt σ))) ([EV.W.d x].map some ++ (js.map (slotW ρ) ++ List.replicate (N.length - [EV.W.d x].length - js.length) none)) := by
  refine ⟨⟨by unfold startF; simp, hps _⟩, fun i w h => ?_⟩
  cases i with
  | zero =>
    have h : some (some (EV.W.d x)) = some (some w) := h
    cases h
    exact ⟨v, rfl, r⟩
  | succ i =>
    have h : (js.map (slotW ρ) ++ List.replicate (N.length - 1 - js.length) none)[i]? = some (some w) := h
    show ∃ v', (js.map (slotAt σ) ++ List.replicate _ none)[i]? = some (some v') ∧ _
    by_cases hi : i < js.length
    · rw [List.getElem?_append_left (by simpa using hi), List.getElem?_map] at h
      rw [List.getElem?_append_left (by simpa using hi), List.getElem?_map]
      cases e : js[i]? with
      | none =>
        rw [e] at h
        cases h
      | some j =>
        rw [e] at h
        have h : some (slotW ρ j) = some (some w) := h
        obtain ⟨v', h1, h2⟩ := sl.2 j w (slotW_some (Option.some.inj h))
        exact ⟨v', by show some (slotAt σ j) = _; rw [slotAt_of h1], h2⟩
    · rw [List.getElem?_append_right (by simpa using hi)] at h
      have h2 := List.mem_of_getElem? h
      rw [List.mem_replicate] at h2
      cases h2.2
theorem ke_lam {X : Cx} {c P : Addr} {T' : List (Addr × Str)} {q a : Str} {params : Arguments} {lb : Expr} {scope : Scope} {pos : Pos} {N fr : List Str} {js : List Nat} {g : Sm} {k : Nat} (TB : LamX.TabB X.base X.mg c P) (hcode : X.env.code = .ref c) (hq : X.env.qual ++ "<lambda>" = q)
    (hG : G.T = T'.map fun p => (p.1, fun _ _ => p.2)) (hm : (P, q) ∈ T') (hu : ∀ p ∈ T', p.1 = P → p.2 = q) (hps : ∀ σ, G.ps σ) (hdef : defaultsOf params X.env = ([], [])) (hfree : ∀ y ∈ scope.names, y.2 = .free → X.env.scope.names.lookup y.1 = some .cell ∨ X.env.scope.names.lookup y.1 = some .free)
    (S : NScope N [a] fr scope) (hfr : ∀ y ∈ fr, (y, NameKind.free) ∈ scope.names) (hjs : js.map (fun j => X.N[j]?) = fr.map some) (hb : ∀ (cl : List (Str × Addr)) (pm cdv ctv u : Value), bindArgs (PySem.W.kla_fn "<lambda>" q params lb scope cl pm cdv ctv) ⟨[u], []⟩ = pure ([a].zip [u]))
    (hr : Room (k + 1) X.A.in1.in1) (hbody : ∀ (cl : List (Str × Addr)) (c' f : Addr) (s : Shared) (H : Hp) (E : XK), Room k (X.A.in1.in1.deeper (envF ⟨"<lambda>", q, params, [], scope, cl, c'⟩ f s.heap.objs.size)) →
      PE (ncx (L2.CX X.prog X.w) X.prog X.w X.K X.mg X.base N ⟨"<lambda>", q, params, [], scope, cl, c'⟩ f X.A.in1.in1 X.stack s H E) lb (RdE G (fun _ _ _ _ => False) g)) :
    KeyE G X (.Lambda params lb scope pos) (cLam N.length js g) := by
  intro pins s σ H Fz α S0 ρ Q I m sl hQ
  have toT : ∀ {H : Hp}, TabsN G.T H → LamX.Tabs T' H := fun {H} h p hp => by
    have z := h (p.1, fun _ _ => p.2) (by rw [hG]; exact List.mem_map.mpr ⟨p, hp, rfl⟩)
    exact TabN.to z
  have ofT : ∀ {H : Hp}, LamX.Tabs T' H → TabsN G.T H := fun {H} h p hp => by
    rw [hG] at hp
    obtain ⟨p', hp', rfl⟩ := List.mem_map.mp hp
    exact TabN.of (h p' hp')
  have hfree' : ∀ y ∈ scope.names, y.2 = .free → ∃ c, X.env.cells.lookup y.1 = some c := fun y hy e => (hfree y hy e).elim (fun z => I.ok.has _ (.inl z)) fun z => I.ok.has _ (.inr z)
  refine LamX.lam_make2 (T := T') I TB hcode (by rw [hq]; exact hm) (by rw [hq]; exact hu) (toT m.tab) hdef hfree' fun f c' pm ctv H1 s' I1 eN T1 hf nf nfr hc => ?_
  rw [hq] at hf hc
  obtain ⟨st1, m1⟩ := extN_sim m eN (ofT T1)
  have hL : f ≠ X.env.locals := fun z => by
    obtain ⟨mm, ⟨o, es, ep, ho, hd, _⟩, _⟩ := id I1.loc
    rw [← z, hf] at ho
    cases ho
    cases hd
  have hfs : f ∉ X.fs := fun z => nfr (by
    rcases I1.ok.stk with e | ⟨e, e2⟩
    · rw [e]
      exact z
    · rw [e]
      unfold frs
      rw [List.filterMap_cons, e2]
      exact List.mem_cons_of_mem _ z)
  have I2 : Inv X (pins ++ [(f, PySem.W.kla_obj "<lambda>" q params lb scope (cloFrom X.env.cells scope.names []) pm c' ctv)]) σ H1 s' := I1.pins_of fun p hp => by
    rcases List.mem_append.mp hp with z | z
    · exact I1.pin p (List.mem_append_right _ z)
    · rw [List.mem_singleton.mp z]
      exact ⟨hf, nf, hL, hfs, fun v q => by cases q⟩
  refine hQ f s' H1 _ I2 st1 m1 fun pl s2 H2 Fz2 α2 S2 x v u Q2 J stJ mJ slJ rx rv hp => ?_
  have pf := J.pin (f, PySem.W.kla_obj "<lambda>" q params lb scope (cloFrom X.env.cells scope.names []) pm c' ctv) (List.mem_append_right _ (List.mem_append_left _ (List.mem_append_right _ (List.mem_singleton.mpr rfl))))
  have hc2 : H2 c' = some (LamX.CodeO c' q) := ext_kept m1 stJ hc
  refine lam_call (F := ⟨"<lambda>", q, params, [], scope, cloFrom X.env.cells scope.names [], c'⟩) (us := [u]) (vs := [v]) (ws := js.map (slotAt σ)) (tb := RdE G (fun _ _ _ _ => False) g) J hr pf.1 hc2 S (cells_of J (Caps.made I.ok hfree hfr hjs)) (hb _ _ _ _ _) (.cons rv .nil) rfl (fun E hE => hbody _ _ _ _ _ _ hE) ?_
  exact ⟨Fz2, α2, S2, _, mJ, lam_slots hps slJ rx, post_no hp⟩
/-- the free names of a scope within are cells or free outside -/
def frB (sc scope : Scope) : Bool := scope.names.all fun y => !decide (y.2 = .free) || (decide (sc.names.lookup y.1 = some .cell) || decide (sc.names.lookup y.1 = some .free))
theorem fr_by {sc scope : Scope} (h : frB sc scope = true) : ∀ y ∈ scope.names, y.2 = .free → sc.names.lookup y.1 = some .cell ∨ sc.names.lookup y.1 = some .free := fun y hy e => by
  have z := List.all_eq_true.mp h y hy
  rw [e] at z
  simpa using z
theorem tt_uniq : ∀ {l : List (Addr × Str)} {P : Addr} {q : Str}, apartB (l.map (·.1)) = true → (P, q) ∈ l → ∀ p ∈ l, p.1 = P → p.2 = q
  | (a, b) :: l, P, q, h, hm, p, hp, e => by
    obtain ⟨h1, h2⟩ := He.ba (show ((l.map (·.1)).all (fun y => !(Nat.beq a y)) && apartB (l.map (·.1))) = true from h)
    have no : ∀ p ∈ l, p.1 ≠ a := fun p hp z => by
      have z1 := List.all_eq_true.mp h1 p.1 (List.mem_map.mpr ⟨p, hp, rfl⟩)
      rw [z] at z1
      simp at z1
    rcases List.mem_cons.mp hm with z | z
    · cases z
      rcases List.mem_cons.mp hp with w | w
      · rw [w]
      · exact absurd e (no p w)
    · rcases List.mem_cons.mp hp with w | w
      · rw [w] at e
        exact absurd e.symm (no _ z)
      · exact tt_uniq h2 z p w e
theorem reps_int {Fz : Addr → Prop} {H : Hp} : ∀ ns : List Int, Reps G Fz H (ns.map D.int) (ns.map V.int)
  | [] => rfl
  | n :: ns => ⟨_, _, rfl, rfl, reps_int ns⟩
theorem start_ok {K : PySem.W.Frag} {H : Hp} {a : Addr} {ns : List Int} {S' : Store} {Φ : List W → Store → R W} (hK : K = G.K) (hpc : ∀ Fz α S H, G.pc Fz α S H) (hS : SqL K H a (ns.map V.int)) (hl : ns.length ≤ 63) (tab : TabsN G.T H) (hrun : Φ [.d (.lst (ns.map D.int))] [] = .ok (.d (.bl true)) S') :
    spF G 1 Φ [.ref a] H (fun v _ => v = .bl true) fun _ _ _ => False := by
  have hz : (ns.map V.int).length ≤ 16777216 := by
    rw [List.length_map]
    omega
  have go : ∀ Fz : Addr → Prop, (∀ b, Fz b → ∃ o, H b = some o ∧ Froz o) → Rep G Fz H (.lst (ns.map D.int)) (.ref a) → spF G 1 Φ [.ref a] H (fun v _ => v = .bl true) fun _ _ _ => False := fun Fz hF r => by
    refine ⟨Fz, fun _ => 0, [], [.d (.lst (ns.map D.int))], ⟨hF, fun k c e => ?_, fun j k hj _ _ => absurd hj (Nat.not_lt_zero _), tab, hpc _ _ _ _⟩, .cons r .nil, rfl, ?_⟩
    · simp at e
    · rw [hrun]
      exact fun Fz' β H' st m v rv => rv
  subst hK
  rcases hS with h | h
  · refine go (fun b => b = a) (fun b e => ?_) ⟨a, ns.map V.int, rfl, .inl ⟨rfl, h⟩, hz, reps_int ns⟩
    rw [e]
    rcases h with h | ⟨o, h⟩
    · exact ⟨_, h, trivial⟩
    · exact ⟨_, h, trivial⟩
  · exact go (fun _ => False) (fun b e => e.elim) ⟨a, ns.map V.int, rfl, .inr h, hz, reps_int ns⟩
/-- a def whose code object is named -/
theorem fn_okC {P : Program} {w : World} {mg : Str → Option Value} {base : Heap} {x qual : Str} {params : Arguments} {body : List Stmt} {scope : Scope} {dvs : List V} {kws : List (Str × V)} {p : He.Defn} {fd : FuncData} {N ps : List Str} {k : Nat} {b : SmS} (hps : ∀ σ, G.ps σ)
    (F : FunD G.K x qual params body scope dvs kws (He.fAd G.K p) fd) (S : FnScope N ps scope)
    (hbody : ∀ (A : Around) (outer : List Env) (s : Shared) (H : Hp) (E : XK), Room k (A.deeper (PyProof.Rows.envOfC qual scope s.heap.objs.size (He.fAd G.K p) (.ref (He.codeOf G.K p)))) → PSs (cxOf (L2.CX P w) P w G.K mg base N qual scope (He.fAd G.K p) (.ref (He.codeOf G.K p)) A outer s H E) body (RdS G (fun cls d _ H => E cls d H) b)) :
    FnOk P w G.K mg base (L2.CX P w) (k + 1) (He.fAd G.K p) fd ps (spF G ps.length (body0 N.length b)) := by
  obtain ⟨oc, od, dV, kV, doc, pm, an, cdv, ct, osl, rfl, lk, hcd, _, _⟩ := F.ex
  obtain ⟨c, rfl⟩ := He.codeIn_ref hcd
  have e := He.codeOf_eq lk rfl
  subst e
  exact fn_of lk hcd S (fun vs H Q E h => spF.len h) fun A outer s H vs Q E hr h => ⟨_, hbody A outer s H E hr, rd_body hps h⟩
end EV
set_option maxHeartbeats 3200000
namespace EV
open PySem L2 PyProof.Rows PySem.Spec
variable {G : SP}
abbrev noSet (w : World) : Obj := { cls := .type "set", dict := none, data := .set #[] 0 (.fresh 0 0 (!w.params.followText "set-order")) }
section
variable {P : Program} {w : World} {A : Around} {E : Value → Shared → Prop} {s : Shared}
theorem set_tupT {t : Addr} {its : Array Value} (ks : List (Addr × List Int)) {Q : Value → Shared → Prop} (calm : A.handled = none) (ht : s.heap.IsTuple t its) (hi : its.toList = ks.map fun p => Value.ref p.1) (hks : ∀ p ∈ ks, IsT P w s.heap p.2 p.1) (few : ks.length < 64) (un : A.units + 3 < cLine)
    (k : ∀ (h' : Heap) (tk : Nat) L es ep tb, SetTR P w h' s.heap.objs.size L es ep tb → Got ks ks.length L → (∀ b o, s.heap.get? b = some o → h'.get? b = some o) → Q (.ref s.heap.objs.size) { s with heap := h', toks := tk }) : wpAny (model P w) A (call (.type "set") [.ref t]) Q E s := by
  have zs : its.size = ks.length := by rw [← Array.length_toList, hi, List.length_map]
  have above : ∀ b, s.heap.objs.size ≤ b → s.heap.get? b = none := fun b hb => Heap.get?_none_of_le hb
  obtain ⟨c, tl, m0⟩ := F.called_set.mro
  have m1 := F.called_set.made
  have m2 := F.called_set.sub
  refine wpAny_call (codeAny_of_tree (show wpAny _ _ (callAny (.type "set") _) _ _ _ from wpAny_pure ⟨Code.quiet_builtin _ (by decide +kernel), codeAny_builtin F.entry_type_call ?_⟩))
  rw [Around.under_plain (weight_type_call_type "set" [.ref t] []) rfl]
  have m3 := F.called_set.notType
  have m4 := F.called_set.canCreate
  have m5 := F.typeCall_set_1 (.ref t)
  repeat (any_goals (first | assumption | wp_step))
  refine codeAny_mono (code_set_led1 (.ref t) (E := E) (Q₁ := fun x s1 => x = .ref s.heap.objs.size ∧ s1 = { s with heap := s.heap.push (noSet w) }) ⟨rfl, rfl⟩) fun r s1 hr => ?_
  cases r with
  | error e => exact hr
  | ok fl =>
    cases fl with
    | next => exact hr.elim
    | brk => exact hr.elim
    | cont => exact hr.elim
    | ret x =>
      obtain ⟨rfl, rfl⟩ := hr
      have at0 : (s.heap.push (noSet w)).get? s.heap.objs.size = some (noSet w) := Heap.get?_push_size _ rfl
      have ty0 : Shared.TypeIs { s with heap := s.heap.push (noSet w) } (.ref s.heap.objs.size) "set" := ⟨_, at0, rfl⟩
      have i1 := F.called_set.init.lookup
      have i2 := F.called_set.init.bind (.ref s.heap.objs.size)
      repeat (any_goals (first | assumption | wp_step))
      refine codeAny_mono (codeAny_call_builtin (R := wants (fun r s2 => r = .none ∧ ∃ h' tk L es ep tb, s2 = { s with heap := h', toks := tk } ∧ SetTR P w h' s.heap.objs.size L es ep tb ∧ Got ks ks.length L ∧ ∀ b o, s.heap.get? b = some o → h'.get? b = some o) E) F.called_set.init.plain F.entry_set_init (check_set_init_1 ty0 ?_)) fun r2 s2 hr2 => ?_
      · obtain ⟨⟨oc, od, oda, osl⟩, ho, hcl, n, hda⟩ := ht
        simp only at hcl hda
        subst hcl
        subst hda
        have at1 : (s.heap.push (noSet w)).get? t = some { cls := .type "tuple", dict := od, data := .seq its n, slots := osl } := Heap.get?_push_of_some _ ho
        have no1 := F.sub_tuple_set
        have no2 := F.sub_tuple_frozenset
        have no3 : (Value.type "tuple" == Value.type "dict") = false := by decide
        have tup1 : (s.heap.push (noSet w)).IsTuple t its := ⟨_, at1, rfl, n, rfl⟩
        unfold Builtin.«set.__init__» noKeywords Builtin.Frozenset.updateFrom
        generalize hIt : pyIter = goIt
        wp_walk
        subst hIt
        refine wpAny_pyIter_tuple tup1 (wpAny_bind (wpAny_runValue ?_))
        have lt0 : t < s.heap.objs.size := Heap.lt_size ho
        have sz1 : (s.heap.push (noSet w)).objs.size = s.heap.objs.size + 1 := Heap.size_push ..
        have calm3 : A.in1.in1.in1.handled = none := by simp [calm]
        have ne1 : t ≠ (s.heap.push (noSet w)).objs.size := by
          rw [sz1]
          exact Nat.ne_of_lt (Nat.lt_succ_of_lt lt0)
        have ne2 : s.heap.objs.size ∉ [(s.heap.push (noSet w)).objs.size, t] := by
          rw [sz1]
          intro z
          rcases List.mem_cons.mp z with z | z
          · exact absurd z (Nat.ne_of_lt (Nat.lt_succ_self _))
          · exact absurd (List.mem_singleton.mp z) (Nat.ne_of_gt lt0)
        have each : ∀ (i : Nat) (v : Value), its[i]? = some v → ∃ p, ks[i]? = some p ∧ v = .ref p.1 := fun i v hv => by
          have q : (ks.map fun p => Value.ref p.1)[i]? = some v := by
            rw [← hi, Array.getElem?_toList]
            exact hv
          rw [List.getElem?_map] at q
          obtain ⟨p, hp, e⟩ := Option.map_eq_some_iff.mp q
          exact ⟨p, hp, e.symm⟩
        refine set_update_tups ((Walks.tuple calm3 _ t ne1 its).toS) s.heap.objs.size ne2 ks zs few each s.heap hks (above _ (Nat.le_refl _)) (fun b hb => above b (by rw [List.mem_singleton.mp hb, sz1]; exact Nat.le_succ _)) un (its.size - 0) 0 _ (Nat.sub_zero _ ▸ rfl) (Nat.zero_le _)
          ⟨⟨_, Heap.get?_push_size _ rfl, rfl, rfl⟩, tup1.push _⟩ (fun b o e => Heap.get?_push_of_some _ (Heap.get?_push_of_some _ e)) ⟨[], #[], 0, _, setTR_fresh (Heap.get?_push_of_some _ at0), Got.zero ks⟩ ?last
        case last =>
          intro s' L es ep tb hm hS g kp
          obtain ⟨h', g2, d', tk', os'⟩ := s'
          have e1 : g2 = s.gens := hm.gens
          have e2 : d' = s.drawn := hm.drawn
          have e3 : os' = s.os := hm.os
          subst e1
          subst e2
          subst e3
          rw [zs] at g
          show wpAny _ _ _ _ _ _
          refine wpAny_pure (show wpAny _ _ (ret Value.none) _ _ _ from wpAny_pure ⟨rfl, h', tk', L, es, ep, tb, rfl, hS, g, kp⟩)
      · cases r2 with
        | error e => exact hr2
        | ok fl2 =>
          cases fl2 with
          | ret r =>
            obtain ⟨rfl, h', tk, L, es, ep, tb, rfl, hS, g, kp⟩ := hr2
            repeat (any_goals (first | assumption | wp_step))
            exact k _ _ _ _ _ _ hS g kp
          | next => exact hr2.elim
          | brk => exact hr2.elim
          | cont => exact hr2.elim
end
end EV
set_option maxHeartbeats 1000000
namespace EV
open PySem L2 PyProof.Rows PySem.Spec
variable {G : SP}
/-- what a def makes of its arguments and the cells -/
abbrev Fn := List W → Store → R W
def tupI : D → Option (List Int)
  | .tup ds => intsD ds
  | _ => none
def tupsI : List D → Option (List (List Int))
  | [] => some []
  | x :: xs => match tupI x, tupsI xs with
    | some k, some ks => some (k :: ks)
    | _, _ => none
def countD {α : Type} [DecidableEq α] : List α → Nat
  | [] => 0
  | k :: ks => if k ∈ ks then countD ks else countD ks + 1
theorem countD_le {α : Type} [DecidableEq α] : ∀ ks : List α, countD ks ≤ ks.length
  | [] => Nat.le_refl _
  | k :: ks => by
    have := countD_le ks
    unfold countD
    rw [List.length_cons]
    split <;> omega
def cLenSet (f : Sm) : Sm := fun ρ S => (f ρ S).bind fun w S1 => match (view S1 w).bind seqD with
  | some xs => (match tupsI xs with
    | some kss => if xs.length < 64 then .ok (.d (.int (countD kss))) S1 else .bad
    | none => (match intsD xs with
      | some ns => if xs.length < 64 then .ok (.d (.int (countD ns))) S1 else .bad
      | none => .bad))
  | none => .bad
theorem countD_of {α : Type} [DecidableEq α] : ∀ {ks L : List α}, L.Nodup → (∀ x ∈ L, x ∈ ks) → (∀ x ∈ ks, x ∈ L) → L.length = countD ks
  | [], L, _, h, _ => by
    cases L with
    | nil => rfl
    | cons x L => exact absurd (h x List.mem_cons_self) (by simp)
  | k :: ks, L, nd, h1, h2 => by
    unfold countD
    by_cases c : k ∈ ks
    · rw [if_pos c]
      refine countD_of nd (fun x hx => ?_) fun x hx => h2 x (List.mem_cons_of_mem _ hx)
      rcases List.mem_cons.mp (h1 x hx) with e | e
      · rw [e]
        exact c
      · exact e
    · rw [if_neg c]
      have hk : k ∈ L := h2 k List.mem_cons_self
      have r := countD_of (ks := ks) (L := L.erase k) (nd.erase k) (fun x hx => ?_) fun x hx => ?_
      · rw [List.length_erase_of_mem hk] at r
        have : 0 < L.length := List.length_pos_of_mem hk
        omega
      · obtain ⟨a, b⟩ := nd.mem_erase_iff.mp hx
        rcases List.mem_cons.mp (h1 x b) with e | e
        · exact absurd e a
        · exact e
      · exact nd.mem_erase_iff.mpr ⟨fun e => c (by rw [← e]; exact hx), h2 x (List.mem_cons_of_mem _ hx)⟩
theorem tups_reps {Fz : Addr → Prop} {H : Hp} : ∀ {xs : List D} {vs : List V} {kss : List (List Int)}, Reps G Fz H xs vs → tupsI xs = some kss → ∃ ks : List (Addr × List Int), vs = ks.map (fun p => V.ref p.1) ∧ ks.map (·.2) = kss ∧ ∀ p ∈ ks, SqT G.K H p.1 (p.2.map V.int)
  | [], vs, kss, r, e => by
    cases e
    cases (show vs = [] from r)
    exact ⟨[], rfl, rfl, fun p hp => by cases hp⟩
  | x :: xs, _, kss, ⟨v, us, q, h, t⟩, e => by
    unfold tupsI at e
    cases h1 : tupI x with
    | none => rw [h1] at e; cases e
    | some k =>
      cases h2 : tupsI xs with
      | none => rw [h1, h2] at e; cases e
      | some kss' =>
        rw [h1, h2] at e
        cases e
        obtain ⟨ks, a, b, c⟩ := tups_reps t h2
        cases x with
        | tup ds =>
          obtain ⟨ad, ws, rfl, h3, h4, h5, _⟩ := look_tup (Look.at_ h)
          rw [reps_ints h5 h1] at h3
          refine ⟨(ad, k) :: ks, by rw [q, a]; rfl, by rw [List.map_cons, b], fun p hp => ?_⟩
          rcases List.mem_cons.mp hp with z | z
          · rw [z]
            exact h3
          · exact c p z
        | _ => cases h1
theorem ints_vals : ∀ {ns : List Int} {us : List Value}, Vals (ns.map V.int) us → IntsAre us ns
  | [], _, .nil => .nil
  | n :: ns, _, .cons r t => by
    obtain ⟨k, rfl⟩ := r
    exact .cons n k (ints_vals t)
theorem getD_mem' {ns : List Int} : ∀ {n : Nat}, n = ns.length → ∀ k, k ∈ firstMet (fun i => ns.getD i 0) n ↔ k ∈ ns := by
  have key : ∀ n, n ≤ ns.length → ∀ k, k ∈ firstMet (fun i => ns.getD i 0) n ↔ k ∈ ns.take n := fun n => by
    induction n with
    | zero => intro _ k; simp [firstMet]
    | succ n ih =>
      intro hn k
      have ih := ih (by omega)
      have e : ns.take (n + 1) = ns.take n ++ [ns.getD n 0] := by
        rw [List.take_add_one, List.getD_eq_getElem?_getD, List.getElem?_eq_getElem (by omega)]
        rfl
      rw [firstMet_succ, e, List.mem_append, List.mem_singleton, ← ih k]
      unfold step_dedup
      split
      · next h =>
        refine ⟨.inl, fun z => z.elim id fun z => ?_⟩
        obtain ⟨y, hy, e⟩ := List.any_eq_true.mp h
        have e : y = ns.getD n 0 := by simpa using e
        rw [z, ← e]
        exact hy
      · rw [List.mem_append, List.mem_singleton]
  intro n hn k
  rw [key n (by omega) k, hn, List.take_length]
theorem firstMet_nd {f : Nat → Int} : ∀ n, (firstMet f n).Nodup
  | 0 => by simp [firstMet]
  | n + 1 => by
    rw [firstMet_succ]
    unfold step_dedup
    split
    · exact firstMet_nd n
    · next h =>
      refine List.nodup_append.mpr ⟨firstMet_nd n, by simp, fun a ha b hb e => h ?_⟩
      rw [List.mem_singleton.mp hb] at e
      exact List.any_eq_true.mpr ⟨a, ha, by simp [e]⟩
theorem ex_lenset {X : Cx} {W : WX} {a : Expr} {f : Sm} {p p2 q pos : Pos} (hK : X.K = G.K) (hc : X.calm = true) (hu : X.A.units + 70 < cLine) (hg : Gl X "len") (hm : X.mg "len" = none) (hg2 : Gl X "set") (hm2 : X.mg "set" = none) (ha : PE X a (RdE G W f)) (na : starEach [a] X.env = (false, eval a X.env) :: starEach [] X.env) :
    PE X (.Call (.Name "len" p) [.Call (.Name "set" p2) [a] [] q] [] pos) (RdE G W (cLenSet f)) := by
  refine ⟨fun pins s σ H Q I h => ?_⟩
  obtain ⟨Fz, α, S, ρ, m, sl, hq⟩ := h
  refine Call_ (ld_blt I hg hm boot_len (callWith_builtin1 (args_cons ?_ rfl) rfl rfl))
  refine Call_ (ld_blt I hg2 hm2 boot_set ?_)
  refine callWith_type1 (args_cons (thn (ha.run pins s σ H (fun v H1 => ∃ (l : Addr), v = .ref l ∧ ((∃ (ks : List (Addr × List Int)), (SqL X.K H1 l (ks.map fun p => V.ref p.1) ∨ SqT X.K H1 l (ks.map fun p => V.ref p.1)) ∧ (∀ p ∈ ks, SqT X.K H1 p.1 (p.2.map V.int)) ∧ ks.length < 64 ∧ Q (.int (countD (ks.map (·.2)))) H1) ∨ ∃ ns : List Int, (SqL X.K H1 l (ns.map V.int) ∨ SqT X.K H1 l (ns.map V.int)) ∧ ns.length < 64 ∧ Q (.int (countD ns)) H1)) I ?_) fun v s1 ⟨x, H1, I1, r1, q1⟩ => args_nil ?_) na) na rfl
  · refine ⟨Fz, α, S, ρ, m, sl, (Post.bind hq).mono fun F1 α1 S1 H1 w st m1 q1 v rv => ?_⟩
    cases h1 : view S1 w with
    | none => rw [h1] at q1; exact q1.elim
    | some x =>
      rw [h1] at q1
      dsimp only [Option.bind_some] at q1
      cases h2 : seqD x with
      | none => rw [h2] at q1; exact q1.elim
      | some xs =>
        rw [h2] at q1
        dsimp only at q1
        have lk := view_ok m1 h1 rv
        have key : ∃ l us, v = .ref l ∧ (SqL G.K H1 l us ∨ SqT G.K H1 l us) ∧ Reps G F1 H1 xs us := by
          cases x with
          | lst ys =>
            cases h2
            obtain ⟨a, us, rfl, h1, h2, h3⟩ := look_lst lk
            exact ⟨a, us, rfl, .inl h1, h3⟩
          | tup ys =>
            cases h2
            obtain ⟨a, us, rfl, h1, h2, h3, _⟩ := look_tup lk
            exact ⟨a, us, rfl, .inr h1, h3⟩
          | _ => cases h2
        obtain ⟨l, us, rfl, hs, hr⟩ := key
        cases h3 : tupsI xs with
        | none =>
          rw [h3] at q1
          dsimp only at q1
          cases h4 : intsD xs with
          | none => rw [h4] at q1; exact q1.elim
          | some ns =>
            rw [h4] at q1
            dsimp only at q1
            by_cases c : xs.length < 64
            · rw [if_pos c] at q1
              have := Reps.length hr
              have e := reps_ints hr h4
              subst e
              rw [List.length_map] at this
              rw [hK]
              exact ⟨l, rfl, .inr ⟨ns, hs, by omega, q1.now m1 _ rfl⟩⟩
            · rw [if_neg c] at q1
              exact q1.elim
        | some kss =>
          rw [h3] at q1
          dsimp only at q1
          by_cases c : xs.length < 64
          · rw [if_pos c] at q1
            obtain ⟨ks, rfl, rfl, hks⟩ := tups_reps hr h3
            rw [hK]
            refine ⟨l, rfl, .inl ⟨ks, hs, hks, ?_, q1.now m1 _ rfl⟩⟩
            have := Reps.length hr
            rw [List.length_map] at this
            omega
          · rw [if_neg c] at q1
            exact q1.elim
  · obtain ⟨l, rfl, q1⟩ := q1
    cases r1
    rcases q1 with ⟨ks, hs, hks, few, hQ⟩ | ⟨ns, hs, few, hQ⟩
    rotate_left
    · rcases hs with hs | hs
      · obtain ⟨its, r, pl, hz⟩ := I1.list hs
        have hl : its.toArray.size = ns.length := by rw [List.size_toArray, ← r.length, List.length_map]
        refine call_set_list (I1.ok.hd hc) pl.isList (ns := ns) (by simpa using ints_vals r) (by unfold scanBound; omega) fun h' tk hS hk => args_nil ?_
        obtain ⟨o, es, ep, t, ho, hex, hd, _, _, _, hf, hn⟩ := hS
        have I2 : Inv X pins σ H1 { s1 with heap := h', toks := tk } := I1.kept fun b o e => hk b o (Heap.lt_size e) e
        have ec := countD_of (ks := ns) (firstMet_nd (f := fun i => ns.getD i 0) its.toArray.size) (fun x hx => (getD_mem' hl x).mp hx) fun x hx => (getD_mem' hl x).mpr hx
        have hb : countD ns ≤ ns.length := countD_le ns
        refine call_len_set ho hex hd hf (by rw [hn] <;> omega) ⟨.int (countD ns), H1, I2.tok _, ⟨_, by rw [hn, ec]⟩, hQ⟩
      · obtain ⟨its, r, pt, hz⟩ := I1.tuple hs
        refine call_set_tupI ns (I1.ok.hd hc) pt (by simpa using ints_vals r) (by unfold scanBound; omega) fun h' tk c R hcl hk => args_nil ?_
        obtain ⟨o, es, ep, t, ho, hex, hd, g, nd, hm, hb, hf, hn, _⟩ := R
        have I2 : Inv X pins σ H1 { s1 with heap := h', toks := tk } := I1.kept hk
        have ec := countD_of (ks := ns) nd (fun x hx => of_decide_eq_true ((hm x).mpr hx)) fun x hx => (hm x).mp (decide_eq_true hx)
        rw [List.length_map, Array.length_toList] at ec
        refine call_len_set ho hex hd hf (by omega) ⟨.int (countD ns), H1, I2.tok _, ⟨_, by rw [ec]⟩, hQ⟩
    have fin : ∀ (h' : Heap) (tk : Nat) L es ep t, SetTR X.prog X.w h' s1.heap.objs.size L es ep t → Got ks ks.length L → (∀ b o, s1.heap.get? b = some o → h'.get? b = some o) →
        wpAny (model X.prog X.w) X.A (call (.builtin "len") [.ref s1.heap.objs.size]) (EP X pins σ Q) X.xe { s1 with heap := h', toks := tk } := fun h' tk L es ep t R g kp => by
      obtain ⟨o, ho, hex, hd⟩ := R.ob
      have hsz := SetTR.size (s := { s1 with heap := h', toks := tk }) R
      have hf := SetTR.fits (s := { s1 with heap := h', toks := tk }) R
      have lf := R.few
      have I2 : Inv X pins σ H1 { s1 with heap := h', toks := tk } := I1.kept kp
      have ec : (L.map (·.2)).length = countD (ks.map (·.2)) := countD_of R.nd (fun x hx => by
        obtain ⟨p, hp, rfl⟩ := List.mem_map.mp hx
        exact List.mem_map.mpr ⟨p, List.mem_of_mem_take (g.sub p hp), rfl⟩) fun x hx => by
        obtain ⟨p, hp, rfl⟩ := List.mem_map.mp hx
        exact g.all p (by rw [List.take_length]; exact hp)
      rw [List.length_map] at ec
      exact call_len_set ho hex hd hf (by rw [hsz]; omega) ⟨.int (countD (ks.map (·.2))), H1, I2.tok _, ⟨_, by rw [hsz, ec]⟩, hQ⟩
    have un : X.A.units + 3 < cLine := by omega
    rcases hs with hs | hs
    · obtain ⟨its, rv, pl, hz⟩ := I1.list hs
      exact call_set_tups (P := X.prog) (w := X.w) ks (I1.ok.hd hc) pl.isList (by simpa using refs_of_vals rv) (fun p hp => I1.isT (hks p hp)) few un fun h' tk L es ep t R g kp => args_nil (fin h' tk L es ep t R g kp)
    · obtain ⟨its, rv, pt, hz⟩ := I1.tuple hs
      exact set_tupT (P := X.prog) (w := X.w) ks (I1.ok.hd hc) pt (by simpa using refs_of_vals rv) (fun p hp => I1.isT (hks p hp)) few un fun h' tk L es ep t R g kp => args_nil (fin h' tk L es ep t R g kp)
end EV
set_option maxHeartbeats 1000000
namespace EV
open PySem L2
variable {G : EV.SP}
end EV
set_option maxHeartbeats 1000000
namespace EV
open PySem L2
variable {G : EV.SP}
def keyOf : W → Option L2.Key
  | .d (.int i) => some (.inl i)
  | .d (.str x) => some (.inr x)
  | _ => none
theorem keyOf_ok {Fz : Addr → Prop} {α : Nat → Addr} {n : Nat} {H : Hp} {w : W} {v : V} {k : L2.Key} (e : keyOf w = some k) (r : RepW G Fz α n H w v) : v = kV k := by
  cases w with
  | c _ => cases e
  | d x =>
    cases x with
    | int i =>
      cases e
      exact r
    | str x =>
      cases e
      exact r
    | _ => cases e
end EV
set_option maxHeartbeats 1000000
namespace EV
open PySem L2 RZ
variable {G : EV.SP}
theorem hu1 {A : Around} {k : Nat} (hr : Room k A) : A.units + 1 < cLine := by have := hr.un; omega
end EV
namespace EV
open PySem L2 RZ
variable {G : EV.SP}
end EV
set_option maxHeartbeats 1000000
namespace EV
open PySem L2 PySem.Spec PyProof.Rows
variable {G : EV.SP}
end EV
set_option maxHeartbeats 1000000
namespace EV
open PySem L2 PySem.Spec PyProof.Rows SeqAt
variable {G : EV.SP}
end EV
set_option maxHeartbeats 1000000
namespace EV
open PySem L2
variable {G : EV.SP}
end EV
set_option maxHeartbeats 1000000
namespace EV
open PySem L2
variable {G : EV.SP}
end EV
set_option maxHeartbeats 1000000
namespace EV
open PySem L2
variable {G : EV.SP}
end EV
set_option maxHeartbeats 1000000
namespace EV
open PySem L2
variable {G : EV.SP}
def valK : List L2.Key → List D → L2.Key → Option D
  | k' :: ks, d :: ds, k => if k' = k then some d else valK ks ds k
  | _, _, _ => none
theorem valK_ok {Fz : Addr → Prop} {H : Hp} {k : L2.Key} {d : D} : ∀ {kvs : List (L2.Key × V)} {ds : List D}, Reps G Fz H ds (kvs.map (·.2)) → valK (kvs.map (·.1)) ds k = some d → ∃ v, valV kvs k = some v ∧ Rep G Fz H d v
  | [], ds, r, e => by cases ds <;> cases e
  | (k', v) :: kvs, [], r, e => by cases e
  | (k', v) :: kvs, x :: ds, ⟨u, r', q, h, t⟩, e => by
    obtain ⟨rfl, rfl⟩ := List.cons.inj q
    unfold valK at e
    rw [List.map_cons] at e
    dsimp only at e
    by_cases hk : k' = k
    · rw [if_pos hk] at e
      cases e
      exact ⟨v, valV_pos hk, h⟩
    · rw [if_neg hk] at e
      obtain ⟨u, a, b⟩ := valK_ok t e
      exact ⟨u, by rw [valV_neg hk]; exact a, b⟩
theorem hasK {k : L2.Key} : ∀ kvs : List (L2.Key × V), (valV kvs k).isSome = (kvs.map (·.1)).any fun k' => decide (k' = k)
  | [] => rfl
  | (k', v) :: kvs => by
    rw [List.map_cons, List.any_cons]
    by_cases hk : k' = k
    · rw [valV_pos hk, decide_eq_true hk]
      rfl
    · rw [valV_neg hk, decide_eq_false hk, Bool.false_or]
      exact hasK kvs
def putKK (kvs : List (L2.Key × D)) (k : L2.Key) (v : D) : List (L2.Key × D) :=
  if (kvs.any fun kv => decide (kv.1 = k)) = true then kvs.map (fun kv => if kv.1 = k then (kv.1, v) else kv) else kvs ++ [(k, v)]
theorem any_keysK {A B : Type} {k : L2.Key} : ∀ {kvs : List (L2.Key × A)} {us : List (L2.Key × B)}, kvs.map (·.1) = us.map (·.1) → (kvs.any fun kv => decide (kv.1 = k)) = (us.any fun kv => decide (kv.1 = k))
  | [], [], _ => rfl
  | [], _ :: _, e => by cases e
  | _ :: _, [], e => by cases e
  | a :: kvs, b :: us, e => by
    obtain ⟨h1, h2⟩ := List.cons.inj e
    rw [List.any_cons, List.any_cons, any_keysK h2, show a.1 = b.1 from h1]
theorem map_putK {Fz : Addr → Prop} {H : Hp} {k : L2.Key} {d : D} {v : V} (r : Rep G Fz H d v) : ∀ {kvs : List (L2.Key × D)} {us : List (L2.Key × V)}, kvs.map (·.1) = us.map (·.1) → Reps G Fz H (kvs.map (·.2)) (us.map (·.2)) →
    (kvs.map fun kv => if kv.1 = k then (kv.1, d) else kv).map (·.1) = (us.map fun kv => if kv.1 = k then (kv.1, v) else kv).map (·.1) ∧ Reps G Fz H ((kvs.map fun kv => if kv.1 = k then (kv.1, d) else kv).map (·.2)) ((us.map fun kv => if kv.1 = k then (kv.1, v) else kv).map (·.2))
  | [], [], _, _ => ⟨rfl, rfl⟩
  | [], _ :: _, e, _ => by cases e
  | _ :: _, [], e, _ => by cases e
  | (k1, x) :: kvs, (k2, y) :: us, e, ⟨u, r', q, h, t⟩ => by
    obtain ⟨rfl, rfl⟩ := List.cons.inj q
    obtain ⟨h1, h2⟩ := List.cons.inj e
    obtain rfl : k1 = k2 := h1
    obtain ⟨a, b⟩ := map_putK r h2 t
    by_cases hk : k1 = k
    · refine ⟨?_, ?_⟩
      · rw [List.map_cons, List.map_cons, List.map_cons, List.map_cons, a, if_pos hk, if_pos hk]
      · rw [List.map_cons, List.map_cons, List.map_cons, List.map_cons, if_pos hk, if_pos hk]
        exact ⟨v, _, rfl, r, b⟩
    · refine ⟨?_, ?_⟩
      · rw [List.map_cons, List.map_cons, List.map_cons, List.map_cons, a, if_neg hk, if_neg hk]
      · rw [List.map_cons, List.map_cons, List.map_cons, List.map_cons, if_neg hk, if_neg hk]
        exact ⟨y, _, rfl, h, b⟩
theorem put_okK {Fz : Addr → Prop} {H : Hp} {k : L2.Key} {d : D} {v : V} {kvs : List (L2.Key × D)} {us : List (L2.Key × V)} (r : Rep G Fz H d v) (e : kvs.map (·.1) = us.map (·.1)) (t : Reps G Fz H (kvs.map (·.2)) (us.map (·.2))) :
    (putKK kvs k d).map (·.1) = (putK us k v).map (·.1) ∧ Reps G Fz H ((putKK kvs k d).map (·.2)) ((putK us k v).map (·.2)) := by
  unfold putKK putK
  rw [any_keysK e]
  split
  · exact map_putK r e t
  · rw [List.map_append, List.map_append, List.map_append, List.map_append, e]
    exact ⟨rfl, Reps.append t ⟨v, [], rfl, r, rfl⟩⟩
/-- {} -/
def cDNewK : Sm := fun _ S => .ok (.c S.length) (S ++ [.dK true []])
/-- d[k] -/
def cDGetK (f g : Sm) : Sm := fun ρ S => (f ρ S).bind fun w S1 => (g ρ S1).bind fun u S2 => match view S2 w, keyOf u with
  | some (.dK ks ds), some k => (match valK ks ds k with
    | some d => .ok (.d d) S2
    | none => .bad)
  | _, _ => .bad
/-- k in d, k not in d -/
def cDInK (neg : Bool) (g f : Sm) : Sm := fun ρ S => (g ρ S).bind fun u S1 => (f ρ S1).bind fun w S2 => match view S2 w, keyOf u with
  | some (.dK ks _), some k => .ok (.d (.bl (if neg = true then !(ks.any fun k' => decide (k' = k)) else ks.any fun k' => decide (k' = k)))) S2
  | _, _ => .bad
/-- d[k] = v -/
def sDPutK (v f g : Sm) : SmS := fun ρ S => (v ρ S).bind fun w S1 => (f ρ S1).bind fun o S2 => (g ρ S2).bind fun u S3 => match w, o, keyOf u with
  | .d d, .c j, some k => (match S3[j]? with
    | some (.dK true kvs) => if kvs.length < 16777216 then .ok (.nx ρ) (S3.set j (.dK true (putKK kvs k d))) else .bad
    | _ => .bad)
  | _, _, _ => .bad
section
variable {X : Cx} {W : WX} {a e value : Expr} {f g v : Sm} {pos pos' : Pos}
theorem ex_dnewK : PE X (.Dict [] [] pos) (RdE G W cDNewK) := pe_le pe_dnewK fun σ H Q ⟨Fz, α, S, ρ, m, sl, q⟩ p hp => by
  obtain ⟨s3, m3⟩ := new_cell (o := .dK []) (c := .dK true []) m hp (fun _ z => by cases z) fun st => ⟨[], upd_same, rfl, rfl, fun _ => m.free hp, fun z => by cases z⟩
  exact q _ _ _ s3 m3 _ ⟨by simp, by show V.ref p = _; rw [setA, if_pos rfl]⟩
theorem ex_dgetK (hu : X.A.units + 1 < cLine) (ho : PE X a (RdE G W f)) (hk : PE X e (RdE G W g)) (hs : NoSl e) : PE X (.Subscript a e pos) (RdE G W (cDGetK f g)) :=
  pe_le (pe_dget hu ho hk hs) fun σ H Q ⟨Fz, α, S, ρ, m, sl, q⟩ => ⟨Fz, α, S, ρ, m, sl, (Post.bind q).mono fun F1 α1 S1 H1 w st m1 q1 x rx =>
    ⟨F1, α1, S1, ρ, m1, sl.mono st, (Post.bind q1).mono fun F2 α2 S2 H2 u st2 m2 q2 y ry => by
    cases h1 : view S2 w with
    | none => rw [h1] at q2; exact q2.elim
    | some z =>
      rw [h1] at q2
      cases z with
      | dK ks ds =>
        cases h2 : keyOf u with
        | none => rw [h2] at q2; exact q2.elim
        | some k =>
          rw [h2] at q2
          dsimp only at q2
          cases h3 : valK ks ds k with
          | none => rw [h3] at q2; exact q2.elim
          | some d =>
            rw [h3] at q2
            obtain ⟨b, kvs, rfl, hb, rfl, hr⟩ := look_dK (view_ok m2 h1 (RepW.mono st2 rx))
            have hy := keyOf_ok h2 ry
            subst hy
            obtain ⟨t, hv, ht⟩ := valK_ok hr h3
            exact ⟨b, t, rfl, by rw [← hv]; exact DGet.k hb, q2.now m2 t ht⟩
      | _ => exact q2.elim⟩⟩
theorem rd_dinK {neg : Bool} (R : Option V → Bool) (hR : ∀ o, R o = if neg = true then !o.isSome else o.isSome) : ∀ σ H Q, RdE G W (cDInK neg g f) σ H Q → RdE G W g σ H fun y H1 => RdE G W f σ H1 fun x H2 => ∃ b o, x = .ref b ∧ DGet H2 b y o ∧ Q (.bl (R o)) H2 := fun σ H Q ⟨Fz, α, S, ρ, m, sl, q⟩ =>
    ⟨Fz, α, S, ρ, m, sl, (Post.bind q).mono fun F1 α1 S1 H1 u st m1 q1 y ry => ⟨F1, α1, S1, ρ, m1, sl.mono st, (Post.bind q1).mono fun F2 α2 S2 H2 w st2 m2 q2 x rx => by
      cases h1 : view S2 w with
      | none => rw [h1] at q2; exact q2.elim
      | some z =>
        rw [h1] at q2
        cases z with
        | dK ks ds =>
          cases h2 : keyOf u with
          | none => rw [h2] at q2; exact q2.elim
          | some k =>
            rw [h2] at q2
            obtain ⟨b, kvs, rfl, hb, rfl, hr⟩ := look_dK (view_ok m2 h1 rx)
            have hy := keyOf_ok h2 ry
            subst hy
            refine ⟨b, _, rfl, DGet.k hb, q2.now m2 _ ?_⟩
            rw [hR, hasK]
            rfl
        | _ => exact q2.elim⟩⟩
theorem xt_dninK (hu : X.A.units + 1 < cLine) (hk : PE X e (RdE G W g)) (ho : PE X a (RdE G W f)) (hm : behindInMarks .NotIn a = false) : PT X (.Compare e [.NotIn] [a] pos) (RdT G W (toT (cDInK true g f))) :=
  pt_le (pt_cmp (pc_dnotin hu hk ho) hm) fun σ H Q h => rd_dinK (fun o => !o.isSome) (fun _ => rfl) _ _ _ (rd_bl h)
theorem xs_dputK (hu : X.A.units + 1 < cLine) (ho : PE X a (RdE G W f)) (hk : PE X e (RdE G W g)) (hv : PE X value (RdE G W v)) (hs : swapsWith value (some (.Subscript a e pos')) pos.line X.env = pure false) :
    PS X (.Assign [.Subscript a e pos'] value pos) (RdS G W (sDPutK v f g)) :=
  ps_le (ps_dput hu ho hk hv hs) fun D σ H ⟨Fz, α, S, ρ, m, sl, q⟩ => ⟨Fz, α, S, ρ, m, sl, (Post.bind q).mono fun F1 α1 S1 H1 w st m1 q1 x rx =>
    ⟨F1, α1, S1, ρ, m1, sl.mono st, (Post.bind q1).mono fun F2 α2 S2 H2 o st2 m2 q2 y ry => ⟨F2, α2, S2, ρ, m2, (sl.mono st).mono st2, (Post.bind q2).mono fun F3 α3 S3 H3 u st3 m3 q3 z rz => by
    cases w with
    | c _ => exact q3.elim
    | d d =>
      cases o with
      | d _ => exact q3.elim
      | c j =>
        cases h2 : keyOf u with
        | none => rw [h2] at q3; exact q3.elim
        | some k =>
          rw [h2] at q3
          dsimp only at q3
          cases h3 : S3[j]? with
          | none => rw [h3] at q3; exact q3.elim
          | some cl =>
            rw [h3] at q3
            cases cl with
            | dK b kvs =>
              cases b with
              | false => exact q3.elim
              | true =>
                dsimp only at q3
                by_cases hz : kvs.length < 16777216
                · rw [if_pos hz] at q3
                  have hy := keyOf_ok h2 rz
                  subst hy
                  obtain ⟨hj, rfl⟩ := RepW.mono st3 ry
                  obtain ⟨us, e1, e2, e3, e4, e5⟩ := m3.cell j _ h3
                  have rx4 : Rep G F3 H3 d x := Rep.mono (st2.trans st3).ext rx
                  obtain ⟨a1, a2⟩ := put_okK (k := k) rx4 e2 e3
                  obtain ⟨st5, m5⟩ := set_cell (c' := .dK true (putKK kvs k d)) (o := .dK (putK us k x)) m3 h3 (e4 rfl) fun st => ⟨_, upd_same, a1, Reps.mono st.ext a2, fun _ => e4 rfl, fun z => by cases z⟩
                  have hul : us.length < sizeLine := by
                    have := congrArg List.length e2
                    rw [List.length_map, List.length_map] at this
                    rw [sizeLine_eq]
                    omega
                  refine ⟨α3 j, _, rfl, DPut.k e1 hul, ?_⟩
                  have hs3 := ((sl.mono st).mono st2).mono st3
                  exact q3 _ _ _ st5 m5 _ (hs3.mono st5)
                · rw [if_neg hz] at q3
                  exact q3.elim
            | _ => exact q3.elim⟩⟩⟩
end
end EV
set_option maxHeartbeats 1000000
namespace EV
open PySem L2
variable {G : EV.SP}
def repL {α : Type} (i : Int) (xs : List α) : List α := (List.replicate i.toNat xs).flatten
def rRepL (K : PySem.W.Frag) : R2 := fun x y H Q => ∃ a xs i, x = V.ref a ∧ y = V.int i ∧ SqL K H a xs ∧ (-16777216 ≤ i ∧ i ≤ 16777216) ∧ xs.length * i.toNat ≤ 16777216 ∧ ∀ p, H p = none → Q (.ref p) (upd H p (.lst (repL i xs)))
theorem vals_rep {xs : List V} {us : List Value} (h : Vals xs us) : ∀ k : Nat, Vals (List.replicate k xs).flatten (List.replicate k us).flatten
  | 0 => .nil
  | k + 1 => by
    rw [List.replicate_succ, List.replicate_succ, List.flatten_cons, List.flatten_cons]
    exact h.append (vals_rep h k)
theorem len_rep {α : Type} (xs : List α) (i : Int) : (repL i xs).length = xs.length * i.toNat := by
  unfold repL
  induction i.toNat with
  | zero => rfl
  | succ k ih => rw [List.replicate_succ, List.flatten_cons, List.length_append, ih, Nat.mul_succ, Nat.add_comm]
theorem reps_rep {Fz : Addr → Prop} {H : Hp} {ds : List D} {vs : List V} (h : Reps G Fz H ds vs) : ∀ k : Nat, Reps G Fz H (List.replicate k ds).flatten (List.replicate k vs).flatten
  | 0 => rfl
  | k + 1 => by
    rw [List.replicate_succ, List.replicate_succ, List.flatten_cons, List.flatten_cons]
    exact Reps.append h (reps_rep h k)
theorem op_repL {X : Cx} : OpR X (binaryOp .Mult) (rRepL X.K) := by
  intro pins s σ H x y v u Q I rx ry h
  obtain ⟨a, xs, i, rfl, rfl, hs, ⟨lo, hi⟩, hz, q⟩ := h
  obtain rfl : v = Value.ref a := rx
  obtain ⟨t, rfl⟩ := ry
  obtain ⟨its, rv, ⟨⟨cls, dd, data, sl⟩, n, ho, hc, hdn, hd⟩, hlen⟩ := I.list hs
  have hc1 : cls = Value.type "list" := hc
  have hd1 : data = Data.seq its.toArray n := hd
  subst hc1 hd1
  have hsl := sizeLine_eq
  have hm : its.toArray.size * i.toNat ≤ 16777216 := by
    rw [List.size_toArray, ← rv.length]
    exact hz
  refine wpAny_binaryOp_repeat_ref (T := "list") (U := "int") (by decide) ⟨_, ho, rfl⟩ (fun s' => typeIs_int s' i t) noFill_list_mul PySem.F.fills_int_mul PySem.F.slot_int_rmul repeat_list PySem.F.slot_int_index.lookup
    (call_meets PySem.F.slot_int_rmul (typeIs_int s i t) PySem.F.entry_int_rmul (PySem.F.args_int_rmul_2 _ _) (PySem.lm_int_rmul_list_any i t a its.toArray n dd sl)
      ⟨ho, rfl, ⟨_, ho, rfl⟩, call_meets PySem.F.slot_list_mul ⟨_, ho, rfl⟩ PySem.F.entry_list_mul (PySem.F.args_list_mul_2 _ _)
        (PySem.lm_list_mul_any a its.toArray n dd sl i t (by simp [Builtin.List.listFitsIndex]; omega) (by omega) (by simp only [Builtin.List.listTooLong, decide_eq_true_eq]; omega))
        ⟨ho, ?_⟩⟩)
  rw [PyProof.Rows.listMul_foldl_if]
  refine ⟨.ref s.heap.objs.size, upd H s.heap.objs.size (.lst (repL i xs)), I.laid (t' := s.toks) (fun b o e => Heap.get?_push_of_some _ e) (Nat.le_refl _) ⟨?_, _, 0, ?_, Heap.get?_push_size _ rfl⟩, rfl, q _ (I.hok.fresh (Nat.le_refl _))⟩
  · rw [len_rep]
    omega
  · exact vals_rep rv i.toNat
/-- a list * n, as a list that may change -/
def cRep (f g : Sm) : Sm := fun ρ S => (f ρ S).bind fun v S1 => (g ρ S1).bind fun w S2 => match view S2 v, view S2 w with
  | some (.lst xs), some (.int i) => if (-16777216 ≤ i ∧ i ≤ 16777216) ∧ xs.length * i.toNat ≤ 16777216 then .ok (.c S2.length) (S2 ++ [.lst true (repL i xs)]) else .bad
  | _, _ => .bad
section
variable {X : Cx}
theorem ex_rep {W : WX} {a b : Expr} {f g : Sm} {pos : Pos} (hK : X.K = G.K) (hf : PE X a (RdE G W f)) (hg : PE X b (RdE G W g)) : PE X (.BinOp a .Mult b pos) (RdE G W (cRep f g)) :=
  pe_le (pe_op op_repL hf hg) fun σ H Q ⟨Fz, α, S, ρ, m, sl, q⟩ => ⟨Fz, α, S, ρ, m, sl, (Post.bind q).mono fun F1 α1 S1 H1 w st m1 q1 v rv => ⟨F1, α1, S1, ρ, m1, sl.mono st, (Post.bind q1).mono fun F2 α2 S2 H2 w2 st2 m2 q2 u ru => by
    cases h1 : view S2 w with
    | none => rw [h1] at q2; exact q2.elim
    | some x =>
      cases h2 : view S2 w2 with
      | none =>
        rw [h1, h2] at q2
        split at q2
        · rename_i z; cases z
        · exact q2.elim
      | some y =>
        rw [h1, h2] at q2
        split at q2
        · rename_i xs i z1 z2
          cases z1
          cases z2
          have hu := look_int (view_ok m2 h2 ru)
          subst hu
          obtain ⟨a, vs, rfl, h1, h2, h3⟩ := look_lst (view_ok m2 h1 (RepW.mono st2 rv))
          have e1 := Reps.length h3
          by_cases c : (-16777216 ≤ i ∧ i ≤ 16777216) ∧ xs.length * i.toNat ≤ 16777216
          · rw [if_pos c] at q2
            refine ⟨a, vs, i, rfl, rfl, by rw [hK]; exact h1, c.1, by rw [← e1]; exact c.2, fun p hp => ?_⟩
            obtain ⟨s3, m3⟩ := new_cell (o := .lst (repL i vs)) (c := .lst true (repL i xs)) m2 hp (fun _ z => by cases z) fun st => ⟨_, upd_same, by rw [len_rep, ← e1]; exact c.2, Reps.mono st.ext (reps_rep h3 i.toNat), fun _ => m2.free hp, fun z => by cases z⟩
            exact q2 _ _ _ s3 m3 _ ⟨by simp, by show V.ref p = _; rw [setA, if_pos rfl]⟩
          · rw [if_neg c] at q2
            exact q2.elim
        · exact q2.elim⟩⟩
end
end EV
namespace Tx
open PySem L2 EV
/-- is_integer(value) -/
def t_is_integer (ics : List Nat) : SmS :=
  sRet true (cAnd (cIs (isT "int" ics) (cVar 0)) (cNot (cIs (isT "bool" ics) (cVar 0))))
/-- is_within(value, low, high) -/
def t_is_within (f_is_integer : Fn) : SmS :=
  sRet true (cAnd (cCall 1 (f_is_integer) (cCons (cVar 0) (cNil))) (cChn oLe oLe (cVar 1) (cVar 0) (cVar 2)))
/-- is_ascending(value) -/
def t_is_ascending  : SmS :=
  sRet true (cBi fAll (cCons (cLc false [1] (.one 1) (cRange2 (cCons (cCst (.int 1)) (cCons (cBi fLen (cCons (cVar 0) (cNil))) (cNil)))) cTrue (cOp2 (orO (oI0 fun i j => .bl (decide (i < j))) oLt) (cOp2 oIx (cVar 0) (cOp2 oSub (cVar 1) (cCst (.int 1)))) (cOp2 oIx (cVar 0) (cVar 1)))) (cNil)))
/-- is_rising(value, high) -/
def t_is_rising (ics : List Nat) (f_is_within : Fn) (f_is_ascending : Fn) : SmS :=
  sSeq (sIf (cOr (cNot (cIs (isT "tuple" ics) (cVar 0))) (cOr (cOp2 oEq (cBi fLen (cCons (cVar 0) (cNil))) (cCst (.int 0))) (cNot (cBi fAll (cCons (cLc false [2] (.one 2) (cIter (cVar 0)) cTrue (cCall 3 (f_is_within) (cCons (cVar 2) (cCons (cCst (.int 0)) (cCons (cVar 1) (cNil)))))) (cNil)))))) (sRet true (cCst (.bl false))) (sNil)) (
    sRet true (cCall 1 (f_is_ascending) (cCons (cVar 0) (cNil))))
/-- is_group(value, n) -/
def t_is_group (f_is_rising : Fn) : SmS :=
  sRet true (cCall 2 (f_is_rising) (cCons (cVar 0) (cCons (cOp2 oSub (cVar 1) (cCst (.int 1))) (cNil))))
/-- are_groups(value, n) -/
def t_are_groups (ics : List Nat) (f_is_group : Fn) : SmS :=
  sSeq (sIf (cOr (cNot (cIs (isAny [(isT "list" ics), (isT "tuple" ics)]) (cVar 0))) (cOp2 oGt (cBi fLen (cCons (cVar 0) (cNil))) (cCst (.int 24)))) (sRet true (cCst (.bl false))) (sNil)) (
    sSeq (sIf (cOr (cNot (cBi fAll (cCons (cLc false [2] (.one 2) (cIter (cVar 0)) cTrue (cCall 2 (f_is_group) (cCons (cVar 2) (cCons (cVar 1) (cNil))))) (cNil)))) (cOp2 oNe (cLenSet (cVar 0)) (cBi fLen (cCons (cVar 0) (cNil))))) (sRet true (cCst (.bl false))) (sNil)) (
    sRet true (cBi fAll (cCons (cLc false [3] (.one 3) (cRange1 (cCons (cVar 1) (cNil))) cTrue (cOp2 (oIn false) (cTup (cCons (cVar 3) (cNil))) (cVar 0))) (cNil)))))
/-- Collection.__init__(self, n, groups) -/
def t_Collection_init (ft : Nat → List Str) (c_InvalidNumber : Nat) (c_InvalidGroups : Nat) (f_is_within : Fn) (f_are_groups : Fn) : SmS :=
  sSeq (sIf (cNot (cCall 3 (f_is_within) (cCons (cVar 1) (cCons (cCst (.int 1)) (cCons (cCst (.int 6)) (cNil)))))) (sRaise c_InvalidNumber ["value"] (cCons (cVar 1) (cNil))) (sNil)) (
    sSeq (sIf (cNot (cCall 2 (f_are_groups) (cCons (cVar 2) (cCons (cVar 1) (cNil))))) (sRaise c_InvalidGroups ["value"] (cCons (cVar 2) (cNil))) (sNil)) (
    sSeq (sFldW ft "n" (cVar 0) (cVar 1)) (
    sFldW ft "groups" (cVar 0) (cBi fTuple (cCons (cVar 2) (cNil))))))
/-- _law_box(script, k) -/
def t__law_box  : SmS :=
  sSeq (sSet 2 (cOp2 oAdd (cOp2 oMul (cCst (.int 7919)) (cVar 1)) (cCst (.int 101)))) (
    sSeq (sIf (cOp2 (orO (oI0 fun i j => .bl (decide (i < j))) oLt) (cVar 1) (cBi fLen (cCons (cVar 0) (cNil)))) (sSet 2 (cBi fAbs (cCons (cOp2 oIx (cVar 0) (cVar 1)) (cNil)))) (sIf (cOp2 oGt (cBi fLen (cCons (cVar 0) (cNil))) (cCst (.int 0))) (sSet 2 (cOp2 oAdd (cOp2 oMul (cOp2 oMod (cBi fInt (cCons (cBi fAbs (cCons (cOp2 oIx (cVar 0) (cOp2 oMod (cBi fInt (cCons (cVar 1) (cNil))) (cBi fLen (cCons (cVar 0) (cNil))))) (cNil))) (cNil))) (cCst (.int 1000000007))) (cCst (.int 31))) (cOp2 oMul (cCst (.int 7919)) (cVar 1)))) (sNil))) (
    sSeq (sSet 3 (cOp2 oIx (cLst false (cCons (cCst (.int 0)) (cCons (cVar 2) (cNil)))) (cBi fInt (cCons (cOp2 oGe (cVar 2) (cOp2 oPow (cCst (.int 10)) (cCst (.int 18)))) (cNil))))) (
    sRet false (cLst true (cCons (cVar 3) (cCons (cOp2 oAdd (cOp2 oMod (cBi fInt (cCons (cOp2 oAdd (cOp2 oMul (cOp2 oMod (cBi fInt (cCons (cVar 2) (cNil))) (cCst (.int 1000000007))) (cCst (.int 48271))) (cOp2 oMul (cCst (.int 613)) (cVar 1))) (cNil))) (cCst (.int 2147483647))) (cCst (.int 1))) (cNil)))))))
/-- _law_take(box, many) -/
def t__law_take  : SmS :=
  sSeq (sIf (cOp2 oGt (cOp2 oIx (cVar 0) (cCst (.int 0))) (cCst (.int 0))) (sSeq (sSet 2 (cOp2 oMod (cBi fInt (cCons (cOp2 oIx (cVar 0) (cCst (.int 0))) (cNil))) (cVar 1))) (
    sSeq (sSetIx (cOp2 oDiv (cOp2 oIx (cVar 0) (cCst (.int 0))) (cVar 1)) (cVar 0) (cCst (.int 0))) (
    sRet true (cVar 2)))) (sNil)) (
    sSeq (sSetIx (cOp2 oMod (cBi fInt (cCons (cOp2 oAdd (cOp2 oMul (cOp2 oIx (cVar 0) (cCst (.int 1))) (cCst (.int 39373))) (cCst (.int 69621))) (cNil))) (cCst (.int 2147483647))) (cVar 0) (cCst (.int 1))) (
    sRet true (cOp2 oMod (cBi fInt (cCons (cOp2 oDiv (cOp2 oIx (cVar 0) (cCst (.int 1))) (cCst (.int 8191))) (cNil))) (cVar 1))))
/-- _law_pick(box, some) -/
def t__law_pick (f__law_take : Fn) : SmS :=
  sRet true (cOp2 oIx (cVar 1) (cCall 2 (f__law_take) (cCons (cVar 0) (cCons (cBi fLen (cCons (cVar 1) (cNil))) (cNil)))))
/-- _law_whole(value) -/
def t__law_whole (ics : List Nat) : SmS :=
  sRet true (cAnd (cIs (isT "int" ics) (cVar 0)) (cNot (cIs (isT "bool" ics) (cVar 0))))
/-- _law_is_numbers(value, many) -/
def t__law_is_numbers (ics : List Nat) (f__law_whole : Fn) : SmS :=
  sSeq (sIf (cNot (cIs (isT "tuple" ics) (cVar 0))) (sRet true (cCst (.bl false))) (sNil)) (
    sRet true (cOp2 oEq (cLc false [2] (.one 2) (cIter (cVar 0)) (cOr (cNot (cCall 1 (f__law_whole) (cCons (cVar 2) (cNil)))) (cOr (cOp2 (orO (oI0 fun i j => .bl (decide (i < j))) oLt) (cVar 2) (cCst (.int 0))) (cOp2 oGe (cVar 2) (cVar 1)))) (cVar 2)) (cLst false (cNil))))
/-- _law_is_due(told, due) -/
def t__law_is_due  : SmS :=
  sRet true (cIf (cVar 1) (cOp2 (oIs false) (cVar 0) (cCst (.bl true))) (cOp2 (oIs false) (cVar 0) (cCst (.bl false))))
/-- _law_spoilt(box, value, deep) -/
def t__law_spoilt (ics : List Nat) (f__law_take : Fn) (f__law_spoilt : Fn) (f__law_pick : Fn) (f__law_whole : Fn) : SmS :=
  sSeq (sIf (cIs (isT "tuple" ics) (cVar 1)) (sSeq (sSet 3 (cCall 2 (f__law_take) (cCons (cVar 0) (cCons (cOp2 oAdd (cBi fLen (cCons (cVar 1) (cNil))) (cCst (.int 1))) (cNil))))) (
    sSeq (sIf (cAnd (cOp2 oNe (cVar 1) (cTup (cNil))) (cAnd (cOp2 oGt (cVar 2) (cCst (.int 0))) (cOp2 oGt (cCall 2 (f__law_take) (cCons (cVar 0) (cCons (cCst (.int 5)) (cNil)))) (cCst (.int 0))))) (sSeq (sSet 3 (cOp2 oMod (cBi fInt (cCons (cVar 3) (cNil))) (cBi fLen (cCons (cVar 1) (cNil))))) (
    sRet true (cOp2 oAdd (cOp2 oAdd (cSl false (cVar 1) oNone (oSome (cVar 3))) (cTup (cCons (cCall 3 (f__law_spoilt) (cCons (cVar 0) (cCons (cOp2 oIx (cVar 1) (cVar 3)) (cCons (cOp2 oSub (cVar 2) (cCst (.int 1))) (cNil))))) (cNil)))) (cSl false (cVar 1) (oSome (cOp2 oAdd (cVar 3) (cCst (.int 1)))) oNone)))) (sNil)) (
    sSeq (sSet 4 (cCall 2 (f__law_take) (cCons (cVar 0) (cCons (cCst (.int 8)) (cNil))))) (
    sSeq (sIf (cOp2 oEq (cVar 4) (cCst (.int 0))) (sRet true (cBiL false fList (cCons (cVar 1) (cNil)))) (sNil)) (
    sSeq (sIf (cOp2 oEq (cVar 4) (cCst (.int 1))) (sRet true (cOp2 oAdd (cSl false (cVar 1) oNone (oSome (cVar 3))) (cSl false (cVar 1) (oSome (cOp2 oAdd (cVar 3) (cCst (.int 1)))) oNone))) (sNil)) (
    sSeq (sIf (cOp2 oEq (cVar 4) (cCst (.int 2))) (sRet true (cOp2 oAdd (cOp2 oAdd (cSl false (cVar 1) oNone (oSome (cVar 3))) (cSl false (cVar 1) (oSome (cVar 3)) (oSome (cOp2 oAdd (cVar 3) (cCst (.int 1)))))) (cSl false (cVar 1) (oSome (cVar 3)) oNone))) (sNil)) (
    sSeq (sIf (cOp2 oEq (cVar 4) (cCst (.int 3))) (sRet true (cOp2 oAdd (cSl false (cVar 1) (oSome (cVar 3)) oNone) (cSl false (cVar 1) oNone (oSome (cVar 3))))) (sNil)) (
    sSeq (sIf (cOp2 oEq (cVar 4) (cCst (.int 4))) (sRet true (cOp2 oAdd (cVar 1) (cTup (cCons (cTup (cNil)) (cNil))))) (sNil)) (
    sSeq (sIf (cOp2 oEq (cVar 4) (cCst (.int 5))) (sRet true (cOp2 oAdd (cOp2 oAdd (cSl false (cVar 1) oNone (oSome (cVar 3))) (cTup (cCons (cCst (.int 0)) (cNil)))) (cSl false (cVar 1) (oSome (cVar 3)) oNone))) (sNil)) (
    sSeq (sIf (cOp2 oEq (cVar 4) (cCst (.int 6))) (sRet true (cOp2 oAdd (cSl false (cVar 1) oNone (oSome (cNeg (cCst (.int 1))))) (cSl false (cVar 1) oNone (oSome (cCst (.int 1)))))) (sNil)) (
    sRet true (cCst .non)))))))))))) (sNil)) (
    sSeq (sIf (cIs (isT "str" ics) (cVar 1)) (sRet true (cCall 2 (f__law_pick) (cCons (cVar 0) (cCons (cLst false (cCons (cOp2 oAdd (cVar 1) (cCst (.str "b"))) (cCons (cCst (.str "")) (cCons (cSl false (cVar 1) (oSome (cCst (.int 1))) oNone) (cCons (cOp2 oAdd (cCst (.str "a")) (cVar 1)) (cCons (cCst (.int 0)) (cNil))))))) (cNil))))) (sNil)) (
    sSeq (sIf (cCall 1 (f__law_whole) (cCons (cVar 1) (cNil))) (sRet true (cCall 2 (f__law_pick) (cCons (cVar 0) (cCons (cLst false (cCons (cOp2 oAdd (cVar 1) (cCst (.int 1))) (cCons (cOp2 oSub (cVar 1) (cCst (.int 1))) (cCons (cOp2 oGt (cVar 1) (cCst (.int 0))) (cCons (cOp2 oSub (cNeg (cCst (.int 1))) (cVar 1)) (cCons (cTup (cCons (cVar 1) (cNil))) (cCons (cCst .non) (cCons (cBi fStr (cCons (cVar 1) (cNil))) (cCons (cOp2 oAdd (cVar 1) (cCst (.int 16))) (cNil)))))))))) (cNil))))) (sNil)) (
    sRet true (cCall 2 (f__law_pick) (cCons (cVar 0) (cCons (cLst false (cCons (cCst (.int 0)) (cCons (cTup (cNil)) (cCons (cCst (.str "none")) (cNil))))) (cNil)))))))
/-- _law_shuffled(box, some) -/
def t__law_shuffled (f__law_take : Fn) : SmS :=
  sSeq (sSet 2 (cLst true (cNil))) (
    sSeq (sFor (.one 3) (cIter (cVar 1)) (sDrop (cLm lInsert (cVar 2) (cCons (cCall 2 (f__law_take) (cCons (cVar 0) (cCons (cOp2 oAdd (cBi fLen (cCons (cVar 2) (cNil))) (cCst (.int 1))) (cNil)))) (cCons (cVar 3) (cNil)))))) (
    sRet false (cVar 2)))
/-- _law_all_groups(n) -/
def t__law_all_groups  : SmS :=
  sSeq (sSet 1 (cLst false (cCons (cTup (cNil)) (cNil)))) (
    sSeq (sFor (.one 2) (cRange1 (cCons (cVar 0) (cNil))) (sSet 1 (cOp2 oAdd (cVar 1) (cLc false [3] (.one 3) (cIter (cVar 1)) cTrue (cOp2 oAdd (cVar 3) (cTup (cCons (cVar 2) (cNil)))))))) (
    sRet true (cSortK false (cLam 1 [] (cTup (cCons (cBi fLen (cCons (cVar 0) (cNil))) (cCons (cVar 0) (cNil))))) (cCons (cLc false [3] (.one 3) (cIter (cVar 1)) (cOp2 oNe (cVar 3) (cTup (cNil))) (cVar 3)) (cNil)))))
/-- _law_drawn_tree(box, n) -/
def t__law_drawn_tree (f__law_shuffled : Fn) (f__law_take : Fn) : SmS :=
  sSeq (sSet 2 (cCall 2 (f__law_shuffled) (cCons (cVar 0) (cCons (cRgA false false (cVar 1)) (cNil))))) (
    sSeq (sSet 3 (cLst true (cNil))) (
    sSeq (sFor (.one 4) (cRange2 (cCons (cCst (.int 1)) (cCons (cVar 1) (cNil)))) (sSeq (sSet 5 (cOp2 oIx (cVar 2) (cCall 2 (f__law_take) (cCons (cVar 0) (cCons (cVar 4) (cNil)))))) (
    sDrop (cLm lAppend (cVar 3) (cCons (cTup (cCons (cBi fMin2 (cCons (cOp2 oIx (cVar 2) (cVar 4)) (cCons (cVar 5) (cNil)))) (cCons (cBi fMax2 (cCons (cOp2 oIx (cVar 2) (cVar 4)) (cCons (cVar 5) (cNil)))) (cNil)))) (cNil)))))) (
    sRet true (cBi fTuple (cCons (cBiL false fSorted (cCons (cVar 3) (cNil))) (cNil))))))
/-- _law_hangs(group, tree) -/
def t__law_hangs  : SmS :=
  sRet true (cOp2 oEq (cBi fLen (cCons (cLc false [2] (.one 2) (cIter (cVar 1)) (cAnd (cOp2 (oIn false) (cOp2 oIx (cVar 2) (cCst (.int 0))) (cVar 0)) (cOp2 (oIn false) (cOp2 oIx (cVar 2) (cCst (.int 1))) (cVar 0))) (cVar 2)) (cNil))) (cOp2 oSub (cBi fLen (cCons (cVar 0) (cNil))) (cCst (.int 1))))
/-- _law_is_forest(n, groups) -/
def t__law_is_forest  : SmS :=
  sSeq (sSet 2 (cLc false [3] (.one 3) (cRange1 (cCons (cVar 0) (cNil))) cTrue (cTup (cCons (cVar 3) (cNil))))) (
    sSeq (sFor (.one 4) (cIter (cVar 1)) (sIf (cOp2 oGt (cBi fLen (cCons (cVar 4) (cNil))) (cCst (.int 1))) (sSeq (sSet 5 (cLc false [6] (.one 6) (cIter (cVar 2)) (cOp2 oNe (cLc false [3] (.one 3) (cIter (cVar 6)) (cOp2 (oIn false) (cVar 3) (cVar 4)) (cVar 3)) (cLst false (cNil))) (cVar 6))) (
    sSeq (sIf (cOp2 oNe (cBi fLen (cCons (cVar 5) (cNil))) (cBi fLen (cCons (cVar 4) (cNil)))) (sRet true (cCst (.bl false))) (sNil)) (
    sSeq (sSet 7 (cTup (cNil))) (
    sSeq (sFor (.one 6) (cIter (cVar 5)) (sSet 7 (cOp2 oAdd (cVar 7) (cVar 6)))) (
    sSet 2 (cOp2 oAdd (cLc false [6] (.one 6) (cIter (cVar 2)) (cOp2 (oIn true) (cVar 6) (cVar 5)) (cVar 6)) (cLst false (cCons (cVar 7) (cNil))))))))) (sNil))) (
    sRet true (cCst (.bl true))))
/-- _law_groups(box, kind, size) -/
def t__law_groups (f__law_take : Fn) (f__law_all_groups : Fn) (f__law_shuffled : Fn) (f__law_drawn_tree : Fn) (f__law_hangs : Fn) (f__law_is_forest : Fn) : SmS :=
  sSeq (sSet 3 (cIf (cOp2 oEq (cVar 2) (cCst (.int 6))) (cOp2 oIx (cLst false (cCons (cCst (.int 6)) (cCons (cCst (.int 6)) (cCons (cCst (.int 5)) (cCons (cCst (.int 5)) (cCons (cCst (.int 4)) (cCons (cCst (.int 3)) (cCons (cCst (.int 3)) (cCons (cCst (.int 2)) (cCons (cCst (.int 1)) (cNil))))))))))) (cCall 2 (f__law_take) (cCons (cVar 0) (cCons (cCst (.int 9)) (cNil))))) (cVar 2))) (
    sSeq (sSet 4 (cLc false [5] (.one 5) (cIter (cCall 1 (f__law_all_groups) (cCons (cVar 3) (cNil)))) (cOp2 oGt (cBi fLen (cCons (cVar 5) (cNil))) (cCst (.int 1))) (cVar 5))) (
    sSeq (sIf (cOr (cOp2 oEq (cVar 1) (cCst (.int 1))) (cOp2 oEq (cVar 1) (cCst (.int 4)))) (sSet 4 (cLc false [5] (.one 5) (cIter (cVar 4)) (cOp2 oEq (cBi fLen (cCons (cVar 5) (cNil))) (cCst (.int 2))) (cVar 5))) (sNil)) (
    sSeq (sSet 6 (cAnd (cOp2 oEq (cVar 1) (cCst (.int 1))) (cAnd (cOp2 oGt (cVar 3) (cCst (.int 2))) (cOp2 oEq (cCall 2 (f__law_take) (cCons (cVar 0) (cCons (cCst (.int 3)) (cNil)))) (cCst (.int 0)))))) (
    sSeq (sIf (cVar 6) (sSeq (sSet 7 (cSl false (cCall 2 (f__law_shuffled) (cCons (cVar 0) (cCons (cRgA false false (cVar 3)) (cNil)))) oNone (oSome (cOp2 oAdd (cCst (.int 3)) (cCall 2 (f__law_take) (cCons (cVar 0) (cCons (cOp2 oSub (cVar 3) (cCst (.int 2))) (cNil)))))))) (
    sSet 4 (cLc false [8] (.one 8) (cRange1 (cCons (cBi fLen (cCons (cVar 7) (cNil))) (cNil))) cTrue (cBi fTuple (cCons (cBiL false fSorted (cCons (cLst false (cCons (cOp2 oIx (cVar 7) (cOp2 oSub (cVar 8) (cCst (.int 1)))) (cCons (cOp2 oIx (cVar 7) (cVar 8)) (cNil)))) (cNil))) (cNil)))))) (sNil)) (
    sSeq (sIf (cOp2 oEq (cVar 1) (cCst (.int 4))) (sSeq (sSet 9 (cLc false [10] (.one 10) (cRange1 (cCons (cVar 3) (cNil))) cTrue (cCall 2 (f__law_take) (cCons (cVar 0) (cCons (cCst (.int 2)) (cNil)))))) (
    sSet 4 (cLc false [5] (.one 5) (cIter (cVar 4)) (cOp2 oNe (cOp2 oIx (cVar 9) (cOp2 oIx (cVar 5) (cCst (.int 0)))) (cOp2 oIx (cVar 9) (cOp2 oIx (cVar 5) (cCst (.int 1))))) (cVar 5)))) (sNil)) (
    sSeq (sIf (cOp2 oEq (cVar 1) (cCst (.int 2))) (sSeq (sSet 11 (cCall 2 (f__law_drawn_tree) (cCons (cVar 0) (cCons (cVar 3) (cNil))))) (
    sSet 4 (cLc false [5] (.one 5) (cIter (cVar 4)) (cCall 2 (f__law_hangs) (cCons (cVar 5) (cCons (cVar 11) (cNil)))) (cVar 5)))) (sNil)) (
    sSeq (sSet 4 (cCall 2 (f__law_shuffled) (cCons (cVar 0) (cCons (cVar 4) (cNil))))) (
    sSeq (sIf (cOp2 oEq (cVar 1) (cCst (.int 3))) (sSeq (sSet 12 (cLst true (cNil))) (
    sSeq (sFor (.one 5) (cIter (cVar 4)) (sIf (cCall 2 (f__law_is_forest) (cCons (cVar 3) (cCons (cOp2 oAdd (cVar 12) (cLst false (cCons (cVar 5) (cNil)))) (cNil)))) (sDrop (cLm lAppend (cVar 12) (cCons (cVar 5) (cNil)))) (sNil))) (
    sSet 4 (cSl false (cVar 12) oNone (oSome (cOp2 oSub (cBi fLen (cCons (cVar 12) (cNil))) (cBi fInt (cCons (cAnd (cOp2 oEq (cCall 2 (f__law_take) (cCons (cVar 0) (cCons (cCst (.int 3)) (cNil)))) (cCst (.int 0))) (cOp2 oNe (cVar 12) (cLst false (cNil)))) (cNil))))))))) (sNil)) (
    sSeq (sSet 13 (cBi fMin2 (cCons (cBi fLen (cCons (cVar 4) (cNil))) (cCons (cOp2 oSub (cCst (.int 24)) (cVar 3)) (cNil))))) (
    sSeq (sIf (cAnd (cOp2 oNe (cVar 1) (cCst (.int 3))) (cAnd (cNot (cVar 6)) (cOp2 oGt (cCall 2 (f__law_take) (cCons (cVar 0) (cCons (cCst (.int 3)) (cNil)))) (cCst (.int 0))))) (sSet 13 (cOp2 oSub (cVar 13) (cOp2 oDiv (cCall 2 (f__law_take) (cCons (cVar 0) (cCons (cOp2 oAdd (cVar 13) (cCst (.int 1))) (cNil)))) (cOp2 oIx (cLst false (cCons (cCst (.int 1)) (cCons (cCst (.int 2)) (cNil)))) (cCall 2 (f__law_take) (cCons (cVar 0) (cCons (cCst (.int 2)) (cNil)))))))) (sNil)) (
    sSeq (sSet 14 (cCall 2 (f__law_shuffled) (cCons (cVar 0) (cCons (cLc false [10] (.one 10) (cRange1 (cCons (cVar 3) (cNil))) cTrue (cTup (cCons (cVar 10) (cNil)))) (cNil))))) (
    sSeq (sFor (.one 5) (cIter (cSl false (cVar 4) oNone (oSome (cVar 13)))) (sDrop (cLm lInsert (cVar 14) (cCons (cCall 2 (f__law_take) (cCons (cVar 0) (cCons (cOp2 oAdd (cBi fLen (cCons (cVar 14) (cNil))) (cCst (.int 1))) (cNil)))) (cCons (cVar 5) (cNil)))))) (
    sRet true (cTup (cCons (cVar 3) (cCons (cBi fTuple (cCons (cVar 14) (cNil))) (cNil)))))))))))))))))
end Tx
namespace Tx
open PySem L2 EV
end Tx
namespace Tx
open PySem L2 EV
end Tx
namespace EV
open PySem L2
theorem kb_int_int : kitB "int" "int" = some true := by decide +kernel
theorem kb_bool_int : kitB "bool" "int" = some true := by decide +kernel
theorem kb_NoneType_int : kitB "NoneType" "int" = some false := by decide +kernel
theorem kb_str_int : kitB "str" "int" = some false := by decide +kernel
theorem kb_tuple_int : kitB "tuple" "int" = some false := by decide +kernel
theorem kb_list_int : kitB "list" "int" = some false := by decide +kernel
theorem kb_dict_int : kitB "dict" "int" = some false := by decide +kernel
theorem kb_int_bool : kitB "int" "bool" = some false := by decide +kernel
theorem kb_bool_bool : kitB "bool" "bool" = some true := by decide +kernel
theorem kb_NoneType_bool : kitB "NoneType" "bool" = some false := by decide +kernel
theorem kb_str_bool : kitB "str" "bool" = some false := by decide +kernel
theorem kb_tuple_bool : kitB "tuple" "bool" = some false := by decide +kernel
theorem kb_list_bool : kitB "list" "bool" = some false := by decide +kernel
theorem kb_dict_bool : kitB "dict" "bool" = some false := by decide +kernel
theorem kb_int_str : kitB "int" "str" = some false := by decide +kernel
theorem kb_bool_str : kitB "bool" "str" = some false := by decide +kernel
theorem kb_NoneType_str : kitB "NoneType" "str" = some false := by decide +kernel
theorem kb_str_str : kitB "str" "str" = some true := by decide +kernel
theorem kb_tuple_str : kitB "tuple" "str" = some false := by decide +kernel
theorem kb_list_str : kitB "list" "str" = some false := by decide +kernel
theorem kb_dict_str : kitB "dict" "str" = some false := by decide +kernel
theorem kb_int_tuple : kitB "int" "tuple" = some false := by decide +kernel
theorem kb_bool_tuple : kitB "bool" "tuple" = some false := by decide +kernel
theorem kb_NoneType_tuple : kitB "NoneType" "tuple" = some false := by decide +kernel
theorem kb_str_tuple : kitB "str" "tuple" = some false := by decide +kernel
theorem kb_tuple_tuple : kitB "tuple" "tuple" = some true := by decide +kernel
theorem kb_list_tuple : kitB "list" "tuple" = some false := by decide +kernel
theorem kb_dict_tuple : kitB "dict" "tuple" = some false := by decide +kernel
theorem kb_int_list : kitB "int" "list" = some false := by decide +kernel
theorem kb_bool_list : kitB "bool" "list" = some false := by decide +kernel
theorem kb_NoneType_list : kitB "NoneType" "list" = some false := by decide +kernel
theorem kb_str_list : kitB "str" "list" = some false := by decide +kernel
theorem kb_tuple_list : kitB "tuple" "list" = some false := by decide +kernel
theorem kb_list_list : kitB "list" "list" = some true := by decide +kernel
theorem kb_dict_list : kitB "dict" "list" = some false := by decide +kernel
/-- an ordinary value: data, or an instance of one of cs -/
def ordD (cs : List Nat) : D → Bool
  | .ins c _ _ => cs.contains c
  | .exc _ _ _ => false
  | .fn _ => false
  | .pr _ _ => false
  | _ => true
def isIntD : D → Bool
  | .int _ => true
  | _ => false
def isBlD : D → Bool
  | .bl _ => true
  | _ => false
def isStrD : D → Bool
  | .str _ => true
  | _ => false
def isTupD : D → Bool
  | .tup _ => true
  | _ => false
def isLstD : D → Bool
  | .lst _ => true
  | _ => false
theorem isT_int {cs : List Nat} {v : D} (h : ordD cs v = true) : isT "int" cs v = some (isIntD v || isBlD v) := by
  cases v <;> simp_all [isT, tyN, ordD, isIntD, isBlD, kb_int_int, kb_bool_int, kb_NoneType_int, kb_str_int, kb_tuple_int, kb_list_int, kb_dict_int]
theorem isT_bool {cs : List Nat} {v : D} (h : ordD cs v = true) : isT "bool" cs v = some (isBlD v) := by
  cases v <;> simp_all [isT, tyN, ordD, isBlD, kb_int_bool, kb_bool_bool, kb_NoneType_bool, kb_str_bool, kb_tuple_bool, kb_list_bool, kb_dict_bool]
theorem isT_str {cs : List Nat} {v : D} (h : ordD cs v = true) : isT "str" cs v = some (isStrD v) := by
  cases v <;> simp_all [isT, tyN, ordD, isStrD, kb_int_str, kb_bool_str, kb_NoneType_str, kb_str_str, kb_tuple_str, kb_list_str, kb_dict_str]
theorem isT_tuple {cs : List Nat} {v : D} (h : ordD cs v = true) : isT "tuple" cs v = some (isTupD v) := by
  cases v <;> simp_all [isT, tyN, ordD, isTupD, kb_int_tuple, kb_bool_tuple, kb_NoneType_tuple, kb_str_tuple, kb_tuple_tuple, kb_list_tuple, kb_dict_tuple]
theorem isT_list {cs : List Nat} {v : D} (h : ordD cs v = true) : isT "list" cs v = some (isLstD v) := by
  cases v <;> simp_all [isT, tyN, ordD, isLstD, kb_int_list, kb_bool_list, kb_NoneType_list, kb_str_list, kb_tuple_list, kb_list_list, kb_dict_list]
/-- the cells refer to cells that are there -/
abbrev Wf (S : Store) : Prop := closed S.length S = true
/-- f makes the value d and changes nothing -/
def Ev (f : Sm) (ρ : Env') (S : Store) (d : D) : Prop := f ρ S = .ok (.d d) S
section
variable {ρ : Env'} {S : Store} {f g h t : Sm} {gs : SmL} {d d1 d2 d3 r : D} {ds : List D}
theorem toT_ev {b : Bool} (h1 : Ev f ρ S (.bl b)) : toT f ρ S = .ok b S := by
  unfold toT
  rw [h1]
  rfl
theorem fin_ok (hS : Wf S) : fin ρ S.length (.ok (.d d) S) = .ok (.d d) S := by
  show (if closed S.length S = true then R.ok (W.d d) (S.take S.length) else .bad) = _
  rw [if_pos hS, List.take_length]
end
end EV
namespace EV
open PySem L2
inductive Ok {α : Type} : R α → (α → Store → Prop) → Prop where
  | mk {a : α} {S : Store} {Q : α → Store → Prop} (q : Q a S) : Ok (.ok a S) Q
/-- there is a value, and K of it -/
def VQ {α : Type} (o : Option α) (K : α → Prop) : Prop := ∃ a, o = some a ∧ K a
def VP {α β : Type} (o : Option (α × β)) (K : α → β → Prop) : Prop := ∃ a b, o = some (a, b) ∧ K a b
def AQ (P K : Prop) : Prop := P ∧ K
theorem aq {P K : Prop} (h : P) (k : K) : AQ P K := ⟨h, k⟩
def RQ1 (ws : List W) (K : Int → Prop) : Prop := ∃ j, ws = [.d (.int j)] ∧ (j ≤ 16777216 ∧ -16777216 ≤ j) ∧ K j
theorem rq1 {j : Int} {K : Int → Prop} (h : j ≤ 16777216 ∧ -16777216 ≤ j) (k : K j) : RQ1 [.d (.int j)] K := ⟨j, rfl, h, k⟩
def RQ2 (ws : List W) (K : Int → Int → Prop) : Prop := ∃ i j, ws = [.d (.int i), .d (.int j)] ∧ ((j ≤ 16777216 ∧ -16777216 ≤ j) ∧ (i ≤ 16777216 ∧ -16777216 ≤ i)) ∧ K i j
theorem rq2 {i j : Int} {K : Int → Int → Prop} (h : (j ≤ 16777216 ∧ -16777216 ≤ j) ∧ (i ≤ 16777216 ∧ -16777216 ≤ i)) (k : K i j) : RQ2 [.d (.int i), .d (.int j)] K := ⟨i, j, rfl, h, k⟩
def IQ (w : W) (K : Int → Prop) : Prop := ∃ j, w = .d (.int j) ∧ K j
theorem iq {j : Int} {K : Int → Prop} (k : K j) : IQ (.d (.int j)) K := ⟨j, rfl, k⟩
theorem vq {α : Type} {o : Option α} {K : α → Prop} {a : α} (h : o = some a) (k : K a) : VQ o K := ⟨a, h, k⟩
/-- by a bool -/
def CQ (c : Bool) (A B : Prop) : Prop := (c = true → A) ∧ (c = false → B)
theorem cq_t {c : Bool} {A B : Prop} (h : c = true) (a : A) : CQ c A B := ⟨fun _ => a, fun z => absurd (h.symm.trans z) (by decide)⟩
theorem cq_f {c : Bool} {A B : Prop} (h : c = false) (b : B) : CQ c A B := ⟨fun z => absurd (h.symm.trans z) (by decide), fun _ => b⟩
def TQ (w : W) (K : Bool → Prop) : Prop := ∃ c, w = .d (.bl c) ∧ K c
theorem tq {c : Bool} {K : Bool → Prop} (k : K c) : TQ (.d (.bl c)) K := ⟨c, rfl, k⟩
section
variable {α β : Type} {ρ : Env'} {S : Store}
theorem Ok.mono {r : R α} {Q Q' : α → Store → Prop} (h : Ok r Q) (k : ∀ a S, Q a S → Q' a S) : Ok r Q' := by
  cases h with
  | mk q => exact .mk (k _ _ q)
theorem ok_bind {r : R α} {k : α → Store → R β} {Q : β → Store → Prop} (h : Ok r fun a S => Ok (k a S) Q) : Ok (r.bind k) Q := by
  cases h with
  | mk q => exact q
theorem ok_bindN {r : R α} {k : α → Store → R β} {Q : β → Store → Prop} (h : Ok r fun a S => Ok (k a S) Q) : Ok (r.bindN k) Q := by
  cases h with
  | mk q => exact q
theorem Ok.get {r : R α} {Q : α → Store → Prop} (h : Ok r Q) : ∃ a S, r = .ok a S ∧ Q a S := by
  cases h with
  | mk q => exact ⟨_, _, rfl, q⟩
theorem ok_of {r : R α} {a : α} {Q : α → Store → Prop} (h : r = .ok a S) (q : Q a S) : Ok r Q := by
  rw [h]
  exact .mk q
def VW (o : Option (Option W)) (K : W → Prop) : Prop := ∃ w, o = some (some w) ∧ K w
theorem vw_get {o : Option (Option W)} {K : W → Prop} {w : W} (h : o = some (some w)) (k : K w) : VW o K := ⟨w, h, k⟩
theorem ok_var {i : Nat} {Q : W → Store → Prop} (h : VW (ρ[i]?) fun w => Q w S) : Ok (cVar i ρ S) Q := by
  obtain ⟨w, h, q⟩ := h
  unfold cVar
  rw [h]
  exact .mk q
theorem ok_cst {d : D} {Q : W → Store → Prop} (q : Q (.d d) S) : Ok (cCst d ρ S) Q := .mk q
theorem ok_true {Q : W → Store → Prop} (q : Q (.d (.bl true)) S) : Ok (cTrue ρ S) Q := .mk q
theorem ok_nil {Q : List W → Store → Prop} (q : Q [] S) : Ok (cNil ρ S) Q := .mk q
theorem ok_cons {f : Sm} {g : SmL} {Q : List W → Store → Prop} (h : Ok (f ρ S) fun w S1 => Ok (g ρ S1) fun ws S2 => Q (w :: ws) S2) : Ok (cCons f g ρ S) Q := ok_bind (h.mono fun w S1 h => ok_bind (h.mono fun _ _ q => .mk q))
theorem ok_op2 {o : D → D → Option D} {f g : Sm} {Q : W → Store → Prop} (h : Ok (f ρ S) fun v S1 => Ok (g ρ S1) fun w S2 => VQ (view S2 v) fun x => VQ (view S2 w) fun y => VQ (o x y) fun z => Q (.d z) S2) : Ok (cOp2 o f g ρ S) Q :=
  ok_bind (h.mono fun v S1 h => ok_bind (h.mono fun w S2 h => by
    obtain ⟨x, h1, y, h2, z, h3, q⟩ := h
    rw [h1, h2]
    dsimp only
    rw [h3]
    exact .mk q))
theorem ok_bi {o : List D → Option D} {g : SmL} {Q : W → Store → Prop} (h : Ok (g ρ S) fun ws S1 => VQ (views S1 ws) fun ds => VQ (o ds) fun z => Q (.d z) S1) : Ok (cBi o g ρ S) Q :=
  ok_bind (h.mono fun ws S1 h => by
    obtain ⟨ds, h1, z, h2, q⟩ := h
    rw [h1]
    dsimp only
    rw [h2]
    exact .mk q)
theorem ok_biL {o : List D → Option (List D)} {g : SmL} {Q : W → Store → Prop} (h : Ok (g ρ S) fun ws S1 => VQ (views S1 ws) fun ds => VQ (o ds) fun zs => Q (.d (.lst zs)) S1) : Ok (cBiL false o g ρ S) Q :=
  ok_bind (h.mono fun ws S1 h => by
    obtain ⟨ds, h1, z, h2, q⟩ := h
    rw [h1]
    dsimp only
    rw [h2]
    exact .mk q)
theorem ok_is {o : D → Option Bool} {f : Sm} {Q : W → Store → Prop} (h : Ok (f ρ S) fun w S1 => VQ (view S1 w) fun x => VQ (o x) fun b => Q (.d (.bl b)) S1) : Ok (cIs o f ρ S) Q :=
  ok_bind (h.mono fun ws S1 h => by
    obtain ⟨ds, h1, z, h2, q⟩ := h
    rw [h1]
    dsimp only
    rw [h2]
    exact .mk q)
theorem ok_tup {g : SmL} {Q : W → Store → Prop} (h : Ok (g ρ S) fun ws S1 => VP (frzL S1 ws) fun xs S2 => AQ (xs.length ≤ 16777216) (Q (.d (.tup xs)) S2)) : Ok (cTup g ρ S) Q :=
  ok_bind (h.mono fun ws S1 h => by
    obtain ⟨xs, S2, h1, h2, q⟩ := h
    rw [h1]
    dsimp only
    rw [if_pos h2]
    exact .mk q)
theorem ok_lst {g : SmL} {Q : W → Store → Prop} (h : Ok (g ρ S) fun ws S1 => VP (frzL S1 ws) fun xs S2 => AQ (xs.length ≤ 16777216) (Q (.d (.lst xs)) S2)) : Ok (cLst false g ρ S) Q :=
  ok_bind (h.mono fun ws S1 h => by
    obtain ⟨xs, S2, h1, h2, q⟩ := h
    rw [h1]
    dsimp only
    rw [if_pos h2]
    exact .mk q)
theorem ok_lstT {g : SmL} {Q : W → Store → Prop} (h : Ok (g ρ S) fun ws S1 => VP (frzL S1 ws) fun xs S2 => AQ (xs.length ≤ 16777216) (Q (.c S2.length) (S2 ++ [.lst true xs]))) : Ok (cLst true g ρ S) Q :=
  ok_bind (h.mono fun ws S1 h => by
    obtain ⟨xs, S2, h1, h2, q⟩ := h
    rw [h1]
    dsimp only
    rw [if_pos h2]
    exact .mk q)
theorem ok_toT {f : Sm} {Q : Bool → Store → Prop} (h : Ok (f ρ S) fun w S1 => TQ w fun b => Q b S1) : Ok (toT f ρ S) Q :=
  ok_bind (h.mono fun w S1 h => by
    obtain ⟨b, rfl, q⟩ := h
    exact .mk q)
theorem cq_if {c : Bool} {r r' : R α} {Q : α → Store → Prop} (h : CQ c (Ok r Q) (Ok r' Q)) : Ok (if c = true then r else r') Q := by
  cases c with
  | true => exact h.1 rfl
  | false => exact h.2 rfl
theorem ok_if {t : Sm} {a b : SmS} {Q : F → Store → Prop} (h : Ok (t ρ S) fun w S1 => TQ w fun c => CQ c (Ok (a ρ S1) Q) (Ok (b ρ S1) Q)) : Ok (sIf t a b ρ S) Q :=
  ok_bind (ok_toT (h.mono fun w S1 h => by
    obtain ⟨c, rfl, h⟩ := h
    exact ⟨c, rfl, cq_if h⟩))
theorem ok_ife {t a b : Sm} {Q : W → Store → Prop} (h : Ok (t ρ S) fun w S1 => TQ w fun c => CQ c (Ok (a ρ S1) Q) (Ok (b ρ S1) Q)) : Ok (cIf t a b ρ S) Q :=
  ok_bind (ok_toT (h.mono fun w S1 h => by
    obtain ⟨c, rfl, h⟩ := h
    exact ⟨c, rfl, cq_if h⟩))
theorem ok_not {t : Sm} {Q : W → Store → Prop} (h : Ok (t ρ S) fun w S1 => TQ w fun c => Q (.d (.bl (!c))) S1) : Ok (cNot t ρ S) Q := ok_bind (ok_toT (h.mono fun w S1 h => by
    obtain ⟨c, e, q⟩ := h
    exact ⟨c, e, .mk q⟩))
theorem ok_and {f g : Sm} {Q : W → Store → Prop} (h : Ok (f ρ S) fun w S1 => TQ w fun c => CQ c (Ok (g ρ S1) Q) (Q (.d (.bl false)) S1)) : Ok (cAnd f g ρ S) Q :=
  ok_bind (ok_toT (h.mono fun w S1 h => by
    obtain ⟨c, rfl, h⟩ := h
    exact ⟨c, rfl, cq_if ⟨h.1, fun e => .mk (h.2 e)⟩⟩))
theorem ok_or {f g : Sm} {Q : W → Store → Prop} (h : Ok (f ρ S) fun w S1 => TQ w fun c => CQ c (Q (.d (.bl true)) S1) (Ok (g ρ S1) Q)) : Ok (cOr f g ρ S) Q :=
  ok_bind (ok_toT (h.mono fun w S1 h => by
    obtain ⟨c, rfl, h⟩ := h
    exact ⟨c, rfl, cq_if ⟨fun e => .mk (h.1 e), h.2⟩⟩))
theorem ok_chn {o o' : D → D → Option D} {f g h : Sm} {Q : W → Store → Prop} (hh : Ok (f ρ S) fun v S1 => Ok (g ρ S1) fun w S2 => VQ (view S2 v) fun x => VQ (view S2 w) fun y => VQ (o x y) fun z => TQ (.d z) fun c =>
    CQ c (Ok (h ρ S2) fun u S3 => VQ (view S3 w) fun y' => VQ (view S3 u) fun z => VQ (o' y' z) fun r => Q (.d r) S3) (Q (.d (.bl false)) S2)) : Ok (cChn o o' f g h ρ S) Q :=
  ok_bind (hh.mono fun v S1 h => ok_bind (h.mono fun w S2 h => by
    obtain ⟨x, h1, y, h2, z, h3, c, h4, h⟩ := h
    cases h4
    rw [h1, h2]
    dsimp only
    rw [h3]
    cases c with
    | false => exact .mk (h.2 rfl)
    | true =>
      refine ok_bind ((h.1 rfl).mono fun u S3 h => ?_)
      obtain ⟨y', h1, z, h2, r, h3, q⟩ := h
      rw [h1, h2]
      dsimp only
      rw [h3]
      exact .mk q))
theorem ok_neg {f : Sm} {Q : W → Store → Prop} (h : Ok (f ρ S) fun w S1 => IQ w fun i => Q (.d (.int (-i))) S1) : Ok (cNeg f ρ S) Q :=
  ok_bind (h.mono fun w S1 h => by
    obtain ⟨i, rfl, q⟩ := h
    exact .mk q)
def SQ (b : SmS) (Q : F → Store → Prop) (r : F) (S : Store) : Prop := match r with
  | .nx ρ1 => Ok (b ρ1 S) Q
  | r => Q r S
theorem sq_nx {b : SmS} {Q : F → Store → Prop} {ρ1 : Env'} (h : Ok (b ρ1 S) Q) : SQ b Q (.nx ρ1) S := h
theorem sq_rt {b : SmS} {Q : F → Store → Prop} {w : W} (h : Q (.rt w) S) : SQ b Q (.rt w) S := h
theorem ok_seq {a b : SmS} {Q : F → Store → Prop} (h : Ok (a ρ S) (SQ b Q)) : Ok (sSeq a b ρ S) Q :=
  ok_bind (h.mono fun r S1 h => by
    cases r with
    | nx _ => exact h
    | _ => exact .mk h)
theorem ok_set {i : Nat} {f : Sm} {Q : F → Store → Prop} (h : Ok (f ρ S) fun w S1 => Q (.nx (ρ.set i (some w))) S1) : Ok (sSet i f ρ S) Q := ok_bind (h.mono fun _ _ q => .mk q)
theorem ok_drop {f : Sm} {Q : F → Store → Prop} (h : Ok (f ρ S) fun w S1 => Q (.nx ρ) S1) : Ok (sDrop f ρ S) Q := ok_bind (h.mono fun _ _ q => .mk q)
theorem ok_snil {Q : F → Store → Prop} (q : Q (.nx ρ) S) : Ok (sNil ρ S) Q := .mk q
theorem ok_ret {f : Sm} {Q : F → Store → Prop} (h : Ok (f ρ S) fun w S1 => VP (frz S1 w) fun x S2 => Q (.rt (.d x)) S2) : Ok (sRet true f ρ S) Q :=
  ok_bind (h.mono fun w S1 h => by
    obtain ⟨x, S2, h1, q⟩ := h
    rw [if_pos rfl, h1]
    exact .mk q)
theorem ok_retW {f : Sm} {Q : F → Store → Prop} (h : Ok (f ρ S) fun w S1 => Q (.rt w) S1) : Ok (sRet false f ρ S) Q := ok_bind (h.mono fun _ _ q => .mk q)
theorem ok_asg {t : Tg} {f : Sm} {Q : F → Store → Prop} (h : Ok (f ρ S) fun w S1 => VP (frz S1 w) fun d S2 => VQ (t.put d ρ) fun ρ' => Q (.nx ρ') S2) : Ok (sAsg t f ρ S) Q :=
  ok_bind (h.mono fun w S1 h => by
    obtain ⟨d, S2, h1, ρ', h2, q⟩ := h
    rw [h1]
    dsimp only
    rw [h2]
    exact .mk q)
/-- the cell behind w is a list that may change, K of its items -/
def LQ (S : Store) (w : W) (K : Nat → List D → Prop) : Prop := ∃ k xs, w = .c k ∧ S[k]? = some (.lst true xs) ∧ K k xs
theorem ok_setIx {f o i : Sm} {Q : F → Store → Prop} (h : Ok (f ρ S) fun w S1 => Ok (o ρ S1) fun a S2 => Ok (i ρ S2) fun j S3 => VP (frz S3 w) fun d S4 => LQ S4 a fun k xs => IQ j fun n => VQ (ixN xs.length n) fun t => Q (.nx ρ) (S4.set k (.lst true (xs.set t d)))) : Ok (sSetIx f o i ρ S) Q :=
  ok_bind (h.mono fun w S1 h => ok_bind (h.mono fun a S2 h => ok_bind (h.mono fun j S3 h => by
    obtain ⟨d, S4, h1, k, xs, rfl, h2, n, rfl, t, h3, q⟩ := h
    rw [h1]
    dsimp only
    rw [h2]
    dsimp only
    rw [h3]
    exact .mk q)))
theorem ok_lm {h : LM} {o : Sm} {g : SmL} {Q : W → Store → Prop} (hh : Ok (o ρ S) fun w S1 => LQ S1 w fun _ _ => Ok (g ρ S1) fun ws S2 => VP (frzL S2 ws) fun ds S3 => LQ S3 w fun k xs => VP (h xs ds) fun ys z => Q (.d z) (S3.set k (.lst true ys))) : Ok (cLm h o g ρ S) Q :=
  ok_bind (hh.mono fun w S1 hh => by
    obtain ⟨k, xs0, rfl, h0, hh⟩ := hh
    dsimp only
    rw [h0]
    refine ok_bind (hh.mono fun ws S2 hh => ?_)
    obtain ⟨ds, S3, h1, k', xs, e, h2, ys, z, h3, q⟩ := hh
    cases e
    rw [h1]
    dsimp only
    rw [h2]
    dsimp only
    rw [h3]
    exact .mk q)
/-- the turns of a for: I at each turn -/
def FQ (I : Env' → Store → Prop) (Q : F → Store → Prop) (r : F) (S : Store) : Prop := match r with
  | .nx ρ => I ρ S
  | .ct ρ => I ρ S
  | .bk ρ => Q (.nx ρ) S
  | .rt w => Q (.rt w) S
theorem fq_nx {I : Env' → Store → Prop} {Q : F → Store → Prop} (h : I ρ S) : FQ I Q (.nx ρ) S := h
theorem fq_rt {I : Env' → Store → Prop} {Q : F → Store → Prop} {w : W} (h : Q (.rt w) S) : FQ I Q (.rt w) S := h
/-- a for over a list: I of what is done -/
theorem ok_forL {t : Tg} {b : SmS} {Q : F → Store → Prop} (I : List D → Env' → Store → Prop) : ∀ {ds done : List D} {ρ : Env'} {S : Store}, I done ρ S →
    (∀ pre d post ρ S, ds = pre ++ d :: post → I (done ++ pre) ρ S → VQ (t.put d ρ) fun ρ1 => Ok (b ρ1 S) (FQ (I (done ++ pre ++ [d])) Q)) → (∀ ρ S, I (done ++ ds) ρ S → Q (.nx ρ) S) → Ok (forL t b ds ρ S) Q
  | [], done, ρ, S, h0, _, hd => Ok.mk (hd ρ S (by rw [List.append_nil]; exact h0))
  | d :: ds, done, ρ, S, h0, hs, hd => by
    obtain ⟨ρ1, h1, h2⟩ := hs [] d ds ρ S rfl (by rw [List.append_nil]; exact h0)
    rw [List.append_nil] at h2
    have next : ∀ ρ2 S1, I (done ++ [d]) ρ2 S1 → Ok (forL t b ds ρ2 S1) Q := fun ρ2 S1 hI => ok_forL I hI (fun pre x post ρ S hj hI => by
      have e : done ++ [d] ++ pre = done ++ (d :: pre) := by simp
      rw [e] at hI ⊢
      exact hs (d :: pre) x post ρ S (by rw [hj]; rfl) hI) fun ρ S hI => hd ρ S (by
        rw [List.append_assoc] at hI
        exact hI)
    unfold forL
    rw [h1]
    refine ok_bind (h2.mono fun r S1 h => ?_)
    cases r with
    | nx ρ2 => exact next ρ2 S1 h
    | ct ρ2 => exact next ρ2 S1 h
    | bk ρ2 => exact .mk h
    | rt w => exact .mk h
theorem ok_for {t : Tg} {i : SmI} {b : SmS} {Q : F → Store → Prop} (h : Ok (i ρ S) fun ds S1 => Ok (forL t b ds ρ S1) Q) : Ok (sFor t i b ρ S) Q := ok_bind h
theorem ok_iter {f : Sm} {Q : List D → Store → Prop} (h : Ok (f ρ S) fun w S1 => VP (frz S1 w) fun d S2 => VQ (items d) fun xs => Q xs S2) : Ok (cIter f ρ S) Q :=
  ok_bind (h.mono fun w S1 h => by
    obtain ⟨d, S2, h1, xs, h2, q⟩ := h
    rw [h1]
    dsimp only
    rw [h2]
    exact .mk q)
theorem ok_range1 {g : SmL} {Q : List D → Store → Prop} (h : Ok (g ρ S) fun ws S1 => RQ1 ws fun j => Q (upto 0 j.toNat) S1) : Ok (cRange1 g ρ S) Q :=
  ok_bind (h.mono fun w S1 h => by
    obtain ⟨j, rfl, h1, q⟩ := h
    dsimp only
    rw [if_pos h1]
    exact .mk q)
theorem ok_range2 {g : SmL} {Q : List D → Store → Prop} (h : Ok (g ρ S) fun ws S1 => RQ2 ws fun i j => Q (upto i (j - i).toNat) S1) : Ok (cRange2 g ρ S) Q :=
  ok_bind (h.mono fun w S1 h => by
    obtain ⟨i, j, rfl, h1, q⟩ := h
    dsimp only
    rw [if_pos h1]
    exact .mk q)
theorem ok_rgA {f : Sm} {Q : W → Store → Prop} (h : Ok (f ρ S) fun w S1 => IQ w fun n => AQ (-16777216 ≤ n ∧ n ≤ 16777216) (Q (.d (.lst (upto 0 n.toNat))) S1)) : Ok (cRgA false false f ρ S) Q :=
  ok_bind (h.mono fun w S1 h => by
    obtain ⟨n, rfl, h1, q⟩ := h
    show Ok (rgE false false 0 n S1) Q
    unfold rgE
    rw [if_pos (by
      unfold rgOk
      simp only [Bool.and_eq_true, decide_eq_true_eq]
      omega), if_neg (by decide), show (n - 0) = n by omega]
    exact .mk q)
theorem ok_call {np : Nat} {Φ : Fn} {g : SmL} {Q : W → Store → Prop} (h : Ok (g ρ S) fun ws S1 => AQ (ws.length = np) (Ok (fin ρ S1.length (Φ ws S1)) Q)) : Ok (cCall np Φ g ρ S) Q :=
  ok_bind (h.mono fun ws S1 h => by
    rw [if_pos h.1]
    exact h.2)
/-- a comprehension whose turns draw: I of the store, P of each item made -/
theorem lcL_dr {t : Tg} {f : Sm} {I : Store → Prop} {P : D → Prop} : ∀ {ds acc : List D} {S : Store}, I S → (∀ x ∈ acc, P x) → (∀ d ∈ ds, ∀ S, I S → VQ (t.put d ρ) fun ρ1 => Ok (f ρ1 S) fun w S' => I S' ∧ ∃ x, w = .d x ∧ P x) → Ok (lcL t cTrue f ρ ds acc S) fun xs S' => I S' ∧ xs.length = acc.length + ds.length ∧ ∀ x ∈ xs, P x
  | [], acc, S, hI, ha, _ => ⟨hI, rfl, ha⟩
  | d :: ds, acc, S, hI, ha, k => by
    obtain ⟨ρ1, h1, h2⟩ := k d (List.mem_cons_self ..) S hI
    unfold lcL
    rw [h1]
    show Ok ((f ρ1 S).bindN _) _
    refine ok_bindN (h2.mono fun w S' h => ?_)
    obtain ⟨hI', x, rfl, hx⟩ := h
    show Ok (lcL t cTrue f ρ ds (acc ++ [x]) S') _
    refine (lcL_dr hI' (fun y hy => (List.mem_append.mp hy).elim (ha y) fun z => by rw [List.mem_singleton.mp z]; exact hx) fun d hd => k d (List.mem_cons_of_mem _ hd)).mono fun xs S2 h => ⟨h.1, ?_, h.2.2⟩
    rw [h.2.1, List.length_append, List.length_cons, List.length_cons, List.length_nil]
    omega
theorem ok_lcD {own : List Nat} {t : Tg} {i : SmI} {f : Sm} {Q : W → Store → Prop} (I : Store → Prop) (P : D → Prop) (h : Ok (i ρ S) fun ds S1 => ds.length ≤ 16777216 ∧ I S1 ∧ (∀ d ∈ ds, ∀ S, I S → VQ (t.put d (wipeE ρ own)) fun ρ1 => Ok (f ρ1 S) fun w S' => I S' ∧ ∃ x, w = .d x ∧ P x) ∧
    ∀ xs S', I S' → xs.length = ds.length → (∀ x ∈ xs, P x) → Q (.d (.lst xs)) S') : Ok (cLc false own t i cTrue f ρ S) Q :=
  ok_bind (h.mono fun ds S1 h => by
    obtain ⟨h1, h2, h3, q⟩ := h
    rw [if_pos h1]
    refine ok_bindN ((lcL_dr h2 (fun _ z => (nomatch z)) h3).mono fun xs S' h => ?_)
    exact .mk (q xs S' h.1 (by simpa using h.2.1) h.2.2))
end
section
variable {S : Store} {x : D} {w : W} {ws : List W}
theorem vw_d {K : D → Prop} (q : K x) : VQ (view S (.d x)) K := ⟨x, rfl, q⟩
theorem view_c {S : Store} {k : Nat} {m : Bool} {xs : List D} (h : S[k]? = some (.lst m xs)) : view S (.c k) = some (.lst xs) := by
  unfold view
  dsimp only
  rw [h]
theorem frz_c {S : Store} {k : Nat} {m : Bool} {xs : List D} (h : S[k]? = some (.lst m xs)) : frz S (.c k) = some (.lst xs, S.set k (.lst false xs)) := by
  unfold frz
  dsimp only
  rw [h]
theorem vw_c {k : Nat} {m : Bool} {xs : List D} {K : D → Prop} (h : S[k]? = some (.lst m xs)) (q : K (.lst xs)) : VQ (view S (.c k)) K := ⟨_, view_c h, q⟩
def LV (o : Option Cell) (K : List D → Prop) : Prop := ∃ m xs, o = some (.lst m xs) ∧ K xs
theorem lv_get {o : Option Cell} {K : List D → Prop} {m : Bool} {xs : List D} (h : o = some (.lst m xs)) (k : K xs) : LV o K := ⟨m, xs, h, k⟩
theorem vw_l {k : Nat} {K : D → Prop} (h : LV (S[k]?) fun xs => K (.lst xs)) : VQ (view S (.c k)) K := by
  obtain ⟨m, xs, h, q⟩ := h
  exact vw_c h q
theorem fz_l {k : Nat} {K : D → Store → Prop} (h : LV (S[k]?) fun xs => K (.lst xs) (S.set k (.lst false xs))) : VP (frz S (.c k)) K := by
  obtain ⟨m, xs, h, q⟩ := h
  exact ⟨_, _, frz_c h, q⟩
def LT (o : Option Cell) (K : List D → Prop) : Prop := ∃ xs, o = some (.lst true xs) ∧ K xs
theorem lt_get {o : Option Cell} {K : List D → Prop} {xs : List D} (h : o = some (.lst true xs)) (k : K xs) : LT o K := ⟨xs, h, k⟩
theorem lq_l {k : Nat} {K : Nat → List D → Prop} (h : LT (S[k]?) (K k)) : LQ S (.c k) K := by
  obtain ⟨xs, h, q⟩ := h
  exact ⟨k, xs, rfl, h, q⟩
theorem vws_n {K : List D → Prop} (q : K []) : VQ (views S []) K := ⟨_, rfl, q⟩
theorem vws_c {K : List D → Prop} (q : VQ (view S w) fun x => VQ (views S ws) fun xs => K (x :: xs)) : VQ (views S (w :: ws)) K := by
  obtain ⟨x, h1, xs, h2, q⟩ := q
  refine ⟨_, ?_, q⟩
  show (match view S w, views S ws with
    | some x, some xs => some (x :: xs)
    | _, _ => none) = _
  rw [h1, h2]
theorem fz_d {K : D → Store → Prop} (q : K x S) : VP (frz S (.d x)) K := ⟨_, _, rfl, q⟩
theorem fz_c {k : Nat} {m : Bool} {xs : List D} {K : D → Store → Prop} (h : S[k]? = some (.lst m xs)) (q : K (.lst xs) (S.set k (.lst false xs))) : VP (frz S (.c k)) K := ⟨_, _, frz_c h, q⟩
theorem fzl_n {K : List D → Store → Prop} (q : K [] S) : VP (frzL S []) K := ⟨_, _, rfl, q⟩
theorem fzl_c {K : List D → Store → Prop} (q : VP (frz S w) fun x S1 => VP (frzL S1 ws) fun xs S2 => K (x :: xs) S2) : VP (frzL S (w :: ws)) K := by
  obtain ⟨x, S1, h1, xs, S2, h2, q⟩ := q
  refine ⟨_, _, ?_, q⟩
  show (match frz S w with
    | none => none
    | some (x, S1) => match frzL S1 ws with
      | none => none
      | some (xs, S2) => some (x :: xs, S2)) = _
  rw [h1]
  dsimp only
  rw [h2]
/-- the last cell -/
theorem get_top {c : Cell} : (S ++ [c])[S.length]? = some c := by simp
theorem set_top {c c' : Cell} : (S ++ [c]).set S.length c' = S ++ [c'] := by simp
theorem get_old {c : Cell} {k : Nat} {T : Store} (h : S[k]? = some c) : (S ++ T)[k]? = some c := by
  rw [List.getElem?_append_left (List.getElem?_eq_some_iff.mp h).1]
  exact h
theorem o_ltI {i j : Int} : (orO (oI0 fun i j => .bl (decide (i < j))) oLt) (.int i) (.int j) = some (.bl (decide (i < j))) := rfl
theorem o_leI {i j : Int} : oLe (.int i) (.int j) = some (.bl (decide (i ≤ j))) := rfl
theorem o_gtI {i j : Int} : oGt (.int i) (.int j) = some (.bl (decide (j < i))) := rfl
theorem o_geI {i j : Int} : oGe (.int i) (.int j) = some (.bl (decide (j ≤ i))) := rfl
theorem o_eqI {i j : Int} : oEq (.int i) (.int j) = some (.bl (decide (i = j))) := by
  show some (D.bl (i == j)) = _
  by_cases h : i = j <;> simp [h]
theorem o_neI {i j : Int} : oNe (.int i) (.int j) = some (.bl (decide (i ≠ j))) := by
  show some (D.bl (!(i == j))) = _
  by_cases h : i = j <;> simp [h]
theorem f_lenL {xs : List D} : fLen [.lst xs] = some (.int xs.length) := rfl
theorem f_lenT {xs : List D} : fLen [.tup xs] = some (.int xs.length) := rfl
theorem f_intI {i : Int} : fInt [.int i] = some (.int i) := rfl
theorem f_intB {b : Bool} : fInt [.bl b] = some (.int (if b then 1 else 0)) := rfl
theorem f_tupL {xs : List D} : fTuple [.lst xs] = some (.tup xs) := rfl
theorem f_tupT {xs : List D} : fTuple [.tup xs] = some (.tup xs) := rfl
theorem f_lstL {xs : List D} : fList [.lst xs] = some xs := rfl
theorem f_lstT {xs : List D} : fList [.tup xs] = some xs := rfl
theorem f_min {i j : Int} : fMin2 [.int i, .int j] = some (.int (if j < i then j else i)) := rfl
theorem f_max {i j : Int} : fMax2 [.int i, .int j] = some (.int (if j > i then j else i)) := rfl
theorem it_l {xs : List D} : items (.lst xs) = some xs := rfl
theorem it_t {xs : List D} : items (.tup xs) = some xs := rfl
theorem put_one {i : Nat} {d : D} {ρ : Env'} : (Tg.one i).put d ρ = some (ρ.set i (some (.d d))) := rfl
theorem o_addI {i j : Int} : oAdd (.int i) (.int j) = some (.int (i + j)) := rfl
theorem o_subI {i j : Int} : oSub (.int i) (.int j) = some (.int (i - j)) := rfl
theorem o_addT {xs ys : List D} (h : xs.length + ys.length ≤ 16777216) : oAdd (.tup xs) (.tup ys) = some (.tup (xs ++ ys)) := by
  show orO oCatT _ _ _ = _
  unfold orO oCatT
  dsimp only
  rw [if_pos h]
theorem o_addL {xs ys : List D} (h : xs.length + ys.length ≤ 16777216) : oAdd (.lst xs) (.lst ys) = some (.lst (xs ++ ys)) := by
  show orO oCatL _ _ _ = _
  unfold orO oCatL
  dsimp only
  rw [if_pos h]
theorem o_mod {i j : Int} (h : j ≠ 0) : oMod (.int i) (.int j) = some (.int (i.fmod j)) := by
  unfold oMod oI
  dsimp only
  rw [if_pos (decide_eq_true h)]
theorem o_div {i j : Int} (h : j ≠ 0) (h2 : j.natAbs < 1073741824) : oDiv (.int i) (.int j) = some (.int (i.fdiv j)) := by
  unfold oDiv oI cDivB
  dsimp only
  rw [if_pos (by rw [decide_eq_true h, decide_eq_true h2]; rfl)]
theorem o_mul {i j : Int} (h : j.natAbs < 18446744073709551616) : oMul (.int i) (.int j) = some (.int (i * j)) := by
  unfold oMul oI cMulB
  dsimp only
  rw [if_pos (by rw [decide_eq_true h]; simp)]
theorem o_ixL {xs : List D} {i : Int} {k : Nat} {x : D} (hi : i = k) (h : xs[k]? = some x) : oIx (.lst xs) (.int i) = some x := by
  have hl : k < xs.length := (List.getElem?_eq_some_iff.mp h).1
  subst hi
  show (ixN xs.length (k : Int)).bind (fun j => xs[j]?) = _
  have e : ixN xs.length (k : Int) = some k := by
    unfold ixN
    split
    · simp; omega
    · omega
  rw [e]
  exact h
theorem o_ixT {xs : List D} {i : Int} {k : Nat} {x : D} (hi : i = k) (h : xs[k]? = some x) : oIx (.tup xs) (.int i) = some x := o_ixL hi h
end
/-- all that a cell refers to is there -/
def AllL (S : Store) : Prop := closed S.length S = true
theorem below_mono {m n : Nat} (l : m ≤ n) : ∀ {c : Cell}, Cell.below m c = true → Cell.below n c = true
  | .lst _ _, _ => rfl
  | .dK _ _, _ => rfl
  | .dT _ _, _ => rfl
  | .obj c fs, h => by
    unfold Cell.below at h ⊢
    dsimp only at h ⊢
    refine List.all_eq_true.mpr fun p hp => ?_
    have z := List.all_eq_true.mp h p hp
    split at z
    · have := of_decide_eq_true z
      exact decide_eq_true (by omega)
    · rfl
theorem AllL.cell {S : Store} (h : AllL S) {c : Cell} (hc : c ∈ S) : Cell.below S.length c = true := by
  unfold AllL EV.closed at h
  rw [List.take_length] at h
  exact List.all_eq_true.mp h c hc
theorem allL_of {S : Store} (h : ∀ c ∈ S, Cell.below S.length c = true) : AllL S := by
  unfold AllL EV.closed
  rw [List.take_length]
  exact List.all_eq_true.mpr h
theorem AllL.wf {S : Store} (h : AllL S) : Wf S := h
theorem AllL.set {S : Store} (h : AllL S) (k : Nat) {m : Bool} {xs : List D} : AllL (S.set k (.lst m xs)) := allL_of fun c hc => by
  rw [List.length_set]
  rcases List.mem_or_eq_of_mem_set hc with z | z
  · exact h.cell z
  · rw [z]
    rfl
theorem AllL.app {S S' : Store} (h : AllL S) (h' : AllL S') : AllL (S ++ S') := allL_of fun c hc => by
  rw [List.length_append]
  exact (List.mem_append.mp hc).elim (fun z => below_mono (by omega) (h.cell z)) fun z => below_mono (by omega) (h'.cell z)
theorem AllL.nil : AllL [] := rfl
theorem AllL.one {m : Bool} {xs : List D} : AllL [.lst m xs] := rfl
theorem AllL.push {S : Store} (h : AllL S) {m : Bool} {xs : List D} : AllL (S ++ [.lst m xs]) := h.app .one
theorem AllL.closedApp {S T : Store} (h : AllL S) : closed S.length (S ++ T) = true := by
  unfold EV.closed
  rw [List.take_left' rfl]
  unfold AllL EV.closed at h
  rwa [List.take_length] at h
/-- a call that gives a value: what it makes, behind it -/
theorem fin_d {ρ : Env'} {S' : Store} {n : Nat} {d : D} {Q : W → Store → Prop} (h : closed n S' = true) (q : Q (.d d) (S'.take n)) : Ok (fin ρ n (.ok (.d d) S')) Q := by
  show Ok (if closed n S' = true then R.ok (W.d d) (S'.take n) else .bad) Q
  rw [if_pos h]
  exact .mk q
theorem fin_c {ρ : Env'} {S' : Store} {n k : Nat} {xs : List D} {Q : W → Store → Prop} (h : closed n S' = true) (hk : n ≤ k) (hc : S'[k]? = some (.lst true xs)) (q : Q (.c n) (S'.take n ++ [.lst true xs])) : Ok (fin ρ n (.ok (.c k) S')) Q := by
  show Ok (if closed n S' = true then (if k < n then R.ok (W.c k) (S'.take n) else match S'[k]? with
    | some (.lst true xs) => .ok (.c n) (S'.take n ++ [.lst true xs])
    | _ => .bad) else .bad) Q
  rw [if_pos h, if_neg (by omega), hc]
  exact .mk q
def BQ (Q : W → Store → Prop) (r : F) (S : Store) : Prop := match r with
  | .rt w => Q w S
  | .nx _ => Q (.d .non) S
  | _ => False
theorem bq_rt {Q : W → Store → Prop} {w : W} {S : Store} (q : Q w S) : BQ Q (.rt w) S := q
theorem bq_nx {Q : W → Store → Prop} {ρ : Env'} {S : Store} (q : Q (.d .non) S) : BQ Q (.nx ρ) S := q
/-- a def's body -/
theorem ok_body {N : Nat} {b : SmS} {ws : List W} {S : Store} {Q : W → Store → Prop} (h : Ok (b (ws.map some ++ List.replicate (N - ws.length) none) S) (BQ Q)) : Ok (body0 N b ws S) Q := by
  unfold body0
  obtain ⟨r, S1, e, q⟩ := h.get
  rw [e]
  cases r with
  | rt w => exact .mk q
  | nx _ => exact .mk q
  | bk _ => exact False.elim q
  | ct _ => exact False.elim q
theorem ok_fin {ρ : Env'} {n : Nat} {r : R W} {Q Q' : W → Store → Prop} (h : Ok r Q') (k : ∀ w S, Q' w S → Ok (fin ρ n (.ok w S)) Q) : Ok (fin ρ n r) Q := by
  obtain ⟨w, S, e, q⟩ := h.get
  rw [e]
  exact k w S q
/-- a def that gives a value and leaves the cells as they were, when called at ws -/
def Pu (Φ : Fn) (ws : List W) (d : D) : Prop := ∀ S ρ, AllL S → fin ρ S.length (Φ ws S) = .ok (.d d) S
theorem Pu.ok {Φ : Fn} {ws : List W} {d : D} (h : Pu Φ ws d) {S : Store} {ρ : Env'} {Q : W → Store → Prop} (hS : AllL S) (q : Q (.d d) S) : Ok (fin ρ S.length (Φ ws S)) Q := ok_of (h S ρ hS) q
/-- from its body: what it makes lies behind the cells that were -/
theorem Pu.of {N : Nat} {b : SmS} {ws : List W} {d : D} (h : ∀ S, AllL S → Ok (b (ws.map some ++ List.replicate (N - ws.length) none) S) (BQ fun w S' => w = .d d ∧ ∃ T, AllL T ∧ S' = S ++ T)) : Pu (body0 N b) ws d := fun S ρ hS => by
  obtain ⟨w, S', e, rfl, T, hT, rfl⟩ := (ok_body (h S hS)).get
  rw [e]
  show (if closed S.length (S ++ T) = true then R.ok (W.d d) ((S ++ T).take S.length) else .bad) = _
  rw [if_pos hS.closedApp, List.take_left']
  rfl
theorem Pu.of0 {N : Nat} {b : SmS} {ws : List W} {d : D} (h : ∀ S, AllL S → Ok (b (ws.map some ++ List.replicate (N - ws.length) none) S) (BQ fun w S' => w = .d d ∧ S' = S)) : Pu (body0 N b) ws d := .of fun S hS => (h S hS).mono fun r S' q => by
  have z : ∀ w, (w = W.d d ∧ S' = S) → (w = W.d d ∧ ∃ T, AllL T ∧ S' = S ++ T) := fun w q => ⟨q.1, [], .nil, by rw [List.append_nil]; exact q.2⟩
  cases r with
  | rt w => exact z _ q
  | nx _ => exact z _ q
  | bk _ => exact q
  | ct _ => exact q
end EV
open Lean Parser.Tactic in
local macro_rules
  | `(tactic| fail $s:str) => do
    let mut al : Array (Lean.TSyntax `Lean.Parser.Tactic.tacticSeq) := #[]
    let cs := s.getString.toList
    if cs.contains 'A' then al := al.push (← `(tacticSeq| ((with_reducible refine $(Lean.mkIdent `ok_var) ?_); (refine $(Lean.mkIdent `vw_get) (by rfl) ?_))))
    for (c, n) in ([('B', `ok_seq), ('C', `ok_set), ('D', `ok_drop), ('E', `ok_if), ('F', `ok_ret), ('G', `ok_retW), ('H', `ok_op2), ('I', `ok_bi), ('J', `ok_biL), ('L', `ok_is), ('M', `ok_tup), ('N', `ok_lst), ('O', `ok_lstT), ('P', `ok_not), ('Q', `ok_and), ('R', `ok_or), ('S', `ok_ife), ('T', `ok_chn), ('U', `ok_cons), ('V', `ok_nil), ('W', `ok_cst), ('X', `ok_true), ('Y', `ok_neg), ('Z', `ok_call), ('a', `ok_for), ('b', `ok_iter), ('d', `ok_range1), ('e', `ok_range2), ('f', `ok_rgA), ('g', `ok_asg), ('h', `ok_setIx), ('i', `ok_lm), ('j', `ok_snil), ('l', `tq), ('m', `sq_nx), ('n', `sq_rt), ('q', `vw_d), ('r', `vws_n), ('s', `vws_c), ('t', `fz_d), ('u', `fzl_n), ('v', `fzl_c), ('w', `iq), ('x', `bq_rt), ('y', `bq_nx), ('z', `fq_nx), ('1', `fq_rt)] : List (Char × Lean.Name)) do
      if cs.contains c then al := al.push (← `(tacticSeq| with_reducible refine $(Lean.mkIdent n) ?_))
    for (c, n) in ([('2', `o_addI), ('3', `o_subI), ('4', `o_ltI), ('5', `o_leI), ('6', `o_gtI), ('7', `o_geI), ('8', `o_eqI), ('9', `o_neI), ('!', `f_lenL), ('#', `f_lenT), ('$', `f_intI), ('%', `f_intB), ('&', `f_tupL), ('(', `f_tupT), (')', `f_lstL), ('*', `f_lstT), ('+', `f_min), (',', `f_max), ('.', `it_l), (':', `it_t), (';', `put_one)] : List (Char × Lean.Name)) do
      if cs.contains c then al := al.push (← `(tacticSeq| with_reducible refine $(Lean.mkIdent `vq) $(Lean.mkIdent n) ?_))
    for (c, n, m) in ([('<', `vw_l, `lv_get), ('=', `lq_l, `lt_get), ('>', `fz_l, `lv_get)] : List (Char × Lean.Name × Lean.Name)) do
      if cs.contains c then al := al.push (← `(tacticSeq| with_reducible ((with_reducible refine $(Lean.mkIdent n) ?_); (refine $(Lean.mkIdent m) (by first | assumption | exact $(Lean.mkIdent `get_top)) ?_))))
    for (c, n) in ([('?', `aq), ('[', `rq1), (']', `rq2)] : List (Char × Lean.Name)) do
      if cs.contains c then al := al.push (← `(tacticSeq| with_reducible ((with_reducible refine $(Lean.mkIdent n) ?hv ?_); case hv => (first | rfl | assumption | (simp; done) | omega | (simp; omega)))))
    for (c, n) in ([('^', `o_addT), ('_', `o_addL), ('`', `o_mod), ('~', `o_mul)] : List (Char × Lean.Name)) do
      if cs.contains c then al := al.push (← `(tacticSeq| with_reducible ((with_reducible refine $(Lean.mkIdent `vq) ($(Lean.mkIdent n) ?hv) ?_); case hv => (first | assumption | decide | omega | (simp; done)))))
    if cs.contains '|' then al := al.push (← `(tacticSeq| with_reducible ((with_reducible refine $(Lean.mkIdent `vq) ($(Lean.mkIdent `o_div) ?hv ?hw) ?_); (case hv => (first | assumption | decide | omega)); (case hw => (first | decide | omega)))))
    if cs.contains 'À' then
      al := al.push (← `(tacticSeq| with_reducible refine $(Lean.mkIdent `cq_t) (c := true) rfl ?_))
      al := al.push (← `(tacticSeq| with_reducible refine $(Lean.mkIdent `cq_f) (c := false) rfl ?_))
      al := al.push (← `(tacticSeq| with_reducible ((with_reducible refine $(Lean.mkIdent `cq_t) ?hv ?_); case hv => assumption)))
      al := al.push (← `(tacticSeq| with_reducible ((with_reducible refine $(Lean.mkIdent `cq_f) ?hv ?_); case hv => assumption)))
    al := al.push (← `(tacticSeq| fail))
    if cs.contains 'Á' then `(tactic| (first $[| $al]*)) else `(tactic| (repeat' first $[| $al]*))
namespace EV
open PySem L2 Tx
def BoxAt (S : Store) (k : Nat) : Prop := ∃ a b : Int, S[k]? = some (.lst true [.int a, .int b])
theorem BoxAt.lt {S : Store} {k : Nat} (h : BoxAt S k) : k < S.length := by
  obtain ⟨a, b, h⟩ := h
  exact (List.getElem?_eq_some_iff.mp h).1
theorem BoxAt.app {S T : Store} {k : Nat} (h : BoxAt S k) : BoxAt (S ++ T) k := by
  obtain ⟨a, b, h⟩ := h
  exact ⟨a, b, get_old h⟩
/-- only the box has changed -/
structure BS (k : Nat) (S S' : Store) : Prop where
  all : AllL S'
  box : BoxAt S' k
  eq : ∃ c, S' = S.set k c
theorem BS.len {k : Nat} {S S' : Store} (h : BS k S S') : S'.length = S.length := by
  obtain ⟨c, e⟩ := h.eq
  rw [e, List.length_set]
theorem BS.refl {k : Nat} {S : Store} (h : AllL S) (b : BoxAt S k) : BS k S S := by
  obtain ⟨x, y, e⟩ := id b
  refine ⟨h, b, .lst true [.int x, .int y], ?_⟩
  · obtain ⟨hk, e⟩ := List.getElem?_eq_some_iff.mp e
    rw [← e, List.set_getElem_self]
theorem BS.trans {k : Nat} {S S1 S2 : Store} (h : BS k S S1) (h' : BS k S1 S2) : BS k S S2 := by
  obtain ⟨c, e⟩ := h.eq
  obtain ⟨c', e'⟩ := h'.eq
  exact ⟨h'.all, h'.box, c', by rw [e', e, List.set_set]⟩
theorem BS.other {k j : Nat} {S S' : Store} (h : BS k S S') (hj : j ≠ k) : S'[j]? = S[j]? := by
  obtain ⟨c, e⟩ := h.eq
  rw [e, List.getElem?_set_ne (fun z => hj z.symm)]
theorem get_set {S : Store} {k : Nat} {c c' : Cell} (h : S[k]? = some c) : (S.set k c')[k]? = some c' := by
  rw [List.getElem?_set_self (List.getElem?_eq_some_iff.mp h).1]
theorem get_at {S : Store} {c : Cell} {n : Nat} (h : S.length = n) : (S ++ [c])[n]? = some c := by
  rw [← h]
  exact get_top
theorem BS.box_set {k : Nat} {S : Store} {a b x y : Int} (hS : AllL S) (h : S[k]? = some (.lst true [.int a, .int b])) : BS k S (S.set k (.lst true [.int x, .int y])) := ⟨hS.set k, ⟨x, y, get_set h⟩, _, rfl⟩
/-- a def that draws from the box k and gives a value -/
def Bx (Φ : Fn) (k : Nat) (ws : List W) (P : D → Prop) : Prop := ∀ S ρ, AllL S → BoxAt S k → Ok (fin ρ S.length (Φ ws S)) fun w S' => BS k S S' ∧ ∃ d, w = .d d ∧ P d
theorem Bx.of {N : Nat} {b : SmS} {k : Nat} {ws : List W} {P : D → Prop} (h : ∀ S, AllL S → BoxAt S k → Ok (b (ws.map some ++ List.replicate (N - ws.length) none) S) (BQ fun w S' => (∃ S1 T, S' = S1 ++ T ∧ BS k S S1 ∧ AllL T) ∧ ∃ d, w = .d d ∧ P d)) : Bx (body0 N b) k ws P := fun S ρ hS hb =>
  ok_fin (ok_body (h S hS hb)) fun w S' q => by
    obtain ⟨⟨S1, T, rfl, hB, hT⟩, d, rfl, hP⟩ := q
    refine fin_d (by rw [← hB.len]; exact hB.all.closedApp) ?_
    rw [List.take_left' hB.len]
    exact ⟨hB, d, rfl, hP⟩
theorem Bx.of0 {N : Nat} {b : SmS} {k : Nat} {ws : List W} {P : D → Prop} (h : ∀ S, AllL S → BoxAt S k → Ok (b (ws.map some ++ List.replicate (N - ws.length) none) S) (BQ fun w S' => BS k S S' ∧ ∃ d, w = .d d ∧ P d)) : Bx (body0 N b) k ws P := .of fun S hS hb => (h S hS hb).mono fun r S' q => by
  have z : ∀ w, (BS k S S' ∧ ∃ d, w = W.d d ∧ P d) → ((∃ S1 T, S' = S1 ++ T ∧ BS k S S1 ∧ AllL T) ∧ ∃ d, w = W.d d ∧ P d) := fun w q => ⟨⟨S', [], by simp, q.1, .nil⟩, q.2⟩
  cases r with
  | rt w => exact z _ q
  | nx _ => exact z _ q
  | bk _ => exact q
  | ct _ => exact q
def TakeOk (Φ : Fn) : Prop := ∀ k m, 0 < m → m < 1000000 → Bx Φ k [.c k, .d (.int m)] fun d => ∃ r : Int, d = .int r ∧ 0 ≤ r ∧ r < m
theorem ix2_0 {x y : D} : oIx (.lst [x, y]) (.int 0) = some x := rfl
theorem ix2_1 {x y : D} : oIx (.lst [x, y]) (.int 1) = some y := rfl
theorem ixN2_0 {x y : D} : ixN (List.length [x, y]) 0 = some 0 := rfl
theorem ixN2_1 {x y : D} : ixN (List.length [x, y]) 1 = some 1 := rfl
theorem take_ok : TakeOk (body0 3 t__law_take) := fun k m h0 h1 => .of0 fun S hS ⟨a, b, h⟩ => by
  unfold t__law_take
  (repeat' first | with_reducible refine vq ix2_0 ?_ | with_reducible refine vq ix2_1 ?_ | with_reducible refine vq ixN2_0 ?_ | with_reducible refine vq ixN2_1 ?_ | with_reducible refine vw_c (get_set h) ?_ | refine vq (show oIx (.lst ([_, _].set 1 _)) (.int 1) = _ from ix2_1) ?_ | fail "ABCEFHIUVWhjlmnqrstwx26$%<=>^_`|~ÀÁ")
  refine ⟨fun hp => ?_, fun hp => ?_⟩
  · (repeat' first | with_reducible refine vq ix2_0 ?_ | with_reducible refine vq ix2_1 ?_ | with_reducible refine vq ixN2_0 ?_ | with_reducible refine vq ixN2_1 ?_ | with_reducible refine vw_c (get_set h) ?_ | refine vq (show oIx (.lst ([_, _].set 1 _)) (.int 1) = _ from ix2_1) ?_ | fail "ABCEFHIUVWhjlmnqrstwx26$%<=>^_`|~ÀÁ")
    exact ⟨.box_set hS h, _, rfl, _, rfl, Int.fmod_nonneg_of_pos _ h0, Int.fmod_lt_of_pos _ h0⟩
  · (repeat' first | with_reducible refine vq ix2_0 ?_ | with_reducible refine vq ix2_1 ?_ | with_reducible refine vq ixN2_0 ?_ | with_reducible refine vq ixN2_1 ?_ | with_reducible refine vw_c (get_set h) ?_ | refine vq (show oIx (.lst ([_, _].set 1 _)) (.int 1) = _ from ix2_1) ?_ | fail "ABCEFHIUVWhjlmnqrstwx26$%<=>^_`|~ÀÁ")
    exact ⟨.box_set hS h, _, rfl, _, rfl, Int.fmod_nonneg_of_pos _ h0, Int.fmod_lt_of_pos _ h0⟩
end EV
namespace EV
open PySem L2 Tx
/-- read as data, no deeper than n -/
def Lay (n : Nat) (x : D) : Prop := ∃ p, toPy x = some p ∧ p.canLay0 = true ∧ p.depth ≤ n
def Lays (n : Nat) (xs : List D) : Prop := ∃ ps, toPys xs = some ps ∧ PyData.canLayAll0 ps = true ∧ PyData.depthAll ps ≤ n
theorem Lay.mono {m n : Nat} {x : D} (h : Lay m x) (l : m ≤ n) : Lay n x := by
  obtain ⟨p, a, b, c⟩ := h
  exact ⟨p, a, b, by omega⟩
theorem lay_int {n : Nat} {i : Int} : Lay n (.int i) := ⟨_, rfl, rfl, Nat.zero_le _⟩
theorem lay_bl {n : Nat} {b : Bool} : Lay n (.bl b) := ⟨_, rfl, rfl, Nat.zero_le _⟩
theorem lay_non {n : Nat} : Lay n .non := ⟨_, rfl, rfl, Nat.zero_le _⟩
theorem lay_str {n : Nat} {x : Str} (h : PyData.strOk x = true) : Lay n (.str x) := ⟨_, rfl, by unfold PyData.canLay0; exact h, Nat.zero_le _⟩
theorem toPys_c {x : D} {xs : List D} {p : PyData} {ps : List PyData} (h : toPy x = some p) (t : toPys xs = some ps) : toPys (x :: xs) = some (p :: ps) := by
  unfold toPys
  rw [h, t]
theorem lays_n {n : Nat} : Lays n [] := ⟨[], rfl, rfl, Nat.zero_le _⟩
theorem lays_c {n : Nat} {x : D} {xs : List D} (h : Lay n x) (t : Lays n xs) : Lays n (x :: xs) := by
  obtain ⟨p, a, b, c⟩ := h
  obtain ⟨ps, a', b', c'⟩ := t
  refine ⟨_, toPys_c a a', ?_, ?_⟩
  · unfold PyData.canLayAll0
    rw [b, b']
    rfl
  · unfold PyData.depthAll
    omega
theorem lays_inv {n : Nat} {x : D} {xs : List D} (h : Lays n (x :: xs)) : Lay n x ∧ Lays n xs := by
  obtain ⟨ps, a, b, c⟩ := h
  obtain ⟨p, r, e1, e2, rfl⟩ := toPys_cons a
  unfold PyData.canLayAll0 at b
  unfold PyData.depthAll at c
  obtain ⟨b1, b2⟩ := Bool.and_eq_true_iff.mp b
  exact ⟨⟨p, e1, b1, by omega⟩, ⟨r, e2, b2, by omega⟩⟩
theorem lays_iff {n : Nat} : ∀ {xs : List D}, Lays n xs ↔ ∀ x ∈ xs, Lay n x
  | [] => ⟨fun _ _ h => (nomatch h), fun _ => lays_n⟩
  | x :: xs => ⟨fun h y hy => by
      obtain ⟨a, b⟩ := lays_inv h
      rcases List.mem_cons.mp hy with z | z
      · rw [z]; exact a
      · exact lays_iff.mp b y z, fun h => lays_c (h x (List.mem_cons_self ..)) (lays_iff.mpr fun y hy => h y (List.mem_cons_of_mem _ hy))⟩
theorem lay_tup {n : Nat} {xs : List D} (h : Lays n xs) : Lay (n + 1) (.tup xs) := by
  obtain ⟨ps, a, b, c⟩ := h
  refine ⟨.tuple ps, ?_, ?_, ?_⟩
  · unfold toPy
    rw [a]
    rfl
  · unfold PyData.canLay0
    exact b
  · unfold PyData.depth
    omega
theorem lay_lst {n : Nat} {xs : List D} (h : Lays n xs) : Lay (n + 1) (.lst xs) := by
  obtain ⟨ps, a, b, c⟩ := h
  refine ⟨.list ps, ?_, ?_, ?_⟩
  · unfold toPy
    rw [a]
    rfl
  · unfold PyData.canLay0
    exact b
  · unfold PyData.depth
    omega
theorem lays_of_tup {n : Nat} {xs : List D} (h : Lay (n + 1) (.tup xs)) : Lays n xs := by
  obtain ⟨p, a, b, c⟩ := h
  unfold toPy at a
  obtain ⟨ps, e, rfl⟩ := Option.map_eq_some_iff.mp a
  unfold PyData.canLay0 at b
  unfold PyData.depth at c
  exact ⟨ps, e, b, by omega⟩
/-- == of data -/
def eqD (x y : D) : Bool := PyData.eqv (pyD x) (pyD y)
theorem dEq_lay {x y : D} (h : Lay 64 x) (h' : Lay 64 y) : dEq x y = some (eqD x y) := by
  obtain ⟨p, a, b, c⟩ := h
  obtain ⟨q, a', b', c'⟩ := h'
  unfold dEq eqD pyD
  rw [a, a']
  dsimp only
  rw [if_pos]
  · rfl
  · unfold SeqAt.shaped
    rw [b, b', decide_eq_true c, decide_eq_true c']
    rfl
theorem o_eqD {x y : D} (h : Lay 64 x) (h' : Lay 64 y) : oEq x y = some (.bl (eqD x y)) := by
  unfold oEq
  rw [dEq_lay h h']
  rfl
theorem o_neD {x y : D} (h : Lay 64 x) (h' : Lay 64 y) : oNe x y = some (.bl (!eqD x y)) := by
  unfold oNe
  rw [dEq_lay h h']
  rfl
theorem eqD_self {x : D} {n : Nat} (h : Lay n x) : eqD x x = true := by
  obtain ⟨p, a, b, c⟩ := h
  unfold eqD pyD
  rw [a]
  exact SeqAt.eqv_refl p b
abbrev nD (i : Nat) : D := .int (i : Int)
def tN (xs : List Nat) : D := .tup (xs.map nD)
theorem upto0 (n : Nat) : upto 0 n = (List.range n).map nD := by
  unfold upto nD
  refine List.map_congr_left fun i _ => ?_
  rw [show (0 : Int) + (i : Int) = (i : Int) by omega]
theorem toPys_n : ∀ xs : List Nat, toPys (xs.map nD) = some (xs.map fun (i : Nat) => PyData.int (i : Int))
  | [] => rfl
  | x :: xs => toPys_c rfl (toPys_n xs)
theorem canL_n : ∀ xs : List Nat, PyData.canLayAll0 (xs.map fun (i : Nat) => PyData.int (i : Int)) = true
  | [] => rfl
  | x :: xs => by
    rw [List.map_cons]
    unfold PyData.canLayAll0
    rw [canL_n xs]
    rfl
theorem lays_n' (m : Nat) (xs : List Nat) : Lays m (xs.map nD) := lays_iff.mpr fun x hx => by
  obtain ⟨i, _, rfl⟩ := List.mem_map.mp hx
  exact lay_int
theorem lay_tN (m : Nat) (xs : List Nat) : Lay (m + 1) (tN xs) := lay_tup (lays_n' m xs)
theorem lays_tN (m : Nat) (xss : List (List Nat)) : Lays (m + 1) (xss.map tN) := lays_iff.mpr fun x hx => by
  obtain ⟨i, _, rfl⟩ := List.mem_map.mp hx
  exact lay_tN m i
theorem eqv_ints : ∀ xs ys : List Nat, PyData.eqvAll (xs.map fun (i : Nat) => PyData.int (i : Int)) (ys.map fun (i : Nat) => PyData.int (i : Int)) = decide (xs = ys)
  | [], [] => by simp [PyData.eqvAll]
  | [], y :: ys => by simp [PyData.eqvAll]
  | x :: xs, [] => by simp [PyData.eqvAll]
  | x :: xs, y :: ys => by
    rw [List.map_cons, List.map_cons, PyData.eqvAll, eqv_ints xs ys]
    show ((x : Int) == (y : Int) && _) = _
    by_cases h : x = y
    · subst h
      simp
    · simp [h]
      omega
theorem pyD_tN (xs : List Nat) : toPy (tN xs) = some (.tuple (xs.map fun (i : Nat) => PyData.int (i : Int))) := by
  unfold tN toPy
  rw [toPys_n]
  rfl
theorem eqv_tN (xs ys : List Nat) : PyData.eqv (.tuple (xs.map fun (i : Nat) => PyData.int (i : Int))) (.tuple (ys.map fun (i : Nat) => PyData.int (i : Int))) = decide (xs = ys) := by
  rw [PyData.eqv]
  exact eqv_ints xs ys
theorem eqD_tN (xs ys : List Nat) : eqD (tN xs) (tN ys) = decide (xs = ys) := by
  unfold eqD pyD
  rw [pyD_tN, pyD_tN]
  exact eqv_tN xs ys
/-- a row is empty -/
theorem eqD_nil {xs : List D} {n : Nat} (h : Lays n xs) : eqD (.lst xs) (.lst []) = xs.isEmpty := by
  obtain ⟨ps, a, b, c⟩ := h
  unfold eqD pyD toPy
  rw [a]
  cases xs with
  | nil =>
    cases a
    rfl
  | cons x xs =>
    obtain ⟨p, r, e1, e2, rfl⟩ := toPys_cons a
    show PyData.eqv (.list (p :: r)) (.list []) = false
    simp [PyData.eqv, PyData.eqvAll]
theorem eqD_nilT {xs : List D} {n : Nat} (h : Lays n xs) : eqD (.tup xs) (.tup []) = xs.isEmpty := by
  obtain ⟨ps, a, b, c⟩ := h
  unfold eqD pyD toPy
  rw [a]
  cases xs with
  | nil =>
    cases a
    rfl
  | cons x xs =>
    obtain ⟨p, r, e1, e2, rfl⟩ := toPys_cons a
    show PyData.eqv (.tuple (p :: r)) (.tuple []) = false
    simp [PyData.eqv, PyData.eqvAll]
theorem o_eqNil {xs : List D} (h : Lays 63 xs) : oEq (.lst xs) (.lst []) = some (.bl xs.isEmpty) := by
  rw [o_eqD (lay_lst h) (lay_lst lays_n), eqD_nil h]
theorem o_neNil {xs : List D} (h : Lays 63 xs) : oNe (.lst xs) (.lst []) = some (.bl (!xs.isEmpty)) := by
  rw [o_neD (lay_lst h) (lay_lst lays_n), eqD_nil h]
theorem o_neNilT {xs : List D} (h : Lays 63 xs) : oNe (.tup xs) (.tup []) = some (.bl (!xs.isEmpty)) := by
  rw [o_neD (lay_tup h) (lay_tup lays_n), eqD_nilT h]
theorem dIn_row {x y : D} {zs : List D} (hy : y = .tup zs ∨ y = .lst zs) (h : Lay 64 x) (t : Lays 64 zs) : dIn x y = some (zs.any fun z => eqD z x) := by
  obtain ⟨p, a, b, c⟩ := h
  obtain ⟨ps, a', b', c'⟩ := t
  have e : seqPy y = some ps := by rcases hy with rfl | rfl <;> exact a'
  have len : ∀ {zs : List D} {ps : List PyData}, toPys zs = some ps → (ps.any fun z => PyData.eqv z p) = (zs.any fun z => eqD z x) := fun {zs} => by
    induction zs with
    | nil =>
      intro ps e
      cases e
      rfl
    | cons z zs ih =>
      intro ps e
      obtain ⟨q, r, e1, e2, rfl⟩ := toPys_cons e
      rw [List.any_cons, List.any_cons, ih e2]
      unfold eqD pyD
      rw [e1, a]
      rfl
  unfold dIn
  rw [a, e]
  dsimp only
  rw [if_pos, len a']
  unfold SeqAt.shaped
  rw [b, b', decide_eq_true c]
  rfl
theorem eqD_nD (i j : Nat) : eqD (nD i) (nD j) = decide (i = j) := by
  show ((i : Int) == (j : Int)) = _
  by_cases h : i = j
  · subst h
    simp
  · simp [h]
    omega
theorem any_nD (m : Nat) : ∀ g : List Nat, ((g.map nD).any fun z => eqD z (nD m)) = decide (m ∈ g)
  | [] => by simp
  | x :: g => by
    rw [List.map_cons, List.any_cons, any_nD m g, eqD_nD]
    by_cases h : x = m
    · simp [h]
    · simp [h]
      exact fun z => absurd z.symm h
theorem any_tN (m : List Nat) : ∀ g : List (List Nat), ((g.map tN).any fun z => eqD z (tN m)) = decide (m ∈ g)
  | [] => by simp
  | x :: g => by
    rw [List.map_cons, List.any_cons, any_tN m g, eqD_tN]
    by_cases h : x = m
    · simp [h]
    · simp [h]
      exact fun z => absurd z.symm h
theorem o_inN (m : Nat) (g : List Nat) : oIn false (nD m) (tN g) = some (.bl (decide (m ∈ g))) := by
  unfold oIn
  rw [dIn_row (x := nD m) (y := tN g) (.inl rfl) lay_int (lays_n' 64 g), any_nD]
  simp
theorem o_ninN (m : Nat) (g : List Nat) : oIn true (nD m) (tN g) = some (.bl (!decide (m ∈ g))) := by
  unfold oIn
  rw [dIn_row (x := nD m) (y := tN g) (.inl rfl) lay_int (lays_n' 64 g), any_nD]
  simp
theorem o_inT (m : List Nat) (g : List (List Nat)) : oIn false (tN m) (.tup (g.map tN)) = some (.bl (decide (m ∈ g))) := by
  unfold oIn
  rw [dIn_row (.inl rfl) (lay_tN 63 m) (lays_tN 63 g), any_tN]
  simp
theorem o_ninL (m : List Nat) (g : List (List Nat)) : oIn true (tN m) (.lst (g.map tN)) = some (.bl (!decide (m ∈ g))) := by
  unfold oIn
  rw [dIn_row (.inr rfl) (lay_tN 63 m) (lays_tN 63 g), any_tN]
  simp
end EV
namespace EV
open PySem L2 Tx
theorem dLe_def (x y : D) : dLe x y = !(PyProof.Rows.lexLt PyProof.Rows.itemOrd (PySem.W.keyToks (pyD y)) (PySem.W.keyToks (pyD x))) := rfl
theorem dLe_nD' (i j : Nat) : dLe (nD i) (nD j) = decide (i ≤ j) := by
  rw [dLe_def]
  show (!PyProof.Rows.lexLt PyProof.Rows.itemOrd [.inl (j : Int)] [.inl (i : Int)]) = _
  have e : PyProof.Rows.lexLt PyProof.Rows.itemOrd [.inl (j : Int)] [.inl (i : Int)] = decide ((j : Int) < i) := by
    simp [PyProof.Rows.lexLt, PyProof.Rows.itemOrd, PyProof.Rows.itemLt]
  rw [e]
  by_cases h : i ≤ j
  · simp [h]
  · simp [h]
    omega
def leN (a b : Nat) : Bool := decide (a ≤ b)
def sortN (xs : List Nat) : List Nat := xs.mergeSort leN
theorem sortN_perm (xs : List Nat) : (sortN xs).Perm xs := List.mergeSort_perm xs leN
theorem sortN_asc (xs : List Nat) : (sortN xs).Pairwise (· ≤ ·) := by
  have h := List.pairwise_mergeSort (le := leN) (fun a b c h1 h2 => by
    unfold leN at *
    simp only [decide_eq_true_eq] at *
    omega) (fun a b => by
    unfold leN
    simp
    omega) xs
  exact h.imp fun h => by
    unfold leN at h
    simpa using h
theorem srt_ints {xs : List Nat} : srtOk (xs.map fun (i : Nat) => PyData.int (i : Int)) = true := by
  unfold srtOk
  rw [Bool.and_eq_true, Bool.and_eq_true]
  refine ⟨⟨?_, ?_⟩, ?_⟩
  · simp [PySem.W.alike]
  · rw [Bool.or_eq_true]
    right
    simp
  · simp [SeqAt.shaped, PyData.canLay0, PyData.depth]
theorem mapSort {α : Type} {le : α → α → Bool} {f : α → D} (h : ∀ a b, dLe (f a) (f b) = le a b) (xs : List α) : (xs.map f).mergeSort dLe = (xs.mergeSort le).map f := by
  rw [List.map_mergeSort (s := dLe)]
  intro a _ b _
  exact (h a b).symm
theorem f_srtI (xs : List Nat) : fSorted [.lst (xs.map nD)] = some ((sortN xs).map nD) := by
  unfold fSorted seqD
  dsimp only
  rw [toPys_n]
  dsimp only
  rw [if_pos srt_ints, mapSort dLe_nD']
  rfl
theorem toPys_tN : ∀ xss : List (List Nat), toPys (xss.map tN) = some (xss.map fun xs => PyData.tuple (xs.map fun (i : Nat) => PyData.int (i : Int)))
  | [] => rfl
  | x :: xs => toPys_c (pyD_tN x) (toPys_tN xs)
theorem alike_ints : ∀ xs ys : List Nat, PySem.W.alikeAll (xs.map fun (i : Nat) => PyData.int (i : Int)) (ys.map fun (i : Nat) => PyData.int (i : Int)) = true
  | [], _ => by simp [PySem.W.alikeAll]
  | x :: xs, [] => by simp [PySem.W.alikeAll]
  | x :: xs, y :: ys => by
    rw [List.map_cons, List.map_cons, PySem.W.alikeAll, alike_ints xs ys]
    simp [PySem.W.alike]
theorem depthAll_ints : ∀ xs : List Nat, PyData.depthAll (xs.map fun (i : Nat) => PyData.int (i : Int)) = 0
  | [] => by simp [PyData.depthAll]
  | x :: xs => by
    rw [List.map_cons, PyData.depthAll, depthAll_ints xs]
    simp [PyData.depth]
theorem srt_rows {xss : List (List Nat)} (h : ∀ xs ∈ xss, xs ≠ []) : srtOk (xss.map fun xs => PyData.tuple (xs.map fun (i : Nat) => PyData.int (i : Int))) = true := by
  unfold srtOk
  rw [Bool.and_eq_true, Bool.and_eq_true]
  refine ⟨⟨?_, ?_⟩, ?_⟩
  · refine List.all_eq_true.mpr fun p hp => List.all_eq_true.mpr fun q hq => ?_
    obtain ⟨a, _, rfl⟩ := List.mem_map.mp hp
    obtain ⟨b, _, rfl⟩ := List.mem_map.mp hq
    rw [PySem.W.alike]
    exact alike_ints a b
  · rw [Bool.or_eq_true]
    left
    refine List.all_eq_true.mpr fun p hp => ?_
    obtain ⟨a, ha, rfl⟩ := List.mem_map.mp hp
    cases a with
    | nil => exact absurd rfl (h _ ha)
    | cons x a => rfl
  · refine List.all_eq_true.mpr fun p hp => ?_
    obtain ⟨a, ha, rfl⟩ := List.mem_map.mp hp
    unfold SeqAt.shaped PyData.canLay0 PyData.depth
    rw [canL_n, depthAll_ints]
    rfl
/-- the order of rows of numbers -/
def leR (a b : List Nat) : Bool := dLe (tN a) (tN b)
def sortR (xss : List (List Nat)) : List (List Nat) := xss.mergeSort leR
theorem sortR_perm (xss : List (List Nat)) : (sortR xss).Perm xss := List.mergeSort_perm xss leR
theorem f_srtR {xss : List (List Nat)} (h : ∀ xs ∈ xss, xs ≠ []) : fSorted [.lst (xss.map tN)] = some ((sortR xss).map tN) := by
  unfold fSorted seqD
  dsimp only
  rw [toPys_tN]
  dsimp only
  rw [if_pos (srt_rows h), mapSort (le := leR) (fun a b => rfl)]
  rfl
end EV
namespace EV
open PySem L2 Tx
section
variable {ρ : Env'} {S : Store} {X : Type}
theorem lcL_x {t : Tg} {c f : Sm} {g : X → D} {p : X → Bool} {v : X → D} : ∀ {xs : List X} {acc : List D}, (∀ x ∈ xs, VQ (t.put (g x) ρ) fun ρ1 => Ok (c ρ1 S) (fun w S' => S' = S ∧ w = .d (.bl (p x))) ∧ (p x = true → Ok (f ρ1 S) fun w S' => S' = S ∧ w = .d (v x))) → lcL t c f ρ (xs.map g) acc S = .ok (acc ++ (xs.filter p).map v) S
  | [], acc, _ => by simp [lcL]
  | x :: xs, acc, k => by
    obtain ⟨ρ1, h1, h2, h3⟩ := k x (List.mem_cons_self ..)
    have ih := fun acc => lcL_x (xs := xs) (acc := acc) (v := v) fun d hd => k d (List.mem_cons_of_mem _ hd)
    rw [List.map_cons]
    unfold lcL
    rw [h1]
    dsimp only
    obtain ⟨w, S', e, rfl, rfl⟩ := h2.get
    rw [toT_ev e]
    show (if p x = true then _ else _) = _
    cases hp : p x with
    | false =>
      rw [if_neg (by decide), ih, List.filter_cons, hp]
      rfl
    | true =>
      obtain ⟨w, S', e2, rfl, rfl⟩ := (h3 hp).get
      rw [if_pos rfl, e2]
      show lcL t c f ρ (xs.map g) (acc ++ [v x]) S' = _
      rw [ih, List.filter_cons, hp]
      simp
theorem ok_lcX {own : List Nat} {t : Tg} {i : SmI} {c f : Sm} {Q : W → Store → Prop} (g : X → D) (xs : List X) (p : X → Bool) (v : X → D) (h : Ok (i ρ S) fun ds S1 => ds = xs.map g ∧ xs.length ≤ 16777216 ∧ (∀ x ∈ xs, VQ (t.put (g x) (wipeE ρ own)) fun ρ1 => Ok (c ρ1 S1) (fun w S' => S' = S1 ∧ w = .d (.bl (p x))) ∧ (p x = true → Ok (f ρ1 S1) fun w S' => S' = S1 ∧ w = .d (v x))) ∧
    Q (.d (.lst ((xs.filter p).map v))) S1) : Ok (cLc false own t i c f ρ S) Q :=
  ok_bind (h.mono fun ds S1 h => by
    obtain ⟨rfl, h1, h2, q⟩ := h
    rw [if_pos (by rw [List.length_map]; exact h1), lcL_x h2]
    exact .mk q)
/-- no test -/
theorem ok_lcM {own : List Nat} {t : Tg} {i : SmI} {f : Sm} {Q : W → Store → Prop} (g : X → D) (xs : List X) (v : X → D) (h : Ok (i ρ S) fun ds S1 => ds = xs.map g ∧ xs.length ≤ 16777216 ∧ (∀ x ∈ xs, VQ (t.put (g x) (wipeE ρ own)) fun ρ1 => Ok (f ρ1 S1) fun w S' => S' = S1 ∧ w = .d (v x)) ∧
    Q (.d (.lst (xs.map v))) S1) : Ok (cLc false own t i cTrue f ρ S) Q :=
  ok_lcX g xs (fun _ => true) v (h.mono fun ds S1 h => by
    obtain ⟨e, h1, h2, q⟩ := h
    refine ⟨e, h1, fun x hx => ?_, ?_⟩
    · obtain ⟨ρ1, a, b⟩ := h2 x hx
      exact ⟨ρ1, a, .mk ⟨rfl, rfl⟩, fun _ => b⟩
    · rw [List.filter_eq_self.mpr fun _ _ => rfl]
      exact q)
theorem intsD_i' : ∀ xs : List Int, intsD (xs.map D.int) = some xs
  | [] => rfl
  | x :: xs => by
    rw [List.map_cons]
    unfold intsD
    rw [intsD_i' xs]
    rfl
theorem ok_lenset {f : Sm} {Q : W → Store → Prop} (h : Ok (f ρ S) fun w S1 => VQ (view S1 w) fun x => VQ (seqD x) fun xs => VQ (tupsI xs) fun kss => AQ (xs.length < 64) (Q (.d (.int (countD kss))) S1)) : Ok (cLenSet f ρ S) Q :=
  ok_bind (h.mono fun w S1 h => by
    obtain ⟨x, h1, xs, h2, kss, h3, h4, q⟩ := h
    rw [h1]
    show Ok (match seqD x with
      | some xs => (match tupsI xs with
        | some kss => if xs.length < 64 then .ok (.d (.int (countD kss))) S1 else .bad
        | none => (match intsD xs with
          | some ns => if xs.length < 64 then .ok (.d (.int (countD ns))) S1 else .bad
          | none => .bad))
      | none => .bad) Q
    rw [h2]
    dsimp only
    rw [h3]
    dsimp only
    rw [if_pos h4]
    exact .mk q)
end
theorem ok_lensetI {f : Sm} {Q : W → Store → Prop} (ns : List Int) (h : Ok (f ρ S) fun w S1 => VQ (view S1 w) fun x => VQ (seqD x) fun xs => xs = ns.map D.int ∧ ns.length < 64 ∧ Q (.d (.int (countD ns))) S1) : Ok (cLenSet f ρ S) Q :=
  ok_bind (h.mono fun w S1 h => by
    obtain ⟨x, h1, xs, h2, rfl, h4, q⟩ := h
    rw [h1]
    show Ok (match seqD x with
      | some xs => (match tupsI xs with
        | some kss => if xs.length < 64 then .ok (.d (.int (countD kss))) S1 else .bad
        | none => (match intsD xs with
          | some ns => if xs.length < 64 then .ok (.d (.int (countD ns))) S1 else .bad
          | none => .bad))
      | none => .bad) Q
    rw [h2]
    cases ns with
    | nil => exact .mk q
    | cons n ns =>
      dsimp only
      rw [show tupsI ((n :: ns).map D.int) = none from rfl]
      dsimp only
      rw [intsD_i']
      dsimp only
      rw [if_pos (by rw [List.length_map]; exact h4)]
      exact .mk q)
theorem blsD_m : ∀ bs : List Bool, blsD (bs.map D.bl) = some bs
  | [] => rfl
  | b :: bs => by
    show (blsD (bs.map D.bl)).map (b :: ·) = _
    rw [blsD_m bs]
    rfl
theorem f_all (bs : List Bool) : fAll [.lst (bs.map D.bl)] = some (.bl (bs.all id)) := by
  unfold fAll
  dsimp only
  rw [blsD_m]
  rfl
theorem f_allM {X : Type} (xs : List X) (p : X → Bool) : fAll [.lst (xs.map fun x => .bl (p x))] = some (.bl (xs.all p)) := by
  have := f_all (xs.map p)
  rw [List.map_map, List.all_map] at this
  exact this
theorem Lay.ord {n : Nat} {v : D} {cs : List Nat} (h : Lay n v) : ordD cs v = true := by
  obtain ⟨p, a, b, c⟩ := h
  cases v <;> first | rfl | (unfold toPy at a; cases a)
theorem whole_ok {ics : List Nat} {v : D} (hv : ordD ics v = true) : Pu (body0 1 (t__law_whole ics)) [.d v] (.bl (isIntD v)) := .of0 fun S hS => by
  unfold t__law_whole
  (repeat' first | (refine vq (isT_int hv) ?_) | (refine vq (isT_bool hv) ?_) | fail "AFLPQlqtxÀÁ")
  refine ⟨fun h => ?_, fun h => ?_⟩
  · (repeat' first | (refine vq (isT_int hv) ?_) | (refine vq (isT_bool hv) ?_) | fail "AFLPQlqtxÀÁ")
    cases v <;> first | exact ⟨rfl, rfl⟩ | cases h
  · fail "AFLPQlqtxÀ"
    cases v <;> first | exact ⟨rfl, rfl⟩ | cases h
theorem integer_ok {ics : List Nat} {v : D} (hv : ordD ics v = true) : Pu (body0 1 (t_is_integer ics)) [.d v] (.bl (isIntD v)) := whole_ok hv
def isW (v : D) (a b : Int) : Bool := match v with
  | .int i => decide (a ≤ i) && decide (i ≤ b)
  | _ => false
theorem within_ok {Φ : Fn} {v : D} {a b : Int} (hI : Pu Φ [.d v] (.bl (isIntD v))) : Pu (body0 3 (t_is_within Φ)) [.d v, .d (.int a), .d (.int b)] (.bl (isW v a b)) := .of0 fun S hS => by
  unfold t_is_within
  (repeat' first | refine hI.ok hS ?_ | fail "AFQTUVZlqtx5?ÀÁ")
  refine ⟨fun h => ?_, fun h => ?_⟩
  · cases v with
    | int i =>
      fail "AFQTUVZlqtx5?À"
      refine ⟨fun h => ?_, fun h => ?_⟩
      · fail "AFQTUVZlqtx5?À"
        refine ⟨?_, rfl⟩
        rw [show isW (.int i) a b = (decide (a ≤ i) && decide (i ≤ b)) from rfl, h]
        rfl
      · fail "AFQTUVZlqtx5?À"
        refine ⟨?_, rfl⟩
        rw [show isW (.int i) a b = (decide (a ≤ i) && decide (i ≤ b)) from rfl, h]
        rfl
    | _ => cases h
  · fail "AFQTUVZlqtx5?À"
    cases v <;> first | exact ⟨rfl, rfl⟩ | cases h
/-- numbers that rise -/
def asc : List Nat → Bool
  | a :: b :: r => decide (a < b) && asc (b :: r)
  | _ => true
theorem asc_all : ∀ (xs : List Nat), ((List.range (xs.length - 1)).all fun i => decide (xs.getD i 0 < xs.getD (i + 1) 0)) = asc xs
  | [] => rfl
  | [a] => rfl
  | a :: b :: r => by
    have ih := asc_all (b :: r)
    show ((List.range (r.length + 1)).all _) = _
    rw [List.range_succ_eq_map, List.all_cons, List.all_map]
    show (decide (a < b) && _) = (decide (a < b) && asc (b :: r))
    rw [← ih]
    rfl
theorem asc_of {xs : List Nat} (h : xs.Pairwise (· < ·)) : asc xs = true := by
  induction xs with
  | nil => rfl
  | cons a r ih =>
    obtain ⟨h1, h2⟩ := List.pairwise_cons.mp h
    cases r with
    | nil => rfl
    | cons b r =>
      show (decide (a < b) && asc (b :: r)) = true
      rw [ih h2, decide_eq_true (h1 b (List.mem_cons_self ..))]
      rfl
theorem of_asc : ∀ {xs : List Nat}, asc xs = true → xs.Pairwise (· < ·)
  | [], _ => .nil
  | [a], _ => by simp
  | a :: b :: r, h => by
    obtain ⟨h1, h2⟩ := Bool.and_eq_true_iff.mp (show (decide (a < b) && asc (b :: r)) = true from h)
    have ih := of_asc h2
    refine List.pairwise_cons.mpr ⟨fun c hc => ?_, ih⟩
    have z := of_decide_eq_true h1
    rcases List.mem_cons.mp hc with e | e
    · omega
    · have := (List.pairwise_cons.mp ih).1 c e
      omega
theorem upto_g (m : Nat) : upto 1 m = (List.range m).map fun i => nD (i + 1) := by
  unfold upto nD
  refine List.map_congr_left fun i _ => ?_
  rw [show (1 : Int) + (i : Int) = ((i + 1 : Nat) : Int) by omega]
theorem ix_tN {ps : List Nat} {i : Int} {k : Nat} (hi : i = k) (h : k < ps.length) : oIx (tN ps) (.int i) = some (nD (ps.getD k 0)) := o_ixT hi (by
  rw [List.getElem?_map, List.getElem?_eq_getElem h, List.getD_eq_getElem?_getD, List.getElem?_eq_getElem h]
  rfl)
theorem f_lenN (ps : List Nat) : fLen [tN ps] = some (.int ps.length) := by
  unfold tN
  rw [f_lenT, List.length_map]
theorem ascending_ok {ps : List Nat} (hl : ps.length ≤ 1000000) : Pu (body0 2 t_is_ascending) [.d (tN ps)] (.bl (asc ps)) := .of0 fun S hS => by
  unfold t_is_ascending
  fail "AFHIUVWXeqrstx34!#;]"
  refine ok_lcM (fun i => nD (i + 1)) (List.range (ps.length - 1)) (fun i => .bl (decide (ps.getD i 0 < ps.getD (i + 1) 0))) ?_
  (repeat' first | refine vq (f_lenN ps) ?_ | fail "AFHIUVWXeqrstx34!#;]Á")
  refine ⟨?_, ?_, fun i hi => ?_, ?_⟩
  · rw [← upto_g]
    congr 1
    omega
  · simp
    omega
  · have hi' := List.mem_range.mp hi
    fail "AFHIUVWXeqrstx34!#;]"
    refine vq (ix_tN (k := i) (by omega) (by omega)) ?_
    fail "AFHIUVWXeqrstx34!#;]"
    refine vq (ix_tN (k := i + 1) (by omega) (by omega)) ?_
    fail "AFHIUVWXeqrstx34!#;]"
    refine ⟨rfl, ?_⟩
    congr 3
    exact propext (by omega)
  · (repeat' first | refine vq (f_allM _ _) ?_ | fail "AFHIUVWXeqrstx34!#;]Á")
    rw [asc_all]
    exact ⟨rfl, rfl⟩
end EV
namespace EV
open PySem L2 Tx
def inR (m : Nat) : D → Bool
  | .int i => decide (0 ≤ i) && decide (i < m)
  | _ => false
def toN : D → Nat
  | .int i => i.toNat
  | _ => 0
theorem inR_nD {m : Nat} : ∀ {d : D}, inR m d = true → d = nD (toN d) ∧ toN d < m
  | .int i, h => by
    unfold inR at h
    simp only [Bool.and_eq_true, decide_eq_true_eq] at h
    refine ⟨?_, ?_⟩
    · show D.int i = D.int ((i.toNat : Nat) : Int)
      congr 1
      omega
    · show i.toNat < m
      omega
  | .non, h => by cases h
  | .bl _, h => by cases h
  | .str _, h => by cases h
  | .tup _, h => by cases h
  | .lst _, h => by cases h
  | .dK _ _, h => by cases h
  | .dT _ _, h => by cases h
  | .ins _ _ _, h => by cases h
  | .exc _ _ _, h => by cases h
  | .fn _, h => by cases h
theorem inR_row {m : Nat} : ∀ {ds : List D}, ds.all (inR m) = true → ds = (ds.map toN).map nD ∧ ∀ p ∈ ds.map toN, p < m
  | [], _ => ⟨rfl, fun _ h => (nomatch h)⟩
  | d :: ds, h => by
    rw [List.all_cons, Bool.and_eq_true] at h
    obtain ⟨h1, h2⟩ := h
    obtain ⟨a, b⟩ := inR_nD h1
    obtain ⟨c, e⟩ := inR_row h2
    refine ⟨?_, fun p hp => ?_⟩
    · rw [List.map_cons, List.map_cons, ← c, ← a]
    · rw [List.map_cons] at hp
      rcases List.mem_cons.mp hp with z | z
      · rw [z]; exact b
      · exact e p z
theorem isW_inR {m : Nat} {d : D} (hm : 1 ≤ m) : isW d 0 ((m : Int) - 1) = inR m d := by
  cases d with
  | int i =>
    show (decide (0 ≤ i) && decide (i ≤ (m : Int) - 1)) = (decide (0 ≤ i) && decide (i < m))
    congr 2
    exact propext (by omega)
  | _ => rfl
def topLen : D → Nat
  | .tup ds => ds.length
  | .lst ds => ds.length
  | _ => 0
/-- an ordinary value of moderate size -/
structure Val (v : D) : Prop where
  lay : Lay 40 v
  len : topLen v ≤ 1000
theorem Val.els {ds : List D} (h : Val (.tup ds)) : ∀ x ∈ ds, Lay 39 x := lays_iff.mp (lays_of_tup h.lay)
def risB (m : Nat) (v : D) : Bool := match v with
  | .tup ds => !ds.isEmpty && (ds.all (inR m) && asc (ds.map toN))
  | _ => false
theorem rising_ok {ics : List Nat} {Φ Φ' : Fn} {v : D} {m : Nat} (hW : ∀ x a b, ordD ics x = true → Pu Φ [.d x, .d (.int a), .d (.int b)] (.bl (isW x a b))) (hA : ∀ ps : List Nat, ps.length ≤ 1000000 → Pu Φ' [.d (tN ps)] (.bl (asc ps))) (hv : Val v) (hm : 1 ≤ m) :
    Pu (body0 3 (t_is_rising ics Φ Φ')) [.d v, .d (.int ((m : Int) - 1))] (.bl (risB m v)) := .of0 fun S hS => by
  unfold t_is_rising
  have ho : ordD ics v = true := hv.lay.ord
  cases v with
  | tup ds =>
    have hl : ds.length ≤ 1000 := hv.len
    (repeat' first | (refine vq (isT_tuple ho) ?_) | fail "ABEFHILPRUVWXZbjlmnqrstx8!#.:;?ÀÁ")
    refine cq_f rfl ?_
    fail "ABEFHILPRUVWXZbjlmnqrstx8!#.:;?À"
    refine ⟨fun h0 => ?_, fun h0 => ?_⟩
    · fail "ABEFHILPRUVWXZbjlmnqrstx8!#.:;?À"
      have z : ds = [] := by
        cases ds with
        | nil => rfl
        | cons d ds =>
          simp at h0
          omega
      subst z
      exact ⟨rfl, rfl⟩
    · have hne : ds.isEmpty = false := by
        cases ds with
        | nil => simp at h0
        | cons d ds => rfl
      fail "ABEFHILPRUVWXZbjlmnqrstx8!#.:;?À"
      refine ok_lcM (fun d => d) ds (fun d => .bl (inR m d)) ?_
      fail "ABEFHILPRUVWXZbjlmnqrstx8!#.:;?À"
      refine ⟨(List.map_id' ds).symm, by omega, fun d hd => ?_, ?_⟩
      · fail "ABEFHILPRUVWXZbjlmnqrstx8!#.:;?À"
        refine (hW d _ _ (hv.els d hd).ord).ok hS ⟨rfl, ?_⟩
        rw [isW_inR hm]
      · (repeat' first | refine vq (f_allM _ _) ?_ | fail "ABEFHILPRUVWXZbjlmnqrstx8!#.:;?ÀÁ")
        refine ⟨fun h => ?_, fun h => ?_⟩
        · fail "ABEFHILPRUVWXZbjlmnqrstx8!#.:;?À"
          refine ⟨?_, rfl⟩
          unfold risB
          dsimp only
          rw [show ds.all (inR m) = false by simpa using h, hne]
          rfl
        · have h1 : ds.all (inR m) = true := by simpa using h
          obtain ⟨e, _⟩ := inR_row h1
          fail "ABEFHILPRUVWXZbjlmnqrstx8!#.:;?À"
          have z := hA (ds.map toN) (by rw [List.length_map]; omega)
          unfold tN at z
          rw [← e] at z
          refine z.ok hS ?_
          fail "ABEFHILPRUVWXZbjlmnqrstx8!#.:;?À"
          refine ⟨?_, rfl⟩
          unfold risB
          dsimp only
          rw [h1, hne]
          rfl
  | _ =>
    (repeat' first | (refine vq (isT_tuple ho) ?_) | fail "ABEFHILPRUVWXZbjlmnqrstx8!#.:;?ÀÁ")
    refine cq_t rfl ?_
    fail "ABEFHILPRUVWXZbjlmnqrstx8!#.:;?À"
    exact ⟨rfl, rfl⟩
/-- the members and groups of a collection -/
structure Good (n : Nat) (gs : List (List Nat)) : Prop where
  n1 : 1 ≤ n
  n6 : n ≤ 6
  len : gs.length ≤ 24
  ne : ∀ g ∈ gs, g ≠ []
  asc : ∀ g ∈ gs, g.Pairwise (· < ·)
  lt : ∀ g ∈ gs, ∀ m ∈ g, m < n
  nodup : gs.Nodup
  single : ∀ m, m < n → [m] ∈ gs
theorem asc_len : ∀ {n : Nat} {g : List Nat} {a : Nat}, (a :: g).Pairwise (· < ·) → (∀ m ∈ a :: g, m < n) → (a :: g).length + a ≤ n
  | n, [], a, _, h => by
    have := h a (List.mem_cons_self ..)
    simp
    omega
  | n, b :: g, a, h, l => by
    obtain ⟨h1, h2⟩ := List.pairwise_cons.mp h
    have ih := asc_len h2 fun m hm => l m (List.mem_cons_of_mem _ hm)
    have := h1 b (List.mem_cons_self ..)
    simp at ih ⊢
    omega
theorem asc_le {n : Nat} {g : List Nat} (h : g.Pairwise (· < ·)) (l : ∀ m ∈ g, m < n) : g.length ≤ n := by
  cases g with
  | nil => exact Nat.zero_le _
  | cons a g =>
    have := asc_len h l
    omega
theorem Good.glen {n : Nat} {gs : List (List Nat)} (G : Good n gs) {g : List Nat} (h : g ∈ gs) : g.length ≤ 6 := Nat.le_trans (asc_le (G.asc g h) (G.lt g h)) G.n6
theorem Good.pos {n : Nat} {gs : List (List Nat)} (G : Good n gs) : 1 ≤ gs.length := by
  have := G.single 0 G.n1
  cases gs with
  | nil => cases this
  | cons g gs => simp
theorem inR_n {m : Nat} {g : List Nat} (h : ∀ x ∈ g, x < m) : (g.map nD).all (inR m) = true := by
  rw [List.all_map, List.all_eq_true]
  intro x hx
  show (decide ((0 : Int) ≤ x) && decide ((x : Int) < m)) = true
  have := h x hx
  simp
  omega
theorem toN_n (g : List Nat) : (g.map nD).map toN = g := by
  rw [List.map_map]
  exact List.map_id' g
theorem ris_g {m : Nat} {g : List Nat} (h0 : g ≠ []) (h1 : ∀ x ∈ g, x < m) (h2 : g.Pairwise (· < ·)) : risB m (tN g) = true := by
  show (!(g.map nD).isEmpty && ((g.map nD).all (inR m) && EV.asc ((g.map nD).map toN))) = true
  rw [inR_n h1, toN_n, asc_of h2]
  cases g with
  | nil => exact absurd rfl h0
  | cons a g => rfl
theorem val_tN {g : List Nat} (h : g.length ≤ 1000) : Val (tN g) := ⟨lay_tN 39 g, by unfold tN topLen; simpa using h⟩
def RisOk (Φ : Fn) : Prop := ∀ (v : D) (m : Nat), Val v → 1 ≤ m → Pu Φ [.d v, .d (.int ((m : Int) - 1))] (.bl (risB m v))
theorem group_ok {Φ : Fn} (hR : RisOk Φ) {n : Nat} {g : List Nat} (hn : 1 ≤ n) (h0 : g ≠ []) (h1 : ∀ x ∈ g, x < n) (h2 : g.Pairwise (· < ·)) (hl : g.length ≤ 6) : Pu (body0 2 (t_is_group Φ)) [.d (tN g), .d (nD n)] (.bl true) := .of0 fun S hS => by
  unfold t_is_group
  fail "AFHUVWZqtx3?"
  refine (hR (tN g) n (val_tN (by omega)) hn).ok hS ?_
  fail "AFHUVWZqtx3?"
  rw [ris_g h0 h1 h2]
  exact ⟨rfl, rfl⟩
def gD (gs : List (List Nat)) : D := .tup (gs.map tN)
theorem f_lenG (gs : List (List Nat)) : fLen [gD gs] = some (.int gs.length) := by
  unfold gD
  rw [f_lenT, List.length_map]
def iL (g : List Nat) : List Int := g.map fun (i : Nat) => (i : Int)
theorem intsD_n : ∀ g : List Nat, intsD (g.map nD) = some (iL g)
  | [] => rfl
  | x :: g => by
    show (intsD (g.map nD)).map ((x : Int) :: ·) = _
    rw [intsD_n g]
    rfl
theorem tupsI_g : ∀ gs : List (List Nat), tupsI (gs.map tN) = some (gs.map iL)
  | [] => rfl
  | g :: gs => by
    rw [List.map_cons]
    unfold tupsI
    rw [tupsI_g gs, show tupI (tN g) = some (iL g) from intsD_n g]
    rfl
theorem iL_inj {a b : List Nat} (h : iL a = iL b) : a = b := by
  unfold iL at h
  exact List.map_inj_right (f := fun (i : Nat) => (i : Int)) (fun x y e => by have e2 : (x : Int) = (y : Int) := e; omega) |>.mp h
theorem count_nd : ∀ {gs : List (List Nat)}, gs.Nodup → countD (gs.map iL) = gs.length
  | [], _ => rfl
  | g :: gs, h => by
    obtain ⟨h1, h2⟩ := List.nodup_cons.mp h
    rw [List.map_cons]
    unfold countD
    rw [if_neg, count_nd h2]
    · rfl
    · intro z
      obtain ⟨x, hx, e⟩ := List.mem_map.mp z
      rw [iL_inj e] at hx
      exact h1 hx
theorem isA_ok {cs : List Nat} {v : D} (h : ordD cs v = true) : isAny [isT "list" cs, isT "tuple" cs] v = some (isLstD v || isTupD v) := by
  unfold isAny isAny
  rw [isT_list h, isT_tuple h]
  cases v <;> rfl
def GrpOk (Φ : Fn) : Prop := ∀ (n : Nat) (g : List Nat), 1 ≤ n → g ≠ [] → (∀ x ∈ g, x < n) → g.Pairwise (· < ·) → g.length ≤ 6 → Pu Φ [.d (tN g), .d (nD n)] (.bl true)
theorem lay_gD (gs : List (List Nat)) : Lay 40 (gD gs) := lay_tup (lays_tN 38 gs)
theorem groups_ok {ics : List Nat} {Φ : Fn} (hG : GrpOk Φ) {n : Nat} {gs : List (List Nat)} (G : Good n gs) : Pu (body0 4 (t_are_groups ics Φ)) [.d (gD gs), .d (nD n)] (.bl true) := .of0 fun S hS => by
  have ho : ordD ics (gD gs) = true := (lay_gD gs).ord
  have hl := G.len
  unfold t_are_groups
  (repeat' first | refine vq (isA_ok ho) ?_ | refine vq (f_lenG gs) ?_ | fail "ABEFHILMPRUVWXZbdjlmnqrstuvx69!#.:;?[ÀÁ")
  refine cq_f rfl ?_
  (repeat' first | refine vq (isA_ok ho) ?_ | refine vq (f_lenG gs) ?_ | fail "ABEFHILMPRUVWXZbdjlmnqrstuvx69!#.:;?[ÀÁ")
  refine cq_f (by simp; omega) ?_
  fail "ABEFHILMPRUVWXZbdjlmnqrstuvx69!#.:;?[À"
  refine ok_lcM tN gs (fun _ => .bl true) ?_
  (repeat' first | refine vq (show items (gD gs) = some (gs.map tN) from rfl) ?_ | fail "ABEFHILMPRUVWXZbdjlmnqrstuvx69!#.:;?[ÀÁ")
  refine ⟨rfl, by omega, fun g hg => ?_, ?_⟩
  · fail "ABEFHILMPRUVWXZbdjlmnqrstuvx69!#.:;?[À"
    exact (hG n g G.n1 (G.ne g hg) (G.lt g hg) (G.asc g hg) (G.glen hg)).ok hS ⟨rfl, rfl⟩
  (repeat' first | refine vq (f_allM gs (fun _ => true)) ?_ | fail "ABEFHILMPRUVWXZbdjlmnqrstuvx69!#.:;?[ÀÁ")
  refine cq_f (by simp) ?_
  refine ok_op2 (ok_lenset ?_)
  (repeat' first | refine vq (show seqD (gD gs) = some (gs.map tN) from rfl) ?_ | refine vq (tupsI_g gs) ?_ | refine vq (f_lenG gs) ?_ | fail "ABEFHILMPRUVWXZbdjlmnqrstuvx69!#.:;?[ÀÁ")
  rw [count_nd G.nodup]
  refine cq_f (by simp) ?_
  fail "ABEFHILMPRUVWXZbdjlmnqrstuvx69!#.:;?[À"
  refine ok_lcM nD (List.range n) (fun _ => .bl true) ?_
  have := G.n6
  fail "ABEFHILMPRUVWXZbdjlmnqrstuvx69!#.:;?[À"
  refine ⟨upto0 n, by simp; omega, fun m hm => ?_, ?_⟩
  · fail "ABEFHILMPRUVWXZbdjlmnqrstuvx69!#.:;?[À"
    refine vq (o_inT [m] gs) ⟨rfl, ?_⟩
    rw [decide_eq_true (G.single m (List.mem_range.mp hm))]
  (repeat' first | refine vq (f_allM _ (fun _ => true)) ?_ | fail "ABEFHILMPRUVWXZbdjlmnqrstuvx69!#.:;?[ÀÁ")
  exact ⟨by simp, rfl⟩
end EV
namespace EV
open PySem L2 Tx
section
variable {ρ : Env'} {S : Store}
def LdQ (ft : Nat → List Str) (f : Str) (w : W) (K : D → Prop) : Prop := ∃ c fs ds d, w = .d (.ins c fs ds) ∧ (ft c).contains f = true ∧ look2 f fs ds = some d ∧ K d
theorem ok_fld {ft : Nat → List Str} {f : Str} {g : Sm} {Q : W → Store → Prop} (h : Ok (g ρ S) fun w S1 => LdQ ft f w fun d => Q (.d d) S1) : Ok (cFld ft f g ρ S) Q :=
  ok_bind (h.mono fun w S1 h => by
    obtain ⟨c, fs, ds, d, rfl, h1, h2, q⟩ := h
    dsimp only
    rw [if_pos h1, h2]
    exact .mk q)
theorem ok_fldW {ft : Nat → List Str} {f : Str} {g v : Sm} {Q : F → Store → Prop} (h : Ok (v ρ S) fun w S1 => Ok (g ρ S1) fun o S2 => ∃ k c fs, o = .c k ∧ S2[k]? = some (.obj c fs) ∧ ((ft c).contains f = true ∧ fs.length < 900) ∧ Q (.nx ρ) (S2.set k (.obj c (putW f w fs)))) : Ok (sFldW ft f g v ρ S) Q :=
  ok_bind (h.mono fun w S1 h => ok_bind (h.mono fun o S2 h => by
    obtain ⟨k, c, fs, rfl, h1, h2, q⟩ := h
    dsimp only
    rw [h1]
    dsimp only
    rw [if_pos h2]
    exact .mk q))
theorem ok_make {c np c' : Nat} {Φ : Fn} {g : SmL} {Q : W → Store → Prop} (h : Ok (g ρ S) fun ws S1 => ws.length + 1 = np ∧ AllL S1 ∧ ∃ fs ds, Φ (.c S1.length :: ws) (S1 ++ [.obj c []]) = .ok (.d .non) (S1 ++ [.obj c' fs]) ∧ fldsD S1.length (S1 ++ [.obj c' fs]) fs = some ds ∧ Q (.d (.ins c' (fs.map (·.1)) ds)) S1) : Ok (cMake c np Φ g ρ S) Q :=
  ok_bind (h.mono fun ws S1 h => by
    obtain ⟨h1, hS, fs, ds, h2, h3, q⟩ := h
    have hc : closed S1.length (S1 ++ [.obj c' fs]) = true := by
      unfold closed
      rw [List.take_left' rfl]
      have z := hS
      unfold AllL closed at z
      rwa [List.take_length] at z
    rw [if_pos (show (EV.W.c S1.length :: ws).length = np from h1), h2]
    dsimp only
    rw [if_pos hc, show (S1 ++ [Cell.obj c' fs])[S1.length]? = some (.obj c' fs) from get_top]
    dsimp only
    rw [h3]
    dsimp only
    rw [List.take_left' rfl]
    exact .mk q)
end
abbrev colD (C n : Nat) (gs : List (List Nat)) : D := .ins C ["n", "groups"] [nD n, gD gs]
structure FtOk (ft : Nat → List Str) (C : Nat) : Prop where
  n : (ft C).contains "n" = true
  g : (ft C).contains "groups" = true
theorem nne : ¬ (("n" : Str) = "groups") := by decide
theorem ld_n {ft : Nat → List Str} {C n : Nat} {gs : List (List Nat)} {K : D → Prop} (h : FtOk ft C) (k : K (nD n)) : LdQ ft "n" (.d (colD C n gs)) K := ⟨_, _, _, _, rfl, h.n, by unfold look2; rw [if_pos rfl], k⟩
theorem ld_g {ft : Nat → List Str} {C n : Nat} {gs : List (List Nat)} {K : D → Prop} (h : FtOk ft C) (k : K (gD gs)) : LdQ ft "groups" (.d (colD C n gs)) K := ⟨_, _, _, _, rfl, h.g, by
  unfold look2
  rw [if_neg nne]
  unfold look2
  rw [if_pos rfl], k⟩
def WinOk (Φ : Fn) (ics : List Nat) : Prop := ∀ x a b, ordD ics x = true → Pu Φ [.d x, .d (.int a), .d (.int b)] (.bl (isW x a b))
def AreOk (Φ : Fn) : Prop := ∀ (n : Nat) gs, Good n gs → Pu Φ [.d (gD gs), .d (nD n)] (.bl true)
theorem allL_obj {S : Store} {C : Nat} (h : AllL S) : AllL (S ++ [.obj C []]) := h.app rfl
theorem init_ok {ft : Nat → List Str} {ics : List Nat} {c1 c2 C : Nat} {Φ Φ' : Fn} (hf : FtOk ft C) (hW : WinOk Φ ics) (hA : AreOk Φ') {n : Nat} {gs : List (List Nat)} (G : Good n gs) {S : Store} (hS : AllL S) :
    body0 3 (t_Collection_init ft c1 c2 Φ Φ') [.c S.length, .d (nD n), .d (gD gs)] (S ++ [.obj C []]) = .ok (.d .non) (S ++ [.obj C [("n", .d (nD n)), ("groups", .d (gD gs))]]) := by
  have key : Ok (body0 3 (t_Collection_init ft c1 c2 Φ Φ') [.c S.length, .d (nD n), .d (gD gs)] (S ++ [.obj C []])) fun w S' => w = .d .non ∧ S' = S ++ [.obj C [("n", .d (nD n)), ("groups", .d (gD gs))]] := by
    refine ok_body ?_
    unfold t_Collection_init
    have hS1 := allL_obj (C := C) hS
    have h1 := G.n1
    have h6 := G.n6
    fail "ABEIPUVWZjlmnqrstuvy&(?À"
    refine (hW (nD n) 1 6 rfl).ok hS1 ?_
    fail "ABEIPUVWZjlmnqrstuvy&(?À"
    rw [show isW (nD n) 1 6 = true by
      show (decide (1 ≤ (n : Int)) && decide ((n : Int) ≤ 6)) = true
      simp
      omega]
    refine cq_f rfl ?_
    fail "ABEIPUVWZjlmnqrstuvy&(?À"
    refine (hA n gs G).ok hS1 ?_
    fail "ABEIPUVWZjlmnqrstuvy&(?À"
    refine cq_f rfl ?_
    fail "ABEIPUVWZjlmnqrstuvy&(?À"
    refine ok_fldW ?_
    fail "ABEIPUVWZjlmnqrstuvy&(?À"
    refine ⟨_, _, _, rfl, get_top, ⟨hf.n, (show 0 < 900 by decide)⟩, ?_⟩
    rw [set_top]
    fail "ABEIPUVWZjlmnqrstuvy&(?À"
    refine ok_fldW ?_
    (repeat' first | refine vq (show fTuple [gD gs] = some (gD gs) from rfl) ?_ | fail "ABEIPUVWZjlmnqrstuvy&(?ÀÁ")
    refine ⟨_, _, _, rfl, get_top, ⟨hf.g, (show 1 < 900 by decide)⟩, ?_⟩
    rw [set_top]
    fail "ABEIPUVWZjlmnqrstuvy&(?À"
    refine ⟨rfl, ?_⟩
    show _ ++ [Cell.obj C (if ("n" : Str) = "groups" then _ else _)] = _
    rw [if_neg nne]
    rfl
  obtain ⟨w, S', e, rfl, rfl⟩ := key.get
  exact e
/-- making of a collection -/
def MakeOk (Φ : Fn) (C : Nat) : Prop := ∀ (n : Nat) gs S, Good n gs → AllL S → Φ [.c S.length, .d (nD n), .d (gD gs)] (S ++ [.obj C []]) = .ok (.d .non) (S ++ [.obj C [("n", .d (nD n)), ("groups", .d (gD gs))]])
theorem ok_coll {ρ : Env'} {S S1 : Store} {C : Nat} {Φ : Fn} {g : SmL} {n : Nat} {gs : List (List Nat)} {Q : W → Store → Prop} (hM : MakeOk Φ C) (G : Good n gs) (h : Ok (g ρ S) fun ws S1 => ws = [.d (nD n), .d (gD gs)] ∧ AllL S1 ∧ Q (.d (colD C n gs)) S1) : Ok (cMake C 3 Φ g ρ S) Q :=
  ok_make (h.mono fun ws S1 h => by
    obtain ⟨rfl, hS, q⟩ := h
    exact ⟨rfl, hS, _, _, hM n gs S1 G hS, rfl, q⟩)
theorem put_two {i j : Nat} {a b : D} {ρ : Env'} : (Tg.many [.one i, .one j]).put (.tup [a, b]) ρ = some ((ρ.set i (some (.d a))).set j (some (.d b))) := rfl
/-- the places of a member -/
def plc (gs : List (List Nat)) (m : Nat) : List Nat := (List.range gs.length).filter fun p => decide (m ∈ gs.getD p [])
end EV
namespace EV
open PySem L2 Tx
theorem ok_forX {X : Type} {ρ : Env'} {S : Store} {t : Tg} {b : SmS} {Q : F → Store → Prop} {g : X → D} (I : List X → Env' → Store → Prop) (xs : List X) (h0 : I [] ρ S)
    (hs : ∀ pre x post ρ S, xs = pre ++ x :: post → I pre ρ S → VQ (t.put (g x) ρ) fun ρ1 => Ok (b ρ1 S) (FQ (I (pre ++ [x])) Q)) (hd : ∀ ρ S, I xs ρ S → Q (.nx ρ) S) : Ok (forL t b (xs.map g) ρ S) Q := by
  have key : ∀ (ys pre : List X) (ρ : Env') (S : Store), xs = pre ++ ys → I pre ρ S → Ok (forL t b (ys.map g) ρ S) Q := fun ys => by
    induction ys with
    | nil =>
      intro pre ρ S e hI
      rw [List.append_nil] at e
      rw [← e] at hI
      exact .mk (hd ρ S hI)
    | cons y ys ih =>
      intro pre ρ S e hI
      obtain ⟨ρ1, h1, h2⟩ := hs pre y ys ρ S e hI
      have next : ∀ ρ2 S1, I (pre ++ [y]) ρ2 S1 → Ok (forL t b (ys.map g) ρ2 S1) Q := fun ρ2 S1 hI => ih (pre ++ [y]) ρ2 S1 (by rw [e]; simp) hI
      rw [List.map_cons]
      unfold forL
      rw [h1]
      refine ok_bind (h2.mono fun r S1 h => ?_)
      cases r with
      | nx ρ2 => exact next ρ2 S1 h
      | ct ρ2 => exact next ρ2 S1 h
      | bk ρ2 => exact .mk h
      | rt w => exact .mk h
  exact key xs [] ρ S rfl h0
def mem (gs : List (List Nat)) (ps : List Nat) : List Nat := ps.flatMap fun p => gs.getD p []
/-- whether v is a lot -/
def lotB (n : Nat) (gs : List (List Nat)) (v : D) : Bool := risB gs.length v && match v with
  | .tup ds => decide (sortN (mem gs (ds.map toN)) = List.range n)
  | _ => false
theorem ris_tN {m : Nat} {ps : List Nat} (h : ∀ p ∈ ps, p < m) : risB m (tN ps) = (!ps.isEmpty && asc ps) := by
  show (!(ps.map nD).isEmpty && ((ps.map nD).all (inR m) && asc ((ps.map nD).map toN))) = _
  rw [inR_n h, toN_n]
  cases ps <;> rfl
theorem lotB_tN {n : Nat} {gs : List (List Nat)} {ps : List Nat} : lotB n gs (tN ps) = (risB gs.length (tN ps) && decide (sortN (mem gs ps) = List.range n)) := by
  show (_ && decide (sortN (mem gs ((ps.map nD).map toN)) = List.range n)) = _
  rw [toN_n]
theorem getD_mem {gs : List (List Nat)} {p : Nat} (h : p < gs.length) : gs.getD p [] ∈ gs := by
  rw [List.getD_eq_getElem?_getD, List.getElem?_eq_getElem h]
  exact List.getElem_mem h
theorem sum_le6 {X : Type} {f : X → Nat} : ∀ {xs : List X}, (∀ x ∈ xs, f x ≤ 6) → (xs.map f).sum ≤ 6 * xs.length
  | [], _ => by simp
  | x :: xs, h => by
    have := sum_le6 (xs := xs) fun y hy => h y (List.mem_cons_of_mem _ hy)
    have := h x (List.mem_cons_self ..)
    simp only [List.map_cons, List.sum_cons, List.length_cons]
    omega
def numB (m : Nat) (v : D) : Bool := match v with
  | .tup ds => ds.all (inR m)
  | _ => false
theorem all_filter {X : Type} (p : X → Bool) : ∀ xs : List X, (xs.filter fun x => !p x).isEmpty = xs.all p
  | [] => rfl
  | x :: xs => by
    have ih := all_filter p xs
    rw [List.filter_cons, List.all_cons, ← ih]
    cases p x <;> rfl
def WholeOk (Φ : Fn) (ics : List Nat) : Prop := ∀ x, ordD ics x = true → Pu Φ [.d x] (.bl (isIntD x))
theorem numbers_ok {ics : List Nat} {Φ : Fn} (hI : WholeOk Φ ics) {v : D} {m : Nat} (hv : Val v) : Pu (body0 3 (t__law_is_numbers ics Φ)) [.d v, .d (nD m)] (.bl (numB m v)) := .of0 fun S hS => by
  unfold t__law_is_numbers
  have ho : ordD ics v = true := hv.lay.ord
  cases v with
  | tup ds =>
    have hl : ds.length ≤ 1000 := hv.len
    (repeat' first | (refine vq (isT_tuple ho) ?_) | fail "ABEFHLNPRUVWZbjlmnqtuvx478.:;?ÀÁ")
    refine cq_f rfl ?_
    fail "ABEFHLNPRUVWZbjlmnqtuvx478.:;?À"
    refine ok_lcX (fun d => d) ds (fun d => !inR m d) (fun d => d) ?_
    fail "ABEFHLNPRUVWZbjlmnqtuvx478.:;?À"
    refine ⟨(List.map_id' ds).symm, by omega, fun d hd => ?_, ?_⟩
    · have hd' := (hv.els d hd).ord (cs := ics)
      fail "ABEFHLNPRUVWZbjlmnqtuvx478.:;?À"
      refine ⟨?_, fun _ => ?_⟩
      · fail "ABEFHLNPRUVWZbjlmnqtuvx478.:;?À"
        refine (hI d hd').ok hS ?_
        fail "ABEFHLNPRUVWZbjlmnqtuvx478.:;?À"
        cases d with
        | int i =>
          refine cq_f rfl ?_
          fail "ABEFHLNPRUVWZbjlmnqtuvx478.:;?À"
          refine ⟨fun h => ?_, fun h => ?_⟩
          · refine ⟨rfl, ?_⟩
            have := of_decide_eq_true h
            show W.d (D.bl true) = W.d (D.bl (!(decide (0 ≤ i) && decide (i < m))))
            rw [decide_eq_false (by omega)]
            rfl
          · fail "ABEFHLNPRUVWZbjlmnqtuvx478.:;?À"
            refine ⟨rfl, ?_⟩
            have := of_decide_eq_false h
            show W.d (D.bl (decide ((m : Int) ≤ i))) = W.d (D.bl (!(decide (0 ≤ i) && decide (i < m))))
            rw [decide_eq_true (show 0 ≤ i by omega)]
            congr 2
            by_cases z : i < m
            · rw [decide_eq_true z, decide_eq_false (by omega)]
              rfl
            · rw [decide_eq_false z, decide_eq_true (by omega)]
              rfl
        | _ =>
          refine cq_t rfl ?_
          exact ⟨rfl, rfl⟩
      · fail "ABEFHLNPRUVWZbjlmnqtuvx478.:;?À"
        exact ⟨rfl, rfl⟩
    rw [List.map_id']
    fail "ABEFHLNPRUVWZbjlmnqtuvx478.:;?À"
    refine vq (o_eqNil (lays_iff.mpr fun x hx => (hv.els x (List.mem_filter.mp hx).1).mono (by omega))) ?_
    fail "ABEFHLNPRUVWZbjlmnqtuvx478.:;?À"
    rw [all_filter]
    exact ⟨rfl, rfl⟩
  | _ =>
    (repeat' first | (refine vq (isT_tuple ho) ?_) | fail "ABEFHLNPRUVWZbjlmnqtuvx478.:;?ÀÁ")
    refine cq_t rfl ?_
    fail "ABEFHLNPRUVWZbjlmnqtuvx478.:;?À"
    exact ⟨rfl, rfl⟩
def NumOk (Φ : Fn) : Prop := ∀ (v : D) (m : Nat), Val v → Pu Φ [.d v, .d (nD m)] (.bl (numB m v))
theorem due_ok (b c : Bool) : Pu (body0 2 t__law_is_due) [.d (.bl b), .d (.bl c)] (.bl (decide (b = c))) := .of0 fun S hS => by
  unfold t__law_is_due
  fail "AFHSWlqtxÀ"
  refine ⟨fun h => ?_, fun h => ?_⟩
  · subst h
    (repeat' first | refine vq (show oIs false (.bl b) (.bl true) = some (.bl (false != decide (b = true))) from rfl) ?_ | fail "AFHSWlqtxÀÁ")
    exact ⟨by cases b <;> rfl, rfl⟩
  · subst h
    (repeat' first | refine vq (show oIs false (.bl b) (.bl false) = some (.bl (false != decide (b = false))) from rfl) ?_ | fail "AFHSWlqtxÀÁ")
    exact ⟨by cases b <;> rfl, rfl⟩
end EV
namespace EV
open PySem L2 Tx
def ownN (gs : List (List Nat)) (ps : List Nat) (m : Nat) : Nat := (ps.filter fun p => decide (m ∈ gs.getD p [])).getD 0 0
theorem own_ne {n m : Nat} {gs : List (List Nat)} {ps : List Nat} (h : sortN (mem gs ps) = List.range n) (hm : m < n) : (ps.filter fun p => decide (m ∈ gs.getD p [])) ≠ [] := fun z => by
  have h1 : m ∈ mem gs ps := (sortN_perm (mem gs ps)).subset (by rw [h]; exact List.mem_range.mpr hm)
  obtain ⟨p, hp, hq⟩ := List.mem_flatMap.mp h1
  have : p ∈ ps.filter fun p => decide (m ∈ gs.getD p []) := List.mem_filter.mpr ⟨hp, decide_eq_true hq⟩
  rw [z] at this
  cases this
end EV
namespace EV
open PySem L2 Tx
/-- who is left -/
def left (n : Nat) (dn : List Nat) : List Nat := (List.range n).filter fun m => !decide (m ∈ dn)
def free (gs : List (List Nat)) (dn : List Nat) (p : Nat) : Bool := !(gs.getD p []).any fun x => decide (x ∈ dn)
def kids (gs : List (List Nat)) (dn : List Nat) (m : Nat) : List Nat := (plc gs m).filter (free gs dn)
def lotsT (n : Nat) (gs : List (List Nat)) : Nat → List Nat → List Nat → List (List Nat)
  | 0, tk, _ => [sortN tk]
  | f + 1, tk, dn => match left n dn with
    | [] => [sortN tk]
    | m :: _ => (kids gs dn m).flatMap fun p => lotsT n gs f (tk ++ [p]) (dn ++ gs.getD p [])
theorem nodup_le {α : Type} [BEq α] [LawfulBEq α] : ∀ {L M : List α}, L.Nodup → (∀ x ∈ L, x ∈ M) → L.length ≤ M.length
  | [], _, _, _ => Nat.zero_le _
  | x :: L, M, h, k => by
    obtain ⟨h1, h2⟩ := List.nodup_cons.mp h
    have hx := k x (List.mem_cons_self ..)
    have ih := nodup_le (M := M.erase x) h2 fun y hy => (List.mem_erase_of_ne (fun e => h1 (by rw [← e]; exact hy))).mpr (k y (List.mem_cons_of_mem _ hy))
    rw [List.length_erase_of_mem hx] at ih
    have := List.length_pos_of_mem hx
    simp only [List.length_cons]
    omega
theorem mem_plc {gs : List (List Nat)} {m p : Nat} : p ∈ plc gs m ↔ p < gs.length ∧ m ∈ gs.getD p [] := by
  unfold plc
  rw [List.mem_filter, List.mem_range]
  simp
theorem sum_leB {X : Type} {f : X → Nat} {B : Nat} : ∀ {xs : List X}, (∀ x ∈ xs, f x ≤ B) → (xs.map f).sum ≤ xs.length * B
  | [], _ => by simp
  | x :: xs, h => by
    have := sum_leB (xs := xs) fun y hy => h y (List.mem_cons_of_mem _ hy)
    have := h x (List.mem_cons_self ..)
    simp only [List.map_cons, List.sum_cons, List.length_cons, Nat.succ_mul]
    omega
end EV
namespace EV
open PySem L2 Tx
/-- a def that gives a new list and leaves the cells as they were -/
def Lc (Φ : Fn) (ws : List W) (L : List D) : Prop := ∀ S ρ, AllL S → fin ρ S.length (Φ ws S) = .ok (.c S.length) (S ++ [.lst true L])
theorem Lc.ok {Φ : Fn} {ws : List W} {L : List D} (h : Lc Φ ws L) {S : Store} {ρ : Env'} {Q : W → Store → Prop} (hS : AllL S) (q : Q (.c S.length) (S ++ [.lst true L])) : Ok (fin ρ S.length (Φ ws S)) Q := ok_of (h S ρ hS) q
theorem Lc.of {N : Nat} {b : SmS} {ws : List W} {L : List D} (h : ∀ S, AllL S → Ok (b (ws.map some ++ List.replicate (N - ws.length) none) S) (BQ fun w S' => (∃ T, AllL T ∧ S' = S ++ T) ∧ ∃ k, S.length ≤ k ∧ w = .c k ∧ S'[k]? = some (.lst true L))) : Lc (body0 N b) ws L := fun S ρ hS => by
  obtain ⟨w, S', e, ⟨T, hT, rfl⟩, k, hk, rfl, hc⟩ := (ok_body (h S hS)).get
  rw [e]
  have z := fin_c (ρ := ρ) (Q := fun w S1 => w = .c S.length ∧ S1 = S ++ [.lst true L]) hS.closedApp hk hc ⟨rfl, by rw [List.take_left' rfl]⟩
  obtain ⟨w, S1, e2, rfl, rfl⟩ := z.get
  exact e2
theorem sum_mem {l : List Nat} {x : Nat} (h : x ∈ l) : x ≤ l.sum := by
  induction l with
  | nil => cases h
  | cons a l ih =>
    rcases List.mem_cons.mp h with z | z
    · subst z
      simp
    · have := ih z
      simp
      omega
theorem f_lenM {X : Type} {g : X → D} (xs : List X) : fLen [.lst (xs.map g)] = some (.int xs.length) := by rw [f_lenL, List.length_map]
theorem tN_app (a b : List Nat) : tN (a ++ b) = .tup (a.map nD ++ b.map nD) := by
  unfold tN
  rw [List.map_append]
end EV
namespace EV
open PySem L2 Tx
def fz : Nat := 5
/-- what hangs below the places taken -/
def low (n : Nat) (gs : List (List Nat)) (tk : List Nat) : List (List Nat) := lotsT n gs (fz + 1) tk (mem gs tk)
theorem mem_app (gs : List (List Nat)) (tk : List Nat) (p : Nat) : mem gs (tk ++ [p]) = mem gs tk ++ gs.getD p [] := by
  unfold mem
  rw [List.flatMap_append, List.flatMap_singleton]
section
variable {n : Nat} {gs : List (List Nat)} {tk : List Nat}
/-- what a row of places on the way keeps -/
structure Way (n : Nat) (gs : List (List Nat)) (tk : List Nat) : Prop where
  lt : ∀ p ∈ tk, p < gs.length
  nd : tk.Nodup
  md : (mem gs tk).Nodup
theorem way_nil : Way n gs [] := ⟨fun _ h => (nomatch h), .nil, .nil⟩
theorem Way.mlt (G : Good n gs) (w : Way n gs tk) : ∀ m ∈ mem gs tk, m < n := fun m hm => by
  obtain ⟨p, hp, h⟩ := List.mem_flatMap.mp hm
  exact G.lt _ (getD_mem (w.lt p hp)) m h
theorem Way.len (G : Good n gs) (w : Way n gs tk) : (mem gs tk).length ≤ 6 := by
  have h := nodup_le (M := List.range n) w.md fun x hx => List.mem_range.mpr (w.mlt G x hx)
  rw [List.length_range] at h
  exact Nat.le_trans h G.n6
/-- a lot -/
structure Lot (n : Nat) (gs : List (List Nat)) (l : List Nat) : Prop where
  lt : ∀ p ∈ l, p < gs.length
  asc : asc l = true
  all : sortN (mem gs l) = List.range n
theorem sorted_unique {a b : List Nat} (h : a.Perm b) (ha : a.Pairwise (· ≤ ·)) (hb : b.Pairwise (· ≤ ·)) : a = b := h.eq_of_pairwise (fun x y _ _ h1 h2 => by omega) ha hb
end
theorem Lot.ne {n : Nat} {gs : List (List Nat)} (G : Good n gs) {l : List Nat} (h : Lot n gs l) : l ≠ [] := fun z => by
  subst z
  have q := congrArg List.length h.all
  have := G.n1
  simp [mem, sortN] at q
  omega
theorem Lot.B {n : Nat} {gs : List (List Nat)} (G : Good n gs) {l : List Nat} (h : Lot n gs l) : lotB n gs (tN l) = true := by
  rw [lotB_tN, ris_tN h.lt, h.asc, decide_eq_true h.all]
  cases l with
  | nil => exact absurd rfl (h.ne G)
  | cons a l => rfl
theorem Lot.len {n : Nat} {gs : List (List Nat)} (G : Good n gs) {l : List Nat} (h : Lot n gs l) : l.length ≤ 24 := Nat.le_trans (asc_le (of_asc h.asc) h.lt) G.len
end EV
namespace EV
open PySem L2 Tx
def pr (gs : List (List Nat)) (tk : List Nat) : D := .tup [tN tk, tN (mem gs tk)]
theorem l_app {xs : List D} {d : D} (h : xs.length < 16777216) : lAppend xs [d] = some (xs ++ [d], .non) := by
  unfold lAppend
  dsimp only
  rw [if_pos h]
theorem vp {α β : Type} {o : Option (α × β)} {K : α → β → Prop} {a : α} {b : β} (h : o = some (a, b)) (k : K a b) : VP o K := ⟨a, b, h, k⟩
theorem l_pop {xs : List D} {d : D} : lPop (xs ++ [d]) [] = some (xs, d) := by
  unfold lPop
  dsimp only
  rw [List.length_append, List.length_singleton, show xs.length + 1 - 1 = xs.length by omega, List.getElem?_append_right (Nat.le_refl _), Nat.sub_self, List.dropLast_concat]
  rfl
theorem isE_map {α β : Type} (f : α → β) (l : List α) : (l.map f).isEmpty = l.isEmpty := by cases l <;> rfl
end EV
namespace EV
open PySem L2 Tx
/-- a run that may have changed the box k and made cells -/
structure Rn (k : Nat) (S S' : Store) : Prop where
  all : AllL S'
  box : BoxAt S' k
  len : S.length ≤ S'.length
  old : ∀ j, j < S.length → j ≠ k → S'[j]? = S[j]?
theorem BS.rn {k : Nat} {S S' : Store} (h : BS k S S') : Rn k S S' := ⟨h.all, h.box, by rw [h.len]; exact Nat.le_refl _, fun j _ hj => h.other hj⟩
theorem Rn.refl {k : Nat} {S : Store} (h : AllL S) (b : BoxAt S k) : Rn k S S := ⟨h, b, Nat.le_refl _, fun _ _ _ => rfl⟩
theorem Rn.trans {k : Nat} {S S1 S2 : Store} (h : Rn k S S1) (h' : Rn k S1 S2) : Rn k S S2 := ⟨h'.all, h'.box, Nat.le_trans h.len h'.len, fun j hj hk => by rw [h'.old j (Nat.lt_of_lt_of_le hj h.len) hk, h.old j hj hk]⟩
theorem Rn.push {k : Nat} {S S' : Store} (h : Rn k S S') {xs : List D} {m : Bool} : Rn k S (S' ++ [.lst m xs]) := ⟨h.all.push, h.box.app, by rw [List.length_append]; have := h.len; omega, fun j hj hk => by
  rw [List.getElem?_append_left (Nat.lt_of_lt_of_le hj h.len), h.old j hj hk]⟩
theorem Rn.set {k i : Nat} {S S' : Store} (h : Rn k S S') (hi : S.length ≤ i) (hik : i ≠ k) {xs : List D} {m : Bool} : Rn k S (S'.set i (.lst m xs)) := by
  refine ⟨h.all.set i, ?_, by rw [List.length_set]; exact h.len, fun j hj hk => ?_⟩
  · obtain ⟨a, b, e⟩ := h.box
    exact ⟨a, b, by rw [List.getElem?_set_ne hik]; exact e⟩
  · rw [List.getElem?_set_ne (by omega), h.old j hj hk]
theorem Rn.bs {k : Nat} {S S' : Store} (h : Rn k S S') (hS : AllL S) (hk : k < S.length) : BS k S (S'.take S.length) := by
  obtain ⟨a, b, e⟩ := h.box
  have eq : S'.take S.length = S.set k (.lst true [.int a, .int b]) := by
    refine List.ext_getElem? fun i => ?_
    by_cases hi : i < S.length
    · rw [List.getElem?_take_of_lt hi]
      by_cases z : i = k
      · subst z
        rw [e, List.getElem?_set_self hi]
      · rw [h.old i hi z, List.getElem?_set_ne (fun y => z y.symm)]
    · rw [List.getElem?_eq_none (by rw [List.length_take]; omega), List.getElem?_eq_none (by rw [List.length_set]; omega)]
  exact ⟨by rw [eq]; exact hS.set k, ⟨a, b, by rw [List.getElem?_take_of_lt hk]; exact e⟩, _, eq⟩
theorem Rn.closed {k : Nat} {S S' : Store} (h : Rn k S S') (hS : AllL S) (hk : k < S.length) : closed S.length S' = true := by
  have z := (h.bs hS hk).all
  have l := (h.bs hS hk).len
  unfold AllL EV.closed at z
  rw [l] at z
  unfold EV.closed
  rwa [List.take_take, Nat.min_self] at z
theorem Bx.ofR {N : Nat} {b : SmS} {k : Nat} {ws : List W} {P : D → Prop} (h : ∀ S, AllL S → BoxAt S k → Ok (b (ws.map some ++ List.replicate (N - ws.length) none) S) (BQ fun w S' => Rn k S S' ∧ ∃ d, w = .d d ∧ P d)) : Bx (body0 N b) k ws P := fun S ρ hS hb =>
  ok_fin (ok_body (h S hS hb)) fun w S' q => by
    obtain ⟨hR, d, rfl, hP⟩ := q
    exact fin_d (hR.closed hS hb.lt) ⟨hR.bs hS hb.lt, d, rfl, hP⟩
theorem Bx.ok {Φ : Fn} {k : Nat} {ws : List W} {P : D → Prop} (h : Bx Φ k ws P) {S : Store} {ρ : Env'} {Q : W → Store → Prop} (hS : AllL S) (hb : BoxAt S k) (q : ∀ d S', Rn k S S' → S'.length = S.length → P d → Q (.d d) S') : Ok (fin ρ S.length (Φ ws S)) Q :=
  (h S ρ hS hb).mono fun w S' ⟨hB, d, e, hP⟩ => by
    rw [e]
    exact q d S' hB.rn hB.len hP
theorem TakeOk.ok {Φ : Fn} (h : TakeOk Φ) {k : Nat} {m : Int} (h0 : 0 < m) (h1 : m < 1000000) {S : Store} {ρ : Env'} {Q : W → Store → Prop} (hS : AllL S) (hb : BoxAt S k) (q : ∀ r S', Rn k S S' → S'.length = S.length → 0 ≤ r → r < m → Q (.d (.int r)) S') : Ok (fin ρ S.length (Φ [.c k, .d (.int m)] S)) Q :=
  (h k m h0 h1).ok hS hb fun d S' hR hl hP => by
    obtain ⟨r, rfl, a, b⟩ := hP
    exact q r S' hR hl a b
/-- a statement, what holds behind it, and what follows -/
theorem ok_mid {a b : SmS} {ρ : Env'} {S : Store} {Q : F → Store → Prop} (mid : Env' → Store → Prop) (h1 : Ok (a ρ S) fun r S1 => ∃ ρ1, r = .nx ρ1 ∧ mid ρ1 S1) (h2 : ∀ ρ1 S1, mid ρ1 S1 → Ok (b ρ1 S1) Q) : Ok (sSeq a b ρ S) Q :=
  ok_seq (h1.mono fun r S1 h => by
    obtain ⟨ρ1, rfl, h⟩ := h
    exact h2 ρ1 S1 h)
theorem f_abs {i : Int} : fAbs [.int i] = some (.int (if i < 0 then -i else i)) := rfl
theorem o_pow18 : oPow (.int 10) (.int 18) = some (.int 1000000000000000000) := rfl
theorem o_mulL {i j : Int} (h : i.natAbs < 18446744073709551616) : oMul (.int i) (.int j) = some (.int (i * j)) := by
  unfold oMul oI cMulB
  dsimp only
  rw [if_pos (by rw [decide_eq_true h]; simp)]
theorem box_ok {ns : List Int} (hl : ns.length ≤ 63) {k : Nat} (hk : k < 1000) {S : Store} {ρ : Env'} (hS : AllL S) {Q : W → Store → Prop} (q : ∀ a b : Int, Q (.c S.length) (S ++ [.lst true [.int a, .int b]])) : Ok (fin ρ S.length (body0 4 t__law_box [.d (.lst (ns.map .int)), .d (nD k)] S)) Q := by
  refine ok_fin (Q' := fun w S' => ∃ a b : Int, w = .c S.length ∧ S' = S ++ [.lst true [.int a, .int b]]) (ok_body ?_) fun w S' h => ?_
  · unfold t__law_box
    refine ok_seq ?_
    (repeat' first | refine vq (o_mulL (i := 7919) (by decide)) ?_ | fail "ACEGHINOUVWjlmnqrstuvx2467!#$%<>?^_`~ÀÁ")
    refine ok_mid (fun ρ1 S1 => S1 = S ∧ ∃ c : Int, ρ1 = [some (.d (.lst (ns.map .int))), some (.d (nD k)), some (.d (.int c)), none]) ?_ fun ρ1 S1 h => ?_
    · fail "ABCEGHINOUVWjlmnqrstuvx2467!#$%<>?^_`~À"
      rw [List.length_map]
      refine ⟨fun h => ?_, fun h => ?_⟩
      · have h1 : k < ns.length := by
          have := of_decide_eq_true h
          omega
        fail "ABCEGHINOUVWjlmnqrstuvx2467!#$%<>?^_`~À"
        refine vq (o_ixL (k := k) rfl (show (ns.map D.int)[k]? = some (.int ns[k]) by rw [List.getElem?_map, List.getElem?_eq_getElem h1]; rfl)) ?_
        (repeat' first | refine vq f_abs ?_ | fail "ABCEGHINOUVWjlmnqrstuvx2467!#$%<>?^_`~ÀÁ")
        exact ⟨_, rfl, rfl, _, rfl⟩
      · fail "ABCEGHINOUVWjlmnqrstuvx2467!#$%<>?^_`~À"
        rw [List.length_map]
        refine ⟨fun h => ?_, fun h => ?_⟩
        · have h1 : 0 < ns.length := by
            have := of_decide_eq_true h
            omega
          fail "ABCEGHINOUVWjlmnqrstuvx2467!#$%<>?^_`~À"
          rw [List.length_map]
          refine vq (o_mod (by omega)) ?_
          have r0 := Int.fmod_nonneg_of_pos (k : Int) (show (0 : Int) < ns.length by omega)
          have r1 := Int.fmod_lt_of_pos (k : Int) (show (0 : Int) < ns.length by omega)
          generalize (k : Int).fmod ns.length = r at r0 r1
          have r2 : r.toNat < ns.length := by omega
          fail "ABCEGHINOUVWjlmnqrstuvx2467!#$%<>?^_`~À"
          refine vq (o_ixL (k := r.toNat) (by omega) (show (ns.map D.int)[r.toNat]? = some (.int ns[r.toNat]) by rw [List.getElem?_map, List.getElem?_eq_getElem r2]; rfl)) ?_
          (repeat' first | refine vq f_abs ?_ | refine vq (o_mulL (i := 7919) (by decide)) ?_ | fail "ABCEGHINOUVWjlmnqrstuvx2467!#$%<>?^_`~ÀÁ")
          exact ⟨_, rfl, rfl, _, rfl⟩
        · fail "ABCEGHINOUVWjlmnqrstuvx2467!#$%<>?^_`~À"
          exact ⟨_, rfl, rfl, _, rfl⟩
    · obtain ⟨rfl, c, rfl⟩ := h
      (repeat' first | refine vq o_pow18 ?_ | fail "ABCEGHINOUVWjlmnqrstuvx2467!#$%<>?^_`~ÀÁ")
      have hx : ∃ a : Int, oIx (.lst [.int 0, .int c]) (.int (if decide (1000000000000000000 ≤ c) = true then 1 else 0)) = some (.int a) := by
        cases decide (1000000000000000000 ≤ c)
        · exact ⟨0, rfl⟩
        · exact ⟨c, rfl⟩
      obtain ⟨a, hx⟩ := hx
      refine vq hx ?_
      (repeat' first | refine vq (o_mulL (i := 613) (by decide)) ?_ | with_reducible refine ok_retW ?_ | fail "ABCEGHINOUVWjlmnqrstuvx2467!#$%<>?^_`~ÀÁ")
      exact ⟨_, _, rfl, rfl⟩
  · obtain ⟨a, b, rfl, rfl⟩ := h
    refine fin_c hS.closedApp (Nat.le_refl _) get_top ?_
    rw [List.take_left' rfl]
    exact q a b
theorem pickL_ok {Φ : Fn} (hT : TakeOk Φ) {k : Nat} {xs : List D} (h0 : xs ≠ []) (hl : xs.length < 1000000) : Bx (body0 2 (t__law_pick Φ)) k [.c k, .d (.lst xs)] (· ∈ xs) := .ofR fun S hS hb => by
  have hp := List.length_pos_iff.mpr h0
  unfold t__law_pick
  fail "AFHIUVZqrstx!#?"
  refine hT.ok (by omega) (by omega) hS hb fun r S' hR _ r0 r1 => ?_
  fail "AFHIUVZqrstx!#?"
  have r2 : r.toNat < xs.length := by omega
  refine vq (o_ixL (k := r.toNat) (by omega) (List.getElem?_eq_getElem r2)) ?_
  fail "AFHIUVZqrstx!#?"
  exact ⟨hR, _, rfl, List.getElem_mem r2⟩
theorem pickT_ok {Φ : Fn} (hT : TakeOk Φ) {k : Nat} {xs : List D} (h0 : xs ≠ []) (hl : xs.length < 1000000) : Bx (body0 2 (t__law_pick Φ)) k [.c k, .d (.tup xs)] (· ∈ xs) := .ofR fun S hS hb => by
  have hp := List.length_pos_iff.mpr h0
  unfold t__law_pick
  fail "AFHIUVZqrstx!#?"
  refine hT.ok (by omega) (by omega) hS hb fun r S' hR _ r0 r1 => ?_
  fail "AFHIUVZqrstx!#?"
  have r2 : r.toNat < xs.length := by omega
  refine vq (o_ixT (k := r.toNat) (by omega) (List.getElem?_eq_getElem r2)) ?_
  fail "AFHIUVZqrstx!#?"
  exact ⟨hR, _, rfl, List.getElem_mem r2⟩
def PickOk (Φ : Fn) : Prop := ∀ k (xs : List D), xs ≠ [] → xs.length < 1000000 → Bx Φ k [.c k, .d (.lst xs)] (· ∈ xs) ∧ Bx Φ k [.c k, .d (.tup xs)] (· ∈ xs)
def ShufOk (Φ : Fn) : Prop := ∀ (k : Nat) (xs : List D) S ρ, xs.length < 100000 → AllL S → BoxAt S k → Ok (fin ρ S.length (Φ [.c k, .d (.lst xs)] S)) fun w S' => w = .c S.length ∧ S'.length = S.length + 1 ∧ Rn k S S' ∧ ∃ ys, S'[S.length]? = some (.lst true ys) ∧ ys.Perm xs
theorem l_ins {xs : List D} {d : D} {i : Int} (h : xs.length < 16777216) (h0 : 0 ≤ i) (h1 : i < 9223372036854775808) : lInsert xs [.int i, d] = some (xs.take i.toNat ++ [d] ++ xs.drop i.toNat, .non) := by
  unfold lInsert
  dsimp only
  rw [if_pos ⟨h, h0, h1⟩]
theorem ins_perm {xs ys : List D} {d : D} {i : Nat} (h : xs.Perm ys) : (xs.take i ++ [d] ++ xs.drop i).Perm (ys ++ [d]) := by
  have e : (xs.take i ++ [d] ++ xs.drop i).Perm (xs.take i ++ xs.drop i ++ [d]) := by
    rw [List.append_assoc, List.append_assoc]
    exact List.Perm.append_left _ List.perm_append_comm
  rw [List.take_append_drop] at e
  exact e.trans (h.append_right _)
theorem fin_cell {ρ : Env'} {S S' : Store} {k : Nat} {ys : List D} {Q : W → Store → Prop} (hS : AllL S) (hk : k < S.length) (h : Rn k S S') {j : Nat} (hj : S.length ≤ j) (hc : S'[j]? = some (.lst true ys)) (q : ∀ S'', Rn k S S'' → S''.length = S.length + 1 → S''[S.length]? = some (.lst true ys) → Q (.c S.length) S'') : Ok (fin ρ S.length (.ok (.c j) S')) Q := by
  have hb := h.bs hS hk
  refine fin_c (h.closed hS hk) hj hc (q _ hb.rn.push ?_ ?_)
  · rw [List.length_append, hb.len]
    rfl
  · exact get_at hb.len
theorem shuf_ok {Φ : Fn} (hT : TakeOk Φ) : ShufOk (body0 4 (t__law_shuffled Φ)) := fun k xs S ρ hl hS hb => by
  refine ok_fin (Q' := fun w S' => Rn k S S' ∧ ∃ ys, w = .c S.length ∧ S'[S.length]? = some (.lst true ys) ∧ ys.Perm xs) (ok_body ?_) fun w S' h => ?_
  · unfold t__law_shuffled
    fail "ABCDGHIOUVWZabimnqrstuvxz12!#.:;<=>?^_"
    have hm : Ok (forL (.one 3) (sDrop (cLm lInsert (cVar 2) (cCons (cCall 2 Φ (cCons (cVar 0) (cCons (cOp2 oAdd (cBi fLen (cCons (cVar 2) cNil)) (cCst (.int 1))) cNil))) (cCons (cVar 3) cNil)))) (xs.map fun d => d) [some (.c k), some (.d (.lst xs)), some (.c S.length), none] (S ++ [.lst true []])) (SQ (sRet false (cVar 2)) (BQ fun w S' => Rn k S S' ∧ ∃ ys, w = .c S.length ∧ S'[S.length]? = some (.lst true ys) ∧ ys.Perm xs)) := by
      refine ok_forX (fun pre ρ S' => Rn k S S' ∧ ∃ ys x3, S'[S.length]? = some (.lst true ys) ∧ ys.Perm pre ∧ ρ = [some (.c k), some (.d (.lst xs)), some (.c S.length), x3]) xs ⟨(Rn.refl hS hb).push, [], none, get_top, .nil, rfl⟩ (fun pre d post ρ S' e hI => ?_) fun ρ S' hI => ?_
      · obtain ⟨hR, ys, x3, hc, hp, rfl⟩ := hI
        have pl : ys.length ≤ xs.length := by
          rw [hp.length_eq, e, List.length_append]
          omega
        fail "ABCDGHIOUVWZabimnqrstuvxz12!#.:;<=>?^_"
        refine hT.ok (by omega) (by omega) hR.all hR.box fun r S2 hR2 hl2 r0 r1 => ?_
        have hc2 : S2[S.length]? = some (.lst true ys) := by
          rw [hR2.old _ (List.getElem?_eq_some_iff.mp hc).1 (fun z => by have := hb.lt; omega)]
          exact hc
        fail "ABCDGHIOUVWZabimnqrstuvxz12!#.:;<=>?^_"
        refine vp (l_ins (by omega) r0 (by omega)) ?_
        fail "ABCDGHIOUVWZabimnqrstuvxz12!#.:;<=>?^_"
        exact ⟨(hR.trans hR2).set (Nat.le_refl _) (fun z => by have := hb.lt; omega), _, _, get_set hc2, ins_perm hp, rfl⟩
      · obtain ⟨hR, ys, x3, hc, hp, rfl⟩ := hI
        (repeat' first | with_reducible refine ok_retW ?_ | fail "ABCDGHIOUVWZabimnqrstuvxz12!#.:;<=>?^_Á")
        exact ⟨hR, ys, rfl, hc, hp⟩
    rw [List.map_id'] at hm
    exact hm
  · obtain ⟨hR, ys, rfl, hc, hp⟩ := h
    exact fin_cell hS hb.lt hR (Nat.le_refl _) hc fun S'' a b c => ⟨rfl, b, a, ys, c, hp⟩
end EV
namespace EV
open PySem L2 Tx
/-- rows of data that are rows of numbers -/
def unT : D → List Nat
  | .tup ds => ds.map toN
  | _ => []
theorem unT_tN (g : List Nat) : unT (tN g) = g := toN_n g
theorem map_un {xs : List D} {L : List (List Nat)} (h : xs.Perm (L.map tN)) : xs = (xs.map unT).map tN ∧ (xs.map unT).Perm L := by
  refine ⟨?_, ?_⟩
  · rw [List.map_map]
    conv => lhs; rw [← List.map_id xs]
    refine List.map_congr_left fun x hx => ?_
    obtain ⟨g, _, rfl⟩ := List.mem_map.mp (h.subset hx)
    show tN g = tN (unT (tN g))
    rw [unT_tN]
  · have := h.map unT
    rw [List.map_map] at this
    have e : L.map (unT ∘ tN) = L := by
      conv => rhs; rw [← List.map_id L]
      exact List.map_congr_left fun g _ => unT_tN g
    rw [e] at this
    exact this
/-- groups of members below n, all unlike -/
structure Pool (n : Nat) (P : List (List Nat)) : Prop where
  nd : P.Nodup
  ok : ∀ g ∈ P, g ≠ [] ∧ g.Pairwise (· < ·) ∧ ∀ m ∈ g, m < n
theorem Pool.filter {n : Nat} {P : List (List Nat)} (h : Pool n P) (q : List Nat → Bool) : Pool n (P.filter q) := ⟨List.Pairwise.filter q h.nd, fun g hg => h.ok g (List.mem_filter.mp hg).1⟩
theorem Pool.perm {n : Nat} {P P' : List (List Nat)} (h : Pool n P) (p : P'.Perm P) : Pool n P' := ⟨p.symm.nodup h.nd, fun g hg => h.ok g (p.subset hg)⟩
theorem Pool.sub {n : Nat} {P P' : List (List Nat)} (h : Pool n P) (p : P'.Sublist P) : Pool n P' := ⟨List.Pairwise.sublist p h.nd, fun g hg => h.ok g (p.subset hg)⟩
theorem Pool.glen {n : Nat} {P : List (List Nat)} (h : Pool n P) {g : List Nat} (hg : g ∈ P) : g.length ≤ n := asc_le (h.ok g hg).2.1 (h.ok g hg).2.2
def allG : Nat → List (List Nat)
  | 0 => [[]]
  | k + 1 => allG k ++ (allG k).map (· ++ [k])
theorem allG_len : ∀ k, (allG k).length = 2 ^ k
  | 0 => rfl
  | k + 1 => by
    unfold allG
    rw [List.length_append, List.length_map, allG_len k, Nat.pow_succ]
    omega
theorem allG_ok : ∀ k, ∀ g ∈ allG k, g.Pairwise (· < ·) ∧ ∀ m ∈ g, m < k
  | 0, g, h => by
    rw [List.mem_singleton.mp h]
    exact ⟨.nil, fun _ z => (nomatch z)⟩
  | k + 1, g, h => by
    rcases List.mem_append.mp h with z | z
    · obtain ⟨a, b⟩ := allG_ok k g z
      exact ⟨a, fun m hm => by have := b m hm; omega⟩
    · obtain ⟨g, hg, rfl⟩ := List.mem_map.mp z
      obtain ⟨a, b⟩ := allG_ok k g hg
      refine ⟨List.pairwise_append.mpr ⟨a, by simp, fun x hx y hy => ?_⟩, fun m hm => ?_⟩
      · rw [List.mem_singleton.mp hy]
        exact b x hx
      · rcases List.mem_append.mp hm with z | z
        · have := b m z; omega
        · rw [List.mem_singleton.mp z]; omega
theorem allG_nd : ∀ k, (allG k).Nodup
  | 0 => by simp [allG]
  | k + 1 => by
    unfold allG
    refine List.nodup_append.mpr ⟨allG_nd k, ?_, fun a ha b hb e => ?_⟩
    · refine List.pairwise_map.mpr ((allG_nd k).imp fun h e => h ?_)
      exact List.append_cancel_right e
    · obtain ⟨g, hg, rfl⟩ := List.mem_map.mp hb
      have := (allG_ok k a ha).2 k (by rw [e]; simp)
      omega
theorem pool_all (n : Nat) : Pool n ((allG n).filter fun g => !g.isEmpty) := ⟨List.Pairwise.filter _ (allG_nd n), fun g hg => by
  obtain ⟨h1, h2⟩ := List.mem_filter.mp hg
  obtain ⟨a, b⟩ := allG_ok n g h1
  refine ⟨fun z => ?_, a, b⟩
  rw [z] at h2
  cases h2⟩
def keyD (g : List Nat) : D := .tup [nD g.length, tN g]
theorem keysR_ok {Φ : Fn} : ∀ {xs : List (List Nat)} {S : Store}, AllL S → (∀ g ∈ xs, ∀ S, AllL S → Ok (Φ [.d (tN g)] S) fun w S' => w = .d (keyD g) ∧ S' = S) → keysR Φ (xs.map tN) S = some (xs.map keyD, S)
  | [], S, _, _ => rfl
  | g :: xs, S, hS, h => by
    obtain ⟨w, S', e, rfl, rfl⟩ := (h g (List.mem_cons_self ..) S hS).get
    rw [List.map_cons]
    unfold keysR
    rw [e, fin_ok hS.wf]
    show (match keysR Φ (xs.map tN) S' with
        | some (ks, S3) => some (keyD g :: ks, S3)
        | none => none) = _
    rw [keysR_ok hS fun g hg => h g (List.mem_cons_of_mem _ hg)]
    rfl
theorem toPys_key : ∀ xss : List (List Nat), toPys (xss.map keyD) = some (xss.map fun g => PyData.tuple [.int (g.length : Int), .tuple (g.map fun (i : Nat) => PyData.int (i : Int))])
  | [] => rfl
  | x :: xs => toPys_c (by
      unfold keyD toPy
      rw [toPys_c (x := nD x.length) rfl (toPys_c (pyD_tN x) rfl)]
      rfl) (toPys_key xs)
theorem srt_key (xss : List (List Nat)) : srtOk (xss.map fun g => PyData.tuple [.int (g.length : Int), .tuple (g.map fun (i : Nat) => PyData.int (i : Int))]) = true := by
  unfold srtOk
  rw [Bool.and_eq_true, Bool.and_eq_true]
  refine ⟨⟨?_, ?_⟩, ?_⟩
  · refine List.all_eq_true.mpr fun p hp => List.all_eq_true.mpr fun q hq => ?_
    obtain ⟨a, _, rfl⟩ := List.mem_map.mp hp
    obtain ⟨b, _, rfl⟩ := List.mem_map.mp hq
    simp [PySem.W.alike, PySem.W.alikeAll, alike_ints]
  · rw [Bool.or_eq_true]
    left
    refine List.all_eq_true.mpr fun p hp => ?_
    obtain ⟨a, ha, rfl⟩ := List.mem_map.mp hp
    rfl
  · refine List.all_eq_true.mpr fun p hp => ?_
    obtain ⟨a, ha, rfl⟩ := List.mem_map.mp hp
    simp [SeqAt.shaped, PyData.canLay0, PyData.canLayAll0, canL_n, PyData.depth, PyData.depthAll, depthAll_ints]
theorem keyed_perm (xs ks : List D) (h : xs.length = ks.length) : (keyedD xs ks).Perm xs := by
  unfold keyedD
  have p := (List.mergeSort_perm (xs.zip ks) fun p q => dLe p.2 q.2).map (·.1)
  rw [List.map_fst_zip (by omega)] at p
  exact p
theorem ok_sortK {ρ : Env'} {S : Store} {Φ : Env' → Fn} {g : SmL} {Q : W → Store → Prop} (xss : List (List Nat)) (h : Ok (g ρ S) fun ws S1 => VQ (views S1 ws) fun ds => ds = [.lst (xss.map tN)] ∧ AllL S1 ∧ (∀ g ∈ xss, ∀ S, AllL S → Ok (Φ ρ [.d (tN g)] S) fun w S' => w = .d (keyD g) ∧ S' = S) ∧ ∀ L : List (List Nat), L.Perm xss → Q (.d (.lst (L.map tN))) S1) : Ok (cSortK false Φ g ρ S) Q :=
  ok_bind (h.mono fun ws S1 h => by
    obtain ⟨ds, h1, rfl, hS, h2, q⟩ := h
    rw [h1]
    dsimp only [seqD]
    rw [keysR_ok hS h2]
    dsimp only
    rw [toPys_key]
    dsimp only
    rw [if_pos (srt_key xss), if_neg (by decide)]
    have p := keyed_perm (xss.map tN) (xss.map keyD) (by rw [List.length_map, List.length_map])
    obtain ⟨a, b⟩ := map_un p
    rw [a]
    exact .mk (q _ b))
def AllGOk (Φ : Fn) : Prop := ∀ n, n ≤ 6 → ∀ S ρ, AllL S → Ok (fin ρ S.length (Φ [.d (nD n)] S)) fun w S' => S' = S ∧ ∃ P, Pool n P ∧ w = .d (.lst (P.map tN)) ∧ P.length ≤ 64
theorem allGroups_ok : AllGOk (body0 4 t__law_all_groups) := fun n hn S ρ hS => by
  refine ok_fin (Q' := fun w S' => S' = S ∧ ∃ P, Pool n P ∧ w = .d (.lst (P.map tN)) ∧ P.length ≤ 64) (ok_body ?_) fun w S' h => ?_
  · unfold t__law_all_groups
    fail "ABCFHIMNUVXabdmnqrstuvxz129!#.:;?[^_"
    rw [Int.toNat_natCast, upto0]
    refine ok_forX (fun pre ρ S' => S' = S ∧ ∃ x2, ρ = [some (.d (nD n)), some (.d (.lst ((allG pre.length).map tN))), x2, none] ∧ pre = List.range pre.length) (List.range n) ⟨rfl, none, rfl, rfl⟩ (fun pre m post ρ S' e hI => ?_) fun ρ S' hI => ?_
    · obtain ⟨rfl, x2, rfl, hpre⟩ := hI
      have hlen : pre.length + (post.length + 1) = n := by
        have := congrArg List.length e
        rw [List.length_range, List.length_append, List.length_cons] at this
        exact this.symm
      have hm : m = pre.length := by
        have h1 : (List.range n)[pre.length]? = some m := by rw [e]; simp
        rw [List.getElem?_range (by omega)] at h1
        exact (Option.some.inj h1).symm
      have al := allG_len pre.length
      have pw : 2 ^ pre.length ≤ 2 ^ 6 := Nat.pow_le_pow_right (by omega) (by omega)
      fail "ABCFHIMNUVXabdmnqrstuvxz129!#.:;?[^_"
      refine ok_lcM tN (allG pre.length) (fun g => tN (g ++ [m])) ?_
      fail "ABCFHIMNUVXabdmnqrstuvxz129!#.:;?[^_"
      refine ⟨rfl, by omega, fun g hg => ?_, ?_⟩
      · have gl := asc_le (allG_ok pre.length g hg).1 (allG_ok pre.length g hg).2
        fail "ABCFHIMNUVXabdmnqrstuvxz129!#.:;?[^_"
        refine vq (o_addT (xs := g.map nD) (ys := [nD m]) (by rw [List.length_map, List.length_singleton]; omega)) ⟨rfl, ?_⟩
        rw [tN_app]
        rfl
      · fail "ABCFHIMNUVXabdmnqrstuvxz129!#.:;?[^_"
        refine vq (o_addL (by rw [List.length_map, List.length_map]; omega)) ?_
        fail "ABCFHIMNUVXabdmnqrstuvxz129!#.:;?[^_"
        refine ⟨rfl, some (.d (nD m)), ?_, ?_⟩
        · rw [List.length_append, List.length_singleton, show allG (pre.length + 1) = allG pre.length ++ (allG pre.length).map (· ++ [pre.length]) from rfl, List.map_append, List.map_map, hm]
          rfl
        · rw [List.length_append, List.length_singleton, List.range_succ, ← hpre, hm]
    · obtain ⟨rfl, x2, rfl, _⟩ := hI
      rw [List.length_range]
      have al := allG_len n
      have pw : 2 ^ n ≤ 2 ^ 6 := Nat.pow_le_pow_right (by omega) (by omega)
      refine sq_nx (ok_ret ?_)
      refine ok_sortK ((allG n).filter fun g => !g.isEmpty) ?_
      fail "ABCFHIMNUVXabdmnqrstuvxz129!#.:;?[^_"
      refine ok_lcX tN (allG n) (fun g => !g.isEmpty) tN ?_
      fail "ABCFHIMNUVXabdmnqrstuvxz129!#.:;?[^_"
      refine ⟨rfl, by omega, fun g hg => ?_, ?_⟩
      · fail "ABCFHIMNUVXabdmnqrstuvxz129!#.:;?[^_"
        refine ⟨?_, fun _ => ?_⟩
        · fail "ABCFHIMNUVXabdmnqrstuvxz129!#.:;?[^_"
          refine vq (o_neNilT (lays_n' 63 g)) ⟨rfl, ?_⟩
          rw [isE_map]
        · fail "ABCFHIMNUVXabdmnqrstuvxz129!#.:;?[^_"
          exact ⟨rfl, rfl⟩
      · fail "ABCFHIMNUVXabdmnqrstuvxz129!#.:;?[^_"
        refine ⟨rfl, hS, fun g hg S2 hS2 => ?_, fun L hL => ?_⟩
        · unfold cLam
          (repeat' first | refine vq (f_lenN g) ?_ | fail "ABCFHIMNUVXabdmnqrstuvxz129!#.:;?[^_Á")
          exact ⟨rfl, rfl⟩
        · fail "ABCFHIMNUVXabdmnqrstuvxz129!#.:;?[^_"
          refine ⟨rfl, L, (pool_all n).perm hL, rfl, ?_⟩
          rw [hL.length_eq]
          have := List.length_filter_le (fun g => !g.isEmpty) (allG n)
          omega
  · obtain ⟨rfl, P, hP, rfl, hl⟩ := h
    refine fin_d hS ?_
    rw [List.take_length]
    exact ⟨rfl, P, hP, rfl, hl⟩
def Prs (ps : List (List Nat)) : Prop := (∀ p ∈ ps, p.length = 2) ∧ ps.length ≤ 100
def TreeOk (Φ : Fn) : Prop := ∀ k (n : Nat), 1 ≤ n → n ≤ 6 → Bx Φ k [.c k, .d (nD n)] fun d => ∃ ps, Prs ps ∧ d = gD ps
theorem ok_rgA' {f : Sm} {ρ : Env'} {S : Store} {Q : W → Store → Prop} (n : Nat) (hn : n ≤ 1000) (h : Ok (f ρ S) fun w S1 => w = .d (nD n) ∧ Q (.d (.lst ((List.range n).map nD))) S1) : Ok (cRgA false false f ρ S) Q :=
  ok_rgA (h.mono fun w S1 h => by
    obtain ⟨rfl, q⟩ := h
    refine iq (aq (by omega) ?_)
    rw [Int.toNat_natCast, upto0]
    exact q)
theorem perm_n {ys : List D} {L : List Nat} (h : ys.Perm (L.map nD)) : ys = (ys.map toN).map nD ∧ (ys.map toN).Perm L := by
  refine ⟨?_, ?_⟩
  · rw [List.map_map]
    conv => lhs; rw [← List.map_id ys]
    refine List.map_congr_left fun x hx => ?_
    obtain ⟨g, _, rfl⟩ := List.mem_map.mp (h.subset hx)
    rfl
  · have := h.map toN
    rw [toN_n] at this
    exact this
theorem tree_ok {Φ Φ' : Fn} (hH : ShufOk Φ) (hT : TakeOk Φ') : TreeOk (body0 6 (t__law_drawn_tree Φ Φ')) := fun k n n1 n6 => .ofR fun S hS hb => by
  unfold t__law_drawn_tree
  (repeat' first | with_reducible refine ok_rgA' n (by omega) ?_ | fail "ABCDFHIJMOUVWZaeimnqrstuvwxz1&(+,;<=>?]Á")
  refine ⟨rfl, ?_⟩
  fail "ABCDFHIJMOUVWZaefimnqrstuvwxz1&(+,;<=>?]"
  refine (hH k _ S _ (by simp; omega) hS hb).mono fun w S1 h => ?_
  obtain ⟨rfl, hl1, hR, ys, hc, hp⟩ := h
  obtain ⟨ey, hp2⟩ := perm_n hp
  generalize ys.map toN = os at ey hp2
  subst ey
  have ol : os.length = n := by rw [hp2.length_eq, List.length_range]
  have kl := hb.lt
  fail "ABCDFHIJMOUVWZaefimnqrstuvwxz1&(+,;<=>?]"
  rw [upto_g, show ((n : Int) - 1).toNat = n - 1 by omega, hl1]
  refine ok_forX (fun pre ρ S' => Rn k S S' ∧ S'[S.length]? = some (.lst true (os.map nD)) ∧ ∃ ps x4 x5, (∀ p ∈ ps, p.length = 2) ∧ ps.length = pre.length ∧ S'[S.length + 1]? = some (.lst true (ps.map tN)) ∧ ρ = [some (.c k), some (.d (nD n)), some (.c S.length), some (.c (S.length + 1)), x4, x5]) (List.range (n - 1)) ⟨hR.push, by rw [List.getElem?_append_left (by omega)]; exact hc, [], none, none, fun _ z => (nomatch z), rfl, get_at hl1, rfl⟩ (fun pre i post ρ S' e hI => ?_) fun ρ S' hI => ?_
  · obtain ⟨hR1, hc1, ps, x4, x5, hps, hpl, hc2, rfl⟩ := hI
    have hi : i < n - 1 := List.mem_range.mp (by rw [e]; simp)
    have pl : pre.length ≤ n - 1 := by
      have := congrArg List.length e
      rw [List.length_range, List.length_append] at this
      omega
    fail "ABCDFHIJMOUVWZaefimnqrstuvwxz1&(+,;<=>?]"
    refine hT.ok (by omega) (by omega) hR1.all hR1.box fun r S2 hR2 hl2 r0 r1 => ?_
    have lt1 := (List.getElem?_eq_some_iff.mp hc1).1
    have lt2 := (List.getElem?_eq_some_iff.mp hc2).1
    have hd1 : S2[S.length]? = some (.lst true (os.map nD)) := by rw [hR2.old _ lt1 (by omega)]; exact hc1
    have hd2 : S2[S.length + 1]? = some (.lst true (ps.map tN)) := by rw [hR2.old _ lt2 (by omega)]; exact hc2
    fail "ABCDFHIJMOUVWZaefimnqrstuvwxz1&(+,;<=>?]"
    refine vq (o_ixL (k := r.toNat) (by omega) (show (os.map nD)[r.toNat]? = some (nD (os[r.toNat]'(by omega))) by rw [List.getElem?_map, List.getElem?_eq_getElem]; rfl)) ?_
    fail "ABCDFHIJMOUVWZaefimnqrstuvwxz1&(+,;<=>?]"
    refine vq (o_ixL (k := i + 1) rfl (show (os.map nD)[i + 1]? = some (nD (os[i + 1]'(by omega))) by rw [List.getElem?_map, List.getElem?_eq_getElem]; rfl)) ?_
    fail "ABCDFHIJMOUVWZaefimnqrstuvwxz1&(+,;<=>?]"
    refine vq (o_ixL (k := i + 1) rfl (show (os.map nD)[i + 1]? = some (nD (os[i + 1]'(by omega))) by rw [List.getElem?_map, List.getElem?_eq_getElem]; rfl)) ?_
    fail "ABCDFHIJMOUVWZaefimnqrstuvwxz1&(+,;<=>?]"
    refine vp (l_app (by rw [List.length_map]; omega)) ?_
    fail "ABCDFHIJMOUVWZaefimnqrstuvwxz1&(+,;<=>?]"
    generalize os[i + 1]'(by omega) = u
    generalize os[r.toNat]'(by omega) = v
    refine ⟨(hR1.trans hR2).set (by omega) (by omega), by rw [List.getElem?_set_ne (by omega)]; exact hd1, ps ++ [[min u v, max u v]], _, _, fun p hp => ?_, by rw [List.length_append, List.length_append, hpl]; rfl, ?_, rfl⟩
    · rcases List.mem_append.mp hp with z | z
      · exact hps p z
      · rw [List.mem_singleton.mp z]; rfl
    · rw [get_set hd2, List.map_append]
      congr 4
      show D.tup [_, _] = D.tup [nD (min u v), nD (max u v)]
      congr 2
      · show D.int _ = D.int _
        congr 1
        split <;> omega
      · congr 1
        show D.int _ = D.int _
        congr 1
        split <;> omega
  · obtain ⟨hR1, hc1, ps, x4, x5, hps, hpl, hc2, rfl⟩ := hI
    fail "ABCDFHIJMOUVWZaefimnqrstuvwxz1&(+,;<=>?]"
    refine vq (f_srtR (xss := ps) fun xs hx z => ?_) ?_
    · have := hps xs hx
      rw [z] at this
      cases this
    fail "ABCDFHIJMOUVWZaefimnqrstuvwxz1&(+,;<=>?]"
    refine ⟨hR1, _, rfl, sortR ps, ⟨fun p hp => hps p ((sortR_perm ps).subset hp), ?_⟩, rfl⟩
    rw [(sortR_perm ps).length_eq, hpl, List.length_range]
    omega
def HangOk (Φ : Fn) : Prop := ∀ (g : List Nat) ps, Prs ps → ∃ b, Pu Φ [.d (tN g), .d (gD ps)] (.bl b)
theorem hangs_ok : HangOk (body0 3 t__law_hangs) := fun g ps hps => ⟨_, .of0 fun S hS => by
  unfold t__law_hangs
  fail "AFHIQUVWblqrstx38!#.:;À"
  refine ok_lcX tN ps (fun p => decide (p.getD 0 0 ∈ g) && decide (p.getD 1 0 ∈ g)) tN ?_
  (repeat' first | refine vq (show items (gD ps) = some (ps.map tN) from rfl) ?_ | fail "AFHIQUVWblqrstx38!#.:;ÀÁ")
  refine ⟨rfl, by have := hps.2; omega, fun p hp => ?_, ?_⟩
  · have p2 := hps.1 p hp
    fail "AFHIQUVWblqrstx38!#.:;À"
    refine ⟨?_, fun _ => ?_⟩
    · fail "AFHIQUVWblqrstx38!#.:;À"
      refine vq (ix_tN (k := 0) rfl (by omega)) ?_
      (repeat' first | refine vq (o_inN _ _) ?_ | fail "AFHIQUVWblqrstx38!#.:;ÀÁ")
      refine ⟨fun h => ?_, fun h => ?_⟩
      · fail "AFHIQUVWblqrstx38!#.:;À"
        refine vq (ix_tN (k := 1) rfl (by omega)) ?_
        (repeat' first | refine vq (o_inN _ _) ?_ | fail "AFHIQUVWblqrstx38!#.:;ÀÁ")
        rw [h]
        exact ⟨rfl, rfl⟩
      · rw [h]
        exact ⟨rfl, rfl⟩
    · fail "AFHIQUVWblqrstx38!#.:;À"
      exact ⟨rfl, rfl⟩
  (repeat' first | refine vq (f_lenM _) ?_ | refine vq (f_lenN g) ?_ | fail "AFHIQUVWblqrstx38!#.:;ÀÁ")
  exact ⟨rfl, rfl⟩⟩
end EV
namespace EV
open PySem L2 Tx
/-- a def that gives some bool and leaves the cells -/
def PB (Φ : Fn) (ws : List W) : Prop := ∀ S ρ, AllL S → Ok (fin ρ S.length (Φ ws S)) fun w S' => S' = S ∧ ∃ b, w = .d (.bl b)
theorem PB.of {N : Nat} {b : SmS} {ws : List W} (h : ∀ S, AllL S → Ok (b (ws.map some ++ List.replicate (N - ws.length) none) S) (BQ fun w S' => S' = S ∧ ∃ b, w = .d (.bl b))) : PB (body0 N b) ws := fun S ρ hS =>
  ok_fin (ok_body (h S hS)) fun w S' q => by
    obtain ⟨rfl, b, rfl⟩ := q
    refine fin_d hS ?_
    rw [List.take_length]
    exact ⟨rfl, b, rfl⟩
theorem PB.ok {Φ : Fn} {ws : List W} (h : PB Φ ws) {S : Store} {ρ : Env'} {Q : W → Store → Prop} (hS : AllL S) (q : ∀ b, Q (.d (.bl b)) S) : Ok (fin ρ S.length (Φ ws S)) Q :=
  (h S ρ hS).mono fun w S' ⟨e, b, e2⟩ => by
    rw [e, e2]
    exact q b
def ForOk (Φ : Fn) : Prop := ∀ (n : Nat) (P : List (List Nat)), n ≤ 6 → P.length ≤ 100 → (∀ g ∈ P, g.length ≤ 6) → PB Φ [.d (nD n), .d (.lst (P.map tN))]
theorem sum_split {X : Type} (f : X → Nat) (q : X → Bool) : ∀ xs : List X, ((xs.filter q).map f).sum + ((xs.filter fun x => !q x).map f).sum = (xs.map f).sum
  | [] => rfl
  | x :: xs => by
    have ih := sum_split f q xs
    rw [List.filter_cons, List.filter_cons]
    cases h : q x <;> simp <;> omega
theorem flat_len (L : List (List Nat)) : L.flatten.length = (L.map List.length).sum := List.length_flatten
theorem not_in_met {q : List Nat → Bool} {L : List (List Nat)} : L.filter (fun p => !decide (p ∈ L.filter q)) = L.filter fun p => !q p := by
  refine List.filter_congr fun p hp => ?_
  congr 1
  by_cases h : q p = true
  · rw [h, decide_eq_true (List.mem_filter.mpr ⟨hp, h⟩)]
  · rw [decide_eq_false fun z => h (List.mem_filter.mp z).2]
    simpa using h
theorem forest_ok : ForOk (body0 8 t__law_is_forest) := fun n P n6 hl hg => .of fun S hS => by
  unfold t__law_is_forest
  refine ok_seq ?_
  fail "ACEFHIMNUVWXabdjlmnqrstuvxz1269!#.:;?[^_À"
  refine ok_lcM nD (List.range n) (fun m => tN [m]) ?_
  fail "ACEFHIMNUVWXabdjlmnqrstuvxz1269!#.:;?[^_À"
  refine ⟨by rw [Int.toNat_natCast, upto0], by simp; omega, fun m hm => ?_, ?_⟩
  · fail "ABCEFHIMNUVWXabdjlmnqrstuvxz1269!#.:;?[^_À"
    exact ⟨rfl, rfl⟩
  fail "ABCEFHIMNUVWXabdjlmnqrstuvxz1269!#.:;?[^_À"
  refine ok_forX (fun pre ρ S' => S' = S ∧ ∃ (L : List (List Nat)) (x3 x4 x5 x6 x7 : Option W), (L.map List.length).sum ≤ 6 ∧ L.length ≤ 6 + pre.length ∧ ρ = [some (.d (nD n)), some (.d (.lst (P.map tN))), some (.d (.lst (L.map tN))), x3, x4, x5, x6, x7]) P
    ⟨rfl, (List.range n).map fun m => [m], none, none, none, none, none, by rw [List.map_map]; have := sum_leB (f := fun m : Nat => ([m] : List Nat).length) (B := 1) (xs := List.range n) (fun _ _ => Nat.le_refl _); rw [List.length_range] at this; exact Nat.le_trans this (by omega), by rw [List.length_map, List.length_range]; omega, by rw [List.map_map]; rfl⟩ (fun pre g post ρ S' e hI => ?_) fun ρ S' hI => ?_
  · obtain ⟨rfl, L, x3, x4, x5, x6, x7, hs, hL, rfl⟩ := hI
    have pl : pre.length + 1 ≤ 100 := by
      have := congrArg List.length e
      rw [List.length_append, List.length_cons] at this
      omega
    have gl := hg g (by rw [e]; simp)
    (repeat' first | refine vq (f_lenN g) ?_ | fail "ABCEFHIMNUVWXabdjlmnqrstuvxz1269!#.:;?[^_ÀÁ")
    refine ⟨fun h => ?_, fun h => ?_⟩
    · refine ok_seq ?_
      fail "ACEFHIMNUVWXabdjlmnqrstuvxz1269!#.:;?[^_À"
      refine ok_lcX tN L (fun p => !(p.filter fun m => decide (m ∈ g)).isEmpty) tN ?_
      fail "ACEFHIMNUVWXabdjlmnqrstuvxz1269!#.:;?[^_À"
      refine ⟨rfl, by omega, fun p hp => ?_, ?_⟩
      · have lp : p.length ≤ 6 := by
          have := sum_mem (List.mem_map.mpr ⟨p, hp, rfl⟩ : p.length ∈ L.map List.length)
          omega
        fail "ABCEFHIMNUVWXabdjlmnqrstuvxz1269!#.:;?[^_À"
        refine ⟨?_, fun _ => ?_⟩
        · refine ok_op2 ?_
          refine ok_lcX nD p (fun m => decide (m ∈ g)) nD ?_
          (repeat' first | refine vq (show items (tN p) = some (p.map nD) from rfl) ?_ | fail "ABCEFHIMNUVWXabdjlmnqrstuvxz1269!#.:;?[^_ÀÁ")
          refine ⟨rfl, by omega, fun m hm => ?_, ?_⟩
          · fail "ABCEFHIMNUVWXabdjlmnqrstuvxz1269!#.:;?[^_À"
            refine ⟨?_, fun _ => ?_⟩
            · (repeat' first | refine vq (o_inN _ _) ?_ | fail "ABCEFHIMNUVWXabdjlmnqrstuvxz1269!#.:;?[^_ÀÁ")
              exact ⟨rfl, rfl⟩
            · fail "ABCEFHIMNUVWXabdjlmnqrstuvxz1269!#.:;?[^_À"
              exact ⟨rfl, rfl⟩
          fail "ABCEFHIMNUVWXabdjlmnqrstuvxz1269!#.:;?[^_À"
          refine vq (o_neNil (lays_n' 63 _)) ⟨rfl, ?_⟩
          rw [isE_map]
        · fail "ABCEFHIMNUVWXabdjlmnqrstuvxz1269!#.:;?[^_À"
          exact ⟨rfl, rfl⟩
      have sp := sum_split List.length (fun p : List Nat => !(p.filter fun m => decide (m ∈ g)).isEmpty) L
      have lf := List.length_filter_le (fun p : List Nat => !(p.filter fun m => decide (m ∈ g)).isEmpty) L
      have lf2 := List.length_filter_le (fun p : List Nat => !!(p.filter fun m => decide (m ∈ g)).isEmpty) L
      have ni := not_in_met (q := fun p : List Nat => !(p.filter fun m => decide (m ∈ g)).isEmpty) (L := L)
      generalize (L.filter fun p : List Nat => !(p.filter fun m => decide (m ∈ g)).isEmpty) = M at sp lf ni ⊢
      (repeat' first | refine vq (f_lenM _) ?_ | refine vq (f_lenN g) ?_ | fail "ABCEFHIMNUVWXabdjlmnqrstuvxz1269!#.:;?[^_ÀÁ")
      refine ⟨fun h => ?_, fun h => ?_⟩
      · fail "ABCEFHIMNUVWXabdjlmnqrstuvxz1269!#.:;?[^_À"
        exact ⟨rfl, _, rfl⟩
      · fail "ABCEFHIMNUVWXabdjlmnqrstuvxz1269!#.:;?[^_À"
        refine ok_forX (fun pre2 ρ S2 => S2 = S' ∧ ∃ y6, ρ = [some (.d (nD n)), some (.d (.lst (P.map tN))), some (.d (.lst (L.map tN))), x3, some (.d (tN g)), some (.d (.lst (M.map tN))), y6, some (.d (tN pre2.flatten))]) M ⟨rfl, _, rfl⟩ (fun pre2 p post2 ρ S2 e2 hI => ?_) fun ρ S2 hI => ?_
        · obtain ⟨rfl, y6, rfl⟩ := hI
          have b1 : pre2.flatten.length + p.length ≤ 6 := by
            rw [flat_len]
            rw [e2, List.map_append, List.sum_append, List.map_cons, List.sum_cons] at sp
            omega
          fail "ABCEFHIMNUVWXabdjlmnqrstuvxz1269!#.:;?[^_À"
          refine vq (o_addT (xs := pre2.flatten.map nD) (ys := p.map nD) (by rw [List.length_map, List.length_map]; omega)) ?_
          fail "ABCEFHIMNUVWXabdjlmnqrstuvxz1269!#.:;?[^_À"
          refine ⟨rfl, some (.d (tN p)), ?_⟩
          rw [List.flatten_append, tN_app]
          simp
        · obtain ⟨rfl, y6, rfl⟩ := hI
          fail "ABCEFHIMNUVWXabdjlmnqrstuvxz1269!#.:;?[^_À"
          refine ok_lcX tN L (fun p => !decide (p ∈ M)) tN ?_
          fail "ABCEFHIMNUVWXabdjlmnqrstuvxz1269!#.:;?[^_À"
          refine ⟨rfl, by omega, fun p hp => ?_, ?_⟩
          · fail "ABCEFHIMNUVWXabdjlmnqrstuvxz1269!#.:;?[^_À"
            refine ⟨?_, fun _ => ?_⟩
            · (repeat' first | refine vq (o_ninL _ _) ?_ | fail "ABCEFHIMNUVWXabdjlmnqrstuvxz1269!#.:;?[^_ÀÁ")
              exact ⟨rfl, rfl⟩
            · fail "ABCEFHIMNUVWXabdjlmnqrstuvxz1269!#.:;?[^_À"
              exact ⟨rfl, rfl⟩
          fail "ABCEFHIMNUVWXabdjlmnqrstuvxz1269!#.:;?[^_À"
          rw [ni]
          refine vq (o_addL (by rw [List.length_map]; simp only [List.length_cons, List.length_nil]; omega)) ?_
          fail "ABCEFHIMNUVWXabdjlmnqrstuvxz1269!#.:;?[^_À"
          refine ⟨rfl, (L.filter fun p : List Nat => !!(p.filter fun m => decide (m ∈ g)).isEmpty) ++ [M.flatten], x3, some (.d (tN g)), some (.d (.lst (M.map tN))), y6, some (.d (tN M.flatten)), ?_, ?_, ?_⟩
          · rw [List.map_append, List.sum_append]
            simp only [List.map_cons, List.map_nil, List.sum_cons, List.sum_nil]
            rw [flat_len]
            omega
          · rw [List.length_append, List.length_append, List.length_singleton, List.length_singleton]
            omega
          · rw [List.map_append]
            rfl
    · fail "ABCEFHIMNUVWXabdjlmnqrstuvxz1269!#.:;?[^_À"
      refine ⟨rfl, L, _, _, _, _, _, hs, ?_, rfl⟩
      rw [List.length_append, List.length_singleton]
      omega
  · obtain ⟨rfl, L, x3, x4, x5, x6, x7, hs, hL, rfl⟩ := hI
    fail "ABCEFHIMNUVWXabdjlmnqrstuvxz1269!#.:;?[^_À"
    exact ⟨rfl, _, rfl⟩
end EV
namespace EV
open PySem L2 Tx
/-- groups of two members or more -/
structure Pool2 (n : Nat) (P : List (List Nat)) : Prop where
  p : Pool n P
  two : ∀ g ∈ P, 2 ≤ g.length
  len : P.length ≤ 64
theorem Pool2.filter {n : Nat} {P : List (List Nat)} (h : Pool2 n P) (q : List Nat → Bool) : Pool2 n (P.filter q) := ⟨h.p.filter q, fun g hg => h.two g (List.mem_filter.mp hg).1, Nat.le_trans (List.length_filter_le _ _) h.len⟩
theorem Pool2.perm {n : Nat} {P P' : List (List Nat)} (h : Pool2 n P) (p : P'.Perm P) : Pool2 n P' := ⟨h.p.perm p, fun g hg => h.two g (p.subset hg), by rw [p.length_eq]; exact h.len⟩
theorem Pool2.sub {n : Nat} {P P' : List (List Nat)} (h : Pool2 n P) (p : P'.Sublist P) : Pool2 n P' := ⟨h.p.sub p, fun g hg => h.two g (p.subset hg), Nat.le_trans p.length_le h.len⟩
def prv (k l : Nat) : Nat := if k = 0 then l - 1 else k - 1
def ringP (R : List Nat) : List (List Nat) := (List.range R.length).map fun k => sortN [R.getD (prv k R.length) 0, R.getD k 0]
theorem sort2 (a b : Nat) : sortN [a, b] = if a ≤ b then [a, b] else [b, a] := by
  refine sorted_unique (sortN_perm _ |>.trans ?_) (sortN_asc _) ?_
  · split
    · exact .refl _
    · exact .swap b a []
  · split
    · simp [*]
    · simp
      omega
theorem getD_nd {R : List Nat} (h : R.Nodup) {i j : Nat} (hi : i < R.length) (hj : j < R.length) (e : R.getD i 0 = R.getD j 0) : i = j := by
  rw [List.getD_eq_getElem?_getD, List.getElem?_eq_getElem hi, List.getD_eq_getElem?_getD, List.getElem?_eq_getElem hj] at e
  have e2 : R[i] = R[j] := e
  have z := List.pairwise_iff_getElem.mp h
  rcases Nat.lt_trichotomy i j with c | c | c
  · exact absurd e2 (z i j hi hj c)
  · exact c
  · exact absurd e2.symm (z j i hj hi c)
theorem getD_memN {R : List Nat} {i : Nat} (hi : i < R.length) : R.getD i 0 ∈ R := by
  rw [List.getD_eq_getElem?_getD, List.getElem?_eq_getElem hi]
  exact List.getElem_mem hi
theorem prv_lt {k l : Nat} (h : k < l) : prv k l < l := by
  unfold prv
  split <;> omega
theorem pair_eq (a b c d : Nat) (e : (if a ≤ b then [a, b] else [b, a]) = (if c ≤ d then [c, d] else [d, c])) : a = c ∧ b = d ∨ a = d ∧ b = c := by
  split at e <;> split at e <;> simp at e <;> omega
theorem pair_ok (a b n : Nat) (hne : a ≠ b) (ha : a < n) (hb : b < n) : (if a ≤ b then [a, b] else [b, a]) ≠ [] ∧ (if a ≤ b then [a, b] else [b, a]).Pairwise (· < ·) ∧ ∀ m ∈ (if a ≤ b then [a, b] else [b, a]), m < n := by
  split
  · refine ⟨by simp, ?_, fun m hm => ?_⟩
    · simp
      omega
    · simp at hm
      omega
  · refine ⟨by simp, ?_, fun m hm => ?_⟩
    · simp
      omega
    · simp at hm
      omega
theorem ring_pool {n : Nat} {R : List Nat} (h : R.Nodup) (h3 : 3 ≤ R.length) (h6 : R.length ≤ 6) (hn : ∀ m ∈ R, m < n) : Pool2 n (ringP R) := by
  have ne : ∀ k, k < R.length → R.getD (prv k R.length) 0 ≠ R.getD k 0 := fun k hk e => by
    have := getD_nd h (prv_lt hk) hk e
    unfold prv at this
    split at this <;> omega
  refine ⟨⟨?_, fun g hg => ?_⟩, fun g hg => ?_, by unfold ringP; rw [List.length_map, List.length_range]; omega⟩
  · refine List.pairwise_map.mpr (List.Pairwise.imp_of_mem (fun {i j} hi hj hne e => hne ?_) List.nodup_range)
    have hi := List.mem_range.mp hi
    have hj := List.mem_range.mp hj
    have e2 : R.getD (prv i R.length) 0 = R.getD (prv j R.length) 0 ∧ R.getD i 0 = R.getD j 0 ∨ R.getD (prv i R.length) 0 = R.getD j 0 ∧ R.getD i 0 = R.getD (prv j R.length) 0 := by
      rw [sort2, sort2] at e
      exact pair_eq _ _ _ _ e
    rcases e2 with ⟨_, e2⟩ | ⟨e2, e3⟩
    · exact getD_nd h hi hj e2
    · have a := getD_nd h (prv_lt hi) hj e2
      have b := getD_nd h hi (prv_lt hj) e3
      unfold prv at a b
      split at a <;> split at b <;> omega
  · obtain ⟨k, hk, rfl⟩ := List.mem_map.mp hg
    have hk := List.mem_range.mp hk
    have nk := ne k hk
    have m1 := hn _ (getD_memN (prv_lt hk))
    have m2 := hn _ (getD_memN hk)
    rw [sort2]
    exact pair_ok _ _ _ nk m1 m2
  · obtain ⟨k, hk, rfl⟩ := List.mem_map.mp hg
    rw [sort2]
    split <;> simp
theorem ix_prv {R : List Nat} {k : Nat} (h : k < R.length) : oIx (.lst (R.map nD)) (.int ((k : Int) - 1)) = some (nD (R.getD (prv k R.length) 0)) := by
  have hp := prv_lt h
  have e : ixN (R.map nD).length ((k : Int) - 1) = some (prv k R.length) := by
    rw [List.length_map]
    unfold ixN prv
    by_cases z : k = 0
    · subst z
      rw [if_pos rfl]
      split
      · omega
      · simp
        omega
    · rw [if_neg z]
      split
      · simp
        omega
      · omega
  show (ixN (R.map nD).length ((k : Int) - 1)).bind (fun j => (R.map nD)[j]?) = _
  rw [e]
  show (R.map nD)[prv k R.length]? = _
  rw [List.getElem?_map, List.getElem?_eq_getElem hp, List.getD_eq_getElem?_getD, List.getElem?_eq_getElem hp]
  rfl
def CQ2 (x : D) (K : List D → Bool → Prop) : Prop := match x with
  | .lst xs => K xs false
  | .tup xs => K xs true
  | _ => False
theorem ok_none {ρ : Env'} {S : Store} {Q : Option Int → Store → Prop} (q : Q none S) : Ok (oNone ρ S) Q := .mk q
theorem ok_some {f : Sm} {ρ : Env'} {S : Store} {Q : Option Int → Store → Prop} (h : Ok (f ρ S) fun w S1 => IQ w fun i => Q (some i) S1) : Ok (oSome f ρ S) Q :=
  ok_bind (h.mono fun w S1 h => by
    obtain ⟨i, rfl, q⟩ := h
    exact .mk q)
theorem ok_sl {f : Sm} {lo hi : SmO} {ρ : Env'} {S : Store} {Q : W → Store → Prop} (h : Ok (f ρ S) fun w S1 => Ok (lo ρ S1) fun l S2 => Ok (hi ρ S2) fun u S3 => VQ (view S3 w) fun x => CQ2 x fun xs b => Q (.d (if b = true then .tup (cutD xs l u) else .lst (cutD xs l u))) S3) : Ok (cSl false f lo hi ρ S) Q :=
  ok_bind (h.mono fun w S1 h => ok_bind (h.mono fun l S2 h => ok_bind (h.mono fun u S3 h => by
    obtain ⟨x, h1, q⟩ := h
    rw [h1]
    cases x with
    | lst xs => exact .mk q
    | tup xs => exact .mk q
    | _ => exact False.elim q)))
theorem cq2_l {xs : List D} {K : List D → Bool → Prop} (k : K xs false) : CQ2 (.lst xs) K := k
theorem cut_to {xs : List D} {v : Int} (h : 0 ≤ v) : cutD xs none (some v) = xs.take v.toNat := by
  have e : HT.sIx xs.length xs.length (some v) = min v.toNat xs.length := by
    unfold HT.sIx
    dsimp only
    rw [if_neg (by omega)]
  have e0 : HT.sIx xs.length 0 none = 0 := rfl
  unfold cutD
  rw [e, e0]
  simp
def Row (S0 S : Store) (w : W) (P : List (List Nat)) : Prop := w = .d (.lst (P.map tN)) ∨ ∃ j, w = .c j ∧ S0.length ≤ j ∧ S[j]? = some (.lst true (P.map tN))
theorem Row.view {S0 S : Store} {w : W} {P : List (List Nat)} (h : Row S0 S w P) : view S w = some (.lst (P.map tN)) := by
  rcases h with rfl | ⟨j, rfl, _, e⟩
  · rfl
  · exact view_c e
theorem Row.frz {S0 S : Store} {w : W} {P : List (List Nat)} {k : Nat} (h : Row S0 S w P) (hR : Rn k S0 S) (hk : k < S0.length) : ∃ S', EV.frz S w = some (.lst (P.map tN), S') ∧ Rn k S0 S' ∧ S'.length = S.length := by
  rcases h with rfl | ⟨j, rfl, l, e⟩
  · exact ⟨S, rfl, hR, rfl⟩
  · exact ⟨_, frz_c e, hR.set l (by omega), List.length_set⟩
theorem Row.rn {S0 S S' : Store} {w : W} {P : List (List Nat)} {k : Nat} (h : Row S0 S w P) (hR : Rn k S S') (hk : k < S0.length) : Row S0 S' w P := by
  rcases h with rfl | ⟨j, rfl, l, e⟩
  · exact .inl rfl
  · exact .inr ⟨j, rfl, l, by rw [hR.old j (List.getElem?_eq_some_iff.mp e).1 (by omega)]; exact e⟩
end EV
namespace EV
open PySem L2 Tx
abbrev G15 (k kd sz n : Nat) (x4 x5 x6 x7 x8 x9 x10 x11 x12 x13 x14 : Option W) : Env' := [some (.c k), some (.d (nD kd)), some (.d (nD sz)), some (.d (nD n)), x4, x5, x6, x7, x8, x9, x10, x11, x12, x13, x14]
abbrev rowW (P : List (List Nat)) : Option W := some (.d (.lst (P.map tN)))
def GroupsOk (Φ : Fn) : Prop := ∀ k (kd sz : Nat), kd ≤ 4 → 1 ≤ sz → sz ≤ 6 → Bx Φ k [.c k, .d (nD kd), .d (nD sz)] fun d => ∃ n gs, Good n gs ∧ d = .tup [nD n, gD gs]
theorem good_of {n : Nat} {gs P : List (List Nat)} (n1 : 1 ≤ n) (n6 : n ≤ 6) (hP : Pool2 n P) (hl : P.length ≤ 24 - n) (h : gs.Perm (((List.range n).map fun m => [m]) ++ P)) : Good n gs := by
  have hm : ∀ g ∈ gs, (∃ m, m < n ∧ g = [m]) ∨ g ∈ P := fun g hg => by
    rcases List.mem_append.mp (h.subset hg) with z | z
    · obtain ⟨m, hm, rfl⟩ := List.mem_map.mp z
      exact .inl ⟨m, List.mem_range.mp hm, rfl⟩
    · exact .inr z
  refine ⟨n1, n6, ?_, fun g hg => ?_, fun g hg => ?_, fun g hg => ?_, ?_, fun m hm => ?_⟩
  · rw [h.length_eq, List.length_append, List.length_map, List.length_range]
    omega
  · rcases hm g hg with ⟨m, _, rfl⟩ | z
    · simp
    · exact (hP.p.ok g z).1
  · rcases hm g hg with ⟨m, _, rfl⟩ | z
    · simp
    · exact (hP.p.ok g z).2.1
  · rcases hm g hg with ⟨m, l, rfl⟩ | z
    · intro x hx
      rw [List.mem_singleton.mp hx]
      exact l
    · exact (hP.p.ok g z).2.2
  · refine h.symm.nodup (List.nodup_append.mpr ⟨?_, hP.p.nd, fun a ha b hb e => ?_⟩)
    · exact List.pairwise_map.mpr (List.nodup_range.imp fun h e => h (List.cons.inj e).1)
    · obtain ⟨m, _, rfl⟩ := List.mem_map.mp ha
      have := hP.two b hb
      rw [← e] at this
      simp at this
  · exact h.symm.subset (List.mem_append_left _ (List.mem_map.mpr ⟨m, List.mem_range.mpr hm, rfl⟩))
theorem groups_main {fT fA fH fD fG fF : Fn} (hT : TakeOk fT) (hA : AllGOk fA) (hH : ShufOk fH) (hD : TreeOk fD) (hG : HangOk fG) (hF : ForOk fF) : GroupsOk (body0 15 (t__law_groups fT fA fH fD fG fF)) := fun k kd sz hkd s1 s6 => .ofR fun S hS hb => by
  have kl := hb.lt
  unfold t__law_groups
  -- the number of members
  refine ok_mid (fun ρ S' => Rn k S S' ∧ ∃ n, 1 ≤ n ∧ n ≤ 6 ∧ ρ = G15 k kd sz n none none none none none none none none none none none) ?_ fun ρ S1 h => ?_
  · fail "ABCDEFHIJMOPQRSUVWXZabdfijlmnqrstuvwxz123689!#$%&(+.:;<=>?[^_|À"
    refine ⟨fun h => ?_, fun h => ?_⟩
    · fail "ABCDEFHIJMNOPQRSUVWXZabdfijlmnqrstuvwxz123689!#$%&(+.:;<=>?[^_|À"
      refine hT.ok (by omega) (by omega) hS hb fun r S' hR _ r0 r1 => ?_
      fail "ABCDEFHIJMNOPQRSUVWXZabdfijlmnqrstuvwxz123689!#$%&(+.:;<=>?[^_|À"
      have e : ∃ n : Nat, 1 ≤ n ∧ n ≤ 6 ∧ oIx (.lst [.int 6, .int 6, .int 5, .int 5, .int 4, .int 3, .int 3, .int 2, .int 1]) (.int r) = some (nD n) := by
        obtain ⟨r, rfl⟩ : ∃ q : Nat, r = q := ⟨r.toNat, by omega⟩
        have : r < 9 := by omega
        match r, this with
        | 0, _ => exact ⟨6, by omega, by omega, rfl⟩
        | 1, _ => exact ⟨6, by omega, by omega, rfl⟩
        | 2, _ => exact ⟨5, by omega, by omega, rfl⟩
        | 3, _ => exact ⟨5, by omega, by omega, rfl⟩
        | 4, _ => exact ⟨4, by omega, by omega, rfl⟩
        | 5, _ => exact ⟨3, by omega, by omega, rfl⟩
        | 6, _ => exact ⟨3, by omega, by omega, rfl⟩
        | 7, _ => exact ⟨2, by omega, by omega, rfl⟩
        | 8, _ => exact ⟨1, by omega, by omega, rfl⟩
      obtain ⟨n, n1, n6, e⟩ := e
      refine vq e ?_
      fail "ABCDEFHIJMNOPQRSUVWXZabdfijlmnqrstuvwxz123689!#$%&(+.:;<=>?[^_|À"
      exact ⟨_, rfl, hR, n, n1, n6, rfl⟩
    · fail "ABCDEFHIJMNOPQRSUVWXZabdfijlmnqrstuvwxz123689!#$%&(+.:;<=>?[^_|À"
      exact ⟨_, rfl, .refl hS hb, sz, s1, s6, rfl⟩
  obtain ⟨hR1, n, n1, n6, rfl⟩ := h
  -- all groups of two and more
  refine ok_mid (fun ρ S' => Rn k S S' ∧ ∃ P, Pool2 n P ∧ ρ = G15 k kd sz n (rowW P) none none none none none none none none none none) ?_ fun ρ S2 h => ?_
  · fail "ABCDEFHIJMNOPQRSUVWXZadfijlmnqrstuvwxz123689!#$%&(+.:;<=>?[^_|À"
    refine ok_bind ?_
    refine ok_iter ?_
    fail "ABCDEFHIJMNOPQRSUVWXZabdfijlmnqrstuvwxz123689!#$%&(+.:;<=>?[^_|À"
    refine (hA n n6 S1 _ hR1.all).mono fun w S' h => ?_
    obtain ⟨rfl, P, hP, rfl, hl⟩ := h
    fail "ABCDEFHIJMNOPQRSUVWXZabdfijlmnqrstuvwxz123689!#$%&(+.:;<=>?[^_|À"
    rw [if_pos (by rw [List.length_map]; omega), lcL_x (p := fun g : List Nat => decide (1 < (g.length : Int))) (v := tN) fun g hg => by
      have gl := hP.glen hg
      fail "ABCDEFHIJMNOPQRSUVWXZabdfijlmnqrstuvwxz123689!#$%&(+.:;<=>?[^_|À"
      refine ⟨?_, fun _ => ?_⟩
      · (repeat' first | refine vq (f_lenN g) ?_ | fail "ABCDEFHIJMNOPQRSUVWXZabdfijlmnqrstuvwxz123689!#$%&(+.:;<=>?[^_|ÀÁ")
        exact ⟨rfl, rfl⟩
      · fail "ABCDEFHIJMNOPQRSUVWXZabdfijlmnqrstuvwxz123689!#$%&(+.:;<=>?[^_|À"
        exact ⟨rfl, rfl⟩]
    refine .mk ⟨_, rfl, hR1, P.filter fun g => decide (1 < (g.length : Int)), ⟨hP.filter _, fun g hg => ?_, ?_⟩, rfl⟩
    · have := of_decide_eq_true (List.mem_filter.mp hg).2
      omega
    · exact Nat.le_trans (List.length_filter_le _ _) hl
  obtain ⟨hR2, P, hP, rfl⟩ := h
  -- pairs alone
  refine ok_mid (fun ρ S' => Rn k S S' ∧ ∃ P, Pool2 n P ∧ ρ = G15 k kd sz n (rowW P) none none none none none none none none none none) ?_ fun ρ S3 h => ?_
  · have st : ∀ Q : F → Store → Prop, (∀ P', Pool2 n P' → Q (.nx (G15 k kd sz n (rowW P') none none none none none none none none none none)) S2) → Ok (sSet 4 (cLc false [5] (.one 5) (cIter (cVar 4)) (cOp2 oEq (cBi fLen (cCons (cVar 5) cNil)) (cCst (.int 2))) (cVar 5)) (G15 k kd sz n (rowW P) none none none none none none none none none none) S2) Q := fun Q q => by
      fail "ABCDEFHIJMNOPQRSUVWXZabdfijlmnqrstuvwxz123689!#$%&(+.:;<=>?[^_|À"
      refine ok_lcX tN P (fun g => decide ((g.length : Int) = 2)) tN ?_
      fail "ABCDEFHIJMNOPQRSUVWXZabdfijlmnqrstuvwxz123689!#$%&(+.:;<=>?[^_|À"
      refine ⟨rfl, by have := hP.len; omega, fun g hg => ?_, ?_⟩
      · fail "ABCDEFHIJMNOPQRSUVWXZabdfijlmnqrstuvwxz123689!#$%&(+.:;<=>?[^_|À"
        refine ⟨?_, fun _ => ?_⟩
        · (repeat' first | refine vq (f_lenN g) ?_ | fail "ABCDEFHIJMNOPQRSUVWXZabdfijlmnqrstuvwxz123689!#$%&(+.:;<=>?[^_|ÀÁ")
          exact ⟨rfl, rfl⟩
        · fail "ABCDEFHIJMNOPQRSUVWXZabdfijlmnqrstuvwxz123689!#$%&(+.:;<=>?[^_|À"
          exact ⟨rfl, rfl⟩
      exact q _ (hP.filter _)
    fail "ABCDEFHIJMNOPQRSUVWXZabdfijlmnqrstuvwxz123689!#$%&(+.:;<=>?[^_|À"
    refine ⟨fun h => ?_, fun h => ?_⟩
    · fail "ABDEFHIJMNOPQRSUVWXZabdfijlmnqrstuvwxz123689!#$%&(+.:;<=>?[^_|À"
      exact st _ fun P' h => ⟨_, rfl, hR2, P', h, rfl⟩
    · fail "ABDEFHIJMNOPQRSUVWXZabdfijlmnqrstuvwxz123689!#$%&(+.:;<=>?[^_|À"
      refine ⟨fun h => ?_, fun h => ?_⟩
      · exact st _ fun P' h => ⟨_, rfl, hR2, P', h, rfl⟩
      · fail "ABCDEFHIJMNOPQRSUVWXZabdfijlmnqrstuvwxz123689!#$%&(+.:;<=>?[^_|À"
        exact ⟨_, rfl, hR2, P, hP, rfl⟩
  clear hP
  obtain ⟨hR3, P, hP, rfl⟩ := h
  -- whole
  refine ok_mid (fun ρ S' => Rn k S S' ∧ ∃ w : Bool, (w = true → 3 ≤ n) ∧ ρ = G15 k kd sz n (rowW P) none (some (.d (.bl w))) none none none none none none none none) ?_ fun ρ S4 h => ?_
  · fail "ABCDEFHIJMNOPQRSUVWXZabdfijlmnqrstuvwxz123689!#$%&(+.:;<=>?[^_|À"
    refine ⟨fun h => ?_, fun h => ?_⟩
    · fail "ABCDEFHIJMNOPQRSUVWXZabdfijlmnqrstuvwxz123689!#$%&(+.:;<=>?[^_|À"
      refine ⟨fun h => ?_, fun h => ?_⟩
      · have h3 := of_decide_eq_true h
        fail "ABCDEFHIJMNOPQRSUVWXZabdfijlmnqrstuvwxz123689!#$%&(+.:;<=>?[^_|À"
        refine hT.ok (by omega) (by omega) hR3.all hR3.box fun r S' hR _ r0 r1 => ?_
        fail "ABCDEFHIJMNOPQRSUVWXZabdfijlmnqrstuvwxz123689!#$%&(+.:;<=>?[^_|À"
        exact ⟨_, rfl, hR3.trans hR, _, fun _ => by omega, rfl⟩
      · exact ⟨_, rfl, hR3, false, fun z => (nomatch z), rfl⟩
    · exact ⟨_, rfl, hR3, false, fun z => (nomatch z), rfl⟩
  obtain ⟨hR4, wh, hwh, rfl⟩ := h
  -- a ring of pairs
  refine ok_mid (fun ρ S' => Rn k S S' ∧ ∃ P x7, Pool2 n P ∧ ρ = G15 k kd sz n (rowW P) none (some (.d (.bl wh))) x7 none none none none none none none) ?_ fun ρ S5 h => ?_
  · fail "ABCDEFHIJMNOPQRSUVWXZabdfijlmnqrstuvwxz123689!#$%&(+.:;<=>?[^_|À"
    refine ⟨fun h => ?_, fun h => ?_⟩
    · have n3 := hwh h
      refine ok_seq ?_
      (repeat' first | with_reducible refine ok_sl ?_ | fail "ACDEFHIJMNOPQRSUVWXZabdfijlmnqrstuvwxz123689!#$%&(+.:;<=>?[^_|ÀÁ")
      rw [Int.toNat_natCast, upto0]
      refine (hH k _ S4 _ (by simp; omega) hR4.all hR4.box).mono fun w S' h => ?_
      obtain ⟨rfl, hl1, hRs, ys, hc, hp⟩ := h
      obtain ⟨ey, hp2⟩ := perm_n hp
      generalize ys.map toN = os at ey hp2
      subst ey
      have ol : os.length = n := by rw [hp2.length_eq, List.length_range]
      refine ok_none (ok_some ?_)
      fail "ABCDEFHIJMNOPQRSUVWXZabdfijlmnqrstuvwxz123689!#$%&(+.:;<=>?[^_|À"
      refine hT.ok (by omega) (by omega) hRs.all hRs.box fun r S6 hR6 _ r0 r1 => ?_
      have lt4 : k < S4.length := Nat.lt_of_lt_of_le kl hR4.len
      have hc6 : S6[S4.length]? = some (.lst true (os.map nD)) := by
        rw [hR6.old _ (List.getElem?_eq_some_iff.mp hc).1 (by omega)]
        exact hc
      fail "ABCDEFHIJMNOPQRSUVWXZabdfijlmnqrstuvwxz123689!#$%&(+.:;<=>?[^_|À"
      refine cq2_l ?_
      rw [if_neg (by decide), cut_to (by omega), ← List.map_take]
      have rl : (os.take (3 + r).toNat).length = (3 + r).toNat := by rw [List.length_take]; omega
      have rnd : (os.take (3 + r).toNat).Nodup := List.Pairwise.sublist (List.take_sublist _ _) (hp2.symm.nodup List.nodup_range)
      have rm : ∀ m ∈ os.take (3 + r).toNat, m < n := fun m hm => List.mem_range.mp (hp2.subset ((List.take_sublist _ _).subset hm))
      generalize os.take (3 + r).toNat = R at rl rnd rm
      fail "ABCDEFHIJMNOPQRSUVWXZabdfijlmnqrstuvwxz123689!#$%&(+.:;<=>?[^_|À"
      refine ok_lcM nD (List.range R.length) (fun k => tN (sortN [R.getD (prv k R.length) 0, R.getD k 0])) ?_
      (repeat' first | refine vq (f_lenM R) ?_ | fail "ABCDEFHIJMNOPQRSUVWXZabdfijlmnqrstuvwxz123689!#$%&(+.:;<=>?[^_|ÀÁ")
      refine ⟨by rw [Int.toNat_natCast, upto0], by simp; omega, fun i hi => ?_, ?_⟩
      · have hi := List.mem_range.mp hi
        fail "ABCDEFHIJMNOPQRSUVWXZabdfijlmnqrstuvwxz123689!#$%&(+.:;<=>?[^_|À"
        refine vq (ix_prv hi) ?_
        fail "ABCDEFHIJMNOPQRSUVWXZabdfijlmnqrstuvwxz123689!#$%&(+.:;<=>?[^_|À"
        refine vq (o_ixL (k := i) rfl (show (R.map nD)[i]? = some (nD (R.getD i 0)) by rw [List.getElem?_map, List.getElem?_eq_getElem hi, List.getD_eq_getElem?_getD, List.getElem?_eq_getElem hi]; rfl)) ?_
        fail "ABCDEFHIJMNOPQRSUVWXZabdfijlmnqrstuvwxz123689!#$%&(+.:;<=>?[^_|À"
        refine vq (f_srtI [R.getD (prv i R.length) 0, R.getD i 0]) ?_
        fail "ABCDEFHIJMNOPQRSUVWXZabdfijlmnqrstuvwxz123689!#$%&(+.:;<=>?[^_|À"
        exact ⟨rfl, rfl⟩
      fail "ABCDEFHIJMNOPQRSUVWXZabdfijlmnqrstuvwxz123689!#$%&(+.:;<=>?[^_|À"
      refine ⟨_, rfl, hR4.trans (hRs.trans hR6), ringP R, some (.d (.lst (R.map nD))), ring_pool rnd (by omega) (by omega) rm, ?_⟩
      show _ = G15 k kd sz n (some (.d (.lst ((ringP R).map tN)))) none _ _ _ _ _ _ _ _ _
      unfold ringP
      rw [List.map_map]
      rfl
    · fail "ABCDEFHIJMNOPQRSUVWXZabdfijlmnqrstuvwxz123689!#$%&(+.:;<=>?[^_|À"
      exact ⟨_, rfl, hR4, P, none, hP, rfl⟩
  clear hP
  obtain ⟨hR5, P, x7, hP, rfl⟩ := h
  -- two sides
  refine ok_mid (fun ρ S' => Rn k S S' ∧ ∃ P x9, Pool2 n P ∧ ρ = G15 k kd sz n (rowW P) none (some (.d (.bl wh))) x7 none x9 none none none none none) ?_ fun ρ S6 h => ?_
  · fail "ABCDEFHIJMNOPQRSUVWXZabdfijlmnqrstuvwxz123689!#$%&(+.:;<=>?[^_|À"
    refine ⟨fun h => ?_, fun h => ?_⟩
    · refine ok_seq ?_
      fail "ACDEFHIJMNOPQRSUVWXZabdfijlmnqrstuvwxz123689!#$%&(+.:;<=>?[^_|À"
      refine ok_lcD (fun S' => Rn k S S') (fun d => ∃ i : Int, d = .int i) ?_
      fail "ABCDEFHIJMNOPQRSUVWXZabdfijlmnqrstuvwxz123689!#$%&(+.:;<=>?[^_|À"
      rw [Int.toNat_natCast, upto0]
      refine ⟨by simp; omega, hR5, fun d hd S' hR' => ?_, fun xs S' hR' xl hx => ?_⟩
      · fail "ABCDEFHIJMNOPQRSUVWXZabdfijlmnqrstuvwxz123689!#$%&(+.:;<=>?[^_|À"
        refine hT.ok (by omega) (by omega) hR'.all hR'.box fun r S6 hR6 _ r0 r1 => ?_
        exact ⟨hR'.trans hR6, _, rfl, _, rfl⟩
      rw [List.length_map, List.length_range] at xl
      fail "ABCDEFHIJMNOPQRSUVWXZabdfijlmnqrstuvwxz123689!#$%&(+.:;<=>?[^_|À"
      refine ok_lcX tN P (fun g => decide ((match xs.getD (g.getD 0 0) .non with | .int i => i | _ => 0) ≠ (match xs.getD (g.getD 1 0) .non with | .int i => i | _ => 0))) tN ?_
      fail "ABCDEFHIJMNOPQRSUVWXZabdfijlmnqrstuvwxz123689!#$%&(+.:;<=>?[^_|À"
      have ix : ∀ m, m < n → ∃ i : Int, oIx (.lst xs) (nD m) = some (.int i) ∧ (match xs.getD m .non with | .int i => i | _ => 0) = i := fun m hm => by
        have hl : m < xs.length := by omega
        obtain ⟨i, e⟩ := hx xs[m] (List.getElem_mem hl)
        refine ⟨i, ?_, ?_⟩
        · rw [← e]
          exact o_ixL (k := m) rfl (List.getElem?_eq_getElem hl)
        · rw [List.getD_eq_getElem?_getD, List.getElem?_eq_getElem hl]
          show (match xs[m] with | .int i => i | _ => 0) = i
          rw [e]
      refine ⟨rfl, by have := hP.len; omega, fun g hg => ?_, ?_⟩
      · have g2 := hP.two g hg
        have gm := (hP.p.ok g hg).2.2
        obtain ⟨i, e1, e2⟩ := ix (g.getD 0 0) (gm _ (getD_memN (by omega)))
        obtain ⟨j, f1, f2⟩ := ix (g.getD 1 0) (gm _ (getD_memN (by omega)))
        fail "ABCDEFHIJMNOPQRSUVWXZabdfijlmnqrstuvwxz123689!#$%&(+.:;<=>?[^_|À"
        refine ⟨?_, fun _ => ?_⟩
        · fail "ABCDEFHIJMNOPQRSUVWXZabdfijlmnqrstuvwxz123689!#$%&(+.:;<=>?[^_|À"
          refine vq (ix_tN (k := 0) rfl (by omega)) ?_
          fail "ABCDEFHIJMNOPQRSUVWXZabdfijlmnqrstuvwxz123689!#$%&(+.:;<=>?[^_|À"
          refine vq e1 ?_
          fail "ABCDEFHIJMNOPQRSUVWXZabdfijlmnqrstuvwxz123689!#$%&(+.:;<=>?[^_|À"
          refine vq (ix_tN (k := 1) rfl (by omega)) ?_
          fail "ABCDEFHIJMNOPQRSUVWXZabdfijlmnqrstuvwxz123689!#$%&(+.:;<=>?[^_|À"
          refine vq f1 ?_
          fail "ABCDEFHIJMNOPQRSUVWXZabdfijlmnqrstuvwxz123689!#$%&(+.:;<=>?[^_|À"
          rw [e2, f2]
          exact ⟨rfl, rfl⟩
        · fail "ABCDEFHIJMNOPQRSUVWXZabdfijlmnqrstuvwxz123689!#$%&(+.:;<=>?[^_|À"
          exact ⟨rfl, rfl⟩
      exact ⟨_, rfl, hR', _, some (.d (.lst xs)), hP.filter _, rfl⟩
    · fail "ABCDEFHIJMNOPQRSUVWXZabdfijlmnqrstuvwxz123689!#$%&(+.:;<=>?[^_|À"
      exact ⟨_, rfl, hR5, P, none, hP, rfl⟩
  clear hP
  obtain ⟨hR6, P, x9, hP, rfl⟩ := h
  -- on a tree
  refine ok_mid (fun ρ S' => Rn k S S' ∧ ∃ P x11, Pool2 n P ∧ ρ = G15 k kd sz n (rowW P) none (some (.d (.bl wh))) x7 none x9 none x11 none none none) ?_ fun ρ S7 h => ?_
  · fail "ABCDEFHIJMNOPQRSUVWXZabdfijlmnqrstuvwxz123689!#$%&(+.:;<=>?[^_|À"
    refine ⟨fun h => ?_, fun h => ?_⟩
    · refine ok_seq ?_
      fail "ACDEFHIJMNOPQRSUVWXZabdfijlmnqrstuvwxz123689!#$%&(+.:;<=>?[^_|À"
      refine (hD k n n1 n6).ok hR6.all hR6.box fun d S' hR' _ h => ?_
      obtain ⟨ps, hps, rfl⟩ := h
      fail "ABCDEFHIJMNOPQRSUVWXZabdfijlmnqrstuvwxz123689!#$%&(+.:;<=>?[^_|À"
      refine ok_lcX tN P (fun g => Classical.choose (hG g ps hps)) tN ?_
      fail "ABCDEFHIJMNOPQRSUVWXZabdfijlmnqrstuvwxz123689!#$%&(+.:;<=>?[^_|À"
      refine ⟨rfl, by have := hP.len; omega, fun g hg => ?_, ?_⟩
      · fail "ABCDEFHIJMNOPQRSUVWXZabdfijlmnqrstuvwxz123689!#$%&(+.:;<=>?[^_|À"
        refine ⟨?_, fun _ => ?_⟩
        · fail "ABCDEFHIJMNOPQRSUVWXZabdfijlmnqrstuvwxz123689!#$%&(+.:;<=>?[^_|À"
          exact (Classical.choose_spec (hG g ps hps)).ok hR'.all ⟨rfl, rfl⟩
        · fail "ABCDEFHIJMNOPQRSUVWXZabdfijlmnqrstuvwxz123689!#$%&(+.:;<=>?[^_|À"
          exact ⟨rfl, rfl⟩
      exact ⟨_, rfl, hR6.trans hR', _, some (.d (gD ps)), hP.filter _, rfl⟩
    · fail "ABCDEFHIJMNOPQRSUVWXZabdfijlmnqrstuvwxz123689!#$%&(+.:;<=>?[^_|À"
      exact ⟨_, rfl, hR6, P, none, hP, rfl⟩
  clear hP
  obtain ⟨hR7, P, x11, hP, rfl⟩ := h
  -- shuffled
  refine ok_mid (fun ρ S' => Rn k S S' ∧ ∃ P w4, Pool2 n P ∧ Row S S' w4 P ∧ ρ = G15 k kd sz n (some w4) none (some (.d (.bl wh))) x7 none x9 none x11 none none none) ?_ fun ρ S8 h => ?_
  · fail "ABCDEFHIJMNOPQRSUVWXZabdfijlmnqrstuvwxz123689!#$%&(+.:;<=>?[^_|À"
    refine (hH k _ S7 _ (by rw [List.length_map]; have := hP.len; omega) hR7.all hR7.box).mono fun w S' h => ?_
    obtain ⟨rfl, hl1, hRs, ys, hc, hp⟩ := h
    obtain ⟨e1, e2⟩ := map_un hp
    rw [e1] at hc
    exact ⟨_, rfl, hR7.trans hRs, _, _, hP.perm e2, .inr ⟨_, rfl, hR7.len, hc⟩, rfl⟩
  clear hP
  obtain ⟨hR8, P, w4, hP, hrow, rfl⟩ := h
  -- lapping singly
  refine ok_mid (fun ρ S' => Rn k S S' ∧ ∃ P w4 x5 x12, Pool2 n P ∧ Row S S' w4 P ∧ ρ = G15 k kd sz n (some w4) x5 (some (.d (.bl wh))) x7 none x9 none x11 x12 none none) ?_ fun ρ S9 h => ?_
  · fail "ABCDEFHIJMNOPQRSUVWXZabdfijlmnqrstuvwxz123689!#$%&(+.:;<=>?[^_|À"
    refine ⟨fun h => ?_, fun h => ?_⟩
    · refine ok_seq ?_
      fail "ACDEFHIJMNOPQRSUVWXZabdfijlmnqrstuvwxz123689!#$%&(+.:;<=>?[^_|À"
      have hRp : Rn k S8 (S8 ++ [Cell.lst true []]) := (Rn.refl hR8.all hR8.box).push
      obtain ⟨S9, e9, hR9, l9⟩ := (hrow.rn hRp kl).frz (hR8.trans hRp) kl
      have hc9 : S9[S8.length]? = some (.lst true []) := by
        rcases hrow with rfl | ⟨j, rfl, lj, ej⟩
        · have : S9 = S8 ++ [Cell.lst true []] := (Prod.mk.inj (Option.some.inj e9)).2.symm
          rw [this]
          exact get_top
        · have e9' := e9
          rw [frz_c (get_old ej)] at e9'
          have : S9 = (S8 ++ [Cell.lst true []]).set j (.lst false (P.map tN)) := (Prod.mk.inj (Option.some.inj e9')).2.symm
          rw [this, List.getElem?_set_ne (by have := (List.getElem?_eq_some_iff.mp ej).1; omega)]
          exact get_top
      have l8 := hR8.len
      refine ok_seq ?_
      (repeat' first | refine vp e9 ?_ | fail "ACDEFHIJMNOPQRSUVWXZabdfijlmnqrstuvwxz123689!#$%&(+.:;<=>?[^_|ÀÁ")
      refine ok_forX (fun pre ρ S' => Rn k S S' ∧ ∃ Fd x5, Fd.Sublist pre ∧ S'[S8.length]? = some (.lst true (Fd.map tN)) ∧ ρ = G15 k kd sz n (some w4) x5 (some (.d (.bl wh))) x7 none x9 none x11 (some (.c S8.length)) none none) P ⟨hR9, [], none, .slnil, hc9, rfl⟩ (fun pre g post ρ S' e hI => ?_) fun ρ S' hI => ?_
      · obtain ⟨hR', Fd, x5, hs, hc, rfl⟩ := hI
        have lf : Fd.length + 1 ≤ 64 := by
          have h1 := hs.length_le
          have h2 := congrArg List.length e
          have h3 := hP.len
          rw [List.length_append, List.length_cons] at h2
          omega
        have fsub : ∀ x ∈ Fd ++ [g], x ∈ P := fun x hx => by
          rw [e]
          rcases List.mem_append.mp hx with z | z
          · exact List.mem_append_left _ (hs.subset z)
          · rw [List.mem_singleton.mp z]; simp
        fail "ABCDEFHIJMNOPQRSUVWXZabdfijlmnqrstuvwxz123689!#$%&(+.:;<=>?[^_|À"
        refine vq (o_addL (by rw [List.length_map]; simp only [List.length_cons, List.length_nil]; omega)) ?_
        fail "ABCDEFHIJMNOPQRSUVWXZabdfijlmnqrstuvwxz123689!#$%&(+.:;<=>?[^_|À"
        have call := hF n (Fd ++ [g]) n6 (by rw [List.length_append, List.length_singleton]; omega) fun x hx => Nat.le_trans (hP.p.glen (fsub x hx)) n6
        rw [List.map_append] at call
        refine PB.ok call hR'.all fun b => ?_
        fail "ABCDEFHIJMNOPQRSUVWXZabdfijlmnqrstuvwxz123689!#$%&(+.:;<=>?[^_|À"
        refine ⟨fun hb => ?_, fun hb => ?_⟩
        · fail "ABCDEFHIJMNOPQRSUVWXZabdfijlmnqrstuvwxz123689!#$%&(+.:;<=>?[^_|À"
          refine vp (l_app (by rw [List.length_map]; omega)) ?_
          fail "ABCDEFHIJMNOPQRSUVWXZabdfijlmnqrstuvwxz123689!#$%&(+.:;<=>?[^_|À"
          exact ⟨hR'.set hR8.len (by omega), Fd ++ [g], _, hs.append (List.Sublist.refl _), by rw [get_set hc, List.map_append]; rfl, rfl⟩
        · fail "ABCDEFHIJMNOPQRSUVWXZabdfijlmnqrstuvwxz123689!#$%&(+.:;<=>?[^_|À"
          exact ⟨hR', Fd, _, hs.trans (List.sublist_append_left _ _), hc, rfl⟩
      · obtain ⟨hR', Fd, x5, hs, hc, rfl⟩ := hI
        have hPF := hP.sub hs
        (repeat' first | with_reducible refine ok_sl ?_ | fail "ABCDEFHIJMNOPQRSUVWXZabdfijlmnqrstuvwxz123689!#$%&(+.:;<=>?[^_|ÀÁ")
        refine ok_none (ok_some ?_)
        fail "ABCDEFHIJMNOPQRSUVWXZabdfijlmnqrstuvwxz123689!#$%&(+.:;<=>?[^_|À"
        rw [List.length_map]
        refine hT.ok (by omega) (by omega) hR'.all hR'.box fun r S10 hR10 _ r0 r1 => ?_
        have hc10 : S10[S8.length]? = some (.lst true (Fd.map tN)) := by
          rw [hR10.old _ (List.getElem?_eq_some_iff.mp hc).1 (by omega)]
          exact hc
        fail "ABCDEFHIJMNOPQRSUVWXZabdfijlmnqrstuvwxz123689!#$%&(+.:;<=>?[^_|À"
        refine ⟨fun h => ?_, fun h => ?_⟩
        · fail "ABCDEFHIJMNOPQRSUVWXZabdfijlmnqrstuvwxz123689!#$%&(+.:;<=>?[^_|À"
          refine vq (o_neNil (lays_tN 62 Fd)) ?_
          fail "ABCDEFHIJMNOPQRSUVWXZabdfijlmnqrstuvwxz123689!#$%&(+.:;<=>?[^_|À"
          rw [isE_map]
          have hv : (0 : Int) ≤ (Fd.length : Int) - (if (!Fd.isEmpty) = true then 1 else 0) := by
            cases Fd with
            | nil => simp
            | cons a l => simp
          refine cq2_l ?_
          rw [if_neg (by decide), cut_to hv, ← List.map_take]
          exact ⟨_, rfl, hR'.trans hR10, _, _, _, _, hPF.sub (List.take_sublist _ _), .inl rfl, rfl⟩
        · fail "ABCDEFHIJMNOPQRSUVWXZabdfijlmnqrstuvwxz123689!#$%&(+.:;<=>?[^_|À"
          refine cq2_l ?_
          rw [if_neg (by decide), cut_to (by simp), ← List.map_take]
          exact ⟨_, rfl, hR'.trans hR10, _, _, _, _, hPF.sub (List.take_sublist _ _), .inl rfl, rfl⟩
    · fail "ABCDEFHIJMNOPQRSUVWXZabdfijlmnqrstuvwxz123689!#$%&(+.:;<=>?[^_|À"
      exact ⟨_, rfl, hR8, P, w4, none, none, hP, hrow, rfl⟩
  clear hP hrow
  obtain ⟨hR9, P, w4, x5, x12, hP, hrow, rfl⟩ := h
  have pl := hP.len
  -- how many
  refine ok_mid (fun ρ S' => S' = S9 ∧ ∃ M : Nat, M ≤ P.length ∧ M ≤ 24 - n ∧ ρ = G15 k kd sz n (some w4) x5 (some (.d (.bl wh))) x7 none x9 none x11 x12 (some (.d (nD M))) none) ?_ fun ρ S10 h => ?_
  · (repeat' first | refine vq hrow.view ?_ | refine vq (f_lenM P) ?_ | fail "ABCDEFHIJMNOPQRSUVWXZabdfijlmnqrstuvwxz123689!#$%&(+.:;<=>?[^_|ÀÁ")
    refine ⟨_, rfl, rfl, min P.length (24 - n), Nat.min_le_left _ _, Nat.min_le_right _ _, ?_⟩
    have : (if (24 : Int) - n < P.length then (24 : Int) - n else P.length) = ((min P.length (24 - n) : Nat) : Int) := by
      split <;> omega
    rw [this]
    rfl
  obtain ⟨rfl, M, hM1, hM2, rfl⟩ := h
  refine ok_mid (fun ρ S' => Rn k S S' ∧ Row S S' w4 P ∧ ∃ M : Nat, M ≤ P.length ∧ M ≤ 24 - n ∧ ρ = G15 k kd sz n (some w4) x5 (some (.d (.bl wh))) x7 none x9 none x11 x12 (some (.d (nD M))) none) ?_ fun ρ S11 h => ?_
  · fail "ABCDEFHIJMNOPQRSUVWXZabdfijlmnqrstuvwxz123689!#$%&(+.:;<=>?[^_|À"
    refine ⟨fun h => ?_, fun h => ?_⟩
    · fail "ABCDEFHIJMNOPQRSUVWXZabdfijlmnqrstuvwxz123689!#$%&(+.:;<=>?[^_|À"
      refine ⟨fun h => ?_, fun h => ?_⟩
      · fail "ABCDEFHIJMNOPQRSUVWXZabdfijlmnqrstuvwxz123689!#$%&(+.:;<=>?[^_|À"
        refine hT.ok (by omega) (by omega) hR9.all hR9.box fun r S11 hR11 _ r0 r1 => ?_
        fail "ABCDEFHIJMNOPQRSUVWXZabdfijlmnqrstuvwxz123689!#$%&(+.:;<=>?[^_|À"
        refine ⟨fun h => ?_, fun h => ?_⟩
        · fail "ABCDEFHIJMNOPQRSUVWXZabdfijlmnqrstuvwxz123689!#$%&(+.:;<=>?[^_|À"
          refine hT.ok (by omega) (by omega) hR11.all hR11.box fun q S12 hR12 _ q0 q1 => ?_
          fail "ABCDEFHIJMNOPQRSUVWXZabdfijlmnqrstuvwxz123689!#$%&(+.:;<=>?[^_|À"
          refine hT.ok (by omega) (by omega) hR12.all hR12.box fun u S13 hR13 _ u0 u1 => ?_
          have hu : u = 0 ∨ u = 1 := by omega
          have ex : ∃ (dv z : Int), oIx (.lst [.int 1, .int 2]) (.int u) = some (.int dv) ∧ oDiv (.int q) (.int dv) = some (.int z) ∧ 0 ≤ z ∧ z ≤ q := by
            rcases hu with rfl | rfl
            · refine ⟨1, q.fdiv 1, rfl, o_div (by decide) (by decide), ?_, ?_⟩
              · rw [Int.fdiv_eq_ediv_of_nonneg _ (by omega)]; omega
              · rw [Int.fdiv_eq_ediv_of_nonneg _ (by omega)]; omega
            · refine ⟨2, q.fdiv 2, rfl, o_div (by decide) (by decide), ?_, ?_⟩
              · rw [Int.fdiv_eq_ediv_of_nonneg _ (by omega)]; omega
              · rw [Int.fdiv_eq_ediv_of_nonneg _ (by omega)]; omega
          obtain ⟨dv, z, e1, e2, z0, z1⟩ := ex
          (repeat' first | refine vq e1 ?_ | refine vq e2 ?_ | fail "ABCDEFHIJMNOPQRSUVWXZabdfijlmnqrstuvwxz123689!#$%&(+.:;<=>?[^_|ÀÁ")
          have hR := hR11.trans (hR12.trans hR13)
          refine ⟨_, rfl, hR9.trans hR, hrow.rn hR kl, M - z.toNat, by omega, by omega, ?_⟩
          have : (M : Int) - z = ((M - z.toNat : Nat) : Int) := by omega
          rw [this]
          rfl
        · fail "ABCDEFHIJMNOPQRSUVWXZabdfijlmnqrstuvwxz123689!#$%&(+.:;<=>?[^_|À"
          exact ⟨_, rfl, hR9.trans hR11, hrow.rn hR11 kl, M, hM1, hM2, rfl⟩
      · fail "ABCDEFHIJMNOPQRSUVWXZabdfijlmnqrstuvwxz123689!#$%&(+.:;<=>?[^_|À"
        exact ⟨_, rfl, hR9, hrow, M, hM1, hM2, rfl⟩
    · fail "ABCDEFHIJMNOPQRSUVWXZabdfijlmnqrstuvwxz123689!#$%&(+.:;<=>?[^_|À"
      exact ⟨_, rfl, hR9, hrow, M, hM1, hM2, rfl⟩
  clear hM1 hM2
  obtain ⟨hR11, hrow, M, hM1, hM2, rfl⟩ := h
  -- the groups of one
  refine ok_mid (fun ρ S' => Rn k S S' ∧ Row S S' w4 P ∧ ∃ j ys, S.length ≤ j ∧ S'[j]? = some (.lst true ys) ∧ ys.Perm (((List.range n).map fun m => [m]).map tN) ∧ ρ = G15 k kd sz n (some w4) x5 (some (.d (.bl wh))) x7 none x9 none x11 x12 (some (.d (nD M))) (some (.c j))) ?_ fun ρ S12 h => ?_
  · fail "ABCDEFHIJMNOPQRSUVWXZabdfijlmnqrstuvwxz123689!#$%&(+.:;<=>?[^_|À"
    refine ok_lcM nD (List.range n) (fun m => tN [m]) ?_
    fail "ABCDEFHIJMNOPQRSUVWXZabdfijlmnqrstuvwxz123689!#$%&(+.:;<=>?[^_|À"
    refine ⟨by rw [Int.toNat_natCast, upto0], by simp; omega, fun m hm => ?_, ?_⟩
    · fail "ABCDEFHIJMNOPQRSUVWXZabdfijlmnqrstuvwxz123689!#$%&(+.:;<=>?[^_|À"
      exact ⟨rfl, rfl⟩
    fail "ABCDEFHIJMNOPQRSUVWXZabdfijlmnqrstuvwxz123689!#$%&(+.:;<=>?[^_|À"
    refine (hH k _ S11 _ (by rw [List.length_map, List.length_range]; omega) hR11.all hR11.box).mono fun w S' h => ?_
    obtain ⟨rfl, hl1, hRs, ys, hc, hp⟩ := h
    refine ⟨_, rfl, hR11.trans hRs, hrow.rn hRs kl, _, ys, hR11.len, hc, ?_, rfl⟩
    rw [List.map_map]
    exact hp
  clear hrow
  obtain ⟨hR12, hrow, j, ys, hj, hc, hp, rfl⟩ := h
  (repeat' first | refine vq hrow.view ?_ | with_reducible refine ok_sl ?_ | fail "ABCDEFHIJMNOPQRSUVWXZabdfijlmnqrstuvwxz123689!#$%&(+.:;<=>?[^_|ÀÁ")
  refine ok_none (ok_some ?_)
  (repeat' first | refine vq hrow.view ?_ | fail "ABCDEFHIJMNOPQRSUVWXZabdfijlmnqrstuvwxz123689!#$%&(+.:;<=>?[^_|ÀÁ")
  refine cq2_l ?_
  rw [if_neg (by decide), cut_to (by omega), ← List.map_take, Int.toNat_natCast]
  fail "ABCDEFHIJMNOPQRSUVWXZabdfijlmnqrstuvwxz123689!#$%&(+.:;<=>?[^_|À"
  refine ok_forX (fun pre ρ S' => Rn k S S' ∧ ∃ ys x5, S'[j]? = some (.lst true ys) ∧ ys.Perm ((((List.range n).map fun m => [m]) ++ pre).map tN) ∧ ρ = G15 k kd sz n (some w4) x5 (some (.d (.bl wh))) x7 none x9 none x11 x12 (some (.d (nD M))) (some (.c j))) (P.take M) ⟨hR12, ys, x5, hc, by rw [List.append_nil]; exact hp, rfl⟩ (fun pre g post ρ S' e hI => ?_) fun ρ S' hI => ?_
  · obtain ⟨hR', ys, x5, hc, hp, rfl⟩ := hI
    have yl : ys.length ≤ 100 := by
      have h1 := hp.length_eq
      have h2 := congrArg List.length e
      rw [List.length_append, List.length_cons, List.length_take] at h2
      rw [List.length_map, List.length_append, List.length_map, List.length_range] at h1
      omega
    fail "ABCDEFHIJMNOPQRSUVWXZabdfijlmnqrstuvwxz123689!#$%&(+.:;<=>?[^_|À"
    refine hT.ok (by omega) (by omega) hR'.all hR'.box fun r S13 hR13 _ r0 r1 => ?_
    have hc13 : S13[j]? = some (.lst true ys) := by
      rw [hR13.old _ (List.getElem?_eq_some_iff.mp hc).1 (by omega)]
      exact hc
    fail "ABCDEFHIJMNOPQRSUVWXZabdfijlmnqrstuvwxz123689!#$%&(+.:;<=>?[^_|À"
    refine vp (l_ins (by omega) r0 (by omega)) ?_
    fail "ABCDEFHIJMNOPQRSUVWXZabdfijlmnqrstuvwxz123689!#$%&(+.:;<=>?[^_|À"
    refine ⟨(hR'.trans hR13).set hj (by omega), _, _, get_set hc13, ?_, rfl⟩
    rw [← List.append_assoc, List.map_append]
    exact ins_perm hp
  · obtain ⟨hR', ys, x5, hc, hp, rfl⟩ := hI
    obtain ⟨e1, e2⟩ := map_un hp
    fail "ABCDEFHIJMNOPQRSUVWXZabdfijlmnqrstuvwxz123689!#$%&(+.:;<=>?[^_|À"
    refine ⟨hR', _, rfl, n, ys.map unT, good_of n1 n6 (hP.sub (List.take_sublist M P)) (by rw [List.length_take]; omega) e2, ?_⟩
    rw [show D.tup ys = gD (ys.map unT) from congrArg D.tup e1]
end EV
namespace EV
open PySem L2 Tx
/-- how many of the places below p are the member's -/
def atP (gs : List (List Nat)) (m p : Nat) : Nat := ((List.range p).filter fun q => decide (m ∈ gs.getD q [])).length
def rk (gs R : List (List Nat)) (m p : Nat) : Nat := (R.getD m []).getD (atP gs m p) 0
structure Ranks (n : Nat) (gs R : List (List Nat)) : Prop where
  len : R.length = n
  row : ∀ m, m < n → (R.getD m []).length = (plc gs m).length
  le : ∀ m, m < n → ∀ x ∈ R.getD m [], x ≤ 99
end EV
namespace EV
open PySem L2 Tx
structure FtW (ft : Nat → List Str) (CW : Nat) : Prop where
  c : (ft CW).contains "collection" = true
  r : (ft CW).contains "ranks" = true
  t : (ft CW).contains "_table" = true
end EV
namespace EV
open PySem L2 Tx
theorem own_plc {n m : Nat} {gs : List (List Nat)} {l : List Nat} (h : Lot n gs l) (hm : m < n) : ownN gs l m ∈ plc gs m := by
  have hne := own_ne h.all hm
  unfold ownN
  generalize e : (l.filter fun p => decide (m ∈ gs.getD p [])) = L at hne
  cases L with
  | nil => exact absurd rfl hne
  | cons p L =>
    have hp : p ∈ l.filter fun p => decide (m ∈ gs.getD p []) := by rw [e]; exact List.mem_cons_self ..
    obtain ⟨h1, h2⟩ := List.mem_filter.mp hp
    exact mem_plc.mpr ⟨h.lt p h1, of_decide_eq_true h2⟩
end EV
namespace EV
open PySem L2 Tx
end EV
namespace EV
open PySem L2 Tx
end EV
namespace EV
open PySem L2 Tx
end EV
namespace EV
open PySem L2 Tx
/-- what was there stays -/
structure Kp (S S' : Store) : Prop where
  len : S.length ≤ S'.length
  old : ∀ j, j < S.length → S'[j]? = S[j]?
theorem Kp.refl {S : Store} : Kp S S := ⟨Nat.le_refl _, fun _ _ => rfl⟩
theorem Kp.trans {S S1 S2 : Store} (h : Kp S S1) (h' : Kp S1 S2) : Kp S S2 := ⟨Nat.le_trans h.len h'.len, fun j hj => by rw [h'.old j (Nat.lt_of_lt_of_le hj h.len), h.old j hj]⟩
theorem Kp.push {S S' T : Store} (h : Kp S S') : Kp S (S' ++ T) := ⟨by rw [List.length_append]; have := h.len; omega, fun j hj => by rw [List.getElem?_append_left (Nat.lt_of_lt_of_le hj h.len), h.old j hj]⟩
theorem Rn.kp {k : Nat} {S S1 S2 : Store} (h : Rn k S1 S2) (h0 : Kp S S1) (hk : S.length ≤ k) : Kp S S2 := ⟨Nat.le_trans h0.len h.len, fun j hj => by rw [h.old j (Nat.lt_of_lt_of_le hj h0.len) (by omega), h0.old j hj]⟩
theorem Kp.take {S S' : Store} (h : Kp S S') : S'.take S.length = S := List.ext_getElem? fun i => by
  by_cases hi : i < S.length
  · rw [List.getElem?_take_of_lt hi, h.old i hi]
  · rw [List.getElem?_eq_none (by rw [List.length_take]; omega), List.getElem?_eq_none (by omega)]
def BoxF (Φ : Fn) : Prop := ∀ ns : List Int, ns.length ≤ 63 → ∀ k : Nat, k < 1000 → ∀ (S : Store) ρ, AllL S → ∀ Q : W → Store → Prop, (∀ a b : Int, Q (.c S.length) (S ++ [.lst true [.int a, .int b]])) → Ok (fin ρ S.length (Φ [.d (.lst (ns.map .int)), .d (nD k)] S)) Q
def AscOk (Φ : Fn) : Prop := ∀ ps : List Nat, ps.length ≤ 1000000 → Pu Φ [.d (tN ps)] (.bl (asc ps))
def DueF (Φ : Fn) : Prop := ∀ b c, Pu Φ [.d (.bl b), .d (.bl c)] (.bl (decide (b = c)))
end EV
namespace EV
open PySem L2 Tx
theorem own_eq {n m p : Nat} {gs : List (List Nat)} {l : List Nat} (h : Lot n gs l) (hp : p ∈ l) (hm : m ∈ gs.getD p []) : ownN gs l m = p := by
  have nd : (mem gs l).Nodup := (sortN_perm _).nodup (by rw [h.all]; exact List.nodup_range)
  have key : ∀ q ∈ l.filter (fun p => decide (m ∈ gs.getD p [])), q = p := fun q hq => by
    obtain ⟨hq1, hq2⟩ := List.mem_filter.mp hq
    have hq2 := of_decide_eq_true hq2
    obtain ⟨a, b, rfl⟩ := List.append_of_mem hp
    unfold mem at nd
    rw [List.flatMap_append, List.flatMap_cons] at nd
    obtain ⟨_, nd2, nd3⟩ := List.nodup_append.mp nd
    obtain ⟨_, _, nd4⟩ := List.nodup_append.mp nd2
    rcases List.mem_append.mp hq1 with z | z
    · exact absurd rfl (nd3 m (List.mem_flatMap.mpr ⟨q, z, hq2⟩) m (List.mem_append_left _ hm))
    · rcases List.mem_cons.mp z with z | z
      · exact z
      · exact absurd rfl (nd4 m hm m (List.mem_flatMap.mpr ⟨q, z, hq2⟩))
  have hF : p ∈ l.filter (fun p => decide (m ∈ gs.getD p [])) := List.mem_filter.mpr ⟨hp, decide_eq_true hm⟩
  unfold ownN
  generalize l.filter (fun p => decide (m ∈ gs.getD p [])) = F at key hF ⊢
  cases F with
  | nil => cases hF
  | cons q F => exact key q (List.mem_cons_self ..)
end EV
namespace EV
open PySem L2 Tx
theorem o_ninT (m : List Nat) (g : List (List Nat)) : oIn true (tN m) (.tup (g.map tN)) = some (.bl (!decide (m ∈ g))) := by
  unfold oIn
  rw [dIn_row (.inl rfl) (lay_tN 63 m) (lays_tN 63 g), any_tN]
  simp
end EV
namespace EV
open PySem L2 Tx
def T2 (x : D) (K : List D → Prop) : Prop := ∃ xs, x = .tup xs ∧ K xs
theorem t2 {xs : List D} {K : List D → Prop} (k : K xs) : T2 (.tup xs) K := ⟨xs, rfl, k⟩
theorem t2N {l : List Nat} {K : List D → Prop} (k : K (l.map nD)) : T2 (tN l) K := ⟨_, rfl, k⟩
theorem ok_slT {f : Sm} {lo hi : SmO} {ρ : Env'} {S : Store} {Q : W → Store → Prop} (h : Ok (f ρ S) fun w S1 => Ok (lo ρ S1) fun l S2 => Ok (hi ρ S2) fun u S3 => VQ (view S3 w) fun x => T2 x fun xs => Q (.d (.tup (cutD xs l u))) S3) : Ok (cSl false f lo hi ρ S) Q :=
  ok_sl (h.mono fun w S1 h => h.mono fun l S2 h => h.mono fun u S3 h => by
    obtain ⟨x, h1, xs, rfl, q⟩ := h
    exact ⟨_, h1, q⟩)
theorem str_small : ∀ p : Nat, p < 24 → PyData.strOk (toString (p : Int) : String) = true := by decide +kernel
theorem log_small : ∀ p : Nat, p < 24 → ((p : Int).natAbs.log2 < 1920) := by decide +kernel
end EV
namespace EV
open PySem L2 Tx
inductive Xn {α : Type} : R α → (Nat → List Str → List D → Env' → Store → Prop) → Prop where
  | mk {c : Nat} {fs : List Str} {ds : List D} {ρ : Env'} {S : Store} {P : Nat → List Str → List D → Env' → Store → Prop} (p : P c fs ds ρ S) : Xn (.exn c fs ds ρ S) P
def NQ (K : Env' → Store → Prop) (r : F) (S : Store) : Prop := match r with
  | .nx ρ => K ρ S
  | _ => False
section
variable {α β : Type} {ρ : Env'} {S : Store} {P : Nat → List Str → List D → Env' → Store → Prop}
theorem nq {K : Env' → Store → Prop} (h : K ρ S) : NQ K (.nx ρ) S := h
theorem Xn.get {r : R α} (h : Xn r P) : ∃ c fs ds ρ S, r = .exn c fs ds ρ S ∧ P c fs ds ρ S := by
  cases h with
  | mk p => exact ⟨_, _, _, _, _, rfl, p⟩
theorem Xn.mono {r : R α} {P' : Nat → List Str → List D → Env' → Store → Prop} (h : Xn r P) (k : ∀ c fs ds ρ S, P c fs ds ρ S → P' c fs ds ρ S) : Xn r P' := by
  cases h with
  | mk p => exact .mk (k _ _ _ _ _ p)
theorem xn_b1 {r : R α} {k : α → Store → R β} (h : Xn r P) : Xn (r.bind k) P := by
  cases h with
  | mk p => exact .mk p
theorem xn_b2 {r : R α} {k : α → Store → R β} (h : Ok r fun a S => Xn (k a S) P) : Xn (r.bind k) P := by
  cases h with
  | mk q => exact q
theorem xn_seq1 {a b : SmS} (h : Xn (a ρ S) P) : Xn (sSeq a b ρ S) P := xn_b1 h
theorem xn_seq2 {a b : SmS} (h : Ok (a ρ S) (NQ fun ρ1 S1 => Xn (b ρ1 S1) P)) : Xn (sSeq a b ρ S) P :=
  xn_b2 (h.mono fun r S1 h => by
    cases r with
    | nx _ => exact h
    | _ => exact h.elim)
theorem xn_if {t : Sm} {a b : SmS} (h : Ok (t ρ S) fun w S1 => TQ w fun c => CQ c (Xn (a ρ S1) P) (Xn (b ρ S1) P)) : Xn (sIf t a b ρ S) P :=
  xn_b2 (ok_toT (h.mono fun w S1 h => by
    obtain ⟨c, rfl, h⟩ := h
    refine ⟨c, rfl, ?_⟩
    cases c with
    | true => exact h.1 rfl
    | false => exact h.2 rfl))
theorem xn_drop {f : Sm} (h : Xn (f ρ S) P) : Xn (sDrop f ρ S) P := xn_b1 h
theorem xn_ret {z : Bool} {f : Sm} (h : Xn (f ρ S) P) : Xn (sRet z f ρ S) P := xn_b1 h
theorem xn_call {np : Nat} {Φ : Fn} {g : SmL} (h : Ok (g ρ S) fun ws S1 => AQ (ws.length = np) (Xn (fin ρ S1.length (Φ ws S1)) P)) : Xn (cCall np Φ g ρ S) P :=
  xn_b2 (h.mono fun ws S1 h => by
    rw [if_pos h.1]
    exact h.2)
theorem xn_raise {c : Nat} {fs : List Str} {g : SmL} (h : Ok (g ρ S) fun ws S1 => VP (frzL S1 ws) fun xs S2 => AQ (xs.length = fs.length ∧ fs.length ≤ 9) (P c fs xs ρ S2)) : Xn (sRaise c fs g ρ S) P :=
  xn_b2 (h.mono fun ws S1 h => by
    obtain ⟨xs, S2, h1, h2, p⟩ := h
    rw [h1]
    dsimp only
    rw [if_pos h2]
    exact .mk p)
theorem ok_try {ks : List Nat} {b : SmS} {l : List Cz} {Q : F → Store → Prop} (h : Ok (b ρ S) Q) : Ok (sTry ks b l ρ S) Q := by
  unfold sTry
  obtain ⟨r, S1, e, q⟩ := h.get
  rw [e]
  exact .mk q
theorem ok_tryX {ks : List Nat} {b : SmS} {l : List Cz} {Q : F → Store → Prop} (h : Xn (b ρ S) fun c fs ds ρ1 S1 => ks.contains c = true ∧ Ok (pick c fs ds ρ1 S1 l) Q) : Ok (sTry ks b l ρ S) Q := by
  unfold sTry
  obtain ⟨c, fs, ds, ρ1, S1, e, h1, h2⟩ := h.get
  rw [e]
  dsimp only
  rw [if_pos h1]
  exact h2
def clF (o : Option Nat) : F → F
  | .nx ρ => .nx (clr o ρ)
  | .rt w => .rt w
  | .bk ρ => .bk (clr o ρ)
  | .ct ρ => .ct (clr o ρ)
theorem ok_endSu {o : Option Nat} {r : R F} {Q : F → Store → Prop} (h : Ok r fun f S => Q (clF o f) S) : Ok (endSu o r) Q := by
  obtain ⟨f, S1, e, q⟩ := h.get
  rw [e]
  cases f <;> exact .mk q
theorem ok_hit {c : Nat} {fs : List Str} {ds : List D} {o : Option Nat} {su : List Str → List D → SmS} {l : List Cz} {Q : F → Store → Prop} (ho : okO o ρ = true) (h : Ok (su fs ds (clr o ρ) S) fun f S => Q (clF o f) S) : Ok (pick c fs ds ρ S ((c, o, su) :: l)) Q := by
  unfold pick
  rw [if_pos rfl, if_pos ho]
  exact ok_endSu h
end
/-- a def that raises and leaves the cells, when called at ws -/
def PuX (Φ : Fn) (ws : List W) (c : Nat) (fs : List Str) (ds : List D) : Prop := ∀ S ρ, AllL S → fin ρ S.length (Φ ws S) = .exn c fs ds ρ S
theorem PuX.xn {Φ : Fn} {ws : List W} {c : Nat} {fs : List Str} {ds : List D} {P : Nat → List Str → List D → Env' → Store → Prop} (h : PuX Φ ws c fs ds) {S : Store} {ρ : Env'} (hS : AllL S) (p : P c fs ds ρ S) : Xn (fin ρ S.length (Φ ws S)) P := by
  rw [h S ρ hS]
  exact .mk p
theorem PuX.of {N : Nat} {b : SmS} {ws : List W} {c : Nat} {fs : List Str} {ds : List D} (h : ∀ S, AllL S → Xn (b (ws.map some ++ List.replicate (N - ws.length) none) S) fun c' fs' ds' _ S' => c' = c ∧ fs' = fs ∧ ds' = ds ∧ S' = S) : PuX (body0 N b) ws c fs ds := fun S ρ hS => by
  obtain ⟨_, _, _, ρ1, _, e, rfl, rfl, rfl, rfl⟩ := (h S hS).get
  unfold body0
  rw [e]
  show (if closed _ _ = true then R.exn _ _ _ ρ (List.take _ _) else .bad) = _
  rw [if_pos hS.wf, List.take_length]
end EV
namespace EV
open PySem L2 Tx
section
variable {ft : Nat → List Str} {CW C n : Nat} {gs R : List (List Nat)} {kvs : List (List L2.Key × D)}
/-- the first step raises -/
theorem drop_X {b : SmS} {ρ : Env'} {S : Store} {np : Nat} {Φ : Fn} {g : SmL} {P : Nat → List Str → List D → Env' → Store → Prop} (h : Ok (g ρ S) fun ws S1 => AQ (ws.length = np) (Xn (fin ρ S1.length (Φ ws S1)) P)) : Xn (sSeq (sDrop (cCall np Φ g)) b ρ S) P := xn_seq1 (xn_drop (xn_call h))
end
end EV
set_option maxHeartbeats 1000000
namespace EV
open PySem L2 Tx
/-- rows of at most m, h deep, integers with q, texts with r -/
def Fine (q : Int → Prop) (r : Str → Prop) (m : Nat) : Nat → D → Prop
  | 0, v => match v with
    | .int i => q i
    | .bl _ => True
    | .non => True
    | .str x => r x
    | _ => False
  | h + 1, v => match v with
    | .int i => q i
    | .bl _ => True
    | .non => True
    | .str x => r x
    | .tup xs => xs.length ≤ m ∧ ∀ x ∈ xs, Fine q r m h x
    | .lst xs => xs.length ≤ m ∧ ∀ x ∈ xs, Fine q r m h x
    | _ => False
def iAny : Int → Prop := fun _ => True
def iTxt : Int → Prop := fun i => PyData.strOk (toString i : String) = true ∧ i.natAbs.log2 < 1920
def sOk : Str → Prop := fun x => PyData.strOk x = true
def sNo : Str → Prop := fun _ => False
abbrev FineI (m h : Nat) (v : D) : Prop := Fine iTxt sNo m h v
abbrev FineO (m h : Nat) (v : D) : Prop := Fine iAny sOk m h v
section
variable {q q' : Int → Prop} {r r' : Str → Prop} {m m' h h' : Nat} {v : D} {xs ys : List D}
theorem fine_int {i : Int} (hq : q i) : Fine q r m h (.int i) := by
  cases h <;> exact hq
theorem fine_bl {b : Bool} : Fine q r m h (.bl b) := by
  cases h <;> exact trivial
theorem fine_non : Fine q r m h .non := by
  cases h <;> exact trivial
theorem fine_str {x : Str} (hr : r x) : Fine q r m h (.str x) := by
  cases h <;> exact hr
theorem fine_tup (hl : xs.length ≤ m) (hx : ∀ x ∈ xs, Fine q r m h x) : Fine q r m (h + 1) (.tup xs) := ⟨hl, hx⟩
theorem fine_lst (hl : xs.length ≤ m) (hx : ∀ x ∈ xs, Fine q r m h x) : Fine q r m (h + 1) (.lst xs) := ⟨hl, hx⟩
theorem fine_tupI (hf : Fine q r m h (.tup xs)) : ∃ k, h = k + 1 ∧ xs.length ≤ m ∧ ∀ x ∈ xs, Fine q r m k x := by
  cases h with
  | zero => exact hf.elim
  | succ k => exact ⟨k, rfl, hf.1, hf.2⟩
end
theorem Fine.mono {q q' : Int → Prop} {r r' : Str → Prop} {m m' : Nat} (hq : ∀ i, q i → q' i) (hr : ∀ x, r x → r' x) (hm : m ≤ m') : ∀ {h h' : Nat} {v : D}, h ≤ h' → Fine q r m h v → Fine q' r' m' h' v
  | 0, 0, v, _, hf => by
    cases v with
    | int i => exact hq i hf
    | str x => exact hr x hf
    | bl _ => trivial
    | non => trivial
    | _ => exact hf.elim
  | 0, h' + 1, v, _, hf => by
    cases v with
    | int i => exact hq i hf
    | str x => exact hr x hf
    | bl _ => trivial
    | non => trivial
    | _ => exact hf.elim
  | h + 1, h' + 1, v, hh, hf => by
    cases v with
    | int i => exact hq i hf
    | str x => exact hr x hf
    | bl _ => trivial
    | non => trivial
    | tup xs => exact ⟨Nat.le_trans hf.1 hm, fun x hx => (hf.2 x hx).mono hq hr hm (Nat.le_of_succ_le_succ hh)⟩
    | lst xs => exact ⟨Nat.le_trans hf.1 hm, fun x hx => (hf.2 x hx).mono hq hr hm (Nat.le_of_succ_le_succ hh)⟩
    | _ => exact hf.elim
  | h + 1, 0, v, hh, _ => absurd hh (by omega)
theorem Fine.lay {q : Int → Prop} {r : Str → Prop} {m : Nat} (hr : ∀ x, r x → PyData.strOk x = true) : ∀ {h : Nat} {v : D}, Fine q r m h v → Lay h v
  | 0, v, hf => by
    cases v with
    | int i => exact lay_int
    | str x => exact lay_str (hr x hf)
    | bl _ => exact lay_bl
    | non => exact lay_non
    | _ => exact hf.elim
  | h + 1, v, hf => by
    cases v with
    | int i => exact lay_int
    | str x => exact lay_str (hr x hf)
    | bl _ => exact lay_bl
    | non => exact lay_non
    | tup xs => exact lay_tup (lays_iff.mpr fun x hx => (hf.2 x hx).lay hr)
    | lst xs => exact lay_lst (lays_iff.mpr fun x hx => (hf.2 x hx).lay hr)
    | _ => exact hf.elim
theorem FineO.val {m h : Nat} {v : D} (hm : m ≤ 1000) (hh : h ≤ 40) (hf : FineO m h v) : Val v := ⟨(Fine.lay (fun _ z => z) hf).mono hh, by
  cases h with
  | zero => cases v <;> first | exact Nat.zero_le _ | exact hf.elim
  | succ h => cases v <;> first | exact Nat.zero_le _ | exact Nat.le_trans hf.1 hm | exact hf.elim⟩
theorem FineI.out {m h m' h' : Nat} {v : D} (hf : FineI m h v) (hm : m ≤ m') (hh : h ≤ h') : FineO m' h' v := hf.mono (fun _ _ => trivial) (fun _ z => z.elim) hm hh
theorem FineO.up {m h m' h' : Nat} {v : D} (hf : FineO m h v) (hm : m ≤ m') (hh : h ≤ h') : FineO m' h' v := hf.mono (fun _ z => z) (fun _ z => z) hm hh
theorem fine_n {q : Int → Prop} {r : Str → Prop} {m h : Nat} (l : List Nat) (hl : l.length ≤ m) (hq : ∀ p ∈ l, q (p : Int)) : Fine q r m (h + 1) (tN l) := fine_tup (by rw [List.length_map]; exact hl) fun x hx => by
  obtain ⟨i, hi, rfl⟩ := List.mem_map.mp hx
  exact fine_int (hq i hi)
theorem iTxt_small {p : Nat} (hp : p < 24) : iTxt (p : Int) := ⟨str_small p hp, log_small p hp⟩
theorem cutLe {A : Type} (xs : List A) (lo hi : Option Int) : (cutD xs lo hi).length ≤ xs.length := by
  unfold cutD
  rw [List.length_take, List.length_drop]
  omega
theorem mem_cutD {A : Type} {xs : List A} {lo hi : Option Int} {x : A} (h : x ∈ cutD xs lo hi) : x ∈ xs := List.mem_of_mem_drop (List.mem_of_mem_take h)
section
variable {A : Type} (xs : List A) {a : Int}
theorem cutTo (h0 : 0 ≤ a) (h1 : a ≤ xs.length) : (cutD xs none (some a)).length = a.toNat := by
  obtain ⟨k, rfl⟩ := Int.eq_ofNat_of_zero_le h0
  unfold cutD
  rw [HT.sIx_none, HT.sIx_nat, List.length_take, List.length_drop]
  omega
theorem cutFrom (h0 : 0 ≤ a) : (cutD xs (some a) none).length = xs.length - a.toNat := by
  obtain ⟨k, rfl⟩ := Int.eq_ofNat_of_zero_le h0
  unfold cutD
  rw [HT.sIx_none, HT.sIx_nat, List.length_take, List.length_drop]
  omega
theorem cutOne (h0 : 0 ≤ a) : (cutD xs (some a) (some (a + 1))).length ≤ 1 := by
  obtain ⟨k, rfl⟩ := Int.eq_ofNat_of_zero_le h0
  unfold cutD
  rw [show ((k : Int) + 1) = ((k + 1 : Nat) : Int) from rfl, HT.sIx_nat, HT.sIx_nat, List.length_take, List.length_drop]
  omega
theorem cutBut : (cutD xs none (some (-1))).length ≤ xs.length - 1 := by
  unfold cutD
  rw [HT.sIx_none, List.length_take, List.length_drop]
  show min ((if (-1 : Int) < 0 then ((-1 : Int) + (xs.length : Int)).toNat else min (-1 : Int).toNat xs.length) - 0) _ ≤ _
  rw [if_pos (by decide)]
  omega
theorem cutFst : (cutD xs none (some 1)).length ≤ min 1 xs.length := by
  have := cutTo (A := A) (a := 1) xs (by decide)
  unfold cutD
  rw [HT.sIx_none, show (1 : Int) = ((1 : Nat) : Int) from rfl, HT.sIx_nat, List.length_take, List.length_drop]
  omega
end
theorem cat2 {xs ys : List D} {K : D → Prop} (h : xs.length + ys.length ≤ 16777216 ∧ K (.tup (xs ++ ys))) : VQ (oAdd (.tup xs) (.tup ys)) K := vq (o_addT h.1) h.2
/-- spoilt: what is made of a value of this kind, h deep -/
def SpF (Φ : Fn) (h : Nat) : Prop := ∀ k m v (deep : Int), m ≤ 1000 → FineI m h v → Bx Φ k [.c k, .d v, .d (.int deep)] (FineO (m + 1) (h + 2))
section
variable {ics : List Nat} {fT fS fP fW : Fn} {h m : Nat}
theorem sp_last (hP : PickOk fP) (hW : WholeOk fW ics) (hm : m ≤ 1000) {k : Nat} {v : D} {deep : Int} (hv : FineI m h v) (ht : isTupD v = false) (hi : isIntD v = false) : Bx (body0 5 (t__law_spoilt ics fT fS fP fW)) k [.c k, .d v, .d (.int deep)] (FineO (m + 1) (h + 2)) := .ofR fun S hS hb => by
  have ho : ordD ics v = true := (Fine.lay (fun _ z => z.elim) hv).ord
  have hs : isStrD v = false := by
    cases h <;> cases v <;> first | rfl | exact hv.elim
  unfold t__law_spoilt
  (repeat' first | (refine vq (isT_tuple ho) ?_) | (refine vq (isT_str ho) ?_) | fail "ABCEFHIJLMNQUVWYZjlmnqrstuvwx23689!#$%)*?^_`ÀÁ")
  refine (hW v ho).ok hS ?_
  fail "ABCEFHIJLMNQUVWYZjlmnqrstuvwx23689!#$%)*?^_`À"
  refine Bx.ok (hP k _ (by simp) (by simp)).1 hS hb fun d S' hR _ hd => ?_
  fail "ABCEFHIJLMNQUVWYZjlmnqrstuvwx23689!#$%)*?^_`À"
  refine ⟨hR, d, rfl, ?_⟩
  simp only [List.mem_cons, List.not_mem_nil, or_false] at hd
  rcases hd with rfl | rfl | rfl
  · exact fine_int trivial
  · exact fine_tup (Nat.zero_le _) fun _ z => nomatch z
  · exact fine_str (by show PyData.strOk _ = true; decide +kernel)
theorem sp_int (hP : PickOk fP) (hW : WholeOk fW ics) (hm : m ≤ 1000) {k : Nat} {i : Int} {deep : Int} (hv : iTxt i) : Bx (body0 5 (t__law_spoilt ics fT fS fP fW)) k [.c k, .d (.int i), .d (.int deep)] (FineO (m + 1) (h + 2)) := .ofR fun S hS hb => by
  have ho : ordD ics (.int i) = true := rfl
  have fs : fStr [.int i] = some (.str (toString i : String)) := by
    unfold fStr
    dsimp only
    rw [if_pos hv.2]
  unfold t__law_spoilt
  (repeat' first | (refine vq (isT_tuple ho) ?_) | (refine vq (isT_str ho) ?_) | fail "ABCEFHIJLMNQUVWYZjlmnqrstuvwx23689!#$%)*?^_`ÀÁ")
  refine cq_f rfl ?_
  (repeat' first | (refine vq (isT_tuple ho) ?_) | (refine vq (isT_str ho) ?_) | fail "ABCEFHIJLMNQUVWYZjlmnqrstuvwx23689!#$%)*?^_`ÀÁ")
  refine cq_f rfl ?_
  fail "ABCEFHIJLMNQUVWYZjlmnqrstuvwx23689!#$%)*?^_`À"
  refine (hW _ ho).ok hS ?_
  fail "ABCEFHIJLMNQUVWYZjlmnqrstuvwx23689!#$%)*?^_`À"
  refine cq_t rfl ?_
  (repeat' first | refine vq fs ?_ | fail "ABCEFHIJLMNQUVWYZjlmnqrstuvwx23689!#$%)*?^_`ÀÁ")
  refine Bx.ok (hP k _ (by simp) (by simp)).1 hS hb fun d S' hR _ hd => ?_
  fail "ABCEFHIJLMNQUVWYZjlmnqrstuvwx23689!#$%)*?^_`À"
  refine ⟨hR, d, rfl, ?_⟩
  simp only [List.mem_cons, List.not_mem_nil, or_false] at hd
  rcases hd with rfl | rfl | rfl | rfl | rfl | rfl | rfl | rfl
  · exact fine_int trivial
  · exact fine_int trivial
  · exact fine_bl
  · exact fine_int trivial
  · exact fine_tup (by show 1 ≤ m + 1; omega) fun x hx => by
      rw [List.mem_singleton.mp hx]
      exact fine_int trivial
  · exact fine_non
  · exact fine_str hv.1
  · exact fine_int trivial
theorem sp_tup (hh : h ≤ 63) (hT : TakeOk fT) (hS' : SpF fS h) (hm : m ≤ 1000) {k : Nat} {xs : List D} {deep : Int} (hl : xs.length ≤ m) (hx : ∀ x ∈ xs, FineI m h x) : Bx (body0 5 (t__law_spoilt ics fT fS fP fW)) k [.c k, .d (.tup xs), .d (.int deep)] (FineO (m + 1) (h + 3)) := .ofR fun S hS hb => by
  have ho : ordD ics (.tup xs) = true := rfl
  have el : ∀ x ∈ xs, FineO (m + 1) (h + 2) x := fun x z => (hx x z).out (by omega) (by omega)
  have ec : ∀ {lo hi}, ∀ x ∈ cutD xs lo hi, FineO (m + 1) (h + 2) x := fun x z => el x (mem_cutD z)
  have ea : ∀ {ys zs : List D}, (∀ x ∈ ys, FineO (m + 1) (h + 2) x) → (∀ x ∈ zs, FineO (m + 1) (h + 2) x) → ∀ x ∈ ys ++ zs, FineO (m + 1) (h + 2) x := fun a b x z => (List.mem_append.mp z).elim (a x) (b x)
  have e1 : ∀ {d : D}, FineO (m + 1) (h + 2) d → ∀ x ∈ [d], FineO (m + 1) (h + 2) x := fun hd x z => by
    rw [List.mem_singleton.mp z]
    exact hd
  unfold t__law_spoilt
  (repeat' first | (refine vq (isT_tuple ho) ?_) | fail "ABCEFHIJLMNQUVWYZjlmnqrstuvwx23689!#$%)*?^_`ÀÁ")
  refine cq_t rfl ?_
  refine ok_seq ?_
  fail "ACEFHIJLMNQUVWYZjlmnqrstuvwx23689!#$%)*?^_`À"
  refine hT.ok (by omega) (by omega) hS hb fun a S1 hR1 _ a0 a1 => ?_
  have c1 := cutTo xs a0 (by omega)
  have c2 := cutFrom xs a0
  have c3 := cutOne xs a0
  have c4 := cutFrom xs (a := a + 1) (by omega)
  have c5 := cutBut xs
  have c6 := cutFst xs
  refine sq_nx ?_
  have rest : ∀ (Q : F → Store → Prop), (∀ d S', Rn k S S' → FineO (m + 1) (h + 3) d → Q (.rt (.d d)) S') → ∀ S2, Rn k S S2 → Ok (sSeq (sSet 4 (cCall 2 (fT) (cCons (cVar 0) (cCons (cCst (.int 8)) (cNil))))) (
    sSeq (sIf (cOp2 oEq (cVar 4) (cCst (.int 0))) (sRet true (cBiL false fList (cCons (cVar 1) (cNil)))) (sNil)) (
    sSeq (sIf (cOp2 oEq (cVar 4) (cCst (.int 1))) (sRet true (cOp2 oAdd (cSl false (cVar 1) oNone (oSome (cVar 3))) (cSl false (cVar 1) (oSome (cOp2 oAdd (cVar 3) (cCst (.int 1)))) oNone))) (sNil)) (
    sSeq (sIf (cOp2 oEq (cVar 4) (cCst (.int 2))) (sRet true (cOp2 oAdd (cOp2 oAdd (cSl false (cVar 1) oNone (oSome (cVar 3))) (cSl false (cVar 1) (oSome (cVar 3)) (oSome (cOp2 oAdd (cVar 3) (cCst (.int 1)))))) (cSl false (cVar 1) (oSome (cVar 3)) oNone))) (sNil)) (
    sSeq (sIf (cOp2 oEq (cVar 4) (cCst (.int 3))) (sRet true (cOp2 oAdd (cSl false (cVar 1) (oSome (cVar 3)) oNone) (cSl false (cVar 1) oNone (oSome (cVar 3))))) (sNil)) (
    sSeq (sIf (cOp2 oEq (cVar 4) (cCst (.int 4))) (sRet true (cOp2 oAdd (cVar 1) (cTup (cCons (cTup (cNil)) (cNil))))) (sNil)) (
    sSeq (sIf (cOp2 oEq (cVar 4) (cCst (.int 5))) (sRet true (cOp2 oAdd (cOp2 oAdd (cSl false (cVar 1) oNone (oSome (cVar 3))) (cTup (cCons (cCst (.int 0)) (cNil)))) (cSl false (cVar 1) (oSome (cVar 3)) oNone))) (sNil)) (
    sSeq (sIf (cOp2 oEq (cVar 4) (cCst (.int 6))) (sRet true (cOp2 oAdd (cSl false (cVar 1) oNone (oSome (cNeg (cCst (.int 1))))) (cSl false (cVar 1) oNone (oSome (cCst (.int 1)))))) (sNil)) (
    sRet true (cCst .non))))))))) [some (.c k), some (.d (.tup xs)), some (.d (.int deep)), some (.d (.int a)), none] S2) Q := fun Q q S2 hR2 => by
    refine ok_seq ?_
    fail "ACEFHIJLMNQUVWYZjlmnqrstuvwx23689!#$%)*?^_`À"
    refine hT.ok (by omega) (by omega) hR2.all hR2.box fun h S3 hR3 _ h0 h1 => ?_
    have hR := hR2.trans hR3
    refine sq_nx ?_
    refine ok_seq ?_
    fail "ACEFHIJLMNQUVWYZjlmnqrstuvwx23689!#$%)*?^_`À"
    refine ⟨fun _ => ?_, fun _ => ?_⟩
    · (repeat' first | refine vq (show fList [.tup xs] = some xs from rfl) ?_ | fail "ABCEFHIJLMNQUVWYZjlmnqrstuvwx23689!#$%)*?^_`ÀÁ")
      exact q _ _ hR (fine_lst (by omega) el)
    fail "ACEFHIJLMNQUVWYZjlmnqrstuvwx23689!#$%)*?^_`À"
    refine ok_seq ?_
    fail "ACEFHIJLMNQUVWYZjlmnqrstuvwx23689!#$%)*?^_`À"
    refine ⟨fun _ => ?_, fun _ => ?_⟩
    · (repeat' first | with_reducible refine ok_slT ?_ | with_reducible refine ok_none ?_ | with_reducible refine ok_some ?_ | with_reducible refine t2 ?_ | fail "ABCEFHIJLMNQUVWYZjlmnqrstuvwx23689!#$%)*?^_`ÀÁ")
      (try (refine cat2 ?_; refine ⟨by (try simp only [List.length_append, List.length_singleton]); omega, ?_⟩))
      fail "ABCEFHIJLMNQUVWYZjlmnqrstuvwx23689!#$%)*?^_`À"
      exact q _ _ hR (fine_tup (by rw [List.length_append]; omega) (ea ec ec))
    fail "ACEFHIJLMNQUVWYZjlmnqrstuvwx23689!#$%)*?^_`À"
    refine ok_seq ?_
    fail "ACEFHIJLMNQUVWYZjlmnqrstuvwx23689!#$%)*?^_`À"
    refine ⟨fun _ => ?_, fun _ => ?_⟩
    · (repeat' first | with_reducible refine ok_slT ?_ | with_reducible refine ok_none ?_ | with_reducible refine ok_some ?_ | with_reducible refine t2 ?_ | fail "ABCEFHIJLMNQUVWYZjlmnqrstuvwx23689!#$%)*?^_`ÀÁ")
      (try (refine cat2 ?_; refine ⟨by (try simp only [List.length_append, List.length_singleton]); omega, ?_⟩))
      (repeat' first | with_reducible refine ok_slT ?_ | with_reducible refine ok_none ?_ | with_reducible refine ok_some ?_ | with_reducible refine t2 ?_ | fail "ABCEFHIJLMNQUVWYZjlmnqrstuvwx23689!#$%)*?^_`ÀÁ")
      (try (refine cat2 ?_; refine ⟨by (try simp only [List.length_append, List.length_singleton]); omega, ?_⟩))
      fail "ABCEFHIJLMNQUVWYZjlmnqrstuvwx23689!#$%)*?^_`À"
      exact q _ _ hR (fine_tup (by rw [List.length_append, List.length_append]; omega) (ea (ea ec ec) ec))
    fail "ACEFHIJLMNQUVWYZjlmnqrstuvwx23689!#$%)*?^_`À"
    refine ok_seq ?_
    fail "ACEFHIJLMNQUVWYZjlmnqrstuvwx23689!#$%)*?^_`À"
    refine ⟨fun _ => ?_, fun _ => ?_⟩
    · (repeat' first | with_reducible refine ok_slT ?_ | with_reducible refine ok_none ?_ | with_reducible refine ok_some ?_ | with_reducible refine t2 ?_ | fail "ABCEFHIJLMNQUVWYZjlmnqrstuvwx23689!#$%)*?^_`ÀÁ")
      (try (refine cat2 ?_; refine ⟨by (try simp only [List.length_append, List.length_singleton]); omega, ?_⟩))
      fail "ABCEFHIJLMNQUVWYZjlmnqrstuvwx23689!#$%)*?^_`À"
      exact q _ _ hR (fine_tup (by rw [List.length_append]; omega) (ea ec ec))
    fail "ACEFHIJLMNQUVWYZjlmnqrstuvwx23689!#$%)*?^_`À"
    refine ok_seq ?_
    fail "ACEFHIJLMNQUVWYZjlmnqrstuvwx23689!#$%)*?^_`À"
    refine ⟨fun _ => ?_, fun _ => ?_⟩
    · fail "ABCEFHIJLMNQUVWYZjlmnqrstuvwx23689!#$%)*?^_`À"
      (try (refine cat2 ?_; refine ⟨by (try simp only [List.length_append, List.length_singleton]); omega, ?_⟩))
      fail "ABCEFHIJLMNQUVWYZjlmnqrstuvwx23689!#$%)*?^_`À"
      exact q _ _ hR (fine_tup (by rw [List.length_append]; show xs.length + 1 ≤ m + 1; omega) (ea el (e1 (fine_tup (Nat.zero_le _) fun _ z => nomatch z))))
    fail "ACEFHIJLMNQUVWYZjlmnqrstuvwx23689!#$%)*?^_`À"
    refine ok_seq ?_
    fail "ACEFHIJLMNQUVWYZjlmnqrstuvwx23689!#$%)*?^_`À"
    refine ⟨fun _ => ?_, fun _ => ?_⟩
    · (repeat' first | with_reducible refine ok_slT ?_ | with_reducible refine ok_none ?_ | with_reducible refine ok_some ?_ | with_reducible refine t2 ?_ | fail "ABCEFHIJLMNQUVWYZjlmnqrstuvwx23689!#$%)*?^_`ÀÁ")
      (try (refine cat2 ?_; refine ⟨by (try simp only [List.length_append, List.length_singleton]); omega, ?_⟩))
      (repeat' first | with_reducible refine ok_slT ?_ | with_reducible refine ok_none ?_ | with_reducible refine ok_some ?_ | with_reducible refine t2 ?_ | fail "ABCEFHIJLMNQUVWYZjlmnqrstuvwx23689!#$%)*?^_`ÀÁ")
      (try (refine cat2 ?_; refine ⟨by (try simp only [List.length_append, List.length_singleton]); omega, ?_⟩))
      fail "ABCEFHIJLMNQUVWYZjlmnqrstuvwx23689!#$%)*?^_`À"
      exact q _ _ hR (fine_tup (by rw [List.length_append, List.length_append]; show _ + 1 + _ ≤ m + 1; omega) (ea (ea ec (e1 (fine_int trivial))) ec))
    fail "ACEFHIJLMNQUVWYZjlmnqrstuvwx23689!#$%)*?^_`À"
    refine ok_seq ?_
    fail "ACEFHIJLMNQUVWYZjlmnqrstuvwx23689!#$%)*?^_`À"
    refine ⟨fun _ => ?_, fun _ => ?_⟩
    · (repeat' first | with_reducible refine ok_slT ?_ | with_reducible refine ok_none ?_ | with_reducible refine ok_some ?_ | with_reducible refine t2 ?_ | fail "ABCEFHIJLMNQUVWYZjlmnqrstuvwx23689!#$%)*?^_`ÀÁ")
      (try (refine cat2 ?_; refine ⟨by (try simp only [List.length_append, List.length_singleton]); omega, ?_⟩))
      fail "ABCEFHIJLMNQUVWYZjlmnqrstuvwx23689!#$%)*?^_`À"
      exact q _ _ hR (fine_tup (by rw [List.length_append]; omega) (ea ec ec))
    fail "ABCEFHIJLMNQUVWYZjlmnqrstuvwx23689!#$%)*?^_`À"
    exact q _ _ hR fine_non
  refine ok_seq ?_
  fail "ACEFHIJLMNQUVWYZjlmnqrstuvwx23689!#$%)*?^_`À"
  have lx : Lays 63 xs := lays_iff.mpr fun x z => (Fine.lay (fun _ z => z.elim) (hx x z)).mono hh
  refine vq (o_neNilT lx) ?_
  fail "ACEFHIJLMNQUVWYZjlmnqrstuvwx23689!#$%)*?^_`À"
  refine ⟨fun hne => ?_, fun hne => ?_⟩
  · have lp : 0 < xs.length := by
      cases xs with
      | nil => cases hne
      | cons _ _ => simp
    fail "ACEFHIJLMNQUVWYZjlmnqrstuvwx23689!#$%)*?^_`À"
    refine ⟨fun _ => ?_, fun _ => ?_⟩
    · fail "ACEFHIJLMNQUVWYZjlmnqrstuvwx23689!#$%)*?^_`À"
      refine hT.ok (by omega) (by omega) hR1.all hR1.box fun b S2 hR2 _ b0 b1 => ?_
      fail "ACEFHIJLMNQUVWYZjlmnqrstuvwx23689!#$%)*?^_`À"
      refine ⟨fun _ => ?_, fun _ => ?_⟩
      · fail "ABCEFHIJLMNQUVWYZjlmnqrstuvwx23689!#$%)*?^_`À"
        have r0 := Int.fmod_nonneg_of_pos a (show (0 : Int) < xs.length by omega)
        have r1 := Int.fmod_lt_of_pos a (show (0 : Int) < xs.length by omega)
        generalize a.fmod xs.length = r at r0 r1
        have c1 := cutTo xs r0 (by omega)
        have c4 := cutFrom xs (a := r + 1) (by omega)
        (repeat' first | with_reducible refine ok_slT ?_ | with_reducible refine ok_none ?_ | with_reducible refine ok_some ?_ | with_reducible refine t2 ?_ | fail "ABCEFHIJLMNQUVWYZjlmnqrstuvwx23689!#$%)*?^_`ÀÁ")
        obtain ⟨j, rfl⟩ := Int.eq_ofNat_of_zero_le r0
        have hj : j < xs.length := by omega
        refine vq (o_ixT (k := j) rfl (List.getElem?_eq_getElem hj)) ?_
        fail "ABCEFHIJLMNQUVWYZjlmnqrstuvwx23689!#$%)*?^_`À"
        have hR := hR1.trans hR2
        refine Bx.ok (hS' k m _ _ hm (hx _ (List.getElem_mem hj))) hR.all hR.box fun d S3 hR3 _ hd => ?_
        fail "ABCEFHIJLMNQUVWYZjlmnqrstuvwx23689!#$%)*?^_`À"
        (try (refine cat2 ?_; refine ⟨by (try simp only [List.length_append, List.length_singleton]); omega, ?_⟩))
        (repeat' first | with_reducible refine ok_slT ?_ | with_reducible refine ok_none ?_ | with_reducible refine ok_some ?_ | with_reducible refine t2 ?_ | fail "ABCEFHIJLMNQUVWYZjlmnqrstuvwx23689!#$%)*?^_`ÀÁ")
        (try (refine cat2 ?_; refine ⟨by (try simp only [List.length_append, List.length_singleton]); omega, ?_⟩))
        fail "ABCEFHIJLMNQUVWYZjlmnqrstuvwx23689!#$%)*?^_`À"
        exact ⟨hR.trans hR3, _, rfl, fine_tup (by rw [List.length_append, List.length_append]; show _ + 1 + _ ≤ m + 1; omega) (ea (ea ec (e1 hd)) ec)⟩
      · fail "ACEFHIJLMNQUVWYZjlmnqrstuvwx23689!#$%)*?^_`À"
        exact rest _ (fun d S' h hv => ⟨h, d, rfl, hv⟩) _ (hR1.trans hR2)
    · fail "ACEFHIJLMNQUVWYZjlmnqrstuvwx23689!#$%)*?^_`À"
      exact rest _ (fun d S' h hv => ⟨h, d, rfl, hv⟩) _ hR1
  · fail "ACEFHIJLMNQUVWYZjlmnqrstuvwx23689!#$%)*?^_`À"
    exact rest _ (fun d S' h hv => ⟨h, d, rfl, hv⟩) _ hR1
theorem sp_ok (hh : h ≤ 60) (hT : TakeOk fT) (hP : PickOk fP) (hW : WholeOk fW ics) (hS : ∀ k, h = k + 1 → SpF fS k) : SpF (body0 5 (t__law_spoilt ics fT fS fP fW)) h := fun k m v deep hm hv => by
  cases v with
  | tup xs =>
    obtain ⟨j, rfl, hl, hx⟩ := fine_tupI hv
    exact sp_tup (by omega) hT (hS j rfl) hm hl hx
  | int i =>
    refine sp_int hP hW hm ?_
    cases h <;> exact hv
  | _ => exact sp_last hP hW hm hv rfl rfl
end
end EV
namespace Tx
open PySem L2 EV
end Tx
set_option maxHeartbeats 1000000
namespace EV
open PySem L2 Tx
theorem fmod_n {a b : Nat} : ((a : Int) + 1).fmod b = (((a + 1) % b : Nat) : Int) := by
  rw [show ((a : Int) + 1) = ((a + 1 : Nat) : Int) from rfl, Int.fmod_eq_emod_of_nonneg _ (by omega)]
  rfl
theorem count_ints (l : List Nat) : countD (iL l) = l.length ↔ l.Nodup := by
  induction l with
  | nil => exact ⟨fun _ => .nil, fun _ => rfl⟩
  | cons a l ih =>
    have h : ((a : Int) ∈ iL l) ↔ a ∈ l := by
      unfold iL
      rw [List.mem_map]
      exact ⟨fun ⟨b, hb, e⟩ => by have : b = a := by omega
                                  rw [← this]; exact hb, fun z => ⟨a, z, rfl⟩⟩
    have hle := countD_le (iL l)
    have ll : (iL l).length = l.length := List.length_map _
    show countD ((a : Int) :: iL l) = _ ↔ _
    unfold countD
    rw [List.nodup_cons]
    by_cases c : a ∈ l
    · rw [if_pos (h.mpr c)]
      refine ⟨fun e => ?_, fun e => absurd c e.1⟩
      rw [List.length_cons] at e
      omega
    · rw [if_neg (fun z => c (h.mp z)), List.length_cons]
      exact ⟨fun e => ⟨c, ih.mp (by omega)⟩, fun e => by rw [ih.mpr e.2]⟩
theorem ints_iL (l : List Nat) : l.map nD = (iL l).map D.int := by
  unfold iL
  rw [List.map_map]
  rfl
def rgAt (gs : List (List Nat)) (ps ms : List Nat) (k : Nat) : Bool := decide (ms.getD k 0 ∈ gs.getD (ps.getD k 0) []) && decide (ms.getD k 0 ∈ gs.getD (ps.getD ((k + 1) % ps.length) 0) [])
def rgN (gs : List (List Nat)) (ps ms : List Nat) : Bool := (decide ps.Nodup && decide ms.Nodup) && (List.range ps.length).all (rgAt gs ps ms)
section
variable {ft : Nat → List Str} {C n : Nat} {gs : List (List Nat)} {ics : List Nat}
theorem allB_ok {q : D → Bool} {f : Sm} {ρ : Env'} {S : Store} {i own : Nat} {it : Sm} {ds : List D} {Q : W → Store → Prop} (hi : Ok (it ρ S) fun w S1 => w = .d (.tup ds) ∧ S1 = S) (hl : ds.length ≤ 1000) (hb : ∀ d ∈ ds, Ok (f ((wipeE ρ [i]).set i (some (.d d))) S) fun w S1 => w = .d (.bl (q d)) ∧ S1 = S) (hq : Q (.d (.bl (ds.all q))) S) :
    Ok (cBi fAll (cCons (cLc false [i] (.one i) (cIter it) cTrue f) cNil) ρ S) Q := by
  refine ok_bi (ok_cons ?_)
  refine ok_lcM (fun d => d) ds (fun d => .bl (q d)) ?_
  refine ok_iter (hi.mono fun w S1 h => ?_)
  obtain ⟨rfl, rfl⟩ := h
  refine fz_d (vq it_t ⟨(List.map_id' ds).symm, by omega, fun d hd => vq put_one ?_, ?_⟩)
  · exact (hb d hd).mono fun w S' h => ⟨h.2, h.1⟩
  · refine ok_nil (vws_c (vw_d (vws_n (vq (f_allM _ _) hq))))
end
theorem take_fresh {l : List Nat} : (∀ k, k < l.length → l.getD k 0 ∉ l.take k) ↔ l.Nodup := by
  constructor
  · intro h
    rw [List.nodup_iff_pairwise_ne, List.pairwise_iff_getElem]
    intro i j hi hj hij e
    refine h j hj ?_
    rw [List.getD_eq_getElem?_getD, List.getElem?_eq_getElem hj]
    show l[j] ∈ _
    rw [← e]
    exact List.mem_take_iff_getElem.mpr ⟨i, by omega, rfl⟩
  · intro h k hk z
    obtain ⟨i, hi, e⟩ := List.mem_take_iff_getElem.mp z
    rw [List.getD_eq_getElem?_getD, List.getElem?_eq_getElem hk] at e
    have e : l[i]'(by omega) = l[k] := e
    have := List.pairwise_iff_getElem.mp (List.nodup_iff_pairwise_ne.mp h) i k (by omega) hk (by omega)
    exact this e
end EV
set_option maxHeartbeats 1000000
namespace EV
open PySem L2 Tx
def hit (g p : List Nat) : Bool := !(p.filter fun m => decide (m ∈ g)).isEmpty
def joinF (L : List (List Nat)) (g : List Nat) : List (List Nat) := (L.filter fun p => !hit g p) ++ [(L.filter (hit g)).flatten]
end EV
namespace EV
open PySem L2
section
variable {gs : List (List Nat)}
inductive Rch (gs : List (List Nat)) (k : Nat) : Nat → Nat → Prop where
  | refl (a : Nat) : Rch gs k a a
  | step {a b c p : Nat} : p < k → a ∈ gs.getD p [] → b ∈ gs.getD p [] → Rch gs k b c → Rch gs k a c
theorem Rch.mono {k k' a b : Nat} (h : Rch gs k a b) (l : k ≤ k') : Rch gs k' a b := by
  induction h with
  | refl a => exact .refl a
  | step hp ha hb _ ih => exact .step (Nat.lt_of_lt_of_le hp l) ha hb ih
theorem Rch.trans {k a b c : Nat} (h : Rch gs k a b) (h' : Rch gs k b c) : Rch gs k a c := by
  induction h with
  | refl a => exact h'
  | step hp ha hb _ ih => exact .step hp ha hb (ih h')
theorem rgN_iff {P M : List Nat} : rgN gs P M = true ↔ P.Nodup ∧ M.Nodup ∧ ∀ i, i < P.length → M.getD i 0 ∈ gs.getD (P.getD i 0) [] ∧ M.getD i 0 ∈ gs.getD (P.getD ((i + 1) % P.length) 0) [] := by
  unfold rgN rgAt
  simp only [Bool.and_eq_true, decide_eq_true_eq, List.all_eq_true, List.mem_range, and_assoc]
/-- a ring of groups -/
structure Ring (n : Nat) (gs : List (List Nat)) (P M : List Nat) : Prop where
  len : M.length = P.length
  two : 2 ≤ P.length
  pl : ∀ p ∈ P, p < gs.length
  ml : ∀ m ∈ M, m < n
  rg : rgN gs P M = true
theorem getD_lt {l : List Nat} {i : Nat} (h : i < l.length) : l.getD i 0 = l[i] := by
  rw [List.getD_eq_getElem?_getD, List.getElem?_eq_getElem h]
  rfl
structure Parts (n : Nat) (gs : List (List Nat)) (k : Nat) (L : List (List Nat)) : Prop where
  perm : L.flatten.Perm (List.range n)
  rch : ∀ P ∈ L, ∀ a ∈ P, ∀ b ∈ P, Rch gs k a b
theorem sum_hit {g : List Nat} : ∀ {L : List (List Nat)}, (∀ P ∈ L, (P.filter fun m => decide (m ∈ g)).length ≤ 1) → (L.flatten.filter fun m => decide (m ∈ g)).length = (L.filter (hit g)).length
  | [], _ => rfl
  | P :: L, h => by
    have ih := sum_hit (L := L) fun P hP => h P (List.mem_cons_of_mem _ hP)
    have h1 := h P (List.mem_cons_self ..)
    rw [List.flatten_cons, List.filter_append, List.length_append, ih, List.filter_cons]
    unfold hit at *
    cases e : P.filter fun m => decide (m ∈ g) with
    | nil => simp
    | cons x r =>
      rw [e] at h1
      simp at h1 ⊢
      rw [h1]
      simp
      omega
theorem two_of {l : List Nat} (nd : l.Nodup) (h : ¬ l.length ≤ 1) : ∃ a ∈ l, ∃ b ∈ l, a ≠ b := by
  match l, h with
  | [], h => simp at h
  | [x], h => simp at h
  | x :: y :: r, _ => exact ⟨x, by simp, y, by simp, fun e => (List.nodup_cons.mp nd).1 (by rw [e]; simp)⟩
theorem nodup_part {L : List (List Nat)} (nd : L.flatten.Nodup) {P : List Nat} (h : P ∈ L) : P.Nodup := nd.sublist (List.sublist_flatten_of_mem h)
theorem Parts.bad {n k : Nat} {L : List (List Nat)} (h : Parts n gs k L) {g : List Nat} (gn : g.Nodup) (gl : ∀ m ∈ g, m < n) (hb : (L.filter (hit g)).length ≠ g.length) : ∃ a b, a ∈ g ∧ b ∈ g ∧ a ≠ b ∧ Rch gs k a b := by
  by_cases c : ∀ P ∈ L, (P.filter fun m => decide (m ∈ g)).length ≤ 1
  · refine absurd ?_ hb
    rw [← sum_hit c]
    refine ((h.perm.filter _).length_eq).trans ?_
    refine ((List.perm_ext_iff_of_nodup (List.nodup_range.filter _) gn).mpr fun m => ?_).length_eq
    rw [List.mem_filter, List.mem_range, decide_eq_true_eq]
    exact ⟨fun z => z.2, fun z => ⟨gl m z, z⟩⟩
  · have ⟨P, hP⟩ := Classical.not_forall.mp c
    obtain ⟨hP, hlen⟩ := Classical.not_imp.mp hP
    have nd := nodup_part (h.perm.nodup_iff.mpr List.nodup_range) hP
    obtain ⟨a, ha, b, hb, ne⟩ := two_of (nd.filter _) hlen
    obtain ⟨a1, a2⟩ := List.mem_filter.mp ha
    obtain ⟨b1, b2⟩ := List.mem_filter.mp hb
    exact ⟨a, b, of_decide_eq_true a2, of_decide_eq_true b2, ne, h.rch P hP a a1 b b1⟩
theorem Parts.step {n k : Nat} {L : List (List Nat)} (h : Parts n gs k L) : Parts n gs (k + 1) (joinF L (gs.getD k [])) := by
  unfold joinF
  refine ⟨?_, fun P hP a ha b hb => ?_⟩
  · rw [List.flatten_append]
    have e : ([(L.filter (hit (gs.getD k []))).flatten] : List (List Nat)).flatten = (L.filter (hit (gs.getD k []))).flatten := by simp
    rw [e, ← List.flatten_append]
    refine List.Perm.trans ?_ h.perm
    refine List.Perm.flatten ?_
    exact (List.perm_append_comm).trans (List.filter_append_perm _ L)
  · rcases List.mem_append.mp hP with z | z
    · exact (h.rch P (List.mem_filter.mp z).1 a ha b hb).mono (by omega)
    · rw [List.mem_singleton.mp z] at ha hb
      obtain ⟨P1, h1, ha⟩ := List.mem_flatten.mp ha
      obtain ⟨P2, h2, hb⟩ := List.mem_flatten.mp hb
      have pick : ∀ P, P ∈ L.filter (hit (gs.getD k [])) → P ∈ L ∧ ∃ u ∈ P, u ∈ gs.getD k [] := fun P hP => by
        obtain ⟨x, y⟩ := List.mem_filter.mp hP
        refine ⟨x, ?_⟩
        unfold hit at y
        cases e : P.filter fun m => decide (m ∈ gs.getD k []) with
        | nil => rw [e] at y; cases y
        | cons u r =>
          have hu : u ∈ P.filter fun m => decide (m ∈ gs.getD k []) := by rw [e]; exact List.mem_cons_self ..
          obtain ⟨u1, u2⟩ := List.mem_filter.mp hu
          exact ⟨u, u1, of_decide_eq_true u2⟩
      obtain ⟨l1, u, u1, u2⟩ := pick P1 h1
      obtain ⟨l2, v, v1, v2⟩ := pick P2 h2
      exact ((h.rch P1 l1 a ha u u1).mono (by omega)).trans (.step (Nat.lt_succ_self k) u2 v2 ((h.rch P2 l2 v v1 b hb).mono (by omega)))
end
end EV
set_option maxHeartbeats 1000000
namespace EV
open PySem L2 Tx
/-- what is ahead of a call -/
structure Pth (n : Nat) (gs : List (List Nat)) (ps ms : List Nat) : Prop where
  len : ps.length = ms.length + 1
  pl : ∀ p ∈ ps, p < gs.length
  ml : ∀ m ∈ ms, m < n
  pn : ps.Nodup
  mn : ms.Nodup
  at_ : ∀ i, i < ms.length → ms.getD i 0 ∈ gs.getD (ps.getD i 0) [] ∧ ms.getD i 0 ∈ gs.getD (ps.getD (i + 1) 0) []
section
variable {n : Nat} {gs : List (List Nat)} {ps ms : List Nat}
theorem getD_app {l r : List Nat} {i : Nat} (h : i < l.length) : (l ++ r).getD i 0 = l.getD i 0 := by
  rw [List.getD_eq_getElem?_getD, List.getD_eq_getElem?_getD, List.getElem?_append_left h]
theorem getD_top {l : List Nat} {x i : Nat} (h : i = l.length) : (l ++ [x]).getD i 0 = x := by
  rw [h, List.getD_eq_getElem?_getD]
  simp
theorem Pth.app (h : Pth n gs ps ms) {m p : Nat} (hm : m < n) (hp : p < gs.length) (m1 : m ∈ gs.getD (ps.getD (ps.length - 1) 0) []) (m2 : m ∈ gs.getD p []) (nm : m ∉ ms) (np : p ∉ ps) : Pth n gs (ps ++ [p]) (ms ++ [m]) where
  len := by simp [h.len]
  pl q hq := (List.mem_append.mp hq).elim (h.pl q) fun z => by rw [List.mem_singleton.mp z]; exact hp
  ml q hq := (List.mem_append.mp hq).elim (h.ml q) fun z => by rw [List.mem_singleton.mp z]; exact hm
  pn := List.nodup_append.mpr ⟨h.pn, by simp, fun a ha b hb e => np (by rw [List.mem_singleton.mp hb] at e; rw [← e]; exact ha)⟩
  mn := List.nodup_append.mpr ⟨h.mn, by simp, fun a ha b hb e => nm (by rw [List.mem_singleton.mp hb] at e; rw [← e]; exact ha)⟩
  at_ i hi := by
    have hl := h.len
    rw [List.length_append, List.length_singleton] at hi
    by_cases c : i < ms.length
    · rw [getD_app c, getD_app (by omega), getD_app (by omega)]
      exact h.at_ i c
    · have e : i = ms.length := by omega
      rw [getD_top e, getD_app (by omega), getD_top (by omega)]
      rw [show ps.length - 1 = i by omega] at m1
      exact ⟨m1, m2⟩
theorem nodup_lt_len : ∀ {n : Nat} {l : List Nat}, l.Nodup → (∀ x ∈ l, x < n) → l.length ≤ n := fun {n l} nd h => by
  have p := (List.perm_ext_iff_of_nodup (List.nodup_range.filter (fun x => decide (x ∈ l))) nd).mpr fun x => by
    rw [List.mem_filter, List.mem_range, decide_eq_true_eq]
    exact ⟨fun z => z.2, fun z => ⟨h x z, z⟩⟩
  have := List.length_filter_le (fun x => decide (x ∈ l)) (List.range n)
  rw [p.length_eq, List.length_range] at this
  exact this
end
end EV
set_option maxHeartbeats 1000000
namespace EV
open PySem L2 Tx
theorem fs_hit {X Y : Type} {f : X → Option Y} {xs pre post : List X} {x : X} {r : Y} (e : xs = pre ++ x :: post) (h : pre.findSome? f = none) (hx : f x = some r) : xs.findSome? f = some r := by
  rw [e, List.findSome?_append, h, List.findSome?_cons, hx]
  rfl
theorem fs_skip {X Y : Type} {f : X → Option Y} {pre : List X} {x : X} (h : pre.findSome? f = none) (hx : f x = none) : (pre ++ [x]).findSome? f = none := by
  rw [List.findSome?_append, h, List.findSome?_cons, hx]
  rfl
theorem ix_lastN {ps : List Nat} (h : ps ≠ []) : oIx (tN ps) (.int (-1)) = some (nD (ps.getD (ps.length - 1) 0)) := by
  have l : 0 < ps.length := List.length_pos_iff.mpr h
  show (ixN (ps.map nD).length (-1)).bind (fun j => (ps.map nD)[j]?) = _
  have e : ixN (ps.map nD).length (-1) = some (ps.length - 1) := by
    unfold ixN
    rw [List.length_map]
    split
    · omega
    · rw [if_pos (by omega)]
      congr 1
      omega
  rw [e]
  show (ps.map nD)[ps.length - 1]? = _
  rw [List.getElem?_map, List.getElem?_eq_getElem (by omega), getD_lt (by omega)]
  rfl
end EV
set_option maxHeartbeats 1000000
namespace EV
open PySem L2
section
variable {n : Nat} {gs : List (List Nat)}
theorem part_one : ∀ {L : List (List Nat)} {P P' : List Nat} {x : Nat}, L.flatten.Nodup → P ∈ L → P' ∈ L → x ∈ P → x ∈ P' → P = P'
  | [], _, _, _, _, h, _, _, _ => nomatch h
  | Q :: L, P, P', x, nd, h, h', hx, hx' => by
    rw [List.flatten_cons, List.nodup_append] at nd
    obtain ⟨_, n2, n3⟩ := nd
    rcases List.mem_cons.mp h with z | z <;> rcases List.mem_cons.mp h' with y | y
    · rw [z, y]
    · rw [z] at hx
      exact absurd rfl (n3 x hx x (List.mem_flatten.mpr ⟨P', y, hx'⟩))
    · rw [y] at hx'
      exact absurd rfl (n3 x hx' x (List.mem_flatten.mpr ⟨P, z, hx⟩))
    · exact part_one n2 z y hx hx'
theorem hit_iff {g P : List Nat} : hit g P = true ↔ ∃ x ∈ P, x ∈ g := by
  unfold hit
  rw [Bool.not_eq_true', ← Bool.not_eq_true, List.isEmpty_iff, List.filter_eq_nil_iff]
  simp
theorem sum_ge {g : List Nat} : ∀ L : List (List Nat), (L.filter (hit g)).length ≤ (L.flatten.filter fun m => decide (m ∈ g)).length
  | [] => Nat.le_refl _
  | P :: L => by
    have ih := sum_ge (g := g) L
    rw [List.flatten_cons, List.filter_append, List.length_append, List.filter_cons]
    by_cases c : hit g P = true
    · rw [if_pos c, List.length_cons]
      obtain ⟨x, hx, hg⟩ := hit_iff.mp c
      have := List.length_pos_of_mem (List.mem_filter.mpr ⟨hx, decide_eq_true hg⟩ : x ∈ P.filter fun m => decide (m ∈ g))
      omega
    · rw [if_neg c]
      omega
theorem sum_gt {g P0 : List Nat} (h2 : 2 ≤ (P0.filter fun m => decide (m ∈ g)).length) : ∀ {L : List (List Nat)}, P0 ∈ L → (L.filter (hit g)).length < (L.flatten.filter fun m => decide (m ∈ g)).length
  | [], h => nomatch h
  | P :: L, h => by
    rw [List.flatten_cons, List.filter_append, List.length_append, List.filter_cons]
    have hl : (if hit g P = true then P :: L.filter (hit g) else L.filter (hit g)).length ≤ (L.filter (hit g)).length + (if hit g P = true then 1 else 0) := by
      by_cases c : hit g P = true
      · rw [if_pos c, if_pos c, List.length_cons]
        exact Nat.le_refl _
      · rw [if_neg c, if_neg c]
        exact Nat.le_refl _
    rcases List.mem_cons.mp h with z | z
    · have := sum_ge (g := g) L
      have h3 : (if hit g P = true then 1 else 0) ≤ 1 := by split <;> omega
      rw [← z] at hl h3 ⊢
      omega
    · have ih := sum_gt h2 z
      by_cases c : hit g P = true
      · rw [if_pos c] at hl ⊢
        obtain ⟨x, hx, hg⟩ := hit_iff.mp c
        have := List.length_pos_of_mem (List.mem_filter.mpr ⟨hx, decide_eq_true hg⟩ : x ∈ P.filter fun m => decide (m ∈ g))
        rw [List.length_cons]
        omega
      · rw [if_neg c]
        omega
/-- each group so far lies in one part -/
structure Whole (n : Nat) (gs : List (List Nat)) (k : Nat) (L : List (List Nat)) : Prop where
  perm : L.flatten.Perm (List.range n)
  one : ∀ q, q < k → q < gs.length → ∃ P ∈ L, ∀ m ∈ gs.getD q [], m ∈ P
theorem Whole.nd {k : Nat} {L : List (List Nat)} (h : Whole n gs k L) : L.flatten.Nodup := h.perm.nodup_iff.mpr List.nodup_range
theorem Whole.bad {k : Nat} {L : List (List Nat)} (h : Whole n gs k L) {g : List Nat} (gn : g.Nodup) (gl : ∀ m ∈ g, m < n) {P : List Nat} (hP : P ∈ L) {a b : Nat} (ha : a ∈ g) (hb : b ∈ g) (ne : a ≠ b) (ha' : a ∈ P) (hb' : b ∈ P) : (L.filter (hit g)).length ≠ g.length := fun e => by
  have h2 : 2 ≤ (P.filter fun m => decide (m ∈ g)).length := by
    have a1 : a ∈ P.filter fun m => decide (m ∈ g) := List.mem_filter.mpr ⟨ha', decide_eq_true ha⟩
    have b1 : b ∈ P.filter fun m => decide (m ∈ g) := List.mem_filter.mpr ⟨hb', decide_eq_true hb⟩
    generalize P.filter (fun m => decide (m ∈ g)) = F at a1 b1
    match F, a1, b1 with
    | [x], a1, b1 => exact absurd ((List.mem_singleton.mp a1).trans (List.mem_singleton.mp b1).symm) ne
    | x :: y :: r, _, _ => simp
  have h3 := sum_gt h2 hP
  have h4 : (L.flatten.filter fun m => decide (m ∈ g)).length = g.length := by
    refine ((h.perm.filter _).length_eq).trans ?_
    refine ((List.perm_ext_iff_of_nodup (List.nodup_range.filter _) gn).mpr fun m => ?_).length_eq
    rw [List.mem_filter, List.mem_range, decide_eq_true_eq]
    exact ⟨fun z => z.2, fun z => ⟨gl m z, z⟩⟩
  omega
theorem join_perm {L : List (List Nat)} {g : List Nat} : (joinF L g).flatten.Perm L.flatten := by
  unfold joinF
  rw [List.flatten_append]
  have e : ([(L.filter (hit g)).flatten] : List (List Nat)).flatten = (L.filter (hit g)).flatten := by simp
  rw [e, ← List.flatten_append]
  exact List.Perm.flatten ((List.perm_append_comm).trans (List.filter_append_perm _ L))
theorem Whole.step {k : Nat} {L : List (List Nat)} (h : Whole n gs k L) (hlt : ∀ m ∈ gs.getD k [], m < n) : Whole n gs (k + 1) (joinF L (gs.getD k [])) := by
  refine ⟨join_perm.trans h.perm, fun q hq hl => ?_⟩
  have inj : ∀ P ∈ L, hit (gs.getD k []) P = true → ∀ m ∈ P, m ∈ (L.filter (hit (gs.getD k []))).flatten := fun P hP hh m hm => List.mem_flatten.mpr ⟨P, List.mem_filter.mpr ⟨hP, hh⟩, hm⟩
  rcases Nat.lt_succ_iff_lt_or_eq.mp hq with z | z
  · obtain ⟨P, hP, hm⟩ := h.one q z hl
    by_cases c : hit (gs.getD k []) P = true
    · exact ⟨_, List.mem_append_right _ (List.mem_singleton.mpr rfl), fun m hm2 => inj P hP c m (hm m hm2)⟩
    · exact ⟨P, List.mem_append_left _ (List.mem_filter.mpr ⟨hP, by simpa using c⟩), hm⟩
  · subst z
    refine ⟨_, List.mem_append_right _ (List.mem_singleton.mpr rfl), fun m hm => ?_⟩
    have : m ∈ L.flatten := h.perm.mem_iff.mpr (List.mem_range.mpr (hlt m hm))
    obtain ⟨P, hP, hmP⟩ := List.mem_flatten.mp this
    exact inj P hP (hit_iff.mpr ⟨m, hmP, hm⟩) m hmP
theorem Whole.skip {k : Nat} {L : List (List Nat)} (h : Whole n gs k L) (hlt : ∀ m ∈ gs.getD k [], m < n) (ne : gs.getD k [] ≠ []) (c : ¬ 1 < (gs.getD k []).length) : Whole n gs (k + 1) L := by
  refine ⟨h.perm, fun q hq hl => ?_⟩
  rcases Nat.lt_succ_iff_lt_or_eq.mp hq with z | z
  · exact h.one q z hl
  · subst z
    obtain ⟨x, r, e⟩ := List.exists_cons_of_ne_nil ne
    rw [e] at c hlt ⊢
    cases r with
    | cons y r => simp at c
    | nil =>
      have : x ∈ L.flatten := h.perm.mem_iff.mpr (List.mem_range.mpr (hlt x (List.mem_cons_self ..)))
      obtain ⟨P, hP, hx⟩ := List.mem_flatten.mp this
      exact ⟨P, hP, fun m hm => by rw [List.mem_singleton.mp hm]; exact hx⟩
theorem nodup_at {l : List Nat} (h : l.Nodup) {i j : Nat} (hi : i < l.length) (hj : j < l.length) (e : l.getD i 0 = l.getD j 0) : i = j := by
  rw [getD_lt hi, getD_lt hj] at e
  exact (List.getElem_inj h).mp e
/-- at the greatest place of a ring the law's reckoning fails -/
theorem Whole.ring {k : Nat} {L : List (List Nat)} {Ps M : List Nat} (h : Whole n gs k L) (hR : Ring n gs Ps M) {i : Nat} (hi : i < Ps.length) (hk : Ps.getD i 0 = k) (hm : ∀ q ∈ Ps, q ≤ k) : ∃ P ∈ L, ∃ a b, a ∈ gs.getD k [] ∧ b ∈ gs.getD k [] ∧ a ≠ b ∧ a ∈ P ∧ b ∈ P := by
  obtain ⟨nP, nM, hat⟩ := rgN_iff.mp hR.rg
  have h2 := hR.two
  have lM := hR.len
  have md : ∀ t, (i + t) % Ps.length < Ps.length := fun t => Nat.mod_lt _ (by omega)
  have small : ∀ t, 1 ≤ t → t < Ps.length → Ps.getD ((i + t) % Ps.length) 0 < k := fun t h1 h3 => by
    have hle := hm _ (getD_memN (md t))
    refine Nat.lt_of_le_of_ne hle fun e => ?_
    have := nodup_at nP (md t) hi (by rw [e, hk])
    by_cases c : i + t < Ps.length
    · rw [Nat.mod_eq_of_lt c] at this
      omega
    · have e2 : (i + t) % Ps.length = i + t - Ps.length := by
        rw [Nat.mod_eq_sub_mod (by omega), Nat.mod_eq_of_lt (by omega)]
      omega
  have key : ∀ t, t < Ps.length → ∃ P ∈ L, M.getD (i % Ps.length) 0 ∈ P ∧ M.getD ((i + t) % Ps.length) 0 ∈ P := fun t => by
    induction t with
    | zero =>
      intro _
      have hmem : M.getD (i % Ps.length) 0 ∈ M := getD_memN (by rw [lM]; exact Nat.mod_lt _ (by omega))
      have : M.getD (i % Ps.length) 0 ∈ L.flatten := h.perm.mem_iff.mpr (List.mem_range.mpr (hR.ml _ hmem))
      obtain ⟨P, hP, hx⟩ := List.mem_flatten.mp this
      exact ⟨P, hP, hx, hx⟩
    | succ t ih =>
      intro ht
      obtain ⟨P, hP, h1, h3⟩ := ih (by omega)
      have a1 := hat _ (md t)
      have a2 := hat _ (md (t + 1))
      have em : ((i + t) % Ps.length + 1) % Ps.length = (i + (t + 1)) % Ps.length := by
        rw [Nat.mod_add_mod]
        rfl
      rw [em] at a1
      have sm := small (t + 1) (by omega) ht
      obtain ⟨Q, hQ, hQm⟩ := h.one _ sm (hR.pl _ (getD_memN (md (t + 1))))
      have hx := hQm _ a1.2
      have hy := hQm _ a2.1
      rw [part_one h.nd hP hQ h3 hx] at h1
      exact ⟨Q, hQ, h1, hy⟩
  obtain ⟨P, hP, h1, h3⟩ := key (Ps.length - 1) (by omega)
  have a0 := hat i hi
  have ei : i % Ps.length = i := Nat.mod_eq_of_lt hi
  have al := hat _ (md (Ps.length - 1))
  have el : ((i + (Ps.length - 1)) % Ps.length + 1) % Ps.length = i := by
    rw [Nat.mod_add_mod, show i + (Ps.length - 1) + 1 = i + Ps.length by omega, Nat.add_mod_right, ei]
  rw [el, hk] at al
  rw [hk] at a0
  rw [ei] at h1
  refine ⟨P, hP, _, _, a0.1, al.2, fun e => ?_, h1, h3⟩
  have := nodup_at nM (by omega) (by have := md (Ps.length - 1); omega) e
  by_cases c : i + (Ps.length - 1) < Ps.length
  · rw [Nat.mod_eq_of_lt c] at this
    omega
  · have e2 : (i + (Ps.length - 1)) % Ps.length = i + (Ps.length - 1) - Ps.length := by
      rw [Nat.mod_eq_sub_mod (by omega), Nat.mod_eq_of_lt (by omega)]
    omega
end
end EV
set_option maxHeartbeats 1000000
namespace EV
open PySem L2
def pairO (a b : Nat) : List Nat := if a = b then [a] else [min a b, max a b]
def Adj (gs : List (List Nat)) (a b : Nat) : Prop := a ≠ b ∧ pairO a b ∈ gs
theorem pairO_comm (a b : Nat) : pairO a b = pairO b a := by
  unfold pairO
  by_cases h : a = b
  · rw [if_pos h, if_pos h.symm, h]
  · rw [if_neg h, if_neg fun z => h z.symm, Nat.min_comm, Nat.max_comm]
section
variable {gs : List (List Nat)}
theorem Adj.symm {a b : Nat} (h : Adj gs a b) : Adj gs b a := ⟨h.1.symm, by rw [pairO_comm]; exact h.2⟩
/-- a way of k steps -/
def WayF (gs : List (List Nat)) (a b k : Nat) : Prop := ∃ v : Nat → Nat, v 0 = a ∧ v k = b ∧ ∀ t, t < k → Adj gs (v t) (v (t + 1))
theorem wayF_nil (a : Nat) : WayF gs a a 0 := ⟨fun _ => a, rfl, rfl, fun t h => absurd h (Nat.not_lt_zero t)⟩
theorem WayF.rev {a b k : Nat} (h : WayF gs a b k) : WayF gs b a k := by
  obtain ⟨v, h0, hk, ha⟩ := h
  refine ⟨fun t => v (k - t), by show v (k - 0) = b; rw [Nat.sub_zero]; exact hk, by show v (k - k) = a; rw [Nat.sub_self]; exact h0, fun t ht => ?_⟩
  have := (ha (k - (t + 1)) (by omega)).symm
  rw [show k - (t + 1) + 1 = k - t by omega] at this
  exact this
theorem WayF.app {a b c k j : Nat} (h : WayF gs a b k) (h' : WayF gs b c j) : WayF gs a c (k + j) := by
  obtain ⟨v, h0, hk, ha⟩ := h
  obtain ⟨w, w0, wk, wa⟩ := h'
  refine ⟨fun t => if t ≤ k then v t else w (t - k), ?_, ?_, fun t ht => ?_⟩
  · show (if 0 ≤ k then v 0 else _) = a
    rw [if_pos (Nat.zero_le k)]
    exact h0
  · show (if k + j ≤ k then v (k + j) else w (k + j - k)) = c
    by_cases z : j = 0
    · subst z
      rw [if_pos (by omega), Nat.add_zero, hk, ← w0]
      exact wk
    · rw [if_neg (by omega), Nat.add_sub_cancel_left]
      exact wk
  · show Adj gs (if t ≤ k then v t else w (t - k)) (if t + 1 ≤ k then v (t + 1) else w (t + 1 - k))
    by_cases c1 : t + 1 ≤ k
    · rw [if_pos (by omega), if_pos c1]
      exact ha t (by omega)
    · rw [if_neg c1]
      by_cases c2 : t ≤ k
      · have e : t = k := by omega
        subst e
        rw [if_pos c2, hk, ← w0, show t + 1 - t = 0 + 1 by omega]
        exact wa 0 (by omega)
      · rw [if_neg c2, show t + 1 - k = t - k + 1 by omega]
        exact wa (t - k) (by omega)
theorem WayF.one {a b : Nat} (h : Adj gs a b) : WayF gs a b 1 := ⟨fun t => if t = 0 then a else b, rfl, rfl, fun t ht => by
  have : t = 0 := by omega
  subst this
  exact h⟩
/-- a closed way, without end -/
structure Cyc (gs : List (List Nat)) (k : Nat) (v : Nat → Nat) : Prop where
  per : ∀ t, v (t + k) = v t
  adj : ∀ t, Adj gs (v t) (v (t + 1))
theorem cyc_of {v : Nat → Nat} {i d : Nat} (hd : 0 < d) (he : v (i + d) = v i) (ha : ∀ t, t < d → Adj gs (v (i + t)) (v (i + t + 1))) : Cyc gs d fun t => v (i + t % d) := by
  refine ⟨fun t => by show v (i + (t + d) % d) = _; rw [Nat.add_mod_right], fun t => ?_⟩
  show Adj gs (v (i + t % d)) (v (i + (t + 1) % d))
  have hm := Nat.mod_lt t hd
  have := ha (t % d) hm
  by_cases c : t % d + 1 = d
  · have e : (t + 1) % d = 0 := by
      rw [Nat.add_mod, show t % d = d - 1 by omega]
      by_cases c1 : d = 1
      · subst c1
        exact Nat.mod_one _
      · rw [Nat.mod_eq_of_lt (show 1 < d by omega), show d - 1 + 1 = d by omega, Nat.mod_self]
    rw [e, Nat.add_zero]
    rw [show i + t % d + 1 = i + d by omega, he] at this
    exact this
  · have e : (t + 1) % d = t % d + 1 := by
      rw [Nat.add_mod]
      by_cases c1 : d = 1
      · subst c1
        omega
      · rw [Nat.mod_eq_of_lt (show 1 < d by omega), Nat.mod_eq_of_lt (by omega)]
    rw [e]
    exact this
/-- an odd closed way holds an odd ring -/
theorem Cyc.odd : ∀ (m : Nat) {k : Nat} {v : Nat → Nat}, k ≤ m → k % 2 = 1 → Cyc gs k v → ∃ k' v', k' % 2 = 1 ∧ Cyc gs k' v' ∧ ∀ s t, s < t → t < k' → v' s ≠ v' t
  | 0, k, v, hk, ho, _ => by
    have : k = 0 := by omega
    subst this
    cases ho
  | m + 1, k, v, hk, ho, h => by
    by_cases c : ∀ s t, s < t → t < k → v s ≠ v t
    · exact ⟨k, v, ho, h, c⟩
    · have : ∃ s t, s < t ∧ t < k ∧ v s = v t := by
        refine Classical.byContradiction fun z => c fun s t h1 h2 e => z ⟨s, t, h1, h2, e⟩
      obtain ⟨s, t, h1, h2, e⟩ := this
      by_cases o : (t - s) % 2 = 1
      · exact Cyc.odd m (by omega) o (cyc_of (i := s) (d := t - s) (by omega) (by rw [show s + (t - s) = t by omega]; exact e.symm) fun x _ => h.adj _)
      · exact Cyc.odd m (k := k - (t - s)) (by omega) (by omega) (cyc_of (i := t) (d := k - (t - s)) (by omega) (by rw [show t + (k - (t - s)) = s + k by omega, h.per]; exact e) fun x _ => h.adj _)
/-- from an odd closed way -/
theorem WayF.odd {a k : Nat} (h : WayF gs a a k) (ho : k % 2 = 1) : ∃ k' v', k' % 2 = 1 ∧ Cyc gs k' v' ∧ ∀ s t, s < t → t < k' → v' s ≠ v' t := by
  obtain ⟨v, h0, hk, ha⟩ := h
  exact Cyc.odd k (Nat.le_refl k) ho (cyc_of (v := v) (i := 0) (d := k) (by omega) (by rw [Nat.zero_add, hk, h0]) fun t ht => by rw [Nat.zero_add]; exact ha t ht)
/-- with a two-colouring there is no odd closed way -/
theorem WayF.color {f : Nat → Nat} (hf : ∀ a b, Adj gs a b → f a ≠ f b) (h2 : ∀ a, f a < 2) {a b k : Nat} (h : WayF gs a b k) : (f a + k) % 2 = f b % 2 := by
  obtain ⟨v, h0, hk, ha⟩ := h
  have key : ∀ t, t ≤ k → (f a + t) % 2 = f (v t) % 2 := fun t => by
    induction t with
    | zero => intro _; rw [h0]; rfl
    | succ t ih =>
      intro ht
      have i := ih (by omega)
      have d := hf _ _ (ha t (by omega))
      have a1 := h2 (v t)
      have a2 := h2 (v (t + 1))
      omega
  rw [← hk]
  exact key k (Nat.le_refl k)
end
end EV
set_option maxHeartbeats 1000000
namespace EV
open PySem L2
def Cn (gs : List (List Nat)) (a b : Nat) : Prop := ∃ k, WayF gs a b k
def Least (gs : List (List Nat)) (r : Nat) : Prop := ∀ o, Cn gs r o → r ≤ o
structure ColP (n : Nat) (gs : List (List Nat)) (c : Nat → Option Nat) : Prop where
  lt : ∀ m x, c m = some x → m < n
  rt : ∀ m x, c m = some x → x < 2 ∧ ∃ r k, WayF gs r m k ∧ k % 2 = x ∧ c r = some 0 ∧ Least gs r
def Shut (gs : List (List Nat)) (c : Nat → Option Nat) : Prop := ∀ a b, c a ≠ none → Adj gs a b → c b ≠ none
def updC (c : Nat → Option Nat) (m x : Nat) : Nat → Option Nat := fun k => if k = m then some x else c k
def OddW (gs : List (List Nat)) : Prop := ∃ a k, k % 2 = 1 ∧ WayF gs a a k
section
variable {n : Nat} {gs : List (List Nat)} {c : Nat → Option Nat}
theorem Cn.symm {a b : Nat} (h : Cn gs a b) : Cn gs b a := by
  obtain ⟨k, h⟩ := h
  exact ⟨k, h.rev⟩
theorem Cn.trans {a b d : Nat} (h : Cn gs a b) (h' : Cn gs b d) : Cn gs a d := by
  obtain ⟨k, h⟩ := h
  obtain ⟨j, h'⟩ := h'
  exact ⟨_, h.app h'⟩
theorem least_eq {r r' : Nat} (h : Least gs r) (h' : Least gs r') (w : Cn gs r r') : r = r' := Nat.le_antisymm (h _ w) (h' _ w.symm)
theorem Shut.way (h : Shut gs c) {a b k : Nat} (w : WayF gs a b k) (ha : c a ≠ none) : c b ≠ none := by
  obtain ⟨v, h0, hk, hv⟩ := w
  have key : ∀ t, t ≤ k → c (v t) ≠ none := fun t => by
    induction t with
    | zero => intro _; rw [h0]; exact ha
    | succ t ih => intro ht; exact h _ _ (ih (by omega)) (hv t (by omega))
  rw [← hk]
  exact key k (Nat.le_refl k)
theorem updC_self {m x : Nat} : updC c m x m = some x := by unfold updC; rw [if_pos rfl]
theorem updC_ne {m x k : Nat} (h : k ≠ m) : updC c m x k = c k := by unfold updC; rw [if_neg h]
theorem colP_nil : ColP n gs fun _ => none := ⟨fun _ _ h => (nomatch h), fun _ _ h => (nomatch h)⟩
theorem ColP.start (h : ColP n gs c) (hs : Shut gs c) {s : Nat} (hn : s < n) (ho : ∀ o, o < s → c o ≠ none) (h0 : c s = none) : ColP n gs (updC c s 0) := by
  refine ⟨fun m x hm => ?_, fun m x hm => ?_⟩
  · by_cases e : m = s
    · rw [e]; exact hn
    · rw [updC_ne e] at hm
      exact h.lt m x hm
  · by_cases e : m = s
    · subst e
      rw [updC_self] at hm
      cases hm
      refine ⟨by omega, m, 0, wayF_nil m, rfl, updC_self, fun o ⟨k, w⟩ => Nat.le_of_not_lt fun z => ?_⟩
      exact hs.way w.rev (ho o z) h0
    · rw [updC_ne e] at hm
      obtain ⟨h2, r, k, w, e2, e3, e4⟩ := h.rt m x hm
      exact ⟨h2, r, k, w, e2, by rw [updC_ne fun z => by rw [z, h0] at e3; cases e3]; exact e3, e4⟩
theorem ColP.ext (h : ColP n gs c) {a b x : Nat} (ha : c a = some x) (hab : Adj gs a b) (hb : c b = none) (hn : b < n) : ColP n gs (updC c b (1 - x)) := by
  refine ⟨fun m y hm => ?_, fun m y hm => ?_⟩
  · by_cases e : m = b
    · rw [e]; exact hn
    · rw [updC_ne e] at hm
      exact h.lt m y hm
  · by_cases e : m = b
    · subst e
      rw [updC_self] at hm
      cases hm
      obtain ⟨h2, r, k, w, e2, e3, e4⟩ := h.rt a x ha
      exact ⟨by omega, r, k + 1, w.app (.one hab), by omega, by rw [updC_ne fun z => by rw [z, hb] at e3; cases e3]; exact e3, e4⟩
    · rw [updC_ne e] at hm
      obtain ⟨h2, r, k, w, e2, e3, e4⟩ := h.rt m y hm
      exact ⟨h2, r, k, w, e2, by rw [updC_ne fun z => by rw [z, hb] at e3; cases e3]; exact e3, e4⟩
theorem ColP.bad (h : ColP n gs c) {a b x : Nat} (ha : c a = some x) (hb : c b = some x) (hab : Adj gs a b) : OddW gs := by
  obtain ⟨_, r, k, w, e2, _, e4⟩ := h.rt a x ha
  obtain ⟨_, r', k', w', e2', _, e4'⟩ := h.rt b x hb
  have : r = r' := least_eq e4 e4' ⟨_, (w.app (.one hab)).app w'.rev⟩
  subst this
  exact ⟨r, k + 1 + k', by omega, (w.app (.one hab)).app w'.rev⟩
/-- the sides, or an odd closed way -/
def SidesR (n : Nat) (gs : List (List Nat)) : Option (List Nat) → Prop
  | none => OddW gs
  | some L => L.length = n ∧ (∀ m, m < n → L.getD m 0 < 2 ∧ ∃ r k, WayF gs r m k ∧ k % 2 = L.getD m 0 ∧ L.getD r 0 = 0 ∧ Least gs r) ∧ ∀ a b, Adj gs a b → L.getD a 0 ≠ L.getD b 0
theorem getD_ge {l : List Nat} {i : Nat} (h : l.length ≤ i) : l.getD i 0 = 0 := by
  rw [List.getD_eq_getElem?_getD, List.getElem?_eq_none h]
  rfl
theorem sides_lt2 {L : List Nat} (h : SidesR n gs (some L)) : ∀ a, L.getD a 0 < 2 := fun a => by
  by_cases c : a < n
  · exact (h.2.1 a c).1
  · rw [getD_ge (by have := h.1; omega)]
    omega
theorem OddW.not {f : Nat → Nat} (hf : ∀ a b, Adj gs a b → f a ≠ f b) (h2 : ∀ a, f a < 2) (h : OddW gs) : False := by
  obtain ⟨a, k, ho, w⟩ := h
  have := w.color hf h2
  omega
theorem SidesR.uniq : ∀ {r r' : Option (List Nat)}, SidesR n gs r → SidesR n gs r' → r = r'
  | none, none, _, _ => rfl
  | none, some L, h, h' => (OddW.not (f := fun a => L.getD a 0) h'.2.2 (sides_lt2 h') h).elim
  | some L, none, h', h => (OddW.not (f := fun a => L.getD a 0) h'.2.2 (sides_lt2 h') h).elim
  | some L, some L', h, h' => by
    congr 1
    refine List.ext_getElem (by rw [h.1, h'.1]) fun m hm hm' => ?_
    have l1 : m < n := by rw [← h.1]; exact hm
    obtain ⟨a2, r, k, w, e1, e2, e3⟩ := h.2.1 m l1
    obtain ⟨b2, r', k', w', e1', e2', e3'⟩ := h'.2.1 m l1
    have : r = r' := least_eq e3 e3' ⟨_, w.app w'.rev⟩
    subst this
    have z := w'.color (f := fun a => L.getD a 0) h.2.2 (sides_lt2 h)
    have g1 : L.getD m 0 = L[m] := getD_lt hm
    have g2 : L'.getD m 0 = L'[m] := getD_lt hm'
    omega
/-- what a colouring of all gives -/
theorem ColP.done (h : ColP n gs c) {L : List Nat} (hl : L.length = n) (he : ∀ m, m < n → c m = some (L.getD m 0)) (hlt : ∀ a b, Adj gs a b → a < n ∧ b < n) (hc : ∀ a b x, Adj gs a b → c a = some x → c b = some x → False) : SidesR n gs (some L) := by
  refine ⟨hl, fun m hm => ?_, fun a b hab e => ?_⟩
  · obtain ⟨h2, r, k, w, e2, e3, e4⟩ := h.rt m _ (he m hm)
    refine ⟨h2, r, k, w, e2, ?_, e4⟩
    have := he r (h.lt r 0 e3)
    rw [e3] at this
    exact (Option.some.inj this).symm
  · obtain ⟨l1, l2⟩ := hlt a b hab
    exact hc a b (L.getD a 0) hab (he a l1) (by rw [e]; exact he b l2)
theorem pairO_mem {a b : Nat} : a ∈ pairO a b ∧ b ∈ pairO a b := by
  unfold pairO
  by_cases h : a = b
  · rw [if_pos h]
    subst h
    exact ⟨by simp, by simp⟩
  · rw [if_neg h]
    have : (min a b = a ∧ max a b = b) ∨ (min a b = b ∧ max a b = a) := by omega
    rcases this with ⟨h1, h2⟩ | ⟨h1, h2⟩ <;> rw [h1, h2] <;> exact ⟨by simp, by simp⟩
theorem Adj.lt (G : Good n gs) {a b : Nat} (h : Adj gs a b) : a < n ∧ b < n := ⟨G.lt _ h.2 a pairO_mem.1, G.lt _ h.2 b pairO_mem.2⟩
theorem pairO_two {a b : Nat} (h : a < b) : pairO a b = [a, b] := by
  unfold pairO
  rw [if_neg (by omega), Nat.min_eq_left (by omega), Nat.max_eq_right (by omega)]
/-- a group of two is a pair -/
theorem two_adj (G : Good n gs) {a b : Nat} (h : [a, b] ∈ gs) : Adj gs a b := by
  have := G.asc _ h
  have hlt : a < b := by
    rw [List.pairwise_cons] at this
    exact this.1 b (by simp)
  exact ⟨by omega, by rw [pairO_two hlt]; exact h⟩
theorem adj_two {a b : Nat} (h : Adj gs a b) : [a, b] ∈ gs ∨ [b, a] ∈ gs := by
  obtain ⟨h1, h2⟩ := h
  rcases Nat.lt_or_gt_of_ne h1 with z | z
  · rw [pairO_two z] at h2
    exact .inl h2
  · rw [pairO_comm, pairO_two z] at h2
    exact .inr h2
open Classical in
/-- there are sides, or an odd closed way -/
theorem sides_ex (G : Good n gs) : ∃ r, SidesR n gs r := by
  by_cases o : OddW gs
  · exact ⟨none, o⟩
  have lst : ∀ m, ∃ r, Least gs r ∧ Cn gs r m := fun m => by
    have : ∀ k r, r ≤ k → Cn gs r m → ∃ r, Least gs r ∧ Cn gs r m := fun k => by
      induction k with
      | zero => exact fun r hr h => ⟨r, fun o _ => by omega, h⟩
      | succ k ih =>
        intro r hr h
        by_cases z : Least gs r
        · exact ⟨r, z, h⟩
        · obtain ⟨o, ho⟩ := Classical.not_forall.mp z
          obtain ⟨ho, hl⟩ := Classical.not_imp.mp ho
          exact ih o (by omega) (ho.symm.trans h)
    exact this m m (Nat.le_refl m) ⟨0, wayF_nil m⟩
  have ⟨R, hR⟩ : ∃ R : Nat → Nat, ∀ m, Least gs (R m) ∧ Cn gs (R m) m := ⟨fun m => Classical.choose (lst m), fun m => Classical.choose_spec (lst m)⟩
  have h1 := fun m => (hR m).1
  have h2 := fun m => (hR m).2
  have ⟨K, h3⟩ : ∃ K : Nat → Nat, ∀ m, WayF gs (R m) m (K m) := ⟨fun m => Classical.choose (h2 m), fun m => Classical.choose_spec (h2 m)⟩
  have gd : ∀ m, m < n → ((List.range n).map fun m => K m % 2).getD m 0 = K m % 2 := fun m hm => by
    rw [List.getD_eq_getElem?_getD, List.getElem?_map, List.getElem?_range hm]
    rfl
  have par : ∀ a k, WayF gs (R a) a k → k % 2 = K a % 2 := fun a k w => Classical.byContradiction fun z => o ⟨R a, k + K a, by omega, w.app (h3 a).rev⟩
  refine ⟨some ((List.range n).map fun m => K m % 2), by simp, fun m hm => ⟨by rw [gd m hm]; omega, R m, K m, h3 m, (gd m hm).symm, ?_, h1 m⟩, fun a b hab e => ?_⟩
  · have e1 : R (R m) = R m := least_eq (h1 _) (h1 m) ⟨_, h3 (R m)⟩
    by_cases c : R m < n
    · rw [gd _ c]
      have := par (R m) 0 (by rw [e1]; exact wayF_nil _)
      omega
    · exact getD_ge (by simp; omega)
  · obtain ⟨l1, l2⟩ := Adj.lt G hab
    rw [gd a l1, gd b l2] at e
    have e1 : R a = R b := least_eq (h1 a) (h1 b) ⟨_, ((h3 a).app (.one hab)).app (h3 b).rev⟩
    have := par b (K a + 1) (by rw [← e1]; exact (h3 a).app (.one hab))
    omega
open Classical in
noncomputable def sidesO (n : Nat) (gs : List (List Nat)) : Option (List Nat) := if h : ∃ r, SidesR n gs r then Classical.choose h else none
theorem sidesO_ok (G : Good n gs) : SidesR n gs (sidesO n gs) := by
  have h := sides_ex G
  unfold sidesO
  rw [dif_pos h]
  exact Classical.choose_spec h
theorem sidesO_eq (G : Good n gs) {r : Option (List Nat)} (h : SidesR n gs r) : sidesO n gs = r := (sidesO_ok G).uniq h
end
end EV
namespace EV
open PySem L2
section
variable {n : Nat} {gs : List (List Nat)} {tk l : List Nat}
theorem Lot.mem_own (h : Lot n gs l) {m : Nat} (hm : m < n) : ownN gs l m ∈ l ∧ ownN gs l m < gs.length ∧ m ∈ gs.getD (ownN gs l m) [] := by
  have hp := mem_plc.mp (own_plc h hm)
  refine ⟨?_, hp.1, hp.2⟩
  have hne := own_ne h.all hm
  unfold ownN
  generalize e : (l.filter fun p => decide (m ∈ gs.getD p [])) = L at hne
  cases L with
  | nil => exact absurd rfl hne
  | cons a L =>
    have : a ∈ l.filter fun p => decide (m ∈ gs.getD p []) := by rw [e]; exact List.mem_cons_self ..
    exact (List.mem_filter.mp this).1
theorem Lot.nd (h : Lot n gs l) : l.Nodup := (of_asc h.asc).imp fun h => by omega
/-- lots with the same places are the same -/
theorem Lot.ext {k : List Nat} (h : Lot n gs l) (h' : Lot n gs k) (e : ∀ p, p ∈ l ↔ p ∈ k) : l = k := by
  refine sorted_unique ((List.perm_ext_iff_of_nodup h.nd h'.nd).mpr e) ((of_asc h.asc).imp fun h => by omega) ((of_asc h'.asc).imp fun h => by omega)
/-- a place of a lot is the own place of each of its members -/
theorem Lot.sub (G : Good n gs) {k : List Nat} (h : Lot n gs l) (h' : Lot n gs k) (e : ∀ p ∈ k, p ∈ l) : l = k := h.ext h' fun p => ⟨fun hp => by
  have hg := G.ne _ (getD_mem (h.lt p hp))
  obtain ⟨m, r, em⟩ := List.exists_cons_of_ne_nil hg
  have hm : m ∈ gs.getD p [] := by rw [em]; exact List.mem_cons_self ..
  have hmn := G.lt _ (getD_mem (h.lt p hp)) m hm
  obtain ⟨a, b, c⟩ := h'.mem_own hmn
  have e1 := own_eq h hp hm
  have e2 := own_eq h (e _ a) c
  rw [← e1, e2]
  exact a, e p⟩
end
end EV
namespace Tx
open PySem L2 EV
end Tx
set_option maxHeartbeats 1000000
namespace EV
open PySem L2 Tx
def inLB (gs : List (List Nat)) (left : List Nat) (p : Nat) : Bool := (gs.getD p []).all fun m => decide (m ∈ left)
def winsL (gs : List (List Nat)) (left : List Nat) : List Nat := (List.range gs.length).filter (inLB gs left)
end EV
set_option maxHeartbeats 1000000
namespace EV
open PySem L2 Tx
theorem ok_while {c : Sm} {b : SmS} {Q : F → Store → Prop} (I : Nat → Env' → Store → Prop) (hs : ∀ k ρ S, I k ρ S → Ok (c ρ S) fun w S1 => TQ w fun t => CQ t (Ok (b ρ S1) (FQ (fun ρ2 S2 => ∃ j, j < k ∧ I j ρ2 S2) Q)) (Q (.nx ρ) S1)) : ∀ {n k : Nat} {ρ : Env'} {S : Store}, k < n → I k ρ S → Ok (whileL c b n ρ S) Q
  | 0, _, _, _, h, _ => absurd h (by omega)
  | n + 1, k, ρ, S, h, hI => by
    unfold whileL
    refine ok_bind (ok_toT ((hs k ρ S hI).mono fun w S1 h1 => ?_))
    obtain ⟨t, rfl, h1⟩ := h1
    refine ⟨t, rfl, ?_⟩
    cases t with
    | false => exact .mk (h1.2 rfl)
    | true =>
      rw [if_pos rfl]
      refine ok_bind ((h1.1 rfl).mono fun r S2 h2 => ?_)
      cases r with
      | nx ρ2 =>
        obtain ⟨j, hj, hI2⟩ := h2
        exact ok_while I hs (by omega) hI2
      | ct ρ2 =>
        obtain ⟨j, hj, hI2⟩ := h2
        exact ok_while I hs (by omega) hI2
      | bk ρ2 => exact .mk h2
      | rt w => exact .mk h2
def remL (gs : List (List Nat)) (left : List Nat) (p : Nat) : List Nat := left.filter fun m => !decide (m ∈ gs.getD p [])
section
variable {n : Nat} {gs R : List (List Nat)} {left : List Nat} {p : Nat}
theorem mem_winsL : p ∈ winsL gs left ↔ p < gs.length ∧ ∀ m ∈ gs.getD p [], m ∈ left := by
  unfold winsL inLB
  rw [List.mem_filter, List.mem_range, List.all_eq_true]
  exact ⟨fun h => ⟨h.1, fun m hm => of_decide_eq_true (h.2 m hm)⟩, fun h => ⟨h.1, fun m hm => decide_eq_true (h.2 m hm)⟩⟩
/-- members that are left, ascending -/
structure LeftOk (n : Nat) (left : List Nat) : Prop where
  asc : left.Pairwise (· < ·)
  lt : ∀ m ∈ left, m < n
theorem LeftOk.rem (h : LeftOk n left) : LeftOk n (remL gs left p) := ⟨h.asc.filter _, fun m hm => h.lt m (List.mem_filter.mp hm).1⟩
theorem left_all : LeftOk n (List.range n) := ⟨List.pairwise_lt_range, fun m hm => List.mem_range.mp hm⟩
/-- what the way of tops keeps: taken ahead, left, taken behind -/
structure TWay (n : Nat) (gs R : List (List Nat)) (pre left : List Nat) : Prop where
  lok : LeftOk n left
  lt : ∀ p ∈ pre, p < gs.length
  cov : ∀ m, m < n → m ∈ left ∨ ∃ p ∈ pre, m ∈ gs.getD p []
  out : ∀ p ∈ pre, ∀ m ∈ gs.getD p [], m ∉ left
  way : Way n gs pre
theorem TWay.zero : TWay n gs R [] (List.range n) := ⟨left_all, fun _ z => (nomatch z), fun m hm => .inl (List.mem_range.mpr hm), fun _ z => (nomatch z), way_nil⟩
theorem TWay.step (G : Good n gs) {pre : List Nat} (h : TWay n gs R pre left) (hp : p ∈ winsL gs left) : TWay n gs R (pre ++ [p]) (remL gs left p) := by
  obtain ⟨p1, p2⟩ := mem_winsL.mp hp
  refine ⟨h.lok.rem, fun q hq => (List.mem_append.mp hq).elim (h.lt q) fun z => by rw [List.mem_singleton.mp z]; exact p1, fun m hm => ?_, fun q hq m hm z => ?_, ?_⟩
  · rcases h.cov m hm with z | ⟨q, hq, z⟩
    · by_cases c : m ∈ gs.getD p []
      · exact .inr ⟨p, by simp, c⟩
      · exact .inl (List.mem_filter.mpr ⟨z, by rw [decide_eq_false c]; rfl⟩)
    · exact .inr ⟨q, by simp [hq], z⟩
  · obtain ⟨z1, z2⟩ := List.mem_filter.mp z
    rcases List.mem_append.mp hq with y | y
    · exact h.out q y m hm z1
    · rw [List.mem_singleton.mp y] at hm
      rw [decide_eq_true hm] at z2
      cases z2
  · refine ⟨fun q hq => (List.mem_append.mp hq).elim (h.lt q) fun z => by rw [List.mem_singleton.mp z]; exact p1, List.nodup_append.mpr ⟨h.way.nd, by simp, fun a ha b hb e => ?_⟩, ?_⟩
    · rw [List.mem_singleton.mp hb] at e
      subst e
      obtain ⟨m, r, e⟩ := List.exists_cons_of_ne_nil (G.ne _ (getD_mem p1))
      have hm : m ∈ gs.getD a [] := by rw [e]; exact List.mem_cons_self ..
      exact h.out a ha m hm (p2 m hm)
    · rw [mem_app]
      refine List.nodup_append.mpr ⟨h.way.md, (G.asc _ (getD_mem p1)).imp fun h => by omega, fun a ha b hb e => ?_⟩
      subst e
      obtain ⟨q, hq, z⟩ := List.mem_flatMap.mp ha
      exact h.out q hq a z (p2 a hb)
end
end EV
set_option maxHeartbeats 1000000
namespace EV
open PySem L2 Tx
end EV
namespace EV
open PySem L2 Tx
theorem ok_revT {f : Sm} {ρ : Env'} {S : Store} {Q : W → Store → Prop} (h : Ok (f ρ S) fun w S1 => VQ (view S1 w) fun x => T2 x fun xs => Q (.d (.tup xs.reverse)) S1) : Ok (cRev false f ρ S) Q :=
  ok_bind (h.mono fun w S1 h => by
    obtain ⟨x, h1, xs, rfl, q⟩ := h
    rw [h1]
    exact .mk q)
end EV
set_option maxHeartbeats 1000000
namespace EV
open PySem L2 Tx
abbrev prD (q : Nat × Nat) : D := .tup [nD q.1, nD q.2]
/-- step k of a ring: place, member; the member likes the next place better -/
def OkR (gs R : List (List Nat)) (left : List Nat) (PM : List (Nat × Nat)) (k : Nat) : Prop :=
  ((PM.getD k (0, 0)).1 < gs.length ∧ (PM.getD ((k + 1) % PM.length) (0, 0)).1 < gs.length) ∧ ((PM.getD k (0, 0)).1 ∉ (PM.take k).map (·.1)) ∧ ((∀ m ∈ gs.getD (PM.getD k (0, 0)).1 [], m ∈ left) ∧
    ((PM.getD k (0, 0)).2 ∈ gs.getD (PM.getD k (0, 0)).1 [] ∧ (PM.getD k (0, 0)).2 ∈ gs.getD (PM.getD ((k + 1) % PM.length) (0, 0)).1 [])) ∧
    rk gs R (PM.getD k (0, 0)).2 (PM.getD ((k + 1) % PM.length) (0, 0)).1 < rk gs R (PM.getD k (0, 0)).2 (PM.getD k (0, 0)).1
def RingR (gs R : List (List Nat)) (left : List Nat) (PM : List (Nat × Nat)) : Prop := 2 ≤ PM.length ∧ ∀ k, k < PM.length → OkR gs R left PM k
end EV
set_option maxHeartbeats 1000000
namespace EV
open PySem L2
section
variable {ρ : Env'} {S : Store}
theorem ok_dnewK {Q : W → Store → Prop} (q : Q (.c S.length) (S ++ [.dK true []])) : Ok (cDNewK ρ S) Q := .mk q
theorem ok_dgetK {f g : Sm} {Q : W → Store → Prop} (h : Ok (f ρ S) fun w S1 => Ok (g ρ S1) fun u S2 => ∃ ks ds k d, view S2 w = some (.dK ks ds) ∧ keyOf u = some k ∧ valK ks ds k = some d ∧ Q (.d d) S2) : Ok (cDGetK f g ρ S) Q :=
  ok_bind (h.mono fun w S1 h => ok_bind (h.mono fun u S2 h => by
    obtain ⟨ks, ds, k, d, h1, h2, h3, q⟩ := h
    rw [h1, h2]
    dsimp only
    rw [h3]
    exact .mk q))
theorem ok_dinK {neg : Bool} {f g : Sm} {Q : W → Store → Prop} (h : Ok (g ρ S) fun u S1 => Ok (f ρ S1) fun w S2 => ∃ ks ds k, view S2 w = some (.dK ks ds) ∧ keyOf u = some k ∧ Q (.d (.bl (if neg = true then !(ks.any fun k' => decide (k' = k)) else ks.any fun k' => decide (k' = k)))) S2) : Ok (cDInK neg g f ρ S) Q :=
  ok_bind (h.mono fun u S1 h => ok_bind (h.mono fun w S2 h => by
    obtain ⟨ks, ds, k, h1, h2, q⟩ := h
    rw [h1, h2]
    exact .mk q))
theorem ok_dputK {v f g : Sm} {Q : F → Store → Prop} (h : Ok (v ρ S) fun w S1 => Ok (f ρ S1) fun o S2 => Ok (g ρ S2) fun u S3 => ∃ d j k kvs, w = .d d ∧ o = .c j ∧ keyOf u = some k ∧ S3[j]? = some (.dK true kvs) ∧ kvs.length < 16777216 ∧ Q (.nx ρ) (S3.set j (.dK true (putKK kvs k d)))) : Ok (sDPutK v f g ρ S) Q :=
  ok_bind (h.mono fun w S1 h => ok_bind (h.mono fun o S2 h => ok_bind (h.mono fun u S3 h => by
    obtain ⟨d, j, k, kvs, rfl, rfl, h2, h3, h4, q⟩ := h
    rw [h2]
    dsimp only
    rw [h3]
    dsimp only
    rw [if_pos h4]
    exact .mk q)))
theorem ok_rep {f g : Sm} {Q : W → Store → Prop} (h : Ok (f ρ S) fun v S1 => Ok (g ρ S1) fun w S2 => ∃ xs i, view S2 v = some (.lst xs) ∧ view S2 w = some (.int i) ∧ ((-16777216 ≤ i ∧ i ≤ 16777216) ∧ xs.length * i.toNat ≤ 16777216) ∧ Q (.c S2.length) (S2 ++ [.lst true (repL i xs)])) : Ok (cRep f g ρ S) Q :=
  ok_bind (h.mono fun v S1 h => ok_bind (h.mono fun w S2 h => by
    obtain ⟨xs, i, h1, h2, h3, q⟩ := h
    rw [h1, h2]
    dsimp only
    rw [if_pos h3]
    exact .mk q))
theorem view_k {j : Nat} {m : Bool} {kvs : List (L2.Key × D)} (h : S[j]? = some (.dK m kvs)) : view S (.c j) = some (.dK (kvs.map (·.1)) (kvs.map (·.2))) := by
  unfold view
  dsimp only
  rw [h]
end
abbrev kvN (c : List (Nat × Nat)) : List (L2.Key × D) := c.map fun q => (.inl (q.1 : Int), nD q.2)
def getN (c : List (Nat × Nat)) (m : Nat) : Option Nat := (c.find? fun q => decide (q.1 = m)).map (·.2)
theorem val_kv (m : Nat) : ∀ c : List (Nat × Nat), valK ((kvN c).map (·.1)) ((kvN c).map (·.2)) (.inl (m : Int)) = (getN c m).map nD
  | [] => rfl
  | q :: c => by
    have ih := val_kv m c
    show (if (Sum.inl (q.1 : Int) : L2.Key) = .inl (m : Int) then some (nD q.2) else valK ((kvN c).map (·.1)) ((kvN c).map (·.2)) (.inl (m : Int))) = _
    unfold getN
    rw [List.find?_cons]
    by_cases h : q.1 = m
    · rw [if_pos (by rw [h]), decide_eq_true h]
      rfl
    · rw [if_neg (fun z => h (by injection z with z; omega)), decide_eq_false h, ih]
      rfl
theorem any_kv (m : Nat) : ∀ c : List (Nat × Nat), ((kvN c).map (·.1)).any (fun k' => decide (k' = (.inl (m : Int) : L2.Key))) = (getN c m).isSome
  | [] => rfl
  | q :: c => by
    have ih := any_kv m c
    show (decide ((Sum.inl (q.1 : Int) : L2.Key) = .inl (m : Int)) || ((kvN c).map (·.1)).any (fun k' => decide (k' = (.inl (m : Int) : L2.Key)))) = _
    unfold getN
    rw [List.find?_cons]
    by_cases h : q.1 = m
    · rw [decide_eq_true (show (Sum.inl (q.1 : Int) : L2.Key) = .inl (m : Int) by rw [h]), decide_eq_true h]
      rfl
    · rw [decide_eq_false (fun z => h (by injection z with z; omega)), decide_eq_false h, Bool.false_or, ih]
      rfl
/-- a new key -/
theorem put_kv {c : List (Nat × Nat)} {m x : Nat} (h : getN c m = none) : putKK (kvN c) (.inl (m : Int)) (nD x) = kvN (c ++ [(m, x)]) := by
  have ha := any_kv m c
  rw [h, List.any_map] at ha
  unfold putKK
  rw [if_neg (by rw [show (kvN c).any (fun kv => decide (kv.1 = (.inl (m : Int) : L2.Key))) = false from ha]; exact fun z => nomatch z)]
  show _ = (c ++ [(m, x)]).map _
  rw [List.map_append]
  rfl
theorem getN_app {c : List (Nat × Nat)} {m x k : Nat} (h : getN c m = none) : getN (c ++ [(m, x)]) k = if k = m then some x else getN c k := by
  unfold getN at *
  rw [List.find?_append]
  by_cases e : k = m
  · subst e
    rw [if_pos rfl]
    cases z : c.find? fun q => decide (q.1 = k) with
    | none => simp
    | some q => rw [z] at h; cases h
  · rw [if_neg e]
    cases z : c.find? fun q => decide (q.1 = k) with
    | none => simp [List.find?_cons, show ¬ m = k from fun y => e y.symm]
    | some q => rfl
end EV
set_option maxHeartbeats 1000000
namespace EV
open PySem L2 Tx
def StepR (gs : List (List Nat)) (left : List Nat) (d : D) : Prop := ∃ q : Nat × Nat, d = prD q ∧ q.1 < gs.length ∧ q.2 ∈ gs.getD q.1 [] ∧ ∀ x ∈ gs.getD q.1 [], x ∈ left
def RW (gs R : List (List Nat)) (left : List Nat) (v : D) : Prop := ∃ PM : List (Nat × Nat), v = .tup (PM.map prD) ∧ RingR gs R left PM
theorem RW.row {gs R : List (List Nat)} {left : List Nat} {xs : List D} (h : RW gs R left (.tup xs)) : 2 ≤ xs.length ∧ ∀ d ∈ xs, StepR gs left d := by
  obtain ⟨PM, e, h2, h3⟩ := h
  injection e with e
  subst e
  refine ⟨by rw [List.length_map]; exact h2, fun d hd => ?_⟩
  obtain ⟨q, hq, rfl⟩ := List.mem_map.mp hd
  obtain ⟨k, hk, rfl⟩ := List.mem_iff_getElem.mp hq
  have := h3 k hk
  unfold OkR at this
  have e : PM.getD k (0, 0) = PM[k] := by
    rw [List.getD_eq_getElem?_getD, List.getElem?_eq_getElem hk]
    rfl
  rw [e] at this
  exact ⟨PM[k], rfl, this.1.1, this.2.2.1.2.1, this.2.2.1.1⟩
end EV
set_option maxHeartbeats 1000000
namespace EV
open PySem L2
def rg (gs R : List (List Nat)) (m : Nat) (g : List Nat) : Nat := rk gs R m (gs.idxOf g)
end EV
namespace Tx
open PySem L2 EV
end Tx
set_option maxHeartbeats 1000000
namespace EV
open PySem L2 Tx
end EV
namespace Tx
open PySem L2 EV
end Tx
namespace Tx
open PySem L2 EV
/-- _law_told(kind, collection) -/
def t__law_told_v4 (xs : List Nat) (c_Undefined : Nat) (f_sides : Fn) (f_odd_ring : Fn) : SmS :=
  sTry xs (sSeq (sIf (cOp2 oEq (cVar 0) (cCst (.int 0))) (sRet true (cTup (cCons (cCst (.str "told")) (cCons (cCall 1 (f_sides) (cCons (cVar 1) (cNil))) (cNil))))) (sNil)) (
    sRet true (cTup (cCons (cCst (.str "told")) (cCons (cCall 1 (f_odd_ring) (cCons (cVar 1) (cNil))) (cNil)))))) [(c_Undefined, some 2, fun fs ds => sRet true (cTup (cCons (cCst (.str "undefined")) (cCons (cEf "what" fs ds) (cNil)))))]
/-- is_pairs(collection) -/
def t_is_pairs (ft : Nat → List Str) : SmS :=
  sRet true (cBi fAll (cCons (cLc false [1] (.one 1) (cIter (cFld ft "groups" (cVar 0))) cTrue (cOp2 oLe (cBi fLen (cCons (cVar 1) (cNil))) (cCst (.int 2)))) (cNil)))
/-- require_pairs(collection) -/
def t_require_pairs (c_Undefined : Nat) (f_is_pairs : Fn) : SmS :=
  sIf (cNot (cCall 1 (f_is_pairs) (cCons (cVar 0) (cNil)))) (sRaise c_Undefined ["what"] (cCons (cCst (.str "pairs")) (cNil))) (sNil)
/-- pair_of(one, other) -/
def t_pair_of  : SmS :=
  sSeq (sIf (cOp2 oEq (cVar 0) (cVar 1)) (sRet true (cTup (cCons (cVar 0) (cNil)))) (sNil)) (
    sRet true (cTup (cCons (cBi fMin2 (cCons (cVar 0) (cCons (cVar 1) (cNil)))) (cCons (cBi fMax2 (cCons (cVar 0) (cCons (cVar 1) (cNil)))) (cNil)))))
/-- partners(collection, member) -/
def t_partners (ft : Nat → List Str) (f_pair_of : Fn) : SmS :=
  sRet true (cLc false [2] (.one 2) (cRange1 (cCons (cFld ft "n" (cVar 0)) (cNil))) (cAnd (cOp2 oNe (cVar 2) (cVar 1)) (cOp2 (oIn false) (cCall 2 (f_pair_of) (cCons (cVar 1) (cCons (cVar 2) (cNil)))) (cFld ft "groups" (cVar 0)))) (cVar 2))
/-- found_sides(collection) -/
def t_found_sides (ft : Nat → List Str) (f_partners : Fn) : SmS :=
  sSeq (sSet 1 (cDNewK)) (
    sSeq (sFor (.one 2) (cRange1 (cCons (cFld ft "n" (cVar 0)) (cNil))) (sIf (cDInK true (cVar 2) (cVar 1)) (sSeq (sDPutK (cCst (.int 0)) (cVar 1) (cVar 2)) (
    sSeq (sSet 3 (cLst true (cCons (cVar 2) (cNil)))) (
    whileL (cOp2 oGt (cBi fLen (cCons (cVar 3) (cNil))) (cCst (.int 0))) (sSeq (sSet 4 (cLm lPop (cVar 3) cNil)) (
    sFor (.one 5) (cIter (cCall 2 (f_partners) (cCons (cVar 0) (cCons (cVar 4) (cNil))))) (sIf (cDInK true (cVar 5) (cVar 1)) (sSeq (sDPutK (cOp2 oSub (cCst (.int 1)) (cDGetK (cVar 1) (cVar 4))) (cVar 1) (cVar 5)) (
    sDrop (cLm lAppend (cVar 3) (cCons (cVar 5) (cNil))))) (sIf (cOp2 oEq (cDGetK (cVar 1) (cVar 5)) (cDGetK (cVar 1) (cVar 4))) (sRet true (cCst .non)) (sNil))))) 100000))) (sNil))) (
    sRet true (cBi fTuple (cCons (cLc false [4] (.one 4) (cRange1 (cCons (cFld ft "n" (cVar 0)) (cNil))) cTrue (cDGetK (cVar 1) (cVar 4))) (cNil)))))
/-- sides(collection) -/
def t_sides (c_Undefined : Nat) (f_require_pairs : Fn) (f_found_sides : Fn) : SmS :=
  sSeq (sDrop (cCall 1 (f_require_pairs) (cCons (cVar 0) (cNil)))) (
    sSeq (sSet 1 (cCall 1 (f_found_sides) (cCons (cVar 0) (cNil)))) (
    sSeq (sIf (cOp2 (oIs false) (cVar 1) (cCst .non)) (sRaise c_Undefined ["what"] (cCons (cCst (.str "sides")) (cNil))) (sNil)) (
    sRet true (cVar 1))))
/-- odd_ring(collection) -/
def t_odd_ring (ft : Nat → List Str) (c_Undefined : Nat) (f_require_pairs : Fn) (f_odd_ring_holds : Fn) (f_partners : Fn) : SmS :=
  sSeq (sDrop (cCall 1 (f_require_pairs) (cCons (cVar 0) (cNil)))) (
    sSeq (sSet 1 (cLc false [2] (.one 2) (cRange1 (cCons (cFld ft "n" (cVar 0)) (cNil))) cTrue (cTup (cCons (cVar 2) (cNil))))) (
    sSeq (whileL (cOp2 oGt (cBi fLen (cCons (cVar 1) (cNil))) (cCst (.int 0))) (sSeq (sFor (.one 3) (cIter (cVar 1)) (sIf (cCall 2 (f_odd_ring_holds) (cCons (cVar 0) (cCons (cVar 3) (cNil)))) (sRet true (cVar 3)) (sNil))) (
    sSet 1 (cLc2 false [3, 4] (.one 3) (cIter (cVar 1)) cTrue [4] (.one 4) (cIter (cCall 2 (f_partners) (cCons (cVar 0) (cCons (cOp2 oIx (cVar 3) (cNeg (cCst (.int 1)))) (cNil))))) (cOp2 (oIn true) (cVar 4) (cVar 3)) (cOp2 oAdd (cVar 3) (cTup (cCons (cVar 4) (cNil))))))) 100000) (
    sRaise c_Undefined ["what"] (cCons (cCst (.str "odd")) (cNil)))))
/-- odd_ring_holds(collection, value) -/
def t_odd_ring_holds (ics : List Nat) (ft : Nat → List Str) (f_is_pairs : Fn) (f_is_within : Fn) (f_pair_of : Fn) : SmS :=
  sSeq (sIf (cOr (cNot (cCall 1 (f_is_pairs) (cCons (cVar 0) (cNil)))) (cOr (cNot (cIs (isT "tuple" ics) (cVar 1))) (cOr (cOp2 (orO (oI0 fun i j => .bl (decide (i < j))) oLt) (cBi fLen (cCons (cVar 1) (cNil))) (cCst (.int 3))) (cOp2 oEq (cOp2 oMul (cOp2 oDiv (cBi fLen (cCons (cVar 1) (cNil))) (cCst (.int 2))) (cCst (.int 2))) (cBi fLen (cCons (cVar 1) (cNil))))))) (sRet true (cCst (.bl false))) (sNil)) (
    sSeq (sIf (cOr (cNot (cBi fAll (cCons (cLc false [2] (.one 2) (cIter (cVar 1)) cTrue (cCall 3 (f_is_within) (cCons (cVar 2) (cCons (cCst (.int 0)) (cCons (cOp2 oSub (cFld ft "n" (cVar 0)) (cCst (.int 1))) (cNil)))))) (cNil)))) (cOp2 (orO (oI0 fun i j => .bl (decide (i < j))) oLt) (cLenSet (cVar 1)) (cBi fLen (cCons (cVar 1) (cNil))))) (sRet true (cCst (.bl false))) (sNil)) (
    sRet true (cBi fAll (cCons (cLc false [3] (.one 3) (cRange1 (cCons (cBi fLen (cCons (cVar 1) (cNil))) (cNil))) cTrue (cOp2 (oIn false) (cCall 2 (f_pair_of) (cCons (cOp2 oIx (cVar 1) (cOp2 oSub (cVar 3) (cCst (.int 1)))) (cCons (cOp2 oIx (cVar 1) (cVar 3)) (cNil)))) (cFld ft "groups" (cVar 0)))) (cNil)))))
/-- _law_two_sides(n, groups) -/
def t__law_two_sides  : SmS :=
  sSeq (sSet 2 (cRep (cLst false (cCons (cNeg (cCst (.int 1))) (cNil))) (cVar 0))) (
    sSeq (sFor (.one 3) (cRange1 (cCons (cVar 0) (cNil))) (sIf (cOp2 (orO (oI0 fun i j => .bl (decide (i < j))) oLt) (cOp2 oIx (cVar 2) (cVar 3)) (cCst (.int 0))) (sSeq (sSetIx (cCst (.int 0)) (cVar 2) (cVar 3)) (
    sFor (.one 4) (cRange1 (cCons (cVar 0) (cNil))) (sFor (.one 5) (cIter (cVar 1)) (sIf (cOp2 oEq (cBi fLen (cCons (cVar 5) (cNil))) (cCst (.int 2))) (sSeq (sAsg (.many [.one 6, .one 7]) (cVar 5)) (
    sIf (cAnd (cOp2 oGe (cOp2 oIx (cVar 2) (cVar 6)) (cCst (.int 0))) (cOp2 (orO (oI0 fun i j => .bl (decide (i < j))) oLt) (cOp2 oIx (cVar 2) (cVar 7)) (cCst (.int 0)))) (sSetIx (cOp2 oSub (cCst (.int 1)) (cOp2 oIx (cVar 2) (cVar 6))) (cVar 2) (cVar 7)) (sIf (cAnd (cOp2 oGe (cOp2 oIx (cVar 2) (cVar 7)) (cCst (.int 0))) (cOp2 (orO (oI0 fun i j => .bl (decide (i < j))) oLt) (cOp2 oIx (cVar 2) (cVar 6)) (cCst (.int 0)))) (sSetIx (cOp2 oSub (cCst (.int 1)) (cOp2 oIx (cVar 2) (cVar 7))) (cVar 2) (cVar 6)) (sNil)))) (sNil))))) (sNil))) (
    sSeq (sIf (cOp2 oNe (cLc false [5] (.one 5) (cIter (cVar 1)) (cAnd (cOp2 oEq (cBi fLen (cCons (cVar 5) (cNil))) (cCst (.int 2))) (cOp2 oEq (cOp2 oIx (cVar 2) (cOp2 oIx (cVar 5) (cCst (.int 0)))) (cOp2 oIx (cVar 2) (cOp2 oIx (cVar 5) (cCst (.int 1)))))) (cVar 5)) (cLst false (cNil))) (sRet true (cCst .non)) (sNil)) (
    sRet true (cBi fTuple (cCons (cVar 2) (cNil))))))
/-- _law_is_pairs(groups) -/
def t__law_is_pairs  : SmS :=
  sRet true (cOp2 oEq (cLc false [1] (.one 1) (cIter (cVar 0)) (cOp2 oGt (cBi fLen (cCons (cVar 1) (cNil))) (cCst (.int 2))) (cVar 1)) (cLst false (cNil)))
/-- _law_is_odd_ring(n, groups, value) -/
def t__law_is_odd_ring (f__law_is_pairs : Fn) (f__law_is_numbers : Fn) : SmS :=
  sSeq (sIf (cOr (cNot (cCall 1 (f__law_is_pairs) (cCons (cVar 1) (cNil)))) (cOr (cNot (cCall 2 (f__law_is_numbers) (cCons (cVar 2) (cCons (cVar 0) (cNil))))) (cOr (cOp2 (orO (oI0 fun i j => .bl (decide (i < j))) oLt) (cBi fLen (cCons (cVar 2) (cNil))) (cCst (.int 3))) (cOp2 oEq (cOp2 oMod (cBi fInt (cCons (cBi fLen (cCons (cVar 2) (cNil))) (cNil))) (cCst (.int 2))) (cCst (.int 0)))))) (sRet true (cCst (.bl false))) (sNil)) (
    sSeq (sFor (.one 3) (cRange1 (cCons (cBi fLen (cCons (cVar 2) (cNil))) (cNil))) (sIf (cOr (cOp2 (oIn false) (cOp2 oIx (cVar 2) (cVar 3)) (cSl false (cVar 2) oNone (oSome (cVar 3)))) (cOp2 (oIn true) (cBi fTuple (cCons (cBiL false fSorted (cCons (cLst false (cCons (cOp2 oIx (cVar 2) (cVar 3)) (cCons (cOp2 oIx (cVar 2) (cOp2 oMod (cBi fInt (cCons (cOp2 oAdd (cVar 3) (cCst (.int 1))) (cNil))) (cBi fLen (cCons (cVar 2) (cNil))))) (cNil)))) (cNil))) (cNil))) (cVar 1))) (sRet true (cCst (.bl false))) (sNil))) (
    sRet true (cCst (.bl true))))
end Tx
set_option maxHeartbeats 1000000
namespace EV
open PySem L2 Tx
def pairsB (gs : List (List Nat)) : Bool := gs.all fun g => decide ((g.length : Int) ≤ 2)
def IpF (Φ : Fn) (C : Nat) : Prop := ∀ (n : Nat) gs, Good n gs → Pu Φ [.d (colD C n gs)] (.bl (pairsB gs))
def PoF (Φ : Fn) : Prop := ∀ a b : Nat, Pu Φ [.d (nD a), .d (nD b)] (tN (pairO a b))
def parL (n : Nat) (gs : List (List Nat)) (m : Nat) : List Nat := (List.range n).filter fun o => decide ((o : Int) ≠ m) && decide (pairO m o ∈ gs)
def PaF (Φ : Fn) (C : Nat) : Prop := ∀ (n : Nat) gs m, Good n gs → Pu Φ [.d (colD C n gs), .d (nD m)] (.lst ((parL n gs m).map nD))
section
variable {ft : Nat → List Str} {C n : Nat} {gs : List (List Nat)}
theorem ip_ok (hf : FtOk ft C) : IpF (body0 2 (t_is_pairs ft)) C := fun n gs G => .of0 fun S hS => by
  have g24 := G.len
  unfold t_is_pairs
  fail "AFHIUVWXbqrstx5!#.:;"
  refine ok_lcM tN gs (fun g => .bl (decide ((g.length : Int) ≤ 2))) ?_
  (repeat' first | with_reducible refine ok_fld ?_ | refine ld_g hf ?_ | refine vq (show items (gD gs) = some (gs.map tN) from rfl) ?_ | fail "AFHIUVWXbqrstx5!#.:;Á")
  refine ⟨rfl, by omega, fun g hg => ?_, ?_⟩
  · (repeat' first | refine vq (f_lenN g) ?_ | fail "AFHIUVWXbqrstx5!#.:;Á")
    exact ⟨rfl, rfl⟩
  (repeat' first | refine vq (f_allM _ _) ?_ | fail "AFHIUVWXbqrstx5!#.:;Á")
  exact ⟨rfl, rfl⟩
theorem po_ok : PoF (body0 2 t_pair_of) := fun a b => .of0 fun S hS => by
  unfold t_pair_of
  refine ok_seq ?_
  fail "AEFHIMUVjlmnqrstuvx8+,?À"
  refine ⟨fun h => ?_, fun h => ?_⟩
  · have h := of_decide_eq_true h
    fail "ABEFHIMUVjlmnqrstuvx8+,?À"
    refine ⟨?_, rfl⟩
    unfold pairO
    rw [if_pos (by omega)]
    rfl
  · have h := of_decide_eq_false h
    have hne : ¬ a = b := fun z => h (by rw [z])
    fail "ABEFHIMUVjlmnqrstuvx8+,?À"
    refine ⟨?_, rfl⟩
    unfold pairO
    rw [if_neg hne]
    have e1 : ((min a b : Nat) : Int) = if (b : Int) < a then (b : Int) else a := by split <;> omega
    have e2 : ((max a b : Nat) : Int) = if (b : Int) > a then (b : Int) else a := by split <;> omega
    show _ = W.d (D.tup [D.int ((min a b : Nat) : Int), D.int ((max a b : Nat) : Int)])
    rw [e1, e2]
theorem pa_ok {fP : Fn} (hf : FtOk ft C) (hP : PoF fP) : PaF (body0 3 (t_partners ft fP)) C := fun n gs m G => .of0 fun S hS => by
  have n6 := G.n6
  unfold t_partners
  fail "AFHQUVZdlqtx9;?[À"
  refine ok_lcX nD (List.range n) (fun o => decide ((o : Int) ≠ m) && decide (pairO m o ∈ gs)) nD ?_
  (repeat' first | with_reducible refine ok_fld ?_ | refine ld_n hf ?_ | fail "AFHQUVZdlqtx9;?[ÀÁ")
  refine ⟨by rw [Int.toNat_natCast, upto0], by simp; omega, fun o ho => ?_, ?_⟩
  · fail "AFHQUVZdlqtx9;?[À"
    refine ⟨?_, fun _ => ?_⟩
    · fail "AFHQUVZdlqtx9;?[À"
      refine ⟨fun h => ?_, fun h => ?_⟩
      · fail "AFHQUVZdlqtx9;?[À"
        refine (hP m o).ok hS ?_
        (repeat' first | with_reducible refine ok_fld ?_ | refine ld_g hf ?_ | fail "AFHQUVZdlqtx9;?[ÀÁ")
        refine vq (o_inT (pairO m o) gs) ?_
        rw [h]
        exact ⟨rfl, rfl⟩
      · rw [h]
        exact ⟨rfl, rfl⟩
    · fail "AFHQUVZdlqtx9;?[À"
      exact ⟨rfl, rfl⟩
  fail "AFHQUVZdlqtx9;?[À"
  exact ⟨rfl, rfl⟩
end
end EV
set_option maxHeartbeats 1000000
namespace EV
open PySem L2
def orE (gs : List (List Nat)) (v : List Nat) : Bool := (List.range v.length).all fun k => decide (pairO (v.getD k 0) (v.getD ((k + 1) % v.length) 0) ∈ gs)
def orB (gs : List (List Nat)) (v : List Nat) : Bool := (List.range v.length).all fun k => decide (pairO (v.getD ((k + v.length - 1) % v.length) 0) (v.getD k 0) ∈ gs)
def oddN (gs : List (List Nat)) (v : List Nat) : Bool := decide (3 ≤ v.length) && (decide (v.length % 2 = 1) && (decide v.Nodup && orE gs v))
def lvF (n : Nat) (gs : List (List Nat)) : Nat → List (List Nat)
  | 0 => (List.range n).map fun m => [m]
  | t + 1 => (lvF n gs t).flatMap fun p => ((parL n gs (p.getD (p.length - 1) 0)).filter fun o => !decide (o ∈ p)).map fun o => p ++ [o]
def oddF (n : Nat) (gs : List (List Nat)) : Option (List Nat) := (List.range 7).findSome? fun t => (lvF n gs t).find? (oddN gs)
theorem mod_next {k L : Nat} (h : k < L) : ((k + 1) % L + L - 1) % L = k := by
  by_cases c : k + 1 = L
  · rw [c, Nat.mod_self, Nat.zero_add, Nat.mod_eq_of_lt (by omega)]
    omega
  · rw [Nat.mod_eq_of_lt (show k + 1 < L by omega), show k + 1 + L - 1 = k + L by omega, Nat.add_mod_right, Nat.mod_eq_of_lt h]
theorem mod_prev {k L : Nat} (h : k < L) : ((k + L - 1) % L + 1) % L = k := by
  by_cases c : k = 0
  · subst c
    rw [Nat.zero_add, Nat.mod_eq_of_lt (show L - 1 < L by omega), show L - 1 + 1 = L by omega, Nat.mod_self]
  · rw [show k + L - 1 = k - 1 + L by omega, Nat.add_mod_right, Nat.mod_eq_of_lt (show k - 1 < L by omega), show k - 1 + 1 = k by omega, Nat.mod_eq_of_lt h]
section
variable {n : Nat} {gs : List (List Nat)} {v : List Nat}
theorem rgB_eq : orB gs v = orE gs v := by
  unfold orB orE
  refine Bool.eq_iff_iff.mpr ?_
  simp only [List.all_eq_true, List.mem_range, decide_eq_true_eq]
  refine ⟨fun h k hk => ?_, fun h k hk => ?_⟩
  · have := h ((k + 1) % v.length) (Nat.mod_lt _ (by omega))
    rw [mod_next hk] at this
    exact this
  · have := h ((k + v.length - 1) % v.length) (Nat.mod_lt _ (by omega))
    rw [mod_prev hk] at this
    exact this
theorem oddN_iff : oddN gs v = true ↔ 3 ≤ v.length ∧ v.length % 2 = 1 ∧ v.Nodup ∧ ∀ k, k < v.length → pairO (v.getD k 0) (v.getD ((k + 1) % v.length) 0) ∈ gs := by
  unfold oddN orE
  simp only [Bool.and_eq_true, decide_eq_true_eq, List.all_eq_true, List.mem_range]
theorem nd_ne (nd : v.Nodup) {i j : Nat} (hi : i < v.length) (hj : j < v.length) (h : i ≠ j) : v.getD i 0 ≠ v.getD j 0 := by
  rw [getD_lt hi, getD_lt hj]
  have p := List.pairwise_iff_getElem.mp (List.nodup_iff_pairwise_ne.mp nd)
  rcases Nat.lt_or_gt_of_ne h with z | z
  · exact p i j hi hj z
  · exact fun e => p j i hj hi z e.symm
theorem odd_adj (h : oddN gs v = true) {k : Nat} (hk : k < v.length) : Adj gs (v.getD k 0) (v.getD ((k + 1) % v.length) 0) := by
  obtain ⟨h1, h2, h3, h4⟩ := oddN_iff.mp h
  refine ⟨nd_ne h3 hk (Nat.mod_lt _ (by omega)) ?_, h4 k hk⟩
  by_cases c : k + 1 = v.length
  · rw [c, Nat.mod_self]
    omega
  · rw [Nat.mod_eq_of_lt (by omega)]
    omega
theorem odd_lt (G : Good n gs) (h : oddN gs v = true) : ∀ m ∈ v, m < n := fun m hm => by
  obtain ⟨i, hi, e⟩ := List.mem_iff_getElem.mp hm
  rw [← e, ← getD_lt hi]
  exact (Adj.lt G (odd_adj h hi)).1
theorem odd_way (h : oddN gs v = true) : OddW gs := by
  obtain ⟨h1, h2, h3, h4⟩ := oddN_iff.mp h
  refine ⟨v.getD 0 0, v.length, h2, fun t => v.getD (t % v.length) 0, by show v.getD (0 % v.length) 0 = _; rw [Nat.zero_mod], by show v.getD (v.length % v.length) 0 = _; rw [Nat.mod_self], fun t ht => ?_⟩
  show Adj gs (v.getD (t % v.length) 0) (v.getD ((t + 1) % v.length) 0)
  rw [Nat.mod_eq_of_lt ht]
  exact odd_adj h ht
theorem way_odd (h : OddW gs) : ∃ v, oddN gs v = true := by
  obtain ⟨a, k, ho, w⟩ := h
  obtain ⟨k', f, ho, hc, hd⟩ := w.odd ho
  have k3 : 3 ≤ k' := by
    refine Nat.le_of_not_lt fun z => ?_
    have : k' = 1 := by omega
    subst this
    exact (hc.adj 0).1 (hc.per 0).symm
  have gd : ∀ t, t < k' → ((List.range k').map f).getD t 0 = f t := fun t ht => by
    rw [List.getD_eq_getElem?_getD, List.getElem?_map, List.getElem?_range ht]
    rfl
  have len : ((List.range k').map f).length = k' := by simp
  refine ⟨(List.range k').map f, oddN_iff.mpr ⟨by rw [len]; exact k3, by rw [len]; exact ho, ?_, fun t ht => ?_⟩⟩
  · rw [List.nodup_iff_pairwise_ne, List.pairwise_iff_getElem]
    intro i j hi hj hij
    rw [List.getElem_map, List.getElem_map, List.getElem_range, List.getElem_range]
    rw [len] at hj
    exact hd i j hij hj
  · rw [len] at ht ⊢
    rw [gd t ht, gd _ (Nat.mod_lt _ (by omega))]
    by_cases c : t + 1 = k'
    · rw [c, Nat.mod_self]
      have := (hc.adj t).2
      rw [c] at this
      have p := hc.per 0
      rw [Nat.zero_add] at p
      rw [p] at this
      exact this
    · rw [Nat.mod_eq_of_lt (by omega)]
      exact (hc.adj t).2
theorem mem_parL {m o : Nat} : o ∈ parL n gs m ↔ o < n ∧ Adj gs m o := by
  unfold parL Adj
  rw [List.mem_filter, List.mem_range, Bool.and_eq_true, decide_eq_true_eq, decide_eq_true_eq]
  refine and_congr Iff.rfl (and_congr ⟨fun h e => h (by rw [e]), fun h e => h (by omega)⟩ Iff.rfl)
theorem parL_le (m : Nat) : (parL n gs m).length ≤ n := by
  have := List.length_filter_le (fun o : Nat => decide ((o : Int) ≠ m) && decide (pairO m o ∈ gs)) (List.range n)
  rw [List.length_range] at this
  exact this
/-- a simple way as a row -/
structure PathN (n : Nat) (p : List Nat) (t : Nat) : Prop where
  len : p.length = t + 1
  nd : p.Nodup
  lt : ∀ m ∈ p, m < n
theorem lvF_ok : ∀ {t : Nat} {p : List Nat}, p ∈ lvF n gs t → PathN n p t
  | 0, p, h => by
    obtain ⟨m, hm, rfl⟩ := List.mem_map.mp h
    exact ⟨rfl, by simp, fun x hx => by rw [List.mem_singleton.mp hx]; exact List.mem_range.mp hm⟩
  | t + 1, p, h => by
    obtain ⟨q, hq, h⟩ := List.mem_flatMap.mp h
    obtain ⟨o, ho, rfl⟩ := List.mem_map.mp h
    have := lvF_ok hq
    obtain ⟨h1, h2⟩ := List.mem_filter.mp ho
    have h2 : o ∉ q := by simpa using h2
    refine ⟨by rw [List.length_append, this.len]; rfl, List.nodup_append.mpr ⟨this.nd, by simp, fun a ha b hb e => h2 (by rw [List.mem_singleton.mp hb] at e; rw [← e]; exact ha)⟩, fun m hm => (List.mem_append.mp hm).elim (this.lt m) fun z => by rw [List.mem_singleton.mp z]; exact (mem_parL.mp h1).1⟩
theorem PathN.le {p : List Nat} {t : Nat} (h : PathN n p t) : t + 1 ≤ n := by
  rw [← h.len]
  exact nodup_lt_len h.nd h.lt
theorem lvF_take (h : oddN gs v = true) (hlt : ∀ m ∈ v, m < n) : ∀ {t : Nat}, t < v.length → v.take (t + 1) ∈ lvF n gs t
  | 0, ht => by
    refine List.mem_map.mpr ⟨v.getD 0 0, List.mem_range.mpr (hlt _ (getD_memN ht)), ?_⟩
    rw [List.take_add_one, List.getD_eq_getElem?_getD, List.getElem?_eq_getElem ht]
    rfl
  | t + 1, ht => by
    obtain ⟨h1, h2, h3, h4⟩ := oddN_iff.mp h
    have ih := lvF_take h hlt (t := t) (by omega)
    refine List.mem_flatMap.mpr ⟨_, ih, List.mem_map.mpr ⟨v.getD (t + 1) 0, List.mem_filter.mpr ⟨mem_parL.mpr ⟨hlt _ (getD_memN ht), ?_⟩, ?_⟩, ?_⟩⟩
    · have el : (v.take (t + 1)).getD ((v.take (t + 1)).length - 1) 0 = v.getD t 0 := by
        rw [List.length_take, show min (t + 1) v.length - 1 = t by omega, List.getD_eq_getElem?_getD, List.getD_eq_getElem?_getD, List.getElem?_take, if_pos (by omega)]
      rw [el]
      have := odd_adj h (k := t) (by omega)
      rw [Nat.mod_eq_of_lt ht] at this
      exact this
    · rw [decide_eq_false (take_fresh.mpr h3 (t + 1) ht)]
      rfl
    · conv => rhs; rw [List.take_add_one]
      rw [List.getD_eq_getElem?_getD, List.getElem?_eq_getElem ht]
      rfl
theorem lvF_len : ∀ t, (lvF n gs t).length ≤ n ^ (t + 1)
  | 0 => by
    show ((List.range n).map _).length ≤ _
    rw [List.length_map, List.length_range, Nat.zero_add, Nat.pow_one]
    exact Nat.le_refl n
  | t + 1 => by
    have ih := lvF_len t
    show ((lvF n gs t).flatMap _).length ≤ _
    have key : ∀ l : List (List Nat), (l.flatMap fun p => ((parL n gs (p.getD (p.length - 1) 0)).filter fun o => !decide (o ∈ p)).map fun o => p ++ [o]).length ≤ l.length * n := fun l => by
      induction l with
      | nil => simp
      | cons p l ih =>
        rw [List.flatMap_cons, List.length_append, List.length_cons, Nat.succ_mul]
        have h1 := List.length_filter_le (fun o => !decide (o ∈ p)) (parL n gs (p.getD (p.length - 1) 0))
        have h2 := parL_le (n := n) (gs := gs) (p.getD (p.length - 1) 0)
        rw [List.length_map]
        omega
    refine Nat.le_trans (key _) ?_
    rw [Nat.pow_succ n (t + 1)]
    exact Nat.mul_le_mul_right n ih
theorem lvF_up {t s : Nat} (h : lvF n gs t = []) : lvF n gs (t + s) = [] := by
  induction s with
  | zero => exact h
  | succ s ih =>
    show (lvF n gs (t + s)).flatMap _ = []
    rw [ih]
    rfl
theorem oddF_hit {t : Nat} {p : List Nat} (ht : t < 7) (h : ((List.range t).findSome? fun t => (lvF n gs t).find? (oddN gs)) = none) (h2 : (lvF n gs t).find? (oddN gs) = some p) : oddF n gs = some p := by
  have e : List.range 7 = List.range t ++ t :: ((List.range 7).drop (t + 1)) := by
    have : t = 0 ∨ t = 1 ∨ t = 2 ∨ t = 3 ∨ t = 4 ∨ t = 5 ∨ t = 6 := by omega
    rcases this with z | z | z | z | z | z | z <;> subst z <;> rfl
  exact fs_hit e h h2
theorem oddF_nil {t : Nat} (ht : t < 7) (h : ((List.range t).findSome? fun t => (lvF n gs t).find? (oddN gs)) = none) (h2 : lvF n gs t = []) : oddF n gs = none := by
  refine List.findSome?_eq_none_iff.mpr fun s hs => ?_
  by_cases c : s < t
  · exact List.findSome?_eq_none_iff.mp h s (List.mem_range.mpr c)
  · have := lvF_up (s := s - t) h2
    rw [show t + (s - t) = s by omega] at this
    rw [this]
    rfl
theorem oddF_some {p : List Nat} (h : oddF n gs = some p) : oddN gs p = true := by
  obtain ⟨t, _, e⟩ := List.exists_of_findSome?_eq_some h
  exact List.find?_some e
theorem oddF_none (G : Good n gs) (h : oddF n gs = none) : ¬ OddW gs := fun z => by
  obtain ⟨v, hv⟩ := way_odd z
  have h3 := oddN_iff.mp hv
  have lt := odd_lt G hv
  have hl := nodup_lt_len h3.2.2.1 lt
  have n6 := G.n6
  have m := lvF_take hv lt (t := v.length - 1) (by omega)
  rw [show v.length - 1 + 1 = v.length by omega, List.take_length] at m
  have := List.findSome?_eq_none_iff.mp h (v.length - 1) (List.mem_range.mpr (by omega))
  have := List.find?_eq_none.mp this v m
  exact this hv
theorem oddF_sides (G : Good n gs) : oddF n gs = none ↔ ∃ L, sidesO n gs = some L := by
  have s := sidesO_ok G
  constructor
  · intro h
    cases e : sidesO n gs with
    | none => rw [e] at s; exact absurd s (oddF_none G h)
    | some L => exact ⟨L, rfl⟩
  · rintro ⟨L, e⟩
    rw [e] at s
    cases h : oddF n gs with
    | none => rfl
    | some p => exact (OddW.not (f := fun a => L.getD a 0) s.2.2 (sides_lt2 s) (odd_way (oddF_some h))).elim
end
end EV
set_option maxHeartbeats 1000000
namespace EV
open PySem L2 Tx
def plC : Cell → Bool
  | .obj _ _ => false
  | _ => true
structure FsS (S0 S : Store) (c : List (Nat × Nat)) : Prop where
  ex : ∃ T, S = S0 ++ T ∧ ∀ x ∈ T, plC x = true
  at_ : S[S0.length]? = some (.dK true (kvN c))
section
variable {S0 S : Store} {c : List (Nat × Nat)}
theorem plC_all {T : Store} (h : ∀ x ∈ T, plC x = true) : AllL T := allL_of fun x hx => by
  have := h x hx
  cases x with
  | obj _ _ => cases this
  | _ => rfl
theorem FsS.all (h : FsS S0 S c) (h0 : AllL S0) : AllL S := by
  obtain ⟨T, rfl, hT⟩ := h.ex
  exact h0.app (plC_all hT)
theorem mem_set {l : Store} {i : Nat} {a x : Cell} (h : x ∈ l.set i a) : x ∈ l ∨ x = a := by
  rcases List.mem_or_eq_of_mem_set h with z | z
  · exact .inl z
  · exact .inr z
theorem ex_set {i : Nat} {a : Cell} (h : ∃ T, S = S0 ++ T ∧ ∀ x ∈ T, plC x = true) (hi : S0.length ≤ i) (ha : plC a = true) : ∃ T, S.set i a = S0 ++ T ∧ ∀ x ∈ T, plC x = true := by
  obtain ⟨T, rfl, hT⟩ := h
  refine ⟨T.set (i - S0.length) a, List.set_append_right _ _ hi, fun x hx => ?_⟩
  rcases mem_set hx with z | z
  · exact hT x z
  · rw [z]; exact ha
theorem FsS.put (h : FsS S0 S c) (c' : List (Nat × Nat)) : FsS S0 (S.set S0.length (.dK true (kvN c'))) c' := ⟨ex_set h.ex (Nat.le_refl _) rfl, get_set h.at_⟩
theorem FsS.setl (h : FsS S0 S c) {w : Nat} (hw : S0.length < w) {m : Bool} {xs : List D} : FsS S0 (S.set w (.lst m xs)) c := ⟨ex_set h.ex (by omega) rfl, by
  rw [List.getElem?_set_ne (by omega)]
  exact h.at_⟩
theorem FsS.lt (h : FsS S0 S c) : S0.length < S.length := (List.getElem?_eq_some_iff.mp h.at_).1
theorem FsS.push (h : FsS S0 S c) {m : Bool} {xs : List D} : FsS S0 (S ++ [.lst m xs]) c := ⟨by
  obtain ⟨T, rfl, hT⟩ := h.ex
  exact ⟨T ++ [.lst m xs], List.append_assoc .., fun x hx => (List.mem_append.mp hx).elim (hT x) fun z => by rw [List.mem_singleton.mp z]; rfl⟩, by
  rw [List.getElem?_append_left h.lt]
  exact h.at_⟩
theorem FsS.new {S0 : Store} : FsS S0 (S0 ++ [.dK true []]) [] := ⟨⟨[.dK true []], rfl, fun x hx => by rw [List.mem_singleton.mp hx]; rfl⟩, get_top⟩
end
/-- keys: members, each once -/
structure KeyN (n : Nat) (c : List (Nat × Nat)) : Prop where
  nd : (c.map (·.1)).Nodup
  lt : ∀ m ∈ c.map (·.1), m < n
theorem pre_range {n s : Nat} {pre post : List Nat} (e : List.range n = pre ++ s :: post) : pre = List.range s := by
  have hl : pre.length < n := by
    have := congrArg List.length e
    rw [List.length_range, List.length_append, List.length_cons] at this
    omega
  have h1 : (List.range n)[pre.length]? = some s := by
    rw [e, List.getElem?_append_right (Nat.le_refl _), Nat.sub_self]
    rfl
  rw [List.getElem?_range hl] at h1
  have h1 : pre.length = s := Option.some.inj h1
  have h2 : pre = (List.range n).take pre.length := by rw [e, List.take_left']; rfl
  rw [h2, List.take_range, h1, Nat.min_eq_left (by omega)]
theorem getN_mem {c : List (Nat × Nat)} {m : Nat} : getN c m = none ↔ m ∉ c.map (·.1) := by
  unfold getN
  rw [Option.map_eq_none_iff, List.find?_eq_none]
  constructor
  · intro h z
    obtain ⟨q, hq, e⟩ := List.mem_map.mp z
    exact h q hq (decide_eq_true e)
  · intro h q hq e
    exact h (List.mem_map.mpr ⟨q, hq, of_decide_eq_true e⟩)
theorem KeyN.le {n : Nat} {c : List (Nat × Nat)} (h : KeyN n c) : c.length ≤ n := by
  have := nodup_lt_len h.nd h.lt
  rw [List.length_map] at this
  exact this
theorem KeyN.add {n : Nat} {c : List (Nat × Nat)} (h : KeyN n c) {m x : Nat} (hm : m < n) (h0 : getN c m = none) : KeyN n (c ++ [(m, x)]) := by
  have := getN_mem.mp h0
  refine ⟨?_, fun k hk => ?_⟩
  · rw [List.map_append]
    exact List.nodup_append.mpr ⟨h.nd, by simp, fun a ha b hb e => this (by
      have : b = m := by simpa using hb
      rw [this] at e
      rw [← e]
      exact ha)⟩
  · rw [List.map_append] at hk
    rcases List.mem_append.mp hk with z | z
    · exact h.lt k z
    · have : k = m := by simpa using z
      rw [this]; exact hm
theorem getN_upd {c : List (Nat × Nat)} {m x : Nat} (h : getN c m = none) : getN (c ++ [(m, x)]) = updC (getN c) m x := by
  funext k
  rw [getN_app h]
  rfl
/-- what lies done: all but the waiting ones -/
structure FsI (n : Nat) (gs : List (List Nat)) (c : List (Nat × Nat)) (W : List Nat) : Prop where
  key : KeyN n c
  col : ColP n gs (getN c)
  wt : ∀ m ∈ W, getN c m ≠ none
  sh : ∀ a b x, getN c a = some x → a ∉ W → Adj gs a b → ∃ y, getN c b = some y ∧ y ≠ x
/-- within a member's turn -/
structure FsM (n : Nat) (gs : List (List Nat)) (c : List (Nat × Nat)) (W : List Nat) (m x : Nat) (pre : List Nat) : Prop where
  key : KeyN n c
  col : ColP n gs (getN c)
  wt : ∀ m ∈ W, getN c m ≠ none
  at_ : getN c m = some x
  sh : ∀ a b x, getN c a = some x → a ∉ W → a ≠ m → Adj gs a b → ∃ y, getN c b = some y ∧ y ≠ x
  pr : ∀ b ∈ pre, ∃ y, getN c b = some y ∧ y ≠ x
section
variable {n : Nat} {gs : List (List Nat)} {c : List (Nat × Nat)} {W : List Nat}
theorem FsI.shut (h : FsI n gs c []) : Shut gs (getN c) := fun a b ha hab z => by
  obtain ⟨x, e⟩ := Option.ne_none_iff_exists'.mp ha
  obtain ⟨y, e2, _⟩ := h.sh a b x e (fun z => nomatch z) hab
  rw [z] at e2
  cases e2
theorem FsI.nil : FsI n gs [] [] := ⟨⟨.nil, fun _ z => (nomatch z)⟩, colP_nil, fun _ z => (nomatch z), fun _ _ _ h => (nomatch h)⟩
theorem FsI.start (h : FsI n gs c []) {s : Nat} (hn : s < n) (ho : ∀ o, o < s → getN c o ≠ none) (h0 : getN c s = none) : FsI n gs (c ++ [(s, 0)]) [s] := by
  refine ⟨h.key.add hn h0, by rw [getN_upd h0]; exact h.col.start h.shut hn ho h0, fun m hm => ?_, fun a b x ha hw hab => ?_⟩
  · rw [List.mem_singleton.mp hm, getN_upd h0, updC_self]
    exact fun z => nomatch z
  · have ne : a ≠ s := fun z => hw (by rw [z]; simp)
    rw [getN_upd h0] at ha ⊢
    rw [updC_ne ne] at ha
    obtain ⟨y, e, hy⟩ := h.sh a b x ha (fun z => nomatch z) hab
    exact ⟨y, by rw [updC_ne fun z => by rw [z, h0] at e; cases e]; exact e, hy⟩
theorem FsI.pop {m : Nat} (h : FsI n gs c (W ++ [m])) : ∃ x, FsM n gs c W m x [] := by
  obtain ⟨x, e⟩ := Option.ne_none_iff_exists'.mp (h.wt m (by simp))
  exact ⟨x, h.key, h.col, fun k hk => h.wt k (by simp [hk]), e, fun a b y ha hw ne hab => h.sh a b y ha (fun z => (List.mem_append.mp z).elim hw fun z => ne (List.mem_singleton.mp z)) hab, fun _ z => (nomatch z)⟩
theorem FsM.end (h : FsM n gs c W m x (parL n gs m)) (G : Good n gs) : FsI n gs c W := ⟨h.key, h.col, h.wt, fun a b y ha hw hab => by
  by_cases e : a = m
  · subst e
    have := h.at_
    rw [this] at ha
    cases ha
    exact h.pr b (mem_parL.mpr ⟨(Adj.lt G hab).2, hab⟩)
  · exact h.sh a b y ha hw e hab⟩
theorem FsM.add {m x o : Nat} {pre : List Nat} (h : FsM n gs c W m x pre) (hn : o < n) (hab : Adj gs m o) (h0 : getN c o = none) : FsM n gs (c ++ [(o, 1 - x)]) (W ++ [o]) m x (pre ++ [o]) := by
  have up : ∀ {b y}, getN c b = some y → updC (getN c) o (1 - x) b = some y := fun {b y} e => by
    rw [updC_ne fun z => by rw [z, h0] at e; cases e]
    exact e
  have hx := (h.col.rt m x h.at_).1
  refine ⟨h.key.add hn h0, by rw [getN_upd h0]; exact h.col.ext h.at_ hab h0 hn, fun k hk => ?_, by rw [getN_upd h0]; exact up h.at_, fun a b y ha hw ne hab => ?_, fun b hb => ?_⟩
  · rw [getN_upd h0]
    rcases List.mem_append.mp hk with z | z
    · obtain ⟨y, e⟩ := Option.ne_none_iff_exists'.mp (h.wt k z)
      rw [up e]
      exact fun z => nomatch z
    · rw [List.mem_singleton.mp z, updC_self]
      exact fun z => nomatch z
  · have n2 : a ≠ o := fun z => hw (by rw [z]; simp)
    rw [getN_upd h0] at ha ⊢
    rw [updC_ne n2] at ha
    obtain ⟨z, e, hz⟩ := h.sh a b y ha (fun z => hw (by simp [z])) ne hab
    exact ⟨z, up e, hz⟩
  · rw [getN_upd h0]
    rcases List.mem_append.mp hb with z | z
    · obtain ⟨y, e, hy⟩ := h.pr b z
      exact ⟨y, up e, hy⟩
    · rw [List.mem_singleton.mp z, updC_self]
      exact ⟨_, rfl, by omega⟩
theorem FsM.skip {m x o y : Nat} {pre : List Nat} (h : FsM n gs c W m x pre) (h0 : getN c o = some y) (hy : y ≠ x) : FsM n gs c W m x (pre ++ [o]) := ⟨h.key, h.col, h.wt, h.at_, h.sh, fun b hb => (List.mem_append.mp hb).elim (h.pr b) fun z => by rw [List.mem_singleton.mp z]; exact ⟨y, h0, hy⟩⟩
theorem FsI.done (h : FsI n gs c []) (G : Good n gs) (ha : ∀ m, m < n → getN c m ≠ none) : SidesR n gs (some ((List.range n).map fun m => (getN c m).getD 0)) := by
  have gd : ∀ m, m < n → ((List.range n).map fun m => (getN c m).getD 0).getD m 0 = (getN c m).getD 0 := fun m hm => by
    rw [List.getD_eq_getElem?_getD, List.getElem?_map, List.getElem?_range hm]
    rfl
  refine h.col.done (by simp) (fun m hm => ?_) (fun a b hab => Adj.lt G hab) fun a b x hab e1 e2 => ?_
  · rw [gd m hm]
    obtain ⟨x, e⟩ := Option.ne_none_iff_exists'.mp (ha m hm)
    rw [e]
    rfl
  · obtain ⟨y, e, hy⟩ := h.sh a b x e1 (fun z => nomatch z) hab
    rw [e2] at e
    cases e
    exact hy rfl
end
noncomputable def sideD (n : Nat) (gs : List (List Nat)) : D := match sidesO n gs with
  | none => .non
  | some L => tN L
theorem sideD_none {n : Nat} {gs : List (List Nat)} (G : Good n gs) (h : SidesR n gs none) : sideD n gs = .non := by
  unfold sideD
  rw [sidesO_eq G h]
theorem sideD_some {n : Nat} {gs : List (List Nat)} {L : List Nat} (G : Good n gs) (h : SidesR n gs (some L)) : sideD n gs = tN L := by
  unfold sideD
  rw [sidesO_eq G h]
def FsF (Φ : Fn) (C : Nat) : Prop := ∀ (n : Nat) gs, Good n gs → Pu Φ [.d (colD C n gs)] (sideD n gs)
section
variable {ft : Nat → List Str} {C : Nat}
theorem kvN_len (c : List (Nat × Nat)) : (kvN c).length = c.length := List.length_map _
theorem fs_ok {fA : Fn} (hf : FtOk ft C) (hA : PaF fA C) : FsF (body0 6 (t_found_sides ft fA)) C := fun n gs G => .of fun S hS => by
  have n6 := G.n6
  unfold t_found_sides
  refine ok_seq (ok_set (ok_dnewK ?_))
  refine sq_nx (ok_seq ?_)
  (repeat' first | with_reducible refine ok_fld ?_ | refine ld_n hf ?_ | fail "ACDEFHIOUVWXZabdijlmnqrstuvxz1368!#&(.:;<=>?[ÀÁ")
  rw [Int.toNat_natCast, upto0]
  refine ok_forX (fun pre ρ S' => ∃ c x2 x3 x4 x5, FsS S S' c ∧ FsI n gs c [] ∧ (∀ m ∈ pre, getN c m ≠ none) ∧ ρ = [some (.d (colD C n gs)), some (.c S.length), x2, x3, x4, x5]) (List.range n) ⟨[], none, none, none, none, FsS.new, FsI.nil, fun _ z => (nomatch z), rfl⟩ (fun pre s post ρ S' e hI => ?_) fun ρ S' hI => ?_
  · obtain ⟨c, x2, x3, x4, x5, hS', hF, hpre, rfl⟩ := hI
    have hs : s < n := List.mem_range.mp (by rw [e]; simp)
    have hlow : ∀ o, o < s → getN c o ≠ none := fun o ho => hpre o (by
      have h1 := pre_range e
      rw [h1]
      exact List.mem_range.mpr ho)
    have kl := hF.key.le
    refine vq put_one (ok_if (ok_dinK ?_))
    fail "ABCDFHIOUVWXZabdijlmnqrstuvxz1368!#&(.:;<=>?[À"
    refine ⟨_, _, _, view_k hS'.at_, rfl, ?_⟩
    rw [if_pos rfl, any_kv]
    refine tq ⟨fun h => ?_, fun h => ?_⟩
    · have h0 : getN c s = none := by simpa using h
      have hF2 := hF.start hs hlow h0
      have kl2 := hF2.key.le
      refine ok_seq (ok_dputK ?_)
      fail "ACDEFHIOUVWXZabdijlmnqrstuvxz1368!#&(.:;<=>?[À"
      refine ⟨_, _, _, _, rfl, rfl, rfl, hS'.at_, by rw [kvN_len]; omega, ?_⟩
      rw [show putKK (kvN c) (.inl (s : Int)) (.int 0) = kvN (c ++ [(s, 0)]) from put_kv h0]
      have hS2 := hS'.put (c ++ [(s, 0)])
      generalize S'.set S.length _ = S2 at hS2 ⊢
      clear hS' hF
      refine sq_nx (ok_seq ?_)
      fail "ACDEFHIOUVWXZabdijlmnqrstuvxz1368!#&(.:;<=>?[À"
      have hS3 : FsS S (S2 ++ [.lst true ([s].map nD)]) (c ++ [(s, 0)]) := hS2.push
      have hw : S.length < S2.length := hS2.lt
      have hg : (S2 ++ [.lst true ([s].map nD)])[S2.length]? = some (.lst true ([s].map nD)) := get_top
      show Ok (whileL _ _ _ _ (S2 ++ [.lst true ([s].map nD)])) _
      generalize S2 ++ [.lst true ([s].map nD)] = S3 at hS3 hg ⊢
      generalize S2.length = w at hw hg ⊢
      have hbase : ∀ m ∈ pre ++ [s], getN (c ++ [(s, 0)]) m ≠ none := fun m hm => by
        rw [getN_upd h0]
        rcases List.mem_append.mp hm with z | z
        · rw [updC_ne fun y => by rw [y] at z; exact hpre s z h0]
          exact hpre m z
        · rw [List.mem_singleton.mp z, updC_self]
          exact fun z => nomatch z
      generalize c ++ [(s, 0)] = c2 at hF2 hS3 hbase kl2
      clear h h0 hlow hpre hS2 kl
      refine ok_while (fun u ρ S' => ∃ c W x4 x5, FsS S S' c ∧ S'[w]? = some (.lst true (W.map nD)) ∧ FsI n gs c W ∧ (∀ m ∈ pre ++ [s], getN c m ≠ none) ∧ (u = n - c.length + W.length ∧ n - c.length + W.length ≤ n + 1) ∧ ρ = [some (.d (colD C n gs)), some (.c S.length), some (.d (nD s)), some (.c w), x4, x5]) (fun u ρ S' hI => ?_) (k := n - c2.length + 1) (by omega) ⟨c2, [s], x4, x5, hS3, hg, hF2, hbase, ⟨rfl, by simp⟩, rfl⟩
      obtain ⟨c, W, x4, x5, hS', hat, hF, hb, ⟨rfl, hWl⟩, rfl⟩ := hI
      have kl := hF.key.le
      (repeat' first | refine vw_l (lv_get hat ?_) | refine vq (f_lenM W) ?_ | fail "ABCDEFHIOUVWXZabdijlmnqrstuvxz1368!#&(.:;<=>?[ÀÁ")
      refine ⟨fun h => ?_, fun h => ?_⟩
      · obtain ⟨W1, m, rfl⟩ : ∃ W1 m, W = W1 ++ [m] := by
          have hne : W ≠ [] := fun z => by subst z; simp at h
          exact ⟨W.dropLast, W.getLast hne, (List.dropLast_concat_getLast hne).symm⟩
        rw [List.map_append] at hat
        refine ok_seq ?_
        (repeat' first | refine lq_l (lt_get hat ?_) | fail "ACDEFHIOUVWXZabdijlmnqrstuvxz1368!#&(.:;<=>?[ÀÁ")
        refine vp l_pop ?_
        have hS4 : FsS S (S'.set w (.lst true (W1.map nD))) c := hS'.setl hw
        have hg4 : (S'.set w (.lst true (W1.map nD)))[w]? = some (.lst true (W1.map nD)) := get_set hat
        obtain ⟨x, hM⟩ := hF.pop
        generalize S'.set w (.lst true (W1.map nD)) = S4 at hS4 hg4 ⊢
        clear hS' hat hF h
        refine sq_nx ?_
        fail "ABCDEFHIOUVWXZabdijlmnqrstuvxz1368!#&(.:;<=>?[À"
        refine (hA n gs m G).ok (hS4.all hS) ?_
        fail "ABCDEFHIOUVWXZabdijlmnqrstuvxz1368!#&(.:;<=>?[À"
        refine ok_forX (fun pre2 ρ S' => ∃ c2 W2 x5, FsS S S' c2 ∧ S'[w]? = some (.lst true (W2.map nD)) ∧ FsM n gs c2 W2 m x pre2 ∧ (∀ m ∈ pre ++ [s], getN c2 m ≠ none) ∧ n - c2.length + W2.length = n - c.length + W1.length ∧ ρ = [some (.d (colD C n gs)), some (.c S.length), some (.d (nD s)), some (.c w), some (.d (nD m)), x5]) (parL n gs m) ⟨c, W1, x5, hS4, hg4, hM, hb, rfl, rfl⟩ (fun pre2 o post2 ρ S5 e2 hI => ?_) fun ρ S5 hI => ?_
        · obtain ⟨c2, W2, x5, hS5, hat, hM, hb, hmu, rfl⟩ := hI
          obtain ⟨on, oa⟩ := mem_parL.mp (show o ∈ parL n gs m by rw [e2]; simp)
          have kl2 := hM.key.le
          have hx := (hM.col.rt m x hM.at_).1
          refine vq put_one (ok_if (ok_dinK ?_))
          fail "ABCDFHIOUVWXZabdijlmnqrstuvxz1368!#&(.:;<=>?[À"
          refine ⟨_, _, _, view_k hS5.at_, rfl, ?_⟩
          rw [if_pos rfl, any_kv]
          refine tq ⟨fun h => ?_, fun h => ?_⟩
          · have h0 : getN c2 o = none := by simpa using h
            have hM2 := hM.add on oa h0
            have kl3 := hM2.key.le
            rw [List.length_append, List.length_singleton] at kl3
            refine ok_seq (ok_dputK ?_)
            fail "ACDEFHIOUVWXZabdijlmnqrstuvxz1368!#&(.:;<=>?[À"
            refine ok_dgetK ?_
            fail "ACDEFHIOUVWXZabdijlmnqrstuvxz1368!#&(.:;<=>?[À"
            refine ⟨_, _, _, _, view_k hS5.at_, rfl, by rw [val_kv, hM.at_]; rfl, ?_⟩
            fail "ACDEFHIOUVWXZabdijlmnqrstuvxz1368!#&(.:;<=>?[À"
            refine ⟨_, _, _, _, rfl, rfl, rfl, hS5.at_, by rw [kvN_len]; omega, ?_⟩
            have e1 : D.int (1 - (x : Int)) = nD (1 - x) := by
              show _ = D.int ((1 - x : Nat) : Int)
              congr 1
              omega
            rw [show putKK (kvN c2) (.inl (o : Int)) (.int (1 - (x : Int))) = kvN (c2 ++ [(o, 1 - x)]) by rw [e1]; exact put_kv h0]
            have hS6 := hS5.put (c2 ++ [(o, 1 - x)])
            have hg6 : (S5.set S.length (.dK true (kvN (c2 ++ [(o, 1 - x)]))))[w]? = some (.lst true (W2.map nD)) := by
              rw [List.getElem?_set_ne (by omega)]
              exact hat
            generalize S5.set S.length _ = S6 at hS6 hg6 ⊢
            refine sq_nx ?_
            (repeat' first | refine lq_l (lt_get hg6 ?_) | fail "ABCDEFHIOUVWXZabdijlmnqrstuvxz1368!#&(.:;<=>?[ÀÁ")
            have wl : W2.length ≤ n + 6 := by rw [List.length_append] at hWl; omega
            refine vp (l_app (by rw [List.length_map]; omega)) ?_
            fail "ABCDEFHIOUVWXZabdijlmnqrstuvxz1368!#&(.:;<=>?[À"
            refine ⟨c2 ++ [(o, 1 - x)], W2 ++ [o], _, hS6.setl hw, ?_, hM2, fun k hk => ?_, ?_, rfl⟩
            · rw [get_set hg6, List.map_append]
              rfl
            · rw [getN_upd h0]
              obtain ⟨y, e⟩ := Option.ne_none_iff_exists'.mp (hb k hk)
              rw [updC_ne (fun z => by rw [z, h0] at e; cases e), e]
              exact fun z => nomatch z
            · rw [List.length_append, List.length_append, List.length_singleton, List.length_singleton]
              omega
          · obtain ⟨y, h0⟩ : ∃ y, getN c2 o = some y := by
              cases e : getN c2 o with
              | none => rw [e] at h; cases h
              | some y => exact ⟨y, rfl⟩
            refine ok_if (ok_op2 (ok_dgetK ?_))
            fail "ABCDFHIOUVWXZabdijlmnqrstuvxz1368!#&(.:;<=>?[À"
            refine ⟨_, _, _, _, view_k hS5.at_, rfl, by rw [val_kv, h0]; rfl, ?_⟩
            refine ok_dgetK ?_
            fail "ABCDFHIOUVWXZabdijlmnqrstuvxz1368!#&(.:;<=>?[À"
            refine ⟨_, _, _, _, view_k hS5.at_, rfl, by rw [val_kv, hM.at_]; rfl, ?_⟩
            fail "ABCDFHIOUVWXZabdijlmnqrstuvxz1368!#&(.:;<=>?[À"
            refine ⟨fun h => ?_, fun h => ?_⟩
            · have : y = x := by have := of_decide_eq_true h; omega
              subst this
              fail "ABCDEFHIOUVWXZabdijlmnqrstuvxz1368!#&(.:;<=>?[À"
              have bad : SidesR n gs none := hM.col.bad hM.at_ h0 oa
              rw [sideD_none G bad]
              obtain ⟨T, e, hT⟩ := hS5.ex
              exact ⟨rfl, T, plC_all hT, e⟩
            · have ne : y ≠ x := fun z => by rw [z] at h; simp at h
              fail "ABCDEFHIOUVWXZabdijlmnqrstuvxz1368!#&(.:;<=>?[À"
              exact ⟨c2, W2, _, hS5, hat, hM.skip h0 ne, hb, hmu, rfl⟩
        · obtain ⟨c2, W2, x5, hS5, hat, hM, hb, hmu, rfl⟩ := hI
          rw [List.length_append, List.length_singleton] at hWl ⊢
          exact ⟨_, by omega, c2, W2, _, _, hS5, hat, hM.end G, hb, ⟨rfl, by omega⟩, rfl⟩
      · have hW : W = [] := by
          cases W with
          | nil => rfl
          | cons a W => simp at h
        subst hW
        exact ⟨c, _, _, _, _, hS', hF, hb, rfl⟩
    · fail "ABCDEFHIOUVWXZabdijlmnqrstuvxz1368!#&(.:;<=>?[À"
      have h0 : getN c s ≠ none := fun z => by rw [z] at h; cases h
      exact ⟨c, _, _, _, _, hS', hF, fun m hm => (List.mem_append.mp hm).elim (hpre m) fun z => by rw [List.mem_singleton.mp z]; exact h0, rfl⟩
  · obtain ⟨c, x2, x3, x4, x5, hS', hF, hall, rfl⟩ := hI
    have ha : ∀ m, m < n → getN c m ≠ none := fun m hm => hall m (List.mem_range.mpr hm)
    fail "ABCDEFHIOUVWXZabdijlmnqrstuvxz1368!#&(.:;<=>?[À"
    refine ok_lcM nD (List.range n) (fun m => nD ((getN c m).getD 0)) ?_
    (repeat' first | with_reducible refine ok_fld ?_ | refine ld_n hf ?_ | fail "ABCDEFHIOUVWXZabdijlmnqrstuvxz1368!#&(.:;<=>?[ÀÁ")
    refine ⟨by rw [Int.toNat_natCast, upto0], by simp; omega, fun m hm => ?_, ?_⟩
    · refine vq put_one (ok_dgetK ?_)
      fail "ABCDEFHIOUVWXZabdijlmnqrstuvxz1368!#&(.:;<=>?[À"
      obtain ⟨x, hx⟩ := Option.ne_none_iff_exists'.mp (ha m (List.mem_range.mp hm))
      exact ⟨_, _, _, nD x, view_k hS'.at_, rfl, by rw [val_kv, hx]; rfl, rfl, by rw [hx]; rfl⟩
    fail "ABCDEFHIOUVWXZabdijlmnqrstuvxz1368!#&(.:;<=>?[À"
    rw [sideD_some G (hF.done G ha)]
    obtain ⟨T, e, hT⟩ := hS'.ex
    refine ⟨?_, T, plC_all hT, e⟩
    show _ = W.d (D.tup (((List.range n).map fun m => (getN c m).getD 0).map nD))
    rw [List.map_map]
    rfl
end
end EV
set_option maxHeartbeats 1000000
namespace EV
open PySem L2 Tx
def oN : Option Nat → D
  | none => .int (-1)
  | some x => nD x
def cnC (L : List (Option Nat)) : Nat := (L.filter Option.isSome).length
abbrev clF2 (L : List (Option Nat)) : Nat → Option Nat := fun m => L.getD m none
theorem cnC_set : ∀ {L : List (Option Nat)} {b x : Nat}, b < L.length → L.getD b none = none → cnC (L.set b (some x)) = cnC L + 1
  | [], _, _, h, _ => nomatch h
  | o :: L, 0, x, _, h => by
    have : o = none := h
    subst this
    unfold cnC
    rw [List.set_cons_zero, List.filter_cons, List.filter_cons]
    rfl
  | o :: L, b + 1, x, hl, h => by
    have ih := cnC_set (L := L) (b := b) (x := x) (by simpa using hl) (by simpa using h)
    unfold cnC at ih ⊢
    rw [List.set_cons_succ, List.filter_cons, List.filter_cons]
    cases o with
    | none => exact ih
    | some y =>
      show (some y :: _).length = (some y :: _).length + 1
      rw [List.length_cons, List.length_cons, ih]
theorem cnC_le (L : List (Option Nat)) : cnC L ≤ L.length := List.length_filter_le ..
theorem getD_set {L : List (Option Nat)} {b x : Nat} (hb : b < L.length) : clF2 (L.set b (some x)) = updC (clF2 L) b x := by
  funext k
  unfold updC clF2
  rw [List.getD_eq_getElem?_getD, List.getD_eq_getElem?_getD]
  by_cases e : k = b
  · subst e
    rw [if_pos rfl, List.getElem?_set_self hb]
    rfl
  · rw [if_neg e, List.getElem?_set_ne fun z => e z.symm]
/-- within a round that began at L0 -/
structure Rd (n : Nat) (gs : List (List Nat)) (L0 L : List (Option Nat)) (pre : List (List Nat)) : Prop where
  len : L.length = n
  col : ColP n gs (clF2 L)
  up : ∀ m, clF2 L0 m ≠ none → clF2 L m ≠ none
  cn : cnC L0 ≤ cnC L
  fx : cnC L = cnC L0 → L = L0 ∧ ∀ a b, [a, b] ∈ pre → (clF2 L0 a = none ↔ clF2 L0 b = none)
  st : Shut gs (clF2 L0) → L = L0
section
variable {n : Nat} {gs : List (List Nat)} {L0 L : List (Option Nat)} {pre : List (List Nat)}
theorem Rd.zero (hl : L.length = n) (hc : ColP n gs (clF2 L)) : Rd n gs L L [] := ⟨hl, hc, fun _ h => h, Nat.le_refl _, fun _ => ⟨rfl, fun _ _ z => (nomatch z)⟩, fun _ => rfl⟩
theorem Rd.skip (h : Rd n gs L0 L pre) {g : List Nat} (hg : ∀ a b, g = [a, b] → (clF2 L a = none ↔ clF2 L b = none)) : Rd n gs L0 L (pre ++ [g]) := ⟨h.len, h.col, h.up, h.cn, fun e => by
  obtain ⟨e1, e2⟩ := h.fx e
  refine ⟨e1, fun a b hab => (List.mem_append.mp hab).elim (e2 a b) fun z => ?_⟩
  rw [← e1]
  exact hg a b (List.mem_singleton.mp z).symm, h.st⟩
theorem Rd.add (h : Rd n gs L0 L pre) {g : List Nat} {a b x : Nat} (ha : clF2 L a = some x) (hb : clF2 L b = none) (hn : b < n) (hab : Adj gs a b) : Rd n gs L0 (L.set b (some (1 - x))) (pre ++ [g]) := by
  have hl : b < L.length := by rw [h.len]; exact hn
  have hc := cnC_set (x := 1 - x) hl hb
  have hcn := h.cn
  refine ⟨by rw [List.length_set]; exact h.len, by rw [getD_set hl]; exact h.col.ext ha hab hb hn, fun m hm => ?_, by omega, fun e => by omega, fun s => ?_⟩
  · rw [getD_set hl]
    by_cases e : m = b
    · rw [e, updC_self]
      exact fun z => nomatch z
    · rw [updC_ne e]
      exact h.up m hm
  · have e := h.st s
    subst e
    exact absurd hb (s a b (by rw [ha]; exact fun z => nomatch z) hab)
theorem Rd.shut (h : Rd n gs L0 L gs) (he : cnC L = cnC L0) : Shut gs (clF2 L) := fun a b ha hab hb => by
  obtain ⟨e1, e2⟩ := h.fx he
  subst e1
  rcases adj_two hab with z | z
  · exact ha ((e2 a b z).mpr hb)
  · exact ha ((e2 b a z).mp hb)
/-- the sides of all members, as the law has them -/
theorem law_done {gs : List (List Nat)} (G : Good n gs) (hl : L.length = n) (hc : ColP n gs (clF2 L)) (ha : ∀ m, m < n → clF2 L m ≠ none) (hok : ∀ a b, [a, b] ∈ gs → clF2 L a ≠ clF2 L b) : SidesR n gs (some (L.map fun o => o.getD 0)) := by
  have gd : ∀ m, (L.map fun o => o.getD 0).getD m 0 = (clF2 L m).getD 0 := fun m => by
    unfold clF2
    rw [List.getD_eq_getElem?_getD, List.getD_eq_getElem?_getD, List.getElem?_map]
    cases L[m]? <;> rfl
  refine hc.done (by rw [List.length_map]; exact hl) (fun m hm => ?_) (fun a b hab => Adj.lt G hab) fun a b x hab e1 e2 => ?_
  · rw [gd m]
    obtain ⟨x, e⟩ := Option.ne_none_iff_exists'.mp (ha m hm)
    rw [e]
    rfl
  · rcases adj_two hab with z | z
    · exact hok a b z (e1.trans e2.symm)
    · exact hok b a z (e2.trans e1.symm)
theorem ix_oN {L : List (Option Nat)} {m : Nat} (h : m < L.length) : oIx (.lst (L.map oN)) (nD m) = some (oN (clF2 L m)) := o_ixL (k := m) rfl (by
  rw [List.getElem?_map, List.getElem?_eq_getElem h]
  show some (oN L[m]) = some (oN (L.getD m none))
  rw [List.getD_eq_getElem?_getD, List.getElem?_eq_getElem h]
  rfl)
theorem ixN_oN {L : List (Option Nat)} {m : Nat} (h : m < L.length) : ixN (L.map oN).length (m : Int) = some m := by
  unfold ixN
  rw [List.length_map]
  split
  · simp
    omega
  · omega
theorem rep_oN (n : Nat) : repL (n : Int) [.int (-1)] = (List.replicate n (none : Option Nat)).map oN := by
  unfold repL
  rw [Int.toNat_natCast, List.map_replicate]
  induction n with
  | zero => rfl
  | succ n ih => rw [List.replicate_succ, List.replicate_succ, List.flatten_cons, ih]; rfl
theorem set_oN {L : List (Option Nat)} {b x : Nat} : (L.map oN).set b (nD x) = (L.set b (some x)).map oN := by
  rw [List.map_set]
  rfl
theorem rep_none {n m : Nat} : clF2 (List.replicate n (none : Option Nat)) m = none := by
  unfold clF2
  rw [List.getD_eq_getElem?_getD, List.getElem?_replicate]
  split <;> rfl
end
def TsF (Φ : Fn) : Prop := ∀ (n : Nat) gs, Good n gs → Pu Φ [.d (nD n), .d (gD gs)] (sideD n gs)
def badG (L : List (Option Nat)) : List Nat → Bool
  | [a, b] => decide ((clF2 L a).getD 0 = (clF2 L b).getD 0)
  | _ => false
theorem ts_ok : TsF (body0 8 t__law_two_sides) := fun n gs G => .of fun S hS => by
  have n6 := G.n6
  have g24 := G.len
  unfold t__law_two_sides
  refine ok_seq (ok_set (ok_rep ?_))
  fail "ACEFHINQUVWYabdghjlmnqrstuvwxz134789!#&(.:;<=>?[À"
  refine ⟨_, _, rfl, rfl, by simp; omega, ?_⟩
  rw [rep_oN]
  refine sq_nx (ok_seq ?_)
  fail "ACEFHINQUVWYabdghjlmnqrstuvwxz134789!#&(.:;<=>?[À"
  rw [Int.toNat_natCast, upto0]
  refine ok_forX (fun pre ρ S' => ∃ L x3 x4 x5 x6 x7, S' = S ++ [.lst true (L.map oN)] ∧ L.length = n ∧ ColP n gs (clF2 L) ∧ Shut gs (clF2 L) ∧ (∀ m ∈ pre, clF2 L m ≠ none) ∧ ρ = [some (.d (nD n)), some (.d (gD gs)), some (.c S.length), x3, x4, x5, x6, x7]) (List.range n) ⟨List.replicate n none, none, none, none, none, none, rfl, by simp, by rw [show clF2 (List.replicate n none) = fun _ => none from funext fun m => rep_none]; exact colP_nil, fun a b ha => absurd rep_none ha, fun _ z => (nomatch z), rfl⟩ (fun pre s post ρ S' e hI => ?_) fun ρ S' hI => ?_
  · obtain ⟨L, x3, x4, x5, x6, x7, rfl, hl, hc, hs, hpre, rfl⟩ := hI
    have hsn : s < n := List.mem_range.mp (by rw [e]; simp)
    have hlow : ∀ o, o < s → clF2 L o ≠ none := fun o ho => hpre o (by
      rw [pre_range e]
      exact List.mem_range.mpr ho)
    refine vq put_one (ok_if ?_)
    cases h0 : clF2 L s with
    | some x =>
      have ix : oIx (.lst (L.map oN)) (nD s) = some (nD x) := (ix_oN (by omega)).trans (by rw [h0]; rfl)
      have hd : decide ((x : Int) < 0) = false := by simp
      (repeat' first | refine vq ix ?_ | fail "ABCFHINQUVWYabdghjlmnqrstuvwxz134789!#&(.:;<=>?[ÀÁ")
      exact ⟨L, _, _, _, _, _, rfl, hl, hc, hs, fun m hm => (List.mem_append.mp hm).elim (hpre m) fun z => by rw [List.mem_singleton.mp z, h0]; exact (fun z => nomatch z), rfl⟩
    | none =>
      have ix : oIx (.lst (L.map oN)) (nD s) = some (.int (-1)) := (ix_oN (by omega)).trans (by rw [h0]; rfl)
      have hd : decide ((-1 : Int) < 0) = true := by decide
      (repeat' first | refine vq ix ?_ | refine vq (ixN_oN (show s < L.length by omega)) ?_ | fail "ABCFHINQUVWYabdghjlmnqrstuvwxz134789!#&(.:;<=>?[ÀÁ")
      rw [set_top, show (L.map oN).set s (.int 0) = (L.set s (some 0)).map oN from set_oN, Int.toNat_natCast, upto0]
      have hl1 : (L.set s (some 0)).length = n := by rw [List.length_set]; exact hl
      have hc1 : ColP n gs (clF2 (L.set s (some 0))) := by
        rw [getD_set (by omega)]
        exact hc.start hs hsn hlow h0
      have hn1 : 1 ≤ cnC (L.set s (some 0)) := by
        rw [cnC_set (by omega) h0]
        omega
      have hb1 : ∀ m ∈ pre ++ [s], clF2 (L.set s (some 0)) m ≠ none := fun m hm => by
        rw [getD_set (by omega)]
        rcases List.mem_append.mp hm with z | z
        · rw [updC_ne fun y => by rw [y] at z; exact hpre s z h0]
          exact hpre m z
        · rw [List.mem_singleton.mp z, updC_self]
          exact fun z => nomatch z
      generalize L.set s (some 0) = L1 at hl1 hc1 hn1 hb1
      clear hl hc hs hpre hlow h0 ix
      refine ok_forX (fun pre2 ρ S' => ∃ L x4 x5 x6 x7, S' = S ++ [.lst true (L.map oN)] ∧ L.length = n ∧ ColP n gs (clF2 L) ∧ (∀ m ∈ pre ++ [s], clF2 L m ≠ none) ∧ (Shut gs (clF2 L) ∨ pre2.length + 1 ≤ cnC L) ∧ ρ = [some (.d (nD n)), some (.d (gD gs)), some (.c S.length), some (.d (nD s)), x4, x5, x6, x7]) (List.range n) ⟨L1, x4, x5, x6, x7, rfl, hl1, hc1, hb1, .inr hn1, rfl⟩ (fun pre2 t post2 ρ S' e2 hI => ?_) fun ρ S' hI => ?_
      · obtain ⟨L, x4, x5, x6, x7, rfl, hl, hc, hb, hm, rfl⟩ := hI
        (repeat' first | refine vq (show items (gD gs) = some (gs.map tN) from rfl) ?_ | fail "ABCEFHINQUVWYabdghjlmnqrstuvwxz134789!#&(.:;<=>?[ÀÁ")
        refine ok_forX (fun pre3 ρ S' => ∃ L2 x5 x6 x7, S' = S ++ [.lst true (L2.map oN)] ∧ Rd n gs L L2 pre3 ∧ ρ = [some (.d (nD n)), some (.d (gD gs)), some (.c S.length), some (.d (nD s)), some (.d (nD t)), x5, x6, x7]) gs ⟨L, x5, x6, x7, rfl, Rd.zero hl hc, rfl⟩ (fun pre3 g post3 ρ S' e3 hI => ?_) fun ρ S' hI => ?_
        · obtain ⟨L2, x5, x6, x7, rfl, hR, rfl⟩ := hI
          have hg : g ∈ gs := by rw [e3]; simp
          have hl2 := hR.len
          refine vq put_one (ok_if ?_)
          (repeat' first | refine vq (f_lenN g) ?_ | fail "ABCFHINQUVWYabdghjlmnqrstuvwxz134789!#&(.:;<=>?[ÀÁ")
          refine ⟨fun h => ?_, fun h => ?_⟩
          · obtain ⟨a, b, rfl⟩ : ∃ a b, g = [a, b] := by
              have h : g.length = 2 := by have := of_decide_eq_true h; omega
              match g, h with
              | [a, b], _ => exact ⟨a, b, rfl⟩
            have la := G.lt _ hg a (by simp)
            have lb := G.lt _ hg b (by simp)
            have hab := two_adj G hg
            refine ok_seq ?_
            fail "ACFHINQUVWYabdghjlmnqrstuvwxz134789!#&(.:;<=>?[À"
            refine vq put_two ?_
            refine sq_nx (ok_if ?_)
            cases ea : clF2 L2 a with
            | none =>
              have ixa : oIx (.lst (L2.map oN)) (nD a) = some (.int (-1)) := (ix_oN (by omega)).trans (by rw [ea]; rfl)
              have d1 : decide ((0 : Int) ≤ -1) = false := by decide
              have d2 : decide ((-1 : Int) < 0) = true := by decide
              cases eb : clF2 L2 b with
              | none =>
                have ixb : oIx (.lst (L2.map oN)) (nD b) = some (.int (-1)) := (ix_oN (by omega)).trans (by rw [eb]; rfl)
                (repeat' first | refine vq ixa ?_ | refine vq ixb ?_ | fail "ABCEFHINQUVWYabdghjlmnqrstuvwxz134789!#&(.:;<=>?[ÀÁ")
                exact ⟨L2, _, _, _, rfl, hR.skip fun a' b' e => by cases e; rw [ea, eb], rfl⟩
              | some y =>
                have ixb : oIx (.lst (L2.map oN)) (nD b) = some (nD y) := (ix_oN (by omega)).trans (by rw [eb]; rfl)
                have d3 : decide ((0 : Int) ≤ (y : Int)) = true := by simp
                have hy := (hR.col.rt b y eb).1
                have e1 : D.int (1 - (y : Int)) = nD (1 - y) := by
                  show _ = D.int ((1 - y : Nat) : Int)
                  congr 1
                  omega
                (repeat' first | refine vq ixa ?_ | refine vq ixb ?_ | refine vq (ixN_oN (show a < L2.length by omega)) ?_ | fail "ABCEFHINQUVWYabdghjlmnqrstuvwxz134789!#&(.:;<=>?[ÀÁ")
                rw [set_top, e1, set_oN]
                exact ⟨_, _, _, _, rfl, hR.add eb ea la hab.symm, rfl⟩
            | some x =>
              have ixa : oIx (.lst (L2.map oN)) (nD a) = some (nD x) := (ix_oN (by omega)).trans (by rw [ea]; rfl)
              have d1 : decide ((0 : Int) ≤ (x : Int)) = true := by simp
              have d2 : decide ((x : Int) < 0) = false := by simp
              cases eb : clF2 L2 b with
              | none =>
                have ixb : oIx (.lst (L2.map oN)) (nD b) = some (.int (-1)) := (ix_oN (by omega)).trans (by rw [eb]; rfl)
                have d3 : decide ((-1 : Int) < 0) = true := by decide
                have hx := (hR.col.rt a x ea).1
                have e1 : D.int (1 - (x : Int)) = nD (1 - x) := by
                  show _ = D.int ((1 - x : Nat) : Int)
                  congr 1
                  omega
                (repeat' first | refine vq ixa ?_ | refine vq ixb ?_ | refine vq (ixN_oN (show b < L2.length by omega)) ?_ | fail "ABCEFHINQUVWYabdghjlmnqrstuvwxz134789!#&(.:;<=>?[ÀÁ")
                rw [set_top, e1, set_oN]
                exact ⟨_, _, _, _, rfl, hR.add ea eb lb hab, rfl⟩
              | some y =>
                have ixb : oIx (.lst (L2.map oN)) (nD b) = some (nD y) := (ix_oN (by omega)).trans (by rw [eb]; rfl)
                have d3 : decide ((0 : Int) ≤ (y : Int)) = true := by simp
                have d4 : decide ((y : Int) < 0) = false := by simp
                (repeat' first | refine vq ixa ?_ | refine vq ixb ?_ | fail "ABCEFHINQUVWYabdghjlmnqrstuvwxz134789!#&(.:;<=>?[ÀÁ")
                exact ⟨L2, _, _, _, rfl, hR.skip fun a' b' e => by cases e; rw [ea, eb]; exact ⟨fun z => (nomatch z), fun z => (nomatch z)⟩, rfl⟩
          · fail "ABCEFHINQUVWYabdghjlmnqrstuvwxz134789!#&(.:;<=>?[À"
            refine ⟨L2, _, _, _, rfl, hR.skip fun a' b' e => ?_, rfl⟩
            subst e
            simp at h
        · obtain ⟨L2, x5, x6, x7, rfl, hR, rfl⟩ := hI
          refine ⟨L2, _, _, _, _, rfl, hR.len, hR.col, fun m hm => hR.up m (hb m hm), ?_, rfl⟩
          rcases hm with z | z
          · have := hR.st z
            subst this
            exact .inl z
          · by_cases c : cnC L2 = cnC L
            · exact .inl (hR.shut c)
            · have := hR.cn
              rw [List.length_append, List.length_singleton]
              exact .inr (by omega)
      · obtain ⟨L, x4, x5, x6, x7, rfl, hl, hc, hb, hm, rfl⟩ := hI
        refine ⟨L, _, _, _, _, _, rfl, hl, hc, hm.elim id fun z => ?_, hb, rfl⟩
        have := cnC_le L
        rw [List.length_range] at z
        omega
  · obtain ⟨L, x3, x4, x5, x6, x7, rfl, hl, hc, hs, hall, rfl⟩ := hI
    have ha : ∀ m, m < n → clF2 L m ≠ none := fun m hm => hall m (List.mem_range.mpr hm)
    refine ok_seq (ok_if (ok_op2 ?_))
    refine ok_lcX tN gs (badG L) tN ?_
    (repeat' first | refine vq (show items (gD gs) = some (gs.map tN) from rfl) ?_ | fail "ACFHINQUVWYabdghjlmnqrstuvwxz134789!#&(.:;<=>?[ÀÁ")
    refine ⟨rfl, by omega, fun g hg => ?_, ?_⟩
    · refine vq put_one ⟨?_, fun _ => ?_⟩
      · (repeat' first | refine vq (f_lenN g) ?_ | fail "ABCEFHINQUVWYabdghjlmnqrstuvwxz134789!#&(.:;<=>?[ÀÁ")
        refine ⟨fun h => ?_, fun h => ?_⟩
        · obtain ⟨a, b, rfl⟩ : ∃ a b, g = [a, b] := by
            have h : g.length = 2 := by have := of_decide_eq_true h; omega
            match g, h with
            | [a, b], _ => exact ⟨a, b, rfl⟩
          have la := G.lt _ hg a (by simp)
          have lb := G.lt _ hg b (by simp)
          obtain ⟨x, ea⟩ := Option.ne_none_iff_exists'.mp (ha a la)
          obtain ⟨y, eb⟩ := Option.ne_none_iff_exists'.mp (ha b lb)
          have ixa : oIx (.lst (L.map oN)) (nD a) = some (nD x) := (ix_oN (by omega)).trans (by rw [ea]; rfl)
          have ixb : oIx (.lst (L.map oN)) (nD b) = some (nD y) := (ix_oN (by omega)).trans (by rw [eb]; rfl)
          (repeat' first | refine vq (show oIx (tN [a, b]) (.int 0) = some (nD a) from o_ixT (k := 0) rfl rfl) ?_ | refine vq (show oIx (tN [a, b]) (.int 1) = some (nD b) from o_ixT (k := 1) rfl rfl) ?_ | refine vq ixa ?_ | refine vq ixb ?_ | fail "ABCEFHINQUVWYabdghjlmnqrstuvwxz134789!#&(.:;<=>?[ÀÁ")
          refine ⟨rfl, ?_⟩
          have : badG L [a, b] = decide (x = y) := by
            show decide ((clF2 L a).getD 0 = (clF2 L b).getD 0) = _
            rw [ea, eb]
            rfl
          rw [this]
          congr 2
          exact decide_eq_decide.mpr (by omega)
        · refine ⟨rfl, ?_⟩
          have : badG L g = false := by
            unfold badG
            split
            · simp at h
            · rfl
          rw [this]
      · fail "ABCEFHINQUVWYabdghjlmnqrstuvwxz134789!#&(.:;<=>?[À"
        exact ⟨rfl, rfl⟩
    fail "ACFHINQUVWYabdghjlmnqrstuvwxz134789!#&(.:;<=>?[À"
    refine vq (o_neNil (lays_tN 62 _)) ?_
    rw [isE_map]
    refine tq ⟨fun h => ?_, fun h => ?_⟩
    · obtain ⟨g, hg⟩ : ∃ g, g ∈ gs.filter (badG L) := by
        cases e : gs.filter (badG L) with
        | nil => rw [e] at h; cases h
        | cons g r => exact ⟨g, by simp⟩
      obtain ⟨hg, hb⟩ := List.mem_filter.mp hg
      clear h
      have bad : SidesR n gs none := by
        unfold badG at hb
        split at hb
        · next a b _ =>
          have la := G.lt _ hg a (by simp)
          have lb := G.lt _ hg b (by simp)
          obtain ⟨x, ea⟩ := Option.ne_none_iff_exists'.mp (ha a la)
          obtain ⟨y, eb⟩ := Option.ne_none_iff_exists'.mp (ha b lb)
          have := of_decide_eq_true hb
          rw [ea, eb] at this
          have : x = y := this
          subst this
          exact hc.bad ea eb (two_adj G hg)
        · cases hb
      fail "ABCEFHINQUVWYabdghjlmnqrstuvwxz134789!#&(.:;<=>?[À"
      rw [sideD_none G bad]
      exact ⟨rfl, [.lst true (L.map oN)], .one, rfl⟩
    · have hb : ∀ g ∈ gs, badG L g = false := fun g hg => by
        have e : gs.filter (badG L) = [] := by
          cases e : gs.filter (badG L) with
          | nil => rfl
          | cons g r => rw [e] at h; cases h
        simpa using List.filter_eq_nil_iff.mp e g hg
      have ok := law_done G hl hc ha fun a b hab z => by
        have : decide ((clF2 L a).getD 0 = (clF2 L b).getD 0) = false := hb _ hab
        rw [z] at this
        simp at this
      fail "ABCEFHINQUVWYabdghjlmnqrstuvwxz134789!#&(.:;<=>?[À"
      rw [sideD_some G ok]
      refine ⟨?_, [.lst true (L.map oN)], .one, rfl⟩
      show _ = W.d (D.tup ((L.map fun o => o.getD 0).map nD))
      rw [List.map_map]
      congr 2
      refine List.map_congr_left fun o ho => ?_
      obtain ⟨i, hi, e⟩ := List.mem_iff_getElem.mp ho
      have : clF2 L i = o := by
        unfold clF2
        rw [List.getD_eq_getElem?_getD, List.getElem?_eq_getElem hi, e]
        rfl
      have h2 := ha i (by omega)
      rw [this] at h2
      cases o with
      | none => exact absurd rfl h2
      | some x => rfl
end EV
set_option maxHeartbeats 1000000
namespace EV
open PySem L2 Tx
def oddV (gs : List (List Nat)) (P : List Nat) : Bool := decide P.Nodup && orE gs P
def oddT (n : Nat) (gs : List (List Nat)) (xs : List D) : Bool := decide (3 ≤ xs.length) && (decide (xs.length % 2 = 1) && (xs.all (inR n) && oddV gs (xs.map toN)))
def oddB (n : Nat) (gs : List (List Nat)) : D → Bool
  | .tup xs => pairsB gs && oddT n gs xs
  | _ => false
theorem oddB_n {n : Nat} {gs : List (List Nat)} {l : List Nat} (hp : pairsB gs = true) (hl : ∀ m ∈ l, m < n) : oddB n gs (tN l) = oddN gs l := by
  show (pairsB gs && oddT n gs (l.map nD)) = _
  unfold oddT oddN oddV
  rw [hp, inR_n hl, toN_n, List.length_map]
  simp
theorem prv_mod {k L : Nat} (h : k < L) : (k + L - 1) % L = prv k L := by
  unfold prv
  by_cases c : k = 0
  · subst c
    rw [if_pos rfl, Nat.zero_add, Nat.mod_eq_of_lt (by omega)]
  · rw [if_neg c, show k + L - 1 = k - 1 + L by omega, Nat.add_mod_right, Nat.mod_eq_of_lt (by omega)]
def LipF (Φ : Fn) : Prop := ∀ (n : Nat) gs, Good n gs → Pu Φ [.d (gD gs)] (.bl (pairsB gs))
def OrhF (Φ : Fn) (C : Nat) : Prop := ∀ (n : Nat) gs v, Good n gs → FineO 60 40 v → Pu Φ [.d (colD C n gs), .d v] (.bl (oddB n gs v))
def LorF (Φ : Fn) : Prop := ∀ (n : Nat) gs v, Good n gs → FineO 60 40 v → Pu Φ [.d (nD n), .d (gD gs), .d v] (.bl (oddB n gs v))
section
variable {ft : Nat → List Str} {C : Nat} {ics : List Nat}
theorem orh_ok {fI fW fP : Fn} (hf : FtOk ft C) (hI : IpF fI C) (hW : WinOk fW ics) (hP : PoF fP) : OrhF (body0 4 (t_odd_ring_holds ics ft fI fW fP)) C := fun n gs v G hv => .of0 fun S hS => by
  have ho : ordD ics v = true := (Fine.lay (fun _ z => z) hv).ord
  have n1 := G.n1
  unfold t_odd_ring_holds
  refine ok_seq ?_
  fail "AEFHILPRUVWXZbdjlmnqrstx348!#.:;?[|~À"
  refine (hI n gs G).ok hS ?_
  fail "AEFHILPRUVWXZbdjlmnqrstx348!#.:;?[|~À"
  refine ⟨fun h => ?_, fun h => ?_⟩
  · fail "ABEFHILPRUVWXZbdjlmnqrstx348!#.:;?[|~À"
    refine ⟨?_, rfl⟩
    cases v with
    | tup xs =>
      show _ = W.d (D.bl (pairsB gs && oddT n gs xs))
      rw [show pairsB gs = false by simpa using h]
      rfl
    | _ => rfl
  have hp : pairsB gs = true := by simpa using h
  clear h
  (repeat' first | refine vq (isT_tuple ho) ?_ | fail "AEFHILPRUVWXZbdjlmnqrstx348!#.:;?[|~ÀÁ")
  refine ⟨fun h => ?_, fun h => ?_⟩
  · fail "ABEFHILPRUVWXZbdjlmnqrstx348!#.:;?[|~À"
    refine ⟨?_, rfl⟩
    cases v with
    | tup xs => cases h
    | _ => rfl
  obtain ⟨xs, rfl⟩ : ∃ xs, v = .tup xs := by
    cases v with
    | tup xs => exact ⟨xs, rfl⟩
    | _ => cases h
  clear h
  obtain ⟨_, e, hl, hx⟩ := fine_tupI hv
  cases e
  have hgo : oddB n gs (.tup xs) = oddT n gs xs := by
    show (pairsB gs && oddT n gs xs) = _
    rw [hp]
    rfl
  rw [hgo]
  unfold oddT
  fail "AEFHILPRUVWXZbdjlmnqrstx348!#.:;?[|~À"
  refine ⟨fun h => ?_, fun h => ?_⟩
  · fail "ABEFHILPRUVWXZbdjlmnqrstx348!#.:;?[|~À"
    rw [decide_eq_false (by have := of_decide_eq_true h; omega)]
    exact ⟨rfl, rfl⟩
  have h3 : 3 ≤ xs.length := by have := of_decide_eq_false h; omega
  clear h
  rw [decide_eq_true h3]
  fail "AEFHILPRUVWXZbdjlmnqrstx348!#.:;?[|~À"
  rw [Int.fdiv_eq_ediv_of_nonneg _ (by omega)]
  refine ⟨fun h => ?_, fun h => ?_⟩
  · fail "ABEFHILPRUVWXZbdjlmnqrstx348!#.:;?[|~À"
    rw [decide_eq_false (by have := of_decide_eq_true h; omega)]
    exact ⟨rfl, rfl⟩
  have ho2 : xs.length % 2 = 1 := by have := of_decide_eq_false h; omega
  clear h
  rw [decide_eq_true ho2]
  fail "AEFHILPRUVWXZbdjlmnqrstx348!#.:;?[|~À"
  refine ok_seq ?_
  refine ok_if (ok_or (ok_not ?_))
  refine allB_ok (q := inR n) (ds := xs) (own := 2) ?_ (by omega) (fun d hd => ?_) ?_
  · fail "ABEFHILPRUVWXZbdjlmnqrstx348!#.:;?[|~À"
    exact ⟨rfl, rfl⟩
  · (repeat' first | with_reducible refine ok_fld ?_ | refine ld_n hf ?_ | fail "ABEFHILPRUVWXZbdjlmnqrstx348!#.:;?[|~ÀÁ")
    refine (hW d 0 _ (Fine.lay (fun _ z => z) (hx d hd)).ord).ok hS ?_
    rw [isW_inR n1]
    exact ⟨rfl, rfl⟩
  fail "AEFHILPRUVWXZbdjlmnqrstx348!#.:;?[|~À"
  refine ⟨fun h => ?_, fun h => ?_⟩
  · fail "ABEFHILPRUVWXZbdjlmnqrstx348!#.:;?[|~À"
    rw [show xs.all (inR n) = false by simpa using h]
    exact ⟨rfl, rfl⟩
  have ha : xs.all (inR n) = true := by simpa using h
  rw [ha]
  clear h
  obtain ⟨e1, lp⟩ := inR_row ha
  generalize xs.map toN = P at e1 lp
  subst e1
  rw [List.length_map] at hl h3 ho2
  have hgo : (true && (true && (true && oddV gs P))) = oddV gs P := by simp
  rw [hgo]
  clear hgo
  unfold oddV
  have cP : (countD (iL P) = P.length) ↔ P.Nodup := count_ints P
  have cle := countD_le (iL P)
  have ll : (iL P).length = P.length := List.length_map _
  refine ok_op2 (ok_lensetI (iL P) ?_)
  (repeat' first | refine vq (show seqD (.tup (P.map nD)) = some (P.map nD) from rfl) ?_ | fail "AEFHILPRUVWXZbdjlmnqrstx348!#.:;?[|~ÀÁ")
  refine ⟨ints_iL P, by unfold iL; rw [List.length_map]; omega, ?_⟩
  fail "AEFHILPRUVWXZbdjlmnqrstx348!#.:;?[|~À"
  refine ⟨fun h => ?_, fun h => ?_⟩
  · fail "ABEFHILPRUVWXZbdjlmnqrstx348!#.:;?[|~À"
    rw [decide_eq_false (fun z => by have := of_decide_eq_true h; rw [List.length_map, cP.mpr z] at this; omega)]
    exact ⟨rfl, rfl⟩
  have nP : P.Nodup := cP.mp (by have := of_decide_eq_false h; rw [List.length_map] at this; omega)
  rw [decide_eq_true nP, ← rgB_eq]
  clear h
  unfold orB
  fail "AEFHILPRUVWXZbdjlmnqrstx348!#.:;?[|~À"
  refine ok_lcM nD (List.range P.length) (fun k => .bl (decide (pairO (P.getD ((k + P.length - 1) % P.length) 0) (P.getD k 0) ∈ gs))) ?_
  fail "ABEFHILPRUVWXZbdjlmnqrstx348!#.:;?[|~À"
  refine ⟨by rw [List.length_map, Int.toNat_natCast, upto0], by simp; omega, fun k hk => ?_, ?_⟩
  · have hk := List.mem_range.mp hk
    (repeat' first | refine vq (show oIx (.tup (P.map nD)) (.int ((k : Int) - 1)) = _ from ix_prv hk) ?_ | refine vq (ix_tN rfl hk) ?_ | fail "ABEFHILPRUVWXZbdjlmnqrstx348!#.:;?[|~ÀÁ")
    refine (hP _ _).ok hS ?_
    (repeat' first | with_reducible refine ok_fld ?_ | refine ld_g hf ?_ | fail "ABEFHILPRUVWXZbdjlmnqrstx348!#.:;?[|~ÀÁ")
    rw [prv_mod hk]
    refine vq (o_inT _ gs) ?_
    exact ⟨rfl, rfl⟩
  (repeat' first | refine vq (f_allM _ _) ?_ | fail "ABEFHILPRUVWXZbdjlmnqrstx348!#.:;?[|~ÀÁ")
  exact ⟨rfl, rfl⟩
theorem lip_ok : LipF (body0 2 t__law_is_pairs) := fun n gs G => .of0 fun S hS => by
  have g24 := G.len
  unfold t__law_is_pairs
  fail "AFHINUVWbqrstuvx68!#.:;?"
  refine ok_lcX tN gs (fun g => decide ((2 : Int) < g.length)) tN ?_
  (repeat' first | refine vq (show items (gD gs) = some (gs.map tN) from rfl) ?_ | fail "AFHINUVWbqrstuvx68!#.:;?Á")
  refine ⟨rfl, by omega, fun g hg => ?_, ?_⟩
  · fail "AFHINUVWbqrstuvx68!#.:;?"
    refine ⟨?_, fun _ => ?_⟩
    · (repeat' first | refine vq (f_lenN g) ?_ | fail "AFHINUVWbqrstuvx68!#.:;?Á")
      exact ⟨rfl, rfl⟩
    · fail "AFHINUVWbqrstuvx68!#.:;?"
      exact ⟨rfl, rfl⟩
  fail "AFHINUVWbqrstuvx68!#.:;?"
  refine vq (o_eqNil (lays_tN 62 _)) ?_
  fail "AFHINUVWbqrstuvx68!#.:;?"
  refine ⟨?_, rfl⟩
  rw [isE_map]
  congr 2
  unfold pairsB
  refine Bool.eq_iff_iff.mpr ?_
  rw [List.isEmpty_iff, List.filter_eq_nil_iff, List.all_eq_true]
  refine forall_congr' fun g => forall_congr' fun hg => ?_
  rw [decide_eq_true_eq, decide_eq_true_eq]
  omega
def okV (gs : List (List Nat)) (P : List Nat) (k : Nat) : Bool := !decide (P.getD k 0 ∈ P.take k) && decide (sortN [P.getD k 0, P.getD ((k + 1) % P.length) 0] ∈ gs)
theorem sort_pair {a b : Nat} (h : a ≠ b) : sortN [a, b] = pairO a b := by
  rw [sort2]
  unfold pairO
  rw [if_neg h]
  by_cases c : a ≤ b
  · rw [if_pos c, Nat.min_eq_left c, Nat.max_eq_right c]
  · rw [if_neg c, Nat.min_eq_right (by omega), Nat.max_eq_left (by omega)]
theorem okV_all {gs : List (List Nat)} {P : List Nat} (h3 : 3 ≤ P.length) : (List.range P.length).all (okV gs P) = oddV gs P := by
  refine Bool.eq_iff_iff.mpr ?_
  unfold oddV okV orE
  simp only [List.all_eq_true, List.mem_range, Bool.and_eq_true, Bool.not_eq_true', decide_eq_true_eq, decide_eq_false_iff_not]
  have ne : P.Nodup → ∀ k, k < P.length → P.getD k 0 ≠ P.getD ((k + 1) % P.length) 0 := fun nd k hk => nd_ne nd hk (Nat.mod_lt _ (by omega)) (by
    by_cases c : k + 1 = P.length
    · rw [c, Nat.mod_self]
      omega
    · rw [Nat.mod_eq_of_lt (by omega)]
      omega)
  constructor
  · intro z
    have nd : P.Nodup := take_fresh.mp fun k hk => (z k hk).1
    exact ⟨nd, fun k hk => by rw [← sort_pair (ne nd k hk)]; exact (z k hk).2⟩
  · rintro ⟨nd, z⟩ k hk
    exact ⟨take_fresh.mpr nd k hk, by rw [sort_pair (ne nd k hk)]; exact z k hk⟩
theorem lor_ok {fI fN : Fn} (hI : LipF fI) (hN : NumOk fN) : LorF (body0 4 (t__law_is_odd_ring fI fN)) := fun n gs v G hv => .of0 fun S hS => by
  have vv := FineO.val (by omega) (by omega) hv
  unfold t__law_is_odd_ring
  refine ok_seq ?_
  fail "AEFHIJNPRUVWZadjlmnqrstuvwxz1248!#$%&(;?[^_`À"
  refine (hI n gs G).ok hS ?_
  fail "AEFHIJNPRUVWZadjlmnqrstuvwxz1248!#$%&(;?[^_`À"
  refine ⟨fun h => ?_, fun h => ?_⟩
  · fail "ABEFHIJNPRUVWZadjlmnqrstuvwxz1248!#$%&(;?[^_`À"
    refine ⟨?_, rfl⟩
    cases v with
    | tup xs =>
      show _ = W.d (D.bl (pairsB gs && oddT n gs xs))
      rw [show pairsB gs = false by simpa using h]
      rfl
    | _ => rfl
  have hp : pairsB gs = true := by simpa using h
  clear h
  fail "AEFHIJNPRUVWZadjlmnqrstuvwxz1248!#$%&(;?[^_`À"
  refine (hN v n vv).ok hS ?_
  fail "AEFHIJNPRUVWZadjlmnqrstuvwxz1248!#$%&(;?[^_`À"
  refine ⟨fun h => ?_, fun h => ?_⟩
  · fail "ABEFHIJNPRUVWZadjlmnqrstuvwxz1248!#$%&(;?[^_`À"
    refine ⟨?_, rfl⟩
    cases v with
    | tup xs =>
      have h : xs.all (inR n) = false := by
        have h : (!numB n (.tup xs)) = true := h
        unfold numB at h
        simpa using h
      show _ = W.d (D.bl (pairsB gs && oddT n gs xs))
      unfold oddT
      rw [h]
      simp
    | _ => rfl
  have hn : numB n v = true := by simpa using h
  obtain ⟨xs, rfl⟩ : ∃ xs, v = .tup xs := by
    cases v with
    | tup xs => exact ⟨xs, rfl⟩
    | _ => cases hn
  clear h
  have ha : xs.all (inR n) = true := hn
  obtain ⟨_, e, hl, hx⟩ := fine_tupI hv
  cases e
  have hgo : oddB n gs (.tup xs) = oddT n gs xs := by
    show (pairsB gs && oddT n gs xs) = _
    rw [hp]
    rfl
  rw [hgo]
  unfold oddT
  rw [ha]
  clear hgo hn vv
  obtain ⟨e1, lp⟩ := inR_row ha
  generalize xs.map toN = P at e1 lp
  subst e1
  rw [List.length_map] at hl
  rw [List.length_map]
  (repeat' first | refine vq (f_lenN P) ?_ | fail "AEFHIJNPRUVWZadjlmnqrstuvwxz1248!#$%&(;?[^_`ÀÁ")
  refine ⟨fun h => ?_, fun h => ?_⟩
  · fail "ABEFHIJNPRUVWZadjlmnqrstuvwxz1248!#$%&(;?[^_`À"
    rw [decide_eq_false (by have := of_decide_eq_true h; omega)]
    exact ⟨rfl, rfl⟩
  have h3 : 3 ≤ P.length := by have := of_decide_eq_false h; omega
  clear h
  rw [decide_eq_true h3]
  fail "AEFHIJNPRUVWZadjlmnqrstuvwxz1248!#$%&(;?[^_`À"
  rw [Int.fmod_eq_emod_of_nonneg _ (by omega)]
  have hll : (P.map nD).length = P.length := List.length_map _
  refine ⟨fun h => ?_, fun h => ?_⟩
  · fail "ABEFHIJNPRUVWZadjlmnqrstuvwxz1248!#$%&(;?[^_`À"
    rw [decide_eq_false (by have := of_decide_eq_true h; omega)]
    exact ⟨rfl, rfl⟩
  have ho2 : P.length % 2 = 1 := by have := of_decide_eq_false h; omega
  clear h
  rw [decide_eq_true ho2]
  have hgo : (true && (true && (true && oddV gs P))) = (List.range P.length).all (okV gs P) := by rw [okV_all h3]; simp
  rw [hgo]
  fail "AEFHIJNPRUVWZadjlmnqrstuvwxz1248!#$%&(;?[^_`À"
  refine ok_seq ?_
  fail "AEFHIJNPRUVWZadjlmnqrstuvwxz1248!#$%&(;?[^_`À"
  rw [List.length_map, Int.toNat_natCast, upto0]
  refine ok_forX (fun pre ρ S' => S' = S ∧ pre.all (okV gs P) = true ∧ ∃ x3, ρ = [some (.d (nD n)), some (.d (gD gs)), some (.d (tN P)), x3]) (List.range P.length) ⟨rfl, rfl, none, rfl⟩ (fun pre k post ρ S' e hI => ?_) fun ρ S' hI => ?_
  · obtain ⟨rfl, hpre, x3, rfl⟩ := hI
    have hk : k < P.length := List.mem_range.mp (by rw [e]; simp)
    have hk2 : (k + 1) % P.length < P.length := Nat.mod_lt _ (by omega)
    have ne : (P.length : Int) ≠ 0 := by omega
    have bad : okV gs P k = false → ((List.range P.length).all (okV gs P)) = false := fun z => by
      rw [e, List.all_append, List.all_cons, z]
      simp
    have c1 : cutD (P.map nD) none (some (k : Int)) = (P.take k).map nD := by rw [cut_to (by omega), Int.toNat_natCast, List.map_take]
    refine vq put_one ?_
    (repeat' first | with_reducible refine ok_slT ?_ | with_reducible refine ok_none ?_ | with_reducible refine ok_some ?_ | with_reducible refine t2N ?_ | refine vq (ix_tN rfl hk) ?_ | fail "ABEFHIJNPRUVWZadjlmnqrstuvwxz1248!#$%&(;?[^_`ÀÁ")
    rw [c1]
    refine vq (o_inN _ _) ?_
    fail "ABEFHIJNPRUVWZadjlmnqrstuvwxz1248!#$%&(;?[^_`À"
    refine ⟨fun h => ?_, fun h => ?_⟩
    · fail "ABEFHIJNPRUVWZadjlmnqrstuvwxz1248!#$%&(;?[^_`À"
      rw [bad (by unfold okV; rw [h]; rfl)]
      exact ⟨rfl, rfl⟩
    (repeat' first | refine vq (ix_tN rfl hk) ?_ | refine vq (f_lenN P) ?_ | fail "ABEFHIJNPRUVWZadjlmnqrstuvwxz1248!#$%&(;?[^_`ÀÁ")
    rw [fmod_n]
    refine vq (ix_tN rfl hk2) ?_
    fail "ABEFHIJNPRUVWZadjlmnqrstuvwxz1248!#$%&(;?[^_`À"
    refine vq (f_srtI [P.getD k 0, P.getD ((k + 1) % P.length) 0]) ?_
    fail "ABEFHIJNPRUVWZadjlmnqrstuvwxz1248!#$%&(;?[^_`À"
    refine vq (o_ninT (sortN [P.getD k 0, P.getD ((k + 1) % P.length) 0]) gs) ?_
    fail "ABEFHIJNPRUVWZadjlmnqrstuvwxz1248!#$%&(;?[^_`À"
    refine ⟨fun h2 => ?_, fun h2 => ?_⟩
    · fail "ABEFHIJNPRUVWZadjlmnqrstuvwxz1248!#$%&(;?[^_`À"
      rw [bad (by unfold okV; rw [show decide (sortN [P.getD k 0, P.getD ((k + 1) % P.length) 0] ∈ gs) = false by simpa using h2]; simp)]
      exact ⟨rfl, rfl⟩
    · fail "ABEFHIJNPRUVWZadjlmnqrstuvwxz1248!#$%&(;?[^_`À"
      refine ⟨rfl, ?_, _, rfl⟩
      rw [List.all_append, hpre, List.all_cons]
      have : okV gs P k = true := by
        unfold okV
        rw [h, show decide (sortN [P.getD k 0, P.getD ((k + 1) % P.length) 0] ∈ gs) = true by simpa using h2]
        rfl
      rw [this]
      rfl
  · obtain ⟨rfl, hpre, x3, rfl⟩ := hI
    fail "ABEFHIJNPRUVWZadjlmnqrstuvwxz1248!#$%&(;?[^_`À"
    rw [hpre]
    exact ⟨rfl, rfl⟩
end
end EV
set_option maxHeartbeats 1000000
namespace EV
open PySem L2 Tx
section
variable {ρ : Env'} {S : Store}
theorem lcN_x {X Y : Type} {t t1 : Tg} {i1 : SmI} {own1 : List Nat} {c1 f : Sm} {g : X → D} {g1 : Y → D} {ys : X → List Y} {p : X → Y → Bool} {v : X → Y → D} : ∀ {xs : List X} {acc : List D}, acc.length + (xs.map fun x => (ys x).length).sum ≤ 16777216 →
    (∀ x ∈ xs, VQ (t.put (g x) ρ) fun ρ1 => i1 ρ1 S = .ok ((ys x).map g1) S ∧ ∀ y ∈ ys x, VQ (t1.put (g1 y) (wipeE ρ1 own1)) fun ρ2 => Ok (c1 ρ2 S) (fun w S' => S' = S ∧ w = .d (.bl (p x y))) ∧ (p x y = true → Ok (f ρ2 S) fun w S' => S' = S ∧ w = .d (v x y))) → lcM t cTrue i1 own1 t1 c1 f ρ (xs.map g) acc S = .ok (acc ++ xs.flatMap fun x => ((ys x).filter (p x)).map (v x)) S
  | [], acc, _, _ => by simp [lcM]
  | x :: xs, acc, hl, k => by
    obtain ⟨ρ1, h1, h2, h3⟩ := k x (List.mem_cons_self ..)
    simp only [List.map_cons, List.sum_cons] at hl
    have step : lcL t1 c1 f (wipeE ρ1 own1) ((ys x).map g1) acc S = .ok (acc ++ ((ys x).filter (p x)).map (v x)) S := lcL_x fun y hy => h3 y hy
    have fl := List.length_filter_le (p x) (ys x)
    have ih := lcN_x (acc := acc ++ ((ys x).filter (p x)).map (v x)) (xs := xs) (v := v) (p := p) (ys := ys) (by
      rw [List.length_append, List.length_map]
      omega) fun d hd => k d (List.mem_cons_of_mem _ hd)
    rw [List.map_cons]
    unfold lcM
    rw [h1]
    show (i1 ρ1 S).bindN _ = _
    rw [h2]
    show (if acc.length + ((ys x).map g1).length ≤ 16777216 then _ else _) = _
    rw [if_pos (by rw [List.length_map]; omega), step]
    show lcM t cTrue i1 own1 t1 c1 f ρ (xs.map g) (acc ++ ((ys x).filter (p x)).map (v x)) S = _
    rw [ih, List.flatMap_cons, List.append_assoc]
theorem sum_fl {X Y : Type} {ys : X → List Y} {p : X → Y → Bool} {v : X → Y → D} : ∀ xs : List X, (xs.flatMap fun x => ((ys x).filter (p x)).map (v x)).length ≤ (xs.map fun x => (ys x).length).sum
  | [] => Nat.le_refl 0
  | x :: xs => by
    have ih := sum_fl (ys := ys) (p := p) (v := v) xs
    have fl := List.length_filter_le (p x) (ys x)
    rw [List.flatMap_cons, List.length_append, List.length_map, List.map_cons, List.sum_cons]
    omega
theorem ok_lc2c {X Y : Type} {own own1 : List Nat} {t t1 : Tg} {i i1 : SmI} {c1 f : Sm} {Q : W → Store → Prop} (g : X → D) (xs : List X) (g1 : Y → D) (ys : X → List Y) (p : X → Y → Bool) (v : X → Y → D) (h : Ok (i ρ S) fun ds S1 => ds = xs.map g ∧ (xs.map fun x => (ys x).length).sum ≤ 16777216 ∧
    (∀ x ∈ xs, VQ (t.put (g x) (wipeE ρ own)) fun ρ1 => Ok (i1 ρ1 S1) (fun ds S' => ds = (ys x).map g1 ∧ S' = S1) ∧ ∀ y ∈ ys x, VQ (t1.put (g1 y) (wipeE ρ1 own1)) fun ρ2 => Ok (c1 ρ2 S1) (fun w S' => S' = S1 ∧ w = .d (.bl (p x y))) ∧ (p x y = true → Ok (f ρ2 S1) fun w S' => S' = S1 ∧ w = .d (v x y))) ∧
    Q (.d (.lst (xs.flatMap fun x => ((ys x).filter (p x)).map (v x)))) S1) : Ok (cLc2 false own t i cTrue own1 t1 i1 c1 f ρ S) Q :=
  ok_bind (h.mono fun ds S1 h => by
    obtain ⟨rfl, h1, h2, q⟩ := h
    have sl := sum_fl (ys := ys) (p := p) (v := v) xs
    rw [lcN_x (v := v) (ys := ys) (g1 := g1) (p := p) (by rw [List.length_nil]; omega) fun x hx => by
      obtain ⟨ρ1, a, b, c⟩ := h2 x hx
      refine ⟨ρ1, a, ?_, c⟩
      obtain ⟨ds, S', e, rfl, rfl⟩ := b.get
      exact e]
    show Ok (if ([] ++ xs.flatMap fun x => ((ys x).filter (p x)).map (v x)).length ≤ 16777216 then newL false _ S1 else .bad) Q
    rw [if_pos (by
      rw [List.nil_append]
      omega)]
    exact .mk q)
end
def RpF (Φ : Fn) (C : Nat) : Prop := ∀ (n : Nat) gs, Good n gs → pairsB gs = true → Pu Φ [.d (colD C n gs)] .non
def RpX (Φ : Fn) (C cU : Nat) : Prop := ∀ (n : Nat) gs, Good n gs → pairsB gs = false → PuX Φ [.d (colD C n gs)] cU ["what"] [.str "pairs"]
def SidF (Φ : Fn) (C : Nat) : Prop := ∀ (n : Nat) gs L, Good n gs → pairsB gs = true → sidesO n gs = some L → Pu Φ [.d (colD C n gs)] (tN L)
def SidP (Φ : Fn) (C cU : Nat) : Prop := ∀ (n : Nat) gs, Good n gs → pairsB gs = false → PuX Φ [.d (colD C n gs)] cU ["what"] [.str "pairs"]
def SidN (Φ : Fn) (C cU : Nat) : Prop := ∀ (n : Nat) gs, Good n gs → pairsB gs = true → sidesO n gs = none → PuX Φ [.d (colD C n gs)] cU ["what"] [.str "sides"]
def OrF (Φ : Fn) (C : Nat) : Prop := ∀ (n : Nat) gs p, Good n gs → pairsB gs = true → oddF n gs = some p → Pu Φ [.d (colD C n gs)] (tN p)
def OrN (Φ : Fn) (C cU : Nat) : Prop := ∀ (n : Nat) gs, Good n gs → pairsB gs = true → oddF n gs = none → PuX Φ [.d (colD C n gs)] cU ["what"] [.str "odd"]
section
variable {ft : Nat → List Str} {C cU : Nat}
theorem rp_ok {fI : Fn} (hI : IpF fI C) : RpF (body0 1 (t_require_pairs cU fI)) C := fun n gs G hp => .of0 fun S hS => by
  unfold t_require_pairs
  fail "AEPUVWZjlqtuv?À"
  refine (hI n gs G).ok hS ?_
  rw [hp]
  fail "AEPUVWZjlqtuv?À"
  refine cq_f rfl (ok_snil (bq_nx ⟨rfl, rfl⟩))
theorem rp_x {fI : Fn} (hI : IpF fI C) : RpX (body0 1 (t_require_pairs cU fI)) C cU := fun n gs G hp => .of fun S hS => by
  unfold t_require_pairs
  refine xn_if ?_
  fail "AEPUVWZjlqtuv?À"
  refine (hI n gs G).ok hS ?_
  rw [hp]
  fail "AEPUVWZjlqtuv?À"
  refine cq_t rfl (xn_raise ?_)
  (repeat' first | refine fzl_c ?_ | refine fzl_n ?_ | fail "AEPUVWZjlqtuv?ÀÁ")
  exact ⟨rfl, rfl, rfl, rfl⟩
theorem sid_ok {fR fS : Fn} (hR : RpF fR C) (hF : FsF fS C) : SidF (body0 2 (t_sides cU fR fS)) C := fun n gs L G hp hL => .of0 fun S hS => by
  have e : sideD n gs = tN L := by
    unfold sideD
    rw [hL]
  unfold t_sides
  fail "ABCDEFHUVWZjlmnqtuvx?À"
  refine (hR n gs G hp).ok hS ?_
  fail "ABCDEFHUVWZjlmnqtuvx?À"
  refine (hF n gs G).ok hS ?_
  rw [e]
  fail "ABCDEFHUVWZjlmnqtuvx?À"
  refine vq (show oIs false (tN L) .non = some (.bl false) from rfl) ?_
  fail "ABCDEFHUVWZjlmnqtuvx?À"
  exact ⟨rfl, rfl⟩
theorem sid_p {fR fS : Fn} (hR : RpX fR C cU) : SidP (body0 2 (t_sides cU fR fS)) C cU := fun n gs G hp => .of fun S hS => by
  unfold t_sides
  refine drop_X ?_
  fail "ABCDEFHUVWZjlmnqtuvx?À"
  exact (hR n gs G hp).xn hS ⟨rfl, rfl, rfl, rfl⟩
theorem sid_n {fR fS : Fn} (hR : RpF fR C) (hF : FsF fS C) : SidN (body0 2 (t_sides cU fR fS)) C cU := fun n gs G hp hN => .of fun S hS => by
  have e : sideD n gs = .non := by
    unfold sideD
    rw [hN]
  unfold t_sides
  refine xn_seq2 ?_
  fail "ABCDEFHUVWZjlmnqtuvx?À"
  refine (hR n gs G hp).ok hS (nq ?_)
  refine xn_seq2 ?_
  fail "ABCDEFHUVWZjlmnqtuvx?À"
  refine (hF n gs G).ok hS (nq ?_)
  rw [e]
  refine xn_seq1 (xn_if ?_)
  fail "ABCDEFHUVWZjlmnqtuvx?À"
  refine vq (show oIs false .non .non = some (.bl true) from rfl) ?_
  refine tq (cq_t rfl (xn_raise ?_))
  (repeat' first | refine fzl_c ?_ | refine fzl_n ?_ | fail "ABCDEFHUVWZjlmnqtuvx?ÀÁ")
  exact ⟨rfl, rfl, rfl, rfl⟩
def orW (fH fP : Fn) : SmS := whileL (cOp2 oGt (cBi fLen (cCons (cVar 1) (cNil))) (cCst (.int 0))) (sSeq (sFor (.one 3) (cIter (cVar 1)) (sIf (cCall 2 fH (cCons (cVar 0) (cCons (cVar 3) (cNil)))) (sRet true (cVar 3)) (sNil))) (
    sSet 1 (cLc2 false [3, 4] (.one 3) (cIter (cVar 1)) cTrue [4] (.one 4) (cIter (cCall 2 fP (cCons (cVar 0) (cCons (cOp2 oIx (cVar 3) (cNeg (cCst (.int 1)))) (cNil))))) (cOp2 (oIn true) (cVar 4) (cVar 3)) (cOp2 oAdd (cVar 3) (cTup (cCons (cVar 4) (cNil))))))) 100000
theorem or_turn {n : Nat} {gs : List (List Nat)} {fH fP : Fn} (hH : OrhF fH C) (hP : PaF fP C) (G : Good n gs) (hp : pairsB gs = true) {S : Store} (hS : AllL S) {x2 x3 x4 : Option W} : Ok (orW fH fP [some (.d (colD C n gs)), some (.d (.lst ((lvF n gs 0).map tN))), x2, x3, x4] S) fun r S' => S' = S ∧ ((∃ p, oddF n gs = some p ∧ r = .rt (.d (tN p))) ∨ (oddF n gs = none ∧ ∃ ρ, r = .nx ρ)) := by
  have n6 := G.n6
  have txt := t_odd_ring
  clear txt
  unfold orW
  refine ok_while (fun u ρ S' => ∃ t x2 x3 x4, (t ≤ 6 ∧ u = 7 - t) ∧ S' = S ∧ ((List.range t).findSome? fun t => (lvF n gs t).find? (oddN gs)) = none ∧ ρ = [some (.d (colD C n gs)), some (.d (.lst ((lvF n gs t).map tN))), x2, x3, x4]) (fun u ρ S' hI => ?_) (k := 7) (by omega) ⟨0, x2, x3, x4, ⟨by omega, rfl⟩, rfl, rfl, rfl⟩
  obtain ⟨t, x2, x3, x4, ⟨ht, rfl⟩, rfl, hno, rfl⟩ := hI
  (repeat' first | refine vq (f_lenM (lvF n gs t)) ?_ | fail "ABCDEFHIMUVWXYZabdjlmnqrstuvwxz126!#.:;?[^_ÀÁ")
  have hlen := lvF_len (n := n) (gs := gs) t
  have hb : (lvF n gs t).length ≤ 279936 := Nat.le_trans hlen (Nat.le_trans (Nat.pow_le_pow_left n6 _) (Nat.le_trans (Nat.pow_le_pow_right (by omega) (show t + 1 ≤ 7 by omega)) (by decide)))
  refine ⟨fun h => ?_, fun h => ?_⟩
  · have hne : lvF n gs t ≠ [] := fun z => by
      rw [z] at h
      cases h
    have ht5 : t + 1 ≤ n := by
      obtain ⟨p, r, e⟩ := List.exists_cons_of_ne_nil hne
      exact (lvF_ok (show p ∈ lvF n gs t by rw [e]; simp)).le
    refine ok_seq ?_
    (repeat' first | refine vq (show items (.lst ((lvF n gs t).map tN)) = some ((lvF n gs t).map tN) from rfl) ?_ | fail "ACDEFHIMUVWXYZabdjlmnqrstuvwxz126!#.:;?[^_ÀÁ")
    refine ok_forX (fun pre ρ S2 => S2 = S' ∧ pre.find? (oddN gs) = none ∧ ∃ x3, ρ = [some (.d (colD C n gs)), some (.d (.lst ((lvF n gs t).map tN))), x2, x3, x4]) (lvF n gs t) ⟨rfl, rfl, x3, rfl⟩ (fun pre p post ρ S2 e hI => ?_) fun ρ S2 hI => ?_
    · obtain ⟨rfl, hpre, x3, rfl⟩ := hI
      have hpo := lvF_ok (show p ∈ lvF n gs t by rw [e]; simp)
      have hlp := hpo.len
      fail "ABCDEFHIMUVWXYZabdjlmnqrstuvwxz126!#.:;?[^_À"
      refine (hH n gs (tN p) G (fine_n p (by omega) fun _ _ => trivial)).ok hS ?_
      rw [oddB_n hp hpo.lt]
      fail "ABCDEFHIMUVWXYZabdjlmnqrstuvwxz126!#.:;?[^_À"
      refine ⟨fun h => ?_, fun h => ?_⟩
      · fail "ABCDEFHIMUVWXYZabdjlmnqrstuvwxz126!#.:;?[^_À"
        refine ⟨rfl, .inl ⟨p, oddF_hit (t := t) (by omega) hno ?_, rfl⟩⟩
        rw [e, List.find?_append, hpre, List.find?_cons, h]
        rfl
      · fail "ABCDEFHIMUVWXYZabdjlmnqrstuvwxz126!#.:;?[^_À"
        refine ⟨rfl, ?_, _, rfl⟩
        rw [List.find?_append, hpre, List.find?_cons, h]
        rfl
    · obtain ⟨rfl, hall, x3, rfl⟩ := hI
      refine sq_nx ?_
      fail "ABCDEFHIMUVWXYZabdjlmnqrstuvwxz126!#.:;?[^_À"
      refine ok_lc2c tN (lvF n gs t) nD (fun p => parL n gs (p.getD (p.length - 1) 0)) (fun p o => !decide (o ∈ p)) (fun p o => tN (p ++ [o])) ?_
      (repeat' first | refine vq (show items (.lst ((lvF n gs t).map tN)) = some ((lvF n gs t).map tN) from rfl) ?_ | fail "ABCDEFHIMUVWXYZabdjlmnqrstuvwxz126!#.:;?[^_ÀÁ")
      refine ⟨rfl, ?_, fun p hpm => ?_, ?_⟩
      · have := sum_le6 (xs := lvF n gs t) (f := fun p => (parL n gs (p.getD (p.length - 1) 0)).length) fun p _ => Nat.le_trans (parL_le _) n6
        omega
      · have hpo := lvF_ok hpm
        have hlp := hpo.len
        have pne : p ≠ [] := fun z => by rw [z] at hlp; simp at hlp
        refine vq put_one ⟨?_, fun o ho => ?_⟩
        · (repeat' first | refine vq (ix_lastN pne) ?_ | fail "ABCDEFHIMUVWXYZabdjlmnqrstuvwxz126!#.:;?[^_ÀÁ")
          refine (hP n gs _ G).ok hS ?_
          fail "ABCDEFHIMUVWXYZabdjlmnqrstuvwxz126!#.:;?[^_À"
          exact ⟨rfl, rfl⟩
        · refine vq put_one ⟨?_, fun _ => ?_⟩
          · (repeat' first | refine vq (o_ninN _ _) ?_ | fail "ABCDEFHIMUVWXYZabdjlmnqrstuvwxz126!#.:;?[^_ÀÁ")
            exact ⟨rfl, rfl⟩
          · fail "ABCDEFHIMUVWXYZabdjlmnqrstuvwxz126!#.:;?[^_À"
            refine vq (o_addT (xs := p.map nD) (ys := [nD o]) (by rw [List.length_map, List.length_singleton]; omega)) ?_
            refine ⟨rfl, ?_⟩
            rw [tN_app]
            rfl
      refine ⟨7 - (t + 1), by omega, t + 1, x2, x3, x4, ⟨by omega, rfl⟩, rfl, ?_, ?_⟩
      · rw [List.range_succ]
        exact fs_skip hno hall
      · show _ = [some (W.d (colD C n gs)), some (W.d (.lst (((lvF n gs t).flatMap fun p => ((parL n gs (p.getD (p.length - 1) 0)).filter fun o => !decide (o ∈ p)).map fun o => p ++ [o]).map tN))), x2, x3, x4]
        rw [List.map_flatMap]
        simp only [List.map_map]
        rfl
  · have hnil : lvF n gs t = [] := by
      cases e : lvF n gs t with
      | nil => rfl
      | cons a r => rw [e] at h; simp at h
    exact ⟨rfl, .inr ⟨oddF_nil (by omega) hno hnil, _, rfl⟩⟩
end
end EV
set_option maxHeartbeats 1000000
namespace EV
open PySem L2
section
variable {n : Nat} {gs R : List (List Nat)}
/-- a ring as two rows without end -/
structure RngF (n : Nat) (gs : List (List Nat)) (N : Nat) (p c : Nat → Nat) : Prop where
  two : 2 ≤ N
  pl : ∀ t, p t < gs.length
  cl : ∀ t, c t < n
  pp : ∀ t, p (t + N) = p t
  cp : ∀ t, c (t + N) = c t
  pd : ∀ s t, s < t → t < s + N → p s ≠ p t
  cd : ∀ s t, s < t → t < s + N → c s ≠ c t
  at_ : ∀ t, c t ∈ gs.getD (p t) [] ∧ c t ∈ gs.getD (p (t + 1)) []
theorem mod_ne {N s t : Nat} (h : s < t) (h2 : t < s + N) : s % N ≠ t % N := fun e => by
  have h3 : (t - s) % N = 0 := by
    have := Nat.sub_mod_eq_zero_of_mod_eq e.symm
    exact this
  rw [Nat.mod_eq_of_lt (by omega)] at h3
  omega
theorem Ring.fn {P M : List Nat} (h : Ring n gs P M) : RngF n gs P.length (fun t => P.getD (t % P.length) 0) (fun t => M.getD (t % P.length) 0) := by
  obtain ⟨pn, mn, at_⟩ := rgN_iff.mp h.rg
  have h2 := h.two
  have hl := h.len
  have md : ∀ t, t % P.length < P.length := fun t => Nat.mod_lt _ (by omega)
  refine ⟨h2, fun t => h.pl _ (getD_memN (md t)), fun t => h.ml _ (getD_memN (by rw [hl]; exact md t)), fun t => ?_, fun t => ?_, fun s t h1 h3 e => mod_ne h1 h3 (nodup_at pn (md s) (md t) e), fun s t h1 h3 e => mod_ne h1 h3 (nodup_at mn (by rw [hl]; exact md s) (by rw [hl]; exact md t) e), fun t => ?_⟩
  · show P.getD ((t + P.length) % P.length) 0 = _
    rw [Nat.add_mod_right]
  · show M.getD ((t + P.length) % P.length) 0 = _
    rw [Nat.add_mod_right]
  · have := at_ _ (md t)
    rw [Nat.mod_add_mod] at this
    exact this
theorem getD_map {f : Nat → Nat} {k i : Nat} (h : i < k) : ((List.range k).map f).getD i 0 = f i := by
  rw [List.getD_eq_getElem?_getD, List.getElem?_map, List.getElem?_range h]
  rfl
/-- part of a ring, closed by one member more -/
theorem RngF.arc {N : Nat} {p c : Nat → Nat} (h : RngF n gs N p c) (G : Good n gs) {u d x : Nat} (h1 : 1 ≤ d) (h2 : d < N) (hx : x ∈ gs.getD (p u) []) (hx2 : x ∈ gs.getD (p (u + d)) []) (hn : ∀ s, s < d → x ≠ c (u + s)) : ∃ P M, Ring n gs P M ∧ P.length = d + 1 := by
  have lM : ((List.range d).map fun s => c (u + s)).length = d := by simp
  refine ⟨(List.range (d + 1)).map fun s => p (u + s), ((List.range d).map fun s => c (u + s)) ++ [x], ⟨by simp, by simp; omega, fun q hq => ?_, fun m hm => ?_, rgN_iff.mpr ⟨?_, ?_, fun i hi => ?_⟩⟩, by simp⟩
  · obtain ⟨s, _, rfl⟩ := List.mem_map.mp hq
    exact h.pl _
  · rcases List.mem_append.mp hm with z | z
    · obtain ⟨s, _, rfl⟩ := List.mem_map.mp z
      exact h.cl _
    · rw [List.mem_singleton.mp z]
      exact G.lt _ (getD_mem (h.pl u)) x hx
  · rw [List.nodup_iff_pairwise_ne, List.pairwise_map]
    refine List.Pairwise.imp_of_mem (R := (· < ·)) (fun {a b} ha hb hab => ?_) List.pairwise_lt_range
    have := List.mem_range.mp hb
    exact h.pd _ _ (by omega) (by omega)
  · refine List.nodup_append.mpr ⟨?_, by simp, fun a ha b hb e => ?_⟩
    · rw [List.nodup_iff_pairwise_ne, List.pairwise_map]
      refine List.Pairwise.imp_of_mem (R := (· < ·)) (fun {a b} ha hb hab => ?_) List.pairwise_lt_range
      have := List.mem_range.mp hb
      exact h.cd _ _ (by omega) (by omega)
    · obtain ⟨s, hs, rfl⟩ := List.mem_map.mp ha
      rw [List.mem_singleton.mp hb] at e
      exact hn s (List.mem_range.mp hs) e.symm
  · have hi : i < d + 1 := by simpa using hi
    rw [show ((List.range (d + 1)).map fun s => p (u + s)).length = d + 1 by simp, getD_map hi]
    by_cases z : i = d
    · subst z
      rw [Nat.mod_self, getD_top lM.symm, getD_map (by omega)]
      exact ⟨hx2, hx⟩
    · rw [Nat.mod_eq_of_lt (by omega), getD_app (by rw [lM]; omega), getD_map (by omega), getD_map (by omega)]
      exact h.at_ (u + i)
/-- of a shortest ring: where two of its groups have a common member -/
theorem RngF.meet {N : Nat} {p c : Nat → Nat} (h : RngF n gs N p c) (G : Good n gs) (hmin : ∀ P M, Ring n gs P M → N ≤ P.length) {u d x : Nat} (h1 : 1 ≤ d) (h2 : d < N) (hx : x ∈ gs.getD (p u) []) (hx2 : x ∈ gs.getD (p (u + d)) []) : d = N - 1 ∨ ∃ s, s < d ∧ x = c (u + s) := by
  by_cases z : ∃ s, s < d ∧ x = c (u + s)
  · exact .inr z
  · obtain ⟨P, M, hR, hl⟩ := h.arc G h1 h2 hx hx2 fun s hs e => z ⟨s, hs, e⟩
    have := hmin P M hR
    exact .inl (by omega)
/-- either the groups are next to each other, or the ring has but two groups -/
theorem RngF.next {N : Nat} {p c : Nat → Nat} (h : RngF n gs N p c) (G : Good n gs) (hmin : ∀ P M, Ring n gs P M → N ≤ P.length) {u d x : Nat} (h1 : 1 ≤ d) (h2 : d < N) (hx : x ∈ gs.getD (p u) []) (hx2 : x ∈ gs.getD (p (u + d)) []) : N = 2 ∨ (d = 1 ∧ x = c u) ∨ (d = N - 1 ∧ x = c (u + d)) := by
  by_cases hN : N = 2
  · exact .inl hN
  have h3 := h.two
  have a := h.meet G hmin h1 h2 hx hx2
  have b := h.meet G hmin (u := u + d) (d := N - d) (by omega) (by omega) hx2 (by rw [show u + d + (N - d) = u + N by omega, h.pp]; exact hx)
  rcases a with a | ⟨s, hs, es⟩
  · rcases b with b | ⟨t, ht, et⟩
    · omega
    · refine .inr (.inr ⟨a, ?_⟩)
      rw [et, show t = 0 by omega]
      rfl
  · rcases b with b | ⟨t, ht, et⟩
    · have : d = 1 := by omega
      subst this
      refine .inr (.inl ⟨rfl, ?_⟩)
      rw [es, show s = 0 by omega]
      rfl
    · exact absurd (es.symm.trans et) (h.cd _ _ (by omega) (by omega))
end
end EV
set_option maxHeartbeats 1000000
namespace EV
open PySem L2
section
variable {n : Nat} {gs R : List (List Nat)} {N : Nat} {p c : Nat → Nat}
theorem RngF.mod (h : RngF n gs N p c) (x : Nat) : p (x % N) = p x := by
  have key : ∀ k y, p (y + k * N) = p y := fun k => by
    induction k with
    | zero => intro y; rw [Nat.zero_mul]; rfl
    | succ k ih =>
      intro y
      rw [Nat.succ_mul, ← Nat.add_assoc, h.pp, ih]
  have e : x % N + (x / N) * N = x := by
    rw [Nat.mul_comm]
    exact Nat.mod_add_div x N
  rw [← key (x / N) (x % N), e]
/-- what the wishes against a ring are like -/
structure AgR (n : Nat) (gs R : List (List Nat)) (p c : Nat → Nat) : Prop where
  best : ∀ t, ∀ q ∈ plc gs (c t), q ≠ p (t + 1) → rk gs R (c t) (p (t + 1)) < rk gs R (c t) q
  ring : ∀ m, m < n → ∀ q ∈ plc gs m, ∀ q' ∈ plc gs m, (∃ t, q = p t) → (¬ ∃ t, q' = p t) → rk gs R m q < rk gs R m q'
  alone : ∀ m, m < n → ∀ q ∈ plc gs m, ∀ q' ∈ plc gs m, (gs.getD q []).length = 1 → (¬ ∃ t, q' = p t) → (gs.getD q' []).length ≠ 1 → rk gs R m q < rk gs R m q'
end
end EV
set_option maxHeartbeats 1000000
namespace EV
open PySem L2 Tx
end EV
set_option maxHeartbeats 1000000
namespace EV
open PySem L2 Tx
end EV
set_option maxHeartbeats 1000000
namespace EV
open PySem L2 Tx
theorem ef_what {ρ : Env'} {S : Store} {v : D} {Q : W → Store → Prop} (q : Q (.d v) S) : Ok (cEf "what" ["what"] [v] ρ S) Q := by
  unfold cEf look2
  rw [if_pos rfl]
  exact .mk q
end EV
set_option maxHeartbeats 1000000
namespace EV
open PySem L2 Tx
section
variable {ft : Nat → List Str} {C cU : Nat}
theorem lv0 (n : Nat) (gs : List (List Nat)) : ((List.range n).map fun m => tN [m]) = (lvF n gs 0).map tN := by
  show _ = ((List.range n).map fun m => [m]).map tN
  rw [List.map_map]
  rfl
theorem or_ok {fR fH fP : Fn} (hf : FtOk ft C) (hR : RpF fR C) (hH : OrhF fH C) (hP : PaF fP C) : OrF (body0 5 (t_odd_ring ft cU fR fH fP)) C := fun n gs p G hp hO => .of0 fun S hS => by
  have n6 := G.n6
  unfold t_odd_ring
  refine ok_seq ?_
  fail "ACDEFHIMUVWXYZabdjlmnqrstuvwxz126!#.:;?[^_À"
  refine (hR n gs G hp).ok hS ?_
  refine sq_nx (ok_seq ?_)
  fail "ACDEFHIMUVWXYZabdjlmnqrstuvwxz126!#.:;?[^_À"
  refine ok_lcM nD (List.range n) (fun m => tN [m]) ?_
  (repeat' first | with_reducible refine ok_fld ?_ | refine ld_n hf ?_ | fail "ACDEFHIMUVWXYZabdjlmnqrstuvwxz126!#.:;?[^_ÀÁ")
  refine ⟨by rw [Int.toNat_natCast, upto0], by simp; omega, fun m hm => ?_, ?_⟩
  · fail "ABCDEFHIMUVWXYZabdjlmnqrstuvwxz126!#.:;?[^_À"
    exact ⟨rfl, rfl⟩
  rw [lv0 n gs]
  refine sq_nx (ok_seq ?_)
  refine (or_turn hH hP G hp hS (x2 := none) (x3 := none) (x4 := none)).mono fun r S' h => ?_
  obtain ⟨rfl, ⟨q, h1, rfl⟩ | ⟨h1, _⟩⟩ := h
  · rw [hO] at h1
    cases h1
    exact sq_rt (bq_rt ⟨rfl, rfl⟩)
  · rw [hO] at h1
    cases h1
theorem or_n {fR fH fP : Fn} (hf : FtOk ft C) (hR : RpF fR C) (hH : OrhF fH C) (hP : PaF fP C) : OrN (body0 5 (t_odd_ring ft cU fR fH fP)) C cU := fun n gs G hp hO => .of fun S hS => by
  have n6 := G.n6
  unfold t_odd_ring
  refine xn_seq2 ?_
  fail "ABCDEFHIMUVWXYZabdjlmnqrstuvwxz126!#.:;?[^_À"
  refine (hR n gs G hp).ok hS (nq ?_)
  refine xn_seq2 ?_
  fail "ABCDEFHIMUVWXYZabdjlmnqrstuvwxz126!#.:;?[^_À"
  refine ok_lcM nD (List.range n) (fun m => tN [m]) ?_
  (repeat' first | with_reducible refine ok_fld ?_ | refine ld_n hf ?_ | fail "ABCDEFHIMUVWXYZabdjlmnqrstuvwxz126!#.:;?[^_ÀÁ")
  refine ⟨by rw [Int.toNat_natCast, upto0], by simp; omega, fun m hm => ?_, ?_⟩
  · fail "ABCDEFHIMUVWXYZabdjlmnqrstuvwxz126!#.:;?[^_À"
    exact ⟨rfl, rfl⟩
  rw [lv0 n gs]
  refine nq (xn_seq2 ?_)
  refine (or_turn hH hP G hp hS (x2 := none) (x3 := none) (x4 := none)).mono fun r S' h => ?_
  obtain ⟨rfl, ⟨q, h1, rfl⟩ | ⟨h1, ρ, rfl⟩⟩ := h
  · rw [hO] at h1
    cases h1
  · refine nq (xn_raise ?_)
    (repeat' first | refine fzl_c ?_ | refine fzl_n ?_ | fail "ABCDEFHIMUVWXYZabdjlmnqrstuvwxz126!#.:;?[^_ÀÁ")
    exact ⟨rfl, rfl, rfl, rfl⟩
theorem or_p {fR fH fP : Fn} (hR : RpX fR C cU) : SidP (body0 5 (t_odd_ring ft cU fR fH fP)) C cU := fun n gs G hp => .of fun S hS => by
  unfold t_odd_ring
  refine drop_X ?_
  fail "ABCDEFHIMUVWXYZabdjlmnqrstuvwxz126!#.:;?[^_À"
  exact (hR n gs G hp).xn hS ⟨rfl, rfl, rfl, rfl⟩
end
def undD (x : Str) : D := .tup [.str "undefined", .str x]
def tldD (v : D) : D := .tup [.str "told", v]
noncomputable def tdS (n : Nat) (gs : List (List Nat)) : D := if pairsB gs = true then (match sidesO n gs with | none => undD "sides" | some L => tldD (tN L)) else undD "pairs"
def tdO (n : Nat) (gs : List (List Nat)) : D := if pairsB gs = true then (match oddF n gs with | none => undD "odd" | some p => tldD (tN p)) else undD "pairs"
structure Told3 (Φ : Fn) (C : Nat) : Prop where
  s : ∀ (n : Nat) gs, Good n gs → Pu Φ [.d (.int 0), .d (colD C n gs)] (tdS n gs)
  o : ∀ (n : Nat) gs, Good n gs → Pu Φ [.d (.int 1), .d (colD C n gs)] (tdO n gs)
theorem xn_tup {ρ : Env'} {S : Store} {P : Nat → List Str → List D → Env' → Store → Prop} {g : SmL} (h : Xn (g ρ S) P) : Xn (cTup g ρ S) P := xn_b1 h
theorem xn_cons1 {ρ : Env'} {S : Store} {P : Nat → List Str → List D → Env' → Store → Prop} {f : Sm} {g : SmL} (h : Xn (f ρ S) P) : Xn (cCons f g ρ S) P := xn_b1 h
theorem xn_cons2 {ρ : Env'} {S : Store} {P : Nat → List Str → List D → Env' → Store → Prop} {f : Sm} {g : SmL} (h : Ok (f ρ S) fun _ S1 => Xn (g ρ S1) P) : Xn (cCons f g ρ S) P := xn_b2 (h.mono fun _ _ h => xn_b1 h)
section
variable {C cU : Nat} {xs : List Nat} {fS fO : Fn}
theorem told_x {n : Nat} {gs : List (List Nat)} {k : Int} {x : Str} (hx : xs.contains cU = true) (hk : k = 0 ∨ k = 1) (h : k = 0 → PuX fS [.d (colD C n gs)] cU ["what"] [.str x]) (h' : k = 1 → PuX fO [.d (colD C n gs)] cU ["what"] [.str x]) : Pu (body0 3 (t__law_told_v4 xs cU fS fO)) [.d (.int k), .d (colD C n gs)] (undD x) := .of0 fun S hS => by
  unfold t__law_told_v4
  refine ok_tryX (Xn.mono (P := fun c fs ds ρ1 S1 => c = cU ∧ fs = (["what"] : List Str) ∧ ds = [D.str x] ∧ S1 = S ∧ ρ1 = [some (.d (.int k)), some (.d (colD C n gs)), none]) ?_ fun c fs ds ρ1 S1 h => ?_)
  · rcases hk with rfl | rfl
    · refine xn_seq1 (xn_if ?_)
      fail "ABEFHMUVWZjlmnqtuvx8?À"
      refine cq_t (by decide) (xn_ret (xn_tup (xn_cons2 (ok_cst (xn_cons1 (xn_call ?_))))))
      fail "ABEFHMUVWZjlmnqtuvx8?À"
      exact (h rfl).xn hS ⟨rfl, rfl, rfl, rfl, rfl⟩
    · refine xn_seq2 ?_
      fail "ABEFHMUVWZjlmnqtuvx8?À"
      refine cq_f (by decide) (ok_snil (nq (xn_ret (xn_tup (xn_cons2 (ok_cst (xn_cons1 (xn_call ?_))))))))
      fail "ABEFHMUVWZjlmnqtuvx8?À"
      exact (h' rfl).xn hS ⟨rfl, rfl, rfl, rfl, rfl⟩
  · obtain ⟨rfl, rfl, rfl, rfl, rfl⟩ := h
    refine ⟨hx, ok_hit rfl ?_⟩
    (repeat' first | refine ef_what ?_ | fail "ABEFHMUVWZjlmnqtuvx8?ÀÁ")
    exact ⟨rfl, rfl⟩
theorem told_v {n : Nat} {gs : List (List Nat)} {k : Int} {v : D} (hk : k = 0 ∨ k = 1) (h : k = 0 → Pu fS [.d (colD C n gs)] v) (h' : k = 1 → Pu fO [.d (colD C n gs)] v) : Pu (body0 3 (t__law_told_v4 xs cU fS fO)) [.d (.int k), .d (colD C n gs)] (tldD v) := .of0 fun S hS => by
  unfold t__law_told_v4
  refine ok_try ?_
  rcases hk with rfl | rfl
  · fail "ABEFHMUVWZjlmnqtuvx8?À"
    refine cq_t (by decide) ?_
    fail "ABEFHMUVWZjlmnqtuvx8?À"
    refine (h rfl).ok hS ?_
    fail "ABEFHMUVWZjlmnqtuvx8?À"
    exact ⟨rfl, rfl⟩
  · fail "ABEFHMUVWZjlmnqtuvx8?À"
    refine cq_f (by decide) ?_
    fail "ABEFHMUVWZjlmnqtuvx8?À"
    refine (h' rfl).ok hS ?_
    fail "ABEFHMUVWZjlmnqtuvx8?À"
    exact ⟨rfl, rfl⟩
theorem told3 (hx : xs.contains cU = true) (h1 : SidF fS C) (h2 : SidP fS C cU) (h3 : SidN fS C cU) (h4 : OrF fO C) (h5 : SidP fO C cU) (h6 : OrN fO C cU) : Told3 (body0 3 (t__law_told_v4 xs cU fS fO)) C where
  s n gs G := by
    unfold tdS
    split
    · next hp =>
      split
      · next e => exact told_x hx (.inl rfl) (fun _ => h3 n gs G hp e) fun z => nomatch z
      · next L e => exact told_v (.inl rfl) (fun _ => h1 n gs L G hp e) fun z => nomatch z
    · next hp => exact told_x hx (.inl rfl) (fun _ => h2 n gs G (by simpa using hp)) fun z => nomatch z
  o n gs G := by
    unfold tdO
    split
    · next hp =>
      split
      · next e => exact told_x hx (.inr rfl) (fun z => nomatch z) fun _ => h6 n gs G hp e
      · next L e => exact told_v (.inr rfl) (fun z => nomatch z) fun _ => h4 n gs L G hp e
    · next hp => exact told_x hx (.inr rfl) (fun z => nomatch z) fun _ => h5 n gs G (by simpa using hp)
end
end EV
set_option maxHeartbeats 1000000
namespace EV
open PySem L2 Tx
theorem ok_lcDT {ρ : Env'} {S : Store} {own : List Nat} {t : Tg} {i : SmI} {f : Sm} {Q : W → Store → Prop} (I : Store → Prop) (P : D → Prop) (h : Ok (i ρ S) fun ds S1 => ds.length ≤ 16777216 ∧ I S1 ∧ (∀ d ∈ ds, ∀ S, I S → VQ (t.put d (wipeE ρ own)) fun ρ1 => Ok (f ρ1 S) fun w S' => I S' ∧ ∃ x, w = .d x ∧ P x) ∧
    ∀ xs S', I S' → xs.length = ds.length → (∀ x ∈ xs, P x) → Q (.c S'.length) (S' ++ [.lst true xs])) : Ok (cLc true own t i cTrue f ρ S) Q :=
  ok_bind (h.mono fun ds S1 h => by
    obtain ⟨h1, h2, h3, q⟩ := h
    rw [if_pos h1]
    refine ok_bindN ((lcL_dr h2 (fun _ z => (nomatch z)) h3).mono fun xs S' h => ?_)
    exact .mk (q xs S' h.1 (by simpa using h.2.1) h.2.2))
def IntD (m : Nat) (xs : List D) : Prop := xs.length ≤ m ∧ ∀ x ∈ xs, ∃ i, x = .int i
theorem IntD.cut {m : Nat} {xs : List D} (h : IntD m xs) (lo hi : Option Int) : IntD m (cutD xs lo hi) := ⟨Nat.le_trans (cutLe xs lo hi) h.1, fun x hx => h.2 x (mem_cutD hx)⟩
theorem IntD.app {m k : Nat} {xs ys : List D} (h : IntD m xs) (h' : IntD k ys) : IntD (m + k) (xs ++ ys) := ⟨by rw [List.length_append]; have := h.1; have := h'.1; omega, fun x hx => (List.mem_append.mp hx).elim (h.2 x) (h'.2 x)⟩
theorem IntD.rev {m : Nat} {xs : List D} (h : IntD m xs) : IntD m xs.reverse := ⟨by rw [List.length_reverse]; exact h.1, fun x hx => h.2 x (List.mem_reverse.mp hx)⟩
theorem IntD.nn {m : Nat} {l : List Nat} (h : l.length ≤ m) : IntD m (l.map nD) := ⟨by rw [List.length_map]; exact h, fun x hx => by
  obtain ⟨i, _, rfl⟩ := List.mem_map.mp hx
  exact ⟨_, rfl⟩⟩
theorem IntD.fine {m : Nat} {xs : List D} (h : IntD m xs) (hm : m ≤ 60) (k : Nat) : FineO 60 (k + 1) (.tup xs) := fine_tup (by have := h.1; omega) fun x hx => by
  obtain ⟨i, rfl⟩ := h.2 x hx
  exact fine_int trivial
theorem lay_und {x : Str} (h : PyData.strOk x = true) : Lay 64 (undD x) := lay_tup (lays_c (lay_str (by decide +kernel)) (lays_c (lay_str h) lays_n))
theorem lay_tld {v : D} (h : Lay 63 v) : Lay 64 (tldD v) := lay_tup (lays_c (lay_str (by decide +kernel)) (lays_c h lays_n))
theorem ne_self {x : D} (h : Lay 64 x) : oNe x x = some (.bl false) := by rw [o_neD h h, eqD_self h]; rfl
def SmR (n : Nat) (d : D) : Prop := ∃ l : List Nat, d = tN l ∧ l.length ≤ 6 ∧ ∀ m ∈ l, m < n
end EV
set_option maxHeartbeats 0
namespace Lk30
open PySem L2 EV
def FT : Nat → List Str
  | 3 => cd_3.fields
  | _ => []
abbrev ICS : List Nat := [3]
/-- is_integer(value) -/
def b_0 (C : Nat → EV.Fn) : SmS := Tx.t_is_integer ICS
/-- is_within(value, low, high) -/
def b_1 (C : Nat → EV.Fn) : SmS := Tx.t_is_within (C 0)
/-- is_ascending(value) -/
def b_2 (C : Nat → EV.Fn) : SmS := Tx.t_is_ascending 
/-- is_rising(value, high) -/
def b_3 (C : Nat → EV.Fn) : SmS := Tx.t_is_rising ICS (C 1) (C 2)
/-- is_group(value, n) -/
def b_4 (C : Nat → EV.Fn) : SmS := Tx.t_is_group (C 3)
/-- are_groups(value, n) -/
def b_5 (C : Nat → EV.Fn) : SmS := Tx.t_are_groups ICS (C 4)
/-- Collection.__init__(self, n, groups) -/
def b_6 (C : Nat → EV.Fn) : SmS := Tx.t_Collection_init FT 0 1 (C 1) (C 5)
/-- is_pairs(collection) -/
def b_7 (C : Nat → EV.Fn) : SmS := Tx.t_is_pairs FT
/-- require_pairs(collection) -/
def b_8 (C : Nat → EV.Fn) : SmS := Tx.t_require_pairs 2 (C 7)
/-- pair_of(one, other) -/
def b_9 (C : Nat → EV.Fn) : SmS := Tx.t_pair_of 
/-- partners(collection, member) -/
def b_10 (C : Nat → EV.Fn) : SmS := Tx.t_partners FT (C 9)
/-- found_sides(collection) -/
def b_11 (C : Nat → EV.Fn) : SmS := Tx.t_found_sides FT (C 10)
/-- sides(collection) -/
def b_12 (C : Nat → EV.Fn) : SmS := Tx.t_sides 2 (C 8) (C 11)
/-- odd_ring(collection) -/
def b_13 (C : Nat → EV.Fn) : SmS := Tx.t_odd_ring FT 2 (C 8) (C 14) (C 10)
/-- odd_ring_holds(collection, value) -/
def b_14 (C : Nat → EV.Fn) : SmS := Tx.t_odd_ring_holds ICS FT (C 7) (C 1) (C 9)
/-- _law_box(script, k) -/
def b_15 (C : Nat → EV.Fn) : SmS := Tx.t__law_box 
/-- _law_take(box, many) -/
def b_16 (C : Nat → EV.Fn) : SmS := Tx.t__law_take 
/-- _law_pick(box, some) -/
def b_17 (C : Nat → EV.Fn) : SmS := Tx.t__law_pick (C 16)
/-- _law_whole(value) -/
def b_18 (C : Nat → EV.Fn) : SmS := Tx.t__law_whole ICS
/-- _law_is_numbers(value, many) -/
def b_19 (C : Nat → EV.Fn) : SmS := Tx.t__law_is_numbers ICS (C 18)
/-- _law_is_due(told, due) -/
def b_20 (C : Nat → EV.Fn) : SmS := Tx.t__law_is_due 
/-- _law_spoilt(box, value, deep) -/
def b_21 (C : Nat → EV.Fn) : SmS := Tx.t__law_spoilt ICS (C 16) (C 21) (C 17) (C 18)
/-- _law_shuffled(box, some) -/
def b_22 (C : Nat → EV.Fn) : SmS := Tx.t__law_shuffled (C 16)
/-- _law_all_groups(n) -/
def b_23 (C : Nat → EV.Fn) : SmS := Tx.t__law_all_groups 
/-- _law_drawn_tree(box, n) -/
def b_24 (C : Nat → EV.Fn) : SmS := Tx.t__law_drawn_tree (C 22) (C 16)
/-- _law_hangs(group, tree) -/
def b_25 (C : Nat → EV.Fn) : SmS := Tx.t__law_hangs 
/-- _law_is_forest(n, groups) -/
def b_26 (C : Nat → EV.Fn) : SmS := Tx.t__law_is_forest 
/-- _law_groups(box, kind, size) -/
def b_27 (C : Nat → EV.Fn) : SmS := Tx.t__law_groups (C 16) (C 23) (C 22) (C 24) (C 25) (C 26)
/-- _law_two_sides(n, groups) -/
def b_28 (C : Nat → EV.Fn) : SmS := Tx.t__law_two_sides 
/-- _law_is_pairs(groups) -/
def b_29 (C : Nat → EV.Fn) : SmS := Tx.t__law_is_pairs 
/-- _law_is_odd_ring(n, groups, value) -/
def b_30 (C : Nat → EV.Fn) : SmS := Tx.t__law_is_odd_ring (C 29) (C 19)
/-- _law_told(kind, collection) -/
def b_31 (C : Nat → EV.Fn) : SmS := Tx.t__law_told_v4 [0, 1, 2] 2 (C 12) (C 13)
/-- law(script) -/
def t_law (c_Collection : Nat) (f__law_box : Fn) (f__law_groups : Fn) (f__law_take : Fn) (f_Collection_init : Fn) (f__law_is_due : Fn) (f_is_pairs : Fn) (f__law_is_pairs : Fn) (f__law_shuffled : Fn) (f__law_told : Fn) (f__law_two_sides : Fn) (f__law_is_odd_ring : Fn) (f__law_spoilt : Fn) (f_odd_ring_holds : Fn) : SmS :=
  sSeq (sSet 1 (cCall 2 (f__law_box) (cCons (cVar 0) (cCons (cCst (.int 0)) (cNil))))) (
    sSeq (sAsg (.many [.one 2, .one 3]) (cCall 3 (f__law_groups) (cCons (cCall 2 (f__law_box) (cCons (cVar 0) (cCons (cCst (.int 1)) (cNil)))) (cCons (cOp2 oIx (cLst false (cCons (cCst (.int 1)) (cCons (cCst (.int 1)) (cCons (cCst (.int 1)) (cCons (cCst (.int 4)) (cCons (cCst (.int 4)) (cCons (cCst (.int 0)) (cCons (cCst (.int 3)) (cNil))))))))) (cCall 2 (f__law_take) (cCons (cVar 1) (cCons (cCst (.int 7)) (cNil))))) (cCons (cCst (.int 6)) (cNil)))))) (
    sSeq (sSet 4 (cMake c_Collection 3 (f_Collection_init) (cCons (cVar 2) (cCons (cVar 3) (cNil))))) (
    sSeq (sIf (cNot (cCall 2 (f__law_is_due) (cCons (cCall 1 (f_is_pairs) (cCons (cVar 4) (cNil))) (cCons (cCall 1 (f__law_is_pairs) (cCons (cVar 3) (cNil))) (cNil))))) (sRet true (cCst (.bl false))) (sNil)) (
    sSeq (sSet 5 (cLc true [6] (.one 6) (cRange1 (cCons (cCst (.int 4)) (cNil))) cTrue (cBi fTuple (cCons (cSl false (cCall 2 (f__law_shuffled) (cCons (cVar 1) (cCons (cRgA false false (cVar 2)) (cNil)))) oNone (oSome (cOp2 oAdd (cCst (.int 3)) (cCall 2 (f__law_take) (cCons (cVar 1) (cCons (cCst (.int 3)) (cNil))))))) (cNil))))) (
    sSeq (sIf (cNot (cCall 1 (f__law_is_pairs) (cCons (cVar 3) (cNil)))) (sIf (cOr (cOp2 oNe (cCall 2 (f__law_told) (cCons (cCst (.int 0)) (cCons (cVar 4) (cNil)))) (cTup (cCons (cCst (.str "undefined")) (cCons (cCst (.str "pairs")) (cNil))))) (cOp2 oNe (cCall 2 (f__law_told) (cCons (cCst (.int 1)) (cCons (cVar 4) (cNil)))) (cTup (cCons (cCst (.str "undefined")) (cCons (cCst (.str "pairs")) (cNil)))))) (sRet true (cCst (.bl false))) (sNil)) (sSeq (sSet 7 (cCall 2 (f__law_two_sides) (cCons (cVar 2) (cCons (cVar 3) (cNil))))) (
    sSeq (sSet 8 (cCall 2 (f__law_told) (cCons (cCst (.int 1)) (cCons (cVar 4) (cNil))))) (
    sIf (cOp2 (oIs false) (cVar 7) (cCst .non)) (sSeq (sIf (cOr (cOp2 oNe (cCall 2 (f__law_told) (cCons (cCst (.int 0)) (cCons (cVar 4) (cNil)))) (cTup (cCons (cCst (.str "undefined")) (cCons (cCst (.str "sides")) (cNil))))) (cOr (cOp2 oNe (cOp2 oIx (cVar 8) (cCst (.int 0))) (cCst (.str "told"))) (cNot (cCall 3 (f__law_is_odd_ring) (cCons (cVar 2) (cCons (cVar 3) (cCons (cOp2 oIx (cVar 8) (cCst (.int 1))) (cNil)))))))) (sRet true (cCst (.bl false))) (sNil)) (
    sDrop (cLm lAppend (cVar 5) (cCons (cOp2 oIx (cVar 8) (cCst (.int 1))) (cNil))))) (sIf (cOr (cOp2 oNe (cCall 2 (f__law_told) (cCons (cCst (.int 0)) (cCons (cVar 4) (cNil)))) (cTup (cCons (cCst (.str "told")) (cCons (cVar 7) (cNil))))) (cOp2 oNe (cVar 8) (cTup (cCons (cCst (.str "undefined")) (cCons (cCst (.str "odd")) (cNil)))))) (sRet true (cCst (.bl false))) (sNil)))))) (
    sSeq (sFor (.one 9) (cIter (cVar 5)) (sSeq (sSet 10 (cLst false (cCons (cVar 9) (cCons (cOp2 oAdd (cSl false (cVar 9) (oSome (cCst (.int 1))) oNone) (cSl false (cVar 9) oNone (oSome (cCst (.int 1))))) (cCons (cRev false (cVar 9)) (cCons (cSl false (cVar 9) oNone (oSome (cNeg (cCst (.int 1))))) (cCons (cOp2 oAdd (cVar 9) (cSl false (cVar 9) oNone (oSome (cCst (.int 1))))) (cCons (cOp2 oAdd (cOp2 oAdd (cVar 9) (cVar 9)) (cVar 9)) (cCons (cBiL false fList (cCons (cVar 9) (cNil))) (cCons (cCst .non) (cCons (cTup (cNil)) (cCons (cTup (cCons (cCst (.int 0)) (cCons (cCst (.int 1)) (cNil)))) (cCons (cSl false (cVar 9) oNone (oSome (cCst (.int 3)))) (cNil)))))))))))))) (
    sFor (.one 11) (cIter (cOp2 oAdd (cVar 10) (cLst false (cCons (cCall 3 (f__law_spoilt) (cCons (cVar 1) (cCons (cVar 9) (cCons (cCst (.int 1)) (cNil))))) (cCons (cCall 3 (f__law_spoilt) (cCons (cVar 1) (cCons (cVar 9) (cCons (cCst (.int 1)) (cNil))))) (cNil)))))) (sIf (cNot (cCall 2 (f__law_is_due) (cCons (cCall 2 (f_odd_ring_holds) (cCons (cVar 4) (cCons (cVar 11) (cNil)))) (cCons (cCall 3 (f__law_is_odd_ring) (cCons (cVar 2) (cCons (cVar 3) (cCons (cVar 11) (cNil))))) (cNil))))) (sRet true (cCst (.bl false))) (sNil))))) (
    sRet true (cCst (.bl true)))))))))
def b_32 (C : Nat → EV.Fn) : SmS := t_law 3 (C 15) (C 27) (C 16) (C 6) (C 20) (C 7) (C 29) (C 22) (C 31) (C 28) (C 30) (C 21) (C 14)
def body : Nat → (Nat → EV.Fn) → EV.Fn
  | 0, C => body0 1 (b_0 C)
  | 1, C => body0 3 (b_1 C)
  | 2, C => body0 2 (b_2 C)
  | 3, C => body0 3 (b_3 C)
  | 4, C => body0 2 (b_4 C)
  | 5, C => body0 4 (b_5 C)
  | 6, C => body0 3 (b_6 C)
  | 7, C => body0 2 (b_7 C)
  | 8, C => body0 1 (b_8 C)
  | 9, C => body0 2 (b_9 C)
  | 10, C => body0 3 (b_10 C)
  | 11, C => body0 6 (b_11 C)
  | 12, C => body0 2 (b_12 C)
  | 13, C => body0 5 (b_13 C)
  | 14, C => body0 4 (b_14 C)
  | 15, C => body0 4 (b_15 C)
  | 16, C => body0 3 (b_16 C)
  | 17, C => body0 2 (b_17 C)
  | 18, C => body0 1 (b_18 C)
  | 19, C => body0 3 (b_19 C)
  | 20, C => body0 2 (b_20 C)
  | 21, C => body0 5 (b_21 C)
  | 22, C => body0 4 (b_22 C)
  | 23, C => body0 4 (b_23 C)
  | 24, C => body0 6 (b_24 C)
  | 25, C => body0 3 (b_25 C)
  | 26, C => body0 8 (b_26 C)
  | 27, C => body0 15 (b_27 C)
  | 28, C => body0 8 (b_28 C)
  | 29, C => body0 2 (b_29 C)
  | 30, C => body0 4 (b_30 C)
  | 31, C => body0 3 (b_31 C)
  | 32, C => body0 12 (b_32 C)
  | _, _ => fun _ _ => .bad
def run : Nat → Nat → EV.Fn
  | 0, _ => fun _ _ => .bad
  | n + 1, j => body j (run n)

end Lk30
set_option maxHeartbeats 4000000
namespace Lk30
open PySem L2 EV Tx
abbrev E12 (sc : D) (n : Nat) (gs : List (List Nat)) (C j : Nat) (x6 x7 x8 x9 x10 x11 : Option EV.W) : Env' := [some (.d sc), some (.c 0), some (.d (nD n)), some (.d (gD gs)), some (.d (colD C n gs)), some (.c j), x6, x7, x8, x9, x10, x11]
structure RgS (n : Nat) (S : Store) (j : Nat) (X : List D) : Prop where
  all : AllL S
  box : BoxAt S 0
  pos : 0 < j
  at_ : S[j]? = some (.lst true X)
  ok : ∀ d ∈ X, SmR n d
theorem RgS.app {n : Nat} {S : Store} {j : Nat} {X : List D} {d : D} (h : RgS n S j X) (hd : SmR n d) : RgS n (S.set j (.lst true (X ++ [d]))) j (X ++ [d]) := by
  have hp := h.pos
  refine ⟨h.all.set j, ?_, hp, get_set h.at_, fun x hx => (List.mem_append.mp hx).elim (h.ok x) fun z => by rw [List.mem_singleton.mp z]; exact hd⟩
  obtain ⟨a, b, e⟩ := h.box
  exact ⟨a, b, by rw [List.getElem?_set_ne (by omega)]; exact e⟩
theorem law_main {C : Nat} {fB fG fT fI fDu fIp fLip fH fTo fTs fLo fS fHo : EV.Fn} (hB : BoxF fB) (hG : GroupsOk fG) (hT : TakeOk fT) (hM : MakeOk fI C) (hDu : DueF fDu) (hIp : IpF fIp C) (hLip : LipF fLip) (hH : ShufOk fH) (hTo : Told3 fTo C) (hTs : TsF fTs) (hLo : LorF fLo) (hS : SpF fS 1) (hHo : OrhF fHo C)
    (ns : List Int) (hl : ns.length ≤ 63) : Ok (body0 12 (t_law C fB fG fT fI fDu fIp fLip fH fTo fTs fLo fS fHo) [.d (.lst (ns.map .int))] []) fun w _ => w = .d (.bl true) := by
  refine ok_body ?_
  unfold t_law
  have hA0 : AllL ([] : Store) := .nil
  refine ok_seq ?_
  fail "ACDEFHIJMNPRUVWXYZabdfgijlmnqrstuvwxz129&()*.:;<=>?[^_À"
  refine hB ns hl 0 (by omega) [] _ hA0 _ fun a b => ?_
  rw [List.length_nil]
  refine sq_nx (ok_seq ?_)
  fail "ACDEFHIJMNPRUVWXYZabdfgijlmnqrstuvwxz129&()*.:;<=>?[^_À"
  have hA1 : AllL ([] ++ [Cell.lst true [.int a, .int b]]) := AllL.one
  have hb1 : BoxAt ([] ++ [Cell.lst true [.int a, .int b]]) 0 := ⟨a, b, rfl⟩
  generalize [] ++ [Cell.lst true [D.int a, .int b]] = S1 at hA1 hb1 ⊢
  refine hB ns hl 1 (by omega) S1 _ hA1 _ fun a b => ?_
  have hR2 : Rn 0 S1 (S1 ++ [Cell.lst true [.int a, .int b]]) := (Rn.refl hA1 hb1).push
  have hk : BoxAt (S1 ++ [Cell.lst true [.int a, .int b]]) S1.length := ⟨a, b, get_top⟩
  have l1 := hb1.lt
  generalize S1 ++ [Cell.lst true [D.int a, .int b]] = S2 at hR2 hk ⊢
  fail "ACDEFHIJMNPRUVWXYZabdfgijlmnqrstuvwxz129&()*.:;<=>?[^_À"
  refine hT.ok (by omega) (by omega) hR2.all hR2.box fun kd S3 hR3 _ k0 k1 => ?_
  have hk3 : BoxAt S3 S1.length := by
    obtain ⟨x, y, e⟩ := hk
    exact ⟨x, y, by rw [hR3.old _ (List.getElem?_eq_some_iff.mp e).1 (by omega)]; exact e⟩
  have hq : ∃ q : Nat, q ≤ 4 ∧ oIx (.lst [.int 1, .int 1, .int 1, .int 4, .int 4, .int 0, .int 3]) (.int kd) = some (nD q) := by
    obtain ⟨r, rfl⟩ := Int.eq_ofNat_of_zero_le k0
    match r, k1 with
    | 0, _ => exact ⟨1, by omega, rfl⟩
    | 1, _ => exact ⟨1, by omega, rfl⟩
    | 2, _ => exact ⟨1, by omega, rfl⟩
    | 3, _ => exact ⟨4, by omega, rfl⟩
    | 4, _ => exact ⟨4, by omega, rfl⟩
    | 5, _ => exact ⟨0, by omega, rfl⟩
    | 6, _ => exact ⟨3, by omega, rfl⟩
  obtain ⟨q, hq4, hq⟩ := hq
  fail "ACDEFHIJMNPRUVWXYZabdfgijlmnqrstuvwxz129&()*.:;<=>?[^_À"
  refine vq hq ?_
  fail "ACDEFHIJMNPRUVWXYZabdfgijlmnqrstuvwxz129&()*.:;<=>?[^_À"
  refine (hG S1.length q 6 hq4 (by omega) (by omega)).ok hR3.all hk3 fun d S4 hR4 _ hd => ?_
  obtain ⟨n, gs, G, rfl⟩ := hd
  have hA4 := hR4.all
  have hb4 : BoxAt S4 0 := by
    obtain ⟨x, y, e⟩ := hR3.box
    exact ⟨x, y, by rw [hR4.old 0 (List.getElem?_eq_some_iff.mp e).1 (by omega)]; exact e⟩
  clear hR2 hR3 hR4 hk hk3 hA1 hb1
  have n1 := G.n1
  have n6 := G.n6
  have g24 := G.len
  fail "ACDEFHIJMNPRUVWXYZabdfgijlmnqrstuvwxz129&()*.:;<=>?[^_À"
  refine vq put_two ?_
  refine sq_nx (ok_seq ?_)
  fail "ACDEFHIJMNPRUVWXYZabdfgijlmnqrstuvwxz129&()*.:;<=>?[^_À"
  refine ok_coll (S1 := S4) hM G ?_
  fail "ACDEFHIJMNPRUVWXYZabdfgijlmnqrstuvwxz129&()*.:;<=>?[^_À"
  refine ⟨rfl, hA4, ?_⟩
  refine sq_nx (ok_seq ?_)
  fail "ACDEFHIJMNPRUVWXYZabdfgijlmnqrstuvwxz129&()*.:;<=>?[^_À"
  refine (hIp n gs G).ok hA4 ?_
  fail "ACDEFHIJMNPRUVWXYZabdfgijlmnqrstuvwxz129&()*.:;<=>?[^_À"
  refine (hLip n gs G).ok hA4 ?_
  fail "ACDEFHIJMNPRUVWXYZabdfgijlmnqrstuvwxz129&()*.:;<=>?[^_À"
  refine (hDu _ _).ok hA4 ?_
  fail "ACDEFHIJMNPRUVWXYZabdfgijlmnqrstuvwxz129&()*.:;<=>?[^_À"
  refine cq_f (by simp) ?_
  fail "ACDEFHIJMNPRUVWXYZabdfgijlmnqrstuvwxz129&()*.:;<=>?[^_À"
  refine ok_seq ?_
  fail "ACDEFHIJMNPRUVWXYZabdfgijlmnqrstuvwxz129&()*.:;<=>?[^_À"
  -- the rings
  refine ok_lcDT (fun S => AllL S ∧ BoxAt S 0) (SmR n) ?_
  fail "ACDEFHIJMNPRUVWXYZabdfgijlmnqrstuvwxz129&()*.:;<=>?[^_À"
  refine ⟨by show (upto 0 4).length ≤ _; decide, ⟨hA4, hb4⟩, fun d hd S' hS' => ?_, fun X S5 hS5 hlen hX => ?_⟩
  · refine vq put_one ?_
    (repeat' first | with_reducible refine ok_sl ?_ | fail "ACDEFHIJMNPRUVWXYZabdfgijlmnqrstuvwxz129&()*.:;<=>?[^_ÀÁ")
    rw [Int.toNat_natCast, upto0]
    refine (hH 0 _ S' _ (by simp; omega) hS'.1 hS'.2).mono fun w S6 h => ?_
    obtain ⟨rfl, hl1, hRs, ys, hc, hp⟩ := h
    obtain ⟨ey, hp2⟩ := perm_n hp
    generalize ys.map toN = os at ey hp2
    subst ey
    have ol : os.length = n := by rw [hp2.length_eq, List.length_range]
    refine ok_none (ok_some ?_)
    fail "ABCDEFHIJMNPRUVWXYZabdfgijlmnqrstuvwxz129&()*.:;<=>?[^_À"
    refine hT.ok (by omega) (by omega) hRs.all hRs.box fun r S7 hR7 _ r0 r1 => ?_
    have hc7 : S7[S'.length]? = some (.lst true (os.map nD)) := by
      have := hS'.2.lt
      rw [hR7.old _ (List.getElem?_eq_some_iff.mp hc).1 (by omega)]
      exact hc
    (repeat' first | refine vw_l (lv_get hc7 ?_) | fail "ABCDEFHIJMNPRUVWXYZabdfgijlmnqrstuvwxz129&()*.:;<=>?[^_ÀÁ")
    refine cq2_l ?_
    rw [if_neg (by decide), cut_to (by omega), ← List.map_take]
    fail "ABCDEFHIJMNPRUVWXYZabdfgijlmnqrstuvwxz129&()*.:;<=>?[^_À"
    refine ⟨⟨hR7.all, hR7.box⟩, _, rfl, os.take (3 + r).toNat, rfl, by rw [List.length_take]; omega, fun m hm => ?_⟩
    exact List.mem_range.mp (hp2.subset ((List.take_sublist _ _).subset hm))
  have hl5 : X.length ≤ 4 := by
    rw [hlen]
    show (upto 0 4).length ≤ _
    decide
  have hR : RgS n (S5 ++ [.lst true X]) S5.length X := ⟨hS5.1.push, hS5.2.app, hS5.2.lt, get_top, hX⟩
  generalize S5 ++ [Cell.lst true X] = S6 at hR ⊢
  generalize S5.length = j at hR ⊢
  clear hS5 hlen hX
  refine sq_nx (ok_mid (fun ρ S' => ∃ X x6 x7 x8, RgS n S' j X ∧ X.length ≤ 5 ∧ ρ = E12 (.lst (ns.map .int)) n gs C j x6 x7 x8 none none none) ?_ fun ρ S7 h => ?_)
  · have hA := hR.all
    fail "ACDEFHIJMNPRUVWXYZabdfgijlmnqrstuvwxz129&()*.:;<=>?[^_À"
    refine (hLip n gs G).ok hA ?_
    fail "ACDEFHIJMNPRUVWXYZabdfgijlmnqrstuvwxz129&()*.:;<=>?[^_À"
    refine ⟨fun h => ?_, fun h => ?_⟩
    · have hp : pairsB gs = false := by simpa using h
      have eS : tdS n gs = undD "pairs" := by
        unfold tdS
        rw [hp]
        rfl
      have eO : tdO n gs = undD "pairs" := by
        unfold tdO
        rw [hp]
        rfl
      have hs := hTo.s n gs G
      have ho := hTo.o n gs G
      rw [eS] at hs
      rw [eO] at ho
      have ne := ne_self (x := undD "pairs") (lay_und (by decide +kernel))
      fail "ABCDEFHIJMNPRUVWXYZabdfgijlmnqrstuvwxz129&()*.:;<=>?[^_À"
      refine hs.ok hA ?_
      fail "ABCDEFHIJMNPRUVWXYZabdfgijlmnqrstuvwxz129&()*.:;<=>?[^_À"
      refine vq ne ?_
      fail "ABCDEFHIJMNPRUVWXYZabdfgijlmnqrstuvwxz129&()*.:;<=>?[^_À"
      refine ho.ok hA ?_
      fail "ABCDEFHIJMNPRUVWXYZabdfgijlmnqrstuvwxz129&()*.:;<=>?[^_À"
      refine vq ne ?_
      fail "ABCDEFHIJMNPRUVWXYZabdfgijlmnqrstuvwxz129&()*.:;<=>?[^_À"
      exact ⟨_, rfl, X, _, _, _, hR, by omega, rfl⟩
    · have hp : pairsB gs = true := by simpa using h
      clear h
      refine ok_seq ?_
      fail "ACDEFHIJMNPRUVWXYZabdfgijlmnqrstuvwxz129&()*.:;<=>?[^_À"
      refine (hTs n gs G).ok hA ?_
      refine sq_nx (ok_seq ?_)
      fail "ACDEFHIJMNPRUVWXYZabdfgijlmnqrstuvwxz129&()*.:;<=>?[^_À"
      refine (hTo.o n gs G).ok hA ?_
      refine sq_nx ?_
      have hs := hTo.s n gs G
      cases hso : sidesO n gs with
      | none =>
        obtain ⟨p, ep⟩ : ∃ p, oddF n gs = some p := by
          cases e : oddF n gs with
          | none =>
            obtain ⟨L, z⟩ := (oddF_sides G).mp e
            rw [hso] at z
            cases z
          | some p => exact ⟨p, rfl⟩
        have od := oddF_some ep
        have pl := odd_lt G od
        have pn := (oddN_iff.mp od).2.2.1
        have p6 := nodup_lt_len pn pl
        have eD : sideD n gs = .non := by
          unfold sideD
          rw [hso]
        have eS : tdS n gs = undD "sides" := by
          unfold tdS
          rw [hp, hso]
          rfl
        have eO : tdO n gs = tldD (tN p) := by
          unfold tdO
          rw [hp, ep]
          rfl
        rw [eS] at hs
        rw [eD, eO]
        have ne := ne_self (x := undD "sides") (lay_und (by decide +kernel))
        have ne2 := ne_self (x := .str "told") (lay_str (by decide +kernel))
        have ix0 : oIx (tldD (tN p)) (.int 0) = some (.str "told") := o_ixT (k := 0) rfl rfl
        have ix1 : oIx (tldD (tN p)) (.int 1) = some (tN p) := o_ixT (k := 1) rfl rfl
        have hlo := hLo n gs (tN p) G (fine_n p (by omega) fun _ _ => trivial)
        rw [oddB_n hp pl, od] at hlo
        fail "ACDEFHIJMNPRUVWXYZabdfgijlmnqrstuvwxz129&()*.:;<=>?[^_À"
        refine vq (show oIs false .non .non = some (.bl true) from rfl) ?_
        refine tq (cq_t rfl (ok_seq ?_))
        fail "ACDEFHIJMNPRUVWXYZabdfgijlmnqrstuvwxz129&()*.:;<=>?[^_À"
        refine hs.ok hA ?_
        fail "ACDEFHIJMNPRUVWXYZabdfgijlmnqrstuvwxz129&()*.:;<=>?[^_À"
        refine vq ne ?_
        (repeat' first | refine vq ix0 ?_ | refine vq ne2 ?_ | fail "ACDEFHIJMNPRUVWXYZabdfgijlmnqrstuvwxz129&()*.:;<=>?[^_ÀÁ")
        refine vq ix1 ?_
        fail "ACDEFHIJMNPRUVWXYZabdfgijlmnqrstuvwxz129&()*.:;<=>?[^_À"
        refine hlo.ok hA ?_
        fail "ACDEFHIJMNPRUVWXYZabdfgijlmnqrstuvwxz129&()*.:;<=>?[^_À"
        refine cq_f rfl ?_
        fail "ACDEFHIJMNPRUVWXYZabdfgijlmnqrstuvwxz129&()*.:;<=>?[^_À"
        have hat := hR.at_
        (repeat' first | refine lq_l (lt_get hat ?_) | refine vq ix1 ?_ | fail "ABCDEFHIJMNPRUVWXYZabdfgijlmnqrstuvwxz129&()*.:;<=>?[^_ÀÁ")
        refine vp (l_app (xs := X) (by omega)) ?_
        fail "ABCDEFHIJMNPRUVWXYZabdfgijlmnqrstuvwxz129&()*.:;<=>?[^_À"
        exact ⟨_, rfl, X ++ [tN p], _, _, _, hR.app ⟨p, rfl, by omega, pl⟩, by rw [List.length_append, List.length_singleton]; omega, rfl⟩
      | some L =>
        have ep : oddF n gs = none := (oddF_sides G).mpr ⟨L, hso⟩
        have eD : sideD n gs = tN L := by
          unfold sideD
          rw [hso]
        have eS : tdS n gs = tldD (tN L) := by
          unfold tdS
          rw [hp, hso]
          rfl
        have eO : tdO n gs = undD "odd" := by
          unfold tdO
          rw [hp, ep]
          rfl
        rw [eS] at hs
        rw [eD, eO]
        have ne := ne_self (x := tldD (tN L)) (lay_tld (lay_tN 62 L))
        have ne2 := ne_self (x := undD "odd") (lay_und (by decide +kernel))
        fail "ABCDEFHIJMNPRUVWXYZabdfgijlmnqrstuvwxz129&()*.:;<=>?[^_À"
        refine vq (show oIs false (tN L) .non = some (.bl false) from rfl) ?_
        refine tq (cq_f rfl ?_)
        fail "ABCDEFHIJMNPRUVWXYZabdfgijlmnqrstuvwxz129&()*.:;<=>?[^_À"
        refine hs.ok hA ?_
        fail "ABCDEFHIJMNPRUVWXYZabdfgijlmnqrstuvwxz129&()*.:;<=>?[^_À"
        refine vq ne ?_
        fail "ABCDEFHIJMNPRUVWXYZabdfgijlmnqrstuvwxz129&()*.:;<=>?[^_À"
        refine vq ne2 ?_
        fail "ABCDEFHIJMNPRUVWXYZabdfgijlmnqrstuvwxz129&()*.:;<=>?[^_À"
        exact ⟨_, rfl, X, _, _, _, hR, by omega, rfl⟩
  obtain ⟨X, x6, x7, x8, hR, hl5, rfl⟩ := h
  have hat := hR.at_
  refine ok_seq ?_
  (repeat' first | refine fz_c hat ?_ | fail "ACDEFHIJMNPRUVWXYZabdfgijlmnqrstuvwxz129&()*.:;<=>?[^_ÀÁ")
  have hAf : AllL (S7.set j (.lst false X)) := hR.all.set j
  have hbf : BoxAt (S7.set j (.lst false X)) 0 := by
    obtain ⟨a, b, e⟩ := hR.box
    have := hR.pos
    exact ⟨a, b, by rw [List.getElem?_set_ne (by omega)]; exact e⟩
  have hok := hR.ok
  generalize S7.set j (Cell.lst false X) = S8 at hAf hbf ⊢
  clear hR hat
  refine ok_forL (fun _ ρ S' => AllL S' ∧ BoxAt S' 0 ∧ ∃ x9 x10 x11, ρ = E12 (.lst (ns.map .int)) n gs C j x6 x7 x8 x9 x10 x11) (done := []) ⟨hAf, hbf, none, none, none, rfl⟩ (fun pre d post ρ S' e hI => ?_) fun ρ S' hI => ?_
  · obtain ⟨hA, hb, x9, x10, x11, rfl⟩ := hI
    obtain ⟨p, rfl, p6, pl⟩ := hok d (by rw [e]; simp)
    have i1 : IntD 6 (p.map nD) := IntD.nn p6
    have hfi : FineI 6 1 (tN p) := fine_n p p6 fun m hm => iTxt_small (by have := pl m hm; omega)
    have l1 := i1.1
    have c1 := cutLe (p.map nD) (some 1) none
    have c2 := cutLe (p.map nD) none (some 1)
    refine vq put_one (ok_seq ?_)
    have hfl : fList [tN p] = some (p.map nD) := rfl
    have ea : oAdd (tN p) (.tup (cutD (p.map nD) none (some 1))) = some (.tup (p.map nD ++ cutD (p.map nD) none (some 1))) := o_addT (by omega)
    have eb : oAdd (tN p) (tN p) = some (.tup (p.map nD ++ p.map nD)) := o_addT (by omega)
    have ec : oAdd (.tup (p.map nD ++ p.map nD)) (tN p) = some (.tup (p.map nD ++ p.map nD ++ p.map nD)) := o_addT (by rw [List.length_append]; omega)
    (repeat' first | with_reducible refine ok_revT ?_ | with_reducible refine ok_slT ?_ | with_reducible refine ok_none ?_ | with_reducible refine ok_some ?_ | with_reducible refine t2N ?_ | refine vq ea ?_ | refine vq eb ?_ | refine vq ec ?_ | refine vq hfl ?_ | fail "ACDEFHIJMNPRUVWXYZabdfgijlmnqrstuvwxz129&()*.:;<=>?[^_ÀÁ")
    generalize hV : [tN p, _, _, _, _, _, _, _, _, _, _] = V
    have hVo : ∀ d ∈ V, FineO 60 40 d := by
      rw [← hV]
      intro d hd
      simp only [List.mem_cons, List.not_mem_nil, or_false] at hd
      rcases hd with rfl | rfl | rfl | rfl | rfl | rfl | rfl | rfl | rfl | rfl | rfl
      · exact i1.fine (by omega) 39
      · exact ((i1.cut _ _).app (i1.cut _ _)).fine (by omega) 39
      · exact i1.rev.fine (by omega) 39
      · exact (i1.cut _ _).fine (by omega) 39
      · exact (i1.app (i1.cut _ _)).fine (by omega) 39
      · exact ((i1.app i1).app i1).fine (by omega) 39
      · exact fine_lst (by omega) fun x hx => by
          obtain ⟨i, rfl⟩ := i1.2 x hx
          exact fine_int trivial
      · exact fine_non
      · exact fine_tup (Nat.zero_le _) fun _ z => (nomatch z)
      · exact fine_n [0, 1] (by simp) fun _ _ => trivial
      · exact (i1.cut _ _).fine (by omega) 39
    have hVl : V.length = 11 := by
      rw [← hV]
      rfl
    clear hV
    fail "ABCDEFHIJMNPRUVWXYZabdfgijlmnqrstuvwxz129&()*.:;<=>?[^_À"
    refine Bx.ok (hS 0 6 _ _ (by omega) hfi) hA hb fun d1 Sa hRa _ hd1 => ?_
    fail "ABCDEFHIJMNPRUVWXYZabdfgijlmnqrstuvwxz129&()*.:;<=>?[^_À"
    refine Bx.ok (hS 0 6 _ _ (by omega) hfi) hRa.all hRa.box fun d2 Sb hRb _ hd2 => ?_
    fail "ABCDEFHIJMNPRUVWXYZabdfgijlmnqrstuvwxz129&()*.:;<=>?[^_À"
    refine vq (o_addL (by rw [hVl]; show 11 + 2 ≤ 16777216; omega)) ?_
    fail "ABCDEFHIJMNPRUVWXYZabdfgijlmnqrstuvwxz129&()*.:;<=>?[^_À"
    have hA := hRb.all
    have hb := hRb.box
    clear hRa hRb
    have hVf : ∀ d ∈ V ++ [d1, d2], FineO 60 40 d := fun d hd => by
      rcases List.mem_append.mp hd with z | z
      · exact hVo d z
      simp only [List.mem_cons, List.not_mem_nil, or_false] at z
      rcases z with rfl | rfl
      · exact hd1.up (by omega) (by omega)
      · exact hd2.up (by omega) (by omega)
    refine ok_forL (fun _ ρ S2 => S2 = Sb ∧ ∃ x11, ρ = E12 (.lst (ns.map .int)) n gs C j x6 x7 x8 (some (.d (tN p))) (some (.d (.lst V))) x11) (done := []) ⟨rfl, _, rfl⟩ (fun pre d post ρ S2 e2 hI => ?_) fun ρ S2 hI => ?_
    · obtain ⟨rfl, x11, rfl⟩ := hI
      have hd := hVf d (by rw [e2]; simp)
      fail "ABCDEFHIJMNPRUVWXYZabdfgijlmnqrstuvwxz129&()*.:;<=>?[^_À"
      refine (hHo n gs d G hd).ok hA ?_
      fail "ABCDEFHIJMNPRUVWXYZabdfgijlmnqrstuvwxz129&()*.:;<=>?[^_À"
      refine (hLo n gs d G hd).ok hA ?_
      fail "ABCDEFHIJMNPRUVWXYZabdfgijlmnqrstuvwxz129&()*.:;<=>?[^_À"
      refine (hDu _ _).ok hA ?_
      fail "ABCDEFHIJMNPRUVWXYZabdfgijlmnqrstuvwxz129&()*.:;<=>?[^_À"
      refine cq_f (by simp) ?_
      fail "ABCDEFHIJMNPRUVWXYZabdfgijlmnqrstuvwxz129&()*.:;<=>?[^_À"
      exact ⟨rfl, _, rfl⟩
    · obtain ⟨rfl, x11, rfl⟩ := hI
      exact ⟨hA, hb, _, _, _, rfl⟩
  · obtain ⟨hA, hb, x9, x10, x11, rfl⟩ := hI
    fail "ABCDEFHIJMNPRUVWXYZabdfgijlmnqrstuvwxz129&()*.:;<=>?[^_À"
    rfl
end Lk30
namespace Lk30
open PySem L2 EV
theorem suc {n : Nat} (h : 1 ≤ n) : ∃ m, n = m + 1 := ⟨n - 1, by omega⟩
theorem ftC : FtOk FT 3 := ⟨by decide +kernel, by decide +kernel⟩
theorem e_0 (m : Nat) : run (m + 1) 0 = body0 1 (Tx.t_is_integer ICS) := rfl
theorem e_1 (m : Nat) : run (m + 1) 1 = body0 3 (Tx.t_is_within (run m 0)) := rfl
theorem e_2 (m : Nat) : run (m + 1) 2 = body0 2 (Tx.t_is_ascending) := rfl
theorem e_3 (m : Nat) : run (m + 1) 3 = body0 3 (Tx.t_is_rising ICS (run m 1) (run m 2)) := rfl
theorem e_4 (m : Nat) : run (m + 1) 4 = body0 2 (Tx.t_is_group (run m 3)) := rfl
theorem e_5 (m : Nat) : run (m + 1) 5 = body0 4 (Tx.t_are_groups ICS (run m 4)) := rfl
theorem e_6 (m : Nat) : run (m + 1) 6 = body0 3 (Tx.t_Collection_init FT 0 1 (run m 1) (run m 5)) := rfl
theorem e_7 (m : Nat) : run (m + 1) 7 = body0 2 (Tx.t_is_pairs FT) := rfl
theorem e_8 (m : Nat) : run (m + 1) 8 = body0 1 (Tx.t_require_pairs 2 (run m 7)) := rfl
theorem e_9 (m : Nat) : run (m + 1) 9 = body0 2 (Tx.t_pair_of) := rfl
theorem e_10 (m : Nat) : run (m + 1) 10 = body0 3 (Tx.t_partners FT (run m 9)) := rfl
theorem e_11 (m : Nat) : run (m + 1) 11 = body0 6 (Tx.t_found_sides FT (run m 10)) := rfl
theorem e_12 (m : Nat) : run (m + 1) 12 = body0 2 (Tx.t_sides 2 (run m 8) (run m 11)) := rfl
theorem e_13 (m : Nat) : run (m + 1) 13 = body0 5 (Tx.t_odd_ring FT 2 (run m 8) (run m 14) (run m 10)) := rfl
theorem e_14 (m : Nat) : run (m + 1) 14 = body0 4 (Tx.t_odd_ring_holds ICS FT (run m 7) (run m 1) (run m 9)) := rfl
theorem e_15 (m : Nat) : run (m + 1) 15 = body0 4 (Tx.t__law_box) := rfl
theorem e_16 (m : Nat) : run (m + 1) 16 = body0 3 (Tx.t__law_take) := rfl
theorem e_17 (m : Nat) : run (m + 1) 17 = body0 2 (Tx.t__law_pick (run m 16)) := rfl
theorem e_18 (m : Nat) : run (m + 1) 18 = body0 1 (Tx.t__law_whole ICS) := rfl
theorem e_19 (m : Nat) : run (m + 1) 19 = body0 3 (Tx.t__law_is_numbers ICS (run m 18)) := rfl
theorem e_20 (m : Nat) : run (m + 1) 20 = body0 2 (Tx.t__law_is_due) := rfl
theorem e_21 (m : Nat) : run (m + 1) 21 = body0 5 (Tx.t__law_spoilt ICS (run m 16) (run m 21) (run m 17) (run m 18)) := rfl
theorem e_22 (m : Nat) : run (m + 1) 22 = body0 4 (Tx.t__law_shuffled (run m 16)) := rfl
theorem e_23 (m : Nat) : run (m + 1) 23 = body0 4 (Tx.t__law_all_groups) := rfl
theorem e_24 (m : Nat) : run (m + 1) 24 = body0 6 (Tx.t__law_drawn_tree (run m 22) (run m 16)) := rfl
theorem e_25 (m : Nat) : run (m + 1) 25 = body0 3 (Tx.t__law_hangs) := rfl
theorem e_26 (m : Nat) : run (m + 1) 26 = body0 8 (Tx.t__law_is_forest) := rfl
theorem e_27 (m : Nat) : run (m + 1) 27 = body0 15 (Tx.t__law_groups (run m 16) (run m 23) (run m 22) (run m 24) (run m 25) (run m 26)) := rfl
theorem e_28 (m : Nat) : run (m + 1) 28 = body0 8 (Tx.t__law_two_sides) := rfl
theorem e_29 (m : Nat) : run (m + 1) 29 = body0 2 (Tx.t__law_is_pairs) := rfl
theorem e_30 (m : Nat) : run (m + 1) 30 = body0 4 (Tx.t__law_is_odd_ring (run m 29) (run m 19)) := rfl
theorem e_31 (m : Nat) : run (m + 1) 31 = body0 3 (Tx.t__law_told_v4 [0, 1, 2] 2 (run m 12) (run m 13)) := rfl
theorem e_32 (m : Nat) : run (m + 1) 32 = body0 12 (t_law 3 (run m 15) (run m 27) (run m 16) (run m 6) (run m 20) (run m 7) (run m 29) (run m 22) (run m 31) (run m 28) (run m 30) (run m 21) (run m 14)) := rfl
theorem i_15 {n : Nat} (h : 1 ≤ n) : BoxF (run n 15) := by
  obtain ⟨m, rfl⟩ := suc (n := n) (by omega)
  rw [e_15]
  exact fun ns hl k hk S ρ hS Q q => box_ok hl hk hS q
theorem i_16 {n : Nat} (h : 1 ≤ n) : TakeOk (run n 16) := by
  obtain ⟨m, rfl⟩ := suc (n := n) (by omega)
  rw [e_16]
  exact take_ok
theorem i_23 {n : Nat} (h : 1 ≤ n) : AllGOk (run n 23) := by
  obtain ⟨m, rfl⟩ := suc (n := n) (by omega)
  rw [e_23]
  exact allGroups_ok
theorem i_22 {n : Nat} (h : 2 ≤ n) : ShufOk (run n 22) := by
  obtain ⟨m, rfl⟩ := suc (n := n) (by omega)
  rw [e_22]
  exact shuf_ok (i_16 (n := m) (by omega))
theorem i_24 {n : Nat} (h : 3 ≤ n) : TreeOk (run n 24) := by
  obtain ⟨m, rfl⟩ := suc (n := n) (by omega)
  rw [e_24]
  exact tree_ok (i_22 (n := m) (by omega)) (i_16 (n := m) (by omega))
theorem i_25 {n : Nat} (h : 1 ≤ n) : HangOk (run n 25) := by
  obtain ⟨m, rfl⟩ := suc (n := n) (by omega)
  rw [e_25]
  exact hangs_ok
theorem i_26 {n : Nat} (h : 1 ≤ n) : ForOk (run n 26) := by
  obtain ⟨m, rfl⟩ := suc (n := n) (by omega)
  rw [e_26]
  exact forest_ok
theorem i_27 {n : Nat} (h : 4 ≤ n) : GroupsOk (run n 27) := by
  obtain ⟨m, rfl⟩ := suc (n := n) (by omega)
  rw [e_27]
  exact groups_main (i_16 (n := m) (by omega)) (i_23 (n := m) (by omega)) (i_22 (n := m) (by omega)) (i_24 (n := m) (by omega)) (i_25 (n := m) (by omega)) (i_26 (n := m) (by omega))
theorem i_0 {n : Nat} (h : 1 ≤ n) : WholeOk (run n 0) ICS := by
  obtain ⟨m, rfl⟩ := suc (n := n) (by omega)
  rw [e_0]
  exact fun x hx => integer_ok hx
theorem i_1 {n : Nat} (h : 2 ≤ n) : WinOk (run n 1) ICS := by
  obtain ⟨m, rfl⟩ := suc (n := n) (by omega)
  rw [e_1]
  exact fun x a b hx => within_ok ((i_0 (n := m) (by omega)) x hx)
theorem i_2 {n : Nat} (h : 1 ≤ n) : AscOk (run n 2) := by
  obtain ⟨m, rfl⟩ := suc (n := n) (by omega)
  rw [e_2]
  exact fun ps hl => ascending_ok hl
theorem i_3 {n : Nat} (h : 3 ≤ n) : RisOk (run n 3) := by
  obtain ⟨m, rfl⟩ := suc (n := n) (by omega)
  rw [e_3]
  exact fun v k hv hk => rising_ok (i_1 (n := m) (by omega)) (i_2 (n := m) (by omega)) hv hk
theorem i_4 {n : Nat} (h : 4 ≤ n) : GrpOk (run n 4) := by
  obtain ⟨m, rfl⟩ := suc (n := n) (by omega)
  rw [e_4]
  exact fun k g h1 h2 h3 h4 h5 => group_ok (i_3 (n := m) (by omega)) h1 h2 h3 h4 h5
theorem i_5 {n : Nat} (h : 5 ≤ n) : AreOk (run n 5) := by
  obtain ⟨m, rfl⟩ := suc (n := n) (by omega)
  rw [e_5]
  exact fun k gs G => groups_ok (i_4 (n := m) (by omega)) G
theorem i_6 {n : Nat} (h : 6 ≤ n) : MakeOk (run n 6) 3 := by
  obtain ⟨m, rfl⟩ := suc (n := n) (by omega)
  rw [e_6]
  exact fun k gs S G hS => init_ok ftC (i_1 (n := m) (by omega)) (i_5 (n := m) (by omega)) G hS
theorem i_20 {n : Nat} (h : 1 ≤ n) : DueF (run n 20) := by
  obtain ⟨m, rfl⟩ := suc (n := n) (by omega)
  rw [e_20]
  exact fun b c => due_ok b c
theorem i_7 {n : Nat} (h : 1 ≤ n) : IpF (run n 7) 3 := by
  obtain ⟨m, rfl⟩ := suc (n := n) (by omega)
  rw [e_7]
  exact ip_ok ftC
theorem i_29 {n : Nat} (h : 1 ≤ n) : LipF (run n 29) := by
  obtain ⟨m, rfl⟩ := suc (n := n) (by omega)
  rw [e_29]
  exact lip_ok
theorem i_8 {n : Nat} (h : 2 ≤ n) : RpF (run n 8) 3 := by
  obtain ⟨m, rfl⟩ := suc (n := n) (by omega)
  rw [e_8]
  exact rp_ok (i_7 (n := m) (by omega))
theorem i_9 {n : Nat} (h : 1 ≤ n) : PoF (run n 9) := by
  obtain ⟨m, rfl⟩ := suc (n := n) (by omega)
  rw [e_9]
  exact po_ok
theorem i_10 {n : Nat} (h : 2 ≤ n) : PaF (run n 10) 3 := by
  obtain ⟨m, rfl⟩ := suc (n := n) (by omega)
  rw [e_10]
  exact pa_ok ftC (i_9 (n := m) (by omega))
theorem i_11 {n : Nat} (h : 3 ≤ n) : FsF (run n 11) 3 := by
  obtain ⟨m, rfl⟩ := suc (n := n) (by omega)
  rw [e_11]
  exact fs_ok ftC (i_10 (n := m) (by omega))
theorem i_12 {n : Nat} (h : 4 ≤ n) : SidF (run n 12) 3 := by
  obtain ⟨m, rfl⟩ := suc (n := n) (by omega)
  rw [e_12]
  exact sid_ok (i_8 (n := m) (by omega)) (i_11 (n := m) (by omega))
theorem i_8_x {n : Nat} (h : 2 ≤ n) : RpX (run n 8) 3 2 := by
  obtain ⟨m, rfl⟩ := suc (n := n) (by omega)
  rw [e_8]
  exact rp_x (i_7 (n := m) (by omega))
theorem i_12_p {n : Nat} (h : 3 ≤ n) : SidP (run n 12) 3 2 := by
  obtain ⟨m, rfl⟩ := suc (n := n) (by omega)
  rw [e_12]
  exact sid_p (i_8_x (n := m) (by omega))
theorem i_12_n {n : Nat} (h : 4 ≤ n) : SidN (run n 12) 3 2 := by
  obtain ⟨m, rfl⟩ := suc (n := n) (by omega)
  rw [e_12]
  exact sid_n (i_8 (n := m) (by omega)) (i_11 (n := m) (by omega))
theorem i_14 {n : Nat} (h : 3 ≤ n) : OrhF (run n 14) 3 := by
  obtain ⟨m, rfl⟩ := suc (n := n) (by omega)
  rw [e_14]
  exact orh_ok ftC (i_7 (n := m) (by omega)) (i_1 (n := m) (by omega)) (i_9 (n := m) (by omega))
theorem i_13 {n : Nat} (h : 4 ≤ n) : OrF (run n 13) 3 := by
  obtain ⟨m, rfl⟩ := suc (n := n) (by omega)
  rw [e_13]
  exact or_ok ftC (i_8 (n := m) (by omega)) (i_14 (n := m) (by omega)) (i_10 (n := m) (by omega))
theorem i_13_p {n : Nat} (h : 3 ≤ n) : SidP (run n 13) 3 2 := by
  obtain ⟨m, rfl⟩ := suc (n := n) (by omega)
  rw [e_13]
  exact or_p (i_8_x (n := m) (by omega))
theorem i_13_n {n : Nat} (h : 4 ≤ n) : OrN (run n 13) 3 2 := by
  obtain ⟨m, rfl⟩ := suc (n := n) (by omega)
  rw [e_13]
  exact or_n ftC (i_8 (n := m) (by omega)) (i_14 (n := m) (by omega)) (i_10 (n := m) (by omega))
theorem i_31_3 {n : Nat} (h : 5 ≤ n) : Told3 (run n 31) 3 := by
  obtain ⟨m, rfl⟩ := suc (n := n) (by omega)
  rw [e_31]
  exact told3 (by decide) (i_12 (n := m) (by omega)) (i_12_p (n := m) (by omega)) (i_12_n (n := m) (by omega)) (i_13 (n := m) (by omega)) (i_13_p (n := m) (by omega)) (i_13_n (n := m) (by omega))
theorem i_28 {n : Nat} (h : 1 ≤ n) : TsF (run n 28) := by
  obtain ⟨m, rfl⟩ := suc (n := n) (by omega)
  rw [e_28]
  exact ts_ok
theorem i_18 {n : Nat} (h : 1 ≤ n) : WholeOk (run n 18) ICS := by
  obtain ⟨m, rfl⟩ := suc (n := n) (by omega)
  rw [e_18]
  exact fun x hx => whole_ok hx
theorem i_19 {n : Nat} (h : 2 ≤ n) : NumOk (run n 19) := by
  obtain ⟨m, rfl⟩ := suc (n := n) (by omega)
  rw [e_19]
  exact fun v k hv => numbers_ok (i_18 (n := m) (by omega)) hv
theorem i_30 {n : Nat} (h : 3 ≤ n) : LorF (run n 30) := by
  obtain ⟨m, rfl⟩ := suc (n := n) (by omega)
  rw [e_30]
  exact lor_ok (i_29 (n := m) (by omega)) (i_19 (n := m) (by omega))
theorem i_17 {n : Nat} (h : 2 ≤ n) : PickOk (run n 17) := by
  obtain ⟨m, rfl⟩ := suc (n := n) (by omega)
  rw [e_17]
  exact fun k xs h0 hl => ⟨pickL_ok (i_16 (n := m) (by omega)) h0 hl, pickT_ok (i_16 (n := m) (by omega)) h0 hl⟩
theorem i_21_r : ∀ (h n : Nat), h ≤ 60 → h + 3 ≤ n → SpF (run n 21) h
  | h, n, hh, hn => by
    obtain ⟨m, rfl⟩ := suc (n := n) (by omega)
    rw [e_21]
    refine sp_ok hh (i_16 (n := m) (by omega)) (i_17 (n := m) (by omega)) (i_18 (n := m) (by omega)) fun k e => ?_
    subst e
    exact i_21_r k m (by omega) (by omega)
theorem i_21 {n : Nat} (h : 4 ≤ n) : SpF (run n 21) 1 := i_21_r 1 n (by omega) (by omega)
theorem hm_any {n : Nat} (h : 7 ≤ n) (ns : List Int) (hl : ns.length ≤ 63) : ∃ S, run n 32 [.d (.lst (ns.map D.int))] [] = .ok (.d (.bl true)) S := by
  obtain ⟨m, rfl⟩ := suc (n := n) (by omega)
  rw [e_32]
  obtain ⟨w, S, e, rfl⟩ := (law_main (i_15 (n := m) (by omega)) (i_27 (n := m) (by omega)) (i_16 (n := m) (by omega)) (i_6 (n := m) (by omega)) (i_20 (n := m) (by omega)) (i_7 (n := m) (by omega)) (i_29 (n := m) (by omega)) (i_22 (n := m) (by omega)) (i_31_3 (n := m) (by omega)) (i_28 (n := m) (by omega)) (i_30 (n := m) (by omega)) (i_21 (n := m) (by omega)) (i_14 (n := m) (by omega)) ns hl).get
  exact ⟨S, e⟩
theorem hm (ns : List Int) (hl : ns.length ≤ 63) : ∃ S, run 100 32 [.d (.lst (ns.map D.int))] [] = .ok (.d (.bl true)) S := hm_any (by omega) ns hl
end Lk30
set_option maxHeartbeats 0
namespace Lk30
open PySem L2 EV
section
variable {P : Program} {w : World} {mg : Str → Option Value} {base h : Heap} {K : PySem.W.Frag}
def clsN (c : Nat) : Str := match cds[c]? with
  | some d => d.name
  | none => ""
def fadN (K : PySem.W.Frag) (n : Nat) : Addr := match fn[n]? with
  | some d => He.fAd K d.at_
  | none => 0
abbrev GG (K : PySem.W.Frag) : EV.SP := { K := K, cls := fun c => He.ga K (clsN c), fad := fadN K, T := (TT K).map (fun p => (p.1, fun _ _ => p.2)), pc := fun _ _ _ _ => True, pcS := fun _ _ => trivial, ps := fun _ => True }
theorem cmore (c : He.SaysX fa fn [] tf exK w h K) : clsEx cds K = true := (He.ba c.more).1
theorem cap (c : He.SaysX fa fn [] tf exK w h K) : apartB ((TT K).map (·.1)) = true := (He.ba c.more).2
theorem clsok (c : He.SaysX fa fn [] tf exK w h K) : ClsOk (GG K) FT := ⟨fun i f hf => by
  unfold FT at hf
  split at hf
  · exact ⟨(ClsD.insOk (clsEx_at (cmore c) (i := 3) (d := cd_3) rfl) rfl).1.cl, (ClsD.insOk (clsEx_at (cmore c) (i := 3) (d := cd_3) rfl) rfl).2.2.1 f hf⟩
  · cases hf⟩
theorem hG : ∀ i d, cds[i]? = some d → (GG K).cls i = He.ga (GG K).K d.name := fun i d h => by
  show He.ga K (clsN i) = _
  unfold clsN
  rw [h]
theorem sc_0 : FnScope ["value"] ["value"] (defScope s_0) := ⟨rfl, rfl, rfl, by decide +kernel, rfl, by decide +kernel, by decide +kernel⟩
theorem bind_0 {fd : FuncData} (F : FunD K d_0.name d_0.qual d_0.params d_0.body d_0.scope (d_0.dvs K) (d_0.kws K) (He.fAd K d_0.at_) fd) : Binds K fd ["value"] [] := FunD.bindsN (ps := ["value"]) F fun _ _ _ _ _ _ us hl => match us, hl with
  | [_], _ => rfl
theorem sc_1 : FnScope ["value", "low", "high"] ["value", "low", "high"] (defScope s_1) := ⟨rfl, rfl, rfl, by decide +kernel, rfl, by decide +kernel, by decide +kernel⟩
theorem bind_1 {fd : FuncData} (F : FunD K d_1.name d_1.qual d_1.params d_1.body d_1.scope (d_1.dvs K) (d_1.kws K) (He.fAd K d_1.at_) fd) : Binds K fd ["value", "low", "high"] [] := FunD.bindsN (ps := ["value", "low", "high"]) F fun _ _ _ _ _ _ us hl => match us, hl with
  | [_, _, _], _ => rfl
theorem sc_2 : FnScope ["value", "at"] ["value"] (defScope s_2) := ⟨rfl, rfl, rfl, by decide +kernel, rfl, by decide +kernel, by decide +kernel⟩
theorem bind_2 {fd : FuncData} (F : FunD K d_2.name d_2.qual d_2.params d_2.body d_2.scope (d_2.dvs K) (d_2.kws K) (He.fAd K d_2.at_) fd) : Binds K fd ["value"] [] := FunD.bindsN (ps := ["value"]) F fun _ _ _ _ _ _ us hl => match us, hl with
  | [_], _ => rfl
theorem sc_3 : FnScope ["value", "high", "part"] ["value", "high"] (defScope s_3) := ⟨rfl, rfl, rfl, by decide +kernel, rfl, by decide +kernel, by decide +kernel⟩
theorem bind_3 {fd : FuncData} (F : FunD K d_3.name d_3.qual d_3.params d_3.body d_3.scope (d_3.dvs K) (d_3.kws K) (He.fAd K d_3.at_) fd) : Binds K fd ["value", "high"] [] := FunD.bindsN (ps := ["value", "high"]) F fun _ _ _ _ _ _ us hl => match us, hl with
  | [_, _], _ => rfl
theorem sc_4 : FnScope ["value", "n"] ["value", "n"] (defScope s_4) := ⟨rfl, rfl, rfl, by decide +kernel, rfl, by decide +kernel, by decide +kernel⟩
theorem bind_4 {fd : FuncData} (F : FunD K d_4.name d_4.qual d_4.params d_4.body d_4.scope (d_4.dvs K) (d_4.kws K) (He.fAd K d_4.at_) fd) : Binds K fd ["value", "n"] [] := FunD.bindsN (ps := ["value", "n"]) F fun _ _ _ _ _ _ us hl => match us, hl with
  | [_, _], _ => rfl
theorem sc_5 : FnScope ["value", "n", "group", "member"] ["value", "n"] (defScope s_5) := ⟨rfl, rfl, rfl, by decide +kernel, rfl, by decide +kernel, by decide +kernel⟩
theorem bind_5 {fd : FuncData} (F : FunD K d_5.name d_5.qual d_5.params d_5.body d_5.scope (d_5.dvs K) (d_5.kws K) (He.fAd K d_5.at_) fd) : Binds K fd ["value", "n"] [] := FunD.bindsN (ps := ["value", "n"]) F fun _ _ _ _ _ _ us hl => match us, hl with
  | [_, _], _ => rfl
theorem sc_6 : FnScope ["self", "n", "groups"] ["self", "n", "groups"] (defScope s_6) := ⟨rfl, rfl, rfl, by decide +kernel, rfl, by decide +kernel, by decide +kernel⟩
theorem bind_6 {fd : FuncData} (F : FunD K d_6.name d_6.qual d_6.params d_6.body d_6.scope (d_6.dvs K) (d_6.kws K) (He.fAd K d_6.at_) fd) : Binds K fd ["self", "n", "groups"] [] := FunD.bindsN (ps := ["self", "n", "groups"]) F fun _ _ _ _ _ _ us hl => match us, hl with
  | [_, _, _], _ => rfl
theorem sc_7 : FnScope ["collection", "group"] ["collection"] (defScope s_7) := ⟨rfl, rfl, rfl, by decide +kernel, rfl, by decide +kernel, by decide +kernel⟩
theorem bind_7 {fd : FuncData} (F : FunD K d_7.name d_7.qual d_7.params d_7.body d_7.scope (d_7.dvs K) (d_7.kws K) (He.fAd K d_7.at_) fd) : Binds K fd ["collection"] [] := FunD.bindsN (ps := ["collection"]) F fun _ _ _ _ _ _ us hl => match us, hl with
  | [_], _ => rfl
theorem sc_8 : FnScope ["collection"] ["collection"] (defScope s_8) := ⟨rfl, rfl, rfl, by decide +kernel, rfl, by decide +kernel, by decide +kernel⟩
theorem bind_8 {fd : FuncData} (F : FunD K d_8.name d_8.qual d_8.params d_8.body d_8.scope (d_8.dvs K) (d_8.kws K) (He.fAd K d_8.at_) fd) : Binds K fd ["collection"] [] := FunD.bindsN (ps := ["collection"]) F fun _ _ _ _ _ _ us hl => match us, hl with
  | [_], _ => rfl
theorem sc_9 : FnScope ["one", "other"] ["one", "other"] (defScope s_9) := ⟨rfl, rfl, rfl, by decide +kernel, rfl, by decide +kernel, by decide +kernel⟩
theorem bind_9 {fd : FuncData} (F : FunD K d_9.name d_9.qual d_9.params d_9.body d_9.scope (d_9.dvs K) (d_9.kws K) (He.fAd K d_9.at_) fd) : Binds K fd ["one", "other"] [] := FunD.bindsN (ps := ["one", "other"]) F fun _ _ _ _ _ _ us hl => match us, hl with
  | [_, _], _ => rfl
theorem sc_10 : FnScope ["collection", "member", "other"] ["collection", "member"] (defScope s_10) := ⟨rfl, rfl, rfl, by decide +kernel, rfl, by decide +kernel, by decide +kernel⟩
theorem bind_10 {fd : FuncData} (F : FunD K d_10.name d_10.qual d_10.params d_10.body d_10.scope (d_10.dvs K) (d_10.kws K) (He.fAd K d_10.at_) fd) : Binds K fd ["collection", "member"] [] := FunD.bindsN (ps := ["collection", "member"]) F fun _ _ _ _ _ _ us hl => match us, hl with
  | [_, _], _ => rfl
theorem sc_11 : FnScope ["collection", "sides", "start", "waiting", "member", "other"] ["collection"] (defScope s_11) := ⟨rfl, rfl, rfl, by decide +kernel, rfl, by decide +kernel, by decide +kernel⟩
theorem bind_11 {fd : FuncData} (F : FunD K d_11.name d_11.qual d_11.params d_11.body d_11.scope (d_11.dvs K) (d_11.kws K) (He.fAd K d_11.at_) fd) : Binds K fd ["collection"] [] := FunD.bindsN (ps := ["collection"]) F fun _ _ _ _ _ _ us hl => match us, hl with
  | [_], _ => rfl
theorem sc_12 : FnScope ["collection", "found"] ["collection"] (defScope s_12) := ⟨rfl, rfl, rfl, by decide +kernel, rfl, by decide +kernel, by decide +kernel⟩
theorem bind_12 {fd : FuncData} (F : FunD K d_12.name d_12.qual d_12.params d_12.body d_12.scope (d_12.dvs K) (d_12.kws K) (He.fAd K d_12.at_) fd) : Binds K fd ["collection"] [] := FunD.bindsN (ps := ["collection"]) F fun _ _ _ _ _ _ us hl => match us, hl with
  | [_], _ => rfl
theorem sc_13 : FnScope ["collection", "paths", "member", "path", "other"] ["collection"] (defScope s_13) := ⟨rfl, rfl, rfl, by decide +kernel, rfl, by decide +kernel, by decide +kernel⟩
theorem bind_13 {fd : FuncData} (F : FunD K d_13.name d_13.qual d_13.params d_13.body d_13.scope (d_13.dvs K) (d_13.kws K) (He.fAd K d_13.at_) fd) : Binds K fd ["collection"] [] := FunD.bindsN (ps := ["collection"]) F fun _ _ _ _ _ _ us hl => match us, hl with
  | [_], _ => rfl
theorem sc_14 : FnScope ["collection", "value", "member", "at"] ["collection", "value"] (defScope s_14) := ⟨rfl, rfl, rfl, by decide +kernel, rfl, by decide +kernel, by decide +kernel⟩
theorem bind_14 {fd : FuncData} (F : FunD K d_14.name d_14.qual d_14.params d_14.body d_14.scope (d_14.dvs K) (d_14.kws K) (He.fAd K d_14.at_) fd) : Binds K fd ["collection", "value"] [] := FunD.bindsN (ps := ["collection", "value"]) F fun _ _ _ _ _ _ us hl => match us, hl with
  | [_, _], _ => rfl
theorem sc_15 : FnScope ["script", "k", "cell", "great"] ["script", "k"] (defScope s_15) := ⟨rfl, rfl, rfl, by decide +kernel, rfl, by decide +kernel, by decide +kernel⟩
theorem bind_15 {fd : FuncData} (F : FunD K d_15.name d_15.qual d_15.params d_15.body d_15.scope (d_15.dvs K) (d_15.kws K) (He.fAd K d_15.at_) fd) : Binds K fd ["script", "k"] [] := FunD.bindsN (ps := ["script", "k"]) F fun _ _ _ _ _ _ us hl => match us, hl with
  | [_, _], _ => rfl
theorem sc_16 : FnScope ["box", "many", "got"] ["box", "many"] (defScope s_16) := ⟨rfl, rfl, rfl, by decide +kernel, rfl, by decide +kernel, by decide +kernel⟩
theorem bind_16 {fd : FuncData} (F : FunD K d_16.name d_16.qual d_16.params d_16.body d_16.scope (d_16.dvs K) (d_16.kws K) (He.fAd K d_16.at_) fd) : Binds K fd ["box", "many"] [] := FunD.bindsN (ps := ["box", "many"]) F fun _ _ _ _ _ _ us hl => match us, hl with
  | [_, _], _ => rfl
theorem sc_17 : FnScope ["box", "some"] ["box", "some"] (defScope s_17) := ⟨rfl, rfl, rfl, by decide +kernel, rfl, by decide +kernel, by decide +kernel⟩
theorem bind_17 {fd : FuncData} (F : FunD K d_17.name d_17.qual d_17.params d_17.body d_17.scope (d_17.dvs K) (d_17.kws K) (He.fAd K d_17.at_) fd) : Binds K fd ["box", "some"] [] := FunD.bindsN (ps := ["box", "some"]) F fun _ _ _ _ _ _ us hl => match us, hl with
  | [_, _], _ => rfl
theorem sc_18 : FnScope ["value"] ["value"] (defScope s_18) := ⟨rfl, rfl, rfl, by decide +kernel, rfl, by decide +kernel, by decide +kernel⟩
theorem bind_18 {fd : FuncData} (F : FunD K d_18.name d_18.qual d_18.params d_18.body d_18.scope (d_18.dvs K) (d_18.kws K) (He.fAd K d_18.at_) fd) : Binds K fd ["value"] [] := FunD.bindsN (ps := ["value"]) F fun _ _ _ _ _ _ us hl => match us, hl with
  | [_], _ => rfl
theorem sc_19 : FnScope ["value", "many", "one"] ["value", "many"] (defScope s_19) := ⟨rfl, rfl, rfl, by decide +kernel, rfl, by decide +kernel, by decide +kernel⟩
theorem bind_19 {fd : FuncData} (F : FunD K d_19.name d_19.qual d_19.params d_19.body d_19.scope (d_19.dvs K) (d_19.kws K) (He.fAd K d_19.at_) fd) : Binds K fd ["value", "many"] [] := FunD.bindsN (ps := ["value", "many"]) F fun _ _ _ _ _ _ us hl => match us, hl with
  | [_, _], _ => rfl
theorem sc_20 : FnScope ["told", "due"] ["told", "due"] (defScope s_20) := ⟨rfl, rfl, rfl, by decide +kernel, rfl, by decide +kernel, by decide +kernel⟩
theorem bind_20 {fd : FuncData} (F : FunD K d_20.name d_20.qual d_20.params d_20.body d_20.scope (d_20.dvs K) (d_20.kws K) (He.fAd K d_20.at_) fd) : Binds K fd ["told", "due"] [] := FunD.bindsN (ps := ["told", "due"]) F fun _ _ _ _ _ _ us hl => match us, hl with
  | [_, _], _ => rfl
theorem sc_21 : FnScope ["box", "value", "deep", "at", "how"] ["box", "value", "deep"] (defScope s_21) := ⟨rfl, rfl, rfl, by decide +kernel, rfl, by decide +kernel, by decide +kernel⟩
theorem bind_21 {fd : FuncData} (F : FunD K d_21.name d_21.qual d_21.params d_21.body d_21.scope (d_21.dvs K) (d_21.kws K) (He.fAd K d_21.at_) fd) : Binds K fd ["box", "value", "deep"] [] := FunD.bindsN (ps := ["box", "value", "deep"]) F fun _ _ _ _ _ _ us hl => match us, hl with
  | [_, _, _], _ => rfl
theorem sc_22 : FnScope ["box", "some", "found", "one"] ["box", "some"] (defScope s_22) := ⟨rfl, rfl, rfl, by decide +kernel, rfl, by decide +kernel, by decide +kernel⟩
theorem bind_22 {fd : FuncData} (F : FunD K d_22.name d_22.qual d_22.params d_22.body d_22.scope (d_22.dvs K) (d_22.kws K) (He.fAd K d_22.at_) fd) : Binds K fd ["box", "some"] [] := FunD.bindsN (ps := ["box", "some"]) F fun _ _ _ _ _ _ us hl => match us, hl with
  | [_, _], _ => rfl
theorem sc_23 : FnScope ["n", "found", "member", "group"] ["n"] (defScope s_23) := ⟨rfl, rfl, rfl, by decide +kernel, rfl, by decide +kernel, by decide +kernel⟩
theorem bind_23 {fd : FuncData} (F : FunD K d_23.name d_23.qual d_23.params d_23.body d_23.scope (d_23.dvs K) (d_23.kws K) (He.fAd K d_23.at_) fd) : Binds K fd ["n"] [] := FunD.bindsN (ps := ["n"]) F fun _ _ _ _ _ _ us hl => match us, hl with
  | [_], _ => rfl
theorem sc_24 : FnScope ["box", "n", "order", "found", "k", "other"] ["box", "n"] (defScope s_24) := ⟨rfl, rfl, rfl, by decide +kernel, rfl, by decide +kernel, by decide +kernel⟩
theorem bind_24 {fd : FuncData} (F : FunD K d_24.name d_24.qual d_24.params d_24.body d_24.scope (d_24.dvs K) (d_24.kws K) (He.fAd K d_24.at_) fd) : Binds K fd ["box", "n"] [] := FunD.bindsN (ps := ["box", "n"]) F fun _ _ _ _ _ _ us hl => match us, hl with
  | [_, _], _ => rfl
theorem sc_25 : FnScope ["group", "tree", "pair"] ["group", "tree"] (defScope s_25) := ⟨rfl, rfl, rfl, by decide +kernel, rfl, by decide +kernel, by decide +kernel⟩
theorem bind_25 {fd : FuncData} (F : FunD K d_25.name d_25.qual d_25.params d_25.body d_25.scope (d_25.dvs K) (d_25.kws K) (He.fAd K d_25.at_) fd) : Binds K fd ["group", "tree"] [] := FunD.bindsN (ps := ["group", "tree"]) F fun _ _ _ _ _ _ us hl => match us, hl with
  | [_, _], _ => rfl
theorem sc_26 : FnScope ["n", "groups", "parts", "member", "group", "met", "part", "joined"] ["n", "groups"] (defScope s_26) := ⟨rfl, rfl, rfl, by decide +kernel, rfl, by decide +kernel, by decide +kernel⟩
theorem bind_26 {fd : FuncData} (F : FunD K d_26.name d_26.qual d_26.params d_26.body d_26.scope (d_26.dvs K) (d_26.kws K) (He.fAd K d_26.at_) fd) : Binds K fd ["n", "groups"] [] := FunD.bindsN (ps := ["n", "groups"]) F fun _ _ _ _ _ _ us hl => match us, hl with
  | [_, _], _ => rfl
theorem sc_27 : FnScope ["box", "kind", "size", "n", "some", "group", "whole", "ring", "k", "side", "member", "tree", "found", "many", "groups"] ["box", "kind", "size"] (defScope s_27) := ⟨rfl, rfl, rfl, by decide +kernel, rfl, by decide +kernel, by decide +kernel⟩
theorem bind_27 {fd : FuncData} (F : FunD K d_27.name d_27.qual d_27.params d_27.body d_27.scope (d_27.dvs K) (d_27.kws K) (He.fAd K d_27.at_) fd) : Binds K fd ["box", "kind", "size"] [] := FunD.bindsN (ps := ["box", "kind", "size"]) F fun _ _ _ _ _ _ us hl => match us, hl with
  | [_, _, _], _ => rfl
theorem sc_28 : FnScope ["n", "groups", "side", "member", "turn", "group", "a", "b"] ["n", "groups"] (defScope s_28) := ⟨rfl, rfl, rfl, by decide +kernel, rfl, by decide +kernel, by decide +kernel⟩
theorem bind_28 {fd : FuncData} (F : FunD K d_28.name d_28.qual d_28.params d_28.body d_28.scope (d_28.dvs K) (d_28.kws K) (He.fAd K d_28.at_) fd) : Binds K fd ["n", "groups"] [] := FunD.bindsN (ps := ["n", "groups"]) F fun _ _ _ _ _ _ us hl => match us, hl with
  | [_, _], _ => rfl
theorem sc_29 : FnScope ["groups", "group"] ["groups"] (defScope s_29) := ⟨rfl, rfl, rfl, by decide +kernel, rfl, by decide +kernel, by decide +kernel⟩
theorem bind_29 {fd : FuncData} (F : FunD K d_29.name d_29.qual d_29.params d_29.body d_29.scope (d_29.dvs K) (d_29.kws K) (He.fAd K d_29.at_) fd) : Binds K fd ["groups"] [] := FunD.bindsN (ps := ["groups"]) F fun _ _ _ _ _ _ us hl => match us, hl with
  | [_], _ => rfl
theorem sc_30 : FnScope ["n", "groups", "value", "k"] ["n", "groups", "value"] (defScope s_30) := ⟨rfl, rfl, rfl, by decide +kernel, rfl, by decide +kernel, by decide +kernel⟩
theorem bind_30 {fd : FuncData} (F : FunD K d_30.name d_30.qual d_30.params d_30.body d_30.scope (d_30.dvs K) (d_30.kws K) (He.fAd K d_30.at_) fd) : Binds K fd ["n", "groups", "value"] [] := FunD.bindsN (ps := ["n", "groups", "value"]) F fun _ _ _ _ _ _ us hl => match us, hl with
  | [_, _, _], _ => rfl
theorem sc_31 : FnScope ["kind", "collection", "e"] ["kind", "collection"] (defScope s_31) := ⟨rfl, rfl, rfl, by decide +kernel, rfl, by decide +kernel, by decide +kernel⟩
theorem bind_31 {fd : FuncData} (F : FunD K d_31.name d_31.qual d_31.params d_31.body d_31.scope (d_31.dvs K) (d_31.kws K) (He.fAd K d_31.at_) fd) : Binds K fd ["kind", "collection"] [] := FunD.bindsN (ps := ["kind", "collection"]) F fun _ _ _ _ _ _ us hl => match us, hl with
  | [_, _], _ => rfl
theorem sc_32 : FnScope ["script", "box", "n", "groups", "collection", "rings", "k", "due", "told", "ring", "values", "value"] ["script"] (defScope s_32) := ⟨rfl, rfl, rfl, by decide +kernel, rfl, by decide +kernel, by decide +kernel⟩
theorem sc_33 : FnScope ["self", "value"] ["self", "value"] (defScope s_33) := ⟨rfl, rfl, rfl, by decide +kernel, rfl, by decide +kernel, by decide +kernel⟩
theorem bind_33 {fd : FuncData} (F : FunD K d_33.name d_33.qual d_33.params d_33.body d_33.scope (d_33.dvs K) (d_33.kws K) (He.fAd K d_33.at_) fd) : Binds K fd ["self", "value"] [] := FunD.bindsN (ps := ["self", "value"]) F fun _ _ _ _ _ _ us hl => match us, hl with
  | [_, _], _ => rfl
theorem sc_34 : FnScope ["self", "value"] ["self", "value"] (defScope s_34) := ⟨rfl, rfl, rfl, by decide +kernel, rfl, by decide +kernel, by decide +kernel⟩
theorem bind_34 {fd : FuncData} (F : FunD K d_34.name d_34.qual d_34.params d_34.body d_34.scope (d_34.dvs K) (d_34.kws K) (He.fAd K d_34.at_) fd) : Binds K fd ["self", "value"] [] := FunD.bindsN (ps := ["self", "value"]) F fun _ _ _ _ _ _ us hl => match us, hl with
  | [_, _], _ => rfl
theorem sc_35 : FnScope ["self", "what"] ["self", "what"] (defScope s_35) := ⟨rfl, rfl, rfl, by decide +kernel, rfl, by decide +kernel, by decide +kernel⟩
theorem bind_35 {fd : FuncData} (F : FunD K d_35.name d_35.qual d_35.params d_35.body d_35.scope (d_35.dvs K) (d_35.kws K) (He.fAd K d_35.at_) fd) : Binds K fd ["self", "what"] [] := FunD.bindsN (ps := ["self", "what"]) F fun _ _ _ _ _ _ us hl => match us, hl with
  | [_, _], _ => rfl
def OkAt (P : Program) (w : World) (mg : Str → Option Value) (base : Heap) (K : PySem.W.Frag) (n : Nat) : Nat → Prop
  | 0 => ∀ fd, FunD K d_0.name d_0.qual d_0.params d_0.body d_0.scope (d_0.dvs K) (d_0.kws K) (He.fAd K d_0.at_) fd → FnOk P w K mg base (L2.CX P w) (2 * n + 2) (He.fAd K d_0.at_) fd ["value"] (spF (GG K) 1 (run n 0))
  | 1 => ∀ fd, FunD K d_1.name d_1.qual d_1.params d_1.body d_1.scope (d_1.dvs K) (d_1.kws K) (He.fAd K d_1.at_) fd → FnOk P w K mg base (L2.CX P w) (2 * n + 2) (He.fAd K d_1.at_) fd ["value", "low", "high"] (spF (GG K) 3 (run n 1))
  | 2 => ∀ fd, FunD K d_2.name d_2.qual d_2.params d_2.body d_2.scope (d_2.dvs K) (d_2.kws K) (He.fAd K d_2.at_) fd → FnOk P w K mg base (L2.CX P w) (2 * n + 2) (He.fAd K d_2.at_) fd ["value"] (spF (GG K) 1 (run n 2))
  | 3 => ∀ fd, FunD K d_3.name d_3.qual d_3.params d_3.body d_3.scope (d_3.dvs K) (d_3.kws K) (He.fAd K d_3.at_) fd → FnOk P w K mg base (L2.CX P w) (2 * n + 2) (He.fAd K d_3.at_) fd ["value", "high"] (spF (GG K) 2 (run n 3))
  | 4 => ∀ fd, FunD K d_4.name d_4.qual d_4.params d_4.body d_4.scope (d_4.dvs K) (d_4.kws K) (He.fAd K d_4.at_) fd → FnOk P w K mg base (L2.CX P w) (2 * n + 2) (He.fAd K d_4.at_) fd ["value", "n"] (spF (GG K) 2 (run n 4))
  | 5 => ∀ fd, FunD K d_5.name d_5.qual d_5.params d_5.body d_5.scope (d_5.dvs K) (d_5.kws K) (He.fAd K d_5.at_) fd → FnOk P w K mg base (L2.CX P w) (2 * n + 2) (He.fAd K d_5.at_) fd ["value", "n"] (spF (GG K) 2 (run n 5))
  | 6 => ∀ fd, FunD K d_6.name d_6.qual d_6.params d_6.body d_6.scope (d_6.dvs K) (d_6.kws K) (He.fAd K d_6.at_) fd → FnOk P w K mg base (L2.CX P w) (2 * n + 2) (He.fAd K d_6.at_) fd ["self", "n", "groups"] (spF (GG K) 3 (run n 6))
  | 7 => ∀ fd, FunD K d_7.name d_7.qual d_7.params d_7.body d_7.scope (d_7.dvs K) (d_7.kws K) (He.fAd K d_7.at_) fd → FnOk P w K mg base (L2.CX P w) (2 * n + 2) (He.fAd K d_7.at_) fd ["collection"] (spF (GG K) 1 (run n 7))
  | 8 => ∀ fd, FunD K d_8.name d_8.qual d_8.params d_8.body d_8.scope (d_8.dvs K) (d_8.kws K) (He.fAd K d_8.at_) fd → FnOk P w K mg base (L2.CX P w) (2 * n + 2) (He.fAd K d_8.at_) fd ["collection"] (spF (GG K) 1 (run n 8))
  | 9 => ∀ fd, FunD K d_9.name d_9.qual d_9.params d_9.body d_9.scope (d_9.dvs K) (d_9.kws K) (He.fAd K d_9.at_) fd → FnOk P w K mg base (L2.CX P w) (2 * n + 2) (He.fAd K d_9.at_) fd ["one", "other"] (spF (GG K) 2 (run n 9))
  | 10 => ∀ fd, FunD K d_10.name d_10.qual d_10.params d_10.body d_10.scope (d_10.dvs K) (d_10.kws K) (He.fAd K d_10.at_) fd → FnOk P w K mg base (L2.CX P w) (2 * n + 2) (He.fAd K d_10.at_) fd ["collection", "member"] (spF (GG K) 2 (run n 10))
  | 11 => ∀ fd, FunD K d_11.name d_11.qual d_11.params d_11.body d_11.scope (d_11.dvs K) (d_11.kws K) (He.fAd K d_11.at_) fd → FnOk P w K mg base (L2.CX P w) (2 * n + 2) (He.fAd K d_11.at_) fd ["collection"] (spF (GG K) 1 (run n 11))
  | 12 => ∀ fd, FunD K d_12.name d_12.qual d_12.params d_12.body d_12.scope (d_12.dvs K) (d_12.kws K) (He.fAd K d_12.at_) fd → FnOk P w K mg base (L2.CX P w) (2 * n + 2) (He.fAd K d_12.at_) fd ["collection"] (spF (GG K) 1 (run n 12))
  | 13 => ∀ fd, FunD K d_13.name d_13.qual d_13.params d_13.body d_13.scope (d_13.dvs K) (d_13.kws K) (He.fAd K d_13.at_) fd → FnOk P w K mg base (L2.CX P w) (2 * n + 2) (He.fAd K d_13.at_) fd ["collection"] (spF (GG K) 1 (run n 13))
  | 14 => ∀ fd, FunD K d_14.name d_14.qual d_14.params d_14.body d_14.scope (d_14.dvs K) (d_14.kws K) (He.fAd K d_14.at_) fd → FnOk P w K mg base (L2.CX P w) (2 * n + 2) (He.fAd K d_14.at_) fd ["collection", "value"] (spF (GG K) 2 (run n 14))
  | 15 => ∀ fd, FunD K d_15.name d_15.qual d_15.params d_15.body d_15.scope (d_15.dvs K) (d_15.kws K) (He.fAd K d_15.at_) fd → FnOk P w K mg base (L2.CX P w) (2 * n + 2) (He.fAd K d_15.at_) fd ["script", "k"] (spF (GG K) 2 (run n 15))
  | 16 => ∀ fd, FunD K d_16.name d_16.qual d_16.params d_16.body d_16.scope (d_16.dvs K) (d_16.kws K) (He.fAd K d_16.at_) fd → FnOk P w K mg base (L2.CX P w) (2 * n + 2) (He.fAd K d_16.at_) fd ["box", "many"] (spF (GG K) 2 (run n 16))
  | 17 => ∀ fd, FunD K d_17.name d_17.qual d_17.params d_17.body d_17.scope (d_17.dvs K) (d_17.kws K) (He.fAd K d_17.at_) fd → FnOk P w K mg base (L2.CX P w) (2 * n + 2) (He.fAd K d_17.at_) fd ["box", "some"] (spF (GG K) 2 (run n 17))
  | 18 => ∀ fd, FunD K d_18.name d_18.qual d_18.params d_18.body d_18.scope (d_18.dvs K) (d_18.kws K) (He.fAd K d_18.at_) fd → FnOk P w K mg base (L2.CX P w) (2 * n + 2) (He.fAd K d_18.at_) fd ["value"] (spF (GG K) 1 (run n 18))
  | 19 => ∀ fd, FunD K d_19.name d_19.qual d_19.params d_19.body d_19.scope (d_19.dvs K) (d_19.kws K) (He.fAd K d_19.at_) fd → FnOk P w K mg base (L2.CX P w) (2 * n + 2) (He.fAd K d_19.at_) fd ["value", "many"] (spF (GG K) 2 (run n 19))
  | 20 => ∀ fd, FunD K d_20.name d_20.qual d_20.params d_20.body d_20.scope (d_20.dvs K) (d_20.kws K) (He.fAd K d_20.at_) fd → FnOk P w K mg base (L2.CX P w) (2 * n + 2) (He.fAd K d_20.at_) fd ["told", "due"] (spF (GG K) 2 (run n 20))
  | 21 => ∀ fd, FunD K d_21.name d_21.qual d_21.params d_21.body d_21.scope (d_21.dvs K) (d_21.kws K) (He.fAd K d_21.at_) fd → FnOk P w K mg base (L2.CX P w) (2 * n + 2) (He.fAd K d_21.at_) fd ["box", "value", "deep"] (spF (GG K) 3 (run n 21))
  | 22 => ∀ fd, FunD K d_22.name d_22.qual d_22.params d_22.body d_22.scope (d_22.dvs K) (d_22.kws K) (He.fAd K d_22.at_) fd → FnOk P w K mg base (L2.CX P w) (2 * n + 2) (He.fAd K d_22.at_) fd ["box", "some"] (spF (GG K) 2 (run n 22))
  | 23 => ∀ fd, FunD K d_23.name d_23.qual d_23.params d_23.body d_23.scope (d_23.dvs K) (d_23.kws K) (He.fAd K d_23.at_) fd → FnOk P w K mg base (L2.CX P w) (2 * n + 2) (He.fAd K d_23.at_) fd ["n"] (spF (GG K) 1 (run n 23))
  | 24 => ∀ fd, FunD K d_24.name d_24.qual d_24.params d_24.body d_24.scope (d_24.dvs K) (d_24.kws K) (He.fAd K d_24.at_) fd → FnOk P w K mg base (L2.CX P w) (2 * n + 2) (He.fAd K d_24.at_) fd ["box", "n"] (spF (GG K) 2 (run n 24))
  | 25 => ∀ fd, FunD K d_25.name d_25.qual d_25.params d_25.body d_25.scope (d_25.dvs K) (d_25.kws K) (He.fAd K d_25.at_) fd → FnOk P w K mg base (L2.CX P w) (2 * n + 2) (He.fAd K d_25.at_) fd ["group", "tree"] (spF (GG K) 2 (run n 25))
  | 26 => ∀ fd, FunD K d_26.name d_26.qual d_26.params d_26.body d_26.scope (d_26.dvs K) (d_26.kws K) (He.fAd K d_26.at_) fd → FnOk P w K mg base (L2.CX P w) (2 * n + 2) (He.fAd K d_26.at_) fd ["n", "groups"] (spF (GG K) 2 (run n 26))
  | 27 => ∀ fd, FunD K d_27.name d_27.qual d_27.params d_27.body d_27.scope (d_27.dvs K) (d_27.kws K) (He.fAd K d_27.at_) fd → FnOk P w K mg base (L2.CX P w) (2 * n + 2) (He.fAd K d_27.at_) fd ["box", "kind", "size"] (spF (GG K) 3 (run n 27))
  | 28 => ∀ fd, FunD K d_28.name d_28.qual d_28.params d_28.body d_28.scope (d_28.dvs K) (d_28.kws K) (He.fAd K d_28.at_) fd → FnOk P w K mg base (L2.CX P w) (2 * n + 2) (He.fAd K d_28.at_) fd ["n", "groups"] (spF (GG K) 2 (run n 28))
  | 29 => ∀ fd, FunD K d_29.name d_29.qual d_29.params d_29.body d_29.scope (d_29.dvs K) (d_29.kws K) (He.fAd K d_29.at_) fd → FnOk P w K mg base (L2.CX P w) (2 * n + 2) (He.fAd K d_29.at_) fd ["groups"] (spF (GG K) 1 (run n 29))
  | 30 => ∀ fd, FunD K d_30.name d_30.qual d_30.params d_30.body d_30.scope (d_30.dvs K) (d_30.kws K) (He.fAd K d_30.at_) fd → FnOk P w K mg base (L2.CX P w) (2 * n + 2) (He.fAd K d_30.at_) fd ["n", "groups", "value"] (spF (GG K) 3 (run n 30))
  | 31 => ∀ fd, FunD K d_31.name d_31.qual d_31.params d_31.body d_31.scope (d_31.dvs K) (d_31.kws K) (He.fAd K d_31.at_) fd → FnOk P w K mg base (L2.CX P w) (2 * n + 2) (He.fAd K d_31.at_) fd ["kind", "collection"] (spF (GG K) 2 (run n 31))
  | 32 => ∀ fd, FunD K d_32.name d_32.qual d_32.params d_32.body d_32.scope (d_32.dvs K) (d_32.kws K) (He.fAd K d_32.at_) fd → FnOk P w K mg base (L2.CX P w) (2 * n + 2) (He.fAd K d_32.at_) fd ["script"] (spF (GG K) 1 (run n 32))
  | _ => True
end
end Lk30
set_option maxHeartbeats 0
namespace Lk30
open PySem L2 EV
section
variable {P : Program} {w : World} {mg : Str → Option Value} {base h : Heap} {K : PySem.W.Frag}
theorem run_0 (n : Nat) : run (n + 1) 0 = body0 1 (b_0 (run n)) := rfl
theorem ok_0 (c : He.SaysX fa fn [] tf exK w h K) (X0 : K.In h) (G0 : h.Ns mainGlobals mg) (tb : ∀ p ∈ tf, LamX.TabB base mg (He.cT K p).1 (He.cT K p).2) {n : Nat} (ih : ∀ j, OkAt P w mg base K n j) : OkAt P w mg base K (n + 1) 0 := by
  intro fd F

  rw [run_0]
  refine fn_ok (G := GG K) (N := ["value"]) (ps := ["value"]) (k := 2 * n + 3) (fun _ => trivial) F sc_0 fun cdv A outer s H E hr => ?_
  have hnd : (["value"] : List Str).Nodup := sc_0.nd
  have tk := takes_of (X := cxOf (L2.CX P w) P w K mg base ["value"] "is_integer" (defScope s_0) (He.fAd K d_0.at_) cdv A outer s H E) rfl rfl rfl rfl
  have hp := passes_of (X := cxOf (L2.CX P w) P w K mg base ["value"] "is_integer" (defScope s_0) (He.fAd K d_0.at_) cdv A outer s H E) rfl
  have hcls := clsok c
  unfold b_0 Tx.t_is_integer
  exact xs_one (xs_ret (ex_and (ex_isi (by rfl) (qok_of (cs := cds) hG (cmore c) (by rfl) (by decide) (by decide)) (.ty _) (ex_var (i := 0) (by rfl) (by first | exact Or.inl rfl | exact Or.inr (Or.inl rfl) | exact Or.inr (Or.inr rfl)) (by decide) (by decide)) (pe_bltn (u := .type "int") (by rfl) (He.free_ok X0 G0 (c.t.d.fact 2 (f := .free "int") (by rfl))) (by decide +kernel) (by rfl) (by decide) (by decide)) (by rfl) (He.free_ok X0 G0 (c.t.d.fact 1 (f := .free "isinstance") (by rfl))) (by rfl) (by rfl) (by rfl)) (ex_one (ex_not (ex_isi (by rfl) (qok_of (cs := cds) hG (cmore c) (by rfl) (by decide) (by decide)) (.ty _) (ex_var (i := 0) (by rfl) (by first | exact Or.inl rfl | exact Or.inr (Or.inl rfl) | exact Or.inr (Or.inr rfl)) (by decide) (by decide)) (pe_bltn (u := .type "bool") (by rfl) (He.free_ok X0 G0 (c.t.d.fact 0 (f := .free "bool") (by rfl))) (by decide +kernel) (by rfl) (by decide) (by decide)) (by rfl) (He.free_ok X0 G0 (c.t.d.fact 1 (f := .free "isinstance") (by rfl))) (by rfl) (by rfl) (by rfl))))))
theorem run_1 (n : Nat) : run (n + 1) 1 = body0 3 (b_1 (run n)) := rfl
theorem ok_1 (c : He.SaysX fa fn [] tf exK w h K) (X0 : K.In h) (G0 : h.Ns mainGlobals mg) (tb : ∀ p ∈ tf, LamX.TabB base mg (He.cT K p).1 (He.cT K p).2) {n : Nat} (ih : ∀ j, OkAt P w mg base K n j) : OkAt P w mg base K (n + 1) 1 := by
  intro fd F
  obtain ⟨fd0, F0⟩ := c.t.d.def_ 0 (d := d_0) rfl
  have ih0 := ih 0 fd0 F0
  rw [run_1]
  refine fn_ok (G := GG K) (N := ["value", "low", "high"]) (ps := ["value", "low", "high"]) (k := 2 * n + 3) (fun _ => trivial) F sc_1 fun cdv A outer s H E hr => ?_
  have hnd : (["value", "low", "high"] : List Str).Nodup := sc_1.nd
  have tk := takes_of (X := cxOf (L2.CX P w) P w K mg base ["value", "low", "high"] "is_within" (defScope s_1) (He.fAd K d_1.at_) cdv A outer s H E) rfl rfl rfl rfl
  have hp := passes_of (X := cxOf (L2.CX P w) P w K mg base ["value", "low", "high"] "is_within" (defScope s_1) (He.fAd K d_1.at_) cdv A outer s H E) rfl
  have hcls := clsok c
  unfold b_1 Tx.t_is_within
  exact xs_one (xs_ret (ex_and (ex_call (ih0) tk (hr.mono (by omega)) (by rfl) (He.glo_ok X0 G0 (c.t.d.fact 3 (f := .glo "is_integer") (by rfl))) F0.kp (bind_0 F0) (ax_cons (ex_var (i := 0) (by rfl) (by first | exact Or.inl rfl | exact Or.inr (Or.inl rfl) | exact Or.inr (Or.inr rfl)) (by decide) (by decide)) (ax_nil) (by rfl)) (by decide) (by rfl) (by rfl)) (ex_one (ex_chn (op2_le) (op2_le) (ex_var (i := 1) (by rfl) (by first | exact Or.inl rfl | exact Or.inr (Or.inl rfl) | exact Or.inr (Or.inr rfl)) (by decide) (by decide)) (ex_var (i := 0) (by rfl) (by first | exact Or.inl rfl | exact Or.inr (Or.inl rfl) | exact Or.inr (Or.inr rfl)) (by decide) (by decide)) (ex_var (i := 2) (by rfl) (by first | exact Or.inl rfl | exact Or.inr (Or.inl rfl) | exact Or.inr (Or.inr rfl)) (by decide) (by decide)) (by with_unfolding_all rfl)))))
theorem run_2 (n : Nat) : run (n + 1) 2 = body0 2 (b_2 (run n)) := rfl
theorem ok_2 (c : He.SaysX fa fn [] tf exK w h K) (X0 : K.In h) (G0 : h.Ns mainGlobals mg) (tb : ∀ p ∈ tf, LamX.TabB base mg (He.cT K p).1 (He.cT K p).2) {n : Nat} (ih : ∀ j, OkAt P w mg base K n j) : OkAt P w mg base K (n + 1) 2 := by
  intro fd F

  rw [run_2]
  refine fn_ok (G := GG K) (N := ["value", "at"]) (ps := ["value"]) (k := 2 * n + 3) (fun _ => trivial) F sc_2 fun cdv A outer s H E hr => ?_
  have hnd : (["value", "at"] : List Str).Nodup := sc_2.nd
  have tk := takes_of (X := cxOf (L2.CX P w) P w K mg base ["value", "at"] "is_ascending" (defScope s_2) (He.fAd K d_2.at_) cdv A outer s H E) rfl rfl rfl rfl
  have hp := passes_of (X := cxOf (L2.CX P w) P w K mg base ["value", "at"] "is_ascending" (defScope s_2) (He.fAd K d_2.at_) cdv A outer s H E) rfl
  have hcls := clsok c
  unfold b_2 Tx.t_is_ascending
  exact xs_one (xs_ret (ex_bi (fb_all (by rfl)) (cr_all (by rfl)) (by rfl) (He.free_ok X0 G0 (c.t.d.fact 6 (f := .free "all") (by rfl))) (by decide +kernel) (ax_cons (ex_lc (own := [("at", 1)]) (fun _ _ _ _ => trivial) tt_nil (by decide) (by rfl) hnd (xi_range2 (by rfl) (He.free_ok X0 G0 (c.t.d.fact 5 (f := .free "range") (by rfl))) (ax_cons (ex_cst pe_int (fun _ _ => (by rfl))) (ax_cons (ex_bi (fb_len (by rfl)) cr_len (by rfl) (He.free_ok X0 G0 (c.t.d.fact 4 (f := .free "len") (by rfl))) (by decide +kernel) (ax_cons (ex_var (i := 0) (by rfl) (by first | exact Or.inl rfl | exact Or.inr (Or.inl rfl) | exact Or.inr (Or.inr rfl)) (by decide) (by decide)) (ax_nil) (by rfl)) (by decide) (by decide) (by rfl) (by rfl)) (ax_nil) (by rfl)) (by rfl)) (by rfl) (by rfl)) (blkOk_by (own := [("at", 1)]) (N := ["value", "at"]) (sc := defScope s_2) (by decide +kernel)) (fun _ _ _ _ _ => xg_name (i := 1) hnd (by rfl) (by first | exact Or.inl rfl | exact Or.inr rfl) (fun _ _ _ => trivial) (by first | exact Or.inl rfl | exact Or.inr rfl)) (fun _ _ _ _ _ => pts_nil) (fun _ _ _ _ _ => ex_cmp (op2_lt (by rfl) hr.units) (ex_ix (by rfl) (ex_var (i := 0) (by rfl) (by first | exact Or.inl rfl | exact Or.inr (Or.inl rfl) | exact Or.inr (Or.inr rfl)) (by decide) (by decide)) (ex_bin (op2_sub) (ex_var (i := 1) (by rfl) (by first | exact Or.inl rfl | exact Or.inr (Or.inl rfl) | exact Or.inr (Or.inr rfl)) (by decide) (by decide)) (ex_cst pe_int (fun _ _ => (by rfl)))) (fun _ _ => (by rfl))) (ex_ix (by rfl) (ex_var (i := 0) (by rfl) (by first | exact Or.inl rfl | exact Or.inr (Or.inl rfl) | exact Or.inr (Or.inr rfl)) (by decide) (by decide)) (ex_var (i := 1) (by rfl) (by first | exact Or.inl rfl | exact Or.inr (Or.inl rfl) | exact Or.inr (Or.inr rfl)) (by decide) (by decide)) (fun _ _ => (by rfl))) (nomark _)) (fun _ => (by rfl))) (ax_nil) (by rfl)) (by decide) (by decide) (by rfl) (by rfl)))
theorem run_3 (n : Nat) : run (n + 1) 3 = body0 3 (b_3 (run n)) := rfl
theorem ok_3 (c : He.SaysX fa fn [] tf exK w h K) (X0 : K.In h) (G0 : h.Ns mainGlobals mg) (tb : ∀ p ∈ tf, LamX.TabB base mg (He.cT K p).1 (He.cT K p).2) {n : Nat} (ih : ∀ j, OkAt P w mg base K n j) : OkAt P w mg base K (n + 1) 3 := by
  intro fd F
  obtain ⟨fd1, F1⟩ := c.t.d.def_ 1 (d := d_1) rfl
  have ih1 := ih 1 fd1 F1
  obtain ⟨fd2, F2⟩ := c.t.d.def_ 2 (d := d_2) rfl
  have ih2 := ih 2 fd2 F2
  rw [run_3]
  refine fn_ok (G := GG K) (N := ["value", "high", "part"]) (ps := ["value", "high"]) (k := 2 * n + 3) (fun _ => trivial) F sc_3 fun cdv A outer s H E hr => ?_
  have hnd : (["value", "high", "part"] : List Str).Nodup := sc_3.nd
  have tk := takes_of (X := cxOf (L2.CX P w) P w K mg base ["value", "high", "part"] "is_rising" (defScope s_3) (He.fAd K d_3.at_) cdv A outer s H E) rfl rfl rfl rfl
  have hp := passes_of (X := cxOf (L2.CX P w) P w K mg base ["value", "high", "part"] "is_rising" (defScope s_3) (He.fAd K d_3.at_) cdv A outer s H E) rfl
  have hcls := clsok c
  unfold b_3 Tx.t_is_rising
  exact xs_cons (xs_if (PW.pt (xw_or (xt_not (xt_val (ex_isi (by rfl) (qok_of (cs := cds) hG (cmore c) (by rfl) (by decide) (by decide)) (.ty _) (ex_var (i := 0) (by rfl) (by first | exact Or.inl rfl | exact Or.inr (Or.inl rfl) | exact Or.inr (Or.inr rfl)) (by decide) (by decide)) (pe_bltn (u := .type "tuple") (by rfl) (He.free_ok X0 G0 (c.t.d.fact 8 (f := .free "tuple") (by rfl))) (by decide +kernel) (by rfl) (by decide) (by decide)) (by rfl) (He.free_ok X0 G0 (c.t.d.fact 1 (f := .free "isinstance") (by rfl))) (by rfl) (by rfl) (by rfl)) (fun _ => (by rfl)))) (xw_or (xt_cmp (op2_eq (by rfl) hr.units) (ex_bi (fb_len (by rfl)) cr_len (by rfl) (He.free_ok X0 G0 (c.t.d.fact 4 (f := .free "len") (by rfl))) (by decide +kernel) (ax_cons (ex_var (i := 0) (by rfl) (by first | exact Or.inl rfl | exact Or.inr (Or.inl rfl) | exact Or.inr (Or.inr rfl)) (by decide) (by decide)) (ax_nil) (by rfl)) (by decide) (by decide) (by rfl) (by rfl)) (ex_cst pe_int (fun _ _ => (by rfl))) (nomark _)) (xw_or1 (xt_not (xt_val (ex_bi (fb_all (by rfl)) (cr_all (by rfl)) (by rfl) (He.free_ok X0 G0 (c.t.d.fact 6 (f := .free "all") (by rfl))) (by decide +kernel) (ax_cons (ex_lc (own := [("part", 2)]) (fun _ _ _ _ => trivial) tt_nil (by decide) (by rfl) hnd (xi_iter (by rfl) (ex_var (i := 0) (by rfl) (by first | exact Or.inl rfl | exact Or.inr (Or.inl rfl) | exact Or.inr (Or.inr rfl)) (by decide) (by decide))) (blkOk_by (own := [("part", 2)]) (N := ["value", "high", "part"]) (sc := defScope s_3) (by decide +kernel)) (fun _ _ _ _ _ => xg_name (i := 2) hnd (by rfl) (by first | exact Or.inl rfl | exact Or.inr rfl) (fun _ _ _ => trivial) (by first | exact Or.inl rfl | exact Or.inr rfl)) (fun _ _ _ _ _ => pts_nil) (fun _ _ _ _ _ => ex_call (ih1) takes0 (hr.mono (by omega)) (by rfl) (He.glo_ok X0 G0 (c.t.d.fact 7 (f := .glo "is_within") (by rfl))) F1.kp (bind_1 F1) (ax_cons (ex_var (i := 2) (by rfl) (by first | exact Or.inl rfl | exact Or.inr (Or.inl rfl) | exact Or.inr (Or.inr rfl)) (by decide) (by decide)) (ax_cons (ex_cst pe_int (fun _ _ => (by rfl))) (ax_cons (ex_var (i := 1) (by rfl) (by first | exact Or.inl rfl | exact Or.inr (Or.inl rfl) | exact Or.inr (Or.inr rfl)) (by decide) (by decide)) (ax_nil) (by rfl)) (by rfl)) (by rfl)) (by decide) (by rfl) (by rfl)) (fun _ => (by rfl))) (ax_nil) (by rfl)) (by decide) (by decide) (by rfl) (by rfl)) (fun _ => (by rfl)))))))) (xs_one (xs_ret (ex_cst pe_bl (fun _ _ => (by rfl))))) (xs_nil)) (
      xs_one (xs_ret (ex_call (ih2) tk (hr.mono (by omega)) (by rfl) (He.glo_ok X0 G0 (c.t.d.fact 9 (f := .glo "is_ascending") (by rfl))) F2.kp (bind_2 F2) (ax_cons (ex_var (i := 0) (by rfl) (by first | exact Or.inl rfl | exact Or.inr (Or.inl rfl) | exact Or.inr (Or.inr rfl)) (by decide) (by decide)) (ax_nil) (by rfl)) (by decide) (by rfl) (by rfl))))
theorem run_4 (n : Nat) : run (n + 1) 4 = body0 2 (b_4 (run n)) := rfl
theorem ok_4 (c : He.SaysX fa fn [] tf exK w h K) (X0 : K.In h) (G0 : h.Ns mainGlobals mg) (tb : ∀ p ∈ tf, LamX.TabB base mg (He.cT K p).1 (He.cT K p).2) {n : Nat} (ih : ∀ j, OkAt P w mg base K n j) : OkAt P w mg base K (n + 1) 4 := by
  intro fd F
  obtain ⟨fd3, F3⟩ := c.t.d.def_ 3 (d := d_3) rfl
  have ih3 := ih 3 fd3 F3
  rw [run_4]
  refine fn_ok (G := GG K) (N := ["value", "n"]) (ps := ["value", "n"]) (k := 2 * n + 3) (fun _ => trivial) F sc_4 fun cdv A outer s H E hr => ?_
  have hnd : (["value", "n"] : List Str).Nodup := sc_4.nd
  have tk := takes_of (X := cxOf (L2.CX P w) P w K mg base ["value", "n"] "is_group" (defScope s_4) (He.fAd K d_4.at_) cdv A outer s H E) rfl rfl rfl rfl
  have hp := passes_of (X := cxOf (L2.CX P w) P w K mg base ["value", "n"] "is_group" (defScope s_4) (He.fAd K d_4.at_) cdv A outer s H E) rfl
  have hcls := clsok c
  unfold b_4 Tx.t_is_group
  exact xs_one (xs_ret (ex_call (ih3) tk (hr.mono (by omega)) (by rfl) (He.glo_ok X0 G0 (c.t.d.fact 10 (f := .glo "is_rising") (by rfl))) F3.kp (bind_3 F3) (ax_cons (ex_var (i := 0) (by rfl) (by first | exact Or.inl rfl | exact Or.inr (Or.inl rfl) | exact Or.inr (Or.inr rfl)) (by decide) (by decide)) (ax_cons (ex_bin (op2_sub) (ex_var (i := 1) (by rfl) (by first | exact Or.inl rfl | exact Or.inr (Or.inl rfl) | exact Or.inr (Or.inr rfl)) (by decide) (by decide)) (ex_cst pe_int (fun _ _ => (by rfl)))) (ax_nil) (by rfl)) (by rfl)) (by decide) (by rfl) (by rfl)))
theorem run_5 (n : Nat) : run (n + 1) 5 = body0 4 (b_5 (run n)) := rfl
theorem ok_5 (c : He.SaysX fa fn [] tf exK w h K) (X0 : K.In h) (G0 : h.Ns mainGlobals mg) (tb : ∀ p ∈ tf, LamX.TabB base mg (He.cT K p).1 (He.cT K p).2) {n : Nat} (ih : ∀ j, OkAt P w mg base K n j) : OkAt P w mg base K (n + 1) 5 := by
  intro fd F
  obtain ⟨fd4, F4⟩ := c.t.d.def_ 4 (d := d_4) rfl
  have ih4 := ih 4 fd4 F4
  obtain ⟨t_MOST_GROUPS, hc_MOST_GROUPS⟩ := He.int_ok X0 G0 (c.t.d.fact 11 (f := .int "MOST_GROUPS" 24) rfl)
  rw [run_5]
  refine fn_ok (G := GG K) (N := ["value", "n", "group", "member"]) (ps := ["value", "n"]) (k := 2 * n + 3) (fun _ => trivial) F sc_5 fun cdv A outer s H E hr => ?_
  have hnd : (["value", "n", "group", "member"] : List Str).Nodup := sc_5.nd
  have tk := takes_of (X := cxOf (L2.CX P w) P w K mg base ["value", "n", "group", "member"] "are_groups" (defScope s_5) (He.fAd K d_5.at_) cdv A outer s H E) rfl rfl rfl rfl
  have hp := passes_of (X := cxOf (L2.CX P w) P w K mg base ["value", "n", "group", "member"] "are_groups" (defScope s_5) (He.fAd K d_5.at_) cdv A outer s H E) rfl
  have hcls := clsok c
  unfold b_5 Tx.t_are_groups
  exact xs_cons (xs_if (PW.pt (xw_or (xt_not (xt_val (ex_isis (by rfl) (.cons (pe_bltn (u := .type "list") (by rfl) (He.free_ok X0 G0 (c.t.d.fact 12 (f := .free "list") (by rfl))) (by decide +kernel) (by rfl) (by decide) (by decide)) (.ty _) (qok_of (cs := cds) hG (cmore c) (by rfl) (by decide) (by decide)) (by rfl) (.cons (pe_bltn (u := .type "tuple") (by rfl) (He.free_ok X0 G0 (c.t.d.fact 8 (f := .free "tuple") (by rfl))) (by decide +kernel) (by rfl) (by decide) (by decide)) (.ty _) (qok_of (cs := cds) hG (cmore c) (by rfl) (by decide) (by decide)) (by rfl) (.nil))) (by simp) (by decide) (ex_var (i := 0) (by rfl) (by first | exact Or.inl rfl | exact Or.inr (Or.inl rfl) | exact Or.inr (Or.inr rfl)) (by decide) (by decide)) (by rfl) (He.free_ok X0 G0 (c.t.d.fact 1 (f := .free "isinstance") (by rfl))) (by rfl) (by rfl) (by rfl)) (fun _ => (by rfl)))) (xw_or1 (xt_cmp (op2_gt) (ex_bi (fb_len (by rfl)) cr_len (by rfl) (He.free_ok X0 G0 (c.t.d.fact 4 (f := .free "len") (by rfl))) (by decide +kernel) (ax_cons (ex_var (i := 0) (by rfl) (by first | exact Or.inl rfl | exact Or.inr (Or.inl rfl) | exact Or.inr (Or.inr rfl)) (by decide) (by decide)) (ax_nil) (by rfl)) (by decide) (by decide) (by rfl) (by rfl)) (ex_cst (d := .int 24) (pe_glob (v := .int 24) (by rfl) hc_MOST_GROUPS ⟨_, (by rfl)⟩ (by decide)) (fun _ _ => (by rfl))) (nomark _))))) (xs_one (xs_ret (ex_cst pe_bl (fun _ _ => (by rfl))))) (xs_nil)) (
      xs_cons (xs_if (PW.pt (xw_or (xt_not (xt_val (ex_bi (fb_all (by rfl)) (cr_all (by rfl)) (by rfl) (He.free_ok X0 G0 (c.t.d.fact 6 (f := .free "all") (by rfl))) (by decide +kernel) (ax_cons (ex_lc (own := [("group", 2)]) (fun _ _ _ _ => trivial) tt_nil (by decide) (by rfl) hnd (xi_iter (by rfl) (ex_var (i := 0) (by rfl) (by first | exact Or.inl rfl | exact Or.inr (Or.inl rfl) | exact Or.inr (Or.inr rfl)) (by decide) (by decide))) (blkOk_by (own := [("group", 2)]) (N := ["value", "n", "group", "member"]) (sc := defScope s_5) (by decide +kernel)) (fun _ _ _ _ _ => xg_name (i := 2) hnd (by rfl) (by first | exact Or.inl rfl | exact Or.inr rfl) (fun _ _ _ => trivial) (by first | exact Or.inl rfl | exact Or.inr rfl)) (fun _ _ _ _ _ => pts_nil) (fun _ _ _ _ _ => ex_call (ih4) takes0 (hr.mono (by omega)) (by rfl) (He.glo_ok X0 G0 (c.t.d.fact 14 (f := .glo "is_group") (by rfl))) F4.kp (bind_4 F4) (ax_cons (ex_var (i := 2) (by rfl) (by first | exact Or.inl rfl | exact Or.inr (Or.inl rfl) | exact Or.inr (Or.inr rfl)) (by decide) (by decide)) (ax_cons (ex_var (i := 1) (by rfl) (by first | exact Or.inl rfl | exact Or.inr (Or.inl rfl) | exact Or.inr (Or.inr rfl)) (by decide) (by decide)) (ax_nil) (by rfl)) (by rfl)) (by decide) (by rfl) (by rfl)) (fun _ => (by rfl))) (ax_nil) (by rfl)) (by decide) (by decide) (by rfl) (by rfl)) (fun _ => (by rfl)))) (xw_or1 (xt_cmp (op2_ne (by rfl) hr.units) (ex_lenset (by rfl) (by rfl) (hu70 hr) (by rfl) (He.free_ok X0 G0 (c.t.d.fact 4 (f := .free "len") (by rfl))) (by rfl) (He.free_ok X0 G0 (c.t.d.fact 13 (f := .free "set") (by rfl))) (ex_var (i := 0) (by rfl) (by first | exact Or.inl rfl | exact Or.inr (Or.inl rfl) | exact Or.inr (Or.inr rfl)) (by decide) (by decide)) (by rfl)) (ex_bi (fb_len (by rfl)) cr_len (by rfl) (He.free_ok X0 G0 (c.t.d.fact 4 (f := .free "len") (by rfl))) (by decide +kernel) (ax_cons (ex_var (i := 0) (by rfl) (by first | exact Or.inl rfl | exact Or.inr (Or.inl rfl) | exact Or.inr (Or.inr rfl)) (by decide) (by decide)) (ax_nil) (by rfl)) (by decide) (by decide) (by rfl) (by rfl)) (nomark _))))) (xs_one (xs_ret (ex_cst pe_bl (fun _ _ => (by rfl))))) (xs_nil)) (
      xs_one (xs_ret (ex_bi (fb_all (by rfl)) (cr_all (by rfl)) (by rfl) (He.free_ok X0 G0 (c.t.d.fact 6 (f := .free "all") (by rfl))) (by decide +kernel) (ax_cons (ex_lc (own := [("member", 3)]) (fun _ _ _ _ => trivial) tt_nil (by decide) (by rfl) hnd (xi_range1 (by rfl) (He.free_ok X0 G0 (c.t.d.fact 5 (f := .free "range") (by rfl))) (ax_cons (ex_var (i := 1) (by rfl) (by first | exact Or.inl rfl | exact Or.inr (Or.inl rfl) | exact Or.inr (Or.inr rfl)) (by decide) (by decide)) (ax_nil) (by rfl)) (by rfl)) (blkOk_by (own := [("member", 3)]) (N := ["value", "n", "group", "member"]) (sc := defScope s_5) (by decide +kernel)) (fun _ _ _ _ _ => xg_name (i := 3) hnd (by rfl) (by first | exact Or.inl rfl | exact Or.inr rfl) (fun _ _ _ => trivial) (by first | exact Or.inl rfl | exact Or.inr rfl)) (fun _ _ _ _ _ => pts_nil) (fun _ _ _ _ _ => ex_cmp (op2_in (by rfl) (hu65 hr)) (ex_tup (ax_cons (ex_var (i := 3) (by rfl) (by first | exact Or.inl rfl | exact Or.inr (Or.inl rfl) | exact Or.inr (Or.inr rfl)) (by decide) (by decide)) (ax_nil) (by rfl))) (ex_var (i := 0) (by rfl) (by first | exact Or.inl rfl | exact Or.inr (Or.inl rfl) | exact Or.inr (Or.inr rfl)) (by decide) (by decide)) (by with_unfolding_all rfl)) (fun _ => (by rfl))) (ax_nil) (by rfl)) (by decide) (by decide) (by rfl) (by rfl)))))
theorem run_6 (n : Nat) : run (n + 1) 6 = body0 3 (b_6 (run n)) := rfl
theorem ok_6 (c : He.SaysX fa fn [] tf exK w h K) (X0 : K.In h) (G0 : h.Ns mainGlobals mg) (tb : ∀ p ∈ tf, LamX.TabB base mg (He.cT K p).1 (He.cT K p).2) {n : Nat} (ih : ∀ j, OkAt P w mg base K n j) : OkAt P w mg base K (n + 1) 6 := by
  intro fd F
  obtain ⟨fd1, F1⟩ := c.t.d.def_ 1 (d := d_1) rfl
  have ih1 := ih 1 fd1 F1
  obtain ⟨fd5, F5⟩ := c.t.d.def_ 5 (d := d_5) rfl
  have ih5 := ih 5 fd5 F5
  obtain ⟨fx0, Fx0⟩ := c.t.d.def_ 33 (d := d_33) rfl
  have xi0 := init_one (P := P) (w := w) (mg := mg) (base := base) (G := GG K) Fx0 sc_33 rfl rfl (by decide) (by decide)
  have xb0 := bind_33 Fx0
  obtain ⟨fx1, Fx1⟩ := c.t.d.def_ 34 (d := d_34) rfl
  have xi1 := init_one (P := P) (w := w) (mg := mg) (base := base) (G := GG K) Fx1 sc_34 rfl rfl (by decide) (by decide)
  have xb1 := bind_34 Fx1
  rw [run_6]
  refine fn_ok (G := GG K) (N := ["self", "n", "groups"]) (ps := ["self", "n", "groups"]) (k := 2 * n + 3) (fun _ => trivial) F sc_6 fun cdv A outer s H E hr => ?_
  have hnd : (["self", "n", "groups"] : List Str).Nodup := sc_6.nd
  have tk := takes_of (X := cxOf (L2.CX P w) P w K mg base ["self", "n", "groups"] "Collection.__init__" (defScope s_6) (He.fAd K d_6.at_) cdv A outer s H E) rfl rfl rfl rfl
  have hp := passes_of (X := cxOf (L2.CX P w) P w K mg base ["self", "n", "groups"] "Collection.__init__" (defScope s_6) (He.fAd K d_6.at_) cdv A outer s H E) rfl
  have hcls := clsok c
  unfold b_6 Tx.t_Collection_init
  exact xs_cons (xs_if (xt_not (xt_val (ex_call (ih1) tk (hr.mono (by omega)) (by rfl) (He.glo_ok X0 G0 (c.t.d.fact 7 (f := .glo "is_within") (by rfl))) F1.kp (bind_1 F1) (ax_cons (ex_var (i := 1) (by rfl) (by first | exact Or.inl rfl | exact Or.inr (Or.inl rfl) | exact Or.inr (Or.inr rfl)) (by decide) (by decide)) (ax_cons (ex_cst pe_int (fun _ _ => (by rfl))) (ax_cons (ex_cst pe_int (fun _ _ => (by rfl))) (ax_nil) (by rfl)) (by rfl)) (by rfl)) (by decide) (by rfl) (by rfl)) (fun _ => (by rfl)))) (xs_one (xs_raise (c := 0) (fs := ["value"]) (by rfl) (by rfl) tk (ClsD.excOk (clsEx_at (cmore c) (i := 0) (d := cd_0) (by rfl)) (by rfl)).1 (ClsD.excOk (clsEx_at (cmore c) (i := 0) (d := cd_0) (by rfl)) (by rfl)).2.2.2.2 (ClsD.excOk (clsEx_at (cmore c) (i := 0) (d := cd_0) (by rfl)) (by rfl)).2.2.1 (ClsD.excOk (clsEx_at (cmore c) (i := 0) (d := cd_0) (by rfl)) (by rfl)).2.2.2.1 xi0 (hr.mono (by omega)) xb0 (by rfl) (He.glo_ok X0 G0 (c.t.d.fact 15 (f := .glo "InvalidNumber") (by rfl))) (ax_cons (ex_var (i := 1) (by rfl) (by first | exact Or.inl rfl | exact Or.inr (Or.inl rfl) | exact Or.inr (Or.inr rfl)) (by decide) (by decide)) (ax_nil) (by rfl)) (by decide) (by rfl) (by rfl))) (xs_nil)) (
      xs_cons (xs_if (xt_not (xt_val (ex_call (ih5) tk (hr.mono (by omega)) (by rfl) (He.glo_ok X0 G0 (c.t.d.fact 16 (f := .glo "are_groups") (by rfl))) F5.kp (bind_5 F5) (ax_cons (ex_var (i := 2) (by rfl) (by first | exact Or.inl rfl | exact Or.inr (Or.inl rfl) | exact Or.inr (Or.inr rfl)) (by decide) (by decide)) (ax_cons (ex_var (i := 1) (by rfl) (by first | exact Or.inl rfl | exact Or.inr (Or.inl rfl) | exact Or.inr (Or.inr rfl)) (by decide) (by decide)) (ax_nil) (by rfl)) (by rfl)) (by decide) (by rfl) (by rfl)) (fun _ => (by rfl)))) (xs_one (xs_raise (c := 1) (fs := ["value"]) (by rfl) (by rfl) tk (ClsD.excOk (clsEx_at (cmore c) (i := 1) (d := cd_1) (by rfl)) (by rfl)).1 (ClsD.excOk (clsEx_at (cmore c) (i := 1) (d := cd_1) (by rfl)) (by rfl)).2.2.2.2 (ClsD.excOk (clsEx_at (cmore c) (i := 1) (d := cd_1) (by rfl)) (by rfl)).2.2.1 (ClsD.excOk (clsEx_at (cmore c) (i := 1) (d := cd_1) (by rfl)) (by rfl)).2.2.2.1 xi1 (hr.mono (by omega)) xb1 (by rfl) (He.glo_ok X0 G0 (c.t.d.fact 17 (f := .glo "InvalidGroups") (by rfl))) (ax_cons (ex_var (i := 2) (by rfl) (by first | exact Or.inl rfl | exact Or.inr (Or.inl rfl) | exact Or.inr (Or.inr rfl)) (by decide) (by decide)) (ax_nil) (by rfl)) (by decide) (by rfl) (by rfl))) (xs_nil)) (
      xs_cons (xs_fld (by rfl) hcls (ex_var (i := 0) (by rfl) (by first | exact Or.inl rfl | exact Or.inr (Or.inl rfl) | exact Or.inr (Or.inr rfl)) (by decide) (by decide)) (ex_var (i := 1) (by rfl) (by first | exact Or.inl rfl | exact Or.inr (Or.inl rfl) | exact Or.inr (Or.inr rfl)) (by decide) (by decide)) (by rfl)) (
      xs_one (xs_fld (by rfl) hcls (ex_var (i := 0) (by rfl) (by first | exact Or.inl rfl | exact Or.inr (Or.inl rfl) | exact Or.inr (Or.inr rfl)) (by decide) (by decide)) (ex_ty (fb_tuple (by rfl)) call_tupF (by rfl) (He.free_ok X0 G0 (c.t.d.fact 8 (f := .free "tuple") (by rfl))) (by decide +kernel) (ax_cons (ex_var (i := 2) (by rfl) (by first | exact Or.inl rfl | exact Or.inr (Or.inl rfl) | exact Or.inr (Or.inr rfl)) (by decide) (by decide)) (ax_nil) (by rfl)) (by decide) (by decide) (by rfl) (by rfl)) (by rfl)))))
theorem run_7 (n : Nat) : run (n + 1) 7 = body0 2 (b_7 (run n)) := rfl
theorem ok_7 (c : He.SaysX fa fn [] tf exK w h K) (X0 : K.In h) (G0 : h.Ns mainGlobals mg) (tb : ∀ p ∈ tf, LamX.TabB base mg (He.cT K p).1 (He.cT K p).2) {n : Nat} (ih : ∀ j, OkAt P w mg base K n j) : OkAt P w mg base K (n + 1) 7 := by
  intro fd F

  rw [run_7]
  refine fn_ok (G := GG K) (N := ["collection", "group"]) (ps := ["collection"]) (k := 2 * n + 3) (fun _ => trivial) F sc_7 fun cdv A outer s H E hr => ?_
  have hnd : (["collection", "group"] : List Str).Nodup := sc_7.nd
  have tk := takes_of (X := cxOf (L2.CX P w) P w K mg base ["collection", "group"] "is_pairs" (defScope s_7) (He.fAd K d_7.at_) cdv A outer s H E) rfl rfl rfl rfl
  have hp := passes_of (X := cxOf (L2.CX P w) P w K mg base ["collection", "group"] "is_pairs" (defScope s_7) (He.fAd K d_7.at_) cdv A outer s H E) rfl
  have hcls := clsok c
  unfold b_7 Tx.t_is_pairs
  exact xs_one (xs_ret (ex_bi (fb_all (by rfl)) (cr_all (by rfl)) (by rfl) (He.free_ok X0 G0 (c.t.d.fact 6 (f := .free "all") (by rfl))) (by decide +kernel) (ax_cons (ex_lc (own := [("group", 1)]) (fun _ _ _ _ => trivial) tt_nil (by decide) (by rfl) hnd (xi_iter (by rfl) (ex_fld (by rfl) hcls (ex_var (i := 0) (by rfl) (by first | exact Or.inl rfl | exact Or.inr (Or.inl rfl) | exact Or.inr (Or.inr rfl)) (by decide) (by decide)) (by rfl))) (blkOk_by (own := [("group", 1)]) (N := ["collection", "group"]) (sc := defScope s_7) (by decide +kernel)) (fun _ _ _ _ _ => xg_name (i := 1) hnd (by rfl) (by first | exact Or.inl rfl | exact Or.inr rfl) (fun _ _ _ => trivial) (by first | exact Or.inl rfl | exact Or.inr rfl)) (fun _ _ _ _ _ => pts_nil) (fun _ _ _ _ _ => ex_cmp (op2_le) (ex_bi (fb_len (by rfl)) cr_len (by rfl) (He.free_ok X0 G0 (c.t.d.fact 4 (f := .free "len") (by rfl))) (by decide +kernel) (ax_cons (ex_var (i := 1) (by rfl) (by first | exact Or.inl rfl | exact Or.inr (Or.inl rfl) | exact Or.inr (Or.inr rfl)) (by decide) (by decide)) (ax_nil) (by rfl)) (by decide) (by decide) (by rfl) (by rfl)) (ex_cst pe_int (fun _ _ => (by rfl))) (nomark _)) (fun _ => (by rfl))) (ax_nil) (by rfl)) (by decide) (by decide) (by rfl) (by rfl)))
theorem run_8 (n : Nat) : run (n + 1) 8 = body0 1 (b_8 (run n)) := rfl
theorem ok_8 (c : He.SaysX fa fn [] tf exK w h K) (X0 : K.In h) (G0 : h.Ns mainGlobals mg) (tb : ∀ p ∈ tf, LamX.TabB base mg (He.cT K p).1 (He.cT K p).2) {n : Nat} (ih : ∀ j, OkAt P w mg base K n j) : OkAt P w mg base K (n + 1) 8 := by
  intro fd F
  obtain ⟨fd7, F7⟩ := c.t.d.def_ 7 (d := d_7) rfl
  have ih7 := ih 7 fd7 F7
  obtain ⟨fx2, Fx2⟩ := c.t.d.def_ 35 (d := d_35) rfl
  have xi2 := init_one (P := P) (w := w) (mg := mg) (base := base) (G := GG K) Fx2 sc_35 rfl rfl (by decide) (by decide)
  have xb2 := bind_35 Fx2
  rw [run_8]
  refine fn_ok (G := GG K) (N := ["collection"]) (ps := ["collection"]) (k := 2 * n + 3) (fun _ => trivial) F sc_8 fun cdv A outer s H E hr => ?_
  have hnd : (["collection"] : List Str).Nodup := sc_8.nd
  have tk := takes_of (X := cxOf (L2.CX P w) P w K mg base ["collection"] "require_pairs" (defScope s_8) (He.fAd K d_8.at_) cdv A outer s H E) rfl rfl rfl rfl
  have hp := passes_of (X := cxOf (L2.CX P w) P w K mg base ["collection"] "require_pairs" (defScope s_8) (He.fAd K d_8.at_) cdv A outer s H E) rfl
  have hcls := clsok c
  unfold b_8 Tx.t_require_pairs
  exact xs_one (xs_if (xt_not (xt_val (ex_call (ih7) tk (hr.mono (by omega)) (by rfl) (He.glo_ok X0 G0 (c.t.d.fact 18 (f := .glo "is_pairs") (by rfl))) F7.kp (bind_7 F7) (ax_cons (ex_var (i := 0) (by rfl) (by first | exact Or.inl rfl | exact Or.inr (Or.inl rfl) | exact Or.inr (Or.inr rfl)) (by decide) (by decide)) (ax_nil) (by rfl)) (by decide) (by rfl) (by rfl)) (fun _ => (by rfl)))) (xs_one (xs_raise (c := 2) (fs := ["what"]) (by rfl) (by rfl) tk (ClsD.excOk (clsEx_at (cmore c) (i := 2) (d := cd_2) (by rfl)) (by rfl)).1 (ClsD.excOk (clsEx_at (cmore c) (i := 2) (d := cd_2) (by rfl)) (by rfl)).2.2.2.2 (ClsD.excOk (clsEx_at (cmore c) (i := 2) (d := cd_2) (by rfl)) (by rfl)).2.2.1 (ClsD.excOk (clsEx_at (cmore c) (i := 2) (d := cd_2) (by rfl)) (by rfl)).2.2.2.1 xi2 (hr.mono (by omega)) xb2 (by rfl) (He.glo_ok X0 G0 (c.t.d.fact 19 (f := .glo "Undefined") (by rfl))) (ax_cons (ex_cst pe_str (fun _ _ => (by rfl))) (ax_nil) (by rfl)) (by decide) (by rfl) (by rfl))) (xs_nil))
theorem run_9 (n : Nat) : run (n + 1) 9 = body0 2 (b_9 (run n)) := rfl
theorem ok_9 (c : He.SaysX fa fn [] tf exK w h K) (X0 : K.In h) (G0 : h.Ns mainGlobals mg) (tb : ∀ p ∈ tf, LamX.TabB base mg (He.cT K p).1 (He.cT K p).2) {n : Nat} (ih : ∀ j, OkAt P w mg base K n j) : OkAt P w mg base K (n + 1) 9 := by
  intro fd F

  rw [run_9]
  refine fn_ok (G := GG K) (N := ["one", "other"]) (ps := ["one", "other"]) (k := 2 * n + 3) (fun _ => trivial) F sc_9 fun cdv A outer s H E hr => ?_
  have hnd : (["one", "other"] : List Str).Nodup := sc_9.nd
  have tk := takes_of (X := cxOf (L2.CX P w) P w K mg base ["one", "other"] "pair_of" (defScope s_9) (He.fAd K d_9.at_) cdv A outer s H E) rfl rfl rfl rfl
  have hp := passes_of (X := cxOf (L2.CX P w) P w K mg base ["one", "other"] "pair_of" (defScope s_9) (He.fAd K d_9.at_) cdv A outer s H E) rfl
  have hcls := clsok c
  unfold b_9 Tx.t_pair_of
  exact xs_cons (xs_if (xt_cmp (op2_eq (by rfl) hr.units) (ex_var (i := 0) (by rfl) (by first | exact Or.inl rfl | exact Or.inr (Or.inl rfl) | exact Or.inr (Or.inr rfl)) (by decide) (by decide)) (ex_var (i := 1) (by rfl) (by first | exact Or.inl rfl | exact Or.inr (Or.inl rfl) | exact Or.inr (Or.inr rfl)) (by decide) (by decide)) (nomark _)) (xs_one (xs_ret (ex_tup (ax_cons (ex_var (i := 0) (by rfl) (by first | exact Or.inl rfl | exact Or.inr (Or.inl rfl) | exact Or.inr (Or.inr rfl)) (by decide) (by decide)) (ax_nil) (by rfl))))) (xs_nil)) (
      xs_one (xs_ret (ex_tup (ax_cons (ex_bi fb_min2 (call_min2 (by rfl)) (by rfl) (He.free_ok X0 G0 (c.t.d.fact 21 (f := .free "min") (by rfl))) (by decide +kernel) (ax_cons (ex_var (i := 0) (by rfl) (by first | exact Or.inl rfl | exact Or.inr (Or.inl rfl) | exact Or.inr (Or.inr rfl)) (by decide) (by decide)) (ax_cons (ex_var (i := 1) (by rfl) (by first | exact Or.inl rfl | exact Or.inr (Or.inl rfl) | exact Or.inr (Or.inr rfl)) (by decide) (by decide)) (ax_nil) (by rfl)) (by rfl)) (by decide) (by decide) (by rfl) (by rfl)) (ax_cons (ex_bi fb_max2 (call_max2 (by rfl)) (by rfl) (He.free_ok X0 G0 (c.t.d.fact 20 (f := .free "max") (by rfl))) (by decide +kernel) (ax_cons (ex_var (i := 0) (by rfl) (by first | exact Or.inl rfl | exact Or.inr (Or.inl rfl) | exact Or.inr (Or.inr rfl)) (by decide) (by decide)) (ax_cons (ex_var (i := 1) (by rfl) (by first | exact Or.inl rfl | exact Or.inr (Or.inl rfl) | exact Or.inr (Or.inr rfl)) (by decide) (by decide)) (ax_nil) (by rfl)) (by rfl)) (by decide) (by decide) (by rfl) (by rfl)) (ax_nil) (by rfl)) (by rfl)))))
theorem run_10 (n : Nat) : run (n + 1) 10 = body0 3 (b_10 (run n)) := rfl
theorem ok_10 (c : He.SaysX fa fn [] tf exK w h K) (X0 : K.In h) (G0 : h.Ns mainGlobals mg) (tb : ∀ p ∈ tf, LamX.TabB base mg (He.cT K p).1 (He.cT K p).2) {n : Nat} (ih : ∀ j, OkAt P w mg base K n j) : OkAt P w mg base K (n + 1) 10 := by
  intro fd F
  obtain ⟨fd9, F9⟩ := c.t.d.def_ 9 (d := d_9) rfl
  have ih9 := ih 9 fd9 F9
  rw [run_10]
  refine fn_ok (G := GG K) (N := ["collection", "member", "other"]) (ps := ["collection", "member"]) (k := 2 * n + 3) (fun _ => trivial) F sc_10 fun cdv A outer s H E hr => ?_
  have hnd : (["collection", "member", "other"] : List Str).Nodup := sc_10.nd
  have tk := takes_of (X := cxOf (L2.CX P w) P w K mg base ["collection", "member", "other"] "partners" (defScope s_10) (He.fAd K d_10.at_) cdv A outer s H E) rfl rfl rfl rfl
  have hp := passes_of (X := cxOf (L2.CX P w) P w K mg base ["collection", "member", "other"] "partners" (defScope s_10) (He.fAd K d_10.at_) cdv A outer s H E) rfl
  have hcls := clsok c
  unfold b_10 Tx.t_partners
  exact xs_one (xs_ret (ex_lc (own := [("other", 2)]) (fun _ _ _ _ => trivial) tt_one (by decide) (by rfl) hnd (xi_range1 (by rfl) (He.free_ok X0 G0 (c.t.d.fact 5 (f := .free "range") (by rfl))) (ax_cons (ex_fld (by rfl) hcls (ex_var (i := 0) (by rfl) (by first | exact Or.inl rfl | exact Or.inr (Or.inl rfl) | exact Or.inr (Or.inr rfl)) (by decide) (by decide)) (by rfl)) (ax_nil) (by rfl)) (by rfl)) (blkOk_by (own := [("other", 2)]) (N := ["collection", "member", "other"]) (sc := defScope s_10) (by decide +kernel)) (fun _ _ _ _ _ => xg_name (i := 2) hnd (by rfl) (by first | exact Or.inl rfl | exact Or.inr rfl) (fun _ _ _ => trivial) (by first | exact Or.inl rfl | exact Or.inr rfl)) (fun _ _ _ _ _ => pts_one (PW.pt (xw_and (xt_cmp (op2_ne (by rfl) hr.units) (ex_var (i := 2) (by rfl) (by first | exact Or.inl rfl | exact Or.inr (Or.inl rfl) | exact Or.inr (Or.inr rfl)) (by decide) (by decide)) (ex_var (i := 1) (by rfl) (by first | exact Or.inl rfl | exact Or.inr (Or.inl rfl) | exact Or.inr (Or.inr rfl)) (by decide) (by decide)) (nomark _)) (xw_and1 (xt_cmp (op2_in (by rfl) (hu65 hr)) (ex_call (ih9) takes0 (hr.mono (by omega)) (by rfl) (He.glo_ok X0 G0 (c.t.d.fact 22 (f := .glo "pair_of") (by rfl))) F9.kp (bind_9 F9) (ax_cons (ex_var (i := 1) (by rfl) (by first | exact Or.inl rfl | exact Or.inr (Or.inl rfl) | exact Or.inr (Or.inr rfl)) (by decide) (by decide)) (ax_cons (ex_var (i := 2) (by rfl) (by first | exact Or.inl rfl | exact Or.inr (Or.inl rfl) | exact Or.inr (Or.inr rfl)) (by decide) (by decide)) (ax_nil) (by rfl)) (by rfl)) (by decide) (by rfl) (by rfl)) (ex_fld (by rfl) hcls (ex_var (i := 0) (by rfl) (by first | exact Or.inl rfl | exact Or.inr (Or.inl rfl) | exact Or.inr (Or.inr rfl)) (by decide) (by decide)) (by rfl)) (by with_unfolding_all rfl)))))) (fun _ _ _ _ _ => ex_var (i := 2) (by rfl) (by first | exact Or.inl rfl | exact Or.inr (Or.inl rfl) | exact Or.inr (Or.inr rfl)) (by decide) (by decide)) (fun _ => (by rfl))))
theorem run_11 (n : Nat) : run (n + 1) 11 = body0 6 (b_11 (run n)) := rfl
theorem ok_11 (c : He.SaysX fa fn [] tf exK w h K) (X0 : K.In h) (G0 : h.Ns mainGlobals mg) (tb : ∀ p ∈ tf, LamX.TabB base mg (He.cT K p).1 (He.cT K p).2) {n : Nat} (ih : ∀ j, OkAt P w mg base K n j) : OkAt P w mg base K (n + 1) 11 := by
  intro fd F
  obtain ⟨fd10, F10⟩ := c.t.d.def_ 10 (d := d_10) rfl
  have ih10 := ih 10 fd10 F10
  rw [run_11]
  refine fn_ok (G := GG K) (N := ["collection", "sides", "start", "waiting", "member", "other"]) (ps := ["collection"]) (k := 2 * n + 3) (fun _ => trivial) F sc_11 fun cdv A outer s H E hr => ?_
  have hnd : (["collection", "sides", "start", "waiting", "member", "other"] : List Str).Nodup := sc_11.nd
  have tk := takes_of (X := cxOf (L2.CX P w) P w K mg base ["collection", "sides", "start", "waiting", "member", "other"] "found_sides" (defScope s_11) (He.fAd K d_11.at_) cdv A outer s H E) rfl rfl rfl rfl
  have hp := passes_of (X := cxOf (L2.CX P w) P w K mg base ["collection", "sides", "start", "waiting", "member", "other"] "found_sides" (defScope s_11) (He.fAd K d_11.at_) cdv A outer s H E) rfl
  have hcls := clsok c
  unfold b_11 Tx.t_found_sides
  exact xs_cons (xs_set (i := 1) hnd (by rfl) (by first | exact Or.inl rfl | exact Or.inr rfl) (fun _ _ _ => trivial) (ex_dnewK) (by rfl) (by first | exact Or.inl rfl | exact Or.inr rfl)) (
      xs_cons (xs_for hp (by rfl) (xi_range1 (by rfl) (He.free_ok X0 G0 (c.t.d.fact 5 (f := .free "range") (by rfl))) (ax_cons (ex_fld (by rfl) hcls (ex_var (i := 0) (by rfl) (by first | exact Or.inl rfl | exact Or.inr (Or.inl rfl) | exact Or.inr (Or.inr rfl)) (by decide) (by decide)) (by rfl)) (ax_nil) (by rfl)) (by rfl)) (xg_name (i := 2) hnd (by rfl) (by first | exact Or.inl rfl | exact Or.inr rfl) (fun _ _ _ => trivial) (by first | exact Or.inl rfl | exact Or.inr rfl)) (xs_one (xs_if (xt_dninK (hu1 hr) (ex_var (i := 2) (by rfl) (by first | exact Or.inl rfl | exact Or.inr (Or.inl rfl) | exact Or.inr (Or.inr rfl)) (by decide) (by decide)) (ex_var (i := 1) (by rfl) (by first | exact Or.inl rfl | exact Or.inr (Or.inl rfl) | exact Or.inr (Or.inr rfl)) (by decide) (by decide)) (by with_unfolding_all rfl)) (xs_cons (xs_dputK (hu1 hr) (ex_var (i := 1) (by rfl) (by first | exact Or.inl rfl | exact Or.inr (Or.inl rfl) | exact Or.inr (Or.inr rfl)) (by decide) (by decide)) (ex_var (i := 2) (by rfl) (by first | exact Or.inl rfl | exact Or.inr (Or.inl rfl) | exact Or.inr (Or.inr rfl)) (by decide) (by decide)) (ex_cst pe_int (fun _ _ => (by rfl))) (by rfl)) (
      xs_cons (xs_set (i := 3) hnd (by rfl) (by first | exact Or.inl rfl | exact Or.inr rfl) (fun _ _ _ => trivial) (ex_lst (ax_cons (ex_var (i := 2) (by rfl) (by first | exact Or.inl rfl | exact Or.inr (Or.inl rfl) | exact Or.inr (Or.inr rfl)) (by decide) (by decide)) (ax_nil) (by rfl))) (by rfl) (by first | exact Or.inl rfl | exact Or.inr rfl)) (
      xs_one (xs_while (n := 100000) hp (xt_cmp (op2_gt) (ex_bi (fb_len (by rfl)) cr_len (by rfl) (He.free_ok X0 G0 (c.t.d.fact 4 (f := .free "len") (by rfl))) (by decide +kernel) (ax_cons (ex_var (i := 3) (by rfl) (by first | exact Or.inl rfl | exact Or.inr (Or.inl rfl) | exact Or.inr (Or.inr rfl)) (by decide) (by decide)) (ax_nil) (by rfl)) (by decide) (by decide) (by rfl) (by rfl)) (ex_cst pe_int (fun _ _ => (by rfl))) (nomark _)) (xs_cons (xs_set (i := 4) hnd (by rfl) (by first | exact Or.inl rfl | exact Or.inr rfl) (fun _ _ _ => trivial) (ex_lm0 (by rfl) lm_pop PySem.F.plainAttrs_list PySem.F.slot_list_pop PySem.F.type_list_pop mt_pop (ex_var (i := 3) (by rfl) (by first | exact Or.inl rfl | exact Or.inr (Or.inl rfl) | exact Or.inr (Or.inr rfl)) (by decide) (by decide)) (by rfl) (by rfl)) (by rfl) (by first | exact Or.inl rfl | exact Or.inr rfl)) (
      xs_one (xs_for hp (by rfl) (xi_iter (by rfl) (ex_call (ih10) tk (hr.mono (by omega)) (by rfl) (He.glo_ok X0 G0 (c.t.d.fact 23 (f := .glo "partners") (by rfl))) F10.kp (bind_10 F10) (ax_cons (ex_var (i := 0) (by rfl) (by first | exact Or.inl rfl | exact Or.inr (Or.inl rfl) | exact Or.inr (Or.inr rfl)) (by decide) (by decide)) (ax_cons (ex_var (i := 4) (by rfl) (by first | exact Or.inl rfl | exact Or.inr (Or.inl rfl) | exact Or.inr (Or.inr rfl)) (by decide) (by decide)) (ax_nil) (by rfl)) (by rfl)) (by decide) (by rfl) (by rfl))) (xg_name (i := 5) hnd (by rfl) (by first | exact Or.inl rfl | exact Or.inr rfl) (fun _ _ _ => trivial) (by first | exact Or.inl rfl | exact Or.inr rfl)) (xs_one (xs_if (xt_dninK (hu1 hr) (ex_var (i := 5) (by rfl) (by first | exact Or.inl rfl | exact Or.inr (Or.inl rfl) | exact Or.inr (Or.inr rfl)) (by decide) (by decide)) (ex_var (i := 1) (by rfl) (by first | exact Or.inl rfl | exact Or.inr (Or.inl rfl) | exact Or.inr (Or.inr rfl)) (by decide) (by decide)) (by with_unfolding_all rfl)) (xs_cons (xs_dputK (hu1 hr) (ex_var (i := 1) (by rfl) (by first | exact Or.inl rfl | exact Or.inr (Or.inl rfl) | exact Or.inr (Or.inr rfl)) (by decide) (by decide)) (ex_var (i := 5) (by rfl) (by first | exact Or.inl rfl | exact Or.inr (Or.inl rfl) | exact Or.inr (Or.inr rfl)) (by decide) (by decide)) (ex_bin (op2_sub) (ex_cst pe_int (fun _ _ => (by rfl))) (ex_dgetK (hu1 hr) (ex_var (i := 1) (by rfl) (by first | exact Or.inl rfl | exact Or.inr (Or.inl rfl) | exact Or.inr (Or.inr rfl)) (by decide) (by decide)) (ex_var (i := 4) (by rfl) (by first | exact Or.inl rfl | exact Or.inr (Or.inl rfl) | exact Or.inr (Or.inr rfl)) (by decide) (by decide)) (fun _ _ => (by rfl)))) (by rfl)) (
      xs_one (xs_drop (ex_lm (by rfl) lm_append PySem.F.plainAttrs_list PySem.F.slot_list_append PySem.F.type_list_append mt_append (ex_var (i := 3) (by rfl) (by first | exact Or.inl rfl | exact Or.inr (Or.inl rfl) | exact Or.inr (Or.inr rfl)) (by decide) (by decide)) (ax_cons (ex_var (i := 5) (by rfl) (by first | exact Or.inl rfl | exact Or.inr (Or.inl rfl) | exact Or.inr (Or.inr rfl)) (by decide) (by decide)) (ax_nil) (by rfl)) (by rfl) (by rfl) (by rfl) (by rfl) (by rfl)) (by rfl)))) (xs_one (xs_if (xt_cmp (op2_eq (by rfl) hr.units) (ex_dgetK (hu1 hr) (ex_var (i := 1) (by rfl) (by first | exact Or.inl rfl | exact Or.inr (Or.inl rfl) | exact Or.inr (Or.inr rfl)) (by decide) (by decide)) (ex_var (i := 5) (by rfl) (by first | exact Or.inl rfl | exact Or.inr (Or.inl rfl) | exact Or.inr (Or.inr rfl)) (by decide) (by decide)) (fun _ _ => (by rfl))) (ex_dgetK (hu1 hr) (ex_var (i := 1) (by rfl) (by first | exact Or.inl rfl | exact Or.inr (Or.inl rfl) | exact Or.inr (Or.inr rfl)) (by decide) (by decide)) (ex_var (i := 4) (by rfl) (by first | exact Or.inl rfl | exact Or.inr (Or.inl rfl) | exact Or.inr (Or.inr rfl)) (by decide) (by decide)) (fun _ _ => (by rfl))) (nomark _)) (xs_one (xs_ret (ex_cst pe_non (fun _ _ => (by rfl))))) (xs_nil))))) (fun _ => (by rfl))))))))) (xs_nil))) (fun _ => (by rfl))) (
      xs_one (xs_ret (ex_ty (fb_tuple (by rfl)) call_tupF (by rfl) (He.free_ok X0 G0 (c.t.d.fact 8 (f := .free "tuple") (by rfl))) (by decide +kernel) (ax_cons (ex_lc (own := [("member", 4)]) (fun _ _ _ _ => trivial) tt_nil (by decide) (by rfl) hnd (xi_range1 (by rfl) (He.free_ok X0 G0 (c.t.d.fact 5 (f := .free "range") (by rfl))) (ax_cons (ex_fld (by rfl) hcls (ex_var (i := 0) (by rfl) (by first | exact Or.inl rfl | exact Or.inr (Or.inl rfl) | exact Or.inr (Or.inr rfl)) (by decide) (by decide)) (by rfl)) (ax_nil) (by rfl)) (by rfl)) (blkOk_by (own := [("member", 4)]) (N := ["collection", "sides", "start", "waiting", "member", "other"]) (sc := defScope s_11) (by decide +kernel)) (fun _ _ _ _ _ => xg_name (i := 4) hnd (by rfl) (by first | exact Or.inl rfl | exact Or.inr rfl) (fun _ _ _ => trivial) (by first | exact Or.inl rfl | exact Or.inr rfl)) (fun _ _ _ _ _ => pts_nil) (fun _ _ _ _ _ => ex_dgetK (hu1 hr) (ex_var (i := 1) (by rfl) (by first | exact Or.inl rfl | exact Or.inr (Or.inl rfl) | exact Or.inr (Or.inr rfl)) (by decide) (by decide)) (ex_var (i := 4) (by rfl) (by first | exact Or.inl rfl | exact Or.inr (Or.inl rfl) | exact Or.inr (Or.inr rfl)) (by decide) (by decide)) (fun _ _ => (by rfl))) (fun _ => (by rfl))) (ax_nil) (by rfl)) (by decide) (by decide) (by rfl) (by rfl)))))
theorem run_12 (n : Nat) : run (n + 1) 12 = body0 2 (b_12 (run n)) := rfl
theorem ok_12 (c : He.SaysX fa fn [] tf exK w h K) (X0 : K.In h) (G0 : h.Ns mainGlobals mg) (tb : ∀ p ∈ tf, LamX.TabB base mg (He.cT K p).1 (He.cT K p).2) {n : Nat} (ih : ∀ j, OkAt P w mg base K n j) : OkAt P w mg base K (n + 1) 12 := by
  intro fd F
  obtain ⟨fd8, F8⟩ := c.t.d.def_ 8 (d := d_8) rfl
  have ih8 := ih 8 fd8 F8
  obtain ⟨fd11, F11⟩ := c.t.d.def_ 11 (d := d_11) rfl
  have ih11 := ih 11 fd11 F11
  obtain ⟨fx2, Fx2⟩ := c.t.d.def_ 35 (d := d_35) rfl
  have xi2 := init_one (P := P) (w := w) (mg := mg) (base := base) (G := GG K) Fx2 sc_35 rfl rfl (by decide) (by decide)
  have xb2 := bind_35 Fx2
  rw [run_12]
  refine fn_ok (G := GG K) (N := ["collection", "found"]) (ps := ["collection"]) (k := 2 * n + 3) (fun _ => trivial) F sc_12 fun cdv A outer s H E hr => ?_
  have hnd : (["collection", "found"] : List Str).Nodup := sc_12.nd
  have tk := takes_of (X := cxOf (L2.CX P w) P w K mg base ["collection", "found"] "sides" (defScope s_12) (He.fAd K d_12.at_) cdv A outer s H E) rfl rfl rfl rfl
  have hp := passes_of (X := cxOf (L2.CX P w) P w K mg base ["collection", "found"] "sides" (defScope s_12) (He.fAd K d_12.at_) cdv A outer s H E) rfl
  have hcls := clsok c
  unfold b_12 Tx.t_sides
  exact xs_cons (xs_drop (ex_call (ih8) tk (hr.mono (by omega)) (by rfl) (He.glo_ok X0 G0 (c.t.d.fact 24 (f := .glo "require_pairs") (by rfl))) F8.kp (bind_8 F8) (ax_cons (ex_var (i := 0) (by rfl) (by first | exact Or.inl rfl | exact Or.inr (Or.inl rfl) | exact Or.inr (Or.inr rfl)) (by decide) (by decide)) (ax_nil) (by rfl)) (by decide) (by rfl) (by rfl)) (by rfl)) (
      xs_cons (xs_set (i := 1) hnd (by rfl) (by first | exact Or.inl rfl | exact Or.inr rfl) (fun _ _ _ => trivial) (ex_call (ih11) tk (hr.mono (by omega)) (by rfl) (He.glo_ok X0 G0 (c.t.d.fact 25 (f := .glo "found_sides") (by rfl))) F11.kp (bind_11 F11) (ax_cons (ex_var (i := 0) (by rfl) (by first | exact Or.inl rfl | exact Or.inr (Or.inl rfl) | exact Or.inr (Or.inr rfl)) (by decide) (by decide)) (ax_nil) (by rfl)) (by decide) (by rfl) (by rfl)) (by rfl) (by first | exact Or.inl rfl | exact Or.inr rfl)) (
      xs_cons (xs_if (xt_cmp (op2_is) (ex_var (i := 1) (by rfl) (by first | exact Or.inl rfl | exact Or.inr (Or.inl rfl) | exact Or.inr (Or.inr rfl)) (by decide) (by decide)) (ex_cst pe_non (fun _ _ => (by rfl))) (nomark _)) (xs_one (xs_raise (c := 2) (fs := ["what"]) (by rfl) (by rfl) tk (ClsD.excOk (clsEx_at (cmore c) (i := 2) (d := cd_2) (by rfl)) (by rfl)).1 (ClsD.excOk (clsEx_at (cmore c) (i := 2) (d := cd_2) (by rfl)) (by rfl)).2.2.2.2 (ClsD.excOk (clsEx_at (cmore c) (i := 2) (d := cd_2) (by rfl)) (by rfl)).2.2.1 (ClsD.excOk (clsEx_at (cmore c) (i := 2) (d := cd_2) (by rfl)) (by rfl)).2.2.2.1 xi2 (hr.mono (by omega)) xb2 (by rfl) (He.glo_ok X0 G0 (c.t.d.fact 19 (f := .glo "Undefined") (by rfl))) (ax_cons (ex_cst pe_str (fun _ _ => (by rfl))) (ax_nil) (by rfl)) (by decide) (by rfl) (by rfl))) (xs_nil)) (
      xs_one (xs_ret (ex_var (i := 1) (by rfl) (by first | exact Or.inl rfl | exact Or.inr (Or.inl rfl) | exact Or.inr (Or.inr rfl)) (by decide) (by decide))))))
theorem run_13 (n : Nat) : run (n + 1) 13 = body0 5 (b_13 (run n)) := rfl
theorem ok_13 (c : He.SaysX fa fn [] tf exK w h K) (X0 : K.In h) (G0 : h.Ns mainGlobals mg) (tb : ∀ p ∈ tf, LamX.TabB base mg (He.cT K p).1 (He.cT K p).2) {n : Nat} (ih : ∀ j, OkAt P w mg base K n j) : OkAt P w mg base K (n + 1) 13 := by
  intro fd F
  obtain ⟨fd8, F8⟩ := c.t.d.def_ 8 (d := d_8) rfl
  have ih8 := ih 8 fd8 F8
  obtain ⟨fd10, F10⟩ := c.t.d.def_ 10 (d := d_10) rfl
  have ih10 := ih 10 fd10 F10
  obtain ⟨fd14, F14⟩ := c.t.d.def_ 14 (d := d_14) rfl
  have ih14 := ih 14 fd14 F14
  obtain ⟨fx2, Fx2⟩ := c.t.d.def_ 35 (d := d_35) rfl
  have xi2 := init_one (P := P) (w := w) (mg := mg) (base := base) (G := GG K) Fx2 sc_35 rfl rfl (by decide) (by decide)
  have xb2 := bind_35 Fx2
  rw [run_13]
  refine fn_ok (G := GG K) (N := ["collection", "paths", "member", "path", "other"]) (ps := ["collection"]) (k := 2 * n + 3) (fun _ => trivial) F sc_13 fun cdv A outer s H E hr => ?_
  have hnd : (["collection", "paths", "member", "path", "other"] : List Str).Nodup := sc_13.nd
  have tk := takes_of (X := cxOf (L2.CX P w) P w K mg base ["collection", "paths", "member", "path", "other"] "odd_ring" (defScope s_13) (He.fAd K d_13.at_) cdv A outer s H E) rfl rfl rfl rfl
  have hp := passes_of (X := cxOf (L2.CX P w) P w K mg base ["collection", "paths", "member", "path", "other"] "odd_ring" (defScope s_13) (He.fAd K d_13.at_) cdv A outer s H E) rfl
  have hcls := clsok c
  unfold b_13 Tx.t_odd_ring
  exact xs_cons (xs_drop (ex_call (ih8) tk (hr.mono (by omega)) (by rfl) (He.glo_ok X0 G0 (c.t.d.fact 24 (f := .glo "require_pairs") (by rfl))) F8.kp (bind_8 F8) (ax_cons (ex_var (i := 0) (by rfl) (by first | exact Or.inl rfl | exact Or.inr (Or.inl rfl) | exact Or.inr (Or.inr rfl)) (by decide) (by decide)) (ax_nil) (by rfl)) (by decide) (by rfl) (by rfl)) (by rfl)) (
      xs_cons (xs_setLc (own := [("member", 2)]) (j := 1) (fun _ _ _ _ => trivial) tt_nil (by decide) (by rfl) hnd (by rfl) (by rfl) (sw_true (by rfl) (by rfl) (by rfl) (by decide +kernel)) (xi_range1 (by rfl) (He.free_ok X0 G0 (c.t.d.fact 5 (f := .free "range") (by rfl))) (ax_cons (ex_fld (by rfl) hcls (ex_var (i := 0) (by rfl) (by first | exact Or.inl rfl | exact Or.inr (Or.inl rfl) | exact Or.inr (Or.inr rfl)) (by decide) (by decide)) (by rfl)) (ax_nil) (by rfl)) (by rfl)) (blkOk_by (own := [("member", 2)]) (N := ["collection", "paths", "member", "path", "other"]) (sc := defScope s_13) (by decide +kernel)) (fun _ _ _ _ _ => xg_name (i := 2) hnd (by rfl) (by first | exact Or.inl rfl | exact Or.inr rfl) (fun _ _ _ => trivial) (by first | exact Or.inl rfl | exact Or.inr rfl)) (fun _ _ _ _ _ => pts_nil) (fun _ _ _ _ _ => ex_tup (ax_cons (ex_var (i := 2) (by rfl) (by first | exact Or.inl rfl | exact Or.inr (Or.inl rfl) | exact Or.inr (Or.inr rfl)) (by decide) (by decide)) (ax_nil) (by rfl))) (fun _ => (by rfl))) (
      xs_cons (xs_while (n := 100000) hp (xt_cmp (op2_gt) (ex_bi (fb_len (by rfl)) cr_len (by rfl) (He.free_ok X0 G0 (c.t.d.fact 4 (f := .free "len") (by rfl))) (by decide +kernel) (ax_cons (ex_var (i := 1) (by rfl) (by first | exact Or.inl rfl | exact Or.inr (Or.inl rfl) | exact Or.inr (Or.inr rfl)) (by decide) (by decide)) (ax_nil) (by rfl)) (by decide) (by decide) (by rfl) (by rfl)) (ex_cst pe_int (fun _ _ => (by rfl))) (nomark _)) (xs_cons (xs_for hp (by rfl) (xi_iter (by rfl) (ex_var (i := 1) (by rfl) (by first | exact Or.inl rfl | exact Or.inr (Or.inl rfl) | exact Or.inr (Or.inr rfl)) (by decide) (by decide))) (xg_name (i := 3) hnd (by rfl) (by first | exact Or.inl rfl | exact Or.inr rfl) (fun _ _ _ => trivial) (by first | exact Or.inl rfl | exact Or.inr rfl)) (xs_one (xs_if (xt_val (ex_call (ih14) tk (hr.mono (by omega)) (by rfl) (He.glo_ok X0 G0 (c.t.d.fact 26 (f := .glo "odd_ring_holds") (by rfl))) F14.kp (bind_14 F14) (ax_cons (ex_var (i := 0) (by rfl) (by first | exact Or.inl rfl | exact Or.inr (Or.inl rfl) | exact Or.inr (Or.inr rfl)) (by decide) (by decide)) (ax_cons (ex_var (i := 3) (by rfl) (by first | exact Or.inl rfl | exact Or.inr (Or.inl rfl) | exact Or.inr (Or.inr rfl)) (by decide) (by decide)) (ax_nil) (by rfl)) (by rfl)) (by decide) (by rfl) (by rfl)) (fun _ => (by rfl))) (xs_one (xs_ret (ex_var (i := 3) (by rfl) (by first | exact Or.inl rfl | exact Or.inr (Or.inl rfl) | exact Or.inr (Or.inr rfl)) (by decide) (by decide)))) (xs_nil))) (fun _ => (by rfl))) (
      xs_one (xs_setLc2 (own := [("path", 3), ("other", 4)]) (j := 1) (fun _ _ _ _ => trivial) tt_nil tt_one (by decide) (by decide) (by rfl) hnd (by rfl) (by rfl) (sw_true (by rfl) (by rfl) (by rfl) (by decide +kernel)) (xi_iter (by rfl) (ex_var (i := 1) (by rfl) (by first | exact Or.inl rfl | exact Or.inr (Or.inl rfl) | exact Or.inr (Or.inr rfl)) (by decide) (by decide))) (blkOk_by (own := [("path", 3), ("other", 4)]) (N := ["collection", "paths", "member", "path", "other"]) (sc := defScope s_13) (by decide +kernel)) (by decide) (fun _ _ _ _ _ => xg_name (i := 3) hnd (by rfl) (by first | exact Or.inl rfl | exact Or.inr rfl) (fun _ _ _ => trivial) (by first | exact Or.inl rfl | exact Or.inr rfl)) (fun _ _ _ _ _ => pts_nil) (fun _ _ _ _ _ => xi_iter (by rfl) (ex_call (ih10) takes0 (hr.mono (by omega)) (by rfl) (He.glo_ok X0 G0 (c.t.d.fact 23 (f := .glo "partners") (by rfl))) F10.kp (bind_10 F10) (ax_cons (ex_var (i := 0) (by rfl) (by first | exact Or.inl rfl | exact Or.inr (Or.inl rfl) | exact Or.inr (Or.inr rfl)) (by decide) (by decide)) (ax_cons (ex_ix (by rfl) (ex_var (i := 3) (by rfl) (by first | exact Or.inl rfl | exact Or.inr (Or.inl rfl) | exact Or.inr (Or.inr rfl)) (by decide) (by decide)) (ex_neg (ex_cst pe_int (fun _ _ => (by rfl)))) (fun _ _ => (by rfl))) (ax_nil) (by rfl)) (by rfl)) (by decide) (by rfl) (by rfl))) (fun _ _ _ _ _ => xg_name (i := 4) hnd (by rfl) (by first | exact Or.inl rfl | exact Or.inr rfl) (fun _ _ _ => trivial) (by first | exact Or.inl rfl | exact Or.inr rfl)) (fun _ _ _ _ _ => pts_one (xt_cmp (op2_notin (by rfl) (hu65 hr)) (ex_var (i := 4) (by rfl) (by first | exact Or.inl rfl | exact Or.inr (Or.inl rfl) | exact Or.inr (Or.inr rfl)) (by decide) (by decide)) (ex_var (i := 3) (by rfl) (by first | exact Or.inl rfl | exact Or.inr (Or.inl rfl) | exact Or.inr (Or.inr rfl)) (by decide) (by decide)) (by with_unfolding_all rfl))) (fun _ _ _ _ _ => ex_bin (op2_add (by rfl)) (ex_var (i := 3) (by rfl) (by first | exact Or.inl rfl | exact Or.inr (Or.inl rfl) | exact Or.inr (Or.inr rfl)) (by decide) (by decide)) (ex_tup (ax_cons (ex_var (i := 4) (by rfl) (by first | exact Or.inl rfl | exact Or.inr (Or.inl rfl) | exact Or.inr (Or.inr rfl)) (by decide) (by decide)) (ax_nil) (by rfl)))) (fun _ => (by rfl)) (fun _ _ => (by rfl)))))) (
      xs_one (xs_raise (c := 2) (fs := ["what"]) (by rfl) (by rfl) tk (ClsD.excOk (clsEx_at (cmore c) (i := 2) (d := cd_2) (by rfl)) (by rfl)).1 (ClsD.excOk (clsEx_at (cmore c) (i := 2) (d := cd_2) (by rfl)) (by rfl)).2.2.2.2 (ClsD.excOk (clsEx_at (cmore c) (i := 2) (d := cd_2) (by rfl)) (by rfl)).2.2.1 (ClsD.excOk (clsEx_at (cmore c) (i := 2) (d := cd_2) (by rfl)) (by rfl)).2.2.2.1 xi2 (hr.mono (by omega)) xb2 (by rfl) (He.glo_ok X0 G0 (c.t.d.fact 19 (f := .glo "Undefined") (by rfl))) (ax_cons (ex_cst pe_str (fun _ _ => (by rfl))) (ax_nil) (by rfl)) (by decide) (by rfl) (by rfl)))))
theorem run_14 (n : Nat) : run (n + 1) 14 = body0 4 (b_14 (run n)) := rfl
theorem ok_14 (c : He.SaysX fa fn [] tf exK w h K) (X0 : K.In h) (G0 : h.Ns mainGlobals mg) (tb : ∀ p ∈ tf, LamX.TabB base mg (He.cT K p).1 (He.cT K p).2) {n : Nat} (ih : ∀ j, OkAt P w mg base K n j) : OkAt P w mg base K (n + 1) 14 := by
  intro fd F
  obtain ⟨fd1, F1⟩ := c.t.d.def_ 1 (d := d_1) rfl
  have ih1 := ih 1 fd1 F1
  obtain ⟨fd7, F7⟩ := c.t.d.def_ 7 (d := d_7) rfl
  have ih7 := ih 7 fd7 F7
  obtain ⟨fd9, F9⟩ := c.t.d.def_ 9 (d := d_9) rfl
  have ih9 := ih 9 fd9 F9
  rw [run_14]
  refine fn_ok (G := GG K) (N := ["collection", "value", "member", "at"]) (ps := ["collection", "value"]) (k := 2 * n + 3) (fun _ => trivial) F sc_14 fun cdv A outer s H E hr => ?_
  have hnd : (["collection", "value", "member", "at"] : List Str).Nodup := sc_14.nd
  have tk := takes_of (X := cxOf (L2.CX P w) P w K mg base ["collection", "value", "member", "at"] "odd_ring_holds" (defScope s_14) (He.fAd K d_14.at_) cdv A outer s H E) rfl rfl rfl rfl
  have hp := passes_of (X := cxOf (L2.CX P w) P w K mg base ["collection", "value", "member", "at"] "odd_ring_holds" (defScope s_14) (He.fAd K d_14.at_) cdv A outer s H E) rfl
  have hcls := clsok c
  unfold b_14 Tx.t_odd_ring_holds
  exact xs_cons (xs_if (PW.pt (xw_or (xt_not (xt_val (ex_call (ih7) tk (hr.mono (by omega)) (by rfl) (He.glo_ok X0 G0 (c.t.d.fact 18 (f := .glo "is_pairs") (by rfl))) F7.kp (bind_7 F7) (ax_cons (ex_var (i := 0) (by rfl) (by first | exact Or.inl rfl | exact Or.inr (Or.inl rfl) | exact Or.inr (Or.inr rfl)) (by decide) (by decide)) (ax_nil) (by rfl)) (by decide) (by rfl) (by rfl)) (fun _ => (by rfl)))) (xw_or (xt_not (xt_val (ex_isi (by rfl) (qok_of (cs := cds) hG (cmore c) (by rfl) (by decide) (by decide)) (.ty _) (ex_var (i := 1) (by rfl) (by first | exact Or.inl rfl | exact Or.inr (Or.inl rfl) | exact Or.inr (Or.inr rfl)) (by decide) (by decide)) (pe_bltn (u := .type "tuple") (by rfl) (He.free_ok X0 G0 (c.t.d.fact 8 (f := .free "tuple") (by rfl))) (by decide +kernel) (by rfl) (by decide) (by decide)) (by rfl) (He.free_ok X0 G0 (c.t.d.fact 1 (f := .free "isinstance") (by rfl))) (by rfl) (by rfl) (by rfl)) (fun _ => (by rfl)))) (xw_or (xt_cmp (op2_lt (by rfl) hr.units) (ex_bi (fb_len (by rfl)) cr_len (by rfl) (He.free_ok X0 G0 (c.t.d.fact 4 (f := .free "len") (by rfl))) (by decide +kernel) (ax_cons (ex_var (i := 1) (by rfl) (by first | exact Or.inl rfl | exact Or.inr (Or.inl rfl) | exact Or.inr (Or.inr rfl)) (by decide) (by decide)) (ax_nil) (by rfl)) (by decide) (by decide) (by rfl) (by rfl)) (ex_cst pe_int (fun _ _ => (by rfl))) (nomark _)) (xw_or1 (xt_cmp (op2_eq (by rfl) hr.units) (ex_bin (op2_mul) (ex_bin (op2_div) (ex_bi (fb_len (by rfl)) cr_len (by rfl) (He.free_ok X0 G0 (c.t.d.fact 4 (f := .free "len") (by rfl))) (by decide +kernel) (ax_cons (ex_var (i := 1) (by rfl) (by first | exact Or.inl rfl | exact Or.inr (Or.inl rfl) | exact Or.inr (Or.inr rfl)) (by decide) (by decide)) (ax_nil) (by rfl)) (by decide) (by decide) (by rfl) (by rfl)) (ex_cst pe_int (fun _ _ => (by rfl)))) (ex_cst pe_int (fun _ _ => (by rfl)))) (ex_bi (fb_len (by rfl)) cr_len (by rfl) (He.free_ok X0 G0 (c.t.d.fact 4 (f := .free "len") (by rfl))) (by decide +kernel) (ax_cons (ex_var (i := 1) (by rfl) (by first | exact Or.inl rfl | exact Or.inr (Or.inl rfl) | exact Or.inr (Or.inr rfl)) (by decide) (by decide)) (ax_nil) (by rfl)) (by decide) (by decide) (by rfl) (by rfl)) (nomark _))))))) (xs_one (xs_ret (ex_cst pe_bl (fun _ _ => (by rfl))))) (xs_nil)) (
      xs_cons (xs_if (PW.pt (xw_or (xt_not (xt_val (ex_bi (fb_all (by rfl)) (cr_all (by rfl)) (by rfl) (He.free_ok X0 G0 (c.t.d.fact 6 (f := .free "all") (by rfl))) (by decide +kernel) (ax_cons (ex_lc (own := [("member", 2)]) (fun _ _ _ _ => trivial) tt_nil (by decide) (by rfl) hnd (xi_iter (by rfl) (ex_var (i := 1) (by rfl) (by first | exact Or.inl rfl | exact Or.inr (Or.inl rfl) | exact Or.inr (Or.inr rfl)) (by decide) (by decide))) (blkOk_by (own := [("member", 2)]) (N := ["collection", "value", "member", "at"]) (sc := defScope s_14) (by decide +kernel)) (fun _ _ _ _ _ => xg_name (i := 2) hnd (by rfl) (by first | exact Or.inl rfl | exact Or.inr rfl) (fun _ _ _ => trivial) (by first | exact Or.inl rfl | exact Or.inr rfl)) (fun _ _ _ _ _ => pts_nil) (fun _ _ _ _ _ => ex_call (ih1) takes0 (hr.mono (by omega)) (by rfl) (He.glo_ok X0 G0 (c.t.d.fact 7 (f := .glo "is_within") (by rfl))) F1.kp (bind_1 F1) (ax_cons (ex_var (i := 2) (by rfl) (by first | exact Or.inl rfl | exact Or.inr (Or.inl rfl) | exact Or.inr (Or.inr rfl)) (by decide) (by decide)) (ax_cons (ex_cst pe_int (fun _ _ => (by rfl))) (ax_cons (ex_bin (op2_sub) (ex_fld (by rfl) hcls (ex_var (i := 0) (by rfl) (by first | exact Or.inl rfl | exact Or.inr (Or.inl rfl) | exact Or.inr (Or.inr rfl)) (by decide) (by decide)) (by rfl)) (ex_cst pe_int (fun _ _ => (by rfl)))) (ax_nil) (by rfl)) (by rfl)) (by rfl)) (by decide) (by rfl) (by rfl)) (fun _ => (by rfl))) (ax_nil) (by rfl)) (by decide) (by decide) (by rfl) (by rfl)) (fun _ => (by rfl)))) (xw_or1 (xt_cmp (op2_lt (by rfl) hr.units) (ex_lenset (by rfl) (by rfl) (hu70 hr) (by rfl) (He.free_ok X0 G0 (c.t.d.fact 4 (f := .free "len") (by rfl))) (by rfl) (He.free_ok X0 G0 (c.t.d.fact 13 (f := .free "set") (by rfl))) (ex_var (i := 1) (by rfl) (by first | exact Or.inl rfl | exact Or.inr (Or.inl rfl) | exact Or.inr (Or.inr rfl)) (by decide) (by decide)) (by rfl)) (ex_bi (fb_len (by rfl)) cr_len (by rfl) (He.free_ok X0 G0 (c.t.d.fact 4 (f := .free "len") (by rfl))) (by decide +kernel) (ax_cons (ex_var (i := 1) (by rfl) (by first | exact Or.inl rfl | exact Or.inr (Or.inl rfl) | exact Or.inr (Or.inr rfl)) (by decide) (by decide)) (ax_nil) (by rfl)) (by decide) (by decide) (by rfl) (by rfl)) (nomark _))))) (xs_one (xs_ret (ex_cst pe_bl (fun _ _ => (by rfl))))) (xs_nil)) (
      xs_one (xs_ret (ex_bi (fb_all (by rfl)) (cr_all (by rfl)) (by rfl) (He.free_ok X0 G0 (c.t.d.fact 6 (f := .free "all") (by rfl))) (by decide +kernel) (ax_cons (ex_lc (own := [("at", 3)]) (fun _ _ _ _ => trivial) tt_nil (by decide) (by rfl) hnd (xi_range1 (by rfl) (He.free_ok X0 G0 (c.t.d.fact 5 (f := .free "range") (by rfl))) (ax_cons (ex_bi (fb_len (by rfl)) cr_len (by rfl) (He.free_ok X0 G0 (c.t.d.fact 4 (f := .free "len") (by rfl))) (by decide +kernel) (ax_cons (ex_var (i := 1) (by rfl) (by first | exact Or.inl rfl | exact Or.inr (Or.inl rfl) | exact Or.inr (Or.inr rfl)) (by decide) (by decide)) (ax_nil) (by rfl)) (by decide) (by decide) (by rfl) (by rfl)) (ax_nil) (by rfl)) (by rfl)) (blkOk_by (own := [("at", 3)]) (N := ["collection", "value", "member", "at"]) (sc := defScope s_14) (by decide +kernel)) (fun _ _ _ _ _ => xg_name (i := 3) hnd (by rfl) (by first | exact Or.inl rfl | exact Or.inr rfl) (fun _ _ _ => trivial) (by first | exact Or.inl rfl | exact Or.inr rfl)) (fun _ _ _ _ _ => pts_nil) (fun _ _ _ _ _ => ex_cmp (op2_in (by rfl) (hu65 hr)) (ex_call (ih9) takes0 (hr.mono (by omega)) (by rfl) (He.glo_ok X0 G0 (c.t.d.fact 22 (f := .glo "pair_of") (by rfl))) F9.kp (bind_9 F9) (ax_cons (ex_ix (by rfl) (ex_var (i := 1) (by rfl) (by first | exact Or.inl rfl | exact Or.inr (Or.inl rfl) | exact Or.inr (Or.inr rfl)) (by decide) (by decide)) (ex_bin (op2_sub) (ex_var (i := 3) (by rfl) (by first | exact Or.inl rfl | exact Or.inr (Or.inl rfl) | exact Or.inr (Or.inr rfl)) (by decide) (by decide)) (ex_cst pe_int (fun _ _ => (by rfl)))) (fun _ _ => (by rfl))) (ax_cons (ex_ix (by rfl) (ex_var (i := 1) (by rfl) (by first | exact Or.inl rfl | exact Or.inr (Or.inl rfl) | exact Or.inr (Or.inr rfl)) (by decide) (by decide)) (ex_var (i := 3) (by rfl) (by first | exact Or.inl rfl | exact Or.inr (Or.inl rfl) | exact Or.inr (Or.inr rfl)) (by decide) (by decide)) (fun _ _ => (by rfl))) (ax_nil) (by rfl)) (by rfl)) (by decide) (by rfl) (by rfl)) (ex_fld (by rfl) hcls (ex_var (i := 0) (by rfl) (by first | exact Or.inl rfl | exact Or.inr (Or.inl rfl) | exact Or.inr (Or.inr rfl)) (by decide) (by decide)) (by rfl)) (by with_unfolding_all rfl)) (fun _ => (by rfl))) (ax_nil) (by rfl)) (by decide) (by decide) (by rfl) (by rfl)))))
theorem run_15 (n : Nat) : run (n + 1) 15 = body0 4 (b_15 (run n)) := rfl
theorem ok_15 (c : He.SaysX fa fn [] tf exK w h K) (X0 : K.In h) (G0 : h.Ns mainGlobals mg) (tb : ∀ p ∈ tf, LamX.TabB base mg (He.cT K p).1 (He.cT K p).2) {n : Nat} (ih : ∀ j, OkAt P w mg base K n j) : OkAt P w mg base K (n + 1) 15 := by
  intro fd F

  rw [run_15]
  refine fn_ok (G := GG K) (N := ["script", "k", "cell", "great"]) (ps := ["script", "k"]) (k := 2 * n + 3) (fun _ => trivial) F sc_15 fun cdv A outer s H E hr => ?_
  have hnd : (["script", "k", "cell", "great"] : List Str).Nodup := sc_15.nd
  have tk := takes_of (X := cxOf (L2.CX P w) P w K mg base ["script", "k", "cell", "great"] "_law_box" (defScope s_15) (He.fAd K d_15.at_) cdv A outer s H E) rfl rfl rfl rfl
  have hp := passes_of (X := cxOf (L2.CX P w) P w K mg base ["script", "k", "cell", "great"] "_law_box" (defScope s_15) (He.fAd K d_15.at_) cdv A outer s H E) rfl
  have hcls := clsok c
  unfold b_15 Tx.t__law_box
  exact xs_cons (xs_set (i := 2) hnd (by rfl) (by first | exact Or.inl rfl | exact Or.inr rfl) (fun _ _ _ => trivial) (ex_bin (op2_add (by rfl)) (ex_bin (op2_mul) (ex_cst pe_int (fun _ _ => (by rfl))) (ex_var (i := 1) (by rfl) (by first | exact Or.inl rfl | exact Or.inr (Or.inl rfl) | exact Or.inr (Or.inr rfl)) (by decide) (by decide))) (ex_cst pe_int (fun _ _ => (by rfl)))) (by rfl) (by first | exact Or.inl rfl | exact Or.inr rfl)) (
      xs_cons (xs_if (xt_cmp (op2_lt (by rfl) hr.units) (ex_var (i := 1) (by rfl) (by first | exact Or.inl rfl | exact Or.inr (Or.inl rfl) | exact Or.inr (Or.inr rfl)) (by decide) (by decide)) (ex_bi (fb_len (by rfl)) cr_len (by rfl) (He.free_ok X0 G0 (c.t.d.fact 4 (f := .free "len") (by rfl))) (by decide +kernel) (ax_cons (ex_var (i := 0) (by rfl) (by first | exact Or.inl rfl | exact Or.inr (Or.inl rfl) | exact Or.inr (Or.inr rfl)) (by decide) (by decide)) (ax_nil) (by rfl)) (by decide) (by decide) (by rfl) (by rfl)) (nomark _)) (xs_one (xs_set (i := 2) hnd (by rfl) (by first | exact Or.inl rfl | exact Or.inr rfl) (fun _ _ _ => trivial) (ex_bi fb_abs call_abs (by rfl) (He.free_ok X0 G0 (c.t.d.fact 27 (f := .free "abs") (by rfl))) (by decide +kernel) (ax_cons (ex_ix (by rfl) (ex_var (i := 0) (by rfl) (by first | exact Or.inl rfl | exact Or.inr (Or.inl rfl) | exact Or.inr (Or.inr rfl)) (by decide) (by decide)) (ex_var (i := 1) (by rfl) (by first | exact Or.inl rfl | exact Or.inr (Or.inl rfl) | exact Or.inr (Or.inr rfl)) (by decide) (by decide)) (fun _ _ => (by rfl))) (ax_nil) (by rfl)) (by decide) (by decide) (by rfl) (by rfl)) (by rfl) (by first | exact Or.inl rfl | exact Or.inr rfl))) (xs_one (xs_if (xt_cmp (op2_gt) (ex_bi (fb_len (by rfl)) cr_len (by rfl) (He.free_ok X0 G0 (c.t.d.fact 4 (f := .free "len") (by rfl))) (by decide +kernel) (ax_cons (ex_var (i := 0) (by rfl) (by first | exact Or.inl rfl | exact Or.inr (Or.inl rfl) | exact Or.inr (Or.inr rfl)) (by decide) (by decide)) (ax_nil) (by rfl)) (by decide) (by decide) (by rfl) (by rfl)) (ex_cst pe_int (fun _ _ => (by rfl))) (nomark _)) (xs_one (xs_set (i := 2) hnd (by rfl) (by first | exact Or.inl rfl | exact Or.inr rfl) (fun _ _ _ => trivial) (ex_bin (op2_add (by rfl)) (ex_bin (op2_mul) (ex_bin (op2_mod) (ex_ty fb_int call_int1 (by rfl) (He.free_ok X0 G0 (c.t.d.fact 2 (f := .free "int") (by rfl))) (by decide +kernel) (ax_cons (ex_bi fb_abs call_abs (by rfl) (He.free_ok X0 G0 (c.t.d.fact 27 (f := .free "abs") (by rfl))) (by decide +kernel) (ax_cons (ex_ix (by rfl) (ex_var (i := 0) (by rfl) (by first | exact Or.inl rfl | exact Or.inr (Or.inl rfl) | exact Or.inr (Or.inr rfl)) (by decide) (by decide)) (ex_bin (op2_mod) (ex_ty fb_int call_int1 (by rfl) (He.free_ok X0 G0 (c.t.d.fact 2 (f := .free "int") (by rfl))) (by decide +kernel) (ax_cons (ex_var (i := 1) (by rfl) (by first | exact Or.inl rfl | exact Or.inr (Or.inl rfl) | exact Or.inr (Or.inr rfl)) (by decide) (by decide)) (ax_nil) (by rfl)) (by decide) (by decide) (by rfl) (by rfl)) (ex_bi (fb_len (by rfl)) cr_len (by rfl) (He.free_ok X0 G0 (c.t.d.fact 4 (f := .free "len") (by rfl))) (by decide +kernel) (ax_cons (ex_var (i := 0) (by rfl) (by first | exact Or.inl rfl | exact Or.inr (Or.inl rfl) | exact Or.inr (Or.inr rfl)) (by decide) (by decide)) (ax_nil) (by rfl)) (by decide) (by decide) (by rfl) (by rfl))) (fun _ _ => (by rfl))) (ax_nil) (by rfl)) (by decide) (by decide) (by rfl) (by rfl)) (ax_nil) (by rfl)) (by decide) (by decide) (by rfl) (by rfl)) (ex_cst pe_int (fun _ _ => (by rfl)))) (ex_cst pe_int (fun _ _ => (by rfl)))) (ex_bin (op2_mul) (ex_cst pe_int (fun _ _ => (by rfl))) (ex_var (i := 1) (by rfl) (by first | exact Or.inl rfl | exact Or.inr (Or.inl rfl) | exact Or.inr (Or.inr rfl)) (by decide) (by decide)))) (by rfl) (by first | exact Or.inl rfl | exact Or.inr rfl))) (xs_nil)))) (
      xs_cons (xs_set (i := 3) hnd (by rfl) (by first | exact Or.inl rfl | exact Or.inr rfl) (fun _ _ _ => trivial) (ex_ix (by rfl) (ex_lst (ax_cons (ex_cst pe_int (fun _ _ => (by rfl))) (ax_cons (ex_var (i := 2) (by rfl) (by first | exact Or.inl rfl | exact Or.inr (Or.inl rfl) | exact Or.inr (Or.inr rfl)) (by decide) (by decide)) (ax_nil) (by rfl)) (by rfl))) (ex_ty fb_int call_int1 (by rfl) (He.free_ok X0 G0 (c.t.d.fact 2 (f := .free "int") (by rfl))) (by decide +kernel) (ax_cons (ex_cmp (op2_ge) (ex_var (i := 2) (by rfl) (by first | exact Or.inl rfl | exact Or.inr (Or.inl rfl) | exact Or.inr (Or.inr rfl)) (by decide) (by decide)) (ex_bin (op2_pow) (ex_cst pe_int (fun _ _ => (by rfl))) (ex_cst pe_int (fun _ _ => (by rfl)))) (nomark _)) (ax_nil) (by rfl)) (by decide) (by decide) (by rfl) (by rfl)) (fun _ _ => (by rfl))) (by rfl) (by first | exact Or.inl rfl | exact Or.inr rfl)) (
      xs_one (xs_ret (ex_lst (ax_cons (ex_var (i := 3) (by rfl) (by first | exact Or.inl rfl | exact Or.inr (Or.inl rfl) | exact Or.inr (Or.inr rfl)) (by decide) (by decide)) (ax_cons (ex_bin (op2_add (by rfl)) (ex_bin (op2_mod) (ex_ty fb_int call_int1 (by rfl) (He.free_ok X0 G0 (c.t.d.fact 2 (f := .free "int") (by rfl))) (by decide +kernel) (ax_cons (ex_bin (op2_add (by rfl)) (ex_bin (op2_mul) (ex_bin (op2_mod) (ex_ty fb_int call_int1 (by rfl) (He.free_ok X0 G0 (c.t.d.fact 2 (f := .free "int") (by rfl))) (by decide +kernel) (ax_cons (ex_var (i := 2) (by rfl) (by first | exact Or.inl rfl | exact Or.inr (Or.inl rfl) | exact Or.inr (Or.inr rfl)) (by decide) (by decide)) (ax_nil) (by rfl)) (by decide) (by decide) (by rfl) (by rfl)) (ex_cst pe_int (fun _ _ => (by rfl)))) (ex_cst pe_int (fun _ _ => (by rfl)))) (ex_bin (op2_mul) (ex_cst pe_int (fun _ _ => (by rfl))) (ex_var (i := 1) (by rfl) (by first | exact Or.inl rfl | exact Or.inr (Or.inl rfl) | exact Or.inr (Or.inr rfl)) (by decide) (by decide)))) (ax_nil) (by rfl)) (by decide) (by decide) (by rfl) (by rfl)) (ex_cst pe_int (fun _ _ => (by rfl)))) (ex_cst pe_int (fun _ _ => (by rfl)))) (ax_nil) (by rfl)) (by rfl)))))))
theorem run_16 (n : Nat) : run (n + 1) 16 = body0 3 (b_16 (run n)) := rfl
theorem ok_16 (c : He.SaysX fa fn [] tf exK w h K) (X0 : K.In h) (G0 : h.Ns mainGlobals mg) (tb : ∀ p ∈ tf, LamX.TabB base mg (He.cT K p).1 (He.cT K p).2) {n : Nat} (ih : ∀ j, OkAt P w mg base K n j) : OkAt P w mg base K (n + 1) 16 := by
  intro fd F

  rw [run_16]
  refine fn_ok (G := GG K) (N := ["box", "many", "got"]) (ps := ["box", "many"]) (k := 2 * n + 3) (fun _ => trivial) F sc_16 fun cdv A outer s H E hr => ?_
  have hnd : (["box", "many", "got"] : List Str).Nodup := sc_16.nd
  have tk := takes_of (X := cxOf (L2.CX P w) P w K mg base ["box", "many", "got"] "_law_take" (defScope s_16) (He.fAd K d_16.at_) cdv A outer s H E) rfl rfl rfl rfl
  have hp := passes_of (X := cxOf (L2.CX P w) P w K mg base ["box", "many", "got"] "_law_take" (defScope s_16) (He.fAd K d_16.at_) cdv A outer s H E) rfl
  have hcls := clsok c
  unfold b_16 Tx.t__law_take
  exact xs_cons (xs_if (xt_cmp (op2_gt) (ex_ix (by rfl) (ex_var (i := 0) (by rfl) (by first | exact Or.inl rfl | exact Or.inr (Or.inl rfl) | exact Or.inr (Or.inr rfl)) (by decide) (by decide)) (ex_cst pe_int (fun _ _ => (by rfl))) (fun _ _ => (by rfl))) (ex_cst pe_int (fun _ _ => (by rfl))) (nomark _)) (xs_cons (xs_set (i := 2) hnd (by rfl) (by first | exact Or.inl rfl | exact Or.inr rfl) (fun _ _ _ => trivial) (ex_bin (op2_mod) (ex_ty fb_int call_int1 (by rfl) (He.free_ok X0 G0 (c.t.d.fact 2 (f := .free "int") (by rfl))) (by decide +kernel) (ax_cons (ex_ix (by rfl) (ex_var (i := 0) (by rfl) (by first | exact Or.inl rfl | exact Or.inr (Or.inl rfl) | exact Or.inr (Or.inr rfl)) (by decide) (by decide)) (ex_cst pe_int (fun _ _ => (by rfl))) (fun _ _ => (by rfl))) (ax_nil) (by rfl)) (by decide) (by decide) (by rfl) (by rfl)) (ex_var (i := 1) (by rfl) (by first | exact Or.inl rfl | exact Or.inr (Or.inl rfl) | exact Or.inr (Or.inr rfl)) (by decide) (by decide))) (by rfl) (by first | exact Or.inl rfl | exact Or.inr rfl)) (
      xs_cons (xs_setIx (ex_bin (op2_div) (ex_ix (by rfl) (ex_var (i := 0) (by rfl) (by first | exact Or.inl rfl | exact Or.inr (Or.inl rfl) | exact Or.inr (Or.inr rfl)) (by decide) (by decide)) (ex_cst pe_int (fun _ _ => (by rfl))) (fun _ _ => (by rfl))) (ex_var (i := 1) (by rfl) (by first | exact Or.inl rfl | exact Or.inr (Or.inl rfl) | exact Or.inr (Or.inr rfl)) (by decide) (by decide))) (ex_var (i := 0) (by rfl) (by first | exact Or.inl rfl | exact Or.inr (Or.inl rfl) | exact Or.inr (Or.inr rfl)) (by decide) (by decide)) (ex_cst pe_int (fun _ _ => (by rfl))) (fun _ => (by rfl)) (by rfl) (by rfl) (by rfl)) (
      xs_one (xs_ret (ex_var (i := 2) (by rfl) (by first | exact Or.inl rfl | exact Or.inr (Or.inl rfl) | exact Or.inr (Or.inr rfl)) (by decide) (by decide)))))) (xs_nil)) (
      xs_cons (xs_setIx (ex_bin (op2_mod) (ex_ty fb_int call_int1 (by rfl) (He.free_ok X0 G0 (c.t.d.fact 2 (f := .free "int") (by rfl))) (by decide +kernel) (ax_cons (ex_bin (op2_add (by rfl)) (ex_bin (op2_mul) (ex_ix (by rfl) (ex_var (i := 0) (by rfl) (by first | exact Or.inl rfl | exact Or.inr (Or.inl rfl) | exact Or.inr (Or.inr rfl)) (by decide) (by decide)) (ex_cst pe_int (fun _ _ => (by rfl))) (fun _ _ => (by rfl))) (ex_cst pe_int (fun _ _ => (by rfl)))) (ex_cst pe_int (fun _ _ => (by rfl)))) (ax_nil) (by rfl)) (by decide) (by decide) (by rfl) (by rfl)) (ex_cst pe_int (fun _ _ => (by rfl)))) (ex_var (i := 0) (by rfl) (by first | exact Or.inl rfl | exact Or.inr (Or.inl rfl) | exact Or.inr (Or.inr rfl)) (by decide) (by decide)) (ex_cst pe_int (fun _ _ => (by rfl))) (fun _ => (by rfl)) (by rfl) (by rfl) (by rfl)) (
      xs_one (xs_ret (ex_bin (op2_mod) (ex_ty fb_int call_int1 (by rfl) (He.free_ok X0 G0 (c.t.d.fact 2 (f := .free "int") (by rfl))) (by decide +kernel) (ax_cons (ex_bin (op2_div) (ex_ix (by rfl) (ex_var (i := 0) (by rfl) (by first | exact Or.inl rfl | exact Or.inr (Or.inl rfl) | exact Or.inr (Or.inr rfl)) (by decide) (by decide)) (ex_cst pe_int (fun _ _ => (by rfl))) (fun _ _ => (by rfl))) (ex_cst pe_int (fun _ _ => (by rfl)))) (ax_nil) (by rfl)) (by decide) (by decide) (by rfl) (by rfl)) (ex_var (i := 1) (by rfl) (by first | exact Or.inl rfl | exact Or.inr (Or.inl rfl) | exact Or.inr (Or.inr rfl)) (by decide) (by decide))))))
theorem run_17 (n : Nat) : run (n + 1) 17 = body0 2 (b_17 (run n)) := rfl
theorem ok_17 (c : He.SaysX fa fn [] tf exK w h K) (X0 : K.In h) (G0 : h.Ns mainGlobals mg) (tb : ∀ p ∈ tf, LamX.TabB base mg (He.cT K p).1 (He.cT K p).2) {n : Nat} (ih : ∀ j, OkAt P w mg base K n j) : OkAt P w mg base K (n + 1) 17 := by
  intro fd F
  obtain ⟨fd16, F16⟩ := c.t.d.def_ 16 (d := d_16) rfl
  have ih16 := ih 16 fd16 F16
  rw [run_17]
  refine fn_ok (G := GG K) (N := ["box", "some"]) (ps := ["box", "some"]) (k := 2 * n + 3) (fun _ => trivial) F sc_17 fun cdv A outer s H E hr => ?_
  have hnd : (["box", "some"] : List Str).Nodup := sc_17.nd
  have tk := takes_of (X := cxOf (L2.CX P w) P w K mg base ["box", "some"] "_law_pick" (defScope s_17) (He.fAd K d_17.at_) cdv A outer s H E) rfl rfl rfl rfl
  have hp := passes_of (X := cxOf (L2.CX P w) P w K mg base ["box", "some"] "_law_pick" (defScope s_17) (He.fAd K d_17.at_) cdv A outer s H E) rfl
  have hcls := clsok c
  unfold b_17 Tx.t__law_pick
  exact xs_one (xs_ret (ex_ix (by rfl) (ex_var (i := 1) (by rfl) (by first | exact Or.inl rfl | exact Or.inr (Or.inl rfl) | exact Or.inr (Or.inr rfl)) (by decide) (by decide)) (ex_call (ih16) tk (hr.mono (by omega)) (by rfl) (He.glo_ok X0 G0 (c.t.d.fact 28 (f := .glo "_law_take") (by rfl))) F16.kp (bind_16 F16) (ax_cons (ex_var (i := 0) (by rfl) (by first | exact Or.inl rfl | exact Or.inr (Or.inl rfl) | exact Or.inr (Or.inr rfl)) (by decide) (by decide)) (ax_cons (ex_bi (fb_len (by rfl)) cr_len (by rfl) (He.free_ok X0 G0 (c.t.d.fact 4 (f := .free "len") (by rfl))) (by decide +kernel) (ax_cons (ex_var (i := 1) (by rfl) (by first | exact Or.inl rfl | exact Or.inr (Or.inl rfl) | exact Or.inr (Or.inr rfl)) (by decide) (by decide)) (ax_nil) (by rfl)) (by decide) (by decide) (by rfl) (by rfl)) (ax_nil) (by rfl)) (by rfl)) (by decide) (by rfl) (by rfl)) (fun _ _ => (by rfl))))
theorem run_18 (n : Nat) : run (n + 1) 18 = body0 1 (b_18 (run n)) := rfl
theorem ok_18 (c : He.SaysX fa fn [] tf exK w h K) (X0 : K.In h) (G0 : h.Ns mainGlobals mg) (tb : ∀ p ∈ tf, LamX.TabB base mg (He.cT K p).1 (He.cT K p).2) {n : Nat} (ih : ∀ j, OkAt P w mg base K n j) : OkAt P w mg base K (n + 1) 18 := by
  intro fd F

  rw [run_18]
  refine fn_ok (G := GG K) (N := ["value"]) (ps := ["value"]) (k := 2 * n + 3) (fun _ => trivial) F sc_18 fun cdv A outer s H E hr => ?_
  have hnd : (["value"] : List Str).Nodup := sc_18.nd
  have tk := takes_of (X := cxOf (L2.CX P w) P w K mg base ["value"] "_law_whole" (defScope s_18) (He.fAd K d_18.at_) cdv A outer s H E) rfl rfl rfl rfl
  have hp := passes_of (X := cxOf (L2.CX P w) P w K mg base ["value"] "_law_whole" (defScope s_18) (He.fAd K d_18.at_) cdv A outer s H E) rfl
  have hcls := clsok c
  unfold b_18 Tx.t__law_whole
  exact xs_one (xs_ret (ex_and (ex_isi (by rfl) (qok_of (cs := cds) hG (cmore c) (by rfl) (by decide) (by decide)) (.ty _) (ex_var (i := 0) (by rfl) (by first | exact Or.inl rfl | exact Or.inr (Or.inl rfl) | exact Or.inr (Or.inr rfl)) (by decide) (by decide)) (pe_bltn (u := .type "int") (by rfl) (He.free_ok X0 G0 (c.t.d.fact 2 (f := .free "int") (by rfl))) (by decide +kernel) (by rfl) (by decide) (by decide)) (by rfl) (He.free_ok X0 G0 (c.t.d.fact 1 (f := .free "isinstance") (by rfl))) (by rfl) (by rfl) (by rfl)) (ex_one (ex_not (ex_isi (by rfl) (qok_of (cs := cds) hG (cmore c) (by rfl) (by decide) (by decide)) (.ty _) (ex_var (i := 0) (by rfl) (by first | exact Or.inl rfl | exact Or.inr (Or.inl rfl) | exact Or.inr (Or.inr rfl)) (by decide) (by decide)) (pe_bltn (u := .type "bool") (by rfl) (He.free_ok X0 G0 (c.t.d.fact 0 (f := .free "bool") (by rfl))) (by decide +kernel) (by rfl) (by decide) (by decide)) (by rfl) (He.free_ok X0 G0 (c.t.d.fact 1 (f := .free "isinstance") (by rfl))) (by rfl) (by rfl) (by rfl))))))
theorem run_19 (n : Nat) : run (n + 1) 19 = body0 3 (b_19 (run n)) := rfl
theorem ok_19 (c : He.SaysX fa fn [] tf exK w h K) (X0 : K.In h) (G0 : h.Ns mainGlobals mg) (tb : ∀ p ∈ tf, LamX.TabB base mg (He.cT K p).1 (He.cT K p).2) {n : Nat} (ih : ∀ j, OkAt P w mg base K n j) : OkAt P w mg base K (n + 1) 19 := by
  intro fd F
  obtain ⟨fd18, F18⟩ := c.t.d.def_ 18 (d := d_18) rfl
  have ih18 := ih 18 fd18 F18
  rw [run_19]
  refine fn_ok (G := GG K) (N := ["value", "many", "one"]) (ps := ["value", "many"]) (k := 2 * n + 3) (fun _ => trivial) F sc_19 fun cdv A outer s H E hr => ?_
  have hnd : (["value", "many", "one"] : List Str).Nodup := sc_19.nd
  have tk := takes_of (X := cxOf (L2.CX P w) P w K mg base ["value", "many", "one"] "_law_is_numbers" (defScope s_19) (He.fAd K d_19.at_) cdv A outer s H E) rfl rfl rfl rfl
  have hp := passes_of (X := cxOf (L2.CX P w) P w K mg base ["value", "many", "one"] "_law_is_numbers" (defScope s_19) (He.fAd K d_19.at_) cdv A outer s H E) rfl
  have hcls := clsok c
  unfold b_19 Tx.t__law_is_numbers
  exact xs_cons (xs_if (xt_not (xt_val (ex_isi (by rfl) (qok_of (cs := cds) hG (cmore c) (by rfl) (by decide) (by decide)) (.ty _) (ex_var (i := 0) (by rfl) (by first | exact Or.inl rfl | exact Or.inr (Or.inl rfl) | exact Or.inr (Or.inr rfl)) (by decide) (by decide)) (pe_bltn (u := .type "tuple") (by rfl) (He.free_ok X0 G0 (c.t.d.fact 8 (f := .free "tuple") (by rfl))) (by decide +kernel) (by rfl) (by decide) (by decide)) (by rfl) (He.free_ok X0 G0 (c.t.d.fact 1 (f := .free "isinstance") (by rfl))) (by rfl) (by rfl) (by rfl)) (fun _ => (by rfl)))) (xs_one (xs_ret (ex_cst pe_bl (fun _ _ => (by rfl))))) (xs_nil)) (
      xs_one (xs_ret (ex_cmp (op2_eq (by rfl) hr.units) (ex_lc (own := [("one", 2)]) (fun _ _ _ _ => trivial) tt_one (by decide) (by rfl) hnd (xi_iter (by rfl) (ex_var (i := 0) (by rfl) (by first | exact Or.inl rfl | exact Or.inr (Or.inl rfl) | exact Or.inr (Or.inr rfl)) (by decide) (by decide))) (blkOk_by (own := [("one", 2)]) (N := ["value", "many", "one"]) (sc := defScope s_19) (by decide +kernel)) (fun _ _ _ _ _ => xg_name (i := 2) hnd (by rfl) (by first | exact Or.inl rfl | exact Or.inr rfl) (fun _ _ _ => trivial) (by first | exact Or.inl rfl | exact Or.inr rfl)) (fun _ _ _ _ _ => pts_one (PW.pt (xw_or (xt_not (xt_val (ex_call (ih18) takes0 (hr.mono (by omega)) (by rfl) (He.glo_ok X0 G0 (c.t.d.fact 29 (f := .glo "_law_whole") (by rfl))) F18.kp (bind_18 F18) (ax_cons (ex_var (i := 2) (by rfl) (by first | exact Or.inl rfl | exact Or.inr (Or.inl rfl) | exact Or.inr (Or.inr rfl)) (by decide) (by decide)) (ax_nil) (by rfl)) (by decide) (by rfl) (by rfl)) (fun _ => (by rfl)))) (xw_or (xt_cmp (op2_lt (by rfl) hr.units) (ex_var (i := 2) (by rfl) (by first | exact Or.inl rfl | exact Or.inr (Or.inl rfl) | exact Or.inr (Or.inr rfl)) (by decide) (by decide)) (ex_cst pe_int (fun _ _ => (by rfl))) (nomark _)) (xw_or1 (xt_cmp (op2_ge) (ex_var (i := 2) (by rfl) (by first | exact Or.inl rfl | exact Or.inr (Or.inl rfl) | exact Or.inr (Or.inr rfl)) (by decide) (by decide)) (ex_var (i := 1) (by rfl) (by first | exact Or.inl rfl | exact Or.inr (Or.inl rfl) | exact Or.inr (Or.inr rfl)) (by decide) (by decide)) (nomark _))))))) (fun _ _ _ _ _ => ex_var (i := 2) (by rfl) (by first | exact Or.inl rfl | exact Or.inr (Or.inl rfl) | exact Or.inr (Or.inr rfl)) (by decide) (by decide)) (fun _ => (by rfl))) (ex_lst (ax_nil)) (nomark _))))
theorem run_20 (n : Nat) : run (n + 1) 20 = body0 2 (b_20 (run n)) := rfl
theorem ok_20 (c : He.SaysX fa fn [] tf exK w h K) (X0 : K.In h) (G0 : h.Ns mainGlobals mg) (tb : ∀ p ∈ tf, LamX.TabB base mg (He.cT K p).1 (He.cT K p).2) {n : Nat} (ih : ∀ j, OkAt P w mg base K n j) : OkAt P w mg base K (n + 1) 20 := by
  intro fd F

  rw [run_20]
  refine fn_ok (G := GG K) (N := ["told", "due"]) (ps := ["told", "due"]) (k := 2 * n + 3) (fun _ => trivial) F sc_20 fun cdv A outer s H E hr => ?_
  have hnd : (["told", "due"] : List Str).Nodup := sc_20.nd
  have tk := takes_of (X := cxOf (L2.CX P w) P w K mg base ["told", "due"] "_law_is_due" (defScope s_20) (He.fAd K d_20.at_) cdv A outer s H E) rfl rfl rfl rfl
  have hp := passes_of (X := cxOf (L2.CX P w) P w K mg base ["told", "due"] "_law_is_due" (defScope s_20) (He.fAd K d_20.at_) cdv A outer s H E) rfl
  have hcls := clsok c
  unfold b_20 Tx.t__law_is_due
  exact xs_one (xs_ret (ex_if (xt_val (ex_var (i := 1) (by rfl) (by first | exact Or.inl rfl | exact Or.inr (Or.inl rfl) | exact Or.inr (Or.inr rfl)) (by decide) (by decide)) (fun _ => (by rfl))) (ex_cmp (op2_is) (ex_var (i := 0) (by rfl) (by first | exact Or.inl rfl | exact Or.inr (Or.inl rfl) | exact Or.inr (Or.inr rfl)) (by decide) (by decide)) (ex_cst pe_bl (fun _ _ => (by rfl))) (nomark _)) (ex_cmp (op2_is) (ex_var (i := 0) (by rfl) (by first | exact Or.inl rfl | exact Or.inr (Or.inl rfl) | exact Or.inr (Or.inr rfl)) (by decide) (by decide)) (ex_cst pe_bl (fun _ _ => (by rfl))) (nomark _))))
theorem run_21 (n : Nat) : run (n + 1) 21 = body0 5 (b_21 (run n)) := rfl
theorem ok_21 (c : He.SaysX fa fn [] tf exK w h K) (X0 : K.In h) (G0 : h.Ns mainGlobals mg) (tb : ∀ p ∈ tf, LamX.TabB base mg (He.cT K p).1 (He.cT K p).2) {n : Nat} (ih : ∀ j, OkAt P w mg base K n j) : OkAt P w mg base K (n + 1) 21 := by
  intro fd F
  obtain ⟨fd16, F16⟩ := c.t.d.def_ 16 (d := d_16) rfl
  have ih16 := ih 16 fd16 F16
  obtain ⟨fd17, F17⟩ := c.t.d.def_ 17 (d := d_17) rfl
  have ih17 := ih 17 fd17 F17
  obtain ⟨fd18, F18⟩ := c.t.d.def_ 18 (d := d_18) rfl
  have ih18 := ih 18 fd18 F18
  obtain ⟨fd21, F21⟩ := c.t.d.def_ 21 (d := d_21) rfl
  have ih21 := ih 21 fd21 F21
  rw [run_21]
  refine fn_ok (G := GG K) (N := ["box", "value", "deep", "at", "how"]) (ps := ["box", "value", "deep"]) (k := 2 * n + 3) (fun _ => trivial) F sc_21 fun cdv A outer s H E hr => ?_
  have hnd : (["box", "value", "deep", "at", "how"] : List Str).Nodup := sc_21.nd
  have tk := takes_of (X := cxOf (L2.CX P w) P w K mg base ["box", "value", "deep", "at", "how"] "_law_spoilt" (defScope s_21) (He.fAd K d_21.at_) cdv A outer s H E) rfl rfl rfl rfl
  have hp := passes_of (X := cxOf (L2.CX P w) P w K mg base ["box", "value", "deep", "at", "how"] "_law_spoilt" (defScope s_21) (He.fAd K d_21.at_) cdv A outer s H E) rfl
  have hcls := clsok c
  unfold b_21 Tx.t__law_spoilt
  exact xs_cons (xs_if (xt_val (ex_isi (by rfl) (qok_of (cs := cds) hG (cmore c) (by rfl) (by decide) (by decide)) (.ty _) (ex_var (i := 1) (by rfl) (by first | exact Or.inl rfl | exact Or.inr (Or.inl rfl) | exact Or.inr (Or.inr rfl)) (by decide) (by decide)) (pe_bltn (u := .type "tuple") (by rfl) (He.free_ok X0 G0 (c.t.d.fact 8 (f := .free "tuple") (by rfl))) (by decide +kernel) (by rfl) (by decide) (by decide)) (by rfl) (He.free_ok X0 G0 (c.t.d.fact 1 (f := .free "isinstance") (by rfl))) (by rfl) (by rfl) (by rfl)) (fun _ => (by rfl))) (xs_cons (xs_set (i := 3) hnd (by rfl) (by first | exact Or.inl rfl | exact Or.inr rfl) (fun _ _ _ => trivial) (ex_call (ih16) tk (hr.mono (by omega)) (by rfl) (He.glo_ok X0 G0 (c.t.d.fact 28 (f := .glo "_law_take") (by rfl))) F16.kp (bind_16 F16) (ax_cons (ex_var (i := 0) (by rfl) (by first | exact Or.inl rfl | exact Or.inr (Or.inl rfl) | exact Or.inr (Or.inr rfl)) (by decide) (by decide)) (ax_cons (ex_bin (op2_add (by rfl)) (ex_bi (fb_len (by rfl)) cr_len (by rfl) (He.free_ok X0 G0 (c.t.d.fact 4 (f := .free "len") (by rfl))) (by decide +kernel) (ax_cons (ex_var (i := 1) (by rfl) (by first | exact Or.inl rfl | exact Or.inr (Or.inl rfl) | exact Or.inr (Or.inr rfl)) (by decide) (by decide)) (ax_nil) (by rfl)) (by decide) (by decide) (by rfl) (by rfl)) (ex_cst pe_int (fun _ _ => (by rfl)))) (ax_nil) (by rfl)) (by rfl)) (by decide) (by rfl) (by rfl)) (by rfl) (by first | exact Or.inl rfl | exact Or.inr rfl)) (
      xs_cons (xs_if (PW.pt (xw_and (xt_cmp (op2_ne (by rfl) hr.units) (ex_var (i := 1) (by rfl) (by first | exact Or.inl rfl | exact Or.inr (Or.inl rfl) | exact Or.inr (Or.inr rfl)) (by decide) (by decide)) (ex_tup (ax_nil)) (nomark _)) (xw_and (xt_cmp (op2_gt) (ex_var (i := 2) (by rfl) (by first | exact Or.inl rfl | exact Or.inr (Or.inl rfl) | exact Or.inr (Or.inr rfl)) (by decide) (by decide)) (ex_cst pe_int (fun _ _ => (by rfl))) (nomark _)) (xw_and1 (xt_cmp (op2_gt) (ex_call (ih16) tk (hr.mono (by omega)) (by rfl) (He.glo_ok X0 G0 (c.t.d.fact 28 (f := .glo "_law_take") (by rfl))) F16.kp (bind_16 F16) (ax_cons (ex_var (i := 0) (by rfl) (by first | exact Or.inl rfl | exact Or.inr (Or.inl rfl) | exact Or.inr (Or.inr rfl)) (by decide) (by decide)) (ax_cons (ex_cst pe_int (fun _ _ => (by rfl))) (ax_nil) (by rfl)) (by rfl)) (by decide) (by rfl) (by rfl)) (ex_cst pe_int (fun _ _ => (by rfl))) (nomark _)))))) (xs_cons (xs_set (i := 3) hnd (by rfl) (by first | exact Or.inl rfl | exact Or.inr rfl) (fun _ _ _ => trivial) (ex_bin (op2_mod) (ex_ty fb_int call_int1 (by rfl) (He.free_ok X0 G0 (c.t.d.fact 2 (f := .free "int") (by rfl))) (by decide +kernel) (ax_cons (ex_var (i := 3) (by rfl) (by first | exact Or.inl rfl | exact Or.inr (Or.inl rfl) | exact Or.inr (Or.inr rfl)) (by decide) (by decide)) (ax_nil) (by rfl)) (by decide) (by decide) (by rfl) (by rfl)) (ex_bi (fb_len (by rfl)) cr_len (by rfl) (He.free_ok X0 G0 (c.t.d.fact 4 (f := .free "len") (by rfl))) (by decide +kernel) (ax_cons (ex_var (i := 1) (by rfl) (by first | exact Or.inl rfl | exact Or.inr (Or.inl rfl) | exact Or.inr (Or.inr rfl)) (by decide) (by decide)) (ax_nil) (by rfl)) (by decide) (by decide) (by rfl) (by rfl))) (by rfl) (by first | exact Or.inl rfl | exact Or.inr rfl)) (
      xs_one (xs_ret (ex_bin (op2_add (by rfl)) (ex_bin (op2_add (by rfl)) (ex_sl (by rfl) (ex_var (i := 1) (by rfl) (by first | exact Or.inl rfl | exact Or.inr (Or.inl rfl) | exact Or.inr (Or.inr rfl)) (by decide) (by decide)) xo_none (xo_some (ex_var (i := 3) (by rfl) (by first | exact Or.inl rfl | exact Or.inr (Or.inl rfl) | exact Or.inr (Or.inr rfl)) (by decide) (by decide)))) (ex_tup (ax_cons (ex_call (ih21) tk (hr.mono (by omega)) (by rfl) (He.glo_ok X0 G0 (c.t.d.fact 30 (f := .glo "_law_spoilt") (by rfl))) F21.kp (bind_21 F21) (ax_cons (ex_var (i := 0) (by rfl) (by first | exact Or.inl rfl | exact Or.inr (Or.inl rfl) | exact Or.inr (Or.inr rfl)) (by decide) (by decide)) (ax_cons (ex_ix (by rfl) (ex_var (i := 1) (by rfl) (by first | exact Or.inl rfl | exact Or.inr (Or.inl rfl) | exact Or.inr (Or.inr rfl)) (by decide) (by decide)) (ex_var (i := 3) (by rfl) (by first | exact Or.inl rfl | exact Or.inr (Or.inl rfl) | exact Or.inr (Or.inr rfl)) (by decide) (by decide)) (fun _ _ => (by rfl))) (ax_cons (ex_bin (op2_sub) (ex_var (i := 2) (by rfl) (by first | exact Or.inl rfl | exact Or.inr (Or.inl rfl) | exact Or.inr (Or.inr rfl)) (by decide) (by decide)) (ex_cst pe_int (fun _ _ => (by rfl)))) (ax_nil) (by rfl)) (by rfl)) (by rfl)) (by decide) (by rfl) (by rfl)) (ax_nil) (by rfl)))) (ex_sl (by rfl) (ex_var (i := 1) (by rfl) (by first | exact Or.inl rfl | exact Or.inr (Or.inl rfl) | exact Or.inr (Or.inr rfl)) (by decide) (by decide)) (xo_some (ex_bin (op2_add (by rfl)) (ex_var (i := 3) (by rfl) (by first | exact Or.inl rfl | exact Or.inr (Or.inl rfl) | exact Or.inr (Or.inr rfl)) (by decide) (by decide)) (ex_cst pe_int (fun _ _ => (by rfl))))) xo_none))))) (xs_nil)) (
      xs_cons (xs_set (i := 4) hnd (by rfl) (by first | exact Or.inl rfl | exact Or.inr rfl) (fun _ _ _ => trivial) (ex_call (ih16) tk (hr.mono (by omega)) (by rfl) (He.glo_ok X0 G0 (c.t.d.fact 28 (f := .glo "_law_take") (by rfl))) F16.kp (bind_16 F16) (ax_cons (ex_var (i := 0) (by rfl) (by first | exact Or.inl rfl | exact Or.inr (Or.inl rfl) | exact Or.inr (Or.inr rfl)) (by decide) (by decide)) (ax_cons (ex_cst pe_int (fun _ _ => (by rfl))) (ax_nil) (by rfl)) (by rfl)) (by decide) (by rfl) (by rfl)) (by rfl) (by first | exact Or.inl rfl | exact Or.inr rfl)) (
      xs_cons (xs_if (xt_cmp (op2_eq (by rfl) hr.units) (ex_var (i := 4) (by rfl) (by first | exact Or.inl rfl | exact Or.inr (Or.inl rfl) | exact Or.inr (Or.inr rfl)) (by decide) (by decide)) (ex_cst pe_int (fun _ _ => (by rfl))) (nomark _)) (xs_one (xs_ret (ex_tyL (fl_list (by rfl)) call_list_of (by rfl) (He.free_ok X0 G0 (c.t.d.fact 12 (f := .free "list") (by rfl))) (by decide +kernel) (ax_cons (ex_var (i := 1) (by rfl) (by first | exact Or.inl rfl | exact Or.inr (Or.inl rfl) | exact Or.inr (Or.inr rfl)) (by decide) (by decide)) (ax_nil) (by rfl)) (by decide) (by decide) (by rfl) (by rfl)))) (xs_nil)) (
      xs_cons (xs_if (xt_cmp (op2_eq (by rfl) hr.units) (ex_var (i := 4) (by rfl) (by first | exact Or.inl rfl | exact Or.inr (Or.inl rfl) | exact Or.inr (Or.inr rfl)) (by decide) (by decide)) (ex_cst pe_int (fun _ _ => (by rfl))) (nomark _)) (xs_one (xs_ret (ex_bin (op2_add (by rfl)) (ex_sl (by rfl) (ex_var (i := 1) (by rfl) (by first | exact Or.inl rfl | exact Or.inr (Or.inl rfl) | exact Or.inr (Or.inr rfl)) (by decide) (by decide)) xo_none (xo_some (ex_var (i := 3) (by rfl) (by first | exact Or.inl rfl | exact Or.inr (Or.inl rfl) | exact Or.inr (Or.inr rfl)) (by decide) (by decide)))) (ex_sl (by rfl) (ex_var (i := 1) (by rfl) (by first | exact Or.inl rfl | exact Or.inr (Or.inl rfl) | exact Or.inr (Or.inr rfl)) (by decide) (by decide)) (xo_some (ex_bin (op2_add (by rfl)) (ex_var (i := 3) (by rfl) (by first | exact Or.inl rfl | exact Or.inr (Or.inl rfl) | exact Or.inr (Or.inr rfl)) (by decide) (by decide)) (ex_cst pe_int (fun _ _ => (by rfl))))) xo_none)))) (xs_nil)) (
      xs_cons (xs_if (xt_cmp (op2_eq (by rfl) hr.units) (ex_var (i := 4) (by rfl) (by first | exact Or.inl rfl | exact Or.inr (Or.inl rfl) | exact Or.inr (Or.inr rfl)) (by decide) (by decide)) (ex_cst pe_int (fun _ _ => (by rfl))) (nomark _)) (xs_one (xs_ret (ex_bin (op2_add (by rfl)) (ex_bin (op2_add (by rfl)) (ex_sl (by rfl) (ex_var (i := 1) (by rfl) (by first | exact Or.inl rfl | exact Or.inr (Or.inl rfl) | exact Or.inr (Or.inr rfl)) (by decide) (by decide)) xo_none (xo_some (ex_var (i := 3) (by rfl) (by first | exact Or.inl rfl | exact Or.inr (Or.inl rfl) | exact Or.inr (Or.inr rfl)) (by decide) (by decide)))) (ex_sl (by rfl) (ex_var (i := 1) (by rfl) (by first | exact Or.inl rfl | exact Or.inr (Or.inl rfl) | exact Or.inr (Or.inr rfl)) (by decide) (by decide)) (xo_some (ex_var (i := 3) (by rfl) (by first | exact Or.inl rfl | exact Or.inr (Or.inl rfl) | exact Or.inr (Or.inr rfl)) (by decide) (by decide))) (xo_some (ex_bin (op2_add (by rfl)) (ex_var (i := 3) (by rfl) (by first | exact Or.inl rfl | exact Or.inr (Or.inl rfl) | exact Or.inr (Or.inr rfl)) (by decide) (by decide)) (ex_cst pe_int (fun _ _ => (by rfl))))))) (ex_sl (by rfl) (ex_var (i := 1) (by rfl) (by first | exact Or.inl rfl | exact Or.inr (Or.inl rfl) | exact Or.inr (Or.inr rfl)) (by decide) (by decide)) (xo_some (ex_var (i := 3) (by rfl) (by first | exact Or.inl rfl | exact Or.inr (Or.inl rfl) | exact Or.inr (Or.inr rfl)) (by decide) (by decide))) xo_none)))) (xs_nil)) (
      xs_cons (xs_if (xt_cmp (op2_eq (by rfl) hr.units) (ex_var (i := 4) (by rfl) (by first | exact Or.inl rfl | exact Or.inr (Or.inl rfl) | exact Or.inr (Or.inr rfl)) (by decide) (by decide)) (ex_cst pe_int (fun _ _ => (by rfl))) (nomark _)) (xs_one (xs_ret (ex_bin (op2_add (by rfl)) (ex_sl (by rfl) (ex_var (i := 1) (by rfl) (by first | exact Or.inl rfl | exact Or.inr (Or.inl rfl) | exact Or.inr (Or.inr rfl)) (by decide) (by decide)) (xo_some (ex_var (i := 3) (by rfl) (by first | exact Or.inl rfl | exact Or.inr (Or.inl rfl) | exact Or.inr (Or.inr rfl)) (by decide) (by decide))) xo_none) (ex_sl (by rfl) (ex_var (i := 1) (by rfl) (by first | exact Or.inl rfl | exact Or.inr (Or.inl rfl) | exact Or.inr (Or.inr rfl)) (by decide) (by decide)) xo_none (xo_some (ex_var (i := 3) (by rfl) (by first | exact Or.inl rfl | exact Or.inr (Or.inl rfl) | exact Or.inr (Or.inr rfl)) (by decide) (by decide))))))) (xs_nil)) (
      xs_cons (xs_if (xt_cmp (op2_eq (by rfl) hr.units) (ex_var (i := 4) (by rfl) (by first | exact Or.inl rfl | exact Or.inr (Or.inl rfl) | exact Or.inr (Or.inr rfl)) (by decide) (by decide)) (ex_cst pe_int (fun _ _ => (by rfl))) (nomark _)) (xs_one (xs_ret (ex_bin (op2_add (by rfl)) (ex_var (i := 1) (by rfl) (by first | exact Or.inl rfl | exact Or.inr (Or.inl rfl) | exact Or.inr (Or.inr rfl)) (by decide) (by decide)) (ex_tup (ax_cons (ex_tup (ax_nil)) (ax_nil) (by rfl)))))) (xs_nil)) (
      xs_cons (xs_if (xt_cmp (op2_eq (by rfl) hr.units) (ex_var (i := 4) (by rfl) (by first | exact Or.inl rfl | exact Or.inr (Or.inl rfl) | exact Or.inr (Or.inr rfl)) (by decide) (by decide)) (ex_cst pe_int (fun _ _ => (by rfl))) (nomark _)) (xs_one (xs_ret (ex_bin (op2_add (by rfl)) (ex_bin (op2_add (by rfl)) (ex_sl (by rfl) (ex_var (i := 1) (by rfl) (by first | exact Or.inl rfl | exact Or.inr (Or.inl rfl) | exact Or.inr (Or.inr rfl)) (by decide) (by decide)) xo_none (xo_some (ex_var (i := 3) (by rfl) (by first | exact Or.inl rfl | exact Or.inr (Or.inl rfl) | exact Or.inr (Or.inr rfl)) (by decide) (by decide)))) (ex_tup (ax_cons (ex_cst pe_int (fun _ _ => (by rfl))) (ax_nil) (by rfl)))) (ex_sl (by rfl) (ex_var (i := 1) (by rfl) (by first | exact Or.inl rfl | exact Or.inr (Or.inl rfl) | exact Or.inr (Or.inr rfl)) (by decide) (by decide)) (xo_some (ex_var (i := 3) (by rfl) (by first | exact Or.inl rfl | exact Or.inr (Or.inl rfl) | exact Or.inr (Or.inr rfl)) (by decide) (by decide))) xo_none)))) (xs_nil)) (
      xs_cons (xs_if (xt_cmp (op2_eq (by rfl) hr.units) (ex_var (i := 4) (by rfl) (by first | exact Or.inl rfl | exact Or.inr (Or.inl rfl) | exact Or.inr (Or.inr rfl)) (by decide) (by decide)) (ex_cst pe_int (fun _ _ => (by rfl))) (nomark _)) (xs_one (xs_ret (ex_bin (op2_add (by rfl)) (ex_sl (by rfl) (ex_var (i := 1) (by rfl) (by first | exact Or.inl rfl | exact Or.inr (Or.inl rfl) | exact Or.inr (Or.inr rfl)) (by decide) (by decide)) xo_none (xo_some (ex_neg (ex_cst pe_int (fun _ _ => (by rfl)))))) (ex_sl (by rfl) (ex_var (i := 1) (by rfl) (by first | exact Or.inl rfl | exact Or.inr (Or.inl rfl) | exact Or.inr (Or.inr rfl)) (by decide) (by decide)) xo_none (xo_some (ex_cst pe_int (fun _ _ => (by rfl)))))))) (xs_nil)) (
      xs_one (xs_ret (ex_cst pe_non (fun _ _ => (by rfl))))))))))))))) (xs_nil)) (
      xs_cons (xs_if (xt_val (ex_isi (by rfl) (qok_of (cs := cds) hG (cmore c) (by rfl) (by decide) (by decide)) (.ty _) (ex_var (i := 1) (by rfl) (by first | exact Or.inl rfl | exact Or.inr (Or.inl rfl) | exact Or.inr (Or.inr rfl)) (by decide) (by decide)) (pe_bltn (u := .type "str") (by rfl) (He.free_ok X0 G0 (c.t.d.fact 31 (f := .free "str") (by rfl))) (by decide +kernel) (by rfl) (by decide) (by decide)) (by rfl) (He.free_ok X0 G0 (c.t.d.fact 1 (f := .free "isinstance") (by rfl))) (by rfl) (by rfl) (by rfl)) (fun _ => (by rfl))) (xs_one (xs_ret (ex_call (ih17) tk (hr.mono (by omega)) (by rfl) (He.glo_ok X0 G0 (c.t.d.fact 32 (f := .glo "_law_pick") (by rfl))) F17.kp (bind_17 F17) (ax_cons (ex_var (i := 0) (by rfl) (by first | exact Or.inl rfl | exact Or.inr (Or.inl rfl) | exact Or.inr (Or.inr rfl)) (by decide) (by decide)) (ax_cons (ex_lst (ax_cons (ex_bin (op2_add (by rfl)) (ex_var (i := 1) (by rfl) (by first | exact Or.inl rfl | exact Or.inr (Or.inl rfl) | exact Or.inr (Or.inr rfl)) (by decide) (by decide)) (ex_cst pe_str (fun _ _ => (by rfl)))) (ax_cons (ex_cst pe_str (fun _ _ => (by rfl))) (ax_cons (ex_sl (by rfl) (ex_var (i := 1) (by rfl) (by first | exact Or.inl rfl | exact Or.inr (Or.inl rfl) | exact Or.inr (Or.inr rfl)) (by decide) (by decide)) (xo_some (ex_cst pe_int (fun _ _ => (by rfl)))) xo_none) (ax_cons (ex_bin (op2_add (by rfl)) (ex_cst pe_str (fun _ _ => (by rfl))) (ex_var (i := 1) (by rfl) (by first | exact Or.inl rfl | exact Or.inr (Or.inl rfl) | exact Or.inr (Or.inr rfl)) (by decide) (by decide))) (ax_cons (ex_cst pe_int (fun _ _ => (by rfl))) (ax_nil) (by rfl)) (by rfl)) (by rfl)) (by rfl)) (by rfl))) (ax_nil) (by rfl)) (by rfl)) (by decide) (by rfl) (by rfl)))) (xs_nil)) (
      xs_cons (xs_if (xt_val (ex_call (ih18) tk (hr.mono (by omega)) (by rfl) (He.glo_ok X0 G0 (c.t.d.fact 29 (f := .glo "_law_whole") (by rfl))) F18.kp (bind_18 F18) (ax_cons (ex_var (i := 1) (by rfl) (by first | exact Or.inl rfl | exact Or.inr (Or.inl rfl) | exact Or.inr (Or.inr rfl)) (by decide) (by decide)) (ax_nil) (by rfl)) (by decide) (by rfl) (by rfl)) (fun _ => (by rfl))) (xs_one (xs_ret (ex_call (ih17) tk (hr.mono (by omega)) (by rfl) (He.glo_ok X0 G0 (c.t.d.fact 32 (f := .glo "_law_pick") (by rfl))) F17.kp (bind_17 F17) (ax_cons (ex_var (i := 0) (by rfl) (by first | exact Or.inl rfl | exact Or.inr (Or.inl rfl) | exact Or.inr (Or.inr rfl)) (by decide) (by decide)) (ax_cons (ex_lst (ax_cons (ex_bin (op2_add (by rfl)) (ex_var (i := 1) (by rfl) (by first | exact Or.inl rfl | exact Or.inr (Or.inl rfl) | exact Or.inr (Or.inr rfl)) (by decide) (by decide)) (ex_cst pe_int (fun _ _ => (by rfl)))) (ax_cons (ex_bin (op2_sub) (ex_var (i := 1) (by rfl) (by first | exact Or.inl rfl | exact Or.inr (Or.inl rfl) | exact Or.inr (Or.inr rfl)) (by decide) (by decide)) (ex_cst pe_int (fun _ _ => (by rfl)))) (ax_cons (ex_cmp (op2_gt) (ex_var (i := 1) (by rfl) (by first | exact Or.inl rfl | exact Or.inr (Or.inl rfl) | exact Or.inr (Or.inr rfl)) (by decide) (by decide)) (ex_cst pe_int (fun _ _ => (by rfl))) (nomark _)) (ax_cons (ex_bin (op2_sub) (ex_neg (ex_cst pe_int (fun _ _ => (by rfl)))) (ex_var (i := 1) (by rfl) (by first | exact Or.inl rfl | exact Or.inr (Or.inl rfl) | exact Or.inr (Or.inr rfl)) (by decide) (by decide))) (ax_cons (ex_tup (ax_cons (ex_var (i := 1) (by rfl) (by first | exact Or.inl rfl | exact Or.inr (Or.inl rfl) | exact Or.inr (Or.inr rfl)) (by decide) (by decide)) (ax_nil) (by rfl))) (ax_cons (ex_cst pe_non (fun _ _ => (by rfl))) (ax_cons (ex_ty fb_str call_str_int (by rfl) (He.free_ok X0 G0 (c.t.d.fact 31 (f := .free "str") (by rfl))) (by decide +kernel) (ax_cons (ex_var (i := 1) (by rfl) (by first | exact Or.inl rfl | exact Or.inr (Or.inl rfl) | exact Or.inr (Or.inr rfl)) (by decide) (by decide)) (ax_nil) (by rfl)) (by decide) (by decide) (by rfl) (by rfl)) (ax_cons (ex_bin (op2_add (by rfl)) (ex_var (i := 1) (by rfl) (by first | exact Or.inl rfl | exact Or.inr (Or.inl rfl) | exact Or.inr (Or.inr rfl)) (by decide) (by decide)) (ex_cst pe_int (fun _ _ => (by rfl)))) (ax_nil) (by rfl)) (by rfl)) (by rfl)) (by rfl)) (by rfl)) (by rfl)) (by rfl)) (by rfl))) (ax_nil) (by rfl)) (by rfl)) (by decide) (by rfl) (by rfl)))) (xs_nil)) (
      xs_one (xs_ret (ex_call (ih17) tk (hr.mono (by omega)) (by rfl) (He.glo_ok X0 G0 (c.t.d.fact 32 (f := .glo "_law_pick") (by rfl))) F17.kp (bind_17 F17) (ax_cons (ex_var (i := 0) (by rfl) (by first | exact Or.inl rfl | exact Or.inr (Or.inl rfl) | exact Or.inr (Or.inr rfl)) (by decide) (by decide)) (ax_cons (ex_lst (ax_cons (ex_cst pe_int (fun _ _ => (by rfl))) (ax_cons (ex_tup (ax_nil)) (ax_cons (ex_cst pe_str (fun _ _ => (by rfl))) (ax_nil) (by rfl)) (by rfl)) (by rfl))) (ax_nil) (by rfl)) (by rfl)) (by decide) (by rfl) (by rfl))))))
theorem run_22 (n : Nat) : run (n + 1) 22 = body0 4 (b_22 (run n)) := rfl
theorem ok_22 (c : He.SaysX fa fn [] tf exK w h K) (X0 : K.In h) (G0 : h.Ns mainGlobals mg) (tb : ∀ p ∈ tf, LamX.TabB base mg (He.cT K p).1 (He.cT K p).2) {n : Nat} (ih : ∀ j, OkAt P w mg base K n j) : OkAt P w mg base K (n + 1) 22 := by
  intro fd F
  obtain ⟨fd16, F16⟩ := c.t.d.def_ 16 (d := d_16) rfl
  have ih16 := ih 16 fd16 F16
  rw [run_22]
  refine fn_ok (G := GG K) (N := ["box", "some", "found", "one"]) (ps := ["box", "some"]) (k := 2 * n + 3) (fun _ => trivial) F sc_22 fun cdv A outer s H E hr => ?_
  have hnd : (["box", "some", "found", "one"] : List Str).Nodup := sc_22.nd
  have tk := takes_of (X := cxOf (L2.CX P w) P w K mg base ["box", "some", "found", "one"] "_law_shuffled" (defScope s_22) (He.fAd K d_22.at_) cdv A outer s H E) rfl rfl rfl rfl
  have hp := passes_of (X := cxOf (L2.CX P w) P w K mg base ["box", "some", "found", "one"] "_law_shuffled" (defScope s_22) (He.fAd K d_22.at_) cdv A outer s H E) rfl
  have hcls := clsok c
  unfold b_22 Tx.t__law_shuffled
  exact xs_cons (xs_set (i := 2) hnd (by rfl) (by first | exact Or.inl rfl | exact Or.inr rfl) (fun _ _ _ => trivial) (ex_lst (ax_nil)) (by rfl) (by first | exact Or.inl rfl | exact Or.inr rfl)) (
      xs_cons (xs_for hp (by rfl) (xi_iter (by rfl) (ex_var (i := 1) (by rfl) (by first | exact Or.inl rfl | exact Or.inr (Or.inl rfl) | exact Or.inr (Or.inr rfl)) (by decide) (by decide))) (xg_name (i := 3) hnd (by rfl) (by first | exact Or.inl rfl | exact Or.inr rfl) (fun _ _ _ => trivial) (by first | exact Or.inl rfl | exact Or.inr rfl)) (xs_one (xs_drop (ex_lm (by rfl) lm_insert PySem.F.plainAttrs_list PySem.F.slot_list_insert PySem.F.type_list_insert mt_insert (ex_var (i := 2) (by rfl) (by first | exact Or.inl rfl | exact Or.inr (Or.inl rfl) | exact Or.inr (Or.inr rfl)) (by decide) (by decide)) (ax_cons (ex_call (ih16) tk (hr.mono (by omega)) (by rfl) (He.glo_ok X0 G0 (c.t.d.fact 28 (f := .glo "_law_take") (by rfl))) F16.kp (bind_16 F16) (ax_cons (ex_var (i := 0) (by rfl) (by first | exact Or.inl rfl | exact Or.inr (Or.inl rfl) | exact Or.inr (Or.inr rfl)) (by decide) (by decide)) (ax_cons (ex_bin (op2_add (by rfl)) (ex_bi (fb_len (by rfl)) cr_len (by rfl) (He.free_ok X0 G0 (c.t.d.fact 4 (f := .free "len") (by rfl))) (by decide +kernel) (ax_cons (ex_var (i := 2) (by rfl) (by first | exact Or.inl rfl | exact Or.inr (Or.inl rfl) | exact Or.inr (Or.inr rfl)) (by decide) (by decide)) (ax_nil) (by rfl)) (by decide) (by decide) (by rfl) (by rfl)) (ex_cst pe_int (fun _ _ => (by rfl)))) (ax_nil) (by rfl)) (by rfl)) (by decide) (by rfl) (by rfl)) (ax_cons (ex_var (i := 3) (by rfl) (by first | exact Or.inl rfl | exact Or.inr (Or.inl rfl) | exact Or.inr (Or.inr rfl)) (by decide) (by decide)) (ax_nil) (by rfl)) (by rfl)) (by rfl) (by rfl) (by rfl) (by rfl) (by rfl)) (by rfl))) (fun _ => (by rfl))) (
      xs_one (xs_ret (ex_var (i := 2) (by rfl) (by first | exact Or.inl rfl | exact Or.inr (Or.inl rfl) | exact Or.inr (Or.inr rfl)) (by decide) (by decide)))))
theorem run_23 (n : Nat) : run (n + 1) 23 = body0 4 (b_23 (run n)) := rfl
theorem ok_23 (c : He.SaysX fa fn [] tf exK w h K) (X0 : K.In h) (G0 : h.Ns mainGlobals mg) (tb : ∀ p ∈ tf, LamX.TabB base mg (He.cT K p).1 (He.cT K p).2) {n : Nat} (ih : ∀ j, OkAt P w mg base K n j) : OkAt P w mg base K (n + 1) 23 := by
  intro fd F

  rw [run_23]
  refine fn_okC (G := GG K) (p := d_23.at_) (N := ["n", "found", "member", "group"]) (ps := ["n"]) (k := 2 * n + 3) (fun _ => trivial) F sc_23 fun A outer s H E hr => ?_
  have hnd : (["n", "found", "member", "group"] : List Str).Nodup := sc_23.nd
  have tk := takes_of (X := cxOf (L2.CX P w) P w K mg base ["n", "found", "member", "group"] "_law_all_groups" (defScope s_23) (He.fAd K d_23.at_) (.ref (He.codeOf K d_23.at_)) A outer s H E) rfl rfl rfl rfl
  have hp := passes_of (X := cxOf (L2.CX P w) P w K mg base ["n", "found", "member", "group"] "_law_all_groups" (defScope s_23) (He.fAd K d_23.at_) (.ref (He.codeOf K d_23.at_)) A outer s H E) rfl
  have hcls := clsok c
  unfold b_23 Tx.t__law_all_groups
  exact xs_cons (xs_set (i := 1) hnd (by rfl) (by first | exact Or.inl rfl | exact Or.inr rfl) (fun _ _ _ => trivial) (ex_lst (ax_cons (ex_tup (ax_nil)) (ax_nil) (by rfl))) (by rfl) (by first | exact Or.inl rfl | exact Or.inr rfl)) (
      xs_cons (xs_for hp (by rfl) (xi_range1 (by rfl) (He.free_ok X0 G0 (c.t.d.fact 5 (f := .free "range") (by rfl))) (ax_cons (ex_var (i := 0) (by rfl) (by first | exact Or.inl rfl | exact Or.inr (Or.inl rfl) | exact Or.inr (Or.inr rfl)) (by decide) (by decide)) (ax_nil) (by rfl)) (by rfl)) (xg_name (i := 2) hnd (by rfl) (by first | exact Or.inl rfl | exact Or.inr rfl) (fun _ _ _ => trivial) (by first | exact Or.inl rfl | exact Or.inr rfl)) (xs_one (xs_set (i := 1) hnd (by rfl) (by first | exact Or.inl rfl | exact Or.inr rfl) (fun _ _ _ => trivial) (ex_bin (op2_add (by rfl)) (ex_var (i := 1) (by rfl) (by first | exact Or.inl rfl | exact Or.inr (Or.inl rfl) | exact Or.inr (Or.inr rfl)) (by decide) (by decide)) (ex_lc (own := [("group", 3)]) (fun _ _ _ _ => trivial) tt_nil (by decide) (by rfl) hnd (xi_iter (by rfl) (ex_var (i := 1) (by rfl) (by first | exact Or.inl rfl | exact Or.inr (Or.inl rfl) | exact Or.inr (Or.inr rfl)) (by decide) (by decide))) (blkOk_by (own := [("group", 3)]) (N := ["n", "found", "member", "group"]) (sc := defScope s_23) (by decide +kernel)) (fun _ _ _ _ _ => xg_name (i := 3) hnd (by rfl) (by first | exact Or.inl rfl | exact Or.inr rfl) (fun _ _ _ => trivial) (by first | exact Or.inl rfl | exact Or.inr rfl)) (fun _ _ _ _ _ => pts_nil) (fun _ _ _ _ _ => ex_bin (op2_add (by rfl)) (ex_var (i := 3) (by rfl) (by first | exact Or.inl rfl | exact Or.inr (Or.inl rfl) | exact Or.inr (Or.inr rfl)) (by decide) (by decide)) (ex_tup (ax_cons (ex_var (i := 2) (by rfl) (by first | exact Or.inl rfl | exact Or.inr (Or.inl rfl) | exact Or.inr (Or.inr rfl)) (by decide) (by decide)) (ax_nil) (by rfl)))) (fun _ => (by rfl)))) (by rfl) (by first | exact Or.inl rfl | exact Or.inr rfl))) (fun _ => (by rfl))) (
      xs_one (xs_ret (ex_sortK (by rfl) (hu70 hr) (ke_lam (c := He.codeOf K d_23.at_) (P := (He.cT K d_23.at_).2) (T' := TT K) (q := (d_23.qual ++ ".<locals>.") ++ "<lambda>") (a := "group") (N := ["group"]) (fr := []) (js := []) (k := 2 * n + 1) (tb _ (.head _)) (by rfl) (by rfl) (by rfl) (.head _) (tt_uniq (cap c) (.head _)) (fun _ => trivial) (by rfl) (fr_by (sc := defScope s_23) (by decide +kernel)) (NdefX.nscope_by (by decide +kernel)) (by decide +kernel) (by rfl) (fun _ _ _ _ _ => (by rfl)) (room2 hr) (fun cl c' f s H E hr => have hnd : (["group"] : List Str).Nodup := (by decide +kernel); ex_tup (ax_cons (ex_bi (fb_len (by rfl)) cr_len (by rfl) (He.free_ok X0 G0 (c.t.d.fact 4 (f := .free "len") (by rfl))) (by decide +kernel) (ax_cons (ex_var (i := 0) (by rfl) (by first | exact Or.inl rfl | exact Or.inr (Or.inl rfl) | exact Or.inr (Or.inr rfl)) (by decide) (by decide)) (ax_nil) (by rfl)) (by decide) (by decide) (by rfl) (by rfl)) (ax_cons (ex_var (i := 0) (by rfl) (by first | exact Or.inl rfl | exact Or.inr (Or.inl rfl) | exact Or.inr (Or.inr rfl)) (by decide) (by decide)) (ax_nil) (by rfl)) (by rfl)))) (by rfl) (He.free_ok X0 G0 (c.t.d.fact 33 (f := .free "sorted") (by rfl))) (by decide +kernel) (ax_cons (ex_lc (own := [("group", 3)]) (fun _ _ _ _ => trivial) tt_one (by decide) (by rfl) hnd (xi_iter (by rfl) (ex_var (i := 1) (by rfl) (by first | exact Or.inl rfl | exact Or.inr (Or.inl rfl) | exact Or.inr (Or.inr rfl)) (by decide) (by decide))) (blkOk_by (own := [("group", 3)]) (N := ["n", "found", "member", "group"]) (sc := defScope s_23) (by decide +kernel)) (fun _ _ _ _ _ => xg_name (i := 3) hnd (by rfl) (by first | exact Or.inl rfl | exact Or.inr rfl) (fun _ _ _ => trivial) (by first | exact Or.inl rfl | exact Or.inr rfl)) (fun _ _ _ _ _ => pts_one (xt_cmp (op2_ne (by rfl) hr.units) (ex_var (i := 3) (by rfl) (by first | exact Or.inl rfl | exact Or.inr (Or.inl rfl) | exact Or.inr (Or.inr rfl)) (by decide) (by decide)) (ex_tup (ax_nil)) (nomark _))) (fun _ _ _ _ _ => ex_var (i := 3) (by rfl) (by first | exact Or.inl rfl | exact Or.inr (Or.inl rfl) | exact Or.inr (Or.inr rfl)) (by decide) (by decide)) (fun _ => (by rfl))) (ax_nil) (by rfl)) (by decide) (by decide) (by rfl) (by rfl) (by rfl) (by rfl) (by rfl)))))
theorem run_24 (n : Nat) : run (n + 1) 24 = body0 6 (b_24 (run n)) := rfl
theorem ok_24 (c : He.SaysX fa fn [] tf exK w h K) (X0 : K.In h) (G0 : h.Ns mainGlobals mg) (tb : ∀ p ∈ tf, LamX.TabB base mg (He.cT K p).1 (He.cT K p).2) {n : Nat} (ih : ∀ j, OkAt P w mg base K n j) : OkAt P w mg base K (n + 1) 24 := by
  intro fd F
  obtain ⟨fd16, F16⟩ := c.t.d.def_ 16 (d := d_16) rfl
  have ih16 := ih 16 fd16 F16
  obtain ⟨fd22, F22⟩ := c.t.d.def_ 22 (d := d_22) rfl
  have ih22 := ih 22 fd22 F22
  rw [run_24]
  refine fn_ok (G := GG K) (N := ["box", "n", "order", "found", "k", "other"]) (ps := ["box", "n"]) (k := 2 * n + 3) (fun _ => trivial) F sc_24 fun cdv A outer s H E hr => ?_
  have hnd : (["box", "n", "order", "found", "k", "other"] : List Str).Nodup := sc_24.nd
  have tk := takes_of (X := cxOf (L2.CX P w) P w K mg base ["box", "n", "order", "found", "k", "other"] "_law_drawn_tree" (defScope s_24) (He.fAd K d_24.at_) cdv A outer s H E) rfl rfl rfl rfl
  have hp := passes_of (X := cxOf (L2.CX P w) P w K mg base ["box", "n", "order", "found", "k", "other"] "_law_drawn_tree" (defScope s_24) (He.fAd K d_24.at_) cdv A outer s H E) rfl
  have hcls := clsok c
  unfold b_24 Tx.t__law_drawn_tree
  exact xs_cons (xs_set (i := 2) hnd (by rfl) (by first | exact Or.inl rfl | exact Or.inr rfl) (fun _ _ _ => trivial) (ex_call (ih22) tk (hr.mono (by omega)) (by rfl) (He.glo_ok X0 G0 (c.t.d.fact 34 (f := .glo "_law_shuffled") (by rfl))) F22.kp (bind_22 F22) (ax_cons (ex_var (i := 0) (by rfl) (by first | exact Or.inl rfl | exact Or.inr (Or.inl rfl) | exact Or.inr (Or.inr rfl)) (by decide) (by decide)) (ax_cons (ex_lrg1 (by rfl) (by rfl) (He.free_ok X0 G0 (c.t.d.fact 12 (f := .free "list") (by rfl))) (by rfl) (He.free_ok X0 G0 (c.t.d.fact 5 (f := .free "range") (by rfl))) (ex_var (i := 1) (by rfl) (by first | exact Or.inl rfl | exact Or.inr (Or.inl rfl) | exact Or.inr (Or.inr rfl)) (by decide) (by decide)) (by rfl) (by rfl)) (ax_nil) (by rfl)) (by rfl)) (by decide) (by rfl) (by rfl)) (by rfl) (by first | exact Or.inl rfl | exact Or.inr rfl)) (
      xs_cons (xs_set (i := 3) hnd (by rfl) (by first | exact Or.inl rfl | exact Or.inr rfl) (fun _ _ _ => trivial) (ex_lst (ax_nil)) (by rfl) (by first | exact Or.inl rfl | exact Or.inr rfl)) (
      xs_cons (xs_for hp (by rfl) (xi_range2 (by rfl) (He.free_ok X0 G0 (c.t.d.fact 5 (f := .free "range") (by rfl))) (ax_cons (ex_cst pe_int (fun _ _ => (by rfl))) (ax_cons (ex_var (i := 1) (by rfl) (by first | exact Or.inl rfl | exact Or.inr (Or.inl rfl) | exact Or.inr (Or.inr rfl)) (by decide) (by decide)) (ax_nil) (by rfl)) (by rfl)) (by rfl) (by rfl)) (xg_name (i := 4) hnd (by rfl) (by first | exact Or.inl rfl | exact Or.inr rfl) (fun _ _ _ => trivial) (by first | exact Or.inl rfl | exact Or.inr rfl)) (xs_cons (xs_set (i := 5) hnd (by rfl) (by first | exact Or.inl rfl | exact Or.inr rfl) (fun _ _ _ => trivial) (ex_ix (by rfl) (ex_var (i := 2) (by rfl) (by first | exact Or.inl rfl | exact Or.inr (Or.inl rfl) | exact Or.inr (Or.inr rfl)) (by decide) (by decide)) (ex_call (ih16) tk (hr.mono (by omega)) (by rfl) (He.glo_ok X0 G0 (c.t.d.fact 28 (f := .glo "_law_take") (by rfl))) F16.kp (bind_16 F16) (ax_cons (ex_var (i := 0) (by rfl) (by first | exact Or.inl rfl | exact Or.inr (Or.inl rfl) | exact Or.inr (Or.inr rfl)) (by decide) (by decide)) (ax_cons (ex_var (i := 4) (by rfl) (by first | exact Or.inl rfl | exact Or.inr (Or.inl rfl) | exact Or.inr (Or.inr rfl)) (by decide) (by decide)) (ax_nil) (by rfl)) (by rfl)) (by decide) (by rfl) (by rfl)) (fun _ _ => (by rfl))) (by rfl) (by first | exact Or.inl rfl | exact Or.inr rfl)) (
      xs_one (xs_drop (ex_lm (by rfl) lm_append PySem.F.plainAttrs_list PySem.F.slot_list_append PySem.F.type_list_append mt_append (ex_var (i := 3) (by rfl) (by first | exact Or.inl rfl | exact Or.inr (Or.inl rfl) | exact Or.inr (Or.inr rfl)) (by decide) (by decide)) (ax_cons (ex_tup (ax_cons (ex_bi fb_min2 (call_min2 (by rfl)) (by rfl) (He.free_ok X0 G0 (c.t.d.fact 21 (f := .free "min") (by rfl))) (by decide +kernel) (ax_cons (ex_ix (by rfl) (ex_var (i := 2) (by rfl) (by first | exact Or.inl rfl | exact Or.inr (Or.inl rfl) | exact Or.inr (Or.inr rfl)) (by decide) (by decide)) (ex_var (i := 4) (by rfl) (by first | exact Or.inl rfl | exact Or.inr (Or.inl rfl) | exact Or.inr (Or.inr rfl)) (by decide) (by decide)) (fun _ _ => (by rfl))) (ax_cons (ex_var (i := 5) (by rfl) (by first | exact Or.inl rfl | exact Or.inr (Or.inl rfl) | exact Or.inr (Or.inr rfl)) (by decide) (by decide)) (ax_nil) (by rfl)) (by rfl)) (by decide) (by decide) (by rfl) (by rfl)) (ax_cons (ex_bi fb_max2 (call_max2 (by rfl)) (by rfl) (He.free_ok X0 G0 (c.t.d.fact 20 (f := .free "max") (by rfl))) (by decide +kernel) (ax_cons (ex_ix (by rfl) (ex_var (i := 2) (by rfl) (by first | exact Or.inl rfl | exact Or.inr (Or.inl rfl) | exact Or.inr (Or.inr rfl)) (by decide) (by decide)) (ex_var (i := 4) (by rfl) (by first | exact Or.inl rfl | exact Or.inr (Or.inl rfl) | exact Or.inr (Or.inr rfl)) (by decide) (by decide)) (fun _ _ => (by rfl))) (ax_cons (ex_var (i := 5) (by rfl) (by first | exact Or.inl rfl | exact Or.inr (Or.inl rfl) | exact Or.inr (Or.inr rfl)) (by decide) (by decide)) (ax_nil) (by rfl)) (by rfl)) (by decide) (by decide) (by rfl) (by rfl)) (ax_nil) (by rfl)) (by rfl))) (ax_nil) (by rfl)) (by rfl) (by rfl) (by rfl) (by rfl) (by rfl)) (by rfl)))) (fun _ => (by rfl))) (
      xs_one (xs_ret (ex_ty (fb_tuple (by rfl)) call_tupF (by rfl) (He.free_ok X0 G0 (c.t.d.fact 8 (f := .free "tuple") (by rfl))) (by decide +kernel) (ax_cons (ex_biL (fl_sorted (by rfl)) (cr_srtD (hu70 hr)) (by rfl) (He.free_ok X0 G0 (c.t.d.fact 33 (f := .free "sorted") (by rfl))) (by decide +kernel) (ax_cons (ex_var (i := 3) (by rfl) (by first | exact Or.inl rfl | exact Or.inr (Or.inl rfl) | exact Or.inr (Or.inr rfl)) (by decide) (by decide)) (ax_nil) (by rfl)) (by decide) (by decide) (by rfl) (by rfl)) (ax_nil) (by rfl)) (by decide) (by decide) (by rfl) (by rfl))))))
theorem run_25 (n : Nat) : run (n + 1) 25 = body0 3 (b_25 (run n)) := rfl
theorem ok_25 (c : He.SaysX fa fn [] tf exK w h K) (X0 : K.In h) (G0 : h.Ns mainGlobals mg) (tb : ∀ p ∈ tf, LamX.TabB base mg (He.cT K p).1 (He.cT K p).2) {n : Nat} (ih : ∀ j, OkAt P w mg base K n j) : OkAt P w mg base K (n + 1) 25 := by
  intro fd F

  rw [run_25]
  refine fn_ok (G := GG K) (N := ["group", "tree", "pair"]) (ps := ["group", "tree"]) (k := 2 * n + 3) (fun _ => trivial) F sc_25 fun cdv A outer s H E hr => ?_
  have hnd : (["group", "tree", "pair"] : List Str).Nodup := sc_25.nd
  have tk := takes_of (X := cxOf (L2.CX P w) P w K mg base ["group", "tree", "pair"] "_law_hangs" (defScope s_25) (He.fAd K d_25.at_) cdv A outer s H E) rfl rfl rfl rfl
  have hp := passes_of (X := cxOf (L2.CX P w) P w K mg base ["group", "tree", "pair"] "_law_hangs" (defScope s_25) (He.fAd K d_25.at_) cdv A outer s H E) rfl
  have hcls := clsok c
  unfold b_25 Tx.t__law_hangs
  exact xs_one (xs_ret (ex_cmp (op2_eq (by rfl) hr.units) (ex_bi (fb_len (by rfl)) cr_len (by rfl) (He.free_ok X0 G0 (c.t.d.fact 4 (f := .free "len") (by rfl))) (by decide +kernel) (ax_cons (ex_lc (own := [("pair", 2)]) (fun _ _ _ _ => trivial) tt_one (by decide) (by rfl) hnd (xi_iter (by rfl) (ex_var (i := 1) (by rfl) (by first | exact Or.inl rfl | exact Or.inr (Or.inl rfl) | exact Or.inr (Or.inr rfl)) (by decide) (by decide))) (blkOk_by (own := [("pair", 2)]) (N := ["group", "tree", "pair"]) (sc := defScope s_25) (by decide +kernel)) (fun _ _ _ _ _ => xg_name (i := 2) hnd (by rfl) (by first | exact Or.inl rfl | exact Or.inr rfl) (fun _ _ _ => trivial) (by first | exact Or.inl rfl | exact Or.inr rfl)) (fun _ _ _ _ _ => pts_one (PW.pt (xw_and (xt_cmp (op2_in (by rfl) (hu65 hr)) (ex_ix (by rfl) (ex_var (i := 2) (by rfl) (by first | exact Or.inl rfl | exact Or.inr (Or.inl rfl) | exact Or.inr (Or.inr rfl)) (by decide) (by decide)) (ex_cst pe_int (fun _ _ => (by rfl))) (fun _ _ => (by rfl))) (ex_var (i := 0) (by rfl) (by first | exact Or.inl rfl | exact Or.inr (Or.inl rfl) | exact Or.inr (Or.inr rfl)) (by decide) (by decide)) (by with_unfolding_all rfl)) (xw_and1 (xt_cmp (op2_in (by rfl) (hu65 hr)) (ex_ix (by rfl) (ex_var (i := 2) (by rfl) (by first | exact Or.inl rfl | exact Or.inr (Or.inl rfl) | exact Or.inr (Or.inr rfl)) (by decide) (by decide)) (ex_cst pe_int (fun _ _ => (by rfl))) (fun _ _ => (by rfl))) (ex_var (i := 0) (by rfl) (by first | exact Or.inl rfl | exact Or.inr (Or.inl rfl) | exact Or.inr (Or.inr rfl)) (by decide) (by decide)) (by with_unfolding_all rfl)))))) (fun _ _ _ _ _ => ex_var (i := 2) (by rfl) (by first | exact Or.inl rfl | exact Or.inr (Or.inl rfl) | exact Or.inr (Or.inr rfl)) (by decide) (by decide)) (fun _ => (by rfl))) (ax_nil) (by rfl)) (by decide) (by decide) (by rfl) (by rfl)) (ex_bin (op2_sub) (ex_bi (fb_len (by rfl)) cr_len (by rfl) (He.free_ok X0 G0 (c.t.d.fact 4 (f := .free "len") (by rfl))) (by decide +kernel) (ax_cons (ex_var (i := 0) (by rfl) (by first | exact Or.inl rfl | exact Or.inr (Or.inl rfl) | exact Or.inr (Or.inr rfl)) (by decide) (by decide)) (ax_nil) (by rfl)) (by decide) (by decide) (by rfl) (by rfl)) (ex_cst pe_int (fun _ _ => (by rfl)))) (nomark _)))
theorem run_26 (n : Nat) : run (n + 1) 26 = body0 8 (b_26 (run n)) := rfl
theorem ok_26 (c : He.SaysX fa fn [] tf exK w h K) (X0 : K.In h) (G0 : h.Ns mainGlobals mg) (tb : ∀ p ∈ tf, LamX.TabB base mg (He.cT K p).1 (He.cT K p).2) {n : Nat} (ih : ∀ j, OkAt P w mg base K n j) : OkAt P w mg base K (n + 1) 26 := by
  intro fd F

  rw [run_26]
  refine fn_ok (G := GG K) (N := ["n", "groups", "parts", "member", "group", "met", "part", "joined"]) (ps := ["n", "groups"]) (k := 2 * n + 3) (fun _ => trivial) F sc_26 fun cdv A outer s H E hr => ?_
  have hnd : (["n", "groups", "parts", "member", "group", "met", "part", "joined"] : List Str).Nodup := sc_26.nd
  have tk := takes_of (X := cxOf (L2.CX P w) P w K mg base ["n", "groups", "parts", "member", "group", "met", "part", "joined"] "_law_is_forest" (defScope s_26) (He.fAd K d_26.at_) cdv A outer s H E) rfl rfl rfl rfl
  have hp := passes_of (X := cxOf (L2.CX P w) P w K mg base ["n", "groups", "parts", "member", "group", "met", "part", "joined"] "_law_is_forest" (defScope s_26) (He.fAd K d_26.at_) cdv A outer s H E) rfl
  have hcls := clsok c
  unfold b_26 Tx.t__law_is_forest
  exact xs_cons (xs_setLc (own := [("member", 3)]) (j := 2) (fun _ _ _ _ => trivial) tt_nil (by decide) (by rfl) hnd (by rfl) (by rfl) (sw_true (by rfl) (by rfl) (by rfl) (by decide +kernel)) (xi_range1 (by rfl) (He.free_ok X0 G0 (c.t.d.fact 5 (f := .free "range") (by rfl))) (ax_cons (ex_var (i := 0) (by rfl) (by first | exact Or.inl rfl | exact Or.inr (Or.inl rfl) | exact Or.inr (Or.inr rfl)) (by decide) (by decide)) (ax_nil) (by rfl)) (by rfl)) (blkOk_by (own := [("member", 3)]) (N := ["n", "groups", "parts", "member", "group", "met", "part", "joined"]) (sc := defScope s_26) (by decide +kernel)) (fun _ _ _ _ _ => xg_name (i := 3) hnd (by rfl) (by first | exact Or.inl rfl | exact Or.inr rfl) (fun _ _ _ => trivial) (by first | exact Or.inl rfl | exact Or.inr rfl)) (fun _ _ _ _ _ => pts_nil) (fun _ _ _ _ _ => ex_tup (ax_cons (ex_var (i := 3) (by rfl) (by first | exact Or.inl rfl | exact Or.inr (Or.inl rfl) | exact Or.inr (Or.inr rfl)) (by decide) (by decide)) (ax_nil) (by rfl))) (fun _ => (by rfl))) (
      xs_cons (xs_for hp (by rfl) (xi_iter (by rfl) (ex_var (i := 1) (by rfl) (by first | exact Or.inl rfl | exact Or.inr (Or.inl rfl) | exact Or.inr (Or.inr rfl)) (by decide) (by decide))) (xg_name (i := 4) hnd (by rfl) (by first | exact Or.inl rfl | exact Or.inr rfl) (fun _ _ _ => trivial) (by first | exact Or.inl rfl | exact Or.inr rfl)) (xs_one (xs_if (xt_cmp (op2_gt) (ex_bi (fb_len (by rfl)) cr_len (by rfl) (He.free_ok X0 G0 (c.t.d.fact 4 (f := .free "len") (by rfl))) (by decide +kernel) (ax_cons (ex_var (i := 4) (by rfl) (by first | exact Or.inl rfl | exact Or.inr (Or.inl rfl) | exact Or.inr (Or.inr rfl)) (by decide) (by decide)) (ax_nil) (by rfl)) (by decide) (by decide) (by rfl) (by rfl)) (ex_cst pe_int (fun _ _ => (by rfl))) (nomark _)) (xs_cons (xs_set (i := 5) hnd (by rfl) (by first | exact Or.inl rfl | exact Or.inr rfl) (fun _ _ _ => trivial) (ex_lc (own := [("part", 6)]) (fun _ _ _ _ => trivial) tt_one (by decide) (by rfl) hnd (xi_iter (by rfl) (ex_var (i := 2) (by rfl) (by first | exact Or.inl rfl | exact Or.inr (Or.inl rfl) | exact Or.inr (Or.inr rfl)) (by decide) (by decide))) (blkOk_by (own := [("part", 6)]) (N := ["n", "groups", "parts", "member", "group", "met", "part", "joined"]) (sc := defScope s_26) (by decide +kernel)) (fun _ _ _ _ _ => xg_name (i := 6) hnd (by rfl) (by first | exact Or.inl rfl | exact Or.inr rfl) (fun _ _ _ => trivial) (by first | exact Or.inl rfl | exact Or.inr rfl)) (fun _ _ _ _ _ => pts_one (xt_cmp (op2_ne (by rfl) hr.units) (ex_lc (own := [("member", 3)]) (fun _ _ _ _ => trivial) tt_one (by decide) (by rfl) hnd (xi_iter (by rfl) (ex_var (i := 6) (by rfl) (by first | exact Or.inl rfl | exact Or.inr (Or.inl rfl) | exact Or.inr (Or.inr rfl)) (by decide) (by decide))) (blkOk_by (own := [("member", 3)]) (N := ["n", "groups", "parts", "member", "group", "met", "part", "joined"]) (sc := relS _ (defScope s_26)) (by decide +kernel)) (fun _ _ _ _ _ => xg_name (i := 3) hnd (by rfl) (by first | exact Or.inl rfl | exact Or.inr rfl) (fun _ _ _ => trivial) (by first | exact Or.inl rfl | exact Or.inr rfl)) (fun _ _ _ _ _ => pts_one (xt_cmp (op2_in (by rfl) (hu65 hr)) (ex_var (i := 3) (by rfl) (by first | exact Or.inl rfl | exact Or.inr (Or.inl rfl) | exact Or.inr (Or.inr rfl)) (by decide) (by decide)) (ex_var (i := 4) (by rfl) (by first | exact Or.inl rfl | exact Or.inr (Or.inl rfl) | exact Or.inr (Or.inr rfl)) (by decide) (by decide)) (by with_unfolding_all rfl))) (fun _ _ _ _ _ => ex_var (i := 3) (by rfl) (by first | exact Or.inl rfl | exact Or.inr (Or.inl rfl) | exact Or.inr (Or.inr rfl)) (by decide) (by decide)) (fun _ => (by rfl))) (ex_lst (ax_nil)) (nomark _))) (fun _ _ _ _ _ => ex_var (i := 6) (by rfl) (by first | exact Or.inl rfl | exact Or.inr (Or.inl rfl) | exact Or.inr (Or.inr rfl)) (by decide) (by decide)) (fun _ => (by rfl))) (by rfl) (by first | exact Or.inl rfl | exact Or.inr rfl)) (
      xs_cons (xs_if (xt_cmp (op2_ne (by rfl) hr.units) (ex_bi (fb_len (by rfl)) cr_len (by rfl) (He.free_ok X0 G0 (c.t.d.fact 4 (f := .free "len") (by rfl))) (by decide +kernel) (ax_cons (ex_var (i := 5) (by rfl) (by first | exact Or.inl rfl | exact Or.inr (Or.inl rfl) | exact Or.inr (Or.inr rfl)) (by decide) (by decide)) (ax_nil) (by rfl)) (by decide) (by decide) (by rfl) (by rfl)) (ex_bi (fb_len (by rfl)) cr_len (by rfl) (He.free_ok X0 G0 (c.t.d.fact 4 (f := .free "len") (by rfl))) (by decide +kernel) (ax_cons (ex_var (i := 4) (by rfl) (by first | exact Or.inl rfl | exact Or.inr (Or.inl rfl) | exact Or.inr (Or.inr rfl)) (by decide) (by decide)) (ax_nil) (by rfl)) (by decide) (by decide) (by rfl) (by rfl)) (nomark _)) (xs_one (xs_ret (ex_cst pe_bl (fun _ _ => (by rfl))))) (xs_nil)) (
      xs_cons (xs_set (i := 7) hnd (by rfl) (by first | exact Or.inl rfl | exact Or.inr rfl) (fun _ _ _ => trivial) (ex_tup (ax_nil)) (by rfl) (by first | exact Or.inl rfl | exact Or.inr rfl)) (
      xs_cons (xs_for hp (by rfl) (xi_iter (by rfl) (ex_var (i := 5) (by rfl) (by first | exact Or.inl rfl | exact Or.inr (Or.inl rfl) | exact Or.inr (Or.inr rfl)) (by decide) (by decide))) (xg_name (i := 6) hnd (by rfl) (by first | exact Or.inl rfl | exact Or.inr rfl) (fun _ _ _ => trivial) (by first | exact Or.inl rfl | exact Or.inr rfl)) (xs_one (xs_set (i := 7) hnd (by rfl) (by first | exact Or.inl rfl | exact Or.inr rfl) (fun _ _ _ => trivial) (ex_bin (op2_add (by rfl)) (ex_var (i := 7) (by rfl) (by first | exact Or.inl rfl | exact Or.inr (Or.inl rfl) | exact Or.inr (Or.inr rfl)) (by decide) (by decide)) (ex_var (i := 6) (by rfl) (by first | exact Or.inl rfl | exact Or.inr (Or.inl rfl) | exact Or.inr (Or.inr rfl)) (by decide) (by decide))) (by rfl) (by first | exact Or.inl rfl | exact Or.inr rfl))) (fun _ => (by rfl))) (
      xs_one (xs_set (i := 2) hnd (by rfl) (by first | exact Or.inl rfl | exact Or.inr rfl) (fun _ _ _ => trivial) (ex_bin (op2_add (by rfl)) (ex_lc (own := [("part", 6)]) (fun _ _ _ _ => trivial) tt_one (by decide) (by rfl) hnd (xi_iter (by rfl) (ex_var (i := 2) (by rfl) (by first | exact Or.inl rfl | exact Or.inr (Or.inl rfl) | exact Or.inr (Or.inr rfl)) (by decide) (by decide))) (blkOk_by (own := [("part", 6)]) (N := ["n", "groups", "parts", "member", "group", "met", "part", "joined"]) (sc := defScope s_26) (by decide +kernel)) (fun _ _ _ _ _ => xg_name (i := 6) hnd (by rfl) (by first | exact Or.inl rfl | exact Or.inr rfl) (fun _ _ _ => trivial) (by first | exact Or.inl rfl | exact Or.inr rfl)) (fun _ _ _ _ _ => pts_one (xt_cmp (op2_notin (by rfl) (hu65 hr)) (ex_var (i := 6) (by rfl) (by first | exact Or.inl rfl | exact Or.inr (Or.inl rfl) | exact Or.inr (Or.inr rfl)) (by decide) (by decide)) (ex_var (i := 5) (by rfl) (by first | exact Or.inl rfl | exact Or.inr (Or.inl rfl) | exact Or.inr (Or.inr rfl)) (by decide) (by decide)) (by with_unfolding_all rfl))) (fun _ _ _ _ _ => ex_var (i := 6) (by rfl) (by first | exact Or.inl rfl | exact Or.inr (Or.inl rfl) | exact Or.inr (Or.inr rfl)) (by decide) (by decide)) (fun _ => (by rfl))) (ex_lst (ax_cons (ex_var (i := 7) (by rfl) (by first | exact Or.inl rfl | exact Or.inr (Or.inl rfl) | exact Or.inr (Or.inr rfl)) (by decide) (by decide)) (ax_nil) (by rfl)))) (by rfl) (by first | exact Or.inl rfl | exact Or.inr rfl))))))) (xs_nil))) (fun _ => (by rfl))) (
      xs_one (xs_ret (ex_cst pe_bl (fun _ _ => (by rfl))))))
theorem run_27 (n : Nat) : run (n + 1) 27 = body0 15 (b_27 (run n)) := rfl
theorem ok_27 (c : He.SaysX fa fn [] tf exK w h K) (X0 : K.In h) (G0 : h.Ns mainGlobals mg) (tb : ∀ p ∈ tf, LamX.TabB base mg (He.cT K p).1 (He.cT K p).2) {n : Nat} (ih : ∀ j, OkAt P w mg base K n j) : OkAt P w mg base K (n + 1) 27 := by
  intro fd F
  obtain ⟨fd16, F16⟩ := c.t.d.def_ 16 (d := d_16) rfl
  have ih16 := ih 16 fd16 F16
  obtain ⟨fd22, F22⟩ := c.t.d.def_ 22 (d := d_22) rfl
  have ih22 := ih 22 fd22 F22
  obtain ⟨fd23, F23⟩ := c.t.d.def_ 23 (d := d_23) rfl
  have ih23 := ih 23 fd23 F23
  obtain ⟨fd24, F24⟩ := c.t.d.def_ 24 (d := d_24) rfl
  have ih24 := ih 24 fd24 F24
  obtain ⟨fd25, F25⟩ := c.t.d.def_ 25 (d := d_25) rfl
  have ih25 := ih 25 fd25 F25
  obtain ⟨fd26, F26⟩ := c.t.d.def_ 26 (d := d_26) rfl
  have ih26 := ih 26 fd26 F26
  rw [run_27]
  refine fn_ok (G := GG K) (N := ["box", "kind", "size", "n", "some", "group", "whole", "ring", "k", "side", "member", "tree", "found", "many", "groups"]) (ps := ["box", "kind", "size"]) (k := 2 * n + 3) (fun _ => trivial) F sc_27 fun cdv A outer s H E hr => ?_
  have hnd : (["box", "kind", "size", "n", "some", "group", "whole", "ring", "k", "side", "member", "tree", "found", "many", "groups"] : List Str).Nodup := sc_27.nd
  have tk := takes_of (X := cxOf (L2.CX P w) P w K mg base ["box", "kind", "size", "n", "some", "group", "whole", "ring", "k", "side", "member", "tree", "found", "many", "groups"] "_law_groups" (defScope s_27) (He.fAd K d_27.at_) cdv A outer s H E) rfl rfl rfl rfl
  have hp := passes_of (X := cxOf (L2.CX P w) P w K mg base ["box", "kind", "size", "n", "some", "group", "whole", "ring", "k", "side", "member", "tree", "found", "many", "groups"] "_law_groups" (defScope s_27) (He.fAd K d_27.at_) cdv A outer s H E) rfl
  have hcls := clsok c
  unfold b_27 Tx.t__law_groups
  exact xs_cons (xs_set (i := 3) hnd (by rfl) (by first | exact Or.inl rfl | exact Or.inr rfl) (fun _ _ _ => trivial) (ex_if (xt_cmp (op2_eq (by rfl) hr.units) (ex_var (i := 2) (by rfl) (by first | exact Or.inl rfl | exact Or.inr (Or.inl rfl) | exact Or.inr (Or.inr rfl)) (by decide) (by decide)) (ex_cst pe_int (fun _ _ => (by rfl))) (nomark _)) (ex_ix (by rfl) (ex_lst (ax_cons (ex_cst pe_int (fun _ _ => (by rfl))) (ax_cons (ex_cst pe_int (fun _ _ => (by rfl))) (ax_cons (ex_cst pe_int (fun _ _ => (by rfl))) (ax_cons (ex_cst pe_int (fun _ _ => (by rfl))) (ax_cons (ex_cst pe_int (fun _ _ => (by rfl))) (ax_cons (ex_cst pe_int (fun _ _ => (by rfl))) (ax_cons (ex_cst pe_int (fun _ _ => (by rfl))) (ax_cons (ex_cst pe_int (fun _ _ => (by rfl))) (ax_cons (ex_cst pe_int (fun _ _ => (by rfl))) (ax_nil) (by rfl)) (by rfl)) (by rfl)) (by rfl)) (by rfl)) (by rfl)) (by rfl)) (by rfl)) (by rfl))) (ex_call (ih16) tk (hr.mono (by omega)) (by rfl) (He.glo_ok X0 G0 (c.t.d.fact 28 (f := .glo "_law_take") (by rfl))) F16.kp (bind_16 F16) (ax_cons (ex_var (i := 0) (by rfl) (by first | exact Or.inl rfl | exact Or.inr (Or.inl rfl) | exact Or.inr (Or.inr rfl)) (by decide) (by decide)) (ax_cons (ex_cst pe_int (fun _ _ => (by rfl))) (ax_nil) (by rfl)) (by rfl)) (by decide) (by rfl) (by rfl)) (fun _ _ => (by rfl))) (ex_var (i := 2) (by rfl) (by first | exact Or.inl rfl | exact Or.inr (Or.inl rfl) | exact Or.inr (Or.inr rfl)) (by decide) (by decide))) (by rfl) (by first | exact Or.inl rfl | exact Or.inr rfl)) (
      xs_cons (xs_setLc (own := [("group", 5)]) (j := 4) (fun _ _ _ _ => trivial) tt_one (by decide) (by rfl) hnd (by rfl) (by rfl) (sw_true (by rfl) (by rfl) (by rfl) (by decide +kernel)) (xi_iter (by rfl) (ex_call (ih23) tk (hr.mono (by omega)) (by rfl) (He.glo_ok X0 G0 (c.t.d.fact 35 (f := .glo "_law_all_groups") (by rfl))) F23.kp (bind_23 F23) (ax_cons (ex_var (i := 3) (by rfl) (by first | exact Or.inl rfl | exact Or.inr (Or.inl rfl) | exact Or.inr (Or.inr rfl)) (by decide) (by decide)) (ax_nil) (by rfl)) (by decide) (by rfl) (by rfl))) (blkOk_by (own := [("group", 5)]) (N := ["box", "kind", "size", "n", "some", "group", "whole", "ring", "k", "side", "member", "tree", "found", "many", "groups"]) (sc := defScope s_27) (by decide +kernel)) (fun _ _ _ _ _ => xg_name (i := 5) hnd (by rfl) (by first | exact Or.inl rfl | exact Or.inr rfl) (fun _ _ _ => trivial) (by first | exact Or.inl rfl | exact Or.inr rfl)) (fun _ _ _ _ _ => pts_one (xt_cmp (op2_gt) (ex_bi (fb_len (by rfl)) cr_len (by rfl) (He.free_ok X0 G0 (c.t.d.fact 4 (f := .free "len") (by rfl))) (by decide +kernel) (ax_cons (ex_var (i := 5) (by rfl) (by first | exact Or.inl rfl | exact Or.inr (Or.inl rfl) | exact Or.inr (Or.inr rfl)) (by decide) (by decide)) (ax_nil) (by rfl)) (by decide) (by decide) (by rfl) (by rfl)) (ex_cst pe_int (fun _ _ => (by rfl))) (nomark _))) (fun _ _ _ _ _ => ex_var (i := 5) (by rfl) (by first | exact Or.inl rfl | exact Or.inr (Or.inl rfl) | exact Or.inr (Or.inr rfl)) (by decide) (by decide)) (fun _ => (by rfl))) (
      xs_cons (xs_if (PW.pt (xw_or (xt_cmp (op2_eq (by rfl) hr.units) (ex_var (i := 1) (by rfl) (by first | exact Or.inl rfl | exact Or.inr (Or.inl rfl) | exact Or.inr (Or.inr rfl)) (by decide) (by decide)) (ex_cst pe_int (fun _ _ => (by rfl))) (nomark _)) (xw_or1 (xt_cmp (op2_eq (by rfl) hr.units) (ex_var (i := 1) (by rfl) (by first | exact Or.inl rfl | exact Or.inr (Or.inl rfl) | exact Or.inr (Or.inr rfl)) (by decide) (by decide)) (ex_cst pe_int (fun _ _ => (by rfl))) (nomark _))))) (xs_one (xs_setLc (own := [("group", 5)]) (j := 4) (fun _ _ _ _ => trivial) tt_one (by decide) (by rfl) hnd (by rfl) (by rfl) (sw_true (by rfl) (by rfl) (by rfl) (by decide +kernel)) (xi_iter (by rfl) (ex_var (i := 4) (by rfl) (by first | exact Or.inl rfl | exact Or.inr (Or.inl rfl) | exact Or.inr (Or.inr rfl)) (by decide) (by decide))) (blkOk_by (own := [("group", 5)]) (N := ["box", "kind", "size", "n", "some", "group", "whole", "ring", "k", "side", "member", "tree", "found", "many", "groups"]) (sc := defScope s_27) (by decide +kernel)) (fun _ _ _ _ _ => xg_name (i := 5) hnd (by rfl) (by first | exact Or.inl rfl | exact Or.inr rfl) (fun _ _ _ => trivial) (by first | exact Or.inl rfl | exact Or.inr rfl)) (fun _ _ _ _ _ => pts_one (xt_cmp (op2_eq (by rfl) hr.units) (ex_bi (fb_len (by rfl)) cr_len (by rfl) (He.free_ok X0 G0 (c.t.d.fact 4 (f := .free "len") (by rfl))) (by decide +kernel) (ax_cons (ex_var (i := 5) (by rfl) (by first | exact Or.inl rfl | exact Or.inr (Or.inl rfl) | exact Or.inr (Or.inr rfl)) (by decide) (by decide)) (ax_nil) (by rfl)) (by decide) (by decide) (by rfl) (by rfl)) (ex_cst pe_int (fun _ _ => (by rfl))) (nomark _))) (fun _ _ _ _ _ => ex_var (i := 5) (by rfl) (by first | exact Or.inl rfl | exact Or.inr (Or.inl rfl) | exact Or.inr (Or.inr rfl)) (by decide) (by decide)) (fun _ => (by rfl)))) (xs_nil)) (
      xs_cons (xs_set (i := 6) hnd (by rfl) (by first | exact Or.inl rfl | exact Or.inr rfl) (fun _ _ _ => trivial) (ex_and (ex_cmp (op2_eq (by rfl) hr.units) (ex_var (i := 1) (by rfl) (by first | exact Or.inl rfl | exact Or.inr (Or.inl rfl) | exact Or.inr (Or.inr rfl)) (by decide) (by decide)) (ex_cst pe_int (fun _ _ => (by rfl))) (nomark _)) (ex_and (ex_cmp (op2_gt) (ex_var (i := 3) (by rfl) (by first | exact Or.inl rfl | exact Or.inr (Or.inl rfl) | exact Or.inr (Or.inr rfl)) (by decide) (by decide)) (ex_cst pe_int (fun _ _ => (by rfl))) (nomark _)) (ex_one (ex_cmp (op2_eq (by rfl) hr.units) (ex_call (ih16) tk (hr.mono (by omega)) (by rfl) (He.glo_ok X0 G0 (c.t.d.fact 28 (f := .glo "_law_take") (by rfl))) F16.kp (bind_16 F16) (ax_cons (ex_var (i := 0) (by rfl) (by first | exact Or.inl rfl | exact Or.inr (Or.inl rfl) | exact Or.inr (Or.inr rfl)) (by decide) (by decide)) (ax_cons (ex_cst pe_int (fun _ _ => (by rfl))) (ax_nil) (by rfl)) (by rfl)) (by decide) (by rfl) (by rfl)) (ex_cst pe_int (fun _ _ => (by rfl))) (nomark _))))) (by rfl) (by first | exact Or.inl rfl | exact Or.inr rfl)) (
      xs_cons (xs_if (xt_val (ex_var (i := 6) (by rfl) (by first | exact Or.inl rfl | exact Or.inr (Or.inl rfl) | exact Or.inr (Or.inr rfl)) (by decide) (by decide)) (fun _ => (by rfl))) (xs_cons (xs_set (i := 7) hnd (by rfl) (by first | exact Or.inl rfl | exact Or.inr rfl) (fun _ _ _ => trivial) (ex_sl (by rfl) (ex_call (ih22) tk (hr.mono (by omega)) (by rfl) (He.glo_ok X0 G0 (c.t.d.fact 34 (f := .glo "_law_shuffled") (by rfl))) F22.kp (bind_22 F22) (ax_cons (ex_var (i := 0) (by rfl) (by first | exact Or.inl rfl | exact Or.inr (Or.inl rfl) | exact Or.inr (Or.inr rfl)) (by decide) (by decide)) (ax_cons (ex_lrg1 (by rfl) (by rfl) (He.free_ok X0 G0 (c.t.d.fact 12 (f := .free "list") (by rfl))) (by rfl) (He.free_ok X0 G0 (c.t.d.fact 5 (f := .free "range") (by rfl))) (ex_var (i := 3) (by rfl) (by first | exact Or.inl rfl | exact Or.inr (Or.inl rfl) | exact Or.inr (Or.inr rfl)) (by decide) (by decide)) (by rfl) (by rfl)) (ax_nil) (by rfl)) (by rfl)) (by decide) (by rfl) (by rfl)) xo_none (xo_some (ex_bin (op2_add (by rfl)) (ex_cst pe_int (fun _ _ => (by rfl))) (ex_call (ih16) tk (hr.mono (by omega)) (by rfl) (He.glo_ok X0 G0 (c.t.d.fact 28 (f := .glo "_law_take") (by rfl))) F16.kp (bind_16 F16) (ax_cons (ex_var (i := 0) (by rfl) (by first | exact Or.inl rfl | exact Or.inr (Or.inl rfl) | exact Or.inr (Or.inr rfl)) (by decide) (by decide)) (ax_cons (ex_bin (op2_sub) (ex_var (i := 3) (by rfl) (by first | exact Or.inl rfl | exact Or.inr (Or.inl rfl) | exact Or.inr (Or.inr rfl)) (by decide) (by decide)) (ex_cst pe_int (fun _ _ => (by rfl)))) (ax_nil) (by rfl)) (by rfl)) (by decide) (by rfl) (by rfl))))) (by rfl) (by first | exact Or.inl rfl | exact Or.inr rfl)) (
      xs_one (xs_setLc (own := [("k", 8)]) (j := 4) (fun _ _ _ _ => trivial) tt_nil (by decide) (by rfl) hnd (by rfl) (by rfl) (sw_true (by rfl) (by rfl) (by rfl) (by decide +kernel)) (xi_range1 (by rfl) (He.free_ok X0 G0 (c.t.d.fact 5 (f := .free "range") (by rfl))) (ax_cons (ex_bi (fb_len (by rfl)) cr_len (by rfl) (He.free_ok X0 G0 (c.t.d.fact 4 (f := .free "len") (by rfl))) (by decide +kernel) (ax_cons (ex_var (i := 7) (by rfl) (by first | exact Or.inl rfl | exact Or.inr (Or.inl rfl) | exact Or.inr (Or.inr rfl)) (by decide) (by decide)) (ax_nil) (by rfl)) (by decide) (by decide) (by rfl) (by rfl)) (ax_nil) (by rfl)) (by rfl)) (blkOk_by (own := [("k", 8)]) (N := ["box", "kind", "size", "n", "some", "group", "whole", "ring", "k", "side", "member", "tree", "found", "many", "groups"]) (sc := defScope s_27) (by decide +kernel)) (fun _ _ _ _ _ => xg_name (i := 8) hnd (by rfl) (by first | exact Or.inl rfl | exact Or.inr rfl) (fun _ _ _ => trivial) (by first | exact Or.inl rfl | exact Or.inr rfl)) (fun _ _ _ _ _ => pts_nil) (fun _ _ _ _ _ => ex_ty (fb_tuple (by rfl)) call_tupF (by rfl) (He.free_ok X0 G0 (c.t.d.fact 8 (f := .free "tuple") (by rfl))) (by decide +kernel) (ax_cons (ex_biL (fl_sorted (by rfl)) (cr_srtD (hu70 hr)) (by rfl) (He.free_ok X0 G0 (c.t.d.fact 33 (f := .free "sorted") (by rfl))) (by decide +kernel) (ax_cons (ex_lst (ax_cons (ex_ix (by rfl) (ex_var (i := 7) (by rfl) (by first | exact Or.inl rfl | exact Or.inr (Or.inl rfl) | exact Or.inr (Or.inr rfl)) (by decide) (by decide)) (ex_bin (op2_sub) (ex_var (i := 8) (by rfl) (by first | exact Or.inl rfl | exact Or.inr (Or.inl rfl) | exact Or.inr (Or.inr rfl)) (by decide) (by decide)) (ex_cst pe_int (fun _ _ => (by rfl)))) (fun _ _ => (by rfl))) (ax_cons (ex_ix (by rfl) (ex_var (i := 7) (by rfl) (by first | exact Or.inl rfl | exact Or.inr (Or.inl rfl) | exact Or.inr (Or.inr rfl)) (by decide) (by decide)) (ex_var (i := 8) (by rfl) (by first | exact Or.inl rfl | exact Or.inr (Or.inl rfl) | exact Or.inr (Or.inr rfl)) (by decide) (by decide)) (fun _ _ => (by rfl))) (ax_nil) (by rfl)) (by rfl))) (ax_nil) (by rfl)) (by decide) (by decide) (by rfl) (by rfl)) (ax_nil) (by rfl)) (by decide) (by decide) (by rfl) (by rfl)) (fun _ => (by rfl))))) (xs_nil)) (
      xs_cons (xs_if (xt_cmp (op2_eq (by rfl) hr.units) (ex_var (i := 1) (by rfl) (by first | exact Or.inl rfl | exact Or.inr (Or.inl rfl) | exact Or.inr (Or.inr rfl)) (by decide) (by decide)) (ex_cst pe_int (fun _ _ => (by rfl))) (nomark _)) (xs_cons (xs_set (i := 9) hnd (by rfl) (by first | exact Or.inl rfl | exact Or.inr rfl) (fun _ _ _ => trivial) (ex_lc (own := [("member", 10)]) (fun _ _ _ _ => trivial) tt_nil (by decide) (by rfl) hnd (xi_range1 (by rfl) (He.free_ok X0 G0 (c.t.d.fact 5 (f := .free "range") (by rfl))) (ax_cons (ex_var (i := 3) (by rfl) (by first | exact Or.inl rfl | exact Or.inr (Or.inl rfl) | exact Or.inr (Or.inr rfl)) (by decide) (by decide)) (ax_nil) (by rfl)) (by rfl)) (blkOk_by (own := [("member", 10)]) (N := ["box", "kind", "size", "n", "some", "group", "whole", "ring", "k", "side", "member", "tree", "found", "many", "groups"]) (sc := defScope s_27) (by decide +kernel)) (fun _ _ _ _ _ => xg_name (i := 10) hnd (by rfl) (by first | exact Or.inl rfl | exact Or.inr rfl) (fun _ _ _ => trivial) (by first | exact Or.inl rfl | exact Or.inr rfl)) (fun _ _ _ _ _ => pts_nil) (fun _ _ _ _ _ => ex_call (ih16) takes0 (hr.mono (by omega)) (by rfl) (He.glo_ok X0 G0 (c.t.d.fact 28 (f := .glo "_law_take") (by rfl))) F16.kp (bind_16 F16) (ax_cons (ex_var (i := 0) (by rfl) (by first | exact Or.inl rfl | exact Or.inr (Or.inl rfl) | exact Or.inr (Or.inr rfl)) (by decide) (by decide)) (ax_cons (ex_cst pe_int (fun _ _ => (by rfl))) (ax_nil) (by rfl)) (by rfl)) (by decide) (by rfl) (by rfl)) (fun _ => (by rfl))) (by rfl) (by first | exact Or.inl rfl | exact Or.inr rfl)) (
      xs_one (xs_setLc (own := [("group", 5)]) (j := 4) (fun _ _ _ _ => trivial) tt_one (by decide) (by rfl) hnd (by rfl) (by rfl) (sw_true (by rfl) (by rfl) (by rfl) (by decide +kernel)) (xi_iter (by rfl) (ex_var (i := 4) (by rfl) (by first | exact Or.inl rfl | exact Or.inr (Or.inl rfl) | exact Or.inr (Or.inr rfl)) (by decide) (by decide))) (blkOk_by (own := [("group", 5)]) (N := ["box", "kind", "size", "n", "some", "group", "whole", "ring", "k", "side", "member", "tree", "found", "many", "groups"]) (sc := defScope s_27) (by decide +kernel)) (fun _ _ _ _ _ => xg_name (i := 5) hnd (by rfl) (by first | exact Or.inl rfl | exact Or.inr rfl) (fun _ _ _ => trivial) (by first | exact Or.inl rfl | exact Or.inr rfl)) (fun _ _ _ _ _ => pts_one (xt_cmp (op2_ne (by rfl) hr.units) (ex_ix (by rfl) (ex_var (i := 9) (by rfl) (by first | exact Or.inl rfl | exact Or.inr (Or.inl rfl) | exact Or.inr (Or.inr rfl)) (by decide) (by decide)) (ex_ix (by rfl) (ex_var (i := 5) (by rfl) (by first | exact Or.inl rfl | exact Or.inr (Or.inl rfl) | exact Or.inr (Or.inr rfl)) (by decide) (by decide)) (ex_cst pe_int (fun _ _ => (by rfl))) (fun _ _ => (by rfl))) (fun _ _ => (by rfl))) (ex_ix (by rfl) (ex_var (i := 9) (by rfl) (by first | exact Or.inl rfl | exact Or.inr (Or.inl rfl) | exact Or.inr (Or.inr rfl)) (by decide) (by decide)) (ex_ix (by rfl) (ex_var (i := 5) (by rfl) (by first | exact Or.inl rfl | exact Or.inr (Or.inl rfl) | exact Or.inr (Or.inr rfl)) (by decide) (by decide)) (ex_cst pe_int (fun _ _ => (by rfl))) (fun _ _ => (by rfl))) (fun _ _ => (by rfl))) (nomark _))) (fun _ _ _ _ _ => ex_var (i := 5) (by rfl) (by first | exact Or.inl rfl | exact Or.inr (Or.inl rfl) | exact Or.inr (Or.inr rfl)) (by decide) (by decide)) (fun _ => (by rfl))))) (xs_nil)) (
      xs_cons (xs_if (xt_cmp (op2_eq (by rfl) hr.units) (ex_var (i := 1) (by rfl) (by first | exact Or.inl rfl | exact Or.inr (Or.inl rfl) | exact Or.inr (Or.inr rfl)) (by decide) (by decide)) (ex_cst pe_int (fun _ _ => (by rfl))) (nomark _)) (xs_cons (xs_set (i := 11) hnd (by rfl) (by first | exact Or.inl rfl | exact Or.inr rfl) (fun _ _ _ => trivial) (ex_call (ih24) tk (hr.mono (by omega)) (by rfl) (He.glo_ok X0 G0 (c.t.d.fact 36 (f := .glo "_law_drawn_tree") (by rfl))) F24.kp (bind_24 F24) (ax_cons (ex_var (i := 0) (by rfl) (by first | exact Or.inl rfl | exact Or.inr (Or.inl rfl) | exact Or.inr (Or.inr rfl)) (by decide) (by decide)) (ax_cons (ex_var (i := 3) (by rfl) (by first | exact Or.inl rfl | exact Or.inr (Or.inl rfl) | exact Or.inr (Or.inr rfl)) (by decide) (by decide)) (ax_nil) (by rfl)) (by rfl)) (by decide) (by rfl) (by rfl)) (by rfl) (by first | exact Or.inl rfl | exact Or.inr rfl)) (
      xs_one (xs_setLc (own := [("group", 5)]) (j := 4) (fun _ _ _ _ => trivial) tt_one (by decide) (by rfl) hnd (by rfl) (by rfl) (sw_true (by rfl) (by rfl) (by rfl) (by decide +kernel)) (xi_iter (by rfl) (ex_var (i := 4) (by rfl) (by first | exact Or.inl rfl | exact Or.inr (Or.inl rfl) | exact Or.inr (Or.inr rfl)) (by decide) (by decide))) (blkOk_by (own := [("group", 5)]) (N := ["box", "kind", "size", "n", "some", "group", "whole", "ring", "k", "side", "member", "tree", "found", "many", "groups"]) (sc := defScope s_27) (by decide +kernel)) (fun _ _ _ _ _ => xg_name (i := 5) hnd (by rfl) (by first | exact Or.inl rfl | exact Or.inr rfl) (fun _ _ _ => trivial) (by first | exact Or.inl rfl | exact Or.inr rfl)) (fun _ _ _ _ _ => pts_one (xt_val (ex_call (ih25) takes0 (hr.mono (by omega)) (by rfl) (He.glo_ok X0 G0 (c.t.d.fact 37 (f := .glo "_law_hangs") (by rfl))) F25.kp (bind_25 F25) (ax_cons (ex_var (i := 5) (by rfl) (by first | exact Or.inl rfl | exact Or.inr (Or.inl rfl) | exact Or.inr (Or.inr rfl)) (by decide) (by decide)) (ax_cons (ex_var (i := 11) (by rfl) (by first | exact Or.inl rfl | exact Or.inr (Or.inl rfl) | exact Or.inr (Or.inr rfl)) (by decide) (by decide)) (ax_nil) (by rfl)) (by rfl)) (by decide) (by rfl) (by rfl)) (fun _ => (by rfl)))) (fun _ _ _ _ _ => ex_var (i := 5) (by rfl) (by first | exact Or.inl rfl | exact Or.inr (Or.inl rfl) | exact Or.inr (Or.inr rfl)) (by decide) (by decide)) (fun _ => (by rfl))))) (xs_nil)) (
      xs_cons (xs_set (i := 4) hnd (by rfl) (by first | exact Or.inl rfl | exact Or.inr rfl) (fun _ _ _ => trivial) (ex_call (ih22) tk (hr.mono (by omega)) (by rfl) (He.glo_ok X0 G0 (c.t.d.fact 34 (f := .glo "_law_shuffled") (by rfl))) F22.kp (bind_22 F22) (ax_cons (ex_var (i := 0) (by rfl) (by first | exact Or.inl rfl | exact Or.inr (Or.inl rfl) | exact Or.inr (Or.inr rfl)) (by decide) (by decide)) (ax_cons (ex_var (i := 4) (by rfl) (by first | exact Or.inl rfl | exact Or.inr (Or.inl rfl) | exact Or.inr (Or.inr rfl)) (by decide) (by decide)) (ax_nil) (by rfl)) (by rfl)) (by decide) (by rfl) (by rfl)) (by rfl) (by first | exact Or.inl rfl | exact Or.inr rfl)) (
      xs_cons (xs_if (xt_cmp (op2_eq (by rfl) hr.units) (ex_var (i := 1) (by rfl) (by first | exact Or.inl rfl | exact Or.inr (Or.inl rfl) | exact Or.inr (Or.inr rfl)) (by decide) (by decide)) (ex_cst pe_int (fun _ _ => (by rfl))) (nomark _)) (xs_cons (xs_set (i := 12) hnd (by rfl) (by first | exact Or.inl rfl | exact Or.inr rfl) (fun _ _ _ => trivial) (ex_lst (ax_nil)) (by rfl) (by first | exact Or.inl rfl | exact Or.inr rfl)) (
      xs_cons (xs_for hp (by rfl) (xi_iter (by rfl) (ex_var (i := 4) (by rfl) (by first | exact Or.inl rfl | exact Or.inr (Or.inl rfl) | exact Or.inr (Or.inr rfl)) (by decide) (by decide))) (xg_name (i := 5) hnd (by rfl) (by first | exact Or.inl rfl | exact Or.inr rfl) (fun _ _ _ => trivial) (by first | exact Or.inl rfl | exact Or.inr rfl)) (xs_one (xs_if (xt_val (ex_call (ih26) tk (hr.mono (by omega)) (by rfl) (He.glo_ok X0 G0 (c.t.d.fact 38 (f := .glo "_law_is_forest") (by rfl))) F26.kp (bind_26 F26) (ax_cons (ex_var (i := 3) (by rfl) (by first | exact Or.inl rfl | exact Or.inr (Or.inl rfl) | exact Or.inr (Or.inr rfl)) (by decide) (by decide)) (ax_cons (ex_bin (op2_add (by rfl)) (ex_var (i := 12) (by rfl) (by first | exact Or.inl rfl | exact Or.inr (Or.inl rfl) | exact Or.inr (Or.inr rfl)) (by decide) (by decide)) (ex_lst (ax_cons (ex_var (i := 5) (by rfl) (by first | exact Or.inl rfl | exact Or.inr (Or.inl rfl) | exact Or.inr (Or.inr rfl)) (by decide) (by decide)) (ax_nil) (by rfl)))) (ax_nil) (by rfl)) (by rfl)) (by decide) (by rfl) (by rfl)) (fun _ => (by rfl))) (xs_one (xs_drop (ex_lm (by rfl) lm_append PySem.F.plainAttrs_list PySem.F.slot_list_append PySem.F.type_list_append mt_append (ex_var (i := 12) (by rfl) (by first | exact Or.inl rfl | exact Or.inr (Or.inl rfl) | exact Or.inr (Or.inr rfl)) (by decide) (by decide)) (ax_cons (ex_var (i := 5) (by rfl) (by first | exact Or.inl rfl | exact Or.inr (Or.inl rfl) | exact Or.inr (Or.inr rfl)) (by decide) (by decide)) (ax_nil) (by rfl)) (by rfl) (by rfl) (by rfl) (by rfl) (by rfl)) (by rfl))) (xs_nil))) (fun _ => (by rfl))) (
      xs_one (xs_set (i := 4) hnd (by rfl) (by first | exact Or.inl rfl | exact Or.inr rfl) (fun _ _ _ => trivial) (ex_sl (by rfl) (ex_var (i := 12) (by rfl) (by first | exact Or.inl rfl | exact Or.inr (Or.inl rfl) | exact Or.inr (Or.inr rfl)) (by decide) (by decide)) xo_none (xo_some (ex_bin (op2_sub) (ex_bi (fb_len (by rfl)) cr_len (by rfl) (He.free_ok X0 G0 (c.t.d.fact 4 (f := .free "len") (by rfl))) (by decide +kernel) (ax_cons (ex_var (i := 12) (by rfl) (by first | exact Or.inl rfl | exact Or.inr (Or.inl rfl) | exact Or.inr (Or.inr rfl)) (by decide) (by decide)) (ax_nil) (by rfl)) (by decide) (by decide) (by rfl) (by rfl)) (ex_ty fb_int call_int1 (by rfl) (He.free_ok X0 G0 (c.t.d.fact 2 (f := .free "int") (by rfl))) (by decide +kernel) (ax_cons (ex_and (ex_cmp (op2_eq (by rfl) hr.units) (ex_call (ih16) tk (hr.mono (by omega)) (by rfl) (He.glo_ok X0 G0 (c.t.d.fact 28 (f := .glo "_law_take") (by rfl))) F16.kp (bind_16 F16) (ax_cons (ex_var (i := 0) (by rfl) (by first | exact Or.inl rfl | exact Or.inr (Or.inl rfl) | exact Or.inr (Or.inr rfl)) (by decide) (by decide)) (ax_cons (ex_cst pe_int (fun _ _ => (by rfl))) (ax_nil) (by rfl)) (by rfl)) (by decide) (by rfl) (by rfl)) (ex_cst pe_int (fun _ _ => (by rfl))) (nomark _)) (ex_one (ex_cmp (op2_ne (by rfl) hr.units) (ex_var (i := 12) (by rfl) (by first | exact Or.inl rfl | exact Or.inr (Or.inl rfl) | exact Or.inr (Or.inr rfl)) (by decide) (by decide)) (ex_lst (ax_nil)) (nomark _)))) (ax_nil) (by rfl)) (by decide) (by decide) (by rfl) (by rfl))))) (by rfl) (by first | exact Or.inl rfl | exact Or.inr rfl))))) (xs_nil)) (
      xs_cons (xs_set (i := 13) hnd (by rfl) (by first | exact Or.inl rfl | exact Or.inr rfl) (fun _ _ _ => trivial) (ex_bi fb_min2 (call_min2 (by rfl)) (by rfl) (He.free_ok X0 G0 (c.t.d.fact 21 (f := .free "min") (by rfl))) (by decide +kernel) (ax_cons (ex_bi (fb_len (by rfl)) cr_len (by rfl) (He.free_ok X0 G0 (c.t.d.fact 4 (f := .free "len") (by rfl))) (by decide +kernel) (ax_cons (ex_var (i := 4) (by rfl) (by first | exact Or.inl rfl | exact Or.inr (Or.inl rfl) | exact Or.inr (Or.inr rfl)) (by decide) (by decide)) (ax_nil) (by rfl)) (by decide) (by decide) (by rfl) (by rfl)) (ax_cons (ex_bin (op2_sub) (ex_cst pe_int (fun _ _ => (by rfl))) (ex_var (i := 3) (by rfl) (by first | exact Or.inl rfl | exact Or.inr (Or.inl rfl) | exact Or.inr (Or.inr rfl)) (by decide) (by decide))) (ax_nil) (by rfl)) (by rfl)) (by decide) (by decide) (by rfl) (by rfl)) (by rfl) (by first | exact Or.inl rfl | exact Or.inr rfl)) (
      xs_cons (xs_if (PW.pt (xw_and (xt_cmp (op2_ne (by rfl) hr.units) (ex_var (i := 1) (by rfl) (by first | exact Or.inl rfl | exact Or.inr (Or.inl rfl) | exact Or.inr (Or.inr rfl)) (by decide) (by decide)) (ex_cst pe_int (fun _ _ => (by rfl))) (nomark _)) (xw_and (xt_not (xt_val (ex_var (i := 6) (by rfl) (by first | exact Or.inl rfl | exact Or.inr (Or.inl rfl) | exact Or.inr (Or.inr rfl)) (by decide) (by decide)) (fun _ => (by rfl)))) (xw_and1 (xt_cmp (op2_gt) (ex_call (ih16) tk (hr.mono (by omega)) (by rfl) (He.glo_ok X0 G0 (c.t.d.fact 28 (f := .glo "_law_take") (by rfl))) F16.kp (bind_16 F16) (ax_cons (ex_var (i := 0) (by rfl) (by first | exact Or.inl rfl | exact Or.inr (Or.inl rfl) | exact Or.inr (Or.inr rfl)) (by decide) (by decide)) (ax_cons (ex_cst pe_int (fun _ _ => (by rfl))) (ax_nil) (by rfl)) (by rfl)) (by decide) (by rfl) (by rfl)) (ex_cst pe_int (fun _ _ => (by rfl))) (nomark _)))))) (xs_one (xs_set (i := 13) hnd (by rfl) (by first | exact Or.inl rfl | exact Or.inr rfl) (fun _ _ _ => trivial) (ex_bin (op2_sub) (ex_var (i := 13) (by rfl) (by first | exact Or.inl rfl | exact Or.inr (Or.inl rfl) | exact Or.inr (Or.inr rfl)) (by decide) (by decide)) (ex_bin (op2_div) (ex_call (ih16) tk (hr.mono (by omega)) (by rfl) (He.glo_ok X0 G0 (c.t.d.fact 28 (f := .glo "_law_take") (by rfl))) F16.kp (bind_16 F16) (ax_cons (ex_var (i := 0) (by rfl) (by first | exact Or.inl rfl | exact Or.inr (Or.inl rfl) | exact Or.inr (Or.inr rfl)) (by decide) (by decide)) (ax_cons (ex_bin (op2_add (by rfl)) (ex_var (i := 13) (by rfl) (by first | exact Or.inl rfl | exact Or.inr (Or.inl rfl) | exact Or.inr (Or.inr rfl)) (by decide) (by decide)) (ex_cst pe_int (fun _ _ => (by rfl)))) (ax_nil) (by rfl)) (by rfl)) (by decide) (by rfl) (by rfl)) (ex_ix (by rfl) (ex_lst (ax_cons (ex_cst pe_int (fun _ _ => (by rfl))) (ax_cons (ex_cst pe_int (fun _ _ => (by rfl))) (ax_nil) (by rfl)) (by rfl))) (ex_call (ih16) tk (hr.mono (by omega)) (by rfl) (He.glo_ok X0 G0 (c.t.d.fact 28 (f := .glo "_law_take") (by rfl))) F16.kp (bind_16 F16) (ax_cons (ex_var (i := 0) (by rfl) (by first | exact Or.inl rfl | exact Or.inr (Or.inl rfl) | exact Or.inr (Or.inr rfl)) (by decide) (by decide)) (ax_cons (ex_cst pe_int (fun _ _ => (by rfl))) (ax_nil) (by rfl)) (by rfl)) (by decide) (by rfl) (by rfl)) (fun _ _ => (by rfl))))) (by rfl) (by first | exact Or.inl rfl | exact Or.inr rfl))) (xs_nil)) (
      xs_cons (xs_set (i := 14) hnd (by rfl) (by first | exact Or.inl rfl | exact Or.inr rfl) (fun _ _ _ => trivial) (ex_call (ih22) tk (hr.mono (by omega)) (by rfl) (He.glo_ok X0 G0 (c.t.d.fact 34 (f := .glo "_law_shuffled") (by rfl))) F22.kp (bind_22 F22) (ax_cons (ex_var (i := 0) (by rfl) (by first | exact Or.inl rfl | exact Or.inr (Or.inl rfl) | exact Or.inr (Or.inr rfl)) (by decide) (by decide)) (ax_cons (ex_lc (own := [("member", 10)]) (fun _ _ _ _ => trivial) tt_nil (by decide) (by rfl) hnd (xi_range1 (by rfl) (He.free_ok X0 G0 (c.t.d.fact 5 (f := .free "range") (by rfl))) (ax_cons (ex_var (i := 3) (by rfl) (by first | exact Or.inl rfl | exact Or.inr (Or.inl rfl) | exact Or.inr (Or.inr rfl)) (by decide) (by decide)) (ax_nil) (by rfl)) (by rfl)) (blkOk_by (own := [("member", 10)]) (N := ["box", "kind", "size", "n", "some", "group", "whole", "ring", "k", "side", "member", "tree", "found", "many", "groups"]) (sc := defScope s_27) (by decide +kernel)) (fun _ _ _ _ _ => xg_name (i := 10) hnd (by rfl) (by first | exact Or.inl rfl | exact Or.inr rfl) (fun _ _ _ => trivial) (by first | exact Or.inl rfl | exact Or.inr rfl)) (fun _ _ _ _ _ => pts_nil) (fun _ _ _ _ _ => ex_tup (ax_cons (ex_var (i := 10) (by rfl) (by first | exact Or.inl rfl | exact Or.inr (Or.inl rfl) | exact Or.inr (Or.inr rfl)) (by decide) (by decide)) (ax_nil) (by rfl))) (fun _ => (by rfl))) (ax_nil) (by rfl)) (by rfl)) (by decide) (by rfl) (by rfl)) (by rfl) (by first | exact Or.inl rfl | exact Or.inr rfl)) (
      xs_cons (xs_for hp (by rfl) (xi_iter (by rfl) (ex_sl (by rfl) (ex_var (i := 4) (by rfl) (by first | exact Or.inl rfl | exact Or.inr (Or.inl rfl) | exact Or.inr (Or.inr rfl)) (by decide) (by decide)) xo_none (xo_some (ex_var (i := 13) (by rfl) (by first | exact Or.inl rfl | exact Or.inr (Or.inl rfl) | exact Or.inr (Or.inr rfl)) (by decide) (by decide))))) (xg_name (i := 5) hnd (by rfl) (by first | exact Or.inl rfl | exact Or.inr rfl) (fun _ _ _ => trivial) (by first | exact Or.inl rfl | exact Or.inr rfl)) (xs_one (xs_drop (ex_lm (by rfl) lm_insert PySem.F.plainAttrs_list PySem.F.slot_list_insert PySem.F.type_list_insert mt_insert (ex_var (i := 14) (by rfl) (by first | exact Or.inl rfl | exact Or.inr (Or.inl rfl) | exact Or.inr (Or.inr rfl)) (by decide) (by decide)) (ax_cons (ex_call (ih16) tk (hr.mono (by omega)) (by rfl) (He.glo_ok X0 G0 (c.t.d.fact 28 (f := .glo "_law_take") (by rfl))) F16.kp (bind_16 F16) (ax_cons (ex_var (i := 0) (by rfl) (by first | exact Or.inl rfl | exact Or.inr (Or.inl rfl) | exact Or.inr (Or.inr rfl)) (by decide) (by decide)) (ax_cons (ex_bin (op2_add (by rfl)) (ex_bi (fb_len (by rfl)) cr_len (by rfl) (He.free_ok X0 G0 (c.t.d.fact 4 (f := .free "len") (by rfl))) (by decide +kernel) (ax_cons (ex_var (i := 14) (by rfl) (by first | exact Or.inl rfl | exact Or.inr (Or.inl rfl) | exact Or.inr (Or.inr rfl)) (by decide) (by decide)) (ax_nil) (by rfl)) (by decide) (by decide) (by rfl) (by rfl)) (ex_cst pe_int (fun _ _ => (by rfl)))) (ax_nil) (by rfl)) (by rfl)) (by decide) (by rfl) (by rfl)) (ax_cons (ex_var (i := 5) (by rfl) (by first | exact Or.inl rfl | exact Or.inr (Or.inl rfl) | exact Or.inr (Or.inr rfl)) (by decide) (by decide)) (ax_nil) (by rfl)) (by rfl)) (by rfl) (by rfl) (by rfl) (by rfl) (by rfl)) (by rfl))) (fun _ => (by rfl))) (
      xs_one (xs_ret (ex_tup (ax_cons (ex_var (i := 3) (by rfl) (by first | exact Or.inl rfl | exact Or.inr (Or.inl rfl) | exact Or.inr (Or.inr rfl)) (by decide) (by decide)) (ax_cons (ex_ty (fb_tuple (by rfl)) call_tupF (by rfl) (He.free_ok X0 G0 (c.t.d.fact 8 (f := .free "tuple") (by rfl))) (by decide +kernel) (ax_cons (ex_var (i := 14) (by rfl) (by first | exact Or.inl rfl | exact Or.inr (Or.inl rfl) | exact Or.inr (Or.inr rfl)) (by decide) (by decide)) (ax_nil) (by rfl)) (by decide) (by decide) (by rfl) (by rfl)) (ax_nil) (by rfl)) (by rfl)))))))))))))))))
theorem run_28 (n : Nat) : run (n + 1) 28 = body0 8 (b_28 (run n)) := rfl
theorem ok_28 (c : He.SaysX fa fn [] tf exK w h K) (X0 : K.In h) (G0 : h.Ns mainGlobals mg) (tb : ∀ p ∈ tf, LamX.TabB base mg (He.cT K p).1 (He.cT K p).2) {n : Nat} (ih : ∀ j, OkAt P w mg base K n j) : OkAt P w mg base K (n + 1) 28 := by
  intro fd F

  rw [run_28]
  refine fn_ok (G := GG K) (N := ["n", "groups", "side", "member", "turn", "group", "a", "b"]) (ps := ["n", "groups"]) (k := 2 * n + 3) (fun _ => trivial) F sc_28 fun cdv A outer s H E hr => ?_
  have hnd : (["n", "groups", "side", "member", "turn", "group", "a", "b"] : List Str).Nodup := sc_28.nd
  have tk := takes_of (X := cxOf (L2.CX P w) P w K mg base ["n", "groups", "side", "member", "turn", "group", "a", "b"] "_law_two_sides" (defScope s_28) (He.fAd K d_28.at_) cdv A outer s H E) rfl rfl rfl rfl
  have hp := passes_of (X := cxOf (L2.CX P w) P w K mg base ["n", "groups", "side", "member", "turn", "group", "a", "b"] "_law_two_sides" (defScope s_28) (He.fAd K d_28.at_) cdv A outer s H E) rfl
  have hcls := clsok c
  unfold b_28 Tx.t__law_two_sides
  exact xs_cons (xs_set (i := 2) hnd (by rfl) (by first | exact Or.inl rfl | exact Or.inr rfl) (fun _ _ _ => trivial) (ex_rep (by rfl) (ex_lst (ax_cons (ex_neg (ex_cst pe_int (fun _ _ => (by rfl)))) (ax_nil) (by rfl))) (ex_var (i := 0) (by rfl) (by first | exact Or.inl rfl | exact Or.inr (Or.inl rfl) | exact Or.inr (Or.inr rfl)) (by decide) (by decide))) (by rfl) (by first | exact Or.inl rfl | exact Or.inr rfl)) (
      xs_cons (xs_for hp (by rfl) (xi_range1 (by rfl) (He.free_ok X0 G0 (c.t.d.fact 5 (f := .free "range") (by rfl))) (ax_cons (ex_var (i := 0) (by rfl) (by first | exact Or.inl rfl | exact Or.inr (Or.inl rfl) | exact Or.inr (Or.inr rfl)) (by decide) (by decide)) (ax_nil) (by rfl)) (by rfl)) (xg_name (i := 3) hnd (by rfl) (by first | exact Or.inl rfl | exact Or.inr rfl) (fun _ _ _ => trivial) (by first | exact Or.inl rfl | exact Or.inr rfl)) (xs_one (xs_if (xt_cmp (op2_lt (by rfl) hr.units) (ex_ix (by rfl) (ex_var (i := 2) (by rfl) (by first | exact Or.inl rfl | exact Or.inr (Or.inl rfl) | exact Or.inr (Or.inr rfl)) (by decide) (by decide)) (ex_var (i := 3) (by rfl) (by first | exact Or.inl rfl | exact Or.inr (Or.inl rfl) | exact Or.inr (Or.inr rfl)) (by decide) (by decide)) (fun _ _ => (by rfl))) (ex_cst pe_int (fun _ _ => (by rfl))) (nomark _)) (xs_cons (xs_setIx (ex_cst pe_int (fun _ _ => (by rfl))) (ex_var (i := 2) (by rfl) (by first | exact Or.inl rfl | exact Or.inr (Or.inl rfl) | exact Or.inr (Or.inr rfl)) (by decide) (by decide)) (ex_var (i := 3) (by rfl) (by first | exact Or.inl rfl | exact Or.inr (Or.inl rfl) | exact Or.inr (Or.inr rfl)) (by decide) (by decide)) (fun _ => (by rfl)) (by rfl) (by rfl) (by rfl)) (
      xs_one (xs_for hp (by rfl) (xi_range1 (by rfl) (He.free_ok X0 G0 (c.t.d.fact 5 (f := .free "range") (by rfl))) (ax_cons (ex_var (i := 0) (by rfl) (by first | exact Or.inl rfl | exact Or.inr (Or.inl rfl) | exact Or.inr (Or.inr rfl)) (by decide) (by decide)) (ax_nil) (by rfl)) (by rfl)) (xg_name (i := 4) hnd (by rfl) (by first | exact Or.inl rfl | exact Or.inr rfl) (fun _ _ _ => trivial) (by first | exact Or.inl rfl | exact Or.inr rfl)) (xs_one (xs_for hp (by rfl) (xi_iter (by rfl) (ex_var (i := 1) (by rfl) (by first | exact Or.inl rfl | exact Or.inr (Or.inl rfl) | exact Or.inr (Or.inr rfl)) (by decide) (by decide))) (xg_name (i := 5) hnd (by rfl) (by first | exact Or.inl rfl | exact Or.inr rfl) (fun _ _ _ => trivial) (by first | exact Or.inl rfl | exact Or.inr rfl)) (xs_one (xs_if (xt_cmp (op2_eq (by rfl) hr.units) (ex_bi (fb_len (by rfl)) cr_len (by rfl) (He.free_ok X0 G0 (c.t.d.fact 4 (f := .free "len") (by rfl))) (by decide +kernel) (ax_cons (ex_var (i := 5) (by rfl) (by first | exact Or.inl rfl | exact Or.inr (Or.inl rfl) | exact Or.inr (Or.inr rfl)) (by decide) (by decide)) (ax_nil) (by rfl)) (by decide) (by decide) (by rfl) (by rfl)) (ex_cst pe_int (fun _ _ => (by rfl))) (nomark _)) (xs_cons (xs_asg (ex_var (i := 5) (by rfl) (by first | exact Or.inl rfl | exact Or.inr (Or.inl rfl) | exact Or.inr (Or.inr rfl)) (by decide) (by decide)) (xg_tup (by rfl) (by rfl) (xgs_cons (xg_name (i := 6) hnd (by rfl) (by first | exact Or.inl rfl | exact Or.inr rfl) (fun _ _ _ => trivial) (by first | exact Or.inl rfl | exact Or.inr rfl)) (xgs_cons (xg_name (i := 7) hnd (by rfl) (by first | exact Or.inl rfl | exact Or.inr rfl) (fun _ _ _ => trivial) (by first | exact Or.inl rfl | exact Or.inr rfl)) (xgs_nil) (by rfl)) (by rfl)) (by rfl) (by rfl) (by rfl)) (by rfl) (by rfl) (by rfl)) (
      xs_one (xs_if (PW.pt (xw_and (xt_cmp (op2_ge) (ex_ix (by rfl) (ex_var (i := 2) (by rfl) (by first | exact Or.inl rfl | exact Or.inr (Or.inl rfl) | exact Or.inr (Or.inr rfl)) (by decide) (by decide)) (ex_var (i := 6) (by rfl) (by first | exact Or.inl rfl | exact Or.inr (Or.inl rfl) | exact Or.inr (Or.inr rfl)) (by decide) (by decide)) (fun _ _ => (by rfl))) (ex_cst pe_int (fun _ _ => (by rfl))) (nomark _)) (xw_and1 (xt_cmp (op2_lt (by rfl) hr.units) (ex_ix (by rfl) (ex_var (i := 2) (by rfl) (by first | exact Or.inl rfl | exact Or.inr (Or.inl rfl) | exact Or.inr (Or.inr rfl)) (by decide) (by decide)) (ex_var (i := 7) (by rfl) (by first | exact Or.inl rfl | exact Or.inr (Or.inl rfl) | exact Or.inr (Or.inr rfl)) (by decide) (by decide)) (fun _ _ => (by rfl))) (ex_cst pe_int (fun _ _ => (by rfl))) (nomark _))))) (xs_one (xs_setIx (ex_bin (op2_sub) (ex_cst pe_int (fun _ _ => (by rfl))) (ex_ix (by rfl) (ex_var (i := 2) (by rfl) (by first | exact Or.inl rfl | exact Or.inr (Or.inl rfl) | exact Or.inr (Or.inr rfl)) (by decide) (by decide)) (ex_var (i := 6) (by rfl) (by first | exact Or.inl rfl | exact Or.inr (Or.inl rfl) | exact Or.inr (Or.inr rfl)) (by decide) (by decide)) (fun _ _ => (by rfl)))) (ex_var (i := 2) (by rfl) (by first | exact Or.inl rfl | exact Or.inr (Or.inl rfl) | exact Or.inr (Or.inr rfl)) (by decide) (by decide)) (ex_var (i := 7) (by rfl) (by first | exact Or.inl rfl | exact Or.inr (Or.inl rfl) | exact Or.inr (Or.inr rfl)) (by decide) (by decide)) (fun _ => (by rfl)) (by rfl) (by rfl) (by rfl))) (xs_one (xs_if (PW.pt (xw_and (xt_cmp (op2_ge) (ex_ix (by rfl) (ex_var (i := 2) (by rfl) (by first | exact Or.inl rfl | exact Or.inr (Or.inl rfl) | exact Or.inr (Or.inr rfl)) (by decide) (by decide)) (ex_var (i := 7) (by rfl) (by first | exact Or.inl rfl | exact Or.inr (Or.inl rfl) | exact Or.inr (Or.inr rfl)) (by decide) (by decide)) (fun _ _ => (by rfl))) (ex_cst pe_int (fun _ _ => (by rfl))) (nomark _)) (xw_and1 (xt_cmp (op2_lt (by rfl) hr.units) (ex_ix (by rfl) (ex_var (i := 2) (by rfl) (by first | exact Or.inl rfl | exact Or.inr (Or.inl rfl) | exact Or.inr (Or.inr rfl)) (by decide) (by decide)) (ex_var (i := 6) (by rfl) (by first | exact Or.inl rfl | exact Or.inr (Or.inl rfl) | exact Or.inr (Or.inr rfl)) (by decide) (by decide)) (fun _ _ => (by rfl))) (ex_cst pe_int (fun _ _ => (by rfl))) (nomark _))))) (xs_one (xs_setIx (ex_bin (op2_sub) (ex_cst pe_int (fun _ _ => (by rfl))) (ex_ix (by rfl) (ex_var (i := 2) (by rfl) (by first | exact Or.inl rfl | exact Or.inr (Or.inl rfl) | exact Or.inr (Or.inr rfl)) (by decide) (by decide)) (ex_var (i := 7) (by rfl) (by first | exact Or.inl rfl | exact Or.inr (Or.inl rfl) | exact Or.inr (Or.inr rfl)) (by decide) (by decide)) (fun _ _ => (by rfl)))) (ex_var (i := 2) (by rfl) (by first | exact Or.inl rfl | exact Or.inr (Or.inl rfl) | exact Or.inr (Or.inr rfl)) (by decide) (by decide)) (ex_var (i := 6) (by rfl) (by first | exact Or.inl rfl | exact Or.inr (Or.inl rfl) | exact Or.inr (Or.inr rfl)) (by decide) (by decide)) (fun _ => (by rfl)) (by rfl) (by rfl) (by rfl))) (xs_nil)))))) (xs_nil))) (fun _ => (by rfl)))) (fun _ => (by rfl))))) (xs_nil))) (fun _ => (by rfl))) (
      xs_cons (xs_if (xt_cmp (op2_ne (by rfl) hr.units) (ex_lc (own := [("group", 5)]) (fun _ _ _ _ => trivial) tt_one (by decide) (by rfl) hnd (xi_iter (by rfl) (ex_var (i := 1) (by rfl) (by first | exact Or.inl rfl | exact Or.inr (Or.inl rfl) | exact Or.inr (Or.inr rfl)) (by decide) (by decide))) (blkOk_by (own := [("group", 5)]) (N := ["n", "groups", "side", "member", "turn", "group", "a", "b"]) (sc := defScope s_28) (by decide +kernel)) (fun _ _ _ _ _ => xg_name (i := 5) hnd (by rfl) (by first | exact Or.inl rfl | exact Or.inr rfl) (fun _ _ _ => trivial) (by first | exact Or.inl rfl | exact Or.inr rfl)) (fun _ _ _ _ _ => pts_one (PW.pt (xw_and (xt_cmp (op2_eq (by rfl) hr.units) (ex_bi (fb_len (by rfl)) cr_len (by rfl) (He.free_ok X0 G0 (c.t.d.fact 4 (f := .free "len") (by rfl))) (by decide +kernel) (ax_cons (ex_var (i := 5) (by rfl) (by first | exact Or.inl rfl | exact Or.inr (Or.inl rfl) | exact Or.inr (Or.inr rfl)) (by decide) (by decide)) (ax_nil) (by rfl)) (by decide) (by decide) (by rfl) (by rfl)) (ex_cst pe_int (fun _ _ => (by rfl))) (nomark _)) (xw_and1 (xt_cmp (op2_eq (by rfl) hr.units) (ex_ix (by rfl) (ex_var (i := 2) (by rfl) (by first | exact Or.inl rfl | exact Or.inr (Or.inl rfl) | exact Or.inr (Or.inr rfl)) (by decide) (by decide)) (ex_ix (by rfl) (ex_var (i := 5) (by rfl) (by first | exact Or.inl rfl | exact Or.inr (Or.inl rfl) | exact Or.inr (Or.inr rfl)) (by decide) (by decide)) (ex_cst pe_int (fun _ _ => (by rfl))) (fun _ _ => (by rfl))) (fun _ _ => (by rfl))) (ex_ix (by rfl) (ex_var (i := 2) (by rfl) (by first | exact Or.inl rfl | exact Or.inr (Or.inl rfl) | exact Or.inr (Or.inr rfl)) (by decide) (by decide)) (ex_ix (by rfl) (ex_var (i := 5) (by rfl) (by first | exact Or.inl rfl | exact Or.inr (Or.inl rfl) | exact Or.inr (Or.inr rfl)) (by decide) (by decide)) (ex_cst pe_int (fun _ _ => (by rfl))) (fun _ _ => (by rfl))) (fun _ _ => (by rfl))) (nomark _)))))) (fun _ _ _ _ _ => ex_var (i := 5) (by rfl) (by first | exact Or.inl rfl | exact Or.inr (Or.inl rfl) | exact Or.inr (Or.inr rfl)) (by decide) (by decide)) (fun _ => (by rfl))) (ex_lst (ax_nil)) (nomark _)) (xs_one (xs_ret (ex_cst pe_non (fun _ _ => (by rfl))))) (xs_nil)) (
      xs_one (xs_ret (ex_ty (fb_tuple (by rfl)) call_tupF (by rfl) (He.free_ok X0 G0 (c.t.d.fact 8 (f := .free "tuple") (by rfl))) (by decide +kernel) (ax_cons (ex_var (i := 2) (by rfl) (by first | exact Or.inl rfl | exact Or.inr (Or.inl rfl) | exact Or.inr (Or.inr rfl)) (by decide) (by decide)) (ax_nil) (by rfl)) (by decide) (by decide) (by rfl) (by rfl))))))
theorem run_29 (n : Nat) : run (n + 1) 29 = body0 2 (b_29 (run n)) := rfl
theorem ok_29 (c : He.SaysX fa fn [] tf exK w h K) (X0 : K.In h) (G0 : h.Ns mainGlobals mg) (tb : ∀ p ∈ tf, LamX.TabB base mg (He.cT K p).1 (He.cT K p).2) {n : Nat} (ih : ∀ j, OkAt P w mg base K n j) : OkAt P w mg base K (n + 1) 29 := by
  intro fd F

  rw [run_29]
  refine fn_ok (G := GG K) (N := ["groups", "group"]) (ps := ["groups"]) (k := 2 * n + 3) (fun _ => trivial) F sc_29 fun cdv A outer s H E hr => ?_
  have hnd : (["groups", "group"] : List Str).Nodup := sc_29.nd
  have tk := takes_of (X := cxOf (L2.CX P w) P w K mg base ["groups", "group"] "_law_is_pairs" (defScope s_29) (He.fAd K d_29.at_) cdv A outer s H E) rfl rfl rfl rfl
  have hp := passes_of (X := cxOf (L2.CX P w) P w K mg base ["groups", "group"] "_law_is_pairs" (defScope s_29) (He.fAd K d_29.at_) cdv A outer s H E) rfl
  have hcls := clsok c
  unfold b_29 Tx.t__law_is_pairs
  exact xs_one (xs_ret (ex_cmp (op2_eq (by rfl) hr.units) (ex_lc (own := [("group", 1)]) (fun _ _ _ _ => trivial) tt_one (by decide) (by rfl) hnd (xi_iter (by rfl) (ex_var (i := 0) (by rfl) (by first | exact Or.inl rfl | exact Or.inr (Or.inl rfl) | exact Or.inr (Or.inr rfl)) (by decide) (by decide))) (blkOk_by (own := [("group", 1)]) (N := ["groups", "group"]) (sc := defScope s_29) (by decide +kernel)) (fun _ _ _ _ _ => xg_name (i := 1) hnd (by rfl) (by first | exact Or.inl rfl | exact Or.inr rfl) (fun _ _ _ => trivial) (by first | exact Or.inl rfl | exact Or.inr rfl)) (fun _ _ _ _ _ => pts_one (xt_cmp (op2_gt) (ex_bi (fb_len (by rfl)) cr_len (by rfl) (He.free_ok X0 G0 (c.t.d.fact 4 (f := .free "len") (by rfl))) (by decide +kernel) (ax_cons (ex_var (i := 1) (by rfl) (by first | exact Or.inl rfl | exact Or.inr (Or.inl rfl) | exact Or.inr (Or.inr rfl)) (by decide) (by decide)) (ax_nil) (by rfl)) (by decide) (by decide) (by rfl) (by rfl)) (ex_cst pe_int (fun _ _ => (by rfl))) (nomark _))) (fun _ _ _ _ _ => ex_var (i := 1) (by rfl) (by first | exact Or.inl rfl | exact Or.inr (Or.inl rfl) | exact Or.inr (Or.inr rfl)) (by decide) (by decide)) (fun _ => (by rfl))) (ex_lst (ax_nil)) (nomark _)))
theorem run_30 (n : Nat) : run (n + 1) 30 = body0 4 (b_30 (run n)) := rfl
theorem ok_30 (c : He.SaysX fa fn [] tf exK w h K) (X0 : K.In h) (G0 : h.Ns mainGlobals mg) (tb : ∀ p ∈ tf, LamX.TabB base mg (He.cT K p).1 (He.cT K p).2) {n : Nat} (ih : ∀ j, OkAt P w mg base K n j) : OkAt P w mg base K (n + 1) 30 := by
  intro fd F
  obtain ⟨fd19, F19⟩ := c.t.d.def_ 19 (d := d_19) rfl
  have ih19 := ih 19 fd19 F19
  obtain ⟨fd29, F29⟩ := c.t.d.def_ 29 (d := d_29) rfl
  have ih29 := ih 29 fd29 F29
  rw [run_30]
  refine fn_ok (G := GG K) (N := ["n", "groups", "value", "k"]) (ps := ["n", "groups", "value"]) (k := 2 * n + 3) (fun _ => trivial) F sc_30 fun cdv A outer s H E hr => ?_
  have hnd : (["n", "groups", "value", "k"] : List Str).Nodup := sc_30.nd
  have tk := takes_of (X := cxOf (L2.CX P w) P w K mg base ["n", "groups", "value", "k"] "_law_is_odd_ring" (defScope s_30) (He.fAd K d_30.at_) cdv A outer s H E) rfl rfl rfl rfl
  have hp := passes_of (X := cxOf (L2.CX P w) P w K mg base ["n", "groups", "value", "k"] "_law_is_odd_ring" (defScope s_30) (He.fAd K d_30.at_) cdv A outer s H E) rfl
  have hcls := clsok c
  unfold b_30 Tx.t__law_is_odd_ring
  exact xs_cons (xs_if (PW.pt (xw_or (xt_not (xt_val (ex_call (ih29) tk (hr.mono (by omega)) (by rfl) (He.glo_ok X0 G0 (c.t.d.fact 40 (f := .glo "_law_is_pairs") (by rfl))) F29.kp (bind_29 F29) (ax_cons (ex_var (i := 1) (by rfl) (by first | exact Or.inl rfl | exact Or.inr (Or.inl rfl) | exact Or.inr (Or.inr rfl)) (by decide) (by decide)) (ax_nil) (by rfl)) (by decide) (by rfl) (by rfl)) (fun _ => (by rfl)))) (xw_or (xt_not (xt_val (ex_call (ih19) tk (hr.mono (by omega)) (by rfl) (He.glo_ok X0 G0 (c.t.d.fact 39 (f := .glo "_law_is_numbers") (by rfl))) F19.kp (bind_19 F19) (ax_cons (ex_var (i := 2) (by rfl) (by first | exact Or.inl rfl | exact Or.inr (Or.inl rfl) | exact Or.inr (Or.inr rfl)) (by decide) (by decide)) (ax_cons (ex_var (i := 0) (by rfl) (by first | exact Or.inl rfl | exact Or.inr (Or.inl rfl) | exact Or.inr (Or.inr rfl)) (by decide) (by decide)) (ax_nil) (by rfl)) (by rfl)) (by decide) (by rfl) (by rfl)) (fun _ => (by rfl)))) (xw_or (xt_cmp (op2_lt (by rfl) hr.units) (ex_bi (fb_len (by rfl)) cr_len (by rfl) (He.free_ok X0 G0 (c.t.d.fact 4 (f := .free "len") (by rfl))) (by decide +kernel) (ax_cons (ex_var (i := 2) (by rfl) (by first | exact Or.inl rfl | exact Or.inr (Or.inl rfl) | exact Or.inr (Or.inr rfl)) (by decide) (by decide)) (ax_nil) (by rfl)) (by decide) (by decide) (by rfl) (by rfl)) (ex_cst pe_int (fun _ _ => (by rfl))) (nomark _)) (xw_or1 (xt_cmp (op2_eq (by rfl) hr.units) (ex_bin (op2_mod) (ex_ty fb_int call_int1 (by rfl) (He.free_ok X0 G0 (c.t.d.fact 2 (f := .free "int") (by rfl))) (by decide +kernel) (ax_cons (ex_bi (fb_len (by rfl)) cr_len (by rfl) (He.free_ok X0 G0 (c.t.d.fact 4 (f := .free "len") (by rfl))) (by decide +kernel) (ax_cons (ex_var (i := 2) (by rfl) (by first | exact Or.inl rfl | exact Or.inr (Or.inl rfl) | exact Or.inr (Or.inr rfl)) (by decide) (by decide)) (ax_nil) (by rfl)) (by decide) (by decide) (by rfl) (by rfl)) (ax_nil) (by rfl)) (by decide) (by decide) (by rfl) (by rfl)) (ex_cst pe_int (fun _ _ => (by rfl)))) (ex_cst pe_int (fun _ _ => (by rfl))) (nomark _))))))) (xs_one (xs_ret (ex_cst pe_bl (fun _ _ => (by rfl))))) (xs_nil)) (
      xs_cons (xs_for hp (by rfl) (xi_range1 (by rfl) (He.free_ok X0 G0 (c.t.d.fact 5 (f := .free "range") (by rfl))) (ax_cons (ex_bi (fb_len (by rfl)) cr_len (by rfl) (He.free_ok X0 G0 (c.t.d.fact 4 (f := .free "len") (by rfl))) (by decide +kernel) (ax_cons (ex_var (i := 2) (by rfl) (by first | exact Or.inl rfl | exact Or.inr (Or.inl rfl) | exact Or.inr (Or.inr rfl)) (by decide) (by decide)) (ax_nil) (by rfl)) (by decide) (by decide) (by rfl) (by rfl)) (ax_nil) (by rfl)) (by rfl)) (xg_name (i := 3) hnd (by rfl) (by first | exact Or.inl rfl | exact Or.inr rfl) (fun _ _ _ => trivial) (by first | exact Or.inl rfl | exact Or.inr rfl)) (xs_one (xs_if (PW.pt (xw_or (xt_cmp (op2_in (by rfl) (hu65 hr)) (ex_ix (by rfl) (ex_var (i := 2) (by rfl) (by first | exact Or.inl rfl | exact Or.inr (Or.inl rfl) | exact Or.inr (Or.inr rfl)) (by decide) (by decide)) (ex_var (i := 3) (by rfl) (by first | exact Or.inl rfl | exact Or.inr (Or.inl rfl) | exact Or.inr (Or.inr rfl)) (by decide) (by decide)) (fun _ _ => (by rfl))) (ex_sl (by rfl) (ex_var (i := 2) (by rfl) (by first | exact Or.inl rfl | exact Or.inr (Or.inl rfl) | exact Or.inr (Or.inr rfl)) (by decide) (by decide)) xo_none (xo_some (ex_var (i := 3) (by rfl) (by first | exact Or.inl rfl | exact Or.inr (Or.inl rfl) | exact Or.inr (Or.inr rfl)) (by decide) (by decide)))) (by with_unfolding_all rfl)) (xw_or1 (xt_cmp (op2_notin (by rfl) (hu65 hr)) (ex_ty (fb_tuple (by rfl)) call_tupF (by rfl) (He.free_ok X0 G0 (c.t.d.fact 8 (f := .free "tuple") (by rfl))) (by decide +kernel) (ax_cons (ex_biL (fl_sorted (by rfl)) (cr_srtD (hu70 hr)) (by rfl) (He.free_ok X0 G0 (c.t.d.fact 33 (f := .free "sorted") (by rfl))) (by decide +kernel) (ax_cons (ex_lst (ax_cons (ex_ix (by rfl) (ex_var (i := 2) (by rfl) (by first | exact Or.inl rfl | exact Or.inr (Or.inl rfl) | exact Or.inr (Or.inr rfl)) (by decide) (by decide)) (ex_var (i := 3) (by rfl) (by first | exact Or.inl rfl | exact Or.inr (Or.inl rfl) | exact Or.inr (Or.inr rfl)) (by decide) (by decide)) (fun _ _ => (by rfl))) (ax_cons (ex_ix (by rfl) (ex_var (i := 2) (by rfl) (by first | exact Or.inl rfl | exact Or.inr (Or.inl rfl) | exact Or.inr (Or.inr rfl)) (by decide) (by decide)) (ex_bin (op2_mod) (ex_ty fb_int call_int1 (by rfl) (He.free_ok X0 G0 (c.t.d.fact 2 (f := .free "int") (by rfl))) (by decide +kernel) (ax_cons (ex_bin (op2_add (by rfl)) (ex_var (i := 3) (by rfl) (by first | exact Or.inl rfl | exact Or.inr (Or.inl rfl) | exact Or.inr (Or.inr rfl)) (by decide) (by decide)) (ex_cst pe_int (fun _ _ => (by rfl)))) (ax_nil) (by rfl)) (by decide) (by decide) (by rfl) (by rfl)) (ex_bi (fb_len (by rfl)) cr_len (by rfl) (He.free_ok X0 G0 (c.t.d.fact 4 (f := .free "len") (by rfl))) (by decide +kernel) (ax_cons (ex_var (i := 2) (by rfl) (by first | exact Or.inl rfl | exact Or.inr (Or.inl rfl) | exact Or.inr (Or.inr rfl)) (by decide) (by decide)) (ax_nil) (by rfl)) (by decide) (by decide) (by rfl) (by rfl))) (fun _ _ => (by rfl))) (ax_nil) (by rfl)) (by rfl))) (ax_nil) (by rfl)) (by decide) (by decide) (by rfl) (by rfl)) (ax_nil) (by rfl)) (by decide) (by decide) (by rfl) (by rfl)) (ex_var (i := 1) (by rfl) (by first | exact Or.inl rfl | exact Or.inr (Or.inl rfl) | exact Or.inr (Or.inr rfl)) (by decide) (by decide)) (by with_unfolding_all rfl))))) (xs_one (xs_ret (ex_cst pe_bl (fun _ _ => (by rfl))))) (xs_nil))) (fun _ => (by rfl))) (
      xs_one (xs_ret (ex_cst pe_bl (fun _ _ => (by rfl))))))
theorem run_31 (n : Nat) : run (n + 1) 31 = body0 3 (b_31 (run n)) := rfl
theorem ok_31 (c : He.SaysX fa fn [] tf exK w h K) (X0 : K.In h) (G0 : h.Ns mainGlobals mg) (tb : ∀ p ∈ tf, LamX.TabB base mg (He.cT K p).1 (He.cT K p).2) {n : Nat} (ih : ∀ j, OkAt P w mg base K n j) : OkAt P w mg base K (n + 1) 31 := by
  intro fd F
  obtain ⟨fd12, F12⟩ := c.t.d.def_ 12 (d := d_12) rfl
  have ih12 := ih 12 fd12 F12
  obtain ⟨fd13, F13⟩ := c.t.d.def_ 13 (d := d_13) rfl
  have ih13 := ih 13 fd13 F13
  rw [run_31]
  refine fn_ok (G := GG K) (N := ["kind", "collection", "e"]) (ps := ["kind", "collection"]) (k := 2 * n + 3) (fun _ => trivial) F sc_31 fun cdv A outer s H E hr => ?_
  have hnd : (["kind", "collection", "e"] : List Str).Nodup := sc_31.nd
  have tk := takes_of (X := cxOf (L2.CX P w) P w K mg base ["kind", "collection", "e"] "_law_told" (defScope s_31) (He.fAd K d_31.at_) cdv A outer s H E) rfl rfl rfl rfl
  have hp := passes_of (X := cxOf (L2.CX P w) P w K mg base ["kind", "collection", "e"] "_law_told" (defScope s_31) (He.fAd K d_31.at_) cdv A outer s H E) rfl
  have hcls := clsok c
  unfold b_31 Tx.t__law_told_v4
  exact xs_one (xs_try (by rfl) (fun _ _ _ _ => trivial) (by rfl) (by rfl) hnd tk (apart_of (cs := cds) hG (by decide) (cmore c) (by rfl) (by rfl)) (fun W2 pn xe tk2 hp2 => xs_cons (xs_if (xt_cmp (op2_eq (by rfl) hr.units) (ex_var (i := 0) (by rfl) (by first | exact Or.inl rfl | exact Or.inr (Or.inl rfl) | exact Or.inr (Or.inr rfl)) (by decide) (by decide)) (ex_cst pe_int (fun _ _ => (by rfl))) (nomark _)) (xs_one (xs_ret (ex_tup (ax_cons (ex_cst pe_str (fun _ _ => (by rfl))) (ax_cons (ex_call (ih12) tk2 (hr.mono (by omega)) (by rfl) (He.glo_ok X0 G0 (c.t.d.fact 41 (f := .glo "sides") (by rfl))) F12.kp (bind_12 F12) (ax_cons (ex_var (i := 1) (by rfl) (by first | exact Or.inl rfl | exact Or.inr (Or.inl rfl) | exact Or.inr (Or.inr rfl)) (by decide) (by decide)) (ax_nil) (by rfl)) (by decide) (by rfl) (by rfl)) (ax_nil) (by rfl)) (by rfl))))) (xs_nil)) (
      xs_one (xs_ret (ex_tup (ax_cons (ex_cst pe_str (fun _ _ => (by rfl))) (ax_cons (ex_call (ih13) tk2 (hr.mono (by omega)) (by rfl) (He.glo_ok X0 G0 (c.t.d.fact 42 (f := .glo "odd_ring") (by rfl))) F13.kp (bind_13 F13) (ax_cons (ex_var (i := 1) (by rfl) (by first | exact Or.inl rfl | exact Or.inr (Or.inl rfl) | exact Or.inr (Or.inr rfl)) (by decide) (by decide)) (ax_nil) (by rfl)) (by decide) (by rfl) (by rfl)) (ax_nil) (by rfl)) (by rfl)))))) (.named (c := 2) (i := 2) ⟨(by rfl), by decide, .inl (He.glo_ok X0 G0 (c.t.d.fact 19 (f := .glo "Undefined") (by rfl)))⟩ (by rfl) (by rfl) (fun a dd us fs ds oe pn hz hf => xs_one (xs_ret (ex_tup (ax_cons (ex_cst pe_str (fun _ _ => (by rfl))) (ax_cons (ex_ef (i := 2) (c := 2) (ClsD.excOk (clsEx_at (cmore c) (i := 2) (d := cd_2) (by rfl)) (by rfl)).2.1 ((ClsD.excOk (clsEx_at (cmore c) (i := 2) (d := cd_2) (by rfl)) (by rfl)).2.2.2.2 _ (by decide)) hz hf (by rfl) (by first | exact Or.inl rfl | exact Or.inr (Or.inl rfl) | exact Or.inr (Or.inr rfl)) (by decide) (by decide) (by rfl)) (ax_nil) (by rfl)) (by rfl))))) (.nil)))
theorem run_32 (n : Nat) : run (n + 1) 32 = body0 12 (b_32 (run n)) := rfl
theorem ok_32 (c : He.SaysX fa fn [] tf exK w h K) (X0 : K.In h) (G0 : h.Ns mainGlobals mg) (tb : ∀ p ∈ tf, LamX.TabB base mg (He.cT K p).1 (He.cT K p).2) {n : Nat} (ih : ∀ j, OkAt P w mg base K n j) : OkAt P w mg base K (n + 1) 32 := by
  intro fd F
  obtain ⟨fd6, F6⟩ := c.t.d.def_ 6 (d := d_6) rfl
  have ih6 := ih 6 fd6 F6
  obtain ⟨fd7, F7⟩ := c.t.d.def_ 7 (d := d_7) rfl
  have ih7 := ih 7 fd7 F7
  obtain ⟨fd14, F14⟩ := c.t.d.def_ 14 (d := d_14) rfl
  have ih14 := ih 14 fd14 F14
  obtain ⟨fd15, F15⟩ := c.t.d.def_ 15 (d := d_15) rfl
  have ih15 := ih 15 fd15 F15
  obtain ⟨fd16, F16⟩ := c.t.d.def_ 16 (d := d_16) rfl
  have ih16 := ih 16 fd16 F16
  obtain ⟨fd20, F20⟩ := c.t.d.def_ 20 (d := d_20) rfl
  have ih20 := ih 20 fd20 F20
  obtain ⟨fd21, F21⟩ := c.t.d.def_ 21 (d := d_21) rfl
  have ih21 := ih 21 fd21 F21
  obtain ⟨fd22, F22⟩ := c.t.d.def_ 22 (d := d_22) rfl
  have ih22 := ih 22 fd22 F22
  obtain ⟨fd27, F27⟩ := c.t.d.def_ 27 (d := d_27) rfl
  have ih27 := ih 27 fd27 F27
  obtain ⟨fd28, F28⟩ := c.t.d.def_ 28 (d := d_28) rfl
  have ih28 := ih 28 fd28 F28
  obtain ⟨fd29, F29⟩ := c.t.d.def_ 29 (d := d_29) rfl
  have ih29 := ih 29 fd29 F29
  obtain ⟨fd30, F30⟩ := c.t.d.def_ 30 (d := d_30) rfl
  have ih30 := ih 30 fd30 F30
  obtain ⟨fd31, F31⟩ := c.t.d.def_ 31 (d := d_31) rfl
  have ih31 := ih 31 fd31 F31
  rw [run_32]
  refine fn_ok (G := GG K) (N := ["script", "box", "n", "groups", "collection", "rings", "k", "due", "told", "ring", "values", "value"]) (ps := ["script"]) (k := 2 * n + 3) (fun _ => trivial) F sc_32 fun cdv A outer s H E hr => ?_
  have hnd : (["script", "box", "n", "groups", "collection", "rings", "k", "due", "told", "ring", "values", "value"] : List Str).Nodup := sc_32.nd
  have tk := takes_of (X := cxOf (L2.CX P w) P w K mg base ["script", "box", "n", "groups", "collection", "rings", "k", "due", "told", "ring", "values", "value"] "law" (defScope s_32) (He.fAd K d_32.at_) cdv A outer s H E) rfl rfl rfl rfl
  have hp := passes_of (X := cxOf (L2.CX P w) P w K mg base ["script", "box", "n", "groups", "collection", "rings", "k", "due", "told", "ring", "values", "value"] "law" (defScope s_32) (He.fAd K d_32.at_) cdv A outer s H E) rfl
  have hcls := clsok c
  unfold b_32 t_law
  exact xs_cons (xs_set (i := 1) hnd (by rfl) (by first | exact Or.inl rfl | exact Or.inr rfl) (fun _ _ _ => trivial) (ex_call (ih15) tk (hr.mono (by omega)) (by rfl) (He.glo_ok X0 G0 (c.t.d.fact 43 (f := .glo "_law_box") (by rfl))) F15.kp (bind_15 F15) (ax_cons (ex_var (i := 0) (by rfl) (by first | exact Or.inl rfl | exact Or.inr (Or.inl rfl) | exact Or.inr (Or.inr rfl)) (by decide) (by decide)) (ax_cons (ex_cst pe_int (fun _ _ => (by rfl))) (ax_nil) (by rfl)) (by rfl)) (by decide) (by rfl) (by rfl)) (by rfl) (by first | exact Or.inl rfl | exact Or.inr rfl)) (
      xs_cons (xs_asg (ex_call (ih27) tk (hr.mono (by omega)) (by rfl) (He.glo_ok X0 G0 (c.t.d.fact 44 (f := .glo "_law_groups") (by rfl))) F27.kp (bind_27 F27) (ax_cons (ex_call (ih15) tk (hr.mono (by omega)) (by rfl) (He.glo_ok X0 G0 (c.t.d.fact 43 (f := .glo "_law_box") (by rfl))) F15.kp (bind_15 F15) (ax_cons (ex_var (i := 0) (by rfl) (by first | exact Or.inl rfl | exact Or.inr (Or.inl rfl) | exact Or.inr (Or.inr rfl)) (by decide) (by decide)) (ax_cons (ex_cst pe_int (fun _ _ => (by rfl))) (ax_nil) (by rfl)) (by rfl)) (by decide) (by rfl) (by rfl)) (ax_cons (ex_ix (by rfl) (ex_lst (ax_cons (ex_cst pe_int (fun _ _ => (by rfl))) (ax_cons (ex_cst pe_int (fun _ _ => (by rfl))) (ax_cons (ex_cst pe_int (fun _ _ => (by rfl))) (ax_cons (ex_cst pe_int (fun _ _ => (by rfl))) (ax_cons (ex_cst pe_int (fun _ _ => (by rfl))) (ax_cons (ex_cst pe_int (fun _ _ => (by rfl))) (ax_cons (ex_cst pe_int (fun _ _ => (by rfl))) (ax_nil) (by rfl)) (by rfl)) (by rfl)) (by rfl)) (by rfl)) (by rfl)) (by rfl))) (ex_call (ih16) tk (hr.mono (by omega)) (by rfl) (He.glo_ok X0 G0 (c.t.d.fact 28 (f := .glo "_law_take") (by rfl))) F16.kp (bind_16 F16) (ax_cons (ex_var (i := 1) (by rfl) (by first | exact Or.inl rfl | exact Or.inr (Or.inl rfl) | exact Or.inr (Or.inr rfl)) (by decide) (by decide)) (ax_cons (ex_cst pe_int (fun _ _ => (by rfl))) (ax_nil) (by rfl)) (by rfl)) (by decide) (by rfl) (by rfl)) (fun _ _ => (by rfl))) (ax_cons (ex_cst pe_int (fun _ _ => (by rfl))) (ax_nil) (by rfl)) (by rfl)) (by rfl)) (by decide) (by rfl) (by rfl)) (xg_tup (by rfl) (by rfl) (xgs_cons (xg_name (i := 2) hnd (by rfl) (by first | exact Or.inl rfl | exact Or.inr rfl) (fun _ _ _ => trivial) (by first | exact Or.inl rfl | exact Or.inr rfl)) (xgs_cons (xg_name (i := 3) hnd (by rfl) (by first | exact Or.inl rfl | exact Or.inr rfl) (fun _ _ _ => trivial) (by first | exact Or.inl rfl | exact Or.inr rfl)) (xgs_nil) (by rfl)) (by rfl)) (by rfl) (by rfl) (by rfl)) (by rfl) (by rfl) (by rfl)) (
      xs_cons (xs_set (i := 4) hnd (by rfl) (by first | exact Or.inl rfl | exact Or.inr rfl) (fun _ _ _ => trivial) (ex_make (c := 3) (ClsD.insOk (clsEx_at (cmore c) (i := 3) (d := cd_3) (by rfl)) (by rfl)).2.1 (ih6) tk (hr.mono (by omega)) (by rfl) (He.glo_ok X0 G0 (c.t.d.fact 45 (f := .glo "Collection") (by rfl))) (bind_6 F6) (ax_cons (ex_var (i := 2) (by rfl) (by first | exact Or.inl rfl | exact Or.inr (Or.inl rfl) | exact Or.inr (Or.inr rfl)) (by decide) (by decide)) (ax_cons (ex_var (i := 3) (by rfl) (by first | exact Or.inl rfl | exact Or.inr (Or.inl rfl) | exact Or.inr (Or.inr rfl)) (by decide) (by decide)) (ax_nil) (by rfl)) (by rfl)) (by decide) (by rfl) (by rfl)) (by rfl) (by first | exact Or.inl rfl | exact Or.inr rfl)) (
      xs_cons (xs_if (xt_not (xt_val (ex_call (ih20) tk (hr.mono (by omega)) (by rfl) (He.glo_ok X0 G0 (c.t.d.fact 46 (f := .glo "_law_is_due") (by rfl))) F20.kp (bind_20 F20) (ax_cons (ex_call (ih7) tk (hr.mono (by omega)) (by rfl) (He.glo_ok X0 G0 (c.t.d.fact 18 (f := .glo "is_pairs") (by rfl))) F7.kp (bind_7 F7) (ax_cons (ex_var (i := 4) (by rfl) (by first | exact Or.inl rfl | exact Or.inr (Or.inl rfl) | exact Or.inr (Or.inr rfl)) (by decide) (by decide)) (ax_nil) (by rfl)) (by decide) (by rfl) (by rfl)) (ax_cons (ex_call (ih29) tk (hr.mono (by omega)) (by rfl) (He.glo_ok X0 G0 (c.t.d.fact 40 (f := .glo "_law_is_pairs") (by rfl))) F29.kp (bind_29 F29) (ax_cons (ex_var (i := 3) (by rfl) (by first | exact Or.inl rfl | exact Or.inr (Or.inl rfl) | exact Or.inr (Or.inr rfl)) (by decide) (by decide)) (ax_nil) (by rfl)) (by decide) (by rfl) (by rfl)) (ax_nil) (by rfl)) (by rfl)) (by decide) (by rfl) (by rfl)) (fun _ => (by rfl)))) (xs_one (xs_ret (ex_cst pe_bl (fun _ _ => (by rfl))))) (xs_nil)) (
      xs_cons (xs_setLc (own := [("k", 6)]) (j := 5) (fun _ _ _ _ => trivial) tt_nil (by decide) (by rfl) hnd (by rfl) (by rfl) (sw_true (by rfl) (by rfl) (by rfl) (by decide +kernel)) (xi_range1 (by rfl) (He.free_ok X0 G0 (c.t.d.fact 5 (f := .free "range") (by rfl))) (ax_cons (ex_cst pe_int (fun _ _ => (by rfl))) (ax_nil) (by rfl)) (by rfl)) (blkOk_by (own := [("k", 6)]) (N := ["script", "box", "n", "groups", "collection", "rings", "k", "due", "told", "ring", "values", "value"]) (sc := defScope s_32) (by decide +kernel)) (fun _ _ _ _ _ => xg_name (i := 6) hnd (by rfl) (by first | exact Or.inl rfl | exact Or.inr rfl) (fun _ _ _ => trivial) (by first | exact Or.inl rfl | exact Or.inr rfl)) (fun _ _ _ _ _ => pts_nil) (fun _ _ _ _ _ => ex_ty (fb_tuple (by rfl)) call_tupF (by rfl) (He.free_ok X0 G0 (c.t.d.fact 8 (f := .free "tuple") (by rfl))) (by decide +kernel) (ax_cons (ex_sl (by rfl) (ex_call (ih22) takes0 (hr.mono (by omega)) (by rfl) (He.glo_ok X0 G0 (c.t.d.fact 34 (f := .glo "_law_shuffled") (by rfl))) F22.kp (bind_22 F22) (ax_cons (ex_var (i := 1) (by rfl) (by first | exact Or.inl rfl | exact Or.inr (Or.inl rfl) | exact Or.inr (Or.inr rfl)) (by decide) (by decide)) (ax_cons (ex_lrg1 (by rfl) (by rfl) (He.free_ok X0 G0 (c.t.d.fact 12 (f := .free "list") (by rfl))) (by rfl) (He.free_ok X0 G0 (c.t.d.fact 5 (f := .free "range") (by rfl))) (ex_var (i := 2) (by rfl) (by first | exact Or.inl rfl | exact Or.inr (Or.inl rfl) | exact Or.inr (Or.inr rfl)) (by decide) (by decide)) (by rfl) (by rfl)) (ax_nil) (by rfl)) (by rfl)) (by decide) (by rfl) (by rfl)) xo_none (xo_some (ex_bin (op2_add (by rfl)) (ex_cst pe_int (fun _ _ => (by rfl))) (ex_call (ih16) takes0 (hr.mono (by omega)) (by rfl) (He.glo_ok X0 G0 (c.t.d.fact 28 (f := .glo "_law_take") (by rfl))) F16.kp (bind_16 F16) (ax_cons (ex_var (i := 1) (by rfl) (by first | exact Or.inl rfl | exact Or.inr (Or.inl rfl) | exact Or.inr (Or.inr rfl)) (by decide) (by decide)) (ax_cons (ex_cst pe_int (fun _ _ => (by rfl))) (ax_nil) (by rfl)) (by rfl)) (by decide) (by rfl) (by rfl))))) (ax_nil) (by rfl)) (by decide) (by decide) (by rfl) (by rfl)) (fun _ => (by rfl))) (
      xs_cons (xs_if (xt_not (xt_val (ex_call (ih29) tk (hr.mono (by omega)) (by rfl) (He.glo_ok X0 G0 (c.t.d.fact 40 (f := .glo "_law_is_pairs") (by rfl))) F29.kp (bind_29 F29) (ax_cons (ex_var (i := 3) (by rfl) (by first | exact Or.inl rfl | exact Or.inr (Or.inl rfl) | exact Or.inr (Or.inr rfl)) (by decide) (by decide)) (ax_nil) (by rfl)) (by decide) (by rfl) (by rfl)) (fun _ => (by rfl)))) (xs_one (xs_if (PW.pt (xw_or (xt_cmp (op2_ne (by rfl) hr.units) (ex_call (ih31) tk (hr.mono (by omega)) (by rfl) (He.glo_ok X0 G0 (c.t.d.fact 47 (f := .glo "_law_told") (by rfl))) F31.kp (bind_31 F31) (ax_cons (ex_cst pe_int (fun _ _ => (by rfl))) (ax_cons (ex_var (i := 4) (by rfl) (by first | exact Or.inl rfl | exact Or.inr (Or.inl rfl) | exact Or.inr (Or.inr rfl)) (by decide) (by decide)) (ax_nil) (by rfl)) (by rfl)) (by decide) (by rfl) (by rfl)) (ex_tup (ax_cons (ex_cst pe_str (fun _ _ => (by rfl))) (ax_cons (ex_cst pe_str (fun _ _ => (by rfl))) (ax_nil) (by rfl)) (by rfl))) (nomark _)) (xw_or1 (xt_cmp (op2_ne (by rfl) hr.units) (ex_call (ih31) tk (hr.mono (by omega)) (by rfl) (He.glo_ok X0 G0 (c.t.d.fact 47 (f := .glo "_law_told") (by rfl))) F31.kp (bind_31 F31) (ax_cons (ex_cst pe_int (fun _ _ => (by rfl))) (ax_cons (ex_var (i := 4) (by rfl) (by first | exact Or.inl rfl | exact Or.inr (Or.inl rfl) | exact Or.inr (Or.inr rfl)) (by decide) (by decide)) (ax_nil) (by rfl)) (by rfl)) (by decide) (by rfl) (by rfl)) (ex_tup (ax_cons (ex_cst pe_str (fun _ _ => (by rfl))) (ax_cons (ex_cst pe_str (fun _ _ => (by rfl))) (ax_nil) (by rfl)) (by rfl))) (nomark _))))) (xs_one (xs_ret (ex_cst pe_bl (fun _ _ => (by rfl))))) (xs_nil))) (xs_cons (xs_set (i := 7) hnd (by rfl) (by first | exact Or.inl rfl | exact Or.inr rfl) (fun _ _ _ => trivial) (ex_call (ih28) tk (hr.mono (by omega)) (by rfl) (He.glo_ok X0 G0 (c.t.d.fact 48 (f := .glo "_law_two_sides") (by rfl))) F28.kp (bind_28 F28) (ax_cons (ex_var (i := 2) (by rfl) (by first | exact Or.inl rfl | exact Or.inr (Or.inl rfl) | exact Or.inr (Or.inr rfl)) (by decide) (by decide)) (ax_cons (ex_var (i := 3) (by rfl) (by first | exact Or.inl rfl | exact Or.inr (Or.inl rfl) | exact Or.inr (Or.inr rfl)) (by decide) (by decide)) (ax_nil) (by rfl)) (by rfl)) (by decide) (by rfl) (by rfl)) (by rfl) (by first | exact Or.inl rfl | exact Or.inr rfl)) (
      xs_cons (xs_set (i := 8) hnd (by rfl) (by first | exact Or.inl rfl | exact Or.inr rfl) (fun _ _ _ => trivial) (ex_call (ih31) tk (hr.mono (by omega)) (by rfl) (He.glo_ok X0 G0 (c.t.d.fact 47 (f := .glo "_law_told") (by rfl))) F31.kp (bind_31 F31) (ax_cons (ex_cst pe_int (fun _ _ => (by rfl))) (ax_cons (ex_var (i := 4) (by rfl) (by first | exact Or.inl rfl | exact Or.inr (Or.inl rfl) | exact Or.inr (Or.inr rfl)) (by decide) (by decide)) (ax_nil) (by rfl)) (by rfl)) (by decide) (by rfl) (by rfl)) (by rfl) (by first | exact Or.inl rfl | exact Or.inr rfl)) (
      xs_one (xs_if (xt_cmp (op2_is) (ex_var (i := 7) (by rfl) (by first | exact Or.inl rfl | exact Or.inr (Or.inl rfl) | exact Or.inr (Or.inr rfl)) (by decide) (by decide)) (ex_cst pe_non (fun _ _ => (by rfl))) (nomark _)) (xs_cons (xs_if (PW.pt (xw_or (xt_cmp (op2_ne (by rfl) hr.units) (ex_call (ih31) tk (hr.mono (by omega)) (by rfl) (He.glo_ok X0 G0 (c.t.d.fact 47 (f := .glo "_law_told") (by rfl))) F31.kp (bind_31 F31) (ax_cons (ex_cst pe_int (fun _ _ => (by rfl))) (ax_cons (ex_var (i := 4) (by rfl) (by first | exact Or.inl rfl | exact Or.inr (Or.inl rfl) | exact Or.inr (Or.inr rfl)) (by decide) (by decide)) (ax_nil) (by rfl)) (by rfl)) (by decide) (by rfl) (by rfl)) (ex_tup (ax_cons (ex_cst pe_str (fun _ _ => (by rfl))) (ax_cons (ex_cst pe_str (fun _ _ => (by rfl))) (ax_nil) (by rfl)) (by rfl))) (nomark _)) (xw_or (xt_cmp (op2_ne (by rfl) hr.units) (ex_ix (by rfl) (ex_var (i := 8) (by rfl) (by first | exact Or.inl rfl | exact Or.inr (Or.inl rfl) | exact Or.inr (Or.inr rfl)) (by decide) (by decide)) (ex_cst pe_int (fun _ _ => (by rfl))) (fun _ _ => (by rfl))) (ex_cst pe_str (fun _ _ => (by rfl))) (nomark _)) (xw_or1 (xt_not (xt_val (ex_call (ih30) tk (hr.mono (by omega)) (by rfl) (He.glo_ok X0 G0 (c.t.d.fact 49 (f := .glo "_law_is_odd_ring") (by rfl))) F30.kp (bind_30 F30) (ax_cons (ex_var (i := 2) (by rfl) (by first | exact Or.inl rfl | exact Or.inr (Or.inl rfl) | exact Or.inr (Or.inr rfl)) (by decide) (by decide)) (ax_cons (ex_var (i := 3) (by rfl) (by first | exact Or.inl rfl | exact Or.inr (Or.inl rfl) | exact Or.inr (Or.inr rfl)) (by decide) (by decide)) (ax_cons (ex_ix (by rfl) (ex_var (i := 8) (by rfl) (by first | exact Or.inl rfl | exact Or.inr (Or.inl rfl) | exact Or.inr (Or.inr rfl)) (by decide) (by decide)) (ex_cst pe_int (fun _ _ => (by rfl))) (fun _ _ => (by rfl))) (ax_nil) (by rfl)) (by rfl)) (by rfl)) (by decide) (by rfl) (by rfl)) (fun _ => (by rfl)))))))) (xs_one (xs_ret (ex_cst pe_bl (fun _ _ => (by rfl))))) (xs_nil)) (
      xs_one (xs_drop (ex_lm (by rfl) lm_append PySem.F.plainAttrs_list PySem.F.slot_list_append PySem.F.type_list_append mt_append (ex_var (i := 5) (by rfl) (by first | exact Or.inl rfl | exact Or.inr (Or.inl rfl) | exact Or.inr (Or.inr rfl)) (by decide) (by decide)) (ax_cons (ex_ix (by rfl) (ex_var (i := 8) (by rfl) (by first | exact Or.inl rfl | exact Or.inr (Or.inl rfl) | exact Or.inr (Or.inr rfl)) (by decide) (by decide)) (ex_cst pe_int (fun _ _ => (by rfl))) (fun _ _ => (by rfl))) (ax_nil) (by rfl)) (by rfl) (by rfl) (by rfl) (by rfl) (by rfl)) (by rfl)))) (xs_one (xs_if (PW.pt (xw_or (xt_cmp (op2_ne (by rfl) hr.units) (ex_call (ih31) tk (hr.mono (by omega)) (by rfl) (He.glo_ok X0 G0 (c.t.d.fact 47 (f := .glo "_law_told") (by rfl))) F31.kp (bind_31 F31) (ax_cons (ex_cst pe_int (fun _ _ => (by rfl))) (ax_cons (ex_var (i := 4) (by rfl) (by first | exact Or.inl rfl | exact Or.inr (Or.inl rfl) | exact Or.inr (Or.inr rfl)) (by decide) (by decide)) (ax_nil) (by rfl)) (by rfl)) (by decide) (by rfl) (by rfl)) (ex_tup (ax_cons (ex_cst pe_str (fun _ _ => (by rfl))) (ax_cons (ex_var (i := 7) (by rfl) (by first | exact Or.inl rfl | exact Or.inr (Or.inl rfl) | exact Or.inr (Or.inr rfl)) (by decide) (by decide)) (ax_nil) (by rfl)) (by rfl))) (nomark _)) (xw_or1 (xt_cmp (op2_ne (by rfl) hr.units) (ex_var (i := 8) (by rfl) (by first | exact Or.inl rfl | exact Or.inr (Or.inl rfl) | exact Or.inr (Or.inr rfl)) (by decide) (by decide)) (ex_tup (ax_cons (ex_cst pe_str (fun _ _ => (by rfl))) (ax_cons (ex_cst pe_str (fun _ _ => (by rfl))) (ax_nil) (by rfl)) (by rfl))) (nomark _))))) (xs_one (xs_ret (ex_cst pe_bl (fun _ _ => (by rfl))))) (xs_nil)))))))) (
      xs_cons (xs_for hp (by rfl) (xi_iter (by rfl) (ex_var (i := 5) (by rfl) (by first | exact Or.inl rfl | exact Or.inr (Or.inl rfl) | exact Or.inr (Or.inr rfl)) (by decide) (by decide))) (xg_name (i := 9) hnd (by rfl) (by first | exact Or.inl rfl | exact Or.inr rfl) (fun _ _ _ => trivial) (by first | exact Or.inl rfl | exact Or.inr rfl)) (xs_cons (xs_set (i := 10) hnd (by rfl) (by first | exact Or.inl rfl | exact Or.inr rfl) (fun _ _ _ => trivial) (ex_lst (ax_cons (ex_var (i := 9) (by rfl) (by first | exact Or.inl rfl | exact Or.inr (Or.inl rfl) | exact Or.inr (Or.inr rfl)) (by decide) (by decide)) (ax_cons (ex_bin (op2_add (by rfl)) (ex_sl (by rfl) (ex_var (i := 9) (by rfl) (by first | exact Or.inl rfl | exact Or.inr (Or.inl rfl) | exact Or.inr (Or.inr rfl)) (by decide) (by decide)) (xo_some (ex_cst pe_int (fun _ _ => (by rfl)))) xo_none) (ex_sl (by rfl) (ex_var (i := 9) (by rfl) (by first | exact Or.inl rfl | exact Or.inr (Or.inl rfl) | exact Or.inr (Or.inr rfl)) (by decide) (by decide)) xo_none (xo_some (ex_cst pe_int (fun _ _ => (by rfl)))))) (ax_cons (ex_rev (by rfl) (ex_var (i := 9) (by rfl) (by first | exact Or.inl rfl | exact Or.inr (Or.inl rfl) | exact Or.inr (Or.inr rfl)) (by decide) (by decide))) (ax_cons (ex_sl (by rfl) (ex_var (i := 9) (by rfl) (by first | exact Or.inl rfl | exact Or.inr (Or.inl rfl) | exact Or.inr (Or.inr rfl)) (by decide) (by decide)) xo_none (xo_some (ex_neg (ex_cst pe_int (fun _ _ => (by rfl)))))) (ax_cons (ex_bin (op2_add (by rfl)) (ex_var (i := 9) (by rfl) (by first | exact Or.inl rfl | exact Or.inr (Or.inl rfl) | exact Or.inr (Or.inr rfl)) (by decide) (by decide)) (ex_sl (by rfl) (ex_var (i := 9) (by rfl) (by first | exact Or.inl rfl | exact Or.inr (Or.inl rfl) | exact Or.inr (Or.inr rfl)) (by decide) (by decide)) xo_none (xo_some (ex_cst pe_int (fun _ _ => (by rfl)))))) (ax_cons (ex_bin (op2_add (by rfl)) (ex_bin (op2_add (by rfl)) (ex_var (i := 9) (by rfl) (by first | exact Or.inl rfl | exact Or.inr (Or.inl rfl) | exact Or.inr (Or.inr rfl)) (by decide) (by decide)) (ex_var (i := 9) (by rfl) (by first | exact Or.inl rfl | exact Or.inr (Or.inl rfl) | exact Or.inr (Or.inr rfl)) (by decide) (by decide))) (ex_var (i := 9) (by rfl) (by first | exact Or.inl rfl | exact Or.inr (Or.inl rfl) | exact Or.inr (Or.inr rfl)) (by decide) (by decide))) (ax_cons (ex_tyL (fl_list (by rfl)) call_list_of (by rfl) (He.free_ok X0 G0 (c.t.d.fact 12 (f := .free "list") (by rfl))) (by decide +kernel) (ax_cons (ex_var (i := 9) (by rfl) (by first | exact Or.inl rfl | exact Or.inr (Or.inl rfl) | exact Or.inr (Or.inr rfl)) (by decide) (by decide)) (ax_nil) (by rfl)) (by decide) (by decide) (by rfl) (by rfl)) (ax_cons (ex_cst pe_non (fun _ _ => (by rfl))) (ax_cons (ex_tup (ax_nil)) (ax_cons (ex_tup (ax_cons (ex_cst pe_int (fun _ _ => (by rfl))) (ax_cons (ex_cst pe_int (fun _ _ => (by rfl))) (ax_nil) (by rfl)) (by rfl))) (ax_cons (ex_sl (by rfl) (ex_var (i := 9) (by rfl) (by first | exact Or.inl rfl | exact Or.inr (Or.inl rfl) | exact Or.inr (Or.inr rfl)) (by decide) (by decide)) xo_none (xo_some (ex_cst pe_int (fun _ _ => (by rfl))))) (ax_nil) (by rfl)) (by rfl)) (by rfl)) (by rfl)) (by rfl)) (by rfl)) (by rfl)) (by rfl)) (by rfl)) (by rfl)) (by rfl))) (by rfl) (by first | exact Or.inl rfl | exact Or.inr rfl)) (
      xs_one (xs_for hp (by rfl) (xi_iter (by rfl) (ex_bin (op2_add (by rfl)) (ex_var (i := 10) (by rfl) (by first | exact Or.inl rfl | exact Or.inr (Or.inl rfl) | exact Or.inr (Or.inr rfl)) (by decide) (by decide)) (ex_lst (ax_cons (ex_call (ih21) tk (hr.mono (by omega)) (by rfl) (He.glo_ok X0 G0 (c.t.d.fact 30 (f := .glo "_law_spoilt") (by rfl))) F21.kp (bind_21 F21) (ax_cons (ex_var (i := 1) (by rfl) (by first | exact Or.inl rfl | exact Or.inr (Or.inl rfl) | exact Or.inr (Or.inr rfl)) (by decide) (by decide)) (ax_cons (ex_var (i := 9) (by rfl) (by first | exact Or.inl rfl | exact Or.inr (Or.inl rfl) | exact Or.inr (Or.inr rfl)) (by decide) (by decide)) (ax_cons (ex_cst pe_int (fun _ _ => (by rfl))) (ax_nil) (by rfl)) (by rfl)) (by rfl)) (by decide) (by rfl) (by rfl)) (ax_cons (ex_call (ih21) tk (hr.mono (by omega)) (by rfl) (He.glo_ok X0 G0 (c.t.d.fact 30 (f := .glo "_law_spoilt") (by rfl))) F21.kp (bind_21 F21) (ax_cons (ex_var (i := 1) (by rfl) (by first | exact Or.inl rfl | exact Or.inr (Or.inl rfl) | exact Or.inr (Or.inr rfl)) (by decide) (by decide)) (ax_cons (ex_var (i := 9) (by rfl) (by first | exact Or.inl rfl | exact Or.inr (Or.inl rfl) | exact Or.inr (Or.inr rfl)) (by decide) (by decide)) (ax_cons (ex_cst pe_int (fun _ _ => (by rfl))) (ax_nil) (by rfl)) (by rfl)) (by rfl)) (by decide) (by rfl) (by rfl)) (ax_nil) (by rfl)) (by rfl))))) (xg_name (i := 11) hnd (by rfl) (by first | exact Or.inl rfl | exact Or.inr rfl) (fun _ _ _ => trivial) (by first | exact Or.inl rfl | exact Or.inr rfl)) (xs_one (xs_if (xt_not (xt_val (ex_call (ih20) tk (hr.mono (by omega)) (by rfl) (He.glo_ok X0 G0 (c.t.d.fact 46 (f := .glo "_law_is_due") (by rfl))) F20.kp (bind_20 F20) (ax_cons (ex_call (ih14) tk (hr.mono (by omega)) (by rfl) (He.glo_ok X0 G0 (c.t.d.fact 26 (f := .glo "odd_ring_holds") (by rfl))) F14.kp (bind_14 F14) (ax_cons (ex_var (i := 4) (by rfl) (by first | exact Or.inl rfl | exact Or.inr (Or.inl rfl) | exact Or.inr (Or.inr rfl)) (by decide) (by decide)) (ax_cons (ex_var (i := 11) (by rfl) (by first | exact Or.inl rfl | exact Or.inr (Or.inl rfl) | exact Or.inr (Or.inr rfl)) (by decide) (by decide)) (ax_nil) (by rfl)) (by rfl)) (by decide) (by rfl) (by rfl)) (ax_cons (ex_call (ih30) tk (hr.mono (by omega)) (by rfl) (He.glo_ok X0 G0 (c.t.d.fact 49 (f := .glo "_law_is_odd_ring") (by rfl))) F30.kp (bind_30 F30) (ax_cons (ex_var (i := 2) (by rfl) (by first | exact Or.inl rfl | exact Or.inr (Or.inl rfl) | exact Or.inr (Or.inr rfl)) (by decide) (by decide)) (ax_cons (ex_var (i := 3) (by rfl) (by first | exact Or.inl rfl | exact Or.inr (Or.inl rfl) | exact Or.inr (Or.inr rfl)) (by decide) (by decide)) (ax_cons (ex_var (i := 11) (by rfl) (by first | exact Or.inl rfl | exact Or.inr (Or.inl rfl) | exact Or.inr (Or.inr rfl)) (by decide) (by decide)) (ax_nil) (by rfl)) (by rfl)) (by rfl)) (by decide) (by rfl) (by rfl)) (ax_nil) (by rfl)) (by rfl)) (by decide) (by rfl) (by rfl)) (fun _ => (by rfl)))) (xs_one (xs_ret (ex_cst pe_bl (fun _ _ => (by rfl))))) (xs_nil))) (fun _ => (by rfl))))) (fun _ => (by rfl))) (
      xs_one (xs_ret (ex_cst pe_bl (fun _ _ => (by rfl)))))))))))
end
end Lk30
set_option maxHeartbeats 0
namespace Lk30
open PySem L2 EV
theorem all_ok {P : Program} {w : World} {mg : Str → Option Value} {base h : Heap} {K : PySem.W.Frag} (c : He.SaysX fa fn [] tf exK w h K) (X0 : K.In h) (G0 : h.Ns mainGlobals mg) (tb : ∀ p ∈ tf, LamX.TabB base mg (He.cT K p).1 (He.cT K p).2) : ∀ n j, OkAt P w mg base K n j
  | 0, 0 => fun fd F => fn_bad (G := GG K)
  | 0, 1 => fun fd F => fn_bad (G := GG K)
  | 0, 2 => fun fd F => fn_bad (G := GG K)
  | 0, 3 => fun fd F => fn_bad (G := GG K)
  | 0, 4 => fun fd F => fn_bad (G := GG K)
  | 0, 5 => fun fd F => fn_bad (G := GG K)
  | 0, 6 => fun fd F => fn_bad (G := GG K)
  | 0, 7 => fun fd F => fn_bad (G := GG K)
  | 0, 8 => fun fd F => fn_bad (G := GG K)
  | 0, 9 => fun fd F => fn_bad (G := GG K)
  | 0, 10 => fun fd F => fn_bad (G := GG K)
  | 0, 11 => fun fd F => fn_bad (G := GG K)
  | 0, 12 => fun fd F => fn_bad (G := GG K)
  | 0, 13 => fun fd F => fn_bad (G := GG K)
  | 0, 14 => fun fd F => fn_bad (G := GG K)
  | 0, 15 => fun fd F => fn_bad (G := GG K)
  | 0, 16 => fun fd F => fn_bad (G := GG K)
  | 0, 17 => fun fd F => fn_bad (G := GG K)
  | 0, 18 => fun fd F => fn_bad (G := GG K)
  | 0, 19 => fun fd F => fn_bad (G := GG K)
  | 0, 20 => fun fd F => fn_bad (G := GG K)
  | 0, 21 => fun fd F => fn_bad (G := GG K)
  | 0, 22 => fun fd F => fn_bad (G := GG K)
  | 0, 23 => fun fd F => fn_bad (G := GG K)
  | 0, 24 => fun fd F => fn_bad (G := GG K)
  | 0, 25 => fun fd F => fn_bad (G := GG K)
  | 0, 26 => fun fd F => fn_bad (G := GG K)
  | 0, 27 => fun fd F => fn_bad (G := GG K)
  | 0, 28 => fun fd F => fn_bad (G := GG K)
  | 0, 29 => fun fd F => fn_bad (G := GG K)
  | 0, 30 => fun fd F => fn_bad (G := GG K)
  | 0, 31 => fun fd F => fn_bad (G := GG K)
  | 0, 32 => fun fd F => fn_bad (G := GG K)
  | 0, _ + 33 => trivial
  | n + 1, 0 => ok_0 c X0 G0 tb (all_ok c X0 G0 tb n)
  | n + 1, 1 => ok_1 c X0 G0 tb (all_ok c X0 G0 tb n)
  | n + 1, 2 => ok_2 c X0 G0 tb (all_ok c X0 G0 tb n)
  | n + 1, 3 => ok_3 c X0 G0 tb (all_ok c X0 G0 tb n)
  | n + 1, 4 => ok_4 c X0 G0 tb (all_ok c X0 G0 tb n)
  | n + 1, 5 => ok_5 c X0 G0 tb (all_ok c X0 G0 tb n)
  | n + 1, 6 => ok_6 c X0 G0 tb (all_ok c X0 G0 tb n)
  | n + 1, 7 => ok_7 c X0 G0 tb (all_ok c X0 G0 tb n)
  | n + 1, 8 => ok_8 c X0 G0 tb (all_ok c X0 G0 tb n)
  | n + 1, 9 => ok_9 c X0 G0 tb (all_ok c X0 G0 tb n)
  | n + 1, 10 => ok_10 c X0 G0 tb (all_ok c X0 G0 tb n)
  | n + 1, 11 => ok_11 c X0 G0 tb (all_ok c X0 G0 tb n)
  | n + 1, 12 => ok_12 c X0 G0 tb (all_ok c X0 G0 tb n)
  | n + 1, 13 => ok_13 c X0 G0 tb (all_ok c X0 G0 tb n)
  | n + 1, 14 => ok_14 c X0 G0 tb (all_ok c X0 G0 tb n)
  | n + 1, 15 => ok_15 c X0 G0 tb (all_ok c X0 G0 tb n)
  | n + 1, 16 => ok_16 c X0 G0 tb (all_ok c X0 G0 tb n)
  | n + 1, 17 => ok_17 c X0 G0 tb (all_ok c X0 G0 tb n)
  | n + 1, 18 => ok_18 c X0 G0 tb (all_ok c X0 G0 tb n)
  | n + 1, 19 => ok_19 c X0 G0 tb (all_ok c X0 G0 tb n)
  | n + 1, 20 => ok_20 c X0 G0 tb (all_ok c X0 G0 tb n)
  | n + 1, 21 => ok_21 c X0 G0 tb (all_ok c X0 G0 tb n)
  | n + 1, 22 => ok_22 c X0 G0 tb (all_ok c X0 G0 tb n)
  | n + 1, 23 => ok_23 c X0 G0 tb (all_ok c X0 G0 tb n)
  | n + 1, 24 => ok_24 c X0 G0 tb (all_ok c X0 G0 tb n)
  | n + 1, 25 => ok_25 c X0 G0 tb (all_ok c X0 G0 tb n)
  | n + 1, 26 => ok_26 c X0 G0 tb (all_ok c X0 G0 tb n)
  | n + 1, 27 => ok_27 c X0 G0 tb (all_ok c X0 G0 tb n)
  | n + 1, 28 => ok_28 c X0 G0 tb (all_ok c X0 G0 tb n)
  | n + 1, 29 => ok_29 c X0 G0 tb (all_ok c X0 G0 tb n)
  | n + 1, 30 => ok_30 c X0 G0 tb (all_ok c X0 G0 tb n)
  | n + 1, 31 => ok_31 c X0 G0 tb (all_ok c X0 G0 tb n)
  | n + 1, 32 => ok_32 c X0 G0 tb (all_ok c X0 G0 tb n)
  | n + 1, _ + 33 => trivial
theorem law_bind {K : PySem.W.Frag} {fd : FuncData} (F : FunD K d_32.name d_32.qual d_32.params d_32.body d_32.scope (d_32.dvs K) (d_32.kws K) (He.fAd K d_32.at_) fd) (s : Shared) (v : Value) : BindsTo s fd ⟨[v], []⟩ [("script", v)] :=
  FunD.bindsA (ps := ["script"]) F (fun _ _ _ _ _ _ us hl => match us, hl with
    | [_], _ => rfl) s [v] rfl
theorem law_at (hm : ∀ ns : List Int, ns.length ≤ 63 → ∃ S, run 100 32 [.d (.lst (ns.map D.int))] [] = .ok (.d (.bl true)) S) {w : World} {K : PySem.W.Frag} {h : Heap} {mg : Str → Option Value} {f : Addr} (X0 : K.In h) (G0 : h.Ns mainGlobals mg) (hfa : mg ("law" : Str) = some (.ref f)) (c : He.SaysX fa fn [] tf exK w h K) :
    LamX.LawAtS PySem.Challenge.rw_calmgroups_k30_sides_and_odd_rings w K (L2.CX (PySem.Challenge.rw_calmgroups_k30_sides_and_odd_rings).prog w) 202 63 "script" mg f h := by
  obtain ⟨fd, F⟩ := c.t.d.def_ 32 (d := d_32) rfl
  have e := hfa.symm.trans (He.glo_ok X0 G0 (c.t.d.fact 50 (f := .glo "law") rfl))
  cases e
  refine ⟨fd, tf.map (He.cT K), spF (GG K) 1 (run 100 32), fun p hp => ?_, fun p hp => ?_, fun p hp => ?_, fun s v => law_bind F s v, fun H a ns hl hbits hT hS => ?_, fun base hK hg htb => ?_⟩
  · obtain ⟨q, hq, rfl⟩ := List.mem_map.mp hp
    exact c.empty q hq
  · obtain ⟨q, hq, rfl⟩ := List.mem_map.mp hp
    exact c.out q hq
  · obtain ⟨q, hq, rfl⟩ := List.mem_map.mp hp
    exact PySem.W.codeHd_of_K X0 (c.hd q hq)
  · obtain ⟨S, hrun⟩ := hm ns hl
    have tab : NdefX.TabsN (GG K).T H := fun p hp => by
      obtain ⟨q, hq, rfl⟩ := List.mem_map.mp hp
      obtain ⟨r, hr, rfl⟩ := List.mem_map.mp hq
      exact NdefX.TabN.nil (hT (He.cT K r.1) (List.mem_map.mpr ⟨r.1, List.mem_map.mpr ⟨r, hr, rfl⟩, rfl⟩))
    exact start_ok (G := GG K) rfl (fun _ _ _ _ => trivial) hS hl tab hrun
  · exact all_ok c X0 G0 (fun p hp => htb _ (List.mem_map.mpr ⟨p, hp, rfl⟩)) 100 32 fd F
theorem holds_of (hm : ∀ ns : List Int, ns.length ≤ 63 → ∃ S, run 100 32 [.d (.lst (ns.map D.int))] [] = .ok (.d (.bl true)) S) : PySem.Challenge.rw_calmgroups_k30_sides_and_odd_rings.Holds := by
  open PySem.W PySem.Calls PyProof.Rows in
  w_on; o_law
  refine HandSHeadRun.head_any (r := PySem.W.OpenLaw.row PySem.Challenge.rw_calmgroups_k30_sides_and_odd_rings) (q := PySem.W.view (PySem.W.OpenLaw.row PySem.Challenge.rw_calmgroups_k30_sides_and_odd_rings).prog [43]) (H := hk) (ob := ob) (M := 20000) (loose := names) (d := HandSHeadRun.topDef (PySem.W.OpenLaw.row PySem.Challenge.rw_calmgroups_k30_sides_and_odd_rings).prog 43) (kwd := []) ob_eq
    (by kernel_rfl) (fun s => by kernel_rfl) runs (by kernel_rfl) (by kernel_rfl) (by kernel_rfl) (by rfl) (by first | assumption | decide +kernel) (by decide +kernel) ⟨rfl, rfl, rfl, rfl, rfl, by decide +kernel⟩ ?hw ?hc
  case hw => w_witness2
  case hc =>
    refine LamX.walk_ofTsE (l := PySem.Challenge.rw_calmgroups_k30_sides_and_odd_rings) (n := 63) (k := 202) (x := "script") (CX := fun w => L2.CX (PySem.Challenge.rw_calmgroups_k30_sides_and_odd_rings).prog w) rfl (by decide) (by kernel_rfl) ⟨rfl, by decide, by decide⟩ ?F ?X
    case X =>
      intro w H s e s' z
      obtain ⟨_, _, _, _, _, _, _, _, _, _, _, _, z⟩ := z
      exact z
    case F =>
      intro w mg fa h Y G hmg0
      obtain ⟨K, KX, c⟩ := Y
      have hmg : mg ("law" : PySem.Str) = some (.ref fa) := by
        have e : (HandSHeadRun.topDef (PySem.W.OpenLaw.row PySem.Challenge.rw_calmgroups_k30_sides_and_odd_rings).prog 43).name = ("law" : PySem.Str) := by kernel_rfl
        rw [← e]
        exact hmg0
      exact ⟨K, KX, law_at hm KX G hmg c⟩
end Lk30
theorem PySem.Challenge.cw_calmgroups_k30_sides_and_odd_rings_holds : PySem.Challenge.rw_calmgroups_k30_sides_and_odd_rings.Holds :=
  Lk30.holds_of Lk30.hm
