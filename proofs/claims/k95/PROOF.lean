import PyProof.Rows.All
import Wide.All
import OpenK.AllK
import Wide.FinOn
import HandS.ForMost
import HandS.Wide
import HandS.TupAny
import HandS.Deep
import HandS.IsInst
import HandS.SortInts
import HandS.Sort
import KE.KSortedM
import HandS.Zip
import HandS.Rev
import HandS.Codes
import KE.KStateDown
import HandS.Head0
import HandS.Head1
import HandS.Head2
import HandS.HeadEnd
import HandS.HeadHook1
import HandS.HeadHook2
import HandS.Dict
import HandS.Text
import HandS.NoneIn
import HandS.ExcOwn
import HandS.ExcIs
import HandS.ExcField
import HandS.TryMany
import PyProof.EqKinds
import HandS.Iter
import HandS.TupMul
import PyProof.EnumMake
import PyProof.Draws
import HandS.ExcInit
import HandS.ClsMeth
import HandS.TupLe
import HandS.Style
import HandS.DictComp
import KE.DataMinMax
import PyProof.ReprRoads
import PyProof.ReprText
import PyProof.ReprLen
import PyProof.CallFns
import HandS.TryOnly
import HandS.Defaults
import KE.KEqNest
import HandS.Finally
import KE.KExcIs
import HandS.CallSlots
import PySem.Challenge.RW_fuseboard_k95_whole_parted_or_shown
set_option Elab.async false
set_option linter.all false
set_option maxRecDepth 100000
set_option maxHeartbeats 0
namespace FB
open PySem PySem.Spec L2
open PyProof.Rows hiding St

inductive D where
  | non
  | bl (b : Bool)
  | int (i : Int)
  | str (s : Str)
  | tup (ds : List D)
  | lst (ds : List D)
  | dct (ks : List Key) (ds : List D)
  | ins (c : Str) (ns : List Str) (ds : List D)
  /-- the script: a list of ints that is read alone -/
  | scr (ns : List Int)
  /-- a def of the file -/
  | fn (x : Str)
  deriving Inhabited

inductive O where
  | val (d : D)
  | lst (os : List O)
  | dct (ks : List Key) (os : List O)
  | ins (c : Str) (ns : List Str) (os : List O)
  deriving Inhabited

mutual
inductive Vw (K : PySem.W.Frag) (mg : Str → Option Value) (G : Hp) : V → D → Prop
  | non : Vw K mg G .non .non
  | bl (b : Bool) : Vw K mg G (.bl b) (.bl b)
  | int (i : Int) : Vw K mg G (.int i) (.int i)
  | str (s : Str) : PyData.strOk s = true → Vw K mg G (.str s) (.str s)
  | tup {a : Addr} {xs : List V} {ds : List D} : SqT K G a xs → Vws K mg G xs ds → Vw K mg G (.ref a) (.tup ds)
  | lst {a : Addr} {xs : List V} {ds : List D} : Rd G a (.lst xs) → Vws K mg G xs ds → Vw K mg G (.ref a) (.lst ds)
  | scr {a : Addr} {ns : List Int} : SqL K G a (ns.map V.int) → Vw K mg G (.ref a) (.scr ns)
  | fn {a : Addr} {x : Str} : mg x = some (.ref a) → Vw K mg G (.ref a) (.fn x)
  | dct {a : Addr} {kvs : List (Key × V)} {ks : List Key} {ds : List D} : Rd G a (.dK kvs) → kvs.map (·.1) = ks ∧ ks.Nodup → Vws K mg G (kvs.map (·.2)) ds → Vw K mg G (.ref a) (.dct ks ds)
  | ins {a C dx : Addr} {fs : List (Str × V)} {c : Str} {ns : List Str} {ds : List D} : G a = some (.ins C dx fs) → mg c = some (.ref C) → fs.map (·.1) = ns → Vws K mg G (fs.map (·.2)) ds → Vw K mg G (.ref a) (.ins c ns ds)
inductive Vws (K : PySem.W.Frag) (mg : Str → Option Value) (G : Hp) : List V → List D → Prop
  | nil : Vws K mg G [] []
  | cons {v : V} {vs : List V} {d : D} {ds : List D} : Vw K mg G v d → Vws K mg G vs ds → Vws K mg G (v :: vs) (d :: ds)
end

section
variable {K : PySem.W.Frag} {mg : Str → Option Value}
mutual
inductive VO (K : PySem.W.Frag) (mg : Str → Option Value) (G H : Hp) : V → O → List Addr → Prop
  | val {v : V} {d : D} : Vw K mg G v d → VO K mg G H v (.val d) []
  | lst {p : Addr} {vs : List V} {os : List O} {as : List Addr} : H p = some (.lst vs) → VOs K mg G H vs os as → VO K mg G H (.ref p) (.lst os) (p :: as)
  | dct {p : Addr} {kvs : List (Key × V)} {ks : List Key} {os : List O} {as : List Addr} : H p = some (.dK kvs) → kvs.map (·.1) = ks ∧ ks.Nodup → VOs K mg G H (kvs.map (·.2)) os as → VO K mg G H (.ref p) (.dct ks os) (p :: as)
  | ins {p C dx : Addr} {fs : List (Str × V)} {c : Str} {ns : List Str} {os : List O} {as : List Addr} : H p = some (.ins C dx fs) → mg c = some (.ref C) → fs.map (·.1) = ns → VOs K mg G H (fs.map (·.2)) os as → VO K mg G H (.ref p) (.ins c ns os) (p :: as)
inductive VOs (K : PySem.W.Frag) (mg : Str → Option Value) (G H : Hp) : List V → List O → List Addr → Prop
  | nil : VOs K mg G H [] [] []
  | cons {v : V} {vs : List V} {o : O} {os : List O} {as bs : List Addr} : VO K mg G H v o as → VOs K mg G H vs os bs → VOs K mg G H (v :: vs) (o :: os) (as ++ bs)
end
inductive Item where
  | ov (v : V) (o : O)
  | raw (p : Addr) (h : HO)
  /-- a shared thing that is locked -/
  | pin (p : Addr) (od : Obj) (u : HO)
  /-- an item that knows nothing of what stands at d -/
  | but (d : Addr) (x : Item)
def ers (d : Addr) (G : Hp) : Hp := fun a => if a = d then none else G a
def hide (H : Hp) (A : List Addr) : Hp := fun a => if a ∈ A then none else H a
inductive IOk (K : PySem.W.Frag) (mg : Str → Option Value) : Hp → Hp → Item → List Addr → Prop
  | ov {G H : Hp} {v : V} {o : O} {as : List Addr} : VO K mg G H v o as → IOk K mg G H (.ov v o) as
  | raw {G H : Hp} {p : Addr} {h : HO} : H p = some h → IOk K mg G H (.raw p h) [p]
  | pin {G H : Hp} {p : Addr} {od : Obj} {u : HO} : G p = some (.frz od u) → IOk K mg G H (.pin p od u) []
  | but {G H : Hp} {d : Addr} {x : Item} {as : List Addr} : IOk K mg (ers d G) H x as → IOk K mg G H (.but d x) as
inductive IsOk (K : PySem.W.Frag) (mg : Str → Option Value) (G H : Hp) : List Item → List Addr → Prop
  | nil : IsOk K mg G H [] []
  | cons {x : Item} {L : List Item} {as bs : List Addr} : IOk K mg G H x as → IsOk K mg G H L bs → IsOk K mg G H (x :: L) (as ++ bs)
/-- the heap holds the items apart; B: what is borrowed from them, for the time being -/
def Rep (K : PySem.W.Frag) (mg : Str → Option Value) (H : Hp) (L : List Item) (B : List (V × O)) : Prop :=
  ∃ A : List Addr, A.Nodup ∧ IsOk K mg (hide H A) H L A ∧ ∀ b ∈ B, ∃ as, VO K mg (hide H A) H b.1 b.2 as ∧ ∀ a ∈ as, a ∈ A
def zipI (vs : List V) (os : List O) : List Item := List.zipWith Item.ov vs os
end
end FB

namespace FB
open PySem PySem.Spec L2
open PyProof.Rows hiding St

abbrev Env := List (Option O)
structure Exn where
  c : Str
  ns : List Str
  ds : List D
inductive Res (α : Type) where
  | ok (a : α) (ρ : Env)
  | exc (x : Exn) (ρ : Env)
  | no
abbrev M (α : Type) := Env → Res α
def pairs : St → Env → List Item
  | some v :: σ, some o :: ρ => .ov v o :: pairs σ ρ
  | _ :: σ, _ :: ρ => pairs σ ρ
  | _, _ => []
structure Cov (σ : St) (ρ : Env) : Prop where
  len : σ.length = ρ.length
  ex : ∀ (i : Nat) (o : O), ρ[i]? = some (some o) → ∃ v, σ[i]? = some (some v)
section
end
section
end

section
end

section
end
end FB

namespace FB
open PySem PySem.Spec L2
open PyProof.Rows hiding St

section
end

section
inductive Arg where
  | v (m : M O)
  | io (i : Nat)
end
end FB

namespace FB
open PySem PySem.Spec L2
open PyProof.Rows hiding St

section
variable {X : Cx} {K : PySem.W.Frag} {mg : Str → Option Value}
/-- an own class under its name, with the attributes that its instances may have -/
structure CO (K : PySem.W.Frag) (mg : Str → Option Value) (c : Str) (C : Addr) (fs : List Str) : Prop where
  mgc : mg c = some (.ref C)
  cl : Cls K C
  no : ∀ f ∈ fs, NoAttr K C f
end
end FB

namespace FB
open PySem PySem.Spec L2
open PyProof.Rows hiding St

section
/-- the items of an exception that is held -/
def ExI (x : Exn) (d : Option Addr) (I : List Item) : Prop := (x.ds = [] ∧ d = none ∧ I = []) ∨ ∃ dd vs, x.ds ≠ [] ∧ d = some dd ∧ vs.length = x.ds.length ∧ x.ns.length = x.ds.length ∧ I = .raw dd (.xd (x.ns.zip vs)) :: zipI vs (x.ds.map O.val)
end

section
variable {P : Program} {w : World} {K : PySem.W.Frag} {mg : Str → Option Value} {base : Heap}
/-- a def that may be called by its name -/
structure CalX (P : Program) (w : World) (K : PySem.W.Frag) (mg : Str → Option Value) (base : Heap) (k : Nat) (x : Str) (sp : Sp) : Prop where
  ex : ∃ (f : Addr) (fd : FuncData) (ps : List Str), FnOk P w K mg base (L2.CX P w) k f fd ps sp ∧ mg x = some (.ref f) ∧ PySem.W.keepIn K (.ref f) = true ∧ Binds K fd ps []
end
section
end
end FB

namespace FB
open PySem PySem.Spec L2
open PyProof.Rows hiding St

section
variable {X : Cx} {K : PySem.W.Frag} {mg : Str → Option Value} {P : List Nat} {W : WX}
variable {a : Addr} {i : Nat} {I : List Item}
variable {x : Exn} {cls : Value} {d : Option Addr} {oe : Obj} {pn : List (Addr × Obj)} {es : List Str}
/-- what a suite knows of the exception -/
structure Held (X : Cx) (es : List Str) (x : Exn) (I : List Item) (cls : Value) (d : Option Addr) (oe : Obj) : Prop where
  cl : X.mg x.c = some cls
  it : ExI x d I
  z : Zc cls d oe
  f : ∃ vs, oe.data = .fields vs
end

section
end

section
end
end FB

namespace FB
open PySem PySem.Spec L2
open PyProof.Rows hiding St

/-- the base whose __init__ is called -/
structure BaseC (K : PySem.W.Frag) (mg : Str → Option Value) (B : Str) : Prop where
  mg : mg B = some (.ref (He.ga K B))
  rd : PySem.W.readsIn K (He.ga K B) (.type "type") = true
  ga : PySem.W.specialIn K (.ref (He.ga K B)) "__getattribute__" = some (some (.builtin "type.__getattribute__"))
  at_ : PySem.W.findCls K (.ref (He.ga K B)) (.type "type") "__init__" = some (.val (.builtin "ValueError.__init__"))
structure OwnInit (K : PySem.W.Frag) (mg : Str → Option Value) (c : Str) (fs : List Str) : Prop where
  mg : mg c = some (.ref (He.ga K c))
  ox : OexC K (He.ga K c)
  ic : PySem.W.findIn K (.ref (He.ga K c)) "__init__" = some (some (.ref (He.ma K (He.ga K c) "__init__")))
  ti : PySem.W.typeIn K (.ref (He.ma K (He.ga K c) "__init__")) = some (.type "function")
  no : ∀ f ∈ fs, PySem.W.findIn K (.ref (He.ga K c)) f = some none
section
/-- what an own __init__ of these fields does -/
def spI (C : Addr) (fs : List Str) : Sp := fun vs H Q _ => ∃ a ws, vs = .ref a :: ws ∧ ws.length = fs.length ∧ H a = some (exo a C none) ∧
  ∀ d H2, H d = none → d ≠ a → H2 a = some (exo a C (some d)) → H2 d = some (exd d (fs.zip ws).reverse) → (∀ b, b ≠ a → b ≠ d → H2 b = H b) → Q .non H2
end
section
variable {P : Program} {w : World} {K : PySem.W.Frag} {mg : Str → Option Value} {base : Heap}
/-- an own error with fields that may be raised -/
structure MkX (P : Program) (w : World) (K : PySem.W.Frag) (mg : Str → Option Value) (base : Heap) (c : Str) (fs : List Str) : Prop where
  ow : OwnInit K mg c fs
  ex : ∃ (fd : FuncData) (ps : List Str), FnOk P w K mg base C8.CX0 1 (He.ma K (He.ga K c) "__init__") fd ps (spI (He.ga K c) fs) ∧ Binds K fd ps []
end
section
end
section
end
end FB

namespace FB
open PySem PySem.Spec L2
open PyProof.Rows hiding St
section
/-- the dict at d stands, locked or not -/
structure LkS (d : Addr) (kvs : List (Key × V)) (G G' : Hp) : Prop where
  ne : ∀ a, a ≠ d → G' a = G a
  rd : Rd G d (.dK kvs)
  rd' : Rd G' d (.dK kvs)
end
end FB

namespace FB
open PySem PySem.Spec L2
open PyProof.Rows hiding St
inductive All2 {α β : Type} (P : α → β → Prop) : List α → List β → Prop
  | nil : All2 P [] []
  | cons {x : α} {y : β} {xs : List α} {ys : List β} : P x y → All2 P xs ys → All2 P (x :: xs) (y :: ys)
end FB

namespace FB
open PySem PySem.Spec L2
open PyProof.Rows hiding St
section
variable {P : Program} {w : World} {K : PySem.W.Frag} {mg : Str → Option Value} {base : Heap}
/-- a class that may be made, its __init__ may raise -/
structure MakX (P : Program) (w : World) (K : PySem.W.Frag) (mg : Str → Option Value) (base : Heap) (k : Nat) (x : Str) (C : Addr) (sp : Sp) : Prop where
  ex : ∃ (f : Addr) (fd : FuncData) (ps : List Str), Mk K C f ∧ FnOk P w K mg base (L2.CX P w) k f fd ps sp ∧ mg x = some (.ref C) ∧ Binds K fd ps []
/-- .. a def with defaults -/
structure CalXN (P : Program) (w : World) (K : PySem.W.Frag) (mg : Str → Option Value) (base : Heap) (k : Nat) (x : Str) (sp : Sp) (dvs : List V) : Prop where
  ex : ∃ (f : Addr) (fd : FuncData) (ps : List Str) (ds : List Value), FnOk P w K mg base (L2.CX P w) k f fd ps sp ∧ mg x = some (.ref f) ∧ PySem.W.keepIn K (.ref f) = true ∧ Binds K fd ps ds ∧ Vals dvs ds
end
section
end
end FB

namespace FB
open PySem PySem.Spec L2
open PyProof.Rows hiding St
section
variable {P : Program} {w : World} {K : PySem.W.Frag} {mg : Str → Option Value} {base : Heap}
/-- a method that may raise -/
structure MetX (P : Program) (w : World) (K : PySem.W.Frag) (mg : Str → Option Value) (base : Heap) (k : Nat) (C : Addr) (m : Str) (sp : Sp) : Prop where
  ex : ∃ (f : Addr) (fd : FuncData) (ps : List Str), Cls K C ∧ Meth K C m f ∧ FnOk P w K mg base (L2.CX P w) k f fd ps sp ∧ Binds K fd ps []
end
section
end
end FB
namespace FB
open PySem PySem.Spec L2
open PyProof.Rows hiding St
section
end
end FB

namespace FB
open PySem PySem.Spec L2
open PyProof.Rows hiding St
section
variable {X : Cx} {K : PySem.W.Frag} {mg : Str → Option Value}
/-- a step down an own tree -/
inductive Stp where
  | fld (c f : Str)
  | key (k : Key)
inductive PathV (mg : Str → Option Value) (H : Hp) : V → List Stp → V → Prop
  | nil {v : V} : PathV mg H v [] v
  | fld {p C dx : Addr} {fs : List (Str × V)} {c f : Str} {u w : V} {ps : List Stp} : mg c = some (.ref C) → H p = some (.ins C dx fs) → fs.lookup f = some u → PathV mg H u ps w → PathV mg H (.ref p) (.fld c f :: ps) w
  | key {p : Addr} {kvs : List (Key × V)} {k : Key} {u w : V} {ps : List Stp} : H p = some (.dK kvs) → valV kvs k = some u → PathV mg H u ps w → PathV mg H (.ref p) (.key k :: ps) w
end
section
end
end FB

namespace FB
open PySem PySem.Spec L2
open PyProof.Rows hiding St
section
variable {X : Cx} {K : PySem.W.Frag} {mg : Str → Option Value}
def tKvs (K : PySem.W.Frag) (mg : Str → Option Value) (ks : List Str) (m : M (List O)) : L2.St → Hp → (List (V × V) → Hp → Prop) → Prop := fun σ H Q => ∃ ρ T os ρ', Cov σ ρ ∧ Rep K mg H (pairs σ ρ ++ T) [] ∧ m ρ = .ok os ρ' ∧ os.length = ks.length ∧ ∀ vs H', Cov σ ρ' → vs.length = os.length → Rep K mg H' (zipI vs os ++ (pairs σ ρ' ++ T)) [] → Q ((ks.map V.str).zip vs) H'
structure SDs (X : Cx) (pos : Pos) (keys : List (Option Expr)) (values : List Expr) (ks : List Str) (m : M (List O)) : Prop where
  tr : ∃ trs, PPs X pos keys values trs ∧ ∀ (σ : L2.St) (H : Hp) (Q : List (V × V) → Hp → Prop), tKvs X.K X.mg ks m σ H Q → tPairs trs σ H Q
  all : keys.all (·.isSome) = true
  len : keys.length = values.length
end
end FB

namespace Wk
open PySem PySem.Spec L2 FB
open PyProof.Rows hiding St
def top (i : Nat) : Stmt := PySem.Challenge.pw_fuseboard_k95_whole_parted_or_shown.main.body.getD i (.Pass ⟨0, 0, 0, 0⟩)
abbrev s_guards_of : Stmt := top 9
abbrev s_loads_of : Stmt := top 10
abbrev s_chain : Stmt := top 11
abbrev s_over : Stmt := top 12
abbrev s_draws : Stmt := top 14
abbrev s_rest : Stmt := top 15
abbrev s_least_of : Stmt := top 1
abbrev s_awake : Stmt := top 16
abbrev s_loud : Stmt := top 17
abbrev s_ask_quiet : Stmt := top 19
abbrev s_is_off : Stmt := top 20
abbrev s_Way___init__ : Stmt := (C8.clsBody (top 21)).getD 0 (.Pass ⟨0, 0, 0, 0⟩)
abbrev s_stuck_list : Stmt := top 22
abbrev s_Way_lows : Stmt := (C8.clsBody (top 21)).getD 1 (.Pass ⟨0, 0, 0, 0⟩)
abbrev s_met : Stmt := top 2
abbrev s_turns_at : Stmt := top 3
abbrev s_Way_turns : Stmt := (C8.clsBody (top 21)).getD 2 (.Pass ⟨0, 0, 0, 0⟩)
abbrev s_Way_is_held : Stmt := (C8.clsBody (top 21)).getD 3 (.Pass ⟨0, 0, 0, 0⟩)
abbrev s_Way_opening : Stmt := (C8.clsBody (top 21)).getD 4 (.Pass ⟨0, 0, 0, 0⟩)
abbrev s_map_of : Stmt := top 23
abbrev s_nearest : Stmt := top 25
abbrev s_unparted : Stmt := top 26
abbrev s_parted : Stmt := top 27
abbrev s__law_cell_at : Stmt := top 29
abbrev s__law_feed : Stmt := top 30
abbrev s__law_take : Stmt := top 31
abbrev s__law_names : Stmt := top 32
abbrev s__law_lifted : Stmt := top 35
abbrev s__law_overs : Stmt := top 33
abbrev s__law_rest : Stmt := top 36
abbrev s__law_small_curve : Stmt := top 34
abbrev s__law_small_guards : Stmt := top 37
abbrev s__law_small_loads : Stmt := top 38
abbrev s__law_small_board : Stmt := top 39
abbrev s__law_loud : Stmt := top 51
abbrev s__law_places : Stmt := top 52
abbrev s__law_spread : Stmt := top 54
abbrev s__law_began : Stmt := top 40
abbrev s__law_is_fed : Stmt := top 41
abbrev s__law_settled : Stmt := top 42
abbrev s__law_did : Stmt := top 43
abbrev s__law_pull : Stmt := top 44
abbrev s__law_found : Stmt := top 45
abbrev s__law_more : Stmt := top 46
abbrev s__law_passed : Stmt := top 47
abbrev s__law_opens : Stmt := top 53
abbrev s__law_as_due : Stmt := top 55
abbrev s__law_shown : Stmt := top 56
abbrev s_law : Stmt := top 57
section
end
def d_guards_of : He.DefD := ⟨("guards_of", none), "guards_of", "guards_of", C8.fnArgs s_guards_of, C8.fnBody s_guards_of, C8.fnScope s_guards_of, [], []⟩
def d_loads_of : He.DefD := ⟨("loads_of", none), "loads_of", "loads_of", C8.fnArgs s_loads_of, C8.fnBody s_loads_of, C8.fnScope s_loads_of, [], []⟩
def d_chain : He.DefD := ⟨("chain", none), "chain", "chain", C8.fnArgs s_chain, C8.fnBody s_chain, C8.fnScope s_chain, [], []⟩
def d_over : He.DefD := ⟨("over", none), "over", "over", C8.fnArgs s_over, C8.fnBody s_over, C8.fnScope s_over, [], []⟩
def d_draws : He.DefD := ⟨("draws", none), "draws", "draws", C8.fnArgs s_draws, C8.fnBody s_draws, C8.fnScope s_draws, [], []⟩
def d_rest : He.DefD := ⟨("rest", none), "rest", "rest", C8.fnArgs s_rest, C8.fnBody s_rest, C8.fnScope s_rest, [], []⟩
def d_least_of : He.DefD := ⟨("least_of", none), "least_of", "least_of", C8.fnArgs s_least_of, C8.fnBody s_least_of, C8.fnScope s_least_of, [], []⟩
def d_awake : He.DefD := ⟨("awake", none), "awake", "awake", C8.fnArgs s_awake, C8.fnBody s_awake, C8.fnScope s_awake, [], []⟩
def d_loud : He.DefD := ⟨("loud", none), "loud", "loud", C8.fnArgs s_loud, C8.fnBody s_loud, C8.fnScope s_loud, [], []⟩
def d_ask_quiet : He.DefD := ⟨("ask_quiet", none), "ask_quiet", "ask_quiet", C8.fnArgs s_ask_quiet, C8.fnBody s_ask_quiet, C8.fnScope s_ask_quiet, [], []⟩
def d_is_off : He.DefD := ⟨("is_off", none), "is_off", "is_off", C8.fnArgs s_is_off, C8.fnBody s_is_off, C8.fnScope s_is_off, [], []⟩
def d_Way___init__ : He.DefD := ⟨("Way", some "__init__"), "__init__", "Way.__init__", C8.fnArgs s_Way___init__, C8.fnBody s_Way___init__, C8.fnScope s_Way___init__, [], []⟩
def d_stuck_list : He.DefD := ⟨("stuck_list", none), "stuck_list", "stuck_list", C8.fnArgs s_stuck_list, C8.fnBody s_stuck_list, C8.fnScope s_stuck_list, [], []⟩
def d_Way_lows : He.DefD := ⟨("Way", some "lows"), "lows", "Way.lows", C8.fnArgs s_Way_lows, C8.fnBody s_Way_lows, C8.fnScope s_Way_lows, [], []⟩
def d_met : He.DefD := ⟨("met", none), "met", "met", C8.fnArgs s_met, C8.fnBody s_met, C8.fnScope s_met, [], []⟩
def d_turns_at : He.DefD := ⟨("turns_at", none), "turns_at", "turns_at", C8.fnArgs s_turns_at, C8.fnBody s_turns_at, C8.fnScope s_turns_at, [], []⟩
def d_Way_turns : He.DefD := ⟨("Way", some "turns"), "turns", "Way.turns", C8.fnArgs s_Way_turns, C8.fnBody s_Way_turns, C8.fnScope s_Way_turns, [], []⟩
def d_Way_is_held : He.DefD := ⟨("Way", some "is_held"), "is_held", "Way.is_held", C8.fnArgs s_Way_is_held, C8.fnBody s_Way_is_held, C8.fnScope s_Way_is_held, [], []⟩
def d_Way_opening : He.DefD := ⟨("Way", some "opening"), "opening", "Way.opening", C8.fnArgs s_Way_opening, C8.fnBody s_Way_opening, C8.fnScope s_Way_opening, [], []⟩
def d_map_of : He.DefD := ⟨("map_of", none), "map_of", "map_of", C8.fnArgs s_map_of, C8.fnBody s_map_of, C8.fnScope s_map_of, [.non], []⟩
def d_nearest : He.DefD := ⟨("nearest", none), "nearest", "nearest", C8.fnArgs s_nearest, C8.fnBody s_nearest, C8.fnScope s_nearest, [], []⟩
def d_unparted : He.DefD := ⟨("unparted", none), "unparted", "unparted", C8.fnArgs s_unparted, C8.fnBody s_unparted, C8.fnScope s_unparted, [.non], []⟩
def d_parted : He.DefD := ⟨("parted", none), "parted", "parted", C8.fnArgs s_parted, C8.fnBody s_parted, C8.fnScope s_parted, [.non], []⟩
def d__law_cell_at : He.DefD := ⟨("_law_cell_at", none), "_law_cell_at", "_law_cell_at", C8.fnArgs s__law_cell_at, C8.fnBody s__law_cell_at, C8.fnScope s__law_cell_at, [], []⟩
def d__law_feed : He.DefD := ⟨("_law_feed", none), "_law_feed", "_law_feed", C8.fnArgs s__law_feed, C8.fnBody s__law_feed, C8.fnScope s__law_feed, [], []⟩
def d__law_take : He.DefD := ⟨("_law_take", none), "_law_take", "_law_take", C8.fnArgs s__law_take, C8.fnBody s__law_take, C8.fnScope s__law_take, [], []⟩
def d__law_names : He.DefD := ⟨("_law_names", none), "_law_names", "_law_names", C8.fnArgs s__law_names, C8.fnBody s__law_names, C8.fnScope s__law_names, [], []⟩
def d__law_lifted : He.DefD := ⟨("_law_lifted", none), "_law_lifted", "_law_lifted", C8.fnArgs s__law_lifted, C8.fnBody s__law_lifted, C8.fnScope s__law_lifted, [], []⟩
def d__law_overs : He.DefD := ⟨("_law_overs", none), "_law_overs", "_law_overs", C8.fnArgs s__law_overs, C8.fnBody s__law_overs, C8.fnScope s__law_overs, [], []⟩
def d__law_rest : He.DefD := ⟨("_law_rest", none), "_law_rest", "_law_rest", C8.fnArgs s__law_rest, C8.fnBody s__law_rest, C8.fnScope s__law_rest, [], []⟩
def d__law_small_curve : He.DefD := ⟨("_law_small_curve", none), "_law_small_curve", "_law_small_curve", C8.fnArgs s__law_small_curve, C8.fnBody s__law_small_curve, C8.fnScope s__law_small_curve, [], []⟩
def d__law_small_guards : He.DefD := ⟨("_law_small_guards", none), "_law_small_guards", "_law_small_guards", C8.fnArgs s__law_small_guards, C8.fnBody s__law_small_guards, C8.fnScope s__law_small_guards, [], []⟩
def d__law_small_loads : He.DefD := ⟨("_law_small_loads", none), "_law_small_loads", "_law_small_loads", C8.fnArgs s__law_small_loads, C8.fnBody s__law_small_loads, C8.fnScope s__law_small_loads, [], []⟩
def d__law_small_board : He.DefD := ⟨("_law_small_board", none), "_law_small_board", "_law_small_board", C8.fnArgs s__law_small_board, C8.fnBody s__law_small_board, C8.fnScope s__law_small_board, [], []⟩
def d__law_loud : He.DefD := ⟨("_law_loud", none), "_law_loud", "_law_loud", C8.fnArgs s__law_loud, C8.fnBody s__law_loud, C8.fnScope s__law_loud, [], []⟩
def d__law_places : He.DefD := ⟨("_law_places", none), "_law_places", "_law_places", C8.fnArgs s__law_places, C8.fnBody s__law_places, C8.fnScope s__law_places, [], []⟩
def d__law_spread : He.DefD := ⟨("_law_spread", none), "_law_spread", "_law_spread", C8.fnArgs s__law_spread, C8.fnBody s__law_spread, C8.fnScope s__law_spread, [], []⟩
def d__law_began : He.DefD := ⟨("_law_began", none), "_law_began", "_law_began", C8.fnArgs s__law_began, C8.fnBody s__law_began, C8.fnScope s__law_began, [], []⟩
def d__law_is_fed : He.DefD := ⟨("_law_is_fed", none), "_law_is_fed", "_law_is_fed", C8.fnArgs s__law_is_fed, C8.fnBody s__law_is_fed, C8.fnScope s__law_is_fed, [], []⟩
def d__law_settled : He.DefD := ⟨("_law_settled", none), "_law_settled", "_law_settled", C8.fnArgs s__law_settled, C8.fnBody s__law_settled, C8.fnScope s__law_settled, [], []⟩
def d__law_did : He.DefD := ⟨("_law_did", none), "_law_did", "_law_did", C8.fnArgs s__law_did, C8.fnBody s__law_did, C8.fnScope s__law_did, [], []⟩
def d__law_pull : He.DefD := ⟨("_law_pull", none), "_law_pull", "_law_pull", C8.fnArgs s__law_pull, C8.fnBody s__law_pull, C8.fnScope s__law_pull, [], []⟩
def d__law_found : He.DefD := ⟨("_law_found", none), "_law_found", "_law_found", C8.fnArgs s__law_found, C8.fnBody s__law_found, C8.fnScope s__law_found, [], []⟩
def d__law_more : He.DefD := ⟨("_law_more", none), "_law_more", "_law_more", C8.fnArgs s__law_more, C8.fnBody s__law_more, C8.fnScope s__law_more, [], []⟩
def d__law_passed : He.DefD := ⟨("_law_passed", none), "_law_passed", "_law_passed", C8.fnArgs s__law_passed, C8.fnBody s__law_passed, C8.fnScope s__law_passed, [], []⟩
def d__law_opens : He.DefD := ⟨("_law_opens", none), "_law_opens", "_law_opens", C8.fnArgs s__law_opens, C8.fnBody s__law_opens, C8.fnScope s__law_opens, [], []⟩
def d__law_as_due : He.DefD := ⟨("_law_as_due", none), "_law_as_due", "_law_as_due", C8.fnArgs s__law_as_due, C8.fnBody s__law_as_due, C8.fnScope s__law_as_due, [], []⟩
def d__law_shown : He.DefD := ⟨("_law_shown", none), "_law_shown", "_law_shown", C8.fnArgs s__law_shown, C8.fnBody s__law_shown, C8.fnScope s__law_shown, [], []⟩
def d_law : He.DefD := ⟨("law", none), "law", "law", C8.fnArgs s_law, C8.fnBody s_law, C8.fnScope s_law, [], []⟩
def fn : List He.DefD := [d_guards_of, d_loads_of, d_chain, d_over, d_draws, d_rest, d_least_of, d_awake, d_loud, d_ask_quiet, d_is_off, d_Way___init__, d_stuck_list, d_Way_lows, d_met, d_turns_at, d_Way_turns, d_Way_is_held, d_Way_opening, d_map_of, d_nearest, d_unparted, d_parted, d__law_cell_at, d__law_feed, d__law_take, d__law_names, d__law_lifted, d__law_overs, d__law_rest, d__law_small_curve, d__law_small_guards, d__law_small_loads, d__law_small_board, d__law_loud, d__law_places, d__law_spread, d__law_began, d__law_is_fed, d__law_settled, d__law_did, d__law_pull, d__law_found, d__law_more, d__law_passed, d__law_opens, d__law_as_due, d__law_shown, d_law]
def fa : List He.Fa := [.glo "guards_of", .glo "loads_of", .glo "chain", .glo "over", .glo "draws", .glo "rest", .glo "least_of", .glo "awake", .glo "loud", .glo "ask_quiet", .glo "is_off", .mkr "Way", .glo "stuck_list", .meth "Way" "lows", .glo "met", .glo "turns_at", .meth "Way" "turns", .meth "Way" "is_held", .meth "Way" "opening", .glo "map_of", .glo "nearest", .glo "unparted", .glo "parted", .glo "_law_cell_at", .glo "_law_feed", .glo "_law_take", .glo "_law_names", .glo "_law_lifted", .glo "_law_overs", .glo "_law_rest", .glo "_law_small_curve", .glo "_law_small_guards", .glo "_law_small_loads", .glo "_law_small_board", .glo "_law_loud", .glo "_law_places", .glo "_law_spread", .glo "_law_began", .glo "_law_is_fed", .glo "_law_settled", .glo "_law_did", .glo "_law_pull", .glo "_law_found", .glo "_law_more", .glo "_law_passed", .glo "_law_opens", .glo "_law_as_due", .glo "_law_shown", .glo "law", .free "all", .free "any", .free "dict", .free "enumerate", .free "int", .free "len", .free "list", .free "range", .free "sorted", .free "tuple", .free "zip", .glo "Way", .cls "Way", .noat "Way" "guards", .noat "Way" "idle", .noat "Way" "found"]
abbrev R : PySem.W.OpenRow := PySem.W.OpenLaw.row PySem.Challenge.rw_fuseboard_k95_whole_parted_or_shown
def hk : PySem.W.Hook := He.hookD 6 fa fn
def ob (s : PySem.W.SharedT) : He.AlD := He.obsDG 6 fa fn (HandSHeadRun.getT s)
def loose : List PySem.Str := ([("__name__" : PySem.Str), ("least_of" : PySem.Str), ("met" : PySem.Str), ("turns_at" : PySem.Str), ("BoardError" : PySem.Str), ("Loud" : PySem.Str), ("NoPlace" : PySem.Str), ("guards_of" : PySem.Str), ("loads_of" : PySem.Str), ("chain" : PySem.Str), ("over" : PySem.Str), ("draws" : PySem.Str), ("rest" : PySem.Str), ("awake" : PySem.Str), ("loud" : PySem.Str), ("ask_quiet" : PySem.Str), ("is_off" : PySem.Str), ("Way" : PySem.Str), ("stuck_list" : PySem.Str), ("map_of" : PySem.Str), ("nearest" : PySem.Str), ("unparted" : PySem.Str), ("parted" : PySem.Str), ("_law_cell_at" : PySem.Str), ("_law_feed" : PySem.Str), ("_law_take" : PySem.Str), ("_law_names" : PySem.Str), ("_law_overs" : PySem.Str), ("_law_small_curve" : PySem.Str), ("_law_lifted" : PySem.Str), ("_law_rest" : PySem.Str), ("_law_small_guards" : PySem.Str), ("_law_small_loads" : PySem.Str), ("_law_small_board" : PySem.Str), ("_law_began" : PySem.Str), ("_law_is_fed" : PySem.Str), ("_law_settled" : PySem.Str), ("_law_did" : PySem.Str), ("_law_pull" : PySem.Str), ("_law_found" : PySem.Str)] : List PySem.Str) ++ ([("rest" : PySem.Str), ("awake" : PySem.Str), ("loud" : PySem.Str), ("ask_quiet" : PySem.Str), ("is_off" : PySem.Str), ("Way" : PySem.Str), ("stuck_list" : PySem.Str), ("map_of" : PySem.Str), ("nearest" : PySem.Str), ("unparted" : PySem.Str), ("parted" : PySem.Str), ("_law_cell_at" : PySem.Str), ("_law_feed" : PySem.Str), ("_law_take" : PySem.Str), ("_law_names" : PySem.Str), ("_law_overs" : PySem.Str), ("_law_small_curve" : PySem.Str), ("_law_lifted" : PySem.Str), ("_law_rest" : PySem.Str), ("_law_small_guards" : PySem.Str), ("_law_small_loads" : PySem.Str), ("_law_small_board" : PySem.Str), ("_law_began" : PySem.Str), ("_law_is_fed" : PySem.Str), ("_law_settled" : PySem.Str), ("_law_did" : PySem.Str), ("_law_pull" : PySem.Str), ("_law_found" : PySem.Str), ("_law_more" : PySem.Str), ("_law_passed" : PySem.Str), ("_law_path" : PySem.Str), ("_law_opening" : PySem.Str), ("_law_lows" : PySem.Str), ("_law_loud" : PySem.Str), ("_law_places" : PySem.Str), ("_law_opens" : PySem.Str), ("_law_spread" : PySem.Str), ("_law_as_due" : PySem.Str), ("_law_shown" : PySem.Str)] : List PySem.Str) ++ ([("_law_feed" : PySem.Str), ("_law_take" : PySem.Str), ("_law_names" : PySem.Str), ("_law_overs" : PySem.Str), ("_law_small_curve" : PySem.Str), ("_law_lifted" : PySem.Str), ("_law_rest" : PySem.Str), ("_law_small_guards" : PySem.Str), ("_law_small_loads" : PySem.Str), ("_law_small_board" : PySem.Str), ("_law_began" : PySem.Str), ("_law_is_fed" : PySem.Str), ("_law_settled" : PySem.Str), ("_law_did" : PySem.Str), ("_law_pull" : PySem.Str), ("_law_found" : PySem.Str), ("_law_more" : PySem.Str), ("_law_passed" : PySem.Str), ("_law_path" : PySem.Str), ("_law_opening" : PySem.Str), ("_law_lows" : PySem.Str), ("_law_loud" : PySem.Str), ("_law_places" : PySem.Str), ("_law_opens" : PySem.Str), ("_law_spread" : PySem.Str), ("_law_as_due" : PySem.Str), ("_law_shown" : PySem.Str)] : List PySem.Str) ++ ([("_law_settled" : PySem.Str), ("_law_did" : PySem.Str), ("_law_pull" : PySem.Str), ("_law_found" : PySem.Str), ("_law_more" : PySem.Str), ("_law_passed" : PySem.Str), ("_law_path" : PySem.Str), ("_law_opening" : PySem.Str), ("_law_lows" : PySem.Str), ("_law_loud" : PySem.Str), ("_law_places" : PySem.Str), ("_law_opens" : PySem.Str), ("_law_spread" : PySem.Str), ("_law_as_due" : PySem.Str), ("_law_shown" : PySem.Str)] : List PySem.Str) ++ ([("_law_spread" : PySem.Str), ("_law_as_due" : PySem.Str), ("_law_shown" : PySem.Str)] : List PySem.Str)
theorem run (w : World) : HandSHeadRun.RunEq R (PySem.W.view R.prog [57]) hk ob 12000 loose w := by
  intro os
  kernel_rfl
end Wk

/-! Data trees (D: shared, never changed; O: owned, may be changed) and what it means that a heap holds them. -/
namespace FB
open PySem PySem.Spec L2
open PyProof.Rows hiding St

mutual
def O.toD : O → D
  | .val d => d
  | .lst os => .lst (O.toDs os)
  | .dct ks os => .dct ks (O.toDs os)
  | .ins c ns os => .ins c ns (O.toDs os)
def O.toDs : List O → List D
  | [] => []
  | o :: os => o.toD :: O.toDs os
end
theorem toDs_map : ∀ os : List O, O.toDs os = os.map O.toD
  | [] => rfl
  | o :: os => by show o.toD :: O.toDs os = _; rw [toDs_map os]; rfl
theorem toDs_vals : ∀ ds : List D, O.toDs (ds.map O.val) = ds
  | [] => rfl
  | d :: ds => by show d :: O.toDs (ds.map O.val) = _; rw [toDs_vals ds]

/-! ### what a heap shows -/

theorem sameNew {H : Hp} {p : Addr} {o : HO} (h : H p = none) : Same H (upd H p o) := fun a u e => by rw [upd_ne (ne_of_none e h)]; exact e
theorem Same.rd {H H' : Hp} {a : Addr} {u : HO} (e : Same H H') (h : Rd H a u) : Rd H' a u := by
  rcases h with h | ⟨o, h⟩
  · exact .inl (e _ _ h)
  · exact .inr ⟨o, e _ _ h⟩
theorem Same.seqT {K : PySem.W.Frag} {H H' : Hp} {a : Addr} {xs : List V} (e : Same H H') (h : SqT K H a xs) : SqT K H' a xs := by
  rcases h with h | h
  · exact .inl (FB.Same.rd e h)
  · exact .inr h

section
variable {K : PySem.W.Frag} {mg : Str → Option Value}
mutual
theorem Vw.mono {G G' : Hp} (e : Same G G') : ∀ {v : V} {d : D}, Vw K mg G v d → Vw K mg G' v d
  | _, _, .non => .non
  | _, _, .bl b => .bl b
  | _, _, .int i => .int i
  | _, _, .str s h => .str s h
  | _, _, .tup h hs => .tup (FB.Same.seqT e h) (Vws.mono e hs)
  | _, _, .lst h hs => .lst (FB.Same.rd e h) (Vws.mono e hs)
  | _, _, .scr h => .scr (Same.seq e h)
  | _, _, .fn h => .fn h
  | _, _, .dct h hk hs => .dct (FB.Same.rd e h) hk (Vws.mono e hs)
  | _, _, .ins h hm hn hs => .ins (e _ _ h) hm hn (Vws.mono e hs)
theorem Vws.mono {G G' : Hp} (e : Same G G') : ∀ {vs : List V} {ds : List D}, Vws K mg G vs ds → Vws K mg G' vs ds
  | _, _, .nil => .nil
  | _, _, .cons h t => .cons (Vw.mono e h) (Vws.mono e t)
end
theorem Vws.length {G : Hp} : ∀ {vs : List V} {ds : List D}, Vws K mg G vs ds → vs.length = ds.length
  | _, _, .nil => rfl
  | _, _, .cons _ t => by simp [Vws.length t]
theorem Vws.get {G : Hp} : ∀ {vs : List V} {ds : List D} {i : Nat} {d : D}, Vws K mg G vs ds → ds[i]? = some d → ∃ v, vs[i]? = some v ∧ Vw K mg G v d
  | _, _, _, _, .nil, e => by simp at e
  | _, _, 0, _, .cons h _, e => by simp at e; subst e; exact ⟨_, rfl, h⟩
  | _, _, i + 1, _, .cons _ t, e => by
    obtain ⟨v, h1, h2⟩ := Vws.get (i := i) t (by simpa using e)
    exact ⟨v, by simpa using h1, h2⟩
theorem Vws.getV {G : Hp} : ∀ {vs : List V} {ds : List D} {i : Nat} {v : V}, Vws K mg G vs ds → vs[i]? = some v → ∃ d, ds[i]? = some d ∧ Vw K mg G v d
  | _, _, _, _, .nil, e => by simp at e
  | _, _, 0, _, .cons h _, e => by simp at e; subst e; exact ⟨_, rfl, h⟩
  | _, _, i + 1, _, .cons _ t, e => by
    obtain ⟨v, h1, h2⟩ := Vws.getV (i := i) t (by simpa using e)
    exact ⟨v, by simpa using h1, h2⟩
theorem Vws.append {G : Hp} : ∀ {vs ws : List V} {ds es : List D}, Vws K mg G vs ds → Vws K mg G ws es → Vws K mg G (vs ++ ws) (ds ++ es)
  | _, _, _, _, .nil, h => h
  | _, _, _, _, .cons h t, q => .cons h (Vws.append t q)
theorem Vws.take {G : Hp} : ∀ {vs : List V} {ds : List D} (n : Nat), Vws K mg G vs ds → Vws K mg G (vs.take n) (ds.take n)
  | _, _, 0, _ => by simp; exact .nil
  | _, _, _ + 1, .nil => .nil
  | _, _, n + 1, .cons h t => .cons h (Vws.take n t)
theorem Vws.drop {G : Hp} : ∀ {vs : List V} {ds : List D} (n : Nat), Vws K mg G vs ds → Vws K mg G (vs.drop n) (ds.drop n)
  | _, _, 0, h => h
  | _, _, _ + 1, .nil => .nil
  | _, _, n + 1, .cons _ t => Vws.drop n t
theorem Vws.reverse {G : Hp} : ∀ {vs : List V} {ds : List D}, Vws K mg G vs ds → Vws K mg G vs.reverse ds.reverse
  | _, _, .nil => .nil
  | _, _, .cons h t => by
    rw [List.reverse_cons, List.reverse_cons]
    exact Vws.append (Vws.reverse t) (.cons h .nil)
theorem Vws.set {G : Hp} {x : V} {e : D} (h : Vw K mg G x e) : ∀ {vs : List V} {ds : List D} (n : Nat), Vws K mg G vs ds → Vws K mg G (vs.set n x) (ds.set n e)
  | _, _, _, .nil => .nil
  | _, _, 0, .cons _ t => .cons h t
  | _, _, n + 1, .cons q t => .cons q (Vws.set h n t)
theorem Vws.ints {G : Hp} : ∀ ns : List Int, Vws K mg G (ns.map V.int) (ns.map D.int)
  | [] => .nil
  | n :: ns => .cons (.int n) (Vws.ints ns)

/-! ### owned trees -/
mutual
theorem VO.mono {G G' H H' : Hp} (e : Same G G') : ∀ {v : V} {o : O} {as : List Addr}, VO K mg G H v o as → (∀ a ∈ as, H' a = H a) → VO K mg G' H' v o as
  | _, _, _, .val h, _ => .val (h.mono e)
  | _, _, _, .lst h hs, q => .lst ((q _ (by simp)).trans h) (VOs.mono e hs fun a ha => q a (by simp [ha]))
  | _, _, _, .dct h hk hs, q => .dct ((q _ (by simp)).trans h) hk (VOs.mono e hs fun a ha => q a (by simp [ha]))
  | _, _, _, .ins h hm hn hs, q => .ins ((q _ (by simp)).trans h) hm hn (VOs.mono e hs fun a ha => q a (by simp [ha]))
theorem VOs.mono {G G' H H' : Hp} (e : Same G G') : ∀ {vs : List V} {os : List O} {as : List Addr}, VOs K mg G H vs os as → (∀ a ∈ as, H' a = H a) → VOs K mg G' H' vs os as
  | _, _, _, .nil, _ => .nil
  | _, _, _, .cons h t, q => .cons (VO.mono e h fun a ha => q a (by simp [ha])) (VOs.mono e t fun a ha => q a (by simp [ha]))
end
mutual
theorem VO.frz {G G' H : Hp} (e : Same G G') : ∀ {v : V} {o : O} {as : List Addr}, VO K mg G H v o as → (∀ a ∈ as, G' a = H a) → Vw K mg G' v o.toD
  | _, _, _, .val h, _ => h.mono e
  | _, _, _, .lst h hs, q => .lst (.inl ((q _ (by simp)).trans h)) (VOs.frz e hs fun a ha => q a (by simp [ha]))
  | _, _, _, .dct h hk hs, q => .dct (.inl ((q _ (by simp)).trans h)) hk (VOs.frz e hs fun a ha => q a (by simp [ha]))
  | _, _, _, .ins h hm hn hs, q => .ins ((q _ (by simp)).trans h) hm hn (VOs.frz e hs fun a ha => q a (by simp [ha]))
theorem VOs.frz {G G' H : Hp} (e : Same G G') : ∀ {vs : List V} {os : List O} {as : List Addr}, VOs K mg G H vs os as → (∀ a ∈ as, G' a = H a) → Vws K mg G' vs (O.toDs os)
  | _, _, _, .nil, _ => .nil
  | _, _, _, .cons h t, q => .cons (VO.frz e h fun a ha => q a (by simp [ha])) (VOs.frz e t fun a ha => q a (by simp [ha]))
end
mutual
theorem VO.dom {G H : Hp} : ∀ {v : V} {o : O} {as : List Addr}, VO K mg G H v o as → ∀ a ∈ as, ∃ u, H a = some u
  | _, _, _, .val _, a, ha => by simp at ha
  | _, _, _, .lst h hs, a, ha => by
    rcases List.mem_cons.mp ha with e | ha
    · exact ⟨_, e ▸ h⟩
    · exact VOs.dom hs a ha
  | _, _, _, .dct h hk hs, a, ha => by
    rcases List.mem_cons.mp ha with e | ha
    · exact ⟨_, e ▸ h⟩
    · exact VOs.dom hs a ha
  | _, _, _, .ins h hm hn hs, a, ha => by
    rcases List.mem_cons.mp ha with e | ha
    · exact ⟨_, e ▸ h⟩
    · exact VOs.dom hs a ha
theorem VOs.dom {G H : Hp} : ∀ {vs : List V} {os : List O} {as : List Addr}, VOs K mg G H vs os as → ∀ a ∈ as, ∃ u, H a = some u
  | _, _, _, .nil, a, ha => by simp at ha
  | _, _, _, .cons h t, a, ha => by
    rcases List.mem_append.mp ha with ha | ha
    · exact VO.dom h a ha
    · exact VOs.dom t a ha
end
theorem VOs.length {G H : Hp} : ∀ {vs : List V} {os : List O} {as : List Addr}, VOs K mg G H vs os as → vs.length = os.length
  | _, _, _, .nil => rfl
  | _, _, _, .cons _ t => by simp [VOs.length t]
theorem VOs.get {G H : Hp} : ∀ {vs : List V} {os : List O} {as : List Addr} {i : Nat} {o : O}, VOs K mg G H vs os as → os[i]? = some o → ∃ v bs, vs[i]? = some v ∧ VO K mg G H v o bs
  | _, _, _, _, _, .nil, e => by simp at e
  | _, _, _, 0, _, .cons h _, e => by simp at e; subst e; exact ⟨_, _, rfl, h⟩
  | _, _, _, i + 1, _, .cons _ t, e => by
    obtain ⟨v, bs, h1, h2⟩ := VOs.get (i := i) t (by simpa using e)
    exact ⟨v, bs, by simpa using h1, h2⟩
theorem VOs.vals {G H : Hp} : ∀ {vs : List V} {ds : List D}, Vws K mg G vs ds → VOs K mg G H vs (ds.map O.val) []
  | _, _, .nil => .nil
  | _, _, .cons h t => .cons (as := []) (.val h) (VOs.vals t)
theorem VOs.of_vals {G H : Hp} : ∀ {vs : List V} {ds : List D} {as : List Addr}, VOs K mg G H vs (ds.map O.val) as → Vws K mg G vs ds ∧ as = []
  | _, [], _, .nil => ⟨.nil, rfl⟩
  | _, d :: ds, _, .cons (.val h) t => by
    obtain ⟨q, e⟩ := VOs.of_vals (ds := ds) t
    subst e
    exact ⟨.cons h q, rfl⟩

/-! ### items, and a heap that holds them apart -/
theorem ers_ne {d a : Addr} {G : Hp} (h : a ≠ d) : ers d G a = G a := if_neg h
theorem ers_some {d a : Addr} {G : Hp} {o : HO} (h : ers d G a = some o) : a ≠ d ∧ G a = some o := by
  by_cases e : a = d
  · unfold ers at h; rw [if_pos e] at h; cases h
  · exact ⟨e, by rw [ers_ne e] at h; exact h⟩
theorem ers_same {d : Addr} {G G' : Hp} (h : Same G G') : Same (ers d G) (ers d G') := fun a o e => by
  obtain ⟨h1, h2⟩ := ers_some e
  rw [ers_ne h1]; exact h _ _ h2
theorem hide_in {H : Hp} {A : List Addr} {a : Addr} (h : a ∈ A) : hide H A a = none := if_pos h
theorem hide_out {H : Hp} {A : List Addr} {a : Addr} (h : a ∉ A) : hide H A a = H a := if_neg h
theorem hide_some {H : Hp} {A : List Addr} {a : Addr} {o : HO} (h : hide H A a = some o) : a ∉ A ∧ H a = some o := by
  by_cases ha : a ∈ A
  · rw [hide_in ha] at h; cases h
  · exact ⟨ha, by rw [hide_out ha] at h; exact h⟩
theorem hide_same {H H' : Hp} {A A' : List Addr} (h : ∀ a o, a ∉ A → H a = some o → a ∉ A' ∧ H' a = some o) : Same (hide H A) (hide H' A') := fun a o e => by
  obtain ⟨h1, h2⟩ := hide_some e
  obtain ⟨h3, h4⟩ := h a o h1 h2
  rw [hide_out h3]; exact h4
theorem hide_sub {H : Hp} {A : List Addr} : Same (hide H A) H := fun a o e => (hide_some e).2
theorem hide_congr {H : Hp} {A B : List Addr} (h : ∀ a, a ∈ A ↔ a ∈ B) : hide H A = hide H B := by
  funext a
  unfold hide
  by_cases ha : a ∈ A
  · rw [if_pos ha, if_pos ((h a).mp ha)]
  · rw [if_neg ha, if_neg fun z => ha ((h a).mpr z)]

theorem IOk.mono {G G' H H' : Hp} (e : Same G G') {x : Item} {as : List Addr} (h : IOk K mg G H x as) (q : ∀ a ∈ as, H' a = H a) : IOk K mg G' H' x as := by
  induction h generalizing G' H' with
  | ov h => exact .ov (h.mono e q)
  | raw h => exact .raw ((q _ (by simp)).trans h)
  | pin h => exact .pin (e _ _ h)
  | but h ih => exact .but (ih (ers_same e) q)
theorem IsOk.mono {G G' H H' : Hp} (e : Same G G') : ∀ {L : List Item} {as : List Addr}, IsOk K mg G H L as → (∀ a ∈ as, H' a = H a) → IsOk K mg G' H' L as
  | _, _, .nil, _ => .nil
  | _, _, .cons h t, q => .cons (h.mono e fun a ha => q a (by simp [ha])) (IsOk.mono e t fun a ha => q a (by simp [ha]))
theorem IOk.dom {G H : Hp} {x : Item} {as : List Addr} (h : IOk K mg G H x as) : ∀ a ∈ as, ∃ u, H a = some u := by
  induction h with
  | ov h => exact h.dom
  | raw h => intro a ha; simp at ha; subst ha; exact ⟨_, h⟩
  | pin h => intro a ha; simp at ha
  | but h ih => exact ih
theorem IsOk.dom {G H : Hp} : ∀ {L : List Item} {as : List Addr}, IsOk K mg G H L as → ∀ a ∈ as, ∃ u, H a = some u
  | _, _, .nil, a, ha => by simp at ha
  | _, _, .cons h t, a, ha => by
    rcases List.mem_append.mp ha with ha | ha
    · exact h.dom a ha
    · exact IsOk.dom t a ha
theorem IsOk.append {G H : Hp} : ∀ {L M : List Item} {as bs : List Addr}, IsOk K mg G H L as → IsOk K mg G H M bs → IsOk K mg G H (L ++ M) (as ++ bs)
  | _, _, _, _, .nil, h => h
  | _, _, _, _, .cons (as := as) (bs := cs) h t, q => by
    rw [List.append_assoc]
    exact .cons h (IsOk.append t q)
theorem IsOk.split {G H : Hp} : ∀ {L M : List Item} {as : List Addr}, IsOk K mg G H (L ++ M) as → ∃ bs cs, as = bs ++ cs ∧ IsOk K mg G H L bs ∧ IsOk K mg G H M cs
  | [], M, as, h => ⟨[], as, rfl, .nil, h⟩
  | x :: L, M, _, .cons (as := as) h t => by
    obtain ⟨bs, cs, e, h1, h2⟩ := IsOk.split (L := L) t
    subst e
    exact ⟨as ++ bs, cs, (List.append_assoc _ _ _).symm, .cons h h1, h2⟩
theorem IsOk.perm {G H : Hp} {L L' : List Item} (p : L.Perm L') : ∀ {as : List Addr}, IsOk K mg G H L as → ∃ bs, as.Perm bs ∧ IsOk K mg G H L' bs := by
  induction p with
  | nil => intro as h; exact ⟨as, .refl _, h⟩
  | cons x _ ih =>
    intro as h
    cases h with
    | cons h t =>
      obtain ⟨bs, q, t'⟩ := ih t
      exact ⟨_, q.append_left _, .cons h t'⟩
  | swap x y L =>
    intro as h
    cases h with
    | cons h t =>
      cases t with
      | cons h2 t =>
        rename_i a1 a2 a3
        refine ⟨a2 ++ (a1 ++ a3), ?_, .cons h2 (.cons h t)⟩
        rw [← List.append_assoc, ← List.append_assoc]
        exact List.perm_append_comm.append_right _
  | trans _ _ ih1 ih2 =>
    intro as h
    obtain ⟨bs, q, h1⟩ := ih1 h
    obtain ⟨cs, q2, h2⟩ := ih2 h1
    exact ⟨cs, q.trans q2, h2⟩

variable {H H' : Hp} {L L' M : List Item} {B B' : List (V × O)}
theorem Rep.perm (h : Rep K mg H L B) (p : L.Perm L') : Rep K mg H L' B := by
  obtain ⟨A, nd, ok, hb⟩ := h
  obtain ⟨A', q, ok'⟩ := ok.perm p
  have e : hide H A = hide H A' := hide_congr fun a => q.mem_iff
  rw [e] at ok'
  refine ⟨A', q.nodup nd, ok', fun b hb' => ?_⟩
  obtain ⟨as, h1, h2⟩ := hb b hb'
  rw [e] at h1
  exact ⟨as, h1, fun a ha => q.mem_iff.mp (h2 a ha)⟩
theorem Rep.grow (h : Rep K mg H L B) (s : Same H H') : Rep K mg H' L B := by
  obtain ⟨A, nd, ok, hb⟩ := h
  have e : Same (hide H A) (hide H' A) := hide_same fun a o ha q => ⟨ha, s a o q⟩
  have ha : ∀ a ∈ A, H' a = H a := fun a ha => by
    obtain ⟨u, q⟩ := ok.dom a ha
    rw [q, s a u q]
  refine ⟨A, nd, ok.mono e ha, fun b hb' => ?_⟩
  obtain ⟨as, h1, h2⟩ := hb b hb'
  exact ⟨as, h1.mono e fun a q => ha a (h2 a q), h2⟩
theorem Rep.bsub (h : Rep K mg H L B) (s : ∀ b ∈ B', b ∈ B) : Rep K mg H L B' := by
  obtain ⟨A, nd, ok, hb⟩ := h
  exact ⟨A, nd, ok, fun b hb' => hb b (s b hb')⟩
theorem Rep.nob (h : Rep K mg H L B) : Rep K mg H L [] := h.bsub fun _ z => by simp at z
theorem Rep.bdrop {b : V × O} (h : Rep K mg H L (b :: B)) : Rep K mg H L B := h.bsub fun _ z => List.mem_cons_of_mem _ z
theorem Rep.drop {x : Item} (h : Rep K mg H (x :: L) []) : Rep K mg H L [] := by
  obtain ⟨A, nd, ok, hb⟩ := h
  cases ok with
  | cons h t =>
    rename_i as bs
    have e : Same (hide H (as ++ bs)) (hide H bs) := hide_same fun a o ha q => ⟨fun z => ha (by simp [z]), q⟩
    exact ⟨bs, (List.nodup_append.mp nd).2.1, t.mono e fun _ _ => rfl, fun _ z => by simp at z⟩
theorem Rep.frz {v : V} {o : O} (h : Rep K mg H (.ov v o :: L) []) : Rep K mg H (.ov v (.val o.toD) :: L) [] := by
  obtain ⟨A, nd, ok, hb⟩ := h
  cases ok with
  | cons h t =>
    rename_i as bs
    cases h with
    | ov h =>
      have e : Same (hide H (as ++ bs)) (hide H bs) := hide_same fun a o ha q => ⟨fun z => ha (by simp [z]), q⟩
      have dj := (List.nodup_append.mp nd).2.2
      refine ⟨bs, (List.nodup_append.mp nd).2.1, ?_, fun _ z => by simp at z⟩
      refine .cons (as := []) (.ov (.val (h.frz e fun a ha => ?_))) (t.mono e fun _ _ => rfl)
      exact hide_out fun z => dj a ha a z rfl
theorem Rep.lend {v : V} {o : O} (h : Rep K mg H (.ov v o :: L) B) : Rep K mg H (.ov v o :: L) ((v, o) :: B) := by
  obtain ⟨A, nd, ok, hb⟩ := h
  refine ⟨A, nd, ok, fun b q => ?_⟩
  rcases List.mem_cons.mp q with e | q
  · subst e
    cases ok with
    | cons h t =>
      cases h with
      | ov h => exact ⟨_, h, fun a ha => by simp [ha]⟩
  · exact hb b q
theorem Rep.keep {v : V} {d : D} (h : Rep K mg H L ((v, .val d) :: B)) : Rep K mg H (.ov v (.val d) :: L) B := by
  obtain ⟨A, nd, ok, hb⟩ := h
  obtain ⟨as, h1, _⟩ := hb _ (List.mem_cons_self ..)
  cases h1 with
  | val h1 => exact ⟨A, nd, .cons (as := []) (.ov (.val h1)) ok, fun b q => hb b (by simp [q])⟩
theorem Rep.scal {v : V} {d : D} (h : Rep K mg H L B) (hv : ∀ G, Vw K mg G v d) : Rep K mg H (.ov v (.val d) :: L) B := by
  obtain ⟨A, nd, ok, hb⟩ := h
  exact ⟨A, nd, .cons (as := []) (.ov (.val (hv _))) ok, hb⟩
theorem Rep.scalB {v : V} {d : D} (h : Rep K mg H L B) (hv : ∀ G, Vw K mg G v d) : Rep K mg H L ((v, .val d) :: B) := by
  obtain ⟨A, nd, ok, hb⟩ := h
  refine ⟨A, nd, ok, fun b q => ?_⟩
  rcases List.mem_cons.mp q with e | q
  · subst e; exact ⟨[], .val (hv _), by simp⟩
  · exact hb b q
theorem Rep.rawAt {p : Addr} {o : HO} (h : Rep K mg H (.raw p o :: L) B) : H p = some o := by
  obtain ⟨A, nd, ok, hb⟩ := h
  cases ok with
  | cons h t =>
    cases h with
    | raw h => exact h
theorem Rep.write {p : Addr} {o o' : HO} (h : Rep K mg H (.raw p o :: L) B) : Rep K mg (upd H p o') (.raw p o' :: L) [] := by
  obtain ⟨A, nd, ok, hb⟩ := h
  cases ok with
  | cons h t =>
    rename_i as bs
    cases h with
    | raw h =>
      have hp : p ∉ bs := (List.nodup_cons.mp nd).1
      have e : Same (hide H (p :: bs)) (hide (upd H p o') (p :: bs)) := hide_same fun a u ha q => ⟨ha, by rw [upd_ne fun z => ha (by simp [z])]; exact q⟩
      refine ⟨p :: bs, nd, .cons (as := [p]) (.raw upd_same) (t.mono e fun a ha => ?_), fun _ z => by simp at z⟩
      exact upd_ne fun z => hp (z ▸ ha)
theorem Rep.new {p : Addr} {o : HO} (h : Rep K mg H L B) (hp : H p = none) : Rep K mg (upd H p o) (.raw p o :: L) B := by
  obtain ⟨A, nd, ok, hb⟩ := h
  have hA : p ∉ A := fun z => by
    obtain ⟨u, q⟩ := ok.dom p z
    rw [hp] at q; cases q
  have e : Same (hide H A) (hide (upd H p o) (p :: A)) := hide_same fun a u ha q => by
    have : a ≠ p := fun z => by rw [z, hp] at q; cases q
    exact ⟨by simp [this, ha], by rw [upd_ne this]; exact q⟩
  have hu : ∀ a ∈ A, upd H p o a = H a := fun a ha => upd_ne fun z => hA (z ▸ ha)
  refine ⟨p :: A, List.nodup_cons.mpr ⟨hA, nd⟩, .cons (as := [p]) (.raw upd_same) (ok.mono e hu), fun b q => ?_⟩
  obtain ⟨as, h1, h2⟩ := hb b q
  exact ⟨as, h1.mono e fun a ha => hu a (h2 a ha), fun a ha => by simp [h2 a ha]⟩

/-! ### opening and closing -/
theorem IsOk.zip {G : Hp} : ∀ {vs : List V} {os : List O} {as : List Addr}, VOs K mg G H vs os as → IsOk K mg G H (zipI vs os) as
  | _, _, _, .nil => .nil
  | _, _, _, .cons h t => .cons (.ov h) (IsOk.zip t)
theorem IsOk.unzip {G : Hp} : ∀ {vs : List V} {os : List O} {as : List Addr}, vs.length = os.length → IsOk K mg G H (zipI vs os) as → VOs K mg G H vs os as
  | [], [], _, _, .nil => .nil
  | [], _ :: _, _, e, _ => by simp at e
  | _ :: _, [], _, e, _ => by simp at e
  | v :: vs, o :: os, _, e, .cons (.ov h) t => .cons h (IsOk.unzip (by simpa using e) t)
theorem Rep.openL {v : V} {os : List O} (h : Rep K mg H (.ov v (.lst os) :: L) B) : ∃ p vs, v = .ref p ∧ vs.length = os.length ∧ Rep K mg H (.raw p (.lst vs) :: (zipI vs os ++ L)) B := by
  obtain ⟨A, nd, ok, hb⟩ := h
  cases ok with
  | cons h t =>
    cases h with
    | ov h =>
      cases h with
      | lst h hs => exact ⟨_, _, rfl, hs.length, _, nd, .cons (as := [_]) (.raw h) (IsOk.append (IsOk.zip hs) t), hb⟩
theorem Rep.closeL {p : Addr} {vs : List V} {os : List O} (h : Rep K mg H (.raw p (.lst vs) :: (zipI vs os ++ L)) B) (e : vs.length = os.length) : Rep K mg H (.ov (.ref p) (.lst os) :: L) B := by
  obtain ⟨A, nd, ok, hb⟩ := h
  cases ok with
  | cons h t =>
    cases h with
    | raw h =>
      obtain ⟨bs, cs, e2, t1, t2⟩ := t.split
      subst e2
      exact ⟨_, nd, .cons (as := _ :: bs) (.ov (.lst h (IsOk.unzip e t1))) t2, hb⟩
theorem Rep.openD {v : V} {ks : List Key} {os : List O} (h : Rep K mg H (.ov v (.dct ks os) :: L) B) : ∃ p kvs, v = .ref p ∧ kvs.length = os.length ∧ (kvs.map (·.1) = ks ∧ ks.Nodup) ∧ Rep K mg H (.raw p (.dK kvs) :: (zipI (kvs.map (·.2)) os ++ L)) B := by
  obtain ⟨A, nd, ok, hb⟩ := h
  cases ok with
  | cons h t =>
    cases h with
    | ov h =>
      cases h with
      | dct h hk hs => exact ⟨_, _, rfl, by have := hs.length; simpa using this, hk, _, nd, .cons (as := [_]) (.raw h) (IsOk.append (IsOk.zip hs) t), hb⟩
theorem Rep.closeD {p : Addr} {kvs : List (Key × V)} {ks : List Key} {os : List O} (h : Rep K mg H (.raw p (.dK kvs) :: (zipI (kvs.map (·.2)) os ++ L)) B) (e : kvs.length = os.length) (hk : kvs.map (·.1) = ks ∧ ks.Nodup) : Rep K mg H (.ov (.ref p) (.dct ks os) :: L) B := by
  obtain ⟨A, nd, ok, hb⟩ := h
  cases ok with
  | cons h t =>
    cases h with
    | raw h =>
      obtain ⟨bs, cs, e2, t1, t2⟩ := t.split
      subst e2
      exact ⟨_, nd, .cons (as := _ :: bs) (.ov (.dct h hk (IsOk.unzip (by simpa using e) t1))) t2, hb⟩
theorem Rep.openI {v : V} {c : Str} {ns : List Str} {os : List O} (h : Rep K mg H (.ov v (.ins c ns os) :: L) B) :
    ∃ p C dx fs, v = .ref p ∧ mg c = some (.ref C) ∧ fs.length = os.length ∧ fs.map (·.1) = ns ∧ Rep K mg H (.raw p (.ins C dx fs) :: (zipI (fs.map (·.2)) os ++ L)) B := by
  obtain ⟨A, nd, ok, hb⟩ := h
  cases ok with
  | cons h t =>
    cases h with
    | ov h =>
      cases h with
      | ins h hm hn hs => exact ⟨_, _, _, _, rfl, hm, by have := hs.length; simpa using this, hn, _, nd, .cons (as := [_]) (.raw h) (IsOk.append (IsOk.zip hs) t), hb⟩
theorem Rep.closeI {p C dx : Addr} {fs : List (Str × V)} {c : Str} {ns : List Str} {os : List O} (h : Rep K mg H (.raw p (.ins C dx fs) :: (zipI (fs.map (·.2)) os ++ L)) B) (e : fs.length = os.length) (hm : mg c = some (.ref C)) (hn : fs.map (·.1) = ns) :
    Rep K mg H (.ov (.ref p) (.ins c ns os) :: L) B := by
  obtain ⟨A, nd, ok, hb⟩ := h
  cases ok with
  | cons h t =>
    cases h with
    | raw h =>
      obtain ⟨bs, cs, e2, t1, t2⟩ := t.split
      subst e2
      exact ⟨_, nd, .cons (as := _ :: bs) (.ov (.ins h hm hn (IsOk.unzip (by simpa using e) t1))) t2, hb⟩
/-- a tuple of shared things is shared -/
theorem Rep.closeT {p : Addr} {vs : List V} {ds : List D} (h : Rep K mg H (.raw p (.tup vs) :: (zipI vs (ds.map O.val) ++ L)) []) (e : vs.length = ds.length) : Rep K mg H (.ov (.ref p) (.val (.tup ds)) :: L) [] := by
  obtain ⟨A, nd, ok, hb⟩ := h
  cases ok with
  | cons h t =>
    cases h with
    | raw h =>
      obtain ⟨bs, cs, e2, t1, t2⟩ := t.split
      subst e2
      obtain ⟨q, e3⟩ := VOs.of_vals (IsOk.unzip (by simpa using e) t1)
      subst e3
      have s : Same (hide H ([p] ++ ([] ++ cs))) (hide H cs) := hide_same fun a o ha q => ⟨fun z => ha (by simp [z]), q⟩
      have hp : p ∉ cs := (List.nodup_cons.mp nd).1
      refine ⟨cs, (List.nodup_cons.mp nd).2, .cons (as := []) (.ov (.val (.tup (SqT.of ?_) (q.mono s)))) (t2.mono s fun _ _ => rfl), fun _ z => by simp at z⟩
      rw [hide_out hp]; exact h
/-- the whole heap shows what is borrowed -/
theorem Rep.view {b : V × O} (h : Rep K mg H L B) (q : b ∈ B) : Vw K mg H b.1 b.2.toD := by
  obtain ⟨A, nd, ok, hb⟩ := h
  obtain ⟨as, h1, h2⟩ := hb b q
  exact h1.frz hide_sub fun _ _ => rfl
end
end FB

/-! The environment, the meaning of expressions and statements over it, the judgements. -/
namespace FB
open PySem PySem.Spec L2
open PyProof.Rows hiding St

def Res.bind {α β : Type} (r : Res α) (f : α → Env → Res β) : Res β :=
  match r with
  | .ok a ρ => f a ρ
  | .exc x ρ => .exc x ρ
  | .no => .no
@[simp] theorem Res.bind_ok {α β : Type} (a : α) (ρ : Env) (f : α → Env → Res β) : (Res.ok a ρ).bind f = f a ρ := rfl
@[simp] theorem Res.bind_no {α β : Type} (f : α → Env → Res β) : (Res.no : Res α).bind f = .no := rfl
theorem Res.bind_eq {α β : Type} {r : Res α} {f : α → Env → Res β} {b : β} {ρ' : Env} (h : r.bind f = .ok b ρ') : ∃ a ρ, r = .ok a ρ ∧ f a ρ = .ok b ρ' := by
  cases r with
  | ok a ρ => exact ⟨a, ρ, rfl, h⟩
  | exc x ρ => cases h
  | no => cases h
abbrev Pf := Env → Option O
inductive Fl where
  | nx | ret (o : O) | brk | ct

theorem pairs_ss (v : V) (o : O) (σ : St) (ρ : Env) : pairs (some v :: σ) (some o :: ρ) = .ov v o :: pairs σ ρ := rfl
theorem pairs_sn (v : Option V) (σ : St) (ρ : Env) : pairs (v :: σ) (none :: ρ) = pairs σ ρ := by cases v <;> rfl
theorem pairs_ns (o : Option O) (σ : St) (ρ : Env) : pairs (none :: σ) (o :: ρ) = pairs σ ρ := by cases o <;> rfl
theorem pairs_nil (ρ : Env) : pairs [] ρ = [] := by cases ρ <;> rfl
theorem pairs_nil' (σ : St) : pairs σ [] = [] := by cases σ with
  | nil => rfl
  | cons v σ => cases v <;> rfl
theorem pairs_take : ∀ {σ : St} {ρ : Env} {i : Nat} {v : V} {o : O}, σ[i]? = some (some v) → ρ[i]? = some (some o) → (pairs σ ρ).Perm (.ov v o :: pairs σ (ρ.set i none))
  | [], _, _, _, _, h, _ => by simp at h
  | _ :: _, [], _, _, _, _, h => by simp at h
  | w :: σ, u :: ρ, 0, v, o, h1, h2 => by
    simp at h1 h2
    subst h1 h2
    rw [List.set_cons_zero, pairs_ss, pairs_sn]
  | w :: σ, u :: ρ, i + 1, v, o, h1, h2 => by
    have ih := pairs_take (σ := σ) (ρ := ρ) (i := i) (v := v) (o := o) (by simpa using h1) (by simpa using h2)
    rw [List.set_cons_succ]
    cases w with
    | none => rw [pairs_ns, pairs_ns]; exact ih
    | some w =>
      cases u with
      | none => rw [pairs_sn, pairs_sn]; exact ih
      | some u =>
        rw [pairs_ss, pairs_ss]
        exact (ih.cons _).trans (.swap _ _ _)
theorem pairs_setn : ∀ {σ : St} {ρ : Env} {i : Nat} {v : Option V}, ρ[i]? = some none → pairs (σ.set i v) ρ = pairs σ ρ
  | [], ρ, i, v, _ => by simp [pairs_nil]
  | w :: σ, [], i, v, h => by simp at h
  | w :: σ, u :: ρ, 0, v, h => by
    simp at h
    subst h
    rw [List.set_cons_zero, pairs_sn, pairs_sn]
  | w :: σ, u :: ρ, i + 1, v, h => by
    have ih := pairs_setn (σ := σ) (ρ := ρ) (i := i) (v := v) (by simpa using h)
    rw [List.set_cons_succ]
    cases w with
    | none => rw [pairs_ns, pairs_ns, ih]
    | some w =>
      cases u with
      | none => rw [pairs_sn, pairs_sn, ih]
      | some u => rw [pairs_ss, pairs_ss, ih]
theorem pairs_put {σ : St} {ρ : Env} {i : Nat} {v : V} {o : O} (h1 : i < σ.length) (h2 : i < ρ.length) : (.ov v o :: pairs σ (ρ.set i none) : List Item).Perm (pairs (σ.set i (some v)) (ρ.set i (some o))) := by
  have e1 : (σ.set i (some v))[i]? = some (some v) := by simp [h1]
  have e2 : (ρ.set i (some o))[i]? = some (some o) := by simp [h2]
  have := pairs_take e1 e2
  rw [List.set_set] at this
  have e3 : pairs (σ.set i (some v)) (ρ.set i none) = pairs σ (ρ.set i none) := pairs_setn (by simp [h2])
  rw [e3] at this
  exact this.symm
/-- the value stands, what is known of it is another thing -/
theorem pairs_back {σ : St} {ρ : Env} {i : Nat} {v : V} {o : O} (h1 : σ[i]? = some (some v)) (h2 : i < ρ.length) : (.ov v o :: pairs σ (ρ.set i none) : List Item).Perm (pairs σ (ρ.set i (some o))) := by
  have e2 : (ρ.set i (some o))[i]? = some (some o) := by simp [h2]
  have := pairs_take h1 e2
  rw [List.set_set] at this
  exact this.symm

theorem Cov.set {σ : St} {ρ : Env} (c : Cov σ ρ) (i : Nat) (v : V) (o : O) : Cov (σ.set i (some v)) (ρ.set i (some o)) := by
  refine ⟨by simp [c.len], fun j q h => ?_⟩
  by_cases e : i = j
  · subst e
    have hj : i < ρ.length := by
      have := (List.getElem?_eq_some_iff.mp h).1
      simpa using this
    exact ⟨v, by simp [c.len, hj]⟩
  · rw [List.getElem?_set_ne e] at h ⊢
    exact c.ex j q h
theorem Cov.setn {σ : St} {ρ : Env} (c : Cov σ ρ) (i : Nat) : Cov σ (ρ.set i none) := by
  refine ⟨by simp [c.len], fun j q h => ?_⟩
  by_cases e : i = j
  · subst e
    have hj : i < ρ.length := by
      have := (List.getElem?_eq_some_iff.mp h).1
      simpa using this
    simp [hj] at h
  · rw [List.getElem?_set_ne e] at h
    exact c.ex j q h
theorem Cov.put {σ : St} {ρ : Env} {i : Nat} {v : V} (c : Cov σ ρ) (hv : σ[i]? = some (some v)) (o : O) : Cov σ (ρ.set i (some o)) := by
  refine ⟨by simp [c.len], fun j q h => ?_⟩
  by_cases e : i = j
  · subst e; exact ⟨v, hv⟩
  · rw [List.getElem?_set_ne e] at h
    exact c.ex j q h

/-! ### the judgements -/
section
variable (K : PySem.W.Frag) (mg : Str → Option Value)
/-- a reading that changes nothing: its value is lent -/
def tP (f : Pf) : TE := fun σ H Q => ∃ ρ T B o, Cov σ ρ ∧ Rep K mg H (pairs σ ρ ++ T) B ∧ f ρ = some o ∧ ∀ v H', Same H H' → Rep K mg H' (pairs σ ρ ++ T) ((v, o) :: B) → Q v H'
/-- an expression that may change what the environment owns -/
def tM (m : M O) : TE := fun σ H Q => ∃ ρ T o ρ', Cov σ ρ ∧ Rep K mg H (pairs σ ρ ++ T) [] ∧ m ρ = .ok o ρ' ∧ ∀ v H', Cov σ ρ' → Rep K mg H' (.ov v o :: (pairs σ ρ' ++ T)) [] → Q v H'
def tMT (m : M Bool) : TT := fun σ H Q => ∃ ρ T b ρ', Cov σ ρ ∧ Rep K mg H (pairs σ ρ ++ T) [] ∧ m ρ = .ok b ρ' ∧ ∀ H', Cov σ ρ' → Rep K mg H' (pairs σ ρ' ++ T) [] → Q b H'
/-- the slots P stand -/
def Fix (P : List Nat) (σ σ' : St) : Prop := σ'.length = σ.length ∧ ∀ i ∈ P, σ'[i]? = σ[i]?
def tS (P : List Nat) (m : M Fl) : TS := fun D σ H => ∃ ρ T, Cov σ ρ ∧ Rep K mg H (pairs σ ρ ++ T) [] ∧
  match m ρ with
  | .ok .nx ρ' => ∀ σ' H', Fix P σ σ' → Cov σ' ρ' → Rep K mg H' (pairs σ' ρ' ++ T) [] → D.nx σ' H'
  | .ok .brk ρ' => ∀ σ' H', Fix P σ σ' → Cov σ' ρ' → Rep K mg H' (pairs σ' ρ' ++ T) [] → D.bk σ' H'
  | .ok .ct ρ' => ∀ σ' H', Fix P σ σ' → Cov σ' ρ' → Rep K mg H' (pairs σ' ρ' ++ T) [] → D.ct σ' H'
  | .ok (.ret o) ρ' => ∀ v σ' H', Fix P σ σ' → Cov σ' ρ' → Rep K mg H' (.ov v o :: (pairs σ' ρ' ++ T)) [] → D.rt v H'
  | .exc _ _ => False
  | .no => False
end
theorem Fix.refl (P : List Nat) (σ : St) : Fix P σ σ := ⟨rfl, fun _ _ => rfl⟩
theorem Fix.trans {P : List Nat} {a b c : St} (h : Fix P a b) (q : Fix P b c) : Fix P a c := ⟨q.1.trans h.1, fun i hi => (q.2 i hi).trans (h.2 i hi)⟩
theorem Fix.set {P : List Nat} {σ : St} {i : Nat} {v : Option V} (h : i ∉ P) : Fix P σ (σ.set i v) := ⟨by simp, fun j hj => List.getElem?_set_ne fun e : i = j => h (by rw [e]; exact hj)⟩
theorem PE.imp {X : Cx} {e : Expr} {t t' : TE} (h : PE X e t) (q : ∀ σ H Q, t' σ H Q → t σ H Q) : PE X e t' := ⟨fun pins s σ H Q I w => h.run pins s σ H Q I (q σ H Q w)⟩
theorem PT.imp {X : Cx} {e : Expr} {t t' : TT} (h : PT X e t) (q : ∀ σ H Q, t' σ H Q → t σ H Q) : PT X e t' := ⟨fun pins s σ H Q I w => h.run pins s σ H Q I (q σ H Q w)⟩
theorem PS.imp {X : Cx} {e : Stmt} {t t' : TS} (h : PS X e t) (q : ∀ D σ H, t' D σ H → t D σ H) : PS X e t' := ⟨fun pins s σ H D I w => h.run pins s σ H D I (q D σ H w)⟩
theorem PSs.imp {X : Cx} {e : List Stmt} {t t' : TS} (h : PSs X e t) (q : ∀ D σ H, t' D σ H → t D σ H) : PSs X e t' := ⟨fun pins s σ H D I w => h.run pins s σ H D I (q D σ H w)⟩

def SP (X : Cx) (e : Expr) (f : Pf) : Prop := PE X e (tP X.K X.mg f)
def SE (X : Cx) (e : Expr) (m : M O) : Prop := PE X e (tM X.K X.mg m)
def SET (X : Cx) (e : Expr) (m : M Bool) : Prop := PT X e (tMT X.K X.mg m)
def SS (X : Cx) (P : List Nat) (st : Stmt) (m : M Fl) : Prop := PS X st (tS X.K X.mg P m)
def SSs (X : Cx) (P : List Nat) (st : List Stmt) (m : M Fl) : Prop := PSs X st (tS X.K X.mg P m)
/-- what every body stands in -/
structure CxOk (X : Cx) : Prop where
  calm : X.calm = true
  units : X.A.units + 65 < cLine
  nd : X.N.Nodup

/-! ### what is read of an owned tree whose parts are shared -/
def vals? : List O → Option (List D)
  | [] => some []
  | .val d :: os => (vals? os).map (d :: ·)
  | _ :: _ => none
theorem vals?_map : ∀ ds : List D, vals? (ds.map O.val) = some ds
  | [] => rfl
  | d :: ds => by show (vals? (ds.map O.val)).map _ = _; rw [vals?_map ds]; rfl
theorem vals?_eq : ∀ {os : List O} {ds : List D}, vals? os = some ds → os = ds.map O.val
  | [], ds, h => by cases h; rfl
  | .val d :: os, ds, h => by
    have h : (vals? os).map (d :: ·) = some ds := h
    cases e : vals? os with
    | none => rw [e] at h; cases h
    | some es =>
      rw [e] at h
      cases h
      rw [vals?_eq e]; rfl
  | .lst _ :: _, _, h => by cases h
  | .dct _ _ :: _, _, h => by cases h
  | .ins _ _ _ :: _, _, h => by cases h
def O.sh : O → Option D
  | .val d => some d
  | .lst os => (vals? os).map .lst
  | .dct ks os => (vals? os).map (.dct ks)
  | .ins c ns os => (vals? os).map (.ins c ns)
@[simp] theorem O.sh_val (d : D) : (O.val d).sh = some d := rfl
@[simp] theorem O.sh_lst (ds : List D) : (O.lst (ds.map O.val)).sh = some (.lst ds) := by show (vals? _).map _ = _; rw [vals?_map]; rfl
@[simp] theorem O.sh_dct (ks : List Key) (ds : List D) : (O.dct ks (ds.map O.val)).sh = some (.dct ks ds) := by show (vals? _).map _ = _; rw [vals?_map]; rfl
section
variable {K : PySem.W.Frag} {mg : Str → Option Value} {H : Hp} {L : List Item} {B : List (V × O)}
/-- what is lent and has shared parts alone: shown by the heap, its parts shared -/
theorem Rep.sh {x : V} {o : O} {d : D} (h : Rep K mg H L B) (hx : (x, o) ∈ B) (e : o.sh = some d) : Vw K mg H x d := by
  have q := h.view hx
  cases o with
  | val d' => cases e; exact q
  | lst os =>
    have e : (vals? os).map D.lst = some d := e
    cases e1 : vals? os with
    | none => rw [e1] at e; cases e
    | some ds =>
      rw [e1] at e; cases e
      have q : Vw K mg H x (.lst (O.toDs os)) := q
      rw [vals?_eq e1, toDs_vals] at q
      exact q
  | dct ks os =>
    have e : (vals? os).map (D.dct ks) = some d := e
    cases e1 : vals? os with
    | none => rw [e1] at e; cases e
    | some ds =>
      rw [e1] at e; cases e
      have q : Vw K mg H x (.dct ks (O.toDs os)) := q
      rw [vals?_eq e1, toDs_vals] at q
      exact q
  | ins c ns os =>
    have e : (vals? os).map (D.ins c ns) = some d := e
    cases e1 : vals? os with
    | none => rw [e1] at e; cases e
    | some ds =>
      rw [e1] at e; cases e
      have q : Vw K mg H x (.ins c ns (O.toDs os)) := q
      rw [vals?_eq e1, toDs_vals] at q
      exact q
/-- the parts of a lent list (tuple) of shared parts are shared -/
theorem Rep.items {ds : List D} {vs : List V} (h : ∃ A : List Addr, A.Nodup ∧ IsOk K mg (hide H A) H L A ∧ (∀ b ∈ B, ∃ as, VO K mg (hide H A) H b.1 b.2 as ∧ ∀ a ∈ as, a ∈ A) ∧ Vws K mg (hide H A) vs ds) : Rep K mg H (zipI vs (ds.map O.val) ++ L) B := by
  obtain ⟨A, nd, ok, hb, hv⟩ := h
  exact ⟨A, nd, IsOk.append (as := []) (IsOk.zip (VOs.vals hv)) ok, hb⟩
theorem rd_hide {A : List Addr} {a : Addr} {u : HO} (h : Rd (hide H A) a u) : Rd H a u := FB.Same.rd hide_sub h
theorem sqT_hide {A : List Addr} {a : Addr} {xs : List V} (h : SqT K (hide H A) a xs) : SqT K H a xs := FB.Same.seqT hide_sub h
theorem Rep.shL {x : V} {o : O} {ds : List D} (h : Rep K mg H L B) (hx : (x, o) ∈ B) (e : o.sh = some (.lst ds)) :
    ∃ p vs, x = .ref p ∧ Rd H p (.lst vs) ∧ vs.length = ds.length ∧ Rep K mg H (zipI vs (ds.map O.val) ++ L) B := by
  obtain ⟨A, nd, ok, hb⟩ := h
  obtain ⟨as, q, ha⟩ := hb _ hx
  cases q with
  | val q =>
    cases e
    cases q with
    | lst q qs => exact ⟨_, _, rfl, rd_hide q, qs.length, Rep.items ⟨A, nd, ok, hb, qs⟩⟩
  | lst q qs =>
    rename_i p vs os as'
    have e : (vals? os).map D.lst = some (.lst ds) := e
    cases e1 : vals? os with
    | none => rw [e1] at e; cases e
    | some es =>
      rw [e1] at e; cases e
      rw [vals?_eq e1] at qs
      obtain ⟨qs, _⟩ := VOs.of_vals qs
      exact ⟨_, _, rfl, .inl q, qs.length, Rep.items ⟨A, nd, ok, hb, qs⟩⟩
  | dct q hk qs =>
    rename_i kvs ks os as'
    have e : (vals? os).map (D.dct ks) = some (.lst ds) := e
    cases e1 : vals? os with
    | none => rw [e1] at e; cases e
    | some es => rw [e1] at e; cases e
  | ins q hm hn qs =>
    rename_i c ns os as'
    have e : (vals? os).map (D.ins c ns) = some (.lst ds) := e
    cases e1 : vals? os with
    | none => rw [e1] at e; cases e
    | some es => rw [e1] at e; cases e
theorem sh_val_of {o : O} {d : D} (e : o.sh = some d) (h1 : ∀ ds, d ≠ .lst ds) (h2 : ∀ ks ds, d ≠ .dct ks ds) (h3 : ∀ c ns ds, d ≠ .ins c ns ds) : o = .val d := by
  cases o with
  | val d' => cases e; rfl
  | lst os =>
    have e : (vals? os).map D.lst = some d := e
    cases e1 : vals? os with
    | none => rw [e1] at e; cases e
    | some es => rw [e1] at e; cases e; exact absurd rfl (h1 _)
  | dct ks os =>
    have e : (vals? os).map (D.dct ks) = some d := e
    cases e1 : vals? os with
    | none => rw [e1] at e; cases e
    | some es => rw [e1] at e; cases e; exact absurd rfl (h2 _ _)
  | ins c ns os =>
    have e : (vals? os).map (D.ins c ns) = some d := e
    cases e1 : vals? os with
    | none => rw [e1] at e; cases e
    | some es => rw [e1] at e; cases e; exact absurd rfl (h3 _ _ _)
theorem Rep.shT {x : V} {o : O} {ds : List D} (h : Rep K mg H L B) (hx : (x, o) ∈ B) (e : o.sh = some (.tup ds)) :
    ∃ p vs, x = .ref p ∧ SqT K H p vs ∧ vs.length = ds.length ∧ Rep K mg H (zipI vs (ds.map O.val) ++ L) B := by
  have e' := sh_val_of e (fun _ => by intro z; cases z) (fun _ _ => by intro z; cases z) (fun _ _ _ => by intro z; cases z)
  subst e'
  obtain ⟨A, nd, ok, hb⟩ := h
  obtain ⟨as, q, ha⟩ := hb _ hx
  cases q with
  | val q =>
    cases q with
    | tup q qs => exact ⟨_, _, rfl, sqT_hide q, qs.length, Rep.items ⟨A, nd, ok, hb, qs⟩⟩
theorem Rep.shInt {x : V} {o : O} {i : Int} (h : Rep K mg H L B) (hx : (x, o) ∈ B) (e : o.sh = some (.int i)) : x = .int i := by
  have q := h.sh hx e
  cases q; rfl
theorem Rep.shBl {x : V} {o : O} {b : Bool} (h : Rep K mg H L B) (hx : (x, o) ∈ B) (e : o.sh = some (.bl b)) : x = .bl b := by
  have q := h.sh hx e
  cases q; rfl
theorem Rep.shStr {x : V} {o : O} {s : Str} (h : Rep K mg H L B) (hx : (x, o) ∈ B) (e : o.sh = some (.str s)) : x = .str s := by
  have q := h.sh hx e
  cases q; rfl
theorem Rep.shNon {x : V} {o : O} (h : Rep K mg H L B) (hx : (x, o) ∈ B) (e : o.sh = some .non) : x = .non := by
  have q := h.sh hx e
  cases q; rfl
/-- a shared item goes (what is lent stands) -/
theorem Rep.dropV {v : V} {d : D} (h : Rep K mg H (.ov v (.val d) :: L) B) : Rep K mg H L B := by
  obtain ⟨A, nd, ok, hb⟩ := h
  cases ok with
  | cons h t =>
    cases h with
    | ov h =>
      cases h with
      | val h => exact ⟨_, nd, t, hb⟩
theorem Rep.dropVs : ∀ {vs : List V} {ds : List D}, Rep K mg H (zipI vs (ds.map O.val) ++ L) B → Rep K mg H L B
  | [], _, h => h
  | _ :: _, [], h => h
  | v :: vs, d :: ds, h => Rep.dropVs (vs := vs) (ds := ds) (Rep.dropV h)
/-- a new list of shared things, shared from now on -/
theorem Rep.newL {vs : List V} {ds : List D} {p : Addr} (h : Rep K mg H (zipI vs (ds.map O.val) ++ L) []) (e : vs.length = ds.length) (hp : H p = none) : Rep K mg (upd H p (.lst vs)) (.ov (.ref p) (.lst (ds.map O.val)) :: L) [] :=
  Rep.closeL (h.new hp) (by simpa using e)
theorem Rep.newT {vs : List V} {ds : List D} {p : Addr} (h : Rep K mg H (zipI vs (ds.map O.val) ++ L) []) (e : vs.length = ds.length) (hp : H p = none) : Rep K mg (upd H p (.tup vs)) (.ov (.ref p) (.val (.tup ds)) :: L) [] :=
  Rep.closeT (h.new hp) e
end

/-! ### names, constants -/
section
variable {X : Cx}
def pVar (i : Nat) : Pf := fun ρ => (ρ[i]?).join
theorem sp_var (i : Nat) {x : Str} {pos : Pos} (hN : X.N[i]? = some x := by rfl) (hv : Vis X.env.scope x := by first | exact Or.inl rfl | exact Or.inr (Or.inl rfl) | exact Or.inr (Or.inr rfl)) (hd : (x == ("__debug__" : Str)) = false := by decide)
    (hcd : (x == ("__classdict__" : Str)) = false := by decide) : SP X (.Name x pos) (pVar i) := by
  refine PE.imp (pv i hN hv hd hcd) fun σ H Q h => ?_
  obtain ⟨ρ, T, B, o, c, R, e, k⟩ := h
  have e1 : ρ[i]? = some (some o) := by
    unfold pVar at e
    cases q : ρ[i]? with
    | none => rw [q] at e; cases e
    | some u => rw [q] at e; cases u <;> cases e; rfl
  obtain ⟨v, hv⟩ := c.ex i o e1
  refine ⟨v, hv, k v H (Same.refl _) ?_⟩
  have p := (pairs_take hv e1).append_right T
  exact (R.perm p).lend.perm p.symm
/-- what is shared may be kept -/
def mP (f : Pf) : M O := fun ρ => match f ρ with
  | some (.val d) => .ok (.val d) ρ
  | _ => .no
theorem se_p {e : Expr} {f : Pf} (h : SP X e f) : SE X e (mP f) := by
  refine PE.imp h fun σ H Q q => ?_
  obtain ⟨ρ, T, o, ρ', c, R, e, k⟩ := q
  unfold mP at e
  cases z : f ρ with
  | none => rw [z] at e; cases e
  | some u =>
    rw [z] at e
    cases u with
    | val d =>
      cases e
      exact ⟨ρ, T, [], .val d, c, R, z, fun v H' _ R' => k v H' c R'.keep⟩
    | lst _ => cases e
    | dct _ _ => cases e
    | ins _ _ _ => cases e
/-- a name is read for the last time -/
def mMove (i : Nat) : M O := fun ρ => match ρ[i]? with
  | some (some o) => .ok o (ρ.set i none)
  | _ => .no
theorem se_move (i : Nat) {x : Str} {pos : Pos} (hN : X.N[i]? = some x := by rfl) (hv : Vis X.env.scope x := by first | exact Or.inl rfl | exact Or.inr (Or.inl rfl) | exact Or.inr (Or.inr rfl)) (hd : (x == ("__debug__" : Str)) = false := by decide)
    (hcd : (x == ("__classdict__" : Str)) = false := by decide) : SE X (.Name x pos) (mMove i) := by
  refine PE.imp (pv i hN hv hd hcd) fun σ H Q h => ?_
  obtain ⟨ρ, T, o, ρ', c, R, e, k⟩ := h
  unfold mMove at e
  split at e
  · rename_i o' e1
    cases e
    obtain ⟨v, hv⟩ := c.ex i _ e1
    exact ⟨v, hv, k v H (c.setn i) (R.perm ((pairs_take hv e1).append_right T))⟩
  · cases e
/-- a name's tree is shared from now on -/
def mFrz (i : Nat) : M O := fun ρ => match ρ[i]? with
  | some (some o) => .ok (.val o.toD) (ρ.set i (some (.val o.toD)))
  | _ => .no
theorem se_frz (i : Nat) {x : Str} {pos : Pos} (hN : X.N[i]? = some x := by rfl) (hv : Vis X.env.scope x := by first | exact Or.inl rfl | exact Or.inr (Or.inl rfl) | exact Or.inr (Or.inr rfl)) (hd : (x == ("__debug__" : Str)) = false := by decide)
    (hcd : (x == ("__classdict__" : Str)) = false := by decide) : SE X (.Name x pos) (mFrz i) := by
  refine PE.imp (pv i hN hv hd hcd) fun σ H Q h => ?_
  obtain ⟨ρ, T, o, ρ', c, R, e, k⟩ := h
  unfold mFrz at e
  split at e
  · rename_i o' e1
    cases e
    obtain ⟨v, hv⟩ := c.ex i _ e1
    have hl : i < ρ.length := (List.getElem?_eq_some_iff.mp e1).1
    have R1 := (R.perm ((pairs_take hv e1).append_right T)).frz
    have R2 : Rep X.K X.mg H (.ov v (.val o'.toD) :: (.ov v (.val o'.toD) :: pairs σ (ρ.set i none) ++ T)) [] := R1.lend.keep
    exact ⟨v, hv, k v H (c.put hv _) (R2.perm (((pairs_back hv hl).append_right T).cons _))⟩
  · cases e
def pC (d : D) : Pf := fun _ => some (.val d)
theorem sp_c {e : Expr} {v : V} {d : D} (h : PE X e (tC v)) (hv : ∀ G, Vw X.K X.mg G v d) : SP X e (pC d) := by
  refine PE.imp h fun σ H Q q => ?_
  obtain ⟨ρ, T, B, o, c, R, e, k⟩ := q
  cases e
  exact k v H (Same.refl _) (R.scalB hv)
theorem sp_int {i j pos} : SP X (.Constant (.int i) j pos) (pC (.int i)) := sp_c pe_int fun _ => .int i
theorem sp_bl {b j pos} : SP X (.Constant (.bool b) j pos) (pC (.bl b)) := sp_c pe_bl fun _ => .bl b
theorem sp_non {j pos} : SP X (.Constant .none j pos) (pC .non) := sp_c pe_non fun _ => .non
theorem sp_str {x j pos} (h : PyData.strOk x = true := by decide +kernel) : SP X (.Constant (.str x) j pos) (pC (.str x)) := sp_c pe_str fun _ => .str x h
end

/-! ### operations on values -/
def OpV (K : PySem.W.Frag) (mg : Str → Option Value) (r : R2) (f : O → O → Option O) : Prop :=
  ∀ (H : Hp) (L : List Item) (B : List (V × O)) (x y : V) (ox oy o : O) (Q : VK), Rep K mg H L B → (x, ox) ∈ B → (y, oy) ∈ B → f ox oy = some o → (∀ v H', Same H H' → Rep K mg H' L ((v, o) :: B) → Q v H') → r x y H Q
def UnV (K : PySem.W.Frag) (mg : Str → Option Value) (r : V → Hp → VK → Prop) (f : O → Option O) : Prop :=
  ∀ (H : Hp) (L : List Item) (B : List (V × O)) (x : V) (ox o : O) (Q : VK), Rep K mg H L B → (x, ox) ∈ B → f ox = some o → (∀ v H', Same H H' → Rep K mg H' L ((v, o) :: B) → Q v H') → r x H Q
def p2 (op : O → O → Option O) (f g : Pf) : Pf := fun ρ => (f ρ).bind fun a => (g ρ).bind fun b => op a b
def p1 (op : O → Option O) (f : Pf) : Pf := fun ρ => (f ρ).bind op
def okV (o : Option O) (ρ : Env) : Res O := match o with
  | some (.val d) => .ok (.val d) ρ
  | _ => .no
theorem okV_eq {o : Option O} {ρ ρ' : Env} {u : O} (h : okV o ρ = .ok u ρ') : ∃ d, o = some (.val d) ∧ u = .val d ∧ ρ' = ρ := by
  unfold okV at h
  split at h
  · cases h; exact ⟨_, rfl, rfl, rfl⟩
  · cases h
def m2 (op : O → O → Option O) (m n : M O) : M O := fun ρ => (m ρ).bind fun a ρ1 => (n ρ1).bind fun b ρ2 => okV (op a b) ρ2
def m1 (op : O → Option O) (m : M O) : M O := fun ρ => (m ρ).bind fun a ρ1 => okV (op a) ρ1
section
variable {X : Cx} {K : PySem.W.Frag} {mg : Str → Option Value}
theorem tOp_p {r : R2} {op : O → O → Option O} {f g : Pf} (h : OpV K mg r op) (σ : St) (H : Hp) (Q : VK) (q : tP K mg (p2 op f g) σ H Q) : tOp r (tP K mg f) (tP K mg g) σ H Q := by
  obtain ⟨ρ, T, B, o, c, R, e, k⟩ := q
  unfold p2 at e
  cases e1 : f ρ with
  | none => rw [e1] at e; cases e
  | some a =>
    cases e2 : g ρ with
    | none => rw [e1, e2] at e; cases e
    | some b =>
      rw [e1, e2] at e
      refine ⟨ρ, T, B, a, c, R, e1, fun x H1 s1 R1 => ⟨ρ, T, _, b, c, R1, e2, fun y H2 s2 R2 => ?_⟩⟩
      refine h H2 _ _ x y a b o Q R2 (by simp) (by simp) e fun v H3 s3 R3 => k v H3 (s1.trans (s2.trans s3)) (R3.bsub fun z hz => ?_)
      rcases List.mem_cons.mp hz with hz | hz
      · simp [hz]
      · simp [hz]
theorem tOp_m {r : R2} {op : O → O → Option O} {m n : M O} (h : OpV K mg r op) (σ : St) (H : Hp) (Q : VK) (q : tM K mg (m2 op m n) σ H Q) : tOp r (tM K mg m) (tM K mg n) σ H Q := by
  obtain ⟨ρ, T, o, ρ', c, R, e, k⟩ := q
  obtain ⟨a, ρ1, e1, e⟩ := Res.bind_eq e
  obtain ⟨b, ρ2, e2, e⟩ := Res.bind_eq e
  obtain ⟨d, e3, e4, e5⟩ := okV_eq e
  subst e4
  subst e5
  refine ⟨ρ, T, a, ρ1, c, R, e1, fun x H1 c1 R1 => ⟨ρ1, .ov x a :: T, b, ρ', c1, R1.perm List.perm_middle.symm, e2, fun y H2 c2 R2 => ?_⟩⟩
  -- y, the environment, x, T
  have R3 : Rep K mg H2 (.ov x a :: .ov y b :: (pairs σ ρ' ++ T)) [] := R2.perm ((List.perm_middle.cons _).trans (.swap _ _ _))
  have R4 := R3.lend.perm (.swap _ _ _) |>.lend
  refine h H2 _ _ x y a b _ Q R4 (by simp) (by simp) e3 fun v H3 _ R5 => k v H3 c2 ?_
  have R6 := R5.keep.nob
  exact ((R6.perm (.swap _ _ _)).drop.perm (.swap _ _ _)).drop
theorem tUn_p {r : V → Hp → VK → Prop} {op : O → Option O} {f : Pf} (h : UnV K mg r op) (σ : St) (H : Hp) (Q : VK) (q : tP K mg (p1 op f) σ H Q) : tUn r (tP K mg f) σ H Q := by
  obtain ⟨ρ, T, B, o, c, R, e, k⟩ := q
  unfold p1 at e
  cases e1 : f ρ with
  | none => rw [e1] at e; cases e
  | some a =>
    rw [e1] at e
    refine ⟨ρ, T, B, a, c, R, e1, fun x H1 s1 R1 => ?_⟩
    refine h H1 _ _ x a o Q R1 (by simp) e fun v H3 s3 R3 => k v H3 (s1.trans s3) (R3.bsub fun z hz => ?_)
    rcases List.mem_cons.mp hz with hz | hz
    · simp [hz]
    · simp [hz]
theorem tUn_m {r : V → Hp → VK → Prop} {op : O → Option O} {m : M O} (h : UnV K mg r op) (σ : St) (H : Hp) (Q : VK) (q : tM K mg (m1 op m) σ H Q) : tUn r (tM K mg m) σ H Q := by
  obtain ⟨ρ, T, o, ρ', c, R, e, k⟩ := q
  obtain ⟨a, ρ1, e1, e⟩ := Res.bind_eq e
  obtain ⟨d, e3, e4, e5⟩ := okV_eq e
  subst e4 e5
  refine ⟨ρ, T, a, ρ', c, R, e1, fun x H1 c1 R1 => ?_⟩
  refine h H1 _ _ x a _ Q R1.lend (by simp) e3 fun v H3 _ R5 => k v H3 c1 ?_
  exact (R5.keep.nob.perm (.swap _ _ _)).drop
theorem OpV.or {r r' : R2} {f g : O → O → Option O} (h : OpV K mg r f) (h' : OpV K mg r' g) : OpV K mg (fun x y H Q => r x y H Q ∨ r' x y H Q) (fun a b => (f a b).or (g a b)) := by
  intro H L B x y ox oy o Q R hx hy e k
  have e : (f ox oy).or (g ox oy) = some o := e
  cases e1 : f ox oy with
  | some u =>
    rw [e1] at e
    cases e
    exact .inl (h H L B x y ox oy _ Q R hx hy e1 k)
  | none =>
    rw [e1] at e
    exact .inr (h' H L B x y ox oy _ Q R hx hy e k)

/-! the shapes -/
variable {a b : Expr} {pos : Pos} {f g : Pf} {m n : M O} {r : R2} {op : O → O → Option O}
theorem sp_bin {o : Operator} (ho : OpR X (binaryOp o) r) (h : OpV X.K X.mg r op) (ha : SP X a f) (hb : SP X b g) : SP X (.BinOp a o b pos) (p2 op f g) := PE.imp (pe_op ho ha hb) (tOp_p h)
theorem se_bin {o : Operator} (ho : OpR X (binaryOp o) r) (h : OpV X.K X.mg r op) (ha : SE X a m) (hb : SE X b n) : SE X (.BinOp a o b pos) (m2 op m n) := PE.imp (pe_op ho ha hb) (tOp_m h)
theorem sp_cmp {o : CmpOp} (ho : OpR X (compareOp o) r) (h : OpV X.K X.mg r op) (ha : SP X a f) (hb : SP X b g) (hm : behindInMarks o b = false) : SP X (.Compare a [o] [b] pos) (p2 op f g) := PE.imp (pe_cmpR ho ha hb hm) (tOp_p h)
theorem se_cmp {o : CmpOp} (ho : OpR X (compareOp o) r) (h : OpV X.K X.mg r op) (ha : SE X a m) (hb : SE X b n) (hm : behindInMarks o b = false) : SE X (.Compare a [o] [b] pos) (m2 op m n) := PE.imp (pe_cmpR ho ha hb hm) (tOp_m h)
theorem sp_ix (ho : IxR X r) (h : OpV X.K X.mg r op) (ha : SP X a f) (hb : SP X b g) (hs : PlainIx b := by exact fun _ _ => rfl) : SP X (.Subscript a b pos) (p2 op f g) := PE.imp (pe_ix ho ha hb hs) (tOp_p h)
theorem se_ix (ho : IxR X r) (h : OpV X.K X.mg r op) (ha : SE X a m) (hb : SE X b n) (hs : PlainIx b := by exact fun _ _ => rfl) : SE X (.Subscript a b pos) (m2 op m n) := PE.imp (pe_ix ho ha hb hs) (tOp_m h)
theorem sp_un {o : UnaryOp} {r : V → Hp → VK → Prop} {op : O → Option O} (ho : UnR X (unaryOp o) r) (h : UnV X.K X.mg r op) (ha : SP X a f) : SP X (.UnaryOp o a pos) (p1 op f) := PE.imp (pe_un ho ha) (tUn_p h)
end
end FB

/-! Operations by values: arithmetic, comparisons, membership, subscripts. -/
namespace FB
open PySem PySem.Spec L2
open PyProof.Rows hiding St

/-! ### data as the library's data -/
mutual
def D.pd : D → PyData
  | .non => .none
  | .bl b => .bool b
  | .int i => .int i
  | .str s => .str s
  | .tup ds => .tuple (D.pds ds)
  | .lst ds => .list (D.pds ds)
  | .dct _ _ => .dict []
  | .ins _ _ _ => .dict []
  | .scr _ => .dict []
  | .fn _ => .dict []
def D.pds : List D → List PyData
  | [] => []
  | d :: ds => d.pd :: D.pds ds
end
/-- no dict, no object, at most so deep -/
def D.okE : Nat → D → Bool
  | _, .non => true
  | _, .bl _ => true
  | _, .int _ => true
  | _, .str _ => true
  | 0, .tup _ => false
  | 0, .lst _ => false
  | n + 1, .tup ds => ds.all (D.okE n)
  | n + 1, .lst ds => ds.all (D.okE n)
  | _, .dct _ _ => false
  | _, .ins _ _ _ => false
  | _, .scr _ => false
  | _, .fn _ => false
theorem all_pds {ds : List D} {n : Nat} (h : ∀ d ∈ ds, d.pd.canLay0 = true ∧ d.pd.depth ≤ n) : PyData.canLayAll0 (D.pds ds) = true ∧ PyData.depthAll (D.pds ds) ≤ n := by
  induction ds with
  | nil => exact ⟨rfl, Nat.zero_le _⟩
  | cons d ds ih =>
    obtain ⟨h1, h2⟩ := h d (by simp)
    obtain ⟨h3, h4⟩ := ih fun e he => h e (by simp [he])
    refine ⟨?_, ?_⟩
    · show (d.pd.canLay0 && PyData.canLayAll0 (D.pds ds)) = true
      rw [h1, h3]; rfl
    · show max d.pd.depth (PyData.depthAll (D.pds ds)) ≤ n
      omega
section
variable {K : PySem.W.Frag} {mg : Str → Option Value} {G : Hp}
mutual
theorem Vw.lay : ∀ {v : V} {d : D} (n : Nat), Vw K mg G v d → d.okE n = true → d.pd.canLay0 = true ∧ d.pd.depth ≤ n
  | _, _, n, .non, _ => ⟨rfl, Nat.zero_le _⟩
  | _, _, n, .bl b, _ => ⟨rfl, Nat.zero_le _⟩
  | _, _, n, .int i, _ => ⟨rfl, Nat.zero_le _⟩
  | _, _, n, .str s h, _ => ⟨h, Nat.zero_le _⟩
  | _, _, 0, .tup _ _, e => by cases e
  | _, _, n + 1, .tup _ hs, e => by
    obtain ⟨a, b⟩ := all_pds (Vws.lay n hs e)
    exact ⟨a, Nat.succ_le_succ b⟩
  | _, _, 0, .lst _ _, e => by cases e
  | _, _, n + 1, .lst _ hs, e => by
    obtain ⟨a, b⟩ := all_pds (Vws.lay n hs e)
    exact ⟨a, Nat.succ_le_succ b⟩
  | _, _, n, .dct _ _ _, e => by cases n <;> cases e
  | _, _, n, .ins _ _ _ _, e => by cases n <;> cases e
  | _, _, n, .scr _, e => by cases n <;> cases e
  | _, _, n, .fn _, e => by cases n <;> cases e
theorem Vws.lay : ∀ {vs : List V} {ds : List D} (n : Nat), Vws K mg G vs ds → ds.all (D.okE n) = true → ∀ d ∈ ds, d.pd.canLay0 = true ∧ d.pd.depth ≤ n
  | _, _, n, .nil, _ => fun d hd => by simp at hd
  | _, _, n, .cons h t, e => fun d hd => by
    rw [List.all_cons, Bool.and_eq_true] at e
    rcases List.mem_cons.mp hd with q | hd
    · rw [q]; exact Vw.lay n h e.1
    · exact Vws.lay n t e.2 d hd
end
theorem Vw.shaped {v : V} {d : D} (h : Vw K mg G v d) (e : d.okE 9 = true) : SeqAt.shaped d.pd = true := by
  obtain ⟨a, b⟩ := h.lay 9 e
  unfold SeqAt.shaped
  rw [a, decide_eq_true (by omega : d.pd.depth ≤ 64)]
  rfl
mutual
theorem Vw.dp : ∀ {v : V} {d : D} (n : Nat), Vw K mg G v d → d.okE n = true → Dp K G v d.pd
  | _, _, n, .non, _ => .non
  | _, _, n, .bl b, _ => .bl b
  | _, _, n, .int i, _ => .int i
  | _, _, n, .str s h, _ => .str s
  | _, _, 0, .tup _ _, e => by cases e
  | _, _, n + 1, .tup h hs, e => .tup h (Vws.dp n hs e)
  | _, _, 0, .lst _ _, e => by cases e
  | _, _, n + 1, .lst h hs, e => .lst (.inl h) (Vws.dp n hs e)
  | _, _, n, .dct _ _ _, e => by cases n <;> cases e
  | _, _, n, .ins _ _ _ _, e => by cases n <;> cases e
  | _, _, n, .scr _, e => by cases n <;> cases e
  | _, _, n, .fn _, e => by cases n <;> cases e
theorem Vws.dp : ∀ {vs : List V} {ds : List D} (n : Nat), Vws K mg G vs ds → ds.all (D.okE n) = true → DpAll K G vs (D.pds ds)
  | _, _, n, .nil, _ => .nil
  | _, _, n, .cons h t, e => by
    rw [List.all_cons, Bool.and_eq_true] at e
    exact .cons (Vw.dp n h e.1) (Vws.dp n t e.2)
end
end
def D.eqv (a b : D) : Bool := PyData.eqv a.pd b.pd

/-! ### arithmetic -/
def lift2 (f : D → D → Option D) : O → O → Option O := fun a b => (a.sh).bind fun x => (b.sh).bind fun y => (f x y).map O.val
theorem lift2_eq {f : D → D → Option D} {a b o : O} (h : lift2 f a b = some o) : ∃ x y d, a.sh = some x ∧ b.sh = some y ∧ f x y = some d ∧ o = .val d := by
  unfold lift2 at h
  cases e1 : a.sh with
  | none => rw [e1] at h; cases h
  | some x =>
    cases e2 : b.sh with
    | none => rw [e1, e2] at h; cases h
    | some y =>
      rw [e1, e2] at h
      have h : (f x y).map O.val = some o := h
      cases e3 : f x y with
      | none => rw [e3] at h; cases h
      | some d => rw [e3] at h; cases h; exact ⟨x, y, d, rfl, rfl, e3, rfl⟩
def addD : D → D → Option D
  | .int i, .int j => some (.int (i + j))
  | .str s, .str t => if s.length + t.length ≤ 1000000 then some (.str (s ++ t)) else none
  | .lst xs, .lst ys => if xs.length + ys.length ≤ 1000000 then some (.lst (xs ++ ys)) else none
  | .tup xs, .tup ys => if xs.length + ys.length ≤ 1000000 then some (.tup (xs ++ ys)) else none
  | _, _ => none
def subD : D → D → Option D
  | .int i, .int j => some (.int (i - j))
  | _, _ => none
def mulOk (i j : Int) : Bool := decide (i.natAbs < 2 ^ 64) || decide (j.natAbs < 2 ^ 64) || decide (i.natAbs.log2 + j.natAbs.log2 < 1000000)
def repS (s : Str) (k : Nat) : Str := ⟨(List.replicate k s.cps.toList).flatten.toArray⟩
def mulD : D → D → Option D
  | .int i, .int j => if mulOk i j then some (.int (i * j)) else none
  | .lst xs, .int k => if k < 1000000 ∧ -1000000 < k ∧ xs.length * k.toNat ≤ 1000000 then some (.lst (List.replicate k.toNat xs).flatten) else none
  | .str s, .int k => if k < 1000000 ∧ -1000000 < k ∧ s.length * k.toNat ≤ 1000000 then some (.str (repS s k.toNat)) else none
  | _, _ => none
def fdivD : D → D → Option D
  | .int i, .int j => if 0 < j ∧ j.natAbs.log2 < 9000 then some (.int (i / j)) else none
  | _, _ => none
def modD : D → D → Option D
  | .int i, .int j => if 0 < j then some (.int (i % j)) else none
  | _, _ => none
def powD : D → D → Option D
  | .int i, .int j => if 0 ≤ j ∧ j ≤ 1000000 ∧ i.natAbs < 2 ^ 64 then some (.int (i ^ j.toNat)) else none
  | _, _ => none
def ltD : D → D → Option D
  | .int i, .int j => some (.bl (decide (i < j)))
  | _, _ => none
def leD : D → D → Option D
  | .int i, .int j => some (.bl (decide (i ≤ j)))
  | _, _ => none
def gtD : D → D → Option D
  | .int i, .int j => some (.bl (decide (j < i)))
  | _, _ => none
def geD : D → D → Option D
  | .int i, .int j => some (.bl (decide (j ≤ i)))
  | _, _ => none
theorem line6 {n : Nat} (h : n ≤ 1000000) : n ≤ sizeLine := by rw [sizeLine_eq]; omega
theorem strOk_append {s t : Str} (hs : PyData.strOk s = true) (ht : PyData.strOk t = true) : PyData.strOk (s ++ t) = true := by
  show ((s.cps ++ t.cps).all _) = true
  rw [Array.all_append, Bool.and_eq_true]
  exact ⟨hs, ht⟩
section
variable {K : PySem.W.Frag} {mg : Str → Option Value} {H : Hp} {L : List Item} {B : List (V × O)}
theorem Rep.strOk {x : V} {o : O} {s : Str} (h : Rep K mg H L B) (hx : (x, o) ∈ B) (e : o.sh = some (.str s)) : PyData.strOk s = true := by
  have q := h.sh hx e
  cases q with
  | str _ h => exact h
theorem Rep.bdup {b : V × O} (h : Rep K mg H L B) (hb : b ∈ B) : Rep K mg H L (b :: B) := h.bsub fun z hz => by
  rcases List.mem_cons.mp hz with e | hz
  · rw [e]; exact hb
  · exact hz
/-- a new list lent -/
theorem Rep.lentL {vs : List V} {ds : List D} {p : Addr} (h : Rep K mg H (zipI vs (ds.map O.val) ++ L) B) (e : vs.length = ds.length) (hp : H p = none) : Rep K mg (upd H p (.lst vs)) L ((.ref p, .val (.lst ds)) :: B) := by
  obtain ⟨A, nd, ok, hb⟩ := h
  obtain ⟨bs, cs, e2, t1, t2⟩ := ok.split
  subst e2
  obtain ⟨q, e3⟩ := VOs.of_vals (IsOk.unzip (by simpa using e) t1)
  subst e3
  have hA : p ∉ cs := fun z => by
    obtain ⟨u, q⟩ := t2.dom p z
    rw [hp] at q; cases q
  have s : Same (hide H ([] ++ cs)) (hide (upd H p (.lst vs)) cs) := hide_same fun a u ha q => ⟨ha, by rw [upd_ne (ne_of_none q hp)]; exact q⟩
  have hu : ∀ a ∈ cs, upd H p (.lst vs) a = H a := fun a ha => upd_ne fun z => hA (z ▸ ha)
  refine ⟨cs, nd, t2.mono s hu, fun b hb' => ?_⟩
  rcases List.mem_cons.mp hb' with e4 | hb'
  · subst e4
    exact ⟨[], .val (.lst (.inl (by rw [hide_out hA]; exact upd_same)) (q.mono s)), by simp⟩
  · obtain ⟨as, h1, h2⟩ := hb b hb'
    exact ⟨as, h1.mono s fun a ha => hu a (h2 a ha), h2⟩
theorem Rep.lentT {vs : List V} {ds : List D} {p : Addr} (h : Rep K mg H (zipI vs (ds.map O.val) ++ L) B) (e : vs.length = ds.length) (hp : H p = none) : Rep K mg (upd H p (.tup vs)) L ((.ref p, .val (.tup ds)) :: B) := by
  obtain ⟨A, nd, ok, hb⟩ := h
  obtain ⟨bs, cs, e2, t1, t2⟩ := ok.split
  subst e2
  obtain ⟨q, e3⟩ := VOs.of_vals (IsOk.unzip (by simpa using e) t1)
  subst e3
  have hA : p ∉ cs := fun z => by
    obtain ⟨u, q⟩ := t2.dom p z
    rw [hp] at q; cases q
  have s : Same (hide H ([] ++ cs)) (hide (upd H p (.tup vs)) cs) := hide_same fun a u ha q => ⟨ha, by rw [upd_ne (ne_of_none q hp)]; exact q⟩
  have hu : ∀ a ∈ cs, upd H p (.tup vs) a = H a := fun a ha => upd_ne fun z => hA (z ▸ ha)
  refine ⟨cs, nd, t2.mono s hu, fun b hb' => ?_⟩
  rcases List.mem_cons.mp hb' with e4 | hb'
  · subst e4
    exact ⟨[], .val (.tup (.inl (.inl (by rw [hide_out hA]; exact upd_same))) (q.mono s)), by simp⟩
  · obtain ⟨as, h1, h2⟩ := hb b hb'
    exact ⟨as, h1.mono s fun a ha => hu a (h2 a ha), h2⟩
end
/-! ### the rules over what may be read -/
section
variable {X : Cx}
theorem Inv.rdL {pins : List (Addr × Obj)} {σ : St} {H : Hp} {s : Shared} {l : Addr} {xs : List V} (I : Inv X pins σ H s) (h : Rd H l (.lst xs)) : xs.length ≤ sizeLine ∧ ∃ (its : List Value) (n : Nat), Vals xs its ∧ xs.length = its.length ∧ s.heap.get? l = some { cls := .type "list", data := .seq its.toArray n } := by
  obtain ⟨z, its, n, r, e⟩ := h.ok I.hok
  exact ⟨z, its, n, r, r.length, e⟩
def rCatR : R2 := fun x y H Q => ∃ l b xs zs, x = .ref l ∧ y = .ref b ∧ Rd H l (.lst xs) ∧ Rd H b (.lst zs) ∧ xs.length + zs.length ≤ sizeLine ∧ ∀ p, H p = none → Q (.ref p) (upd H p (.lst (xs ++ zs)))
theorem op_catR : OpR X (binaryOp .Add) rCatR := by
  intro pins s σ H x y v u Q I rx ry h
  obtain ⟨l, b, xs, zs, rfl, rfl, hH, hB, hz, q⟩ := h
  cases rx
  cases ry
  obtain ⟨z, its, n, r, hl, e⟩ := Inv.rdL I hH
  obtain ⟨z2, its2, n2, r2, hl2, e2⟩ := Inv.rdL I hB
  refine PySem.P.add_list e e2 ?_ (by rw [List.size_toArray, List.size_toArray]; omega)
  have ea : its.toArray ++ its2.toArray = (its ++ its2).toArray := by simp
  rw [ea]
  exact ⟨.ref _, _, I.lnew (t' := s.toks) (r.append r2) (by rw [List.length_append]; omega), rfl, q _ I.fresh⟩
def rRepR : R2 := fun x y H Q => ∃ l k xs, x = .ref l ∧ y = .int k ∧ Rd H l (.lst xs) ∧ -(2 ^ 63) ≤ k ∧ k < 2 ^ 63 ∧ xs.length * k.toNat ≤ sizeLine ∧
  ∀ p, H p = none → Q (.ref p) (upd H p (.lst (List.replicate k.toNat xs).flatten))
theorem op_repR : OpR X (binaryOp .Mult) rRepR := by
  intro pins s σ H x y v u Q I rx ry h
  obtain ⟨l, k, xs, rfl, rfl, hH, h1, h2, hz, q⟩ := h
  cases rx
  obtain ⟨t, rfl⟩ := ry
  obtain ⟨z, its, n, r, hl, e⟩ := Inv.rdL I hH
  have hlen : its.toArray.size * k.toNat ≤ sizeLine := by rw [List.size_toArray, ← hl]; exact hz
  have hcap : ¬ its.toArray.size * k.toNat > (2 ^ 63 - 1) / 8 := by
    have : (sizeLine : Nat) ≤ (2 ^ 63 - 1) / 8 := by decide
    omega
  have hfit : ¬ (!Builtin.List.listFitsIndex k) = true := by
    rw [fitsIndex_both h1 h2]
    exact Bool.false_ne_true
  have hlong : ¬ Builtin.List.listTooLong (its.toArray.size * k.toNat) = true := by
    rw [notLongL hlen]
    exact Bool.false_ne_true
  have hnew : List.foldl (fun x1 x2 => x1 ++ x2) #[] (List.replicate (if its.toArray.isEmpty = true then 0 else k.toNat) its.toArray) = (List.replicate k.toNat its).flatten.toArray := by
    have f0 : ∀ m : Nat, List.foldl (fun x1 x2 => x1 ++ x2) #[] (List.replicate m its.toArray) = (List.replicate m its).flatten.toArray := fun m => by
      have := foldl_rep its m []
      rw [List.nil_append] at this
      exact this
    rw [f0]
    cases its with
    | nil => simp
    | cons a r' => rw [if_neg (by simp)]
  refine wpAny_binaryOp_repeat_ref (T := "list") (U := "int") (by decide) ⟨_, e, rfl⟩ (fun s' => typeIs_int s' k t) noFill_list_mul F.fills_int_mul F.slot_int_rmul repeat_list F.slot_int_index.lookup
    (call_meets F.slot_int_rmul (typeIs_int s k t) F.entry_int_rmul (F.args_int_rmul_2 _ _) (int___rmul___int_list k t l its.toArray n)
      ⟨e, rfl, ⟨_, e, rfl⟩, call_meets F.slot_list_mul ⟨_, e, rfl⟩ F.entry_list_mul (F.args_list_mul_2 _ _) (AutoListH.list___mul___list_int_3 l its.toArray n k t hfit hcap hlong) ⟨e, ?_⟩⟩)
  rw [hnew]
  exact ⟨.ref _, _, I.lnew (t' := s.toks) (r.rep k.toNat) (by rw [PyProof.Rows.lm_len_rep_flat, Nat.mul_comm]; exact hz), rfl, q _ I.fresh⟩
end

theorem Rep.nth {K : PySem.W.Frag} {mg : Str → Option Value} {H : Hp} {L : List Item} {B : List (V × O)} {vs : List V} {ds : List D} {i : Nat} {v : V} {d : D} (h : Rep K mg H (zipI vs (ds.map O.val) ++ L) B) (h1 : vs[i]? = some v) (h2 : ds[i]? = some d) : Rep K mg H L ((v, .val d) :: B) := by
  obtain ⟨A, nd, ok, hb⟩ := h
  obtain ⟨bs, cs, e2, t1, t2⟩ := ok.split
  have hv : ∀ {vs : List V} {ds : List D} {as : List Addr} {i : Nat} {v : V} {d : D}, IsOk K mg (hide H A) H (zipI vs (ds.map O.val)) as → vs[i]? = some v → ds[i]? = some d → Vw K mg (hide H A) v d := by
    intro vs
    induction vs with
    | nil => intro ds as i v d _ h1 _; simp at h1
    | cons w vs ih =>
      intro ds as i v d t h1 h2
      cases ds with
      | nil => simp at h2
      | cons e ds =>
        cases t with
        | cons t r =>
          cases i with
          | zero =>
            simp at h1 h2
            subst h1 h2
            cases t with
            | ov t => cases t with
              | val t => exact t
          | succ i => exact ih r (by simpa using h1) (by simpa using h2)
  have q := hv t1 h1 h2
  have e0 : ∀ {vs : List V} {ds : List D} {as : List Addr}, IsOk K mg (hide H A) H (zipI vs (ds.map O.val)) as → as = [] := by
    intro vs
    induction vs with
    | nil => intro ds as t; cases ds <;> cases t <;> rfl
    | cons w vs ih =>
      intro ds as t
      cases ds with
      | nil => cases t; rfl
      | cons e ds =>
        cases t with
        | cons t r =>
          have := ih r
          subst this
          cases t with
          | ov t => cases t with
            | val t => rfl
  have e3 := e0 t1
  subst e3
  rw [List.nil_append] at e2
  subst e2
  refine ⟨A, nd, t2, fun b hb' => ?_⟩
  rcases List.mem_cons.mp hb' with e4 | hb'
  · subst e4; exact ⟨[], .val q, by simp⟩
  · exact hb b hb'

section
variable {X : Cx} {K : PySem.W.Frag} {mg : Str → Option Value}
/-- ints in, a shown scalar out -/
theorem opv_int0 {g : Int → Int → V} {f : D → D → Option D} (hf : ∀ x y d, f x y = some d → ∃ i j, x = .int i ∧ y = .int j ∧ ∀ G, Vw K mg G (g i j) d) : OpV K mg (rI0 g) (lift2 f) := by
  intro H L B x y ox oy o Q R hx hy e k
  obtain ⟨a, b, d, e1, e2, e3, rfl⟩ := lift2_eq e
  obtain ⟨i, j, rfl, rfl, hv⟩ := hf a b d e3
  exact ⟨i, j, R.shInt hx e1, R.shInt hy e2, k _ _ (Same.refl _) (R.scalB hv)⟩
theorem opv_int {C : Int → Int → Prop} {g : Int → Int → V} {f : D → D → Option D} (hf : ∀ x y d, f x y = some d → ∃ i j, x = .int i ∧ y = .int j ∧ C i j ∧ ∀ G, Vw K mg G (g i j) d) : OpV K mg (rI C g) (lift2 f) := by
  intro H L B x y ox oy o Q R hx hy e k
  obtain ⟨a, b, d, e1, e2, e3, rfl⟩ := lift2_eq e
  obtain ⟨i, j, rfl, rfl, hc, hv⟩ := hf a b d e3
  exact ⟨i, j, R.shInt hx e1, R.shInt hy e2, hc, k _ _ (Same.refl _) (R.scalB hv)⟩
def rAddF (K : PySem.W.Frag) : R2 := fun x y H Q => rI0 (fun i j => .int (i + j)) x y H Q ∨ ((∃ i j, x = .str i ∧ y = .str j ∧ i.length + j.length ≤ sizeLine ∧ Q (.str (i ++ j)) H) ∨ (rCatR x y H Q ∨ rCatA K x y H Q))
theorem op_addF : OpR X (binaryOp .Add) (rAddF X.K) := op_add.or (op_add_str.or (op_catR.or op_catA))
theorem opv_add : OpV K mg (rAddF K) (lift2 addD) := by
  intro H L B x y ox oy o Q R hx hy e k
  obtain ⟨a, b, d, e1, e2, e3, rfl⟩ := lift2_eq e
  unfold addD at e3
  split at e3
  · cases e3
    exact .inl ⟨_, _, R.shInt hx e1, R.shInt hy e2, k _ _ (Same.refl _) (R.scalB fun _ => .int _)⟩
  · split at e3
    · cases e3
      rename_i h
      refine .inr (.inl ⟨_, _, R.shStr hx e1, R.shStr hy e2, line6 h, k _ _ (Same.refl _) (R.scalB fun _ => .str _ (strOk_append (R.strOk hx e1) (R.strOk hy e2)))⟩)
    · cases e3
  · split at e3
    · cases e3
      rename_i xs ys h
      obtain ⟨p, vs, rfl, hp, lp, R1⟩ := R.shL hx e1
      obtain ⟨q, ws, rfl, hq, lq, R2⟩ := R1.shL hy e2
      refine .inr (.inr (.inl ⟨p, q, vs, ws, rfl, rfl, hp, hq, line6 (by omega), fun r hr => k _ _ (sameNew hr) ?_⟩))
      refine Rep.lentL (vs := vs ++ ws) (ds := xs ++ ys) ?_ (by simp [lp, lq]) hr
      have ez : zipI (vs ++ ws) ((xs ++ ys).map O.val) = zipI vs (xs.map O.val) ++ zipI ws (ys.map O.val) := by
        unfold zipI
        rw [List.map_append, List.zipWith_append (by simpa using lp)]
      rw [ez, List.append_assoc]
      exact R2.perm (by rw [← List.append_assoc, ← List.append_assoc]; exact List.perm_append_comm.append_right L)
    · cases e3
  · split at e3
    · cases e3
      rename_i xs ys h
      obtain ⟨p, vs, rfl, hp, lp, R1⟩ := R.shT hx e1
      obtain ⟨q, ws, rfl, hq, lq, R2⟩ := R1.shT hy e2
      have ea := sh_val_of e1 (fun _ => by intro z; cases z) (fun _ _ => by intro z; cases z) (fun _ _ _ => by intro z; cases z)
      have eb := sh_val_of e2 (fun _ => by intro z; cases z) (fun _ _ => by intro z; cases z) (fun _ _ _ => by intro z; cases z)
      subst ea eb
      refine .inr (.inr (.inr ⟨p, q, vs, ws, rfl, rfl, hp, hq, line6 (by omega), fun e => k _ _ (Same.refl _) ?_, fun _ e => k _ _ (Same.refl _) ?_, fun _ _ r hr => k _ _ (sameNew hr) ?_⟩))
      · have : xs = [] := List.eq_nil_of_length_eq_zero (by rw [← lp, e]; rfl)
        subst this
        exact R.bdup hy
      · have : ys = [] := List.eq_nil_of_length_eq_zero (by rw [← lq, e]; rfl)
        subst this
        rw [List.append_nil]
        exact R.bdup hx
      · refine Rep.lentT (vs := vs ++ ws) (ds := xs ++ ys) ?_ (by simp [lp, lq]) hr
        have ez : zipI (vs ++ ws) ((xs ++ ys).map O.val) = zipI vs (xs.map O.val) ++ zipI ws (ys.map O.val) := by
          unfold zipI
          rw [List.map_append, List.zipWith_append (by simpa using lp)]
        rw [ez, List.append_assoc]
        exact R2.perm (by rw [← List.append_assoc, ← List.append_assoc]; exact List.perm_append_comm.append_right L)
    · cases e3
  · cases e3
theorem opv_sub : OpV K mg (rI0 fun i j => .int (i - j)) (lift2 subD) := opv_int0 fun x y d e => by
  unfold subD at e
  split at e
  · cases e; exact ⟨_, _, rfl, rfl, fun _ => .int _⟩
  · cases e
theorem opv_lt : OpV K mg (rI0 fun i j => .bl (decide (i < j))) (lift2 ltD) := opv_int0 fun x y d e => by
  unfold ltD at e
  split at e
  · cases e; exact ⟨_, _, rfl, rfl, fun _ => .bl _⟩
  · cases e
theorem opv_le : OpV K mg (rI0 fun i j => .bl (decide (i ≤ j))) (lift2 leD) := opv_int0 fun x y d e => by
  unfold leD at e
  split at e
  · cases e; exact ⟨_, _, rfl, rfl, fun _ => .bl _⟩
  · cases e
theorem opv_gt : OpV K mg (rI0 fun i j => .bl (decide (j < i))) (lift2 gtD) := opv_int0 fun x y d e => by
  unfold gtD at e
  split at e
  · cases e; exact ⟨_, _, rfl, rfl, fun _ => .bl _⟩
  · cases e
theorem opv_ge : OpV K mg (rI0 fun i j => .bl (decide (j ≤ i))) (lift2 geD) := opv_int0 fun x y d e => by
  unfold geD at e
  split at e
  · cases e; exact ⟨_, _, rfl, rfl, fun _ => .bl _⟩
  · cases e
theorem opv_fdiv : OpV K mg (rI CDivW fun i j => .int (i / j)) (lift2 fdivD) := opv_int fun x y d e => by
  unfold fdivD at e
  split at e
  · split at e
    · rename_i h
      cases e; exact ⟨_, _, rfl, rfl, h, fun _ => .int _⟩
    · cases e
  · cases e
theorem opv_mod : OpV K mg (rI (fun _ j => 0 < j) fun i j => .int (i % j)) (lift2 modD) := opv_int fun x y d e => by
  unfold modD at e
  split at e
  · split at e
    · rename_i h
      cases e; exact ⟨_, _, rfl, rfl, h, fun _ => .int _⟩
    · cases e
  · cases e
theorem opv_pow : OpV K mg (rI CPow fun i j => .int (i ^ j.toNat)) (lift2 powD) := opv_int fun x y d e => by
  unfold powD at e
  split at e
  · split at e
    · rename_i h
      cases e; exact ⟨_, _, rfl, rfl, h, fun _ => .int _⟩
    · cases e
  · cases e
theorem foldl_repN (its : List Nat) : ∀ (k : Nat) (acc : List Nat), List.foldl (fun x1 x2 => x1 ++ x2) acc.toArray (List.replicate k its.toArray) = (acc ++ (List.replicate k its).flatten).toArray
  | 0, acc => by simp
  | k + 1, acc => by
    have e : acc.toArray ++ its.toArray = (acc ++ its).toArray := by simp
    rw [List.replicate_succ, List.foldl_cons, e, foldl_repN its k, List.replicate_succ, List.flatten_cons, List.append_assoc]
/-- a text again and again -/
def rRepS : R2 := fun x y H Q => ∃ s k, x = .str s ∧ y = .int k ∧ k < 1000000 ∧ -1000000 < k ∧ s.length * k.toNat ≤ 1000000 ∧ Q (.str (repS s k.toNat)) H
theorem op_repS : OpR X (binaryOp .Mult) rRepS := by
  intro pins s σ H x y v u Q I rx ry h
  obtain ⟨z, k, rfl, rfl, h1, h2, h3, q⟩ := h
  obtain ⟨t, rfl⟩ := rx
  obtain ⟨t', rfl⟩ := ry
  have hl : z.cps.toList.length = z.length := by simp [Str.length]
  refine P.mul_str ?_ ?_ ?_ ?_
  · have l63 : (2 : Int) ^ 63 = 9223372036854775808 := by decide
    rw [l63]
    have d1 : ¬ k < -9223372036854775808 := by omega
    have d2 : ¬ k ≥ 9223372036854775808 := by omega
    rw [decide_eq_false d1, decide_eq_false d2]; rfl
  · intro a1 _ a3
    have hk : 1 ≤ k := by omega
    have h4 : (z.length : Int) * k ≤ 1000000 := by
      have : (z.length : Int) * (k.toNat : Int) ≤ 1000000 := by rw [← Int.natCast_mul]; exact Int.ofNat_le.mpr h3
      rwa [show ((k.toNat : Nat) : Int) = k by omega] at this
    have l63 : (2 : Int) ^ 63 = 9223372036854775808 := by decide
    have h6 : (z.length : Int) ≤ (9223372036854775808 - 1) / k := Int.le_ediv_of_mul_le (by omega) (Int.le_trans h4 (by decide))
    rw [l63] at a3
    exact absurd a3 (Int.not_lt.mpr h6)
  · intro _ _
    unfold Builtin.Str.tooLong
    have : ¬ z.length * k.toNat > sizeLine := by rw [sizeLine_eq]; omega
    exact decide_eq_false this
  · by_cases a1 : k < 1
    · rw [if_pos a1]
      have e : repS z k.toNat = Str.empty := by unfold repS; rw [show k.toNat = 0 by omega]; rfl
      rw [e] at q
      exact ⟨by decide, .str Str.empty, H, I.tok _, ⟨_, rfl⟩, q⟩
    · rw [if_neg a1]
      by_cases a2 : (k == 1 || z.length == 0) = true
      · rw [if_pos a2]
        have e : repS z k.toNat = z := by
          unfold repS
          rw [Bool.or_eq_true, beq_iff_eq, beq_iff_eq] at a2
          rcases a2 with a2 | a2
          · rw [show k.toNat = 1 by omega]; simp
          · have : z.cps.toList = [] := by rw [← hl] at a2; exact List.eq_nil_of_length_eq_zero a2
            rw [this]
            have z0 : z = ⟨#[]⟩ := by
              cases z with
              | mk a =>
                have : a = #[] := by apply Array.toList_inj.mp; exact this
                rw [this]
            rw [z0]
            have : ∀ m : Nat, (List.replicate m ([] : List Nat)).flatten = [] := fun m => by simp
            rw [this]
        rw [e] at q
        exact ⟨.str z, H, I, ⟨_, rfl⟩, q⟩
      · rw [if_neg a2]
        have e : (⟨(List.replicate k.toNat z.cps).foldl (· ++ ·) #[]⟩ : Str) = repS z k.toNat := by
          unfold repS
          have := foldl_repN z.cps.toList k.toNat []
          rw [List.nil_append] at this
          rw [← this]
        rw [e]
        refine ⟨?_, .str (repS z k.toNat), H, I.tok _, ⟨_, rfl⟩, q⟩
        have : (repS z k.toNat).length ≤ 1000000 := by
          show (repS z k.toNat).cps.size ≤ _
          unfold repS
          simp
          rw [show z.cps.size = z.length from rfl, Nat.mul_comm]; exact h3
        first
          | (rw [sizeLine_eq]; omega)
          | (have := this; show _ ≤ sizeLine; rw [sizeLine_eq]; omega)
theorem repS_ok {s : Str} (h : PyData.strOk s = true) (k : Nat) : PyData.strOk (repS s k) = true := by
  have q : ∀ c ∈ s.cps.toList, decide (c < 0x110000) = true := by
    have h : s.cps.all (· < 0x110000) = true := h
    rw [← Array.all_toList, List.all_eq_true] at h
    exact h
  show (repS s k).cps.all (· < 0x110000) = true
  rw [← Array.all_toList, List.all_eq_true]
  intro c hc
  have hc : c ∈ (List.replicate k s.cps.toList).flatten := hc
  obtain ⟨l, hl, hm⟩ := List.mem_flatten.mp hc
  rw [(List.mem_replicate.mp hl).2] at hm
  exact q c hm
def rMulF (K : PySem.W.Frag) : R2 := fun x y H Q => rI CMul (fun i j => .int (i * j)) x y H Q ∨ (rI CMulW (fun i j => .int (i * j)) x y H Q ∨ (rRepR x y H Q ∨ rRepS x y H Q))
theorem op_mulF : OpR X (binaryOp .Mult) (rMulF X.K) := op_mul.or (op_mulW.or (op_repR.or op_repS))
theorem zip_rep (vs : List V) (xs : List D) (lp : vs.length = xs.length) : ∀ n : Nat, zipI (List.replicate n vs).flatten ((List.replicate n xs).flatten.map O.val) = (List.replicate n (zipI vs (xs.map O.val))).flatten
  | 0 => rfl
  | n + 1 => by
    rw [List.replicate_succ, List.replicate_succ, List.replicate_succ, List.flatten_cons, List.flatten_cons, List.flatten_cons, ← zip_rep vs xs lp n]
    unfold zipI
    rw [List.map_append, List.zipWith_append (by simpa using lp)]
theorem len_rep {α β : Type} (vs : List α) (xs : List β) (lp : vs.length = xs.length) : ∀ n : Nat, (List.replicate n vs).flatten.length = (List.replicate n xs).flatten.length
  | 0 => rfl
  | n + 1 => by rw [List.replicate_succ, List.replicate_succ, List.flatten_cons, List.flatten_cons, List.length_append, List.length_append, lp, len_rep vs xs lp n]
/-- shared items again and again -/
theorem Rep.again {H : Hp} {L : List Item} {B : List (V × O)} {vs : List V} {xs : List D} (R : Rep K mg H (zipI vs (xs.map O.val) ++ L) B) : ∀ n : Nat, Rep K mg H ((List.replicate n (zipI vs (xs.map O.val))).flatten ++ L) B
  | 0 => R.dropVs
  | n + 1 => by
    have ih := Rep.again R n
    obtain ⟨A, nd, ok, hb⟩ := R
    obtain ⟨A', nd', ok', hb'⟩ := ih
    obtain ⟨bs, cs, e2, t1, t2⟩ := ok.split
    have e0 : ∀ {vs : List V} {ds : List D} {as : List Addr}, IsOk K mg (hide H A) H (zipI vs (ds.map O.val)) as → as = [] := by
      intro vs
      induction vs with
      | nil => intro ds as t; cases ds <;> cases t <;> rfl
      | cons w vs ih =>
        intro ds as t
        cases ds with
        | nil => cases t; rfl
        | cons e ds =>
          cases t with
          | cons t r =>
            have := ih r
            subst this
            cases t with
            | ov t => cases t with
              | val t => rfl
    have e3 := e0 t1
    subst e3
    rw [List.nil_append] at e2
    subst e2
    refine ⟨A, nd, ?_, hb⟩
    rw [List.replicate_succ, List.flatten_cons, List.append_assoc]
    refine IsOk.append (as := []) t1 ?_
    clear hb' ok' nd' ok hb
    induction n with
    | zero => exact t2
    | succ n ih =>
      rw [List.replicate_succ, List.flatten_cons, List.append_assoc]
      exact IsOk.append (as := []) t1 ih
theorem opv_mul : OpV K mg (rMulF K) (lift2 mulD) := by
  intro H L B x y ox oy o Q R hx hy e k
  obtain ⟨a, b, d, e1, e2, e3, rfl⟩ := lift2_eq e
  unfold mulD at e3
  split at e3
  · split at e3
    · rename_i i j h
      cases e3
      have q := k _ H (Same.refl _) (R.scalB (v := .int (i * j)) (d := .int (i * j)) fun _ => .int _)
      unfold mulOk at h
      simp only [Bool.or_eq_true, decide_eq_true_eq] at h
      rcases h with (h | h) | h
      · exact .inl ⟨i, j, R.shInt hx e1, R.shInt hy e2, .inl (by omega), q⟩
      · exact .inl ⟨i, j, R.shInt hx e1, R.shInt hy e2, .inr (by omega), q⟩
      · exact .inr (.inl ⟨i, j, R.shInt hx e1, R.shInt hy e2, h, q⟩)
    · cases e3
  · split at e3
    · rename_i xs j h
      cases e3
      obtain ⟨p, vs, rfl, hp, lp, R1⟩ := R.shL hx e1
      obtain ⟨h1, h2, h3⟩ := h
      refine .inr (.inr (.inl ⟨p, j, vs, rfl, R.shInt hy e2, hp, by omega, by omega, line6 (by rw [lp]; exact h3), fun r hr => k _ _ (sameNew hr) ?_⟩))
      refine Rep.lentL ?_ (len_rep _ _ lp _) hr
      rw [zip_rep _ _ lp]
      exact Rep.again R1 _
    · cases e3
  · split at e3
    · rename_i s j h
      cases e3
      obtain ⟨h1, h2, h3⟩ := h
      exact .inr (.inr (.inr ⟨s, j, R.shStr hx e1, R.shInt hy e2, h1, h2, h3, k _ _ (Same.refl _) (R.scalB fun _ => .str _ (repS_ok (R.strOk hx e1) _))⟩))
    · cases e3
  · cases e3
end
end FB

/-! Comparisons, membership, subscripts, slices, built-ins. -/
namespace FB
open PySem PySem.Spec L2
open PyProof.Rows hiding St

section
variable {X : Cx} {K : PySem.W.Frag} {mg : Str → Option Value}
/-! ### == and != -/
def eqO (a b : O) : Option O := if (a.toD.okE 9 && b.toD.okE 9) = true then some (.val (.bl (a.toD.eqv b.toD))) else none
def neO (a b : O) : Option O := if (a.toD.okE 9 && b.toD.okE 9) = true then some (.val (.bl (!a.toD.eqv b.toD))) else none
theorem opv_eq : OpV K mg (rEqD K) eqO := by
  intro H L B x y ox oy o Q R hx hy e k
  unfold eqO at e
  split at e
  · rename_i h
    cases e
    rw [Bool.and_eq_true] at h
    have v1 : Vw K mg H x ox.toD := R.view hx
    have v2 : Vw K mg H y oy.toD := R.view hy
    exact ⟨_, _, v1.dp 9 h.1, v2.dp 9 h.2, v1.shaped h.1, v2.shaped h.2, k _ _ (Same.refl _) (R.scalB fun _ => .bl _)⟩
  · cases e
theorem opv_ne : OpV K mg (rNeD K) neO := by
  intro H L B x y ox oy o Q R hx hy e k
  unfold neO at e
  split at e
  · rename_i h
    cases e
    rw [Bool.and_eq_true] at h
    have v1 : Vw K mg H x ox.toD := R.view hx
    have v2 : Vw K mg H y oy.toD := R.view hy
    exact ⟨_, _, v1.dp 9 h.1, v2.dp 9 h.2, v1.shaped h.1, v2.shaped h.2, k _ _ (Same.refl _) (R.scalB fun _ => .bl _)⟩
  · cases e
/-! ### is None -/
def O.isNon : O → Bool
  | .val .non => true
  | _ => false
def isNO (a b : O) : Option O := match b with
  | .val .non => some (.val (.bl a.isNon))
  | _ => none
def notNO (a b : O) : Option O := match b with
  | .val .non => some (.val (.bl (!a.isNon)))
  | _ => none
theorem isNon_iff {G H : Hp} {v : V} {o : O} {as : List Addr} (h : VO K mg G H v o as) : decide (v = .non) = o.isNon := by
  cases h with
  | val h => cases h <;> rfl
  | lst _ _ => rfl
  | dct _ _ _ => rfl
  | ins _ _ _ _ => rfl
theorem Rep.isNon {H : Hp} {L : List Item} {B : List (V × O)} {x : V} {o : O} (R : Rep K mg H L B) (hx : (x, o) ∈ B) : decide (x = .non) = o.isNon := by
  obtain ⟨A, nd, ok, hb⟩ := R
  obtain ⟨as, h1, _⟩ := hb _ hx
  exact isNon_iff h1
theorem opv_isN : OpV K mg (fun x y H Q => y = .non ∧ Q (.bl (decide (x = .non))) H) isNO := by
  intro H L B x y ox oy o Q R hx hy e k
  unfold isNO at e
  split at e
  · cases e
    rw [R.isNon hx]
    exact ⟨R.shNon hy rfl, k _ _ (Same.refl _) (R.scalB fun _ => .bl _)⟩
  · cases e
theorem opv_notN : OpV K mg (fun x y H Q => y = .non ∧ Q (.bl (!decide (x = .non))) H) notNO := by
  intro H L B x y ox oy o Q R hx hy e k
  unfold notNO at e
  split at e
  · cases e
    rw [R.isNon hx]
    exact ⟨R.shNon hy rfl, k _ _ (Same.refl _) (R.scalB fun _ => .bl _)⟩
  · cases e
/-! ### in, not in -/
def D.flat : D → Bool
  | .non => true
  | .bl _ => true
  | .int _ => true
  | .str _ => true
  | _ => false
theorem Vw.flat {G : Hp} {v : V} {d : D} (h : Vw K mg G v d) (e : d.flat = true) : flatV v = true := by
  cases h <;> first | rfl | cases e
theorem Vw.eqV {G : Hp} {v w : V} {d e : D} (h : Vw K mg G v d) (q : Vw K mg G w e) (f : d.flat = true) (g : e.flat = true) : L2.eqV v w = d.eqv e := by
  cases h <;> first | (cases f; done) | (cases q <;> first | rfl | (cases g; done))
theorem Vws.flat {G : Hp} : ∀ {vs : List V} {ds : List D}, Vws K mg G vs ds → ds.all D.flat = true → vs.all flatV = true
  | _, _, .nil, _ => rfl
  | _, _, .cons h t, e => by
    rw [List.all_cons, Bool.and_eq_true] at e
    rw [List.all_cons, h.flat e.1, Vws.flat t e.2]; rfl
theorem Vws.anyV {G : Hp} {x : V} {d : D} (hx : Vw K mg G x d) (fx : d.flat = true) : ∀ {vs : List V} {ds : List D}, Vws K mg G vs ds → ds.all D.flat = true → inV x vs = ds.any fun e => e.eqv d
  | _, _, .nil, _ => rfl
  | _, _, .cons h t, e => by
    rw [List.all_cons, Bool.and_eq_true] at e
    unfold inV
    rw [List.any_cons, List.any_cons, h.eqV hx e.1 fx]
    exact congrArg _ (Vws.anyV hx fx t e.2)
theorem any_pds (d : D) : ∀ ds : List D, ((D.pds ds).any fun z => PyData.eqv z d.pd) = ds.any fun e => e.eqv d
  | [] => rfl
  | e :: ds => by
    show (PyData.eqv e.pd d.pd || (D.pds ds).any _) = _
    rw [any_pds d ds]; rfl
def sign? (s : Str) : Option Nat := match s.cps.toList with
  | [c] => some c
  | _ => none
theorem sign?_eq {s : Str} {c : Nat} (h : sign? s = some c) : s = ⟨#[c]⟩ := by
  unfold sign? at h
  split at h
  · rename_i d e
    cases h
    cases s with
    | mk a =>
      have e : a.toList = [c] := e
      have : a = #[c] := by
        apply Array.toList_inj.mp
        rw [e]
      rw [this]
  · cases h
def inD (x l : D) : Option Bool := match l with
  | .str z => match x with
    | .str s => (sign? s).map fun c => decide (c ∈ z.cps.toList)
    | _ => none
  | .lst ds => if x.flat = true ∧ ds.all D.flat = true then some (ds.any fun e => e.eqv x) else if x.okE 9 = true ∧ ds.all (D.okE 8) = true then some (ds.any fun e => e.eqv x) else none
  | .tup ds => if x.flat = true ∧ ds.all D.flat = true then some (ds.any fun e => e.eqv x) else none
  | _ => none
def inO (a b : O) : Option O := (inD a.toD b.toD).map fun b => .val (.bl b)
def ninO (a b : O) : Option O := (inD a.toD b.toD).map fun b => .val (.bl !b)
def rInF (K : PySem.W.Frag) : R2 := fun x y H Q => rIn K false x y H Q ∨ (rInD K x y H Q ∨ ∃ (c : Nat) (z : Str), x = .str ⟨#[c]⟩ ∧ y = .str z ∧ Q (.bl (decide (c ∈ z.cps.toList))) H)
def rNinF (K : PySem.W.Frag) : R2 := fun x y H Q => rIn K true x y H Q ∨ (rNotInD K x y H Q ∨ ∃ (c : Nat) (z : Str), x = .str ⟨#[c]⟩ ∧ y = .str z ∧ Q (.bl (!decide (c ∈ z.cps.toList))) H)
theorem op_inF (ok : CxOk X) : OpR X (compareOp .In) (rInF X.K) := op_in_seq.or ((op_inD ok.units).or op_in_sign)
theorem op_ninF (ok : CxOk X) : OpR X (compareOp .NotIn) (rNinF X.K) := op_notIn_seq.or ((op_notInD ok.units).or op_notIn_sign)
theorem in_core {H : Hp} {x y : V} {d e : D} {b : Bool} (v1 : Vw K mg H x d) (v2 : Vw K mg H y e) (h : inD d e = some b) :
    (∃ p xs, y = .ref p ∧ (SqL K H p xs ∨ SqT K H p xs) ∧ flatV x = true ∧ xs.all flatV = true ∧ inV x xs = b) ∨
    (∃ d' ds, Dp K H x d' ∧ Dp K H y (.list ds) ∧ SeqAt.shaped d' = true ∧ SeqAt.shaped (.list ds) = true ∧ (ds.any fun z => PyData.eqv z d') = b) ∨
    ∃ (c : Nat) (z : Str), x = .str ⟨#[c]⟩ ∧ y = .str z ∧ decide (c ∈ z.cps.toList) = b := by
  unfold inD at h
  split at h
  · split at h
    · rename_i s
      cases e : sign? s with
      | none => rw [e] at h; cases h
      | some c =>
        rw [e] at h
        cases h
        have := sign?_eq e
        subst this
        cases v1; cases v2
        exact .inr (.inr ⟨_, _, rfl, rfl, rfl⟩)
    · cases h
  · rename_i ds
    split at h
    · rename_i q
      cases h
      cases v2 with
      | lst h2 hs =>
        exact .inl ⟨_, _, rfl, .inl (.inl h2), v1.flat q.1, hs.flat q.2, Vws.anyV v1 q.1 hs q.2⟩
    · split at h
      · rename_i q
        cases h
        have e2 : (D.lst ds).okE 9 = true := q.2
        refine .inr (.inl ⟨_, _, v1.dp 9 q.1, v2.dp 9 e2, v1.shaped q.1, v2.shaped e2, any_pds _ _⟩)
      · cases h
  · split at h
    · rename_i q
      cases h
      cases v2 with
      | tup h2 hs => exact .inl ⟨_, _, rfl, .inr h2, v1.flat q.1, hs.flat q.2, Vws.anyV v1 q.1 hs q.2⟩
    · cases h
  · cases h
theorem opv_in : OpV K mg (rInF K) inO := by
  intro H L B x y ox oy o Q R hx hy e k
  unfold inO at e
  cases h : inD ox.toD oy.toD with
  | none => rw [h] at e; cases e
  | some b =>
    rw [h] at e; cases e
    have q := k _ H (Same.refl _) (R.scalB (v := .bl b) (d := .bl b) fun _ => .bl b)
    rcases in_core (R.view hx) (R.view hy) h with ⟨p, xs, rfl, h1, h2, h3, h4⟩ | ⟨d', ds, h1, h2, h3, h4, h5⟩ | ⟨c, z, rfl, rfl, h1⟩
    · exact .inl ⟨p, xs, rfl, h1, h2, h3, by rw [if_neg Bool.false_ne_true, h4]; exact q⟩
    · exact .inr (.inl ⟨d', ds, h1, h2, h3, h4, by rw [h5]; exact q⟩)
    · exact .inr (.inr ⟨c, z, rfl, rfl, by rw [h1]; exact q⟩)
theorem opv_nin : OpV K mg (rNinF K) ninO := by
  intro H L B x y ox oy o Q R hx hy e k
  unfold ninO at e
  cases h : inD ox.toD oy.toD with
  | none => rw [h] at e; cases e
  | some b =>
    rw [h] at e; cases e
    have q := k _ H (Same.refl _) (R.scalB (v := .bl !b) (d := .bl !b) fun _ => .bl _)
    rcases in_core (R.view hx) (R.view hy) h with ⟨p, xs, rfl, h1, h2, h3, h4⟩ | ⟨d', ds, h1, h2, h3, h4, h5⟩ | ⟨c, z, rfl, rfl, h1⟩
    · exact .inl ⟨p, xs, rfl, h1, h2, h3, by rw [if_pos rfl, h4]; exact q⟩
    · exact .inr (.inl ⟨d', ds, h1, h2, h3, h4, by rw [h5]; exact q⟩)
    · exact .inr (.inr ⟨c, z, rfl, rfl, by rw [h1]; exact q⟩)
/-! ### x[i] -/
def ixO (a b : O) : Option O := match b with
  | .val (.int i) => match a with
    | .lst os => atI os i
    | .val (.lst ds) => (atI ds i).map O.val
    | .val (.tup ds) => (atI ds i).map O.val
    | .val (.scr ns) => (atI ns i).map fun n => .val (.int n)
    | .val (.str z) => if z.length ≤ 1000000 then (atI z.cps.toList i).map fun c => .val (.str ⟨#[c]⟩) else none
    | _ => none
  | _ => none
theorem atI_len {α β : Type} {xs : List α} {ys : List β} {i : Int} {y : β} (e : xs.length = ys.length) (h : atI ys i = some y) : ∃ (j : Nat) (x : α), ys[j]? = some y ∧ xs[j]? = some x ∧ atI xs i = some x := by
  unfold atI at h ⊢
  rw [← e] at h
  cases q : ixN xs.length i with
  | none => rw [q] at h; cases h
  | some j =>
    rw [q] at h
    have h : ys[j]? = some y := h
    have hj : j < ys.length := (List.getElem?_eq_some_iff.mp h).1
    exact ⟨j, xs[j]'(by omega), h, by simp, by simp⟩
theorem strOk_at {z : Str} {i : Int} {c : Nat} (h : PyData.strOk z = true) (e : atI z.cps.toList i = some c) : PyData.strOk ⟨#[c]⟩ = true := by
  obtain ⟨j, _, hj, _⟩ := atI_get e
  have hm : c ∈ z.cps.toList := by
    obtain ⟨j', _, h2, _⟩ := atI_get e
    exact List.mem_of_getElem? h2
  have q : ∀ c ∈ z.cps.toList, decide (c < 0x110000) = true := by
    have h : z.cps.all (· < 0x110000) = true := h
    rw [← Array.all_toList, List.all_eq_true] at h
    exact h
  show (#[c].all _) = true
  simp [of_decide_eq_true (q c hm)]
theorem opv_ix : OpV K mg (rIx K) ixO := by
  intro H L B x y ox oy o Q R hx hy e k
  unfold ixO at e
  split at e
  · rename_i i
    have ey : y = .int i := R.shInt hy rfl
    split at e
    · rename_i os
      obtain ⟨A, nd, ok, hb⟩ := id R
      obtain ⟨as, h1, h2⟩ := hb _ hx
      cases h1 with
      | lst h1 hs =>
        obtain ⟨j, v, e1, e2, e3⟩ := atI_len hs.length e
        refine .inl ⟨_, _, i, v, rfl, ey, SqL.of h1, e3, k v H (Same.refl _) ⟨A, nd, ok, fun b q => ?_⟩⟩
        rcases List.mem_cons.mp q with q | q
        · subst q
          have sub : ∀ {vs : List V} {os : List O} {as : List Addr} {j : Nat} {v : V} {o : O}, VOs K mg (hide H A) H vs os as → os[j]? = some o → vs[j]? = some v → ∃ bs, VO K mg (hide H A) H v o bs ∧ ∀ a ∈ bs, a ∈ as := by
            intro vs
            induction vs with
            | nil => intro os as j v o t h1 h2; simp at h2
            | cons w vs ih =>
              intro os as j v o t h1 h2
              cases t with
              | cons t r =>
                cases j with
                | zero =>
                  simp at h1 h2
                  subst h1 h2
                  exact ⟨_, t, fun a ha => by simp [ha]⟩
                | succ j =>
                  obtain ⟨bs, q1, q2⟩ := ih r (by simpa using h1) (by simpa using h2)
                  exact ⟨bs, q1, fun a ha => by simp [q2 a ha]⟩
          obtain ⟨bs, q1, q2⟩ := sub hs e1 e2
          exact ⟨bs, q1, fun a ha => h2 a (by simp [q2 a ha])⟩
        · exact hb b q
    · rename_i ds
      cases e1 : atI ds i with
      | none => rw [e1] at e; cases e
      | some d =>
        rw [e1] at e; cases e
        obtain ⟨p, vs, rfl, hp, lp, R1⟩ := R.shL hx rfl
        obtain ⟨j, v, e1, e2, e3⟩ := atI_len lp e1
        exact .inl ⟨p, vs, i, v, rfl, ey, .inl hp, e3, k v H (Same.refl _) (R1.nth e2 e1)⟩
    · rename_i ds
      cases e1 : atI ds i with
      | none => rw [e1] at e; cases e
      | some d =>
        rw [e1] at e; cases e
        obtain ⟨p, vs, rfl, hp, lp, R1⟩ := R.shT hx rfl
        obtain ⟨j, v, e1, e2, e3⟩ := atI_len lp e1
        exact .inr (.inl ⟨p, vs, i, v, rfl, ey, hp, e3, k v H (Same.refl _) (R1.nth e2 e1)⟩)
    · rename_i ns
      cases e1 : atI ns i with
      | none => rw [e1] at e; cases e
      | some n =>
        rw [e1] at e; cases e
        have q : Vw K mg H x (.scr ns) := R.view hx
        cases q with
        | scr h =>
          have e4 : (ns.map V.int).length = ns.length := by simp
          obtain ⟨j, v, e1, e2, e3⟩ := atI_len e4 e1
          rw [List.getElem?_map, e1] at e2
          cases e2
          exact .inl ⟨_, _, i, _, rfl, ey, h, e3, k _ H (Same.refl _) (R.scalB fun _ => .int n)⟩
    · rename_i z
      split at e
      · rename_i hz
        cases e1 : atI z.cps.toList i with
        | none => rw [e1] at e; cases e
        | some c =>
          rw [e1] at e; cases e
          refine .inr (.inr ⟨z, i, c, R.shStr hx rfl, ey, line6 hz, e1, k _ H (Same.refl _) (R.scalB fun _ => .str _ (strOk_at (R.strOk hx rfl) e1))⟩)
      · cases e
    · cases e
  · cases e
/-! ### len -/
def lenO (a : O) : Option O := match a with
  | .lst os => some (.val (.int os.length))
  | .val (.lst ds) => some (.val (.int ds.length))
  | .val (.tup ds) => some (.val (.int ds.length))
  | .val (.scr ns) => some (.val (.int ns.length))
  | .val (.str z) => if z.length ≤ 1000000 then some (.val (.int z.length)) else none
  | .val (.dct _ _) => none
  | .dct ks _ => some (.val (.int ks.length))
  | _ => none
def rLenF (K : PySem.W.Frag) : List V → Hp → VK → Prop := fun xs H Q => (∃ x n, xs = [x] ∧ LenV K x H n ∧ Q (.int n) H) ∨ (∃ a kvs, xs = [V.ref a] ∧ H a = some (.dK kvs) ∧ Q (.int kvs.length) H)
theorem Rep.ownL {H : Hp} {L : List Item} {B : List (V × O)} {x : V} {os : List O} (R : Rep K mg H L B) (hx : (x, .lst os) ∈ B) : ∃ p vs, x = .ref p ∧ H p = some (.lst vs) ∧ vs.length = os.length := by
  obtain ⟨A, nd, ok, hb⟩ := R
  obtain ⟨as, h1, h2⟩ := hb _ hx
  cases h1 with
  | lst h1 hs => exact ⟨_, _, rfl, h1, hs.length⟩
theorem Rep.ownD {H : Hp} {L : List Item} {B : List (V × O)} {x : V} {ks : List Key} {os : List O} (R : Rep K mg H L B) (hx : (x, .dct ks os) ∈ B) : ∃ p kvs, x = .ref p ∧ H p = some (.dK kvs) ∧ (kvs.map (·.1) = ks ∧ ks.Nodup) ∧ kvs.length = os.length := by
  obtain ⟨A, nd, ok, hb⟩ := R
  obtain ⟨as, h1, h2⟩ := hb _ hx
  cases h1 with
  | dct h1 hk hs => exact ⟨_, _, rfl, h1, hk, by have := hs.length; simpa using this⟩
theorem unv_len : UnV K mg (fun x H Q => rLenF K [x] H Q) lenO := by
  intro H L B x ox o Q R hx e k
  unfold lenO at e
  split at e
  · cases e
    obtain ⟨p, vs, rfl, hp, lp⟩ := R.ownL hx
    exact .inl ⟨_, vs.length, rfl, .inl ⟨vs, SqL.of hp, rfl⟩, by rw [lp]; exact k _ _ (Same.refl _) (R.scalB fun _ => .int _)⟩
  · cases e
    obtain ⟨p, vs, rfl, hp, lp, _⟩ := R.shL hx rfl
    exact .inl ⟨_, vs.length, rfl, .inl ⟨vs, .inl hp, rfl⟩, by rw [lp]; exact k _ _ (Same.refl _) (R.scalB fun _ => .int _)⟩
  · cases e
    obtain ⟨p, vs, rfl, hp, lp, _⟩ := R.shT hx rfl
    exact .inl ⟨_, vs.length, rfl, .inr ⟨vs, hp, rfl⟩, by rw [lp]; exact k _ _ (Same.refl _) (R.scalB fun _ => .int _)⟩
  · cases e
    rename_i ns
    have q : Vw K mg H x (.scr ns) := R.view hx
    cases q with
    | scr h => exact .inl ⟨_, ns.length, rfl, .inl ⟨_, h, by simp⟩, k _ _ (Same.refl _) (R.scalB fun _ => .int _)⟩
  · split at e
    · rename_i z hz
      cases e
      rw [R.shStr hx rfl]
      exact .inl ⟨_, z.length, rfl, ⟨line6 hz, rfl⟩, k _ _ (Same.refl _) (R.scalB fun _ => .int _)⟩
    · cases e
  · cases e
  · cases e
    obtain ⟨p, kvs, rfl, hp, hk, lp⟩ := R.ownD hx
    refine .inr ⟨p, kvs, rfl, hp, ?_⟩
    have : kvs.length = (List.map (·.1) kvs).length := by simp
    rw [this, hk.1]
    exact k _ _ (Same.refl _) (R.scalB fun _ => .int _)
  · cases e
end
end FB

/-! Slices, built-ins by name, tests, displays. -/
namespace FB
open PySem PySem.Spec L2
open PyProof.Rows hiding St

section
variable {X : Cx} {K : PySem.W.Frag} {mg : Str → Option Value}
/-! ### slices -/
def cutL {α : Type} (xs : List α) (lo hi : Option Int) : List α := (xs.drop (HT.sIx xs.length 0 lo)).take (HT.sIx xs.length xs.length hi - HT.sIx xs.length 0 lo)
theorem cutL_map {α β : Type} (f : α → β) (xs : List α) (lo hi : Option Int) : cutL (xs.map f) lo hi = (cutL xs lo hi).map f := by
  unfold cutL
  rw [List.length_map, List.map_take, List.map_drop]
def slO (a : O) (lo hi : Option Int) : Option O := match a.sh with
  | some (.lst ds) => some (.val (.lst (cutL ds lo hi)))
  | some (.tup ds) => some (.val (.tup (cutL ds lo hi)))
  | some (.scr ns) => some (.val (.lst ((cutL ns lo hi).map D.int)))
  | some (.str z) => if z.length ≤ 1000000 then some (.val (.str (cutS z lo hi))) else none
  | _ => none
def rSlF (K : PySem.W.Frag) : V → Option Int → Option Int → Hp → VK → Prop := fun x lo hi H Q => rSlL K x lo hi H Q ∨ (rSlA K x lo hi H Q ∨ rSlS x lo hi H Q)
theorem sl_F : SlR X (rSlF X.K) := sl_list.or (sl_tupA.or sl_str)
theorem zip_cut (vs : List V) (ds : List D) (e : vs.length = ds.length) (lo hi : Option Int) : zipI (cutL vs lo hi) ((cutL ds lo hi).map O.val) = cutL (zipI vs (ds.map O.val)) lo hi := by
  have hz : (zipI vs (ds.map O.val)).length = ds.length := by unfold zipI; simp [e]
  unfold cutL
  rw [hz, e]
  unfold zipI
  rw [List.map_take, List.map_drop, List.drop_zipWith, List.take_zipWith]
theorem len_cut {α β : Type} (vs : List α) (ds : List β) (e : vs.length = ds.length) (lo hi : Option Int) : (cutL vs lo hi).length = (cutL ds lo hi).length := by
  unfold cutL
  simp [e]
theorem vals_nil {G H : Hp} : ∀ {vs : List V} {ds : List D} {as : List Addr}, IsOk K mg G H (zipI vs (ds.map O.val)) as → as = [] := by
  intro vs
  induction vs with
  | nil => intro ds as t; cases ds <;> cases t <;> rfl
  | cons w vs ih =>
    intro ds as t
    cases ds with
    | nil => cases t; rfl
    | cons e ds =>
      cases t with
      | cons t r =>
        have := ih r
        subst this
        cases t with
        | ov t => cases t with
          | val t => rfl
theorem vals_sub {G H : Hp} {M N : List Item} (h : IsOk K mg G H N []) (s : M.Sublist N) : IsOk K mg G H M [] := by
  induction s with
  | slnil => exact .nil
  | cons a s ih =>
    generalize e : ([] : List Addr) = as at h
    cases h with
    | cons h t =>
      rename_i as bs
      have e := List.append_eq_nil_iff.mp e.symm
      obtain ⟨e1, e2⟩ := e
      subst e1 e2
      exact ih t
  | cons_cons a s ih =>
    generalize e : ([] : List Addr) = as at h
    cases h with
    | cons h t =>
      rename_i as bs
      have e := List.append_eq_nil_iff.mp e.symm
      obtain ⟨e1, e2⟩ := e
      subst e1 e2
      exact .cons (as := []) h (ih t)
/-- some of the shared items -/
theorem Rep.someOf {H : Hp} {L : List Item} {B : List (V × O)} {vs : List V} {ds : List D} {M : List Item} (R : Rep K mg H (zipI vs (ds.map O.val) ++ L) B) (s : M.Sublist (zipI vs (ds.map O.val))) : Rep K mg H (M ++ L) B := by
  obtain ⟨A, nd, ok, hb⟩ := R
  obtain ⟨bs, cs, e2, t1, t2⟩ := ok.split
  subst e2
  have e3 := vals_nil t1
  subst e3
  exact ⟨_, nd, IsOk.append (as := []) (vals_sub t1 s) t2, hb⟩
theorem strOk_cut {z : Str} (h : PyData.strOk z = true) (lo hi : Option Int) : PyData.strOk (cutS z lo hi) = true := by
  have h : z.cps.all (· < 0x110000) = true := h
  rw [← Array.all_toList, List.all_eq_true] at h
  show (Array.all _ _) = true
  rw [← Array.all_toList, List.all_eq_true]
  intro c hc
  exact h c (List.mem_of_mem_drop (List.mem_of_mem_take (by simpa [cutS] using hc)))
theorem slv {H : Hp} {L : List Item} {B : List (V × O)} {x : V} {ox o : O} {lo hi : Option Int} {Q : VK} (R : Rep K mg H L B) (hx : (x, ox) ∈ B) (e : slO ox lo hi = some o) (k : ∀ v H', Same H H' → Rep K mg H' L ((v, o) :: B) → Q v H') : rSlF K x lo hi H Q := by
  unfold slO at e
  split at e
  · rename_i ds e1
    cases e
    obtain ⟨p, vs, rfl, hp, lp, R1⟩ := R.shL hx e1
    refine .inl ⟨p, vs, rfl, .inl hp, fun q hq => k _ _ (sameNew hq) ?_⟩
    refine Rep.lentL (vs := cutL vs lo hi) (ds := cutL ds lo hi) (R1.someOf ?_) (len_cut _ _ lp lo hi) hq
    rw [zip_cut _ _ lp]
    exact (List.take_sublist _ _).trans (List.drop_sublist _ _)
  · rename_i ds e1
    cases e
    obtain ⟨p, vs, rfl, hp, lp, R1⟩ := R.shT hx e1
    refine .inr (.inl ⟨p, vs, rfl, hp, fun hw => k _ _ (Same.refl _) ?_, fun hw q hq => k _ _ (sameNew hq) ?_⟩)
    · have : cutL ds lo hi = ds := by
        unfold cutL
        rw [← lp, hw.1, hw.2, List.drop_zero, Nat.sub_zero, lp, List.take_length]
      rw [this]
      have ea := sh_val_of e1 (fun _ => by intro z; cases z) (fun _ _ => by intro z; cases z) (fun _ _ _ => by intro z; cases z)
      subst ea
      exact R.bdup hx
    · refine Rep.lentT (vs := cutL vs lo hi) (ds := cutL ds lo hi) (R1.someOf ?_) (len_cut _ _ lp lo hi) hq
      rw [zip_cut _ _ lp]
      exact (List.take_sublist _ _).trans (List.drop_sublist _ _)
  · rename_i ns e1
    cases e
    have q : Vw K mg H x (.scr ns) := R.sh hx e1
    cases q with
    | scr h =>
      refine .inl ⟨_, _, rfl, h, fun q hq => k _ _ (sameNew hq) ?_⟩
      have e2 : cutV (ns.map V.int) lo hi = (cutL ns lo hi).map V.int := cutL_map _ _ _ _
      rw [e2]
      refine Rep.lentL ?_ (by simp) hq
      have : ∀ (ms : List Int), Rep K mg H (zipI (ms.map V.int) ((ms.map D.int).map O.val) ++ L) B := by
        intro ms
        induction ms with
        | nil => exact R
        | cons m ms ih => exact ih.scal fun _ => .int m
      exact this _
  · split at e
    · rename_i z e1 hz
      cases e
      exact .inr (.inr ⟨z, R.shStr hx e1, line6 hz, k _ _ (Same.refl _) (R.scalB fun _ => .str _ (strOk_cut (R.strOk hx e1) lo hi))⟩)
    · cases e
  · cases e
/-- a slice's bound -/
def tPO (K : PySem.W.Frag) (mg : Str → Option Value) (f : Env → Option (Option Int)) : TO := fun σ H Q => ∃ ρ T B i, Cov σ ρ ∧ Rep K mg H (pairs σ ρ ++ T) B ∧ f ρ = some i ∧ ∀ H', Same H H' → Rep K mg H' (pairs σ ρ ++ T) B → Q i H'
def tMO (K : PySem.W.Frag) (mg : Str → Option Value) (m : M (Option Int)) : TO := fun σ H Q => ∃ ρ T i ρ', Cov σ ρ ∧ Rep K mg H (pairs σ ρ ++ T) [] ∧ m ρ = .ok i ρ' ∧ ∀ H', Cov σ ρ' → Rep K mg H' (pairs σ ρ' ++ T) [] → Q i H'
theorem PO.imp {X : Cx} {e : Option Expr} {t t' : TO} (h : PO X e t) (q : ∀ σ H Q, t' σ H Q → t σ H Q) : PO X e t' := ⟨fun pins s σ H Q I w => h.run pins s σ H Q I (q σ H Q w)⟩
def SPO (X : Cx) (e : Option Expr) (f : Env → Option (Option Int)) : Prop := PO X e (tPO X.K X.mg f)
def SEO (X : Cx) (e : Option Expr) (m : M (Option Int)) : Prop := PO X e (tMO X.K X.mg m)
def pNone : Env → Option (Option Int) := fun _ => some none
def pInt (f : Pf) : Env → Option (Option Int) := fun ρ => match f ρ with
  | some (.val (.int i)) => some (some i)
  | _ => none
def mNone : M (Option Int) := fun ρ => .ok none ρ
def mInt (m : M O) : M (Option Int) := fun ρ => (m ρ).bind fun o ρ' => match o with
  | .val (.int i) => .ok (some i) ρ'
  | _ => .no
theorem spo_none : SPO X none pNone := PO.imp po_none fun σ H Q h => by
  obtain ⟨ρ, T, B, i, c, R, e, k⟩ := h
  cases e
  exact k H (Same.refl _) R
theorem seo_none : SEO X none mNone := PO.imp po_none fun σ H Q h => by
  obtain ⟨ρ, T, i, ρ', c, R, e, k⟩ := h
  cases e
  exact k H c R
theorem spo_some {e : Expr} {f : Pf} (h : SP X e f) : SPO X (some e) (pInt f) := PO.imp (po_some h) fun σ H Q q => by
  obtain ⟨ρ, T, B, i, c, R, e, k⟩ := q
  unfold pInt at e
  split at e
  · rename_i j e1
    cases e
    refine ⟨ρ, T, B, _, c, R, e1, fun v H' s' R' => ⟨j, R'.shInt (List.mem_cons_self ..) rfl, k H' s' R'.bdrop⟩⟩
  · cases e
theorem seo_some {e : Expr} {m : M O} (h : SE X e m) : SEO X (some e) (mInt m) := PO.imp (po_some h) fun σ H Q q => by
  obtain ⟨ρ, T, i, ρ', c, R, e, k⟩ := q
  obtain ⟨o, ρ1, e1, e⟩ := Res.bind_eq e
  split at e
  · rename_i j
    cases e
    refine ⟨ρ, T, _, _, c, R, e1, fun v H' c' R' => ⟨j, R'.lend.shInt (List.mem_cons_self ..) rfl, k H' c' R'.drop⟩⟩
  · cases e
def pSl (f : Pf) (lo hi : Env → Option (Option Int)) : Pf := fun ρ => (f ρ).bind fun a => (lo ρ).bind fun l => (hi ρ).bind fun h => slO a l h
def mSl (m : M O) (lo hi : M (Option Int)) : M O := fun ρ => (m ρ).bind fun a ρ1 => (lo ρ1).bind fun l ρ2 => (hi ρ2).bind fun h ρ3 => okV (slO a l h) ρ3
theorem sp_sl {e : Expr} {lo hi : Option Expr} {f : Pf} {fl fh : Env → Option (Option Int)} {p2 pos} (h : SP X e f) (hl : SPO X lo fl) (hh : SPO X hi fh) : SP X (.Subscript e (.Slice lo hi none p2) pos) (pSl f fl fh) :=
  PE.imp (pe_slice sl_F h hl hh) fun σ H Q q => by
    obtain ⟨ρ, T, B, o, c, R, e, k⟩ := q
    unfold pSl at e
    cases e1 : f ρ with
    | none => rw [e1] at e; cases e
    | some a =>
      rw [e1] at e
      have e : (fl ρ).bind (fun l => (fh ρ).bind fun h => slO a l h) = some o := e
      cases e2 : fl ρ with
      | none => rw [e2] at e; cases e
      | some l =>
        rw [e2] at e
        have e : (fh ρ).bind (fun h => slO a l h) = some o := e
        cases e3 : fh ρ with
        | none => rw [e3] at e; cases e
        | some u =>
          rw [e3] at e
          have e : slO a l u = some o := e
          exact ⟨ρ, T, B, a, c, R, e1, fun v H1 s1 R1 => ⟨ρ, T, _, l, c, R1, e2, fun H2 s2 R2 => ⟨ρ, T, _, u, c, R2, e3, fun H3 s3 R3 =>
            slv R3 (List.mem_cons_self ..) e fun w H4 s4 R4 => k w H4 (s1.trans (s2.trans (s3.trans s4))) (R4.bsub fun z hz => by
              rcases List.mem_cons.mp hz with hz | hz
              · simp [hz]
              · simp [hz])⟩⟩⟩
theorem se_sl {e : Expr} {lo hi : Option Expr} {m : M O} {ml mh : M (Option Int)} {p2 pos} (h : SE X e m) (hl : SEO X lo ml) (hh : SEO X hi mh) : SE X (.Subscript e (.Slice lo hi none p2) pos) (mSl m ml mh) :=
  PE.imp (pe_slice sl_F h hl hh) fun σ H Q q => by
    obtain ⟨ρ, T, o, ρ', c, R, e, k⟩ := q
    obtain ⟨a, ρ1, e1, e⟩ := Res.bind_eq e
    obtain ⟨l, ρ2, e2, e⟩ := Res.bind_eq e
    obtain ⟨u, ρ3, e3, e⟩ := Res.bind_eq e
    obtain ⟨d, e4, e5, e6⟩ := okV_eq e
    subst e5
    subst e6
    refine ⟨ρ, T, a, ρ1, c, R, e1, fun v H1 c1 R1 => ⟨ρ1, .ov v a :: T, l, ρ2, c1, R1.perm List.perm_middle.symm, e2, fun H2 c2 R2 => ⟨ρ2, .ov v a :: T, u, ρ', c2, R2, e3, fun H3 c3 R3 => ?_⟩⟩⟩
    have R4 := (R3.perm List.perm_middle).lend
    refine slv R4 (List.mem_cons_self ..) e4 fun w H4 _ R5 => k w H4 c3 ?_
    exact (R5.keep.nob.perm (.swap _ _ _)).drop

/-! ### built-ins of one and two arguments -/
theorem sp_b1 {id : String} {x : Str} {a : Expr} {p pos : Pos} {f : Pf} {r : List V → Hp → VK → Prop} {op : O → Option O} (hc : CallR X (.builtin id) r) (h : UnV X.K X.mg (fun x H Q => r [x] H Q) op) (hg : Gl X x) (hm : X.mg x = none) (hv : bootBuiltins x = some (.builtin id)) (ha : SP X a f)
    (hn : x ≠ "__name__" := by decide) (hdb : (x == ("__debug__" : Str)) = false := by decide) (hst : starEach (a :: []) X.env = (false, eval a X.env) :: starEach [] X.env := by rfl) (hpl : (backTo pos (starEach [] X.env)).any (·.1) = false := by rfl) :
    SP X (.Call (.Name x p) [a] [] pos) (p1 op f) := PE.imp (pe_callB hc hg hm hv (pa_cons ha pa_nil hst) hn hdb hst hpl) (tUn_p h)
theorem se_b1 {id : String} {x : Str} {a : Expr} {p pos : Pos} {m : M O} {r : List V → Hp → VK → Prop} {op : O → Option O} (hc : CallR X (.builtin id) r) (h : UnV X.K X.mg (fun x H Q => r [x] H Q) op) (hg : Gl X x) (hm : X.mg x = none) (hv : bootBuiltins x = some (.builtin id)) (ha : SE X a m)
    (hn : x ≠ "__name__" := by decide) (hdb : (x == ("__debug__" : Str)) = false := by decide) (hst : starEach (a :: []) X.env = (false, eval a X.env) :: starEach [] X.env := by rfl) (hpl : (backTo pos (starEach [] X.env)).any (·.1) = false := by rfl) :
    SE X (.Call (.Name x p) [a] [] pos) (m1 op m) := PE.imp (pe_callB hc hg hm hv (pa_cons ha pa_nil hst) hn hdb hst hpl) (tUn_m h)
theorem sp_t1 {T : String} {x : Str} {a : Expr} {p pos : Pos} {f : Pf} {r : List V → Hp → VK → Prop} {op : O → Option O} (hc : CallR X (.type T) r) (h : UnV X.K X.mg (fun x H Q => r [x] H Q) op) (hg : Gl X x) (hm : X.mg x = none) (hv : bootBuiltins x = some (.type T)) (ha : SP X a f)
    (hn : x ≠ "__name__" := by decide) (hdb : (x == ("__debug__" : Str)) = false := by decide) (hst : starEach (a :: []) X.env = (false, eval a X.env) :: starEach [] X.env := by rfl) (hpl : (backTo pos (starEach [] X.env)).any (·.1) = false := by rfl) :
    SP X (.Call (.Name x p) [a] [] pos) (p1 op f) := PE.imp (pe_callTy hc hg hm hv (pa_cons ha pa_nil hst) hn hdb hst hpl) (tUn_p h)
theorem se_t1 {T : String} {x : Str} {a : Expr} {p pos : Pos} {m : M O} {r : List V → Hp → VK → Prop} {op : O → Option O} (hc : CallR X (.type T) r) (h : UnV X.K X.mg (fun x H Q => r [x] H Q) op) (hg : Gl X x) (hm : X.mg x = none) (hv : bootBuiltins x = some (.type T)) (ha : SE X a m)
    (hn : x ≠ "__name__" := by decide) (hdb : (x == ("__debug__" : Str)) = false := by decide) (hst : starEach (a :: []) X.env = (false, eval a X.env) :: starEach [] X.env := by rfl) (hpl : (backTo pos (starEach [] X.env)).any (·.1) = false := by rfl) :
    SE X (.Call (.Name x p) [a] [] pos) (m1 op m) := PE.imp (pe_callTy hc hg hm hv (pa_cons ha pa_nil hst) hn hdb hst hpl) (tUn_m h)
theorem call_lenF : CallR X (.builtin "len") (rLenF X.K) := call_len.or call_lenD

/-! isinstance of a built-in class -/
def D.ty : D → Option String
  | .non => some "NoneType"
  | .bl _ => some "bool"
  | .int _ => some "int"
  | .str _ => some "str"
  | .tup _ => some "tuple"
  | .lst _ => some "list"
  | .scr _ => some "list"
  | .fn _ => none
  | .dct _ _ => some "dict"
  | .ins _ _ _ => none
end
end FB

/-! Built-ins over lists; tests; displays. -/
namespace FB
open PySem PySem.Spec L2
open PyProof.Rows hiding St

section
variable {X : Cx} {K : PySem.W.Frag} {mg : Str → Option Value}
def ints? : List D → Option (List Int)
  | [] => some []
  | .int i :: ds => (ints? ds).map (i :: ·)
  | _ :: _ => none
theorem ints?_map : ∀ ns : List Int, ints? (ns.map D.int) = some ns
  | [] => rfl
  | n :: ns => by show (ints? (ns.map D.int)).map _ = _; rw [ints?_map ns]; rfl
theorem ints?_eq : ∀ {ds : List D} {ns : List Int}, ints? ds = some ns → ds = ns.map D.int
  | [], ns, h => by cases h; rfl
  | .int i :: ds, ns, h => by
    have h : (ints? ds).map (i :: ·) = some ns := h
    cases e : ints? ds with
    | none => rw [e] at h; cases h
    | some ms => rw [e] at h; cases h; rw [ints?_eq e]; rfl
  | .non :: _, _, h => by cases h
  | .bl _ :: _, _, h => by cases h
  | .str _ :: _, _, h => by cases h
  | .tup _ :: _, _, h => by cases h
  | .lst _ :: _, _, h => by cases h
  | .dct _ _ :: _, _, h => by cases h
  | .ins _ _ _ :: _, _, h => by cases h
  | .scr _ :: _, _, h => by cases h
  | .fn _ :: _, _, h => by cases h
def bls? : List D → Option (List Bool)
  | [] => some []
  | .bl b :: ds => (bls? ds).map (b :: ·)
  | _ :: _ => none
theorem bls?_eq : ∀ {ds : List D} {bs : List Bool}, bls? ds = some bs → ds = bs.map D.bl
  | [], ns, h => by cases h; rfl
  | .bl i :: ds, ns, h => by
    have h : (bls? ds).map (i :: ·) = some ns := h
    cases e : bls? ds with
    | none => rw [e] at h; cases h
    | some ms => rw [e] at h; cases h; rw [bls?_eq e]; rfl
  | .non :: _, _, h => by cases h
  | .int _ :: _, _, h => by cases h
  | .str _ :: _, _, h => by cases h
  | .tup _ :: _, _, h => by cases h
  | .lst _ :: _, _, h => by cases h
  | .dct _ _ :: _, _, h => by cases h
  | .ins _ _ _ :: _, _, h => by cases h
  | .scr _ :: _, _, h => by cases h
  | .fn _ :: _, _, h => by cases h
theorem Vws.int_eq {G : Hp} : ∀ {vs : List V} {ns : List Int}, Vws K mg G vs (ns.map D.int) → vs = ns.map V.int
  | _, [], .nil => rfl
  | _, n :: ns, .cons (.int _) t => by rw [Vws.int_eq t]; rfl
theorem Vws.bl_eq {G : Hp} : ∀ {vs : List V} {ns : List Bool}, Vws K mg G vs (ns.map D.bl) → vs = ns.map V.bl
  | _, [], .nil => rfl
  | _, n :: ns, .cons (.bl _) t => by rw [Vws.bl_eq t]; rfl
/-- a list's ints -/
def D.lints? : D → Option (List Int)
  | .lst ds => ints? ds
  | .scr ns => some ns
  | _ => none
theorem Vw.lints {H : Hp} {v : V} {d : D} {ns : List Int} (h : Vw K mg H v d) (e : d.lints? = some ns) : ∃ a, v = .ref a ∧ SqL K H a (ns.map V.int) := by
  cases h with
  | lst h hs =>
    have := ints?_eq (show ints? _ = some ns from e)
    subst this
    rw [hs.int_eq] at h
    exact ⟨_, rfl, .inl h⟩
  | scr h => cases e; exact ⟨_, rfl, h⟩
  | _ => cases e
def D.lbls? : D → Option (List Bool)
  | .lst ds => bls? ds
  | _ => none
theorem Vw.lbls {H : Hp} {v : V} {d : D} {ns : List Bool} (h : Vw K mg H v d) (e : d.lbls? = some ns) : ∃ a, v = .ref a ∧ SqL K H a (ns.map V.bl) := by
  cases h with
  | lst h hs =>
    have := bls?_eq (show bls? _ = some ns from e)
    subst this
    rw [hs.bl_eq] at h
    exact ⟨_, rfl, .inl h⟩
  | _ => cases e
def anyO (a : O) : Option O := (a.toD.lbls?).map fun bs => .val (.bl (bs.any id))
def allO (a : O) : Option O := (a.toD.lbls?).map fun bs => .val (.bl (bs.all id))
def sumO (a : O) : Option O := (a.toD.lints?).map fun ns => .val (.int ns.sum)
theorem unv_any : UnV K mg (fun x H Q => rAny K [x] H Q) anyO := by
  intro H L B x ox o Q R hx e k
  unfold anyO at e
  cases e1 : ox.toD.lbls? with
  | none => rw [e1] at e; cases e
  | some bs =>
    rw [e1] at e; cases e
    obtain ⟨a, rfl, h⟩ := (R.view hx).lbls e1
    exact ⟨a, bs, rfl, h, k _ _ (Same.refl _) (R.scalB fun _ => .bl _)⟩
theorem unv_all : UnV K mg (fun x H Q => rAll K [x] H Q) allO := by
  intro H L B x ox o Q R hx e k
  unfold allO at e
  cases e1 : ox.toD.lbls? with
  | none => rw [e1] at e; cases e
  | some bs =>
    rw [e1] at e; cases e
    obtain ⟨a, rfl, h⟩ := (R.view hx).lbls e1
    exact ⟨a, bs, rfl, h, k _ _ (Same.refl _) (R.scalB fun _ => .bl _)⟩
def intO (a : O) : Option O := match a with
  | .val (.int i) => some (.val (.int i))
  | .val (.bl b) => some (.val (.int (if b then 1 else 0)))
  | _ => none
theorem unv_int : UnV K mg (fun x H Q => (∃ i, [x] = [.int i] ∧ Q (.int i) H) ∨ ∃ k, [x] = [.bl k] ∧ Q (.int (if k then 1 else 0)) H) intO := by
  intro H L B x ox o Q R hx e k
  unfold intO at e
  split at e
  · cases e
    exact .inl ⟨_, by rw [R.shInt hx rfl], k _ _ (Same.refl _) (R.scalB fun _ => .int _)⟩
  · cases e
    exact .inr ⟨_, by rw [R.shBl hx rfl], k _ _ (Same.refl _) (R.scalB fun _ => .int _)⟩
  · cases e
def negO (a : O) : Option O := match a with
  | .val (.int i) => some (.val (.int (-i)))
  | _ => none
theorem unv_neg : UnV K mg (rU fun i => .int (-i)) negO := by
  intro H L B x ox o Q R hx e k
  unfold negO at e
  split at e
  · cases e
    exact ⟨_, R.shInt hx rfl, k _ _ (Same.refl _) (R.scalB fun _ => .int _)⟩
  · cases e
/-- list(xs): of a list or tuple -/
def listO (a : O) : Option O := match a.sh with
  | some (.lst ds) => some (.val (.lst ds))
  | some (.tup ds) => some (.val (.lst ds))
  | some (.scr ns) => some (.val (.lst (ns.map D.int)))
  | _ => none
theorem Rep.ints {H : Hp} {L : List Item} {B : List (V × O)} (R : Rep K mg H L B) (ms : List Int) : Rep K mg H (zipI (ms.map V.int) ((ms.map D.int).map O.val) ++ L) B := by
  induction ms with
  | nil => exact R
  | cons m ms ih => exact ih.scal fun _ => .int m
theorem unv_list : UnV K mg (fun x H Q => ∃ p ys, [x] = [.ref p] ∧ (SqL K H p ys ∨ SqT K H p ys) ∧ ∀ l, H l = none → Q (.ref l) (upd H l (.lst ys))) listO := by
  intro H L B x ox o Q R hx e k
  unfold listO at e
  split at e
  · rename_i ds e1
    cases e
    obtain ⟨p, vs, rfl, hp, lp, R1⟩ := R.shL hx e1
    exact ⟨p, vs, rfl, .inl (.inl hp), fun q hq => k _ _ (sameNew hq) (R1.lentL lp hq)⟩
  · rename_i ds e1
    cases e
    obtain ⟨p, vs, rfl, hp, lp, R1⟩ := R.shT hx e1
    exact ⟨p, vs, rfl, .inr hp, fun q hq => k _ _ (sameNew hq) (R1.lentL lp hq)⟩
  · rename_i ns e1
    cases e
    have q : Vw K mg H x (.scr ns) := R.sh hx e1
    cases q with
    | scr h => exact ⟨_, _, rfl, .inl h, fun q hq => k _ _ (sameNew hq) ((R.ints ns).lentL (by simp) hq)⟩
  · cases e
def tupO (a : O) : Option O := match a.sh with
  | some (.lst ds) => some (.val (.tup ds))
  | some (.tup ds) => some (.val (.tup ds))
  | _ => none
theorem unv_tup : UnV K mg (fun x H Q => ∃ p ys, [x] = [.ref p] ∧ ((SqL K H p ys ∧ ∀ l, H l = none → Q (.ref l) (upd H l (.tup ys))) ∨ (SqT K H p ys ∧ Q (.ref p) H))) tupO := by
  intro H L B x ox o Q R hx e k
  unfold tupO at e
  split at e
  · rename_i ds e1
    cases e
    obtain ⟨p, vs, rfl, hp, lp, R1⟩ := R.shL hx e1
    exact ⟨p, vs, rfl, .inl ⟨.inl hp, fun q hq => k _ _ (sameNew hq) (R1.lentT lp hq)⟩⟩
  · rename_i ds e1
    cases e
    have ea := sh_val_of e1 (fun _ => by intro z; cases z) (fun _ _ => by intro z; cases z) (fun _ _ _ => by intro z; cases z)
    subst ea
    obtain ⟨p, vs, rfl, hp, lp, R1⟩ := R.shT hx rfl
    exact ⟨p, vs, rfl, .inr ⟨hp, k _ _ (Same.refl _) (R.bdup hx)⟩⟩
  · cases e
def sortL (ns : List Int) : List Int := ns.mergeSort (fun a b => decide (a ≤ b))
theorem sortL_perm (ns : List Int) : (sortL ns).Perm ns := List.mergeSort_perm _ _
theorem sortL_sorted (ns : List Int) : (sortL ns).Pairwise (· ≤ ·) := by
  have := List.pairwise_mergeSort (le := fun a b : Int => decide (a ≤ b)) (fun a b c h1 h2 => by simp at *; omega) (fun a b => by simp; omega) ns
  exact this.imp fun h => by simpa using h
def sortedO (a : O) : Option O := (a.toD.lints?).map fun ns => .val (.lst ((sortL ns).map D.int))
theorem unv_sorted : UnV K mg (fun x H Q => rSortedI K [x] H Q) sortedO := by
  intro H L B x ox o Q R hx e k
  unfold sortedO at e
  cases e1 : ox.toD.lints? with
  | none => rw [e1] at e; cases e
  | some ns =>
    rw [e1] at e; cases e
    obtain ⟨a, rfl, h⟩ := (R.view hx).lints e1
    refine ⟨a, ns, rfl, h, fun ns' p h1 h2 hp => ?_⟩
    have : ns' = sortL ns := PySem.W.ksm_same (h1.trans (sortL_perm ns).symm) h2 (sortL_sorted ns)
    rw [this]
    exact k _ _ (sameNew hp) ((R.ints (sortL ns)).lentL (by simp) hp)

/-! ### tests -/
def mB (m : M O) : M Bool := fun ρ => (m ρ).bind fun o ρ' => match o with
  | .val (.bl b) => .ok b ρ'
  | _ => .no
theorem set_of {e : Expr} {t : TE} {m : M O} (h : PT X e (tB t)) (q : ∀ σ H Q, tM X.K X.mg m σ H Q → t σ H Q) : SET X e (mB m) := PT.imp h fun σ H Q w => by
  obtain ⟨ρ, T, b, ρ', c, R, e, k⟩ := w
  obtain ⟨o, ρ1, e1, e⟩ := Res.bind_eq e
  split at e
  · rename_i d
    cases e
    exact q σ H _ ⟨ρ, T, _, _, c, R, e1, fun v H' c' R' => ⟨b, R'.lend.shBl (List.mem_cons_self ..) rfl, k H' c' R'.drop⟩⟩
  · cases e
theorem set_val {e : Expr} {m : M O} (h : SE X e m) (he : ∀ whole, isTrue e X.env whole = (do let v ← whole; standAt e.pos; holding [v] (truthy v)) := by intro _; rfl) : SET X e (mB m) := set_of (pt_val h he) fun _ _ _ q => q
theorem set_cmp {o : CmpOp} {a b : Expr} {pos : Pos} {m n : M O} {r : R2} {op : O → O → Option O} (ho : OpR X (compareOp o) r) (h : OpV X.K X.mg r op) (ha : SE X a m) (hb : SE X b n) (hm : behindInMarks o b = false) : SET X (.Compare a [o] [b] pos) (mB (m2 op m n)) := set_of (pt_cmpR ho ha hb hm) (tOp_m h)
theorem tP_m {f : Pf} {t : TE} (q : ∀ σ H Q, tP K mg f σ H Q → t σ H Q) (σ : L2.St) (H : Hp) (Q : VK) (w : tM K mg (mP f) σ H Q) : t σ H Q := by
  obtain ⟨ρ, T, o, ρ', c, R, e, k⟩ := w
  unfold mP at e
  cases z : f ρ with
  | none => rw [z] at e; cases e
  | some u =>
    rw [z] at e
    cases u with
    | val d =>
      cases e
      exact q σ H Q ⟨ρ, T, [], .val d, c, R, z, fun v H' _ R' => k v H' c R'.keep⟩
    | lst _ => cases e
    | dct _ _ => cases e
    | ins _ _ _ => cases e
theorem set_cmpP {o : CmpOp} {a b : Expr} {pos : Pos} {f g : Pf} {r : R2} {op : O → O → Option O} (ho : OpR X (compareOp o) r) (h : OpV X.K X.mg r op) (ha : SP X a f) (hb : SP X b g) (hm : behindInMarks o b = false) : SET X (.Compare a [o] [b] pos) (mB (mP (p2 op f g))) := set_of (pt_cmpR ho ha hb hm) (tP_m (tOp_p h))
def mAnd (a b : M Bool) : M Bool := fun ρ => (a ρ).bind fun c ρ1 => if c = true then b ρ1 else .ok false ρ1
def mOr (a b : M Bool) : M Bool := fun ρ => (a ρ).bind fun c ρ1 => if c = true then .ok true ρ1 else b ρ1
def mNot (a : M Bool) : M Bool := fun ρ => (a ρ).bind fun c ρ1 => .ok (!c) ρ1
def SEW (X : Cx) (e : Expr) (m : M Bool) : Prop := PW X e (tMT X.K X.mg m)
theorem PW.imp {e : Expr} {t t' : TT} (h : PW X e t) (q : ∀ σ H Q, t' σ H Q → t σ H Q) : PW X e t' := ⟨fun wh pins s σ H Q I w => h.run wh pins s σ H Q I (q σ H Q w)⟩
theorem sew_t {e : Expr} {m : M Bool} (h : SEW X e m) : SET X e m := PW.pt h
theorem sew_and1 {a : Expr} {pos : Pos} {m : M Bool} (h : SET X a m) : SEW X (.BoolOp .And [a] pos) m := pw_and1 h
theorem sew_or1 {a : Expr} {pos : Pos} {m : M Bool} (h : SET X a m) : SEW X (.BoolOp .Or [a] pos) m := pw_or1 h
theorem sew_and {a b : Expr} {rest : List Expr} {pos : Pos} {m n : M Bool} (ha : SET X a m) (hb : SEW X (.BoolOp .And (b :: rest) pos) n) : SEW X (.BoolOp .And (a :: b :: rest) pos) (mAnd m n) :=
  PW.imp (pw_and ha hb) fun σ H Q w => by
    obtain ⟨ρ, T, b, ρ', c, R, e, k⟩ := w
    obtain ⟨u, ρ1, e1, e⟩ := Res.bind_eq e
    refine ⟨ρ, T, u, ρ1, c, R, e1, fun H' c' R' => ?_⟩
    cases u with
    | true =>
      rw [if_pos rfl] at e ⊢
      exact ⟨ρ1, T, b, ρ', c', R', e, k⟩
    | false =>
      rw [if_neg Bool.false_ne_true] at e ⊢
      cases e
      exact k H' c' R'
theorem sew_or {a b : Expr} {rest : List Expr} {pos : Pos} {m n : M Bool} (ha : SET X a m) (hb : SEW X (.BoolOp .Or (b :: rest) pos) n) : SEW X (.BoolOp .Or (a :: b :: rest) pos) (mOr m n) :=
  PW.imp (pw_or ha hb) fun σ H Q w => by
    obtain ⟨ρ, T, b, ρ', c, R, e, k⟩ := w
    obtain ⟨u, ρ1, e1, e⟩ := Res.bind_eq e
    refine ⟨ρ, T, u, ρ1, c, R, e1, fun H' c' R' => ?_⟩
    cases u with
    | true =>
      rw [if_pos rfl] at e ⊢
      cases e
      exact k H' c' R'
    | false =>
      rw [if_neg Bool.false_ne_true] at e ⊢
      exact ⟨ρ1, T, b, ρ', c', R', e, k⟩
theorem set_not {a : Expr} {pos : Pos} {m : M Bool} (h : SET X a m) : SET X (.UnaryOp .Not a pos) (mNot m) := PT.imp (pt_not h) fun σ H Q w => by
  obtain ⟨ρ, T, b, ρ', c, R, e, k⟩ := w
  obtain ⟨u, ρ1, e1, e⟩ := Res.bind_eq e
  cases e
  exact ⟨ρ, T, u, _, c, R, e1, k⟩
def mAndV (a : M O) (b : M O) : M O := fun ρ => (a ρ).bind fun o ρ1 => match o with
  | .val (.bl true) => b ρ1
  | .val (.bl false) => .ok (.val (.bl false)) ρ1
  | _ => .no
def mNotV (a : M O) : M O := fun ρ => (a ρ).bind fun o ρ1 => match o with
  | .val (.bl b) => .ok (.val (.bl (!b))) ρ1
  | _ => .no
theorem se_one {op : BoolOp} {a : Expr} {pos : Pos} {m : M O} (h : SE X a m) : SE X (.BoolOp op [a] pos) m := pe_one h
theorem se_and {a b : Expr} {rest : List Expr} {pos : Pos} {m n : M O} (ha : SE X a m) (hb : SE X (.BoolOp .And (b :: rest) pos) n) : SE X (.BoolOp .And (a :: b :: rest) pos) (mAndV m n) :=
  PE.imp (pe_and ha hb) fun σ H Q w => by
    obtain ⟨ρ, T, o, ρ', c, R, e, k⟩ := w
    obtain ⟨u, ρ1, e1, e⟩ := Res.bind_eq e
    refine ⟨ρ, T, u, ρ1, c, R, e1, fun v H' c' R' => ?_⟩
    split at e
    · refine ⟨true, R'.lend.shBl (List.mem_cons_self ..) rfl, ?_⟩
      rw [if_pos rfl]
      exact ⟨ρ1, T, o, ρ', c', R'.drop, e, k⟩
    · cases e
      have ev := R'.lend.shBl (List.mem_cons_self ..) rfl
      refine ⟨false, ev, ?_⟩
      rw [if_neg Bool.false_ne_true]
      exact k _ H' c' (ev ▸ R')
    · cases e
theorem se_not {a : Expr} {pos : Pos} {m : M O} (h : SE X a m) : SE X (.UnaryOp .Not a pos) (mNotV m) := PE.imp (pe_not h) fun σ H Q w => by
  obtain ⟨ρ, T, o, ρ', c, R, e, k⟩ := w
  obtain ⟨u, ρ1, e1, e⟩ := Res.bind_eq e
  split at e
  · rename_i b
    cases e
    refine ⟨ρ, T, _, _, c, R, e1, fun v H' c' R' => ⟨b, R'.lend.shBl (List.mem_cons_self ..) rfl, k _ H' c' (R'.drop.scal fun _ => .bl _)⟩⟩
  · cases e
/-! ### displays -/
def tMs (K : PySem.W.Frag) (mg : Str → Option Value) (m : M (List O)) : TA := fun σ H Q => ∃ ρ T os ρ', Cov σ ρ ∧ Rep K mg H (pairs σ ρ ++ T) [] ∧ m ρ = .ok os ρ' ∧ ∀ vs H', Cov σ ρ' → vs.length = os.length → Rep K mg H' (zipI vs os ++ (pairs σ ρ' ++ T)) [] → Q vs H'
theorem PA.imp {es : List Expr} {t t' : TA} (h : PA X es t) (q : ∀ σ H Q, t' σ H Q → t σ H Q) : PA X es t' := ⟨fun pos pins s σ H Q I w => h.run pos pins s σ H Q I (q σ H Q w)⟩
def SEs (X : Cx) (es : List Expr) (m : M (List O)) : Prop := PA X es (tMs X.K X.mg m)
def mNil : M (List O) := fun ρ => .ok [] ρ
def mCons (m : M O) (ms : M (List O)) : M (List O) := fun ρ => (m ρ).bind fun o ρ1 => (ms ρ1).bind fun os ρ2 => .ok (o :: os) ρ2
theorem ses_nil : SEs X [] mNil := PA.imp pa_nil fun σ H Q w => by
  obtain ⟨ρ, T, os, ρ', c, R, e, k⟩ := w
  cases e
  exact k [] H c rfl R
theorem ses_cons {e : Expr} {es : List Expr} {m : M O} {ms : M (List O)} (h : SE X e m) (hs : SEs X es ms) (hst : starEach (e :: es) X.env = (false, eval e X.env) :: starEach es X.env := by rfl) : SEs X (e :: es) (mCons m ms) :=
  PA.imp (pa_cons h hs hst) fun σ H Q w => by
    obtain ⟨ρ, T, os, ρ', c, R, e, k⟩ := w
    obtain ⟨o, ρ1, e1, e⟩ := Res.bind_eq e
    obtain ⟨os', ρ2, e2, e⟩ := Res.bind_eq e
    cases e
    refine ⟨ρ, T, o, ρ1, c, R, e1, fun v H1 c1 R1 => ⟨ρ1, .ov v o :: T, os', ρ', c1, R1.perm List.perm_middle.symm, e2, fun vs H2 c2 hl R2 => k (v :: vs) H2 c2 (by simp [hl]) (R2.perm ?_)⟩⟩
    show (zipI vs os' ++ (pairs σ ρ' ++ .ov v o :: T)).Perm (.ov v o :: (zipI vs os' ++ (pairs σ ρ' ++ T)))
    exact ((List.perm_middle (a := Item.ov v o)).append_left _).trans List.perm_middle
def mLst (ms : M (List O)) : M O := fun ρ => (ms ρ).bind fun os ρ' => if os.length ≤ 1000000 then .ok (.lst os) ρ' else .no
def mTup (ms : M (List O)) : M O := fun ρ => (ms ρ).bind fun os ρ' => if os.length ≤ 1000000 then .ok (.val (.tup (O.toDs os))) ρ' else .no
theorem Rep.frzs : ∀ {vs : List V} {os : List O} {H : Hp} {L : List Item}, Rep K mg H (zipI vs os ++ L) [] → Rep K mg H (zipI vs ((O.toDs os).map O.val) ++ L) []
  | [], os, H, L, R => by cases os <;> exact R
  | v :: vs, [], H, L, R => R
  | v :: vs, o :: os, H, L, R => by
    have R1 : Rep K mg H (.ov v (.val o.toD) :: (zipI vs os ++ L)) [] := Rep.frz R
    have R2 : Rep K mg H (zipI vs os ++ (.ov v (.val o.toD) :: L)) [] := R1.perm List.perm_middle.symm
    exact (Rep.frzs R2).perm List.perm_middle
theorem toDs_len (os : List O) : (O.toDs os).length = os.length := by rw [toDs_map]; simp
theorem se_lst {es : List Expr} {pos : Pos} {ms : M (List O)} (h : SEs X es ms) : SE X (.List es pos) (mLst ms) := PE.imp (pe_lst h) fun σ H Q w => by
  obtain ⟨ρ, T, o, ρ', c, R, e, k⟩ := w
  obtain ⟨os, ρ1, e1, e⟩ := Res.bind_eq e
  split at e
  · rename_i hl
    cases e
    refine ⟨ρ, T, os, _, c, R, e1, fun vs H' c' hv R' => ⟨line6 (by omega), fun p hp => k _ _ c' (Rep.closeL (R'.new hp) hv)⟩⟩
  · cases e
theorem se_tup {es : List Expr} {x1 : Nat} {pos : Pos} {ms : M (List O)} (h : SEs X es ms) : SE X (.Tuple es x1 pos) (mTup ms) := PE.imp (pe_tup h) fun σ H Q w => by
  obtain ⟨ρ, T, o, ρ', c, R, e, k⟩ := w
  obtain ⟨os, ρ1, e1, e⟩ := Res.bind_eq e
  split at e
  · rename_i hl
    cases e
    refine ⟨ρ, T, os, _, c, R, e1, fun vs H' c' hv R' => ⟨line6 (by omega), fun p hp => k _ _ c' ?_⟩⟩
    exact Rep.newT (Rep.frzs R') (by rw [toDs_len]; exact hv) hp
  · cases e
end
end FB

/-! Statements: names stored, blocks, if, while, for, return. -/
namespace FB
open PySem PySem.Spec L2
open PyProof.Rows hiding St

section
variable {X : Cx} {K : PySem.W.Frag} {mg : Str → Option Value} {P : List Nat}
/-- what is wanted behind a statement that ends so -/
def Post (K : PySem.W.Frag) (mg : Str → Option Value) (P : List Nat) (T : List Item) (D : Ends) (σ : L2.St) : Res Fl → Prop
  | .ok .nx ρ' => ∀ σ' H', Fix P σ σ' → Cov σ' ρ' → Rep K mg H' (pairs σ' ρ' ++ T) [] → D.nx σ' H'
  | .ok .brk ρ' => ∀ σ' H', Fix P σ σ' → Cov σ' ρ' → Rep K mg H' (pairs σ' ρ' ++ T) [] → D.bk σ' H'
  | .ok .ct ρ' => ∀ σ' H', Fix P σ σ' → Cov σ' ρ' → Rep K mg H' (pairs σ' ρ' ++ T) [] → D.ct σ' H'
  | .ok (.ret o) ρ' => ∀ v σ' H', Fix P σ σ' → Cov σ' ρ' → Rep K mg H' (.ov v o :: (pairs σ' ρ' ++ T)) [] → D.rt v H'
  | .exc _ _ => False
  | .no => False
theorem tS_iff {m : M Fl} {D : Ends} {σ : L2.St} {H : Hp} : tS K mg P m D σ H ↔ ∃ ρ T, Cov σ ρ ∧ Rep K mg H (pairs σ ρ ++ T) [] ∧ Post K mg P T D σ (m ρ) := by
  unfold tS
  constructor
  · rintro ⟨ρ, T, c, R, h⟩
    refine ⟨ρ, T, c, R, ?_⟩
    cases e : m ρ with
    | ok f ρ' => rw [e] at h; cases f <;> exact h
    | exc x ρ' => rw [e] at h; exact h
    | no => rw [e] at h; exact h
  · rintro ⟨ρ, T, c, R, h⟩
    refine ⟨ρ, T, c, R, ?_⟩
    cases e : m ρ with
    | ok f ρ' => rw [e] at h; cases f <;> exact h
    | exc x ρ' => rw [e] at h; exact h
    | no => rw [e] at h; exact h
theorem Post.fix {T : List Item} {D : Ends} {σ σ1 : L2.St} (f : Fix P σ σ1) {r : Res Fl} (h : Post K mg P T D σ r) : Post K mg P T D σ1 r := by
  cases r with
  | ok fl ρ' =>
    cases fl with
    | nx => exact fun σ' H' g => h σ' H' (f.trans g)
    | brk => exact fun σ' H' g => h σ' H' (f.trans g)
    | ct => exact fun σ' H' g => h σ' H' (f.trans g)
    | ret o => exact fun v σ' H' g => h v σ' H' (f.trans g)
  | exc x ρ' => exact h
  | no => exact h
/-- .. the same ends but the next one -/
theorem Post.nx {T : List Item} {D D' : Ends} {σ : L2.St} {r : Res Fl} {g : Env → Res Fl} (h : Post K mg P T D σ (r.bind fun f ρ1 => match f with | .nx => g ρ1 | f => .ok f ρ1)) (e1 : D'.rt = D.rt) (e2 : D'.bk = D.bk) (e3 : D'.ct = D.ct)
    (q : ∀ ρ1 σ' H', Fix P σ σ' → Cov σ' ρ1 → Rep K mg H' (pairs σ' ρ1 ++ T) [] → Post K mg P T D σ (g ρ1) → D'.nx σ' H') : Post K mg P T D' σ r := by
  cases r with
  | ok fl ρ' =>
    cases fl with
    | nx => exact fun σ' H' f c R => q ρ' σ' H' f c R h
    | brk => exact fun σ' H' f c R => by rw [e2]; exact h σ' H' f c R
    | ct => exact fun σ' H' f c R => by rw [e3]; exact h σ' H' f c R
    | ret o => exact fun v σ' H' f c R => by rw [e1]; exact h v σ' H' f c R
  | exc x ρ' => exact h
  | no => exact h
def mSkip : M Fl := fun ρ => .ok .nx ρ
def mSeq (a b : M Fl) : M Fl := fun ρ => (a ρ).bind fun f ρ1 => match f with
  | .nx => b ρ1
  | f => .ok f ρ1
theorem sss_nil : SSs X P [] mSkip := PSs.imp pss_nil fun D σ H w => by
  obtain ⟨ρ, T, c, R, h⟩ := tS_iff.mp w
  exact h σ H (Fix.refl _ _) c R
theorem sss_one {st : Stmt} {m : M Fl} (h : SS X P st m) : SSs X P [st] m := pss_one h
theorem sss_cons {st : Stmt} {rest : List Stmt} {a b : M Fl} (h1 : SS X P st a) (h2 : SSs X P rest b) : SSs X P (st :: rest) (mSeq a b) := PSs.imp (pss_cons h1 h2) fun D σ H w => by
  obtain ⟨ρ, T, c, R, h⟩ := tS_iff.mp w
  refine tS_iff.mpr ⟨ρ, T, c, R, Post.nx (D := D) h rfl rfl rfl fun ρ1 σ' H' f c' R' h' => ?_⟩
  exact tS_iff.mpr ⟨ρ1, T, c', R', h'.fix f⟩
def mCont : M Fl := fun ρ => .ok .ct ρ
theorem ss_cont {pos : Pos} : SS X P (.Continue pos) mCont := PS.imp ps_continue fun D σ H w => by
  obtain ⟨ρ, T, c, R, h⟩ := tS_iff.mp w
  exact h σ H (Fix.refl _ _) c R
/-- what is never come to -/
def mNever : M Fl := fun _ => .no
theorem ss_never {st : Stmt} : SS X P st mNever := PS.imp ps_never fun D σ H w => by
  obtain ⟨ρ, T, c, R, h⟩ := tS_iff.mp w
  exact h
def mEx (m : M O) : M Fl := fun ρ => (m ρ).bind fun _ ρ1 => .ok .nx ρ1
def mRet (m : M O) : M Fl := fun ρ => (m ρ).bind fun o ρ1 => .ok (.ret o) ρ1
theorem ss_expr {e : Expr} {pos : Pos} {m : M O} (h : SE X e m) (hs : swapsWith e none pos.line X.env = pure false := by rfl) : SS X P (.Expr e pos) (mEx m) := PS.imp (ps_expr h hs) fun D σ H w => by
  obtain ⟨ρ, T, c, R, h⟩ := tS_iff.mp w
  unfold mEx at h
  cases e1 : m ρ with
  | ok o ρ1 =>
    rw [e1] at h
    exact ⟨ρ, T, o, ρ1, c, R, e1, fun v H' c' R' => h σ H' (Fix.refl _ _) c' R'.drop⟩
  | exc x ρ1 => rw [e1] at h; exact h.elim
  | no => rw [e1] at h; exact h.elim
theorem ss_ret {e : Expr} {pos : Pos} {m : M O} (h : SE X e m) : SS X P (.Return (some e) pos) (mRet m) := PS.imp (ps_ret h) fun D σ H w => by
  obtain ⟨ρ, T, c, R, h⟩ := tS_iff.mp w
  unfold mRet at h
  cases e1 : m ρ with
  | ok o ρ1 =>
    rw [e1] at h
    exact ⟨ρ, T, o, ρ1, c, R, e1, fun v H' c' R' => h v σ H' (Fix.refl _ _) c' R'⟩
  | exc x ρ1 => rw [e1] at h; exact h.elim
  | no => rw [e1] at h; exact h.elim
def mIf (t : M Bool) (a b : M Fl) : M Fl := fun ρ => (t ρ).bind fun c ρ1 => if c = true then a ρ1 else b ρ1
theorem ss_if {c : Expr} {a b : List Stmt} {pos : Pos} {t : M Bool} {m n : M Fl} (hc : SET X c t) (ha : SSs X P a m) (hb : SSs X P b n) : SS X P (.If c a b pos) (mIf t m n) := PS.imp (ps_if hc ha hb) fun D σ H w => by
  obtain ⟨ρ, T, cv, R, h⟩ := tS_iff.mp w
  unfold mIf at h
  cases e1 : t ρ with
  | ok u ρ1 =>
    rw [e1] at h
    refine ⟨ρ, T, u, ρ1, cv, R, e1, fun H' c' R' => ?_⟩
    cases u with
    | true => rw [if_pos rfl]; exact tS_iff.mpr ⟨ρ1, T, c', R', h⟩
    | false => rw [if_neg Bool.false_ne_true]; exact tS_iff.mpr ⟨ρ1, T, c', R', h⟩
  | exc x ρ1 => rw [e1] at h; exact h.elim
  | no => rw [e1] at h; exact h.elim

/-! ### names stored -/
theorem pairs_none {σ : L2.St} {ρ : Env} {i : Nat} (h : ∀ o, ρ[i]? ≠ some (some o)) : pairs σ (ρ.set i none) = pairs σ ρ := by
  by_cases hi : i < ρ.length
  · have e : ρ[i]? = some none := by
      cases q : ρ[i]? with
      | none => rw [List.getElem?_eq_none_iff] at q; omega
      | some u => cases u with
        | none => rfl
        | some o => exact absurd q (h o)
    have : ρ.set i none = ρ := by
      apply List.ext_getElem?
      intro j
      by_cases hj : i = j
      · subst hj; rw [e]; simp [hi]
      · rw [List.getElem?_set_ne hj]
    rw [this]
  · rw [List.set_eq_of_length_le (by omega)]
theorem Rep.slotDrop {H : Hp} {σ : L2.St} {ρ : Env} {M T : List Item} (c : Cov σ ρ) (i : Nat) (h : Rep K mg H (M ++ (pairs σ ρ ++ T)) []) : Rep K mg H (M ++ (pairs σ (ρ.set i none) ++ T)) [] := by
  by_cases q : ∃ o, ρ[i]? = some (some o)
  · obtain ⟨o, e⟩ := q
    obtain ⟨v, hv⟩ := c.ex i o e
    have p : (M ++ (pairs σ ρ ++ T)).Perm (.ov v o :: (M ++ (pairs σ (ρ.set i none) ++ T))) :=
      (((pairs_take hv e).append_right T).append_left M).trans List.perm_middle
    exact (h.perm p).drop
  · rw [pairs_none fun o e => q ⟨o, e⟩]; exact h
theorem Rep.store {H : Hp} {σ : L2.St} {ρ : Env} {T : List Item} {i : Nat} {v : V} {o : O} (c : Cov σ ρ) (h : Rep K mg H (.ov v o :: (pairs σ ρ ++ T)) []) : Rep K mg H (pairs (σ.set i (some v)) (ρ.set i (some o)) ++ T) [] := by
  by_cases hi : i < ρ.length
  · have h1 := Rep.slotDrop (M := [.ov v o]) c i h
    exact h1.perm ((pairs_put (by rw [c.len]; exact hi) hi).append_right T)
  · rw [List.set_eq_of_length_le (by rw [c.len]; omega), List.set_eq_of_length_le (by omega)]
    exact h.drop
def mSetO (i : Nat) (m : M O) : M Fl := fun ρ => (m ρ).bind fun o ρ1 => .ok .nx (ρ1.set i (some o))
def mSetP (i : Nat) (m : M O) : M Fl := fun ρ => (m ρ).bind fun o ρ1 => .ok .nx (ρ1.set i (some (.val o.toD)))
theorem ss_setO (i : Nat) {x : Str} {e : Expr} {pos pos' : Pos} {m : M O} (ok : CxOk X) (hi : X.N[i]? = some x) (hx : Loc X.env.scope x) (h : SE X e m) (hP : i ∉ P := by decide) (hs : swapsWith e (some (.Name x pos')) pos.line X.env = pure false := by rfl) (hf : X.fn x = true ∨ X.env.scope.names.lookup x = some .local := by first | exact .inl rfl | exact .inr rfl | assumption) :
    SS X P (.Assign [.Name x pos'] e pos) (mSetO i m) := PS.imp (ps_set ok.nd hi hx h hs hf) fun D σ H w => by
  obtain ⟨ρ, T, c, R, h⟩ := tS_iff.mp w
  unfold mSetO at h
  cases e1 : m ρ with
  | ok o ρ1 =>
    rw [e1] at h
    exact ⟨ρ, T, o, ρ1, c, R, e1, fun v H' c' R' => h _ H' (Fix.set hP) (c'.set i v o) (Rep.store c' R')⟩
  | exc x ρ1 => rw [e1] at h; exact h.elim
  | no => rw [e1] at h; exact h.elim
theorem ss_setP (i : Nat) {x : Str} {e : Expr} {pos pos' : Pos} {m : M O} (ok : CxOk X) (hi : X.N[i]? = some x) (hx : Loc X.env.scope x) (h : SE X e m) (hP : i ∉ P := by decide) (hs : swapsWith e (some (.Name x pos')) pos.line X.env = pure false := by rfl) (hf : X.fn x = true ∨ X.env.scope.names.lookup x = some .local := by first | exact .inl rfl | exact .inr rfl | assumption) :
    SS X P (.Assign [.Name x pos'] e pos) (mSetP i m) := PS.imp (ps_set ok.nd hi hx h hs hf) fun D σ H w => by
  obtain ⟨ρ, T, c, R, h⟩ := tS_iff.mp w
  unfold mSetP at h
  cases e1 : m ρ with
  | ok o ρ1 =>
    rw [e1] at h
    exact ⟨ρ, T, o, ρ1, c, R, e1, fun v H' c' R' => h _ H' (Fix.set hP) (c'.set i v _) (Rep.store c' R'.frz)⟩
  | exc x ρ1 => rw [e1] at h; exact h.elim
  | no => rw [e1] at h; exact h.elim

/-! ### targets -/
structure RlOk (Rl : L2.St → L2.St → Prop) : Prop where
  refl : ∀ σ, Rl σ σ
  trans : ∀ {a b c}, Rl a b → Rl b c → Rl a c
def RlSet (Rl : L2.St → L2.St → Prop) (i : Nat) : Prop := ∀ (σ : L2.St) (v : Option V), Rl σ (σ.set i v)
theorem fixOk (P : List Nat) : RlOk (Fix P) := ⟨Fix.refl P, Fix.trans⟩
theorem fixSet {P : List Nat} {i : Nat} (h : i ∉ P := by decide) : RlSet (Fix P) i := fun _ _ => Fix.set h
def Wip (own : List Nat) (σ σ' : L2.St) : Prop := wipe σ' own = wipe σ own
theorem wipOk (own : List Nat) : RlOk (Wip own) := ⟨fun _ => rfl, fun h q => Eq.trans q h⟩
theorem wipe_set : ∀ {own : List Nat} {σ : L2.St} {i : Nat} {v : Option V}, i ∈ own → wipe (σ.set i v) own = wipe σ own
  | [], _, _, _, h => by simp at h
  | w :: ws, σ, i, v, h => by
    unfold wipe
    by_cases e : i ∈ ws
    · rw [wipe_set e]
    · have : i = w := by rcases List.mem_cons.mp h with q | q; exact q; exact absurd q e
      subst this
      have out : ∀ {ws : List Nat} {σ : L2.St}, i ∉ ws → wipe (σ.set i v) ws = (wipe σ ws).set i v := by
        intro ws
        induction ws with
        | nil => intro σ _; rfl
        | cons u us ih =>
          intro σ hm
          unfold wipe
          rw [ih (fun z => hm (List.mem_cons_of_mem _ z))]
          exact List.set_comm _ _ (fun z => hm (by rw [z]; exact List.mem_cons_self ..))
      rw [out e, List.set_set]
theorem wipSet {own : List Nat} {i : Nat} (h : i ∈ own := by decide) : RlSet (Wip own) i := fun _ _ => wipe_set h
variable {Rl : L2.St → L2.St → Prop}
def tG (K : PySem.W.Frag) (mg : Str → Option Value) (Rl : L2.St → L2.St → Prop) (a : D → Env → Option Env) : TG := fun v σ H Q => ∃ ρ T d ρ', Cov σ ρ ∧ Rep K mg H (.ov v (.val d) :: (pairs σ ρ ++ T)) [] ∧ a d ρ = some ρ' ∧ ∀ σ', Rl σ σ' → Cov σ' ρ' → Rep K mg H (pairs σ' ρ' ++ T) [] → Q σ' H
def tGs (K : PySem.W.Frag) (mg : Str → Option Value) (Rl : L2.St → L2.St → Prop) (a : List D → Env → Option Env) : TGs := fun vs σ H Q => ∃ ρ T ds ρ', Cov σ ρ ∧ vs.length = ds.length ∧ Rep K mg H (zipI vs (ds.map O.val) ++ (pairs σ ρ ++ T)) [] ∧ a ds ρ = some ρ' ∧ ∀ σ', Rl σ σ' → Cov σ' ρ' → Rep K mg H (pairs σ' ρ' ++ T) [] → Q σ' H
theorem PG.imp {e : Expr} {t t' : TG} (h : PG X e t) (q : ∀ v σ H Q, t' v σ H Q → t v σ H Q) : PG X e t' := ⟨fun pins s σ H v u Q I r w => h.run pins s σ H v u Q I r (q v σ H Q w)⟩
theorem PGs.imp {e : List Expr} {t t' : TGs} (h : PGs X e t) (q : ∀ v σ H Q, t' v σ H Q → t v σ H Q) : PGs X e t' := ⟨fun pins s σ H v u Q I r w => h.run pins s σ H v u Q I r (q v σ H Q w)⟩
def SG (X : Cx) (Rl : L2.St → L2.St → Prop) (e : Expr) (a : D → Env → Option Env) : Prop := PG X e (tG X.K X.mg Rl a)
def SGs (X : Cx) (Rl : L2.St → L2.St → Prop) (e : List Expr) (a : List D → Env → Option Env) : Prop := PGs X e (tGs X.K X.mg Rl a)
def aN (i : Nat) : D → Env → Option Env := fun d ρ => some (ρ.set i (some (.val d)))
def aNil : List D → Env → Option Env := fun ds ρ => match ds with
  | [] => some ρ
  | _ => none
def aCons (a : D → Env → Option Env) (as : List D → Env → Option Env) : List D → Env → Option Env := fun ds ρ => match ds with
  | d :: ds => (a d ρ).bind fun ρ1 => as ds ρ1
  | _ => none
def aTup (as : List D → Env → Option Env) : D → Env → Option Env := fun d ρ => match d with
  | .tup ds => as ds ρ
  | _ => none
theorem sg_n (i : Nat) {x : Str} {pos : Pos} (ok : CxOk X) (hi : X.N[i]? = some x) (hx : Loc X.env.scope x) (hP : RlSet Rl i) (hf : X.fn x = true ∨ X.env.scope.names.lookup x = some .local := by first | exact .inl rfl | exact .inr rfl | assumption) : SG X Rl (.Name x pos) (aN i) :=
  PG.imp (pg_name ok.nd hi hx hf) fun v σ H Q w => by
    obtain ⟨ρ, T, d, ρ', c, R, e, k⟩ := w
    cases e
    exact k _ (hP σ _) (c.set i v _) (Rep.store c R)
theorem sgs_nil (hr : RlOk Rl) : SGs X Rl [] aNil := PGs.imp pgs_nil fun vs σ H Q w => by
  obtain ⟨ρ, T, ds, ρ', c, hl, R, e, k⟩ := w
  cases ds with
  | nil =>
    cases e
    have : vs = [] := List.eq_nil_of_length_eq_zero hl
    subst this
    exact ⟨rfl, k σ (hr.refl _) c R⟩
  | cons d ds => cases e
theorem sgs_cons (hr : RlOk Rl) {e : Expr} {es : List Expr} {a : D → Env → Option Env} {as : List D → Env → Option Env} (h1 : SG X Rl e a) (h2 : SGs X Rl es as) (hs : (assignEach (e :: es) X.env).map (·.2) = assign e X.env :: (assignEach es X.env).map (·.2) := by rfl) : SGs X Rl (e :: es) (aCons a as) :=
  PGs.imp (pgs_cons h1 h2 hs) fun vs σ H Q w => by
    obtain ⟨ρ, T, ds, ρ', c, hl, R, e, k⟩ := w
    cases ds with
    | nil => cases e
    | cons d ds =>
      cases vs with
      | nil => simp at hl
      | cons v vs =>
        have e : (a d ρ).bind (fun ρ1 => as ds ρ1) = some ρ' := e
        cases e1 : a d ρ with
        | none => rw [e1] at e; cases e
        | some ρ1 =>
          rw [e1] at e
          refine ⟨v, vs, rfl, ρ, zipI vs (ds.map O.val) ++ T, d, ρ1, c, R.perm ?_, e1, fun σ1 f1 c1 R1 => ?_⟩
          · refine List.Perm.cons _ ?_
            show (zipI vs (ds.map O.val) ++ (pairs σ ρ ++ T)).Perm _
            rw [← List.append_assoc, ← List.append_assoc]
            exact List.perm_append_comm.append_right T
          · refine ⟨ρ1, T, ds, ρ', c1, by simpa using hl, R1.perm ?_, e, fun σ' f' c' R' => k σ' (hr.trans f1 f') c' R'⟩
            rw [← List.append_assoc, ← List.append_assoc]
            exact List.perm_append_comm.append_right T
theorem sg_tup {es : List Expr} {x1 : Nat} {pos : Pos} {as : List D → Env → Option Env} {n : Nat} (ok : CxOk X) (h : SGs X Rl es as) (hn : (assignEach es X.env).length = n := by rfl) (hst : (assignEach es X.env).findIdx? (·.1) = none := by rfl) (hl : ∀ ds ρ ρ', as ds ρ = some ρ' → ds.length = n) : SG X Rl (.Tuple es x1 pos) (aTup as) :=
  PG.imp (pg_tup ok.calm h hn hst) fun v σ H Q w => by
    obtain ⟨ρ, T, d, ρ', c, R, e, k⟩ := w
    unfold aTup at e
    split at e
    · rename_i ds
      obtain ⟨p, vs, rfl, hp, lp, R1⟩ := R.lend.shT (List.mem_cons_self ..) rfl
      refine ⟨p, vs, rfl, hp, by rw [lp]; exact hl _ _ _ e, ρ, T, ds, ρ', c, lp, ?_, e, k⟩
      exact (R1.nob.perm List.perm_middle).drop
    · cases e
theorem aNil_len : ∀ ds ρ ρ', aNil ds ρ = some ρ' → ds.length = 0 := fun ds ρ ρ' e => by
  cases ds with
  | nil => rfl
  | cons => cases e
theorem aCons_len {a : D → Env → Option Env} {as : List D → Env → Option Env} {n : Nat} (h : ∀ ds ρ ρ', as ds ρ = some ρ' → ds.length = n) : ∀ ds ρ ρ', aCons a as ds ρ = some ρ' → ds.length = n + 1 := fun ds ρ ρ' e => by
  cases ds with
  | nil => cases e
  | cons d ds =>
    have e : (a d ρ).bind (fun ρ1 => as ds ρ1) = some ρ' := e
    cases e1 : a d ρ with
    | none => rw [e1] at e; cases e
    | some ρ1 => rw [e1] at e; simp [h ds ρ1 ρ' e]
/-- a, b = .. -/
def mAsg (a : D → Env → Option Env) (m : M O) : M Fl := fun ρ => (m ρ).bind fun o ρ1 => match a o.toD ρ1 with
  | some ρ2 => .ok .nx ρ2
  | none => .no
theorem ss_asg {tg e : Expr} {pos : Pos} {m : M O} {a : D → Env → Option Env} (h : SE X e m) (hg : SG X (Fix P) tg a) (hs : swapsWithSole [tg] e pos.line X.env = pure false := by rfl) (hw : swappedStores [tg] e X.env = pure none := by rfl) (h1 : (assignEach [tg] X.env).map (·.2) = [assign tg X.env] := by rfl) : SS X P (.Assign [tg] e pos) (mAsg a m) :=
  PS.imp (ps_asg h hg hs hw h1) fun D σ H w => by
    obtain ⟨ρ, T, c, R, h⟩ := tS_iff.mp w
    unfold mAsg at h
    cases e1 : m ρ with
    | ok o ρ1 =>
      rw [e1] at h
      have h : Post X.K X.mg P T D σ (match a o.toD ρ1 with | some ρ2 => .ok .nx ρ2 | none => .no) := h
      cases e2 : a o.toD ρ1 with
      | none => rw [e2] at h; exact h.elim
      | some ρ2 =>
        rw [e2] at h
        exact ⟨ρ, T, o, ρ1, c, R, e1, fun v H' c' R' => ⟨ρ1, T, _, ρ2, c', R'.frz, e2, fun σ' f' c2 R2 => h σ' H' f' c2 R2⟩⟩
    | exc x ρ1 => rw [e1] at h; exact h.elim
    | no => rw [e1] at h; exact h.elim

/-! ### while -/
def whileN (t : M Bool) (b : M Fl) : Nat → M Fl
  | 0 => fun _ => .no
  | n + 1 => fun ρ => (t ρ).bind fun c ρ1 => if c = true then (b ρ1).bind fun f ρ2 => match f with
      | .nx => whileN t b n ρ2
      | .ct => whileN t b n ρ2
      | .brk => .ok .nx ρ2
      | .ret o => .ok (.ret o) ρ2
    else .ok .nx ρ1
def mWhile (fuel : Env → Nat) (t : M Bool) (b : M Fl) : M Fl := fun ρ => whileN t b (fuel ρ) ρ
theorem ss_while {c : Expr} {body : List Stmt} {pos : Pos} {t : M Bool} {b : M Fl} (fuel : Env → Nat) (hp : PassesOwn (model X.prog X.w) X.A X.env X.xe) (hc : SET X c t) (hb : SSs X P body b) : SS X P (.While c body [] pos) (mWhile fuel t b) :=
  PS.imp (ps_while hp hc hb) fun D σ H w => by
    obtain ⟨ρ, T, cv, R, h⟩ := tS_iff.mp w
    refine ⟨fun n σ' H' => ∃ ρ', Fix P σ σ' ∧ Cov σ' ρ' ∧ Rep X.K X.mg H' (pairs σ' ρ' ++ T) [] ∧ Post X.K X.mg P T D σ (whileN t b n ρ'), ⟨fuel ρ, ρ, Fix.refl _ _, cv, R, h⟩, ?_⟩
    rintro n σ1 H1 ⟨ρ1, f1, c1, R1, h1⟩
    cases n with
    | zero => exact h1.elim
    | succ n =>
      have h1 : Post X.K X.mg P T D σ ((t ρ1).bind fun c ρ1 => if c = true then (b ρ1).bind fun f ρ2 => match f with
        | .nx => whileN t b n ρ2
        | .ct => whileN t b n ρ2
        | .brk => .ok .nx ρ2
        | .ret o => .ok (.ret o) ρ2
        else .ok .nx ρ1) := h1
      cases e1 : t ρ1 with
      | exc x ρ2 => rw [e1] at h1; exact h1.elim
      | no => rw [e1] at h1; exact h1.elim
      | ok u ρ2 =>
        rw [e1] at h1
        refine ⟨ρ1, T, u, ρ2, c1, R1, e1, fun H2 c2 R2 => ?_⟩
        cases u with
        | false =>
          rw [if_neg Bool.false_ne_true]
          exact h1 σ1 H2 f1 c2 R2
        | true =>
          rw [if_pos rfl]
          have h1 : Post X.K X.mg P T D σ ((b ρ2).bind fun f ρ2 => match f with
            | .nx => whileN t b n ρ2
            | .ct => whileN t b n ρ2
            | .brk => .ok .nx ρ2
            | .ret o => .ok (.ret o) ρ2) := h1
          refine ⟨fun σ' H' => ∃ ρ', Fix P σ σ' ∧ Cov σ' ρ' ∧ Rep X.K X.mg H' (pairs σ' ρ' ++ T) [] ∧ Post X.K X.mg P T D σ (whileN t b n ρ'), fun σ' H' q => ⟨n, Nat.lt_succ_self n, q⟩, ?_⟩
          refine tS_iff.mpr ⟨ρ2, T, c2, R2, ?_⟩
          cases e2 : b ρ2 with
          | exc x ρ3 => rw [e2] at h1; exact h1.elim
          | no => rw [e2] at h1; exact h1.elim
          | ok fl ρ3 =>
            rw [e2] at h1
            cases fl with
            | nx => exact fun σ' H' f' c' R' => ⟨ρ3, f1.trans f', c', R', h1⟩
            | ct => exact fun σ' H' f' c' R' => ⟨ρ3, f1.trans f', c', R', h1⟩
            | brk => exact fun σ' H' f' c' R' => h1 σ' H' (f1.trans f') c' R'
            | ret o => exact fun v σ' H' f' c' R' => h1 v σ' H' (f1.trans f') c' R'

/-! ### for -/
/-- an iterator that yields these, while the kept items stand -/
def Its (K : PySem.W.Frag) (mg : Str → Option Value) (J : It) (ks : List Item) (ds : List D) : Prop :=
  ∀ (L : List Item) (H : Hp), Rep K mg H (ks ++ L) [] → (∀ (i : Nat) (d : D), ds[i]? = some d → J.go i H ∧ ∀ x H', J.yld i H x H' → Same H H' ∧ Rep K mg H' (.ov x (.val d) :: (ks ++ L)) []) ∧ J.stop ds.length H
def tI (K : PySem.W.Frag) (mg : Str → Option Value) (m : M (List D)) : TI := fun σ H R => ∃ ρ T ds ρ', Cov σ ρ ∧ Rep K mg H (pairs σ ρ ++ T) [] ∧ m ρ = .ok ds ρ' ∧ ∀ J ks H', Cov σ ρ' → Its K mg J ks ds → Rep K mg H' (ks ++ (pairs σ ρ' ++ T)) [] → R J H'
theorem PI.imp {tg it : Expr} {t t' : TI} (h : PI X tg it t) (q : ∀ σ H R, t' σ H R → t σ H R) : PI X tg it t' := ⟨fun pins s σ H R I w => h.run pins s σ H R I (q σ H R w)⟩
def SI (X : Cx) (tg it : Expr) (m : M (List D)) : Prop := PI X tg it (tI X.K X.mg m)
def forL (a : D → Env → Option Env) (b : M Fl) : List D → M Fl
  | [] => fun ρ => .ok .nx ρ
  | d :: ds => fun ρ => match a d ρ with
    | none => .no
    | some ρ1 => (b ρ1).bind fun f ρ2 => match f with
      | .nx => forL a b ds ρ2
      | .ct => forL a b ds ρ2
      | .brk => .ok .nx ρ2
      | .ret o => .ok (.ret o) ρ2
def mFor (m : M (List D)) (a : D → Env → Option Env) (b : M Fl) : M Fl := fun ρ => (m ρ).bind fun ds ρ1 => forL a b ds ρ1
theorem drop_cons {α : Type} {ds : List α} {i : Nat} (h : i < ds.length) : ds.drop i = ds[i] :: ds.drop (i + 1) := List.drop_eq_getElem_cons h
theorem Rep.drops : ∀ {H : Hp} {M L : List Item}, Rep K mg H (M ++ L) [] → Rep K mg H L []
  | _, [], _, h => h
  | _, _ :: _, _, h => Rep.drops (Rep.drop h)
theorem rot (A B C : List Item) : (A ++ (B ++ C)).Perm (B ++ (A ++ C)) := by
  rw [← List.append_assoc, ← List.append_assoc]
  exact List.perm_append_comm.append_right _
theorem Post.more {ks T : List Item} {D : Ends} {σ : L2.St} {r : Res Fl} (h : Post K mg P T D σ r) : Post K mg P (ks ++ T) D σ r := by
  cases r with
  | ok fl ρ' =>
    cases fl with
    | nx => exact fun σ' H' f c R => h σ' H' f c (R.perm (rot _ _ _)).drops
    | brk => exact fun σ' H' f c R => h σ' H' f c (R.perm (rot _ _ _)).drops
    | ct => exact fun σ' H' f c R => h σ' H' f c (R.perm (rot _ _ _)).drops
    | ret o => exact fun v σ' H' f c R => h v σ' H' f c (R.perm (((rot _ _ _).cons _).trans List.perm_middle.symm)).drops
  | exc x ρ' => exact h
  | no => exact h
/-- the turns of a loop over these -/
theorem for_core {J : It} {ks T : List Item} {ds : List D} {a : D → Env → Option Env} {b : M Fl} {D : Ends} {σ : L2.St} {H : Hp} {ρ : Env} (c : Cov σ ρ) (hJ : Its K mg J ks ds) (R : Rep K mg H (ks ++ (pairs σ ρ ++ T)) []) (h : Post K mg P (ks ++ T) D σ (forL a b ds ρ)) :
    ∃ W : Nat → Nat → L2.St → Hp → Prop, (∃ m, W 0 m σ H) ∧ ∀ i m σ H, W i m σ H →
      (J.stop i H ∧ D.nx σ H) ∨ (J.go i H ∧ ∃ N : L2.St → Hp → Prop, (∀ σ' H', N σ' H' → ∃ m', m' < m ∧ W (i + 1) m' σ' H') ∧ ∀ x H', J.yld i H x H' → tG K mg (Fix P) a x σ H' fun σ2 H2 => tS K mg P b { D with nx := N, ct := N, bk := D.nx } σ2 H2) := by
  let W : Nat → L2.St → Hp → Prop := fun i σ' H' => ∃ ρ', i ≤ ds.length ∧ Fix P σ σ' ∧ Cov σ' ρ' ∧ Rep K mg H' (ks ++ (pairs σ' ρ' ++ T)) [] ∧ Post K mg P (ks ++ T) D σ (forL a b (ds.drop i) ρ')
  refine ⟨fun i n σ' H' => n = ds.length - i ∧ W i σ' H', ⟨ds.length, by simp, ρ, Nat.zero_le _, Fix.refl _ _, c, R, h⟩, ?_⟩
  rintro i n σ1 H1 ⟨rfl, ρ2, hi, f1, c1, R1, h1⟩
  by_cases hlt : i < ds.length
  · have hd : ds[i]? = some ds[i] := by simp [hlt]
    obtain ⟨hgo, hy⟩ := (hJ _ H1 R1).1 i _ hd
    refine .inr ⟨hgo, fun σ' H' => W (i + 1) σ' H', fun σ' H' q => ⟨ds.length - (i + 1), by omega, rfl, q⟩, fun x H2 y => ?_⟩
    obtain ⟨_, R2⟩ := hy x H2 y
    rw [drop_cons hlt] at h1
    have h1 : Post K mg P (ks ++ T) D σ (match a ds[i] ρ2 with
      | none => .no
      | some ρ1 => (b ρ1).bind fun f ρ2 => match f with
        | .nx => forL a b (ds.drop (i + 1)) ρ2
        | .ct => forL a b (ds.drop (i + 1)) ρ2
        | .brk => .ok .nx ρ2
        | .ret o => .ok (.ret o) ρ2) := h1
    cases e2 : a ds[i] ρ2 with
    | none => rw [e2] at h1; exact h1.elim
    | some ρ3 =>
      rw [e2] at h1
      refine ⟨ρ2, ks ++ T, ds[i], ρ3, c1, R2.perm ((rot _ _ _).cons _), e2, fun σ3 f3 c3 R3 => ?_⟩
      refine tS_iff.mpr ⟨ρ3, ks ++ T, c3, R3, ?_⟩
      have back : ∀ {H' : Hp} {σ' : L2.St} {ρ' : Env}, Rep K mg H' (pairs σ' ρ' ++ (ks ++ T)) [] → Rep K mg H' (ks ++ (pairs σ' ρ' ++ T)) [] := fun R => R.perm (rot _ _ _)
      have h1 : Post K mg P (ks ++ T) D σ ((b ρ3).bind fun f ρ2 => match f with
        | .nx => forL a b (ds.drop (i + 1)) ρ2
        | .ct => forL a b (ds.drop (i + 1)) ρ2
        | .brk => .ok .nx ρ2
        | .ret o => .ok (.ret o) ρ2) := h1
      cases e3 : b ρ3 with
      | exc x ρ4 => rw [e3] at h1; exact h1.elim
      | no => rw [e3] at h1; exact h1.elim
      | ok fl ρ4 =>
        rw [e3] at h1
        cases fl with
        | nx => exact fun σ' H' f' c' R' => ⟨ρ4, hlt, f1.trans (f3.trans f'), c', back R', h1⟩
        | ct => exact fun σ' H' f' c' R' => ⟨ρ4, hlt, f1.trans (f3.trans f'), c', back R', h1⟩
        | brk => exact fun σ' H' f' c' R' => h1 σ' H' (f1.trans (f3.trans f')) c' R'
        | ret o => exact fun v σ' H' f' c' R' => h1 v σ' H' (f1.trans (f3.trans f')) c' R'
  · have e : i = ds.length := by omega
    subst e
    refine .inl ⟨(hJ _ H1 R1).2, ?_⟩
    rw [List.drop_length] at h1
    exact h1 σ1 H1 f1 c1 (R1.perm (rot _ _ _))
theorem ss_for {tg iter : Expr} {body : List Stmt} {pos : Pos} {m : M (List D)} {a : D → Env → Option Env} {b : M Fl} (ok : CxOk X) (hp : PassesOwn (model X.prog X.w) X.A X.env X.xe) (hi : SI X tg iter m) (hg : SG X (Fix P) tg a) (hb : SSs X P body b)
    (hs : ∀ x, foldedSetIterable iter X.env x = pure x := by intro _; rfl) : SS X P (.For tg iter body [] pos) (mFor m a b) :=
  PS.imp (ps_for hp ok.calm hi hg hb hs) fun D σ H w => by
    obtain ⟨ρ, T, cv, R, h⟩ := tS_iff.mp w
    unfold mFor at h
    cases e1 : m ρ with
    | exc x ρ1 => rw [e1] at h; exact h.elim
    | no => rw [e1] at h; exact h.elim
    | ok ds ρ1 =>
      rw [e1] at h
      exact ⟨ρ, T, ds, ρ1, cv, R, e1, fun J ks H' c' hJ R' => for_core c' hJ R' (Post.more h)⟩
end
end FB

/-! What a for or a comprehension walks. -/
namespace FB
open PySem PySem.Spec L2
open PyProof.Rows hiding St

section
variable {X : Cx} {K : PySem.W.Frag} {mg : Str → Option Value}
theorem its_list {a : Addr} {ds : List D} : Its K mg (Itl K a) [.ov (.ref a) (.val (.lst ds))] ds := by
  intro L H R
  obtain ⟨p, vs, e, hp, lp, R1⟩ := (Rep.lend R).shL (List.mem_cons_self ..) rfl
  cases e
  refine ⟨fun i d hd => ?_, ⟨vs, .inl hp, by omega⟩⟩
  have hi : i < ds.length := (List.getElem?_eq_some_iff.mp hd).1
  have hv : vs[i]? = some (vs[i]'(by omega)) := by simp
  refine ⟨⟨vs, _, .inl hp, hv⟩, fun x H' y => ?_⟩
  obtain ⟨e, y⟩ := y
  subst e
  have := y vs (.inl hp)
  exact ⟨Same.refl _, (R1.nth this hd).keep.nob⟩
theorem its_tup {a : Addr} {ds : List D} : Its K mg (Itt K a) [.ov (.ref a) (.val (.tup ds))] ds := by
  intro L H R
  obtain ⟨p, vs, e, hp, lp, R1⟩ := (Rep.lend R).shT (List.mem_cons_self ..) rfl
  cases e
  refine ⟨fun i d hd => ?_, ⟨vs, hp, by omega⟩⟩
  have hi : i < ds.length := (List.getElem?_eq_some_iff.mp hd).1
  have hv : vs[i]? = some (vs[i]'(by omega)) := by simp
  refine ⟨⟨vs, _, hp, hv⟩, fun x H' y => ?_⟩
  obtain ⟨e, y⟩ := y
  subst e
  have := y vs hp
  exact ⟨Same.refl _, (R1.nth this hd).keep.nob⟩
theorem its_scr {a : Addr} {ns : List Int} : Its K mg (Itl K a) [.ov (.ref a) (.val (.scr ns))] (ns.map D.int) := by
  intro L H R
  have q : Vw K mg H (.ref a) (.scr ns) := (Rep.lend R).view (List.mem_cons_self ..)
  cases q with
  | scr h =>
    refine ⟨fun i d hd => ?_, ⟨_, h, by simp⟩⟩
    rw [List.getElem?_map] at hd
    cases e : ns[i]? with
    | none => rw [e] at hd; cases hd
    | some n =>
      rw [e] at hd; cases hd
      have hv : (ns.map V.int)[i]? = some (.int n) := by rw [List.getElem?_map, e]; rfl
      refine ⟨⟨_, _, h, hv⟩, fun x H' y => ?_⟩
      obtain ⟨e1, y⟩ := y
      subst e1
      have := y _ h
      rw [hv] at this
      cases this
      exact ⟨Same.refl _, R.scal fun _ => .int n⟩
def rangeL (lo : Int) (n : Nat) : List D := (List.range n).map fun (i : Nat) => D.int (lo + (i : Int))
theorem its_range {lo : Int} {n : Nat} : Its K mg (Itr lo n) [] (rangeL lo n) := by
  intro L H R
  refine ⟨fun i d hd => ?_, by unfold rangeL; simp [Itr]⟩
  have hi : i < n := by
    have := (List.getElem?_eq_some_iff.mp hd).1
    simpa [rangeL] using this
  have e : d = .int (lo + i) := by
    unfold rangeL at hd
    rw [List.getElem?_map, List.getElem?_range hi] at hd
    cases hd; rfl
  subst e
  refine ⟨hi, fun x H' y => ?_⟩
  obtain ⟨e1, e2⟩ := y
  subst e1 e2
  exact ⟨Same.refl _, R.scal fun _ => .int _⟩
def signs (z : Str) : List D := z.cps.toList.map fun c => D.str ⟨#[c]⟩
theorem its_str {z : Str} (hz : PyData.strOk z = true) : Its K mg (L2.Its z) [] (signs z) := by
  intro L H R
  refine ⟨fun i d hd => ?_, by unfold signs; simp [L2.Its]⟩
  have hi : i < z.cps.size := by
    have := (List.getElem?_eq_some_iff.mp hd).1
    simpa [signs] using this
  refine ⟨hi, fun x H' y => ?_⟩
  obtain ⟨e1, c, hc, e2⟩ := y
  subst e1 e2
  have e : d = .str ⟨#[c]⟩ := by
    unfold signs at hd
    rw [List.getElem?_map] at hd
    have : z.cps.toList[i]? = some c := by simpa using hc
    rw [this] at hd
    cases hd; rfl
  subst e
  have hm : c ∈ z.cps.toList := List.mem_of_getElem? (by simpa using hc)
  have q : z.cps.all (· < 0x110000) = true := hz
  rw [← Array.all_toList, List.all_eq_true] at q
  have hk : PyData.strOk ⟨#[c]⟩ = true := by
    show (#[c].all _) = true
    simp [of_decide_eq_true (q c hm)]
  exact ⟨Same.refl _, R.scal fun _ => .str _ hk⟩
def enumL (ds : List D) : List D := ds.mapIdx fun i d => .tup [.int (i : Nat), d]
theorem enumL_get {ds : List D} {i : Nat} {d : D} (h : (enumL ds)[i]? = some d) : ∃ e, ds[i]? = some e ∧ d = .tup [.int (i : Nat), e] := by
  unfold enumL at h
  rw [List.getElem?_mapIdx] at h
  cases e : ds[i]? with
  | none => rw [e] at h; cases h
  | some x => rw [e] at h; cases h; exact ⟨x, rfl, rfl⟩
theorem its_enum {a : Addr} {ds : List D} : Its K mg (Ite K a) [.ov (.ref a) (.val (.lst ds))] (enumL ds) := by
  intro L H R
  obtain ⟨p, vs, e, hp, lp, R1⟩ := (Rep.lend R).shL (List.mem_cons_self ..) rfl
  cases e
  have hl : (enumL ds).length = ds.length := by unfold enumL; simp
  refine ⟨fun i d hd => ?_, ⟨vs, .inl hp, by rw [hl]; omega⟩⟩
  obtain ⟨e, he, rfl⟩ := enumL_get hd
  have hi : i < ds.length := (List.getElem?_eq_some_iff.mp he).1
  have hv : vs[i]? = some (vs[i]'(by omega)) := by simp
  refine ⟨⟨vs, _, .inl hp, hv⟩, fun x H' y => ?_⟩
  obtain ⟨T, u, rfl, hT, rfl, y⟩ := y
  have hu := y vs (.inl hp)
  refine ⟨sameNew hT, ?_⟩
  have R2 := (R1.nth hu he).keep.nob
  have R3 : Rep K mg H (zipI [.int (i : Nat), u] ([D.int (i : Nat), e].map O.val) ++ (.ov (.ref a) (.val (.lst ds)) :: L)) [] := R2.scal fun _ => .int _
  exact Rep.newT R3 rfl hT
def zipL (xs ys : List D) : List D := List.zipWith (fun x y => .tup [x, y]) xs ys
theorem zipL_get {xs ys : List D} {i : Nat} {d : D} (h : (zipL xs ys)[i]? = some d) : ∃ x y, xs[i]? = some x ∧ ys[i]? = some y ∧ d = .tup [x, y] := by
  unfold zipL at h
  rw [List.getElem?_zipWith] at h
  cases e1 : xs[i]? with
  | none => rw [e1] at h; cases h
  | some x =>
    cases e2 : ys[i]? with
    | none => rw [e1, e2] at h; cases h
    | some y => rw [e1, e2] at h; cases h; exact ⟨x, y, rfl, rfl, rfl⟩
/-- .. with one more item ahead -/
theorem Rep.nth' {H : Hp} {L : List Item} {B : List (V × O)} {vs : List V} {ds : List D} {i : Nat} {v : V} {d : D} {z : Item} (h : Rep K mg H (zipI vs (ds.map O.val) ++ z :: L) B) (h1 : vs[i]? = some v) (h2 : ds[i]? = some d) : Rep K mg H (.ov v (.val d) :: z :: L) [] := (h.nth h1 h2).keep.nob
/-! ### the rules -/
theorem PI.or {tg it : Expr} {t t' : TI} (h : PI X tg it t) (h' : PI X tg it t') : PI X tg it (fun σ H R => t σ H R ∨ t' σ H R) := ⟨fun pins s σ H R I w => w.elim (h.run pins s σ H R I) (h'.run pins s σ H R I)⟩
def D.items? : D → Option (List D)
  | .lst ds => some ds
  | .tup ds => some ds
  | .scr ns => some (ns.map D.int)
  | .str z => some (signs z)
  | _ => none
def mI (m : M O) : M (List D) := fun ρ => (m ρ).bind fun o ρ1 => match o.toD.items? with
  | some ds => .ok ds ρ1
  | none => .no
theorem si_val {tg e : Expr} {m : M O} (h : SE X e m) : SI X tg e (mI m) := PI.imp (FB.PI.or (pi_list h) (FB.PI.or (pi_tup h) (pi_str h))) fun σ H R w => by
  obtain ⟨ρ, T, ds, ρ', c, Rp, e, k⟩ := w
  obtain ⟨o, ρ1, e1, e⟩ := Res.bind_eq e
  split at e
  · rename_i ds' e2
    cases e
    cases hd : o.toD with
    | lst es =>
      rw [hd] at e2; cases e2
      refine .inl ⟨ρ, T, o, _, c, Rp, e1, fun v H' c' R' => ?_⟩
      have R2 := R'.frz
      rw [hd] at R2
      obtain ⟨p, vs, rfl, hp, lp, _⟩ := R2.lend.shL (List.mem_cons_self ..) rfl
      exact ⟨p, rfl, ⟨vs, .inl hp⟩, k _ _ _ c' its_list R2⟩
    | tup es =>
      rw [hd] at e2; cases e2
      refine .inr (.inl ⟨ρ, T, o, _, c, Rp, e1, fun v H' c' R' => ?_⟩)
      have R2 := R'.frz
      rw [hd] at R2
      obtain ⟨p, vs, rfl, hp, lp, _⟩ := R2.lend.shT (List.mem_cons_self ..) rfl
      exact ⟨p, rfl, ⟨vs, hp⟩, k _ _ _ c' its_tup R2⟩
    | scr ns =>
      rw [hd] at e2; cases e2
      refine .inl ⟨ρ, T, o, _, c, Rp, e1, fun v H' c' R' => ?_⟩
      have R2 := R'.frz
      rw [hd] at R2
      have q : Vw X.K X.mg H' v (.scr ns) := R2.lend.view (List.mem_cons_self ..)
      cases q with
      | scr hq => exact ⟨_, rfl, ⟨_, hq⟩, k _ _ _ c' its_scr R2⟩
    | str z =>
      rw [hd] at e2; cases e2
      refine .inr (.inr ⟨ρ, T, o, _, c, Rp, e1, fun v H' c' R' => ?_⟩)
      have R2 := R'.frz
      rw [hd] at R2
      exact ⟨z, R2.lend.shStr (List.mem_cons_self ..) rfl, k _ [] _ c' (its_str (R2.lend.strOk (List.mem_cons_self ..) rfl)) R2.drop⟩
    | non => rw [hd] at e2; cases e2
    | bl _ => rw [hd] at e2; cases e2
    | int _ => rw [hd] at e2; cases e2
    | dct _ _ => rw [hd] at e2; cases e2
    | ins _ _ _ => rw [hd] at e2; cases e2
    | fn _ => rw [hd] at e2; cases e2
  · cases e
theorem line62 : (2 : Int) ^ 62 = 4611686018427387904 := by decide
def small (i : Int) : Bool := decide (-1000000000000 < i) && decide (i < 1000000000000)
theorem small_eq {i : Int} (h : small i = true) : -(2 ^ 62) ≤ i ∧ i < 2 ^ 62 := by
  unfold small at h
  simp only [Bool.and_eq_true, decide_eq_true_eq] at h
  rw [line62]; omega
def mR1 (m : M O) : M (List D) := fun ρ => (m ρ).bind fun o ρ1 => match o with
  | .val (.int j) => if small j = true then .ok (rangeL 0 j.toNat) ρ1 else .no
  | _ => .no
theorem si_range1 {tg a : Expr} {p pos : Pos} {m : M O} (hg : Gl X "range") (hm : X.mg "range" = none) (ha : SE X a m) (hs : starEach (a :: []) X.env = (false, eval a X.env) :: starEach [] X.env := by rfl) : SI X tg (.Call (.Name "range" p) [a] [] pos) (mR1 m) :=
  PI.imp (pi_range1 hg hm (pa_cons ha pa_nil hs) hs) fun σ H R w => by
    obtain ⟨ρ, T, ds, ρ', c, Rp, e, k⟩ := w
    obtain ⟨o, ρ1, e1, e⟩ := Res.bind_eq e
    split at e
    · rename_i j
      split at e
      · rename_i hj
        cases e
        obtain ⟨h1, h2⟩ := small_eq hj
        exact ⟨ρ, T, _, _, c, Rp, e1, fun v H' c' R' => ⟨j, by rw [R'.lend.shInt (List.mem_cons_self ..) rfl], h1, h2, k _ [] _ c' its_range R'.drop⟩⟩
      · cases e
    · cases e
def mEnum (m : M O) : M (List D) := fun ρ => (m ρ).bind fun o ρ1 => match o.toD with
  | .lst ds => .ok (enumL ds) ρ1
  | _ => .no
theorem si_enum {a : Expr} {elts : List Expr} {kk : Nat} {tpos : Pos} {p pos : Pos} {m : M O} (hg : Gl X "enumerate") (hm : X.mg "enumerate" = none) (ha : SE X a m) (hs : starEach (a :: []) X.env = (false, eval a X.env) :: starEach [] X.env := by rfl) : SI X (.Tuple elts kk tpos) (.Call (.Name "enumerate" p) [a] [] pos) (mEnum m) :=
  PI.imp (pi_enum hg hm (pa_cons ha pa_nil hs) hs) fun σ H R w => by
    obtain ⟨ρ, T, ds, ρ', c, Rp, e, k⟩ := w
    obtain ⟨o, ρ1, e1, e⟩ := Res.bind_eq e
    split at e
    · rename_i es hd
      cases e
      refine ⟨ρ, T, o, _, c, Rp, e1, fun v H' c' R' => ?_⟩
      have R2 := R'.frz
      rw [hd] at R2
      obtain ⟨p, vs, rfl, hp, lp, _⟩ := R2.lend.shL (List.mem_cons_self ..) rfl
      exact ⟨p, vs, rfl, .inl hp, k _ _ _ c' its_enum R2⟩
    · cases e
end
end FB

/-! Comprehensions; defs and their calls. -/
namespace FB
open PySem PySem.Spec L2
open PyProof.Rows hiding St

section
variable {X : Cx} {K : PySem.W.Frag} {mg : Str → Option Value}
/-! ### comprehensions -/
abbrev own2 (own : List (Str × Nat)) : List Nat := own.map (·.2)
def wipeE (ρ : Env) : List Nat → Env
  | [] => ρ
  | v :: vs => (wipeE ρ vs).set v none
/-- the own names as they stood ahead -/
def backE (ρ2 ρ1 : Env) : List Nat → Env
  | [] => ρ2
  | v :: vs => match (wipeE ρ1 vs)[v]? with
    | some (some o) => (backE ρ2 ρ1 vs).set v (some o)
    | _ => backE ρ2 ρ1 vs
theorem wipeE_len (ρ : Env) : ∀ own : List Nat, (wipeE ρ own).length = ρ.length
  | [] => rfl
  | v :: vs => by unfold wipeE; rw [List.length_set, wipeE_len ρ vs]
theorem Cov.wipe {σ : L2.St} {ρ : Env} (c : Cov σ ρ) : ∀ own : List Nat, Cov (wipe σ own) (wipeE ρ own)
  | [] => c
  | v :: vs => by
    have ih := Cov.wipe c vs
    unfold L2.wipe wipeE
    refine ⟨by simp [ih.len], fun i o h => ?_⟩
    by_cases e : v = i
    · subst e
      have : v < (wipeE ρ vs).length := by
        have := (List.getElem?_eq_some_iff.mp h).1
        simpa using this
      simp [this] at h
    · rw [List.getElem?_set_ne e] at h ⊢
      exact ih.ex i o h
theorem wipeE_cons (ρ : Env) (v : Nat) (vs : List Nat) : wipeE ρ (v :: vs) = (wipeE ρ vs).set v none := rfl
theorem wipeE_none {ρ : Env} : ∀ {own : List Nat} {v : Nat} {o : O}, v ∈ own → (wipeE ρ own)[v]? ≠ some (some o)
  | [], _, _, h => by simp at h
  | w :: ws, v, o, h => by
    rw [wipeE_cons]
    by_cases e : w = v
    · subst e
      intro z
      have : w < (wipeE ρ ws).length := by
        have := (List.getElem?_eq_some_iff.mp z).1
        simpa using this
      simp [this] at z
    · rw [List.getElem?_set_ne e]
      have : v ∈ ws := by rcases List.mem_cons.mp h with q | q; exact absurd q.symm e; exact q
      exact wipeE_none this
theorem wipe_out {σ : L2.St} {i : Nat} : ∀ {vs : List Nat}, i ∉ vs → (wipe σ vs)[i]? = σ[i]?
  | [], _ => rfl
  | v :: vs, h => by
    unfold wipe
    rw [List.getElem?_set_ne (fun z => h (by rw [z]; exact List.mem_cons_self ..))]
    exact wipe_out fun z => h (List.mem_cons_of_mem _ z)
theorem pairs_congr : ∀ {σ σ' : L2.St} {ρ : Env}, σ.length = σ'.length → (∀ (i : Nat) (o : O), ρ[i]? = some (some o) → σ[i]? = σ'[i]?) → pairs σ ρ = pairs σ' ρ
  | [], [], _, _, _ => rfl
  | [], _ :: _, _, hl, _ => by simp at hl
  | _ :: _, [], _, hl, _ => by simp at hl
  | a :: σ, a' :: σ', [], _, _ => by rw [pairs_nil', pairs_nil']
  | a :: σ, a' :: σ', b :: ρ, hl, h => by
    have t := pairs_congr (σ := σ) (σ' := σ') (ρ := ρ) (by simpa using hl) (fun i o e => by simpa using h (i + 1) o (by simpa using e))
    cases b with
    | none => rw [pairs_sn, pairs_sn, t]
    | some b =>
      have e := h 0 b (by simp)
      simp at e
      subst e
      cases a with
      | none => rw [pairs_ns, pairs_ns, t]
      | some a => rw [pairs_ss, pairs_ss, t]
theorem pairs_wipe {σ : L2.St} {ρ : Env} (own : List Nat) : pairs (wipe σ own) (wipeE ρ own) = pairs σ (wipeE ρ own) :=
  pairs_congr (wipe_length _ _) fun i o e => wipe_out fun z => wipeE_none z e
theorem pairs_wipe2 {σ : L2.St} {ρ : Env} {own : List Nat} (h : ∀ v ∈ own, ∀ o, ρ[v]? ≠ some (some o)) : pairs (wipe σ own) ρ = pairs σ ρ :=
  pairs_congr (wipe_length _ _) fun i o e => wipe_out fun z => h i z o e
/-- the own slots' things stand aside -/
theorem aside {σ : L2.St} {ρ : Env} (c : Cov σ ρ) : ∀ own : List Nat, own.Nodup → ∃ R : List Item, (pairs σ ρ).Perm (R ++ pairs σ (wipeE ρ own)) ∧
    ∀ ρ2 : Env, Cov σ ρ2 → (∀ v ∈ own, ∀ o, ρ2[v]? ≠ some (some o)) → Cov σ (backE ρ2 ρ own) ∧ (R ++ pairs σ ρ2).Perm (pairs σ (backE ρ2 ρ own))
  | [], _ => ⟨[], .refl _, fun ρ2 c2 _ => ⟨c2, .refl _⟩⟩
  | v :: vs, nd => by
    obtain ⟨hv, nd'⟩ := List.nodup_cons.mp nd
    obtain ⟨R, p, back⟩ := aside c vs nd'
    have cw := Cov.wipe c vs
    by_cases q : ∃ o, (wipeE ρ vs)[v]? = some (some o)
    · obtain ⟨o, e⟩ := q
      obtain ⟨w, hw0⟩ := cw.ex v o e
      have hw : σ[v]? = some (some w) := (wipe_some hw0).1
      refine ⟨.ov w o :: R, ?_, fun ρ2 c2 hn => ?_⟩
      · refine p.trans ?_
        rw [wipeE_cons]
        exact ((pairs_take hw e).append_left R).trans List.perm_middle
      · obtain ⟨c3, p3⟩ := back ρ2 c2 fun u hu => hn u (List.mem_cons_of_mem _ hu)
        have e2 : backE ρ2 ρ (v :: vs) = (backE ρ2 ρ vs).set v (some o) := by
          show (match (wipeE ρ vs)[v]? with | some (some o) => (backE ρ2 ρ vs).set v (some o) | _ => backE ρ2 ρ vs) = _
          rw [e]
        rw [e2]
        have hl : v < ρ.length := by
          have := (List.getElem?_eq_some_iff.mp e).1
          rwa [wipeE_len] at this
        have hl3 : v < (backE ρ2 ρ vs).length := by rw [← c3.len, c.len]; exact hl
        have hnone : ∀ u, (backE ρ2 ρ vs)[v]? ≠ some (some u) := by
          have out : ∀ {vs : List Nat}, v ∉ vs → ∀ u, (backE ρ2 ρ vs)[v]? ≠ some (some u) := by
            intro vs
            induction vs with
            | nil => intro _ u; exact hn v (List.mem_cons_self ..) u
            | cons a as ih =>
              intro hm u
              unfold backE
              have h1 : v ≠ a := fun z => hm (by rw [z]; exact List.mem_cons_self ..)
              have h2 := ih (fun z => hm (List.mem_cons_of_mem _ z)) u
              split
              · rw [List.getElem?_set_ne (Ne.symm h1)]; exact h2
              · exact h2
          exact out hv
        refine ⟨c3.put hw _, ?_⟩
        refine (p3.cons (.ov w o)).trans ?_
        have e3 : pairs σ ((backE ρ2 ρ vs).set v none) = pairs σ (backE ρ2 ρ vs) := pairs_none hnone
        have := pairs_back (σ := σ) (ρ := backE ρ2 ρ vs) (o := o) hw hl3
        rw [e3] at this
        exact this
    · refine ⟨R, ?_, fun ρ2 c2 hn => ?_⟩
      · rw [wipeE_cons, pairs_none fun o e => q ⟨o, e⟩]
        exact p
      · obtain ⟨c3, p3⟩ := back ρ2 c2 fun u hu => hn u (List.mem_cons_of_mem _ hu)
        have e2 : backE ρ2 ρ (v :: vs) = backE ρ2 ρ vs := by
          show (match (wipeE ρ vs)[v]? with | some (some o) => (backE ρ2 ρ vs).set v (some o) | _ => backE ρ2 ρ vs) = _
          split
          · rename_i o e; exact absurd ⟨o, e⟩ q
          · rfl
        rw [e2]
        exact ⟨c3, p3⟩
theorem wipe_wipe (σ : L2.St) (own : List Nat) : wipe (wipe σ own) own = wipe σ own := by
  apply List.ext_getElem?
  intro i
  by_cases h : i ∈ own
  · have n : ∀ (τ : L2.St), (wipe τ own)[i]? = if i < τ.length then some none else none := fun τ => by
      split
      · rename_i hi
        cases q : (wipe τ own)[i]? with
        | none => rw [List.getElem?_eq_none_iff, wipe_length] at q; omega
        | some u =>
          cases u with
          | none => rfl
          | some x => exact absurd h (wipe_some q).2
      · rename_i hi
        rw [List.getElem?_eq_none_iff, wipe_length]; omega
    rw [n, n, wipe_length]
  · rw [wipe_out h]
theorem wipeE_id {ρ : Env} : ∀ {own : List Nat}, (∀ v ∈ own, ∀ o, ρ[v]? ≠ some (some o)) → wipeE ρ own = ρ
  | [], _ => rfl
  | v :: vs, h => by
    rw [wipeE_cons, wipeE_id fun u hu => h u (List.mem_cons_of_mem _ hu)]
    apply List.ext_getElem?
    intro i
    by_cases e : v = i
    · subst e
      by_cases hv : v < ρ.length
      · rw [List.getElem?_set_self hv]
        cases q : ρ[v]? with
        | none => rw [List.getElem?_eq_none_iff] at q; omega
        | some u => cases u with
          | none => rfl
          | some o => exact absurd q (h v (List.mem_cons_self ..) o)
      · rw [List.getElem?_eq_none_iff.mpr (by simpa using hv), List.getElem?_eq_none_iff.mpr (by omega)]
    · rw [List.getElem?_set_ne e]
def compL (own : List Nat) (a : D → Env → Option Env) (t : M Bool) (e : M O) : List D → M (List O)
  | [] => fun ρ => .ok [] ρ
  | d :: ds => fun ρ => match a d ρ with
    | none => .no
    | some ρ1 => (t ρ1).bind fun b ρ2 => if b = true then (e ρ2).bind fun o ρ3 => (compL own a t e ds (wipeE ρ3 own)).bind fun os ρ4 => .ok (o :: os) ρ4 else compL own a t e ds (wipeE ρ2 own)
def mComp (it : M (List D)) (own : List Nat) (a : D → Env → Option Env) (t : M Bool) (e : M O) : M O := fun ρ => (it ρ).bind fun ds ρ1 => if ds.length ≤ 1000000 then (compL own a t e ds (wipeE ρ1 own)).bind fun os ρ2 => .ok (.lst os) (backE (wipeE ρ2 own) ρ1 own) else .no
def mTrue : M Bool := fun ρ => .ok true ρ
def SETs (X : Cx) (ifs : List Expr) (m : M Bool) : Prop := PTs X ifs (tMT X.K X.mg m)
theorem sets_nil : SETs X [] mTrue := ⟨fun pins s σ H Q I w => by
  obtain ⟨ρ, T, b, ρ', c, R, e, k⟩ := w
  cases e
  exact pts_nil.run pins s σ H Q I (k H c R)⟩
theorem sets_one {c : Expr} {m : M Bool} (h : SET X c m) : SETs X [c] m := pts_one h
theorem compL_len {own : List Nat} {a : D → Env → Option Env} {t : M Bool} {e : M O} : ∀ {ds : List D} {ρ ρ' : Env} {os : List O}, compL own a t e ds ρ = .ok os ρ' → os.length ≤ ds.length
  | [], ρ, ρ', os, h => by cases h; simp
  | d :: ds, ρ, ρ', os, h => by
    unfold compL at h
    cases e1 : a d ρ with
    | none => rw [e1] at h; cases h
    | some ρ1 =>
      rw [e1] at h
      obtain ⟨b, ρ2, e2, h⟩ := Res.bind_eq h
      split at h
      · obtain ⟨o, ρ3, e3, h⟩ := Res.bind_eq h
        obtain ⟨os', ρ4, e4, h⟩ := Res.bind_eq h
        cases h
        have := compL_len e4
        simp; omega
      · have := compL_len h
        simp; omega
theorem comp_core0 {own : List Nat} {g : TG} {tt : TT} {te : TE} {a : D → Env → Option Env} {t : M Bool} {e : M O} {J : It} {ks T : List Item} {ds : List D} {ρ1 ρ2 : Env} {fin : List O} {σ : L2.St} {H1 : Hp} {Q : VK} {D : Addr} (nd : own.Nodup)
    (hg : ∀ v σ H Q, tG K mg (Wip own) a v σ H Q → g v σ H Q) (ht : ∀ σ H Q, tMT K mg t σ H Q → tt σ H Q) (he : ∀ σ H Q, tM K mg e σ H Q → te σ H Q) (hlen : ds.length ≤ 1000000) (c1 : Cov σ ρ1) (hJ : Its K mg J ks ds)
    (R1 : Rep K mg H1 (ks ++ (pairs σ ρ1 ++ T)) []) (e2 : compL own a t e ds (wipeE ρ1 own) = .ok fin ρ2) (hD : H1 D = none)
    (k : ∀ H', Cov σ (backE (wipeE ρ2 own) ρ1 own) → Rep K mg H' (.ov (.ref D) (.lst fin) :: (ks ++ (pairs σ (backE (wipeE ρ2 own) ρ1 own) ++ T))) [] → Q (.ref D) H') :
    ∃ W : Nat → Nat → Hp → Prop, (∃ m, W 0 m (upd H1 D (.lst []))) ∧ ∀ i m H, W i m H →
      (J.stop i H ∧ Q (.ref D) H) ∨ (J.go i H ∧ ∃ Nx : Hp → Prop, (∀ H', Nx H' → ∃ m', m' < m ∧ W (i + 1) m' H') ∧ ∀ x H', J.yld i H x H' → g x (wipe σ own) H' fun σ2 H2 => wipe σ2 own = wipe σ own ∧ tt σ2 H2 fun b H3 =>
        if b = true then te σ2 H3 fun y H4 => ∃ acc, H4 D = some (.lst acc) ∧ acc.length < sizeLine ∧ Nx (upd H4 D (.lst (acc ++ [y]))) else Nx H3) := by
  obtain ⟨R, p, back⟩ := aside c1 own nd
  have cw := Cov.wipe c1 own
  let W : Nat → Hp → Prop := fun i H' => ∃ ρ' acc os os', i ≤ ds.length ∧ Cov (wipe σ own) ρ' ∧ (∀ v ∈ own, ∀ o, ρ'[v]? ≠ some (some o)) ∧ acc.length = os.length ∧ fin = os ++ os' ∧
    Rep K mg H' (.raw D (.lst acc) :: (zipI acc os ++ (ks ++ (pairs (wipe σ own) ρ' ++ (R ++ T))))) [] ∧ compL own a t e (ds.drop i) ρ' = .ok os' ρ2
  refine ⟨fun i n H' => n = ds.length - i ∧ W i H', ⟨ds.length, by simp, wipeE ρ1 own, [], [], fin, Nat.zero_le _, cw, fun v hv o => wipeE_none hv, rfl, rfl, ?_, e2⟩, ?_⟩
  · rw [pairs_wipe]
    refine (R1.perm ?_).new hD
    show (ks ++ (pairs σ ρ1 ++ T)).Perm (ks ++ (pairs σ (wipeE ρ1 own) ++ (R ++ T)))
    refine List.Perm.append_left _ ?_
    rw [← List.append_assoc]
    exact (p.trans List.perm_append_comm).append_right T
  · rintro i n H2 ⟨rfl, ρ3, acc, os, os', hi', c3, hn3, hl, hf, R3, e3⟩
    have p3 : ∀ (Z : List Item) (M : List Item), (.raw D (.lst acc) :: (zipI acc os ++ (ks ++ M)) : List Item).Perm (ks ++ (.raw D (.lst acc) :: (zipI acc os ++ M))) := fun _ M => by
      refine List.Perm.trans (List.Perm.cons _ ?_) List.perm_middle.symm
      rw [← List.append_assoc, ← List.append_assoc]
      exact List.perm_append_comm.append_right _
    by_cases hlt : i < ds.length
    · have hd : ds[i]? = some ds[i] := by simp [hlt]
      obtain ⟨hgo, hy⟩ := (hJ _ H2 (R3.perm (p3 [] _))).1 i _ hd
      refine .inr ⟨hgo, fun H' => W (i + 1) H', fun H' q => ⟨ds.length - (i + 1), by omega, rfl, q⟩, fun x H3 y => ?_⟩
      obtain ⟨_, R4⟩ := hy x H3 y
      rw [drop_cons hlt] at e3
      unfold compL at e3
      cases e4 : a ds[i] ρ3 with
      | none => rw [e4] at e3; cases e3
      | some ρ4 =>
        rw [e4] at e3
        obtain ⟨b, ρ5, e5, e3⟩ := Res.bind_eq e3
        -- the frame of the turn
        have F : List Item := ks ++ (.raw D (.lst acc) :: (zipI acc os ++ (R ++ T)))
        have pF : ∀ (M : List Item), (ks ++ (.raw D (.lst acc) :: (zipI acc os ++ (M ++ (R ++ T)))) : List Item).Perm (M ++ (ks ++ (.raw D (.lst acc) :: (zipI acc os ++ (R ++ T))))) := fun M => by
          have q1 : (zipI acc os ++ (M ++ (R ++ T))).Perm (M ++ (zipI acc os ++ (R ++ T))) := rot _ _ _
          have q2 : (.raw D (.lst acc) :: (zipI acc os ++ (M ++ (R ++ T))) : List Item).Perm (M ++ (.raw D (.lst acc) :: (zipI acc os ++ (R ++ T)))) := (q1.cons _).trans List.perm_middle.symm
          exact (q2.append_left ks).trans (rot _ _ _)
        refine hg x (wipe σ own) H3 _ ⟨ρ3, _, ds[i], ρ4, c3, R4.perm ((pF _).cons _), e4, fun σ4 f4 c4 R5 => ?_⟩
        have fw : wipe σ4 own = wipe σ own := by
          have q : wipe σ4 own = wipe (wipe σ own) own := f4
          rw [q]
          exact wipe_wipe σ own
        refine ⟨fw, ht σ4 H3 _ ⟨ρ4, _, b, ρ5, c4, R5, e5, fun H5 c5 R6 => ?_⟩⟩
        have next : ∀ {H' : Hp} {ρ' : Env} {acc' : List V} {os2 : List O} {os3 : List O}, Cov σ4 ρ' → acc'.length = os2.length → fin = os2 ++ os3 → Rep K mg H' (pairs σ4 ρ' ++ (ks ++ (.raw D (.lst acc') :: (zipI acc' os2 ++ (R ++ T))))) [] → compL own a t e (ds.drop (i + 1)) (wipeE ρ' own) = .ok os3 ρ2 → W (i + 1) H' := by
          intro H' ρ' acc' os2 os3 cv hl' hf' R' e'
          refine ⟨wipeE ρ' own, acc', os2, os3, hlt, by rw [← fw]; exact Cov.wipe cv own, fun v hv o => wipeE_none hv, hl', hf', ?_, e'⟩
          obtain ⟨Rx, px, _⟩ := aside cv own nd
          have R7 : Rep K mg H' (Rx ++ (pairs σ4 (wipeE ρ' own) ++ (ks ++ (.raw D (.lst acc') :: (zipI acc' os2 ++ (R ++ T)))))) [] := R'.perm ((px.append_right _).trans (by rw [List.append_assoc]))
          have R8 := R7.drops
          have e8 : pairs σ4 (wipeE ρ' own) = pairs (wipe σ own) (wipeE ρ' own) := by rw [← fw, pairs_wipe]
          rw [e8] at R8
          refine R8.perm ?_
          have q0 : (ks ++ (.raw D (.lst acc') :: (zipI acc' os2 ++ (R ++ T))) : List Item).Perm (.raw D (.lst acc') :: (zipI acc' os2 ++ (ks ++ (R ++ T)))) := by
            exact List.perm_middle.trans (List.Perm.cons _ (rot _ _ _))
          refine (q0.append_left _).trans ?_
          refine List.perm_middle.trans (List.Perm.cons _ ?_)
          exact (rot _ _ _).trans (List.Perm.append_left _ (rot _ _ _))
        cases b with
        | true =>
          rw [if_pos rfl] at e3
          refine iteT ?_
          obtain ⟨o, ρ6, e6, e3⟩ := Res.bind_eq e3
          obtain ⟨os'', ρ7, e7, e3⟩ := Res.bind_eq e3
          cases e3
          refine he σ4 H5 _ ⟨ρ5, _, o, ρ6, c5, R6, e6, fun y H6 c6 R7 => ?_⟩
          have pD : (.ov y o :: (pairs σ4 ρ6 ++ (ks ++ (.raw D (.lst acc) :: (zipI acc os ++ (R ++ T))))) : List Item).Perm (.raw D (.lst acc) :: (.ov y o :: (pairs σ4 ρ6 ++ (ks ++ (zipI acc os ++ (R ++ T)))))) := by
            refine List.Perm.trans (List.Perm.cons _ ?_) (.swap _ _ _)
            exact (List.Perm.append_left _ List.perm_middle).trans List.perm_middle
          have R8 := R7.perm pD
          have hlen3 : acc.length < 1000000 := by
            have q := compL_len e2
            rw [hf, List.length_append, List.length_cons] at q
            omega
          refine ⟨acc, R8.rawAt, by rw [sizeLine_eq]; omega, ?_⟩
          have R9 := R8.write (o' := .lst (acc ++ [y]))
          refine next (acc' := acc ++ [y]) (os2 := os ++ [o]) (os3 := os'') c6 (by simp [hl]) (by rw [hf, List.append_assoc]; rfl) (R9.perm ?_) e7
          have ez : zipI (acc ++ [y]) (os ++ [o]) = zipI acc os ++ [.ov y o] := by
            unfold zipI
            rw [List.zipWith_append hl]; rfl
          rw [ez]
          refine List.Perm.trans ?_ (List.Perm.append_left _ (List.Perm.append_left _ (List.Perm.cons _ (List.Perm.append_right _ List.perm_append_comm))))
          show (.raw D (.lst (acc ++ [y])) :: .ov y o :: (pairs σ4 ρ6 ++ (ks ++ (zipI acc os ++ (R ++ T)))) : List Item).Perm (pairs σ4 ρ6 ++ (ks ++ (.raw D (.lst (acc ++ [y])) :: .ov y o :: (zipI acc os ++ (R ++ T)))))
          have q : ∀ (A B C : List Item) (u w : Item), (u :: w :: (A ++ (B ++ C))).Perm (A ++ (B ++ (u :: w :: C))) := fun A B C u w => by
            refine List.Perm.trans ?_ (List.Perm.append_left _ (List.perm_middle.symm))
            refine List.Perm.trans ?_ List.perm_middle.symm
            refine List.Perm.cons _ ?_
            refine List.Perm.trans ?_ (List.Perm.append_left _ (List.perm_middle.symm))
            exact List.perm_middle.symm
          exact q _ _ _ _ _
        | false =>
          rw [if_neg Bool.false_ne_true] at e3
          refine iteF ?_
          exact next c5 hl hf R6 e3
    · have ei : i = ds.length := by omega
      subst ei
      rw [List.drop_length] at e3
      cases e3
      rw [List.append_nil] at hf
      subst hf
      refine .inl ⟨(hJ _ H2 (R3.perm (p3 [] _))).2, ?_⟩
      have e4 : wipeE ρ2 own = ρ2 := wipeE_id hn3
      have c4 : Cov σ ρ2 := ⟨by rw [← c3.len, wipe_length], fun i o h => by
        obtain ⟨v, hv⟩ := c3.ex i o h
        exact ⟨v, (wipe_some hv).1⟩⟩
      obtain ⟨c5, p5⟩ := back ρ2 c4 hn3
      rw [e4] at k
      refine k H2 c5 ?_
      rw [pairs_wipe2 hn3] at R3
      have R4 := Rep.closeL R3 hl
      refine R4.perm (List.Perm.cons _ (List.Perm.append_left _ ?_))
      rw [← List.append_assoc]
      exact (List.perm_append_comm.trans p5).append_right T
theorem comp_core {tg iter elt : Expr} {own : List Nat} {wi : TI} {g : TG} {tt : TT} {te : TE} {it : M (List D)} {a : D → Env → Option Env} {t : M Bool} {e : M O} (nd : own.Nodup)
    (hi : ∀ σ H R, tI K mg it σ H R → wi σ H R) (hg : ∀ v σ H Q, tG K mg (Wip own) a v σ H Q → g v σ H Q) (ht : ∀ σ H Q, tMT K mg t σ H Q → tt σ H Q) (he : ∀ σ H Q, tM K mg e σ H Q → te σ H Q)
    (σ : L2.St) (H : Hp) (Q : VK) (w : tM K mg (mComp it own a t e) σ H Q) : tLc wi g tt te own σ H Q := by
  obtain ⟨ρ, T, o, ρ', c, Rp, e0, k⟩ := w
  obtain ⟨ds, ρ1, e1, e0⟩ := Res.bind_eq e0
  split at e0
  · rename_i hlen
    obtain ⟨fin, ρ2, e2, e0⟩ := Res.bind_eq e0
    cases e0
    refine hi σ H _ ⟨ρ, T, ds, ρ1, c, Rp, e1, fun J ks H1 c1 hJ R1 D hD => ?_⟩
    exact comp_core0 nd hg ht he hlen c1 hJ R1 e2 hD fun H' c' R' => k _ H' c' ((R'.perm List.perm_middle.symm).drops)
  · cases e0
theorem se_comp {tg iter elt : Expr} {ifs : List Expr} {scope : Scope} {own : List (Str × Nat)} {pos : Pos} {it : M (List D)} {a : D → Env → Option Env} {t : M Bool} {e : M O} (ok : CxOk X) (hi : SI X tg iter it) (bo : BlkOk X.N X.env.scope scope own)
    (hg : ∀ (s : Shared) (H : Hp) (C : Addr) (cl : List (Str × Addr)) (fp : List Addr), SG (X.blk s H scope (compEnvC scope cl C X.env) fp) (Wip (own2 own)) tg a) (ht : ∀ (s : Shared) (H : Hp) (C : Addr) (cl : List (Str × Addr)) (fp : List Addr), SETs (X.blk s H scope (compEnvC scope cl C X.env) fp) ifs t)
    (he : ∀ (s : Shared) (H : Hp) (C : Addr) (cl : List (Str × Addr)) (fp : List Addr), SE (X.blk s H scope (compEnvC scope cl C X.env) fp) elt e) (nd : (own2 own).Nodup := by decide) (hs : ∀ x, foldedSetIterable iter X.env x = pure x := by intro _; rfl) :
    SE X (.ListComp elt [⟨tg, iter, ifs, 0⟩] scope pos) (mComp it (own2 own) a t e) := PE.imp (pe_lc (wi := tI X.K X.mg it) (g := tG X.K X.mg (Wip (own2 own)) a) (tt := tMT X.K X.mg t) (te := tM X.K X.mg e) ok.calm ok.nd hi bo hg ht he hs) (comp_core (tg := tg) (iter := iter) (elt := elt) nd (fun _ _ _ w => w) (fun _ _ _ _ w => w) (fun _ _ _ w => w) (fun _ _ _ w => w))

/-- name = [..], on one line, the name a local of the def's -/
theorem ss_setLcO (i : Nat) {P : List Nat} {y : Str} {py : Pos} {tg iter elt : Expr} {ifs : List Expr} {scope : Scope} {own : List (Str × Nat)} {pos spos : Pos} {it : M (List D)} {a : D → Env → Option Env} {t : M Bool} {e : M O} (ok : CxOk X) (hy : X.N[i]? = some y) (hyl : X.env.scope.names.lookup y = some .local)
    (hsw : swapsWith (.ListComp elt [⟨tg, iter, ifs, 0⟩] scope pos) (some (.Name y py)) spos.line X.env = pure true) (hi : SI X tg iter it) (bo : BlkOk X.N X.env.scope scope own)
    (hg : ∀ (s : Shared) (H : Hp) (C : Addr) (cl : List (Str × Addr)) (fp : List Addr), SG (X.blk s H scope (compEnvC scope cl C X.env) fp) (Wip (own2 own)) tg a) (ht : ∀ (s : Shared) (H : Hp) (C : Addr) (cl : List (Str × Addr)) (fp : List Addr), SETs (X.blk s H scope (compEnvC scope cl C X.env) fp) ifs t)
    (he : ∀ (s : Shared) (H : Hp) (C : Addr) (cl : List (Str × Addr)) (fp : List Addr), SE (X.blk s H scope (compEnvC scope cl C X.env) fp) elt e) (hP : i ∉ P := by decide) (nd : (own2 own).Nodup := by decide) (hs : ∀ x, foldedSetIterable iter X.env x = pure x := by intro _; rfl) :
    SS X P (.Assign [.Name y py] (.ListComp elt [⟨tg, iter, ifs, 0⟩] scope pos) spos) (mSetO i (mComp it (own2 own) a t e)) :=
  PS.imp (ps_setLc (wi := tI X.K X.mg it) (g := tG X.K X.mg (Wip (own2 own)) a) (tt := tMT X.K X.mg t) (te := tM X.K X.mg e) ok.calm ok.nd hy hyl hsw hi bo hg ht he hs) fun D σ H w => by
    obtain ⟨ρ, T, c, R, h⟩ := tS_iff.mp w
    unfold mSetO at h
    cases e1 : mComp it (own2 own) a t e ρ with
    | ok o ρ1 =>
      rw [e1] at h
      exact comp_core (tg := tg) (iter := iter) (elt := elt) nd (fun _ _ _ w => w) (fun _ _ _ _ w => w) (fun _ _ _ w => w) (fun _ _ _ w => w) σ H _ ⟨ρ, T, o, ρ1, c, R, e1, fun v H' c' R' => h _ H' (Fix.set hP) (c'.set i v o) (Rep.store c' R')⟩
    | exc x ρ1 => rw [e1] at h; exact h.elim
    | no => rw [e1] at h; exact h.elim
theorem ss_setLcP (i : Nat) {P : List Nat} {y : Str} {py : Pos} {tg iter elt : Expr} {ifs : List Expr} {scope : Scope} {own : List (Str × Nat)} {pos spos : Pos} {it : M (List D)} {a : D → Env → Option Env} {t : M Bool} {e : M O} (ok : CxOk X) (hy : X.N[i]? = some y) (hyl : X.env.scope.names.lookup y = some .local)
    (hsw : swapsWith (.ListComp elt [⟨tg, iter, ifs, 0⟩] scope pos) (some (.Name y py)) spos.line X.env = pure true) (hi : SI X tg iter it) (bo : BlkOk X.N X.env.scope scope own)
    (hg : ∀ (s : Shared) (H : Hp) (C : Addr) (cl : List (Str × Addr)) (fp : List Addr), SG (X.blk s H scope (compEnvC scope cl C X.env) fp) (Wip (own2 own)) tg a) (ht : ∀ (s : Shared) (H : Hp) (C : Addr) (cl : List (Str × Addr)) (fp : List Addr), SETs (X.blk s H scope (compEnvC scope cl C X.env) fp) ifs t)
    (he : ∀ (s : Shared) (H : Hp) (C : Addr) (cl : List (Str × Addr)) (fp : List Addr), SE (X.blk s H scope (compEnvC scope cl C X.env) fp) elt e) (hP : i ∉ P := by decide) (nd : (own2 own).Nodup := by decide) (hs : ∀ x, foldedSetIterable iter X.env x = pure x := by intro _; rfl) :
    SS X P (.Assign [.Name y py] (.ListComp elt [⟨tg, iter, ifs, 0⟩] scope pos) spos) (mSetP i (mComp it (own2 own) a t e)) :=
  PS.imp (ps_setLc (wi := tI X.K X.mg it) (g := tG X.K X.mg (Wip (own2 own)) a) (tt := tMT X.K X.mg t) (te := tM X.K X.mg e) ok.calm ok.nd hy hyl hsw hi bo hg ht he hs) fun D σ H w => by
    obtain ⟨ρ, T, c, R, h⟩ := tS_iff.mp w
    unfold mSetP at h
    cases e1 : mComp it (own2 own) a t e ρ with
    | ok o ρ1 =>
      rw [e1] at h
      exact comp_core (tg := tg) (iter := iter) (elt := elt) nd (fun _ _ _ w => w) (fun _ _ _ _ w => w) (fun _ _ _ w => w) (fun _ _ _ w => w) σ H _ ⟨ρ, T, o, ρ1, c, R, e1, fun v H' c' R' => h _ H' (Fix.set hP) (c'.set i v _) (Rep.store c' R'.frz)⟩
    | exc x ρ1 => rw [e1] at h; exact h.elim
    | no => rw [e1] at h; exact h.elim

/-! ### defs, calls -/
abbrev FSem := List O → Option (O × Env)
def maskE (n : Nat) (P : List Nat) (ρ : Env) : Env := (List.range n).map fun i => if P.contains i = true then (ρ[i]?).join else none
def runF (n N : Nat) (P : List Nat) (b : M Fl) : FSem := fun os => match b (os.map some ++ List.replicate (N - os.length) none) with
  | .ok .nx ρ' => some (.val .non, maskE n P ρ')
  | .ok (.ret o) ρ' => some (o, maskE n P ρ')
  | _ => none
/-- a def of n parameters means F -/
def spF (K : PySem.W.Frag) (mg : Str → Option Value) (n : Nat) (F : FSem) : Sp := fun vs H Q _ => ∃ os T o ρ', vs.length = n ∧ os.length = n ∧ Rep K mg H (zipI vs os ++ T) [] ∧ F os = some (o, ρ') ∧ ∀ v H', Rep K mg H' (.ov v o :: (pairs (vs.map some) ρ' ++ T)) [] → Q v H'
theorem pairs_start : ∀ (vs : List V) (os : List O) (m : Nat), vs.length = os.length → pairs (vs.map some ++ List.replicate m none) (os.map some ++ List.replicate m none) = zipI vs os
  | [], [], m, _ => by
    induction m with
    | zero => rfl
    | succ m ih => rw [List.map_nil, List.map_nil, List.nil_append, List.nil_append, List.replicate_succ, List.replicate_succ, pairs_ns]; exact ih
  | [], _ :: _, _, h => by simp at h
  | _ :: _, [], _, h => by simp at h
  | v :: vs, o :: os, m, h => by
    show pairs (some v :: (vs.map some ++ List.replicate m none)) (some o :: (os.map some ++ List.replicate m none)) = .ov v o :: zipI vs os
    rw [pairs_ss, pairs_start vs os m (by simpa using h)]
theorem cov_start (vs : List V) (os : List O) (m : Nat) (h : vs.length = os.length) : Cov (vs.map some ++ List.replicate m none) (os.map some ++ List.replicate m none) := by
  refine ⟨by simp [h], fun i o e => ?_⟩
  by_cases hi : i < os.length
  · refine ⟨vs[i]'(by omega), ?_⟩
    rw [List.getElem?_append_left (by simp; omega), List.getElem?_map]
    simp [show i < vs.length by omega]
  · rw [List.getElem?_append_right (by simp; omega), List.getElem?_replicate] at e
    split at e <;> cases e
/-- some items of the environment, those kept -/
theorem pairs_mask {H : Hp} {T M : List Item} : ∀ {σ : L2.St} {ρ ρ' : Env}, ρ'.length ≤ ρ.length → (∀ (i : Nat) (o : O), ρ'[i]? = some (some o) → ρ[i]? = some (some o)) → Rep K mg H (M ++ (pairs σ ρ ++ T)) [] → Rep K mg H (M ++ (pairs σ ρ' ++ T)) []
  | [], ρ, ρ', hl, h, R => by
    rw [pairs_nil] at R ⊢; exact R
  | s :: σ, ρ, [], hl, h, R => by
    rw [pairs_nil']
    exact (R.perm (rot _ _ _)).drops
  | s :: σ, [], b :: ρ', hl, h, R => by simp at hl
  | s :: σ, a :: ρ, b :: ρ', hl, h, R => by
    have h' : ∀ (i : Nat) (o : O), ρ'[i]? = some (some o) → ρ[i]? = some (some o) := fun i o e => by simpa using h (i + 1) o (by simpa using e)
    have hl' : ρ'.length ≤ ρ.length := by simpa using hl
    cases s with
    | none =>
      rw [pairs_ns] at R ⊢
      exact pairs_mask hl' h' R
    | some v =>
      cases b with
      | none =>
        rw [pairs_sn]
        cases a with
        | none => rw [pairs_sn] at R; exact pairs_mask hl' h' R
        | some o =>
          rw [pairs_ss] at R
          exact pairs_mask hl' h' ((R.perm (List.perm_middle)).drop)
      | some o =>
        have e := h 0 o (by simp)
        simp at e
        subst e
        rw [pairs_ss] at R ⊢
        have R1 : Rep K mg H ((M ++ [.ov v o]) ++ (pairs σ ρ ++ T)) [] := R.perm (by rw [List.append_assoc]; exact List.Perm.refl _)
        exact (pairs_mask hl' h' R1).perm (by rw [List.append_assoc]; exact List.Perm.refl _)
theorem maskE_len (n : Nat) (P : List Nat) (ρ : Env) : (maskE n P ρ).length = n := by unfold maskE; simp
theorem maskE_get {n : Nat} {P : List Nat} {ρ : Env} {i : Nat} {o : O} (h : (maskE n P ρ)[i]? = some (some o)) : i ∈ P ∧ i < n ∧ ρ[i]? = some (some o) := by
  unfold maskE at h
  rw [List.getElem?_map] at h
  by_cases hi : i < n
  · rw [List.getElem?_range hi] at h
    simp only [Option.map_some] at h
    split at h
    · rename_i hP
      refine ⟨by simpa using hP, hi, ?_⟩
      cases q : ρ[i]? with
      | none => rw [q] at h; simp at h
      | some u => rw [q] at h; simp at h; rw [h]
    · simp at h
  · rw [List.getElem?_eq_none_iff.mpr (by simpa using hi)] at h; simp at h
theorem fn_post {H' : Hp} {T M : List Item} {N n : Nat} {P : List Nat} {vs : List V} {σ' : L2.St} {ρ' : Env} (hvn : vs.length = n) (hN : n ≤ N) (hf : Fix P (vs.map some ++ List.replicate (N - n) none) σ') (c : Cov σ' ρ') (hl : σ'.length = N) (R : Rep K mg H' (M ++ (pairs σ' ρ' ++ T)) []) : Rep K mg H' (M ++ (pairs (vs.map some) (maskE n P ρ') ++ T)) [] := by
  have e1 : pairs (vs.map some) (maskE n P ρ') = pairs σ' (maskE n P ρ') := by
    have q1 : pairs (vs.map some) (maskE n P ρ') = pairs (σ'.take n) (maskE n P ρ') := pairs_congr (by simp [hvn, hl]; omega) fun i o e => by
      obtain ⟨hp, hi, _⟩ := maskE_get e
      rw [List.getElem?_take_of_lt hi, hf.2 i hp, List.getElem?_append_left (by simp; omega)]
    have q2 : ∀ {σ : L2.St} {ρ : Env} {n : Nat}, ρ.length = n → pairs (σ.take n) ρ = pairs σ ρ := by
      intro σ
      induction σ with
      | nil => intro ρ n _; simp
      | cons a σ ih =>
        intro ρ n hr
        cases ρ with
        | nil => rw [pairs_nil', pairs_nil']
        | cons b ρ =>
          cases n with
          | zero => simp at hr
          | succ n =>
            rw [List.take_succ_cons]
            have t := ih (ρ := ρ) (n := n) (by simpa using hr)
            cases a with
            | none => rw [pairs_ns, pairs_ns, t]
            | some a =>
              cases b with
              | none => rw [pairs_sn, pairs_sn, t]
              | some b => rw [pairs_ss, pairs_ss, t]
    rw [q1, q2 (maskE_len _ _ _)]
  rw [e1]
  exact pairs_mask (by rw [maskE_len, ← c.len, hl]; exact hN) (fun i o e => (maskE_get e).2.2) R
end
section
variable {P : Program} {w : World} {K : PySem.W.Frag} {mg : Str → Option Value} {base : Heap}
theorem sp_len {n : Nat} {F : FSem} : ∀ vs H Q E, spF K mg n F vs H Q E → vs.length = n := fun vs H Q E h => by
  obtain ⟨os, T, o, ρ', h1, _⟩ := h
  exact h1
theorem body_sem {X : Cx} {N n : Nat} {Pr : List Nat} {st : List Stmt} {b : M Fl} {Ns : List Str} (hNs : Ns.length = N) (hn : n ≤ N) (hb : SSs X Pr st b) {vs : List V} {H : Hp} {Q : VK} {E : XK} (hsp : spF X.K X.mg n (runF n N Pr b) vs H Q E) : ∃ t, PSs X st t ∧ t { nx := fun _ H' => Q .non H', rt := Q } (L2.start Ns vs) H := by
  obtain ⟨os, T, o, ρ', h1, h2, R, e, k⟩ := hsp
  refine ⟨_, hb, tS_iff.mpr ⟨os.map some ++ List.replicate (N - os.length) none, T, ?_, ?_, ?_⟩⟩
  · have : L2.start Ns vs = vs.map some ++ List.replicate (N - os.length) none := by unfold L2.start; rw [hNs, h1, h2]
    rw [this]; exact cov_start vs os _ (by omega)
  · have : L2.start Ns vs = vs.map some ++ List.replicate (N - os.length) none := by unfold L2.start; rw [hNs, h1, h2]
    rw [this, pairs_start vs os _ (by omega)]; exact R
  · unfold runF at e
    have es : L2.start Ns vs = vs.map some ++ List.replicate (N - n) none := by unfold L2.start; rw [hNs, h1]
    cases e1 : b (os.map some ++ List.replicate (N - os.length) none) with
    | exc x ρ1 => rw [e1] at e; cases e
    | no => rw [e1] at e; cases e
    | ok fl ρ1 =>
      rw [e1] at e
      cases fl with
      | brk => cases e
      | ct => cases e
      | nx =>
        cases e
        intro σ' H' f c R'
        rw [es] at f
        have hl : σ'.length = N := by rw [f.1]; simp [h1]; omega
        refine k .non H' (fn_post (M := [.ov .non (.val .non)]) h1 hn f c hl ?_)
        exact R'.scal fun _ => .non
      | ret o =>
        cases e
        intro v σ' H' f c R'
        rw [es] at f
        have hl : σ'.length = N := by rw [f.1]; simp [h1]; omega
        exact k v H' (fn_post (M := [.ov v o]) h1 hn f c hl R')
end
end FB

/-! Calls of defs by name; lists and dicts changed at a name. -/
namespace FB
open PySem PySem.Spec L2
open PyProof.Rows hiding St

section
variable {P : Program} {w : World} {K : PySem.W.Frag} {mg : Str → Option Value} {base : Heap}
theorem bodyOk {N ps : List Str} {qual : Str} {st : Stmt} {f : Addr} {cdv : Value} {A : Around} {outer : List PySem.Env} {s : Shared} {H : Hp} {E : XK} {k : Nat} (S : FnScope N ps (C8.fnScope st)) (hr : Room k (A.deeper (envOfC qual (C8.fnScope st) s.heap.objs.size f cdv))) :
    CxOk (cxOf C8.CX0 P w K mg base N qual (C8.fnScope st) f cdv A outer s H E).nox :=
  ⟨rfl, by show (A.deeper (envOfC qual (C8.fnScope st) s.heap.objs.size f cdv)).units + 65 < cLine; have := hr.un; omega, S.nd⟩
theorem CxOk.blk {X : Cx} (ok : CxOk X) {s : Shared} {H : Hp} {sc : Scope} {e : PySem.Env} {fp : List Addr} : CxOk (X.blk s H sc e fp) := ⟨ok.calm, ok.units, ok.nd⟩
theorem cal_sem {x : Str} {st : Stmt} {f : Addr} {fd : FuncData} {N ps : List Str} {k n m : Nat} {Pr : List Nat} {b : M Fl} (F : C8.Def K mg x st f fd) (bi : Binds K fd ps []) (S : FnScope N ps (C8.fnScope st)) (hn : ps.length = n := by rfl) (hm : N.length = m := by rfl) (hnm : n ≤ m := by decide)
    (hb : ∀ (cdv : Value) (A : Around) (outer : List PySem.Env) (s : Shared) (H : Hp) (E : XK), Room k (A.deeper (envOfC x (C8.fnScope st) s.heap.objs.size f cdv)) → SSs (cxOf C8.CX0 P w K mg base N x (C8.fnScope st) f cdv A outer s H E).nox Pr (C8.fnBody st) b) :
    C8.Cal P w K mg base (k + 1) x (spF K mg n (runF n m Pr b)) [] :=
  C8.cal0 F bi .nil S (fun vs H Q E h => by rw [hn]; exact sp_len vs H Q E h) fun cdv A outer s H vs Q E hr h => body_sem (X := (cxOf C8.CX0 P w K mg base N x (C8.fnScope st) f cdv A outer s H E).nox) (E := E) hm hnm (hb cdv A outer s H E hr) h
end

section
variable {X : Cx} {K : PySem.W.Frag} {mg : Str → Option Value}
/-! ### arguments -/
def evA : List Arg → M (List (Option O))
  | [] => fun ρ => .ok [] ρ
  | .v m :: as => fun ρ => (m ρ).bind fun o ρ1 => (evA as ρ1).bind fun os ρ2 => .ok (some o :: os) ρ2
  | .io i :: as => fun ρ => match ρ[i]? with
    | some (some _) => (evA as ρ).bind fun os ρ2 => .ok (none :: os) ρ2
    | _ => .no
def IoOk : List Arg → L2.St → List V → Prop
  | [], _, [] => True
  | .v _ :: as, σ, _ :: vs => IoOk as σ vs
  | .io i :: as, σ, v :: vs => σ[i]? = some (some v) ∧ IoOk as σ vs
  | _, _, _ => False
def takeA : List Arg → List (Option O) → Env → Option (List O × Env)
  | [], [], ρ => some ([], ρ)
  | .v _ :: as, some o :: os, ρ => (takeA as os ρ).map fun r => (o :: r.1, r.2)
  | .io i :: as, none :: os, ρ => match ρ[i]? with
    | some (some o) => (takeA as os (ρ.set i none)).map fun r => (o :: r.1, r.2)
    | _ => none
  | _, _, _ => none
def giveA : List Arg → Env → Env → Env
  | .v _ :: as, _ :: ρc, ρ => giveA as ρc ρ
  | .io i :: as, some o :: ρc, ρ => giveA as ρc (ρ.set i (some o))
  | .io _ :: as, none :: ρc, ρ => giveA as ρc ρ
  | _, _, ρ => ρ
def tAs (K : PySem.W.Frag) (mg : Str → Option Value) (as : List Arg) : TA := fun σ H Q => ∃ ρ T os ρ', Cov σ ρ ∧ Rep K mg H (pairs σ ρ ++ T) [] ∧ evA as ρ = .ok os ρ' ∧
  ∀ vs H', Cov σ ρ' → vs.length = os.length → IoOk as σ vs → Rep K mg H' (pairs (vs.map some) os ++ (pairs σ ρ' ++ T)) [] → Q vs H'
def SAs (X : Cx) (es : List Expr) (as : List Arg) : Prop := PA X es (tAs X.K X.mg as)
theorem sas_nil : SAs X [] [] := PA.imp pa_nil fun σ H Q w => by
  obtain ⟨ρ, T, os, ρ', c, R, e, k⟩ := w
  cases e
  exact k [] H c rfl True.intro R
theorem sas_v {e : Expr} {es : List Expr} {m : M O} {as : List Arg} (h : SE X e m) (hs : SAs X es as) (hst : starEach (e :: es) X.env = (false, eval e X.env) :: starEach es X.env := by rfl) : SAs X (e :: es) (.v m :: as) :=
  PA.imp (pa_cons h hs hst) fun σ H Q w => by
    obtain ⟨ρ, T, os, ρ', c, R, e, k⟩ := w
    obtain ⟨o, ρ1, e1, e⟩ := Res.bind_eq e
    obtain ⟨os', ρ2, e2, e⟩ := Res.bind_eq e
    cases e
    refine ⟨ρ, T, o, ρ1, c, R, e1, fun v H1 c1 R1 => ⟨ρ1, .ov v o :: T, os', ρ', c1, R1.perm List.perm_middle.symm, e2, fun vs H2 c2 hl io R2 => k (v :: vs) H2 c2 (by simp [hl]) io (R2.perm ?_)⟩⟩
    show (pairs (vs.map some) os' ++ (pairs σ ρ' ++ .ov v o :: T)).Perm (.ov v o :: (pairs (vs.map some) os' ++ (pairs σ ρ' ++ T)))
    exact ((List.perm_middle (a := Item.ov v o)).append_left _).trans List.perm_middle
theorem sas_io (i : Nat) {x : Str} {pos : Pos} {es : List Expr} {as : List Arg} (hs : SAs X es as) (hN : X.N[i]? = some x := by rfl) (hv : Vis X.env.scope x := by first | exact Or.inl rfl | exact Or.inr (Or.inl rfl) | exact Or.inr (Or.inr rfl)) (hd : (x == ("__debug__" : Str)) = false := by decide)
    (hcd : (x == ("__classdict__" : Str)) = false := by decide) (hst : starEach (.Name x pos :: es) X.env = (false, eval (.Name x pos) X.env) :: starEach es X.env := by rfl) : SAs X (.Name x pos :: es) (.io i :: as) :=
  PA.imp (pa_cons (pv i hN hv hd hcd) hs hst) fun σ H Q w => by
    obtain ⟨ρ, T, os, ρ', c, R, e, k⟩ := w
    unfold evA at e
    split at e
    · rename_i o e1
      obtain ⟨v, hv⟩ := c.ex i o e1
      obtain ⟨os', ρ2, e2, e⟩ := Res.bind_eq e
      cases e
      exact ⟨v, hv, ρ, T, os', ρ', c, R, e2, fun vs H2 c2 hl io R2 => k (v :: vs) H2 c2 (by simp [hl]) ⟨hv, io⟩ (by
        show Rep X.K X.mg H2 (pairs (some v :: vs.map some) (none :: os') ++ (pairs σ ρ' ++ T)) []
        rw [pairs_sn]; exact R2)⟩
    · cases e
theorem take_ok {H : Hp} {T : List Item} {σ : L2.St} : ∀ {as : List Arg} {os : List (Option O)} {vs : List V} {ρ ρ' : Env} {os' : List O}, Cov σ ρ → IoOk as σ vs → takeA as os ρ = some (os', ρ') → Rep K mg H (pairs (vs.map some) os ++ (pairs σ ρ ++ T)) [] →
    Cov σ ρ' ∧ vs.length = os'.length ∧ Rep K mg H (zipI vs os' ++ (pairs σ ρ' ++ T)) []
  | [], [], [], ρ, ρ', os', c, io, e, R => by cases e; exact ⟨c, rfl, R⟩
  | [], [], _ :: _, _, _, _, _, io, _, _ => io.elim
  | [], _ :: _, _, _, _, _, _, _, e, _ => by cases e
  | .v _ :: _, [], _, _, _, _, _, _, e, _ => by cases e
  | .v _ :: _, none :: _, _, _, _, _, _, _, e, _ => by cases e
  | .v _ :: _, some _ :: _, [], _, _, _, _, io, _, _ => io.elim
  | .v _ :: as, some o :: os, v :: vs, ρ, ρ', os', c, io, e, R => by
    have e : (takeA as os ρ).map (fun r => (o :: r.1, r.2)) = some (os', ρ') := e
    cases e1 : takeA as os ρ with
    | none => rw [e1] at e; cases e
    | some r =>
      rw [e1] at e
      cases e
      have R1 : Rep K mg H (.ov v o :: (pairs (vs.map some) os ++ (pairs σ ρ ++ T))) [] := R
      have R2 : Rep K mg H (pairs (vs.map some) os ++ (pairs σ ρ ++ (.ov v o :: T))) [] := R1.perm (by
        refine List.Perm.trans ?_ (List.Perm.append_left _ List.perm_middle.symm)
        exact List.perm_middle.symm)
      obtain ⟨c', hl, R3⟩ := take_ok (as := as) c io e1 R2
      refine ⟨c', by simp [hl], R3.perm ?_⟩
      show (zipI vs r.1 ++ (pairs σ r.2 ++ .ov v o :: T)).Perm (.ov v o :: (zipI vs r.1 ++ (pairs σ r.2 ++ T)))
      exact (List.Perm.append_left _ List.perm_middle).trans List.perm_middle
  | .io _ :: _, [], _, _, _, _, _, _, e, _ => by cases e
  | .io _ :: _, some _ :: _, _, _, _, _, _, _, e, _ => by cases e
  | .io _ :: _, none :: _, [], _, _, _, _, io, _, _ => io.elim
  | .io i :: as, none :: os, v :: vs, ρ, ρ', os', c, io, e, R => by
    unfold takeA at e
    split at e
    · rename_i o e0
      cases e1 : takeA as os (ρ.set i none) with
      | none => rw [e1] at e; cases e
      | some r =>
        rw [e1] at e
        cases e
        have R1 : Rep K mg H (pairs (vs.map some) os ++ (pairs σ ρ ++ T)) [] := by
          have R : Rep K mg H (pairs (some v :: vs.map some) (none :: os) ++ (pairs σ ρ ++ T)) [] := R
          rw [pairs_sn] at R; exact R
        have p : (pairs σ ρ ++ T).Perm (pairs σ (ρ.set i none) ++ (.ov v o :: T)) :=
          ((pairs_take io.1 e0).append_right T).trans List.perm_middle.symm
        obtain ⟨c', hl, R3⟩ := take_ok (c.setn i) io.2 e1 (R1.perm (p.append_left _))
        refine ⟨c', by simp [hl], R3.perm ?_⟩
        show (zipI vs r.1 ++ (pairs σ r.2 ++ .ov v o :: T)).Perm (.ov v o :: (zipI vs r.1 ++ (pairs σ r.2 ++ T)))
        exact (List.Perm.append_left _ List.perm_middle).trans List.perm_middle
    · cases e
theorem give_ok {H : Hp} {T M : List Item} {σ : L2.St} : ∀ {as : List Arg} {vs : List V} {ρc ρ : Env}, Cov σ ρ → IoOk as σ vs → Rep K mg H (M ++ (pairs (vs.map some) ρc ++ (pairs σ ρ ++ T))) [] →
    Cov σ (giveA as ρc ρ) ∧ Rep K mg H (M ++ (pairs σ (giveA as ρc ρ) ++ T)) []
  | [], vs, ρc, ρ, c, io, R => by
    refine ⟨c, ?_⟩
    exact ((R.perm (rot _ _ _)).drops)
  | .v _ :: as, [], ρc, ρ, c, io, R => io.elim
  | .io _ :: as, [], ρc, ρ, c, io, R => io.elim
  | .v _ :: as, v :: vs, [], ρ, c, io, R => by
    refine ⟨c, ?_⟩
    rw [pairs_nil'] at R
    exact R
  | .io _ :: as, v :: vs, [], ρ, c, io, R => by
    refine ⟨c, ?_⟩
    rw [pairs_nil'] at R
    exact R
  | .v _ :: as, v :: vs, u :: ρc, ρ, c, io, R => by
    have R : Rep K mg H (M ++ (pairs (some v :: vs.map some) (u :: ρc) ++ (pairs σ ρ ++ T))) [] := R
    refine give_ok (as := as) c io ?_
    cases u with
    | none => rw [pairs_sn] at R; exact R
    | some o =>
      rw [pairs_ss] at R
      exact (R.perm List.perm_middle).drop
  | .io i :: as, v :: vs, none :: ρc, ρ, c, io, R => by
    have R : Rep K mg H (M ++ (pairs (some v :: vs.map some) (none :: ρc) ++ (pairs σ ρ ++ T))) [] := R
    rw [pairs_sn] at R
    exact give_ok (as := as) c io.2 R
  | .io i :: as, v :: vs, some o :: ρc, ρ, c, io, R => by
    have R : Rep K mg H (M ++ (pairs (some v :: vs.map some) (some o :: ρc) ++ (pairs σ ρ ++ T))) [] := R
    rw [pairs_ss] at R
    refine give_ok (as := as) (c.put io.1 o) io.2 ?_
    by_cases hi : i < ρ.length
    · have R1 : Rep K mg H ((.ov v o :: (M ++ pairs (vs.map some) ρc)) ++ (pairs σ ρ ++ T)) [] := R.perm (by
        refine List.perm_middle.trans ?_
        show (.ov v o :: (M ++ (pairs (vs.map some) ρc ++ (pairs σ ρ ++ T)))).Perm _
        rw [← List.append_assoc]; exact List.Perm.refl _)
      have R2 := Rep.slotDrop c i R1
      refine R2.perm ?_
      have p := (pairs_back (o := o) io.1 hi).append_right T
      have q1 : ((.ov v o :: (M ++ pairs (vs.map some) ρc)) ++ (pairs σ (ρ.set i none) ++ T)).Perm ((M ++ pairs (vs.map some) ρc) ++ ((.ov v o :: pairs σ (ρ.set i none)) ++ T)) := List.perm_middle.symm
      refine q1.trans ?_
      rw [List.append_assoc]
      exact List.Perm.append_left _ (List.Perm.append_left _ p)
    · rw [List.set_eq_of_length_le (by omega)]
      exact (R.perm List.perm_middle).drop
def mCall (F : FSem) (as : List Arg) : M O := fun ρ => (evA as ρ).bind fun os ρ1 => match takeA as os ρ1 with
  | none => .no
  | some r => match F r.1 with
    | none => .no
    | some q => .ok q.1 (giveA as q.2 r.2)
theorem call_core {n : Nat} {F : FSem} {as : List Arg} {Ex : XK} (σ : L2.St) (H : Hp) (Q : VK) (w : tM K mg (mCall F as) σ H Q) : tCall (spF K mg n F) [] Ex (tAs K mg as) σ H Q ∨ as.length ≠ n := by
  by_cases hn : as.length = n
  · left
    obtain ⟨ρ, T, o, ρ', c, R, e, k⟩ := w
    obtain ⟨os, ρ1, e1, e⟩ := Res.bind_eq e
    split at e
    · cases e
    · rename_i r e2
      split at e
      · cases e
      · rename_i q e3
        cases e
        refine ⟨ρ, T, os, ρ1, c, R, e1, fun vs H1 c1 hl io R1 => ?_⟩
        obtain ⟨c2, hl2, R2⟩ := take_ok c1 io e2 R1
        have lenA : ∀ {as : List Arg} {vs : List V}, IoOk as σ vs → vs.length = as.length := by
          intro as
          induction as with
          | nil => intro vs io; cases vs with
            | nil => rfl
            | cons => exact io.elim
          | cons a as ih => intro vs io; cases vs with
            | nil => cases a <;> exact io.elim
            | cons v vs => cases a with
              | v _ => simp [ih (vs := vs) io]
              | io _ => simp [ih (vs := vs) io.2]
        have hv : vs.length = n := by rw [lenA io, hn]
        rw [List.append_nil]
        refine ⟨r.1, pairs σ r.2 ++ T, q.1, q.2, hv, by omega, R2, e3, fun v H2 R3 => ?_⟩
        obtain ⟨c3, R4⟩ := give_ok (M := [.ov v q.1]) c2 io R3
        exact k v H2 c3 R4
  · right; exact hn
theorem se_call {n k j : Nat} {F : FSem} {x : Str} {p pos : Pos} {e : Expr} {es : List Expr} {as : List Arg} (cl : C8.Cal X.prog X.w X.K X.mg X.base k x (spF X.K X.mg n F) []) (hr : Room j X.A) (hk : k ≤ j) (hg : Gl X x) (ha : SAs X (e :: es) as) (hn : as.length = n := by rfl)
    (hdb : (x == ("__debug__" : Str)) = false := by decide) (he : starEach (e :: es) X.env = (false, eval e X.env) :: starEach es X.env := by rfl) (hpl : (backTo pos (starEach es X.env)).any (·.1) = false := by rfl) :
    SE X (.Call (.Name x p) (e :: es) [] pos) (mCall F as) := PE.imp (C8.pe_c cl hr hk hg ha hdb he hpl) fun σ H Q w => (call_core σ H Q w).resolve_right fun h => h hn

/-! ### lists changed at a name -/
def mAppend (i : Nat) (m : M O) : M O := fun ρ => match ρ[i]? with
  | some (some (.lst _)) => (m ρ).bind fun o ρ1 => match ρ1[i]? with
    | some (some (.lst os)) => if os.length < 1000000 then .ok (.val .non) (ρ1.set i (some (.lst (os ++ [o])))) else .no
    | _ => .no
  | _ => .no
theorem Rep.slot {H : Hp} {T M : List Item} {σ : L2.St} {ρ : Env} {i : Nat} {v : V} {o : O} (hv : σ[i]? = some (some v)) (e : ρ[i]? = some (some o)) (R : Rep K mg H (M ++ (pairs σ ρ ++ T)) []) : Rep K mg H (.ov v o :: (M ++ (pairs σ (ρ.set i none) ++ T))) [] :=
  R.perm ((((pairs_take hv e).append_right T).append_left M).trans List.perm_middle)
theorem Rep.unslot {H : Hp} {T M : List Item} {σ : L2.St} {ρ : Env} {i : Nat} {v : V} {o o' : O} (hv : σ[i]? = some (some v)) (e : ρ[i]? = some (some o)) (R : Rep K mg H (.ov v o' :: (M ++ (pairs σ (ρ.set i none) ++ T))) []) : Rep K mg H (M ++ (pairs σ (ρ.set i (some o')) ++ T)) [] := by
  have hi : i < ρ.length := (List.getElem?_eq_some_iff.mp e).1
  refine R.perm (List.perm_middle.symm.trans (List.Perm.append_left _ ?_))
  exact (pairs_back (o := o') hv hi).append_right T
theorem se_append (i : Nat) {x : Str} {p apos cpos : Pos} {e : Expr} {m : M O} (h : SE X e m) (hN : X.N[i]? = some x := by rfl) (hv : Vis X.env.scope x := by first | exact Or.inl rfl | exact Or.inr (Or.inl rfl) | exact Or.inr (Or.inr rfl)) (hd : (x == ("__debug__" : Str)) = false := by decide)
    (hcd : (x == ("__classdict__" : Str)) = false := by decide) (hst : starEach (e :: []) X.env = (false, eval e X.env) :: starEach [] X.env := by rfl)
    (hbase : attributeBase (.Name x p) "append" X.env (eval (.Name x p) X.env) = eval (.Name x p) X.env := by rfl)
    (hfew : ((backTo cpos (starEach (e :: []) X.env)).all (fun x => !x.1) && (backToKw cpos (keywordEach [] X.env)).all (fun x => x.1.isSome)
      && decide ((e :: []).length + ([] : List Keyword).length + (if ([] : List Keyword).isEmpty then 0 else 1) < 30)) = true := by rfl)
    (hline : (apos.endLine == cpos.line) = true := by rfl) (hplain : (backTo cpos (starEach [] X.env)).any (·.1) = false := by rfl) :
    SE X (.Call (.Attribute (.Name x p) "append" apos) [e] [] cpos) (mAppend i m) :=
  PE.imp (pe_bm PySem.F.plainAttrs_list PySem.F.slot_list_append PySem.F.type_list_append mt_append (pv i hN hv hd hcd) (pa_cons h pa_nil hst) hbase hfew hline hst hplain) fun σ H Q w => by
    obtain ⟨ρ, T, o, ρ', c, R, e0, k⟩ := w
    unfold mAppend at e0
    split at e0
    · rename_i os0 e1
      obtain ⟨v, hv⟩ := c.ex i _ e1
      have R0 : Rep X.K X.mg H ([] ++ (pairs σ ρ ++ T)) [] := R
      obtain ⟨q, vs, ev, hl, R1⟩ := (Rep.slot hv e1 R0).openL
      subst ev
      have hq := R1.rawAt
      obtain ⟨u, ρ1, e2, e0⟩ := Res.bind_eq e0
      split at e0
      · rename_i os e3
        split at e0
        · rename_i hlt
          cases e0
          refine ⟨_, hv, .inl ⟨rfl, _, SqL.of hq⟩, ρ, T, u, ρ1, c, R, e2, fun y H1 c1 R2 => ?_⟩
          have R3 := Rep.slot (M := [.ov y u]) hv e3 R2
          obtain ⟨q', ws, ev, hl2, R4⟩ := R3.openL
          cases ev
          refine ⟨q, ws, y, rfl, rfl, R4.rawAt, by rw [sizeLine_eq]; omega, ?_⟩
          have R5 := R4.write (o' := .lst (ws ++ [y]))
          have ez : zipI (ws ++ [y]) (os ++ [u]) = zipI ws os ++ [.ov y u] := by
            unfold zipI
            rw [List.zipWith_append hl2]; rfl
          have R6 : Rep X.K X.mg (upd H1 q (.lst (ws ++ [y]))) (.ov (.ref q) (.lst (os ++ [u])) :: (pairs σ (ρ1.set i none) ++ T)) [] := by
            refine Rep.closeL (vs := ws ++ [y]) ?_ (by simp [hl2])
            rw [ez, List.append_assoc]
            exact R5
          have R7 : Rep X.K X.mg _ ([] ++ (pairs σ (ρ1.set i (some (.lst (os ++ [u])))) ++ T)) [] := Rep.unslot hv e3 R6
          exact k .non _ (c1.put hv _) (R7.scal fun _ => .non)
        · cases e0
      · cases e0
    · cases e0

/-! ### x[k] = e, a list or a dict at a name -/
def keyO : O → Option Key
  | .val (.int i) => some (.inl i)
  | .val (.str s) => some (.inr s)
  | _ => none
def idxK (ks : List Key) (k : Key) : Option Nat := ks.findIdx? fun k' => decide (k' = k)
def putL {α : Type} (ks : List Key) (os : List α) (k : Key) (o : α) : List Key × List α := match idxK ks k with
  | some j => (ks, os.set j o)
  | none => (ks ++ [k], os ++ [o])
def setItO (a b u : O) : Option O := match a with
  | .lst os => match b with
    | .val (.int i) => (ixN os.length i).map fun j => .lst (os.set j u)
    | _ => none
  | .dct ks os => (keyO b).bind fun k => if ks.length < 1000000 then some (.dct (putL ks os k u).1 (putL ks os k u).2) else none
  | _ => none
theorem idxK_valV : ∀ (kvs : List (Key × V)) (k : Key), valV kvs k = (idxK (kvs.map (·.1)) k).bind fun j => (kvs.map (·.2))[j]?
  | [], k => rfl
  | (k', v) :: r, k => by
    have ih := idxK_valV r k
    by_cases e : k' = k
    · rw [valV_pos (p := (k', v)) e]
      unfold idxK
      rw [List.map_cons, List.findIdx?_cons, if_pos (decide_eq_true e)]
      rfl
    · rw [valV_neg (p := (k', v)) e, ih]
      unfold idxK
      rw [List.map_cons, List.findIdx?_cons, if_neg (by simpa using e), List.map_cons]
      cases q : List.findIdx? (fun k' => decide (k' = k)) (List.map (fun x => x.1) r) with
      | none => rfl
      | some j => simp
theorem putK_eq : ∀ (kvs : List (Key × V)) (k : Key) (v : V), (kvs.map (·.1)).Nodup → (putK kvs k v).map (·.1) = (putL (kvs.map (·.1)) (kvs.map (·.2)) k v).1 ∧ (putK kvs k v).map (·.2) = (putL (kvs.map (·.1)) (kvs.map (·.2)) k v).2 := by
  intro kvs k v nd
  have hany : (kvs.any fun kv => decide (kv.1 = k)) = (idxK (kvs.map (·.1)) k).isSome := by
    unfold idxK
    rw [List.findIdx?_isSome, List.any_map]
    rfl
  unfold putK putL
  rw [hany]
  cases q : idxK (kvs.map (·.1)) k with
  | none =>
    rw [if_neg (by simp)]
    simp
  | some j =>
    rw [if_pos (show (Option.some j).isSome = true from rfl)]
    refine ⟨by
      rw [List.map_map]
      refine List.map_congr_left fun a _ => ?_
      show (if a.1 = k then (a.1, v) else a).1 = a.1
      split <;> rfl, ?_⟩
    -- just the j-th is another one
    have key : ∀ (kvs : List (Key × V)) (j : Nat), (kvs.map (·.1)).Nodup → idxK (kvs.map (·.1)) k = some j → (kvs.map fun kv => if kv.1 = k then (kv.1, v) else kv).map (·.2) = (kvs.map (·.2)).set j v := by
      intro kvs
      induction kvs with
      | nil => intro j _ h; cases h
      | cons a r ih =>
        intro j nd h
        rw [List.map_cons, List.nodup_cons] at nd
        unfold idxK at h
        rw [List.map_cons, List.findIdx?_cons] at h
        by_cases e : a.1 = k
        · rw [if_pos (decide_eq_true e)] at h
          cases h
          rw [List.map_cons, if_pos e, List.map_cons, List.map_cons, List.set_cons_zero]
          congr 1
          rw [List.map_map]
          refine List.map_congr_left fun b hb => ?_
          show (if b.1 = k then (b.1, v) else b).2 = b.2
          rw [if_neg]
          intro z
          exact nd.1 (by rw [e, ← z]; exact List.mem_map_of_mem hb)
        · rw [if_neg (by simpa using e)] at h
          cases q : List.findIdx? (fun k' => decide (k' = k)) (List.map (fun x => x.1) r) with
          | none => rw [q] at h; cases h
          | some i =>
            rw [q] at h
            cases h
            rw [List.map_cons, if_neg e, List.map_cons, List.map_cons, List.set_cons_succ]
            congr 1
            exact ih i nd.2 q
    exact key kvs j nd q
def rSetF : TSet := fun o i v H Q => rSetL o i v H Q ∨ ∃ a H4, o = .ref a ∧ DPut H a i v H4 ∧ Q H4
theorem set_F (ok : CxOk X) : PSet X rSetF := by
  intro pins s σ H o i v ov iv u Q I ro ri rv h
  rcases h with h | ⟨a, H4, e, g, q⟩
  · exact set_list pins s σ H o i v ov iv u Q I ro ri rv h
  · subst e
    obtain rfl : ov = Value.ref a := ro
    exact d_setItem (by have := ok.units; omega) I g ri rv fun s4 I4 => ⟨H4, I4, q⟩
theorem keyO_V {H : Hp} {L : List Item} {B : List (V × O)} {y : V} {oy : O} {k : Key} (R : Rep K mg H L B) (hy : (y, oy) ∈ B) (e : keyO oy = some k) : y = kV k := by
  unfold keyO at e
  split at e
  · cases e; exact R.shInt hy rfl
  · cases e; exact R.shStr hy rfl
  · cases e
theorem nodup_put {ks : List Key} {k : Key} {os : List O} {o : O} (nd : ks.Nodup) : (putL ks os k o).1.Nodup := by
  unfold putL
  cases q : idxK ks k with
  | some j => exact nd
  | none =>
    have : k ∉ ks := fun z => by
      have h : (ks.findIdx? fun k' => decide (k' = k)) = none := q
      rw [List.findIdx?_eq_none_iff] at h
      have := h k z
      simp at this
    exact List.nodup_append.mpr ⟨nd, by simp, fun a ha b hb e => this (by simp at hb; rw [← hb, ← e]; exact ha)⟩
theorem zip_set : ∀ {vs : List V} {os : List O} {j : Nat} {v : V} {u : O}, vs.length = os.length → j < os.length → ∃ A C w, zipI vs os = A ++ w :: C ∧ zipI (vs.set j v) (os.set j u) = A ++ .ov v u :: C
  | [], [], j, v, u, _, h => by simp at h
  | [], _ :: _, _, _, _, h, _ => by simp at h
  | _ :: _, [], _, _, _, h, _ => by simp at h
  | a :: vs, b :: os, 0, v, u, _, _ => ⟨[], zipI vs os, .ov a b, rfl, rfl⟩
  | a :: vs, b :: os, j + 1, v, u, hl, hj => by
    obtain ⟨A, C, w, e1, e2⟩ := zip_set (vs := vs) (os := os) (j := j) (v := v) (u := u) (by simpa using hl) (by simpa using hj)
    exact ⟨.ov a b :: A, C, w, by show .ov a b :: zipI vs os = _; rw [e1]; rfl, by show .ov a b :: zipI (vs.set j v) (os.set j u) = _; rw [e2]; rfl⟩
theorem perm_set (A C L : List Item) (h w y n : Item) : (h :: ((A ++ w :: C) ++ y :: n :: L)).Perm (w :: y :: (h :: ((A ++ n :: C) ++ L))) := by
  have h1 : ((A ++ w :: C) ++ y :: n :: L).Perm (w :: y :: ((A ++ n :: C) ++ L)) := by
    rw [List.append_assoc]
    refine List.perm_middle.trans (List.Perm.cons _ ?_)
    show (A ++ (C ++ y :: n :: L)).Perm _
    rw [← List.append_assoc]
    refine List.perm_middle.trans (List.Perm.cons _ ?_)
    refine List.perm_middle.trans ?_
    rw [List.append_assoc, List.append_assoc]
    exact List.perm_middle.symm
  refine (List.Perm.cons _ h1).trans ?_
  exact (List.Perm.swap _ _ _).trans (List.Perm.cons _ (List.Perm.swap _ _ _))
/-- a part of an owned list or dict is stored -/
theorem setIt_core {H : Hp} {L : List Item} {x y v : V} {a b u o' : O} {Q : Hp → Prop} (R : Rep K mg H (.ov x a :: .ov y b :: .ov v u :: L) []) (e : setItO a b u = some o') (k : ∀ H', Rep K mg H' (.ov x o' :: L) [] → Q H') : rSetF x y v H Q := by
  have Rb : Rep K mg H (.ov x a :: .ov y b :: .ov v u :: L) [(y, b)] := ((R.perm (.swap _ _ _)).lend).perm (.swap _ _ _)
  generalize hY : Item.ov y b = Y at R
  unfold setItO at e
  split at e
  · rename_i os
    split at e
    · rename_i i
      cases ej : ixN os.length i with
      | none => rw [ej] at e; cases e
      | some j =>
        rw [ej] at e; cases e
        have ey := Rb.shInt (List.mem_cons_self ..) rfl
        obtain ⟨p, vs, rfl, hl, R1⟩ := R.openL
        have hj : j < os.length := (ixN_seq ej).2.1
        refine .inl ⟨p, vs, i, j, rfl, ey, R1.rawAt, by rw [hl]; exact ej, k _ ?_⟩
        have R2 := R1.write (o' := .lst (vs.set j v))
        refine Rep.closeL (vs := vs.set j v) ?_ (by simp [hl])
        obtain ⟨A, C, w, z1, z2⟩ := zip_set (v := v) (u := u) hl hj
        rw [z1] at R2
        rw [z2]
        exact (R2.perm (perm_set _ _ _ _ _ _ _)).drop.drop
    · cases e
  · rename_i ks os
    cases ek : keyO b with
    | none => rw [ek] at e; cases e
    | some key =>
      rw [ek] at e
      have e : (if ks.length < 1000000 then some (O.dct (putL ks os key u).1 (putL ks os key u).2) else none) = some o' := e
      split at e
      · rename_i hlt
        cases e
        have ey := keyO_V Rb (List.mem_cons_self ..) ek
        obtain ⟨p, kvs, rfl, hl, hk, R1⟩ := R.openD
        obtain ⟨hk, nd⟩ := hk
        have hlen : kvs.length < sizeLine := by rw [sizeLine_eq]; have : kvs.length = ks.length := by rw [← hk]; simp
                                                omega
        have g : DPut H p y v (upd H p (.dK (putK kvs key v))) := by rw [ey]; exact DPut.k R1.rawAt hlen
        refine .inr ⟨p, _, rfl, g, k _ ?_⟩
        have R2 := R1.write (o' := .dK (putK kvs key v))
        obtain ⟨f1, f2⟩ := putK_eq kvs key v (by rw [hk]; exact nd)
        have hlo : (kvs.map (·.2)).length = os.length := by simpa using hl
        refine Rep.closeD (kvs := putK kvs key v) (ks := (putL ks os key u).1) (os := (putL ks os key u).2) ?_ ?_ ⟨?_, nodup_put nd⟩
        · rw [f2]
          unfold putL
          rw [hk]
          cases q : idxK ks key with
          | none =>
            show Rep K mg _ (.raw p (.dK (putK kvs key v)) :: (zipI (kvs.map (·.2) ++ [v]) (os ++ [u]) ++ L)) []
            have ez : zipI (kvs.map (·.2) ++ [v]) (os ++ [u]) = zipI (kvs.map (·.2)) os ++ [.ov v u] := by
              unfold zipI
              rw [List.zipWith_append hlo]; rfl
            rw [ez, List.append_assoc]
            have p1 : (.raw p (.dK (putK kvs key v)) :: (zipI (kvs.map (·.2)) os ++ Y :: .ov v u :: L) : List Item).Perm (Y :: (.raw p (.dK (putK kvs key v)) :: (zipI (kvs.map (·.2)) os ++ .ov v u :: L))) :=
              (List.Perm.cons _ List.perm_middle).trans (.swap _ _ _)
            exact (R2.perm p1).drop
          | some j =>
            show Rep K mg _ (.raw p (.dK (putK kvs key v)) :: (zipI ((kvs.map (·.2)).set j v) (os.set j u) ++ L)) []
            have hj : j < os.length := by
              have h : (ks.findIdx? fun k' => decide (k' = key)) = some j := q
              rw [List.findIdx?_eq_some_iff_getElem] at h
              obtain ⟨h, _⟩ := h
              have : kvs.length = ks.length := by rw [← hk]; simp
              omega
            obtain ⟨A, C, w, z1, z2⟩ := zip_set (v := v) (u := u) hlo hj
            rw [z1] at R2
            rw [z2]
            exact (R2.perm (perm_set _ _ _ _ _ _ _)).drop.drop
        · have h1 : (putK kvs key v).length = (putL (kvs.map (·.1)) (kvs.map (·.2)) key v).2.length := by rw [← f2]; simp
          rw [h1, hk]
          unfold putL
          cases q : idxK ks key with
          | none => simp [hl]
          | some j => simp [hl]
        · rw [f1, hk]
          unfold putL
          cases q : idxK ks key <;> rfl
      · cases e
  · cases e
/-- name[k] = e -/
def mSetIt (i : Nat) (n m : M O) : M Fl := fun ρ => (m ρ).bind fun u ρ1 => match ρ1[i]? with
  | some (some _) => (n ρ1).bind fun b ρ2 => match ρ2[i]? with
    | some (some a) => match setItO a b u with
      | some o => .ok .nx (ρ2.set i (some o))
      | none => .no
    | _ => .no
  | _ => .no
theorem ss_setIt (i : Nat) {P : List Nat} {x : Str} {p tpos pos : Pos} {ix e : Expr} {n m : M O} (ok : CxOk X) (hn : SE X ix n) (h : SE X e m) (hN : X.N[i]? = some x := by rfl) (hv : Vis X.env.scope x := by first | exact Or.inl rfl | exact Or.inr (Or.inl rfl) | exact Or.inr (Or.inr rfl)) (hd : (x == ("__debug__" : Str)) = false := by decide)
    (hcd : (x == ("__classdict__" : Str)) = false := by decide)
    (ha : ∀ v, assign (.Subscript (.Name x p) ix tpos) X.env v = (do
      let ov ← holding [v] (eval (.Name x p) X.env)
      let iv ← holding [v, ov] (eval ix X.env)
      standAt tpos
      holding [v, ov, iv] (setItem ov iv v)
      release [v, ov, iv] []) := by intro _; rfl)
    (hs : swapsWithSole [.Subscript (.Name x p) ix tpos] e pos.line X.env = pure false := by rfl) (hw : swappedStores [.Subscript (.Name x p) ix tpos] e X.env = pure none := by rfl)
    (h1 : (assignEach [.Subscript (.Name x p) ix tpos] X.env).map (·.2) = [assign (.Subscript (.Name x p) ix tpos) X.env] := by rfl) :
    SS X P (.Assign [.Subscript (.Name x p) ix tpos] e pos) (mSetIt i n m) :=
  PS.imp (ps_asg h (pg_sub (pv i hN hv hd hcd) hn (set_F ok) ha) hs hw h1) fun D σ H w => by
    obtain ⟨ρ, T, c, R, h⟩ := tS_iff.mp w
    unfold mSetIt at h
    cases e1 : m ρ with
    | exc z ρ1 => rw [e1] at h; exact h.elim
    | no => rw [e1] at h; exact h.elim
    | ok u ρ1 =>
      rw [e1] at h
      have h : Post X.K X.mg P T D σ (match ρ1[i]? with
        | some (some _) => (n ρ1).bind fun b ρ2 => match ρ2[i]? with
          | some (some a) => match setItO a b u with
            | some o => .ok .nx (ρ2.set i (some o))
            | none => .no
          | _ => .no
        | _ => .no) := h
      refine ⟨ρ, T, u, ρ1, c, R, e1, fun v H1 c1 R1 => ?_⟩
      split at h
      · rename_i a0 e2
        obtain ⟨vx, hvx⟩ := c1.ex i _ e2
        refine ⟨vx, hvx, ρ1, .ov v u :: T, ?_⟩
        cases e3 : n ρ1 with
        | exc z ρ2 => rw [e3] at h; exact h.elim
        | no => rw [e3] at h; exact h.elim
        | ok b ρ2 =>
          rw [e3] at h
          refine ⟨b, ρ2, c1, R1.perm List.perm_middle.symm, rfl, fun y H2 c2 R2 => ?_⟩
          have h : Post X.K X.mg P T D σ (match ρ2[i]? with
            | some (some a) => match setItO a b u with
              | some o => .ok .nx (ρ2.set i (some o))
              | none => .no
            | _ => .no) := h
          split at h
          · rename_i a e4
            split at h
            · rename_i o' e5
              have R3 : Rep X.K X.mg H2 ([.ov y b] ++ (pairs σ ρ2 ++ (.ov v u :: T))) [] := R2
              have R4 := Rep.slot hvx e4 R3
              have R5 : Rep X.K X.mg H2 (.ov vx a :: .ov y b :: .ov v u :: (pairs σ (ρ2.set i none) ++ T)) [] := R4.perm ((List.Perm.cons _ (List.Perm.cons _ List.perm_middle)))
              refine setIt_core R5 e5 fun H3 R6 => h σ H3 (Fix.refl _ _) (c2.put hvx _) ?_
              exact Rep.unslot (M := []) hvx e4 R6
            · exact h.elim
          · exact h.elim
      · exact h.elim
end
end FB

/-! Displays among readings; the law's own def; the end. -/
namespace FB
open PySem PySem.Spec L2
open PyProof.Rows hiding St

section
variable {X : Cx} {K : PySem.W.Frag} {mg : Str → Option Value}
def tPs (K : PySem.W.Frag) (mg : Str → Option Value) (f : Env → Option (List D)) : TA := fun σ H Q => ∃ ρ T B ds, Cov σ ρ ∧ Rep K mg H (pairs σ ρ ++ T) B ∧ f ρ = some ds ∧ ∀ vs H', Same H H' → vs.length = ds.length → Rep K mg H' (zipI vs (ds.map O.val) ++ (pairs σ ρ ++ T)) B → Q vs H'
def SPs (X : Cx) (es : List Expr) (f : Env → Option (List D)) : Prop := PA X es (tPs X.K X.mg f)
def pNil : Env → Option (List D) := fun _ => some []
def pCons (f : Pf) (g : Env → Option (List D)) : Env → Option (List D) := fun ρ => match f ρ with
  | some (.val d) => (g ρ).map (d :: ·)
  | _ => none
theorem sps_nil : SPs X [] pNil := PA.imp pa_nil fun σ H Q w => by
  obtain ⟨ρ, T, B, ds, c, R, e, k⟩ := w
  cases e
  exact k [] H (Same.refl _) rfl R
theorem sps_cons {e : Expr} {es : List Expr} {f : Pf} {g : Env → Option (List D)} (h : SP X e f) (hs : SPs X es g) (hst : starEach (e :: es) X.env = (false, eval e X.env) :: starEach es X.env := by rfl) : SPs X (e :: es) (pCons f g) :=
  PA.imp (pa_cons h hs hst) fun σ H Q w => by
    obtain ⟨ρ, T, B, ds, c, R, e, k⟩ := w
    unfold pCons at e
    split at e
    · rename_i d e1
      cases e2 : g ρ with
      | none => rw [e2] at e; cases e
      | some ds' =>
        rw [e2] at e
        cases e
        refine ⟨ρ, T, B, .val d, c, R, e1, fun v H1 s1 R1 => ⟨ρ, .ov v (.val d) :: T, B, ds', c, R1.keep.perm List.perm_middle.symm, e2, fun vs H2 s2 hl R2 => k (v :: vs) H2 (s1.trans s2) (by simp [hl]) (R2.perm ?_)⟩⟩
        show (zipI vs (ds'.map O.val) ++ (pairs σ ρ ++ .ov v (.val d) :: T)).Perm (.ov v (.val d) :: (zipI vs (ds'.map O.val) ++ (pairs σ ρ ++ T)))
        exact ((List.perm_middle (a := Item.ov v (.val d))).append_left _).trans List.perm_middle
    · cases e
def pLst (g : Env → Option (List D)) : Pf := fun ρ => (g ρ).bind fun ds => if ds.length ≤ 1000000 then some (.val (.lst ds)) else none
def pTup (g : Env → Option (List D)) : Pf := fun ρ => (g ρ).bind fun ds => if ds.length ≤ 1000000 then some (.val (.tup ds)) else none
theorem sp_lst {es : List Expr} {pos : Pos} {g : Env → Option (List D)} (h : SPs X es g) : SP X (.List es pos) (pLst g) := PE.imp (pe_lst h) fun σ H Q w => by
  obtain ⟨ρ, T, B, o, c, R, e, k⟩ := w
  unfold pLst at e
  cases e1 : g ρ with
  | none => rw [e1] at e; cases e
  | some ds =>
    rw [e1] at e
    have e : (if ds.length ≤ 1000000 then some (O.val (.lst ds)) else none) = some o := e
    split at e
    · rename_i hl
      cases e
      exact ⟨ρ, T, B, ds, c, R, e1, fun vs H' s' hv R' => ⟨line6 (by omega), fun p hp => k _ _ (s'.trans (sameNew hp)) (R'.lentL hv hp)⟩⟩
    · cases e
theorem sp_tup {es : List Expr} {x1 : Nat} {pos : Pos} {g : Env → Option (List D)} (h : SPs X es g) : SP X (.Tuple es x1 pos) (pTup g) := PE.imp (pe_tup h) fun σ H Q w => by
  obtain ⟨ρ, T, B, o, c, R, e, k⟩ := w
  unfold pTup at e
  cases e1 : g ρ with
  | none => rw [e1] at e; cases e
  | some ds =>
    rw [e1] at e
    have e : (if ds.length ≤ 1000000 then some (O.val (.tup ds)) else none) = some o := e
    split at e
    · rename_i hl
      cases e
      exact ⟨ρ, T, B, ds, c, R, e1, fun vs H' s' hv R' => ⟨line6 (by omega), fun p hp => k _ _ (s'.trans (sameNew hp)) (R'.lentT hv hp)⟩⟩
    · cases e
end

section
variable {P : Program} {w : World} {K : PySem.W.Frag} {mg : Str → Option Value} {base : Heap}
/-- .. the same, for the law's own def -/
theorem fn_sem {x : Str} {st : Stmt} {f : Addr} {fd : FuncData} {N ps : List Str} {k n m : Nat} {Pr : List Nat} {b : M Fl} (F : C8.Fun K x x st f fd) (S : FnScope N ps (C8.fnScope st)) (hn : ps.length = n := by rfl) (hm : N.length = m := by rfl) (hnm : n ≤ m := by decide)
    (hb : ∀ (cdv : Value) (A : Around) (outer : List PySem.Env) (s : Shared) (H : Hp) (E : XK), Room k (A.deeper (envOfC x (C8.fnScope st) s.heap.objs.size f cdv)) → SSs (cxOf C8.CX0 P w K mg base N x (C8.fnScope st) f cdv A outer s H E).nox Pr (C8.fnBody st) b) :
    FnOk P w K mg base C8.CX0 (k + 1) f fd ps (spF K mg n (runF n m Pr b)) :=
  C8.fn0 F S (fun vs H Q E h => by rw [hn]; exact sp_len vs H Q E h) fun cdv A outer s H vs Q E hr h => body_sem (X := (cxOf C8.CX0 P w K mg base N x (C8.fnScope st) f cdv A outer s H E).nox) (E := E) hm hnm (hb cdv A outer s H E hr) h
theorem law_end {F : FSem} {H : Hp} {a : Addr} {ns : List Int} (h : ∃ r, F [.val (.scr ns)] = some (.val (.bl true), r)) (hS : SqL K H a (ns.map V.int)) : spF K mg 1 F [.ref a] H (fun v _ => v = .bl true) fun _ _ _ => False := by
  obtain ⟨r, e⟩ := h
  refine ⟨[.val (.scr ns)], [], _, r, rfl, rfl, ?_, e, fun v H' R => ?_⟩
  · refine ⟨[], List.nodup_nil, ?_, fun _ h => by simp at h⟩
    exact IsOk.append (as := []) (IsOk.zip (VOs.vals (Vws.cons (Vw.scr hS) Vws.nil))) IsOk.nil
  · have q := R.lend.view (List.mem_cons_self ..)
    cases q
    rfl
end
end FB

/-! From the head's facts to the walk. -/
namespace FB
open PySem PySem.Spec L2
open PyProof.Rows hiding St
@[irreducible] def fuel : Nat := 1000000
theorem fuel_eq : fuel = 1000000 := by unfold fuel; rfl
theorem fun_of {K : PySem.W.Frag} {x qual : Str} {st : Stmt} {f : Addr} {fd : FuncData} (D : FunD K x qual (C8.fnArgs st) (C8.fnBody st) (C8.fnScope st) [] [] f fd) : C8.Fun K x qual st f fd := by
  obtain ⟨oc, od, dV, kV, doc, pm, an, cdv, ct, osl, e, lk, hc, _, _⟩ := D.ex
  exact ⟨oc, od, dV, kV, doc, pm, an, cdv, ct, osl, e, lk, hc⟩
end FB
namespace FB
open PySem PySem.Spec L2
theorem CxOk.u64 {X : Cx} (ok : CxOk X) : X.A.units + 64 < cLine := by have := ok.units; omega
end FB

/-! What the combinators compute: rules for simp, rules for loops. -/
namespace FB
open PySem PySem.Spec L2
open PyProof.Rows hiding St

variable {ρ : Env}
-- readings
@[simp] theorem e_pVar (i : Nat) : pVar i ρ = (ρ[i]?).join := (rfl)
@[simp] theorem e_pC (d : D) : pC d ρ = some (.val d) := (rfl)
def p2K (op : O → O → Option O) : Option O → Option O → Option O
  | some a, some b => op a b
  | _, _ => none
@[simp] theorem e_p2 (op : O → O → Option O) (f g : Pf) : p2 op f g ρ = p2K op (f ρ) (g ρ) := by
  unfold p2 p2K; cases f ρ <;> cases g ρ <;> rfl
@[simp] theorem e_p2K (op : O → O → Option O) (a b : O) : p2K op (some a) (some b) = op a b := (rfl)
def p1K (op : O → Option O) : Option O → Option O
  | some a => op a
  | none => none
@[simp] theorem e_p1 (op : O → Option O) (f : Pf) : p1 op f ρ = p1K op (f ρ) := by
  unfold p1 p1K; cases f ρ <;> rfl
@[simp] theorem e_p1K (op : O → Option O) (a : O) : p1K op (some a) = op a := (rfl)
@[simp] theorem e_mP (f : Pf) : mP f ρ = okV (f ρ) ρ := by unfold mP okV; rfl
@[simp] theorem e_okV (d : D) : okV (some (.val d)) ρ = .ok (.val d) ρ := (rfl)
@[simp] theorem e_pNil : pNil ρ = some [] := (rfl)
def pcK : Option O → Option (List D) → Option (List D)
  | some (.val d), some ds => some (d :: ds)
  | _, _ => none
@[simp] theorem e_pCons (f : Pf) (g : Env → Option (List D)) : pCons f g ρ = pcK (f ρ) (g ρ) := by
  unfold pCons pcK
  cases f ρ with
  | none => rfl
  | some o => cases o <;> cases g ρ <;> rfl
@[simp] theorem e_pcK (d : D) (ds : List D) : pcK (some (.val d)) (some ds) = some (d :: ds) := (rfl)
def plK (k : List D → D) : Option (List D) → Option O
  | some ds => if ds.length ≤ 1000000 then some (.val (k ds)) else none
  | none => none
@[simp] theorem e_pLst (g : Env → Option (List D)) : pLst g ρ = plK .lst (g ρ) := by unfold pLst plK; cases g ρ <;> rfl
@[simp] theorem e_pTup (g : Env → Option (List D)) : pTup g ρ = plK .tup (g ρ) := by unfold pTup plK; cases g ρ <;> rfl
@[simp] theorem e_plK (k : List D → D) (ds : List D) (h : ds.length ≤ 1000000) : plK k (some ds) = some (.val (k ds)) := by unfold plK; simp [h]
def pslK : Option O → Option (Option Int) → Option (Option Int) → Option O
  | some a, some l, some h => slO a l h
  | _, _, _ => none
@[simp] theorem e_pSl (f : Pf) (lo hi : Env → Option (Option Int)) : pSl f lo hi ρ = pslK (f ρ) (lo ρ) (hi ρ) := by
  unfold pSl pslK; cases f ρ <;> cases lo ρ <;> cases hi ρ <;> rfl
@[simp] theorem e_pslK (a : O) (l h : Option Int) : pslK (some a) (some l) (some h) = slO a l h := (rfl)
@[simp] theorem e_pNone : pNone ρ = some none := (rfl)
def piK : Option O → Option (Option Int)
  | some (.val (.int i)) => some (some i)
  | _ => none
@[simp] theorem e_pInt (f : Pf) : pInt f ρ = piK (f ρ) := by unfold pInt piK; rfl
@[simp] theorem e_piK (i : Int) : piK (some (.val (.int i))) = some (some i) := (rfl)
-- expressions
def mvK (i : Nat) (ρ : Env) : Option (Option O) → Res O
  | some (some o) => .ok o (ρ.set i none)
  | _ => .no
@[simp] theorem e_mMove (i : Nat) : mMove i ρ = mvK i ρ (ρ[i]?) := (rfl)
@[simp] theorem e_mvK (i : Nat) (o : O) : mvK i ρ (some (some o)) = .ok o (ρ.set i none) := (rfl)
def frK (i : Nat) (ρ : Env) : Option (Option O) → Res O
  | some (some o) => .ok (.val o.toD) (ρ.set i (some (.val o.toD)))
  | _ => .no
@[simp] theorem e_mFrz (i : Nat) : mFrz i ρ = frK i ρ (ρ[i]?) := (rfl)
@[simp] theorem e_frK (i : Nat) (o : O) : frK i ρ (some (some o)) = .ok (.val o.toD) (ρ.set i (some (.val o.toD))) := (rfl)
def m2B (op : O → O → Option O) (a : O) : Res O → Res O
  | .ok b ρ2 => okV (op a b) ρ2
  | .exc x ρ => .exc x ρ
  | .no => .no
def m2A (op : O → O → Option O) (n : M O) : Res O → Res O
  | .ok a ρ1 => m2B op a (n ρ1)
  | .exc x ρ => .exc x ρ
  | .no => .no
@[simp] theorem e_m2 (op : O → O → Option O) (m n : M O) : m2 op m n ρ = m2A op n (m ρ) := by
  unfold m2 m2A
  cases m ρ with
  | ok a ρ1 => show (n ρ1).bind _ = m2B op a (n ρ1); unfold m2B; cases n ρ1 <;> rfl
  | exc _ _ => rfl
  | no => rfl
@[simp] theorem e_m2A (op : O → O → Option O) (n : M O) (a : O) : m2A op n (.ok a ρ) = m2B op a (n ρ) := (rfl)
@[simp] theorem e_m2B (op : O → O → Option O) (a b : O) : m2B op a (.ok b ρ) = okV (op a b) ρ := (rfl)
def m1K (op : O → Option O) : Res O → Res O
  | .ok a ρ1 => okV (op a) ρ1
  | .exc x ρ => .exc x ρ
  | .no => .no
@[simp] theorem e_m1 (op : O → Option O) (m : M O) : m1 op m ρ = m1K op (m ρ) := by unfold m1 m1K; cases m ρ <;> rfl
@[simp] theorem e_m1K (op : O → Option O) (a : O) : m1K op (.ok a ρ) = okV (op a) ρ := (rfl)
def mBK : Res O → Res Bool
  | .ok (.val (.bl b)) ρ => .ok b ρ
  | .ok _ _ => .no
  | .exc x ρ => .exc x ρ
  | .no => .no
@[simp] theorem e_mB (m : M O) : mB m ρ = mBK (m ρ) := by
  unfold mB mBK
  cases m ρ with
  | ok o ρ1 =>
    cases o with
    | val d => cases d <;> rfl
    | lst _ => rfl
    | dct _ _ => rfl
    | ins _ _ _ => rfl
  | exc _ _ => rfl
  | no => rfl
@[simp] theorem e_mBK (b : Bool) : mBK (.ok (.val (.bl b)) ρ) = .ok b ρ := (rfl)
def andK (b : M Bool) : Res Bool → Res Bool
  | .ok c ρ => if c = true then b ρ else .ok false ρ
  | .exc x ρ => .exc x ρ
  | .no => .no
@[simp] theorem e_mAnd (a b : M Bool) : mAnd a b ρ = andK b (a ρ) := by unfold mAnd andK; cases a ρ <;> rfl
@[simp] theorem e_andK (b : M Bool) (c : Bool) : andK b (.ok c ρ) = if c = true then b ρ else .ok false ρ := (rfl)
def orK (b : M Bool) : Res Bool → Res Bool
  | .ok c ρ => if c = true then .ok true ρ else b ρ
  | .exc x ρ => .exc x ρ
  | .no => .no
@[simp] theorem e_mOr (a b : M Bool) : mOr a b ρ = orK b (a ρ) := by unfold mOr orK; cases a ρ <;> rfl
@[simp] theorem e_orK (b : M Bool) (c : Bool) : orK b (.ok c ρ) = if c = true then .ok true ρ else b ρ := (rfl)
def notK : Res Bool → Res Bool
  | .ok c ρ => .ok (!c) ρ
  | .exc x ρ => .exc x ρ
  | .no => .no
@[simp] theorem e_mNot (a : M Bool) : mNot a ρ = notK (a ρ) := by unfold mNot notK; cases a ρ <;> rfl
@[simp] theorem e_notK (c : Bool) : notK (.ok c ρ) = .ok (!c) ρ := (rfl)
def andVK (b : M O) : Res O → Res O
  | .ok (.val (.bl c)) ρ => if c = true then b ρ else .ok (.val (.bl false)) ρ
  | .ok _ _ => .no
  | .exc x ρ => .exc x ρ
  | .no => .no
@[simp] theorem e_mAndV (a b : M O) : mAndV a b ρ = andVK b (a ρ) := by
  unfold mAndV andVK
  cases a ρ with
  | ok o ρ1 =>
    cases o with
    | val d =>
      cases d with
      | bl c => cases c <;> rfl
      | _ => rfl
    | lst _ => rfl
    | dct _ _ => rfl
    | ins _ _ _ => rfl
  | exc _ _ => rfl
  | no => rfl
@[simp] theorem e_andVK (b : M O) (c : Bool) : andVK b (.ok (.val (.bl c)) ρ) = if c = true then b ρ else .ok (.val (.bl false)) ρ := (rfl)
def notVK : Res O → Res O
  | .ok (.val (.bl c)) ρ => .ok (.val (.bl (!c))) ρ
  | .ok _ _ => .no
  | .exc x ρ => .exc x ρ
  | .no => .no
@[simp] theorem e_mNotV (a : M O) : mNotV a ρ = notVK (a ρ) := by
  unfold mNotV notVK
  cases a ρ with
  | ok o ρ1 =>
    cases o with
    | val d => cases d <;> rfl
    | lst _ => rfl
    | dct _ _ => rfl
    | ins _ _ _ => rfl
  | exc _ _ => rfl
  | no => rfl
@[simp] theorem e_notVK (c : Bool) : notVK (.ok (.val (.bl c)) ρ) = .ok (.val (.bl (!c))) ρ := (rfl)
def ifK {α : Type} (a b : M α) : Res Bool → Res α
  | .ok c ρ => if c = true then a ρ else b ρ
  | .exc x ρ => .exc x ρ
  | .no => .no
@[simp] theorem e_mIf (t : M Bool) (a b : M Fl) : mIf t a b ρ = ifK a b (t ρ) := by unfold mIf ifK; cases t ρ <;> rfl
@[simp] theorem e_ifK {α : Type} (a b : M α) (c : Bool) : ifK a b (.ok c ρ) = if c = true then a ρ else b ρ := (rfl)
@[simp] theorem e_mNil : mNil ρ = .ok [] ρ := (rfl)
def csB (o : O) : Res (List O) → Res (List O)
  | .ok os ρ => .ok (o :: os) ρ
  | .exc x ρ => .exc x ρ
  | .no => .no
def csA (ms : M (List O)) : Res O → Res (List O)
  | .ok o ρ => csB o (ms ρ)
  | .exc x ρ => .exc x ρ
  | .no => .no
@[simp] theorem e_mCons (m : M O) (ms : M (List O)) : mCons m ms ρ = csA ms (m ρ) := by
  unfold mCons csA
  cases m ρ with
  | ok a ρ1 => show (ms ρ1).bind _ = csB a (ms ρ1); unfold csB; cases ms ρ1 <;> rfl
  | exc _ _ => rfl
  | no => rfl
@[simp] theorem e_csA (ms : M (List O)) (o : O) : csA ms (.ok o ρ) = csB o (ms ρ) := (rfl)
@[simp] theorem e_csB (o : O) (os : List O) : csB o (.ok os ρ) = .ok (o :: os) ρ := (rfl)
def lsK (k : List O → O) : Res (List O) → Res O
  | .ok os ρ => if os.length ≤ 1000000 then .ok (k os) ρ else .no
  | .exc x ρ => .exc x ρ
  | .no => .no
@[simp] theorem e_mLst (ms : M (List O)) : mLst ms ρ = lsK .lst (ms ρ) := by unfold mLst lsK; cases ms ρ <;> rfl
@[simp] theorem e_mTup (ms : M (List O)) : mTup ms ρ = lsK (fun os => .val (.tup (O.toDs os))) (ms ρ) := by unfold mTup lsK; cases ms ρ <;> rfl
@[simp] theorem e_lsK (k : List O → O) (os : List O) (h : os.length ≤ 1000000) : lsK k (.ok os ρ) = .ok (k os) ρ := by unfold lsK; simp [h]
@[simp] theorem e_mNone : mNone ρ = .ok none ρ := (rfl)
def miK : Res O → Res (Option Int)
  | .ok (.val (.int i)) ρ => .ok (some i) ρ
  | .ok _ _ => .no
  | .exc x ρ => .exc x ρ
  | .no => .no
@[simp] theorem e_mInt (m : M O) : mInt m ρ = miK (m ρ) := by
  unfold mInt miK
  cases m ρ with
  | ok o ρ1 =>
    cases o with
    | val d => cases d <;> rfl
    | lst _ => rfl
    | dct _ _ => rfl
    | ins _ _ _ => rfl
  | exc _ _ => rfl
  | no => rfl
@[simp] theorem e_miK (i : Int) : miK (.ok (.val (.int i)) ρ) = .ok (some i) ρ := (rfl)
-- statements
@[simp] theorem e_mSkip : mSkip ρ = .ok .nx ρ := (rfl)
@[simp] theorem e_mCont : mCont ρ = .ok .ct ρ := (rfl)
def sqK (b : M Fl) : Res Fl → Res Fl
  | .ok .nx ρ => b ρ
  | .ok f ρ => .ok f ρ
  | .exc x ρ => .exc x ρ
  | .no => .no
@[simp] theorem e_mSeq (a b : M Fl) : mSeq a b ρ = sqK b (a ρ) := by
  unfold mSeq sqK
  cases a ρ with
  | ok f ρ1 => cases f <;> rfl
  | exc _ _ => rfl
  | no => rfl
@[simp] theorem e_sqK (b : M Fl) : sqK b (.ok .nx ρ) = b ρ := (rfl)
@[simp] theorem e_sqKr (b : M Fl) (o : O) : sqK b (.ok (.ret o) ρ) = .ok (.ret o) ρ := (rfl)
@[simp] theorem e_sqKb (b : M Fl) : sqK b (.ok .brk ρ) = .ok .brk ρ := (rfl)
@[simp] theorem e_sqKc (b : M Fl) : sqK b (.ok .ct ρ) = .ok .ct ρ := (rfl)
def exK : Res O → Res Fl
  | .ok _ ρ => .ok .nx ρ
  | .exc x ρ => .exc x ρ
  | .no => .no
@[simp] theorem e_mEx (m : M O) : mEx m ρ = exK (m ρ) := by unfold mEx exK; cases m ρ <;> rfl
@[simp] theorem e_exK (o : O) : exK (.ok o ρ) = .ok .nx ρ := (rfl)
def rtK : Res O → Res Fl
  | .ok o ρ => .ok (.ret o) ρ
  | .exc x ρ => .exc x ρ
  | .no => .no
@[simp] theorem e_mRet (m : M O) : mRet m ρ = rtK (m ρ) := by unfold mRet rtK; cases m ρ <;> rfl
@[simp] theorem e_rtK (o : O) : rtK (.ok o ρ) = .ok (.ret o) ρ := (rfl)
def soK (i : Nat) : Res O → Res Fl
  | .ok o ρ => .ok .nx (ρ.set i (some o))
  | .exc x ρ => .exc x ρ
  | .no => .no
@[simp] theorem e_mSetO (i : Nat) (m : M O) : mSetO i m ρ = soK i (m ρ) := by unfold mSetO soK; cases m ρ <;> rfl
@[simp] theorem e_soK (i : Nat) (o : O) : soK i (.ok o ρ) = .ok .nx (ρ.set i (some o)) := (rfl)
def spK (i : Nat) : Res O → Res Fl
  | .ok o ρ => .ok .nx (ρ.set i (some (.val o.toD)))
  | .exc x ρ => .exc x ρ
  | .no => .no
@[simp] theorem e_mSetP (i : Nat) (m : M O) : mSetP i m ρ = spK i (m ρ) := by unfold mSetP spK; cases m ρ <;> rfl
@[simp] theorem e_spK (i : Nat) (o : O) : spK i (.ok o ρ) = .ok .nx (ρ.set i (some (.val o.toD))) := (rfl)
def asA (a : D → Env → Option Env) : Res O → Res Fl
  | .ok o ρ => match a o.toD ρ with
    | some ρ2 => .ok .nx ρ2
    | none => .no
  | .exc x ρ => .exc x ρ
  | .no => .no
def asB : Option Env → Res Fl
  | some ρ => .ok .nx ρ
  | none => .no
@[simp] theorem e_mAsg (a : D → Env → Option Env) (m : M O) : mAsg a m ρ = asA a (m ρ) := by unfold mAsg asA; cases m ρ <;> rfl
@[simp] theorem e_asA (a : D → Env → Option Env) (o : O) : asA a (.ok o ρ) = asB (a o.toD ρ) := by
  show (match a o.toD ρ with | some ρ2 => Res.ok Fl.nx ρ2 | none => .no) = _
  unfold asB; cases a o.toD ρ <;> rfl
@[simp] theorem e_asB : asB (some ρ) = .ok .nx ρ := (rfl)
@[simp] theorem e_aN (i : Nat) (d : D) : aN i d ρ = some (ρ.set i (some (.val d))) := (rfl)
@[simp] theorem e_aNil : aNil [] ρ = some ρ := (rfl)
def acK (as : List D → Env → Option Env) (ds : List D) : Option Env → Option Env
  | some ρ => as ds ρ
  | none => none
@[simp] theorem e_aCons (a : D → Env → Option Env) (as : List D → Env → Option Env) (d : D) (ds : List D) : aCons a as (d :: ds) ρ = acK as ds (a d ρ) := by
  show (a d ρ).bind (fun ρ1 => as ds ρ1) = _
  unfold acK; cases a d ρ <;> rfl
@[simp] theorem e_acK (as : List D → Env → Option Env) (ds : List D) : acK as ds (some ρ) = as ds ρ := (rfl)
@[simp] theorem e_aTup (as : List D → Env → Option Env) (ds : List D) : aTup as (.tup ds) ρ = as ds ρ := (rfl)
@[simp] theorem e_mWhile (fu : Env → Nat) (t : M Bool) (b : M Fl) : mWhile fu t b ρ = whileN t b (fu ρ) ρ := (rfl)
def foK (a : D → Env → Option Env) (b : M Fl) : Res (List D) → Res Fl
  | .ok ds ρ => forL a b ds ρ
  | .exc x ρ => .exc x ρ
  | .no => .no
@[simp] theorem e_mFor (m : M (List D)) (a : D → Env → Option Env) (b : M Fl) : mFor m a b ρ = foK a b (m ρ) := by unfold mFor foK; cases m ρ <;> rfl
@[simp] theorem e_foK (a : D → Env → Option Env) (b : M Fl) (ds : List D) : foK a b (.ok ds ρ) = forL a b ds ρ := (rfl)
def siC (i : Nat) (u b : O) (ρ : Env) : Option (Option O) → Res Fl
  | some (some a) => match setItO a b u with
    | some o => .ok .nx (ρ.set i (some o))
    | none => .no
  | _ => .no
def siB (i : Nat) (u : O) : Res O → Res Fl
  | .ok b ρ2 => siC i u b ρ2 (ρ2[i]?)
  | .exc x ρ => .exc x ρ
  | .no => .no
def siA' (i : Nat) (n : M O) (u : O) (ρ : Env) : Option (Option O) → Res Fl
  | some (some _) => siB i u (n ρ)
  | _ => .no
def siA (i : Nat) (n : M O) : Res O → Res Fl
  | .ok u ρ1 => siA' i n u ρ1 (ρ1[i]?)
  | .exc x ρ => .exc x ρ
  | .no => .no
@[simp] theorem e_mSetIt (i : Nat) (n m : M O) : mSetIt i n m ρ = siA i n (m ρ) := by
  unfold mSetIt siA
  cases m ρ with
  | ok u ρ1 =>
    show (match ρ1[i]? with | some (some _) => _ | _ => Res.no) = siA' i n u ρ1 (ρ1[i]?)
    unfold siA'
    cases ρ1[i]? with
    | none => rfl
    | some q =>
      cases q with
      | none => rfl
      | some _ =>
        unfold siB
        cases n ρ1 <;> rfl
  | exc _ _ => rfl
  | no => rfl
@[simp] theorem e_siA (i : Nat) (n : M O) (u : O) : siA i n (.ok u ρ) = siA' i n u ρ (ρ[i]?) := (rfl)
@[simp] theorem e_siA' (i : Nat) (n : M O) (u o : O) : siA' i n u ρ (some (some o)) = siB i u (n ρ) := (rfl)
@[simp] theorem e_siB (i : Nat) (u b : O) : siB i u (.ok b ρ) = siC i u b ρ (ρ[i]?) := (rfl)
def siD (i : Nat) (ρ : Env) : Option O → Res Fl
  | some o => .ok .nx (ρ.set i (some o))
  | none => .no
@[simp] theorem e_siC (i : Nat) (u b a : O) : siC i u b ρ (some (some a)) = siD i ρ (setItO a b u) := by
  show (match setItO a b u with | some o => Res.ok Fl.nx (ρ.set i (some o)) | none => .no) = _
  unfold siD; cases setItO a b u <;> rfl
@[simp] theorem e_siD (i : Nat) (o : O) : siD i ρ (some o) = .ok .nx (ρ.set i (some o)) := (rfl)
def apC (i : Nat) (o : O) (ρ : Env) : Option (Option O) → Res O
  | some (some (.lst os)) => if os.length < 1000000 then .ok (.val .non) (ρ.set i (some (.lst (os ++ [o])))) else .no
  | _ => .no
def apB (i : Nat) : Res O → Res O
  | .ok o ρ => apC i o ρ (ρ[i]?)
  | .exc x ρ => .exc x ρ
  | .no => .no
def apA (i : Nat) (m : M O) (ρ : Env) : Option (Option O) → Res O
  | some (some (.lst _)) => apB i (m ρ)
  | _ => .no
@[simp] theorem e_mAppend (i : Nat) (m : M O) : mAppend i m ρ = apA i m ρ (ρ[i]?) := by
  unfold mAppend apA
  cases ρ[i]? with
  | none => rfl
  | some q =>
    cases q with
    | none => rfl
    | some o =>
      cases o with
      | lst os =>
        unfold apB
        cases m ρ <;> rfl
      | _ => rfl
@[simp] theorem e_apA (i : Nat) (m : M O) (os : List O) : apA i m ρ (some (some (.lst os))) = apB i (m ρ) := (rfl)
@[simp] theorem e_apB (i : Nat) (o : O) : apB i (.ok o ρ) = apC i o ρ (ρ[i]?) := (rfl)
@[simp] theorem e_apC (i : Nat) (o : O) (os : List O) (h : os.length < 1000000) : apC i o ρ (some (some (.lst os))) = .ok (.val .non) (ρ.set i (some (.lst (os ++ [o])))) := by unfold apC; simp [h]
def caC (as : List Arg) (ρ : Env) : Option (O × Env) → Res O
  | some q => .ok q.1 (giveA as q.2 ρ)
  | none => .no
def caB (F : FSem) (as : List Arg) : Option (List O × Env) → Res O
  | some r => caC as r.2 (F r.1)
  | none => .no
def caA (F : FSem) (as : List Arg) : Res (List (Option O)) → Res O
  | .ok os ρ => caB F as (takeA as os ρ)
  | .exc x ρ => .exc x ρ
  | .no => .no
@[simp] theorem e_mCall (F : FSem) (as : List Arg) : mCall F as ρ = caA F as (evA as ρ) := by
  unfold mCall caA
  cases evA as ρ with
  | ok os ρ1 =>
    show (match takeA as os ρ1 with | none => Res.no | some r => match F r.1 with | none => .no | some q => .ok q.1 (giveA as q.2 r.2)) = caB F as (takeA as os ρ1)
    unfold caB
    cases takeA as os ρ1 with
    | none => rfl
    | some r =>
      show (match F r.1 with | none => Res.no | some q => .ok q.1 (giveA as q.2 r.2)) = caC as r.2 (F r.1)
      unfold caC
      cases F r.1 <;> rfl
  | exc _ _ => rfl
  | no => rfl
@[simp] theorem e_caA (F : FSem) (as : List Arg) (os : List (Option O)) : caA F as (.ok os ρ) = caB F as (takeA as os ρ) := (rfl)
@[simp] theorem e_caB (F : FSem) (as : List Arg) (os : List O) : caB F as (some (os, ρ)) = caC as ρ (F os) := (rfl)
@[simp] theorem e_caC (as : List Arg) (o : O) (ρc : Env) : caC as ρ (some (o, ρc)) = .ok o (giveA as ρc ρ) := (rfl)
@[simp] theorem e_evA0 : evA [] ρ = .ok [] ρ := (rfl)
def evB (o : O) : Res (List (Option O)) → Res (List (Option O))
  | .ok os ρ => .ok (some o :: os) ρ
  | .exc x ρ => .exc x ρ
  | .no => .no
def evC (as : List Arg) : Res O → Res (List (Option O))
  | .ok o ρ => evB o (evA as ρ)
  | .exc x ρ => .exc x ρ
  | .no => .no
@[simp] theorem e_evAv (m : M O) (as : List Arg) : evA (.v m :: as) ρ = evC as (m ρ) := by
  show (m ρ).bind (fun o ρ1 => (evA as ρ1).bind fun os ρ2 => .ok (some o :: os) ρ2) = _
  unfold evC
  cases m ρ with
  | ok o ρ1 => show (evA as ρ1).bind _ = evB o (evA as ρ1); unfold evB; cases evA as ρ1 <;> rfl
  | exc _ _ => rfl
  | no => rfl
@[simp] theorem e_evC (as : List Arg) (o : O) : evC as (.ok o ρ) = evB o (evA as ρ) := (rfl)
@[simp] theorem e_evB (os : List (Option O)) (o : O) : evB o (.ok os ρ) = .ok (some o :: os) ρ := (rfl)
def evD : Res (List (Option O)) → Res (List (Option O))
  | .ok os ρ => .ok (none :: os) ρ
  | .exc x ρ => .exc x ρ
  | .no => .no
def evE (as : List Arg) (ρ : Env) : Option (Option O) → Res (List (Option O))
  | some (some _) => evD (evA as ρ)
  | _ => .no
@[simp] theorem e_evAi (i : Nat) (as : List Arg) : evA (.io i :: as) ρ = evE as ρ (ρ[i]?) := by
  show (match ρ[i]? with | some (some _) => (evA as ρ).bind fun os ρ2 => .ok (none :: os) ρ2 | _ => .no) = _
  unfold evE
  cases ρ[i]? with
  | none => rfl
  | some q =>
    cases q with
    | none => rfl
    | some o => show (evA as ρ).bind _ = evD (evA as ρ); unfold evD; cases evA as ρ <;> rfl
@[simp] theorem e_evE (as : List Arg) (o : O) : evE as ρ (some (some o)) = evD (evA as ρ) := (rfl)
@[simp] theorem e_evD (os : List (Option O)) : evD (.ok os ρ) = .ok (none :: os) ρ := (rfl)
@[simp] theorem e_tk0 : takeA [] [] ρ = some ([], ρ) := (rfl)
def tkK (o : O) : Option (List O × Env) → Option (List O × Env)
  | some r => some (o :: r.1, r.2)
  | none => none
@[simp] theorem e_tkv (m : M O) (as : List Arg) (o : O) (os : List (Option O)) : takeA (.v m :: as) (some o :: os) ρ = tkK o (takeA as os ρ) := by
  show (takeA as os ρ).map (fun r : List O × Env => (o :: r.1, r.2)) = tkK o (takeA as os ρ)
  unfold tkK; cases takeA as os ρ <;> rfl
@[simp] theorem e_tkK (o : O) (os : List O) : tkK o (some (os, ρ)) = some (o :: os, ρ) := (rfl)
def tkI (i : Nat) (as : List Arg) (os : List (Option O)) (ρ : Env) : Option (Option O) → Option (List O × Env)
  | some (some o) => tkK o (takeA as os (ρ.set i none))
  | _ => none
@[simp] theorem e_tki (i : Nat) (as : List Arg) (os : List (Option O)) : takeA (.io i :: as) (none :: os) ρ = tkI i as os ρ (ρ[i]?) := by
  show (match ρ[i]? with
    | some (some o) => (takeA as os (ρ.set i none)).map fun r : List O × Env => (o :: r.1, r.2)
    | _ => none) = tkI i as os ρ (ρ[i]?)
  unfold tkI
  cases ρ[i]? with
  | none => rfl
  | some q =>
    cases q with
    | none => rfl
    | some o =>
      show (takeA as os (ρ.set i none)).map (fun r => (o :: r.1, r.2)) = tkK o (takeA as os (ρ.set i none))
      unfold tkK
      cases takeA as os (ρ.set i none) <;> rfl
@[simp] theorem e_tkI (i : Nat) (as : List Arg) (os : List (Option O)) (o : O) : tkI i as os ρ (some (some o)) = tkK o (takeA as os (ρ.set i none)) := (rfl)
@[simp] theorem e_gv0 (ρc : Env) : giveA [] ρc ρ = ρ := by cases ρc <;> rfl
@[simp] theorem e_gvv (m : M O) (as : List Arg) (u : Option O) (ρc : Env) : giveA (.v m :: as) (u :: ρc) ρ = giveA as ρc ρ := (rfl)
@[simp] theorem e_gvi (i : Nat) (as : List Arg) (o : O) (ρc : Env) : giveA (.io i :: as) (some o :: ρc) ρ = giveA as ρc (ρ.set i (some o)) := (rfl)
@[simp] theorem e_gvn (i : Nat) (as : List Arg) (ρc : Env) : giveA (.io i :: as) (none :: ρc) ρ = giveA as ρc ρ := (rfl)
-- iterables
def itB (ρ : Env) : Option (List D) → Res (List D)
  | some ds => .ok ds ρ
  | none => .no
def itA : Res O → Res (List D)
  | .ok o ρ => itB ρ o.toD.items?
  | .exc x ρ => .exc x ρ
  | .no => .no
@[simp] theorem e_mI (m : M O) : mI m ρ = itA (m ρ) := by
  unfold mI itA
  cases m ρ with
  | ok o ρ1 =>
    show (match o.toD.items? with | some ds => Res.ok ds ρ1 | none => .no) = itB ρ1 o.toD.items?
    unfold itB; cases o.toD.items? <;> rfl
  | exc _ _ => rfl
  | no => rfl
@[simp] theorem e_itA (o : O) : itA (.ok o ρ) = itB ρ o.toD.items? := (rfl)
@[simp] theorem e_itB (ds : List D) : itB ρ (some ds) = .ok ds ρ := (rfl)
@[simp] theorem e_mTrue : mTrue ρ = .ok true ρ := (rfl)
def r1K : Res O → Res (List D)
  | .ok (.val (.int j)) ρ => if small j = true then .ok (rangeL 0 j.toNat) ρ else .no
  | .ok _ _ => .no
  | .exc x ρ => .exc x ρ
  | .no => .no
@[simp] theorem e_mR1 (m : M O) : mR1 m ρ = r1K (m ρ) := by
  unfold r1K mR1
  cases m ρ with
  | ok o ρ1 =>
    cases o with
    | val d => cases d <;> rfl
    | lst _ => rfl
    | dct _ _ => rfl
    | ins _ _ _ => rfl
  | exc _ _ => rfl
  | no => rfl
@[simp] theorem e_r1K (j : Int) (h : small j = true) : r1K (.ok (.val (.int j)) ρ) = .ok (rangeL 0 j.toNat) ρ := by unfold r1K; simp [h]
-- values
@[simp] theorem e_lift2 (f : D → D → Option D) (x y : D) : lift2 f (.val x) (.val y) = (f x y).map O.val := (rfl)
@[simp] theorem e_add (i j : Int) : addD (.int i) (.int j) = some (.int (i + j)) := (rfl)
@[simp] theorem e_sub (i j : Int) : subD (.int i) (.int j) = some (.int (i - j)) := (rfl)
@[simp] theorem e_lt (i j : Int) : ltD (.int i) (.int j) = some (.bl (decide (i < j))) := (rfl)
@[simp] theorem e_le (i j : Int) : leD (.int i) (.int j) = some (.bl (decide (i ≤ j))) := (rfl)
@[simp] theorem e_gt (i j : Int) : gtD (.int i) (.int j) = some (.bl (decide (j < i))) := (rfl)
@[simp] theorem e_ge (i j : Int) : geD (.int i) (.int j) = some (.bl (decide (j ≤ i))) := (rfl)
theorem e_mod {i j : Int} (h : 0 < j) : modD (.int i) (.int j) = some (.int (i % j)) := by unfold modD; simp [h]
theorem e_fdiv {i j : Int} (h : 0 < j) (h2 : j.natAbs.log2 < 9000) : fdivD (.int i) (.int j) = some (.int (i / j)) := by unfold fdivD; simp [h, h2]
theorem e_pow {i j : Int} (h : 0 ≤ j) (h2 : j ≤ 1000000) (h3 : i.natAbs < 2 ^ 64) : powD (.int i) (.int j) = some (.int (i ^ j.toNat)) := by unfold powD; simp [h, h2, h3]
@[simp] theorem e_toD_val (d : D) : (O.val d).toD = d := (rfl)
@[simp] theorem e_toD_lst (os : List O) : (O.lst os).toD = .lst (O.toDs os) := (rfl)
@[simp] theorem e_toDs0 : O.toDs [] = [] := (rfl)
@[simp] theorem e_toDs1 (o : O) (os : List O) : O.toDs (o :: os) = o.toD :: O.toDs os := (rfl)
@[simp] theorem e_toDsv (ds : List D) : O.toDs (ds.map O.val) = ds := toDs_vals ds
@[simp] theorem e_negO (i : Int) : negO (.val (.int i)) = some (.val (.int (-i))) := (rfl)
@[simp] theorem e_items_l (ds : List D) : (D.lst ds).items? = some ds := (rfl)
@[simp] theorem e_items_t (ds : List D) : (D.tup ds).items? = some ds := (rfl)
@[simp] theorem e_items_s (ns : List Int) : (D.scr ns).items? = some (ns.map D.int) := (rfl)

def endF (n : Nat) (P : List Nat) : Res Fl → Option (O × Env)
  | .ok .nx ρ' => some (.val .non, maskE n P ρ')
  | .ok (.ret o) ρ' => some (o, maskE n P ρ')
  | _ => none
theorem runF_eq (n N : Nat) (P : List Nat) (b : M Fl) (os : List O) : runF n N P b os = endF n P (b (os.map some ++ List.replicate (N - os.length) none)) := by
  unfold runF endF
  rfl
@[simp] theorem e_endR (n : Nat) (P : List Nat) (o : O) : endF n P (.ok (.ret o) ρ) = some (o, maskE n P ρ) := (rfl)
@[simp] theorem e_endN (n : Nat) (P : List Nat) : endF n P (.ok .nx ρ) = some (.val .non, maskE n P ρ) := (rfl)

/-! ### loops -/
theorem forL_inv {a : D → Env → Option Env} {b : M Fl} {ds : List D} (I : Nat → Env → Prop) {ρ : Env} (h0 : I 0 ρ) (hs : ∀ i d ρ, ds[i]? = some d → I i ρ → ∃ ρ1 ρ2, a d ρ = some ρ1 ∧ (b ρ1 = .ok .nx ρ2 ∨ b ρ1 = .ok .ct ρ2) ∧ I (i + 1) ρ2) :
    ∃ ρ', forL a b ds ρ = .ok .nx ρ' ∧ I ds.length ρ' := by
  induction ds generalizing I ρ with
  | nil => exact ⟨ρ, rfl, h0⟩
  | cons d ds ih =>
    obtain ⟨ρ1, ρ2, e1, e2, h1⟩ := hs 0 d ρ rfl h0
    obtain ⟨ρ', e3, h3⟩ := ih (fun i => I (i + 1)) h1 fun i d ρ h => hs (i + 1) d ρ (by simpa using h)
    refine ⟨ρ', ?_, by simpa using h3⟩
    unfold forL
    rw [e1]
    rcases e2 with e2 | e2 <;> simp only [e2, Res.bind_ok] <;> exact e3
end FB

/-! Plain facts of data: equality, slices, places. -/
namespace FB
open PySem PySem.Spec L2
open PyProof.Rows hiding St

@[simp] theorem eqv_int (i j : Int) : D.eqv (.int i) (.int j) = decide (i = j) := by
  unfold D.eqv D.pd; simp only [PyData.eqv]; first | rfl | (simp; done) | (by_cases h : i = j <;> simp [h])
def eqvs (xs ys : List D) : Bool := PyData.eqvAll (D.pds xs) (D.pds ys)
@[simp] theorem eqv_lst (xs ys : List D) : D.eqv (.lst xs) (.lst ys) = eqvs xs ys := by unfold D.eqv D.pd eqvs; simp only [PyData.eqv]
@[simp] theorem eqv_tup (xs ys : List D) : D.eqv (.tup xs) (.tup ys) = eqvs xs ys := by unfold D.eqv D.pd eqvs; simp only [PyData.eqv]
@[simp] theorem eqvs_nn : eqvs [] [] = true := by unfold eqvs D.pds; simp only [PyData.eqvAll]
@[simp] theorem eqvs_nc (y : D) (ys : List D) : eqvs [] (y :: ys) = false := by unfold eqvs D.pds; simp only [PyData.eqvAll]
@[simp] theorem eqvs_cn (y : D) (ys : List D) : eqvs (y :: ys) [] = false := by unfold eqvs D.pds; simp only [PyData.eqvAll]
@[simp] theorem eqvs_cc (x y : D) (xs ys : List D) : eqvs (x :: xs) (y :: ys) = (D.eqv x y && eqvs xs ys) := by
  show PyData.eqvAll (x.pd :: D.pds xs) (y.pd :: D.pds ys) = _
  simp only [PyData.eqvAll]; rfl
@[simp] theorem eqvs_n (xs : List D) : eqvs xs [] = xs.isEmpty := by cases xs <;> simp
@[simp] theorem okE_int (n : Nat) (i : Int) : D.okE n (.int i) = true := by unfold D.okE; first | rfl | (cases n <;> rfl)
@[simp] theorem okE_bl (n : Nat) (i : Bool) : D.okE n (.bl i) = true := by unfold D.okE; first | rfl | (cases n <;> rfl)
@[simp] theorem okE_non (n : Nat) : D.okE n .non = true := by unfold D.okE; first | rfl | (cases n <;> rfl)
@[simp] theorem okE_str (n : Nat) (s : Str) : D.okE n (.str s) = true := by unfold D.okE; first | rfl | (cases n <;> rfl)
@[simp] theorem okE_lst (n : Nat) (xs : List D) : D.okE (n + 1) (.lst xs) = xs.all (D.okE n) := by rw [D.okE]
@[simp] theorem okE_tup (n : Nat) (xs : List D) : D.okE (n + 1) (.tup xs) = xs.all (D.okE n) := by rw [D.okE]
theorem e_eqO {a b : O} (ha : a.toD.okE 9 = true) (hb : b.toD.okE 9 = true) : eqO a b = some (.val (.bl (a.toD.eqv b.toD))) := by unfold eqO; simp [ha, hb]
theorem e_neO {a b : O} (ha : a.toD.okE 9 = true) (hb : b.toD.okE 9 = true) : neO a b = some (.val (.bl (!a.toD.eqv b.toD))) := by unfold neO; simp [ha, hb]
@[simp] theorem eqO_int (i j : Int) : eqO (.val (.int i)) (.val (.int j)) = some (.val (.bl (decide (i = j)))) := by rw [e_eqO (by simp) (by simp)]; simp
@[simp] theorem neO_int (i j : Int) : neO (.val (.int i)) (.val (.int j)) = some (.val (.bl (!decide (i = j)))) := by rw [e_neO (by simp) (by simp)]; simp
theorem cut_from {α : Type} (xs : List α) (n : Nat) : cutL xs (some (n : Int)) none = xs.drop n := by
  unfold cutL
  rw [HT.sIx_none, HT.sIx_nat]
  rw [List.take_of_length_le (by simp)]
  by_cases h : n ≤ xs.length
  · rw [Nat.min_eq_left h]
  · rw [Nat.min_eq_right (by omega), List.drop_length, List.drop_of_length_le (by omega)]
@[simp] theorem slO_val_lst (ds : List D) (lo hi : Option Int) : slO (.val (.lst ds)) lo hi = some (.val (.lst (cutL ds lo hi))) := (rfl)
@[simp] theorem slO_val_tup (ds : List D) (lo hi : Option Int) : slO (.val (.tup ds)) lo hi = some (.val (.tup (cutL ds lo hi))) := (rfl)
@[simp] theorem slO_val_scr (ns : List Int) (lo hi : Option Int) : slO (.val (.scr ns)) lo hi = some (.val (.lst ((cutL ns lo hi).map D.int))) := (rfl)
@[simp] theorem listO_lst (ds : List D) : listO (.val (.lst ds)) = some (.val (.lst ds)) := by first | rfl | (unfold listO; simp)
@[simp] theorem ixO_lst (os : List O) (i : Int) : ixO (.lst os) (.val (.int i)) = atI os i := (rfl)
@[simp] theorem ixO_vlst (ds : List D) (i : Int) : ixO (.val (.lst ds)) (.val (.int i)) = (atI ds i).map O.val := (rfl)
@[simp] theorem ixO_vtup (ds : List D) (i : Int) : ixO (.val (.tup ds)) (.val (.int i)) = (atI ds i).map O.val := (rfl)
@[simp] theorem atI_0 {α : Type} (x : α) (xs : List α) : atI (x :: xs) 0 = some x := by unfold atI ixN; simp
theorem atN {α : Type} (xs : List α) (i : Nat) : atI xs (i : Int) = xs[i]? := by
  unfold atI ixN
  by_cases h : i < xs.length
  · simp [h]
  · simp [h]
@[simp] theorem atI_1 {α : Type} (x y : α) (xs : List α) : atI (x :: y :: xs) 1 = some y := by rw [show (1 : Int) = ((1 : Nat) : Int) from rfl, atN]; rfl
@[simp] theorem atI_2 {α : Type} (x y z : α) (xs : List α) : atI (x :: y :: z :: xs) 2 = some z := by rw [show (2 : Int) = ((2 : Nat) : Int) from rfl, atN]; rfl
theorem atI_last {α : Type} (xs : List α) (x : α) : atI (xs ++ [x]) (-1) = some x := by
  unfold atI ixN
  rw [if_neg (by omega), if_pos (by simp; omega)]
  have e : ((-1 : Int) + ((xs ++ [x]).length : Nat)).toNat = xs.length := by simp; omega
  show (xs ++ [x])[((-1 : Int) + ((xs ++ [x]).length : Nat)).toNat]? = some x
  rw [e]
  simp
@[simp] theorem setItO_lst (os : List O) (i : Nat) (u : O) (h : i < os.length) : setItO (.lst os) (.val (.int (i : Int))) u = some (.lst (os.set i u)) := by
  unfold setItO ixN
  simp [h]
@[simp] theorem setItO_0 (a : O) (os : List O) (u : O) : setItO (.lst (a :: os)) (.val (.int 0)) u = some (.lst (u :: os)) := setItO_lst (a :: os) 0 u (by simp)
@[simp] theorem setItO_1 (a b : O) (os : List O) (u : O) : setItO (.lst (a :: b :: os)) (.val (.int 1)) u = some (.lst (a :: u :: os)) := setItO_lst (a :: b :: os) 1 u (by simp)
@[simp] theorem setItO_2 (a b c : O) (os : List O) (u : O) : setItO (.lst (a :: b :: c :: os)) (.val (.int 2)) u = some (.lst (a :: b :: u :: os)) := setItO_lst (a :: b :: c :: os) 2 u (by simp)
def coK2 (own : List Nat) (ρ1 : Env) : Res (List O) → Res O
  | .ok os ρ2 => .ok (.lst os) (backE (wipeE ρ2 own) ρ1 own)
  | .exc x ρ => .exc x ρ
  | .no => .no
def coK (own : List Nat) (a : D → Env → Option Env) (t : M Bool) (e : M O) : Res (List D) → Res O
  | .ok ds ρ1 => if ds.length ≤ 1000000 then coK2 own ρ1 (compL own a t e ds (wipeE ρ1 own)) else .no
  | .exc x ρ => .exc x ρ
  | .no => .no
variable {ρ : Env}
@[simp] theorem e_mComp (it : M (List D)) (own : List Nat) (a : D → Env → Option Env) (t : M Bool) (e : M O) : mComp it own a t e ρ = coK own a t e (it ρ) := by
  unfold mComp coK
  cases it ρ with
  | ok ds ρ1 =>
    show (if ds.length ≤ 1000000 then (compL own a t e ds (wipeE ρ1 own)).bind _ else Res.no) = if ds.length ≤ 1000000 then coK2 own ρ1 (compL own a t e ds (wipeE ρ1 own)) else Res.no
    unfold coK2
    cases compL own a t e ds (wipeE ρ1 own) <;> rfl
  | exc _ _ => rfl
  | no => rfl
@[simp] theorem e_coK (own : List Nat) (a : D → Env → Option Env) (t : M Bool) (e : M O) (ds : List D) (h : ds.length ≤ 1000000) : coK own a t e (.ok ds ρ) = coK2 own ρ (compL own a t e ds (wipeE ρ own)) := by unfold coK; simp [h]
@[simp] theorem e_coK2 (own : List Nat) (os : List O) (ρ1 : Env) : coK2 own ρ1 (.ok os ρ) = .ok (.lst os) (backE (wipeE ρ own) ρ1 own) := (rfl)
@[simp] theorem e_wipe0 : wipeE ρ [] = ρ := (rfl)
@[simp] theorem e_wipe1 (v : Nat) (vs : List Nat) : wipeE ρ (v :: vs) = (wipeE ρ vs).set v none := (rfl)
def bkK (v : Nat) (ρ : Env) : Option (Option O) → Env
  | some (some o) => ρ.set v (some o)
  | _ => ρ
@[simp] theorem e_back0 (ρ2 : Env) : backE ρ2 ρ [] = ρ2 := (rfl)
@[simp] theorem e_back1 (ρ2 : Env) (v : Nat) (vs : List Nat) : backE ρ2 ρ (v :: vs) = bkK v (backE ρ2 ρ vs) ((wipeE ρ vs)[v]?) := by
  show (match (wipeE ρ vs)[v]? with | some (some o) => (backE ρ2 ρ vs).set v (some o) | _ => backE ρ2 ρ vs) = _
  unfold bkK; rfl
@[simp] theorem e_bkKs (v : Nat) (o : O) : bkK v ρ (some (some o)) = ρ.set v (some o) := (rfl)
@[simp] theorem e_bkKn (v : Nat) : bkK v ρ (some none) = ρ := (rfl)
@[simp] theorem e_bkKx (v : Nat) : bkK v ρ none = ρ := (rfl)
theorem bkK_eta (v : Nat) (c : Option O) (ρ : Env) (h : ρ[v]? = some none) : bkK v ρ (some c) = ρ.set v c := by
  cases c with
  | some o => rfl
  | none =>
    show ρ = _
    apply List.ext_getElem?
    intro j
    by_cases hj : v = j
    · subst hj
      have hl : v < ρ.length := (List.getElem?_eq_some_iff.mp h).1
      rw [h]; simp [hl]
    · rw [List.getElem?_set_ne hj]
theorem compL_of {α : Type} {own : List Nat} {a : D → Env → Option Env} {t : M Bool} {e : M O} (f : α → D) (c : α → Bool) (g : α → O) : ∀ {xs : List α},
    (∀ x ∈ xs, ∃ ρ1 ρ2, a (f x) ρ = some ρ1 ∧ t ρ1 = .ok (c x) ρ2 ∧ (c x = false → wipeE ρ2 own = ρ) ∧ (c x = true → ∃ ρ3, e ρ2 = .ok (g x) ρ3 ∧ wipeE ρ3 own = ρ)) → compL own a t e (xs.map f) ρ = .ok ((xs.filter c).map g) ρ
  | [], _ => rfl
  | d :: ds, h => by
    obtain ⟨ρ1, ρ2, e1, e2, h1, h2⟩ := h d (List.mem_cons_self ..)
    have ih := compL_of (own := own) (a := a) (t := t) (e := e) f c g (xs := ds) fun d hd => h d (List.mem_cons_of_mem _ hd)
    rw [List.map_cons]
    unfold compL
    rw [e1]
    simp only [e2, Res.bind_ok]
    cases hc : c d with
    | true =>
      obtain ⟨ρ3, e3, h3⟩ := h2 hc
      simp [e3, h3, ih, hc]
    | false => simp [h1 hc, ih, hc]
theorem compL_all {α : Type} {own : List Nat} {a : D → Env → Option Env} {t : M Bool} {e : M O} (f : α → D) (g : α → O) {xs : List α}
    (h : ∀ x ∈ xs, ∃ ρ1 ρ2 ρ3, a (f x) ρ = some ρ1 ∧ t ρ1 = .ok true ρ2 ∧ e ρ2 = .ok (g x) ρ3 ∧ wipeE ρ3 own = ρ) : compL own a t e (xs.map f) ρ = .ok (xs.map g) ρ := by
  have q := compL_of (own := own) (a := a) (t := t) (e := e) (ρ := ρ) f (fun _ => true) g (xs := xs) fun x hx => by
    obtain ⟨ρ1, ρ2, ρ3, e1, e2, e3, e4⟩ := h x hx
    refine ⟨ρ1, ρ2, e1, e2, ?_, fun _ => ⟨ρ3, e3, e4⟩⟩
    intro z
    exact absurd z (by simp)
  rw [q, List.filter_eq_self.mpr fun _ _ => rfl]
@[simp] theorem lenO_lst (os : List O) : lenO (.lst os) = some (.val (.int os.length)) := by first | rfl | (unfold lenO; simp)
@[simp] theorem lenO_vlst (os : List D) : lenO (.val (.lst os)) = some (.val (.int os.length)) := by first | rfl | (unfold lenO; simp)
@[simp] theorem lenO_vtup (os : List D) : lenO (.val (.tup os)) = some (.val (.int os.length)) := by first | rfl | (unfold lenO; simp)
@[simp] theorem lenO_scr (os : List Int) : lenO (.val (.scr os)) = some (.val (.int os.length)) := by first | rfl | (unfold lenO; simp)
@[simp] theorem addD_lst (xs ys : List D) (h : xs.length + ys.length ≤ 1000000) : addD (.lst xs) (.lst ys) = some (.lst (xs ++ ys)) := by unfold addD; simp [h]
@[simp] theorem lift2_lst (f : D → D → Option D) (xs : List D) (y : D) : lift2 f (.lst (xs.map O.val)) (.val y) = (f (.lst xs) y).map O.val := by unfold lift2; simp
@[simp] theorem tupO_lst (ds : List D) : tupO (.lst (ds.map O.val)) = some (.val (.tup ds)) := by unfold tupO; simp
@[simp] theorem tupO_vlst (ds : List D) : tupO (.val (.lst ds)) = some (.val (.tup ds)) := by unfold tupO; simp
theorem small_nat {n : Nat} (h : n ≤ 1000000) : small (n : Int) = true := by unfold small; simp; omega
@[simp] theorem isNO_int (i : Int) : isNO (.val (.int i)) (.val .non) = some (.val (.bl false)) := by rfl
@[simp] theorem isNO_non : isNO (.val .non) (.val .non) = some (.val (.bl true)) := by rfl
@[simp] theorem lints_lst (ns : List Int) : (D.lst (ns.map D.int)).lints? = some ns := by unfold D.lints?; simp [ints?_map]
/-- an owned list of shared things -/
def vO (ds : List D) : O := .lst (ds.map O.val)
@[simp] theorem vO_sh (ds : List D) : (vO ds).sh = some (.lst ds) := O.sh_lst ds
@[simp] theorem vO_toD (ds : List D) : (vO ds).toD = .lst ds := by show D.lst (O.toDs _) = _; rw [toDs_vals]
@[simp] theorem vO_apA (i : Nat) (m : M O) (ds : List D) : apA i m ρ (some (some (vO ds))) = apB i (m ρ) := (rfl)
@[simp] theorem vO_apC (i : Nat) (d : D) (ds : List D) (h : ds.length < 1000000) : apC i (.val d) ρ (some (some (vO ds))) = .ok (.val .non) (ρ.set i (some (vO (ds ++ [d])))) := by
  unfold vO; rw [e_apC _ _ _ (by simpa using h)]; simp
@[simp] theorem vO_len (ds : List D) : lenO (vO ds) = some (.val (.int ds.length)) := by unfold vO; simp
@[simp] theorem vO_ix (ds : List D) (i : Int) : ixO (vO ds) (.val (.int i)) = (atI ds i).map O.val := by
  unfold vO; rw [ixO_lst]; unfold atI; simp; rfl
@[simp] theorem vO_lift2 (f : D → D → Option D) (ds : List D) (y : D) : lift2 f (vO ds) (.val y) = (f (.lst ds) y).map O.val := lift2_lst f ds y
@[simp] theorem vO_sl (ds : List D) (lo hi : Option Int) : slO (vO ds) lo hi = some (.val (.lst (cutL ds lo hi))) := by unfold slO; simp
@[simp] theorem vO_tup (ds : List D) : tupO (vO ds) = some (.val (.tup ds)) := tupO_lst ds
@[simp] theorem vO_list (ds : List D) : listO (vO ds) = some (.val (.lst ds)) := by unfold listO; simp
theorem vO_set (ds : List D) (i : Nat) (d : D) (h : i < ds.length) : setItO (vO ds) (.val (.int (i : Int))) (.val d) = some (vO (ds.set i d)) := by
  unfold vO; rw [setItO_lst _ _ _ (by simpa using h)]; simp
end FB

/-! Constants of the module; a new dict. -/
namespace FB
open PySem PySem.Spec L2
open PyProof.Rows hiding St

section
variable {X : Cx} {K : PySem.W.Frag} {mg : Str → Option Value}
def mDict0 : M O := fun ρ => .ok (.dct [] []) ρ
theorem se_dict0 {pos : Pos} : SE X (.Dict [] [] pos) mDict0 := PE.imp pe_dnewK fun σ H Q w => by
  obtain ⟨ρ, T, o, ρ', c, R, e, k⟩ := w
  cases e
  intro p hp
  exact k _ _ c (Rep.closeD (kvs := []) (R.new hp) rfl ⟨rfl, List.nodup_nil⟩)
/-! a new list of its own, by list(..) -/
def UnW (K : PySem.W.Frag) (mg : Str → Option Value) (r : V → Hp → VK → Prop) (f : O → Option (List D)) : Prop :=
  ∀ (H : Hp) (L : List Item) (B : List (V × O)) (x : V) (ox : O) (ds : List D) (Q : VK), Rep K mg H L B → (x, ox) ∈ B → f ox = some ds → (∀ v H', Rep K mg H' (.ov v (.lst (ds.map O.val)) :: L) [] → Q v H') → r x H Q
def listW (a : O) : Option (List D) := match a.sh with
  | some (.lst ds) => some ds
  | some (.tup ds) => some ds
  | some (.scr ns) => some (ns.map D.int)
  | _ => none
theorem unw_list : UnW K mg (fun x H Q => ∃ p ys, [x] = [.ref p] ∧ (SqL K H p ys ∨ SqT K H p ys) ∧ ∀ l, H l = none → Q (.ref l) (upd H l (.lst ys))) listW := by
  intro H L B x ox ds Q R hx e k
  unfold listW at e
  split at e
  · rename_i ds e1
    cases e
    obtain ⟨p, vs, rfl, hp, lp, R1⟩ := R.shL hx e1
    exact ⟨p, vs, rfl, .inl (.inl hp), fun q hq => k _ _ (R1.nob.newL lp hq)⟩
  · rename_i ds e1
    cases e
    obtain ⟨p, vs, rfl, hp, lp, R1⟩ := R.shT hx e1
    exact ⟨p, vs, rfl, .inr hp, fun q hq => k _ _ (R1.nob.newL lp hq)⟩
  · rename_i ns e1
    cases e
    have q : Vw K mg H x (.scr ns) := R.sh hx e1
    cases q with
    | scr h => exact ⟨_, _, rfl, .inl h, fun q hq => k _ _ ((R.ints ns).nob.newL (by simp) hq)⟩
  · cases e
def mW (op : O → Option (List D)) (f : Pf) : M O := fun ρ => match (f ρ).bind op with
  | some ds => .ok (.lst (ds.map O.val)) ρ
  | none => .no
theorem tUn_w {r : V → Hp → VK → Prop} {op : O → Option (List D)} {f : Pf} (h : UnW K mg r op) (σ : L2.St) (H : Hp) (Q : VK) (q : tM K mg (mW op f) σ H Q) : tUn r (tP K mg f) σ H Q := by
  obtain ⟨ρ, T, o, ρ', c, R, e, k⟩ := q
  unfold mW at e
  cases e1 : f ρ with
  | none => rw [e1] at e; cases e
  | some a =>
    rw [e1] at e
    have e : (match op a with | some ds => Res.ok (O.lst (ds.map O.val)) ρ | none => .no) = .ok o ρ' := e
    cases e2 : op a with
    | none => rw [e2] at e; cases e
    | some ds =>
      rw [e2] at e
      cases e
      exact ⟨ρ, T, [], a, c, R, e1, fun x H1 s1 R1 => h H1 _ _ x a ds Q R1 (List.mem_cons_self ..) e2 fun v H' R' => k v H' c R'⟩
theorem se_tw {T : String} {x : Str} {a : Expr} {p pos : Pos} {f : Pf} {r : List V → Hp → VK → Prop} {op : O → Option (List D)} (hc : CallR X (.type T) r) (h : UnW X.K X.mg (fun x H Q => r [x] H Q) op) (hg : Gl X x) (hm : X.mg x = none) (hv : bootBuiltins x = some (.type T)) (ha : SP X a f)
    (hn : x ≠ "__name__" := by decide) (hdb : (x == ("__debug__" : Str)) = false := by decide) (hst : starEach (a :: []) X.env = (false, eval a X.env) :: starEach [] X.env := by rfl) (hpl : (backTo pos (starEach [] X.env)).any (·.1) = false := by rfl) :
    SE X (.Call (.Name x p) [a] [] pos) (mW op f) := PE.imp (pe_callTy hc hg hm hv (pa_cons ha pa_nil hst) hn hdb hst hpl) (tUn_w h)
@[simp] theorem e_mDict0 {ρ : Env} : mDict0 ρ = .ok (.dct [] []) ρ := (rfl)
end
end FB
namespace FB
open PySem PySem.Spec L2
variable {ρ : Env}
@[simp] theorem intO_bl (b : Bool) : intO (.val (.bl b)) = some (.val (.int (if b = true then 1 else 0))) := by cases b <;> rfl
@[simp] theorem intO_int (i : Int) : intO (.val (.int i)) = some (.val (.int i)) := (rfl)
@[simp] theorem eqv_bl (a b : Bool) : D.eqv (.bl a) (.bl b) = (a == b) := by cases a <;> cases b <;> (unfold D.eqv D.pd; simp [PyData.eqv])
@[simp] theorem eqO_bl (a b : Bool) : eqO (.val (.bl a)) (.val (.bl b)) = some (.val (.bl (a == b))) := by rw [e_eqO (by simp) (by simp)]; simp
def wK (op : O → Option (List D)) (ρ : Env) : Option O → Res O
  | some a => match op a with
    | some ds => .ok (vO ds) ρ
    | none => .no
  | none => .no
def wK2 (ρ : Env) : Option (List D) → Res O
  | some ds => .ok (vO ds) ρ
  | none => .no
@[simp] theorem e_mW (op : O → Option (List D)) (f : Pf) : mW op f ρ = wK op ρ (f ρ) := by
  unfold mW wK
  cases f ρ with
  | none => rfl
  | some a => rfl
@[simp] theorem e_wK (op : O → Option (List D)) (a : O) : wK op ρ (some a) = wK2 ρ (op a) := (rfl)
@[simp] theorem e_wK2 (ds : List D) : wK2 ρ (some ds) = .ok (vO ds) ρ := (rfl)
@[simp] theorem listW_lst (ds : List D) : listW (.val (.lst ds)) = some ds := (rfl)
@[simp] theorem listW_tup (ds : List D) : listW (.val (.tup ds)) = some ds := (rfl)
@[simp] theorem listW_scr (ns : List Int) : listW (.val (.scr ns)) = some (ns.map D.int) := (rfl)
@[simp] theorem listW_vO (ds : List D) : listW (vO ds) = some ds := by unfold listW; simp
end FB

/-! Objects: attributes read and stored, methods, making. -/
namespace FB
open PySem PySem.Spec L2
open PyProof.Rows hiding St

section
variable {X : Cx} {K : PySem.W.Frag} {mg : Str → Option Value}
theorem CO.eq {c : Str} {C C' : Addr} {fs : List Str} (co : CO K mg c C fs) (h : mg c = some (.ref C')) : C' = C := by
  have := co.mgc.symm.trans h
  injection this with this
  injection this with this
  exact this.symm
def fidx : List Str → Str → Option Nat
  | [], _ => none
  | g :: gs, f => if g = f then some 0 else (fidx gs f).map (· + 1)
theorem fidx_look : ∀ {fs : List (Str × V)} {f : Str} {j : Nat}, fidx (fs.map (·.1)) f = some j → ∃ v, fs.lookup f = some v ∧ (fs.map (·.2))[j]? = some v
  | [], f, j, h => by cases h
  | (g, v) :: fs, f, j, h => by
    have h : (if g = f then some 0 else (fidx (fs.map (·.1)) f).map (· + 1)) = some j := h
    by_cases e : g = f
    · rw [if_pos e] at h
      cases h
      subst e
      exact ⟨v, by simp [List.lookup], rfl⟩
    · rw [if_neg e] at h
      cases q : fidx (fs.map (·.1)) f with
      | none => rw [q] at h; cases h
      | some i =>
        rw [q] at h
        cases h
        obtain ⟨w, h1, h2⟩ := fidx_look q
        refine ⟨w, ?_, by simpa using h2⟩
        have : (f == g) = false := beq_eq_false_iff_ne.mpr (Ne.symm e)
        simp [List.lookup, this, h1]
theorem fidx_none : ∀ {fs : List (Str × V)} {f : Str}, fidx (fs.map (·.1)) f = none → fs.lookup f = none
  | [], f, _ => rfl
  | (g, v) :: fs, f, h => by
    have h : (if g = f then some 0 else (fidx (fs.map (·.1)) f).map (· + 1)) = none := h
    by_cases e : g = f
    · rw [if_pos e] at h; cases h
    · rw [if_neg e] at h
      have : (f == g) = false := beq_eq_false_iff_ne.mpr (Ne.symm e)
      have h : fidx (fs.map (·.1)) f = none := by
        cases q : fidx (fs.map (·.1)) f with
        | none => rfl
        | some i => rw [q] at h; cases h
      simp [List.lookup, this, fidx_none h]
theorem VOs.sub {G H : Hp} : ∀ {vs : List V} {os : List O} {as : List Addr} {j : Nat} {v : V} {o : O}, VOs K mg G H vs os as → os[j]? = some o → vs[j]? = some v → ∃ bs, VO K mg G H v o bs ∧ ∀ a ∈ bs, a ∈ as
  | [], os, as, j, v, o, t, h1, h2 => by simp at h2
  | w :: vs, os, as, j, v, o, t, h1, h2 => by
    cases t with
    | cons t r =>
      cases j with
      | zero =>
        simp at h1 h2
        subst h1 h2
        exact ⟨_, t, fun a ha => by simp [ha]⟩
      | succ j =>
        obtain ⟨bs, q1, q2⟩ := VOs.sub r (by simpa using h1) (by simpa using h2)
        exact ⟨bs, q1, fun a ha => by simp [q2 a ha]⟩
/-! stored -/
def putFO (ns : List Str) (os : List O) (f : Str) (u : O) : List Str × List O := match fidx ns f with
  | some j => (ns, os.set j u)
  | none => (ns ++ [f], os ++ [u])
theorem putF_eq2 : ∀ (fs : List (Str × V)) (f : Str) (v : V), (fidx (fs.map (·.1)) f = none → putF f v fs = fs ++ [(f, v)]) ∧ ∀ j, fidx (fs.map (·.1)) f = some j → (putF f v fs).map (·.1) = fs.map (·.1) ∧ (putF f v fs).map (·.2) = (fs.map (·.2)).set j v
  | [], f, v => ⟨fun _ => rfl, fun j h => by cases h⟩
  | (g, w) :: fs, f, v => by
    obtain ⟨i1, i2⟩ := putF_eq2 fs f v
    have ef : fidx (((g, w) :: fs).map (·.1)) f = if g = f then some 0 else (fidx (fs.map (·.1)) f).map (· + 1) := rfl
    have ep : putF f v ((g, w) :: fs) = if g = f then (g, v) :: fs else (g, w) :: putF f v fs := rfl
    rw [ef, ep]
    by_cases e : g = f
    · rw [if_pos e, if_pos e]
      exact ⟨fun h => (by cases h), fun j h => (by cases h; exact ⟨rfl, rfl⟩)⟩
    · rw [if_neg e, if_neg e]
      cases q : fidx (fs.map (·.1)) f with
      | none => exact ⟨fun _ => (by rw [i1 q]; rfl), fun j h => (by cases h)⟩
      | some i =>
        obtain ⟨h1, h2⟩ := i2 i q
        refine ⟨fun h => (by cases h), fun j h => ?_⟩
        cases h
        exact ⟨(by rw [List.map_cons, h1]; rfl), (by rw [List.map_cons, h2]; rfl)⟩
def mSetF (i : Nat) (c f : Str) (m : M O) : M Fl := fun ρ => (m ρ).bind fun u ρ1 => match ρ1[i]? with
  | some (some (.ins c' ns os)) => if c' = c ∧ ns.length < 1000 then .ok .nx (ρ1.set i (some (.ins c (putFO ns os f u).1 (putFO ns os f u).2))) else .no
  | _ => .no
theorem ss_setF (i : Nat) {P : List Nat} {c f : Str} {C : Addr} {fs : List Str} {x : Str} {p tpos pos : Pos} {e : Expr} {m : M O} (co : CO X.K X.mg c C fs) (hf : f ∈ fs) (h : SE X e m) (hN : X.N[i]? = some x := by rfl) (hv : Vis X.env.scope x := by first | exact Or.inl rfl | exact Or.inr (Or.inl rfl) | exact Or.inr (Or.inr rfl)) (hd : (x == ("__debug__" : Str)) = false := by decide)
    (hcd : (x == ("__classdict__" : Str)) = false := by decide) (hs : swapsWith e (some (.Attribute (.Name x p) f tpos)) pos.line X.env = pure false := by rfl) : SS X P (.Assign [.Attribute (.Name x p) f tpos] e pos) (mSetF i c f m) :=
  PS.imp (ps_fld (pv i hN hv hd hcd) h hs) fun D σ H w => by
    obtain ⟨ρ, T, cv, R, h⟩ := tS_iff.mp w
    unfold mSetF at h
    cases e1 : m ρ with
    | exc z ρ1 => rw [e1] at h; exact h.elim
    | no => rw [e1] at h; exact h.elim
    | ok u ρ1 =>
      rw [e1, Res.bind_ok] at h
      refine ⟨ρ, T, u, ρ1, cv, R, e1, fun v H1 c1 R1 => ?_⟩
      split at h
      · rename_i c' ns os e2
        split at h
        · rename_i hc
          obtain ⟨rfl, hlen⟩ := hc
          obtain ⟨vx, hvx⟩ := c1.ex i _ e2
          refine ⟨vx, hvx, ?_⟩
          have R2 := Rep.slot (M := [.ov v u]) hvx e2 R1
          obtain ⟨q, C', dx, fs', rfl, hm, hl, hn, R3⟩ := R2.openI
          have := co.eq hm
          subst this
          have hlf : fs'.length = ns.length := by rw [← hn]; simp
          refine ⟨q, C', dx, fs', rfl, R3.rawAt, co.cl, co.no f hf, by omega, ?_⟩
          refine h σ _ (Fix.refl _ _) (c1.put hvx _) ?_
          refine Rep.unslot (M := []) hvx e2 ?_
          have R4 := R3.write (o' := .ins C' dx (putF f v fs'))
          obtain ⟨f1, f2⟩ := putF_eq2 fs' f v
          have hlo : (fs'.map (·.2)).length = os.length := by simpa using hl
          generalize hL : pairs σ (ρ1.set i none) ++ T = L at R4 ⊢
          have R4 : Rep X.K X.mg _ (.raw q (.ins C' dx (putF f v fs')) :: (zipI (fs'.map (·.2)) os ++ .ov v u :: L)) [] := R4
          show Rep X.K X.mg _ (.ov (.ref q) (.ins c' (putFO ns os f u).1 (putFO ns os f u).2) :: L) []
          unfold putFO
          cases ej : fidx ns f with
          | none =>
            rw [← hn] at ej
            have e5 := f1 ej
            refine Rep.closeI (dx := dx) (C := C') (fs := putF f v fs') ?_ (by rw [e5]; simp [hl]) hm (by rw [e5]; simp [hn])
            rw [e5] at R4 ⊢
            have ez : zipI ((fs' ++ [(f, v)]).map (·.2)) (os ++ [u]) = zipI (fs'.map (·.2)) os ++ [.ov v u] := by
              unfold zipI
              rw [List.map_append, List.zipWith_append hlo]; rfl
            rw [ez, List.append_assoc]
            exact R4
          | some j =>
            rw [← hn] at ej
            obtain ⟨e5, e6⟩ := f2 j ej
            have hj : j < os.length := by
              obtain ⟨w, _, l2⟩ := fidx_look ej
              have := (List.getElem?_eq_some_iff.mp l2).1
              simp at this
              omega
            have hpl : (putF f v fs').length = fs'.length := by
              have := congrArg List.length e5
              simpa using this
            refine Rep.closeI (dx := dx) (C := C') (fs := putF f v fs') ?_ (by rw [hpl]; simp [hl]) hm (by rw [e5, hn])
            obtain ⟨A, Cc, w, z1, z2⟩ := zip_set (v := v) (u := u) hlo hj
            rw [e6, z2]
            rw [z1] at R4
            have p1 : (.raw q (.ins C' dx (putF f v fs')) :: ((A ++ w :: Cc) ++ .ov v u :: L) : List Item).Perm (w :: (.raw q (.ins C' dx (putF f v fs')) :: ((A ++ .ov v u :: Cc) ++ L))) := by
              refine (fun h0 => (List.Perm.cons _ h0).trans (.swap _ _ _) : ((A ++ w :: Cc) ++ .ov v u :: L).Perm (w :: ((A ++ .ov v u :: Cc) ++ L)) → _) ?_
              rw [List.append_assoc]
              refine List.perm_middle.trans (List.Perm.cons _ ?_)
              show (A ++ (Cc ++ .ov v u :: L)).Perm _
              rw [← List.append_assoc]
              refine List.perm_middle.trans ?_
              rw [List.append_assoc, List.append_assoc]
              exact List.perm_middle.symm
            exact (R4.perm p1).drop
        · exact h.elim
      · exact h.elim
end
end FB

/-! Methods called, objects made. -/
namespace FB
open PySem PySem.Spec L2
open PyProof.Rows hiding St

section
variable {P : Program} {w : World} {K : PySem.W.Frag} {mg : Str → Option Value} {base : Heap}
theorem met_sem {m qual : Str} {C : Addr} {st : Stmt} {f : Addr} {fd : FuncData} {N ps : List Str} {k n l : Nat} {Pr : List Nat} {b : M Fl} (c : Cls K C) (me : Meth K C m f) (F : C8.Fun K m qual st f fd) (bi : Binds K fd ps []) (S : FnScope N ps (C8.fnScope st)) (hn : ps.length = n := by rfl) (hm : N.length = l := by rfl) (hnm : n ≤ l := by decide)
    (hb : ∀ (cdv : Value) (A : Around) (outer : List PySem.Env) (s : Shared) (H : Hp) (E : XK), Room k (A.deeper (envOfC qual (C8.fnScope st) s.heap.objs.size f cdv)) → SSs (cxOf C8.CX0 P w K mg base N qual (C8.fnScope st) f cdv A outer s H E).nox Pr (C8.fnBody st) b) :
    C8.Met P w K mg base (k + 1) C m (spF K mg n (runF n l Pr b)) [] :=
  C8.met0 c me F bi S (fun vs H Q E h => by rw [hn]; exact sp_len vs H Q E h) fun cdv A outer s H vs Q E hr h => body_sem (X := (cxOf C8.CX0 P w K mg base N qual (C8.fnScope st) f cdv A outer s H E).nox) (E := E) hm hnm (hb cdv A outer s H E hr) h
theorem mak_sem {x qual : Str} {C : Addr} {st : Stmt} {f : Addr} {fd : FuncData} {N ps : List Str} {k n l : Nat} {Pr : List Nat} {b : M Fl} (M : Mk K C f) (hx : mg x = some (.ref C)) (F : C8.Fun K "__init__" qual st f fd) (bi : Binds K fd ps []) (S : FnScope N ps (C8.fnScope st)) (hn : ps.length = n := by rfl) (hm : N.length = l := by rfl) (hnm : n ≤ l := by decide)
    (hb : ∀ (cdv : Value) (A : Around) (outer : List PySem.Env) (s : Shared) (H : Hp) (E : XK), Room k (A.deeper (envOfC qual (C8.fnScope st) s.heap.objs.size f cdv)) → SSs (cxOf C8.CX0 P w K mg base N qual (C8.fnScope st) f cdv A outer s H E).nox Pr (C8.fnBody st) b) :
    C8.Mak P w K mg base (k + 1) x C (spF K mg n (runF n l Pr b)) [] :=
  C8.mak0 M hx F bi .nil S (fun vs H Q E h => by rw [hn]; exact sp_len vs H Q E h) fun cdv A outer s H vs Q E hr h => body_sem (X := (cxOf C8.CX0 P w K mg base N qual (C8.fnScope st) f cdv A outer s H E).nox) (E := E) hm hnm (hb cdv A outer s H E hr) h
end

section
variable {X : Cx} {K : PySem.W.Frag} {mg : Str → Option Value}
theorem ioLen {σ : L2.St} : ∀ {as : List Arg} {vs : List V}, IoOk as σ vs → vs.length = as.length
  | [], [], _ => rfl
  | [], _ :: _, io => io.elim
  | .v _ :: as, [], io => io.elim
  | .io _ :: as, [], io => io.elim
  | .v _ :: as, v :: vs, io => by simp [ioLen (as := as) (vs := vs) io]
  | .io _ :: as, v :: vs, io => by simp [ioLen (as := as) (vs := vs) io.2]
/-! o.m(..), o a name -/
/-! C(..) -/
def mMake (c : Str) (F : FSem) (as : List Arg) : M O := fun ρ => (evA as ρ).bind fun os ρ1 => match takeA as os ρ1 with
  | none => .no
  | some r => match F (.ins c [] [] :: r.1) with
    | some (.val .non, some o :: ρc) => .ok o (giveA as ρc r.2)
    | _ => .no
theorem se_make {n k j : Nat} {c : Str} {C : Addr} {fs : List Str} {F : FSem} {p pos : Pos} {e : Expr} {es : List Expr} {as : List Arg} (co : CO X.K X.mg c C fs) (cl : C8.Mak X.prog X.w X.K X.mg X.base k c C (spF X.K X.mg n F) []) (hr : Room j X.A) (hk : k + 1 ≤ j) (hg : Gl X c) (ha : SAs X (e :: es) as) (hn : as.length + 1 = n := by rfl)
    (hdb : (c == ("__debug__" : Str)) = false := by decide) (he : starEach (e :: es) X.env = (false, eval e X.env) :: starEach es X.env := by rfl) (hpl : (backTo pos (starEach es X.env)).any (·.1) = false := by rfl) :
    SE X (.Call (.Name c p) (e :: es) [] pos) (mMake c F as) := PE.imp (C8.pe_mk cl hr hk hg ha hdb he hpl) fun σ H Q w => by
  obtain ⟨ρ, T, o, ρ', cv, R, e, k⟩ := w
  unfold mMake at e
  obtain ⟨os1, ρ1, e1, e⟩ := Res.bind_eq e
  split at e
  · cases e
  · rename_i r e3
    split at e
    · rename_i o' ρc e4
      cases e
      refine ⟨ρ, T, os1, ρ1, cv, R, e1, fun vs H1 c1 hl1 io R1 => ?_⟩
      obtain ⟨c2, hl2, R3⟩ := take_ok c1 io e3 R1
      intro x dx hx hdx hne
      have hvl := ioLen io
      rw [List.append_nil]
      have hx' : upd H1 dx (.own x) x = none := by rw [upd_ne hne.symm]; exact hx
      have R4 := (R3.grow (sameNew (o := .own x) hdx)).new (o := .ins C dx []) hx'
      have R5 : Rep X.K X.mg _ (.ov (.ref x) (.ins c [] []) :: (zipI vs r.1 ++ (pairs σ r.2 ++ T))) [] := Rep.closeI (C := C) (dx := dx) (fs := []) R4 rfl co.mgc rfl
      refine ⟨.ins c [] [] :: r.1, pairs σ r.2 ++ T, .val .non, some o :: ρc, by simp [hvl, ← hn], by simp [← hl2, hvl, ← hn], R5, e4, fun u H2 R6 => ⟨?_, ?_⟩⟩
      · have q := R6.lend.view (List.mem_cons_self ..)
        cases q
        rfl
      · have R7 := R6.drop
        rw [List.map_cons, pairs_ss] at R7
        obtain ⟨c3, R8⟩ := give_ok (as := as) (vs := vs) (M := [.ov (.ref x) o]) c2 io R7
        exact k _ H2 c3 R8
    · cases e
end
end FB

/-! self.f[k] = e; self.f[k] += e. -/
namespace FB
open PySem PySem.Spec L2
open PyProof.Rows hiding St

section
variable {X : Cx} {K : PySem.W.Frag} {mg : Str → Option Value}
theorem zip_at : ∀ {vs : List V} {os : List O} {j : Nat} {w : V} {a : O}, vs[j]? = some w → os[j]? = some a → ∃ A C, zipI vs os = A ++ .ov w a :: C ∧ ∀ a', zipI vs (os.set j a') = A ++ .ov w a' :: C
  | [], _, _, _, _, h, _ => by simp at h
  | _ :: _, [], _, _, _, _, h => by simp at h
  | v :: vs, o :: os, 0, w, a, h1, h2 => by
    simp at h1 h2
    subst h1 h2
    exact ⟨[], zipI vs os, rfl, fun _ => rfl⟩
  | v :: vs, o :: os, j + 1, w, a, h1, h2 => by
    obtain ⟨A, C, e1, e2⟩ := zip_at (vs := vs) (os := os) (j := j) (w := w) (a := a) (by simpa using h1) (by simpa using h2)
    exact ⟨.ov v o :: A, C, by show .ov v o :: zipI vs os = _; rw [e1]; rfl, fun a' => by show .ov v o :: zipI vs (os.set j a') = _; rw [e2]; rfl⟩
theorem pget_list : PGet X (rIxL X.K) := by
  intro pins s σ H x y v u Q I rx ry h
  obtain ⟨p, xs, i, z, rfl, rfl, hq, he, q⟩ := h
  cases rx
  obtain ⟨t, rfl⟩ := ry
  obtain ⟨its, r, pl, hz⟩ := I.list hq
  obtain ⟨j, h1, h2, h3, h4, h5⟩ := atI_get he
  obtain ⟨w, ew, rw'⟩ := r.get h2
  have hl := r.length
  have hn := line63
  have fin : EP X pins σ Q w s := ⟨z, H, I, rw', q⟩
  by_cases h0 : 0 ≤ i
  · have hj : i.toNat = j := by
      rw [seqIndex_of h0 h5] at h1
      exact Option.some.inj h1
    exact wpAny_getItem_list pl.isList h0 (by omega) (by rw [hj]; simpa using ew) fin
  · have hj : (i + (its.toArray.size : Int)).toNat = j := by
      rw [seqIndex_neg (by omega) h4] at h1
      rw [List.size_toArray, ← hl]
      exact Option.some.inj h1
    exact wpAny_getItem_list_neg pl.isList (by omega) (by rw [List.size_toArray] <;> omega) (by omega) (by rw [hj]; simpa using ew) fin
def ixL (a b : O) : Option O := match a, b with
  | .lst os, .val (.int i) => atI os i
  | _, _ => none
theorem opv_ixL : OpV K mg (rIxL K) ixL := by
  intro H L B x y ox oy o Q R hx hy e k
  unfold ixL at e
  split at e
  · rename_i os i
    have ey : y = .int i := R.shInt hy rfl
    obtain ⟨A, nd, ok, hb⟩ := id R
    obtain ⟨as, h1, h2⟩ := hb _ hx
    cases h1 with
    | lst h1 hs =>
      obtain ⟨j, v, e1, e2, e3⟩ := atI_len hs.length e
      refine ⟨_, _, i, v, rfl, ey, SqL.of h1, e3, k v H (Same.refl _) ⟨A, nd, ok, fun b q => ?_⟩⟩
      rcases List.mem_cons.mp q with q | q
      · subst q
        obtain ⟨bs, q1, q2⟩ := VOs.sub hs e1 e2
        exact ⟨bs, q1, fun a ha => h2 a (by simp [q2 a ha])⟩
      · exact hb b q
  · cases e
end
end FB

/-! Rules for simp: objects. -/
namespace FB
open PySem PySem.Spec L2
open PyProof.Rows hiding St
variable {ρ : Env}
def mkC (as : List Arg) (ρ : Env) : Option (O × Env) → Res O
  | some (.val .non, some o :: ρc) => .ok o (giveA as ρc ρ)
  | _ => .no
def mkB (c : Str) (F : FSem) (as : List Arg) : Option (List O × Env) → Res O
  | some r => mkC as r.2 (F (.ins c [] [] :: r.1))
  | none => .no
def mkA (c : Str) (F : FSem) (as : List Arg) : Res (List (Option O)) → Res O
  | .ok os ρ => mkB c F as (takeA as os ρ)
  | .exc x ρ => .exc x ρ
  | .no => .no
@[simp] theorem e_mMake (c : Str) (F : FSem) (as : List Arg) : mMake c F as ρ = mkA c F as (evA as ρ) := by
  unfold mMake mkA
  cases evA as ρ with
  | ok os ρ1 =>
    show (match takeA as os ρ1 with
      | none => Res.no
      | some r => match F (.ins c [] [] :: r.1) with
        | some (.val .non, some o :: ρc) => .ok o (giveA as ρc r.2)
        | _ => .no) = mkB c F as (takeA as os ρ1)
    unfold mkB
    cases takeA as os ρ1 with
    | none => rfl
    | some r => rfl
  | exc _ _ => rfl
  | no => rfl
@[simp] theorem e_mkA (c : Str) (F : FSem) (as : List Arg) (os : List (Option O)) : mkA c F as (.ok os ρ) = mkB c F as (takeA as os ρ) := (rfl)
@[simp] theorem e_mkB (c : Str) (F : FSem) (as : List Arg) (os : List O) : mkB c F as (some (os, ρ)) = mkC as ρ (F (.ins c [] [] :: os)) := (rfl)
@[simp] theorem e_mkC (as : List Arg) (o : O) (ρc : Env) : mkC as ρ (some (.val .non, some o :: ρc)) = .ok o (giveA as ρc ρ) := (rfl)
def sfB (i : Nat) (c f : Str) (u : O) (ρ : Env) : Option (Option O) → Res Fl
  | some (some (.ins c' ns os)) => if c' = c ∧ ns.length < 1000 then .ok .nx (ρ.set i (some (.ins c (putFO ns os f u).1 (putFO ns os f u).2))) else .no
  | _ => .no
def sfA (i : Nat) (c f : Str) : Res O → Res Fl
  | .ok u ρ => sfB i c f u ρ (ρ[i]?)
  | .exc x ρ => .exc x ρ
  | .no => .no
@[simp] theorem e_mSetF (i : Nat) (c f : Str) (m : M O) : mSetF i c f m ρ = sfA i c f (m ρ) := by
  unfold mSetF sfA
  cases m ρ <;> rfl
@[simp] theorem e_sfA (i : Nat) (c f : Str) (u : O) : sfA i c f (.ok u ρ) = sfB i c f u ρ (ρ[i]?) := (rfl)
theorem e_sfN (i : Nat) (c f : Str) (u : O) (ns : List Str) (os : List O) (hl : ns.length < 1000) (h : fidx ns f = none) : sfB i c f u ρ (some (some (.ins c ns os))) = .ok .nx (ρ.set i (some (.ins c (ns ++ [f]) (os ++ [u])))) := by
  unfold sfB putFO; simp [hl, h]
@[simp] theorem ixL_vO (ds : List D) (i : Int) : ixL (vO ds) (.val (.int i)) = (atI ds i).map O.val := vO_ix ds i
def enK : Res O → Res (List D)
  | .ok o ρ => match o.toD with
    | .lst ds => .ok (enumL ds) ρ
    | _ => .no
  | .exc x ρ => .exc x ρ
  | .no => .no
@[simp] theorem e_mEnum (m : M O) : mEnum m ρ = enK (m ρ) := by
  unfold mEnum enK
  cases m ρ <;> rfl
@[simp] theorem e_enK (ds : List D) : enK (.ok (.val (.lst ds)) ρ) = .ok (enumL ds) ρ := (rfl)
end FB

/-! A loop over an own list that stands meanwhile; isinstance as a reading. -/
namespace FB
open PySem PySem.Spec L2
open PyProof.Rows hiding St

section
variable {X : Cx} {K : PySem.W.Frag} {mg : Str → Option Value}
open Classical in
noncomputable def forK (i : Nat) (o : O) (a : D → Env → Option Env) (b : M Fl) : List D → M Fl
  | [] => fun ρ => if ρ[i]? = some (some o) then .ok .nx ρ else .no
  | d :: ds => fun ρ => if ρ[i]? = some (some o) then match a d ρ with
    | none => .no
    | some ρ1 => (b ρ1).bind fun f ρ2 => match f with
      | .nx => forK i o a b ds ρ2
      | .ct => forK i o a b ds ρ2
      | .brk => .ok .nx ρ2
      | .ret o => .ok (.ret o) ρ2
    else .no
noncomputable def mForL (i : Nat) (a : D → Env → Option Env) (b : M Fl) : M Fl := fun ρ => match ρ[i]? with
  | some (some o) => match o.sh with
    | some (.lst ds) => forK i o a b ds ρ
    | _ => .no
  | _ => .no
theorem Fix.less {i : Nat} {P : List Nat} {σ σ' : L2.St} (h : Fix (i :: P) σ σ') : Fix P σ σ' := ⟨h.1, fun j hj => h.2 j (List.mem_cons_of_mem _ hj)⟩
theorem slotAt {H : Hp} {T : List Item} {σ : L2.St} {ρ : Env} {i : Nat} {v : V} {o : O} {ds : List D} (hv : σ[i]? = some (some v)) (e : ρ[i]? = some (some o)) (es : o.sh = some (.lst ds)) (R : Rep K mg H (pairs σ ρ ++ T) []) :
    ∃ p vs, v = .ref p ∧ Rd H p (.lst vs) ∧ vs.length = ds.length ∧ ∀ (k : Nat) (x : V) (d : D), vs[k]? = some x → ds[k]? = some d → Rep K mg H (.ov x (.val d) :: (pairs σ ρ ++ T)) [] := by
  have pm := (pairs_take hv e).append_right T
  obtain ⟨p, vs, e1, h1, h2, R2⟩ := Rep.shL ((R.perm pm).lend) (List.mem_cons_self ..) es
  refine ⟨p, vs, e1, h1, h2, fun k x d q1 q2 => ?_⟩
  have R3 := (R2.nob.nth q1 q2).keep
  exact R3.perm (List.Perm.cons _ pm.symm)
theorem ss_forL (i : Nat) {P : List Nat} {x : Str} {p pos : Pos} {tg : Expr} {body : List Stmt} {a : D → Env → Option Env} {b : M Fl} (ok : CxOk X) (hp : PassesOwn (model X.prog X.w) X.A X.env X.xe) (hg : SG X (Fix (i :: P)) tg a) (hb : SSs X (i :: P) body b)
    (hN : X.N[i]? = some x := by rfl) (hv : Vis X.env.scope x := by first | exact Or.inl rfl | exact Or.inr (Or.inl rfl) | exact Or.inr (Or.inr rfl)) (hd : (x == ("__debug__" : Str)) = false := by decide) (hcd : (x == ("__classdict__" : Str)) = false := by decide)
    (hs : ∀ y, foldedSetIterable (.Name x p) X.env y = pure y := by intro _; rfl) : SS X P (.For tg (.Name x p) body [] pos) (mForL i a b) :=
  PS.imp (ps_for hp ok.calm (pi_list (pv i hN hv hd hcd)) hg hb hs) fun D σ H w => by
    obtain ⟨ρ, T, cv, R, h⟩ := tS_iff.mp w
    unfold mForL at h
    split at h
    · rename_i o e0
      split at h
      · rename_i ds es
        obtain ⟨v, hv⟩ := cv.ex i _ e0
        obtain ⟨q, vs0, rfl, hq, hl0, _⟩ := slotAt hv e0 es R
        refine ⟨_, hv, q, rfl, ⟨vs0, .inl hq⟩, ?_⟩
        let W : Nat → L2.St → Hp → Prop := fun k σ' H' => ∃ ρ', k ≤ ds.length ∧ Fix (i :: P) σ σ' ∧ Cov σ' ρ' ∧ Rep X.K X.mg H' (pairs σ' ρ' ++ T) [] ∧ Post X.K X.mg P T D σ (forK i o a b (ds.drop k) ρ')
        refine ⟨fun k n σ' H' => n = ds.length - k ∧ W k σ' H', ⟨ds.length, by simp, ρ, Nat.zero_le _, Fix.refl _ _, cv, R, h⟩, ?_⟩
        rintro k n σ1 H1 ⟨rfl, ρ2, hk, f1, c1, R1, h1⟩
        have hv1 : σ1[i]? = some (some (.ref q)) := (f1.2 i (List.mem_cons_self ..)).trans hv
        by_cases hlt : k < ds.length
        · rw [drop_cons hlt] at h1
          unfold forK at h1
          by_cases e3 : ρ2[i]? = some (some o)
          · rw [if_pos e3] at h1
            obtain ⟨q', vs, eq, hq1, hl1, hit⟩ := slotAt hv1 e3 es R1
            cases eq
            have hkv : k < vs.length := by omega
            have hd : ds[k]? = some ds[k] := by simp [hlt]
            refine .inr ⟨⟨vs, vs[k], .inl hq1, by simp [hkv]⟩, fun σ' H' => W (k + 1) σ' H', fun σ' H' z => ⟨ds.length - (k + 1), by omega, rfl, z⟩, fun y H2 hy => ?_⟩
            obtain ⟨rfl, hy⟩ := hy
            have R2 := hit k y ds[k] (hy vs (.inl hq1)) hd
            have h1 : Post X.K X.mg P T D σ (match a ds[k] ρ2 with
              | none => .no
              | some ρ1 => (b ρ1).bind fun f ρ2 => match f with
                | .nx => forK i o a b (ds.drop (k + 1)) ρ2
                | .ct => forK i o a b (ds.drop (k + 1)) ρ2
                | .brk => .ok .nx ρ2
                | .ret o => .ok (.ret o) ρ2) := h1
            cases e4 : a ds[k] ρ2 with
            | none => rw [e4] at h1; exact h1.elim
            | some ρ3 =>
              rw [e4] at h1
              refine ⟨ρ2, T, ds[k], ρ3, c1, R2, e4, fun σ3 f3 c3 R3 => ?_⟩
              refine tS_iff.mpr ⟨ρ3, T, c3, R3, ?_⟩
              have h1 : Post X.K X.mg P T D σ ((b ρ3).bind fun f ρ2 => match f with
                | .nx => forK i o a b (ds.drop (k + 1)) ρ2
                | .ct => forK i o a b (ds.drop (k + 1)) ρ2
                | .brk => .ok .nx ρ2
                | .ret o => .ok (.ret o) ρ2) := h1
              cases e5 : b ρ3 with
              | exc z ρ4 => rw [e5] at h1; exact h1.elim
              | no => rw [e5] at h1; exact h1.elim
              | ok fl ρ4 =>
                rw [e5] at h1
                cases fl with
                | nx => exact fun σ' H' f' c' R' => ⟨ρ4, hlt, f1.trans (f3.trans f'), c', R', h1⟩
                | ct => exact fun σ' H' f' c' R' => ⟨ρ4, hlt, f1.trans (f3.trans f'), c', R', h1⟩
                | brk => exact fun σ' H' f' c' R' => h1 σ' H' (f1.trans (f3.trans f')).less c' R'
                | ret o => exact fun v σ' H' f' c' R' => h1 v σ' H' (f1.trans (f3.trans f')).less c' R'
          · rw [if_neg e3] at h1; exact h1.elim
        · have e : k = ds.length := by omega
          subst e
          rw [List.drop_length] at h1
          unfold forK at h1
          by_cases e3 : ρ2[i]? = some (some o)
          · rw [if_pos e3] at h1
            obtain ⟨q', vs, eq, hq1, hl1, hit⟩ := slotAt hv1 e3 es R1
            cases eq
            exact .inl ⟨⟨vs, .inl hq1, by omega⟩, h1 σ1 H1 f1.less c1 R1⟩
          · rw [if_neg e3] at h1; exact h1.elim
      · exact h.elim
    · exact h.elim
/-- an argument is shared from now on -/
def mFz (m : M O) : M O := fun ρ => (m ρ).bind fun o ρ1 => .ok (.val o.toD) ρ1
theorem se_fz {e : Expr} {m : M O} (h : SE X e m) : SE X e (mFz m) := PE.imp h fun σ H Q w => by
  obtain ⟨ρ, T, o, ρ', c, R, e, k⟩ := w
  obtain ⟨a, ρ1, e1, e⟩ := Res.bind_eq e
  cases e
  exact ⟨ρ, T, a, _, c, R, e1, fun v H' c' R' => k v H' c' R'.frz⟩
end
def fzK : Res O → Res O
  | .ok o ρ => .ok (.val o.toD) ρ
  | .exc x ρ => .exc x ρ
  | .no => .no
@[simp] theorem e_mFz {ρ : Env} (m : M O) : mFz m ρ = fzK (m ρ) := by unfold mFz fzK; cases m ρ <;> rfl
@[simp] theorem e_fzK {ρ : Env} (o : O) : fzK (.ok o ρ) = .ok (.val o.toD) ρ := (rfl)
end FB

/-! zip of any two of lists and tuples. -/
namespace MZ
open PySem PySem.Sem
/-- u: a list, else a tuple -/
def CSeq (u : Bool) (h : Heap) (l : Addr) (xs : Array Value) : Prop := if u = true then h.IsList l xs else h.IsTuple l xs
def CIt (u : Bool) (h : Heap) (it l : Addr) (k : Nat) : Prop := if u = true then h.IsListIter it l k else h.IsTupleIter it l k
theorem CSeq.ext {u : Bool} {h h' : Heap} {l b : Addr} {xs : Array Value} (x : CSeq u h l xs) (q : Heap.ExtBut b h h') (n : l ≠ b) : CSeq u h' l xs := by
  cases u with
  | true => exact Heap.IsList.extBut (show h.IsList l xs from x) q n
  | false => exact Heap.IsTuple.extBut (show h.IsTuple l xs from x) q n
theorem CIt.ext {u : Bool} {h h' : Heap} {it l b : Addr} {k : Nat} (x : CIt u h it l k) (q : Heap.ExtBut b h h') (n : it ≠ b) : CIt u h' it l k := by
  cases u with
  | true => exact Heap.IsListIter.extBut (show h.IsListIter it l k from x) q n
  | false => exact Heap.IsTupleIter.extBut (show h.IsTupleIter it l k from x) q n
theorem CIt.move {u : Bool} {h h' : Heap} {it l : Addr} {k : Nat} (x : CIt u h it l k) (q : ∀ o, h.get? it = some o → h'.get? it = some o) : CIt u h' it l k := by
  cases u with
  | true => exact Heap.IsListIter.at (show h.IsListIter it l k from x) q
  | false => exact Heap.IsTupleIter.at (show h.IsTupleIter it l k from x) q
theorem CIt.some {u : Bool} {h : Heap} {it l : Addr} {k : Nat} (x : CIt u h it l k) : ∃ o, h.get? it = some o ∧ ∀ v, o.data ≠ .cell v := by
  cases u with
  | true =>
    obtain ⟨o, e, _, d⟩ := show h.IsListIter it l k from x
    exact ⟨o, e, fun v q => by rw [d] at q; cases q⟩
  | false =>
    obtain ⟨o, e, _, d⟩ := show h.IsTupleIter it l k from x
    exact ⟨o, e, fun v q => by rw [d] at q; cases q⟩
section
variable {prog : Program} {w : World} {A : Around} {E : Value → Shared → Prop} {s : Shared}
theorem nx_item {u : Bool} {it l : Addr} {k : Nat} {xs : Array Value} {x : Value} {Q : Value → Shared → Prop} (ci : CIt u s.heap it l k) (cs : CSeq u s.heap l xs) (hx : xs[k]? = some x)
    (hQ : ∀ h', CIt u h' it l (k + 1) → Heap.SameBut it s.heap h' → Q x { s with heap := h' }) : wpAny (model prog w) A (Builtin.SmallTypes.nextOf (.ref it)) Q E s := by
  cases u with
  | true => exact wpAny_nextOf_list_item ci cs hx hQ
  | false => exact RZ.nextOf_tuple_item ci cs hx hQ
theorem nx_end {u : Bool} {it l : Addr} {k : Nat} {xs : Array Value} {Q : Value → Shared → Prop} (hh : A.handled = none) (ci : CIt u s.heap it l k) (cs : CSeq u s.heap l xs) (hx : xs[k]? = none)
    (hE : ∀ h' e, Heap.ExtBut it s.heap h' → (∃ o, h'.get? e = some o ∧ o.cls = .type "StopIteration") → E (.ref e) { s with heap := h' }) : wpAny (model prog w) A (Builtin.SmallTypes.nextOf (.ref it)) Q E s := by
  cases u with
  | true => exact wpAny_nextOf_list_end hh ci cs hx hE
  | false => exact RZ.nextOf_tuple_end hh ci cs hx hE
/-- all but the four stand -/
def Stay (z TO i j : Addr) (h h' : Heap) : Prop := ∀ c o, c ≠ z → c ≠ TO → c ≠ i → c ≠ j → h.get? c = some o → h'.get? c = some o
variable {u1 u2 : Bool} {z TI TO i j l m : Addr} {k n : Nat} {xs ys : Array Value} {x y a b : Value}
theorem step_item {Q : Value → Shared → Prop} (D : ZipApart z TI TO i j l m) (Z : IsZip s.heap z TI TO .none) (PI : IsPair s.heap TI (.ref i) (.ref j)) (PO : IsPair s.heap TO a b)
    (c1 : CIt u1 s.heap i l k) (c2 : CIt u2 s.heap j m n) (q1 : CSeq u1 s.heap l xs) (q2 : CSeq u2 s.heap m ys) (hx : xs[k]? = some x) (hy : ys[n]? = some y)
    (fin : ∀ h', IsZip h' z TI TO (rawInt s.heap.objs.size) → IsPair h' TO x y → CIt u1 h' i l (k + 1) → CIt u2 h' j m (n + 1) → IsPair h' s.heap.objs.size x y → h'.objs.size = s.heap.objs.size + 1 →
      Stay z TO i j s.heap h' → Q (.ref s.heap.objs.size) { s with heap := h' }) :
    wpAny (model prog w) A (Builtin.«zip.__next__» ⟨[.ref z], []⟩) (fun r s' => ∃ v, r = .done (.ret v) ∧ Q v s') E s := by
  show wpAny _ _ (field (.ref z) 2 >>= _) _ _ _
  refine wpAny_bind (wpAny_field Z rfl (x := .bool false) rfl ?_)
  show wpAny _ _ (field (.ref z) 3 >>= _) _ _ _
  refine wpAny_bind (wpAny_field Z rfl (x := .ref TI) rfl ?_)
  refine wpAny_bind (wpAny_seqItems PI rfl ?_)
  show wpAny _ _ (Builtin.SmallTypes.ownedTupleIsFree (.ref z) >>= _) _ _ _
  refine wpAny_bind ?_
  unfold Builtin.SmallTypes.ownedTupleIsFree
  refine wpAny_bind (wpAny_field Z rfl (x := .none) rfl (wpAny_pure ?_))
  simp only [if_true]
  refine wpAny_bind (wpAny_rule ?_)
  refine wpAny_bind (wpAny_field Z rfl (x := .ref TO) rfl ?_)
  refine wpAny_bind (wpAny_setField_rec Z (by simp) fun ha Za sa => ?_)
  have Za : IsZip ha z TI TO .ellipsis := Za
  refine wpAny_bind ?_
  simp only [List.zipIdx_cons, List.zipIdx_nil, List.forIn_cons, List.forIn_nil]
  refine wpAny_bind (wpAny_bind (wpAny_onRaise ?_))
  show wpAny _ _ (Builtin.SmallTypes.nextOf (.ref i) >>= _) _ _ _
  refine wpAny_bind (nx_item (c1.ext sa.extBut D.i1z) (q1.ext sa.extBut D.l1z) hx fun hb c1b sb => wpAny_pure ?_)
  have POb : IsPair hb TO a b := sb.extBut _ _ D.TOi1 (sa.extBut _ _ D.TOz PO)
  refine wpAny_bind (wpAny_seqItems POb rfl ?_)
  refine wpAny_bind (wpAny_updateSeq_pair POb fun hc POc sc => ?_)
  have POc : IsPair hc TO x b := POc
  refine wpAny_bind (wpAny_letGo (wpAny_pure ?_))
  refine wpAny_bind (wpAny_bind (wpAny_onRaise ?_))
  show wpAny _ _ (Builtin.SmallTypes.nextOf (.ref j) >>= _) _ _ _
  have c2c : CIt u2 hc j m n := ((c2.ext sa.extBut D.i2z).ext sb.extBut D.i12.symm).ext sc.extBut D.TOi2.symm
  have q2c : CSeq u2 hc m ys := ((q2.ext sa.extBut D.l2z).ext sb.extBut D.l2i1).ext sc.extBut D.l2TO
  refine wpAny_bind (nx_item c2c q2c hy fun hd c2d sd => wpAny_pure ?_)
  have POd : IsPair hd TO x b := sd.extBut _ _ D.TOi2 POc
  refine wpAny_bind (wpAny_seqItems POd rfl ?_)
  refine wpAny_bind (wpAny_updateSeq_pair POd fun he POe se => ?_)
  have POe : IsPair he TO x y := POe
  refine wpAny_bind (wpAny_letGo (wpAny_pure (wpAny_pure ?_)))
  refine wpAny_bind (wpAny_seqItems POe rfl ?_)
  refine wpAny_bind (wpAny_newTuple ?_)
  have sz : he.objs.size = s.heap.objs.size := by rw [se.1, sd.1, sc.1, sb.1, sa.1]
  have Ze : IsZip he z TI TO .ellipsis := se.extBut _ _ D.TOz.symm (sd.extBut _ _ D.i2z.symm (sc.extBut _ _ D.TOz.symm (sb.extBut _ _ D.i1z.symm Za)))
  have ke : Stay z TO i j s.heap he := fun c o d1 d2 d3 d4 e => se.extBut _ _ d2 (sd.extBut _ _ d4 (sc.extBut _ _ d2 (sb.extBut _ _ d3 (sa.extBut _ _ d1 e))))
  have c1e : CIt u1 he i l (k + 1) := ((c1b.ext sc.extBut D.TOi1.symm).ext sd.extBut D.i12).ext se.extBut D.TOi1.symm
  have c2e : CIt u2 he j m (n + 1) := c2d.ext se.extBut D.TOi2.symm
  have zlt : z < he.objs.size := Heap.lt_size Ze
  show wpAny _ _ (Builtin.SmallTypes.ownedTupleHandOut (.ref z) (.ref he.objs.size) >>= _) _ _ _
  refine wpAny_bind ?_
  unfold Builtin.SmallTypes.ownedTupleHandOut
  have Zf : IsZip (he.push { cls := .type "tuple", data := .seq #[x, y] }) z TI TO .ellipsis := Heap.get?_push_of_some _ Ze
  refine wpAny_bind (wpAny_setField_rec Zf (by simp) fun hg Zg sg => ?_)
  have Zg : IsZip hg z TI TO (rawInt he.objs.size) := Zg
  refine wpAny_setField_rec Zg (by simp) fun hk Zk sk => ?_
  have Zk : IsZip hk z TI TO (rawInt he.objs.size) := Zk
  have up : ∀ c o, c ≠ z → he.get? c = some o → hk.get? c = some o := fun c o d e => sk.extBut _ _ d (sg.extBut _ _ d (Heap.get?_push_of_some _ e))
  have Pk : IsPair hk he.objs.size x y := sk.extBut _ _ (Nat.ne_of_gt zlt) (sg.extBut _ _ (Nat.ne_of_gt zlt) (Heap.get?_push_size _ rfl))
  have sk2 : hk.objs.size = he.objs.size + 1 := by rw [sk.1, sg.1, Heap.size_push]
  rw [sz] at Zk Pk sk2
  refine wpAny_pure ⟨_, rfl, ?_⟩
  show Q (.ref he.objs.size) _
  rw [sz]
  exact fin hk Zk (up _ _ D.TOz POe) (c1e.move fun o e => up _ o D.i1z e) (c2e.move fun o e => up _ o D.i2z e) Pk sk2 fun c o d1 d2 d3 d4 e => up c o d1 (ke c o d1 d2 d3 d4 e)
theorem step_end {Q : Fin → Shared → Prop} (hh : A.handled = none) (D : ZipApart z TI TO i j l m) (Z : IsZip s.heap z TI TO .none) (PI : IsPair s.heap TI (.ref i) (.ref j)) (PO : IsPair s.heap TO a b)
    (c1 : CIt u1 s.heap i l k) (c2 : CIt u2 s.heap j m n) (q1 : CSeq u1 s.heap l xs) (q2 : CSeq u2 s.heap m ys) (hend : xs[k]? = none ∨ ys[n]? = none)
    (fin : ∀ h' e, Stay z TO i j s.heap h' → (∃ o, h'.get? e = some o ∧ o.cls = .type "StopIteration") → E (.ref e) { s with heap := h' }) : wpAny (model prog w) A (Builtin.«zip.__next__» ⟨[.ref z], []⟩) Q E s := by
  show wpAny _ _ (field (.ref z) 2 >>= _) _ _ _
  refine wpAny_bind (wpAny_field Z rfl (x := .bool false) rfl ?_)
  show wpAny _ _ (field (.ref z) 3 >>= _) _ _ _
  refine wpAny_bind (wpAny_field Z rfl (x := .ref TI) rfl ?_)
  refine wpAny_bind (wpAny_seqItems PI rfl ?_)
  show wpAny _ _ (Builtin.SmallTypes.ownedTupleIsFree (.ref z) >>= _) _ _ _
  refine wpAny_bind ?_
  unfold Builtin.SmallTypes.ownedTupleIsFree
  refine wpAny_bind (wpAny_field Z rfl (x := .none) rfl (wpAny_pure ?_))
  simp only [if_true]
  refine wpAny_bind (wpAny_rule ?_)
  refine wpAny_bind (wpAny_field Z rfl (x := .ref TO) rfl ?_)
  refine wpAny_bind (wpAny_setField_rec Z (by simp) fun ha Za sa => ?_)
  have Za : IsZip ha z TI TO .ellipsis := Za
  refine wpAny_bind ?_
  simp only [List.zipIdx_cons, List.zipIdx_nil, List.forIn_cons, List.forIn_nil]
  refine wpAny_bind (wpAny_bind (wpAny_onRaise ?_))
  show wpAny _ _ (Builtin.SmallTypes.nextOf (.ref i) >>= _) _ _ _
  cases hx : xs[k]? with
  | none =>
    refine wpAny_bind (nx_end hh (c1.ext sa.extBut D.i1z) (q1.ext sa.extBut D.l1z) hx fun hb e sb st => ?_)
    obtain ⟨oe, g, ce⟩ := st
    have Zb : IsZip hb z TI TO .ellipsis := sb _ _ D.i1z.symm Za
    have nz : e ≠ z := fun t => by subst t; rw [Zb] at g; cases g; simp at ce
    refine wpAny_setField_rec Zb (by simp) fun hc _ sc => fin hc e (fun c o d1 _ d3 _ t => sc.extBut _ _ d1 (sb _ _ d3 (sa.extBut _ _ d1 t))) ⟨oe, sc.extBut _ _ nz g, ce⟩
  | some x =>
    have hy : ys[n]? = none := by
      rcases hend with t | t
      · rw [hx] at t; cases t
      · exact t
    refine wpAny_bind (nx_item (c1.ext sa.extBut D.i1z) (q1.ext sa.extBut D.l1z) hx fun hb c1b sb => wpAny_pure ?_)
    have POb : IsPair hb TO a b := sb.extBut _ _ D.TOi1 (sa.extBut _ _ D.TOz PO)
    refine wpAny_bind (wpAny_seqItems POb rfl ?_)
    refine wpAny_bind (wpAny_updateSeq_pair POb fun hc POc sc => ?_)
    refine wpAny_bind (wpAny_letGo (wpAny_pure ?_))
    refine wpAny_bind (wpAny_bind (wpAny_onRaise ?_))
    show wpAny _ _ (Builtin.SmallTypes.nextOf (.ref j) >>= _) _ _ _
    have c2c : CIt u2 hc j m n := ((c2.ext sa.extBut D.i2z).ext sb.extBut D.i12.symm).ext sc.extBut D.TOi2.symm
    have q2c : CSeq u2 hc m ys := ((q2.ext sa.extBut D.l2z).ext sb.extBut D.l2i1).ext sc.extBut D.l2TO
    refine wpAny_bind (nx_end hh c2c q2c hy fun hd e sd st => ?_)
    obtain ⟨oe, g, ce⟩ := st
    have Zd : IsZip hd z TI TO .ellipsis := sd _ _ D.i2z.symm (sc.extBut _ _ D.TOz.symm (sb.extBut _ _ D.i1z.symm Za))
    have nz : e ≠ z := fun t => by subst t; rw [Zd] at g; cases g; simp at ce
    refine wpAny_setField_rec Zd (by simp) fun he _ se => fin he e (fun c o d1 d2 d3 d4 t => se.extBut _ _ d1 (sd _ _ d4 (sc.extBut _ _ d2 (sb.extBut _ _ d3 (sa.extBut _ _ d1 t))))) ⟨oe, se.extBut _ _ nz g, ce⟩
theorem py_item {Q : Option Value → Shared → Prop} (D : ZipApart z TI TO i j l m) (Z : IsZip s.heap z TI TO .none) (PI : IsPair s.heap TI (.ref i) (.ref j)) (PO : IsPair s.heap TO a b)
    (c1 : CIt u1 s.heap i l k) (c2 : CIt u2 s.heap j m n) (q1 : CSeq u1 s.heap l xs) (q2 : CSeq u2 s.heap m ys) (hx : xs[k]? = some x) (hy : ys[n]? = some y)
    (fin : ∀ h', IsZip h' z TI TO (rawInt s.heap.objs.size) → IsPair h' TO x y → CIt u1 h' i l (k + 1) → CIt u2 h' j m (n + 1) → IsPair h' s.heap.objs.size x y → h'.objs.size = s.heap.objs.size + 1 →
      Stay z TO i j s.heap h' → Q (some (.ref s.heap.objs.size)) { s with heap := h' }) : wpAny (model prog w) A (pyNext (.ref z)) Q E s := by
  have ty : s.TypeIs (.ref z) "zip" := ⟨_, Z, rfl⟩
  unfold pyNext
  refine wpAny_bind (wpAny_attempt (wpAny_callSpecial?_slot (name := Str.ofString "__next__") ty F.slot_zip_next (wpAny_call_entry F.slot_zip_next ty F.entry_zip_next ?_ (F.args_zip_next_1 _))))
  exact step_item D Z PI PO c1 c2 q1 q2 hx hy fun h' t1 t2 t3 t4 t5 t6 t7 => wpAny_pure (fin h' t1 t2 t3 t4 t5 t6 t7)
theorem py_end {Q : Option Value → Shared → Prop} (hh : A.handled = none) (D : ZipApart z TI TO i j l m) (Z : IsZip s.heap z TI TO .none) (PI : IsPair s.heap TI (.ref i) (.ref j)) (PO : IsPair s.heap TO a b)
    (c1 : CIt u1 s.heap i l k) (c2 : CIt u2 s.heap j m n) (q1 : CSeq u1 s.heap l xs) (q2 : CSeq u2 s.heap m ys) (hend : xs[k]? = none ∨ ys[n]? = none)
    (fin : ∀ h', Stay z TO i j s.heap h' → Q none { s with heap := h' }) : wpAny (model prog w) A (pyNext (.ref z)) Q E s := by
  have ty : s.TypeIs (.ref z) "zip" := ⟨_, Z, rfl⟩
  unfold pyNext
  refine wpAny_bind (wpAny_attempt (wpAny_callSpecial?_slot (name := Str.ofString "__next__") ty F.slot_zip_next (wpAny_call_entry F.slot_zip_next ty F.entry_zip_next ?_ (F.args_zip_next_1 _))))
  refine step_end hh D Z PI PO c1 c2 q1 q2 hend fun h' e st he => ?_
  obtain ⟨o, g, ce⟩ := he
  refine wpAny_bind (wpAny_isInstance (T := "StopIteration") (b := true) ⟨o, g, ce⟩ isSubtype_stop ?_)
  exact wpAny_pure (fin _ st)
end
/-! ### it is made -/
def itObj (u : Bool) (l : Addr) : Obj := { cls := .type (if u = true then "list_iterator" else "tuple_iterator"), data := .fields #[.ref l, .int 0 0] }
abbrev m1 (u1 : Bool) (h : Heap) (l : Addr) : Heap := h.push (itObj u1 l)
abbrev m2 (u1 u2 : Bool) (h : Heap) (l m : Addr) : Heap := (m1 u1 h l).push (itObj u2 m)
abbrev m3 (u1 u2 : Bool) (h : Heap) (l m : Addr) : Heap := (m2 u1 u2 h l m).push { cls := .type "tuple", data := .seq #[.ref h.objs.size, .ref (m1 u1 h l).objs.size] }
abbrev m4 (u1 u2 : Bool) (h : Heap) (l m : Addr) : Heap := (m3 u1 u2 h l m).push { cls := .type "tuple", data := .seq #[.none, .none] }
abbrev m5 (u1 u2 : Bool) (h : Heap) (l m : Addr) : Heap := (m4 u1 u2 h l m).push { cls := .type "zip", data := .fields #[.none, .bool false, .bool false, .ref (m2 u1 u2 h l m).objs.size, .ref (m3 u1 u2 h l m).objs.size] }
theorem CSeq.push {u : Bool} {h : Heap} {l : Addr} {xs : Array Value} (q : CSeq u h l xs) (o : Obj) : CSeq u (h.push o) l xs := by
  cases u with
  | true => exact Heap.IsList.push (show h.IsList l xs from q) o
  | false => exact Heap.IsTuple.push (show h.IsTuple l xs from q) o
set_option maxHeartbeats 1000000 in
theorem meets_lt (l m : Addr) (xs ys : Array Value) :
    Meets (Builtin.«zip.__new__» ⟨[.type "zip", .ref l, .ref m], []⟩) (fun _ R s => s.heap.IsList l xs ∧ s.heap.IsTuple m ys ∧ R (.ok (.ret (.ref (m4 true false s.heap l m).objs.size))) { s with heap := m5 true false s.heap l m }) :=
  .of_wp fun prog w A R s t => by
    obtain ⟨hp, g, d, tk, os⟩ := s
    obtain ⟨q1, q2, t⟩ := t
    have hsub := sub_zip
    have L1 : Heap.IsList (Shared.heap ⟨hp, g, d, tk, os⟩) l xs := q1
    have L2 : Heap.IsTuple (Shared.heap ⟨hp.push { cls := .type "list_iterator", data := .fields #[.ref l, .int 0 0] }, g, d, tk, os⟩) m ys := Heap.IsTuple.push q2 _
    wp_walk using wpAny_pyIter_list L1, wpAny_pyIter_tuple L2
    exact ⟨_, rfl, t⟩
set_option maxHeartbeats 1000000 in
theorem meets_tl (l m : Addr) (xs ys : Array Value) :
    Meets (Builtin.«zip.__new__» ⟨[.type "zip", .ref l, .ref m], []⟩) (fun _ R s => s.heap.IsTuple l xs ∧ s.heap.IsList m ys ∧ R (.ok (.ret (.ref (m4 false true s.heap l m).objs.size))) { s with heap := m5 false true s.heap l m }) :=
  .of_wp fun prog w A R s t => by
    obtain ⟨hp, g, d, tk, os⟩ := s
    obtain ⟨q1, q2, t⟩ := t
    have hsub := sub_zip
    have L1 : Heap.IsTuple (Shared.heap ⟨hp, g, d, tk, os⟩) l xs := q1
    have L2 : Heap.IsList (Shared.heap ⟨hp.push { cls := .type "tuple_iterator", data := .fields #[.ref l, .int 0 0] }, g, d, tk, os⟩) m ys := Heap.IsList.push q2 _
    wp_walk using wpAny_pyIter_tuple L1, wpAny_pyIter_list L2
    exact ⟨_, rfl, t⟩
theorem meets_mix (u1 u2 : Bool) (l m : Addr) (xs ys : Array Value) :
    Meets (Builtin.«zip.__new__» ⟨[.type "zip", .ref l, .ref m], []⟩) (fun _ R s => CSeq u1 s.heap l xs ∧ CSeq u2 s.heap m ys ∧ R (.ok (.ret (.ref (m4 u1 u2 s.heap l m).objs.size))) { s with heap := m5 u1 u2 s.heap l m }) := by
  cases u1 <;> cases u2
  · exact RZ.meets_zipT_new l m xs ys
  · exact meets_tl l m xs ys
  · exact meets_lt l m xs ys
  · exact meets_zip_new l m xs ys
theorem cit_obj {u : Bool} {h : Heap} {it l : Addr} (e : h.get? it = some (itObj u l)) : CIt u h it l 0 := by
  cases u with
  | true => exact ⟨_, e, rfl, rfl⟩
  | false => exact ⟨_, e, rfl, rfl⟩
theorem call_mix {prog : Program} {w : World} {A : Around} {E : Value → Shared → Prop} {s : Shared} {u1 u2 : Bool} {l m : Addr} {xs ys : Array Value} {Q : Value → Shared → Prop} (q1 : CSeq u1 s.heap l xs) (q2 : CSeq u2 s.heap m ys)
    (fin : ∀ h', IsZip h' (s.heap.objs.size + 4) (s.heap.objs.size + 2) (s.heap.objs.size + 3) .none → IsPair h' (s.heap.objs.size + 2) (.ref s.heap.objs.size) (.ref (s.heap.objs.size + 1)) →
      IsPair h' (s.heap.objs.size + 3) .none .none → CIt u1 h' s.heap.objs.size l 0 → CIt u2 h' (s.heap.objs.size + 1) m 0 → (∀ c o, s.heap.get? c = some o → h'.get? c = some o) → Q (.ref (s.heap.objs.size + 4)) { s with heap := h' }) :
    wpAny (model prog w) A (call (.type "zip") [.ref l, .ref m]) Q E s := by
  refine callType_new F.called_zip (by decide) (F.typeCall_zip_2 _ _) (F.newCall_zip_2 _ _) (fun o => F.args_object_init_3 o _ _) F.entry_zip_new (meets_mix u1 u2 l m xs ys) ⟨q1, q2, ?_⟩
  have n1 : (m1 u1 s.heap l).objs.size = s.heap.objs.size + 1 := Heap.size_push ..
  have n2 : (m2 u1 u2 s.heap l m).objs.size = s.heap.objs.size + 2 := by rw [Heap.size_push, n1]
  have n3 : (m3 u1 u2 s.heap l m).objs.size = s.heap.objs.size + 3 := by rw [Heap.size_push, n2]
  have n4 : (m4 u1 u2 s.heap l m).objs.size = s.heap.objs.size + 4 := by rw [Heap.size_push, n3]
  have e5 : (m5 u1 u2 s.heap l m).get? (m4 u1 u2 s.heap l m).objs.size = some _ := Heap.get?_push_size _ rfl
  have e4 : (m5 u1 u2 s.heap l m).get? (m3 u1 u2 s.heap l m).objs.size = some _ := Heap.get?_push_of_some _ (Heap.get?_push_size _ rfl)
  have up3 : ∀ {c o}, (m3 u1 u2 s.heap l m).get? c = some o → (m5 u1 u2 s.heap l m).get? c = some o := fun e => Heap.get?_push_of_some _ (Heap.get?_push_of_some _ e)
  have up1 : ∀ {c o}, (m1 u1 s.heap l).get? c = some o → (m5 u1 u2 s.heap l m).get? c = some o := fun e => up3 (Heap.get?_push_of_some _ (Heap.get?_push_of_some _ e))
  have e3 : (m5 u1 u2 s.heap l m).get? (m2 u1 u2 s.heap l m).objs.size = some _ := up3 (Heap.get?_push_size _ rfl)
  have e2 : (m5 u1 u2 s.heap l m).get? (m1 u1 s.heap l).objs.size = some (itObj u2 m) := up3 (Heap.get?_push_of_some _ (Heap.get?_push_size _ (by cases u2 <;> rfl)))
  have e1 : (m5 u1 u2 s.heap l m).get? s.heap.objs.size = some (itObj u1 l) := up1 (Heap.get?_push_size _ (by cases u1 <;> rfl))
  show _ ∧ _
  rw [n2, n3, n4] at e5
  rw [n1, n2] at e3
  rw [n3] at e4
  rw [n1] at e2
  rw [n4]
  exact ⟨⟨_, e5, rfl⟩, fin _ e5 e3 e4 (cit_obj e1) (cit_obj e2) fun c o t => up1 (Heap.get?_push_of_some _ t)⟩
end MZ
namespace MZ
open PySem PySem.Spec L2
open PyProof.Rows hiding St
def SqC (K : PySem.W.Frag) (u : Bool) (H : Hp) (a : Addr) (xs : List V) : Prop := if u = true then SqL K H a xs else SqT K H a xs
theorem SqC.its {X : Cx} {pins : List (Addr × Obj)} {σ : L2.St} {H : Hp} {s : Shared} {u : Bool} {a : Addr} {xs : List V} (I : Inv X pins σ H s) (q : SqC X.K u H a xs) : ∃ its : List Value, Vals xs its ∧ CSeq u s.heap a its.toArray ∧ a < s.heap.objs.size := by
  cases u with
  | true =>
    obtain ⟨its, r, p, _⟩ := I.list (show SqL X.K H a xs from q)
    exact ⟨its, r, p.isList, p.lt⟩
  | false =>
    obtain ⟨its, r, p, _⟩ := I.tuple (show SqT X.K H a xs from q)
    obtain ⟨o, e, _⟩ := id p
    exact ⟨its, r, show s.heap.IsTuple a its.toArray from p, Heap.lt_size e⟩
theorem SqC.inj {X : Cx} {pins : List (Addr × Obj)} {σ : L2.St} {H : Hp} {s : Shared} {u : Bool} {a : Addr} {xs ys : List V} (I : Inv X pins σ H s) (q : SqC X.K u H a xs) (q' : SqC X.K u H a ys) : xs = ys := by
  cases u with
  | true => exact I.list_inj q q'
  | false => exact I.tuple_inj q q'
/-- pairs of the things at a and b -/
def ItM (K : PySem.W.Frag) (u1 u2 : Bool) (a b : Addr) : It :=
  ⟨fun i H => ∃ (xs ys : List V) (x y : V), SqC K u1 H a xs ∧ SqC K u2 H b ys ∧ xs[i]? = some x ∧ ys[i]? = some y,
    fun i H v H' => ∃ T x y, v = .ref T ∧ H T = none ∧ H' = upd H T (.tup [x, y]) ∧ (∀ xs, SqC K u1 H a xs → xs[i]? = some x) ∧ ∀ ys, SqC K u2 H b ys → ys[i]? = some y,
    fun i H => ∃ xs ys : List V, SqC K u1 H a xs ∧ SqC K u2 H b ys ∧ (xs.length ≤ i ∨ ys.length ≤ i)⟩
def St5 (u1 u2 : Bool) (z TI TO i j a b : Addr) (k : Nat) (h : Heap) : Prop := IsZip h z TI TO .none ∧ IsPair h TI (.ref i) (.ref j) ∧ (∃ x y, IsPair h TO x y) ∧ CIt u1 h i a k ∧ CIt u2 h j b k
theorem mem5 {c z TI TO i j : Addr} (h : c ∈ [z, TI, TO, i, j]) : c = z ∨ c = TI ∨ c = TO ∨ c = i ∨ c = j := by simpa using h
theorem turn_mix {P : Program} {w : World} {K : PySem.W.Frag} {es : List Expr} {kk : Nat} {tp : Pos} {u1 u2 : Bool} {a b z TI TO i j : Addr} (D : ZipApart z TI TO i j a b) : Turn P w K (.Tuple es kk tp) (ItM K u1 u2 a b) [z, TI, TO, i, j] z (St5 u1 u2 z TI TO i j a b) where
  mem := by simp
  obj := fun k h t c hc => by
    obtain ⟨Z, PI, ⟨x, y, PO⟩, c1, c2⟩ := t
    rcases mem5 hc with e | e | e | e | e
    · exact e ▸ ⟨_, Z, fun v q => nomatch q⟩
    · exact e ▸ ⟨_, PI, fun v q => nomatch q⟩
    · exact e ▸ ⟨_, PO, fun v q => nomatch q⟩
    · exact e ▸ c1.some
    · exact e ▸ c2.some
  keep := fun k h h' t q => by
    obtain ⟨Z, PI, ⟨x, y, PO⟩, c1, c2⟩ := t
    exact ⟨q z (by simp) _ Z, q TI (by simp) _ PI, ⟨x, y, q TO (by simp) _ PO⟩, c1.move fun o e => q i (by simp) o e, c2.move fun o e => q j (by simp) o e⟩
  item := by
    intro X hP hw hK hc k pins s σ H E I hf t hg
    subst hP hw hK
    obtain ⟨Z, PI, ⟨x0, y0, PO⟩, c1, c2⟩ := t
    obtain ⟨xs, ys, x, y, sx, sy, hx, hy⟩ := hg
    obtain ⟨its, rx, p1, _⟩ := sx.its I
    obtain ⟨its2, ry, p2, _⟩ := sy.its I
    obtain ⟨v, hv, rv⟩ := rx.get hx
    obtain ⟨v2, hv2, rv2⟩ := ry.get hy
    have zl : z < s.heap.objs.size := Heap.lt_size Z
    refine py_item D Z PI PO c1 c2 p1 p2 (x := v) (y := v2) (by simpa using hv) (by simpa using hv2) fun h' Z' PO' c1' c2' PT _ stay => ?_
    refine ⟨_, rfl, wpAny_letOwnedTupleGo_zip (s := { s with heap := h' }) Z' fun hb Zb sb => ?_⟩
    have PTb : hb.get? s.heap.objs.size = some { cls := .type "tuple", data := .seq #[v, v2] } := (sb.2 _ (Nat.ne_of_gt zl)).trans PT
    have new : ObjOk X.prog X.w (upd H s.heap.objs.size (.tup [x, y])) hb s.heap.objs.size (.tup [x, y]) := ⟨by show 2 ≤ sizeLine; decide, [v, v2], .cons rv (.cons rv2 .nil), ⟨_, PTb, rfl, _, rfl⟩⟩
    have keepH : ∀ c o, c ∉ [z, TI, TO, i, j] → s.heap.get? c = some o → hb.get? c = some o := fun c o nc e =>
      (sb.2 c (fun q => nc (by simp [q]))).trans (stay c o (fun q => nc (by simp [q])) (fun q => nc (by simp [q])) (fun q => nc (by simp [q])) (fun q => nc (by simp [q])) e)
    have J : Inv X pins σ (upd H s.heap.objs.size (.tup [x, y])) { s with heap := hb } := I.turnedNew (t' := s.toks) keepH hf (Nat.le_refl _) new
    have hTI : TI < s.heap.objs.size := Heap.lt_size PI
    have hTO : TO < s.heap.objs.size := Heap.lt_size PO
    obtain ⟨o1, g1, _⟩ := c1.some
    obtain ⟨o2, g2, _⟩ := c2.some
    have all : ∀ c ∈ [z, TI, TO, i, j], c < s.heap.objs.size := fun c hcm => by
      rcases mem5 hcm with e | e | e | e | e
      · exact e ▸ zl
      · exact e ▸ hTI
      · exact e ▸ hTO
      · exact e ▸ Heap.lt_size g1
      · exact e ▸ Heap.lt_size g2
    refine ⟨.ref s.heap.objs.size, _, J, rfl, ⟨_, x, y, rfl, I.hok.fresh (Nat.le_refl _), rfl, fun ws hl => ?_, fun ws hl => ?_⟩, ⟨Zb, ?_, ⟨v, v2, ?_⟩, ?_, ?_⟩, fun c hcm => ?_⟩
    · rw [hl.inj I sx]; exact hx
    · rw [hl.inj I sy]; exact hy
    · exact (sb.2 _ D.TIz).trans (stay _ _ D.TIz D.TITO D.TIi1 D.TIi2 PI)
    · exact (sb.2 _ D.TOz).trans PO'
    · exact c1'.move fun o e => (sb.2 _ D.i1z).trans e
    · exact c2'.move fun o e => (sb.2 _ D.i2z).trans e
    · rw [upd_ne (Nat.ne_of_lt (all c hcm))]
      exact (hf c hcm).1
  done := by
    intro X hP hw hK hc k pins s σ H E I hf t hg
    subst hP hw hK
    obtain ⟨Z, PI, ⟨x0, y0, PO⟩, c1, c2⟩ := t
    obtain ⟨xs, ys, sx, sy, hend⟩ := hg
    obtain ⟨its, rx, p1, _⟩ := sx.its I
    obtain ⟨its2, ry, p2, _⟩ := sy.its I
    have n1 := rx.length
    have n2 := ry.length
    have he : its.toArray[k]? = none ∨ its2.toArray[k]? = none := by
      rcases hend with q | q
      · left; simp; omega
      · right; simp; omega
    refine py_end (I.ok.hd hc) D Z PI PO c1 c2 p1 p2 he fun h' stay => ⟨rfl, I.turnedL (t' := s.toks) (ch := [z, TI, TO, i, j]) (fun c o nc e => ?_) hf⟩
    exact stay c o (fun q => nc (by simp [q])) (fun q => nc (by simp [q])) (fun q => nc (by simp [q])) (fun q => nc (by simp [q])) e
  self := fun A k s Q E t h => wpAny_pyIter_zip t.1 h
def iMix (K : PySem.W.Frag) (ta : TA) : TI := fun σ H R => ta σ H fun vs H1 => ∃ a b xs ys u1 u2, vs = [.ref a, .ref b] ∧ SqC K u1 H1 a xs ∧ SqC K u2 H1 b ys ∧ R (ItM K u1 u2 a b) H1
theorem pi_mix {X : Cx} {e e2 : Expr} {ta : TA} {p pos tp : Pos} {es : List Expr} {kk : Nat} (hg : Gl X "zip") (hm : X.mg "zip" = none) (ha : PA X [e, e2] ta)
    (hs : starEach [e, e2] X.env = (false, eval e X.env) :: starEach [e2] X.env := by rfl) (hpl : (backTo pos (starEach [e2] X.env)).any (·.1) = false := by rfl) : PI X (.Tuple es kk tp) (.Call (.Name "zip" p) [e, e2] [] pos) (iMix X.K ta) := by
  refine ⟨fun pins s σ H R I t => Call_ (ld_blt I hg hm PyProof.Rows.boot_zip (PyProof.Rows.callWith_type1 (thn (ha.run pos pins s σ H _ I t) fun us s1 ⟨vs, H1, J, r1, q⟩ => ?_) hs hpl))⟩
  obtain ⟨a, b, xs, ys, u1, u2, ex, sx, sy, q⟩ := q
  subst ex
  cases r1 with
  | cons r rr =>
    cases rr with
    | cons r' rr =>
      cases rr
      cases r
      cases r'
      obtain ⟨its, rx, p1, l1⟩ := sx.its J
      obtain ⟨its2, ry, p2, l2⟩ := sy.its J
      refine call_mix p1 p2 fun h' Z PI PO c1 c2 up => wpAny_pyIter_zip Z ?_
      have J2 : Inv X pins σ H1 { s1 with heap := h' } := J.kept (t' := s1.toks) up
      refine ⟨s1.heap.objs.size + 4, [s1.heap.objs.size + 4, s1.heap.objs.size + 2, s1.heap.objs.size + 3, s1.heap.objs.size, s1.heap.objs.size + 1], _, _, H1, rfl, J2, turn_mix (u1 := u1) (u2 := u2) (PySem.W.ktu_apart s1.heap.objs.size a b l1 l2), ⟨Z, PI, ⟨_, _, PO⟩, c1, c2⟩, fun c hcm => ?_, q⟩
      have le : s1.heap.objs.size ≤ c := by
        rcases mem5 hcm with e | e | e | e | e
        · rw [e]; exact Nat.le_add_right _ _
        · rw [e]; exact Nat.le_add_right _ _
        · rw [e]; exact Nat.le_add_right _ _
        · rw [e]; exact Nat.le_refl _
        · rw [e]; exact Nat.le_add_right _ _
      exact J.fpOk le (J.hok.fresh le)
end MZ
namespace FB
open PySem PySem.Spec L2
open PyProof.Rows hiding St
section
variable {X : Cx} {K : PySem.W.Frag} {mg : Str → Option Value}
/-- a list or a tuple of shared things -/
def qD (u : Bool) (ds : List D) : D := if u = true then .lst ds else .tup ds
theorem Rep.shC {H : Hp} {L : List Item} {B : List (V × O)} {x : V} {u : Bool} {ds : List D} (h : Rep K mg H L B) (hx : (x, .val (qD u ds)) ∈ B) : ∃ p vs, x = .ref p ∧ MZ.SqC K u H p vs ∧ vs.length = ds.length ∧ Rep K mg H (zipI vs (ds.map O.val) ++ L) B := by
  cases u with
  | true =>
    obtain ⟨p, vs, e, hp, l, R⟩ := h.shL hx rfl
    exact ⟨p, vs, e, .inl hp, l, R⟩
  | false =>
    obtain ⟨p, vs, e, hp, l, R⟩ := h.shT hx rfl
    exact ⟨p, vs, e, hp, l, R⟩
theorem its_mix {u1 u2 : Bool} {a b : Addr} {xs ys : List D} : Its K mg (MZ.ItM K u1 u2 a b) [.ov (.ref a) (.val (qD u1 xs)), .ov (.ref b) (.val (qD u2 ys))] (zipL xs ys) := by
  intro L H R
  have R0 : Rep K mg H ([.ov (.ref a) (.val (qD u1 xs)), .ov (.ref b) (.val (qD u2 ys))] ++ L) [(.ref b, .val (qD u2 ys)), (.ref a, .val (qD u1 xs))] := ((Rep.lend R).perm (.swap _ _ _)).lend.perm (.swap _ _ _)
  obtain ⟨p, vs, e, hp, lp, R1⟩ := R0.shC (x := .ref a) (u := u1) (ds := xs) (by simp)
  cases e
  obtain ⟨p, ws, e, hq, lq, R2⟩ := R1.shC (x := .ref b) (u := u2) (ds := ys) (by simp)
  cases e
  have hl : (zipL xs ys).length = min xs.length ys.length := by unfold zipL; simp
  refine ⟨fun i d hd => ?_, ⟨vs, ws, hp, hq, by rw [hl]; omega⟩⟩
  obtain ⟨x, y, hx, hy, rfl⟩ := zipL_get hd
  have hi : i < xs.length := (List.getElem?_eq_some_iff.mp hx).1
  have hj : i < ys.length := (List.getElem?_eq_some_iff.mp hy).1
  have hv : vs[i]? = some (vs[i]'(by omega)) := by simp
  have hw : ws[i]? = some (ws[i]'(by omega)) := by simp
  refine ⟨⟨vs, ws, _, _, hp, hq, hv, hw⟩, fun z H' q => ?_⟩
  obtain ⟨T, v, v', rfl, hT, rfl, q1, q2⟩ := q
  refine ⟨sameNew hT, ?_⟩
  have R7 : Rep K mg H (zipI [v, v'] ([x, y].map O.val) ++ ([.ov (.ref a) (.val (qD u1 xs)), .ov (.ref b) (.val (qD u2 ys))] ++ L)) [] :=
    ((R2.nth (q2 ws hq) hy).keep.perm (List.perm_middle.symm)).nth' (q1 vs hp) hx
  exact Rep.newT R7 rfl hT
def D.seqB? : D → Option (Bool × List D)
  | .lst ds => some (true, ds)
  | .tup ds => some (false, ds)
  | _ => none
theorem seqB_eq {d : D} {u : Bool} {ds : List D} (h : d.seqB? = some (u, ds)) : d = qD u ds := by
  cases d with
  | lst es => cases h; rfl
  | tup es => cases h; rfl
  | _ => cases h
def zipX (a b : O) (ρ : Env) : Res (List D) := match a.toD.seqB?, b.toD.seqB? with
  | some (_, xs), some (_, ys) => .ok (zipL xs ys) ρ
  | _, _ => .no
def mZipM (m n : M O) : M (List D) := fun ρ => (m ρ).bind fun a ρ1 => (n ρ1).bind fun b ρ2 => zipX a b ρ2
theorem si_zipM {a b : Expr} {p pos tp : Pos} {es : List Expr} {kk : Nat} {m n : M O} (hg : Gl X "zip") (hm : X.mg "zip" = none) (ha : SE X a m) (hb : SE X b n) (hs : starEach (a :: [b]) X.env = (false, eval a X.env) :: starEach [b] X.env := by rfl) (hs2 : starEach (b :: []) X.env = (false, eval b X.env) :: starEach [] X.env := by rfl)
    (hpl : (backTo pos (starEach [b] X.env)).any (·.1) = false := by rfl) : SI X (.Tuple es kk tp) (.Call (.Name "zip" p) [a, b] [] pos) (mZipM m n) :=
  PI.imp (MZ.pi_mix hg hm (pa_cons ha (pa_cons hb pa_nil hs2) hs) hs hpl) fun σ H R w => by
    obtain ⟨ρ, T, ds, ρ', c, Rp, e, k⟩ := w
    obtain ⟨o, ρ1, e1, w1⟩ := Res.bind_eq e
    clear e
    obtain ⟨v, ρ2, e2, e⟩ := Res.bind_eq w1
    clear w1
    refine ⟨ρ, T, _, _, c, Rp, e1, fun v H1 c1 R1 => ⟨ρ1, .ov v _ :: T, _, _, c1, R1.perm List.perm_middle.symm, e2, fun v2 H2 c2 R2 => ?_⟩⟩
    have R3 := (R2.frz.perm ((List.perm_middle.cons _).trans (.swap _ _ _))).frz
    unfold zipX at e
    split at e
    · rename_i u1 xs u2 ys h1 h2
      cases e
      rw [seqB_eq h1, seqB_eq h2] at R3
      obtain ⟨p, vs, rfl, hp, lp, _⟩ := R3.lend.shC (List.mem_cons_self ..)
      obtain ⟨q, ws, rfl, hq, lq, _⟩ := (R3.perm (.swap _ _ _)).lend.shC (List.mem_cons_self ..)
      exact ⟨p, q, vs, ws, u1, u2, rfl, hp, hq, k _ _ _ c2 its_mix R3⟩
    · cases e
end
def zX2 (a : O) : Res O → Res (List D)
  | .ok b ρ2 => zipX a b ρ2
  | .exc x ρ => .exc x ρ
  | .no => .no
def zX1 (n : M O) : Res O → Res (List D)
  | .ok a ρ1 => zX2 a (n ρ1)
  | .exc x ρ => .exc x ρ
  | .no => .no
@[simp] theorem e_mZipM (m n : M O) (ρ : Env) : mZipM m n ρ = zX1 n (m ρ) := by
  unfold mZipM zX1
  cases m ρ with
  | ok a ρ1 =>
    show (n ρ1).bind _ = zX2 a (n ρ1)
    cases n ρ1 <;> rfl
  | exc _ _ => rfl
  | no => rfl
@[simp] theorem e_zX1 (n : M O) (a : O) (ρ : Env) : zX1 n (.ok a ρ) = zX2 a (n ρ) := (rfl)
@[simp] theorem e_zX2 (a b : O) (ρ : Env) : zX2 a (.ok b ρ) = zipX a b ρ := (rfl)
@[simp] theorem e_zipX_ll (xs ys : List D) (ρ : Env) : zipX (.val (.lst xs)) (.val (.lst ys)) ρ = .ok (zipL xs ys) ρ := (rfl)
@[simp] theorem e_zipX_lt (xs ys : List D) (ρ : Env) : zipX (.val (.lst xs)) (.val (.tup ys)) ρ = .ok (zipL xs ys) ρ := (rfl)
@[simp] theorem e_zipX_tl (xs ys : List D) (ρ : Env) : zipX (.val (.tup xs)) (.val (.lst ys)) ρ = .ok (zipL xs ys) ρ := (rfl)
@[simp] theorem e_zipX_tt (xs ys : List D) (ρ : Env) : zipX (.val (.tup xs)) (.val (.tup ys)) ρ = .ok (zipL xs ys) ρ := (rfl)
end FB

/-! Loops and comprehensions over what an own object lends meanwhile. -/
namespace FB
open PySem PySem.Spec L2
open PyProof.Rows hiding St
section
variable {X : Cx} {K : PySem.W.Frag} {mg : Str → Option Value}
/-! zip of two attributes -/
end
end FB

/-! More rules for simp; loops that end at the first. -/
namespace FB
open PySem PySem.Spec L2
open PyProof.Rows hiding St
variable {ρ : Env}
def slC3 (a : O) (l : Option Int) : Res (Option Int) → Res O
  | .ok h ρ => okV (slO a l h) ρ
  | .exc x ρ => .exc x ρ
  | .no => .no
def slB3 (a : O) (hi : M (Option Int)) : Res (Option Int) → Res O
  | .ok l ρ => slC3 a l (hi ρ)
  | .exc x ρ => .exc x ρ
  | .no => .no
def slA3 (lo hi : M (Option Int)) : Res O → Res O
  | .ok a ρ => slB3 a hi (lo ρ)
  | .exc x ρ => .exc x ρ
  | .no => .no
@[simp] theorem e_mSl (m : M O) (lo hi : M (Option Int)) : mSl m lo hi ρ = slA3 lo hi (m ρ) := by
  unfold mSl slA3
  cases m ρ with
  | ok a ρ1 =>
    show (lo ρ1).bind _ = slB3 a hi (lo ρ1)
    unfold slB3
    cases lo ρ1 with
    | ok l ρ2 =>
      show (hi ρ2).bind _ = slC3 a l (hi ρ2)
      cases hi ρ2 <;> rfl
    | exc _ _ => rfl
    | no => rfl
  | exc _ _ => rfl
  | no => rfl
@[simp] theorem e_slA3 (lo hi : M (Option Int)) (a : O) : slA3 lo hi (.ok a ρ) = slB3 a hi (lo ρ) := (rfl)
@[simp] theorem e_slB3 (a : O) (hi : M (Option Int)) (l : Option Int) : slB3 a hi (.ok l ρ) = slC3 a l (hi ρ) := (rfl)
@[simp] theorem e_slC3 (a : O) (l h : Option Int) : slC3 a l (.ok h ρ) = okV (slO a l h) ρ := (rfl)
@[simp] theorem neO_bl (a b : Bool) : neO (.val (.bl a)) (.val (.bl b)) = some (.val (.bl (!(a == b)))) := by rw [e_neO (by simp) (by simp)]; simp
def oI : Option Int → D
  | none => .non
  | some i => .int i
@[simp] theorem oI_n : oI none = .non := (rfl)
@[simp] theorem oI_s (i : Int) : oI (some i) = .int i := (rfl)
/-- a loop that may return at some turn -/
theorem forL_first {a : D → Env → Option Env} {b : M Fl} (I : Nat → Env → Prop) (Z : Nat → Env → Prop) (p : Nat → Bool) (g : Nat → O) : ∀ {ds : List D} {ρ : Env}, I 0 ρ →
    (∀ k d ρ, ds[k]? = some d → I k ρ → ∃ ρ1, a d ρ = some ρ1 ∧ ((p k = true ∧ ∃ ρ2, b ρ1 = .ok (.ret (g k)) ρ2 ∧ Z k ρ2) ∨ (p k = false ∧ ∃ ρ2, (b ρ1 = .ok .nx ρ2 ∨ b ρ1 = .ok .ct ρ2) ∧ I (k + 1) ρ2))) →
    ((∀ k, k < ds.length → p k = false) ∧ ∃ ρ', forL a b ds ρ = .ok .nx ρ' ∧ I ds.length ρ') ∨ ∃ k, k < ds.length ∧ p k = true ∧ (∀ j, j < k → p j = false) ∧ ∃ ρ', forL a b ds ρ = .ok (.ret (g k)) ρ' ∧ Z k ρ' := by
  intro ds
  induction ds generalizing I Z p g with
  | nil => intro ρ h0 _; exact .inl ⟨fun k h => absurd h (by simp), ρ, rfl, h0⟩
  | cons d ds ih =>
    intro ρ h0 h
    obtain ⟨ρ1, e1, q⟩ := h 0 d ρ rfl h0
    unfold forL
    rw [e1]
    rcases q with ⟨hp, ρ2, e2, z⟩ | ⟨hp, ρ2, e2, h1⟩
    · refine .inr ⟨0, by simp, hp, fun j hj => absurd hj (by omega), ρ2, ?_, z⟩
      simp only [e2, Res.bind_ok]
    · have q := ih (fun k => I (k + 1)) (fun k => Z (k + 1)) (fun k => p (k + 1)) (fun k => g (k + 1)) h1 fun k d ρ hd hI => h (k + 1) d ρ (by simpa using hd) hI
      rcases q with ⟨hn, ρ', e3, h3⟩ | ⟨k, hk, hpk, hj, ρ', e3, z⟩
      · refine .inl ⟨fun k hk => ?_, ρ', ?_, by simpa using h3⟩
        · cases k with
          | zero => exact hp
          | succ k => exact hn k (by simp at hk; omega)
        · rcases e2 with e2 | e2 <;> simp only [e2, Res.bind_ok] <;> exact e3
      · refine .inr ⟨k + 1, by simp; omega, hpk, fun j hj' => ?_, ρ', ?_, z⟩
        · cases j with
          | zero => exact hp
          | succ j => exact hj j (by omega)
        · rcases e2 with e2 | e2 <;> simp only [e2, Res.bind_ok] <;> exact e3
theorem rangeL_len (lo : Int) (n : Nat) : (rangeL lo n).length = n := by unfold rangeL; simp
theorem rangeL_get {lo : Int} {n k : Nat} {d : D} (h : (rangeL lo n)[k]? = some d) : k < n ∧ d = .int (lo + k) := by
  have hk : k < n := by
    have := (List.getElem?_eq_some_iff.mp h).1
    rwa [rangeL_len] at this
  unfold rangeL at h
  rw [List.getElem?_map, List.getElem?_range hk] at h
  exact ⟨hk, (Option.some.inj h).symm⟩
theorem sumO_ints (ns : List Int) : sumO (.val (.lst (ns.map D.int))) = some (.val (.int ns.sum)) := by
  unfold sumO
  show ((ints? (ns.map D.int)).map fun ns => O.val (.int ns.sum)) = _
  rw [ints?_map]; rfl
theorem bls_map {α : Type} (p : α → Bool) : ∀ xs : List α, bls? (xs.map fun z => D.bl (p z)) = some (xs.map p)
  | [] => rfl
  | x :: xs => by
    show (bls? (xs.map fun z => D.bl (p z))).map (p x :: ·) = _
    rw [bls_map p xs]; rfl
theorem toD_bls {α : Type} (p : α → Bool) (xs : List α) : (O.lst (xs.map fun z => O.val (.bl (p z)))).toD = .lst (xs.map fun z => D.bl (p z)) := by
  show D.lst (O.toDs _) = _
  rw [toDs_map, List.map_map]; rfl
theorem any_map {α : Type} (p : α → Bool) (xs : List α) : anyO (.lst (xs.map fun z => O.val (.bl (p z)))) = some (.val (.bl (xs.any p))) := by
  unfold anyO
  rw [toD_bls]
  show ((bls? (xs.map fun z => D.bl (p z))).map fun bs => O.val (.bl (bs.any id))) = _
  rw [bls_map]
  simp [List.any_map]
theorem all_map {α : Type} (p : α → Bool) (xs : List α) : allO (.lst (xs.map fun z => O.val (.bl (p z)))) = some (.val (.bl (xs.all p))) := by
  unfold allO
  rw [toD_bls]
  show ((bls? (xs.map fun z => D.bl (p z))).map fun bs => O.val (.bl (bs.all id))) = _
  rw [bls_map]
  simp [List.all_map]
end FB

/-! Dicts read; texts joined; lists turned round. -/
namespace FB
open PySem PySem.Spec L2
open PyProof.Rows hiding St
section
variable {X : Cx} {K : PySem.W.Frag} {mg : Str → Option Value}
def dctP : O → Option (List Key × List O)
  | .dct ks os => some (ks, os)
  | .val (.dct ks ds) => some (ks, ds.map O.val)
  | _ => none
theorem Rep.dctV {H : Hp} {L : List Item} {B : List (V × O)} {x : V} {a : O} {ks : List Key} {os : List O} (R : Rep K mg H L B) (hx : (x, a) ∈ B) (e : dctP a = some (ks, os)) :
    ∃ p kvs, x = .ref p ∧ Rd H p (.dK kvs) ∧ kvs.map (·.1) = ks ∧ ks.Nodup ∧ kvs.length = os.length ∧ ∀ (j : Nat) (v : V) (o : O), (kvs.map (·.2))[j]? = some v → os[j]? = some o → Rep K mg H L ((v, o) :: B) := by
  obtain ⟨A, nd, ok, hb⟩ := id R
  obtain ⟨as, h1, h2⟩ := hb _ hx
  cases h1 with
  | val h1 =>
    cases h1 with
    | dct h3 h4 h5 =>
      cases e
      rename_i p kvs ds
      refine ⟨p, kvs, rfl, rd_hide h3, h4.1, h4.2, ?_, fun j v o q1 q2 => ⟨A, nd, ok, fun b q => ?_⟩⟩
      · have := h5.length
        simpa using this
      · rcases List.mem_cons.mp q with q | q
        · subst q
          rw [List.getElem?_map] at q2
          cases q3 : ds[j]? with
          | none => rw [q3] at q2; cases q2
          | some d =>
            rw [q3] at q2
            cases q2
            obtain ⟨v', g1, g2⟩ := h5.get q3
            rw [q1] at g1
            cases g1
            exact ⟨[], .val g2, by simp⟩
        · exact hb b q
    | _ => cases e
  | lst _ _ => cases e
  | ins _ _ _ _ => cases e
  | dct h3 h4 h5 =>
    cases e
    rename_i p kvs as'
    refine ⟨p, kvs, rfl, .inl h3, h4.1, h4.2, ?_, fun j v o q1 q2 => ⟨A, nd, ok, fun b q => ?_⟩⟩
    · have := h5.length
      simpa using this
    · rcases List.mem_cons.mp q with q | q
      · subst q
        obtain ⟨bs, g1, g2⟩ := VOs.sub h5 q2 q1
        exact ⟨bs, g1, fun a ha => h2 a (by simp [g2 a ha])⟩
      · exact hb b q
theorem keyV {H : Hp} {L : List Item} {B : List (V × O)} {y : V} {b : O} {k : Key} (R : Rep K mg H L B) (hy : (y, b) ∈ B) (e : keyO b = some k) : y = kV k := by
  unfold keyO at e
  split at e
  · cases e; exact R.shInt hy rfl
  · cases e; exact R.shStr hy rfl
  · cases e
/-! ### d[k] -/
def dgO (a b : O) : Option O := (dctP a).bind fun p => (keyO b).bind fun k => (idxK p.1 k).bind fun j => p.2[j]?
def rDg : R2 := fun x y H Q => ∃ a v, x = .ref a ∧ DGet H a y (some v) ∧ Q v H
theorem ix_dct (ok : CxOk X) : IxR X rDg := by
  intro value slice pins s σ H x y v u Q I rx ry h hs
  obtain ⟨a, w, rfl, g, q⟩ := h
  obtain rfl : v = Value.ref a := rx
  exact tail_any (dict_typeIs I g) PySem.F.slot_dict_getitem.lookup (d_getItem (by have := ok.units; show X.A.units + 1 < cLine; omega) I g ry fun w' s' I' rw' => ⟨w, H, I', rw', q⟩) hs
theorem dget {H : Hp} {L : List Item} {B : List (V × O)} {x y : V} {a b : O} {ks : List Key} {os : List O} {k : Key} (R : Rep K mg H L B) (hx : (x, a) ∈ B) (hy : (y, b) ∈ B) (e : dctP a = some (ks, os)) (ek : keyO b = some k) :
    ∃ p r, x = .ref p ∧ DGet H p y r ∧ ((idxK ks k).bind fun j => os[j]?).isSome = r.isSome ∧ ∀ o, ((idxK ks k).bind fun j => os[j]?) = some o → ∃ v, r = some v ∧ Rep K mg H L ((v, o) :: B) := by
  obtain ⟨p, kvs, rfl, h1, h2, h3, h4, h5⟩ := R.dctV hx e
  have ey := keyV R hy ek
  subst ey
  refine ⟨p, valV kvs k, rfl, .inl ⟨kvs, k, h1, rfl, rfl⟩, ?_, fun o ho => ?_⟩
  · rw [idxK_valV, h2]
    cases ej : idxK ks k with
    | none => rfl
    | some j =>
      show (os[j]?).isSome = ((kvs.map (·.2))[j]?).isSome
      by_cases hj : j < os.length
      · rw [List.getElem?_eq_getElem hj, List.getElem?_eq_getElem (show j < (kvs.map (·.2)).length by simp; omega)]; rfl
      · have n1 : os[j]? = none := List.getElem?_eq_none (by omega)
        have n2 : (kvs.map (·.2))[j]? = none := List.getElem?_eq_none (by simp; omega)
        rw [n1, n2]; rfl
  · rw [idxK_valV, h2]
    cases ej : idxK ks k with
    | none => rw [ej] at ho; cases ho
    | some j =>
      rw [ej] at ho
      have ho : os[j]? = some o := ho
      have hj : j < os.length := (List.getElem?_eq_some_iff.mp ho).1
      have hl : j < (kvs.map (·.2)).length := by simp; omega
      have hv : (kvs.map (·.2))[j]? = some ((kvs.map (·.2))[j]'hl) := List.getElem?_eq_getElem hl
      exact ⟨_, hv, h5 j _ o hv ho⟩
theorem opv_dg : OpV K mg rDg dgO := by
  intro H L B x y ox oy o Q R hx hy e k
  unfold dgO at e
  cases e1 : dctP ox with
  | none => rw [e1] at e; cases e
  | some p =>
    cases e2 : keyO oy with
    | none => rw [e1, e2] at e; cases e
    | some kk =>
      rw [e1, e2] at e
      obtain ⟨p', r, rfl, g, _, g2⟩ := dget (ks := p.1) (os := p.2) R hx hy e1 e2
      obtain ⟨v, rfl, R2⟩ := g2 o e
      exact ⟨p', v, rfl, g, k v H (Same.refl _) R2⟩
/-- a list, a tuple, a text, or a dict -/
def ixF (a b : O) : Option O := if (dctP a).isSome = true then dgO a b else ixO a b
def rIxF (K : PySem.W.Frag) : R2 := fun x y H Q => rIx K x y H Q ∨ rDg x y H Q
theorem ix_F (ok : CxOk X) : IxR X (rIxF X.K) := ix_seq.or (ix_dct ok)
theorem opv_ixF : OpV K mg (rIxF K) ixF := by
  intro H L B x y ox oy o Q R hx hy e k
  unfold ixF at e
  split at e
  · exact .inr (opv_dg H L B x y ox oy o Q R hx hy e k)
  · exact .inl (opv_ix H L B x y ox oy o Q R hx hy e k)
/-! ### k in d -/
def keyN : O → Option (Option Key)
  | .val .non => some none
  | b => (keyO b).map some
/-! ### d.get(k, x) -/
def getK (p : List Key × List O) (c : O) : Option Key → O
  | none => c
  | some k => ((idxK p.1 k).bind fun j => p.2[j]?).getD c
def getO (a b c : O) : Option O := (dctP a).bind fun p => (keyN b).map (getK p c)
theorem d_getNone {pins : List (Addr × Obj)} {σ : L2.St} {H : Hp} {s : Shared} {a : Addr} {kvs : List (Key × V)} {A : Around} {E : Value → Shared → Prop} {r : Value} {Q : Value → Shared → Prop} (I : Inv X pins σ H s) (e : Rd H a (.dK kvs)) (h : ∀ s', Inv X pins σ H s' → Q r s') :
    wpAny (model X.prog X.w) A (call (.builtin "dict.get") [.ref a, .none, r]) Q E s := by
  obtain ⟨_, hd, vs, _, dd⟩ := dk_rd I.hok e
  obtain ⟨f, hm, hf⟩ := none_map dd
  refine call_meetsIn PySem.F.slot_dict_get dd.typeIs PySem.F.entry_dict_get (PySem.F.args_dict_get_3 _ _ _) (meets_dict_get_default (noneKind X.prog X.w) a (show (noneKind X.prog X.w).is none .none = true from rfl) hd r) ⟨f, hm, ?_⟩
  rw [hf]
  exact h _ (I.tok _)
def tGetN (td ty tx : TE) : TE := fun σ H Q => td σ H fun x H1 => ∃ a, x = .ref a ∧ IsD H1 a ∧ ty σ H1 fun y H2 => tx σ H2 fun z H3 => (∃ o, DGet H3 a y o ∧ Q (o.getD z) H3) ∨ (∃ kvs, y = .non ∧ Rd H3 a (.dK kvs) ∧ Q z H3)
theorem pe_getN {o e f : Expr} {apos cpos : Pos} {td ty tx : TE} (hu : X.A.units + 1 < cLine) (ho : PE X o td) (he : PE X e ty) (hf : PE X f tx) (m : M2 X o "get" apos e f cpos) : PE X (.Call (.Attribute o "get" apos) [e, f] [] cpos) (tGetN td ty tx) := by
  refine ⟨fun pins s σ H Q I h => ?_⟩
  refine wpAny_Call_method m.base m.few m.line PySem.F.plainAttrs_dict PySem.F.slot_dict_get PySem.F.type_dict_get (thn (ho.run pins s σ H _ I h) fun u s1 ⟨x, H1, I1, rx, a, ex, d, q1⟩ => ?_)
  subst ex
  obtain rfl : u = Value.ref a := rx
  obtain ⟨t1, t2, _⟩ := isD_at I1 d
  refine ⟨t1, t2, ?_⟩
  rw [m.trees]
  refine Calls.callWith_builtin rfl (Calls.evalArgs_plain (Calls.spliced_cons (thn (he.run pins s1 σ H1 _ I1 q1) fun iv s2 ⟨y, H2, I2, ry, q2⟩ => Calls.spliced_cons (thn (hf.run pins s2 σ H2 _ I2 q2) fun fv s3 ⟨z, H3, I3, rz, q3⟩ => Calls.spliced_nil ?_))))
  rcases q3 with ⟨ov, g, q3⟩ | ⟨kvs, ey, g, q3⟩
  · exact d_get2 hu I3 g ry rz fun w' s4 I4 rw' => ⟨_, H3, I4, rw', q3⟩
  · subst ey
    obtain rfl : iv = Value.none := ry
    exact d_getNone I3 g fun s4 I4 => ⟨z, H3, I4, rz, q3⟩
def p3 (op : O → O → O → Option O) (f g h : Pf) : Pf := fun ρ => (f ρ).bind fun a => (g ρ).bind fun b => (h ρ).bind fun c => op a b c
theorem sp_get {o e d : Expr} {apos cpos : Pos} {f g h : Pf} (ok : CxOk X) (ho : SP X o f) (he : SP X e g) (hd : SP X d h) (m : M2 X o "get" apos e d cpos := by exact ⟨rfl, rfl, rfl, rfl⟩) : SP X (.Call (.Attribute o "get" apos) [e, d] [] cpos) (p3 getO f g h) :=
  PE.imp (pe_getN (by have := ok.units; omega) ho he hd m) fun σ H Q q => by
    obtain ⟨ρ, T, B, r, cv, R, e, k⟩ := q
    unfold p3 at e
    cases e1 : f ρ with
    | none => rw [e1] at e; cases e
    | some a =>
      cases e2 : g ρ with
      | none => rw [e1, e2] at e; cases e
      | some b =>
        cases e3 : h ρ with
        | none => rw [e1, e2, e3] at e; cases e
        | some c =>
          rw [e1, e2, e3] at e
          have e : getO a b c = some r := e
          unfold getO at e
          cases e4 : dctP a with
          | none => rw [e4] at e; cases e
          | some p =>
            cases e5 : keyN b with
            | none => rw [e4, e5] at e; cases e
            | some kk =>
              rw [e4, e5] at e
              have e : getK p c kk = r := Option.some.inj e
              refine ⟨ρ, T, B, a, cv, R, e1, fun x H1 s1 R1 => ?_⟩
              obtain ⟨pa, kvs, rfl, g1, _⟩ := R1.dctV (ks := p.1) (os := p.2) (List.mem_cons_self ..) e4
              refine ⟨pa, rfl, .inl ⟨kvs, g1⟩, ρ, T, _, b, cv, R1, e2, fun y H2 s2 R2 => ⟨ρ, T, _, c, cv, R2, e3, fun z H3 s3 R3 => ?_⟩⟩
              have drop : ∀ {v : V}, Rep X.K X.mg H3 (pairs σ ρ ++ T) ((v, r) :: (z, c) :: (y, b) :: (.ref pa, a) :: B) → Rep X.K X.mg H3 (pairs σ ρ ++ T) ((v, r) :: B) := fun R => R.bsub fun w hw => by
                rcases List.mem_cons.mp hw with hw | hw
                · simp [hw]
                · simp [hw]
              unfold keyN at e5
              split at e5
              · cases e5
                have e : c = r := e
                subst e
                obtain ⟨pa', kvs', ex, g2, _⟩ := R3.dctV (x := .ref pa) (a := a) (ks := p.1) (os := p.2) (by simp) e4
                cases ex
                refine .inr ⟨kvs', R3.shNon (o := .val .non) (by simp) rfl, g2, k z H3 (s1.trans (s2.trans s3)) (R3.bsub fun w hw => ?_)⟩
                rcases List.mem_cons.mp hw with hw | hw
                · simp [hw]
                · simp [hw]
              · cases e6 : keyO b with
                | none => rw [e6] at e5; cases e5
                | some key =>
                  rw [e6] at e5
                  cases e5
                  obtain ⟨pa', rr, ex, g2, g3, g4⟩ := dget (x := .ref pa) (y := y) (ks := p.1) (os := p.2) R3 (by simp) (by simp) e4 e6
                  cases ex
                  have e : ((idxK p.1 key).bind fun j => p.2[j]?).getD c = r := e
                  refine .inl ⟨rr, g2, ?_⟩
                  cases e7 : ((idxK p.1 key).bind fun j => p.2[j]?) with
                  | none =>
                    rw [e7] at e g3
                    have e : c = r := e
                    subst e
                    cases rr with
                    | some _ => cases g3
                    | none =>
                      refine k z H3 (s1.trans (s2.trans s3)) (R3.bsub fun w hw => ?_)
                      rcases List.mem_cons.mp hw with hw | hw
                      · simp [hw]
                      · simp [hw]
                  | some o =>
                    rw [e7] at e
                    have e : o = r := e
                    subst e
                    obtain ⟨v, rfl, R4⟩ := g4 o e7
                    exact k v H3 (s1.trans (s2.trans s3)) (drop R4)
end
end FB

/-! join, reverse, dict(pairs), name[k] += e; rules. -/
namespace FB
open PySem PySem.Spec L2 TL
open PyProof.Rows hiding St
section
variable {X : Cx} {K : PySem.W.Frag} {mg : Str → Option Value}
/-! ### join -/
def strs? : List D → Option (List Str)
  | [] => some []
  | .str s :: ds => (strs? ds).map (s :: ·)
  | _ :: _ => none
theorem strs_eq : ∀ {ds : List D} {ys : List Str}, strs? ds = some ys → ds = ys.map D.str
  | [], _, h => by cases h; rfl
  | .str s :: ds, ys, h => by
    have h : (strs? ds).map (s :: ·) = some ys := h
    cases e : strs? ds with
    | none => rw [e] at h; cases h
    | some zs => rw [e] at h; cases h; rw [strs_eq e]; rfl
  | .non :: _, _, h => by cases h
  | .bl _ :: _, _, h => by cases h
  | .int _ :: _, _, h => by cases h
  | .tup _ :: _, _, h => by cases h
  | .lst _ :: _, _, h => by cases h
  | .dct _ _ :: _, _, h => by cases h
  | .ins _ _ _ :: _, _, h => by cases h
  | .scr _ :: _, _, h => by cases h
  | .fn _ :: _, _, h => by cases h
theorem Vws.strs {H : Hp} : ∀ {vs : List V} {ys : List Str}, Vws K mg H vs (ys.map D.str) → vs = ys.map V.str ∧ ∀ y ∈ ys, PyData.strOk y = true
  | _, [], .nil => ⟨rfl, by simp⟩
  | _, y :: ys, .cons h t => by
    obtain ⟨e, o⟩ := Vws.strs t
    cases h with
    | str _ hy =>
      refine ⟨by rw [e]; rfl, fun z hz => ?_⟩
      rcases List.mem_cons.mp hz with q | q
      · rw [q]; exact hy
      · exact o z q
theorem strOk_iff {s : Str} : PyData.strOk s = true ↔ ∀ c ∈ s.cps.toList, decide (c < 0x110000) = true := by
  show s.cps.all (· < 0x110000) = true ↔ _
  rw [← Array.all_toList, List.all_eq_true]
theorem joinL_mem {S : List Nat} {c : Nat} : ∀ {ps : List (List Nat)}, c ∈ joinL S ps → c ∈ S ∨ ∃ p ∈ ps, c ∈ p
  | [], h => by cases h
  | [p], h => .inr ⟨p, by simp, h⟩
  | p :: q :: r, h => by
    have h : c ∈ p ++ (S ++ joinL S (q :: r)) := h
    rcases List.mem_append.mp h with h | h
    · exact .inr ⟨p, by simp, h⟩
    · rcases List.mem_append.mp h with h | h
      · exact .inl h
      · rcases joinL_mem h with h | ⟨p', h1, h2⟩
        · exact .inl h
        · exact .inr ⟨p', List.mem_cons_of_mem _ h1, h2⟩
theorem join_ok {a : Str} {ys : List Str} (ha : PyData.strOk a = true) (h : ∀ y ∈ ys, PyData.strOk y = true) : PyData.strOk (Txt.join a ys) = true := by
  rw [join_eq, strOk_iff]
  intro c hc
  have hc : c ∈ joinL (tl a) (ys.map tl) := by rw [← tl_join]; exact hc
  rcases joinL_mem hc with q | ⟨p, hp, q⟩
  · exact strOk_iff.mp ha c q
  · obtain ⟨y, hy, rfl⟩ := List.mem_map.mp hp
    exact strOk_iff.mp (h y hy) c q
def joinD (a : Str) (d : D) : Option D := match d with
  | .lst ds => (strs? ds).bind fun ys => if (ys.map (·.length)).sum + ys.length * a.length ≤ 1000000 then some (.str (Txt.join a ys)) else none
  | _ => none
def mJoin (a : Str) (m : M O) : M O := fun ρ => (m ρ).bind fun o ρ1 => match joinD a o.toD with
  | some d => .ok (.val d) ρ1
  | none => .no
theorem se_join {a : Str} {j : Nat} {p apos pos : Pos} {e : Expr} {m : M O} (h : SE X e m) (ha : PyData.strOk a = true := by decide +kernel) (hs : starEach [e] X.env = [(false, eval e X.env)] := by rfl) (hbase : attributeBase (.Constant (.str a) j p) "join" X.env (eval (.Constant (.str a) j p) X.env) = eval (.Constant (.str a) j p) X.env := by rfl)
    (hline : (apos.endLine == pos.line) = true := by rfl) : SE X (.Call (.Attribute (.Constant (.str a) j p) "join" apos) [e] [] pos) (mJoin a m) :=
  PE.imp (pe_join pe_str h hs hbase hline) fun σ H Q w => by
    obtain ⟨ρ, T, o, ρ', c, R, e0, k⟩ := w
    obtain ⟨u, ρ1, e1, e0⟩ := Res.bind_eq e0
    refine ⟨⟨a, rfl⟩, ρ, T, u, ρ1, c, R, e1, fun y H1 c1 R1 => ?_⟩
    unfold joinD at e0
    have R2 := R1.frz
    cases hd : u.toD with
    | lst ds =>
      rw [hd] at e0 R2
      have e0 : (match (strs? ds).bind fun ys => if (ys.map (·.length)).sum + ys.length * a.length ≤ 1000000 then some (D.str (Txt.join a ys)) else none with | some d => Res.ok (O.val d) ρ1 | none => .no) = .ok o ρ' := e0
      cases es : strs? ds with
      | none => rw [es] at e0; cases e0
      | some ys =>
        rw [es] at e0
        have e0 : (match (if (ys.map (·.length)).sum + ys.length * a.length ≤ 1000000 then some (D.str (Txt.join a ys)) else none) with | some d => Res.ok (O.val d) ρ1 | none => .no) = .ok o ρ' := e0
        by_cases hl : (ys.map (·.length)).sum + ys.length * a.length ≤ 1000000
        · rw [if_pos hl] at e0
          cases e0
          have ed := strs_eq es
          subst ed
          have q : Vw X.K X.mg H1 y (.lst (ys.map D.str)) := R2.lend.sh (List.mem_cons_self ..) rfl
          cases q with
          | lst q1 q2 =>
            obtain ⟨ev, ok⟩ := q2.strs
            subst ev
            exact ⟨a, _, ys, rfl, rfl, .inl (.inl q1), by omega, k _ H1 c1 ((R2.drop).scal fun _ => .str _ (join_ok ha ok))⟩
        · rw [if_neg hl] at e0; cases e0
    | _ => rw [hd] at e0; cases e0
/-! ### reverse -/
/-! ### dict(pairs) -/
def mergeL {α : Type} (acc : List Key × List α) (kvs : List (Key × α)) : List Key × List α := kvs.foldl (fun a kv => putL a.1 a.2 kv.1 kv.2) acc
def pr? : D → Option (Key × D)
  | .tup [k, d] => (keyO (.val k)).map fun k => (k, d)
  | _ => none
def prs? : List D → Option (List (Key × D))
  | [] => some []
  | d :: ds => (pr? d).bind fun p => (prs? ds).map (p :: ·)
theorem key_vw {G : Hp} {v : V} {d : D} {k : Key} (h : Vw K mg G v d) (e : keyO (.val d) = some k) : v = kV k := by
  cases h with
  | int i => cases e; rfl
  | str s _ => cases e; rfl
  | _ => cases e
theorem prs_views {G : Hp} : ∀ {vs : List V} {ds : List D} {kvs : List (Key × D)}, Vws K mg G vs ds → prs? ds = some kvs → ∃ (ps : List Addr) (ws : List (Key × V)), vs = ps.map V.ref ∧ Paired (fun p kv => SqT K G p [kV kv.1, kv.2]) ps ws ∧ ws.map (·.1) = kvs.map (·.1) ∧ Vws K mg G (ws.map (·.2)) (kvs.map (·.2))
  | _, _, _, .nil, h => by cases h; exact ⟨[], [], rfl, .nil, rfl, .nil⟩
  | v :: vs, d :: ds, kvs, .cons h t, e => by
    have e : (pr? d).bind (fun p => (prs? ds).map (p :: ·)) = some kvs := e
    cases e1 : pr? d with
    | none => rw [e1] at e; cases e
    | some p =>
      cases e2 : prs? ds with
      | none => rw [e1, e2] at e; cases e
      | some ps =>
        rw [e1, e2] at e
        cases e
        obtain ⟨as, ws, h1, h2, h3, h4⟩ := prs_views t e2
        unfold pr? at e1
        split at e1
        · rename_i k0 d0
          cases e5 : keyO (.val k0) with
          | none => rw [e5] at e1; cases e1
          | some kk =>
            rw [e5] at e1
            cases e1
            cases h with
            | tup h6 h7 =>
              rename_i a xs
              cases h7 with
              | cons h8 h9 =>
                cases h9 with
                | cons h10 h11 =>
                  cases h11
                  have ek := key_vw h8 e5
                  subst ek
                  rename_i v2
                  exact ⟨a :: as, (kk, v2) :: ws, by rw [h1]; rfl, .cons h6 h2, by simp [h3], .cons h10 h4⟩
        · cases e1
theorem Vws.putL {G : Hp} {ks : List Key} {vs : List V} {ds : List D} {k : Key} {v : V} {d : D} (h : Vws K mg G vs ds) (h1 : Vw K mg G v d) : Vws K mg G (putL ks vs k v).2 (putL ks ds k d).2 := by
  unfold FB.putL
  cases idxK ks k with
  | none => exact h.append (.cons h1 .nil)
  | some j => exact h.set h1 j
theorem putL_ks {α β : Type} (ks : List Key) (os : List α) (us : List β) (k : Key) (o : α) (u : β) : (putL ks os k o).1 = (putL ks us k u).1 := by
  unfold putL
  cases idxK ks k <;> rfl
theorem merge_views {G : Hp} : ∀ {ws : List (Key × V)} {kvs : List (Key × D)} {acc : List (Key × V)} {ks : List Key} {ds : List D}, ws.map (·.1) = kvs.map (·.1) → Vws K mg G (ws.map (·.2)) (kvs.map (·.2)) → acc.map (·.1) = ks → ks.Nodup → Vws K mg G (acc.map (·.2)) ds →
    (mergeK acc ws).map (·.1) = (mergeL (ks, ds) kvs).1 ∧ (mergeL (ks, ds) kvs).1.Nodup ∧ Vws K mg G ((mergeK acc ws).map (·.2)) (mergeL (ks, ds) kvs).2
  | [], [], acc, ks, ds, _, _, h1, h2, h3 => ⟨h1, h2, h3⟩
  | [], _ :: _, _, _, _, h, _, _, _, _ => by simp at h
  | _ :: _, [], _, _, _, h, _, _, _, _ => by simp at h
  | w :: ws, p :: kvs, acc, ks, ds, h, hv, h1, h2, h3 => by
    have hk : w.1 = p.1 := by simpa using congrArg List.head? h
    have ht : ws.map (·.1) = kvs.map (·.1) := by simpa using congrArg List.tail h
    cases hv with
    | cons hv1 hv2 =>
      obtain ⟨q1, q2⟩ := putK_eq acc w.1 w.2 (by rw [h1]; exact h2)
      rw [h1] at q1 q2
      have hn : (putL ks ds p.1 p.2).1.Nodup := by
        have := nodup_put (os := ds.map O.val) (k := p.1) (o := O.val p.2) h2
        rwa [putL_ks ks (ds.map O.val) ds p.1 (O.val p.2) p.2] at this
      have r := merge_views (acc := putK acc w.1 w.2) (ks := (putL ks ds p.1 p.2).1) (ds := (putL ks ds p.1 p.2).2) ht hv2 (by rw [q1, hk]; exact putL_ks ..) hn (by rw [q2, hk]; exact Vws.putL h3 hv1)
      exact r
def dctOf (kvs : List (Key × D)) : D := .dct (mergeL ([], []) kvs).1 (mergeL ([], []) kvs).2
def dpK2 (ρ : Env) : Option (List (Key × D)) → Res O
  | some kvs => .ok (.val (dctOf kvs)) ρ
  | none => .no
def dpK1 (ρ : Env) : D → Res O
  | .lst ds => dpK2 ρ (prs? ds)
  | _ => .no
def mDictP (m : M O) : M O := fun ρ => (m ρ).bind fun o ρ1 => dpK1 ρ1 o.toD
theorem se_dictP {a : Expr} {p pos : Pos} {m : M O} (ok : CxOk X) (hg : Gl X "dict") (hm : X.mg "dict" = none) (hv : bootBuiltins "dict" = some (.type "dict")) (ha : SE X a m)
    (hst : starEach (a :: []) X.env = (false, eval a X.env) :: starEach [] X.env := by rfl) (hpl : (backTo pos (starEach [] X.env)).any (·.1) = false := by rfl) : SE X (.Call (.Name "dict" p) [a] [] pos) (mDictP m) :=
  PE.imp (pe_callTy (call_dictP ok.calm) hg hm hv (pa_cons ha pa_nil hst) (by decide) (by decide) hst hpl) fun σ H Q w => by
    obtain ⟨ρ, T, o, ρ', c, R, e0, k⟩ := w
    obtain ⟨u, ρ1, e1, e0⟩ := Res.bind_eq e0
    refine ⟨ρ, T, u, ρ1, c, R, e1, fun y H1 c1 R1 => ?_⟩
    have R2 := R1.frz
    cases hd : u.toD with
    | lst ds =>
      rw [hd] at e0 R2
      have e0 : dpK2 ρ1 (prs? ds) = .ok o ρ' := e0
      cases ep : prs? ds with
      | none => rw [ep] at e0; cases e0
      | some kvs =>
        rw [ep] at e0
        cases e0
        obtain ⟨A, nd, okk, _⟩ := id R2
        cases okk with
        | cons h t =>
          rename_i a9 b9
          cases h with
          | ov h =>
            cases h with
            | val h =>
              cases h with
              | lst q1 q2 =>
                rename_i pa vs
                obtain ⟨ps, ws, ev, h2, h3, h4⟩ := prs_views q2 ep
                subst ev
                have pm : Paired (fun p kv => SqT X.K H1 p [kV kv.1, kv.2]) ps ws := by
                  clear h3 h4 q1 q2 ep nd t R2 R1
                  induction h2 with
                  | nil => exact .nil
                  | cons h _ ih => exact .cons (sqT_hide h) ih
                obtain ⟨m1, m2, m3⟩ := merge_views (acc := []) (ks := []) (ds := []) h3 h4 rfl List.nodup_nil .nil
                refine ⟨pa, ps, ws, rfl, .inl (rd_hide q1), pm, fun q hq => k _ _ c1 ?_⟩
                have R3 := (Rep.drop R2).grow (sameNew (o := .dK (mergeK [] ws)) hq)
                have hnew : q ∉ a9 := fun z => by
                  obtain ⟨u, g⟩ := t.dom q z
                  rw [hq] at g; cases g
                obtain ⟨A', nd', ok', _⟩ := (Rep.drop R2)
                have e : Same (hide H1 ([] ++ a9)) (hide (upd H1 q (.dK (mergeK [] ws))) a9) := hide_same fun a o ha g => ⟨by simpa using ha, by rw [upd_ne (ne_of_none g hq)]; exact g⟩
                refine ⟨a9, (List.nodup_append.mp nd).2.1, .cons (as := []) (.ov (.val (.dct (kvs := mergeK [] ws) (.inl ?_) ⟨m1, m2⟩ (m3.mono e)))) (t.mono e fun a ha => upd_ne fun z => hnew (z ▸ ha)), fun _ z => by simp at z⟩
                rw [hide_out hnew]; exact upd_same
    | _ => rw [hd] at e0; cases e0
/-! ### name[k] += e, ints -/
def ixG (a b : O) : Option O := if (dctP a).isSome = true then dgO a b else ixL a b
def rGet (K : PySem.W.Frag) : R2 := fun x y H Q => rIxL K x y H Q ∨ rDg x y H Q
theorem pget_F (ok : CxOk X) : PGet X (rGet X.K) := by
  intro pins s σ H x y v u Q I rx ry h
  rcases h with h | ⟨a, w, rfl, g, q⟩
  · exact pget_list pins s σ H x y v u Q I rx ry h
  · obtain rfl : v = Value.ref a := rx
    exact d_getItem (by have := ok.units; show X.A.units + 1 < cLine; omega) I g ry fun w' s' I' rw' => ⟨w, H, I', rw', q⟩
theorem opv_ixG : OpV K mg (rGet K) ixG := by
  intro H L B x y ox oy o Q R hx hy e k
  unfold ixG at e
  split at e
  · exact .inr (opv_dg H L B x y ox oy o Q R hx hy e k)
  · exact .inl (opv_ixL H L B x y ox oy o Q R hx hy e k)
def mAugI (i : Nat) (g : Int → Int → Int) (n m : Pf) : M Fl := fun ρ => match ρ[i]?, n ρ, m ρ with
  | some (some a), some (.val d), some (.val (.int y)) => (match ixG a (.val d) with
    | some (.val (.int x)) => (match setItO a (.val d) (.val (.int (g x y))) with
      | some a' => .ok .nx (ρ.set i (some a'))
      | none => .no)
    | _ => .no)
  | _, _, _ => .no
theorem ss_augI (i : Nat) {P : List Nat} {x : Str} {p tpos pos : Pos} {ix e : Expr} {op : Operator} {g : Int → Int → Int} {n m : Pf} (ok : CxOk X) (hop : PIp X op (ipI g)) (hn : SP X ix n) (h : SP X e m) (hN : X.N[i]? = some x := by rfl) (hv : Vis X.env.scope x := by first | exact Or.inl rfl | exact Or.inr (Or.inl rfl) | exact Or.inr (Or.inr rfl)) (hd : (x == ("__debug__" : Str)) = false := by decide)
    (hcd : (x == ("__classdict__" : Str)) = false := by decide)
    (ha : ∀ ov iv new, augStore ix ov iv new = (do holding [new, ov, iv] (setItem ov iv new); release [new, ov, iv] []; pure .next) := by intros; rfl) :
    SS X P (.AugAssign (.Subscript (.Name x p) ix tpos) op e pos) (mAugI i g n m) :=
  PS.imp (ps_augS (pv i hN hv hd hcd) hn (pget_F ok) h hop (set_F ok) ha) fun D σ H w => by
    obtain ⟨ρ, T, cv, R, h⟩ := tS_iff.mp w
    unfold mAugI at h
    split at h
    · rename_i a d yi e2 e3 e5
      split at h
      · rename_i xi e6
        split at h
        · rename_i a' e4
          obtain ⟨vx, hvx⟩ := cv.ex i _ e2
          have pm := (pairs_take hvx e2).append_right T
          have R1 : Rep X.K X.mg H (pairs σ ρ ++ T) [(vx, a)] := ((R.perm pm).lend).perm pm.symm
          refine ⟨vx, hvx, ρ, T, _, .val d, cv, R1, e3, fun y H2 s2 R3 => ?_⟩
          refine opv_ixG H2 _ _ vx y a (.val d) _ _ R3 (by simp) (by simp) e6 fun xv H3 s3 R4 => ?_
          refine ⟨ρ, T, _, .val (.int yi), cv, R4, e5, fun zv H4 s4 R5 => ?_⟩
          have ex : xv = .int xi := R5.shInt (List.mem_cons_of_mem _ (List.mem_cons_self ..)) rfl
          have ez : zv = .int yi := R5.shInt (List.mem_cons_self ..) rfl
          refine ⟨xi, yi, ex, ez, ?_⟩
          have R6 : Rep X.K X.mg H4 (pairs σ ρ ++ T) [(y, .val d)] := R5.bsub fun z hz => by
            have := List.mem_singleton.mp hz
            subst this
            simp
          have R7 := (R6.keep.scal (v := .int (g xi yi)) (d := .int (g xi yi)) fun _ => .int _).perm (.swap _ _ _)
          have R8 := Rep.slot (M := [.ov y (.val d), .ov (.int (g xi yi)) (.val (.int (g xi yi)))]) hvx e2 R7
          exact setIt_core R8 e4 fun H5 R9 => h σ H5 (Fix.refl _ _) (cv.put hvx _) (Rep.unslot (M := []) hvx e2 R9)
        · exact h.elim
      · exact h.elim
    · exact h.elim
end
/-! ### rules -/
variable {ρ : Env}
def p3K (op : O → O → O → Option O) : Option O → Option O → Option O → Option O
  | some a, some b, some c => op a b c
  | _, _, _ => none
@[simp] theorem e_p3 (op : O → O → O → Option O) (f g h : Pf) : p3 op f g h ρ = p3K op (f ρ) (g ρ) (h ρ) := by
  unfold p3 p3K
  cases f ρ <;> cases g ρ <;> cases h ρ <;> rfl
@[simp] theorem e_p3K (op : O → O → O → Option O) (a b c : O) : p3K op (some a) (some b) (some c) = op a b c := (rfl)
@[simp] theorem ixF_dct (ks : List Key) (os : List O) (b : O) : ixF (.dct ks os) b = dgO (.dct ks os) b := (rfl)
@[simp] theorem ixF_vdct (ks : List Key) (ds : List D) (b : O) : ixF (.val (.dct ks ds)) b = dgO (.val (.dct ks ds)) b := (rfl)
@[simp] theorem ixF_lst (os : List O) (b : O) : ixF (.lst os) b = ixO (.lst os) b := (rfl)
@[simp] theorem ixF_vlst (ds : List D) (b : O) : ixF (.val (.lst ds)) b = ixO (.val (.lst ds)) b := (rfl)
@[simp] theorem ixF_vtup (ds : List D) (b : O) : ixF (.val (.tup ds)) b = ixO (.val (.tup ds)) b := (rfl)
@[simp] theorem ixF_vstr (s : Str) (b : O) : ixF (.val (.str s)) b = ixO (.val (.str s)) b := (rfl)
@[simp] theorem ixF_vscr (s : List Int) (b : O) : ixF (.val (.scr s)) b = ixO (.val (.scr s)) b := (rfl)
def jnK (a : Str) : Res O → Res O
  | .ok o ρ1 => (match joinD a o.toD with
    | some d => .ok (.val d) ρ1
    | none => .no)
  | .exc x ρ => .exc x ρ
  | .no => .no
def jnK2 (ρ : Env) : Option D → Res O
  | some d => .ok (.val d) ρ
  | none => .no
@[simp] theorem e_mJoin (a : Str) (m : M O) : mJoin a m ρ = jnK a (m ρ) := by unfold mJoin jnK; cases m ρ <;> rfl
@[simp] theorem e_jnK (a : Str) (o : O) : jnK a (.ok o ρ) = jnK2 ρ (joinD a o.toD) := by
  show (match joinD a o.toD with | some d => Res.ok (O.val d) ρ | none => .no) = _
  unfold jnK2
  cases joinD a o.toD <;> rfl
@[simp] theorem e_jnK2 (d : D) : jnK2 ρ (some d) = .ok (.val d) ρ := (rfl)
theorem strs_map : ∀ ys : List Str, strs? (ys.map D.str) = some ys
  | [] => rfl
  | y :: ys => by
    show (strs? (ys.map D.str)).map (y :: ·) = _
    rw [strs_map ys]; rfl
theorem joinD_strs (a : Str) (ys : List Str) (h : (ys.map (·.length)).sum + ys.length * a.length ≤ 1000000) : joinD a (.lst (ys.map D.str)) = some (.str (Txt.join a ys)) := by
  show ((strs? (ys.map D.str)).bind fun ys => if (ys.map (·.length)).sum + ys.length * a.length ≤ 1000000 then some (D.str (Txt.join a ys)) else none) = _
  rw [strs_map]
  show (if (ys.map (·.length)).sum + ys.length * a.length ≤ 1000000 then some (D.str (Txt.join a ys)) else none) = _
  rw [if_pos h]
def dpK : Res O → Res O
  | .ok o ρ => dpK1 ρ o.toD
  | .exc x ρ => .exc x ρ
  | .no => .no
@[simp] theorem e_mDictP (m : M O) : mDictP m ρ = dpK (m ρ) := by unfold mDictP dpK; cases m ρ <;> rfl
@[simp] theorem e_dpK (o : O) : dpK (.ok o ρ) = dpK1 ρ o.toD := (rfl)
@[simp] theorem e_dpK1 (ds : List D) : dpK1 ρ (.lst ds) = dpK2 ρ (prs? ds) := (rfl)
@[simp] theorem e_dpK2 (kvs : List (Key × D)) : dpK2 ρ (some kvs) = .ok (.val (dctOf kvs)) ρ := (rfl)
theorem e_mAugI (i : Nat) (g : Int → Int → Int) (n m : Pf) (a a' : O) (d : D) (x y : Int) (h0 : ρ[i]? = some (some a)) (hn : n ρ = some (.val d)) (hm : m ρ = some (.val (.int y))) (hx : ixG a (.val d) = some (.val (.int x))) (h2 : setItO a (.val d) (.val (.int (g x y))) = some a') :
    mAugI i g n m ρ = .ok .nx (ρ.set i (some a')) := by
  unfold mAugI
  rw [h0, hn, hm]
  show (match ixG a (.val d) with
    | some (.val (.int x)) => (match setItO a (.val d) (.val (.int (g x y))) with
      | some a' => Res.ok Fl.nx (ρ.set i (some a'))
      | none => .no)
    | _ => .no) = _
  rw [hx]
  show (match setItO a (.val d) (.val (.int (g x y))) with
      | some a' => Res.ok Fl.nx (ρ.set i (some a'))
      | none => .no) = _
  rw [h2]
end FB

/-! Loops and comprehensions over what own names lend meanwhile. -/
namespace FB
open PySem PySem.Spec L2
open PyProof.Rows hiding St
section
variable {X : Cx} {K : PySem.W.Frag} {mg : Str → Option Value}
/-- slots Z stand; their things are aside (wi) and come back (re) -/
def tIG (K : PySem.W.Frag) (mg : Str → Option Value) (Z : List Nat) (f : Env → Option (List D)) (wi : Env → Env) (re : Env → Env → Env) : TI := fun σ H R => ∃ ρ T ds, Cov σ ρ ∧ Rep K mg H (pairs σ ρ ++ T) [] ∧ f ρ = some ds ∧
  ∀ J ks, Its K mg J ks ds → Cov σ (wi ρ) → Rep K mg H (ks ++ (pairs σ (wi ρ) ++ T)) [] → (∀ σ' ρ' H' M, Fix Z σ σ' → Cov σ' ρ' → Rep K mg H' (M ++ (pairs σ' ρ' ++ (ks ++ T))) [] → Cov σ' (re ρ ρ') ∧ Rep K mg H' (M ++ (pairs σ' (re ρ ρ') ++ T)) []) → R J H
def SIG (X : Cx) (tg it : Expr) (Z : List Nat) (f : Env → Option (List D)) (wi : Env → Env) (re : Env → Env → Env) : Prop := PI X tg it (tIG X.K X.mg Z f wi re)
def mCompG (f : Env → Option (List D)) (wi : Env → Env) (re : Env → Env → Env) (own : List Nat) (a : D → Env → Option Env) (t : M Bool) (e : M O) : M O := fun ρ => match f ρ with
  | some ds => if ds.length ≤ 1000000 then (compL own a t e ds (wipeE (wi ρ) own)).bind fun os ρ2 => .ok (.lst os) (re ρ (backE (wipeE ρ2 own) (wi ρ) own)) else .no
  | none => .no
theorem compG_core {Z : List Nat} {own : List Nat} {f : Env → Option (List D)} {wi : Env → Env} {re : Env → Env → Env} {a : D → Env → Option Env} {t : M Bool} {e : M O} (nd : own.Nodup) (σ : L2.St) (H : Hp) (Q : VK) (w : tM K mg (mCompG f wi re own a t e) σ H Q) : tLc (tIG K mg Z f wi re) (tG K mg (Wip own) a) (tMT K mg t) (tM K mg e) own σ H Q := by
  obtain ⟨ρ, T, o', ρ', cv, R, h, k⟩ := w
  unfold mCompG at h
  split at h
  · rename_i ds e1
    split at h
    · rename_i hl
      obtain ⟨fin, ρ2, e2, h⟩ := Res.bind_eq h
      cases h
      refine ⟨ρ, T, ds, cv, R, e1, fun J ks hJ c' R' rr D hD => ?_⟩
      refine comp_core0 nd (fun _ _ _ _ w => w) (fun _ _ _ w => w) (fun _ _ _ w => w) hl c' hJ R' e2 hD fun H' c2 R2 => ?_
      obtain ⟨c3, R3⟩ := rr σ _ H' [.ov (.ref D) (.lst fin)] (Fix.refl _ _) c2 (R2.perm (List.Perm.cons _ (rot _ _ _)))
      exact k _ H' c3 R3
    · cases h
  · cases h
theorem se_compG {Z : List Nat} {tg iter elt : Expr} {ifs : List Expr} {scope : Scope} {own : List (Str × Nat)} {pos : Pos} {f : Env → Option (List D)} {wi : Env → Env} {re : Env → Env → Env} {a : D → Env → Option Env} {t : M Bool} {e : M O} (ok : CxOk X) (hi : SIG X tg iter Z f wi re) (bo : BlkOk X.N X.env.scope scope own)
    (hg : ∀ (s : Shared) (H : Hp) (C : Addr) (cl : List (Str × Addr)) (fp : List Addr), SG (X.blk s H scope (compEnvC scope cl C X.env) fp) (Wip (own2 own)) tg a) (ht : ∀ (s : Shared) (H : Hp) (C : Addr) (cl : List (Str × Addr)) (fp : List Addr), SETs (X.blk s H scope (compEnvC scope cl C X.env) fp) ifs t)
    (he : ∀ (s : Shared) (H : Hp) (C : Addr) (cl : List (Str × Addr)) (fp : List Addr), SE (X.blk s H scope (compEnvC scope cl C X.env) fp) elt e) (nd : (own2 own).Nodup := by decide) (hs : ∀ x, foldedSetIterable iter X.env x = pure x := by intro _; rfl) :
    SE X (.ListComp elt [⟨tg, iter, ifs, 0⟩] scope pos) (mCompG f wi re (own2 own) a t e) :=
  PE.imp (pe_lc (wi := tIG X.K X.mg Z f wi re) (g := tG X.K X.mg (Wip (own2 own)) a) (tt := tMT X.K X.mg t) (te := tM X.K X.mg e) ok.calm ok.nd hi bo hg ht he hs) (compG_core nd)
/-! zip of two own names -/
/-! one own name -/
def lstN (i : Nat) (ρ : Env) : Option (List D) := match ρ[i]? with
  | some (some a) => (match a.sh with
    | some (.lst xs) => some xs
    | _ => none)
  | _ => none
def wiN (i : Nat) (ρ : Env) : Env := ρ.set i none
def reN (i : Nat) (ρ ρ' : Env) : Env := match ρ[i]? with
  | some (some a) => ρ'.set i (some a)
  | _ => ρ'
theorem its_listS {a : Addr} {o : O} {ds : List D} (e : o.sh = some (.lst ds)) : Its K mg (Itl K a) [.ov (.ref a) o] ds := by
  intro L H R
  obtain ⟨p, vs, e1, hp, lp, R1⟩ := (Rep.lend R).shL (List.mem_cons_self ..) e
  cases e1
  refine ⟨fun i d hd => ?_, ⟨vs, .inl hp, by omega⟩⟩
  have hi : i < ds.length := (List.getElem?_eq_some_iff.mp hd).1
  have hv : vs[i]? = some (vs[i]'(by omega)) := by simp
  refine ⟨⟨vs, _, .inl hp, hv⟩, fun x H' y => ?_⟩
  obtain ⟨e2, y⟩ := y
  subst e2
  exact ⟨Same.refl _, (R1.nob.nth (y vs (.inl hp)) hd).keep⟩
theorem si_lstN (i : Nat) {tg : Expr} {x : Str} {p : Pos} (hN : X.N[i]? = some x := by rfl) (hv : Vis X.env.scope x := by first | exact Or.inl rfl | exact Or.inr (Or.inl rfl) | exact Or.inr (Or.inr rfl)) (hd : (x == ("__debug__" : Str)) = false := by decide) (hcd : (x == ("__classdict__" : Str)) = false := by decide) :
    SIG X tg (.Name x p) [i] (lstN i) (wiN i) (reN i) :=
  PI.imp (pi_list (pv i hN hv hd hcd)) fun σ H R w => by
    obtain ⟨ρ, T, ds, cv, Rp, e1, k⟩ := w
    unfold lstN at e1
    split at e1
    · rename_i a ea
      split at e1
      · rename_i xs sa
        cases e1
        obtain ⟨v, hv⟩ := cv.ex i a ea
        have R1 : Rep X.K X.mg H ([.ov v a] ++ (pairs σ (wiN i ρ) ++ T)) [] := Rp.perm ((pairs_take hv ea).append_right T)
        obtain ⟨pa, vs, ev1, hp1, _, _⟩ := (Rep.lend R1).shL (x := v) (o := a) (by simp) sa
        subst ev1
        have hi : i < ρ.length := (List.getElem?_eq_some_iff.mp ea).1
        refine ⟨_, hv, pa, rfl, ⟨vs, .inl hp1⟩, k _ [.ov (.ref pa) a] (its_listS sa) (cv.setn i) R1 fun σ' ρ' H' M f c' R' => ?_⟩
        have er : reN i ρ ρ' = ρ'.set i (some a) := by unfold reN; rw [ea]
        rw [er]
        have hv' : σ'[i]? = some (some (.ref pa)) := (f.2 i (by simp)).trans hv
        have hl' : ρ'.length = ρ.length := by rw [← c'.len, f.1, cv.len]
        refine ⟨c'.put hv' a, ?_⟩
        have S1 := Rep.slotDrop (M := M) (T := [.ov (.ref pa) a] ++ T) c' i R'
        have q2 : (M ++ (pairs σ' (ρ'.set i none) ++ ([.ov (.ref pa) a] ++ T)) : List Item).Perm (.ov (.ref pa) a :: (M ++ (pairs σ' (ρ'.set i none) ++ T))) := (List.Perm.append_left _ List.perm_middle).trans List.perm_middle
        exact (S1.perm q2).perm (List.perm_middle.symm.trans (List.Perm.append_left _ ((pairs_back hv' (by omega)).append_right _)))
      · cases e1
    · cases e1
end
theorem lstN_of {i : Nat} {ρ : Env} {a : O} {xs : List D} (ha : ρ[i]? = some (some a)) (sa : a.sh = some (.lst xs)) : lstN i ρ = some xs := by
  unfold lstN
  rw [ha]
  show (match a.sh with
    | some (.lst xs) => some xs
    | _ => none) = _
  rw [sa]
theorem e_mCompG {f : Env → Option (List D)} {wi : Env → Env} {re : Env → Env → Env} {own : List Nat} {a : D → Env → Option Env} {t : M Bool} {e : M O} {ρ ρ2 : Env} {ds : List D} {os : List O} (hf : f ρ = some ds) (hl : ds.length ≤ 1000000) (hc : compL own a t e ds (wipeE (wi ρ) own) = .ok os ρ2) :
    mCompG f wi re own a t e ρ = .ok (.lst os) (re ρ (backE (wipeE ρ2 own) (wi ρ) own)) := by
  unfold mCompG
  rw [hf]
  show (if ds.length ≤ 1000000 then (compL own a t e ds (wipeE (wi ρ) own)).bind fun os ρ2 => Res.ok (O.lst os) (re ρ (backE (wipeE ρ2 own) (wi ρ) own)) else .no) = _
  rw [if_pos hl, hc]; rfl
/-- a comprehension whose turns change the environment -/
theorem compL_inv {own : List Nat} {a : D → Env → Option Env} {e : M O} (I : Nat → Env → Prop) (P : Nat → O → Prop) : ∀ {ds : List D} {ρ : Env}, I 0 ρ →
    (∀ k d ρ, ds[k]? = some d → I k ρ → ∃ ρ1 o ρ2, a d ρ = some ρ1 ∧ e ρ1 = .ok o ρ2 ∧ P k o ∧ I (k + 1) (wipeE ρ2 own)) →
    ∃ os ρ', compL own a mTrue e ds ρ = .ok os ρ' ∧ os.length = ds.length ∧ (∀ k o, os[k]? = some o → P k o) ∧ I ds.length ρ' := by
  intro ds
  induction ds generalizing I P with
  | nil => intro ρ h0 _; exact ⟨[], ρ, rfl, rfl, fun k o h => by simp at h, h0⟩
  | cons d ds ih =>
    intro ρ h0 h
    obtain ⟨ρ1, o, ρ2, e1, e2, p, i1⟩ := h 0 d ρ rfl h0
    obtain ⟨os, ρ', e3, hl, hp, i2⟩ := ih (fun k => I (k + 1)) (fun k => P (k + 1)) i1 fun k d ρ hd hI => h (k + 1) d ρ (by simpa using hd) hI
    refine ⟨o :: os, ρ', ?_, by simp [hl], fun k o' ho => ?_, by simpa using i2⟩
    · unfold compL
      rw [e1]
      show (mTrue ρ1).bind _ = _
      rw [show mTrue ρ1 = .ok true ρ1 from rfl, Res.bind_ok, if_pos rfl, e2, Res.bind_ok, e3, Res.bind_ok]
    · cases k with
      | zero => simp at ho; subst ho; exact p
      | succ k => exact hp k o' (by simpa using ho)
end FB

/-! Texts of letters. -/
namespace FB
open PySem PySem.Spec L2 TL
open PyProof.Rows hiding St
@[simp] theorem eqv_str (a b : Str) : D.eqv (.str a) (.str b) = decide (a = b) := by
  unfold D.eqv D.pd
  simp only [PyData.eqv]
  by_cases h : a = b
  · subst h; simp
  · simp [h]
@[simp] theorem eqO_str (a b : Str) : eqO (.val (.str a)) (.val (.str b)) = some (.val (.bl (decide (a = b)))) := by rw [e_eqO (by simp) (by simp)]; simp
@[simp] theorem neO_str (a b : Str) : neO (.val (.str a)) (.val (.str b)) = some (.val (.bl (!decide (a = b)))) := by rw [e_neO (by simp) (by simp)]; simp
@[simp] theorem flat_str (a : Str) : D.flat (.str a) = true := (rfl)
@[simp] theorem flat_int (a : Int) : D.flat (.int a) = true := (rfl)
@[simp] theorem flat_non : D.flat .non = true := (rfl)
theorem Str_ext {a b : Str} (h : a.cps.toList = b.cps.toList) : a = b := by
  cases a; cases b
  congr
  exact Array.toList_inj.mp h
theorem inD_strs (x : Str) (ys : List Str) : inD (.str x) (.lst (ys.map D.str)) = some (ys.any fun y => decide (y = x)) := by
  have h : D.flat (.str x) = true ∧ (ys.map D.str).all D.flat = true := ⟨rfl, by simp⟩
  show (if D.flat (.str x) = true ∧ (ys.map D.str).all D.flat = true then some ((ys.map D.str).any fun e => e.eqv (.str x)) else _) = _
  rw [if_pos h, List.any_map]
  refine congrArg some (congrArg (fun p => ys.any p) ?_)
  funext y
  exact eqv_str y x
/-- a text of letters, by their places -/
def SL (l : List Nat) : Str := ⟨(l.map (97 + ·)).toArray⟩
theorem SL_tl (l : List Nat) : (SL l).cps.toList = l.map (97 + ·) := rfl
theorem SL_len (l : List Nat) : (SL l).length = l.length := by
  show (SL l).cps.size = _
  unfold SL; simp
theorem SL_inj {l m : List Nat} (h : SL l = SL m) : l = m := by
  have : (SL l).cps.toList = (SL m).cps.toList := by rw [h]
  rw [SL_tl, SL_tl] at this
  exact (List.map_inj_right (fun a b h => by omega)).mp this
theorem SL_app (l m : List Nat) : SL l ++ SL m = SL (l ++ m) := by
  apply Str_ext
  have := tl_append (SL l) (SL m)
  rw [show (SL l ++ SL m).cps.toList = tl (SL l ++ SL m) from rfl, this, SL_tl]
  show (SL l).cps.toList ++ (SL m).cps.toList = _
  rw [SL_tl, SL_tl, List.map_append]
theorem SL_rep (l : List Nat) (n : Nat) : repS (SL l) n = SL (List.replicate n l).flatten := by
  apply Str_ext
  show (List.replicate n (SL l).cps.toList).flatten = _
  rw [SL_tl, SL_tl]
  induction n with
  | zero => rfl
  | succ n ih => rw [List.replicate_succ, List.replicate_succ, List.flatten_cons, List.flatten_cons, List.map_append, ih]
theorem joinL0 : ∀ ps : List (List Nat), joinL [] ps = ps.flatten
  | [] => rfl
  | [p] => by show p = _; simp
  | p :: q :: r => by
    show p ++ ([] ++ joinL [] (q :: r)) = _
    rw [joinL0 (q :: r), List.nil_append]; simp
theorem join_SL (ls : List (List Nat)) : Txt.join "" (ls.map SL) = SL ls.flatten := by
  apply Str_ext
  rw [join_eq, show (Str.join "" (ls.map SL)).cps.toList = tl (Str.join "" (ls.map SL)) from rfl, tl_join]
  rw [show tl ("" : Str) = [] from rfl, joinL0, SL_tl]
  induction ls with
  | nil => rfl
  | cons l ls ih => rw [List.map_cons, List.map_cons, List.flatten_cons, List.flatten_cons, List.map_append, ih]; rfl
theorem joinD_SL (ls : List (List Nat)) (h : (ls.map List.length).sum ≤ 1000000) : joinD "" (.lst ((ls.map SL).map D.str)) = some (.str (SL ls.flatten)) := by
  rw [joinD_strs _ _ ?_, join_SL]
  have e1 : (("" : Str)).length = 0 := rfl
  rw [e1, Nat.mul_zero, Nat.add_zero, List.map_map]
  rw [show (fun x : Str => x.length) ∘ SL = List.length from by funext l; exact SL_len l]
  exact h
theorem letters_tl : (("abcdefghijklmnopqrstuvwxyz" : Str)).cps.toList = (List.range 26).map (97 + ·) := by decide +kernel
theorem letter_at (i : Nat) (h : i < 26) : ixO (.val (.str "abcdefghijklmnopqrstuvwxyz")) (.val (.int (i : Int))) = some (.val (.str (SL [i]))) := by
  have hl : (("abcdefghijklmnopqrstuvwxyz" : Str)).length ≤ 1000000 := by decide +kernel
  show (if (("abcdefghijklmnopqrstuvwxyz" : Str)).length ≤ 1000000 then (atI (("abcdefghijklmnopqrstuvwxyz" : Str)).cps.toList (i : Int)).map fun c => O.val (.str ⟨#[c]⟩) else none) = _
  rw [if_pos hl, letters_tl, atN, List.getElem?_map, List.getElem?_range h]; rfl
theorem mulD_SL (l : List Nat) (n : Nat) (h1 : n < 1000000) (h : l.length * n ≤ 1000000) : mulD (.str (SL l)) (.int (n : Int)) = some (.str (SL (List.replicate n l).flatten)) := by
  show (if (n : Int) < 1000000 ∧ -1000000 < (n : Int) ∧ (SL l).length * (n : Int).toNat ≤ 1000000 then some (D.str (repS (SL l) (n : Int).toNat)) else none) = _
  rw [if_pos ⟨by omega, by omega, by rw [SL_len]; simpa using h⟩, Int.toNat_natCast, SL_rep]
theorem addD_SL (l m : List Nat) (h : l.length + m.length ≤ 1000000) : addD (.str (SL l)) (.str (SL m)) = some (.str (SL (l ++ m))) := by
  show (if (SL l).length + (SL m).length ≤ 1000000 then some (D.str (SL l ++ SL m)) else none) = _
  rw [SL_len, SL_len, if_pos h, SL_app]
/-- all items alike in kind -/
theorem list_of {α : Type} (f : α → O) (P : α → Prop) : ∀ {os : List O}, (∀ (k : Nat) (o : O), os[k]? = some o → ∃ b, P b ∧ o = f b) → ∃ bs : List α, os = bs.map f ∧ ∀ b ∈ bs, P b
  | [], _ => ⟨[], rfl, by simp⟩
  | o :: os, h => by
    obtain ⟨b, hb, e⟩ := h 0 o rfl
    obtain ⟨bs, e2, hp⟩ := list_of f P (os := os) fun k o' ho => h (k + 1) o' (by simpa using ho)
    refine ⟨b :: bs, by rw [e, e2]; rfl, fun c hc => ?_⟩
    rcases List.mem_cons.mp hc with q | q
    · rw [q]; exact hb
    · exact hp c q
/-- a right name -/
def NameOk (l : List Nat) : Prop := 1 ≤ l.length ∧ l.length ≤ 8 ∧ ∀ c ∈ l, c < 26
end FB

/-! Exceptions: statements and calls that may raise. -/
namespace FB
open PySem PySem.Spec L2
open PyProof.Rows hiding St

def Res.nr {α : Type} : Res α → Res α
  | .ok a ρ => .ok a ρ
  | _ => .no
@[simp] theorem Res.nr_ok {α : Type} (a : α) (ρ : Env) : (Res.ok a ρ).nr = .ok a ρ := rfl
@[simp] theorem Res.nr_no {α : Type} : (Res.no : Res α).nr = .no := rfl
@[simp] theorem Res.nr_exc {α : Type} (x : Exn) (ρ : Env) : (Res.exc x ρ : Res α).nr = .no := rfl
@[simp] theorem Res.bind_exc {α β : Type} (x : Exn) (ρ : Env) (f : α → Env → Res β) : (Res.exc x ρ : Res α).bind f = .exc x ρ := rfl
/-- raises nothing -/
def nx {α : Type} (m : M α) : M α := fun ρ => (m ρ).nr
@[simp] theorem nx_ap {α : Type} (m : M α) (ρ : Env) : nx m ρ = (m ρ).nr := (rfl)

section
variable {X : Cx} {K : PySem.W.Frag} {mg : Str → Option Value} {P : List Nat} {W : WX}
theorem ExI.nd {x : Exn} {d : Option Addr} {I : List Item} (h : ExI x d I) (e : x.ds = []) : d = none := by
  rcases h with h | ⟨_, _, h, _⟩
  · exact h.2.1
  · exact absurd e h
def ExP (K : PySem.W.Frag) (mg : Str → Option Value) (P : List Nat) (T : List Item) (W : WX) (σ : L2.St) (x : Exn) (ρ' : Env) : Prop :=
  ∀ cls d I σ' H', Fix P σ σ' → Cov σ' ρ' → mg x.c = some cls → ExI x d I → Rep K mg H' (I ++ (pairs σ' ρ' ++ T)) [] → W cls d σ' H'
def PostX (K : PySem.W.Frag) (mg : Str → Option Value) (P : List Nat) (T : List Item) (W : WX) (D : Ends) (σ : L2.St) : Res Fl → Prop
  | .exc x ρ' => ExP K mg P T W σ x ρ'
  | .ok f ρ' => Post K mg P T D σ (.ok f ρ')
  | .no => False
theorem PostX.fix {T : List Item} {D : Ends} {σ σ1 : L2.St} (f : Fix P σ σ1) {r : Res Fl} (h : PostX K mg P T W D σ r) : PostX K mg P T W D σ1 r := by
  cases r with
  | ok fl ρ' => exact Post.fix (r := .ok fl ρ') f h
  | exc x ρ' => exact fun cls d I σ' H' g => h cls d I σ' H' (f.trans g)
  | no => exact h
theorem PostX.nx {T : List Item} {D D' : Ends} {σ : L2.St} {r : Res Fl} {g : Env → Res Fl} (h : PostX K mg P T W D σ (r.bind fun f ρ1 => match f with | .nx => g ρ1 | f => .ok f ρ1)) (e1 : D'.rt = D.rt) (e2 : D'.bk = D.bk) (e3 : D'.ct = D.ct)
    (q : ∀ ρ1 σ' H', Fix P σ σ' → Cov σ' ρ1 → Rep K mg H' (pairs σ' ρ1 ++ T) [] → PostX K mg P T W D σ (g ρ1) → D'.nx σ' H') : PostX K mg P T W D' σ r := by
  cases r with
  | ok fl ρ' =>
    cases fl with
    | nx => exact fun σ' H' f c R => q ρ' σ' H' f c R h
    | brk =>
      have h : Post K mg P T D σ (.ok .brk ρ') := h
      exact fun σ' H' f c R => by rw [e2]; exact h σ' H' f c R
    | ct =>
      have h : Post K mg P T D σ (.ok .ct ρ') := h
      exact fun σ' H' f c R => by rw [e3]; exact h σ' H' f c R
    | ret o =>
      have h : Post K mg P T D σ (.ok (.ret o) ρ') := h
      exact fun v σ' H' f c R => by rw [e1]; exact h v σ' H' f c R
  | exc x ρ' => exact h
  | no => exact h
theorem PostX.more {ks T : List Item} {D : Ends} {σ : L2.St} {r : Res Fl} (h : PostX K mg P T W D σ r) : PostX K mg P (ks ++ T) W D σ r := by
  cases r with
  | ok fl ρ' => exact Post.more (r := .ok fl ρ') h
  | exc x ρ' =>
    intro cls d I σ' H' f c hm hI R
    refine h cls d I σ' H' f c hm hI ?_
    have R1 : Rep K mg H' (ks ++ (I ++ (pairs σ' ρ' ++ T))) [] := R.perm (((List.Perm.append_left I (rot _ _ _))).trans (rot _ _ _))
    exact R1.drops
  | no => exact h
/-! ### raise -/
/-! ### expressions that may raise -/
end

/-! ### defs that may raise -/
section
variable {P : Program} {w : World} {K : PySem.W.Frag} {mg : Str → Option Value} {base : Heap}
end
section
variable {X : Cx} {W : WX}
end
end FB

/-! Exceptions caught: suites, try; what the head says of the classes. -/
namespace FB
open PySem PySem.Spec L2
open PyProof.Rows hiding St

/-! ### the classes -/
def subB (x y : Str) : Bool := decide (x = y) || decide (y = ("BoardError" : Str))
structure ExAll (K : PySem.W.Frag) (mg : Str → Option Value) (es : List Str) : Prop where
  gl : ∀ x ∈ es, mg x = some (.ref (He.ga K x))
  cc : ∀ x ∈ es, ExcC K (He.ga K x)
  kt : ∀ x ∈ es, ∀ y ∈ es, PySem.W.kitOne K (.ref (He.ga K x)) (.ref (He.ga K y)) = some (subB x y)
  em : ∀ x ∈ es, ∀ y ∈ es, PySem.W.exmOne K (.ref (He.ga K x)) (.ref (He.ga K y)) = some (subB x y)
  kv : ∀ x ∈ es, PySem.W.kitOne K (.ref (He.ga K x)) (.type "ValueError") = some true
/-! the head's hook, with wishes of one's own -/
def obsP (px : List (PySem.W.Frag → Bool)) (fa : List He.Fa) (fn : List He.DefD) (K : PySem.W.Frag) : He.AlD := (((He.obsD fa fn K).1 && px.all fun p => p K), (He.obsD fa fn K).2)
def SaysP (px : List (PySem.W.Frag → Bool)) (fa : List He.Fa) (fn : List He.DefD) (K : PySem.W.Frag) : Prop := obsP px fa fn K = He.valD fn
theorem SaysP.says {px : List (PySem.W.Frag → Bool)} {fa : List He.Fa} {fn : List He.DefD} {K : PySem.W.Frag} (c : SaysP px fa fn K) : He.SaysD fa fn K ∧ ∀ p ∈ px, p K = true := by
  have c1 : ((He.obsD fa fn K).1 && px.all fun p => p K) = true := congrArg (fun z : He.AlD => z.1) c
  have c2 : (He.obsD fa fn K).2 = fn.map He.DefD.val := congrArg (fun z : He.AlD => z.2) c
  obtain ⟨h1, h2⟩ := Bool.and_eq_true_iff.mp c1
  exact ⟨Prod.ext h1 c2, fun p hp => List.all_eq_true.mp h2 p hp⟩

section
variable {X : Cx} {K : PySem.W.Frag} {mg : Str → Option Value} {P : List Nat} {W : WX}
/-! ### frames of what is known of a slot and the rest -/
def FrE (a : Addr) (i : Nat) (I : List Item) (σ : L2.St) (T : List Item) : Prop := σ[i]? = some (some (.ref a)) ∧ ∃ T0, T.Perm (I ++ T0)
theorem FrE.more {a : Addr} {i : Nat} {I T : List Item} {σ : L2.St} {z : Item} (h : FrE a i I σ T) : FrE a i I σ (z :: T) := by
  obtain ⟨h1, T0, h2⟩ := h
  exact ⟨h1, z :: T0, (h2.cons z).trans List.perm_middle.symm⟩
theorem FrE.fix {a : Addr} {i : Nat} {I T : List Item} {σ σ' : L2.St} (f : Fix (i :: P) σ σ') (h : FrE a i I σ T) : FrE a i I σ' T := ⟨(f.2 i (List.mem_cons_self ..)).trans h.1, h.2⟩
variable {a : Addr} {i : Nat} {I : List Item}
/-! ### isinstance of what the suite holds -/
variable {x : Exn} {cls : Value} {d : Option Addr} {oe : Obj} {pn : List (Addr × Obj)} {es : List Str}
/-- a tuple of classes -/
structure SCls (X : Cx) (es : List Str) (xs : List Expr) (ys : List Str) : Prop where
  pa : PA X xs (fun _ H Q => Q (ys.map fun y => V.ref (He.ga X.K y)) H)
  mem : ∀ y ∈ ys, y ∈ es
/-! ### e.f -/
end

/-! ### statements of a suite -/
section
variable {X : Cx} {K : PySem.W.Frag} {mg : Str → Option Value} {P : List Nat} {W : WX} {a : Addr} {i : Nat} {I : List Item}
end

/-! ### try -/
section
variable {X : Cx} {P : List Nat} {W : WX}
theorem CxOk.tr {X : Cx} (ok : CxOk X) {pn : List (Addr × Obj)} {xe : Value → Shared → Prop} : CxOk (X.tr pn xe) := ⟨ok.calm, ok.units, ok.nd⟩
theorem Cov.clear {σ : L2.St} {ρ : Env} (c : Cov σ ρ) (i : Nat) : Cov (σ.set i none) (ρ.set i none) := by
  refine ⟨by simp [c.len], fun j q h => ?_⟩
  by_cases e : i = j
  · subst e
    have hj : i < ρ.length := by
      have := (List.getElem?_eq_some_iff.mp h).1
      simpa using this
    simp [hj] at h
  · rw [List.getElem?_set_ne e] at h ⊢
    exact c.ex j q h
end
end FB

/-! A dict against a text: never equal. -/
namespace FB
open PySem PySem.Spec L2 PySem.Calls
open PyProof.Rows hiding St
section
variable {A : Around} {s : Shared}
end
section
variable {X : Cx} {K : PySem.W.Frag} {mg : Str → Option Value}
def O.isD (o : O) : Bool := match o.toD with
  | .dct _ _ => true
  | _ => false
def O.isS (o : O) : Bool := match o.toD with
  | .str _ => true
  | _ => false
/-! x in l -/
def D.isS : D → Bool
  | .str _ => true
  | _ => false
def allS (o : O) : Bool := match o.toD with
  | .lst ds => ds.all D.isS
  | _ => false
def inH (a b : O) : Option O := if (a.isD && allS b) = true then some (.val (.bl false)) else inO a b
/-! ### .upper() -/
/-! ### {k: v} -/
def mDisp1 (f g : Pf) : M O := fun ρ => match f ρ, g ρ with
  | some (.val (.str s)), some (.val d) => .ok (.dct [.inr s] [.val d]) ρ
  | some (.val (.int s)), some (.val d) => .ok (.dct [.inl s] [.val d]) ρ
  | _, _ => .no
theorem se_disp1 {a b : Expr} {pos : Pos} {f g : Pf} (ha : SP X a f) (hb : SP X b g) : SE X (.Dict [some a] [b] pos) (mDisp1 f g) :=
  PE.imp (pe_disp (pps_cons ha hb pps_nil) rfl rfl (by simp) (by show 1 ≤ 15; decide)) fun σ H Q w => by
    obtain ⟨ρ, T, o, ρ', c, R, e, k⟩ := w
    unfold mDisp1 at e
    split at e
    · rename_i s d e1 e2
      cases e
      intro p hp
      have R1 := R.new (o := .dK []) hp
      have R2 : Rep X.K X.mg _ (pairs σ ρ ++ (.raw p (.dK []) :: T)) [] := R1.perm List.perm_middle.symm
      refine ⟨ρ, _, [], .val (.str s), c, R2, e1, fun x H1 s1 R3 => ⟨ρ, _, _, .val d, c, R3, e2, fun y H2 s2 R4 => ?_⟩⟩
      obtain rfl := (R4.bdrop).shStr (List.mem_cons_self ..) rfl
      have R5 : Rep X.K X.mg H2 (.raw p (.dK []) :: (.ov y (.val d) :: (pairs σ ρ ++ T))) [] := (R4.keep.nob.perm ((List.perm_middle.cons _).trans (.swap _ _ _)))
      refine ⟨R5.rawAt, [(.inr s, y)], rfl, (by show 1 ≤ 15; decide), ?_⟩
      refine k _ _ c ?_
      have R6 := R5.write (o' := .dK [(Sum.inr s, y)])
      exact Rep.closeD (kvs := [(Sum.inr s, y)]) R6 rfl ⟨rfl, by simp⟩
    · rename_i s d e1 e2
      cases e
      intro p hp
      have R1 := R.new (o := .dK []) hp
      have R2 : Rep X.K X.mg _ (pairs σ ρ ++ (.raw p (.dK []) :: T)) [] := R1.perm List.perm_middle.symm
      refine ⟨ρ, _, [], .val (.int s), c, R2, e1, fun x H1 s1 R3 => ⟨ρ, _, _, .val d, c, R3, e2, fun y H2 s2 R4 => ?_⟩⟩
      obtain rfl := (R4.bdrop).shInt (List.mem_cons_self ..) rfl
      have R5 : Rep X.K X.mg H2 (.raw p (.dK []) :: (.ov y (.val d) :: (pairs σ ρ ++ T))) [] := (R4.keep.nob.perm ((List.perm_middle.cons _).trans (.swap _ _ _)))
      refine ⟨R5.rawAt, [(.inl s, y)], rfl, (by show 1 ≤ 15; decide), ?_⟩
      refine k _ _ c ?_
      have R6 := R5.write (o' := .dK [(Sum.inl s, y)])
      exact Rep.closeD (kvs := [(Sum.inl s, y)]) R6 rfl ⟨rfl, by simp⟩
    · cases e
end
end FB

/-! simp rules for what may raise. -/
namespace FB
open PySem PySem.Spec L2
open PyProof.Rows hiding St
variable {ρ : Env}
@[simp] theorem e_sqKx (b : M Fl) (x : Exn) : sqK b (.exc x ρ) = .exc x ρ := (rfl)
@[simp] theorem e_exKx (x : Exn) : exK (.exc x ρ) = .exc x ρ := (rfl)
@[simp] theorem e_rtKx (x : Exn) : rtK (.exc x ρ) = .exc x ρ := (rfl)
@[simp] theorem e_soKx (i : Nat) (x : Exn) : soK i (.exc x ρ) = .exc x ρ := (rfl)
def d1K (ρ : Env) : Option O → Option O → Res O
  | some (.val (.str s)), some (.val d) => .ok (.dct [.inr s] [.val d]) ρ
  | some (.val (.int s)), some (.val d) => .ok (.dct [.inl s] [.val d]) ρ
  | _, _ => .no
@[simp] theorem e_mDisp1 (f g : Pf) : mDisp1 f g ρ = d1K ρ (f ρ) (g ρ) := (rfl)
@[simp] theorem e_d1I (s : Int) (d : D) : d1K ρ (some (.val (.int s))) (some (.val d)) = .ok (.dct [.inl s] [.val d]) ρ := (rfl)
@[simp] theorem e_d1K (s : Str) (d : D) : d1K ρ (some (.val (.str s))) (some (.val d)) = .ok (.dct [.inr s] [.val d]) ρ := (rfl)
@[simp] theorem toD_dct (ks : List Key) (os : List O) : (O.dct ks os).toD = .dct ks (O.toDs os) := (rfl)
/-! texts, dicts -/
@[simp] theorem inH_str (a : Str) (o : O) : inH (.val (.str a)) o = inO (.val (.str a)) o := (rfl)
@[simp] theorem inH_non (o : O) : inH (.val .non) o = inO (.val .non) o := (rfl)
end FB

/-! enumerate of a tuple; a tuple times a number; texts of the module. -/
namespace ET
open PySem PySem.Sem
open AutoSeq1 (wpAny_loadPart')
theorem meets_new (l : Addr) (items : Array Value) (n : Nat) (dct : Option Addr) (sl : Array (Option Value)) :
    Meets (Builtin.«enumerate.__new__» ⟨[.type "enumerate", .ref l], []⟩) (fun _ R s => s.heap.get? l = some { cls := .type "tuple", dict := dct, data := .seq items n, slots := sl } ∧
      R (.ok (.ret (.ref (s.heap.push { cls := .type "tuple_iterator", data := .fields #[.ref l, .int 0 0] }).objs.size)))
        { s with heap := (s.heap.push { cls := .type "tuple_iterator", data := .fields #[.ref l, .int 0 0] }).push { cls := .type "enumerate", data := .fields #[.none, .bool false, .ref s.heap.objs.size, rawInt 0, .none, .none] } }) :=
  .of_wp fun prog w A R s h => by
    obtain ⟨hp, g, d, tk, os⟩ := s; obtain ⟨hl, h⟩ := h
    have hsub := sub_enumerate
    have hL : Heap.IsTuple (Shared.heap ⟨hp, g, d, tk, os⟩) l items := ⟨_, hl, rfl, n, rfl⟩
    wp_walk using wpAny_loadPart' hl
    refine wpAny_stack_any fun st => wpAny_pure ?_
    split
    · rename_i c _ _ _ _ _
      cases (c == Value.type "enumerate")
      · wp_walk using wpAny_loadPart' hl, wpAny_pyIter_tuple hL
        exact ⟨_, rfl, h⟩
      · wp_walk using wpAny_loadPart' hl, wpAny_pyIter_tuple hL
        exact ⟨_, rfl, h⟩
    · wp_walk using wpAny_loadPart' hl, wpAny_pyIter_tuple hL
      exact ⟨_, rfl, h⟩
section
variable {prog : Program} {w : World} {A : Around} {E : Value → Shared → Prop} {s : Shared}
theorem call_tuple {l : Addr} {items : Array Value} {Q : Value → Shared → Prop} (hL : s.heap.IsTuple l items)
    (h : ∀ h', IsEnum h' (s.heap.objs.size + 1) s.heap.objs.size 0 .none → h'.IsTupleIter s.heap.objs.size l 0 → (∀ b o, s.heap.get? b = some o → h'.get? b = some o) → Q (.ref (s.heap.objs.size + 1)) { s with heap := h' }) :
    wpAny (model prog w) A (call (.type "enumerate") [.ref l]) Q E s := by
  obtain ⟨⟨c, dct, dt, sl⟩, hl, hc, n, hd⟩ := hL
  replace hc : c = .type "tuple" := hc
  replace hd : dt = .seq items n := hd
  subst hc hd
  refine callType_new PySem.F.called_enumerate (by decide) (PySem.F.typeCall_enumerate_1 _) (PySem.F.newCall_enumerate_1 _) (fun obj => PySem.F.args_object_init_2 obj _) PySem.F.entry_enumerate_new
    (meets_new l items n dct sl) ⟨hl, ?_⟩
  have hz : (s.heap.push { cls := .type "tuple_iterator", data := .fields #[.ref l, .int 0 0] }).objs.size = s.heap.objs.size + 1 := Heap.size_push ..
  show _ ∧ _
  rw [hz]
  have he : IsEnum ((s.heap.push { cls := .type "tuple_iterator", data := .fields #[.ref l, .int 0 0] }).push
      { cls := .type "enumerate", data := .fields #[.none, .bool false, .ref s.heap.objs.size, rawInt 0, .none, .none] }) (s.heap.objs.size + 1) s.heap.objs.size 0 .none := by
    have := Heap.get?_push_size (s.heap.push { cls := .type "tuple_iterator", data := .fields #[.ref l, .int 0 0] })
      (o := { cls := .type "enumerate", data := .fields #[.none, .bool false, .ref s.heap.objs.size, rawInt 0, .none, .none] }) rfl
    rw [hz] at this; exact this
  exact ⟨⟨_, he, rfl⟩, h _ he ⟨_, Heap.get?_push_of_some _ (Heap.get?_push_size _ rfl), rfl, rfl⟩ fun b o x => Heap.get?_push_of_some _ (Heap.get?_push_of_some _ x)⟩
theorem drawsT (hh : A.handled = none) (it l : Addr) (hne : l ≠ it) (items : Array Value) :
    Draws prog w A it [it, l] items.size (fun i v => items[i]? = some v) (fun i h => h.IsTupleIter it l i ∧ h.IsTuple l items) where
  live := fun _ _ st => let ⟨o, ho, _⟩ := st.1; ⟨o, ho⟩
  frame := fun _ _ _ st hk => ⟨st.1.at fun o e => hk it (by simp) o e, st.2.at fun o e => hk l (by simp) o e⟩
  item := fun i s Q E hi st hQ => by
    refine RZ.nextOf_tuple_item st.1 st.2 (x := items[i]) (by simp [hi]) fun h' hit' hs' => ?_
    exact hQ _ h' s.toks (by simp [hi]) ⟨hit', st.2.extBut hs'.extBut hne⟩ hs'
  done := fun s Q E st hE => RZ.nextOf_tuple_end hh st.1 st.2 (by simp) hE
end
end ET
namespace FB
open PySem PySem.Spec L2
open PyProof.Rows hiding St
/-- the tuple at a as it stands, each item in a new pair -/
def ItU (K : PySem.W.Frag) (a : Addr) : It :=
  ⟨fun i H => ∃ (xs : List V) (x : V), SqT K H a xs ∧ xs[i]? = some x, fun i H v H' => ∃ T x, v = .ref T ∧ H T = none ∧ H' = upd H T (.tup [.int (i : Nat), x]) ∧ ∀ xs, SqT K H a xs → xs[i]? = some x, fun i H => ∃ xs : List V, SqT K H a xs ∧ xs.length ≤ i⟩
theorem turn_enumU {P : Program} {w : World} {K : PySem.W.Frag} {elts : List Expr} {kk : Nat} {tpos : Pos} (a e it : Addr) :
    Turn P w K (.Tuple elts kk tpos) (ItU K a) [e, it] e (fun i h => (∃ old, IsEnum h e it ((i : Nat) : Int) old) ∧ h.IsTupleIter it a i ∧ e ≠ it ∧ a ≠ it ∧ a ≠ e) where
  mem := by simp
  obj := fun i h st b hb => by
    obtain ⟨⟨old, he⟩, ⟨o, ho, hc, hd⟩, _⟩ := st
    have e' : b = e ∨ b = it := by simpa using hb
    rcases e' with z | z
    · rw [z]; exact ⟨_, he, fun v q => nomatch q⟩
    · rw [z]; exact ⟨o, ho, fun v q => by rw [hd] at q; cases q⟩
  keep := fun i h h' st k => let ⟨⟨old, he⟩, hi, hne⟩ := st; ⟨⟨old, k e (by simp) _ he⟩, hi.at fun o q => k it (by simp) o q, hne⟩
  item := by
    intro X hP hw hK hc i pins s σ H E I hf st hg
    subst hP hw hK
    obtain ⟨⟨old, he⟩, hit, hne, hai, hae⟩ := st
    obtain ⟨xs, x, hq, hx⟩ := hg
    obtain ⟨its, rv, p, hz⟩ := I.tuple hq
    obtain ⟨u, hu, ru⟩ := rv.get hx
    have hel : e < s.heap.objs.size := Heap.lt_size he
    have hil : it < s.heap.objs.size := by obtain ⟨_, q, _⟩ := hit; exact Heap.lt_size q
    have hi : i < its.toArray.size := by
      have := (List.getElem?_eq_some_iff.mp hu).1
      simpa using this
    refine wpAny_pyNext_enum_itemD (ET.drawsT (A := X.A.in1) (show X.A.in1.handled = none from I.ok.hd hc) it a hai its.toArray) he ⟨hit, p⟩ hi hne (by simp [hne]; exact fun z => hae z.symm) fun x' h' tk hx' ho st' hT hsz hk => ?_
    have ex : x' = u := by
      have h1 : its[i]? = some x' := by simpa using hx'
      rw [hu] at h1
      cases h1; rfl
    subst ex
    obtain ⟨hit', _⟩ := st'
    refine ⟨_, rfl, wpAny_letOwnedTupleGo_enum (s := { s with heap := h', toks := tk + 1 }) ho fun h'' he' sb => ?_⟩
    have hT2 : h''.get? s.heap.objs.size = some { cls := .type "tuple", data := .seq #[.int i tk, x'] } := (sb.2 _ (Nat.ne_of_gt hel)).trans hT
    have new : ObjOk X.prog X.w (upd H s.heap.objs.size (.tup [.int (i : Nat), x])) h'' s.heap.objs.size (.tup [.int (i : Nat), x]) :=
      ⟨by show 2 ≤ sizeLine; decide, [.int i tk, x'], .cons ⟨_, rfl⟩ (.cons ru .nil), ⟨_, hT2, rfl, _, rfl⟩⟩
    have I1 : Inv X pins σ (upd H s.heap.objs.size (.tup [.int (i : Nat), x])) { s with heap := h'', toks := tk + 1 } :=
      I.turnedNew (ch := [e, it]) (fun b ob hb q => (sb.2 b (fun z => hb (by simp [z]))).trans (hk b ob (fun z => hb (by simp [z])) (fun z => hb (by simp [z])) q)) hf (Nat.le_refl _) new
    refine ⟨.ref s.heap.objs.size, _, I1, rfl, ⟨_, x, rfl, I.hok.fresh (Nat.le_refl _), rfl, fun ys hy => by rw [I.tuple_inj hy hq]; exact hx⟩, ⟨⟨x', ?_⟩, hit'.at fun o q => (sb.2 it (Ne.symm hne)).trans q, hne, hai, hae⟩, fun b hb => ?_⟩
    · have e1 : ((i + 1 : Nat) : Int) = (i : Int) + 1 := by omega
      rw [e1]; exact he'
    · have hb' : b < s.heap.objs.size := by
        have e' : b = e ∨ b = it := by simpa using hb
        rcases e' with z | z
        · rw [z]; exact hel
        · rw [z]; exact hil
      rw [upd_ne (Nat.ne_of_lt hb')]
      exact (hf b hb).1
  done := by
    intro X hP hw hK hc i pins s σ H E I hf st hg
    subst hP hw hK
    obtain ⟨⟨old, he⟩, hit, hne, hai, hae⟩ := st
    obtain ⟨xs, hq, hx⟩ := hg
    obtain ⟨its, rv, p, hz⟩ := I.tuple hq
    obtain ⟨f0, f1, f2, f3, f4, f5⟩ := hf it (by simp)
    have hl := rv.length
    have hT : s.TypeIs (.ref e) "enumerate" := ⟨_, he, rfl⟩
    unfold pyNext
    refine wpAny_bind (wpAny_attempt (wpAny_callSpecial?_slot (name := Str.ofString "__next__") hT PySem.F.slot_enumerate_next
      (wpAny_call_entry PySem.F.slot_enumerate_next hT PySem.F.entry_enumerate_next ?_ (PySem.F.args_enumerate_next_1 _))))
    show wpAny _ _ (field (.ref e) 2 >>= _) _ _ _
    refine wpAny_bind (wpAny_field he rfl (x := .ref it) rfl ?_)
    refine wpAny_bind (RZ.nextOf_tuple_end (show X.A.in1.handled = none from I.ok.hd hc) hit p (by simp; omega) fun h' x he' hx' => ?_)
    obtain ⟨o, ho, hc2⟩ := hx'
    refine wpAny_bind (wpAny_isInstance (T := "StopIteration") (b := true) ⟨o, ho, hc2⟩ isSubtype_stop ?_)
    exact wpAny_pure ⟨rfl, I.turned (t' := s.toks) (fun b o hb q => he' b o hb q) f0 f1 f3 f4 f5⟩
  self := fun A i s Q E st h => let ⟨⟨_, he⟩, _⟩ := st; wpAny_pyIter_enum he h
def iEnumU (K : PySem.W.Frag) (ta : TA) : TI := fun σ H R => ta σ H fun vs H1 => ∃ a xs, vs = [.ref a] ∧ SqT K H1 a xs ∧ R (ItU K a) H1
theorem pi_enumU {X : Cx} {e : Expr} {ta : TA} {p pos tpos : Pos} {elts : List Expr} {kk : Nat} (hg : Gl X "enumerate") (hm : X.mg "enumerate" = none) (ha : PA X [e] ta) (hs : starEach [e] X.env = [(false, eval e X.env)] := by rfl) :
    PI X (.Tuple elts kk tpos) (.Call (.Name "enumerate" p) [e] [] pos) (iEnumU X.K ta) := by
  refine ⟨fun pins s σ H R I h => ?_⟩
  refine Call_ (ld_blt I hg hm boot_enumerate (PyProof.Rows.callWith_type1 (thn (ha.run pos pins s σ H _ I h) fun us s1 ⟨vs, H1, I1, r1, q1⟩ => ?_) hs rfl))
  obtain ⟨a, xs, ex, hq, q⟩ := q1
  subst ex
  cases r1 with
  | cons r rr =>
    cases rr
    cases r
    obtain ⟨its, rv, p', hz⟩ := I1.tuple hq
    have hal : a < s1.heap.objs.size := by obtain ⟨_, q, _⟩ := p'; exact Heap.lt_size q
    refine ET.call_tuple p' fun h' he hit hk => wpAny_pyIter_enum he ?_
    have I2 : Inv X pins σ H1 { s1 with heap := h' } := I1.kept (t' := s1.toks) hk
    refine ⟨s1.heap.objs.size + 1, [s1.heap.objs.size + 1, s1.heap.objs.size], _, _, H1, rfl, I2, turn_enumU a (s1.heap.objs.size + 1) s1.heap.objs.size, ⟨⟨.none, he⟩, hit, Nat.succ_ne_self _, Nat.ne_of_lt hal, Nat.ne_of_lt (Nat.lt_succ_of_lt hal)⟩, fun b hb => ?_, q⟩
    have e' : b = s1.heap.objs.size + 1 ∨ b = s1.heap.objs.size := by simpa using hb
    have hle : s1.heap.objs.size ≤ b := by
      rcases e' with z | z
      · rw [z]; exact Nat.le_add_right _ _
      · rw [z]; exact Nat.le_refl _
    exact I1.fpOk hle (I1.hok.fresh hle)
section
variable {X : Cx} {K : PySem.W.Frag} {mg : Str → Option Value}
theorem its_enumU {a : Addr} {ds : List D} : Its K mg (ItU K a) [.ov (.ref a) (.val (.tup ds))] (enumL ds) := by
  intro L H R
  obtain ⟨p, vs, e, hp, lp, R1⟩ := (Rep.lend R).shT (List.mem_cons_self ..) rfl
  cases e
  have hl : (enumL ds).length = ds.length := by unfold enumL; simp
  refine ⟨fun i d hd => ?_, ⟨vs, hp, by rw [hl]; omega⟩⟩
  obtain ⟨e, he, rfl⟩ := enumL_get hd
  have hi : i < ds.length := (List.getElem?_eq_some_iff.mp he).1
  have hv : vs[i]? = some (vs[i]'(by omega)) := by simp
  refine ⟨⟨vs, _, hp, hv⟩, fun x H' y => ?_⟩
  obtain ⟨T, u, rfl, hT, rfl, y⟩ := y
  have hu := y vs hp
  refine ⟨sameNew hT, ?_⟩
  have R2 := (R1.nth hu he).keep.nob
  have R3 : Rep K mg H (zipI [.int (i : Nat), u] ([D.int (i : Nat), e].map O.val) ++ (.ov (.ref a) (.val (.tup ds)) :: L)) [] := R2.scal fun _ => .int _
  exact Rep.newT R3 rfl hT
/-- enumerate of a list or of a tuple -/
def enE (ρ : Env) : D → Res (List D)
  | .lst ds => .ok (enumL ds) ρ
  | .tup ds => .ok (enumL ds) ρ
  | _ => .no
def enL : Res O → Res (List D)
  | .ok o ρ => enE ρ o.toD
  | .exc x ρ => .exc x ρ
  | .no => .no
def mEnumU (m : M O) : M (List D) := fun ρ => enL (m ρ)
theorem si_enumU {a : Expr} {elts : List Expr} {kk : Nat} {tpos : Pos} {p pos : Pos} {m : M O} (hg : Gl X "enumerate") (hm : X.mg "enumerate" = none) (ha : SE X a m) (hs : starEach (a :: []) X.env = (false, eval a X.env) :: starEach [] X.env := by rfl) : SI X (.Tuple elts kk tpos) (.Call (.Name "enumerate" p) [a] [] pos) (mEnumU m) :=
  PI.imp (FB.PI.or (pi_enum hg hm (pa_cons ha pa_nil hs) hs) (pi_enumU hg hm (pa_cons ha pa_nil hs) hs)) fun σ H R w => by
    obtain ⟨ρ, T, ds, ρ', c, Rp, e, k⟩ := w
    unfold mEnumU at e
    cases e1 : m ρ with
    | exc x ρ1 => rw [e1] at e; cases e
    | no => rw [e1] at e; cases e
    | ok o ρ1 =>
      rw [e1] at e
      have e : enE ρ1 o.toD = .ok ds ρ' := e
      unfold enE at e
      split at e
      · rename_i es hd
        cases e
        refine .inl ⟨ρ, T, o, _, c, Rp, e1, fun v H' c' R' => ?_⟩
        have R2 := R'.frz
        rw [hd] at R2
        obtain ⟨p, vs, rfl, hp, lp, _⟩ := R2.lend.shL (List.mem_cons_self ..) rfl
        exact ⟨p, vs, rfl, .inl hp, k _ _ _ c' its_enum R2⟩
      · rename_i es hd
        cases e
        refine .inr ⟨ρ, T, o, _, c, Rp, e1, fun v H' c' R' => ?_⟩
        have R2 := R'.frz
        rw [hd] at R2
        obtain ⟨p, vs, rfl, hp, lp, _⟩ := R2.lend.shT (List.mem_cons_self ..) rfl
        exact ⟨p, vs, rfl, hp, k _ _ _ c' its_enumU R2⟩
      · cases e
@[simp] theorem e_mEnumU {ρ : Env} (m : M O) : mEnumU m ρ = enL (m ρ) := (rfl)
@[simp] theorem e_enL {ρ : Env} (d : D) : enL (.ok (.val d) ρ) = enE ρ d := (rfl)
@[simp] theorem e_enEl {ρ : Env} (ds : List D) : enE ρ (.lst ds) = .ok (enumL ds) ρ := (rfl)
@[simp] theorem e_enEt {ρ : Env} (ds : List D) : enE ρ (.tup ds) = .ok (enumL ds) ρ := (rfl)
/-! a text of the module -/
end
end FB

/-! Own errors with fields, made and raised. -/
namespace FB
open PySem PySem.Spec L2
open PyProof.Rows hiding St

/-! a hook whose part of the heap holds the statics as well -/
section
variable {X : Cx} {K : PySem.W.Frag} {mg : Str → Option Value}
end
section
variable {P : Program} {w : World} {K : PySem.W.Frag} {mg : Str → Option Value} {base : Heap}
end
section
variable {X : Cx} {P : List Nat} {W : WX}
end
section
variable {X : Cx} {K : PySem.W.Frag} {mg : Str → Option Value}
/-! a tuple times a number -/
end
end FB

/-! is True. -/
namespace FB
open PySem PySem.Spec L2
open PyProof.Rows hiding St
section
variable {X : Cx} {K : PySem.W.Frag} {mg : Str → Option Value}
end
end FB

/-! Raising calls inside expressions: under not, a built-in, as what a comprehension goes over; d.get(k, x) of a dict just made. -/
namespace FB
open PySem PySem.Spec L2
open PyProof.Rows hiding St

section
variable {X : Cx} {W : WX}
/-! d.get(k, x), d a dict just made -/
end
variable {ρ : Env}
@[simp] theorem e_m1Kx (op : O → Option O) (x : Exn) : m1K op (.exc x ρ) = .exc x ρ := (rfl)
@[simp] theorem e_notVKx (x : Exn) : notVK (.exc x ρ) = .exc x ρ := (rfl)
@[simp] theorem e_itAx (x : Exn) : itA (.exc x ρ) = .exc x ρ := (rfl)
end FB

/-! Dicts walked: they are locked meanwhile. -/
namespace FB
open PySem PySem.Spec L2
open PyProof.Rows hiding St
section
variable {X : Cx} {K : PySem.W.Frag} {mg : Str → Option Value}
theorem rd_uniq {G : Hp} {d : Addr} {kvs : List (Key × V)} {u : HO} (h : Rd G d (.dK kvs)) (h2 : Rd G d u) (hu : ∀ o w, u ≠ .frz o w) : u = .dK kvs := by
  rcases h with h | ⟨o, h⟩ <;> rcases h2 with h2 | ⟨o2, h2⟩
  · rw [h] at h2; cases h2; rfl
  · rw [h] at h2; cases h2
  · rw [h] at h2; cases h2; exact absurd rfl (hu _ _)
  · rw [h] at h2; cases h2; rfl
theorem LkS.rdn {d : Addr} {kvs : List (Key × V)} {G G' : Hp} (l : LkS d kvs G G') {a : Addr} {u : HO} (h : Rd G a u) (hu : ∀ o w, u ≠ .frz o w) : Rd G' a u := by
  by_cases e : a = d
  · subst e
    rw [rd_uniq l.rd h hu]; exact l.rd'
  · rcases h with h | ⟨o, h⟩
    · exact .inl ((l.ne a e).trans h)
    · exact .inr ⟨o, (l.ne a e).trans h⟩
theorem LkS.seqT {d : Addr} {kvs : List (Key × V)} {G G' : Hp} (l : LkS d kvs G G') {a : Addr} {xs : List V} (h : SqT K G a xs) : SqT K G' a xs := by
  rcases h with h | h
  · exact .inl (l.rdn h fun _ _ z => by cases z)
  · exact .inr h
theorem LkS.seqL {d : Addr} {kvs : List (Key × V)} {G G' : Hp} (l : LkS d kvs G G') {a : Addr} {xs : List V} (h : SqL K G a xs) : SqL K G' a xs := by
  rcases h with h | h
  · exact .inl (l.rdn h fun _ _ z => by cases z)
  · exact .inr h
mutual
theorem Vw.lk {G G' : Hp} {d : Addr} {kvs : List (Key × V)} (l : LkS d kvs G G') : ∀ {v : V} {x : D}, Vw K mg G v x → Vw K mg G' v x
  | _, _, .non => .non
  | _, _, .bl b => .bl b
  | _, _, .int i => .int i
  | _, _, .str s h => .str s h
  | _, _, .tup h hs => .tup (l.seqT h) (Vws.lk l hs)
  | _, _, .lst h hs => .lst (l.rdn h fun _ _ z => by cases z) (Vws.lk l hs)
  | _, _, .scr h => .scr (l.seqL h)
  | _, _, .fn h => .fn h
  | _, _, .dct h hk hs => .dct (l.rdn h fun _ _ z => by cases z) hk (Vws.lk l hs)
  | _, _, .ins (a := a) h hm hn hs => by
    have e : a ≠ d := fun e => by
      subst e
      rcases l.rd with z | ⟨o, z⟩ <;> rw [h] at z <;> cases z
    exact .ins ((l.ne a e).trans h) hm hn (Vws.lk l hs)
theorem Vws.lk {G G' : Hp} {d : Addr} {kvs : List (Key × V)} (l : LkS d kvs G G') : ∀ {vs : List V} {ds : List D}, Vws K mg G vs ds → Vws K mg G' vs ds
  | _, _, .nil => .nil
  | _, _, .cons h t => .cons (Vw.lk l h) (Vws.lk l t)
end
mutual
theorem VO.lk {G G' H H' : Hp} {d : Addr} {kvs : List (Key × V)} (l : LkS d kvs G G') : ∀ {v : V} {o : O} {as : List Addr}, VO K mg G H v o as → (∀ a ∈ as, H' a = H a) → VO K mg G' H' v o as
  | _, _, _, .val h, _ => .val (h.lk l)
  | _, _, _, .lst h hs, q => .lst ((q _ (by simp)).trans h) (VOs.lk l hs fun a ha => q a (by simp [ha]))
  | _, _, _, .dct h hk hs, q => .dct ((q _ (by simp)).trans h) hk (VOs.lk l hs fun a ha => q a (by simp [ha]))
  | _, _, _, .ins h hm hn hs, q => .ins ((q _ (by simp)).trans h) hm hn (VOs.lk l hs fun a ha => q a (by simp [ha]))
theorem VOs.lk {G G' H H' : Hp} {d : Addr} {kvs : List (Key × V)} (l : LkS d kvs G G') : ∀ {vs : List V} {os : List O} {as : List Addr}, VOs K mg G H vs os as → (∀ a ∈ as, H' a = H a) → VOs K mg G' H' vs os as
  | _, _, _, .nil, _ => .nil
  | _, _, _, .cons h t, q => .cons (VO.lk l h fun a ha => q a (by simp [ha])) (VOs.lk l t fun a ha => q a (by simp [ha]))
end
/-- the item locks another one -/
def NoPin (d : Addr) : Item → Prop
  | .pin p _ _ => p ≠ d
  | .but _ x => NoPin d x
  | _ => True
theorem LkS.ers {d2 d : Addr} {kvs : List (Key × V)} {G G' : Hp} (l : LkS d kvs G G') (h : d ≠ d2) : LkS d kvs (ers d2 G) (ers d2 G') := by
  refine ⟨fun a ha => ?_, ?_, ?_⟩
  · unfold FB.ers
    split
    · rfl
    · exact l.ne a ha
  · rcases l.rd with q | ⟨o, q⟩
    · exact .inl (by rw [ers_ne h]; exact q)
    · exact .inr ⟨o, by rw [ers_ne h]; exact q⟩
  · rcases l.rd' with q | ⟨o, q⟩
    · exact .inl (by rw [ers_ne h]; exact q)
    · exact .inr ⟨o, by rw [ers_ne h]; exact q⟩
theorem IOk.lk {G G' H H' : Hp} {d : Addr} {kvs : List (Key × V)} (l : LkS d kvs G G') {x : Item} {as : List Addr} (h : IOk K mg G H x as) (n : NoPin d x) (q : ∀ a ∈ as, H' a = H a) : IOk K mg G' H' x as := by
  induction h generalizing G' H' with
  | ov h => exact .ov (h.lk l q)
  | raw h => exact .raw ((q _ (by simp)).trans h)
  | pin h => exact .pin ((l.ne _ n).trans h)
  | @but G H d2 x as h ih =>
    by_cases e : d = d2
    · subst e
      have e2 : ers d G' = ers d G := by
        funext a
        unfold ers
        split
        · rfl
        · rename_i ha; exact l.ne a ha
      refine .but ?_
      rw [e2]
      exact h.mono (Same.refl _) q
    · exact .but (ih (l.ers e) n q)
theorem IOk.noPin {G H : Hp} {d : Addr} {x : Item} {as : List Addr} (h : IOk K mg G H x as) : (∀ od u, G d ≠ some (.frz od u)) → NoPin d x := by
  induction h with
  | ov h => exact fun _ => trivial
  | raw h => exact fun _ => trivial
  | pin h => exact fun z e => by subst e; exact z _ _ h
  | @but G H d2 x as h ih =>
    intro z
    refine ih fun od u q => ?_
    exact z od u (ers_some q).2
theorem IsOk.lk {G G' H H' : Hp} {d : Addr} {kvs : List (Key × V)} (l : LkS d kvs G G') : ∀ {L : List Item} {as : List Addr}, IsOk K mg G H L as → (∀ x ∈ L, NoPin d x) → (∀ a ∈ as, H' a = H a) → IsOk K mg G' H' L as
  | _, _, .nil, _, _ => .nil
  | _, _, .cons h t, n, q => by
    refine .cons ?_ (IsOk.lk l t (fun x hx => n x (List.mem_cons_of_mem _ hx)) fun a ha => q a (by simp [ha]))
    exact h.lk l (n _ (List.mem_cons_self ..)) fun a ha => q a (by simp [ha])
theorem IsOk.noPin {G H : Hp} {d : Addr} {kvs : List (Key × V)} (h : G d = some (.dK kvs)) : ∀ {L : List Item} {as : List Addr}, IsOk K mg G H L as → ∀ x ∈ L, NoPin d x
  | _, _, .nil, x, hx => by simp at hx
  | _, _, .cons q t, x, hx => by
    rcases List.mem_cons.mp hx with e | hx
    · subst e
      exact q.noPin fun od u z => by rw [h] at z; cases z
    · exact IsOk.noPin h t x hx
variable {H : Hp} {L : List Item}
/-- a shared dict: it stands locked, or it may be locked -/
theorem Rep.dctAt {v : V} {ks : List Key} {ds : List D} (R : Rep K mg H (.ov v (.val (.dct ks ds)) :: L) []) :
    ∃ d kvs, v = .ref d ∧ kvs.map (·.1) = ks ∧ ((∃ od, H d = some (.frz od (.dK kvs)) ∧ Rep K mg H (.pin d od (.dK kvs) :: L) []) ∨
      (H d = some (.dK kvs) ∧ (∀ x ∈ L, NoPin d x) ∧ ∀ od, Rep K mg (upd H d (.frz od (.dK kvs))) (.pin d od (.dK kvs) :: L) [])) := by
  obtain ⟨A, nd, ok, hb⟩ := R
  cases ok with
  | cons h t =>
    cases h with
    | ov h =>
      cases h with
      | val h =>
        cases h with
        | dct h hk hs =>
          rename_i d kvs
          refine ⟨d, kvs, rfl, hk.1, ?_⟩
          rcases h with h | ⟨od, h⟩
          · obtain ⟨hA, hd⟩ := hide_some h
            refine .inr ⟨hd, t.noPin h, fun od => ?_⟩
            have e : hide (upd H d (.frz od (.dK kvs))) _ d = some (.frz od (.dK kvs)) := (hide_out hA).trans upd_same
            refine ⟨_, nd, .cons (as := []) (.pin e) (t.lk (d := d) (kvs := kvs) ⟨fun a ha => ?_, .inl h, .inr ⟨od, e⟩⟩ (t.noPin h) fun a ha => upd_ne fun z => hA (z ▸ ha)), fun _ z => by simp at z⟩
            unfold hide
            rw [upd_ne ha]
          · exact .inl ⟨od, (hide_some h).2, _, nd, .cons (as := []) (.pin h) t, fun _ z => by simp at z⟩
theorem Rep.pinAt {d : Addr} {od : Obj} {u : HO} (R : Rep K mg H (.pin d od u :: L) []) : H d = some (.frz od u) := by
  obtain ⟨A, nd, ok, hb⟩ := R
  cases ok with
  | cons h t =>
    cases h with
    | pin h => exact (hide_some h).2
theorem Rep.unlock {d : Addr} {od : Obj} {kvs : List (Key × V)} (R : Rep K mg H (.pin d od (.dK kvs) :: L) []) (n : ∀ x ∈ L, NoPin d x) : Rep K mg (upd H d (.dK kvs)) L [] := by
  obtain ⟨A, nd, ok, hb⟩ := R
  cases ok with
  | cons h t =>
    rename_i bs
    cases h with
    | pin h =>
      obtain ⟨hA, hd⟩ := hide_some h
      have hA : d ∉ bs := hA
      have e : hide (upd H d (.dK kvs)) ([] ++ bs) d = some (.dK kvs) := (hide_out hA).trans upd_same
      refine ⟨bs, nd, t.lk (d := d) (kvs := kvs) ⟨fun a ha => ?_, .inr ⟨od, h⟩, .inl e⟩ n fun a ha => upd_ne fun z => hA (z ▸ ha), fun _ z => by simp at z⟩
      unfold hide
      rw [upd_ne ha]
theorem NoPin.pairs {d : Addr} : ∀ {σ : L2.St} {ρ : Env}, ∀ x ∈ pairs σ ρ, NoPin d x := by
  intro σ
  induction σ with
  | nil => intro ρ x hx; rw [pairs_nil] at hx; simp at hx
  | cons v σ ih =>
    intro ρ x hx
    cases ρ with
    | nil => rw [pairs_nil'] at hx; simp at hx
    | cons o ρ =>
      cases v with
      | none => rw [pairs_ns] at hx; exact ih x hx
      | some v =>
        cases o with
        | none => rw [pairs_sn] at hx; exact ih x hx
        | some o =>
          rw [pairs_ss] at hx
          rcases List.mem_cons.mp hx with e | hx
          · subst e; trivial
          · exact ih x hx
def keyD : Key → D
  | .inl i => .int i
  | .inr s => .str s
def keyOk : Key → Bool
  | .inl _ => true
  | .inr s => PyData.strOk s
theorem key_vwD {G : Hp} {k : Key} (h : keyOk k = true) : Vw K mg G (kV k) (keyD k) := by
  cases k with
  | inl i => exact .int i
  | inr s => exact .str s h
theorem its_keys {d : Addr} {od : Obj} {kvs : List (Key × V)} (hk : (kvs.map (·.1)).all keyOk = true) : Its K mg (Itk d od kvs) [.pin d od (.dK kvs)] ((kvs.map (·.1)).map keyD) := by
  intro L H R
  have hH := Rep.pinAt R
  refine ⟨fun i x hx => ?_, ⟨hH, by simp⟩⟩
  have hi : i < kvs.length := by
    have := (List.getElem?_eq_some_iff.mp hx).1
    simpa using this
  refine ⟨⟨hH, hi⟩, fun y H' q => ?_⟩
  obtain ⟨e, k, v, q1, q2⟩ := q
  subst e q2
  refine ⟨Same.refl _, ?_⟩
  rw [List.map_map, List.getElem?_map, q1] at hx
  cases hx
  refine R.scal fun G => key_vwD ?_
  rw [List.all_eq_true] at hk
  exact hk k (List.mem_map.mpr ⟨_, List.mem_of_getElem? q1, rfl⟩)
/-- a name's dict is shared from now on; its keys -/
def keysOf (i : Nat) (ρ : Env) : Option (List D × Env) := match ρ[i]? with
  | some (some o) => match o.toD with
    | .dct ks ds => if ks.all keyOk = true ∧ ks.length ≤ 1000000 then some (ks.map keyD, ρ.set i (some (.val (.dct ks ds)))) else none
    | _ => none
  | _ => none
theorem keysOf_eq {i : Nat} {ρ : Env} {p : List D × Env} (h : keysOf i ρ = some p) : ∃ o ks ds, ρ[i]? = some (some o) ∧ o.toD = .dct ks ds ∧ ks.all keyOk = true ∧ p = (ks.map keyD, ρ.set i (some (.val (.dct ks ds)))) ∧ ks.length ≤ 1000000 := by
  unfold keysOf at h
  split at h
  · rename_i o e
    split at h
    · rename_i ks ds e2
      split at h
      · rename_i hk
        cases h
        exact ⟨o, ks, ds, e, e2, hk.1, rfl, hk.2⟩
      · cases h
    · cases h
  · cases h
/-- the name's tree is shared from now on (nothing is done) -/
theorem Rep.frzAt {σ : L2.St} {ρ : Env} {T : List Item} {i : Nat} {v : V} {o : O} (hv : σ[i]? = some (some v)) (e : ρ[i]? = some (some o)) (R : Rep K mg H (pairs σ ρ ++ T) []) :
    Rep K mg H (pairs σ (ρ.set i (some (.val o.toD))) ++ T) [] ∧ Rep K mg H (.ov v (.val o.toD) :: (pairs σ (ρ.set i (some (.val o.toD))) ++ T)) [] := by
  have hl : i < ρ.length := (List.getElem?_eq_some_iff.mp e).1
  have R1 := (R.perm ((pairs_take hv e).append_right T)).frz
  have R2 : Rep K mg H (.ov v (.val o.toD) :: (.ov v (.val o.toD) :: pairs σ (ρ.set i none) ++ T)) [] := R1.lend.keep
  exact ⟨R1.perm ((pairs_back hv hl).append_right T), R2.perm (((pairs_back hv hl).append_right T).cons _)⟩
def mForK (i : Nat) (a : D → Env → Option Env) (b : M Fl) : M Fl := fun ρ => match keysOf i ρ with
  | some p => forL a b p.1 p.2
  | none => .no
theorem psOr {X : Cx} {st : Stmt} {t u : TS} (h : PS X st t) (h' : PS X st u) : PS X st (fun D σ H => t D σ H ∨ u D σ H) := ⟨fun pins s σ H D I w => w.elim (fun w => h.run pins s σ H D I w) fun w => h'.run pins s σ H D I w⟩
theorem Post.lock {P : List Nat} {T : List Item} {D : Ends} {σ : L2.St} {d : Addr} {od : Obj} {kvs : List (Key × V)} {r : Res Fl} (n : ∀ x ∈ T, NoPin d x) (h : Post K mg P T D σ r) :
    Post K mg P ([.pin d od (.dK kvs)] ++ T) ⟨fun σ' H' => H' d = some (.frz od (.dK kvs)) ∧ D.nx σ' (upd H' d (.dK kvs)), fun v H' => H' d = some (.frz od (.dK kvs)) ∧ D.rt v (upd H' d (.dK kvs)), fun σ' H' => H' d = some (.frz od (.dK kvs)) ∧ D.bk σ' (upd H' d (.dK kvs)), fun σ' H' => H' d = some (.frz od (.dK kvs)) ∧ D.ct σ' (upd H' d (.dK kvs))⟩ σ r := by
  have nn : ∀ (σ' : L2.St) (ρ' : Env), ∀ x ∈ pairs σ' ρ' ++ T, NoPin d x := fun σ' ρ' x hx => (List.mem_append.mp hx).elim (NoPin.pairs x) (n x)
  cases r with
  | ok fl ρ' =>
    cases fl with
    | nx => exact fun σ' H' f c R => ⟨(R.perm List.perm_middle).pinAt, h σ' _ f c ((R.perm List.perm_middle).unlock (nn σ' ρ'))⟩
    | brk => exact fun σ' H' f c R => ⟨(R.perm List.perm_middle).pinAt, h σ' _ f c ((R.perm List.perm_middle).unlock (nn σ' ρ'))⟩
    | ct => exact fun σ' H' f c R => ⟨(R.perm List.perm_middle).pinAt, h σ' _ f c ((R.perm List.perm_middle).unlock (nn σ' ρ'))⟩
    | ret o =>
      intro v σ' H' f c R
      have R1 := R.perm ((List.perm_middle (l₂ := T).cons _).trans (.swap _ _ _))
      refine ⟨R1.pinAt, h v σ' _ f c (R1.unlock fun x hx => ?_)⟩
      rcases List.mem_cons.mp hx with e | hx
      · subst e; trivial
      · exact nn σ' ρ' x hx
  | exc x ρ' => exact h
  | no => exact h
theorem ss_forK (i : Nat) {P : List Nat} {x : Str} {p pos : Pos} {tg : Expr} {body : List Stmt} {a : D → Env → Option Env} {b : M Fl} (ok : CxOk X) (hp : PassesOwn (model X.prog X.w) X.A X.env X.xe) (hg : SG X (Fix P) tg a) (hb : SSs X P body b)
    (hN : X.N[i]? = some x := by rfl) (hv : Vis X.env.scope x := by first | exact Or.inl rfl | exact Or.inr (Or.inl rfl) | exact Or.inr (Or.inr rfl)) (hd : (x == ("__debug__" : Str)) = false := by decide) (hcd : (x == ("__classdict__" : Str)) = false := by decide)
    (hs : ∀ y, foldedSetIterable (.Name x p) X.env y = pure y := by intro _; rfl) : SS X P (.For tg (.Name x p) body [] pos) (mForK i a b) := by
  have s1 := ps_for (pos := pos) hp ok.calm (pi_keys (pv (pos := p) i hN hv hd hcd)) hg hb hs
  refine PS.imp (psOr s1 (ps_lock s1)) fun D σ H w => ?_
  obtain ⟨ρ, T, cv, R, h⟩ := tS_iff.mp w
  unfold mForK at h
  split at h
  · rename_i q eq
    obtain ⟨o, ks, ds, e1, e2, hk, rfl, _⟩ := keysOf_eq eq
    obtain ⟨v, hv⟩ := cv.ex i o e1
    obtain ⟨R1, R2⟩ := R.frzAt hv e1
    rw [e2] at R1 R2
    have c1 := cv.put hv (.val (.dct ks ds))
    obtain ⟨d, kvs, rfl, hks, hh⟩ := R2.dctAt
    subst hks
    rcases hh with ⟨od, hH, R3⟩ | ⟨hH, n, R3⟩
    · exact .inl ⟨_, hv, d, od, rfl, .inl ⟨kvs, hH, for_core c1 (its_keys hk) R3 (Post.more h)⟩⟩
    · refine .inr ⟨d, .dK kvs, hH, trivial, fun od => ⟨_, hv, d, od, rfl, .inl ⟨kvs, upd_same, for_core c1 (its_keys hk) (R3 od) ?_⟩⟩⟩
      exact Post.lock (fun x hx => n x (List.mem_append_right _ hx)) h
  · exact h.elim
/-! comprehensions -/
end
end FB

/-! Lists turned round, dicts copied, counted, compared, their keys. -/
namespace FB
open PySem PySem.Spec L2
open PyProof.Rows hiding St
section
variable {X : Cx} {K : PySem.W.Frag} {mg : Str → Option Value}
/-! ### xs[::-1] -/
/-! ### list(d), len(d) -/
theorem Rep.keys {H : Hp} {L : List Item} {B : List (V × O)} (R : Rep K mg H L B) : ∀ {ks : List Key}, ks.all keyOk = true → Rep K mg H (zipI (ks.map kV) ((ks.map keyD).map O.val) ++ L) B
  | [], _ => R
  | k :: ks, h => by
    rw [List.all_cons, Bool.and_eq_true] at h
    exact Rep.scal (Rep.keys R h.2) fun G => key_vwD h.1
def listKO (a : O) : Option O := (dctP a).bind fun p => if p.1.all keyOk = true then some (.val (.lst (p.1.map keyD))) else none
theorem unv_listK : UnV K mg (fun x H Q => ∃ a kvs, [x] = [.ref a] ∧ Rd H a (.dK kvs) ∧ ∀ p, H p = none → Q (.ref p) (upd H p (.lst (kvs.map fun kv => kV kv.1)))) listKO := by
  intro H L B x ox o Q R hx e k
  unfold listKO at e
  cases e1 : dctP ox with
  | none => rw [e1] at e; cases e
  | some p =>
    rw [e1] at e
    have e : (if p.1.all keyOk = true then some (O.val (.lst (p.1.map keyD))) else none) = some o := e
    split at e
    · rename_i hk
      cases e
      obtain ⟨a, kvs, rfl, h1, h2, h3, h4, h5⟩ := R.dctV hx e1
      refine ⟨a, kvs, rfl, h1, fun q hq => k _ _ (sameNew hq) ?_⟩
      have e2 : (kvs.map fun kv => kV kv.1) = p.1.map kV := by rw [← h2, List.map_map]; rfl
      rw [e2]
      exact Rep.lentL (R.keys hk) (by simp) hq
    · cases e
/-! ### dict(d) -/
theorem Rep.shD {H : Hp} {L : List Item} {B : List (V × O)} {x : V} {o : O} {ks : List Key} {ds : List D} (h : Rep K mg H L B) (hx : (x, o) ∈ B) (e : o.sh = some (.dct ks ds)) :
    ∃ p kvs, x = .ref p ∧ Rd H p (.dK kvs) ∧ (kvs.map (·.1) = ks ∧ ks.Nodup) ∧ (kvs.map (·.2)).length = ds.length ∧ Rep K mg H (zipI (kvs.map (·.2)) (ds.map O.val) ++ L) B := by
  obtain ⟨A, nd, ok, hb⟩ := h
  obtain ⟨as, q, ha⟩ := hb _ hx
  cases q with
  | val q =>
    cases e
    cases q with
    | dct q hk qs => exact ⟨_, _, rfl, rd_hide q, hk, qs.length, Rep.items ⟨A, nd, ok, hb, qs⟩⟩
  | dct q hk qs =>
    rename_i p kvs ks os as'
    have e : (vals? os).map (D.dct ks) = some _ := e
    cases e1 : vals? os with
    | none => rw [e1] at e; cases e
    | some es =>
      rw [e1] at e; cases e
      rw [vals?_eq e1] at qs
      obtain ⟨qs, _⟩ := VOs.of_vals qs
      exact ⟨_, _, rfl, .inl q, hk, qs.length, Rep.items ⟨A, nd, ok, hb, qs⟩⟩
  | lst q qs =>
    rename_i p vs os as'
    have e : (vals? os).map D.lst = some _ := e
    cases e1 : vals? os with
    | none => rw [e1] at e; cases e
    | some es => rw [e1] at e; cases e
  | ins q hm hn qs =>
    rename_i c ns os as'
    have e : (vals? os).map (D.ins c ns) = some _ := e
    cases e1 : vals? os with
    | none => rw [e1] at e; cases e
    | some es => rw [e1] at e; cases e
def dctSh (a : O) : Option (List Key × List D) := match a.sh with
  | some (.dct ks ds) => some (ks, ds)
  | _ => none
theorem dctSh_eq {a : O} {ks : List Key} {ds : List D} (h : dctSh a = some (ks, ds)) : a.sh = some (.dct ks ds) := by
  unfold dctSh at h
  split at h
  · rename_i e; cases h; exact e
  · cases h
/-- a dict of one's own: dict(d) -/
def mDictC (f : Pf) : M O := fun ρ => match (f ρ).bind dctSh with
  | some p => .ok (.dct p.1 (p.2.map O.val)) ρ
  | none => .no
theorem se_dictC {x : Str} {a : Expr} {p pos : Pos} {f : Pf} (hg : Gl X x) (hm : X.mg x = none) (hv : bootBuiltins x = some (.type "dict")) (ha : SP X a f)
    (hn : x ≠ "__name__" := by decide) (hdb : (x == ("__debug__" : Str)) = false := by decide) (hst : starEach (a :: []) X.env = (false, eval a X.env) :: starEach [] X.env := by rfl) (hpl : (backTo pos (starEach [] X.env)).any (·.1) = false := by rfl) :
    SE X (.Call (.Name x p) [a] [] pos) (mDictC f) := PE.imp (pe_callTy (call_dictD (X := X)) hg hm hv (pa_cons ha pa_nil hst) hn hdb hst hpl) fun σ H Q q => by
  obtain ⟨ρ, T, o, ρ', c, R, e, k⟩ := q
  unfold mDictC at e
  cases e1 : f ρ with
  | none => rw [e1] at e; cases e
  | some a =>
    rw [e1] at e
    have e : (match dctSh a with | some p => Res.ok (O.dct p.1 (p.2.map O.val)) ρ | none => .no) = .ok o ρ' := e
    cases e2 : dctSh a with
    | none => rw [e2] at e; cases e
    | some q =>
      rw [e2] at e
      cases e
      refine ⟨ρ, T, [], a, c, R, e1, fun v H1 s1 R1 => ?_⟩
      obtain ⟨b, kvs, rfl, h1, h2, h3, R2⟩ := R1.shD (List.mem_cons_self ..) (dctSh_eq e2)
      refine ⟨b, kvs, rfl, h1, fun q hq => k _ _ c ?_⟩
      exact Rep.closeD ((R2.nob).new hq) (by simpa using h3) h2
/-! ### d == e -/
open Classical in
open Classical in
/-- dict(pairs), one's own -/
def dpO2 (ρ : Env) : Option (List (Key × D)) → Res O
  | some kvs => .ok (.dct (mergeL ([], []) kvs).1 ((mergeL ([], []) kvs).2.map O.val)) ρ
  | none => .no
def dpO1 (ρ : Env) : D → Res O
  | .lst ds => dpO2 ρ (prs? ds)
  | _ => .no
def mDictPO (m : M O) : M O := fun ρ => (m ρ).bind fun o ρ1 => dpO1 ρ1 o.toD
theorem se_dictPO {a : Expr} {p pos : Pos} {m : M O} (ok : CxOk X) (hg : Gl X "dict") (hm : X.mg "dict" = none) (hv : bootBuiltins "dict" = some (.type "dict")) (ha : SE X a m)
    (hst : starEach (a :: []) X.env = (false, eval a X.env) :: starEach [] X.env := by rfl) (hpl : (backTo pos (starEach [] X.env)).any (·.1) = false := by rfl) : SE X (.Call (.Name "dict" p) [a] [] pos) (mDictPO m) :=
  PE.imp (pe_callTy (call_dictP ok.calm) hg hm hv (pa_cons ha pa_nil hst) (by decide) (by decide) hst hpl) fun σ H Q w => by
    obtain ⟨ρ, T, o, ρ', c, R, e0, k⟩ := w
    obtain ⟨u, ρ1, e1, e0⟩ := Res.bind_eq e0
    refine ⟨ρ, T, u, ρ1, c, R, e1, fun y H1 c1 R1 => ?_⟩
    have R2 := R1.frz
    cases hd : u.toD with
    | lst ds =>
      rw [hd] at e0 R2
      have e0 : dpO2 ρ1 (prs? ds) = .ok o ρ' := e0
      cases ep : prs? ds with
      | none => rw [ep] at e0; cases e0
      | some kvs =>
        rw [ep] at e0
        cases e0
        obtain ⟨A, nd, okk, hb0⟩ := id R2
        cases okk with
        | cons h t =>
          rename_i a9 b9
          cases h with
          | ov h =>
            cases h with
            | val h =>
              cases h with
              | lst q1 q2 =>
                rename_i pa vs
                obtain ⟨ps, ws, ev, h2, h3, h4⟩ := prs_views q2 ep
                subst ev
                have pm : Paired (fun p kv => SqT X.K H1 p [kV kv.1, kv.2]) ps ws := by
                  clear h3 h4 q1 q2 ep nd t R2 R1 hb0
                  induction h2 with
                  | nil => exact .nil
                  | cons h _ ih => exact .cons (sqT_hide h) ih
                obtain ⟨m1, m2, m3⟩ := merge_views (acc := []) (ks := []) (ds := []) h3 h4 rfl List.nodup_nil .nil
                refine ⟨pa, ps, ws, rfl, .inl (rd_hide q1), pm, fun q hq => k _ _ c1 ?_⟩
                have R3 : Rep X.K X.mg H1 (zipI ((mergeK [] ws).map (·.2)) ((mergeL ([], []) kvs).2.map O.val) ++ (pairs σ ρ' ++ T)) [] := Rep.items ⟨_, nd, t, fun _ z => by simp at z, m3⟩
                exact Rep.closeD (R3.new hq) (by have := m3.length; simpa using this) ⟨m1, m2⟩
    | _ => rw [hd] at e0; cases e0
variable {ρ : Env}
def dcK (ρ : Env) : Option (List Key × List D) → Res O
  | some p => .ok (.dct p.1 (p.2.map O.val)) ρ
  | none => .no
def dcA (ρ : Env) : Option O → Res O
  | some o => dcK ρ (dctSh o)
  | none => .no
@[simp] theorem e_mDictC (f : Pf) : mDictC f ρ = dcA ρ (f ρ) := by
  unfold mDictC dcA
  cases f ρ with
  | none => rfl
  | some o =>
    show (match dctSh o with | some p => _ | none => _) = dcK ρ (dctSh o)
    cases dctSh o <;> rfl
@[simp] theorem e_dcA (o : O) : dcA ρ (some o) = dcK ρ (dctSh o) := (rfl)
@[simp] theorem e_dcK (ks : List Key) (ds : List D) : dcK ρ (some (ks, ds)) = .ok (.dct ks (ds.map O.val)) ρ := (rfl)
@[simp] theorem dctSh_val (ks : List Key) (ds : List D) : dctSh (.val (.dct ks ds)) = some (ks, ds) := (rfl)
theorem listKO_dct (ks : List Key) (os : List O) (h : ks.all keyOk = true) : listKO (.dct ks os) = some (.val (.lst (ks.map keyD))) := if_pos h
/-- what the loop over a name's dict is -/
theorem keysOf_val {i : Nat} {ks : List Key} {ds : List D} (h : ρ[i]? = some (some (.val (.dct ks ds)))) (hk : ks.all keyOk = true) (hl : ks.length ≤ 1000000) : keysOf i ρ = some (ks.map keyD, ρ) := by
  unfold keysOf
  rw [h]
  show (if ks.all keyOk = true ∧ ks.length ≤ 1000000 then _ else _) = _
  rw [if_pos ⟨hk, hl⟩]
  congr 2
  apply List.ext_getElem?
  intro j
  by_cases e : i = j
  · subst e
    have hi := (List.getElem?_eq_some_iff.mp h).1
    rw [List.getElem?_set_self hi, h]
  · rw [List.getElem?_set_ne e]
def dpOK : Res O → Res O
  | .ok o ρ => dpO1 ρ o.toD
  | .exc x ρ => .exc x ρ
  | .no => .no
@[simp] theorem e_mDictPO (m : M O) : mDictPO m ρ = dpOK (m ρ) := by unfold mDictPO dpOK; cases m ρ <;> rfl
@[simp] theorem e_dpOK (o : O) : dpOK (.ok o ρ) = dpO1 ρ o.toD := (rfl)
@[simp] theorem e_dpO1 (ds : List D) : dpO1 ρ (.lst ds) = dpO2 ρ (prs? ds) := (rfl)
@[simp] theorem e_dpO2 (kvs : List (Key × D)) : dpO2 ρ (some kvs) = .ok (.dct (mergeL ([], []) kvs).1 ((mergeL ([], []) kvs).2.map O.val)) ρ := (rfl)
end
end FB

/-! Comprehensions and loops whose turns simp computes. -/
namespace FB
open PySem PySem.Spec L2
open PyProof.Rows hiding St
variable {ρ : Env}
/-- a turn of a comprehension -/
def cstep (own : List Nat) (a : D → Env → Option Env) (t : M Bool) (e : M O) (d : D) (ρ : Env) : Res (Option O) := match a d ρ with
  | none => .no
  | some ρ1 => (t ρ1).bind fun b ρ2 => if b = true then (e ρ2).bind fun o ρ3 => .ok (some o) (wipeE ρ3 own) else .ok none (wipeE ρ2 own)
def csE (own : List Nat) : Res O → Res (Option O)
  | .ok o ρ => .ok (some o) (wipeE ρ own)
  | .exc x ρ => .exc x ρ
  | .no => .no
def csT (own : List Nat) (e : M O) : Res Bool → Res (Option O)
  | .ok b ρ => if b = true then csE own (e ρ) else .ok none (wipeE ρ own)
  | .exc x ρ => .exc x ρ
  | .no => .no
def csS (own : List Nat) (t : M Bool) (e : M O) : Option Env → Res (Option O)
  | some ρ => csT own e (t ρ)
  | none => .no
@[simp] theorem e_cstep (own : List Nat) (a : D → Env → Option Env) (t : M Bool) (e : M O) (d : D) : cstep own a t e d ρ = csS own t e (a d ρ) := by
  unfold cstep csS
  cases a d ρ with
  | none => rfl
  | some ρ1 =>
    show (t ρ1).bind _ = csT own e (t ρ1)
    unfold csT
    cases t ρ1 with
    | ok b ρ2 =>
      show (if b = true then (e ρ2).bind _ else _) = if b = true then csE own (e ρ2) else _
      unfold csE
      cases e ρ2 <;> rfl
    | exc x ρ2 => rfl
    | no => rfl
@[simp] theorem e_csS (own : List Nat) (t : M Bool) (e : M O) : csS own t e (some ρ) = csT own e (t ρ) := (rfl)
@[simp] theorem e_csT (own : List Nat) (e : M O) (b : Bool) : csT own e (.ok b ρ) = if b = true then csE own (e ρ) else .ok none (wipeE ρ own) := (rfl)
@[simp] theorem e_csE (own : List Nat) (o : O) : csE own (.ok o ρ) = .ok (some o) (wipeE ρ own) := (rfl)
theorem compL_step {own : List Nat} {a : D → Env → Option Env} {t : M Bool} {e : M O} (d : D) (ds : List D) : compL own a t e (d :: ds) ρ = (cstep own a t e d ρ).bind fun o ρ1 => match o with
    | some o => (compL own a t e ds ρ1).bind fun os ρ2 => .ok (o :: os) ρ2
    | none => compL own a t e ds ρ1 := by
  show (match a d ρ with | none => Res.no | some ρ1 => (t ρ1).bind fun b ρ2 => if b = true then (e ρ2).bind fun o ρ3 => (compL own a t e ds (wipeE ρ3 own)).bind fun os ρ4 => .ok (o :: os) ρ4 else compL own a t e ds (wipeE ρ2 own)) = _
  unfold cstep
  cases a d ρ with
  | none => rfl
  | some ρ1 =>
    show (t ρ1).bind _ = ((t ρ1).bind _).bind _
    cases t ρ1 with
    | ok b ρ2 =>
      cases b with
      | true =>
        show (e ρ2).bind _ = ((e ρ2).bind _).bind _
        cases e ρ2 <;> rfl
      | false => rfl
    | exc x ρ2 => rfl
    | no => rfl
theorem compL_fn {α : Type} {own : List Nat} {a : D → Env → Option Env} {t : M Bool} {e : M O} (f : α → D) (c : α → Bool) (g : α → O) : ∀ {xs : List α},
    (∀ x ∈ xs, cstep own a t e (f x) ρ = if c x = true then .ok (some (g x)) ρ else .ok none ρ) → compL own a t e (xs.map f) ρ = .ok ((xs.filter c).map g) ρ
  | [], _ => rfl
  | x :: xs, h => by
    have ih := compL_fn (own := own) (a := a) (t := t) (e := e) f c g (xs := xs) fun d hd => h d (List.mem_cons_of_mem _ hd)
    rw [List.map_cons, compL_step, h x (List.mem_cons_self ..)]
    cases hc : c x with
    | true => simp [ih, hc]
    | false => simp [ih, hc]
theorem wipeE_get (ρ : Env) : ∀ (own : List Nat) (j : Nat), (wipeE ρ own)[j]? = if j ∈ own ∧ j < ρ.length then some none else ρ[j]?
  | [], j => by simp
  | v :: vs, j => by
    rw [e_wipe1, List.getElem?_set, wipeE_get ρ vs j, wipeE_len]
    by_cases e : v = j
    · subst e
      by_cases hl : v < ρ.length
      · simp [hl]
      · simp [hl]
    · simp [e, show ¬ j = v from fun z => e z.symm]
theorem backE_get (ρ2 ρ1 : Env) (hl : ρ2.length = ρ1.length) : ∀ (own : List Nat), own.Nodup → ∀ j, (backE ρ2 ρ1 own)[j]? = if j ∈ own ∧ (ρ1[j]?).join.isSome = true then ρ1[j]? else ρ2[j]?
  | [], _, j => by
    show ρ2[j]? = _
    simp
  | v :: vs, nd, j => by
    rw [List.nodup_cons] at nd
    have ih := backE_get ρ2 ρ1 hl vs nd.2
    rw [e_back1]
    have hv : (wipeE ρ1 vs)[v]? = ρ1[v]? := by rw [wipeE_get]; simp [nd.1]
    rw [hv]
    by_cases e : v = j
    · subst e
      cases h1 : ρ1[v]? with
      | none =>
        rw [e_bkKx, ih]
        simp [nd.1, h1]
      | some o =>
        cases o with
        | none =>
          rw [e_bkKn, ih]
          simp [nd.1, h1]
        | some o =>
          rw [e_bkKs, List.getElem?_set_self]
          · simp [h1]
          · have e3 : v < ρ1.length := (List.getElem?_eq_some_iff.mp h1).1
            have e4 := ih v
            rw [if_neg (fun z => nd.1 z.1)] at e4
            have : (backE ρ2 ρ1 vs)[v]? = some (ρ2[v]'(by omega)) := by rw [e4, List.getElem?_eq_getElem]
            exact (List.getElem?_eq_some_iff.mp this).1
    · have hb : ∀ q : Option (Option O), (bkK v (backE ρ2 ρ1 vs) q)[j]? = (backE ρ2 ρ1 vs)[j]? := by
        intro q
        cases q with
        | none => rfl
        | some o =>
          cases o with
          | none => rfl
          | some o => rw [e_bkKs, List.getElem?_set_ne e]
      rw [hb, ih]
      simp [show ¬ j = v from fun z => e z.symm]
theorem back_wipe (ρ : Env) {own : List Nat} (nd : own.Nodup) : backE (wipeE (wipeE ρ own) own) ρ own = ρ := by
  apply List.ext_getElem?
  intro j
  rw [backE_get _ _ (by rw [wipeE_len, wipeE_len]) own nd, wipeE_get, wipeE_len, wipeE_get]
  by_cases h1 : j ∈ own
  · cases h2 : ρ[j]? with
    | none =>
      have : ¬ j < ρ.length := by
        intro z
        rw [List.getElem?_eq_getElem z] at h2; cases h2
      simp [h1, this]
    | some o =>
      have : j < ρ.length := (List.getElem?_eq_some_iff.mp h2).1
      cases o <;> simp [h1, this]
  · simp [h1]
/-- a comprehension whose turns only read -/
theorem comp_run {α : Type} {it : M (List D)} {own : List Nat} {a : D → Env → Option Env} {t : M Bool} {e : M O} {ρ ρ1 : Env} (f : α → D) (c : α → Bool) (g : α → O) {xs : List α} (hi : it ρ = .ok (xs.map f) ρ1) (hl : xs.length ≤ 1000000) (nd : own.Nodup)
    (h : ∀ x ∈ xs, cstep own a t e (f x) (wipeE ρ1 own) = if c x = true then .ok (some (g x)) (wipeE ρ1 own) else .ok none (wipeE ρ1 own)) : mComp it own a t e ρ = .ok (.lst ((xs.filter c).map g)) ρ1 := by
  rw [e_mComp, hi, e_coK _ _ _ _ _ (by simpa using hl), compL_fn f c g h, e_coK2, back_wipe ρ1 nd]
theorem filter_tt {α : Type} (xs : List α) : xs.filter (fun _ => true) = xs := by
  induction xs with
  | nil => rfl
  | cons x xs ih => simp
theorem comp_map {α : Type} {it : M (List D)} {own : List Nat} {a : D → Env → Option Env} {t : M Bool} {e : M O} {ρ ρ1 : Env} (f : α → D) (g : α → O) {xs : List α} (hi : it ρ = .ok (xs.map f) ρ1) (hl : xs.length ≤ 1000000) (nd : own.Nodup)
    (h : ∀ x ∈ xs, cstep own a t e (f x) (wipeE ρ1 own) = .ok (some (g x)) (wipeE ρ1 own)) : mComp it own a t e ρ = .ok (.lst (xs.map g)) ρ1 := by
  rw [comp_run f (fun _ => true) g hi hl nd (by simpa using h), filter_tt]
/-! ### loops -/
def flK : Res Fl → Res Fl
  | .ok .ct ρ => .ok .nx ρ
  | r => r
def flA (b : M Fl) : Option Env → Res Fl
  | some ρ => flK (b ρ)
  | none => .no
/-- a turn of a loop -/
def fstep (a : D → Env → Option Env) (b : M Fl) (d : D) (ρ : Env) : Res Fl := flA b (a d ρ)
@[simp] theorem e_fstep (a : D → Env → Option Env) (b : M Fl) (d : D) : fstep a b d ρ = flA b (a d ρ) := (rfl)
@[simp] theorem e_flA (b : M Fl) : flA b (some ρ) = flK (b ρ) := (rfl)
@[simp] theorem e_flKn : flK (.ok .nx ρ) = .ok .nx ρ := (rfl)
@[simp] theorem e_flKc : flK (.ok .ct ρ) = .ok .nx ρ := (rfl)
@[simp] theorem e_flKb : flK (.ok .brk ρ) = .ok .brk ρ := (rfl)
@[simp] theorem e_flKr (o : O) : flK (.ok (.ret o) ρ) = .ok (.ret o) ρ := (rfl)
@[simp] theorem e_flKx (x : Exn) : flK (.exc x ρ) = .exc x ρ := (rfl)
@[simp] theorem flK_ite (c : Prop) [Decidable c] (r s : Res Fl) : flK (if c then r else s) = if c then flK r else flK s := by split <;> rfl
theorem forL_step (a : D → Env → Option Env) (b : M Fl) (d : D) (ds : List D) : forL a b (d :: ds) ρ = (match fstep a b d ρ with
    | .ok .nx ρ1 => forL a b ds ρ1
    | .ok .ct ρ1 => forL a b ds ρ1
    | .ok .brk ρ1 => .ok .nx ρ1
    | .ok (.ret o) ρ1 => .ok (.ret o) ρ1
    | .exc x ρ1 => .exc x ρ1
    | .no => .no : Res Fl) := by
  unfold fstep
  show (match a d ρ with | none => Res.no | some ρ1 => _) = _
  cases a d ρ with
  | none => rfl
  | some ρ1 =>
    show (b ρ1).bind _ = _
    unfold flA
    dsimp only
    cases b ρ1 with
    | ok f ρ2 => cases f <;> rfl
    | exc x ρ2 => rfl
    | no => rfl
/-- a loop with an invariant of what is left -/
theorem forL_ex {α β : Type} {a : D → Env → Option Env} {b : M Fl} (f : α → D) (E : β → Env) (I : List α → β → Prop) : ∀ {xs : List α} (b0 : β), I xs b0 →
    (∀ x xs b0, I (x :: xs) b0 → ∃ b1, fstep a b (f x) (E b0) = .ok .nx (E b1) ∧ I xs b1) → ∃ b1, forL a b (xs.map f) (E b0) = .ok .nx (E b1) ∧ I [] b1
  | [], b0, i0, _ => ⟨b0, rfl, i0⟩
  | x :: xs, b0, i0, h => by
    obtain ⟨b1, e1, i1⟩ := h x xs b0 i0
    rw [List.map_cons, forL_step, e1]
    exact forL_ex f E I b1 i1 h
/-- a loop that ends at the first thing that isn't so -/
theorem forL_all {α β : Type} {a : D → Env → Option Env} {b : M Fl} (f : α → D) (E : β → Env) (p : α → Bool) (o : α → O) (s : β → α → β) : ∀ {xs : List α} (b0 : β),
    (∀ x ∈ xs, ∀ b0, (p x = true → fstep a b (f x) (E b0) = .ok .nx (E (s b0 x))) ∧ (p x = false → ∃ ρ2, fstep a b (f x) (E b0) = .ok (.ret (o x)) ρ2)) →
    (xs.all p = true ∧ forL a b (xs.map f) (E b0) = .ok .nx (E (xs.foldl s b0))) ∨ (∃ x ∈ xs, xs.find? (fun x => !p x) = some x ∧ ∃ ρ2, forL a b (xs.map f) (E b0) = .ok (.ret (o x)) ρ2)
  | [], b0, _ => .inl ⟨rfl, rfl⟩
  | x :: xs, b0, h => by
    obtain ⟨h1, h2⟩ := h x (List.mem_cons_self ..) b0
    cases hp : p x with
    | true =>
      rw [List.map_cons, forL_step, h1 hp]
      rcases forL_all f E p o s (s b0 x) fun y hy => h y (List.mem_cons_of_mem _ hy) with ⟨q1, q2⟩ | ⟨y, hy, q1, q2⟩
      · exact .inl ⟨by rw [List.all_cons, hp, q1]; rfl, q2⟩
      · exact .inr ⟨y, List.mem_cons_of_mem _ hy, by rw [List.find?_cons, hp]; exact q1, q2⟩
    | false =>
      obtain ⟨ρ2, e2⟩ := h2 hp
      refine .inr ⟨x, List.mem_cons_self .., by rw [List.find?_cons, hp]; rfl, ρ2, ?_⟩
      rw [List.map_cons, forL_step, e2]
/-! ### dicts -/
def frK2 (a : D → Env → Option Env) (b : M Fl) : Option (List D × Env) → Res Fl
  | some p => forL a b p.1 p.2
  | none => .no
@[simp] theorem e_mForKK (i : Nat) (a : D → Env → Option Env) (b : M Fl) : mForK i a b ρ = frK2 a b (keysOf i ρ) := (rfl)
@[simp] theorem e_frK2 (a : D → Env → Option Env) (b : M Fl) (ds : List D) : frK2 a b (some (ds, ρ)) = forL a b ds ρ := (rfl)
end FB

/-! max of a list of pairs of ints. -/
namespace FB
open PySem PySem.Spec L2
open PyProof.Rows hiding St
section
variable {X : Cx} {K : PySem.W.Frag} {mg : Str → Option Value}
end
end FB

/-! repr of a thing made of texts, ints, truths, None, in lists and tuples. -/
namespace FB
open PySem PySem.Spec L2
open PyProof.Rows hiding St
def Okc (x : Str) : Prop := ∀ c ∈ x.cps.toList, c < 1114112
theorem Okc.app {a b : Str} (ha : Okc a) (hb : Okc b) : Okc (a ++ b) := by
  intro c hc
  have e : (a ++ b).cps = a.cps ++ b.cps := rfl
  rw [e, Array.toList_append, List.mem_append] at hc
  exact hc.elim (ha c) (hb c)
theorem Okc.lit (s : String) : Okc (Str.ofString s) := by
  intro c hc
  rw [Str.ofString_eq_toList] at hc
  have hc : c ∈ s.toList.map Char.toNat := hc
  obtain ⟨d, _, rfl⟩ := List.mem_map.mp hc
  have := d.valid
  show d.val.toNat < 1114112
  rcases this with h | ⟨_, h⟩
  · have : d.val.toNat < 55296 := h
    omega
  · exact h
theorem Okc.join {sep : Str} (hs : Okc sep) : ∀ {ts : List Str}, (∀ t ∈ ts, Okc t) → Okc (Str.join sep ts)
  | [], _ => fun c hc => by
    have hc : c ∈ (#[] : Array Nat).toList := hc
    simp at hc
  | [t], h => h t (by simp)
  | t :: u :: ts, h => by
    show Okc (t ++ sep ++ Str.join sep (u :: ts))
    exact ((h t (by simp)).app hs).app (Okc.join hs fun z hz => h z (List.mem_cons_of_mem _ hz))
theorem digits_ok (c : Nat) : ∀ d ∈ (Nat.toDigits 16 c).map Char.toNat, d < 1114112 := by
  intro d hd
  obtain ⟨e, _, rfl⟩ := List.mem_map.mp hd
  have := e.valid
  show e.val.toNat < 1114112
  rcases this with h | ⟨_, h⟩
  · have : e.val.toNat < 55296 := h
    omega
  · exact h
theorem reprChar_ok {q c : Nat} (hq : q < 1114112) (hc : c < 1114112) : ∀ d ∈ Builtin.Str.reprChar q c, d < 1114112 := by
  have hx : ∀ n, ∀ d ∈ List.replicate (n - ((Nat.toDigits 16 c).map Char.toNat).length) 48 ++ (Nat.toDigits 16 c).map Char.toNat, d < 1114112 := by
    intro n d hd
    rcases List.mem_append.mp hd with h | h
    · have := (List.mem_replicate.mp h).2; omega
    · exact digits_ok c d h
  intro d hd
  unfold Builtin.Str.reprChar at hd
  dsimp only at hd
  split at hd
  · simp at hd; omega
  · split at hd
    · simp at hd; omega
    · split at hd
      · simp at hd; omega
      · split at hd
        · simp at hd; omega
        · split at hd
          · simp at hd; omega
          · split at hd
            · rcases List.mem_append.mp hd with h | h
              · simp at h; omega
              · exact hx 2 d h
            · split at hd
              · rcases List.mem_append.mp hd with h | h
                · simp at h; omega
                · exact hx 4 d h
              · rcases List.mem_append.mp hd with h | h
                · simp at h; omega
                · exact hx 8 d h
theorem Okc.repr {x : Str} (h : Okc x) : Okc (reprText x) := by
  have hq : reprQuote x < 1114112 := by unfold reprQuote; split <;> omega
  have key : ∀ (l : List Nat) (acc : Array Nat), (∀ c ∈ l, c < 1114112) → (∀ c ∈ acc.toList, c < 1114112) → ∀ c ∈ (l.foldl (fun out c => out ++ (Builtin.Str.reprChar (reprQuote x) c).toArray) acc).toList, c < 1114112 := by
    intro l
    induction l with
    | nil => intro acc _ h2; exact h2
    | cons a l ih =>
      intro acc h1 h2
      rw [List.foldl_cons]
      refine ih _ (fun c hc => h1 c (List.mem_cons_of_mem _ hc)) fun c hc => ?_
      rw [Array.toList_append, List.mem_append] at hc
      exact hc.elim (h2 c) fun z => reprChar_ok hq (h1 a (List.mem_cons_self ..)) c (by simpa using z)
  intro c hc
  unfold reprText at hc
  rw [Array.toList_push, List.mem_append] at hc
  rcases hc with hc | hc
  · rw [← Array.foldl_toList] at hc
    exact key _ _ h (fun d hd => by simp at hd; omega) c hc
  · simp at hc; omega
section
variable {X : Cx} {K : PySem.W.Frag} {mg : Str → Option Value}
end
end FB

/-! The law's own def, looked at where the law is asked alone: there no text is being made. -/
namespace FB
open PySem PySem.Spec L2
open PyProof.Rows hiding St
section
variable {P : Program} {w : World} {K : PySem.W.Frag} {mg : Str → Option Value} {base : Heap}
end
end FB

/-! name.clear() of an own list. -/
namespace FB
open PySem PySem.Spec L2
open PyProof.Rows hiding St
section
variable {X : Cx} {K : PySem.W.Frag} {mg : Str → Option Value}
end
end FB

/-! try: ..; except Y: .. -/
namespace FB
open PySem PySem.Spec L2
open PyProof.Rows hiding St
section
variable {X : Cx} {K : PySem.W.Frag} {mg : Str → Option Value} {P : List Nat} {W : WX}
end
end FB

/-! Defs whose last parameter may be left out (None); objects that are shared. -/
namespace FB
open PySem PySem.Spec L2
open PyProof.Rows hiding St
section
variable {P : Program} {w : World} {K : PySem.W.Frag} {mg : Str → Option Value} {base : Heap}
theorem fun_ofD {x qual : Str} {st : Stmt} {dvs : List V} {kws : List (Str × V)} {f : Addr} {fd : FuncData} (D : FunD K x qual (C8.fnArgs st) (C8.fnBody st) (C8.fnScope st) dvs kws f fd) : C8.Fun K x qual st f fd := by
  obtain ⟨oc, od, dV, kV, doc, pm, an, cdv, ct, osl, e, lk, hc, _, _⟩ := D.ex
  exact ⟨oc, od, dV, kV, doc, pm, an, cdv, ct, osl, e, lk, hc⟩
theorem binds_drop {fd : FuncData} {ps : List Str} (h : ∃ ds, Vals ([] : List V) ds ∧ Binds K fd ps ds) : Binds K fd ps [] := by
  obtain ⟨ds, h1, h2⟩ := h
  cases h1
  exact h2
end
section
variable {X : Cx} {K : PySem.W.Frag} {mg : Str → Option Value}
/-! ### objects that are shared -/
def fldV (c f : Str) : O → Option O
  | .val (.ins c' ns ds) => if c' = c then (fidx ns f).bind fun j => (ds[j]?).map O.val else none
  | _ => none
theorem sp_fldV {c f : Str} {C : Addr} {fs : List Str} {e : Expr} {pos : Pos} {g : Pf} (co : CO X.K X.mg c C fs) (hf : f ∈ fs) (he : SP X e g) (hb : attributeBase e f X.env (eval e X.env) = eval e X.env := by rfl) : SP X (.Attribute e f pos) (p1 (fldV c f) g) :=
  PE.imp (pe_fld he hb) fun σ H Q q => by
    obtain ⟨ρ, T, B, o, cv, R, e, k⟩ := q
    unfold p1 at e
    cases e1 : g ρ with
    | none => rw [e1] at e; cases e
    | some a =>
      rw [e1] at e
      have e : fldV c f a = some o := e
      refine ⟨ρ, T, B, a, cv, R, e1, fun x H1 s1 R1 => ?_⟩
      cases a with
      | lst _ => cases e
      | dct _ _ => cases e
      | ins _ _ _ => cases e
      | val da =>
        cases da with
        | ins c' ns ds =>
          have e9 : (if c' = c then (fidx ns f).bind fun j => (ds[j]?).map O.val else none) = some o := e
          by_cases ec : c' = c
          · rw [if_pos ec] at e9
            subst ec
            cases ej : fidx ns f with
            | none => rw [ej] at e9; cases e9
            | some j =>
              rw [ej] at e9
              have e8 : (ds[j]?).map O.val = some o := e9
              cases ed : ds[j]? with
              | none => rw [ed] at e8; cases e8
              | some d =>
                rw [ed] at e8
                cases e8
                obtain ⟨A, nd, ok, hb⟩ := id R1
                obtain ⟨as, h1, h2⟩ := hb _ (List.mem_cons_self ..)
                cases h1 with
                | val h1 =>
                  cases h1 with
                  | ins h1 hm hn hs =>
                    rename_i p C' dx fs'
                    have := co.eq hm
                    subst this
                    subst hn
                    obtain ⟨v, l1, l2⟩ := fidx_look ej
                    obtain ⟨d', ed', hv⟩ := hs.getV l2
                    rw [ed] at ed'
                    cases ed'
                    refine ⟨p, C', dx, fs', v, rfl, (hide_some h1).2, co.cl, co.no f hf, l1, k v H1 s1 ⟨A, nd, ok, fun b q => ?_⟩⟩
                    rcases List.mem_cons.mp q with q | q
                    · subst q
                      exact ⟨[], .val hv, fun a ha => by simp at ha⟩
                    · exact hb b (List.mem_cons_of_mem _ q)
          · rw [if_neg ec] at e9; cases e9
        | _ => cases e
/-- e.m(..), e's thing being shared from now on -/
def mMethV (c m : Str) (F : FSem) (r : M O) (as : List Arg) : M O := fun ρ => (r ρ).bind fun o ρ1 => match o.toD with
  | .ins c' ns ds => if c' = c ∧ fidx ns m = none then (evA as ρ1).bind fun os ρ2 => (match takeA as os ρ2 with
    | none => .no
    | some q => (match F (.val (.ins c' ns ds) :: q.1) with
      | none => .no
      | some z => .ok z.1 (giveA as z.2.tail q.2))) else .no
  | _ => .no
theorem methV_core {n : Nat} {c m : Str} {C : Addr} {fs : List Str} {F : FSem} {r : M O} {as : List Arg} (co : CO K mg c C fs) (hn : as.length + 1 = n) (σ : L2.St) (H : Hp) (Q : VK) (w : tM K mg (mMethV c m F r as) σ H Q) :
    tM K mg r σ H fun v H1 => ∃ a dx fs, v = .ref a ∧ H1 a = some (.ins C dx fs) ∧ fs.lookup m = none ∧ tAs K mg as σ H1 fun vs H2 => spF K mg n F (v :: (vs ++ [])) H2 Q E0 := by
  obtain ⟨ρ, T, o, ρ', cv, R, e, k⟩ := w
  obtain ⟨o1, ρ1, e1, e⟩ := Res.bind_eq e
  refine ⟨ρ, T, o1, ρ1, cv, R, e1, fun v H1 c1 R1 => ?_⟩
  split at e
  · rename_i c' ns ds ed
    split at e
    · rename_i hc
      obtain ⟨rfl, hm⟩ := hc
      have R2 := R1.frz
      rw [ed] at R2
      have vw : Vw K mg H1 v (.ins c' ns ds) := (R2.lend).view (b := (v, .val (.ins c' ns ds))) (List.mem_cons_self ..)
      cases vw with
      | ins h1 hmg hns hs =>
        rename_i p C' dx fs'
        have := co.eq hmg
        subst this
        subst hns
        refine ⟨p, dx, fs', rfl, h1, fidx_none hm, ?_⟩
        obtain ⟨os2, ρ2, e2, e⟩ := Res.bind_eq e
        split at e
        · cases e
        · rename_i q e3
          split at e
          · cases e
          · rename_i z e4
            cases e
            refine ⟨ρ1, .ov (.ref p) (.val (.ins c' (fs'.map (·.1)) ds)) :: T, os2, ρ2, c1, R2.perm List.perm_middle.symm, e2, fun vs H2 c2 hl io R3 => ?_⟩
            obtain ⟨c3, hl2, R4⟩ := take_ok c2 io e3 R3
            have hvl := ioLen io
            show spF K mg n F (V.ref p :: (vs ++ [])) H2 Q E0
            rw [List.append_nil]
            refine ⟨.val (.ins c' (fs'.map (·.1)) ds) :: q.1, pairs σ q.2 ++ T, z.1, z.2, by rw [List.length_cons, hvl, hn], by rw [List.length_cons, ← hl2, hvl, hn], ?_, e4, fun u H3 R5 => ?_⟩
            · have : zipI (V.ref p :: vs) (.val (.ins c' (fs'.map (·.1)) ds) :: q.1) = .ov (.ref p) (.val (.ins c' (fs'.map (·.1)) ds)) :: zipI vs q.1 := rfl
              rw [this]
              refine R4.perm ?_
              refine (List.Perm.append_left _ List.perm_middle).trans ?_
              exact List.perm_middle
            · have R6 : Rep K mg H3 ([.ov u z.1] ++ (pairs (vs.map some) z.2.tail ++ (pairs σ q.2 ++ T))) [] := by
                cases hz : z.2 with
                | nil =>
                  rw [hz, pairs_nil'] at R5
                  have : pairs (vs.map some) ([] : Env).tail = [] := pairs_nil' ..
                  rw [this]; exact R5
                | cons y ys =>
                  rw [hz] at R5
                  cases y with
                  | none => rw [List.map_cons, pairs_sn] at R5; exact R5
                  | some y =>
                    rw [List.map_cons, pairs_ss] at R5
                    exact (R5.perm (.swap _ _ _)).drop
              obtain ⟨c4, R7⟩ := give_ok (as := as) (vs := vs) (M := [.ov u z.1]) c3 io R6
              exact k u H3 c4 R7
    · cases e
  · cases e
theorem se_methV {n k j : Nat} {c m : Str} {C : Addr} {fs : List Str} {F : FSem} {o : Expr} {r : M O} {apos pos : Pos} {e : Expr} {es : List Expr} {as : List Arg} (co : CO X.K X.mg c C fs) (cl : C8.Met X.prog X.w X.K X.mg X.base k C m (spF X.K X.mg n F) []) (hr : Room j X.A) (hk : k ≤ j) (ho : SE X o r) (ha : SAs X (e :: es) as) (hn : as.length + 1 = n := by rfl)
    (hst : starEach (e :: es) X.env = (false, eval e X.env) :: starEach es X.env := by rfl) (hpl : (backTo pos (starEach es X.env)).any (·.1) = false := by rfl) {pl : Sem Bool}
    (ht : eval (.Call (.Attribute o m apos) (e :: es) [] pos) X.env = (do
      let ov ← eval o X.env
      standAt apos.atName
      let (f, first) ← holding [ov] (getMethod ov m pl)
      callWith pos f first (backTo pos (starEach (e :: es) X.env)) (backToKw pos (keywordEach [] X.env))) := by rfl) :
    SE X (.Call (.Attribute o m apos) (e :: es) [] pos) (mMethV c m F r as) := PE.imp (C8.pe_mt (pl := pl) cl hr hk ho ha hst hpl ht) fun σ H Q w => methV_core co hn σ H Q w
variable {ρ : Env}
def mvE (as : List Arg) (ρ : Env) : Option (O × Env) → Res O
  | none => .no
  | some z => .ok z.1 (giveA as z.2.tail ρ)
def mvD (F : FSem) (d : D) (as : List Arg) : Option (List O × Env) → Res O
  | none => .no
  | some q => mvE as q.2 (F (.val d :: q.1))
def mvC (F : FSem) (d : D) (as : List Arg) : Res (List (Option O)) → Res O
  | .ok os ρ => mvD F d as (takeA as os ρ)
  | .exc x ρ => .exc x ρ
  | .no => .no
def mvB (c m : Str) (F : FSem) (as : List Arg) (ρ : Env) : D → Res O
  | .ins c' ns ds => if c' = c ∧ fidx ns m = none then mvC F (.ins c' ns ds) as (evA as ρ) else .no
  | _ => .no
def mvA (c m : Str) (F : FSem) (as : List Arg) : Res O → Res O
  | .ok o ρ => mvB c m F as ρ o.toD
  | .exc x ρ => .exc x ρ
  | .no => .no
@[simp] theorem e_mMethV (c m : Str) (F : FSem) (r : M O) (as : List Arg) : mMethV c m F r as ρ = mvA c m F as (r ρ) := by
  unfold mMethV mvA
  cases r ρ with
  | ok o ρ1 =>
    show (match o.toD with | .ins c' ns ds => _ | _ => Res.no) = mvB c m F as ρ1 o.toD
    unfold mvB
    cases o.toD with
    | ins c' ns ds =>
      show (if c' = c ∧ fidx ns m = none then _ else Res.no) = if c' = c ∧ fidx ns m = none then mvC F (.ins c' ns ds) as (evA as ρ1) else .no
      split
      · cases evA as ρ1 with
        | ok os ρ2 =>
          show (match takeA as os ρ2 with | none => Res.no | some q => _) = mvD F (.ins c' ns ds) as (takeA as os ρ2)
          unfold mvD
          cases takeA as os ρ2 with
          | none => rfl
          | some q =>
            show (match F (.val (.ins c' ns ds) :: q.1) with | none => Res.no | some z => _) = mvE as q.2 (F (.val (.ins c' ns ds) :: q.1))
            unfold mvE
            cases F (.val (.ins c' ns ds) :: q.1) <;> rfl
        | exc _ _ => rfl
        | no => rfl
      · rfl
    | _ => rfl
  | exc _ _ => rfl
  | no => rfl
@[simp] theorem e_mvA (c m : Str) (F : FSem) (as : List Arg) (o : O) : mvA c m F as (.ok o ρ) = mvB c m F as ρ o.toD := (rfl)
theorem e_mvB (c m : Str) (F : FSem) (as : List Arg) (ns : List Str) (ds : List D) (h : fidx ns m = none) : mvB c m F as ρ (.ins c ns ds) = mvC F (.ins c ns ds) as (evA as ρ) := by unfold mvB; simp [h]
@[simp] theorem e_mvC (F : FSem) (d : D) (as : List Arg) (os : List (Option O)) : mvC F d as (.ok os ρ) = mvD F d as (takeA as os ρ) := (rfl)
@[simp] theorem e_mvD (F : FSem) (d : D) (as : List Arg) (q : List O) : mvD F d as (some (q, ρ)) = mvE as ρ (F (.val d :: q)) := (rfl)
@[simp] theorem e_mvE (as : List Arg) (o : O) (y : Option O) (ys : Env) : mvE as ρ (some (o, y :: ys)) = .ok o (giveA as ys ρ) := (rfl)
theorem e_fldV (c f : Str) (ns : List Str) (ds : List D) (j : Nat) (h : fidx ns f = some j) : fldV c f (.val (.ins c ns ds)) = (ds[j]?).map O.val := by unfold fldV; simp [h]
end
end FB

/-! A dict one of whose keys may be None: it stands beside the environment (slot j holds its address; what it holds is told by a list of pairs). -/
namespace FB
open PySem PySem.Spec L2
open PyProof.Rows hiding St
abbrev NK := List (Option Key × V)
def nkφ (Pg : Program) (w : World) (a : Addr) (q : NK) : Heap → Prop := fun h => q.length ≤ sizeLine ∧ (a == sysModules) = false ∧ ∃ vs, KV q vs ∧ h.DictOf (noneKind Pg w) a vs
def dN (Pg : Program) (w : World) (a : Addr) (q : NK) : HO := .ext (nkφ Pg w a q)
/-! ### the three things that are done with it -/
section
variable {X : Cx}
end
/-! ### expressions beside it -/
section
variable {X : Cx} {K : PySem.W.Frag} {mg : Str → Option Value} {j : Nat}
end
/-! ### statements beside it -/
def PostN (K : PySem.W.Frag) (mg : Str → Option Value) (Pg : Program) (w : World) (P : List Nat) (j : Nat) (p : Addr) (T : List Item) (D : Ends) (σ : L2.St) : Option (Fl × NK × Env) → Prop
  | some (.nx, q, ρ') => ∀ σ' H', Fix (j :: P) σ σ' → Cov σ' ρ' → ρ'[j]? = some none → Rep K mg H' (pairs σ' ρ' ++ (.raw p (dN Pg w p q) :: T)) [] → D.nx σ' H'
  | some (.ret o, q, ρ') => ∀ v σ' H', Fix (j :: P) σ σ' → Cov σ' ρ' → Rep K mg H' (.ov v o :: (pairs σ' ρ' ++ (.raw p (dN Pg w p q) :: T))) [] → D.rt v H'
  | _ => False
section
variable {X : Cx} {K : PySem.W.Frag} {mg : Str → Option Value} {P : List Nat} {j : Nat} {Pg : Program} {w : World}
theorem PostN.fix {p : Addr} {T : List Item} {D : Ends} {σ σ1 : L2.St} {r : Option (Fl × NK × Env)} (f : Fix (j :: P) σ σ1) (h : PostN K mg Pg w P j p T D σ r) : PostN K mg Pg w P j p T D σ1 r := by
  unfold PostN at h ⊢
  split at h
  · exact fun σ' H' f' => h σ' H' (f.trans f')
  · exact fun v σ' H' f' => h v σ' H' (f.trans f')
  · exact h.elim
theorem PostN.more {ks T : List Item} {D : Ends} {σ : L2.St} {p : Addr} {r : Option (Fl × NK × Env)} (h : PostN K mg Pg w P j p T D σ r) : PostN K mg Pg w P j p (ks ++ T) D σ r := by
  unfold PostN at h ⊢
  split at h
  · exact fun σ' H' f c hj R => h σ' H' f c hj (R.perm ((List.Perm.append_left _ (List.perm_middle (l₁ := ks)).symm).trans (rot _ _ _))).drops
  · exact fun v σ' H' f c R => h v σ' H' f c (R.perm ((((List.Perm.append_left _ (List.perm_middle (l₁ := ks)).symm).trans (rot _ _ _)).cons _).trans List.perm_middle.symm)).drops
  · exact h.elim
/-! ### rules for simp -/
variable {ρ : Env} {q : NK}
end
end FB

/-! t[::-1] of a tuple. -/
namespace TR
open PySem PySem.Spec PyProof.Rows HT
section
variable {prog : Program} {w : World} {A : Around} {E : Value → Shared → Prop} {s : Shared}
end
end TR
namespace FB
open PySem PySem.Spec L2
open PyProof.Rows hiding St
section
variable {X : Cx} {K : PySem.W.Frag} {mg : Str → Option Value}
end
end FB

/-! A def that returns a tuple in which own things lie; its call, taken apart into names. -/
namespace FB
open PySem PySem.Spec L2
open PyProof.Rows hiding St
section
variable {X : Cx} {K : PySem.W.Frag} {mg : Str → Option Value} {P : List Nat}
/-! names, each told its thing -/
/-! rules -/
end
end FB

/-! A comprehension over an own dict whose element is a reading: the dict stays own. -/
namespace FB
open PySem PySem.Spec L2
open PyProof.Rows hiding St
section
variable {X : Cx} {K : PySem.W.Frag} {mg : Str → Option Value}
end
end FB

/-! An own flat dict shown as shared while one expression runs: it is own again behind it. -/
namespace FB
open PySem PySem.Spec L2
open PyProof.Rows hiding St
section
variable {X : Cx} {K : PySem.W.Frag} {mg : Str → Option Value}
mutual
/-- no dict within -/
def D.nd : D → Bool
  | .non => true
  | .bl _ => true
  | .int _ => true
  | .str _ => true
  | .tup ds => D.nds ds
  | .lst ds => D.nds ds
  | .scr _ => true
  | .fn _ => true
  | .dct _ _ => false
  | .ins _ _ ds => D.nds ds
def D.nds : List D → Bool
  | [] => true
  | d :: ds => d.nd && D.nds ds
end
mutual
def O.nd : O → Bool
  | .val d => d.nd
  | .lst os => O.nds os
  | .dct _ os => O.nds os
  | .ins _ _ os => O.nds os
def O.nds : List O → Bool
  | [] => true
  | o :: os => o.nd && O.nds os
end
theorem rd_ers {G : Hp} {d a : Addr} {u : HO} {od : Obj} {kvs : List (Key × V)} (hd : G d = some (.frz od (.dK kvs))) (h : Rd G a u) (h1 : u ≠ .dK kvs) (h2 : ∀ o w, u ≠ .frz o w) : Rd (ers d G) a u := by
  have e : a ≠ d := fun e => by
    subst e
    rcases h with h | ⟨o, h⟩
    · rw [hd] at h; cases h; exact h2 _ _ rfl
    · rw [hd] at h; cases h; exact h1 rfl
  rcases h with h | ⟨o, h⟩
  · exact .inl ((ers_ne e).trans h)
  · exact .inr ⟨o, (ers_ne e).trans h⟩
mutual
theorem Vw.ers {G : Hp} {d : Addr} {od : Obj} {kvs : List (Key × V)} (hd : G d = some (.frz od (.dK kvs))) : ∀ {v : V} {x : D}, Vw K mg G v x → x.nd = true → Vw K mg (ers d G) v x
  | _, _, .non, _ => .non
  | _, _, .bl b, _ => .bl b
  | _, _, .int i, _ => .int i
  | _, _, .str s h, _ => .str s h
  | _, _, .tup h hs, n => by
    refine .tup ?_ (Vws.ers hd hs n)
    rcases h with h | h
    · exact .inl (rd_ers hd h (fun z => by cases z) (fun _ _ z => by cases z))
    · exact .inr h
  | _, _, .lst h hs, n => .lst (rd_ers hd h (fun z => by cases z) (fun _ _ z => by cases z)) (Vws.ers hd hs n)
  | _, _, .fn h, _ => .fn h
  | _, _, .scr h, _ => by
    refine .scr ?_
    rcases h with h | h
    · exact .inl (rd_ers hd h (fun z => by cases z) (fun _ _ z => by cases z))
    · exact .inr h
  | _, _, .dct _ _ _, n => by cases n
  | _, _, .ins (a := a) h hm hn hs, n => by
    have e : a ≠ d := fun e => by subst e; rw [hd] at h; cases h
    exact .ins ((ers_ne e).trans h) hm hn (Vws.ers hd hs n)
theorem Vws.ers {G : Hp} {d : Addr} {od : Obj} {kvs : List (Key × V)} (hd : G d = some (.frz od (.dK kvs))) : ∀ {vs : List V} {ds : List D}, Vws K mg G vs ds → D.nds ds = true → Vws K mg (ers d G) vs ds
  | _, _, .nil, _ => .nil
  | _, _, .cons (d := x) (ds := xs) h t, n => by
    have n : (x.nd && D.nds xs) = true := n
    rw [Bool.and_eq_true] at n
    exact .cons (Vw.ers hd h n.1) (Vws.ers hd t n.2)
end
mutual
theorem VO.ers {G H : Hp} {d : Addr} {od : Obj} {kvs : List (Key × V)} (hd : G d = some (.frz od (.dK kvs))) : ∀ {v : V} {x : O} {as : List Addr}, VO K mg G H v x as → x.nd = true → VO K mg (ers d G) H v x as
  | _, _, _, .val h, n => .val (h.ers hd n)
  | _, _, _, .lst h hs, n => .lst h (VOs.ers hd hs n)
  | _, _, _, .dct h hk hs, n => .dct h hk (VOs.ers hd hs n)
  | _, _, _, .ins h hm hn hs, n => .ins h hm hn (VOs.ers hd hs n)
theorem VOs.ers {G H : Hp} {d : Addr} {od : Obj} {kvs : List (Key × V)} (hd : G d = some (.frz od (.dK kvs))) : ∀ {vs : List V} {xs : List O} {as : List Addr}, VOs K mg G H vs xs as → O.nds xs = true → VOs K mg (ers d G) H vs xs as
  | _, _, _, .nil, _ => .nil
  | _, _, _, .cons (o := x) (os := xs) h t, n => by
    have n : (x.nd && O.nds xs) = true := n
    rw [Bool.and_eq_true] at n
    exact .cons (VO.ers hd h n.1) (VOs.ers hd t n.2)
end
theorem IsOk.but {G H : Hp} {d : Addr} : ∀ {L : List Item} {as : List Addr}, IsOk K mg (ers d G) H L as → IsOk K mg G H (L.map (.but d)) as
  | _, _, .nil => .nil
  | _, _, .cons h t => .cons (.but h) (IsOk.but t)
end
end FB

/-! != between tuples that hold dicts, where both are alike. -/
namespace FB
open PySem PySem.Spec L2
open PyProof.Rows hiding St
/-! two tuples alike: != is False -/
section
open PySem.SeqAt
open AutoSeq1 (wpAny_loadPart')
open MeetsSeq MeetsSeq2 MeetsSeq3 SeqRoads2
variable {prog : Program} {w : World}
end
section
variable {X : Cx} {K : PySem.W.Frag} {mg : Str → Option Value}
open Classical in
end
end FB

/-! Defs handed in as arguments: a name of a def as a value, a call of a local name that holds one of two raising defs. -/
namespace FB
open PySem PySem.Spec L2
open PyProof.Rows hiding St
section
variable {X : Cx} {W : WX}
/-! name.clear() of an own dict -/
end
end FB

/-! isinstance of a caught error that has fields. -/
namespace FB
open PySem PySem.Spec L2
open PyProof.Rows hiding St
section
variable {X : Cx} {a D dd : Addr} {oe : Obj} {pn : List (Addr × Obj)}
end
section
variable {X : Cx} {a : Addr} {i : Nat} {I : List Item} {x : Exn} {cls : Value} {d : Option Addr} {oe : Obj} {pn : List (Addr × Obj)} {es : List Str}
/-- the fields' dict stands -/
theorem FrE.xd {K : PySem.W.Frag} {mg : Str → Option Value} {dd : Addr} {vs : List V} {fs : List (Str × V)} {ds : List D} {σ : L2.St} {ρ : Env} {T : List Item} {H : Hp} (f : FrE a i (.raw dd (.xd fs) :: zipI vs (ds.map O.val)) σ T) (R : Rep K mg H (pairs σ ρ ++ T) []) : H dd = some (.xd fs) := by
  obtain ⟨_, T0, p⟩ := f
  have q : (pairs σ ρ ++ T).Perm (.raw dd (.xd fs) :: ((zipI vs (ds.map O.val) ++ T0) ++ pairs σ ρ)) := by
    refine List.perm_append_comm.trans ?_
    exact p.append_right _
  exact (R.perm q).rawAt
end
end FB

/-! Making an object where __init__ may raise; a raising def with its last parameter left out. -/
namespace FB
open PySem PySem.Spec L2
open PyProof.Rows hiding St
section
variable {P : Program} {w : World} {K : PySem.W.Frag} {mg : Str → Option Value} {base : Heap}
end
section
variable {X : Cx} {W : WX}
variable {ρ : Env}
end
end FB

/-! sorted(..) of texts, also of a dict of texts; a method of a thing just made. -/
namespace FB
open PySem PySem.Spec L2
open PyProof.Rows hiding St
/-! texts in order -/
section
variable {X : Cx} {K : PySem.W.Frag} {mg : Str → Option Value}
theorem Rep.strs {H : Hp} {L : List Item} {B : List (V × O)} (R : Rep K mg H L B) : ∀ {ms : List Str}, (∀ m ∈ ms, PyData.strOk m = true) → Rep K mg H (zipI (ms.map V.str) ((ms.map D.str).map O.val) ++ L) B
  | [], _ => R
  | m :: ms, h => (Rep.strs R fun z hz => h z (List.mem_cons_of_mem _ hz)).scal fun _ => .str m (h m (List.mem_cons_self ..))
/-! e.m(..) of an own thing that no name holds -/
variable {ρ : Env}
end
end FB

/-! Dicts compared whose values are tuples, lists, scalars. -/
namespace FB
open PySem PySem.Spec L2
open PyProof.Rows hiding St

section
variable {X : Cx} {K : PySem.W.Frag} {mg : Str → Option Value}
open Classical in
open Classical in
end
end FB
/-! a new list of one's own: a + b -/
namespace FB
open PySem PySem.Spec L2
open PyProof.Rows hiding St
section
variable {X : Cx} {K : PySem.W.Frag} {mg : Str → Option Value}
variable {ρ : Env}
def wC (ρ : Env) : Option (List D) → Res O
  | some ds => .ok (.lst (ds.map O.val)) ρ
  | none => .no
@[simp] theorem e_wC (ds : List D) : wC ρ (some ds) = .ok (.lst (ds.map O.val)) ρ := (rfl)
end
end FB
/-! an own thing compared with what is made behind it -/
namespace FB
open PySem PySem.Spec L2
open PyProof.Rows hiding St
section
variable {X : Cx} {K : PySem.W.Frag} {mg : Str → Option Value}
variable {ρ : Env}
end
end FB

/-! Methods that may raise. -/
namespace FB
open PySem PySem.Spec L2
open PyProof.Rows hiding St
section
variable {P : Program} {w : World} {K : PySem.W.Frag} {mg : Str → Option Value} {base : Heap}
end
section
variable {X : Cx} {W : WX}
variable {ρ : Env}
end
end FB
/-! name.f = e, e may raise -/
namespace FB
open PySem PySem.Spec L2
open PyProof.Rows hiding St
section
variable {X : Cx} {W : WX}
end
end FB

/-! Places within an own tree: name.f, name.f[k]; a method called there. -/
namespace FB
open PySem PySem.Spec L2
open PyProof.Rows hiding St
section
variable {X : Cx} {K : PySem.W.Frag} {mg : Str → Option Value}
def getP : List Stp → O → Option O
  | [], o => some o
  | .fld c f :: ps, .ins c' ns os => if c' = c then (fidx ns f).bind fun j => (os[j]?).bind (getP ps) else none
  | .key k :: ps, .dct ks os => (idxK ks k).bind fun j => (os[j]?).bind (getP ps)
  | _ :: _, _ => none
def setP : List Stp → O → O → O
  | [], _, u => u
  | .fld _ f :: ps, .ins c' ns os, u => match fidx ns f with
    | some j => match os[j]? with
      | some a => .ins c' ns (os.set j (setP ps a u))
      | none => .ins c' ns os
    | none => .ins c' ns os
  | .key k :: ps, .dct ks os, u => match idxK ks k with
    | some j => match os[j]? with
      | some a => .dct ks (os.set j (setP ps a u))
      | none => .dct ks os
    | none => .dct ks os
  | _ :: _, o, _ => o
theorem PathV.uniq {H : Hp} : ∀ {ps : List Stp} {v w w' : V}, PathV mg H v ps w → PathV mg H v ps w' → w = w'
  | [], _, _, _, .nil, .nil => rfl
  | .fld _ _ :: ps, _, _, _, .fld m1 h1 l1 t1, .fld m2 h2 l2 t2 => by
    rw [h1] at h2
    cases h2
    rw [l1] at l2
    cases l2
    exact t1.uniq t2
  | .key _ :: ps, _, _, _, .key h1 l1 t1, .key h2 l2 t2 => by
    rw [h1] at h2
    cases h2
    rw [l1] at l2
    cases l2
    exact t1.uniq t2
theorem PathV.same {H H' : Hp} (s : Same H H') : ∀ {ps : List Stp} {v w : V}, PathV mg H v ps w → PathV mg H' v ps w
  | [], _, _, .nil => .nil
  | .fld _ _ :: ps, _, _, .fld m1 h1 l1 t1 => .fld m1 (s _ _ h1) l1 (t1.same s)
  | .key _ :: ps, _, _, .key h1 l1 t1 => .key (s _ _ h1) l1 (t1.same s)
theorem perm6 (A Cc L : List Item) (h w : Item) : (h :: ((A ++ w :: Cc) ++ L)).Perm (w :: ((h :: (A ++ Cc)) ++ L)) := by
  have h1 : ((A ++ w :: Cc) ++ L).Perm (w :: ((A ++ Cc) ++ L)) := by
    rw [List.append_assoc, List.append_assoc]
    exact List.perm_middle
  exact (List.Perm.cons _ h1).trans (.swap _ _ _)
theorem Rep.openP {H : Hp} : ∀ {ps : List Stp} {root child : O} {v : V} {L : List Item}, getP ps root = some child → Rep K mg H (.ov v root :: L) [] →
    ∃ w rest, PathV mg H v ps w ∧ Rep K mg H (.ov w child :: (rest ++ L)) [] ∧ ∀ H' u L', Rep K mg H' (.ov w u :: (rest ++ L')) [] → Rep K mg H' (.ov v (setP ps root u) :: L') []
  | [], root, child, v, L, e, R => by
    cases e
    exact ⟨v, [], .nil, R, fun H' u L' R' => R'⟩
  | .fld c f :: ps, .ins c' ns os, child, v, L, e, R => by
    by_cases hc : c' = c
    · subst hc
      have e : (if c' = c' then (fidx ns f).bind fun j => (os[j]?).bind (getP ps) else none) = some child := e
      rw [if_pos rfl] at e
      cases ej : fidx ns f with
      | none => rw [ej] at e; cases e
      | some j =>
        rw [ej] at e
        cases ea : os[j]? with
        | none =>
          have e : (os[j]?).bind (getP ps) = some child := e
          rw [ea] at e; cases e
        | some a =>
          have e : (os[j]?).bind (getP ps) = some child := e
          rw [ea] at e
          have e9 : getP ps a = some child := e
          obtain ⟨p, C, dx, fs, rfl, hm, hl, hn, R1⟩ := R.openI
          subst hn
          obtain ⟨w', l1, l2⟩ := fidx_look ej
          obtain ⟨A, Cc, z1, z2⟩ := zip_at l2 ea
          have raw := R1.rawAt
          rw [z1] at R1
          have R2 : Rep K mg H (.ov w' a :: ((.raw p (.ins C dx fs) :: (A ++ Cc)) ++ L)) [] := R1.perm (perm6 A Cc L _ _)
          obtain ⟨w, rest, pv, R3, cl⟩ := Rep.openP e9 R2
          refine ⟨w, rest ++ (.raw p (.ins C dx fs) :: (A ++ Cc)), .fld hm raw l1 pv, by rw [List.append_assoc]; exact R3, fun H' u L' R' => ?_⟩
          rw [List.append_assoc] at R'
          have R5 := cl H' u _ R'
          have R6 := R5.perm (perm6 A Cc L' (.raw p (.ins C dx fs)) _).symm
          rw [← z2] at R6
          have es : setP (.fld c' f :: ps) (.ins c' (fs.map (·.1)) os) u = .ins c' (fs.map (·.1)) (os.set j (setP ps a u)) := by
            show (match fidx (fs.map (·.1)) f with | some j => _ | none => _) = _
            rw [ej]
            show (match os[j]? with | some a => _ | none => _) = _
            rw [ea]
          rw [es]
          exact Rep.closeI (C := C) (dx := dx) (fs := fs) R6 (by simpa using hl) hm rfl
    · have e : (if c' = c then (fidx ns f).bind fun j => (os[j]?).bind (getP ps) else none) = some child := e
      rw [if_neg hc] at e; cases e
  | .key k :: ps, .dct ks os, child, v, L, e, R => by
    have e : ((idxK ks k).bind fun j => (os[j]?).bind (getP ps)) = some child := e
    cases ej : idxK ks k with
    | none => rw [ej] at e; cases e
    | some j =>
      rw [ej] at e
      cases ea : os[j]? with
      | none =>
        have e : (os[j]?).bind (getP ps) = some child := e
        rw [ea] at e; cases e
      | some a =>
        have e : (os[j]?).bind (getP ps) = some child := e
        rw [ea] at e
        have e : getP ps a = some child := e
        obtain ⟨p, kvs, rfl, hl, hk, R1⟩ := R.openD
        have hj : j < os.length := (List.getElem?_eq_some_iff.mp ea).1
        have hlv : j < (kvs.map (·.2)).length := by simp; omega
        have l2 : (kvs.map (·.2))[j]? = some ((kvs.map (·.2))[j]'hlv) := List.getElem?_eq_getElem hlv
        have l1 : valV kvs k = some ((kvs.map (·.2))[j]'hlv) := by rw [idxK_valV, hk.1, ej]; exact l2
        generalize (kvs.map (·.2))[j]'hlv = w' at l1 l2
        obtain ⟨A, Cc, z1, z2⟩ := zip_at l2 ea
        have raw := R1.rawAt
        rw [z1] at R1
        have R2 : Rep K mg H (.ov w' a :: ((.raw p (.dK kvs) :: (A ++ Cc)) ++ L)) [] := R1.perm (perm6 A Cc L _ _)
        obtain ⟨w, rest, pv, R3, cl⟩ := Rep.openP e R2
        refine ⟨w, rest ++ (.raw p (.dK kvs) :: (A ++ Cc)), .key raw l1 pv, by rw [List.append_assoc]; exact R3, fun H' u L' R' => ?_⟩
        rw [List.append_assoc] at R'
        have R5 := cl H' u _ R'
        have R6 := R5.perm (perm6 A Cc L' (.raw p (.dK kvs)) _).symm
        rw [← z2] at R6
        have es : setP (.key k :: ps) (.dct ks os) u = .dct ks (os.set j (setP ps a u)) := by
          show (match idxK ks k with | some j => _ | none => _) = _
          rw [ej]
          show (match os[j]? with | some a => _ | none => _) = _
          rw [ea]
        rw [es]
        exact Rep.closeD R6 (by simpa using hl) hk
  | .fld _ _ :: ps, .val _, _, _, _, e, _ => by cases e
  | .fld _ _ :: ps, .lst _, _, _, _, e, _ => by cases e
  | .fld _ _ :: ps, .dct _ _, _, _, _, e, _ => by cases e
  | .key _ :: ps, .val _, _, _, _, e, _ => by cases e
  | .key _ :: ps, .lst _, _, _, _, e, _ => by cases e
  | .key _ :: ps, .ins _ _ _, _, _, _, e, _ => by cases e
/-! pure arguments -/
end
section
variable {X : Cx}
end
end FB

/-! append at a place: name.f.append(e), name.f[k].append(e); e is pure. -/
namespace FB
open PySem PySem.Spec L2
open PyProof.Rows hiding St
section
variable {X : Cx} {K : PySem.W.Frag} {mg : Str → Option Value}
def mAppP (i : Nat) (st : Env → Option (List Stp)) (f : Pf) : M O := fun ρ => match ρ[i]?, st ρ, f ρ with
  | some (some root), some ps, some (.val d) => match getP ps root with
    | some (.lst os) => if os.length < 1000000 then .ok (.val .non) (ρ.set i (some (setP ps root (.lst (os ++ [.val d]))))) else .no
    | _ => .no
  | _, _, _ => .no
theorem appP_core {i : Nat} {st : Env → Option (List Stp)} {f : Pf} {σ : L2.St} {H : Hp} {Q : VK} (w0 : tM K mg (mAppP i st f) σ H Q) :
    ∃ ρ T ps v0 q vs d, Cov σ ρ ∧ Rep K mg H (pairs σ ρ ++ T) [] ∧ st ρ = some ps ∧ σ[i]? = some (some v0) ∧ PathV mg H v0 ps (.ref q) ∧ H q = some (.lst vs) ∧ f ρ = some (.val d) ∧
      ∀ y H1, Same H H1 → Rep K mg H1 (pairs σ ρ ++ T) [(y, .val d)] → ∃ ws, H1 q = some (.lst ws) ∧ ws.length < sizeLine ∧ Q .non (upd H1 q (.lst (ws ++ [y]))) := by
  obtain ⟨ρ, T, o, ρ', cv, R, e, k⟩ := w0
  unfold mAppP at e
  split at e
  · rename_i root ps d e0 e1 e2
    split at e
    · rename_i os eg
      split at e
      · rename_i hlt
        cases e
        obtain ⟨v0, hv⟩ := cv.ex i _ e0
        have R1 := Rep.slot (M := []) hv e0 R
        obtain ⟨w, rest, pv, R2, _⟩ := Rep.openP eg R1
        obtain ⟨q, vs, rfl, hl, R3⟩ := R2.openL
        refine ⟨ρ, T, ps, v0, q, vs, d, cv, R, e1, hv, pv, R3.rawAt, e2, fun y H1 s1 RR => ?_⟩
        have R4 := Rep.slot (M := [.ov y (.val d)]) hv e0 RR.keep
        obtain ⟨w2, rest2, pv2, R5, cl⟩ := Rep.openP eg R4
        have := pv2.uniq (pv.same s1)
        subst this
        obtain ⟨q', ws, ev, hl2, R6⟩ := R5.openL
        cases ev
        refine ⟨ws, R6.rawAt, by rw [sizeLine_eq]; omega, ?_⟩
        have R7 := R6.write (o' := .lst (ws ++ [y]))
        have ez : zipI (ws ++ [y]) (os ++ [.val d]) = zipI ws os ++ [.ov y (.val d)] := by
          unfold zipI
          rw [List.zipWith_append hl2]; rfl
        have R8 : Rep K mg (upd H1 q (.lst (ws ++ [y]))) (.ov (.ref q) (.lst (os ++ [.val d])) :: (rest2 ++ (pairs σ (ρ.set i none) ++ T))) [] := by
          refine Rep.closeL (vs := ws ++ [y]) ?_ (by simp [hl2])
          rw [ez, List.append_assoc]
          refine R7.perm (List.Perm.cons _ (List.Perm.append_left _ ?_))
          show (rest2 ++ (.ov y (.val d) :: (pairs σ (ρ.set i none) ++ T))).Perm (.ov y (.val d) :: (rest2 ++ (pairs σ (ρ.set i none) ++ T)))
          exact List.perm_middle
        have R9 := cl _ _ _ R8
        have R10 : Rep K mg _ ([] ++ (pairs σ (ρ.set i (some (setP ps root (.lst (os ++ [.val d]))))) ++ T)) [] := Rep.unslot hv e0 R9
        exact k .non _ (cv.put hv _) (R10.scal fun _ => .non)
      · cases e
    · cases e
  · cases e
end
section
variable {X : Cx}
variable {ρ : Env}
/-! as rules -/
end
end FB

/-! C(..) where __init__ has a last parameter that is None unless given. -/
namespace FB
open PySem PySem.Spec L2
open PyProof.Rows hiding St
section
variable {P : Program} {w : World} {K : PySem.W.Frag} {mg : Str → Option Value} {base : Heap}
end
section
variable {X : Cx}
end
end FB

/-! name.f[k] += e, f a dict; name.f += e: ints. -/
namespace FB
open PySem PySem.Spec L2
open PyProof.Rows hiding St
section
variable {X : Cx} {K : PySem.W.Frag} {mg : Str → Option Value}
end
end FB

/-! E.append(e), E a list just made. -/
namespace FB
open PySem PySem.Spec L2
open PyProof.Rows hiding St
section
variable {X : Cx}
variable {ρ : Env}
end
end FB

/-! A name for a list at a place, looked at and changed:
rows = name.f[k]; if TEST: rows[I] = E else: rows.append(E') -- where TEST, E, E' may read name.now, an int. -/
namespace FB
open PySem PySem.Spec L2
open PyProof.Rows hiding St
section
variable {X : Cx} {K : PySem.W.Frag} {mg : Str → Option Value}
variable {i : Nat} {F : Str}
end
end FB

/-! A tuple times 0, 1 or more. -/
namespace FB
open PySem PySem.Spec L2
open PyProof.Rows hiding St
section
variable {X : Cx}
end
section
variable {X : Cx} {K : PySem.W.Frag} {mg : Str → Option Value}
end
end FB

/-! Tests and ifs in a suite behind except. -/
namespace FB
open PySem PySem.Spec L2
open PyProof.Rows hiding St
section
variable {X : Cx} {P : List Nat} {a : Addr} {i : Nat} {I : List Item}
end
end FB

/-! == between tuples, and between lists, that hold dicts, where both are alike. -/
namespace FB
open PySem PySem.Spec L2
open PyProof.Rows hiding St
section
variable {X : Cx} {K : PySem.W.Frag} {mg : Str → Option Value}
open Classical in
end
end FB

/-! Displays of dicts with several text keys. -/
namespace FB
open PySem PySem.Spec L2
open PyProof.Rows hiding St
section
variable {X : Cx} {K : PySem.W.Frag} {mg : Str → Option Value}
theorem sds_nil {pos : Pos} : SDs X pos [] [] [] mNil := ⟨⟨[], pps_nil, fun σ H Q w => by
  obtain ⟨ρ, T, os, ρ', c, R, e, _, k⟩ := w
  cases e
  exact k [] H c rfl R⟩, rfl, rfl⟩
theorem sds_cons {pos : Pos} {k v : Expr} {s : Str} {keys : List (Option Expr)} {values : List Expr} {ks : List Str} {m : M O} {ms : M (List O)} (hk : SP X k (pC (.str s))) (hv : SE X v m) (hr : SDs X pos keys values ks ms) : SDs X pos (some k :: keys) (v :: values) (s :: ks) (mCons m ms) := by
  obtain ⟨trs, h1, h2⟩ := hr.tr
  refine ⟨⟨_, pps_cons hk hv h1, fun σ H Q w => ?_⟩, by simpa using hr.all, by simpa using hr.len⟩
  obtain ⟨ρ, T, os, ρ', c, R, e, hl, kk⟩ := w
  obtain ⟨o, ρ1, e1, e⟩ := Res.bind_eq e
  obtain ⟨os2, ρ2, e2, e⟩ := Res.bind_eq e
  cases e
  refine ⟨ρ, T, [], .val (.str s), c, R, rfl, fun x H1 s1 R1 => ?_⟩
  obtain rfl := R1.shStr (List.mem_cons_self ..) rfl
  refine ⟨ρ, T, o, ρ1, c, R1.bdrop, e1, fun y H2 c2 R2 => h2 σ H2 _ ?_⟩
  refine ⟨ρ1, .ov y o :: T, os2, _, c2, R2.perm List.perm_middle.symm, e2, by simpa using hl, fun vs H3 c3 l3 R3 => ?_⟩
  refine kk (y :: vs) H3 c3 (by simpa using l3) ?_
  refine R3.perm ?_
  show (zipI vs os2 ++ (pairs σ _ ++ .ov y o :: T)).Perm (.ov y o :: (zipI vs os2 ++ (pairs σ _ ++ T)))
  refine (List.Perm.append_left _ List.perm_middle).trans ?_
  exact List.perm_middle
theorem mergeK_nd : ∀ (kvs acc : List (Key × V)), ((acc ++ kvs).map (·.1)).Nodup → mergeK acc kvs = acc ++ kvs
  | [], acc, _ => by show acc = acc ++ []; simp
  | p :: kvs, acc, h => by
    have e : putK acc p.1 p.2 = acc ++ [p] := by
      unfold putK
      have hn : (acc.any fun kv => decide (kv.1 = p.1)) = false := by
        rw [List.any_eq_false]
        intro z hz
        rw [List.map_append, List.nodup_append] at h
        have := h.2.2 z.1 (List.mem_map.mpr ⟨z, hz, rfl⟩) p.1 (by simp)
        simpa using this
      rw [hn]
      rfl
    show mergeK (putK acc p.1 p.2) kvs = _
    rw [e, mergeK_nd kvs (acc ++ [p]) (by simpa using h)]
    simp
/-- text keys -/
abbrev inrK (ks : List Str) : List Key := ks.map Sum.inr
theorem zip_kv : ∀ (ks : List Str) (vs : List V), ((inrK ks).zip vs).map (fun kv : Key × V => (kV kv.1, kv.2)) = (ks.map V.str).zip vs
  | [], _ => rfl
  | _ :: _, [] => rfl
  | k :: ks, v :: vs => by
    show (V.str k, v) :: ((inrK ks).zip vs).map (fun kv : Key × V => (kV kv.1, kv.2)) = (V.str k, v) :: _
    rw [zip_kv ks vs]
    rfl
theorem nd_inr {ks : List Str} (h : ks.Nodup) : (inrK ks).Nodup := by
  unfold List.Nodup
  rw [List.pairwise_map]
  exact h.imp fun hne e => hne (Sum.inr.inj e)
/-- {k: m, ..}, an own dict -/
def mDispS (ks : List Str) (m : M (List O)) : M O := fun ρ => (m ρ).bind fun os ρ1 => if os.length = ks.length then .ok (.dct (inrK ks) os) ρ1 else .no
theorem se_dispS {pos : Pos} {keys : List (Option Expr)} {values : List Expr} {ks : List Str} {m : M (List O)} (h : SDs X pos keys values ks m) (hn : ks.Nodup) (h0 : keys ≠ []) (h15 : keys.length ≤ 15) (hk : ks.length = keys.length) : SE X (.Dict keys values pos) (mDispS ks m) := by
  obtain ⟨trs, h1, h2⟩ := h.tr
  refine PE.imp (pe_disp h1 h.all h.len h0 h15) fun σ H Q w => ?_
  obtain ⟨ρ, T, o, ρ', c, R, e, k⟩ := w
  obtain ⟨os, ρ1, e1, e⟩ := Res.bind_eq e
  split at e
  · rename_i hl
    cases e
    intro p hp
    have R1 := R.new (o := .dK []) hp
    refine h2 σ _ _ ⟨ρ, .raw p (.dK []) :: T, os, _, c, R1.perm List.perm_middle.symm, e1, hl, fun vs H2 c2 l2 R2 => ?_⟩
    have R3 : Rep X.K X.mg H2 (.raw p (.dK []) :: (zipI vs os ++ (pairs σ _ ++ T))) [] := R2.perm ((List.Perm.append_left _ List.perm_middle).trans List.perm_middle)
    refine ⟨R3.rawAt, (inrK ks).zip vs, ?_, ?_, ?_⟩
    · rw [zip_kv]
    · rw [List.length_zip, List.length_map]; omega
    · have nd : (((inrK ks).zip vs).map (·.1)).Nodup := by
        rw [List.map_fst_zip (by rw [List.length_map]; omega)]
        exact nd_inr hn
      rw [mergeK_nd _ [] (by simpa using nd), List.nil_append]
      refine k _ _ c2 ?_
      have R4 := R3.write (o' := .dK ((inrK ks).zip vs))
      refine Rep.closeD (kvs := (inrK ks).zip vs) ?_ ?_ ⟨List.map_fst_zip (by rw [List.length_map]; omega), ?_⟩
      · rw [List.map_snd_zip (by rw [List.length_map]; omega)]
        exact R4
      · rw [List.length_zip, List.length_map]; omega
      · exact nd_inr hn
  · cases e
end
end FB

/-! Places under text keys of an own dict: name["k"][e] = v, name["k"].append(e); an own name moved late into a display. -/
namespace FB
open PySem PySem.Spec L2
open PyProof.Rows hiding St
section
variable {X : Cx}
/-- name["kx"][n] = m -/
def mSetDI (i : Nat) (kx : Str) (n : Pf) (m : M O) : M Fl := fun ρ => (m ρ).bind fun u ρ1 => match ρ1[i]?, n ρ1 with
  | some (some root), some (.val d) => match getP [.key (.inr kx)] root with
    | some a => match setItO a (.val d) u with
      | some a' => .ok .nx (ρ1.set i (some (setP [.key (.inr kx)] root a')))
      | none => .no
    | none => .no
  | _, _ => .no
theorem ss_setDI (i : Nat) {P : List Nat} {kx x : Str} {p kpos tpos pos : Pos} {kc ix e : Expr} {n : Pf} {m : M O} (ok : CxOk X) (hk : SP X kc (pC (.str kx))) (hn : SP X ix n) (h : SE X e m) (hN : X.N[i]? = some x := by rfl) (hv : Vis X.env.scope x := by first | exact Or.inl rfl | exact Or.inr (Or.inl rfl) | exact Or.inr (Or.inr rfl)) (hd : (x == ("__debug__" : Str)) = false := by decide)
    (hcd : (x == ("__classdict__" : Str)) = false := by decide) (hpi : PlainIx kc := by exact fun _ _ => rfl)
    (ha : ∀ v, assign (.Subscript (.Subscript (.Name x p) kc kpos) ix tpos) X.env v = (do
      let ov ← holding [v] (eval (.Subscript (.Name x p) kc kpos) X.env)
      let iv ← holding [v, ov] (eval ix X.env)
      standAt tpos
      holding [v, ov, iv] (setItem ov iv v)
      release [v, ov, iv] []) := by intro _; rfl)
    (hs : swapsWithSole [.Subscript (.Subscript (.Name x p) kc kpos) ix tpos] e pos.line X.env = pure false := by rfl) (hw : swappedStores [.Subscript (.Subscript (.Name x p) kc kpos) ix tpos] e X.env = pure none := by rfl)
    (h1 : (assignEach [.Subscript (.Subscript (.Name x p) kc kpos) ix tpos] X.env).map (·.2) = [assign (.Subscript (.Subscript (.Name x p) kc kpos) ix tpos) X.env] := by rfl) :
    SS X P (.Assign [.Subscript (.Subscript (.Name x p) kc kpos) ix tpos] e pos) (mSetDI i kx n m) :=
  PS.imp (ps_asg h (pg_sub (pe_ix (ix_dct ok) (pv i hN hv hd hcd) hk hpi) hn (set_F ok) ha) hs hw h1) fun D σ H w => by
    obtain ⟨ρ, T, cv, R, h⟩ := tS_iff.mp w
    unfold mSetDI at h
    cases e1 : m ρ with
    | exc z ρ1 => rw [e1] at h; exact h.elim
    | no => rw [e1] at h; exact h.elim
    | ok u ρ1 =>
      rw [e1, Res.bind_ok] at h
      refine ⟨ρ, T, u, ρ1, cv, R, e1, fun v H1 c1 R1 => ?_⟩
      split at h
      · rename_i root d e2 e3
        split at h
        · rename_i a eg
          split at h
          · rename_i a' es
            obtain ⟨v0, hv0⟩ := c1.ex i _ e2
            have R1' := R1.perm List.perm_middle.symm
            have R2 := Rep.slot (M := []) hv0 e2 R1'
            obtain ⟨w, rest, pv, R3, _⟩ := Rep.openP eg R2
            cases pv with
            | key hH l t =>
              cases t
              refine ⟨_, hv0, ρ1, .ov v u :: T, [], .val (.str kx), c1, R1', rfl, fun yk H2 s2 R4 => ?_⟩
              obtain rfl := R4.shStr (List.mem_cons_self ..) rfl
              refine ⟨_, _, rfl, .inl ⟨_, .inr kx, .inl (s2 _ _ hH), rfl, l.symm⟩, ?_⟩
              refine ⟨ρ1, .ov v u :: T, [], .val d, c1, R4.bdrop, e3, fun y H3 s3 R5 => ?_⟩
              have R6 : Rep X.K X.mg H3 ([.ov y (.val d), .ov v u] ++ (pairs σ ρ1 ++ T)) [] := R5.keep.perm (List.Perm.cons _ List.perm_middle)
              have R8 := Rep.slot (M := [.ov y (.val d), .ov v u]) hv0 e2 R6
              obtain ⟨w2, rest2, pv2, R9, cl⟩ := Rep.openP eg R8
              have := pv2.uniq (.key (s3 _ _ (s2 _ _ hH)) l .nil)
              subst this
              have R10 : Rep X.K X.mg H3 (.ov w2 a :: .ov y (.val d) :: .ov v u :: (rest2 ++ (pairs σ (ρ1.set i none) ++ T))) [] := by
                refine R9.perm (List.Perm.cons _ ?_)
                show (rest2 ++ (.ov y (.val d) :: .ov v u :: (pairs σ (ρ1.set i none) ++ T))).Perm _
                refine List.perm_middle.trans (List.Perm.cons _ ?_)
                exact List.perm_middle
              refine setIt_core R10 es fun H' R11 => ?_
              have R12 := cl H' a' _ R11
              exact h σ H' (Fix.refl _ _) (c1.put hv0 _) (Rep.unslot (M := []) hv0 e2 R12)
          · exact h.elim
        · exact h.elim
      · exact h.elim
def stD (kx : Str) : Env → Option (List Stp) := fun _ => some [.key (.inr kx)]
/-- name["kx"].append(e) -/
theorem se_appD (i : Nat) {kx x : Str} {p spos apos cpos : Pos} {kc e : Expr} {g : Pf} (ok : CxOk X) (hk : SP X kc (pC (.str kx))) (h : SP X e g) (hN : X.N[i]? = some x := by rfl) (hv : Vis X.env.scope x := by first | exact Or.inl rfl | exact Or.inr (Or.inl rfl) | exact Or.inr (Or.inr rfl)) (hd : (x == ("__debug__" : Str)) = false := by decide)
    (hcd : (x == ("__classdict__" : Str)) = false := by decide) (hpi : PlainIx kc := by exact fun _ _ => rfl) (hst : starEach (e :: []) X.env = (false, eval e X.env) :: starEach [] X.env := by rfl)
    (hbase : attributeBase (.Subscript (.Name x p) kc spos) "append" X.env (eval (.Subscript (.Name x p) kc spos) X.env) = eval (.Subscript (.Name x p) kc spos) X.env := by rfl)
    (hfew : ((backTo cpos (starEach (e :: []) X.env)).all (fun x => !x.1) && (backToKw cpos (keywordEach [] X.env)).all (fun x => x.1.isSome)
      && decide ((e :: []).length + ([] : List Keyword).length + (if ([] : List Keyword).isEmpty then 0 else 1) < 30)) = true := by rfl)
    (hline : (apos.endLine == cpos.line) = true := by rfl) (hplain : (backTo cpos (starEach [] X.env)).any (·.1) = false := by rfl) :
    SE X (.Call (.Attribute (.Subscript (.Name x p) kc spos) "append" apos) [e] [] cpos) (mAppP i (stD kx) g) :=
  PE.imp (pe_bm PySem.F.plainAttrs_list PySem.F.slot_list_append PySem.F.type_list_append mt_append (pe_ix (ix_dct ok) (pv i hN hv hd hcd) hk hpi) (pa_cons h pa_nil hst) hbase hfew hline hst hplain) fun σ H Q w => by
    obtain ⟨ρ, T, ps, v0, q, vs, d, cv, R, e1, hv, pv, hq, ef, k⟩ := appP_core w
    cases e1
    cases pv with
    | key hH l t =>
      cases t
      refine ⟨_, hv, ρ, T, [], .val (.str kx), cv, R, rfl, fun yk H2 s2 R4 => ?_⟩
      obtain rfl := R4.shStr (List.mem_cons_self ..) rfl
      refine ⟨_, _, rfl, .inl ⟨_, .inr kx, .inl (s2 _ _ hH), rfl, l.symm⟩, .inl ⟨rfl, _, SqL.of (s2 _ _ hq)⟩, ρ, T, [], .val d, cv, R4.bdrop, ef, fun y H3 s3 R5 => ?_⟩
      obtain ⟨ws, g1, g2, g3⟩ := k y H3 (s2.trans s3) R5
      exact ⟨q, ws, y, rfl, rfl, g1, g2, g3⟩
/-- an own name among a display's values, moved when all else is made -/
def mConsL (i : Nat) (ms : M (List O)) : M (List O) := fun ρ => match ρ[i]? with
  | some (some _) => (ms ρ).bind fun os ρ1 => match ρ1[i]? with
    | some (some o) => .ok (o :: os) (ρ1.set i none)
    | _ => .no
  | _ => .no
theorem sds_late (i : Nat) {pos p : Pos} {k : Expr} {s x : Str} {keys : List (Option Expr)} {values : List Expr} {ks : List Str} {ms : M (List O)} (hk : SP X k (pC (.str s))) (hr : SDs X pos keys values ks ms) (hN : X.N[i]? = some x := by rfl) (hv : Vis X.env.scope x := by first | exact Or.inl rfl | exact Or.inr (Or.inl rfl) | exact Or.inr (Or.inr rfl)) (hd : (x == ("__debug__" : Str)) = false := by decide)
    (hcd : (x == ("__classdict__" : Str)) = false := by decide) : SDs X pos (some k :: keys) (.Name x p :: values) (s :: ks) (mConsL i ms) := by
  obtain ⟨trs, h1, h2⟩ := hr.tr
  refine ⟨⟨_, pps_cons hk (pv i hN hv hd hcd) h1, fun σ H Q w => ?_⟩, by simpa using hr.all, by simpa using hr.len⟩
  obtain ⟨ρ, T, os, ρ', c, R, e, hl, kk⟩ := w
  unfold mConsL at e
  split at e
  · rename_i o0 e0
    obtain ⟨os2, ρ2, e2, e⟩ := Res.bind_eq e
    split at e
    · rename_i o e3
      cases e
      obtain ⟨v, hv0⟩ := c.ex i _ e0
      refine ⟨ρ, T, [], .val (.str s), c, R, rfl, fun y H1 s1 R1 => ?_⟩
      obtain rfl := R1.shStr (List.mem_cons_self ..) rfl
      refine ⟨v, hv0, h2 σ H1 _ ?_⟩
      refine ⟨ρ, T, os2, _, c, R1.bdrop, e2, by simpa using hl, fun vs H3 c3 l3 R3 => ?_⟩
      refine kk (v :: vs) H3 (c3.setn i) (by simpa using l3) ?_
      refine R3.perm ?_
      show (zipI vs os2 ++ (pairs σ _ ++ T)).Perm (.ov v o :: (zipI vs os2 ++ (pairs σ _ ++ T)))
      exact (List.Perm.append_left _ ((pairs_take hv0 e3).append_right T)).trans List.perm_middle
    · cases e
  · cases e
end
end FB

/-! What stands at a text key of an own dict, shown and shared from then on. -/
namespace FB
open PySem PySem.Spec L2
open PyProof.Rows hiding St
section
variable {X : Cx}
def mFrzD (i : Nat) (kx : Str) : M O := fun ρ => match ρ[i]? with
  | some (some root) => match getP [.key (.inr kx)] root with
    | some a => .ok (.val a.toD) (ρ.set i (some (setP [.key (.inr kx)] root (.val a.toD))))
    | none => .no
  | _ => .no
theorem se_frzD (i : Nat) {kx x : Str} {p kpos : Pos} {kc : Expr} (ok : CxOk X) (hk : SP X kc (pC (.str kx))) (hN : X.N[i]? = some x := by rfl) (hv : Vis X.env.scope x := by first | exact Or.inl rfl | exact Or.inr (Or.inl rfl) | exact Or.inr (Or.inr rfl)) (hd : (x == ("__debug__" : Str)) = false := by decide)
    (hcd : (x == ("__classdict__" : Str)) = false := by decide) (hpi : PlainIx kc := by exact fun _ _ => rfl) : SE X (.Subscript (.Name x p) kc kpos) (mFrzD i kx) :=
  PE.imp (pe_ix (ix_dct ok) (pv i hN hv hd hcd) hk hpi) fun σ H Q w => by
    obtain ⟨ρ, T, o, ρ', cv, R, e, k⟩ := w
    unfold mFrzD at e
    split at e
    · rename_i root e1
      split at e
      · rename_i a eg
        cases e
        obtain ⟨v0, hv0⟩ := cv.ex i _ e1
        have R1 := Rep.slot (M := []) hv0 e1 R
        obtain ⟨w, rest, pv, R2, _⟩ := Rep.openP eg R1
        cases pv with
        | key hH l t =>
          cases t
          refine ⟨_, hv0, ρ, T, [], .val (.str kx), cv, R, rfl, fun yk H2 s2 R4 => ?_⟩
          obtain rfl := R4.shStr (List.mem_cons_self ..) rfl
          refine ⟨_, _, rfl, .inl ⟨_, .inr kx, .inl (s2 _ _ hH), rfl, l.symm⟩, ?_⟩
          have R5 := Rep.slot (M := []) hv0 e1 R4.bdrop
          obtain ⟨w2, rest2, pv2, R6, cl⟩ := Rep.openP eg R5
          have := pv2.uniq (.key (s2 _ _ hH) l .nil)
          subst this
          have R7 : Rep X.K X.mg H2 (.ov w2 (.val a.toD) :: .ov w2 (.val a.toD) :: (rest2 ++ ([] ++ (pairs σ (ρ.set i none) ++ T)))) [] := R6.frz.lend.keep
          have R8 : Rep X.K X.mg H2 (.ov w2 (.val a.toD) :: (rest2 ++ (.ov w2 (.val a.toD) :: (pairs σ (ρ.set i none) ++ T)))) [] := R7.perm (List.Perm.cons _ List.perm_middle.symm)
          have R9 := cl H2 (.val a.toD) _ R8
          have R10 := Rep.unslot (M := [.ov w2 (.val a.toD)]) hv0 e1 R9
          exact k _ H2 (cv.put hv0 _) R10
      · cases e
    · cases e
end
end FB

/-! Rules for simp: displays of dicts, places under text keys. -/
namespace FB
open PySem PySem.Spec L2
open PyProof.Rows hiding St
variable {ρ : Env}
def dsA (ks : List Str) : Res (List O) → Res O
  | .ok os ρ => if os.length = ks.length then .ok (.dct (inrK ks) os) ρ else .no
  | .exc x ρ => .exc x ρ
  | .no => .no
@[simp] theorem e_mDispS (ks : List Str) (m : M (List O)) : mDispS ks m ρ = dsA ks (m ρ) := by unfold mDispS dsA; cases m ρ <;> rfl
@[simp] theorem e_dsA (ks : List Str) (os : List O) (h : os.length = ks.length) : dsA ks (.ok os ρ) = .ok (.dct (inrK ks) os) ρ := by
  show (if os.length = ks.length then Res.ok (O.dct (inrK ks) os) ρ else .no) = _
  rw [if_pos h]
/-- what a text key's thing becomes -/
def stDI (kx : Str) (root : O) (d : D) (u : O) : Option O := (getP [.key (.inr kx)] root).bind fun a => (setItO a (.val d) u).map fun a' => setP [.key (.inr kx)] root a'
def diC (i : Nat) (ρ : Env) : Option O → Res Fl
  | some r => .ok .nx (ρ.set i (some r))
  | none => .no
def diB (i : Nat) (kx : Str) (u : O) (ρ : Env) : Option (Option O) → Option O → Res Fl
  | some (some root), some (.val d) => diC i ρ (stDI kx root d u)
  | _, _ => .no
def diA (i : Nat) (kx : Str) (n : Pf) : Res O → Res Fl
  | .ok u ρ => diB i kx u ρ ρ[i]? (n ρ)
  | .exc x ρ => .exc x ρ
  | .no => .no
@[simp] theorem e_mSetDI (i : Nat) (kx : Str) (n : Pf) (m : M O) : mSetDI i kx n m ρ = diA i kx n (m ρ) := by
  unfold mSetDI diA
  cases m ρ with
  | exc z ρ1 => rfl
  | no => rfl
  | ok u ρ1 =>
    rw [Res.bind_ok]
    dsimp only
    unfold diB
    cases e1 : ρ1[i]? with
    | none => rfl
    | some o =>
      cases o with
      | none => rfl
      | some root =>
        cases e2 : n ρ1 with
        | none => rfl
        | some a0 =>
          cases a0 with
          | val d =>
            dsimp only
            unfold stDI
            cases getP [.key (.inr kx)] root with
            | none => rfl
            | some a =>
              dsimp only [Option.bind_some]
              cases setItO a (.val d) u <;> rfl
          | lst _ => rfl
          | dct _ _ => rfl
          | ins _ _ _ => rfl
@[simp] theorem e_diA (i : Nat) (kx : Str) (n : Pf) (u : O) : diA i kx n (.ok u ρ) = diB i kx u ρ ρ[i]? (n ρ) := (rfl)
@[simp] theorem e_diB (i : Nat) (kx : Str) (u root : O) (d : D) : diB i kx u ρ (some (some root)) (some (.val d)) = diC i ρ (stDI kx root d u) := (rfl)
@[simp] theorem e_diC (i : Nat) (r : O) : diC i ρ (some r) = .ok .nx (ρ.set i (some r)) := (rfl)
/-- a text key's thing, shown and shared from then on -/
def frDI (kx : Str) (root : O) : Option (D × O) := (getP [.key (.inr kx)] root).map fun a => (a.toD, setP [.key (.inr kx)] root (.val a.toD))
def fdC (i : Nat) (ρ : Env) : Option (D × O) → Res O
  | some p => .ok (.val p.1) (ρ.set i (some p.2))
  | none => .no
def fdB (i : Nat) (kx : Str) (ρ : Env) : Option (Option O) → Res O
  | some (some root) => fdC i ρ (frDI kx root)
  | _ => .no
@[simp] theorem e_mFrzD (i : Nat) (kx : Str) : mFrzD i kx ρ = fdB i kx ρ ρ[i]? := by
  unfold mFrzD fdB
  cases e1 : ρ[i]? with
  | none => rfl
  | some o =>
    cases o with
    | none => rfl
    | some root =>
      dsimp only
      unfold frDI
      cases getP [.key (.inr kx)] root <;> rfl
@[simp] theorem e_fdB (i : Nat) (kx : Str) (root : O) : fdB i kx ρ (some (some root)) = fdC i ρ (frDI kx root) := (rfl)
@[simp] theorem e_fdC (i : Nat) (d : D) (r : O) : fdC i ρ (some (d, r)) = .ok (.val d) (ρ.set i (some r)) := (rfl)
def lcC (i : Nat) (os : List O) (ρ : Env) : Option (Option O) → Res (List O)
  | some (some o) => .ok (o :: os) (ρ.set i none)
  | _ => .no
def lcB (i : Nat) : Res (List O) → Res (List O)
  | .ok os ρ => lcC i os ρ ρ[i]?
  | .exc x ρ => .exc x ρ
  | .no => .no
def lcA (i : Nat) (r : Res (List O)) : Option (Option O) → Res (List O)
  | some (some _) => lcB i r
  | _ => .no
@[simp] theorem e_mConsL (i : Nat) (ms : M (List O)) : mConsL i ms ρ = lcA i (ms ρ) ρ[i]? := by
  unfold mConsL lcA
  cases e1 : ρ[i]? with
  | none => rfl
  | some o =>
    cases o with
    | none => rfl
    | some o =>
      dsimp only
      unfold lcB
      cases ms ρ with
      | ok os ρ1 =>
        dsimp only [Res.bind]
        unfold lcC
        cases ρ1[i]? with
        | none => rfl
        | some o => cases o <;> rfl
      | exc x ρ1 => rfl
      | no => rfl
@[simp] theorem e_lcA (i : Nat) (r : Res (List O)) (o : O) : lcA i r (some (some o)) = lcB i r := (rfl)
@[simp] theorem e_lcB (i : Nat) (os : List O) : lcB i (.ok os ρ) = lcC i os ρ ρ[i]? := (rfl)
@[simp] theorem e_lcC (i : Nat) (os : List O) (o : O) : lcC i os ρ (some (some o)) = .ok (o :: os) (ρ.set i none) := (rfl)
/-- name["kx"].append(d) -/
def apDI (kx : Str) (root : O) (d : D) : Option O := match getP [.key (.inr kx)] root with
  | some (.lst os) => if os.length < 1000000 then some (setP [.key (.inr kx)] root (.lst (os ++ [.val d]))) else none
  | _ => none
def adC (i : Nat) (ρ : Env) : Option O → Res O
  | some r => .ok (.val .non) (ρ.set i (some r))
  | none => .no
def adB (i : Nat) (kx : Str) (ρ : Env) : Option (Option O) → Option O → Res O
  | some (some root), some (.val d) => adC i ρ (apDI kx root d)
  | _, _ => .no
@[simp] theorem e_mAppD (i : Nat) (kx : Str) (f : Pf) : mAppP i (stD kx) f ρ = adB i kx ρ ρ[i]? (f ρ) := by
  unfold mAppP adB
  have : stD kx ρ = some [.key (.inr kx)] := rfl
  rw [this]
  cases e1 : ρ[i]? with
  | none => rfl
  | some o =>
    cases o with
    | none => rfl
    | some root =>
      cases e2 : f ρ with
      | none => rfl
      | some a0 =>
        cases a0 with
        | val d =>
          dsimp only
          unfold apDI
          cases getP [.key (.inr kx)] root with
          | none => rfl
          | some a =>
            cases a with
            | lst os =>
              dsimp only
              split <;> rfl
            | val _ => rfl
            | dct _ _ => rfl
            | ins _ _ _ => rfl
        | lst _ => rfl
        | dct _ _ => rfl
        | ins _ _ _ => rfl
@[simp] theorem e_adB (i : Nat) (kx : Str) (root : O) (d : D) : adB i kx ρ (some (some root)) (some (.val d)) = adC i ρ (apDI kx root d) := (rfl)
@[simp] theorem e_adC (i : Nat) (r : O) : adC i ρ (some r) = .ok (.val .non) (ρ.set i (some r)) := (rfl)
end FB

namespace Wk
open PySem PySem.Spec L2 FB
open PyProof.Rows hiding St
structure Fr (K : PySem.W.Frag) (mg : Str → Option Value) : Prop where
  n_ : True
  n_all : mg "all" = none
  n_any : mg "any" = none
  n_dict : mg "dict" = none
  n_enumerate : mg "enumerate" = none
  n_int : mg "int" = none
  n_len : mg "len" = none
  n_list : mg "list" = none
  n_range : mg "range" = none
  n_sorted : mg "sorted" = none
  n_tuple : mg "tuple" = none
  n_zip : mg "zip" = none
abbrev fs_Way : List Str := ["guards", "idle", "found"]
theorem fi_Way_guards : fidx fs_Way "guards" = some 0 := by decide +kernel
theorem fi_Way_idle : fidx fs_Way "idle" = some 1 := by decide +kernel
theorem fi_Way_found : fidx fs_Way "found" = some 2 := by decide +kernel
theorem fm_Way___init__ : fidx fs_Way "__init__" = none := by decide +kernel
theorem fm_Way_lows : fidx fs_Way "lows" = none := by decide +kernel
theorem fm_Way_turns : fidx fs_Way "turns" = none := by decide +kernel
theorem fm_Way_is_held : fidx fs_Way "is_held" = none := by decide +kernel
theorem fm_Way_opening : fidx fs_Way "opening" = none := by decide +kernel
noncomputable def q1_guards_of : M O := mComp (mI (mP (p2 ixO (pVar 0) (pC (.int 0))))) (own2 [("guard", 1)]) (aN 1) (mTrue) (mP (p2 ixO (pVar 1) (pC (.int 0))))
noncomputable def b_guards_of : M Fl := mRet (q1_guards_of)
abbrev E_guards_of (v_board v_guard : Option O := none) : FB.Env := [v_board, v_guard]
noncomputable def F_guards_of : FSem := runF 1 2 [] b_guards_of
theorem sc_guards_of : FnScope ["board", "guard"] ["board"] (C8.fnScope s_guards_of) := C8.fnScope_by (by decide +kernel)
noncomputable def q1_loads_of : M O := mComp (mI (mP (p2 ixO (pVar 0) (pC (.int 1))))) (own2 [("load", 1)]) (aN 1) (mTrue) (mP (p2 ixO (pVar 1) (pC (.int 0))))
noncomputable def b_loads_of : M Fl := mRet (q1_loads_of)
abbrev E_loads_of (v_board v_load : Option O := none) : FB.Env := [v_board, v_load]
noncomputable def F_loads_of : FSem := runF 1 2 [] b_loads_of
theorem sc_loads_of : FnScope ["board", "load"] ["board"] (C8.fnScope s_loads_of) := C8.fnScope_by (by decide +kernel)
noncomputable def q1_chain : M O := mComp (mI (mP (pVar 0))) (own2 [("guard", 4)]) (aN 4) (mTrue) (mP (pTup (pCons (p2 ixO (pVar 4) (pC (.int 0))) (pCons (p2 ixO (pVar 4) (pC (.int 1))) (pNil)))))
noncomputable def t1_chain : M Bool := mB (mP (p2 (notNO) (pVar 1) (pC .non)))
noncomputable def b1_chain : M Fl := mSeq (mEx (mAppend 3 (mP (pVar 1)))) (mSetP 1 (mP (p2 ixF (pVar 2) (pVar 1))))
noncomputable def b_chain : M Fl := mSeq (mSetP 2 (mDictP (q1_chain))) (mSeq (mSetO 3 (mLst (mNil))) (mSeq (mWhile (fun _ => fuel) t1_chain b1_chain) (mRet (mMove 3))))
abbrev E_chain (v_guards v_name v_unders v_found v_guard : Option O := none) : FB.Env := [v_guards, v_name, v_unders, v_found, v_guard]
noncomputable def F_chain : FSem := runF 2 5 [] b_chain
theorem sc_chain : FnScope ["guards", "name", "unders", "found", "guard"] ["guards", "name"] (C8.fnScope s_chain) := C8.fnScope_by (by decide +kernel)
noncomputable def b1_over : M Fl := mIf (mB (mP (p2 (eqO) (pVar 2) (pVar 1)))) (mRet (mCall F_chain [.v (mP (p2 ixO (pVar 0) (pC (.int 0)))), .v (mP (pVar 3))])) (mSkip)
noncomputable def b_over : M Fl := mSeq (mIf (mB (m2 (inO) (mP (pVar 1)) (mCall F_guards_of [.v (mP (pVar 0))]))) (mRet (mCall F_chain [.v (mP (p2 ixO (pVar 0) (pC (.int 0)))), .v (mP (pVar 1))])) (mSkip)) (mSeq (mFor (mI (mP (p2 ixO (pVar 0) (pC (.int 1))))) (aTup (aCons (aN 2) (aCons (aN 3) (aCons (aN 4) (aCons (aN 5) (aCons (aN 6) (aNil))))))) b1_over) (mNever))
abbrev E_over (v_board v_place v_name v_at v_course v_last v_on : Option O := none) : FB.Env := [v_board, v_place, v_name, v_at, v_course, v_last, v_on]
noncomputable def F_over : FSem := runF 2 7 [] b_over
theorem sc_over : FnScope ["board", "place", "name", "at", "course", "last", "on"] ["board", "place"] (C8.fnScope s_over) := C8.fnScope_by (by decide +kernel)
noncomputable def b1_draws : M Fl := mSetIt 3 (mP (pVar 4)) (mP (pC (.int 0)))
noncomputable def q1_draws : M O := mComp (mI (mP (pVar 6))) (own2 [("guard", 4)]) (aN 4) (mTrue) (mP (p2 (inO) (pVar 4) (pVar 1)))
noncomputable def b2_draws : M Fl := mAugI 3 (fun i j => i + j) (pVar 4) (p2 ixF (pVar 2) (pVar 5))
noncomputable def b3_draws : M Fl := mSeq (mSetP 6 (mCall F_over [.v (mP (pVar 0)), .v (mP (pVar 5))])) (mIf (mNot (mB (m1 anyO (q1_draws)))) (mFor (mI (mP (pVar 6))) (aN 4) b2_draws) (mSkip))
noncomputable def b_draws : M Fl := mSeq (mSetO 3 (mDict0)) (mSeq (mFor (mI (mCall F_guards_of [.v (mP (pVar 0))])) (aN 4) b1_draws) (mSeq (mForK 2 (aN 5) b3_draws) (mRet (mMove 3))))
abbrev E_draws (v_board v_opened v_pulls v_found v_guard v_place v_above : Option O := none) : FB.Env := [v_board, v_opened, v_pulls, v_found, v_guard, v_place, v_above]
noncomputable def F_draws : FSem := runF 3 7 [] b_draws
theorem sc_draws : FnScope ["board", "opened", "pulls", "found", "guard", "place", "above"] ["board", "opened", "pulls"] (C8.fnScope s_draws) := C8.fnScope_by (by decide +kernel)
noncomputable def b1_rest : M Fl := mIf (mB (mP (pVar 6))) (mSetIt 1 (mP (pVar 2)) (mP (pVar 5))) (mSkip)
noncomputable def b_rest : M Fl := mSeq (mSetO 1 (mDict0)) (mSeq (mFor (mI (mP (p2 ixO (pVar 0) (pC (.int 1))))) (aTup (aCons (aN 2) (aCons (aN 3) (aCons (aN 4) (aCons (aN 5) (aCons (aN 6) (aNil))))))) b1_rest) (mRet (mCall F_draws [.v (mP (pVar 0)), .v (mFz (mLst (mNil))), .v (mFz (mFrz 1))])))
abbrev E_rest (v_board v_pulls v_name v_at v_course v_last v_on : Option O := none) : FB.Env := [v_board, v_pulls, v_name, v_at, v_course, v_last, v_on]
noncomputable def F_rest : FSem := runF 1 7 [] b_rest
theorem sc_rest : FnScope ["board", "pulls", "name", "at", "course", "last", "on"] ["board"] (C8.fnScope s_rest) := C8.fnScope_by (by decide +kernel)
noncomputable def b_least_of : M Fl := mRet (mP (p2 ixO (p2 ixO (pVar 0) (pC (.int 0))) (pC (.int 0))))
abbrev E_least_of (v_curve : Option O := none) : FB.Env := [v_curve]
noncomputable def F_least_of : FSem := runF 1 1 [] b_least_of
theorem sc_least_of : FnScope ["curve"] ["curve"] (C8.fnScope s_least_of) := C8.fnScope_by (by decide +kernel)
noncomputable def q1_awake : M O := mComp (mI (mP (p2 ixO (pVar 0) (pC (.int 0))))) (own2 [("name", 2), ("under", 3), ("curve", 4), ("delay", 5), ("wait", 6)]) (aTup (aCons (aN 2) (aCons (aN 3) (aCons (aN 4) (aCons (aN 5) (aCons (aN 6) (aNil))))))) (mB (m2 (lift2 geD) (mP (p2 ixF (pVar 1) (pVar 2))) (mCall F_least_of [.v (mP (pVar 4))]))) (mP (pVar 2))
noncomputable def b_awake : M Fl := mRet (q1_awake)
abbrev E_awake (v_board v_found v_name v_under v_curve v_delay v_wait : Option O := none) : FB.Env := [v_board, v_found, v_name, v_under, v_curve, v_delay, v_wait]
noncomputable def F_awake : FSem := runF 2 7 [] b_awake
theorem sc_awake : FnScope ["board", "found", "name", "under", "curve", "delay", "wait"] ["board", "found"] (C8.fnScope s_awake) := C8.fnScope_by (by decide +kernel)
noncomputable def b1_loud : M Fl := mRet (mP (pVar 1))
noncomputable def b_loud : M Fl := mSeq (mFor (mI (mCall F_awake [.v (mP (pVar 0)), .v (mFz (mCall F_rest [.v (mP (pVar 0))]))])) (aN 1) b1_loud) (mRet (mP (pC .non)))
abbrev E_loud (v_board v_guard : Option O := none) : FB.Env := [v_board, v_guard]
noncomputable def F_loud : FSem := runF 1 2 [] b_loud
theorem sc_loud : FnScope ["board", "guard"] ["board"] (C8.fnScope s_loud) := C8.fnScope_by (by decide +kernel)
noncomputable def b_ask_quiet : M Fl := mSeq (mSetP 1 (mCall F_loud [.v (mP (pVar 0))])) (mIf (mB (mP (p2 (notNO) (pVar 1) (pC .non)))) (mNever) (mSkip))
abbrev E_ask_quiet (v_board v_guard : Option O := none) : FB.Env := [v_board, v_guard]
noncomputable def F_ask_quiet : FSem := runF 1 2 [] b_ask_quiet
theorem sc_ask_quiet : FnScope ["board", "guard"] ["board"] (C8.fnScope s_ask_quiet) := C8.fnScope_by (by decide +kernel)
noncomputable def q1_is_off : M O := mComp (mI (mP (p2 ixO (pVar 0) (pC (.int 1))))) (own2 [("load", 2)]) (aN 2) (mTrue) (mAndV (mP (p2 (eqO) (p2 ixO (pVar 2) (pC (.int 0))) (pVar 1))) (mNotV (mP (p2 ixO (pVar 2) (pC (.int 4))))))
noncomputable def b_is_off : M Fl := mRet (m1 anyO (q1_is_off))
abbrev E_is_off (v_board v_place v_load : Option O := none) : FB.Env := [v_board, v_place, v_load]
noncomputable def F_is_off : FSem := runF 2 3 [] b_is_off
theorem sc_is_off : FnScope ["board", "place", "load"] ["board", "place"] (C8.fnScope s_is_off) := C8.fnScope_by (by decide +kernel)
noncomputable def q1_Way___init__ : M O := mComp (mI (mP (p2 ixO (pVar 1) (pC (.int 0))))) (own2 [("guard", 7)]) (aN 7) (mTrue) (mP (pTup (pCons (p2 ixO (pVar 7) (pC (.int 0))) (pCons (pVar 7) (pNil)))))
noncomputable def q2_Way___init__ : M O := mComp (mI (mP (pVar 3))) (own2 [("name", 6)]) (aN 6) (mTrue) (mP (p2 ixF (pVar 4) (pVar 6)))
noncomputable def q3_Way___init__ : M O := mComp (mI (mP (pVar 3))) (own2 [("name", 6)]) (aN 6) (mTrue) (mP (p2 ixF (pVar 5) (pVar 6)))
noncomputable def b_Way___init__ : M Fl := mSeq (mSetP 3 (mCall F_over [.v (mP (pVar 1)), .v (mP (pVar 2))])) (mSeq (mEx (mCall F_ask_quiet [.v (mP (pVar 1))])) (mSeq (mSetP 4 (mDictP (q1_Way___init__))) (mSeq (mSetP 5 (mCall F_rest [.v (mP (pVar 1))])) (mSeq (mSetF 0 "Way" "idle" (mCall F_is_off [.v (mP (pVar 1)), .v (mP (pVar 2))])) (mSeq (mSetF 0 "Way" "guards" (q2_Way___init__)) (mSetF 0 "Way" "found" (q3_Way___init__)))))))
abbrev E_Way___init__ (v_self v_board v_place v_names v_known v_found v_name v_guard : Option O := none) : FB.Env := [v_self, v_board, v_place, v_names, v_known, v_found, v_name, v_guard]
noncomputable def F_Way___init__ : FSem := runF 3 8 [0] b_Way___init__
theorem sc_Way___init__ : FnScope ["self", "board", "place", "names", "known", "found", "name", "guard"] ["self", "board", "place"] (C8.fnScope s_Way___init__) := C8.fnScope_by (by decide +kernel)
noncomputable def b_stuck_list : M Fl := mSeq (mIf (mB (mP (p2 (isNO) (pVar 0) (pC .non)))) (mRet (mLst (mNil))) (mSkip)) (mRet (mW listW (pVar 0)))
abbrev E_stuck_list (v_stuck : Option O := none) : FB.Env := [v_stuck]
noncomputable def F_stuck_list : FSem := runF 1 1 [] b_stuck_list
theorem sc_stuck_list : FnScope ["stuck"] ["stuck"] (C8.fnScope s_stuck_list) := C8.fnScope_by (by decide +kernel)
noncomputable def b1_Way_lows : M Fl := mIf (mB (mP (p2 (lift2 leD) (p2 (lift2 subD) (p2 ixO (pVar 5) (pC (.int 0))) (pVar 4)) (pVar 1)))) (mSetIt 2 (mP (p2 (lift2 subD) (p2 ixO (pVar 5) (pC (.int 0))) (pVar 4))) (mP (pC (.bl true)))) (mSkip)
noncomputable def b2_Way_lows : M Fl := mFor (mI (mP (p2 ixO (pVar 3) (pC (.int 2))))) (aN 5) b1_Way_lows
noncomputable def b_Way_lows : M Fl := mSeq (mSetO 2 (mDisp1 (pC (.int 1)) (pC (.bl true)))) (mSeq (mFor (mZipM (mP (p1 (fldV "Way" "guards") (pVar 0))) (mP (p1 (fldV "Way" "found") (pVar 0)))) (aTup (aCons (aN 3) (aCons (aN 4) (aNil)))) b2_Way_lows) (mRet (mP (p1 sortedO (p1 listKO (pVar 2))))))
abbrev E_Way_lows (v_self v_most v_lows v_guard v_draw v_step : Option O := none) : FB.Env := [v_self, v_most, v_lows, v_guard, v_draw, v_step]
noncomputable def F_Way_lows : FSem := runF 2 6 [] b_Way_lows
theorem sc_Way_lows : FnScope ["self", "most", "lows", "guard", "draw", "step"] ["self", "most"] (C8.fnScope s_Way_lows) := C8.fnScope_by (by decide +kernel)
noncomputable def q1_met : M O := mComp (mI (mP (pVar 0))) (own2 [("step", 2)]) (aN 2) (mB (mP (p2 (lift2 leD) (p2 ixO (pVar 2) (pC (.int 0))) (pVar 1)))) (mP (pVar 2))
noncomputable def b_met : M Fl := mRet (m1 lenO (q1_met))
abbrev E_met (v_curve v_draw v_step : Option O := none) : FB.Env := [v_curve, v_draw, v_step]
noncomputable def F_met : FSem := runF 2 3 [] b_met
theorem sc_met : FnScope ["curve", "draw", "step"] ["curve", "draw"] (C8.fnScope s_met) := C8.fnScope_by (by decide +kernel)
noncomputable def b_turns_at : M Fl := mSeq (mSetP 2 (mCall F_met [.v (mP (pVar 0)), .v (mP (pVar 1))])) (mSeq (mIf (mB (mP (p2 (eqO) (pVar 2) (pC (.int 0))))) (mRet (mP (pC .non))) (mSkip)) (mRet (mP (p2 ixO (p2 ixO (pVar 0) (p2 (lift2 subD) (pVar 2) (pC (.int 1)))) (pC (.int 1))))))
abbrev E_turns_at (v_curve v_draw v_many : Option O := none) : FB.Env := [v_curve, v_draw, v_many]
noncomputable def F_turns_at : FSem := runF 2 3 [] b_turns_at
theorem sc_turns_at : FnScope ["curve", "draw", "many"] ["curve", "draw"] (C8.fnScope s_turns_at) := C8.fnScope_by (by decide +kernel)
noncomputable def b_Way_turns : M Fl := mRet (mCall F_turns_at [.v (mP (p2 ixO (p2 ixO (p1 (fldV "Way" "guards") (pVar 0)) (pVar 1)) (pC (.int 2)))), .v (mP (p2 (lift2 addD) (p2 ixO (p1 (fldV "Way" "found") (pVar 0)) (pVar 1)) (pVar 2)))])
abbrev E_Way_turns (v_self v_at v_greatness : Option O := none) : FB.Env := [v_self, v_at, v_greatness]
noncomputable def F_Way_turns : FSem := runF 3 3 [] b_Way_turns
theorem sc_Way_turns : FnScope ["self", "at", "greatness"] ["self", "at", "greatness"] (C8.fnScope s_Way_turns) := C8.fnScope_by (by decide +kernel)
noncomputable def b_Way_is_held : M Fl := mRet (mAndV (mP (p2 (lift2 gtD) (pVar 1) (pC (.int 0)))) (m2 (notNO) (mMethV "Way" "turns" F_Way_turns (mP (pVar 0)) [.v (mP (p2 (lift2 subD) (pVar 1) (pC (.int 1)))), .v (mP (pVar 2))]) (mP (pC .non))))
abbrev E_Way_is_held (v_self v_at v_greatness : Option O := none) : FB.Env := [v_self, v_at, v_greatness]
noncomputable def F_Way_is_held : FSem := runF 3 3 [] b_Way_is_held
theorem sc_Way_is_held : FnScope ["self", "at", "greatness"] ["self", "at", "greatness"] (C8.fnScope s_Way_is_held) := C8.fnScope_by (by decide +kernel)
noncomputable def b1_Way_opening : M Fl := mSeq (mSetP 7 (mMethV "Way" "turns" F_Way_turns (mP (pVar 0)) [.v (mP (pVar 5)), .v (mP (pVar 1))])) (mSeq (mIf (mOr (mB (mP (p2 (isNO) (pVar 7) (pC .non)))) (mOr (mB (mP (p2 (inO) (p2 ixO (pVar 6) (pC (.int 0))) (pVar 2)))) (mOr (mB (mP (p2 (eqO) (pVar 1) (pC (.int 0))))) (mB (mP (p1 (fldV "Way" "idle") (pVar 0))))))) (mCont) (mSkip)) (mSeq (mSetP 8 (mP (p2 (lift2 subD) (p2 (lift2 addD) (pVar 7) (p2 ixO (pVar 6) (pC (.int 3)))) (pC (.int 1))))) (mSeq (mIf (mB (mMethV "Way" "is_held" F_Way_is_held (mP (pVar 0)) [.v (mP (pVar 5)), .v (mP (pVar 1))])) (mSetP 8 (mP (p2 (lift2 addD) (pVar 8) (p2 ixO (pVar 6) (pC (.int 4)))))) (mSkip)) (mSeq (mIf (mOr (mB (mP (p2 (isNO) (pVar 3) (pC .non)))) (mB (mP (p2 (lift2 ltD) (pVar 8) (pVar 3))))) (mSeq (mSetP 3 (mP (pVar 8))) (mSetP 4 (mLst (mNil)))) (mSkip)) (mIf (mB (mP (p2 (eqO) (pVar 8) (pVar 3)))) (mSetP 4 (mP (p2 (lift2 addD) (pLst (pCons (p2 ixO (pVar 6) (pC (.int 0))) (pNil))) (pVar 4)))) (mSkip))))))
noncomputable def b_Way_opening : M Fl := mSeq (mSetP 3 (mP (pC .non))) (mSeq (mSetP 4 (mLst (mNil))) (mSeq (mFor (mEnum (mP (p1 (fldV "Way" "guards") (pVar 0)))) (aTup (aCons (aN 5) (aCons (aN 6) (aNil)))) b1_Way_opening) (mSeq (mIf (mB (mP (p2 (isNO) (pVar 3) (pC .non)))) (mRet (mP (pC .non))) (mSkip)) (mRet (mP (pTup (pCons (pVar 3) (pCons (p1 tupO (pVar 4)) (pNil)))))))))
abbrev E_Way_opening (v_self v_greatness v_stuck v_best v_names v_at v_guard v_turns v_turn : Option O := none) : FB.Env := [v_self, v_greatness, v_stuck, v_best, v_names, v_at, v_guard, v_turns, v_turn]
noncomputable def F_Way_opening : FSem := runF 3 9 [] b_Way_opening
theorem sc_Way_opening : FnScope ["self", "greatness", "stuck", "best", "names", "at", "guard", "turns", "turn"] ["self", "greatness", "stuck"] (C8.fnScope s_Way_opening) := C8.fnScope_by (by decide +kernel)
noncomputable def b1_map_of : M Fl := mSeq (mSetP 10 (mMethV "Way" "opening" F_Way_opening (mP (pVar 4)) [.v (mP (pVar 8)), .v (mP (pVar 5))])) (mIf (mAnd (mB (mP (p2 (neO) (pVar 6) (pLst (pNil))))) (mB (mP (p2 (eqO) (p2 ixO (p2 ixO (pVar 6) (p1 negO (pC (.int 1)))) (pC (.int 2))) (pVar 10))))) (mSetIt 6 (mP (p1 negO (pC (.int 1)))) (mP (pTup (pCons (p2 ixO (p2 ixO (pVar 6) (p1 negO (pC (.int 1)))) (pC (.int 0))) (pCons (p2 (lift2 subD) (pVar 9) (pC (.int 1))) (pCons (pVar 10) (pNil))))))) (mEx (mAppend 6 (mP (pTup (pCons (pVar 8) (pCons (p2 (lift2 subD) (pVar 9) (pC (.int 1))) (pCons (pVar 10) (pNil)))))))))
noncomputable def b_map_of : M Fl := mSeq (mSetP 4 (mMake "Way" F_Way___init__ [.v (mP (pVar 0)), .v (mP (pVar 1))])) (mSeq (mSetP 5 (mCall F_stuck_list [.v (mP (pVar 3))])) (mSeq (mSetO 6 (mLst (mNil))) (mSeq (mSetP 7 (mMethV "Way" "lows" F_Way_lows (mP (pVar 4)) [.v (mP (pVar 2))])) (mSeq (mFor (mZipM (mP (pVar 7)) (mP (p2 (lift2 addD) (pSl (pVar 7) (pInt (pC (.int 1))) pNone) (pLst (pCons (p2 (lift2 addD) (pVar 2) (pC (.int 1))) (pNil)))))) (aTup (aCons (aN 8) (aCons (aN 9) (aNil)))) b1_map_of) (mRet (mMove 6))))))
abbrev E_map_of (v_board v_place v_most v_stuck v_way v_some v_rows v_lows v_low v_behind v_opening : Option O := none) : FB.Env := [v_board, v_place, v_most, v_stuck, v_way, v_some, v_rows, v_lows, v_low, v_behind, v_opening]
noncomputable def F_map_of : FSem := runF 4 11 [] b_map_of
theorem sc_map_of : FnScope ["board", "place", "most", "stuck", "way", "some", "rows", "lows", "low", "behind", "opening"] ["board", "place", "most", "stuck"] (C8.fnScope s_map_of) := C8.fnScope_by (by decide +kernel)
noncomputable def b1_nearest : M Fl := mIf (mB (mP (p2 (ninO) (p2 ixO (pVar 2) (pC (.int 0))) (pVar 1)))) (mRet (mP (pTup (pCons (p2 ixO (pVar 2) (pC (.int 0))) (pNil))))) (mSkip)
noncomputable def b_nearest : M Fl := mSeq (mFor (mI (mP (p1 (fldV "Way" "guards") (pVar 0)))) (aN 2) b1_nearest) (mRet (mP (pTup (pNil))))
abbrev E_nearest (v_way v_some v_guard : Option O := none) : FB.Env := [v_way, v_some, v_guard]
noncomputable def F_nearest : FSem := runF 2 3 [] b_nearest
theorem sc_nearest : FnScope ["way", "some", "guard"] ["way", "some"] (C8.fnScope s_nearest) := C8.fnScope_by (by decide +kernel)
noncomputable def b1_unparted : M Fl := mIf (mAnd (mB (mP (p2 (notNO) (pVar 7) (pC .non)))) (mB (mP (p2 (neO) (p2 ixO (pVar 7) (pC (.int 1))) (pVar 4))))) (mRet (mP (pTup (pCons (pVar 5) (pCons (p2 ixO (pVar 7) (pC (.int 1))) (pNil)))))) (mSkip)
noncomputable def b_unparted : M Fl := mSeq (mSetP 4 (mCall F_nearest [.v (mFz (mMake "Way" F_Way___init__ [.v (mP (pVar 0)), .v (mP (pVar 1))])), .v (mFz (mCall F_stuck_list [.v (mP (pVar 3))]))])) (mSeq (mFor (mI (mCall F_map_of [.v (mP (pVar 0)), .v (mP (pVar 1)), .v (mP (pVar 2)), .v (mP (pVar 3))])) (aTup (aCons (aN 5) (aCons (aN 6) (aCons (aN 7) (aNil))))) b1_unparted) (mRet (mP (pC .non))))
abbrev E_unparted (v_board v_place v_most v_stuck v_due v_low v_high v_opening : Option O := none) : FB.Env := [v_board, v_place, v_most, v_stuck, v_due, v_low, v_high, v_opening]
noncomputable def F_unparted : FSem := runF 4 8 [] b_unparted
theorem sc_unparted : FnScope ["board", "place", "most", "stuck", "due", "low", "high", "opening"] ["board", "place", "most", "stuck"] (C8.fnScope s_unparted) := C8.fnScope_by (by decide +kernel)
noncomputable def b1_parted : M Fl := mSeq (mSetP 4 (mCall F_unparted [.v (mP (pVar 0)), .v (mP (pVar 3)), .v (mP (pVar 1)), .v (mP (pVar 2))])) (mIf (mB (mP (p2 (notNO) (pVar 4) (pC .non)))) (mRet (mP (pTup (pCons (pVar 3) (pCons (p2 ixO (pVar 4) (pC (.int 0))) (pCons (p2 ixO (pVar 4) (pC (.int 1))) (pNil))))))) (mSkip))
noncomputable def b_parted : M Fl := mSeq (mEx (mCall F_ask_quiet [.v (mP (pVar 0))])) (mSeq (mFor (mI (m2 (lift2 addD) (mCall F_guards_of [.v (mP (pVar 0))]) (mCall F_loads_of [.v (mP (pVar 0))]))) (aN 3) b1_parted) (mRet (mP (pC .non))))
abbrev E_parted (v_board v_most v_stuck v_place v_found : Option O := none) : FB.Env := [v_board, v_most, v_stuck, v_place, v_found]
noncomputable def F_parted : FSem := runF 3 5 [] b_parted
theorem sc_parted : FnScope ["board", "most", "stuck", "place", "found"] ["board", "most", "stuck"] (C8.fnScope s_parted) := C8.fnScope_by (by decide +kernel)
noncomputable def b__law_cell_at : M Fl := mSeq (mIf (mB (mP (p2 (lift2 ltD) (pVar 1) (p1 lenO (pVar 0))))) (mRet (mP (p2 ixO (pVar 0) (pVar 1)))) (mSkip)) (mRet (mP (pC (.int 0))))
abbrev E__law_cell_at (v_script v_k : Option O := none) : FB.Env := [v_script, v_k]
noncomputable def F__law_cell_at : FSem := runF 2 2 [] b__law_cell_at
theorem sc__law_cell_at : FnScope ["_law_script", "_law_k"] ["_law_script", "_law_k"] (C8.fnScope s__law_cell_at) := C8.fnScope_by (by decide +kernel)
noncomputable def b__law_feed : M Fl := mSeq (mSetP 2 (mCall F__law_cell_at [.v (mP (pVar 0)), .v (mP (pVar 1))])) (mRet (mLst (mCons (mP (pVar 2)) (mCons (mP (pVar 2)) (mCons (mP (p2 (lift2 mulD) (pC (.int 100)) (pVar 1))) (mNil))))))
abbrev E__law_feed (v_script v_k v_cell : Option O := none) : FB.Env := [v_script, v_k, v_cell]
noncomputable def F__law_feed : FSem := runF 2 3 [] b__law_feed
theorem sc__law_feed : FnScope ["_law_script", "_law_k", "_law_cell"] ["_law_script", "_law_k"] (C8.fnScope s__law_feed) := C8.fnScope_by (by decide +kernel)
noncomputable def b__law_take : M Fl := mSeq (mSetIt 0 (mP (pC (.int 2))) (mP (p2 (lift2 addD) (p2 ixO (pVar 0) (pC (.int 2))) (pC (.int 1))))) (mSeq (mIf (mAnd (mB (mP (p2 (lift2 geD) (p2 ixO (pVar 0) (pC (.int 0))) (p2 (lift2 powD) (pC (.int 10)) (pC (.int 18)))))) (mB (mP (p2 (lift2 gtD) (p2 ixO (pVar 0) (pC (.int 1))) (pC (.int 0)))))) (mSeq (mSetP 3 (mP (p2 (lift2 modD) (p2 ixO (pVar 0) (pC (.int 1))) (pVar 1)))) (mSeq (mSetIt 0 (mP (pC (.int 1))) (mP (p2 (lift2 fdivD) (p2 ixO (pVar 0) (pC (.int 1))) (pVar 1)))) (mRet (mP (pVar 3))))) (mSkip)) (mSeq (mSetP 2 (mP (p2 (lift2 addD) (p2 (lift2 mulD) (p2 (lift2 modD) (p2 ixO (pVar 0) (pC (.int 0))) (pC (.int 2147483629))) (pC (.int 48271))) (p2 (lift2 mulD) (pC (.int 7919)) (p2 ixO (pVar 0) (pC (.int 2))))))) (mSeq (mSetP 2 (mP (p2 (lift2 modD) (p2 (lift2 addD) (p2 (lift2 addD) (pVar 2) (p2 (lift2 mulD) (p2 (lift2 mulD) (p2 ixO (pVar 0) (pC (.int 2))) (p2 ixO (pVar 0) (pC (.int 2)))) (pC (.int 69621)))) (pC (.int 11))) (pC (.int 2147483647))))) (mRet (mP (p2 (lift2 modD) (p2 (lift2 fdivD) (p2 (lift2 modD) (p2 (lift2 mulD) (pVar 2) (p2 (lift2 addD) (p2 (lift2 modD) (pVar 2) (pC (.int 65521))) (pC (.int 3)))) (pC (.int 2147483629))) (pC (.int 5))) (pVar 1)))))))
abbrev E__law_take (v_feed_here v_many v_number v_digit : Option O := none) : FB.Env := [v_feed_here, v_many, v_number, v_digit]
noncomputable def F__law_take : FSem := runF 2 4 [0] b__law_take
theorem sc__law_take : FnScope ["_law_feed_here", "_law_many", "_law_number", "_law_digit"] ["_law_feed_here", "_law_many"] (C8.fnScope s__law_take) := C8.fnScope_by (by decide +kernel)
noncomputable def q1__law_names : M O := mComp (mR1 (mP (pVar 1))) (own2 [("_law_k", 11)]) (aN 11) (mTrue) (mP (p2 (lift2 mulD) (p2 ixO (pVar 2) (p2 (lift2 modD) (p2 (lift2 addD) (pVar 3) (pVar 11)) (pC (.int 26)))) (p2 (lift2 addD) (pC (.int 1)) (p2 (lift2 fdivD) (pVar 11) (pC (.int 26))))))
noncomputable def q2__law_names : M O := mComp (mR1 (mP (pVar 6))) (own2 [("_law_k", 11)]) (aN 11) (mTrue) (mCall F__law_take [.io 0, .v (mP (pC (.int 26)))])
noncomputable def q3__law_names : M O := mCompG (lstN 12) (wiN 12) (reN 12) (own2 [("_law_one", 13)]) (aN 13) (mTrue) (mP (p2 ixO (pVar 2) (pVar 13)))
noncomputable def b1__law_names : M Fl := mSeq (mSetO 12 (mW listW (pVar 7))) (mSeq (mSetIt 12 (mP (pVar 8)) (mP (p2 (lift2 modD) (p2 (lift2 addD) (p2 ixO (pVar 7) (pVar 8)) (pVar 11)) (pC (.int 26))))) (mSeq (mSetIt 12 (mP (pVar 9)) (mP (p2 (lift2 modD) (p2 (lift2 addD) (p2 ixO (pVar 7) (pVar 9)) (p2 (lift2 fdivD) (pVar 11) (pC (.int 26)))) (pC (.int 26))))) (mEx (mAppend 5 (m2 (lift2 addD) (mJoin "" (q3__law_names)) (mP (p2 (lift2 mulD) (p2 ixO (pVar 2) (pVar 3)) (p2 (lift2 mulD) (pVar 10) (p2 (lift2 modD) (pVar 11) (pC (.int 2)))))))))))
noncomputable def b__law_names : M Fl := mSeq (mSetP 2 (mP (pC (.str "abcdefghijklmnopqrstuvwxyz")))) (mSeq (mSetP 3 (mCall F__law_take [.io 0, .v (mP (pC (.int 26)))])) (mSeq (mIf (mB (m2 (eqO) (mCall F__law_take [.io 0, .v (mP (pC (.int 5)))]) (mP (pC (.int 0))))) (mSetO 5 (q1__law_names)) (mSeq (mSetP 6 (m2 (lift2 addD) (mP (pC (.int 2))) (mCall F__law_take [.io 0, .v (mP (pC (.int 7)))]))) (mSeq (mSetP 7 (q2__law_names)) (mSeq (mSetP 8 (mCall F__law_take [.io 0, .v (mP (pVar 6))])) (mSeq (mSetP 9 (m2 (lift2 modD) (m2 (lift2 addD) (mP (p2 (lift2 addD) (pVar 8) (pC (.int 1)))) (mCall F__law_take [.io 0, .v (mP (p2 (lift2 subD) (pVar 6) (pC (.int 1))))])) (mP (pVar 6)))) (mSeq (mSetP 10 (m2 (lift2 mulD) (mCall F__law_take [.io 0, .v (mP (pC (.int 2)))]) (mP (p1 intO (p2 (lift2 ltD) (pVar 6) (pC (.int 8))))))) (mSeq (mSetO 5 (mLst (mNil))) (mFor (mR1 (mP (pVar 1))) (aN 11) b1__law_names)))))))) (mSeq (mSetP 4 (m2 ixO (mLst (mCons (mP (pC (.str "guard"))) (mCons (mP (pC (.str "load"))) (mCons (mP (pC (.str "on"))) (mCons (mP (pC (.str "off"))) (mCons (mP (pC (.str "board"))) (mCons (mP (pC (.str "map"))) (mCons (mP (pC (.str "least"))) (mCons (mP (pC (.str ""))) (mCons (mP (pC (.str ""))) (mCons (mP (pC (.str ""))) (mCons (mP (pC (.str ""))) (mNil))))))))))))) (mCall F__law_take [.io 0, .v (mP (pC (.int 11)))]))) (mSeq (mIf (mAnd (mB (mP (p2 (neO) (pVar 4) (pC (.str ""))))) (mB (mP (p2 (ninO) (pVar 4) (pVar 5))))) (mSetIt 5 (mCall F__law_take [.io 0, .v (mP (pVar 1))]) (mP (pVar 4))) (mSkip)) (mRet (mMove 5))))))
abbrev E__law_names (v_feed_here v_many v_letters v_first v_word v_names_here v_size v_base v_at v_other v_longer v_k v_some v_one : Option O := none) : FB.Env := [v_feed_here, v_many, v_letters, v_first, v_word, v_names_here, v_size, v_base, v_at, v_other, v_longer, v_k, v_some, v_one]
noncomputable def F__law_names : FSem := runF 2 14 [0] b__law_names
theorem sc__law_names : FnScope ["_law_feed_here", "_law_many", "_law_letters", "_law_first", "_law_word", "_law_names_here", "_law_size", "_law_base", "_law_at", "_law_other", "_law_longer", "_law_k", "_law_some", "_law_one"] ["_law_feed_here", "_law_many"] (C8.fnScope s__law_names) := C8.fnScope_by (by decide +kernel)
noncomputable def q1__law_lifted : M O := mComp (mI (mP (p2 ixO (pVar 0) (pC (.int 2))))) (own2 [("_law_step", 2)]) (aN 2) (mTrue) (mP (pTup (pCons (p2 (lift2 addD) (p2 ixO (pVar 2) (pC (.int 0))) (pVar 1)) (pCons (p2 ixO (pVar 2) (pC (.int 1))) (pNil)))))
noncomputable def b__law_lifted : M Fl := mRet (m2 (lift2 addD) (m2 (lift2 addD) (mP (pSl (pVar 0) pNone (pInt (pC (.int 2))))) (mTup (mCons (m1 tupO (q1__law_lifted)) (mNil)))) (mP (pSl (pVar 0) (pInt (pC (.int 3))) pNone)))
abbrev E__law_lifted (v_guard v_more_here v_step : Option O := none) : FB.Env := [v_guard, v_more_here, v_step]
noncomputable def F__law_lifted : FSem := runF 2 3 [] b__law_lifted
theorem sc__law_lifted : FnScope ["_law_guard", "_law_more_here", "_law_step"] ["_law_guard", "_law_more_here"] (C8.fnScope s__law_lifted) := C8.fnScope_by (by decide +kernel)
noncomputable def b1__law_overs : M Fl := mSetIt 1 (mP (p2 ixO (pVar 2) (pC (.int 0)))) (mP (p2 (lift2 addD) (pLst (pCons (p2 ixO (pVar 2) (pC (.int 0))) (pNil))) (p3 getO (pVar 1) (p2 ixO (pVar 2) (pC (.int 1))) (pLst (pNil)))))
noncomputable def b2__law_overs : M Fl := mSetIt 1 (mP (p2 ixO (pVar 3) (pC (.int 0)))) (mP (p2 ixF (pVar 1) (p2 ixO (pVar 3) (pC (.int 1)))))
noncomputable def b__law_overs : M Fl := mSeq (mSetO 1 (mDict0)) (mSeq (mFor (mI (mP (p2 ixO (pVar 0) (pC (.int 0))))) (aN 2) b1__law_overs) (mSeq (mFor (mI (mP (p2 ixO (pVar 0) (pC (.int 1))))) (aN 3) b2__law_overs) (mRet (mMove 1))))
abbrev E__law_overs (v_board v_overs_here v_guard v_load : Option O := none) : FB.Env := [v_board, v_overs_here, v_guard, v_load]
noncomputable def F__law_overs : FSem := runF 1 4 [] b__law_overs
theorem sc__law_overs : FnScope ["_law_board", "_law_overs_here", "_law_guard", "_law_load"] ["_law_board"] (C8.fnScope s__law_overs) := C8.fnScope_by (by decide +kernel)
noncomputable def q1__law_rest : M O := mComp (mI (mP (p2 ixO (pVar 0) (pC (.int 0))))) (own2 [("_law_guard", 5)]) (aN 5) (mTrue) (mP (pTup (pCons (p2 ixO (pVar 5) (pC (.int 0))) (pCons (pC (.int 0)) (pNil)))))
noncomputable def b1__law_rest : M Fl := mSetIt 2 (mP (pVar 4)) (mP (p2 (lift2 addD) (p2 ixF (pVar 2) (pVar 4)) (p2 (lift2 mulD) (p2 ixO (pVar 3) (pC (.int 3))) (p1 intO (p2 ixO (pVar 3) (pC (.int 4)))))))
noncomputable def b2__law_rest : M Fl := mFor (mI (mP (p2 ixF (pVar 1) (p2 ixO (pVar 3) (pC (.int 0)))))) (aN 4) b1__law_rest
noncomputable def b__law_rest : M Fl := mSeq (mSetP 1 (mCall F__law_overs [.v (mP (pVar 0))])) (mSeq (mSetO 2 (mDictPO (q1__law_rest))) (mSeq (mFor (mI (mP (p2 ixO (pVar 0) (pC (.int 1))))) (aN 3) b2__law_rest) (mRet (mMove 2))))
abbrev E__law_rest (v_board v_overs_here v_found_here v_load v_name v_guard : Option O := none) : FB.Env := [v_board, v_overs_here, v_found_here, v_load, v_name, v_guard]
noncomputable def F__law_rest : FSem := runF 1 6 [] b__law_rest
theorem sc__law_rest : FnScope ["_law_board", "_law_overs_here", "_law_found_here", "_law_load", "_law_name", "_law_guard"] ["_law_board"] (C8.fnScope s__law_rest) := C8.fnScope_by (by decide +kernel)
noncomputable def b1__law_small_curve : M Fl := mSeq (mEx (mAppend 4 (m2 (lift2 addD) (mP (p2 (lift2 addD) (p2 ixO (pVar 4) (p1 negO (pC (.int 1)))) (pC (.int 1)))) (mCall F__law_take [.io 0, .v (mP (pC (.int 9)))])))) (mEx (mAppend 5 (m2 (lift2 addD) (mP (p2 (lift2 addD) (p2 ixO (pVar 5) (p1 negO (pC (.int 1)))) (pC (.int 1)))) (mCall F__law_take [.io 0, .v (mP (pC (.int 3)))]))))
noncomputable def q1__law_small_curve : M O := mComp (mR1 (mP (pVar 3))) (own2 [("_law_k", 6)]) (aN 6) (mTrue) (mP (pTup (pCons (p2 (lift2 mulD) (p2 ixO (pVar 4) (pVar 6)) (pVar 1)) (pCons (p2 (lift2 mulD) (p2 ixO (pVar 5) (p2 (lift2 subD) (p2 (lift2 subD) (pVar 3) (pC (.int 1))) (pVar 6))) (pVar 2)) (pNil)))))
noncomputable def b__law_small_curve : M Fl := mSeq (mSetP 3 (m2 (lift2 addD) (mP (pC (.int 1))) (mCall F__law_take [.io 0, .v (mP (pC (.int 5)))]))) (mSeq (mSetO 4 (mLst (mCons (m2 (lift2 addD) (mP (pC (.int 1))) (mCall F__law_take [.io 0, .v (mP (pC (.int 10)))])) (mNil)))) (mSeq (mSetO 5 (mLst (mCons (m2 (lift2 addD) (mP (pC (.int 1))) (mCall F__law_take [.io 0, .v (mP (pC (.int 3)))])) (mNil)))) (mSeq (mFor (mR1 (mP (p2 (lift2 subD) (pVar 3) (pC (.int 1))))) (aN 6) b1__law_small_curve) (mRet (m1 tupO (q1__law_small_curve))))))
abbrev E__law_small_curve (v_feed_here v_unit v_time v_many v_some v_times v_k : Option O := none) : FB.Env := [v_feed_here, v_unit, v_time, v_many, v_some, v_times, v_k]
noncomputable def F__law_small_curve : FSem := runF 3 7 [0] b__law_small_curve
theorem sc__law_small_curve : FnScope ["_law_feed_here", "_law_unit", "_law_time", "_law_many", "_law_some", "_law_times", "_law_k"] ["_law_feed_here", "_law_unit", "_law_time"] (C8.fnScope s__law_small_curve) := C8.fnScope_by (by decide +kernel)
noncomputable def b1__law_small_guards : M Fl := mSeq (mSetO 6 (mCall F__law_feed [.v (mP (pVar 0)), .v (mP (p2 (lift2 addD) (pC (.int 2)) (pVar 5)))])) (mSeq (mSetP 7 (m2 ixO (mLst (mCons (mCall F__law_take [.io 6, .v (mP (p2 (lift2 addD) (pVar 5) (pC (.int 1))))]) (mCons (mP (pVar 5)) (mNil)))) (m1 intO (m2 (lift2 gtD) (mCall F__law_take [.io 6, .v (mP (pC (.int 3)))]) (mP (pC (.int 0))))))) (mSeq (mSetP 8 (mCall F__law_small_curve [.io 6, .v (mP (pVar 2)), .v (mP (pVar 3))])) (mSeq (mSetP 9 (m2 (lift2 mulD) (mCall F__law_take [.io 6, .v (mP (pC (.int 4)))]) (mP (pVar 3)))) (mEx (mAppend 4 (mTup (mCons (mP (p2 ixO (pVar 1) (pVar 5))) (mCons (mP (p2 ixO (p2 (lift2 addD) (pLst (pCons (pC .non) (pNil))) (pVar 1)) (pVar 7))) (mCons (mP (pVar 8)) (mCons (mP (pVar 9)) (mCons (m2 (lift2 mulD) (mCall F__law_take [.io 6, .v (mP (pC (.int 3)))]) (mP (pVar 3))) (mNil))))))))))))
noncomputable def b__law_small_guards : M Fl := mSeq (mSetO 4 (mLst (mNil))) (mSeq (mFor (mR1 (mP (p1 lenO (pVar 1)))) (aN 5) b1__law_small_guards) (mRet (mMove 4)))
abbrev E__law_small_guards (v_script v_names_here v_unit v_time v_guards v_k v_feed_here v_at v_curve v_delay : Option O := none) : FB.Env := [v_script, v_names_here, v_unit, v_time, v_guards, v_k, v_feed_here, v_at, v_curve, v_delay]
noncomputable def F__law_small_guards : FSem := runF 4 10 [] b__law_small_guards
theorem sc__law_small_guards : FnScope ["_law_script", "_law_names_here", "_law_unit", "_law_time", "_law_guards", "_law_k", "_law_feed_here", "_law_at", "_law_curve", "_law_delay"] ["_law_script", "_law_names_here", "_law_unit", "_law_time"] (C8.fnScope s__law_small_guards) := C8.fnScope_by (by decide +kernel)
noncomputable def b1__law_small_loads : M Fl := mEx (mAppend 9 (mTup (mCons (m2 (lift2 mulD) (m2 (lift2 addD) (mP (pC (.int 1))) (mCall F__law_take [.io 7, .v (mP (pC (.int 3)))])) (mP (pVar 4))) (mCons (m2 (lift2 mulD) (mCall F__law_take [.io 7, .v (mP (pC (.int 12)))]) (mP (pVar 3))) (mNil)))))
noncomputable def b2__law_small_loads : M Fl := mSeq (mSetO 7 (mCall F__law_feed [.v (mP (pVar 0)), .v (mP (p2 (lift2 addD) (pC (.int 10)) (pVar 6)))])) (mSeq (mSetP 8 (m2 ixO (m2 ixO (mP (pVar 2)) (mCall F__law_take [.io 7, .v (mP (p1 lenO (pVar 2)))])) (mP (pC (.int 0))))) (mSeq (mSetO 9 (mLst (mNil))) (mSeq (mFor (mR1 (mCall F__law_take [.io 7, .v (mP (pC (.int 5)))])) (aN 10) b1__law_small_loads) (mEx (mAppend 5 (mTup (mCons (mP (p2 ixO (pVar 1) (pVar 6))) (mCons (mP (pVar 8)) (mCons (mP (p1 tupO (pVar 9))) (mCons (m2 (lift2 mulD) (mCall F__law_take [.io 7, .v (mP (pC (.int 4)))]) (mP (pVar 3))) (mCons (m2 (lift2 gtD) (mCall F__law_take [.io 7, .v (mP (pC (.int 4)))]) (mP (pC (.int 0)))) (mNil))))))))))))
noncomputable def b__law_small_loads : M Fl := mSeq (mSetO 5 (mLst (mNil))) (mSeq (mFor (mR1 (mP (p1 lenO (pVar 1)))) (aN 6) b2__law_small_loads) (mRet (mMove 5)))
abbrev E__law_small_loads (v_script v_names_here v_guards v_unit v_time v_loads v_k v_feed_here v_at v_course v_j : Option O := none) : FB.Env := [v_script, v_names_here, v_guards, v_unit, v_time, v_loads, v_k, v_feed_here, v_at, v_course, v_j]
noncomputable def F__law_small_loads : FSem := runF 5 11 [] b__law_small_loads
theorem sc__law_small_loads : FnScope ["_law_script", "_law_names_here", "_law_guards", "_law_unit", "_law_time", "_law_loads", "_law_k", "_law_feed_here", "_law_at", "_law_course", "_law_j"] ["_law_script", "_law_names_here", "_law_guards", "_law_unit", "_law_time"] (C8.fnScope s__law_small_loads) := C8.fnScope_by (by decide +kernel)
noncomputable def q1__law_small_board : M O := mComp (mI (mP (pVar 6))) (own2 [("_law_guard", 9)]) (aN 9) (mTrue) (mCall F__law_lifted [.v (mP (pVar 9)), .v (mP (p2 ixF (pVar 8) (p2 ixO (pVar 9) (pC (.int 0)))))])
noncomputable def b__law_small_board : M Fl := mSeq (mSetO 3 (mCall F__law_feed [.v (mP (pVar 0)), .v (mP (pC (.int 0)))])) (mSeq (mSetP 4 (m2 (lift2 addD) (mP (pC (.int 1))) (mCall F__law_take [.io 3, .v (mP (pC (.int 8)))]))) (mSeq (mSetP 5 (mCall F__law_names [.v (mCall F__law_feed [.v (mP (pVar 0)), .v (mP (pC (.int 1)))]), .v (mFz (m2 (lift2 addD) (mP (pVar 4)) (mCall F__law_take [.io 3, .v (mP (pC (.int 9)))])))])) (mSeq (mSetP 6 (mCall F__law_small_guards [.v (mP (pVar 0)), .v (mP (pSl (pVar 5) pNone (pInt (pVar 4)))), .v (mP (pVar 1)), .v (mP (pVar 2))])) (mSeq (mSetP 7 (mCall F__law_small_loads [.v (mP (pVar 0)), .v (mP (pSl (pVar 5) (pInt (pVar 4)) pNone)), .v (mP (pVar 6)), .v (mP (pVar 1)), .v (mP (pVar 2))])) (mSeq (mSetP 8 (mCall F__law_rest [.v (mP (pTup (pCons (pVar 6) (pCons (pVar 7) (pNil)))))])) (mSeq (mIf (mB (m2 (lift2 gtD) (mCall F__law_take [.io 3, .v (mP (pC (.int 8)))]) (mP (pC (.int 0))))) (mSetP 6 (q1__law_small_board)) (mSkip)) (mRet (mP (pTup (pCons (p1 tupO (pVar 6)) (pCons (p1 tupO (pVar 7)) (pNil))))))))))))
abbrev E__law_small_board (v_script v_unit v_time v_feed_here v_many v_names_here v_guards v_loads v_found_here v_guard : Option O := none) : FB.Env := [v_script, v_unit, v_time, v_feed_here, v_many, v_names_here, v_guards, v_loads, v_found_here, v_guard]
noncomputable def F__law_small_board : FSem := runF 3 10 [] b__law_small_board
theorem sc__law_small_board : FnScope ["_law_script", "_law_unit", "_law_time", "_law_feed_here", "_law_many", "_law_names_here", "_law_guards", "_law_loads", "_law_found_here", "_law_guard"] ["_law_script", "_law_unit", "_law_time"] (C8.fnScope s__law_small_board) := C8.fnScope_by (by decide +kernel)
noncomputable def b1__law_loud : M Fl := mIf (mB (mP (p2 (lift2 geD) (p2 ixF (pVar 1) (p2 ixO (pVar 2) (pC (.int 0)))) (p2 ixO (p2 ixO (p2 ixO (pVar 2) (pC (.int 2))) (pC (.int 0))) (pC (.int 0)))))) (mRet (mP (p2 ixO (pVar 2) (pC (.int 0))))) (mSkip)
noncomputable def b__law_loud : M Fl := mSeq (mSetP 1 (mCall F__law_rest [.v (mP (pVar 0))])) (mSeq (mFor (mI (mP (p2 ixO (pVar 0) (pC (.int 0))))) (aN 2) b1__law_loud) (mRet (mP (pC .non))))
abbrev E__law_loud (v_board v_found_here v_guard : Option O := none) : FB.Env := [v_board, v_found_here, v_guard]
noncomputable def F__law_loud : FSem := runF 1 3 [] b__law_loud
theorem sc__law_loud : FnScope ["_law_board", "_law_found_here", "_law_guard"] ["_law_board"] (C8.fnScope s__law_loud) := C8.fnScope_by (by decide +kernel)
noncomputable def q1__law_places : M O := mComp (mI (mP (p2 ixO (pVar 0) (pC (.int 0))))) (own2 [("_law_guard", 1)]) (aN 1) (mTrue) (mP (p2 ixO (pVar 1) (pC (.int 0))))
noncomputable def q2__law_places : M O := mComp (mI (mP (p2 ixO (pVar 0) (pC (.int 1))))) (own2 [("_law_load", 2)]) (aN 2) (mTrue) (mP (p2 ixO (pVar 2) (pC (.int 0))))
noncomputable def b__law_places : M Fl := mRet (m2 (lift2 addD) (q1__law_places) (q2__law_places))
abbrev E__law_places (v_board v_guard v_load : Option O := none) : FB.Env := [v_board, v_guard, v_load]
noncomputable def F__law_places : FSem := runF 1 3 [] b__law_places
theorem sc__law_places : FnScope ["_law_board", "_law_guard", "_law_load"] ["_law_board"] (C8.fnScope s__law_places) := C8.fnScope_by (by decide +kernel)
noncomputable def b1__law_spread : M Fl := mEx (mAppend 3 (mP (pTup (pCons (pVar 4) (pCons (pVar 5) (pCons (pVar 6) (pCons (p2 (lift2 addD) (pVar 7) (p2 (lift2 mulD) (pC (.int 4)) (p2 (lift2 subD) (pC (.int 8)) (p1 lenO (p2 ixF (pVar 2) (pVar 4)))))) (pCons (pVar 8) (pNil)))))))))
noncomputable def b__law_spread : M Fl := mSeq (mIf (mB (m2 (eqO) (mCall F__law_take [.io 1, .v (mP (pC (.int 2)))]) (mP (pC (.int 0))))) (mRet (mP (pVar 0))) (mSkip)) (mSeq (mSetP 2 (mCall F__law_overs [.v (mP (pVar 0))])) (mSeq (mSetO 3 (mLst (mNil))) (mSeq (mFor (mI (mP (p2 ixO (pVar 0) (pC (.int 0))))) (aTup (aCons (aN 4) (aCons (aN 5) (aCons (aN 6) (aCons (aN 7) (aCons (aN 8) (aNil))))))) b1__law_spread) (mRet (mP (pTup (pCons (p1 tupO (pVar 3)) (pCons (p2 ixO (pVar 0) (pC (.int 1))) (pNil)))))))))
abbrev E__law_spread (v_board v_feed_here v_overs_here v_guards v_name v_under v_curve v_delay v_wait : Option O := none) : FB.Env := [v_board, v_feed_here, v_overs_here, v_guards, v_name, v_under, v_curve, v_delay, v_wait]
noncomputable def F__law_spread : FSem := runF 2 9 [1] b__law_spread
theorem sc__law_spread : FnScope ["_law_board", "_law_feed_here", "_law_overs_here", "_law_guards", "_law_name", "_law_under", "_law_curve", "_law_delay", "_law_wait"] ["_law_board", "_law_feed_here"] (C8.fnScope s__law_spread) := C8.fnScope_by (by decide +kernel)
noncomputable def q1__law_began : M O := mComp (mI (mP (p2 ixO (pVar 0) (pC (.int 1))))) (own2 [("_law_load", 4)]) (aN 4) (mTrue) (mP (pTup (pCons (p2 ixO (pVar 4) (pC (.int 0))) (pCons (p2 ixO (pVar 4) (pC (.int 4))) (pNil)))))
noncomputable def q2__law_began : M O := mComp (mI (mP (p2 ixO (pVar 0) (pC (.int 1))))) (own2 [("_law_load", 4)]) (aN 4) (mTrue) (mP (pTup (pCons (p2 ixO (pVar 4) (pC (.int 0))) (pCons (pC .non) (pNil)))))
noncomputable def q3__law_began : M O := mComp (mI (mP (p2 ixO (pVar 0) (pC (.int 0))))) (own2 [("_law_guard", 5)]) (aN 5) (mTrue) (mP (pTup (pCons (p2 ixO (pVar 5) (pC (.int 0))) (pCons (p2 (lift2 mulD) (pLst (pCons (pC (.int 0)) (pNil))) (p1 lenO (p2 ixO (pVar 5) (pC (.int 2))))) (pNil)))))
noncomputable def b__law_began : M Fl := mSeq (mSetO 1 (mDictPO (q1__law_began))) (mSeq (mSetO 2 (mDictPO (q2__law_began))) (mSeq (mSetO 3 (mDictPO (q3__law_began))) (mRet (mDispS ["open", "faults", "on", "lit", "ages", "counts", "overs"] (mCons (mFz (mLst (mNil))) (mCons (mDict0) (mConsL 1 (mCons (mDictC (pVar 1)) (mConsL 2 (mConsL 3 (mCons (mCall F__law_overs [.v (mP (pVar 0))]) (mNil))))))))))))
abbrev E__law_began (v_board v_on v_ages v_counts v_load v_guard : Option O := none) : FB.Env := [v_board, v_on, v_ages, v_counts, v_load, v_guard]
noncomputable def F__law_began : FSem := runF 1 6 [] b__law_began
theorem sc__law_began : FnScope ["_law_board", "_law_on", "_law_ages", "_law_counts", "_law_load", "_law_guard"] ["_law_board"] (C8.fnScope s__law_began) := C8.fnScope_by (by decide +kernel)
noncomputable def q1__law_is_fed : M O := mComp (mI (mP (p2 ixF (p2 ixF (pVar 0) (pC (.str "overs"))) (pVar 1)))) (own2 [("_law_name", 2)]) (aN 2) (mTrue) (mP (p2 (inO) (pVar 2) (p2 ixF (pVar 0) (pC (.str "open")))))
noncomputable def b__law_is_fed : M Fl := mRet (mNotV (m1 anyO (q1__law_is_fed)))
abbrev E__law_is_fed (v_state v_place v_name : Option O := none) : FB.Env := [v_state, v_place, v_name]
noncomputable def F__law_is_fed : FSem := runF 2 3 [0] b__law_is_fed
theorem sc__law_is_fed : FnScope ["_law_state", "_law_place", "_law_name"] ["_law_state", "_law_place"] (C8.fnScope s__law_is_fed) := C8.fnScope_by (by decide +kernel)
noncomputable def b1__law_settled : M Fl := mSeq (mSetP 4 (mAndV (mP (p2 ixF (p2 ixF (pVar 1) (pC (.str "on"))) (p2 ixO (pVar 2) (pC (.int 0))))) (mCall F__law_is_fed [.io 1, .v (mP (p2 ixO (pVar 2) (pC (.int 0))))]))) (mSeq (mIf (mAnd (mB (mP (pVar 4))) (mNot (mB (mP (p2 ixF (p2 ixF (pVar 1) (pC (.str "lit"))) (p2 ixO (pVar 2) (pC (.int 0)))))))) (mSetDI 1 "ages" (p2 ixO (pVar 2) (pC (.int 0))) (mP (pC (.int 0)))) (mSkip)) (mSetDI 1 "lit" (p2 ixO (pVar 2) (pC (.int 0))) (mP (pVar 4))))
noncomputable def b2__law_settled : M Fl := mIf (mNot (mB (mCall F__law_is_fed [.io 1, .v (mP (p2 ixO (pVar 3) (pC (.int 0))))]))) (mSetDI 1 "counts" (p2 ixO (pVar 3) (pC (.int 0))) (mP (p2 (lift2 mulD) (pLst (pCons (pC (.int 0)) (pNil))) (p1 lenO (p2 ixO (pVar 3) (pC (.int 2))))))) (mSkip)
noncomputable def b__law_settled : M Fl := mSeq (mFor (mI (mP (p2 ixO (pVar 0) (pC (.int 1))))) (aN 2) b1__law_settled) (mFor (mI (mP (p2 ixO (pVar 0) (pC (.int 0))))) (aN 3) b2__law_settled)
abbrev E__law_settled (v_board v_state v_load v_guard v_burns : Option O := none) : FB.Env := [v_board, v_state, v_load, v_guard, v_burns]
noncomputable def F__law_settled : FSem := runF 2 5 [1] b__law_settled
theorem sc__law_settled : FnScope ["_law_board", "_law_state", "_law_load", "_law_guard", "_law_burns"] ["_law_board", "_law_state"] (C8.fnScope s__law_settled) := C8.fnScope_by (by decide +kernel)
noncomputable def q1__law_did : M O := mComp (mI (mFrzD 1 "open")) (own2 [("_law_name", 3)]) (aN 3) (mB (mP (p2 (neO) (pVar 3) (p2 ixO (pVar 2) (pC (.int 1)))))) (mP (pVar 3))
noncomputable def b__law_did : M Fl := mSeq (mIf (mB (mP (p2 (eqO) (p2 ixO (pVar 2) (pC (.int 0))) (pC (.str "fault"))))) (mSetDI 1 "faults" (p2 ixO (pVar 2) (pC (.int 1))) (mP (p2 ixO (pVar 2) (pC (.int 2))))) (mSkip)) (mSeq (mIf (mOr (mB (mP (p2 (eqO) (p2 ixO (pVar 2) (pC (.int 0))) (pC (.str "on"))))) (mB (mP (p2 (eqO) (p2 ixO (pVar 2) (pC (.int 0))) (pC (.str "off")))))) (mSetDI 1 "on" (p2 ixO (pVar 2) (pC (.int 1))) (mP (p2 (eqO) (p2 ixO (pVar 2) (pC (.int 0))) (pC (.str "on"))))) (mSkip)) (mSeq (mIf (mOr (mB (mP (p2 (eqO) (p2 ixO (pVar 2) (pC (.int 0))) (pC (.str "open"))))) (mB (mP (p2 (eqO) (p2 ixO (pVar 2) (pC (.int 0))) (pC (.str "close")))))) (mSetIt 1 (mP (pC (.str "open"))) (q1__law_did)) (mSkip)) (mSeq (mIf (mB (mP (p2 (eqO) (p2 ixO (pVar 2) (pC (.int 0))) (pC (.str "open"))))) (mEx (mAppP 1 (stD "open") (p2 ixO (pVar 2) (pC (.int 1))))) (mSkip)) (mEx (mCall F__law_settled [.v (mP (pVar 0)), .io 1])))))
abbrev E__law_did (v_board v_state v_deed v_name : Option O := none) : FB.Env := [v_board, v_state, v_deed, v_name]
noncomputable def F__law_did : FSem := runF 3 4 [1] b__law_did
theorem sc__law_did : FnScope ["_law_board", "_law_state", "_law_deed", "_law_name"] ["_law_board", "_law_state", "_law_deed"] (C8.fnScope s__law_did) := C8.fnScope_by (by decide +kernel)
noncomputable def b1__law_pull : M Fl := mSeq (mIf (mB (mP (p2 (lift2 ltD) (pVar 1) (pVar 2)))) (mRet (mP (pVar 3))) (mSkip)) (mSetP 1 (mP (p2 (lift2 subD) (pVar 1) (pVar 2))))
noncomputable def b__law_pull : M Fl := mSeq (mIf (mB (mP (p2 (notNO) (pVar 1) (pC .non)))) (mFor (mI (mP (p2 ixO (pVar 0) (pC (.int 2))))) (aTup (aCons (aN 2) (aCons (aN 3) (aNil)))) b1__law_pull) (mSkip)) (mRet (mP (p2 ixO (pVar 0) (pC (.int 3)))))
abbrev E__law_pull (v_load v_age v_many v_one : Option O := none) : FB.Env := [v_load, v_age, v_many, v_one]
noncomputable def F__law_pull : FSem := runF 2 4 [] b__law_pull
theorem sc__law_pull : FnScope ["_law_load", "_law_age", "_law_many", "_law_one"] ["_law_load", "_law_age"] (C8.fnScope s__law_pull) := C8.fnScope_by (by decide +kernel)
noncomputable def q1__law_found : M O := mComp (mI (mP (p2 ixO (pVar 0) (pC (.int 0))))) (own2 [("_law_guard", 7)]) (aN 7) (mTrue) (mP (pTup (pCons (p2 ixO (pVar 7) (pC (.int 0))) (pCons (pC (.int 0)) (pNil)))))
noncomputable def q2__law_found : M O := mComp (mI (mP (p2 ixO (pVar 0) (pC (.int 0))))) (own2 [("_law_guard", 7)]) (aN 7) (mTrue) (mP (pTup (pCons (p2 ixO (pVar 7) (pC (.int 0))) (pCons (pC (.int 0)) (pNil)))))
noncomputable def b1__law_found : M Fl := mIf (mB (mP (p2 ixF (p2 ixF (pVar 1) (pC (.str "lit"))) (p2 ixO (pVar 4) (pC (.int 0)))))) (mEx (mAppend 3 (mTup (mCons (mP (p2 ixO (pVar 4) (pC (.int 0)))) (mCons (mCall F__law_pull [.v (mP (pVar 4)), .v (mP (p2 ixF (p2 ixF (pVar 1) (pC (.str "ages"))) (p2 ixO (pVar 4) (pC (.int 0)))))]) (mNil)))))) (mSkip)
noncomputable def b2__law_found : M Fl := mSetIt 2 (mP (pVar 8)) (mP (p2 (lift2 addD) (p2 ixF (pVar 2) (pVar 8)) (pVar 6)))
noncomputable def b3__law_found : M Fl := mIf (mB (mCall F__law_is_fed [.io 1, .v (mP (pVar 5))])) (mSeq (mSetP 6 (mP (p2 (lift2 addD) (pVar 6) (p3 getO (p2 ixF (pVar 1) (pC (.str "faults"))) (pVar 5) (pC (.int 0)))))) (mFor (mI (mP (p2 ixF (p2 ixF (pVar 1) (pC (.str "overs"))) (pVar 5)))) (aN 8) b2__law_found)) (mSkip)
noncomputable def b__law_found : M Fl := mSeq (mSetO 2 (mDictPO (q1__law_found))) (mSeq (mSetO 3 (q2__law_found)) (mSeq (mFor (mI (mP (p2 ixO (pVar 0) (pC (.int 1))))) (aN 4) b1__law_found) (mSeq (mForL 3 (aTup (aCons (aN 5) (aCons (aN 6) (aNil)))) b3__law_found) (mRet (mMove 2)))))
abbrev E__law_found (v_board v_state v_found_here v_pulls v_load v_place v_pull_here v_guard v_name : Option O := none) : FB.Env := [v_board, v_state, v_found_here, v_pulls, v_load, v_place, v_pull_here, v_guard, v_name]
noncomputable def F__law_found : FSem := runF 2 9 [1] b__law_found
theorem sc__law_found : FnScope ["_law_board", "_law_state", "_law_found_here", "_law_pulls", "_law_load", "_law_place", "_law_pull_here", "_law_guard", "_law_name"] ["_law_board", "_law_state"] (C8.fnScope s__law_found) := C8.fnScope_by (by decide +kernel)
noncomputable def q1__law_more : M O := mComp (mI (mP (p2 ixO (pVar 0) (pC (.int 0))))) (own2 [("_law_one", 5)]) (aN 5) (mB (mP (p2 (eqO) (p2 ixO (pVar 5) (pC (.int 1))) (p2 ixO (pVar 1) (pC (.int 0)))))) (mP (pVar 5))
noncomputable def q2__law_more : M O := mComp (mI (mP (pVar 3))) (own2 [("_law_one", 5)]) (aN 5) (mB (mP (p2 (lift2 geD) (p2 ixF (pVar 2) (p2 ixO (pVar 5) (pC (.int 0)))) (p2 ixO (p2 ixO (p2 ixO (pVar 5) (pC (.int 2))) (pC (.int 0))) (pC (.int 0)))))) (mP (pVar 5))
noncomputable def b__law_more : M Fl := mSeq (mSetP 3 (q1__law_more)) (mSeq (mSetP 4 (q2__law_more)) (mRet (mP (p2 (lift2 addD) (p2 ixO (pVar 1) (pC (.int 3))) (p2 (lift2 mulD) (p2 ixO (pVar 1) (pC (.int 4))) (p1 intO (p2 (lift2 gtD) (p1 lenO (pVar 4)) (pC (.int 0)))))))))
abbrev E__law_more (v_board v_guard v_found_here v_under_it v_some v_one : Option O := none) : FB.Env := [v_board, v_guard, v_found_here, v_under_it, v_some, v_one]
noncomputable def F__law_more : FSem := runF 3 6 [] b__law_more
theorem sc__law_more : FnScope ["_law_board", "_law_guard", "_law_found_here", "_law_under_it", "_law_some", "_law_one"] ["_law_board", "_law_guard", "_law_found_here"] (C8.fnScope s__law_more) := C8.fnScope_by (by decide +kernel)
noncomputable def q1__law_passed : M O := mComp (mI (mP (p2 ixF (p2 ixF (pVar 1) (pC (.str "counts"))) (pVar 6)))) (own2 [("_law_number", 16)]) (aN 16) (mTrue) (mP (p2 (lift2 addD) (pVar 16) (pC (.int 1))))
noncomputable def b1__law_passed : M Fl := mSetIt 11 (mP (pVar 14)) (mP (p2 (lift2 mulD) (p2 ixO (pVar 11) (pVar 14)) (p1 intO (p2 (lift2 geD) (p2 ixF (pVar 3) (pVar 6)) (p2 ixO (pVar 15) (pC (.int 0)))))))
noncomputable def b2__law_passed : M Fl := mIf (mB (mP (p2 (lift2 geD) (p2 ixO (pVar 11) (pVar 14)) (p2 (lift2 addD) (p2 ixO (pVar 15) (pC (.int 1))) (pVar 12))))) (mEx (mAppend 13 (mP (pTup (pCons (pVar 14) (pCons (p2 ixO (pVar 11) (pVar 14)) (pNil))))))) (mSkip)
noncomputable def b3__law_passed : M Fl := mSeq (mSetO 11 (q1__law_passed)) (mSeq (mFor (mEnumU (mP (pVar 8))) (aTup (aCons (aN 14) (aCons (aN 15) (aNil)))) b1__law_passed) (mSeq (mSetDI 1 "counts" (pVar 6) (mFrz 11)) (mSeq (mSetP 12 (mCall F__law_more [.v (mP (pVar 0)), .v (mP (pTup (pCons (pVar 6) (pCons (pVar 7) (pCons (pVar 8) (pCons (pVar 9) (pCons (pVar 10) (pNil)))))))), .v (mP (pVar 3))])) (mSeq (mSetO 13 (mLst (mNil))) (mSeq (mFor (mEnumU (mP (pVar 8))) (aTup (aCons (aN 14) (aCons (aN 15) (aNil)))) b2__law_passed) (mIf (mAnd (mB (mP (p2 (lift2 gtD) (p1 lenO (pVar 13)) (pC (.int 0))))) (mAnd (mB (mP (p2 (ninO) (pVar 6) (pVar 2)))) (mB (mP (p2 (ninO) (pVar 6) (p2 ixF (pVar 1) (pC (.str "open")))))))) (mEx (mAppend 4 (mP (pTup (pCons (pVar 6) (pCons (pVar 13) (pNil))))))) (mSkip)))))))
noncomputable def b4__law_passed : M Fl := mIf (mB (mP (p2 (notNO) (p2 ixF (p2 ixF (pVar 1) (pC (.str "ages"))) (p2 ixO (pVar 5) (pC (.int 0)))) (pC .non)))) (mSetDI 1 "ages" (p2 ixO (pVar 5) (pC (.int 0))) (mP (p2 (lift2 addD) (p2 ixF (p2 ixF (pVar 1) (pC (.str "ages"))) (p2 ixO (pVar 5) (pC (.int 0)))) (pC (.int 1))))) (mSkip)
noncomputable def q2__law_passed : M O := mCompG (lstN 4) (wiN 4) (reN 4) (own2 [("_law_one", 17)]) (aN 17) (mTrue) (mP (p2 ixO (pVar 17) (pC (.int 0))))
noncomputable def b__law_passed : M Fl := mSeq (mSetP 3 (mCall F__law_found [.v (mP (pVar 0)), .io 1])) (mSeq (mSetO 4 (mLst (mNil))) (mSeq (mFor (mI (mP (p2 ixO (pVar 0) (pC (.int 0))))) (aTup (aCons (aN 6) (aCons (aN 7) (aCons (aN 8) (aCons (aN 9) (aCons (aN 10) (aNil))))))) b3__law_passed) (mSeq (mFor (mI (mP (p2 ixO (pVar 0) (pC (.int 1))))) (aN 5) b4__law_passed) (mSeq (mSetIt 1 (mP (pC (.str "open"))) (m2 (lift2 addD) (mFrzD 1 "open") (q2__law_passed))) (mSeq (mEx (mCall F__law_settled [.v (mP (pVar 0)), .io 1])) (mRet (mP (pTup (pCons (pVar 3) (pCons (pVar 4) (pNil)))))))))))
abbrev E__law_passed (v_board v_state v_stuck v_found_here v_opened v_load v_name v_under v_curve v_delay v_wait v_counts v_more_here v_full v_k v_step v_number v_one : Option O := none) : FB.Env := [v_board, v_state, v_stuck, v_found_here, v_opened, v_load, v_name, v_under, v_curve, v_delay, v_wait, v_counts, v_more_here, v_full, v_k, v_step, v_number, v_one]
noncomputable def F__law_passed : FSem := runF 3 18 [1] b__law_passed
theorem sc__law_passed : FnScope ["_law_board", "_law_state", "_law_stuck", "_law_found_here", "_law_opened", "_law_load", "_law_name", "_law_under", "_law_curve", "_law_delay", "_law_wait", "_law_counts", "_law_more_here", "_law_full", "_law_k", "_law_step", "_law_number", "_law_one"] ["_law_board", "_law_state", "_law_stuck"] (C8.fnScope s__law_passed) := C8.fnScope_by (by decide +kernel)
noncomputable def q1__law_opens : M O := mComp (mI (mP (pVar 7))) (own2 [("_law_one", 8)]) (aN 8) (mTrue) (mP (p2 ixO (pVar 8) (pC (.int 0))))
noncomputable def b1__law_opens : M Fl := mSeq (mAsg (aTup (aCons (aN 6) (aCons (aN 7) (aNil)))) (mCall F__law_passed [.v (mP (pVar 0)), .io 4, .v (mP (pVar 3))])) (mIf (mB (mP (p2 (lift2 gtD) (p1 lenO (pVar 7)) (pC (.int 0))))) (mRet (q1__law_opens)) (mSkip))
noncomputable def b__law_opens : M Fl := mSeq (mSetO 4 (mCall F__law_began [.v (mP (pVar 0))])) (mSeq (mEx (mCall F__law_did [.v (mP (pVar 0)), .io 4, .v (mP (pTup (pCons (pC (.str "fault")) (pCons (pVar 1) (pCons (pVar 2) (pNil))))))])) (mSeq (mFor (mR1 (mP (pC (.int 52)))) (aN 5) b1__law_opens) (mRet (mLst (mNil)))))
abbrev E__law_opens (v_board v_place v_greatness v_stuck v_state v_turn v_found_here v_opened v_one : Option O := none) : FB.Env := [v_board, v_place, v_greatness, v_stuck, v_state, v_turn, v_found_here, v_opened, v_one]
noncomputable def F__law_opens : FSem := runF 4 9 [] b__law_opens
theorem sc__law_opens : FnScope ["_law_board", "_law_place", "_law_greatness", "_law_stuck", "_law_state", "_law_turn", "_law_found_here", "_law_opened", "_law_one"] ["_law_board", "_law_place", "_law_greatness", "_law_stuck"] (C8.fnScope s__law_opens) := C8.fnScope_by (by decide +kernel)
noncomputable def q1__law_as_due : M O := mComp (mI (m2 ixF (mCall F__law_overs [.v (mP (pVar 0))]) (mP (pVar 1)))) (own2 [("_law_name", 5)]) (aN 5) (mB (mP (p2 (ninO) (pVar 5) (pVar 3)))) (mP (pVar 5))
noncomputable def b__law_as_due : M Fl := mSeq (mSetP 4 (mSl (q1__law_as_due) mNone (mInt (mP (pC (.int 1)))))) (mRet (m2 (inO) (mCall F__law_opens [.v (mP (pVar 0)), .v (mP (pVar 1)), .v (mP (pVar 2)), .v (mP (pVar 3))]) (mFz (mLst (mCons (mLst (mNil)) (mCons (mP (pVar 4)) (mNil)))))))
abbrev E__law_as_due (v_board v_place v_greatness v_stuck v_near v_name : Option O := none) : FB.Env := [v_board, v_place, v_greatness, v_stuck, v_near, v_name]
noncomputable def F__law_as_due : FSem := runF 4 6 [] b__law_as_due
theorem sc__law_as_due : FnScope ["_law_board", "_law_place", "_law_greatness", "_law_stuck", "_law_near", "_law_name"] ["_law_board", "_law_place", "_law_greatness", "_law_stuck"] (C8.fnScope s__law_as_due) := C8.fnScope_by (by decide +kernel)
noncomputable def q1__law_shown : M O := mComp (mI (mP (pVar 5))) (own2 [("_law_one", 9)]) (aN 9) (mTrue) (mCall F__law_as_due [.v (mP (pVar 0)), .v (mP (pVar 6)), .v (mP (pVar 9)), .v (mP (pVar 1))])
noncomputable def b__law_shown : M Fl := mSeq (mAsg (aTup (aCons (aN 6) (aCons (aN 7) (aCons (aN 8) (aNil))))) (mP (pVar 3))) (mSeq (mIf (mOr (mB (m2 (ninO) (mP (pVar 6)) (mCall F__law_places [.v (mP (pVar 0))]))) (mOr (mB (mP (p2 (lift2 ltD) (pVar 7) (pC (.int 1))))) (mB (mP (p2 (lift2 gtD) (pVar 7) (pVar 2)))))) (mRet (mP (pC (.bl false)))) (mSkip)) (mSeq (mIf (mOr (mB (mCall F__law_as_due [.v (mP (pVar 0)), .v (mP (pVar 6)), .v (mP (pVar 7)), .v (mP (pVar 1))])) (mB (m2 (neO) (mCall F__law_opens [.v (mP (pVar 0)), .v (mP (pVar 6)), .v (mP (pVar 7)), .v (mP (pVar 1))]) (mP (p1 listO (pVar 8)))))) (mRet (mP (pC (.bl false)))) (mSkip)) (mSeq (mSetP 5 (mLst (mCons (mP (p2 (lift2 subD) (pVar 7) (pC (.int 1)))) (mCons (mCall F__law_take [.io 4, .v (mP (pVar 7))]) (mNil))))) (mRet (m1 allO (q1__law_shown))))))
abbrev E__law_shown (v_board v_stuck v_most v_found_here v_feed_here v_lesser v_place v_greatness v_names_here v_one : Option O := none) : FB.Env := [v_board, v_stuck, v_most, v_found_here, v_feed_here, v_lesser, v_place, v_greatness, v_names_here, v_one]
noncomputable def F__law_shown : FSem := runF 5 10 [4] b__law_shown
theorem sc__law_shown : FnScope ["_law_board", "_law_stuck", "_law_most", "_law_found_here", "_law_feed_here", "_law_lesser", "_law_place", "_law_greatness", "_law_names_here", "_law_one"] ["_law_board", "_law_stuck", "_law_most", "_law_found_here", "_law_feed_here"] (C8.fnScope s__law_shown) := C8.fnScope_by (by decide +kernel)
noncomputable def q1_law : M O := mComp (mI (mP (p2 ixO (pVar 1) (pC (.int 0))))) (own2 [("_law_guard", 8)]) (aN 8) (mB (m2 (eqO) (mCall F__law_take [.io 2, .v (mP (pC (.int 6)))]) (mP (pC (.int 0))))) (mP (p2 ixO (pVar 8) (pC (.int 0))))
noncomputable def b1_law : M Fl := mIf (mNot (mB (mCall F__law_as_due [.v (mP (pVar 1)), .v (mFz (m2 ixO (mP (pVar 6)) (mCall F__law_take [.io 2, .v (mP (p1 lenO (pVar 6)))]))), .v (mP (pVar 7)), .v (mP (pVar 3))]))) (mRet (mP (pC (.bl false)))) (mSkip)
noncomputable def b_law : M Fl := mSeq (mSetP 1 (mCall F__law_small_board [.v (mP (pVar 0)), .v (mP (pC (.int 1))), .v (mP (pC (.int 1)))])) (mSeq (mIf (mB (m2 (notNO) (mCall F__law_loud [.v (mP (pVar 1))]) (mP (pC .non)))) (mRet (mP (pC (.bl true)))) (mSkip)) (mSeq (mSetO 2 (mCall F__law_feed [.v (mP (pVar 0)), .v (mP (pC (.int 18)))])) (mSeq (mSetP 1 (mCall F__law_spread [.v (mP (pVar 1)), .io 2])) (mSeq (mSetP 3 (q1_law)) (mSeq (mSetP 4 (m2 (lift2 addD) (mP (pC (.int 1))) (mCall F__law_take [.io 2, .v (mP (pC (.int 60)))]))) (mSeq (mSetP 5 (mCall F_parted [.v (mP (pVar 1)), .v (mP (pVar 4)), .v (mP (pVar 3))])) (mSeq (mIf (mB (mP (p2 (notNO) (pVar 5) (pC .non)))) (mRet (mCall F__law_shown [.v (mP (pVar 1)), .v (mP (pVar 3)), .v (mP (pVar 4)), .v (mP (pVar 5)), .io 2])) (mSkip)) (mSeq (mSetP 6 (mCall F__law_places [.v (mP (pVar 1))])) (mSeq (mFor (mI (mLst (mCons (mP (pVar 4)) (mCons (m2 (lift2 addD) (mP (pC (.int 1))) (mCall F__law_take [.io 2, .v (mP (pVar 4))])) (mCons (m2 (lift2 addD) (mP (pC (.int 1))) (mCall F__law_take [.io 2, .v (mP (pVar 4))])) (mNil)))))) (aN 7) b1_law) (mRet (mP (pC (.bl true)))))))))))))
abbrev E_law (v_script v_board v_feed_here v_stuck v_most v_found_here v_places_here v_greatness v_guard : Option O := none) : FB.Env := [v_script, v_board, v_feed_here, v_stuck, v_most, v_found_here, v_places_here, v_greatness, v_guard]
noncomputable def F_law : FSem := runF 1 9 [] b_law
theorem sc_law : FnScope ["_law_script", "_law_board", "_law_feed_here", "_law_stuck", "_law_most", "_law_found_here", "_law_places_here", "_law_greatness", "_law_guard"] ["_law_script"] (C8.fnScope s_law) := C8.fnScope_by (by decide +kernel)
section
variable {P : Program} {w : World} {K : PySem.W.Frag} {mg : Str → Option Value} {base : Heap}
theorem c_guards_of {f : Addr} {fd : FuncData} (F : C8.Def K mg "guards_of" s_guards_of f fd) (bi : Binds K fd ["board"] []) (Z : Fr K mg) {C_Way : Addr} (co_Way : CO K mg "Way" C_Way fs_Way)  : C8.Cal P w K mg base 1 "guards_of" (spF K mg 1 F_guards_of) [] :=
  cal_sem F bi sc_guards_of rfl rfl (by decide) fun cdv A outer s H E hr => by
    have ok := bodyOk (P := P) (w := w) (K := K) (mg := mg) (base := base) (qual := "guards_of") (cdv := cdv) (A := A) (outer := outer) (s := s) (H := H) (E := E) sc_guards_of hr
    exact (sss_one (ss_ret (se_comp ok (si_val (se_p (sp_ix ix_seq opv_ix (sp_var 0) sp_int))) (blkOk_by (by first | rfl | decide +kernel)) (own := [("guard", 1)]) (fun _ _ _ _ _ => (sg_n 1 ok.blk rfl (by first | exact Or.inl rfl | exact Or.inr rfl) wipSet)) (fun _ _ _ _ _ => sets_nil) (fun _ _ _ _ _ => (se_p (sp_ix ix_seq opv_ix (sp_var 1) sp_int))))))
theorem c_loads_of {f : Addr} {fd : FuncData} (F : C8.Def K mg "loads_of" s_loads_of f fd) (bi : Binds K fd ["board"] []) (Z : Fr K mg) {C_Way : Addr} (co_Way : CO K mg "Way" C_Way fs_Way)  : C8.Cal P w K mg base 1 "loads_of" (spF K mg 1 F_loads_of) [] :=
  cal_sem F bi sc_loads_of rfl rfl (by decide) fun cdv A outer s H E hr => by
    have ok := bodyOk (P := P) (w := w) (K := K) (mg := mg) (base := base) (qual := "loads_of") (cdv := cdv) (A := A) (outer := outer) (s := s) (H := H) (E := E) sc_loads_of hr
    exact (sss_one (ss_ret (se_comp ok (si_val (se_p (sp_ix ix_seq opv_ix (sp_var 0) sp_int))) (blkOk_by (by first | rfl | decide +kernel)) (own := [("load", 1)]) (fun _ _ _ _ _ => (sg_n 1 ok.blk rfl (by first | exact Or.inl rfl | exact Or.inr rfl) wipSet)) (fun _ _ _ _ _ => sets_nil) (fun _ _ _ _ _ => (se_p (sp_ix ix_seq opv_ix (sp_var 1) sp_int))))))
theorem c_chain {f : Addr} {fd : FuncData} (F : C8.Def K mg "chain" s_chain f fd) (bi : Binds K fd ["guards", "name"] []) (Z : Fr K mg) {C_Way : Addr} (co_Way : CO K mg "Way" C_Way fs_Way)  : C8.Cal P w K mg base 1 "chain" (spF K mg 2 F_chain) [] :=
  cal_sem F bi sc_chain rfl rfl (by decide) fun cdv A outer s H E hr => by
    have ok := bodyOk (P := P) (w := w) (K := K) (mg := mg) (base := base) (qual := "chain") (cdv := cdv) (A := A) (outer := outer) (s := s) (H := H) (E := E) sc_chain hr
    exact (sss_cons (ss_setP 2 ok rfl (by first | exact Or.inl rfl | exact Or.inr rfl) (se_dictP ok rfl Z.n_dict (by rfl) (se_comp ok (si_val (se_p (sp_var 0))) (blkOk_by (by first | rfl | decide +kernel)) (own := [("guard", 4)]) (fun _ _ _ _ _ => (sg_n 4 ok.blk rfl (by first | exact Or.inl rfl | exact Or.inr rfl) wipSet)) (fun _ _ _ _ _ => sets_nil) (fun _ _ _ _ _ => (se_p (sp_tup (sps_cons (sp_ix ix_seq opv_ix (sp_var 4) sp_int) (sps_cons (sp_ix ix_seq opv_ix (sp_var 4) sp_int) sps_nil)))))))) (sss_cons (ss_setO 3 ok rfl (by first | exact Or.inl rfl | exact Or.inr rfl) (se_lst ses_nil)) (sss_cons (ss_while (fun _ => fuel) .never (set_cmpP op_notN opv_notN (sp_var 1) sp_non rfl) (sss_cons (ss_expr (se_append 3 (se_p (sp_var 1)))) (sss_one (ss_setP 1 ok rfl (by first | exact Or.inl rfl | exact Or.inr rfl) (se_p (sp_ix (ix_F ok) opv_ixF (sp_var 2) (sp_var 1))))))) (sss_one (ss_ret (se_move 3))))))
theorem c_over {f : Addr} {fd : FuncData} (F : C8.Def K mg "over" s_over f fd) (bi : Binds K fd ["board", "place"] []) (Z : Fr K mg) {C_Way : Addr} (co_Way : CO K mg "Way" C_Way fs_Way) (c_guards_of : C8.Cal P w K mg base 1 "guards_of" (spF K mg 1 F_guards_of) []) (c_chain : C8.Cal P w K mg base 1 "chain" (spF K mg 2 F_chain) []) : C8.Cal P w K mg base 2 "over" (spF K mg 2 F_over) [] :=
  cal_sem F bi sc_over rfl rfl (by decide) fun cdv A outer s H E hr => by
    have ok := bodyOk (P := P) (w := w) (K := K) (mg := mg) (base := base) (qual := "over") (cdv := cdv) (A := A) (outer := outer) (s := s) (H := H) (E := E) sc_over hr
    exact (sss_cons (ss_if (set_cmp (op_inF ok) opv_in (se_p (sp_var 1)) (se_call c_guards_of hr (by decide) rfl (sas_v (se_p (sp_var 0)) sas_nil)) rfl) (sss_one (ss_ret (se_call c_chain hr (by decide) rfl (sas_v (se_p (sp_ix ix_seq opv_ix (sp_var 0) sp_int)) (sas_v (se_p (sp_var 1)) sas_nil))))) sss_nil) (sss_cons (ss_for ok .never (si_val (se_p (sp_ix ix_seq opv_ix (sp_var 0) sp_int))) (sg_tup ok (sgs_cons (fixOk _) (sg_n 2 ok rfl (by first | exact Or.inl rfl | exact Or.inr rfl) fixSet) (sgs_cons (fixOk _) (sg_n 3 ok rfl (by first | exact Or.inl rfl | exact Or.inr rfl) fixSet) (sgs_cons (fixOk _) (sg_n 4 ok rfl (by first | exact Or.inl rfl | exact Or.inr rfl) fixSet) (sgs_cons (fixOk _) (sg_n 5 ok rfl (by first | exact Or.inl rfl | exact Or.inr rfl) fixSet) (sgs_cons (fixOk _) (sg_n 6 ok rfl (by first | exact Or.inl rfl | exact Or.inr rfl) fixSet) (sgs_nil (fixOk _))))))) (hl := (aCons_len (aCons_len (aCons_len (aCons_len (aCons_len aNil_len))))))) (sss_one (ss_if (set_cmpP (op_eqD ok.u64) opv_eq (sp_var 2) (sp_var 1) rfl) (sss_one (ss_ret (se_call c_chain hr (by decide) rfl (sas_v (se_p (sp_ix ix_seq opv_ix (sp_var 0) sp_int)) (sas_v (se_p (sp_var 3)) sas_nil))))) sss_nil))) (sss_one ss_never)))
theorem c_draws {f : Addr} {fd : FuncData} (F : C8.Def K mg "draws" s_draws f fd) (bi : Binds K fd ["board", "opened", "pulls"] []) (Z : Fr K mg) {C_Way : Addr} (co_Way : CO K mg "Way" C_Way fs_Way) (c_guards_of : C8.Cal P w K mg base 1 "guards_of" (spF K mg 1 F_guards_of) []) (c_over : C8.Cal P w K mg base 2 "over" (spF K mg 2 F_over) []) : C8.Cal P w K mg base 3 "draws" (spF K mg 3 F_draws) [] :=
  cal_sem F bi sc_draws rfl rfl (by decide) fun cdv A outer s H E hr => by
    have ok := bodyOk (P := P) (w := w) (K := K) (mg := mg) (base := base) (qual := "draws") (cdv := cdv) (A := A) (outer := outer) (s := s) (H := H) (E := E) sc_draws hr
    exact (sss_cons (ss_setO 3 ok rfl (by first | exact Or.inl rfl | exact Or.inr rfl) se_dict0) (sss_cons (ss_for ok .never (si_val (se_call c_guards_of hr (by decide) rfl (sas_v (se_p (sp_var 0)) sas_nil))) (sg_n 4 ok rfl (by first | exact Or.inl rfl | exact Or.inr rfl) fixSet) (sss_one (ss_setIt 3 ok (se_p (sp_var 4)) (se_p sp_int)))) (sss_cons (ss_forK 2 ok .never (sg_n 5 ok rfl (by first | exact Or.inl rfl | exact Or.inr rfl) fixSet) (sss_cons (ss_setP 6 ok rfl (by first | exact Or.inl rfl | exact Or.inr rfl) (se_call c_over hr (by decide) rfl (sas_v (se_p (sp_var 0)) (sas_v (se_p (sp_var 5)) sas_nil)))) (sss_one (ss_if (set_not (set_val (se_b1 (cr_any ok.calm) unv_any rfl Z.n_any (by rfl) (se_comp ok (si_val (se_p (sp_var 6))) (blkOk_by (by first | rfl | decide +kernel)) (own := [("guard", 4)]) (fun _ _ _ _ _ => (sg_n 4 ok.blk rfl (by first | exact Or.inl rfl | exact Or.inr rfl) wipSet)) (fun _ _ _ _ _ => sets_nil) (fun _ _ _ _ _ => (se_p (sp_cmp (op_inF ok.blk) opv_in (sp_var 4) (sp_var 1) rfl))))))) (sss_one (ss_for ok .never (si_val (se_p (sp_var 6))) (sg_n 4 ok rfl (by first | exact Or.inl rfl | exact Or.inr rfl) fixSet) (sss_one (ss_augI 3 ok ip_add (sp_var 4) (sp_ix (ix_F ok) opv_ixF (sp_var 2) (sp_var 5)))))) sss_nil)))) (sss_one (ss_ret (se_move 3))))))
theorem c_rest {f : Addr} {fd : FuncData} (F : C8.Def K mg "rest" s_rest f fd) (bi : Binds K fd ["board"] []) (Z : Fr K mg) {C_Way : Addr} (co_Way : CO K mg "Way" C_Way fs_Way) (c_draws : C8.Cal P w K mg base 3 "draws" (spF K mg 3 F_draws) []) : C8.Cal P w K mg base 4 "rest" (spF K mg 1 F_rest) [] :=
  cal_sem F bi sc_rest rfl rfl (by decide) fun cdv A outer s H E hr => by
    have ok := bodyOk (P := P) (w := w) (K := K) (mg := mg) (base := base) (qual := "rest") (cdv := cdv) (A := A) (outer := outer) (s := s) (H := H) (E := E) sc_rest hr
    exact (sss_cons (ss_setO 1 ok rfl (by first | exact Or.inl rfl | exact Or.inr rfl) se_dict0) (sss_cons (ss_for ok .never (si_val (se_p (sp_ix ix_seq opv_ix (sp_var 0) sp_int))) (sg_tup ok (sgs_cons (fixOk _) (sg_n 2 ok rfl (by first | exact Or.inl rfl | exact Or.inr rfl) fixSet) (sgs_cons (fixOk _) (sg_n 3 ok rfl (by first | exact Or.inl rfl | exact Or.inr rfl) fixSet) (sgs_cons (fixOk _) (sg_n 4 ok rfl (by first | exact Or.inl rfl | exact Or.inr rfl) fixSet) (sgs_cons (fixOk _) (sg_n 5 ok rfl (by first | exact Or.inl rfl | exact Or.inr rfl) fixSet) (sgs_cons (fixOk _) (sg_n 6 ok rfl (by first | exact Or.inl rfl | exact Or.inr rfl) fixSet) (sgs_nil (fixOk _))))))) (hl := (aCons_len (aCons_len (aCons_len (aCons_len (aCons_len aNil_len))))))) (sss_one (ss_if (set_val (se_p (sp_var 6))) (sss_one (ss_setIt 1 ok (se_p (sp_var 2)) (se_p (sp_var 5)))) sss_nil))) (sss_one (ss_ret (se_call c_draws hr (by decide) rfl (sas_v (se_p (sp_var 0)) (sas_v (se_fz (se_lst ses_nil)) (sas_v (se_fz (se_frz 1)) sas_nil))))))))
theorem c_least_of {f : Addr} {fd : FuncData} (F : C8.Def K mg "least_of" s_least_of f fd) (bi : Binds K fd ["curve"] []) (Z : Fr K mg) {C_Way : Addr} (co_Way : CO K mg "Way" C_Way fs_Way)  : C8.Cal P w K mg base 1 "least_of" (spF K mg 1 F_least_of) [] :=
  cal_sem F bi sc_least_of rfl rfl (by decide) fun cdv A outer s H E hr => by
    have ok := bodyOk (P := P) (w := w) (K := K) (mg := mg) (base := base) (qual := "least_of") (cdv := cdv) (A := A) (outer := outer) (s := s) (H := H) (E := E) sc_least_of hr
    exact (sss_one (ss_ret (se_p (sp_ix ix_seq opv_ix (sp_ix ix_seq opv_ix (sp_var 0) sp_int) sp_int))))
theorem c_awake {f : Addr} {fd : FuncData} (F : C8.Def K mg "awake" s_awake f fd) (bi : Binds K fd ["board", "found"] []) (Z : Fr K mg) {C_Way : Addr} (co_Way : CO K mg "Way" C_Way fs_Way) (c_least_of : C8.Cal P w K mg base 1 "least_of" (spF K mg 1 F_least_of) []) : C8.Cal P w K mg base 2 "awake" (spF K mg 2 F_awake) [] :=
  cal_sem F bi sc_awake rfl rfl (by decide) fun cdv A outer s H E hr => by
    have ok := bodyOk (P := P) (w := w) (K := K) (mg := mg) (base := base) (qual := "awake") (cdv := cdv) (A := A) (outer := outer) (s := s) (H := H) (E := E) sc_awake hr
    exact (sss_one (ss_ret (se_comp ok (si_val (se_p (sp_ix ix_seq opv_ix (sp_var 0) sp_int))) (blkOk_by (by first | rfl | decide +kernel)) (own := [("name", 2), ("under", 3), ("curve", 4), ("delay", 5), ("wait", 6)]) (fun _ _ _ _ _ => (sg_tup ok.blk (sgs_cons (wipOk _) (sg_n 2 ok.blk rfl (by first | exact Or.inl rfl | exact Or.inr rfl) wipSet) (sgs_cons (wipOk _) (sg_n 3 ok.blk rfl (by first | exact Or.inl rfl | exact Or.inr rfl) wipSet) (sgs_cons (wipOk _) (sg_n 4 ok.blk rfl (by first | exact Or.inl rfl | exact Or.inr rfl) wipSet) (sgs_cons (wipOk _) (sg_n 5 ok.blk rfl (by first | exact Or.inl rfl | exact Or.inr rfl) wipSet) (sgs_cons (wipOk _) (sg_n 6 ok.blk rfl (by first | exact Or.inl rfl | exact Or.inr rfl) wipSet) (sgs_nil (wipOk _))))))) (hl := (aCons_len (aCons_len (aCons_len (aCons_len (aCons_len aNil_len)))))))) (fun _ _ _ _ _ => (sets_one (set_cmp op_ge opv_ge (se_p (sp_ix (ix_F ok.blk) opv_ixF (sp_var 1) (sp_var 2))) (se_call c_least_of hr (by decide) rfl (sas_v (se_p (sp_var 4)) sas_nil)) rfl))) (fun _ _ _ _ _ => (se_p (sp_var 2))))))
theorem c_loud {f : Addr} {fd : FuncData} (F : C8.Def K mg "loud" s_loud f fd) (bi : Binds K fd ["board"] []) (Z : Fr K mg) {C_Way : Addr} (co_Way : CO K mg "Way" C_Way fs_Way) (c_rest : C8.Cal P w K mg base 4 "rest" (spF K mg 1 F_rest) []) (c_awake : C8.Cal P w K mg base 2 "awake" (spF K mg 2 F_awake) []) : C8.Cal P w K mg base 5 "loud" (spF K mg 1 F_loud) [] :=
  cal_sem F bi sc_loud rfl rfl (by decide) fun cdv A outer s H E hr => by
    have ok := bodyOk (P := P) (w := w) (K := K) (mg := mg) (base := base) (qual := "loud") (cdv := cdv) (A := A) (outer := outer) (s := s) (H := H) (E := E) sc_loud hr
    exact (sss_cons (ss_for ok .never (si_val (se_call c_awake hr (by decide) rfl (sas_v (se_p (sp_var 0)) (sas_v (se_fz (se_call c_rest hr (by decide) rfl (sas_v (se_p (sp_var 0)) sas_nil))) sas_nil)))) (sg_n 1 ok rfl (by first | exact Or.inl rfl | exact Or.inr rfl) fixSet) (sss_one (ss_ret (se_p (sp_var 1))))) (sss_one (ss_ret (se_p sp_non))))
theorem c_ask_quiet {f : Addr} {fd : FuncData} (F : C8.Def K mg "ask_quiet" s_ask_quiet f fd) (bi : Binds K fd ["board"] []) (Z : Fr K mg) {C_Way : Addr} (co_Way : CO K mg "Way" C_Way fs_Way) (c_loud : C8.Cal P w K mg base 5 "loud" (spF K mg 1 F_loud) []) : C8.Cal P w K mg base 6 "ask_quiet" (spF K mg 1 F_ask_quiet) [] :=
  cal_sem F bi sc_ask_quiet rfl rfl (by decide) fun cdv A outer s H E hr => by
    have ok := bodyOk (P := P) (w := w) (K := K) (mg := mg) (base := base) (qual := "ask_quiet") (cdv := cdv) (A := A) (outer := outer) (s := s) (H := H) (E := E) sc_ask_quiet hr
    exact (sss_cons (ss_setP 1 ok rfl (by first | exact Or.inl rfl | exact Or.inr rfl) (se_call c_loud hr (by decide) rfl (sas_v (se_p (sp_var 0)) sas_nil))) (sss_one (ss_if (set_cmpP op_notN opv_notN (sp_var 1) sp_non rfl) (sss_one ss_never) sss_nil)))
theorem c_is_off {f : Addr} {fd : FuncData} (F : C8.Def K mg "is_off" s_is_off f fd) (bi : Binds K fd ["board", "place"] []) (Z : Fr K mg) {C_Way : Addr} (co_Way : CO K mg "Way" C_Way fs_Way)  : C8.Cal P w K mg base 1 "is_off" (spF K mg 2 F_is_off) [] :=
  cal_sem F bi sc_is_off rfl rfl (by decide) fun cdv A outer s H E hr => by
    have ok := bodyOk (P := P) (w := w) (K := K) (mg := mg) (base := base) (qual := "is_off") (cdv := cdv) (A := A) (outer := outer) (s := s) (H := H) (E := E) sc_is_off hr
    exact (sss_one (ss_ret (se_b1 (cr_any ok.calm) unv_any rfl Z.n_any (by rfl) (se_comp ok (si_val (se_p (sp_ix ix_seq opv_ix (sp_var 0) sp_int))) (blkOk_by (by first | rfl | decide +kernel)) (own := [("load", 2)]) (fun _ _ _ _ _ => (sg_n 2 ok.blk rfl (by first | exact Or.inl rfl | exact Or.inr rfl) wipSet)) (fun _ _ _ _ _ => sets_nil) (fun _ _ _ _ _ => (se_and (se_p (sp_cmp (op_eqD ok.blk.u64) opv_eq (sp_ix ix_seq opv_ix (sp_var 2) sp_int) (sp_var 1) rfl)) (se_one (se_not (se_p (sp_ix ix_seq opv_ix (sp_var 2) sp_int))))))))))
theorem c_Way___init__ {f : Addr} {fd : FuncData} {C_Way : Addr} (co_Way : CO K mg "Way" C_Way fs_Way) (M : Mk K C_Way f) (F : C8.Fun K "__init__" "Way.__init__" s_Way___init__ f fd) (bi : Binds K fd ["self", "board", "place"] []) (Z : Fr K mg) (c_over : C8.Cal P w K mg base 2 "over" (spF K mg 2 F_over) []) (c_rest : C8.Cal P w K mg base 4 "rest" (spF K mg 1 F_rest) []) (c_ask_quiet : C8.Cal P w K mg base 6 "ask_quiet" (spF K mg 1 F_ask_quiet) []) (c_is_off : C8.Cal P w K mg base 1 "is_off" (spF K mg 2 F_is_off) []) : C8.Mak P w K mg base 7 "Way" C_Way (spF K mg 3 F_Way___init__) [] :=
  mak_sem M co_Way.mgc F bi sc_Way___init__ rfl rfl (by decide) fun cdv A outer s H E hr => by
    have ok := bodyOk (P := P) (w := w) (K := K) (mg := mg) (base := base) (qual := "Way.__init__") (cdv := cdv) (A := A) (outer := outer) (s := s) (H := H) (E := E) sc_Way___init__ hr
    exact (sss_cons (ss_setP 3 ok rfl (by first | exact Or.inl rfl | exact Or.inr rfl) (se_call c_over hr (by decide) rfl (sas_v (se_p (sp_var 1)) (sas_v (se_p (sp_var 2)) sas_nil)))) (sss_cons (ss_expr (se_call c_ask_quiet hr (by decide) rfl (sas_v (se_p (sp_var 1)) sas_nil))) (sss_cons (ss_setP 4 ok rfl (by first | exact Or.inl rfl | exact Or.inr rfl) (se_dictP ok rfl Z.n_dict (by rfl) (se_comp ok (si_val (se_p (sp_ix ix_seq opv_ix (sp_var 1) sp_int))) (blkOk_by (by first | rfl | decide +kernel)) (own := [("guard", 7)]) (fun _ _ _ _ _ => (sg_n 7 ok.blk rfl (by first | exact Or.inl rfl | exact Or.inr rfl) wipSet)) (fun _ _ _ _ _ => sets_nil) (fun _ _ _ _ _ => (se_p (sp_tup (sps_cons (sp_ix ix_seq opv_ix (sp_var 7) sp_int) (sps_cons (sp_var 7) sps_nil)))))))) (sss_cons (ss_setP 5 ok rfl (by first | exact Or.inl rfl | exact Or.inr rfl) (se_call c_rest hr (by decide) rfl (sas_v (se_p (sp_var 1)) sas_nil))) (sss_cons (ss_setF 0 co_Way (by decide +kernel) (se_call c_is_off hr (by decide) rfl (sas_v (se_p (sp_var 1)) (sas_v (se_p (sp_var 2)) sas_nil)))) (sss_cons (ss_setF 0 co_Way (by decide +kernel) (se_comp ok (si_val (se_p (sp_var 3))) (blkOk_by (by first | rfl | decide +kernel)) (own := [("name", 6)]) (fun _ _ _ _ _ => (sg_n 6 ok.blk rfl (by first | exact Or.inl rfl | exact Or.inr rfl) wipSet)) (fun _ _ _ _ _ => sets_nil) (fun _ _ _ _ _ => (se_p (sp_ix (ix_F ok.blk) opv_ixF (sp_var 4) (sp_var 6)))))) (sss_one (ss_setF 0 co_Way (by decide +kernel) (se_comp ok (si_val (se_p (sp_var 3))) (blkOk_by (by first | rfl | decide +kernel)) (own := [("name", 6)]) (fun _ _ _ _ _ => (sg_n 6 ok.blk rfl (by first | exact Or.inl rfl | exact Or.inr rfl) wipSet)) (fun _ _ _ _ _ => sets_nil) (fun _ _ _ _ _ => (se_p (sp_ix (ix_F ok.blk) opv_ixF (sp_var 5) (sp_var 6)))))))))))))
theorem c_stuck_list {f : Addr} {fd : FuncData} (F : C8.Def K mg "stuck_list" s_stuck_list f fd) (bi : Binds K fd ["stuck"] []) (Z : Fr K mg) {C_Way : Addr} (co_Way : CO K mg "Way" C_Way fs_Way)  : C8.Cal P w K mg base 1 "stuck_list" (spF K mg 1 F_stuck_list) [] :=
  cal_sem F bi sc_stuck_list rfl rfl (by decide) fun cdv A outer s H E hr => by
    have ok := bodyOk (P := P) (w := w) (K := K) (mg := mg) (base := base) (qual := "stuck_list") (cdv := cdv) (A := A) (outer := outer) (s := s) (H := H) (E := E) sc_stuck_list hr
    exact (sss_cons (ss_if (set_cmpP op_isN opv_isN (sp_var 0) sp_non rfl) (sss_one (ss_ret (se_lst ses_nil))) sss_nil) (sss_one (ss_ret (se_tw call_list_of unw_list rfl Z.n_list (by rfl) (sp_var 0)))))
theorem c_Way_lows {f : Addr} {fd : FuncData} {C_Way : Addr} (co_Way : CO K mg "Way" C_Way fs_Way) (me : Meth K C_Way "lows" f) (F : C8.Fun K "lows" "Way.lows" s_Way_lows f fd) (bi : Binds K fd ["self", "most"] []) (Z : Fr K mg)  : C8.Met P w K mg base 1 C_Way "lows" (spF K mg 2 F_Way_lows) [] :=
  met_sem co_Way.cl me F bi sc_Way_lows rfl rfl (by decide) fun cdv A outer s H E hr => by
    have ok := bodyOk (P := P) (w := w) (K := K) (mg := mg) (base := base) (qual := "Way.lows") (cdv := cdv) (A := A) (outer := outer) (s := s) (H := H) (E := E) sc_Way_lows hr
    exact (sss_cons (ss_setO 2 ok rfl (by first | exact Or.inl rfl | exact Or.inr rfl) (se_disp1 sp_int sp_bl)) (sss_cons (ss_for ok .never (si_zipM rfl Z.n_zip (se_p (sp_fldV co_Way (by decide +kernel) (sp_var 0))) (se_p (sp_fldV co_Way (by decide +kernel) (sp_var 0)))) (sg_tup ok (sgs_cons (fixOk _) (sg_n 3 ok rfl (by first | exact Or.inl rfl | exact Or.inr rfl) fixSet) (sgs_cons (fixOk _) (sg_n 4 ok rfl (by first | exact Or.inl rfl | exact Or.inr rfl) fixSet) (sgs_nil (fixOk _)))) (hl := (aCons_len (aCons_len aNil_len)))) (sss_one (ss_for ok .never (si_val (se_p (sp_ix ix_seq opv_ix (sp_var 3) sp_int))) (sg_n 5 ok rfl (by first | exact Or.inl rfl | exact Or.inr rfl) fixSet) (sss_one (ss_if (set_cmpP op_le opv_le (sp_bin op_sub opv_sub (sp_ix ix_seq opv_ix (sp_var 5) sp_int) (sp_var 4)) (sp_var 1) rfl) (sss_one (ss_setIt 2 ok (se_p (sp_bin op_sub opv_sub (sp_ix ix_seq opv_ix (sp_var 5) sp_int) (sp_var 4))) (se_p sp_bl))) sss_nil))))) (sss_one (ss_ret (se_p (sp_b1 cr_sortedI unv_sorted rfl Z.n_sorted (by rfl) (sp_t1 (call_listD ok.calm) unv_listK rfl Z.n_list (by rfl) (sp_var 2))))))))
theorem c_met {f : Addr} {fd : FuncData} (F : C8.Def K mg "met" s_met f fd) (bi : Binds K fd ["curve", "draw"] []) (Z : Fr K mg) {C_Way : Addr} (co_Way : CO K mg "Way" C_Way fs_Way)  : C8.Cal P w K mg base 1 "met" (spF K mg 2 F_met) [] :=
  cal_sem F bi sc_met rfl rfl (by decide) fun cdv A outer s H E hr => by
    have ok := bodyOk (P := P) (w := w) (K := K) (mg := mg) (base := base) (qual := "met") (cdv := cdv) (A := A) (outer := outer) (s := s) (H := H) (E := E) sc_met hr
    exact (sss_one (ss_ret (se_b1 call_lenF unv_len rfl Z.n_len (by rfl) (se_comp ok (si_val (se_p (sp_var 0))) (blkOk_by (by first | rfl | decide +kernel)) (own := [("step", 2)]) (fun _ _ _ _ _ => (sg_n 2 ok.blk rfl (by first | exact Or.inl rfl | exact Or.inr rfl) wipSet)) (fun _ _ _ _ _ => (sets_one (set_cmpP op_le opv_le (sp_ix ix_seq opv_ix (sp_var 2) sp_int) (sp_var 1) rfl))) (fun _ _ _ _ _ => (se_p (sp_var 2)))))))
theorem c_turns_at {f : Addr} {fd : FuncData} (F : C8.Def K mg "turns_at" s_turns_at f fd) (bi : Binds K fd ["curve", "draw"] []) (Z : Fr K mg) {C_Way : Addr} (co_Way : CO K mg "Way" C_Way fs_Way) (c_met : C8.Cal P w K mg base 1 "met" (spF K mg 2 F_met) []) : C8.Cal P w K mg base 2 "turns_at" (spF K mg 2 F_turns_at) [] :=
  cal_sem F bi sc_turns_at rfl rfl (by decide) fun cdv A outer s H E hr => by
    have ok := bodyOk (P := P) (w := w) (K := K) (mg := mg) (base := base) (qual := "turns_at") (cdv := cdv) (A := A) (outer := outer) (s := s) (H := H) (E := E) sc_turns_at hr
    exact (sss_cons (ss_setP 2 ok rfl (by first | exact Or.inl rfl | exact Or.inr rfl) (se_call c_met hr (by decide) rfl (sas_v (se_p (sp_var 0)) (sas_v (se_p (sp_var 1)) sas_nil)))) (sss_cons (ss_if (set_cmpP (op_eqD ok.u64) opv_eq (sp_var 2) sp_int rfl) (sss_one (ss_ret (se_p sp_non))) sss_nil) (sss_one (ss_ret (se_p (sp_ix ix_seq opv_ix (sp_ix ix_seq opv_ix (sp_var 0) (sp_bin op_sub opv_sub (sp_var 2) sp_int)) sp_int))))))
theorem c_Way_turns {f : Addr} {fd : FuncData} {C_Way : Addr} (co_Way : CO K mg "Way" C_Way fs_Way) (me : Meth K C_Way "turns" f) (F : C8.Fun K "turns" "Way.turns" s_Way_turns f fd) (bi : Binds K fd ["self", "at", "greatness"] []) (Z : Fr K mg) (c_turns_at : C8.Cal P w K mg base 2 "turns_at" (spF K mg 2 F_turns_at) []) : C8.Met P w K mg base 3 C_Way "turns" (spF K mg 3 F_Way_turns) [] :=
  met_sem co_Way.cl me F bi sc_Way_turns rfl rfl (by decide) fun cdv A outer s H E hr => by
    have ok := bodyOk (P := P) (w := w) (K := K) (mg := mg) (base := base) (qual := "Way.turns") (cdv := cdv) (A := A) (outer := outer) (s := s) (H := H) (E := E) sc_Way_turns hr
    exact (sss_one (ss_ret (se_call c_turns_at hr (by decide) rfl (sas_v (se_p (sp_ix ix_seq opv_ix (sp_ix ix_seq opv_ix (sp_fldV co_Way (by decide +kernel) (sp_var 0)) (sp_var 1)) sp_int)) (sas_v (se_p (sp_bin op_addF opv_add (sp_ix ix_seq opv_ix (sp_fldV co_Way (by decide +kernel) (sp_var 0)) (sp_var 1)) (sp_var 2))) sas_nil)))))
theorem c_Way_is_held {f : Addr} {fd : FuncData} {C_Way : Addr} (co_Way : CO K mg "Way" C_Way fs_Way) (me : Meth K C_Way "is_held" f) (F : C8.Fun K "is_held" "Way.is_held" s_Way_is_held f fd) (bi : Binds K fd ["self", "at", "greatness"] []) (Z : Fr K mg) (c_Way_turns : C8.Met P w K mg base 3 C_Way "turns" (spF K mg 3 F_Way_turns) []) : C8.Met P w K mg base 4 C_Way "is_held" (spF K mg 3 F_Way_is_held) [] :=
  met_sem co_Way.cl me F bi sc_Way_is_held rfl rfl (by decide) fun cdv A outer s H E hr => by
    have ok := bodyOk (P := P) (w := w) (K := K) (mg := mg) (base := base) (qual := "Way.is_held") (cdv := cdv) (A := A) (outer := outer) (s := s) (H := H) (E := E) sc_Way_is_held hr
    exact (sss_one (ss_ret (se_and (se_p (sp_cmp op_gt opv_gt (sp_var 1) sp_int rfl)) (se_one (se_cmp op_notN opv_notN (se_methV co_Way c_Way_turns hr (by decide) (se_p (sp_var 0)) (sas_v (se_p (sp_bin op_sub opv_sub (sp_var 1) sp_int)) (sas_v (se_p (sp_var 2)) sas_nil))) (se_p sp_non) rfl)))))
theorem c_Way_opening {f : Addr} {fd : FuncData} {C_Way : Addr} (co_Way : CO K mg "Way" C_Way fs_Way) (me : Meth K C_Way "opening" f) (F : C8.Fun K "opening" "Way.opening" s_Way_opening f fd) (bi : Binds K fd ["self", "greatness", "stuck"] []) (Z : Fr K mg) (c_Way_turns : C8.Met P w K mg base 3 C_Way "turns" (spF K mg 3 F_Way_turns) []) (c_Way_is_held : C8.Met P w K mg base 4 C_Way "is_held" (spF K mg 3 F_Way_is_held) []) : C8.Met P w K mg base 5 C_Way "opening" (spF K mg 3 F_Way_opening) [] :=
  met_sem co_Way.cl me F bi sc_Way_opening rfl rfl (by decide) fun cdv A outer s H E hr => by
    have ok := bodyOk (P := P) (w := w) (K := K) (mg := mg) (base := base) (qual := "Way.opening") (cdv := cdv) (A := A) (outer := outer) (s := s) (H := H) (E := E) sc_Way_opening hr
    exact (sss_cons (ss_setP 3 ok rfl (by first | exact Or.inl rfl | exact Or.inr rfl) (se_p sp_non)) (sss_cons (ss_setP 4 ok rfl (by first | exact Or.inl rfl | exact Or.inr rfl) (se_lst ses_nil)) (sss_cons (ss_for ok .never (si_enum rfl Z.n_enumerate (se_p (sp_fldV co_Way (by decide +kernel) (sp_var 0)))) (sg_tup ok (sgs_cons (fixOk _) (sg_n 5 ok rfl (by first | exact Or.inl rfl | exact Or.inr rfl) fixSet) (sgs_cons (fixOk _) (sg_n 6 ok rfl (by first | exact Or.inl rfl | exact Or.inr rfl) fixSet) (sgs_nil (fixOk _)))) (hl := (aCons_len (aCons_len aNil_len)))) (sss_cons (ss_setP 7 ok rfl (by first | exact Or.inl rfl | exact Or.inr rfl) (se_methV co_Way c_Way_turns hr (by decide) (se_p (sp_var 0)) (sas_v (se_p (sp_var 5)) (sas_v (se_p (sp_var 1)) sas_nil)))) (sss_cons (ss_if (sew_t (sew_or (set_cmpP op_isN opv_isN (sp_var 7) sp_non rfl) (sew_or (set_cmpP (op_inF ok) opv_in (sp_ix ix_seq opv_ix (sp_var 6) sp_int) (sp_var 2) rfl) (sew_or (set_cmpP (op_eqD ok.u64) opv_eq (sp_var 1) sp_int rfl) (sew_or1 (set_val (se_p (sp_fldV co_Way (by decide +kernel) (sp_var 0))))))))) (sss_one ss_cont) sss_nil) (sss_cons (ss_setP 8 ok rfl (by first | exact Or.inl rfl | exact Or.inr rfl) (se_p (sp_bin op_sub opv_sub (sp_bin op_addF opv_add (sp_var 7) (sp_ix ix_seq opv_ix (sp_var 6) sp_int)) sp_int))) (sss_cons (ss_if (set_val (se_methV co_Way c_Way_is_held hr (by decide) (se_p (sp_var 0)) (sas_v (se_p (sp_var 5)) (sas_v (se_p (sp_var 1)) sas_nil)))) (sss_one (ss_setP 8 ok rfl (by first | exact Or.inl rfl | exact Or.inr rfl) (se_p (sp_bin op_addF opv_add (sp_var 8) (sp_ix ix_seq opv_ix (sp_var 6) sp_int))))) sss_nil) (sss_cons (ss_if (sew_t (sew_or (set_cmpP op_isN opv_isN (sp_var 3) sp_non rfl) (sew_or1 (set_cmpP op_lt opv_lt (sp_var 8) (sp_var 3) rfl)))) (sss_cons (ss_setP 3 ok rfl (by first | exact Or.inl rfl | exact Or.inr rfl) (se_p (sp_var 8))) (sss_one (ss_setP 4 ok rfl (by first | exact Or.inl rfl | exact Or.inr rfl) (se_lst ses_nil)))) sss_nil) (sss_one (ss_if (set_cmpP (op_eqD ok.u64) opv_eq (sp_var 8) (sp_var 3) rfl) (sss_one (ss_setP 4 ok rfl (by first | exact Or.inl rfl | exact Or.inr rfl) (se_p (sp_bin op_addF opv_add (sp_lst (sps_cons (sp_ix ix_seq opv_ix (sp_var 6) sp_int) sps_nil)) (sp_var 4))))) sss_nil)))))))) (sss_cons (ss_if (set_cmpP op_isN opv_isN (sp_var 3) sp_non rfl) (sss_one (ss_ret (se_p sp_non))) sss_nil) (sss_one (ss_ret (se_p (sp_tup (sps_cons (sp_var 3) (sps_cons (sp_t1 call_tuple_of unv_tup rfl Z.n_tuple (by rfl) (sp_var 4)) sps_nil))))))))))
theorem c_map_of {f : Addr} {fd : FuncData} (F : C8.Def K mg "map_of" s_map_of f fd) (bi : Binds K fd ["board", "place", "most", "stuck"] []) (Z : Fr K mg) {C_Way : Addr} (co_Way : CO K mg "Way" C_Way fs_Way) (c_Way___init__ : C8.Mak P w K mg base 7 "Way" C_Way (spF K mg 3 F_Way___init__) []) (c_stuck_list : C8.Cal P w K mg base 1 "stuck_list" (spF K mg 1 F_stuck_list) []) (c_Way_lows : C8.Met P w K mg base 1 C_Way "lows" (spF K mg 2 F_Way_lows) []) (c_Way_opening : C8.Met P w K mg base 5 C_Way "opening" (spF K mg 3 F_Way_opening) []) : C8.Cal P w K mg base 9 "map_of" (spF K mg 4 F_map_of) [] :=
  cal_sem F bi sc_map_of rfl rfl (by decide) fun cdv A outer s H E hr => by
    have ok := bodyOk (P := P) (w := w) (K := K) (mg := mg) (base := base) (qual := "map_of") (cdv := cdv) (A := A) (outer := outer) (s := s) (H := H) (E := E) sc_map_of hr
    exact (sss_cons (ss_setP 4 ok rfl (by first | exact Or.inl rfl | exact Or.inr rfl) (se_make co_Way c_Way___init__ hr (by decide) rfl (sas_v (se_p (sp_var 0)) (sas_v (se_p (sp_var 1)) sas_nil)))) (sss_cons (ss_setP 5 ok rfl (by first | exact Or.inl rfl | exact Or.inr rfl) (se_call c_stuck_list hr (by decide) rfl (sas_v (se_p (sp_var 3)) sas_nil))) (sss_cons (ss_setO 6 ok rfl (by first | exact Or.inl rfl | exact Or.inr rfl) (se_lst ses_nil)) (sss_cons (ss_setP 7 ok rfl (by first | exact Or.inl rfl | exact Or.inr rfl) (se_methV co_Way c_Way_lows hr (by decide) (se_p (sp_var 4)) (sas_v (se_p (sp_var 2)) sas_nil))) (sss_cons (ss_for ok .never (si_zipM rfl Z.n_zip (se_p (sp_var 7)) (se_p (sp_bin op_addF opv_add (sp_sl (sp_var 7) (spo_some sp_int) spo_none) (sp_lst (sps_cons (sp_bin op_addF opv_add (sp_var 2) sp_int) sps_nil))))) (sg_tup ok (sgs_cons (fixOk _) (sg_n 8 ok rfl (by first | exact Or.inl rfl | exact Or.inr rfl) fixSet) (sgs_cons (fixOk _) (sg_n 9 ok rfl (by first | exact Or.inl rfl | exact Or.inr rfl) fixSet) (sgs_nil (fixOk _)))) (hl := (aCons_len (aCons_len aNil_len)))) (sss_cons (ss_setP 10 ok rfl (by first | exact Or.inl rfl | exact Or.inr rfl) (se_methV co_Way c_Way_opening hr (by decide) (se_p (sp_var 4)) (sas_v (se_p (sp_var 8)) (sas_v (se_p (sp_var 5)) sas_nil)))) (sss_one (ss_if (sew_t (sew_and (set_cmpP (op_neD ok.u64) opv_ne (sp_var 6) (sp_lst sps_nil) rfl) (sew_and1 (set_cmpP (op_eqD ok.u64) opv_eq (sp_ix ix_seq opv_ix (sp_ix ix_seq opv_ix (sp_var 6) (sp_un un_neg unv_neg sp_int)) sp_int) (sp_var 10) rfl)))) (sss_one (ss_setIt 6 ok (se_p (sp_un un_neg unv_neg sp_int)) (se_p (sp_tup (sps_cons (sp_ix ix_seq opv_ix (sp_ix ix_seq opv_ix (sp_var 6) (sp_un un_neg unv_neg sp_int)) sp_int) (sps_cons (sp_bin op_sub opv_sub (sp_var 9) sp_int) (sps_cons (sp_var 10) sps_nil))))))) (sss_one (ss_expr (se_append 6 (se_p (sp_tup (sps_cons (sp_var 8) (sps_cons (sp_bin op_sub opv_sub (sp_var 9) sp_int) (sps_cons (sp_var 10) sps_nil)))))))))))) (sss_one (ss_ret (se_move 6))))))))
theorem c_nearest {f : Addr} {fd : FuncData} (F : C8.Def K mg "nearest" s_nearest f fd) (bi : Binds K fd ["way", "some"] []) (Z : Fr K mg) {C_Way : Addr} (co_Way : CO K mg "Way" C_Way fs_Way)  : C8.Cal P w K mg base 1 "nearest" (spF K mg 2 F_nearest) [] :=
  cal_sem F bi sc_nearest rfl rfl (by decide) fun cdv A outer s H E hr => by
    have ok := bodyOk (P := P) (w := w) (K := K) (mg := mg) (base := base) (qual := "nearest") (cdv := cdv) (A := A) (outer := outer) (s := s) (H := H) (E := E) sc_nearest hr
    exact (sss_cons (ss_for ok .never (si_val (se_p (sp_fldV co_Way (by decide +kernel) (sp_var 0)))) (sg_n 2 ok rfl (by first | exact Or.inl rfl | exact Or.inr rfl) fixSet) (sss_one (ss_if (set_cmpP (op_ninF ok) opv_nin (sp_ix ix_seq opv_ix (sp_var 2) sp_int) (sp_var 1) rfl) (sss_one (ss_ret (se_p (sp_tup (sps_cons (sp_ix ix_seq opv_ix (sp_var 2) sp_int) sps_nil))))) sss_nil))) (sss_one (ss_ret (se_p (sp_tup sps_nil)))))
theorem c_unparted {f : Addr} {fd : FuncData} (F : C8.Def K mg "unparted" s_unparted f fd) (bi : Binds K fd ["board", "place", "most", "stuck"] []) (Z : Fr K mg) {C_Way : Addr} (co_Way : CO K mg "Way" C_Way fs_Way) (c_Way___init__ : C8.Mak P w K mg base 7 "Way" C_Way (spF K mg 3 F_Way___init__) []) (c_stuck_list : C8.Cal P w K mg base 1 "stuck_list" (spF K mg 1 F_stuck_list) []) (c_map_of : C8.Cal P w K mg base 9 "map_of" (spF K mg 4 F_map_of) []) (c_nearest : C8.Cal P w K mg base 1 "nearest" (spF K mg 2 F_nearest) []) : C8.Cal P w K mg base 10 "unparted" (spF K mg 4 F_unparted) [] :=
  cal_sem F bi sc_unparted rfl rfl (by decide) fun cdv A outer s H E hr => by
    have ok := bodyOk (P := P) (w := w) (K := K) (mg := mg) (base := base) (qual := "unparted") (cdv := cdv) (A := A) (outer := outer) (s := s) (H := H) (E := E) sc_unparted hr
    exact (sss_cons (ss_setP 4 ok rfl (by first | exact Or.inl rfl | exact Or.inr rfl) (se_call c_nearest hr (by decide) rfl (sas_v (se_fz (se_make co_Way c_Way___init__ hr (by decide) rfl (sas_v (se_p (sp_var 0)) (sas_v (se_p (sp_var 1)) sas_nil)))) (sas_v (se_fz (se_call c_stuck_list hr (by decide) rfl (sas_v (se_p (sp_var 3)) sas_nil))) sas_nil)))) (sss_cons (ss_for ok .never (si_val (se_call c_map_of hr (by decide) rfl (sas_v (se_p (sp_var 0)) (sas_v (se_p (sp_var 1)) (sas_v (se_p (sp_var 2)) (sas_v (se_p (sp_var 3)) sas_nil)))))) (sg_tup ok (sgs_cons (fixOk _) (sg_n 5 ok rfl (by first | exact Or.inl rfl | exact Or.inr rfl) fixSet) (sgs_cons (fixOk _) (sg_n 6 ok rfl (by first | exact Or.inl rfl | exact Or.inr rfl) fixSet) (sgs_cons (fixOk _) (sg_n 7 ok rfl (by first | exact Or.inl rfl | exact Or.inr rfl) fixSet) (sgs_nil (fixOk _))))) (hl := (aCons_len (aCons_len (aCons_len aNil_len))))) (sss_one (ss_if (sew_t (sew_and (set_cmpP op_notN opv_notN (sp_var 7) sp_non rfl) (sew_and1 (set_cmpP (op_neD ok.u64) opv_ne (sp_ix ix_seq opv_ix (sp_var 7) sp_int) (sp_var 4) rfl)))) (sss_one (ss_ret (se_p (sp_tup (sps_cons (sp_var 5) (sps_cons (sp_ix ix_seq opv_ix (sp_var 7) sp_int) sps_nil)))))) sss_nil))) (sss_one (ss_ret (se_p sp_non)))))
theorem c_parted {f : Addr} {fd : FuncData} (F : C8.Def K mg "parted" s_parted f fd) (bi : Binds K fd ["board", "most", "stuck"] []) (Z : Fr K mg) {C_Way : Addr} (co_Way : CO K mg "Way" C_Way fs_Way) (c_guards_of : C8.Cal P w K mg base 1 "guards_of" (spF K mg 1 F_guards_of) []) (c_loads_of : C8.Cal P w K mg base 1 "loads_of" (spF K mg 1 F_loads_of) []) (c_ask_quiet : C8.Cal P w K mg base 6 "ask_quiet" (spF K mg 1 F_ask_quiet) []) (c_unparted : C8.Cal P w K mg base 10 "unparted" (spF K mg 4 F_unparted) []) : C8.Cal P w K mg base 11 "parted" (spF K mg 3 F_parted) [] :=
  cal_sem F bi sc_parted rfl rfl (by decide) fun cdv A outer s H E hr => by
    have ok := bodyOk (P := P) (w := w) (K := K) (mg := mg) (base := base) (qual := "parted") (cdv := cdv) (A := A) (outer := outer) (s := s) (H := H) (E := E) sc_parted hr
    exact (sss_cons (ss_expr (se_call c_ask_quiet hr (by decide) rfl (sas_v (se_p (sp_var 0)) sas_nil))) (sss_cons (ss_for ok .never (si_val (se_bin op_addF opv_add (se_call c_guards_of hr (by decide) rfl (sas_v (se_p (sp_var 0)) sas_nil)) (se_call c_loads_of hr (by decide) rfl (sas_v (se_p (sp_var 0)) sas_nil)))) (sg_n 3 ok rfl (by first | exact Or.inl rfl | exact Or.inr rfl) fixSet) (sss_cons (ss_setP 4 ok rfl (by first | exact Or.inl rfl | exact Or.inr rfl) (se_call c_unparted hr (by decide) rfl (sas_v (se_p (sp_var 0)) (sas_v (se_p (sp_var 3)) (sas_v (se_p (sp_var 1)) (sas_v (se_p (sp_var 2)) sas_nil)))))) (sss_one (ss_if (set_cmpP op_notN opv_notN (sp_var 4) sp_non rfl) (sss_one (ss_ret (se_p (sp_tup (sps_cons (sp_var 3) (sps_cons (sp_ix ix_seq opv_ix (sp_var 4) sp_int) (sps_cons (sp_ix ix_seq opv_ix (sp_var 4) sp_int) sps_nil))))))) sss_nil)))) (sss_one (ss_ret (se_p sp_non)))))
theorem c__law_cell_at {f : Addr} {fd : FuncData} (F : C8.Def K mg "_law_cell_at" s__law_cell_at f fd) (bi : Binds K fd ["_law_script", "_law_k"] []) (Z : Fr K mg) {C_Way : Addr} (co_Way : CO K mg "Way" C_Way fs_Way)  : C8.Cal P w K mg base 1 "_law_cell_at" (spF K mg 2 F__law_cell_at) [] :=
  cal_sem F bi sc__law_cell_at rfl rfl (by decide) fun cdv A outer s H E hr => by
    have ok := bodyOk (P := P) (w := w) (K := K) (mg := mg) (base := base) (qual := "_law_cell_at") (cdv := cdv) (A := A) (outer := outer) (s := s) (H := H) (E := E) sc__law_cell_at hr
    exact (sss_cons (ss_if (set_cmpP op_lt opv_lt (sp_var 1) (sp_b1 call_lenF unv_len rfl Z.n_len (by rfl) (sp_var 0)) rfl) (sss_one (ss_ret (se_p (sp_ix ix_seq opv_ix (sp_var 0) (sp_var 1))))) sss_nil) (sss_one (ss_ret (se_p sp_int))))
theorem c__law_feed {f : Addr} {fd : FuncData} (F : C8.Def K mg "_law_feed" s__law_feed f fd) (bi : Binds K fd ["_law_script", "_law_k"] []) (Z : Fr K mg) {C_Way : Addr} (co_Way : CO K mg "Way" C_Way fs_Way) (c__law_cell_at : C8.Cal P w K mg base 1 "_law_cell_at" (spF K mg 2 F__law_cell_at) []) : C8.Cal P w K mg base 2 "_law_feed" (spF K mg 2 F__law_feed) [] :=
  cal_sem F bi sc__law_feed rfl rfl (by decide) fun cdv A outer s H E hr => by
    have ok := bodyOk (P := P) (w := w) (K := K) (mg := mg) (base := base) (qual := "_law_feed") (cdv := cdv) (A := A) (outer := outer) (s := s) (H := H) (E := E) sc__law_feed hr
    exact (sss_cons (ss_setP 2 ok rfl (by first | exact Or.inl rfl | exact Or.inr rfl) (se_call c__law_cell_at hr (by decide) rfl (sas_v (se_p (sp_var 0)) (sas_v (se_p (sp_var 1)) sas_nil)))) (sss_one (ss_ret (se_lst (ses_cons (se_p (sp_var 2)) (ses_cons (se_p (sp_var 2)) (ses_cons (se_p (sp_bin op_mulF opv_mul sp_int (sp_var 1))) ses_nil)))))))
theorem c__law_take {f : Addr} {fd : FuncData} (F : C8.Def K mg "_law_take" s__law_take f fd) (bi : Binds K fd ["_law_feed_here", "_law_many"] []) (Z : Fr K mg) {C_Way : Addr} (co_Way : CO K mg "Way" C_Way fs_Way)  : C8.Cal P w K mg base 1 "_law_take" (spF K mg 2 F__law_take) [] :=
  cal_sem F bi sc__law_take rfl rfl (by decide) fun cdv A outer s H E hr => by
    have ok := bodyOk (P := P) (w := w) (K := K) (mg := mg) (base := base) (qual := "_law_take") (cdv := cdv) (A := A) (outer := outer) (s := s) (H := H) (E := E) sc__law_take hr
    exact (sss_cons (ss_setIt 0 ok (se_p sp_int) (se_p (sp_bin op_addF opv_add (sp_ix ix_seq opv_ix (sp_var 0) sp_int) sp_int))) (sss_cons (ss_if (sew_t (sew_and (set_cmpP op_ge opv_ge (sp_ix ix_seq opv_ix (sp_var 0) sp_int) (sp_bin op_pow opv_pow sp_int sp_int) rfl) (sew_and1 (set_cmpP op_gt opv_gt (sp_ix ix_seq opv_ix (sp_var 0) sp_int) sp_int rfl)))) (sss_cons (ss_setP 3 ok rfl (by first | exact Or.inl rfl | exact Or.inr rfl) (se_p (sp_bin op_mod opv_mod (sp_ix ix_seq opv_ix (sp_var 0) sp_int) (sp_var 1)))) (sss_cons (ss_setIt 0 ok (se_p sp_int) (se_p (sp_bin op_fdivW opv_fdiv (sp_ix ix_seq opv_ix (sp_var 0) sp_int) (sp_var 1)))) (sss_one (ss_ret (se_p (sp_var 3)))))) sss_nil) (sss_cons (ss_setP 2 ok rfl (by first | exact Or.inl rfl | exact Or.inr rfl) (se_p (sp_bin op_addF opv_add (sp_bin op_mulF opv_mul (sp_bin op_mod opv_mod (sp_ix ix_seq opv_ix (sp_var 0) sp_int) sp_int) sp_int) (sp_bin op_mulF opv_mul sp_int (sp_ix ix_seq opv_ix (sp_var 0) sp_int))))) (sss_cons (ss_setP 2 ok rfl (by first | exact Or.inl rfl | exact Or.inr rfl) (se_p (sp_bin op_mod opv_mod (sp_bin op_addF opv_add (sp_bin op_addF opv_add (sp_var 2) (sp_bin op_mulF opv_mul (sp_bin op_mulF opv_mul (sp_ix ix_seq opv_ix (sp_var 0) sp_int) (sp_ix ix_seq opv_ix (sp_var 0) sp_int)) sp_int)) sp_int) sp_int))) (sss_one (ss_ret (se_p (sp_bin op_mod opv_mod (sp_bin op_fdivW opv_fdiv (sp_bin op_mod opv_mod (sp_bin op_mulF opv_mul (sp_var 2) (sp_bin op_addF opv_add (sp_bin op_mod opv_mod (sp_var 2) sp_int) sp_int)) sp_int) sp_int) (sp_var 1)))))))))
theorem c__law_names {f : Addr} {fd : FuncData} (F : C8.Def K mg "_law_names" s__law_names f fd) (bi : Binds K fd ["_law_feed_here", "_law_many"] []) (Z : Fr K mg) {C_Way : Addr} (co_Way : CO K mg "Way" C_Way fs_Way) (c__law_take : C8.Cal P w K mg base 1 "_law_take" (spF K mg 2 F__law_take) []) : C8.Cal P w K mg base 2 "_law_names" (spF K mg 2 F__law_names) [] :=
  cal_sem F bi sc__law_names rfl rfl (by decide) fun cdv A outer s H E hr => by
    have ok := bodyOk (P := P) (w := w) (K := K) (mg := mg) (base := base) (qual := "_law_names") (cdv := cdv) (A := A) (outer := outer) (s := s) (H := H) (E := E) sc__law_names hr
    exact (sss_cons (ss_setP 2 ok rfl (by first | exact Or.inl rfl | exact Or.inr rfl) (se_p sp_str)) (sss_cons (ss_setP 3 ok rfl (by first | exact Or.inl rfl | exact Or.inr rfl) (se_call c__law_take hr (by decide) rfl (sas_io 0 (sas_v (se_p sp_int) sas_nil)))) (sss_cons (ss_if (set_cmp (op_eqD ok.u64) opv_eq (se_call c__law_take hr (by decide) rfl (sas_io 0 (sas_v (se_p sp_int) sas_nil))) (se_p sp_int) rfl) (sss_one (ss_setLcO 5 ok rfl rfl (sw_true rfl rfl rfl rfl) (si_range1 rfl Z.n_range (se_p (sp_var 1))) (blkOk_by (by first | rfl | decide +kernel)) (own := [("_law_k", 11)]) (fun _ _ _ _ _ => (sg_n 11 ok.blk rfl (by first | exact Or.inl rfl | exact Or.inr rfl) wipSet)) (fun _ _ _ _ _ => sets_nil) (fun _ _ _ _ _ => (se_p (sp_bin op_mulF opv_mul (sp_ix ix_seq opv_ix (sp_var 2) (sp_bin op_mod opv_mod (sp_bin op_addF opv_add (sp_var 3) (sp_var 11)) sp_int)) (sp_bin op_addF opv_add sp_int (sp_bin op_fdivW opv_fdiv (sp_var 11) sp_int))))))) (sss_cons (ss_setP 6 ok rfl (by first | exact Or.inl rfl | exact Or.inr rfl) (se_bin op_addF opv_add (se_p sp_int) (se_call c__law_take hr (by decide) rfl (sas_io 0 (sas_v (se_p sp_int) sas_nil))))) (sss_cons (ss_setLcP 7 ok rfl rfl (sw_true rfl rfl rfl rfl) (si_range1 rfl Z.n_range (se_p (sp_var 6))) (blkOk_by (by first | rfl | decide +kernel)) (own := [("_law_k", 11)]) (fun _ _ _ _ _ => (sg_n 11 ok.blk rfl (by first | exact Or.inl rfl | exact Or.inr rfl) wipSet)) (fun _ _ _ _ _ => sets_nil) (fun _ _ _ _ _ => (se_call c__law_take hr (by decide) rfl (sas_io 0 (sas_v (se_p sp_int) sas_nil))))) (sss_cons (ss_setP 8 ok rfl (by first | exact Or.inl rfl | exact Or.inr rfl) (se_call c__law_take hr (by decide) rfl (sas_io 0 (sas_v (se_p (sp_var 6)) sas_nil)))) (sss_cons (ss_setP 9 ok rfl (by first | exact Or.inl rfl | exact Or.inr rfl) (se_bin op_mod opv_mod (se_bin op_addF opv_add (se_p (sp_bin op_addF opv_add (sp_var 8) sp_int)) (se_call c__law_take hr (by decide) rfl (sas_io 0 (sas_v (se_p (sp_bin op_sub opv_sub (sp_var 6) sp_int)) sas_nil)))) (se_p (sp_var 6)))) (sss_cons (ss_setP 10 ok rfl (by first | exact Or.inl rfl | exact Or.inr rfl) (se_bin op_mulF opv_mul (se_call c__law_take hr (by decide) rfl (sas_io 0 (sas_v (se_p sp_int) sas_nil))) (se_p (sp_t1 call_int1 unv_int rfl Z.n_int (by rfl) (sp_cmp op_lt opv_lt (sp_var 6) sp_int rfl))))) (sss_cons (ss_setO 5 ok rfl (by first | exact Or.inl rfl | exact Or.inr rfl) (se_lst ses_nil)) (sss_one (ss_for ok .never (si_range1 rfl Z.n_range (se_p (sp_var 1))) (sg_n 11 ok rfl (by first | exact Or.inl rfl | exact Or.inr rfl) fixSet) (sss_cons (ss_setO 12 ok rfl (by first | exact Or.inl rfl | exact Or.inr rfl) (se_tw call_list_of unw_list rfl Z.n_list (by rfl) (sp_var 7))) (sss_cons (ss_setIt 12 ok (se_p (sp_var 8)) (se_p (sp_bin op_mod opv_mod (sp_bin op_addF opv_add (sp_ix ix_seq opv_ix (sp_var 7) (sp_var 8)) (sp_var 11)) sp_int))) (sss_cons (ss_setIt 12 ok (se_p (sp_var 9)) (se_p (sp_bin op_mod opv_mod (sp_bin op_addF opv_add (sp_ix ix_seq opv_ix (sp_var 7) (sp_var 9)) (sp_bin op_fdivW opv_fdiv (sp_var 11) sp_int)) sp_int))) (sss_one (ss_expr (se_append 5 (se_bin op_addF opv_add (se_join (se_compG ok (si_lstN 12) (blkOk_by (by first | rfl | decide +kernel)) (own := [("_law_one", 13)]) (fun _ _ _ _ _ => (sg_n 13 ok.blk rfl (by first | exact Or.inl rfl | exact Or.inr rfl) wipSet)) (fun _ _ _ _ _ => sets_nil) (fun _ _ _ _ _ => (se_p (sp_ix ix_seq opv_ix (sp_var 2) (sp_var 13)))))) (se_p (sp_bin op_mulF opv_mul (sp_ix ix_seq opv_ix (sp_var 2) (sp_var 3)) (sp_bin op_mulF opv_mul (sp_var 10) (sp_bin op_mod opv_mod (sp_var 11) sp_int)))))))))))))))))))) (sss_cons (ss_setP 4 ok rfl (by first | exact Or.inl rfl | exact Or.inr rfl) (se_ix ix_seq opv_ix (se_lst (ses_cons (se_p sp_str) (ses_cons (se_p sp_str) (ses_cons (se_p sp_str) (ses_cons (se_p sp_str) (ses_cons (se_p sp_str) (ses_cons (se_p sp_str) (ses_cons (se_p sp_str) (ses_cons (se_p sp_str) (ses_cons (se_p sp_str) (ses_cons (se_p sp_str) (ses_cons (se_p sp_str) ses_nil)))))))))))) (se_call c__law_take hr (by decide) rfl (sas_io 0 (sas_v (se_p sp_int) sas_nil))))) (sss_cons (ss_if (sew_t (sew_and (set_cmpP (op_neD ok.u64) opv_ne (sp_var 4) sp_str rfl) (sew_and1 (set_cmpP (op_ninF ok) opv_nin (sp_var 4) (sp_var 5) rfl)))) (sss_one (ss_setIt 5 ok (se_call c__law_take hr (by decide) rfl (sas_io 0 (sas_v (se_p (sp_var 1)) sas_nil))) (se_p (sp_var 4)))) sss_nil) (sss_one (ss_ret (se_move 5))))))))
theorem c__law_lifted {f : Addr} {fd : FuncData} (F : C8.Def K mg "_law_lifted" s__law_lifted f fd) (bi : Binds K fd ["_law_guard", "_law_more_here"] []) (Z : Fr K mg) {C_Way : Addr} (co_Way : CO K mg "Way" C_Way fs_Way)  : C8.Cal P w K mg base 1 "_law_lifted" (spF K mg 2 F__law_lifted) [] :=
  cal_sem F bi sc__law_lifted rfl rfl (by decide) fun cdv A outer s H E hr => by
    have ok := bodyOk (P := P) (w := w) (K := K) (mg := mg) (base := base) (qual := "_law_lifted") (cdv := cdv) (A := A) (outer := outer) (s := s) (H := H) (E := E) sc__law_lifted hr
    exact (sss_one (ss_ret (se_bin op_addF opv_add (se_bin op_addF opv_add (se_p (sp_sl (sp_var 0) spo_none (spo_some sp_int))) (se_tup (ses_cons (se_t1 call_tuple_of unv_tup rfl Z.n_tuple (by rfl) (se_comp ok (si_val (se_p (sp_ix ix_seq opv_ix (sp_var 0) sp_int))) (blkOk_by (by first | rfl | decide +kernel)) (own := [("_law_step", 2)]) (fun _ _ _ _ _ => (sg_n 2 ok.blk rfl (by first | exact Or.inl rfl | exact Or.inr rfl) wipSet)) (fun _ _ _ _ _ => sets_nil) (fun _ _ _ _ _ => (se_p (sp_tup (sps_cons (sp_bin op_addF opv_add (sp_ix ix_seq opv_ix (sp_var 2) sp_int) (sp_var 1)) (sps_cons (sp_ix ix_seq opv_ix (sp_var 2) sp_int) sps_nil))))))) ses_nil))) (se_p (sp_sl (sp_var 0) (spo_some sp_int) spo_none)))))
theorem c__law_overs {f : Addr} {fd : FuncData} (F : C8.Def K mg "_law_overs" s__law_overs f fd) (bi : Binds K fd ["_law_board"] []) (Z : Fr K mg) {C_Way : Addr} (co_Way : CO K mg "Way" C_Way fs_Way)  : C8.Cal P w K mg base 1 "_law_overs" (spF K mg 1 F__law_overs) [] :=
  cal_sem F bi sc__law_overs rfl rfl (by decide) fun cdv A outer s H E hr => by
    have ok := bodyOk (P := P) (w := w) (K := K) (mg := mg) (base := base) (qual := "_law_overs") (cdv := cdv) (A := A) (outer := outer) (s := s) (H := H) (E := E) sc__law_overs hr
    exact (sss_cons (ss_setO 1 ok rfl (by first | exact Or.inl rfl | exact Or.inr rfl) se_dict0) (sss_cons (ss_for ok .never (si_val (se_p (sp_ix ix_seq opv_ix (sp_var 0) sp_int))) (sg_n 2 ok rfl (by first | exact Or.inl rfl | exact Or.inr rfl) fixSet) (sss_one (ss_setIt 1 ok (se_p (sp_ix ix_seq opv_ix (sp_var 2) sp_int)) (se_p (sp_bin op_addF opv_add (sp_lst (sps_cons (sp_ix ix_seq opv_ix (sp_var 2) sp_int) sps_nil)) (sp_get ok (sp_var 1) (sp_ix ix_seq opv_ix (sp_var 2) sp_int) (sp_lst sps_nil))))))) (sss_cons (ss_for ok .never (si_val (se_p (sp_ix ix_seq opv_ix (sp_var 0) sp_int))) (sg_n 3 ok rfl (by first | exact Or.inl rfl | exact Or.inr rfl) fixSet) (sss_one (ss_setIt 1 ok (se_p (sp_ix ix_seq opv_ix (sp_var 3) sp_int)) (se_p (sp_ix (ix_F ok) opv_ixF (sp_var 1) (sp_ix ix_seq opv_ix (sp_var 3) sp_int)))))) (sss_one (ss_ret (se_move 1))))))
theorem c__law_rest {f : Addr} {fd : FuncData} (F : C8.Def K mg "_law_rest" s__law_rest f fd) (bi : Binds K fd ["_law_board"] []) (Z : Fr K mg) {C_Way : Addr} (co_Way : CO K mg "Way" C_Way fs_Way) (c__law_overs : C8.Cal P w K mg base 1 "_law_overs" (spF K mg 1 F__law_overs) []) : C8.Cal P w K mg base 2 "_law_rest" (spF K mg 1 F__law_rest) [] :=
  cal_sem F bi sc__law_rest rfl rfl (by decide) fun cdv A outer s H E hr => by
    have ok := bodyOk (P := P) (w := w) (K := K) (mg := mg) (base := base) (qual := "_law_rest") (cdv := cdv) (A := A) (outer := outer) (s := s) (H := H) (E := E) sc__law_rest hr
    exact (sss_cons (ss_setP 1 ok rfl (by first | exact Or.inl rfl | exact Or.inr rfl) (se_call c__law_overs hr (by decide) rfl (sas_v (se_p (sp_var 0)) sas_nil))) (sss_cons (ss_setO 2 ok rfl (by first | exact Or.inl rfl | exact Or.inr rfl) (se_dictPO ok rfl Z.n_dict (by rfl) (se_comp ok (si_val (se_p (sp_ix ix_seq opv_ix (sp_var 0) sp_int))) (blkOk_by (by first | rfl | decide +kernel)) (own := [("_law_guard", 5)]) (fun _ _ _ _ _ => (sg_n 5 ok.blk rfl (by first | exact Or.inl rfl | exact Or.inr rfl) wipSet)) (fun _ _ _ _ _ => sets_nil) (fun _ _ _ _ _ => (se_p (sp_tup (sps_cons (sp_ix ix_seq opv_ix (sp_var 5) sp_int) (sps_cons sp_int sps_nil)))))))) (sss_cons (ss_for ok .never (si_val (se_p (sp_ix ix_seq opv_ix (sp_var 0) sp_int))) (sg_n 3 ok rfl (by first | exact Or.inl rfl | exact Or.inr rfl) fixSet) (sss_one (ss_for ok .never (si_val (se_p (sp_ix (ix_F ok) opv_ixF (sp_var 1) (sp_ix ix_seq opv_ix (sp_var 3) sp_int)))) (sg_n 4 ok rfl (by first | exact Or.inl rfl | exact Or.inr rfl) fixSet) (sss_one (ss_setIt 2 ok (se_p (sp_var 4)) (se_p (sp_bin op_addF opv_add (sp_ix (ix_F ok) opv_ixF (sp_var 2) (sp_var 4)) (sp_bin op_mulF opv_mul (sp_ix ix_seq opv_ix (sp_var 3) sp_int) (sp_t1 call_int1 unv_int rfl Z.n_int (by rfl) (sp_ix ix_seq opv_ix (sp_var 3) sp_int)))))))))) (sss_one (ss_ret (se_move 2))))))
theorem c__law_small_curve {f : Addr} {fd : FuncData} (F : C8.Def K mg "_law_small_curve" s__law_small_curve f fd) (bi : Binds K fd ["_law_feed_here", "_law_unit", "_law_time"] []) (Z : Fr K mg) {C_Way : Addr} (co_Way : CO K mg "Way" C_Way fs_Way) (c__law_take : C8.Cal P w K mg base 1 "_law_take" (spF K mg 2 F__law_take) []) : C8.Cal P w K mg base 2 "_law_small_curve" (spF K mg 3 F__law_small_curve) [] :=
  cal_sem F bi sc__law_small_curve rfl rfl (by decide) fun cdv A outer s H E hr => by
    have ok := bodyOk (P := P) (w := w) (K := K) (mg := mg) (base := base) (qual := "_law_small_curve") (cdv := cdv) (A := A) (outer := outer) (s := s) (H := H) (E := E) sc__law_small_curve hr
    exact (sss_cons (ss_setP 3 ok rfl (by first | exact Or.inl rfl | exact Or.inr rfl) (se_bin op_addF opv_add (se_p sp_int) (se_call c__law_take hr (by decide) rfl (sas_io 0 (sas_v (se_p sp_int) sas_nil))))) (sss_cons (ss_setO 4 ok rfl (by first | exact Or.inl rfl | exact Or.inr rfl) (se_lst (ses_cons (se_bin op_addF opv_add (se_p sp_int) (se_call c__law_take hr (by decide) rfl (sas_io 0 (sas_v (se_p sp_int) sas_nil)))) ses_nil))) (sss_cons (ss_setO 5 ok rfl (by first | exact Or.inl rfl | exact Or.inr rfl) (se_lst (ses_cons (se_bin op_addF opv_add (se_p sp_int) (se_call c__law_take hr (by decide) rfl (sas_io 0 (sas_v (se_p sp_int) sas_nil)))) ses_nil))) (sss_cons (ss_for ok .never (si_range1 rfl Z.n_range (se_p (sp_bin op_sub opv_sub (sp_var 3) sp_int))) (sg_n 6 ok rfl (by first | exact Or.inl rfl | exact Or.inr rfl) fixSet) (sss_cons (ss_expr (se_append 4 (se_bin op_addF opv_add (se_p (sp_bin op_addF opv_add (sp_ix ix_seq opv_ix (sp_var 4) (sp_un un_neg unv_neg sp_int)) sp_int)) (se_call c__law_take hr (by decide) rfl (sas_io 0 (sas_v (se_p sp_int) sas_nil)))))) (sss_one (ss_expr (se_append 5 (se_bin op_addF opv_add (se_p (sp_bin op_addF opv_add (sp_ix ix_seq opv_ix (sp_var 5) (sp_un un_neg unv_neg sp_int)) sp_int)) (se_call c__law_take hr (by decide) rfl (sas_io 0 (sas_v (se_p sp_int) sas_nil))))))))) (sss_one (ss_ret (se_t1 call_tuple_of unv_tup rfl Z.n_tuple (by rfl) (se_comp ok (si_range1 rfl Z.n_range (se_p (sp_var 3))) (blkOk_by (by first | rfl | decide +kernel)) (own := [("_law_k", 6)]) (fun _ _ _ _ _ => (sg_n 6 ok.blk rfl (by first | exact Or.inl rfl | exact Or.inr rfl) wipSet)) (fun _ _ _ _ _ => sets_nil) (fun _ _ _ _ _ => (se_p (sp_tup (sps_cons (sp_bin op_mulF opv_mul (sp_ix ix_seq opv_ix (sp_var 4) (sp_var 6)) (sp_var 1)) (sps_cons (sp_bin op_mulF opv_mul (sp_ix ix_seq opv_ix (sp_var 5) (sp_bin op_sub opv_sub (sp_bin op_sub opv_sub (sp_var 3) sp_int) (sp_var 6))) (sp_var 2)) sps_nil)))))))))))))
theorem c__law_small_guards {f : Addr} {fd : FuncData} (F : C8.Def K mg "_law_small_guards" s__law_small_guards f fd) (bi : Binds K fd ["_law_script", "_law_names_here", "_law_unit", "_law_time"] []) (Z : Fr K mg) {C_Way : Addr} (co_Way : CO K mg "Way" C_Way fs_Way) (c__law_feed : C8.Cal P w K mg base 2 "_law_feed" (spF K mg 2 F__law_feed) []) (c__law_take : C8.Cal P w K mg base 1 "_law_take" (spF K mg 2 F__law_take) []) (c__law_small_curve : C8.Cal P w K mg base 2 "_law_small_curve" (spF K mg 3 F__law_small_curve) []) : C8.Cal P w K mg base 3 "_law_small_guards" (spF K mg 4 F__law_small_guards) [] :=
  cal_sem F bi sc__law_small_guards rfl rfl (by decide) fun cdv A outer s H E hr => by
    have ok := bodyOk (P := P) (w := w) (K := K) (mg := mg) (base := base) (qual := "_law_small_guards") (cdv := cdv) (A := A) (outer := outer) (s := s) (H := H) (E := E) sc__law_small_guards hr
    exact (sss_cons (ss_setO 4 ok rfl (by first | exact Or.inl rfl | exact Or.inr rfl) (se_lst ses_nil)) (sss_cons (ss_for ok .never (si_range1 rfl Z.n_range (se_p (sp_b1 call_lenF unv_len rfl Z.n_len (by rfl) (sp_var 1)))) (sg_n 5 ok rfl (by first | exact Or.inl rfl | exact Or.inr rfl) fixSet) (sss_cons (ss_setO 6 ok rfl (by first | exact Or.inl rfl | exact Or.inr rfl) (se_call c__law_feed hr (by decide) rfl (sas_v (se_p (sp_var 0)) (sas_v (se_p (sp_bin op_addF opv_add sp_int (sp_var 5))) sas_nil)))) (sss_cons (ss_setP 7 ok rfl (by first | exact Or.inl rfl | exact Or.inr rfl) (se_ix ix_seq opv_ix (se_lst (ses_cons (se_call c__law_take hr (by decide) rfl (sas_io 6 (sas_v (se_p (sp_bin op_addF opv_add (sp_var 5) sp_int)) sas_nil))) (ses_cons (se_p (sp_var 5)) ses_nil))) (se_t1 call_int1 unv_int rfl Z.n_int (by rfl) (se_cmp op_gt opv_gt (se_call c__law_take hr (by decide) rfl (sas_io 6 (sas_v (se_p sp_int) sas_nil))) (se_p sp_int) rfl)))) (sss_cons (ss_setP 8 ok rfl (by first | exact Or.inl rfl | exact Or.inr rfl) (se_call c__law_small_curve hr (by decide) rfl (sas_io 6 (sas_v (se_p (sp_var 2)) (sas_v (se_p (sp_var 3)) sas_nil))))) (sss_cons (ss_setP 9 ok rfl (by first | exact Or.inl rfl | exact Or.inr rfl) (se_bin op_mulF opv_mul (se_call c__law_take hr (by decide) rfl (sas_io 6 (sas_v (se_p sp_int) sas_nil))) (se_p (sp_var 3)))) (sss_one (ss_expr (se_append 4 (se_tup (ses_cons (se_p (sp_ix ix_seq opv_ix (sp_var 1) (sp_var 5))) (ses_cons (se_p (sp_ix ix_seq opv_ix (sp_bin op_addF opv_add (sp_lst (sps_cons sp_non sps_nil)) (sp_var 1)) (sp_var 7))) (ses_cons (se_p (sp_var 8)) (ses_cons (se_p (sp_var 9)) (ses_cons (se_bin op_mulF opv_mul (se_call c__law_take hr (by decide) rfl (sas_io 6 (sas_v (se_p sp_int) sas_nil))) (se_p (sp_var 3))) ses_nil)))))))))))))) (sss_one (ss_ret (se_move 4)))))
theorem c__law_small_loads {f : Addr} {fd : FuncData} (F : C8.Def K mg "_law_small_loads" s__law_small_loads f fd) (bi : Binds K fd ["_law_script", "_law_names_here", "_law_guards", "_law_unit", "_law_time"] []) (Z : Fr K mg) {C_Way : Addr} (co_Way : CO K mg "Way" C_Way fs_Way) (c__law_feed : C8.Cal P w K mg base 2 "_law_feed" (spF K mg 2 F__law_feed) []) (c__law_take : C8.Cal P w K mg base 1 "_law_take" (spF K mg 2 F__law_take) []) : C8.Cal P w K mg base 3 "_law_small_loads" (spF K mg 5 F__law_small_loads) [] :=
  cal_sem F bi sc__law_small_loads rfl rfl (by decide) fun cdv A outer s H E hr => by
    have ok := bodyOk (P := P) (w := w) (K := K) (mg := mg) (base := base) (qual := "_law_small_loads") (cdv := cdv) (A := A) (outer := outer) (s := s) (H := H) (E := E) sc__law_small_loads hr
    exact (sss_cons (ss_setO 5 ok rfl (by first | exact Or.inl rfl | exact Or.inr rfl) (se_lst ses_nil)) (sss_cons (ss_for ok .never (si_range1 rfl Z.n_range (se_p (sp_b1 call_lenF unv_len rfl Z.n_len (by rfl) (sp_var 1)))) (sg_n 6 ok rfl (by first | exact Or.inl rfl | exact Or.inr rfl) fixSet) (sss_cons (ss_setO 7 ok rfl (by first | exact Or.inl rfl | exact Or.inr rfl) (se_call c__law_feed hr (by decide) rfl (sas_v (se_p (sp_var 0)) (sas_v (se_p (sp_bin op_addF opv_add sp_int (sp_var 6))) sas_nil)))) (sss_cons (ss_setP 8 ok rfl (by first | exact Or.inl rfl | exact Or.inr rfl) (se_ix ix_seq opv_ix (se_ix ix_seq opv_ix (se_p (sp_var 2)) (se_call c__law_take hr (by decide) rfl (sas_io 7 (sas_v (se_p (sp_b1 call_lenF unv_len rfl Z.n_len (by rfl) (sp_var 2))) sas_nil)))) (se_p sp_int))) (sss_cons (ss_setO 9 ok rfl (by first | exact Or.inl rfl | exact Or.inr rfl) (se_lst ses_nil)) (sss_cons (ss_for ok .never (si_range1 rfl Z.n_range (se_call c__law_take hr (by decide) rfl (sas_io 7 (sas_v (se_p sp_int) sas_nil)))) (sg_n 10 ok rfl (by first | exact Or.inl rfl | exact Or.inr rfl) fixSet) (sss_one (ss_expr (se_append 9 (se_tup (ses_cons (se_bin op_mulF opv_mul (se_bin op_addF opv_add (se_p sp_int) (se_call c__law_take hr (by decide) rfl (sas_io 7 (sas_v (se_p sp_int) sas_nil)))) (se_p (sp_var 4))) (ses_cons (se_bin op_mulF opv_mul (se_call c__law_take hr (by decide) rfl (sas_io 7 (sas_v (se_p sp_int) sas_nil))) (se_p (sp_var 3))) ses_nil))))))) (sss_one (ss_expr (se_append 5 (se_tup (ses_cons (se_p (sp_ix ix_seq opv_ix (sp_var 1) (sp_var 6))) (ses_cons (se_p (sp_var 8)) (ses_cons (se_p (sp_t1 call_tuple_of unv_tup rfl Z.n_tuple (by rfl) (sp_var 9))) (ses_cons (se_bin op_mulF opv_mul (se_call c__law_take hr (by decide) rfl (sas_io 7 (sas_v (se_p sp_int) sas_nil))) (se_p (sp_var 3))) (ses_cons (se_cmp op_gt opv_gt (se_call c__law_take hr (by decide) rfl (sas_io 7 (sas_v (se_p sp_int) sas_nil))) (se_p sp_int) rfl) ses_nil)))))))))))))) (sss_one (ss_ret (se_move 5)))))
theorem c__law_small_board {f : Addr} {fd : FuncData} (F : C8.Def K mg "_law_small_board" s__law_small_board f fd) (bi : Binds K fd ["_law_script", "_law_unit", "_law_time"] []) (Z : Fr K mg) {C_Way : Addr} (co_Way : CO K mg "Way" C_Way fs_Way) (c__law_feed : C8.Cal P w K mg base 2 "_law_feed" (spF K mg 2 F__law_feed) []) (c__law_take : C8.Cal P w K mg base 1 "_law_take" (spF K mg 2 F__law_take) []) (c__law_names : C8.Cal P w K mg base 2 "_law_names" (spF K mg 2 F__law_names) []) (c__law_lifted : C8.Cal P w K mg base 1 "_law_lifted" (spF K mg 2 F__law_lifted) []) (c__law_rest : C8.Cal P w K mg base 2 "_law_rest" (spF K mg 1 F__law_rest) []) (c__law_small_guards : C8.Cal P w K mg base 3 "_law_small_guards" (spF K mg 4 F__law_small_guards) []) (c__law_small_loads : C8.Cal P w K mg base 3 "_law_small_loads" (spF K mg 5 F__law_small_loads) []) : C8.Cal P w K mg base 4 "_law_small_board" (spF K mg 3 F__law_small_board) [] :=
  cal_sem F bi sc__law_small_board rfl rfl (by decide) fun cdv A outer s H E hr => by
    have ok := bodyOk (P := P) (w := w) (K := K) (mg := mg) (base := base) (qual := "_law_small_board") (cdv := cdv) (A := A) (outer := outer) (s := s) (H := H) (E := E) sc__law_small_board hr
    exact (sss_cons (ss_setO 3 ok rfl (by first | exact Or.inl rfl | exact Or.inr rfl) (se_call c__law_feed hr (by decide) rfl (sas_v (se_p (sp_var 0)) (sas_v (se_p sp_int) sas_nil)))) (sss_cons (ss_setP 4 ok rfl (by first | exact Or.inl rfl | exact Or.inr rfl) (se_bin op_addF opv_add (se_p sp_int) (se_call c__law_take hr (by decide) rfl (sas_io 3 (sas_v (se_p sp_int) sas_nil))))) (sss_cons (ss_setP 5 ok rfl (by first | exact Or.inl rfl | exact Or.inr rfl) (se_call c__law_names hr (by decide) rfl (sas_v (se_call c__law_feed hr (by decide) rfl (sas_v (se_p (sp_var 0)) (sas_v (se_p sp_int) sas_nil))) (sas_v (se_fz (se_bin op_addF opv_add (se_p (sp_var 4)) (se_call c__law_take hr (by decide) rfl (sas_io 3 (sas_v (se_p sp_int) sas_nil))))) sas_nil)))) (sss_cons (ss_setP 6 ok rfl (by first | exact Or.inl rfl | exact Or.inr rfl) (se_call c__law_small_guards hr (by decide) rfl (sas_v (se_p (sp_var 0)) (sas_v (se_p (sp_sl (sp_var 5) spo_none (spo_some (sp_var 4)))) (sas_v (se_p (sp_var 1)) (sas_v (se_p (sp_var 2)) sas_nil)))))) (sss_cons (ss_setP 7 ok rfl (by first | exact Or.inl rfl | exact Or.inr rfl) (se_call c__law_small_loads hr (by decide) rfl (sas_v (se_p (sp_var 0)) (sas_v (se_p (sp_sl (sp_var 5) (spo_some (sp_var 4)) spo_none)) (sas_v (se_p (sp_var 6)) (sas_v (se_p (sp_var 1)) (sas_v (se_p (sp_var 2)) sas_nil))))))) (sss_cons (ss_setP 8 ok rfl (by first | exact Or.inl rfl | exact Or.inr rfl) (se_call c__law_rest hr (by decide) rfl (sas_v (se_p (sp_tup (sps_cons (sp_var 6) (sps_cons (sp_var 7) sps_nil)))) sas_nil))) (sss_cons (ss_if (set_cmp op_gt opv_gt (se_call c__law_take hr (by decide) rfl (sas_io 3 (sas_v (se_p sp_int) sas_nil))) (se_p sp_int) rfl) (sss_one (ss_setLcP 6 ok rfl rfl (sw_true rfl rfl rfl rfl) (si_val (se_p (sp_var 6))) (blkOk_by (by first | rfl | decide +kernel)) (own := [("_law_guard", 9)]) (fun _ _ _ _ _ => (sg_n 9 ok.blk rfl (by first | exact Or.inl rfl | exact Or.inr rfl) wipSet)) (fun _ _ _ _ _ => sets_nil) (fun _ _ _ _ _ => (se_call c__law_lifted hr (by decide) rfl (sas_v (se_p (sp_var 9)) (sas_v (se_p (sp_ix (ix_F ok.blk) opv_ixF (sp_var 8) (sp_ix ix_seq opv_ix (sp_var 9) sp_int))) sas_nil)))))) sss_nil) (sss_one (ss_ret (se_p (sp_tup (sps_cons (sp_t1 call_tuple_of unv_tup rfl Z.n_tuple (by rfl) (sp_var 6)) (sps_cons (sp_t1 call_tuple_of unv_tup rfl Z.n_tuple (by rfl) (sp_var 7)) sps_nil)))))))))))))
theorem c__law_loud {f : Addr} {fd : FuncData} (F : C8.Def K mg "_law_loud" s__law_loud f fd) (bi : Binds K fd ["_law_board"] []) (Z : Fr K mg) {C_Way : Addr} (co_Way : CO K mg "Way" C_Way fs_Way) (c__law_rest : C8.Cal P w K mg base 2 "_law_rest" (spF K mg 1 F__law_rest) []) : C8.Cal P w K mg base 3 "_law_loud" (spF K mg 1 F__law_loud) [] :=
  cal_sem F bi sc__law_loud rfl rfl (by decide) fun cdv A outer s H E hr => by
    have ok := bodyOk (P := P) (w := w) (K := K) (mg := mg) (base := base) (qual := "_law_loud") (cdv := cdv) (A := A) (outer := outer) (s := s) (H := H) (E := E) sc__law_loud hr
    exact (sss_cons (ss_setP 1 ok rfl (by first | exact Or.inl rfl | exact Or.inr rfl) (se_call c__law_rest hr (by decide) rfl (sas_v (se_p (sp_var 0)) sas_nil))) (sss_cons (ss_for ok .never (si_val (se_p (sp_ix ix_seq opv_ix (sp_var 0) sp_int))) (sg_n 2 ok rfl (by first | exact Or.inl rfl | exact Or.inr rfl) fixSet) (sss_one (ss_if (set_cmpP op_ge opv_ge (sp_ix (ix_F ok) opv_ixF (sp_var 1) (sp_ix ix_seq opv_ix (sp_var 2) sp_int)) (sp_ix ix_seq opv_ix (sp_ix ix_seq opv_ix (sp_ix ix_seq opv_ix (sp_var 2) sp_int) sp_int) sp_int) rfl) (sss_one (ss_ret (se_p (sp_ix ix_seq opv_ix (sp_var 2) sp_int)))) sss_nil))) (sss_one (ss_ret (se_p sp_non)))))
theorem c__law_places {f : Addr} {fd : FuncData} (F : C8.Def K mg "_law_places" s__law_places f fd) (bi : Binds K fd ["_law_board"] []) (Z : Fr K mg) {C_Way : Addr} (co_Way : CO K mg "Way" C_Way fs_Way)  : C8.Cal P w K mg base 1 "_law_places" (spF K mg 1 F__law_places) [] :=
  cal_sem F bi sc__law_places rfl rfl (by decide) fun cdv A outer s H E hr => by
    have ok := bodyOk (P := P) (w := w) (K := K) (mg := mg) (base := base) (qual := "_law_places") (cdv := cdv) (A := A) (outer := outer) (s := s) (H := H) (E := E) sc__law_places hr
    exact (sss_one (ss_ret (se_bin op_addF opv_add (se_comp ok (si_val (se_p (sp_ix ix_seq opv_ix (sp_var 0) sp_int))) (blkOk_by (by first | rfl | decide +kernel)) (own := [("_law_guard", 1)]) (fun _ _ _ _ _ => (sg_n 1 ok.blk rfl (by first | exact Or.inl rfl | exact Or.inr rfl) wipSet)) (fun _ _ _ _ _ => sets_nil) (fun _ _ _ _ _ => (se_p (sp_ix ix_seq opv_ix (sp_var 1) sp_int)))) (se_comp ok (si_val (se_p (sp_ix ix_seq opv_ix (sp_var 0) sp_int))) (blkOk_by (by first | rfl | decide +kernel)) (own := [("_law_load", 2)]) (fun _ _ _ _ _ => (sg_n 2 ok.blk rfl (by first | exact Or.inl rfl | exact Or.inr rfl) wipSet)) (fun _ _ _ _ _ => sets_nil) (fun _ _ _ _ _ => (se_p (sp_ix ix_seq opv_ix (sp_var 2) sp_int)))))))
theorem c__law_spread {f : Addr} {fd : FuncData} (F : C8.Def K mg "_law_spread" s__law_spread f fd) (bi : Binds K fd ["_law_board", "_law_feed_here"] []) (Z : Fr K mg) {C_Way : Addr} (co_Way : CO K mg "Way" C_Way fs_Way) (c__law_take : C8.Cal P w K mg base 1 "_law_take" (spF K mg 2 F__law_take) []) (c__law_overs : C8.Cal P w K mg base 1 "_law_overs" (spF K mg 1 F__law_overs) []) : C8.Cal P w K mg base 2 "_law_spread" (spF K mg 2 F__law_spread) [] :=
  cal_sem F bi sc__law_spread rfl rfl (by decide) fun cdv A outer s H E hr => by
    have ok := bodyOk (P := P) (w := w) (K := K) (mg := mg) (base := base) (qual := "_law_spread") (cdv := cdv) (A := A) (outer := outer) (s := s) (H := H) (E := E) sc__law_spread hr
    exact (sss_cons (ss_if (set_cmp (op_eqD ok.u64) opv_eq (se_call c__law_take hr (by decide) rfl (sas_io 1 (sas_v (se_p sp_int) sas_nil))) (se_p sp_int) rfl) (sss_one (ss_ret (se_p (sp_var 0)))) sss_nil) (sss_cons (ss_setP 2 ok rfl (by first | exact Or.inl rfl | exact Or.inr rfl) (se_call c__law_overs hr (by decide) rfl (sas_v (se_p (sp_var 0)) sas_nil))) (sss_cons (ss_setO 3 ok rfl (by first | exact Or.inl rfl | exact Or.inr rfl) (se_lst ses_nil)) (sss_cons (ss_for ok .never (si_val (se_p (sp_ix ix_seq opv_ix (sp_var 0) sp_int))) (sg_tup ok (sgs_cons (fixOk _) (sg_n 4 ok rfl (by first | exact Or.inl rfl | exact Or.inr rfl) fixSet) (sgs_cons (fixOk _) (sg_n 5 ok rfl (by first | exact Or.inl rfl | exact Or.inr rfl) fixSet) (sgs_cons (fixOk _) (sg_n 6 ok rfl (by first | exact Or.inl rfl | exact Or.inr rfl) fixSet) (sgs_cons (fixOk _) (sg_n 7 ok rfl (by first | exact Or.inl rfl | exact Or.inr rfl) fixSet) (sgs_cons (fixOk _) (sg_n 8 ok rfl (by first | exact Or.inl rfl | exact Or.inr rfl) fixSet) (sgs_nil (fixOk _))))))) (hl := (aCons_len (aCons_len (aCons_len (aCons_len (aCons_len aNil_len))))))) (sss_one (ss_expr (se_append 3 (se_p (sp_tup (sps_cons (sp_var 4) (sps_cons (sp_var 5) (sps_cons (sp_var 6) (sps_cons (sp_bin op_addF opv_add (sp_var 7) (sp_bin op_mulF opv_mul sp_int (sp_bin op_sub opv_sub sp_int (sp_b1 call_lenF unv_len rfl Z.n_len (by rfl) (sp_ix (ix_F ok) opv_ixF (sp_var 2) (sp_var 4)))))) (sps_cons (sp_var 8) sps_nil))))))))))) (sss_one (ss_ret (se_p (sp_tup (sps_cons (sp_t1 call_tuple_of unv_tup rfl Z.n_tuple (by rfl) (sp_var 3)) (sps_cons (sp_ix ix_seq opv_ix (sp_var 0) sp_int) sps_nil))))))))))
theorem c__law_began {f : Addr} {fd : FuncData} (F : C8.Def K mg "_law_began" s__law_began f fd) (bi : Binds K fd ["_law_board"] []) (Z : Fr K mg) {C_Way : Addr} (co_Way : CO K mg "Way" C_Way fs_Way) (c__law_overs : C8.Cal P w K mg base 1 "_law_overs" (spF K mg 1 F__law_overs) []) : C8.Cal P w K mg base 2 "_law_began" (spF K mg 1 F__law_began) [] :=
  cal_sem F bi sc__law_began rfl rfl (by decide) fun cdv A outer s H E hr => by
    have ok := bodyOk (P := P) (w := w) (K := K) (mg := mg) (base := base) (qual := "_law_began") (cdv := cdv) (A := A) (outer := outer) (s := s) (H := H) (E := E) sc__law_began hr
    exact (sss_cons (ss_setO 1 ok rfl (by first | exact Or.inl rfl | exact Or.inr rfl) (se_dictPO ok rfl Z.n_dict (by rfl) (se_comp ok (si_val (se_p (sp_ix ix_seq opv_ix (sp_var 0) sp_int))) (blkOk_by (by first | rfl | decide +kernel)) (own := [("_law_load", 4)]) (fun _ _ _ _ _ => (sg_n 4 ok.blk rfl (by first | exact Or.inl rfl | exact Or.inr rfl) wipSet)) (fun _ _ _ _ _ => sets_nil) (fun _ _ _ _ _ => (se_p (sp_tup (sps_cons (sp_ix ix_seq opv_ix (sp_var 4) sp_int) (sps_cons (sp_ix ix_seq opv_ix (sp_var 4) sp_int) sps_nil)))))))) (sss_cons (ss_setO 2 ok rfl (by first | exact Or.inl rfl | exact Or.inr rfl) (se_dictPO ok rfl Z.n_dict (by rfl) (se_comp ok (si_val (se_p (sp_ix ix_seq opv_ix (sp_var 0) sp_int))) (blkOk_by (by first | rfl | decide +kernel)) (own := [("_law_load", 4)]) (fun _ _ _ _ _ => (sg_n 4 ok.blk rfl (by first | exact Or.inl rfl | exact Or.inr rfl) wipSet)) (fun _ _ _ _ _ => sets_nil) (fun _ _ _ _ _ => (se_p (sp_tup (sps_cons (sp_ix ix_seq opv_ix (sp_var 4) sp_int) (sps_cons sp_non sps_nil)))))))) (sss_cons (ss_setO 3 ok rfl (by first | exact Or.inl rfl | exact Or.inr rfl) (se_dictPO ok rfl Z.n_dict (by rfl) (se_comp ok (si_val (se_p (sp_ix ix_seq opv_ix (sp_var 0) sp_int))) (blkOk_by (by first | rfl | decide +kernel)) (own := [("_law_guard", 5)]) (fun _ _ _ _ _ => (sg_n 5 ok.blk rfl (by first | exact Or.inl rfl | exact Or.inr rfl) wipSet)) (fun _ _ _ _ _ => sets_nil) (fun _ _ _ _ _ => (se_p (sp_tup (sps_cons (sp_ix ix_seq opv_ix (sp_var 5) sp_int) (sps_cons (sp_bin op_mulF opv_mul (sp_lst (sps_cons sp_int sps_nil)) (sp_b1 call_lenF unv_len rfl Z.n_len (by rfl) (sp_ix ix_seq opv_ix (sp_var 5) sp_int))) sps_nil)))))))) (sss_one (ss_ret (se_dispS (sds_cons sp_str (se_fz (se_lst ses_nil)) (sds_cons sp_str se_dict0 (sds_late 1 sp_str (sds_cons sp_str (se_dictC rfl Z.n_dict (by rfl) (sp_var 1)) (sds_late 2 sp_str (sds_late 3 sp_str (sds_cons sp_str (se_call c__law_overs hr (by decide) rfl (sas_v (se_p (sp_var 0)) sas_nil)) sds_nil))))))) (by decide +kernel) (by simp) (by decide) rfl))))))
theorem c__law_is_fed {f : Addr} {fd : FuncData} (F : C8.Def K mg "_law_is_fed" s__law_is_fed f fd) (bi : Binds K fd ["_law_state", "_law_place"] []) (Z : Fr K mg) {C_Way : Addr} (co_Way : CO K mg "Way" C_Way fs_Way)  : C8.Cal P w K mg base 1 "_law_is_fed" (spF K mg 2 F__law_is_fed) [] :=
  cal_sem F bi sc__law_is_fed rfl rfl (by decide) fun cdv A outer s H E hr => by
    have ok := bodyOk (P := P) (w := w) (K := K) (mg := mg) (base := base) (qual := "_law_is_fed") (cdv := cdv) (A := A) (outer := outer) (s := s) (H := H) (E := E) sc__law_is_fed hr
    exact (sss_one (ss_ret (se_not (se_b1 (cr_any ok.calm) unv_any rfl Z.n_any (by rfl) (se_comp ok (si_val (se_p (sp_ix (ix_F ok) opv_ixF (sp_ix (ix_F ok) opv_ixF (sp_var 0) sp_str) (sp_var 1)))) (blkOk_by (by first | rfl | decide +kernel)) (own := [("_law_name", 2)]) (fun _ _ _ _ _ => (sg_n 2 ok.blk rfl (by first | exact Or.inl rfl | exact Or.inr rfl) wipSet)) (fun _ _ _ _ _ => sets_nil) (fun _ _ _ _ _ => (se_p (sp_cmp (op_inF ok.blk) opv_in (sp_var 2) (sp_ix (ix_F ok.blk) opv_ixF (sp_var 0) sp_str) rfl))))))))
theorem c__law_settled {f : Addr} {fd : FuncData} (F : C8.Def K mg "_law_settled" s__law_settled f fd) (bi : Binds K fd ["_law_board", "_law_state"] []) (Z : Fr K mg) {C_Way : Addr} (co_Way : CO K mg "Way" C_Way fs_Way) (c__law_is_fed : C8.Cal P w K mg base 1 "_law_is_fed" (spF K mg 2 F__law_is_fed) []) : C8.Cal P w K mg base 2 "_law_settled" (spF K mg 2 F__law_settled) [] :=
  cal_sem F bi sc__law_settled rfl rfl (by decide) fun cdv A outer s H E hr => by
    have ok := bodyOk (P := P) (w := w) (K := K) (mg := mg) (base := base) (qual := "_law_settled") (cdv := cdv) (A := A) (outer := outer) (s := s) (H := H) (E := E) sc__law_settled hr
    exact (sss_cons (ss_for ok .never (si_val (se_p (sp_ix ix_seq opv_ix (sp_var 0) sp_int))) (sg_n 2 ok rfl (by first | exact Or.inl rfl | exact Or.inr rfl) fixSet) (sss_cons (ss_setP 4 ok rfl (by first | exact Or.inl rfl | exact Or.inr rfl) (se_and (se_p (sp_ix (ix_F ok) opv_ixF (sp_ix (ix_F ok) opv_ixF (sp_var 1) sp_str) (sp_ix ix_seq opv_ix (sp_var 2) sp_int))) (se_one (se_call c__law_is_fed hr (by decide) rfl (sas_io 1 (sas_v (se_p (sp_ix ix_seq opv_ix (sp_var 2) sp_int)) sas_nil)))))) (sss_cons (ss_if (sew_t (sew_and (set_val (se_p (sp_var 4))) (sew_and1 (set_not (set_val (se_p (sp_ix (ix_F ok) opv_ixF (sp_ix (ix_F ok) opv_ixF (sp_var 1) sp_str) (sp_ix ix_seq opv_ix (sp_var 2) sp_int)))))))) (sss_one (ss_setDI 1 ok sp_str (sp_ix ix_seq opv_ix (sp_var 2) sp_int) (se_p sp_int))) sss_nil) (sss_one (ss_setDI 1 ok sp_str (sp_ix ix_seq opv_ix (sp_var 2) sp_int) (se_p (sp_var 4))))))) (sss_one (ss_for ok .never (si_val (se_p (sp_ix ix_seq opv_ix (sp_var 0) sp_int))) (sg_n 3 ok rfl (by first | exact Or.inl rfl | exact Or.inr rfl) fixSet) (sss_one (ss_if (set_not (set_val (se_call c__law_is_fed hr (by decide) rfl (sas_io 1 (sas_v (se_p (sp_ix ix_seq opv_ix (sp_var 3) sp_int)) sas_nil))))) (sss_one (ss_setDI 1 ok sp_str (sp_ix ix_seq opv_ix (sp_var 3) sp_int) (se_p (sp_bin op_mulF opv_mul (sp_lst (sps_cons sp_int sps_nil)) (sp_b1 call_lenF unv_len rfl Z.n_len (by rfl) (sp_ix ix_seq opv_ix (sp_var 3) sp_int)))))) sss_nil)))))
theorem c__law_did {f : Addr} {fd : FuncData} (F : C8.Def K mg "_law_did" s__law_did f fd) (bi : Binds K fd ["_law_board", "_law_state", "_law_deed"] []) (Z : Fr K mg) {C_Way : Addr} (co_Way : CO K mg "Way" C_Way fs_Way) (c__law_settled : C8.Cal P w K mg base 2 "_law_settled" (spF K mg 2 F__law_settled) []) : C8.Cal P w K mg base 3 "_law_did" (spF K mg 3 F__law_did) [] :=
  cal_sem F bi sc__law_did rfl rfl (by decide) fun cdv A outer s H E hr => by
    have ok := bodyOk (P := P) (w := w) (K := K) (mg := mg) (base := base) (qual := "_law_did") (cdv := cdv) (A := A) (outer := outer) (s := s) (H := H) (E := E) sc__law_did hr
    exact (sss_cons (ss_if (set_cmpP (op_eqD ok.u64) opv_eq (sp_ix ix_seq opv_ix (sp_var 2) sp_int) sp_str rfl) (sss_one (ss_setDI 1 ok sp_str (sp_ix ix_seq opv_ix (sp_var 2) sp_int) (se_p (sp_ix ix_seq opv_ix (sp_var 2) sp_int)))) sss_nil) (sss_cons (ss_if (sew_t (sew_or (set_cmpP (op_eqD ok.u64) opv_eq (sp_ix ix_seq opv_ix (sp_var 2) sp_int) sp_str rfl) (sew_or1 (set_cmpP (op_eqD ok.u64) opv_eq (sp_ix ix_seq opv_ix (sp_var 2) sp_int) sp_str rfl)))) (sss_one (ss_setDI 1 ok sp_str (sp_ix ix_seq opv_ix (sp_var 2) sp_int) (se_p (sp_cmp (op_eqD ok.u64) opv_eq (sp_ix ix_seq opv_ix (sp_var 2) sp_int) sp_str rfl)))) sss_nil) (sss_cons (ss_if (sew_t (sew_or (set_cmpP (op_eqD ok.u64) opv_eq (sp_ix ix_seq opv_ix (sp_var 2) sp_int) sp_str rfl) (sew_or1 (set_cmpP (op_eqD ok.u64) opv_eq (sp_ix ix_seq opv_ix (sp_var 2) sp_int) sp_str rfl)))) (sss_one (ss_setIt 1 ok (se_p sp_str) (se_comp ok (si_val (se_frzD 1 ok sp_str)) (blkOk_by (by first | rfl | decide +kernel)) (own := [("_law_name", 3)]) (fun _ _ _ _ _ => (sg_n 3 ok.blk rfl (by first | exact Or.inl rfl | exact Or.inr rfl) wipSet)) (fun _ _ _ _ _ => (sets_one (set_cmpP (op_neD ok.blk.u64) opv_ne (sp_var 3) (sp_ix ix_seq opv_ix (sp_var 2) sp_int) rfl))) (fun _ _ _ _ _ => (se_p (sp_var 3)))))) sss_nil) (sss_cons (ss_if (set_cmpP (op_eqD ok.u64) opv_eq (sp_ix ix_seq opv_ix (sp_var 2) sp_int) sp_str rfl) (sss_one (ss_expr (se_appD 1 ok sp_str (sp_ix ix_seq opv_ix (sp_var 2) sp_int)))) sss_nil) (sss_one (ss_expr (se_call c__law_settled hr (by decide) rfl (sas_v (se_p (sp_var 0)) (sas_io 1 sas_nil)))))))))
theorem c__law_pull {f : Addr} {fd : FuncData} (F : C8.Def K mg "_law_pull" s__law_pull f fd) (bi : Binds K fd ["_law_load", "_law_age"] []) (Z : Fr K mg) {C_Way : Addr} (co_Way : CO K mg "Way" C_Way fs_Way)  : C8.Cal P w K mg base 1 "_law_pull" (spF K mg 2 F__law_pull) [] :=
  cal_sem F bi sc__law_pull rfl rfl (by decide) fun cdv A outer s H E hr => by
    have ok := bodyOk (P := P) (w := w) (K := K) (mg := mg) (base := base) (qual := "_law_pull") (cdv := cdv) (A := A) (outer := outer) (s := s) (H := H) (E := E) sc__law_pull hr
    exact (sss_cons (ss_if (set_cmpP op_notN opv_notN (sp_var 1) sp_non rfl) (sss_one (ss_for ok .never (si_val (se_p (sp_ix ix_seq opv_ix (sp_var 0) sp_int))) (sg_tup ok (sgs_cons (fixOk _) (sg_n 2 ok rfl (by first | exact Or.inl rfl | exact Or.inr rfl) fixSet) (sgs_cons (fixOk _) (sg_n 3 ok rfl (by first | exact Or.inl rfl | exact Or.inr rfl) fixSet) (sgs_nil (fixOk _)))) (hl := (aCons_len (aCons_len aNil_len)))) (sss_cons (ss_if (set_cmpP op_lt opv_lt (sp_var 1) (sp_var 2) rfl) (sss_one (ss_ret (se_p (sp_var 3)))) sss_nil) (sss_one (ss_setP 1 ok rfl (by first | exact Or.inl rfl | exact Or.inr rfl) (se_p (sp_bin op_sub opv_sub (sp_var 1) (sp_var 2)))))))) sss_nil) (sss_one (ss_ret (se_p (sp_ix ix_seq opv_ix (sp_var 0) sp_int)))))
theorem c__law_found {f : Addr} {fd : FuncData} (F : C8.Def K mg "_law_found" s__law_found f fd) (bi : Binds K fd ["_law_board", "_law_state"] []) (Z : Fr K mg) {C_Way : Addr} (co_Way : CO K mg "Way" C_Way fs_Way) (c__law_is_fed : C8.Cal P w K mg base 1 "_law_is_fed" (spF K mg 2 F__law_is_fed) []) (c__law_pull : C8.Cal P w K mg base 1 "_law_pull" (spF K mg 2 F__law_pull) []) : C8.Cal P w K mg base 2 "_law_found" (spF K mg 2 F__law_found) [] :=
  cal_sem F bi sc__law_found rfl rfl (by decide) fun cdv A outer s H E hr => by
    have ok := bodyOk (P := P) (w := w) (K := K) (mg := mg) (base := base) (qual := "_law_found") (cdv := cdv) (A := A) (outer := outer) (s := s) (H := H) (E := E) sc__law_found hr
    exact (sss_cons (ss_setO 2 ok rfl (by first | exact Or.inl rfl | exact Or.inr rfl) (se_dictPO ok rfl Z.n_dict (by rfl) (se_comp ok (si_val (se_p (sp_ix ix_seq opv_ix (sp_var 0) sp_int))) (blkOk_by (by first | rfl | decide +kernel)) (own := [("_law_guard", 7)]) (fun _ _ _ _ _ => (sg_n 7 ok.blk rfl (by first | exact Or.inl rfl | exact Or.inr rfl) wipSet)) (fun _ _ _ _ _ => sets_nil) (fun _ _ _ _ _ => (se_p (sp_tup (sps_cons (sp_ix ix_seq opv_ix (sp_var 7) sp_int) (sps_cons sp_int sps_nil)))))))) (sss_cons (ss_setLcO 3 ok rfl rfl (sw_true rfl rfl rfl rfl) (si_val (se_p (sp_ix ix_seq opv_ix (sp_var 0) sp_int))) (blkOk_by (by first | rfl | decide +kernel)) (own := [("_law_guard", 7)]) (fun _ _ _ _ _ => (sg_n 7 ok.blk rfl (by first | exact Or.inl rfl | exact Or.inr rfl) wipSet)) (fun _ _ _ _ _ => sets_nil) (fun _ _ _ _ _ => (se_p (sp_tup (sps_cons (sp_ix ix_seq opv_ix (sp_var 7) sp_int) (sps_cons sp_int sps_nil)))))) (sss_cons (ss_for ok .never (si_val (se_p (sp_ix ix_seq opv_ix (sp_var 0) sp_int))) (sg_n 4 ok rfl (by first | exact Or.inl rfl | exact Or.inr rfl) fixSet) (sss_one (ss_if (set_val (se_p (sp_ix (ix_F ok) opv_ixF (sp_ix (ix_F ok) opv_ixF (sp_var 1) sp_str) (sp_ix ix_seq opv_ix (sp_var 4) sp_int)))) (sss_one (ss_expr (se_append 3 (se_tup (ses_cons (se_p (sp_ix ix_seq opv_ix (sp_var 4) sp_int)) (ses_cons (se_call c__law_pull hr (by decide) rfl (sas_v (se_p (sp_var 4)) (sas_v (se_p (sp_ix (ix_F ok) opv_ixF (sp_ix (ix_F ok) opv_ixF (sp_var 1) sp_str) (sp_ix ix_seq opv_ix (sp_var 4) sp_int))) sas_nil))) ses_nil)))))) sss_nil))) (sss_cons (ss_forL 3 ok .never (sg_tup ok (sgs_cons (fixOk _) (sg_n 5 ok rfl (by first | exact Or.inl rfl | exact Or.inr rfl) fixSet) (sgs_cons (fixOk _) (sg_n 6 ok rfl (by first | exact Or.inl rfl | exact Or.inr rfl) fixSet) (sgs_nil (fixOk _)))) (hl := (aCons_len (aCons_len aNil_len)))) (sss_one (ss_if (set_val (se_call c__law_is_fed hr (by decide) rfl (sas_io 1 (sas_v (se_p (sp_var 5)) sas_nil)))) (sss_cons (ss_setP 6 ok rfl (by first | exact Or.inl rfl | exact Or.inr rfl) (se_p (sp_bin op_addF opv_add (sp_var 6) (sp_get ok (sp_ix (ix_F ok) opv_ixF (sp_var 1) sp_str) (sp_var 5) sp_int)))) (sss_one (ss_for ok .never (si_val (se_p (sp_ix (ix_F ok) opv_ixF (sp_ix (ix_F ok) opv_ixF (sp_var 1) sp_str) (sp_var 5)))) (sg_n 8 ok rfl (by first | exact Or.inl rfl | exact Or.inr rfl) fixSet) (sss_one (ss_setIt 2 ok (se_p (sp_var 8)) (se_p (sp_bin op_addF opv_add (sp_ix (ix_F ok) opv_ixF (sp_var 2) (sp_var 8)) (sp_var 6)))))))) sss_nil))) (sss_one (ss_ret (se_move 2)))))))
theorem c__law_more {f : Addr} {fd : FuncData} (F : C8.Def K mg "_law_more" s__law_more f fd) (bi : Binds K fd ["_law_board", "_law_guard", "_law_found_here"] []) (Z : Fr K mg) {C_Way : Addr} (co_Way : CO K mg "Way" C_Way fs_Way)  : C8.Cal P w K mg base 1 "_law_more" (spF K mg 3 F__law_more) [] :=
  cal_sem F bi sc__law_more rfl rfl (by decide) fun cdv A outer s H E hr => by
    have ok := bodyOk (P := P) (w := w) (K := K) (mg := mg) (base := base) (qual := "_law_more") (cdv := cdv) (A := A) (outer := outer) (s := s) (H := H) (E := E) sc__law_more hr
    exact (sss_cons (ss_setLcP 3 ok rfl rfl (sw_true rfl rfl rfl rfl) (si_val (se_p (sp_ix ix_seq opv_ix (sp_var 0) sp_int))) (blkOk_by (by first | rfl | decide +kernel)) (own := [("_law_one", 5)]) (fun _ _ _ _ _ => (sg_n 5 ok.blk rfl (by first | exact Or.inl rfl | exact Or.inr rfl) wipSet)) (fun _ _ _ _ _ => (sets_one (set_cmpP (op_eqD ok.blk.u64) opv_eq (sp_ix ix_seq opv_ix (sp_var 5) sp_int) (sp_ix ix_seq opv_ix (sp_var 1) sp_int) rfl))) (fun _ _ _ _ _ => (se_p (sp_var 5)))) (sss_cons (ss_setLcP 4 ok rfl rfl (sw_true rfl rfl rfl rfl) (si_val (se_p (sp_var 3))) (blkOk_by (by first | rfl | decide +kernel)) (own := [("_law_one", 5)]) (fun _ _ _ _ _ => (sg_n 5 ok.blk rfl (by first | exact Or.inl rfl | exact Or.inr rfl) wipSet)) (fun _ _ _ _ _ => (sets_one (set_cmpP op_ge opv_ge (sp_ix (ix_F ok.blk) opv_ixF (sp_var 2) (sp_ix ix_seq opv_ix (sp_var 5) sp_int)) (sp_ix ix_seq opv_ix (sp_ix ix_seq opv_ix (sp_ix ix_seq opv_ix (sp_var 5) sp_int) sp_int) sp_int) rfl))) (fun _ _ _ _ _ => (se_p (sp_var 5)))) (sss_one (ss_ret (se_p (sp_bin op_addF opv_add (sp_ix ix_seq opv_ix (sp_var 1) sp_int) (sp_bin op_mulF opv_mul (sp_ix ix_seq opv_ix (sp_var 1) sp_int) (sp_t1 call_int1 unv_int rfl Z.n_int (by rfl) (sp_cmp op_gt opv_gt (sp_b1 call_lenF unv_len rfl Z.n_len (by rfl) (sp_var 4)) sp_int rfl)))))))))
theorem c__law_passed {f : Addr} {fd : FuncData} (F : C8.Def K mg "_law_passed" s__law_passed f fd) (bi : Binds K fd ["_law_board", "_law_state", "_law_stuck"] []) (Z : Fr K mg) {C_Way : Addr} (co_Way : CO K mg "Way" C_Way fs_Way) (c__law_settled : C8.Cal P w K mg base 2 "_law_settled" (spF K mg 2 F__law_settled) []) (c__law_found : C8.Cal P w K mg base 2 "_law_found" (spF K mg 2 F__law_found) []) (c__law_more : C8.Cal P w K mg base 1 "_law_more" (spF K mg 3 F__law_more) []) : C8.Cal P w K mg base 3 "_law_passed" (spF K mg 3 F__law_passed) [] :=
  cal_sem F bi sc__law_passed rfl rfl (by decide) fun cdv A outer s H E hr => by
    have ok := bodyOk (P := P) (w := w) (K := K) (mg := mg) (base := base) (qual := "_law_passed") (cdv := cdv) (A := A) (outer := outer) (s := s) (H := H) (E := E) sc__law_passed hr
    exact (sss_cons (ss_setP 3 ok rfl (by first | exact Or.inl rfl | exact Or.inr rfl) (se_call c__law_found hr (by decide) rfl (sas_v (se_p (sp_var 0)) (sas_io 1 sas_nil)))) (sss_cons (ss_setO 4 ok rfl (by first | exact Or.inl rfl | exact Or.inr rfl) (se_lst ses_nil)) (sss_cons (ss_for ok .never (si_val (se_p (sp_ix ix_seq opv_ix (sp_var 0) sp_int))) (sg_tup ok (sgs_cons (fixOk _) (sg_n 6 ok rfl (by first | exact Or.inl rfl | exact Or.inr rfl) fixSet) (sgs_cons (fixOk _) (sg_n 7 ok rfl (by first | exact Or.inl rfl | exact Or.inr rfl) fixSet) (sgs_cons (fixOk _) (sg_n 8 ok rfl (by first | exact Or.inl rfl | exact Or.inr rfl) fixSet) (sgs_cons (fixOk _) (sg_n 9 ok rfl (by first | exact Or.inl rfl | exact Or.inr rfl) fixSet) (sgs_cons (fixOk _) (sg_n 10 ok rfl (by first | exact Or.inl rfl | exact Or.inr rfl) fixSet) (sgs_nil (fixOk _))))))) (hl := (aCons_len (aCons_len (aCons_len (aCons_len (aCons_len aNil_len))))))) (sss_cons (ss_setLcO 11 ok rfl rfl (sw_true rfl rfl rfl rfl) (si_val (se_p (sp_ix (ix_F ok) opv_ixF (sp_ix (ix_F ok) opv_ixF (sp_var 1) sp_str) (sp_var 6)))) (blkOk_by (by first | rfl | decide +kernel)) (own := [("_law_number", 16)]) (fun _ _ _ _ _ => (sg_n 16 ok.blk rfl (by first | exact Or.inl rfl | exact Or.inr rfl) wipSet)) (fun _ _ _ _ _ => sets_nil) (fun _ _ _ _ _ => (se_p (sp_bin op_addF opv_add (sp_var 16) sp_int)))) (sss_cons (ss_for ok .never (si_enumU rfl Z.n_enumerate (se_p (sp_var 8))) (sg_tup ok (sgs_cons (fixOk _) (sg_n 14 ok rfl (by first | exact Or.inl rfl | exact Or.inr rfl) fixSet) (sgs_cons (fixOk _) (sg_n 15 ok rfl (by first | exact Or.inl rfl | exact Or.inr rfl) fixSet) (sgs_nil (fixOk _)))) (hl := (aCons_len (aCons_len aNil_len)))) (sss_one (ss_setIt 11 ok (se_p (sp_var 14)) (se_p (sp_bin op_mulF opv_mul (sp_ix ix_seq opv_ix (sp_var 11) (sp_var 14)) (sp_t1 call_int1 unv_int rfl Z.n_int (by rfl) (sp_cmp op_ge opv_ge (sp_ix (ix_F ok) opv_ixF (sp_var 3) (sp_var 6)) (sp_ix ix_seq opv_ix (sp_var 15) sp_int) rfl))))))) (sss_cons (ss_setDI 1 ok sp_str (sp_var 6) (se_frz 11)) (sss_cons (ss_setP 12 ok rfl (by first | exact Or.inl rfl | exact Or.inr rfl) (se_call c__law_more hr (by decide) rfl (sas_v (se_p (sp_var 0)) (sas_v (se_p (sp_tup (sps_cons (sp_var 6) (sps_cons (sp_var 7) (sps_cons (sp_var 8) (sps_cons (sp_var 9) (sps_cons (sp_var 10) sps_nil))))))) (sas_v (se_p (sp_var 3)) sas_nil))))) (sss_cons (ss_setO 13 ok rfl (by first | exact Or.inl rfl | exact Or.inr rfl) (se_lst ses_nil)) (sss_cons (ss_for ok .never (si_enumU rfl Z.n_enumerate (se_p (sp_var 8))) (sg_tup ok (sgs_cons (fixOk _) (sg_n 14 ok rfl (by first | exact Or.inl rfl | exact Or.inr rfl) fixSet) (sgs_cons (fixOk _) (sg_n 15 ok rfl (by first | exact Or.inl rfl | exact Or.inr rfl) fixSet) (sgs_nil (fixOk _)))) (hl := (aCons_len (aCons_len aNil_len)))) (sss_one (ss_if (set_cmpP op_ge opv_ge (sp_ix ix_seq opv_ix (sp_var 11) (sp_var 14)) (sp_bin op_addF opv_add (sp_ix ix_seq opv_ix (sp_var 15) sp_int) (sp_var 12)) rfl) (sss_one (ss_expr (se_append 13 (se_p (sp_tup (sps_cons (sp_var 14) (sps_cons (sp_ix ix_seq opv_ix (sp_var 11) (sp_var 14)) sps_nil))))))) sss_nil))) (sss_one (ss_if (sew_t (sew_and (set_cmpP op_gt opv_gt (sp_b1 call_lenF unv_len rfl Z.n_len (by rfl) (sp_var 13)) sp_int rfl) (sew_and (set_cmpP (op_ninF ok) opv_nin (sp_var 6) (sp_var 2) rfl) (sew_and1 (set_cmpP (op_ninF ok) opv_nin (sp_var 6) (sp_ix (ix_F ok) opv_ixF (sp_var 1) sp_str) rfl))))) (sss_one (ss_expr (se_append 4 (se_p (sp_tup (sps_cons (sp_var 6) (sps_cons (sp_var 13) sps_nil))))))) sss_nil))))))))) (sss_cons (ss_for ok .never (si_val (se_p (sp_ix ix_seq opv_ix (sp_var 0) sp_int))) (sg_n 5 ok rfl (by first | exact Or.inl rfl | exact Or.inr rfl) fixSet) (sss_one (ss_if (set_cmpP op_notN opv_notN (sp_ix (ix_F ok) opv_ixF (sp_ix (ix_F ok) opv_ixF (sp_var 1) sp_str) (sp_ix ix_seq opv_ix (sp_var 5) sp_int)) sp_non rfl) (sss_one (ss_setDI 1 ok sp_str (sp_ix ix_seq opv_ix (sp_var 5) sp_int) (se_p (sp_bin op_addF opv_add (sp_ix (ix_F ok) opv_ixF (sp_ix (ix_F ok) opv_ixF (sp_var 1) sp_str) (sp_ix ix_seq opv_ix (sp_var 5) sp_int)) sp_int)))) sss_nil))) (sss_cons (ss_setIt 1 ok (se_p sp_str) (se_bin op_addF opv_add (se_frzD 1 ok sp_str) (se_compG ok (si_lstN 4) (blkOk_by (by first | rfl | decide +kernel)) (own := [("_law_one", 17)]) (fun _ _ _ _ _ => (sg_n 17 ok.blk rfl (by first | exact Or.inl rfl | exact Or.inr rfl) wipSet)) (fun _ _ _ _ _ => sets_nil) (fun _ _ _ _ _ => (se_p (sp_ix ix_seq opv_ix (sp_var 17) sp_int)))))) (sss_cons (ss_expr (se_call c__law_settled hr (by decide) rfl (sas_v (se_p (sp_var 0)) (sas_io 1 sas_nil)))) (sss_one (ss_ret (se_p (sp_tup (sps_cons (sp_var 3) (sps_cons (sp_var 4) sps_nil))))))))))))
theorem c__law_opens {f : Addr} {fd : FuncData} (F : C8.Def K mg "_law_opens" s__law_opens f fd) (bi : Binds K fd ["_law_board", "_law_place", "_law_greatness", "_law_stuck"] []) (Z : Fr K mg) {C_Way : Addr} (co_Way : CO K mg "Way" C_Way fs_Way) (c__law_began : C8.Cal P w K mg base 2 "_law_began" (spF K mg 1 F__law_began) []) (c__law_did : C8.Cal P w K mg base 3 "_law_did" (spF K mg 3 F__law_did) []) (c__law_passed : C8.Cal P w K mg base 3 "_law_passed" (spF K mg 3 F__law_passed) []) : C8.Cal P w K mg base 4 "_law_opens" (spF K mg 4 F__law_opens) [] :=
  cal_sem F bi sc__law_opens rfl rfl (by decide) fun cdv A outer s H E hr => by
    have ok := bodyOk (P := P) (w := w) (K := K) (mg := mg) (base := base) (qual := "_law_opens") (cdv := cdv) (A := A) (outer := outer) (s := s) (H := H) (E := E) sc__law_opens hr
    exact (sss_cons (ss_setO 4 ok rfl (by first | exact Or.inl rfl | exact Or.inr rfl) (se_call c__law_began hr (by decide) rfl (sas_v (se_p (sp_var 0)) sas_nil))) (sss_cons (ss_expr (se_call c__law_did hr (by decide) rfl (sas_v (se_p (sp_var 0)) (sas_io 4 (sas_v (se_p (sp_tup (sps_cons sp_str (sps_cons (sp_var 1) (sps_cons (sp_var 2) sps_nil))))) sas_nil))))) (sss_cons (ss_for ok .never (si_range1 rfl Z.n_range (se_p sp_int)) (sg_n 5 ok rfl (by first | exact Or.inl rfl | exact Or.inr rfl) fixSet) (sss_cons (ss_asg (se_call c__law_passed hr (by decide) rfl (sas_v (se_p (sp_var 0)) (sas_io 4 (sas_v (se_p (sp_var 3)) sas_nil)))) (sg_tup ok (sgs_cons (fixOk _) (sg_n 6 ok rfl (by first | exact Or.inl rfl | exact Or.inr rfl) fixSet) (sgs_cons (fixOk _) (sg_n 7 ok rfl (by first | exact Or.inl rfl | exact Or.inr rfl) fixSet) (sgs_nil (fixOk _)))) (hl := (aCons_len (aCons_len aNil_len))))) (sss_one (ss_if (set_cmpP op_gt opv_gt (sp_b1 call_lenF unv_len rfl Z.n_len (by rfl) (sp_var 7)) sp_int rfl) (sss_one (ss_ret (se_comp ok (si_val (se_p (sp_var 7))) (blkOk_by (by first | rfl | decide +kernel)) (own := [("_law_one", 8)]) (fun _ _ _ _ _ => (sg_n 8 ok.blk rfl (by first | exact Or.inl rfl | exact Or.inr rfl) wipSet)) (fun _ _ _ _ _ => sets_nil) (fun _ _ _ _ _ => (se_p (sp_ix ix_seq opv_ix (sp_var 8) sp_int)))))) sss_nil)))) (sss_one (ss_ret (se_lst ses_nil))))))
theorem c__law_as_due {f : Addr} {fd : FuncData} (F : C8.Def K mg "_law_as_due" s__law_as_due f fd) (bi : Binds K fd ["_law_board", "_law_place", "_law_greatness", "_law_stuck"] []) (Z : Fr K mg) {C_Way : Addr} (co_Way : CO K mg "Way" C_Way fs_Way) (c__law_overs : C8.Cal P w K mg base 1 "_law_overs" (spF K mg 1 F__law_overs) []) (c__law_opens : C8.Cal P w K mg base 4 "_law_opens" (spF K mg 4 F__law_opens) []) : C8.Cal P w K mg base 5 "_law_as_due" (spF K mg 4 F__law_as_due) [] :=
  cal_sem F bi sc__law_as_due rfl rfl (by decide) fun cdv A outer s H E hr => by
    have ok := bodyOk (P := P) (w := w) (K := K) (mg := mg) (base := base) (qual := "_law_as_due") (cdv := cdv) (A := A) (outer := outer) (s := s) (H := H) (E := E) sc__law_as_due hr
    exact (sss_cons (ss_setP 4 ok rfl (by first | exact Or.inl rfl | exact Or.inr rfl) (se_sl (se_comp ok (si_val (se_ix (ix_F ok) opv_ixF (se_call c__law_overs hr (by decide) rfl (sas_v (se_p (sp_var 0)) sas_nil)) (se_p (sp_var 1)))) (blkOk_by (by first | rfl | decide +kernel)) (own := [("_law_name", 5)]) (fun _ _ _ _ _ => (sg_n 5 ok.blk rfl (by first | exact Or.inl rfl | exact Or.inr rfl) wipSet)) (fun _ _ _ _ _ => (sets_one (set_cmpP (op_ninF ok.blk) opv_nin (sp_var 5) (sp_var 3) rfl))) (fun _ _ _ _ _ => (se_p (sp_var 5)))) seo_none (seo_some (se_p sp_int)))) (sss_one (ss_ret (se_cmp (op_inF ok) opv_in (se_call c__law_opens hr (by decide) rfl (sas_v (se_p (sp_var 0)) (sas_v (se_p (sp_var 1)) (sas_v (se_p (sp_var 2)) (sas_v (se_p (sp_var 3)) sas_nil))))) (se_fz (se_lst (ses_cons (se_lst ses_nil) (ses_cons (se_p (sp_var 4)) ses_nil)))) rfl))))
theorem c__law_shown {f : Addr} {fd : FuncData} (F : C8.Def K mg "_law_shown" s__law_shown f fd) (bi : Binds K fd ["_law_board", "_law_stuck", "_law_most", "_law_found_here", "_law_feed_here"] []) (Z : Fr K mg) {C_Way : Addr} (co_Way : CO K mg "Way" C_Way fs_Way) (c__law_take : C8.Cal P w K mg base 1 "_law_take" (spF K mg 2 F__law_take) []) (c__law_places : C8.Cal P w K mg base 1 "_law_places" (spF K mg 1 F__law_places) []) (c__law_opens : C8.Cal P w K mg base 4 "_law_opens" (spF K mg 4 F__law_opens) []) (c__law_as_due : C8.Cal P w K mg base 5 "_law_as_due" (spF K mg 4 F__law_as_due) []) : C8.Cal P w K mg base 6 "_law_shown" (spF K mg 5 F__law_shown) [] :=
  cal_sem F bi sc__law_shown rfl rfl (by decide) fun cdv A outer s H E hr => by
    have ok := bodyOk (P := P) (w := w) (K := K) (mg := mg) (base := base) (qual := "_law_shown") (cdv := cdv) (A := A) (outer := outer) (s := s) (H := H) (E := E) sc__law_shown hr
    exact (sss_cons (ss_asg (se_p (sp_var 3)) (sg_tup ok (sgs_cons (fixOk _) (sg_n 6 ok rfl (by first | exact Or.inl rfl | exact Or.inr rfl) fixSet) (sgs_cons (fixOk _) (sg_n 7 ok rfl (by first | exact Or.inl rfl | exact Or.inr rfl) fixSet) (sgs_cons (fixOk _) (sg_n 8 ok rfl (by first | exact Or.inl rfl | exact Or.inr rfl) fixSet) (sgs_nil (fixOk _))))) (hl := (aCons_len (aCons_len (aCons_len aNil_len)))))) (sss_cons (ss_if (sew_t (sew_or (set_cmp (op_ninF ok) opv_nin (se_p (sp_var 6)) (se_call c__law_places hr (by decide) rfl (sas_v (se_p (sp_var 0)) sas_nil)) rfl) (sew_or (set_cmpP op_lt opv_lt (sp_var 7) sp_int rfl) (sew_or1 (set_cmpP op_gt opv_gt (sp_var 7) (sp_var 2) rfl))))) (sss_one (ss_ret (se_p sp_bl))) sss_nil) (sss_cons (ss_if (sew_t (sew_or (set_val (se_call c__law_as_due hr (by decide) rfl (sas_v (se_p (sp_var 0)) (sas_v (se_p (sp_var 6)) (sas_v (se_p (sp_var 7)) (sas_v (se_p (sp_var 1)) sas_nil)))))) (sew_or1 (set_cmp (op_neD ok.u64) opv_ne (se_call c__law_opens hr (by decide) rfl (sas_v (se_p (sp_var 0)) (sas_v (se_p (sp_var 6)) (sas_v (se_p (sp_var 7)) (sas_v (se_p (sp_var 1)) sas_nil))))) (se_p (sp_t1 call_list_of unv_list rfl Z.n_list (by rfl) (sp_var 8))) rfl)))) (sss_one (ss_ret (se_p sp_bl))) sss_nil) (sss_cons (ss_setP 5 ok rfl (by first | exact Or.inl rfl | exact Or.inr rfl) (se_lst (ses_cons (se_p (sp_bin op_sub opv_sub (sp_var 7) sp_int)) (ses_cons (se_call c__law_take hr (by decide) rfl (sas_io 4 (sas_v (se_p (sp_var 7)) sas_nil))) ses_nil)))) (sss_one (ss_ret (se_b1 (cr_all ok.calm) unv_all rfl Z.n_all (by rfl) (se_comp ok (si_val (se_p (sp_var 5))) (blkOk_by (by first | rfl | decide +kernel)) (own := [("_law_one", 9)]) (fun _ _ _ _ _ => (sg_n 9 ok.blk rfl (by first | exact Or.inl rfl | exact Or.inr rfl) wipSet)) (fun _ _ _ _ _ => sets_nil) (fun _ _ _ _ _ => (se_call c__law_as_due hr (by decide) rfl (sas_v (se_p (sp_var 0)) (sas_v (se_p (sp_var 6)) (sas_v (se_p (sp_var 9)) (sas_v (se_p (sp_var 1)) sas_nil))))))))))))))
theorem c_law {f : Addr} {fd : FuncData} (F : C8.Fun K "law" "law" s_law f fd) (Z : Fr K mg) {C_Way : Addr} (co_Way : CO K mg "Way" C_Way fs_Way) (c_parted : C8.Cal P w K mg base 11 "parted" (spF K mg 3 F_parted) []) (c__law_feed : C8.Cal P w K mg base 2 "_law_feed" (spF K mg 2 F__law_feed) []) (c__law_take : C8.Cal P w K mg base 1 "_law_take" (spF K mg 2 F__law_take) []) (c__law_small_board : C8.Cal P w K mg base 4 "_law_small_board" (spF K mg 3 F__law_small_board) []) (c__law_loud : C8.Cal P w K mg base 3 "_law_loud" (spF K mg 1 F__law_loud) []) (c__law_places : C8.Cal P w K mg base 1 "_law_places" (spF K mg 1 F__law_places) []) (c__law_spread : C8.Cal P w K mg base 2 "_law_spread" (spF K mg 2 F__law_spread) []) (c__law_as_due : C8.Cal P w K mg base 5 "_law_as_due" (spF K mg 4 F__law_as_due) []) (c__law_shown : C8.Cal P w K mg base 6 "_law_shown" (spF K mg 5 F__law_shown) []) : FnOk P w K mg base C8.CX0 12 f fd ["_law_script"] (spF K mg 1 F_law) :=
  fn_sem F sc_law rfl rfl (by decide) fun cdv A outer s H E hr => by
    have ok := bodyOk (P := P) (w := w) (K := K) (mg := mg) (base := base) (qual := "law") (cdv := cdv) (A := A) (outer := outer) (s := s) (H := H) (E := E) sc_law hr
    exact (sss_cons (ss_setP 1 ok rfl (by first | exact Or.inl rfl | exact Or.inr rfl) (se_call c__law_small_board hr (by decide) rfl (sas_v (se_p (sp_var 0)) (sas_v (se_p sp_int) (sas_v (se_p sp_int) sas_nil))))) (sss_cons (ss_if (set_cmp op_notN opv_notN (se_call c__law_loud hr (by decide) rfl (sas_v (se_p (sp_var 1)) sas_nil)) (se_p sp_non) rfl) (sss_one (ss_ret (se_p sp_bl))) sss_nil) (sss_cons (ss_setO 2 ok rfl (by first | exact Or.inl rfl | exact Or.inr rfl) (se_call c__law_feed hr (by decide) rfl (sas_v (se_p (sp_var 0)) (sas_v (se_p sp_int) sas_nil)))) (sss_cons (ss_setP 1 ok rfl (by first | exact Or.inl rfl | exact Or.inr rfl) (se_call c__law_spread hr (by decide) rfl (sas_v (se_p (sp_var 1)) (sas_io 2 sas_nil)))) (sss_cons (ss_setLcP 3 ok rfl rfl (sw_true rfl rfl rfl rfl) (si_val (se_p (sp_ix ix_seq opv_ix (sp_var 1) sp_int))) (blkOk_by (by first | rfl | decide +kernel)) (own := [("_law_guard", 8)]) (fun _ _ _ _ _ => (sg_n 8 ok.blk rfl (by first | exact Or.inl rfl | exact Or.inr rfl) wipSet)) (fun _ _ _ _ _ => (sets_one (set_cmp (op_eqD ok.blk.u64) opv_eq (se_call c__law_take hr (by decide) rfl (sas_io 2 (sas_v (se_p sp_int) sas_nil))) (se_p sp_int) rfl))) (fun _ _ _ _ _ => (se_p (sp_ix ix_seq opv_ix (sp_var 8) sp_int)))) (sss_cons (ss_setP 4 ok rfl (by first | exact Or.inl rfl | exact Or.inr rfl) (se_bin op_addF opv_add (se_p sp_int) (se_call c__law_take hr (by decide) rfl (sas_io 2 (sas_v (se_p sp_int) sas_nil))))) (sss_cons (ss_setP 5 ok rfl (by first | exact Or.inl rfl | exact Or.inr rfl) (se_call c_parted hr (by decide) rfl (sas_v (se_p (sp_var 1)) (sas_v (se_p (sp_var 4)) (sas_v (se_p (sp_var 3)) sas_nil))))) (sss_cons (ss_if (set_cmpP op_notN opv_notN (sp_var 5) sp_non rfl) (sss_one (ss_ret (se_call c__law_shown hr (by decide) rfl (sas_v (se_p (sp_var 1)) (sas_v (se_p (sp_var 3)) (sas_v (se_p (sp_var 4)) (sas_v (se_p (sp_var 5)) (sas_io 2 sas_nil)))))))) sss_nil) (sss_cons (ss_setP 6 ok rfl (by first | exact Or.inl rfl | exact Or.inr rfl) (se_call c__law_places hr (by decide) rfl (sas_v (se_p (sp_var 1)) sas_nil))) (sss_cons (ss_for ok .never (si_val (se_lst (ses_cons (se_p (sp_var 4)) (ses_cons (se_bin op_addF opv_add (se_p sp_int) (se_call c__law_take hr (by decide) rfl (sas_io 2 (sas_v (se_p (sp_var 4)) sas_nil)))) (ses_cons (se_bin op_addF opv_add (se_p sp_int) (se_call c__law_take hr (by decide) rfl (sas_io 2 (sas_v (se_p (sp_var 4)) sas_nil)))) ses_nil))))) (sg_n 7 ok rfl (by first | exact Or.inl rfl | exact Or.inr rfl) fixSet) (sss_one (ss_if (set_not (set_val (se_call c__law_as_due hr (by decide) rfl (sas_v (se_p (sp_var 1)) (sas_v (se_fz (se_ix ix_seq opv_ix (se_p (sp_var 6)) (se_call c__law_take hr (by decide) rfl (sas_io 2 (sas_v (se_p (sp_b1 call_lenF unv_len rfl Z.n_len (by rfl) (sp_var 6))) sas_nil))))) (sas_v (se_p (sp_var 7)) (sas_v (se_p (sp_var 3)) sas_nil))))))) (sss_one (ss_ret (se_p sp_bl))) sss_nil))) (sss_one (ss_ret (se_p sp_bl)))))))))))))
end
theorem ob_eq (s : PySem.W.SharedT) : ob s = hk.obs s.abs := He.obsDG_eq (HandSHeadRun.getT_eq s)
theorem facts {P : Program} {w : World} {K : PySem.W.Frag} {h : Heap} {mg : Str → Option Value} {f : Addr} (X : K.In h) (G : h.Ns mainGlobals mg) (hfa : mg ("law" : Str) = some (.ref f)) (c : He.SaysD fa fn K) :
    ∃ fd : FuncData, (∀ (s : Shared) (v : Value), BindsTo s fd ⟨[v], []⟩ [("_law_script", v)]) ∧ ∀ base : Heap, K.In base → base.Ns mainGlobals mg → FnOk P w K mg base C8.CX0 12 f fd ["_law_script"] (spF K mg 1 F_law) := by
  have Z : Fr K mg := ⟨trivial, He.free_ok X G (c.fact 49 (f := .free "all") rfl), He.free_ok X G (c.fact 50 (f := .free "any") rfl), He.free_ok X G (c.fact 51 (f := .free "dict") rfl), He.free_ok X G (c.fact 52 (f := .free "enumerate") rfl), He.free_ok X G (c.fact 53 (f := .free "int") rfl), He.free_ok X G (c.fact 54 (f := .free "len") rfl), He.free_ok X G (c.fact 55 (f := .free "list") rfl), He.free_ok X G (c.fact 56 (f := .free "range") rfl), He.free_ok X G (c.fact 57 (f := .free "sorted") rfl), He.free_ok X G (c.fact 58 (f := .free "tuple") rfl), He.free_ok X G (c.fact 59 (f := .free "zip") rfl)⟩
  have co_Way : CO K mg "Way" (He.ga K "Way") fs_Way := ⟨He.glo_ok X G (c.fact 60 (f := .glo "Way") rfl), He.cls_ok (c.fact 61 (f := .cls "Way") rfl), by
    intro q hq
    rcases List.mem_cons.mp hq with hq | hq
    · subst hq; exact He.noat_ok (c.fact 62 (f := .noat "Way" "guards") rfl)
    rcases List.mem_cons.mp hq with hq | hq
    · subst hq; exact He.noat_ok (c.fact 63 (f := .noat "Way" "idle") rfl)
    rcases List.mem_cons.mp hq with hq | hq
    · subst hq; exact He.noat_ok (c.fact 64 (f := .noat "Way" "found") rfl)
    exact absurd hq (List.not_mem_nil)⟩
  obtain ⟨fd_guards_of, D_guards_of⟩ := c.def_ 0 (d := d_guards_of) rfl
  have bi_guards_of := FunD.bindsN (ps := ["board"]) D_guards_of fun _ _ _ _ _ _ us hl => match us, hl with | [_], _ => rfl
  have g_guards_of := He.glo_ok X G (c.fact 0 (f := .glo "guards_of") rfl)
  obtain ⟨fd_loads_of, D_loads_of⟩ := c.def_ 1 (d := d_loads_of) rfl
  have bi_loads_of := FunD.bindsN (ps := ["board"]) D_loads_of fun _ _ _ _ _ _ us hl => match us, hl with | [_], _ => rfl
  have g_loads_of := He.glo_ok X G (c.fact 1 (f := .glo "loads_of") rfl)
  obtain ⟨fd_chain, D_chain⟩ := c.def_ 2 (d := d_chain) rfl
  have bi_chain := FunD.bindsN (ps := ["guards", "name"]) D_chain fun _ _ _ _ _ _ us hl => match us, hl with | [_, _], _ => rfl
  have g_chain := He.glo_ok X G (c.fact 2 (f := .glo "chain") rfl)
  obtain ⟨fd_over, D_over⟩ := c.def_ 3 (d := d_over) rfl
  have bi_over := FunD.bindsN (ps := ["board", "place"]) D_over fun _ _ _ _ _ _ us hl => match us, hl with | [_, _], _ => rfl
  have g_over := He.glo_ok X G (c.fact 3 (f := .glo "over") rfl)
  obtain ⟨fd_draws, D_draws⟩ := c.def_ 4 (d := d_draws) rfl
  have bi_draws := FunD.bindsN (ps := ["board", "opened", "pulls"]) D_draws fun _ _ _ _ _ _ us hl => match us, hl with | [_, _, _], _ => rfl
  have g_draws := He.glo_ok X G (c.fact 4 (f := .glo "draws") rfl)
  obtain ⟨fd_rest, D_rest⟩ := c.def_ 5 (d := d_rest) rfl
  have bi_rest := FunD.bindsN (ps := ["board"]) D_rest fun _ _ _ _ _ _ us hl => match us, hl with | [_], _ => rfl
  have g_rest := He.glo_ok X G (c.fact 5 (f := .glo "rest") rfl)
  obtain ⟨fd_least_of, D_least_of⟩ := c.def_ 6 (d := d_least_of) rfl
  have bi_least_of := FunD.bindsN (ps := ["curve"]) D_least_of fun _ _ _ _ _ _ us hl => match us, hl with | [_], _ => rfl
  have g_least_of := He.glo_ok X G (c.fact 6 (f := .glo "least_of") rfl)
  obtain ⟨fd_awake, D_awake⟩ := c.def_ 7 (d := d_awake) rfl
  have bi_awake := FunD.bindsN (ps := ["board", "found"]) D_awake fun _ _ _ _ _ _ us hl => match us, hl with | [_, _], _ => rfl
  have g_awake := He.glo_ok X G (c.fact 7 (f := .glo "awake") rfl)
  obtain ⟨fd_loud, D_loud⟩ := c.def_ 8 (d := d_loud) rfl
  have bi_loud := FunD.bindsN (ps := ["board"]) D_loud fun _ _ _ _ _ _ us hl => match us, hl with | [_], _ => rfl
  have g_loud := He.glo_ok X G (c.fact 8 (f := .glo "loud") rfl)
  obtain ⟨fd_ask_quiet, D_ask_quiet⟩ := c.def_ 9 (d := d_ask_quiet) rfl
  have bi_ask_quiet := FunD.bindsN (ps := ["board"]) D_ask_quiet fun _ _ _ _ _ _ us hl => match us, hl with | [_], _ => rfl
  have g_ask_quiet := He.glo_ok X G (c.fact 9 (f := .glo "ask_quiet") rfl)
  obtain ⟨fd_is_off, D_is_off⟩ := c.def_ 10 (d := d_is_off) rfl
  have bi_is_off := FunD.bindsN (ps := ["board", "place"]) D_is_off fun _ _ _ _ _ _ us hl => match us, hl with | [_, _], _ => rfl
  have g_is_off := He.glo_ok X G (c.fact 10 (f := .glo "is_off") rfl)
  obtain ⟨fd_Way___init__, D_Way___init__⟩ := c.def_ 11 (d := d_Way___init__) rfl
  have bi_Way___init__ := FunD.bindsN (ps := ["self", "board", "place"]) D_Way___init__ fun _ _ _ _ _ _ us hl => match us, hl with | [_, _, _], _ => rfl
  have g_Way___init__ := He.mkr_ok (c.fact 11 (f := .mkr "Way") rfl)
  obtain ⟨fd_stuck_list, D_stuck_list⟩ := c.def_ 12 (d := d_stuck_list) rfl
  have bi_stuck_list := FunD.bindsN (ps := ["stuck"]) D_stuck_list fun _ _ _ _ _ _ us hl => match us, hl with | [_], _ => rfl
  have g_stuck_list := He.glo_ok X G (c.fact 12 (f := .glo "stuck_list") rfl)
  obtain ⟨fd_Way_lows, D_Way_lows⟩ := c.def_ 13 (d := d_Way_lows) rfl
  have bi_Way_lows := FunD.bindsN (ps := ["self", "most"]) D_Way_lows fun _ _ _ _ _ _ us hl => match us, hl with | [_, _], _ => rfl
  have g_Way_lows := He.meth_ok (c.fact 13 (f := .meth "Way" "lows") rfl)
  obtain ⟨fd_met, D_met⟩ := c.def_ 14 (d := d_met) rfl
  have bi_met := FunD.bindsN (ps := ["curve", "draw"]) D_met fun _ _ _ _ _ _ us hl => match us, hl with | [_, _], _ => rfl
  have g_met := He.glo_ok X G (c.fact 14 (f := .glo "met") rfl)
  obtain ⟨fd_turns_at, D_turns_at⟩ := c.def_ 15 (d := d_turns_at) rfl
  have bi_turns_at := FunD.bindsN (ps := ["curve", "draw"]) D_turns_at fun _ _ _ _ _ _ us hl => match us, hl with | [_, _], _ => rfl
  have g_turns_at := He.glo_ok X G (c.fact 15 (f := .glo "turns_at") rfl)
  obtain ⟨fd_Way_turns, D_Way_turns⟩ := c.def_ 16 (d := d_Way_turns) rfl
  have bi_Way_turns := FunD.bindsN (ps := ["self", "at", "greatness"]) D_Way_turns fun _ _ _ _ _ _ us hl => match us, hl with | [_, _, _], _ => rfl
  have g_Way_turns := He.meth_ok (c.fact 16 (f := .meth "Way" "turns") rfl)
  obtain ⟨fd_Way_is_held, D_Way_is_held⟩ := c.def_ 17 (d := d_Way_is_held) rfl
  have bi_Way_is_held := FunD.bindsN (ps := ["self", "at", "greatness"]) D_Way_is_held fun _ _ _ _ _ _ us hl => match us, hl with | [_, _, _], _ => rfl
  have g_Way_is_held := He.meth_ok (c.fact 17 (f := .meth "Way" "is_held") rfl)
  obtain ⟨fd_Way_opening, D_Way_opening⟩ := c.def_ 18 (d := d_Way_opening) rfl
  have bi_Way_opening := FunD.bindsN (ps := ["self", "greatness", "stuck"]) D_Way_opening fun _ _ _ _ _ _ us hl => match us, hl with | [_, _, _], _ => rfl
  have g_Way_opening := He.meth_ok (c.fact 18 (f := .meth "Way" "opening") rfl)
  obtain ⟨fd_map_of, D_map_of⟩ := c.def_ 19 (d := d_map_of) rfl
  have bi_map_of := binds_drop (FunD.binds1 (ps := ["board", "place", "most", "stuck"]) D_map_of 4 1 (by intro h; exact absurd h (List.cons_ne_nil _ _)) rfl fun _ _ _ _ _ _ _ us its hu hi => match us, its, hu, hi with | [_, _, _, _], [_], _, _ => ⟨_, rfl, rfl⟩)
  have g_map_of := He.glo_ok X G (c.fact 19 (f := .glo "map_of") rfl)
  obtain ⟨fd_nearest, D_nearest⟩ := c.def_ 20 (d := d_nearest) rfl
  have bi_nearest := FunD.bindsN (ps := ["way", "some"]) D_nearest fun _ _ _ _ _ _ us hl => match us, hl with | [_, _], _ => rfl
  have g_nearest := He.glo_ok X G (c.fact 20 (f := .glo "nearest") rfl)
  obtain ⟨fd_unparted, D_unparted⟩ := c.def_ 21 (d := d_unparted) rfl
  have bi_unparted := binds_drop (FunD.binds1 (ps := ["board", "place", "most", "stuck"]) D_unparted 4 1 (by intro h; exact absurd h (List.cons_ne_nil _ _)) rfl fun _ _ _ _ _ _ _ us its hu hi => match us, its, hu, hi with | [_, _, _, _], [_], _, _ => ⟨_, rfl, rfl⟩)
  have g_unparted := He.glo_ok X G (c.fact 21 (f := .glo "unparted") rfl)
  obtain ⟨fd_parted, D_parted⟩ := c.def_ 22 (d := d_parted) rfl
  have bi_parted := binds_drop (FunD.binds1 (ps := ["board", "most", "stuck"]) D_parted 3 1 (by intro h; exact absurd h (List.cons_ne_nil _ _)) rfl fun _ _ _ _ _ _ _ us its hu hi => match us, its, hu, hi with | [_, _, _], [_], _, _ => ⟨_, rfl, rfl⟩)
  have g_parted := He.glo_ok X G (c.fact 22 (f := .glo "parted") rfl)
  obtain ⟨fd__law_cell_at, D__law_cell_at⟩ := c.def_ 23 (d := d__law_cell_at) rfl
  have bi__law_cell_at := FunD.bindsN (ps := ["_law_script", "_law_k"]) D__law_cell_at fun _ _ _ _ _ _ us hl => match us, hl with | [_, _], _ => rfl
  have g__law_cell_at := He.glo_ok X G (c.fact 23 (f := .glo "_law_cell_at") rfl)
  obtain ⟨fd__law_feed, D__law_feed⟩ := c.def_ 24 (d := d__law_feed) rfl
  have bi__law_feed := FunD.bindsN (ps := ["_law_script", "_law_k"]) D__law_feed fun _ _ _ _ _ _ us hl => match us, hl with | [_, _], _ => rfl
  have g__law_feed := He.glo_ok X G (c.fact 24 (f := .glo "_law_feed") rfl)
  obtain ⟨fd__law_take, D__law_take⟩ := c.def_ 25 (d := d__law_take) rfl
  have bi__law_take := FunD.bindsN (ps := ["_law_feed_here", "_law_many"]) D__law_take fun _ _ _ _ _ _ us hl => match us, hl with | [_, _], _ => rfl
  have g__law_take := He.glo_ok X G (c.fact 25 (f := .glo "_law_take") rfl)
  obtain ⟨fd__law_names, D__law_names⟩ := c.def_ 26 (d := d__law_names) rfl
  have bi__law_names := FunD.bindsN (ps := ["_law_feed_here", "_law_many"]) D__law_names fun _ _ _ _ _ _ us hl => match us, hl with | [_, _], _ => rfl
  have g__law_names := He.glo_ok X G (c.fact 26 (f := .glo "_law_names") rfl)
  obtain ⟨fd__law_lifted, D__law_lifted⟩ := c.def_ 27 (d := d__law_lifted) rfl
  have bi__law_lifted := FunD.bindsN (ps := ["_law_guard", "_law_more_here"]) D__law_lifted fun _ _ _ _ _ _ us hl => match us, hl with | [_, _], _ => rfl
  have g__law_lifted := He.glo_ok X G (c.fact 27 (f := .glo "_law_lifted") rfl)
  obtain ⟨fd__law_overs, D__law_overs⟩ := c.def_ 28 (d := d__law_overs) rfl
  have bi__law_overs := FunD.bindsN (ps := ["_law_board"]) D__law_overs fun _ _ _ _ _ _ us hl => match us, hl with | [_], _ => rfl
  have g__law_overs := He.glo_ok X G (c.fact 28 (f := .glo "_law_overs") rfl)
  obtain ⟨fd__law_rest, D__law_rest⟩ := c.def_ 29 (d := d__law_rest) rfl
  have bi__law_rest := FunD.bindsN (ps := ["_law_board"]) D__law_rest fun _ _ _ _ _ _ us hl => match us, hl with | [_], _ => rfl
  have g__law_rest := He.glo_ok X G (c.fact 29 (f := .glo "_law_rest") rfl)
  obtain ⟨fd__law_small_curve, D__law_small_curve⟩ := c.def_ 30 (d := d__law_small_curve) rfl
  have bi__law_small_curve := FunD.bindsN (ps := ["_law_feed_here", "_law_unit", "_law_time"]) D__law_small_curve fun _ _ _ _ _ _ us hl => match us, hl with | [_, _, _], _ => rfl
  have g__law_small_curve := He.glo_ok X G (c.fact 30 (f := .glo "_law_small_curve") rfl)
  obtain ⟨fd__law_small_guards, D__law_small_guards⟩ := c.def_ 31 (d := d__law_small_guards) rfl
  have bi__law_small_guards := FunD.bindsN (ps := ["_law_script", "_law_names_here", "_law_unit", "_law_time"]) D__law_small_guards fun _ _ _ _ _ _ us hl => match us, hl with | [_, _, _, _], _ => rfl
  have g__law_small_guards := He.glo_ok X G (c.fact 31 (f := .glo "_law_small_guards") rfl)
  obtain ⟨fd__law_small_loads, D__law_small_loads⟩ := c.def_ 32 (d := d__law_small_loads) rfl
  have bi__law_small_loads := FunD.bindsN (ps := ["_law_script", "_law_names_here", "_law_guards", "_law_unit", "_law_time"]) D__law_small_loads fun _ _ _ _ _ _ us hl => match us, hl with | [_, _, _, _, _], _ => rfl
  have g__law_small_loads := He.glo_ok X G (c.fact 32 (f := .glo "_law_small_loads") rfl)
  obtain ⟨fd__law_small_board, D__law_small_board⟩ := c.def_ 33 (d := d__law_small_board) rfl
  have bi__law_small_board := FunD.bindsN (ps := ["_law_script", "_law_unit", "_law_time"]) D__law_small_board fun _ _ _ _ _ _ us hl => match us, hl with | [_, _, _], _ => rfl
  have g__law_small_board := He.glo_ok X G (c.fact 33 (f := .glo "_law_small_board") rfl)
  obtain ⟨fd__law_loud, D__law_loud⟩ := c.def_ 34 (d := d__law_loud) rfl
  have bi__law_loud := FunD.bindsN (ps := ["_law_board"]) D__law_loud fun _ _ _ _ _ _ us hl => match us, hl with | [_], _ => rfl
  have g__law_loud := He.glo_ok X G (c.fact 34 (f := .glo "_law_loud") rfl)
  obtain ⟨fd__law_places, D__law_places⟩ := c.def_ 35 (d := d__law_places) rfl
  have bi__law_places := FunD.bindsN (ps := ["_law_board"]) D__law_places fun _ _ _ _ _ _ us hl => match us, hl with | [_], _ => rfl
  have g__law_places := He.glo_ok X G (c.fact 35 (f := .glo "_law_places") rfl)
  obtain ⟨fd__law_spread, D__law_spread⟩ := c.def_ 36 (d := d__law_spread) rfl
  have bi__law_spread := FunD.bindsN (ps := ["_law_board", "_law_feed_here"]) D__law_spread fun _ _ _ _ _ _ us hl => match us, hl with | [_, _], _ => rfl
  have g__law_spread := He.glo_ok X G (c.fact 36 (f := .glo "_law_spread") rfl)
  obtain ⟨fd__law_began, D__law_began⟩ := c.def_ 37 (d := d__law_began) rfl
  have bi__law_began := FunD.bindsN (ps := ["_law_board"]) D__law_began fun _ _ _ _ _ _ us hl => match us, hl with | [_], _ => rfl
  have g__law_began := He.glo_ok X G (c.fact 37 (f := .glo "_law_began") rfl)
  obtain ⟨fd__law_is_fed, D__law_is_fed⟩ := c.def_ 38 (d := d__law_is_fed) rfl
  have bi__law_is_fed := FunD.bindsN (ps := ["_law_state", "_law_place"]) D__law_is_fed fun _ _ _ _ _ _ us hl => match us, hl with | [_, _], _ => rfl
  have g__law_is_fed := He.glo_ok X G (c.fact 38 (f := .glo "_law_is_fed") rfl)
  obtain ⟨fd__law_settled, D__law_settled⟩ := c.def_ 39 (d := d__law_settled) rfl
  have bi__law_settled := FunD.bindsN (ps := ["_law_board", "_law_state"]) D__law_settled fun _ _ _ _ _ _ us hl => match us, hl with | [_, _], _ => rfl
  have g__law_settled := He.glo_ok X G (c.fact 39 (f := .glo "_law_settled") rfl)
  obtain ⟨fd__law_did, D__law_did⟩ := c.def_ 40 (d := d__law_did) rfl
  have bi__law_did := FunD.bindsN (ps := ["_law_board", "_law_state", "_law_deed"]) D__law_did fun _ _ _ _ _ _ us hl => match us, hl with | [_, _, _], _ => rfl
  have g__law_did := He.glo_ok X G (c.fact 40 (f := .glo "_law_did") rfl)
  obtain ⟨fd__law_pull, D__law_pull⟩ := c.def_ 41 (d := d__law_pull) rfl
  have bi__law_pull := FunD.bindsN (ps := ["_law_load", "_law_age"]) D__law_pull fun _ _ _ _ _ _ us hl => match us, hl with | [_, _], _ => rfl
  have g__law_pull := He.glo_ok X G (c.fact 41 (f := .glo "_law_pull") rfl)
  obtain ⟨fd__law_found, D__law_found⟩ := c.def_ 42 (d := d__law_found) rfl
  have bi__law_found := FunD.bindsN (ps := ["_law_board", "_law_state"]) D__law_found fun _ _ _ _ _ _ us hl => match us, hl with | [_, _], _ => rfl
  have g__law_found := He.glo_ok X G (c.fact 42 (f := .glo "_law_found") rfl)
  obtain ⟨fd__law_more, D__law_more⟩ := c.def_ 43 (d := d__law_more) rfl
  have bi__law_more := FunD.bindsN (ps := ["_law_board", "_law_guard", "_law_found_here"]) D__law_more fun _ _ _ _ _ _ us hl => match us, hl with | [_, _, _], _ => rfl
  have g__law_more := He.glo_ok X G (c.fact 43 (f := .glo "_law_more") rfl)
  obtain ⟨fd__law_passed, D__law_passed⟩ := c.def_ 44 (d := d__law_passed) rfl
  have bi__law_passed := FunD.bindsN (ps := ["_law_board", "_law_state", "_law_stuck"]) D__law_passed fun _ _ _ _ _ _ us hl => match us, hl with | [_, _, _], _ => rfl
  have g__law_passed := He.glo_ok X G (c.fact 44 (f := .glo "_law_passed") rfl)
  obtain ⟨fd__law_opens, D__law_opens⟩ := c.def_ 45 (d := d__law_opens) rfl
  have bi__law_opens := FunD.bindsN (ps := ["_law_board", "_law_place", "_law_greatness", "_law_stuck"]) D__law_opens fun _ _ _ _ _ _ us hl => match us, hl with | [_, _, _, _], _ => rfl
  have g__law_opens := He.glo_ok X G (c.fact 45 (f := .glo "_law_opens") rfl)
  obtain ⟨fd__law_as_due, D__law_as_due⟩ := c.def_ 46 (d := d__law_as_due) rfl
  have bi__law_as_due := FunD.bindsN (ps := ["_law_board", "_law_place", "_law_greatness", "_law_stuck"]) D__law_as_due fun _ _ _ _ _ _ us hl => match us, hl with | [_, _, _, _], _ => rfl
  have g__law_as_due := He.glo_ok X G (c.fact 46 (f := .glo "_law_as_due") rfl)
  obtain ⟨fd__law_shown, D__law_shown⟩ := c.def_ 47 (d := d__law_shown) rfl
  have bi__law_shown := FunD.bindsN (ps := ["_law_board", "_law_stuck", "_law_most", "_law_found_here", "_law_feed_here"]) D__law_shown fun _ _ _ _ _ _ us hl => match us, hl with | [_, _, _, _, _], _ => rfl
  have g__law_shown := He.glo_ok X G (c.fact 47 (f := .glo "_law_shown") rfl)
  obtain ⟨fd_law, D_law⟩ := c.def_ 48 (d := d_law) rfl
  have e := hfa.symm.trans (He.glo_ok X G (c.fact 48 (f := .glo "law") rfl))
  cases e
  have b := FunD.bindsA (ps := ["_law_script"]) D_law fun _ _ _ _ _ _ us hl => match us, hl with | [_], _ => rfl
  refine ⟨fd_law, fun s v => b s [v] rfl, fun base _ _ => ?_⟩
  have k_guards_of := c_guards_of (P := P) (w := w) (base := base) ⟨fun_of D_guards_of, g_guards_of, D_guards_of.kp⟩ bi_guards_of Z co_Way 
  have k_loads_of := c_loads_of (P := P) (w := w) (base := base) ⟨fun_of D_loads_of, g_loads_of, D_loads_of.kp⟩ bi_loads_of Z co_Way 
  have k_chain := c_chain (P := P) (w := w) (base := base) ⟨fun_of D_chain, g_chain, D_chain.kp⟩ bi_chain Z co_Way 
  have k_over := c_over (P := P) (w := w) (base := base) ⟨fun_of D_over, g_over, D_over.kp⟩ bi_over Z co_Way k_guards_of k_chain
  have k_draws := c_draws (P := P) (w := w) (base := base) ⟨fun_of D_draws, g_draws, D_draws.kp⟩ bi_draws Z co_Way k_guards_of k_over
  have k_rest := c_rest (P := P) (w := w) (base := base) ⟨fun_of D_rest, g_rest, D_rest.kp⟩ bi_rest Z co_Way k_draws
  have k_least_of := c_least_of (P := P) (w := w) (base := base) ⟨fun_of D_least_of, g_least_of, D_least_of.kp⟩ bi_least_of Z co_Way 
  have k_awake := c_awake (P := P) (w := w) (base := base) ⟨fun_of D_awake, g_awake, D_awake.kp⟩ bi_awake Z co_Way k_least_of
  have k_loud := c_loud (P := P) (w := w) (base := base) ⟨fun_of D_loud, g_loud, D_loud.kp⟩ bi_loud Z co_Way k_rest k_awake
  have k_ask_quiet := c_ask_quiet (P := P) (w := w) (base := base) ⟨fun_of D_ask_quiet, g_ask_quiet, D_ask_quiet.kp⟩ bi_ask_quiet Z co_Way k_loud
  have k_is_off := c_is_off (P := P) (w := w) (base := base) ⟨fun_of D_is_off, g_is_off, D_is_off.kp⟩ bi_is_off Z co_Way 
  have k_Way___init__ := c_Way___init__ (P := P) (w := w) (base := base) co_Way g_Way___init__ (fun_of D_Way___init__) bi_Way___init__ Z k_over k_rest k_ask_quiet k_is_off
  have k_stuck_list := c_stuck_list (P := P) (w := w) (base := base) ⟨fun_of D_stuck_list, g_stuck_list, D_stuck_list.kp⟩ bi_stuck_list Z co_Way 
  have k_Way_lows := c_Way_lows (P := P) (w := w) (base := base) co_Way g_Way_lows (fun_of D_Way_lows) bi_Way_lows Z 
  have k_met := c_met (P := P) (w := w) (base := base) ⟨fun_of D_met, g_met, D_met.kp⟩ bi_met Z co_Way 
  have k_turns_at := c_turns_at (P := P) (w := w) (base := base) ⟨fun_of D_turns_at, g_turns_at, D_turns_at.kp⟩ bi_turns_at Z co_Way k_met
  have k_Way_turns := c_Way_turns (P := P) (w := w) (base := base) co_Way g_Way_turns (fun_of D_Way_turns) bi_Way_turns Z k_turns_at
  have k_Way_is_held := c_Way_is_held (P := P) (w := w) (base := base) co_Way g_Way_is_held (fun_of D_Way_is_held) bi_Way_is_held Z k_Way_turns
  have k_Way_opening := c_Way_opening (P := P) (w := w) (base := base) co_Way g_Way_opening (fun_of D_Way_opening) bi_Way_opening Z k_Way_turns k_Way_is_held
  have k_map_of := c_map_of (P := P) (w := w) (base := base) ⟨fun_ofD D_map_of, g_map_of, D_map_of.kp⟩ bi_map_of Z co_Way k_Way___init__ k_stuck_list k_Way_lows k_Way_opening
  have k_nearest := c_nearest (P := P) (w := w) (base := base) ⟨fun_of D_nearest, g_nearest, D_nearest.kp⟩ bi_nearest Z co_Way 
  have k_unparted := c_unparted (P := P) (w := w) (base := base) ⟨fun_ofD D_unparted, g_unparted, D_unparted.kp⟩ bi_unparted Z co_Way k_Way___init__ k_stuck_list k_map_of k_nearest
  have k_parted := c_parted (P := P) (w := w) (base := base) ⟨fun_ofD D_parted, g_parted, D_parted.kp⟩ bi_parted Z co_Way k_guards_of k_loads_of k_ask_quiet k_unparted
  have k__law_cell_at := c__law_cell_at (P := P) (w := w) (base := base) ⟨fun_of D__law_cell_at, g__law_cell_at, D__law_cell_at.kp⟩ bi__law_cell_at Z co_Way 
  have k__law_feed := c__law_feed (P := P) (w := w) (base := base) ⟨fun_of D__law_feed, g__law_feed, D__law_feed.kp⟩ bi__law_feed Z co_Way k__law_cell_at
  have k__law_take := c__law_take (P := P) (w := w) (base := base) ⟨fun_of D__law_take, g__law_take, D__law_take.kp⟩ bi__law_take Z co_Way 
  have k__law_names := c__law_names (P := P) (w := w) (base := base) ⟨fun_of D__law_names, g__law_names, D__law_names.kp⟩ bi__law_names Z co_Way k__law_take
  have k__law_lifted := c__law_lifted (P := P) (w := w) (base := base) ⟨fun_of D__law_lifted, g__law_lifted, D__law_lifted.kp⟩ bi__law_lifted Z co_Way 
  have k__law_overs := c__law_overs (P := P) (w := w) (base := base) ⟨fun_of D__law_overs, g__law_overs, D__law_overs.kp⟩ bi__law_overs Z co_Way 
  have k__law_rest := c__law_rest (P := P) (w := w) (base := base) ⟨fun_of D__law_rest, g__law_rest, D__law_rest.kp⟩ bi__law_rest Z co_Way k__law_overs
  have k__law_small_curve := c__law_small_curve (P := P) (w := w) (base := base) ⟨fun_of D__law_small_curve, g__law_small_curve, D__law_small_curve.kp⟩ bi__law_small_curve Z co_Way k__law_take
  have k__law_small_guards := c__law_small_guards (P := P) (w := w) (base := base) ⟨fun_of D__law_small_guards, g__law_small_guards, D__law_small_guards.kp⟩ bi__law_small_guards Z co_Way k__law_feed k__law_take k__law_small_curve
  have k__law_small_loads := c__law_small_loads (P := P) (w := w) (base := base) ⟨fun_of D__law_small_loads, g__law_small_loads, D__law_small_loads.kp⟩ bi__law_small_loads Z co_Way k__law_feed k__law_take
  have k__law_small_board := c__law_small_board (P := P) (w := w) (base := base) ⟨fun_of D__law_small_board, g__law_small_board, D__law_small_board.kp⟩ bi__law_small_board Z co_Way k__law_feed k__law_take k__law_names k__law_lifted k__law_rest k__law_small_guards k__law_small_loads
  have k__law_loud := c__law_loud (P := P) (w := w) (base := base) ⟨fun_of D__law_loud, g__law_loud, D__law_loud.kp⟩ bi__law_loud Z co_Way k__law_rest
  have k__law_places := c__law_places (P := P) (w := w) (base := base) ⟨fun_of D__law_places, g__law_places, D__law_places.kp⟩ bi__law_places Z co_Way 
  have k__law_spread := c__law_spread (P := P) (w := w) (base := base) ⟨fun_of D__law_spread, g__law_spread, D__law_spread.kp⟩ bi__law_spread Z co_Way k__law_take k__law_overs
  have k__law_began := c__law_began (P := P) (w := w) (base := base) ⟨fun_of D__law_began, g__law_began, D__law_began.kp⟩ bi__law_began Z co_Way k__law_overs
  have k__law_is_fed := c__law_is_fed (P := P) (w := w) (base := base) ⟨fun_of D__law_is_fed, g__law_is_fed, D__law_is_fed.kp⟩ bi__law_is_fed Z co_Way 
  have k__law_settled := c__law_settled (P := P) (w := w) (base := base) ⟨fun_of D__law_settled, g__law_settled, D__law_settled.kp⟩ bi__law_settled Z co_Way k__law_is_fed
  have k__law_did := c__law_did (P := P) (w := w) (base := base) ⟨fun_of D__law_did, g__law_did, D__law_did.kp⟩ bi__law_did Z co_Way k__law_settled
  have k__law_pull := c__law_pull (P := P) (w := w) (base := base) ⟨fun_of D__law_pull, g__law_pull, D__law_pull.kp⟩ bi__law_pull Z co_Way 
  have k__law_found := c__law_found (P := P) (w := w) (base := base) ⟨fun_of D__law_found, g__law_found, D__law_found.kp⟩ bi__law_found Z co_Way k__law_is_fed k__law_pull
  have k__law_more := c__law_more (P := P) (w := w) (base := base) ⟨fun_of D__law_more, g__law_more, D__law_more.kp⟩ bi__law_more Z co_Way 
  have k__law_passed := c__law_passed (P := P) (w := w) (base := base) ⟨fun_of D__law_passed, g__law_passed, D__law_passed.kp⟩ bi__law_passed Z co_Way k__law_settled k__law_found k__law_more
  have k__law_opens := c__law_opens (P := P) (w := w) (base := base) ⟨fun_of D__law_opens, g__law_opens, D__law_opens.kp⟩ bi__law_opens Z co_Way k__law_began k__law_did k__law_passed
  have k__law_as_due := c__law_as_due (P := P) (w := w) (base := base) ⟨fun_of D__law_as_due, g__law_as_due, D__law_as_due.kp⟩ bi__law_as_due Z co_Way k__law_overs k__law_opens
  have k__law_shown := c__law_shown (P := P) (w := w) (base := base) ⟨fun_of D__law_shown, g__law_shown, D__law_shown.kp⟩ bi__law_shown Z co_Way k__law_take k__law_places k__law_opens k__law_as_due
  exact c_law (fun_of D_law) Z co_Way k_parted k__law_feed k__law_take k__law_small_board k__law_loud k__law_places k__law_spread k__law_as_due k__law_shown
end Wk

namespace Lw
open PySem PySem.Spec L2 FB Wk
open PyProof.Rows hiding St
def fd (c r n : Int) : O := .lst [.val (.int c), .val (.int r), .val (.int n)]
/-- a feed, so many takings left -/
def Fok (k : Int) (o : O) : Prop := ∃ c r n, o = fd c r n ∧ 0 ≤ n ∧ n + k ≤ 1000000000
theorem Fok.less {k l : Int} {o : O} (h : Fok k o) (q : l ≤ k) : Fok l o := by
  obtain ⟨c, r, n, e, h1, h2⟩ := h
  exact ⟨c, r, n, e, h1, by omega⟩
/-- a script: as it came, or cut -/
def Sc (x : O) (ns : List Int) : Prop := x = .val (.scr ns) ∨ x = .val (.lst (ns.map D.int))
theorem cell_at {x : O} {ns : List Int} (h : Sc x ns) (i : Nat) : ∃ c, F__law_cell_at [x, .val (.int i)] = some (.val (.int c), [none, none]) := by
  unfold F__law_cell_at
  rw [runF_eq]
  by_cases hi : i < ns.length
  · have e0 : atI ns (i : Int) = some ns[i] := by rw [atN, List.getElem?_eq_getElem hi]
    have e1 : ixO (.val (.scr ns)) (.val (.int (i : Int))) = some (.val (.int ns[i])) := by
      show ((atI ns (i : Int)).map fun n => O.val (.int n)) = _
      rw [e0]; rfl
    have e2 : atI (ns.map D.int) (i : Int) = some (.int ns[i]) := by rw [atN, List.getElem?_map, List.getElem?_eq_getElem hi]; rfl
    refine ⟨ns[i], ?_⟩
    rcases h with h | h <;> subst h <;> simp [b__law_cell_at, hi, e1, e2] <;> rfl
  · refine ⟨0, ?_⟩
    rcases h with h | h <;> subst h <;> simp [b__law_cell_at, hi] <;> rfl
theorem feed {x : O} {ns : List Int} (h : Sc x ns) (i : Nat) (hi : i ≤ 1000) : ∃ o, F__law_feed [x, .val (.int i)] = some (o, [none, none]) ∧ Fok 900000000 o := by
  obtain ⟨c, e⟩ := cell_at h i
  have mu : mulD (.int 100) (.int (i : Int)) = some (.int (100 * (i : Int))) := by unfold mulD mulOk; simp
  refine ⟨fd c c (100 * i), ?_, c, c, 100 * i, rfl, by omega, by omega⟩
  unfold F__law_feed
  rw [runF_eq]
  rcases h with h | h <;> subst h <;> simp [b__law_feed, e, mu, fd] <;> rfl
theorem mulD_l (i j : Int) (h : i.natAbs < 18446744073709551616) : mulD (.int i) (.int j) = some (.int (i * j)) := by
  unfold mulD mulOk; simp [h]
theorem mulD_r (i j : Int) (h : j.natAbs < 18446744073709551616) : mulD (.int i) (.int j) = some (.int (i * j)) := by
  unfold mulD mulOk; simp [h]
theorem take (o : O) (m k : Int) (h : Fok (k + 1) o) (hk : 0 ≤ k) (h0 : 0 < m) (hl : m.natAbs.log2 < 9000) : ∃ r o', F__law_take [o, .val (.int m)] = some (.val (.int r), [some o', none]) ∧ Fok k o' ∧ 0 ≤ r ∧ r < m := by
  obtain ⟨c, r, n, rfl, n0, n1⟩ := h
  unfold F__law_take
  rw [runF_eq]
  have l5 : Nat.log2 5 < 9000 := by decide
  by_cases hc : 1000000000000000000 ≤ c ∧ 0 < r
  · obtain ⟨h1, h2⟩ := hc
    refine ⟨r % m, fd c (r / m) (n + 1), ?_, ⟨_, _, _, rfl, by omega, by omega⟩, Int.emod_nonneg _ (by omega), Int.emod_lt_of_pos _ h0⟩
    simp [b__law_take, fd, e_pow, h1, h2, e_mod, e_fdiv, h0, hl]
    rfl
  · have nn : mulD (.int (n + 1)) (.int (n + 1)) = some (.int ((n + 1) * (n + 1))) := mulD_l _ _ (by omega)
    have na : mulD (.int 7919) (.int (n + 1)) = some (.int (7919 * (n + 1))) := mulD_l _ _ (by decide)
    have nb : ∀ x : Int, mulD (.int x) (.int 69621) = some (.int (x * 69621)) := fun x => mulD_r _ _ (by decide)
    have nc : ∀ x : Int, mulD (.int x) (.int 48271) = some (.int (x * 48271)) := fun x => mulD_r _ _ (by decide)
    have nd : ∀ x y : Int, mulD (.int x) (.int (y % 65521 + 3)) = some (.int (x * (y % 65521 + 3))) := fun x y => mulD_r _ _ (by omega)
    have hb : ¬ (1000000000000000000 ≤ c ∧ 0 < r) := hc
    refine ⟨(let v := (c % 2147483629 * 48271 + 7919 * (n + 1) + (n + 1) * (n + 1) * 69621 + 11) % 2147483647; v * (v % 65521 + 3) % 2147483629 / 5 % m), fd c r (n + 1), ?_, ⟨_, _, _, rfl, by omega, by omega⟩, Int.emod_nonneg _ (by omega), Int.emod_lt_of_pos _ h0⟩
    by_cases h1 : 1000000000000000000 ≤ c
    · have h2 : ¬ 0 < r := fun z => hb ⟨h1, z⟩
      simp [b__law_take, fd, e_pow, h1, h2, e_mod, e_fdiv, nn, na, nb, nc, nd, h0, hl, l5]
      rfl
    · simp [b__law_take, fd, e_pow, h1, e_mod, e_fdiv, nn, na, nb, nc, nd, h0, hl, l5]
      rfl
theorem log_big {x : Int} (h0 : 0 ≤ x) (h : x ≤ 10000000000000000000000000000000000000000000000000000000000000) : x.natAbs.log2 < 9000 := by
  have h2 : x.natAbs ≤ 10000000000000000000000000000000000000000000000000000000000000 := by omega
  have h3 : x.natAbs.log2 ≤ Nat.log2 10000000000000000000000000000000000000000000000000000000000000 := by
    rcases Nat.eq_zero_or_pos x.natAbs with e | e
    · rw [e]; simp
    · rw [Nat.le_log2 (by decide)]
      exact Nat.le_trans (Nat.log2_self_le (by omega)) h2
  exact Nat.lt_of_le_of_lt h3 (by decide)

end Lw

namespace Lw
open PySem PySem.Spec L2 FB Wk
open PyProof.Rows hiding St
def nO (ns : List (List Nat)) : O := vO (ns.map fun l => D.str (SL l))
def lN (bs : List Nat) : O := vO (bs.map fun b : Nat => D.int (b : Int))
theorem lN_set (bs : List Nat) (i v : Nat) (h : i < bs.length) : setItO (lN bs) (.val (.int (i : Int))) (.val (.int (v : Int))) = some (lN (bs.set i v)) := by
  unfold lN
  rw [vO_set _ _ _ (by simpa using h)]; simp
theorem lV_ix (bs : List Nat) (i : Nat) (h : i < bs.length) : ixO (.val (.lst (bs.map fun b : Nat => D.int (b : Int)))) (.val (.int (i : Int))) = some (.val (.int (bs.getD i 0 : Nat))) := by
  show ((atI (bs.map fun b : Nat => D.int (b : Int)) (i : Int)).map O.val) = _
  rw [atN, List.getElem?_map, List.getElem?_eq_getElem h]
  simp [List.getD_eq_getElem?_getD, List.getElem?_eq_getElem h]
theorem rep1 (n c : Nat) : (List.replicate n [c]).flatten = List.replicate n c := by simp
def nmA (f k : Nat) : List Nat := List.replicate (1 + k / 26) ((f + k) % 26)
theorem nmA_ok (f k : Nat) (h : k < 40) : NameOk (nmA f k) := by
  refine ⟨by unfold nmA; simp, by unfold nmA; simp; omega, fun c hc => ?_⟩
  unfold nmA at hc
  rw [(List.mem_replicate.mp hc).2]; omega
theorem nmA_inj {f i j : Nat} (hi : i < 40) (hj : j < 40) (h : nmA f i = nmA f j) : i = j := by
  have h1 : (nmA f i).length = (nmA f j).length := by rw [h]
  unfold nmA at h1 h
  simp at h1
  have h2 : (List.replicate (1 + i / 26) ((f + i) % 26)).head? = (List.replicate (1 + j / 26) ((f + j) % 26)).head? := by rw [h]
  rw [List.head?_replicate, List.head?_replicate, if_neg (by omega), if_neg (by omega)] at h2
  simp at h2
  omega
theorem nodup_range {α : Type} (g : Nat → α) (n : Nat) (h : ∀ i j, i < n → j < n → g i = g j → i = j) : ((List.range n).map g).Nodup := by
  unfold List.Nodup
  rw [List.pairwise_map]
  refine List.Pairwise.imp_of_mem ?_ (List.pairwise_lt_range (n := n))
  intro i j hi hj hij e
  have := h i j (by simpa using hi) (by simpa using hj) e
  omega
theorem names_q1 (a0 a4 a5 a6 a7 a8 a9 aa x ac ad : Option O) (f m : Nat) (hf : f < 26) (hm : m ≤ 40) : q1__law_names [a0, some (.val (.int (m : Int))), some (.val (.str "abcdefghijklmnopqrstuvwxyz")), some (.val (.int (f : Int))), a4, a5, a6, a7, a8, a9, aa, x, ac, ad] =
    .ok (nO ((List.range m).map (nmA f))) [a0, some (.val (.int (m : Int))), some (.val (.str "abcdefghijklmnopqrstuvwxyz")), some (.val (.int (f : Int))), a4, a5, a6, a7, a8, a9, aa, x, ac, ad] := by
  have sn := small_nat (n := m) (by omega)
  have l26 : Nat.log2 26 < 9000 := by decide
  have hc := compL_all (ρ := [a0, some (.val (.int (m : Int))), some (.val (.str "abcdefghijklmnopqrstuvwxyz")), some (.val (.int (f : Int))), a4, a5, a6, a7, a8, a9, aa, none, ac, ad]) (own := [11]) (a := aN 11) (t := mTrue) (e := mP (p2 (lift2 mulD) (p2 ixO (pVar 2) (p2 (lift2 modD) (p2 (lift2 addD) (pVar 3) (pVar 11)) (pC (.int 26)))) (p2 (lift2 addD) (pC (.int 1)) (p2 (lift2 fdivD) (pVar 11) (pC (.int 26))))))
    (fun i : Nat => D.int (0 + (i : Int))) (fun i => O.val (.str (SL (nmA f i)))) (xs := List.range m) (by
    intro i hi
    have hi : i < m := by simpa using hi
    have e1 : ((f : Int) + (i : Int)) % 26 = (((f + i) % 26 : Nat) : Int) := by omega
    have e2 : (1 : Int) + (i : Int) / 26 = ((1 + i / 26 : Nat) : Int) := by omega
    have e3 := letter_at ((f + i) % 26) (by omega)
    have e4 := mulD_SL [(f + i) % 26] (1 + i / 26) (by omega) (by simp; omega)
    rw [rep1] at e4
    refine ⟨[a0, some (.val (.int (m : Int))), some (.val (.str "abcdefghijklmnopqrstuvwxyz")), some (.val (.int (f : Int))), a4, a5, a6, a7, a8, a9, aa, some (.val (.int (i : Int))), ac, ad], [a0, some (.val (.int (m : Int))), some (.val (.str "abcdefghijklmnopqrstuvwxyz")), some (.val (.int (f : Int))), a4, a5, a6, a7, a8, a9, aa, some (.val (.int (i : Int))), ac, ad], [a0, some (.val (.int (m : Int))), some (.val (.str "abcdefghijklmnopqrstuvwxyz")), some (.val (.int (f : Int))), a4, a5, a6, a7, a8, a9, aa, some (.val (.int (i : Int))), ac, ad], by simp, by simp, ?_, by simp⟩
    have e6 := @e_mod ((f : Int) + (i : Int)) 26 (by decide)
    have e7 := @e_fdiv (i : Int) 26 (by decide) (by decide)
    rw [← e1] at e3
    rw [← e2] at e4
    simp [e6, e7, e3, e4, nmA])
  simp [q1__law_names, sn, rangeL_len, show m ≤ 1000000 by omega]
  unfold rangeL
  rw [hc]
  simp [vO, nO, bkK_eta]

end Lw

namespace Lw
open PySem PySem.Spec L2 FB Wk
open PyProof.Rows hiding St
theorem names_q2 (o : O) (k : Int) (n : Nat) (a1 a2 a3 a4 a5 a7 a8 a9 aa x ac ad : Option O) (h : Fok (k + 8) o) (hk : 0 ≤ k) (hn : n ≤ 8) : ∃ o' bs, q2__law_names [some o, a1, a2, a3, a4, a5, some (.val (.int (n : Int))), a7, a8, a9, aa, x, ac, ad] =
    .ok (lN bs) [some o', a1, a2, a3, a4, a5, some (.val (.int (n : Int))), a7, a8, a9, aa, x, ac, ad] ∧ Fok k o' ∧ bs.length = n ∧ ∀ b ∈ bs, b < 26 := by
  have sn := small_nat (n := n) (by omega)
  obtain ⟨os, ρ', hc, hl, hp, o', e, s'⟩ := compL_inv (own := [11]) (a := aN 11) (e := mCall F__law_take [.io 0, .v (mP (pC (.int 26)))]) (ds := rangeL 0 n) (ρ := [some o, a1, a2, a3, a4, a5, some (.val (.int (n : Int))), a7, a8, a9, aa, none, ac, ad])
    (fun i ρ => ∃ o, ρ = [some o, a1, a2, a3, a4, a5, some (.val (.int (n : Int))), a7, a8, a9, aa, none, ac, ad] ∧ Fok (k + 8 - i) o) (fun _ o => ∃ b : Nat, b < 26 ∧ o = .val (.int (b : Int))) ⟨o, rfl, h.less (by omega)⟩ (by
      rintro i d ρ hd ⟨o, rfl, so⟩
      obtain ⟨hi, rfl⟩ := rangeL_get hd
      obtain ⟨r, o', e, s', p, q⟩ := take o 26 (k + 8 - ((i + 1 : Nat) : Int)) (so.less (by push_cast; omega)) (by push_cast; omega) (by decide) (by decide)
      exact ⟨[some o, a1, a2, a3, a4, a5, some (.val (.int (n : Int))), a7, a8, a9, aa, some (.val (.int (0 + (i : Int)))), ac, ad], .val (.int r), [some o', a1, a2, a3, a4, a5, some (.val (.int (n : Int))), a7, a8, a9, aa, some (.val (.int (0 + (i : Int)))), ac, ad], by simp, by simp [e], ⟨r.toNat, by omega, by rw [show ((r.toNat : Nat) : Int) = r by omega]⟩, o', by simp, s'⟩)
  subst e
  rw [rangeL_len] at hl s'
  obtain ⟨bs, e2, hb⟩ := list_of (fun b : Nat => O.val (.int (b : Int))) (fun b => b < 26) hp
  subst e2
  refine ⟨o', bs, ?_, s'.less (by omega), by simpa using hl, hb⟩
  have hc : compL [11] (aN 11) mTrue (mCall F__law_take [.io 0, .v (mP (pC (.int 26)))]) (rangeL 0 n) [some o, a1, a2, a3, a4, a5, some (.val (.int (n : Int))), a7, a8, a9, aa, none, ac, ad] = _ := hc
  simp [q2__law_names, sn, rangeL_len, show n ≤ 1000000 by omega]
  rw [hc]
  simp [lN, vO, bkK_eta]
/-- the k-th name of one base -/
def nmB (bs : List Nat) (a b l f k : Nat) : List Nat := (bs.set a ((bs.getD a 0 + k) % 26)).set b ((bs.getD b 0 + k / 26) % 26) ++ List.replicate (l * (k % 2)) f
theorem nmB_ok {bs : List Nat} {a b l f : Nat} (k : Nat) (h0 : 2 ≤ bs.length) (h8 : bs.length + l ≤ 8) (hl : l ≤ 1) (hb : ∀ b ∈ bs, b < 26) (hf : f < 26) : NameOk (nmB bs a b l f k) := by
  have hk : k % 2 ≤ 1 := by omega
  have hlk : l * (k % 2) ≤ l := by
    have := Nat.mul_le_mul_left l hk
    omega
  refine ⟨by unfold nmB; simp; omega, by unfold nmB; simp; omega, fun c hc => ?_⟩
  unfold nmB at hc
  rcases List.mem_append.mp hc with hc | hc
  · rcases List.mem_or_eq_of_mem_set hc with hc | hc
    · rcases List.mem_or_eq_of_mem_set hc with hc | hc
      · exact hb c hc
      · omega
    · omega
  · rw [(List.mem_replicate.mp hc).2]; exact hf
theorem nmB_inj {bs : List Nat} {a b l f i j : Nat} (ha : a < bs.length) (hb : b < bs.length) (hab : a ≠ b) (hi : i < 40) (hj : j < 40) (h : nmB bs a b l f i = nmB bs a b l f j) : i = j := by
  unfold nmB at h
  have h1 := congrArg (fun z => z[a]?) h
  have h2 := congrArg (fun z => z[b]?) h
  rw [List.getElem?_append_left (by simp; exact ha), List.getElem?_append_left (by simp; exact ha), List.getElem?_set_ne hab.symm, List.getElem?_set_ne hab.symm, List.getElem?_set_self ha, List.getElem?_set_self ha] at h1
  rw [List.getElem?_append_left (by simp; exact hb), List.getElem?_append_left (by simp; exact hb), List.getElem?_set_self (by simpa using hb), List.getElem?_set_self (by simpa using hb)] at h2
  have h1 := Option.some.inj h1
  have h2 := Option.some.inj h2
  omega
theorem nO_ap (ns : List (List Nat)) (l : List Nat) (h : ns.length < 1000) (ρ : FB.Env) : apC 5 (.val (.str (SL l))) ρ (some (some (nO ns))) = .ok (.val .non) (ρ.set 5 (some (nO (ns ++ [l])))) := by
  unfold nO
  rw [vO_apC _ _ _ (by simp; omega)]; simp
theorem lN_sh (bs : List Nat) : (lN bs).sh = some (.lst (bs.map fun b : Nat => D.int (b : Int))) := vO_sh _
theorem names_q3 (a0 a1 a3 a4 a5 a6 a7 a8 a9 aa ab x : Option O) (bs : List Nat) (hb : ∀ b ∈ bs, b < 26) (hl : bs.length ≤ 8) : q3__law_names [a0, a1, some (.val (.str "abcdefghijklmnopqrstuvwxyz")), a3, a4, a5, a6, a7, a8, a9, aa, ab, some (lN bs), x] =
    .ok (nO (bs.map fun b => [b])) [a0, a1, some (.val (.str "abcdefghijklmnopqrstuvwxyz")), a3, a4, a5, a6, a7, a8, a9, aa, ab, some (lN bs), x] := by
  have hc := compL_all (ρ := [a0, a1, some (.val (.str "abcdefghijklmnopqrstuvwxyz")), a3, a4, a5, a6, a7, a8, a9, aa, ab, none, none]) (own := [13]) (a := aN 13) (t := mTrue) (e := mP (p2 ixO (pVar 2) (pVar 13)))
    (fun b : Nat => D.int (b : Int)) (fun b => O.val (.str (SL [b]))) (xs := bs) (by
    intro b h
    have e3 := letter_at b (hb b h)
    exact ⟨[a0, a1, some (.val (.str "abcdefghijklmnopqrstuvwxyz")), a3, a4, a5, a6, a7, a8, a9, aa, ab, none, some (.val (.int (b : Int)))], [a0, a1, some (.val (.str "abcdefghijklmnopqrstuvwxyz")), a3, a4, a5, a6, a7, a8, a9, aa, ab, none, some (.val (.int (b : Int)))], [a0, a1, some (.val (.str "abcdefghijklmnopqrstuvwxyz")), a3, a4, a5, a6, a7, a8, a9, aa, ab, none, some (.val (.int (b : Int)))], by simp, by simp, by simp [e3], by simp⟩)
  have e1 : lstN 12 [a0, a1, some (.val (.str "abcdefghijklmnopqrstuvwxyz")), a3, a4, a5, a6, a7, a8, a9, aa, ab, some (lN bs), x] = some (bs.map fun b : Nat => D.int (b : Int)) := lstN_of rfl (lN_sh bs)
  have q := e_mCompG (f := lstN 12) (wi := wiN 12) (re := reN 12) (own := own2 [("_law_one", 13)]) (a := aN 13) (t := mTrue) (e := mP (p2 ixO (pVar 2) (pVar 13))) e1 (by simp; omega) hc
  refine q.trans ?_
  have e2 : bs.map (fun b => O.val (.str (SL [b]))) = ((bs.map fun b => [b]).map fun l => D.str (SL l)).map O.val := by rw [List.map_map, List.map_map]; rfl
  rw [e2]
  cases x <;> rfl
theorem names_b (a0 a1 a4 x12 x13 : Option O) (bs : List Nat) (a b l f k : Nat) (ns : List (List Nat)) (n : Nat) (hn : bs.length = n) (h2 : 2 ≤ n) (h8 : n + l ≤ 8) (hl : l ≤ 1) (hb : ∀ b ∈ bs, b < 26) (hf : f < 26) (ha : a < n) (hbb : b < n) (hab : a ≠ b) (hk : k < 40) (hns : ns.length < 100) :
    ∃ y12 y13, b1__law_names [a0, a1, some (.val (.str "abcdefghijklmnopqrstuvwxyz")), some (.val (.int (f : Int))), a4, some (nO ns), some (.val (.int (n : Int))), some (.val (.lst (bs.map fun b : Nat => D.int (b : Int)))), some (.val (.int (a : Int))), some (.val (.int (b : Int))), some (.val (.int (l : Int))), some (.val (.int (k : Int))), x12, x13] =
      .ok .nx [a0, a1, some (.val (.str "abcdefghijklmnopqrstuvwxyz")), some (.val (.int (f : Int))), a4, some (nO (ns ++ [nmB bs a b l f k])), some (.val (.int (n : Int))), some (.val (.lst (bs.map fun b : Nat => D.int (b : Int)))), some (.val (.int (a : Int))), some (.val (.int (b : Int))), some (.val (.int (l : Int))), some (.val (.int (k : Int))), y12, y13] := by
  subst hn
  have lw : listW (.val (.lst (bs.map fun b : Nat => D.int (b : Int)))) = some (bs.map fun b : Nat => D.int (b : Int)) := rfl
  have i1 := lV_ix bs a ha
  have i2 := lV_ix bs b hbb
  have e1 : (((bs.getD a 0 : Nat) : Int) + (k : Int)) % 26 = (((bs.getD a 0 + k) % 26 : Nat) : Int) := by omega
  have e2 : (((bs.getD b 0 : Nat) : Int) + (k : Int) / 26) % 26 = (((bs.getD b 0 + k / 26) % 26 : Nat) : Int) := by omega
  have m1 := @e_mod (((bs.getD a 0 : Nat) : Int) + (k : Int)) 26 (by decide)
  have m2 := @e_mod (((bs.getD b 0 : Nat) : Int) + (k : Int) / 26) 26 (by decide)
  have m3 := @e_fdiv (k : Int) 26 (by decide) (by decide)
  have m4 := @e_mod (k : Int) 2 (by decide)
  have S1 := lN_set bs a ((bs.getD a 0 + k) % 26) ha
  have S2 := lN_set (bs.set a ((bs.getD a 0 + k) % 26)) b ((bs.getD b 0 + k / 26) % 26) (by simpa using hbb)
  rw [← e1] at S1
  rw [← e2] at S2
  have hb2 : ∀ c ∈ (bs.set a ((bs.getD a 0 + k) % 26)).set b ((bs.getD b 0 + k / 26) % 26), c < 26 := fun c hc => by
    rcases List.mem_or_eq_of_mem_set hc with hc | hc
    · rcases List.mem_or_eq_of_mem_set hc with hc | hc
      · exact hb c hc
      · omega
    · omega
  have hl2 : ((bs.set a ((bs.getD a 0 + k) % 26)).set b ((bs.getD b 0 + k / 26) % 26)).length = bs.length := by simp
  have Q := fun a0 a1 a3 a4 a5 a6 a7 a8 a9 aa ab x => names_q3 a0 a1 a3 a4 a5 a6 a7 a8 a9 aa ab x ((bs.set a ((bs.getD a 0 + k) % 26)).set b ((bs.getD b 0 + k / 26) % 26)) hb2 (by rw [hl2]; omega)
  have ap : ∀ (ρ : FB.Env) (mm : M O), apA 5 mm ρ (some (some (nO ns))) = apB 5 (mm ρ) := fun ρ mm => rfl
  have ac := fun l ρ => nO_ap ns l (by omega) ρ
  have eb : nmB bs a b l f k = (bs.set a ((bs.getD a 0 + k) % 26)).set b ((bs.getD b 0 + k / 26) % 26) ++ List.replicate (l * (k % 2)) f := rfl
  rw [eb]
  generalize (bs.set a ((bs.getD a 0 + k) % 26)).set b ((bs.getD b 0 + k / 26) % 26) = B2 at *
  have jt : (nO (B2.map fun b => [b])).toD = .lst (((B2.map fun b => [b]).map SL).map D.str) := by
    unfold nO; rw [vO_toD, List.map_map, List.map_map, List.map_map]; rfl
  have jn := joinD_SL (B2.map fun b => [b]) (by
    rw [List.map_map]
    have : ((fun l : List Nat => l.length) ∘ fun b : Nat => [b]) = fun _ => 1 := rfl
    rw [show (List.length ∘ fun b : Nat => [b]) = fun _ => 1 from rfl]
    have one : ∀ L : List Nat, (L.map fun _ => 1).sum = L.length := fun L => by
      induction L with
      | nil => rfl
      | cons x L ih => rw [List.map_cons, List.sum_cons, ih, List.length_cons]; omega
    rw [one]; omega)
  have fl : (B2.map fun b => [b]).flatten = B2 := by
    clear jn jt Q S2 hl2 hb2 eb
    induction B2 with
    | nil => rfl
    | cons b B ih => simpa using ih
  rw [fl] at jn
  rw [← jt] at jn
  have hk2 : k % 2 ≤ 1 := by omega
  have hlk : l * (k % 2) ≤ 1 := by
    have := Nat.mul_le_mul hl hk2
    omega
  have e3 := letter_at f hf
  have mu : mulD (.int (l : Int)) (.int ((k : Int) % 2)) = some (.int ((l * (k % 2) : Nat) : Int)) := by
    rw [mulD_l _ _ (by omega), show ((l * (k % 2) : Nat) : Int) = (l : Int) * ((k : Int) % 2) by push_cast; rfl]
  have mr := mulD_SL [f] (l * (k % 2)) (by omega) (by simp; omega)
  rw [rep1] at mr
  have ad := addD_SL B2 (List.replicate (l * (k % 2)) f) (by simp; omega)
  have lNe : (vO (bs.map fun b : Nat => D.int (b : Int))) = lN bs := rfl
  generalize ((l * (k % 2) : Nat) : Int) = LK at *
  generalize nO (B2.map fun b => [b]) = JJ at *
  generalize bs.getD a 0 = va at *
  generalize bs.getD b 0 = vb at *
  refine ⟨some (lN B2), x13, ?_⟩
  simp [b1__law_names, lw, lNe, i1, i2, m1, m2, m3, m4, S1, S2, Q, ap, ac, jn, e3, mu, mr, ad]

end Lw

namespace Lw
open PySem PySem.Spec L2 FB Wk
open PyProof.Rows hiding St
theorem nodup_set {α : Type} {l : α} : ∀ {ns : List α} {i : Nat}, ns.Nodup → l ∉ ns → (ns.set i l).Nodup
  | [], _, _, _ => by simp
  | x :: ns, 0, h, hn => by
    rw [List.set_cons_zero, List.nodup_cons]
    exact ⟨fun z => hn (List.mem_cons_of_mem _ z), (List.nodup_cons.mp h).2⟩
  | x :: ns, i + 1, h, hn => by
    rw [List.set_cons_succ, List.nodup_cons]
    refine ⟨fun z => ?_, nodup_set (List.nodup_cons.mp h).2 fun z => hn (List.mem_cons_of_mem _ z)⟩
    rcases List.mem_or_eq_of_mem_set z with q | q
    · exact (List.nodup_cons.mp h).1 q
    · exact hn (by rw [q]; exact List.mem_cons_self ..)
theorem word_at (r : Int) (h0 : 0 ≤ r) (h : r < 11) : ∃ l, atI [O.val (.str "guard"), O.val (.str "load"), O.val (.str "on"), O.val (.str "off"), O.val (.str "board"), O.val (.str "map"), O.val (.str "least"), O.val (.str ""), O.val (.str ""), O.val (.str ""), O.val (.str "")] r = some (.val (.str (SL l))) ∧ (l = [] ∨ NameOk l) := by
  have e1 : ("guard" : Str) = SL [6, 20, 0, 17, 3] := by decide +kernel
  have e2 : ("load" : Str) = SL [11, 14, 0, 3] := by decide +kernel
  have e3 : ("on" : Str) = SL [14, 13] := by decide +kernel
  have e4 : ("off" : Str) = SL [14, 5, 5] := by decide +kernel
  have e5 : ("board" : Str) = SL [1, 14, 0, 17, 3] := by decide +kernel
  have e6 : ("map" : Str) = SL [12, 0, 15] := by decide +kernel
  have e7 : ("least" : Str) = SL [11, 4, 0, 18, 19] := by decide +kernel
  have e8 : ("" : Str) = SL [] := by decide +kernel
  rw [e1, e2, e3, e4, e5, e6, e7, e8]
  have : r = 0 ∨ r = 1 ∨ r = 2 ∨ r = 3 ∨ r = 4 ∨ r = 5 ∨ r = 6 ∨ r = 7 ∨ r = 8 ∨ r = 9 ∨ r = 10 := by omega
  rcases this with e | e | e | e | e | e | e | e | e | e | e <;> subst e
  · exact ⟨[6, 20, 0, 17, 3], (atN _ 0).trans rfl, .inr ⟨by decide, by decide, by decide⟩⟩
  · exact ⟨[11, 14, 0, 3], (atN _ 1).trans rfl, .inr ⟨by decide, by decide, by decide⟩⟩
  · exact ⟨[14, 13], (atN _ 2).trans rfl, .inr ⟨by decide, by decide, by decide⟩⟩
  · exact ⟨[14, 5, 5], (atN _ 3).trans rfl, .inr ⟨by decide, by decide, by decide⟩⟩
  · exact ⟨[1, 14, 0, 17, 3], (atN _ 4).trans rfl, .inr ⟨by decide, by decide, by decide⟩⟩
  · exact ⟨[12, 0, 15], (atN _ 5).trans rfl, .inr ⟨by decide, by decide, by decide⟩⟩
  · exact ⟨[11, 4, 0, 18, 19], (atN _ 6).trans rfl, .inr ⟨by decide, by decide, by decide⟩⟩
  · exact ⟨[], (atN _ 7).trans rfl, .inl rfl⟩
  · exact ⟨[], (atN _ 8).trans rfl, .inl rfl⟩
  · exact ⟨[], (atN _ 9).trans rfl, .inl rfl⟩
  · exact ⟨[], (atN _ 10).trans rfl, .inl rfl⟩
theorem nO_nin (l : List Nat) (ns : List (List Nat)) : ninO (.val (.str (SL l))) (nO ns) = some (.val (.bl (!decide (l ∈ ns)))) := by
  have e : (nO ns).toD = .lst ((ns.map SL).map D.str) := by unfold nO; rw [vO_toD, List.map_map]; rfl
  unfold ninO
  rw [e]
  show ((inD (.str (SL l)) (.lst ((ns.map SL).map D.str))).map fun b => O.val (.bl !b)) = _
  rw [inD_strs, List.any_map]
  refine congrArg (fun b => some (O.val (.bl (!b)))) ?_
  rw [Bool.eq_iff_iff, List.any_eq_true]
  constructor
  · rintro ⟨y, hy, q⟩
    have q : SL y = SL l := by simpa using q
    rw [← SL_inj q]; simpa using hy
  · intro h
    exact ⟨l, by simpa using h, by simp⟩
theorem nO_set (ns : List (List Nat)) (r : Int) (l : List Nat) (h0 : 0 ≤ r) (h : r < ns.length) : setItO (nO ns) (.val (.int r)) (.val (.str (SL l))) = some (nO (ns.set r.toNat l)) := by
  obtain ⟨n, rfl⟩ : ∃ n : Nat, r = (n : Int) := ⟨r.toNat, by omega⟩
  unfold nO
  rw [vO_set _ _ _ (by simp; omega)]; simp
/-- right names, all unlike -/
def NsOk (ns : List (List Nat)) : Prop := ns.Nodup ∧ ∀ l ∈ ns, NameOk l
theorem NsOk.set {ns : List (List Nat)} {i : Nat} {l : List Nat} (h : NsOk ns) (hl : NameOk l) (hn : l ∉ ns) : NsOk (ns.set i l) := by
  refine ⟨nodup_set h.1 hn, fun m hm => ?_⟩
  rcases List.mem_or_eq_of_mem_set hm with q | q
  · exact h.2 m q
  · rw [q]; exact hl
theorem other_ne (n a t : Nat) (hn : 2 ≤ n) (ha : a < n) (ht : t < n - 1) : ∃ b : Nat, ((a : Int) + 1 + (t : Int)) % (n : Int) = (b : Int) ∧ b < n ∧ a ≠ b := by
  refine ⟨(a + 1 + t) % n, by push_cast; rfl, Nat.mod_lt _ (by omega), ?_⟩
  by_cases h : a + 1 + t < n
  · rw [Nat.mod_eq_of_lt h]; omega
  · rw [Nat.mod_eq_sub_mod (by omega), Nat.mod_eq_of_lt (by omega)]; omega
theorem names_if (o : O) (k : Int) (m f : Nat) (h : Fok (k + 14) o) (hk : 0 ≤ k) (h1 : 1 ≤ m) (h40 : m ≤ 40) (hf : f < 26) : ∃ o' ns y6 y7 y8 y9 ya yb yc yd, (mIf (mB (m2 (eqO) (mCall F__law_take [.io 0, .v (mP (pC (.int 5)))]) (mP (pC (.int 0))))) (mSetO 5 (q1__law_names)) (mSeq (mSetP 6 (m2 (lift2 addD) (mP (pC (.int 2))) (mCall F__law_take [.io 0, .v (mP (pC (.int 7)))]))) (mSeq (mSetP 7 (q2__law_names)) (mSeq (mSetP 8 (mCall F__law_take [.io 0, .v (mP (pVar 6))])) (mSeq (mSetP 9 (m2 (lift2 modD) (m2 (lift2 addD) (mP (p2 (lift2 addD) (pVar 8) (pC (.int 1)))) (mCall F__law_take [.io 0, .v (mP (p2 (lift2 subD) (pVar 6) (pC (.int 1))))])) (mP (pVar 6)))) (mSeq (mSetP 10 (m2 (lift2 mulD) (mCall F__law_take [.io 0, .v (mP (pC (.int 2)))]) (mP (p1 intO (p2 (lift2 ltD) (pVar 6) (pC (.int 8))))))) (mSeq (mSetO 5 (mLst (mNil))) (mFor (mR1 (mP (pVar 1))) (aN 11) b1__law_names)))))))) [some o, some (.val (.int (m : Int))), some (.val (.str "abcdefghijklmnopqrstuvwxyz")), some (.val (.int (f : Int))), none, none, none, none, none, none, none, none, none, none] =
    .ok .nx [some o', some (.val (.int (m : Int))), some (.val (.str "abcdefghijklmnopqrstuvwxyz")), some (.val (.int (f : Int))), none, some (nO ns), y6, y7, y8, y9, ya, yb, yc, yd] ∧ Fok k o' ∧ ns.length = m ∧ NsOk ns := by
  obtain ⟨r1, o1, e1, s1, p1, q1⟩ := take o 5 (k + 13) (h.less (by omega)) (by omega) (by decide) (by decide)
  by_cases h5 : r1 = 0
  · subst h5
    have Q := fun a0 a4 a5 a6 a7 a8 a9 aa x ac ad => names_q1 a0 a4 a5 a6 a7 a8 a9 aa x ac ad f m hf h40
    refine ⟨o1, (List.range m).map (nmA f), none, none, none, none, none, none, none, none, ?_, s1.less (by omega), by simp, nodup_range _ _ fun i j hi hj e => nmA_inj (by omega) (by omega) e, fun l hl => ?_⟩
    · simp [e1, Q]
    · obtain ⟨i, hi, rfl⟩ := List.mem_map.mp hl
      exact nmA_ok f i (by have : i < m := by simpa using hi
                           omega)
  · obtain ⟨r2, o2, e2, s2, p2, q2⟩ := take o1 7 (k + 12) (s1.less (by omega)) (by omega) (by decide) (by decide)
    obtain ⟨n, hn⟩ : ∃ n : Nat, 2 + r2 = (n : Int) := ⟨(2 + r2).toNat, by omega⟩
    obtain ⟨o3, bs, e3, s3, hbs, hb⟩ := names_q2 o2 (k + 4) n (some (.val (.int (m : Int)))) (some (.val (.str "abcdefghijklmnopqrstuvwxyz"))) (some (.val (.int (f : Int)))) none none none none none none none none none (s2.less (by omega)) (by omega) (by omega)
    obtain ⟨r4, o4, e4, s4, p4, q4⟩ := take o3 (n : Int) (k + 3) (s3.less (by omega)) (by omega) (by omega) (log_big (by omega) (by omega))
    obtain ⟨a, ha⟩ : ∃ a : Nat, r4 = (a : Int) := ⟨r4.toNat, by omega⟩
    subst ha
    obtain ⟨r5, o5, e5, s5, p5, q5⟩ := take o4 ((n : Int) - 1) (k + 2) (s4.less (by omega)) (by omega) (by omega) (log_big (by omega) (by omega))
    obtain ⟨t, ht⟩ : ∃ a : Nat, r5 = (a : Int) := ⟨r5.toNat, by omega⟩
    subst ht
    obtain ⟨b, eb, hb1, hab⟩ := other_ne n a t (by omega) (by omega) (by omega)
    obtain ⟨r6, o6, e6, s6, p6, q6⟩ := take o5 2 (k + 1) (s5.less (by omega)) (by omega) (by decide) (by decide)
    obtain ⟨l, el, hl1, hl2⟩ : ∃ l : Nat, mulD (.int r6) (.int (if (n : Int) < 8 then 1 else 0)) = some (.int (l : Int)) ∧ l ≤ 1 ∧ n + l ≤ 8 := by
      by_cases h8 : (n : Int) < 8
      · refine ⟨r6.toNat, ?_, by omega, by omega⟩
        rw [if_pos h8, mulD_r _ _ (by decide), Int.mul_one, show ((r6.toNat : Nat) : Int) = r6 by omega]
      · refine ⟨0, ?_, by omega, by omega⟩
        rw [if_neg h8, mulD_r _ _ (by decide), Int.mul_zero]; rfl
    have md : modD (.int ((a : Int) + 1 + (t : Int))) (.int (n : Int)) = some (.int (b : Int)) := by rw [e_mod (by omega), eb]
    obtain ⟨ρ', f1, yb, yc, yd, rfl⟩ := forL_inv (a := aN 11) (b := b1__law_names) (ds := rangeL 0 m) (fun i ρ => ∃ yb yc yd, ρ = [some o6, some (.val (.int (m : Int))), some (.val (.str "abcdefghijklmnopqrstuvwxyz")), some (.val (.int (f : Int))), none, some (nO ((List.range i).map (nmB bs a b l f))), some (.val (.int (n : Int))), some (.val (.lst (bs.map fun b : Nat => D.int (b : Int)))), some (.val (.int (a : Int))), some (.val (.int (b : Int))), some (.val (.int (l : Int))), yb, yc, yd])
      (ρ := [some o6, some (.val (.int (m : Int))), some (.val (.str "abcdefghijklmnopqrstuvwxyz")), some (.val (.int (f : Int))), none, some (O.lst []), some (.val (.int (n : Int))), some (.val (.lst (bs.map fun b : Nat => D.int (b : Int)))), some (.val (.int (a : Int))), some (.val (.int (b : Int))), some (.val (.int (l : Int))), none, none, none]) ⟨none, none, none, rfl⟩ (by
        rintro i d ρ hd ⟨yb, yc, yd, rfl⟩
        obtain ⟨hi, rfl⟩ := rangeL_get hd
        rw [show (0 : Int) + (i : Int) = (i : Int) by omega]
        obtain ⟨y12, y13, eb2⟩ := names_b (some o6) (some (.val (.int (m : Int)))) none yc yd bs a b l f i ((List.range i).map (nmB bs a b l f)) n hbs (by omega) hl2 hl1 hb hf (by omega) hb1 hab (by omega) (by simp; omega)
        refine ⟨[some o6, some (.val (.int (m : Int))), some (.val (.str "abcdefghijklmnopqrstuvwxyz")), some (.val (.int (f : Int))), none, some (nO ((List.range i).map (nmB bs a b l f))), some (.val (.int (n : Int))), some (.val (.lst (bs.map fun b : Nat => D.int (b : Int)))), some (.val (.int (a : Int))), some (.val (.int (b : Int))), some (.val (.int (l : Int))), some (.val (.int (i : Int))), yc, yd], _, by simp, .inl eb2, some (.val (.int (i : Int))), y12, y13, ?_⟩
        rw [List.range_succ, List.map_append]; rfl)
    rw [rangeL_len] at f1
    have bt : (lN bs).toD = .lst (bs.map fun b : Nat => D.int (b : Int)) := vO_toD _
    have sn := small_nat (n := m) (by omega)
    refine ⟨o6, (List.range m).map (nmB bs a b l f), some (.val (.int (n : Int))), some (.val (.lst (bs.map fun b : Nat => D.int (b : Int)))), some (.val (.int (a : Int))), some (.val (.int (b : Int))), some (.val (.int (l : Int))), yb, yc, yd, ?_, s6.less (by omega), by simp, nodup_range _ _ fun i j hi hj e => nmB_inj (by omega) (by omega) hab (by omega) (by omega) e, fun x hx => ?_⟩
    rotate_left
    · obtain ⟨i, hi, rfl⟩ := List.mem_map.mp hx
      exact nmB_ok i (by omega) (by omega) hl1 hb hf
    · generalize nO ((List.range m).map (nmB bs a b l f)) = NN at *
      simp [e1, e2, h5, hn, e3, bt, e4, e5, md, e6, el, sn, f1]

end Lw

namespace Lw
open PySem PySem.Spec L2 FB Wk
open PyProof.Rows hiding St
noncomputable def nmIf : M Fl := mIf (mB (m2 (eqO) (mCall F__law_take [.io 0, .v (mP (pC (.int 5)))]) (mP (pC (.int 0))))) (mSetO 5 (q1__law_names)) (mSeq (mSetP 6 (m2 (lift2 addD) (mP (pC (.int 2))) (mCall F__law_take [.io 0, .v (mP (pC (.int 7)))]))) (mSeq (mSetP 7 (q2__law_names)) (mSeq (mSetP 8 (mCall F__law_take [.io 0, .v (mP (pVar 6))])) (mSeq (mSetP 9 (m2 (lift2 modD) (m2 (lift2 addD) (mP (p2 (lift2 addD) (pVar 8) (pC (.int 1)))) (mCall F__law_take [.io 0, .v (mP (p2 (lift2 subD) (pVar 6) (pC (.int 1))))])) (mP (pVar 6)))) (mSeq (mSetP 10 (m2 (lift2 mulD) (mCall F__law_take [.io 0, .v (mP (pC (.int 2)))]) (mP (p1 intO (p2 (lift2 ltD) (pVar 6) (pC (.int 8))))))) (mSeq (mSetO 5 (mLst (mNil))) (mFor (mR1 (mP (pVar 1))) (aN 11) b1__law_names)))))))
theorem nmIf_eq : b__law_names = mSeq (mSetP 2 (mP (pC (.str "abcdefghijklmnopqrstuvwxyz")))) (mSeq (mSetP 3 (mCall F__law_take [.io 0, .v (mP (pC (.int 26)))])) (mSeq nmIf (mSeq (mSetP 4 (m2 ixO (mLst (mCons (mP (pC (.str "guard"))) (mCons (mP (pC (.str "load"))) (mCons (mP (pC (.str "on"))) (mCons (mP (pC (.str "off"))) (mCons (mP (pC (.str "board"))) (mCons (mP (pC (.str "map"))) (mCons (mP (pC (.str "least"))) (mCons (mP (pC (.str ""))) (mCons (mP (pC (.str ""))) (mCons (mP (pC (.str ""))) (mCons (mP (pC (.str ""))) (mNil))))))))))))) (mCall F__law_take [.io 0, .v (mP (pC (.int 11)))]))) (mSeq (mIf (mAnd (mB (mP (p2 (neO) (pVar 4) (pC (.str ""))))) (mB (mP (p2 (ninO) (pVar 4) (pVar 5))))) (mSetIt 5 (mCall F__law_take [.io 0, .v (mP (pVar 1))]) (mP (pVar 4))) (mSkip)) (mRet (mMove 5)))))) := rfl
theorem names (o : O) (k : Int) (m : Nat) (h : Fok (k + 17) o) (hk : 0 ≤ k) (h1 : 1 ≤ m) (h40 : m ≤ 40) : ∃ o' ns, F__law_names [o, .val (.int (m : Int))] = some (nO ns, [some o', none]) ∧ Fok k o' ∧ ns.length = m ∧ NsOk ns := by
  obtain ⟨r1, o1, e1, s1, p1, q1⟩ := take o 26 (k + 16) (h.less (by omega)) (by omega) (by decide) (by decide)
  obtain ⟨f, hf⟩ : ∃ f : Nat, r1 = (f : Int) := ⟨r1.toNat, by omega⟩
  subst hf
  obtain ⟨o2, ns, y6, y7, y8, y9, ya, yb, yc, yd, e2, s2, hl, hns⟩ := names_if o1 (k + 2) m f (s1.less (by omega)) (by omega) h1 h40 (by omega)
  have e2 : nmIf _ = _ := e2
  obtain ⟨r3, o3, e3, s3, p3, q3⟩ := take o2 11 (k + 1) (s2.less (by omega)) (by omega) (by decide) (by decide)
  obtain ⟨l, el, hl2⟩ := word_at r3 p3 q3
  have e8 : ("" : Str) = SL [] := by decide +kernel
  have enin := nO_nin l ns
  have een : decide (SL l = SL []) = decide (l = []) := by
    by_cases q : l = []
    · subst q; simp
    · have : ¬ SL l = SL [] := fun z => q (SL_inj z)
      simp [q, this]
  have e9 : neO (.val (.str (SL l))) (.val (.str "")) = some (.val (.bl (!decide (l = [])))) := by rw [e8, neO_str, een]
  unfold F__law_names
  rw [runF_eq]
  by_cases c1 : l = []
  · refine ⟨o3, ns, ?_, s3.less (by omega), hl, hns⟩
    generalize nO ns = N1 at *
    simp [nmIf_eq, e1, e2, e3, el, e9, c1]
    rfl
  · by_cases c2 : l ∈ ns
    · refine ⟨o3, ns, ?_, s3.less (by omega), hl, hns⟩
      generalize nO ns = N1 at *
      simp [nmIf_eq, e1, e2, e3, el, e9, c1, c2, enin]
      rfl
    · obtain ⟨r4, o4, e4, s4, p4, q4⟩ := take o3 (m : Int) k s3 hk (by omega) (log_big (by omega) (by omega))
      have st := nO_set ns r4 l p4 (by rw [hl]; exact q4)
      refine ⟨o4, ns.set r4.toNat l, ?_, s4, by simpa using hl, hns.set (hl2.resolve_left c1) c2⟩
      generalize nO ns = N1 at *
      generalize nO (ns.set r4.toNat l) = N2 at *
      simp [nmIf_eq, e1, e2, e3, el, e9, c1, c2, enin, e4, st]
      rfl

end Lw

namespace Lw
open PySem PySem.Spec L2 FB Wk
open PyProof.Rows hiding St
def pD (p : Int × Int) : D := .tup [.int p.1, .int p.2]
def cv (C : List (Int × Int)) : D := .tup (C.map pD)
def Cok (C : List (Int × Int)) : Prop := C ≠ [] ∧ C.length ≤ 5 ∧ C.Pairwise (fun p q => p.1 < q.1 ∧ q.2 < p.2) ∧ ∀ p ∈ C, 1 ≤ p.1 ∧ 1 ≤ p.2 ∧ p.1 < 1000000000000000000000000000000000000000000000000000000000000 ∧ p.2 < 1000000000000000000000000000000000000000000000000000000000000
def sD (l : List Nat) : D := .str (SL l)
theorem addD_lst (xs ys : List D) (h : xs.length + ys.length ≤ 1000000) : addD (.lst xs) (.lst ys) = some (.lst (xs ++ ys)) := if_pos h
structure Gd where
  nm : List Nat
  un : Option (List Nat)
  C : List (Int × Int)
  dl : Int
  wt : Int
def uD : Option (List Nat) → D
  | none => .non
  | some l => sD l
def gD (g : Gd) : D := .tup [sD g.nm, uD g.un, cv g.C, .int g.dl, .int g.wt]
def numOk (n : Int) : Prop := 0 ≤ n ∧ n < 1000000000000000000000000000000000000000000000000000000000000
def kD (ms : List (List Nat)) : List Key := ms.map fun l => .inr (SL l)
theorem idx_none {l : List Nat} : ∀ {ms : List (List Nat)}, l ∉ ms → idxK (kD ms) (.inr (SL l)) = none
  | [], _ => rfl
  | m :: ms, h => by
    have ih := idx_none (l := l) (ms := ms) fun z => h (List.mem_cons_of_mem _ z)
    unfold idxK kD at ih ⊢
    rw [List.map_cons, List.findIdx?_cons, ih]
    have : ¬ (Sum.inr (SL m) : Key) = Sum.inr (SL l) := fun z => h (by rw [← SL_inj (Sum.inr.inj z)]; exact List.mem_cons_self ..)
    rw [if_neg (by simpa using this)]; rfl
theorem idx_some {l : List Nat} : ∀ {ms : List (List Nat)} {i : Nat}, ms.Nodup → ms[i]? = some l → idxK (kD ms) (.inr (SL l)) = some i
  | [], _, _, h => by simp at h
  | m :: ms, 0, nd, h => by
    simp at h
    subst h
    unfold idxK kD
    rw [List.map_cons, List.findIdx?_cons, if_pos (by simp)]
  | m :: ms, i + 1, nd, h => by
    have h : ms[i]? = some l := by simpa using h
    have ih := idx_some (List.nodup_cons.mp nd).2 h
    unfold idxK kD at ih ⊢
    rw [List.map_cons, List.findIdx?_cons, ih]
    have : ¬ (Sum.inr (SL m) : Key) = Sum.inr (SL l) := fun z => (List.nodup_cons.mp nd).1 (by rw [SL_inj (Sum.inr.inj z)]; exact List.mem_of_getElem? h)
    rw [if_neg (by simpa using this)]; rfl
/-- the guards so far; ds: how deep each is -/
structure GsOk (gs : List Gd) (ds : List Nat) : Prop where
  len : ds.length = gs.length
  nd : (gs.map Gd.nm).Nodup
  names : ∀ g ∈ gs, NameOk g.nm
  rest : ∀ g ∈ gs, Cok g.C ∧ numOk g.dl ∧ numOk g.wt
  under : ∀ (i : Nat) (g : Gd), gs[i]? = some g → (g.un = none ∧ ds[i]? = some 1) ∨ ∃ (j : Nat) (u : Gd) (d : Nat), j < i ∧ gs[j]? = some u ∧ g.un = some u.nm ∧ ds[j]? = some d ∧ d < 8 ∧ ds[i]? = some (d + 1)
theorem GsOk.nil : GsOk [] [] := ⟨rfl, by simp, by simp, by simp, fun i g h => by simp at h⟩
theorem gD_0 (g : Gd) : ixO (.val (gD g)) (.val (.int 0)) = some (.val (sD g.nm)) := by unfold gD; simp
structure Ld where
  nm : List Nat
  pl : List Nat
  cs : List (Int × Int)
  la : Int
  on : Bool
def lD (l : Ld) : D := .tup [sD l.nm, sD l.pl, cv l.cs, .int l.la, .bl l.on]
def csOk (cs : List (Int × Int)) : Prop := cs.length ≤ 4 ∧ ∀ p ∈ cs, 1 ≤ p.1 ∧ numOk p.1 ∧ numOk p.2
structure LsOk (gs : List Gd) (ls : List Ld) : Prop where
  names : ∀ l ∈ ls, NameOk l.nm
  pl : ∀ l ∈ ls, l.pl ∈ gs.map Gd.nm
  rest : ∀ l ∈ ls, csOk l.cs ∧ numOk l.la
/-- a right board -/
structure Bd where
  gs : List Gd
  ls : List Ld
def bD (b : Bd) : D := .tup [.tup (b.gs.map gD), .tup (b.ls.map lD)]
structure BOk (b : Bd) : Prop where
  deep : ∃ ds, GsOk b.gs ds
  ls : LsOk b.gs b.ls
  g1 : 0 < b.gs.length
  g2 : b.gs.length ≤ 16
  l2 : b.ls.length ≤ 24
  nd : (b.gs.map Gd.nm ++ b.ls.map Ld.nm).Nodup

end Lw

namespace Lw
open PySem PySem.Spec L2 FB Wk
open PyProof.Rows hiding St
def sO (L : List (List Nat)) : O := vO (L.map sD)
theorem sO_sh (L : List (List Nat)) : (sO L).sh = some (.lst (L.map sD)) := vO_sh _
theorem sO_toD (L : List (List Nat)) : (sO L).toD = .lst (L.map sD) := by unfold sO; rw [vO_toD]
theorem sO_apA (j : Nat) (L : List (List Nat)) (ρ : FB.Env) (mm : M O) : apA j mm ρ (some (some (sO L))) = apB j (mm ρ) := rfl
theorem sO_ap (j : Nat) (L : List (List Nat)) (l : List Nat) (h : L.length < 100) (ρ : FB.Env) : apC j (.val (sD l)) ρ (some (some (sO L))) = .ok (.val .non) (ρ.set j (some (sO (L ++ [l])))) := by
  unfold sO
  rw [vO_apC _ _ _ (by simp; omega)]; simp
theorem lD_0 (g : Ld) : ixO (.val (lD g)) (.val (.int 0)) = some (.val (sD g.nm)) := by unfold lD; simp
theorem lD_1 (y : Ld) : ixO (.val (lD y)) (.val (.int 1)) = some (.val (sD y.pl)) := by unfold lD; simp
theorem gD_1 (g : Gd) : ixO (.val (gD g)) (.val (.int 1)) = some (.val (uD g.un)) := by unfold gD; simp
theorem bD_0 (b : Bd) : ixO (.val (bD b)) (.val (.int 0)) = some (.val (.tup (b.gs.map gD))) := by unfold bD; simp
theorem bD_1 (b : Bd) : ixO (.val (bD b)) (.val (.int 1)) = some (.val (.tup (b.ls.map lD))) := by unfold bD; simp
theorem gu (b : Bd) (h : BOk b) : F_guards_of [.val (bD b)] = some (sO (b.gs.map Gd.nm), [none]) := by
  have hc := compL_all (ρ := [some (.val (bD b)), none]) (own := [1]) (a := aN 1) (t := mTrue) (e := mP (p2 ixO (pVar 1) (pC (.int 0)))) gD (fun g => O.val (sD g.nm)) (xs := b.gs) (by
    intro g hg
    have g0 := gD_0 g
    exact ⟨[some (.val (bD b)), some (.val (gD g))], [some (.val (bD b)), some (.val (gD g))], [some (.val (bD b)), some (.val (gD g))], by simp, by simp, by simp [g0], by simp⟩)
  have b0 := bD_0 b
  have hl : b.gs.length ≤ 1000000 := by have := h.g2; omega
  have q : q1_guards_of [some (.val (bD b)), none] = .ok (sO (b.gs.map Gd.nm)) [some (.val (bD b)), none] := by
    simp [q1_guards_of, b0, hl]
    rw [hc]
    simp [sO, vO, bkK_eta]
  unfold F_guards_of
  rw [runF_eq]
  simp [b_guards_of, q]
  rfl
/-! ### the dict of what each is under -/
def pK (gs : List Gd) : List Key := kD (gs.map Gd.nm)
def pV (gs : List Gd) : List O := gs.map fun g => O.val (uD g.un)
def prD (gs : List Gd) : D := .dct (pK gs) (gs.map fun g => uD g.un)
theorem prD_p (gs : List Gd) : dctP (.val (prD gs)) = some (pK gs, pV gs) := by
  show some (pK gs, (gs.map fun g => uD g.un).map O.val) = _
  rw [List.map_map]; rfl
theorem get_un {gs : List Gd} {g : Gd} {a : O} (hp : dctP a = some (pK gs, pV gs)) (nd : (gs.map Gd.nm).Nodup) (hg : g ∈ gs) : ixF a (.val (sD g.nm)) = some (.val (uD g.un)) := by
  obtain ⟨i, hi⟩ := List.getElem?_of_mem hg
  have e : ixF a (.val (sD g.nm)) = (idxK (pK gs) (.inr (SL g.nm))).bind fun j => (pV gs)[j]? := by
    have : dgO a (.val (sD g.nm)) = (idxK (pK gs) (.inr (SL g.nm))).bind fun j => (pV gs)[j]? := by
      unfold dgO; rw [hp]; rfl
    rw [← this]
    cases a with
    | val d => cases d <;> first | rfl | cases hp
    | dct _ _ => rfl
    | _ => cases hp
  rw [e]
  unfold pK pV
  rw [idx_some (i := i) nd (by rw [List.getElem?_map, hi]; rfl)]
  show (gs.map _)[i]? = _
  rw [List.getElem?_map, hi]; rfl
theorem prs_gs : ∀ (gs : List Gd), prs? (gs.map fun g => D.tup [sD g.nm, uD g.un]) = some (gs.map fun g => ((.inr (SL g.nm) : Key), uD g.un))
  | [] => rfl
  | g :: gs => by
    have ih := prs_gs gs
    rw [List.map_cons]
    show (some ((.inr (SL g.nm) : Key), uD g.un)).bind (fun p => (prs? (gs.map fun g => D.tup [sD g.nm, uD g.un])).map (p :: ·)) = _
    rw [ih]; rfl
theorem merge_nd {α : Type} : ∀ (kvs : List (Key × α)) (ks : List Key) (os : List α), (ks ++ kvs.map (·.1)).Nodup → mergeL (ks, os) kvs = (ks ++ kvs.map (·.1), os ++ kvs.map (·.2))
  | [], ks, os, _ => by simp [mergeL]
  | kv :: kvs, ks, os, nd => by
    have hk : kv.1 ∉ ks := fun z => by
      have := (List.nodup_append.mp nd).2.2 kv.1 z kv.1 (by simp)
      exact this rfl
    have hi : idxK ks kv.1 = none := by
      unfold idxK
      rw [List.findIdx?_eq_none_iff]
      intro x hx
      simp
      intro e
      exact hk (e ▸ hx)
    have e : mergeL (ks, os) (kv :: kvs) = mergeL (ks ++ [kv.1], os ++ [kv.2]) kvs := by
      show mergeL (putL ks os kv.1 kv.2) kvs = _
      unfold putL
      rw [hi]
    rw [e, merge_nd kvs _ _ (by simpa using nd)]
    simp
theorem inr_nd {gs : List Gd} (nd : (gs.map Gd.nm).Nodup) : (gs.map fun g => (.inr (SL g.nm) : Key)).Nodup := by
  have : (gs.map fun g => (.inr (SL g.nm) : Key)) = (gs.map Gd.nm).map fun l => (.inr (SL l) : Key) := by rw [List.map_map]; rfl
  rw [this]
  refine List.Pairwise.map _ (fun a b h z => h ?_) nd
  exact SL_inj (Sum.inr.inj z)
theorem dct_gs {gs : List Gd} (nd : (gs.map Gd.nm).Nodup) : dctOf (gs.map fun g => ((.inr (SL g.nm) : Key), uD g.un)) = prD gs := by
  unfold dctOf prD pK kD
  rw [merge_nd _ _ _ (by rw [List.nil_append, List.map_map]; exact inr_nd nd)]
  simp [List.map_map]
/-! ### upwards -/
inductive Ch (gs : List Gd) : Option (List Nat) → List (List Nat) → Prop
  | nil : Ch gs none []
  | cons {g : Gd} {L : List (List Nat)} : g ∈ gs → Ch gs g.un L → Ch gs (some g.nm) (g.nm :: L)
theorem ch_ex {gs : List Gd} {ds : List Nat} (h : GsOk gs ds) : ∀ (i : Nat) (g : Gd), gs[i]? = some g → ∃ L, Ch gs (some g.nm) L ∧ L.length ≤ i + 1 := by
  intro i
  induction i using Nat.strongRecOn with
  | ind i ih =>
    intro g hg
    have hm := List.mem_of_getElem? hg
    rcases h.under i g hg with ⟨hu, _⟩ | ⟨j, u, d, hj, hu, hn, _⟩
    · refine ⟨[g.nm], .cons hm ?_, by simp⟩
      rw [hu]; exact .nil
    · obtain ⟨L, hL, hl⟩ := ih j hj u hu
      refine ⟨g.nm :: L, .cons hm ?_, by simp; omega⟩
      rw [hn]; exact hL
theorem ch_mem {gs : List Gd} {ds : List Nat} (h : GsOk gs ds) {g : Gd} (hg : g ∈ gs) (hl : gs.length ≤ 16) : ∃ L, Ch gs (some g.nm) L ∧ L.length ≤ 16 := by
  obtain ⟨i, hi⟩ := List.getElem?_of_mem hg
  obtain ⟨L, h1, h2⟩ := ch_ex h i g hi
  have := (List.getElem?_eq_some_iff.mp hi).1
  exact ⟨L, h1, by omega⟩
theorem uD_ne (l : List Nat) : notNO (.val (sD l)) (.val .non) = some (.val (.bl true)) := rfl
theorem up_chain {gs : List Gd} (nd : (gs.map Gd.nm).Nodup) (x0 : Option O) {u : Option (List Nat)} {L : List (List Nat)} (c : Ch gs u L) : ∀ (F : List (List Nat)) (n : Nat), F.length + L.length < 100 → L.length < n →
    whileN t1_chain b1_chain n [x0, some (.val (uD u)), some (.val (prD gs)), some (sO F), none] = .ok .nx [x0, some (.val .non), some (.val (prD gs)), some (sO (F ++ L)), none] := by
  induction c with
  | nil =>
    intro F n h1 h2
    cases n with
    | zero => simp at h2
    | succ n =>
      unfold whileN
      have e : notNO (.val (uD none)) (.val .non) = some (.val (.bl false)) := rfl
      simp [t1_chain, e]
      rfl
  | @cons g L hg hc ih =>
    intro F n h1 h2
    cases n with
    | zero => simp at h2
    | succ n =>
      have e := uD_ne g.nm
      have ap := sO_apA 3 F
      have ac := sO_ap 3 F g.nm (by simp at h1; omega)
      have ix := get_un (prD_p gs) nd hg
      have ih := ih (F ++ [g.nm]) n (by simp at h1 ⊢; omega) (by simp at h2; omega)
      rw [List.append_assoc] at ih
      rw [show F ++ ([g.nm] ++ L) = F ++ g.nm :: L by simp] at ih
      have ht : t1_chain [x0, some (.val (uD (some g.nm))), some (.val (prD gs)), some (sO F), none] = .ok true [x0, some (.val (uD (some g.nm))), some (.val (prD gs)), some (sO F), none] := by
        have e : notNO (.val (uD (some g.nm))) (.val .non) = some (.val (.bl true)) := rfl
        simp [t1_chain, e]
      have hb : b1_chain [x0, some (.val (uD (some g.nm))), some (.val (prD gs)), some (sO F), none] = .ok .nx [x0, some (.val (uD g.un)), some (.val (prD gs)), some (sO (F ++ [g.nm])), none] := by
        show b1_chain [x0, some (.val (sD g.nm)), some (.val (prD gs)), some (sO F), none] = _
        generalize prD gs = PD at *
        generalize sO (F ++ [g.nm]) = S2 at *
        generalize sO F = S1 at *
        simp [b1_chain, ap, ac, ix]
      unfold whileN
      rw [ht]
      simp [hb, ih]
theorem chain {gs : List Gd} (nd : (gs.map Gd.nm).Nodup) (hl : gs.length ≤ 100) {l : List Nat} {L : List (List Nat)} (c : Ch gs (some l) L) (h16 : L.length ≤ 16) : F_chain [.val (.tup (gs.map gD)), .val (sD l)] = some (sO L, [none, none]) := by
  have hc := compL_all (ρ := [some (.val (.tup (gs.map gD))), some (.val (sD l)), none, none, none]) (own := [4]) (a := aN 4) (t := mTrue) (e := mP (pTup (pCons (p2 ixO (pVar 4) (pC (.int 0))) (pCons (p2 ixO (pVar 4) (pC (.int 1))) pNil)))) gD (fun g => O.val (.tup [sD g.nm, uD g.un])) (xs := gs) (by
    intro g hg
    have g0 := gD_0 g
    have g1 := gD_1 g
    exact ⟨[some (.val (.tup (gs.map gD))), some (.val (sD l)), none, none, some (.val (gD g))], [some (.val (.tup (gs.map gD))), some (.val (sD l)), none, none, some (.val (gD g))], [some (.val (.tup (gs.map gD))), some (.val (sD l)), none, none, some (.val (gD g))], by simp, by simp, by simp [g0, g1], by simp⟩)
  have q : q1_chain [some (.val (.tup (gs.map gD))), some (.val (sD l)), none, none, none] = .ok (vO (gs.map fun g => D.tup [sD g.nm, uD g.un])) [some (.val (.tup (gs.map gD))), some (.val (sD l)), none, none, none] := by
    simp [q1_chain, show gs.length ≤ 1000000 by omega]
    rw [hc]
    simp [vO, bkK_eta]
  have w := up_chain nd (some (.val (.tup (gs.map gD)))) c [] fuel (by simp; omega) (by rw [fuel_eq]; omega)
  rw [List.nil_append] at w
  have pg := prs_gs gs
  have dg := dct_gs nd
  have vt := vO_toD (gs.map fun g => D.tup [sD g.nm, uD g.un])
  generalize vO (gs.map fun g => D.tup [sD g.nm, uD g.un]) = VV at *
  have w' : whileN t1_chain b1_chain fuel [some (.val (.tup (gs.map gD))), some (.val (sD l)), some (.val (prD gs)), some (O.lst []), none] = .ok .nx [some (.val (.tup (gs.map gD))), some (.val .non), some (.val (prD gs)), some (sO L), none] := w
  generalize sO L = S at *
  unfold F_chain
  rw [runF_eq]
  simp [b_chain, q, vt, pg, dg, mWhile, w']
  rfl

end Lw

namespace Lw
open PySem PySem.Spec L2 FB Wk
open PyProof.Rows hiding St
theorem map_sD (L : List (List Nat)) : L.map sD = (L.map SL).map D.str := by rw [List.map_map]; rfl
theorem SL_eq (l m : List Nat) : decide (SL l = SL m) = decide (l = m) := by
  by_cases h : l = m
  · subst h; simp
  · rw [decide_eq_false h, decide_eq_false fun z => h (SL_inj z)]
theorem in_names (l : List Nat) (L : List (List Nat)) : inH (.val (sD l)) (sO L) = some (.val (.bl (decide (l ∈ L)))) := by
  show inO (.val (.str (SL l))) (sO L) = _
  unfold inO
  rw [sO_toD, map_sD]
  show (inD (.str (SL l)) (.lst ((L.map SL).map D.str))).map _ = _
  rw [inD_strs]
  show some (O.val (.bl _)) = _
  congr 3
  rw [List.any_map]
  induction L with
  | nil => simp
  | cons m L ih =>
    rw [List.any_cons, ih]
    show (decide (SL m = SL l) || _) = _
    rw [SL_eq]
    by_cases h : m = l
    · subst h; simp
    · simp [h, show ¬ l = m from fun z => h z.symm]
theorem eq_name0 (l m : List Nat) : eqO (.val (sD l)) (.val (sD m)) = some (.val (.bl (decide (l = m)))) := by
  show eqO (.val (.str (SL l))) (.val (.str (SL m))) = _
  rw [eqO_str, SL_eq]
/-- what stands over a name -/
def OverL (b : Bd) (l : List Nat) (L : List (List Nat)) : Prop := (l ∈ b.gs.map Gd.nm ∧ Ch b.gs (some l) L) ∨ ∃ x ∈ b.ls, x.nm = l ∧ Ch b.gs (some x.pl) L
theorem over_ex (b : Bd) (h : BOk b) {l : List Nat} (hl : l ∈ b.gs.map Gd.nm ++ b.ls.map Ld.nm) : ∃ L, OverL b l L ∧ L.length ≤ 16 := by
  obtain ⟨ds, hg⟩ := h.deep
  rcases List.mem_append.mp hl with q | q
  · obtain ⟨g, h1, h2⟩ := List.mem_map.mp q
    obtain ⟨L, c, hL⟩ := ch_mem hg h1 h.g2
    exact ⟨L, .inl ⟨q, h2 ▸ c⟩, hL⟩
  · obtain ⟨x, h1, h2⟩ := List.mem_map.mp q
    have ha := h.ls.pl x h1
    obtain ⟨g, h3, h4⟩ := List.mem_map.mp ha
    obtain ⟨L, c, hL⟩ := ch_mem hg h3 h.g2
    exact ⟨L, .inr ⟨x, h1, h2, h4 ▸ c⟩, hL⟩

end Lw

namespace Lw
open PySem PySem.Spec L2 FB Wk
open PyProof.Rows hiding St
theorem ld_eq {b : Bd} (h : BOk b) {x y : Ld} (hx : x ∈ b.ls) (hy : y ∈ b.ls) (e : x.nm = y.nm) : x = y := by
  have nd := (List.nodup_append.mp h.nd).2.1
  obtain ⟨i, hi⟩ := List.getElem?_of_mem hx
  obtain ⟨j, hj⟩ := List.getElem?_of_mem hy
  have i1 := (List.getElem?_eq_some_iff.mp hi).1
  have j1 := (List.getElem?_eq_some_iff.mp hj).1
  have : i = j := by
    have a1 : (b.ls.map Ld.nm)[i]? = some x.nm := by rw [List.getElem?_map, hi]; rfl
    have a2 : (b.ls.map Ld.nm)[j]? = some x.nm := by rw [List.getElem?_map, hj, e]; rfl
    exact (List.getElem?_inj (by simpa using i1) nd).mp (a1.trans a2.symm)
  subst this
  rw [hi] at hj
  cases hj; rfl
theorem apart {b : Bd} (h : BOk b) {x : Ld} (hx : x ∈ b.ls) {l : List Nat} (hl : l ∈ b.gs.map Gd.nm) : x.nm ≠ l := fun e => by
  have := (List.nodup_append.mp h.nd).2.2 l hl x.nm (List.mem_map.mpr ⟨x, hx, rfl⟩)
  exact this e.symm
theorem lsnd {b : Bd} (h : BOk b) : (b.ls.map Ld.nm).Nodup := (List.nodup_append.mp h.nd).2.1
theorem gsnd {b : Bd} (h : BOk b) : (b.gs.map Gd.nm).Nodup := (List.nodup_append.mp h.nd).1
theorem in_names0 (l : List Nat) (L : List (List Nat)) : inO (.val (sD l)) (sO L) = some (.val (.bl (decide (l ∈ L)))) := in_names l L
theorem over_run (b : Bd) (h : BOk b) {l : List Nat} {L : List (List Nat)} (o : OverL b l L) (h16 : L.length ≤ 16) : F_over [.val (bD b), .val (sD l)] = some (sO L, [none, none]) := by
  have b0 := bD_0 b
  have b1 := bD_1 b
  have G := gu b h
  have hi := in_names0 l (b.gs.map Gd.nm)
  have g16 := h.g2
  rcases o with ⟨hl, c⟩ | ⟨x, hx, rfl, c⟩
  · have ch := chain (gsnd h) (by omega) c h16
    rw [decide_eq_true hl] at hi
    generalize sO (b.gs.map Gd.nm) = S1 at *
    generalize sO L = S2 at *
    unfold F_over
    rw [runF_eq]
    simp [b_over, G, hi, b0, ch]
    rfl
  · have ch := chain (gsnd h) (by omega) c h16
    have hn : x.nm ∉ b.gs.map Gd.nm := fun z => apart h hx z rfl
    rw [decide_eq_false hn] at hi
    have lp := forL_all (a := aTup (aCons (aN 2) (aCons (aN 3) (aCons (aN 4) (aCons (aN 5) (aCons (aN 6) (aNil))))))) (b := b1_over) lD (fun c : Option O × Option O × Option O × Option O × Option O => E_over (some (.val (bD b))) (some (.val (sD x.nm))) c.1 c.2.1 c.2.2.1 c.2.2.2.1 c.2.2.2.2) (fun y => !decide (y.nm = x.nm)) (fun _ => sO L) (fun _ y => (some (.val (sD y.nm)), some (.val (sD y.pl)), some (.val (cv y.cs)), some (.val (.int y.la)), some (.val (.bl y.on)))) (xs := b.ls) (none, none, none, none, none) (by
      intro y hy c
      have eg := eq_name0 y.nm x.nm
      refine ⟨fun hp => ?_, fun hp => ?_⟩
      · have e : ¬ y.nm = x.nm := by simpa using hp
        rw [decide_eq_false e] at eg
        simp [b1_over, eg, lD]
      · have e : y.nm = x.nm := by simpa using hp
        have ey : y = x := ld_eq h hy hx e
        subst ey
        rw [decide_eq_true rfl] at eg
        refine ⟨E_over (some (.val (bD b))) (some (.val (sD y.nm))) (some (.val (sD y.nm))) (some (.val (sD y.pl))) (some (.val (cv y.cs))) (some (.val (.int y.la))) (some (.val (.bl y.on))), ?_⟩
        generalize sO L = S2 at *
        simp [b1_over, eg, b0, ch, lD])
    rcases lp with ⟨hall, _⟩ | ⟨_, _, _, ρ2, lp⟩
    · have := List.all_eq_true.mp hall x hx
      simp at this
    · generalize sO (b.gs.map Gd.nm) = S1 at *
      generalize sO L = S2 at *
      unfold F_over
      rw [runF_eq]
      simp at lp
      simp [b_over, G, hi, b1, lp]
      rfl

end Lw

namespace Lw
open PySem PySem.Spec L2 FB Wk
open PyProof.Rows hiding St
/-! dicts made of pairs of a name and a thing -/
section
variable {α : Type} (k : α → List Nat) (v : α → D)
def dK (xs : List α) : D := .dct (kD (xs.map k)) (xs.map v)
theorem prs_gen : ∀ (xs : List α), prs? (xs.map fun x => D.tup [sD (k x), v x]) = some (xs.map fun x => ((.inr (SL (k x)) : Key), v x))
  | [] => rfl
  | x :: xs => by
    have ih := prs_gen xs
    rw [List.map_cons]
    show (some ((.inr (SL (k x)) : Key), v x)).bind (fun p => (prs? (xs.map fun x => D.tup [sD (k x), v x])).map (p :: ·)) = _
    rw [ih]; rfl
theorem kD_nd {ms : List (List Nat)} (nd : ms.Nodup) : (kD ms).Nodup := by
  unfold kD
  exact List.Pairwise.map _ (fun a b h z => h (SL_inj (Sum.inr.inj z))) nd
theorem dct_gen {xs : List α} (nd : (xs.map k).Nodup) : dctOf (xs.map fun x => ((.inr (SL (k x)) : Key), v x)) = dK k v xs := by
  unfold dctOf dK
  have e : (xs.map fun x => ((.inr (SL (k x)) : Key), v x)).map (·.1) = kD (xs.map k) := by unfold kD; rw [List.map_map, List.map_map]; rfl
  rw [merge_nd _ _ _ (by rw [List.nil_append, e]; exact kD_nd nd), e]
  simp [List.map_map]
end
end Lw

namespace Lw
open PySem PySem.Spec L2 FB Wk
open PyProof.Rows hiding St
def nms (b : Bd) : List (List Nat) := b.gs.map Gd.nm ++ b.ls.map Ld.nm
def nmV (b : Bd) : D := .lst ((nms b).map sD)
theorem nms_ok {b : Bd} (h : BOk b) : ∀ l ∈ nms b, NameOk l := fun l hl => by
  obtain ⟨ds, hg⟩ := h.deep
  rcases List.mem_append.mp hl with q | q
  · obtain ⟨g, h1, h2⟩ := List.mem_map.mp q
    rw [← h2]; exact hg.names g h1
  · obtain ⟨g, h1, h2⟩ := List.mem_map.mp q
    rw [← h2]; exact h.ls.names g h1
/-- some open ones, as a list or tuple -/
def OpT (t : D) (S : List (List Nat)) : Prop := t = .lst (S.map sD) ∨ t = .tup (S.map sD)
theorem any_dec (m : List Nat) (S : List (List Nat)) : (S.map SL).any (fun y => decide (y = SL m)) = decide (m ∈ S) := by
  rw [List.any_map]
  induction S with
  | nil => simp
  | cons s S ih =>
    rw [List.any_cons, ih]
    show (decide (SL s = SL m) || _) = _
    rw [SL_eq]
    by_cases h : s = m
    · subst h; simp
    · simp [h, show ¬ m = s from fun z => h z.symm]
theorem op_in {t : D} {S : List (List Nat)} (h : OpT t S) (m : List Nat) : inO (.val (sD m)) (.val t) = some (.val (.bl (decide (m ∈ S)))) := by
  rcases h with h | h <;> subst h
  · show (inD (.str (SL m)) (.lst (S.map sD))).map _ = _
    rw [map_sD, inD_strs, any_dec]; rfl
  · show (inD (.str (SL m)) (.tup (S.map sD))).map _ = _
    have q : inD (.str (SL m)) (.tup (S.map sD)) = inD (.str (SL m)) (.lst (S.map sD)) := by
      rw [map_sD]
      have h : D.flat (.str (SL m)) = true ∧ ((S.map SL).map D.str).all D.flat = true := ⟨rfl, by simp⟩
      show (if D.flat (.str (SL m)) = true ∧ ((S.map SL).map D.str).all D.flat = true then _ else _) = (if D.flat (.str (SL m)) = true ∧ ((S.map SL).map D.str).all D.flat = true then _ else _)
      rw [if_pos h, if_pos h]
    rw [q, map_sD, inD_strs, any_dec]; rfl
def fedB (L S : List (List Nat)) : Bool := !L.any fun m => decide (m ∈ S)

end Lw

namespace Lw
open PySem PySem.Spec L2 FB Wk
open PyProof.Rows hiding St
theorem nm_len (b : Bd) (h : BOk b) : 0 < (nms b).length ∧ (nms b).length ≤ 40 := by
  have g1 := h.g1
  have g2 := h.g2
  have l2 := h.l2
  unfold nms
  simp
  omega
theorem okE_names (n : Nat) (S : List (List Nat)) : (S.map sD).all (D.okE n) = true := by
  rw [List.all_eq_true]
  intro d hd
  obtain ⟨l, _, rfl⟩ := List.mem_map.mp hd
  exact okE_str n _
end Lw

namespace Lw
open PySem PySem.Spec L2 FB Wk
open PyProof.Rows hiding St
end Lw

namespace Lw
open PySem PySem.Spec L2 FB Wk
open PyProof.Rows hiding St
/-! dicts from names -/
def updN (v : List Nat → D) (n : List Nat) (d : D) : List Nat → D := fun m => if m = n then d else v m
def mD (ks : List (List Nat)) (v : List Nat → D) : D := .dct (kD ks) (ks.map v)
def mO (ks : List (List Nat)) (v : List Nat → D) : O := .dct (kD ks) ((ks.map v).map O.val)
theorem mO_toD (ks : List (List Nat)) (v : List Nat → D) : (mO ks v).toD = mD ks v := by
  show D.dct (kD ks) (O.toDs ((ks.map v).map O.val)) = _
  rw [toDs_vals]; rfl
theorem dctP_mD (ks : List (List Nat)) (v : List Nat → D) : dctP (.val (mD ks v)) = some (kD ks, (ks.map v).map O.val) := rfl
theorem dctP_mO (ks : List (List Nat)) (v : List Nat → D) : dctP (mO ks v) = some (kD ks, (ks.map v).map O.val) := rfl
theorem idx_of {ks : List (List Nat)} (nd : ks.Nodup) {n : List Nat} (h : n ∈ ks) : ∃ i, ks[i]? = some n ∧ idxK (kD ks) (.inr (SL n)) = some i := by
  obtain ⟨i, hi⟩ := List.getElem?_of_mem h
  exact ⟨i, hi, idx_some nd hi⟩
theorem dg_m {a : O} {ks : List (List Nat)} {v : List Nat → D} (ha : dctP a = some (kD ks, (ks.map v).map O.val)) (nd : ks.Nodup) {n : List Nat} (h : n ∈ ks) : dgO a (.val (sD n)) = some (.val (v n)) := by
  obtain ⟨i, hi, e⟩ := idx_of nd h
  unfold dgO
  rw [ha]
  show ((idxK (kD ks) (.inr (SL n))).bind fun j => ((ks.map v).map O.val)[j]?) = _
  rw [e]
  show ((ks.map v).map O.val)[i]? = _
  rw [List.getElem?_map, List.getElem?_map, hi]; rfl
theorem ix_mD {ks : List (List Nat)} {v : List Nat → D} (nd : ks.Nodup) {n : List Nat} (h : n ∈ ks) : ixF (.val (mD ks v)) (.val (sD n)) = some (.val (v n)) := dg_m (dctP_mD ks v) nd h
theorem ix_mO {ks : List (List Nat)} {v : List Nat → D} (nd : ks.Nodup) {n : List Nat} (h : n ∈ ks) : ixF (mO ks v) (.val (sD n)) = some (.val (v n)) := dg_m (dctP_mO ks v) nd h
theorem get_m {a : O} {ks : List (List Nat)} {v : List Nat → D} (ha : dctP a = some (kD ks, (ks.map v).map O.val)) (nd : ks.Nodup) (n : List Nat) (c : D) : getO a (.val (sD n)) (.val c) = some (.val (if n ∈ ks then v n else c)) := by
  unfold getO
  rw [ha]
  show some (getK (kD ks, (ks.map v).map O.val) (.val c) (some (.inr (SL n)))) = _
  by_cases h : n ∈ ks
  · obtain ⟨i, hi, e⟩ := idx_of nd h
    rw [if_pos h]
    show some (((idxK (kD ks) (.inr (SL n))).bind fun j => ((ks.map v).map O.val)[j]?).getD (.val c)) = _
    rw [e]
    show some ((((ks.map v).map O.val)[i]?).getD (.val c)) = _
    rw [List.getElem?_map, List.getElem?_map, hi]; rfl
  · rw [if_neg h]
    show some (((idxK (kD ks) (.inr (SL n))).bind fun j => ((ks.map v).map O.val)[j]?).getD (.val c)) = _
    rw [idx_none h]; rfl
theorem get_mO {ks : List (List Nat)} {v : List Nat → D} (nd : ks.Nodup) (n : List Nat) (c : D) : getO (mO ks v) (.val (sD n)) (.val c) = some (.val (if n ∈ ks then v n else c)) := get_m (dctP_mO ks v) nd n c
theorem set_new {ks : List (List Nat)} {v : List Nat → D} {n : List Nat} (h : n ∉ ks) (hl : ks.length < 1000000) (d : D) : setItO (mO ks v) (.val (sD n)) (.val d) = some (mO (ks ++ [n]) (updN v n d)) := by
  show (if (kD ks).length < 1000000 then some (O.dct (putL (kD ks) ((ks.map v).map O.val) (.inr (SL n)) (.val d)).1 (putL (kD ks) ((ks.map v).map O.val) (.inr (SL n)) (.val d)).2) else none) = _
  rw [if_pos (by unfold kD; simpa using hl)]
  unfold putL
  rw [idx_none h]
  unfold mO
  have e1 : kD (ks ++ [n]) = kD ks ++ [.inr (SL n)] := by unfold kD; simp
  have e2 : (ks ++ [n]).map (updN v n d) = ks.map v ++ [d] := by
    rw [List.map_append]
    congr 1
    · exact List.map_congr_left fun m hm => if_neg fun (e : m = n) => h (e ▸ hm)
    · simp [updN]
  rw [e1, e2, List.map_append]; rfl
theorem set_old {ks : List (List Nat)} {v : List Nat → D} (nd : ks.Nodup) {n : List Nat} (h : n ∈ ks) (hl : ks.length < 1000000) (d : D) : setItO (mO ks v) (.val (sD n)) (.val d) = some (mO ks (updN v n d)) := by
  obtain ⟨i, hi, e⟩ := idx_of nd h
  show (if (kD ks).length < 1000000 then some (O.dct (putL (kD ks) ((ks.map v).map O.val) (.inr (SL n)) (.val d)).1 (putL (kD ks) ((ks.map v).map O.val) (.inr (SL n)) (.val d)).2) else none) = _
  rw [if_pos (by unfold kD; simpa using hl)]
  unfold putL
  rw [e]
  unfold mO
  show some (O.dct (kD ks) (((ks.map v).map O.val).set i (.val d))) = _
  congr 2
  apply List.ext_getElem?
  intro j
  have il : i < ks.length := (List.getElem?_eq_some_iff.mp hi).1
  by_cases ej : i = j
  · subst ej
    rw [List.getElem?_set_self (by simpa using il), List.getElem?_map, List.getElem?_map, hi]
    simp [updN]
  · rw [List.getElem?_set_ne ej, List.getElem?_map, List.getElem?_map, List.getElem?_map, List.getElem?_map]
    cases hj : ks[j]? with
    | none => rfl
    | some m =>
      have : m ≠ n := fun z => by
        subst z
        exact ej ((List.getElem?_inj il nd).mp (hi.trans hj.symm))
      simp [updN, this]
theorem aug_mO {ρ : FB.Env} {i : Nat} {g : Int → Int → Int} {nn mm : Pf} {ks : List (List Nat)} {v : List Nat → D} {n : List Nat} {x y : Int} (h0 : ρ[i]? = some (some (mO ks v))) (hn : nn ρ = some (.val (sD n))) (hm : mm ρ = some (.val (.int y))) (nd : ks.Nodup) (h : n ∈ ks) (hv : v n = .int x) (hl : ks.length < 1000000) :
    mAugI i g nn mm ρ = .ok .nx (ρ.set i (some (mO ks (updN v n (.int (g x y)))))) :=
  e_mAugI i g nn mm (mO ks v) (mO ks (updN v n (.int (g x y)))) (sD n) x y h0 hn hm ((dg_m (dctP_mO ks v) nd h).trans (by rw [hv])) (set_old nd h hl _)
theorem keys_mD (ks : List (List Nat)) : (kD ks).map keyD = ks.map sD := by unfold kD; rw [List.map_map]; rfl
theorem strOk_SL {l : List Nat} (h : ∀ c ∈ l, c < 26) : PyData.strOk (SL l) = true := by
  show (SL l).cps.all (· < 0x110000) = true
  rw [← Array.all_toList, List.all_eq_true]
  intro c hc
  obtain ⟨a, ha, rfl⟩ := List.mem_map.mp (show c ∈ l.map (97 + ·) by simpa [SL] using hc)
  have := h a ha
  simp; omega
theorem keyOk_kD {ks : List (List Nat)} (h : ∀ l ∈ ks, NameOk l) : (kD ks).all keyOk = true := by
  rw [List.all_eq_true]
  intro k hk
  obtain ⟨l, hl, rfl⟩ := List.mem_map.mp hk
  exact strOk_SL (h l hl).2.2
theorem keysOf_mD {ρ : FB.Env} {i : Nat} {ks : List (List Nat)} {v : List Nat → D} (h : ρ[i]? = some (some (.val (mD ks v)))) (hk : ∀ l ∈ ks, NameOk l) (hl : ks.length ≤ 1000000) : keysOf i ρ = some (ks.map sD, ρ) := by
  rw [← keys_mD]
  exact keysOf_val (ks := kD ks) (ds := ks.map v) h (keyOk_kD hk) (by unfold kD; simpa using hl)
theorem mO_nil (v : List Nat → D) : (O.dct [] [] : O) = mO [] v := rfl
theorem dct_mD {α : Type} (k : α → List Nat) (v : List Nat → D) {xs : List α} (nd : (xs.map k).Nodup) : dctOf (xs.map fun x => ((.inr (SL (k x)) : Key), v (k x))) = mD (xs.map k) v := by
  rw [dct_gen k (fun x => v (k x)) nd]
  unfold dK mD
  rw [List.map_map]; rfl

end Lw

namespace Lw
open PySem PySem.Spec L2 FB Wk
open PyProof.Rows hiding St
/-! what is over a name, as a function -/
theorem ch_in {gs : List Gd} {u : Option (List Nat)} {L : List (List Nat)} (c : Ch gs u L) : ∀ m ∈ L, m ∈ gs.map Gd.nm := by
  induction c with
  | nil => intro m hm; simp at hm
  | cons hg _ ih =>
    intro m hm
    rcases List.mem_cons.mp hm with e | hm
    · subst e; exact List.mem_map.mpr ⟨_, hg, rfl⟩
    · exact ih m hm
theorem gd_eq {gs : List Gd} (nd : (gs.map Gd.nm).Nodup) {g g' : Gd} (h : g ∈ gs) (h' : g' ∈ gs) (e : g.nm = g'.nm) : g = g' := by
  obtain ⟨i, hi⟩ := List.getElem?_of_mem h
  obtain ⟨j, hj⟩ := List.getElem?_of_mem h'
  have i1 := (List.getElem?_eq_some_iff.mp hi).1
  have : i = j := by
    have a1 : (gs.map Gd.nm)[i]? = some g.nm := by rw [List.getElem?_map, hi]; rfl
    have a2 : (gs.map Gd.nm)[j]? = some g.nm := by rw [List.getElem?_map, hj, e]; rfl
    exact (List.getElem?_inj (by simpa using i1) nd).mp (a1.trans a2.symm)
  subst this
  rw [hi] at hj
  cases hj; rfl
theorem ch_uniq {gs : List Gd} (nd : (gs.map Gd.nm).Nodup) {u : Option (List Nat)} {L : List (List Nat)} (c : Ch gs u L) : ∀ {L' : List (List Nat)}, Ch gs u L' → L = L' := by
  induction c with
  | nil => intro L' c'; cases c'; rfl
  | cons hg _ ih =>
    intro L' c'
    generalize eu : some _ = u at c'
    cases c' with
    | nil => cases eu
    | cons hg' c2 =>
      have := gd_eq nd hg hg' (Option.some.inj eu)
      subst this
      rw [ih c2]
/-- a chain falls along the places -/
theorem ch_fall {gs : List Gd} {ds : List Nat} (h : GsOk gs ds) : ∀ (i : Nat) (g : Gd) (L : List (List Nat)), gs[i]? = some g → Ch gs (some g.nm) L → ∃ L', L = g.nm :: L' ∧ Ch gs g.un L' ∧ L.Nodup ∧ ∀ m ∈ L', ∃ (j : Nat) (k : Gd), j < i ∧ gs[j]? = some k ∧ k.nm = m := by
  intro i
  induction i using Nat.strongRecOn with
  | ind i ih =>
    intro g L hg c
    have hm := List.mem_of_getElem? hg
    generalize eu : some g.nm = u at c
    cases c with
    | nil => cases eu
    | cons hg' c2 =>
      rename_i g' L'
      have := gd_eq h.nd hm hg' (Option.some.inj eu)
      subst this
      have key : L'.Nodup ∧ ∀ m ∈ L', ∃ (j : Nat) (k : Gd), j < i ∧ gs[j]? = some k ∧ k.nm = m := by
        rcases h.under i g hg with ⟨hu, _⟩ | ⟨j, u, d, hj, hu, hn, _⟩
        · rw [hu] at c2
          cases c2
          exact ⟨List.nodup_nil, fun m hm => by simp at hm⟩
        · rw [hn] at c2
          obtain ⟨L2, rfl, _, nd2, h2⟩ := ih j hj u L' hu c2
          refine ⟨nd2, fun m hm => ?_⟩
          rcases List.mem_cons.mp hm with e | hm
          · exact ⟨j, u, hj, hu, e.symm⟩
          · obtain ⟨k, x, q1, q2, q3⟩ := h2 m hm
            exact ⟨k, x, by omega, q2, q3⟩
      refine ⟨L', rfl, c2, List.nodup_cons.mpr ⟨fun z => ?_, key.1⟩, key.2⟩
      obtain ⟨j, k, hj, hk, e⟩ := key.2 _ z
      have i1 := (List.getElem?_eq_some_iff.mp hg).1
      have a1 : (gs.map Gd.nm)[i]? = some g.nm := by rw [List.getElem?_map, hg]; rfl
      have a2 : (gs.map Gd.nm)[j]? = some g.nm := by rw [List.getElem?_map, hk, ← e]; rfl
      have := (List.getElem?_inj (by simpa using i1) h.nd).mp (a1.trans a2.symm)
      omega
theorem ch_nodup {gs : List Gd} {ds : List Nat} (h : GsOk gs ds) {u : Option (List Nat)} {L : List (List Nat)} (c : Ch gs u L) : L.Nodup := by
  cases c with
  | nil => exact List.nodup_nil
  | cons hg c2 =>
    obtain ⟨i, hi⟩ := List.getElem?_of_mem hg
    obtain ⟨_, _, _, nd, _⟩ := ch_fall h i _ _ hi (.cons hg c2)
    exact nd
open Classical in
noncomputable def ovr (b : Bd) (l : List Nat) : List (List Nat) := if h : ∃ L, OverL b l L ∧ L.length ≤ 16 then Classical.choose h else []
theorem ovr_ok {b : Bd} (h : BOk b) {l : List Nat} (hl : l ∈ nms b) : OverL b l (ovr b l) ∧ (ovr b l).length ≤ 16 := by
  have e := over_ex b h hl
  unfold ovr
  rw [dif_pos e]
  exact Classical.choose_spec e
theorem over_uniq {b : Bd} (h : BOk b) {l : List Nat} {L L' : List (List Nat)} (o : OverL b l L) (o' : OverL b l L') : L = L' := by
  have nd := gsnd h
  rcases o with ⟨h1, c⟩ | ⟨x, h1, e, c⟩ <;> rcases o' with ⟨h2, c'⟩ | ⟨y, h2, e', c'⟩
  · exact ch_uniq nd c c'
  · exact absurd e' (apart h h2 h1)
  · exact absurd e (apart h h1 h2)
  · have := ld_eq h h1 h2 (e.trans e'.symm)
    subst this
    exact ch_uniq nd c c'
theorem ovr_eq {b : Bd} (h : BOk b) {l : List Nat} {L : List (List Nat)} (hl : l ∈ nms b) (o : OverL b l L) : ovr b l = L := over_uniq h (ovr_ok h hl).1 o
theorem over_in {b : Bd} {l : List Nat} {L : List (List Nat)} (o : OverL b l L) : ∀ m ∈ L, m ∈ b.gs.map Gd.nm := by
  rcases o with ⟨_, c⟩ | ⟨_, _, _, c⟩ <;> exact ch_in c
theorem over_nodup {b : Bd} (h : BOk b) {l : List Nat} {L : List (List Nat)} (o : OverL b l L) : L.Nodup := by
  obtain ⟨ds, hg⟩ := h.deep
  rcases o with ⟨_, c⟩ | ⟨_, _, _, c⟩ <;> exact ch_nodup hg c
theorem nms_g {b : Bd} {l : List Nat} (h : l ∈ b.gs.map Gd.nm) : l ∈ nms b := List.mem_append_left _ h
theorem nms_l {b : Bd} {l : List Nat} (h : l ∈ b.ls.map Ld.nm) : l ∈ nms b := List.mem_append_right _ h
theorem nms_gs {b : Bd} {g : Gd} (h : g ∈ b.gs) : g.nm ∈ nms b := nms_g (List.mem_map.mpr ⟨g, h, rfl⟩)
theorem nms_ls {b : Bd} {x : Ld} (h : x ∈ b.ls) : x.nm ∈ nms b := nms_l (List.mem_map.mpr ⟨x, h, rfl⟩)
/-- over a guard: itself, then over its under -/
theorem ovr_guard {b : Bd} (h : BOk b) {g : Gd} (hg : g ∈ b.gs) : Ch b.gs (some g.nm) (ovr b g.nm) := by
  rcases (ovr_ok h (nms_gs hg)).1 with ⟨_, c⟩ | ⟨x, hx, e, _⟩
  · exact c
  · exact absurd e (apart h hx (List.mem_map.mpr ⟨g, hg, rfl⟩))
theorem ovr_load {b : Bd} (h : BOk b) {x : Ld} (hx : x ∈ b.ls) : ovr b x.nm = ovr b x.pl := by
  refine ovr_eq h (nms_ls hx) (.inr ⟨x, hx, rfl, ?_⟩)
  have hp := h.ls.pl x hx
  rcases (ovr_ok h (nms_g hp)).1 with ⟨_, c⟩ | ⟨y, hy, e, _⟩
  · exact c
  · exact absurd e (apart h hy hp)
def ovU (b : Bd) : Option (List Nat) → (List Nat → List (List Nat)) → List (List Nat)
  | none, _ => []
  | some u, f => f u
theorem un_in {b : Bd} (h : BOk b) {g : Gd} (hg : g ∈ b.gs) {u : List Nat} (e : g.un = some u) : u ∈ b.gs.map Gd.nm := by
  obtain ⟨ds, hd⟩ := h.deep
  obtain ⟨i, hi⟩ := List.getElem?_of_mem hg
  rcases hd.under i g hi with ⟨hu, _⟩ | ⟨j, v, d, hj, hv, hn, _⟩
  · rw [hu] at e; cases e
  · rw [hn] at e
    cases e
    exact List.mem_map.mpr ⟨v, List.mem_of_getElem? hv, rfl⟩
theorem ovr_cons {b : Bd} (h : BOk b) {g : Gd} (hg : g ∈ b.gs) : ovr b g.nm = g.nm :: ovU b g.un (ovr b) := by
  have c := ovr_guard h hg
  generalize ovr b g.nm = L at c
  generalize eu : some g.nm = u at c
  cases c with
  | nil => cases eu
  | cons hg' c2 =>
    have := gd_eq (gsnd h) hg hg' (Option.some.inj eu)
    subst this
    congr 1
    cases e : g.un with
    | none => rw [e] at c2; cases c2; rfl
    | some u =>
      rw [e] at c2
      have hu := un_in h hg e
      exact (ovr_eq h (nms_g hu) (.inl ⟨hu, c2⟩)).symm

end Lw

namespace Lw
open PySem PySem.Spec L2 FB Wk
open PyProof.Rows hiding St
/-! draws -/
noncomputable def drw (b : Bd) (S ks : List (List Nat)) (v : List Nat → Int) (g : List Nat) : Int := ((ks.filter fun p => fedB (ovr b p) S && decide (g ∈ ovr b p)).map v).sum
theorem drw_snoc (b : Bd) (S ks : List (List Nat)) (v : List Nat → Int) (p g : List Nat) : drw b S (ks ++ [p]) v g = drw b S ks v g + if (fedB (ovr b p) S && decide (g ∈ ovr b p)) = true then v p else 0 := by
  unfold drw
  rw [List.filter_append, List.map_append, List.sum_append]
  congr 1
  cases h : (fedB (ovr b p) S && decide (g ∈ ovr b p)) <;> simp [List.filter_cons, h]
abbrev iV (v : List Nat → Int) : List Nat → D := fun n => .int (v n)
theorem updN_iV (v : List Nat → Int) (n : List Nat) (x : Int) : updN (iV v) n (.int x) = iV (fun m => if m = n then x else v m) := by
  funext m
  unfold updN
  by_cases h : m = n <;> simp [h]
theorem draws_zero (b : Bd) (h : BOk b) (t P : D) : ∃ c, forL (aN 4) b1_draws ((b.gs.map Gd.nm).map sD) (E_draws (some (.val (bD b))) (some (.val t)) (some (.val P)) (some (mO [] (iV fun _ => 0)))) = .ok .nx (E_draws (some (.val (bD b))) (some (.val t)) (some (.val P)) (some (mO (b.gs.map Gd.nm) (iV fun _ => 0))) c) := by
  have nd := gsnd h
  have g2 := h.g2
  obtain ⟨⟨ks, c⟩, e, i⟩ := forL_ex (a := aN 4) (b := b1_draws) sD (fun s : List (List Nat) × Option O => E_draws (some (.val (bD b))) (some (.val t)) (some (.val P)) (some (mO s.1 (iV fun _ => 0))) s.2) (fun xs s => s.1 ++ xs = b.gs.map Gd.nm) (xs := b.gs.map Gd.nm) ([], none) rfl (by
    rintro x xs ⟨ks, c⟩ hi
    have hi : ks ++ x :: xs = b.gs.map Gd.nm := hi
    have hx : x ∉ ks := by
      rw [← hi, List.nodup_append] at nd
      exact fun z => nd.2.2 x z x (List.mem_cons_self ..) rfl
    have hl : ks.length < 1000000 := by
      have := congrArg List.length hi
      simp at this
      omega
    have q := set_new (v := iV fun _ => 0) hx hl (.int 0)
    rw [updN_iV] at q
    refine ⟨(ks ++ [x], some (.val (sD x))), ?_, by simp [hi]⟩
    simp [b1_draws, q])
  have i : ks ++ [] = b.gs.map Gd.nm := i
  rw [List.append_nil] at i
  subst i
  exact ⟨c, e⟩
theorem draws_add (b : Bd) (h : BOk b) (t : D) (ks : List (List Nat)) (v : List Nat → Int) (nk : ks.Nodup) {p : List Nat} (hp : p ∈ ks) (ab : Option O) : ∀ (L : List (List Nat)), L.Nodup → (∀ m ∈ L, m ∈ b.gs.map Gd.nm) → ∀ (f : List Nat → Int) (c : Option O), ∃ c', forL (aN 4) b2_draws (L.map sD) (E_draws (some (.val (bD b))) (some (.val t)) (some (.val (mD ks (iV v)))) (some (mO (b.gs.map Gd.nm) (iV f))) c (some (.val (sD p))) ab) =
    .ok .nx (E_draws (some (.val (bD b))) (some (.val t)) (some (.val (mD ks (iV v)))) (some (mO (b.gs.map Gd.nm) (iV fun g => f g + if g ∈ L then v p else 0))) c' (some (.val (sD p))) ab)
  | [], _, _, f, c => ⟨c, by simp [forL]⟩
  | m :: L, nd, hm, f, c => by
    rw [List.nodup_cons] at nd
    have g2 := h.g2
    have q := aug_mO (ρ := E_draws (some (.val (bD b))) (some (.val t)) (some (.val (mD ks (iV v)))) (some (mO (b.gs.map Gd.nm) (iV f))) (some (.val (sD m))) (some (.val (sD p))) ab) (i := 3) (g := fun i j => i + j) (nn := pVar 4) (mm := p2 ixF (pVar 2) (pVar 5)) (n := m) (x := f m) (y := v p) rfl (by simp) (by have := ix_mD (v := iV v) nk hp; simp [this]) (gsnd h) (hm m (List.mem_cons_self ..)) rfl (by simp; omega)
    rw [updN_iV] at q
    obtain ⟨c', ih⟩ := draws_add b h t ks v nk hp ab L nd.2 (fun x hx => hm x (List.mem_cons_of_mem _ hx)) (fun x => if x = m then f m + v p else f x) (some (.val (sD m)))
    refine ⟨c', ?_⟩
    rw [List.map_cons, forL_step, e_fstep, e_aN]
    show (match flK (b2_draws (E_draws (some (.val (bD b))) (some (.val t)) (some (.val (mD ks (iV v)))) (some (mO (b.gs.map Gd.nm) (iV f))) (some (.val (sD m))) (some (.val (sD p))) ab)) with
      | .ok .nx ρ1 => forL (aN 4) b2_draws (L.map sD) ρ1
      | .ok .ct ρ1 => forL (aN 4) b2_draws (L.map sD) ρ1
      | .ok .brk ρ1 => .ok .nx ρ1
      | .ok (.ret o) ρ1 => .ok (.ret o) ρ1
      | .exc x ρ1 => .exc x ρ1
      | .no => .no : Res Fl) = _
    unfold b2_draws
    rw [q]
    show forL (aN 4) (mAugI 3 (fun i j => i + j) (pVar 4) (p2 ixF (pVar 2) (pVar 5))) (L.map sD) (E_draws _ _ _ (some (mO (b.gs.map Gd.nm) (iV fun x => if x = m then f m + v p else f x))) _ _ _) = _
    have ih2 := ih
    unfold b2_draws at ih2
    rw [ih2]
    congr 5
    funext g
    by_cases e : g = m
    · subst e; simp [nd.1]
    · simp [e]
theorem draws_run (b : Bd) (h : BOk b) {t : D} {S : List (List Nat)} (ht : OpT t S) {ks : List (List Nat)} (nk : ks.Nodup) (hk : ∀ p ∈ ks, p ∈ nms b) (v : List Nat → Int) :
    F_draws [.val (bD b), .val t, .val (mD ks (iV v))] = some (mO (b.gs.map Gd.nm) (iV (drw b S ks v)), [none, none, none]) := by
  have G := gu b h
  have g2 := h.g2
  have td := sO_toD (b.gs.map Gd.nm)
  obtain ⟨c1, z⟩ := draws_zero b h t (mD ks (iV v))
  have hkl : ks.length ≤ 1000000 := by
    have := List.Nodup.length_le_of_subset nk (l₂ := nms b) hk
    have := (nm_len b h).2
    omega
  have ky := keysOf_mD (ρ := E_draws (some (.val (bD b))) (some (.val t)) (some (.val (mD ks (iV v)))) (some (mO (b.gs.map Gd.nm) (iV fun _ => 0))) c1) (i := 2) (ks := ks) (v := iV v) rfl (fun l hl => nms_ok h l (hk l hl)) hkl
  obtain ⟨⟨f, c, p, ab⟩, e, i⟩ := forL_ex (a := aN 5) (b := b3_draws) sD (fun s : (List Nat → Int) × Option O × Option O × Option O => E_draws (some (.val (bD b))) (some (.val t)) (some (.val (mD ks (iV v)))) (some (mO (b.gs.map Gd.nm) (iV s.1))) s.2.1 s.2.2.1 s.2.2.2) (fun xs s => ∃ done, done ++ xs = ks ∧ s.1 = drw b S done v) (xs := ks) (fun _ => 0, c1, none, none) ⟨[], rfl, rfl⟩ (by
    rintro p xs ⟨f, c, p0, ab0⟩ ⟨done, hd, rfl⟩
    have hp : p ∈ ks := by rw [← hd]; simp
    obtain ⟨ov, h16⟩ := ovr_ok h (hk p hp)
    have e1 := over_run b h ov h16
    have td2 := sO_toD (ovr b p)
    have q : q1_draws (E_draws (some (.val (bD b))) (some (.val t)) (some (.val (mD ks (iV v)))) (some (mO (b.gs.map Gd.nm) (iV (drw b S done v)))) c (some (.val (sD p))) (some (.val (.lst ((ovr b p).map sD))))) = .ok (.lst ((ovr b p).map fun m => O.val (.bl (decide (m ∈ S))))) (E_draws (some (.val (bD b))) (some (.val t)) (some (.val (mD ks (iV v)))) (some (mO (b.gs.map Gd.nm) (iV (drw b S done v)))) c (some (.val (sD p))) (some (.val (.lst ((ovr b p).map sD))))) := by
      refine comp_map sD _ (by simp) (by omega) (by decide) fun m hm => ?_
      have e := op_in ht m
      simp [e]
    have am := any_map (fun m => decide (m ∈ S)) (ovr b p)
    have fb : ((ovr b p).any fun m => decide (m ∈ S)) = !fedB (ovr b p) S := by unfold fedB; simp
    rw [fb] at am
    obtain ⟨c', ad⟩ := draws_add b h t ks v nk hp (some (.val (.lst ((ovr b p).map sD)))) (ovr b p) (over_nodup h ov) (over_in ov) (drw b S done v) c
    cases hf : fedB (ovr b p) S with
    | false =>
      rw [hf] at am
      refine ⟨(drw b S done v, c, some (.val (sD p)), some (.val (.lst ((ovr b p).map sD)))), ?_, done ++ [p], by simp [hd], ?_⟩
      · generalize ((ovr b p).map fun m => O.val (.bl (decide (m ∈ S)))) = RR at *
        simp [b3_draws, e1, td2, q, am]
      · funext g
        rw [drw_snoc, hf]; simp
    | true =>
      rw [hf] at am
      refine ⟨(fun g => drw b S done v g + if g ∈ ovr b p then v p else 0, c', some (.val (sD p)), some (.val (.lst ((ovr b p).map sD)))), ?_, done ++ [p], by simp [hd], ?_⟩
      · generalize ((ovr b p).map fun m => O.val (.bl (decide (m ∈ S)))) = RR at *
        simp [b3_draws, e1, td2, q, am, ad]
      · funext g
        rw [drw_snoc, hf]; simp)
  obtain ⟨done, hd, rfl⟩ := i
  rw [List.append_nil] at hd
  subst hd
  unfold F_draws
  rw [runF_eq]
  dsimp only at e
  generalize mO (b.gs.map Gd.nm) (iV (drw b S done v)) = R1 at *
  simp [-List.map_map, b_draws, mO_nil (iV fun _ => 0), G, td, z, ky, e]
  rfl

end Lw

namespace Lw
open PySem PySem.Spec L2 FB Wk
open PyProof.Rows hiding St
/-! [one[0] for one in board[0] + board[1]] -/
theorem nms_nd {b : Bd} (h : BOk b) : (nms b).Nodup := h.nd

end Lw

namespace Lw
open PySem PySem.Spec L2 FB Wk
open PyProof.Rows hiding St
/-! sums over lists -/
def S1 {α : Type} (xs : List α) (f : α → Int) : Int := (xs.map f).sum
theorem S1_cons {α : Type} (x : α) (xs : List α) (f : α → Int) : S1 (x :: xs) f = f x + S1 xs f := by unfold S1; simp
theorem S1_same {α : Type} {xs : List α} {f g : α → Int} (h : ∀ x ∈ xs, f x = g x) : S1 xs f = S1 xs g := by
  unfold S1; rw [List.map_congr_left h]
theorem S1_filter {α : Type} (c : α → Bool) (xs : List α) (f : α → Int) : ((xs.filter c).map f).sum = S1 xs fun x => if c x = true then f x else 0 := by
  induction xs with
  | nil => rfl
  | cons x xs ih =>
    rw [S1_cons, List.filter_cons, ← ih]
    cases h : c x <;> simp
theorem S1_map {α β : Type} (k : α → β) (xs : List α) (f : β → Int) : S1 (xs.map k) f = S1 xs fun x => f (k x) := by unfold S1; rw [List.map_map]; rfl
theorem drw_S1 (b : Bd) (S ks : List (List Nat)) (v : List Nat → Int) (g : List Nat) : drw b S ks v g = S1 ks fun p => if (fedB (ovr b p) S && decide (g ∈ ovr b p)) = true then v p else 0 := S1_filter _ _ _

end Lw

namespace Lw
open PySem PySem.Spec L2 FB Wk
open PyProof.Rows hiding St
end Lw

namespace Lw
open PySem PySem.Spec L2 FB Wk
open PyProof.Rows hiding St
/-! small curves -/
def top' (ls : List Int) : Int := ls.getLast?.getD 0
theorem top'_app (ls : List Int) (v : Int) : top' (ls ++ [v]) = v := by unfold top'; simp
/-- rising, from 1 on, by at most q -/
def Up (q : Int) (ls : List Int) : Prop := ls ≠ [] ∧ ls.Pairwise (· < ·) ∧ (∀ x ∈ ls, 1 ≤ x ∧ x ≤ top' ls) ∧ top' ls ≤ q * ls.length
theorem Up.one {q v : Int} (h : 1 ≤ v) (h2 : v ≤ q) : Up q [v] := by
  refine ⟨by simp, by simp, fun x hx => ?_, ?_⟩
  · simp at hx; subst hx; exact ⟨h, by simp [top']⟩
  · simp [top']; exact h2
theorem Up.app {q : Int} {ls : List Int} {v : Int} (h : Up q ls) (h1 : 1 ≤ v) (h2 : v ≤ q) : Up q (ls ++ [top' ls + v]) := by
  obtain ⟨a, b, c, d⟩ := h
  refine ⟨by simp, List.pairwise_append.mpr ⟨b, by simp, fun x hx y hy => ?_⟩, fun x hx => ?_, ?_⟩
  · simp at hy; subst hy
    have := (c x hx).2; omega
  · rw [top'_app]
    rcases List.mem_append.mp hx with hx | hx
    · have := c x hx; omega
    · simp at hx; subst hx
      obtain ⟨z, zs, rfl⟩ : ∃ z zs, ls = z :: zs := by cases ls with
        | nil => exact absurd rfl a
        | cons z zs => exact ⟨z, zs, rfl⟩
      have := c z (List.mem_cons_self ..); omega
  · rw [top'_app, List.length_append, List.length_singleton]
    push_cast
    rw [Int.mul_add]; omega
theorem Up.le {q : Int} {ls : List Int} (h : Up q ls) (h0 : 0 ≤ q) (h5 : ls.length ≤ 5) {k : Nat} (hk : k < ls.length) : 1 ≤ ls.getD k 0 ∧ ls.getD k 0 ≤ 5 * q := by
  rw [List.getD_eq_getElem?_getD, List.getElem?_eq_getElem hk]
  have h1 := h.2.2.1 _ (List.getElem_mem hk)
  have h2 : q * (ls.length : Int) ≤ q * 5 := Int.mul_le_mul_of_nonneg_left (by omega) h0
  have h3 := h.2.2.2
  refine ⟨h1.1, ?_⟩
  show ls[k] ≤ 5 * q
  omega
end Lw

namespace Lw
open PySem PySem.Spec L2 FB Wk
open PyProof.Rows hiding St
/-! rest -/
theorem lD_4 (x : Ld) : ixO (.val (lD x)) (.val (.int 4)) = some (.val (.bl x.on)) := rfl
/-- what a load draws at rest -/
def lav (x : Ld) : Int := if x.on = true then x.la else 0
noncomputable def rst (b : Bd) (g : List Nat) : Int := S1 b.ls fun x => if g ∈ ovr b x.nm then lav x else 0
theorem updN_self (v : List Nat → D) (n : List Nat) : updN v n (v n) = v := by
  funext m
  unfold updN
  by_cases h : m = n
  · subst h; simp
  · simp [h]

end Lw

namespace Lw
open PySem PySem.Spec L2 FB Wk
open PyProof.Rows hiding St
/-! _law_overs, _law_rest -/
def bQ (u v : Bool) (b : Bd) : D := .tup [qD u (b.gs.map gD), qD v (b.ls.map lD)]
theorem bQ_0 (u v : Bool) (b : Bd) : ixO (.val (bQ u v b)) (.val (.int 0)) = some (.val (qD u (b.gs.map gD))) := by unfold bQ; simp
theorem bQ_1 (u v : Bool) (b : Bd) : ixO (.val (bQ u v b)) (.val (.int 1)) = some (.val (qD v (b.ls.map lD))) := by unfold bQ; simp
@[simp] theorem qD_items (u : Bool) (ds : List D) : (qD u ds).items? = some ds := by cases u <;> rfl
noncomputable def ovV (b : Bd) : List Nat → D := fun n => .lst ((ovr b n).map sD)
theorem get_non (ks : List (List Nat)) (v : List Nat → D) (c : D) : getO (mO ks v) (.val .non) (.val c) = some (.val c) := rfl
theorem overs (u v : Bool) (b : Bd) (h : BOk b) : F__law_overs [.val (bQ u v b)] = some (mO (nms b) (ovV b), [none]) := by
  have b0 := bQ_0 u v b
  have b1 := bQ_1 u v b
  have nd := nms_nd h
  have nl := (nm_len b h).2
  have g2 := h.g2
  have l2 := h.l2
  obtain ⟨ds, hg⟩ := h.deep
  obtain ⟨⟨ks, c⟩, lp1, done, hd, hk⟩ := forL_ex (a := aN 2) (b := b1__law_overs) gD (fun s : List (List Nat) × Option O => E__law_overs (some (.val (bQ u v b))) (some (mO s.1 (ovV b))) s.2) (fun xs s => ∃ done, done ++ xs = b.gs ∧ s.1 = done.map Gd.nm) (xs := b.gs) ([], none) ⟨[], rfl, rfl⟩ (by
    rintro g xs ⟨ks, c⟩ ⟨done, hd, hk⟩
    dsimp only at hk
    subst hk
    have hgm : g ∈ b.gs := by rw [← hd]; simp
    have hn : g.nm ∉ done.map Gd.nm := fun z => by
      have := gsnd h
      rw [← hd, List.map_append, List.nodup_append] at this
      exact this.2.2 _ z g.nm (by simp) rfl
    have hl : (done.map Gd.nm).length < 1000000 := by
      have := congrArg List.length hd
      simp at this ⊢
      omega
    have e0 := gD_0 g
    have e1 := gD_1 g
    have hc := ovr_cons h hgm
    have key : ∃ L, getO (mO (done.map Gd.nm) (ovV b)) (.val (uD g.un)) (.val (.lst [])) = some (.val (.lst (L.map sD))) ∧ ovr b g.nm = g.nm :: L ∧ L.length ≤ 16 := by
      have h16 := (ovr_ok h (nms_gs hgm)).2
      cases hu : g.un with
      | none =>
        rw [hu] at hc
        exact ⟨[], get_non _ _ _, hc, by simp⟩
      | some w =>
        rw [hu] at hc
        have hc : ovr b g.nm = g.nm :: ovr b w := hc
        refine ⟨ovr b w, ?_, hc, by rw [hc] at h16; simp at h16; omega⟩
        have hw : w ∈ done.map Gd.nm := by
          have hi : b.gs[done.length]? = some g := by rw [← hd]; simp
          rcases hg.under done.length g hi with ⟨z, _⟩ | ⟨j, k, d, hj, hkk, hun, _⟩
          · rw [hu] at z; cases z
          · rw [hu] at hun
            cases hun
            rw [← hd, List.getElem?_append_left hj] at hkk
            exact List.mem_map.mpr ⟨k, List.mem_of_getElem? hkk, rfl⟩
        have nd2 : (done.map Gd.nm).Nodup := by
          have := gsnd h
          rw [← hd, List.map_append, List.nodup_append] at this
          exact this.1
        show getO _ (.val (sD w)) _ = _
        rw [get_mO nd2, if_pos hw]; rfl
    obtain ⟨L, k1, k2, k3⟩ := key
    have ad : addD (.lst [sD g.nm]) (.lst (L.map sD)) = some (ovV b g.nm) := by
      rw [addD_lst _ _ (by simp; omega)]
      unfold ovV
      rw [k2]; rfl
    have st := set_new (v := ovV b) hn hl (ovV b g.nm)
    rw [updN_self] at st
    refine ⟨(done.map Gd.nm ++ [g.nm], some (.val (gD g))), ?_, done ++ [g], by simp [hd], by simp⟩
    generalize mO (done.map Gd.nm) (ovV b) = M0 at *
    generalize ovV b g.nm = V0 at *
    generalize D.lst (L.map sD) = L0 at *
    simp [b1__law_overs, e0, e1, k1, ad, st])
  dsimp only at lp1 hk
  rw [List.append_nil] at hd
  subst hk
  rw [hd] at lp1
  obtain ⟨⟨ks, c2⟩, lp2, done2, hd2, hk2⟩ := forL_ex (a := aN 3) (b := b2__law_overs) lD (fun s : List (List Nat) × Option O => E__law_overs (some (.val (bQ u v b))) (some (mO s.1 (ovV b))) c s.2) (fun xs s => ∃ done, done ++ xs = b.ls ∧ s.1 = b.gs.map Gd.nm ++ done.map Ld.nm) (xs := b.ls) (b.gs.map Gd.nm, none) ⟨[], rfl, by simp⟩ (by
    rintro x xs ⟨ks, c3⟩ ⟨done, hd, hk⟩
    dsimp only at hk
    subst hk
    have hx : x ∈ b.ls := by rw [← hd]; simp
    have nd3 : (b.gs.map Gd.nm ++ done.map Ld.nm).Nodup := by
      refine List.Nodup.sublist ?_ nd
      unfold nms
      rw [← hd, List.map_append, ← List.append_assoc]
      exact List.sublist_append_left _ _
    have hn : x.nm ∉ b.gs.map Gd.nm ++ done.map Ld.nm := fun z => by
      have q := nd
      unfold nms at q
      rw [← hd, List.map_append, ← List.append_assoc, List.nodup_append] at q
      exact q.2.2 _ z x.nm (by simp) rfl
    have hl : (b.gs.map Gd.nm ++ done.map Ld.nm).length < 1000000 := by
      have := congrArg List.length hd
      simp at this ⊢
      omega
    have e0 := lD_0 x
    have e1 := lD_1 x
    have hp : x.pl ∈ b.gs.map Gd.nm ++ done.map Ld.nm := List.mem_append_left _ (h.ls.pl x hx)
    have ix := ix_mO (v := ovV b) nd3 hp
    have eo : ovV b x.pl = ovV b x.nm := by unfold ovV; rw [ovr_load h hx]
    rw [eo] at ix
    have st := set_new (v := ovV b) hn hl (ovV b x.nm)
    rw [updN_self] at st
    refine ⟨(b.gs.map Gd.nm ++ done.map Ld.nm ++ [x.nm], some (.val (lD x))), ?_, done ++ [x], by simp [hd], by simp⟩
    generalize mO (b.gs.map Gd.nm ++ done.map Ld.nm) (ovV b) = M0 at *
    generalize ovV b x.nm = V0 at *
    simp [b2__law_overs, e0, e1, ix, st])
  dsimp only at lp2 hk2
  rw [List.append_nil] at hd2
  subst hk2
  rw [hd2] at lp2
  have lp2 : forL (aN 3) b2__law_overs (b.ls.map lD) (E__law_overs (some (.val (bQ u v b))) (some (mO (b.gs.map Gd.nm) (ovV b))) c) = .ok .nx (E__law_overs (some (.val (bQ u v b))) (some (mO (nms b) (ovV b))) c c2) := lp2
  unfold F__law_overs
  rw [runF_eq]
  generalize mO (nms b) (ovV b) = M1 at *
  simp [b__law_overs, b0, b1, mO_nil (ovV b), lp1, lp2]
  rfl
/-! lifted -/
theorem addD_tup (xs ys : List D) (h : xs.length + ys.length ≤ 1000000) : addD (.tup xs) (.tup ys) = some (.tup (xs ++ ys)) := if_pos h
def liftG (g : Gd) (m : Int) : Gd := { g with C := g.C.map fun p => (p.1 + m, p.2) }
theorem lifted (g : Gd) (m : Int) (hC : g.C.length ≤ 5) : F__law_lifted [.val (gD g), .val (.int m)] = some (.val (gD (liftG g m)), [none, none]) := by
  have g2 : ixO (.val (gD g)) (.val (.int 2)) = some (.val (cv g.C)) := by unfold gD; simp
  have q : q1__law_lifted (E__law_lifted (some (.val (gD g))) (some (.val (.int m)))) = .ok (vO ((liftG g m).C.map pD)) (E__law_lifted (some (.val (gD g))) (some (.val (.int m)))) := by
    rw [show vO ((liftG g m).C.map pD) = .lst (g.C.map fun p => O.val (pD (p.1 + m, p.2))) from by
      unfold vO liftG; rw [List.map_map, List.map_map]; rfl]
    refine comp_map pD _ (by simp [g2]; rfl) (by omega) (by decide) fun p hp => ?_
    simp [pD]
  have s1 : slO (.val (gD g)) none (some 2) = some (.val (.tup [sD g.nm, uD g.un])) := rfl
  have s2 : slO (.val (gD g)) (some 3) none = some (.val (.tup [.int g.dl, .int g.wt])) := rfl
  have a1 : ∀ x : D, addD (.tup [sD g.nm, uD g.un]) (.tup [x]) = some (.tup [sD g.nm, uD g.un, x]) := fun x => addD_tup _ _ (by simp)
  have a2 : ∀ x : D, addD (.tup [sD g.nm, uD g.un, x]) (.tup [.int g.dl, .int g.wt]) = some (.tup [sD g.nm, uD g.un, x, .int g.dl, .int g.wt]) := fun x => addD_tup _ _ (by simp)
  have cvl : cv (liftG g m).C = .tup ((liftG g m).C.map pD) := rfl
  unfold F__law_lifted
  rw [runF_eq]
  generalize hX : gD (liftG g m) = X
  have hX : X = .tup [sD g.nm, uD g.un, .tup ((liftG g m).C.map pD), .int g.dl, .int g.wt] := hX.symm
  subst hX
  generalize (liftG g m).C.map pD = CC at *
  generalize gD g = GG at *
  simp [b__law_lifted, s1, q, a1, s2, a2]
  rfl

end Lw

namespace Lw
open PySem PySem.Spec L2 FB Wk
open PyProof.Rows hiding St
/-! small boards -/
/-- what the small board's guards are bound by -/
def SG (unit time : Int) (g : Gd) : Prop := Cok g.C ∧ (∀ p ∈ g.C, p.1 ≤ 50 * unit ∧ p.2 ≤ 15 * time) ∧ 0 ≤ g.dl ∧ g.dl ≤ 3 * time ∧ 0 ≤ g.wt ∧ g.wt ≤ 2 * time
structure SGs (unit time : Int) (ns : List (List Nat)) (gs : List Gd) : Prop where
  nm : gs.map Gd.nm = ns.take gs.length
  sg : ∀ g ∈ gs, SG unit time g
  un : ∀ (i : Nat) (g : Gd), gs[i]? = some g → g.un = none ∨ ∃ (j : Nat) (k : Gd), j < i ∧ gs[j]? = some k ∧ g.un = some k.nm
/-! loads -/
def SL1 (unit time : Int) (l : Ld) : Prop := csOk l.cs ∧ (∀ p ∈ l.cs, p.1 ≤ 3 * time ∧ p.2 ≤ 11 * unit) ∧ 0 ≤ l.la ∧ l.la ≤ 3 * unit
structure SLs (unit time : Int) (ns : List (List Nat)) (gs : List Gd) (ls : List Ld) : Prop where
  nm : ls.map Ld.nm = ns.take ls.length
  sl : ∀ l ∈ ls, SL1 unit time l
  pl : ∀ l ∈ ls, l.pl ∈ gs.map Gd.nm
end Lw

namespace Lw
open PySem PySem.Spec L2 FB Wk
open PyProof.Rows hiding St
theorem GsOk.map {gs : List Gd} {ds : List Nat} (h : GsOk gs ds) (f : Gd → Gd) (h1 : ∀ g, (f g).nm = g.nm) (h2 : ∀ g, (f g).un = g.un) (h3 : ∀ g ∈ gs, Cok (f g).C ∧ numOk (f g).dl ∧ numOk (f g).wt) : GsOk (gs.map f) ds := by
  have e : (gs.map f).map Gd.nm = gs.map Gd.nm := by rw [List.map_map]; exact List.map_congr_left fun g _ => h1 g
  refine ⟨by rw [List.length_map]; exact h.len, by rw [e]; exact h.nd, fun g hg => ?_, fun g hg => ?_, fun i g hg => ?_⟩
  · obtain ⟨k, hk, rfl⟩ := List.mem_map.mp hg
    rw [h1]; exact h.names k hk
  · obtain ⟨k, hk, rfl⟩ := List.mem_map.mp hg
    exact h3 k hk
  · rw [List.getElem?_map] at hg
    cases hk : gs[i]? with
    | none => rw [hk] at hg; cases hg
    | some k =>
      rw [hk] at hg
      cases hg
      rcases h.under i k hk with ⟨q1, q2⟩ | ⟨j, u, d, q1, q2, q3, q4, q5, q6⟩
      · exact .inl ⟨by rw [h2]; exact q1, q2⟩
      · refine .inr ⟨j, f u, d, q1, by rw [List.getElem?_map, q2]; rfl, by rw [h2, h1]; exact q3, q4, q5, q6⟩
/-- the bounds of a small board -/
structure Sml (unit time : Int) (b : Bd) : Prop where
  g8 : b.gs.length ≤ 8
  l8 : b.ls.length ≤ 8
  c : ∀ g ∈ b.gs, ∀ p ∈ g.C, p.1 ≤ 80 * unit ∧ p.2 ≤ 15 * time
  d : ∀ g ∈ b.gs, g.dl ≤ 3 * time ∧ g.wt ≤ 2 * time
  l : ∀ x ∈ b.ls, 0 ≤ x.la ∧ x.la ≤ 3 * unit ∧ ∀ p ∈ x.cs, p.1 ≤ 3 * time ∧ p.2 ≤ 11 * unit
end Lw

namespace Lw
open PySem PySem.Spec L2 FB Wk
open PyProof.Rows hiding St
/-! rest, awake, loud -/
theorem gD_2 (g : Gd) : ixO (.val (gD g)) (.val (.int 2)) = some (.val (cv g.C)) := rfl
theorem gD_3 (g : Gd) : ixO (.val (gD g)) (.val (.int 3)) = some (.val (.int g.dl)) := rfl
theorem gD_4 (g : Gd) : ixO (.val (gD g)) (.val (.int 4)) = some (.val (.int g.wt)) := rfl
theorem pD_0 (p : Int × Int) : ixO (.val (pD p)) (.val (.int 0)) = some (.val (.int p.1)) := rfl
theorem pD_1 (p : Int × Int) : ixO (.val (pD p)) (.val (.int 1)) = some (.val (.int p.2)) := rfl
def hd0 : List (Int × Int) → Int × Int
  | [] => (0, 0)
  | p :: _ => p
def lstC (C : List (Int × Int)) : Int := (hd0 C).1
theorem cv_0 {C : List (Int × Int)} (h : C ≠ []) : ixO (.val (cv C)) (.val (.int 0)) = some (.val (pD (hd0 C))) := by
  cases C with
  | nil => exact absurd rfl h
  | cons p C =>
    show (atI ((p :: C).map pD) ((0 : Nat) : Int)).map O.val = _
    rw [atN]; rfl
theorem least {C : List (Int × Int)} (h : C ≠ []) : F_least_of [.val (cv C)] = some (.val (.int (lstC C)), [none]) := by
  have c0 := cv_0 h
  have p0 := pD_0 (hd0 C)
  unfold F_least_of
  rw [runF_eq]
  simp [b_least_of, c0, p0, lstC]
  rfl
/-- what the load of a name is -/
def laf (b : Bd) (n : List Nat) : Int := ((b.ls.find? fun x => decide (x.nm = n)).map Ld.la).getD 0
theorem laf_at {b : Bd} (h : BOk b) {x : Ld} (hx : x ∈ b.ls) : laf b x.nm = x.la := by
  unfold laf
  cases hf : b.ls.find? fun y => decide (y.nm = x.nm) with
  | none =>
    rw [List.find?_eq_none] at hf
    exact absurd (by simp) (hf x hx)
  | some y =>
    have h1 := List.mem_of_find?_eq_some hf
    have h2 := List.find?_some hf
    have := ld_eq h h1 hx (by simpa using h2)
    subst this; rfl
def ons (b : Bd) : List (List Nat) := (b.ls.filter fun x => x.on).map Ld.nm
theorem ons_in {b : Bd} : ∀ p ∈ ons b, p ∈ nms b := fun p hp => by
  obtain ⟨x, hx, rfl⟩ := List.mem_map.mp hp
  exact nms_ls (List.mem_filter.mp hx).1
theorem ons_nd {b : Bd} (h : BOk b) : (ons b).Nodup := (lsnd h).sublist ((List.filter_sublist (l := b.ls)).map Ld.nm)
theorem rst_drw {b : Bd} (h : BOk b) (g : List Nat) : drw b [] (ons b) (laf b) g = rst b g := by
  rw [drw_S1]
  unfold ons rst
  rw [S1_map]
  unfold S1
  rw [S1_filter]
  refine S1_same fun x hx => ?_
  rw [laf_at h hx]
  have : fedB (ovr b x.nm) [] = true := by unfold fedB; simp
  rw [this]
  unfold lav
  by_cases a : x.on = true <;> by_cases c : g ∈ ovr b x.nm <;> simp [a, c]
theorem rest (b : Bd) (h : BOk b) : F_rest [.val (bD b)] = some (mO (b.gs.map Gd.nm) (iV (rst b)), [none]) := by
  have b1 := bD_1 b
  have nd := lsnd h
  have l2 := h.l2
  obtain ⟨⟨ks, x2, x3, x4, x5, x6⟩, lp, done, hd, hk⟩ := forL_ex (a := aTup (aCons (aN 2) (aCons (aN 3) (aCons (aN 4) (aCons (aN 5) (aCons (aN 6) (aNil))))))) (b := b1_rest) lD (fun s : List (List Nat) × Option O × Option O × Option O × Option O × Option O => E_rest (some (.val (bD b))) (some (mO s.1 (iV (laf b)))) s.2.1 s.2.2.1 s.2.2.2.1 s.2.2.2.2.1 s.2.2.2.2.2) (fun xs s => ∃ done, done ++ xs = b.ls ∧ s.1 = (done.filter fun x => x.on).map Ld.nm) (xs := b.ls) ([], none, none, none, none, none) ⟨[], rfl, rfl⟩ (by
    rintro x xs ⟨ks, x2, x3, x4, x5, x6⟩ ⟨done, hd, hk⟩
    dsimp only at hk
    subst hk
    have hx : x ∈ b.ls := by rw [← hd]; simp
    have hn : x.nm ∉ (done.filter fun x => x.on).map Ld.nm := fun z => by
      rw [← hd, List.map_append, List.nodup_append] at nd
      obtain ⟨y, hy, e⟩ := List.mem_map.mp z
      exact nd.2.2 _ (List.mem_map.mpr ⟨y, (List.mem_filter.mp hy).1, e⟩) x.nm (by simp) rfl
    have hl : ((done.filter fun x => x.on).map Ld.nm).length < 1000000 := by
      have a1 := congrArg List.length hd
      have a2 := List.length_filter_le (fun x : Ld => x.on) done
      simp at a1 ⊢
      omega
    have st := set_new (v := iV (laf b)) hn hl (iV (laf b) x.nm)
    rw [updN_self] at st
    have ev : iV (laf b) x.nm = .int x.la := by show D.int (laf b x.nm) = _; rw [laf_at h hx]
    rw [ev] at st
    cases ho : x.on with
    | true =>
      refine ⟨((done.filter fun x => x.on).map Ld.nm ++ [x.nm], some (.val (sD x.nm)), some (.val (sD x.pl)), some (.val (cv x.cs)), some (.val (.int x.la)), some (.val (.bl x.on))), ?_, done ++ [x], by simp [hd], by simp [ho]⟩
      simp [-List.map_map, b1_rest, lD, ho, st]
    | false =>
      refine ⟨((done.filter fun x => x.on).map Ld.nm, some (.val (sD x.nm)), some (.val (sD x.pl)), some (.val (cv x.cs)), some (.val (.int x.la)), some (.val (.bl x.on))), ?_, done ++ [x], by simp [hd], by simp [ho]⟩
      simp [-List.map_map, b1_rest, lD, ho])
  dsimp only at lp hk
  rw [List.append_nil] at hd
  subst hk
  rw [hd] at lp
  have lp : forL (aTup (aCons (aN 2) (aCons (aN 3) (aCons (aN 4) (aCons (aN 5) (aCons (aN 6) (aNil))))))) b1_rest (b.ls.map lD) (E_rest (some (.val (bD b))) (some (mO [] (iV (laf b))))) = .ok .nx (E_rest (some (.val (bD b))) (some (mO (ons b) (iV (laf b)))) x2 x3 x4 x5 x6) := lp
  have dr := draws_run b h (t := .lst []) (S := []) (.inl rfl) (ons_nd h) ons_in (laf b)
  rw [show drw b [] (ons b) (laf b) = rst b from funext fun g => rst_drw h g] at dr
  have td := mO_toD (ons b) (iV (laf b))
  unfold F_rest
  rw [runF_eq]
  generalize mO (ons b) (iV (laf b)) = M1 at *
  generalize mD (ons b) (iV (laf b)) = M2 at *
  simp [b_rest, mO_nil (iV (laf b)), b1, lp, td, dr]
  rfl
/-- whether a guard is awake -/
def awB (f : List Nat → Int) (g : Gd) : Bool := decide (lstC g.C ≤ f g.nm)
theorem gC_ne {b : Bd} (h : BOk b) {g : Gd} (hg : g ∈ b.gs) : g.C ≠ [] := by
  obtain ⟨ds, hd⟩ := h.deep
  exact (hd.rest g hg).1.1
theorem awake (b : Bd) (h : BOk b) (f : List Nat → Int) : F_awake [.val (bD b), .val (mD (b.gs.map Gd.nm) (iV f))] = some (sO ((b.gs.filter (awB f)).map Gd.nm), [none, none]) := by
  have b0 := bD_0 b
  have g2 := h.g2
  have q : q1_awake (E_awake (some (.val (bD b))) (some (.val (mD (b.gs.map Gd.nm) (iV f))))) = .ok (sO ((b.gs.filter (awB f)).map Gd.nm)) (E_awake (some (.val (bD b))) (some (.val (mD (b.gs.map Gd.nm) (iV f))))) := by
    rw [show sO ((b.gs.filter (awB f)).map Gd.nm) = .lst ((b.gs.filter (awB f)).map fun g => O.val (sD g.nm)) from by unfold sO vO; rw [List.map_map, List.map_map]; rfl]
    refine comp_run gD (awB f) _ (by simp [b0]) (by omega) (by decide) fun g hg => ?_
    have ix := ix_mD (v := iV f) (gsnd h) (List.mem_map.mpr ⟨g, hg, rfl⟩)
    have le := least (gC_ne h hg)
    simp [gD, ix, le, awB]
  unfold F_awake
  rw [runF_eq]
  generalize sO ((b.gs.filter (awB f)).map Gd.nm) = S1 at *
  simp [b_awake, q]
  rfl
/-- the first guard that is awake at rest -/
noncomputable def loudO (b : Bd) : Option (List Nat) := ((b.gs.filter (awB (rst b))).map Gd.nm).head?
theorem loud (b : Bd) (h : BOk b) : F_loud [.val (bD b)] = some (.val (uD (loudO b)), [none]) := by
  have re := rest b h
  have td := mO_toD (b.gs.map Gd.nm) (iV (rst b))
  have aw := awake b h (rst b)
  have t2 := sO_toD ((b.gs.filter (awB (rst b))).map Gd.nm)
  unfold loudO
  generalize (b.gs.filter (awB (rst b))).map Gd.nm = L at *
  unfold F_loud
  rw [runF_eq]
  cases L with
  | nil =>
    simp [b_loud, re, td, aw, t2, forL]
    exact ⟨rfl, rfl⟩
  | cons l L =>
    simp [b_loud, re, td, aw, t2, forL_step, b1_loud]
    exact ⟨rfl, rfl⟩

end Lw

namespace Lw
open PySem PySem.Spec L2 FB Wk
open PyProof.Rows hiding St
theorem ask_quiet (b : Bd) (h : BOk b) (hq : loudO b = none) : F_ask_quiet [.val (bD b)] = some (.val .non, [none]) := by
  have lo := loud b h
  rw [hq] at lo
  have e : notNO (.val .non) (.val .non) = some (.val (.bl false)) := rfl
  have u0 : uD none = .non := rfl
  rw [u0] at lo
  unfold F_ask_quiet
  rw [runF_eq]
  simp [b_ask_quiet, lo, e]
  rfl
/-- whether a place is a load that is off -/
def offB (b : Bd) (p : List Nat) : Bool := b.ls.any fun x => decide (x.nm = p) && !x.on
theorem is_off (b : Bd) (h : BOk b) (p : List Nat) : F_is_off [.val (bD b), .val (sD p)] = some (.val (.bl (offB b p)), [none, none]) := by
  have b1 := bD_1 b
  have l2 := h.l2
  have q : q1_is_off (E_is_off (some (.val (bD b))) (some (.val (sD p)))) = .ok (.lst (b.ls.map fun x => O.val (.bl (decide (x.nm = p) && !x.on)))) (E_is_off (some (.val (bD b))) (some (.val (sD p)))) := by
    refine comp_map lD _ (by simp [b1]) (by omega) (by decide) fun x hx => ?_
    have e0 := lD_0 x
    have e4 := lD_4 x
    have eq := eq_name0 x.nm p
    by_cases a : x.nm = p
    · rw [decide_eq_true a] at eq ⊢
      simp [e0, e4, eq]
    · rw [decide_eq_false a] at eq ⊢
      simp [e0, e4, eq]
  have am := any_map (fun x : Ld => decide (x.nm = p) && !x.on) b.ls
  unfold F_is_off
  rw [runF_eq]
  generalize (b.ls.map fun x => O.val (.bl (decide (x.nm = p) && !x.on))) = L at *
  simp [b_is_off, q, am]
  exact ⟨rfl, rfl⟩

end Lw

namespace Lw
open PySem PySem.Spec L2 FB Wk
open PyProof.Rows hiding St
/-! turns at a draw -/
def metL (C : List (Int × Int)) (d : Int) : List (Int × Int) := C.filter fun p => decide (p.1 ≤ d)
def tna (C : List (Int × Int)) (d : Int) : Option Int := (metL C d).getLast?.map (·.2)
theorem metL_pre {C : List (Int × Int)} (h : C.Pairwise (fun p q => p.1 < q.1 ∧ q.2 < p.2)) (d : Int) : metL C d = C.take (metL C d).length := by
  induction C with
  | nil => rfl
  | cons p C ih =>
    rw [List.pairwise_cons] at h
    unfold metL at ih ⊢
    rw [List.filter_cons]
    by_cases hp : p.1 ≤ d
    · simp only [hp, decide_true, if_true, List.length_cons, List.take_succ_cons]
      congr 1
      exact ih h.2
    · simp only [hp, decide_false]
      have : C.filter (fun q => decide (q.1 ≤ d)) = [] := by
        rw [List.filter_eq_nil_iff]
        intro q hq
        have := (h.1 q hq).1
        simp; omega
      rw [this]; rfl
theorem metL_le (C : List (Int × Int)) (d : Int) : (metL C d).length ≤ C.length := List.length_filter_le _ _
theorem cv_at (C : List (Int × Int)) (k : Nat) (hk : k < C.length) : ixO (.val (cv C)) (.val (.int (k : Int))) = some (.val (pD C[k])) := by
  show (atI (C.map pD) (k : Int)).map O.val = _
  rw [atN, List.getElem?_map, List.getElem?_eq_getElem hk]; rfl
theorem lenO_ps (xs : List (Int × Int)) : lenO (.lst (xs.map fun p => O.val (pD p))) = some (.val (.int xs.length)) := by simp
theorem met_run {C : List (Int × Int)} (h : C.length ≤ 5) (d : Int) : F_met [.val (cv C), .val (.int d)] = some (.val (.int (metL C d).length), [none, none]) := by
  have q : q1_met (E_met (some (.val (cv C))) (some (.val (.int d)))) = .ok (.lst ((metL C d).map fun p => O.val (pD p))) (E_met (some (.val (cv C))) (some (.val (.int d)))) := by
    refine comp_run pD _ _ (by simp; rfl) (by omega) (by decide) fun p hp => ?_
    have e := pD_0 p
    simp [e]
  have ln := lenO_ps (metL C d)
  unfold F_met
  rw [runF_eq]
  generalize ((metL C d).map fun p => O.val (pD p)) = L at *
  simp [b_met, q, ln]
  rfl
theorem turns_at {C : List (Int × Int)} (h : Cok C) (d : Int) : F_turns_at [.val (cv C), .val (.int d)] = some (.val (oI (tna C d)), [none, none]) := by
  have m := met_run h.2.1 d
  have hp := metL_pre h.2.2.1 d
  have hl := metL_le C d
  unfold F_turns_at
  rw [runF_eq]
  cases hm : (metL C d).length with
  | zero =>
    have : metL C d = [] := List.length_eq_zero_iff.mp hm
    have t : tna C d = none := by unfold tna; rw [this]; rfl
    rw [hm] at m
    rw [t]
    have m : F_met [.val (cv C), .val (.int d)] = some (.val (.int 0), [none, none]) := m
    simp [b_turns_at, m]
    rfl
  | succ n =>
    rw [hm] at m hp
    have hn : n < C.length := by omega
    have e1 := cv_at C n hn
    have e2 := pD_1 C[n]
    have t : tna C d = some C[n].2 := by
      unfold tna
      rw [hp, List.getLast?_take]
      simp [List.getElem?_eq_getElem hn]
    rw [t]
    have m : F_met [.val (cv C), .val (.int d)] = some (.val (.int ((n : Int) + 1)), [none, none]) := by rw [m]; simp
    have c : (n : Int) + 1 ≠ 0 := by omega
    have c2 : (n : Int) + 1 - 1 = (n : Int) := by omega
    simp [b_turns_at, m, c, c2, e1, e2]
    rfl

end Lw

namespace Lw
open PySem PySem.Spec L2 FB Wk
open PyProof.Rows hiding St
/-! a way -/
def gOf (b : Bd) (n : List Nat) : Gd := (b.gs.find? fun g => decide (g.nm = n)).getD ⟨[], none, [], 0, 0⟩
theorem gOf_eq {b : Bd} (h : BOk b) {g : Gd} (hg : g ∈ b.gs) : gOf b g.nm = g := by
  unfold gOf
  cases hf : b.gs.find? fun k => decide (k.nm = g.nm) with
  | none =>
    rw [List.find?_eq_none] at hf
    exact absurd (by simp) (hf g hg)
  | some k =>
    exact gd_eq (gsnd h) (List.mem_of_find?_eq_some hf) hg (by simpa using List.find?_some hf)
theorem gOf_in {b : Bd} (h : BOk b) {n : List Nat} (hn : n ∈ b.gs.map Gd.nm) : gOf b n ∈ b.gs ∧ (gOf b n).nm = n := by
  obtain ⟨g, hg, rfl⟩ := List.mem_map.mp hn
  rw [gOf_eq h hg]
  exact ⟨hg, rfl⟩
noncomputable def wayL (b : Bd) (p : List Nat) : List (Gd × Int) := (ovr b p).map fun n => (gOf b n, rst b n)
def wfs : List Str := ["idle", "guards", "found"]
theorem wf0 : fidx wfs "idle" = some 0 := by decide +kernel
theorem wf1 : fidx wfs "guards" = some 1 := by decide +kernel
theorem wf2 : fidx wfs "found" = some 2 := by decide +kernel
def wG (W : List (Gd × Int)) : O := vO (W.map fun q => gD q.1)
def wF (W : List (Gd × Int)) : O := vO (W.map fun q => D.int q.2)
def wO (idle : Bool) (W : List (Gd × Int)) : O := .ins "Way" wfs [.val (.bl idle), wG W, wF W]
/-- right curves on the way -/
def WOk (W : List (Gd × Int)) : Prop := ∀ q ∈ W, Cok q.1.C
theorem wayL_ok {b : Bd} (h : BOk b) {p : List Nat} (hp : p ∈ nms b) : WOk (wayL b p) := fun q hq => by
  obtain ⟨n, hn, rfl⟩ := List.mem_map.mp hq
  obtain ⟨ds, hd⟩ := h.deep
  exact (hd.rest _ (gOf_in h (over_in (ovr_ok h hp).1 n hn)).1).1
/-- the turns of a guard on the way -/
def wT (W : List (Gd × Int)) (k : Nat) (w : Int) : Option Int := (W[k]?).bind fun q => tna q.1.C (q.2 + w)
/-- whether a guard is held on the way -/
def wH (W : List (Gd × Int)) (k : Nat) (w : Int) : Bool := decide (0 < k) && (wT W (k - 1) w).isSome
theorem notN_oI (a : Option Int) : notNO (.val (oI a)) (.val .non) = some (.val (.bl a.isSome)) := by cases a <;> rfl
theorem way_q1 (b : Bd) (h : BOk b) (x0 x2 x3 : Option O) : q1_Way___init__ (E_Way___init__ x0 (some (.val (bD b))) x2 x3) = .ok (.lst (b.gs.map fun g => O.val (.tup [sD g.nm, gD g]))) (E_Way___init__ x0 (some (.val (bD b))) x2 x3) := by
  have b0 := bD_0 b
  have g2 := h.g2
  refine comp_map gD _ (by simp [b0]) (by omega) (by decide) fun g hg => ?_
  have e := gD_0 g
  simp [e]
noncomputable def knD (b : Bd) : D := mD (b.gs.map Gd.nm) (fun n => gD (gOf b n))
theorem known {b : Bd} (h : BOk b) : dctOf (b.gs.map fun g => ((.inr (SL g.nm) : Key), gD g)) = knD b := by
  unfold knD
  rw [← dct_mD Gd.nm (fun n => gD (gOf b n)) (gsnd h)]
  congr 1
  exact List.map_congr_left fun g hg => by rw [gOf_eq h hg]
theorem toD_pairs (gs : List Gd) : (O.lst (gs.map fun g => O.val (.tup [sD g.nm, gD g]))).toD = .lst (gs.map fun x => D.tup [sD x.nm, gD x]) := by
  rw [e_toD_lst, show (gs.map fun g => O.val (.tup [sD g.nm, gD g])) = (gs.map fun x => D.tup [sD x.nm, gD x]).map O.val by rw [List.map_map]; rfl, toDs_vals]
theorem way_init (b : Bd) (h : BOk b) (hq : loudO b = none) {p : List Nat} (hp : p ∈ nms b) : F_Way___init__ [.ins "Way" [] [], .val (bD b), .val (sD p)] = some (.val .non, [some (wO (offB b p) (wayL b p)), none, none]) := by
  obtain ⟨o, h16⟩ := ovr_ok h hp
  have ov := over_run b h o h16
  have oin := over_in o
  have td := sO_toD (ovr b p)
  have aq := ask_quiet b h hq
  have q1 := way_q1 b h (some (.ins "Way" [] [])) (some (.val (sD p))) (some (.val (.lst ((ovr b p).map sD))))
  have t1 := toD_pairs b.gs
  have pr := prs_gen Gd.nm gD b.gs
  have kn := known h
  have re := rest b h
  have t2 := mO_toD (b.gs.map Gd.nm) (iV (rst b))
  have io := is_off b h p
  have f1 : fidx [] "idle" = none := rfl
  have f2 : fidx ["idle"] "guards" = none := by decide +kernel
  have f3 : fidx ["idle", "guards"] "found" = none := by decide +kernel
  have g1 := fun (ρ : FB.Env) u => e_sfN (ρ := ρ) 0 "Way" "idle" u [] [] (by decide) f1
  have g2 := fun (ρ : FB.Env) u os => e_sfN (ρ := ρ) 0 "Way" "guards" u ["idle"] os (by decide) f2
  have g3 := fun (ρ : FB.Env) u os => e_sfN (ρ := ρ) 0 "Way" "found" u ["idle", "guards"] os (by decide) f3
  simp only [List.nil_append] at g1
  have q2 : q2_Way___init__ (E_Way___init__ (some (.ins "Way" ["idle"] [.val (.bl (offB b p))])) (some (.val (bD b))) (some (.val (sD p))) (some (.val (.lst ((ovr b p).map sD)))) (some (.val (knD b))) (some (.val (mD (b.gs.map Gd.nm) (iV (rst b)))))) = .ok (wG (wayL b p)) (E_Way___init__ (some (.ins "Way" ["idle"] [.val (.bl (offB b p))])) (some (.val (bD b))) (some (.val (sD p))) (some (.val (.lst ((ovr b p).map sD)))) (some (.val (knD b))) (some (.val (mD (b.gs.map Gd.nm) (iV (rst b)))))) := by
    rw [show wG (wayL b p) = .lst ((ovr b p).map fun n => O.val (gD (gOf b n))) from by unfold wG wayL vO; rw [List.map_map, List.map_map]; rfl]
    refine comp_map sD _ (by simp) (by omega) (by decide) fun n hn => ?_
    have ix := ix_mD (v := fun n => gD (gOf b n)) (gsnd h) (oin n hn)
    simp [knD, ix]
  have q3 : q3_Way___init__ (E_Way___init__ (some (.ins "Way" ["idle", "guards"] [.val (.bl (offB b p)), wG (wayL b p)])) (some (.val (bD b))) (some (.val (sD p))) (some (.val (.lst ((ovr b p).map sD)))) (some (.val (knD b))) (some (.val (mD (b.gs.map Gd.nm) (iV (rst b)))))) = .ok (wF (wayL b p)) (E_Way___init__ (some (.ins "Way" ["idle", "guards"] [.val (.bl (offB b p)), wG (wayL b p)])) (some (.val (bD b))) (some (.val (sD p))) (some (.val (.lst ((ovr b p).map sD)))) (some (.val (knD b))) (some (.val (mD (b.gs.map Gd.nm) (iV (rst b)))))) := by
    rw [show wF (wayL b p) = .lst ((ovr b p).map fun n => O.val (.int (rst b n))) from by unfold wF wayL vO; rw [List.map_map, List.map_map]; rfl]
    refine comp_map sD _ (by simp) (by omega) (by decide) fun n hn => ?_
    have ix := ix_mD (v := iV (rst b)) (gsnd h) (oin n hn)
    simp [ix]
  unfold F_Way___init__
  rw [runF_eq]
  unfold wO
  generalize wG (wayL b p) = GG at *
  generalize wF (wayL b p) = FF at *
  generalize knD b = KN at *
  generalize mD (b.gs.map Gd.nm) (iV (rst b)) = M2 at *
  generalize mO (b.gs.map Gd.nm) (iV (rst b)) = M1 at *
  generalize (O.lst (b.gs.map fun g => O.val (.tup [sD g.nm, gD g]))) = PP at *
  generalize D.lst ((ovr b p).map sD) = OV at *
  simp [b_Way___init__, ov, td, aq, q1, t1, pr, kn, re, t2, io, g1, q2, g2, q3, g3]
  rfl

end Lw

namespace Lw
open PySem PySem.Spec L2 FB Wk
open PyProof.Rows hiding St
/-! a way that is shared -/
def gWD (W : List (Gd × Int)) : D := .lst (W.map fun q => gD q.1)
def fWD (W : List (Gd × Int)) : D := .lst (W.map fun q => D.int q.2)
def wD (i : Bool) (W : List (Gd × Int)) : D := .ins "Way" wfs [.bl i, gWD W, fWD W]
theorem wO_toD (i : Bool) (W : List (Gd × Int)) : (wO i W).toD = wD i W := by
  have e1 : (wG W).toD = gWD W := vO_toD _
  have e2 : (wF W).toD = fWD W := vO_toD _
  unfold wO wD
  show D.ins "Way" wfs [D.bl i, (wG W).toD, (wF W).toD] = _
  rw [e1, e2]
theorem wD_i (i : Bool) (W : List (Gd × Int)) : fldV "Way" "idle" (.val (wD i W)) = some (.val (.bl i)) := (e_fldV _ _ _ _ 0 wf0).trans rfl
theorem wD_g (i : Bool) (W : List (Gd × Int)) : fldV "Way" "guards" (.val (wD i W)) = some (.val (gWD W)) := (e_fldV _ _ _ _ 1 wf1).trans rfl
theorem wD_f (i : Bool) (W : List (Gd × Int)) : fldV "Way" "found" (.val (wD i W)) = some (.val (fWD W)) := (e_fldV _ _ _ _ 2 wf2).trans rfl
theorem gWD_at (W : List (Gd × Int)) (k : Nat) (hk : k < W.length) : ixO (.val (gWD W)) (.val (.int (k : Int))) = some (.val (gD W[k].1)) := by
  show (atI (W.map fun q => gD q.1) (k : Int)).map O.val = _
  rw [atN, List.getElem?_map, List.getElem?_eq_getElem hk]; rfl
theorem fWD_at (W : List (Gd × Int)) (k : Nat) (hk : k < W.length) : ixO (.val (fWD W)) (.val (.int (k : Int))) = some (.val (.int W[k].2)) := by
  show (atI (W.map fun q => D.int q.2) (k : Int)).map O.val = _
  rw [atN, List.getElem?_map, List.getElem?_eq_getElem hk]; rfl
theorem wD_m {ρ : FB.Env} (i : Bool) (W : List (Gd × Int)) (m : Str) (F : FSem) (as : List FB.Arg) (h : fidx wfs m = none) : mvB "Way" m F as ρ (wD i W) = mvC F (wD i W) as (evA as ρ) := e_mvB _ _ _ _ _ _ h
theorem fmT : fidx wfs "turns" = none := by decide +kernel
theorem fmH : fidx wfs "is_held" = none := by decide +kernel
theorem fmL : fidx wfs "lows" = none := by decide +kernel
theorem fmO : fidx wfs "opening" = none := by decide +kernel
theorem way_turns (i : Bool) {W : List (Gd × Int)} (h : WOk W) (k : Nat) (hk : k < W.length) (w : Int) : F_Way_turns [.val (wD i W), .val (.int (k : Int)), .val (.int w)] = some (.val (oI (wT W k w)), [none, none, none]) := by
  have g := wD_g i W
  have f := wD_f i W
  have g1 := gWD_at W k hk
  have f1 := fWD_at W k hk
  have c := gD_2 W[k].1
  have t := turns_at (h W[k] (List.getElem_mem hk)) (W[k].2 + w)
  have e : wT W k w = tna W[k].1.C (W[k].2 + w) := by unfold wT; rw [List.getElem?_eq_getElem hk]; rfl
  rw [← e] at t
  unfold F_Way_turns
  rw [runF_eq]
  generalize wD i W = WW at *
  generalize gWD W = GG at *
  generalize fWD W = FF at *
  simp [b_Way_turns, g, g1, c, f, f1, t]
  rfl
theorem way_make {ρ : FB.Env} (b : Bd) (h : BOk b) (hq : loudO b = none) {p : List Nat} (hp : p ∈ nms b) (m1 m2 : M O) (h1 : m1 ρ = .ok (.val (bD b)) ρ) (h2 : m2 ρ = .ok (.val (sD p)) ρ) : mMake "Way" F_Way___init__ [.v m1, .v m2] ρ = .ok (wO (offB b p) (wayL b p)) ρ := by
  have wi := way_init b h hq hp
  generalize wO (offB b p) (wayL b p) = WW at *
  simp [h1, h2, wi]
theorem wayL_len (b : Bd) (p : List Nat) : (wayL b p).length = (ovr b p).length := by unfold wayL; simp

end Lw

namespace Lw
open PySem PySem.Spec L2 FB Wk
open PyProof.Rows hiding St
/-! is_held of a shared way -/
theorem way_held (i : Bool) {W : List (Gd × Int)} (h : WOk W) (k : Nat) (hk : k < W.length) (w : Int) : F_Way_is_held [.val (wD i W), .val (.int (k : Int)), .val (.int w)] = some (.val (.bl (wH W k w)), [none, none, none]) := by
  have mT := fun (ρ : FB.Env) F as => wD_m (ρ := ρ) i W "turns" F as fmT
  unfold F_Way_is_held
  rw [runF_eq]
  cases k with
  | zero =>
    have e : wH W 0 w = false := rfl
    rw [e]
    generalize wD i W = WW at *
    simp [b_Way_is_held]
    rfl
  | succ k =>
    have t := way_turns i h k (by omega) w
    have e : wH W (k + 1) w = (wT W k w).isSome := by unfold wH; simp
    have n := notN_oI (wT W k w)
    have c : ((k + 1 : Nat) : Int) - 1 = (k : Int) := by omega
    have c2 : (0 : Int) < ((k + 1 : Nat) : Int) := by omega
    rw [e]
    generalize wD i W = WW at *
    generalize ((k + 1 : Nat) : Int) = kk at *
    generalize oI (wT W k w) = TT at *
    simp [b_Way_is_held, c2, mT, c, t, n]
    rfl

end Lw

namespace Lw
open PySem PySem.Spec L2 FB Wk
open PyProof.Rows hiding St
/-! the lows of a way -/
def iK (K : List Int) : O := .dct (K.map Sum.inl) ((K.map fun _ => D.bl true).map O.val)
def insK (K : List Int) (x : Int) : List Int := if x ∈ K then K else K ++ [x]
theorem idx_int : ∀ (K : List Int) (x : Int), idxK (K.map Sum.inl) (.inl x) = if x ∈ K then some (K.findIdx fun y => decide (y = x)) else none := by
  intro K x
  unfold idxK
  rw [List.findIdx?_map]
  have e : ((fun k' : Key => decide (k' = Sum.inl x)) ∘ Sum.inl) = fun y : Int => decide (y = x) := by
    funext y
    by_cases h : y = x <;> simp [h]
  rw [e]
  by_cases h : x ∈ K
  · rw [if_pos h, List.findIdx?_eq_some_of_exists ⟨x, h, by simp⟩]
  · rw [if_neg h, List.findIdx?_eq_none_iff]
    intro y hy
    simp
    intro z; exact h (z ▸ hy)
theorem iK_set (K : List Int) (x : Int) (hl : K.length < 1000000) : setItO (iK K) (.val (.int x)) (.val (.bl true)) = some (iK (insK K x)) := by
  show (if (K.map Sum.inl : List Key).length < 1000000 then some (O.dct (putL (K.map Sum.inl) ((K.map fun _ => D.bl true).map O.val) (.inl x) (.val (.bl true))).1 (putL (K.map Sum.inl) ((K.map fun _ => D.bl true).map O.val) (.inl x) (.val (.bl true))).2) else none) = _
  rw [if_pos (by simpa using hl)]
  unfold putL insK
  rw [idx_int]
  by_cases h : x ∈ K
  · rw [if_pos h, if_pos h]
    unfold iK
    show some (O.dct _ (List.set _ _ _)) = _
    congr 2
    apply List.ext_getElem?
    intro j
    rw [List.getElem?_set]
    split
    · rename_i e
      subst e
      have hj : (K.findIdx fun y => decide (y = x)) < K.length := List.findIdx_lt_length_of_exists ⟨x, h, by simp⟩
      rw [if_pos (by simpa using hj), List.getElem?_map, List.getElem?_map, List.getElem?_eq_getElem hj]; rfl
    · rfl
  · rw [if_neg h, if_neg h]
    unfold iK
    simp
theorem iK_list (K : List Int) : listKO (iK K) = some (.val (.lst (K.map D.int))) := by
  have e : (K.map Sum.inl : List Key).all keyOk = true := by rw [List.all_map, List.all_eq_true]; intro x _; rfl
  have := listKO_dct (K.map Sum.inl) ((K.map fun _ => D.bl true).map O.val) e
  rw [show (K.map Sum.inl : List Key).map keyD = K.map D.int by rw [List.map_map]; rfl] at this
  exact this
theorem lints_int (K : List Int) : (D.lst (K.map D.int)).lints? = some K := by
  have := sumO_ints K
  unfold sumO at this
  cases h : (O.val (.lst (K.map D.int))).toD.lints? with
  | none => rw [h] at this; cases this
  | some ns =>
    have key : ∀ K : List Int, ints? (K.map D.int) = some K := by
      intro K
      induction K with
      | nil => rfl
      | cons x K ih => show (ints? (K.map D.int)).map (x :: ·) = _; rw [ih]; rfl
    exact key K
theorem sorted_int (K : List Int) : sortedO (.val (.lst (K.map D.int))) = some (.val (.lst ((sortL K).map D.int))) := by
  unfold sortedO
  show ((D.lst (K.map D.int)).lints?).map _ = _
  rw [lints_int]; rfl
/-- one step's low -/
def lw1 (most d : Int) (K : List Int) (s : Int × Int) : List Int := if s.1 - d ≤ most then insK K (s.1 - d) else K
def lowK (W : List (Gd × Int)) (most : Int) : List Int := W.foldl (fun K q => q.1.C.foldl (lw1 most q.2) K) [1]
def lowL (W : List (Gd × Int)) (most : Int) : List Int := sortL (lowK W most)
theorem insK_len (K : List Int) (x : Int) : (insK K x).length ≤ K.length + 1 := by unfold insK; split <;> simp
theorem lw1_len (most d : Int) (K : List Int) (s : Int × Int) : (lw1 most d K s).length ≤ K.length + 1 := by
  unfold lw1
  split
  · exact insK_len _ _
  · omega
theorem lwC_len (most d : Int) : ∀ (C : List (Int × Int)) (K : List Int), (C.foldl (lw1 most d) K).length ≤ K.length + C.length
  | [], K => by simp
  | s :: C, K => by
    have h1 := lwC_len most d C (lw1 most d K s)
    have h2 := lw1_len most d K s
    rw [List.foldl_cons, List.length_cons]; omega
/-! what the lows are -/
theorem low_len {W : List (Gd × Int)} (h : WOk W) (hl : W.length ≤ 16) (most : Int) : (lowL W most).length ≤ 81 := by
  have : ∀ (W : List (Gd × Int)) (K : List Int), WOk W → (W.foldl (fun K q => q.1.C.foldl (lw1 most q.2) K) K).length ≤ K.length + 5 * W.length := by
    intro W
    induction W with
    | nil => intro K _; simp
    | cons q W ih =>
      intro K h
      rw [List.foldl_cons, List.length_cons]
      have h1 := ih (q.1.C.foldl (lw1 most q.2) K) fun z hz => h z (List.mem_cons_of_mem _ hz)
      have h2 := lwC_len most q.2 q.1.C K
      have h3 := (h q (List.mem_cons_self ..)).2.1
      omega
  have := this W [1] h
  unfold lowL
  rw [(sortL_perm _).length_eq]
  unfold lowK
  simp at this ⊢
  omega
end Lw

namespace Lw
open PySem PySem.Spec L2 FB Wk
open PyProof.Rows hiding St
/-! lows of a shared way -/
theorem wlow_in (most d : Int) (x0 x3 : Option O) : ∀ (C : List (Int × Int)) (K : List Int) (c : Option O), K.length + C.length ≤ 1000 → ∃ c', forL (aN 5) b1_Way_lows (C.map pD) (E_Way_lows x0 (some (.val (.int most))) (some (iK K)) x3 (some (.val (.int d))) c) = .ok .nx (E_Way_lows x0 (some (.val (.int most))) (some (iK (C.foldl (lw1 most d) K))) x3 (some (.val (.int d))) c')
  | [], K, c, _ => ⟨c, rfl⟩
  | s :: C, K, c, h => by
    rw [List.length_cons] at h
    have hl := lw1_len most d K s
    obtain ⟨c', ih⟩ := wlow_in most d x0 x3 C (lw1 most d K s) (some (.val (pD s))) (by omega)
    refine ⟨c', ?_⟩
    have e := pD_0 s
    have st := iK_set K (s.1 - d) (by omega)
    have one : fstep (aN 5) b1_Way_lows (pD s) (E_Way_lows x0 (some (.val (.int most))) (some (iK K)) x3 (some (.val (.int d))) c) = .ok .nx (E_Way_lows x0 (some (.val (.int most))) (some (iK (lw1 most d K s))) x3 (some (.val (.int d))) (some (.val (pD s)))) := by
      unfold lw1
      by_cases hm : s.1 - d ≤ most
      · rw [if_pos hm]
        generalize iK K = A at *
        generalize iK (insK K (s.1 - d)) = B at *
        simp [b1_Way_lows, e, hm, st]
      · rw [if_neg hm]
        generalize iK K = A at *
        simp [b1_Way_lows, e, hm]
    rw [List.map_cons, forL_step, one]
    exact ih
theorem wlow_out (most : Int) (x0 : Option O) : ∀ (W : List (Gd × Int)), WOk W → ∀ (K : List Int) (x3 x4 x5 : Option O), K.length + 5 * W.length ≤ 500 → ∃ y3 y4 y5, forL (aTup (aCons (aN 3) (aCons (aN 4) (aNil)))) b2_Way_lows (W.map fun q => D.tup [gD q.1, .int q.2]) (E_Way_lows x0 (some (.val (.int most))) (some (iK K)) x3 x4 x5) = .ok .nx (E_Way_lows x0 (some (.val (.int most))) (some (iK (W.foldl (fun K q => q.1.C.foldl (lw1 most q.2) K) K))) y3 y4 y5)
  | [], _, K, x3, x4, x5, _ => ⟨x3, x4, x5, rfl⟩
  | q :: W, hW, K, x3, x4, x5, h => by
    rw [List.length_cons] at h
    have h5 := (hW q (List.mem_cons_self ..)).2.1
    have hl := lwC_len most q.2 q.1.C K
    obtain ⟨c', lp⟩ := wlow_in most q.2 x0 (some (.val (gD q.1))) q.1.C K x5 (by omega)
    obtain ⟨y3, y4, y5, ih⟩ := wlow_out most x0 W (fun z hz => hW z (List.mem_cons_of_mem _ hz)) (q.1.C.foldl (lw1 most q.2) K) (some (.val (gD q.1))) (some (.val (.int q.2))) c' (by omega)
    refine ⟨y3, y4, y5, ?_⟩
    have e := gD_2 q.1
    have ci : (cv q.1.C).items? = some (q.1.C.map pD) := rfl
    rw [List.map_cons, forL_step]
    have one : fstep (aTup (aCons (aN 3) (aCons (aN 4) (aNil)))) b2_Way_lows (D.tup [gD q.1, .int q.2]) (E_Way_lows x0 (some (.val (.int most))) (some (iK K)) x3 x4 x5) = .ok .nx (E_Way_lows x0 (some (.val (.int most))) (some (iK (q.1.C.foldl (lw1 most q.2) K))) (some (.val (gD q.1))) (some (.val (.int q.2))) c') := by
      generalize iK K = A at *
      generalize iK (q.1.C.foldl (lw1 most q.2) K) = B at *
      simp [b2_Way_lows, e, ci, lp]
    rw [one]
    exact ih
theorem zip_way (W : List (Gd × Int)) : zipL (W.map fun q => gD q.1) (W.map fun q => D.int q.2) = W.map fun q => D.tup [gD q.1, .int q.2] := by
  unfold zipL
  induction W with
  | nil => rfl
  | cons q W ih => rw [List.map_cons, List.map_cons, List.zipWith_cons_cons, ih]; rfl
theorem way_lows (i : Bool) {W : List (Gd × Int)} (h : WOk W) (hl : W.length ≤ 16) (most : Int) : F_Way_lows [.val (wD i W), .val (.int most)] = some (.val (.lst ((lowL W most).map D.int)), [none, none]) := by
  obtain ⟨y3, y4, y5, lp⟩ := wlow_out most (some (.val (wD i W))) W h [1] none none none (by simp; omega)
  have g := wD_g i W
  have f := wD_f i W
  have zz := zip_way W
  have d1 : d1K (E_Way_lows (some (.val (wD i W))) (some (.val (.int most)))) (some (.val (.int 1))) (some (.val (.bl true))) = .ok (iK [1]) (E_Way_lows (some (.val (wD i W))) (some (.val (.int most)))) := rfl
  have lp : forL (aTup (aCons (aN 3) (aCons (aN 4) (aNil)))) b2_Way_lows (W.map fun q => D.tup [gD q.1, .int q.2]) (E_Way_lows (some (.val (wD i W))) (some (.val (.int most))) (some (iK [1]))) = .ok .nx (E_Way_lows (some (.val (wD i W))) (some (.val (.int most))) (some (iK (lowK W most))) y3 y4 y5) := lp
  have zx : ∀ ρ : FB.Env, zipX (.val (gWD W)) (.val (fWD W)) ρ = .ok (W.map fun q => D.tup [gD q.1, .int q.2]) ρ := fun ρ => by
    rw [← zz]; rfl
  have li := iK_list (lowK W most)
  have so := sorted_int (lowK W most)
  unfold F_Way_lows
  rw [runF_eq]
  unfold lowL
  generalize wD i W = WW at *
  generalize gWD W = GG at *
  generalize fWD W = FF at *
  generalize (W.map fun q => D.tup [gD q.1, .int q.2]) = ZZ at *
  generalize iK (lowK W most) = A at *
  simp [b_Way_lows, d1, g, f, zx, lp, li, so]
  rfl

end Lw

namespace Lw
open PySem PySem.Spec L2 FB Wk
open PyProof.Rows hiding St
/-! which guards open, and when -/
abbrev Opn := Option (Int × List (List Nat))
def opS : Opn → List Nat × Int → Opn
  | none, q => some (q.2, [q.1])
  | some r, q => if q.2 < r.1 then some (q.2, [q.1]) else if q.2 = r.1 then some (r.1, q.1 :: r.2) else some r
def cnd (i : Bool) (W : List (Gd × Int)) (S : List (List Nat)) (w : Int) (k : Nat) : Option (List Nat × Int) := (W[k]?).bind fun q => if (decide (q.1.nm ∈ S) || (decide (w = 0) || i)) = true then none else
  (wT W k w).map fun t => (q.1.nm, if wH W k w = true then t + q.1.dl - 1 + q.1.wt else t + q.1.dl - 1)
def opT (i : Bool) (W : List (Gd × Int)) (S : List (List Nat)) (w : Int) (b : Opn) (k : Nat) : Opn := match cnd i W S w k with
  | none => b
  | some q => opS b q
def opW (i : Bool) (W : List (Gd × Int)) (S : List (List Nat)) (w : Int) : Opn := (List.range W.length).foldl (opT i W S w) none
def opB : Opn → D
  | none => .non
  | some r => .int r.1
def opN : Opn → List (List Nat)
  | none => []
  | some r => r.2
def opD : Opn → D
  | none => .non
  | some r => .tup [.int r.1, .tup (r.2.map sD)]
theorem opS_len (b : Opn) (q : List Nat × Int) : (opN (opS b q)).length ≤ (opN b).length + 1 := by
  cases b with
  | none => show 1 ≤ 0 + 1; omega
  | some r =>
    unfold opS
    by_cases h1 : q.2 < r.1
    · simp [h1, opN]
    · by_cases h2 : q.2 = r.1 <;> simp [h1, h2, opN]
theorem opT_len (i : Bool) (W : List (Gd × Int)) (S : List (List Nat)) (w : Int) (b : Opn) (k : Nat) : (opN (opT i W S w b k)).length ≤ (opN b).length + 1 := by
  unfold opT
  split
  · omega
  · exact opS_len _ _
end Lw

namespace Lw
open PySem PySem.Spec L2 FB Wk
open PyProof.Rows hiding St
/-! the program's opening -/
def eGd (W : List (Gd × Int)) (k : Nat) : D := .tup [.int (k : Int), ((W[k]?).map fun q => gD q.1).getD .non]
theorem enum_way (W : List (Gd × Int)) : enumL (W.map fun q => gD q.1) = (List.range W.length).map (eGd W) := by
  apply List.ext_getElem?
  intro k
  unfold enumL
  rw [List.getElem?_mapIdx, List.getElem?_map, List.getElem?_map]
  by_cases hk : k < W.length
  · rw [List.getElem?_range hk]
    unfold eGd
    simp only [Option.map_some]
    rw [List.getElem?_eq_getElem hk]; rfl
  · have h1 : W[k]? = none := List.getElem?_eq_none (by omega)
    have h2 : (List.range W.length)[k]? = none := List.getElem?_eq_none (by simp; omega)
    rw [h1, h2]; rfl
theorem open_step (i : Bool) {W : List (Gd × Int)} (h : WOk W) (S : List (List Nat)) (w : Int) (k : Nat) (hk : k < W.length) (b : Opn) (hb : (opN b).length ≤ 1000) (c5 c6 c7 c8 : Option O) : ∃ e7 e8, fstep (aTup (aCons (aN 5) (aCons (aN 6) (aNil)))) b1_Way_opening (eGd W k) (E_Way_opening (some (.val (wD i W))) (some (.val (.int w))) (some (.val (.lst (S.map sD)))) (some (.val (opB b))) (some (.val (.lst ((opN b).map sD)))) c5 c6 c7 c8) =
    .ok .nx (E_Way_opening (some (.val (wD i W))) (some (.val (.int w))) (some (.val (.lst (S.map sD)))) (some (.val (opB (opT i W S w b k)))) (some (.val (.lst ((opN (opT i W S w b k)).map sD)))) (some (.val (.int (k : Int)))) (some (.val (gD W[k].1))) e7 e8) := by
  have mT := fun (ρ : FB.Env) F as => wD_m (ρ := ρ) i W "turns" F as fmT
  have mH := fun (ρ : FB.Env) F as => wD_m (ρ := ρ) i W "is_held" F as fmH
  have tu := way_turns i h k hk w
  have he := way_held i h k hk w
  have fi := wD_i i W
  have eg : eGd W k = .tup [.int (k : Int), gD W[k].1] := by unfold eGd; rw [List.getElem?_eq_getElem hk]; rfl
  have ec : cnd i W S w k = if (decide (W[k].1.nm ∈ S) || (decide (w = 0) || i)) = true then none else (wT W k w).map fun t => (W[k].1.nm, if wH W k w = true then t + W[k].1.dl - 1 + W[k].1.wt else t + W[k].1.dl - 1) := by
    unfold cnd; rw [List.getElem?_eq_getElem hk]; rfl
  generalize W[k] = q at *
  have g0 := gD_0 q.1
  have g3 := gD_3 q.1
  have g4 := gD_4 q.1
  have is := op_in (t := .lst (S.map sD)) (S := S) (.inl rfl) q.1.nm
  have nn : isNO (.val .non) (.val .non) = some (.val (.bl true)) := rfl
  have ni : ∀ x : Int, isNO (.val (.int x)) (.val .non) = some (.val (.bl false)) := fun _ => rfl
  have no : oI none = .non := rfl
  have so : ∀ m, oI (some m) = .int m := fun _ => rfl
  rw [eg]
  unfold opT
  rw [ec]
  generalize wD i W = WW at *
  generalize hSL : S.map sD = SL at *
  generalize wH W k w = hd at *
  cases et : wT W k w with
  | none =>
    rw [et, no] at tu
    have e1 : (if (decide (q.1.nm ∈ S) || (decide (w = 0) || i)) = true then none else (none : Option Int).map fun t => (q.1.nm, if hd = true then t + q.1.dl - 1 + q.1.wt else t + q.1.dl - 1)) = none := by split <;> rfl
    rw [e1]
    refine ⟨some (.val .non), c8, ?_⟩
    dsimp only
    generalize opB b = BB at *
    generalize (opN b).map sD = NN at *
    simp [b1_Way_opening, mT, tu, nn]
  | some t =>
    rw [et, so] at tu
    by_cases hS : q.1.nm ∈ S
    · rw [decide_eq_true hS] at is ⊢
      refine ⟨some (.val (.int t)), c8, ?_⟩
      simp only [Bool.true_or, if_true]
      generalize opB b = BB at *
      generalize (opN b).map sD = NN at *
      simp [b1_Way_opening, mT, tu, ni, g0, is]
    · rw [decide_eq_false hS] at is ⊢
      by_cases hw : w = 0
      · rw [decide_eq_true hw]
        refine ⟨some (.val (.int t)), c8, ?_⟩
        simp only [Bool.true_or, Bool.false_or, if_true]
        generalize opB b = BB at *
        generalize (opN b).map sD = NN at *
        subst hw
        simp [b1_Way_opening, mT, tu, ni, g0, is]
      · rw [decide_eq_false hw]
        cases i with
        | true =>
          refine ⟨some (.val (.int t)), c8, ?_⟩
          simp only [Bool.true_or, Bool.false_or, if_true]
          generalize opB b = BB at *
          generalize (opN b).map sD = NN at *
          simp [b1_Way_opening, mT, tu, ni, g0, is, hw, fi]
        | false =>
          refine ⟨some (.val (.int t)), some (.val (.int (if hd = true then t + q.1.dl - 1 + q.1.wt else t + q.1.dl - 1))), ?_⟩
          have ex : (if (false || (false || false)) = true then none else (some t).map fun t => (q.1.nm, if hd = true then t + q.1.dl - 1 + q.1.wt else t + q.1.dl - 1)) = some (q.1.nm, if hd = true then t + q.1.dl - 1 + q.1.wt else t + q.1.dl - 1) := rfl
          rw [ex]
          have key : ∀ tr : Int, (if hd = true then t + q.1.dl - 1 + q.1.wt else t + q.1.dl - 1) = tr → fstep (aTup (aCons (aN 5) (aCons (aN 6) (aNil)))) b1_Way_opening (.tup [.int (k : Int), gD q.1]) (E_Way_opening (some (.val WW)) (some (.val (.int w))) (some (.val (.lst SL))) (some (.val (opB b))) (some (.val (.lst ((opN b).map sD)))) c5 c6 c7 c8) =
              .ok .nx (E_Way_opening (some (.val WW)) (some (.val (.int w))) (some (.val (.lst SL))) (some (.val (opB (opS b (q.1.nm, tr))))) (some (.val (.lst ((opN (opS b (q.1.nm, tr))).map sD)))) (some (.val (.int (k : Int)))) (some (.val (gD q.1))) (some (.val (.int t))) (some (.val (.int tr)))) := by
            intro tr htr
            cases b with
            | none =>
              have a0 : addD (.lst [sD q.1.nm]) (.lst []) = some (.lst [sD q.1.nm]) := addD_lst _ _ (by simp)
              cases hd with
              | true =>
                have htr : t + q.1.dl - 1 + q.1.wt = tr := htr
                simp [b1_Way_opening, mT, mH, tu, ni, nn, g0, is, hw, fi, g3, he, g4, htr, a0, opB, opN, opS]
              | false =>
                have htr : t + q.1.dl - 1 = tr := htr
                simp [b1_Way_opening, mT, mH, tu, ni, nn, g0, is, hw, fi, g3, he, htr, a0, opB, opN, opS]
            | some r =>
              have a0 : addD (.lst [sD q.1.nm]) (.lst []) = some (.lst [sD q.1.nm]) := addD_lst _ _ (by simp)
              have a1 : addD (.lst [sD q.1.nm]) (.lst (r.2.map sD)) = some (.lst (sD q.1.nm :: r.2.map sD)) := addD_lst _ _ (by have : r.2.length ≤ 1000 := hb; simp; omega)
              have nr := ni r.1
              have b1 : opB (some r) = .int r.1 := rfl
              have n1 : opN (some r) = r.2 := rfl
              rw [b1, n1]
              by_cases h1 : tr < r.1
              · have s1 : opS (some r) (q.1.nm, tr) = some (tr, [q.1.nm]) := by unfold opS; simp [h1]
                rw [s1]
                generalize r.2.map sD = RL at *
                cases hd with
                | true =>
                  have htr : t + q.1.dl - 1 + q.1.wt = tr := htr
                  simp [b1_Way_opening, mT, mH, tu, ni, nn, g0, is, hw, fi, g3, he, g4, htr, a0, h1, opB, opN]
                | false =>
                  have htr : t + q.1.dl - 1 = tr := htr
                  simp [b1_Way_opening, mT, mH, tu, ni, nn, g0, is, hw, fi, g3, he, htr, a0, h1, opB, opN]
              · by_cases h2 : tr = r.1
                · have s1 : opS (some r) (q.1.nm, tr) = some (r.1, q.1.nm :: r.2) := by unfold opS; simp [h1, h2]
                  rw [s1]
                  have n2 : (opN (some (r.1, q.1.nm :: r.2))).map sD = sD q.1.nm :: r.2.map sD := rfl
                  have b2 : opB (some (r.1, q.1.nm :: r.2)) = .int r.1 := rfl
                  rw [n2, b2]
                  generalize r.2.map sD = RL at *
                  cases hd with
                  | true =>
                    have htr : t + q.1.dl - 1 + q.1.wt = tr := htr
                    simp [b1_Way_opening, mT, mH, tu, ni, nn, g0, is, hw, fi, g3, he, g4, htr, a1, h1, h2]
                  | false =>
                    have htr : t + q.1.dl - 1 = tr := htr
                    simp [b1_Way_opening, mT, mH, tu, ni, nn, g0, is, hw, fi, g3, he, htr, a1, h1, h2]
                · have s1 : opS (some r) (q.1.nm, tr) = some r := by unfold opS; simp [h1, h2]
                  rw [s1, b1, n1]
                  generalize r.2.map sD = RL at *
                  cases hd with
                  | true =>
                    have htr : t + q.1.dl - 1 + q.1.wt = tr := htr
                    simp [b1_Way_opening, mT, mH, tu, ni, nn, g0, is, hw, fi, g3, he, g4, htr, h1, h2]
                  | false =>
                    have htr : t + q.1.dl - 1 = tr := htr
                    simp [b1_Way_opening, mT, mH, tu, ni, nn, g0, is, hw, fi, g3, he, htr, h1, h2]
          exact key _ rfl
theorem open_loop (i : Bool) {W : List (Gd × Int)} (h : WOk W) (S : List (List Nat)) (w : Int) : ∀ (ks : List Nat), (∀ k ∈ ks, k < W.length) → ∀ (b : Opn) (c5 c6 c7 c8 : Option O), (opN b).length + ks.length ≤ 1000 → ∃ e5 e6 e7 e8, forL (aTup (aCons (aN 5) (aCons (aN 6) (aNil)))) b1_Way_opening (ks.map (eGd W)) (E_Way_opening (some (.val (wD i W))) (some (.val (.int w))) (some (.val (.lst (S.map sD)))) (some (.val (opB b))) (some (.val (.lst ((opN b).map sD)))) c5 c6 c7 c8) =
    .ok .nx (E_Way_opening (some (.val (wD i W))) (some (.val (.int w))) (some (.val (.lst (S.map sD)))) (some (.val (opB (ks.foldl (opT i W S w) b)))) (some (.val (.lst ((opN (ks.foldl (opT i W S w) b)).map sD)))) e5 e6 e7 e8)
  | [], _, b, c5, c6, c7, c8, _ => ⟨c5, c6, c7, c8, rfl⟩
  | k :: ks, hk, b, c5, c6, c7, c8, hl => by
    rw [List.length_cons] at hl
    have h1 := opT_len i W S w b k
    have hkk := hk k (List.mem_cons_self ..)
    obtain ⟨e7, e8, one⟩ := open_step i h S w k hkk b (by omega) c5 c6 c7 c8
    obtain ⟨f5, f6, f7, f8, ih⟩ := open_loop i h S w ks (fun z hz => hk z (List.mem_cons_of_mem _ hz)) (opT i W S w b k) (some (.val (.int (k : Int)))) (some (.val (gD W[k].1))) e7 e8 (by omega)
    exact ⟨f5, f6, f7, f8, by rw [List.map_cons, forL_step, one]; exact ih⟩
theorem way_opening (i : Bool) {W : List (Gd × Int)} (h : WOk W) (hl : W.length ≤ 16) (S : List (List Nat)) (w : Int) : F_Way_opening [.val (wD i W), .val (.int w), .val (.lst (S.map sD))] = some (.val (opD (opW i W S w)), [none, none, none]) := by
  obtain ⟨e5, e6, e7, e8, lp⟩ := open_loop i h S w (List.range W.length) (fun k hk => List.mem_range.mp hk) none none none none none (by simp [opN]; omega)
  have g := wD_g i W
  have en := enum_way W
  have lp : forL (aTup (aCons (aN 5) (aCons (aN 6) (aNil)))) b1_Way_opening ((List.range W.length).map (eGd W)) (E_Way_opening (some (.val (wD i W))) (some (.val (.int w))) (some (.val (.lst (S.map sD)))) (some (.val .non)) (some (.val (.lst [])))) = .ok .nx (E_Way_opening (some (.val (wD i W))) (some (.val (.int w))) (some (.val (.lst (S.map sD)))) (some (.val (opB (opW i W S w)))) (some (.val (.lst ((opN (opW i W S w)).map sD)))) e5 e6 e7 e8) := lp
  have ge : gWD W = .lst (W.map fun q => gD q.1) := rfl
  rw [ge] at g
  have nn : isNO (.val .non) (.val .non) = some (.val (.bl true)) := rfl
  have ni : ∀ x : Int, isNO (.val (.int x)) (.val .non) = some (.val (.bl false)) := fun _ => rfl
  unfold F_Way_opening
  rw [runF_eq]
  rw [← en] at lp
  generalize wD i W = WW at *
  generalize (W.map fun q => gD q.1) = GG at *
  generalize S.map sD = SL at *
  cases eo : opW i W S w with
  | none =>
    rw [eo] at lp
    have b1 : opB none = .non := rfl
    have n1 : (opN none).map sD = [] := rfl
    rw [b1, n1] at lp
    simp [b_Way_opening, g, lp, nn, opD]
    rfl
  | some r =>
    rw [eo] at lp
    have b1 : opB (some r) = .int r.1 := rfl
    have n1 : (opN (some r)).map sD = r.2.map sD := rfl
    rw [b1, n1] at lp
    generalize hR : r.2.map sD = RL at *
    simp [b_Way_opening, g, lp, ni, opD, hR]
    rfl

end Lw

namespace Lw
open PySem PySem.Spec L2 FB Wk
open PyProof.Rows hiding St
/-! the rows of a map -/
abbrev Row := Int × Int × Opn
def rowD (r : Row) : D := .tup [.int r.1, .int r.2.1, opD r.2.2]
def mst (R : List Row) (p : Int × Int) (o : Opn) : List Row := match R.getLast? with
  | none => [(p.1, p.2 - 1, o)]
  | some r => if D.eqv (opD r.2.2) (opD o) = true then R.dropLast ++ [(r.1, p.2 - 1, o)] else R ++ [(p.1, p.2 - 1, o)]
theorem okE_opD (n : Nat) (o : Opn) : D.okE (n + 2) (opD o) = true := by
  cases o with
  | none => exact okE_non _
  | some r =>
    show D.okE (n + 2) (.tup [.int r.1, .tup (r.2.map sD)]) = true
    rw [okE_tup]
    have : ((r.2.map sD).all (D.okE n)) = true := okE_names n r.2
    simp [this]
theorem okE_row (n : Nat) (r : Row) : D.okE (n + 3) (rowD r) = true := by
  unfold rowD
  rw [okE_tup]
  have := okE_opD n r.2.2
  simp [this]
theorem eq_opD (a b : Opn) : eqO (.val (opD a)) (.val (opD b)) = some (.val (.bl (D.eqv (opD a) (opD b)))) := e_eqO (a := .val (opD a)) (b := .val (opD b)) (okE_opD 7 a) (okE_opD 7 b)
theorem ne_rows (R : List Row) (r : Row) : neO (vO ((R ++ [r]).map rowD)) (.val (.lst [])) = some (.val (.bl true)) := by
  have h : D.okE (8 + 1) (.lst ((R ++ [r]).map rowD)) = true := by
    rw [okE_lst, List.all_eq_true]
    intro d hd
    obtain ⟨z, _, rfl⟩ := List.mem_map.mp hd
    exact okE_row 5 z
  have td : (vO ((R ++ [r]).map rowD)).toD = .lst ((R ++ [r]).map rowD) := vO_toD _
  rw [e_neO (by rw [td]; exact h) rfl, td]
  show some (O.val (.bl (!D.eqv (.lst ((R ++ [r]).map rowD)) (.lst [])))) = _
  rw [eqv_lst, eqvs_n]
  simp
theorem row_last (R : List Row) (r : Row) : ixO (vO ((R ++ [r]).map rowD)) (.val (.int (-1))) = some (.val (rowD r)) := by
  have e : ixO (vO ((R ++ [r]).map rowD)) (.val (.int (-1))) = (atI ((R ++ [r]).map rowD) (-1)).map O.val := vO_ix _ _
  rw [e, List.map_append, List.map_cons, List.map_nil, FB.atI_last]; rfl
theorem row_set (R : List Row) (r s : Row) : setItO (vO ((R ++ [r]).map rowD)) (.val (.int (-1))) (.val (rowD s)) = some (vO ((R ++ [s]).map rowD)) := by
  have hl : ((((R ++ [r]).map rowD).map O.val).length : Nat) = R.length + 1 := by simp
  have hi : ixN (((R ++ [r]).map rowD).map O.val).length (-1) = some R.length := by
    rw [hl]
    unfold ixN
    rw [if_neg (by omega), if_pos (by simp; omega)]
    congr 1
    omega
  show ((ixN (((R ++ [r]).map rowD).map O.val).length (-1)).map fun j => O.lst ((((R ++ [r]).map rowD).map O.val).set j (.val (rowD s)))) = _
  rw [hi]
  show some (O.lst _) = some (O.lst _)
  congr 2
  rw [List.map_map, List.map_map, List.map_append, List.map_append, List.set_append_right _ _ (by simp)]
  simp
theorem mst_len (R : List Row) (p : Int × Int) (o : Opn) : (mst R p o).length ≤ R.length + 1 := by
  rcases List.eq_nil_or_concat R with hr | ⟨R', r, hr⟩
  · subst hr; show 1 ≤ 0 + 1; omega
  · have hr : R = R' ++ [r] := by rw [hr, List.concat_eq_append]
    subst hr
    unfold mst
    rw [List.getLast?_concat]
    dsimp only
    split <;> simp
theorem map_step (i : Bool) {W : List (Gd × Int)} (h : WOk W) (hl16 : W.length ≤ 16) (S : List (List Nat)) (x0 x1 x2 x3 x7 : Option O) (R : List Row) (p : Int × Int) (a b c : Option O) (hR : R.length ≤ 1000) : fstep (aTup (aCons (aN 8) (aCons (aN 9) (aNil)))) b1_map_of (D.tup [.int p.1, .int p.2]) (E_map_of x0 x1 x2 x3 (some (.val (wD i W))) (some (.val (.lst (S.map sD)))) (some (vO (R.map rowD))) x7 a b c) = .ok .nx (E_map_of x0 x1 x2 x3 (some (.val (wD i W))) (some (.val (.lst (S.map sD)))) (some (vO ((mst R p (opW i W S p.1)).map rowD))) x7 (some (.val (.int p.1))) (some (.val (.int p.2))) (some (.val (opD (opW i W S p.1))))) := by
  have op := way_opening i h hl16 S p.1
  have mO := fun (ρ : FB.Env) F as => wD_m (ρ := ρ) i W "opening" F as fmO
  generalize opW i W S p.1 = o at *
  rcases List.eq_nil_or_concat R with hr | ⟨R', r, hr⟩
  · subst hr
    have e : mst [] p o = [(p.1, p.2 - 1, o)] := rfl
    have v0 : (vO (([] : List Row).map rowD) : O) = .lst [] := rfl
    have v1 : (vO ([(p.1, p.2 - 1, o)].map rowD) : O) = .lst [.val (.tup [.int p.1, .int (p.2 - 1), opD o])] := rfl
    have ne0 : neO (.lst []) (.val (.lst [])) = some (.val (.bl false)) := rfl
    rw [e, v0, v1]
    generalize opD o = od at *
    generalize wD i W = WW at *
    generalize S.map sD = SS at *
    simp [b1_map_of, op, mO, ne0]
  · have hr : R = R' ++ [r] := by rw [hr, List.concat_eq_append]
    subst hr
    have e : mst (R' ++ [r]) p o = if D.eqv (opD r.2.2) (opD o) = true then R' ++ [(r.1, p.2 - 1, o)] else R' ++ [r] ++ [(p.1, p.2 - 1, o)] := by
      unfold mst
      rw [List.getLast?_concat]
      dsimp only
      rw [List.dropLast_concat]
    have la := row_last R' r
    have r2 : ixO (.val (rowD r)) (.val (.int 2)) = some (.val (opD r.2.2)) := rfl
    have r0 : ixO (.val (rowD r)) (.val (.int 0)) = some (.val (.int r.1)) := rfl
    have eq := eq_opD r.2.2 o
    have ne0 := ne_rows R' r
    have st := row_set R' r (r.1, p.2 - 1, o)
    have ap : ∀ (ρ : FB.Env) (mm : M O), apA 6 mm ρ (some (some (vO ((R' ++ [r]).map rowD)))) = apB 6 (mm ρ) := fun ρ mm => rfl
    have ap2 : ∀ (ρ : FB.Env), apC 6 (.val (rowD (p.1, p.2 - 1, o))) ρ (some (some (vO ((R' ++ [r]).map rowD)))) = .ok (.val .non) (ρ.set 6 (some (vO ((R' ++ [r] ++ [(p.1, p.2 - 1, o)]).map rowD)))) := fun ρ => by
      rw [List.map_append (l₂ := [(p.1, p.2 - 1, o)])]
      exact vO_apC 6 (rowD (p.1, p.2 - 1, o)) _ (by rw [List.length_map]; omega)
    have ln : lenO (vO ((R' ++ [r]).map rowD)) = some (.val (.int ((R'.length : Int) + 1))) := by simp
    have gt : (0 : Int) < (R'.length : Int) + 1 := by omega
    rw [e]
    generalize hV1 : vO ((R' ++ [(r.1, p.2 - 1, o)]).map rowD) = V1 at *
    generalize hV2 : vO ((R' ++ [r] ++ [(p.1, p.2 - 1, o)]).map rowD) = V2 at *
    generalize hV0 : vO ((R' ++ [r]).map rowD) = V0 at *
    have rd1 : rowD (r.1, p.2 - 1, o) = .tup [.int r.1, .int (p.2 - 1), opD o] := rfl
    have rd2 : rowD (p.1, p.2 - 1, o) = .tup [.int p.1, .int (p.2 - 1), opD o] := rfl
    rw [rd1] at st
    simp only [rd2] at ap2
    cases ev : D.eqv (opD r.2.2) (opD o) with
    | true =>
      rw [ev] at eq
      rw [if_pos rfl, hV1]
      generalize opD o = od at *
      generalize opD r.2.2 = od2 at *
      generalize rowD r = rd at *
      generalize wD i W = WW at *
      generalize S.map sD = SS at *
      simp [b1_map_of, op, mO, ne0, la, r2, r0, eq, st, ln, gt]
    | false =>
      rw [ev] at eq
      rw [if_neg (by simp), hV2]
      generalize opD o = od at *
      generalize opD r.2.2 = od2 at *
      generalize rowD r = rd at *
      generalize wD i W = WW at *
      generalize S.map sD = SS at *
      simp [b1_map_of, op, mO, ne0, la, r2, eq, ap, ap2, ln, gt]
theorem map_loop (i : Bool) {W : List (Gd × Int)} (h : WOk W) (hl16 : W.length ≤ 16) (S : List (List Nat)) (x0 x1 x2 x3 x7 : Option O) : ∀ (L : List (Int × Int)) (R : List Row) (a b c : Option O), R.length + L.length ≤ 1000 → ∃ a' b' c', forL (aTup (aCons (aN 8) (aCons (aN 9) (aNil)))) b1_map_of (L.map fun p => D.tup [.int p.1, .int p.2]) (E_map_of x0 x1 x2 x3 (some (.val (wD i W))) (some (.val (.lst (S.map sD)))) (some (vO (R.map rowD))) x7 a b c) = .ok .nx (E_map_of x0 x1 x2 x3 (some (.val (wD i W))) (some (.val (.lst (S.map sD)))) (some (vO ((L.foldl (fun R p => mst R p (opW i W S p.1)) R).map rowD))) x7 a' b' c')
  | [], R, a, b, c, _ => ⟨a, b, c, rfl⟩
  | p :: L, R, a, b, c, hl => by
    rw [List.length_cons] at hl
    have h1 := mst_len R p (opW i W S p.1)
    have one := map_step i h hl16 S x0 x1 x2 x3 x7 R p a b c (by omega)
    obtain ⟨a', b', c', ih⟩ := map_loop i h hl16 S x0 x1 x2 x3 x7 L (mst R p (opW i W S p.1)) (some (.val (.int p.1))) (some (.val (.int p.2))) (some (.val (opD (opW i W S p.1)))) (by omega)
    exact ⟨a', b', c', by rw [List.map_cons, forL_step, one]; exact ih⟩

end Lw

namespace Lw
open PySem PySem.Spec L2 FB Wk
open PyProof.Rows hiding St
/-! maps and openings told by the program, and by the law -/
def StT (st : D) (S : List (List Nat)) : Prop := (st = .non ∧ S = []) ∨ OpT st S
theorem stuck_list {st : D} {S : List (List Nat)} (h : StT st S) : ∃ o, F_stuck_list [.val st] = some (o, [none]) ∧ o.toD = .lst (S.map sD) := by
  rcases h with ⟨rfl, rfl⟩ | h
  · refine ⟨.lst [], ?_, rfl⟩
    have nn : isNO (.val .non) (.val .non) = some (.val (.bl true)) := rfl
    unfold F_stuck_list
    rw [runF_eq]
    simp [b_stuck_list, nn]
    rfl
  · rcases h with rfl | rfl
    · refine ⟨vO (S.map sD), ?_, vO_toD _⟩
      have nn : isNO (.val (.lst (S.map sD))) (.val .non) = some (.val (.bl false)) := rfl
      have vw : vO (S.map sD) = .lst ((S.map sD).map O.val) := rfl
      rw [vw]
      unfold F_stuck_list
      rw [runF_eq]
      generalize S.map sD = SS at *
      simp [b_stuck_list, nn]
      exact ⟨rfl, rfl⟩
    · refine ⟨vO (S.map sD), ?_, vO_toD _⟩
      have nn : isNO (.val (.tup (S.map sD))) (.val .non) = some (.val (.bl false)) := rfl
      have vw : vO (S.map sD) = .lst ((S.map sD).map O.val) := rfl
      rw [vw]
      unfold F_stuck_list
      rw [runF_eq]
      generalize S.map sD = SS at *
      simp [b_stuck_list, nn]
      exact ⟨rfl, rfl⟩

end Lw

namespace Lw
open PySem PySem.Spec L2 FB Wk
open PyProof.Rows hiding St
/-! the way as the law has it -/
end Lw

namespace Lw
open PySem PySem.Spec L2 FB Wk
open PyProof.Rows hiding St
/-! openings that are alike are the same -/
end Lw

namespace Lw
open PySem PySem.Spec L2 FB Wk
open PyProof.Rows hiding St
/-! a place that is off -/
end Lw

namespace Lw
open PySem PySem.Spec L2 FB Wk
open PyProof.Rows hiding St
def mapP (L : List Int) (most : Int) : List (Int × Int) := L.zip (L.drop 1 ++ [most + 1])
def mapL (o : Int → Opn) (L : List Int) (most : Int) : List Row := (mapP L most).foldl (fun R p => mst R p (o p.1)) []
theorem zip_ints : ∀ (xs ys : List Int), zipL (xs.map D.int) (ys.map D.int) = (xs.zip ys).map fun p => D.tup [.int p.1, .int p.2]
  | [], ys => rfl
  | x :: xs, [] => rfl
  | x :: xs, y :: ys => by
    have ih := zip_ints xs ys
    show D.tup [.int x, .int y] :: zipL (xs.map D.int) (ys.map D.int) = _
    rw [ih]; rfl
theorem drop_ints (L : List Int) : slO (.val (.lst (L.map D.int))) (some 1) none = some (.val (.lst ((L.drop 1).map D.int))) := by
  show some (O.val (.lst (cutL (L.map D.int) (some ((1 : Nat) : Int)) none))) = _
  rw [cut_from, ← List.map_drop]
theorem tail_ints (L : List Int) (m : Int) (h : L.length ≤ 1000) : addD (.lst ((L.drop 1).map D.int)) (.lst [.int m]) = some (.lst ((L.drop 1 ++ [m]).map D.int)) := by
  rw [addD_lst _ _ (by simp; omega), List.map_append]; rfl
theorem mapP_len (L : List Int) (most : Int) : (mapP L most).length ≤ L.length := by unfold mapP; rw [List.length_zip]; omega
theorem way_rows (i : Bool) {W : List (Gd × Int)} (h : WOk W) (hl : W.length ≤ 16) (S : List (List Nat)) (most : Int) (x0 x1 x2 x3 x7 : Option O) : ∃ a b c, forL (aTup (aCons (aN 8) (aCons (aN 9) (aNil)))) b1_map_of ((mapP (lowL W most) most).map fun p => D.tup [.int p.1, .int p.2]) (E_map_of x0 x1 x2 x3 (some (.val (wD i W))) (some (.val (.lst (S.map sD)))) (some (.lst [])) x7) = .ok .nx (E_map_of x0 x1 x2 x3 (some (.val (wD i W))) (some (.val (.lst (S.map sD)))) (some (vO ((mapL (opW i W S) (lowL W most) most).map rowD))) x7 a b c) := by
  have ll := low_len h hl most
  have pl := mapP_len (lowL W most) most
  obtain ⟨a, b, c, lp⟩ := map_loop i h hl S x0 x1 x2 x3 x7 (mapP (lowL W most) most) [] none none none (by simp; omega)
  exact ⟨a, b, c, lp⟩
theorem map_of (b : Bd) (h : BOk b) (hq : loudO b = none) {p : List Nat} (hp : p ∈ nms b) (most : Int) {st : D} {S : List (List Nat)} (hs : StT st S) : F_map_of [.val (bD b), .val (sD p), .val (.int most), .val st] = some (vO ((mapL (opW (offB b p) (wayL b p) S) (lowL (wayL b p) most) most).map rowD), [none, none, none, none]) := by
  obtain ⟨so, se, st2⟩ := stuck_list hs
  have hW := wayL_ok h hp
  have hl : (wayL b p).length ≤ 16 := by rw [wayL_len]; exact (ovr_ok h hp).2
  have wm := fun (ρ : FB.Env) (m1 m2 : M O) => way_make (ρ := ρ) b h hq hp m1 m2
  have wt := wO_toD (offB b p) (wayL b p)
  have lw := way_lows (offB b p) hW hl most
  have mL := fun (ρ : FB.Env) F as => wD_m (ρ := ρ) (offB b p) (wayL b p) "lows" F as fmL
  have ll := low_len hW hl most
  have dr := drop_ints (lowL (wayL b p) most)
  have ta := tail_ints (lowL (wayL b p) most) (most + 1) (by omega)
  have zz := zip_ints (lowL (wayL b p) most) ((lowL (wayL b p) most).drop 1 ++ [most + 1])
  obtain ⟨a, c, d, lp⟩ := way_rows (offB b p) hW hl S most (some (.val (bD b))) (some (.val (sD p))) (some (.val (.int most))) (some (.val st)) (some (.val (.lst ((lowL (wayL b p) most).map D.int))))
  have lp : forL (aTup (aCons (aN 8) (aCons (aN 9) (aNil)))) b1_map_of (((lowL (wayL b p) most).zip ((lowL (wayL b p) most).drop 1 ++ [most + 1])).map fun p => D.tup [.int p.1, .int p.2]) _ = _ := lp
  rw [← zz] at lp
  unfold F_map_of
  rw [runF_eq]
  generalize vO ((mapL (opW (offB b p) (wayL b p) S) (lowL (wayL b p) most) most).map rowD) = VV at *
  generalize ((lowL (wayL b p) most).drop 1 ++ [most + 1]).map D.int = L2 at *
  generalize ((lowL (wayL b p) most).drop 1).map D.int = L1 at *
  generalize (lowL (wayL b p) most).map D.int = L0 at *
  generalize wO (offB b p) (wayL b p) = WO at *
  generalize wD (offB b p) (wayL b p) = WD at *
  generalize S.map sD = SS at *
  generalize bD b = BB at *
  simp [-e_mMake, b_map_of, wm, wt, se, st2, mL, lw, dr, ta, lp]
  rfl
end Lw

namespace Lw
open PySem PySem.Spec L2 FB Wk
open PyProof.Rows hiding St
/-! a loop that ends at the first -/
theorem forL_first {α γ : Type} {a : D → FB.Env → Option FB.Env} {b : M Fl} (E : γ → FB.Env) (f : α → D) (p : α → Bool) (g : α → O) : ∀ {xs : List α} (c : γ),
    (∀ x ∈ xs, ∀ c, (p x = true ∧ ∃ ρ2, fstep a b (f x) (E c) = .ok (.ret (g x)) ρ2) ∨ (p x = false ∧ ∃ c', fstep a b (f x) (E c) = .ok .nx (E c'))) →
    (xs.find? p = none ∧ ∃ c', forL a b (xs.map f) (E c) = .ok .nx (E c')) ∨ ∃ x ρ2, xs.find? p = some x ∧ forL a b (xs.map f) (E c) = .ok (.ret (g x)) ρ2
  | [], c, _ => .inl ⟨rfl, c, rfl⟩
  | x :: xs, c, h => by
    rcases h x (List.mem_cons_self ..) c with ⟨hp, ρ2, e⟩ | ⟨hp, c', e⟩
    · exact .inr ⟨x, ρ2, by simp [List.find?_cons, hp], by rw [List.map_cons, forL_step, e]⟩
    · rcases forL_first E f p g (xs := xs) c' fun y hy => h y (List.mem_cons_of_mem _ hy) with ⟨q1, c2, q2⟩ | ⟨y, ρ2, q1, q2⟩
      · exact .inl ⟨by simp [List.find?_cons, hp, q1], c2, by rw [List.map_cons, forL_step, e]; exact q2⟩
      · exact .inr ⟨y, ρ2, by simp [List.find?_cons, hp, q1], by rw [List.map_cons, forL_step, e]; exact q2⟩

end Lw

namespace Lw
open PySem PySem.Spec L2 FB Wk
open PyProof.Rows hiding St
/-! a loop that ends at the first, loads_of -/
theorem not_op (o : Opn) : notNO (.val (opD o)) (.val .non) = some (.val (.bl o.isSome)) := by cases o <;> rfl
theorem loads_of (b : Bd) (h : BOk b) : F_loads_of [.val (bD b)] = some (sO (b.ls.map Ld.nm), [none]) := by
  have b1 := bD_1 b
  have l2 := h.l2
  have q : q1_loads_of (E_loads_of (some (.val (bD b)))) = .ok (sO (b.ls.map Ld.nm)) (E_loads_of (some (.val (bD b)))) := by
    rw [show sO (b.ls.map Ld.nm) = .lst (b.ls.map fun x => O.val (sD x.nm)) from by unfold sO vO; rw [List.map_map, List.map_map]; rfl]
    refine comp_map lD _ (by simp [b1]) (by omega) (by decide) fun x hx => ?_
    have e := lD_0 x
    simp [e]
  unfold F_loads_of
  rw [runF_eq]
  generalize sO (b.ls.map Ld.nm) = S1 at *
  simp [b_loads_of, q]
  rfl

end Lw

namespace Lw
open PySem PySem.Spec L2 FB Wk
open PyProof.Rows hiding St
/-! values by names -/
end Lw

namespace Lw
open PySem PySem.Spec L2 FB Wk
open PyProof.Rows hiding St
/-! the law's own opening -/
theorem nin_of2 {a b : O} {v : Bool} (h : inO a b = some (.val (.bl v))) : ninO a b = some (.val (.bl !v)) := by
  unfold inO at h
  unfold ninO
  cases e : inD a.toD b.toD with
  | none => rw [e] at h; cases h
  | some w => rw [e] at h; cases h; rfl
/-- right names on the way -/
structure WNm (W : List (Gd × Int)) : Prop where
  nd : (W.map fun g => g.1.nm).Nodup
  ok : ∀ g ∈ W, NameOk g.1.nm
end Lw

namespace Lw
open PySem PySem.Spec L2 FB Wk
open PyProof.Rows hiding St
/-! nearest, unparted, parted -/
def nrL (W : List (Gd × Int)) (S : List (List Nat)) : List (List Nat) := match W.find? (fun q => !decide (q.1.nm ∈ S)) with
  | none => []
  | some q => [q.1.nm]
theorem nearest (i : Bool) (W : List (Gd × Int)) (S : List (List Nat)) : F_nearest [.val (wD i W), .val (.lst (S.map sD))] = some (.val (.tup ((nrL W S).map sD)), [none, none]) := by
  have wg := wD_g i W
  have it : (gWD W).items? = some (W.map fun q => gD q.1) := rfl
  have key := forL_first (a := aN 2) (b := b1_nearest) (fun c : Option O => E_nearest (some (.val (wD i W))) (some (.val (.lst (S.map sD)))) c) (fun q : Gd × Int => gD q.1) (fun q => !decide (q.1.nm ∈ S)) (fun q => O.val (.tup [sD q.1.nm])) (xs := W) none (by
    intro q hq c
    have g0 := gD_0 q.1
    have ni := nin_of2 (op_in (t := .lst (S.map sD)) (S := S) (.inl rfl) q.1.nm)
    generalize wD i W = WW at *
    generalize S.map sD = SS at *
    cases e : decide (q.1.nm ∈ S) with
    | true =>
      rw [e] at ni
      refine .inr ⟨rfl, some (.val (gD q.1)), ?_⟩
      generalize gD q.1 = GG at *
      simp [b1_nearest, g0, ni]
    | false =>
      rw [e] at ni
      refine .inl ⟨rfl, E_nearest (some (.val WW)) (some (.val (.lst SS))) (some (.val (gD q.1))), ?_⟩
      generalize gD q.1 = GG at *
      simp [b1_nearest, g0, ni])
  unfold nrL
  unfold F_nearest
  rw [runF_eq]
  generalize wD i W = WW at *
  generalize gWD W = GW at *
  rcases key with ⟨k1, c, lp⟩ | ⟨q, ρ2, k1, lp⟩
  · rw [k1]
    simp [b_nearest, wg, it, lp]
    rfl
  · rw [k1]
    simp [b_nearest, wg, it, lp]
    rfl
def badO (N : List (List Nat)) : Opn → Bool
  | none => false
  | some r => !eqvs (r.2.map sD) (N.map sD)
abbrev Upn := Option (Int × List (List Nat))
def upD : Upn → D
  | none => .non
  | some q => .tup [.int q.1, .tup (q.2.map sD)]
def frR (N : List (List Nat)) (R : List Row) : Upn := (R.find? fun r => badO N r.2.2).map fun r => (r.1, opN r.2.2)
def upW (i : Bool) (W : List (Gd × Int)) (S : List (List Nat)) (most : Int) : Upn := frR (nrL W S) (mapL (opW i W S) (lowL W most) most)
theorem ne_tup {A B : List (List Nat)} : neO (.val (.tup (A.map sD))) (.val (.tup (B.map sD))) = some (.val (.bl (!eqvs (A.map sD) (B.map sD)))) := by
  have h : ∀ L : List (List Nat), D.okE 9 (.tup (L.map sD)) = true := fun L => by
    show D.okE (8 + 1) _ = true
    rw [okE_tup, okE_names]
  rw [e_neO (a := .val (.tup (A.map sD))) (b := .val (.tup (B.map sD))) (h A) (h B)]
  show some (O.val (.bl (!D.eqv (.tup (A.map sD)) (.tup (B.map sD))))) = _
  rw [eqv_tup]
theorem unparted (b : Bd) (h : BOk b) (hq : loudO b = none) {p : List Nat} (hp : p ∈ nms b) (most : Int) {st : D} {S : List (List Nat)} (hs : StT st S) : F_unparted [.val (bD b), .val (sD p), .val (.int most), .val st] = some (.val (upD (upW (offB b p) (wayL b p) S most)), [none, none, none, none]) := by
  obtain ⟨so, se, st2⟩ := stuck_list hs
  have wm := fun (ρ : FB.Env) (m1 m2 : M O) => way_make (ρ := ρ) b h hq hp m1 m2
  have wt := wO_toD (offB b p) (wayL b p)
  have ne := nearest (offB b p) (wayL b p) S
  have ma := map_of b h hq hp most hs
  have mt : (vO ((mapL (opW (offB b p) (wayL b p) S) (lowL (wayL b p) most) most).map rowD)).toD = .lst ((mapL (opW (offB b p) (wayL b p) S) (lowL (wayL b p) most) most).map rowD) := vO_toD _
  unfold upW
  generalize mapL (opW (offB b p) (wayL b p) S) (lowL (wayL b p) most) most = R at *
  generalize nrL (wayL b p) S = N at *
  have key := forL_first (a := aTup (aCons (aN 5) (aCons (aN 6) (aCons (aN 7) (aNil))))) (b := b1_unparted) (fun c : Option O × Option O × Option O => E_unparted (some (.val (bD b))) (some (.val (sD p))) (some (.val (.int most))) (some (.val st)) (some (.val (.tup (N.map sD)))) c.1 c.2.1 c.2.2) rowD (fun r => badO N r.2.2) (fun r => O.val (.tup [.int r.1, .tup ((opN r.2.2).map sD)])) (xs := R) (none, none, none) (by
    rintro ⟨lo, hi, o⟩ hr ⟨c5, c6, c7⟩
    have er : rowD (lo, hi, o) = .tup [.int lo, .int hi, opD o] := rfl
    rw [er]
    have nn := not_op o
    dsimp only
    generalize bD b = BB at *
    cases o with
    | none =>
      refine .inr ⟨rfl, (some (.val (.int lo)), some (.val (.int hi)), some (.val (opD none))), ?_⟩
      generalize opD none = OO at *
      generalize N.map sD = NN at *
      simp [b1_unparted, nn]
    | some r =>
      have i1 : ixO (.val (opD (some r))) (.val (.int 1)) = some (.val (.tup (r.2.map sD))) := rfl
      have nt := ne_tup (A := r.2) (B := N)
      have on : opN (some r) = r.2 := rfl
      rw [on]
      show (badO N (some r) = true ∧ _) ∨ (badO N (some r) = false ∧ _)
      have be : badO N (some r) = !eqvs (r.2.map sD) (N.map sD) := rfl
      rw [be]
      generalize opD (some r) = OO at *
      cases e : (!eqvs (r.2.map sD) (N.map sD)) with
      | true =>
        rw [e] at nt
        refine .inl ⟨rfl, E_unparted (some (.val BB)) (some (.val (sD p))) (some (.val (.int most))) (some (.val st)) (some (.val (.tup (N.map sD)))) (some (.val (.int lo))) (some (.val (.int hi))) (some (.val OO)), ?_⟩
        generalize N.map sD = NN at *
        generalize r.2.map sD = RR at *
        simp [b1_unparted, nn, i1, nt]
      | false =>
        rw [e] at nt
        refine .inr ⟨rfl, (some (.val (.int lo)), some (.val (.int hi)), some (.val OO)), ?_⟩
        generalize N.map sD = NN at *
        generalize r.2.map sD = RR at *
        simp [b1_unparted, nn, i1, nt])
  unfold F_unparted
  rw [runF_eq]
  unfold frR
  generalize wO (offB b p) (wayL b p) = WO at *
  generalize wD (offB b p) (wayL b p) = WD at *
  generalize vO (R.map rowD) = VR at *
  generalize S.map sD = SS at *
  generalize bD b = BB at *
  rcases key with ⟨k1, ⟨c5, c6, c7⟩, lp⟩ | ⟨q, ρ2, k1, lp⟩
  · rw [k1]
    dsimp only at lp
    generalize N.map sD = NN at *
    generalize R.map rowD = RR at *
    simp [-e_mMake, b_unparted, wm, wt, se, st2, ne, ma, mt, lp]
    exact ⟨rfl, rfl⟩
  · rw [k1]
    generalize N.map sD = NN at *
    generalize R.map rowD = RR at *
    simp [-e_mMake, b_unparted, wm, wt, se, st2, ne, ma, mt, lp]
    exact ⟨rfl, rfl⟩
/-- what is told of the board -/
noncomputable def upB (b : Bd) (S : List (List Nat)) (most : Int) (p : List Nat) : Upn := upW (offB b p) (wayL b p) S most
def ptD (p : List Nat) : Upn → D
  | none => .non
  | some q => .tup [sD p, .int q.1, .tup (q.2.map sD)]
noncomputable def prV (b : Bd) (S : List (List Nat)) (most : Int) : D := match (nms b).find? fun p => (upB b S most p).isSome with
  | none => .non
  | some p => ptD p (upB b S most p)
theorem notN_up (z : Upn) : notNO (.val (upD z)) (.val .non) = some (.val (.bl z.isSome)) := by cases z <;> rfl
theorem parted (b : Bd) (h : BOk b) (hq : loudO b = none) (most : Int) {st : D} {S : List (List Nat)} (hs : StT st S) : F_parted [.val (bD b), .val (.int most), .val st] = some (.val (prV b S most), [none, none, none]) := by
  have g2 := h.g2
  have l2 := h.l2
  have n2 := (nm_len b h).2
  have aq := ask_quiet b h hq
  have gu1 := gu b h
  have lo1 := loads_of b h
  have s1 := sO_sh (b.gs.map Gd.nm)
  have s2 := sO_sh (b.ls.map Ld.nm)
  have ad : lift2 addD (sO (b.gs.map Gd.nm)) (sO (b.ls.map Ld.nm)) = some (.val (nmV b)) := by
    unfold lift2
    rw [s1, s2]
    show ((addD (.lst ((b.gs.map Gd.nm).map sD)) (.lst ((b.ls.map Ld.nm).map sD))).map O.val) = _
    rw [addD_lst _ _ (by simp; omega), ← List.map_append]; rfl
  have it : (nmV b).items? = some ((nms b).map sD) := rfl
  have key := forL_first (a := aN 3) (b := b1_parted) (fun c : Option O × Option O => E_parted (some (.val (bD b))) (some (.val (.int most))) (some (.val st)) c.1 c.2) sD (fun p => (upB b S most p).isSome) (fun p => O.val (ptD p (upB b S most p))) (xs := nms b) (none, none) (by
    rintro p hp ⟨c3, c4⟩
    have un := unparted b h hq hp most hs
    have nn := notN_up (upB b S most p)
    have eu : upW (offB b p) (wayL b p) S most = upB b S most p := rfl
    rw [eu] at un
    generalize bD b = BB at *
    cases e : upB b S most p with
    | none =>
      rw [e] at un nn
      refine .inr ⟨rfl, (some (.val (sD p)), some (.val (upD none))), ?_⟩
      generalize upD none = UU at *
      simp [b1_parted, un, nn]
    | some q =>
      rw [e] at un nn
      have i0 : ixO (.val (upD (some q))) (.val (.int 0)) = some (.val (.int q.1)) := rfl
      have i1 : ixO (.val (upD (some q))) (.val (.int 1)) = some (.val (.tup (q.2.map sD))) := rfl
      refine .inl ⟨rfl, E_parted (some (.val BB)) (some (.val (.int most))) (some (.val st)) (some (.val (sD p))) (some (.val (upD (some q)))), ?_⟩
      have ep : ptD p (some q) = .tup [sD p, .int q.1, .tup (q.2.map sD)] := rfl
      rw [ep]
      generalize upD (some q) = UU at *
      generalize q.2.map sD = QQ at *
      simp [b1_parted, un, nn, i0, i1])
  unfold prV
  unfold F_parted
  rw [runF_eq]
  generalize sO (b.gs.map Gd.nm) = G1 at *
  generalize sO (b.ls.map Ld.nm) = G2 at *
  generalize nmV b = NV at *
  generalize bD b = BB at *
  rcases key with ⟨k1, ⟨c3, c4⟩, lp⟩ | ⟨p, ρ2, k1, lp⟩
  · rw [k1]
    dsimp only at lp
    generalize (nms b).map sD = NN at *
    simp [b_parted, aq, gu1, lo1, ad, it, lp]
    rfl
  · rw [k1]
    dsimp only
    generalize ptD p (upB b S most p) = PP at *
    generalize (nms b).map sD = NN at *
    simp [b_parted, aq, gu1, lo1, ad, it, lp]
    rfl

end Lw

namespace Lw
open PySem PySem.Spec L2 FB Wk
open PyProof.Rows hiding St
end Lw

namespace Lw
open PySem PySem.Spec L2 FB Wk
open PyProof.Rows hiding St
/-! rows that lie one behind another, and tell what opens -/
/-- rows from s on up to e, each with what o tells, no two neighbours alike -/
def Til (o : Int → Opn) : Int → List Row → Int → Option Opn → Prop
  | s, [], e, _ => s = e
  | s, r :: R, e, q => r.1 = s ∧ r.1 ≤ r.2.1 ∧ (∀ w, r.1 ≤ w → w ≤ r.2.1 → o w = r.2.2) ∧ (∀ z, q = some z → z ≠ r.2.2) ∧ Til o (r.2.1 + 1) R e (some r.2.2)
theorem Til.last {o : Int → Opn} : ∀ {R : List Row} {s e : Int} {q : Option Opn} {r : Row}, Til o s (R ++ [r]) e q → r.2.1 + 1 = e ∧ r.1 ≤ r.2.1 ∧ (∀ w, r.1 ≤ w → w ≤ r.2.1 → o w = r.2.2)
  | [], s, e, q, r, h => by
    obtain ⟨a, b, c, d, t⟩ := h
    exact ⟨t, b, c⟩
  | x :: R, s, e, q, r, h => by
    obtain ⟨a, b, c, d, t⟩ := h
    exact Til.last t
theorem Til.more {o : Int → Opn} {h2 : Int} : ∀ {R : List Row} {s e : Int} {q : Option Opn} {r : Row}, Til o s (R ++ [r]) e q → r.2.1 ≤ h2 → (∀ w, e ≤ w → w ≤ h2 → o w = r.2.2) → Til o s (R ++ [(r.1, h2, r.2.2)]) (h2 + 1) q
  | [], s, e, q, r, h, k1, k2 => by
    obtain ⟨a, b, c, d, t⟩ := h
    have t : r.2.1 + 1 = e := t
    refine ⟨a, by dsimp only; omega, fun w w1 w2 => ?_, d, rfl⟩
    dsimp only at w1 w2 ⊢
    by_cases hw : w ≤ r.2.1
    · exact c w w1 hw
    · exact k2 w (by omega) w2
  | x :: R, s, e, q, r, h, k1, k2 => by
    obtain ⟨a, b, c, d, t⟩ := h
    exact ⟨a, b, c, d, Til.more t k1 k2⟩
end Lw

namespace Lw
open PySem PySem.Spec L2 FB Wk
open PyProof.Rows hiding St
/-! some names are taken by the feed -/
end Lw

namespace Lw
open PySem PySem.Spec L2 FB Wk
open PyProof.Rows hiding St
/-! Counts -/
@[simp] theorem cv_items (C : List (Int × Int)) : (cv C).items? = some (C.map pD) := (rfl)
@[simp] theorem cv_ix (C : List (Int × Int)) (i : Int) : ixO (.val (cv C)) (.val (.int i)) = (atI (C.map pD) i).map O.val := (rfl)
@[simp] theorem cv_len (C : List (Int × Int)) : lenO (.val (cv C)) = some (.val (.int C.length)) := by unfold cv; simp
@[simp] theorem cv_listO (C : List (Int × Int)) : listO (.val (cv C)) = some (.val (.lst (C.map pD))) := (rfl)
@[simp] theorem pD_ix0 (p : Int × Int) : ixO (.val (pD p)) (.val (.int 0)) = some (.val (.int p.1)) := by unfold pD; simp
def zeros (C : List (Int × Int)) : List Int := C.map fun _ => 0
def stp (draw many : Int) (p : Int × Int) (n : Int) : Int := if p.1 ≤ draw then n + many else if 0 < many then 0 else n
def fuB (C : List (Int × Int)) (N : List Int) (more : Int) : Bool := (List.zip N C).any fun z => decide (z.2.2 + more ≤ z.1)
@[simp] theorem pD_ix1 (p : Int × Int) : ixO (.val (pD p)) (.val (.int 1)) = some (.val (.int p.2)) := by unfold pD; simp
/-! until -/
def lf (more : Int) (z : Int × (Int × Int)) : Int := max 1 (z.2.2 + more - z.1)
def uF (draw more : Int) (f : Option Int) (z : Int × (Int × Int)) : Option Int := if z.2.1 ≤ draw then (match f with | none => some (lf more z) | some a => if lf more z < a then some (lf more z) else some a) else f
def un (C : List (Int × Int)) (N : List Int) (draw more : Int) : Option Int := (List.zip N C).foldl (uF draw more) none
def oI : Option Int → D
  | none => .non
  | some i => .int i
end Lw

namespace Lw
open PySem PySem.Spec L2 FB Wk
open PyProof.Rows hiding St

end Lw

namespace Lw
open PySem PySem.Spec L2 FB Wk
open PyProof.Rows hiding St
/-! the object Run -/
end Lw

namespace Lw
open PySem PySem.Spec L2 FB Wk
open PyProof.Rows hiding St
/-! a run is made: its loops -/
end Lw

namespace Lw
open PySem PySem.Spec L2 FB Wk
open PyProof.Rows hiding St
/-! a run's state, and the object that shows it -/
structure Sr where
  sk : List (List Nat)
  nw : Int
  op : List (List Nat)
  fk : List (List Nat)
  fv : List Nat → Int
  sw : List Nat → Bool
  bg : List Nat → Option Int
  li : List Nat → Bool
  co : List Nat → List Int
  md : List (Int × List (List Nat))
  su : List Nat → Int
  pu : List Nat → Int
  dr : List Nat → List (Int × Int)
section
variable (b : Bd) (s : Sr)
end
/-- what holds of every run -/
structure RK (b : Bd) (s : Sr) : Prop where
  opn : s.op.Nodup
  ops : ∀ g ∈ s.op, g ∈ b.gs.map Gd.nm
  fkn : s.fk.Nodup
  fks : ∀ n ∈ s.fk, n ∈ nms b
  fv0 : ∀ n, n ∉ s.fk → s.fv n = 0
  fvb : ∀ n, numOk (s.fv n)
  col : ∀ g ∈ b.gs, (s.co g.nm).length = g.C.length
  nw0 : 0 ≤ s.nw
/-! the plain answers -/
/-! ages and courses -/
def drL (la : Int) : List (Int × Int) → Int → Int
  | [], _ => la
  | p :: cs, a => if a < p.1 then p.2 else drL la cs (a - p.1)
def lfL : List (Int × Int) → Int → Option Int
  | [], _ => none
  | p :: cs, a => if a < p.1 then some (p.1 - a) else lfL cs (a - p.1)
def drA (x : Ld) : Option Int → Int
  | none => x.la
  | some a => drL x.la x.cs a
def lfA (x : Ld) : Option Int → Option Int
  | none => none
  | some a => lfL x.cs a
def agF (s : Sr) (n : List Nat) : Option Int := (s.bg n).map fun a => s.nw - a
/-- the loads that are dark -/
def dkL (b : Bd) (s : Sr) : List (List Nat) := (b.ls.map Ld.nm).filter fun n => s.sw n && !s.li n
end Lw

namespace Lw
open PySem PySem.Spec L2 FB Wk
open PyProof.Rows hiding St
/-! a run is made -/
def gdO (b : Bd) (n : List Nat) : Option Gd := b.gs.find? fun g => decide (g.nm = n)
def ldO (b : Bd) (n : List Nat) : Option Ld := b.ls.find? fun x => decide (x.nm = n)
def cof (b : Bd) (n : List Nat) : List (Int × Int) := ((gdO b n).map Gd.C).getD []
end Lw

namespace Lw
open PySem PySem.Spec L2 FB Wk
open PyProof.Rows hiding St
/-! what is pulled, and the draws -/
noncomputable def gFed (b : Bd) (s : Sr) : List (List Nat) := (b.gs.map Gd.nm).filter fun n => fedB (ovr b n) s.op
def lLit (b : Bd) (s : Sr) : List (List Nat) := (b.ls.filter fun x => s.li x.nm).map Ld.nm
noncomputable def pkL (b : Bd) (s : Sr) : List (List Nat) := gFed b s ++ lLit b s
def pvF (b : Bd) (s : Sr) (n : List Nat) : Int := match ldO b n with
  | none => s.fv n
  | some x => drA x (agF s n) + s.fv n
/-- each guard's draw -/
noncomputable def dvF (b : Bd) (s : Sr) : List Nat → Int := drw b s.op (pkL b s) (pvF b s)
end Lw

namespace Lw
open PySem PySem.Spec L2 FB Wk
open PyProof.Rows hiding St
/-! wanted -/
/-- whether a guard that is awake stands under this one -/
def hB (b : Bd) (f : List Nat → Int) (n : List Nat) : Bool := (b.gs.filter (awB f)).any fun g => decide (g.un = some n)
/-- what a guard wants beside its step's turns -/
def wVg (b : Bd) (f : List Nat → Int) (g : Gd) : Int := g.dl + if hB b f g.nm = true then g.wt else 0
def wV (b : Bd) (f : List Nat → Int) (n : List Nat) : Int := ((gdO b n).map (wVg b f)).getD 0
def wC (s : Sr) (n : List Nat) : Bool := !decide (n ∈ s.op) && !decide (n ∈ s.sk)
/-- the guards that may open -/
def wkL (b : Bd) (s : Sr) : List (List Nat) := (b.gs.map Gd.nm).filter (wC s)
end Lw

namespace Lw
open PySem PySem.Spec L2 FB Wk
open PyProof.Rows hiding St
/-! the counters at their places -/
/-! stretch -/
def eL1 (s : Sr) (x : Ld) : Option Int := if s.li x.nm = true then lfA x (agF s x.nm) else none
def eL2 (b : Bd) (s : Sr) (f w : List Nat → Int) (n : List Nat) : Option Int := un (cof b n) (s.co n) (f n) (w n)
/-- for how many turns nothing changes -/
def enL (b : Bd) (s : Sr) (most : Int) (f w : List Nat → Int) (ks : List (List Nat)) : List Int := most :: (b.ls.filterMap (eL1 s) ++ ks.filterMap (eL2 b s f w))
end Lw

namespace Lw
open PySem PySem.Spec L2 FB Wk
open PyProof.Rows hiding St
/-! turns pass -/
def puD (s : Sr) (v : List Nat → Int) (many : Int) (done : List (List Nat)) : List Nat → Int := fun n => if n ∈ done then s.pu n + v n * many else s.pu n
/-! the rows of darkness -/
def drN (rows : List (Int × Int)) (nw many : Int) : List (Int × Int) := match rows.getLast? with
  | some p => if p.2 = nw - 1 then rows.dropLast ++ [(p.1, nw + many - 1)] else rows ++ [(nw, nw + many - 1)]
  | none => rows ++ [(nw, nw + many - 1)]
def drDn (s : Sr) (many : Int) (done : List (List Nat)) : List Nat → List (Int × Int) := fun n => if n ∈ done then drN (s.dr n) s.nw many else s.dr n
end Lw

namespace Lw
open PySem PySem.Spec L2 FB Wk
open PyProof.Rows hiding St
/-! turns pass: counts and sums -/
def coD (b : Bd) (s : Sr) (f : List Nat → Int) (many : Int) (done : List (List Nat)) : List Nat → List Int := fun n => if n ∈ done then List.zipWith (stp (f n) many) (cof b n) (s.co n) else s.co n
/-- so many turns of the same draws are over -/
noncomputable def pasS (b : Bd) (s : Sr) (many : Int) (f : List Nat → Int) : Sr :=
  { s with pu := puD s (pvF b s) many (pkL b s), dr := drDn s many (dkL b s), co := coD b s f many (b.gs.map Gd.nm), su := puD { s with pu := s.su } f many (b.gs.map Gd.nm), nw := s.nw + many }
end Lw

namespace Lw
open PySem PySem.Spec L2 FB Wk
open PyProof.Rows hiding St
/-! as guards and loads stand now -/
noncomputable def bnB (b : Bd) (s : Sr) (n : List Nat) : Bool := s.sw n && fedB (ovr b n) s.op
noncomputable def bgD (b : Bd) (s : Sr) (done : List (List Nat)) : List Nat → Option Int := fun n => if n ∈ done then (if (bnB b s n && !s.li n) = true then some s.nw else s.bg n) else s.bg n
noncomputable def liD (b : Bd) (s : Sr) (done : List (List Nat)) : List Nat → Bool := fun n => if n ∈ done then bnB b s n else s.li n
noncomputable def coC (b : Bd) (s : Sr) (done : List (List Nat)) : List Nat → List Int := fun n => if n ∈ done then (if fedB (ovr b n) s.op = true then s.co n else zeros (cof b n)) else s.co n
noncomputable def setS (b : Bd) (s : Sr) : Sr := { s with bg := bgD b s (b.ls.map Ld.nm), li := liD b s (b.ls.map Ld.nm), co := coC b s (b.gs.map Gd.nm) }
end Lw

namespace Lw
open PySem PySem.Spec L2 FB Wk
open PyProof.Rows hiding St
/-! least of a list -/
/-! one stretch of going on -/
noncomputable def wS (b : Bd) (s : Sr) : List Nat → Int := wV b (dvF b s)
noncomputable def nmS (b : Bd) (s p : Sr) : List (List Nat) := (wkL b s).filter fun n => fuB (cof b n) (p.co n) (wS b s n)
noncomputable def opG (b : Bd) (s p : Sr) : Sr := if nmS b s p = [] then p else setS b { p with md := p.md ++ [(p.nw - 1, nmS b s p)], op := p.op ++ nmS b s p }
/-! bounds -/
/-! the walk of one stretch -/
end Lw

namespace Lw
open PySem PySem.Spec L2 FB Wk
open PyProof.Rows hiding St
/-! going on: the loop -/
end Lw

namespace Lw
open PySem PySem.Spec L2 FB Wk
open PyProof.Rows hiding St
/-! a stretch is so many single turns -/
/-! the counts behind so many turns -/
/-! one turn -/
noncomputable def oneS (b : Bd) (s : Sr) : Sr := opG b s (pasS b s 1 (dvF b s))
noncomputable def itr (b : Bd) : Nat → Sr → Sr
  | 0, s => s
  | n + 1, s => itr b n (oneS b s)
/-- nothing changes for less than so many turns -/
def Stay (b : Bd) (s : Sr) (m : Int) : Prop := (∀ x ∈ b.ls, s.li x.nm = true → ∀ v, lfA x (agF s x.nm) = some v → m ≤ v) ∧ ∀ n ∈ wkL b s, ∀ u, eL2 b s (dvF b s) (wS b s) n = some u → m ≤ u
/-! how many stretches -/
/-- the loads that burn are those that are on and fed -/
def LI (b : Bd) (s : Sr) : Prop := ∀ x ∈ b.ls, s.li x.nm = bnB b s x.nm
/-- going on to a turn is so many single turns -/
noncomputable def gon (b : Bd) (s : Sr) (turn : Int) : Sr := itr b (turn - s.nw).toNat s

end Lw

namespace Lw
open PySem PySem.Spec L2 FB Wk
open PyProof.Rows hiding St
/-! going on, as told by single turns -/
def CapS (s : Sr) (k : Nat) : Prop := (∀ l, (s.dr l).length ≤ k) ∧ s.md.length ≤ k
structure Gon (b : Bd) (s : Sr) (turn : Int) (k : Nat) : Prop where
  rk : RK b (gon b s turn)
  li : LI b (gon b s turn)
  nw : (gon b s turn).nw = turn
  cap : CapS (gon b s turn) (k + 113)
end Lw

namespace Lw
open PySem PySem.Spec L2 FB Wk
open PyProof.Rows hiding St
/-! a run that rests -/
end Lw

namespace Lw
open PySem PySem.Spec L2 FB Wk
open PyProof.Rows hiding St
/-! a fault that comes at rest -/
/-- all is so until the first who wants least -/
structure Least (b : Bd) (s : Sr) (m : Int) : Prop where
  low : ∀ n ∈ wkL b s, ∀ u, eL2 b s (dvF b s) (wS b s) n = some u → m ≤ u
  ex : ∃ n ∈ wkL b s, eL2 b s (dvF b s) (wS b s) n = some m
  pos : 1 ≤ m
end Lw

namespace Lw
open PySem PySem.Spec L2 FB Wk
open PyProof.Rows hiding St
/-! deeds -/
inductive Dd where
  | fault (p : List Nat) (x : Int)
  | swi (l : List Nat) (o : Bool)
  | opn (g : List Nat)
  | cls (g : List Nat)
theorem seq (a b : Str) : eqO (.val (.str a)) (.val (.str b)) = some (.val (.bl (decide (a = b)))) := eqO_str a b
theorem seqT (a : Str) : eqO (.val (.str a)) (.val (.str a)) = some (.val (.bl true)) := by rw [eqO_str]; simp
end Lw

namespace Lw
open PySem PySem.Spec L2 FB Wk
open PyProof.Rows hiding St
/-! a fault at rest opens what the way's opening tells -/
end Lw

namespace Lw
open PySem PySem.Spec L2 FB Wk
open PyProof.Rows hiding St
end Lw

namespace Lw
open PySem PySem.Spec L2 FB Wk
open PyProof.Rows hiding St
/-! chains: what is over a guard that is over a place is over the place -/
end Lw

namespace Lw
open PySem PySem.Spec L2 FB Wk
open PyProof.Rows hiding St
/-! the walker: its state, shown by a run's -/
section
variable (b : Bd) (u : Bool) (s : Sr)
end
/-! is_fed -/
/-! settled -/
/-! did -/
end Lw

namespace Lw
open PySem PySem.Spec L2 FB Wk
open PyProof.Rows hiding St
/-! the walker: what is drawn -/
abbrev PW := List Nat × Int
end Lw

namespace Lw
open PySem PySem.Spec L2 FB Wk
open PyProof.Rows hiding St
/-! the walker: a turn -/
end Lw

namespace Lw
open PySem PySem.Spec L2 FB Wk
open PyProof.Rows hiding St
/-! the walker: turns -/
end Lw

namespace Lw
open PySem PySem.Spec L2 FB Wk
open PyProof.Rows hiding St
/-! events of one fault at turn 0 -/
end Lw

namespace Lw
open PySem PySem.Spec L2 FB Wk
open PyProof.Rows hiding St
/-! the walker: it begins -/
/-! what a fault at rest opens first, walked -/
end Lw

namespace Lw
open PySem PySem.Spec L2 FB Wk
open PyProof.Rows hiding St
/-! a board with other delays -/
section
variable {d : List Nat → Int}
end

end Lw

namespace Lw
open PySem PySem.Spec L2 FB Wk
open PyProof.Rows hiding St
/-! the walker: what opens first within so many turns -/
/-- the names that open within so many turns -/
noncomputable def noN (b : Bd) (S : List (List Nat)) (p : List Nat) (x : Int) (n : Int) : List (List Nat) := match opW (offB b p) (wayL b p) S x with
  | none => []
  | some r => if 0 ≤ r.1 ∧ r.1 < n then r.2 else []
end Lw

namespace Lw
open PySem PySem.Spec L2 FB Wk
open PyProof.Rows hiding St
/-! k95 -/
noncomputable def asB (b : Bd) (S : List (List Nat)) (p : List Nat) (x : Int) : Bool := decide (noN b S p x 52 = [] ∨ noN b S p x 52 = nrL (wayL b p) S)
end Lw

namespace Lw
open PySem PySem.Spec L2 FB Wk
open PyProof.Rows hiding St
/-! spread -/
/-! shown -/
end Lw

namespace Lw
open PySem PySem.Spec L2 FB Wk
open PyProof.Rows hiding St
end Lw

open PySem PySem.W PySem.Calls PyProof.Rows in
set_option maxRecDepth 100000 in
set_option maxHeartbeats 0 in
theorem PySem.Challenge.cw_fuseboard_k95_whole_parted_or_shown_holds : PySem.Challenge.rw_fuseboard_k95_whole_parted_or_shown.Holds := by
  w_on; o_law
  refine HandSHeadRun.head_any (r := OpenLaw.row PySem.Challenge.rw_fuseboard_k95_whole_parted_or_shown) (q := view (OpenLaw.row PySem.Challenge.rw_fuseboard_k95_whole_parted_or_shown).prog [57]) (H := Wk.hk) (ob := Wk.ob) (M := 12000) (loose := Wk.loose) (d := HandSHeadRun.topDef (OpenLaw.row PySem.Challenge.rw_fuseboard_k95_whole_parted_or_shown).prog 57) (kwd := []) Wk.ob_eq
    (by kernel_rfl) (fun s => by kernel_rfl) Wk.run (by kernel_rfl) (by kernel_rfl) (by kernel_rfl) (by rfl) (by first | assumption | decide +kernel) (by decide +kernel) ⟨rfl, rfl, rfl, rfl, rfl, by decide +kernel⟩ ?hw ?hc
  case hw => w_witness2
  case hc =>
    refine L2.walk_ofE (l := PySem.Challenge.rw_fuseboard_k95_whole_parted_or_shown) (n := 63) (k := 12) (x := "_law_script") (CX := C8.CX0) rfl (by decide) (by kernel_rfl) ⟨rfl, by decide, by decide⟩ ?F (fun _ _ _ _ z => z)
    intro w mg fa h Y G hmg0
    obtain ⟨K, KX, c⟩ := Y
    have hmg : mg ("law" : PySem.Str) = some (.ref fa) := by
      have e : (HandSHeadRun.topDef (OpenLaw.row PySem.Challenge.rw_fuseboard_k95_whole_parted_or_shown).prog 57).name = ("law" : PySem.Str) := by kernel_rfl
      rw [← e]
      exact hmg0
    obtain ⟨fd, hb, hF⟩ := Wk.facts (P := (PySem.Challenge.rw_fuseboard_k95_whole_parted_or_shown).prog) (w := w) KX G hmg c
    exact ⟨K, fd, _, KX, hb, fun H a ns hl _ hS => FB.law_end (Lw.law_true ns hl) hS, hF⟩
#print axioms PySem.Challenge.cw_fuseboard_k95_whole_parted_or_shown_holds


