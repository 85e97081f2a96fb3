import PyProof.Rows.All
import Wide.All
import OpenK.AllK
import Wide.FinOn
import HandS.ForMost
import HandS.Wide
import HandS.TupAny
import HandS.Deep
import HandS.IsInst
import HandS.SortInts
import HandS.Sort
import KE.KSortedM
import HandS.Zip
import HandS.Rev
import HandS.Codes
import KE.KStateDown
import HandS.Head0
import HandS.Head1
import HandS.Head2
import HandS.HeadEnd
import HandS.HeadHook1
import HandS.HeadHook2
import HandS.Dict
import HandS.Text
import HandS.NoneIn
import HandS.ExcOwn
import HandS.ExcIs
import HandS.ExcField
import HandS.TryMany
import PyProof.EqKinds
import HandS.Iter
import HandS.TupMul
import PyProof.EnumMake
import PyProof.Draws
import HandS.ExcInit
import HandS.ClsMeth
import HandS.TupLe
import HandS.Style
import HandS.DictComp
import KE.DataMinMax
import PyProof.ReprRoads
import PyProof.ReprText
import PyProof.ReprLen
import PyProof.CallFns
import HandS.TryOnly
import HandS.Defaults
import KE.KEqNest
import HandS.Finally
import KE.KExcIs
import HandS.CallSlots
import HandS.FStr
import HandS.SortKw
import KE.SortData
import PyProof.ReprDict
import PySem.Challenge.RW_fuseboard_k51_boards_with_delays
set_option Elab.async false
set_option linter.all false
set_option maxRecDepth 100000
set_option maxHeartbeats 0
namespace FB
open PySem PySem.Spec L2
open PyProof.Rows hiding St

inductive D where
  | non
  | bl (b : Bool)
  | int (i : Int)
  | str (s : Str)
  | tup (ds : List D)
  | lst (ds : List D)
  | dct (ks : List Key) (ds : List D)
  | ins (c : Str) (ns : List Str) (ds : List D)
  /-- the script: a list of ints that is read alone -/
  | scr (ns : List Int)
  /-- a def of the file -/
  | fn (x : Str)
  deriving Inhabited

inductive O where
  | val (d : D)
  | lst (os : List O)
  | dct (ks : List Key) (os : List O)
  | ins (c : Str) (ns : List Str) (os : List O)
  deriving Inhabited

mutual
inductive Vw (K : PySem.W.Frag) (mg : Str → Option Value) (G : Hp) : V → D → Prop
  | non : Vw K mg G .non .non
  | bl (b : Bool) : Vw K mg G (.bl b) (.bl b)
  | int (i : Int) : Vw K mg G (.int i) (.int i)
  | str (s : Str) : PyData.strOk s = true → Vw K mg G (.str s) (.str s)
  | tup {a : Addr} {xs : List V} {ds : List D} : SqT K G a xs → Vws K mg G xs ds → Vw K mg G (.ref a) (.tup ds)
  | lst {a : Addr} {xs : List V} {ds : List D} : Rd G a (.lst xs) → Vws K mg G xs ds → Vw K mg G (.ref a) (.lst ds)
  | scr {a : Addr} {ns : List Int} : SqL K G a (ns.map V.int) → Vw K mg G (.ref a) (.scr ns)
  | fn {a : Addr} {x : Str} : mg x = some (.ref a) → Vw K mg G (.ref a) (.fn x)
  | dct {a : Addr} {kvs : List (Key × V)} {ks : List Key} {ds : List D} : Rd G a (.dK kvs) → kvs.map (·.1) = ks ∧ ks.Nodup → Vws K mg G (kvs.map (·.2)) ds → Vw K mg G (.ref a) (.dct ks ds)
  | ins {a C dx : Addr} {fs : List (Str × V)} {c : Str} {ns : List Str} {ds : List D} : G a = some (.ins C dx fs) → mg c = some (.ref C) → fs.map (·.1) = ns → Vws K mg G (fs.map (·.2)) ds → Vw K mg G (.ref a) (.ins c ns ds)
inductive Vws (K : PySem.W.Frag) (mg : Str → Option Value) (G : Hp) : List V → List D → Prop
  | nil : Vws K mg G [] []
  | cons {v : V} {vs : List V} {d : D} {ds : List D} : Vw K mg G v d → Vws K mg G vs ds → Vws K mg G (v :: vs) (d :: ds)
end

section
variable {K : PySem.W.Frag} {mg : Str → Option Value}
mutual
inductive VO (K : PySem.W.Frag) (mg : Str → Option Value) (G H : Hp) : V → O → List Addr → Prop
  | val {v : V} {d : D} : Vw K mg G v d → VO K mg G H v (.val d) []
  | lst {p : Addr} {vs : List V} {os : List O} {as : List Addr} : H p = some (.lst vs) → VOs K mg G H vs os as → VO K mg G H (.ref p) (.lst os) (p :: as)
  | dct {p : Addr} {kvs : List (Key × V)} {ks : List Key} {os : List O} {as : List Addr} : H p = some (.dK kvs) → kvs.map (·.1) = ks ∧ ks.Nodup → VOs K mg G H (kvs.map (·.2)) os as → VO K mg G H (.ref p) (.dct ks os) (p :: as)
  | ins {p C dx : Addr} {fs : List (Str × V)} {c : Str} {ns : List Str} {os : List O} {as : List Addr} : H p = some (.ins C dx fs) → mg c = some (.ref C) → fs.map (·.1) = ns → VOs K mg G H (fs.map (·.2)) os as → VO K mg G H (.ref p) (.ins c ns os) (p :: as)
inductive VOs (K : PySem.W.Frag) (mg : Str → Option Value) (G H : Hp) : List V → List O → List Addr → Prop
  | nil : VOs K mg G H [] [] []
  | cons {v : V} {vs : List V} {o : O} {os : List O} {as bs : List Addr} : VO K mg G H v o as → VOs K mg G H vs os bs → VOs K mg G H (v :: vs) (o :: os) (as ++ bs)
end
inductive Item where
  | ov (v : V) (o : O)
  | raw (p : Addr) (h : HO)
  /-- a shared thing that is locked -/
  | pin (p : Addr) (od : Obj) (u : HO)
  /-- an item that knows nothing of what stands at d -/
  | but (d : Addr) (x : Item)
def ers (d : Addr) (G : Hp) : Hp := fun a => if a = d then none else G a
def hide (H : Hp) (A : List Addr) : Hp := fun a => if a ∈ A then none else H a
inductive IOk (K : PySem.W.Frag) (mg : Str → Option Value) : Hp → Hp → Item → List Addr → Prop
  | ov {G H : Hp} {v : V} {o : O} {as : List Addr} : VO K mg G H v o as → IOk K mg G H (.ov v o) as
  | raw {G H : Hp} {p : Addr} {h : HO} : H p = some h → IOk K mg G H (.raw p h) [p]
  | pin {G H : Hp} {p : Addr} {od : Obj} {u : HO} : G p = some (.frz od u) → IOk K mg G H (.pin p od u) []
  | but {G H : Hp} {d : Addr} {x : Item} {as : List Addr} : IOk K mg (ers d G) H x as → IOk K mg G H (.but d x) as
inductive IsOk (K : PySem.W.Frag) (mg : Str → Option Value) (G H : Hp) : List Item → List Addr → Prop
  | nil : IsOk K mg G H [] []
  | cons {x : Item} {L : List Item} {as bs : List Addr} : IOk K mg G H x as → IsOk K mg G H L bs → IsOk K mg G H (x :: L) (as ++ bs)
/-- the heap holds the items apart; B: what is borrowed from them, for the time being -/
def Rep (K : PySem.W.Frag) (mg : Str → Option Value) (H : Hp) (L : List Item) (B : List (V × O)) : Prop :=
  ∃ A : List Addr, A.Nodup ∧ IsOk K mg (hide H A) H L A ∧ ∀ b ∈ B, ∃ as, VO K mg (hide H A) H b.1 b.2 as ∧ ∀ a ∈ as, a ∈ A
def zipI (vs : List V) (os : List O) : List Item := List.zipWith Item.ov vs os
end
end FB

namespace FB
open PySem PySem.Spec L2
open PyProof.Rows hiding St

abbrev Env := List (Option O)
structure Exn where
  c : Str
  ns : List Str
  ds : List D
inductive Res (α : Type) where
  | ok (a : α) (ρ : Env)
  | exc (x : Exn) (ρ : Env)
  | no
abbrev M (α : Type) := Env → Res α
def pairs : St → Env → List Item
  | some v :: σ, some o :: ρ => .ov v o :: pairs σ ρ
  | _ :: σ, _ :: ρ => pairs σ ρ
  | _, _ => []
structure Cov (σ : St) (ρ : Env) : Prop where
  len : σ.length = ρ.length
  ex : ∀ (i : Nat) (o : O), ρ[i]? = some (some o) → ∃ v, σ[i]? = some (some v)
section
end
section
end

section
end

section
end
end FB

namespace FB
open PySem PySem.Spec L2
open PyProof.Rows hiding St

section
end

section
inductive Arg where
  | v (m : M O)
  | io (i : Nat)
end
end FB

namespace FB
open PySem PySem.Spec L2
open PyProof.Rows hiding St

section
variable {X : Cx} {K : PySem.W.Frag} {mg : Str → Option Value}
/-- an own class under its name, with the attributes that its instances may have -/
structure CO (K : PySem.W.Frag) (mg : Str → Option Value) (c : Str) (C : Addr) (fs : List Str) : Prop where
  mgc : mg c = some (.ref C)
  cl : Cls K C
  no : ∀ f ∈ fs, NoAttr K C f
end
end FB

namespace FB
open PySem PySem.Spec L2
open PyProof.Rows hiding St

section
/-- the items of an exception that is held -/
def ExI (x : Exn) (d : Option Addr) (I : List Item) : Prop := (x.ds = [] ∧ d = none ∧ I = []) ∨ ∃ dd vs, x.ds ≠ [] ∧ d = some dd ∧ vs.length = x.ds.length ∧ x.ns.length = x.ds.length ∧ I = .raw dd (.xd (x.ns.zip vs)) :: zipI vs (x.ds.map O.val)
end

section
variable {P : Program} {w : World} {K : PySem.W.Frag} {mg : Str → Option Value} {base : Heap}
/-- a def that may be called by its name -/
structure CalX (P : Program) (w : World) (K : PySem.W.Frag) (mg : Str → Option Value) (base : Heap) (k : Nat) (x : Str) (sp : Sp) : Prop where
  ex : ∃ (f : Addr) (fd : FuncData) (ps : List Str), FnOk P w K mg base (L2.CX P w) k f fd ps sp ∧ mg x = some (.ref f) ∧ PySem.W.keepIn K (.ref f) = true ∧ Binds K fd ps []
end
section
end
end FB

namespace FB
open PySem PySem.Spec L2
open PyProof.Rows hiding St

section
variable {X : Cx} {K : PySem.W.Frag} {mg : Str → Option Value} {P : List Nat} {W : WX}
variable {a : Addr} {i : Nat} {I : List Item}
variable {x : Exn} {cls : Value} {d : Option Addr} {oe : Obj} {pn : List (Addr × Obj)} {es : List Str}
/-- what a suite knows of the exception -/
structure Held (X : Cx) (es : List Str) (x : Exn) (I : List Item) (cls : Value) (d : Option Addr) (oe : Obj) : Prop where
  cl : X.mg x.c = some cls
  it : ExI x d I
  z : Zc cls d oe
  f : ∃ vs, oe.data = .fields vs
end

section
end

section
end
end FB

namespace FB
open PySem PySem.Spec L2
open PyProof.Rows hiding St

/-- the base whose __init__ is called -/
structure BaseC (K : PySem.W.Frag) (mg : Str → Option Value) (B : Str) : Prop where
  mg : mg B = some (.ref (He.ga K B))
  rd : PySem.W.readsIn K (He.ga K B) (.type "type") = true
  ga : PySem.W.specialIn K (.ref (He.ga K B)) "__getattribute__" = some (some (.builtin "type.__getattribute__"))
  at_ : PySem.W.findCls K (.ref (He.ga K B)) (.type "type") "__init__" = some (.val (.builtin "ValueError.__init__"))
structure OwnInit (K : PySem.W.Frag) (mg : Str → Option Value) (c : Str) (fs : List Str) : Prop where
  mg : mg c = some (.ref (He.ga K c))
  ox : OexC K (He.ga K c)
  ic : PySem.W.findIn K (.ref (He.ga K c)) "__init__" = some (some (.ref (He.ma K (He.ga K c) "__init__")))
  ti : PySem.W.typeIn K (.ref (He.ma K (He.ga K c) "__init__")) = some (.type "function")
  no : ∀ f ∈ fs, PySem.W.findIn K (.ref (He.ga K c)) f = some none
section
/-- what an own __init__ of these fields does -/
def spI (C : Addr) (fs : List Str) : Sp := fun vs H Q _ => ∃ a ws, vs = .ref a :: ws ∧ ws.length = fs.length ∧ H a = some (exo a C none) ∧
  ∀ d H2, H d = none → d ≠ a → H2 a = some (exo a C (some d)) → H2 d = some (exd d (fs.zip ws).reverse) → (∀ b, b ≠ a → b ≠ d → H2 b = H b) → Q .non H2
end
section
variable {P : Program} {w : World} {K : PySem.W.Frag} {mg : Str → Option Value} {base : Heap}
/-- an own error with fields that may be raised -/
structure MkX (P : Program) (w : World) (K : PySem.W.Frag) (mg : Str → Option Value) (base : Heap) (c : Str) (fs : List Str) : Prop where
  ow : OwnInit K mg c fs
  ex : ∃ (fd : FuncData) (ps : List Str), FnOk P w K mg base C8.CX0 1 (He.ma K (He.ga K c) "__init__") fd ps (spI (He.ga K c) fs) ∧ Binds K fd ps []
end
section
end
section
end
end FB

namespace FB
open PySem PySem.Spec L2
open PyProof.Rows hiding St
section
/-- the dict at d stands, locked or not -/
structure LkS (d : Addr) (kvs : List (Key × V)) (G G' : Hp) : Prop where
  ne : ∀ a, a ≠ d → G' a = G a
  rd : Rd G d (.dK kvs)
  rd' : Rd G' d (.dK kvs)
end
end FB

namespace FB
open PySem PySem.Spec L2
open PyProof.Rows hiding St
inductive All2 {α β : Type} (P : α → β → Prop) : List α → List β → Prop
  | nil : All2 P [] []
  | cons {x : α} {y : β} {xs : List α} {ys : List β} : P x y → All2 P xs ys → All2 P (x :: xs) (y :: ys)
end FB

namespace FB
open PySem PySem.Spec L2
open PyProof.Rows hiding St
def Okc (x : Str) : Prop := ∀ c ∈ x.cps.toList, c < 1114112
section
end
end FB

namespace FB
open PySem PySem.Spec L2
open PyProof.Rows hiding St
section
variable {P : Program} {w : World} {K : PySem.W.Frag} {mg : Str → Option Value} {base : Heap}
/-- a class that may be made, its __init__ may raise -/
structure MakX (P : Program) (w : World) (K : PySem.W.Frag) (mg : Str → Option Value) (base : Heap) (k : Nat) (x : Str) (C : Addr) (sp : Sp) : Prop where
  ex : ∃ (f : Addr) (fd : FuncData) (ps : List Str), Mk K C f ∧ FnOk P w K mg base (L2.CX P w) k f fd ps sp ∧ mg x = some (.ref C) ∧ Binds K fd ps []
/-- .. a def with defaults -/
structure CalXN (P : Program) (w : World) (K : PySem.W.Frag) (mg : Str → Option Value) (base : Heap) (k : Nat) (x : Str) (sp : Sp) (dvs : List V) : Prop where
  ex : ∃ (f : Addr) (fd : FuncData) (ps : List Str) (ds : List Value), FnOk P w K mg base (L2.CX P w) k f fd ps sp ∧ mg x = some (.ref f) ∧ PySem.W.keepIn K (.ref f) = true ∧ Binds K fd ps ds ∧ Vals dvs ds
end
section
end
end FB

namespace FB
open PySem PySem.Spec L2
open PyProof.Rows hiding St
section
variable {P : Program} {w : World} {K : PySem.W.Frag} {mg : Str → Option Value} {base : Heap}
/-- a method that may raise -/
structure MetX (P : Program) (w : World) (K : PySem.W.Frag) (mg : Str → Option Value) (base : Heap) (k : Nat) (C : Addr) (m : Str) (sp : Sp) : Prop where
  ex : ∃ (f : Addr) (fd : FuncData) (ps : List Str), Cls K C ∧ Meth K C m f ∧ FnOk P w K mg base (L2.CX P w) k f fd ps sp ∧ Binds K fd ps []
end
section
end
end FB
namespace FB
open PySem PySem.Spec L2
open PyProof.Rows hiding St
section
end
end FB

namespace FB
open PySem PySem.Spec L2
open PyProof.Rows hiding St
section
variable {X : Cx} {K : PySem.W.Frag} {mg : Str → Option Value}
/-- a step down an own tree -/
inductive Stp where
  | fld (c f : Str)
  | key (k : Key)
inductive PathV (mg : Str → Option Value) (H : Hp) : V → List Stp → V → Prop
  | nil {v : V} : PathV mg H v [] v
  | fld {p C dx : Addr} {fs : List (Str × V)} {c f : Str} {u w : V} {ps : List Stp} : mg c = some (.ref C) → H p = some (.ins C dx fs) → fs.lookup f = some u → PathV mg H u ps w → PathV mg H (.ref p) (.fld c f :: ps) w
  | key {p : Addr} {kvs : List (Key × V)} {k : Key} {u w : V} {ps : List Stp} : H p = some (.dK kvs) → valV kvs k = some u → PathV mg H u ps w → PathV mg H (.ref p) (.key k :: ps) w
end
section
end
end FB

namespace FB
open PySem PySem.Spec L2
open PyProof.Rows hiding St
section
variable {X : Cx} {K : PySem.W.Frag} {mg : Str → Option Value}
def tKvs (K : PySem.W.Frag) (mg : Str → Option Value) (ks : List Str) (m : M (List O)) : L2.St → Hp → (List (V × V) → Hp → Prop) → Prop := fun σ H Q => ∃ ρ T os ρ', Cov σ ρ ∧ Rep K mg H (pairs σ ρ ++ T) [] ∧ m ρ = .ok os ρ' ∧ os.length = ks.length ∧ ∀ vs H', Cov σ ρ' → vs.length = os.length → Rep K mg H' (zipI vs os ++ (pairs σ ρ' ++ T)) [] → Q ((ks.map V.str).zip vs) H'
structure SDs (X : Cx) (pos : Pos) (keys : List (Option Expr)) (values : List Expr) (ks : List Str) (m : M (List O)) : Prop where
  tr : ∃ trs, PPs X pos keys values trs ∧ ∀ (σ : L2.St) (H : Hp) (Q : List (V × V) → Hp → Prop), tKvs X.K X.mg ks m σ H Q → tPairs trs σ H Q
  all : keys.all (·.isSome) = true
  len : keys.length = values.length
end
end FB

namespace FB
open PySem PySem.Spec L2
open PyProof.Rows hiding St
section
variable {P : Program} {w : World} {K : PySem.W.Frag} {mg : Str → Option Value} {base : Heap}
/-- what a def does where no text is being made -/
structure FnG (P : Program) (w : World) (K : PySem.W.Frag) (mg : Str → Option Value) (base : Heap) (k : Nat) (f : Addr) (fd : FuncData) (ps : List Str) (sp : Sp) : Prop where
  len : ∀ vs H Q E, sp vs H Q E → vs.length = ps.length
  run : ∀ (A : Around) (outer : List PySem.Env) (s : Shared) (H : Hp) (args : Args) (us : List Value) (vs : List V) (Q : VK) (E : XK), Room k A → A.guards = some [] → Env0 P w K mg base A outer s H → BindsTo s fd args (ps.zip us) → Vals vs us → sp vs H Q E →
    codeAny (model P w) A (.call (.ref f) args) (CR C8.CX0 outer P w H s Q E) s
structure CalG (P : Program) (w : World) (K : PySem.W.Frag) (mg : Str → Option Value) (base : Heap) (k : Nat) (x : Str) (sp : Sp) : Prop where
  ex : ∃ (f : Addr) (fd : FuncData) (ps : List Str), FnG P w K mg base k f fd ps sp ∧ mg x = some (.ref f) ∧ PySem.W.keepIn K (.ref f) = true ∧ Binds K fd ps []
end
section
end
end FB

namespace FB
open PySem PySem.Spec L2
open PyProof.Rows hiding St
section
/-- what is read of a value -/
structure RdN (h : Heap) (u : Value) (d : PyData) (n : Nat) (as : List Addr) : Prop where
  rd : Reads h u d as
  sm : sysModules ∉ as
  dp : d.depth ≤ n
  ok : Okc d.shown
structure RdNs (h : Heap) (us : List Value) (ds : List PyData) (n : Nat) (as : List Addr) : Prop where
  rd : ReadsAll h us ds as
  sm : sysModules ∉ as
  dp : PyData.depthAll ds ≤ n
  ok : ∀ d ∈ ds, Okc d.shown
end
end FB

namespace Wk
open PySem PySem.Spec L2 FB
open PyProof.Rows hiding St
def top (i : Nat) : Stmt := PySem.Challenge.pw_fuseboard_k51_boards_with_delays.main.body.getD i (.Pass ⟨0, 0, 0, 0⟩)
abbrev s_guards_of : Stmt := top 10
abbrev s_chain : Stmt := top 11
abbrev s_over : Stmt := top 12
abbrev s_draws : Stmt := top 14
abbrev s_rest : Stmt := top 15
abbrev s_least_of : Stmt := top 2
abbrev s_awake : Stmt := top 16
abbrev s_loud : Stmt := top 17
abbrev s_ask_quiet : Stmt := top 19
abbrev s_is_off : Stmt := top 20
abbrev s_Way___init__ : Stmt := (C8.clsBody (top 21)).getD 0 (.Pass ⟨0, 0, 0, 0⟩)
abbrev s_met : Stmt := top 3
abbrev s_turns_at : Stmt := top 4
abbrev s_Way_turns : Stmt := (C8.clsBody (top 21)).getD 2 (.Pass ⟨0, 0, 0, 0⟩)
abbrev s_Way_is_held : Stmt := (C8.clsBody (top 21)).getD 3 (.Pass ⟨0, 0, 0, 0⟩)
abbrev s_Way_opening : Stmt := (C8.clsBody (top 21)).getD 4 (.Pass ⟨0, 0, 0, 0⟩)
abbrev s_stuck_list : Stmt := top 22
abbrev s_opening_of : Stmt := top 23
abbrev s_with_delays : Stmt := top 25
abbrev s__law_cell_at : Stmt := top 27
abbrev s__law_feed : Stmt := top 28
abbrev s__law_take : Stmt := top 29
abbrev s__law_overs : Stmt := top 31
abbrev s__law_rest : Stmt := top 34
abbrev s__law_path : Stmt := top 38
abbrev s__law_opening : Stmt := top 39
abbrev s__law_loud : Stmt := top 41
abbrev s__law_places : Stmt := top 42
abbrev s__law_names : Stmt := top 30
abbrev s__law_lifted : Stmt := top 33
abbrev s__law_small_curve : Stmt := top 32
abbrev s__law_small_guards : Stmt := top 35
abbrev s__law_small_loads : Stmt := top 36
abbrev s__law_small_board : Stmt := top 37
abbrev s__law_sized : Stmt := top 43
abbrev s__law_most : Stmt := top 44
abbrev s_law : Stmt := top 45
section
end
def d_guards_of : He.DefD := ⟨("guards_of", none), "guards_of", "guards_of", C8.fnArgs s_guards_of, C8.fnBody s_guards_of, C8.fnScope s_guards_of, [], []⟩
def d_chain : He.DefD := ⟨("chain", none), "chain", "chain", C8.fnArgs s_chain, C8.fnBody s_chain, C8.fnScope s_chain, [], []⟩
def d_over : He.DefD := ⟨("over", none), "over", "over", C8.fnArgs s_over, C8.fnBody s_over, C8.fnScope s_over, [], []⟩
def d_draws : He.DefD := ⟨("draws", none), "draws", "draws", C8.fnArgs s_draws, C8.fnBody s_draws, C8.fnScope s_draws, [], []⟩
def d_rest : He.DefD := ⟨("rest", none), "rest", "rest", C8.fnArgs s_rest, C8.fnBody s_rest, C8.fnScope s_rest, [], []⟩
def d_least_of : He.DefD := ⟨("least_of", none), "least_of", "least_of", C8.fnArgs s_least_of, C8.fnBody s_least_of, C8.fnScope s_least_of, [], []⟩
def d_awake : He.DefD := ⟨("awake", none), "awake", "awake", C8.fnArgs s_awake, C8.fnBody s_awake, C8.fnScope s_awake, [], []⟩
def d_loud : He.DefD := ⟨("loud", none), "loud", "loud", C8.fnArgs s_loud, C8.fnBody s_loud, C8.fnScope s_loud, [], []⟩
def d_ask_quiet : He.DefD := ⟨("ask_quiet", none), "ask_quiet", "ask_quiet", C8.fnArgs s_ask_quiet, C8.fnBody s_ask_quiet, C8.fnScope s_ask_quiet, [], []⟩
def d_is_off : He.DefD := ⟨("is_off", none), "is_off", "is_off", C8.fnArgs s_is_off, C8.fnBody s_is_off, C8.fnScope s_is_off, [], []⟩
def d_Way___init__ : He.DefD := ⟨("Way", some "__init__"), "__init__", "Way.__init__", C8.fnArgs s_Way___init__, C8.fnBody s_Way___init__, C8.fnScope s_Way___init__, [], []⟩
def d_met : He.DefD := ⟨("met", none), "met", "met", C8.fnArgs s_met, C8.fnBody s_met, C8.fnScope s_met, [], []⟩
def d_turns_at : He.DefD := ⟨("turns_at", none), "turns_at", "turns_at", C8.fnArgs s_turns_at, C8.fnBody s_turns_at, C8.fnScope s_turns_at, [], []⟩
def d_Way_turns : He.DefD := ⟨("Way", some "turns"), "turns", "Way.turns", C8.fnArgs s_Way_turns, C8.fnBody s_Way_turns, C8.fnScope s_Way_turns, [], []⟩
def d_Way_is_held : He.DefD := ⟨("Way", some "is_held"), "is_held", "Way.is_held", C8.fnArgs s_Way_is_held, C8.fnBody s_Way_is_held, C8.fnScope s_Way_is_held, [], []⟩
def d_Way_opening : He.DefD := ⟨("Way", some "opening"), "opening", "Way.opening", C8.fnArgs s_Way_opening, C8.fnBody s_Way_opening, C8.fnScope s_Way_opening, [], []⟩
def d_stuck_list : He.DefD := ⟨("stuck_list", none), "stuck_list", "stuck_list", C8.fnArgs s_stuck_list, C8.fnBody s_stuck_list, C8.fnScope s_stuck_list, [], []⟩
def d_opening_of : He.DefD := ⟨("opening_of", none), "opening_of", "opening_of", C8.fnArgs s_opening_of, C8.fnBody s_opening_of, C8.fnScope s_opening_of, [.non], []⟩
def d_with_delays : He.DefD := ⟨("with_delays", none), "with_delays", "with_delays", C8.fnArgs s_with_delays, C8.fnBody s_with_delays, C8.fnScope s_with_delays, [], []⟩
def d__law_cell_at : He.DefD := ⟨("_law_cell_at", none), "_law_cell_at", "_law_cell_at", C8.fnArgs s__law_cell_at, C8.fnBody s__law_cell_at, C8.fnScope s__law_cell_at, [], []⟩
def d__law_feed : He.DefD := ⟨("_law_feed", none), "_law_feed", "_law_feed", C8.fnArgs s__law_feed, C8.fnBody s__law_feed, C8.fnScope s__law_feed, [], []⟩
def d__law_take : He.DefD := ⟨("_law_take", none), "_law_take", "_law_take", C8.fnArgs s__law_take, C8.fnBody s__law_take, C8.fnScope s__law_take, [], []⟩
def d__law_overs : He.DefD := ⟨("_law_overs", none), "_law_overs", "_law_overs", C8.fnArgs s__law_overs, C8.fnBody s__law_overs, C8.fnScope s__law_overs, [], []⟩
def d__law_rest : He.DefD := ⟨("_law_rest", none), "_law_rest", "_law_rest", C8.fnArgs s__law_rest, C8.fnBody s__law_rest, C8.fnScope s__law_rest, [], []⟩
def d__law_path : He.DefD := ⟨("_law_path", none), "_law_path", "_law_path", C8.fnArgs s__law_path, C8.fnBody s__law_path, C8.fnScope s__law_path, [], []⟩
def d__law_opening : He.DefD := ⟨("_law_opening", none), "_law_opening", "_law_opening", C8.fnArgs s__law_opening, C8.fnBody s__law_opening, C8.fnScope s__law_opening, [], []⟩
def d__law_loud : He.DefD := ⟨("_law_loud", none), "_law_loud", "_law_loud", C8.fnArgs s__law_loud, C8.fnBody s__law_loud, C8.fnScope s__law_loud, [], []⟩
def d__law_places : He.DefD := ⟨("_law_places", none), "_law_places", "_law_places", C8.fnArgs s__law_places, C8.fnBody s__law_places, C8.fnScope s__law_places, [], []⟩
def d__law_names : He.DefD := ⟨("_law_names", none), "_law_names", "_law_names", C8.fnArgs s__law_names, C8.fnBody s__law_names, C8.fnScope s__law_names, [], []⟩
def d__law_lifted : He.DefD := ⟨("_law_lifted", none), "_law_lifted", "_law_lifted", C8.fnArgs s__law_lifted, C8.fnBody s__law_lifted, C8.fnScope s__law_lifted, [], []⟩
def d__law_small_curve : He.DefD := ⟨("_law_small_curve", none), "_law_small_curve", "_law_small_curve", C8.fnArgs s__law_small_curve, C8.fnBody s__law_small_curve, C8.fnScope s__law_small_curve, [], []⟩
def d__law_small_guards : He.DefD := ⟨("_law_small_guards", none), "_law_small_guards", "_law_small_guards", C8.fnArgs s__law_small_guards, C8.fnBody s__law_small_guards, C8.fnScope s__law_small_guards, [], []⟩
def d__law_small_loads : He.DefD := ⟨("_law_small_loads", none), "_law_small_loads", "_law_small_loads", C8.fnArgs s__law_small_loads, C8.fnBody s__law_small_loads, C8.fnScope s__law_small_loads, [], []⟩
def d__law_small_board : He.DefD := ⟨("_law_small_board", none), "_law_small_board", "_law_small_board", C8.fnArgs s__law_small_board, C8.fnBody s__law_small_board, C8.fnScope s__law_small_board, [], []⟩
def d__law_sized : He.DefD := ⟨("_law_sized", none), "_law_sized", "_law_sized", C8.fnArgs s__law_sized, C8.fnBody s__law_sized, C8.fnScope s__law_sized, [], []⟩
def d__law_most : He.DefD := ⟨("_law_most", none), "_law_most", "_law_most", C8.fnArgs s__law_most, C8.fnBody s__law_most, C8.fnScope s__law_most, [], []⟩
def d_law : He.DefD := ⟨("law", none), "law", "law", C8.fnArgs s_law, C8.fnBody s_law, C8.fnScope s_law, [], []⟩
def fn : List He.DefD := [d_guards_of, d_chain, d_over, d_draws, d_rest, d_least_of, d_awake, d_loud, d_ask_quiet, d_is_off, d_Way___init__, d_met, d_turns_at, d_Way_turns, d_Way_is_held, d_Way_opening, d_stuck_list, d_opening_of, d_with_delays, d__law_cell_at, d__law_feed, d__law_take, d__law_overs, d__law_rest, d__law_path, d__law_opening, d__law_loud, d__law_places, d__law_names, d__law_lifted, d__law_small_curve, d__law_small_guards, d__law_small_loads, d__law_small_board, d__law_sized, d__law_most, d_law]
def fa : List He.Fa := [.glo "guards_of", .glo "chain", .glo "over", .glo "draws", .glo "rest", .glo "least_of", .glo "awake", .glo "loud", .glo "ask_quiet", .glo "is_off", .mkr "Way", .glo "met", .glo "turns_at", .meth "Way" "turns", .meth "Way" "is_held", .meth "Way" "opening", .glo "stuck_list", .glo "opening_of", .glo "with_delays", .glo "_law_cell_at", .glo "_law_feed", .glo "_law_take", .glo "_law_overs", .glo "_law_rest", .glo "_law_path", .glo "_law_opening", .glo "_law_loud", .glo "_law_places", .glo "_law_names", .glo "_law_lifted", .glo "_law_small_curve", .glo "_law_small_guards", .glo "_law_small_loads", .glo "_law_small_board", .glo "_law_sized", .glo "_law_most", .glo "law", .free "any", .free "dict", .free "enumerate", .free "int", .free "len", .free "list", .free "max", .free "min", .free "range", .free "repr", .free "tuple", .glo "Way", .cls "Way", .noat "Way" "guards", .noat "Way" "idle", .noat "Way" "found"]
abbrev R : PySem.W.OpenRow := PySem.W.OpenLaw.row PySem.Challenge.rw_fuseboard_k51_boards_with_delays
def hk : PySem.W.Hook := He.hookD 6 fa fn
def ob (s : PySem.W.SharedT) : He.AlD := He.obsDG 6 fa fn (HandSHeadRun.getT s)
def loose : List PySem.Str := ([("_wall" : PySem.Str), ("__name__" : PySem.Str), ("least_of" : PySem.Str), ("met" : PySem.Str), ("turns_at" : PySem.Str), ("BoardError" : PySem.Str), ("Loud" : PySem.Str), ("NoPlace" : PySem.Str), ("guards_of" : PySem.Str), ("chain" : PySem.Str), ("over" : PySem.Str), ("draws" : PySem.Str), ("rest" : PySem.Str), ("awake" : PySem.Str), ("loud" : PySem.Str), ("ask_quiet" : PySem.Str), ("is_off" : PySem.Str), ("Way" : PySem.Str), ("stuck_list" : PySem.Str), ("opening_of" : PySem.Str), ("with_delays" : PySem.Str), ("_law_cell_at" : PySem.Str), ("_law_feed" : PySem.Str), ("_law_take" : PySem.Str), ("_law_names" : PySem.Str), ("_law_overs" : PySem.Str), ("_law_small_curve" : PySem.Str), ("_law_lifted" : PySem.Str), ("_law_rest" : PySem.Str), ("_law_small_guards" : PySem.Str), ("_law_small_loads" : PySem.Str), ("_law_small_board" : PySem.Str), ("_law_path" : PySem.Str), ("_law_opening" : PySem.Str), ("_law_lows" : PySem.Str), ("_law_loud" : PySem.Str), ("_law_places" : PySem.Str), ("_law_sized" : PySem.Str), ("_law_most" : PySem.Str)] : List PySem.Str) ++ ([("rest" : PySem.Str), ("awake" : PySem.Str), ("loud" : PySem.Str), ("ask_quiet" : PySem.Str), ("is_off" : PySem.Str), ("Way" : PySem.Str), ("stuck_list" : PySem.Str), ("opening_of" : PySem.Str), ("with_delays" : PySem.Str), ("_law_cell_at" : PySem.Str), ("_law_feed" : PySem.Str), ("_law_take" : PySem.Str), ("_law_names" : PySem.Str), ("_law_overs" : PySem.Str), ("_law_small_curve" : PySem.Str), ("_law_lifted" : PySem.Str), ("_law_rest" : PySem.Str), ("_law_small_guards" : PySem.Str), ("_law_small_loads" : PySem.Str), ("_law_small_board" : PySem.Str), ("_law_path" : PySem.Str), ("_law_opening" : PySem.Str), ("_law_lows" : PySem.Str), ("_law_loud" : PySem.Str), ("_law_places" : PySem.Str), ("_law_sized" : PySem.Str), ("_law_most" : PySem.Str)] : List PySem.Str) ++ ([("_law_names" : PySem.Str), ("_law_overs" : PySem.Str), ("_law_small_curve" : PySem.Str), ("_law_lifted" : PySem.Str), ("_law_rest" : PySem.Str), ("_law_small_guards" : PySem.Str), ("_law_small_loads" : PySem.Str), ("_law_small_board" : PySem.Str), ("_law_path" : PySem.Str), ("_law_opening" : PySem.Str), ("_law_lows" : PySem.Str), ("_law_loud" : PySem.Str), ("_law_places" : PySem.Str), ("_law_sized" : PySem.Str), ("_law_most" : PySem.Str)] : List PySem.Str) ++ ([("_law_places" : PySem.Str), ("_law_sized" : PySem.Str), ("_law_most" : PySem.Str)] : List PySem.Str)
theorem run (w : World) : HandSHeadRun.RunEq R (PySem.W.view R.prog [45]) hk ob 12000 loose w := by
  intro os
  kernel_rfl
end Wk

/-! Data trees (D: shared, never changed; O: owned, may be changed) and what it means that a heap holds them. -/
namespace FB
open PySem PySem.Spec L2
open PyProof.Rows hiding St

mutual
def O.toD : O → D
  | .val d => d
  | .lst os => .lst (O.toDs os)
  | .dct ks os => .dct ks (O.toDs os)
  | .ins c ns os => .ins c ns (O.toDs os)
def O.toDs : List O → List D
  | [] => []
  | o :: os => o.toD :: O.toDs os
end
theorem toDs_map : ∀ os : List O, O.toDs os = os.map O.toD
  | [] => rfl
  | o :: os => by show o.toD :: O.toDs os = _; rw [toDs_map os]; rfl
theorem toDs_vals : ∀ ds : List D, O.toDs (ds.map O.val) = ds
  | [] => rfl
  | d :: ds => by show d :: O.toDs (ds.map O.val) = _; rw [toDs_vals ds]

/-! ### what a heap shows -/

theorem sameNew {H : Hp} {p : Addr} {o : HO} (h : H p = none) : Same H (upd H p o) := fun a u e => by rw [upd_ne (ne_of_none e h)]; exact e
theorem Same.rd {H H' : Hp} {a : Addr} {u : HO} (e : Same H H') (h : Rd H a u) : Rd H' a u := by
  rcases h with h | ⟨o, h⟩
  · exact .inl (e _ _ h)
  · exact .inr ⟨o, e _ _ h⟩
theorem Same.seqT {K : PySem.W.Frag} {H H' : Hp} {a : Addr} {xs : List V} (e : Same H H') (h : SqT K H a xs) : SqT K H' a xs := by
  rcases h with h | h
  · exact .inl (FB.Same.rd e h)
  · exact .inr h

section
variable {K : PySem.W.Frag} {mg : Str → Option Value}
mutual
theorem Vw.mono {G G' : Hp} (e : Same G G') : ∀ {v : V} {d : D}, Vw K mg G v d → Vw K mg G' v d
  | _, _, .non => .non
  | _, _, .bl b => .bl b
  | _, _, .int i => .int i
  | _, _, .str s h => .str s h
  | _, _, .tup h hs => .tup (FB.Same.seqT e h) (Vws.mono e hs)
  | _, _, .lst h hs => .lst (FB.Same.rd e h) (Vws.mono e hs)
  | _, _, .scr h => .scr (Same.seq e h)
  | _, _, .fn h => .fn h
  | _, _, .dct h hk hs => .dct (FB.Same.rd e h) hk (Vws.mono e hs)
  | _, _, .ins h hm hn hs => .ins (e _ _ h) hm hn (Vws.mono e hs)
theorem Vws.mono {G G' : Hp} (e : Same G G') : ∀ {vs : List V} {ds : List D}, Vws K mg G vs ds → Vws K mg G' vs ds
  | _, _, .nil => .nil
  | _, _, .cons h t => .cons (Vw.mono e h) (Vws.mono e t)
end
theorem Vws.length {G : Hp} : ∀ {vs : List V} {ds : List D}, Vws K mg G vs ds → vs.length = ds.length
  | _, _, .nil => rfl
  | _, _, .cons _ t => by simp [Vws.length t]
theorem Vws.get {G : Hp} : ∀ {vs : List V} {ds : List D} {i : Nat} {d : D}, Vws K mg G vs ds → ds[i]? = some d → ∃ v, vs[i]? = some v ∧ Vw K mg G v d
  | _, _, _, _, .nil, e => by simp at e
  | _, _, 0, _, .cons h _, e => by simp at e; subst e; exact ⟨_, rfl, h⟩
  | _, _, i + 1, _, .cons _ t, e => by
    obtain ⟨v, h1, h2⟩ := Vws.get (i := i) t (by simpa using e)
    exact ⟨v, by simpa using h1, h2⟩
theorem Vws.getV {G : Hp} : ∀ {vs : List V} {ds : List D} {i : Nat} {v : V}, Vws K mg G vs ds → vs[i]? = some v → ∃ d, ds[i]? = some d ∧ Vw K mg G v d
  | _, _, _, _, .nil, e => by simp at e
  | _, _, 0, _, .cons h _, e => by simp at e; subst e; exact ⟨_, rfl, h⟩
  | _, _, i + 1, _, .cons _ t, e => by
    obtain ⟨v, h1, h2⟩ := Vws.getV (i := i) t (by simpa using e)
    exact ⟨v, by simpa using h1, h2⟩
theorem Vws.append {G : Hp} : ∀ {vs ws : List V} {ds es : List D}, Vws K mg G vs ds → Vws K mg G ws es → Vws K mg G (vs ++ ws) (ds ++ es)
  | _, _, _, _, .nil, h => h
  | _, _, _, _, .cons h t, q => .cons h (Vws.append t q)
theorem Vws.take {G : Hp} : ∀ {vs : List V} {ds : List D} (n : Nat), Vws K mg G vs ds → Vws K mg G (vs.take n) (ds.take n)
  | _, _, 0, _ => by simp; exact .nil
  | _, _, _ + 1, .nil => .nil
  | _, _, n + 1, .cons h t => .cons h (Vws.take n t)
theorem Vws.drop {G : Hp} : ∀ {vs : List V} {ds : List D} (n : Nat), Vws K mg G vs ds → Vws K mg G (vs.drop n) (ds.drop n)
  | _, _, 0, h => h
  | _, _, _ + 1, .nil => .nil
  | _, _, n + 1, .cons _ t => Vws.drop n t
theorem Vws.reverse {G : Hp} : ∀ {vs : List V} {ds : List D}, Vws K mg G vs ds → Vws K mg G vs.reverse ds.reverse
  | _, _, .nil => .nil
  | _, _, .cons h t => by
    rw [List.reverse_cons, List.reverse_cons]
    exact Vws.append (Vws.reverse t) (.cons h .nil)
theorem Vws.set {G : Hp} {x : V} {e : D} (h : Vw K mg G x e) : ∀ {vs : List V} {ds : List D} (n : Nat), Vws K mg G vs ds → Vws K mg G (vs.set n x) (ds.set n e)
  | _, _, _, .nil => .nil
  | _, _, 0, .cons _ t => .cons h t
  | _, _, n + 1, .cons q t => .cons q (Vws.set h n t)
theorem Vws.ints {G : Hp} : ∀ ns : List Int, Vws K mg G (ns.map V.int) (ns.map D.int)
  | [] => .nil
  | n :: ns => .cons (.int n) (Vws.ints ns)

/-! ### owned trees -/
mutual
theorem VO.mono {G G' H H' : Hp} (e : Same G G') : ∀ {v : V} {o : O} {as : List Addr}, VO K mg G H v o as → (∀ a ∈ as, H' a = H a) → VO K mg G' H' v o as
  | _, _, _, .val h, _ => .val (h.mono e)
  | _, _, _, .lst h hs, q => .lst ((q _ (by simp)).trans h) (VOs.mono e hs fun a ha => q a (by simp [ha]))
  | _, _, _, .dct h hk hs, q => .dct ((q _ (by simp)).trans h) hk (VOs.mono e hs fun a ha => q a (by simp [ha]))
  | _, _, _, .ins h hm hn hs, q => .ins ((q _ (by simp)).trans h) hm hn (VOs.mono e hs fun a ha => q a (by simp [ha]))
theorem VOs.mono {G G' H H' : Hp} (e : Same G G') : ∀ {vs : List V} {os : List O} {as : List Addr}, VOs K mg G H vs os as → (∀ a ∈ as, H' a = H a) → VOs K mg G' H' vs os as
  | _, _, _, .nil, _ => .nil
  | _, _, _, .cons h t, q => .cons (VO.mono e h fun a ha => q a (by simp [ha])) (VOs.mono e t fun a ha => q a (by simp [ha]))
end
mutual
theorem VO.frz {G G' H : Hp} (e : Same G G') : ∀ {v : V} {o : O} {as : List Addr}, VO K mg G H v o as → (∀ a ∈ as, G' a = H a) → Vw K mg G' v o.toD
  | _, _, _, .val h, _ => h.mono e
  | _, _, _, .lst h hs, q => .lst (.inl ((q _ (by simp)).trans h)) (VOs.frz e hs fun a ha => q a (by simp [ha]))
  | _, _, _, .dct h hk hs, q => .dct (.inl ((q _ (by simp)).trans h)) hk (VOs.frz e hs fun a ha => q a (by simp [ha]))
  | _, _, _, .ins h hm hn hs, q => .ins ((q _ (by simp)).trans h) hm hn (VOs.frz e hs fun a ha => q a (by simp [ha]))
theorem VOs.frz {G G' H : Hp} (e : Same G G') : ∀ {vs : List V} {os : List O} {as : List Addr}, VOs K mg G H vs os as → (∀ a ∈ as, G' a = H a) → Vws K mg G' vs (O.toDs os)
  | _, _, _, .nil, _ => .nil
  | _, _, _, .cons h t, q => .cons (VO.frz e h fun a ha => q a (by simp [ha])) (VOs.frz e t fun a ha => q a (by simp [ha]))
end
mutual
theorem VO.dom {G H : Hp} : ∀ {v : V} {o : O} {as : List Addr}, VO K mg G H v o as → ∀ a ∈ as, ∃ u, H a = some u
  | _, _, _, .val _, a, ha => by simp at ha
  | _, _, _, .lst h hs, a, ha => by
    rcases List.mem_cons.mp ha with e | ha
    · exact ⟨_, e ▸ h⟩
    · exact VOs.dom hs a ha
  | _, _, _, .dct h hk hs, a, ha => by
    rcases List.mem_cons.mp ha with e | ha
    · exact ⟨_, e ▸ h⟩
    · exact VOs.dom hs a ha
  | _, _, _, .ins h hm hn hs, a, ha => by
    rcases List.mem_cons.mp ha with e | ha
    · exact ⟨_, e ▸ h⟩
    · exact VOs.dom hs a ha
theorem VOs.dom {G H : Hp} : ∀ {vs : List V} {os : List O} {as : List Addr}, VOs K mg G H vs os as → ∀ a ∈ as, ∃ u, H a = some u
  | _, _, _, .nil, a, ha => by simp at ha
  | _, _, _, .cons h t, a, ha => by
    rcases List.mem_append.mp ha with ha | ha
    · exact VO.dom h a ha
    · exact VOs.dom t a ha
end
theorem VOs.length {G H : Hp} : ∀ {vs : List V} {os : List O} {as : List Addr}, VOs K mg G H vs os as → vs.length = os.length
  | _, _, _, .nil => rfl
  | _, _, _, .cons _ t => by simp [VOs.length t]
theorem VOs.get {G H : Hp} : ∀ {vs : List V} {os : List O} {as : List Addr} {i : Nat} {o : O}, VOs K mg G H vs os as → os[i]? = some o → ∃ v bs, vs[i]? = some v ∧ VO K mg G H v o bs
  | _, _, _, _, _, .nil, e => by simp at e
  | _, _, _, 0, _, .cons h _, e => by simp at e; subst e; exact ⟨_, _, rfl, h⟩
  | _, _, _, i + 1, _, .cons _ t, e => by
    obtain ⟨v, bs, h1, h2⟩ := VOs.get (i := i) t (by simpa using e)
    exact ⟨v, bs, by simpa using h1, h2⟩
theorem VOs.vals {G H : Hp} : ∀ {vs : List V} {ds : List D}, Vws K mg G vs ds → VOs K mg G H vs (ds.map O.val) []
  | _, _, .nil => .nil
  | _, _, .cons h t => .cons (as := []) (.val h) (VOs.vals t)
theorem VOs.of_vals {G H : Hp} : ∀ {vs : List V} {ds : List D} {as : List Addr}, VOs K mg G H vs (ds.map O.val) as → Vws K mg G vs ds ∧ as = []
  | _, [], _, .nil => ⟨.nil, rfl⟩
  | _, d :: ds, _, .cons (.val h) t => by
    obtain ⟨q, e⟩ := VOs.of_vals (ds := ds) t
    subst e
    exact ⟨.cons h q, rfl⟩

/-! ### items, and a heap that holds them apart -/
theorem ers_ne {d a : Addr} {G : Hp} (h : a ≠ d) : ers d G a = G a := if_neg h
theorem ers_some {d a : Addr} {G : Hp} {o : HO} (h : ers d G a = some o) : a ≠ d ∧ G a = some o := by
  by_cases e : a = d
  · unfold ers at h; rw [if_pos e] at h; cases h
  · exact ⟨e, by rw [ers_ne e] at h; exact h⟩
theorem ers_same {d : Addr} {G G' : Hp} (h : Same G G') : Same (ers d G) (ers d G') := fun a o e => by
  obtain ⟨h1, h2⟩ := ers_some e
  rw [ers_ne h1]; exact h _ _ h2
theorem hide_in {H : Hp} {A : List Addr} {a : Addr} (h : a ∈ A) : hide H A a = none := if_pos h
theorem hide_out {H : Hp} {A : List Addr} {a : Addr} (h : a ∉ A) : hide H A a = H a := if_neg h
theorem hide_some {H : Hp} {A : List Addr} {a : Addr} {o : HO} (h : hide H A a = some o) : a ∉ A ∧ H a = some o := by
  by_cases ha : a ∈ A
  · rw [hide_in ha] at h; cases h
  · exact ⟨ha, by rw [hide_out ha] at h; exact h⟩
theorem hide_same {H H' : Hp} {A A' : List Addr} (h : ∀ a o, a ∉ A → H a = some o → a ∉ A' ∧ H' a = some o) : Same (hide H A) (hide H' A') := fun a o e => by
  obtain ⟨h1, h2⟩ := hide_some e
  obtain ⟨h3, h4⟩ := h a o h1 h2
  rw [hide_out h3]; exact h4
theorem hide_sub {H : Hp} {A : List Addr} : Same (hide H A) H := fun a o e => (hide_some e).2
theorem hide_congr {H : Hp} {A B : List Addr} (h : ∀ a, a ∈ A ↔ a ∈ B) : hide H A = hide H B := by
  funext a
  unfold hide
  by_cases ha : a ∈ A
  · rw [if_pos ha, if_pos ((h a).mp ha)]
  · rw [if_neg ha, if_neg fun z => ha ((h a).mpr z)]

theorem IOk.mono {G G' H H' : Hp} (e : Same G G') {x : Item} {as : List Addr} (h : IOk K mg G H x as) (q : ∀ a ∈ as, H' a = H a) : IOk K mg G' H' x as := by
  induction h generalizing G' H' with
  | ov h => exact .ov (h.mono e q)
  | raw h => exact .raw ((q _ (by simp)).trans h)
  | pin h => exact .pin (e _ _ h)
  | but h ih => exact .but (ih (ers_same e) q)
theorem IsOk.mono {G G' H H' : Hp} (e : Same G G') : ∀ {L : List Item} {as : List Addr}, IsOk K mg G H L as → (∀ a ∈ as, H' a = H a) → IsOk K mg G' H' L as
  | _, _, .nil, _ => .nil
  | _, _, .cons h t, q => .cons (h.mono e fun a ha => q a (by simp [ha])) (IsOk.mono e t fun a ha => q a (by simp [ha]))
theorem IOk.dom {G H : Hp} {x : Item} {as : List Addr} (h : IOk K mg G H x as) : ∀ a ∈ as, ∃ u, H a = some u := by
  induction h with
  | ov h => exact h.dom
  | raw h => intro a ha; simp at ha; subst ha; exact ⟨_, h⟩
  | pin h => intro a ha; simp at ha
  | but h ih => exact ih
theorem IsOk.dom {G H : Hp} : ∀ {L : List Item} {as : List Addr}, IsOk K mg G H L as → ∀ a ∈ as, ∃ u, H a = some u
  | _, _, .nil, a, ha => by simp at ha
  | _, _, .cons h t, a, ha => by
    rcases List.mem_append.mp ha with ha | ha
    · exact h.dom a ha
    · exact IsOk.dom t a ha
theorem IsOk.append {G H : Hp} : ∀ {L M : List Item} {as bs : List Addr}, IsOk K mg G H L as → IsOk K mg G H M bs → IsOk K mg G H (L ++ M) (as ++ bs)
  | _, _, _, _, .nil, h => h
  | _, _, _, _, .cons (as := as) (bs := cs) h t, q => by
    rw [List.append_assoc]
    exact .cons h (IsOk.append t q)
theorem IsOk.split {G H : Hp} : ∀ {L M : List Item} {as : List Addr}, IsOk K mg G H (L ++ M) as → ∃ bs cs, as = bs ++ cs ∧ IsOk K mg G H L bs ∧ IsOk K mg G H M cs
  | [], M, as, h => ⟨[], as, rfl, .nil, h⟩
  | x :: L, M, _, .cons (as := as) h t => by
    obtain ⟨bs, cs, e, h1, h2⟩ := IsOk.split (L := L) t
    subst e
    exact ⟨as ++ bs, cs, (List.append_assoc _ _ _).symm, .cons h h1, h2⟩
theorem IsOk.perm {G H : Hp} {L L' : List Item} (p : L.Perm L') : ∀ {as : List Addr}, IsOk K mg G H L as → ∃ bs, as.Perm bs ∧ IsOk K mg G H L' bs := by
  induction p with
  | nil => intro as h; exact ⟨as, .refl _, h⟩
  | cons x _ ih =>
    intro as h
    cases h with
    | cons h t =>
      obtain ⟨bs, q, t'⟩ := ih t
      exact ⟨_, q.append_left _, .cons h t'⟩
  | swap x y L =>
    intro as h
    cases h with
    | cons h t =>
      cases t with
      | cons h2 t =>
        rename_i a1 a2 a3
        refine ⟨a2 ++ (a1 ++ a3), ?_, .cons h2 (.cons h t)⟩
        rw [← List.append_assoc, ← List.append_assoc]
        exact List.perm_append_comm.append_right _
  | trans _ _ ih1 ih2 =>
    intro as h
    obtain ⟨bs, q, h1⟩ := ih1 h
    obtain ⟨cs, q2, h2⟩ := ih2 h1
    exact ⟨cs, q.trans q2, h2⟩

variable {H H' : Hp} {L L' M : List Item} {B B' : List (V × O)}
theorem Rep.perm (h : Rep K mg H L B) (p : L.Perm L') : Rep K mg H L' B := by
  obtain ⟨A, nd, ok, hb⟩ := h
  obtain ⟨A', q, ok'⟩ := ok.perm p
  have e : hide H A = hide H A' := hide_congr fun a => q.mem_iff
  rw [e] at ok'
  refine ⟨A', q.nodup nd, ok', fun b hb' => ?_⟩
  obtain ⟨as, h1, h2⟩ := hb b hb'
  rw [e] at h1
  exact ⟨as, h1, fun a ha => q.mem_iff.mp (h2 a ha)⟩
theorem Rep.grow (h : Rep K mg H L B) (s : Same H H') : Rep K mg H' L B := by
  obtain ⟨A, nd, ok, hb⟩ := h
  have e : Same (hide H A) (hide H' A) := hide_same fun a o ha q => ⟨ha, s a o q⟩
  have ha : ∀ a ∈ A, H' a = H a := fun a ha => by
    obtain ⟨u, q⟩ := ok.dom a ha
    rw [q, s a u q]
  refine ⟨A, nd, ok.mono e ha, fun b hb' => ?_⟩
  obtain ⟨as, h1, h2⟩ := hb b hb'
  exact ⟨as, h1.mono e fun a q => ha a (h2 a q), h2⟩
theorem Rep.bsub (h : Rep K mg H L B) (s : ∀ b ∈ B', b ∈ B) : Rep K mg H L B' := by
  obtain ⟨A, nd, ok, hb⟩ := h
  exact ⟨A, nd, ok, fun b hb' => hb b (s b hb')⟩
theorem Rep.nob (h : Rep K mg H L B) : Rep K mg H L [] := h.bsub fun _ z => by simp at z
theorem Rep.bdrop {b : V × O} (h : Rep K mg H L (b :: B)) : Rep K mg H L B := h.bsub fun _ z => List.mem_cons_of_mem _ z
theorem Rep.drop {x : Item} (h : Rep K mg H (x :: L) []) : Rep K mg H L [] := by
  obtain ⟨A, nd, ok, hb⟩ := h
  cases ok with
  | cons h t =>
    rename_i as bs
    have e : Same (hide H (as ++ bs)) (hide H bs) := hide_same fun a o ha q => ⟨fun z => ha (by simp [z]), q⟩
    exact ⟨bs, (List.nodup_append.mp nd).2.1, t.mono e fun _ _ => rfl, fun _ z => by simp at z⟩
theorem Rep.frz {v : V} {o : O} (h : Rep K mg H (.ov v o :: L) []) : Rep K mg H (.ov v (.val o.toD) :: L) [] := by
  obtain ⟨A, nd, ok, hb⟩ := h
  cases ok with
  | cons h t =>
    rename_i as bs
    cases h with
    | ov h =>
      have e : Same (hide H (as ++ bs)) (hide H bs) := hide_same fun a o ha q => ⟨fun z => ha (by simp [z]), q⟩
      have dj := (List.nodup_append.mp nd).2.2
      refine ⟨bs, (List.nodup_append.mp nd).2.1, ?_, fun _ z => by simp at z⟩
      refine .cons (as := []) (.ov (.val (h.frz e fun a ha => ?_))) (t.mono e fun _ _ => rfl)
      exact hide_out fun z => dj a ha a z rfl
theorem Rep.lend {v : V} {o : O} (h : Rep K mg H (.ov v o :: L) B) : Rep K mg H (.ov v o :: L) ((v, o) :: B) := by
  obtain ⟨A, nd, ok, hb⟩ := h
  refine ⟨A, nd, ok, fun b q => ?_⟩
  rcases List.mem_cons.mp q with e | q
  · subst e
    cases ok with
    | cons h t =>
      cases h with
      | ov h => exact ⟨_, h, fun a ha => by simp [ha]⟩
  · exact hb b q
theorem Rep.keep {v : V} {d : D} (h : Rep K mg H L ((v, .val d) :: B)) : Rep K mg H (.ov v (.val d) :: L) B := by
  obtain ⟨A, nd, ok, hb⟩ := h
  obtain ⟨as, h1, _⟩ := hb _ (List.mem_cons_self ..)
  cases h1 with
  | val h1 => exact ⟨A, nd, .cons (as := []) (.ov (.val h1)) ok, fun b q => hb b (by simp [q])⟩
theorem Rep.scal {v : V} {d : D} (h : Rep K mg H L B) (hv : ∀ G, Vw K mg G v d) : Rep K mg H (.ov v (.val d) :: L) B := by
  obtain ⟨A, nd, ok, hb⟩ := h
  exact ⟨A, nd, .cons (as := []) (.ov (.val (hv _))) ok, hb⟩
theorem Rep.scalB {v : V} {d : D} (h : Rep K mg H L B) (hv : ∀ G, Vw K mg G v d) : Rep K mg H L ((v, .val d) :: B) := by
  obtain ⟨A, nd, ok, hb⟩ := h
  refine ⟨A, nd, ok, fun b q => ?_⟩
  rcases List.mem_cons.mp q with e | q
  · subst e; exact ⟨[], .val (hv _), by simp⟩
  · exact hb b q
theorem Rep.rawAt {p : Addr} {o : HO} (h : Rep K mg H (.raw p o :: L) B) : H p = some o := by
  obtain ⟨A, nd, ok, hb⟩ := h
  cases ok with
  | cons h t =>
    cases h with
    | raw h => exact h
theorem Rep.write {p : Addr} {o o' : HO} (h : Rep K mg H (.raw p o :: L) B) : Rep K mg (upd H p o') (.raw p o' :: L) [] := by
  obtain ⟨A, nd, ok, hb⟩ := h
  cases ok with
  | cons h t =>
    rename_i as bs
    cases h with
    | raw h =>
      have hp : p ∉ bs := (List.nodup_cons.mp nd).1
      have e : Same (hide H (p :: bs)) (hide (upd H p o') (p :: bs)) := hide_same fun a u ha q => ⟨ha, by rw [upd_ne fun z => ha (by simp [z])]; exact q⟩
      refine ⟨p :: bs, nd, .cons (as := [p]) (.raw upd_same) (t.mono e fun a ha => ?_), fun _ z => by simp at z⟩
      exact upd_ne fun z => hp (z ▸ ha)
theorem Rep.new {p : Addr} {o : HO} (h : Rep K mg H L B) (hp : H p = none) : Rep K mg (upd H p o) (.raw p o :: L) B := by
  obtain ⟨A, nd, ok, hb⟩ := h
  have hA : p ∉ A := fun z => by
    obtain ⟨u, q⟩ := ok.dom p z
    rw [hp] at q; cases q
  have e : Same (hide H A) (hide (upd H p o) (p :: A)) := hide_same fun a u ha q => by
    have : a ≠ p := fun z => by rw [z, hp] at q; cases q
    exact ⟨by simp [this, ha], by rw [upd_ne this]; exact q⟩
  have hu : ∀ a ∈ A, upd H p o a = H a := fun a ha => upd_ne fun z => hA (z ▸ ha)
  refine ⟨p :: A, List.nodup_cons.mpr ⟨hA, nd⟩, .cons (as := [p]) (.raw upd_same) (ok.mono e hu), fun b q => ?_⟩
  obtain ⟨as, h1, h2⟩ := hb b q
  exact ⟨as, h1.mono e fun a ha => hu a (h2 a ha), fun a ha => by simp [h2 a ha]⟩

/-! ### opening and closing -/
theorem IsOk.zip {G : Hp} : ∀ {vs : List V} {os : List O} {as : List Addr}, VOs K mg G H vs os as → IsOk K mg G H (zipI vs os) as
  | _, _, _, .nil => .nil
  | _, _, _, .cons h t => .cons (.ov h) (IsOk.zip t)
theorem IsOk.unzip {G : Hp} : ∀ {vs : List V} {os : List O} {as : List Addr}, vs.length = os.length → IsOk K mg G H (zipI vs os) as → VOs K mg G H vs os as
  | [], [], _, _, .nil => .nil
  | [], _ :: _, _, e, _ => by simp at e
  | _ :: _, [], _, e, _ => by simp at e
  | v :: vs, o :: os, _, e, .cons (.ov h) t => .cons h (IsOk.unzip (by simpa using e) t)
theorem Rep.openL {v : V} {os : List O} (h : Rep K mg H (.ov v (.lst os) :: L) B) : ∃ p vs, v = .ref p ∧ vs.length = os.length ∧ Rep K mg H (.raw p (.lst vs) :: (zipI vs os ++ L)) B := by
  obtain ⟨A, nd, ok, hb⟩ := h
  cases ok with
  | cons h t =>
    cases h with
    | ov h =>
      cases h with
      | lst h hs => exact ⟨_, _, rfl, hs.length, _, nd, .cons (as := [_]) (.raw h) (IsOk.append (IsOk.zip hs) t), hb⟩
theorem Rep.closeL {p : Addr} {vs : List V} {os : List O} (h : Rep K mg H (.raw p (.lst vs) :: (zipI vs os ++ L)) B) (e : vs.length = os.length) : Rep K mg H (.ov (.ref p) (.lst os) :: L) B := by
  obtain ⟨A, nd, ok, hb⟩ := h
  cases ok with
  | cons h t =>
    cases h with
    | raw h =>
      obtain ⟨bs, cs, e2, t1, t2⟩ := t.split
      subst e2
      exact ⟨_, nd, .cons (as := _ :: bs) (.ov (.lst h (IsOk.unzip e t1))) t2, hb⟩
theorem Rep.openD {v : V} {ks : List Key} {os : List O} (h : Rep K mg H (.ov v (.dct ks os) :: L) B) : ∃ p kvs, v = .ref p ∧ kvs.length = os.length ∧ (kvs.map (·.1) = ks ∧ ks.Nodup) ∧ Rep K mg H (.raw p (.dK kvs) :: (zipI (kvs.map (·.2)) os ++ L)) B := by
  obtain ⟨A, nd, ok, hb⟩ := h
  cases ok with
  | cons h t =>
    cases h with
    | ov h =>
      cases h with
      | dct h hk hs => exact ⟨_, _, rfl, by have := hs.length; simpa using this, hk, _, nd, .cons (as := [_]) (.raw h) (IsOk.append (IsOk.zip hs) t), hb⟩
theorem Rep.closeD {p : Addr} {kvs : List (Key × V)} {ks : List Key} {os : List O} (h : Rep K mg H (.raw p (.dK kvs) :: (zipI (kvs.map (·.2)) os ++ L)) B) (e : kvs.length = os.length) (hk : kvs.map (·.1) = ks ∧ ks.Nodup) : Rep K mg H (.ov (.ref p) (.dct ks os) :: L) B := by
  obtain ⟨A, nd, ok, hb⟩ := h
  cases ok with
  | cons h t =>
    cases h with
    | raw h =>
      obtain ⟨bs, cs, e2, t1, t2⟩ := t.split
      subst e2
      exact ⟨_, nd, .cons (as := _ :: bs) (.ov (.dct h hk (IsOk.unzip (by simpa using e) t1))) t2, hb⟩
theorem Rep.openI {v : V} {c : Str} {ns : List Str} {os : List O} (h : Rep K mg H (.ov v (.ins c ns os) :: L) B) :
    ∃ p C dx fs, v = .ref p ∧ mg c = some (.ref C) ∧ fs.length = os.length ∧ fs.map (·.1) = ns ∧ Rep K mg H (.raw p (.ins C dx fs) :: (zipI (fs.map (·.2)) os ++ L)) B := by
  obtain ⟨A, nd, ok, hb⟩ := h
  cases ok with
  | cons h t =>
    cases h with
    | ov h =>
      cases h with
      | ins h hm hn hs => exact ⟨_, _, _, _, rfl, hm, by have := hs.length; simpa using this, hn, _, nd, .cons (as := [_]) (.raw h) (IsOk.append (IsOk.zip hs) t), hb⟩
theorem Rep.closeI {p C dx : Addr} {fs : List (Str × V)} {c : Str} {ns : List Str} {os : List O} (h : Rep K mg H (.raw p (.ins C dx fs) :: (zipI (fs.map (·.2)) os ++ L)) B) (e : fs.length = os.length) (hm : mg c = some (.ref C)) (hn : fs.map (·.1) = ns) :
    Rep K mg H (.ov (.ref p) (.ins c ns os) :: L) B := by
  obtain ⟨A, nd, ok, hb⟩ := h
  cases ok with
  | cons h t =>
    cases h with
    | raw h =>
      obtain ⟨bs, cs, e2, t1, t2⟩ := t.split
      subst e2
      exact ⟨_, nd, .cons (as := _ :: bs) (.ov (.ins h hm hn (IsOk.unzip (by simpa using e) t1))) t2, hb⟩
/-- a tuple of shared things is shared -/
theorem Rep.closeT {p : Addr} {vs : List V} {ds : List D} (h : Rep K mg H (.raw p (.tup vs) :: (zipI vs (ds.map O.val) ++ L)) []) (e : vs.length = ds.length) : Rep K mg H (.ov (.ref p) (.val (.tup ds)) :: L) [] := by
  obtain ⟨A, nd, ok, hb⟩ := h
  cases ok with
  | cons h t =>
    cases h with
    | raw h =>
      obtain ⟨bs, cs, e2, t1, t2⟩ := t.split
      subst e2
      obtain ⟨q, e3⟩ := VOs.of_vals (IsOk.unzip (by simpa using e) t1)
      subst e3
      have s : Same (hide H ([p] ++ ([] ++ cs))) (hide H cs) := hide_same fun a o ha q => ⟨fun z => ha (by simp [z]), q⟩
      have hp : p ∉ cs := (List.nodup_cons.mp nd).1
      refine ⟨cs, (List.nodup_cons.mp nd).2, .cons (as := []) (.ov (.val (.tup (SqT.of ?_) (q.mono s)))) (t2.mono s fun _ _ => rfl), fun _ z => by simp at z⟩
      rw [hide_out hp]; exact h
/-- the whole heap shows what is borrowed -/
theorem Rep.view {b : V × O} (h : Rep K mg H L B) (q : b ∈ B) : Vw K mg H b.1 b.2.toD := by
  obtain ⟨A, nd, ok, hb⟩ := h
  obtain ⟨as, h1, h2⟩ := hb b q
  exact h1.frz hide_sub fun _ _ => rfl
end
end FB

/-! The environment, the meaning of expressions and statements over it, the judgements. -/
namespace FB
open PySem PySem.Spec L2
open PyProof.Rows hiding St

def Res.bind {α β : Type} (r : Res α) (f : α → Env → Res β) : Res β :=
  match r with
  | .ok a ρ => f a ρ
  | .exc x ρ => .exc x ρ
  | .no => .no
@[simp] theorem Res.bind_ok {α β : Type} (a : α) (ρ : Env) (f : α → Env → Res β) : (Res.ok a ρ).bind f = f a ρ := rfl
@[simp] theorem Res.bind_no {α β : Type} (f : α → Env → Res β) : (Res.no : Res α).bind f = .no := rfl
theorem Res.bind_eq {α β : Type} {r : Res α} {f : α → Env → Res β} {b : β} {ρ' : Env} (h : r.bind f = .ok b ρ') : ∃ a ρ, r = .ok a ρ ∧ f a ρ = .ok b ρ' := by
  cases r with
  | ok a ρ => exact ⟨a, ρ, rfl, h⟩
  | exc x ρ => cases h
  | no => cases h
abbrev Pf := Env → Option O
inductive Fl where
  | nx | ret (o : O) | brk | ct

theorem pairs_ss (v : V) (o : O) (σ : St) (ρ : Env) : pairs (some v :: σ) (some o :: ρ) = .ov v o :: pairs σ ρ := rfl
theorem pairs_sn (v : Option V) (σ : St) (ρ : Env) : pairs (v :: σ) (none :: ρ) = pairs σ ρ := by cases v <;> rfl
theorem pairs_ns (o : Option O) (σ : St) (ρ : Env) : pairs (none :: σ) (o :: ρ) = pairs σ ρ := by cases o <;> rfl
theorem pairs_nil (ρ : Env) : pairs [] ρ = [] := by cases ρ <;> rfl
theorem pairs_nil' (σ : St) : pairs σ [] = [] := by cases σ with
  | nil => rfl
  | cons v σ => cases v <;> rfl
theorem pairs_take : ∀ {σ : St} {ρ : Env} {i : Nat} {v : V} {o : O}, σ[i]? = some (some v) → ρ[i]? = some (some o) → (pairs σ ρ).Perm (.ov v o :: pairs σ (ρ.set i none))
  | [], _, _, _, _, h, _ => by simp at h
  | _ :: _, [], _, _, _, _, h => by simp at h
  | w :: σ, u :: ρ, 0, v, o, h1, h2 => by
    simp at h1 h2
    subst h1 h2
    rw [List.set_cons_zero, pairs_ss, pairs_sn]
  | w :: σ, u :: ρ, i + 1, v, o, h1, h2 => by
    have ih := pairs_take (σ := σ) (ρ := ρ) (i := i) (v := v) (o := o) (by simpa using h1) (by simpa using h2)
    rw [List.set_cons_succ]
    cases w with
    | none => rw [pairs_ns, pairs_ns]; exact ih
    | some w =>
      cases u with
      | none => rw [pairs_sn, pairs_sn]; exact ih
      | some u =>
        rw [pairs_ss, pairs_ss]
        exact (ih.cons _).trans (.swap _ _ _)
theorem pairs_setn : ∀ {σ : St} {ρ : Env} {i : Nat} {v : Option V}, ρ[i]? = some none → pairs (σ.set i v) ρ = pairs σ ρ
  | [], ρ, i, v, _ => by simp [pairs_nil]
  | w :: σ, [], i, v, h => by simp at h
  | w :: σ, u :: ρ, 0, v, h => by
    simp at h
    subst h
    rw [List.set_cons_zero, pairs_sn, pairs_sn]
  | w :: σ, u :: ρ, i + 1, v, h => by
    have ih := pairs_setn (σ := σ) (ρ := ρ) (i := i) (v := v) (by simpa using h)
    rw [List.set_cons_succ]
    cases w with
    | none => rw [pairs_ns, pairs_ns, ih]
    | some w =>
      cases u with
      | none => rw [pairs_sn, pairs_sn, ih]
      | some u => rw [pairs_ss, pairs_ss, ih]
theorem pairs_put {σ : St} {ρ : Env} {i : Nat} {v : V} {o : O} (h1 : i < σ.length) (h2 : i < ρ.length) : (.ov v o :: pairs σ (ρ.set i none) : List Item).Perm (pairs (σ.set i (some v)) (ρ.set i (some o))) := by
  have e1 : (σ.set i (some v))[i]? = some (some v) := by simp [h1]
  have e2 : (ρ.set i (some o))[i]? = some (some o) := by simp [h2]
  have := pairs_take e1 e2
  rw [List.set_set] at this
  have e3 : pairs (σ.set i (some v)) (ρ.set i none) = pairs σ (ρ.set i none) := pairs_setn (by simp [h2])
  rw [e3] at this
  exact this.symm
/-- the value stands, what is known of it is another thing -/
theorem pairs_back {σ : St} {ρ : Env} {i : Nat} {v : V} {o : O} (h1 : σ[i]? = some (some v)) (h2 : i < ρ.length) : (.ov v o :: pairs σ (ρ.set i none) : List Item).Perm (pairs σ (ρ.set i (some o))) := by
  have e2 : (ρ.set i (some o))[i]? = some (some o) := by simp [h2]
  have := pairs_take h1 e2
  rw [List.set_set] at this
  exact this.symm

theorem Cov.set {σ : St} {ρ : Env} (c : Cov σ ρ) (i : Nat) (v : V) (o : O) : Cov (σ.set i (some v)) (ρ.set i (some o)) := by
  refine ⟨by simp [c.len], fun j q h => ?_⟩
  by_cases e : i = j
  · subst e
    have hj : i < ρ.length := by
      have := (List.getElem?_eq_some_iff.mp h).1
      simpa using this
    exact ⟨v, by simp [c.len, hj]⟩
  · rw [List.getElem?_set_ne e] at h ⊢
    exact c.ex j q h
theorem Cov.setn {σ : St} {ρ : Env} (c : Cov σ ρ) (i : Nat) : Cov σ (ρ.set i none) := by
  refine ⟨by simp [c.len], fun j q h => ?_⟩
  by_cases e : i = j
  · subst e
    have hj : i < ρ.length := by
      have := (List.getElem?_eq_some_iff.mp h).1
      simpa using this
    simp [hj] at h
  · rw [List.getElem?_set_ne e] at h
    exact c.ex j q h
theorem Cov.put {σ : St} {ρ : Env} {i : Nat} {v : V} (c : Cov σ ρ) (hv : σ[i]? = some (some v)) (o : O) : Cov σ (ρ.set i (some o)) := by
  refine ⟨by simp [c.len], fun j q h => ?_⟩
  by_cases e : i = j
  · subst e; exact ⟨v, hv⟩
  · rw [List.getElem?_set_ne e] at h
    exact c.ex j q h

/-! ### the judgements -/
section
variable (K : PySem.W.Frag) (mg : Str → Option Value)
/-- a reading that changes nothing: its value is lent -/
def tP (f : Pf) : TE := fun σ H Q => ∃ ρ T B o, Cov σ ρ ∧ Rep K mg H (pairs σ ρ ++ T) B ∧ f ρ = some o ∧ ∀ v H', Same H H' → Rep K mg H' (pairs σ ρ ++ T) ((v, o) :: B) → Q v H'
/-- an expression that may change what the environment owns -/
def tM (m : M O) : TE := fun σ H Q => ∃ ρ T o ρ', Cov σ ρ ∧ Rep K mg H (pairs σ ρ ++ T) [] ∧ m ρ = .ok o ρ' ∧ ∀ v H', Cov σ ρ' → Rep K mg H' (.ov v o :: (pairs σ ρ' ++ T)) [] → Q v H'
def tMT (m : M Bool) : TT := fun σ H Q => ∃ ρ T b ρ', Cov σ ρ ∧ Rep K mg H (pairs σ ρ ++ T) [] ∧ m ρ = .ok b ρ' ∧ ∀ H', Cov σ ρ' → Rep K mg H' (pairs σ ρ' ++ T) [] → Q b H'
/-- the slots P stand -/
def Fix (P : List Nat) (σ σ' : St) : Prop := σ'.length = σ.length ∧ ∀ i ∈ P, σ'[i]? = σ[i]?
def tS (P : List Nat) (m : M Fl) : TS := fun D σ H => ∃ ρ T, Cov σ ρ ∧ Rep K mg H (pairs σ ρ ++ T) [] ∧
  match m ρ with
  | .ok .nx ρ' => ∀ σ' H', Fix P σ σ' → Cov σ' ρ' → Rep K mg H' (pairs σ' ρ' ++ T) [] → D.nx σ' H'
  | .ok .brk ρ' => ∀ σ' H', Fix P σ σ' → Cov σ' ρ' → Rep K mg H' (pairs σ' ρ' ++ T) [] → D.bk σ' H'
  | .ok .ct ρ' => ∀ σ' H', Fix P σ σ' → Cov σ' ρ' → Rep K mg H' (pairs σ' ρ' ++ T) [] → D.ct σ' H'
  | .ok (.ret o) ρ' => ∀ v σ' H', Fix P σ σ' → Cov σ' ρ' → Rep K mg H' (.ov v o :: (pairs σ' ρ' ++ T)) [] → D.rt v H'
  | .exc _ _ => False
  | .no => False
end
theorem Fix.refl (P : List Nat) (σ : St) : Fix P σ σ := ⟨rfl, fun _ _ => rfl⟩
theorem Fix.trans {P : List Nat} {a b c : St} (h : Fix P a b) (q : Fix P b c) : Fix P a c := ⟨q.1.trans h.1, fun i hi => (q.2 i hi).trans (h.2 i hi)⟩
theorem Fix.set {P : List Nat} {σ : St} {i : Nat} {v : Option V} (h : i ∉ P) : Fix P σ (σ.set i v) := ⟨by simp, fun j hj => List.getElem?_set_ne fun e : i = j => h (by rw [e]; exact hj)⟩
theorem PE.imp {X : Cx} {e : Expr} {t t' : TE} (h : PE X e t) (q : ∀ σ H Q, t' σ H Q → t σ H Q) : PE X e t' := ⟨fun pins s σ H Q I w => h.run pins s σ H Q I (q σ H Q w)⟩
theorem PT.imp {X : Cx} {e : Expr} {t t' : TT} (h : PT X e t) (q : ∀ σ H Q, t' σ H Q → t σ H Q) : PT X e t' := ⟨fun pins s σ H Q I w => h.run pins s σ H Q I (q σ H Q w)⟩
theorem PS.imp {X : Cx} {e : Stmt} {t t' : TS} (h : PS X e t) (q : ∀ D σ H, t' D σ H → t D σ H) : PS X e t' := ⟨fun pins s σ H D I w => h.run pins s σ H D I (q D σ H w)⟩
theorem PSs.imp {X : Cx} {e : List Stmt} {t t' : TS} (h : PSs X e t) (q : ∀ D σ H, t' D σ H → t D σ H) : PSs X e t' := ⟨fun pins s σ H D I w => h.run pins s σ H D I (q D σ H w)⟩

def SP (X : Cx) (e : Expr) (f : Pf) : Prop := PE X e (tP X.K X.mg f)
def SE (X : Cx) (e : Expr) (m : M O) : Prop := PE X e (tM X.K X.mg m)
def SET (X : Cx) (e : Expr) (m : M Bool) : Prop := PT X e (tMT X.K X.mg m)
def SS (X : Cx) (P : List Nat) (st : Stmt) (m : M Fl) : Prop := PS X st (tS X.K X.mg P m)
def SSs (X : Cx) (P : List Nat) (st : List Stmt) (m : M Fl) : Prop := PSs X st (tS X.K X.mg P m)
/-- what every body stands in -/
structure CxOk (X : Cx) : Prop where
  calm : X.calm = true
  units : X.A.units + 65 < cLine
  nd : X.N.Nodup

/-! ### what is read of an owned tree whose parts are shared -/
def vals? : List O → Option (List D)
  | [] => some []
  | .val d :: os => (vals? os).map (d :: ·)
  | _ :: _ => none
theorem vals?_map : ∀ ds : List D, vals? (ds.map O.val) = some ds
  | [] => rfl
  | d :: ds => by show (vals? (ds.map O.val)).map _ = _; rw [vals?_map ds]; rfl
theorem vals?_eq : ∀ {os : List O} {ds : List D}, vals? os = some ds → os = ds.map O.val
  | [], ds, h => by cases h; rfl
  | .val d :: os, ds, h => by
    have h : (vals? os).map (d :: ·) = some ds := h
    cases e : vals? os with
    | none => rw [e] at h; cases h
    | some es =>
      rw [e] at h
      cases h
      rw [vals?_eq e]; rfl
  | .lst _ :: _, _, h => by cases h
  | .dct _ _ :: _, _, h => by cases h
  | .ins _ _ _ :: _, _, h => by cases h
def O.sh : O → Option D
  | .val d => some d
  | .lst os => (vals? os).map .lst
  | .dct ks os => (vals? os).map (.dct ks)
  | .ins c ns os => (vals? os).map (.ins c ns)
@[simp] theorem O.sh_val (d : D) : (O.val d).sh = some d := rfl
@[simp] theorem O.sh_lst (ds : List D) : (O.lst (ds.map O.val)).sh = some (.lst ds) := by show (vals? _).map _ = _; rw [vals?_map]; rfl
@[simp] theorem O.sh_dct (ks : List Key) (ds : List D) : (O.dct ks (ds.map O.val)).sh = some (.dct ks ds) := by show (vals? _).map _ = _; rw [vals?_map]; rfl
section
variable {K : PySem.W.Frag} {mg : Str → Option Value} {H : Hp} {L : List Item} {B : List (V × O)}
/-- what is lent and has shared parts alone: shown by the heap, its parts shared -/
theorem Rep.sh {x : V} {o : O} {d : D} (h : Rep K mg H L B) (hx : (x, o) ∈ B) (e : o.sh = some d) : Vw K mg H x d := by
  have q := h.view hx
  cases o with
  | val d' => cases e; exact q
  | lst os =>
    have e : (vals? os).map D.lst = some d := e
    cases e1 : vals? os with
    | none => rw [e1] at e; cases e
    | some ds =>
      rw [e1] at e; cases e
      have q : Vw K mg H x (.lst (O.toDs os)) := q
      rw [vals?_eq e1, toDs_vals] at q
      exact q
  | dct ks os =>
    have e : (vals? os).map (D.dct ks) = some d := e
    cases e1 : vals? os with
    | none => rw [e1] at e; cases e
    | some ds =>
      rw [e1] at e; cases e
      have q : Vw K mg H x (.dct ks (O.toDs os)) := q
      rw [vals?_eq e1, toDs_vals] at q
      exact q
  | ins c ns os =>
    have e : (vals? os).map (D.ins c ns) = some d := e
    cases e1 : vals? os with
    | none => rw [e1] at e; cases e
    | some ds =>
      rw [e1] at e; cases e
      have q : Vw K mg H x (.ins c ns (O.toDs os)) := q
      rw [vals?_eq e1, toDs_vals] at q
      exact q
/-- the parts of a lent list (tuple) of shared parts are shared -/
theorem Rep.items {ds : List D} {vs : List V} (h : ∃ A : List Addr, A.Nodup ∧ IsOk K mg (hide H A) H L A ∧ (∀ b ∈ B, ∃ as, VO K mg (hide H A) H b.1 b.2 as ∧ ∀ a ∈ as, a ∈ A) ∧ Vws K mg (hide H A) vs ds) : Rep K mg H (zipI vs (ds.map O.val) ++ L) B := by
  obtain ⟨A, nd, ok, hb, hv⟩ := h
  exact ⟨A, nd, IsOk.append (as := []) (IsOk.zip (VOs.vals hv)) ok, hb⟩
theorem rd_hide {A : List Addr} {a : Addr} {u : HO} (h : Rd (hide H A) a u) : Rd H a u := FB.Same.rd hide_sub h
theorem sqT_hide {A : List Addr} {a : Addr} {xs : List V} (h : SqT K (hide H A) a xs) : SqT K H a xs := FB.Same.seqT hide_sub h
theorem Rep.shL {x : V} {o : O} {ds : List D} (h : Rep K mg H L B) (hx : (x, o) ∈ B) (e : o.sh = some (.lst ds)) :
    ∃ p vs, x = .ref p ∧ Rd H p (.lst vs) ∧ vs.length = ds.length ∧ Rep K mg H (zipI vs (ds.map O.val) ++ L) B := by
  obtain ⟨A, nd, ok, hb⟩ := h
  obtain ⟨as, q, ha⟩ := hb _ hx
  cases q with
  | val q =>
    cases e
    cases q with
    | lst q qs => exact ⟨_, _, rfl, rd_hide q, qs.length, Rep.items ⟨A, nd, ok, hb, qs⟩⟩
  | lst q qs =>
    rename_i p vs os as'
    have e : (vals? os).map D.lst = some (.lst ds) := e
    cases e1 : vals? os with
    | none => rw [e1] at e; cases e
    | some es =>
      rw [e1] at e; cases e
      rw [vals?_eq e1] at qs
      obtain ⟨qs, _⟩ := VOs.of_vals qs
      exact ⟨_, _, rfl, .inl q, qs.length, Rep.items ⟨A, nd, ok, hb, qs⟩⟩
  | dct q hk qs =>
    rename_i kvs ks os as'
    have e : (vals? os).map (D.dct ks) = some (.lst ds) := e
    cases e1 : vals? os with
    | none => rw [e1] at e; cases e
    | some es => rw [e1] at e; cases e
  | ins q hm hn qs =>
    rename_i c ns os as'
    have e : (vals? os).map (D.ins c ns) = some (.lst ds) := e
    cases e1 : vals? os with
    | none => rw [e1] at e; cases e
    | some es => rw [e1] at e; cases e
theorem sh_val_of {o : O} {d : D} (e : o.sh = some d) (h1 : ∀ ds, d ≠ .lst ds) (h2 : ∀ ks ds, d ≠ .dct ks ds) (h3 : ∀ c ns ds, d ≠ .ins c ns ds) : o = .val d := by
  cases o with
  | val d' => cases e; rfl
  | lst os =>
    have e : (vals? os).map D.lst = some d := e
    cases e1 : vals? os with
    | none => rw [e1] at e; cases e
    | some es => rw [e1] at e; cases e; exact absurd rfl (h1 _)
  | dct ks os =>
    have e : (vals? os).map (D.dct ks) = some d := e
    cases e1 : vals? os with
    | none => rw [e1] at e; cases e
    | some es => rw [e1] at e; cases e; exact absurd rfl (h2 _ _)
  | ins c ns os =>
    have e : (vals? os).map (D.ins c ns) = some d := e
    cases e1 : vals? os with
    | none => rw [e1] at e; cases e
    | some es => rw [e1] at e; cases e; exact absurd rfl (h3 _ _ _)
theorem Rep.shT {x : V} {o : O} {ds : List D} (h : Rep K mg H L B) (hx : (x, o) ∈ B) (e : o.sh = some (.tup ds)) :
    ∃ p vs, x = .ref p ∧ SqT K H p vs ∧ vs.length = ds.length ∧ Rep K mg H (zipI vs (ds.map O.val) ++ L) B := by
  have e' := sh_val_of e (fun _ => by intro z; cases z) (fun _ _ => by intro z; cases z) (fun _ _ _ => by intro z; cases z)
  subst e'
  obtain ⟨A, nd, ok, hb⟩ := h
  obtain ⟨as, q, ha⟩ := hb _ hx
  cases q with
  | val q =>
    cases q with
    | tup q qs => exact ⟨_, _, rfl, sqT_hide q, qs.length, Rep.items ⟨A, nd, ok, hb, qs⟩⟩
theorem Rep.shInt {x : V} {o : O} {i : Int} (h : Rep K mg H L B) (hx : (x, o) ∈ B) (e : o.sh = some (.int i)) : x = .int i := by
  have q := h.sh hx e
  cases q; rfl
theorem Rep.shBl {x : V} {o : O} {b : Bool} (h : Rep K mg H L B) (hx : (x, o) ∈ B) (e : o.sh = some (.bl b)) : x = .bl b := by
  have q := h.sh hx e
  cases q; rfl
theorem Rep.shStr {x : V} {o : O} {s : Str} (h : Rep K mg H L B) (hx : (x, o) ∈ B) (e : o.sh = some (.str s)) : x = .str s := by
  have q := h.sh hx e
  cases q; rfl
theorem Rep.shNon {x : V} {o : O} (h : Rep K mg H L B) (hx : (x, o) ∈ B) (e : o.sh = some .non) : x = .non := by
  have q := h.sh hx e
  cases q; rfl
/-- a shared item goes (what is lent stands) -/
theorem Rep.dropV {v : V} {d : D} (h : Rep K mg H (.ov v (.val d) :: L) B) : Rep K mg H L B := by
  obtain ⟨A, nd, ok, hb⟩ := h
  cases ok with
  | cons h t =>
    cases h with
    | ov h =>
      cases h with
      | val h => exact ⟨_, nd, t, hb⟩
theorem Rep.dropVs : ∀ {vs : List V} {ds : List D}, Rep K mg H (zipI vs (ds.map O.val) ++ L) B → Rep K mg H L B
  | [], _, h => h
  | _ :: _, [], h => h
  | v :: vs, d :: ds, h => Rep.dropVs (vs := vs) (ds := ds) (Rep.dropV h)
/-- a new list of shared things, shared from now on -/
theorem Rep.newL {vs : List V} {ds : List D} {p : Addr} (h : Rep K mg H (zipI vs (ds.map O.val) ++ L) []) (e : vs.length = ds.length) (hp : H p = none) : Rep K mg (upd H p (.lst vs)) (.ov (.ref p) (.lst (ds.map O.val)) :: L) [] :=
  Rep.closeL (h.new hp) (by simpa using e)
theorem Rep.newT {vs : List V} {ds : List D} {p : Addr} (h : Rep K mg H (zipI vs (ds.map O.val) ++ L) []) (e : vs.length = ds.length) (hp : H p = none) : Rep K mg (upd H p (.tup vs)) (.ov (.ref p) (.val (.tup ds)) :: L) [] :=
  Rep.closeT (h.new hp) e
end

/-! ### names, constants -/
section
variable {X : Cx}
def pVar (i : Nat) : Pf := fun ρ => (ρ[i]?).join
theorem sp_var (i : Nat) {x : Str} {pos : Pos} (hN : X.N[i]? = some x := by rfl) (hv : Vis X.env.scope x := by first | exact Or.inl rfl | exact Or.inr (Or.inl rfl) | exact Or.inr (Or.inr rfl)) (hd : (x == ("__debug__" : Str)) = false := by decide)
    (hcd : (x == ("__classdict__" : Str)) = false := by decide) : SP X (.Name x pos) (pVar i) := by
  refine PE.imp (pv i hN hv hd hcd) fun σ H Q h => ?_
  obtain ⟨ρ, T, B, o, c, R, e, k⟩ := h
  have e1 : ρ[i]? = some (some o) := by
    unfold pVar at e
    cases q : ρ[i]? with
    | none => rw [q] at e; cases e
    | some u => rw [q] at e; cases u <;> cases e; rfl
  obtain ⟨v, hv⟩ := c.ex i o e1
  refine ⟨v, hv, k v H (Same.refl _) ?_⟩
  have p := (pairs_take hv e1).append_right T
  exact (R.perm p).lend.perm p.symm
/-- what is shared may be kept -/
def mP (f : Pf) : M O := fun ρ => match f ρ with
  | some (.val d) => .ok (.val d) ρ
  | _ => .no
theorem se_p {e : Expr} {f : Pf} (h : SP X e f) : SE X e (mP f) := by
  refine PE.imp h fun σ H Q q => ?_
  obtain ⟨ρ, T, o, ρ', c, R, e, k⟩ := q
  unfold mP at e
  cases z : f ρ with
  | none => rw [z] at e; cases e
  | some u =>
    rw [z] at e
    cases u with
    | val d =>
      cases e
      exact ⟨ρ, T, [], .val d, c, R, z, fun v H' _ R' => k v H' c R'.keep⟩
    | lst _ => cases e
    | dct _ _ => cases e
    | ins _ _ _ => cases e
/-- a name is read for the last time -/
def mMove (i : Nat) : M O := fun ρ => match ρ[i]? with
  | some (some o) => .ok o (ρ.set i none)
  | _ => .no
theorem se_move (i : Nat) {x : Str} {pos : Pos} (hN : X.N[i]? = some x := by rfl) (hv : Vis X.env.scope x := by first | exact Or.inl rfl | exact Or.inr (Or.inl rfl) | exact Or.inr (Or.inr rfl)) (hd : (x == ("__debug__" : Str)) = false := by decide)
    (hcd : (x == ("__classdict__" : Str)) = false := by decide) : SE X (.Name x pos) (mMove i) := by
  refine PE.imp (pv i hN hv hd hcd) fun σ H Q h => ?_
  obtain ⟨ρ, T, o, ρ', c, R, e, k⟩ := h
  unfold mMove at e
  split at e
  · rename_i o' e1
    cases e
    obtain ⟨v, hv⟩ := c.ex i _ e1
    exact ⟨v, hv, k v H (c.setn i) (R.perm ((pairs_take hv e1).append_right T))⟩
  · cases e
/-- a name's tree is shared from now on -/
def mFrz (i : Nat) : M O := fun ρ => match ρ[i]? with
  | some (some o) => .ok (.val o.toD) (ρ.set i (some (.val o.toD)))
  | _ => .no
theorem se_frz (i : Nat) {x : Str} {pos : Pos} (hN : X.N[i]? = some x := by rfl) (hv : Vis X.env.scope x := by first | exact Or.inl rfl | exact Or.inr (Or.inl rfl) | exact Or.inr (Or.inr rfl)) (hd : (x == ("__debug__" : Str)) = false := by decide)
    (hcd : (x == ("__classdict__" : Str)) = false := by decide) : SE X (.Name x pos) (mFrz i) := by
  refine PE.imp (pv i hN hv hd hcd) fun σ H Q h => ?_
  obtain ⟨ρ, T, o, ρ', c, R, e, k⟩ := h
  unfold mFrz at e
  split at e
  · rename_i o' e1
    cases e
    obtain ⟨v, hv⟩ := c.ex i _ e1
    have hl : i < ρ.length := (List.getElem?_eq_some_iff.mp e1).1
    have R1 := (R.perm ((pairs_take hv e1).append_right T)).frz
    have R2 : Rep X.K X.mg H (.ov v (.val o'.toD) :: (.ov v (.val o'.toD) :: pairs σ (ρ.set i none) ++ T)) [] := R1.lend.keep
    exact ⟨v, hv, k v H (c.put hv _) (R2.perm (((pairs_back hv hl).append_right T).cons _))⟩
  · cases e
def pC (d : D) : Pf := fun _ => some (.val d)
theorem sp_c {e : Expr} {v : V} {d : D} (h : PE X e (tC v)) (hv : ∀ G, Vw X.K X.mg G v d) : SP X e (pC d) := by
  refine PE.imp h fun σ H Q q => ?_
  obtain ⟨ρ, T, B, o, c, R, e, k⟩ := q
  cases e
  exact k v H (Same.refl _) (R.scalB hv)
theorem sp_int {i j pos} : SP X (.Constant (.int i) j pos) (pC (.int i)) := sp_c pe_int fun _ => .int i
theorem sp_bl {b j pos} : SP X (.Constant (.bool b) j pos) (pC (.bl b)) := sp_c pe_bl fun _ => .bl b
theorem sp_non {j pos} : SP X (.Constant .none j pos) (pC .non) := sp_c pe_non fun _ => .non
theorem sp_str {x j pos} (h : PyData.strOk x = true := by decide +kernel) : SP X (.Constant (.str x) j pos) (pC (.str x)) := sp_c pe_str fun _ => .str x h
end

/-! ### operations on values -/
def OpV (K : PySem.W.Frag) (mg : Str → Option Value) (r : R2) (f : O → O → Option O) : Prop :=
  ∀ (H : Hp) (L : List Item) (B : List (V × O)) (x y : V) (ox oy o : O) (Q : VK), Rep K mg H L B → (x, ox) ∈ B → (y, oy) ∈ B → f ox oy = some o → (∀ v H', Same H H' → Rep K mg H' L ((v, o) :: B) → Q v H') → r x y H Q
def UnV (K : PySem.W.Frag) (mg : Str → Option Value) (r : V → Hp → VK → Prop) (f : O → Option O) : Prop :=
  ∀ (H : Hp) (L : List Item) (B : List (V × O)) (x : V) (ox o : O) (Q : VK), Rep K mg H L B → (x, ox) ∈ B → f ox = some o → (∀ v H', Same H H' → Rep K mg H' L ((v, o) :: B) → Q v H') → r x H Q
def p2 (op : O → O → Option O) (f g : Pf) : Pf := fun ρ => (f ρ).bind fun a => (g ρ).bind fun b => op a b
def p1 (op : O → Option O) (f : Pf) : Pf := fun ρ => (f ρ).bind op
def okV (o : Option O) (ρ : Env) : Res O := match o with
  | some (.val d) => .ok (.val d) ρ
  | _ => .no
theorem okV_eq {o : Option O} {ρ ρ' : Env} {u : O} (h : okV o ρ = .ok u ρ') : ∃ d, o = some (.val d) ∧ u = .val d ∧ ρ' = ρ := by
  unfold okV at h
  split at h
  · cases h; exact ⟨_, rfl, rfl, rfl⟩
  · cases h
def m2 (op : O → O → Option O) (m n : M O) : M O := fun ρ => (m ρ).bind fun a ρ1 => (n ρ1).bind fun b ρ2 => okV (op a b) ρ2
def m1 (op : O → Option O) (m : M O) : M O := fun ρ => (m ρ).bind fun a ρ1 => okV (op a) ρ1
section
variable {X : Cx} {K : PySem.W.Frag} {mg : Str → Option Value}
theorem tOp_p {r : R2} {op : O → O → Option O} {f g : Pf} (h : OpV K mg r op) (σ : St) (H : Hp) (Q : VK) (q : tP K mg (p2 op f g) σ H Q) : tOp r (tP K mg f) (tP K mg g) σ H Q := by
  obtain ⟨ρ, T, B, o, c, R, e, k⟩ := q
  unfold p2 at e
  cases e1 : f ρ with
  | none => rw [e1] at e; cases e
  | some a =>
    cases e2 : g ρ with
    | none => rw [e1, e2] at e; cases e
    | some b =>
      rw [e1, e2] at e
      refine ⟨ρ, T, B, a, c, R, e1, fun x H1 s1 R1 => ⟨ρ, T, _, b, c, R1, e2, fun y H2 s2 R2 => ?_⟩⟩
      refine h H2 _ _ x y a b o Q R2 (by simp) (by simp) e fun v H3 s3 R3 => k v H3 (s1.trans (s2.trans s3)) (R3.bsub fun z hz => ?_)
      rcases List.mem_cons.mp hz with hz | hz
      · simp [hz]
      · simp [hz]
theorem tOp_m {r : R2} {op : O → O → Option O} {m n : M O} (h : OpV K mg r op) (σ : St) (H : Hp) (Q : VK) (q : tM K mg (m2 op m n) σ H Q) : tOp r (tM K mg m) (tM K mg n) σ H Q := by
  obtain ⟨ρ, T, o, ρ', c, R, e, k⟩ := q
  obtain ⟨a, ρ1, e1, e⟩ := Res.bind_eq e
  obtain ⟨b, ρ2, e2, e⟩ := Res.bind_eq e
  obtain ⟨d, e3, e4, e5⟩ := okV_eq e
  subst e4
  subst e5
  refine ⟨ρ, T, a, ρ1, c, R, e1, fun x H1 c1 R1 => ⟨ρ1, .ov x a :: T, b, ρ', c1, R1.perm List.perm_middle.symm, e2, fun y H2 c2 R2 => ?_⟩⟩
  -- y, the environment, x, T
  have R3 : Rep K mg H2 (.ov x a :: .ov y b :: (pairs σ ρ' ++ T)) [] := R2.perm ((List.perm_middle.cons _).trans (.swap _ _ _))
  have R4 := R3.lend.perm (.swap _ _ _) |>.lend
  refine h H2 _ _ x y a b _ Q R4 (by simp) (by simp) e3 fun v H3 _ R5 => k v H3 c2 ?_
  have R6 := R5.keep.nob
  exact ((R6.perm (.swap _ _ _)).drop.perm (.swap _ _ _)).drop
theorem tUn_p {r : V → Hp → VK → Prop} {op : O → Option O} {f : Pf} (h : UnV K mg r op) (σ : St) (H : Hp) (Q : VK) (q : tP K mg (p1 op f) σ H Q) : tUn r (tP K mg f) σ H Q := by
  obtain ⟨ρ, T, B, o, c, R, e, k⟩ := q
  unfold p1 at e
  cases e1 : f ρ with
  | none => rw [e1] at e; cases e
  | some a =>
    rw [e1] at e
    refine ⟨ρ, T, B, a, c, R, e1, fun x H1 s1 R1 => ?_⟩
    refine h H1 _ _ x a o Q R1 (by simp) e fun v H3 s3 R3 => k v H3 (s1.trans s3) (R3.bsub fun z hz => ?_)
    rcases List.mem_cons.mp hz with hz | hz
    · simp [hz]
    · simp [hz]
theorem tUn_m {r : V → Hp → VK → Prop} {op : O → Option O} {m : M O} (h : UnV K mg r op) (σ : St) (H : Hp) (Q : VK) (q : tM K mg (m1 op m) σ H Q) : tUn r (tM K mg m) σ H Q := by
  obtain ⟨ρ, T, o, ρ', c, R, e, k⟩ := q
  obtain ⟨a, ρ1, e1, e⟩ := Res.bind_eq e
  obtain ⟨d, e3, e4, e5⟩ := okV_eq e
  subst e4 e5
  refine ⟨ρ, T, a, ρ', c, R, e1, fun x H1 c1 R1 => ?_⟩
  refine h H1 _ _ x a _ Q R1.lend (by simp) e3 fun v H3 _ R5 => k v H3 c1 ?_
  exact (R5.keep.nob.perm (.swap _ _ _)).drop
theorem OpV.or {r r' : R2} {f g : O → O → Option O} (h : OpV K mg r f) (h' : OpV K mg r' g) : OpV K mg (fun x y H Q => r x y H Q ∨ r' x y H Q) (fun a b => (f a b).or (g a b)) := by
  intro H L B x y ox oy o Q R hx hy e k
  have e : (f ox oy).or (g ox oy) = some o := e
  cases e1 : f ox oy with
  | some u =>
    rw [e1] at e
    cases e
    exact .inl (h H L B x y ox oy _ Q R hx hy e1 k)
  | none =>
    rw [e1] at e
    exact .inr (h' H L B x y ox oy _ Q R hx hy e k)

/-! the shapes -/
variable {a b : Expr} {pos : Pos} {f g : Pf} {m n : M O} {r : R2} {op : O → O → Option O}
theorem sp_bin {o : Operator} (ho : OpR X (binaryOp o) r) (h : OpV X.K X.mg r op) (ha : SP X a f) (hb : SP X b g) : SP X (.BinOp a o b pos) (p2 op f g) := PE.imp (pe_op ho ha hb) (tOp_p h)
theorem se_bin {o : Operator} (ho : OpR X (binaryOp o) r) (h : OpV X.K X.mg r op) (ha : SE X a m) (hb : SE X b n) : SE X (.BinOp a o b pos) (m2 op m n) := PE.imp (pe_op ho ha hb) (tOp_m h)
theorem sp_cmp {o : CmpOp} (ho : OpR X (compareOp o) r) (h : OpV X.K X.mg r op) (ha : SP X a f) (hb : SP X b g) (hm : behindInMarks o b = false) : SP X (.Compare a [o] [b] pos) (p2 op f g) := PE.imp (pe_cmpR ho ha hb hm) (tOp_p h)
theorem se_cmp {o : CmpOp} (ho : OpR X (compareOp o) r) (h : OpV X.K X.mg r op) (ha : SE X a m) (hb : SE X b n) (hm : behindInMarks o b = false) : SE X (.Compare a [o] [b] pos) (m2 op m n) := PE.imp (pe_cmpR ho ha hb hm) (tOp_m h)
theorem sp_ix (ho : IxR X r) (h : OpV X.K X.mg r op) (ha : SP X a f) (hb : SP X b g) (hs : PlainIx b := by exact fun _ _ => rfl) : SP X (.Subscript a b pos) (p2 op f g) := PE.imp (pe_ix ho ha hb hs) (tOp_p h)
theorem se_ix (ho : IxR X r) (h : OpV X.K X.mg r op) (ha : SE X a m) (hb : SE X b n) (hs : PlainIx b := by exact fun _ _ => rfl) : SE X (.Subscript a b pos) (m2 op m n) := PE.imp (pe_ix ho ha hb hs) (tOp_m h)
theorem sp_un {o : UnaryOp} {r : V → Hp → VK → Prop} {op : O → Option O} (ho : UnR X (unaryOp o) r) (h : UnV X.K X.mg r op) (ha : SP X a f) : SP X (.UnaryOp o a pos) (p1 op f) := PE.imp (pe_un ho ha) (tUn_p h)
end
end FB

/-! Operations by values: arithmetic, comparisons, membership, subscripts. -/
namespace FB
open PySem PySem.Spec L2
open PyProof.Rows hiding St

/-! ### data as the library's data -/
mutual
def D.pd : D → PyData
  | .non => .none
  | .bl b => .bool b
  | .int i => .int i
  | .str s => .str s
  | .tup ds => .tuple (D.pds ds)
  | .lst ds => .list (D.pds ds)
  | .dct _ _ => .dict []
  | .ins _ _ _ => .dict []
  | .scr _ => .dict []
  | .fn _ => .dict []
def D.pds : List D → List PyData
  | [] => []
  | d :: ds => d.pd :: D.pds ds
end
theorem pds_map : ∀ ds : List D, D.pds ds = ds.map D.pd
  | [] => rfl
  | d :: ds => by show d.pd :: D.pds ds = _; rw [pds_map ds]; rfl
/-- no dict, no object, at most so deep -/
def D.okE : Nat → D → Bool
  | _, .non => true
  | _, .bl _ => true
  | _, .int _ => true
  | _, .str _ => true
  | 0, .tup _ => false
  | 0, .lst _ => false
  | n + 1, .tup ds => ds.all (D.okE n)
  | n + 1, .lst ds => ds.all (D.okE n)
  | _, .dct _ _ => false
  | _, .ins _ _ _ => false
  | _, .scr _ => false
  | _, .fn _ => false
theorem all_pds {ds : List D} {n : Nat} (h : ∀ d ∈ ds, d.pd.canLay0 = true ∧ d.pd.depth ≤ n) : PyData.canLayAll0 (D.pds ds) = true ∧ PyData.depthAll (D.pds ds) ≤ n := by
  induction ds with
  | nil => exact ⟨rfl, Nat.zero_le _⟩
  | cons d ds ih =>
    obtain ⟨h1, h2⟩ := h d (by simp)
    obtain ⟨h3, h4⟩ := ih fun e he => h e (by simp [he])
    refine ⟨?_, ?_⟩
    · show (d.pd.canLay0 && PyData.canLayAll0 (D.pds ds)) = true
      rw [h1, h3]; rfl
    · show max d.pd.depth (PyData.depthAll (D.pds ds)) ≤ n
      omega
section
variable {K : PySem.W.Frag} {mg : Str → Option Value} {G : Hp}
mutual
theorem Vw.lay : ∀ {v : V} {d : D} (n : Nat), Vw K mg G v d → d.okE n = true → d.pd.canLay0 = true ∧ d.pd.depth ≤ n
  | _, _, n, .non, _ => ⟨rfl, Nat.zero_le _⟩
  | _, _, n, .bl b, _ => ⟨rfl, Nat.zero_le _⟩
  | _, _, n, .int i, _ => ⟨rfl, Nat.zero_le _⟩
  | _, _, n, .str s h, _ => ⟨h, Nat.zero_le _⟩
  | _, _, 0, .tup _ _, e => by cases e
  | _, _, n + 1, .tup _ hs, e => by
    obtain ⟨a, b⟩ := all_pds (Vws.lay n hs e)
    exact ⟨a, Nat.succ_le_succ b⟩
  | _, _, 0, .lst _ _, e => by cases e
  | _, _, n + 1, .lst _ hs, e => by
    obtain ⟨a, b⟩ := all_pds (Vws.lay n hs e)
    exact ⟨a, Nat.succ_le_succ b⟩
  | _, _, n, .dct _ _ _, e => by cases n <;> cases e
  | _, _, n, .ins _ _ _ _, e => by cases n <;> cases e
  | _, _, n, .scr _, e => by cases n <;> cases e
  | _, _, n, .fn _, e => by cases n <;> cases e
theorem Vws.lay : ∀ {vs : List V} {ds : List D} (n : Nat), Vws K mg G vs ds → ds.all (D.okE n) = true → ∀ d ∈ ds, d.pd.canLay0 = true ∧ d.pd.depth ≤ n
  | _, _, n, .nil, _ => fun d hd => by simp at hd
  | _, _, n, .cons h t, e => fun d hd => by
    rw [List.all_cons, Bool.and_eq_true] at e
    rcases List.mem_cons.mp hd with q | hd
    · rw [q]; exact Vw.lay n h e.1
    · exact Vws.lay n t e.2 d hd
end
theorem Vw.shaped {v : V} {d : D} (h : Vw K mg G v d) (e : d.okE 9 = true) : SeqAt.shaped d.pd = true := by
  obtain ⟨a, b⟩ := h.lay 9 e
  unfold SeqAt.shaped
  rw [a, decide_eq_true (by omega : d.pd.depth ≤ 64)]
  rfl
mutual
theorem Vw.dp : ∀ {v : V} {d : D} (n : Nat), Vw K mg G v d → d.okE n = true → Dp K G v d.pd
  | _, _, n, .non, _ => .non
  | _, _, n, .bl b, _ => .bl b
  | _, _, n, .int i, _ => .int i
  | _, _, n, .str s h, _ => .str s
  | _, _, 0, .tup _ _, e => by cases e
  | _, _, n + 1, .tup h hs, e => .tup h (Vws.dp n hs e)
  | _, _, 0, .lst _ _, e => by cases e
  | _, _, n + 1, .lst h hs, e => .lst (.inl h) (Vws.dp n hs e)
  | _, _, n, .dct _ _ _, e => by cases n <;> cases e
  | _, _, n, .ins _ _ _ _, e => by cases n <;> cases e
  | _, _, n, .scr _, e => by cases n <;> cases e
  | _, _, n, .fn _, e => by cases n <;> cases e
theorem Vws.dp : ∀ {vs : List V} {ds : List D} (n : Nat), Vws K mg G vs ds → ds.all (D.okE n) = true → DpAll K G vs (D.pds ds)
  | _, _, n, .nil, _ => .nil
  | _, _, n, .cons h t, e => by
    rw [List.all_cons, Bool.and_eq_true] at e
    exact .cons (Vw.dp n h e.1) (Vws.dp n t e.2)
end
end
def D.eqv (a b : D) : Bool := PyData.eqv a.pd b.pd

/-! ### arithmetic -/
def lift2 (f : D → D → Option D) : O → O → Option O := fun a b => (a.sh).bind fun x => (b.sh).bind fun y => (f x y).map O.val
theorem lift2_eq {f : D → D → Option D} {a b o : O} (h : lift2 f a b = some o) : ∃ x y d, a.sh = some x ∧ b.sh = some y ∧ f x y = some d ∧ o = .val d := by
  unfold lift2 at h
  cases e1 : a.sh with
  | none => rw [e1] at h; cases h
  | some x =>
    cases e2 : b.sh with
    | none => rw [e1, e2] at h; cases h
    | some y =>
      rw [e1, e2] at h
      have h : (f x y).map O.val = some o := h
      cases e3 : f x y with
      | none => rw [e3] at h; cases h
      | some d => rw [e3] at h; cases h; exact ⟨x, y, d, rfl, rfl, e3, rfl⟩
def addD : D → D → Option D
  | .int i, .int j => some (.int (i + j))
  | .str s, .str t => if s.length + t.length ≤ 1000000 then some (.str (s ++ t)) else none
  | .lst xs, .lst ys => if xs.length + ys.length ≤ 1000000 then some (.lst (xs ++ ys)) else none
  | .tup xs, .tup ys => if xs.length + ys.length ≤ 1000000 then some (.tup (xs ++ ys)) else none
  | _, _ => none
def subD : D → D → Option D
  | .int i, .int j => some (.int (i - j))
  | _, _ => none
def mulOk (i j : Int) : Bool := decide (i.natAbs < 2 ^ 64) || decide (j.natAbs < 2 ^ 64) || decide (i.natAbs.log2 + j.natAbs.log2 < 1000000)
def repS (s : Str) (k : Nat) : Str := ⟨(List.replicate k s.cps.toList).flatten.toArray⟩
def mulD : D → D → Option D
  | .int i, .int j => if mulOk i j then some (.int (i * j)) else none
  | .lst xs, .int k => if k < 1000000 ∧ -1000000 < k ∧ xs.length * k.toNat ≤ 1000000 then some (.lst (List.replicate k.toNat xs).flatten) else none
  | .str s, .int k => if k < 1000000 ∧ -1000000 < k ∧ s.length * k.toNat ≤ 1000000 then some (.str (repS s k.toNat)) else none
  | _, _ => none
def fdivD : D → D → Option D
  | .int i, .int j => if 0 < j ∧ j.natAbs.log2 < 9000 then some (.int (i / j)) else none
  | _, _ => none
def modD : D → D → Option D
  | .int i, .int j => if 0 < j then some (.int (i % j)) else none
  | _, _ => none
def powD : D → D → Option D
  | .int i, .int j => if 0 ≤ j ∧ j ≤ 1000000 ∧ i.natAbs < 2 ^ 64 then some (.int (i ^ j.toNat)) else none
  | _, _ => none
def ltD : D → D → Option D
  | .int i, .int j => some (.bl (decide (i < j)))
  | _, _ => none
def leD : D → D → Option D
  | .int i, .int j => some (.bl (decide (i ≤ j)))
  | _, _ => none
def gtD : D → D → Option D
  | .int i, .int j => some (.bl (decide (j < i)))
  | _, _ => none
def geD : D → D → Option D
  | .int i, .int j => some (.bl (decide (j ≤ i)))
  | _, _ => none
theorem line6 {n : Nat} (h : n ≤ 1000000) : n ≤ sizeLine := by rw [sizeLine_eq]; omega
theorem strOk_append {s t : Str} (hs : PyData.strOk s = true) (ht : PyData.strOk t = true) : PyData.strOk (s ++ t) = true := by
  show ((s.cps ++ t.cps).all _) = true
  rw [Array.all_append, Bool.and_eq_true]
  exact ⟨hs, ht⟩
section
variable {K : PySem.W.Frag} {mg : Str → Option Value} {H : Hp} {L : List Item} {B : List (V × O)}
theorem Rep.strOk {x : V} {o : O} {s : Str} (h : Rep K mg H L B) (hx : (x, o) ∈ B) (e : o.sh = some (.str s)) : PyData.strOk s = true := by
  have q := h.sh hx e
  cases q with
  | str _ h => exact h
theorem Rep.bdup {b : V × O} (h : Rep K mg H L B) (hb : b ∈ B) : Rep K mg H L (b :: B) := h.bsub fun z hz => by
  rcases List.mem_cons.mp hz with e | hz
  · rw [e]; exact hb
  · exact hz
/-- a new list lent -/
theorem Rep.lentL {vs : List V} {ds : List D} {p : Addr} (h : Rep K mg H (zipI vs (ds.map O.val) ++ L) B) (e : vs.length = ds.length) (hp : H p = none) : Rep K mg (upd H p (.lst vs)) L ((.ref p, .val (.lst ds)) :: B) := by
  obtain ⟨A, nd, ok, hb⟩ := h
  obtain ⟨bs, cs, e2, t1, t2⟩ := ok.split
  subst e2
  obtain ⟨q, e3⟩ := VOs.of_vals (IsOk.unzip (by simpa using e) t1)
  subst e3
  have hA : p ∉ cs := fun z => by
    obtain ⟨u, q⟩ := t2.dom p z
    rw [hp] at q; cases q
  have s : Same (hide H ([] ++ cs)) (hide (upd H p (.lst vs)) cs) := hide_same fun a u ha q => ⟨ha, by rw [upd_ne (ne_of_none q hp)]; exact q⟩
  have hu : ∀ a ∈ cs, upd H p (.lst vs) a = H a := fun a ha => upd_ne fun z => hA (z ▸ ha)
  refine ⟨cs, nd, t2.mono s hu, fun b hb' => ?_⟩
  rcases List.mem_cons.mp hb' with e4 | hb'
  · subst e4
    exact ⟨[], .val (.lst (.inl (by rw [hide_out hA]; exact upd_same)) (q.mono s)), by simp⟩
  · obtain ⟨as, h1, h2⟩ := hb b hb'
    exact ⟨as, h1.mono s fun a ha => hu a (h2 a ha), h2⟩
theorem Rep.lentT {vs : List V} {ds : List D} {p : Addr} (h : Rep K mg H (zipI vs (ds.map O.val) ++ L) B) (e : vs.length = ds.length) (hp : H p = none) : Rep K mg (upd H p (.tup vs)) L ((.ref p, .val (.tup ds)) :: B) := by
  obtain ⟨A, nd, ok, hb⟩ := h
  obtain ⟨bs, cs, e2, t1, t2⟩ := ok.split
  subst e2
  obtain ⟨q, e3⟩ := VOs.of_vals (IsOk.unzip (by simpa using e) t1)
  subst e3
  have hA : p ∉ cs := fun z => by
    obtain ⟨u, q⟩ := t2.dom p z
    rw [hp] at q; cases q
  have s : Same (hide H ([] ++ cs)) (hide (upd H p (.tup vs)) cs) := hide_same fun a u ha q => ⟨ha, by rw [upd_ne (ne_of_none q hp)]; exact q⟩
  have hu : ∀ a ∈ cs, upd H p (.tup vs) a = H a := fun a ha => upd_ne fun z => hA (z ▸ ha)
  refine ⟨cs, nd, t2.mono s hu, fun b hb' => ?_⟩
  rcases List.mem_cons.mp hb' with e4 | hb'
  · subst e4
    exact ⟨[], .val (.tup (.inl (.inl (by rw [hide_out hA]; exact upd_same))) (q.mono s)), by simp⟩
  · obtain ⟨as, h1, h2⟩ := hb b hb'
    exact ⟨as, h1.mono s fun a ha => hu a (h2 a ha), h2⟩
end
/-! ### the rules over what may be read -/
section
variable {X : Cx}
theorem Inv.rdL {pins : List (Addr × Obj)} {σ : St} {H : Hp} {s : Shared} {l : Addr} {xs : List V} (I : Inv X pins σ H s) (h : Rd H l (.lst xs)) : xs.length ≤ sizeLine ∧ ∃ (its : List Value) (n : Nat), Vals xs its ∧ xs.length = its.length ∧ s.heap.get? l = some { cls := .type "list", data := .seq its.toArray n } := by
  obtain ⟨z, its, n, r, e⟩ := h.ok I.hok
  exact ⟨z, its, n, r, r.length, e⟩
def rCatR : R2 := fun x y H Q => ∃ l b xs zs, x = .ref l ∧ y = .ref b ∧ Rd H l (.lst xs) ∧ Rd H b (.lst zs) ∧ xs.length + zs.length ≤ sizeLine ∧ ∀ p, H p = none → Q (.ref p) (upd H p (.lst (xs ++ zs)))
theorem op_catR : OpR X (binaryOp .Add) rCatR := by
  intro pins s σ H x y v u Q I rx ry h
  obtain ⟨l, b, xs, zs, rfl, rfl, hH, hB, hz, q⟩ := h
  cases rx
  cases ry
  obtain ⟨z, its, n, r, hl, e⟩ := Inv.rdL I hH
  obtain ⟨z2, its2, n2, r2, hl2, e2⟩ := Inv.rdL I hB
  refine PySem.P.add_list e e2 ?_ (by rw [List.size_toArray, List.size_toArray]; omega)
  have ea : its.toArray ++ its2.toArray = (its ++ its2).toArray := by simp
  rw [ea]
  exact ⟨.ref _, _, I.lnew (t' := s.toks) (r.append r2) (by rw [List.length_append]; omega), rfl, q _ I.fresh⟩
def rRepR : R2 := fun x y H Q => ∃ l k xs, x = .ref l ∧ y = .int k ∧ Rd H l (.lst xs) ∧ -(2 ^ 63) ≤ k ∧ k < 2 ^ 63 ∧ xs.length * k.toNat ≤ sizeLine ∧
  ∀ p, H p = none → Q (.ref p) (upd H p (.lst (List.replicate k.toNat xs).flatten))
theorem op_repR : OpR X (binaryOp .Mult) rRepR := by
  intro pins s σ H x y v u Q I rx ry h
  obtain ⟨l, k, xs, rfl, rfl, hH, h1, h2, hz, q⟩ := h
  cases rx
  obtain ⟨t, rfl⟩ := ry
  obtain ⟨z, its, n, r, hl, e⟩ := Inv.rdL I hH
  have hlen : its.toArray.size * k.toNat ≤ sizeLine := by rw [List.size_toArray, ← hl]; exact hz
  have hcap : ¬ its.toArray.size * k.toNat > (2 ^ 63 - 1) / 8 := by
    have : (sizeLine : Nat) ≤ (2 ^ 63 - 1) / 8 := by decide
    omega
  have hfit : ¬ (!Builtin.List.listFitsIndex k) = true := by
    rw [fitsIndex_both h1 h2]
    exact Bool.false_ne_true
  have hlong : ¬ Builtin.List.listTooLong (its.toArray.size * k.toNat) = true := by
    rw [notLongL hlen]
    exact Bool.false_ne_true
  have hnew : List.foldl (fun x1 x2 => x1 ++ x2) #[] (List.replicate (if its.toArray.isEmpty = true then 0 else k.toNat) its.toArray) = (List.replicate k.toNat its).flatten.toArray := by
    have f0 : ∀ m : Nat, List.foldl (fun x1 x2 => x1 ++ x2) #[] (List.replicate m its.toArray) = (List.replicate m its).flatten.toArray := fun m => by
      have := foldl_rep its m []
      rw [List.nil_append] at this
      exact this
    rw [f0]
    cases its with
    | nil => simp
    | cons a r' => rw [if_neg (by simp)]
  refine wpAny_binaryOp_repeat_ref (T := "list") (U := "int") (by decide) ⟨_, e, rfl⟩ (fun s' => typeIs_int s' k t) noFill_list_mul F.fills_int_mul F.slot_int_rmul repeat_list F.slot_int_index.lookup
    (call_meets F.slot_int_rmul (typeIs_int s k t) F.entry_int_rmul (F.args_int_rmul_2 _ _) (int___rmul___int_list k t l its.toArray n)
      ⟨e, rfl, ⟨_, e, rfl⟩, call_meets F.slot_list_mul ⟨_, e, rfl⟩ F.entry_list_mul (F.args_list_mul_2 _ _) (AutoListH.list___mul___list_int_3 l its.toArray n k t hfit hcap hlong) ⟨e, ?_⟩⟩)
  rw [hnew]
  exact ⟨.ref _, _, I.lnew (t' := s.toks) (r.rep k.toNat) (by rw [PyProof.Rows.lm_len_rep_flat, Nat.mul_comm]; exact hz), rfl, q _ I.fresh⟩
end

theorem Rep.nth {K : PySem.W.Frag} {mg : Str → Option Value} {H : Hp} {L : List Item} {B : List (V × O)} {vs : List V} {ds : List D} {i : Nat} {v : V} {d : D} (h : Rep K mg H (zipI vs (ds.map O.val) ++ L) B) (h1 : vs[i]? = some v) (h2 : ds[i]? = some d) : Rep K mg H L ((v, .val d) :: B) := by
  obtain ⟨A, nd, ok, hb⟩ := h
  obtain ⟨bs, cs, e2, t1, t2⟩ := ok.split
  have hv : ∀ {vs : List V} {ds : List D} {as : List Addr} {i : Nat} {v : V} {d : D}, IsOk K mg (hide H A) H (zipI vs (ds.map O.val)) as → vs[i]? = some v → ds[i]? = some d → Vw K mg (hide H A) v d := by
    intro vs
    induction vs with
    | nil => intro ds as i v d _ h1 _; simp at h1
    | cons w vs ih =>
      intro ds as i v d t h1 h2
      cases ds with
      | nil => simp at h2
      | cons e ds =>
        cases t with
        | cons t r =>
          cases i with
          | zero =>
            simp at h1 h2
            subst h1 h2
            cases t with
            | ov t => cases t with
              | val t => exact t
          | succ i => exact ih r (by simpa using h1) (by simpa using h2)
  have q := hv t1 h1 h2
  have e0 : ∀ {vs : List V} {ds : List D} {as : List Addr}, IsOk K mg (hide H A) H (zipI vs (ds.map O.val)) as → as = [] := by
    intro vs
    induction vs with
    | nil => intro ds as t; cases ds <;> cases t <;> rfl
    | cons w vs ih =>
      intro ds as t
      cases ds with
      | nil => cases t; rfl
      | cons e ds =>
        cases t with
        | cons t r =>
          have := ih r
          subst this
          cases t with
          | ov t => cases t with
            | val t => rfl
  have e3 := e0 t1
  subst e3
  rw [List.nil_append] at e2
  subst e2
  refine ⟨A, nd, t2, fun b hb' => ?_⟩
  rcases List.mem_cons.mp hb' with e4 | hb'
  · subst e4; exact ⟨[], .val q, by simp⟩
  · exact hb b hb'

section
variable {X : Cx} {K : PySem.W.Frag} {mg : Str → Option Value}
/-- ints in, a shown scalar out -/
theorem opv_int0 {g : Int → Int → V} {f : D → D → Option D} (hf : ∀ x y d, f x y = some d → ∃ i j, x = .int i ∧ y = .int j ∧ ∀ G, Vw K mg G (g i j) d) : OpV K mg (rI0 g) (lift2 f) := by
  intro H L B x y ox oy o Q R hx hy e k
  obtain ⟨a, b, d, e1, e2, e3, rfl⟩ := lift2_eq e
  obtain ⟨i, j, rfl, rfl, hv⟩ := hf a b d e3
  exact ⟨i, j, R.shInt hx e1, R.shInt hy e2, k _ _ (Same.refl _) (R.scalB hv)⟩
theorem opv_int {C : Int → Int → Prop} {g : Int → Int → V} {f : D → D → Option D} (hf : ∀ x y d, f x y = some d → ∃ i j, x = .int i ∧ y = .int j ∧ C i j ∧ ∀ G, Vw K mg G (g i j) d) : OpV K mg (rI C g) (lift2 f) := by
  intro H L B x y ox oy o Q R hx hy e k
  obtain ⟨a, b, d, e1, e2, e3, rfl⟩ := lift2_eq e
  obtain ⟨i, j, rfl, rfl, hc, hv⟩ := hf a b d e3
  exact ⟨i, j, R.shInt hx e1, R.shInt hy e2, hc, k _ _ (Same.refl _) (R.scalB hv)⟩
def rAddF (K : PySem.W.Frag) : R2 := fun x y H Q => rI0 (fun i j => .int (i + j)) x y H Q ∨ ((∃ i j, x = .str i ∧ y = .str j ∧ i.length + j.length ≤ sizeLine ∧ Q (.str (i ++ j)) H) ∨ (rCatR x y H Q ∨ rCatA K x y H Q))
theorem op_addF : OpR X (binaryOp .Add) (rAddF X.K) := op_add.or (op_add_str.or (op_catR.or op_catA))
theorem opv_add : OpV K mg (rAddF K) (lift2 addD) := by
  intro H L B x y ox oy o Q R hx hy e k
  obtain ⟨a, b, d, e1, e2, e3, rfl⟩ := lift2_eq e
  unfold addD at e3
  split at e3
  · cases e3
    exact .inl ⟨_, _, R.shInt hx e1, R.shInt hy e2, k _ _ (Same.refl _) (R.scalB fun _ => .int _)⟩
  · split at e3
    · cases e3
      rename_i h
      refine .inr (.inl ⟨_, _, R.shStr hx e1, R.shStr hy e2, line6 h, k _ _ (Same.refl _) (R.scalB fun _ => .str _ (strOk_append (R.strOk hx e1) (R.strOk hy e2)))⟩)
    · cases e3
  · split at e3
    · cases e3
      rename_i xs ys h
      obtain ⟨p, vs, rfl, hp, lp, R1⟩ := R.shL hx e1
      obtain ⟨q, ws, rfl, hq, lq, R2⟩ := R1.shL hy e2
      refine .inr (.inr (.inl ⟨p, q, vs, ws, rfl, rfl, hp, hq, line6 (by omega), fun r hr => k _ _ (sameNew hr) ?_⟩))
      refine Rep.lentL (vs := vs ++ ws) (ds := xs ++ ys) ?_ (by simp [lp, lq]) hr
      have ez : zipI (vs ++ ws) ((xs ++ ys).map O.val) = zipI vs (xs.map O.val) ++ zipI ws (ys.map O.val) := by
        unfold zipI
        rw [List.map_append, List.zipWith_append (by simpa using lp)]
      rw [ez, List.append_assoc]
      exact R2.perm (by rw [← List.append_assoc, ← List.append_assoc]; exact List.perm_append_comm.append_right L)
    · cases e3
  · split at e3
    · cases e3
      rename_i xs ys h
      obtain ⟨p, vs, rfl, hp, lp, R1⟩ := R.shT hx e1
      obtain ⟨q, ws, rfl, hq, lq, R2⟩ := R1.shT hy e2
      have ea := sh_val_of e1 (fun _ => by intro z; cases z) (fun _ _ => by intro z; cases z) (fun _ _ _ => by intro z; cases z)
      have eb := sh_val_of e2 (fun _ => by intro z; cases z) (fun _ _ => by intro z; cases z) (fun _ _ _ => by intro z; cases z)
      subst ea eb
      refine .inr (.inr (.inr ⟨p, q, vs, ws, rfl, rfl, hp, hq, line6 (by omega), fun e => k _ _ (Same.refl _) ?_, fun _ e => k _ _ (Same.refl _) ?_, fun _ _ r hr => k _ _ (sameNew hr) ?_⟩))
      · have : xs = [] := List.eq_nil_of_length_eq_zero (by rw [← lp, e]; rfl)
        subst this
        exact R.bdup hy
      · have : ys = [] := List.eq_nil_of_length_eq_zero (by rw [← lq, e]; rfl)
        subst this
        rw [List.append_nil]
        exact R.bdup hx
      · refine Rep.lentT (vs := vs ++ ws) (ds := xs ++ ys) ?_ (by simp [lp, lq]) hr
        have ez : zipI (vs ++ ws) ((xs ++ ys).map O.val) = zipI vs (xs.map O.val) ++ zipI ws (ys.map O.val) := by
          unfold zipI
          rw [List.map_append, List.zipWith_append (by simpa using lp)]
        rw [ez, List.append_assoc]
        exact R2.perm (by rw [← List.append_assoc, ← List.append_assoc]; exact List.perm_append_comm.append_right L)
    · cases e3
  · cases e3
theorem opv_sub : OpV K mg (rI0 fun i j => .int (i - j)) (lift2 subD) := opv_int0 fun x y d e => by
  unfold subD at e
  split at e
  · cases e; exact ⟨_, _, rfl, rfl, fun _ => .int _⟩
  · cases e
theorem opv_lt : OpV K mg (rI0 fun i j => .bl (decide (i < j))) (lift2 ltD) := opv_int0 fun x y d e => by
  unfold ltD at e
  split at e
  · cases e; exact ⟨_, _, rfl, rfl, fun _ => .bl _⟩
  · cases e
theorem opv_le : OpV K mg (rI0 fun i j => .bl (decide (i ≤ j))) (lift2 leD) := opv_int0 fun x y d e => by
  unfold leD at e
  split at e
  · cases e; exact ⟨_, _, rfl, rfl, fun _ => .bl _⟩
  · cases e
theorem opv_gt : OpV K mg (rI0 fun i j => .bl (decide (j < i))) (lift2 gtD) := opv_int0 fun x y d e => by
  unfold gtD at e
  split at e
  · cases e; exact ⟨_, _, rfl, rfl, fun _ => .bl _⟩
  · cases e
theorem opv_ge : OpV K mg (rI0 fun i j => .bl (decide (j ≤ i))) (lift2 geD) := opv_int0 fun x y d e => by
  unfold geD at e
  split at e
  · cases e; exact ⟨_, _, rfl, rfl, fun _ => .bl _⟩
  · cases e
theorem opv_fdiv : OpV K mg (rI CDivW fun i j => .int (i / j)) (lift2 fdivD) := opv_int fun x y d e => by
  unfold fdivD at e
  split at e
  · split at e
    · rename_i h
      cases e; exact ⟨_, _, rfl, rfl, h, fun _ => .int _⟩
    · cases e
  · cases e
theorem opv_mod : OpV K mg (rI (fun _ j => 0 < j) fun i j => .int (i % j)) (lift2 modD) := opv_int fun x y d e => by
  unfold modD at e
  split at e
  · split at e
    · rename_i h
      cases e; exact ⟨_, _, rfl, rfl, h, fun _ => .int _⟩
    · cases e
  · cases e
theorem opv_pow : OpV K mg (rI CPow fun i j => .int (i ^ j.toNat)) (lift2 powD) := opv_int fun x y d e => by
  unfold powD at e
  split at e
  · split at e
    · rename_i h
      cases e; exact ⟨_, _, rfl, rfl, h, fun _ => .int _⟩
    · cases e
  · cases e
theorem foldl_repN (its : List Nat) : ∀ (k : Nat) (acc : List Nat), List.foldl (fun x1 x2 => x1 ++ x2) acc.toArray (List.replicate k its.toArray) = (acc ++ (List.replicate k its).flatten).toArray
  | 0, acc => by simp
  | k + 1, acc => by
    have e : acc.toArray ++ its.toArray = (acc ++ its).toArray := by simp
    rw [List.replicate_succ, List.foldl_cons, e, foldl_repN its k, List.replicate_succ, List.flatten_cons, List.append_assoc]
/-- a text again and again -/
def rRepS : R2 := fun x y H Q => ∃ s k, x = .str s ∧ y = .int k ∧ k < 1000000 ∧ -1000000 < k ∧ s.length * k.toNat ≤ 1000000 ∧ Q (.str (repS s k.toNat)) H
theorem op_repS : OpR X (binaryOp .Mult) rRepS := by
  intro pins s σ H x y v u Q I rx ry h
  obtain ⟨z, k, rfl, rfl, h1, h2, h3, q⟩ := h
  obtain ⟨t, rfl⟩ := rx
  obtain ⟨t', rfl⟩ := ry
  have hl : z.cps.toList.length = z.length := by simp [Str.length]
  refine P.mul_str ?_ ?_ ?_ ?_
  · have l63 : (2 : Int) ^ 63 = 9223372036854775808 := by decide
    rw [l63]
    have d1 : ¬ k < -9223372036854775808 := by omega
    have d2 : ¬ k ≥ 9223372036854775808 := by omega
    rw [decide_eq_false d1, decide_eq_false d2]; rfl
  · intro a1 _ a3
    have hk : 1 ≤ k := by omega
    have h4 : (z.length : Int) * k ≤ 1000000 := by
      have : (z.length : Int) * (k.toNat : Int) ≤ 1000000 := by rw [← Int.natCast_mul]; exact Int.ofNat_le.mpr h3
      rwa [show ((k.toNat : Nat) : Int) = k by omega] at this
    have l63 : (2 : Int) ^ 63 = 9223372036854775808 := by decide
    have h6 : (z.length : Int) ≤ (9223372036854775808 - 1) / k := Int.le_ediv_of_mul_le (by omega) (Int.le_trans h4 (by decide))
    rw [l63] at a3
    exact absurd a3 (Int.not_lt.mpr h6)
  · intro _ _
    unfold Builtin.Str.tooLong
    have : ¬ z.length * k.toNat > sizeLine := by rw [sizeLine_eq]; omega
    exact decide_eq_false this
  · by_cases a1 : k < 1
    · rw [if_pos a1]
      have e : repS z k.toNat = Str.empty := by unfold repS; rw [show k.toNat = 0 by omega]; rfl
      rw [e] at q
      exact ⟨by decide, .str Str.empty, H, I.tok _, ⟨_, rfl⟩, q⟩
    · rw [if_neg a1]
      by_cases a2 : (k == 1 || z.length == 0) = true
      · rw [if_pos a2]
        have e : repS z k.toNat = z := by
          unfold repS
          rw [Bool.or_eq_true, beq_iff_eq, beq_iff_eq] at a2
          rcases a2 with a2 | a2
          · rw [show k.toNat = 1 by omega]; simp
          · have : z.cps.toList = [] := by rw [← hl] at a2; exact List.eq_nil_of_length_eq_zero a2
            rw [this]
            have z0 : z = ⟨#[]⟩ := by
              cases z with
              | mk a =>
                have : a = #[] := by apply Array.toList_inj.mp; exact this
                rw [this]
            rw [z0]
            have : ∀ m : Nat, (List.replicate m ([] : List Nat)).flatten = [] := fun m => by simp
            rw [this]
        rw [e] at q
        exact ⟨.str z, H, I, ⟨_, rfl⟩, q⟩
      · rw [if_neg a2]
        have e : (⟨(List.replicate k.toNat z.cps).foldl (· ++ ·) #[]⟩ : Str) = repS z k.toNat := by
          unfold repS
          have := foldl_repN z.cps.toList k.toNat []
          rw [List.nil_append] at this
          rw [← this]
        rw [e]
        refine ⟨?_, .str (repS z k.toNat), H, I.tok _, ⟨_, rfl⟩, q⟩
        have : (repS z k.toNat).length ≤ 1000000 := by
          show (repS z k.toNat).cps.size ≤ _
          unfold repS
          simp
          rw [show z.cps.size = z.length from rfl, Nat.mul_comm]; exact h3
        first
          | (rw [sizeLine_eq]; omega)
          | (have := this; show _ ≤ sizeLine; rw [sizeLine_eq]; omega)
theorem repS_ok {s : Str} (h : PyData.strOk s = true) (k : Nat) : PyData.strOk (repS s k) = true := by
  have q : ∀ c ∈ s.cps.toList, decide (c < 0x110000) = true := by
    have h : s.cps.all (· < 0x110000) = true := h
    rw [← Array.all_toList, List.all_eq_true] at h
    exact h
  show (repS s k).cps.all (· < 0x110000) = true
  rw [← Array.all_toList, List.all_eq_true]
  intro c hc
  have hc : c ∈ (List.replicate k s.cps.toList).flatten := hc
  obtain ⟨l, hl, hm⟩ := List.mem_flatten.mp hc
  rw [(List.mem_replicate.mp hl).2] at hm
  exact q c hm
def rMulF (K : PySem.W.Frag) : R2 := fun x y H Q => rI CMul (fun i j => .int (i * j)) x y H Q ∨ (rI CMulW (fun i j => .int (i * j)) x y H Q ∨ (rRepR x y H Q ∨ rRepS x y H Q))
theorem op_mulF : OpR X (binaryOp .Mult) (rMulF X.K) := op_mul.or (op_mulW.or (op_repR.or op_repS))
theorem zip_rep (vs : List V) (xs : List D) (lp : vs.length = xs.length) : ∀ n : Nat, zipI (List.replicate n vs).flatten ((List.replicate n xs).flatten.map O.val) = (List.replicate n (zipI vs (xs.map O.val))).flatten
  | 0 => rfl
  | n + 1 => by
    rw [List.replicate_succ, List.replicate_succ, List.replicate_succ, List.flatten_cons, List.flatten_cons, List.flatten_cons, ← zip_rep vs xs lp n]
    unfold zipI
    rw [List.map_append, List.zipWith_append (by simpa using lp)]
theorem len_rep {α β : Type} (vs : List α) (xs : List β) (lp : vs.length = xs.length) : ∀ n : Nat, (List.replicate n vs).flatten.length = (List.replicate n xs).flatten.length
  | 0 => rfl
  | n + 1 => by rw [List.replicate_succ, List.replicate_succ, List.flatten_cons, List.flatten_cons, List.length_append, List.length_append, lp, len_rep vs xs lp n]
/-- shared items again and again -/
theorem Rep.again {H : Hp} {L : List Item} {B : List (V × O)} {vs : List V} {xs : List D} (R : Rep K mg H (zipI vs (xs.map O.val) ++ L) B) : ∀ n : Nat, Rep K mg H ((List.replicate n (zipI vs (xs.map O.val))).flatten ++ L) B
  | 0 => R.dropVs
  | n + 1 => by
    have ih := Rep.again R n
    obtain ⟨A, nd, ok, hb⟩ := R
    obtain ⟨A', nd', ok', hb'⟩ := ih
    obtain ⟨bs, cs, e2, t1, t2⟩ := ok.split
    have e0 : ∀ {vs : List V} {ds : List D} {as : List Addr}, IsOk K mg (hide H A) H (zipI vs (ds.map O.val)) as → as = [] := by
      intro vs
      induction vs with
      | nil => intro ds as t; cases ds <;> cases t <;> rfl
      | cons w vs ih =>
        intro ds as t
        cases ds with
        | nil => cases t; rfl
        | cons e ds =>
          cases t with
          | cons t r =>
            have := ih r
            subst this
            cases t with
            | ov t => cases t with
              | val t => rfl
    have e3 := e0 t1
    subst e3
    rw [List.nil_append] at e2
    subst e2
    refine ⟨A, nd, ?_, hb⟩
    rw [List.replicate_succ, List.flatten_cons, List.append_assoc]
    refine IsOk.append (as := []) t1 ?_
    clear hb' ok' nd' ok hb
    induction n with
    | zero => exact t2
    | succ n ih =>
      rw [List.replicate_succ, List.flatten_cons, List.append_assoc]
      exact IsOk.append (as := []) t1 ih
theorem opv_mul : OpV K mg (rMulF K) (lift2 mulD) := by
  intro H L B x y ox oy o Q R hx hy e k
  obtain ⟨a, b, d, e1, e2, e3, rfl⟩ := lift2_eq e
  unfold mulD at e3
  split at e3
  · split at e3
    · rename_i i j h
      cases e3
      have q := k _ H (Same.refl _) (R.scalB (v := .int (i * j)) (d := .int (i * j)) fun _ => .int _)
      unfold mulOk at h
      simp only [Bool.or_eq_true, decide_eq_true_eq] at h
      rcases h with (h | h) | h
      · exact .inl ⟨i, j, R.shInt hx e1, R.shInt hy e2, .inl (by omega), q⟩
      · exact .inl ⟨i, j, R.shInt hx e1, R.shInt hy e2, .inr (by omega), q⟩
      · exact .inr (.inl ⟨i, j, R.shInt hx e1, R.shInt hy e2, h, q⟩)
    · cases e3
  · split at e3
    · rename_i xs j h
      cases e3
      obtain ⟨p, vs, rfl, hp, lp, R1⟩ := R.shL hx e1
      obtain ⟨h1, h2, h3⟩ := h
      refine .inr (.inr (.inl ⟨p, j, vs, rfl, R.shInt hy e2, hp, by omega, by omega, line6 (by rw [lp]; exact h3), fun r hr => k _ _ (sameNew hr) ?_⟩))
      refine Rep.lentL ?_ (len_rep _ _ lp _) hr
      rw [zip_rep _ _ lp]
      exact Rep.again R1 _
    · cases e3
  · split at e3
    · rename_i s j h
      cases e3
      obtain ⟨h1, h2, h3⟩ := h
      exact .inr (.inr (.inr ⟨s, j, R.shStr hx e1, R.shInt hy e2, h1, h2, h3, k _ _ (Same.refl _) (R.scalB fun _ => .str _ (repS_ok (R.strOk hx e1) _))⟩))
    · cases e3
  · cases e3
end
end FB

/-! Comparisons, membership, subscripts, slices, built-ins. -/
namespace FB
open PySem PySem.Spec L2
open PyProof.Rows hiding St

section
variable {X : Cx} {K : PySem.W.Frag} {mg : Str → Option Value}
/-! ### == and != -/
def eqO (a b : O) : Option O := if (a.toD.okE 9 && b.toD.okE 9) = true then some (.val (.bl (a.toD.eqv b.toD))) else none
def neO (a b : O) : Option O := if (a.toD.okE 9 && b.toD.okE 9) = true then some (.val (.bl (!a.toD.eqv b.toD))) else none
theorem opv_eq : OpV K mg (rEqD K) eqO := by
  intro H L B x y ox oy o Q R hx hy e k
  unfold eqO at e
  split at e
  · rename_i h
    cases e
    rw [Bool.and_eq_true] at h
    have v1 : Vw K mg H x ox.toD := R.view hx
    have v2 : Vw K mg H y oy.toD := R.view hy
    exact ⟨_, _, v1.dp 9 h.1, v2.dp 9 h.2, v1.shaped h.1, v2.shaped h.2, k _ _ (Same.refl _) (R.scalB fun _ => .bl _)⟩
  · cases e
theorem opv_ne : OpV K mg (rNeD K) neO := by
  intro H L B x y ox oy o Q R hx hy e k
  unfold neO at e
  split at e
  · rename_i h
    cases e
    rw [Bool.and_eq_true] at h
    have v1 : Vw K mg H x ox.toD := R.view hx
    have v2 : Vw K mg H y oy.toD := R.view hy
    exact ⟨_, _, v1.dp 9 h.1, v2.dp 9 h.2, v1.shaped h.1, v2.shaped h.2, k _ _ (Same.refl _) (R.scalB fun _ => .bl _)⟩
  · cases e
/-! ### is None -/
def O.isNon : O → Bool
  | .val .non => true
  | _ => false
def isNO (a b : O) : Option O := match b with
  | .val .non => some (.val (.bl a.isNon))
  | _ => none
def notNO (a b : O) : Option O := match b with
  | .val .non => some (.val (.bl (!a.isNon)))
  | _ => none
theorem isNon_iff {G H : Hp} {v : V} {o : O} {as : List Addr} (h : VO K mg G H v o as) : decide (v = .non) = o.isNon := by
  cases h with
  | val h => cases h <;> rfl
  | lst _ _ => rfl
  | dct _ _ _ => rfl
  | ins _ _ _ _ => rfl
theorem Rep.isNon {H : Hp} {L : List Item} {B : List (V × O)} {x : V} {o : O} (R : Rep K mg H L B) (hx : (x, o) ∈ B) : decide (x = .non) = o.isNon := by
  obtain ⟨A, nd, ok, hb⟩ := R
  obtain ⟨as, h1, _⟩ := hb _ hx
  exact isNon_iff h1
theorem opv_isN : OpV K mg (fun x y H Q => y = .non ∧ Q (.bl (decide (x = .non))) H) isNO := by
  intro H L B x y ox oy o Q R hx hy e k
  unfold isNO at e
  split at e
  · cases e
    rw [R.isNon hx]
    exact ⟨R.shNon hy rfl, k _ _ (Same.refl _) (R.scalB fun _ => .bl _)⟩
  · cases e
theorem opv_notN : OpV K mg (fun x y H Q => y = .non ∧ Q (.bl (!decide (x = .non))) H) notNO := by
  intro H L B x y ox oy o Q R hx hy e k
  unfold notNO at e
  split at e
  · cases e
    rw [R.isNon hx]
    exact ⟨R.shNon hy rfl, k _ _ (Same.refl _) (R.scalB fun _ => .bl _)⟩
  · cases e
/-! ### in, not in -/
def D.flat : D → Bool
  | .non => true
  | .bl _ => true
  | .int _ => true
  | .str _ => true
  | _ => false
theorem Vw.flat {G : Hp} {v : V} {d : D} (h : Vw K mg G v d) (e : d.flat = true) : flatV v = true := by
  cases h <;> first | rfl | cases e
theorem Vw.eqV {G : Hp} {v w : V} {d e : D} (h : Vw K mg G v d) (q : Vw K mg G w e) (f : d.flat = true) (g : e.flat = true) : L2.eqV v w = d.eqv e := by
  cases h <;> first | (cases f; done) | (cases q <;> first | rfl | (cases g; done))
theorem Vws.flat {G : Hp} : ∀ {vs : List V} {ds : List D}, Vws K mg G vs ds → ds.all D.flat = true → vs.all flatV = true
  | _, _, .nil, _ => rfl
  | _, _, .cons h t, e => by
    rw [List.all_cons, Bool.and_eq_true] at e
    rw [List.all_cons, h.flat e.1, Vws.flat t e.2]; rfl
theorem Vws.anyV {G : Hp} {x : V} {d : D} (hx : Vw K mg G x d) (fx : d.flat = true) : ∀ {vs : List V} {ds : List D}, Vws K mg G vs ds → ds.all D.flat = true → inV x vs = ds.any fun e => e.eqv d
  | _, _, .nil, _ => rfl
  | _, _, .cons h t, e => by
    rw [List.all_cons, Bool.and_eq_true] at e
    unfold inV
    rw [List.any_cons, List.any_cons, h.eqV hx e.1 fx]
    exact congrArg _ (Vws.anyV hx fx t e.2)
theorem any_pds (d : D) : ∀ ds : List D, ((D.pds ds).any fun z => PyData.eqv z d.pd) = ds.any fun e => e.eqv d
  | [] => rfl
  | e :: ds => by
    show (PyData.eqv e.pd d.pd || (D.pds ds).any _) = _
    rw [any_pds d ds]; rfl
def sign? (s : Str) : Option Nat := match s.cps.toList with
  | [c] => some c
  | _ => none
theorem sign?_eq {s : Str} {c : Nat} (h : sign? s = some c) : s = ⟨#[c]⟩ := by
  unfold sign? at h
  split at h
  · rename_i d e
    cases h
    cases s with
    | mk a =>
      have e : a.toList = [c] := e
      have : a = #[c] := by
        apply Array.toList_inj.mp
        rw [e]
      rw [this]
  · cases h
def inD (x l : D) : Option Bool := match l with
  | .str z => match x with
    | .str s => (sign? s).map fun c => decide (c ∈ z.cps.toList)
    | _ => none
  | .lst ds => if x.flat = true ∧ ds.all D.flat = true then some (ds.any fun e => e.eqv x) else if x.okE 9 = true ∧ ds.all (D.okE 8) = true then some (ds.any fun e => e.eqv x) else none
  | .tup ds => if x.flat = true ∧ ds.all D.flat = true then some (ds.any fun e => e.eqv x) else none
  | _ => none
def inO (a b : O) : Option O := (inD a.toD b.toD).map fun b => .val (.bl b)
def ninO (a b : O) : Option O := (inD a.toD b.toD).map fun b => .val (.bl !b)
def rInF (K : PySem.W.Frag) : R2 := fun x y H Q => rIn K false x y H Q ∨ (rInD K x y H Q ∨ ∃ (c : Nat) (z : Str), x = .str ⟨#[c]⟩ ∧ y = .str z ∧ Q (.bl (decide (c ∈ z.cps.toList))) H)
def rNinF (K : PySem.W.Frag) : R2 := fun x y H Q => rIn K true x y H Q ∨ (rNotInD K x y H Q ∨ ∃ (c : Nat) (z : Str), x = .str ⟨#[c]⟩ ∧ y = .str z ∧ Q (.bl (!decide (c ∈ z.cps.toList))) H)
theorem op_inF (ok : CxOk X) : OpR X (compareOp .In) (rInF X.K) := op_in_seq.or ((op_inD ok.units).or op_in_sign)
theorem op_ninF (ok : CxOk X) : OpR X (compareOp .NotIn) (rNinF X.K) := op_notIn_seq.or ((op_notInD ok.units).or op_notIn_sign)
theorem in_core {H : Hp} {x y : V} {d e : D} {b : Bool} (v1 : Vw K mg H x d) (v2 : Vw K mg H y e) (h : inD d e = some b) :
    (∃ p xs, y = .ref p ∧ (SqL K H p xs ∨ SqT K H p xs) ∧ flatV x = true ∧ xs.all flatV = true ∧ inV x xs = b) ∨
    (∃ d' ds, Dp K H x d' ∧ Dp K H y (.list ds) ∧ SeqAt.shaped d' = true ∧ SeqAt.shaped (.list ds) = true ∧ (ds.any fun z => PyData.eqv z d') = b) ∨
    ∃ (c : Nat) (z : Str), x = .str ⟨#[c]⟩ ∧ y = .str z ∧ decide (c ∈ z.cps.toList) = b := by
  unfold inD at h
  split at h
  · split at h
    · rename_i s
      cases e : sign? s with
      | none => rw [e] at h; cases h
      | some c =>
        rw [e] at h
        cases h
        have := sign?_eq e
        subst this
        cases v1; cases v2
        exact .inr (.inr ⟨_, _, rfl, rfl, rfl⟩)
    · cases h
  · rename_i ds
    split at h
    · rename_i q
      cases h
      cases v2 with
      | lst h2 hs =>
        exact .inl ⟨_, _, rfl, .inl (.inl h2), v1.flat q.1, hs.flat q.2, Vws.anyV v1 q.1 hs q.2⟩
    · split at h
      · rename_i q
        cases h
        have e2 : (D.lst ds).okE 9 = true := q.2
        refine .inr (.inl ⟨_, _, v1.dp 9 q.1, v2.dp 9 e2, v1.shaped q.1, v2.shaped e2, any_pds _ _⟩)
      · cases h
  · split at h
    · rename_i q
      cases h
      cases v2 with
      | tup h2 hs => exact .inl ⟨_, _, rfl, .inr h2, v1.flat q.1, hs.flat q.2, Vws.anyV v1 q.1 hs q.2⟩
    · cases h
  · cases h
theorem opv_in : OpV K mg (rInF K) inO := by
  intro H L B x y ox oy o Q R hx hy e k
  unfold inO at e
  cases h : inD ox.toD oy.toD with
  | none => rw [h] at e; cases e
  | some b =>
    rw [h] at e; cases e
    have q := k _ H (Same.refl _) (R.scalB (v := .bl b) (d := .bl b) fun _ => .bl b)
    rcases in_core (R.view hx) (R.view hy) h with ⟨p, xs, rfl, h1, h2, h3, h4⟩ | ⟨d', ds, h1, h2, h3, h4, h5⟩ | ⟨c, z, rfl, rfl, h1⟩
    · exact .inl ⟨p, xs, rfl, h1, h2, h3, by rw [if_neg Bool.false_ne_true, h4]; exact q⟩
    · exact .inr (.inl ⟨d', ds, h1, h2, h3, h4, by rw [h5]; exact q⟩)
    · exact .inr (.inr ⟨c, z, rfl, rfl, by rw [h1]; exact q⟩)
theorem opv_nin : OpV K mg (rNinF K) ninO := by
  intro H L B x y ox oy o Q R hx hy e k
  unfold ninO at e
  cases h : inD ox.toD oy.toD with
  | none => rw [h] at e; cases e
  | some b =>
    rw [h] at e; cases e
    have q := k _ H (Same.refl _) (R.scalB (v := .bl !b) (d := .bl !b) fun _ => .bl _)
    rcases in_core (R.view hx) (R.view hy) h with ⟨p, xs, rfl, h1, h2, h3, h4⟩ | ⟨d', ds, h1, h2, h3, h4, h5⟩ | ⟨c, z, rfl, rfl, h1⟩
    · exact .inl ⟨p, xs, rfl, h1, h2, h3, by rw [if_pos rfl, h4]; exact q⟩
    · exact .inr (.inl ⟨d', ds, h1, h2, h3, h4, by rw [h5]; exact q⟩)
    · exact .inr (.inr ⟨c, z, rfl, rfl, by rw [h1]; exact q⟩)
/-! ### x[i] -/
def ixO (a b : O) : Option O := match b with
  | .val (.int i) => match a with
    | .lst os => atI os i
    | .val (.lst ds) => (atI ds i).map O.val
    | .val (.tup ds) => (atI ds i).map O.val
    | .val (.scr ns) => (atI ns i).map fun n => .val (.int n)
    | .val (.str z) => if z.length ≤ 1000000 then (atI z.cps.toList i).map fun c => .val (.str ⟨#[c]⟩) else none
    | _ => none
  | _ => none
theorem atI_len {α β : Type} {xs : List α} {ys : List β} {i : Int} {y : β} (e : xs.length = ys.length) (h : atI ys i = some y) : ∃ (j : Nat) (x : α), ys[j]? = some y ∧ xs[j]? = some x ∧ atI xs i = some x := by
  unfold atI at h ⊢
  rw [← e] at h
  cases q : ixN xs.length i with
  | none => rw [q] at h; cases h
  | some j =>
    rw [q] at h
    have h : ys[j]? = some y := h
    have hj : j < ys.length := (List.getElem?_eq_some_iff.mp h).1
    exact ⟨j, xs[j]'(by omega), h, by simp, by simp⟩
theorem strOk_at {z : Str} {i : Int} {c : Nat} (h : PyData.strOk z = true) (e : atI z.cps.toList i = some c) : PyData.strOk ⟨#[c]⟩ = true := by
  obtain ⟨j, _, hj, _⟩ := atI_get e
  have hm : c ∈ z.cps.toList := by
    obtain ⟨j', _, h2, _⟩ := atI_get e
    exact List.mem_of_getElem? h2
  have q : ∀ c ∈ z.cps.toList, decide (c < 0x110000) = true := by
    have h : z.cps.all (· < 0x110000) = true := h
    rw [← Array.all_toList, List.all_eq_true] at h
    exact h
  show (#[c].all _) = true
  simp [of_decide_eq_true (q c hm)]
theorem opv_ix : OpV K mg (rIx K) ixO := by
  intro H L B x y ox oy o Q R hx hy e k
  unfold ixO at e
  split at e
  · rename_i i
    have ey : y = .int i := R.shInt hy rfl
    split at e
    · rename_i os
      obtain ⟨A, nd, ok, hb⟩ := id R
      obtain ⟨as, h1, h2⟩ := hb _ hx
      cases h1 with
      | lst h1 hs =>
        obtain ⟨j, v, e1, e2, e3⟩ := atI_len hs.length e
        refine .inl ⟨_, _, i, v, rfl, ey, SqL.of h1, e3, k v H (Same.refl _) ⟨A, nd, ok, fun b q => ?_⟩⟩
        rcases List.mem_cons.mp q with q | q
        · subst q
          have sub : ∀ {vs : List V} {os : List O} {as : List Addr} {j : Nat} {v : V} {o : O}, VOs K mg (hide H A) H vs os as → os[j]? = some o → vs[j]? = some v → ∃ bs, VO K mg (hide H A) H v o bs ∧ ∀ a ∈ bs, a ∈ as := by
            intro vs
            induction vs with
            | nil => intro os as j v o t h1 h2; simp at h2
            | cons w vs ih =>
              intro os as j v o t h1 h2
              cases t with
              | cons t r =>
                cases j with
                | zero =>
                  simp at h1 h2
                  subst h1 h2
                  exact ⟨_, t, fun a ha => by simp [ha]⟩
                | succ j =>
                  obtain ⟨bs, q1, q2⟩ := ih r (by simpa using h1) (by simpa using h2)
                  exact ⟨bs, q1, fun a ha => by simp [q2 a ha]⟩
          obtain ⟨bs, q1, q2⟩ := sub hs e1 e2
          exact ⟨bs, q1, fun a ha => h2 a (by simp [q2 a ha])⟩
        · exact hb b q
    · rename_i ds
      cases e1 : atI ds i with
      | none => rw [e1] at e; cases e
      | some d =>
        rw [e1] at e; cases e
        obtain ⟨p, vs, rfl, hp, lp, R1⟩ := R.shL hx rfl
        obtain ⟨j, v, e1, e2, e3⟩ := atI_len lp e1
        exact .inl ⟨p, vs, i, v, rfl, ey, .inl hp, e3, k v H (Same.refl _) (R1.nth e2 e1)⟩
    · rename_i ds
      cases e1 : atI ds i with
      | none => rw [e1] at e; cases e
      | some d =>
        rw [e1] at e; cases e
        obtain ⟨p, vs, rfl, hp, lp, R1⟩ := R.shT hx rfl
        obtain ⟨j, v, e1, e2, e3⟩ := atI_len lp e1
        exact .inr (.inl ⟨p, vs, i, v, rfl, ey, hp, e3, k v H (Same.refl _) (R1.nth e2 e1)⟩)
    · rename_i ns
      cases e1 : atI ns i with
      | none => rw [e1] at e; cases e
      | some n =>
        rw [e1] at e; cases e
        have q : Vw K mg H x (.scr ns) := R.view hx
        cases q with
        | scr h =>
          have e4 : (ns.map V.int).length = ns.length := by simp
          obtain ⟨j, v, e1, e2, e3⟩ := atI_len e4 e1
          rw [List.getElem?_map, e1] at e2
          cases e2
          exact .inl ⟨_, _, i, _, rfl, ey, h, e3, k _ H (Same.refl _) (R.scalB fun _ => .int n)⟩
    · rename_i z
      split at e
      · rename_i hz
        cases e1 : atI z.cps.toList i with
        | none => rw [e1] at e; cases e
        | some c =>
          rw [e1] at e; cases e
          refine .inr (.inr ⟨z, i, c, R.shStr hx rfl, ey, line6 hz, e1, k _ H (Same.refl _) (R.scalB fun _ => .str _ (strOk_at (R.strOk hx rfl) e1))⟩)
      · cases e
    · cases e
  · cases e
/-! ### len -/
def lenO (a : O) : Option O := match a with
  | .lst os => some (.val (.int os.length))
  | .val (.lst ds) => some (.val (.int ds.length))
  | .val (.tup ds) => some (.val (.int ds.length))
  | .val (.scr ns) => some (.val (.int ns.length))
  | .val (.str z) => if z.length ≤ 1000000 then some (.val (.int z.length)) else none
  | .val (.dct _ _) => none
  | .dct ks _ => some (.val (.int ks.length))
  | _ => none
def rLenF (K : PySem.W.Frag) : List V → Hp → VK → Prop := fun xs H Q => (∃ x n, xs = [x] ∧ LenV K x H n ∧ Q (.int n) H) ∨ (∃ a kvs, xs = [V.ref a] ∧ H a = some (.dK kvs) ∧ Q (.int kvs.length) H)
theorem Rep.ownL {H : Hp} {L : List Item} {B : List (V × O)} {x : V} {os : List O} (R : Rep K mg H L B) (hx : (x, .lst os) ∈ B) : ∃ p vs, x = .ref p ∧ H p = some (.lst vs) ∧ vs.length = os.length := by
  obtain ⟨A, nd, ok, hb⟩ := R
  obtain ⟨as, h1, h2⟩ := hb _ hx
  cases h1 with
  | lst h1 hs => exact ⟨_, _, rfl, h1, hs.length⟩
theorem Rep.ownD {H : Hp} {L : List Item} {B : List (V × O)} {x : V} {ks : List Key} {os : List O} (R : Rep K mg H L B) (hx : (x, .dct ks os) ∈ B) : ∃ p kvs, x = .ref p ∧ H p = some (.dK kvs) ∧ (kvs.map (·.1) = ks ∧ ks.Nodup) ∧ kvs.length = os.length := by
  obtain ⟨A, nd, ok, hb⟩ := R
  obtain ⟨as, h1, h2⟩ := hb _ hx
  cases h1 with
  | dct h1 hk hs => exact ⟨_, _, rfl, h1, hk, by have := hs.length; simpa using this⟩
theorem unv_len : UnV K mg (fun x H Q => rLenF K [x] H Q) lenO := by
  intro H L B x ox o Q R hx e k
  unfold lenO at e
  split at e
  · cases e
    obtain ⟨p, vs, rfl, hp, lp⟩ := R.ownL hx
    exact .inl ⟨_, vs.length, rfl, .inl ⟨vs, SqL.of hp, rfl⟩, by rw [lp]; exact k _ _ (Same.refl _) (R.scalB fun _ => .int _)⟩
  · cases e
    obtain ⟨p, vs, rfl, hp, lp, _⟩ := R.shL hx rfl
    exact .inl ⟨_, vs.length, rfl, .inl ⟨vs, .inl hp, rfl⟩, by rw [lp]; exact k _ _ (Same.refl _) (R.scalB fun _ => .int _)⟩
  · cases e
    obtain ⟨p, vs, rfl, hp, lp, _⟩ := R.shT hx rfl
    exact .inl ⟨_, vs.length, rfl, .inr ⟨vs, hp, rfl⟩, by rw [lp]; exact k _ _ (Same.refl _) (R.scalB fun _ => .int _)⟩
  · cases e
    rename_i ns
    have q : Vw K mg H x (.scr ns) := R.view hx
    cases q with
    | scr h => exact .inl ⟨_, ns.length, rfl, .inl ⟨_, h, by simp⟩, k _ _ (Same.refl _) (R.scalB fun _ => .int _)⟩
  · split at e
    · rename_i z hz
      cases e
      rw [R.shStr hx rfl]
      exact .inl ⟨_, z.length, rfl, ⟨line6 hz, rfl⟩, k _ _ (Same.refl _) (R.scalB fun _ => .int _)⟩
    · cases e
  · cases e
  · cases e
    obtain ⟨p, kvs, rfl, hp, hk, lp⟩ := R.ownD hx
    refine .inr ⟨p, kvs, rfl, hp, ?_⟩
    have : kvs.length = (List.map (·.1) kvs).length := by simp
    rw [this, hk.1]
    exact k _ _ (Same.refl _) (R.scalB fun _ => .int _)
  · cases e
end
end FB

/-! Slices, built-ins by name, tests, displays. -/
namespace FB
open PySem PySem.Spec L2
open PyProof.Rows hiding St

section
variable {X : Cx} {K : PySem.W.Frag} {mg : Str → Option Value}
/-! ### slices -/
def cutL {α : Type} (xs : List α) (lo hi : Option Int) : List α := (xs.drop (HT.sIx xs.length 0 lo)).take (HT.sIx xs.length xs.length hi - HT.sIx xs.length 0 lo)
theorem cutL_map {α β : Type} (f : α → β) (xs : List α) (lo hi : Option Int) : cutL (xs.map f) lo hi = (cutL xs lo hi).map f := by
  unfold cutL
  rw [List.length_map, List.map_take, List.map_drop]
def slO (a : O) (lo hi : Option Int) : Option O := match a.sh with
  | some (.lst ds) => some (.val (.lst (cutL ds lo hi)))
  | some (.tup ds) => some (.val (.tup (cutL ds lo hi)))
  | some (.scr ns) => some (.val (.lst ((cutL ns lo hi).map D.int)))
  | some (.str z) => if z.length ≤ 1000000 then some (.val (.str (cutS z lo hi))) else none
  | _ => none
def rSlF (K : PySem.W.Frag) : V → Option Int → Option Int → Hp → VK → Prop := fun x lo hi H Q => rSlL K x lo hi H Q ∨ (rSlA K x lo hi H Q ∨ rSlS x lo hi H Q)
theorem sl_F : SlR X (rSlF X.K) := sl_list.or (sl_tupA.or sl_str)
theorem zip_cut (vs : List V) (ds : List D) (e : vs.length = ds.length) (lo hi : Option Int) : zipI (cutL vs lo hi) ((cutL ds lo hi).map O.val) = cutL (zipI vs (ds.map O.val)) lo hi := by
  have hz : (zipI vs (ds.map O.val)).length = ds.length := by unfold zipI; simp [e]
  unfold cutL
  rw [hz, e]
  unfold zipI
  rw [List.map_take, List.map_drop, List.drop_zipWith, List.take_zipWith]
theorem len_cut {α β : Type} (vs : List α) (ds : List β) (e : vs.length = ds.length) (lo hi : Option Int) : (cutL vs lo hi).length = (cutL ds lo hi).length := by
  unfold cutL
  simp [e]
theorem vals_nil {G H : Hp} : ∀ {vs : List V} {ds : List D} {as : List Addr}, IsOk K mg G H (zipI vs (ds.map O.val)) as → as = [] := by
  intro vs
  induction vs with
  | nil => intro ds as t; cases ds <;> cases t <;> rfl
  | cons w vs ih =>
    intro ds as t
    cases ds with
    | nil => cases t; rfl
    | cons e ds =>
      cases t with
      | cons t r =>
        have := ih r
        subst this
        cases t with
        | ov t => cases t with
          | val t => rfl
theorem vals_sub {G H : Hp} {M N : List Item} (h : IsOk K mg G H N []) (s : M.Sublist N) : IsOk K mg G H M [] := by
  induction s with
  | slnil => exact .nil
  | cons a s ih =>
    generalize e : ([] : List Addr) = as at h
    cases h with
    | cons h t =>
      rename_i as bs
      have e := List.append_eq_nil_iff.mp e.symm
      obtain ⟨e1, e2⟩ := e
      subst e1 e2
      exact ih t
  | cons_cons a s ih =>
    generalize e : ([] : List Addr) = as at h
    cases h with
    | cons h t =>
      rename_i as bs
      have e := List.append_eq_nil_iff.mp e.symm
      obtain ⟨e1, e2⟩ := e
      subst e1 e2
      exact .cons (as := []) h (ih t)
/-- some of the shared items -/
theorem Rep.someOf {H : Hp} {L : List Item} {B : List (V × O)} {vs : List V} {ds : List D} {M : List Item} (R : Rep K mg H (zipI vs (ds.map O.val) ++ L) B) (s : M.Sublist (zipI vs (ds.map O.val))) : Rep K mg H (M ++ L) B := by
  obtain ⟨A, nd, ok, hb⟩ := R
  obtain ⟨bs, cs, e2, t1, t2⟩ := ok.split
  subst e2
  have e3 := vals_nil t1
  subst e3
  exact ⟨_, nd, IsOk.append (as := []) (vals_sub t1 s) t2, hb⟩
theorem strOk_cut {z : Str} (h : PyData.strOk z = true) (lo hi : Option Int) : PyData.strOk (cutS z lo hi) = true := by
  have h : z.cps.all (· < 0x110000) = true := h
  rw [← Array.all_toList, List.all_eq_true] at h
  show (Array.all _ _) = true
  rw [← Array.all_toList, List.all_eq_true]
  intro c hc
  exact h c (List.mem_of_mem_drop (List.mem_of_mem_take (by simpa [cutS] using hc)))
theorem slv {H : Hp} {L : List Item} {B : List (V × O)} {x : V} {ox o : O} {lo hi : Option Int} {Q : VK} (R : Rep K mg H L B) (hx : (x, ox) ∈ B) (e : slO ox lo hi = some o) (k : ∀ v H', Same H H' → Rep K mg H' L ((v, o) :: B) → Q v H') : rSlF K x lo hi H Q := by
  unfold slO at e
  split at e
  · rename_i ds e1
    cases e
    obtain ⟨p, vs, rfl, hp, lp, R1⟩ := R.shL hx e1
    refine .inl ⟨p, vs, rfl, .inl hp, fun q hq => k _ _ (sameNew hq) ?_⟩
    refine Rep.lentL (vs := cutL vs lo hi) (ds := cutL ds lo hi) (R1.someOf ?_) (len_cut _ _ lp lo hi) hq
    rw [zip_cut _ _ lp]
    exact (List.take_sublist _ _).trans (List.drop_sublist _ _)
  · rename_i ds e1
    cases e
    obtain ⟨p, vs, rfl, hp, lp, R1⟩ := R.shT hx e1
    refine .inr (.inl ⟨p, vs, rfl, hp, fun hw => k _ _ (Same.refl _) ?_, fun hw q hq => k _ _ (sameNew hq) ?_⟩)
    · have : cutL ds lo hi = ds := by
        unfold cutL
        rw [← lp, hw.1, hw.2, List.drop_zero, Nat.sub_zero, lp, List.take_length]
      rw [this]
      have ea := sh_val_of e1 (fun _ => by intro z; cases z) (fun _ _ => by intro z; cases z) (fun _ _ _ => by intro z; cases z)
      subst ea
      exact R.bdup hx
    · refine Rep.lentT (vs := cutL vs lo hi) (ds := cutL ds lo hi) (R1.someOf ?_) (len_cut _ _ lp lo hi) hq
      rw [zip_cut _ _ lp]
      exact (List.take_sublist _ _).trans (List.drop_sublist _ _)
  · rename_i ns e1
    cases e
    have q : Vw K mg H x (.scr ns) := R.sh hx e1
    cases q with
    | scr h =>
      refine .inl ⟨_, _, rfl, h, fun q hq => k _ _ (sameNew hq) ?_⟩
      have e2 : cutV (ns.map V.int) lo hi = (cutL ns lo hi).map V.int := cutL_map _ _ _ _
      rw [e2]
      refine Rep.lentL ?_ (by simp) hq
      have : ∀ (ms : List Int), Rep K mg H (zipI (ms.map V.int) ((ms.map D.int).map O.val) ++ L) B := by
        intro ms
        induction ms with
        | nil => exact R
        | cons m ms ih => exact ih.scal fun _ => .int m
      exact this _
  · split at e
    · rename_i z e1 hz
      cases e
      exact .inr (.inr ⟨z, R.shStr hx e1, line6 hz, k _ _ (Same.refl _) (R.scalB fun _ => .str _ (strOk_cut (R.strOk hx e1) lo hi))⟩)
    · cases e
  · cases e
/-- a slice's bound -/
def tPO (K : PySem.W.Frag) (mg : Str → Option Value) (f : Env → Option (Option Int)) : TO := fun σ H Q => ∃ ρ T B i, Cov σ ρ ∧ Rep K mg H (pairs σ ρ ++ T) B ∧ f ρ = some i ∧ ∀ H', Same H H' → Rep K mg H' (pairs σ ρ ++ T) B → Q i H'
theorem PO.imp {X : Cx} {e : Option Expr} {t t' : TO} (h : PO X e t) (q : ∀ σ H Q, t' σ H Q → t σ H Q) : PO X e t' := ⟨fun pins s σ H Q I w => h.run pins s σ H Q I (q σ H Q w)⟩
def SPO (X : Cx) (e : Option Expr) (f : Env → Option (Option Int)) : Prop := PO X e (tPO X.K X.mg f)
def pNone : Env → Option (Option Int) := fun _ => some none
def pInt (f : Pf) : Env → Option (Option Int) := fun ρ => match f ρ with
  | some (.val (.int i)) => some (some i)
  | _ => none
theorem spo_none : SPO X none pNone := PO.imp po_none fun σ H Q h => by
  obtain ⟨ρ, T, B, i, c, R, e, k⟩ := h
  cases e
  exact k H (Same.refl _) R
theorem spo_some {e : Expr} {f : Pf} (h : SP X e f) : SPO X (some e) (pInt f) := PO.imp (po_some h) fun σ H Q q => by
  obtain ⟨ρ, T, B, i, c, R, e, k⟩ := q
  unfold pInt at e
  split at e
  · rename_i j e1
    cases e
    refine ⟨ρ, T, B, _, c, R, e1, fun v H' s' R' => ⟨j, R'.shInt (List.mem_cons_self ..) rfl, k H' s' R'.bdrop⟩⟩
  · cases e
def pSl (f : Pf) (lo hi : Env → Option (Option Int)) : Pf := fun ρ => (f ρ).bind fun a => (lo ρ).bind fun l => (hi ρ).bind fun h => slO a l h
theorem sp_sl {e : Expr} {lo hi : Option Expr} {f : Pf} {fl fh : Env → Option (Option Int)} {p2 pos} (h : SP X e f) (hl : SPO X lo fl) (hh : SPO X hi fh) : SP X (.Subscript e (.Slice lo hi none p2) pos) (pSl f fl fh) :=
  PE.imp (pe_slice sl_F h hl hh) fun σ H Q q => by
    obtain ⟨ρ, T, B, o, c, R, e, k⟩ := q
    unfold pSl at e
    cases e1 : f ρ with
    | none => rw [e1] at e; cases e
    | some a =>
      rw [e1] at e
      have e : (fl ρ).bind (fun l => (fh ρ).bind fun h => slO a l h) = some o := e
      cases e2 : fl ρ with
      | none => rw [e2] at e; cases e
      | some l =>
        rw [e2] at e
        have e : (fh ρ).bind (fun h => slO a l h) = some o := e
        cases e3 : fh ρ with
        | none => rw [e3] at e; cases e
        | some u =>
          rw [e3] at e
          have e : slO a l u = some o := e
          exact ⟨ρ, T, B, a, c, R, e1, fun v H1 s1 R1 => ⟨ρ, T, _, l, c, R1, e2, fun H2 s2 R2 => ⟨ρ, T, _, u, c, R2, e3, fun H3 s3 R3 =>
            slv R3 (List.mem_cons_self ..) e fun w H4 s4 R4 => k w H4 (s1.trans (s2.trans (s3.trans s4))) (R4.bsub fun z hz => by
              rcases List.mem_cons.mp hz with hz | hz
              · simp [hz]
              · simp [hz])⟩⟩⟩
/-! ### built-ins of one and two arguments -/
theorem sp_b1 {id : String} {x : Str} {a : Expr} {p pos : Pos} {f : Pf} {r : List V → Hp → VK → Prop} {op : O → Option O} (hc : CallR X (.builtin id) r) (h : UnV X.K X.mg (fun x H Q => r [x] H Q) op) (hg : Gl X x) (hm : X.mg x = none) (hv : bootBuiltins x = some (.builtin id)) (ha : SP X a f)
    (hn : x ≠ "__name__" := by decide) (hdb : (x == ("__debug__" : Str)) = false := by decide) (hst : starEach (a :: []) X.env = (false, eval a X.env) :: starEach [] X.env := by rfl) (hpl : (backTo pos (starEach [] X.env)).any (·.1) = false := by rfl) :
    SP X (.Call (.Name x p) [a] [] pos) (p1 op f) := PE.imp (pe_callB hc hg hm hv (pa_cons ha pa_nil hst) hn hdb hst hpl) (tUn_p h)
theorem se_b1 {id : String} {x : Str} {a : Expr} {p pos : Pos} {m : M O} {r : List V → Hp → VK → Prop} {op : O → Option O} (hc : CallR X (.builtin id) r) (h : UnV X.K X.mg (fun x H Q => r [x] H Q) op) (hg : Gl X x) (hm : X.mg x = none) (hv : bootBuiltins x = some (.builtin id)) (ha : SE X a m)
    (hn : x ≠ "__name__" := by decide) (hdb : (x == ("__debug__" : Str)) = false := by decide) (hst : starEach (a :: []) X.env = (false, eval a X.env) :: starEach [] X.env := by rfl) (hpl : (backTo pos (starEach [] X.env)).any (·.1) = false := by rfl) :
    SE X (.Call (.Name x p) [a] [] pos) (m1 op m) := PE.imp (pe_callB hc hg hm hv (pa_cons ha pa_nil hst) hn hdb hst hpl) (tUn_m h)
theorem sp_t1 {T : String} {x : Str} {a : Expr} {p pos : Pos} {f : Pf} {r : List V → Hp → VK → Prop} {op : O → Option O} (hc : CallR X (.type T) r) (h : UnV X.K X.mg (fun x H Q => r [x] H Q) op) (hg : Gl X x) (hm : X.mg x = none) (hv : bootBuiltins x = some (.type T)) (ha : SP X a f)
    (hn : x ≠ "__name__" := by decide) (hdb : (x == ("__debug__" : Str)) = false := by decide) (hst : starEach (a :: []) X.env = (false, eval a X.env) :: starEach [] X.env := by rfl) (hpl : (backTo pos (starEach [] X.env)).any (·.1) = false := by rfl) :
    SP X (.Call (.Name x p) [a] [] pos) (p1 op f) := PE.imp (pe_callTy hc hg hm hv (pa_cons ha pa_nil hst) hn hdb hst hpl) (tUn_p h)
theorem se_t1 {T : String} {x : Str} {a : Expr} {p pos : Pos} {m : M O} {r : List V → Hp → VK → Prop} {op : O → Option O} (hc : CallR X (.type T) r) (h : UnV X.K X.mg (fun x H Q => r [x] H Q) op) (hg : Gl X x) (hm : X.mg x = none) (hv : bootBuiltins x = some (.type T)) (ha : SE X a m)
    (hn : x ≠ "__name__" := by decide) (hdb : (x == ("__debug__" : Str)) = false := by decide) (hst : starEach (a :: []) X.env = (false, eval a X.env) :: starEach [] X.env := by rfl) (hpl : (backTo pos (starEach [] X.env)).any (·.1) = false := by rfl) :
    SE X (.Call (.Name x p) [a] [] pos) (m1 op m) := PE.imp (pe_callTy hc hg hm hv (pa_cons ha pa_nil hst) hn hdb hst hpl) (tUn_m h)
theorem se_b2 {id : String} {x : Str} {a b : Expr} {p pos : Pos} {m n : M O} {r : List V → Hp → VK → Prop} {op : O → O → Option O} (hc : CallR X (.builtin id) r) (h : OpV X.K X.mg (fun x y H Q => r [x, y] H Q) op) (hg : Gl X x) (hm : X.mg x = none) (hv : bootBuiltins x = some (.builtin id)) (ha : SE X a m) (hb : SE X b n)
    (hn : x ≠ "__name__" := by decide) (hdb : (x == ("__debug__" : Str)) = false := by decide) (hst : starEach (a :: [b]) X.env = (false, eval a X.env) :: starEach [b] X.env := by rfl) (hst2 : starEach (b :: []) X.env = (false, eval b X.env) :: starEach [] X.env := by rfl) (hpl : (backTo pos (starEach [b] X.env)).any (·.1) = false := by rfl) :
    SE X (.Call (.Name x p) [a, b] [] pos) (m2 op m n) := PE.imp (pe_callB hc hg hm hv (pa_cons ha (pa_cons hb pa_nil hst2) hst) hn hdb hst hpl) (tOp_m h)
theorem call_lenF : CallR X (.builtin "len") (rLenF X.K) := call_len.or call_lenD

/-! isinstance of a built-in class -/
def D.ty : D → Option String
  | .non => some "NoneType"
  | .bl _ => some "bool"
  | .int _ => some "int"
  | .str _ => some "str"
  | .tup _ => some "tuple"
  | .lst _ => some "list"
  | .scr _ => some "list"
  | .fn _ => none
  | .dct _ _ => some "dict"
  | .ins _ _ _ => none
end
end FB

/-! Built-ins over lists; tests; displays. -/
namespace FB
open PySem PySem.Spec L2
open PyProof.Rows hiding St

section
variable {X : Cx} {K : PySem.W.Frag} {mg : Str → Option Value}
def ints? : List D → Option (List Int)
  | [] => some []
  | .int i :: ds => (ints? ds).map (i :: ·)
  | _ :: _ => none
theorem ints?_map : ∀ ns : List Int, ints? (ns.map D.int) = some ns
  | [] => rfl
  | n :: ns => by show (ints? (ns.map D.int)).map _ = _; rw [ints?_map ns]; rfl
theorem ints?_eq : ∀ {ds : List D} {ns : List Int}, ints? ds = some ns → ds = ns.map D.int
  | [], ns, h => by cases h; rfl
  | .int i :: ds, ns, h => by
    have h : (ints? ds).map (i :: ·) = some ns := h
    cases e : ints? ds with
    | none => rw [e] at h; cases h
    | some ms => rw [e] at h; cases h; rw [ints?_eq e]; rfl
  | .non :: _, _, h => by cases h
  | .bl _ :: _, _, h => by cases h
  | .str _ :: _, _, h => by cases h
  | .tup _ :: _, _, h => by cases h
  | .lst _ :: _, _, h => by cases h
  | .dct _ _ :: _, _, h => by cases h
  | .ins _ _ _ :: _, _, h => by cases h
  | .scr _ :: _, _, h => by cases h
  | .fn _ :: _, _, h => by cases h
def bls? : List D → Option (List Bool)
  | [] => some []
  | .bl b :: ds => (bls? ds).map (b :: ·)
  | _ :: _ => none
theorem bls?_eq : ∀ {ds : List D} {bs : List Bool}, bls? ds = some bs → ds = bs.map D.bl
  | [], ns, h => by cases h; rfl
  | .bl i :: ds, ns, h => by
    have h : (bls? ds).map (i :: ·) = some ns := h
    cases e : bls? ds with
    | none => rw [e] at h; cases h
    | some ms => rw [e] at h; cases h; rw [bls?_eq e]; rfl
  | .non :: _, _, h => by cases h
  | .int _ :: _, _, h => by cases h
  | .str _ :: _, _, h => by cases h
  | .tup _ :: _, _, h => by cases h
  | .lst _ :: _, _, h => by cases h
  | .dct _ _ :: _, _, h => by cases h
  | .ins _ _ _ :: _, _, h => by cases h
  | .scr _ :: _, _, h => by cases h
  | .fn _ :: _, _, h => by cases h
theorem Vws.int_eq {G : Hp} : ∀ {vs : List V} {ns : List Int}, Vws K mg G vs (ns.map D.int) → vs = ns.map V.int
  | _, [], .nil => rfl
  | _, n :: ns, .cons (.int _) t => by rw [Vws.int_eq t]; rfl
theorem Vws.bl_eq {G : Hp} : ∀ {vs : List V} {ns : List Bool}, Vws K mg G vs (ns.map D.bl) → vs = ns.map V.bl
  | _, [], .nil => rfl
  | _, n :: ns, .cons (.bl _) t => by rw [Vws.bl_eq t]; rfl
/-- a list's ints -/
def D.lints? : D → Option (List Int)
  | .lst ds => ints? ds
  | .scr ns => some ns
  | _ => none
theorem Vw.lints {H : Hp} {v : V} {d : D} {ns : List Int} (h : Vw K mg H v d) (e : d.lints? = some ns) : ∃ a, v = .ref a ∧ SqL K H a (ns.map V.int) := by
  cases h with
  | lst h hs =>
    have := ints?_eq (show ints? _ = some ns from e)
    subst this
    rw [hs.int_eq] at h
    exact ⟨_, rfl, .inl h⟩
  | scr h => cases e; exact ⟨_, rfl, h⟩
  | _ => cases e
def D.lbls? : D → Option (List Bool)
  | .lst ds => bls? ds
  | _ => none
theorem Vw.lbls {H : Hp} {v : V} {d : D} {ns : List Bool} (h : Vw K mg H v d) (e : d.lbls? = some ns) : ∃ a, v = .ref a ∧ SqL K H a (ns.map V.bl) := by
  cases h with
  | lst h hs =>
    have := bls?_eq (show bls? _ = some ns from e)
    subst this
    rw [hs.bl_eq] at h
    exact ⟨_, rfl, .inl h⟩
  | _ => cases e
def anyO (a : O) : Option O := (a.toD.lbls?).map fun bs => .val (.bl (bs.any id))
theorem unv_any : UnV K mg (fun x H Q => rAny K [x] H Q) anyO := by
  intro H L B x ox o Q R hx e k
  unfold anyO at e
  cases e1 : ox.toD.lbls? with
  | none => rw [e1] at e; cases e
  | some bs =>
    rw [e1] at e; cases e
    obtain ⟨a, rfl, h⟩ := (R.view hx).lbls e1
    exact ⟨a, bs, rfl, h, k _ _ (Same.refl _) (R.scalB fun _ => .bl _)⟩
def minL : List Int → Int
  | [] => 0
  | [x] => x
  | x :: y :: r => min x (minL (y :: r))
theorem minL_mem : ∀ {ns : List Int}, ns ≠ [] → minL ns ∈ ns
  | [], h => absurd rfl h
  | [x], _ => by simp [minL]
  | x :: y :: r, _ => by
    have ih := minL_mem (ns := y :: r) (by simp)
    unfold minL
    rcases Int.le_total x (minL (y :: r)) with h | h
    · rw [Int.min_eq_left h]; simp
    · rw [Int.min_eq_right h]; exact List.mem_cons_of_mem _ ih
theorem minL_le : ∀ {ns : List Int}, ∀ n ∈ ns, minL ns ≤ n
  | [], n, h => by simp at h
  | [x], n, h => by simp at h; subst h; simp [minL]
  | x :: y :: r, n, h => by
    unfold minL
    rcases List.mem_cons.mp h with e | h
    · rw [e]; exact Int.min_le_left _ _
    · exact Int.le_trans (Int.min_le_right _ _) (minL_le (ns := y :: r) n h)
def minO (a : O) : Option O := (a.toD.lints?).bind fun ns => if ns = [] then none else some (.val (.int (minL ns)))
theorem unv_min : UnV K mg (fun x H Q => rMin K [x] H Q) minO := by
  intro H L B x ox o Q R hx e k
  unfold minO at e
  cases e1 : ox.toD.lints? with
  | none => rw [e1] at e; cases e
  | some ns =>
    rw [e1] at e
    have e : (if ns = [] then none else some (O.val (.int (minL ns)))) = some o := e
    split at e
    · cases e
    · rename_i hn
      cases e
      obtain ⟨a, rfl, h⟩ := (R.view hx).lints e1
      refine ⟨a, ns, rfl, h, List.length_pos_iff.mpr hn, fun m h1 h2 => ?_⟩
      have : m = minL ns := Int.le_antisymm (h2 _ (minL_mem hn)) (minL_le m h1)
      rw [this]
      exact k _ _ (Same.refl _) (R.scalB fun _ => .int _)
def max2D : D → D → Option D
  | .int i, .int j => some (.int (max i j))
  | _, _ => none
theorem opv_max2 : OpV K mg (fun x y H Q => ∃ i j, [x, y] = [.int i, .int j] ∧ Q (.int (if j > i then j else i)) H) (lift2 max2D) := by
  intro H L B x y ox oy o Q R hx hy e k
  obtain ⟨a, b, d, e1, e2, e3, rfl⟩ := lift2_eq e
  unfold max2D at e3
  split at e3
  · rename_i i j
    cases e3
    refine ⟨i, j, by rw [R.shInt hx e1, R.shInt hy e2], ?_⟩
    have : (if j > i then j else i) = max i j := by
      rw [Int.max_def]; split <;> split <;> omega
    rw [this]
    exact k _ _ (Same.refl _) (R.scalB fun _ => .int _)
  · cases e3
def intO (a : O) : Option O := match a with
  | .val (.int i) => some (.val (.int i))
  | .val (.bl b) => some (.val (.int (if b then 1 else 0)))
  | _ => none
theorem unv_int : UnV K mg (fun x H Q => (∃ i, [x] = [.int i] ∧ Q (.int i) H) ∨ ∃ k, [x] = [.bl k] ∧ Q (.int (if k then 1 else 0)) H) intO := by
  intro H L B x ox o Q R hx e k
  unfold intO at e
  split at e
  · cases e
    exact .inl ⟨_, by rw [R.shInt hx rfl], k _ _ (Same.refl _) (R.scalB fun _ => .int _)⟩
  · cases e
    exact .inr ⟨_, by rw [R.shBl hx rfl], k _ _ (Same.refl _) (R.scalB fun _ => .int _)⟩
  · cases e
def negO (a : O) : Option O := match a with
  | .val (.int i) => some (.val (.int (-i)))
  | _ => none
theorem unv_neg : UnV K mg (rU fun i => .int (-i)) negO := by
  intro H L B x ox o Q R hx e k
  unfold negO at e
  split at e
  · cases e
    exact ⟨_, R.shInt hx rfl, k _ _ (Same.refl _) (R.scalB fun _ => .int _)⟩
  · cases e
theorem Rep.ints {H : Hp} {L : List Item} {B : List (V × O)} (R : Rep K mg H L B) (ms : List Int) : Rep K mg H (zipI (ms.map V.int) ((ms.map D.int).map O.val) ++ L) B := by
  induction ms with
  | nil => exact R
  | cons m ms ih => exact ih.scal fun _ => .int m
def tupO (a : O) : Option O := match a.sh with
  | some (.lst ds) => some (.val (.tup ds))
  | some (.tup ds) => some (.val (.tup ds))
  | _ => none
theorem unv_tup : UnV K mg (fun x H Q => ∃ p ys, [x] = [.ref p] ∧ ((SqL K H p ys ∧ ∀ l, H l = none → Q (.ref l) (upd H l (.tup ys))) ∨ (SqT K H p ys ∧ Q (.ref p) H))) tupO := by
  intro H L B x ox o Q R hx e k
  unfold tupO at e
  split at e
  · rename_i ds e1
    cases e
    obtain ⟨p, vs, rfl, hp, lp, R1⟩ := R.shL hx e1
    exact ⟨p, vs, rfl, .inl ⟨.inl hp, fun q hq => k _ _ (sameNew hq) (R1.lentT lp hq)⟩⟩
  · rename_i ds e1
    cases e
    have ea := sh_val_of e1 (fun _ => by intro z; cases z) (fun _ _ => by intro z; cases z) (fun _ _ _ => by intro z; cases z)
    subst ea
    obtain ⟨p, vs, rfl, hp, lp, R1⟩ := R.shT hx rfl
    exact ⟨p, vs, rfl, .inr ⟨hp, k _ _ (Same.refl _) (R.bdup hx)⟩⟩
  · cases e
/-! ### tests -/
def mB (m : M O) : M Bool := fun ρ => (m ρ).bind fun o ρ' => match o with
  | .val (.bl b) => .ok b ρ'
  | _ => .no
theorem set_of {e : Expr} {t : TE} {m : M O} (h : PT X e (tB t)) (q : ∀ σ H Q, tM X.K X.mg m σ H Q → t σ H Q) : SET X e (mB m) := PT.imp h fun σ H Q w => by
  obtain ⟨ρ, T, b, ρ', c, R, e, k⟩ := w
  obtain ⟨o, ρ1, e1, e⟩ := Res.bind_eq e
  split at e
  · rename_i d
    cases e
    exact q σ H _ ⟨ρ, T, _, _, c, R, e1, fun v H' c' R' => ⟨b, R'.lend.shBl (List.mem_cons_self ..) rfl, k H' c' R'.drop⟩⟩
  · cases e
theorem set_val {e : Expr} {m : M O} (h : SE X e m) (he : ∀ whole, isTrue e X.env whole = (do let v ← whole; standAt e.pos; holding [v] (truthy v)) := by intro _; rfl) : SET X e (mB m) := set_of (pt_val h he) fun _ _ _ q => q
theorem set_cmp {o : CmpOp} {a b : Expr} {pos : Pos} {m n : M O} {r : R2} {op : O → O → Option O} (ho : OpR X (compareOp o) r) (h : OpV X.K X.mg r op) (ha : SE X a m) (hb : SE X b n) (hm : behindInMarks o b = false) : SET X (.Compare a [o] [b] pos) (mB (m2 op m n)) := set_of (pt_cmpR ho ha hb hm) (tOp_m h)
theorem tP_m {f : Pf} {t : TE} (q : ∀ σ H Q, tP K mg f σ H Q → t σ H Q) (σ : L2.St) (H : Hp) (Q : VK) (w : tM K mg (mP f) σ H Q) : t σ H Q := by
  obtain ⟨ρ, T, o, ρ', c, R, e, k⟩ := w
  unfold mP at e
  cases z : f ρ with
  | none => rw [z] at e; cases e
  | some u =>
    rw [z] at e
    cases u with
    | val d =>
      cases e
      exact q σ H Q ⟨ρ, T, [], .val d, c, R, z, fun v H' _ R' => k v H' c R'.keep⟩
    | lst _ => cases e
    | dct _ _ => cases e
    | ins _ _ _ => cases e
theorem set_cmpP {o : CmpOp} {a b : Expr} {pos : Pos} {f g : Pf} {r : R2} {op : O → O → Option O} (ho : OpR X (compareOp o) r) (h : OpV X.K X.mg r op) (ha : SP X a f) (hb : SP X b g) (hm : behindInMarks o b = false) : SET X (.Compare a [o] [b] pos) (mB (mP (p2 op f g))) := set_of (pt_cmpR ho ha hb hm) (tP_m (tOp_p h))
def mAnd (a b : M Bool) : M Bool := fun ρ => (a ρ).bind fun c ρ1 => if c = true then b ρ1 else .ok false ρ1
def mOr (a b : M Bool) : M Bool := fun ρ => (a ρ).bind fun c ρ1 => if c = true then .ok true ρ1 else b ρ1
def mNot (a : M Bool) : M Bool := fun ρ => (a ρ).bind fun c ρ1 => .ok (!c) ρ1
def SEW (X : Cx) (e : Expr) (m : M Bool) : Prop := PW X e (tMT X.K X.mg m)
theorem PW.imp {e : Expr} {t t' : TT} (h : PW X e t) (q : ∀ σ H Q, t' σ H Q → t σ H Q) : PW X e t' := ⟨fun wh pins s σ H Q I w => h.run wh pins s σ H Q I (q σ H Q w)⟩
theorem sew_t {e : Expr} {m : M Bool} (h : SEW X e m) : SET X e m := PW.pt h
theorem sew_and1 {a : Expr} {pos : Pos} {m : M Bool} (h : SET X a m) : SEW X (.BoolOp .And [a] pos) m := pw_and1 h
theorem sew_or1 {a : Expr} {pos : Pos} {m : M Bool} (h : SET X a m) : SEW X (.BoolOp .Or [a] pos) m := pw_or1 h
theorem sew_and {a b : Expr} {rest : List Expr} {pos : Pos} {m n : M Bool} (ha : SET X a m) (hb : SEW X (.BoolOp .And (b :: rest) pos) n) : SEW X (.BoolOp .And (a :: b :: rest) pos) (mAnd m n) :=
  PW.imp (pw_and ha hb) fun σ H Q w => by
    obtain ⟨ρ, T, b, ρ', c, R, e, k⟩ := w
    obtain ⟨u, ρ1, e1, e⟩ := Res.bind_eq e
    refine ⟨ρ, T, u, ρ1, c, R, e1, fun H' c' R' => ?_⟩
    cases u with
    | true =>
      rw [if_pos rfl] at e ⊢
      exact ⟨ρ1, T, b, ρ', c', R', e, k⟩
    | false =>
      rw [if_neg Bool.false_ne_true] at e ⊢
      cases e
      exact k H' c' R'
theorem sew_or {a b : Expr} {rest : List Expr} {pos : Pos} {m n : M Bool} (ha : SET X a m) (hb : SEW X (.BoolOp .Or (b :: rest) pos) n) : SEW X (.BoolOp .Or (a :: b :: rest) pos) (mOr m n) :=
  PW.imp (pw_or ha hb) fun σ H Q w => by
    obtain ⟨ρ, T, b, ρ', c, R, e, k⟩ := w
    obtain ⟨u, ρ1, e1, e⟩ := Res.bind_eq e
    refine ⟨ρ, T, u, ρ1, c, R, e1, fun H' c' R' => ?_⟩
    cases u with
    | true =>
      rw [if_pos rfl] at e ⊢
      cases e
      exact k H' c' R'
    | false =>
      rw [if_neg Bool.false_ne_true] at e ⊢
      exact ⟨ρ1, T, b, ρ', c', R', e, k⟩
theorem set_not {a : Expr} {pos : Pos} {m : M Bool} (h : SET X a m) : SET X (.UnaryOp .Not a pos) (mNot m) := PT.imp (pt_not h) fun σ H Q w => by
  obtain ⟨ρ, T, b, ρ', c, R, e, k⟩ := w
  obtain ⟨u, ρ1, e1, e⟩ := Res.bind_eq e
  cases e
  exact ⟨ρ, T, u, _, c, R, e1, k⟩
def mAndV (a : M O) (b : M O) : M O := fun ρ => (a ρ).bind fun o ρ1 => match o with
  | .val (.bl true) => b ρ1
  | .val (.bl false) => .ok (.val (.bl false)) ρ1
  | _ => .no
def mNotV (a : M O) : M O := fun ρ => (a ρ).bind fun o ρ1 => match o with
  | .val (.bl b) => .ok (.val (.bl (!b))) ρ1
  | _ => .no
theorem se_one {op : BoolOp} {a : Expr} {pos : Pos} {m : M O} (h : SE X a m) : SE X (.BoolOp op [a] pos) m := pe_one h
theorem se_and {a b : Expr} {rest : List Expr} {pos : Pos} {m n : M O} (ha : SE X a m) (hb : SE X (.BoolOp .And (b :: rest) pos) n) : SE X (.BoolOp .And (a :: b :: rest) pos) (mAndV m n) :=
  PE.imp (pe_and ha hb) fun σ H Q w => by
    obtain ⟨ρ, T, o, ρ', c, R, e, k⟩ := w
    obtain ⟨u, ρ1, e1, e⟩ := Res.bind_eq e
    refine ⟨ρ, T, u, ρ1, c, R, e1, fun v H' c' R' => ?_⟩
    split at e
    · refine ⟨true, R'.lend.shBl (List.mem_cons_self ..) rfl, ?_⟩
      rw [if_pos rfl]
      exact ⟨ρ1, T, o, ρ', c', R'.drop, e, k⟩
    · cases e
      have ev := R'.lend.shBl (List.mem_cons_self ..) rfl
      refine ⟨false, ev, ?_⟩
      rw [if_neg Bool.false_ne_true]
      exact k _ H' c' (ev ▸ R')
    · cases e
theorem se_not {a : Expr} {pos : Pos} {m : M O} (h : SE X a m) : SE X (.UnaryOp .Not a pos) (mNotV m) := PE.imp (pe_not h) fun σ H Q w => by
  obtain ⟨ρ, T, o, ρ', c, R, e, k⟩ := w
  obtain ⟨u, ρ1, e1, e⟩ := Res.bind_eq e
  split at e
  · rename_i b
    cases e
    refine ⟨ρ, T, _, _, c, R, e1, fun v H' c' R' => ⟨b, R'.lend.shBl (List.mem_cons_self ..) rfl, k _ H' c' (R'.drop.scal fun _ => .bl _)⟩⟩
  · cases e
/-! ### displays -/
def tMs (K : PySem.W.Frag) (mg : Str → Option Value) (m : M (List O)) : TA := fun σ H Q => ∃ ρ T os ρ', Cov σ ρ ∧ Rep K mg H (pairs σ ρ ++ T) [] ∧ m ρ = .ok os ρ' ∧ ∀ vs H', Cov σ ρ' → vs.length = os.length → Rep K mg H' (zipI vs os ++ (pairs σ ρ' ++ T)) [] → Q vs H'
theorem PA.imp {es : List Expr} {t t' : TA} (h : PA X es t) (q : ∀ σ H Q, t' σ H Q → t σ H Q) : PA X es t' := ⟨fun pos pins s σ H Q I w => h.run pos pins s σ H Q I (q σ H Q w)⟩
def SEs (X : Cx) (es : List Expr) (m : M (List O)) : Prop := PA X es (tMs X.K X.mg m)
def mNil : M (List O) := fun ρ => .ok [] ρ
def mCons (m : M O) (ms : M (List O)) : M (List O) := fun ρ => (m ρ).bind fun o ρ1 => (ms ρ1).bind fun os ρ2 => .ok (o :: os) ρ2
theorem ses_nil : SEs X [] mNil := PA.imp pa_nil fun σ H Q w => by
  obtain ⟨ρ, T, os, ρ', c, R, e, k⟩ := w
  cases e
  exact k [] H c rfl R
theorem ses_cons {e : Expr} {es : List Expr} {m : M O} {ms : M (List O)} (h : SE X e m) (hs : SEs X es ms) (hst : starEach (e :: es) X.env = (false, eval e X.env) :: starEach es X.env := by rfl) : SEs X (e :: es) (mCons m ms) :=
  PA.imp (pa_cons h hs hst) fun σ H Q w => by
    obtain ⟨ρ, T, os, ρ', c, R, e, k⟩ := w
    obtain ⟨o, ρ1, e1, e⟩ := Res.bind_eq e
    obtain ⟨os', ρ2, e2, e⟩ := Res.bind_eq e
    cases e
    refine ⟨ρ, T, o, ρ1, c, R, e1, fun v H1 c1 R1 => ⟨ρ1, .ov v o :: T, os', ρ', c1, R1.perm List.perm_middle.symm, e2, fun vs H2 c2 hl R2 => k (v :: vs) H2 c2 (by simp [hl]) (R2.perm ?_)⟩⟩
    show (zipI vs os' ++ (pairs σ ρ' ++ .ov v o :: T)).Perm (.ov v o :: (zipI vs os' ++ (pairs σ ρ' ++ T)))
    exact ((List.perm_middle (a := Item.ov v o)).append_left _).trans List.perm_middle
def mLst (ms : M (List O)) : M O := fun ρ => (ms ρ).bind fun os ρ' => if os.length ≤ 1000000 then .ok (.lst os) ρ' else .no
def mTup (ms : M (List O)) : M O := fun ρ => (ms ρ).bind fun os ρ' => if os.length ≤ 1000000 then .ok (.val (.tup (O.toDs os))) ρ' else .no
theorem Rep.frzs : ∀ {vs : List V} {os : List O} {H : Hp} {L : List Item}, Rep K mg H (zipI vs os ++ L) [] → Rep K mg H (zipI vs ((O.toDs os).map O.val) ++ L) []
  | [], os, H, L, R => by cases os <;> exact R
  | v :: vs, [], H, L, R => R
  | v :: vs, o :: os, H, L, R => by
    have R1 : Rep K mg H (.ov v (.val o.toD) :: (zipI vs os ++ L)) [] := Rep.frz R
    have R2 : Rep K mg H (zipI vs os ++ (.ov v (.val o.toD) :: L)) [] := R1.perm List.perm_middle.symm
    exact (Rep.frzs R2).perm List.perm_middle
theorem toDs_len (os : List O) : (O.toDs os).length = os.length := by rw [toDs_map]; simp
theorem se_lst {es : List Expr} {pos : Pos} {ms : M (List O)} (h : SEs X es ms) : SE X (.List es pos) (mLst ms) := PE.imp (pe_lst h) fun σ H Q w => by
  obtain ⟨ρ, T, o, ρ', c, R, e, k⟩ := w
  obtain ⟨os, ρ1, e1, e⟩ := Res.bind_eq e
  split at e
  · rename_i hl
    cases e
    refine ⟨ρ, T, os, _, c, R, e1, fun vs H' c' hv R' => ⟨line6 (by omega), fun p hp => k _ _ c' (Rep.closeL (R'.new hp) hv)⟩⟩
  · cases e
theorem se_tup {es : List Expr} {x1 : Nat} {pos : Pos} {ms : M (List O)} (h : SEs X es ms) : SE X (.Tuple es x1 pos) (mTup ms) := PE.imp (pe_tup h) fun σ H Q w => by
  obtain ⟨ρ, T, o, ρ', c, R, e, k⟩ := w
  obtain ⟨os, ρ1, e1, e⟩ := Res.bind_eq e
  split at e
  · rename_i hl
    cases e
    refine ⟨ρ, T, os, _, c, R, e1, fun vs H' c' hv R' => ⟨line6 (by omega), fun p hp => k _ _ c' ?_⟩⟩
    exact Rep.newT (Rep.frzs R') (by rw [toDs_len]; exact hv) hp
  · cases e
end
end FB

/-! Statements: names stored, blocks, if, while, for, return. -/
namespace FB
open PySem PySem.Spec L2
open PyProof.Rows hiding St

section
variable {X : Cx} {K : PySem.W.Frag} {mg : Str → Option Value} {P : List Nat}
/-- what is wanted behind a statement that ends so -/
def Post (K : PySem.W.Frag) (mg : Str → Option Value) (P : List Nat) (T : List Item) (D : Ends) (σ : L2.St) : Res Fl → Prop
  | .ok .nx ρ' => ∀ σ' H', Fix P σ σ' → Cov σ' ρ' → Rep K mg H' (pairs σ' ρ' ++ T) [] → D.nx σ' H'
  | .ok .brk ρ' => ∀ σ' H', Fix P σ σ' → Cov σ' ρ' → Rep K mg H' (pairs σ' ρ' ++ T) [] → D.bk σ' H'
  | .ok .ct ρ' => ∀ σ' H', Fix P σ σ' → Cov σ' ρ' → Rep K mg H' (pairs σ' ρ' ++ T) [] → D.ct σ' H'
  | .ok (.ret o) ρ' => ∀ v σ' H', Fix P σ σ' → Cov σ' ρ' → Rep K mg H' (.ov v o :: (pairs σ' ρ' ++ T)) [] → D.rt v H'
  | .exc _ _ => False
  | .no => False
theorem tS_iff {m : M Fl} {D : Ends} {σ : L2.St} {H : Hp} : tS K mg P m D σ H ↔ ∃ ρ T, Cov σ ρ ∧ Rep K mg H (pairs σ ρ ++ T) [] ∧ Post K mg P T D σ (m ρ) := by
  unfold tS
  constructor
  · rintro ⟨ρ, T, c, R, h⟩
    refine ⟨ρ, T, c, R, ?_⟩
    cases e : m ρ with
    | ok f ρ' => rw [e] at h; cases f <;> exact h
    | exc x ρ' => rw [e] at h; exact h
    | no => rw [e] at h; exact h
  · rintro ⟨ρ, T, c, R, h⟩
    refine ⟨ρ, T, c, R, ?_⟩
    cases e : m ρ with
    | ok f ρ' => rw [e] at h; cases f <;> exact h
    | exc x ρ' => rw [e] at h; exact h
    | no => rw [e] at h; exact h
theorem Post.fix {T : List Item} {D : Ends} {σ σ1 : L2.St} (f : Fix P σ σ1) {r : Res Fl} (h : Post K mg P T D σ r) : Post K mg P T D σ1 r := by
  cases r with
  | ok fl ρ' =>
    cases fl with
    | nx => exact fun σ' H' g => h σ' H' (f.trans g)
    | brk => exact fun σ' H' g => h σ' H' (f.trans g)
    | ct => exact fun σ' H' g => h σ' H' (f.trans g)
    | ret o => exact fun v σ' H' g => h v σ' H' (f.trans g)
  | exc x ρ' => exact h
  | no => exact h
/-- .. the same ends but the next one -/
theorem Post.nx {T : List Item} {D D' : Ends} {σ : L2.St} {r : Res Fl} {g : Env → Res Fl} (h : Post K mg P T D σ (r.bind fun f ρ1 => match f with | .nx => g ρ1 | f => .ok f ρ1)) (e1 : D'.rt = D.rt) (e2 : D'.bk = D.bk) (e3 : D'.ct = D.ct)
    (q : ∀ ρ1 σ' H', Fix P σ σ' → Cov σ' ρ1 → Rep K mg H' (pairs σ' ρ1 ++ T) [] → Post K mg P T D σ (g ρ1) → D'.nx σ' H') : Post K mg P T D' σ r := by
  cases r with
  | ok fl ρ' =>
    cases fl with
    | nx => exact fun σ' H' f c R => q ρ' σ' H' f c R h
    | brk => exact fun σ' H' f c R => by rw [e2]; exact h σ' H' f c R
    | ct => exact fun σ' H' f c R => by rw [e3]; exact h σ' H' f c R
    | ret o => exact fun v σ' H' f c R => by rw [e1]; exact h v σ' H' f c R
  | exc x ρ' => exact h
  | no => exact h
def mSkip : M Fl := fun ρ => .ok .nx ρ
def mSeq (a b : M Fl) : M Fl := fun ρ => (a ρ).bind fun f ρ1 => match f with
  | .nx => b ρ1
  | f => .ok f ρ1
theorem sss_nil : SSs X P [] mSkip := PSs.imp pss_nil fun D σ H w => by
  obtain ⟨ρ, T, c, R, h⟩ := tS_iff.mp w
  exact h σ H (Fix.refl _ _) c R
theorem sss_one {st : Stmt} {m : M Fl} (h : SS X P st m) : SSs X P [st] m := pss_one h
theorem sss_cons {st : Stmt} {rest : List Stmt} {a b : M Fl} (h1 : SS X P st a) (h2 : SSs X P rest b) : SSs X P (st :: rest) (mSeq a b) := PSs.imp (pss_cons h1 h2) fun D σ H w => by
  obtain ⟨ρ, T, c, R, h⟩ := tS_iff.mp w
  refine tS_iff.mpr ⟨ρ, T, c, R, Post.nx (D := D) h rfl rfl rfl fun ρ1 σ' H' f c' R' h' => ?_⟩
  exact tS_iff.mpr ⟨ρ1, T, c', R', h'.fix f⟩
def mCont : M Fl := fun ρ => .ok .ct ρ
theorem ss_cont {pos : Pos} : SS X P (.Continue pos) mCont := PS.imp ps_continue fun D σ H w => by
  obtain ⟨ρ, T, c, R, h⟩ := tS_iff.mp w
  exact h σ H (Fix.refl _ _) c R
/-- what is never come to -/
def mNever : M Fl := fun _ => .no
theorem ss_never {st : Stmt} : SS X P st mNever := PS.imp ps_never fun D σ H w => by
  obtain ⟨ρ, T, c, R, h⟩ := tS_iff.mp w
  exact h
def mEx (m : M O) : M Fl := fun ρ => (m ρ).bind fun _ ρ1 => .ok .nx ρ1
def mRet (m : M O) : M Fl := fun ρ => (m ρ).bind fun o ρ1 => .ok (.ret o) ρ1
theorem ss_expr {e : Expr} {pos : Pos} {m : M O} (h : SE X e m) (hs : swapsWith e none pos.line X.env = pure false := by rfl) : SS X P (.Expr e pos) (mEx m) := PS.imp (ps_expr h hs) fun D σ H w => by
  obtain ⟨ρ, T, c, R, h⟩ := tS_iff.mp w
  unfold mEx at h
  cases e1 : m ρ with
  | ok o ρ1 =>
    rw [e1] at h
    exact ⟨ρ, T, o, ρ1, c, R, e1, fun v H' c' R' => h σ H' (Fix.refl _ _) c' R'.drop⟩
  | exc x ρ1 => rw [e1] at h; exact h.elim
  | no => rw [e1] at h; exact h.elim
theorem ss_ret {e : Expr} {pos : Pos} {m : M O} (h : SE X e m) : SS X P (.Return (some e) pos) (mRet m) := PS.imp (ps_ret h) fun D σ H w => by
  obtain ⟨ρ, T, c, R, h⟩ := tS_iff.mp w
  unfold mRet at h
  cases e1 : m ρ with
  | ok o ρ1 =>
    rw [e1] at h
    exact ⟨ρ, T, o, ρ1, c, R, e1, fun v H' c' R' => h v σ H' (Fix.refl _ _) c' R'⟩
  | exc x ρ1 => rw [e1] at h; exact h.elim
  | no => rw [e1] at h; exact h.elim
def mIf (t : M Bool) (a b : M Fl) : M Fl := fun ρ => (t ρ).bind fun c ρ1 => if c = true then a ρ1 else b ρ1
theorem ss_if {c : Expr} {a b : List Stmt} {pos : Pos} {t : M Bool} {m n : M Fl} (hc : SET X c t) (ha : SSs X P a m) (hb : SSs X P b n) : SS X P (.If c a b pos) (mIf t m n) := PS.imp (ps_if hc ha hb) fun D σ H w => by
  obtain ⟨ρ, T, cv, R, h⟩ := tS_iff.mp w
  unfold mIf at h
  cases e1 : t ρ with
  | ok u ρ1 =>
    rw [e1] at h
    refine ⟨ρ, T, u, ρ1, cv, R, e1, fun H' c' R' => ?_⟩
    cases u with
    | true => rw [if_pos rfl]; exact tS_iff.mpr ⟨ρ1, T, c', R', h⟩
    | false => rw [if_neg Bool.false_ne_true]; exact tS_iff.mpr ⟨ρ1, T, c', R', h⟩
  | exc x ρ1 => rw [e1] at h; exact h.elim
  | no => rw [e1] at h; exact h.elim

/-! ### names stored -/
theorem pairs_none {σ : L2.St} {ρ : Env} {i : Nat} (h : ∀ o, ρ[i]? ≠ some (some o)) : pairs σ (ρ.set i none) = pairs σ ρ := by
  by_cases hi : i < ρ.length
  · have e : ρ[i]? = some none := by
      cases q : ρ[i]? with
      | none => rw [List.getElem?_eq_none_iff] at q; omega
      | some u => cases u with
        | none => rfl
        | some o => exact absurd q (h o)
    have : ρ.set i none = ρ := by
      apply List.ext_getElem?
      intro j
      by_cases hj : i = j
      · subst hj; rw [e]; simp [hi]
      · rw [List.getElem?_set_ne hj]
    rw [this]
  · rw [List.set_eq_of_length_le (by omega)]
theorem Rep.slotDrop {H : Hp} {σ : L2.St} {ρ : Env} {M T : List Item} (c : Cov σ ρ) (i : Nat) (h : Rep K mg H (M ++ (pairs σ ρ ++ T)) []) : Rep K mg H (M ++ (pairs σ (ρ.set i none) ++ T)) [] := by
  by_cases q : ∃ o, ρ[i]? = some (some o)
  · obtain ⟨o, e⟩ := q
    obtain ⟨v, hv⟩ := c.ex i o e
    have p : (M ++ (pairs σ ρ ++ T)).Perm (.ov v o :: (M ++ (pairs σ (ρ.set i none) ++ T))) :=
      (((pairs_take hv e).append_right T).append_left M).trans List.perm_middle
    exact (h.perm p).drop
  · rw [pairs_none fun o e => q ⟨o, e⟩]; exact h
theorem Rep.store {H : Hp} {σ : L2.St} {ρ : Env} {T : List Item} {i : Nat} {v : V} {o : O} (c : Cov σ ρ) (h : Rep K mg H (.ov v o :: (pairs σ ρ ++ T)) []) : Rep K mg H (pairs (σ.set i (some v)) (ρ.set i (some o)) ++ T) [] := by
  by_cases hi : i < ρ.length
  · have h1 := Rep.slotDrop (M := [.ov v o]) c i h
    exact h1.perm ((pairs_put (by rw [c.len]; exact hi) hi).append_right T)
  · rw [List.set_eq_of_length_le (by rw [c.len]; omega), List.set_eq_of_length_le (by omega)]
    exact h.drop
def mSetO (i : Nat) (m : M O) : M Fl := fun ρ => (m ρ).bind fun o ρ1 => .ok .nx (ρ1.set i (some o))
def mSetP (i : Nat) (m : M O) : M Fl := fun ρ => (m ρ).bind fun o ρ1 => .ok .nx (ρ1.set i (some (.val o.toD)))
theorem ss_setO (i : Nat) {x : Str} {e : Expr} {pos pos' : Pos} {m : M O} (ok : CxOk X) (hi : X.N[i]? = some x) (hx : Loc X.env.scope x) (h : SE X e m) (hP : i ∉ P := by decide) (hs : swapsWith e (some (.Name x pos')) pos.line X.env = pure false := by rfl) (hf : X.fn x = true ∨ X.env.scope.names.lookup x = some .local := by first | exact .inl rfl | exact .inr rfl | assumption) :
    SS X P (.Assign [.Name x pos'] e pos) (mSetO i m) := PS.imp (ps_set ok.nd hi hx h hs hf) fun D σ H w => by
  obtain ⟨ρ, T, c, R, h⟩ := tS_iff.mp w
  unfold mSetO at h
  cases e1 : m ρ with
  | ok o ρ1 =>
    rw [e1] at h
    exact ⟨ρ, T, o, ρ1, c, R, e1, fun v H' c' R' => h _ H' (Fix.set hP) (c'.set i v o) (Rep.store c' R')⟩
  | exc x ρ1 => rw [e1] at h; exact h.elim
  | no => rw [e1] at h; exact h.elim
theorem ss_setP (i : Nat) {x : Str} {e : Expr} {pos pos' : Pos} {m : M O} (ok : CxOk X) (hi : X.N[i]? = some x) (hx : Loc X.env.scope x) (h : SE X e m) (hP : i ∉ P := by decide) (hs : swapsWith e (some (.Name x pos')) pos.line X.env = pure false := by rfl) (hf : X.fn x = true ∨ X.env.scope.names.lookup x = some .local := by first | exact .inl rfl | exact .inr rfl | assumption) :
    SS X P (.Assign [.Name x pos'] e pos) (mSetP i m) := PS.imp (ps_set ok.nd hi hx h hs hf) fun D σ H w => by
  obtain ⟨ρ, T, c, R, h⟩ := tS_iff.mp w
  unfold mSetP at h
  cases e1 : m ρ with
  | ok o ρ1 =>
    rw [e1] at h
    exact ⟨ρ, T, o, ρ1, c, R, e1, fun v H' c' R' => h _ H' (Fix.set hP) (c'.set i v _) (Rep.store c' R'.frz)⟩
  | exc x ρ1 => rw [e1] at h; exact h.elim
  | no => rw [e1] at h; exact h.elim

/-! ### targets -/
structure RlOk (Rl : L2.St → L2.St → Prop) : Prop where
  refl : ∀ σ, Rl σ σ
  trans : ∀ {a b c}, Rl a b → Rl b c → Rl a c
def RlSet (Rl : L2.St → L2.St → Prop) (i : Nat) : Prop := ∀ (σ : L2.St) (v : Option V), Rl σ (σ.set i v)
theorem fixOk (P : List Nat) : RlOk (Fix P) := ⟨Fix.refl P, Fix.trans⟩
theorem fixSet {P : List Nat} {i : Nat} (h : i ∉ P := by decide) : RlSet (Fix P) i := fun _ _ => Fix.set h
def Wip (own : List Nat) (σ σ' : L2.St) : Prop := wipe σ' own = wipe σ own
theorem wipOk (own : List Nat) : RlOk (Wip own) := ⟨fun _ => rfl, fun h q => Eq.trans q h⟩
theorem wipe_set : ∀ {own : List Nat} {σ : L2.St} {i : Nat} {v : Option V}, i ∈ own → wipe (σ.set i v) own = wipe σ own
  | [], _, _, _, h => by simp at h
  | w :: ws, σ, i, v, h => by
    unfold wipe
    by_cases e : i ∈ ws
    · rw [wipe_set e]
    · have : i = w := by rcases List.mem_cons.mp h with q | q; exact q; exact absurd q e
      subst this
      have out : ∀ {ws : List Nat} {σ : L2.St}, i ∉ ws → wipe (σ.set i v) ws = (wipe σ ws).set i v := by
        intro ws
        induction ws with
        | nil => intro σ _; rfl
        | cons u us ih =>
          intro σ hm
          unfold wipe
          rw [ih (fun z => hm (List.mem_cons_of_mem _ z))]
          exact List.set_comm _ _ (fun z => hm (by rw [z]; exact List.mem_cons_self ..))
      rw [out e, List.set_set]
theorem wipSet {own : List Nat} {i : Nat} (h : i ∈ own := by decide) : RlSet (Wip own) i := fun _ _ => wipe_set h
variable {Rl : L2.St → L2.St → Prop}
def tG (K : PySem.W.Frag) (mg : Str → Option Value) (Rl : L2.St → L2.St → Prop) (a : D → Env → Option Env) : TG := fun v σ H Q => ∃ ρ T d ρ', Cov σ ρ ∧ Rep K mg H (.ov v (.val d) :: (pairs σ ρ ++ T)) [] ∧ a d ρ = some ρ' ∧ ∀ σ', Rl σ σ' → Cov σ' ρ' → Rep K mg H (pairs σ' ρ' ++ T) [] → Q σ' H
def tGs (K : PySem.W.Frag) (mg : Str → Option Value) (Rl : L2.St → L2.St → Prop) (a : List D → Env → Option Env) : TGs := fun vs σ H Q => ∃ ρ T ds ρ', Cov σ ρ ∧ vs.length = ds.length ∧ Rep K mg H (zipI vs (ds.map O.val) ++ (pairs σ ρ ++ T)) [] ∧ a ds ρ = some ρ' ∧ ∀ σ', Rl σ σ' → Cov σ' ρ' → Rep K mg H (pairs σ' ρ' ++ T) [] → Q σ' H
theorem PG.imp {e : Expr} {t t' : TG} (h : PG X e t) (q : ∀ v σ H Q, t' v σ H Q → t v σ H Q) : PG X e t' := ⟨fun pins s σ H v u Q I r w => h.run pins s σ H v u Q I r (q v σ H Q w)⟩
theorem PGs.imp {e : List Expr} {t t' : TGs} (h : PGs X e t) (q : ∀ v σ H Q, t' v σ H Q → t v σ H Q) : PGs X e t' := ⟨fun pins s σ H v u Q I r w => h.run pins s σ H v u Q I r (q v σ H Q w)⟩
def SG (X : Cx) (Rl : L2.St → L2.St → Prop) (e : Expr) (a : D → Env → Option Env) : Prop := PG X e (tG X.K X.mg Rl a)
def SGs (X : Cx) (Rl : L2.St → L2.St → Prop) (e : List Expr) (a : List D → Env → Option Env) : Prop := PGs X e (tGs X.K X.mg Rl a)
def aN (i : Nat) : D → Env → Option Env := fun d ρ => some (ρ.set i (some (.val d)))
def aNil : List D → Env → Option Env := fun ds ρ => match ds with
  | [] => some ρ
  | _ => none
def aCons (a : D → Env → Option Env) (as : List D → Env → Option Env) : List D → Env → Option Env := fun ds ρ => match ds with
  | d :: ds => (a d ρ).bind fun ρ1 => as ds ρ1
  | _ => none
def aTup (as : List D → Env → Option Env) : D → Env → Option Env := fun d ρ => match d with
  | .tup ds => as ds ρ
  | _ => none
theorem sg_n (i : Nat) {x : Str} {pos : Pos} (ok : CxOk X) (hi : X.N[i]? = some x) (hx : Loc X.env.scope x) (hP : RlSet Rl i) (hf : X.fn x = true ∨ X.env.scope.names.lookup x = some .local := by first | exact .inl rfl | exact .inr rfl | assumption) : SG X Rl (.Name x pos) (aN i) :=
  PG.imp (pg_name ok.nd hi hx hf) fun v σ H Q w => by
    obtain ⟨ρ, T, d, ρ', c, R, e, k⟩ := w
    cases e
    exact k _ (hP σ _) (c.set i v _) (Rep.store c R)
theorem sgs_nil (hr : RlOk Rl) : SGs X Rl [] aNil := PGs.imp pgs_nil fun vs σ H Q w => by
  obtain ⟨ρ, T, ds, ρ', c, hl, R, e, k⟩ := w
  cases ds with
  | nil =>
    cases e
    have : vs = [] := List.eq_nil_of_length_eq_zero hl
    subst this
    exact ⟨rfl, k σ (hr.refl _) c R⟩
  | cons d ds => cases e
theorem sgs_cons (hr : RlOk Rl) {e : Expr} {es : List Expr} {a : D → Env → Option Env} {as : List D → Env → Option Env} (h1 : SG X Rl e a) (h2 : SGs X Rl es as) (hs : (assignEach (e :: es) X.env).map (·.2) = assign e X.env :: (assignEach es X.env).map (·.2) := by rfl) : SGs X Rl (e :: es) (aCons a as) :=
  PGs.imp (pgs_cons h1 h2 hs) fun vs σ H Q w => by
    obtain ⟨ρ, T, ds, ρ', c, hl, R, e, k⟩ := w
    cases ds with
    | nil => cases e
    | cons d ds =>
      cases vs with
      | nil => simp at hl
      | cons v vs =>
        have e : (a d ρ).bind (fun ρ1 => as ds ρ1) = some ρ' := e
        cases e1 : a d ρ with
        | none => rw [e1] at e; cases e
        | some ρ1 =>
          rw [e1] at e
          refine ⟨v, vs, rfl, ρ, zipI vs (ds.map O.val) ++ T, d, ρ1, c, R.perm ?_, e1, fun σ1 f1 c1 R1 => ?_⟩
          · refine List.Perm.cons _ ?_
            show (zipI vs (ds.map O.val) ++ (pairs σ ρ ++ T)).Perm _
            rw [← List.append_assoc, ← List.append_assoc]
            exact List.perm_append_comm.append_right T
          · refine ⟨ρ1, T, ds, ρ', c1, by simpa using hl, R1.perm ?_, e, fun σ' f' c' R' => k σ' (hr.trans f1 f') c' R'⟩
            rw [← List.append_assoc, ← List.append_assoc]
            exact List.perm_append_comm.append_right T
theorem sg_tup {es : List Expr} {x1 : Nat} {pos : Pos} {as : List D → Env → Option Env} {n : Nat} (ok : CxOk X) (h : SGs X Rl es as) (hn : (assignEach es X.env).length = n := by rfl) (hst : (assignEach es X.env).findIdx? (·.1) = none := by rfl) (hl : ∀ ds ρ ρ', as ds ρ = some ρ' → ds.length = n) : SG X Rl (.Tuple es x1 pos) (aTup as) :=
  PG.imp (pg_tup ok.calm h hn hst) fun v σ H Q w => by
    obtain ⟨ρ, T, d, ρ', c, R, e, k⟩ := w
    unfold aTup at e
    split at e
    · rename_i ds
      obtain ⟨p, vs, rfl, hp, lp, R1⟩ := R.lend.shT (List.mem_cons_self ..) rfl
      refine ⟨p, vs, rfl, hp, by rw [lp]; exact hl _ _ _ e, ρ, T, ds, ρ', c, lp, ?_, e, k⟩
      exact (R1.nob.perm List.perm_middle).drop
    · cases e
theorem aNil_len : ∀ ds ρ ρ', aNil ds ρ = some ρ' → ds.length = 0 := fun ds ρ ρ' e => by
  cases ds with
  | nil => rfl
  | cons => cases e
theorem aCons_len {a : D → Env → Option Env} {as : List D → Env → Option Env} {n : Nat} (h : ∀ ds ρ ρ', as ds ρ = some ρ' → ds.length = n) : ∀ ds ρ ρ', aCons a as ds ρ = some ρ' → ds.length = n + 1 := fun ds ρ ρ' e => by
  cases ds with
  | nil => cases e
  | cons d ds =>
    have e : (a d ρ).bind (fun ρ1 => as ds ρ1) = some ρ' := e
    cases e1 : a d ρ with
    | none => rw [e1] at e; cases e
    | some ρ1 => rw [e1] at e; simp [h ds ρ1 ρ' e]
/-- a, b = .. -/
def mAsg (a : D → Env → Option Env) (m : M O) : M Fl := fun ρ => (m ρ).bind fun o ρ1 => match a o.toD ρ1 with
  | some ρ2 => .ok .nx ρ2
  | none => .no
theorem ss_asg {tg e : Expr} {pos : Pos} {m : M O} {a : D → Env → Option Env} (h : SE X e m) (hg : SG X (Fix P) tg a) (hs : swapsWithSole [tg] e pos.line X.env = pure false := by rfl) (hw : swappedStores [tg] e X.env = pure none := by rfl) (h1 : (assignEach [tg] X.env).map (·.2) = [assign tg X.env] := by rfl) : SS X P (.Assign [tg] e pos) (mAsg a m) :=
  PS.imp (ps_asg h hg hs hw h1) fun D σ H w => by
    obtain ⟨ρ, T, c, R, h⟩ := tS_iff.mp w
    unfold mAsg at h
    cases e1 : m ρ with
    | ok o ρ1 =>
      rw [e1] at h
      have h : Post X.K X.mg P T D σ (match a o.toD ρ1 with | some ρ2 => .ok .nx ρ2 | none => .no) := h
      cases e2 : a o.toD ρ1 with
      | none => rw [e2] at h; exact h.elim
      | some ρ2 =>
        rw [e2] at h
        exact ⟨ρ, T, o, ρ1, c, R, e1, fun v H' c' R' => ⟨ρ1, T, _, ρ2, c', R'.frz, e2, fun σ' f' c2 R2 => h σ' H' f' c2 R2⟩⟩
    | exc x ρ1 => rw [e1] at h; exact h.elim
    | no => rw [e1] at h; exact h.elim

/-! ### while -/
def whileN (t : M Bool) (b : M Fl) : Nat → M Fl
  | 0 => fun _ => .no
  | n + 1 => fun ρ => (t ρ).bind fun c ρ1 => if c = true then (b ρ1).bind fun f ρ2 => match f with
      | .nx => whileN t b n ρ2
      | .ct => whileN t b n ρ2
      | .brk => .ok .nx ρ2
      | .ret o => .ok (.ret o) ρ2
    else .ok .nx ρ1
def mWhile (fuel : Env → Nat) (t : M Bool) (b : M Fl) : M Fl := fun ρ => whileN t b (fuel ρ) ρ
theorem ss_while {c : Expr} {body : List Stmt} {pos : Pos} {t : M Bool} {b : M Fl} (fuel : Env → Nat) (hp : PassesOwn (model X.prog X.w) X.A X.env X.xe) (hc : SET X c t) (hb : SSs X P body b) : SS X P (.While c body [] pos) (mWhile fuel t b) :=
  PS.imp (ps_while hp hc hb) fun D σ H w => by
    obtain ⟨ρ, T, cv, R, h⟩ := tS_iff.mp w
    refine ⟨fun n σ' H' => ∃ ρ', Fix P σ σ' ∧ Cov σ' ρ' ∧ Rep X.K X.mg H' (pairs σ' ρ' ++ T) [] ∧ Post X.K X.mg P T D σ (whileN t b n ρ'), ⟨fuel ρ, ρ, Fix.refl _ _, cv, R, h⟩, ?_⟩
    rintro n σ1 H1 ⟨ρ1, f1, c1, R1, h1⟩
    cases n with
    | zero => exact h1.elim
    | succ n =>
      have h1 : Post X.K X.mg P T D σ ((t ρ1).bind fun c ρ1 => if c = true then (b ρ1).bind fun f ρ2 => match f with
        | .nx => whileN t b n ρ2
        | .ct => whileN t b n ρ2
        | .brk => .ok .nx ρ2
        | .ret o => .ok (.ret o) ρ2
        else .ok .nx ρ1) := h1
      cases e1 : t ρ1 with
      | exc x ρ2 => rw [e1] at h1; exact h1.elim
      | no => rw [e1] at h1; exact h1.elim
      | ok u ρ2 =>
        rw [e1] at h1
        refine ⟨ρ1, T, u, ρ2, c1, R1, e1, fun H2 c2 R2 => ?_⟩
        cases u with
        | false =>
          rw [if_neg Bool.false_ne_true]
          exact h1 σ1 H2 f1 c2 R2
        | true =>
          rw [if_pos rfl]
          have h1 : Post X.K X.mg P T D σ ((b ρ2).bind fun f ρ2 => match f with
            | .nx => whileN t b n ρ2
            | .ct => whileN t b n ρ2
            | .brk => .ok .nx ρ2
            | .ret o => .ok (.ret o) ρ2) := h1
          refine ⟨fun σ' H' => ∃ ρ', Fix P σ σ' ∧ Cov σ' ρ' ∧ Rep X.K X.mg H' (pairs σ' ρ' ++ T) [] ∧ Post X.K X.mg P T D σ (whileN t b n ρ'), fun σ' H' q => ⟨n, Nat.lt_succ_self n, q⟩, ?_⟩
          refine tS_iff.mpr ⟨ρ2, T, c2, R2, ?_⟩
          cases e2 : b ρ2 with
          | exc x ρ3 => rw [e2] at h1; exact h1.elim
          | no => rw [e2] at h1; exact h1.elim
          | ok fl ρ3 =>
            rw [e2] at h1
            cases fl with
            | nx => exact fun σ' H' f' c' R' => ⟨ρ3, f1.trans f', c', R', h1⟩
            | ct => exact fun σ' H' f' c' R' => ⟨ρ3, f1.trans f', c', R', h1⟩
            | brk => exact fun σ' H' f' c' R' => h1 σ' H' (f1.trans f') c' R'
            | ret o => exact fun v σ' H' f' c' R' => h1 v σ' H' (f1.trans f') c' R'

/-! ### for -/
/-- an iterator that yields these, while the kept items stand -/
def Its (K : PySem.W.Frag) (mg : Str → Option Value) (J : It) (ks : List Item) (ds : List D) : Prop :=
  ∀ (L : List Item) (H : Hp), Rep K mg H (ks ++ L) [] → (∀ (i : Nat) (d : D), ds[i]? = some d → J.go i H ∧ ∀ x H', J.yld i H x H' → Same H H' ∧ Rep K mg H' (.ov x (.val d) :: (ks ++ L)) []) ∧ J.stop ds.length H
def tI (K : PySem.W.Frag) (mg : Str → Option Value) (m : M (List D)) : TI := fun σ H R => ∃ ρ T ds ρ', Cov σ ρ ∧ Rep K mg H (pairs σ ρ ++ T) [] ∧ m ρ = .ok ds ρ' ∧ ∀ J ks H', Cov σ ρ' → Its K mg J ks ds → Rep K mg H' (ks ++ (pairs σ ρ' ++ T)) [] → R J H'
theorem PI.imp {tg it : Expr} {t t' : TI} (h : PI X tg it t) (q : ∀ σ H R, t' σ H R → t σ H R) : PI X tg it t' := ⟨fun pins s σ H R I w => h.run pins s σ H R I (q σ H R w)⟩
def SI (X : Cx) (tg it : Expr) (m : M (List D)) : Prop := PI X tg it (tI X.K X.mg m)
def forL (a : D → Env → Option Env) (b : M Fl) : List D → M Fl
  | [] => fun ρ => .ok .nx ρ
  | d :: ds => fun ρ => match a d ρ with
    | none => .no
    | some ρ1 => (b ρ1).bind fun f ρ2 => match f with
      | .nx => forL a b ds ρ2
      | .ct => forL a b ds ρ2
      | .brk => .ok .nx ρ2
      | .ret o => .ok (.ret o) ρ2
def mFor (m : M (List D)) (a : D → Env → Option Env) (b : M Fl) : M Fl := fun ρ => (m ρ).bind fun ds ρ1 => forL a b ds ρ1
theorem drop_cons {α : Type} {ds : List α} {i : Nat} (h : i < ds.length) : ds.drop i = ds[i] :: ds.drop (i + 1) := List.drop_eq_getElem_cons h
theorem Rep.drops : ∀ {H : Hp} {M L : List Item}, Rep K mg H (M ++ L) [] → Rep K mg H L []
  | _, [], _, h => h
  | _, _ :: _, _, h => Rep.drops (Rep.drop h)
theorem rot (A B C : List Item) : (A ++ (B ++ C)).Perm (B ++ (A ++ C)) := by
  rw [← List.append_assoc, ← List.append_assoc]
  exact List.perm_append_comm.append_right _
theorem Post.more {ks T : List Item} {D : Ends} {σ : L2.St} {r : Res Fl} (h : Post K mg P T D σ r) : Post K mg P (ks ++ T) D σ r := by
  cases r with
  | ok fl ρ' =>
    cases fl with
    | nx => exact fun σ' H' f c R => h σ' H' f c (R.perm (rot _ _ _)).drops
    | brk => exact fun σ' H' f c R => h σ' H' f c (R.perm (rot _ _ _)).drops
    | ct => exact fun σ' H' f c R => h σ' H' f c (R.perm (rot _ _ _)).drops
    | ret o => exact fun v σ' H' f c R => h v σ' H' f c (R.perm (((rot _ _ _).cons _).trans List.perm_middle.symm)).drops
  | exc x ρ' => exact h
  | no => exact h
/-- the turns of a loop over these -/
theorem for_core {J : It} {ks T : List Item} {ds : List D} {a : D → Env → Option Env} {b : M Fl} {D : Ends} {σ : L2.St} {H : Hp} {ρ : Env} (c : Cov σ ρ) (hJ : Its K mg J ks ds) (R : Rep K mg H (ks ++ (pairs σ ρ ++ T)) []) (h : Post K mg P (ks ++ T) D σ (forL a b ds ρ)) :
    ∃ W : Nat → Nat → L2.St → Hp → Prop, (∃ m, W 0 m σ H) ∧ ∀ i m σ H, W i m σ H →
      (J.stop i H ∧ D.nx σ H) ∨ (J.go i H ∧ ∃ N : L2.St → Hp → Prop, (∀ σ' H', N σ' H' → ∃ m', m' < m ∧ W (i + 1) m' σ' H') ∧ ∀ x H', J.yld i H x H' → tG K mg (Fix P) a x σ H' fun σ2 H2 => tS K mg P b { D with nx := N, ct := N, bk := D.nx } σ2 H2) := by
  let W : Nat → L2.St → Hp → Prop := fun i σ' H' => ∃ ρ', i ≤ ds.length ∧ Fix P σ σ' ∧ Cov σ' ρ' ∧ Rep K mg H' (ks ++ (pairs σ' ρ' ++ T)) [] ∧ Post K mg P (ks ++ T) D σ (forL a b (ds.drop i) ρ')
  refine ⟨fun i n σ' H' => n = ds.length - i ∧ W i σ' H', ⟨ds.length, by simp, ρ, Nat.zero_le _, Fix.refl _ _, c, R, h⟩, ?_⟩
  rintro i n σ1 H1 ⟨rfl, ρ2, hi, f1, c1, R1, h1⟩
  by_cases hlt : i < ds.length
  · have hd : ds[i]? = some ds[i] := by simp [hlt]
    obtain ⟨hgo, hy⟩ := (hJ _ H1 R1).1 i _ hd
    refine .inr ⟨hgo, fun σ' H' => W (i + 1) σ' H', fun σ' H' q => ⟨ds.length - (i + 1), by omega, rfl, q⟩, fun x H2 y => ?_⟩
    obtain ⟨_, R2⟩ := hy x H2 y
    rw [drop_cons hlt] at h1
    have h1 : Post K mg P (ks ++ T) D σ (match a ds[i] ρ2 with
      | none => .no
      | some ρ1 => (b ρ1).bind fun f ρ2 => match f with
        | .nx => forL a b (ds.drop (i + 1)) ρ2
        | .ct => forL a b (ds.drop (i + 1)) ρ2
        | .brk => .ok .nx ρ2
        | .ret o => .ok (.ret o) ρ2) := h1
    cases e2 : a ds[i] ρ2 with
    | none => rw [e2] at h1; exact h1.elim
    | some ρ3 =>
      rw [e2] at h1
      refine ⟨ρ2, ks ++ T, ds[i], ρ3, c1, R2.perm ((rot _ _ _).cons _), e2, fun σ3 f3 c3 R3 => ?_⟩
      refine tS_iff.mpr ⟨ρ3, ks ++ T, c3, R3, ?_⟩
      have back : ∀ {H' : Hp} {σ' : L2.St} {ρ' : Env}, Rep K mg H' (pairs σ' ρ' ++ (ks ++ T)) [] → Rep K mg H' (ks ++ (pairs σ' ρ' ++ T)) [] := fun R => R.perm (rot _ _ _)
      have h1 : Post K mg P (ks ++ T) D σ ((b ρ3).bind fun f ρ2 => match f with
        | .nx => forL a b (ds.drop (i + 1)) ρ2
        | .ct => forL a b (ds.drop (i + 1)) ρ2
        | .brk => .ok .nx ρ2
        | .ret o => .ok (.ret o) ρ2) := h1
      cases e3 : b ρ3 with
      | exc x ρ4 => rw [e3] at h1; exact h1.elim
      | no => rw [e3] at h1; exact h1.elim
      | ok fl ρ4 =>
        rw [e3] at h1
        cases fl with
        | nx => exact fun σ' H' f' c' R' => ⟨ρ4, hlt, f1.trans (f3.trans f'), c', back R', h1⟩
        | ct => exact fun σ' H' f' c' R' => ⟨ρ4, hlt, f1.trans (f3.trans f'), c', back R', h1⟩
        | brk => exact fun σ' H' f' c' R' => h1 σ' H' (f1.trans (f3.trans f')) c' R'
        | ret o => exact fun v σ' H' f' c' R' => h1 v σ' H' (f1.trans (f3.trans f')) c' R'
  · have e : i = ds.length := by omega
    subst e
    refine .inl ⟨(hJ _ H1 R1).2, ?_⟩
    rw [List.drop_length] at h1
    exact h1 σ1 H1 f1 c1 (R1.perm (rot _ _ _))
theorem ss_for {tg iter : Expr} {body : List Stmt} {pos : Pos} {m : M (List D)} {a : D → Env → Option Env} {b : M Fl} (ok : CxOk X) (hp : PassesOwn (model X.prog X.w) X.A X.env X.xe) (hi : SI X tg iter m) (hg : SG X (Fix P) tg a) (hb : SSs X P body b)
    (hs : ∀ x, foldedSetIterable iter X.env x = pure x := by intro _; rfl) : SS X P (.For tg iter body [] pos) (mFor m a b) :=
  PS.imp (ps_for hp ok.calm hi hg hb hs) fun D σ H w => by
    obtain ⟨ρ, T, cv, R, h⟩ := tS_iff.mp w
    unfold mFor at h
    cases e1 : m ρ with
    | exc x ρ1 => rw [e1] at h; exact h.elim
    | no => rw [e1] at h; exact h.elim
    | ok ds ρ1 =>
      rw [e1] at h
      exact ⟨ρ, T, ds, ρ1, cv, R, e1, fun J ks H' c' hJ R' => for_core c' hJ R' (Post.more h)⟩
end
end FB

/-! What a for or a comprehension walks. -/
namespace FB
open PySem PySem.Spec L2
open PyProof.Rows hiding St

section
variable {X : Cx} {K : PySem.W.Frag} {mg : Str → Option Value}
theorem its_list {a : Addr} {ds : List D} : Its K mg (Itl K a) [.ov (.ref a) (.val (.lst ds))] ds := by
  intro L H R
  obtain ⟨p, vs, e, hp, lp, R1⟩ := (Rep.lend R).shL (List.mem_cons_self ..) rfl
  cases e
  refine ⟨fun i d hd => ?_, ⟨vs, .inl hp, by omega⟩⟩
  have hi : i < ds.length := (List.getElem?_eq_some_iff.mp hd).1
  have hv : vs[i]? = some (vs[i]'(by omega)) := by simp
  refine ⟨⟨vs, _, .inl hp, hv⟩, fun x H' y => ?_⟩
  obtain ⟨e, y⟩ := y
  subst e
  have := y vs (.inl hp)
  exact ⟨Same.refl _, (R1.nth this hd).keep.nob⟩
theorem its_tup {a : Addr} {ds : List D} : Its K mg (Itt K a) [.ov (.ref a) (.val (.tup ds))] ds := by
  intro L H R
  obtain ⟨p, vs, e, hp, lp, R1⟩ := (Rep.lend R).shT (List.mem_cons_self ..) rfl
  cases e
  refine ⟨fun i d hd => ?_, ⟨vs, hp, by omega⟩⟩
  have hi : i < ds.length := (List.getElem?_eq_some_iff.mp hd).1
  have hv : vs[i]? = some (vs[i]'(by omega)) := by simp
  refine ⟨⟨vs, _, hp, hv⟩, fun x H' y => ?_⟩
  obtain ⟨e, y⟩ := y
  subst e
  have := y vs hp
  exact ⟨Same.refl _, (R1.nth this hd).keep.nob⟩
theorem its_scr {a : Addr} {ns : List Int} : Its K mg (Itl K a) [.ov (.ref a) (.val (.scr ns))] (ns.map D.int) := by
  intro L H R
  have q : Vw K mg H (.ref a) (.scr ns) := (Rep.lend R).view (List.mem_cons_self ..)
  cases q with
  | scr h =>
    refine ⟨fun i d hd => ?_, ⟨_, h, by simp⟩⟩
    rw [List.getElem?_map] at hd
    cases e : ns[i]? with
    | none => rw [e] at hd; cases hd
    | some n =>
      rw [e] at hd; cases hd
      have hv : (ns.map V.int)[i]? = some (.int n) := by rw [List.getElem?_map, e]; rfl
      refine ⟨⟨_, _, h, hv⟩, fun x H' y => ?_⟩
      obtain ⟨e1, y⟩ := y
      subst e1
      have := y _ h
      rw [hv] at this
      cases this
      exact ⟨Same.refl _, R.scal fun _ => .int n⟩
def rangeL (lo : Int) (n : Nat) : List D := (List.range n).map fun (i : Nat) => D.int (lo + (i : Int))
theorem its_range {lo : Int} {n : Nat} : Its K mg (Itr lo n) [] (rangeL lo n) := by
  intro L H R
  refine ⟨fun i d hd => ?_, by unfold rangeL; simp [Itr]⟩
  have hi : i < n := by
    have := (List.getElem?_eq_some_iff.mp hd).1
    simpa [rangeL] using this
  have e : d = .int (lo + i) := by
    unfold rangeL at hd
    rw [List.getElem?_map, List.getElem?_range hi] at hd
    cases hd; rfl
  subst e
  refine ⟨hi, fun x H' y => ?_⟩
  obtain ⟨e1, e2⟩ := y
  subst e1 e2
  exact ⟨Same.refl _, R.scal fun _ => .int _⟩
def signs (z : Str) : List D := z.cps.toList.map fun c => D.str ⟨#[c]⟩
theorem its_str {z : Str} (hz : PyData.strOk z = true) : Its K mg (L2.Its z) [] (signs z) := by
  intro L H R
  refine ⟨fun i d hd => ?_, by unfold signs; simp [L2.Its]⟩
  have hi : i < z.cps.size := by
    have := (List.getElem?_eq_some_iff.mp hd).1
    simpa [signs] using this
  refine ⟨hi, fun x H' y => ?_⟩
  obtain ⟨e1, c, hc, e2⟩ := y
  subst e1 e2
  have e : d = .str ⟨#[c]⟩ := by
    unfold signs at hd
    rw [List.getElem?_map] at hd
    have : z.cps.toList[i]? = some c := by simpa using hc
    rw [this] at hd
    cases hd; rfl
  subst e
  have hm : c ∈ z.cps.toList := List.mem_of_getElem? (by simpa using hc)
  have q : z.cps.all (· < 0x110000) = true := hz
  rw [← Array.all_toList, List.all_eq_true] at q
  have hk : PyData.strOk ⟨#[c]⟩ = true := by
    show (#[c].all _) = true
    simp [of_decide_eq_true (q c hm)]
  exact ⟨Same.refl _, R.scal fun _ => .str _ hk⟩
def enumL (ds : List D) : List D := ds.mapIdx fun i d => .tup [.int (i : Nat), d]
theorem enumL_get {ds : List D} {i : Nat} {d : D} (h : (enumL ds)[i]? = some d) : ∃ e, ds[i]? = some e ∧ d = .tup [.int (i : Nat), e] := by
  unfold enumL at h
  rw [List.getElem?_mapIdx] at h
  cases e : ds[i]? with
  | none => rw [e] at h; cases h
  | some x => rw [e] at h; cases h; exact ⟨x, rfl, rfl⟩
theorem its_enum {a : Addr} {ds : List D} : Its K mg (Ite K a) [.ov (.ref a) (.val (.lst ds))] (enumL ds) := by
  intro L H R
  obtain ⟨p, vs, e, hp, lp, R1⟩ := (Rep.lend R).shL (List.mem_cons_self ..) rfl
  cases e
  have hl : (enumL ds).length = ds.length := by unfold enumL; simp
  refine ⟨fun i d hd => ?_, ⟨vs, .inl hp, by rw [hl]; omega⟩⟩
  obtain ⟨e, he, rfl⟩ := enumL_get hd
  have hi : i < ds.length := (List.getElem?_eq_some_iff.mp he).1
  have hv : vs[i]? = some (vs[i]'(by omega)) := by simp
  refine ⟨⟨vs, _, .inl hp, hv⟩, fun x H' y => ?_⟩
  obtain ⟨T, u, rfl, hT, rfl, y⟩ := y
  have hu := y vs (.inl hp)
  refine ⟨sameNew hT, ?_⟩
  have R2 := (R1.nth hu he).keep.nob
  have R3 : Rep K mg H (zipI [.int (i : Nat), u] ([D.int (i : Nat), e].map O.val) ++ (.ov (.ref a) (.val (.lst ds)) :: L)) [] := R2.scal fun _ => .int _
  exact Rep.newT R3 rfl hT
/-! ### the rules -/
theorem PI.or {tg it : Expr} {t t' : TI} (h : PI X tg it t) (h' : PI X tg it t') : PI X tg it (fun σ H R => t σ H R ∨ t' σ H R) := ⟨fun pins s σ H R I w => w.elim (h.run pins s σ H R I) (h'.run pins s σ H R I)⟩
def D.items? : D → Option (List D)
  | .lst ds => some ds
  | .tup ds => some ds
  | .scr ns => some (ns.map D.int)
  | .str z => some (signs z)
  | _ => none
def mI (m : M O) : M (List D) := fun ρ => (m ρ).bind fun o ρ1 => match o.toD.items? with
  | some ds => .ok ds ρ1
  | none => .no
theorem si_val {tg e : Expr} {m : M O} (h : SE X e m) : SI X tg e (mI m) := PI.imp (FB.PI.or (pi_list h) (FB.PI.or (pi_tup h) (pi_str h))) fun σ H R w => by
  obtain ⟨ρ, T, ds, ρ', c, Rp, e, k⟩ := w
  obtain ⟨o, ρ1, e1, e⟩ := Res.bind_eq e
  split at e
  · rename_i ds' e2
    cases e
    cases hd : o.toD with
    | lst es =>
      rw [hd] at e2; cases e2
      refine .inl ⟨ρ, T, o, _, c, Rp, e1, fun v H' c' R' => ?_⟩
      have R2 := R'.frz
      rw [hd] at R2
      obtain ⟨p, vs, rfl, hp, lp, _⟩ := R2.lend.shL (List.mem_cons_self ..) rfl
      exact ⟨p, rfl, ⟨vs, .inl hp⟩, k _ _ _ c' its_list R2⟩
    | tup es =>
      rw [hd] at e2; cases e2
      refine .inr (.inl ⟨ρ, T, o, _, c, Rp, e1, fun v H' c' R' => ?_⟩)
      have R2 := R'.frz
      rw [hd] at R2
      obtain ⟨p, vs, rfl, hp, lp, _⟩ := R2.lend.shT (List.mem_cons_self ..) rfl
      exact ⟨p, rfl, ⟨vs, hp⟩, k _ _ _ c' its_tup R2⟩
    | scr ns =>
      rw [hd] at e2; cases e2
      refine .inl ⟨ρ, T, o, _, c, Rp, e1, fun v H' c' R' => ?_⟩
      have R2 := R'.frz
      rw [hd] at R2
      have q : Vw X.K X.mg H' v (.scr ns) := R2.lend.view (List.mem_cons_self ..)
      cases q with
      | scr hq => exact ⟨_, rfl, ⟨_, hq⟩, k _ _ _ c' its_scr R2⟩
    | str z =>
      rw [hd] at e2; cases e2
      refine .inr (.inr ⟨ρ, T, o, _, c, Rp, e1, fun v H' c' R' => ?_⟩)
      have R2 := R'.frz
      rw [hd] at R2
      exact ⟨z, R2.lend.shStr (List.mem_cons_self ..) rfl, k _ [] _ c' (its_str (R2.lend.strOk (List.mem_cons_self ..) rfl)) R2.drop⟩
    | non => rw [hd] at e2; cases e2
    | bl _ => rw [hd] at e2; cases e2
    | int _ => rw [hd] at e2; cases e2
    | dct _ _ => rw [hd] at e2; cases e2
    | ins _ _ _ => rw [hd] at e2; cases e2
    | fn _ => rw [hd] at e2; cases e2
  · cases e
theorem line62 : (2 : Int) ^ 62 = 4611686018427387904 := by decide
def small (i : Int) : Bool := decide (-1000000000000 < i) && decide (i < 1000000000000)
theorem small_eq {i : Int} (h : small i = true) : -(2 ^ 62) ≤ i ∧ i < 2 ^ 62 := by
  unfold small at h
  simp only [Bool.and_eq_true, decide_eq_true_eq] at h
  rw [line62]; omega
def mR1 (m : M O) : M (List D) := fun ρ => (m ρ).bind fun o ρ1 => match o with
  | .val (.int j) => if small j = true then .ok (rangeL 0 j.toNat) ρ1 else .no
  | _ => .no
theorem si_range1 {tg a : Expr} {p pos : Pos} {m : M O} (hg : Gl X "range") (hm : X.mg "range" = none) (ha : SE X a m) (hs : starEach (a :: []) X.env = (false, eval a X.env) :: starEach [] X.env := by rfl) : SI X tg (.Call (.Name "range" p) [a] [] pos) (mR1 m) :=
  PI.imp (pi_range1 hg hm (pa_cons ha pa_nil hs) hs) fun σ H R w => by
    obtain ⟨ρ, T, ds, ρ', c, Rp, e, k⟩ := w
    obtain ⟨o, ρ1, e1, e⟩ := Res.bind_eq e
    split at e
    · rename_i j
      split at e
      · rename_i hj
        cases e
        obtain ⟨h1, h2⟩ := small_eq hj
        exact ⟨ρ, T, _, _, c, Rp, e1, fun v H' c' R' => ⟨j, by rw [R'.lend.shInt (List.mem_cons_self ..) rfl], h1, h2, k _ [] _ c' its_range R'.drop⟩⟩
      · cases e
    · cases e
def mEnum (m : M O) : M (List D) := fun ρ => (m ρ).bind fun o ρ1 => match o.toD with
  | .lst ds => .ok (enumL ds) ρ1
  | _ => .no
theorem si_enum {a : Expr} {elts : List Expr} {kk : Nat} {tpos : Pos} {p pos : Pos} {m : M O} (hg : Gl X "enumerate") (hm : X.mg "enumerate" = none) (ha : SE X a m) (hs : starEach (a :: []) X.env = (false, eval a X.env) :: starEach [] X.env := by rfl) : SI X (.Tuple elts kk tpos) (.Call (.Name "enumerate" p) [a] [] pos) (mEnum m) :=
  PI.imp (pi_enum hg hm (pa_cons ha pa_nil hs) hs) fun σ H R w => by
    obtain ⟨ρ, T, ds, ρ', c, Rp, e, k⟩ := w
    obtain ⟨o, ρ1, e1, e⟩ := Res.bind_eq e
    split at e
    · rename_i es hd
      cases e
      refine ⟨ρ, T, o, _, c, Rp, e1, fun v H' c' R' => ?_⟩
      have R2 := R'.frz
      rw [hd] at R2
      obtain ⟨p, vs, rfl, hp, lp, _⟩ := R2.lend.shL (List.mem_cons_self ..) rfl
      exact ⟨p, vs, rfl, .inl hp, k _ _ _ c' its_enum R2⟩
    · cases e
end
end FB

/-! Comprehensions; defs and their calls. -/
namespace FB
open PySem PySem.Spec L2
open PyProof.Rows hiding St

section
variable {X : Cx} {K : PySem.W.Frag} {mg : Str → Option Value}
/-! ### comprehensions -/
abbrev own2 (own : List (Str × Nat)) : List Nat := own.map (·.2)
def wipeE (ρ : Env) : List Nat → Env
  | [] => ρ
  | v :: vs => (wipeE ρ vs).set v none
/-- the own names as they stood ahead -/
def backE (ρ2 ρ1 : Env) : List Nat → Env
  | [] => ρ2
  | v :: vs => match (wipeE ρ1 vs)[v]? with
    | some (some o) => (backE ρ2 ρ1 vs).set v (some o)
    | _ => backE ρ2 ρ1 vs
theorem wipeE_len (ρ : Env) : ∀ own : List Nat, (wipeE ρ own).length = ρ.length
  | [] => rfl
  | v :: vs => by unfold wipeE; rw [List.length_set, wipeE_len ρ vs]
theorem Cov.wipe {σ : L2.St} {ρ : Env} (c : Cov σ ρ) : ∀ own : List Nat, Cov (wipe σ own) (wipeE ρ own)
  | [] => c
  | v :: vs => by
    have ih := Cov.wipe c vs
    unfold L2.wipe wipeE
    refine ⟨by simp [ih.len], fun i o h => ?_⟩
    by_cases e : v = i
    · subst e
      have : v < (wipeE ρ vs).length := by
        have := (List.getElem?_eq_some_iff.mp h).1
        simpa using this
      simp [this] at h
    · rw [List.getElem?_set_ne e] at h ⊢
      exact ih.ex i o h
theorem wipeE_cons (ρ : Env) (v : Nat) (vs : List Nat) : wipeE ρ (v :: vs) = (wipeE ρ vs).set v none := rfl
theorem wipeE_none {ρ : Env} : ∀ {own : List Nat} {v : Nat} {o : O}, v ∈ own → (wipeE ρ own)[v]? ≠ some (some o)
  | [], _, _, h => by simp at h
  | w :: ws, v, o, h => by
    rw [wipeE_cons]
    by_cases e : w = v
    · subst e
      intro z
      have : w < (wipeE ρ ws).length := by
        have := (List.getElem?_eq_some_iff.mp z).1
        simpa using this
      simp [this] at z
    · rw [List.getElem?_set_ne e]
      have : v ∈ ws := by rcases List.mem_cons.mp h with q | q; exact absurd q.symm e; exact q
      exact wipeE_none this
theorem wipe_out {σ : L2.St} {i : Nat} : ∀ {vs : List Nat}, i ∉ vs → (wipe σ vs)[i]? = σ[i]?
  | [], _ => rfl
  | v :: vs, h => by
    unfold wipe
    rw [List.getElem?_set_ne (fun z => h (by rw [z]; exact List.mem_cons_self ..))]
    exact wipe_out fun z => h (List.mem_cons_of_mem _ z)
theorem pairs_congr : ∀ {σ σ' : L2.St} {ρ : Env}, σ.length = σ'.length → (∀ (i : Nat) (o : O), ρ[i]? = some (some o) → σ[i]? = σ'[i]?) → pairs σ ρ = pairs σ' ρ
  | [], [], _, _, _ => rfl
  | [], _ :: _, _, hl, _ => by simp at hl
  | _ :: _, [], _, hl, _ => by simp at hl
  | a :: σ, a' :: σ', [], _, _ => by rw [pairs_nil', pairs_nil']
  | a :: σ, a' :: σ', b :: ρ, hl, h => by
    have t := pairs_congr (σ := σ) (σ' := σ') (ρ := ρ) (by simpa using hl) (fun i o e => by simpa using h (i + 1) o (by simpa using e))
    cases b with
    | none => rw [pairs_sn, pairs_sn, t]
    | some b =>
      have e := h 0 b (by simp)
      simp at e
      subst e
      cases a with
      | none => rw [pairs_ns, pairs_ns, t]
      | some a => rw [pairs_ss, pairs_ss, t]
theorem pairs_wipe {σ : L2.St} {ρ : Env} (own : List Nat) : pairs (wipe σ own) (wipeE ρ own) = pairs σ (wipeE ρ own) :=
  pairs_congr (wipe_length _ _) fun i o e => wipe_out fun z => wipeE_none z e
theorem pairs_wipe2 {σ : L2.St} {ρ : Env} {own : List Nat} (h : ∀ v ∈ own, ∀ o, ρ[v]? ≠ some (some o)) : pairs (wipe σ own) ρ = pairs σ ρ :=
  pairs_congr (wipe_length _ _) fun i o e => wipe_out fun z => h i z o e
/-- the own slots' things stand aside -/
theorem aside {σ : L2.St} {ρ : Env} (c : Cov σ ρ) : ∀ own : List Nat, own.Nodup → ∃ R : List Item, (pairs σ ρ).Perm (R ++ pairs σ (wipeE ρ own)) ∧
    ∀ ρ2 : Env, Cov σ ρ2 → (∀ v ∈ own, ∀ o, ρ2[v]? ≠ some (some o)) → Cov σ (backE ρ2 ρ own) ∧ (R ++ pairs σ ρ2).Perm (pairs σ (backE ρ2 ρ own))
  | [], _ => ⟨[], .refl _, fun ρ2 c2 _ => ⟨c2, .refl _⟩⟩
  | v :: vs, nd => by
    obtain ⟨hv, nd'⟩ := List.nodup_cons.mp nd
    obtain ⟨R, p, back⟩ := aside c vs nd'
    have cw := Cov.wipe c vs
    by_cases q : ∃ o, (wipeE ρ vs)[v]? = some (some o)
    · obtain ⟨o, e⟩ := q
      obtain ⟨w, hw0⟩ := cw.ex v o e
      have hw : σ[v]? = some (some w) := (wipe_some hw0).1
      refine ⟨.ov w o :: R, ?_, fun ρ2 c2 hn => ?_⟩
      · refine p.trans ?_
        rw [wipeE_cons]
        exact ((pairs_take hw e).append_left R).trans List.perm_middle
      · obtain ⟨c3, p3⟩ := back ρ2 c2 fun u hu => hn u (List.mem_cons_of_mem _ hu)
        have e2 : backE ρ2 ρ (v :: vs) = (backE ρ2 ρ vs).set v (some o) := by
          show (match (wipeE ρ vs)[v]? with | some (some o) => (backE ρ2 ρ vs).set v (some o) | _ => backE ρ2 ρ vs) = _
          rw [e]
        rw [e2]
        have hl : v < ρ.length := by
          have := (List.getElem?_eq_some_iff.mp e).1
          rwa [wipeE_len] at this
        have hl3 : v < (backE ρ2 ρ vs).length := by rw [← c3.len, c.len]; exact hl
        have hnone : ∀ u, (backE ρ2 ρ vs)[v]? ≠ some (some u) := by
          have out : ∀ {vs : List Nat}, v ∉ vs → ∀ u, (backE ρ2 ρ vs)[v]? ≠ some (some u) := by
            intro vs
            induction vs with
            | nil => intro _ u; exact hn v (List.mem_cons_self ..) u
            | cons a as ih =>
              intro hm u
              unfold backE
              have h1 : v ≠ a := fun z => hm (by rw [z]; exact List.mem_cons_self ..)
              have h2 := ih (fun z => hm (List.mem_cons_of_mem _ z)) u
              split
              · rw [List.getElem?_set_ne (Ne.symm h1)]; exact h2
              · exact h2
          exact out hv
        refine ⟨c3.put hw _, ?_⟩
        refine (p3.cons (.ov w o)).trans ?_
        have e3 : pairs σ ((backE ρ2 ρ vs).set v none) = pairs σ (backE ρ2 ρ vs) := pairs_none hnone
        have := pairs_back (σ := σ) (ρ := backE ρ2 ρ vs) (o := o) hw hl3
        rw [e3] at this
        exact this
    · refine ⟨R, ?_, fun ρ2 c2 hn => ?_⟩
      · rw [wipeE_cons, pairs_none fun o e => q ⟨o, e⟩]
        exact p
      · obtain ⟨c3, p3⟩ := back ρ2 c2 fun u hu => hn u (List.mem_cons_of_mem _ hu)
        have e2 : backE ρ2 ρ (v :: vs) = backE ρ2 ρ vs := by
          show (match (wipeE ρ vs)[v]? with | some (some o) => (backE ρ2 ρ vs).set v (some o) | _ => backE ρ2 ρ vs) = _
          split
          · rename_i o e; exact absurd ⟨o, e⟩ q
          · rfl
        rw [e2]
        exact ⟨c3, p3⟩
theorem wipe_wipe (σ : L2.St) (own : List Nat) : wipe (wipe σ own) own = wipe σ own := by
  apply List.ext_getElem?
  intro i
  by_cases h : i ∈ own
  · have n : ∀ (τ : L2.St), (wipe τ own)[i]? = if i < τ.length then some none else none := fun τ => by
      split
      · rename_i hi
        cases q : (wipe τ own)[i]? with
        | none => rw [List.getElem?_eq_none_iff, wipe_length] at q; omega
        | some u =>
          cases u with
          | none => rfl
          | some x => exact absurd h (wipe_some q).2
      · rename_i hi
        rw [List.getElem?_eq_none_iff, wipe_length]; omega
    rw [n, n, wipe_length]
  · rw [wipe_out h]
theorem wipeE_id {ρ : Env} : ∀ {own : List Nat}, (∀ v ∈ own, ∀ o, ρ[v]? ≠ some (some o)) → wipeE ρ own = ρ
  | [], _ => rfl
  | v :: vs, h => by
    rw [wipeE_cons, wipeE_id fun u hu => h u (List.mem_cons_of_mem _ hu)]
    apply List.ext_getElem?
    intro i
    by_cases e : v = i
    · subst e
      by_cases hv : v < ρ.length
      · rw [List.getElem?_set_self hv]
        cases q : ρ[v]? with
        | none => rw [List.getElem?_eq_none_iff] at q; omega
        | some u => cases u with
          | none => rfl
          | some o => exact absurd q (h v (List.mem_cons_self ..) o)
      · rw [List.getElem?_eq_none_iff.mpr (by simpa using hv), List.getElem?_eq_none_iff.mpr (by omega)]
    · rw [List.getElem?_set_ne e]
def compL (own : List Nat) (a : D → Env → Option Env) (t : M Bool) (e : M O) : List D → M (List O)
  | [] => fun ρ => .ok [] ρ
  | d :: ds => fun ρ => match a d ρ with
    | none => .no
    | some ρ1 => (t ρ1).bind fun b ρ2 => if b = true then (e ρ2).bind fun o ρ3 => (compL own a t e ds (wipeE ρ3 own)).bind fun os ρ4 => .ok (o :: os) ρ4 else compL own a t e ds (wipeE ρ2 own)
def mComp (it : M (List D)) (own : List Nat) (a : D → Env → Option Env) (t : M Bool) (e : M O) : M O := fun ρ => (it ρ).bind fun ds ρ1 => if ds.length ≤ 1000000 then (compL own a t e ds (wipeE ρ1 own)).bind fun os ρ2 => .ok (.lst os) (backE (wipeE ρ2 own) ρ1 own) else .no
def mTrue : M Bool := fun ρ => .ok true ρ
def SETs (X : Cx) (ifs : List Expr) (m : M Bool) : Prop := PTs X ifs (tMT X.K X.mg m)
theorem sets_nil : SETs X [] mTrue := ⟨fun pins s σ H Q I w => by
  obtain ⟨ρ, T, b, ρ', c, R, e, k⟩ := w
  cases e
  exact pts_nil.run pins s σ H Q I (k H c R)⟩
theorem sets_one {c : Expr} {m : M Bool} (h : SET X c m) : SETs X [c] m := pts_one h
theorem compL_len {own : List Nat} {a : D → Env → Option Env} {t : M Bool} {e : M O} : ∀ {ds : List D} {ρ ρ' : Env} {os : List O}, compL own a t e ds ρ = .ok os ρ' → os.length ≤ ds.length
  | [], ρ, ρ', os, h => by cases h; simp
  | d :: ds, ρ, ρ', os, h => by
    unfold compL at h
    cases e1 : a d ρ with
    | none => rw [e1] at h; cases h
    | some ρ1 =>
      rw [e1] at h
      obtain ⟨b, ρ2, e2, h⟩ := Res.bind_eq h
      split at h
      · obtain ⟨o, ρ3, e3, h⟩ := Res.bind_eq h
        obtain ⟨os', ρ4, e4, h⟩ := Res.bind_eq h
        cases h
        have := compL_len e4
        simp; omega
      · have := compL_len h
        simp; omega
theorem comp_core0 {own : List Nat} {g : TG} {tt : TT} {te : TE} {a : D → Env → Option Env} {t : M Bool} {e : M O} {J : It} {ks T : List Item} {ds : List D} {ρ1 ρ2 : Env} {fin : List O} {σ : L2.St} {H1 : Hp} {Q : VK} {D : Addr} (nd : own.Nodup)
    (hg : ∀ v σ H Q, tG K mg (Wip own) a v σ H Q → g v σ H Q) (ht : ∀ σ H Q, tMT K mg t σ H Q → tt σ H Q) (he : ∀ σ H Q, tM K mg e σ H Q → te σ H Q) (hlen : ds.length ≤ 1000000) (c1 : Cov σ ρ1) (hJ : Its K mg J ks ds)
    (R1 : Rep K mg H1 (ks ++ (pairs σ ρ1 ++ T)) []) (e2 : compL own a t e ds (wipeE ρ1 own) = .ok fin ρ2) (hD : H1 D = none)
    (k : ∀ H', Cov σ (backE (wipeE ρ2 own) ρ1 own) → Rep K mg H' (.ov (.ref D) (.lst fin) :: (ks ++ (pairs σ (backE (wipeE ρ2 own) ρ1 own) ++ T))) [] → Q (.ref D) H') :
    ∃ W : Nat → Nat → Hp → Prop, (∃ m, W 0 m (upd H1 D (.lst []))) ∧ ∀ i m H, W i m H →
      (J.stop i H ∧ Q (.ref D) H) ∨ (J.go i H ∧ ∃ Nx : Hp → Prop, (∀ H', Nx H' → ∃ m', m' < m ∧ W (i + 1) m' H') ∧ ∀ x H', J.yld i H x H' → g x (wipe σ own) H' fun σ2 H2 => wipe σ2 own = wipe σ own ∧ tt σ2 H2 fun b H3 =>
        if b = true then te σ2 H3 fun y H4 => ∃ acc, H4 D = some (.lst acc) ∧ acc.length < sizeLine ∧ Nx (upd H4 D (.lst (acc ++ [y]))) else Nx H3) := by
  obtain ⟨R, p, back⟩ := aside c1 own nd
  have cw := Cov.wipe c1 own
  let W : Nat → Hp → Prop := fun i H' => ∃ ρ' acc os os', i ≤ ds.length ∧ Cov (wipe σ own) ρ' ∧ (∀ v ∈ own, ∀ o, ρ'[v]? ≠ some (some o)) ∧ acc.length = os.length ∧ fin = os ++ os' ∧
    Rep K mg H' (.raw D (.lst acc) :: (zipI acc os ++ (ks ++ (pairs (wipe σ own) ρ' ++ (R ++ T))))) [] ∧ compL own a t e (ds.drop i) ρ' = .ok os' ρ2
  refine ⟨fun i n H' => n = ds.length - i ∧ W i H', ⟨ds.length, by simp, wipeE ρ1 own, [], [], fin, Nat.zero_le _, cw, fun v hv o => wipeE_none hv, rfl, rfl, ?_, e2⟩, ?_⟩
  · rw [pairs_wipe]
    refine (R1.perm ?_).new hD
    show (ks ++ (pairs σ ρ1 ++ T)).Perm (ks ++ (pairs σ (wipeE ρ1 own) ++ (R ++ T)))
    refine List.Perm.append_left _ ?_
    rw [← List.append_assoc]
    exact (p.trans List.perm_append_comm).append_right T
  · rintro i n H2 ⟨rfl, ρ3, acc, os, os', hi', c3, hn3, hl, hf, R3, e3⟩
    have p3 : ∀ (Z : List Item) (M : List Item), (.raw D (.lst acc) :: (zipI acc os ++ (ks ++ M)) : List Item).Perm (ks ++ (.raw D (.lst acc) :: (zipI acc os ++ M))) := fun _ M => by
      refine List.Perm.trans (List.Perm.cons _ ?_) List.perm_middle.symm
      rw [← List.append_assoc, ← List.append_assoc]
      exact List.perm_append_comm.append_right _
    by_cases hlt : i < ds.length
    · have hd : ds[i]? = some ds[i] := by simp [hlt]
      obtain ⟨hgo, hy⟩ := (hJ _ H2 (R3.perm (p3 [] _))).1 i _ hd
      refine .inr ⟨hgo, fun H' => W (i + 1) H', fun H' q => ⟨ds.length - (i + 1), by omega, rfl, q⟩, fun x H3 y => ?_⟩
      obtain ⟨_, R4⟩ := hy x H3 y
      rw [drop_cons hlt] at e3
      unfold compL at e3
      cases e4 : a ds[i] ρ3 with
      | none => rw [e4] at e3; cases e3
      | some ρ4 =>
        rw [e4] at e3
        obtain ⟨b, ρ5, e5, e3⟩ := Res.bind_eq e3
        -- the frame of the turn
        have F : List Item := ks ++ (.raw D (.lst acc) :: (zipI acc os ++ (R ++ T)))
        have pF : ∀ (M : List Item), (ks ++ (.raw D (.lst acc) :: (zipI acc os ++ (M ++ (R ++ T)))) : List Item).Perm (M ++ (ks ++ (.raw D (.lst acc) :: (zipI acc os ++ (R ++ T))))) := fun M => by
          have q1 : (zipI acc os ++ (M ++ (R ++ T))).Perm (M ++ (zipI acc os ++ (R ++ T))) := rot _ _ _
          have q2 : (.raw D (.lst acc) :: (zipI acc os ++ (M ++ (R ++ T))) : List Item).Perm (M ++ (.raw D (.lst acc) :: (zipI acc os ++ (R ++ T)))) := (q1.cons _).trans List.perm_middle.symm
          exact (q2.append_left ks).trans (rot _ _ _)
        refine hg x (wipe σ own) H3 _ ⟨ρ3, _, ds[i], ρ4, c3, R4.perm ((pF _).cons _), e4, fun σ4 f4 c4 R5 => ?_⟩
        have fw : wipe σ4 own = wipe σ own := by
          have q : wipe σ4 own = wipe (wipe σ own) own := f4
          rw [q]
          exact wipe_wipe σ own
        refine ⟨fw, ht σ4 H3 _ ⟨ρ4, _, b, ρ5, c4, R5, e5, fun H5 c5 R6 => ?_⟩⟩
        have next : ∀ {H' : Hp} {ρ' : Env} {acc' : List V} {os2 : List O} {os3 : List O}, Cov σ4 ρ' → acc'.length = os2.length → fin = os2 ++ os3 → Rep K mg H' (pairs σ4 ρ' ++ (ks ++ (.raw D (.lst acc') :: (zipI acc' os2 ++ (R ++ T))))) [] → compL own a t e (ds.drop (i + 1)) (wipeE ρ' own) = .ok os3 ρ2 → W (i + 1) H' := by
          intro H' ρ' acc' os2 os3 cv hl' hf' R' e'
          refine ⟨wipeE ρ' own, acc', os2, os3, hlt, by rw [← fw]; exact Cov.wipe cv own, fun v hv o => wipeE_none hv, hl', hf', ?_, e'⟩
          obtain ⟨Rx, px, _⟩ := aside cv own nd
          have R7 : Rep K mg H' (Rx ++ (pairs σ4 (wipeE ρ' own) ++ (ks ++ (.raw D (.lst acc') :: (zipI acc' os2 ++ (R ++ T)))))) [] := R'.perm ((px.append_right _).trans (by rw [List.append_assoc]))
          have R8 := R7.drops
          have e8 : pairs σ4 (wipeE ρ' own) = pairs (wipe σ own) (wipeE ρ' own) := by rw [← fw, pairs_wipe]
          rw [e8] at R8
          refine R8.perm ?_
          have q0 : (ks ++ (.raw D (.lst acc') :: (zipI acc' os2 ++ (R ++ T))) : List Item).Perm (.raw D (.lst acc') :: (zipI acc' os2 ++ (ks ++ (R ++ T)))) := by
            exact List.perm_middle.trans (List.Perm.cons _ (rot _ _ _))
          refine (q0.append_left _).trans ?_
          refine List.perm_middle.trans (List.Perm.cons _ ?_)
          exact (rot _ _ _).trans (List.Perm.append_left _ (rot _ _ _))
        cases b with
        | true =>
          rw [if_pos rfl] at e3
          refine iteT ?_
          obtain ⟨o, ρ6, e6, e3⟩ := Res.bind_eq e3
          obtain ⟨os'', ρ7, e7, e3⟩ := Res.bind_eq e3
          cases e3
          refine he σ4 H5 _ ⟨ρ5, _, o, ρ6, c5, R6, e6, fun y H6 c6 R7 => ?_⟩
          have pD : (.ov y o :: (pairs σ4 ρ6 ++ (ks ++ (.raw D (.lst acc) :: (zipI acc os ++ (R ++ T))))) : List Item).Perm (.raw D (.lst acc) :: (.ov y o :: (pairs σ4 ρ6 ++ (ks ++ (zipI acc os ++ (R ++ T)))))) := by
            refine List.Perm.trans (List.Perm.cons _ ?_) (.swap _ _ _)
            exact (List.Perm.append_left _ List.perm_middle).trans List.perm_middle
          have R8 := R7.perm pD
          have hlen3 : acc.length < 1000000 := by
            have q := compL_len e2
            rw [hf, List.length_append, List.length_cons] at q
            omega
          refine ⟨acc, R8.rawAt, by rw [sizeLine_eq]; omega, ?_⟩
          have R9 := R8.write (o' := .lst (acc ++ [y]))
          refine next (acc' := acc ++ [y]) (os2 := os ++ [o]) (os3 := os'') c6 (by simp [hl]) (by rw [hf, List.append_assoc]; rfl) (R9.perm ?_) e7
          have ez : zipI (acc ++ [y]) (os ++ [o]) = zipI acc os ++ [.ov y o] := by
            unfold zipI
            rw [List.zipWith_append hl]; rfl
          rw [ez]
          refine List.Perm.trans ?_ (List.Perm.append_left _ (List.Perm.append_left _ (List.Perm.cons _ (List.Perm.append_right _ List.perm_append_comm))))
          show (.raw D (.lst (acc ++ [y])) :: .ov y o :: (pairs σ4 ρ6 ++ (ks ++ (zipI acc os ++ (R ++ T)))) : List Item).Perm (pairs σ4 ρ6 ++ (ks ++ (.raw D (.lst (acc ++ [y])) :: .ov y o :: (zipI acc os ++ (R ++ T)))))
          have q : ∀ (A B C : List Item) (u w : Item), (u :: w :: (A ++ (B ++ C))).Perm (A ++ (B ++ (u :: w :: C))) := fun A B C u w => by
            refine List.Perm.trans ?_ (List.Perm.append_left _ (List.perm_middle.symm))
            refine List.Perm.trans ?_ List.perm_middle.symm
            refine List.Perm.cons _ ?_
            refine List.Perm.trans ?_ (List.Perm.append_left _ (List.perm_middle.symm))
            exact List.perm_middle.symm
          exact q _ _ _ _ _
        | false =>
          rw [if_neg Bool.false_ne_true] at e3
          refine iteF ?_
          exact next c5 hl hf R6 e3
    · have ei : i = ds.length := by omega
      subst ei
      rw [List.drop_length] at e3
      cases e3
      rw [List.append_nil] at hf
      subst hf
      refine .inl ⟨(hJ _ H2 (R3.perm (p3 [] _))).2, ?_⟩
      have e4 : wipeE ρ2 own = ρ2 := wipeE_id hn3
      have c4 : Cov σ ρ2 := ⟨by rw [← c3.len, wipe_length], fun i o h => by
        obtain ⟨v, hv⟩ := c3.ex i o h
        exact ⟨v, (wipe_some hv).1⟩⟩
      obtain ⟨c5, p5⟩ := back ρ2 c4 hn3
      rw [e4] at k
      refine k H2 c5 ?_
      rw [pairs_wipe2 hn3] at R3
      have R4 := Rep.closeL R3 hl
      refine R4.perm (List.Perm.cons _ (List.Perm.append_left _ ?_))
      rw [← List.append_assoc]
      exact (List.perm_append_comm.trans p5).append_right T
theorem comp_core {tg iter elt : Expr} {own : List Nat} {wi : TI} {g : TG} {tt : TT} {te : TE} {it : M (List D)} {a : D → Env → Option Env} {t : M Bool} {e : M O} (nd : own.Nodup)
    (hi : ∀ σ H R, tI K mg it σ H R → wi σ H R) (hg : ∀ v σ H Q, tG K mg (Wip own) a v σ H Q → g v σ H Q) (ht : ∀ σ H Q, tMT K mg t σ H Q → tt σ H Q) (he : ∀ σ H Q, tM K mg e σ H Q → te σ H Q)
    (σ : L2.St) (H : Hp) (Q : VK) (w : tM K mg (mComp it own a t e) σ H Q) : tLc wi g tt te own σ H Q := by
  obtain ⟨ρ, T, o, ρ', c, Rp, e0, k⟩ := w
  obtain ⟨ds, ρ1, e1, e0⟩ := Res.bind_eq e0
  split at e0
  · rename_i hlen
    obtain ⟨fin, ρ2, e2, e0⟩ := Res.bind_eq e0
    cases e0
    refine hi σ H _ ⟨ρ, T, ds, ρ1, c, Rp, e1, fun J ks H1 c1 hJ R1 D hD => ?_⟩
    exact comp_core0 nd hg ht he hlen c1 hJ R1 e2 hD fun H' c' R' => k _ H' c' ((R'.perm List.perm_middle.symm).drops)
  · cases e0
theorem se_comp {tg iter elt : Expr} {ifs : List Expr} {scope : Scope} {own : List (Str × Nat)} {pos : Pos} {it : M (List D)} {a : D → Env → Option Env} {t : M Bool} {e : M O} (ok : CxOk X) (hi : SI X tg iter it) (bo : BlkOk X.N X.env.scope scope own)
    (hg : ∀ (s : Shared) (H : Hp) (C : Addr) (cl : List (Str × Addr)) (fp : List Addr), SG (X.blk s H scope (compEnvC scope cl C X.env) fp) (Wip (own2 own)) tg a) (ht : ∀ (s : Shared) (H : Hp) (C : Addr) (cl : List (Str × Addr)) (fp : List Addr), SETs (X.blk s H scope (compEnvC scope cl C X.env) fp) ifs t)
    (he : ∀ (s : Shared) (H : Hp) (C : Addr) (cl : List (Str × Addr)) (fp : List Addr), SE (X.blk s H scope (compEnvC scope cl C X.env) fp) elt e) (nd : (own2 own).Nodup := by decide) (hs : ∀ x, foldedSetIterable iter X.env x = pure x := by intro _; rfl) :
    SE X (.ListComp elt [⟨tg, iter, ifs, 0⟩] scope pos) (mComp it (own2 own) a t e) := PE.imp (pe_lc (wi := tI X.K X.mg it) (g := tG X.K X.mg (Wip (own2 own)) a) (tt := tMT X.K X.mg t) (te := tM X.K X.mg e) ok.calm ok.nd hi bo hg ht he hs) (comp_core (tg := tg) (iter := iter) (elt := elt) nd (fun _ _ _ w => w) (fun _ _ _ _ w => w) (fun _ _ _ w => w) (fun _ _ _ w => w))

/-- name = [..], on one line, the name a local of the def's -/
theorem ss_setLcO (i : Nat) {P : List Nat} {y : Str} {py : Pos} {tg iter elt : Expr} {ifs : List Expr} {scope : Scope} {own : List (Str × Nat)} {pos spos : Pos} {it : M (List D)} {a : D → Env → Option Env} {t : M Bool} {e : M O} (ok : CxOk X) (hy : X.N[i]? = some y) (hyl : X.env.scope.names.lookup y = some .local)
    (hsw : swapsWith (.ListComp elt [⟨tg, iter, ifs, 0⟩] scope pos) (some (.Name y py)) spos.line X.env = pure true) (hi : SI X tg iter it) (bo : BlkOk X.N X.env.scope scope own)
    (hg : ∀ (s : Shared) (H : Hp) (C : Addr) (cl : List (Str × Addr)) (fp : List Addr), SG (X.blk s H scope (compEnvC scope cl C X.env) fp) (Wip (own2 own)) tg a) (ht : ∀ (s : Shared) (H : Hp) (C : Addr) (cl : List (Str × Addr)) (fp : List Addr), SETs (X.blk s H scope (compEnvC scope cl C X.env) fp) ifs t)
    (he : ∀ (s : Shared) (H : Hp) (C : Addr) (cl : List (Str × Addr)) (fp : List Addr), SE (X.blk s H scope (compEnvC scope cl C X.env) fp) elt e) (hP : i ∉ P := by decide) (nd : (own2 own).Nodup := by decide) (hs : ∀ x, foldedSetIterable iter X.env x = pure x := by intro _; rfl) :
    SS X P (.Assign [.Name y py] (.ListComp elt [⟨tg, iter, ifs, 0⟩] scope pos) spos) (mSetO i (mComp it (own2 own) a t e)) :=
  PS.imp (ps_setLc (wi := tI X.K X.mg it) (g := tG X.K X.mg (Wip (own2 own)) a) (tt := tMT X.K X.mg t) (te := tM X.K X.mg e) ok.calm ok.nd hy hyl hsw hi bo hg ht he hs) fun D σ H w => by
    obtain ⟨ρ, T, c, R, h⟩ := tS_iff.mp w
    unfold mSetO at h
    cases e1 : mComp it (own2 own) a t e ρ with
    | ok o ρ1 =>
      rw [e1] at h
      exact comp_core (tg := tg) (iter := iter) (elt := elt) nd (fun _ _ _ w => w) (fun _ _ _ _ w => w) (fun _ _ _ w => w) (fun _ _ _ w => w) σ H _ ⟨ρ, T, o, ρ1, c, R, e1, fun v H' c' R' => h _ H' (Fix.set hP) (c'.set i v o) (Rep.store c' R')⟩
    | exc x ρ1 => rw [e1] at h; exact h.elim
    | no => rw [e1] at h; exact h.elim
theorem ss_setLcP (i : Nat) {P : List Nat} {y : Str} {py : Pos} {tg iter elt : Expr} {ifs : List Expr} {scope : Scope} {own : List (Str × Nat)} {pos spos : Pos} {it : M (List D)} {a : D → Env → Option Env} {t : M Bool} {e : M O} (ok : CxOk X) (hy : X.N[i]? = some y) (hyl : X.env.scope.names.lookup y = some .local)
    (hsw : swapsWith (.ListComp elt [⟨tg, iter, ifs, 0⟩] scope pos) (some (.Name y py)) spos.line X.env = pure true) (hi : SI X tg iter it) (bo : BlkOk X.N X.env.scope scope own)
    (hg : ∀ (s : Shared) (H : Hp) (C : Addr) (cl : List (Str × Addr)) (fp : List Addr), SG (X.blk s H scope (compEnvC scope cl C X.env) fp) (Wip (own2 own)) tg a) (ht : ∀ (s : Shared) (H : Hp) (C : Addr) (cl : List (Str × Addr)) (fp : List Addr), SETs (X.blk s H scope (compEnvC scope cl C X.env) fp) ifs t)
    (he : ∀ (s : Shared) (H : Hp) (C : Addr) (cl : List (Str × Addr)) (fp : List Addr), SE (X.blk s H scope (compEnvC scope cl C X.env) fp) elt e) (hP : i ∉ P := by decide) (nd : (own2 own).Nodup := by decide) (hs : ∀ x, foldedSetIterable iter X.env x = pure x := by intro _; rfl) :
    SS X P (.Assign [.Name y py] (.ListComp elt [⟨tg, iter, ifs, 0⟩] scope pos) spos) (mSetP i (mComp it (own2 own) a t e)) :=
  PS.imp (ps_setLc (wi := tI X.K X.mg it) (g := tG X.K X.mg (Wip (own2 own)) a) (tt := tMT X.K X.mg t) (te := tM X.K X.mg e) ok.calm ok.nd hy hyl hsw hi bo hg ht he hs) fun D σ H w => by
    obtain ⟨ρ, T, c, R, h⟩ := tS_iff.mp w
    unfold mSetP at h
    cases e1 : mComp it (own2 own) a t e ρ with
    | ok o ρ1 =>
      rw [e1] at h
      exact comp_core (tg := tg) (iter := iter) (elt := elt) nd (fun _ _ _ w => w) (fun _ _ _ _ w => w) (fun _ _ _ w => w) (fun _ _ _ w => w) σ H _ ⟨ρ, T, o, ρ1, c, R, e1, fun v H' c' R' => h _ H' (Fix.set hP) (c'.set i v _) (Rep.store c' R'.frz)⟩
    | exc x ρ1 => rw [e1] at h; exact h.elim
    | no => rw [e1] at h; exact h.elim

/-! ### defs, calls -/
abbrev FSem := List O → Option (O × Env)
def maskE (n : Nat) (P : List Nat) (ρ : Env) : Env := (List.range n).map fun i => if P.contains i = true then (ρ[i]?).join else none
def runF (n N : Nat) (P : List Nat) (b : M Fl) : FSem := fun os => match b (os.map some ++ List.replicate (N - os.length) none) with
  | .ok .nx ρ' => some (.val .non, maskE n P ρ')
  | .ok (.ret o) ρ' => some (o, maskE n P ρ')
  | _ => none
/-- a def of n parameters means F -/
def spF (K : PySem.W.Frag) (mg : Str → Option Value) (n : Nat) (F : FSem) : Sp := fun vs H Q _ => ∃ os T o ρ', vs.length = n ∧ os.length = n ∧ Rep K mg H (zipI vs os ++ T) [] ∧ F os = some (o, ρ') ∧ ∀ v H', Rep K mg H' (.ov v o :: (pairs (vs.map some) ρ' ++ T)) [] → Q v H'
theorem pairs_start : ∀ (vs : List V) (os : List O) (m : Nat), vs.length = os.length → pairs (vs.map some ++ List.replicate m none) (os.map some ++ List.replicate m none) = zipI vs os
  | [], [], m, _ => by
    induction m with
    | zero => rfl
    | succ m ih => rw [List.map_nil, List.map_nil, List.nil_append, List.nil_append, List.replicate_succ, List.replicate_succ, pairs_ns]; exact ih
  | [], _ :: _, _, h => by simp at h
  | _ :: _, [], _, h => by simp at h
  | v :: vs, o :: os, m, h => by
    show pairs (some v :: (vs.map some ++ List.replicate m none)) (some o :: (os.map some ++ List.replicate m none)) = .ov v o :: zipI vs os
    rw [pairs_ss, pairs_start vs os m (by simpa using h)]
theorem cov_start (vs : List V) (os : List O) (m : Nat) (h : vs.length = os.length) : Cov (vs.map some ++ List.replicate m none) (os.map some ++ List.replicate m none) := by
  refine ⟨by simp [h], fun i o e => ?_⟩
  by_cases hi : i < os.length
  · refine ⟨vs[i]'(by omega), ?_⟩
    rw [List.getElem?_append_left (by simp; omega), List.getElem?_map]
    simp [show i < vs.length by omega]
  · rw [List.getElem?_append_right (by simp; omega), List.getElem?_replicate] at e
    split at e <;> cases e
/-- some items of the environment, those kept -/
theorem pairs_mask {H : Hp} {T M : List Item} : ∀ {σ : L2.St} {ρ ρ' : Env}, ρ'.length ≤ ρ.length → (∀ (i : Nat) (o : O), ρ'[i]? = some (some o) → ρ[i]? = some (some o)) → Rep K mg H (M ++ (pairs σ ρ ++ T)) [] → Rep K mg H (M ++ (pairs σ ρ' ++ T)) []
  | [], ρ, ρ', hl, h, R => by
    rw [pairs_nil] at R ⊢; exact R
  | s :: σ, ρ, [], hl, h, R => by
    rw [pairs_nil']
    exact (R.perm (rot _ _ _)).drops
  | s :: σ, [], b :: ρ', hl, h, R => by simp at hl
  | s :: σ, a :: ρ, b :: ρ', hl, h, R => by
    have h' : ∀ (i : Nat) (o : O), ρ'[i]? = some (some o) → ρ[i]? = some (some o) := fun i o e => by simpa using h (i + 1) o (by simpa using e)
    have hl' : ρ'.length ≤ ρ.length := by simpa using hl
    cases s with
    | none =>
      rw [pairs_ns] at R ⊢
      exact pairs_mask hl' h' R
    | some v =>
      cases b with
      | none =>
        rw [pairs_sn]
        cases a with
        | none => rw [pairs_sn] at R; exact pairs_mask hl' h' R
        | some o =>
          rw [pairs_ss] at R
          exact pairs_mask hl' h' ((R.perm (List.perm_middle)).drop)
      | some o =>
        have e := h 0 o (by simp)
        simp at e
        subst e
        rw [pairs_ss] at R ⊢
        have R1 : Rep K mg H ((M ++ [.ov v o]) ++ (pairs σ ρ ++ T)) [] := R.perm (by rw [List.append_assoc]; exact List.Perm.refl _)
        exact (pairs_mask hl' h' R1).perm (by rw [List.append_assoc]; exact List.Perm.refl _)
theorem maskE_len (n : Nat) (P : List Nat) (ρ : Env) : (maskE n P ρ).length = n := by unfold maskE; simp
theorem maskE_get {n : Nat} {P : List Nat} {ρ : Env} {i : Nat} {o : O} (h : (maskE n P ρ)[i]? = some (some o)) : i ∈ P ∧ i < n ∧ ρ[i]? = some (some o) := by
  unfold maskE at h
  rw [List.getElem?_map] at h
  by_cases hi : i < n
  · rw [List.getElem?_range hi] at h
    simp only [Option.map_some] at h
    split at h
    · rename_i hP
      refine ⟨by simpa using hP, hi, ?_⟩
      cases q : ρ[i]? with
      | none => rw [q] at h; simp at h
      | some u => rw [q] at h; simp at h; rw [h]
    · simp at h
  · rw [List.getElem?_eq_none_iff.mpr (by simpa using hi)] at h; simp at h
theorem fn_post {H' : Hp} {T M : List Item} {N n : Nat} {P : List Nat} {vs : List V} {σ' : L2.St} {ρ' : Env} (hvn : vs.length = n) (hN : n ≤ N) (hf : Fix P (vs.map some ++ List.replicate (N - n) none) σ') (c : Cov σ' ρ') (hl : σ'.length = N) (R : Rep K mg H' (M ++ (pairs σ' ρ' ++ T)) []) : Rep K mg H' (M ++ (pairs (vs.map some) (maskE n P ρ') ++ T)) [] := by
  have e1 : pairs (vs.map some) (maskE n P ρ') = pairs σ' (maskE n P ρ') := by
    have q1 : pairs (vs.map some) (maskE n P ρ') = pairs (σ'.take n) (maskE n P ρ') := pairs_congr (by simp [hvn, hl]; omega) fun i o e => by
      obtain ⟨hp, hi, _⟩ := maskE_get e
      rw [List.getElem?_take_of_lt hi, hf.2 i hp, List.getElem?_append_left (by simp; omega)]
    have q2 : ∀ {σ : L2.St} {ρ : Env} {n : Nat}, ρ.length = n → pairs (σ.take n) ρ = pairs σ ρ := by
      intro σ
      induction σ with
      | nil => intro ρ n _; simp
      | cons a σ ih =>
        intro ρ n hr
        cases ρ with
        | nil => rw [pairs_nil', pairs_nil']
        | cons b ρ =>
          cases n with
          | zero => simp at hr
          | succ n =>
            rw [List.take_succ_cons]
            have t := ih (ρ := ρ) (n := n) (by simpa using hr)
            cases a with
            | none => rw [pairs_ns, pairs_ns, t]
            | some a =>
              cases b with
              | none => rw [pairs_sn, pairs_sn, t]
              | some b => rw [pairs_ss, pairs_ss, t]
    rw [q1, q2 (maskE_len _ _ _)]
  rw [e1]
  exact pairs_mask (by rw [maskE_len, ← c.len, hl]; exact hN) (fun i o e => (maskE_get e).2.2) R
end
section
variable {P : Program} {w : World} {K : PySem.W.Frag} {mg : Str → Option Value} {base : Heap}
theorem sp_len {n : Nat} {F : FSem} : ∀ vs H Q E, spF K mg n F vs H Q E → vs.length = n := fun vs H Q E h => by
  obtain ⟨os, T, o, ρ', h1, _⟩ := h
  exact h1
theorem body_sem {X : Cx} {N n : Nat} {Pr : List Nat} {st : List Stmt} {b : M Fl} {Ns : List Str} (hNs : Ns.length = N) (hn : n ≤ N) (hb : SSs X Pr st b) {vs : List V} {H : Hp} {Q : VK} {E : XK} (hsp : spF X.K X.mg n (runF n N Pr b) vs H Q E) : ∃ t, PSs X st t ∧ t { nx := fun _ H' => Q .non H', rt := Q } (L2.start Ns vs) H := by
  obtain ⟨os, T, o, ρ', h1, h2, R, e, k⟩ := hsp
  refine ⟨_, hb, tS_iff.mpr ⟨os.map some ++ List.replicate (N - os.length) none, T, ?_, ?_, ?_⟩⟩
  · have : L2.start Ns vs = vs.map some ++ List.replicate (N - os.length) none := by unfold L2.start; rw [hNs, h1, h2]
    rw [this]; exact cov_start vs os _ (by omega)
  · have : L2.start Ns vs = vs.map some ++ List.replicate (N - os.length) none := by unfold L2.start; rw [hNs, h1, h2]
    rw [this, pairs_start vs os _ (by omega)]; exact R
  · unfold runF at e
    have es : L2.start Ns vs = vs.map some ++ List.replicate (N - n) none := by unfold L2.start; rw [hNs, h1]
    cases e1 : b (os.map some ++ List.replicate (N - os.length) none) with
    | exc x ρ1 => rw [e1] at e; cases e
    | no => rw [e1] at e; cases e
    | ok fl ρ1 =>
      rw [e1] at e
      cases fl with
      | brk => cases e
      | ct => cases e
      | nx =>
        cases e
        intro σ' H' f c R'
        rw [es] at f
        have hl : σ'.length = N := by rw [f.1]; simp [h1]; omega
        refine k .non H' (fn_post (M := [.ov .non (.val .non)]) h1 hn f c hl ?_)
        exact R'.scal fun _ => .non
      | ret o =>
        cases e
        intro v σ' H' f c R'
        rw [es] at f
        have hl : σ'.length = N := by rw [f.1]; simp [h1]; omega
        exact k v H' (fn_post (M := [.ov v o]) h1 hn f c hl R')
end
end FB

/-! Calls of defs by name; lists and dicts changed at a name. -/
namespace FB
open PySem PySem.Spec L2
open PyProof.Rows hiding St

section
variable {P : Program} {w : World} {K : PySem.W.Frag} {mg : Str → Option Value} {base : Heap}
theorem bodyOk {N ps : List Str} {qual : Str} {st : Stmt} {f : Addr} {cdv : Value} {A : Around} {outer : List PySem.Env} {s : Shared} {H : Hp} {E : XK} {k : Nat} (S : FnScope N ps (C8.fnScope st)) (hr : Room k (A.deeper (envOfC qual (C8.fnScope st) s.heap.objs.size f cdv))) :
    CxOk (cxOf C8.CX0 P w K mg base N qual (C8.fnScope st) f cdv A outer s H E).nox :=
  ⟨rfl, by show (A.deeper (envOfC qual (C8.fnScope st) s.heap.objs.size f cdv)).units + 65 < cLine; have := hr.un; omega, S.nd⟩
theorem CxOk.blk {X : Cx} (ok : CxOk X) {s : Shared} {H : Hp} {sc : Scope} {e : PySem.Env} {fp : List Addr} : CxOk (X.blk s H sc e fp) := ⟨ok.calm, ok.units, ok.nd⟩
theorem cal_sem {x : Str} {st : Stmt} {f : Addr} {fd : FuncData} {N ps : List Str} {k n m : Nat} {Pr : List Nat} {b : M Fl} (F : C8.Def K mg x st f fd) (bi : Binds K fd ps []) (S : FnScope N ps (C8.fnScope st)) (hn : ps.length = n := by rfl) (hm : N.length = m := by rfl) (hnm : n ≤ m := by decide)
    (hb : ∀ (cdv : Value) (A : Around) (outer : List PySem.Env) (s : Shared) (H : Hp) (E : XK), Room k (A.deeper (envOfC x (C8.fnScope st) s.heap.objs.size f cdv)) → SSs (cxOf C8.CX0 P w K mg base N x (C8.fnScope st) f cdv A outer s H E).nox Pr (C8.fnBody st) b) :
    C8.Cal P w K mg base (k + 1) x (spF K mg n (runF n m Pr b)) [] :=
  C8.cal0 F bi .nil S (fun vs H Q E h => by rw [hn]; exact sp_len vs H Q E h) fun cdv A outer s H vs Q E hr h => body_sem (X := (cxOf C8.CX0 P w K mg base N x (C8.fnScope st) f cdv A outer s H E).nox) (E := E) hm hnm (hb cdv A outer s H E hr) h
end

section
variable {X : Cx} {K : PySem.W.Frag} {mg : Str → Option Value}
/-! ### arguments -/
def evA : List Arg → M (List (Option O))
  | [] => fun ρ => .ok [] ρ
  | .v m :: as => fun ρ => (m ρ).bind fun o ρ1 => (evA as ρ1).bind fun os ρ2 => .ok (some o :: os) ρ2
  | .io i :: as => fun ρ => match ρ[i]? with
    | some (some _) => (evA as ρ).bind fun os ρ2 => .ok (none :: os) ρ2
    | _ => .no
def IoOk : List Arg → L2.St → List V → Prop
  | [], _, [] => True
  | .v _ :: as, σ, _ :: vs => IoOk as σ vs
  | .io i :: as, σ, v :: vs => σ[i]? = some (some v) ∧ IoOk as σ vs
  | _, _, _ => False
def takeA : List Arg → List (Option O) → Env → Option (List O × Env)
  | [], [], ρ => some ([], ρ)
  | .v _ :: as, some o :: os, ρ => (takeA as os ρ).map fun r => (o :: r.1, r.2)
  | .io i :: as, none :: os, ρ => match ρ[i]? with
    | some (some o) => (takeA as os (ρ.set i none)).map fun r => (o :: r.1, r.2)
    | _ => none
  | _, _, _ => none
def giveA : List Arg → Env → Env → Env
  | .v _ :: as, _ :: ρc, ρ => giveA as ρc ρ
  | .io i :: as, some o :: ρc, ρ => giveA as ρc (ρ.set i (some o))
  | .io _ :: as, none :: ρc, ρ => giveA as ρc ρ
  | _, _, ρ => ρ
def tAs (K : PySem.W.Frag) (mg : Str → Option Value) (as : List Arg) : TA := fun σ H Q => ∃ ρ T os ρ', Cov σ ρ ∧ Rep K mg H (pairs σ ρ ++ T) [] ∧ evA as ρ = .ok os ρ' ∧
  ∀ vs H', Cov σ ρ' → vs.length = os.length → IoOk as σ vs → Rep K mg H' (pairs (vs.map some) os ++ (pairs σ ρ' ++ T)) [] → Q vs H'
def SAs (X : Cx) (es : List Expr) (as : List Arg) : Prop := PA X es (tAs X.K X.mg as)
theorem sas_nil : SAs X [] [] := PA.imp pa_nil fun σ H Q w => by
  obtain ⟨ρ, T, os, ρ', c, R, e, k⟩ := w
  cases e
  exact k [] H c rfl True.intro R
theorem sas_v {e : Expr} {es : List Expr} {m : M O} {as : List Arg} (h : SE X e m) (hs : SAs X es as) (hst : starEach (e :: es) X.env = (false, eval e X.env) :: starEach es X.env := by rfl) : SAs X (e :: es) (.v m :: as) :=
  PA.imp (pa_cons h hs hst) fun σ H Q w => by
    obtain ⟨ρ, T, os, ρ', c, R, e, k⟩ := w
    obtain ⟨o, ρ1, e1, e⟩ := Res.bind_eq e
    obtain ⟨os', ρ2, e2, e⟩ := Res.bind_eq e
    cases e
    refine ⟨ρ, T, o, ρ1, c, R, e1, fun v H1 c1 R1 => ⟨ρ1, .ov v o :: T, os', ρ', c1, R1.perm List.perm_middle.symm, e2, fun vs H2 c2 hl io R2 => k (v :: vs) H2 c2 (by simp [hl]) io (R2.perm ?_)⟩⟩
    show (pairs (vs.map some) os' ++ (pairs σ ρ' ++ .ov v o :: T)).Perm (.ov v o :: (pairs (vs.map some) os' ++ (pairs σ ρ' ++ T)))
    exact ((List.perm_middle (a := Item.ov v o)).append_left _).trans List.perm_middle
theorem sas_io (i : Nat) {x : Str} {pos : Pos} {es : List Expr} {as : List Arg} (hs : SAs X es as) (hN : X.N[i]? = some x := by rfl) (hv : Vis X.env.scope x := by first | exact Or.inl rfl | exact Or.inr (Or.inl rfl) | exact Or.inr (Or.inr rfl)) (hd : (x == ("__debug__" : Str)) = false := by decide)
    (hcd : (x == ("__classdict__" : Str)) = false := by decide) (hst : starEach (.Name x pos :: es) X.env = (false, eval (.Name x pos) X.env) :: starEach es X.env := by rfl) : SAs X (.Name x pos :: es) (.io i :: as) :=
  PA.imp (pa_cons (pv i hN hv hd hcd) hs hst) fun σ H Q w => by
    obtain ⟨ρ, T, os, ρ', c, R, e, k⟩ := w
    unfold evA at e
    split at e
    · rename_i o e1
      obtain ⟨v, hv⟩ := c.ex i o e1
      obtain ⟨os', ρ2, e2, e⟩ := Res.bind_eq e
      cases e
      exact ⟨v, hv, ρ, T, os', ρ', c, R, e2, fun vs H2 c2 hl io R2 => k (v :: vs) H2 c2 (by simp [hl]) ⟨hv, io⟩ (by
        show Rep X.K X.mg H2 (pairs (some v :: vs.map some) (none :: os') ++ (pairs σ ρ' ++ T)) []
        rw [pairs_sn]; exact R2)⟩
    · cases e
theorem take_ok {H : Hp} {T : List Item} {σ : L2.St} : ∀ {as : List Arg} {os : List (Option O)} {vs : List V} {ρ ρ' : Env} {os' : List O}, Cov σ ρ → IoOk as σ vs → takeA as os ρ = some (os', ρ') → Rep K mg H (pairs (vs.map some) os ++ (pairs σ ρ ++ T)) [] →
    Cov σ ρ' ∧ vs.length = os'.length ∧ Rep K mg H (zipI vs os' ++ (pairs σ ρ' ++ T)) []
  | [], [], [], ρ, ρ', os', c, io, e, R => by cases e; exact ⟨c, rfl, R⟩
  | [], [], _ :: _, _, _, _, _, io, _, _ => io.elim
  | [], _ :: _, _, _, _, _, _, _, e, _ => by cases e
  | .v _ :: _, [], _, _, _, _, _, _, e, _ => by cases e
  | .v _ :: _, none :: _, _, _, _, _, _, _, e, _ => by cases e
  | .v _ :: _, some _ :: _, [], _, _, _, _, io, _, _ => io.elim
  | .v _ :: as, some o :: os, v :: vs, ρ, ρ', os', c, io, e, R => by
    have e : (takeA as os ρ).map (fun r => (o :: r.1, r.2)) = some (os', ρ') := e
    cases e1 : takeA as os ρ with
    | none => rw [e1] at e; cases e
    | some r =>
      rw [e1] at e
      cases e
      have R1 : Rep K mg H (.ov v o :: (pairs (vs.map some) os ++ (pairs σ ρ ++ T))) [] := R
      have R2 : Rep K mg H (pairs (vs.map some) os ++ (pairs σ ρ ++ (.ov v o :: T))) [] := R1.perm (by
        refine List.Perm.trans ?_ (List.Perm.append_left _ List.perm_middle.symm)
        exact List.perm_middle.symm)
      obtain ⟨c', hl, R3⟩ := take_ok (as := as) c io e1 R2
      refine ⟨c', by simp [hl], R3.perm ?_⟩
      show (zipI vs r.1 ++ (pairs σ r.2 ++ .ov v o :: T)).Perm (.ov v o :: (zipI vs r.1 ++ (pairs σ r.2 ++ T)))
      exact (List.Perm.append_left _ List.perm_middle).trans List.perm_middle
  | .io _ :: _, [], _, _, _, _, _, _, e, _ => by cases e
  | .io _ :: _, some _ :: _, _, _, _, _, _, _, e, _ => by cases e
  | .io _ :: _, none :: _, [], _, _, _, _, io, _, _ => io.elim
  | .io i :: as, none :: os, v :: vs, ρ, ρ', os', c, io, e, R => by
    unfold takeA at e
    split at e
    · rename_i o e0
      cases e1 : takeA as os (ρ.set i none) with
      | none => rw [e1] at e; cases e
      | some r =>
        rw [e1] at e
        cases e
        have R1 : Rep K mg H (pairs (vs.map some) os ++ (pairs σ ρ ++ T)) [] := by
          have R : Rep K mg H (pairs (some v :: vs.map some) (none :: os) ++ (pairs σ ρ ++ T)) [] := R
          rw [pairs_sn] at R; exact R
        have p : (pairs σ ρ ++ T).Perm (pairs σ (ρ.set i none) ++ (.ov v o :: T)) :=
          ((pairs_take io.1 e0).append_right T).trans List.perm_middle.symm
        obtain ⟨c', hl, R3⟩ := take_ok (c.setn i) io.2 e1 (R1.perm (p.append_left _))
        refine ⟨c', by simp [hl], R3.perm ?_⟩
        show (zipI vs r.1 ++ (pairs σ r.2 ++ .ov v o :: T)).Perm (.ov v o :: (zipI vs r.1 ++ (pairs σ r.2 ++ T)))
        exact (List.Perm.append_left _ List.perm_middle).trans List.perm_middle
    · cases e
theorem give_ok {H : Hp} {T M : List Item} {σ : L2.St} : ∀ {as : List Arg} {vs : List V} {ρc ρ : Env}, Cov σ ρ → IoOk as σ vs → Rep K mg H (M ++ (pairs (vs.map some) ρc ++ (pairs σ ρ ++ T))) [] →
    Cov σ (giveA as ρc ρ) ∧ Rep K mg H (M ++ (pairs σ (giveA as ρc ρ) ++ T)) []
  | [], vs, ρc, ρ, c, io, R => by
    refine ⟨c, ?_⟩
    exact ((R.perm (rot _ _ _)).drops)
  | .v _ :: as, [], ρc, ρ, c, io, R => io.elim
  | .io _ :: as, [], ρc, ρ, c, io, R => io.elim
  | .v _ :: as, v :: vs, [], ρ, c, io, R => by
    refine ⟨c, ?_⟩
    rw [pairs_nil'] at R
    exact R
  | .io _ :: as, v :: vs, [], ρ, c, io, R => by
    refine ⟨c, ?_⟩
    rw [pairs_nil'] at R
    exact R
  | .v _ :: as, v :: vs, u :: ρc, ρ, c, io, R => by
    have R : Rep K mg H (M ++ (pairs (some v :: vs.map some) (u :: ρc) ++ (pairs σ ρ ++ T))) [] := R
    refine give_ok (as := as) c io ?_
    cases u with
    | none => rw [pairs_sn] at R; exact R
    | some o =>
      rw [pairs_ss] at R
      exact (R.perm List.perm_middle).drop
  | .io i :: as, v :: vs, none :: ρc, ρ, c, io, R => by
    have R : Rep K mg H (M ++ (pairs (some v :: vs.map some) (none :: ρc) ++ (pairs σ ρ ++ T))) [] := R
    rw [pairs_sn] at R
    exact give_ok (as := as) c io.2 R
  | .io i :: as, v :: vs, some o :: ρc, ρ, c, io, R => by
    have R : Rep K mg H (M ++ (pairs (some v :: vs.map some) (some o :: ρc) ++ (pairs σ ρ ++ T))) [] := R
    rw [pairs_ss] at R
    refine give_ok (as := as) (c.put io.1 o) io.2 ?_
    by_cases hi : i < ρ.length
    · have R1 : Rep K mg H ((.ov v o :: (M ++ pairs (vs.map some) ρc)) ++ (pairs σ ρ ++ T)) [] := R.perm (by
        refine List.perm_middle.trans ?_
        show (.ov v o :: (M ++ (pairs (vs.map some) ρc ++ (pairs σ ρ ++ T)))).Perm _
        rw [← List.append_assoc]; exact List.Perm.refl _)
      have R2 := Rep.slotDrop c i R1
      refine R2.perm ?_
      have p := (pairs_back (o := o) io.1 hi).append_right T
      have q1 : ((.ov v o :: (M ++ pairs (vs.map some) ρc)) ++ (pairs σ (ρ.set i none) ++ T)).Perm ((M ++ pairs (vs.map some) ρc) ++ ((.ov v o :: pairs σ (ρ.set i none)) ++ T)) := List.perm_middle.symm
      refine q1.trans ?_
      rw [List.append_assoc]
      exact List.Perm.append_left _ (List.Perm.append_left _ p)
    · rw [List.set_eq_of_length_le (by omega)]
      exact (R.perm List.perm_middle).drop
def mCall (F : FSem) (as : List Arg) : M O := fun ρ => (evA as ρ).bind fun os ρ1 => match takeA as os ρ1 with
  | none => .no
  | some r => match F r.1 with
    | none => .no
    | some q => .ok q.1 (giveA as q.2 r.2)
theorem call_core {n : Nat} {F : FSem} {as : List Arg} {Ex : XK} (σ : L2.St) (H : Hp) (Q : VK) (w : tM K mg (mCall F as) σ H Q) : tCall (spF K mg n F) [] Ex (tAs K mg as) σ H Q ∨ as.length ≠ n := by
  by_cases hn : as.length = n
  · left
    obtain ⟨ρ, T, o, ρ', c, R, e, k⟩ := w
    obtain ⟨os, ρ1, e1, e⟩ := Res.bind_eq e
    split at e
    · cases e
    · rename_i r e2
      split at e
      · cases e
      · rename_i q e3
        cases e
        refine ⟨ρ, T, os, ρ1, c, R, e1, fun vs H1 c1 hl io R1 => ?_⟩
        obtain ⟨c2, hl2, R2⟩ := take_ok c1 io e2 R1
        have lenA : ∀ {as : List Arg} {vs : List V}, IoOk as σ vs → vs.length = as.length := by
          intro as
          induction as with
          | nil => intro vs io; cases vs with
            | nil => rfl
            | cons => exact io.elim
          | cons a as ih => intro vs io; cases vs with
            | nil => cases a <;> exact io.elim
            | cons v vs => cases a with
              | v _ => simp [ih (vs := vs) io]
              | io _ => simp [ih (vs := vs) io.2]
        have hv : vs.length = n := by rw [lenA io, hn]
        rw [List.append_nil]
        refine ⟨r.1, pairs σ r.2 ++ T, q.1, q.2, hv, by omega, R2, e3, fun v H2 R3 => ?_⟩
        obtain ⟨c3, R4⟩ := give_ok (M := [.ov v q.1]) c2 io R3
        exact k v H2 c3 R4
  · right; exact hn
theorem se_call {n k j : Nat} {F : FSem} {x : Str} {p pos : Pos} {e : Expr} {es : List Expr} {as : List Arg} (cl : C8.Cal X.prog X.w X.K X.mg X.base k x (spF X.K X.mg n F) []) (hr : Room j X.A) (hk : k ≤ j) (hg : Gl X x) (ha : SAs X (e :: es) as) (hn : as.length = n := by rfl)
    (hdb : (x == ("__debug__" : Str)) = false := by decide) (he : starEach (e :: es) X.env = (false, eval e X.env) :: starEach es X.env := by rfl) (hpl : (backTo pos (starEach es X.env)).any (·.1) = false := by rfl) :
    SE X (.Call (.Name x p) (e :: es) [] pos) (mCall F as) := PE.imp (C8.pe_c cl hr hk hg ha hdb he hpl) fun σ H Q w => (call_core σ H Q w).resolve_right fun h => h hn

/-! ### lists changed at a name -/
def mAppend (i : Nat) (m : M O) : M O := fun ρ => match ρ[i]? with
  | some (some (.lst _)) => (m ρ).bind fun o ρ1 => match ρ1[i]? with
    | some (some (.lst os)) => if os.length < 1000000 then .ok (.val .non) (ρ1.set i (some (.lst (os ++ [o])))) else .no
    | _ => .no
  | _ => .no
theorem Rep.slot {H : Hp} {T M : List Item} {σ : L2.St} {ρ : Env} {i : Nat} {v : V} {o : O} (hv : σ[i]? = some (some v)) (e : ρ[i]? = some (some o)) (R : Rep K mg H (M ++ (pairs σ ρ ++ T)) []) : Rep K mg H (.ov v o :: (M ++ (pairs σ (ρ.set i none) ++ T))) [] :=
  R.perm ((((pairs_take hv e).append_right T).append_left M).trans List.perm_middle)
theorem Rep.unslot {H : Hp} {T M : List Item} {σ : L2.St} {ρ : Env} {i : Nat} {v : V} {o o' : O} (hv : σ[i]? = some (some v)) (e : ρ[i]? = some (some o)) (R : Rep K mg H (.ov v o' :: (M ++ (pairs σ (ρ.set i none) ++ T))) []) : Rep K mg H (M ++ (pairs σ (ρ.set i (some o')) ++ T)) [] := by
  have hi : i < ρ.length := (List.getElem?_eq_some_iff.mp e).1
  refine R.perm (List.perm_middle.symm.trans (List.Perm.append_left _ ?_))
  exact (pairs_back (o := o') hv hi).append_right T
theorem se_append (i : Nat) {x : Str} {p apos cpos : Pos} {e : Expr} {m : M O} (h : SE X e m) (hN : X.N[i]? = some x := by rfl) (hv : Vis X.env.scope x := by first | exact Or.inl rfl | exact Or.inr (Or.inl rfl) | exact Or.inr (Or.inr rfl)) (hd : (x == ("__debug__" : Str)) = false := by decide)
    (hcd : (x == ("__classdict__" : Str)) = false := by decide) (hst : starEach (e :: []) X.env = (false, eval e X.env) :: starEach [] X.env := by rfl)
    (hbase : attributeBase (.Name x p) "append" X.env (eval (.Name x p) X.env) = eval (.Name x p) X.env := by rfl)
    (hfew : ((backTo cpos (starEach (e :: []) X.env)).all (fun x => !x.1) && (backToKw cpos (keywordEach [] X.env)).all (fun x => x.1.isSome)
      && decide ((e :: []).length + ([] : List Keyword).length + (if ([] : List Keyword).isEmpty then 0 else 1) < 30)) = true := by rfl)
    (hline : (apos.endLine == cpos.line) = true := by rfl) (hplain : (backTo cpos (starEach [] X.env)).any (·.1) = false := by rfl) :
    SE X (.Call (.Attribute (.Name x p) "append" apos) [e] [] cpos) (mAppend i m) :=
  PE.imp (pe_bm PySem.F.plainAttrs_list PySem.F.slot_list_append PySem.F.type_list_append mt_append (pv i hN hv hd hcd) (pa_cons h pa_nil hst) hbase hfew hline hst hplain) fun σ H Q w => by
    obtain ⟨ρ, T, o, ρ', c, R, e0, k⟩ := w
    unfold mAppend at e0
    split at e0
    · rename_i os0 e1
      obtain ⟨v, hv⟩ := c.ex i _ e1
      have R0 : Rep X.K X.mg H ([] ++ (pairs σ ρ ++ T)) [] := R
      obtain ⟨q, vs, ev, hl, R1⟩ := (Rep.slot hv e1 R0).openL
      subst ev
      have hq := R1.rawAt
      obtain ⟨u, ρ1, e2, e0⟩ := Res.bind_eq e0
      split at e0
      · rename_i os e3
        split at e0
        · rename_i hlt
          cases e0
          refine ⟨_, hv, .inl ⟨rfl, _, SqL.of hq⟩, ρ, T, u, ρ1, c, R, e2, fun y H1 c1 R2 => ?_⟩
          have R3 := Rep.slot (M := [.ov y u]) hv e3 R2
          obtain ⟨q', ws, ev, hl2, R4⟩ := R3.openL
          cases ev
          refine ⟨q, ws, y, rfl, rfl, R4.rawAt, by rw [sizeLine_eq]; omega, ?_⟩
          have R5 := R4.write (o' := .lst (ws ++ [y]))
          have ez : zipI (ws ++ [y]) (os ++ [u]) = zipI ws os ++ [.ov y u] := by
            unfold zipI
            rw [List.zipWith_append hl2]; rfl
          have R6 : Rep X.K X.mg (upd H1 q (.lst (ws ++ [y]))) (.ov (.ref q) (.lst (os ++ [u])) :: (pairs σ (ρ1.set i none) ++ T)) [] := by
            refine Rep.closeL (vs := ws ++ [y]) ?_ (by simp [hl2])
            rw [ez, List.append_assoc]
            exact R5
          have R7 : Rep X.K X.mg _ ([] ++ (pairs σ (ρ1.set i (some (.lst (os ++ [u])))) ++ T)) [] := Rep.unslot hv e3 R6
          exact k .non _ (c1.put hv _) (R7.scal fun _ => .non)
        · cases e0
      · cases e0
    · cases e0

/-! ### x[k] = e, a list or a dict at a name -/
def keyO : O → Option Key
  | .val (.int i) => some (.inl i)
  | .val (.str s) => some (.inr s)
  | _ => none
def idxK (ks : List Key) (k : Key) : Option Nat := ks.findIdx? fun k' => decide (k' = k)
def putL {α : Type} (ks : List Key) (os : List α) (k : Key) (o : α) : List Key × List α := match idxK ks k with
  | some j => (ks, os.set j o)
  | none => (ks ++ [k], os ++ [o])
def setItO (a b u : O) : Option O := match a with
  | .lst os => match b with
    | .val (.int i) => (ixN os.length i).map fun j => .lst (os.set j u)
    | _ => none
  | .dct ks os => (keyO b).bind fun k => if ks.length < 1000000 then some (.dct (putL ks os k u).1 (putL ks os k u).2) else none
  | _ => none
theorem idxK_valV : ∀ (kvs : List (Key × V)) (k : Key), valV kvs k = (idxK (kvs.map (·.1)) k).bind fun j => (kvs.map (·.2))[j]?
  | [], k => rfl
  | (k', v) :: r, k => by
    have ih := idxK_valV r k
    by_cases e : k' = k
    · rw [valV_pos (p := (k', v)) e]
      unfold idxK
      rw [List.map_cons, List.findIdx?_cons, if_pos (decide_eq_true e)]
      rfl
    · rw [valV_neg (p := (k', v)) e, ih]
      unfold idxK
      rw [List.map_cons, List.findIdx?_cons, if_neg (by simpa using e), List.map_cons]
      cases q : List.findIdx? (fun k' => decide (k' = k)) (List.map (fun x => x.1) r) with
      | none => rfl
      | some j => simp
theorem putK_eq : ∀ (kvs : List (Key × V)) (k : Key) (v : V), (kvs.map (·.1)).Nodup → (putK kvs k v).map (·.1) = (putL (kvs.map (·.1)) (kvs.map (·.2)) k v).1 ∧ (putK kvs k v).map (·.2) = (putL (kvs.map (·.1)) (kvs.map (·.2)) k v).2 := by
  intro kvs k v nd
  have hany : (kvs.any fun kv => decide (kv.1 = k)) = (idxK (kvs.map (·.1)) k).isSome := by
    unfold idxK
    rw [List.findIdx?_isSome, List.any_map]
    rfl
  unfold putK putL
  rw [hany]
  cases q : idxK (kvs.map (·.1)) k with
  | none =>
    rw [if_neg (by simp)]
    simp
  | some j =>
    rw [if_pos (show (Option.some j).isSome = true from rfl)]
    refine ⟨by
      rw [List.map_map]
      refine List.map_congr_left fun a _ => ?_
      show (if a.1 = k then (a.1, v) else a).1 = a.1
      split <;> rfl, ?_⟩
    -- just the j-th is another one
    have key : ∀ (kvs : List (Key × V)) (j : Nat), (kvs.map (·.1)).Nodup → idxK (kvs.map (·.1)) k = some j → (kvs.map fun kv => if kv.1 = k then (kv.1, v) else kv).map (·.2) = (kvs.map (·.2)).set j v := by
      intro kvs
      induction kvs with
      | nil => intro j _ h; cases h
      | cons a r ih =>
        intro j nd h
        rw [List.map_cons, List.nodup_cons] at nd
        unfold idxK at h
        rw [List.map_cons, List.findIdx?_cons] at h
        by_cases e : a.1 = k
        · rw [if_pos (decide_eq_true e)] at h
          cases h
          rw [List.map_cons, if_pos e, List.map_cons, List.map_cons, List.set_cons_zero]
          congr 1
          rw [List.map_map]
          refine List.map_congr_left fun b hb => ?_
          show (if b.1 = k then (b.1, v) else b).2 = b.2
          rw [if_neg]
          intro z
          exact nd.1 (by rw [e, ← z]; exact List.mem_map_of_mem hb)
        · rw [if_neg (by simpa using e)] at h
          cases q : List.findIdx? (fun k' => decide (k' = k)) (List.map (fun x => x.1) r) with
          | none => rw [q] at h; cases h
          | some i =>
            rw [q] at h
            cases h
            rw [List.map_cons, if_neg e, List.map_cons, List.map_cons, List.set_cons_succ]
            congr 1
            exact ih i nd.2 q
    exact key kvs j nd q
def rSetF : TSet := fun o i v H Q => rSetL o i v H Q ∨ ∃ a H4, o = .ref a ∧ DPut H a i v H4 ∧ Q H4
theorem set_F (ok : CxOk X) : PSet X rSetF := by
  intro pins s σ H o i v ov iv u Q I ro ri rv h
  rcases h with h | ⟨a, H4, e, g, q⟩
  · exact set_list pins s σ H o i v ov iv u Q I ro ri rv h
  · subst e
    obtain rfl : ov = Value.ref a := ro
    exact d_setItem (by have := ok.units; omega) I g ri rv fun s4 I4 => ⟨H4, I4, q⟩
theorem keyO_V {H : Hp} {L : List Item} {B : List (V × O)} {y : V} {oy : O} {k : Key} (R : Rep K mg H L B) (hy : (y, oy) ∈ B) (e : keyO oy = some k) : y = kV k := by
  unfold keyO at e
  split at e
  · cases e; exact R.shInt hy rfl
  · cases e; exact R.shStr hy rfl
  · cases e
theorem nodup_put {ks : List Key} {k : Key} {os : List O} {o : O} (nd : ks.Nodup) : (putL ks os k o).1.Nodup := by
  unfold putL
  cases q : idxK ks k with
  | some j => exact nd
  | none =>
    have : k ∉ ks := fun z => by
      have h : (ks.findIdx? fun k' => decide (k' = k)) = none := q
      rw [List.findIdx?_eq_none_iff] at h
      have := h k z
      simp at this
    exact List.nodup_append.mpr ⟨nd, by simp, fun a ha b hb e => this (by simp at hb; rw [← hb, ← e]; exact ha)⟩
theorem zip_set : ∀ {vs : List V} {os : List O} {j : Nat} {v : V} {u : O}, vs.length = os.length → j < os.length → ∃ A C w, zipI vs os = A ++ w :: C ∧ zipI (vs.set j v) (os.set j u) = A ++ .ov v u :: C
  | [], [], j, v, u, _, h => by simp at h
  | [], _ :: _, _, _, _, h, _ => by simp at h
  | _ :: _, [], _, _, _, h, _ => by simp at h
  | a :: vs, b :: os, 0, v, u, _, _ => ⟨[], zipI vs os, .ov a b, rfl, rfl⟩
  | a :: vs, b :: os, j + 1, v, u, hl, hj => by
    obtain ⟨A, C, w, e1, e2⟩ := zip_set (vs := vs) (os := os) (j := j) (v := v) (u := u) (by simpa using hl) (by simpa using hj)
    exact ⟨.ov a b :: A, C, w, by show .ov a b :: zipI vs os = _; rw [e1]; rfl, by show .ov a b :: zipI (vs.set j v) (os.set j u) = _; rw [e2]; rfl⟩
theorem perm_set (A C L : List Item) (h w y n : Item) : (h :: ((A ++ w :: C) ++ y :: n :: L)).Perm (w :: y :: (h :: ((A ++ n :: C) ++ L))) := by
  have h1 : ((A ++ w :: C) ++ y :: n :: L).Perm (w :: y :: ((A ++ n :: C) ++ L)) := by
    rw [List.append_assoc]
    refine List.perm_middle.trans (List.Perm.cons _ ?_)
    show (A ++ (C ++ y :: n :: L)).Perm _
    rw [← List.append_assoc]
    refine List.perm_middle.trans (List.Perm.cons _ ?_)
    refine List.perm_middle.trans ?_
    rw [List.append_assoc, List.append_assoc]
    exact List.perm_middle.symm
  refine (List.Perm.cons _ h1).trans ?_
  exact (List.Perm.swap _ _ _).trans (List.Perm.cons _ (List.Perm.swap _ _ _))
/-- a part of an owned list or dict is stored -/
theorem setIt_core {H : Hp} {L : List Item} {x y v : V} {a b u o' : O} {Q : Hp → Prop} (R : Rep K mg H (.ov x a :: .ov y b :: .ov v u :: L) []) (e : setItO a b u = some o') (k : ∀ H', Rep K mg H' (.ov x o' :: L) [] → Q H') : rSetF x y v H Q := by
  have Rb : Rep K mg H (.ov x a :: .ov y b :: .ov v u :: L) [(y, b)] := ((R.perm (.swap _ _ _)).lend).perm (.swap _ _ _)
  generalize hY : Item.ov y b = Y at R
  unfold setItO at e
  split at e
  · rename_i os
    split at e
    · rename_i i
      cases ej : ixN os.length i with
      | none => rw [ej] at e; cases e
      | some j =>
        rw [ej] at e; cases e
        have ey := Rb.shInt (List.mem_cons_self ..) rfl
        obtain ⟨p, vs, rfl, hl, R1⟩ := R.openL
        have hj : j < os.length := (ixN_seq ej).2.1
        refine .inl ⟨p, vs, i, j, rfl, ey, R1.rawAt, by rw [hl]; exact ej, k _ ?_⟩
        have R2 := R1.write (o' := .lst (vs.set j v))
        refine Rep.closeL (vs := vs.set j v) ?_ (by simp [hl])
        obtain ⟨A, C, w, z1, z2⟩ := zip_set (v := v) (u := u) hl hj
        rw [z1] at R2
        rw [z2]
        exact (R2.perm (perm_set _ _ _ _ _ _ _)).drop.drop
    · cases e
  · rename_i ks os
    cases ek : keyO b with
    | none => rw [ek] at e; cases e
    | some key =>
      rw [ek] at e
      have e : (if ks.length < 1000000 then some (O.dct (putL ks os key u).1 (putL ks os key u).2) else none) = some o' := e
      split at e
      · rename_i hlt
        cases e
        have ey := keyO_V Rb (List.mem_cons_self ..) ek
        obtain ⟨p, kvs, rfl, hl, hk, R1⟩ := R.openD
        obtain ⟨hk, nd⟩ := hk
        have hlen : kvs.length < sizeLine := by rw [sizeLine_eq]; have : kvs.length = ks.length := by rw [← hk]; simp
                                                omega
        have g : DPut H p y v (upd H p (.dK (putK kvs key v))) := by rw [ey]; exact DPut.k R1.rawAt hlen
        refine .inr ⟨p, _, rfl, g, k _ ?_⟩
        have R2 := R1.write (o' := .dK (putK kvs key v))
        obtain ⟨f1, f2⟩ := putK_eq kvs key v (by rw [hk]; exact nd)
        have hlo : (kvs.map (·.2)).length = os.length := by simpa using hl
        refine Rep.closeD (kvs := putK kvs key v) (ks := (putL ks os key u).1) (os := (putL ks os key u).2) ?_ ?_ ⟨?_, nodup_put nd⟩
        · rw [f2]
          unfold putL
          rw [hk]
          cases q : idxK ks key with
          | none =>
            show Rep K mg _ (.raw p (.dK (putK kvs key v)) :: (zipI (kvs.map (·.2) ++ [v]) (os ++ [u]) ++ L)) []
            have ez : zipI (kvs.map (·.2) ++ [v]) (os ++ [u]) = zipI (kvs.map (·.2)) os ++ [.ov v u] := by
              unfold zipI
              rw [List.zipWith_append hlo]; rfl
            rw [ez, List.append_assoc]
            have p1 : (.raw p (.dK (putK kvs key v)) :: (zipI (kvs.map (·.2)) os ++ Y :: .ov v u :: L) : List Item).Perm (Y :: (.raw p (.dK (putK kvs key v)) :: (zipI (kvs.map (·.2)) os ++ .ov v u :: L))) :=
              (List.Perm.cons _ List.perm_middle).trans (.swap _ _ _)
            exact (R2.perm p1).drop
          | some j =>
            show Rep K mg _ (.raw p (.dK (putK kvs key v)) :: (zipI ((kvs.map (·.2)).set j v) (os.set j u) ++ L)) []
            have hj : j < os.length := by
              have h : (ks.findIdx? fun k' => decide (k' = key)) = some j := q
              rw [List.findIdx?_eq_some_iff_getElem] at h
              obtain ⟨h, _⟩ := h
              have : kvs.length = ks.length := by rw [← hk]; simp
              omega
            obtain ⟨A, C, w, z1, z2⟩ := zip_set (v := v) (u := u) hlo hj
            rw [z1] at R2
            rw [z2]
            exact (R2.perm (perm_set _ _ _ _ _ _ _)).drop.drop
        · have h1 : (putK kvs key v).length = (putL (kvs.map (·.1)) (kvs.map (·.2)) key v).2.length := by rw [← f2]; simp
          rw [h1, hk]
          unfold putL
          cases q : idxK ks key with
          | none => simp [hl]
          | some j => simp [hl]
        · rw [f1, hk]
          unfold putL
          cases q : idxK ks key <;> rfl
      · cases e
  · cases e
/-- name[k] = e -/
def mSetIt (i : Nat) (n m : M O) : M Fl := fun ρ => (m ρ).bind fun u ρ1 => match ρ1[i]? with
  | some (some _) => (n ρ1).bind fun b ρ2 => match ρ2[i]? with
    | some (some a) => match setItO a b u with
      | some o => .ok .nx (ρ2.set i (some o))
      | none => .no
    | _ => .no
  | _ => .no
theorem ss_setIt (i : Nat) {P : List Nat} {x : Str} {p tpos pos : Pos} {ix e : Expr} {n m : M O} (ok : CxOk X) (hn : SE X ix n) (h : SE X e m) (hN : X.N[i]? = some x := by rfl) (hv : Vis X.env.scope x := by first | exact Or.inl rfl | exact Or.inr (Or.inl rfl) | exact Or.inr (Or.inr rfl)) (hd : (x == ("__debug__" : Str)) = false := by decide)
    (hcd : (x == ("__classdict__" : Str)) = false := by decide)
    (ha : ∀ v, assign (.Subscript (.Name x p) ix tpos) X.env v = (do
      let ov ← holding [v] (eval (.Name x p) X.env)
      let iv ← holding [v, ov] (eval ix X.env)
      standAt tpos
      holding [v, ov, iv] (setItem ov iv v)
      release [v, ov, iv] []) := by intro _; rfl)
    (hs : swapsWithSole [.Subscript (.Name x p) ix tpos] e pos.line X.env = pure false := by rfl) (hw : swappedStores [.Subscript (.Name x p) ix tpos] e X.env = pure none := by rfl)
    (h1 : (assignEach [.Subscript (.Name x p) ix tpos] X.env).map (·.2) = [assign (.Subscript (.Name x p) ix tpos) X.env] := by rfl) :
    SS X P (.Assign [.Subscript (.Name x p) ix tpos] e pos) (mSetIt i n m) :=
  PS.imp (ps_asg h (pg_sub (pv i hN hv hd hcd) hn (set_F ok) ha) hs hw h1) fun D σ H w => by
    obtain ⟨ρ, T, c, R, h⟩ := tS_iff.mp w
    unfold mSetIt at h
    cases e1 : m ρ with
    | exc z ρ1 => rw [e1] at h; exact h.elim
    | no => rw [e1] at h; exact h.elim
    | ok u ρ1 =>
      rw [e1] at h
      have h : Post X.K X.mg P T D σ (match ρ1[i]? with
        | some (some _) => (n ρ1).bind fun b ρ2 => match ρ2[i]? with
          | some (some a) => match setItO a b u with
            | some o => .ok .nx (ρ2.set i (some o))
            | none => .no
          | _ => .no
        | _ => .no) := h
      refine ⟨ρ, T, u, ρ1, c, R, e1, fun v H1 c1 R1 => ?_⟩
      split at h
      · rename_i a0 e2
        obtain ⟨vx, hvx⟩ := c1.ex i _ e2
        refine ⟨vx, hvx, ρ1, .ov v u :: T, ?_⟩
        cases e3 : n ρ1 with
        | exc z ρ2 => rw [e3] at h; exact h.elim
        | no => rw [e3] at h; exact h.elim
        | ok b ρ2 =>
          rw [e3] at h
          refine ⟨b, ρ2, c1, R1.perm List.perm_middle.symm, rfl, fun y H2 c2 R2 => ?_⟩
          have h : Post X.K X.mg P T D σ (match ρ2[i]? with
            | some (some a) => match setItO a b u with
              | some o => .ok .nx (ρ2.set i (some o))
              | none => .no
            | _ => .no) := h
          split at h
          · rename_i a e4
            split at h
            · rename_i o' e5
              have R3 : Rep X.K X.mg H2 ([.ov y b] ++ (pairs σ ρ2 ++ (.ov v u :: T))) [] := R2
              have R4 := Rep.slot hvx e4 R3
              have R5 : Rep X.K X.mg H2 (.ov vx a :: .ov y b :: .ov v u :: (pairs σ (ρ2.set i none) ++ T)) [] := R4.perm ((List.Perm.cons _ (List.Perm.cons _ List.perm_middle)))
              refine setIt_core R5 e5 fun H3 R6 => h σ H3 (Fix.refl _ _) (c2.put hvx _) ?_
              exact Rep.unslot (M := []) hvx e4 R6
            · exact h.elim
          · exact h.elim
      · exact h.elim
end
end FB

/-! Displays among readings; the law's own def; the end. -/
namespace FB
open PySem PySem.Spec L2
open PyProof.Rows hiding St

section
variable {X : Cx} {K : PySem.W.Frag} {mg : Str → Option Value}
def tPs (K : PySem.W.Frag) (mg : Str → Option Value) (f : Env → Option (List D)) : TA := fun σ H Q => ∃ ρ T B ds, Cov σ ρ ∧ Rep K mg H (pairs σ ρ ++ T) B ∧ f ρ = some ds ∧ ∀ vs H', Same H H' → vs.length = ds.length → Rep K mg H' (zipI vs (ds.map O.val) ++ (pairs σ ρ ++ T)) B → Q vs H'
def SPs (X : Cx) (es : List Expr) (f : Env → Option (List D)) : Prop := PA X es (tPs X.K X.mg f)
def pNil : Env → Option (List D) := fun _ => some []
def pCons (f : Pf) (g : Env → Option (List D)) : Env → Option (List D) := fun ρ => match f ρ with
  | some (.val d) => (g ρ).map (d :: ·)
  | _ => none
theorem sps_nil : SPs X [] pNil := PA.imp pa_nil fun σ H Q w => by
  obtain ⟨ρ, T, B, ds, c, R, e, k⟩ := w
  cases e
  exact k [] H (Same.refl _) rfl R
theorem sps_cons {e : Expr} {es : List Expr} {f : Pf} {g : Env → Option (List D)} (h : SP X e f) (hs : SPs X es g) (hst : starEach (e :: es) X.env = (false, eval e X.env) :: starEach es X.env := by rfl) : SPs X (e :: es) (pCons f g) :=
  PA.imp (pa_cons h hs hst) fun σ H Q w => by
    obtain ⟨ρ, T, B, ds, c, R, e, k⟩ := w
    unfold pCons at e
    split at e
    · rename_i d e1
      cases e2 : g ρ with
      | none => rw [e2] at e; cases e
      | some ds' =>
        rw [e2] at e
        cases e
        refine ⟨ρ, T, B, .val d, c, R, e1, fun v H1 s1 R1 => ⟨ρ, .ov v (.val d) :: T, B, ds', c, R1.keep.perm List.perm_middle.symm, e2, fun vs H2 s2 hl R2 => k (v :: vs) H2 (s1.trans s2) (by simp [hl]) (R2.perm ?_)⟩⟩
        show (zipI vs (ds'.map O.val) ++ (pairs σ ρ ++ .ov v (.val d) :: T)).Perm (.ov v (.val d) :: (zipI vs (ds'.map O.val) ++ (pairs σ ρ ++ T)))
        exact ((List.perm_middle (a := Item.ov v (.val d))).append_left _).trans List.perm_middle
    · cases e
def pLst (g : Env → Option (List D)) : Pf := fun ρ => (g ρ).bind fun ds => if ds.length ≤ 1000000 then some (.val (.lst ds)) else none
def pTup (g : Env → Option (List D)) : Pf := fun ρ => (g ρ).bind fun ds => if ds.length ≤ 1000000 then some (.val (.tup ds)) else none
theorem sp_lst {es : List Expr} {pos : Pos} {g : Env → Option (List D)} (h : SPs X es g) : SP X (.List es pos) (pLst g) := PE.imp (pe_lst h) fun σ H Q w => by
  obtain ⟨ρ, T, B, o, c, R, e, k⟩ := w
  unfold pLst at e
  cases e1 : g ρ with
  | none => rw [e1] at e; cases e
  | some ds =>
    rw [e1] at e
    have e : (if ds.length ≤ 1000000 then some (O.val (.lst ds)) else none) = some o := e
    split at e
    · rename_i hl
      cases e
      exact ⟨ρ, T, B, ds, c, R, e1, fun vs H' s' hv R' => ⟨line6 (by omega), fun p hp => k _ _ (s'.trans (sameNew hp)) (R'.lentL hv hp)⟩⟩
    · cases e
theorem sp_tup {es : List Expr} {x1 : Nat} {pos : Pos} {g : Env → Option (List D)} (h : SPs X es g) : SP X (.Tuple es x1 pos) (pTup g) := PE.imp (pe_tup h) fun σ H Q w => by
  obtain ⟨ρ, T, B, o, c, R, e, k⟩ := w
  unfold pTup at e
  cases e1 : g ρ with
  | none => rw [e1] at e; cases e
  | some ds =>
    rw [e1] at e
    have e : (if ds.length ≤ 1000000 then some (O.val (.tup ds)) else none) = some o := e
    split at e
    · rename_i hl
      cases e
      exact ⟨ρ, T, B, ds, c, R, e1, fun vs H' s' hv R' => ⟨line6 (by omega), fun p hp => k _ _ (s'.trans (sameNew hp)) (R'.lentT hv hp)⟩⟩
    · cases e
end

section
variable {P : Program} {w : World} {K : PySem.W.Frag} {mg : Str → Option Value} {base : Heap}
theorem law_end {F : FSem} {H : Hp} {a : Addr} {ns : List Int} (h : ∃ r, F [.val (.scr ns)] = some (.val (.bl true), r)) (hS : SqL K H a (ns.map V.int)) : spF K mg 1 F [.ref a] H (fun v _ => v = .bl true) fun _ _ _ => False := by
  obtain ⟨r, e⟩ := h
  refine ⟨[.val (.scr ns)], [], _, r, rfl, rfl, ?_, e, fun v H' R => ?_⟩
  · refine ⟨[], List.nodup_nil, ?_, fun _ h => by simp at h⟩
    exact IsOk.append (as := []) (IsOk.zip (VOs.vals (Vws.cons (Vw.scr hS) Vws.nil))) IsOk.nil
  · have q := R.lend.view (List.mem_cons_self ..)
    cases q
    rfl
end
end FB

/-! From the head's facts to the walk. -/
namespace FB
open PySem PySem.Spec L2
open PyProof.Rows hiding St
@[irreducible] def fuel : Nat := 1000000
theorem fuel_eq : fuel = 1000000 := by unfold fuel; rfl
theorem fun_of {K : PySem.W.Frag} {x qual : Str} {st : Stmt} {f : Addr} {fd : FuncData} (D : FunD K x qual (C8.fnArgs st) (C8.fnBody st) (C8.fnScope st) [] [] f fd) : C8.Fun K x qual st f fd := by
  obtain ⟨oc, od, dV, kV, doc, pm, an, cdv, ct, osl, e, lk, hc, _, _⟩ := D.ex
  exact ⟨oc, od, dV, kV, doc, pm, an, cdv, ct, osl, e, lk, hc⟩
end FB
namespace FB
open PySem PySem.Spec L2
theorem CxOk.u64 {X : Cx} (ok : CxOk X) : X.A.units + 64 < cLine := by have := ok.units; omega
end FB

/-! What the combinators compute: rules for simp, rules for loops. -/
namespace FB
open PySem PySem.Spec L2
open PyProof.Rows hiding St

variable {ρ : Env}
-- readings
@[simp] theorem e_pVar (i : Nat) : pVar i ρ = (ρ[i]?).join := (rfl)
@[simp] theorem e_pC (d : D) : pC d ρ = some (.val d) := (rfl)
def p2K (op : O → O → Option O) : Option O → Option O → Option O
  | some a, some b => op a b
  | _, _ => none
@[simp] theorem e_p2 (op : O → O → Option O) (f g : Pf) : p2 op f g ρ = p2K op (f ρ) (g ρ) := by
  unfold p2 p2K; cases f ρ <;> cases g ρ <;> rfl
@[simp] theorem e_p2K (op : O → O → Option O) (a b : O) : p2K op (some a) (some b) = op a b := (rfl)
def p1K (op : O → Option O) : Option O → Option O
  | some a => op a
  | none => none
@[simp] theorem e_p1 (op : O → Option O) (f : Pf) : p1 op f ρ = p1K op (f ρ) := by
  unfold p1 p1K; cases f ρ <;> rfl
@[simp] theorem e_p1K (op : O → Option O) (a : O) : p1K op (some a) = op a := (rfl)
@[simp] theorem e_mP (f : Pf) : mP f ρ = okV (f ρ) ρ := by unfold mP okV; rfl
@[simp] theorem e_okV (d : D) : okV (some (.val d)) ρ = .ok (.val d) ρ := (rfl)
@[simp] theorem e_pNil : pNil ρ = some [] := (rfl)
def pcK : Option O → Option (List D) → Option (List D)
  | some (.val d), some ds => some (d :: ds)
  | _, _ => none
@[simp] theorem e_pCons (f : Pf) (g : Env → Option (List D)) : pCons f g ρ = pcK (f ρ) (g ρ) := by
  unfold pCons pcK
  cases f ρ with
  | none => rfl
  | some o => cases o <;> cases g ρ <;> rfl
@[simp] theorem e_pcK (d : D) (ds : List D) : pcK (some (.val d)) (some ds) = some (d :: ds) := (rfl)
def plK (k : List D → D) : Option (List D) → Option O
  | some ds => if ds.length ≤ 1000000 then some (.val (k ds)) else none
  | none => none
@[simp] theorem e_pLst (g : Env → Option (List D)) : pLst g ρ = plK .lst (g ρ) := by unfold pLst plK; cases g ρ <;> rfl
@[simp] theorem e_pTup (g : Env → Option (List D)) : pTup g ρ = plK .tup (g ρ) := by unfold pTup plK; cases g ρ <;> rfl
@[simp] theorem e_plK (k : List D → D) (ds : List D) (h : ds.length ≤ 1000000) : plK k (some ds) = some (.val (k ds)) := by unfold plK; simp [h]
def pslK : Option O → Option (Option Int) → Option (Option Int) → Option O
  | some a, some l, some h => slO a l h
  | _, _, _ => none
@[simp] theorem e_pSl (f : Pf) (lo hi : Env → Option (Option Int)) : pSl f lo hi ρ = pslK (f ρ) (lo ρ) (hi ρ) := by
  unfold pSl pslK; cases f ρ <;> cases lo ρ <;> cases hi ρ <;> rfl
@[simp] theorem e_pslK (a : O) (l h : Option Int) : pslK (some a) (some l) (some h) = slO a l h := (rfl)
@[simp] theorem e_pNone : pNone ρ = some none := (rfl)
def piK : Option O → Option (Option Int)
  | some (.val (.int i)) => some (some i)
  | _ => none
@[simp] theorem e_pInt (f : Pf) : pInt f ρ = piK (f ρ) := by unfold pInt piK; rfl
@[simp] theorem e_piK (i : Int) : piK (some (.val (.int i))) = some (some i) := (rfl)
-- expressions
def mvK (i : Nat) (ρ : Env) : Option (Option O) → Res O
  | some (some o) => .ok o (ρ.set i none)
  | _ => .no
@[simp] theorem e_mMove (i : Nat) : mMove i ρ = mvK i ρ (ρ[i]?) := (rfl)
@[simp] theorem e_mvK (i : Nat) (o : O) : mvK i ρ (some (some o)) = .ok o (ρ.set i none) := (rfl)
def frK (i : Nat) (ρ : Env) : Option (Option O) → Res O
  | some (some o) => .ok (.val o.toD) (ρ.set i (some (.val o.toD)))
  | _ => .no
@[simp] theorem e_mFrz (i : Nat) : mFrz i ρ = frK i ρ (ρ[i]?) := (rfl)
@[simp] theorem e_frK (i : Nat) (o : O) : frK i ρ (some (some o)) = .ok (.val o.toD) (ρ.set i (some (.val o.toD))) := (rfl)
def m2B (op : O → O → Option O) (a : O) : Res O → Res O
  | .ok b ρ2 => okV (op a b) ρ2
  | .exc x ρ => .exc x ρ
  | .no => .no
def m2A (op : O → O → Option O) (n : M O) : Res O → Res O
  | .ok a ρ1 => m2B op a (n ρ1)
  | .exc x ρ => .exc x ρ
  | .no => .no
@[simp] theorem e_m2 (op : O → O → Option O) (m n : M O) : m2 op m n ρ = m2A op n (m ρ) := by
  unfold m2 m2A
  cases m ρ with
  | ok a ρ1 => show (n ρ1).bind _ = m2B op a (n ρ1); unfold m2B; cases n ρ1 <;> rfl
  | exc _ _ => rfl
  | no => rfl
@[simp] theorem e_m2A (op : O → O → Option O) (n : M O) (a : O) : m2A op n (.ok a ρ) = m2B op a (n ρ) := (rfl)
@[simp] theorem e_m2B (op : O → O → Option O) (a b : O) : m2B op a (.ok b ρ) = okV (op a b) ρ := (rfl)
def m1K (op : O → Option O) : Res O → Res O
  | .ok a ρ1 => okV (op a) ρ1
  | .exc x ρ => .exc x ρ
  | .no => .no
@[simp] theorem e_m1 (op : O → Option O) (m : M O) : m1 op m ρ = m1K op (m ρ) := by unfold m1 m1K; cases m ρ <;> rfl
@[simp] theorem e_m1K (op : O → Option O) (a : O) : m1K op (.ok a ρ) = okV (op a) ρ := (rfl)
def mBK : Res O → Res Bool
  | .ok (.val (.bl b)) ρ => .ok b ρ
  | .ok _ _ => .no
  | .exc x ρ => .exc x ρ
  | .no => .no
@[simp] theorem e_mB (m : M O) : mB m ρ = mBK (m ρ) := by
  unfold mB mBK
  cases m ρ with
  | ok o ρ1 =>
    cases o with
    | val d => cases d <;> rfl
    | lst _ => rfl
    | dct _ _ => rfl
    | ins _ _ _ => rfl
  | exc _ _ => rfl
  | no => rfl
@[simp] theorem e_mBK (b : Bool) : mBK (.ok (.val (.bl b)) ρ) = .ok b ρ := (rfl)
def andK (b : M Bool) : Res Bool → Res Bool
  | .ok c ρ => if c = true then b ρ else .ok false ρ
  | .exc x ρ => .exc x ρ
  | .no => .no
@[simp] theorem e_mAnd (a b : M Bool) : mAnd a b ρ = andK b (a ρ) := by unfold mAnd andK; cases a ρ <;> rfl
@[simp] theorem e_andK (b : M Bool) (c : Bool) : andK b (.ok c ρ) = if c = true then b ρ else .ok false ρ := (rfl)
def orK (b : M Bool) : Res Bool → Res Bool
  | .ok c ρ => if c = true then .ok true ρ else b ρ
  | .exc x ρ => .exc x ρ
  | .no => .no
@[simp] theorem e_mOr (a b : M Bool) : mOr a b ρ = orK b (a ρ) := by unfold mOr orK; cases a ρ <;> rfl
@[simp] theorem e_orK (b : M Bool) (c : Bool) : orK b (.ok c ρ) = if c = true then .ok true ρ else b ρ := (rfl)
def notK : Res Bool → Res Bool
  | .ok c ρ => .ok (!c) ρ
  | .exc x ρ => .exc x ρ
  | .no => .no
@[simp] theorem e_mNot (a : M Bool) : mNot a ρ = notK (a ρ) := by unfold mNot notK; cases a ρ <;> rfl
@[simp] theorem e_notK (c : Bool) : notK (.ok c ρ) = .ok (!c) ρ := (rfl)
def andVK (b : M O) : Res O → Res O
  | .ok (.val (.bl c)) ρ => if c = true then b ρ else .ok (.val (.bl false)) ρ
  | .ok _ _ => .no
  | .exc x ρ => .exc x ρ
  | .no => .no
@[simp] theorem e_mAndV (a b : M O) : mAndV a b ρ = andVK b (a ρ) := by
  unfold mAndV andVK
  cases a ρ with
  | ok o ρ1 =>
    cases o with
    | val d =>
      cases d with
      | bl c => cases c <;> rfl
      | _ => rfl
    | lst _ => rfl
    | dct _ _ => rfl
    | ins _ _ _ => rfl
  | exc _ _ => rfl
  | no => rfl
@[simp] theorem e_andVK (b : M O) (c : Bool) : andVK b (.ok (.val (.bl c)) ρ) = if c = true then b ρ else .ok (.val (.bl false)) ρ := (rfl)
def notVK : Res O → Res O
  | .ok (.val (.bl c)) ρ => .ok (.val (.bl (!c))) ρ
  | .ok _ _ => .no
  | .exc x ρ => .exc x ρ
  | .no => .no
@[simp] theorem e_mNotV (a : M O) : mNotV a ρ = notVK (a ρ) := by
  unfold mNotV notVK
  cases a ρ with
  | ok o ρ1 =>
    cases o with
    | val d => cases d <;> rfl
    | lst _ => rfl
    | dct _ _ => rfl
    | ins _ _ _ => rfl
  | exc _ _ => rfl
  | no => rfl
@[simp] theorem e_notVK (c : Bool) : notVK (.ok (.val (.bl c)) ρ) = .ok (.val (.bl (!c))) ρ := (rfl)
def ifK {α : Type} (a b : M α) : Res Bool → Res α
  | .ok c ρ => if c = true then a ρ else b ρ
  | .exc x ρ => .exc x ρ
  | .no => .no
@[simp] theorem e_mIf (t : M Bool) (a b : M Fl) : mIf t a b ρ = ifK a b (t ρ) := by unfold mIf ifK; cases t ρ <;> rfl
@[simp] theorem e_ifK {α : Type} (a b : M α) (c : Bool) : ifK a b (.ok c ρ) = if c = true then a ρ else b ρ := (rfl)
@[simp] theorem e_mNil : mNil ρ = .ok [] ρ := (rfl)
def csB (o : O) : Res (List O) → Res (List O)
  | .ok os ρ => .ok (o :: os) ρ
  | .exc x ρ => .exc x ρ
  | .no => .no
def csA (ms : M (List O)) : Res O → Res (List O)
  | .ok o ρ => csB o (ms ρ)
  | .exc x ρ => .exc x ρ
  | .no => .no
@[simp] theorem e_mCons (m : M O) (ms : M (List O)) : mCons m ms ρ = csA ms (m ρ) := by
  unfold mCons csA
  cases m ρ with
  | ok a ρ1 => show (ms ρ1).bind _ = csB a (ms ρ1); unfold csB; cases ms ρ1 <;> rfl
  | exc _ _ => rfl
  | no => rfl
@[simp] theorem e_csA (ms : M (List O)) (o : O) : csA ms (.ok o ρ) = csB o (ms ρ) := (rfl)
@[simp] theorem e_csB (o : O) (os : List O) : csB o (.ok os ρ) = .ok (o :: os) ρ := (rfl)
def lsK (k : List O → O) : Res (List O) → Res O
  | .ok os ρ => if os.length ≤ 1000000 then .ok (k os) ρ else .no
  | .exc x ρ => .exc x ρ
  | .no => .no
@[simp] theorem e_mLst (ms : M (List O)) : mLst ms ρ = lsK .lst (ms ρ) := by unfold mLst lsK; cases ms ρ <;> rfl
@[simp] theorem e_mTup (ms : M (List O)) : mTup ms ρ = lsK (fun os => .val (.tup (O.toDs os))) (ms ρ) := by unfold mTup lsK; cases ms ρ <;> rfl
@[simp] theorem e_lsK (k : List O → O) (os : List O) (h : os.length ≤ 1000000) : lsK k (.ok os ρ) = .ok (k os) ρ := by unfold lsK; simp [h]
-- statements
@[simp] theorem e_mSkip : mSkip ρ = .ok .nx ρ := (rfl)
@[simp] theorem e_mCont : mCont ρ = .ok .ct ρ := (rfl)
def sqK (b : M Fl) : Res Fl → Res Fl
  | .ok .nx ρ => b ρ
  | .ok f ρ => .ok f ρ
  | .exc x ρ => .exc x ρ
  | .no => .no
@[simp] theorem e_mSeq (a b : M Fl) : mSeq a b ρ = sqK b (a ρ) := by
  unfold mSeq sqK
  cases a ρ with
  | ok f ρ1 => cases f <;> rfl
  | exc _ _ => rfl
  | no => rfl
@[simp] theorem e_sqK (b : M Fl) : sqK b (.ok .nx ρ) = b ρ := (rfl)
@[simp] theorem e_sqKr (b : M Fl) (o : O) : sqK b (.ok (.ret o) ρ) = .ok (.ret o) ρ := (rfl)
@[simp] theorem e_sqKb (b : M Fl) : sqK b (.ok .brk ρ) = .ok .brk ρ := (rfl)
@[simp] theorem e_sqKc (b : M Fl) : sqK b (.ok .ct ρ) = .ok .ct ρ := (rfl)
def exK : Res O → Res Fl
  | .ok _ ρ => .ok .nx ρ
  | .exc x ρ => .exc x ρ
  | .no => .no
@[simp] theorem e_mEx (m : M O) : mEx m ρ = exK (m ρ) := by unfold mEx exK; cases m ρ <;> rfl
@[simp] theorem e_exK (o : O) : exK (.ok o ρ) = .ok .nx ρ := (rfl)
def rtK : Res O → Res Fl
  | .ok o ρ => .ok (.ret o) ρ
  | .exc x ρ => .exc x ρ
  | .no => .no
@[simp] theorem e_mRet (m : M O) : mRet m ρ = rtK (m ρ) := by unfold mRet rtK; cases m ρ <;> rfl
@[simp] theorem e_rtK (o : O) : rtK (.ok o ρ) = .ok (.ret o) ρ := (rfl)
def soK (i : Nat) : Res O → Res Fl
  | .ok o ρ => .ok .nx (ρ.set i (some o))
  | .exc x ρ => .exc x ρ
  | .no => .no
@[simp] theorem e_mSetO (i : Nat) (m : M O) : mSetO i m ρ = soK i (m ρ) := by unfold mSetO soK; cases m ρ <;> rfl
@[simp] theorem e_soK (i : Nat) (o : O) : soK i (.ok o ρ) = .ok .nx (ρ.set i (some o)) := (rfl)
def spK (i : Nat) : Res O → Res Fl
  | .ok o ρ => .ok .nx (ρ.set i (some (.val o.toD)))
  | .exc x ρ => .exc x ρ
  | .no => .no
@[simp] theorem e_mSetP (i : Nat) (m : M O) : mSetP i m ρ = spK i (m ρ) := by unfold mSetP spK; cases m ρ <;> rfl
@[simp] theorem e_spK (i : Nat) (o : O) : spK i (.ok o ρ) = .ok .nx (ρ.set i (some (.val o.toD))) := (rfl)
def asA (a : D → Env → Option Env) : Res O → Res Fl
  | .ok o ρ => match a o.toD ρ with
    | some ρ2 => .ok .nx ρ2
    | none => .no
  | .exc x ρ => .exc x ρ
  | .no => .no
def asB : Option Env → Res Fl
  | some ρ => .ok .nx ρ
  | none => .no
@[simp] theorem e_mAsg (a : D → Env → Option Env) (m : M O) : mAsg a m ρ = asA a (m ρ) := by unfold mAsg asA; cases m ρ <;> rfl
@[simp] theorem e_asA (a : D → Env → Option Env) (o : O) : asA a (.ok o ρ) = asB (a o.toD ρ) := by
  show (match a o.toD ρ with | some ρ2 => Res.ok Fl.nx ρ2 | none => .no) = _
  unfold asB; cases a o.toD ρ <;> rfl
@[simp] theorem e_asB : asB (some ρ) = .ok .nx ρ := (rfl)
@[simp] theorem e_aN (i : Nat) (d : D) : aN i d ρ = some (ρ.set i (some (.val d))) := (rfl)
@[simp] theorem e_aNil : aNil [] ρ = some ρ := (rfl)
def acK (as : List D → Env → Option Env) (ds : List D) : Option Env → Option Env
  | some ρ => as ds ρ
  | none => none
@[simp] theorem e_aCons (a : D → Env → Option Env) (as : List D → Env → Option Env) (d : D) (ds : List D) : aCons a as (d :: ds) ρ = acK as ds (a d ρ) := by
  show (a d ρ).bind (fun ρ1 => as ds ρ1) = _
  unfold acK; cases a d ρ <;> rfl
@[simp] theorem e_acK (as : List D → Env → Option Env) (ds : List D) : acK as ds (some ρ) = as ds ρ := (rfl)
@[simp] theorem e_aTup (as : List D → Env → Option Env) (ds : List D) : aTup as (.tup ds) ρ = as ds ρ := (rfl)
@[simp] theorem e_mWhile (fu : Env → Nat) (t : M Bool) (b : M Fl) : mWhile fu t b ρ = whileN t b (fu ρ) ρ := (rfl)
def foK (a : D → Env → Option Env) (b : M Fl) : Res (List D) → Res Fl
  | .ok ds ρ => forL a b ds ρ
  | .exc x ρ => .exc x ρ
  | .no => .no
@[simp] theorem e_mFor (m : M (List D)) (a : D → Env → Option Env) (b : M Fl) : mFor m a b ρ = foK a b (m ρ) := by unfold mFor foK; cases m ρ <;> rfl
@[simp] theorem e_foK (a : D → Env → Option Env) (b : M Fl) (ds : List D) : foK a b (.ok ds ρ) = forL a b ds ρ := (rfl)
def siC (i : Nat) (u b : O) (ρ : Env) : Option (Option O) → Res Fl
  | some (some a) => match setItO a b u with
    | some o => .ok .nx (ρ.set i (some o))
    | none => .no
  | _ => .no
def siB (i : Nat) (u : O) : Res O → Res Fl
  | .ok b ρ2 => siC i u b ρ2 (ρ2[i]?)
  | .exc x ρ => .exc x ρ
  | .no => .no
def siA' (i : Nat) (n : M O) (u : O) (ρ : Env) : Option (Option O) → Res Fl
  | some (some _) => siB i u (n ρ)
  | _ => .no
def siA (i : Nat) (n : M O) : Res O → Res Fl
  | .ok u ρ1 => siA' i n u ρ1 (ρ1[i]?)
  | .exc x ρ => .exc x ρ
  | .no => .no
@[simp] theorem e_mSetIt (i : Nat) (n m : M O) : mSetIt i n m ρ = siA i n (m ρ) := by
  unfold mSetIt siA
  cases m ρ with
  | ok u ρ1 =>
    show (match ρ1[i]? with | some (some _) => _ | _ => Res.no) = siA' i n u ρ1 (ρ1[i]?)
    unfold siA'
    cases ρ1[i]? with
    | none => rfl
    | some q =>
      cases q with
      | none => rfl
      | some _ =>
        unfold siB
        cases n ρ1 <;> rfl
  | exc _ _ => rfl
  | no => rfl
@[simp] theorem e_siA (i : Nat) (n : M O) (u : O) : siA i n (.ok u ρ) = siA' i n u ρ (ρ[i]?) := (rfl)
@[simp] theorem e_siA' (i : Nat) (n : M O) (u o : O) : siA' i n u ρ (some (some o)) = siB i u (n ρ) := (rfl)
@[simp] theorem e_siB (i : Nat) (u b : O) : siB i u (.ok b ρ) = siC i u b ρ (ρ[i]?) := (rfl)
def siD (i : Nat) (ρ : Env) : Option O → Res Fl
  | some o => .ok .nx (ρ.set i (some o))
  | none => .no
@[simp] theorem e_siC (i : Nat) (u b a : O) : siC i u b ρ (some (some a)) = siD i ρ (setItO a b u) := by
  show (match setItO a b u with | some o => Res.ok Fl.nx (ρ.set i (some o)) | none => .no) = _
  unfold siD; cases setItO a b u <;> rfl
@[simp] theorem e_siD (i : Nat) (o : O) : siD i ρ (some o) = .ok .nx (ρ.set i (some o)) := (rfl)
def apC (i : Nat) (o : O) (ρ : Env) : Option (Option O) → Res O
  | some (some (.lst os)) => if os.length < 1000000 then .ok (.val .non) (ρ.set i (some (.lst (os ++ [o])))) else .no
  | _ => .no
def apB (i : Nat) : Res O → Res O
  | .ok o ρ => apC i o ρ (ρ[i]?)
  | .exc x ρ => .exc x ρ
  | .no => .no
def apA (i : Nat) (m : M O) (ρ : Env) : Option (Option O) → Res O
  | some (some (.lst _)) => apB i (m ρ)
  | _ => .no
@[simp] theorem e_mAppend (i : Nat) (m : M O) : mAppend i m ρ = apA i m ρ (ρ[i]?) := by
  unfold mAppend apA
  cases ρ[i]? with
  | none => rfl
  | some q =>
    cases q with
    | none => rfl
    | some o =>
      cases o with
      | lst os =>
        unfold apB
        cases m ρ <;> rfl
      | _ => rfl
@[simp] theorem e_apA (i : Nat) (m : M O) (os : List O) : apA i m ρ (some (some (.lst os))) = apB i (m ρ) := (rfl)
@[simp] theorem e_apB (i : Nat) (o : O) : apB i (.ok o ρ) = apC i o ρ (ρ[i]?) := (rfl)
@[simp] theorem e_apC (i : Nat) (o : O) (os : List O) (h : os.length < 1000000) : apC i o ρ (some (some (.lst os))) = .ok (.val .non) (ρ.set i (some (.lst (os ++ [o])))) := by unfold apC; simp [h]
def caC (as : List Arg) (ρ : Env) : Option (O × Env) → Res O
  | some q => .ok q.1 (giveA as q.2 ρ)
  | none => .no
def caB (F : FSem) (as : List Arg) : Option (List O × Env) → Res O
  | some r => caC as r.2 (F r.1)
  | none => .no
def caA (F : FSem) (as : List Arg) : Res (List (Option O)) → Res O
  | .ok os ρ => caB F as (takeA as os ρ)
  | .exc x ρ => .exc x ρ
  | .no => .no
@[simp] theorem e_mCall (F : FSem) (as : List Arg) : mCall F as ρ = caA F as (evA as ρ) := by
  unfold mCall caA
  cases evA as ρ with
  | ok os ρ1 =>
    show (match takeA as os ρ1 with | none => Res.no | some r => match F r.1 with | none => .no | some q => .ok q.1 (giveA as q.2 r.2)) = caB F as (takeA as os ρ1)
    unfold caB
    cases takeA as os ρ1 with
    | none => rfl
    | some r =>
      show (match F r.1 with | none => Res.no | some q => .ok q.1 (giveA as q.2 r.2)) = caC as r.2 (F r.1)
      unfold caC
      cases F r.1 <;> rfl
  | exc _ _ => rfl
  | no => rfl
@[simp] theorem e_caA (F : FSem) (as : List Arg) (os : List (Option O)) : caA F as (.ok os ρ) = caB F as (takeA as os ρ) := (rfl)
@[simp] theorem e_caB (F : FSem) (as : List Arg) (os : List O) : caB F as (some (os, ρ)) = caC as ρ (F os) := (rfl)
@[simp] theorem e_caC (as : List Arg) (o : O) (ρc : Env) : caC as ρ (some (o, ρc)) = .ok o (giveA as ρc ρ) := (rfl)
@[simp] theorem e_evA0 : evA [] ρ = .ok [] ρ := (rfl)
def evB (o : O) : Res (List (Option O)) → Res (List (Option O))
  | .ok os ρ => .ok (some o :: os) ρ
  | .exc x ρ => .exc x ρ
  | .no => .no
def evC (as : List Arg) : Res O → Res (List (Option O))
  | .ok o ρ => evB o (evA as ρ)
  | .exc x ρ => .exc x ρ
  | .no => .no
@[simp] theorem e_evAv (m : M O) (as : List Arg) : evA (.v m :: as) ρ = evC as (m ρ) := by
  show (m ρ).bind (fun o ρ1 => (evA as ρ1).bind fun os ρ2 => .ok (some o :: os) ρ2) = _
  unfold evC
  cases m ρ with
  | ok o ρ1 => show (evA as ρ1).bind _ = evB o (evA as ρ1); unfold evB; cases evA as ρ1 <;> rfl
  | exc _ _ => rfl
  | no => rfl
@[simp] theorem e_evC (as : List Arg) (o : O) : evC as (.ok o ρ) = evB o (evA as ρ) := (rfl)
@[simp] theorem e_evB (os : List (Option O)) (o : O) : evB o (.ok os ρ) = .ok (some o :: os) ρ := (rfl)
def evD : Res (List (Option O)) → Res (List (Option O))
  | .ok os ρ => .ok (none :: os) ρ
  | .exc x ρ => .exc x ρ
  | .no => .no
def evE (as : List Arg) (ρ : Env) : Option (Option O) → Res (List (Option O))
  | some (some _) => evD (evA as ρ)
  | _ => .no
@[simp] theorem e_evAi (i : Nat) (as : List Arg) : evA (.io i :: as) ρ = evE as ρ (ρ[i]?) := by
  show (match ρ[i]? with | some (some _) => (evA as ρ).bind fun os ρ2 => .ok (none :: os) ρ2 | _ => .no) = _
  unfold evE
  cases ρ[i]? with
  | none => rfl
  | some q =>
    cases q with
    | none => rfl
    | some o => show (evA as ρ).bind _ = evD (evA as ρ); unfold evD; cases evA as ρ <;> rfl
@[simp] theorem e_evE (as : List Arg) (o : O) : evE as ρ (some (some o)) = evD (evA as ρ) := (rfl)
@[simp] theorem e_evD (os : List (Option O)) : evD (.ok os ρ) = .ok (none :: os) ρ := (rfl)
@[simp] theorem e_tk0 : takeA [] [] ρ = some ([], ρ) := (rfl)
def tkK (o : O) : Option (List O × Env) → Option (List O × Env)
  | some r => some (o :: r.1, r.2)
  | none => none
@[simp] theorem e_tkv (m : M O) (as : List Arg) (o : O) (os : List (Option O)) : takeA (.v m :: as) (some o :: os) ρ = tkK o (takeA as os ρ) := by
  show (takeA as os ρ).map (fun r : List O × Env => (o :: r.1, r.2)) = tkK o (takeA as os ρ)
  unfold tkK; cases takeA as os ρ <;> rfl
@[simp] theorem e_tkK (o : O) (os : List O) : tkK o (some (os, ρ)) = some (o :: os, ρ) := (rfl)
def tkI (i : Nat) (as : List Arg) (os : List (Option O)) (ρ : Env) : Option (Option O) → Option (List O × Env)
  | some (some o) => tkK o (takeA as os (ρ.set i none))
  | _ => none
@[simp] theorem e_tki (i : Nat) (as : List Arg) (os : List (Option O)) : takeA (.io i :: as) (none :: os) ρ = tkI i as os ρ (ρ[i]?) := by
  show (match ρ[i]? with
    | some (some o) => (takeA as os (ρ.set i none)).map fun r : List O × Env => (o :: r.1, r.2)
    | _ => none) = tkI i as os ρ (ρ[i]?)
  unfold tkI
  cases ρ[i]? with
  | none => rfl
  | some q =>
    cases q with
    | none => rfl
    | some o =>
      show (takeA as os (ρ.set i none)).map (fun r => (o :: r.1, r.2)) = tkK o (takeA as os (ρ.set i none))
      unfold tkK
      cases takeA as os (ρ.set i none) <;> rfl
@[simp] theorem e_tkI (i : Nat) (as : List Arg) (os : List (Option O)) (o : O) : tkI i as os ρ (some (some o)) = tkK o (takeA as os (ρ.set i none)) := (rfl)
@[simp] theorem e_gv0 (ρc : Env) : giveA [] ρc ρ = ρ := by cases ρc <;> rfl
@[simp] theorem e_gvv (m : M O) (as : List Arg) (u : Option O) (ρc : Env) : giveA (.v m :: as) (u :: ρc) ρ = giveA as ρc ρ := (rfl)
@[simp] theorem e_gvi (i : Nat) (as : List Arg) (o : O) (ρc : Env) : giveA (.io i :: as) (some o :: ρc) ρ = giveA as ρc (ρ.set i (some o)) := (rfl)
@[simp] theorem e_gvn (i : Nat) (as : List Arg) (ρc : Env) : giveA (.io i :: as) (none :: ρc) ρ = giveA as ρc ρ := (rfl)
-- iterables
def itB (ρ : Env) : Option (List D) → Res (List D)
  | some ds => .ok ds ρ
  | none => .no
def itA : Res O → Res (List D)
  | .ok o ρ => itB ρ o.toD.items?
  | .exc x ρ => .exc x ρ
  | .no => .no
@[simp] theorem e_mI (m : M O) : mI m ρ = itA (m ρ) := by
  unfold mI itA
  cases m ρ with
  | ok o ρ1 =>
    show (match o.toD.items? with | some ds => Res.ok ds ρ1 | none => .no) = itB ρ1 o.toD.items?
    unfold itB; cases o.toD.items? <;> rfl
  | exc _ _ => rfl
  | no => rfl
@[simp] theorem e_itA (o : O) : itA (.ok o ρ) = itB ρ o.toD.items? := (rfl)
@[simp] theorem e_itB (ds : List D) : itB ρ (some ds) = .ok ds ρ := (rfl)
@[simp] theorem e_mTrue : mTrue ρ = .ok true ρ := (rfl)
def r1K : Res O → Res (List D)
  | .ok (.val (.int j)) ρ => if small j = true then .ok (rangeL 0 j.toNat) ρ else .no
  | .ok _ _ => .no
  | .exc x ρ => .exc x ρ
  | .no => .no
@[simp] theorem e_mR1 (m : M O) : mR1 m ρ = r1K (m ρ) := by
  unfold r1K mR1
  cases m ρ with
  | ok o ρ1 =>
    cases o with
    | val d => cases d <;> rfl
    | lst _ => rfl
    | dct _ _ => rfl
    | ins _ _ _ => rfl
  | exc _ _ => rfl
  | no => rfl
@[simp] theorem e_r1K (j : Int) (h : small j = true) : r1K (.ok (.val (.int j)) ρ) = .ok (rangeL 0 j.toNat) ρ := by unfold r1K; simp [h]
-- values
@[simp] theorem e_lift2 (f : D → D → Option D) (x y : D) : lift2 f (.val x) (.val y) = (f x y).map O.val := (rfl)
@[simp] theorem e_add (i j : Int) : addD (.int i) (.int j) = some (.int (i + j)) := (rfl)
@[simp] theorem e_sub (i j : Int) : subD (.int i) (.int j) = some (.int (i - j)) := (rfl)
@[simp] theorem e_lt (i j : Int) : ltD (.int i) (.int j) = some (.bl (decide (i < j))) := (rfl)
@[simp] theorem e_le (i j : Int) : leD (.int i) (.int j) = some (.bl (decide (i ≤ j))) := (rfl)
@[simp] theorem e_gt (i j : Int) : gtD (.int i) (.int j) = some (.bl (decide (j < i))) := (rfl)
@[simp] theorem e_ge (i j : Int) : geD (.int i) (.int j) = some (.bl (decide (j ≤ i))) := (rfl)
theorem mulOk_l {i j : Int} (h : i.natAbs < 2 ^ 64) : mulOk i j = true := by unfold mulOk; simp [h]
theorem mulOk_r {i j : Int} (h : j.natAbs < 2 ^ 64) : mulOk i j = true := by unfold mulOk; simp [h]
theorem e_mul {i j : Int} (h : mulOk i j = true) : mulD (.int i) (.int j) = some (.int (i * j)) := by unfold mulD; simp [h]
theorem e_mulr {i : Int} (j : Int) (h : j.natAbs < 2 ^ 64) : mulD (.int i) (.int j) = some (.int (i * j)) := e_mul (mulOk_r h)
theorem e_mull {i : Int} (j : Int) (h : i.natAbs < 2 ^ 64) : mulD (.int i) (.int j) = some (.int (i * j)) := e_mul (mulOk_l h)
theorem e_mod {i j : Int} (h : 0 < j) : modD (.int i) (.int j) = some (.int (i % j)) := by unfold modD; simp [h]
theorem e_fdiv {i j : Int} (h : 0 < j) (h2 : j.natAbs.log2 < 9000) : fdivD (.int i) (.int j) = some (.int (i / j)) := by unfold fdivD; simp [h, h2]
theorem e_pow {i j : Int} (h : 0 ≤ j) (h2 : j ≤ 1000000) (h3 : i.natAbs < 2 ^ 64) : powD (.int i) (.int j) = some (.int (i ^ j.toNat)) := by unfold powD; simp [h, h2, h3]
@[simp] theorem e_toD_val (d : D) : (O.val d).toD = d := (rfl)
@[simp] theorem e_toD_lst (os : List O) : (O.lst os).toD = .lst (O.toDs os) := (rfl)
@[simp] theorem e_toDs0 : O.toDs [] = [] := (rfl)
@[simp] theorem e_toDs1 (o : O) (os : List O) : O.toDs (o :: os) = o.toD :: O.toDs os := (rfl)
@[simp] theorem e_toDsv (ds : List D) : O.toDs (ds.map O.val) = ds := toDs_vals ds
@[simp] theorem e_negO (i : Int) : negO (.val (.int i)) = some (.val (.int (-i))) := (rfl)
@[simp] theorem e_items_l (ds : List D) : (D.lst ds).items? = some ds := (rfl)
@[simp] theorem e_items_t (ds : List D) : (D.tup ds).items? = some ds := (rfl)
@[simp] theorem e_items_s (ns : List Int) : (D.scr ns).items? = some (ns.map D.int) := (rfl)

def endF (n : Nat) (P : List Nat) : Res Fl → Option (O × Env)
  | .ok .nx ρ' => some (.val .non, maskE n P ρ')
  | .ok (.ret o) ρ' => some (o, maskE n P ρ')
  | _ => none
theorem runF_eq (n N : Nat) (P : List Nat) (b : M Fl) (os : List O) : runF n N P b os = endF n P (b (os.map some ++ List.replicate (N - os.length) none)) := by
  unfold runF endF
  rfl
@[simp] theorem e_endR (n : Nat) (P : List Nat) (o : O) : endF n P (.ok (.ret o) ρ) = some (o, maskE n P ρ) := (rfl)
@[simp] theorem e_endN (n : Nat) (P : List Nat) : endF n P (.ok .nx ρ) = some (.val .non, maskE n P ρ) := (rfl)

/-! ### loops -/
theorem forL_inv {a : D → Env → Option Env} {b : M Fl} {ds : List D} (I : Nat → Env → Prop) {ρ : Env} (h0 : I 0 ρ) (hs : ∀ i d ρ, ds[i]? = some d → I i ρ → ∃ ρ1 ρ2, a d ρ = some ρ1 ∧ (b ρ1 = .ok .nx ρ2 ∨ b ρ1 = .ok .ct ρ2) ∧ I (i + 1) ρ2) :
    ∃ ρ', forL a b ds ρ = .ok .nx ρ' ∧ I ds.length ρ' := by
  induction ds generalizing I ρ with
  | nil => exact ⟨ρ, rfl, h0⟩
  | cons d ds ih =>
    obtain ⟨ρ1, ρ2, e1, e2, h1⟩ := hs 0 d ρ rfl h0
    obtain ⟨ρ', e3, h3⟩ := ih (fun i => I (i + 1)) h1 fun i d ρ h => hs (i + 1) d ρ (by simpa using h)
    refine ⟨ρ', ?_, by simpa using h3⟩
    unfold forL
    rw [e1]
    rcases e2 with e2 | e2 <;> simp only [e2, Res.bind_ok] <;> exact e3
end FB

/-! Plain facts of data: equality, slices, places. -/
namespace FB
open PySem PySem.Spec L2
open PyProof.Rows hiding St

@[simp] theorem eqv_int (i j : Int) : D.eqv (.int i) (.int j) = decide (i = j) := by
  unfold D.eqv D.pd; simp only [PyData.eqv]; first | rfl | (simp; done) | (by_cases h : i = j <;> simp [h])
def eqvs (xs ys : List D) : Bool := PyData.eqvAll (D.pds xs) (D.pds ys)
@[simp] theorem eqv_lst (xs ys : List D) : D.eqv (.lst xs) (.lst ys) = eqvs xs ys := by unfold D.eqv D.pd eqvs; simp only [PyData.eqv]
@[simp] theorem eqv_tup (xs ys : List D) : D.eqv (.tup xs) (.tup ys) = eqvs xs ys := by unfold D.eqv D.pd eqvs; simp only [PyData.eqv]
@[simp] theorem eqvs_nn : eqvs [] [] = true := by unfold eqvs D.pds; simp only [PyData.eqvAll]
@[simp] theorem eqvs_nc (y : D) (ys : List D) : eqvs [] (y :: ys) = false := by unfold eqvs D.pds; simp only [PyData.eqvAll]
@[simp] theorem eqvs_cn (y : D) (ys : List D) : eqvs (y :: ys) [] = false := by unfold eqvs D.pds; simp only [PyData.eqvAll]
@[simp] theorem eqvs_cc (x y : D) (xs ys : List D) : eqvs (x :: xs) (y :: ys) = (D.eqv x y && eqvs xs ys) := by
  show PyData.eqvAll (x.pd :: D.pds xs) (y.pd :: D.pds ys) = _
  simp only [PyData.eqvAll]; rfl
@[simp] theorem eqvs_n (xs : List D) : eqvs xs [] = xs.isEmpty := by cases xs <;> simp
@[simp] theorem okE_int (n : Nat) (i : Int) : D.okE n (.int i) = true := by unfold D.okE; first | rfl | (cases n <;> rfl)
@[simp] theorem okE_bl (n : Nat) (i : Bool) : D.okE n (.bl i) = true := by unfold D.okE; first | rfl | (cases n <;> rfl)
@[simp] theorem okE_non (n : Nat) : D.okE n .non = true := by unfold D.okE; first | rfl | (cases n <;> rfl)
@[simp] theorem okE_str (n : Nat) (s : Str) : D.okE n (.str s) = true := by unfold D.okE; first | rfl | (cases n <;> rfl)
@[simp] theorem okE_lst (n : Nat) (xs : List D) : D.okE (n + 1) (.lst xs) = xs.all (D.okE n) := by rw [D.okE]
@[simp] theorem okE_tup (n : Nat) (xs : List D) : D.okE (n + 1) (.tup xs) = xs.all (D.okE n) := by rw [D.okE]
theorem e_eqO {a b : O} (ha : a.toD.okE 9 = true) (hb : b.toD.okE 9 = true) : eqO a b = some (.val (.bl (a.toD.eqv b.toD))) := by unfold eqO; simp [ha, hb]
theorem e_neO {a b : O} (ha : a.toD.okE 9 = true) (hb : b.toD.okE 9 = true) : neO a b = some (.val (.bl (!a.toD.eqv b.toD))) := by unfold neO; simp [ha, hb]
@[simp] theorem eqO_int (i j : Int) : eqO (.val (.int i)) (.val (.int j)) = some (.val (.bl (decide (i = j)))) := by rw [e_eqO (by simp) (by simp)]; simp
@[simp] theorem neO_int (i j : Int) : neO (.val (.int i)) (.val (.int j)) = some (.val (.bl (!decide (i = j)))) := by rw [e_neO (by simp) (by simp)]; simp
theorem cut_to {α : Type} (xs : List α) (n : Nat) : cutL xs none (some (n : Int)) = xs.take n := by
  unfold cutL
  rw [HT.sIx_none, HT.sIx_nat]
  simp [List.take_eq_take_iff]
theorem cut_from {α : Type} (xs : List α) (n : Nat) : cutL xs (some (n : Int)) none = xs.drop n := by
  unfold cutL
  rw [HT.sIx_none, HT.sIx_nat]
  rw [List.take_of_length_le (by simp)]
  by_cases h : n ≤ xs.length
  · rw [Nat.min_eq_left h]
  · rw [Nat.min_eq_right (by omega), List.drop_length, List.drop_of_length_le (by omega)]
@[simp] theorem slO_val_lst (ds : List D) (lo hi : Option Int) : slO (.val (.lst ds)) lo hi = some (.val (.lst (cutL ds lo hi))) := (rfl)
@[simp] theorem slO_val_tup (ds : List D) (lo hi : Option Int) : slO (.val (.tup ds)) lo hi = some (.val (.tup (cutL ds lo hi))) := (rfl)
@[simp] theorem slO_val_scr (ns : List Int) (lo hi : Option Int) : slO (.val (.scr ns)) lo hi = some (.val (.lst ((cutL ns lo hi).map D.int))) := (rfl)
@[simp] theorem ixO_lst (os : List O) (i : Int) : ixO (.lst os) (.val (.int i)) = atI os i := (rfl)
@[simp] theorem ixO_vlst (ds : List D) (i : Int) : ixO (.val (.lst ds)) (.val (.int i)) = (atI ds i).map O.val := (rfl)
@[simp] theorem ixO_vtup (ds : List D) (i : Int) : ixO (.val (.tup ds)) (.val (.int i)) = (atI ds i).map O.val := (rfl)
@[simp] theorem atI_0 {α : Type} (x : α) (xs : List α) : atI (x :: xs) 0 = some x := by unfold atI ixN; simp
theorem atN {α : Type} (xs : List α) (i : Nat) : atI xs (i : Int) = xs[i]? := by
  unfold atI ixN
  by_cases h : i < xs.length
  · simp [h]
  · simp [h]
@[simp] theorem atI_1 {α : Type} (x y : α) (xs : List α) : atI (x :: y :: xs) 1 = some y := by rw [show (1 : Int) = ((1 : Nat) : Int) from rfl, atN]; rfl
@[simp] theorem atI_2 {α : Type} (x y z : α) (xs : List α) : atI (x :: y :: z :: xs) 2 = some z := by rw [show (2 : Int) = ((2 : Nat) : Int) from rfl, atN]; rfl
theorem atI_last {α : Type} (xs : List α) (x : α) : atI (xs ++ [x]) (-1) = some x := by
  unfold atI ixN
  rw [if_neg (by omega), if_pos (by simp; omega)]
  have e : ((-1 : Int) + ((xs ++ [x]).length : Nat)).toNat = xs.length := by simp; omega
  show (xs ++ [x])[((-1 : Int) + ((xs ++ [x]).length : Nat)).toNat]? = some x
  rw [e]
  simp
@[simp] theorem setItO_lst (os : List O) (i : Nat) (u : O) (h : i < os.length) : setItO (.lst os) (.val (.int (i : Int))) u = some (.lst (os.set i u)) := by
  unfold setItO ixN
  simp [h]
@[simp] theorem setItO_0 (a : O) (os : List O) (u : O) : setItO (.lst (a :: os)) (.val (.int 0)) u = some (.lst (u :: os)) := setItO_lst (a :: os) 0 u (by simp)
@[simp] theorem setItO_1 (a b : O) (os : List O) (u : O) : setItO (.lst (a :: b :: os)) (.val (.int 1)) u = some (.lst (a :: u :: os)) := setItO_lst (a :: b :: os) 1 u (by simp)
@[simp] theorem setItO_2 (a b c : O) (os : List O) (u : O) : setItO (.lst (a :: b :: c :: os)) (.val (.int 2)) u = some (.lst (a :: b :: u :: os)) := setItO_lst (a :: b :: c :: os) 2 u (by simp)
def coK2 (own : List Nat) (ρ1 : Env) : Res (List O) → Res O
  | .ok os ρ2 => .ok (.lst os) (backE (wipeE ρ2 own) ρ1 own)
  | .exc x ρ => .exc x ρ
  | .no => .no
def coK (own : List Nat) (a : D → Env → Option Env) (t : M Bool) (e : M O) : Res (List D) → Res O
  | .ok ds ρ1 => if ds.length ≤ 1000000 then coK2 own ρ1 (compL own a t e ds (wipeE ρ1 own)) else .no
  | .exc x ρ => .exc x ρ
  | .no => .no
variable {ρ : Env}
@[simp] theorem e_mComp (it : M (List D)) (own : List Nat) (a : D → Env → Option Env) (t : M Bool) (e : M O) : mComp it own a t e ρ = coK own a t e (it ρ) := by
  unfold mComp coK
  cases it ρ with
  | ok ds ρ1 =>
    show (if ds.length ≤ 1000000 then (compL own a t e ds (wipeE ρ1 own)).bind _ else Res.no) = if ds.length ≤ 1000000 then coK2 own ρ1 (compL own a t e ds (wipeE ρ1 own)) else Res.no
    unfold coK2
    cases compL own a t e ds (wipeE ρ1 own) <;> rfl
  | exc _ _ => rfl
  | no => rfl
@[simp] theorem e_coK (own : List Nat) (a : D → Env → Option Env) (t : M Bool) (e : M O) (ds : List D) (h : ds.length ≤ 1000000) : coK own a t e (.ok ds ρ) = coK2 own ρ (compL own a t e ds (wipeE ρ own)) := by unfold coK; simp [h]
@[simp] theorem e_coK2 (own : List Nat) (os : List O) (ρ1 : Env) : coK2 own ρ1 (.ok os ρ) = .ok (.lst os) (backE (wipeE ρ own) ρ1 own) := (rfl)
@[simp] theorem e_wipe0 : wipeE ρ [] = ρ := (rfl)
@[simp] theorem e_wipe1 (v : Nat) (vs : List Nat) : wipeE ρ (v :: vs) = (wipeE ρ vs).set v none := (rfl)
def bkK (v : Nat) (ρ : Env) : Option (Option O) → Env
  | some (some o) => ρ.set v (some o)
  | _ => ρ
@[simp] theorem e_back0 (ρ2 : Env) : backE ρ2 ρ [] = ρ2 := (rfl)
@[simp] theorem e_back1 (ρ2 : Env) (v : Nat) (vs : List Nat) : backE ρ2 ρ (v :: vs) = bkK v (backE ρ2 ρ vs) ((wipeE ρ vs)[v]?) := by
  show (match (wipeE ρ vs)[v]? with | some (some o) => (backE ρ2 ρ vs).set v (some o) | _ => backE ρ2 ρ vs) = _
  unfold bkK; rfl
@[simp] theorem e_bkKs (v : Nat) (o : O) : bkK v ρ (some (some o)) = ρ.set v (some o) := (rfl)
@[simp] theorem e_bkKn (v : Nat) : bkK v ρ (some none) = ρ := (rfl)
@[simp] theorem e_bkKx (v : Nat) : bkK v ρ none = ρ := (rfl)
theorem bkK_eta (v : Nat) (c : Option O) (ρ : Env) (h : ρ[v]? = some none) : bkK v ρ (some c) = ρ.set v c := by
  cases c with
  | some o => rfl
  | none =>
    show ρ = _
    apply List.ext_getElem?
    intro j
    by_cases hj : v = j
    · subst hj
      have hl : v < ρ.length := (List.getElem?_eq_some_iff.mp h).1
      rw [h]; simp [hl]
    · rw [List.getElem?_set_ne hj]
theorem compL_of {α : Type} {own : List Nat} {a : D → Env → Option Env} {t : M Bool} {e : M O} (f : α → D) (c : α → Bool) (g : α → O) : ∀ {xs : List α},
    (∀ x ∈ xs, ∃ ρ1 ρ2, a (f x) ρ = some ρ1 ∧ t ρ1 = .ok (c x) ρ2 ∧ (c x = false → wipeE ρ2 own = ρ) ∧ (c x = true → ∃ ρ3, e ρ2 = .ok (g x) ρ3 ∧ wipeE ρ3 own = ρ)) → compL own a t e (xs.map f) ρ = .ok ((xs.filter c).map g) ρ
  | [], _ => rfl
  | d :: ds, h => by
    obtain ⟨ρ1, ρ2, e1, e2, h1, h2⟩ := h d (List.mem_cons_self ..)
    have ih := compL_of (own := own) (a := a) (t := t) (e := e) f c g (xs := ds) fun d hd => h d (List.mem_cons_of_mem _ hd)
    rw [List.map_cons]
    unfold compL
    rw [e1]
    simp only [e2, Res.bind_ok]
    cases hc : c d with
    | true =>
      obtain ⟨ρ3, e3, h3⟩ := h2 hc
      simp [e3, h3, ih, hc]
    | false => simp [h1 hc, ih, hc]
theorem compL_all {α : Type} {own : List Nat} {a : D → Env → Option Env} {t : M Bool} {e : M O} (f : α → D) (g : α → O) {xs : List α}
    (h : ∀ x ∈ xs, ∃ ρ1 ρ2 ρ3, a (f x) ρ = some ρ1 ∧ t ρ1 = .ok true ρ2 ∧ e ρ2 = .ok (g x) ρ3 ∧ wipeE ρ3 own = ρ) : compL own a t e (xs.map f) ρ = .ok (xs.map g) ρ := by
  have q := compL_of (own := own) (a := a) (t := t) (e := e) (ρ := ρ) f (fun _ => true) g (xs := xs) fun x hx => by
    obtain ⟨ρ1, ρ2, ρ3, e1, e2, e3, e4⟩ := h x hx
    refine ⟨ρ1, ρ2, e1, e2, ?_, fun _ => ⟨ρ3, e3, e4⟩⟩
    intro z
    exact absurd z (by simp)
  rw [q, List.filter_eq_self.mpr fun _ _ => rfl]
@[simp] theorem lenO_lst (os : List O) : lenO (.lst os) = some (.val (.int os.length)) := by first | rfl | (unfold lenO; simp)
@[simp] theorem lenO_vlst (os : List D) : lenO (.val (.lst os)) = some (.val (.int os.length)) := by first | rfl | (unfold lenO; simp)
@[simp] theorem lenO_vtup (os : List D) : lenO (.val (.tup os)) = some (.val (.int os.length)) := by first | rfl | (unfold lenO; simp)
@[simp] theorem lenO_scr (os : List Int) : lenO (.val (.scr os)) = some (.val (.int os.length)) := by first | rfl | (unfold lenO; simp)
@[simp] theorem addD_lst (xs ys : List D) (h : xs.length + ys.length ≤ 1000000) : addD (.lst xs) (.lst ys) = some (.lst (xs ++ ys)) := by unfold addD; simp [h]
@[simp] theorem lift2_lst (f : D → D → Option D) (xs : List D) (y : D) : lift2 f (.lst (xs.map O.val)) (.val y) = (f (.lst xs) y).map O.val := by unfold lift2; simp
@[simp] theorem tupO_lst (ds : List D) : tupO (.lst (ds.map O.val)) = some (.val (.tup ds)) := by unfold tupO; simp
@[simp] theorem tupO_vlst (ds : List D) : tupO (.val (.lst ds)) = some (.val (.tup ds)) := by unfold tupO; simp
theorem small_nat {n : Nat} (h : n ≤ 1000000) : small (n : Int) = true := by unfold small; simp; omega
@[simp] theorem isNO_int (i : Int) : isNO (.val (.int i)) (.val .non) = some (.val (.bl false)) := by rfl
@[simp] theorem isNO_non : isNO (.val .non) (.val .non) = some (.val (.bl true)) := by rfl
@[simp] theorem lints_lst (ns : List Int) : (D.lst (ns.map D.int)).lints? = some ns := by unfold D.lints?; simp [ints?_map]
/-- an owned list of shared things -/
def vO (ds : List D) : O := .lst (ds.map O.val)
@[simp] theorem vO_sh (ds : List D) : (vO ds).sh = some (.lst ds) := O.sh_lst ds
@[simp] theorem vO_toD (ds : List D) : (vO ds).toD = .lst ds := by show D.lst (O.toDs _) = _; rw [toDs_vals]
@[simp] theorem vO_apA (i : Nat) (m : M O) (ds : List D) : apA i m ρ (some (some (vO ds))) = apB i (m ρ) := (rfl)
@[simp] theorem vO_apC (i : Nat) (d : D) (ds : List D) (h : ds.length < 1000000) : apC i (.val d) ρ (some (some (vO ds))) = .ok (.val .non) (ρ.set i (some (vO (ds ++ [d])))) := by
  unfold vO; rw [e_apC _ _ _ (by simpa using h)]; simp
@[simp] theorem vO_len (ds : List D) : lenO (vO ds) = some (.val (.int ds.length)) := by unfold vO; simp
@[simp] theorem vO_ix (ds : List D) (i : Int) : ixO (vO ds) (.val (.int i)) = (atI ds i).map O.val := by
  unfold vO; rw [ixO_lst]; unfold atI; simp; rfl
@[simp] theorem vO_lift2 (f : D → D → Option D) (ds : List D) (y : D) : lift2 f (vO ds) (.val y) = (f (.lst ds) y).map O.val := lift2_lst f ds y
@[simp] theorem vO_sl (ds : List D) (lo hi : Option Int) : slO (vO ds) lo hi = some (.val (.lst (cutL ds lo hi))) := by unfold slO; simp
@[simp] theorem vO_tup (ds : List D) : tupO (vO ds) = some (.val (.tup ds)) := tupO_lst ds
theorem vO_set (ds : List D) (i : Nat) (d : D) (h : i < ds.length) : setItO (vO ds) (.val (.int (i : Int))) (.val d) = some (vO (ds.set i d)) := by
  unfold vO; rw [setItO_lst _ _ _ (by simpa using h)]; simp
end FB

/-! Constants of the module; a new dict. -/
namespace FB
open PySem PySem.Spec L2
open PyProof.Rows hiding St

section
variable {X : Cx} {K : PySem.W.Frag} {mg : Str → Option Value}
def mDict0 : M O := fun ρ => .ok (.dct [] []) ρ
theorem se_dict0 {pos : Pos} : SE X (.Dict [] [] pos) mDict0 := PE.imp pe_dnewK fun σ H Q w => by
  obtain ⟨ρ, T, o, ρ', c, R, e, k⟩ := w
  cases e
  intro p hp
  exact k _ _ c (Rep.closeD (kvs := []) (R.new hp) rfl ⟨rfl, List.nodup_nil⟩)
/-! a new list of its own, by list(..) -/
def UnW (K : PySem.W.Frag) (mg : Str → Option Value) (r : V → Hp → VK → Prop) (f : O → Option (List D)) : Prop :=
  ∀ (H : Hp) (L : List Item) (B : List (V × O)) (x : V) (ox : O) (ds : List D) (Q : VK), Rep K mg H L B → (x, ox) ∈ B → f ox = some ds → (∀ v H', Rep K mg H' (.ov v (.lst (ds.map O.val)) :: L) [] → Q v H') → r x H Q
def listW (a : O) : Option (List D) := match a.sh with
  | some (.lst ds) => some ds
  | some (.tup ds) => some ds
  | some (.scr ns) => some (ns.map D.int)
  | _ => none
theorem unw_list : UnW K mg (fun x H Q => ∃ p ys, [x] = [.ref p] ∧ (SqL K H p ys ∨ SqT K H p ys) ∧ ∀ l, H l = none → Q (.ref l) (upd H l (.lst ys))) listW := by
  intro H L B x ox ds Q R hx e k
  unfold listW at e
  split at e
  · rename_i ds e1
    cases e
    obtain ⟨p, vs, rfl, hp, lp, R1⟩ := R.shL hx e1
    exact ⟨p, vs, rfl, .inl (.inl hp), fun q hq => k _ _ (R1.nob.newL lp hq)⟩
  · rename_i ds e1
    cases e
    obtain ⟨p, vs, rfl, hp, lp, R1⟩ := R.shT hx e1
    exact ⟨p, vs, rfl, .inr hp, fun q hq => k _ _ (R1.nob.newL lp hq)⟩
  · rename_i ns e1
    cases e
    have q : Vw K mg H x (.scr ns) := R.sh hx e1
    cases q with
    | scr h => exact ⟨_, _, rfl, .inl h, fun q hq => k _ _ ((R.ints ns).nob.newL (by simp) hq)⟩
  · cases e
def mW (op : O → Option (List D)) (f : Pf) : M O := fun ρ => match (f ρ).bind op with
  | some ds => .ok (.lst (ds.map O.val)) ρ
  | none => .no
theorem tUn_w {r : V → Hp → VK → Prop} {op : O → Option (List D)} {f : Pf} (h : UnW K mg r op) (σ : L2.St) (H : Hp) (Q : VK) (q : tM K mg (mW op f) σ H Q) : tUn r (tP K mg f) σ H Q := by
  obtain ⟨ρ, T, o, ρ', c, R, e, k⟩ := q
  unfold mW at e
  cases e1 : f ρ with
  | none => rw [e1] at e; cases e
  | some a =>
    rw [e1] at e
    have e : (match op a with | some ds => Res.ok (O.lst (ds.map O.val)) ρ | none => .no) = .ok o ρ' := e
    cases e2 : op a with
    | none => rw [e2] at e; cases e
    | some ds =>
      rw [e2] at e
      cases e
      exact ⟨ρ, T, [], a, c, R, e1, fun x H1 s1 R1 => h H1 _ _ x a ds Q R1 (List.mem_cons_self ..) e2 fun v H' R' => k v H' c R'⟩
theorem se_tw {T : String} {x : Str} {a : Expr} {p pos : Pos} {f : Pf} {r : List V → Hp → VK → Prop} {op : O → Option (List D)} (hc : CallR X (.type T) r) (h : UnW X.K X.mg (fun x H Q => r [x] H Q) op) (hg : Gl X x) (hm : X.mg x = none) (hv : bootBuiltins x = some (.type T)) (ha : SP X a f)
    (hn : x ≠ "__name__" := by decide) (hdb : (x == ("__debug__" : Str)) = false := by decide) (hst : starEach (a :: []) X.env = (false, eval a X.env) :: starEach [] X.env := by rfl) (hpl : (backTo pos (starEach [] X.env)).any (·.1) = false := by rfl) :
    SE X (.Call (.Name x p) [a] [] pos) (mW op f) := PE.imp (pe_callTy hc hg hm hv (pa_cons ha pa_nil hst) hn hdb hst hpl) (tUn_w h)
@[simp] theorem e_mDict0 {ρ : Env} : mDict0 ρ = .ok (.dct [] []) ρ := (rfl)
end
end FB
namespace FB
open PySem PySem.Spec L2
variable {ρ : Env}
@[simp] theorem intO_bl (b : Bool) : intO (.val (.bl b)) = some (.val (.int (if b = true then 1 else 0))) := by cases b <;> rfl
@[simp] theorem intO_int (i : Int) : intO (.val (.int i)) = some (.val (.int i)) := (rfl)
@[simp] theorem eqv_bl (a b : Bool) : D.eqv (.bl a) (.bl b) = (a == b) := by cases a <;> cases b <;> (unfold D.eqv D.pd; simp [PyData.eqv])
@[simp] theorem eqO_bl (a b : Bool) : eqO (.val (.bl a)) (.val (.bl b)) = some (.val (.bl (a == b))) := by rw [e_eqO (by simp) (by simp)]; simp
theorem forL_find {α γ : Type} {a : D → Env → Option Env} {b : M Fl} {o : O} (E : γ → Env) (f : α → D) (p : α → Bool) : ∀ {xs : List α} (c : γ),
    (∀ x ∈ xs, ∀ c, ∃ ρ1, a (f x) (E c) = some ρ1 ∧ ((p x = true ∧ ∃ c', b ρ1 = .ok .nx (E c')) ∨ (p x = false ∧ ∃ ρ2, b ρ1 = .ok (.ret o) ρ2))) →
    (xs.all p = true ∧ ∃ c', forL a b (xs.map f) (E c) = .ok .nx (E c')) ∨ (xs.all p = false ∧ ∃ ρ2, forL a b (xs.map f) (E c) = .ok (.ret o) ρ2)
  | [], c, _ => .inl ⟨rfl, c, rfl⟩
  | x :: xs, c, h => by
    obtain ⟨ρ1, e1, q⟩ := h x (List.mem_cons_self ..) c
    rw [List.map_cons]
    unfold forL
    rw [e1]
    rcases q with ⟨hp, c', e2⟩ | ⟨hp, ρ2, e2⟩
    · simp only [e2, Res.bind_ok, List.all_cons, hp, Bool.true_and]
      exact forL_find E f p c' fun y hy => h y (List.mem_cons_of_mem _ hy)
    · simp only [e2, Res.bind_ok, List.all_cons, hp, Bool.false_and]
      exact .inr ⟨trivial, ρ2, rfl⟩
def wK (op : O → Option (List D)) (ρ : Env) : Option O → Res O
  | some a => match op a with
    | some ds => .ok (vO ds) ρ
    | none => .no
  | none => .no
def wK2 (ρ : Env) : Option (List D) → Res O
  | some ds => .ok (vO ds) ρ
  | none => .no
@[simp] theorem e_mW (op : O → Option (List D)) (f : Pf) : mW op f ρ = wK op ρ (f ρ) := by
  unfold mW wK
  cases f ρ with
  | none => rfl
  | some a => rfl
@[simp] theorem e_wK (op : O → Option (List D)) (a : O) : wK op ρ (some a) = wK2 ρ (op a) := (rfl)
@[simp] theorem e_wK2 (ds : List D) : wK2 ρ (some ds) = .ok (vO ds) ρ := (rfl)
@[simp] theorem listW_lst (ds : List D) : listW (.val (.lst ds)) = some ds := (rfl)
@[simp] theorem listW_tup (ds : List D) : listW (.val (.tup ds)) = some ds := (rfl)
@[simp] theorem listW_scr (ns : List Int) : listW (.val (.scr ns)) = some (ns.map D.int) := (rfl)
@[simp] theorem listW_vO (ds : List D) : listW (vO ds) = some ds := by unfold listW; simp
end FB

/-! Objects: attributes read and stored, methods, making. -/
namespace FB
open PySem PySem.Spec L2
open PyProof.Rows hiding St

section
variable {X : Cx} {K : PySem.W.Frag} {mg : Str → Option Value}
theorem CO.eq {c : Str} {C C' : Addr} {fs : List Str} (co : CO K mg c C fs) (h : mg c = some (.ref C')) : C' = C := by
  have := co.mgc.symm.trans h
  injection this with this
  injection this with this
  exact this.symm
def fidx : List Str → Str → Option Nat
  | [], _ => none
  | g :: gs, f => if g = f then some 0 else (fidx gs f).map (· + 1)
theorem fidx_look : ∀ {fs : List (Str × V)} {f : Str} {j : Nat}, fidx (fs.map (·.1)) f = some j → ∃ v, fs.lookup f = some v ∧ (fs.map (·.2))[j]? = some v
  | [], f, j, h => by cases h
  | (g, v) :: fs, f, j, h => by
    have h : (if g = f then some 0 else (fidx (fs.map (·.1)) f).map (· + 1)) = some j := h
    by_cases e : g = f
    · rw [if_pos e] at h
      cases h
      subst e
      exact ⟨v, by simp [List.lookup], rfl⟩
    · rw [if_neg e] at h
      cases q : fidx (fs.map (·.1)) f with
      | none => rw [q] at h; cases h
      | some i =>
        rw [q] at h
        cases h
        obtain ⟨w, h1, h2⟩ := fidx_look q
        refine ⟨w, ?_, by simpa using h2⟩
        have : (f == g) = false := beq_eq_false_iff_ne.mpr (Ne.symm e)
        simp [List.lookup, this, h1]
theorem fidx_none : ∀ {fs : List (Str × V)} {f : Str}, fidx (fs.map (·.1)) f = none → fs.lookup f = none
  | [], f, _ => rfl
  | (g, v) :: fs, f, h => by
    have h : (if g = f then some 0 else (fidx (fs.map (·.1)) f).map (· + 1)) = none := h
    by_cases e : g = f
    · rw [if_pos e] at h; cases h
    · rw [if_neg e] at h
      have : (f == g) = false := beq_eq_false_iff_ne.mpr (Ne.symm e)
      have h : fidx (fs.map (·.1)) f = none := by
        cases q : fidx (fs.map (·.1)) f with
        | none => rfl
        | some i => rw [q] at h; cases h
      simp [List.lookup, this, fidx_none h]
theorem VOs.sub {G H : Hp} : ∀ {vs : List V} {os : List O} {as : List Addr} {j : Nat} {v : V} {o : O}, VOs K mg G H vs os as → os[j]? = some o → vs[j]? = some v → ∃ bs, VO K mg G H v o bs ∧ ∀ a ∈ bs, a ∈ as
  | [], os, as, j, v, o, t, h1, h2 => by simp at h2
  | w :: vs, os, as, j, v, o, t, h1, h2 => by
    cases t with
    | cons t r =>
      cases j with
      | zero =>
        simp at h1 h2
        subst h1 h2
        exact ⟨_, t, fun a ha => by simp [ha]⟩
      | succ j =>
        obtain ⟨bs, q1, q2⟩ := VOs.sub r (by simpa using h1) (by simpa using h2)
        exact ⟨bs, q1, fun a ha => by simp [q2 a ha]⟩
/-! stored -/
def putFO (ns : List Str) (os : List O) (f : Str) (u : O) : List Str × List O := match fidx ns f with
  | some j => (ns, os.set j u)
  | none => (ns ++ [f], os ++ [u])
theorem putF_eq2 : ∀ (fs : List (Str × V)) (f : Str) (v : V), (fidx (fs.map (·.1)) f = none → putF f v fs = fs ++ [(f, v)]) ∧ ∀ j, fidx (fs.map (·.1)) f = some j → (putF f v fs).map (·.1) = fs.map (·.1) ∧ (putF f v fs).map (·.2) = (fs.map (·.2)).set j v
  | [], f, v => ⟨fun _ => rfl, fun j h => by cases h⟩
  | (g, w) :: fs, f, v => by
    obtain ⟨i1, i2⟩ := putF_eq2 fs f v
    have ef : fidx (((g, w) :: fs).map (·.1)) f = if g = f then some 0 else (fidx (fs.map (·.1)) f).map (· + 1) := rfl
    have ep : putF f v ((g, w) :: fs) = if g = f then (g, v) :: fs else (g, w) :: putF f v fs := rfl
    rw [ef, ep]
    by_cases e : g = f
    · rw [if_pos e, if_pos e]
      exact ⟨fun h => (by cases h), fun j h => (by cases h; exact ⟨rfl, rfl⟩)⟩
    · rw [if_neg e, if_neg e]
      cases q : fidx (fs.map (·.1)) f with
      | none => exact ⟨fun _ => (by rw [i1 q]; rfl), fun j h => (by cases h)⟩
      | some i =>
        obtain ⟨h1, h2⟩ := i2 i q
        refine ⟨fun h => (by cases h), fun j h => ?_⟩
        cases h
        exact ⟨(by rw [List.map_cons, h1]; rfl), (by rw [List.map_cons, h2]; rfl)⟩
def mSetF (i : Nat) (c f : Str) (m : M O) : M Fl := fun ρ => (m ρ).bind fun u ρ1 => match ρ1[i]? with
  | some (some (.ins c' ns os)) => if c' = c ∧ ns.length < 1000 then .ok .nx (ρ1.set i (some (.ins c (putFO ns os f u).1 (putFO ns os f u).2))) else .no
  | _ => .no
theorem ss_setF (i : Nat) {P : List Nat} {c f : Str} {C : Addr} {fs : List Str} {x : Str} {p tpos pos : Pos} {e : Expr} {m : M O} (co : CO X.K X.mg c C fs) (hf : f ∈ fs) (h : SE X e m) (hN : X.N[i]? = some x := by rfl) (hv : Vis X.env.scope x := by first | exact Or.inl rfl | exact Or.inr (Or.inl rfl) | exact Or.inr (Or.inr rfl)) (hd : (x == ("__debug__" : Str)) = false := by decide)
    (hcd : (x == ("__classdict__" : Str)) = false := by decide) (hs : swapsWith e (some (.Attribute (.Name x p) f tpos)) pos.line X.env = pure false := by rfl) : SS X P (.Assign [.Attribute (.Name x p) f tpos] e pos) (mSetF i c f m) :=
  PS.imp (ps_fld (pv i hN hv hd hcd) h hs) fun D σ H w => by
    obtain ⟨ρ, T, cv, R, h⟩ := tS_iff.mp w
    unfold mSetF at h
    cases e1 : m ρ with
    | exc z ρ1 => rw [e1] at h; exact h.elim
    | no => rw [e1] at h; exact h.elim
    | ok u ρ1 =>
      rw [e1, Res.bind_ok] at h
      refine ⟨ρ, T, u, ρ1, cv, R, e1, fun v H1 c1 R1 => ?_⟩
      split at h
      · rename_i c' ns os e2
        split at h
        · rename_i hc
          obtain ⟨rfl, hlen⟩ := hc
          obtain ⟨vx, hvx⟩ := c1.ex i _ e2
          refine ⟨vx, hvx, ?_⟩
          have R2 := Rep.slot (M := [.ov v u]) hvx e2 R1
          obtain ⟨q, C', dx, fs', rfl, hm, hl, hn, R3⟩ := R2.openI
          have := co.eq hm
          subst this
          have hlf : fs'.length = ns.length := by rw [← hn]; simp
          refine ⟨q, C', dx, fs', rfl, R3.rawAt, co.cl, co.no f hf, by omega, ?_⟩
          refine h σ _ (Fix.refl _ _) (c1.put hvx _) ?_
          refine Rep.unslot (M := []) hvx e2 ?_
          have R4 := R3.write (o' := .ins C' dx (putF f v fs'))
          obtain ⟨f1, f2⟩ := putF_eq2 fs' f v
          have hlo : (fs'.map (·.2)).length = os.length := by simpa using hl
          generalize hL : pairs σ (ρ1.set i none) ++ T = L at R4 ⊢
          have R4 : Rep X.K X.mg _ (.raw q (.ins C' dx (putF f v fs')) :: (zipI (fs'.map (·.2)) os ++ .ov v u :: L)) [] := R4
          show Rep X.K X.mg _ (.ov (.ref q) (.ins c' (putFO ns os f u).1 (putFO ns os f u).2) :: L) []
          unfold putFO
          cases ej : fidx ns f with
          | none =>
            rw [← hn] at ej
            have e5 := f1 ej
            refine Rep.closeI (dx := dx) (C := C') (fs := putF f v fs') ?_ (by rw [e5]; simp [hl]) hm (by rw [e5]; simp [hn])
            rw [e5] at R4 ⊢
            have ez : zipI ((fs' ++ [(f, v)]).map (·.2)) (os ++ [u]) = zipI (fs'.map (·.2)) os ++ [.ov v u] := by
              unfold zipI
              rw [List.map_append, List.zipWith_append hlo]; rfl
            rw [ez, List.append_assoc]
            exact R4
          | some j =>
            rw [← hn] at ej
            obtain ⟨e5, e6⟩ := f2 j ej
            have hj : j < os.length := by
              obtain ⟨w, _, l2⟩ := fidx_look ej
              have := (List.getElem?_eq_some_iff.mp l2).1
              simp at this
              omega
            have hpl : (putF f v fs').length = fs'.length := by
              have := congrArg List.length e5
              simpa using this
            refine Rep.closeI (dx := dx) (C := C') (fs := putF f v fs') ?_ (by rw [hpl]; simp [hl]) hm (by rw [e5, hn])
            obtain ⟨A, Cc, w, z1, z2⟩ := zip_set (v := v) (u := u) hlo hj
            rw [e6, z2]
            rw [z1] at R4
            have p1 : (.raw q (.ins C' dx (putF f v fs')) :: ((A ++ w :: Cc) ++ .ov v u :: L) : List Item).Perm (w :: (.raw q (.ins C' dx (putF f v fs')) :: ((A ++ .ov v u :: Cc) ++ L))) := by
              refine (fun h0 => (List.Perm.cons _ h0).trans (.swap _ _ _) : ((A ++ w :: Cc) ++ .ov v u :: L).Perm (w :: ((A ++ .ov v u :: Cc) ++ L)) → _) ?_
              rw [List.append_assoc]
              refine List.perm_middle.trans (List.Perm.cons _ ?_)
              show (A ++ (Cc ++ .ov v u :: L)).Perm _
              rw [← List.append_assoc]
              refine List.perm_middle.trans ?_
              rw [List.append_assoc, List.append_assoc]
              exact List.perm_middle.symm
            exact (R4.perm p1).drop
        · exact h.elim
      · exact h.elim
end
end FB

/-! Methods called, objects made. -/
namespace FB
open PySem PySem.Spec L2
open PyProof.Rows hiding St

section
variable {P : Program} {w : World} {K : PySem.W.Frag} {mg : Str → Option Value} {base : Heap}
theorem met_sem {m qual : Str} {C : Addr} {st : Stmt} {f : Addr} {fd : FuncData} {N ps : List Str} {k n l : Nat} {Pr : List Nat} {b : M Fl} (c : Cls K C) (me : Meth K C m f) (F : C8.Fun K m qual st f fd) (bi : Binds K fd ps []) (S : FnScope N ps (C8.fnScope st)) (hn : ps.length = n := by rfl) (hm : N.length = l := by rfl) (hnm : n ≤ l := by decide)
    (hb : ∀ (cdv : Value) (A : Around) (outer : List PySem.Env) (s : Shared) (H : Hp) (E : XK), Room k (A.deeper (envOfC qual (C8.fnScope st) s.heap.objs.size f cdv)) → SSs (cxOf C8.CX0 P w K mg base N qual (C8.fnScope st) f cdv A outer s H E).nox Pr (C8.fnBody st) b) :
    C8.Met P w K mg base (k + 1) C m (spF K mg n (runF n l Pr b)) [] :=
  C8.met0 c me F bi S (fun vs H Q E h => by rw [hn]; exact sp_len vs H Q E h) fun cdv A outer s H vs Q E hr h => body_sem (X := (cxOf C8.CX0 P w K mg base N qual (C8.fnScope st) f cdv A outer s H E).nox) (E := E) hm hnm (hb cdv A outer s H E hr) h
theorem mak_sem {x qual : Str} {C : Addr} {st : Stmt} {f : Addr} {fd : FuncData} {N ps : List Str} {k n l : Nat} {Pr : List Nat} {b : M Fl} (M : Mk K C f) (hx : mg x = some (.ref C)) (F : C8.Fun K "__init__" qual st f fd) (bi : Binds K fd ps []) (S : FnScope N ps (C8.fnScope st)) (hn : ps.length = n := by rfl) (hm : N.length = l := by rfl) (hnm : n ≤ l := by decide)
    (hb : ∀ (cdv : Value) (A : Around) (outer : List PySem.Env) (s : Shared) (H : Hp) (E : XK), Room k (A.deeper (envOfC qual (C8.fnScope st) s.heap.objs.size f cdv)) → SSs (cxOf C8.CX0 P w K mg base N qual (C8.fnScope st) f cdv A outer s H E).nox Pr (C8.fnBody st) b) :
    C8.Mak P w K mg base (k + 1) x C (spF K mg n (runF n l Pr b)) [] :=
  C8.mak0 M hx F bi .nil S (fun vs H Q E h => by rw [hn]; exact sp_len vs H Q E h) fun cdv A outer s H vs Q E hr h => body_sem (X := (cxOf C8.CX0 P w K mg base N qual (C8.fnScope st) f cdv A outer s H E).nox) (E := E) hm hnm (hb cdv A outer s H E hr) h
end

section
variable {X : Cx} {K : PySem.W.Frag} {mg : Str → Option Value}
theorem ioLen {σ : L2.St} : ∀ {as : List Arg} {vs : List V}, IoOk as σ vs → vs.length = as.length
  | [], [], _ => rfl
  | [], _ :: _, io => io.elim
  | .v _ :: as, [], io => io.elim
  | .io _ :: as, [], io => io.elim
  | .v _ :: as, v :: vs, io => by simp [ioLen (as := as) (vs := vs) io]
  | .io _ :: as, v :: vs, io => by simp [ioLen (as := as) (vs := vs) io.2]
/-! o.m(..), o a name -/
/-! C(..) -/
def mMake (c : Str) (F : FSem) (as : List Arg) : M O := fun ρ => (evA as ρ).bind fun os ρ1 => match takeA as os ρ1 with
  | none => .no
  | some r => match F (.ins c [] [] :: r.1) with
    | some (.val .non, some o :: ρc) => .ok o (giveA as ρc r.2)
    | _ => .no
theorem se_make {n k j : Nat} {c : Str} {C : Addr} {fs : List Str} {F : FSem} {p pos : Pos} {e : Expr} {es : List Expr} {as : List Arg} (co : CO X.K X.mg c C fs) (cl : C8.Mak X.prog X.w X.K X.mg X.base k c C (spF X.K X.mg n F) []) (hr : Room j X.A) (hk : k + 1 ≤ j) (hg : Gl X c) (ha : SAs X (e :: es) as) (hn : as.length + 1 = n := by rfl)
    (hdb : (c == ("__debug__" : Str)) = false := by decide) (he : starEach (e :: es) X.env = (false, eval e X.env) :: starEach es X.env := by rfl) (hpl : (backTo pos (starEach es X.env)).any (·.1) = false := by rfl) :
    SE X (.Call (.Name c p) (e :: es) [] pos) (mMake c F as) := PE.imp (C8.pe_mk cl hr hk hg ha hdb he hpl) fun σ H Q w => by
  obtain ⟨ρ, T, o, ρ', cv, R, e, k⟩ := w
  unfold mMake at e
  obtain ⟨os1, ρ1, e1, e⟩ := Res.bind_eq e
  split at e
  · cases e
  · rename_i r e3
    split at e
    · rename_i o' ρc e4
      cases e
      refine ⟨ρ, T, os1, ρ1, cv, R, e1, fun vs H1 c1 hl1 io R1 => ?_⟩
      obtain ⟨c2, hl2, R3⟩ := take_ok c1 io e3 R1
      intro x dx hx hdx hne
      have hvl := ioLen io
      rw [List.append_nil]
      have hx' : upd H1 dx (.own x) x = none := by rw [upd_ne hne.symm]; exact hx
      have R4 := (R3.grow (sameNew (o := .own x) hdx)).new (o := .ins C dx []) hx'
      have R5 : Rep X.K X.mg _ (.ov (.ref x) (.ins c [] []) :: (zipI vs r.1 ++ (pairs σ r.2 ++ T))) [] := Rep.closeI (C := C) (dx := dx) (fs := []) R4 rfl co.mgc rfl
      refine ⟨.ins c [] [] :: r.1, pairs σ r.2 ++ T, .val .non, some o :: ρc, by simp [hvl, ← hn], by simp [← hl2, hvl, ← hn], R5, e4, fun u H2 R6 => ⟨?_, ?_⟩⟩
      · have q := R6.lend.view (List.mem_cons_self ..)
        cases q
        rfl
      · have R7 := R6.drop
        rw [List.map_cons, pairs_ss] at R7
        obtain ⟨c3, R8⟩ := give_ok (as := as) (vs := vs) (M := [.ov (.ref x) o]) c2 io R7
        exact k _ H2 c3 R8
    · cases e
end
end FB

/-! self.f[k] = e; self.f[k] += e. -/
namespace FB
open PySem PySem.Spec L2
open PyProof.Rows hiding St

section
variable {X : Cx} {K : PySem.W.Frag} {mg : Str → Option Value}
theorem pget_list : PGet X (rIxL X.K) := by
  intro pins s σ H x y v u Q I rx ry h
  obtain ⟨p, xs, i, z, rfl, rfl, hq, he, q⟩ := h
  cases rx
  obtain ⟨t, rfl⟩ := ry
  obtain ⟨its, r, pl, hz⟩ := I.list hq
  obtain ⟨j, h1, h2, h3, h4, h5⟩ := atI_get he
  obtain ⟨w, ew, rw'⟩ := r.get h2
  have hl := r.length
  have hn := line63
  have fin : EP X pins σ Q w s := ⟨z, H, I, rw', q⟩
  by_cases h0 : 0 ≤ i
  · have hj : i.toNat = j := by
      rw [seqIndex_of h0 h5] at h1
      exact Option.some.inj h1
    exact wpAny_getItem_list pl.isList h0 (by omega) (by rw [hj]; simpa using ew) fin
  · have hj : (i + (its.toArray.size : Int)).toNat = j := by
      rw [seqIndex_neg (by omega) h4] at h1
      rw [List.size_toArray, ← hl]
      exact Option.some.inj h1
    exact wpAny_getItem_list_neg pl.isList (by omega) (by rw [List.size_toArray] <;> omega) (by omega) (by rw [hj]; simpa using ew) fin
def ixL (a b : O) : Option O := match a, b with
  | .lst os, .val (.int i) => atI os i
  | _, _ => none
theorem opv_ixL : OpV K mg (rIxL K) ixL := by
  intro H L B x y ox oy o Q R hx hy e k
  unfold ixL at e
  split at e
  · rename_i os i
    have ey : y = .int i := R.shInt hy rfl
    obtain ⟨A, nd, ok, hb⟩ := id R
    obtain ⟨as, h1, h2⟩ := hb _ hx
    cases h1 with
    | lst h1 hs =>
      obtain ⟨j, v, e1, e2, e3⟩ := atI_len hs.length e
      refine ⟨_, _, i, v, rfl, ey, SqL.of h1, e3, k v H (Same.refl _) ⟨A, nd, ok, fun b q => ?_⟩⟩
      rcases List.mem_cons.mp q with q | q
      · subst q
        obtain ⟨bs, q1, q2⟩ := VOs.sub hs e1 e2
        exact ⟨bs, q1, fun a ha => h2 a (by simp [q2 a ha])⟩
      · exact hb b q
  · cases e
end
end FB

/-! Rules for simp: objects. -/
namespace FB
open PySem PySem.Spec L2
open PyProof.Rows hiding St
variable {ρ : Env}
def mkC (as : List Arg) (ρ : Env) : Option (O × Env) → Res O
  | some (.val .non, some o :: ρc) => .ok o (giveA as ρc ρ)
  | _ => .no
def mkB (c : Str) (F : FSem) (as : List Arg) : Option (List O × Env) → Res O
  | some r => mkC as r.2 (F (.ins c [] [] :: r.1))
  | none => .no
def mkA (c : Str) (F : FSem) (as : List Arg) : Res (List (Option O)) → Res O
  | .ok os ρ => mkB c F as (takeA as os ρ)
  | .exc x ρ => .exc x ρ
  | .no => .no
@[simp] theorem e_mMake (c : Str) (F : FSem) (as : List Arg) : mMake c F as ρ = mkA c F as (evA as ρ) := by
  unfold mMake mkA
  cases evA as ρ with
  | ok os ρ1 =>
    show (match takeA as os ρ1 with
      | none => Res.no
      | some r => match F (.ins c [] [] :: r.1) with
        | some (.val .non, some o :: ρc) => .ok o (giveA as ρc r.2)
        | _ => .no) = mkB c F as (takeA as os ρ1)
    unfold mkB
    cases takeA as os ρ1 with
    | none => rfl
    | some r => rfl
  | exc _ _ => rfl
  | no => rfl
@[simp] theorem e_mkA (c : Str) (F : FSem) (as : List Arg) (os : List (Option O)) : mkA c F as (.ok os ρ) = mkB c F as (takeA as os ρ) := (rfl)
@[simp] theorem e_mkB (c : Str) (F : FSem) (as : List Arg) (os : List O) : mkB c F as (some (os, ρ)) = mkC as ρ (F (.ins c [] [] :: os)) := (rfl)
@[simp] theorem e_mkC (as : List Arg) (o : O) (ρc : Env) : mkC as ρ (some (.val .non, some o :: ρc)) = .ok o (giveA as ρc ρ) := (rfl)
def sfB (i : Nat) (c f : Str) (u : O) (ρ : Env) : Option (Option O) → Res Fl
  | some (some (.ins c' ns os)) => if c' = c ∧ ns.length < 1000 then .ok .nx (ρ.set i (some (.ins c (putFO ns os f u).1 (putFO ns os f u).2))) else .no
  | _ => .no
def sfA (i : Nat) (c f : Str) : Res O → Res Fl
  | .ok u ρ => sfB i c f u ρ (ρ[i]?)
  | .exc x ρ => .exc x ρ
  | .no => .no
@[simp] theorem e_mSetF (i : Nat) (c f : Str) (m : M O) : mSetF i c f m ρ = sfA i c f (m ρ) := by
  unfold mSetF sfA
  cases m ρ <;> rfl
@[simp] theorem e_sfA (i : Nat) (c f : Str) (u : O) : sfA i c f (.ok u ρ) = sfB i c f u ρ (ρ[i]?) := (rfl)
theorem e_sfN (i : Nat) (c f : Str) (u : O) (ns : List Str) (os : List O) (hl : ns.length < 1000) (h : fidx ns f = none) : sfB i c f u ρ (some (some (.ins c ns os))) = .ok .nx (ρ.set i (some (.ins c (ns ++ [f]) (os ++ [u])))) := by
  unfold sfB putFO; simp [hl, h]
@[simp] theorem ixL_vO (ds : List D) (i : Int) : ixL (vO ds) (.val (.int i)) = (atI ds i).map O.val := vO_ix ds i
def enK : Res O → Res (List D)
  | .ok o ρ => match o.toD with
    | .lst ds => .ok (enumL ds) ρ
    | _ => .no
  | .exc x ρ => .exc x ρ
  | .no => .no
@[simp] theorem e_mEnum (m : M O) : mEnum m ρ = enK (m ρ) := by
  unfold mEnum enK
  cases m ρ <;> rfl
@[simp] theorem e_enK (ds : List D) : enK (.ok (.val (.lst ds)) ρ) = .ok (enumL ds) ρ := (rfl)
end FB

/-! A loop over an own list that stands meanwhile; isinstance as a reading. -/
namespace FB
open PySem PySem.Spec L2
open PyProof.Rows hiding St

section
variable {X : Cx} {K : PySem.W.Frag} {mg : Str → Option Value}
theorem Fix.less {i : Nat} {P : List Nat} {σ σ' : L2.St} (h : Fix (i :: P) σ σ') : Fix P σ σ' := ⟨h.1, fun j hj => h.2 j (List.mem_cons_of_mem _ hj)⟩
/-- an argument is shared from now on -/
def mFz (m : M O) : M O := fun ρ => (m ρ).bind fun o ρ1 => .ok (.val o.toD) ρ1
theorem se_fz {e : Expr} {m : M O} (h : SE X e m) : SE X e (mFz m) := PE.imp h fun σ H Q w => by
  obtain ⟨ρ, T, o, ρ', c, R, e, k⟩ := w
  obtain ⟨a, ρ1, e1, e⟩ := Res.bind_eq e
  cases e
  exact ⟨ρ, T, a, _, c, R, e1, fun v H' c' R' => k v H' c' R'.frz⟩
end
def fzK : Res O → Res O
  | .ok o ρ => .ok (.val o.toD) ρ
  | .exc x ρ => .exc x ρ
  | .no => .no
@[simp] theorem e_mFz {ρ : Env} (m : M O) : mFz m ρ = fzK (m ρ) := by unfold mFz fzK; cases m ρ <;> rfl
@[simp] theorem e_fzK {ρ : Env} (o : O) : fzK (.ok o ρ) = .ok (.val o.toD) ρ := (rfl)
end FB

/-! zip of any two of lists and tuples. -/
namespace MZ
open PySem PySem.Sem
/-- u: a list, else a tuple -/
def CSeq (u : Bool) (h : Heap) (l : Addr) (xs : Array Value) : Prop := if u = true then h.IsList l xs else h.IsTuple l xs
def CIt (u : Bool) (h : Heap) (it l : Addr) (k : Nat) : Prop := if u = true then h.IsListIter it l k else h.IsTupleIter it l k
theorem CSeq.ext {u : Bool} {h h' : Heap} {l b : Addr} {xs : Array Value} (x : CSeq u h l xs) (q : Heap.ExtBut b h h') (n : l ≠ b) : CSeq u h' l xs := by
  cases u with
  | true => exact Heap.IsList.extBut (show h.IsList l xs from x) q n
  | false => exact Heap.IsTuple.extBut (show h.IsTuple l xs from x) q n
theorem CIt.ext {u : Bool} {h h' : Heap} {it l b : Addr} {k : Nat} (x : CIt u h it l k) (q : Heap.ExtBut b h h') (n : it ≠ b) : CIt u h' it l k := by
  cases u with
  | true => exact Heap.IsListIter.extBut (show h.IsListIter it l k from x) q n
  | false => exact Heap.IsTupleIter.extBut (show h.IsTupleIter it l k from x) q n
theorem CIt.some {u : Bool} {h : Heap} {it l : Addr} {k : Nat} (x : CIt u h it l k) : ∃ o, h.get? it = some o ∧ ∀ v, o.data ≠ .cell v := by
  cases u with
  | true =>
    obtain ⟨o, e, _, d⟩ := show h.IsListIter it l k from x
    exact ⟨o, e, fun v q => by rw [d] at q; cases q⟩
  | false =>
    obtain ⟨o, e, _, d⟩ := show h.IsTupleIter it l k from x
    exact ⟨o, e, fun v q => by rw [d] at q; cases q⟩
section
variable {prog : Program} {w : World} {A : Around} {E : Value → Shared → Prop} {s : Shared}
variable {u1 u2 : Bool} {z TI TO i j l m : Addr} {k n : Nat} {xs ys : Array Value} {x y a b : Value}
end
/-! ### it is made -/
def itObj (u : Bool) (l : Addr) : Obj := { cls := .type (if u = true then "list_iterator" else "tuple_iterator"), data := .fields #[.ref l, .int 0 0] }
abbrev m1 (u1 : Bool) (h : Heap) (l : Addr) : Heap := h.push (itObj u1 l)
abbrev m2 (u1 u2 : Bool) (h : Heap) (l m : Addr) : Heap := (m1 u1 h l).push (itObj u2 m)
abbrev m3 (u1 u2 : Bool) (h : Heap) (l m : Addr) : Heap := (m2 u1 u2 h l m).push { cls := .type "tuple", data := .seq #[.ref h.objs.size, .ref (m1 u1 h l).objs.size] }
abbrev m4 (u1 u2 : Bool) (h : Heap) (l m : Addr) : Heap := (m3 u1 u2 h l m).push { cls := .type "tuple", data := .seq #[.none, .none] }
abbrev m5 (u1 u2 : Bool) (h : Heap) (l m : Addr) : Heap := (m4 u1 u2 h l m).push { cls := .type "zip", data := .fields #[.none, .bool false, .bool false, .ref (m2 u1 u2 h l m).objs.size, .ref (m3 u1 u2 h l m).objs.size] }
theorem CSeq.push {u : Bool} {h : Heap} {l : Addr} {xs : Array Value} (q : CSeq u h l xs) (o : Obj) : CSeq u (h.push o) l xs := by
  cases u with
  | true => exact Heap.IsList.push (show h.IsList l xs from q) o
  | false => exact Heap.IsTuple.push (show h.IsTuple l xs from q) o
end MZ
namespace MZ
open PySem PySem.Spec L2
open PyProof.Rows hiding St
def SqC (K : PySem.W.Frag) (u : Bool) (H : Hp) (a : Addr) (xs : List V) : Prop := if u = true then SqL K H a xs else SqT K H a xs
theorem SqC.its {X : Cx} {pins : List (Addr × Obj)} {σ : L2.St} {H : Hp} {s : Shared} {u : Bool} {a : Addr} {xs : List V} (I : Inv X pins σ H s) (q : SqC X.K u H a xs) : ∃ its : List Value, Vals xs its ∧ CSeq u s.heap a its.toArray ∧ a < s.heap.objs.size := by
  cases u with
  | true =>
    obtain ⟨its, r, p, _⟩ := I.list (show SqL X.K H a xs from q)
    exact ⟨its, r, p.isList, p.lt⟩
  | false =>
    obtain ⟨its, r, p, _⟩ := I.tuple (show SqT X.K H a xs from q)
    obtain ⟨o, e, _⟩ := id p
    exact ⟨its, r, show s.heap.IsTuple a its.toArray from p, Heap.lt_size e⟩
theorem SqC.inj {X : Cx} {pins : List (Addr × Obj)} {σ : L2.St} {H : Hp} {s : Shared} {u : Bool} {a : Addr} {xs ys : List V} (I : Inv X pins σ H s) (q : SqC X.K u H a xs) (q' : SqC X.K u H a ys) : xs = ys := by
  cases u with
  | true => exact I.list_inj q q'
  | false => exact I.tuple_inj q q'
end MZ
namespace FB
open PySem PySem.Spec L2
open PyProof.Rows hiding St
section
variable {X : Cx} {K : PySem.W.Frag} {mg : Str → Option Value}
/-- a list or a tuple of shared things -/
def qD (u : Bool) (ds : List D) : D := if u = true then .lst ds else .tup ds
end
end FB

/-! Loops and comprehensions over what an own object lends meanwhile. -/
namespace FB
open PySem PySem.Spec L2
open PyProof.Rows hiding St
section
variable {X : Cx} {K : PySem.W.Frag} {mg : Str → Option Value}
/-! zip of two attributes -/
end
end FB

/-! More rules for simp; loops that end at the first. -/
namespace FB
open PySem PySem.Spec L2
open PyProof.Rows hiding St
variable {ρ : Env}
@[simp] theorem max2D_int (i j : Int) : max2D (.int i) (.int j) = some (.int (max i j)) := (rfl)
@[simp] theorem neO_bl (a b : Bool) : neO (.val (.bl a)) (.val (.bl b)) = some (.val (.bl (!(a == b)))) := by rw [e_neO (by simp) (by simp)]; simp
def oI : Option Int → D
  | none => .non
  | some i => .int i
@[simp] theorem oI_n : oI none = .non := (rfl)
@[simp] theorem oI_s (i : Int) : oI (some i) = .int i := (rfl)
theorem rangeL_len (lo : Int) (n : Nat) : (rangeL lo n).length = n := by unfold rangeL; simp
theorem rangeL_get {lo : Int} {n k : Nat} {d : D} (h : (rangeL lo n)[k]? = some d) : k < n ∧ d = .int (lo + k) := by
  have hk : k < n := by
    have := (List.getElem?_eq_some_iff.mp h).1
    rwa [rangeL_len] at this
  unfold rangeL at h
  rw [List.getElem?_map, List.getElem?_range hk] at h
  exact ⟨hk, (Option.some.inj h).symm⟩
theorem minO_ints (ns : List Int) (h : ns ≠ []) : minO (.val (.lst (ns.map D.int))) = some (.val (.int (minL ns))) := by
  unfold minO
  show ((ints? (ns.map D.int)).bind fun ns => if ns = [] then none else some (O.val (.int (minL ns)))) = _
  rw [ints?_map]
  show (if ns = [] then none else some (O.val (.int (minL ns)))) = _
  rw [if_neg h]
theorem bls_map {α : Type} (p : α → Bool) : ∀ xs : List α, bls? (xs.map fun z => D.bl (p z)) = some (xs.map p)
  | [] => rfl
  | x :: xs => by
    show (bls? (xs.map fun z => D.bl (p z))).map (p x :: ·) = _
    rw [bls_map p xs]; rfl
theorem toD_bls {α : Type} (p : α → Bool) (xs : List α) : (O.lst (xs.map fun z => O.val (.bl (p z)))).toD = .lst (xs.map fun z => D.bl (p z)) := by
  show D.lst (O.toDs _) = _
  rw [toDs_map, List.map_map]; rfl
theorem any_map {α : Type} (p : α → Bool) (xs : List α) : anyO (.lst (xs.map fun z => O.val (.bl (p z)))) = some (.val (.bl (xs.any p))) := by
  unfold anyO
  rw [toD_bls]
  show ((bls? (xs.map fun z => D.bl (p z))).map fun bs => O.val (.bl (bs.any id))) = _
  rw [bls_map]
  simp [List.any_map]
end FB

/-! Dicts read; texts joined; lists turned round. -/
namespace FB
open PySem PySem.Spec L2
open PyProof.Rows hiding St
section
variable {X : Cx} {K : PySem.W.Frag} {mg : Str → Option Value}
def dctP : O → Option (List Key × List O)
  | .dct ks os => some (ks, os)
  | .val (.dct ks ds) => some (ks, ds.map O.val)
  | _ => none
theorem Rep.dctV {H : Hp} {L : List Item} {B : List (V × O)} {x : V} {a : O} {ks : List Key} {os : List O} (R : Rep K mg H L B) (hx : (x, a) ∈ B) (e : dctP a = some (ks, os)) :
    ∃ p kvs, x = .ref p ∧ Rd H p (.dK kvs) ∧ kvs.map (·.1) = ks ∧ ks.Nodup ∧ kvs.length = os.length ∧ ∀ (j : Nat) (v : V) (o : O), (kvs.map (·.2))[j]? = some v → os[j]? = some o → Rep K mg H L ((v, o) :: B) := by
  obtain ⟨A, nd, ok, hb⟩ := id R
  obtain ⟨as, h1, h2⟩ := hb _ hx
  cases h1 with
  | val h1 =>
    cases h1 with
    | dct h3 h4 h5 =>
      cases e
      rename_i p kvs ds
      refine ⟨p, kvs, rfl, rd_hide h3, h4.1, h4.2, ?_, fun j v o q1 q2 => ⟨A, nd, ok, fun b q => ?_⟩⟩
      · have := h5.length
        simpa using this
      · rcases List.mem_cons.mp q with q | q
        · subst q
          rw [List.getElem?_map] at q2
          cases q3 : ds[j]? with
          | none => rw [q3] at q2; cases q2
          | some d =>
            rw [q3] at q2
            cases q2
            obtain ⟨v', g1, g2⟩ := h5.get q3
            rw [q1] at g1
            cases g1
            exact ⟨[], .val g2, by simp⟩
        · exact hb b q
    | _ => cases e
  | lst _ _ => cases e
  | ins _ _ _ _ => cases e
  | dct h3 h4 h5 =>
    cases e
    rename_i p kvs as'
    refine ⟨p, kvs, rfl, .inl h3, h4.1, h4.2, ?_, fun j v o q1 q2 => ⟨A, nd, ok, fun b q => ?_⟩⟩
    · have := h5.length
      simpa using this
    · rcases List.mem_cons.mp q with q | q
      · subst q
        obtain ⟨bs, g1, g2⟩ := VOs.sub h5 q2 q1
        exact ⟨bs, g1, fun a ha => h2 a (by simp [g2 a ha])⟩
      · exact hb b q
theorem keyV {H : Hp} {L : List Item} {B : List (V × O)} {y : V} {b : O} {k : Key} (R : Rep K mg H L B) (hy : (y, b) ∈ B) (e : keyO b = some k) : y = kV k := by
  unfold keyO at e
  split at e
  · cases e; exact R.shInt hy rfl
  · cases e; exact R.shStr hy rfl
  · cases e
/-! ### d[k] -/
def dgO (a b : O) : Option O := (dctP a).bind fun p => (keyO b).bind fun k => (idxK p.1 k).bind fun j => p.2[j]?
def rDg : R2 := fun x y H Q => ∃ a v, x = .ref a ∧ DGet H a y (some v) ∧ Q v H
theorem ix_dct (ok : CxOk X) : IxR X rDg := by
  intro value slice pins s σ H x y v u Q I rx ry h hs
  obtain ⟨a, w, rfl, g, q⟩ := h
  obtain rfl : v = Value.ref a := rx
  exact tail_any (dict_typeIs I g) PySem.F.slot_dict_getitem.lookup (d_getItem (by have := ok.units; show X.A.units + 1 < cLine; omega) I g ry fun w' s' I' rw' => ⟨w, H, I', rw', q⟩) hs
theorem dget {H : Hp} {L : List Item} {B : List (V × O)} {x y : V} {a b : O} {ks : List Key} {os : List O} {k : Key} (R : Rep K mg H L B) (hx : (x, a) ∈ B) (hy : (y, b) ∈ B) (e : dctP a = some (ks, os)) (ek : keyO b = some k) :
    ∃ p r, x = .ref p ∧ DGet H p y r ∧ ((idxK ks k).bind fun j => os[j]?).isSome = r.isSome ∧ ∀ o, ((idxK ks k).bind fun j => os[j]?) = some o → ∃ v, r = some v ∧ Rep K mg H L ((v, o) :: B) := by
  obtain ⟨p, kvs, rfl, h1, h2, h3, h4, h5⟩ := R.dctV hx e
  have ey := keyV R hy ek
  subst ey
  refine ⟨p, valV kvs k, rfl, .inl ⟨kvs, k, h1, rfl, rfl⟩, ?_, fun o ho => ?_⟩
  · rw [idxK_valV, h2]
    cases ej : idxK ks k with
    | none => rfl
    | some j =>
      show (os[j]?).isSome = ((kvs.map (·.2))[j]?).isSome
      by_cases hj : j < os.length
      · rw [List.getElem?_eq_getElem hj, List.getElem?_eq_getElem (show j < (kvs.map (·.2)).length by simp; omega)]; rfl
      · have n1 : os[j]? = none := List.getElem?_eq_none (by omega)
        have n2 : (kvs.map (·.2))[j]? = none := List.getElem?_eq_none (by simp; omega)
        rw [n1, n2]; rfl
  · rw [idxK_valV, h2]
    cases ej : idxK ks k with
    | none => rw [ej] at ho; cases ho
    | some j =>
      rw [ej] at ho
      have ho : os[j]? = some o := ho
      have hj : j < os.length := (List.getElem?_eq_some_iff.mp ho).1
      have hl : j < (kvs.map (·.2)).length := by simp; omega
      have hv : (kvs.map (·.2))[j]? = some ((kvs.map (·.2))[j]'hl) := List.getElem?_eq_getElem hl
      exact ⟨_, hv, h5 j _ o hv ho⟩
theorem opv_dg : OpV K mg rDg dgO := by
  intro H L B x y ox oy o Q R hx hy e k
  unfold dgO at e
  cases e1 : dctP ox with
  | none => rw [e1] at e; cases e
  | some p =>
    cases e2 : keyO oy with
    | none => rw [e1, e2] at e; cases e
    | some kk =>
      rw [e1, e2] at e
      obtain ⟨p', r, rfl, g, _, g2⟩ := dget (ks := p.1) (os := p.2) R hx hy e1 e2
      obtain ⟨v, rfl, R2⟩ := g2 o e
      exact ⟨p', v, rfl, g, k v H (Same.refl _) R2⟩
/-- a list, a tuple, a text, or a dict -/
def ixF (a b : O) : Option O := if (dctP a).isSome = true then dgO a b else ixO a b
def rIxF (K : PySem.W.Frag) : R2 := fun x y H Q => rIx K x y H Q ∨ rDg x y H Q
theorem ix_F (ok : CxOk X) : IxR X (rIxF X.K) := ix_seq.or (ix_dct ok)
theorem opv_ixF : OpV K mg (rIxF K) ixF := by
  intro H L B x y ox oy o Q R hx hy e k
  unfold ixF at e
  split at e
  · exact .inr (opv_dg H L B x y ox oy o Q R hx hy e k)
  · exact .inl (opv_ix H L B x y ox oy o Q R hx hy e k)
/-! ### k in d -/
def keyN : O → Option (Option Key)
  | .val .non => some none
  | b => (keyO b).map some
/-! ### d.get(k, x) -/
def getK (p : List Key × List O) (c : O) : Option Key → O
  | none => c
  | some k => ((idxK p.1 k).bind fun j => p.2[j]?).getD c
def getO (a b c : O) : Option O := (dctP a).bind fun p => (keyN b).map (getK p c)
theorem d_getNone {pins : List (Addr × Obj)} {σ : L2.St} {H : Hp} {s : Shared} {a : Addr} {kvs : List (Key × V)} {A : Around} {E : Value → Shared → Prop} {r : Value} {Q : Value → Shared → Prop} (I : Inv X pins σ H s) (e : Rd H a (.dK kvs)) (h : ∀ s', Inv X pins σ H s' → Q r s') :
    wpAny (model X.prog X.w) A (call (.builtin "dict.get") [.ref a, .none, r]) Q E s := by
  obtain ⟨_, hd, vs, _, dd⟩ := dk_rd I.hok e
  obtain ⟨f, hm, hf⟩ := none_map dd
  refine call_meetsIn PySem.F.slot_dict_get dd.typeIs PySem.F.entry_dict_get (PySem.F.args_dict_get_3 _ _ _) (meets_dict_get_default (noneKind X.prog X.w) a (show (noneKind X.prog X.w).is none .none = true from rfl) hd r) ⟨f, hm, ?_⟩
  rw [hf]
  exact h _ (I.tok _)
def tGetN (td ty tx : TE) : TE := fun σ H Q => td σ H fun x H1 => ∃ a, x = .ref a ∧ IsD H1 a ∧ ty σ H1 fun y H2 => tx σ H2 fun z H3 => (∃ o, DGet H3 a y o ∧ Q (o.getD z) H3) ∨ (∃ kvs, y = .non ∧ Rd H3 a (.dK kvs) ∧ Q z H3)
theorem pe_getN {o e f : Expr} {apos cpos : Pos} {td ty tx : TE} (hu : X.A.units + 1 < cLine) (ho : PE X o td) (he : PE X e ty) (hf : PE X f tx) (m : M2 X o "get" apos e f cpos) : PE X (.Call (.Attribute o "get" apos) [e, f] [] cpos) (tGetN td ty tx) := by
  refine ⟨fun pins s σ H Q I h => ?_⟩
  refine wpAny_Call_method m.base m.few m.line PySem.F.plainAttrs_dict PySem.F.slot_dict_get PySem.F.type_dict_get (thn (ho.run pins s σ H _ I h) fun u s1 ⟨x, H1, I1, rx, a, ex, d, q1⟩ => ?_)
  subst ex
  obtain rfl : u = Value.ref a := rx
  obtain ⟨t1, t2, _⟩ := isD_at I1 d
  refine ⟨t1, t2, ?_⟩
  rw [m.trees]
  refine Calls.callWith_builtin rfl (Calls.evalArgs_plain (Calls.spliced_cons (thn (he.run pins s1 σ H1 _ I1 q1) fun iv s2 ⟨y, H2, I2, ry, q2⟩ => Calls.spliced_cons (thn (hf.run pins s2 σ H2 _ I2 q2) fun fv s3 ⟨z, H3, I3, rz, q3⟩ => Calls.spliced_nil ?_))))
  rcases q3 with ⟨ov, g, q3⟩ | ⟨kvs, ey, g, q3⟩
  · exact d_get2 hu I3 g ry rz fun w' s4 I4 rw' => ⟨_, H3, I4, rw', q3⟩
  · subst ey
    obtain rfl : iv = Value.none := ry
    exact d_getNone I3 g fun s4 I4 => ⟨z, H3, I4, rz, q3⟩
def p3 (op : O → O → O → Option O) (f g h : Pf) : Pf := fun ρ => (f ρ).bind fun a => (g ρ).bind fun b => (h ρ).bind fun c => op a b c
theorem sp_get {o e d : Expr} {apos cpos : Pos} {f g h : Pf} (ok : CxOk X) (ho : SP X o f) (he : SP X e g) (hd : SP X d h) (m : M2 X o "get" apos e d cpos := by exact ⟨rfl, rfl, rfl, rfl⟩) : SP X (.Call (.Attribute o "get" apos) [e, d] [] cpos) (p3 getO f g h) :=
  PE.imp (pe_getN (by have := ok.units; omega) ho he hd m) fun σ H Q q => by
    obtain ⟨ρ, T, B, r, cv, R, e, k⟩ := q
    unfold p3 at e
    cases e1 : f ρ with
    | none => rw [e1] at e; cases e
    | some a =>
      cases e2 : g ρ with
      | none => rw [e1, e2] at e; cases e
      | some b =>
        cases e3 : h ρ with
        | none => rw [e1, e2, e3] at e; cases e
        | some c =>
          rw [e1, e2, e3] at e
          have e : getO a b c = some r := e
          unfold getO at e
          cases e4 : dctP a with
          | none => rw [e4] at e; cases e
          | some p =>
            cases e5 : keyN b with
            | none => rw [e4, e5] at e; cases e
            | some kk =>
              rw [e4, e5] at e
              have e : getK p c kk = r := Option.some.inj e
              refine ⟨ρ, T, B, a, cv, R, e1, fun x H1 s1 R1 => ?_⟩
              obtain ⟨pa, kvs, rfl, g1, _⟩ := R1.dctV (ks := p.1) (os := p.2) (List.mem_cons_self ..) e4
              refine ⟨pa, rfl, .inl ⟨kvs, g1⟩, ρ, T, _, b, cv, R1, e2, fun y H2 s2 R2 => ⟨ρ, T, _, c, cv, R2, e3, fun z H3 s3 R3 => ?_⟩⟩
              have drop : ∀ {v : V}, Rep X.K X.mg H3 (pairs σ ρ ++ T) ((v, r) :: (z, c) :: (y, b) :: (.ref pa, a) :: B) → Rep X.K X.mg H3 (pairs σ ρ ++ T) ((v, r) :: B) := fun R => R.bsub fun w hw => by
                rcases List.mem_cons.mp hw with hw | hw
                · simp [hw]
                · simp [hw]
              unfold keyN at e5
              split at e5
              · cases e5
                have e : c = r := e
                subst e
                obtain ⟨pa', kvs', ex, g2, _⟩ := R3.dctV (x := .ref pa) (a := a) (ks := p.1) (os := p.2) (by simp) e4
                cases ex
                refine .inr ⟨kvs', R3.shNon (o := .val .non) (by simp) rfl, g2, k z H3 (s1.trans (s2.trans s3)) (R3.bsub fun w hw => ?_)⟩
                rcases List.mem_cons.mp hw with hw | hw
                · simp [hw]
                · simp [hw]
              · cases e6 : keyO b with
                | none => rw [e6] at e5; cases e5
                | some key =>
                  rw [e6] at e5
                  cases e5
                  obtain ⟨pa', rr, ex, g2, g3, g4⟩ := dget (x := .ref pa) (y := y) (ks := p.1) (os := p.2) R3 (by simp) (by simp) e4 e6
                  cases ex
                  have e : ((idxK p.1 key).bind fun j => p.2[j]?).getD c = r := e
                  refine .inl ⟨rr, g2, ?_⟩
                  cases e7 : ((idxK p.1 key).bind fun j => p.2[j]?) with
                  | none =>
                    rw [e7] at e g3
                    have e : c = r := e
                    subst e
                    cases rr with
                    | some _ => cases g3
                    | none =>
                      refine k z H3 (s1.trans (s2.trans s3)) (R3.bsub fun w hw => ?_)
                      rcases List.mem_cons.mp hw with hw | hw
                      · simp [hw]
                      · simp [hw]
                  | some o =>
                    rw [e7] at e
                    have e : o = r := e
                    subst e
                    obtain ⟨v, rfl, R4⟩ := g4 o e7
                    exact k v H3 (s1.trans (s2.trans s3)) (drop R4)
end
end FB

/-! join, reverse, dict(pairs), name[k] += e; rules. -/
namespace FB
open PySem PySem.Spec L2 TL
open PyProof.Rows hiding St
section
variable {X : Cx} {K : PySem.W.Frag} {mg : Str → Option Value}
/-! ### join -/
def strs? : List D → Option (List Str)
  | [] => some []
  | .str s :: ds => (strs? ds).map (s :: ·)
  | _ :: _ => none
theorem strs_eq : ∀ {ds : List D} {ys : List Str}, strs? ds = some ys → ds = ys.map D.str
  | [], _, h => by cases h; rfl
  | .str s :: ds, ys, h => by
    have h : (strs? ds).map (s :: ·) = some ys := h
    cases e : strs? ds with
    | none => rw [e] at h; cases h
    | some zs => rw [e] at h; cases h; rw [strs_eq e]; rfl
  | .non :: _, _, h => by cases h
  | .bl _ :: _, _, h => by cases h
  | .int _ :: _, _, h => by cases h
  | .tup _ :: _, _, h => by cases h
  | .lst _ :: _, _, h => by cases h
  | .dct _ _ :: _, _, h => by cases h
  | .ins _ _ _ :: _, _, h => by cases h
  | .scr _ :: _, _, h => by cases h
  | .fn _ :: _, _, h => by cases h
theorem Vws.strs {H : Hp} : ∀ {vs : List V} {ys : List Str}, Vws K mg H vs (ys.map D.str) → vs = ys.map V.str ∧ ∀ y ∈ ys, PyData.strOk y = true
  | _, [], .nil => ⟨rfl, by simp⟩
  | _, y :: ys, .cons h t => by
    obtain ⟨e, o⟩ := Vws.strs t
    cases h with
    | str _ hy =>
      refine ⟨by rw [e]; rfl, fun z hz => ?_⟩
      rcases List.mem_cons.mp hz with q | q
      · rw [q]; exact hy
      · exact o z q
theorem strOk_iff {s : Str} : PyData.strOk s = true ↔ ∀ c ∈ s.cps.toList, decide (c < 0x110000) = true := by
  show s.cps.all (· < 0x110000) = true ↔ _
  rw [← Array.all_toList, List.all_eq_true]
theorem joinL_mem {S : List Nat} {c : Nat} : ∀ {ps : List (List Nat)}, c ∈ joinL S ps → c ∈ S ∨ ∃ p ∈ ps, c ∈ p
  | [], h => by cases h
  | [p], h => .inr ⟨p, by simp, h⟩
  | p :: q :: r, h => by
    have h : c ∈ p ++ (S ++ joinL S (q :: r)) := h
    rcases List.mem_append.mp h with h | h
    · exact .inr ⟨p, by simp, h⟩
    · rcases List.mem_append.mp h with h | h
      · exact .inl h
      · rcases joinL_mem h with h | ⟨p', h1, h2⟩
        · exact .inl h
        · exact .inr ⟨p', List.mem_cons_of_mem _ h1, h2⟩
theorem join_ok {a : Str} {ys : List Str} (ha : PyData.strOk a = true) (h : ∀ y ∈ ys, PyData.strOk y = true) : PyData.strOk (Txt.join a ys) = true := by
  rw [join_eq, strOk_iff]
  intro c hc
  have hc : c ∈ joinL (tl a) (ys.map tl) := by rw [← tl_join]; exact hc
  rcases joinL_mem hc with q | ⟨p, hp, q⟩
  · exact strOk_iff.mp ha c q
  · obtain ⟨y, hy, rfl⟩ := List.mem_map.mp hp
    exact strOk_iff.mp (h y hy) c q
def joinD (a : Str) (d : D) : Option D := match d with
  | .lst ds => (strs? ds).bind fun ys => if (ys.map (·.length)).sum + ys.length * a.length ≤ 1000000 then some (.str (Txt.join a ys)) else none
  | _ => none
def mJoin (a : Str) (m : M O) : M O := fun ρ => (m ρ).bind fun o ρ1 => match joinD a o.toD with
  | some d => .ok (.val d) ρ1
  | none => .no
theorem se_join {a : Str} {j : Nat} {p apos pos : Pos} {e : Expr} {m : M O} (h : SE X e m) (ha : PyData.strOk a = true := by decide +kernel) (hs : starEach [e] X.env = [(false, eval e X.env)] := by rfl) (hbase : attributeBase (.Constant (.str a) j p) "join" X.env (eval (.Constant (.str a) j p) X.env) = eval (.Constant (.str a) j p) X.env := by rfl)
    (hline : (apos.endLine == pos.line) = true := by rfl) : SE X (.Call (.Attribute (.Constant (.str a) j p) "join" apos) [e] [] pos) (mJoin a m) :=
  PE.imp (pe_join pe_str h hs hbase hline) fun σ H Q w => by
    obtain ⟨ρ, T, o, ρ', c, R, e0, k⟩ := w
    obtain ⟨u, ρ1, e1, e0⟩ := Res.bind_eq e0
    refine ⟨⟨a, rfl⟩, ρ, T, u, ρ1, c, R, e1, fun y H1 c1 R1 => ?_⟩
    unfold joinD at e0
    have R2 := R1.frz
    cases hd : u.toD with
    | lst ds =>
      rw [hd] at e0 R2
      have e0 : (match (strs? ds).bind fun ys => if (ys.map (·.length)).sum + ys.length * a.length ≤ 1000000 then some (D.str (Txt.join a ys)) else none with | some d => Res.ok (O.val d) ρ1 | none => .no) = .ok o ρ' := e0
      cases es : strs? ds with
      | none => rw [es] at e0; cases e0
      | some ys =>
        rw [es] at e0
        have e0 : (match (if (ys.map (·.length)).sum + ys.length * a.length ≤ 1000000 then some (D.str (Txt.join a ys)) else none) with | some d => Res.ok (O.val d) ρ1 | none => .no) = .ok o ρ' := e0
        by_cases hl : (ys.map (·.length)).sum + ys.length * a.length ≤ 1000000
        · rw [if_pos hl] at e0
          cases e0
          have ed := strs_eq es
          subst ed
          have q : Vw X.K X.mg H1 y (.lst (ys.map D.str)) := R2.lend.sh (List.mem_cons_self ..) rfl
          cases q with
          | lst q1 q2 =>
            obtain ⟨ev, ok⟩ := q2.strs
            subst ev
            exact ⟨a, _, ys, rfl, rfl, .inl (.inl q1), by omega, k _ H1 c1 ((R2.drop).scal fun _ => .str _ (join_ok ha ok))⟩
        · rw [if_neg hl] at e0; cases e0
    | _ => rw [hd] at e0; cases e0
/-! ### reverse -/
/-! ### dict(pairs) -/
def mergeL {α : Type} (acc : List Key × List α) (kvs : List (Key × α)) : List Key × List α := kvs.foldl (fun a kv => putL a.1 a.2 kv.1 kv.2) acc
def pr? : D → Option (Key × D)
  | .tup [k, d] => (keyO (.val k)).map fun k => (k, d)
  | _ => none
def prs? : List D → Option (List (Key × D))
  | [] => some []
  | d :: ds => (pr? d).bind fun p => (prs? ds).map (p :: ·)
theorem key_vw {G : Hp} {v : V} {d : D} {k : Key} (h : Vw K mg G v d) (e : keyO (.val d) = some k) : v = kV k := by
  cases h with
  | int i => cases e; rfl
  | str s _ => cases e; rfl
  | _ => cases e
theorem prs_views {G : Hp} : ∀ {vs : List V} {ds : List D} {kvs : List (Key × D)}, Vws K mg G vs ds → prs? ds = some kvs → ∃ (ps : List Addr) (ws : List (Key × V)), vs = ps.map V.ref ∧ Paired (fun p kv => SqT K G p [kV kv.1, kv.2]) ps ws ∧ ws.map (·.1) = kvs.map (·.1) ∧ Vws K mg G (ws.map (·.2)) (kvs.map (·.2))
  | _, _, _, .nil, h => by cases h; exact ⟨[], [], rfl, .nil, rfl, .nil⟩
  | v :: vs, d :: ds, kvs, .cons h t, e => by
    have e : (pr? d).bind (fun p => (prs? ds).map (p :: ·)) = some kvs := e
    cases e1 : pr? d with
    | none => rw [e1] at e; cases e
    | some p =>
      cases e2 : prs? ds with
      | none => rw [e1, e2] at e; cases e
      | some ps =>
        rw [e1, e2] at e
        cases e
        obtain ⟨as, ws, h1, h2, h3, h4⟩ := prs_views t e2
        unfold pr? at e1
        split at e1
        · rename_i k0 d0
          cases e5 : keyO (.val k0) with
          | none => rw [e5] at e1; cases e1
          | some kk =>
            rw [e5] at e1
            cases e1
            cases h with
            | tup h6 h7 =>
              rename_i a xs
              cases h7 with
              | cons h8 h9 =>
                cases h9 with
                | cons h10 h11 =>
                  cases h11
                  have ek := key_vw h8 e5
                  subst ek
                  rename_i v2
                  exact ⟨a :: as, (kk, v2) :: ws, by rw [h1]; rfl, .cons h6 h2, by simp [h3], .cons h10 h4⟩
        · cases e1
theorem Vws.putL {G : Hp} {ks : List Key} {vs : List V} {ds : List D} {k : Key} {v : V} {d : D} (h : Vws K mg G vs ds) (h1 : Vw K mg G v d) : Vws K mg G (putL ks vs k v).2 (putL ks ds k d).2 := by
  unfold FB.putL
  cases idxK ks k with
  | none => exact h.append (.cons h1 .nil)
  | some j => exact h.set h1 j
theorem putL_ks {α β : Type} (ks : List Key) (os : List α) (us : List β) (k : Key) (o : α) (u : β) : (putL ks os k o).1 = (putL ks us k u).1 := by
  unfold putL
  cases idxK ks k <;> rfl
theorem merge_views {G : Hp} : ∀ {ws : List (Key × V)} {kvs : List (Key × D)} {acc : List (Key × V)} {ks : List Key} {ds : List D}, ws.map (·.1) = kvs.map (·.1) → Vws K mg G (ws.map (·.2)) (kvs.map (·.2)) → acc.map (·.1) = ks → ks.Nodup → Vws K mg G (acc.map (·.2)) ds →
    (mergeK acc ws).map (·.1) = (mergeL (ks, ds) kvs).1 ∧ (mergeL (ks, ds) kvs).1.Nodup ∧ Vws K mg G ((mergeK acc ws).map (·.2)) (mergeL (ks, ds) kvs).2
  | [], [], acc, ks, ds, _, _, h1, h2, h3 => ⟨h1, h2, h3⟩
  | [], _ :: _, _, _, _, h, _, _, _, _ => by simp at h
  | _ :: _, [], _, _, _, h, _, _, _, _ => by simp at h
  | w :: ws, p :: kvs, acc, ks, ds, h, hv, h1, h2, h3 => by
    have hk : w.1 = p.1 := by simpa using congrArg List.head? h
    have ht : ws.map (·.1) = kvs.map (·.1) := by simpa using congrArg List.tail h
    cases hv with
    | cons hv1 hv2 =>
      obtain ⟨q1, q2⟩ := putK_eq acc w.1 w.2 (by rw [h1]; exact h2)
      rw [h1] at q1 q2
      have hn : (putL ks ds p.1 p.2).1.Nodup := by
        have := nodup_put (os := ds.map O.val) (k := p.1) (o := O.val p.2) h2
        rwa [putL_ks ks (ds.map O.val) ds p.1 (O.val p.2) p.2] at this
      have r := merge_views (acc := putK acc w.1 w.2) (ks := (putL ks ds p.1 p.2).1) (ds := (putL ks ds p.1 p.2).2) ht hv2 (by rw [q1, hk]; exact putL_ks ..) hn (by rw [q2, hk]; exact Vws.putL h3 hv1)
      exact r
def dctOf (kvs : List (Key × D)) : D := .dct (mergeL ([], []) kvs).1 (mergeL ([], []) kvs).2
def dpK2 (ρ : Env) : Option (List (Key × D)) → Res O
  | some kvs => .ok (.val (dctOf kvs)) ρ
  | none => .no
def dpK1 (ρ : Env) : D → Res O
  | .lst ds => dpK2 ρ (prs? ds)
  | _ => .no
def mDictP (m : M O) : M O := fun ρ => (m ρ).bind fun o ρ1 => dpK1 ρ1 o.toD
theorem se_dictP {a : Expr} {p pos : Pos} {m : M O} (ok : CxOk X) (hg : Gl X "dict") (hm : X.mg "dict" = none) (hv : bootBuiltins "dict" = some (.type "dict")) (ha : SE X a m)
    (hst : starEach (a :: []) X.env = (false, eval a X.env) :: starEach [] X.env := by rfl) (hpl : (backTo pos (starEach [] X.env)).any (·.1) = false := by rfl) : SE X (.Call (.Name "dict" p) [a] [] pos) (mDictP m) :=
  PE.imp (pe_callTy (call_dictP ok.calm) hg hm hv (pa_cons ha pa_nil hst) (by decide) (by decide) hst hpl) fun σ H Q w => by
    obtain ⟨ρ, T, o, ρ', c, R, e0, k⟩ := w
    obtain ⟨u, ρ1, e1, e0⟩ := Res.bind_eq e0
    refine ⟨ρ, T, u, ρ1, c, R, e1, fun y H1 c1 R1 => ?_⟩
    have R2 := R1.frz
    cases hd : u.toD with
    | lst ds =>
      rw [hd] at e0 R2
      have e0 : dpK2 ρ1 (prs? ds) = .ok o ρ' := e0
      cases ep : prs? ds with
      | none => rw [ep] at e0; cases e0
      | some kvs =>
        rw [ep] at e0
        cases e0
        obtain ⟨A, nd, okk, _⟩ := id R2
        cases okk with
        | cons h t =>
          rename_i a9 b9
          cases h with
          | ov h =>
            cases h with
            | val h =>
              cases h with
              | lst q1 q2 =>
                rename_i pa vs
                obtain ⟨ps, ws, ev, h2, h3, h4⟩ := prs_views q2 ep
                subst ev
                have pm : Paired (fun p kv => SqT X.K H1 p [kV kv.1, kv.2]) ps ws := by
                  clear h3 h4 q1 q2 ep nd t R2 R1
                  induction h2 with
                  | nil => exact .nil
                  | cons h _ ih => exact .cons (sqT_hide h) ih
                obtain ⟨m1, m2, m3⟩ := merge_views (acc := []) (ks := []) (ds := []) h3 h4 rfl List.nodup_nil .nil
                refine ⟨pa, ps, ws, rfl, .inl (rd_hide q1), pm, fun q hq => k _ _ c1 ?_⟩
                have R3 := (Rep.drop R2).grow (sameNew (o := .dK (mergeK [] ws)) hq)
                have hnew : q ∉ a9 := fun z => by
                  obtain ⟨u, g⟩ := t.dom q z
                  rw [hq] at g; cases g
                obtain ⟨A', nd', ok', _⟩ := (Rep.drop R2)
                have e : Same (hide H1 ([] ++ a9)) (hide (upd H1 q (.dK (mergeK [] ws))) a9) := hide_same fun a o ha g => ⟨by simpa using ha, by rw [upd_ne (ne_of_none g hq)]; exact g⟩
                refine ⟨a9, (List.nodup_append.mp nd).2.1, .cons (as := []) (.ov (.val (.dct (kvs := mergeK [] ws) (.inl ?_) ⟨m1, m2⟩ (m3.mono e)))) (t.mono e fun a ha => upd_ne fun z => hnew (z ▸ ha)), fun _ z => by simp at z⟩
                rw [hide_out hnew]; exact upd_same
    | _ => rw [hd] at e0; cases e0
/-! ### name[k] += e, ints -/
def ixG (a b : O) : Option O := if (dctP a).isSome = true then dgO a b else ixL a b
def rGet (K : PySem.W.Frag) : R2 := fun x y H Q => rIxL K x y H Q ∨ rDg x y H Q
theorem pget_F (ok : CxOk X) : PGet X (rGet X.K) := by
  intro pins s σ H x y v u Q I rx ry h
  rcases h with h | ⟨a, w, rfl, g, q⟩
  · exact pget_list pins s σ H x y v u Q I rx ry h
  · obtain rfl : v = Value.ref a := rx
    exact d_getItem (by have := ok.units; show X.A.units + 1 < cLine; omega) I g ry fun w' s' I' rw' => ⟨w, H, I', rw', q⟩
theorem opv_ixG : OpV K mg (rGet K) ixG := by
  intro H L B x y ox oy o Q R hx hy e k
  unfold ixG at e
  split at e
  · exact .inr (opv_dg H L B x y ox oy o Q R hx hy e k)
  · exact .inl (opv_ixL H L B x y ox oy o Q R hx hy e k)
def mAugI (i : Nat) (g : Int → Int → Int) (n m : Pf) : M Fl := fun ρ => match ρ[i]?, n ρ, m ρ with
  | some (some a), some (.val d), some (.val (.int y)) => (match ixG a (.val d) with
    | some (.val (.int x)) => (match setItO a (.val d) (.val (.int (g x y))) with
      | some a' => .ok .nx (ρ.set i (some a'))
      | none => .no)
    | _ => .no)
  | _, _, _ => .no
theorem ss_augI (i : Nat) {P : List Nat} {x : Str} {p tpos pos : Pos} {ix e : Expr} {op : Operator} {g : Int → Int → Int} {n m : Pf} (ok : CxOk X) (hop : PIp X op (ipI g)) (hn : SP X ix n) (h : SP X e m) (hN : X.N[i]? = some x := by rfl) (hv : Vis X.env.scope x := by first | exact Or.inl rfl | exact Or.inr (Or.inl rfl) | exact Or.inr (Or.inr rfl)) (hd : (x == ("__debug__" : Str)) = false := by decide)
    (hcd : (x == ("__classdict__" : Str)) = false := by decide)
    (ha : ∀ ov iv new, augStore ix ov iv new = (do holding [new, ov, iv] (setItem ov iv new); release [new, ov, iv] []; pure .next) := by intros; rfl) :
    SS X P (.AugAssign (.Subscript (.Name x p) ix tpos) op e pos) (mAugI i g n m) :=
  PS.imp (ps_augS (pv i hN hv hd hcd) hn (pget_F ok) h hop (set_F ok) ha) fun D σ H w => by
    obtain ⟨ρ, T, cv, R, h⟩ := tS_iff.mp w
    unfold mAugI at h
    split at h
    · rename_i a d yi e2 e3 e5
      split at h
      · rename_i xi e6
        split at h
        · rename_i a' e4
          obtain ⟨vx, hvx⟩ := cv.ex i _ e2
          have pm := (pairs_take hvx e2).append_right T
          have R1 : Rep X.K X.mg H (pairs σ ρ ++ T) [(vx, a)] := ((R.perm pm).lend).perm pm.symm
          refine ⟨vx, hvx, ρ, T, _, .val d, cv, R1, e3, fun y H2 s2 R3 => ?_⟩
          refine opv_ixG H2 _ _ vx y a (.val d) _ _ R3 (by simp) (by simp) e6 fun xv H3 s3 R4 => ?_
          refine ⟨ρ, T, _, .val (.int yi), cv, R4, e5, fun zv H4 s4 R5 => ?_⟩
          have ex : xv = .int xi := R5.shInt (List.mem_cons_of_mem _ (List.mem_cons_self ..)) rfl
          have ez : zv = .int yi := R5.shInt (List.mem_cons_self ..) rfl
          refine ⟨xi, yi, ex, ez, ?_⟩
          have R6 : Rep X.K X.mg H4 (pairs σ ρ ++ T) [(y, .val d)] := R5.bsub fun z hz => by
            have := List.mem_singleton.mp hz
            subst this
            simp
          have R7 := (R6.keep.scal (v := .int (g xi yi)) (d := .int (g xi yi)) fun _ => .int _).perm (.swap _ _ _)
          have R8 := Rep.slot (M := [.ov y (.val d), .ov (.int (g xi yi)) (.val (.int (g xi yi)))]) hvx e2 R7
          exact setIt_core R8 e4 fun H5 R9 => h σ H5 (Fix.refl _ _) (cv.put hvx _) (Rep.unslot (M := []) hvx e2 R9)
        · exact h.elim
      · exact h.elim
    · exact h.elim
end
/-! ### rules -/
variable {ρ : Env}
def p3K (op : O → O → O → Option O) : Option O → Option O → Option O → Option O
  | some a, some b, some c => op a b c
  | _, _, _ => none
@[simp] theorem e_p3 (op : O → O → O → Option O) (f g h : Pf) : p3 op f g h ρ = p3K op (f ρ) (g ρ) (h ρ) := by
  unfold p3 p3K
  cases f ρ <;> cases g ρ <;> cases h ρ <;> rfl
@[simp] theorem e_p3K (op : O → O → O → Option O) (a b c : O) : p3K op (some a) (some b) (some c) = op a b c := (rfl)
@[simp] theorem ixF_dct (ks : List Key) (os : List O) (b : O) : ixF (.dct ks os) b = dgO (.dct ks os) b := (rfl)
@[simp] theorem ixF_vdct (ks : List Key) (ds : List D) (b : O) : ixF (.val (.dct ks ds)) b = dgO (.val (.dct ks ds)) b := (rfl)
@[simp] theorem ixF_lst (os : List O) (b : O) : ixF (.lst os) b = ixO (.lst os) b := (rfl)
@[simp] theorem ixF_vlst (ds : List D) (b : O) : ixF (.val (.lst ds)) b = ixO (.val (.lst ds)) b := (rfl)
@[simp] theorem ixF_vtup (ds : List D) (b : O) : ixF (.val (.tup ds)) b = ixO (.val (.tup ds)) b := (rfl)
@[simp] theorem ixF_vstr (s : Str) (b : O) : ixF (.val (.str s)) b = ixO (.val (.str s)) b := (rfl)
@[simp] theorem ixF_vscr (s : List Int) (b : O) : ixF (.val (.scr s)) b = ixO (.val (.scr s)) b := (rfl)
def jnK (a : Str) : Res O → Res O
  | .ok o ρ1 => (match joinD a o.toD with
    | some d => .ok (.val d) ρ1
    | none => .no)
  | .exc x ρ => .exc x ρ
  | .no => .no
def jnK2 (ρ : Env) : Option D → Res O
  | some d => .ok (.val d) ρ
  | none => .no
@[simp] theorem e_mJoin (a : Str) (m : M O) : mJoin a m ρ = jnK a (m ρ) := by unfold mJoin jnK; cases m ρ <;> rfl
@[simp] theorem e_jnK (a : Str) (o : O) : jnK a (.ok o ρ) = jnK2 ρ (joinD a o.toD) := by
  show (match joinD a o.toD with | some d => Res.ok (O.val d) ρ | none => .no) = _
  unfold jnK2
  cases joinD a o.toD <;> rfl
@[simp] theorem e_jnK2 (d : D) : jnK2 ρ (some d) = .ok (.val d) ρ := (rfl)
theorem strs_map : ∀ ys : List Str, strs? (ys.map D.str) = some ys
  | [] => rfl
  | y :: ys => by
    show (strs? (ys.map D.str)).map (y :: ·) = _
    rw [strs_map ys]; rfl
theorem joinD_strs (a : Str) (ys : List Str) (h : (ys.map (·.length)).sum + ys.length * a.length ≤ 1000000) : joinD a (.lst (ys.map D.str)) = some (.str (Txt.join a ys)) := by
  show ((strs? (ys.map D.str)).bind fun ys => if (ys.map (·.length)).sum + ys.length * a.length ≤ 1000000 then some (D.str (Txt.join a ys)) else none) = _
  rw [strs_map]
  show (if (ys.map (·.length)).sum + ys.length * a.length ≤ 1000000 then some (D.str (Txt.join a ys)) else none) = _
  rw [if_pos h]
def dpK : Res O → Res O
  | .ok o ρ => dpK1 ρ o.toD
  | .exc x ρ => .exc x ρ
  | .no => .no
@[simp] theorem e_mDictP (m : M O) : mDictP m ρ = dpK (m ρ) := by unfold mDictP dpK; cases m ρ <;> rfl
@[simp] theorem e_dpK (o : O) : dpK (.ok o ρ) = dpK1 ρ o.toD := (rfl)
@[simp] theorem e_dpK1 (ds : List D) : dpK1 ρ (.lst ds) = dpK2 ρ (prs? ds) := (rfl)
@[simp] theorem e_dpK2 (kvs : List (Key × D)) : dpK2 ρ (some kvs) = .ok (.val (dctOf kvs)) ρ := (rfl)
theorem e_mAugI (i : Nat) (g : Int → Int → Int) (n m : Pf) (a a' : O) (d : D) (x y : Int) (h0 : ρ[i]? = some (some a)) (hn : n ρ = some (.val d)) (hm : m ρ = some (.val (.int y))) (hx : ixG a (.val d) = some (.val (.int x))) (h2 : setItO a (.val d) (.val (.int (g x y))) = some a') :
    mAugI i g n m ρ = .ok .nx (ρ.set i (some a')) := by
  unfold mAugI
  rw [h0, hn, hm]
  show (match ixG a (.val d) with
    | some (.val (.int x)) => (match setItO a (.val d) (.val (.int (g x y))) with
      | some a' => Res.ok Fl.nx (ρ.set i (some a'))
      | none => .no)
    | _ => .no) = _
  rw [hx]
  show (match setItO a (.val d) (.val (.int (g x y))) with
      | some a' => Res.ok Fl.nx (ρ.set i (some a'))
      | none => .no) = _
  rw [h2]
end FB

/-! Loops and comprehensions over what own names lend meanwhile. -/
namespace FB
open PySem PySem.Spec L2
open PyProof.Rows hiding St
section
variable {X : Cx} {K : PySem.W.Frag} {mg : Str → Option Value}
/-- slots Z stand; their things are aside (wi) and come back (re) -/
def tIG (K : PySem.W.Frag) (mg : Str → Option Value) (Z : List Nat) (f : Env → Option (List D)) (wi : Env → Env) (re : Env → Env → Env) : TI := fun σ H R => ∃ ρ T ds, Cov σ ρ ∧ Rep K mg H (pairs σ ρ ++ T) [] ∧ f ρ = some ds ∧
  ∀ J ks, Its K mg J ks ds → Cov σ (wi ρ) → Rep K mg H (ks ++ (pairs σ (wi ρ) ++ T)) [] → (∀ σ' ρ' H' M, Fix Z σ σ' → Cov σ' ρ' → Rep K mg H' (M ++ (pairs σ' ρ' ++ (ks ++ T))) [] → Cov σ' (re ρ ρ') ∧ Rep K mg H' (M ++ (pairs σ' (re ρ ρ') ++ T)) []) → R J H
def SIG (X : Cx) (tg it : Expr) (Z : List Nat) (f : Env → Option (List D)) (wi : Env → Env) (re : Env → Env → Env) : Prop := PI X tg it (tIG X.K X.mg Z f wi re)
def mCompG (f : Env → Option (List D)) (wi : Env → Env) (re : Env → Env → Env) (own : List Nat) (a : D → Env → Option Env) (t : M Bool) (e : M O) : M O := fun ρ => match f ρ with
  | some ds => if ds.length ≤ 1000000 then (compL own a t e ds (wipeE (wi ρ) own)).bind fun os ρ2 => .ok (.lst os) (re ρ (backE (wipeE ρ2 own) (wi ρ) own)) else .no
  | none => .no
theorem compG_core {Z : List Nat} {own : List Nat} {f : Env → Option (List D)} {wi : Env → Env} {re : Env → Env → Env} {a : D → Env → Option Env} {t : M Bool} {e : M O} (nd : own.Nodup) (σ : L2.St) (H : Hp) (Q : VK) (w : tM K mg (mCompG f wi re own a t e) σ H Q) : tLc (tIG K mg Z f wi re) (tG K mg (Wip own) a) (tMT K mg t) (tM K mg e) own σ H Q := by
  obtain ⟨ρ, T, o', ρ', cv, R, h, k⟩ := w
  unfold mCompG at h
  split at h
  · rename_i ds e1
    split at h
    · rename_i hl
      obtain ⟨fin, ρ2, e2, h⟩ := Res.bind_eq h
      cases h
      refine ⟨ρ, T, ds, cv, R, e1, fun J ks hJ c' R' rr D hD => ?_⟩
      refine comp_core0 nd (fun _ _ _ _ w => w) (fun _ _ _ w => w) (fun _ _ _ w => w) hl c' hJ R' e2 hD fun H' c2 R2 => ?_
      obtain ⟨c3, R3⟩ := rr σ _ H' [.ov (.ref D) (.lst fin)] (Fix.refl _ _) c2 (R2.perm (List.Perm.cons _ (rot _ _ _)))
      exact k _ H' c3 R3
    · cases h
  · cases h
theorem se_compG {Z : List Nat} {tg iter elt : Expr} {ifs : List Expr} {scope : Scope} {own : List (Str × Nat)} {pos : Pos} {f : Env → Option (List D)} {wi : Env → Env} {re : Env → Env → Env} {a : D → Env → Option Env} {t : M Bool} {e : M O} (ok : CxOk X) (hi : SIG X tg iter Z f wi re) (bo : BlkOk X.N X.env.scope scope own)
    (hg : ∀ (s : Shared) (H : Hp) (C : Addr) (cl : List (Str × Addr)) (fp : List Addr), SG (X.blk s H scope (compEnvC scope cl C X.env) fp) (Wip (own2 own)) tg a) (ht : ∀ (s : Shared) (H : Hp) (C : Addr) (cl : List (Str × Addr)) (fp : List Addr), SETs (X.blk s H scope (compEnvC scope cl C X.env) fp) ifs t)
    (he : ∀ (s : Shared) (H : Hp) (C : Addr) (cl : List (Str × Addr)) (fp : List Addr), SE (X.blk s H scope (compEnvC scope cl C X.env) fp) elt e) (nd : (own2 own).Nodup := by decide) (hs : ∀ x, foldedSetIterable iter X.env x = pure x := by intro _; rfl) :
    SE X (.ListComp elt [⟨tg, iter, ifs, 0⟩] scope pos) (mCompG f wi re (own2 own) a t e) :=
  PE.imp (pe_lc (wi := tIG X.K X.mg Z f wi re) (g := tG X.K X.mg (Wip (own2 own)) a) (tt := tMT X.K X.mg t) (te := tM X.K X.mg e) ok.calm ok.nd hi bo hg ht he hs) (compG_core nd)
/-! zip of two own names -/
/-! one own name -/
def lstN (i : Nat) (ρ : Env) : Option (List D) := match ρ[i]? with
  | some (some a) => (match a.sh with
    | some (.lst xs) => some xs
    | _ => none)
  | _ => none
def wiN (i : Nat) (ρ : Env) : Env := ρ.set i none
def reN (i : Nat) (ρ ρ' : Env) : Env := match ρ[i]? with
  | some (some a) => ρ'.set i (some a)
  | _ => ρ'
theorem its_listS {a : Addr} {o : O} {ds : List D} (e : o.sh = some (.lst ds)) : Its K mg (Itl K a) [.ov (.ref a) o] ds := by
  intro L H R
  obtain ⟨p, vs, e1, hp, lp, R1⟩ := (Rep.lend R).shL (List.mem_cons_self ..) e
  cases e1
  refine ⟨fun i d hd => ?_, ⟨vs, .inl hp, by omega⟩⟩
  have hi : i < ds.length := (List.getElem?_eq_some_iff.mp hd).1
  have hv : vs[i]? = some (vs[i]'(by omega)) := by simp
  refine ⟨⟨vs, _, .inl hp, hv⟩, fun x H' y => ?_⟩
  obtain ⟨e2, y⟩ := y
  subst e2
  exact ⟨Same.refl _, (R1.nob.nth (y vs (.inl hp)) hd).keep⟩
theorem si_lstN (i : Nat) {tg : Expr} {x : Str} {p : Pos} (hN : X.N[i]? = some x := by rfl) (hv : Vis X.env.scope x := by first | exact Or.inl rfl | exact Or.inr (Or.inl rfl) | exact Or.inr (Or.inr rfl)) (hd : (x == ("__debug__" : Str)) = false := by decide) (hcd : (x == ("__classdict__" : Str)) = false := by decide) :
    SIG X tg (.Name x p) [i] (lstN i) (wiN i) (reN i) :=
  PI.imp (pi_list (pv i hN hv hd hcd)) fun σ H R w => by
    obtain ⟨ρ, T, ds, cv, Rp, e1, k⟩ := w
    unfold lstN at e1
    split at e1
    · rename_i a ea
      split at e1
      · rename_i xs sa
        cases e1
        obtain ⟨v, hv⟩ := cv.ex i a ea
        have R1 : Rep X.K X.mg H ([.ov v a] ++ (pairs σ (wiN i ρ) ++ T)) [] := Rp.perm ((pairs_take hv ea).append_right T)
        obtain ⟨pa, vs, ev1, hp1, _, _⟩ := (Rep.lend R1).shL (x := v) (o := a) (by simp) sa
        subst ev1
        have hi : i < ρ.length := (List.getElem?_eq_some_iff.mp ea).1
        refine ⟨_, hv, pa, rfl, ⟨vs, .inl hp1⟩, k _ [.ov (.ref pa) a] (its_listS sa) (cv.setn i) R1 fun σ' ρ' H' M f c' R' => ?_⟩
        have er : reN i ρ ρ' = ρ'.set i (some a) := by unfold reN; rw [ea]
        rw [er]
        have hv' : σ'[i]? = some (some (.ref pa)) := (f.2 i (by simp)).trans hv
        have hl' : ρ'.length = ρ.length := by rw [← c'.len, f.1, cv.len]
        refine ⟨c'.put hv' a, ?_⟩
        have S1 := Rep.slotDrop (M := M) (T := [.ov (.ref pa) a] ++ T) c' i R'
        have q2 : (M ++ (pairs σ' (ρ'.set i none) ++ ([.ov (.ref pa) a] ++ T)) : List Item).Perm (.ov (.ref pa) a :: (M ++ (pairs σ' (ρ'.set i none) ++ T))) := (List.Perm.append_left _ List.perm_middle).trans List.perm_middle
        exact (S1.perm q2).perm (List.perm_middle.symm.trans (List.Perm.append_left _ ((pairs_back hv' (by omega)).append_right _)))
      · cases e1
    · cases e1
end
theorem lstN_of {i : Nat} {ρ : Env} {a : O} {xs : List D} (ha : ρ[i]? = some (some a)) (sa : a.sh = some (.lst xs)) : lstN i ρ = some xs := by
  unfold lstN
  rw [ha]
  show (match a.sh with
    | some (.lst xs) => some xs
    | _ => none) = _
  rw [sa]
theorem e_mCompG {f : Env → Option (List D)} {wi : Env → Env} {re : Env → Env → Env} {own : List Nat} {a : D → Env → Option Env} {t : M Bool} {e : M O} {ρ ρ2 : Env} {ds : List D} {os : List O} (hf : f ρ = some ds) (hl : ds.length ≤ 1000000) (hc : compL own a t e ds (wipeE (wi ρ) own) = .ok os ρ2) :
    mCompG f wi re own a t e ρ = .ok (.lst os) (re ρ (backE (wipeE ρ2 own) (wi ρ) own)) := by
  unfold mCompG
  rw [hf]
  show (if ds.length ≤ 1000000 then (compL own a t e ds (wipeE (wi ρ) own)).bind fun os ρ2 => Res.ok (O.lst os) (re ρ (backE (wipeE ρ2 own) (wi ρ) own)) else .no) = _
  rw [if_pos hl, hc]; rfl
/-- a comprehension whose turns change the environment -/
theorem compL_inv {own : List Nat} {a : D → Env → Option Env} {e : M O} (I : Nat → Env → Prop) (P : Nat → O → Prop) : ∀ {ds : List D} {ρ : Env}, I 0 ρ →
    (∀ k d ρ, ds[k]? = some d → I k ρ → ∃ ρ1 o ρ2, a d ρ = some ρ1 ∧ e ρ1 = .ok o ρ2 ∧ P k o ∧ I (k + 1) (wipeE ρ2 own)) →
    ∃ os ρ', compL own a mTrue e ds ρ = .ok os ρ' ∧ os.length = ds.length ∧ (∀ k o, os[k]? = some o → P k o) ∧ I ds.length ρ' := by
  intro ds
  induction ds generalizing I P with
  | nil => intro ρ h0 _; exact ⟨[], ρ, rfl, rfl, fun k o h => by simp at h, h0⟩
  | cons d ds ih =>
    intro ρ h0 h
    obtain ⟨ρ1, o, ρ2, e1, e2, p, i1⟩ := h 0 d ρ rfl h0
    obtain ⟨os, ρ', e3, hl, hp, i2⟩ := ih (fun k => I (k + 1)) (fun k => P (k + 1)) i1 fun k d ρ hd hI => h (k + 1) d ρ (by simpa using hd) hI
    refine ⟨o :: os, ρ', ?_, by simp [hl], fun k o' ho => ?_, by simpa using i2⟩
    · unfold compL
      rw [e1]
      show (mTrue ρ1).bind _ = _
      rw [show mTrue ρ1 = .ok true ρ1 from rfl, Res.bind_ok, if_pos rfl, e2, Res.bind_ok, e3, Res.bind_ok]
    · cases k with
      | zero => simp at ho; subst ho; exact p
      | succ k => exact hp k o' (by simpa using ho)
end FB

/-! Texts of letters. -/
namespace FB
open PySem PySem.Spec L2 TL
open PyProof.Rows hiding St
@[simp] theorem eqv_str (a b : Str) : D.eqv (.str a) (.str b) = decide (a = b) := by
  unfold D.eqv D.pd
  simp only [PyData.eqv]
  by_cases h : a = b
  · subst h; simp
  · simp [h]
@[simp] theorem eqO_str (a b : Str) : eqO (.val (.str a)) (.val (.str b)) = some (.val (.bl (decide (a = b)))) := by rw [e_eqO (by simp) (by simp)]; simp
@[simp] theorem neO_str (a b : Str) : neO (.val (.str a)) (.val (.str b)) = some (.val (.bl (!decide (a = b)))) := by rw [e_neO (by simp) (by simp)]; simp
@[simp] theorem flat_str (a : Str) : D.flat (.str a) = true := (rfl)
@[simp] theorem flat_int (a : Int) : D.flat (.int a) = true := (rfl)
@[simp] theorem flat_non : D.flat .non = true := (rfl)
theorem Str_ext {a b : Str} (h : a.cps.toList = b.cps.toList) : a = b := by
  cases a; cases b
  congr
  exact Array.toList_inj.mp h
theorem inD_strs (x : Str) (ys : List Str) : inD (.str x) (.lst (ys.map D.str)) = some (ys.any fun y => decide (y = x)) := by
  have h : D.flat (.str x) = true ∧ (ys.map D.str).all D.flat = true := ⟨rfl, by simp⟩
  show (if D.flat (.str x) = true ∧ (ys.map D.str).all D.flat = true then some ((ys.map D.str).any fun e => e.eqv (.str x)) else _) = _
  rw [if_pos h, List.any_map]
  refine congrArg some (congrArg (fun p => ys.any p) ?_)
  funext y
  exact eqv_str y x
/-- a text of letters, by their places -/
def SL (l : List Nat) : Str := ⟨(l.map (97 + ·)).toArray⟩
theorem SL_tl (l : List Nat) : (SL l).cps.toList = l.map (97 + ·) := rfl
theorem SL_len (l : List Nat) : (SL l).length = l.length := by
  show (SL l).cps.size = _
  unfold SL; simp
theorem SL_inj {l m : List Nat} (h : SL l = SL m) : l = m := by
  have : (SL l).cps.toList = (SL m).cps.toList := by rw [h]
  rw [SL_tl, SL_tl] at this
  exact (List.map_inj_right (fun a b h => by omega)).mp this
theorem SL_app (l m : List Nat) : SL l ++ SL m = SL (l ++ m) := by
  apply Str_ext
  have := tl_append (SL l) (SL m)
  rw [show (SL l ++ SL m).cps.toList = tl (SL l ++ SL m) from rfl, this, SL_tl]
  show (SL l).cps.toList ++ (SL m).cps.toList = _
  rw [SL_tl, SL_tl, List.map_append]
theorem SL_rep (l : List Nat) (n : Nat) : repS (SL l) n = SL (List.replicate n l).flatten := by
  apply Str_ext
  show (List.replicate n (SL l).cps.toList).flatten = _
  rw [SL_tl, SL_tl]
  induction n with
  | zero => rfl
  | succ n ih => rw [List.replicate_succ, List.replicate_succ, List.flatten_cons, List.flatten_cons, List.map_append, ih]
theorem joinL0 : ∀ ps : List (List Nat), joinL [] ps = ps.flatten
  | [] => rfl
  | [p] => by show p = _; simp
  | p :: q :: r => by
    show p ++ ([] ++ joinL [] (q :: r)) = _
    rw [joinL0 (q :: r), List.nil_append]; simp
theorem join_SL (ls : List (List Nat)) : Txt.join "" (ls.map SL) = SL ls.flatten := by
  apply Str_ext
  rw [join_eq, show (Str.join "" (ls.map SL)).cps.toList = tl (Str.join "" (ls.map SL)) from rfl, tl_join]
  rw [show tl ("" : Str) = [] from rfl, joinL0, SL_tl]
  induction ls with
  | nil => rfl
  | cons l ls ih => rw [List.map_cons, List.map_cons, List.flatten_cons, List.flatten_cons, List.map_append, ih]; rfl
theorem joinD_SL (ls : List (List Nat)) (h : (ls.map List.length).sum ≤ 1000000) : joinD "" (.lst ((ls.map SL).map D.str)) = some (.str (SL ls.flatten)) := by
  rw [joinD_strs _ _ ?_, join_SL]
  have e1 : (("" : Str)).length = 0 := rfl
  rw [e1, Nat.mul_zero, Nat.add_zero, List.map_map]
  rw [show (fun x : Str => x.length) ∘ SL = List.length from by funext l; exact SL_len l]
  exact h
theorem letters_tl : (("abcdefghijklmnopqrstuvwxyz" : Str)).cps.toList = (List.range 26).map (97 + ·) := by decide +kernel
theorem letter_at (i : Nat) (h : i < 26) : ixO (.val (.str "abcdefghijklmnopqrstuvwxyz")) (.val (.int (i : Int))) = some (.val (.str (SL [i]))) := by
  have hl : (("abcdefghijklmnopqrstuvwxyz" : Str)).length ≤ 1000000 := by decide +kernel
  show (if (("abcdefghijklmnopqrstuvwxyz" : Str)).length ≤ 1000000 then (atI (("abcdefghijklmnopqrstuvwxyz" : Str)).cps.toList (i : Int)).map fun c => O.val (.str ⟨#[c]⟩) else none) = _
  rw [if_pos hl, letters_tl, atN, List.getElem?_map, List.getElem?_range h]; rfl
theorem mulD_SL (l : List Nat) (n : Nat) (h1 : n < 1000000) (h : l.length * n ≤ 1000000) : mulD (.str (SL l)) (.int (n : Int)) = some (.str (SL (List.replicate n l).flatten)) := by
  show (if (n : Int) < 1000000 ∧ -1000000 < (n : Int) ∧ (SL l).length * (n : Int).toNat ≤ 1000000 then some (D.str (repS (SL l) (n : Int).toNat)) else none) = _
  rw [if_pos ⟨by omega, by omega, by rw [SL_len]; simpa using h⟩, Int.toNat_natCast, SL_rep]
theorem addD_SL (l m : List Nat) (h : l.length + m.length ≤ 1000000) : addD (.str (SL l)) (.str (SL m)) = some (.str (SL (l ++ m))) := by
  show (if (SL l).length + (SL m).length ≤ 1000000 then some (D.str (SL l ++ SL m)) else none) = _
  rw [SL_len, SL_len, if_pos h, SL_app]
/-- all items alike in kind -/
theorem list_of {α : Type} (f : α → O) (P : α → Prop) : ∀ {os : List O}, (∀ (k : Nat) (o : O), os[k]? = some o → ∃ b, P b ∧ o = f b) → ∃ bs : List α, os = bs.map f ∧ ∀ b ∈ bs, P b
  | [], _ => ⟨[], rfl, by simp⟩
  | o :: os, h => by
    obtain ⟨b, hb, e⟩ := h 0 o rfl
    obtain ⟨bs, e2, hp⟩ := list_of f P (os := os) fun k o' ho => h (k + 1) o' (by simpa using ho)
    refine ⟨b :: bs, by rw [e, e2]; rfl, fun c hc => ?_⟩
    rcases List.mem_cons.mp hc with q | q
    · rw [q]; exact hb
    · exact hp c q
/-- a right name -/
def NameOk (l : List Nat) : Prop := 1 ≤ l.length ∧ l.length ≤ 8 ∧ ∀ c ∈ l, c < 26
end FB

/-! Exceptions: statements and calls that may raise. -/
namespace FB
open PySem PySem.Spec L2
open PyProof.Rows hiding St

def Res.nr {α : Type} : Res α → Res α
  | .ok a ρ => .ok a ρ
  | _ => .no
@[simp] theorem Res.nr_ok {α : Type} (a : α) (ρ : Env) : (Res.ok a ρ).nr = .ok a ρ := rfl
@[simp] theorem Res.nr_no {α : Type} : (Res.no : Res α).nr = .no := rfl
@[simp] theorem Res.nr_exc {α : Type} (x : Exn) (ρ : Env) : (Res.exc x ρ : Res α).nr = .no := rfl
@[simp] theorem Res.bind_exc {α β : Type} (x : Exn) (ρ : Env) (f : α → Env → Res β) : (Res.exc x ρ : Res α).bind f = .exc x ρ := rfl
/-- raises nothing -/
def nx {α : Type} (m : M α) : M α := fun ρ => (m ρ).nr
@[simp] theorem nx_ap {α : Type} (m : M α) (ρ : Env) : nx m ρ = (m ρ).nr := (rfl)

section
variable {X : Cx} {K : PySem.W.Frag} {mg : Str → Option Value} {P : List Nat} {W : WX}
theorem ExI.nd {x : Exn} {d : Option Addr} {I : List Item} (h : ExI x d I) (e : x.ds = []) : d = none := by
  rcases h with h | ⟨_, _, h, _⟩
  · exact h.2.1
  · exact absurd e h
def ExP (K : PySem.W.Frag) (mg : Str → Option Value) (P : List Nat) (T : List Item) (W : WX) (σ : L2.St) (x : Exn) (ρ' : Env) : Prop :=
  ∀ cls d I σ' H', Fix P σ σ' → Cov σ' ρ' → mg x.c = some cls → ExI x d I → Rep K mg H' (I ++ (pairs σ' ρ' ++ T)) [] → W cls d σ' H'
def PostX (K : PySem.W.Frag) (mg : Str → Option Value) (P : List Nat) (T : List Item) (W : WX) (D : Ends) (σ : L2.St) : Res Fl → Prop
  | .exc x ρ' => ExP K mg P T W σ x ρ'
  | .ok f ρ' => Post K mg P T D σ (.ok f ρ')
  | .no => False
theorem PostX.fix {T : List Item} {D : Ends} {σ σ1 : L2.St} (f : Fix P σ σ1) {r : Res Fl} (h : PostX K mg P T W D σ r) : PostX K mg P T W D σ1 r := by
  cases r with
  | ok fl ρ' => exact Post.fix (r := .ok fl ρ') f h
  | exc x ρ' => exact fun cls d I σ' H' g => h cls d I σ' H' (f.trans g)
  | no => exact h
theorem PostX.nx {T : List Item} {D D' : Ends} {σ : L2.St} {r : Res Fl} {g : Env → Res Fl} (h : PostX K mg P T W D σ (r.bind fun f ρ1 => match f with | .nx => g ρ1 | f => .ok f ρ1)) (e1 : D'.rt = D.rt) (e2 : D'.bk = D.bk) (e3 : D'.ct = D.ct)
    (q : ∀ ρ1 σ' H', Fix P σ σ' → Cov σ' ρ1 → Rep K mg H' (pairs σ' ρ1 ++ T) [] → PostX K mg P T W D σ (g ρ1) → D'.nx σ' H') : PostX K mg P T W D' σ r := by
  cases r with
  | ok fl ρ' =>
    cases fl with
    | nx => exact fun σ' H' f c R => q ρ' σ' H' f c R h
    | brk =>
      have h : Post K mg P T D σ (.ok .brk ρ') := h
      exact fun σ' H' f c R => by rw [e2]; exact h σ' H' f c R
    | ct =>
      have h : Post K mg P T D σ (.ok .ct ρ') := h
      exact fun σ' H' f c R => by rw [e3]; exact h σ' H' f c R
    | ret o =>
      have h : Post K mg P T D σ (.ok (.ret o) ρ') := h
      exact fun v σ' H' f c R => by rw [e1]; exact h v σ' H' f c R
  | exc x ρ' => exact h
  | no => exact h
theorem PostX.more {ks T : List Item} {D : Ends} {σ : L2.St} {r : Res Fl} (h : PostX K mg P T W D σ r) : PostX K mg P (ks ++ T) W D σ r := by
  cases r with
  | ok fl ρ' => exact Post.more (r := .ok fl ρ') h
  | exc x ρ' =>
    intro cls d I σ' H' f c hm hI R
    refine h cls d I σ' H' f c hm hI ?_
    have R1 : Rep K mg H' (ks ++ (I ++ (pairs σ' ρ' ++ T))) [] := R.perm (((List.Perm.append_left I (rot _ _ _))).trans (rot _ _ _))
    exact R1.drops
  | no => exact h
/-! ### raise -/
/-! ### expressions that may raise -/
end

/-! ### defs that may raise -/
section
variable {P : Program} {w : World} {K : PySem.W.Frag} {mg : Str → Option Value} {base : Heap}
end
section
variable {X : Cx} {W : WX}
end
end FB

/-! Exceptions caught: suites, try; what the head says of the classes. -/
namespace FB
open PySem PySem.Spec L2
open PyProof.Rows hiding St

/-! ### the classes -/
def subB (x y : Str) : Bool := decide (x = y) || decide (y = ("BoardError" : Str))
structure ExAll (K : PySem.W.Frag) (mg : Str → Option Value) (es : List Str) : Prop where
  gl : ∀ x ∈ es, mg x = some (.ref (He.ga K x))
  cc : ∀ x ∈ es, ExcC K (He.ga K x)
  kt : ∀ x ∈ es, ∀ y ∈ es, PySem.W.kitOne K (.ref (He.ga K x)) (.ref (He.ga K y)) = some (subB x y)
  em : ∀ x ∈ es, ∀ y ∈ es, PySem.W.exmOne K (.ref (He.ga K x)) (.ref (He.ga K y)) = some (subB x y)
  kv : ∀ x ∈ es, PySem.W.kitOne K (.ref (He.ga K x)) (.type "ValueError") = some true
/-! the head's hook, with wishes of one's own -/
def obsP (px : List (PySem.W.Frag → Bool)) (fa : List He.Fa) (fn : List He.DefD) (K : PySem.W.Frag) : He.AlD := (((He.obsD fa fn K).1 && px.all fun p => p K), (He.obsD fa fn K).2)
def SaysP (px : List (PySem.W.Frag → Bool)) (fa : List He.Fa) (fn : List He.DefD) (K : PySem.W.Frag) : Prop := obsP px fa fn K = He.valD fn
theorem SaysP.says {px : List (PySem.W.Frag → Bool)} {fa : List He.Fa} {fn : List He.DefD} {K : PySem.W.Frag} (c : SaysP px fa fn K) : He.SaysD fa fn K ∧ ∀ p ∈ px, p K = true := by
  have c1 : ((He.obsD fa fn K).1 && px.all fun p => p K) = true := congrArg (fun z : He.AlD => z.1) c
  have c2 : (He.obsD fa fn K).2 = fn.map He.DefD.val := congrArg (fun z : He.AlD => z.2) c
  obtain ⟨h1, h2⟩ := Bool.and_eq_true_iff.mp c1
  exact ⟨Prod.ext h1 c2, fun p hp => List.all_eq_true.mp h2 p hp⟩

section
variable {X : Cx} {K : PySem.W.Frag} {mg : Str → Option Value} {P : List Nat} {W : WX}
/-! ### frames of what is known of a slot and the rest -/
def FrE (a : Addr) (i : Nat) (I : List Item) (σ : L2.St) (T : List Item) : Prop := σ[i]? = some (some (.ref a)) ∧ ∃ T0, T.Perm (I ++ T0)
theorem FrE.more {a : Addr} {i : Nat} {I T : List Item} {σ : L2.St} {z : Item} (h : FrE a i I σ T) : FrE a i I σ (z :: T) := by
  obtain ⟨h1, T0, h2⟩ := h
  exact ⟨h1, z :: T0, (h2.cons z).trans List.perm_middle.symm⟩
theorem FrE.fix {a : Addr} {i : Nat} {I T : List Item} {σ σ' : L2.St} (f : Fix (i :: P) σ σ') (h : FrE a i I σ T) : FrE a i I σ' T := ⟨(f.2 i (List.mem_cons_self ..)).trans h.1, h.2⟩
variable {a : Addr} {i : Nat} {I : List Item}
/-! ### isinstance of what the suite holds -/
variable {x : Exn} {cls : Value} {d : Option Addr} {oe : Obj} {pn : List (Addr × Obj)} {es : List Str}
/-- a tuple of classes -/
structure SCls (X : Cx) (es : List Str) (xs : List Expr) (ys : List Str) : Prop where
  pa : PA X xs (fun _ H Q => Q (ys.map fun y => V.ref (He.ga X.K y)) H)
  mem : ∀ y ∈ ys, y ∈ es
/-! ### e.f -/
end

/-! ### statements of a suite -/
section
variable {X : Cx} {K : PySem.W.Frag} {mg : Str → Option Value} {P : List Nat} {W : WX} {a : Addr} {i : Nat} {I : List Item}
end

/-! ### try -/
section
variable {X : Cx} {P : List Nat} {W : WX}
theorem CxOk.tr {X : Cx} (ok : CxOk X) {pn : List (Addr × Obj)} {xe : Value → Shared → Prop} : CxOk (X.tr pn xe) := ⟨ok.calm, ok.units, ok.nd⟩
theorem Cov.clear {σ : L2.St} {ρ : Env} (c : Cov σ ρ) (i : Nat) : Cov (σ.set i none) (ρ.set i none) := by
  refine ⟨by simp [c.len], fun j q h => ?_⟩
  by_cases e : i = j
  · subst e
    have hj : i < ρ.length := by
      have := (List.getElem?_eq_some_iff.mp h).1
      simpa using this
    simp [hj] at h
  · rw [List.getElem?_set_ne e] at h ⊢
    exact c.ex j q h
end
end FB

/-! A dict against a text: never equal. -/
namespace FB
open PySem PySem.Spec L2 PySem.Calls
open PyProof.Rows hiding St
section
variable {A : Around} {s : Shared}
end
section
variable {X : Cx} {K : PySem.W.Frag} {mg : Str → Option Value}
def O.isD (o : O) : Bool := match o.toD with
  | .dct _ _ => true
  | _ => false
def O.isS (o : O) : Bool := match o.toD with
  | .str _ => true
  | _ => false
/-! x in l -/
def D.isS : D → Bool
  | .str _ => true
  | _ => false
def allS (o : O) : Bool := match o.toD with
  | .lst ds => ds.all D.isS
  | _ => false
def inH (a b : O) : Option O := if (a.isD && allS b) = true then some (.val (.bl false)) else inO a b
/-! ### .upper() -/
/-! ### {k: v} -/
end
end FB

/-! simp rules for what may raise. -/
namespace FB
open PySem PySem.Spec L2
open PyProof.Rows hiding St
variable {ρ : Env}
@[simp] theorem e_sqKx (b : M Fl) (x : Exn) : sqK b (.exc x ρ) = .exc x ρ := (rfl)
@[simp] theorem e_exKx (x : Exn) : exK (.exc x ρ) = .exc x ρ := (rfl)
@[simp] theorem e_rtKx (x : Exn) : rtK (.exc x ρ) = .exc x ρ := (rfl)
@[simp] theorem e_soKx (i : Nat) (x : Exn) : soK i (.exc x ρ) = .exc x ρ := (rfl)
@[simp] theorem toD_dct (ks : List Key) (os : List O) : (O.dct ks os).toD = .dct ks (O.toDs os) := (rfl)
/-! texts, dicts -/
@[simp] theorem inH_str (a : Str) (o : O) : inH (.val (.str a)) o = inO (.val (.str a)) o := (rfl)
@[simp] theorem inH_non (o : O) : inH (.val .non) o = inO (.val .non) o := (rfl)
end FB

/-! enumerate of a tuple; a tuple times a number; texts of the module. -/
namespace ET
open PySem PySem.Sem
open AutoSeq1 (wpAny_loadPart')
section
variable {prog : Program} {w : World} {A : Around} {E : Value → Shared → Prop} {s : Shared}
end
end ET
namespace FB
open PySem PySem.Spec L2
open PyProof.Rows hiding St
section
variable {X : Cx} {K : PySem.W.Frag} {mg : Str → Option Value}
/-! a text of the module -/
end
end FB

/-! Own errors with fields, made and raised. -/
namespace FB
open PySem PySem.Spec L2
open PyProof.Rows hiding St

/-! a hook whose part of the heap holds the statics as well -/
section
variable {X : Cx} {K : PySem.W.Frag} {mg : Str → Option Value}
end
section
variable {P : Program} {w : World} {K : PySem.W.Frag} {mg : Str → Option Value} {base : Heap}
end
section
variable {X : Cx} {P : List Nat} {W : WX}
end
section
variable {X : Cx} {K : PySem.W.Frag} {mg : Str → Option Value}
/-! a tuple times a number -/
end
end FB

/-! is True. -/
namespace FB
open PySem PySem.Spec L2
open PyProof.Rows hiding St
section
variable {X : Cx} {K : PySem.W.Frag} {mg : Str → Option Value}
end
end FB

/-! Raising calls inside expressions: under not, a built-in, as what a comprehension goes over; d.get(k, x) of a dict just made. -/
namespace FB
open PySem PySem.Spec L2
open PyProof.Rows hiding St

section
variable {X : Cx} {W : WX}
/-! d.get(k, x), d a dict just made -/
end
variable {ρ : Env}
@[simp] theorem e_m1Kx (op : O → Option O) (x : Exn) : m1K op (.exc x ρ) = .exc x ρ := (rfl)
@[simp] theorem e_notVKx (x : Exn) : notVK (.exc x ρ) = .exc x ρ := (rfl)
@[simp] theorem e_itAx (x : Exn) : itA (.exc x ρ) = .exc x ρ := (rfl)
end FB

/-! Dicts walked: they are locked meanwhile. -/
namespace FB
open PySem PySem.Spec L2
open PyProof.Rows hiding St
section
variable {X : Cx} {K : PySem.W.Frag} {mg : Str → Option Value}
theorem rd_uniq {G : Hp} {d : Addr} {kvs : List (Key × V)} {u : HO} (h : Rd G d (.dK kvs)) (h2 : Rd G d u) (hu : ∀ o w, u ≠ .frz o w) : u = .dK kvs := by
  rcases h with h | ⟨o, h⟩ <;> rcases h2 with h2 | ⟨o2, h2⟩
  · rw [h] at h2; cases h2; rfl
  · rw [h] at h2; cases h2
  · rw [h] at h2; cases h2; exact absurd rfl (hu _ _)
  · rw [h] at h2; cases h2; rfl
theorem LkS.rdn {d : Addr} {kvs : List (Key × V)} {G G' : Hp} (l : LkS d kvs G G') {a : Addr} {u : HO} (h : Rd G a u) (hu : ∀ o w, u ≠ .frz o w) : Rd G' a u := by
  by_cases e : a = d
  · subst e
    rw [rd_uniq l.rd h hu]; exact l.rd'
  · rcases h with h | ⟨o, h⟩
    · exact .inl ((l.ne a e).trans h)
    · exact .inr ⟨o, (l.ne a e).trans h⟩
theorem LkS.seqT {d : Addr} {kvs : List (Key × V)} {G G' : Hp} (l : LkS d kvs G G') {a : Addr} {xs : List V} (h : SqT K G a xs) : SqT K G' a xs := by
  rcases h with h | h
  · exact .inl (l.rdn h fun _ _ z => by cases z)
  · exact .inr h
theorem LkS.seqL {d : Addr} {kvs : List (Key × V)} {G G' : Hp} (l : LkS d kvs G G') {a : Addr} {xs : List V} (h : SqL K G a xs) : SqL K G' a xs := by
  rcases h with h | h
  · exact .inl (l.rdn h fun _ _ z => by cases z)
  · exact .inr h
mutual
theorem Vw.lk {G G' : Hp} {d : Addr} {kvs : List (Key × V)} (l : LkS d kvs G G') : ∀ {v : V} {x : D}, Vw K mg G v x → Vw K mg G' v x
  | _, _, .non => .non
  | _, _, .bl b => .bl b
  | _, _, .int i => .int i
  | _, _, .str s h => .str s h
  | _, _, .tup h hs => .tup (l.seqT h) (Vws.lk l hs)
  | _, _, .lst h hs => .lst (l.rdn h fun _ _ z => by cases z) (Vws.lk l hs)
  | _, _, .scr h => .scr (l.seqL h)
  | _, _, .fn h => .fn h
  | _, _, .dct h hk hs => .dct (l.rdn h fun _ _ z => by cases z) hk (Vws.lk l hs)
  | _, _, .ins (a := a) h hm hn hs => by
    have e : a ≠ d := fun e => by
      subst e
      rcases l.rd with z | ⟨o, z⟩ <;> rw [h] at z <;> cases z
    exact .ins ((l.ne a e).trans h) hm hn (Vws.lk l hs)
theorem Vws.lk {G G' : Hp} {d : Addr} {kvs : List (Key × V)} (l : LkS d kvs G G') : ∀ {vs : List V} {ds : List D}, Vws K mg G vs ds → Vws K mg G' vs ds
  | _, _, .nil => .nil
  | _, _, .cons h t => .cons (Vw.lk l h) (Vws.lk l t)
end
mutual
theorem VO.lk {G G' H H' : Hp} {d : Addr} {kvs : List (Key × V)} (l : LkS d kvs G G') : ∀ {v : V} {o : O} {as : List Addr}, VO K mg G H v o as → (∀ a ∈ as, H' a = H a) → VO K mg G' H' v o as
  | _, _, _, .val h, _ => .val (h.lk l)
  | _, _, _, .lst h hs, q => .lst ((q _ (by simp)).trans h) (VOs.lk l hs fun a ha => q a (by simp [ha]))
  | _, _, _, .dct h hk hs, q => .dct ((q _ (by simp)).trans h) hk (VOs.lk l hs fun a ha => q a (by simp [ha]))
  | _, _, _, .ins h hm hn hs, q => .ins ((q _ (by simp)).trans h) hm hn (VOs.lk l hs fun a ha => q a (by simp [ha]))
theorem VOs.lk {G G' H H' : Hp} {d : Addr} {kvs : List (Key × V)} (l : LkS d kvs G G') : ∀ {vs : List V} {os : List O} {as : List Addr}, VOs K mg G H vs os as → (∀ a ∈ as, H' a = H a) → VOs K mg G' H' vs os as
  | _, _, _, .nil, _ => .nil
  | _, _, _, .cons h t, q => .cons (VO.lk l h fun a ha => q a (by simp [ha])) (VOs.lk l t fun a ha => q a (by simp [ha]))
end
/-- the item locks another one -/
def NoPin (d : Addr) : Item → Prop
  | .pin p _ _ => p ≠ d
  | .but _ x => NoPin d x
  | _ => True
theorem LkS.ers {d2 d : Addr} {kvs : List (Key × V)} {G G' : Hp} (l : LkS d kvs G G') (h : d ≠ d2) : LkS d kvs (ers d2 G) (ers d2 G') := by
  refine ⟨fun a ha => ?_, ?_, ?_⟩
  · unfold FB.ers
    split
    · rfl
    · exact l.ne a ha
  · rcases l.rd with q | ⟨o, q⟩
    · exact .inl (by rw [ers_ne h]; exact q)
    · exact .inr ⟨o, by rw [ers_ne h]; exact q⟩
  · rcases l.rd' with q | ⟨o, q⟩
    · exact .inl (by rw [ers_ne h]; exact q)
    · exact .inr ⟨o, by rw [ers_ne h]; exact q⟩
theorem IOk.lk {G G' H H' : Hp} {d : Addr} {kvs : List (Key × V)} (l : LkS d kvs G G') {x : Item} {as : List Addr} (h : IOk K mg G H x as) (n : NoPin d x) (q : ∀ a ∈ as, H' a = H a) : IOk K mg G' H' x as := by
  induction h generalizing G' H' with
  | ov h => exact .ov (h.lk l q)
  | raw h => exact .raw ((q _ (by simp)).trans h)
  | pin h => exact .pin ((l.ne _ n).trans h)
  | @but G H d2 x as h ih =>
    by_cases e : d = d2
    · subst e
      have e2 : ers d G' = ers d G := by
        funext a
        unfold ers
        split
        · rfl
        · rename_i ha; exact l.ne a ha
      refine .but ?_
      rw [e2]
      exact h.mono (Same.refl _) q
    · exact .but (ih (l.ers e) n q)
theorem IOk.noPin {G H : Hp} {d : Addr} {x : Item} {as : List Addr} (h : IOk K mg G H x as) : (∀ od u, G d ≠ some (.frz od u)) → NoPin d x := by
  induction h with
  | ov h => exact fun _ => trivial
  | raw h => exact fun _ => trivial
  | pin h => exact fun z e => by subst e; exact z _ _ h
  | @but G H d2 x as h ih =>
    intro z
    refine ih fun od u q => ?_
    exact z od u (ers_some q).2
theorem IsOk.lk {G G' H H' : Hp} {d : Addr} {kvs : List (Key × V)} (l : LkS d kvs G G') : ∀ {L : List Item} {as : List Addr}, IsOk K mg G H L as → (∀ x ∈ L, NoPin d x) → (∀ a ∈ as, H' a = H a) → IsOk K mg G' H' L as
  | _, _, .nil, _, _ => .nil
  | _, _, .cons h t, n, q => by
    refine .cons ?_ (IsOk.lk l t (fun x hx => n x (List.mem_cons_of_mem _ hx)) fun a ha => q a (by simp [ha]))
    exact h.lk l (n _ (List.mem_cons_self ..)) fun a ha => q a (by simp [ha])
theorem IsOk.noPin {G H : Hp} {d : Addr} {kvs : List (Key × V)} (h : G d = some (.dK kvs)) : ∀ {L : List Item} {as : List Addr}, IsOk K mg G H L as → ∀ x ∈ L, NoPin d x
  | _, _, .nil, x, hx => by simp at hx
  | _, _, .cons q t, x, hx => by
    rcases List.mem_cons.mp hx with e | hx
    · subst e
      exact q.noPin fun od u z => by rw [h] at z; cases z
    · exact IsOk.noPin h t x hx
variable {H : Hp} {L : List Item}
/-- a shared dict: it stands locked, or it may be locked -/
theorem Rep.dctAt {v : V} {ks : List Key} {ds : List D} (R : Rep K mg H (.ov v (.val (.dct ks ds)) :: L) []) :
    ∃ d kvs, v = .ref d ∧ kvs.map (·.1) = ks ∧ ((∃ od, H d = some (.frz od (.dK kvs)) ∧ Rep K mg H (.pin d od (.dK kvs) :: L) []) ∨
      (H d = some (.dK kvs) ∧ (∀ x ∈ L, NoPin d x) ∧ ∀ od, Rep K mg (upd H d (.frz od (.dK kvs))) (.pin d od (.dK kvs) :: L) [])) := by
  obtain ⟨A, nd, ok, hb⟩ := R
  cases ok with
  | cons h t =>
    cases h with
    | ov h =>
      cases h with
      | val h =>
        cases h with
        | dct h hk hs =>
          rename_i d kvs
          refine ⟨d, kvs, rfl, hk.1, ?_⟩
          rcases h with h | ⟨od, h⟩
          · obtain ⟨hA, hd⟩ := hide_some h
            refine .inr ⟨hd, t.noPin h, fun od => ?_⟩
            have e : hide (upd H d (.frz od (.dK kvs))) _ d = some (.frz od (.dK kvs)) := (hide_out hA).trans upd_same
            refine ⟨_, nd, .cons (as := []) (.pin e) (t.lk (d := d) (kvs := kvs) ⟨fun a ha => ?_, .inl h, .inr ⟨od, e⟩⟩ (t.noPin h) fun a ha => upd_ne fun z => hA (z ▸ ha)), fun _ z => by simp at z⟩
            unfold hide
            rw [upd_ne ha]
          · exact .inl ⟨od, (hide_some h).2, _, nd, .cons (as := []) (.pin h) t, fun _ z => by simp at z⟩
theorem Rep.pinAt {d : Addr} {od : Obj} {u : HO} (R : Rep K mg H (.pin d od u :: L) []) : H d = some (.frz od u) := by
  obtain ⟨A, nd, ok, hb⟩ := R
  cases ok with
  | cons h t =>
    cases h with
    | pin h => exact (hide_some h).2
theorem Rep.unlock {d : Addr} {od : Obj} {kvs : List (Key × V)} (R : Rep K mg H (.pin d od (.dK kvs) :: L) []) (n : ∀ x ∈ L, NoPin d x) : Rep K mg (upd H d (.dK kvs)) L [] := by
  obtain ⟨A, nd, ok, hb⟩ := R
  cases ok with
  | cons h t =>
    rename_i bs
    cases h with
    | pin h =>
      obtain ⟨hA, hd⟩ := hide_some h
      have hA : d ∉ bs := hA
      have e : hide (upd H d (.dK kvs)) ([] ++ bs) d = some (.dK kvs) := (hide_out hA).trans upd_same
      refine ⟨bs, nd, t.lk (d := d) (kvs := kvs) ⟨fun a ha => ?_, .inr ⟨od, h⟩, .inl e⟩ n fun a ha => upd_ne fun z => hA (z ▸ ha), fun _ z => by simp at z⟩
      unfold hide
      rw [upd_ne ha]
theorem NoPin.pairs {d : Addr} : ∀ {σ : L2.St} {ρ : Env}, ∀ x ∈ pairs σ ρ, NoPin d x := by
  intro σ
  induction σ with
  | nil => intro ρ x hx; rw [pairs_nil] at hx; simp at hx
  | cons v σ ih =>
    intro ρ x hx
    cases ρ with
    | nil => rw [pairs_nil'] at hx; simp at hx
    | cons o ρ =>
      cases v with
      | none => rw [pairs_ns] at hx; exact ih x hx
      | some v =>
        cases o with
        | none => rw [pairs_sn] at hx; exact ih x hx
        | some o =>
          rw [pairs_ss] at hx
          rcases List.mem_cons.mp hx with e | hx
          · subst e; trivial
          · exact ih x hx
def keyD : Key → D
  | .inl i => .int i
  | .inr s => .str s
def keyOk : Key → Bool
  | .inl _ => true
  | .inr s => PyData.strOk s
theorem key_vwD {G : Hp} {k : Key} (h : keyOk k = true) : Vw K mg G (kV k) (keyD k) := by
  cases k with
  | inl i => exact .int i
  | inr s => exact .str s h
theorem its_keys {d : Addr} {od : Obj} {kvs : List (Key × V)} (hk : (kvs.map (·.1)).all keyOk = true) : Its K mg (Itk d od kvs) [.pin d od (.dK kvs)] ((kvs.map (·.1)).map keyD) := by
  intro L H R
  have hH := Rep.pinAt R
  refine ⟨fun i x hx => ?_, ⟨hH, by simp⟩⟩
  have hi : i < kvs.length := by
    have := (List.getElem?_eq_some_iff.mp hx).1
    simpa using this
  refine ⟨⟨hH, hi⟩, fun y H' q => ?_⟩
  obtain ⟨e, k, v, q1, q2⟩ := q
  subst e q2
  refine ⟨Same.refl _, ?_⟩
  rw [List.map_map, List.getElem?_map, q1] at hx
  cases hx
  refine R.scal fun G => key_vwD ?_
  rw [List.all_eq_true] at hk
  exact hk k (List.mem_map.mpr ⟨_, List.mem_of_getElem? q1, rfl⟩)
/-- a name's dict is shared from now on; its keys -/
def keysOf (i : Nat) (ρ : Env) : Option (List D × Env) := match ρ[i]? with
  | some (some o) => match o.toD with
    | .dct ks ds => if ks.all keyOk = true ∧ ks.length ≤ 1000000 then some (ks.map keyD, ρ.set i (some (.val (.dct ks ds)))) else none
    | _ => none
  | _ => none
theorem keysOf_eq {i : Nat} {ρ : Env} {p : List D × Env} (h : keysOf i ρ = some p) : ∃ o ks ds, ρ[i]? = some (some o) ∧ o.toD = .dct ks ds ∧ ks.all keyOk = true ∧ p = (ks.map keyD, ρ.set i (some (.val (.dct ks ds)))) ∧ ks.length ≤ 1000000 := by
  unfold keysOf at h
  split at h
  · rename_i o e
    split at h
    · rename_i ks ds e2
      split at h
      · rename_i hk
        cases h
        exact ⟨o, ks, ds, e, e2, hk.1, rfl, hk.2⟩
      · cases h
    · cases h
  · cases h
/-- the name's tree is shared from now on (nothing is done) -/
theorem Rep.frzAt {σ : L2.St} {ρ : Env} {T : List Item} {i : Nat} {v : V} {o : O} (hv : σ[i]? = some (some v)) (e : ρ[i]? = some (some o)) (R : Rep K mg H (pairs σ ρ ++ T) []) :
    Rep K mg H (pairs σ (ρ.set i (some (.val o.toD))) ++ T) [] ∧ Rep K mg H (.ov v (.val o.toD) :: (pairs σ (ρ.set i (some (.val o.toD))) ++ T)) [] := by
  have hl : i < ρ.length := (List.getElem?_eq_some_iff.mp e).1
  have R1 := (R.perm ((pairs_take hv e).append_right T)).frz
  have R2 : Rep K mg H (.ov v (.val o.toD) :: (.ov v (.val o.toD) :: pairs σ (ρ.set i none) ++ T)) [] := R1.lend.keep
  exact ⟨R1.perm ((pairs_back hv hl).append_right T), R2.perm (((pairs_back hv hl).append_right T).cons _)⟩
def mForK (i : Nat) (a : D → Env → Option Env) (b : M Fl) : M Fl := fun ρ => match keysOf i ρ with
  | some p => forL a b p.1 p.2
  | none => .no
theorem psOr {X : Cx} {st : Stmt} {t u : TS} (h : PS X st t) (h' : PS X st u) : PS X st (fun D σ H => t D σ H ∨ u D σ H) := ⟨fun pins s σ H D I w => w.elim (fun w => h.run pins s σ H D I w) fun w => h'.run pins s σ H D I w⟩
theorem peOr {X : Cx} {e : Expr} {t u : TE} (h : PE X e t) (h' : PE X e u) : PE X e (fun σ H Q => t σ H Q ∨ u σ H Q) := ⟨fun pins s σ H Q I w => w.elim (fun w => h.run pins s σ H Q I w) fun w => h'.run pins s σ H Q I w⟩
theorem Post.lock {P : List Nat} {T : List Item} {D : Ends} {σ : L2.St} {d : Addr} {od : Obj} {kvs : List (Key × V)} {r : Res Fl} (n : ∀ x ∈ T, NoPin d x) (h : Post K mg P T D σ r) :
    Post K mg P ([.pin d od (.dK kvs)] ++ T) ⟨fun σ' H' => H' d = some (.frz od (.dK kvs)) ∧ D.nx σ' (upd H' d (.dK kvs)), fun v H' => H' d = some (.frz od (.dK kvs)) ∧ D.rt v (upd H' d (.dK kvs)), fun σ' H' => H' d = some (.frz od (.dK kvs)) ∧ D.bk σ' (upd H' d (.dK kvs)), fun σ' H' => H' d = some (.frz od (.dK kvs)) ∧ D.ct σ' (upd H' d (.dK kvs))⟩ σ r := by
  have nn : ∀ (σ' : L2.St) (ρ' : Env), ∀ x ∈ pairs σ' ρ' ++ T, NoPin d x := fun σ' ρ' x hx => (List.mem_append.mp hx).elim (NoPin.pairs x) (n x)
  cases r with
  | ok fl ρ' =>
    cases fl with
    | nx => exact fun σ' H' f c R => ⟨(R.perm List.perm_middle).pinAt, h σ' _ f c ((R.perm List.perm_middle).unlock (nn σ' ρ'))⟩
    | brk => exact fun σ' H' f c R => ⟨(R.perm List.perm_middle).pinAt, h σ' _ f c ((R.perm List.perm_middle).unlock (nn σ' ρ'))⟩
    | ct => exact fun σ' H' f c R => ⟨(R.perm List.perm_middle).pinAt, h σ' _ f c ((R.perm List.perm_middle).unlock (nn σ' ρ'))⟩
    | ret o =>
      intro v σ' H' f c R
      have R1 := R.perm ((List.perm_middle (l₂ := T).cons _).trans (.swap _ _ _))
      refine ⟨R1.pinAt, h v σ' _ f c (R1.unlock fun x hx => ?_)⟩
      rcases List.mem_cons.mp hx with e | hx
      · subst e; trivial
      · exact nn σ' ρ' x hx
  | exc x ρ' => exact h
  | no => exact h
theorem ss_forK (i : Nat) {P : List Nat} {x : Str} {p pos : Pos} {tg : Expr} {body : List Stmt} {a : D → Env → Option Env} {b : M Fl} (ok : CxOk X) (hp : PassesOwn (model X.prog X.w) X.A X.env X.xe) (hg : SG X (Fix P) tg a) (hb : SSs X P body b)
    (hN : X.N[i]? = some x := by rfl) (hv : Vis X.env.scope x := by first | exact Or.inl rfl | exact Or.inr (Or.inl rfl) | exact Or.inr (Or.inr rfl)) (hd : (x == ("__debug__" : Str)) = false := by decide) (hcd : (x == ("__classdict__" : Str)) = false := by decide)
    (hs : ∀ y, foldedSetIterable (.Name x p) X.env y = pure y := by intro _; rfl) : SS X P (.For tg (.Name x p) body [] pos) (mForK i a b) := by
  have s1 := ps_for (pos := pos) hp ok.calm (pi_keys (pv (pos := p) i hN hv hd hcd)) hg hb hs
  refine PS.imp (psOr s1 (ps_lock s1)) fun D σ H w => ?_
  obtain ⟨ρ, T, cv, R, h⟩ := tS_iff.mp w
  unfold mForK at h
  split at h
  · rename_i q eq
    obtain ⟨o, ks, ds, e1, e2, hk, rfl, _⟩ := keysOf_eq eq
    obtain ⟨v, hv⟩ := cv.ex i o e1
    obtain ⟨R1, R2⟩ := R.frzAt hv e1
    rw [e2] at R1 R2
    have c1 := cv.put hv (.val (.dct ks ds))
    obtain ⟨d, kvs, rfl, hks, hh⟩ := R2.dctAt
    subst hks
    rcases hh with ⟨od, hH, R3⟩ | ⟨hH, n, R3⟩
    · exact .inl ⟨_, hv, d, od, rfl, .inl ⟨kvs, hH, for_core c1 (its_keys hk) R3 (Post.more h)⟩⟩
    · refine .inr ⟨d, .dK kvs, hH, trivial, fun od => ⟨_, hv, d, od, rfl, .inl ⟨kvs, upd_same, for_core c1 (its_keys hk) (R3 od) ?_⟩⟩⟩
      exact Post.lock (fun x hx => n x (List.mem_append_right _ hx)) h
  · exact h.elim
/-! comprehensions -/
def mCompK (i : Nat) (own : List Nat) (a : D → Env → Option Env) (t : M Bool) (e : M O) : M O := fun ρ => match keysOf i ρ with
  | some p => (compL own a t e p.1 (wipeE p.2 own)).bind fun fin ρ2 => .ok (.lst fin) (backE (wipeE ρ2 own) p.2 own)
  | none => .no
theorem compK_core {i : Nat} {own : List Nat} {g : TG} {tt : TT} {te : TE} {a : D → Env → Option Env} {t : M Bool} {e : M O} (nd : own.Nodup)
    (hg : ∀ v σ H Q, tG K mg (Wip own) a v σ H Q → g v σ H Q) (ht : ∀ σ H Q, tMT K mg t σ H Q → tt σ H Q) (he : ∀ σ H Q, tM K mg e σ H Q → te σ H Q)
    (σ : L2.St) (H : Hp) (Q : VK) (w : tM K mg (mCompK i own a t e) σ H Q) : tLc (iKeys (tVar i)) g tt te own σ H Q ∨ tLockE (tLc (iKeys (tVar i)) g tt te own) σ H Q := by
  obtain ⟨ρ, T, o, ρ', cv, R, e0, k⟩ := w
  unfold mCompK at e0
  split at e0
  · rename_i q eq
    obtain ⟨o1, ks, ds, e1, e2, hk, rfl, hlen⟩ := keysOf_eq eq
    obtain ⟨fin, ρ2, e3, e0⟩ := Res.bind_eq e0
    cases e0
    obtain ⟨v, hv⟩ := cv.ex i o1 e1
    obtain ⟨R1, R2⟩ := R.frzAt hv e1
    rw [e2] at R1 R2
    have c1 := cv.put hv (.val (.dct ks ds))
    obtain ⟨d, kvs, rfl, hks, hh⟩ := R2.dctAt
    subst hks
    have hl : ((kvs.map (·.1)).map keyD).length ≤ 1000000 := by simpa using hlen
    rcases hh with ⟨od, hH, R3⟩ | ⟨hH, n, R3⟩
    · refine .inl ⟨_, hv, d, od, rfl, .inl ⟨kvs, hH, fun D hD => ?_⟩⟩
      exact comp_core0 nd hg ht he hl c1 (its_keys hk) R3 e3 hD fun H' c' R' => k _ H' c' ((R'.perm List.perm_middle.symm).drops)
    · refine .inr ⟨d, .dK kvs, hH, trivial, fun od => ⟨_, hv, d, od, rfl, .inl ⟨kvs, upd_same, fun D hD => ?_⟩⟩⟩
      refine comp_core0 (Q := fun v H' => H' d = some (.frz od (.dK kvs)) ∧ Q v (upd H' d (.dK kvs))) nd hg ht he hl c1 (its_keys hk) (R3 od) e3 hD fun H' c' R' => ?_
      have R4 := R'.perm (.swap _ _ _)
      refine ⟨R4.pinAt, k _ _ c' (R4.unlock fun x hx => ?_)⟩
      rcases List.mem_cons.mp hx with e | hx
      · subst e; trivial
      · have hx : x ∈ pairs σ (backE (wipeE ρ2 own) (List.set ρ i (some (.val (.dct (kvs.map (·.1)) ds)))) own) ++ T := hx
        exact (List.mem_append.mp hx).elim (NoPin.pairs x) fun z => n x (List.mem_append_right _ z)
  · cases e0
theorem se_compK (i : Nat) {x : Str} {p : Pos} {tg elt : Expr} {ifs : List Expr} {scope : Scope} {own : List (Str × Nat)} {pos : Pos} {a : D → Env → Option Env} {t : M Bool} {e : M O} (ok : CxOk X) (bo : BlkOk X.N X.env.scope scope own)
    (hg : ∀ (s : Shared) (H : Hp) (C : Addr) (cl : List (Str × Addr)) (fp : List Addr), SG (X.blk s H scope (compEnvC scope cl C X.env) fp) (Wip (own2 own)) tg a) (ht : ∀ (s : Shared) (H : Hp) (C : Addr) (cl : List (Str × Addr)) (fp : List Addr), SETs (X.blk s H scope (compEnvC scope cl C X.env) fp) ifs t)
    (he : ∀ (s : Shared) (H : Hp) (C : Addr) (cl : List (Str × Addr)) (fp : List Addr), SE (X.blk s H scope (compEnvC scope cl C X.env) fp) elt e) (nd : (own2 own).Nodup := by decide)
    (hN : X.N[i]? = some x := by rfl) (hv : Vis X.env.scope x := by first | exact Or.inl rfl | exact Or.inr (Or.inl rfl) | exact Or.inr (Or.inr rfl)) (hd : (x == ("__debug__" : Str)) = false := by decide) (hcd : (x == ("__classdict__" : Str)) = false := by decide)
    (hs : ∀ y, foldedSetIterable (.Name x p) X.env y = pure y := by intro _; rfl) :
    SE X (.ListComp elt [⟨tg, .Name x p, ifs, 0⟩] scope pos) (mCompK i (own2 own) a t e) := by
  have s1 := pe_lc (pos := pos) (wi := iKeys (tVar i)) (g := tG X.K X.mg (Wip (own2 own)) a) (tt := tMT X.K X.mg t) (te := tM X.K X.mg e) ok.calm ok.nd (pi_keys (pv (pos := p) i hN hv hd hcd)) bo hg ht he hs
  exact PE.imp (peOr s1 (pe_lock s1)) (compK_core nd (fun _ _ _ _ w => w) (fun _ _ _ w => w) (fun _ _ _ w => w))
end
end FB

/-! Lists turned round, dicts copied, counted, compared, their keys. -/
namespace FB
open PySem PySem.Spec L2
open PyProof.Rows hiding St
section
variable {X : Cx} {K : PySem.W.Frag} {mg : Str → Option Value}
/-! ### xs[::-1] -/
/-! ### list(d), len(d) -/
theorem Rep.keys {H : Hp} {L : List Item} {B : List (V × O)} (R : Rep K mg H L B) : ∀ {ks : List Key}, ks.all keyOk = true → Rep K mg H (zipI (ks.map kV) ((ks.map keyD).map O.val) ++ L) B
  | [], _ => R
  | k :: ks, h => by
    rw [List.all_cons, Bool.and_eq_true] at h
    exact Rep.scal (Rep.keys R h.2) fun G => key_vwD h.1
def listKO (a : O) : Option O := (dctP a).bind fun p => if p.1.all keyOk = true then some (.val (.lst (p.1.map keyD))) else none
theorem unv_listK : UnV K mg (fun x H Q => ∃ a kvs, [x] = [.ref a] ∧ Rd H a (.dK kvs) ∧ ∀ p, H p = none → Q (.ref p) (upd H p (.lst (kvs.map fun kv => kV kv.1)))) listKO := by
  intro H L B x ox o Q R hx e k
  unfold listKO at e
  cases e1 : dctP ox with
  | none => rw [e1] at e; cases e
  | some p =>
    rw [e1] at e
    have e : (if p.1.all keyOk = true then some (O.val (.lst (p.1.map keyD))) else none) = some o := e
    split at e
    · rename_i hk
      cases e
      obtain ⟨a, kvs, rfl, h1, h2, h3, h4, h5⟩ := R.dctV hx e1
      refine ⟨a, kvs, rfl, h1, fun q hq => k _ _ (sameNew hq) ?_⟩
      have e2 : (kvs.map fun kv => kV kv.1) = p.1.map kV := by rw [← h2, List.map_map]; rfl
      rw [e2]
      exact Rep.lentL (R.keys hk) (by simp) hq
    · cases e
def lenKO (a : O) : Option O := (dctP a).map fun p => .val (.int p.1.length)
theorem call_lenK : CallR X (.builtin "len") (fun xs H Q => ∃ a kvs, xs = [V.ref a] ∧ Rd H a (.dK kvs) ∧ Q (.int kvs.length) H) := by
  intro pins s σ H xs us Q I r h
  obtain ⟨a, kvs, rfl, ha, q⟩ := h
  obtain ⟨u, rfl, ru⟩ := vals1 r
  obtain rfl : u = Value.ref a := ru
  exact d_len I ha fun t s' I' => ⟨V.int kvs.length, H, I', ⟨t, rfl⟩, q⟩
theorem unv_lenK : UnV K mg (fun x H Q => ∃ a kvs, [x] = [V.ref a] ∧ Rd H a (.dK kvs) ∧ Q (.int kvs.length) H) lenKO := by
  intro H L B x ox o Q R hx e k
  unfold lenKO at e
  cases e1 : dctP ox with
  | none => rw [e1] at e; cases e
  | some p =>
    rw [e1] at e
    cases e
    obtain ⟨a, kvs, rfl, h1, h2, h3, h4, h5⟩ := R.dctV hx e1
    refine ⟨a, kvs, rfl, h1, k _ _ (Same.refl _) ?_⟩
    rw [show (kvs.length : Int) = (p.1.length : Int) by rw [← h2]; simp]
    exact R.scalB fun G => .int _
/-! ### dict(d) -/
/-! ### d == e -/
/-- dict(pairs), one's own -/
def dpO2 (ρ : Env) : Option (List (Key × D)) → Res O
  | some kvs => .ok (.dct (mergeL ([], []) kvs).1 ((mergeL ([], []) kvs).2.map O.val)) ρ
  | none => .no
def dpO1 (ρ : Env) : D → Res O
  | .lst ds => dpO2 ρ (prs? ds)
  | _ => .no
def mDictPO (m : M O) : M O := fun ρ => (m ρ).bind fun o ρ1 => dpO1 ρ1 o.toD
theorem se_dictPO {a : Expr} {p pos : Pos} {m : M O} (ok : CxOk X) (hg : Gl X "dict") (hm : X.mg "dict" = none) (hv : bootBuiltins "dict" = some (.type "dict")) (ha : SE X a m)
    (hst : starEach (a :: []) X.env = (false, eval a X.env) :: starEach [] X.env := by rfl) (hpl : (backTo pos (starEach [] X.env)).any (·.1) = false := by rfl) : SE X (.Call (.Name "dict" p) [a] [] pos) (mDictPO m) :=
  PE.imp (pe_callTy (call_dictP ok.calm) hg hm hv (pa_cons ha pa_nil hst) (by decide) (by decide) hst hpl) fun σ H Q w => by
    obtain ⟨ρ, T, o, ρ', c, R, e0, k⟩ := w
    obtain ⟨u, ρ1, e1, e0⟩ := Res.bind_eq e0
    refine ⟨ρ, T, u, ρ1, c, R, e1, fun y H1 c1 R1 => ?_⟩
    have R2 := R1.frz
    cases hd : u.toD with
    | lst ds =>
      rw [hd] at e0 R2
      have e0 : dpO2 ρ1 (prs? ds) = .ok o ρ' := e0
      cases ep : prs? ds with
      | none => rw [ep] at e0; cases e0
      | some kvs =>
        rw [ep] at e0
        cases e0
        obtain ⟨A, nd, okk, hb0⟩ := id R2
        cases okk with
        | cons h t =>
          rename_i a9 b9
          cases h with
          | ov h =>
            cases h with
            | val h =>
              cases h with
              | lst q1 q2 =>
                rename_i pa vs
                obtain ⟨ps, ws, ev, h2, h3, h4⟩ := prs_views q2 ep
                subst ev
                have pm : Paired (fun p kv => SqT X.K H1 p [kV kv.1, kv.2]) ps ws := by
                  clear h3 h4 q1 q2 ep nd t R2 R1 hb0
                  induction h2 with
                  | nil => exact .nil
                  | cons h _ ih => exact .cons (sqT_hide h) ih
                obtain ⟨m1, m2, m3⟩ := merge_views (acc := []) (ks := []) (ds := []) h3 h4 rfl List.nodup_nil .nil
                refine ⟨pa, ps, ws, rfl, .inl (rd_hide q1), pm, fun q hq => k _ _ c1 ?_⟩
                have R3 : Rep X.K X.mg H1 (zipI ((mergeK [] ws).map (·.2)) ((mergeL ([], []) kvs).2.map O.val) ++ (pairs σ ρ' ++ T)) [] := Rep.items ⟨_, nd, t, fun _ z => by simp at z, m3⟩
                exact Rep.closeD (R3.new hq) (by have := m3.length; simpa using this) ⟨m1, m2⟩
    | _ => rw [hd] at e0; cases e0
variable {ρ : Env}
@[simp] theorem lenKO_val (ks : List Key) (ds : List D) : lenKO (.val (.dct ks ds)) = some (.val (.int ks.length)) := (rfl)
@[simp] theorem lenKO_dct (ks : List Key) (os : List O) : lenKO (.dct ks os) = some (.val (.int ks.length)) := (rfl)
theorem listKO_val (ks : List Key) (ds : List D) (h : ks.all keyOk = true) : listKO (.val (.dct ks ds)) = some (.val (.lst (ks.map keyD))) := if_pos h
/-- what the loop over a name's dict is -/
theorem keysOf_val {i : Nat} {ks : List Key} {ds : List D} (h : ρ[i]? = some (some (.val (.dct ks ds)))) (hk : ks.all keyOk = true) (hl : ks.length ≤ 1000000) : keysOf i ρ = some (ks.map keyD, ρ) := by
  unfold keysOf
  rw [h]
  show (if ks.all keyOk = true ∧ ks.length ≤ 1000000 then _ else _) = _
  rw [if_pos ⟨hk, hl⟩]
  congr 2
  apply List.ext_getElem?
  intro j
  by_cases e : i = j
  · subst e
    have hi := (List.getElem?_eq_some_iff.mp h).1
    rw [List.getElem?_set_self hi, h]
  · rw [List.getElem?_set_ne e]
theorem keysOf_dct {i : Nat} {ks : List Key} {os : List O} (h : ρ[i]? = some (some (.dct ks os))) (hk : ks.all keyOk = true) (hl : ks.length ≤ 1000000) : keysOf i ρ = some (ks.map keyD, ρ.set i (some (.val (.dct ks (O.toDs os))))) := by
  unfold keysOf
  rw [h]
  exact if_pos ⟨hk, hl⟩
theorem e_mCompK {i : Nat} {own : List Nat} {a : D → Env → Option Env} {t : M Bool} {e : M O} {ds : List D} {ρ' : Env} (h : keysOf i ρ = some (ds, ρ')) : mCompK i own a t e ρ = (compL own a t e ds (wipeE ρ' own)).bind fun fin ρ2 => .ok (.lst fin) (backE (wipeE ρ2 own) ρ' own) := by
  unfold mCompK; rw [h]
def dpOK : Res O → Res O
  | .ok o ρ => dpO1 ρ o.toD
  | .exc x ρ => .exc x ρ
  | .no => .no
@[simp] theorem e_mDictPO (m : M O) : mDictPO m ρ = dpOK (m ρ) := by unfold mDictPO dpOK; cases m ρ <;> rfl
@[simp] theorem e_dpOK (o : O) : dpOK (.ok o ρ) = dpO1 ρ o.toD := (rfl)
@[simp] theorem e_dpO1 (ds : List D) : dpO1 ρ (.lst ds) = dpO2 ρ (prs? ds) := (rfl)
@[simp] theorem e_dpO2 (kvs : List (Key × D)) : dpO2 ρ (some kvs) = .ok (.dct (mergeL ([], []) kvs).1 ((mergeL ([], []) kvs).2.map O.val)) ρ := (rfl)
end
end FB

/-! Comprehensions and loops whose turns simp computes. -/
namespace FB
open PySem PySem.Spec L2
open PyProof.Rows hiding St
variable {ρ : Env}
/-- a turn of a comprehension -/
def cstep (own : List Nat) (a : D → Env → Option Env) (t : M Bool) (e : M O) (d : D) (ρ : Env) : Res (Option O) := match a d ρ with
  | none => .no
  | some ρ1 => (t ρ1).bind fun b ρ2 => if b = true then (e ρ2).bind fun o ρ3 => .ok (some o) (wipeE ρ3 own) else .ok none (wipeE ρ2 own)
def csE (own : List Nat) : Res O → Res (Option O)
  | .ok o ρ => .ok (some o) (wipeE ρ own)
  | .exc x ρ => .exc x ρ
  | .no => .no
def csT (own : List Nat) (e : M O) : Res Bool → Res (Option O)
  | .ok b ρ => if b = true then csE own (e ρ) else .ok none (wipeE ρ own)
  | .exc x ρ => .exc x ρ
  | .no => .no
def csS (own : List Nat) (t : M Bool) (e : M O) : Option Env → Res (Option O)
  | some ρ => csT own e (t ρ)
  | none => .no
@[simp] theorem e_cstep (own : List Nat) (a : D → Env → Option Env) (t : M Bool) (e : M O) (d : D) : cstep own a t e d ρ = csS own t e (a d ρ) := by
  unfold cstep csS
  cases a d ρ with
  | none => rfl
  | some ρ1 =>
    show (t ρ1).bind _ = csT own e (t ρ1)
    unfold csT
    cases t ρ1 with
    | ok b ρ2 =>
      show (if b = true then (e ρ2).bind _ else _) = if b = true then csE own (e ρ2) else _
      unfold csE
      cases e ρ2 <;> rfl
    | exc x ρ2 => rfl
    | no => rfl
@[simp] theorem e_csS (own : List Nat) (t : M Bool) (e : M O) : csS own t e (some ρ) = csT own e (t ρ) := (rfl)
@[simp] theorem e_csT (own : List Nat) (e : M O) (b : Bool) : csT own e (.ok b ρ) = if b = true then csE own (e ρ) else .ok none (wipeE ρ own) := (rfl)
@[simp] theorem e_csE (own : List Nat) (o : O) : csE own (.ok o ρ) = .ok (some o) (wipeE ρ own) := (rfl)
theorem compL_step {own : List Nat} {a : D → Env → Option Env} {t : M Bool} {e : M O} (d : D) (ds : List D) : compL own a t e (d :: ds) ρ = (cstep own a t e d ρ).bind fun o ρ1 => match o with
    | some o => (compL own a t e ds ρ1).bind fun os ρ2 => .ok (o :: os) ρ2
    | none => compL own a t e ds ρ1 := by
  show (match a d ρ with | none => Res.no | some ρ1 => (t ρ1).bind fun b ρ2 => if b = true then (e ρ2).bind fun o ρ3 => (compL own a t e ds (wipeE ρ3 own)).bind fun os ρ4 => .ok (o :: os) ρ4 else compL own a t e ds (wipeE ρ2 own)) = _
  unfold cstep
  cases a d ρ with
  | none => rfl
  | some ρ1 =>
    show (t ρ1).bind _ = ((t ρ1).bind _).bind _
    cases t ρ1 with
    | ok b ρ2 =>
      cases b with
      | true =>
        show (e ρ2).bind _ = ((e ρ2).bind _).bind _
        cases e ρ2 <;> rfl
      | false => rfl
    | exc x ρ2 => rfl
    | no => rfl
theorem compL_fn {α : Type} {own : List Nat} {a : D → Env → Option Env} {t : M Bool} {e : M O} (f : α → D) (c : α → Bool) (g : α → O) : ∀ {xs : List α},
    (∀ x ∈ xs, cstep own a t e (f x) ρ = if c x = true then .ok (some (g x)) ρ else .ok none ρ) → compL own a t e (xs.map f) ρ = .ok ((xs.filter c).map g) ρ
  | [], _ => rfl
  | x :: xs, h => by
    have ih := compL_fn (own := own) (a := a) (t := t) (e := e) f c g (xs := xs) fun d hd => h d (List.mem_cons_of_mem _ hd)
    rw [List.map_cons, compL_step, h x (List.mem_cons_self ..)]
    cases hc : c x with
    | true => simp [ih, hc]
    | false => simp [ih, hc]
theorem wipeE_get (ρ : Env) : ∀ (own : List Nat) (j : Nat), (wipeE ρ own)[j]? = if j ∈ own ∧ j < ρ.length then some none else ρ[j]?
  | [], j => by simp
  | v :: vs, j => by
    rw [e_wipe1, List.getElem?_set, wipeE_get ρ vs j, wipeE_len]
    by_cases e : v = j
    · subst e
      by_cases hl : v < ρ.length
      · simp [hl]
      · simp [hl]
    · simp [e, show ¬ j = v from fun z => e z.symm]
theorem backE_get (ρ2 ρ1 : Env) (hl : ρ2.length = ρ1.length) : ∀ (own : List Nat), own.Nodup → ∀ j, (backE ρ2 ρ1 own)[j]? = if j ∈ own ∧ (ρ1[j]?).join.isSome = true then ρ1[j]? else ρ2[j]?
  | [], _, j => by
    show ρ2[j]? = _
    simp
  | v :: vs, nd, j => by
    rw [List.nodup_cons] at nd
    have ih := backE_get ρ2 ρ1 hl vs nd.2
    rw [e_back1]
    have hv : (wipeE ρ1 vs)[v]? = ρ1[v]? := by rw [wipeE_get]; simp [nd.1]
    rw [hv]
    by_cases e : v = j
    · subst e
      cases h1 : ρ1[v]? with
      | none =>
        rw [e_bkKx, ih]
        simp [nd.1, h1]
      | some o =>
        cases o with
        | none =>
          rw [e_bkKn, ih]
          simp [nd.1, h1]
        | some o =>
          rw [e_bkKs, List.getElem?_set_self]
          · simp [h1]
          · have e3 : v < ρ1.length := (List.getElem?_eq_some_iff.mp h1).1
            have e4 := ih v
            rw [if_neg (fun z => nd.1 z.1)] at e4
            have : (backE ρ2 ρ1 vs)[v]? = some (ρ2[v]'(by omega)) := by rw [e4, List.getElem?_eq_getElem]
            exact (List.getElem?_eq_some_iff.mp this).1
    · have hb : ∀ q : Option (Option O), (bkK v (backE ρ2 ρ1 vs) q)[j]? = (backE ρ2 ρ1 vs)[j]? := by
        intro q
        cases q with
        | none => rfl
        | some o =>
          cases o with
          | none => rfl
          | some o => rw [e_bkKs, List.getElem?_set_ne e]
      rw [hb, ih]
      simp [show ¬ j = v from fun z => e z.symm]
theorem back_wipe (ρ : Env) {own : List Nat} (nd : own.Nodup) : backE (wipeE (wipeE ρ own) own) ρ own = ρ := by
  apply List.ext_getElem?
  intro j
  rw [backE_get _ _ (by rw [wipeE_len, wipeE_len]) own nd, wipeE_get, wipeE_len, wipeE_get]
  by_cases h1 : j ∈ own
  · cases h2 : ρ[j]? with
    | none =>
      have : ¬ j < ρ.length := by
        intro z
        rw [List.getElem?_eq_getElem z] at h2; cases h2
      simp [h1, this]
    | some o =>
      have : j < ρ.length := (List.getElem?_eq_some_iff.mp h2).1
      cases o <;> simp [h1, this]
  · simp [h1]
/-- a comprehension whose turns only read -/
theorem comp_run {α : Type} {it : M (List D)} {own : List Nat} {a : D → Env → Option Env} {t : M Bool} {e : M O} {ρ ρ1 : Env} (f : α → D) (c : α → Bool) (g : α → O) {xs : List α} (hi : it ρ = .ok (xs.map f) ρ1) (hl : xs.length ≤ 1000000) (nd : own.Nodup)
    (h : ∀ x ∈ xs, cstep own a t e (f x) (wipeE ρ1 own) = if c x = true then .ok (some (g x)) (wipeE ρ1 own) else .ok none (wipeE ρ1 own)) : mComp it own a t e ρ = .ok (.lst ((xs.filter c).map g)) ρ1 := by
  rw [e_mComp, hi, e_coK _ _ _ _ _ (by simpa using hl), compL_fn f c g h, e_coK2, back_wipe ρ1 nd]
theorem filter_tt {α : Type} (xs : List α) : xs.filter (fun _ => true) = xs := by
  induction xs with
  | nil => rfl
  | cons x xs ih => simp
theorem comp_map {α : Type} {it : M (List D)} {own : List Nat} {a : D → Env → Option Env} {t : M Bool} {e : M O} {ρ ρ1 : Env} (f : α → D) (g : α → O) {xs : List α} (hi : it ρ = .ok (xs.map f) ρ1) (hl : xs.length ≤ 1000000) (nd : own.Nodup)
    (h : ∀ x ∈ xs, cstep own a t e (f x) (wipeE ρ1 own) = .ok (some (g x)) (wipeE ρ1 own)) : mComp it own a t e ρ = .ok (.lst (xs.map g)) ρ1 := by
  rw [comp_run f (fun _ => true) g hi hl nd (by simpa using h), filter_tt]
theorem compK_run {α : Type} {i : Nat} {own : List Nat} {a : D → Env → Option Env} {t : M Bool} {e : M O} {ρ ρ1 : Env} (f : α → D) (c : α → Bool) (g : α → O) {xs : List α} (hi : keysOf i ρ = some (xs.map f, ρ1)) (nd : own.Nodup)
    (h : ∀ x ∈ xs, cstep own a t e (f x) (wipeE ρ1 own) = if c x = true then .ok (some (g x)) (wipeE ρ1 own) else .ok none (wipeE ρ1 own)) : mCompK i own a t e ρ = .ok (.lst ((xs.filter c).map g)) ρ1 := by
  rw [e_mCompK hi, compL_fn f c g h]
  show Res.ok (O.lst _) (backE (wipeE (wipeE ρ1 own) own) ρ1 own) = _
  rw [back_wipe ρ1 nd]
/-! ### loops -/
def flK : Res Fl → Res Fl
  | .ok .ct ρ => .ok .nx ρ
  | r => r
def flA (b : M Fl) : Option Env → Res Fl
  | some ρ => flK (b ρ)
  | none => .no
/-- a turn of a loop -/
def fstep (a : D → Env → Option Env) (b : M Fl) (d : D) (ρ : Env) : Res Fl := flA b (a d ρ)
@[simp] theorem e_fstep (a : D → Env → Option Env) (b : M Fl) (d : D) : fstep a b d ρ = flA b (a d ρ) := (rfl)
@[simp] theorem e_flA (b : M Fl) : flA b (some ρ) = flK (b ρ) := (rfl)
@[simp] theorem e_flKn : flK (.ok .nx ρ) = .ok .nx ρ := (rfl)
@[simp] theorem e_flKc : flK (.ok .ct ρ) = .ok .nx ρ := (rfl)
@[simp] theorem e_flKb : flK (.ok .brk ρ) = .ok .brk ρ := (rfl)
@[simp] theorem e_flKr (o : O) : flK (.ok (.ret o) ρ) = .ok (.ret o) ρ := (rfl)
@[simp] theorem e_flKx (x : Exn) : flK (.exc x ρ) = .exc x ρ := (rfl)
@[simp] theorem flK_ite (c : Prop) [Decidable c] (r s : Res Fl) : flK (if c then r else s) = if c then flK r else flK s := by split <;> rfl
theorem forL_step (a : D → Env → Option Env) (b : M Fl) (d : D) (ds : List D) : forL a b (d :: ds) ρ = (match fstep a b d ρ with
    | .ok .nx ρ1 => forL a b ds ρ1
    | .ok .ct ρ1 => forL a b ds ρ1
    | .ok .brk ρ1 => .ok .nx ρ1
    | .ok (.ret o) ρ1 => .ok (.ret o) ρ1
    | .exc x ρ1 => .exc x ρ1
    | .no => .no : Res Fl) := by
  unfold fstep
  show (match a d ρ with | none => Res.no | some ρ1 => _) = _
  cases a d ρ with
  | none => rfl
  | some ρ1 =>
    show (b ρ1).bind _ = _
    unfold flA
    dsimp only
    cases b ρ1 with
    | ok f ρ2 => cases f <;> rfl
    | exc x ρ2 => rfl
    | no => rfl
/-- a loop with an invariant of what is left -/
theorem forL_ex {α β : Type} {a : D → Env → Option Env} {b : M Fl} (f : α → D) (E : β → Env) (I : List α → β → Prop) : ∀ {xs : List α} (b0 : β), I xs b0 →
    (∀ x xs b0, I (x :: xs) b0 → ∃ b1, fstep a b (f x) (E b0) = .ok .nx (E b1) ∧ I xs b1) → ∃ b1, forL a b (xs.map f) (E b0) = .ok .nx (E b1) ∧ I [] b1
  | [], b0, i0, _ => ⟨b0, rfl, i0⟩
  | x :: xs, b0, i0, h => by
    obtain ⟨b1, e1, i1⟩ := h x xs b0 i0
    rw [List.map_cons, forL_step, e1]
    exact forL_ex f E I b1 i1 h
/-- a loop that ends at the first thing that isn't so -/
theorem forL_all {α β : Type} {a : D → Env → Option Env} {b : M Fl} (f : α → D) (E : β → Env) (p : α → Bool) (o : α → O) (s : β → α → β) : ∀ {xs : List α} (b0 : β),
    (∀ x ∈ xs, ∀ b0, (p x = true → fstep a b (f x) (E b0) = .ok .nx (E (s b0 x))) ∧ (p x = false → ∃ ρ2, fstep a b (f x) (E b0) = .ok (.ret (o x)) ρ2)) →
    (xs.all p = true ∧ forL a b (xs.map f) (E b0) = .ok .nx (E (xs.foldl s b0))) ∨ (∃ x ∈ xs, xs.find? (fun x => !p x) = some x ∧ ∃ ρ2, forL a b (xs.map f) (E b0) = .ok (.ret (o x)) ρ2)
  | [], b0, _ => .inl ⟨rfl, rfl⟩
  | x :: xs, b0, h => by
    obtain ⟨h1, h2⟩ := h x (List.mem_cons_self ..) b0
    cases hp : p x with
    | true =>
      rw [List.map_cons, forL_step, h1 hp]
      rcases forL_all f E p o s (s b0 x) fun y hy => h y (List.mem_cons_of_mem _ hy) with ⟨q1, q2⟩ | ⟨y, hy, q1, q2⟩
      · exact .inl ⟨by rw [List.all_cons, hp, q1]; rfl, q2⟩
      · exact .inr ⟨y, List.mem_cons_of_mem _ hy, by rw [List.find?_cons, hp]; exact q1, q2⟩
    | false =>
      obtain ⟨ρ2, e2⟩ := h2 hp
      refine .inr ⟨x, List.mem_cons_self .., by rw [List.find?_cons, hp]; rfl, ρ2, ?_⟩
      rw [List.map_cons, forL_step, e2]
/-! ### dicts -/
def frK2 (a : D → Env → Option Env) (b : M Fl) : Option (List D × Env) → Res Fl
  | some p => forL a b p.1 p.2
  | none => .no
@[simp] theorem e_mForKK (i : Nat) (a : D → Env → Option Env) (b : M Fl) : mForK i a b ρ = frK2 a b (keysOf i ρ) := (rfl)
@[simp] theorem e_frK2 (a : D → Env → Option Env) (b : M Fl) (ds : List D) : frK2 a b (some (ds, ρ)) = forL a b ds ρ := (rfl)
end FB

/-! max of a list of pairs of ints. -/
namespace FB
open PySem PySem.Spec L2
open PyProof.Rows hiding St
section
variable {X : Cx} {K : PySem.W.Frag} {mg : Str → Option Value}
end
end FB

/-! repr of a thing made of texts, ints, truths, None, in lists and tuples. -/
namespace FB
open PySem PySem.Spec L2
open PyProof.Rows hiding St
theorem okc_iff (x : Str) : PyData.strOk x = true ↔ Okc x := by
  unfold PyData.strOk Okc
  rw [← Array.all_toList, List.all_eq_true]
  simp
theorem Okc.app {a b : Str} (ha : Okc a) (hb : Okc b) : Okc (a ++ b) := by
  intro c hc
  have e : (a ++ b).cps = a.cps ++ b.cps := rfl
  rw [e, Array.toList_append, List.mem_append] at hc
  exact hc.elim (ha c) (hb c)
theorem Okc.lit (s : String) : Okc (Str.ofString s) := by
  intro c hc
  rw [Str.ofString_eq_toList] at hc
  have hc : c ∈ s.toList.map Char.toNat := hc
  obtain ⟨d, _, rfl⟩ := List.mem_map.mp hc
  have := d.valid
  show d.val.toNat < 1114112
  rcases this with h | ⟨_, h⟩
  · have : d.val.toNat < 55296 := h
    omega
  · exact h
theorem Okc.join {sep : Str} (hs : Okc sep) : ∀ {ts : List Str}, (∀ t ∈ ts, Okc t) → Okc (Str.join sep ts)
  | [], _ => fun c hc => by
    have hc : c ∈ (#[] : Array Nat).toList := hc
    simp at hc
  | [t], h => h t (by simp)
  | t :: u :: ts, h => by
    show Okc (t ++ sep ++ Str.join sep (u :: ts))
    exact ((h t (by simp)).app hs).app (Okc.join hs fun z hz => h z (List.mem_cons_of_mem _ hz))
theorem digits_ok (c : Nat) : ∀ d ∈ (Nat.toDigits 16 c).map Char.toNat, d < 1114112 := by
  intro d hd
  obtain ⟨e, _, rfl⟩ := List.mem_map.mp hd
  have := e.valid
  show e.val.toNat < 1114112
  rcases this with h | ⟨_, h⟩
  · have : e.val.toNat < 55296 := h
    omega
  · exact h
theorem reprChar_ok {q c : Nat} (hq : q < 1114112) (hc : c < 1114112) : ∀ d ∈ Builtin.Str.reprChar q c, d < 1114112 := by
  have hx : ∀ n, ∀ d ∈ List.replicate (n - ((Nat.toDigits 16 c).map Char.toNat).length) 48 ++ (Nat.toDigits 16 c).map Char.toNat, d < 1114112 := by
    intro n d hd
    rcases List.mem_append.mp hd with h | h
    · have := (List.mem_replicate.mp h).2; omega
    · exact digits_ok c d h
  intro d hd
  unfold Builtin.Str.reprChar at hd
  dsimp only at hd
  split at hd
  · simp at hd; omega
  · split at hd
    · simp at hd; omega
    · split at hd
      · simp at hd; omega
      · split at hd
        · simp at hd; omega
        · split at hd
          · simp at hd; omega
          · split at hd
            · rcases List.mem_append.mp hd with h | h
              · simp at h; omega
              · exact hx 2 d h
            · split at hd
              · rcases List.mem_append.mp hd with h | h
                · simp at h; omega
                · exact hx 4 d h
              · rcases List.mem_append.mp hd with h | h
                · simp at h; omega
                · exact hx 8 d h
theorem Okc.repr {x : Str} (h : Okc x) : Okc (reprText x) := by
  have hq : reprQuote x < 1114112 := by unfold reprQuote; split <;> omega
  have key : ∀ (l : List Nat) (acc : Array Nat), (∀ c ∈ l, c < 1114112) → (∀ c ∈ acc.toList, c < 1114112) → ∀ c ∈ (l.foldl (fun out c => out ++ (Builtin.Str.reprChar (reprQuote x) c).toArray) acc).toList, c < 1114112 := by
    intro l
    induction l with
    | nil => intro acc _ h2; exact h2
    | cons a l ih =>
      intro acc h1 h2
      rw [List.foldl_cons]
      refine ih _ (fun c hc => h1 c (List.mem_cons_of_mem _ hc)) fun c hc => ?_
      rw [Array.toList_append, List.mem_append] at hc
      exact hc.elim (h2 c) fun z => reprChar_ok hq (h1 a (List.mem_cons_self ..)) c (by simpa using z)
  intro c hc
  unfold reprText at hc
  rw [Array.toList_push, List.mem_append] at hc
  rcases hc with hc | hc
  · rw [← Array.foldl_toList] at hc
    exact key _ _ h (fun d hd => by simp at hd; omega) c hc
  · simp at hc; omega
mutual
theorem shown_okc : ∀ d : PyData, d.canLay0 = true → d.hasDict = false → Okc d.shown
  | .none, _, _ => Okc.lit "None"
  | .bool b, _, _ => by cases b <;> exact Okc.lit _
  | .int i, _, _ => Okc.lit (toString i)
  | .str x, h, _ => by
    have h : PyData.strOk x = true := by simpa [PyData.canLay0] using h
    rw [PyData.shown_str]
    exact ((okc_iff x).mp h).repr
  | .list xs, h, g => by
    rw [PyData.shown_list]
    exact ((Okc.lit _).app ((Okc.lit _).join (shownAll_okc xs (by simpa [PyData.canLay0] using h) (by simpa [PyData.hasDict] using g)))).app (Okc.lit _)
  | .tuple xs, h, g => by
    rw [PyData.shown_tuple]
    exact ((Okc.lit _).app ((Okc.lit _).join (shownAll_okc xs (by simpa [PyData.canLay0] using h) (by simpa [PyData.hasDict] using g)))).app (Okc.lit _)
  | .dict kvs, _, g => by simp [PyData.hasDict] at g
theorem shownAll_okc : ∀ xs : List PyData, PyData.canLayAll0 xs = true → PyData.hasDictAll xs = false → ∀ t ∈ PyData.shownAll xs, Okc t
  | [], _, _, t, ht => by simp [PyData.shownAll] at ht
  | x :: xs, h, g, t, ht => by
    rw [PyData.shownAll_cons] at ht
    have h : x.canLay0 = true ∧ PyData.canLayAll0 xs = true := by simpa [PyData.canLayAll0] using h
    have g : x.hasDict = false ∧ PyData.hasDictAll xs = false := by simpa [PyData.hasDictAll] using g
    rcases List.mem_cons.mp ht with rfl | ht
    · exact shown_okc x h.1 g.1
    · exact shownAll_okc xs h.2 g.2 t ht
end
section
variable {X : Cx} {K : PySem.W.Frag} {mg : Str → Option Value}
/-- a thing that repr tells -/
def repB (d : D) : Bool := d.okE 9 && (d.pd.showable && (!d.pd.hasDict && decide (d.pd.shown.length ≤ sizeLine)))
def repK : D → Bool
  | .non => true
  | .lst _ => true
  | .tup _ => true
  | _ => false
def reprO (a : O) : Option O := if (repK a.toD && repB a.toD) = true then some (.val (.str a.toD.pd.shown)) else none
def rRepr (K : PySem.W.Frag) (vs : List V) (H : Hp) (Q : VK) : Prop := ∃ (v : V) (d : PyData), vs = [v] ∧ Dp K H v d ∧ (d = .none ∨ (∃ xs, d = .list xs) ∨ ∃ xs, d = .tuple xs) ∧ d.showable = true ∧ d.hasDict = false ∧ d.shown.length ≤ sizeLine ∧ d.depth ≤ 9 ∧ Q (.str d.shown) H
theorem cr_repr (ok : CxOk X) (hg : X.A.guards = some []) : CallR X (.builtin "repr") (rRepr X.K) := by
  intro pins s σ H vs us Q I r h
  obtain ⟨v, d, rfl, hd, hk, hs, hn, hz, hdep, q⟩ := h
  obtain ⟨u, rfl, rv⟩ : ∃ u, us = [u] ∧ RelV v u := by
    cases r with
    | cons a b => cases b; exact ⟨_, rfl, a⟩
  obtain ⟨as, rd⟩ := Dp.reads I _ _ _ hd rv
  have un := ok.units
  rcases hk with rfl | hk
  · cases rd
    refine P.repr_of_none ?_
    exact ⟨.str _, H, Inv.kept (t' := s.toks + 1) I (fun _ _ e => e), ⟨_, rfl⟩, by simpa [PyData.shown] using q⟩
  · have hu : ∃ a, u = .ref a := by
      rcases hk with ⟨xs, rfl⟩ | ⟨xs, rfl⟩
      · cases rd; exact ⟨_, rfl⟩
      · cases rd; exact ⟨_, rfl⟩
    obtain ⟨a, rfl⟩ := hu
    refine repr_of_reads' rd hs (fun z => by rw [hn] at z; cases z) hg (by omega) (fun _ _ e => e) (fun h' u tk hk => ?_) hz
    exact ⟨.str _, H, Inv.kept (t' := tk) I hk, ⟨_, rfl⟩, q⟩
theorem unv_repr : UnV K mg (fun x H Q => rRepr K [x] H Q) reprO := by
  intro H L B x ox o Q R hx e k
  unfold reprO at e
  split at e
  · rename_i h
    cases e
    simp only [Bool.and_eq_true] at h
    obtain ⟨h1, h2⟩ := h
    unfold repB at h2
    simp only [Bool.and_eq_true, Bool.not_eq_true', decide_eq_true_eq] at h2
    obtain ⟨a1, a2, a3, a4⟩ := h2
    have vw := R.view hx
    have lay := vw.lay 9 a1
    refine ⟨x, ox.toD.pd, rfl, vw.dp 9 a1, ?_, a2, a3, a4, lay.2, k _ _ (Same.refl _) (R.scalB fun G => .str _ ((okc_iff _).mpr (shown_okc _ lay.1 a3)))⟩
    generalize ox.toD = d at *
    cases d <;> first | (exact .inl (by rfl)) | (cases h1; done) | skip
    · exact .inr (.inr ⟨_, by unfold D.pd; rfl⟩)
    · exact .inr (.inl ⟨_, by unfold D.pd; rfl⟩)
  · cases e
theorem e_reprO {a : O} {d : D} (ha : a.toD = d) (hk : repK d = true) (h : repB d = true) : reprO a = some (.val (.str d.pd.shown)) := by
  subst ha
  unfold reprO
  rw [hk, h]; rfl
end
end FB

/-! The law's own def, looked at where the law is asked alone: there no text is being made. -/
namespace FB
open PySem PySem.Spec L2
open PyProof.Rows hiding St
section
variable {P : Program} {w : World} {K : PySem.W.Frag} {mg : Str → Option Value} {base : Heap}
/-- what a def does when the law is asked -/
def AtTop (P : Program) (w : World) (K : PySem.W.Frag) (mg : Str → Option Value) (base : Heap) (g : Addr) (fd : FuncData) (x : Str) (sp : Sp) : Prop :=
  ∀ (s : Shared) (G : Hp) (u : Value) (v : V) (Q : VK) (E : XK), Env0 P w K mg base callerA [] s G → BindsTo s fd ⟨[u], []⟩ [(x, u)] → RelV v u → sp [v] G Q E →
    codeAny (model P w) callerA (.call (.ref g) ⟨[u], []⟩) (CR C8.CX0 [] P w G s Q E) s
theorem at_top {z : Str} {st : Stmt} {g : Addr} {fd : FuncData} {N : List Str} {x : Str} {k m : Nat} {Pr : List Nat} {b : M Fl} (F : C8.Fun K z z st g fd) (S : FnScope N [x] (C8.fnScope st)) (hm : N.length = m) (h1 : 1 ≤ m) (hr : Room (k + 1) callerA)
    (hb : ∀ (cdv : Value) (s : Shared) (G : Hp) (E : XK), Room k (callerA.deeper (envOfC z (C8.fnScope st) s.heap.objs.size g cdv)) → (callerA.deeper (envOfC z (C8.fnScope st) s.heap.objs.size g cdv)).guards = some [] → SSs (cxOf C8.CX0 P w K mg base N z (C8.fnScope st) g cdv callerA [] s G E).nox Pr (C8.fnBody st) b) :
    AtTop P w K mg base g fd x (spF K mg 1 (runF 1 m Pr b)) := by
  intro s G u v Q E e0 hb1 hv hsp
  obtain ⟨c1, c2, c3, c4, c5, c6, c7, cdv, c8, c9, rfl, look, hcode⟩ := F.ex
  have KI : K.In s.heap := e0.mod.kin.keeps (fun a o q => (e0.bs a o q).1)
  have nl : s.heap.NoLimit := e0.mod.nolimit.keeps (fun a o q => (e0.bs a o q).1)
  have loc : ∀ y ∈ [(x, u)], (C8.fnScope st).names.lookup y.1 = some .local ∨ ((C8.fnScope st).names.lookup y.1 = some .cell ∧ ((cellsFrom (s.heap.objs.size + 1) (C8.fnScope st).names []).lookup y.1).isSome = true) := by
    intro y hy
    rw [List.mem_singleton.mp hy]
    exact (S.par x (by simp)).elim .inl fun q => .inr ⟨q, PySem.W.cellsFrom_some _ _ _ (.inl q)⟩
  apply codeAny_call_function hr.depth (KI g _ look) rfl S.co S.gen rfl (PySem.W.codeRec_of KI hcode)
  refine hb1 _ _ _ _ (wpAny_newFunctionEnv_cells S.kind loc fun env he t it => ?_)
  subst he
  refine ⟨nl.keeps it.toInCall.keep, codeAny_func ?_⟩
  have sem := hb cdv s G E (hr.deeper _) rfl
  obtain ⟨t0, ht, hq⟩ := body_sem (X := (cxOf C8.CX0 P w K mg base N z (C8.fnScope st) g cdv callerA [] s G E).nox) (E := E) hm h1 sem hsp
  have J0 := inv_start (CX := C8.CX0) (E := E) S hr.hd e0 (us := [u]) (vs := [v]) rfl (.cons hv .nil) it
  refine wpAny_mono (ht.nox.run [] t (L2.start N [v]) G _ J0 hq) (fun fl t' h => ?_) fun _ _ h => h
  cases fl with
  | ret y => obtain ⟨y', σ1, G1, J, r, q⟩ := h; exact ⟨y', G1, J.os, J.bare, J.base, J.hok, r, q⟩
  | next => obtain ⟨σ1, G1, J, q⟩ := h; exact ⟨V.non, G1, J.os, J.bare, J.base, J.hok, rfl, q⟩
  | brk => obtain ⟨_, _, _, q⟩ := h; exact q.elim
  | cont => obtain ⟨_, _, _, q⟩ := h; exact q.elim

/-- the script's list, shown: locked, or one of the module's own -/
def scrH (K : PySem.W.Frag) (a : Addr) (ob : Obj) (ns : List Int) : Hp := fun c => if K.lookup a = none ∧ c = a then some (.frz ob (.lst (ns.map V.int))) else none
theorem scrH_some {a c : Addr} {ob : Obj} {ns : List Int} {u : HO} (h : scrH K a ob ns c = some u) : K.lookup a = none ∧ c = a ∧ u = .frz ob (.lst (ns.map V.int)) := by
  unfold scrH at h
  split at h
  · rename_i z; cases h; exact ⟨z.1, z.2, rfl⟩
  · cases h
theorem at_law {mb : Str → Option Value} {k : Nat} {fa a : Addr} {fd : FuncData} {x : Str} {sp : Sp} {s : Shared} {vs : List Value} {ns : List Int}
    (KI : K.In s.heap) (n1 : s.heap.Ns mainGlobals mg) (n2 : s.heap.Ns builtinsNs mb) (n3 : ∀ y : Str, y ≠ "__name__" → mb y = bootBuiltins y) (nl : s.heap.NoLimit) (ng : s.gens = #[])
    (ga : s.heap.get? a = some { cls := .type "list", data := .seq vs.toArray }) (hi : IntsAre vs ns) (hz : ns.length ≤ sizeLine)
    (F : ∀ base : Heap, K.In base → base.Ns mainGlobals mg → AtTop P w K mg base fa fd x sp) (hb : ∀ (t : Shared) (u : Value), BindsTo t fd ⟨[u], []⟩ [(x, u)])
    (hsp : ∀ G : Hp, SqL K G a (ns.map V.int) → sp [.ref a] G (fun v _ => v = .bl true) fun _ _ _ => False) :
    codeAny (model P w) callerA (.call (.ref fa) ⟨[.ref a], []⟩) (fun r t => r = .ok (.ret (.bool true)) ∧ OldK s.heap t.heap ∧ t.os = s.os ∧ AllBare t.gens) s := by
  have rv := vals_ints hi
  have hlen : (ns.map V.int).length = vs.length := by rw [List.length_map]; exact hi.length.symm
  let ob : Obj := { cls := .type "list", data := .seq vs.toArray }
  let G := scrH K a ob ns
  have okG : HOk P w G s.heap := fun c u z => by
    obtain ⟨_, rfl, rfl⟩ := scrH_some z
    exact ⟨ga, by rw [List.length_map]; exact hz, vs, _, rv, ga⟩
  have gsq : SqL K G a (ns.map V.int) := by
    cases e : K.lookup a with
    | none => exact .inl (.inr ⟨ob, if_pos ⟨e, rfl⟩⟩)
    | some o =>
      have q := KI a o e
      rw [ga] at q
      cases q
      exact .inr ⟨_, vs.toArray, _, e, rfl, rfl, rfl, by rw [List.size_toArray, ← hlen, List.length_map]; exact hz, by simpa using rv⟩
  have away : ∀ {c : Addr} {o : Obj}, s.heap.get? c = some o → (∀ ys n, o.data ≠ .seq ys n) → G c = none := fun {c o} e d => by
    cases q : G c with
    | none => rfl
    | some u =>
      obtain ⟨_, rfl, _⟩ := scrH_some q
      rw [ga] at e
      cases e
      exact absurd rfl (d _ _)
  have keepNs : ∀ {c : Addr} {m : Str → Option Value}, s.heap.Ns c m → (hidT s.heap G).Ns c m := fun {c m} ⟨o, es, ep, e, d, r⟩ =>
    ⟨o, es, ep, hidT_get e (away e fun ys n z => by rw [d] at z; cases z), d, r⟩
  have KB : K.In (hidT s.heap G) := fun c o e => by
    refine hidT_get (KI c o e) ?_
    cases q : G c with
    | none => rfl
    | some u =>
      obtain ⟨h1, rfl, _⟩ := scrH_some q
      rw [h1] at e; cases e
  obtain ⟨mc, l1, l2⟩ := nl
  have e0 : Env0 P w K mg (hidT s.heap G) callerA [] s G :=
    ⟨rfl, ⟨KB, keepNs n1, ⟨mb, keepNs n2, n3⟩, mc, keepNs l1, l2⟩, fun c o e => of_hidT e, Nat.le_of_eq (hidT_size _ _), trivial, fun c hc => absurd (show c ∈ ([] : List Addr) from hc) (by simp), okG, .of_eq ng⟩
  refine codeAny_mono (F _ KB (keepNs n1) s G (.ref a) (.ref a) _ _ e0 (hb s _) rfl (hsp G gsq)) fun r t h => ?_
  match r, h with
  | .error _, h => exact False.elim h
  | .ok .next, h => exact False.elim h
  | .ok .brk, h => exact False.elim h
  | .ok .cont, h => exact False.elim h
  | .ok (.ret u), h =>
    obtain ⟨v, G', o1, o2, un, okG', r1, rfl⟩ := h
    have r1 : u = Value.bool true := r1
    subst r1
    refine ⟨rfl, OldK.of_keep fun c o e => ?_, o1, o2⟩
    cases q : G c with
    | none => exact un.keep c o e q (by simp [frs]) (by simp)
    | some y =>
      obtain ⟨_, rfl, rfl⟩ := scrH_some q
      have q2 := (okG' c _ (un.frzs c ob _ q)).1
      rw [ga] at e
      cases e
      exact q2
theorem walk_at {l : PySem.W.OpenLaw} {n : Nat} {q : Program} {loose : List Str} {XP : (Str → Option Value) → Heap → Prop} {YP : World → Heap → Prop} {d : DefRec} {x : Str} (hn : l.most = some n) (hz : n ≤ sizeLine) (hd : d.params.defaults = [])
    (F : ∀ (w : World) (mg : Str → Option Value) (fa : Addr) (h : Heap), YP w h → h.Ns mainGlobals mg → mg d.name = some (.ref fa) → ∃ (K : PySem.W.Frag) (fd : FuncData) (sp : Sp), K.In h ∧ (∀ (t : Shared) (u : Value), BindsTo t fd ⟨[u], []⟩ [(x, u)]) ∧
      (∀ (G : Hp) (a : Addr) (ns : List Int), ns.length ≤ n → SqL K G a (ns.map V.int) → sp [.ref a] G (fun v _ => v = .bl true) fun _ _ _ => False) ∧ ∀ base : Heap, K.In base → base.Ns mainGlobals mg → AtTop l.prog w K mg base fa fd x sp) :
    PySem.W.WalkO q loose XP YP l.row.toRowW d [] (fun f vs => PySem.call f vs) := by
  refine Att.attach_call hn hd ?_
  intro w s0 s mg mb fa o pm cd doc a vs ns G Y _ _ _ hm ga hi hl hg
  obtain ⟨K, fd, sp, KI, hb, hsp, hF⟩ := F w mg fa s.heap Y G.T.g hm
  exact at_law (k := 0) KI G.T.g G.T.b G.T.builtins G.T.nolimit hg ga hi (Nat.le_trans hl hz) hF hb fun H hS => hsp H a ns hl hS
end
end FB

/-! name.clear() of an own list. -/
namespace FB
open PySem PySem.Spec L2
open PyProof.Rows hiding St
section
variable {X : Cx} {K : PySem.W.Frag} {mg : Str → Option Value}
end
end FB

/-! try: ..; except Y: .. -/
namespace FB
open PySem PySem.Spec L2
open PyProof.Rows hiding St
section
variable {X : Cx} {K : PySem.W.Frag} {mg : Str → Option Value} {P : List Nat} {W : WX}
end
end FB

/-! Defs whose last parameter may be left out (None); objects that are shared. -/
namespace FB
open PySem PySem.Spec L2
open PyProof.Rows hiding St
section
variable {P : Program} {w : World} {K : PySem.W.Frag} {mg : Str → Option Value} {base : Heap}
theorem fun_ofD {x qual : Str} {st : Stmt} {dvs : List V} {kws : List (Str × V)} {f : Addr} {fd : FuncData} (D : FunD K x qual (C8.fnArgs st) (C8.fnBody st) (C8.fnScope st) dvs kws f fd) : C8.Fun K x qual st f fd := by
  obtain ⟨oc, od, dV, kV, doc, pm, an, cdv, ct, osl, e, lk, hc, _, _⟩ := D.ex
  exact ⟨oc, od, dV, kV, doc, pm, an, cdv, ct, osl, e, lk, hc⟩
theorem cal_semN {x : Str} {st : Stmt} {f : Addr} {fd : FuncData} {N ps : List Str} {k n m : Nat} {Pr : List Nat} {b : M Fl} {ds : List Value} (F : C8.Def K mg x st f fd) (bi : Binds K fd ps ds) (hd : Vals [V.non] ds) (S : FnScope N ps (C8.fnScope st)) (hn : ps.length = n := by rfl) (hm : N.length = m := by rfl) (hnm : n ≤ m := by decide)
    (hb : ∀ (cdv : Value) (A : Around) (outer : List PySem.Env) (s : Shared) (H : Hp) (E : XK), Room k (A.deeper (envOfC x (C8.fnScope st) s.heap.objs.size f cdv)) → SSs (cxOf C8.CX0 P w K mg base N x (C8.fnScope st) f cdv A outer s H E).nox Pr (C8.fnBody st) b) :
    C8.Cal P w K mg base (k + 1) x (spF K mg n (runF n m Pr b)) [.non] :=
  C8.cal0 F bi hd S (fun vs H Q E h => by rw [hn]; exact sp_len vs H Q E h) fun cdv A outer s H vs Q E hr h => body_sem (X := (cxOf C8.CX0 P w K mg base N x (C8.fnScope st) f cdv A outer s H E).nox) (E := E) hm hnm (hb cdv A outer s H E hr) h
end
section
variable {X : Cx} {K : PySem.W.Frag} {mg : Str → Option Value}
theorem pairs_more (x : Option V) : ∀ (σ : L2.St) (ρ : Env), ∃ E, pairs (σ ++ [x]) ρ = pairs σ ρ ++ E
  | [], ρ => ⟨pairs [x] ρ, by rw [pairs_nil]; rfl⟩
  | v :: σ, [] => ⟨[], by rw [pairs_nil', pairs_nil']; rfl⟩
  | none :: σ, o :: ρ => by
    obtain ⟨E, e⟩ := pairs_more x σ ρ
    exact ⟨E, by rw [List.cons_append, pairs_ns, pairs_ns, e]⟩
  | some v :: σ, none :: ρ => by
    obtain ⟨E, e⟩ := pairs_more x σ ρ
    exact ⟨E, by rw [List.cons_append, pairs_sn, pairs_sn, e]⟩
  | some v :: σ, some o :: ρ => by
    obtain ⟨E, e⟩ := pairs_more x σ ρ
    exact ⟨E, by rw [List.cons_append, pairs_ss, pairs_ss, e]; rfl⟩
/-- the last one left out -/
def dflN (F : FSem) : FSem := fun os => F (os ++ [.val .non])
theorem spF_N {n : Nat} {F : FSem} {vs : List V} {H : Hp} {Q : VK} {E E' : XK} (h : spF K mg n (dflN F) vs H Q E) : spF K mg (n + 1) F (vs ++ [.non]) H Q E' := by
  obtain ⟨os, T, o, ρ', h1, h2, R, e, k⟩ := h
  refine ⟨os ++ [O.val D.non], T, o, ρ', by simp [h1], by simp [h2], ?_, e, fun v H' R' => k v H' ?_⟩
  · have ez : zipI (vs ++ [.non]) (os ++ [.val .non]) = zipI vs os ++ [.ov .non (.val .non)] := by
      unfold zipI
      rw [List.zipWith_append (by omega)]; rfl
    rw [ez, List.append_assoc]
    exact (R.scal (v := .non) (d := .non) fun _ => .non).perm List.perm_middle.symm
  · rw [List.map_append] at R'
    obtain ⟨Ex, ee⟩ := pairs_more (some V.non) (vs.map some) ρ'
    have ee : pairs (vs.map some ++ [V.non].map some) ρ' = pairs (vs.map some) ρ' ++ Ex := ee
    rw [ee, List.append_assoc] at R'
    have R2 : Rep K mg H' (Ex ++ (.ov v o :: (pairs (vs.map some) ρ' ++ T))) [] := R'.perm (by
      refine (List.Perm.cons _ (rot _ _ _)).trans ?_
      exact List.perm_middle.symm)
    exact R2.drops
theorem se_callN {n k j : Nat} {F : FSem} {x : Str} {p pos : Pos} {e : Expr} {es : List Expr} {as : List Arg} (cl : C8.Cal X.prog X.w X.K X.mg X.base k x (spF X.K X.mg (n + 1) F) [.non]) (hr : Room j X.A) (hk : k ≤ j) (hg : Gl X x) (ha : SAs X (e :: es) as) (hn : as.length = n := by rfl)
    (hdb : (x == ("__debug__" : Str)) = false := by decide) (he : starEach (e :: es) X.env = (false, eval e X.env) :: starEach es X.env := by rfl) (hpl : (backTo pos (starEach es X.env)).any (·.1) = false := by rfl) :
    SE X (.Call (.Name x p) (e :: es) [] pos) (mCall (dflN F) as) := PE.imp (C8.pe_c cl hr hk hg ha hdb he hpl) fun σ H Q w => by
  have w1 := (call_core (n := n) (Ex := C8.E0) σ H Q w).resolve_right fun h => h hn
  obtain ⟨ρ, T, os, ρ', c, R, e1, k1⟩ := w1
  exact ⟨ρ, T, os, ρ', c, R, e1, fun vs H1 c1 hl io R1 => by
    have q : spF X.K X.mg n (dflN F) (vs ++ []) H1 Q C8.E0 := k1 vs H1 c1 hl io R1
    rw [List.append_nil] at q
    exact spF_N q⟩
/-! ### objects that are shared -/
def fldV (c f : Str) : O → Option O
  | .val (.ins c' ns ds) => if c' = c then (fidx ns f).bind fun j => (ds[j]?).map O.val else none
  | _ => none
theorem sp_fldV {c f : Str} {C : Addr} {fs : List Str} {e : Expr} {pos : Pos} {g : Pf} (co : CO X.K X.mg c C fs) (hf : f ∈ fs) (he : SP X e g) (hb : attributeBase e f X.env (eval e X.env) = eval e X.env := by rfl) : SP X (.Attribute e f pos) (p1 (fldV c f) g) :=
  PE.imp (pe_fld he hb) fun σ H Q q => by
    obtain ⟨ρ, T, B, o, cv, R, e, k⟩ := q
    unfold p1 at e
    cases e1 : g ρ with
    | none => rw [e1] at e; cases e
    | some a =>
      rw [e1] at e
      have e : fldV c f a = some o := e
      refine ⟨ρ, T, B, a, cv, R, e1, fun x H1 s1 R1 => ?_⟩
      cases a with
      | lst _ => cases e
      | dct _ _ => cases e
      | ins _ _ _ => cases e
      | val da =>
        cases da with
        | ins c' ns ds =>
          have e9 : (if c' = c then (fidx ns f).bind fun j => (ds[j]?).map O.val else none) = some o := e
          by_cases ec : c' = c
          · rw [if_pos ec] at e9
            subst ec
            cases ej : fidx ns f with
            | none => rw [ej] at e9; cases e9
            | some j =>
              rw [ej] at e9
              have e8 : (ds[j]?).map O.val = some o := e9
              cases ed : ds[j]? with
              | none => rw [ed] at e8; cases e8
              | some d =>
                rw [ed] at e8
                cases e8
                obtain ⟨A, nd, ok, hb⟩ := id R1
                obtain ⟨as, h1, h2⟩ := hb _ (List.mem_cons_self ..)
                cases h1 with
                | val h1 =>
                  cases h1 with
                  | ins h1 hm hn hs =>
                    rename_i p C' dx fs'
                    have := co.eq hm
                    subst this
                    subst hn
                    obtain ⟨v, l1, l2⟩ := fidx_look ej
                    obtain ⟨d', ed', hv⟩ := hs.getV l2
                    rw [ed] at ed'
                    cases ed'
                    refine ⟨p, C', dx, fs', v, rfl, (hide_some h1).2, co.cl, co.no f hf, l1, k v H1 s1 ⟨A, nd, ok, fun b q => ?_⟩⟩
                    rcases List.mem_cons.mp q with q | q
                    · subst q
                      exact ⟨[], .val hv, fun a ha => by simp at ha⟩
                    · exact hb b (List.mem_cons_of_mem _ q)
          · rw [if_neg ec] at e9; cases e9
        | _ => cases e
/-- e.m(..), e's thing being shared from now on -/
def mMethV (c m : Str) (F : FSem) (r : M O) (as : List Arg) : M O := fun ρ => (r ρ).bind fun o ρ1 => match o.toD with
  | .ins c' ns ds => if c' = c ∧ fidx ns m = none then (evA as ρ1).bind fun os ρ2 => (match takeA as os ρ2 with
    | none => .no
    | some q => (match F (.val (.ins c' ns ds) :: q.1) with
      | none => .no
      | some z => .ok z.1 (giveA as z.2.tail q.2))) else .no
  | _ => .no
theorem methV_core {n : Nat} {c m : Str} {C : Addr} {fs : List Str} {F : FSem} {r : M O} {as : List Arg} (co : CO K mg c C fs) (hn : as.length + 1 = n) (σ : L2.St) (H : Hp) (Q : VK) (w : tM K mg (mMethV c m F r as) σ H Q) :
    tM K mg r σ H fun v H1 => ∃ a dx fs, v = .ref a ∧ H1 a = some (.ins C dx fs) ∧ fs.lookup m = none ∧ tAs K mg as σ H1 fun vs H2 => spF K mg n F (v :: (vs ++ [])) H2 Q E0 := by
  obtain ⟨ρ, T, o, ρ', cv, R, e, k⟩ := w
  obtain ⟨o1, ρ1, e1, e⟩ := Res.bind_eq e
  refine ⟨ρ, T, o1, ρ1, cv, R, e1, fun v H1 c1 R1 => ?_⟩
  split at e
  · rename_i c' ns ds ed
    split at e
    · rename_i hc
      obtain ⟨rfl, hm⟩ := hc
      have R2 := R1.frz
      rw [ed] at R2
      have vw : Vw K mg H1 v (.ins c' ns ds) := (R2.lend).view (b := (v, .val (.ins c' ns ds))) (List.mem_cons_self ..)
      cases vw with
      | ins h1 hmg hns hs =>
        rename_i p C' dx fs'
        have := co.eq hmg
        subst this
        subst hns
        refine ⟨p, dx, fs', rfl, h1, fidx_none hm, ?_⟩
        obtain ⟨os2, ρ2, e2, e⟩ := Res.bind_eq e
        split at e
        · cases e
        · rename_i q e3
          split at e
          · cases e
          · rename_i z e4
            cases e
            refine ⟨ρ1, .ov (.ref p) (.val (.ins c' (fs'.map (·.1)) ds)) :: T, os2, ρ2, c1, R2.perm List.perm_middle.symm, e2, fun vs H2 c2 hl io R3 => ?_⟩
            obtain ⟨c3, hl2, R4⟩ := take_ok c2 io e3 R3
            have hvl := ioLen io
            show spF K mg n F (V.ref p :: (vs ++ [])) H2 Q E0
            rw [List.append_nil]
            refine ⟨.val (.ins c' (fs'.map (·.1)) ds) :: q.1, pairs σ q.2 ++ T, z.1, z.2, by rw [List.length_cons, hvl, hn], by rw [List.length_cons, ← hl2, hvl, hn], ?_, e4, fun u H3 R5 => ?_⟩
            · have : zipI (V.ref p :: vs) (.val (.ins c' (fs'.map (·.1)) ds) :: q.1) = .ov (.ref p) (.val (.ins c' (fs'.map (·.1)) ds)) :: zipI vs q.1 := rfl
              rw [this]
              refine R4.perm ?_
              refine (List.Perm.append_left _ List.perm_middle).trans ?_
              exact List.perm_middle
            · have R6 : Rep K mg H3 ([.ov u z.1] ++ (pairs (vs.map some) z.2.tail ++ (pairs σ q.2 ++ T))) [] := by
                cases hz : z.2 with
                | nil =>
                  rw [hz, pairs_nil'] at R5
                  have : pairs (vs.map some) ([] : Env).tail = [] := pairs_nil' ..
                  rw [this]; exact R5
                | cons y ys =>
                  rw [hz] at R5
                  cases y with
                  | none => rw [List.map_cons, pairs_sn] at R5; exact R5
                  | some y =>
                    rw [List.map_cons, pairs_ss] at R5
                    exact (R5.perm (.swap _ _ _)).drop
              obtain ⟨c4, R7⟩ := give_ok (as := as) (vs := vs) (M := [.ov u z.1]) c3 io R6
              exact k u H3 c4 R7
    · cases e
  · cases e
theorem se_methV {n k j : Nat} {c m : Str} {C : Addr} {fs : List Str} {F : FSem} {o : Expr} {r : M O} {apos pos : Pos} {e : Expr} {es : List Expr} {as : List Arg} (co : CO X.K X.mg c C fs) (cl : C8.Met X.prog X.w X.K X.mg X.base k C m (spF X.K X.mg n F) []) (hr : Room j X.A) (hk : k ≤ j) (ho : SE X o r) (ha : SAs X (e :: es) as) (hn : as.length + 1 = n := by rfl)
    (hst : starEach (e :: es) X.env = (false, eval e X.env) :: starEach es X.env := by rfl) (hpl : (backTo pos (starEach es X.env)).any (·.1) = false := by rfl) {pl : Sem Bool}
    (ht : eval (.Call (.Attribute o m apos) (e :: es) [] pos) X.env = (do
      let ov ← eval o X.env
      standAt apos.atName
      let (f, first) ← holding [ov] (getMethod ov m pl)
      callWith pos f first (backTo pos (starEach (e :: es) X.env)) (backToKw pos (keywordEach [] X.env))) := by rfl) :
    SE X (.Call (.Attribute o m apos) (e :: es) [] pos) (mMethV c m F r as) := PE.imp (C8.pe_mt (pl := pl) cl hr hk ho ha hst hpl ht) fun σ H Q w => methV_core co hn σ H Q w
variable {ρ : Env}
def mvE (as : List Arg) (ρ : Env) : Option (O × Env) → Res O
  | none => .no
  | some z => .ok z.1 (giveA as z.2.tail ρ)
def mvD (F : FSem) (d : D) (as : List Arg) : Option (List O × Env) → Res O
  | none => .no
  | some q => mvE as q.2 (F (.val d :: q.1))
def mvC (F : FSem) (d : D) (as : List Arg) : Res (List (Option O)) → Res O
  | .ok os ρ => mvD F d as (takeA as os ρ)
  | .exc x ρ => .exc x ρ
  | .no => .no
def mvB (c m : Str) (F : FSem) (as : List Arg) (ρ : Env) : D → Res O
  | .ins c' ns ds => if c' = c ∧ fidx ns m = none then mvC F (.ins c' ns ds) as (evA as ρ) else .no
  | _ => .no
def mvA (c m : Str) (F : FSem) (as : List Arg) : Res O → Res O
  | .ok o ρ => mvB c m F as ρ o.toD
  | .exc x ρ => .exc x ρ
  | .no => .no
@[simp] theorem e_mMethV (c m : Str) (F : FSem) (r : M O) (as : List Arg) : mMethV c m F r as ρ = mvA c m F as (r ρ) := by
  unfold mMethV mvA
  cases r ρ with
  | ok o ρ1 =>
    show (match o.toD with | .ins c' ns ds => _ | _ => Res.no) = mvB c m F as ρ1 o.toD
    unfold mvB
    cases o.toD with
    | ins c' ns ds =>
      show (if c' = c ∧ fidx ns m = none then _ else Res.no) = if c' = c ∧ fidx ns m = none then mvC F (.ins c' ns ds) as (evA as ρ1) else .no
      split
      · cases evA as ρ1 with
        | ok os ρ2 =>
          show (match takeA as os ρ2 with | none => Res.no | some q => _) = mvD F (.ins c' ns ds) as (takeA as os ρ2)
          unfold mvD
          cases takeA as os ρ2 with
          | none => rfl
          | some q =>
            show (match F (.val (.ins c' ns ds) :: q.1) with | none => Res.no | some z => _) = mvE as q.2 (F (.val (.ins c' ns ds) :: q.1))
            unfold mvE
            cases F (.val (.ins c' ns ds) :: q.1) <;> rfl
        | exc _ _ => rfl
        | no => rfl
      · rfl
    | _ => rfl
  | exc _ _ => rfl
  | no => rfl
@[simp] theorem e_mvA (c m : Str) (F : FSem) (as : List Arg) (o : O) : mvA c m F as (.ok o ρ) = mvB c m F as ρ o.toD := (rfl)
theorem e_mvB (c m : Str) (F : FSem) (as : List Arg) (ns : List Str) (ds : List D) (h : fidx ns m = none) : mvB c m F as ρ (.ins c ns ds) = mvC F (.ins c ns ds) as (evA as ρ) := by unfold mvB; simp [h]
@[simp] theorem e_mvC (F : FSem) (d : D) (as : List Arg) (os : List (Option O)) : mvC F d as (.ok os ρ) = mvD F d as (takeA as os ρ) := (rfl)
@[simp] theorem e_mvD (F : FSem) (d : D) (as : List Arg) (q : List O) : mvD F d as (some (q, ρ)) = mvE as ρ (F (.val d :: q)) := (rfl)
@[simp] theorem e_mvE (as : List Arg) (o : O) (y : Option O) (ys : Env) : mvE as ρ (some (o, y :: ys)) = .ok o (giveA as ys ρ) := (rfl)
@[simp] theorem e_dflN (F : FSem) (os : List O) : dflN F os = F (os ++ [.val .non]) := (rfl)
theorem e_fldV (c f : Str) (ns : List Str) (ds : List D) (j : Nat) (h : fidx ns f = some j) : fldV c f (.val (.ins c ns ds)) = (ds[j]?).map O.val := by unfold fldV; simp [h]
end
end FB

/-! A dict one of whose keys may be None: it stands beside the environment (slot j holds its address; what it holds is told by a list of pairs). -/
namespace FB
open PySem PySem.Spec L2
open PyProof.Rows hiding St
abbrev NK := List (Option Key × V)
def nkφ (Pg : Program) (w : World) (a : Addr) (q : NK) : Heap → Prop := fun h => q.length ≤ sizeLine ∧ (a == sysModules) = false ∧ ∃ vs, KV q vs ∧ h.DictOf (noneKind Pg w) a vs
def dN (Pg : Program) (w : World) (a : Addr) (q : NK) : HO := .ext (nkφ Pg w a q)
/-! ### the three things that are done with it -/
section
variable {X : Cx}
end
/-! ### expressions beside it -/
section
variable {X : Cx} {K : PySem.W.Frag} {mg : Str → Option Value} {j : Nat}
end
/-! ### statements beside it -/
def PostN (K : PySem.W.Frag) (mg : Str → Option Value) (Pg : Program) (w : World) (P : List Nat) (j : Nat) (p : Addr) (T : List Item) (D : Ends) (σ : L2.St) : Option (Fl × NK × Env) → Prop
  | some (.nx, q, ρ') => ∀ σ' H', Fix (j :: P) σ σ' → Cov σ' ρ' → ρ'[j]? = some none → Rep K mg H' (pairs σ' ρ' ++ (.raw p (dN Pg w p q) :: T)) [] → D.nx σ' H'
  | some (.ret o, q, ρ') => ∀ v σ' H', Fix (j :: P) σ σ' → Cov σ' ρ' → Rep K mg H' (.ov v o :: (pairs σ' ρ' ++ (.raw p (dN Pg w p q) :: T))) [] → D.rt v H'
  | _ => False
section
variable {X : Cx} {K : PySem.W.Frag} {mg : Str → Option Value} {P : List Nat} {j : Nat} {Pg : Program} {w : World}
theorem PostN.fix {p : Addr} {T : List Item} {D : Ends} {σ σ1 : L2.St} {r : Option (Fl × NK × Env)} (f : Fix (j :: P) σ σ1) (h : PostN K mg Pg w P j p T D σ r) : PostN K mg Pg w P j p T D σ1 r := by
  unfold PostN at h ⊢
  split at h
  · exact fun σ' H' f' => h σ' H' (f.trans f')
  · exact fun v σ' H' f' => h v σ' H' (f.trans f')
  · exact h.elim
theorem PostN.more {ks T : List Item} {D : Ends} {σ : L2.St} {p : Addr} {r : Option (Fl × NK × Env)} (h : PostN K mg Pg w P j p T D σ r) : PostN K mg Pg w P j p (ks ++ T) D σ r := by
  unfold PostN at h ⊢
  split at h
  · exact fun σ' H' f c hj R => h σ' H' f c hj (R.perm ((List.Perm.append_left _ (List.perm_middle (l₁ := ks)).symm).trans (rot _ _ _))).drops
  · exact fun v σ' H' f c R => h v σ' H' f c (R.perm ((((List.Perm.append_left _ (List.perm_middle (l₁ := ks)).symm).trans (rot _ _ _)).cons _).trans List.perm_middle.symm)).drops
  · exact h.elim
/-! ### rules for simp -/
variable {ρ : Env} {q : NK}
end
end FB

/-! t[::-1] of a tuple. -/
namespace TR
open PySem PySem.Spec PyProof.Rows HT
section
variable {prog : Program} {w : World} {A : Around} {E : Value → Shared → Prop} {s : Shared}
theorem places_rev (n : Nat) : Builtin.Slice.slicePlaces ((n : Int) - 1) (-1) (-1) = n := by
  unfold Builtin.Slice.slicePlaces
  have h1 : ¬ ((-1 : Int) > 0) := by decide
  simp only [h1, if_false]
  by_cases h : (n : Int) - 1 > -1
  · rw [if_pos h, show (- -1 : Int) = 1 by decide, Int.ediv_one]
    omega
  · rw [if_neg h]; omega
theorem applied_rev {sl : Addr} {vs : Value} {n : Nat} {Q : Int × Int × Nat → Shared → Prop} (hs : s.heap.IsSliceOf sl .none .none vs) (ps : IsPart vs (some (-1)))
    (h : Q ((n : Int) - 1, -1, n) s) : wpAny (model prog w) A (Builtin.Slice.sliceApplied (.ref sl) (pure (n : Int))) Q E s := by
  obtain ⟨os, hos, hcs, hds⟩ := id hs
  unfold Builtin.Slice.sliceApplied Builtin.Slice.sliceFields
  refine wpAny_bind (wpAny_bind (wpAny_field hos hds (x := .none) rfl (wpAny_bind (wpAny_field hos hds (x := .none) rfl (wpAny_bind (wpAny_field hos hds (x := vs) rfl (wpAny_pure ?_)))))))
  refine wpAny_bind (slicePart_ ps ?_)
  show wpAny _ _ (if ((-1 : Int) == 0) = true then _ else _) _ _ s
  rw [if_neg (by decide)]
  refine wpAny_bind (slicePart_none (wpAny_bind (slicePart_none (wpAny_bind (wpAny_pure ?_)))))
  show wpAny _ _ (pure ((n : Int) - 1, (-1 : Int), Builtin.Slice.slicePlaces ((n : Int) - 1) (-1) (-1))) _ _ s
  rw [places_rev]
  exact wpAny_pure h
theorem fm_congr {α β : Type} {f g : α → Option β} : ∀ {L : List α}, (∀ x ∈ L, f x = g x) → L.filterMap f = L.filterMap g
  | [], _ => rfl
  | x :: L, h => by
    rw [List.filterMap_cons, List.filterMap_cons, h x (List.mem_cons_self ..), fm_congr fun y hy => h y (List.mem_cons_of_mem _ hy)]
theorem pick_rev (xs : Array Value) : ((List.range xs.size).filterMap fun (k : Nat) => xs[(((xs.size : Int) - 1) + (k : Int) * -1).toNat]?).toArray = xs.toList.reverse.toArray := by
  have e : (List.range xs.size).filterMap (fun (k : Nat) => xs[(((xs.size : Int) - 1) + (k : Int) * -1).toNat]?) = ((List.range xs.size).map fun k => xs.size - 1 - k).filterMap (xs[·]?) := by
    rw [List.filterMap_map]
    refine fm_congr fun k hk => ?_
    have := List.mem_range.mp hk
    have : (((xs.size : Int) - 1) + (k : Int) * -1).toNat = xs.size - 1 - k := by omega
    rw [this]; rfl
  rw [e, PySem.W.krv_range, List.filterMap_reverse, PySem.W.krv_all]
theorem getItem_rev {t sl : Addr} {items : Array Value} {vs : Value} {Q : Value → Shared → Prop} (ht : IsTup s.heap t items) (hs : s.heap.IsSliceOf sl .none .none vs) (ps : IsPart vs (some (-1)))
    (h : Q (.ref s.heap.objs.size) { s with heap := s.heap.push { cls := .type "tuple", data := .seq items.toList.reverse.toArray } })
    (hsz : items.size ≤ sizeLine) : wpAny (model prog w) A (getItem (.ref t) (.ref sl)) Q E s := by
  have htake : sizeOk (.seq items.toList.reverse.toArray) := by
    show items.toList.reverse.toArray.size ≤ sizeLine
    rw [List.size_toArray, List.length_reverse, Array.length_toList]
    exact hsz
  obtain ⟨os, hos, hcs, hds⟩ := id hs
  have hTs : s.TypeIs (.ref sl) "slice" := ⟨os, hos, hcs⟩
  unfold getItem
  try with_reducible refine wpAny_holding ?_
  first | refine wpAny_bind (wpAny_pure ?_) | skip
  refine wpAny_bind (wpAny_sequenceKey ht.typeIs (by decide) ?_)
  refine wpAny_bind (wpAny_callSpecial?_slot (name := Str.ofString "__getitem__") ht.typeIs PyProof.Rows.slot_tuple_getitem
    (wpAny_call_entry PyProof.Rows.slot_tuple_getitem ht.typeIs entry_tuple_getitem ?_ (args_tuple_getitem _ _)))
  show wpAny _ _ (Builtin.Tuple.tupleItemsOf (.ref t) >>= _) _ _ s
  refine wpAny_bind (tupleItemsOf_ ht ?_)
  refine wpAny_bind (wpAny_typeOf hTs ?_)
  rw [if_pos (by decide)]
  refine wpAny_bind (applied_rev hs ps ?_)
  have hno : ¬ (((items.size : Int) - 1 == 0 && (-1 : Int) == 1 && items.size == items.size) = true) := by
    intro q
    rw [Bool.and_eq_true, Bool.and_eq_true] at q
    exact absurd q.1.2 (by decide)
  show wpAny _ _ (if ((items.size : Int) - 1 == 0 && (-1 : Int) == 1 && items.size == items.size) = true then _ else _) _ _ s
  rw [if_neg hno, pick_rev]
  first
    | exact wpAny_bind (m := Builtin.Tuple.tupleExact _) (wpAny_newObj_type (wpAny_pure ⟨_, rfl, wpAny_pure h⟩) htake)
    | exact wpAny_bind (m := Builtin.Tuple.tupleExact _) (wpAny_newObj_type (wpAny_bind (wpAny_pure (wpAny_pure ⟨_, rfl, wpAny_pure h⟩))) htake)
    | exact wpAny_bind (wpAny_bind (m := Builtin.Tuple.tupleExact _) (wpAny_newObj_type (wpAny_pure (wpAny_pure ⟨_, rfl, wpAny_pure h⟩)) htake))
    | exact wpAny_bind (wpAny_bind (m := Builtin.Tuple.tupleExact _) (wpAny_newObj_type (wpAny_pure ⟨_, rfl, wpAny_pure h⟩) htake))
end
end TR
namespace FB
open PySem PySem.Spec L2
open PyProof.Rows hiding St
section
variable {X : Cx} {K : PySem.W.Frag} {mg : Str → Option Value}
def tRevA (K : PySem.W.Frag) (te : TE) : TE := fun σ H Q => te σ H fun x H1 => ∃ a xs, x = .ref a ∧ ((SqL K H1 a xs ∧ ∀ p, H1 p = none → Q (.ref p) (upd H1 p (.lst xs.reverse))) ∨ (SqT K H1 a xs ∧ ∀ p, H1 p = none → Q (.ref p) (upd H1 p (.tup xs.reverse))))
theorem pe_revA {e : Expr} {te : TE} {k : Nat} {p1 p2 p3 pos : Pos} (he : PE X e te) : PE X (.Subscript e (.Slice none none (some (.UnaryOp .USub (.Constant (.int 1) k p1) p2)) p3) pos) (tRevA X.K te) := by
  refine ⟨fun pins s σ H Q I h => ?_⟩
  refine Subscript_ (thn (he.run pins s σ H _ I h) fun v s1 ⟨x, H1, I1, r1, q1⟩ => ?_)
  obtain ⟨a, xs, ex, q⟩ := q1
  subst ex
  cases r1
  have hst : PO X (some (.UnaryOp .USub (.Constant (.int 1) k p1) p2)) (tPart (tUn (rU fun i => .int (-i)) (tC (.int 1)))) := po_some (pe_un un_neg pe_int)
  refine wpAny_Slice (thn (po_none.run pins s1 σ H1 (fun o H2 => o = none ∧ H2 = H1) I1 ⟨rfl, rfl⟩) fun vl s2 ⟨l, H2, I2, pl, el, e2⟩ => ?_)
  subst el e2
  refine thn (po_none.run pins s2 σ H2 (fun o H3 => o = none ∧ H3 = H2) I2 ⟨rfl, rfl⟩) fun vu s3 ⟨u, H3, I3, pu, eu, e3⟩ => ?_
  subst eu e3
  refine thn (hst.run pins s3 σ H3 (fun o H4 => o = some (-1) ∧ H4 = H3) I3 ⟨1, rfl, -1, rfl, rfl, rfl⟩) fun vs s4 ⟨o, H4, I4, ps, eo, e4⟩ => ?_
  subst eo e4
  have I5 : Inv X pins σ H4 { s4 with heap := s4.heap.push { cls := .type "slice", data := .fields #[vl, vu, vs] } } := I4.kept (t' := s4.toks) fun b ob q => Heap.get?_push_of_some _ q
  cases pl
  cases pu
  rcases q with ⟨hx, q⟩ | ⟨hx, q⟩
  · obtain ⟨its, r, ht, hz⟩ := I5.list hx
    have hlen := r.length
    show wpAny (model X.prog X.w) X.A (subscriptTail e (.Slice none none (some (.UnaryOp .USub (.Constant (.int 1) k p1) p2)) p3) (.ref a) (.ref s4.heap.objs.size)) (EP X pins σ Q) X.xe { s4 with heap := s4.heap.push { cls := .type "slice", data := .fields #[.none, .none, vs] } }
    refine tail_any (ops := [.ref a, .ref s4.heap.objs.size]) ht.isList.typeIs (PySem.slot_list_getitem.lookup) ?_ (by with_unfolding_all rfl)
    refine wpAny_getItem_list_slice ht.isList (Heap.IsSliceOf.new _ .none .none vs) .none .none ps (by decide) ?_ (by rw [List.size_toArray]; omega)
    rw [PySem.W.krv_pick]
    refine ⟨.ref _, _, I5.laid (t' := s4.toks) (o := .lst xs.reverse) (fun b ob q => Heap.get?_push_of_some _ q) (Nat.le_refl _) ?_, rfl, q _ (I5.hok.fresh (Nat.le_refl _))⟩
    exact ⟨by rw [List.length_reverse]; exact hz, _, 0, r.reverse, Heap.get?_push_size _ rfl⟩
  · obtain ⟨its, r, ht, hz⟩ := I5.tuple hx
    have hlen := r.length
    show wpAny (model X.prog X.w) X.A (subscriptTail e (.Slice none none (some (.UnaryOp .USub (.Constant (.int 1) k p1) p2)) p3) (.ref a) (.ref s4.heap.objs.size)) (EP X pins σ Q) X.xe { s4 with heap := s4.heap.push { cls := .type "slice", data := .fields #[.none, .none, vs] } }
    refine tail_any (ops := [.ref a, .ref s4.heap.objs.size]) ht.typeIs (PyProof.Rows.slot_tuple_getitem.lookup) ?_ (by with_unfolding_all rfl)
    refine TR.getItem_rev ht (Heap.IsSliceOf.new _ .none .none vs) ps ?_ (by rw [List.size_toArray]; omega)
    refine ⟨.ref _, _, I5.laid (t' := s4.toks) (o := .tup xs.reverse) (fun b ob q => Heap.get?_push_of_some _ q) (Nat.le_refl _) ?_, rfl, q _ (I5.hok.fresh (Nat.le_refl _))⟩
    exact ⟨by rw [List.length_reverse]; exact hz, its.reverse, r.reverse, IsTup.new _ _⟩
def revA (a : O) : Option O := match a.sh with
  | some (.lst ds) => some (.val (.lst ds.reverse))
  | some (.tup ds) => some (.val (.tup ds.reverse))
  | _ => none
def rRevA (K : PySem.W.Frag) : V → Hp → VK → Prop := fun x H Q => ∃ a xs, x = .ref a ∧ ((SqL K H a xs ∧ ∀ p, H p = none → Q (.ref p) (upd H p (.lst xs.reverse))) ∨ (SqT K H a xs ∧ ∀ p, H p = none → Q (.ref p) (upd H p (.tup xs.reverse))))
theorem zip_rev {vs : List V} {ds : List D} (lp : vs.length = ds.length) : (zipI vs (ds.map O.val)).Perm (zipI vs.reverse (ds.reverse.map O.val)) := by
  rw [show zipI vs.reverse (ds.reverse.map O.val) = (zipI vs (ds.map O.val)).reverse from by
    unfold zipI
    rw [List.reverse_zipWith (by simpa using lp), List.map_reverse]]
  exact (List.reverse_perm _).symm
theorem unv_revA : UnV K mg (rRevA K) revA := by
  intro H L B x ox o Q R hx e k
  unfold revA at e
  split at e
  · rename_i ds e1
    cases e
    obtain ⟨p, vs, rfl, hp, lp, R1⟩ := R.shL hx e1
    refine ⟨p, vs, rfl, .inl ⟨.inl hp, fun q hq => k _ _ (sameNew hq) ?_⟩⟩
    exact Rep.lentL (vs := vs.reverse) (ds := ds.reverse) (R1.perm (List.Perm.append_right _ (zip_rev lp))) (by simpa using lp) hq
  · rename_i ds e1
    cases e
    obtain ⟨p, vs, rfl, hp, lp, R1⟩ := R.shT hx e1
    refine ⟨p, vs, rfl, .inr ⟨hp, fun q hq => k _ _ (sameNew hq) ?_⟩⟩
    exact Rep.lentT (vs := vs.reverse) (ds := ds.reverse) (R1.perm (List.Perm.append_right _ (zip_rev lp))) (by simpa using lp) hq
  · cases e
theorem sp_revA {e : Expr} {k : Nat} {q1 q2 q3 pos : Pos} {f : Pf} (h : SP X e f) : SP X (.Subscript e (.Slice none none (some (.UnaryOp .USub (.Constant (.int 1) k q1) q2)) q3) pos) (p1 revA f) := PE.imp (pe_revA h) (tUn_p unv_revA)
@[simp] theorem revA_lst (ds : List D) : revA (.val (.lst ds)) = some (.val (.lst ds.reverse)) := (rfl)
@[simp] theorem revA_tup (ds : List D) : revA (.val (.tup ds)) = some (.val (.tup ds.reverse)) := (rfl)
end
end FB

/-! A def that returns a tuple in which own things lie; its call, taken apart into names. -/
namespace FB
open PySem PySem.Spec L2
open PyProof.Rows hiding St
section
variable {X : Cx} {K : PySem.W.Frag} {mg : Str → Option Value} {P : List Nat}
/-! names, each told its thing -/
/-! rules -/
end
end FB

/-! A comprehension over an own dict whose element is a reading: the dict stays own. -/
namespace FB
open PySem PySem.Spec L2
open PyProof.Rows hiding St
section
variable {X : Cx} {K : PySem.W.Frag} {mg : Str → Option Value}
end
end FB

/-! An own flat dict shown as shared while one expression runs: it is own again behind it. -/
namespace FB
open PySem PySem.Spec L2
open PyProof.Rows hiding St
section
variable {X : Cx} {K : PySem.W.Frag} {mg : Str → Option Value}
mutual
/-- no dict within -/
def D.nd : D → Bool
  | .non => true
  | .bl _ => true
  | .int _ => true
  | .str _ => true
  | .tup ds => D.nds ds
  | .lst ds => D.nds ds
  | .scr _ => true
  | .fn _ => true
  | .dct _ _ => false
  | .ins _ _ ds => D.nds ds
def D.nds : List D → Bool
  | [] => true
  | d :: ds => d.nd && D.nds ds
end
mutual
def O.nd : O → Bool
  | .val d => d.nd
  | .lst os => O.nds os
  | .dct _ os => O.nds os
  | .ins _ _ os => O.nds os
def O.nds : List O → Bool
  | [] => true
  | o :: os => o.nd && O.nds os
end
theorem rd_ers {G : Hp} {d a : Addr} {u : HO} {od : Obj} {kvs : List (Key × V)} (hd : G d = some (.frz od (.dK kvs))) (h : Rd G a u) (h1 : u ≠ .dK kvs) (h2 : ∀ o w, u ≠ .frz o w) : Rd (ers d G) a u := by
  have e : a ≠ d := fun e => by
    subst e
    rcases h with h | ⟨o, h⟩
    · rw [hd] at h; cases h; exact h2 _ _ rfl
    · rw [hd] at h; cases h; exact h1 rfl
  rcases h with h | ⟨o, h⟩
  · exact .inl ((ers_ne e).trans h)
  · exact .inr ⟨o, (ers_ne e).trans h⟩
mutual
theorem Vw.ers {G : Hp} {d : Addr} {od : Obj} {kvs : List (Key × V)} (hd : G d = some (.frz od (.dK kvs))) : ∀ {v : V} {x : D}, Vw K mg G v x → x.nd = true → Vw K mg (ers d G) v x
  | _, _, .non, _ => .non
  | _, _, .bl b, _ => .bl b
  | _, _, .int i, _ => .int i
  | _, _, .str s h, _ => .str s h
  | _, _, .tup h hs, n => by
    refine .tup ?_ (Vws.ers hd hs n)
    rcases h with h | h
    · exact .inl (rd_ers hd h (fun z => by cases z) (fun _ _ z => by cases z))
    · exact .inr h
  | _, _, .lst h hs, n => .lst (rd_ers hd h (fun z => by cases z) (fun _ _ z => by cases z)) (Vws.ers hd hs n)
  | _, _, .fn h, _ => .fn h
  | _, _, .scr h, _ => by
    refine .scr ?_
    rcases h with h | h
    · exact .inl (rd_ers hd h (fun z => by cases z) (fun _ _ z => by cases z))
    · exact .inr h
  | _, _, .dct _ _ _, n => by cases n
  | _, _, .ins (a := a) h hm hn hs, n => by
    have e : a ≠ d := fun e => by subst e; rw [hd] at h; cases h
    exact .ins ((ers_ne e).trans h) hm hn (Vws.ers hd hs n)
theorem Vws.ers {G : Hp} {d : Addr} {od : Obj} {kvs : List (Key × V)} (hd : G d = some (.frz od (.dK kvs))) : ∀ {vs : List V} {ds : List D}, Vws K mg G vs ds → D.nds ds = true → Vws K mg (ers d G) vs ds
  | _, _, .nil, _ => .nil
  | _, _, .cons (d := x) (ds := xs) h t, n => by
    have n : (x.nd && D.nds xs) = true := n
    rw [Bool.and_eq_true] at n
    exact .cons (Vw.ers hd h n.1) (Vws.ers hd t n.2)
end
mutual
theorem VO.ers {G H : Hp} {d : Addr} {od : Obj} {kvs : List (Key × V)} (hd : G d = some (.frz od (.dK kvs))) : ∀ {v : V} {x : O} {as : List Addr}, VO K mg G H v x as → x.nd = true → VO K mg (ers d G) H v x as
  | _, _, _, .val h, n => .val (h.ers hd n)
  | _, _, _, .lst h hs, n => .lst h (VOs.ers hd hs n)
  | _, _, _, .dct h hk hs, n => .dct h hk (VOs.ers hd hs n)
  | _, _, _, .ins h hm hn hs, n => .ins h hm hn (VOs.ers hd hs n)
theorem VOs.ers {G H : Hp} {d : Addr} {od : Obj} {kvs : List (Key × V)} (hd : G d = some (.frz od (.dK kvs))) : ∀ {vs : List V} {xs : List O} {as : List Addr}, VOs K mg G H vs xs as → O.nds xs = true → VOs K mg (ers d G) H vs xs as
  | _, _, _, .nil, _ => .nil
  | _, _, _, .cons (o := x) (os := xs) h t, n => by
    have n : (x.nd && O.nds xs) = true := n
    rw [Bool.and_eq_true] at n
    exact .cons (VO.ers hd h n.1) (VOs.ers hd t n.2)
end
theorem IsOk.but {G H : Hp} {d : Addr} : ∀ {L : List Item} {as : List Addr}, IsOk K mg (ers d G) H L as → IsOk K mg G H (L.map (.but d)) as
  | _, _, .nil => .nil
  | _, _, .cons h t => .cons (.but h) (IsOk.but t)
theorem IsOk.unbut {G H : Hp} {d : Addr} : ∀ {L : List Item} {as : List Addr}, IsOk K mg G H (L.map (.but d)) as → IsOk K mg (ers d G) H L as
  | [], _, .nil => .nil
  | _ :: _, _, .cons (.but h) t => .cons h (IsOk.unbut t)
/-- what is shared alone -/
def outE (ρ : Env) : Env := ρ.map fun o => match o with
  | some (.val x) => some (.val x)
  | _ => none
@[simp] theorem outE_nil : outE [] = [] := rfl
@[simp] theorem outE_none (ρ : Env) : outE (none :: ρ) = none :: outE ρ := rfl
@[simp] theorem outE_val (d : D) (ρ : Env) : outE (some (.val d) :: ρ) = some (.val d) :: outE ρ := rfl
@[simp] theorem outE_lst (os : List O) (ρ : Env) : outE (some (.lst os) :: ρ) = none :: outE ρ := rfl
@[simp] theorem outE_dct (ks : List Key) (os : List O) (ρ : Env) : outE (some (.dct ks os) :: ρ) = none :: outE ρ := rfl
@[simp] theorem outE_ins (c : Str) (ns : List Str) (os : List O) (ρ : Env) : outE (some (.ins c ns os) :: ρ) = none :: outE ρ := rfl
theorem Cov.outE {σ : L2.St} {ρ : Env} (c : Cov σ ρ) : Cov σ (outE ρ) := by
  refine ⟨by simp [FB.outE, c.len], fun j q h => ?_⟩
  unfold FB.outE at h
  rw [List.getElem?_map] at h
  cases e : ρ[j]? with
  | none => rw [e] at h; cases h
  | some o =>
    rw [e] at h
    cases o with
    | none => cases h
    | some o => exact c.ex j o e
theorem IsOk.outE {G H : Hp} : ∀ {σ : L2.St} {ρ : Env} {as : List Addr}, IsOk K mg G H (pairs σ ρ) as → IsOk K mg G H (pairs σ (outE ρ)) []
  | [], ρ, _, _ => by rw [pairs_nil]; exact .nil
  | v :: σ, [], _, _ => by show IsOk K mg G H (pairs (v :: σ) []) []; rw [pairs_nil']; exact .nil
  | none :: σ, o :: ρ, _, h => by
    rw [pairs_ns] at h
    have q := IsOk.outE (σ := σ) (ρ := ρ) h
    show IsOk K mg G H (pairs (none :: σ) (_ :: FB.outE ρ)) []
    rw [pairs_ns]; exact q
  | some v :: σ, none :: ρ, _, h => by
    rw [pairs_sn] at h
    rw [outE_none, pairs_sn]
    exact IsOk.outE h
  | some v :: σ, some o :: ρ, _, h => by
    rw [pairs_ss] at h
    cases h with
    | cons h t =>
      have q := IsOk.outE (σ := σ) (ρ := ρ) t
      cases o with
      | val d =>
        rw [outE_val, pairs_ss]
        cases h with
        | ov h =>
          cases h with
          | val h => exact .cons (as := []) (.ov (.val h)) q
      | lst os => rw [outE_lst, pairs_sn]; exact q
      | dct ks os => rw [outE_dct, pairs_sn]; exact q
      | ins c ns os => rw [outE_ins, pairs_sn]; exact q
/-- m runs with the own flat dict of name i shown as shared, the other own things set aside -/
def mBor (i : Nat) (m : M O) : M O := fun ρ => match ρ[i]? with
  | some (some (.dct ks os)) => match vals? os with
    | some ds => match m ((outE ρ).set i (some (.val (.dct ks ds)))) with
      | .ok o _ => if o.nd = true then .ok o ρ else .no
      | _ => .no
    | none => .no
  | _ => .no
theorem e_mBor {i : Nat} {m : M O} {ρ ρ2 : Env} {ks : List Key} {ds : List D} {o : O} (h1 : ρ[i]? = some (some (.dct ks (ds.map O.val)))) (h2 : m ((outE ρ).set i (some (.val (.dct ks ds)))) = .ok o ρ2) (h3 : o.nd = true) : mBor i m ρ = .ok o ρ := by
  unfold mBor
  rw [h1]
  show (match vals? (ds.map O.val) with | some ds => _ | none => _) = _
  rw [vals?_map]
  show (match m ((outE ρ).set i (some (.val (.dct ks ds)))) with | .ok o _ => _ | _ => _) = _
  rw [h2]
  exact if_pos h3
theorem bor_core {i : Nat} {m : M O} (σ : L2.St) (H : Hp) (Q : VK) (w : tM K mg (mBor i m) σ H Q) : tLockE (tM K mg m) σ H Q := by
  obtain ⟨ρ, T, o, ρ', cv, R, e0, k⟩ := w
  unfold mBor at e0
  split at e0
  · rename_i ks os e1
    split at e0
    · rename_i ds e2
      have e2 := vals?_eq e2
      subst e2
      split at e0
      · rename_i o2 ρ2 e3
        split at e0
        · rename_i hn
          cases e0
          obtain ⟨v, hv⟩ := cv.ex i _ e1
          have hl : i < ρ.length := (List.getElem?_eq_some_iff.mp e1).1
          have pk := (pairs_take hv e1).append_right T
          obtain ⟨A, nd, ok, hbb⟩ := R.perm pk
          cases ok with
          | @cons _ _ as bs h t =>
            cases h with
            | ov h =>
              cases h with
              | @dct p kvs _ _ as' hp hk hs =>
                obtain ⟨hs, e4⟩ := VOs.of_vals hs
                subst e4
                have hpb : p ∉ bs := (List.nodup_cons.mp nd).1
                have ndb : bs.Nodup := (List.nodup_cons.mp nd).2
                refine ⟨p, .dK kvs, hp, trivial, fun od => ?_⟩
                -- the heap that all see but those that see p
                have eG : ers p (hide (upd H p (.frz od (.dK kvs))) bs) = hide H (p :: bs) := by
                  funext a
                  by_cases ea : a = p
                  · subst ea
                    rw [hide_in (List.mem_cons_self ..)]
                    exact if_pos rfl
                  · rw [ers_ne ea]
                    by_cases hb : a ∈ bs
                    · rw [hide_in hb, hide_in (List.mem_cons_of_mem _ hb)]
                    · rw [hide_out hb, hide_out (by simp [ea, hb]), upd_ne ea]
                have hG : hide (upd H p (.frz od (.dK kvs))) bs p = some (.frz od (.dK kvs)) := (hide_out hpb).trans upd_same
                have sG : Same (hide H (p :: bs)) (hide (upd H p (.frz od (.dK kvs))) bs) := by
                  rw [← eG]
                  exact fun a u q => (ers_some q).2
                have hu : ∀ a ∈ bs, upd H p (.frz od (.dK kvs)) a = H a := fun a ha => upd_ne fun z => hpb (z ▸ ha)
                have t' : IsOk K mg (ers p (hide (upd H p (.frz od (.dK kvs))) bs)) (upd H p (.frz od (.dK kvs))) (pairs σ (ρ.set i none) ++ T) bs := by
                  rw [eG]
                  exact IsOk.mono (Same.refl _) t hu
                have tv : IsOk K mg (ers p (hide (upd H p (.frz od (.dK kvs))) bs)) (upd H p (.frz od (.dK kvs))) (zipI (kvs.map (·.2)) (ds.map O.val)) [] := by
                  rw [eG]
                  exact IsOk.zip (VOs.vals hs)
                have c0 : Cov σ (outE ρ) := cv.outE
                have c1 : Cov σ ((outE ρ).set i (some (.val (.dct ks ds)))) := c0.put hv _
                have hlo : i < (outE ρ).length := by simpa [outE] using hl
                refine ⟨(outE ρ).set i (some (.val (.dct ks ds))), .pin p od (.dK kvs) :: ((zipI (kvs.map (·.2)) (ds.map O.val)).map (.but p) ++ (pairs σ (ρ.set i none) ++ T).map (.but p)), o, ρ2, c1, ?_, e3, ?_⟩
                · have r0 : IsOk K mg (hide (upd H p (.frz od (.dK kvs))) bs) (upd H p (.frz od (.dK kvs))) (.ov (.ref p) (.val (.dct ks ds)) :: pairs σ (outE (ρ.set i none))) [] := by
                    refine .cons (as := []) (bs := []) (.ov (.val (.dct (.inr ⟨od, hG⟩) hk (hs.mono sG)))) ?_
                    obtain ⟨b1, b2, _, t1, _⟩ := t.split
                    exact IsOk.mono sG (IsOk.outE t1) (fun a ha => by simp at ha)
                  have r1 : IsOk K mg (hide (upd H p (.frz od (.dK kvs))) bs) (upd H p (.frz od (.dK kvs))) ((.ov (.ref p) (.val (.dct ks ds)) :: pairs σ (outE (ρ.set i none))) ++ (.pin p od (.dK kvs) :: ((zipI (kvs.map (·.2)) (ds.map O.val)).map (.but p) ++ (pairs σ (ρ.set i none) ++ T).map (.but p)))) ([] ++ ([] ++ ([] ++ bs))) :=
                    r0.append (.cons (.pin hG) (IsOk.append (IsOk.but tv) (IsOk.but t')))
                  have r2 : Rep K mg (upd H p (.frz od (.dK kvs))) ((.ov (.ref p) (.val (.dct ks ds)) :: pairs σ (outE (ρ.set i none))) ++ (.pin p od (.dK kvs) :: ((zipI (kvs.map (·.2)) (ds.map O.val)).map (.but p) ++ (pairs σ (ρ.set i none) ++ T).map (.but p)))) [] := ⟨bs, ndb, r1, fun _ z => by simp at z⟩
                  refine r2.perm ?_
                  have eo : outE (ρ.set i none) = (outE ρ).set i none := by
                    unfold outE
                    rw [List.map_set]
                  rw [eo]
                  exact (pairs_back hv hlo).append_right _
                · intro x H' c2 R2
                  have R3 : Rep K mg H' (.pin p od (.dK kvs) :: (.ov x o :: ((zipI (kvs.map (·.2)) (ds.map O.val)).map (.but p) ++ (pairs σ (ρ.set i none) ++ T).map (.but p)))) [] := by
                    refine Rep.drops (M := pairs σ ρ2) (R2.perm ?_)
                    refine (List.Perm.cons _ List.perm_middle).trans ?_
                    refine (List.Perm.swap _ _ _).trans ?_
                    refine List.Perm.trans ?_ List.perm_middle.symm
                    refine List.Perm.cons _ ?_
                    exact List.perm_middle.symm
                  have hfz := R3.pinAt
                  refine ⟨hfz, ?_⟩
                  obtain ⟨A', nd', ok', hbb'⟩ := R3
                  cases ok' with
                  | @cons _ _ as0 A2 hpin t2 =>
                    cases hpin with
                    | pin hpin =>
                      have nd' : A2.Nodup := nd'
                      have hpin : hide H' A2 p = some (.frz od (.dK kvs)) := hpin
                      have hpA : p ∉ A2 := (hide_some hpin).1
                      have t2 : IsOk K mg (hide H' A2) H' _ A2 := t2
                      cases t2 with
                      | @cons _ _ as1 bs1 ho t3 =>
                        cases ho with
                        | ov ho =>
                          obtain ⟨b1, b2, e5, t4, t5⟩ := t3.split
                          subst e5
                          have eG2 : ers p (hide H' (as1 ++ (b1 ++ b2))) = hide (upd H' p (.dK kvs)) (as1 ++ (p :: b2)) := by
                            have hb1 : b1 = [] := by
                              have q := IsOk.unzip (by simpa using hs.length) (IsOk.unbut t4)
                              exact (VOs.of_vals q).2
                            subst hb1
                            funext a
                            by_cases ea : a = p
                            · subst ea
                              rw [hide_in (by simp)]
                              exact if_pos rfl
                            · rw [ers_ne ea]
                              by_cases hb : a ∈ as1 ++ ([] ++ b2)
                              · rw [hide_in hb, hide_in (by simp at hb ⊢; rcases hb with h | h <;> simp [h])]
                              · rw [hide_out hb, hide_out (by simp at hb ⊢; exact ⟨hb.1, ea, hb.2⟩), upd_ne ea]
                          have q4 := IsOk.unzip (by simpa using hs.length) (IsOk.unbut t4)
                          obtain ⟨q4, hb1⟩ := VOs.of_vals q4
                          subst hb1
                          have hu2 : ∀ a ∈ as1 ++ ([] ++ b2), upd H' p (.dK kvs) a = H' a := fun a ha => upd_ne fun z => hpA (z ▸ ha)
                          have t5 := IsOk.unbut t5
                          have ho := VO.ers hpin ho hn
                          rw [eG2] at t5 ho q4
                          refine k x _ cv (Rep.perm (L := .ov x o :: (.ov (.ref p) (.dct ks (ds.map O.val)) :: (pairs σ (ρ.set i none) ++ T))) ?_ ((pk.symm).cons _))
                          refine ⟨as1 ++ (p :: b2), ?_, ?_, fun _ z => by simp at z⟩
                          · have : (as1 ++ (p :: b2)).Perm (p :: (as1 ++ ([] ++ b2))) := List.perm_middle
                            exact this.symm.nodup (List.nodup_cons.mpr ⟨hpA, nd'⟩)
                          · refine .cons (.ov (ho.mono (Same.refl _) fun a ha => hu2 a (by simp [ha]))) ?_
                            refine .cons (as := [p]) (.ov (.dct upd_same hk (VOs.vals q4))) ?_
                            exact IsOk.mono (Same.refl _) t5 fun a ha => hu2 a (by simp [ha])
        · cases e0
      · cases e0
    · cases e0
  · cases e0
theorem se_bor (i : Nat) {e : Expr} {m : M O} (h : SE X e m) : SE X e (mBor i m) := PE.imp (pe_lock h) bor_core
end
end FB

/-! != between tuples that hold dicts, where both are alike. -/
namespace FB
open PySem PySem.Spec L2
open PyProof.Rows hiding St
/-! two tuples alike: != is False -/
section
open PySem.SeqAt
open AutoSeq1 (wpAny_loadPart')
open MeetsSeq MeetsSeq2 MeetsSeq3 SeqRoads2
variable {prog : Program} {w : World}
end
section
variable {X : Cx} {K : PySem.W.Frag} {mg : Str → Option Value}
end
end FB

/-! Defs handed in as arguments: a name of a def as a value, a call of a local name that holds one of two raising defs. -/
namespace FB
open PySem PySem.Spec L2
open PyProof.Rows hiding St
section
variable {X : Cx} {W : WX}
/-! name.clear() of an own dict -/
def mClearD (i : Nat) : M O := fun ρ => match ρ[i]? with
  | some (some (.dct _ _)) => .ok (.val .non) (ρ.set i (some (.dct [] [])))
  | _ => .no
theorem se_clearD (i : Nat) {x : Str} {p apos cpos : Pos} (hN : X.N[i]? = some x := by rfl) (hv : Vis X.env.scope x := by first | exact Or.inl rfl | exact Or.inr (Or.inl rfl) | exact Or.inr (Or.inr rfl)) (hd : (x == ("__debug__" : Str)) = false := by decide)
    (hcd : (x == ("__classdict__" : Str)) = false := by decide) (hbase : attributeBase (.Name x p) "clear" X.env (eval (.Name x p) X.env) = eval (.Name x p) X.env := by rfl) (hline : (apos.endLine == cpos.line) = true := by rfl) :
    SE X (.Call (.Attribute (.Name x p) "clear" apos) [] [] cpos) (mClearD i) :=
  PE.imp (pe_dclear (pv i hN hv hd hcd) hbase hline) fun σ H Q w => by
    obtain ⟨ρ, T, o, ρ', c, R, e0, k⟩ := w
    unfold mClearD at e0
    split at e0
    · rename_i ks os e1
      cases e0
      obtain ⟨v, hv⟩ := c.ex i _ e1
      have R0 : Rep X.K X.mg H ([] ++ (pairs σ ρ ++ T)) [] := R
      obtain ⟨q, kvs, ev, hl, hk, R1⟩ := (Rep.slot hv e1 R0).openD
      subst ev
      have hq := R1.rawAt
      refine ⟨_, hv, .inr (.inr (.inl ⟨rfl, .inl ⟨kvs, hq⟩⟩)), q, kvs, rfl, rfl, hq, ?_⟩
      have R2 := R1.write (o' := .dK [])
      have R3 : Rep X.K X.mg (upd H q (.dK [])) (.ov (.ref q) (.dct [] []) :: (pairs σ (ρ.set i none) ++ T)) [] := by
        refine Rep.closeD (kvs := []) ?_ rfl ⟨rfl, List.nodup_nil⟩
        refine (Rep.drops (M := zipI (kvs.map (·.2)) os) (R2.perm ?_))
        exact List.perm_middle.symm
      have R4 : Rep X.K X.mg _ ([] ++ (pairs σ (ρ.set i (some (.dct [] []))) ++ T)) [] := Rep.unslot hv e1 R3
      exact k .non _ (c.put hv _) (R4.scal fun _ => .non)
    · cases e0
end
end FB

/-! isinstance of a caught error that has fields. -/
namespace FB
open PySem PySem.Spec L2
open PyProof.Rows hiding St
section
variable {X : Cx} {a D dd : Addr} {oe : Obj} {pn : List (Addr × Obj)}
end
section
variable {X : Cx} {a : Addr} {i : Nat} {I : List Item} {x : Exn} {cls : Value} {d : Option Addr} {oe : Obj} {pn : List (Addr × Obj)} {es : List Str}
/-- the fields' dict stands -/
theorem FrE.xd {K : PySem.W.Frag} {mg : Str → Option Value} {dd : Addr} {vs : List V} {fs : List (Str × V)} {ds : List D} {σ : L2.St} {ρ : Env} {T : List Item} {H : Hp} (f : FrE a i (.raw dd (.xd fs) :: zipI vs (ds.map O.val)) σ T) (R : Rep K mg H (pairs σ ρ ++ T) []) : H dd = some (.xd fs) := by
  obtain ⟨_, T0, p⟩ := f
  have q : (pairs σ ρ ++ T).Perm (.raw dd (.xd fs) :: ((zipI vs (ds.map O.val) ++ T0) ++ pairs σ ρ)) := by
    refine List.perm_append_comm.trans ?_
    exact p.append_right _
  exact (R.perm q).rawAt
end
end FB

/-! Making an object where __init__ may raise; a raising def with its last parameter left out. -/
namespace FB
open PySem PySem.Spec L2
open PyProof.Rows hiding St
section
variable {P : Program} {w : World} {K : PySem.W.Frag} {mg : Str → Option Value} {base : Heap}
end
section
variable {X : Cx} {W : WX}
variable {ρ : Env}
end
end FB

/-! sorted(..) of texts, also of a dict of texts; a method of a thing just made. -/
namespace FB
open PySem PySem.Spec L2
open PyProof.Rows hiding St
/-! texts in order -/
section
variable {X : Cx} {K : PySem.W.Frag} {mg : Str → Option Value}
theorem Rep.strs {H : Hp} {L : List Item} {B : List (V × O)} (R : Rep K mg H L B) : ∀ {ms : List Str}, (∀ m ∈ ms, PyData.strOk m = true) → Rep K mg H (zipI (ms.map V.str) ((ms.map D.str).map O.val) ++ L) B
  | [], _ => R
  | m :: ms, h => (Rep.strs R fun z hz => h z (List.mem_cons_of_mem _ hz)).scal fun _ => .str m (h m (List.mem_cons_self ..))
/-! e.m(..) of an own thing that no name holds -/
variable {ρ : Env}
end
end FB

/-! Dicts compared whose values are tuples, lists, scalars. -/
namespace FB
open PySem PySem.Spec L2
open PyProof.Rows hiding St

section
variable {X : Cx} {K : PySem.W.Frag} {mg : Str → Option Value}
end
end FB
/-! a new list of one's own: a + b -/
namespace FB
open PySem PySem.Spec L2
open PyProof.Rows hiding St
section
variable {X : Cx} {K : PySem.W.Frag} {mg : Str → Option Value}
variable {ρ : Env}
end
end FB
/-! an own thing compared with what is made behind it -/
namespace FB
open PySem PySem.Spec L2
open PyProof.Rows hiding St
section
variable {X : Cx} {K : PySem.W.Frag} {mg : Str → Option Value}
variable {ρ : Env}
end
end FB

/-! Methods that may raise. -/
namespace FB
open PySem PySem.Spec L2
open PyProof.Rows hiding St
section
variable {P : Program} {w : World} {K : PySem.W.Frag} {mg : Str → Option Value} {base : Heap}
end
section
variable {X : Cx} {W : WX}
variable {ρ : Env}
end
end FB
/-! name.f = e, e may raise -/
namespace FB
open PySem PySem.Spec L2
open PyProof.Rows hiding St
section
variable {X : Cx} {W : WX}
end
end FB

/-! Places within an own tree: name.f, name.f[k]; a method called there. -/
namespace FB
open PySem PySem.Spec L2
open PyProof.Rows hiding St
section
variable {X : Cx} {K : PySem.W.Frag} {mg : Str → Option Value}
/-! pure arguments -/
end
section
variable {X : Cx}
end
end FB

/-! append at a place: name.f.append(e), name.f[k].append(e); e is pure. -/
namespace FB
open PySem PySem.Spec L2
open PyProof.Rows hiding St
section
variable {X : Cx} {K : PySem.W.Frag} {mg : Str → Option Value}
end
section
variable {X : Cx}
variable {ρ : Env}
/-! as rules -/
end
end FB

/-! C(..) where __init__ has a last parameter that is None unless given. -/
namespace FB
open PySem PySem.Spec L2
open PyProof.Rows hiding St
section
variable {P : Program} {w : World} {K : PySem.W.Frag} {mg : Str → Option Value} {base : Heap}
end
section
variable {X : Cx}
end
end FB

/-! name.f[k] += e, f a dict; name.f += e: ints. -/
namespace FB
open PySem PySem.Spec L2
open PyProof.Rows hiding St
section
variable {X : Cx} {K : PySem.W.Frag} {mg : Str → Option Value}
end
end FB

/-! E.append(e), E a list just made. -/
namespace FB
open PySem PySem.Spec L2
open PyProof.Rows hiding St
section
variable {X : Cx}
variable {ρ : Env}
end
end FB

/-! A name for a list at a place, looked at and changed:
rows = name.f[k]; if TEST: rows[I] = E else: rows.append(E') -- where TEST, E, E' may read name.now, an int. -/
namespace FB
open PySem PySem.Spec L2
open PyProof.Rows hiding St
section
variable {X : Cx} {K : PySem.W.Frag} {mg : Str → Option Value}
variable {i : Nat} {F : Str}
end
end FB

/-! A tuple times 0, 1 or more. -/
namespace FB
open PySem PySem.Spec L2
open PyProof.Rows hiding St
section
variable {X : Cx}
end
section
variable {X : Cx} {K : PySem.W.Frag} {mg : Str → Option Value}
end
end FB

/-! Tests and ifs in a suite behind except. -/
namespace FB
open PySem PySem.Spec L2
open PyProof.Rows hiding St
section
variable {X : Cx} {P : List Nat} {a : Addr} {i : Nat} {I : List Item}
end
end FB

/-! == between tuples, and between lists, that hold dicts, where both are alike. -/
namespace FB
open PySem PySem.Spec L2
open PyProof.Rows hiding St
section
variable {X : Cx} {K : PySem.W.Frag} {mg : Str → Option Value}
end
end FB

/-! Displays of dicts with several text keys. -/
namespace FB
open PySem PySem.Spec L2
open PyProof.Rows hiding St
section
variable {X : Cx} {K : PySem.W.Frag} {mg : Str → Option Value}
end
end FB

/-! Places under text keys of an own dict: name["k"][e] = v, name["k"].append(e); an own name moved late into a display. -/
namespace FB
open PySem PySem.Spec L2
open PyProof.Rows hiding St
section
variable {X : Cx}
end
end FB

/-! What stands at a text key of an own dict, shown and shared from then on. -/
namespace FB
open PySem PySem.Spec L2
open PyProof.Rows hiding St
section
variable {X : Cx}
end
end FB

/-! Rules for simp: displays of dicts, places under text keys. -/
namespace FB
open PySem PySem.Spec L2
open PyProof.Rows hiding St
variable {ρ : Env}
end FB

/-! name.extend(e), e a tuple, name an own list. -/
namespace FB
open PySem PySem.Spec L2
open PyProof.Rows hiding St
section
variable {X : Cx}
end
section
variable {ρ : Env}
end
end FB

/-! for k in name.f: own[k] = name.f[k].m(): a dict of own things is walked (locked meanwhile), and what each tells is stored. -/
namespace FB
open PySem PySem.Spec L2
open PyProof.Rows hiding St
section
variable {X : Cx}
end
end FB

/-! repr of a truth. -/
namespace FB
open PySem PySem.Spec L2
open PyProof.Rows hiding St
section
variable {X : Cx} {K : PySem.W.Frag} {mg : Str → Option Value}
end
end FB

/-! str(n), n a whole number. -/
namespace FB
open PySem PySem.Spec L2
open PyProof.Rows hiding St
section
variable {K : PySem.W.Frag} {mg : Str → Option Value}
end
end FB

/-! f-strings of texts and whole numbers. -/
namespace FB
open PySem PySem.Spec L2
open PyProof.Rows hiding St
section
variable {X : Cx} {K : PySem.W.Frag} {mg : Str → Option Value}
end
section
variable {ρ : Env}
end
end FB

/-! A dict display of two texts that are reckoned. -/
namespace FB
open PySem PySem.Spec L2
open PyProof.Rows hiding St
section
variable {X : Cx} {K : PySem.W.Frag} {mg : Str → Option Value}
end
section
variable {ρ : Env}
end
end FB

/-! A name for a list at a place under a text key and a key, looked at and changed:
rows = name["k"][e]; if TEST: rows[I] = E else: rows.append(E') -- all readings. -/
namespace FB
open PySem PySem.Spec L2
open PyProof.Rows hiding St
section
variable {X : Cx} {K : PySem.W.Frag} {mg : Str → Option Value}
end
end FB

/-! Defs that are called where no text is being made (repr in a called def); text.split(sep). -/
namespace FB
open PySem PySem.Spec L2
open PyProof.Rows hiding St
section
variable {P : Program} {w : World} {K : PySem.W.Frag} {mg : Str → Option Value} {base : Heap}
end
section
variable {X : Cx} {K : PySem.W.Frag} {mg : Str → Option Value}
end
end FB

/-! int(text). -/
namespace FB
open PySem PySem.Spec L2
open PyProof.Rows hiding St
section
variable {K : PySem.W.Frag} {mg : Str → Option Value}
end
end FB

/-! min(a list of whole numbers, default=None). -/
namespace PySem
section
variable {prog : Program} {w : World} {A : Around} {R : Result → Shared → Prop} {I : Addr} {fp wr : List Addr} {n : Nat} {P : Nat → Value → Prop} {St : Nat → Heap → Prop}
end
section
variable {prog : Program} {w : World} {A : Around} {E : Value → Shared → Prop} {s : Shared} {l : Addr} {xs : Array (Int × Tok)}
end
end PySem
namespace FB
open PySem PySem.Spec L2
open PyProof.Rows hiding St
section
variable {X : Cx} {K : PySem.W.Frag} {mg : Str → Option Value}
end
end FB

/-! name[k].append(e): a list that stands in an own list. -/
namespace FB
open PySem PySem.Spec L2
open PyProof.Rows hiding St
section
variable {X : Cx} {K : PySem.W.Frag} {mg : Str → Option Value}
end
section
variable {ρ : Env}
end
end FB

/-! [.. for t in name[k]]: a list that stands in an own list, lent to a comprehension. -/
namespace FB
open PySem PySem.Spec L2
open PyProof.Rows hiding St
section
variable {X : Cx} {K : PySem.W.Frag} {mg : Str → Option Value}
end
end FB

/-! sorted(a list of tuples that are alike). -/
namespace FB
open PySem PySem.Spec L2
open PyProof.Rows hiding St
section
variable {X : Cx} {K : PySem.W.Frag} {mg : Str → Option Value}
end
end FB

/-! max(a list of whole numbers, default=a number). -/
namespace PySem
section
variable {prog : Program} {w : World} {A : Around} {R : Result → Shared → Prop} {I : Addr} {fp wr : List Addr} {n : Nat} {P : Nat → Value → Prop} {St : Nat → Heap → Prop}
end
section
variable {prog : Program} {w : World} {A : Around} {E : Value → Shared → Prop} {s : Shared} {l : Addr} {xs : Array (Int × Tok)}
end
end PySem
namespace FB
open PySem PySem.Spec L2
open PyProof.Rows hiding St
section
variable {X : Cx} {K : PySem.W.Frag} {mg : Str → Option Value}
end
end FB

/-! a list of texts .index(text). -/
namespace FB
open PySem PySem.Spec L2
open PyProof.Rows hiding St
section
variable {X : Cx} {K : PySem.W.Frag} {mg : Str → Option Value}
end
end FB

/-! name[k].clear() of an own list in an own list; C(e, name[k]): an own list in an own list handed to an `__init__` that gives it back. -/
namespace FB
open PySem PySem.Spec L2
open PyProof.Rows hiding St
section
variable {X : Cx} {K : PySem.W.Frag} {mg : Str → Option Value}
end
section
variable {ρ : Env}
end
end FB

/-! name[e].append(v), name["k"][e].append(v) of own dicts of own lists; name.update(d), d just made, keys apart. -/
namespace FB
open PySem PySem.Spec L2
open PyProof.Rows hiding St
section
variable {X : Cx} {K : PySem.W.Frag} {mg : Str → Option Value}
/-! d.update(e), keys apart -/
theorem KV.app {kvs more : List (Key × V)} {vs rs : List (Key × Value)} (r : KV kvs vs) (q : KV more rs) : KV (kvs ++ more) (vs ++ rs) := by
  induction r with
  | nil => exact q
  | cons h _ ih => exact .cons h ih
end
section
variable {ρ : Env}
end
end FB

/-! a comparison of what is made with what is only read (an own thing stays own). -/
namespace FB
open PySem PySem.Spec L2
open PyProof.Rows hiding St
section
variable {X : Cx} {K : PySem.W.Frag} {mg : Str → Option Value}
end
section
variable {ρ : Env}
end
end FB

/-! dict([(k, own) for ..]): a dict made of pairs in which own things lie. -/
namespace FB
open PySem PySem.Spec L2
open PyProof.Rows hiding St
section
variable {X : Cx} {K : PySem.W.Frag} {mg : Str → Option Value}
abbrev Blk := Addr × List V × List O
def blk (zs : List Blk) : List Item := zs.flatMap fun z => .raw z.1 (.tup z.2.1) :: zipI z.2.1 z.2.2
end
section
variable {ρ : Env}
end
end FB

/-! repr of a thing of tuples and dicts (no lists). -/
namespace FB
open PySem PySem.Spec L2
open PyProof.Rows hiding St
def keyPd : Key → PyData
  | .inl i => .int i
  | .inr s => .str s
mutual
def D.pq : D → PyData
  | .non => .none
  | .bl b => .bool b
  | .int i => .int i
  | .str s => .str s
  | .tup ds => .tuple (D.pqs ds)
  | .lst ds => .list (D.pqs ds)
  | .dct ks ds => .dict ((ks.map keyPd).zip (D.pqs ds))
  | .ins _ _ _ => .none
  | .scr _ => .none
  | .fn _ => .none
def D.pqs : List D → List PyData
  | [] => []
  | d :: ds => d.pq :: D.pqs ds
end
theorem pqs_map : ∀ ds : List D, D.pqs ds = ds.map D.pq
  | [] => rfl
  | d :: ds => by show d.pq :: D.pqs ds = _; rw [pqs_map ds]; rfl
/-- tuples and dicts, at most so deep -/
def D.okN : Nat → D → Bool
  | _, .non => true
  | _, .bl _ => true
  | _, .int _ => true
  | _, .str _ => true
  | 0, .tup _ => false
  | 0, .dct _ _ => false
  | n + 1, .tup ds => ds.all (D.okN n)
  | n + 1, .dct ks ds => ks.all keyOk && (ds.all (D.okN n) && decide (ks.length = ds.length))
  | _, .lst _ => false
  | _, .ins _ _ _ => false
  | _, .scr _ => false
  | _, .fn _ => false
section
variable {X : Cx} {K : PySem.W.Frag} {mg : Str → Option Value}
theorem okc_key {k : Key} (h : keyOk k = true) : Okc (keyPd k).shown := by
  cases k with
  | inl i => exact Okc.lit (toString i)
  | inr s =>
    show Okc (PyData.str s).shown
    rw [PyData.shown_str]
    exact ((okc_iff s).mp h).repr
theorem okc_kv : ∀ {kvs : List (PyData × PyData)}, (∀ q ∈ kvs, Okc q.1.shown ∧ Okc q.2.shown) → ∀ t ∈ PyData.shownKv kvs, Okc t
  | [], _, t, ht => by simp [PyData.shownKv] at ht
  | (k, v) :: r, h, t, ht => by
    have e : PyData.shownKv ((k, v) :: r) = (k.shown ++ ": " ++ v.shown) :: PyData.shownKv r := by simp only [PyData.shownKv]
    rw [e] at ht
    rcases List.mem_cons.mp ht with rfl | ht
    · have := h (k, v) (List.mem_cons_self ..)
      exact (this.1.app (Okc.lit _)).app this.2
    · exact okc_kv (fun q hq => h q (List.mem_cons_of_mem _ hq)) t ht
theorem okc_dict {kvs : List (PyData × PyData)} (h : ∀ q ∈ kvs, Okc q.1.shown ∧ Okc q.2.shown) : Okc (PyData.dict kvs).shown := by
  have e : (PyData.dict kvs).shown = dictText (PyData.shownKv kvs) := by simp only [PyData.shown]
  rw [e]
  unfold dictText
  exact ((Okc.lit _).app ((Okc.lit _).join (okc_kv h))).app (Okc.lit _)
theorem okc_tup {ds : List PyData} (h : ∀ t ∈ PyData.shownAll ds, Okc t) : Okc (PyData.tuple ds).shown := by
  rw [PyData.shown_tuple]
  exact ((Okc.lit _).app ((Okc.lit _).join h)).app (Okc.lit _)
theorem shownAll_map : ∀ ds : List PyData, PyData.shownAll ds = ds.map PyData.shown
  | [] => by simp [PyData.shownAll]
  | d :: ds => by rw [PyData.shownAll_cons, shownAll_map ds]; rfl
theorem depthKv_le {n : Nat} : ∀ {ks ps : List PyData}, (∀ k ∈ ks, k.depth = 0) → PyData.depthAll ps ≤ n → PyData.depthKv (ks.zip ps) ≤ n
  | [], ps, _, _ => by simp [PyData.depthKv]
  | k :: ks, [], _, _ => by simp [PyData.depthKv]
  | k :: ks, p :: ps, h, hp => by
    have hk := h k (List.mem_cons_self ..)
    have hp : max p.depth (PyData.depthAll ps) ≤ n := by simpa only [PyData.depthAll] using hp
    have ih := depthKv_le (ks := ks) (ps := ps) (n := n) (fun z hz => h z (List.mem_cons_of_mem _ hz)) (by omega)
    show PyData.depthKv ((k, p) :: ks.zip ps) ≤ n
    simp only [PyData.depthKv, hk]
    omega
theorem keys_read {P : Program} {w : World} {h : Heap} : ∀ {es : List DictEntry} {vs : List (Key × Value)}, Pairs (mixKind P w) es vs → ReadsAll h (es.map (·.key)) (vs.map fun q => keyPd q.1) []
  | _, _, .nil => .nil
  | e :: es, q :: vs, .cons hk _ t => by
    have ih := keys_read (h := h) t
    have r : Reads h e.key (keyPd q.1) [] := by
      rcases keyIs_shape hk with ⟨i, tk, e1, e2⟩ | ⟨x, tk, e1, e2⟩
      · rw [e1, e2]; exact Reads.int i tk
      · rw [e1, e2]; exact Reads.str x tk
    exact ReadsAll.cons r ih
theorem vals_read {P : Program} {w : World} : ∀ {es : List DictEntry} {vs : List (Key × Value)}, Pairs (mixKind P w) es vs → es.map (·.val) = vs.map (·.2)
  | _, _, .nil => rfl
  | _, _, .cons _ hv t => by
    rw [List.map_cons, List.map_cons, vals_read t, hv]
theorem readsAll_len {h : Heap} : ∀ {us : List Value} {ds : List PyData} {as : List Addr}, ReadsAll h us ds as → us.length = ds.length
  | _, _, _, .nil => rfl
  | _, _, _, .cons _ t => by rw [List.length_cons, List.length_cons, readsAll_len t]
theorem kv_vals : ∀ {kvs : List (Key × V)} {vs : List (Key × Value)}, KV kvs vs → Vals (kvs.map (·.2)) (vs.map (·.2)) ∧ vs.map (·.1) = kvs.map (·.1)
  | _, _, .nil => ⟨.nil, rfl⟩
  | _, _, .cons q t => by
    obtain ⟨i1, i2⟩ := kv_vals t
    exact ⟨.cons q.2 i1, by rw [List.map_cons, List.map_cons, i2, q.1]⟩
theorem readsN {pins : List (Addr × Obj)} {σ : L2.St} {H : Hp} {s : Shared} (I : Inv X pins σ H s) : ∀ (n : Nat) {v : V} {d : D} {u : Value}, Vw X.K X.mg H v d → D.okN n d = true → RelV v u → ∃ as, RdN s.heap u d.pq n as := by
  intro n
  induction n with
  | zero =>
    intro v d u h e r
    cases h with
    | non => cases r; exact ⟨_, Reads.none, by simp, Nat.zero_le _, Okc.lit "None"⟩
    | bl b => cases r; exact ⟨_, Reads.bool b, by simp, Nat.zero_le _, by cases b <;> exact Okc.lit _⟩
    | int i => obtain ⟨t, rfl⟩ := r; exact ⟨_, Reads.int i t, by simp, Nat.zero_le _, Okc.lit (toString i)⟩
    | str x hx => obtain ⟨t, rfl⟩ := r; exact ⟨_, Reads.str x t, by simp, Nat.zero_le _, okc_key (k := .inr x) hx⟩
    | _ => cases e
  | succ n ih =>
    have all : ∀ {vs : List V} {ds : List D} {us : List Value}, Vws X.K X.mg H vs ds → (∀ d ∈ ds, D.okN n d = true) → Vals vs us → ∃ as, RdNs s.heap us (D.pqs ds) n as := by
      intro vs
      induction vs with
      | nil =>
        intro ds us h _ r
        cases h
        cases r
        exact ⟨_, ReadsAll.nil, by simp, Nat.zero_le _, by simp [D.pqs]⟩
      | cons v vs ihv =>
        intro ds us h e r
        cases h with
        | cons h1 h2 =>
          cases r with
          | cons r1 r2 =>
            obtain ⟨as, a⟩ := ih h1 (e _ (List.mem_cons_self ..)) r1
            obtain ⟨bs, b⟩ := ihv h2 (fun z hz => e z (List.mem_cons_of_mem _ hz)) r2
            refine ⟨as ++ bs, .cons a.rd b.rd, fun z => (List.mem_append.mp z).elim a.sm b.sm, ?_, ?_⟩
            · have h1 := a.dp
              have h2 := b.dp
              show PyData.depthAll (_ :: _) ≤ n
              simp only [PyData.depthAll]
              omega
            · intro d hd
              rcases List.mem_cons.mp hd with rfl | hd
              · exact a.ok
              · exact b.ok d hd
    intro v d u h e r
    cases h with
    | non => cases r; exact ⟨_, Reads.none, by simp, Nat.zero_le _, Okc.lit "None"⟩
    | bl b => cases r; exact ⟨_, Reads.bool b, by simp, Nat.zero_le _, by cases b <;> exact Okc.lit _⟩
    | int i => obtain ⟨t, rfl⟩ := r; exact ⟨_, Reads.int i t, by simp, Nat.zero_le _, Okc.lit (toString i)⟩
    | str x hx => obtain ⟨t, rfl⟩ := r; exact ⟨_, Reads.str x t, by simp, Nat.zero_le _, okc_key (k := .inr x) hx⟩
    | @tup a xs ds hs ha =>
      cases r
      have e : ds.all (D.okN n) = true := e
      obtain ⟨its, rv, ⟨o, ho, hc, m, hd⟩, _⟩ := I.tuple hs
      obtain ⟨as, b⟩ := all ha (fun z hz => (List.all_eq_true.mp e) z hz) rv
      refine ⟨as, Reads.tuple ho hc hd b.rd, b.sm, ?_, ?_⟩
      · have := b.dp
        show PyData.depth (.tuple (D.pqs ds)) ≤ n + 1
        simp only [PyData.depth]
        omega
      · refine okc_tup fun t ht => ?_
        rw [shownAll_map] at ht
        obtain ⟨q, hq, rfl⟩ := List.mem_map.mp ht
        exact b.ok q hq
    | @dct a kvs ks ds hr hk ha =>
      cases r
      have e : (ks.all keyOk && (ds.all (D.okN n) && decide (ks.length = ds.length))) = true := e
      rw [Bool.and_eq_true, Bool.and_eq_true] at e
      obtain ⟨e1, e2, _⟩ := e
      obtain ⟨_, hm, vs, rel, o, es, ep, ho, hx, hd, _, hp, _⟩ := dk_rd I.hok hr
      have vv : Vals (kvs.map (·.2)) (vs.map (·.2)) ∧ vs.map (·.1) = ks := by
        rw [← hk.1]; exact kv_vals rel
      obtain ⟨bs, b⟩ := all ha (fun z hz => (List.all_eq_true.mp e2) z hz) vv.1
      have kr := keys_read (h := s.heap) hp
      have kl : (vs.map fun q => keyPd q.1) = ks.map keyPd := by rw [← vv.2, List.map_map]; rfl
      rw [kl] at kr
      have vr := vals_read hp
      have ln : (ks.map keyPd).length = (D.pqs ds).length := by
        have l1 := readsAll_len kr
        have l2 := readsAll_len b.rd
        have l3 := congrArg List.length vr
        simp at l1 l2 l3 ⊢
        omega
      have f1 : ((ks.map keyPd).zip (D.pqs ds)).map (·.1) = ks.map keyPd := List.map_fst_zip (by omega)
      have f2 : ((ks.map keyPd).zip (D.pqs ds)).map (·.2) = D.pqs ds := List.map_snd_zip (by omega)
      have ne : sysModules ≠ a := fun z => by rw [← z] at hm; simp at hm
      refine ⟨a :: [] ++ bs, Reads.dict ho hx.1 hd (by rw [f1]; exact kr) (by rw [f2, vr]; exact b.rd), ?_, ?_, ?_⟩
      · intro z
        rcases List.mem_cons.mp z with z | z
        · exact ne z
        · exact b.sm z
      · have dz : ∀ k ∈ ks.map keyPd, k.depth = 0 := fun k hk => by
          obtain ⟨q, _, rfl⟩ := List.mem_map.mp hk
          cases q <;> simp only [keyPd, PyData.depth]
        have := depthKv_le dz b.dp
        show PyData.depth (.dict ((ks.map keyPd).zip (D.pqs ds))) ≤ n + 1
        simp only [PyData.depth]
        omega
      · refine okc_dict fun q hq => ?_
        have := List.of_mem_zip hq
        refine ⟨?_, b.ok _ this.2⟩
        obtain ⟨z, hz, ez⟩ := List.mem_map.mp this.1
        rw [← ez]
        exact okc_key ((List.all_eq_true.mp e1) z hz)
    | _ => cases e
def repQ (d : D) : Bool := match d with
  | .tup ds => (D.tup ds).okN 9 && ((D.tup ds).pq.showable && decide ((D.tup ds).pq.shown.length ≤ sizeLine))
  | _ => false
def reprQ (a : O) : Option O := if repQ a.toD = true then some (.val (.str a.toD.pq.shown)) else none
def rReprQ (K : PySem.W.Frag) (mg : Str → Option Value) (vs : List V) (H : Hp) (Q : VK) : Prop := ∃ (v : V) (ds : List D), vs = [v] ∧ Vw K mg H v (.tup ds) ∧ repQ (.tup ds) = true ∧ (Okc (D.tup ds).pq.shown → Q (.str (D.tup ds).pq.shown) H)
theorem cr_reprQ (ok : CxOk X) (hg : X.A.guards = some []) : CallR X (.builtin "repr") (rReprQ X.K X.mg) := by
  intro pins s σ H vs us Q I r h
  obtain ⟨v, ds, rfl, hv, hq, q⟩ := h
  obtain ⟨u, rfl, rv⟩ : ∃ u, us = [u] ∧ RelV v u := by
    cases r with
    | cons a b => cases b; exact ⟨_, rfl, a⟩
  have hq : ((D.tup ds).okN 9 && ((D.tup ds).pq.showable && decide ((D.tup ds).pq.shown.length ≤ sizeLine))) = true := hq
  rw [Bool.and_eq_true, Bool.and_eq_true, decide_eq_true_eq] at hq
  obtain ⟨as, b⟩ := readsN I 9 hv hq.1 rv
  have un := ok.units
  obtain ⟨a, rfl⟩ : ∃ a, u = .ref a := by
    cases hv
    cases rv
    exact ⟨_, rfl⟩
  have dp := b.dp
  refine repr_of_reads' b.rd hq.2.1 (fun _ => b.sm) hg (by omega) (fun _ _ e => e) (fun h' u tk hk => ?_) hq.2.2
  exact ⟨.str _, H, Inv.kept (t' := tk) I hk, ⟨_, rfl⟩, q b.ok⟩
theorem unv_reprQ : UnV K mg (fun x H Q => rReprQ K mg [x] H Q) reprQ := by
  intro H L B x ox o Q R hx e k
  unfold reprQ at e
  split at e
  · rename_i h
    cases e
    have vw := R.view hx
    generalize ox.toD = d at *
    cases d with
    | tup ds => exact ⟨x, ds, rfl, vw, h, fun okc => k _ _ (Same.refl _) (R.scalB fun G => .str _ ((okc_iff _).mpr okc))⟩
    | _ => cases h
  · cases e
theorem e_reprQ {a : O} {d : D} (ha : a.toD = d) (h : repQ d = true) : reprQ a = some (.val (.str d.pq.shown)) := by
  subst ha
  unfold reprQ
  rw [if_pos h]
end
end FB

namespace Wk
open PySem PySem.Spec L2 FB
open PyProof.Rows hiding St
structure Fr (K : PySem.W.Frag) (mg : Str → Option Value) : Prop where
  n_ : True
  n_any : mg "any" = none
  n_dict : mg "dict" = none
  n_enumerate : mg "enumerate" = none
  n_int : mg "int" = none
  n_len : mg "len" = none
  n_list : mg "list" = none
  n_max : mg "max" = none
  n_min : mg "min" = none
  n_range : mg "range" = none
  n_repr : mg "repr" = none
  n_tuple : mg "tuple" = none
abbrev fs_Way : List Str := ["guards", "idle", "found"]
theorem fi_Way_guards : fidx fs_Way "guards" = some 0 := by decide +kernel
theorem fi_Way_idle : fidx fs_Way "idle" = some 1 := by decide +kernel
theorem fi_Way_found : fidx fs_Way "found" = some 2 := by decide +kernel
theorem fm_Way___init__ : fidx fs_Way "__init__" = none := by decide +kernel
theorem fm_Way_turns : fidx fs_Way "turns" = none := by decide +kernel
theorem fm_Way_is_held : fidx fs_Way "is_held" = none := by decide +kernel
theorem fm_Way_opening : fidx fs_Way "opening" = none := by decide +kernel
noncomputable def q1_guards_of : M O := mComp (mI (mP (p2 ixO (pVar 0) (pC (.int 0))))) (own2 [("guard", 1)]) (aN 1) (mTrue) (mP (p2 ixO (pVar 1) (pC (.int 0))))
noncomputable def b_guards_of : M Fl := mRet (q1_guards_of)
abbrev E_guards_of (v_board v_guard : Option O := none) : FB.Env := [v_board, v_guard]
noncomputable def F_guards_of : FSem := runF 1 2 [] b_guards_of
theorem sc_guards_of : FnScope ["board", "guard"] ["board"] (C8.fnScope s_guards_of) := C8.fnScope_by (by decide +kernel)
noncomputable def q1_chain : M O := mComp (mI (mP (pVar 0))) (own2 [("guard", 4)]) (aN 4) (mTrue) (mP (pTup (pCons (p2 ixO (pVar 4) (pC (.int 0))) (pCons (p2 ixO (pVar 4) (pC (.int 1))) (pNil)))))
noncomputable def t1_chain : M Bool := mB (mP (p2 (notNO) (pVar 1) (pC .non)))
noncomputable def b1_chain : M Fl := mSeq (mEx (mAppend 3 (mP (pVar 1)))) (mSetP 1 (mP (p2 ixF (pVar 2) (pVar 1))))
noncomputable def b_chain : M Fl := mSeq (mSetP 2 (mDictP (q1_chain))) (mSeq (mSetO 3 (mLst (mNil))) (mSeq (mWhile (fun _ => fuel) t1_chain b1_chain) (mRet (mMove 3))))
abbrev E_chain (v_guards v_name v_unders v_found v_guard : Option O := none) : FB.Env := [v_guards, v_name, v_unders, v_found, v_guard]
noncomputable def F_chain : FSem := runF 2 5 [] b_chain
theorem sc_chain : FnScope ["guards", "name", "unders", "found", "guard"] ["guards", "name"] (C8.fnScope s_chain) := C8.fnScope_by (by decide +kernel)
noncomputable def b1_over : M Fl := mIf (mB (mP (p2 (eqO) (pVar 2) (pVar 1)))) (mRet (mCall F_chain [.v (mP (p2 ixO (pVar 0) (pC (.int 0)))), .v (mP (pVar 3))])) (mSkip)
noncomputable def b_over : M Fl := mSeq (mIf (mB (m2 (inO) (mP (pVar 1)) (mCall F_guards_of [.v (mP (pVar 0))]))) (mRet (mCall F_chain [.v (mP (p2 ixO (pVar 0) (pC (.int 0)))), .v (mP (pVar 1))])) (mSkip)) (mSeq (mFor (mI (mP (p2 ixO (pVar 0) (pC (.int 1))))) (aTup (aCons (aN 2) (aCons (aN 3) (aCons (aN 4) (aCons (aN 5) (aCons (aN 6) (aNil))))))) b1_over) (mNever))
abbrev E_over (v_board v_place v_name v_at v_course v_last v_on : Option O := none) : FB.Env := [v_board, v_place, v_name, v_at, v_course, v_last, v_on]
noncomputable def F_over : FSem := runF 2 7 [] b_over
theorem sc_over : FnScope ["board", "place", "name", "at", "course", "last", "on"] ["board", "place"] (C8.fnScope s_over) := C8.fnScope_by (by decide +kernel)
noncomputable def b1_draws : M Fl := mSetIt 3 (mP (pVar 4)) (mP (pC (.int 0)))
noncomputable def q1_draws : M O := mComp (mI (mP (pVar 6))) (own2 [("guard", 4)]) (aN 4) (mTrue) (mP (p2 (inO) (pVar 4) (pVar 1)))
noncomputable def b2_draws : M Fl := mAugI 3 (fun i j => i + j) (pVar 4) (p2 ixF (pVar 2) (pVar 5))
noncomputable def b3_draws : M Fl := mSeq (mSetP 6 (mCall F_over [.v (mP (pVar 0)), .v (mP (pVar 5))])) (mIf (mNot (mB (m1 anyO (q1_draws)))) (mFor (mI (mP (pVar 6))) (aN 4) b2_draws) (mSkip))
noncomputable def b_draws : M Fl := mSeq (mSetO 3 (mDict0)) (mSeq (mFor (mI (mCall F_guards_of [.v (mP (pVar 0))])) (aN 4) b1_draws) (mSeq (mForK 2 (aN 5) b3_draws) (mRet (mMove 3))))
abbrev E_draws (v_board v_opened v_pulls v_found v_guard v_place v_above : Option O := none) : FB.Env := [v_board, v_opened, v_pulls, v_found, v_guard, v_place, v_above]
noncomputable def F_draws : FSem := runF 3 7 [] b_draws
theorem sc_draws : FnScope ["board", "opened", "pulls", "found", "guard", "place", "above"] ["board", "opened", "pulls"] (C8.fnScope s_draws) := C8.fnScope_by (by decide +kernel)
noncomputable def b1_rest : M Fl := mIf (mB (mP (pVar 6))) (mSetIt 1 (mP (pVar 2)) (mP (pVar 5))) (mSkip)
noncomputable def b_rest : M Fl := mSeq (mSetO 1 (mDict0)) (mSeq (mFor (mI (mP (p2 ixO (pVar 0) (pC (.int 1))))) (aTup (aCons (aN 2) (aCons (aN 3) (aCons (aN 4) (aCons (aN 5) (aCons (aN 6) (aNil))))))) b1_rest) (mRet (mCall F_draws [.v (mP (pVar 0)), .v (mFz (mLst (mNil))), .v (mFz (mFrz 1))])))
abbrev E_rest (v_board v_pulls v_name v_at v_course v_last v_on : Option O := none) : FB.Env := [v_board, v_pulls, v_name, v_at, v_course, v_last, v_on]
noncomputable def F_rest : FSem := runF 1 7 [] b_rest
theorem sc_rest : FnScope ["board", "pulls", "name", "at", "course", "last", "on"] ["board"] (C8.fnScope s_rest) := C8.fnScope_by (by decide +kernel)
noncomputable def b_least_of : M Fl := mRet (mP (p2 ixO (p2 ixO (pVar 0) (pC (.int 0))) (pC (.int 0))))
abbrev E_least_of (v_curve : Option O := none) : FB.Env := [v_curve]
noncomputable def F_least_of : FSem := runF 1 1 [] b_least_of
theorem sc_least_of : FnScope ["curve"] ["curve"] (C8.fnScope s_least_of) := C8.fnScope_by (by decide +kernel)
noncomputable def q1_awake : M O := mComp (mI (mP (p2 ixO (pVar 0) (pC (.int 0))))) (own2 [("name", 2), ("under", 3), ("curve", 4), ("delay", 5), ("wait", 6)]) (aTup (aCons (aN 2) (aCons (aN 3) (aCons (aN 4) (aCons (aN 5) (aCons (aN 6) (aNil))))))) (mB (m2 (lift2 geD) (mP (p2 ixF (pVar 1) (pVar 2))) (mCall F_least_of [.v (mP (pVar 4))]))) (mP (pVar 2))
noncomputable def b_awake : M Fl := mRet (q1_awake)
abbrev E_awake (v_board v_found v_name v_under v_curve v_delay v_wait : Option O := none) : FB.Env := [v_board, v_found, v_name, v_under, v_curve, v_delay, v_wait]
noncomputable def F_awake : FSem := runF 2 7 [] b_awake
theorem sc_awake : FnScope ["board", "found", "name", "under", "curve", "delay", "wait"] ["board", "found"] (C8.fnScope s_awake) := C8.fnScope_by (by decide +kernel)
noncomputable def b1_loud : M Fl := mRet (mP (pVar 1))
noncomputable def b_loud : M Fl := mSeq (mFor (mI (mCall F_awake [.v (mP (pVar 0)), .v (mFz (mCall F_rest [.v (mP (pVar 0))]))])) (aN 1) b1_loud) (mRet (mP (pC .non)))
abbrev E_loud (v_board v_guard : Option O := none) : FB.Env := [v_board, v_guard]
noncomputable def F_loud : FSem := runF 1 2 [] b_loud
theorem sc_loud : FnScope ["board", "guard"] ["board"] (C8.fnScope s_loud) := C8.fnScope_by (by decide +kernel)
noncomputable def b_ask_quiet : M Fl := mSeq (mSetP 1 (mCall F_loud [.v (mP (pVar 0))])) (mIf (mB (mP (p2 (notNO) (pVar 1) (pC .non)))) (mNever) (mSkip))
abbrev E_ask_quiet (v_board v_guard : Option O := none) : FB.Env := [v_board, v_guard]
noncomputable def F_ask_quiet : FSem := runF 1 2 [] b_ask_quiet
theorem sc_ask_quiet : FnScope ["board", "guard"] ["board"] (C8.fnScope s_ask_quiet) := C8.fnScope_by (by decide +kernel)
noncomputable def q1_is_off : M O := mComp (mI (mP (p2 ixO (pVar 0) (pC (.int 1))))) (own2 [("load", 2)]) (aN 2) (mTrue) (mAndV (mP (p2 (eqO) (p2 ixO (pVar 2) (pC (.int 0))) (pVar 1))) (mNotV (mP (p2 ixO (pVar 2) (pC (.int 4))))))
noncomputable def b_is_off : M Fl := mRet (m1 anyO (q1_is_off))
abbrev E_is_off (v_board v_place v_load : Option O := none) : FB.Env := [v_board, v_place, v_load]
noncomputable def F_is_off : FSem := runF 2 3 [] b_is_off
theorem sc_is_off : FnScope ["board", "place", "load"] ["board", "place"] (C8.fnScope s_is_off) := C8.fnScope_by (by decide +kernel)
noncomputable def q1_Way___init__ : M O := mComp (mI (mP (p2 ixO (pVar 1) (pC (.int 0))))) (own2 [("guard", 7)]) (aN 7) (mTrue) (mP (pTup (pCons (p2 ixO (pVar 7) (pC (.int 0))) (pCons (pVar 7) (pNil)))))
noncomputable def q2_Way___init__ : M O := mComp (mI (mP (pVar 3))) (own2 [("name", 6)]) (aN 6) (mTrue) (mP (p2 ixF (pVar 4) (pVar 6)))
noncomputable def q3_Way___init__ : M O := mComp (mI (mP (pVar 3))) (own2 [("name", 6)]) (aN 6) (mTrue) (mP (p2 ixF (pVar 5) (pVar 6)))
noncomputable def b_Way___init__ : M Fl := mSeq (mSetP 3 (mCall F_over [.v (mP (pVar 1)), .v (mP (pVar 2))])) (mSeq (mEx (mCall F_ask_quiet [.v (mP (pVar 1))])) (mSeq (mSetP 4 (mDictP (q1_Way___init__))) (mSeq (mSetP 5 (mCall F_rest [.v (mP (pVar 1))])) (mSeq (mSetF 0 "Way" "idle" (mCall F_is_off [.v (mP (pVar 1)), .v (mP (pVar 2))])) (mSeq (mSetF 0 "Way" "guards" (q2_Way___init__)) (mSetF 0 "Way" "found" (q3_Way___init__)))))))
abbrev E_Way___init__ (v_self v_board v_place v_names v_known v_found v_name v_guard : Option O := none) : FB.Env := [v_self, v_board, v_place, v_names, v_known, v_found, v_name, v_guard]
noncomputable def F_Way___init__ : FSem := runF 3 8 [0] b_Way___init__
theorem sc_Way___init__ : FnScope ["self", "board", "place", "names", "known", "found", "name", "guard"] ["self", "board", "place"] (C8.fnScope s_Way___init__) := C8.fnScope_by (by decide +kernel)
noncomputable def q1_met : M O := mComp (mI (mP (pVar 0))) (own2 [("step", 2)]) (aN 2) (mB (mP (p2 (lift2 leD) (p2 ixO (pVar 2) (pC (.int 0))) (pVar 1)))) (mP (pVar 2))
noncomputable def b_met : M Fl := mRet (m1 lenO (q1_met))
abbrev E_met (v_curve v_draw v_step : Option O := none) : FB.Env := [v_curve, v_draw, v_step]
noncomputable def F_met : FSem := runF 2 3 [] b_met
theorem sc_met : FnScope ["curve", "draw", "step"] ["curve", "draw"] (C8.fnScope s_met) := C8.fnScope_by (by decide +kernel)
noncomputable def b_turns_at : M Fl := mSeq (mSetP 2 (mCall F_met [.v (mP (pVar 0)), .v (mP (pVar 1))])) (mSeq (mIf (mB (mP (p2 (eqO) (pVar 2) (pC (.int 0))))) (mRet (mP (pC .non))) (mSkip)) (mRet (mP (p2 ixO (p2 ixO (pVar 0) (p2 (lift2 subD) (pVar 2) (pC (.int 1)))) (pC (.int 1))))))
abbrev E_turns_at (v_curve v_draw v_many : Option O := none) : FB.Env := [v_curve, v_draw, v_many]
noncomputable def F_turns_at : FSem := runF 2 3 [] b_turns_at
theorem sc_turns_at : FnScope ["curve", "draw", "many"] ["curve", "draw"] (C8.fnScope s_turns_at) := C8.fnScope_by (by decide +kernel)
noncomputable def b_Way_turns : M Fl := mRet (mCall F_turns_at [.v (mP (p2 ixO (p2 ixO (p1 (fldV "Way" "guards") (pVar 0)) (pVar 1)) (pC (.int 2)))), .v (mP (p2 (lift2 addD) (p2 ixO (p1 (fldV "Way" "found") (pVar 0)) (pVar 1)) (pVar 2)))])
abbrev E_Way_turns (v_self v_at v_greatness : Option O := none) : FB.Env := [v_self, v_at, v_greatness]
noncomputable def F_Way_turns : FSem := runF 3 3 [] b_Way_turns
theorem sc_Way_turns : FnScope ["self", "at", "greatness"] ["self", "at", "greatness"] (C8.fnScope s_Way_turns) := C8.fnScope_by (by decide +kernel)
noncomputable def b_Way_is_held : M Fl := mRet (mAndV (mP (p2 (lift2 gtD) (pVar 1) (pC (.int 0)))) (m2 (notNO) (mMethV "Way" "turns" F_Way_turns (mP (pVar 0)) [.v (mP (p2 (lift2 subD) (pVar 1) (pC (.int 1)))), .v (mP (pVar 2))]) (mP (pC .non))))
abbrev E_Way_is_held (v_self v_at v_greatness : Option O := none) : FB.Env := [v_self, v_at, v_greatness]
noncomputable def F_Way_is_held : FSem := runF 3 3 [] b_Way_is_held
theorem sc_Way_is_held : FnScope ["self", "at", "greatness"] ["self", "at", "greatness"] (C8.fnScope s_Way_is_held) := C8.fnScope_by (by decide +kernel)
noncomputable def b1_Way_opening : M Fl := mSeq (mSetP 7 (mMethV "Way" "turns" F_Way_turns (mP (pVar 0)) [.v (mP (pVar 5)), .v (mP (pVar 1))])) (mSeq (mIf (mOr (mB (mP (p2 (isNO) (pVar 7) (pC .non)))) (mOr (mB (mP (p2 (inO) (p2 ixO (pVar 6) (pC (.int 0))) (pVar 2)))) (mOr (mB (mP (p2 (eqO) (pVar 1) (pC (.int 0))))) (mB (mP (p1 (fldV "Way" "idle") (pVar 0))))))) (mCont) (mSkip)) (mSeq (mSetP 8 (mP (p2 (lift2 subD) (p2 (lift2 addD) (pVar 7) (p2 ixO (pVar 6) (pC (.int 3)))) (pC (.int 1))))) (mSeq (mIf (mB (mMethV "Way" "is_held" F_Way_is_held (mP (pVar 0)) [.v (mP (pVar 5)), .v (mP (pVar 1))])) (mSetP 8 (mP (p2 (lift2 addD) (pVar 8) (p2 ixO (pVar 6) (pC (.int 4)))))) (mSkip)) (mSeq (mIf (mOr (mB (mP (p2 (isNO) (pVar 3) (pC .non)))) (mB (mP (p2 (lift2 ltD) (pVar 8) (pVar 3))))) (mSeq (mSetP 3 (mP (pVar 8))) (mSetP 4 (mLst (mNil)))) (mSkip)) (mIf (mB (mP (p2 (eqO) (pVar 8) (pVar 3)))) (mSetP 4 (mP (p2 (lift2 addD) (pLst (pCons (p2 ixO (pVar 6) (pC (.int 0))) (pNil))) (pVar 4)))) (mSkip))))))
noncomputable def b_Way_opening : M Fl := mSeq (mSetP 3 (mP (pC .non))) (mSeq (mSetP 4 (mLst (mNil))) (mSeq (mFor (mEnum (mP (p1 (fldV "Way" "guards") (pVar 0)))) (aTup (aCons (aN 5) (aCons (aN 6) (aNil)))) b1_Way_opening) (mSeq (mIf (mB (mP (p2 (isNO) (pVar 3) (pC .non)))) (mRet (mP (pC .non))) (mSkip)) (mRet (mP (pTup (pCons (pVar 3) (pCons (p1 tupO (pVar 4)) (pNil)))))))))
abbrev E_Way_opening (v_self v_greatness v_stuck v_best v_names v_at v_guard v_turns v_turn : Option O := none) : FB.Env := [v_self, v_greatness, v_stuck, v_best, v_names, v_at, v_guard, v_turns, v_turn]
noncomputable def F_Way_opening : FSem := runF 3 9 [] b_Way_opening
theorem sc_Way_opening : FnScope ["self", "greatness", "stuck", "best", "names", "at", "guard", "turns", "turn"] ["self", "greatness", "stuck"] (C8.fnScope s_Way_opening) := C8.fnScope_by (by decide +kernel)
noncomputable def b_stuck_list : M Fl := mSeq (mIf (mB (mP (p2 (isNO) (pVar 0) (pC .non)))) (mRet (mLst (mNil))) (mSkip)) (mRet (mW listW (pVar 0)))
abbrev E_stuck_list (v_stuck : Option O := none) : FB.Env := [v_stuck]
noncomputable def F_stuck_list : FSem := runF 1 1 [] b_stuck_list
theorem sc_stuck_list : FnScope ["stuck"] ["stuck"] (C8.fnScope s_stuck_list) := C8.fnScope_by (by decide +kernel)
noncomputable def b_opening_of : M Fl := mRet (mMethV "Way" "opening" F_Way_opening (mMake "Way" F_Way___init__ [.v (mP (pVar 0)), .v (mP (pVar 1))]) [.v (mP (pVar 2)), .v (mFz (mCall F_stuck_list [.v (mP (pVar 3))]))])
abbrev E_opening_of (v_board v_place v_greatness v_stuck : Option O := none) : FB.Env := [v_board, v_place, v_greatness, v_stuck]
noncomputable def F_opening_of : FSem := runF 4 4 [] b_opening_of
theorem sc_opening_of : FnScope ["board", "place", "greatness", "stuck"] ["board", "place", "greatness", "stuck"] (C8.fnScope s_opening_of) := C8.fnScope_by (by decide +kernel)
noncomputable def q1_with_delays : M O := mComp (mI (mP (p2 ixO (pVar 0) (pC (.int 0))))) (own2 [("name", 3), ("under", 4), ("curve", 5), ("delay", 6), ("wait", 7)]) (aTup (aCons (aN 3) (aCons (aN 4) (aCons (aN 5) (aCons (aN 6) (aCons (aN 7) (aNil))))))) (mTrue) (mP (pTup (pCons (pVar 3) (pCons (pVar 4) (pCons (pVar 5) (pCons (p2 ixF (pVar 1) (pVar 3)) (pCons (pVar 7) (pNil))))))))
noncomputable def b_with_delays : M Fl := mSeq (mSetP 2 (q1_with_delays)) (mRet (mP (pTup (pCons (p1 tupO (pVar 2)) (pCons (p2 ixO (pVar 0) (pC (.int 1))) (pNil))))))
abbrev E_with_delays (v_board v_delays v_guards v_name v_under v_curve v_delay v_wait : Option O := none) : FB.Env := [v_board, v_delays, v_guards, v_name, v_under, v_curve, v_delay, v_wait]
noncomputable def F_with_delays : FSem := runF 2 8 [1] b_with_delays
theorem sc_with_delays : FnScope ["board", "delays", "guards", "name", "under", "curve", "delay", "wait"] ["board", "delays"] (C8.fnScope s_with_delays) := C8.fnScope_by (by decide +kernel)
noncomputable def b__law_cell_at : M Fl := mSeq (mIf (mB (mP (p2 (lift2 ltD) (pVar 1) (p1 lenO (pVar 0))))) (mRet (mP (p2 ixO (pVar 0) (pVar 1)))) (mSkip)) (mRet (mP (pC (.int 0))))
abbrev E__law_cell_at (v_script v_k : Option O := none) : FB.Env := [v_script, v_k]
noncomputable def F__law_cell_at : FSem := runF 2 2 [] b__law_cell_at
theorem sc__law_cell_at : FnScope ["_law_script", "_law_k"] ["_law_script", "_law_k"] (C8.fnScope s__law_cell_at) := C8.fnScope_by (by decide +kernel)
noncomputable def b__law_feed : M Fl := mSeq (mSetP 2 (mCall F__law_cell_at [.v (mP (pVar 0)), .v (mP (pVar 1))])) (mRet (mLst (mCons (mP (pVar 2)) (mCons (mP (pVar 2)) (mCons (mP (p2 (lift2 mulD) (pC (.int 100)) (pVar 1))) (mNil))))))
abbrev E__law_feed (v_script v_k v_cell : Option O := none) : FB.Env := [v_script, v_k, v_cell]
noncomputable def F__law_feed : FSem := runF 2 3 [] b__law_feed
theorem sc__law_feed : FnScope ["_law_script", "_law_k", "_law_cell"] ["_law_script", "_law_k"] (C8.fnScope s__law_feed) := C8.fnScope_by (by decide +kernel)
noncomputable def b__law_take : M Fl := mSeq (mSetIt 0 (mP (pC (.int 2))) (mP (p2 (lift2 addD) (p2 ixO (pVar 0) (pC (.int 2))) (pC (.int 1))))) (mSeq (mIf (mAnd (mB (mP (p2 (lift2 geD) (p2 ixO (pVar 0) (pC (.int 0))) (p2 (lift2 powD) (pC (.int 10)) (pC (.int 18)))))) (mB (mP (p2 (lift2 gtD) (p2 ixO (pVar 0) (pC (.int 1))) (pC (.int 0)))))) (mSeq (mSetP 3 (mP (p2 (lift2 modD) (p2 ixO (pVar 0) (pC (.int 1))) (pVar 1)))) (mSeq (mSetIt 0 (mP (pC (.int 1))) (mP (p2 (lift2 fdivD) (p2 ixO (pVar 0) (pC (.int 1))) (pVar 1)))) (mRet (mP (pVar 3))))) (mSkip)) (mSeq (mSetP 2 (mP (p2 (lift2 addD) (p2 (lift2 mulD) (p2 (lift2 modD) (p2 ixO (pVar 0) (pC (.int 0))) (pC (.int 2147483629))) (pC (.int 48271))) (p2 (lift2 mulD) (pC (.int 7919)) (p2 ixO (pVar 0) (pC (.int 2))))))) (mSeq (mSetP 2 (mP (p2 (lift2 modD) (p2 (lift2 addD) (p2 (lift2 addD) (pVar 2) (p2 (lift2 mulD) (p2 (lift2 mulD) (p2 ixO (pVar 0) (pC (.int 2))) (p2 ixO (pVar 0) (pC (.int 2)))) (pC (.int 69621)))) (pC (.int 11))) (pC (.int 2147483647))))) (mRet (mP (p2 (lift2 modD) (p2 (lift2 fdivD) (p2 (lift2 modD) (p2 (lift2 mulD) (pVar 2) (p2 (lift2 addD) (p2 (lift2 modD) (pVar 2) (pC (.int 65521))) (pC (.int 3)))) (pC (.int 2147483629))) (pC (.int 5))) (pVar 1)))))))
abbrev E__law_take (v_feed_here v_many v_number v_digit : Option O := none) : FB.Env := [v_feed_here, v_many, v_number, v_digit]
noncomputable def F__law_take : FSem := runF 2 4 [0] b__law_take
theorem sc__law_take : FnScope ["_law_feed_here", "_law_many", "_law_number", "_law_digit"] ["_law_feed_here", "_law_many"] (C8.fnScope s__law_take) := C8.fnScope_by (by decide +kernel)
noncomputable def b1__law_overs : M Fl := mSetIt 1 (mP (p2 ixO (pVar 2) (pC (.int 0)))) (mP (p2 (lift2 addD) (pLst (pCons (p2 ixO (pVar 2) (pC (.int 0))) (pNil))) (p3 getO (pVar 1) (p2 ixO (pVar 2) (pC (.int 1))) (pLst (pNil)))))
noncomputable def b2__law_overs : M Fl := mSetIt 1 (mP (p2 ixO (pVar 3) (pC (.int 0)))) (mP (p2 ixF (pVar 1) (p2 ixO (pVar 3) (pC (.int 1)))))
noncomputable def b__law_overs : M Fl := mSeq (mSetO 1 (mDict0)) (mSeq (mFor (mI (mP (p2 ixO (pVar 0) (pC (.int 0))))) (aN 2) b1__law_overs) (mSeq (mFor (mI (mP (p2 ixO (pVar 0) (pC (.int 1))))) (aN 3) b2__law_overs) (mRet (mMove 1))))
abbrev E__law_overs (v_board v_overs_here v_guard v_load : Option O := none) : FB.Env := [v_board, v_overs_here, v_guard, v_load]
noncomputable def F__law_overs : FSem := runF 1 4 [] b__law_overs
theorem sc__law_overs : FnScope ["_law_board", "_law_overs_here", "_law_guard", "_law_load"] ["_law_board"] (C8.fnScope s__law_overs) := C8.fnScope_by (by decide +kernel)
noncomputable def q1__law_rest : M O := mComp (mI (mP (p2 ixO (pVar 0) (pC (.int 0))))) (own2 [("_law_guard", 5)]) (aN 5) (mTrue) (mP (pTup (pCons (p2 ixO (pVar 5) (pC (.int 0))) (pCons (pC (.int 0)) (pNil)))))
noncomputable def b1__law_rest : M Fl := mSetIt 2 (mP (pVar 4)) (mP (p2 (lift2 addD) (p2 ixF (pVar 2) (pVar 4)) (p2 (lift2 mulD) (p2 ixO (pVar 3) (pC (.int 3))) (p1 intO (p2 ixO (pVar 3) (pC (.int 4)))))))
noncomputable def b2__law_rest : M Fl := mFor (mI (mP (p2 ixF (pVar 1) (p2 ixO (pVar 3) (pC (.int 0)))))) (aN 4) b1__law_rest
noncomputable def b__law_rest : M Fl := mSeq (mSetP 1 (mCall F__law_overs [.v (mP (pVar 0))])) (mSeq (mSetO 2 (mDictPO (q1__law_rest))) (mSeq (mFor (mI (mP (p2 ixO (pVar 0) (pC (.int 1))))) (aN 3) b2__law_rest) (mRet (mMove 2))))
abbrev E__law_rest (v_board v_overs_here v_found v_load v_name v_guard : Option O := none) : FB.Env := [v_board, v_overs_here, v_found, v_load, v_name, v_guard]
noncomputable def F__law_rest : FSem := runF 1 6 [] b__law_rest
theorem sc__law_rest : FnScope ["_law_board", "_law_overs_here", "_law_found", "_law_load", "_law_name", "_law_guard"] ["_law_board"] (C8.fnScope s__law_rest) := C8.fnScope_by (by decide +kernel)
noncomputable def q1__law_path : M O := mComp (mI (mP (p2 ixO (pVar 0) (pC (.int 0))))) (own2 [("_law_guard", 6)]) (aN 6) (mTrue) (mP (pTup (pCons (p2 ixO (pVar 6) (pC (.int 0))) (pCons (pVar 6) (pNil)))))
noncomputable def b1__law_path : M Fl := mIf (mAnd (mB (mP (p2 (eqO) (p2 ixO (pVar 4) (pC (.int 0))) (pVar 1)))) (mNot (mB (mP (p2 ixO (pVar 4) (pC (.int 4))))))) (mRet (mLst (mNil))) (mSkip)
noncomputable def q2__law_path : M O := mComp (mI (m2 ixF (mCall F__law_overs [.v (mP (pVar 0))]) (mP (pVar 1)))) (own2 [("_law_name", 5)]) (aN 5) (mTrue) (mP (pTup (pCons (p2 ixF (pVar 2) (pVar 5)) (pCons (p2 ixF (pVar 3) (pVar 5)) (pNil)))))
noncomputable def b__law_path : M Fl := mSeq (mSetP 2 (mDictP (q1__law_path))) (mSeq (mSetP 3 (mCall F__law_rest [.v (mP (pVar 0))])) (mSeq (mFor (mI (mP (p2 ixO (pVar 0) (pC (.int 1))))) (aN 4) b1__law_path) (mRet (q2__law_path))))
abbrev E__law_path (v_board v_place v_known v_found v_load v_name v_guard : Option O := none) : FB.Env := [v_board, v_place, v_known, v_found, v_load, v_name, v_guard]
noncomputable def F__law_path : FSem := runF 2 7 [] b__law_path
theorem sc__law_path : FnScope ["_law_board", "_law_place", "_law_known", "_law_found", "_law_load", "_law_name", "_law_guard"] ["_law_board", "_law_place"] (C8.fnScope s__law_path) := C8.fnScope_by (by decide +kernel)
noncomputable def q1__law_opening : M O := mComp (mI (mP (p2 ixO (pVar 6) (pC (.int 2))))) (own2 [("_law_step", 9)]) (aN 9) (mB (mP (p2 (lift2 leD) (p2 ixO (pVar 9) (pC (.int 0))) (p2 (lift2 addD) (pVar 7) (pVar 1))))) (mP (p2 ixO (pVar 9) (pC (.int 1))))
noncomputable def b1__law_opening : M Fl := mSeq (mSetP 8 (q1__law_opening)) (mSeq (mIf (mAnd (mB (mP (p2 (lift2 gtD) (p1 lenO (pVar 8)) (pC (.int 0))))) (mAnd (mB (mP (p2 (lift2 gtD) (pVar 1) (pC (.int 0))))) (mB (mP (p2 (ninO) (p2 ixO (pVar 6) (pC (.int 0))) (pVar 2)))))) (mSetIt 3 (mP (p2 ixO (pVar 6) (pC (.int 0)))) (mP (p2 (lift2 subD) (p2 (lift2 addD) (p2 (lift2 addD) (p2 ixO (pVar 8) (p1 negO (pC (.int 1)))) (p2 ixO (pVar 6) (pC (.int 3)))) (p2 (lift2 mulD) (p2 ixO (pVar 6) (pC (.int 4))) (p1 intO (pVar 4)))) (pC (.int 1))))) (mSkip)) (mSetP 4 (mP (p2 (lift2 gtD) (p1 lenO (pVar 8)) (pC (.int 0))))))
noncomputable def q2__law_opening : M O := mCompK 3 (own2 [("_law_name", 10)]) (aN 10) (mTrue) (mP (p2 ixF (pVar 3) (pVar 10)))
noncomputable def q3__law_opening : M O := mComp (mI (mP (p1 revA (p1 listKO (pVar 3))))) (own2 [("_law_name", 10)]) (aN 10) (mB (mP (p2 (eqO) (p2 ixF (pVar 3) (pVar 10)) (pVar 5)))) (mP (pVar 10))
noncomputable def b__law_opening : M Fl := mSeq (mSetO 3 (mDict0)) (mSeq (mSetP 4 (mP (pC (.bl false)))) (mSeq (mFor (mI (mP (pVar 0))) (aTup (aCons (aN 6) (aCons (aN 7) (aNil)))) b1__law_opening) (mSeq (mIf (mB (mP (p2 (eqO) (p1 lenKO (pVar 3)) (pC (.int 0))))) (mRet (mP (pC .non))) (mSkip)) (mSeq (mSetP 5 (m1 minO (q2__law_opening))) (mRet (mTup (mCons (mP (pVar 5)) (mCons (m1 tupO (q3__law_opening)) (mNil)))))))))
abbrev E__law_opening (v_path_here v_greatness v_stuck v_turns v_below v_least v_guard v_one v_times v_step v_name : Option O := none) : FB.Env := [v_path_here, v_greatness, v_stuck, v_turns, v_below, v_least, v_guard, v_one, v_times, v_step, v_name]
noncomputable def F__law_opening : FSem := runF 3 11 [] b__law_opening
theorem sc__law_opening : FnScope ["_law_path_here", "_law_greatness", "_law_stuck", "_law_turns", "_law_below", "_law_least", "_law_guard", "_law_one", "_law_times", "_law_step", "_law_name"] ["_law_path_here", "_law_greatness", "_law_stuck"] (C8.fnScope s__law_opening) := C8.fnScope_by (by decide +kernel)
noncomputable def b1__law_loud : M Fl := mIf (mB (mP (p2 (lift2 geD) (p2 ixF (pVar 1) (p2 ixO (pVar 2) (pC (.int 0)))) (p2 ixO (p2 ixO (p2 ixO (pVar 2) (pC (.int 2))) (pC (.int 0))) (pC (.int 0)))))) (mRet (mP (p2 ixO (pVar 2) (pC (.int 0))))) (mSkip)
noncomputable def b__law_loud : M Fl := mSeq (mSetP 1 (mCall F__law_rest [.v (mP (pVar 0))])) (mSeq (mFor (mI (mP (p2 ixO (pVar 0) (pC (.int 0))))) (aN 2) b1__law_loud) (mRet (mP (pC .non))))
abbrev E__law_loud (v_board v_found v_guard : Option O := none) : FB.Env := [v_board, v_found, v_guard]
noncomputable def F__law_loud : FSem := runF 1 3 [] b__law_loud
theorem sc__law_loud : FnScope ["_law_board", "_law_found", "_law_guard"] ["_law_board"] (C8.fnScope s__law_loud) := C8.fnScope_by (by decide +kernel)
noncomputable def q1__law_places : M O := mComp (mI (mP (p2 ixO (pVar 0) (pC (.int 0))))) (own2 [("_law_guard", 1)]) (aN 1) (mTrue) (mP (p2 ixO (pVar 1) (pC (.int 0))))
noncomputable def q2__law_places : M O := mComp (mI (mP (p2 ixO (pVar 0) (pC (.int 1))))) (own2 [("_law_load", 2)]) (aN 2) (mTrue) (mP (p2 ixO (pVar 2) (pC (.int 0))))
noncomputable def b__law_places : M Fl := mRet (m2 (lift2 addD) (q1__law_places) (q2__law_places))
abbrev E__law_places (v_board v_guard v_load : Option O := none) : FB.Env := [v_board, v_guard, v_load]
noncomputable def F__law_places : FSem := runF 1 3 [] b__law_places
theorem sc__law_places : FnScope ["_law_board", "_law_guard", "_law_load"] ["_law_board"] (C8.fnScope s__law_places) := C8.fnScope_by (by decide +kernel)
noncomputable def q1__law_names : M O := mComp (mR1 (mP (pVar 1))) (own2 [("_law_k", 11)]) (aN 11) (mTrue) (mP (p2 (lift2 mulD) (p2 ixO (pVar 2) (p2 (lift2 modD) (p2 (lift2 addD) (pVar 3) (pVar 11)) (pC (.int 26)))) (p2 (lift2 addD) (pC (.int 1)) (p2 (lift2 fdivD) (pVar 11) (pC (.int 26))))))
noncomputable def q2__law_names : M O := mComp (mR1 (mP (pVar 6))) (own2 [("_law_k", 11)]) (aN 11) (mTrue) (mCall F__law_take [.io 0, .v (mP (pC (.int 26)))])
noncomputable def q3__law_names : M O := mCompG (lstN 12) (wiN 12) (reN 12) (own2 [("_law_one", 13)]) (aN 13) (mTrue) (mP (p2 ixO (pVar 2) (pVar 13)))
noncomputable def b1__law_names : M Fl := mSeq (mSetO 12 (mW listW (pVar 7))) (mSeq (mSetIt 12 (mP (pVar 8)) (mP (p2 (lift2 modD) (p2 (lift2 addD) (p2 ixO (pVar 7) (pVar 8)) (pVar 11)) (pC (.int 26))))) (mSeq (mSetIt 12 (mP (pVar 9)) (mP (p2 (lift2 modD) (p2 (lift2 addD) (p2 ixO (pVar 7) (pVar 9)) (p2 (lift2 fdivD) (pVar 11) (pC (.int 26)))) (pC (.int 26))))) (mEx (mAppend 5 (m2 (lift2 addD) (mJoin "" (q3__law_names)) (mP (p2 (lift2 mulD) (p2 ixO (pVar 2) (pVar 3)) (p2 (lift2 mulD) (pVar 10) (p2 (lift2 modD) (pVar 11) (pC (.int 2)))))))))))
noncomputable def b__law_names : M Fl := mSeq (mSetP 2 (mP (pC (.str "abcdefghijklmnopqrstuvwxyz")))) (mSeq (mSetP 3 (mCall F__law_take [.io 0, .v (mP (pC (.int 26)))])) (mSeq (mIf (mB (m2 (eqO) (mCall F__law_take [.io 0, .v (mP (pC (.int 5)))]) (mP (pC (.int 0))))) (mSetO 5 (q1__law_names)) (mSeq (mSetP 6 (m2 (lift2 addD) (mP (pC (.int 2))) (mCall F__law_take [.io 0, .v (mP (pC (.int 7)))]))) (mSeq (mSetP 7 (q2__law_names)) (mSeq (mSetP 8 (mCall F__law_take [.io 0, .v (mP (pVar 6))])) (mSeq (mSetP 9 (m2 (lift2 modD) (m2 (lift2 addD) (mP (p2 (lift2 addD) (pVar 8) (pC (.int 1)))) (mCall F__law_take [.io 0, .v (mP (p2 (lift2 subD) (pVar 6) (pC (.int 1))))])) (mP (pVar 6)))) (mSeq (mSetP 10 (m2 (lift2 mulD) (mCall F__law_take [.io 0, .v (mP (pC (.int 2)))]) (mP (p1 intO (p2 (lift2 ltD) (pVar 6) (pC (.int 8))))))) (mSeq (mSetO 5 (mLst (mNil))) (mFor (mR1 (mP (pVar 1))) (aN 11) b1__law_names)))))))) (mSeq (mSetP 4 (m2 ixO (mLst (mCons (mP (pC (.str "guard"))) (mCons (mP (pC (.str "load"))) (mCons (mP (pC (.str "on"))) (mCons (mP (pC (.str "off"))) (mCons (mP (pC (.str "board"))) (mCons (mP (pC (.str "map"))) (mCons (mP (pC (.str "least"))) (mCons (mP (pC (.str ""))) (mCons (mP (pC (.str ""))) (mCons (mP (pC (.str ""))) (mCons (mP (pC (.str ""))) (mNil))))))))))))) (mCall F__law_take [.io 0, .v (mP (pC (.int 11)))]))) (mSeq (mIf (mAnd (mB (mP (p2 (neO) (pVar 4) (pC (.str ""))))) (mB (mP (p2 (ninO) (pVar 4) (pVar 5))))) (mSetIt 5 (mCall F__law_take [.io 0, .v (mP (pVar 1))]) (mP (pVar 4))) (mSkip)) (mRet (mMove 5))))))
abbrev E__law_names (v_feed_here v_many v_letters v_first v_word v_names_here v_size v_base v_at v_other v_longer v_k v_some v_one : Option O := none) : FB.Env := [v_feed_here, v_many, v_letters, v_first, v_word, v_names_here, v_size, v_base, v_at, v_other, v_longer, v_k, v_some, v_one]
noncomputable def F__law_names : FSem := runF 2 14 [0] b__law_names
theorem sc__law_names : FnScope ["_law_feed_here", "_law_many", "_law_letters", "_law_first", "_law_word", "_law_names_here", "_law_size", "_law_base", "_law_at", "_law_other", "_law_longer", "_law_k", "_law_some", "_law_one"] ["_law_feed_here", "_law_many"] (C8.fnScope s__law_names) := C8.fnScope_by (by decide +kernel)
noncomputable def q1__law_lifted : M O := mComp (mI (mP (p2 ixO (pVar 0) (pC (.int 2))))) (own2 [("_law_step", 2)]) (aN 2) (mTrue) (mP (pTup (pCons (p2 (lift2 addD) (p2 ixO (pVar 2) (pC (.int 0))) (pVar 1)) (pCons (p2 ixO (pVar 2) (pC (.int 1))) (pNil)))))
noncomputable def b__law_lifted : M Fl := mRet (m2 (lift2 addD) (m2 (lift2 addD) (mP (pSl (pVar 0) pNone (pInt (pC (.int 2))))) (mTup (mCons (m1 tupO (q1__law_lifted)) (mNil)))) (mP (pSl (pVar 0) (pInt (pC (.int 3))) pNone)))
abbrev E__law_lifted (v_guard v_more v_step : Option O := none) : FB.Env := [v_guard, v_more, v_step]
noncomputable def F__law_lifted : FSem := runF 2 3 [] b__law_lifted
theorem sc__law_lifted : FnScope ["_law_guard", "_law_more", "_law_step"] ["_law_guard", "_law_more"] (C8.fnScope s__law_lifted) := C8.fnScope_by (by decide +kernel)
noncomputable def b1__law_small_curve : M Fl := mSeq (mEx (mAppend 4 (m2 (lift2 addD) (mP (p2 (lift2 addD) (p2 ixO (pVar 4) (p1 negO (pC (.int 1)))) (pC (.int 1)))) (mCall F__law_take [.io 0, .v (mP (pC (.int 9)))])))) (mEx (mAppend 5 (m2 (lift2 addD) (mP (p2 (lift2 addD) (p2 ixO (pVar 5) (p1 negO (pC (.int 1)))) (pC (.int 1)))) (mCall F__law_take [.io 0, .v (mP (pC (.int 3)))]))))
noncomputable def q1__law_small_curve : M O := mComp (mR1 (mP (pVar 3))) (own2 [("_law_k", 6)]) (aN 6) (mTrue) (mP (pTup (pCons (p2 (lift2 mulD) (p2 ixO (pVar 4) (pVar 6)) (pVar 1)) (pCons (p2 (lift2 mulD) (p2 ixO (pVar 5) (p2 (lift2 subD) (p2 (lift2 subD) (pVar 3) (pC (.int 1))) (pVar 6))) (pVar 2)) (pNil)))))
noncomputable def b__law_small_curve : M Fl := mSeq (mSetP 3 (m2 (lift2 addD) (mP (pC (.int 1))) (mCall F__law_take [.io 0, .v (mP (pC (.int 5)))]))) (mSeq (mSetO 4 (mLst (mCons (m2 (lift2 addD) (mP (pC (.int 1))) (mCall F__law_take [.io 0, .v (mP (pC (.int 10)))])) (mNil)))) (mSeq (mSetO 5 (mLst (mCons (m2 (lift2 addD) (mP (pC (.int 1))) (mCall F__law_take [.io 0, .v (mP (pC (.int 3)))])) (mNil)))) (mSeq (mFor (mR1 (mP (p2 (lift2 subD) (pVar 3) (pC (.int 1))))) (aN 6) b1__law_small_curve) (mRet (m1 tupO (q1__law_small_curve))))))
abbrev E__law_small_curve (v_feed_here v_unit v_time v_many v_some v_times v_k : Option O := none) : FB.Env := [v_feed_here, v_unit, v_time, v_many, v_some, v_times, v_k]
noncomputable def F__law_small_curve : FSem := runF 3 7 [0] b__law_small_curve
theorem sc__law_small_curve : FnScope ["_law_feed_here", "_law_unit", "_law_time", "_law_many", "_law_some", "_law_times", "_law_k"] ["_law_feed_here", "_law_unit", "_law_time"] (C8.fnScope s__law_small_curve) := C8.fnScope_by (by decide +kernel)
noncomputable def b1__law_small_guards : M Fl := mSeq (mSetO 6 (mCall F__law_feed [.v (mP (pVar 0)), .v (mP (p2 (lift2 addD) (pC (.int 2)) (pVar 5)))])) (mSeq (mSetP 7 (m2 ixO (mLst (mCons (mCall F__law_take [.io 6, .v (mP (p2 (lift2 addD) (pVar 5) (pC (.int 1))))]) (mCons (mP (pVar 5)) (mNil)))) (m1 intO (m2 (lift2 gtD) (mCall F__law_take [.io 6, .v (mP (pC (.int 3)))]) (mP (pC (.int 0))))))) (mSeq (mSetP 8 (mCall F__law_small_curve [.io 6, .v (mP (pVar 2)), .v (mP (pVar 3))])) (mSeq (mSetP 9 (m2 (lift2 mulD) (mCall F__law_take [.io 6, .v (mP (pC (.int 4)))]) (mP (pVar 3)))) (mEx (mAppend 4 (mTup (mCons (mP (p2 ixO (pVar 1) (pVar 5))) (mCons (mP (p2 ixO (p2 (lift2 addD) (pLst (pCons (pC .non) (pNil))) (pVar 1)) (pVar 7))) (mCons (mP (pVar 8)) (mCons (mP (pVar 9)) (mCons (m2 (lift2 mulD) (mCall F__law_take [.io 6, .v (mP (pC (.int 3)))]) (mP (pVar 3))) (mNil))))))))))))
noncomputable def b__law_small_guards : M Fl := mSeq (mSetO 4 (mLst (mNil))) (mSeq (mFor (mR1 (mP (p1 lenO (pVar 1)))) (aN 5) b1__law_small_guards) (mRet (mMove 4)))
abbrev E__law_small_guards (v_script v_names_here v_unit v_time v_guards v_k v_feed_here v_at v_curve v_delay : Option O := none) : FB.Env := [v_script, v_names_here, v_unit, v_time, v_guards, v_k, v_feed_here, v_at, v_curve, v_delay]
noncomputable def F__law_small_guards : FSem := runF 4 10 [] b__law_small_guards
theorem sc__law_small_guards : FnScope ["_law_script", "_law_names_here", "_law_unit", "_law_time", "_law_guards", "_law_k", "_law_feed_here", "_law_at", "_law_curve", "_law_delay"] ["_law_script", "_law_names_here", "_law_unit", "_law_time"] (C8.fnScope s__law_small_guards) := C8.fnScope_by (by decide +kernel)
noncomputable def b1__law_small_loads : M Fl := mEx (mAppend 9 (mTup (mCons (m2 (lift2 mulD) (m2 (lift2 addD) (mP (pC (.int 1))) (mCall F__law_take [.io 7, .v (mP (pC (.int 3)))])) (mP (pVar 4))) (mCons (m2 (lift2 mulD) (mCall F__law_take [.io 7, .v (mP (pC (.int 12)))]) (mP (pVar 3))) (mNil)))))
noncomputable def b2__law_small_loads : M Fl := mSeq (mSetO 7 (mCall F__law_feed [.v (mP (pVar 0)), .v (mP (p2 (lift2 addD) (pC (.int 10)) (pVar 6)))])) (mSeq (mSetP 8 (m2 ixO (m2 ixO (mP (pVar 2)) (mCall F__law_take [.io 7, .v (mP (p1 lenO (pVar 2)))])) (mP (pC (.int 0))))) (mSeq (mSetO 9 (mLst (mNil))) (mSeq (mFor (mR1 (mCall F__law_take [.io 7, .v (mP (pC (.int 5)))])) (aN 10) b1__law_small_loads) (mEx (mAppend 5 (mTup (mCons (mP (p2 ixO (pVar 1) (pVar 6))) (mCons (mP (pVar 8)) (mCons (mP (p1 tupO (pVar 9))) (mCons (m2 (lift2 mulD) (mCall F__law_take [.io 7, .v (mP (pC (.int 4)))]) (mP (pVar 3))) (mCons (m2 (lift2 gtD) (mCall F__law_take [.io 7, .v (mP (pC (.int 4)))]) (mP (pC (.int 0)))) (mNil))))))))))))
noncomputable def b__law_small_loads : M Fl := mSeq (mSetO 5 (mLst (mNil))) (mSeq (mFor (mR1 (mP (p1 lenO (pVar 1)))) (aN 6) b2__law_small_loads) (mRet (mMove 5)))
abbrev E__law_small_loads (v_script v_names_here v_guards v_unit v_time v_loads v_k v_feed_here v_at v_course v_j : Option O := none) : FB.Env := [v_script, v_names_here, v_guards, v_unit, v_time, v_loads, v_k, v_feed_here, v_at, v_course, v_j]
noncomputable def F__law_small_loads : FSem := runF 5 11 [] b__law_small_loads
theorem sc__law_small_loads : FnScope ["_law_script", "_law_names_here", "_law_guards", "_law_unit", "_law_time", "_law_loads", "_law_k", "_law_feed_here", "_law_at", "_law_course", "_law_j"] ["_law_script", "_law_names_here", "_law_guards", "_law_unit", "_law_time"] (C8.fnScope s__law_small_loads) := C8.fnScope_by (by decide +kernel)
noncomputable def q1__law_small_board : M O := mComp (mI (mP (pVar 6))) (own2 [("_law_guard", 9)]) (aN 9) (mTrue) (mCall F__law_lifted [.v (mP (pVar 9)), .v (mP (p2 ixF (pVar 8) (p2 ixO (pVar 9) (pC (.int 0)))))])
noncomputable def b__law_small_board : M Fl := mSeq (mSetO 3 (mCall F__law_feed [.v (mP (pVar 0)), .v (mP (pC (.int 0)))])) (mSeq (mSetP 4 (m2 (lift2 addD) (mP (pC (.int 1))) (mCall F__law_take [.io 3, .v (mP (pC (.int 8)))]))) (mSeq (mSetP 5 (mCall F__law_names [.v (mCall F__law_feed [.v (mP (pVar 0)), .v (mP (pC (.int 1)))]), .v (mFz (m2 (lift2 addD) (mP (pVar 4)) (mCall F__law_take [.io 3, .v (mP (pC (.int 9)))])))])) (mSeq (mSetP 6 (mCall F__law_small_guards [.v (mP (pVar 0)), .v (mP (pSl (pVar 5) pNone (pInt (pVar 4)))), .v (mP (pVar 1)), .v (mP (pVar 2))])) (mSeq (mSetP 7 (mCall F__law_small_loads [.v (mP (pVar 0)), .v (mP (pSl (pVar 5) (pInt (pVar 4)) pNone)), .v (mP (pVar 6)), .v (mP (pVar 1)), .v (mP (pVar 2))])) (mSeq (mSetP 8 (mCall F__law_rest [.v (mP (pTup (pCons (pVar 6) (pCons (pVar 7) (pNil)))))])) (mSeq (mIf (mB (m2 (lift2 gtD) (mCall F__law_take [.io 3, .v (mP (pC (.int 8)))]) (mP (pC (.int 0))))) (mSetP 6 (q1__law_small_board)) (mSkip)) (mRet (mP (pTup (pCons (p1 tupO (pVar 6)) (pCons (p1 tupO (pVar 7)) (pNil))))))))))))
abbrev E__law_small_board (v_script v_unit v_time v_feed_here v_many v_names_here v_guards v_loads v_found v_guard : Option O := none) : FB.Env := [v_script, v_unit, v_time, v_feed_here, v_many, v_names_here, v_guards, v_loads, v_found, v_guard]
noncomputable def F__law_small_board : FSem := runF 3 10 [] b__law_small_board
theorem sc__law_small_board : FnScope ["_law_script", "_law_unit", "_law_time", "_law_feed_here", "_law_many", "_law_names_here", "_law_guards", "_law_loads", "_law_found", "_law_guard"] ["_law_script", "_law_unit", "_law_time"] (C8.fnScope s__law_small_board) := C8.fnScope_by (by decide +kernel)
noncomputable def b__law_sized : M Fl := mSeq (mSetO 1 (mCall F__law_feed [.v (mP (pVar 0)), .v (mP (pC (.int 18)))])) (mSeq (mSetP 2 (m2 ixO (mLst (mCons (mP (pC (.int 1))) (mCons (mP (pC (.int 1))) (mCons (mP (pC (.int 7))) (mCons (mP (p2 (lift2 addD) (p2 (lift2 powD) (pC (.int 10)) (pC (.int 50))) (pC (.int 3)))) (mNil)))))) (mCall F__law_take [.io 1, .v (mP (pC (.int 4)))]))) (mSeq (mSetP 3 (m2 ixO (mLst (mCons (mP (pC (.int 1))) (mCons (mP (pC (.int 1))) (mCons (mP (pC (.int 5))) (mCons (mP (p2 (lift2 powD) (pC (.int 10)) (pC (.int 40)))) (mNil)))))) (mCall F__law_take [.io 1, .v (mP (pC (.int 4)))]))) (mRet (mTup (mCons (mCall F__law_small_board [.v (mP (pVar 0)), .v (mP (pVar 2)), .v (mP (pVar 3))]) (mCons (mP (pVar 2)) (mNil)))))))
abbrev E__law_sized (v_script v_feed_here v_unit v_time : Option O := none) : FB.Env := [v_script, v_feed_here, v_unit, v_time]
noncomputable def F__law_sized : FSem := runF 1 4 [] b__law_sized
theorem sc__law_sized : FnScope ["_law_script", "_law_feed_here", "_law_unit", "_law_time"] ["_law_script"] (C8.fnScope s__law_sized) := C8.fnScope_by (by decide +kernel)
noncomputable def b__law_most : M Fl := mSeq (mSetP 3 (mCall F__law_take [.io 0, .v (mP (pC (.int 8)))])) (mSeq (mIf (mB (mP (p2 (eqO) (pVar 3) (pC (.int 0))))) (mRet (mP (p2 (lift2 subD) (p2 (lift2 powD) (pC (.int 10)) (pC (.int 60))) (pC (.int 1))))) (mSkip)) (mSeq (mIf (mOr (mB (mP (p2 (lift2 ltD) (pVar 3) (pC (.int 3))))) (mB (mP (p2 (eqO) (p1 lenO (pVar 1)) (pC (.int 0)))))) (mRet (m2 (lift2 addD) (mP (pC (.int 1))) (m2 (lift2 mulD) (mCall F__law_take [.io 0, .v (mP (pC (.int 60)))]) (mP (pVar 2))))) (mSkip)) (mSeq (mAsg (aTup (aCons (aN 5) (aCons (aN 6) (aNil)))) (m2 ixO (mP (pVar 1)) (mCall F__law_take [.io 0, .v (mP (p1 lenO (pVar 1)))]))) (mSeq (mSetP 4 (m2 ixO (mP (p2 ixO (pVar 5) (pC (.int 2)))) (mCall F__law_take [.io 0, .v (mP (p1 lenO (p2 ixO (pVar 5) (pC (.int 2)))))]))) (mRet (m2 (lift2 max2D) (mP (pC (.int 1))) (m2 (lift2 addD) (mP (p2 (lift2 subD) (p2 (lift2 subD) (p2 ixO (pVar 4) (pC (.int 0))) (pVar 6)) (pC (.int 1)))) (mCall F__law_take [.io 0, .v (mP (pC (.int 3)))]))))))))
abbrev E__law_most (v_feed_here v_path_here v_unit v_way v_step v_guard v_one : Option O := none) : FB.Env := [v_feed_here, v_path_here, v_unit, v_way, v_step, v_guard, v_one]
noncomputable def F__law_most : FSem := runF 3 7 [0] b__law_most
theorem sc__law_most : FnScope ["_law_feed_here", "_law_path_here", "_law_unit", "_law_way", "_law_step", "_law_guard", "_law_one"] ["_law_feed_here", "_law_path_here", "_law_unit"] (C8.fnScope s__law_most) := C8.fnScope_by (by decide +kernel)
noncomputable def b1_law : M Fl := mSetIt 2 (mP (p2 ixO (pVar 3) (pC (.int 0)))) (m2 (lift2 mulD) (mCall F__law_take [.io 1, .v (mP (pC (.int 9)))]) (m2 ixO (mLst (mCons (mP (pC (.int 1))) (mCons (mP (pC (.int 1))) (mCons (mP (pVar 12)) (mCons (mP (p2 (lift2 addD) (p2 (lift2 mulD) (p2 (lift2 powD) (pC (.int 10)) (pC (.int 60))) (p2 (lift2 powD) (pC (.int 10)) (pC (.int 29)))) (pC (.int 7)))) (mNil)))))) (mCall F__law_take [.io 1, .v (mP (pC (.int 4)))])))
noncomputable def q1_law : M O := mComp (mI (mP (p2 ixO (pVar 11) (pC (.int 0))))) (own2 [("_law_guard", 3)]) (aN 3) (mTrue) (mP (p2 (lift2 addD) (p2 (lift2 addD) (pSl (pVar 3) pNone (pInt (pC (.int 3)))) (pTup (pCons (p2 ixF (pVar 2) (p2 ixO (pVar 3) (pC (.int 0)))) (pNil)))) (pSl (pVar 3) (pInt (pC (.int 4))) pNone)))
noncomputable def b_law : M Fl := mSeq (mAsg (aTup (aCons (aN 11) (aCons (aN 12) (aNil)))) (mCall F__law_sized [.v (mP (pVar 0))])) (mSeq (mSetO 1 (mCall F__law_feed [.v (mP (pVar 0)), .v (mP (pC (.int 19)))])) (mSeq (mSetO 2 (mDict0)) (mSeq (mFor (mI (mP (p1 revA (p2 ixO (pVar 11) (pC (.int 0)))))) (aN 3) b1_law) (mSeq (mSetP 4 (mBor 2 (mP (p1 reprQ (pTup (pCons (pVar 11) (pCons (pVar 2) (pNil)))))))) (mSeq (mSetP 5 (mTup (mCons (m1 tupO (q1_law)) (mCons (mP (p2 ixO (pVar 11) (pC (.int 1)))) (mNil))))) (mSeq (mSetP 6 (mCall F_with_delays [.v (mP (pVar 11)), .io 2])) (mSeq (mIf (mOr (mB (mP (p2 (neO) (p1 reprO (pVar 6)) (p1 reprO (pVar 5))))) (mB (m2 (neO) (mBor 2 (mP (p1 reprQ (pTup (pCons (pVar 11) (pCons (pVar 2) (pNil))))))) (mP (pVar 4))))) (mRet (mP (pC (.bl false)))) (mSkip)) (mSeq (mEx (mClearD 2)) (mSeq (mIf (mOr (mB (mP (p2 (neO) (p1 reprO (pVar 6)) (p1 reprO (pVar 5))))) (mB (m2 (notNO) (mCall F__law_loud [.v (mP (pVar 11))]) (mP (pC .non))))) (mRet (mP (p2 (eqO) (p1 reprO (pVar 6)) (p1 reprO (pVar 5))))) (mSkip)) (mSeq (mSetP 7 (mCall F__law_places [.v (mP (pVar 11))])) (mSeq (mSetP 8 (m2 ixO (mP (pVar 7)) (mCall F__law_take [.io 1, .v (mP (p1 lenO (pVar 7)))]))) (mSeq (mSetP 9 (mCall F__law_path [.v (mP (pVar 5)), .v (mP (pVar 8))])) (mSeq (mSetP 10 (mCall F__law_most [.io 1, .v (mP (pVar 9)), .v (mP (pVar 12))])) (mRet (m2 (eqO) (m1 reprO (mCall (dflN F_opening_of) [.v (mP (pVar 6)), .v (mP (pVar 8)), .v (mP (pVar 10))])) (m1 reprO (mCall F__law_opening [.v (mP (pVar 9)), .v (mP (pVar 10)), .v (mFz (mLst (mNil)))])))))))))))))))))
abbrev E_law (v_script v_feed_here v_delays v_guard v_kept v_due v_found v_places_here v_place v_path_here v_greatness v_board v_unit : Option O := none) : FB.Env := [v_script, v_feed_here, v_delays, v_guard, v_kept, v_due, v_found, v_places_here, v_place, v_path_here, v_greatness, v_board, v_unit]
noncomputable def F_law : FSem := runF 1 13 [] b_law
theorem sc_law : FnScope ["_law_script", "_law_feed_here", "_law_delays", "_law_guard", "_law_kept", "_law_due", "_law_found", "_law_places_here", "_law_place", "_law_path_here", "_law_greatness", "_law_board", "_law_unit"] ["_law_script"] (C8.fnScope s_law) := C8.fnScope_by (by decide +kernel)
section
variable {P : Program} {w : World} {K : PySem.W.Frag} {mg : Str → Option Value} {base : Heap}
theorem c_guards_of {f : Addr} {fd : FuncData} (F : C8.Def K mg "guards_of" s_guards_of f fd) (bi : Binds K fd ["board"] []) (Z : Fr K mg) {C_Way : Addr} (co_Way : CO K mg "Way" C_Way fs_Way)  : C8.Cal P w K mg base 1 "guards_of" (spF K mg 1 F_guards_of) [] :=
  cal_sem F bi sc_guards_of rfl rfl (by decide) fun cdv A outer s H E hr => by
    have ok := bodyOk (P := P) (w := w) (K := K) (mg := mg) (base := base) (qual := "guards_of") (cdv := cdv) (A := A) (outer := outer) (s := s) (H := H) (E := E) sc_guards_of hr
    exact (sss_one (ss_ret (se_comp ok (si_val (se_p (sp_ix ix_seq opv_ix (sp_var 0) sp_int))) (blkOk_by (by first | rfl | decide +kernel)) (own := [("guard", 1)]) (fun _ _ _ _ _ => (sg_n 1 ok.blk rfl (by first | exact Or.inl rfl | exact Or.inr rfl) wipSet)) (fun _ _ _ _ _ => sets_nil) (fun _ _ _ _ _ => (se_p (sp_ix ix_seq opv_ix (sp_var 1) sp_int))))))
theorem c_chain {f : Addr} {fd : FuncData} (F : C8.Def K mg "chain" s_chain f fd) (bi : Binds K fd ["guards", "name"] []) (Z : Fr K mg) {C_Way : Addr} (co_Way : CO K mg "Way" C_Way fs_Way)  : C8.Cal P w K mg base 1 "chain" (spF K mg 2 F_chain) [] :=
  cal_sem F bi sc_chain rfl rfl (by decide) fun cdv A outer s H E hr => by
    have ok := bodyOk (P := P) (w := w) (K := K) (mg := mg) (base := base) (qual := "chain") (cdv := cdv) (A := A) (outer := outer) (s := s) (H := H) (E := E) sc_chain hr
    exact (sss_cons (ss_setP 2 ok rfl (by first | exact Or.inl rfl | exact Or.inr rfl) (se_dictP ok rfl Z.n_dict (by rfl) (se_comp ok (si_val (se_p (sp_var 0))) (blkOk_by (by first | rfl | decide +kernel)) (own := [("guard", 4)]) (fun _ _ _ _ _ => (sg_n 4 ok.blk rfl (by first | exact Or.inl rfl | exact Or.inr rfl) wipSet)) (fun _ _ _ _ _ => sets_nil) (fun _ _ _ _ _ => (se_p (sp_tup (sps_cons (sp_ix ix_seq opv_ix (sp_var 4) sp_int) (sps_cons (sp_ix ix_seq opv_ix (sp_var 4) sp_int) sps_nil)))))))) (sss_cons (ss_setO 3 ok rfl (by first | exact Or.inl rfl | exact Or.inr rfl) (se_lst ses_nil)) (sss_cons (ss_while (fun _ => fuel) .never (set_cmpP op_notN opv_notN (sp_var 1) sp_non rfl) (sss_cons (ss_expr (se_append 3 (se_p (sp_var 1)))) (sss_one (ss_setP 1 ok rfl (by first | exact Or.inl rfl | exact Or.inr rfl) (se_p (sp_ix (ix_F ok) opv_ixF (sp_var 2) (sp_var 1))))))) (sss_one (ss_ret (se_move 3))))))
theorem c_over {f : Addr} {fd : FuncData} (F : C8.Def K mg "over" s_over f fd) (bi : Binds K fd ["board", "place"] []) (Z : Fr K mg) {C_Way : Addr} (co_Way : CO K mg "Way" C_Way fs_Way) (c_guards_of : C8.Cal P w K mg base 1 "guards_of" (spF K mg 1 F_guards_of) []) (c_chain : C8.Cal P w K mg base 1 "chain" (spF K mg 2 F_chain) []) : C8.Cal P w K mg base 2 "over" (spF K mg 2 F_over) [] :=
  cal_sem F bi sc_over rfl rfl (by decide) fun cdv A outer s H E hr => by
    have ok := bodyOk (P := P) (w := w) (K := K) (mg := mg) (base := base) (qual := "over") (cdv := cdv) (A := A) (outer := outer) (s := s) (H := H) (E := E) sc_over hr
    exact (sss_cons (ss_if (set_cmp (op_inF ok) opv_in (se_p (sp_var 1)) (se_call c_guards_of hr (by decide) rfl (sas_v (se_p (sp_var 0)) sas_nil)) rfl) (sss_one (ss_ret (se_call c_chain hr (by decide) rfl (sas_v (se_p (sp_ix ix_seq opv_ix (sp_var 0) sp_int)) (sas_v (se_p (sp_var 1)) sas_nil))))) sss_nil) (sss_cons (ss_for ok .never (si_val (se_p (sp_ix ix_seq opv_ix (sp_var 0) sp_int))) (sg_tup ok (sgs_cons (fixOk _) (sg_n 2 ok rfl (by first | exact Or.inl rfl | exact Or.inr rfl) fixSet) (sgs_cons (fixOk _) (sg_n 3 ok rfl (by first | exact Or.inl rfl | exact Or.inr rfl) fixSet) (sgs_cons (fixOk _) (sg_n 4 ok rfl (by first | exact Or.inl rfl | exact Or.inr rfl) fixSet) (sgs_cons (fixOk _) (sg_n 5 ok rfl (by first | exact Or.inl rfl | exact Or.inr rfl) fixSet) (sgs_cons (fixOk _) (sg_n 6 ok rfl (by first | exact Or.inl rfl | exact Or.inr rfl) fixSet) (sgs_nil (fixOk _))))))) (hl := (aCons_len (aCons_len (aCons_len (aCons_len (aCons_len aNil_len))))))) (sss_one (ss_if (set_cmpP (op_eqD ok.u64) opv_eq (sp_var 2) (sp_var 1) rfl) (sss_one (ss_ret (se_call c_chain hr (by decide) rfl (sas_v (se_p (sp_ix ix_seq opv_ix (sp_var 0) sp_int)) (sas_v (se_p (sp_var 3)) sas_nil))))) sss_nil))) (sss_one ss_never)))
theorem c_draws {f : Addr} {fd : FuncData} (F : C8.Def K mg "draws" s_draws f fd) (bi : Binds K fd ["board", "opened", "pulls"] []) (Z : Fr K mg) {C_Way : Addr} (co_Way : CO K mg "Way" C_Way fs_Way) (c_guards_of : C8.Cal P w K mg base 1 "guards_of" (spF K mg 1 F_guards_of) []) (c_over : C8.Cal P w K mg base 2 "over" (spF K mg 2 F_over) []) : C8.Cal P w K mg base 3 "draws" (spF K mg 3 F_draws) [] :=
  cal_sem F bi sc_draws rfl rfl (by decide) fun cdv A outer s H E hr => by
    have ok := bodyOk (P := P) (w := w) (K := K) (mg := mg) (base := base) (qual := "draws") (cdv := cdv) (A := A) (outer := outer) (s := s) (H := H) (E := E) sc_draws hr
    exact (sss_cons (ss_setO 3 ok rfl (by first | exact Or.inl rfl | exact Or.inr rfl) se_dict0) (sss_cons (ss_for ok .never (si_val (se_call c_guards_of hr (by decide) rfl (sas_v (se_p (sp_var 0)) sas_nil))) (sg_n 4 ok rfl (by first | exact Or.inl rfl | exact Or.inr rfl) fixSet) (sss_one (ss_setIt 3 ok (se_p (sp_var 4)) (se_p sp_int)))) (sss_cons (ss_forK 2 ok .never (sg_n 5 ok rfl (by first | exact Or.inl rfl | exact Or.inr rfl) fixSet) (sss_cons (ss_setP 6 ok rfl (by first | exact Or.inl rfl | exact Or.inr rfl) (se_call c_over hr (by decide) rfl (sas_v (se_p (sp_var 0)) (sas_v (se_p (sp_var 5)) sas_nil)))) (sss_one (ss_if (set_not (set_val (se_b1 (cr_any ok.calm) unv_any rfl Z.n_any (by rfl) (se_comp ok (si_val (se_p (sp_var 6))) (blkOk_by (by first | rfl | decide +kernel)) (own := [("guard", 4)]) (fun _ _ _ _ _ => (sg_n 4 ok.blk rfl (by first | exact Or.inl rfl | exact Or.inr rfl) wipSet)) (fun _ _ _ _ _ => sets_nil) (fun _ _ _ _ _ => (se_p (sp_cmp (op_inF ok.blk) opv_in (sp_var 4) (sp_var 1) rfl))))))) (sss_one (ss_for ok .never (si_val (se_p (sp_var 6))) (sg_n 4 ok rfl (by first | exact Or.inl rfl | exact Or.inr rfl) fixSet) (sss_one (ss_augI 3 ok ip_add (sp_var 4) (sp_ix (ix_F ok) opv_ixF (sp_var 2) (sp_var 5)))))) sss_nil)))) (sss_one (ss_ret (se_move 3))))))
theorem c_rest {f : Addr} {fd : FuncData} (F : C8.Def K mg "rest" s_rest f fd) (bi : Binds K fd ["board"] []) (Z : Fr K mg) {C_Way : Addr} (co_Way : CO K mg "Way" C_Way fs_Way) (c_draws : C8.Cal P w K mg base 3 "draws" (spF K mg 3 F_draws) []) : C8.Cal P w K mg base 4 "rest" (spF K mg 1 F_rest) [] :=
  cal_sem F bi sc_rest rfl rfl (by decide) fun cdv A outer s H E hr => by
    have ok := bodyOk (P := P) (w := w) (K := K) (mg := mg) (base := base) (qual := "rest") (cdv := cdv) (A := A) (outer := outer) (s := s) (H := H) (E := E) sc_rest hr
    exact (sss_cons (ss_setO 1 ok rfl (by first | exact Or.inl rfl | exact Or.inr rfl) se_dict0) (sss_cons (ss_for ok .never (si_val (se_p (sp_ix ix_seq opv_ix (sp_var 0) sp_int))) (sg_tup ok (sgs_cons (fixOk _) (sg_n 2 ok rfl (by first | exact Or.inl rfl | exact Or.inr rfl) fixSet) (sgs_cons (fixOk _) (sg_n 3 ok rfl (by first | exact Or.inl rfl | exact Or.inr rfl) fixSet) (sgs_cons (fixOk _) (sg_n 4 ok rfl (by first | exact Or.inl rfl | exact Or.inr rfl) fixSet) (sgs_cons (fixOk _) (sg_n 5 ok rfl (by first | exact Or.inl rfl | exact Or.inr rfl) fixSet) (sgs_cons (fixOk _) (sg_n 6 ok rfl (by first | exact Or.inl rfl | exact Or.inr rfl) fixSet) (sgs_nil (fixOk _))))))) (hl := (aCons_len (aCons_len (aCons_len (aCons_len (aCons_len aNil_len))))))) (sss_one (ss_if (set_val (se_p (sp_var 6))) (sss_one (ss_setIt 1 ok (se_p (sp_var 2)) (se_p (sp_var 5)))) sss_nil))) (sss_one (ss_ret (se_call c_draws hr (by decide) rfl (sas_v (se_p (sp_var 0)) (sas_v (se_fz (se_lst ses_nil)) (sas_v (se_fz (se_frz 1)) sas_nil))))))))
theorem c_least_of {f : Addr} {fd : FuncData} (F : C8.Def K mg "least_of" s_least_of f fd) (bi : Binds K fd ["curve"] []) (Z : Fr K mg) {C_Way : Addr} (co_Way : CO K mg "Way" C_Way fs_Way)  : C8.Cal P w K mg base 1 "least_of" (spF K mg 1 F_least_of) [] :=
  cal_sem F bi sc_least_of rfl rfl (by decide) fun cdv A outer s H E hr => by
    have ok := bodyOk (P := P) (w := w) (K := K) (mg := mg) (base := base) (qual := "least_of") (cdv := cdv) (A := A) (outer := outer) (s := s) (H := H) (E := E) sc_least_of hr
    exact (sss_one (ss_ret (se_p (sp_ix ix_seq opv_ix (sp_ix ix_seq opv_ix (sp_var 0) sp_int) sp_int))))
theorem c_awake {f : Addr} {fd : FuncData} (F : C8.Def K mg "awake" s_awake f fd) (bi : Binds K fd ["board", "found"] []) (Z : Fr K mg) {C_Way : Addr} (co_Way : CO K mg "Way" C_Way fs_Way) (c_least_of : C8.Cal P w K mg base 1 "least_of" (spF K mg 1 F_least_of) []) : C8.Cal P w K mg base 2 "awake" (spF K mg 2 F_awake) [] :=
  cal_sem F bi sc_awake rfl rfl (by decide) fun cdv A outer s H E hr => by
    have ok := bodyOk (P := P) (w := w) (K := K) (mg := mg) (base := base) (qual := "awake") (cdv := cdv) (A := A) (outer := outer) (s := s) (H := H) (E := E) sc_awake hr
    exact (sss_one (ss_ret (se_comp ok (si_val (se_p (sp_ix ix_seq opv_ix (sp_var 0) sp_int))) (blkOk_by (by first | rfl | decide +kernel)) (own := [("name", 2), ("under", 3), ("curve", 4), ("delay", 5), ("wait", 6)]) (fun _ _ _ _ _ => (sg_tup ok.blk (sgs_cons (wipOk _) (sg_n 2 ok.blk rfl (by first | exact Or.inl rfl | exact Or.inr rfl) wipSet) (sgs_cons (wipOk _) (sg_n 3 ok.blk rfl (by first | exact Or.inl rfl | exact Or.inr rfl) wipSet) (sgs_cons (wipOk _) (sg_n 4 ok.blk rfl (by first | exact Or.inl rfl | exact Or.inr rfl) wipSet) (sgs_cons (wipOk _) (sg_n 5 ok.blk rfl (by first | exact Or.inl rfl | exact Or.inr rfl) wipSet) (sgs_cons (wipOk _) (sg_n 6 ok.blk rfl (by first | exact Or.inl rfl | exact Or.inr rfl) wipSet) (sgs_nil (wipOk _))))))) (hl := (aCons_len (aCons_len (aCons_len (aCons_len (aCons_len aNil_len)))))))) (fun _ _ _ _ _ => (sets_one (set_cmp op_ge opv_ge (se_p (sp_ix (ix_F ok.blk) opv_ixF (sp_var 1) (sp_var 2))) (se_call c_least_of hr (by decide) rfl (sas_v (se_p (sp_var 4)) sas_nil)) rfl))) (fun _ _ _ _ _ => (se_p (sp_var 2))))))
theorem c_loud {f : Addr} {fd : FuncData} (F : C8.Def K mg "loud" s_loud f fd) (bi : Binds K fd ["board"] []) (Z : Fr K mg) {C_Way : Addr} (co_Way : CO K mg "Way" C_Way fs_Way) (c_rest : C8.Cal P w K mg base 4 "rest" (spF K mg 1 F_rest) []) (c_awake : C8.Cal P w K mg base 2 "awake" (spF K mg 2 F_awake) []) : C8.Cal P w K mg base 5 "loud" (spF K mg 1 F_loud) [] :=
  cal_sem F bi sc_loud rfl rfl (by decide) fun cdv A outer s H E hr => by
    have ok := bodyOk (P := P) (w := w) (K := K) (mg := mg) (base := base) (qual := "loud") (cdv := cdv) (A := A) (outer := outer) (s := s) (H := H) (E := E) sc_loud hr
    exact (sss_cons (ss_for ok .never (si_val (se_call c_awake hr (by decide) rfl (sas_v (se_p (sp_var 0)) (sas_v (se_fz (se_call c_rest hr (by decide) rfl (sas_v (se_p (sp_var 0)) sas_nil))) sas_nil)))) (sg_n 1 ok rfl (by first | exact Or.inl rfl | exact Or.inr rfl) fixSet) (sss_one (ss_ret (se_p (sp_var 1))))) (sss_one (ss_ret (se_p sp_non))))
theorem c_ask_quiet {f : Addr} {fd : FuncData} (F : C8.Def K mg "ask_quiet" s_ask_quiet f fd) (bi : Binds K fd ["board"] []) (Z : Fr K mg) {C_Way : Addr} (co_Way : CO K mg "Way" C_Way fs_Way) (c_loud : C8.Cal P w K mg base 5 "loud" (spF K mg 1 F_loud) []) : C8.Cal P w K mg base 6 "ask_quiet" (spF K mg 1 F_ask_quiet) [] :=
  cal_sem F bi sc_ask_quiet rfl rfl (by decide) fun cdv A outer s H E hr => by
    have ok := bodyOk (P := P) (w := w) (K := K) (mg := mg) (base := base) (qual := "ask_quiet") (cdv := cdv) (A := A) (outer := outer) (s := s) (H := H) (E := E) sc_ask_quiet hr
    exact (sss_cons (ss_setP 1 ok rfl (by first | exact Or.inl rfl | exact Or.inr rfl) (se_call c_loud hr (by decide) rfl (sas_v (se_p (sp_var 0)) sas_nil))) (sss_one (ss_if (set_cmpP op_notN opv_notN (sp_var 1) sp_non rfl) (sss_one ss_never) sss_nil)))
theorem c_is_off {f : Addr} {fd : FuncData} (F : C8.Def K mg "is_off" s_is_off f fd) (bi : Binds K fd ["board", "place"] []) (Z : Fr K mg) {C_Way : Addr} (co_Way : CO K mg "Way" C_Way fs_Way)  : C8.Cal P w K mg base 1 "is_off" (spF K mg 2 F_is_off) [] :=
  cal_sem F bi sc_is_off rfl rfl (by decide) fun cdv A outer s H E hr => by
    have ok := bodyOk (P := P) (w := w) (K := K) (mg := mg) (base := base) (qual := "is_off") (cdv := cdv) (A := A) (outer := outer) (s := s) (H := H) (E := E) sc_is_off hr
    exact (sss_one (ss_ret (se_b1 (cr_any ok.calm) unv_any rfl Z.n_any (by rfl) (se_comp ok (si_val (se_p (sp_ix ix_seq opv_ix (sp_var 0) sp_int))) (blkOk_by (by first | rfl | decide +kernel)) (own := [("load", 2)]) (fun _ _ _ _ _ => (sg_n 2 ok.blk rfl (by first | exact Or.inl rfl | exact Or.inr rfl) wipSet)) (fun _ _ _ _ _ => sets_nil) (fun _ _ _ _ _ => (se_and (se_p (sp_cmp (op_eqD ok.blk.u64) opv_eq (sp_ix ix_seq opv_ix (sp_var 2) sp_int) (sp_var 1) rfl)) (se_one (se_not (se_p (sp_ix ix_seq opv_ix (sp_var 2) sp_int))))))))))
theorem c_Way___init__ {f : Addr} {fd : FuncData} {C_Way : Addr} (co_Way : CO K mg "Way" C_Way fs_Way) (M : Mk K C_Way f) (F : C8.Fun K "__init__" "Way.__init__" s_Way___init__ f fd) (bi : Binds K fd ["self", "board", "place"] []) (Z : Fr K mg) (c_over : C8.Cal P w K mg base 2 "over" (spF K mg 2 F_over) []) (c_rest : C8.Cal P w K mg base 4 "rest" (spF K mg 1 F_rest) []) (c_ask_quiet : C8.Cal P w K mg base 6 "ask_quiet" (spF K mg 1 F_ask_quiet) []) (c_is_off : C8.Cal P w K mg base 1 "is_off" (spF K mg 2 F_is_off) []) : C8.Mak P w K mg base 7 "Way" C_Way (spF K mg 3 F_Way___init__) [] :=
  mak_sem M co_Way.mgc F bi sc_Way___init__ rfl rfl (by decide) fun cdv A outer s H E hr => by
    have ok := bodyOk (P := P) (w := w) (K := K) (mg := mg) (base := base) (qual := "Way.__init__") (cdv := cdv) (A := A) (outer := outer) (s := s) (H := H) (E := E) sc_Way___init__ hr
    exact (sss_cons (ss_setP 3 ok rfl (by first | exact Or.inl rfl | exact Or.inr rfl) (se_call c_over hr (by decide) rfl (sas_v (se_p (sp_var 1)) (sas_v (se_p (sp_var 2)) sas_nil)))) (sss_cons (ss_expr (se_call c_ask_quiet hr (by decide) rfl (sas_v (se_p (sp_var 1)) sas_nil))) (sss_cons (ss_setP 4 ok rfl (by first | exact Or.inl rfl | exact Or.inr rfl) (se_dictP ok rfl Z.n_dict (by rfl) (se_comp ok (si_val (se_p (sp_ix ix_seq opv_ix (sp_var 1) sp_int))) (blkOk_by (by first | rfl | decide +kernel)) (own := [("guard", 7)]) (fun _ _ _ _ _ => (sg_n 7 ok.blk rfl (by first | exact Or.inl rfl | exact Or.inr rfl) wipSet)) (fun _ _ _ _ _ => sets_nil) (fun _ _ _ _ _ => (se_p (sp_tup (sps_cons (sp_ix ix_seq opv_ix (sp_var 7) sp_int) (sps_cons (sp_var 7) sps_nil)))))))) (sss_cons (ss_setP 5 ok rfl (by first | exact Or.inl rfl | exact Or.inr rfl) (se_call c_rest hr (by decide) rfl (sas_v (se_p (sp_var 1)) sas_nil))) (sss_cons (ss_setF 0 co_Way (by decide +kernel) (se_call c_is_off hr (by decide) rfl (sas_v (se_p (sp_var 1)) (sas_v (se_p (sp_var 2)) sas_nil)))) (sss_cons (ss_setF 0 co_Way (by decide +kernel) (se_comp ok (si_val (se_p (sp_var 3))) (blkOk_by (by first | rfl | decide +kernel)) (own := [("name", 6)]) (fun _ _ _ _ _ => (sg_n 6 ok.blk rfl (by first | exact Or.inl rfl | exact Or.inr rfl) wipSet)) (fun _ _ _ _ _ => sets_nil) (fun _ _ _ _ _ => (se_p (sp_ix (ix_F ok.blk) opv_ixF (sp_var 4) (sp_var 6)))))) (sss_one (ss_setF 0 co_Way (by decide +kernel) (se_comp ok (si_val (se_p (sp_var 3))) (blkOk_by (by first | rfl | decide +kernel)) (own := [("name", 6)]) (fun _ _ _ _ _ => (sg_n 6 ok.blk rfl (by first | exact Or.inl rfl | exact Or.inr rfl) wipSet)) (fun _ _ _ _ _ => sets_nil) (fun _ _ _ _ _ => (se_p (sp_ix (ix_F ok.blk) opv_ixF (sp_var 5) (sp_var 6)))))))))))))
theorem c_met {f : Addr} {fd : FuncData} (F : C8.Def K mg "met" s_met f fd) (bi : Binds K fd ["curve", "draw"] []) (Z : Fr K mg) {C_Way : Addr} (co_Way : CO K mg "Way" C_Way fs_Way)  : C8.Cal P w K mg base 1 "met" (spF K mg 2 F_met) [] :=
  cal_sem F bi sc_met rfl rfl (by decide) fun cdv A outer s H E hr => by
    have ok := bodyOk (P := P) (w := w) (K := K) (mg := mg) (base := base) (qual := "met") (cdv := cdv) (A := A) (outer := outer) (s := s) (H := H) (E := E) sc_met hr
    exact (sss_one (ss_ret (se_b1 call_lenF unv_len rfl Z.n_len (by rfl) (se_comp ok (si_val (se_p (sp_var 0))) (blkOk_by (by first | rfl | decide +kernel)) (own := [("step", 2)]) (fun _ _ _ _ _ => (sg_n 2 ok.blk rfl (by first | exact Or.inl rfl | exact Or.inr rfl) wipSet)) (fun _ _ _ _ _ => (sets_one (set_cmpP op_le opv_le (sp_ix ix_seq opv_ix (sp_var 2) sp_int) (sp_var 1) rfl))) (fun _ _ _ _ _ => (se_p (sp_var 2)))))))
theorem c_turns_at {f : Addr} {fd : FuncData} (F : C8.Def K mg "turns_at" s_turns_at f fd) (bi : Binds K fd ["curve", "draw"] []) (Z : Fr K mg) {C_Way : Addr} (co_Way : CO K mg "Way" C_Way fs_Way) (c_met : C8.Cal P w K mg base 1 "met" (spF K mg 2 F_met) []) : C8.Cal P w K mg base 2 "turns_at" (spF K mg 2 F_turns_at) [] :=
  cal_sem F bi sc_turns_at rfl rfl (by decide) fun cdv A outer s H E hr => by
    have ok := bodyOk (P := P) (w := w) (K := K) (mg := mg) (base := base) (qual := "turns_at") (cdv := cdv) (A := A) (outer := outer) (s := s) (H := H) (E := E) sc_turns_at hr
    exact (sss_cons (ss_setP 2 ok rfl (by first | exact Or.inl rfl | exact Or.inr rfl) (se_call c_met hr (by decide) rfl (sas_v (se_p (sp_var 0)) (sas_v (se_p (sp_var 1)) sas_nil)))) (sss_cons (ss_if (set_cmpP (op_eqD ok.u64) opv_eq (sp_var 2) sp_int rfl) (sss_one (ss_ret (se_p sp_non))) sss_nil) (sss_one (ss_ret (se_p (sp_ix ix_seq opv_ix (sp_ix ix_seq opv_ix (sp_var 0) (sp_bin op_sub opv_sub (sp_var 2) sp_int)) sp_int))))))
theorem c_Way_turns {f : Addr} {fd : FuncData} {C_Way : Addr} (co_Way : CO K mg "Way" C_Way fs_Way) (me : Meth K C_Way "turns" f) (F : C8.Fun K "turns" "Way.turns" s_Way_turns f fd) (bi : Binds K fd ["self", "at", "greatness"] []) (Z : Fr K mg) (c_turns_at : C8.Cal P w K mg base 2 "turns_at" (spF K mg 2 F_turns_at) []) : C8.Met P w K mg base 3 C_Way "turns" (spF K mg 3 F_Way_turns) [] :=
  met_sem co_Way.cl me F bi sc_Way_turns rfl rfl (by decide) fun cdv A outer s H E hr => by
    have ok := bodyOk (P := P) (w := w) (K := K) (mg := mg) (base := base) (qual := "Way.turns") (cdv := cdv) (A := A) (outer := outer) (s := s) (H := H) (E := E) sc_Way_turns hr
    exact (sss_one (ss_ret (se_call c_turns_at hr (by decide) rfl (sas_v (se_p (sp_ix ix_seq opv_ix (sp_ix ix_seq opv_ix (sp_fldV co_Way (by decide +kernel) (sp_var 0)) (sp_var 1)) sp_int)) (sas_v (se_p (sp_bin op_addF opv_add (sp_ix ix_seq opv_ix (sp_fldV co_Way (by decide +kernel) (sp_var 0)) (sp_var 1)) (sp_var 2))) sas_nil)))))
theorem c_Way_is_held {f : Addr} {fd : FuncData} {C_Way : Addr} (co_Way : CO K mg "Way" C_Way fs_Way) (me : Meth K C_Way "is_held" f) (F : C8.Fun K "is_held" "Way.is_held" s_Way_is_held f fd) (bi : Binds K fd ["self", "at", "greatness"] []) (Z : Fr K mg) (c_Way_turns : C8.Met P w K mg base 3 C_Way "turns" (spF K mg 3 F_Way_turns) []) : C8.Met P w K mg base 4 C_Way "is_held" (spF K mg 3 F_Way_is_held) [] :=
  met_sem co_Way.cl me F bi sc_Way_is_held rfl rfl (by decide) fun cdv A outer s H E hr => by
    have ok := bodyOk (P := P) (w := w) (K := K) (mg := mg) (base := base) (qual := "Way.is_held") (cdv := cdv) (A := A) (outer := outer) (s := s) (H := H) (E := E) sc_Way_is_held hr
    exact (sss_one (ss_ret (se_and (se_p (sp_cmp op_gt opv_gt (sp_var 1) sp_int rfl)) (se_one (se_cmp op_notN opv_notN (se_methV co_Way c_Way_turns hr (by decide) (se_p (sp_var 0)) (sas_v (se_p (sp_bin op_sub opv_sub (sp_var 1) sp_int)) (sas_v (se_p (sp_var 2)) sas_nil))) (se_p sp_non) rfl)))))
theorem c_Way_opening {f : Addr} {fd : FuncData} {C_Way : Addr} (co_Way : CO K mg "Way" C_Way fs_Way) (me : Meth K C_Way "opening" f) (F : C8.Fun K "opening" "Way.opening" s_Way_opening f fd) (bi : Binds K fd ["self", "greatness", "stuck"] []) (Z : Fr K mg) (c_Way_turns : C8.Met P w K mg base 3 C_Way "turns" (spF K mg 3 F_Way_turns) []) (c_Way_is_held : C8.Met P w K mg base 4 C_Way "is_held" (spF K mg 3 F_Way_is_held) []) : C8.Met P w K mg base 5 C_Way "opening" (spF K mg 3 F_Way_opening) [] :=
  met_sem co_Way.cl me F bi sc_Way_opening rfl rfl (by decide) fun cdv A outer s H E hr => by
    have ok := bodyOk (P := P) (w := w) (K := K) (mg := mg) (base := base) (qual := "Way.opening") (cdv := cdv) (A := A) (outer := outer) (s := s) (H := H) (E := E) sc_Way_opening hr
    exact (sss_cons (ss_setP 3 ok rfl (by first | exact Or.inl rfl | exact Or.inr rfl) (se_p sp_non)) (sss_cons (ss_setP 4 ok rfl (by first | exact Or.inl rfl | exact Or.inr rfl) (se_lst ses_nil)) (sss_cons (ss_for ok .never (si_enum rfl Z.n_enumerate (se_p (sp_fldV co_Way (by decide +kernel) (sp_var 0)))) (sg_tup ok (sgs_cons (fixOk _) (sg_n 5 ok rfl (by first | exact Or.inl rfl | exact Or.inr rfl) fixSet) (sgs_cons (fixOk _) (sg_n 6 ok rfl (by first | exact Or.inl rfl | exact Or.inr rfl) fixSet) (sgs_nil (fixOk _)))) (hl := (aCons_len (aCons_len aNil_len)))) (sss_cons (ss_setP 7 ok rfl (by first | exact Or.inl rfl | exact Or.inr rfl) (se_methV co_Way c_Way_turns hr (by decide) (se_p (sp_var 0)) (sas_v (se_p (sp_var 5)) (sas_v (se_p (sp_var 1)) sas_nil)))) (sss_cons (ss_if (sew_t (sew_or (set_cmpP op_isN opv_isN (sp_var 7) sp_non rfl) (sew_or (set_cmpP (op_inF ok) opv_in (sp_ix ix_seq opv_ix (sp_var 6) sp_int) (sp_var 2) rfl) (sew_or (set_cmpP (op_eqD ok.u64) opv_eq (sp_var 1) sp_int rfl) (sew_or1 (set_val (se_p (sp_fldV co_Way (by decide +kernel) (sp_var 0))))))))) (sss_one ss_cont) sss_nil) (sss_cons (ss_setP 8 ok rfl (by first | exact Or.inl rfl | exact Or.inr rfl) (se_p (sp_bin op_sub opv_sub (sp_bin op_addF opv_add (sp_var 7) (sp_ix ix_seq opv_ix (sp_var 6) sp_int)) sp_int))) (sss_cons (ss_if (set_val (se_methV co_Way c_Way_is_held hr (by decide) (se_p (sp_var 0)) (sas_v (se_p (sp_var 5)) (sas_v (se_p (sp_var 1)) sas_nil)))) (sss_one (ss_setP 8 ok rfl (by first | exact Or.inl rfl | exact Or.inr rfl) (se_p (sp_bin op_addF opv_add (sp_var 8) (sp_ix ix_seq opv_ix (sp_var 6) sp_int))))) sss_nil) (sss_cons (ss_if (sew_t (sew_or (set_cmpP op_isN opv_isN (sp_var 3) sp_non rfl) (sew_or1 (set_cmpP op_lt opv_lt (sp_var 8) (sp_var 3) rfl)))) (sss_cons (ss_setP 3 ok rfl (by first | exact Or.inl rfl | exact Or.inr rfl) (se_p (sp_var 8))) (sss_one (ss_setP 4 ok rfl (by first | exact Or.inl rfl | exact Or.inr rfl) (se_lst ses_nil)))) sss_nil) (sss_one (ss_if (set_cmpP (op_eqD ok.u64) opv_eq (sp_var 8) (sp_var 3) rfl) (sss_one (ss_setP 4 ok rfl (by first | exact Or.inl rfl | exact Or.inr rfl) (se_p (sp_bin op_addF opv_add (sp_lst (sps_cons (sp_ix ix_seq opv_ix (sp_var 6) sp_int) sps_nil)) (sp_var 4))))) sss_nil)))))))) (sss_cons (ss_if (set_cmpP op_isN opv_isN (sp_var 3) sp_non rfl) (sss_one (ss_ret (se_p sp_non))) sss_nil) (sss_one (ss_ret (se_p (sp_tup (sps_cons (sp_var 3) (sps_cons (sp_t1 call_tuple_of unv_tup rfl Z.n_tuple (by rfl) (sp_var 4)) sps_nil))))))))))
theorem c_stuck_list {f : Addr} {fd : FuncData} (F : C8.Def K mg "stuck_list" s_stuck_list f fd) (bi : Binds K fd ["stuck"] []) (Z : Fr K mg) {C_Way : Addr} (co_Way : CO K mg "Way" C_Way fs_Way)  : C8.Cal P w K mg base 1 "stuck_list" (spF K mg 1 F_stuck_list) [] :=
  cal_sem F bi sc_stuck_list rfl rfl (by decide) fun cdv A outer s H E hr => by
    have ok := bodyOk (P := P) (w := w) (K := K) (mg := mg) (base := base) (qual := "stuck_list") (cdv := cdv) (A := A) (outer := outer) (s := s) (H := H) (E := E) sc_stuck_list hr
    exact (sss_cons (ss_if (set_cmpP op_isN opv_isN (sp_var 0) sp_non rfl) (sss_one (ss_ret (se_lst ses_nil))) sss_nil) (sss_one (ss_ret (se_tw call_list_of unw_list rfl Z.n_list (by rfl) (sp_var 0)))))
theorem c_opening_of_N {f : Addr} {fd : FuncData} {ds : List Value} (F : C8.Def K mg "opening_of" s_opening_of f fd) (bi : Binds K fd ["board", "place", "greatness", "stuck"] ds) (hd : Vals [V.non] ds) (Z : Fr K mg) {C_Way : Addr} (co_Way : CO K mg "Way" C_Way fs_Way) (c_Way___init__ : C8.Mak P w K mg base 7 "Way" C_Way (spF K mg 3 F_Way___init__) []) (c_Way_opening : C8.Met P w K mg base 5 C_Way "opening" (spF K mg 3 F_Way_opening) []) (c_stuck_list : C8.Cal P w K mg base 1 "stuck_list" (spF K mg 1 F_stuck_list) []) : C8.Cal P w K mg base 9 "opening_of" (spF K mg 4 F_opening_of) [.non] :=
  cal_semN F bi hd sc_opening_of rfl rfl (by decide) fun cdv A outer s H E hr => by
    have ok := bodyOk (P := P) (w := w) (K := K) (mg := mg) (base := base) (qual := "opening_of") (cdv := cdv) (A := A) (outer := outer) (s := s) (H := H) (E := E) sc_opening_of hr
    exact (sss_one (ss_ret (se_methV co_Way c_Way_opening hr (by decide) (se_make co_Way c_Way___init__ hr (by decide) rfl (sas_v (se_p (sp_var 0)) (sas_v (se_p (sp_var 1)) sas_nil))) (sas_v (se_p (sp_var 2)) (sas_v (se_fz (se_call c_stuck_list hr (by decide) rfl (sas_v (se_p (sp_var 3)) sas_nil))) sas_nil)))))
theorem c_with_delays {f : Addr} {fd : FuncData} (F : C8.Def K mg "with_delays" s_with_delays f fd) (bi : Binds K fd ["board", "delays"] []) (Z : Fr K mg) {C_Way : Addr} (co_Way : CO K mg "Way" C_Way fs_Way)  : C8.Cal P w K mg base 1 "with_delays" (spF K mg 2 F_with_delays) [] :=
  cal_sem F bi sc_with_delays rfl rfl (by decide) fun cdv A outer s H E hr => by
    have ok := bodyOk (P := P) (w := w) (K := K) (mg := mg) (base := base) (qual := "with_delays") (cdv := cdv) (A := A) (outer := outer) (s := s) (H := H) (E := E) sc_with_delays hr
    exact (sss_cons (ss_setLcP 2 ok rfl rfl (sw_true rfl rfl rfl rfl) (si_val (se_p (sp_ix ix_seq opv_ix (sp_var 0) sp_int))) (blkOk_by (by first | rfl | decide +kernel)) (own := [("name", 3), ("under", 4), ("curve", 5), ("delay", 6), ("wait", 7)]) (fun _ _ _ _ _ => (sg_tup ok.blk (sgs_cons (wipOk _) (sg_n 3 ok.blk rfl (by first | exact Or.inl rfl | exact Or.inr rfl) wipSet) (sgs_cons (wipOk _) (sg_n 4 ok.blk rfl (by first | exact Or.inl rfl | exact Or.inr rfl) wipSet) (sgs_cons (wipOk _) (sg_n 5 ok.blk rfl (by first | exact Or.inl rfl | exact Or.inr rfl) wipSet) (sgs_cons (wipOk _) (sg_n 6 ok.blk rfl (by first | exact Or.inl rfl | exact Or.inr rfl) wipSet) (sgs_cons (wipOk _) (sg_n 7 ok.blk rfl (by first | exact Or.inl rfl | exact Or.inr rfl) wipSet) (sgs_nil (wipOk _))))))) (hl := (aCons_len (aCons_len (aCons_len (aCons_len (aCons_len aNil_len)))))))) (fun _ _ _ _ _ => sets_nil) (fun _ _ _ _ _ => (se_p (sp_tup (sps_cons (sp_var 3) (sps_cons (sp_var 4) (sps_cons (sp_var 5) (sps_cons (sp_ix (ix_F ok.blk) opv_ixF (sp_var 1) (sp_var 3)) (sps_cons (sp_var 7) sps_nil))))))))) (sss_one (ss_ret (se_p (sp_tup (sps_cons (sp_t1 call_tuple_of unv_tup rfl Z.n_tuple (by rfl) (sp_var 2)) (sps_cons (sp_ix ix_seq opv_ix (sp_var 0) sp_int) sps_nil)))))))
theorem c__law_cell_at {f : Addr} {fd : FuncData} (F : C8.Def K mg "_law_cell_at" s__law_cell_at f fd) (bi : Binds K fd ["_law_script", "_law_k"] []) (Z : Fr K mg) {C_Way : Addr} (co_Way : CO K mg "Way" C_Way fs_Way)  : C8.Cal P w K mg base 1 "_law_cell_at" (spF K mg 2 F__law_cell_at) [] :=
  cal_sem F bi sc__law_cell_at rfl rfl (by decide) fun cdv A outer s H E hr => by
    have ok := bodyOk (P := P) (w := w) (K := K) (mg := mg) (base := base) (qual := "_law_cell_at") (cdv := cdv) (A := A) (outer := outer) (s := s) (H := H) (E := E) sc__law_cell_at hr
    exact (sss_cons (ss_if (set_cmpP op_lt opv_lt (sp_var 1) (sp_b1 call_lenF unv_len rfl Z.n_len (by rfl) (sp_var 0)) rfl) (sss_one (ss_ret (se_p (sp_ix ix_seq opv_ix (sp_var 0) (sp_var 1))))) sss_nil) (sss_one (ss_ret (se_p sp_int))))
theorem c__law_feed {f : Addr} {fd : FuncData} (F : C8.Def K mg "_law_feed" s__law_feed f fd) (bi : Binds K fd ["_law_script", "_law_k"] []) (Z : Fr K mg) {C_Way : Addr} (co_Way : CO K mg "Way" C_Way fs_Way) (c__law_cell_at : C8.Cal P w K mg base 1 "_law_cell_at" (spF K mg 2 F__law_cell_at) []) : C8.Cal P w K mg base 2 "_law_feed" (spF K mg 2 F__law_feed) [] :=
  cal_sem F bi sc__law_feed rfl rfl (by decide) fun cdv A outer s H E hr => by
    have ok := bodyOk (P := P) (w := w) (K := K) (mg := mg) (base := base) (qual := "_law_feed") (cdv := cdv) (A := A) (outer := outer) (s := s) (H := H) (E := E) sc__law_feed hr
    exact (sss_cons (ss_setP 2 ok rfl (by first | exact Or.inl rfl | exact Or.inr rfl) (se_call c__law_cell_at hr (by decide) rfl (sas_v (se_p (sp_var 0)) (sas_v (se_p (sp_var 1)) sas_nil)))) (sss_one (ss_ret (se_lst (ses_cons (se_p (sp_var 2)) (ses_cons (se_p (sp_var 2)) (ses_cons (se_p (sp_bin op_mulF opv_mul sp_int (sp_var 1))) ses_nil)))))))
theorem c__law_take {f : Addr} {fd : FuncData} (F : C8.Def K mg "_law_take" s__law_take f fd) (bi : Binds K fd ["_law_feed_here", "_law_many"] []) (Z : Fr K mg) {C_Way : Addr} (co_Way : CO K mg "Way" C_Way fs_Way)  : C8.Cal P w K mg base 1 "_law_take" (spF K mg 2 F__law_take) [] :=
  cal_sem F bi sc__law_take rfl rfl (by decide) fun cdv A outer s H E hr => by
    have ok := bodyOk (P := P) (w := w) (K := K) (mg := mg) (base := base) (qual := "_law_take") (cdv := cdv) (A := A) (outer := outer) (s := s) (H := H) (E := E) sc__law_take hr
    exact (sss_cons (ss_setIt 0 ok (se_p sp_int) (se_p (sp_bin op_addF opv_add (sp_ix ix_seq opv_ix (sp_var 0) sp_int) sp_int))) (sss_cons (ss_if (sew_t (sew_and (set_cmpP op_ge opv_ge (sp_ix ix_seq opv_ix (sp_var 0) sp_int) (sp_bin op_pow opv_pow sp_int sp_int) rfl) (sew_and1 (set_cmpP op_gt opv_gt (sp_ix ix_seq opv_ix (sp_var 0) sp_int) sp_int rfl)))) (sss_cons (ss_setP 3 ok rfl (by first | exact Or.inl rfl | exact Or.inr rfl) (se_p (sp_bin op_mod opv_mod (sp_ix ix_seq opv_ix (sp_var 0) sp_int) (sp_var 1)))) (sss_cons (ss_setIt 0 ok (se_p sp_int) (se_p (sp_bin op_fdivW opv_fdiv (sp_ix ix_seq opv_ix (sp_var 0) sp_int) (sp_var 1)))) (sss_one (ss_ret (se_p (sp_var 3)))))) sss_nil) (sss_cons (ss_setP 2 ok rfl (by first | exact Or.inl rfl | exact Or.inr rfl) (se_p (sp_bin op_addF opv_add (sp_bin op_mulF opv_mul (sp_bin op_mod opv_mod (sp_ix ix_seq opv_ix (sp_var 0) sp_int) sp_int) sp_int) (sp_bin op_mulF opv_mul sp_int (sp_ix ix_seq opv_ix (sp_var 0) sp_int))))) (sss_cons (ss_setP 2 ok rfl (by first | exact Or.inl rfl | exact Or.inr rfl) (se_p (sp_bin op_mod opv_mod (sp_bin op_addF opv_add (sp_bin op_addF opv_add (sp_var 2) (sp_bin op_mulF opv_mul (sp_bin op_mulF opv_mul (sp_ix ix_seq opv_ix (sp_var 0) sp_int) (sp_ix ix_seq opv_ix (sp_var 0) sp_int)) sp_int)) sp_int) sp_int))) (sss_one (ss_ret (se_p (sp_bin op_mod opv_mod (sp_bin op_fdivW opv_fdiv (sp_bin op_mod opv_mod (sp_bin op_mulF opv_mul (sp_var 2) (sp_bin op_addF opv_add (sp_bin op_mod opv_mod (sp_var 2) sp_int) sp_int)) sp_int) sp_int) (sp_var 1)))))))))
theorem c__law_overs {f : Addr} {fd : FuncData} (F : C8.Def K mg "_law_overs" s__law_overs f fd) (bi : Binds K fd ["_law_board"] []) (Z : Fr K mg) {C_Way : Addr} (co_Way : CO K mg "Way" C_Way fs_Way)  : C8.Cal P w K mg base 1 "_law_overs" (spF K mg 1 F__law_overs) [] :=
  cal_sem F bi sc__law_overs rfl rfl (by decide) fun cdv A outer s H E hr => by
    have ok := bodyOk (P := P) (w := w) (K := K) (mg := mg) (base := base) (qual := "_law_overs") (cdv := cdv) (A := A) (outer := outer) (s := s) (H := H) (E := E) sc__law_overs hr
    exact (sss_cons (ss_setO 1 ok rfl (by first | exact Or.inl rfl | exact Or.inr rfl) se_dict0) (sss_cons (ss_for ok .never (si_val (se_p (sp_ix ix_seq opv_ix (sp_var 0) sp_int))) (sg_n 2 ok rfl (by first | exact Or.inl rfl | exact Or.inr rfl) fixSet) (sss_one (ss_setIt 1 ok (se_p (sp_ix ix_seq opv_ix (sp_var 2) sp_int)) (se_p (sp_bin op_addF opv_add (sp_lst (sps_cons (sp_ix ix_seq opv_ix (sp_var 2) sp_int) sps_nil)) (sp_get ok (sp_var 1) (sp_ix ix_seq opv_ix (sp_var 2) sp_int) (sp_lst sps_nil))))))) (sss_cons (ss_for ok .never (si_val (se_p (sp_ix ix_seq opv_ix (sp_var 0) sp_int))) (sg_n 3 ok rfl (by first | exact Or.inl rfl | exact Or.inr rfl) fixSet) (sss_one (ss_setIt 1 ok (se_p (sp_ix ix_seq opv_ix (sp_var 3) sp_int)) (se_p (sp_ix (ix_F ok) opv_ixF (sp_var 1) (sp_ix ix_seq opv_ix (sp_var 3) sp_int)))))) (sss_one (ss_ret (se_move 1))))))
theorem c__law_rest {f : Addr} {fd : FuncData} (F : C8.Def K mg "_law_rest" s__law_rest f fd) (bi : Binds K fd ["_law_board"] []) (Z : Fr K mg) {C_Way : Addr} (co_Way : CO K mg "Way" C_Way fs_Way) (c__law_overs : C8.Cal P w K mg base 1 "_law_overs" (spF K mg 1 F__law_overs) []) : C8.Cal P w K mg base 2 "_law_rest" (spF K mg 1 F__law_rest) [] :=
  cal_sem F bi sc__law_rest rfl rfl (by decide) fun cdv A outer s H E hr => by
    have ok := bodyOk (P := P) (w := w) (K := K) (mg := mg) (base := base) (qual := "_law_rest") (cdv := cdv) (A := A) (outer := outer) (s := s) (H := H) (E := E) sc__law_rest hr
    exact (sss_cons (ss_setP 1 ok rfl (by first | exact Or.inl rfl | exact Or.inr rfl) (se_call c__law_overs hr (by decide) rfl (sas_v (se_p (sp_var 0)) sas_nil))) (sss_cons (ss_setO 2 ok rfl (by first | exact Or.inl rfl | exact Or.inr rfl) (se_dictPO ok rfl Z.n_dict (by rfl) (se_comp ok (si_val (se_p (sp_ix ix_seq opv_ix (sp_var 0) sp_int))) (blkOk_by (by first | rfl | decide +kernel)) (own := [("_law_guard", 5)]) (fun _ _ _ _ _ => (sg_n 5 ok.blk rfl (by first | exact Or.inl rfl | exact Or.inr rfl) wipSet)) (fun _ _ _ _ _ => sets_nil) (fun _ _ _ _ _ => (se_p (sp_tup (sps_cons (sp_ix ix_seq opv_ix (sp_var 5) sp_int) (sps_cons sp_int sps_nil)))))))) (sss_cons (ss_for ok .never (si_val (se_p (sp_ix ix_seq opv_ix (sp_var 0) sp_int))) (sg_n 3 ok rfl (by first | exact Or.inl rfl | exact Or.inr rfl) fixSet) (sss_one (ss_for ok .never (si_val (se_p (sp_ix (ix_F ok) opv_ixF (sp_var 1) (sp_ix ix_seq opv_ix (sp_var 3) sp_int)))) (sg_n 4 ok rfl (by first | exact Or.inl rfl | exact Or.inr rfl) fixSet) (sss_one (ss_setIt 2 ok (se_p (sp_var 4)) (se_p (sp_bin op_addF opv_add (sp_ix (ix_F ok) opv_ixF (sp_var 2) (sp_var 4)) (sp_bin op_mulF opv_mul (sp_ix ix_seq opv_ix (sp_var 3) sp_int) (sp_t1 call_int1 unv_int rfl Z.n_int (by rfl) (sp_ix ix_seq opv_ix (sp_var 3) sp_int)))))))))) (sss_one (ss_ret (se_move 2))))))
theorem c__law_path {f : Addr} {fd : FuncData} (F : C8.Def K mg "_law_path" s__law_path f fd) (bi : Binds K fd ["_law_board", "_law_place"] []) (Z : Fr K mg) {C_Way : Addr} (co_Way : CO K mg "Way" C_Way fs_Way) (c__law_overs : C8.Cal P w K mg base 1 "_law_overs" (spF K mg 1 F__law_overs) []) (c__law_rest : C8.Cal P w K mg base 2 "_law_rest" (spF K mg 1 F__law_rest) []) : C8.Cal P w K mg base 3 "_law_path" (spF K mg 2 F__law_path) [] :=
  cal_sem F bi sc__law_path rfl rfl (by decide) fun cdv A outer s H E hr => by
    have ok := bodyOk (P := P) (w := w) (K := K) (mg := mg) (base := base) (qual := "_law_path") (cdv := cdv) (A := A) (outer := outer) (s := s) (H := H) (E := E) sc__law_path hr
    exact (sss_cons (ss_setP 2 ok rfl (by first | exact Or.inl rfl | exact Or.inr rfl) (se_dictP ok rfl Z.n_dict (by rfl) (se_comp ok (si_val (se_p (sp_ix ix_seq opv_ix (sp_var 0) sp_int))) (blkOk_by (by first | rfl | decide +kernel)) (own := [("_law_guard", 6)]) (fun _ _ _ _ _ => (sg_n 6 ok.blk rfl (by first | exact Or.inl rfl | exact Or.inr rfl) wipSet)) (fun _ _ _ _ _ => sets_nil) (fun _ _ _ _ _ => (se_p (sp_tup (sps_cons (sp_ix ix_seq opv_ix (sp_var 6) sp_int) (sps_cons (sp_var 6) sps_nil)))))))) (sss_cons (ss_setP 3 ok rfl (by first | exact Or.inl rfl | exact Or.inr rfl) (se_call c__law_rest hr (by decide) rfl (sas_v (se_p (sp_var 0)) sas_nil))) (sss_cons (ss_for ok .never (si_val (se_p (sp_ix ix_seq opv_ix (sp_var 0) sp_int))) (sg_n 4 ok rfl (by first | exact Or.inl rfl | exact Or.inr rfl) fixSet) (sss_one (ss_if (sew_t (sew_and (set_cmpP (op_eqD ok.u64) opv_eq (sp_ix ix_seq opv_ix (sp_var 4) sp_int) (sp_var 1) rfl) (sew_and1 (set_not (set_val (se_p (sp_ix ix_seq opv_ix (sp_var 4) sp_int))))))) (sss_one (ss_ret (se_lst ses_nil))) sss_nil))) (sss_one (ss_ret (se_comp ok (si_val (se_ix (ix_F ok) opv_ixF (se_call c__law_overs hr (by decide) rfl (sas_v (se_p (sp_var 0)) sas_nil)) (se_p (sp_var 1)))) (blkOk_by (by first | rfl | decide +kernel)) (own := [("_law_name", 5)]) (fun _ _ _ _ _ => (sg_n 5 ok.blk rfl (by first | exact Or.inl rfl | exact Or.inr rfl) wipSet)) (fun _ _ _ _ _ => sets_nil) (fun _ _ _ _ _ => (se_p (sp_tup (sps_cons (sp_ix (ix_F ok.blk) opv_ixF (sp_var 2) (sp_var 5)) (sps_cons (sp_ix (ix_F ok.blk) opv_ixF (sp_var 3) (sp_var 5)) sps_nil)))))))))))
theorem c__law_opening {f : Addr} {fd : FuncData} (F : C8.Def K mg "_law_opening" s__law_opening f fd) (bi : Binds K fd ["_law_path_here", "_law_greatness", "_law_stuck"] []) (Z : Fr K mg) {C_Way : Addr} (co_Way : CO K mg "Way" C_Way fs_Way)  : C8.Cal P w K mg base 1 "_law_opening" (spF K mg 3 F__law_opening) [] :=
  cal_sem F bi sc__law_opening rfl rfl (by decide) fun cdv A outer s H E hr => by
    have ok := bodyOk (P := P) (w := w) (K := K) (mg := mg) (base := base) (qual := "_law_opening") (cdv := cdv) (A := A) (outer := outer) (s := s) (H := H) (E := E) sc__law_opening hr
    exact (sss_cons (ss_setO 3 ok rfl (by first | exact Or.inl rfl | exact Or.inr rfl) se_dict0) (sss_cons (ss_setP 4 ok rfl (by first | exact Or.inl rfl | exact Or.inr rfl) (se_p sp_bl)) (sss_cons (ss_for ok .never (si_val (se_p (sp_var 0))) (sg_tup ok (sgs_cons (fixOk _) (sg_n 6 ok rfl (by first | exact Or.inl rfl | exact Or.inr rfl) fixSet) (sgs_cons (fixOk _) (sg_n 7 ok rfl (by first | exact Or.inl rfl | exact Or.inr rfl) fixSet) (sgs_nil (fixOk _)))) (hl := (aCons_len (aCons_len aNil_len)))) (sss_cons (ss_setLcP 8 ok rfl rfl (sw_true rfl rfl rfl rfl) (si_val (se_p (sp_ix ix_seq opv_ix (sp_var 6) sp_int))) (blkOk_by (by first | rfl | decide +kernel)) (own := [("_law_step", 9)]) (fun _ _ _ _ _ => (sg_n 9 ok.blk rfl (by first | exact Or.inl rfl | exact Or.inr rfl) wipSet)) (fun _ _ _ _ _ => (sets_one (set_cmpP op_le opv_le (sp_ix ix_seq opv_ix (sp_var 9) sp_int) (sp_bin op_addF opv_add (sp_var 7) (sp_var 1)) rfl))) (fun _ _ _ _ _ => (se_p (sp_ix ix_seq opv_ix (sp_var 9) sp_int)))) (sss_cons (ss_if (sew_t (sew_and (set_cmpP op_gt opv_gt (sp_b1 call_lenF unv_len rfl Z.n_len (by rfl) (sp_var 8)) sp_int rfl) (sew_and (set_cmpP op_gt opv_gt (sp_var 1) sp_int rfl) (sew_and1 (set_cmpP (op_ninF ok) opv_nin (sp_ix ix_seq opv_ix (sp_var 6) sp_int) (sp_var 2) rfl))))) (sss_one (ss_setIt 3 ok (se_p (sp_ix ix_seq opv_ix (sp_var 6) sp_int)) (se_p (sp_bin op_sub opv_sub (sp_bin op_addF opv_add (sp_bin op_addF opv_add (sp_ix ix_seq opv_ix (sp_var 8) (sp_un un_neg unv_neg sp_int)) (sp_ix ix_seq opv_ix (sp_var 6) sp_int)) (sp_bin op_mulF opv_mul (sp_ix ix_seq opv_ix (sp_var 6) sp_int) (sp_t1 call_int1 unv_int rfl Z.n_int (by rfl) (sp_var 4)))) sp_int)))) sss_nil) (sss_one (ss_setP 4 ok rfl (by first | exact Or.inl rfl | exact Or.inr rfl) (se_p (sp_cmp op_gt opv_gt (sp_b1 call_lenF unv_len rfl Z.n_len (by rfl) (sp_var 8)) sp_int rfl))))))) (sss_cons (ss_if (set_cmpP (op_eqD ok.u64) opv_eq (sp_b1 call_lenK unv_lenK rfl Z.n_len (by rfl) (sp_var 3)) sp_int rfl) (sss_one (ss_ret (se_p sp_non))) sss_nil) (sss_cons (ss_setP 5 ok rfl (by first | exact Or.inl rfl | exact Or.inr rfl) (se_b1 (cr_min ok.calm) unv_min rfl Z.n_min (by rfl) (se_compK 3 ok  (blkOk_by (by first | rfl | decide +kernel)) (own := [("_law_name", 10)]) (fun _ _ _ _ _ => (sg_n 10 ok.blk rfl (by first | exact Or.inl rfl | exact Or.inr rfl) wipSet)) (fun _ _ _ _ _ => sets_nil) (fun _ _ _ _ _ => (se_p (sp_ix (ix_F ok.blk) opv_ixF (sp_var 3) (sp_var 10))))))) (sss_one (ss_ret (se_tup (ses_cons (se_p (sp_var 5)) (ses_cons (se_t1 call_tuple_of unv_tup rfl Z.n_tuple (by rfl) (se_comp ok (si_val (se_p (sp_revA (sp_t1 (call_listD ok.calm) unv_listK rfl Z.n_list (by rfl) (sp_var 3))))) (blkOk_by (by first | rfl | decide +kernel)) (own := [("_law_name", 10)]) (fun _ _ _ _ _ => (sg_n 10 ok.blk rfl (by first | exact Or.inl rfl | exact Or.inr rfl) wipSet)) (fun _ _ _ _ _ => (sets_one (set_cmpP (op_eqD ok.blk.u64) opv_eq (sp_ix (ix_F ok.blk) opv_ixF (sp_var 3) (sp_var 10)) (sp_var 5) rfl))) (fun _ _ _ _ _ => (se_p (sp_var 10))))) ses_nil))))))))))
theorem c__law_loud {f : Addr} {fd : FuncData} (F : C8.Def K mg "_law_loud" s__law_loud f fd) (bi : Binds K fd ["_law_board"] []) (Z : Fr K mg) {C_Way : Addr} (co_Way : CO K mg "Way" C_Way fs_Way) (c__law_rest : C8.Cal P w K mg base 2 "_law_rest" (spF K mg 1 F__law_rest) []) : C8.Cal P w K mg base 3 "_law_loud" (spF K mg 1 F__law_loud) [] :=
  cal_sem F bi sc__law_loud rfl rfl (by decide) fun cdv A outer s H E hr => by
    have ok := bodyOk (P := P) (w := w) (K := K) (mg := mg) (base := base) (qual := "_law_loud") (cdv := cdv) (A := A) (outer := outer) (s := s) (H := H) (E := E) sc__law_loud hr
    exact (sss_cons (ss_setP 1 ok rfl (by first | exact Or.inl rfl | exact Or.inr rfl) (se_call c__law_rest hr (by decide) rfl (sas_v (se_p (sp_var 0)) sas_nil))) (sss_cons (ss_for ok .never (si_val (se_p (sp_ix ix_seq opv_ix (sp_var 0) sp_int))) (sg_n 2 ok rfl (by first | exact Or.inl rfl | exact Or.inr rfl) fixSet) (sss_one (ss_if (set_cmpP op_ge opv_ge (sp_ix (ix_F ok) opv_ixF (sp_var 1) (sp_ix ix_seq opv_ix (sp_var 2) sp_int)) (sp_ix ix_seq opv_ix (sp_ix ix_seq opv_ix (sp_ix ix_seq opv_ix (sp_var 2) sp_int) sp_int) sp_int) rfl) (sss_one (ss_ret (se_p (sp_ix ix_seq opv_ix (sp_var 2) sp_int)))) sss_nil))) (sss_one (ss_ret (se_p sp_non)))))
theorem c__law_places {f : Addr} {fd : FuncData} (F : C8.Def K mg "_law_places" s__law_places f fd) (bi : Binds K fd ["_law_board"] []) (Z : Fr K mg) {C_Way : Addr} (co_Way : CO K mg "Way" C_Way fs_Way)  : C8.Cal P w K mg base 1 "_law_places" (spF K mg 1 F__law_places) [] :=
  cal_sem F bi sc__law_places rfl rfl (by decide) fun cdv A outer s H E hr => by
    have ok := bodyOk (P := P) (w := w) (K := K) (mg := mg) (base := base) (qual := "_law_places") (cdv := cdv) (A := A) (outer := outer) (s := s) (H := H) (E := E) sc__law_places hr
    exact (sss_one (ss_ret (se_bin op_addF opv_add (se_comp ok (si_val (se_p (sp_ix ix_seq opv_ix (sp_var 0) sp_int))) (blkOk_by (by first | rfl | decide +kernel)) (own := [("_law_guard", 1)]) (fun _ _ _ _ _ => (sg_n 1 ok.blk rfl (by first | exact Or.inl rfl | exact Or.inr rfl) wipSet)) (fun _ _ _ _ _ => sets_nil) (fun _ _ _ _ _ => (se_p (sp_ix ix_seq opv_ix (sp_var 1) sp_int)))) (se_comp ok (si_val (se_p (sp_ix ix_seq opv_ix (sp_var 0) sp_int))) (blkOk_by (by first | rfl | decide +kernel)) (own := [("_law_load", 2)]) (fun _ _ _ _ _ => (sg_n 2 ok.blk rfl (by first | exact Or.inl rfl | exact Or.inr rfl) wipSet)) (fun _ _ _ _ _ => sets_nil) (fun _ _ _ _ _ => (se_p (sp_ix ix_seq opv_ix (sp_var 2) sp_int)))))))
theorem c__law_names {f : Addr} {fd : FuncData} (F : C8.Def K mg "_law_names" s__law_names f fd) (bi : Binds K fd ["_law_feed_here", "_law_many"] []) (Z : Fr K mg) {C_Way : Addr} (co_Way : CO K mg "Way" C_Way fs_Way) (c__law_take : C8.Cal P w K mg base 1 "_law_take" (spF K mg 2 F__law_take) []) : C8.Cal P w K mg base 2 "_law_names" (spF K mg 2 F__law_names) [] :=
  cal_sem F bi sc__law_names rfl rfl (by decide) fun cdv A outer s H E hr => by
    have ok := bodyOk (P := P) (w := w) (K := K) (mg := mg) (base := base) (qual := "_law_names") (cdv := cdv) (A := A) (outer := outer) (s := s) (H := H) (E := E) sc__law_names hr
    exact (sss_cons (ss_setP 2 ok rfl (by first | exact Or.inl rfl | exact Or.inr rfl) (se_p sp_str)) (sss_cons (ss_setP 3 ok rfl (by first | exact Or.inl rfl | exact Or.inr rfl) (se_call c__law_take hr (by decide) rfl (sas_io 0 (sas_v (se_p sp_int) sas_nil)))) (sss_cons (ss_if (set_cmp (op_eqD ok.u64) opv_eq (se_call c__law_take hr (by decide) rfl (sas_io 0 (sas_v (se_p sp_int) sas_nil))) (se_p sp_int) rfl) (sss_one (ss_setLcO 5 ok rfl rfl (sw_true rfl rfl rfl rfl) (si_range1 rfl Z.n_range (se_p (sp_var 1))) (blkOk_by (by first | rfl | decide +kernel)) (own := [("_law_k", 11)]) (fun _ _ _ _ _ => (sg_n 11 ok.blk rfl (by first | exact Or.inl rfl | exact Or.inr rfl) wipSet)) (fun _ _ _ _ _ => sets_nil) (fun _ _ _ _ _ => (se_p (sp_bin op_mulF opv_mul (sp_ix ix_seq opv_ix (sp_var 2) (sp_bin op_mod opv_mod (sp_bin op_addF opv_add (sp_var 3) (sp_var 11)) sp_int)) (sp_bin op_addF opv_add sp_int (sp_bin op_fdivW opv_fdiv (sp_var 11) sp_int))))))) (sss_cons (ss_setP 6 ok rfl (by first | exact Or.inl rfl | exact Or.inr rfl) (se_bin op_addF opv_add (se_p sp_int) (se_call c__law_take hr (by decide) rfl (sas_io 0 (sas_v (se_p sp_int) sas_nil))))) (sss_cons (ss_setLcP 7 ok rfl rfl (sw_true rfl rfl rfl rfl) (si_range1 rfl Z.n_range (se_p (sp_var 6))) (blkOk_by (by first | rfl | decide +kernel)) (own := [("_law_k", 11)]) (fun _ _ _ _ _ => (sg_n 11 ok.blk rfl (by first | exact Or.inl rfl | exact Or.inr rfl) wipSet)) (fun _ _ _ _ _ => sets_nil) (fun _ _ _ _ _ => (se_call c__law_take hr (by decide) rfl (sas_io 0 (sas_v (se_p sp_int) sas_nil))))) (sss_cons (ss_setP 8 ok rfl (by first | exact Or.inl rfl | exact Or.inr rfl) (se_call c__law_take hr (by decide) rfl (sas_io 0 (sas_v (se_p (sp_var 6)) sas_nil)))) (sss_cons (ss_setP 9 ok rfl (by first | exact Or.inl rfl | exact Or.inr rfl) (se_bin op_mod opv_mod (se_bin op_addF opv_add (se_p (sp_bin op_addF opv_add (sp_var 8) sp_int)) (se_call c__law_take hr (by decide) rfl (sas_io 0 (sas_v (se_p (sp_bin op_sub opv_sub (sp_var 6) sp_int)) sas_nil)))) (se_p (sp_var 6)))) (sss_cons (ss_setP 10 ok rfl (by first | exact Or.inl rfl | exact Or.inr rfl) (se_bin op_mulF opv_mul (se_call c__law_take hr (by decide) rfl (sas_io 0 (sas_v (se_p sp_int) sas_nil))) (se_p (sp_t1 call_int1 unv_int rfl Z.n_int (by rfl) (sp_cmp op_lt opv_lt (sp_var 6) sp_int rfl))))) (sss_cons (ss_setO 5 ok rfl (by first | exact Or.inl rfl | exact Or.inr rfl) (se_lst ses_nil)) (sss_one (ss_for ok .never (si_range1 rfl Z.n_range (se_p (sp_var 1))) (sg_n 11 ok rfl (by first | exact Or.inl rfl | exact Or.inr rfl) fixSet) (sss_cons (ss_setO 12 ok rfl (by first | exact Or.inl rfl | exact Or.inr rfl) (se_tw call_list_of unw_list rfl Z.n_list (by rfl) (sp_var 7))) (sss_cons (ss_setIt 12 ok (se_p (sp_var 8)) (se_p (sp_bin op_mod opv_mod (sp_bin op_addF opv_add (sp_ix ix_seq opv_ix (sp_var 7) (sp_var 8)) (sp_var 11)) sp_int))) (sss_cons (ss_setIt 12 ok (se_p (sp_var 9)) (se_p (sp_bin op_mod opv_mod (sp_bin op_addF opv_add (sp_ix ix_seq opv_ix (sp_var 7) (sp_var 9)) (sp_bin op_fdivW opv_fdiv (sp_var 11) sp_int)) sp_int))) (sss_one (ss_expr (se_append 5 (se_bin op_addF opv_add (se_join (se_compG ok (si_lstN 12) (blkOk_by (by first | rfl | decide +kernel)) (own := [("_law_one", 13)]) (fun _ _ _ _ _ => (sg_n 13 ok.blk rfl (by first | exact Or.inl rfl | exact Or.inr rfl) wipSet)) (fun _ _ _ _ _ => sets_nil) (fun _ _ _ _ _ => (se_p (sp_ix ix_seq opv_ix (sp_var 2) (sp_var 13)))))) (se_p (sp_bin op_mulF opv_mul (sp_ix ix_seq opv_ix (sp_var 2) (sp_var 3)) (sp_bin op_mulF opv_mul (sp_var 10) (sp_bin op_mod opv_mod (sp_var 11) sp_int)))))))))))))))))))) (sss_cons (ss_setP 4 ok rfl (by first | exact Or.inl rfl | exact Or.inr rfl) (se_ix ix_seq opv_ix (se_lst (ses_cons (se_p sp_str) (ses_cons (se_p sp_str) (ses_cons (se_p sp_str) (ses_cons (se_p sp_str) (ses_cons (se_p sp_str) (ses_cons (se_p sp_str) (ses_cons (se_p sp_str) (ses_cons (se_p sp_str) (ses_cons (se_p sp_str) (ses_cons (se_p sp_str) (ses_cons (se_p sp_str) ses_nil)))))))))))) (se_call c__law_take hr (by decide) rfl (sas_io 0 (sas_v (se_p sp_int) sas_nil))))) (sss_cons (ss_if (sew_t (sew_and (set_cmpP (op_neD ok.u64) opv_ne (sp_var 4) sp_str rfl) (sew_and1 (set_cmpP (op_ninF ok) opv_nin (sp_var 4) (sp_var 5) rfl)))) (sss_one (ss_setIt 5 ok (se_call c__law_take hr (by decide) rfl (sas_io 0 (sas_v (se_p (sp_var 1)) sas_nil))) (se_p (sp_var 4)))) sss_nil) (sss_one (ss_ret (se_move 5))))))))
theorem c__law_lifted {f : Addr} {fd : FuncData} (F : C8.Def K mg "_law_lifted" s__law_lifted f fd) (bi : Binds K fd ["_law_guard", "_law_more"] []) (Z : Fr K mg) {C_Way : Addr} (co_Way : CO K mg "Way" C_Way fs_Way)  : C8.Cal P w K mg base 1 "_law_lifted" (spF K mg 2 F__law_lifted) [] :=
  cal_sem F bi sc__law_lifted rfl rfl (by decide) fun cdv A outer s H E hr => by
    have ok := bodyOk (P := P) (w := w) (K := K) (mg := mg) (base := base) (qual := "_law_lifted") (cdv := cdv) (A := A) (outer := outer) (s := s) (H := H) (E := E) sc__law_lifted hr
    exact (sss_one (ss_ret (se_bin op_addF opv_add (se_bin op_addF opv_add (se_p (sp_sl (sp_var 0) spo_none (spo_some sp_int))) (se_tup (ses_cons (se_t1 call_tuple_of unv_tup rfl Z.n_tuple (by rfl) (se_comp ok (si_val (se_p (sp_ix ix_seq opv_ix (sp_var 0) sp_int))) (blkOk_by (by first | rfl | decide +kernel)) (own := [("_law_step", 2)]) (fun _ _ _ _ _ => (sg_n 2 ok.blk rfl (by first | exact Or.inl rfl | exact Or.inr rfl) wipSet)) (fun _ _ _ _ _ => sets_nil) (fun _ _ _ _ _ => (se_p (sp_tup (sps_cons (sp_bin op_addF opv_add (sp_ix ix_seq opv_ix (sp_var 2) sp_int) (sp_var 1)) (sps_cons (sp_ix ix_seq opv_ix (sp_var 2) sp_int) sps_nil))))))) ses_nil))) (se_p (sp_sl (sp_var 0) (spo_some sp_int) spo_none)))))
theorem c__law_small_curve {f : Addr} {fd : FuncData} (F : C8.Def K mg "_law_small_curve" s__law_small_curve f fd) (bi : Binds K fd ["_law_feed_here", "_law_unit", "_law_time"] []) (Z : Fr K mg) {C_Way : Addr} (co_Way : CO K mg "Way" C_Way fs_Way) (c__law_take : C8.Cal P w K mg base 1 "_law_take" (spF K mg 2 F__law_take) []) : C8.Cal P w K mg base 2 "_law_small_curve" (spF K mg 3 F__law_small_curve) [] :=
  cal_sem F bi sc__law_small_curve rfl rfl (by decide) fun cdv A outer s H E hr => by
    have ok := bodyOk (P := P) (w := w) (K := K) (mg := mg) (base := base) (qual := "_law_small_curve") (cdv := cdv) (A := A) (outer := outer) (s := s) (H := H) (E := E) sc__law_small_curve hr
    exact (sss_cons (ss_setP 3 ok rfl (by first | exact Or.inl rfl | exact Or.inr rfl) (se_bin op_addF opv_add (se_p sp_int) (se_call c__law_take hr (by decide) rfl (sas_io 0 (sas_v (se_p sp_int) sas_nil))))) (sss_cons (ss_setO 4 ok rfl (by first | exact Or.inl rfl | exact Or.inr rfl) (se_lst (ses_cons (se_bin op_addF opv_add (se_p sp_int) (se_call c__law_take hr (by decide) rfl (sas_io 0 (sas_v (se_p sp_int) sas_nil)))) ses_nil))) (sss_cons (ss_setO 5 ok rfl (by first | exact Or.inl rfl | exact Or.inr rfl) (se_lst (ses_cons (se_bin op_addF opv_add (se_p sp_int) (se_call c__law_take hr (by decide) rfl (sas_io 0 (sas_v (se_p sp_int) sas_nil)))) ses_nil))) (sss_cons (ss_for ok .never (si_range1 rfl Z.n_range (se_p (sp_bin op_sub opv_sub (sp_var 3) sp_int))) (sg_n 6 ok rfl (by first | exact Or.inl rfl | exact Or.inr rfl) fixSet) (sss_cons (ss_expr (se_append 4 (se_bin op_addF opv_add (se_p (sp_bin op_addF opv_add (sp_ix ix_seq opv_ix (sp_var 4) (sp_un un_neg unv_neg sp_int)) sp_int)) (se_call c__law_take hr (by decide) rfl (sas_io 0 (sas_v (se_p sp_int) sas_nil)))))) (sss_one (ss_expr (se_append 5 (se_bin op_addF opv_add (se_p (sp_bin op_addF opv_add (sp_ix ix_seq opv_ix (sp_var 5) (sp_un un_neg unv_neg sp_int)) sp_int)) (se_call c__law_take hr (by decide) rfl (sas_io 0 (sas_v (se_p sp_int) sas_nil))))))))) (sss_one (ss_ret (se_t1 call_tuple_of unv_tup rfl Z.n_tuple (by rfl) (se_comp ok (si_range1 rfl Z.n_range (se_p (sp_var 3))) (blkOk_by (by first | rfl | decide +kernel)) (own := [("_law_k", 6)]) (fun _ _ _ _ _ => (sg_n 6 ok.blk rfl (by first | exact Or.inl rfl | exact Or.inr rfl) wipSet)) (fun _ _ _ _ _ => sets_nil) (fun _ _ _ _ _ => (se_p (sp_tup (sps_cons (sp_bin op_mulF opv_mul (sp_ix ix_seq opv_ix (sp_var 4) (sp_var 6)) (sp_var 1)) (sps_cons (sp_bin op_mulF opv_mul (sp_ix ix_seq opv_ix (sp_var 5) (sp_bin op_sub opv_sub (sp_bin op_sub opv_sub (sp_var 3) sp_int) (sp_var 6))) (sp_var 2)) sps_nil)))))))))))))
theorem c__law_small_guards {f : Addr} {fd : FuncData} (F : C8.Def K mg "_law_small_guards" s__law_small_guards f fd) (bi : Binds K fd ["_law_script", "_law_names_here", "_law_unit", "_law_time"] []) (Z : Fr K mg) {C_Way : Addr} (co_Way : CO K mg "Way" C_Way fs_Way) (c__law_feed : C8.Cal P w K mg base 2 "_law_feed" (spF K mg 2 F__law_feed) []) (c__law_take : C8.Cal P w K mg base 1 "_law_take" (spF K mg 2 F__law_take) []) (c__law_small_curve : C8.Cal P w K mg base 2 "_law_small_curve" (spF K mg 3 F__law_small_curve) []) : C8.Cal P w K mg base 3 "_law_small_guards" (spF K mg 4 F__law_small_guards) [] :=
  cal_sem F bi sc__law_small_guards rfl rfl (by decide) fun cdv A outer s H E hr => by
    have ok := bodyOk (P := P) (w := w) (K := K) (mg := mg) (base := base) (qual := "_law_small_guards") (cdv := cdv) (A := A) (outer := outer) (s := s) (H := H) (E := E) sc__law_small_guards hr
    exact (sss_cons (ss_setO 4 ok rfl (by first | exact Or.inl rfl | exact Or.inr rfl) (se_lst ses_nil)) (sss_cons (ss_for ok .never (si_range1 rfl Z.n_range (se_p (sp_b1 call_lenF unv_len rfl Z.n_len (by rfl) (sp_var 1)))) (sg_n 5 ok rfl (by first | exact Or.inl rfl | exact Or.inr rfl) fixSet) (sss_cons (ss_setO 6 ok rfl (by first | exact Or.inl rfl | exact Or.inr rfl) (se_call c__law_feed hr (by decide) rfl (sas_v (se_p (sp_var 0)) (sas_v (se_p (sp_bin op_addF opv_add sp_int (sp_var 5))) sas_nil)))) (sss_cons (ss_setP 7 ok rfl (by first | exact Or.inl rfl | exact Or.inr rfl) (se_ix ix_seq opv_ix (se_lst (ses_cons (se_call c__law_take hr (by decide) rfl (sas_io 6 (sas_v (se_p (sp_bin op_addF opv_add (sp_var 5) sp_int)) sas_nil))) (ses_cons (se_p (sp_var 5)) ses_nil))) (se_t1 call_int1 unv_int rfl Z.n_int (by rfl) (se_cmp op_gt opv_gt (se_call c__law_take hr (by decide) rfl (sas_io 6 (sas_v (se_p sp_int) sas_nil))) (se_p sp_int) rfl)))) (sss_cons (ss_setP 8 ok rfl (by first | exact Or.inl rfl | exact Or.inr rfl) (se_call c__law_small_curve hr (by decide) rfl (sas_io 6 (sas_v (se_p (sp_var 2)) (sas_v (se_p (sp_var 3)) sas_nil))))) (sss_cons (ss_setP 9 ok rfl (by first | exact Or.inl rfl | exact Or.inr rfl) (se_bin op_mulF opv_mul (se_call c__law_take hr (by decide) rfl (sas_io 6 (sas_v (se_p sp_int) sas_nil))) (se_p (sp_var 3)))) (sss_one (ss_expr (se_append 4 (se_tup (ses_cons (se_p (sp_ix ix_seq opv_ix (sp_var 1) (sp_var 5))) (ses_cons (se_p (sp_ix ix_seq opv_ix (sp_bin op_addF opv_add (sp_lst (sps_cons sp_non sps_nil)) (sp_var 1)) (sp_var 7))) (ses_cons (se_p (sp_var 8)) (ses_cons (se_p (sp_var 9)) (ses_cons (se_bin op_mulF opv_mul (se_call c__law_take hr (by decide) rfl (sas_io 6 (sas_v (se_p sp_int) sas_nil))) (se_p (sp_var 3))) ses_nil)))))))))))))) (sss_one (ss_ret (se_move 4)))))
theorem c__law_small_loads {f : Addr} {fd : FuncData} (F : C8.Def K mg "_law_small_loads" s__law_small_loads f fd) (bi : Binds K fd ["_law_script", "_law_names_here", "_law_guards", "_law_unit", "_law_time"] []) (Z : Fr K mg) {C_Way : Addr} (co_Way : CO K mg "Way" C_Way fs_Way) (c__law_feed : C8.Cal P w K mg base 2 "_law_feed" (spF K mg 2 F__law_feed) []) (c__law_take : C8.Cal P w K mg base 1 "_law_take" (spF K mg 2 F__law_take) []) : C8.Cal P w K mg base 3 "_law_small_loads" (spF K mg 5 F__law_small_loads) [] :=
  cal_sem F bi sc__law_small_loads rfl rfl (by decide) fun cdv A outer s H E hr => by
    have ok := bodyOk (P := P) (w := w) (K := K) (mg := mg) (base := base) (qual := "_law_small_loads") (cdv := cdv) (A := A) (outer := outer) (s := s) (H := H) (E := E) sc__law_small_loads hr
    exact (sss_cons (ss_setO 5 ok rfl (by first | exact Or.inl rfl | exact Or.inr rfl) (se_lst ses_nil)) (sss_cons (ss_for ok .never (si_range1 rfl Z.n_range (se_p (sp_b1 call_lenF unv_len rfl Z.n_len (by rfl) (sp_var 1)))) (sg_n 6 ok rfl (by first | exact Or.inl rfl | exact Or.inr rfl) fixSet) (sss_cons (ss_setO 7 ok rfl (by first | exact Or.inl rfl | exact Or.inr rfl) (se_call c__law_feed hr (by decide) rfl (sas_v (se_p (sp_var 0)) (sas_v (se_p (sp_bin op_addF opv_add sp_int (sp_var 6))) sas_nil)))) (sss_cons (ss_setP 8 ok rfl (by first | exact Or.inl rfl | exact Or.inr rfl) (se_ix ix_seq opv_ix (se_ix ix_seq opv_ix (se_p (sp_var 2)) (se_call c__law_take hr (by decide) rfl (sas_io 7 (sas_v (se_p (sp_b1 call_lenF unv_len rfl Z.n_len (by rfl) (sp_var 2))) sas_nil)))) (se_p sp_int))) (sss_cons (ss_setO 9 ok rfl (by first | exact Or.inl rfl | exact Or.inr rfl) (se_lst ses_nil)) (sss_cons (ss_for ok .never (si_range1 rfl Z.n_range (se_call c__law_take hr (by decide) rfl (sas_io 7 (sas_v (se_p sp_int) sas_nil)))) (sg_n 10 ok rfl (by first | exact Or.inl rfl | exact Or.inr rfl) fixSet) (sss_one (ss_expr (se_append 9 (se_tup (ses_cons (se_bin op_mulF opv_mul (se_bin op_addF opv_add (se_p sp_int) (se_call c__law_take hr (by decide) rfl (sas_io 7 (sas_v (se_p sp_int) sas_nil)))) (se_p (sp_var 4))) (ses_cons (se_bin op_mulF opv_mul (se_call c__law_take hr (by decide) rfl (sas_io 7 (sas_v (se_p sp_int) sas_nil))) (se_p (sp_var 3))) ses_nil))))))) (sss_one (ss_expr (se_append 5 (se_tup (ses_cons (se_p (sp_ix ix_seq opv_ix (sp_var 1) (sp_var 6))) (ses_cons (se_p (sp_var 8)) (ses_cons (se_p (sp_t1 call_tuple_of unv_tup rfl Z.n_tuple (by rfl) (sp_var 9))) (ses_cons (se_bin op_mulF opv_mul (se_call c__law_take hr (by decide) rfl (sas_io 7 (sas_v (se_p sp_int) sas_nil))) (se_p (sp_var 3))) (ses_cons (se_cmp op_gt opv_gt (se_call c__law_take hr (by decide) rfl (sas_io 7 (sas_v (se_p sp_int) sas_nil))) (se_p sp_int) rfl) ses_nil)))))))))))))) (sss_one (ss_ret (se_move 5)))))
theorem c__law_small_board {f : Addr} {fd : FuncData} (F : C8.Def K mg "_law_small_board" s__law_small_board f fd) (bi : Binds K fd ["_law_script", "_law_unit", "_law_time"] []) (Z : Fr K mg) {C_Way : Addr} (co_Way : CO K mg "Way" C_Way fs_Way) (c__law_feed : C8.Cal P w K mg base 2 "_law_feed" (spF K mg 2 F__law_feed) []) (c__law_take : C8.Cal P w K mg base 1 "_law_take" (spF K mg 2 F__law_take) []) (c__law_rest : C8.Cal P w K mg base 2 "_law_rest" (spF K mg 1 F__law_rest) []) (c__law_names : C8.Cal P w K mg base 2 "_law_names" (spF K mg 2 F__law_names) []) (c__law_lifted : C8.Cal P w K mg base 1 "_law_lifted" (spF K mg 2 F__law_lifted) []) (c__law_small_guards : C8.Cal P w K mg base 3 "_law_small_guards" (spF K mg 4 F__law_small_guards) []) (c__law_small_loads : C8.Cal P w K mg base 3 "_law_small_loads" (spF K mg 5 F__law_small_loads) []) : C8.Cal P w K mg base 4 "_law_small_board" (spF K mg 3 F__law_small_board) [] :=
  cal_sem F bi sc__law_small_board rfl rfl (by decide) fun cdv A outer s H E hr => by
    have ok := bodyOk (P := P) (w := w) (K := K) (mg := mg) (base := base) (qual := "_law_small_board") (cdv := cdv) (A := A) (outer := outer) (s := s) (H := H) (E := E) sc__law_small_board hr
    exact (sss_cons (ss_setO 3 ok rfl (by first | exact Or.inl rfl | exact Or.inr rfl) (se_call c__law_feed hr (by decide) rfl (sas_v (se_p (sp_var 0)) (sas_v (se_p sp_int) sas_nil)))) (sss_cons (ss_setP 4 ok rfl (by first | exact Or.inl rfl | exact Or.inr rfl) (se_bin op_addF opv_add (se_p sp_int) (se_call c__law_take hr (by decide) rfl (sas_io 3 (sas_v (se_p sp_int) sas_nil))))) (sss_cons (ss_setP 5 ok rfl (by first | exact Or.inl rfl | exact Or.inr rfl) (se_call c__law_names hr (by decide) rfl (sas_v (se_call c__law_feed hr (by decide) rfl (sas_v (se_p (sp_var 0)) (sas_v (se_p sp_int) sas_nil))) (sas_v (se_fz (se_bin op_addF opv_add (se_p (sp_var 4)) (se_call c__law_take hr (by decide) rfl (sas_io 3 (sas_v (se_p sp_int) sas_nil))))) sas_nil)))) (sss_cons (ss_setP 6 ok rfl (by first | exact Or.inl rfl | exact Or.inr rfl) (se_call c__law_small_guards hr (by decide) rfl (sas_v (se_p (sp_var 0)) (sas_v (se_p (sp_sl (sp_var 5) spo_none (spo_some (sp_var 4)))) (sas_v (se_p (sp_var 1)) (sas_v (se_p (sp_var 2)) sas_nil)))))) (sss_cons (ss_setP 7 ok rfl (by first | exact Or.inl rfl | exact Or.inr rfl) (se_call c__law_small_loads hr (by decide) rfl (sas_v (se_p (sp_var 0)) (sas_v (se_p (sp_sl (sp_var 5) (spo_some (sp_var 4)) spo_none)) (sas_v (se_p (sp_var 6)) (sas_v (se_p (sp_var 1)) (sas_v (se_p (sp_var 2)) sas_nil))))))) (sss_cons (ss_setP 8 ok rfl (by first | exact Or.inl rfl | exact Or.inr rfl) (se_call c__law_rest hr (by decide) rfl (sas_v (se_p (sp_tup (sps_cons (sp_var 6) (sps_cons (sp_var 7) sps_nil)))) sas_nil))) (sss_cons (ss_if (set_cmp op_gt opv_gt (se_call c__law_take hr (by decide) rfl (sas_io 3 (sas_v (se_p sp_int) sas_nil))) (se_p sp_int) rfl) (sss_one (ss_setLcP 6 ok rfl rfl (sw_true rfl rfl rfl rfl) (si_val (se_p (sp_var 6))) (blkOk_by (by first | rfl | decide +kernel)) (own := [("_law_guard", 9)]) (fun _ _ _ _ _ => (sg_n 9 ok.blk rfl (by first | exact Or.inl rfl | exact Or.inr rfl) wipSet)) (fun _ _ _ _ _ => sets_nil) (fun _ _ _ _ _ => (se_call c__law_lifted hr (by decide) rfl (sas_v (se_p (sp_var 9)) (sas_v (se_p (sp_ix (ix_F ok.blk) opv_ixF (sp_var 8) (sp_ix ix_seq opv_ix (sp_var 9) sp_int))) sas_nil)))))) sss_nil) (sss_one (ss_ret (se_p (sp_tup (sps_cons (sp_t1 call_tuple_of unv_tup rfl Z.n_tuple (by rfl) (sp_var 6)) (sps_cons (sp_t1 call_tuple_of unv_tup rfl Z.n_tuple (by rfl) (sp_var 7)) sps_nil)))))))))))))
theorem c__law_sized {f : Addr} {fd : FuncData} (F : C8.Def K mg "_law_sized" s__law_sized f fd) (bi : Binds K fd ["_law_script"] []) (Z : Fr K mg) {C_Way : Addr} (co_Way : CO K mg "Way" C_Way fs_Way) (c__law_feed : C8.Cal P w K mg base 2 "_law_feed" (spF K mg 2 F__law_feed) []) (c__law_take : C8.Cal P w K mg base 1 "_law_take" (spF K mg 2 F__law_take) []) (c__law_small_board : C8.Cal P w K mg base 4 "_law_small_board" (spF K mg 3 F__law_small_board) []) : C8.Cal P w K mg base 5 "_law_sized" (spF K mg 1 F__law_sized) [] :=
  cal_sem F bi sc__law_sized rfl rfl (by decide) fun cdv A outer s H E hr => by
    have ok := bodyOk (P := P) (w := w) (K := K) (mg := mg) (base := base) (qual := "_law_sized") (cdv := cdv) (A := A) (outer := outer) (s := s) (H := H) (E := E) sc__law_sized hr
    exact (sss_cons (ss_setO 1 ok rfl (by first | exact Or.inl rfl | exact Or.inr rfl) (se_call c__law_feed hr (by decide) rfl (sas_v (se_p (sp_var 0)) (sas_v (se_p sp_int) sas_nil)))) (sss_cons (ss_setP 2 ok rfl (by first | exact Or.inl rfl | exact Or.inr rfl) (se_ix ix_seq opv_ix (se_lst (ses_cons (se_p sp_int) (ses_cons (se_p sp_int) (ses_cons (se_p sp_int) (ses_cons (se_p (sp_bin op_addF opv_add (sp_bin op_pow opv_pow sp_int sp_int) sp_int)) ses_nil))))) (se_call c__law_take hr (by decide) rfl (sas_io 1 (sas_v (se_p sp_int) sas_nil))))) (sss_cons (ss_setP 3 ok rfl (by first | exact Or.inl rfl | exact Or.inr rfl) (se_ix ix_seq opv_ix (se_lst (ses_cons (se_p sp_int) (ses_cons (se_p sp_int) (ses_cons (se_p sp_int) (ses_cons (se_p (sp_bin op_pow opv_pow sp_int sp_int)) ses_nil))))) (se_call c__law_take hr (by decide) rfl (sas_io 1 (sas_v (se_p sp_int) sas_nil))))) (sss_one (ss_ret (se_tup (ses_cons (se_call c__law_small_board hr (by decide) rfl (sas_v (se_p (sp_var 0)) (sas_v (se_p (sp_var 2)) (sas_v (se_p (sp_var 3)) sas_nil)))) (ses_cons (se_p (sp_var 2)) ses_nil))))))))
theorem c__law_most {f : Addr} {fd : FuncData} (F : C8.Def K mg "_law_most" s__law_most f fd) (bi : Binds K fd ["_law_feed_here", "_law_path_here", "_law_unit"] []) (Z : Fr K mg) {C_Way : Addr} (co_Way : CO K mg "Way" C_Way fs_Way) (c__law_take : C8.Cal P w K mg base 1 "_law_take" (spF K mg 2 F__law_take) []) : C8.Cal P w K mg base 2 "_law_most" (spF K mg 3 F__law_most) [] :=
  cal_sem F bi sc__law_most rfl rfl (by decide) fun cdv A outer s H E hr => by
    have ok := bodyOk (P := P) (w := w) (K := K) (mg := mg) (base := base) (qual := "_law_most") (cdv := cdv) (A := A) (outer := outer) (s := s) (H := H) (E := E) sc__law_most hr
    exact (sss_cons (ss_setP 3 ok rfl (by first | exact Or.inl rfl | exact Or.inr rfl) (se_call c__law_take hr (by decide) rfl (sas_io 0 (sas_v (se_p sp_int) sas_nil)))) (sss_cons (ss_if (set_cmpP (op_eqD ok.u64) opv_eq (sp_var 3) sp_int rfl) (sss_one (ss_ret (se_p (sp_bin op_sub opv_sub (sp_bin op_pow opv_pow sp_int sp_int) sp_int)))) sss_nil) (sss_cons (ss_if (sew_t (sew_or (set_cmpP op_lt opv_lt (sp_var 3) sp_int rfl) (sew_or1 (set_cmpP (op_eqD ok.u64) opv_eq (sp_b1 call_lenF unv_len rfl Z.n_len (by rfl) (sp_var 1)) sp_int rfl)))) (sss_one (ss_ret (se_bin op_addF opv_add (se_p sp_int) (se_bin op_mulF opv_mul (se_call c__law_take hr (by decide) rfl (sas_io 0 (sas_v (se_p sp_int) sas_nil))) (se_p (sp_var 2)))))) sss_nil) (sss_cons (ss_asg (se_ix ix_seq opv_ix (se_p (sp_var 1)) (se_call c__law_take hr (by decide) rfl (sas_io 0 (sas_v (se_p (sp_b1 call_lenF unv_len rfl Z.n_len (by rfl) (sp_var 1))) sas_nil)))) (sg_tup ok (sgs_cons (fixOk _) (sg_n 5 ok rfl (by first | exact Or.inl rfl | exact Or.inr rfl) fixSet) (sgs_cons (fixOk _) (sg_n 6 ok rfl (by first | exact Or.inl rfl | exact Or.inr rfl) fixSet) (sgs_nil (fixOk _)))) (hl := (aCons_len (aCons_len aNil_len))))) (sss_cons (ss_setP 4 ok rfl (by first | exact Or.inl rfl | exact Or.inr rfl) (se_ix ix_seq opv_ix (se_p (sp_ix ix_seq opv_ix (sp_var 5) sp_int)) (se_call c__law_take hr (by decide) rfl (sas_io 0 (sas_v (se_p (sp_b1 call_lenF unv_len rfl Z.n_len (by rfl) (sp_ix ix_seq opv_ix (sp_var 5) sp_int))) sas_nil))))) (sss_one (ss_ret (se_b2 (call_max2 ok.calm) opv_max2 rfl Z.n_max (by rfl) (se_p sp_int) (se_bin op_addF opv_add (se_p (sp_bin op_sub opv_sub (sp_bin op_sub opv_sub (sp_ix ix_seq opv_ix (sp_var 4) sp_int) (sp_var 6)) sp_int)) (se_call c__law_take hr (by decide) rfl (sas_io 0 (sas_v (se_p sp_int) sas_nil))))))))))))
theorem c_law {f : Addr} {fd : FuncData} (F : C8.Fun K "law" "law" s_law f fd) (Z : Fr K mg) {C_Way : Addr} (co_Way : CO K mg "Way" C_Way fs_Way) (c_opening_of_N : C8.Cal P w K mg base 9 "opening_of" (spF K mg 4 F_opening_of) [.non]) (c_with_delays : C8.Cal P w K mg base 1 "with_delays" (spF K mg 2 F_with_delays) []) (c__law_feed : C8.Cal P w K mg base 2 "_law_feed" (spF K mg 2 F__law_feed) []) (c__law_take : C8.Cal P w K mg base 1 "_law_take" (spF K mg 2 F__law_take) []) (c__law_path : C8.Cal P w K mg base 3 "_law_path" (spF K mg 2 F__law_path) []) (c__law_opening : C8.Cal P w K mg base 1 "_law_opening" (spF K mg 3 F__law_opening) []) (c__law_loud : C8.Cal P w K mg base 3 "_law_loud" (spF K mg 1 F__law_loud) []) (c__law_places : C8.Cal P w K mg base 1 "_law_places" (spF K mg 1 F__law_places) []) (c__law_sized : C8.Cal P w K mg base 5 "_law_sized" (spF K mg 1 F__law_sized) []) (c__law_most : C8.Cal P w K mg base 2 "_law_most" (spF K mg 3 F__law_most) []) : AtTop P w K mg base f fd "_law_script" (spF K mg 1 F_law) :=
  at_top (k := 9) F sc_law rfl (by decide) ⟨rfl, by decide, by decide⟩ fun cdv s H E hr hgd => by
    have ok := bodyOk (P := P) (w := w) (K := K) (mg := mg) (base := base) (qual := "law") (cdv := cdv) (A := callerA) (outer := []) (s := s) (H := H) (E := E) sc_law hr
    exact (sss_cons (ss_asg (se_call c__law_sized hr (by decide) rfl (sas_v (se_p (sp_var 0)) sas_nil)) (sg_tup ok (sgs_cons (fixOk _) (sg_n 11 ok rfl (by first | exact Or.inl rfl | exact Or.inr rfl) fixSet) (sgs_cons (fixOk _) (sg_n 12 ok rfl (by first | exact Or.inl rfl | exact Or.inr rfl) fixSet) (sgs_nil (fixOk _)))) (hl := (aCons_len (aCons_len aNil_len))))) (sss_cons (ss_setO 1 ok rfl (by first | exact Or.inl rfl | exact Or.inr rfl) (se_call c__law_feed hr (by decide) rfl (sas_v (se_p (sp_var 0)) (sas_v (se_p sp_int) sas_nil)))) (sss_cons (ss_setO 2 ok rfl (by first | exact Or.inl rfl | exact Or.inr rfl) se_dict0) (sss_cons (ss_for ok .never (si_val (se_p (sp_revA (sp_ix ix_seq opv_ix (sp_var 11) sp_int)))) (sg_n 3 ok rfl (by first | exact Or.inl rfl | exact Or.inr rfl) fixSet) (sss_one (ss_setIt 2 ok (se_p (sp_ix ix_seq opv_ix (sp_var 3) sp_int)) (se_bin op_mulF opv_mul (se_call c__law_take hr (by decide) rfl (sas_io 1 (sas_v (se_p sp_int) sas_nil))) (se_ix ix_seq opv_ix (se_lst (ses_cons (se_p sp_int) (ses_cons (se_p sp_int) (ses_cons (se_p (sp_var 12)) (ses_cons (se_p (sp_bin op_addF opv_add (sp_bin op_mulF opv_mul (sp_bin op_pow opv_pow sp_int sp_int) (sp_bin op_pow opv_pow sp_int sp_int)) sp_int)) ses_nil))))) (se_call c__law_take hr (by decide) rfl (sas_io 1 (sas_v (se_p sp_int) sas_nil)))))))) (sss_cons (ss_setP 4 ok rfl (by first | exact Or.inl rfl | exact Or.inr rfl) (se_bor 2 (se_p (sp_b1 (cr_reprQ ok hgd) unv_reprQ rfl Z.n_repr (by rfl) (sp_tup (sps_cons (sp_var 11) (sps_cons (sp_var 2) sps_nil))))))) (sss_cons (ss_setP 5 ok rfl (by first | exact Or.inl rfl | exact Or.inr rfl) (se_tup (ses_cons (se_t1 call_tuple_of unv_tup rfl Z.n_tuple (by rfl) (se_comp ok (si_val (se_p (sp_ix ix_seq opv_ix (sp_var 11) sp_int))) (blkOk_by (by first | rfl | decide +kernel)) (own := [("_law_guard", 3)]) (fun _ _ _ _ _ => (sg_n 3 ok.blk rfl (by first | exact Or.inl rfl | exact Or.inr rfl) wipSet)) (fun _ _ _ _ _ => sets_nil) (fun _ _ _ _ _ => (se_p (sp_bin op_addF opv_add (sp_bin op_addF opv_add (sp_sl (sp_var 3) spo_none (spo_some sp_int)) (sp_tup (sps_cons (sp_ix (ix_F ok.blk) opv_ixF (sp_var 2) (sp_ix ix_seq opv_ix (sp_var 3) sp_int)) sps_nil))) (sp_sl (sp_var 3) (spo_some sp_int) spo_none)))))) (ses_cons (se_p (sp_ix ix_seq opv_ix (sp_var 11) sp_int)) ses_nil)))) (sss_cons (ss_setP 6 ok rfl (by first | exact Or.inl rfl | exact Or.inr rfl) (se_call c_with_delays hr (by decide) rfl (sas_v (se_p (sp_var 11)) (sas_io 2 sas_nil)))) (sss_cons (ss_if (sew_t (sew_or (set_cmpP (op_neD ok.u64) opv_ne (sp_b1 (cr_repr ok hgd) unv_repr rfl Z.n_repr (by rfl) (sp_var 6)) (sp_b1 (cr_repr ok hgd) unv_repr rfl Z.n_repr (by rfl) (sp_var 5)) rfl) (sew_or1 (set_cmp (op_neD ok.u64) opv_ne (se_bor 2 (se_p (sp_b1 (cr_reprQ ok hgd) unv_reprQ rfl Z.n_repr (by rfl) (sp_tup (sps_cons (sp_var 11) (sps_cons (sp_var 2) sps_nil)))))) (se_p (sp_var 4)) rfl)))) (sss_one (ss_ret (se_p sp_bl))) sss_nil) (sss_cons (ss_expr (se_clearD 2)) (sss_cons (ss_if (sew_t (sew_or (set_cmpP (op_neD ok.u64) opv_ne (sp_b1 (cr_repr ok hgd) unv_repr rfl Z.n_repr (by rfl) (sp_var 6)) (sp_b1 (cr_repr ok hgd) unv_repr rfl Z.n_repr (by rfl) (sp_var 5)) rfl) (sew_or1 (set_cmp op_notN opv_notN (se_call c__law_loud hr (by decide) rfl (sas_v (se_p (sp_var 11)) sas_nil)) (se_p sp_non) rfl)))) (sss_one (ss_ret (se_p (sp_cmp (op_eqD ok.u64) opv_eq (sp_b1 (cr_repr ok hgd) unv_repr rfl Z.n_repr (by rfl) (sp_var 6)) (sp_b1 (cr_repr ok hgd) unv_repr rfl Z.n_repr (by rfl) (sp_var 5)) rfl)))) sss_nil) (sss_cons (ss_setP 7 ok rfl (by first | exact Or.inl rfl | exact Or.inr rfl) (se_call c__law_places hr (by decide) rfl (sas_v (se_p (sp_var 11)) sas_nil))) (sss_cons (ss_setP 8 ok rfl (by first | exact Or.inl rfl | exact Or.inr rfl) (se_ix ix_seq opv_ix (se_p (sp_var 7)) (se_call c__law_take hr (by decide) rfl (sas_io 1 (sas_v (se_p (sp_b1 call_lenF unv_len rfl Z.n_len (by rfl) (sp_var 7))) sas_nil))))) (sss_cons (ss_setP 9 ok rfl (by first | exact Or.inl rfl | exact Or.inr rfl) (se_call c__law_path hr (by decide) rfl (sas_v (se_p (sp_var 5)) (sas_v (se_p (sp_var 8)) sas_nil)))) (sss_cons (ss_setP 10 ok rfl (by first | exact Or.inl rfl | exact Or.inr rfl) (se_call c__law_most hr (by decide) rfl (sas_io 1 (sas_v (se_p (sp_var 9)) (sas_v (se_p (sp_var 12)) sas_nil))))) (sss_one (ss_ret (se_cmp (op_eqD ok.u64) opv_eq (se_b1 (cr_repr ok hgd) unv_repr rfl Z.n_repr (by rfl) (se_callN c_opening_of_N hr (by decide) rfl (sas_v (se_p (sp_var 6)) (sas_v (se_p (sp_var 8)) (sas_v (se_p (sp_var 10)) sas_nil))))) (se_b1 (cr_repr ok hgd) unv_repr rfl Z.n_repr (by rfl) (se_call c__law_opening hr (by decide) rfl (sas_v (se_p (sp_var 9)) (sas_v (se_p (sp_var 10)) (sas_v (se_fz (se_lst ses_nil)) sas_nil))))) rfl)))))))))))))))))
end
theorem ob_eq (s : PySem.W.SharedT) : ob s = hk.obs s.abs := He.obsDG_eq (HandSHeadRun.getT_eq s)
theorem facts {P : Program} {w : World} {K : PySem.W.Frag} {h : Heap} {mg : Str → Option Value} {f : Addr} (X : K.In h) (G : h.Ns mainGlobals mg) (hfa : mg ("law" : Str) = some (.ref f)) (c : He.SaysD fa fn K) :
    ∃ fd : FuncData, (∀ (s : Shared) (v : Value), BindsTo s fd ⟨[v], []⟩ [("_law_script", v)]) ∧ ∀ base : Heap, K.In base → base.Ns mainGlobals mg → AtTop P w K mg base f fd "_law_script" (spF K mg 1 F_law) := by
  have Z : Fr K mg := ⟨trivial, He.free_ok X G (c.fact 37 (f := .free "any") rfl), He.free_ok X G (c.fact 38 (f := .free "dict") rfl), He.free_ok X G (c.fact 39 (f := .free "enumerate") rfl), He.free_ok X G (c.fact 40 (f := .free "int") rfl), He.free_ok X G (c.fact 41 (f := .free "len") rfl), He.free_ok X G (c.fact 42 (f := .free "list") rfl), He.free_ok X G (c.fact 43 (f := .free "max") rfl), He.free_ok X G (c.fact 44 (f := .free "min") rfl), He.free_ok X G (c.fact 45 (f := .free "range") rfl), He.free_ok X G (c.fact 46 (f := .free "repr") rfl), He.free_ok X G (c.fact 47 (f := .free "tuple") rfl)⟩
  have co_Way : CO K mg "Way" (He.ga K "Way") fs_Way := ⟨He.glo_ok X G (c.fact 48 (f := .glo "Way") rfl), He.cls_ok (c.fact 49 (f := .cls "Way") rfl), by
    intro q hq
    rcases List.mem_cons.mp hq with hq | hq
    · subst hq; exact He.noat_ok (c.fact 50 (f := .noat "Way" "guards") rfl)
    rcases List.mem_cons.mp hq with hq | hq
    · subst hq; exact He.noat_ok (c.fact 51 (f := .noat "Way" "idle") rfl)
    rcases List.mem_cons.mp hq with hq | hq
    · subst hq; exact He.noat_ok (c.fact 52 (f := .noat "Way" "found") rfl)
    exact absurd hq (List.not_mem_nil)⟩
  obtain ⟨fd_guards_of, D_guards_of⟩ := c.def_ 0 (d := d_guards_of) rfl
  have bi_guards_of := FunD.bindsN (ps := ["board"]) D_guards_of fun _ _ _ _ _ _ us hl => match us, hl with | [_], _ => rfl
  have g_guards_of := He.glo_ok X G (c.fact 0 (f := .glo "guards_of") rfl)
  obtain ⟨fd_chain, D_chain⟩ := c.def_ 1 (d := d_chain) rfl
  have bi_chain := FunD.bindsN (ps := ["guards", "name"]) D_chain fun _ _ _ _ _ _ us hl => match us, hl with | [_, _], _ => rfl
  have g_chain := He.glo_ok X G (c.fact 1 (f := .glo "chain") rfl)
  obtain ⟨fd_over, D_over⟩ := c.def_ 2 (d := d_over) rfl
  have bi_over := FunD.bindsN (ps := ["board", "place"]) D_over fun _ _ _ _ _ _ us hl => match us, hl with | [_, _], _ => rfl
  have g_over := He.glo_ok X G (c.fact 2 (f := .glo "over") rfl)
  obtain ⟨fd_draws, D_draws⟩ := c.def_ 3 (d := d_draws) rfl
  have bi_draws := FunD.bindsN (ps := ["board", "opened", "pulls"]) D_draws fun _ _ _ _ _ _ us hl => match us, hl with | [_, _, _], _ => rfl
  have g_draws := He.glo_ok X G (c.fact 3 (f := .glo "draws") rfl)
  obtain ⟨fd_rest, D_rest⟩ := c.def_ 4 (d := d_rest) rfl
  have bi_rest := FunD.bindsN (ps := ["board"]) D_rest fun _ _ _ _ _ _ us hl => match us, hl with | [_], _ => rfl
  have g_rest := He.glo_ok X G (c.fact 4 (f := .glo "rest") rfl)
  obtain ⟨fd_least_of, D_least_of⟩ := c.def_ 5 (d := d_least_of) rfl
  have bi_least_of := FunD.bindsN (ps := ["curve"]) D_least_of fun _ _ _ _ _ _ us hl => match us, hl with | [_], _ => rfl
  have g_least_of := He.glo_ok X G (c.fact 5 (f := .glo "least_of") rfl)
  obtain ⟨fd_awake, D_awake⟩ := c.def_ 6 (d := d_awake) rfl
  have bi_awake := FunD.bindsN (ps := ["board", "found"]) D_awake fun _ _ _ _ _ _ us hl => match us, hl with | [_, _], _ => rfl
  have g_awake := He.glo_ok X G (c.fact 6 (f := .glo "awake") rfl)
  obtain ⟨fd_loud, D_loud⟩ := c.def_ 7 (d := d_loud) rfl
  have bi_loud := FunD.bindsN (ps := ["board"]) D_loud fun _ _ _ _ _ _ us hl => match us, hl with | [_], _ => rfl
  have g_loud := He.glo_ok X G (c.fact 7 (f := .glo "loud") rfl)
  obtain ⟨fd_ask_quiet, D_ask_quiet⟩ := c.def_ 8 (d := d_ask_quiet) rfl
  have bi_ask_quiet := FunD.bindsN (ps := ["board"]) D_ask_quiet fun _ _ _ _ _ _ us hl => match us, hl with | [_], _ => rfl
  have g_ask_quiet := He.glo_ok X G (c.fact 8 (f := .glo "ask_quiet") rfl)
  obtain ⟨fd_is_off, D_is_off⟩ := c.def_ 9 (d := d_is_off) rfl
  have bi_is_off := FunD.bindsN (ps := ["board", "place"]) D_is_off fun _ _ _ _ _ _ us hl => match us, hl with | [_, _], _ => rfl
  have g_is_off := He.glo_ok X G (c.fact 9 (f := .glo "is_off") rfl)
  obtain ⟨fd_Way___init__, D_Way___init__⟩ := c.def_ 10 (d := d_Way___init__) rfl
  have bi_Way___init__ := FunD.bindsN (ps := ["self", "board", "place"]) D_Way___init__ fun _ _ _ _ _ _ us hl => match us, hl with | [_, _, _], _ => rfl
  have g_Way___init__ := He.mkr_ok (c.fact 10 (f := .mkr "Way") rfl)
  obtain ⟨fd_met, D_met⟩ := c.def_ 11 (d := d_met) rfl
  have bi_met := FunD.bindsN (ps := ["curve", "draw"]) D_met fun _ _ _ _ _ _ us hl => match us, hl with | [_, _], _ => rfl
  have g_met := He.glo_ok X G (c.fact 11 (f := .glo "met") rfl)
  obtain ⟨fd_turns_at, D_turns_at⟩ := c.def_ 12 (d := d_turns_at) rfl
  have bi_turns_at := FunD.bindsN (ps := ["curve", "draw"]) D_turns_at fun _ _ _ _ _ _ us hl => match us, hl with | [_, _], _ => rfl
  have g_turns_at := He.glo_ok X G (c.fact 12 (f := .glo "turns_at") rfl)
  obtain ⟨fd_Way_turns, D_Way_turns⟩ := c.def_ 13 (d := d_Way_turns) rfl
  have bi_Way_turns := FunD.bindsN (ps := ["self", "at", "greatness"]) D_Way_turns fun _ _ _ _ _ _ us hl => match us, hl with | [_, _, _], _ => rfl
  have g_Way_turns := He.meth_ok (c.fact 13 (f := .meth "Way" "turns") rfl)
  obtain ⟨fd_Way_is_held, D_Way_is_held⟩ := c.def_ 14 (d := d_Way_is_held) rfl
  have bi_Way_is_held := FunD.bindsN (ps := ["self", "at", "greatness"]) D_Way_is_held fun _ _ _ _ _ _ us hl => match us, hl with | [_, _, _], _ => rfl
  have g_Way_is_held := He.meth_ok (c.fact 14 (f := .meth "Way" "is_held") rfl)
  obtain ⟨fd_Way_opening, D_Way_opening⟩ := c.def_ 15 (d := d_Way_opening) rfl
  have bi_Way_opening := FunD.bindsN (ps := ["self", "greatness", "stuck"]) D_Way_opening fun _ _ _ _ _ _ us hl => match us, hl with | [_, _, _], _ => rfl
  have g_Way_opening := He.meth_ok (c.fact 15 (f := .meth "Way" "opening") rfl)
  obtain ⟨fd_stuck_list, D_stuck_list⟩ := c.def_ 16 (d := d_stuck_list) rfl
  have bi_stuck_list := FunD.bindsN (ps := ["stuck"]) D_stuck_list fun _ _ _ _ _ _ us hl => match us, hl with | [_], _ => rfl
  have g_stuck_list := He.glo_ok X G (c.fact 16 (f := .glo "stuck_list") rfl)
  obtain ⟨fd_opening_of, D_opening_of⟩ := c.def_ 17 (d := d_opening_of) rfl
  obtain ⟨ds_opening_of, vd_opening_of, bn_opening_of⟩ := FunD.binds1 (ps := ["board", "place", "greatness", "stuck"]) D_opening_of 3 0 (by intro h; exact absurd h (List.cons_ne_nil _ _)) rfl fun _ _ _ _ _ _ _ us its hu hi => match us, its, hu, hi with | [_, _, _], [_], _, _ => ⟨_, rfl, rfl⟩
  have g_opening_of := He.glo_ok X G (c.fact 17 (f := .glo "opening_of") rfl)
  obtain ⟨fd_with_delays, D_with_delays⟩ := c.def_ 18 (d := d_with_delays) rfl
  have bi_with_delays := FunD.bindsN (ps := ["board", "delays"]) D_with_delays fun _ _ _ _ _ _ us hl => match us, hl with | [_, _], _ => rfl
  have g_with_delays := He.glo_ok X G (c.fact 18 (f := .glo "with_delays") rfl)
  obtain ⟨fd__law_cell_at, D__law_cell_at⟩ := c.def_ 19 (d := d__law_cell_at) rfl
  have bi__law_cell_at := FunD.bindsN (ps := ["_law_script", "_law_k"]) D__law_cell_at fun _ _ _ _ _ _ us hl => match us, hl with | [_, _], _ => rfl
  have g__law_cell_at := He.glo_ok X G (c.fact 19 (f := .glo "_law_cell_at") rfl)
  obtain ⟨fd__law_feed, D__law_feed⟩ := c.def_ 20 (d := d__law_feed) rfl
  have bi__law_feed := FunD.bindsN (ps := ["_law_script", "_law_k"]) D__law_feed fun _ _ _ _ _ _ us hl => match us, hl with | [_, _], _ => rfl
  have g__law_feed := He.glo_ok X G (c.fact 20 (f := .glo "_law_feed") rfl)
  obtain ⟨fd__law_take, D__law_take⟩ := c.def_ 21 (d := d__law_take) rfl
  have bi__law_take := FunD.bindsN (ps := ["_law_feed_here", "_law_many"]) D__law_take fun _ _ _ _ _ _ us hl => match us, hl with | [_, _], _ => rfl
  have g__law_take := He.glo_ok X G (c.fact 21 (f := .glo "_law_take") rfl)
  obtain ⟨fd__law_overs, D__law_overs⟩ := c.def_ 22 (d := d__law_overs) rfl
  have bi__law_overs := FunD.bindsN (ps := ["_law_board"]) D__law_overs fun _ _ _ _ _ _ us hl => match us, hl with | [_], _ => rfl
  have g__law_overs := He.glo_ok X G (c.fact 22 (f := .glo "_law_overs") rfl)
  obtain ⟨fd__law_rest, D__law_rest⟩ := c.def_ 23 (d := d__law_rest) rfl
  have bi__law_rest := FunD.bindsN (ps := ["_law_board"]) D__law_rest fun _ _ _ _ _ _ us hl => match us, hl with | [_], _ => rfl
  have g__law_rest := He.glo_ok X G (c.fact 23 (f := .glo "_law_rest") rfl)
  obtain ⟨fd__law_path, D__law_path⟩ := c.def_ 24 (d := d__law_path) rfl
  have bi__law_path := FunD.bindsN (ps := ["_law_board", "_law_place"]) D__law_path fun _ _ _ _ _ _ us hl => match us, hl with | [_, _], _ => rfl
  have g__law_path := He.glo_ok X G (c.fact 24 (f := .glo "_law_path") rfl)
  obtain ⟨fd__law_opening, D__law_opening⟩ := c.def_ 25 (d := d__law_opening) rfl
  have bi__law_opening := FunD.bindsN (ps := ["_law_path_here", "_law_greatness", "_law_stuck"]) D__law_opening fun _ _ _ _ _ _ us hl => match us, hl with | [_, _, _], _ => rfl
  have g__law_opening := He.glo_ok X G (c.fact 25 (f := .glo "_law_opening") rfl)
  obtain ⟨fd__law_loud, D__law_loud⟩ := c.def_ 26 (d := d__law_loud) rfl
  have bi__law_loud := FunD.bindsN (ps := ["_law_board"]) D__law_loud fun _ _ _ _ _ _ us hl => match us, hl with | [_], _ => rfl
  have g__law_loud := He.glo_ok X G (c.fact 26 (f := .glo "_law_loud") rfl)
  obtain ⟨fd__law_places, D__law_places⟩ := c.def_ 27 (d := d__law_places) rfl
  have bi__law_places := FunD.bindsN (ps := ["_law_board"]) D__law_places fun _ _ _ _ _ _ us hl => match us, hl with | [_], _ => rfl
  have g__law_places := He.glo_ok X G (c.fact 27 (f := .glo "_law_places") rfl)
  obtain ⟨fd__law_names, D__law_names⟩ := c.def_ 28 (d := d__law_names) rfl
  have bi__law_names := FunD.bindsN (ps := ["_law_feed_here", "_law_many"]) D__law_names fun _ _ _ _ _ _ us hl => match us, hl with | [_, _], _ => rfl
  have g__law_names := He.glo_ok X G (c.fact 28 (f := .glo "_law_names") rfl)
  obtain ⟨fd__law_lifted, D__law_lifted⟩ := c.def_ 29 (d := d__law_lifted) rfl
  have bi__law_lifted := FunD.bindsN (ps := ["_law_guard", "_law_more"]) D__law_lifted fun _ _ _ _ _ _ us hl => match us, hl with | [_, _], _ => rfl
  have g__law_lifted := He.glo_ok X G (c.fact 29 (f := .glo "_law_lifted") rfl)
  obtain ⟨fd__law_small_curve, D__law_small_curve⟩ := c.def_ 30 (d := d__law_small_curve) rfl
  have bi__law_small_curve := FunD.bindsN (ps := ["_law_feed_here", "_law_unit", "_law_time"]) D__law_small_curve fun _ _ _ _ _ _ us hl => match us, hl with | [_, _, _], _ => rfl
  have g__law_small_curve := He.glo_ok X G (c.fact 30 (f := .glo "_law_small_curve") rfl)
  obtain ⟨fd__law_small_guards, D__law_small_guards⟩ := c.def_ 31 (d := d__law_small_guards) rfl
  have bi__law_small_guards := FunD.bindsN (ps := ["_law_script", "_law_names_here", "_law_unit", "_law_time"]) D__law_small_guards fun _ _ _ _ _ _ us hl => match us, hl with | [_, _, _, _], _ => rfl
  have g__law_small_guards := He.glo_ok X G (c.fact 31 (f := .glo "_law_small_guards") rfl)
  obtain ⟨fd__law_small_loads, D__law_small_loads⟩ := c.def_ 32 (d := d__law_small_loads) rfl
  have bi__law_small_loads := FunD.bindsN (ps := ["_law_script", "_law_names_here", "_law_guards", "_law_unit", "_law_time"]) D__law_small_loads fun _ _ _ _ _ _ us hl => match us, hl with | [_, _, _, _, _], _ => rfl
  have g__law_small_loads := He.glo_ok X G (c.fact 32 (f := .glo "_law_small_loads") rfl)
  obtain ⟨fd__law_small_board, D__law_small_board⟩ := c.def_ 33 (d := d__law_small_board) rfl
  have bi__law_small_board := FunD.bindsN (ps := ["_law_script", "_law_unit", "_law_time"]) D__law_small_board fun _ _ _ _ _ _ us hl => match us, hl with | [_, _, _], _ => rfl
  have g__law_small_board := He.glo_ok X G (c.fact 33 (f := .glo "_law_small_board") rfl)
  obtain ⟨fd__law_sized, D__law_sized⟩ := c.def_ 34 (d := d__law_sized) rfl
  have bi__law_sized := FunD.bindsN (ps := ["_law_script"]) D__law_sized fun _ _ _ _ _ _ us hl => match us, hl with | [_], _ => rfl
  have g__law_sized := He.glo_ok X G (c.fact 34 (f := .glo "_law_sized") rfl)
  obtain ⟨fd__law_most, D__law_most⟩ := c.def_ 35 (d := d__law_most) rfl
  have bi__law_most := FunD.bindsN (ps := ["_law_feed_here", "_law_path_here", "_law_unit"]) D__law_most fun _ _ _ _ _ _ us hl => match us, hl with | [_, _, _], _ => rfl
  have g__law_most := He.glo_ok X G (c.fact 35 (f := .glo "_law_most") rfl)
  obtain ⟨fd_law, D_law⟩ := c.def_ 36 (d := d_law) rfl
  have e := hfa.symm.trans (He.glo_ok X G (c.fact 36 (f := .glo "law") rfl))
  cases e
  have b := FunD.bindsA (ps := ["_law_script"]) D_law fun _ _ _ _ _ _ us hl => match us, hl with | [_], _ => rfl
  refine ⟨fd_law, fun s v => b s [v] rfl, fun base _ _ => ?_⟩
  have k_guards_of := c_guards_of (P := P) (w := w) (base := base) ⟨fun_of D_guards_of, g_guards_of, D_guards_of.kp⟩ bi_guards_of Z co_Way 
  have k_chain := c_chain (P := P) (w := w) (base := base) ⟨fun_of D_chain, g_chain, D_chain.kp⟩ bi_chain Z co_Way 
  have k_over := c_over (P := P) (w := w) (base := base) ⟨fun_of D_over, g_over, D_over.kp⟩ bi_over Z co_Way k_guards_of k_chain
  have k_draws := c_draws (P := P) (w := w) (base := base) ⟨fun_of D_draws, g_draws, D_draws.kp⟩ bi_draws Z co_Way k_guards_of k_over
  have k_rest := c_rest (P := P) (w := w) (base := base) ⟨fun_of D_rest, g_rest, D_rest.kp⟩ bi_rest Z co_Way k_draws
  have k_least_of := c_least_of (P := P) (w := w) (base := base) ⟨fun_of D_least_of, g_least_of, D_least_of.kp⟩ bi_least_of Z co_Way 
  have k_awake := c_awake (P := P) (w := w) (base := base) ⟨fun_of D_awake, g_awake, D_awake.kp⟩ bi_awake Z co_Way k_least_of
  have k_loud := c_loud (P := P) (w := w) (base := base) ⟨fun_of D_loud, g_loud, D_loud.kp⟩ bi_loud Z co_Way k_rest k_awake
  have k_ask_quiet := c_ask_quiet (P := P) (w := w) (base := base) ⟨fun_of D_ask_quiet, g_ask_quiet, D_ask_quiet.kp⟩ bi_ask_quiet Z co_Way k_loud
  have k_is_off := c_is_off (P := P) (w := w) (base := base) ⟨fun_of D_is_off, g_is_off, D_is_off.kp⟩ bi_is_off Z co_Way 
  have k_Way___init__ := c_Way___init__ (P := P) (w := w) (base := base) co_Way g_Way___init__ (fun_of D_Way___init__) bi_Way___init__ Z k_over k_rest k_ask_quiet k_is_off
  have k_met := c_met (P := P) (w := w) (base := base) ⟨fun_of D_met, g_met, D_met.kp⟩ bi_met Z co_Way 
  have k_turns_at := c_turns_at (P := P) (w := w) (base := base) ⟨fun_of D_turns_at, g_turns_at, D_turns_at.kp⟩ bi_turns_at Z co_Way k_met
  have k_Way_turns := c_Way_turns (P := P) (w := w) (base := base) co_Way g_Way_turns (fun_of D_Way_turns) bi_Way_turns Z k_turns_at
  have k_Way_is_held := c_Way_is_held (P := P) (w := w) (base := base) co_Way g_Way_is_held (fun_of D_Way_is_held) bi_Way_is_held Z k_Way_turns
  have k_Way_opening := c_Way_opening (P := P) (w := w) (base := base) co_Way g_Way_opening (fun_of D_Way_opening) bi_Way_opening Z k_Way_turns k_Way_is_held
  have k_stuck_list := c_stuck_list (P := P) (w := w) (base := base) ⟨fun_of D_stuck_list, g_stuck_list, D_stuck_list.kp⟩ bi_stuck_list Z co_Way 
  have k_opening_of_N := c_opening_of_N (P := P) (w := w) (base := base) ⟨fun_ofD D_opening_of, g_opening_of, D_opening_of.kp⟩ bn_opening_of vd_opening_of Z co_Way k_Way___init__ k_Way_opening k_stuck_list
  have k_with_delays := c_with_delays (P := P) (w := w) (base := base) ⟨fun_of D_with_delays, g_with_delays, D_with_delays.kp⟩ bi_with_delays Z co_Way 
  have k__law_cell_at := c__law_cell_at (P := P) (w := w) (base := base) ⟨fun_of D__law_cell_at, g__law_cell_at, D__law_cell_at.kp⟩ bi__law_cell_at Z co_Way 
  have k__law_feed := c__law_feed (P := P) (w := w) (base := base) ⟨fun_of D__law_feed, g__law_feed, D__law_feed.kp⟩ bi__law_feed Z co_Way k__law_cell_at
  have k__law_take := c__law_take (P := P) (w := w) (base := base) ⟨fun_of D__law_take, g__law_take, D__law_take.kp⟩ bi__law_take Z co_Way 
  have k__law_overs := c__law_overs (P := P) (w := w) (base := base) ⟨fun_of D__law_overs, g__law_overs, D__law_overs.kp⟩ bi__law_overs Z co_Way 
  have k__law_rest := c__law_rest (P := P) (w := w) (base := base) ⟨fun_of D__law_rest, g__law_rest, D__law_rest.kp⟩ bi__law_rest Z co_Way k__law_overs
  have k__law_path := c__law_path (P := P) (w := w) (base := base) ⟨fun_of D__law_path, g__law_path, D__law_path.kp⟩ bi__law_path Z co_Way k__law_overs k__law_rest
  have k__law_opening := c__law_opening (P := P) (w := w) (base := base) ⟨fun_of D__law_opening, g__law_opening, D__law_opening.kp⟩ bi__law_opening Z co_Way 
  have k__law_loud := c__law_loud (P := P) (w := w) (base := base) ⟨fun_of D__law_loud, g__law_loud, D__law_loud.kp⟩ bi__law_loud Z co_Way k__law_rest
  have k__law_places := c__law_places (P := P) (w := w) (base := base) ⟨fun_of D__law_places, g__law_places, D__law_places.kp⟩ bi__law_places Z co_Way 
  have k__law_names := c__law_names (P := P) (w := w) (base := base) ⟨fun_of D__law_names, g__law_names, D__law_names.kp⟩ bi__law_names Z co_Way k__law_take
  have k__law_lifted := c__law_lifted (P := P) (w := w) (base := base) ⟨fun_of D__law_lifted, g__law_lifted, D__law_lifted.kp⟩ bi__law_lifted Z co_Way 
  have k__law_small_curve := c__law_small_curve (P := P) (w := w) (base := base) ⟨fun_of D__law_small_curve, g__law_small_curve, D__law_small_curve.kp⟩ bi__law_small_curve Z co_Way k__law_take
  have k__law_small_guards := c__law_small_guards (P := P) (w := w) (base := base) ⟨fun_of D__law_small_guards, g__law_small_guards, D__law_small_guards.kp⟩ bi__law_small_guards Z co_Way k__law_feed k__law_take k__law_small_curve
  have k__law_small_loads := c__law_small_loads (P := P) (w := w) (base := base) ⟨fun_of D__law_small_loads, g__law_small_loads, D__law_small_loads.kp⟩ bi__law_small_loads Z co_Way k__law_feed k__law_take
  have k__law_small_board := c__law_small_board (P := P) (w := w) (base := base) ⟨fun_of D__law_small_board, g__law_small_board, D__law_small_board.kp⟩ bi__law_small_board Z co_Way k__law_feed k__law_take k__law_rest k__law_names k__law_lifted k__law_small_guards k__law_small_loads
  have k__law_sized := c__law_sized (P := P) (w := w) (base := base) ⟨fun_of D__law_sized, g__law_sized, D__law_sized.kp⟩ bi__law_sized Z co_Way k__law_feed k__law_take k__law_small_board
  have k__law_most := c__law_most (P := P) (w := w) (base := base) ⟨fun_of D__law_most, g__law_most, D__law_most.kp⟩ bi__law_most Z co_Way k__law_take
  exact c_law (fun_of D_law) Z co_Way k_opening_of_N k_with_delays k__law_feed k__law_take k__law_path k__law_opening k__law_loud k__law_places k__law_sized k__law_most
end Wk

namespace Lw
open PySem PySem.Spec L2 FB Wk
open PyProof.Rows hiding St
def fd (c r n : Int) : O := .lst [.val (.int c), .val (.int r), .val (.int n)]
/-- a feed, so many takings left -/
def Fok (k : Int) (o : O) : Prop := ∃ c r n, o = fd c r n ∧ 0 ≤ n ∧ n + k ≤ 1000000000
theorem Fok.less {k l : Int} {o : O} (h : Fok k o) (q : l ≤ k) : Fok l o := by
  obtain ⟨c, r, n, e, h1, h2⟩ := h
  exact ⟨c, r, n, e, h1, by omega⟩
/-- a script: as it came, or cut -/
def Sc (x : O) (ns : List Int) : Prop := x = .val (.scr ns) ∨ x = .val (.lst (ns.map D.int))
theorem cell_at {x : O} {ns : List Int} (h : Sc x ns) (i : Nat) : ∃ c, F__law_cell_at [x, .val (.int i)] = some (.val (.int c), [none, none]) := by
  unfold F__law_cell_at
  rw [runF_eq]
  by_cases hi : i < ns.length
  · have e0 : atI ns (i : Int) = some ns[i] := by rw [atN, List.getElem?_eq_getElem hi]
    have e1 : ixO (.val (.scr ns)) (.val (.int (i : Int))) = some (.val (.int ns[i])) := by
      show ((atI ns (i : Int)).map fun n => O.val (.int n)) = _
      rw [e0]; rfl
    have e2 : atI (ns.map D.int) (i : Int) = some (.int ns[i]) := by rw [atN, List.getElem?_map, List.getElem?_eq_getElem hi]; rfl
    refine ⟨ns[i], ?_⟩
    rcases h with h | h <;> subst h <;> simp [b__law_cell_at, hi, e1, e2] <;> rfl
  · refine ⟨0, ?_⟩
    rcases h with h | h <;> subst h <;> simp [b__law_cell_at, hi] <;> rfl
theorem feed {x : O} {ns : List Int} (h : Sc x ns) (i : Nat) (hi : i ≤ 1000) : ∃ o, F__law_feed [x, .val (.int i)] = some (o, [none, none]) ∧ Fok 900000000 o := by
  obtain ⟨c, e⟩ := cell_at h i
  have mu : mulD (.int 100) (.int (i : Int)) = some (.int (100 * (i : Int))) := by unfold mulD mulOk; simp
  refine ⟨fd c c (100 * i), ?_, c, c, 100 * i, rfl, by omega, by omega⟩
  unfold F__law_feed
  rw [runF_eq]
  rcases h with h | h <;> subst h <;> simp [b__law_feed, e, mu, fd] <;> rfl
theorem mulD_l (i j : Int) (h : i.natAbs < 18446744073709551616) : mulD (.int i) (.int j) = some (.int (i * j)) := by
  unfold mulD mulOk; simp [h]
theorem mulD_r (i j : Int) (h : j.natAbs < 18446744073709551616) : mulD (.int i) (.int j) = some (.int (i * j)) := by
  unfold mulD mulOk; simp [h]
theorem take (o : O) (m k : Int) (h : Fok (k + 1) o) (hk : 0 ≤ k) (h0 : 0 < m) (hl : m.natAbs.log2 < 9000) : ∃ r o', F__law_take [o, .val (.int m)] = some (.val (.int r), [some o', none]) ∧ Fok k o' ∧ 0 ≤ r ∧ r < m := by
  obtain ⟨c, r, n, rfl, n0, n1⟩ := h
  unfold F__law_take
  rw [runF_eq]
  have l5 : Nat.log2 5 < 9000 := by decide
  by_cases hc : 1000000000000000000 ≤ c ∧ 0 < r
  · obtain ⟨h1, h2⟩ := hc
    refine ⟨r % m, fd c (r / m) (n + 1), ?_, ⟨_, _, _, rfl, by omega, by omega⟩, Int.emod_nonneg _ (by omega), Int.emod_lt_of_pos _ h0⟩
    simp [b__law_take, fd, e_pow, h1, h2, e_mod, e_fdiv, h0, hl]
    rfl
  · have nn : mulD (.int (n + 1)) (.int (n + 1)) = some (.int ((n + 1) * (n + 1))) := mulD_l _ _ (by omega)
    have na : mulD (.int 7919) (.int (n + 1)) = some (.int (7919 * (n + 1))) := mulD_l _ _ (by decide)
    have nb : ∀ x : Int, mulD (.int x) (.int 69621) = some (.int (x * 69621)) := fun x => mulD_r _ _ (by decide)
    have nc : ∀ x : Int, mulD (.int x) (.int 48271) = some (.int (x * 48271)) := fun x => mulD_r _ _ (by decide)
    have nd : ∀ x y : Int, mulD (.int x) (.int (y % 65521 + 3)) = some (.int (x * (y % 65521 + 3))) := fun x y => mulD_r _ _ (by omega)
    have hb : ¬ (1000000000000000000 ≤ c ∧ 0 < r) := hc
    refine ⟨(let v := (c % 2147483629 * 48271 + 7919 * (n + 1) + (n + 1) * (n + 1) * 69621 + 11) % 2147483647; v * (v % 65521 + 3) % 2147483629 / 5 % m), fd c r (n + 1), ?_, ⟨_, _, _, rfl, by omega, by omega⟩, Int.emod_nonneg _ (by omega), Int.emod_lt_of_pos _ h0⟩
    by_cases h1 : 1000000000000000000 ≤ c
    · have h2 : ¬ 0 < r := fun z => hb ⟨h1, z⟩
      simp [b__law_take, fd, e_pow, h1, h2, e_mod, e_fdiv, nn, na, nb, nc, nd, h0, hl, l5]
      rfl
    · simp [b__law_take, fd, e_pow, h1, e_mod, e_fdiv, nn, na, nb, nc, nd, h0, hl, l5]
      rfl
theorem log_big {x : Int} (h0 : 0 ≤ x) (h : x ≤ 10000000000000000000000000000000000000000000000000000000000000) : x.natAbs.log2 < 9000 := by
  have h2 : x.natAbs ≤ 10000000000000000000000000000000000000000000000000000000000000 := by omega
  have h3 : x.natAbs.log2 ≤ Nat.log2 10000000000000000000000000000000000000000000000000000000000000 := by
    rcases Nat.eq_zero_or_pos x.natAbs with e | e
    · rw [e]; simp
    · rw [Nat.le_log2 (by decide)]
      exact Nat.le_trans (Nat.log2_self_le (by omega)) h2
  exact Nat.lt_of_le_of_lt h3 (by decide)

end Lw

namespace Lw
open PySem PySem.Spec L2 FB Wk
open PyProof.Rows hiding St
def nO (ns : List (List Nat)) : O := vO (ns.map fun l => D.str (SL l))
def lN (bs : List Nat) : O := vO (bs.map fun b : Nat => D.int (b : Int))
theorem lN_set (bs : List Nat) (i v : Nat) (h : i < bs.length) : setItO (lN bs) (.val (.int (i : Int))) (.val (.int (v : Int))) = some (lN (bs.set i v)) := by
  unfold lN
  rw [vO_set _ _ _ (by simpa using h)]; simp
theorem lV_ix (bs : List Nat) (i : Nat) (h : i < bs.length) : ixO (.val (.lst (bs.map fun b : Nat => D.int (b : Int)))) (.val (.int (i : Int))) = some (.val (.int (bs.getD i 0 : Nat))) := by
  show ((atI (bs.map fun b : Nat => D.int (b : Int)) (i : Int)).map O.val) = _
  rw [atN, List.getElem?_map, List.getElem?_eq_getElem h]
  simp [List.getD_eq_getElem?_getD, List.getElem?_eq_getElem h]
theorem rep1 (n c : Nat) : (List.replicate n [c]).flatten = List.replicate n c := by simp
def nmA (f k : Nat) : List Nat := List.replicate (1 + k / 26) ((f + k) % 26)
theorem nmA_ok (f k : Nat) (h : k < 40) : NameOk (nmA f k) := by
  refine ⟨by unfold nmA; simp, by unfold nmA; simp; omega, fun c hc => ?_⟩
  unfold nmA at hc
  rw [(List.mem_replicate.mp hc).2]; omega
theorem nmA_inj {f i j : Nat} (hi : i < 40) (hj : j < 40) (h : nmA f i = nmA f j) : i = j := by
  have h1 : (nmA f i).length = (nmA f j).length := by rw [h]
  unfold nmA at h1 h
  simp at h1
  have h2 : (List.replicate (1 + i / 26) ((f + i) % 26)).head? = (List.replicate (1 + j / 26) ((f + j) % 26)).head? := by rw [h]
  rw [List.head?_replicate, List.head?_replicate, if_neg (by omega), if_neg (by omega)] at h2
  simp at h2
  omega
theorem nodup_range {α : Type} (g : Nat → α) (n : Nat) (h : ∀ i j, i < n → j < n → g i = g j → i = j) : ((List.range n).map g).Nodup := by
  unfold List.Nodup
  rw [List.pairwise_map]
  refine List.Pairwise.imp_of_mem ?_ (List.pairwise_lt_range (n := n))
  intro i j hi hj hij e
  have := h i j (by simpa using hi) (by simpa using hj) e
  omega
theorem names_q1 (a0 a4 a5 a6 a7 a8 a9 aa x ac ad : Option O) (f m : Nat) (hf : f < 26) (hm : m ≤ 40) : q1__law_names [a0, some (.val (.int (m : Int))), some (.val (.str "abcdefghijklmnopqrstuvwxyz")), some (.val (.int (f : Int))), a4, a5, a6, a7, a8, a9, aa, x, ac, ad] =
    .ok (nO ((List.range m).map (nmA f))) [a0, some (.val (.int (m : Int))), some (.val (.str "abcdefghijklmnopqrstuvwxyz")), some (.val (.int (f : Int))), a4, a5, a6, a7, a8, a9, aa, x, ac, ad] := by
  have sn := small_nat (n := m) (by omega)
  have l26 : Nat.log2 26 < 9000 := by decide
  have hc := compL_all (ρ := [a0, some (.val (.int (m : Int))), some (.val (.str "abcdefghijklmnopqrstuvwxyz")), some (.val (.int (f : Int))), a4, a5, a6, a7, a8, a9, aa, none, ac, ad]) (own := [11]) (a := aN 11) (t := mTrue) (e := mP (p2 (lift2 mulD) (p2 ixO (pVar 2) (p2 (lift2 modD) (p2 (lift2 addD) (pVar 3) (pVar 11)) (pC (.int 26)))) (p2 (lift2 addD) (pC (.int 1)) (p2 (lift2 fdivD) (pVar 11) (pC (.int 26))))))
    (fun i : Nat => D.int (0 + (i : Int))) (fun i => O.val (.str (SL (nmA f i)))) (xs := List.range m) (by
    intro i hi
    have hi : i < m := by simpa using hi
    have e1 : ((f : Int) + (i : Int)) % 26 = (((f + i) % 26 : Nat) : Int) := by omega
    have e2 : (1 : Int) + (i : Int) / 26 = ((1 + i / 26 : Nat) : Int) := by omega
    have e3 := letter_at ((f + i) % 26) (by omega)
    have e4 := mulD_SL [(f + i) % 26] (1 + i / 26) (by omega) (by simp; omega)
    rw [rep1] at e4
    refine ⟨[a0, some (.val (.int (m : Int))), some (.val (.str "abcdefghijklmnopqrstuvwxyz")), some (.val (.int (f : Int))), a4, a5, a6, a7, a8, a9, aa, some (.val (.int (i : Int))), ac, ad], [a0, some (.val (.int (m : Int))), some (.val (.str "abcdefghijklmnopqrstuvwxyz")), some (.val (.int (f : Int))), a4, a5, a6, a7, a8, a9, aa, some (.val (.int (i : Int))), ac, ad], [a0, some (.val (.int (m : Int))), some (.val (.str "abcdefghijklmnopqrstuvwxyz")), some (.val (.int (f : Int))), a4, a5, a6, a7, a8, a9, aa, some (.val (.int (i : Int))), ac, ad], by simp, by simp, ?_, by simp⟩
    have e6 := @e_mod ((f : Int) + (i : Int)) 26 (by decide)
    have e7 := @e_fdiv (i : Int) 26 (by decide) (by decide)
    rw [← e1] at e3
    rw [← e2] at e4
    simp [e6, e7, e3, e4, nmA])
  simp [q1__law_names, sn, rangeL_len, show m ≤ 1000000 by omega]
  unfold rangeL
  rw [hc]
  simp [vO, nO, bkK_eta]

end Lw

namespace Lw
open PySem PySem.Spec L2 FB Wk
open PyProof.Rows hiding St
theorem names_q2 (o : O) (k : Int) (n : Nat) (a1 a2 a3 a4 a5 a7 a8 a9 aa x ac ad : Option O) (h : Fok (k + 8) o) (hk : 0 ≤ k) (hn : n ≤ 8) : ∃ o' bs, q2__law_names [some o, a1, a2, a3, a4, a5, some (.val (.int (n : Int))), a7, a8, a9, aa, x, ac, ad] =
    .ok (lN bs) [some o', a1, a2, a3, a4, a5, some (.val (.int (n : Int))), a7, a8, a9, aa, x, ac, ad] ∧ Fok k o' ∧ bs.length = n ∧ ∀ b ∈ bs, b < 26 := by
  have sn := small_nat (n := n) (by omega)
  obtain ⟨os, ρ', hc, hl, hp, o', e, s'⟩ := compL_inv (own := [11]) (a := aN 11) (e := mCall F__law_take [.io 0, .v (mP (pC (.int 26)))]) (ds := rangeL 0 n) (ρ := [some o, a1, a2, a3, a4, a5, some (.val (.int (n : Int))), a7, a8, a9, aa, none, ac, ad])
    (fun i ρ => ∃ o, ρ = [some o, a1, a2, a3, a4, a5, some (.val (.int (n : Int))), a7, a8, a9, aa, none, ac, ad] ∧ Fok (k + 8 - i) o) (fun _ o => ∃ b : Nat, b < 26 ∧ o = .val (.int (b : Int))) ⟨o, rfl, h.less (by omega)⟩ (by
      rintro i d ρ hd ⟨o, rfl, so⟩
      obtain ⟨hi, rfl⟩ := rangeL_get hd
      obtain ⟨r, o', e, s', p, q⟩ := take o 26 (k + 8 - ((i + 1 : Nat) : Int)) (so.less (by push_cast; omega)) (by push_cast; omega) (by decide) (by decide)
      exact ⟨[some o, a1, a2, a3, a4, a5, some (.val (.int (n : Int))), a7, a8, a9, aa, some (.val (.int (0 + (i : Int)))), ac, ad], .val (.int r), [some o', a1, a2, a3, a4, a5, some (.val (.int (n : Int))), a7, a8, a9, aa, some (.val (.int (0 + (i : Int)))), ac, ad], by simp, by simp [e], ⟨r.toNat, by omega, by rw [show ((r.toNat : Nat) : Int) = r by omega]⟩, o', by simp, s'⟩)
  subst e
  rw [rangeL_len] at hl s'
  obtain ⟨bs, e2, hb⟩ := list_of (fun b : Nat => O.val (.int (b : Int))) (fun b => b < 26) hp
  subst e2
  refine ⟨o', bs, ?_, s'.less (by omega), by simpa using hl, hb⟩
  have hc : compL [11] (aN 11) mTrue (mCall F__law_take [.io 0, .v (mP (pC (.int 26)))]) (rangeL 0 n) [some o, a1, a2, a3, a4, a5, some (.val (.int (n : Int))), a7, a8, a9, aa, none, ac, ad] = _ := hc
  simp [q2__law_names, sn, rangeL_len, show n ≤ 1000000 by omega]
  rw [hc]
  simp [lN, vO, bkK_eta]
/-- the k-th name of one base -/
def nmB (bs : List Nat) (a b l f k : Nat) : List Nat := (bs.set a ((bs.getD a 0 + k) % 26)).set b ((bs.getD b 0 + k / 26) % 26) ++ List.replicate (l * (k % 2)) f
theorem nmB_ok {bs : List Nat} {a b l f : Nat} (k : Nat) (h0 : 2 ≤ bs.length) (h8 : bs.length + l ≤ 8) (hl : l ≤ 1) (hb : ∀ b ∈ bs, b < 26) (hf : f < 26) : NameOk (nmB bs a b l f k) := by
  have hk : k % 2 ≤ 1 := by omega
  have hlk : l * (k % 2) ≤ l := by
    have := Nat.mul_le_mul_left l hk
    omega
  refine ⟨by unfold nmB; simp; omega, by unfold nmB; simp; omega, fun c hc => ?_⟩
  unfold nmB at hc
  rcases List.mem_append.mp hc with hc | hc
  · rcases List.mem_or_eq_of_mem_set hc with hc | hc
    · rcases List.mem_or_eq_of_mem_set hc with hc | hc
      · exact hb c hc
      · omega
    · omega
  · rw [(List.mem_replicate.mp hc).2]; exact hf
theorem nmB_inj {bs : List Nat} {a b l f i j : Nat} (ha : a < bs.length) (hb : b < bs.length) (hab : a ≠ b) (hi : i < 40) (hj : j < 40) (h : nmB bs a b l f i = nmB bs a b l f j) : i = j := by
  unfold nmB at h
  have h1 := congrArg (fun z => z[a]?) h
  have h2 := congrArg (fun z => z[b]?) h
  rw [List.getElem?_append_left (by simp; exact ha), List.getElem?_append_left (by simp; exact ha), List.getElem?_set_ne hab.symm, List.getElem?_set_ne hab.symm, List.getElem?_set_self ha, List.getElem?_set_self ha] at h1
  rw [List.getElem?_append_left (by simp; exact hb), List.getElem?_append_left (by simp; exact hb), List.getElem?_set_self (by simpa using hb), List.getElem?_set_self (by simpa using hb)] at h2
  have h1 := Option.some.inj h1
  have h2 := Option.some.inj h2
  omega
theorem nO_ap (ns : List (List Nat)) (l : List Nat) (h : ns.length < 1000) (ρ : FB.Env) : apC 5 (.val (.str (SL l))) ρ (some (some (nO ns))) = .ok (.val .non) (ρ.set 5 (some (nO (ns ++ [l])))) := by
  unfold nO
  rw [vO_apC _ _ _ (by simp; omega)]; simp
theorem lN_sh (bs : List Nat) : (lN bs).sh = some (.lst (bs.map fun b : Nat => D.int (b : Int))) := vO_sh _
theorem names_q3 (a0 a1 a3 a4 a5 a6 a7 a8 a9 aa ab x : Option O) (bs : List Nat) (hb : ∀ b ∈ bs, b < 26) (hl : bs.length ≤ 8) : q3__law_names [a0, a1, some (.val (.str "abcdefghijklmnopqrstuvwxyz")), a3, a4, a5, a6, a7, a8, a9, aa, ab, some (lN bs), x] =
    .ok (nO (bs.map fun b => [b])) [a0, a1, some (.val (.str "abcdefghijklmnopqrstuvwxyz")), a3, a4, a5, a6, a7, a8, a9, aa, ab, some (lN bs), x] := by
  have hc := compL_all (ρ := [a0, a1, some (.val (.str "abcdefghijklmnopqrstuvwxyz")), a3, a4, a5, a6, a7, a8, a9, aa, ab, none, none]) (own := [13]) (a := aN 13) (t := mTrue) (e := mP (p2 ixO (pVar 2) (pVar 13)))
    (fun b : Nat => D.int (b : Int)) (fun b => O.val (.str (SL [b]))) (xs := bs) (by
    intro b h
    have e3 := letter_at b (hb b h)
    exact ⟨[a0, a1, some (.val (.str "abcdefghijklmnopqrstuvwxyz")), a3, a4, a5, a6, a7, a8, a9, aa, ab, none, some (.val (.int (b : Int)))], [a0, a1, some (.val (.str "abcdefghijklmnopqrstuvwxyz")), a3, a4, a5, a6, a7, a8, a9, aa, ab, none, some (.val (.int (b : Int)))], [a0, a1, some (.val (.str "abcdefghijklmnopqrstuvwxyz")), a3, a4, a5, a6, a7, a8, a9, aa, ab, none, some (.val (.int (b : Int)))], by simp, by simp, by simp [e3], by simp⟩)
  have e1 : lstN 12 [a0, a1, some (.val (.str "abcdefghijklmnopqrstuvwxyz")), a3, a4, a5, a6, a7, a8, a9, aa, ab, some (lN bs), x] = some (bs.map fun b : Nat => D.int (b : Int)) := lstN_of rfl (lN_sh bs)
  have q := e_mCompG (f := lstN 12) (wi := wiN 12) (re := reN 12) (own := own2 [("_law_one", 13)]) (a := aN 13) (t := mTrue) (e := mP (p2 ixO (pVar 2) (pVar 13))) e1 (by simp; omega) hc
  refine q.trans ?_
  have e2 : bs.map (fun b => O.val (.str (SL [b]))) = ((bs.map fun b => [b]).map fun l => D.str (SL l)).map O.val := by rw [List.map_map, List.map_map]; rfl
  rw [e2]
  cases x <;> rfl
theorem names_b (a0 a1 a4 x12 x13 : Option O) (bs : List Nat) (a b l f k : Nat) (ns : List (List Nat)) (n : Nat) (hn : bs.length = n) (h2 : 2 ≤ n) (h8 : n + l ≤ 8) (hl : l ≤ 1) (hb : ∀ b ∈ bs, b < 26) (hf : f < 26) (ha : a < n) (hbb : b < n) (hab : a ≠ b) (hk : k < 40) (hns : ns.length < 100) :
    ∃ y12 y13, b1__law_names [a0, a1, some (.val (.str "abcdefghijklmnopqrstuvwxyz")), some (.val (.int (f : Int))), a4, some (nO ns), some (.val (.int (n : Int))), some (.val (.lst (bs.map fun b : Nat => D.int (b : Int)))), some (.val (.int (a : Int))), some (.val (.int (b : Int))), some (.val (.int (l : Int))), some (.val (.int (k : Int))), x12, x13] =
      .ok .nx [a0, a1, some (.val (.str "abcdefghijklmnopqrstuvwxyz")), some (.val (.int (f : Int))), a4, some (nO (ns ++ [nmB bs a b l f k])), some (.val (.int (n : Int))), some (.val (.lst (bs.map fun b : Nat => D.int (b : Int)))), some (.val (.int (a : Int))), some (.val (.int (b : Int))), some (.val (.int (l : Int))), some (.val (.int (k : Int))), y12, y13] := by
  subst hn
  have lw : listW (.val (.lst (bs.map fun b : Nat => D.int (b : Int)))) = some (bs.map fun b : Nat => D.int (b : Int)) := rfl
  have i1 := lV_ix bs a ha
  have i2 := lV_ix bs b hbb
  have e1 : (((bs.getD a 0 : Nat) : Int) + (k : Int)) % 26 = (((bs.getD a 0 + k) % 26 : Nat) : Int) := by omega
  have e2 : (((bs.getD b 0 : Nat) : Int) + (k : Int) / 26) % 26 = (((bs.getD b 0 + k / 26) % 26 : Nat) : Int) := by omega
  have m1 := @e_mod (((bs.getD a 0 : Nat) : Int) + (k : Int)) 26 (by decide)
  have m2 := @e_mod (((bs.getD b 0 : Nat) : Int) + (k : Int) / 26) 26 (by decide)
  have m3 := @e_fdiv (k : Int) 26 (by decide) (by decide)
  have m4 := @e_mod (k : Int) 2 (by decide)
  have S1 := lN_set bs a ((bs.getD a 0 + k) % 26) ha
  have S2 := lN_set (bs.set a ((bs.getD a 0 + k) % 26)) b ((bs.getD b 0 + k / 26) % 26) (by simpa using hbb)
  rw [← e1] at S1
  rw [← e2] at S2
  have hb2 : ∀ c ∈ (bs.set a ((bs.getD a 0 + k) % 26)).set b ((bs.getD b 0 + k / 26) % 26), c < 26 := fun c hc => by
    rcases List.mem_or_eq_of_mem_set hc with hc | hc
    · rcases List.mem_or_eq_of_mem_set hc with hc | hc
      · exact hb c hc
      · omega
    · omega
  have hl2 : ((bs.set a ((bs.getD a 0 + k) % 26)).set b ((bs.getD b 0 + k / 26) % 26)).length = bs.length := by simp
  have Q := fun a0 a1 a3 a4 a5 a6 a7 a8 a9 aa ab x => names_q3 a0 a1 a3 a4 a5 a6 a7 a8 a9 aa ab x ((bs.set a ((bs.getD a 0 + k) % 26)).set b ((bs.getD b 0 + k / 26) % 26)) hb2 (by rw [hl2]; omega)
  have ap : ∀ (ρ : FB.Env) (mm : M O), apA 5 mm ρ (some (some (nO ns))) = apB 5 (mm ρ) := fun ρ mm => rfl
  have ac := fun l ρ => nO_ap ns l (by omega) ρ
  have eb : nmB bs a b l f k = (bs.set a ((bs.getD a 0 + k) % 26)).set b ((bs.getD b 0 + k / 26) % 26) ++ List.replicate (l * (k % 2)) f := rfl
  rw [eb]
  generalize (bs.set a ((bs.getD a 0 + k) % 26)).set b ((bs.getD b 0 + k / 26) % 26) = B2 at *
  have jt : (nO (B2.map fun b => [b])).toD = .lst (((B2.map fun b => [b]).map SL).map D.str) := by
    unfold nO; rw [vO_toD, List.map_map, List.map_map, List.map_map]; rfl
  have jn := joinD_SL (B2.map fun b => [b]) (by
    rw [List.map_map]
    have : ((fun l : List Nat => l.length) ∘ fun b : Nat => [b]) = fun _ => 1 := rfl
    rw [show (List.length ∘ fun b : Nat => [b]) = fun _ => 1 from rfl]
    have one : ∀ L : List Nat, (L.map fun _ => 1).sum = L.length := fun L => by
      induction L with
      | nil => rfl
      | cons x L ih => rw [List.map_cons, List.sum_cons, ih, List.length_cons]; omega
    rw [one]; omega)
  have fl : (B2.map fun b => [b]).flatten = B2 := by
    clear jn jt Q S2 hl2 hb2 eb
    induction B2 with
    | nil => rfl
    | cons b B ih => simpa using ih
  rw [fl] at jn
  rw [← jt] at jn
  have hk2 : k % 2 ≤ 1 := by omega
  have hlk : l * (k % 2) ≤ 1 := by
    have := Nat.mul_le_mul hl hk2
    omega
  have e3 := letter_at f hf
  have mu : mulD (.int (l : Int)) (.int ((k : Int) % 2)) = some (.int ((l * (k % 2) : Nat) : Int)) := by
    rw [mulD_l _ _ (by omega), show ((l * (k % 2) : Nat) : Int) = (l : Int) * ((k : Int) % 2) by push_cast; rfl]
  have mr := mulD_SL [f] (l * (k % 2)) (by omega) (by simp; omega)
  rw [rep1] at mr
  have ad := addD_SL B2 (List.replicate (l * (k % 2)) f) (by simp; omega)
  have lNe : (vO (bs.map fun b : Nat => D.int (b : Int))) = lN bs := rfl
  generalize ((l * (k % 2) : Nat) : Int) = LK at *
  generalize nO (B2.map fun b => [b]) = JJ at *
  generalize bs.getD a 0 = va at *
  generalize bs.getD b 0 = vb at *
  refine ⟨some (lN B2), x13, ?_⟩
  simp [b1__law_names, lw, lNe, i1, i2, m1, m2, m3, m4, S1, S2, Q, ap, ac, jn, e3, mu, mr, ad]

end Lw

namespace Lw
open PySem PySem.Spec L2 FB Wk
open PyProof.Rows hiding St
theorem nodup_set {α : Type} {l : α} : ∀ {ns : List α} {i : Nat}, ns.Nodup → l ∉ ns → (ns.set i l).Nodup
  | [], _, _, _ => by simp
  | x :: ns, 0, h, hn => by
    rw [List.set_cons_zero, List.nodup_cons]
    exact ⟨fun z => hn (List.mem_cons_of_mem _ z), (List.nodup_cons.mp h).2⟩
  | x :: ns, i + 1, h, hn => by
    rw [List.set_cons_succ, List.nodup_cons]
    refine ⟨fun z => ?_, nodup_set (List.nodup_cons.mp h).2 fun z => hn (List.mem_cons_of_mem _ z)⟩
    rcases List.mem_or_eq_of_mem_set z with q | q
    · exact (List.nodup_cons.mp h).1 q
    · exact hn (by rw [q]; exact List.mem_cons_self ..)
theorem word_at (r : Int) (h0 : 0 ≤ r) (h : r < 11) : ∃ l, atI [O.val (.str "guard"), O.val (.str "load"), O.val (.str "on"), O.val (.str "off"), O.val (.str "board"), O.val (.str "map"), O.val (.str "least"), O.val (.str ""), O.val (.str ""), O.val (.str ""), O.val (.str "")] r = some (.val (.str (SL l))) ∧ (l = [] ∨ NameOk l) := by
  have e1 : ("guard" : Str) = SL [6, 20, 0, 17, 3] := by decide +kernel
  have e2 : ("load" : Str) = SL [11, 14, 0, 3] := by decide +kernel
  have e3 : ("on" : Str) = SL [14, 13] := by decide +kernel
  have e4 : ("off" : Str) = SL [14, 5, 5] := by decide +kernel
  have e5 : ("board" : Str) = SL [1, 14, 0, 17, 3] := by decide +kernel
  have e6 : ("map" : Str) = SL [12, 0, 15] := by decide +kernel
  have e7 : ("least" : Str) = SL [11, 4, 0, 18, 19] := by decide +kernel
  have e8 : ("" : Str) = SL [] := by decide +kernel
  rw [e1, e2, e3, e4, e5, e6, e7, e8]
  have : r = 0 ∨ r = 1 ∨ r = 2 ∨ r = 3 ∨ r = 4 ∨ r = 5 ∨ r = 6 ∨ r = 7 ∨ r = 8 ∨ r = 9 ∨ r = 10 := by omega
  rcases this with e | e | e | e | e | e | e | e | e | e | e <;> subst e
  · exact ⟨[6, 20, 0, 17, 3], (atN _ 0).trans rfl, .inr ⟨by decide, by decide, by decide⟩⟩
  · exact ⟨[11, 14, 0, 3], (atN _ 1).trans rfl, .inr ⟨by decide, by decide, by decide⟩⟩
  · exact ⟨[14, 13], (atN _ 2).trans rfl, .inr ⟨by decide, by decide, by decide⟩⟩
  · exact ⟨[14, 5, 5], (atN _ 3).trans rfl, .inr ⟨by decide, by decide, by decide⟩⟩
  · exact ⟨[1, 14, 0, 17, 3], (atN _ 4).trans rfl, .inr ⟨by decide, by decide, by decide⟩⟩
  · exact ⟨[12, 0, 15], (atN _ 5).trans rfl, .inr ⟨by decide, by decide, by decide⟩⟩
  · exact ⟨[11, 4, 0, 18, 19], (atN _ 6).trans rfl, .inr ⟨by decide, by decide, by decide⟩⟩
  · exact ⟨[], (atN _ 7).trans rfl, .inl rfl⟩
  · exact ⟨[], (atN _ 8).trans rfl, .inl rfl⟩
  · exact ⟨[], (atN _ 9).trans rfl, .inl rfl⟩
  · exact ⟨[], (atN _ 10).trans rfl, .inl rfl⟩
theorem nO_nin (l : List Nat) (ns : List (List Nat)) : ninO (.val (.str (SL l))) (nO ns) = some (.val (.bl (!decide (l ∈ ns)))) := by
  have e : (nO ns).toD = .lst ((ns.map SL).map D.str) := by unfold nO; rw [vO_toD, List.map_map]; rfl
  unfold ninO
  rw [e]
  show ((inD (.str (SL l)) (.lst ((ns.map SL).map D.str))).map fun b => O.val (.bl !b)) = _
  rw [inD_strs, List.any_map]
  refine congrArg (fun b => some (O.val (.bl (!b)))) ?_
  rw [Bool.eq_iff_iff, List.any_eq_true]
  constructor
  · rintro ⟨y, hy, q⟩
    have q : SL y = SL l := by simpa using q
    rw [← SL_inj q]; simpa using hy
  · intro h
    exact ⟨l, by simpa using h, by simp⟩
theorem nO_set (ns : List (List Nat)) (r : Int) (l : List Nat) (h0 : 0 ≤ r) (h : r < ns.length) : setItO (nO ns) (.val (.int r)) (.val (.str (SL l))) = some (nO (ns.set r.toNat l)) := by
  obtain ⟨n, rfl⟩ : ∃ n : Nat, r = (n : Int) := ⟨r.toNat, by omega⟩
  unfold nO
  rw [vO_set _ _ _ (by simp; omega)]; simp
/-- right names, all unlike -/
def NsOk (ns : List (List Nat)) : Prop := ns.Nodup ∧ ∀ l ∈ ns, NameOk l
theorem NsOk.set {ns : List (List Nat)} {i : Nat} {l : List Nat} (h : NsOk ns) (hl : NameOk l) (hn : l ∉ ns) : NsOk (ns.set i l) := by
  refine ⟨nodup_set h.1 hn, fun m hm => ?_⟩
  rcases List.mem_or_eq_of_mem_set hm with q | q
  · exact h.2 m q
  · rw [q]; exact hl
theorem other_ne (n a t : Nat) (hn : 2 ≤ n) (ha : a < n) (ht : t < n - 1) : ∃ b : Nat, ((a : Int) + 1 + (t : Int)) % (n : Int) = (b : Int) ∧ b < n ∧ a ≠ b := by
  refine ⟨(a + 1 + t) % n, by push_cast; rfl, Nat.mod_lt _ (by omega), ?_⟩
  by_cases h : a + 1 + t < n
  · rw [Nat.mod_eq_of_lt h]; omega
  · rw [Nat.mod_eq_sub_mod (by omega), Nat.mod_eq_of_lt (by omega)]; omega
theorem names_if (o : O) (k : Int) (m f : Nat) (h : Fok (k + 14) o) (hk : 0 ≤ k) (h1 : 1 ≤ m) (h40 : m ≤ 40) (hf : f < 26) : ∃ o' ns y6 y7 y8 y9 ya yb yc yd, (mIf (mB (m2 (eqO) (mCall F__law_take [.io 0, .v (mP (pC (.int 5)))]) (mP (pC (.int 0))))) (mSetO 5 (q1__law_names)) (mSeq (mSetP 6 (m2 (lift2 addD) (mP (pC (.int 2))) (mCall F__law_take [.io 0, .v (mP (pC (.int 7)))]))) (mSeq (mSetP 7 (q2__law_names)) (mSeq (mSetP 8 (mCall F__law_take [.io 0, .v (mP (pVar 6))])) (mSeq (mSetP 9 (m2 (lift2 modD) (m2 (lift2 addD) (mP (p2 (lift2 addD) (pVar 8) (pC (.int 1)))) (mCall F__law_take [.io 0, .v (mP (p2 (lift2 subD) (pVar 6) (pC (.int 1))))])) (mP (pVar 6)))) (mSeq (mSetP 10 (m2 (lift2 mulD) (mCall F__law_take [.io 0, .v (mP (pC (.int 2)))]) (mP (p1 intO (p2 (lift2 ltD) (pVar 6) (pC (.int 8))))))) (mSeq (mSetO 5 (mLst (mNil))) (mFor (mR1 (mP (pVar 1))) (aN 11) b1__law_names)))))))) [some o, some (.val (.int (m : Int))), some (.val (.str "abcdefghijklmnopqrstuvwxyz")), some (.val (.int (f : Int))), none, none, none, none, none, none, none, none, none, none] =
    .ok .nx [some o', some (.val (.int (m : Int))), some (.val (.str "abcdefghijklmnopqrstuvwxyz")), some (.val (.int (f : Int))), none, some (nO ns), y6, y7, y8, y9, ya, yb, yc, yd] ∧ Fok k o' ∧ ns.length = m ∧ NsOk ns := by
  obtain ⟨r1, o1, e1, s1, p1, q1⟩ := take o 5 (k + 13) (h.less (by omega)) (by omega) (by decide) (by decide)
  by_cases h5 : r1 = 0
  · subst h5
    have Q := fun a0 a4 a5 a6 a7 a8 a9 aa x ac ad => names_q1 a0 a4 a5 a6 a7 a8 a9 aa x ac ad f m hf h40
    refine ⟨o1, (List.range m).map (nmA f), none, none, none, none, none, none, none, none, ?_, s1.less (by omega), by simp, nodup_range _ _ fun i j hi hj e => nmA_inj (by omega) (by omega) e, fun l hl => ?_⟩
    · simp [e1, Q]
    · obtain ⟨i, hi, rfl⟩ := List.mem_map.mp hl
      exact nmA_ok f i (by have : i < m := by simpa using hi
                           omega)
  · obtain ⟨r2, o2, e2, s2, p2, q2⟩ := take o1 7 (k + 12) (s1.less (by omega)) (by omega) (by decide) (by decide)
    obtain ⟨n, hn⟩ : ∃ n : Nat, 2 + r2 = (n : Int) := ⟨(2 + r2).toNat, by omega⟩
    obtain ⟨o3, bs, e3, s3, hbs, hb⟩ := names_q2 o2 (k + 4) n (some (.val (.int (m : Int)))) (some (.val (.str "abcdefghijklmnopqrstuvwxyz"))) (some (.val (.int (f : Int)))) none none none none none none none none none (s2.less (by omega)) (by omega) (by omega)
    obtain ⟨r4, o4, e4, s4, p4, q4⟩ := take o3 (n : Int) (k + 3) (s3.less (by omega)) (by omega) (by omega) (log_big (by omega) (by omega))
    obtain ⟨a, ha⟩ : ∃ a : Nat, r4 = (a : Int) := ⟨r4.toNat, by omega⟩
    subst ha
    obtain ⟨r5, o5, e5, s5, p5, q5⟩ := take o4 ((n : Int) - 1) (k + 2) (s4.less (by omega)) (by omega) (by omega) (log_big (by omega) (by omega))
    obtain ⟨t, ht⟩ : ∃ a : Nat, r5 = (a : Int) := ⟨r5.toNat, by omega⟩
    subst ht
    obtain ⟨b, eb, hb1, hab⟩ := other_ne n a t (by omega) (by omega) (by omega)
    obtain ⟨r6, o6, e6, s6, p6, q6⟩ := take o5 2 (k + 1) (s5.less (by omega)) (by omega) (by decide) (by decide)
    obtain ⟨l, el, hl1, hl2⟩ : ∃ l : Nat, mulD (.int r6) (.int (if (n : Int) < 8 then 1 else 0)) = some (.int (l : Int)) ∧ l ≤ 1 ∧ n + l ≤ 8 := by
      by_cases h8 : (n : Int) < 8
      · refine ⟨r6.toNat, ?_, by omega, by omega⟩
        rw [if_pos h8, mulD_r _ _ (by decide), Int.mul_one, show ((r6.toNat : Nat) : Int) = r6 by omega]
      · refine ⟨0, ?_, by omega, by omega⟩
        rw [if_neg h8, mulD_r _ _ (by decide), Int.mul_zero]; rfl
    have md : modD (.int ((a : Int) + 1 + (t : Int))) (.int (n : Int)) = some (.int (b : Int)) := by rw [e_mod (by omega), eb]
    obtain ⟨ρ', f1, yb, yc, yd, rfl⟩ := forL_inv (a := aN 11) (b := b1__law_names) (ds := rangeL 0 m) (fun i ρ => ∃ yb yc yd, ρ = [some o6, some (.val (.int (m : Int))), some (.val (.str "abcdefghijklmnopqrstuvwxyz")), some (.val (.int (f : Int))), none, some (nO ((List.range i).map (nmB bs a b l f))), some (.val (.int (n : Int))), some (.val (.lst (bs.map fun b : Nat => D.int (b : Int)))), some (.val (.int (a : Int))), some (.val (.int (b : Int))), some (.val (.int (l : Int))), yb, yc, yd])
      (ρ := [some o6, some (.val (.int (m : Int))), some (.val (.str "abcdefghijklmnopqrstuvwxyz")), some (.val (.int (f : Int))), none, some (O.lst []), some (.val (.int (n : Int))), some (.val (.lst (bs.map fun b : Nat => D.int (b : Int)))), some (.val (.int (a : Int))), some (.val (.int (b : Int))), some (.val (.int (l : Int))), none, none, none]) ⟨none, none, none, rfl⟩ (by
        rintro i d ρ hd ⟨yb, yc, yd, rfl⟩
        obtain ⟨hi, rfl⟩ := rangeL_get hd
        rw [show (0 : Int) + (i : Int) = (i : Int) by omega]
        obtain ⟨y12, y13, eb2⟩ := names_b (some o6) (some (.val (.int (m : Int)))) none yc yd bs a b l f i ((List.range i).map (nmB bs a b l f)) n hbs (by omega) hl2 hl1 hb hf (by omega) hb1 hab (by omega) (by simp; omega)
        refine ⟨[some o6, some (.val (.int (m : Int))), some (.val (.str "abcdefghijklmnopqrstuvwxyz")), some (.val (.int (f : Int))), none, some (nO ((List.range i).map (nmB bs a b l f))), some (.val (.int (n : Int))), some (.val (.lst (bs.map fun b : Nat => D.int (b : Int)))), some (.val (.int (a : Int))), some (.val (.int (b : Int))), some (.val (.int (l : Int))), some (.val (.int (i : Int))), yc, yd], _, by simp, .inl eb2, some (.val (.int (i : Int))), y12, y13, ?_⟩
        rw [List.range_succ, List.map_append]; rfl)
    rw [rangeL_len] at f1
    have bt : (lN bs).toD = .lst (bs.map fun b : Nat => D.int (b : Int)) := vO_toD _
    have sn := small_nat (n := m) (by omega)
    refine ⟨o6, (List.range m).map (nmB bs a b l f), some (.val (.int (n : Int))), some (.val (.lst (bs.map fun b : Nat => D.int (b : Int)))), some (.val (.int (a : Int))), some (.val (.int (b : Int))), some (.val (.int (l : Int))), yb, yc, yd, ?_, s6.less (by omega), by simp, nodup_range _ _ fun i j hi hj e => nmB_inj (by omega) (by omega) hab (by omega) (by omega) e, fun x hx => ?_⟩
    rotate_left
    · obtain ⟨i, hi, rfl⟩ := List.mem_map.mp hx
      exact nmB_ok i (by omega) (by omega) hl1 hb hf
    · generalize nO ((List.range m).map (nmB bs a b l f)) = NN at *
      simp [e1, e2, h5, hn, e3, bt, e4, e5, md, e6, el, sn, f1]

end Lw

namespace Lw
open PySem PySem.Spec L2 FB Wk
open PyProof.Rows hiding St
noncomputable def nmIf : M Fl := mIf (mB (m2 (eqO) (mCall F__law_take [.io 0, .v (mP (pC (.int 5)))]) (mP (pC (.int 0))))) (mSetO 5 (q1__law_names)) (mSeq (mSetP 6 (m2 (lift2 addD) (mP (pC (.int 2))) (mCall F__law_take [.io 0, .v (mP (pC (.int 7)))]))) (mSeq (mSetP 7 (q2__law_names)) (mSeq (mSetP 8 (mCall F__law_take [.io 0, .v (mP (pVar 6))])) (mSeq (mSetP 9 (m2 (lift2 modD) (m2 (lift2 addD) (mP (p2 (lift2 addD) (pVar 8) (pC (.int 1)))) (mCall F__law_take [.io 0, .v (mP (p2 (lift2 subD) (pVar 6) (pC (.int 1))))])) (mP (pVar 6)))) (mSeq (mSetP 10 (m2 (lift2 mulD) (mCall F__law_take [.io 0, .v (mP (pC (.int 2)))]) (mP (p1 intO (p2 (lift2 ltD) (pVar 6) (pC (.int 8))))))) (mSeq (mSetO 5 (mLst (mNil))) (mFor (mR1 (mP (pVar 1))) (aN 11) b1__law_names)))))))
theorem nmIf_eq : b__law_names = mSeq (mSetP 2 (mP (pC (.str "abcdefghijklmnopqrstuvwxyz")))) (mSeq (mSetP 3 (mCall F__law_take [.io 0, .v (mP (pC (.int 26)))])) (mSeq nmIf (mSeq (mSetP 4 (m2 ixO (mLst (mCons (mP (pC (.str "guard"))) (mCons (mP (pC (.str "load"))) (mCons (mP (pC (.str "on"))) (mCons (mP (pC (.str "off"))) (mCons (mP (pC (.str "board"))) (mCons (mP (pC (.str "map"))) (mCons (mP (pC (.str "least"))) (mCons (mP (pC (.str ""))) (mCons (mP (pC (.str ""))) (mCons (mP (pC (.str ""))) (mCons (mP (pC (.str ""))) (mNil))))))))))))) (mCall F__law_take [.io 0, .v (mP (pC (.int 11)))]))) (mSeq (mIf (mAnd (mB (mP (p2 (neO) (pVar 4) (pC (.str ""))))) (mB (mP (p2 (ninO) (pVar 4) (pVar 5))))) (mSetIt 5 (mCall F__law_take [.io 0, .v (mP (pVar 1))]) (mP (pVar 4))) (mSkip)) (mRet (mMove 5)))))) := rfl
theorem names (o : O) (k : Int) (m : Nat) (h : Fok (k + 17) o) (hk : 0 ≤ k) (h1 : 1 ≤ m) (h40 : m ≤ 40) : ∃ o' ns, F__law_names [o, .val (.int (m : Int))] = some (nO ns, [some o', none]) ∧ Fok k o' ∧ ns.length = m ∧ NsOk ns := by
  obtain ⟨r1, o1, e1, s1, p1, q1⟩ := take o 26 (k + 16) (h.less (by omega)) (by omega) (by decide) (by decide)
  obtain ⟨f, hf⟩ : ∃ f : Nat, r1 = (f : Int) := ⟨r1.toNat, by omega⟩
  subst hf
  obtain ⟨o2, ns, y6, y7, y8, y9, ya, yb, yc, yd, e2, s2, hl, hns⟩ := names_if o1 (k + 2) m f (s1.less (by omega)) (by omega) h1 h40 (by omega)
  have e2 : nmIf _ = _ := e2
  obtain ⟨r3, o3, e3, s3, p3, q3⟩ := take o2 11 (k + 1) (s2.less (by omega)) (by omega) (by decide) (by decide)
  obtain ⟨l, el, hl2⟩ := word_at r3 p3 q3
  have e8 : ("" : Str) = SL [] := by decide +kernel
  have enin := nO_nin l ns
  have een : decide (SL l = SL []) = decide (l = []) := by
    by_cases q : l = []
    · subst q; simp
    · have : ¬ SL l = SL [] := fun z => q (SL_inj z)
      simp [q, this]
  have e9 : neO (.val (.str (SL l))) (.val (.str "")) = some (.val (.bl (!decide (l = [])))) := by rw [e8, neO_str, een]
  unfold F__law_names
  rw [runF_eq]
  by_cases c1 : l = []
  · refine ⟨o3, ns, ?_, s3.less (by omega), hl, hns⟩
    generalize nO ns = N1 at *
    simp [nmIf_eq, e1, e2, e3, el, e9, c1]
    rfl
  · by_cases c2 : l ∈ ns
    · refine ⟨o3, ns, ?_, s3.less (by omega), hl, hns⟩
      generalize nO ns = N1 at *
      simp [nmIf_eq, e1, e2, e3, el, e9, c1, c2, enin]
      rfl
    · obtain ⟨r4, o4, e4, s4, p4, q4⟩ := take o3 (m : Int) k s3 hk (by omega) (log_big (by omega) (by omega))
      have st := nO_set ns r4 l p4 (by rw [hl]; exact q4)
      refine ⟨o4, ns.set r4.toNat l, ?_, s4, by simpa using hl, hns.set (hl2.resolve_left c1) c2⟩
      generalize nO ns = N1 at *
      generalize nO (ns.set r4.toNat l) = N2 at *
      simp [nmIf_eq, e1, e2, e3, el, e9, c1, c2, enin, e4, st]
      rfl

end Lw

namespace Lw
open PySem PySem.Spec L2 FB Wk
open PyProof.Rows hiding St
def pD (p : Int × Int) : D := .tup [.int p.1, .int p.2]
def cv (C : List (Int × Int)) : D := .tup (C.map pD)
def Cok (C : List (Int × Int)) : Prop := C ≠ [] ∧ C.length ≤ 5 ∧ C.Pairwise (fun p q => p.1 < q.1 ∧ q.2 < p.2) ∧ ∀ p ∈ C, 1 ≤ p.1 ∧ 1 ≤ p.2 ∧ p.1 < 1000000000000000000000000000000000000000000000000000000000000 ∧ p.2 < 1000000000000000000000000000000000000000000000000000000000000
def sD (l : List Nat) : D := .str (SL l)
theorem addD_lst (xs ys : List D) (h : xs.length + ys.length ≤ 1000000) : addD (.lst xs) (.lst ys) = some (.lst (xs ++ ys)) := if_pos h
structure Gd where
  nm : List Nat
  un : Option (List Nat)
  C : List (Int × Int)
  dl : Int
  wt : Int
def uD : Option (List Nat) → D
  | none => .non
  | some l => sD l
def gD (g : Gd) : D := .tup [sD g.nm, uD g.un, cv g.C, .int g.dl, .int g.wt]
def numOk (n : Int) : Prop := 0 ≤ n ∧ n < 100000000000000000000000000000000000000000000000000000000000000000000000000000000000000000000
def kD (ms : List (List Nat)) : List Key := ms.map fun l => .inr (SL l)
theorem idx_none {l : List Nat} : ∀ {ms : List (List Nat)}, l ∉ ms → idxK (kD ms) (.inr (SL l)) = none
  | [], _ => rfl
  | m :: ms, h => by
    have ih := idx_none (l := l) (ms := ms) fun z => h (List.mem_cons_of_mem _ z)
    unfold idxK kD at ih ⊢
    rw [List.map_cons, List.findIdx?_cons, ih]
    have : ¬ (Sum.inr (SL m) : Key) = Sum.inr (SL l) := fun z => h (by rw [← SL_inj (Sum.inr.inj z)]; exact List.mem_cons_self ..)
    rw [if_neg (by simpa using this)]; rfl
theorem idx_some {l : List Nat} : ∀ {ms : List (List Nat)} {i : Nat}, ms.Nodup → ms[i]? = some l → idxK (kD ms) (.inr (SL l)) = some i
  | [], _, _, h => by simp at h
  | m :: ms, 0, nd, h => by
    simp at h
    subst h
    unfold idxK kD
    rw [List.map_cons, List.findIdx?_cons, if_pos (by simp)]
  | m :: ms, i + 1, nd, h => by
    have h : ms[i]? = some l := by simpa using h
    have ih := idx_some (List.nodup_cons.mp nd).2 h
    unfold idxK kD at ih ⊢
    rw [List.map_cons, List.findIdx?_cons, ih]
    have : ¬ (Sum.inr (SL m) : Key) = Sum.inr (SL l) := fun z => (List.nodup_cons.mp nd).1 (by rw [SL_inj (Sum.inr.inj z)]; exact List.mem_of_getElem? h)
    rw [if_neg (by simpa using this)]; rfl
/-- the guards so far; ds: how deep each is -/
structure GsOk (gs : List Gd) (ds : List Nat) : Prop where
  len : ds.length = gs.length
  nd : (gs.map Gd.nm).Nodup
  names : ∀ g ∈ gs, NameOk g.nm
  rest : ∀ g ∈ gs, Cok g.C ∧ numOk g.dl ∧ numOk g.wt
  under : ∀ (i : Nat) (g : Gd), gs[i]? = some g → (g.un = none ∧ ds[i]? = some 1) ∨ ∃ (j : Nat) (u : Gd) (d : Nat), j < i ∧ gs[j]? = some u ∧ g.un = some u.nm ∧ ds[j]? = some d ∧ d < 8 ∧ ds[i]? = some (d + 1)
theorem GsOk.nil : GsOk [] [] := ⟨rfl, by simp, by simp, by simp, fun i g h => by simp at h⟩
theorem get_snoc {α : Type} {l : List α} {x y : α} {i : Nat} (h : (l ++ [x])[i]? = some y) : (i < l.length ∧ l[i]? = some y) ∨ (i = l.length ∧ y = x) := by
  by_cases hi : i < l.length
  · rw [List.getElem?_append_left hi] at h
    exact .inl ⟨hi, h⟩
  · rw [List.getElem?_append_right (by omega)] at h
    have h9 := (List.getElem?_eq_some_iff.mp h).1
    simp at h9
    have : i = l.length := by omega
    subst this
    simp at h
    exact .inr ⟨rfl, h.symm⟩
theorem GsOk.snoc {gs : List Gd} {ds : List Nat} {g : Gd} {v : Nat} (h : GsOk gs ds) (hn : g.nm ∉ gs.map Gd.nm) (hk : NameOk g.nm) (hr : Cok g.C ∧ numOk g.dl ∧ numOk g.wt) (hu : (g.un = none ∧ v = 1) ∨ ∃ (j : Nat) (u : Gd) (d : Nat), j < gs.length ∧ gs[j]? = some u ∧ g.un = some u.nm ∧ ds[j]? = some d ∧ d < 8 ∧ v = d + 1) : GsOk (gs ++ [g]) (ds ++ [v]) := by
  obtain ⟨h1, h2, h3, h4, h5⟩ := h
  refine ⟨by simp [h1], ?_, ?_, ?_, fun i g' hi => ?_⟩
  · rw [List.map_append, List.nodup_append]
    exact ⟨h2, by simp, fun a ha b hb e => hn (by simp at hb; rw [← hb, ← e]; exact ha)⟩
  · intro x hx
    rcases List.mem_append.mp hx with q | q
    · exact h3 x q
    · simp at q; rw [q]; exact hk
  · intro x hx
    rcases List.mem_append.mp hx with q | q
    · exact h4 x q
    · simp at q; rw [q]; exact hr
  · rcases get_snoc hi with ⟨q, e⟩ | ⟨q, e⟩
    · rcases h5 i g' e with ⟨a, b⟩ | ⟨j, u, d, b1, b2, b3, b4, b5, b6⟩
      · exact .inl ⟨a, by rw [List.getElem?_append_left (by omega)]; exact b⟩
      · refine .inr ⟨j, u, d, b1, ?_, b3, ?_, b5, ?_⟩
        · rw [List.getElem?_append_left (by omega)]; exact b2
        · rw [List.getElem?_append_left (by omega)]; exact b4
        · rw [List.getElem?_append_left (by omega)]; exact b6
    · subst e
      rw [q]
      have ev : (ds ++ [v])[gs.length]? = some v := by rw [← h1]; simp
      rcases hu with ⟨a, b⟩ | ⟨j, u, d, b1, b2, b3, b4, b5, b6⟩
      · exact .inl ⟨a, by rw [ev, b]⟩
      · refine .inr ⟨j, u, d, b1, ?_, b3, ?_, b5, by rw [ev, b6]⟩
        · rw [List.getElem?_append_left (by omega)]; exact b2
        · rw [List.getElem?_append_left (by omega)]; exact b4
theorem gD_0 (g : Gd) : ixO (.val (gD g)) (.val (.int 0)) = some (.val (sD g.nm)) := by unfold gD; simp
structure Ld where
  nm : List Nat
  pl : List Nat
  cs : List (Int × Int)
  la : Int
  on : Bool
def lD (l : Ld) : D := .tup [sD l.nm, sD l.pl, cv l.cs, .int l.la, .bl l.on]
def csOk (cs : List (Int × Int)) : Prop := cs.length ≤ 4 ∧ ∀ p ∈ cs, 1 ≤ p.1 ∧ numOk p.1 ∧ numOk p.2
structure LsOk (gs : List Gd) (ls : List Ld) : Prop where
  names : ∀ l ∈ ls, NameOk l.nm
  pl : ∀ l ∈ ls, l.pl ∈ gs.map Gd.nm
  rest : ∀ l ∈ ls, csOk l.cs ∧ numOk l.la
/-- a right board -/
structure Bd where
  gs : List Gd
  ls : List Ld
def bD (b : Bd) : D := .tup [.tup (b.gs.map gD), .tup (b.ls.map lD)]
structure BOk (b : Bd) : Prop where
  deep : ∃ ds, GsOk b.gs ds
  ls : LsOk b.gs b.ls
  g1 : 0 < b.gs.length
  g2 : b.gs.length ≤ 16
  l2 : b.ls.length ≤ 24
  nd : (b.gs.map Gd.nm ++ b.ls.map Ld.nm).Nodup

end Lw

namespace Lw
open PySem PySem.Spec L2 FB Wk
open PyProof.Rows hiding St
def sO (L : List (List Nat)) : O := vO (L.map sD)
theorem sO_toD (L : List (List Nat)) : (sO L).toD = .lst (L.map sD) := by unfold sO; rw [vO_toD]
theorem sO_apA (j : Nat) (L : List (List Nat)) (ρ : FB.Env) (mm : M O) : apA j mm ρ (some (some (sO L))) = apB j (mm ρ) := rfl
theorem sO_ap (j : Nat) (L : List (List Nat)) (l : List Nat) (h : L.length < 100) (ρ : FB.Env) : apC j (.val (sD l)) ρ (some (some (sO L))) = .ok (.val .non) (ρ.set j (some (sO (L ++ [l])))) := by
  unfold sO
  rw [vO_apC _ _ _ (by simp; omega)]; simp
theorem lD_0 (g : Ld) : ixO (.val (lD g)) (.val (.int 0)) = some (.val (sD g.nm)) := by unfold lD; simp
theorem lD_1 (y : Ld) : ixO (.val (lD y)) (.val (.int 1)) = some (.val (sD y.pl)) := by unfold lD; simp
theorem gD_1 (g : Gd) : ixO (.val (gD g)) (.val (.int 1)) = some (.val (uD g.un)) := by unfold gD; simp
theorem bD_0 (b : Bd) : ixO (.val (bD b)) (.val (.int 0)) = some (.val (.tup (b.gs.map gD))) := by unfold bD; simp
theorem bD_1 (b : Bd) : ixO (.val (bD b)) (.val (.int 1)) = some (.val (.tup (b.ls.map lD))) := by unfold bD; simp
theorem gu (b : Bd) (h : BOk b) : F_guards_of [.val (bD b)] = some (sO (b.gs.map Gd.nm), [none]) := by
  have hc := compL_all (ρ := [some (.val (bD b)), none]) (own := [1]) (a := aN 1) (t := mTrue) (e := mP (p2 ixO (pVar 1) (pC (.int 0)))) gD (fun g => O.val (sD g.nm)) (xs := b.gs) (by
    intro g hg
    have g0 := gD_0 g
    exact ⟨[some (.val (bD b)), some (.val (gD g))], [some (.val (bD b)), some (.val (gD g))], [some (.val (bD b)), some (.val (gD g))], by simp, by simp, by simp [g0], by simp⟩)
  have b0 := bD_0 b
  have hl : b.gs.length ≤ 1000000 := by have := h.g2; omega
  have q : q1_guards_of [some (.val (bD b)), none] = .ok (sO (b.gs.map Gd.nm)) [some (.val (bD b)), none] := by
    simp [q1_guards_of, b0, hl]
    rw [hc]
    simp [sO, vO, bkK_eta]
  unfold F_guards_of
  rw [runF_eq]
  simp [b_guards_of, q]
  rfl
/-! ### the dict of what each is under -/
def pK (gs : List Gd) : List Key := kD (gs.map Gd.nm)
def pV (gs : List Gd) : List O := gs.map fun g => O.val (uD g.un)
def prD (gs : List Gd) : D := .dct (pK gs) (gs.map fun g => uD g.un)
theorem prD_p (gs : List Gd) : dctP (.val (prD gs)) = some (pK gs, pV gs) := by
  show some (pK gs, (gs.map fun g => uD g.un).map O.val) = _
  rw [List.map_map]; rfl
theorem get_un {gs : List Gd} {g : Gd} {a : O} (hp : dctP a = some (pK gs, pV gs)) (nd : (gs.map Gd.nm).Nodup) (hg : g ∈ gs) : ixF a (.val (sD g.nm)) = some (.val (uD g.un)) := by
  obtain ⟨i, hi⟩ := List.getElem?_of_mem hg
  have e : ixF a (.val (sD g.nm)) = (idxK (pK gs) (.inr (SL g.nm))).bind fun j => (pV gs)[j]? := by
    have : dgO a (.val (sD g.nm)) = (idxK (pK gs) (.inr (SL g.nm))).bind fun j => (pV gs)[j]? := by
      unfold dgO; rw [hp]; rfl
    rw [← this]
    cases a with
    | val d => cases d <;> first | rfl | cases hp
    | dct _ _ => rfl
    | _ => cases hp
  rw [e]
  unfold pK pV
  rw [idx_some (i := i) nd (by rw [List.getElem?_map, hi]; rfl)]
  show (gs.map _)[i]? = _
  rw [List.getElem?_map, hi]; rfl
theorem prs_gs : ∀ (gs : List Gd), prs? (gs.map fun g => D.tup [sD g.nm, uD g.un]) = some (gs.map fun g => ((.inr (SL g.nm) : Key), uD g.un))
  | [] => rfl
  | g :: gs => by
    have ih := prs_gs gs
    rw [List.map_cons]
    show (some ((.inr (SL g.nm) : Key), uD g.un)).bind (fun p => (prs? (gs.map fun g => D.tup [sD g.nm, uD g.un])).map (p :: ·)) = _
    rw [ih]; rfl
theorem merge_nd {α : Type} : ∀ (kvs : List (Key × α)) (ks : List Key) (os : List α), (ks ++ kvs.map (·.1)).Nodup → mergeL (ks, os) kvs = (ks ++ kvs.map (·.1), os ++ kvs.map (·.2))
  | [], ks, os, _ => by simp [mergeL]
  | kv :: kvs, ks, os, nd => by
    have hk : kv.1 ∉ ks := fun z => by
      have := (List.nodup_append.mp nd).2.2 kv.1 z kv.1 (by simp)
      exact this rfl
    have hi : idxK ks kv.1 = none := by
      unfold idxK
      rw [List.findIdx?_eq_none_iff]
      intro x hx
      simp
      intro e
      exact hk (e ▸ hx)
    have e : mergeL (ks, os) (kv :: kvs) = mergeL (ks ++ [kv.1], os ++ [kv.2]) kvs := by
      show mergeL (putL ks os kv.1 kv.2) kvs = _
      unfold putL
      rw [hi]
    rw [e, merge_nd kvs _ _ (by simpa using nd)]
    simp
theorem inr_nd {gs : List Gd} (nd : (gs.map Gd.nm).Nodup) : (gs.map fun g => (.inr (SL g.nm) : Key)).Nodup := by
  have : (gs.map fun g => (.inr (SL g.nm) : Key)) = (gs.map Gd.nm).map fun l => (.inr (SL l) : Key) := by rw [List.map_map]; rfl
  rw [this]
  refine List.Pairwise.map _ (fun a b h z => h ?_) nd
  exact SL_inj (Sum.inr.inj z)
theorem dct_gs {gs : List Gd} (nd : (gs.map Gd.nm).Nodup) : dctOf (gs.map fun g => ((.inr (SL g.nm) : Key), uD g.un)) = prD gs := by
  unfold dctOf prD pK kD
  rw [merge_nd _ _ _ (by rw [List.nil_append, List.map_map]; exact inr_nd nd)]
  simp [List.map_map]
/-! ### upwards -/
inductive Ch (gs : List Gd) : Option (List Nat) → List (List Nat) → Prop
  | nil : Ch gs none []
  | cons {g : Gd} {L : List (List Nat)} : g ∈ gs → Ch gs g.un L → Ch gs (some g.nm) (g.nm :: L)
theorem ch_ex {gs : List Gd} {ds : List Nat} (h : GsOk gs ds) : ∀ (i : Nat) (g : Gd), gs[i]? = some g → ∃ L, Ch gs (some g.nm) L ∧ L.length ≤ i + 1 := by
  intro i
  induction i using Nat.strongRecOn with
  | ind i ih =>
    intro g hg
    have hm := List.mem_of_getElem? hg
    rcases h.under i g hg with ⟨hu, _⟩ | ⟨j, u, d, hj, hu, hn, _⟩
    · refine ⟨[g.nm], .cons hm ?_, by simp⟩
      rw [hu]; exact .nil
    · obtain ⟨L, hL, hl⟩ := ih j hj u hu
      refine ⟨g.nm :: L, .cons hm ?_, by simp; omega⟩
      rw [hn]; exact hL
theorem ch_mem {gs : List Gd} {ds : List Nat} (h : GsOk gs ds) {g : Gd} (hg : g ∈ gs) (hl : gs.length ≤ 16) : ∃ L, Ch gs (some g.nm) L ∧ L.length ≤ 16 := by
  obtain ⟨i, hi⟩ := List.getElem?_of_mem hg
  obtain ⟨L, h1, h2⟩ := ch_ex h i g hi
  have := (List.getElem?_eq_some_iff.mp hi).1
  exact ⟨L, h1, by omega⟩
theorem uD_ne (l : List Nat) : notNO (.val (sD l)) (.val .non) = some (.val (.bl true)) := rfl
theorem up_chain {gs : List Gd} (nd : (gs.map Gd.nm).Nodup) (x0 : Option O) {u : Option (List Nat)} {L : List (List Nat)} (c : Ch gs u L) : ∀ (F : List (List Nat)) (n : Nat), F.length + L.length < 100 → L.length < n →
    whileN t1_chain b1_chain n [x0, some (.val (uD u)), some (.val (prD gs)), some (sO F), none] = .ok .nx [x0, some (.val .non), some (.val (prD gs)), some (sO (F ++ L)), none] := by
  induction c with
  | nil =>
    intro F n h1 h2
    cases n with
    | zero => simp at h2
    | succ n =>
      unfold whileN
      have e : notNO (.val (uD none)) (.val .non) = some (.val (.bl false)) := rfl
      simp [t1_chain, e]
      rfl
  | @cons g L hg hc ih =>
    intro F n h1 h2
    cases n with
    | zero => simp at h2
    | succ n =>
      have e := uD_ne g.nm
      have ap := sO_apA 3 F
      have ac := sO_ap 3 F g.nm (by simp at h1; omega)
      have ix := get_un (prD_p gs) nd hg
      have ih := ih (F ++ [g.nm]) n (by simp at h1 ⊢; omega) (by simp at h2; omega)
      rw [List.append_assoc] at ih
      rw [show F ++ ([g.nm] ++ L) = F ++ g.nm :: L by simp] at ih
      have ht : t1_chain [x0, some (.val (uD (some g.nm))), some (.val (prD gs)), some (sO F), none] = .ok true [x0, some (.val (uD (some g.nm))), some (.val (prD gs)), some (sO F), none] := by
        have e : notNO (.val (uD (some g.nm))) (.val .non) = some (.val (.bl true)) := rfl
        simp [t1_chain, e]
      have hb : b1_chain [x0, some (.val (uD (some g.nm))), some (.val (prD gs)), some (sO F), none] = .ok .nx [x0, some (.val (uD g.un)), some (.val (prD gs)), some (sO (F ++ [g.nm])), none] := by
        show b1_chain [x0, some (.val (sD g.nm)), some (.val (prD gs)), some (sO F), none] = _
        generalize prD gs = PD at *
        generalize sO (F ++ [g.nm]) = S2 at *
        generalize sO F = S1 at *
        simp [b1_chain, ap, ac, ix]
      unfold whileN
      rw [ht]
      simp [hb, ih]
theorem chain {gs : List Gd} (nd : (gs.map Gd.nm).Nodup) (hl : gs.length ≤ 100) {l : List Nat} {L : List (List Nat)} (c : Ch gs (some l) L) (h16 : L.length ≤ 16) : F_chain [.val (.tup (gs.map gD)), .val (sD l)] = some (sO L, [none, none]) := by
  have hc := compL_all (ρ := [some (.val (.tup (gs.map gD))), some (.val (sD l)), none, none, none]) (own := [4]) (a := aN 4) (t := mTrue) (e := mP (pTup (pCons (p2 ixO (pVar 4) (pC (.int 0))) (pCons (p2 ixO (pVar 4) (pC (.int 1))) pNil)))) gD (fun g => O.val (.tup [sD g.nm, uD g.un])) (xs := gs) (by
    intro g hg
    have g0 := gD_0 g
    have g1 := gD_1 g
    exact ⟨[some (.val (.tup (gs.map gD))), some (.val (sD l)), none, none, some (.val (gD g))], [some (.val (.tup (gs.map gD))), some (.val (sD l)), none, none, some (.val (gD g))], [some (.val (.tup (gs.map gD))), some (.val (sD l)), none, none, some (.val (gD g))], by simp, by simp, by simp [g0, g1], by simp⟩)
  have q : q1_chain [some (.val (.tup (gs.map gD))), some (.val (sD l)), none, none, none] = .ok (vO (gs.map fun g => D.tup [sD g.nm, uD g.un])) [some (.val (.tup (gs.map gD))), some (.val (sD l)), none, none, none] := by
    simp [q1_chain, show gs.length ≤ 1000000 by omega]
    rw [hc]
    simp [vO, bkK_eta]
  have w := up_chain nd (some (.val (.tup (gs.map gD)))) c [] fuel (by simp; omega) (by rw [fuel_eq]; omega)
  rw [List.nil_append] at w
  have pg := prs_gs gs
  have dg := dct_gs nd
  have vt := vO_toD (gs.map fun g => D.tup [sD g.nm, uD g.un])
  generalize vO (gs.map fun g => D.tup [sD g.nm, uD g.un]) = VV at *
  have w' : whileN t1_chain b1_chain fuel [some (.val (.tup (gs.map gD))), some (.val (sD l)), some (.val (prD gs)), some (O.lst []), none] = .ok .nx [some (.val (.tup (gs.map gD))), some (.val .non), some (.val (prD gs)), some (sO L), none] := w
  generalize sO L = S at *
  unfold F_chain
  rw [runF_eq]
  simp [b_chain, q, vt, pg, dg, mWhile, w']
  rfl

end Lw

namespace Lw
open PySem PySem.Spec L2 FB Wk
open PyProof.Rows hiding St
theorem map_sD (L : List (List Nat)) : L.map sD = (L.map SL).map D.str := by rw [List.map_map]; rfl
theorem SL_eq (l m : List Nat) : decide (SL l = SL m) = decide (l = m) := by
  by_cases h : l = m
  · subst h; simp
  · rw [decide_eq_false h, decide_eq_false fun z => h (SL_inj z)]
theorem in_names (l : List Nat) (L : List (List Nat)) : inH (.val (sD l)) (sO L) = some (.val (.bl (decide (l ∈ L)))) := by
  show inO (.val (.str (SL l))) (sO L) = _
  unfold inO
  rw [sO_toD, map_sD]
  show (inD (.str (SL l)) (.lst ((L.map SL).map D.str))).map _ = _
  rw [inD_strs]
  show some (O.val (.bl _)) = _
  congr 3
  rw [List.any_map]
  induction L with
  | nil => simp
  | cons m L ih =>
    rw [List.any_cons, ih]
    show (decide (SL m = SL l) || _) = _
    rw [SL_eq]
    by_cases h : m = l
    · subst h; simp
    · simp [h, show ¬ l = m from fun z => h z.symm]
theorem eq_name0 (l m : List Nat) : eqO (.val (sD l)) (.val (sD m)) = some (.val (.bl (decide (l = m)))) := by
  show eqO (.val (.str (SL l))) (.val (.str (SL m))) = _
  rw [eqO_str, SL_eq]
/-- what stands over a name -/
def OverL (b : Bd) (l : List Nat) (L : List (List Nat)) : Prop := (l ∈ b.gs.map Gd.nm ∧ Ch b.gs (some l) L) ∨ ∃ x ∈ b.ls, x.nm = l ∧ Ch b.gs (some x.pl) L
theorem over_ex (b : Bd) (h : BOk b) {l : List Nat} (hl : l ∈ b.gs.map Gd.nm ++ b.ls.map Ld.nm) : ∃ L, OverL b l L ∧ L.length ≤ 16 := by
  obtain ⟨ds, hg⟩ := h.deep
  rcases List.mem_append.mp hl with q | q
  · obtain ⟨g, h1, h2⟩ := List.mem_map.mp q
    obtain ⟨L, c, hL⟩ := ch_mem hg h1 h.g2
    exact ⟨L, .inl ⟨q, h2 ▸ c⟩, hL⟩
  · obtain ⟨x, h1, h2⟩ := List.mem_map.mp q
    have ha := h.ls.pl x h1
    obtain ⟨g, h3, h4⟩ := List.mem_map.mp ha
    obtain ⟨L, c, hL⟩ := ch_mem hg h3 h.g2
    exact ⟨L, .inr ⟨x, h1, h2, h4 ▸ c⟩, hL⟩

end Lw

namespace Lw
open PySem PySem.Spec L2 FB Wk
open PyProof.Rows hiding St
theorem ld_eq {b : Bd} (h : BOk b) {x y : Ld} (hx : x ∈ b.ls) (hy : y ∈ b.ls) (e : x.nm = y.nm) : x = y := by
  have nd := (List.nodup_append.mp h.nd).2.1
  obtain ⟨i, hi⟩ := List.getElem?_of_mem hx
  obtain ⟨j, hj⟩ := List.getElem?_of_mem hy
  have i1 := (List.getElem?_eq_some_iff.mp hi).1
  have j1 := (List.getElem?_eq_some_iff.mp hj).1
  have : i = j := by
    have a1 : (b.ls.map Ld.nm)[i]? = some x.nm := by rw [List.getElem?_map, hi]; rfl
    have a2 : (b.ls.map Ld.nm)[j]? = some x.nm := by rw [List.getElem?_map, hj, e]; rfl
    exact (List.getElem?_inj (by simpa using i1) nd).mp (a1.trans a2.symm)
  subst this
  rw [hi] at hj
  cases hj; rfl
theorem apart {b : Bd} (h : BOk b) {x : Ld} (hx : x ∈ b.ls) {l : List Nat} (hl : l ∈ b.gs.map Gd.nm) : x.nm ≠ l := fun e => by
  have := (List.nodup_append.mp h.nd).2.2 l hl x.nm (List.mem_map.mpr ⟨x, hx, rfl⟩)
  exact this e.symm
theorem lsnd {b : Bd} (h : BOk b) : (b.ls.map Ld.nm).Nodup := (List.nodup_append.mp h.nd).2.1
theorem gsnd {b : Bd} (h : BOk b) : (b.gs.map Gd.nm).Nodup := (List.nodup_append.mp h.nd).1
theorem in_names0 (l : List Nat) (L : List (List Nat)) : inO (.val (sD l)) (sO L) = some (.val (.bl (decide (l ∈ L)))) := in_names l L
theorem over_run (b : Bd) (h : BOk b) {l : List Nat} {L : List (List Nat)} (o : OverL b l L) (h16 : L.length ≤ 16) : F_over [.val (bD b), .val (sD l)] = some (sO L, [none, none]) := by
  have b0 := bD_0 b
  have b1 := bD_1 b
  have G := gu b h
  have hi := in_names0 l (b.gs.map Gd.nm)
  have g16 := h.g2
  rcases o with ⟨hl, c⟩ | ⟨x, hx, rfl, c⟩
  · have ch := chain (gsnd h) (by omega) c h16
    rw [decide_eq_true hl] at hi
    generalize sO (b.gs.map Gd.nm) = S1 at *
    generalize sO L = S2 at *
    unfold F_over
    rw [runF_eq]
    simp [b_over, G, hi, b0, ch]
    rfl
  · have ch := chain (gsnd h) (by omega) c h16
    have hn : x.nm ∉ b.gs.map Gd.nm := fun z => apart h hx z rfl
    rw [decide_eq_false hn] at hi
    have lp := forL_all (a := aTup (aCons (aN 2) (aCons (aN 3) (aCons (aN 4) (aCons (aN 5) (aCons (aN 6) (aNil))))))) (b := b1_over) lD (fun c : Option O × Option O × Option O × Option O × Option O => E_over (some (.val (bD b))) (some (.val (sD x.nm))) c.1 c.2.1 c.2.2.1 c.2.2.2.1 c.2.2.2.2) (fun y => !decide (y.nm = x.nm)) (fun _ => sO L) (fun _ y => (some (.val (sD y.nm)), some (.val (sD y.pl)), some (.val (cv y.cs)), some (.val (.int y.la)), some (.val (.bl y.on)))) (xs := b.ls) (none, none, none, none, none) (by
      intro y hy c
      have eg := eq_name0 y.nm x.nm
      refine ⟨fun hp => ?_, fun hp => ?_⟩
      · have e : ¬ y.nm = x.nm := by simpa using hp
        rw [decide_eq_false e] at eg
        simp [b1_over, eg, lD]
      · have e : y.nm = x.nm := by simpa using hp
        have ey : y = x := ld_eq h hy hx e
        subst ey
        rw [decide_eq_true rfl] at eg
        refine ⟨E_over (some (.val (bD b))) (some (.val (sD y.nm))) (some (.val (sD y.nm))) (some (.val (sD y.pl))) (some (.val (cv y.cs))) (some (.val (.int y.la))) (some (.val (.bl y.on))), ?_⟩
        generalize sO L = S2 at *
        simp [b1_over, eg, b0, ch, lD])
    rcases lp with ⟨hall, _⟩ | ⟨_, _, _, ρ2, lp⟩
    · have := List.all_eq_true.mp hall x hx
      simp at this
    · generalize sO (b.gs.map Gd.nm) = S1 at *
      generalize sO L = S2 at *
      unfold F_over
      rw [runF_eq]
      simp at lp
      simp [b_over, G, hi, b1, lp]
      rfl

end Lw

namespace Lw
open PySem PySem.Spec L2 FB Wk
open PyProof.Rows hiding St
/-! dicts made of pairs of a name and a thing -/
section
variable {α : Type} (k : α → List Nat) (v : α → D)
def dK (xs : List α) : D := .dct (kD (xs.map k)) (xs.map v)
theorem prs_gen : ∀ (xs : List α), prs? (xs.map fun x => D.tup [sD (k x), v x]) = some (xs.map fun x => ((.inr (SL (k x)) : Key), v x))
  | [] => rfl
  | x :: xs => by
    have ih := prs_gen xs
    rw [List.map_cons]
    show (some ((.inr (SL (k x)) : Key), v x)).bind (fun p => (prs? (xs.map fun x => D.tup [sD (k x), v x])).map (p :: ·)) = _
    rw [ih]; rfl
theorem kD_nd {ms : List (List Nat)} (nd : ms.Nodup) : (kD ms).Nodup := by
  unfold kD
  exact List.Pairwise.map _ (fun a b h z => h (SL_inj (Sum.inr.inj z))) nd
theorem dct_gen {xs : List α} (nd : (xs.map k).Nodup) : dctOf (xs.map fun x => ((.inr (SL (k x)) : Key), v x)) = dK k v xs := by
  unfold dctOf dK
  have e : (xs.map fun x => ((.inr (SL (k x)) : Key), v x)).map (·.1) = kD (xs.map k) := by unfold kD; rw [List.map_map, List.map_map]; rfl
  rw [merge_nd _ _ _ (by rw [List.nil_append, e]; exact kD_nd nd), e]
  simp [List.map_map]
end
end Lw

namespace Lw
open PySem PySem.Spec L2 FB Wk
open PyProof.Rows hiding St
def nms (b : Bd) : List (List Nat) := b.gs.map Gd.nm ++ b.ls.map Ld.nm
def nmV (b : Bd) : D := .lst ((nms b).map sD)
theorem nms_ok {b : Bd} (h : BOk b) : ∀ l ∈ nms b, NameOk l := fun l hl => by
  obtain ⟨ds, hg⟩ := h.deep
  rcases List.mem_append.mp hl with q | q
  · obtain ⟨g, h1, h2⟩ := List.mem_map.mp q
    rw [← h2]; exact hg.names g h1
  · obtain ⟨g, h1, h2⟩ := List.mem_map.mp q
    rw [← h2]; exact h.ls.names g h1
/-- some open ones, as a list or tuple -/
def OpT (t : D) (S : List (List Nat)) : Prop := t = .lst (S.map sD) ∨ t = .tup (S.map sD)
theorem any_dec (m : List Nat) (S : List (List Nat)) : (S.map SL).any (fun y => decide (y = SL m)) = decide (m ∈ S) := by
  rw [List.any_map]
  induction S with
  | nil => simp
  | cons s S ih =>
    rw [List.any_cons, ih]
    show (decide (SL s = SL m) || _) = _
    rw [SL_eq]
    by_cases h : s = m
    · subst h; simp
    · simp [h, show ¬ m = s from fun z => h z.symm]
theorem op_in {t : D} {S : List (List Nat)} (h : OpT t S) (m : List Nat) : inO (.val (sD m)) (.val t) = some (.val (.bl (decide (m ∈ S)))) := by
  rcases h with h | h <;> subst h
  · show (inD (.str (SL m)) (.lst (S.map sD))).map _ = _
    rw [map_sD, inD_strs, any_dec]; rfl
  · show (inD (.str (SL m)) (.tup (S.map sD))).map _ = _
    have q : inD (.str (SL m)) (.tup (S.map sD)) = inD (.str (SL m)) (.lst (S.map sD)) := by
      rw [map_sD]
      have h : D.flat (.str (SL m)) = true ∧ ((S.map SL).map D.str).all D.flat = true := ⟨rfl, by simp⟩
      show (if D.flat (.str (SL m)) = true ∧ ((S.map SL).map D.str).all D.flat = true then _ else _) = (if D.flat (.str (SL m)) = true ∧ ((S.map SL).map D.str).all D.flat = true then _ else _)
      rw [if_pos h, if_pos h]
    rw [q, map_sD, inD_strs, any_dec]; rfl
def fedB (L S : List (List Nat)) : Bool := !L.any fun m => decide (m ∈ S)

end Lw

namespace Lw
open PySem PySem.Spec L2 FB Wk
open PyProof.Rows hiding St
theorem nm_len (b : Bd) (h : BOk b) : 0 < (nms b).length ∧ (nms b).length ≤ 40 := by
  have g1 := h.g1
  have g2 := h.g2
  have l2 := h.l2
  unfold nms
  simp
  omega
theorem okE_names (n : Nat) (S : List (List Nat)) : (S.map sD).all (D.okE n) = true := by
  rw [List.all_eq_true]
  intro d hd
  obtain ⟨l, _, rfl⟩ := List.mem_map.mp hd
  exact okE_str n _
end Lw

namespace Lw
open PySem PySem.Spec L2 FB Wk
open PyProof.Rows hiding St
theorem nmV_ix (b : Bd) (k : Nat) (hk : k < (nms b).length) : ∃ l ∈ nms b, ixO (.val (nmV b)) (.val (.int (k : Int))) = some (.val (sD l)) := by
  refine ⟨(nms b)[k], List.getElem_mem hk, ?_⟩
  show (atI ((nms b).map sD) (k : Int)).map O.val = _
  rw [atN, List.getElem?_map, List.getElem?_eq_getElem hk]; rfl

end Lw

namespace Lw
open PySem PySem.Spec L2 FB Wk
open PyProof.Rows hiding St
/-! dicts from names -/
def updN (v : List Nat → D) (n : List Nat) (d : D) : List Nat → D := fun m => if m = n then d else v m
def mD (ks : List (List Nat)) (v : List Nat → D) : D := .dct (kD ks) (ks.map v)
def mO (ks : List (List Nat)) (v : List Nat → D) : O := .dct (kD ks) ((ks.map v).map O.val)
theorem mO_toD (ks : List (List Nat)) (v : List Nat → D) : (mO ks v).toD = mD ks v := by
  show D.dct (kD ks) (O.toDs ((ks.map v).map O.val)) = _
  rw [toDs_vals]; rfl
theorem dctP_mD (ks : List (List Nat)) (v : List Nat → D) : dctP (.val (mD ks v)) = some (kD ks, (ks.map v).map O.val) := rfl
theorem dctP_mO (ks : List (List Nat)) (v : List Nat → D) : dctP (mO ks v) = some (kD ks, (ks.map v).map O.val) := rfl
theorem idx_of {ks : List (List Nat)} (nd : ks.Nodup) {n : List Nat} (h : n ∈ ks) : ∃ i, ks[i]? = some n ∧ idxK (kD ks) (.inr (SL n)) = some i := by
  obtain ⟨i, hi⟩ := List.getElem?_of_mem h
  exact ⟨i, hi, idx_some nd hi⟩
theorem dg_m {a : O} {ks : List (List Nat)} {v : List Nat → D} (ha : dctP a = some (kD ks, (ks.map v).map O.val)) (nd : ks.Nodup) {n : List Nat} (h : n ∈ ks) : dgO a (.val (sD n)) = some (.val (v n)) := by
  obtain ⟨i, hi, e⟩ := idx_of nd h
  unfold dgO
  rw [ha]
  show ((idxK (kD ks) (.inr (SL n))).bind fun j => ((ks.map v).map O.val)[j]?) = _
  rw [e]
  show ((ks.map v).map O.val)[i]? = _
  rw [List.getElem?_map, List.getElem?_map, hi]; rfl
theorem ix_mD {ks : List (List Nat)} {v : List Nat → D} (nd : ks.Nodup) {n : List Nat} (h : n ∈ ks) : ixF (.val (mD ks v)) (.val (sD n)) = some (.val (v n)) := dg_m (dctP_mD ks v) nd h
theorem ix_mO {ks : List (List Nat)} {v : List Nat → D} (nd : ks.Nodup) {n : List Nat} (h : n ∈ ks) : ixF (mO ks v) (.val (sD n)) = some (.val (v n)) := dg_m (dctP_mO ks v) nd h
theorem get_m {a : O} {ks : List (List Nat)} {v : List Nat → D} (ha : dctP a = some (kD ks, (ks.map v).map O.val)) (nd : ks.Nodup) (n : List Nat) (c : D) : getO a (.val (sD n)) (.val c) = some (.val (if n ∈ ks then v n else c)) := by
  unfold getO
  rw [ha]
  show some (getK (kD ks, (ks.map v).map O.val) (.val c) (some (.inr (SL n)))) = _
  by_cases h : n ∈ ks
  · obtain ⟨i, hi, e⟩ := idx_of nd h
    rw [if_pos h]
    show some (((idxK (kD ks) (.inr (SL n))).bind fun j => ((ks.map v).map O.val)[j]?).getD (.val c)) = _
    rw [e]
    show some ((((ks.map v).map O.val)[i]?).getD (.val c)) = _
    rw [List.getElem?_map, List.getElem?_map, hi]; rfl
  · rw [if_neg h]
    show some (((idxK (kD ks) (.inr (SL n))).bind fun j => ((ks.map v).map O.val)[j]?).getD (.val c)) = _
    rw [idx_none h]; rfl
theorem get_mO {ks : List (List Nat)} {v : List Nat → D} (nd : ks.Nodup) (n : List Nat) (c : D) : getO (mO ks v) (.val (sD n)) (.val c) = some (.val (if n ∈ ks then v n else c)) := get_m (dctP_mO ks v) nd n c
theorem set_new {ks : List (List Nat)} {v : List Nat → D} {n : List Nat} (h : n ∉ ks) (hl : ks.length < 1000000) (d : D) : setItO (mO ks v) (.val (sD n)) (.val d) = some (mO (ks ++ [n]) (updN v n d)) := by
  show (if (kD ks).length < 1000000 then some (O.dct (putL (kD ks) ((ks.map v).map O.val) (.inr (SL n)) (.val d)).1 (putL (kD ks) ((ks.map v).map O.val) (.inr (SL n)) (.val d)).2) else none) = _
  rw [if_pos (by unfold kD; simpa using hl)]
  unfold putL
  rw [idx_none h]
  unfold mO
  have e1 : kD (ks ++ [n]) = kD ks ++ [.inr (SL n)] := by unfold kD; simp
  have e2 : (ks ++ [n]).map (updN v n d) = ks.map v ++ [d] := by
    rw [List.map_append]
    congr 1
    · exact List.map_congr_left fun m hm => if_neg fun (e : m = n) => h (e ▸ hm)
    · simp [updN]
  rw [e1, e2, List.map_append]; rfl
theorem set_old {ks : List (List Nat)} {v : List Nat → D} (nd : ks.Nodup) {n : List Nat} (h : n ∈ ks) (hl : ks.length < 1000000) (d : D) : setItO (mO ks v) (.val (sD n)) (.val d) = some (mO ks (updN v n d)) := by
  obtain ⟨i, hi, e⟩ := idx_of nd h
  show (if (kD ks).length < 1000000 then some (O.dct (putL (kD ks) ((ks.map v).map O.val) (.inr (SL n)) (.val d)).1 (putL (kD ks) ((ks.map v).map O.val) (.inr (SL n)) (.val d)).2) else none) = _
  rw [if_pos (by unfold kD; simpa using hl)]
  unfold putL
  rw [e]
  unfold mO
  show some (O.dct (kD ks) (((ks.map v).map O.val).set i (.val d))) = _
  congr 2
  apply List.ext_getElem?
  intro j
  have il : i < ks.length := (List.getElem?_eq_some_iff.mp hi).1
  by_cases ej : i = j
  · subst ej
    rw [List.getElem?_set_self (by simpa using il), List.getElem?_map, List.getElem?_map, hi]
    simp [updN]
  · rw [List.getElem?_set_ne ej, List.getElem?_map, List.getElem?_map, List.getElem?_map, List.getElem?_map]
    cases hj : ks[j]? with
    | none => rfl
    | some m =>
      have : m ≠ n := fun z => by
        subst z
        exact ej ((List.getElem?_inj il nd).mp (hi.trans hj.symm))
      simp [updN, this]
theorem aug_mO {ρ : FB.Env} {i : Nat} {g : Int → Int → Int} {nn mm : Pf} {ks : List (List Nat)} {v : List Nat → D} {n : List Nat} {x y : Int} (h0 : ρ[i]? = some (some (mO ks v))) (hn : nn ρ = some (.val (sD n))) (hm : mm ρ = some (.val (.int y))) (nd : ks.Nodup) (h : n ∈ ks) (hv : v n = .int x) (hl : ks.length < 1000000) :
    mAugI i g nn mm ρ = .ok .nx (ρ.set i (some (mO ks (updN v n (.int (g x y)))))) :=
  e_mAugI i g nn mm (mO ks v) (mO ks (updN v n (.int (g x y)))) (sD n) x y h0 hn hm ((dg_m (dctP_mO ks v) nd h).trans (by rw [hv])) (set_old nd h hl _)
theorem keys_mD (ks : List (List Nat)) : (kD ks).map keyD = ks.map sD := by unfold kD; rw [List.map_map]; rfl
theorem strOk_SL {l : List Nat} (h : ∀ c ∈ l, c < 26) : PyData.strOk (SL l) = true := by
  show (SL l).cps.all (· < 0x110000) = true
  rw [← Array.all_toList, List.all_eq_true]
  intro c hc
  obtain ⟨a, ha, rfl⟩ := List.mem_map.mp (show c ∈ l.map (97 + ·) by simpa [SL] using hc)
  have := h a ha
  simp; omega
theorem keyOk_kD {ks : List (List Nat)} (h : ∀ l ∈ ks, NameOk l) : (kD ks).all keyOk = true := by
  rw [List.all_eq_true]
  intro k hk
  obtain ⟨l, hl, rfl⟩ := List.mem_map.mp hk
  exact strOk_SL (h l hl).2.2
theorem keysOf_mD {ρ : FB.Env} {i : Nat} {ks : List (List Nat)} {v : List Nat → D} (h : ρ[i]? = some (some (.val (mD ks v)))) (hk : ∀ l ∈ ks, NameOk l) (hl : ks.length ≤ 1000000) : keysOf i ρ = some (ks.map sD, ρ) := by
  rw [← keys_mD]
  exact keysOf_val (ks := kD ks) (ds := ks.map v) h (keyOk_kD hk) (by unfold kD; simpa using hl)
theorem keysOf_mO {ρ : FB.Env} {i : Nat} {ks : List (List Nat)} {v : List Nat → D} (h : ρ[i]? = some (some (mO ks v))) (hk : ∀ l ∈ ks, NameOk l) (hl : ks.length ≤ 1000000) : keysOf i ρ = some (ks.map sD, ρ.set i (some (.val (mD ks v)))) := by
  rw [← keys_mD, ← mO_toD]
  exact keysOf_dct (ks := kD ks) (os := (ks.map v).map O.val) h (keyOk_kD hk) (by unfold kD; simpa using hl)
theorem list_mD {ks : List (List Nat)} (v : List Nat → D) (hk : ∀ l ∈ ks, NameOk l) : listKO (.val (mD ks v)) = some (.val (.lst (ks.map sD))) := by
  rw [← keys_mD]
  exact listKO_val (kD ks) (ks.map v) (keyOk_kD hk)
theorem mO_nil (v : List Nat → D) : (O.dct [] [] : O) = mO [] v := rfl
theorem dct_mD {α : Type} (k : α → List Nat) (v : List Nat → D) {xs : List α} (nd : (xs.map k).Nodup) : dctOf (xs.map fun x => ((.inr (SL (k x)) : Key), v (k x))) = mD (xs.map k) v := by
  rw [dct_gen k (fun x => v (k x)) nd]
  unfold dK mD
  rw [List.map_map]; rfl

end Lw

namespace Lw
open PySem PySem.Spec L2 FB Wk
open PyProof.Rows hiding St
/-! what is over a name, as a function -/
theorem ch_in {gs : List Gd} {u : Option (List Nat)} {L : List (List Nat)} (c : Ch gs u L) : ∀ m ∈ L, m ∈ gs.map Gd.nm := by
  induction c with
  | nil => intro m hm; simp at hm
  | cons hg _ ih =>
    intro m hm
    rcases List.mem_cons.mp hm with e | hm
    · subst e; exact List.mem_map.mpr ⟨_, hg, rfl⟩
    · exact ih m hm
theorem gd_eq {gs : List Gd} (nd : (gs.map Gd.nm).Nodup) {g g' : Gd} (h : g ∈ gs) (h' : g' ∈ gs) (e : g.nm = g'.nm) : g = g' := by
  obtain ⟨i, hi⟩ := List.getElem?_of_mem h
  obtain ⟨j, hj⟩ := List.getElem?_of_mem h'
  have i1 := (List.getElem?_eq_some_iff.mp hi).1
  have : i = j := by
    have a1 : (gs.map Gd.nm)[i]? = some g.nm := by rw [List.getElem?_map, hi]; rfl
    have a2 : (gs.map Gd.nm)[j]? = some g.nm := by rw [List.getElem?_map, hj, e]; rfl
    exact (List.getElem?_inj (by simpa using i1) nd).mp (a1.trans a2.symm)
  subst this
  rw [hi] at hj
  cases hj; rfl
theorem ch_uniq {gs : List Gd} (nd : (gs.map Gd.nm).Nodup) {u : Option (List Nat)} {L : List (List Nat)} (c : Ch gs u L) : ∀ {L' : List (List Nat)}, Ch gs u L' → L = L' := by
  induction c with
  | nil => intro L' c'; cases c'; rfl
  | cons hg _ ih =>
    intro L' c'
    generalize eu : some _ = u at c'
    cases c' with
    | nil => cases eu
    | cons hg' c2 =>
      have := gd_eq nd hg hg' (Option.some.inj eu)
      subst this
      rw [ih c2]
/-- a chain falls along the places -/
theorem ch_fall {gs : List Gd} {ds : List Nat} (h : GsOk gs ds) : ∀ (i : Nat) (g : Gd) (L : List (List Nat)), gs[i]? = some g → Ch gs (some g.nm) L → ∃ L', L = g.nm :: L' ∧ Ch gs g.un L' ∧ L.Nodup ∧ ∀ m ∈ L', ∃ (j : Nat) (k : Gd), j < i ∧ gs[j]? = some k ∧ k.nm = m := by
  intro i
  induction i using Nat.strongRecOn with
  | ind i ih =>
    intro g L hg c
    have hm := List.mem_of_getElem? hg
    generalize eu : some g.nm = u at c
    cases c with
    | nil => cases eu
    | cons hg' c2 =>
      rename_i g' L'
      have := gd_eq h.nd hm hg' (Option.some.inj eu)
      subst this
      have key : L'.Nodup ∧ ∀ m ∈ L', ∃ (j : Nat) (k : Gd), j < i ∧ gs[j]? = some k ∧ k.nm = m := by
        rcases h.under i g hg with ⟨hu, _⟩ | ⟨j, u, d, hj, hu, hn, _⟩
        · rw [hu] at c2
          cases c2
          exact ⟨List.nodup_nil, fun m hm => by simp at hm⟩
        · rw [hn] at c2
          obtain ⟨L2, rfl, _, nd2, h2⟩ := ih j hj u L' hu c2
          refine ⟨nd2, fun m hm => ?_⟩
          rcases List.mem_cons.mp hm with e | hm
          · exact ⟨j, u, hj, hu, e.symm⟩
          · obtain ⟨k, x, q1, q2, q3⟩ := h2 m hm
            exact ⟨k, x, by omega, q2, q3⟩
      refine ⟨L', rfl, c2, List.nodup_cons.mpr ⟨fun z => ?_, key.1⟩, key.2⟩
      obtain ⟨j, k, hj, hk, e⟩ := key.2 _ z
      have i1 := (List.getElem?_eq_some_iff.mp hg).1
      have a1 : (gs.map Gd.nm)[i]? = some g.nm := by rw [List.getElem?_map, hg]; rfl
      have a2 : (gs.map Gd.nm)[j]? = some g.nm := by rw [List.getElem?_map, hk, ← e]; rfl
      have := (List.getElem?_inj (by simpa using i1) h.nd).mp (a1.trans a2.symm)
      omega
theorem ch_nodup {gs : List Gd} {ds : List Nat} (h : GsOk gs ds) {u : Option (List Nat)} {L : List (List Nat)} (c : Ch gs u L) : L.Nodup := by
  cases c with
  | nil => exact List.nodup_nil
  | cons hg c2 =>
    obtain ⟨i, hi⟩ := List.getElem?_of_mem hg
    obtain ⟨_, _, _, nd, _⟩ := ch_fall h i _ _ hi (.cons hg c2)
    exact nd
open Classical in
noncomputable def ovr (b : Bd) (l : List Nat) : List (List Nat) := if h : ∃ L, OverL b l L ∧ L.length ≤ 16 then Classical.choose h else []
theorem ovr_ok {b : Bd} (h : BOk b) {l : List Nat} (hl : l ∈ nms b) : OverL b l (ovr b l) ∧ (ovr b l).length ≤ 16 := by
  have e := over_ex b h hl
  unfold ovr
  rw [dif_pos e]
  exact Classical.choose_spec e
theorem over_uniq {b : Bd} (h : BOk b) {l : List Nat} {L L' : List (List Nat)} (o : OverL b l L) (o' : OverL b l L') : L = L' := by
  have nd := gsnd h
  rcases o with ⟨h1, c⟩ | ⟨x, h1, e, c⟩ <;> rcases o' with ⟨h2, c'⟩ | ⟨y, h2, e', c'⟩
  · exact ch_uniq nd c c'
  · exact absurd e' (apart h h2 h1)
  · exact absurd e (apart h h1 h2)
  · have := ld_eq h h1 h2 (e.trans e'.symm)
    subst this
    exact ch_uniq nd c c'
theorem ovr_eq {b : Bd} (h : BOk b) {l : List Nat} {L : List (List Nat)} (hl : l ∈ nms b) (o : OverL b l L) : ovr b l = L := over_uniq h (ovr_ok h hl).1 o
theorem over_in {b : Bd} {l : List Nat} {L : List (List Nat)} (o : OverL b l L) : ∀ m ∈ L, m ∈ b.gs.map Gd.nm := by
  rcases o with ⟨_, c⟩ | ⟨_, _, _, c⟩ <;> exact ch_in c
theorem over_nodup {b : Bd} (h : BOk b) {l : List Nat} {L : List (List Nat)} (o : OverL b l L) : L.Nodup := by
  obtain ⟨ds, hg⟩ := h.deep
  rcases o with ⟨_, c⟩ | ⟨_, _, _, c⟩ <;> exact ch_nodup hg c
theorem nms_g {b : Bd} {l : List Nat} (h : l ∈ b.gs.map Gd.nm) : l ∈ nms b := List.mem_append_left _ h
theorem nms_l {b : Bd} {l : List Nat} (h : l ∈ b.ls.map Ld.nm) : l ∈ nms b := List.mem_append_right _ h
theorem nms_gs {b : Bd} {g : Gd} (h : g ∈ b.gs) : g.nm ∈ nms b := nms_g (List.mem_map.mpr ⟨g, h, rfl⟩)
theorem nms_ls {b : Bd} {x : Ld} (h : x ∈ b.ls) : x.nm ∈ nms b := nms_l (List.mem_map.mpr ⟨x, h, rfl⟩)
/-- over a guard: itself, then over its under -/
theorem ovr_guard {b : Bd} (h : BOk b) {g : Gd} (hg : g ∈ b.gs) : Ch b.gs (some g.nm) (ovr b g.nm) := by
  rcases (ovr_ok h (nms_gs hg)).1 with ⟨_, c⟩ | ⟨x, hx, e, _⟩
  · exact c
  · exact absurd e (apart h hx (List.mem_map.mpr ⟨g, hg, rfl⟩))
theorem ovr_load {b : Bd} (h : BOk b) {x : Ld} (hx : x ∈ b.ls) : ovr b x.nm = ovr b x.pl := by
  refine ovr_eq h (nms_ls hx) (.inr ⟨x, hx, rfl, ?_⟩)
  have hp := h.ls.pl x hx
  rcases (ovr_ok h (nms_g hp)).1 with ⟨_, c⟩ | ⟨y, hy, e, _⟩
  · exact c
  · exact absurd e (apart h hy hp)
def ovU (b : Bd) : Option (List Nat) → (List Nat → List (List Nat)) → List (List Nat)
  | none, _ => []
  | some u, f => f u
theorem un_in {b : Bd} (h : BOk b) {g : Gd} (hg : g ∈ b.gs) {u : List Nat} (e : g.un = some u) : u ∈ b.gs.map Gd.nm := by
  obtain ⟨ds, hd⟩ := h.deep
  obtain ⟨i, hi⟩ := List.getElem?_of_mem hg
  rcases hd.under i g hi with ⟨hu, _⟩ | ⟨j, v, d, hj, hv, hn, _⟩
  · rw [hu] at e; cases e
  · rw [hn] at e
    cases e
    exact List.mem_map.mpr ⟨v, List.mem_of_getElem? hv, rfl⟩
theorem ovr_cons {b : Bd} (h : BOk b) {g : Gd} (hg : g ∈ b.gs) : ovr b g.nm = g.nm :: ovU b g.un (ovr b) := by
  have c := ovr_guard h hg
  generalize ovr b g.nm = L at c
  generalize eu : some g.nm = u at c
  cases c with
  | nil => cases eu
  | cons hg' c2 =>
    have := gd_eq (gsnd h) hg hg' (Option.some.inj eu)
    subst this
    congr 1
    cases e : g.un with
    | none => rw [e] at c2; cases c2; rfl
    | some u =>
      rw [e] at c2
      have hu := un_in h hg e
      exact (ovr_eq h (nms_g hu) (.inl ⟨hu, c2⟩)).symm

end Lw

namespace Lw
open PySem PySem.Spec L2 FB Wk
open PyProof.Rows hiding St
/-! draws -/
noncomputable def drw (b : Bd) (S ks : List (List Nat)) (v : List Nat → Int) (g : List Nat) : Int := ((ks.filter fun p => fedB (ovr b p) S && decide (g ∈ ovr b p)).map v).sum
theorem drw_snoc (b : Bd) (S ks : List (List Nat)) (v : List Nat → Int) (p g : List Nat) : drw b S (ks ++ [p]) v g = drw b S ks v g + if (fedB (ovr b p) S && decide (g ∈ ovr b p)) = true then v p else 0 := by
  unfold drw
  rw [List.filter_append, List.map_append, List.sum_append]
  congr 1
  cases h : (fedB (ovr b p) S && decide (g ∈ ovr b p)) <;> simp [List.filter_cons, h]
abbrev iV (v : List Nat → Int) : List Nat → D := fun n => .int (v n)
theorem updN_iV (v : List Nat → Int) (n : List Nat) (x : Int) : updN (iV v) n (.int x) = iV (fun m => if m = n then x else v m) := by
  funext m
  unfold updN
  by_cases h : m = n <;> simp [h]
theorem draws_zero (b : Bd) (h : BOk b) (t P : D) : ∃ c, forL (aN 4) b1_draws ((b.gs.map Gd.nm).map sD) (E_draws (some (.val (bD b))) (some (.val t)) (some (.val P)) (some (mO [] (iV fun _ => 0)))) = .ok .nx (E_draws (some (.val (bD b))) (some (.val t)) (some (.val P)) (some (mO (b.gs.map Gd.nm) (iV fun _ => 0))) c) := by
  have nd := gsnd h
  have g2 := h.g2
  obtain ⟨⟨ks, c⟩, e, i⟩ := forL_ex (a := aN 4) (b := b1_draws) sD (fun s : List (List Nat) × Option O => E_draws (some (.val (bD b))) (some (.val t)) (some (.val P)) (some (mO s.1 (iV fun _ => 0))) s.2) (fun xs s => s.1 ++ xs = b.gs.map Gd.nm) (xs := b.gs.map Gd.nm) ([], none) rfl (by
    rintro x xs ⟨ks, c⟩ hi
    have hi : ks ++ x :: xs = b.gs.map Gd.nm := hi
    have hx : x ∉ ks := by
      rw [← hi, List.nodup_append] at nd
      exact fun z => nd.2.2 x z x (List.mem_cons_self ..) rfl
    have hl : ks.length < 1000000 := by
      have := congrArg List.length hi
      simp at this
      omega
    have q := set_new (v := iV fun _ => 0) hx hl (.int 0)
    rw [updN_iV] at q
    refine ⟨(ks ++ [x], some (.val (sD x))), ?_, by simp [hi]⟩
    simp [b1_draws, q])
  have i : ks ++ [] = b.gs.map Gd.nm := i
  rw [List.append_nil] at i
  subst i
  exact ⟨c, e⟩
theorem draws_add (b : Bd) (h : BOk b) (t : D) (ks : List (List Nat)) (v : List Nat → Int) (nk : ks.Nodup) {p : List Nat} (hp : p ∈ ks) (ab : Option O) : ∀ (L : List (List Nat)), L.Nodup → (∀ m ∈ L, m ∈ b.gs.map Gd.nm) → ∀ (f : List Nat → Int) (c : Option O), ∃ c', forL (aN 4) b2_draws (L.map sD) (E_draws (some (.val (bD b))) (some (.val t)) (some (.val (mD ks (iV v)))) (some (mO (b.gs.map Gd.nm) (iV f))) c (some (.val (sD p))) ab) =
    .ok .nx (E_draws (some (.val (bD b))) (some (.val t)) (some (.val (mD ks (iV v)))) (some (mO (b.gs.map Gd.nm) (iV fun g => f g + if g ∈ L then v p else 0))) c' (some (.val (sD p))) ab)
  | [], _, _, f, c => ⟨c, by simp [forL]⟩
  | m :: L, nd, hm, f, c => by
    rw [List.nodup_cons] at nd
    have g2 := h.g2
    have q := aug_mO (ρ := E_draws (some (.val (bD b))) (some (.val t)) (some (.val (mD ks (iV v)))) (some (mO (b.gs.map Gd.nm) (iV f))) (some (.val (sD m))) (some (.val (sD p))) ab) (i := 3) (g := fun i j => i + j) (nn := pVar 4) (mm := p2 ixF (pVar 2) (pVar 5)) (n := m) (x := f m) (y := v p) rfl (by simp) (by have := ix_mD (v := iV v) nk hp; simp [this]) (gsnd h) (hm m (List.mem_cons_self ..)) rfl (by simp; omega)
    rw [updN_iV] at q
    obtain ⟨c', ih⟩ := draws_add b h t ks v nk hp ab L nd.2 (fun x hx => hm x (List.mem_cons_of_mem _ hx)) (fun x => if x = m then f m + v p else f x) (some (.val (sD m)))
    refine ⟨c', ?_⟩
    rw [List.map_cons, forL_step, e_fstep, e_aN]
    show (match flK (b2_draws (E_draws (some (.val (bD b))) (some (.val t)) (some (.val (mD ks (iV v)))) (some (mO (b.gs.map Gd.nm) (iV f))) (some (.val (sD m))) (some (.val (sD p))) ab)) with
      | .ok .nx ρ1 => forL (aN 4) b2_draws (L.map sD) ρ1
      | .ok .ct ρ1 => forL (aN 4) b2_draws (L.map sD) ρ1
      | .ok .brk ρ1 => .ok .nx ρ1
      | .ok (.ret o) ρ1 => .ok (.ret o) ρ1
      | .exc x ρ1 => .exc x ρ1
      | .no => .no : Res Fl) = _
    unfold b2_draws
    rw [q]
    show forL (aN 4) (mAugI 3 (fun i j => i + j) (pVar 4) (p2 ixF (pVar 2) (pVar 5))) (L.map sD) (E_draws _ _ _ (some (mO (b.gs.map Gd.nm) (iV fun x => if x = m then f m + v p else f x))) _ _ _) = _
    have ih2 := ih
    unfold b2_draws at ih2
    rw [ih2]
    congr 5
    funext g
    by_cases e : g = m
    · subst e; simp [nd.1]
    · simp [e]
theorem draws_run (b : Bd) (h : BOk b) {t : D} {S : List (List Nat)} (ht : OpT t S) {ks : List (List Nat)} (nk : ks.Nodup) (hk : ∀ p ∈ ks, p ∈ nms b) (v : List Nat → Int) :
    F_draws [.val (bD b), .val t, .val (mD ks (iV v))] = some (mO (b.gs.map Gd.nm) (iV (drw b S ks v)), [none, none, none]) := by
  have G := gu b h
  have g2 := h.g2
  have td := sO_toD (b.gs.map Gd.nm)
  obtain ⟨c1, z⟩ := draws_zero b h t (mD ks (iV v))
  have hkl : ks.length ≤ 1000000 := by
    have := List.Nodup.length_le_of_subset nk (l₂ := nms b) hk
    have := (nm_len b h).2
    omega
  have ky := keysOf_mD (ρ := E_draws (some (.val (bD b))) (some (.val t)) (some (.val (mD ks (iV v)))) (some (mO (b.gs.map Gd.nm) (iV fun _ => 0))) c1) (i := 2) (ks := ks) (v := iV v) rfl (fun l hl => nms_ok h l (hk l hl)) hkl
  obtain ⟨⟨f, c, p, ab⟩, e, i⟩ := forL_ex (a := aN 5) (b := b3_draws) sD (fun s : (List Nat → Int) × Option O × Option O × Option O => E_draws (some (.val (bD b))) (some (.val t)) (some (.val (mD ks (iV v)))) (some (mO (b.gs.map Gd.nm) (iV s.1))) s.2.1 s.2.2.1 s.2.2.2) (fun xs s => ∃ done, done ++ xs = ks ∧ s.1 = drw b S done v) (xs := ks) (fun _ => 0, c1, none, none) ⟨[], rfl, rfl⟩ (by
    rintro p xs ⟨f, c, p0, ab0⟩ ⟨done, hd, rfl⟩
    have hp : p ∈ ks := by rw [← hd]; simp
    obtain ⟨ov, h16⟩ := ovr_ok h (hk p hp)
    have e1 := over_run b h ov h16
    have td2 := sO_toD (ovr b p)
    have q : q1_draws (E_draws (some (.val (bD b))) (some (.val t)) (some (.val (mD ks (iV v)))) (some (mO (b.gs.map Gd.nm) (iV (drw b S done v)))) c (some (.val (sD p))) (some (.val (.lst ((ovr b p).map sD))))) = .ok (.lst ((ovr b p).map fun m => O.val (.bl (decide (m ∈ S))))) (E_draws (some (.val (bD b))) (some (.val t)) (some (.val (mD ks (iV v)))) (some (mO (b.gs.map Gd.nm) (iV (drw b S done v)))) c (some (.val (sD p))) (some (.val (.lst ((ovr b p).map sD))))) := by
      refine comp_map sD _ (by simp) (by omega) (by decide) fun m hm => ?_
      have e := op_in ht m
      simp [e]
    have am := any_map (fun m => decide (m ∈ S)) (ovr b p)
    have fb : ((ovr b p).any fun m => decide (m ∈ S)) = !fedB (ovr b p) S := by unfold fedB; simp
    rw [fb] at am
    obtain ⟨c', ad⟩ := draws_add b h t ks v nk hp (some (.val (.lst ((ovr b p).map sD)))) (ovr b p) (over_nodup h ov) (over_in ov) (drw b S done v) c
    cases hf : fedB (ovr b p) S with
    | false =>
      rw [hf] at am
      refine ⟨(drw b S done v, c, some (.val (sD p)), some (.val (.lst ((ovr b p).map sD)))), ?_, done ++ [p], by simp [hd], ?_⟩
      · generalize ((ovr b p).map fun m => O.val (.bl (decide (m ∈ S)))) = RR at *
        simp [b3_draws, e1, td2, q, am]
      · funext g
        rw [drw_snoc, hf]; simp
    | true =>
      rw [hf] at am
      refine ⟨(fun g => drw b S done v g + if g ∈ ovr b p then v p else 0, c', some (.val (sD p)), some (.val (.lst ((ovr b p).map sD)))), ?_, done ++ [p], by simp [hd], ?_⟩
      · generalize ((ovr b p).map fun m => O.val (.bl (decide (m ∈ S)))) = RR at *
        simp [b3_draws, e1, td2, q, am, ad]
      · funext g
        rw [drw_snoc, hf]; simp)
  obtain ⟨done, hd, rfl⟩ := i
  rw [List.append_nil] at hd
  subst hd
  unfold F_draws
  rw [runF_eq]
  dsimp only at e
  generalize mO (b.gs.map Gd.nm) (iV (drw b S done v)) = R1 at *
  simp [-List.map_map, b_draws, mO_nil (iV fun _ => 0), G, td, z, ky, e]
  rfl

end Lw

namespace Lw
open PySem PySem.Spec L2 FB Wk
open PyProof.Rows hiding St
/-! [one[0] for one in board[0] + board[1]] -/
theorem nms_nd {b : Bd} (h : BOk b) : (nms b).Nodup := h.nd

end Lw

namespace Lw
open PySem PySem.Spec L2 FB Wk
open PyProof.Rows hiding St
/-! sums over lists -/
def S1 {α : Type} (xs : List α) (f : α → Int) : Int := (xs.map f).sum
theorem S1_nil {α : Type} (f : α → Int) : S1 [] f = 0 := rfl
theorem S1_cons {α : Type} (x : α) (xs : List α) (f : α → Int) : S1 (x :: xs) f = f x + S1 xs f := by unfold S1; simp
theorem S1_app {α : Type} (xs ys : List α) (f : α → Int) : S1 (xs ++ ys) f = S1 xs f + S1 ys f := by unfold S1; simp
theorem S1_same {α : Type} {xs : List α} {f g : α → Int} (h : ∀ x ∈ xs, f x = g x) : S1 xs f = S1 xs g := by
  unfold S1; rw [List.map_congr_left h]
theorem S1_filter {α : Type} (c : α → Bool) (xs : List α) (f : α → Int) : ((xs.filter c).map f).sum = S1 xs fun x => if c x = true then f x else 0 := by
  induction xs with
  | nil => rfl
  | cons x xs ih =>
    rw [S1_cons, List.filter_cons, ← ih]
    cases h : c x <;> simp
theorem S1_map {α β : Type} (k : α → β) (xs : List α) (f : β → Int) : S1 (xs.map k) f = S1 xs fun x => f (k x) := by unfold S1; rw [List.map_map]; rfl
theorem drw_S1 (b : Bd) (S ks : List (List Nat)) (v : List Nat → Int) (g : List Nat) : drw b S ks v g = S1 ks fun p => if (fedB (ovr b p) S && decide (g ∈ ovr b p)) = true then v p else 0 := S1_filter _ _ _

end Lw

namespace Lw
open PySem PySem.Spec L2 FB Wk
open PyProof.Rows hiding St
theorem isnt_un (u : Option (List Nat)) : notNO (.val (uD u)) (.val .non) = some (.val (.bl (!decide (u = none)))) := by
  cases u with
  | none => rfl
  | some m => rfl
end Lw

namespace Lw
open PySem PySem.Spec L2 FB Wk
open PyProof.Rows hiding St
/-! small curves -/
def lO (ls : List Int) : O := vO (ls.map D.int)
def top' (ls : List Int) : Int := ls.getLast?.getD 0
theorem top'_app (ls : List Int) (v : Int) : top' (ls ++ [v]) = v := by unfold top'; simp
theorem at_lastI {ls : List Int} (h : ls ≠ []) : atI (ls.map D.int) (-1) = some (.int (top' ls)) := by
  obtain ⟨l, v, rfl⟩ : ∃ l v, ls = l ++ [v] := ⟨ls.dropLast, ls.getLast h, (List.dropLast_concat_getLast h).symm⟩
  rw [top'_app, List.map_append, List.map_cons, List.map_nil, FB.atI_last]
theorem at_last {ls : List Int} (h : ls ≠ []) : ixO (lO ls) (.val (.int (-1))) = some (.val (.int (top' ls))) := by
  have e : ixO (lO ls) (.val (.int (-1))) = (atI (ls.map D.int) (-1)).map O.val := vO_ix _ _
  rw [e, at_lastI h]; rfl
theorem lO_apA (j : Nat) (ls : List Int) (ρ : FB.Env) (mm : M O) : apA j mm ρ (some (some (lO ls))) = apB j (mm ρ) := rfl
theorem lO_ap (j : Nat) (ls : List Int) (v : Int) (h : ls.length < 1000) (ρ : FB.Env) : apC j (.val (.int v)) ρ (some (some (lO ls))) = .ok (.val .non) (ρ.set j (some (lO (ls ++ [v])))) := by
  unfold lO vO apC
  simp; omega
theorem lO_1 (v : Int) : (O.lst [.val (.int v)] : O) = lO [v] := rfl
/-- rising, from 1 on, by at most q -/
def Up (q : Int) (ls : List Int) : Prop := ls ≠ [] ∧ ls.Pairwise (· < ·) ∧ (∀ x ∈ ls, 1 ≤ x ∧ x ≤ top' ls) ∧ top' ls ≤ q * ls.length
theorem Up.one {q v : Int} (h : 1 ≤ v) (h2 : v ≤ q) : Up q [v] := by
  refine ⟨by simp, by simp, fun x hx => ?_, ?_⟩
  · simp at hx; subst hx; exact ⟨h, by simp [top']⟩
  · simp [top']; exact h2
theorem Up.app {q : Int} {ls : List Int} {v : Int} (h : Up q ls) (h1 : 1 ≤ v) (h2 : v ≤ q) : Up q (ls ++ [top' ls + v]) := by
  obtain ⟨a, b, c, d⟩ := h
  refine ⟨by simp, List.pairwise_append.mpr ⟨b, by simp, fun x hx y hy => ?_⟩, fun x hx => ?_, ?_⟩
  · simp at hy; subst hy
    have := (c x hx).2; omega
  · rw [top'_app]
    rcases List.mem_append.mp hx with hx | hx
    · have := c x hx; omega
    · simp at hx; subst hx
      obtain ⟨z, zs, rfl⟩ : ∃ z zs, ls = z :: zs := by cases ls with
        | nil => exact absurd rfl a
        | cons z zs => exact ⟨z, zs, rfl⟩
      have := c z (List.mem_cons_self ..); omega
  · rw [top'_app, List.length_append, List.length_singleton]
    push_cast
    rw [Int.mul_add]; omega
theorem Up.le {q : Int} {ls : List Int} (h : Up q ls) (h0 : 0 ≤ q) (h5 : ls.length ≤ 5) {k : Nat} (hk : k < ls.length) : 1 ≤ ls.getD k 0 ∧ ls.getD k 0 ≤ 5 * q := by
  rw [List.getD_eq_getElem?_getD, List.getElem?_eq_getElem hk]
  have h1 := h.2.2.1 _ (List.getElem_mem hk)
  have h2 : q * (ls.length : Int) ≤ q * 5 := Int.mul_le_mul_of_nonneg_left (by omega) h0
  have h3 := h.2.2.2
  refine ⟨h1.1, ?_⟩
  show ls[k] ≤ 5 * q
  omega
theorem getD_lt {ls : List Int} (h : ls.Pairwise (· < ·)) {i j : Nat} (hij : i < j) (hj : j < ls.length) : ls.getD i 0 < ls.getD j 0 := by
  have q := (List.pairwise_iff_getElem.mp h) i j (by omega) hj hij
  simpa [List.getD_eq_getElem?_getD, List.getElem?_eq_getElem hj, List.getElem?_eq_getElem (show i < ls.length by omega)] using q
theorem lO_at (ls : List Int) (k : Nat) (hk : k < ls.length) : ixO (lO ls) (.val (.int (k : Int))) = some (.val (.int (ls.getD k 0))) := by
  have e : ixO (lO ls) (.val (.int (k : Int))) = (atI (ls.map D.int) (k : Int)).map O.val := vO_ix _ _
  rw [e, atN, List.getElem?_map, List.getD_eq_getElem?_getD, List.getElem?_eq_getElem hk]; rfl
theorem small_b (o : O) (k : Int) (u t m : Option O) (ls ts : List Int) (kk : Option O) (h : Fok (k + 2) o) (hk : 0 ≤ k) (h1 : Up 10 ls) (h2 : Up 3 ts) (hl : ls.length < 5) (ht : ts.length < 5) : ∃ o' v w, b1__law_small_curve (E__law_small_curve (some o) u t m (some (lO ls)) (some (lO ts)) kk) = .ok .nx (E__law_small_curve (some o') u t m (some (lO (ls ++ [top' ls + v]))) (some (lO (ts ++ [top' ts + w]))) kk) ∧ Fok k o' ∧ 1 ≤ v ∧ v ≤ 10 ∧ 1 ≤ w ∧ w ≤ 3 := by
  obtain ⟨r1, o1, e1, s1, p1, q1⟩ := take o 9 (k + 1) (h.less (by omega)) (by omega) (by decide) (by decide)
  obtain ⟨r2, o2, e2, s2, p2, q2⟩ := take o1 3 k s1 hk (by decide) (by decide)
  have a1 := at_last h1.1
  have a2 := at_last h2.1
  refine ⟨o2, 1 + r1, 1 + r2, ?_, s2, by omega, by omega, by omega, by omega⟩
  rw [show top' ls + (1 + r1) = top' ls + 1 + r1 by omega, show top' ts + (1 + r2) = top' ts + 1 + r2 by omega]
  have b1 := fun ρ => lO_ap 4 ls (top' ls + 1 + r1) (by omega) ρ
  have b2 := fun ρ => lO_ap 5 ts (top' ts + 1 + r2) (by omega) ρ
  simp [b1__law_small_curve, lO_apA, a1, a2, e1, e2, b1, b2]
def uOk (u : Int) : Prop := 1 ≤ u ∧ u ≤ 10000000000000000000000000000000000000000000000000000000
theorem small_curve (o : O) (k unit time : Int) (h : Fok (k + 20) o) (hk : 0 ≤ k) (hu : uOk unit) (ht : uOk time) : ∃ C o', F__law_small_curve [o, .val (.int unit), .val (.int time)] = some (.val (cv C), [some o', none, none]) ∧ Fok k o' ∧ Cok C ∧ ∀ p ∈ C, p.1 ≤ 50 * unit ∧ p.2 ≤ 15 * time := by
  obtain ⟨u1, u2⟩ := hu
  obtain ⟨t1, t2⟩ := ht
  obtain ⟨r0, o0, e0, s0, p0, q0⟩ := take o 5 (k + 19) (h.less (by omega)) (by omega) (by decide) (by decide)
  obtain ⟨n, hn⟩ : ∃ n : Nat, 1 + r0 = (n : Int) := ⟨(1 + r0).toNat, by omega⟩
  obtain ⟨r1, o1, e1, s1, p1, q1⟩ := take o0 10 (k + 18) (s0.less (by omega)) (by omega) (by decide) (by decide)
  obtain ⟨r2, o2, e2, s2, p2, q2⟩ := take o1 3 (k + 17) (s1.less (by omega)) (by omega) (by decide) (by decide)
  obtain ⟨n1, hn1⟩ : ∃ n1 : Nat, n = n1 + 1 := ⟨n - 1, by omega⟩
  obtain ⟨⟨o3, ls, ts, kk⟩, lp, s3, i3, a3, b3, c3, d3⟩ := forL_ex (a := aN 6) (b := b1__law_small_curve) (fun i : Nat => D.int (0 + (i : Int))) (fun c : O × List Int × List Int × Option O => E__law_small_curve (some c.1) (some (.val (.int unit))) (some (.val (.int time))) (some (.val (.int (n : Int)))) (some (lO c.2.1)) (some (lO c.2.2.1)) c.2.2.2)
    (fun xs c => Fok (k + 2 * xs.length) c.1 ∧ xs.length ≤ n1 ∧ Up 10 c.2.1 ∧ Up 3 c.2.2.1 ∧ c.2.1.length = n - xs.length ∧ c.2.2.1.length = n - xs.length) (xs := List.range n1) (o2, [1 + r1], [1 + r2], none) ⟨s2.less (by simp; omega), by simp, Up.one (by omega) (by omega), Up.one (by omega) (by omega), by simp; omega, by simp; omega⟩ (by
    rintro x xs ⟨o, ls, ts, kk⟩ ⟨s, i, a, b, c, d⟩
    dsimp only at s i a b c d
    simp only [List.length_cons] at s i c d
    obtain ⟨o', v, w, e, s', v1, v2, w1, w2⟩ := small_b o (k + 2 * xs.length) (some (.val (.int unit))) (some (.val (.int time))) (some (.val (.int (n : Int)))) ls ts (some (.val (.int (0 + (x : Int))))) (s.less (by omega)) (by omega) a b (by omega) (by omega)
    refine ⟨(o', ls ++ [top' ls + v], ts ++ [top' ts + w], some (.val (.int (0 + (x : Int))))), ?_, s', by omega, a.app v1 v2, b.app w1 w2, by simp; omega, by simp; omega⟩
    simp only [e_fstep, e_aN, e_flA]
    show flK (b1__law_small_curve (E__law_small_curve _ _ _ _ _ _ (some (.val (.int (0 + (x : Int))))))) = _
    rw [e]; rfl)
  dsimp only at lp s3 i3 a3 b3 c3 d3
  simp only [List.length_nil, Nat.sub_zero] at s3 c3 d3
  have lp : forL (aN 6) b1__law_small_curve (rangeL 0 n1) _ = _ := lp
  have sn := small_nat (n := n) (by omega)
  have sn1 := small_nat (n := n1) (by omega)
  have qq : q1__law_small_curve (E__law_small_curve (some o3) (some (.val (.int unit))) (some (.val (.int time))) (some (.val (.int (n : Int)))) (some (lO ls)) (some (lO ts)) kk) = .ok (.lst ((List.range n).map fun i => O.val (pD (ls.getD i 0 * unit, ts.getD (n - 1 - i) 0 * time)))) (E__law_small_curve (some o3) (some (.val (.int unit))) (some (.val (.int time))) (some (.val (.int (n : Int)))) (some (lO ls)) (some (lO ts)) kk) := by
    refine comp_map (fun i : Nat => D.int (0 + (i : Int))) _ (by simp [sn, rangeL]) (by simp; omega) (by decide) fun i hi => ?_
    have hi : i < n := by simpa using hi
    have g1 := lO_at ls i (by omega)
    have g2 := lO_at ts (n - 1 - i) (by omega)
    have b1 := a3.le (by decide) (by omega) (show i < ls.length by omega)
    have b2 := b3.le (by decide) (by omega) (show n - 1 - i < ts.length by omega)
    have m1 := mulD_l (ls.getD i 0) unit (by omega)
    have m2 := mulD_l (ts.getD (n - 1 - i) 0) time (by omega)
    have cx : (n : Int) - 1 - (i : Int) = ((n - 1 - i : Nat) : Int) := by omega
    generalize ls.getD i 0 = A at *
    generalize ts.getD (n - 1 - i) 0 = B at *
    simp [g1, cx, g2, m1, m2, pD]
  refine ⟨(List.range n).map fun i => (ls.getD i 0 * unit, ts.getD (n - 1 - i) 0 * time), o3, ?_, s3.less (by omega), ⟨by simp; omega, by simp; omega, ?_, ?_⟩, ?_⟩
  · have tv : O.lst ((List.range n).map fun i => O.val (pD (ls.getD i 0 * unit, ts.getD (n - 1 - i) 0 * time))) = vO (((List.range n).map fun i => (ls.getD i 0 * unit, ts.getD (n - 1 - i) 0 * time)).map pD) := by
      unfold vO; rw [List.map_map, List.map_map]; rfl
    rw [tv] at qq
    have ex : (n : Int) - 1 = (n1 : Int) := by omega
    unfold F__law_small_curve
    rw [runF_eq]
    simp [-List.map_map, b__law_small_curve, e0, hn, e1, e2, lO_1, ex, sn1, lp, qq]
    exact ⟨by simp [cv], rfl⟩
  · rw [List.pairwise_map]
    refine List.Pairwise.imp_of_mem ?_ (List.pairwise_lt_range (n := n))
    intro i j hi hj hij
    have hi : i < n := by simpa using hi
    have hj : j < n := by simpa using hj
    exact ⟨Int.mul_lt_mul_of_pos_right (getD_lt a3.2.1 hij (by omega)) (by omega), Int.mul_lt_mul_of_pos_right (getD_lt b3.2.1 (by omega) (by omega)) (by omega)⟩
  · intro p hp
    obtain ⟨i, hi, rfl⟩ := List.mem_map.mp hp
    have hi : i < n := by simpa using hi
    have b1 := a3.le (by decide) (by omega) (show i < ls.length by omega)
    have b2 := b3.le (by decide) (by omega) (show n - 1 - i < ts.length by omega)
    have c1 := Int.mul_le_mul_of_nonneg_right b1.2 (show 0 ≤ unit by omega)
    have c2 := Int.mul_le_mul_of_nonneg_right b2.2 (show 0 ≤ time by omega)
    have c3 := Int.mul_le_mul_of_nonneg_right b1.1 (show 0 ≤ unit by omega)
    have c4 := Int.mul_le_mul_of_nonneg_right b2.1 (show 0 ≤ time by omega)
    refine ⟨?_, ?_, ?_, ?_⟩ <;> dsimp only <;> omega
  · intro p hp
    obtain ⟨i, hi, rfl⟩ := List.mem_map.mp hp
    have hi : i < n := by simpa using hi
    have b1 := a3.le (by decide) (by omega) (show i < ls.length by omega)
    have b2 := b3.le (by decide) (by omega) (show n - 1 - i < ts.length by omega)
    have c1 := Int.mul_le_mul_of_nonneg_right b1.2 (show 0 ≤ unit by omega)
    have c2 := Int.mul_le_mul_of_nonneg_right b2.2 (show 0 ≤ time by omega)
    refine ⟨?_, ?_⟩ <;> dsimp only <;> omega

end Lw

namespace Lw
open PySem PySem.Spec L2 FB Wk
open PyProof.Rows hiding St
/-! rest -/
theorem lD_3 (x : Ld) : ixO (.val (lD x)) (.val (.int 3)) = some (.val (.int x.la)) := rfl
theorem lD_4 (x : Ld) : ixO (.val (lD x)) (.val (.int 4)) = some (.val (.bl x.on)) := rfl
/-- what a load draws at rest -/
def lav (x : Ld) : Int := if x.on = true then x.la else 0
noncomputable def rst (b : Bd) (g : List Nat) : Int := S1 b.ls fun x => if g ∈ ovr b x.nm then lav x else 0
theorem updN_self (v : List Nat → D) (n : List Nat) : updN v n (v n) = v := by
  funext m
  unfold updN
  by_cases h : m = n
  · subst h; simp
  · simp [h]

end Lw

namespace Lw
open PySem PySem.Spec L2 FB Wk
open PyProof.Rows hiding St
/-! _law_overs, _law_rest -/
def bQ (u v : Bool) (b : Bd) : D := .tup [qD u (b.gs.map gD), qD v (b.ls.map lD)]
theorem bQ_ff (b : Bd) : bQ false false b = bD b := rfl
theorem bQ_0 (u v : Bool) (b : Bd) : ixO (.val (bQ u v b)) (.val (.int 0)) = some (.val (qD u (b.gs.map gD))) := by unfold bQ; simp
theorem bQ_1 (u v : Bool) (b : Bd) : ixO (.val (bQ u v b)) (.val (.int 1)) = some (.val (qD v (b.ls.map lD))) := by unfold bQ; simp
@[simp] theorem qD_items (u : Bool) (ds : List D) : (qD u ds).items? = some ds := by cases u <;> rfl
noncomputable def ovV (b : Bd) : List Nat → D := fun n => .lst ((ovr b n).map sD)
theorem get_non (ks : List (List Nat)) (v : List Nat → D) (c : D) : getO (mO ks v) (.val .non) (.val c) = some (.val c) := rfl
theorem overs (u v : Bool) (b : Bd) (h : BOk b) : F__law_overs [.val (bQ u v b)] = some (mO (nms b) (ovV b), [none]) := by
  have b0 := bQ_0 u v b
  have b1 := bQ_1 u v b
  have nd := nms_nd h
  have nl := (nm_len b h).2
  have g2 := h.g2
  have l2 := h.l2
  obtain ⟨ds, hg⟩ := h.deep
  obtain ⟨⟨ks, c⟩, lp1, done, hd, hk⟩ := forL_ex (a := aN 2) (b := b1__law_overs) gD (fun s : List (List Nat) × Option O => E__law_overs (some (.val (bQ u v b))) (some (mO s.1 (ovV b))) s.2) (fun xs s => ∃ done, done ++ xs = b.gs ∧ s.1 = done.map Gd.nm) (xs := b.gs) ([], none) ⟨[], rfl, rfl⟩ (by
    rintro g xs ⟨ks, c⟩ ⟨done, hd, hk⟩
    dsimp only at hk
    subst hk
    have hgm : g ∈ b.gs := by rw [← hd]; simp
    have hn : g.nm ∉ done.map Gd.nm := fun z => by
      have := gsnd h
      rw [← hd, List.map_append, List.nodup_append] at this
      exact this.2.2 _ z g.nm (by simp) rfl
    have hl : (done.map Gd.nm).length < 1000000 := by
      have := congrArg List.length hd
      simp at this ⊢
      omega
    have e0 := gD_0 g
    have e1 := gD_1 g
    have hc := ovr_cons h hgm
    have key : ∃ L, getO (mO (done.map Gd.nm) (ovV b)) (.val (uD g.un)) (.val (.lst [])) = some (.val (.lst (L.map sD))) ∧ ovr b g.nm = g.nm :: L ∧ L.length ≤ 16 := by
      have h16 := (ovr_ok h (nms_gs hgm)).2
      cases hu : g.un with
      | none =>
        rw [hu] at hc
        exact ⟨[], get_non _ _ _, hc, by simp⟩
      | some w =>
        rw [hu] at hc
        have hc : ovr b g.nm = g.nm :: ovr b w := hc
        refine ⟨ovr b w, ?_, hc, by rw [hc] at h16; simp at h16; omega⟩
        have hw : w ∈ done.map Gd.nm := by
          have hi : b.gs[done.length]? = some g := by rw [← hd]; simp
          rcases hg.under done.length g hi with ⟨z, _⟩ | ⟨j, k, d, hj, hkk, hun, _⟩
          · rw [hu] at z; cases z
          · rw [hu] at hun
            cases hun
            rw [← hd, List.getElem?_append_left hj] at hkk
            exact List.mem_map.mpr ⟨k, List.mem_of_getElem? hkk, rfl⟩
        have nd2 : (done.map Gd.nm).Nodup := by
          have := gsnd h
          rw [← hd, List.map_append, List.nodup_append] at this
          exact this.1
        show getO _ (.val (sD w)) _ = _
        rw [get_mO nd2, if_pos hw]; rfl
    obtain ⟨L, k1, k2, k3⟩ := key
    have ad : addD (.lst [sD g.nm]) (.lst (L.map sD)) = some (ovV b g.nm) := by
      rw [addD_lst _ _ (by simp; omega)]
      unfold ovV
      rw [k2]; rfl
    have st := set_new (v := ovV b) hn hl (ovV b g.nm)
    rw [updN_self] at st
    refine ⟨(done.map Gd.nm ++ [g.nm], some (.val (gD g))), ?_, done ++ [g], by simp [hd], by simp⟩
    generalize mO (done.map Gd.nm) (ovV b) = M0 at *
    generalize ovV b g.nm = V0 at *
    generalize D.lst (L.map sD) = L0 at *
    simp [b1__law_overs, e0, e1, k1, ad, st])
  dsimp only at lp1 hk
  rw [List.append_nil] at hd
  subst hk
  rw [hd] at lp1
  obtain ⟨⟨ks, c2⟩, lp2, done2, hd2, hk2⟩ := forL_ex (a := aN 3) (b := b2__law_overs) lD (fun s : List (List Nat) × Option O => E__law_overs (some (.val (bQ u v b))) (some (mO s.1 (ovV b))) c s.2) (fun xs s => ∃ done, done ++ xs = b.ls ∧ s.1 = b.gs.map Gd.nm ++ done.map Ld.nm) (xs := b.ls) (b.gs.map Gd.nm, none) ⟨[], rfl, by simp⟩ (by
    rintro x xs ⟨ks, c3⟩ ⟨done, hd, hk⟩
    dsimp only at hk
    subst hk
    have hx : x ∈ b.ls := by rw [← hd]; simp
    have nd3 : (b.gs.map Gd.nm ++ done.map Ld.nm).Nodup := by
      refine List.Nodup.sublist ?_ nd
      unfold nms
      rw [← hd, List.map_append, ← List.append_assoc]
      exact List.sublist_append_left _ _
    have hn : x.nm ∉ b.gs.map Gd.nm ++ done.map Ld.nm := fun z => by
      have q := nd
      unfold nms at q
      rw [← hd, List.map_append, ← List.append_assoc, List.nodup_append] at q
      exact q.2.2 _ z x.nm (by simp) rfl
    have hl : (b.gs.map Gd.nm ++ done.map Ld.nm).length < 1000000 := by
      have := congrArg List.length hd
      simp at this ⊢
      omega
    have e0 := lD_0 x
    have e1 := lD_1 x
    have hp : x.pl ∈ b.gs.map Gd.nm ++ done.map Ld.nm := List.mem_append_left _ (h.ls.pl x hx)
    have ix := ix_mO (v := ovV b) nd3 hp
    have eo : ovV b x.pl = ovV b x.nm := by unfold ovV; rw [ovr_load h hx]
    rw [eo] at ix
    have st := set_new (v := ovV b) hn hl (ovV b x.nm)
    rw [updN_self] at st
    refine ⟨(b.gs.map Gd.nm ++ done.map Ld.nm ++ [x.nm], some (.val (lD x))), ?_, done ++ [x], by simp [hd], by simp⟩
    generalize mO (b.gs.map Gd.nm ++ done.map Ld.nm) (ovV b) = M0 at *
    generalize ovV b x.nm = V0 at *
    simp [b2__law_overs, e0, e1, ix, st])
  dsimp only at lp2 hk2
  rw [List.append_nil] at hd2
  subst hk2
  rw [hd2] at lp2
  have lp2 : forL (aN 3) b2__law_overs (b.ls.map lD) (E__law_overs (some (.val (bQ u v b))) (some (mO (b.gs.map Gd.nm) (ovV b))) c) = .ok .nx (E__law_overs (some (.val (bQ u v b))) (some (mO (nms b) (ovV b))) c c2) := lp2
  unfold F__law_overs
  rw [runF_eq]
  generalize mO (nms b) (ovV b) = M1 at *
  simp [b__law_overs, b0, b1, mO_nil (ovV b), lp1, lp2]
  rfl
theorem law_add (b : Bd) (h : BOk b) (x : Ld) (hb : Option O) (ho c5 : Option O) : ∀ (L : List (List Nat)), L.Nodup → (∀ m ∈ L, m ∈ b.gs.map Gd.nm) → ∀ (f : List Nat → Int) (c : Option O), ∃ c', forL (aN 4) b1__law_rest (L.map sD) (E__law_rest hb ho (some (mO (b.gs.map Gd.nm) (iV f))) (some (.val (lD x))) c c5) =
    .ok .nx (E__law_rest hb ho (some (mO (b.gs.map Gd.nm) (iV fun g => f g + if g ∈ L then lav x else 0))) (some (.val (lD x))) c' c5)
  | [], _, _, f, c => ⟨c, by simp [forL]⟩
  | m :: L, nd, hm, f, c => by
    rw [List.nodup_cons] at nd
    have g2 := h.g2
    have hin := hm m (List.mem_cons_self ..)
    obtain ⟨c', ih⟩ := law_add b h x hb ho c5 L nd.2 (fun x hx => hm x (List.mem_cons_of_mem _ hx)) (fun y => if y = m then f m + lav x else f y) (some (.val (sD m)))
    refine ⟨c', ?_⟩
    have ix := ix_mO (v := iV f) (gsnd h) hin
    have st := set_old (v := iV f) (gsnd h) hin (by simp; omega) (.int (f m + lav x))
    rw [updN_iV] at st
    have e3 := lD_3 x
    have e4 := lD_4 x
    have m1 : mulD (.int x.la) (.int (if x.on = true then 1 else 0)) = some (.int (lav x)) := by
      rw [e_mulr _ (by split <;> decide)]
      unfold lav
      split <;> simp
    have one : fstep (aN 4) b1__law_rest (sD m) (E__law_rest hb ho (some (mO (b.gs.map Gd.nm) (iV f))) (some (.val (lD x))) c c5) = .ok .nx (E__law_rest hb ho (some (mO (b.gs.map Gd.nm) (iV fun y => if y = m then f m + lav x else f y))) (some (.val (lD x))) (some (.val (sD m))) c5) := by
      generalize mO (b.gs.map Gd.nm) (iV f) = M0 at *
      generalize mO (b.gs.map Gd.nm) (iV fun y => if y = m then f m + lav x else f y) = M1 at *
      simp [b1__law_rest, ix, e3, e4, m1, st]
    rw [List.map_cons, forL_step, one]
    show forL (aN 4) b1__law_rest (L.map sD) _ = _
    rw [ih]
    congr 5
    funext g
    by_cases e : g = m
    · subst e; simp [nd.1]
    · simp [e]
theorem law_rest (u v : Bool) (b : Bd) (h : BOk b) : F__law_rest [.val (bQ u v b)] = some (mO (b.gs.map Gd.nm) (iV (rst b)), [none]) := by
  have b0 := bQ_0 u v b
  have b1 := bQ_1 u v b
  have ov := overs u v b h
  have td := mO_toD (nms b) (ovV b)
  have g2 := h.g2
  have l2 := h.l2
  have q : q1__law_rest (E__law_rest (some (.val (bQ u v b))) (some (.val (mD (nms b) (ovV b))))) = .ok (.lst (b.gs.map fun g => O.val (.tup [sD g.nm, .int 0]))) (E__law_rest (some (.val (bQ u v b))) (some (.val (mD (nms b) (ovV b))))) := by
    refine comp_map gD _ (by simp [b0]) (by omega) (by decide) fun x hx => ?_
    have e := gD_0 x
    simp [e]
  have pr := prs_gen Gd.nm (fun _ => D.int 0) b.gs
  have dc := dct_mD Gd.nm (fun _ => D.int 0) (gsnd h)
  have dc2 : (O.dct (mergeL ([], []) (b.gs.map fun x => ((.inr (SL x.nm) : Key), D.int 0))).1 ((mergeL ([], []) (b.gs.map fun x => ((.inr (SL x.nm) : Key), D.int 0))).2.map O.val) : O) = mO (b.gs.map Gd.nm) (iV fun _ => 0) := by
    unfold dctOf mD at dc
    injection dc with d1 d2
    rw [d1, d2]; rfl
  have tl : (O.lst (b.gs.map fun g => O.val (.tup [sD g.nm, .int 0]))).toD = .lst (b.gs.map fun x => D.tup [sD x.nm, .int 0]) := by
    rw [e_toD_lst, show (b.gs.map fun g => O.val (.tup [sD g.nm, .int 0])) = (b.gs.map fun x => D.tup [sD x.nm, .int 0]).map O.val by rw [List.map_map]; rfl, toDs_vals]
  obtain ⟨⟨f, x3, x4⟩, lp, done, hd, hf⟩ := forL_ex (a := aN 3) (b := b2__law_rest) lD (fun s : (List Nat → Int) × Option O × Option O => E__law_rest (some (.val (bQ u v b))) (some (.val (mD (nms b) (ovV b)))) (some (mO (b.gs.map Gd.nm) (iV s.1))) s.2.1 s.2.2) (fun xs s => ∃ done, done ++ xs = b.ls ∧ s.1 = fun g => S1 done fun x => if g ∈ ovr b x.nm then lav x else 0) (xs := b.ls) (fun _ => 0, none, none) ⟨[], rfl, rfl⟩ (by
    rintro x xs ⟨f, x3, x4⟩ ⟨done, hd, hf⟩
    dsimp only at hf
    subst hf
    have hx : x ∈ b.ls := by rw [← hd]; simp
    obtain ⟨o, h16⟩ := ovr_ok h (nms_ls hx)
    have e0 := lD_0 x
    have ix := ix_mD (v := ovV b) (nms_nd h) (nms_ls hx)
    obtain ⟨c', ad⟩ := law_add b h x (some (.val (bQ u v b))) (some (.val (mD (nms b) (ovV b)))) none (ovr b x.nm) (over_nodup h o) (over_in o) (fun g => S1 done fun x => if g ∈ ovr b x.nm then lav x else 0) x4
    refine ⟨(fun g => S1 (done ++ [x]) fun x => if g ∈ ovr b x.nm then lav x else 0, some (.val (lD x)), c'), ?_, done ++ [x], by simp [hd], rfl⟩
    have ef : (fun g => S1 (done ++ [x]) fun x => if g ∈ ovr b x.nm then lav x else 0) = fun g => (S1 done fun x => if g ∈ ovr b x.nm then lav x else 0) + if g ∈ ovr b x.nm then lav x else 0 := by
      funext g
      rw [S1_app, S1_cons, S1_nil]; omega
    rw [ef]
    have iv : ovV b x.nm = .lst ((ovr b x.nm).map sD) := rfl
    rw [iv] at ix
    simp [b2__law_rest, e0, ix, ad])
  dsimp only at lp hf
  rw [List.append_nil] at hd
  subst hf
  rw [hd] at lp
  have lp : forL (aN 3) b2__law_rest (b.ls.map lD) (E__law_rest (some (.val (bQ u v b))) (some (.val (mD (nms b) (ovV b)))) (some (mO (b.gs.map Gd.nm) (iV fun _ => 0)))) = .ok .nx (E__law_rest (some (.val (bQ u v b))) (some (.val (mD (nms b) (ovV b)))) (some (mO (b.gs.map Gd.nm) (iV (rst b)))) x3 x4) := lp
  unfold F__law_rest
  rw [runF_eq]
  generalize mO (b.gs.map Gd.nm) (iV (rst b)) = M1 at *
  generalize mO (nms b) (ovV b) = M2 at *
  simp [b__law_rest, ov, td, q, tl, pr, dc2, b1, lp]
  rfl
/-! lifted -/
theorem addD_tup (xs ys : List D) (h : xs.length + ys.length ≤ 1000000) : addD (.tup xs) (.tup ys) = some (.tup (xs ++ ys)) := if_pos h
def liftG (g : Gd) (m : Int) : Gd := { g with C := g.C.map fun p => (p.1 + m, p.2) }
theorem lifted (g : Gd) (m : Int) (hC : g.C.length ≤ 5) : F__law_lifted [.val (gD g), .val (.int m)] = some (.val (gD (liftG g m)), [none, none]) := by
  have g2 : ixO (.val (gD g)) (.val (.int 2)) = some (.val (cv g.C)) := by unfold gD; simp
  have q : q1__law_lifted (E__law_lifted (some (.val (gD g))) (some (.val (.int m)))) = .ok (vO ((liftG g m).C.map pD)) (E__law_lifted (some (.val (gD g))) (some (.val (.int m)))) := by
    rw [show vO ((liftG g m).C.map pD) = .lst (g.C.map fun p => O.val (pD (p.1 + m, p.2))) from by
      unfold vO liftG; rw [List.map_map, List.map_map]; rfl]
    refine comp_map pD _ (by simp [g2]; rfl) (by omega) (by decide) fun p hp => ?_
    simp [pD]
  have s1 : slO (.val (gD g)) none (some 2) = some (.val (.tup [sD g.nm, uD g.un])) := rfl
  have s2 : slO (.val (gD g)) (some 3) none = some (.val (.tup [.int g.dl, .int g.wt])) := rfl
  have a1 : ∀ x : D, addD (.tup [sD g.nm, uD g.un]) (.tup [x]) = some (.tup [sD g.nm, uD g.un, x]) := fun x => addD_tup _ _ (by simp)
  have a2 : ∀ x : D, addD (.tup [sD g.nm, uD g.un, x]) (.tup [.int g.dl, .int g.wt]) = some (.tup [sD g.nm, uD g.un, x, .int g.dl, .int g.wt]) := fun x => addD_tup _ _ (by simp)
  have cvl : cv (liftG g m).C = .tup ((liftG g m).C.map pD) := rfl
  unfold F__law_lifted
  rw [runF_eq]
  generalize hX : gD (liftG g m) = X
  have hX : X = .tup [sD g.nm, uD g.un, .tup ((liftG g m).C.map pD), .int g.dl, .int g.wt] := hX.symm
  subst hX
  generalize (liftG g m).C.map pD = CC at *
  generalize gD g = GG at *
  simp [b__law_lifted, s1, q, a1, s2, a2]
  rfl

end Lw

namespace Lw
open PySem PySem.Spec L2 FB Wk
open PyProof.Rows hiding St
/-! small boards -/
def gsO (gs : List Gd) : O := vO (gs.map gD)
theorem gsO_apA (j : Nat) (gs : List Gd) (ρ : FB.Env) (mm : M O) : apA j mm ρ (some (some (gsO gs))) = apB j (mm ρ) := rfl
theorem gsO_ap (j : Nat) (gs : List Gd) (g : Gd) (h : gs.length < 100) (ρ : FB.Env) : apC j (.val (.tup [sD g.nm, uD g.un, cv g.C, .int g.dl, .int g.wt])) ρ (some (some (gsO gs))) = .ok (.val .non) (ρ.set j (some (gsO (gs ++ [g])))) := by
  unfold gsO vO apC
  simp [gD]; omega
def nsV (ns : List (List Nat)) : D := .lst (ns.map sD)
theorem nsV_ix (ns : List (List Nat)) (i : Nat) (l : List Nat) (h : ns[i]? = some l) : ixO (.val (nsV ns)) (.val (.int (i : Int))) = some (.val (sD l)) := by
  show (atI (ns.map sD) (i : Int)).map O.val = _
  rw [atN, List.getElem?_map, h]; rfl
/-- what the small board's guards are bound by -/
def SG (unit time : Int) (g : Gd) : Prop := Cok g.C ∧ (∀ p ∈ g.C, p.1 ≤ 50 * unit ∧ p.2 ≤ 15 * time) ∧ 0 ≤ g.dl ∧ g.dl ≤ 3 * time ∧ 0 ≤ g.wt ∧ g.wt ≤ 2 * time
theorem under_at (ns : List (List Nat)) (r : Int) (k : Nat) (hk : k < ns.length) (h0 : 0 ≤ r) (h1 : r ≤ k) : ∃ u : Option (List Nat), ixO (.val (.lst (.non :: ns.map sD))) (.val (.int r)) = some (.val (uD u)) ∧ (u = none ∨ ∃ (j : Nat) (l : List Nat), j < k ∧ ns[j]? = some l ∧ u = some l) := by
  obtain ⟨n, rfl⟩ : ∃ n : Nat, r = (n : Int) := ⟨r.toNat, by omega⟩
  have e : ixO (.val (.lst (.non :: ns.map sD))) (.val (.int (n : Int))) = (atI (.non :: ns.map sD) (n : Int)).map O.val := rfl
  rw [e, atN]
  cases n with
  | zero => exact ⟨none, rfl, .inl rfl⟩
  | succ n =>
    have hn : n < ns.length := by omega
    refine ⟨some ns[n], ?_, .inr ⟨n, ns[n], by omega, List.getElem?_eq_getElem hn, rfl⟩⟩
    rw [List.getElem?_cons_succ, List.getElem?_map, List.getElem?_eq_getElem hn]; rfl
theorem sguard_b {x0 : D} {sc : List Int} (hsc : Sc (.val x0) sc) (ns : List (List Nat)) (unit time : Int) (hu : uOk unit) (ht : uOk time) (gs : List Gd) (hg : gs.length < ns.length) (hn8 : ns.length ≤ 8) (y6 y7 y8 y9 : Option O) :
    ∃ (g : Gd) (z6 z7 z8 z9 : Option O), b1__law_small_guards (E__law_small_guards (some (.val x0)) (some (.val (nsV ns))) (some (.val (.int unit))) (some (.val (.int time))) (some (gsO gs)) (some (.val (.int (0 + (gs.length : Int))))) y6 y7 y8 y9) =
      .ok .nx (E__law_small_guards (some (.val x0)) (some (.val (nsV ns))) (some (.val (.int unit))) (some (.val (.int time))) (some (gsO (gs ++ [g]))) (some (.val (.int (0 + (gs.length : Int))))) z6 z7 z8 z9) ∧ SG unit time g ∧ ns[gs.length]? = some g.nm ∧ (g.un = none ∨ ∃ (j : Nat) (l : List Nat), j < gs.length ∧ ns[j]? = some l ∧ g.un = some l) := by
  have t1 := ht.1
  have t2 := ht.2
  obtain ⟨o0, e0, s0⟩ := feed hsc (2 + gs.length) (by omega)
  obtain ⟨r1, o1, e1, s1, p1, q1⟩ := take o0 ((gs.length : Int) + 1) 1000 (s0.less (by omega)) (by omega) (by omega) (log_big (by omega) (by omega))
  obtain ⟨r2, o2, e2, s2, p2, q2⟩ := take o1 3 900 (s1.less (by omega)) (by omega) (by decide) (by decide)
  obtain ⟨C, o3, e3, s3, hC, hC2⟩ := small_curve o2 800 unit time (s2.less (by omega)) (by omega) hu ht
  obtain ⟨r4, o4, e4, s4, p4, q4⟩ := take o3 4 700 (s3.less (by omega)) (by omega) (by decide) (by decide)
  obtain ⟨r5, o5, e5, s5, p5, q5⟩ := take o4 3 600 (s4.less (by omega)) (by omega) (by decide) (by decide)
  obtain ⟨a, i1, a0, a1⟩ : ∃ a : Int, atI [O.val (.int r1), O.val (.int (gs.length : Int))] (if 0 < r2 then 1 else 0) = some (.val (.int a)) ∧ 0 ≤ a ∧ a ≤ gs.length := by
    by_cases h : 0 < r2
    · exact ⟨gs.length, by simp [h], by omega, by omega⟩
    · exact ⟨r1, by simp [h], by omega, by omega⟩
  obtain ⟨u, iu, hu2⟩ := under_at ns a gs.length hg a0 a1
  have hnm : ns[gs.length]? = some ns[gs.length] := List.getElem?_eq_getElem hg
  have ix := nsV_ix ns gs.length _ hnm
  have m4 := mulD_l r4 time (by omega)
  have m5 := mulD_l r5 time (by omega)
  have ad : addD (.lst [.non]) (nsV ns) = some (.lst (.non :: ns.map sD)) := by
    unfold nsV
    rw [addD_lst _ _ (by simp; omega)]; rfl
  have ap := fun ρ => gsO_ap 4 gs ⟨ns[gs.length], u, C, r4 * time, r5 * time⟩ (by omega) ρ
  have c1 : (2 : Int) + (gs.length : Int) = ((2 + gs.length : Nat) : Int) := by omega
  rw [← c1] at e0
  dsimp only at ap
  refine ⟨⟨ns[gs.length], u, C, r4 * time, r5 * time⟩, some o5, some (.val (.int a)), some (.val (cv C)), some (.val (.int (r4 * time))), ?_, ⟨hC, hC2, ?_, ?_, ?_, ?_⟩, hnm, hu2⟩
  · generalize nsV ns = NV at *
    generalize cv C = CC at *
    generalize uD u = UU at *
    generalize sD ns[gs.length] = SN at *
    generalize D.lst (.non :: ns.map sD) = NL at *
    simp [b1__law_small_guards, gsO_apA, e0, e1, e2, i1, e3, e4, m4, ix, ad, iu, e5, m5, ap]
  all_goals dsimp only
  · exact Int.mul_nonneg p4 (by omega)
  · exact Int.mul_le_mul_of_nonneg_right (by omega) (by omega)
  · exact Int.mul_nonneg p5 (by omega)
  · exact Int.mul_le_mul_of_nonneg_right (by omega) (by omega)
structure SGs (unit time : Int) (ns : List (List Nat)) (gs : List Gd) : Prop where
  nm : gs.map Gd.nm = ns.take gs.length
  sg : ∀ g ∈ gs, SG unit time g
  un : ∀ (i : Nat) (g : Gd), gs[i]? = some g → g.un = none ∨ ∃ (j : Nat) (k : Gd), j < i ∧ gs[j]? = some k ∧ g.un = some k.nm
theorem small_guards {x0 : D} {sc : List Int} (hsc : Sc (.val x0) sc) (ns : List (List Nat)) (unit time : Int) (hu : uOk unit) (ht : uOk time) (hn8 : ns.length ≤ 8) : ∃ gs, F__law_small_guards [.val x0, .val (nsV ns), .val (.int unit), .val (.int time)] = some (gsO gs, [none, none, none, none]) ∧ gs.length = ns.length ∧ SGs unit time ns gs := by
  obtain ⟨⟨gs, y5, y6, y7, y8, y9⟩, lp, hl, hs⟩ := forL_ex (a := aN 5) (b := b1__law_small_guards) (fun i : Nat => D.int (0 + (i : Int))) (fun s : List Gd × Option O × Option O × Option O × Option O × Option O => E__law_small_guards (some (.val x0)) (some (.val (nsV ns))) (some (.val (.int unit))) (some (.val (.int time))) (some (gsO s.1)) s.2.1 s.2.2.1 s.2.2.2.1 s.2.2.2.2.1 s.2.2.2.2.2)
    (fun xs s => xs = List.range' s.1.length (ns.length - s.1.length) ∧ s.1.length ≤ ns.length ∧ SGs unit time ns s.1) (xs := List.range ns.length) ([], none, none, none, none, none) ⟨by rw [List.range_eq_range']; rfl, by simp, rfl, by simp, fun i g h => by simp at h⟩ (by
    rintro x xs ⟨gs, y5, y6, y7, y8, y9⟩ ⟨hx, hl, hs⟩
    dsimp only at hx hl hs
    have hlt : gs.length < ns.length := by
      refine Nat.lt_of_le_of_ne hl fun e => ?_
      rw [e] at hx; simp at hx
    rw [show ns.length - gs.length = (ns.length - gs.length - 1) + 1 by omega, List.range'_succ] at hx
    injection hx with hx1 hx2
    subst hx1
    obtain ⟨g, z6, z7, z8, z9, e, sg, hnm, hun⟩ := sguard_b hsc ns unit time hu ht gs hlt hn8 y6 y7 y8 y9
    refine ⟨(gs ++ [g], some (.val (.int (0 + (gs.length : Int)))), z6, z7, z8, z9), ?_, ?_, by simp; omega, ?_, ?_, ?_⟩
    · simp only [e_fstep, e_aN, e_flA]
      show flK (b1__law_small_guards (E__law_small_guards _ _ _ _ _ (some (.val (.int (0 + (gs.length : Int))))) _ _ _ _)) = _
      rw [e]; rfl
    · rw [hx2]
      congr 1
      · simp
      · simp; omega
    · rw [List.map_append, hs.nm, List.length_append, List.length_singleton, List.take_succ, hnm]; rfl
    · intro k hk
      rcases List.mem_append.mp hk with hk | hk
      · exact hs.sg k hk
      · rw [List.mem_singleton.mp hk]; exact sg
    · intro i k hk
      have hk : (gs ++ [g])[i]? = some k := hk
      rcases get_snoc hk with ⟨hi, hk2⟩ | ⟨hi, hk2⟩
      · rcases hs.un i k hk2 with q | ⟨j, m, q1, q2, q3⟩
        · exact .inl q
        · exact .inr ⟨j, m, q1, by rw [List.getElem?_append_left (by omega)]; exact q2, q3⟩
      · subst hi
        subst hk2
        rcases hun with q | ⟨j, l, q1, q2, q3⟩
        · exact .inl q
        · refine .inr ⟨j, gs[j], q1, by rw [List.getElem?_append_left q1, List.getElem?_eq_getElem q1], ?_⟩
          rw [q3]
          have : (gs.map Gd.nm)[j]? = some l := by rw [hs.nm, List.getElem?_take_of_lt q1]; exact q2
          rw [List.getElem?_map, List.getElem?_eq_getElem q1] at this
          exact congrArg some (Option.some.inj this).symm)
  dsimp only at lp hl hs
  have hl2 : gs.length = ns.length := by
    have := congrArg List.length hl
    simp at this
    omega
  have lp : forL (aN 5) b1__law_small_guards (rangeL 0 ns.length) (E__law_small_guards (some (.val x0)) (some (.val (nsV ns))) (some (.val (.int unit))) (some (.val (.int time))) (some (gsO []))) = _ := lp
  have ln : lenO (.val (nsV ns)) = some (.val (.int (ns.length : Int))) := by unfold nsV; simp
  have sn := small_nat (n := ns.length) (by omega)
  refine ⟨gs, ?_, hl2, hs.2⟩
  have g0 : (O.lst [] : O) = gsO [] := rfl
  unfold F__law_small_guards
  rw [runF_eq]
  generalize gsO gs = GG at *
  generalize nsV ns = NV at *
  simp [b__law_small_guards, g0, ln, sn, lp]
  rfl
/-! loads -/
def lsO (ls : List Ld) : O := vO (ls.map lD)
theorem lsO_apA (j : Nat) (ls : List Ld) (ρ : FB.Env) (mm : M O) : apA j mm ρ (some (some (lsO ls))) = apB j (mm ρ) := rfl
theorem lsO_ap (j : Nat) (ls : List Ld) (l : Ld) (h : ls.length < 100) (ρ : FB.Env) : apC j (.val (.tup [sD l.nm, sD l.pl, cv l.cs, .int l.la, .bl l.on])) ρ (some (some (lsO ls))) = .ok (.val .non) (ρ.set j (some (lsO (ls ++ [l])))) := by
  unfold lsO vO apC
  simp [lD]; omega
def psO (cs : List (Int × Int)) : O := vO (cs.map pD)
theorem psO_apA (j : Nat) (cs : List (Int × Int)) (ρ : FB.Env) (mm : M O) : apA j mm ρ (some (some (psO cs))) = apB j (mm ρ) := rfl
theorem psO_ap (j : Nat) (cs : List (Int × Int)) (p : Int × Int) (h : cs.length < 100) (ρ : FB.Env) : apC j (.val (.tup [.int p.1, .int p.2])) ρ (some (some (psO cs))) = .ok (.val .non) (ρ.set j (some (psO (cs ++ [p])))) := by
  unfold psO vO apC
  simp [pD]; omega
theorem psO_tup (cs : List (Int × Int)) : tupO (psO cs) = some (.val (cv cs)) := by
  unfold psO
  rw [show tupO (vO (cs.map pD)) = some (.val (.tup (cs.map pD))) from by simp]; rfl
def SL1 (unit time : Int) (l : Ld) : Prop := csOk l.cs ∧ (∀ p ∈ l.cs, p.1 ≤ 3 * time ∧ p.2 ≤ 11 * unit) ∧ 0 ≤ l.la ∧ l.la ≤ 3 * unit
theorem scourse (o : O) (k unit time : Int) (m : Nat) (hm : m ≤ 4) (h : Fok (k + 8) o) (hk : 0 ≤ k) (hu : uOk unit) (ht : uOk time) (x0 x1 x2 x5 x6 x8 xa : Option O) : ∃ o' cs c, forL (aN 10) b1__law_small_loads (rangeL 0 m) (E__law_small_loads x0 x1 x2 (some (.val (.int unit))) (some (.val (.int time))) x5 x6 (some o) x8 (some (psO [])) xa) =
    .ok .nx (E__law_small_loads x0 x1 x2 (some (.val (.int unit))) (some (.val (.int time))) x5 x6 (some o') x8 (some (psO cs)) c) ∧ Fok k o' ∧ csOk cs ∧ ∀ p ∈ cs, p.1 ≤ 3 * time ∧ p.2 ≤ 11 * unit := by
  obtain ⟨u1, u2⟩ := hu
  obtain ⟨t1, t2⟩ := ht
  obtain ⟨⟨o', cs, c⟩, lp, s, hl, hc⟩ := forL_ex (a := aN 10) (b := b1__law_small_loads) (fun i : Nat => D.int (0 + (i : Int))) (fun s : O × List (Int × Int) × Option O => E__law_small_loads x0 x1 x2 (some (.val (.int unit))) (some (.val (.int time))) x5 x6 (some s.1) x8 (some (psO s.2.1)) s.2.2)
    (fun xs s => Fok (k + 2 * xs.length) s.1 ∧ s.2.1.length + xs.length = m ∧ ∀ p ∈ s.2.1, (1 ≤ p.1 ∧ p.1 ≤ 3 * time) ∧ 0 ≤ p.2 ∧ p.2 ≤ 11 * unit) (xs := List.range m) (o, [], xa) ⟨h.less (by simp; omega), by simp, by simp⟩ (by
    rintro x xs ⟨o, cs, c⟩ ⟨s, hl, hc⟩
    dsimp only at s hl hc
    simp only [List.length_cons] at s hl
    obtain ⟨r1, o1, e1, s1, p1, q1⟩ := take o 3 (k + 2 * xs.length + 1) (s.less (by omega)) (by omega) (by decide) (by decide)
    obtain ⟨r2, o2, e2, s2, p2, q2⟩ := take o1 12 (k + 2 * xs.length) (s1.less (by omega)) (by omega) (by decide) (by decide)
    have m1 := mulD_l (1 + r1) time (by omega)
    have m2 := mulD_l r2 unit (by omega)
    have ap := fun ρ => psO_ap 9 cs ((1 + r1) * time, r2 * unit) (by omega) ρ
    refine ⟨(o2, cs ++ [((1 + r1) * time, r2 * unit)], some (.val (.int (0 + (x : Int))))), ?_, s2, by simp; omega, fun p hp => ?_⟩
    · simp [b1__law_small_loads, psO_apA, e1, m1, e2, m2, ap]
    · rcases List.mem_append.mp hp with hp | hp
      · exact hc p hp
      · rw [List.mem_singleton.mp hp]
        have c1 := Int.mul_le_mul_of_nonneg_right (show 1 + r1 ≤ 3 by omega) (show 0 ≤ time by omega)
        have c2 := Int.mul_le_mul_of_nonneg_right (show 1 ≤ 1 + r1 by omega) (show 0 ≤ time by omega)
        have c3 := Int.mul_le_mul_of_nonneg_right (show r2 ≤ 11 by omega) (show 0 ≤ unit by omega)
        have c4 := Int.mul_nonneg p2 (show 0 ≤ unit by omega)
        dsimp only
        omega)
  dsimp only at lp s hl hc
  simp only [List.length_nil] at s hl
  refine ⟨o', cs, c, lp, s.less (by omega), ⟨by omega, fun p hp => ?_⟩, fun p hp => ⟨(hc p hp).1.2, (hc p hp).2.2⟩⟩
  have := hc p hp
  refine ⟨by omega, ⟨by omega, ?_⟩, ⟨by omega, ?_⟩⟩ <;> omega
theorem gsV_ix (gs : List Gd) (i : Nat) (g : Gd) (h : gs[i]? = some g) : ixO (.val (.lst (gs.map gD))) (.val (.int (i : Int))) = some (.val (gD g)) := by
  show (atI (gs.map gD) (i : Int)).map O.val = _
  rw [atN, List.getElem?_map, h]; rfl
theorem sload_b {x0 : D} {sc : List Int} (hsc : Sc (.val x0) sc) (ns : List (List Nat)) (gs : List Gd) (h0 : 0 < gs.length) (h8 : gs.length ≤ 8) (unit time : Int) (hu : uOk unit) (ht : uOk time) (ls : List Ld) (hg : ls.length < ns.length) (hn8 : ns.length ≤ 8) (y7 y8 y9 ya : Option O) :
    ∃ (l : Ld) (z7 z8 z9 za : Option O), b2__law_small_loads (E__law_small_loads (some (.val x0)) (some (.val (nsV ns))) (some (.val (.lst (gs.map gD)))) (some (.val (.int unit))) (some (.val (.int time))) (some (lsO ls)) (some (.val (.int (0 + (ls.length : Int))))) y7 y8 y9 ya) =
      .ok .nx (E__law_small_loads (some (.val x0)) (some (.val (nsV ns))) (some (.val (.lst (gs.map gD)))) (some (.val (.int unit))) (some (.val (.int time))) (some (lsO (ls ++ [l]))) (some (.val (.int (0 + (ls.length : Int))))) z7 z8 z9 za) ∧ SL1 unit time l ∧ ns[ls.length]? = some l.nm ∧ l.pl ∈ gs.map Gd.nm := by
  obtain ⟨o0, e0, s0⟩ := feed hsc (10 + ls.length) (by omega)
  obtain ⟨r1, o1, e1, s1, p1, q1⟩ := take o0 (gs.length : Int) 1000 (s0.less (by omega)) (by omega) (by omega) (log_big (by omega) (by omega))
  obtain ⟨i, rfl⟩ : ∃ i : Nat, r1 = (i : Int) := ⟨r1.toNat, by omega⟩
  have hi : i < gs.length := by omega
  have gx := gsV_ix gs i gs[i] (List.getElem?_eq_getElem hi)
  have g0 := gD_0 gs[i]
  obtain ⟨r2, o2, e2, s2, p2, q2⟩ := take o1 5 900 (s1.less (by omega)) (by omega) (by decide) (by decide)
  obtain ⟨m, rfl⟩ : ∃ m : Nat, r2 = (m : Int) := ⟨r2.toNat, by omega⟩
  have sn := small_nat (n := m) (by omega)
  obtain ⟨o3, cs, c, lp, s3, hc, hc2⟩ := scourse o2 800 unit time m (by omega) (s2.less (by omega)) (by omega) hu ht (some (.val x0)) (some (.val (nsV ns))) (some (.val (.lst (gs.map gD)))) (some (lsO ls)) (some (.val (.int (ls.length : Int)))) (some (.val (sD gs[i].nm))) ya
  obtain ⟨r4, o4, e4, s4, p4, q4⟩ := take o3 4 700 (s3.less (by omega)) (by omega) (by decide) (by decide)
  obtain ⟨r5, o5, e5, s5, p5, q5⟩ := take o4 4 600 (s4.less (by omega)) (by omega) (by decide) (by decide)
  have hnm : ns[ls.length]? = some ns[ls.length] := List.getElem?_eq_getElem hg
  have ix := nsV_ix ns ls.length _ hnm
  have m4 := mulD_l r4 unit (by omega)
  have ap := fun ρ => lsO_ap 5 ls ⟨ns[ls.length], gs[i].nm, cs, r4 * unit, decide (0 < r5)⟩ (by omega) ρ
  dsimp only at ap
  have tp := psO_tup cs
  have gl : lenO (.val (.lst (gs.map gD))) = some (.val (.int (gs.length : Int))) := by simp
  have c1 : (10 : Int) + (ls.length : Int) = ((10 + ls.length : Nat) : Int) := by omega
  rw [← c1] at e0
  have p0 : (O.lst [] : O) = psO [] := rfl
  have hu1 := hu.1
  refine ⟨⟨ns[ls.length], gs[i].nm, cs, r4 * unit, decide (0 < r5)⟩, some o5, some (.val (sD gs[i].nm)), some (psO cs), c, ?_, ⟨hc, hc2, ?_, ?_⟩, hnm, List.mem_map.mpr ⟨gs[i], List.getElem_mem hi, rfl⟩⟩
  · generalize nsV ns = NV at *
    generalize cv cs = CC at *
    generalize sD gs[i].nm = SG at *
    generalize gD gs[i] = GI at *
    generalize sD ns[ls.length] = SN at *
    generalize D.lst (gs.map gD) = GL at *
    generalize psO cs = P1 at *
    simp [b2__law_small_loads, lsO_apA, e0, gl, e1, gx, g0, e2, sn, p0, lp, e4, m4, e5, ix, tp, ap]
  all_goals dsimp only
  · exact Int.mul_nonneg p4 (by omega)
  · exact Int.mul_le_mul_of_nonneg_right (by omega) (by omega)
structure SLs (unit time : Int) (ns : List (List Nat)) (gs : List Gd) (ls : List Ld) : Prop where
  nm : ls.map Ld.nm = ns.take ls.length
  sl : ∀ l ∈ ls, SL1 unit time l
  pl : ∀ l ∈ ls, l.pl ∈ gs.map Gd.nm
theorem small_loads {x0 : D} {sc : List Int} (hsc : Sc (.val x0) sc) (ns : List (List Nat)) (gs : List Gd) (h0 : 0 < gs.length) (h8 : gs.length ≤ 8) (unit time : Int) (hu : uOk unit) (ht : uOk time) (hn8 : ns.length ≤ 8) : ∃ ls, F__law_small_loads [.val x0, .val (nsV ns), .val (.lst (gs.map gD)), .val (.int unit), .val (.int time)] = some (lsO ls, [none, none, none, none, none]) ∧ ls.length = ns.length ∧ SLs unit time ns gs ls := by
  obtain ⟨⟨ls, y6, y7, y8, y9, ya⟩, lp, hl, hs⟩ := forL_ex (a := aN 6) (b := b2__law_small_loads) (fun i : Nat => D.int (0 + (i : Int))) (fun s : List Ld × Option O × Option O × Option O × Option O × Option O => E__law_small_loads (some (.val x0)) (some (.val (nsV ns))) (some (.val (.lst (gs.map gD)))) (some (.val (.int unit))) (some (.val (.int time))) (some (lsO s.1)) s.2.1 s.2.2.1 s.2.2.2.1 s.2.2.2.2.1 s.2.2.2.2.2)
    (fun xs s => xs = List.range' s.1.length (ns.length - s.1.length) ∧ s.1.length ≤ ns.length ∧ SLs unit time ns gs s.1) (xs := List.range ns.length) ([], none, none, none, none, none) ⟨by rw [List.range_eq_range']; rfl, by simp, rfl, by simp, by simp⟩ (by
    rintro x xs ⟨ls, y6, y7, y8, y9, ya⟩ ⟨hx, hl, hs⟩
    dsimp only at hx hl hs
    have hlt : ls.length < ns.length := by
      refine Nat.lt_of_le_of_ne hl fun e => ?_
      rw [e] at hx; simp at hx
    rw [show ns.length - ls.length = (ns.length - ls.length - 1) + 1 by omega, List.range'_succ] at hx
    injection hx with hx1 hx2
    subst hx1
    obtain ⟨l, z7, z8, z9, za, e, sl, hnm, hpl⟩ := sload_b hsc ns gs h0 h8 unit time hu ht ls hlt hn8 y7 y8 y9 ya
    refine ⟨(ls ++ [l], some (.val (.int (0 + (ls.length : Int)))), z7, z8, z9, za), ?_, ?_, by simp; omega, ?_, ?_, ?_⟩
    · simp only [e_fstep, e_aN, e_flA]
      show flK (b2__law_small_loads (E__law_small_loads _ _ _ _ _ _ (some (.val (.int (0 + (ls.length : Int))))) _ _ _ _)) = _
      rw [e]; rfl
    · rw [hx2]
      congr 1
      · simp
      · simp; omega
    · rw [List.map_append, hs.nm, List.length_append, List.length_singleton, List.take_succ, hnm]; rfl
    · intro k hk
      rcases List.mem_append.mp hk with hk | hk
      · exact hs.sl k hk
      · rw [List.mem_singleton.mp hk]; exact sl
    · intro k hk
      rcases List.mem_append.mp hk with hk | hk
      · exact hs.pl k hk
      · rw [List.mem_singleton.mp hk]; exact hpl)
  dsimp only at lp hl hs
  have hl2 : ls.length = ns.length := by
    have := congrArg List.length hl
    simp at this
    omega
  have lp : forL (aN 6) b2__law_small_loads (rangeL 0 ns.length) (E__law_small_loads (some (.val x0)) (some (.val (nsV ns))) (some (.val (.lst (gs.map gD)))) (some (.val (.int unit))) (some (.val (.int time))) (some (lsO []))) = _ := lp
  have ln : lenO (.val (nsV ns)) = some (.val (.int (ns.length : Int))) := by unfold nsV; simp
  have sn := small_nat (n := ns.length) (by omega)
  refine ⟨ls, ?_, hl2, hs.2⟩
  have g0 : (O.lst [] : O) = lsO [] := rfl
  unfold F__law_small_loads
  rw [runF_eq]
  generalize lsO ls = GG at *
  generalize nsV ns = NV at *
  generalize D.lst (gs.map gD) = GL at *
  simp [b__law_small_loads, g0, ln, sn, lp]
  rfl

end Lw

namespace Lw
open PySem PySem.Spec L2 FB Wk
open PyProof.Rows hiding St
theorem sgs_ok {unit time : Int} (ht : uOk time) {ns : List (List Nat)} (hns : NsOk ns) {gs : List Gd} (h : SGs unit time ns gs) (h8 : gs.length ≤ 8) : ∀ n, n ≤ gs.length → ∃ ds, GsOk (gs.take n) ds ∧ ∀ (i d : Nat), ds[i]? = some d → d ≤ i + 1 := by
  have t1 := ht.1
  have t2 := ht.2
  intro n
  induction n with
  | zero => intro _; exact ⟨[], by simpa using GsOk.nil, by simp⟩
  | succ n ih =>
    intro hn
    obtain ⟨ds, hg, hd⟩ := ih (by omega)
    have hlt : n < gs.length := by omega
    have hgn : gs[n]? = some gs[n] := List.getElem?_eq_getElem hlt
    have tk : gs.take (n + 1) = gs.take n ++ [gs[n]] := by rw [List.take_succ, hgn]; rfl
    have ndn : ((gs.map Gd.nm).take (n + 1)).Nodup := by
      rw [h.nm]
      exact (hns.1.sublist (List.take_sublist _ _)).sublist (List.take_sublist _ _)
    rw [← List.map_take, tk, List.map_append, List.nodup_append] at ndn
    have hm := List.getElem_mem hlt
    have sg := h.sg _ hm
    have nmk : NameOk gs[n].nm := by
      have : gs[n].nm ∈ ns.take gs.length := by rw [← h.nm]; exact List.mem_map.mpr ⟨_, hm, rfl⟩
      exact hns.2 _ (List.mem_of_mem_take this)
    have tl : (gs.take n).length = n := by rw [List.length_take]; omega
    rw [tk]
    have key : ∃ v, ((gs[n].un = none ∧ v = 1) ∨ ∃ (j : Nat) (u : Gd) (d : Nat), j < (gs.take n).length ∧ (gs.take n)[j]? = some u ∧ gs[n].un = some u.nm ∧ ds[j]? = some d ∧ d < 8 ∧ v = d + 1) ∧ v ≤ n + 1 := by
      rcases h.un n _ hgn with q | ⟨j, k, q1, q2, q3⟩
      · exact ⟨1, .inl ⟨q, rfl⟩, by omega⟩
      · have jl : j < ds.length := by rw [hg.len, tl]; exact q1
        have e : ds[j]? = some ds[j] := List.getElem?_eq_getElem jl
        have := hd j _ e
        exact ⟨ds[j] + 1, .inr ⟨j, k, ds[j], by rw [tl]; exact q1, by rw [List.getElem?_take_of_lt q1]; exact q2, q3, e, by omega, rfl⟩, by omega⟩
    obtain ⟨v, hv, hv2⟩ := key
    refine ⟨ds ++ [v], hg.snoc (fun z => ndn.2.2 _ z gs[n].nm (by simp) rfl) nmk ⟨sg.1, ⟨sg.2.2.1, by have := sg.2.2.2.1; omega⟩, ⟨sg.2.2.2.2.1, by have := sg.2.2.2.2.2; omega⟩⟩ hv, fun i d hi => ?_⟩
    have dl : ds.length = n := by rw [hg.len, tl]
    rcases get_snoc hi with ⟨_, hi⟩ | ⟨e, hi⟩
    · exact hd i d hi
    · omega
theorem GsOk.map {gs : List Gd} {ds : List Nat} (h : GsOk gs ds) (f : Gd → Gd) (h1 : ∀ g, (f g).nm = g.nm) (h2 : ∀ g, (f g).un = g.un) (h3 : ∀ g ∈ gs, Cok (f g).C ∧ numOk (f g).dl ∧ numOk (f g).wt) : GsOk (gs.map f) ds := by
  have e : (gs.map f).map Gd.nm = gs.map Gd.nm := by rw [List.map_map]; exact List.map_congr_left fun g _ => h1 g
  refine ⟨by rw [List.length_map]; exact h.len, by rw [e]; exact h.nd, fun g hg => ?_, fun g hg => ?_, fun i g hg => ?_⟩
  · obtain ⟨k, hk, rfl⟩ := List.mem_map.mp hg
    rw [h1]; exact h.names k hk
  · obtain ⟨k, hk, rfl⟩ := List.mem_map.mp hg
    exact h3 k hk
  · rw [List.getElem?_map] at hg
    cases hk : gs[i]? with
    | none => rw [hk] at hg; cases hg
    | some k =>
      rw [hk] at hg
      cases hg
      rcases h.under i k hk with ⟨q1, q2⟩ | ⟨j, u, d, q1, q2, q3, q4, q5, q6⟩
      · exact .inl ⟨by rw [h2]; exact q1, q2⟩
      · refine .inr ⟨j, f u, d, q1, by rw [List.getElem?_map, q2]; rfl, by rw [h2, h1]; exact q3, q4, q5, q6⟩
theorem rst_nn {b : Bd} (hl : ∀ x ∈ b.ls, 0 ≤ x.la) (g : List Nat) : 0 ≤ rst b g := by
  unfold rst
  have : ∀ ls : List Ld, (∀ x ∈ ls, 0 ≤ x.la) → 0 ≤ S1 ls fun x => if g ∈ ovr b x.nm then lav x else 0 := by
    intro ls
    induction ls with
    | nil => intro _; exact Int.le_refl 0
    | cons x ls ih =>
      intro h
      rw [S1_cons]
      have h1 := ih fun y hy => h y (List.mem_cons_of_mem _ hy)
      have h2 := h x (List.mem_cons_self ..)
      have h3 : 0 ≤ lav x := by unfold lav; split <;> omega
      split <;> omega
  exact this b.ls hl
theorem rst_le {b : Bd} {q : Int} (h0 : 0 ≤ q) (hl : ∀ x ∈ b.ls, x.la ≤ q) (g : List Nat) : rst b g ≤ q * b.ls.length := by
  unfold rst
  have : ∀ ls : List Ld, (∀ x ∈ ls, x.la ≤ q) → (S1 ls fun x => if g ∈ ovr b x.nm then lav x else 0) ≤ q * ls.length := by
    intro ls
    induction ls with
    | nil => intro _; simp [S1_nil]
    | cons x ls ih =>
      intro h
      rw [S1_cons, List.length_cons]
      have h1 := ih fun y hy => h y (List.mem_cons_of_mem _ hy)
      have h2 := h x (List.mem_cons_self ..)
      have h3 : lav x ≤ q := by unfold lav; split <;> omega
      push_cast
      rw [Int.mul_add]
      split <;> omega
  exact this b.ls hl
theorem lift_ok {C : List (Int × Int)} (h : Cok C) {m : Int} (h0 : 0 ≤ m) (h1 : ∀ p ∈ C, p.1 + m < 1000000000000000000000000000000000000000000000000000000000000) : Cok (C.map fun p => (p.1 + m, p.2)) := by
  obtain ⟨a, b, c, d⟩ := h
  refine ⟨by simpa using a, by simpa using b, ?_, fun p hp => ?_⟩
  · rw [List.pairwise_map]
    exact c.imp fun h => ⟨by have := h.1; dsimp only; omega, h.2⟩
  · obtain ⟨q, hq, rfl⟩ := List.mem_map.mp hp
    have := d q hq
    have := h1 q hq
    dsimp only
    omega
/-- the bounds of a small board -/
structure Sml (unit time : Int) (b : Bd) : Prop where
  g8 : b.gs.length ≤ 8
  l8 : b.ls.length ≤ 8
  c : ∀ g ∈ b.gs, ∀ p ∈ g.C, p.1 ≤ 80 * unit ∧ p.2 ≤ 15 * time
  d : ∀ g ∈ b.gs, g.dl ≤ 3 * time ∧ g.wt ≤ 2 * time
  l : ∀ x ∈ b.ls, 0 ≤ x.la ∧ x.la ≤ 3 * unit ∧ ∀ p ∈ x.cs, p.1 ≤ 3 * time ∧ p.2 ≤ 11 * unit
theorem nsV_to (ns : List (List Nat)) (n : Nat) : slO (.val (nsV ns)) none (some (n : Int)) = some (.val (nsV (ns.take n))) := by
  show some (O.val (.lst (cutL (ns.map sD) none (some (n : Int))))) = _
  rw [cut_to, ← List.map_take]; rfl
theorem nsV_from (ns : List (List Nat)) (n : Nat) : slO (.val (nsV ns)) (some (n : Int)) none = some (.val (nsV (ns.drop n))) := by
  show some (O.val (.lst (cutL (ns.map sD) (some (n : Int)) none))) = _
  rw [cut_from, ← List.map_drop]; rfl
theorem gsO_toD (gs : List Gd) : (gsO gs).toD = .lst (gs.map gD) := by unfold gsO; rw [vO_toD]
theorem lsO_toD (ls : List Ld) : (lsO ls).toD = .lst (ls.map lD) := by unfold lsO; rw [vO_toD]
theorem nO_toD (ns : List (List Nat)) : (nO ns).toD = nsV ns := by unfold nO nsV; rw [vO_toD]; rfl
theorem small_board {x0 : D} {sc : List Int} (hsc : Sc (.val x0) sc) (unit time : Int) (hu : uOk unit) (ht : uOk time) : ∃ b, F__law_small_board [.val x0, .val (.int unit), .val (.int time)] = some (.val (bD b), [none, none, none]) ∧ BOk b ∧ Sml unit time b := by
  have u1 := hu.1
  have u2 := hu.2
  obtain ⟨o0, e0, s0⟩ := feed hsc 0 (by omega)
  obtain ⟨r1, o1, e1, s1, p1, q1⟩ := take o0 8 1000 (s0.less (by omega)) (by omega) (by decide) (by decide)
  obtain ⟨o2, e2, s2⟩ := feed hsc 1 (by omega)
  obtain ⟨r3, o3, e3, s3, p3, q3⟩ := take o1 9 900 (s1.less (by omega)) (by omega) (by decide) (by decide)
  have e0 : F__law_feed [.val x0, .val (.int 0)] = some (o0, [none, none]) := e0
  have e2 : F__law_feed [.val x0, .val (.int 1)] = some (o2, [none, none]) := e2
  obtain ⟨many, hm, m1, m2⟩ : ∃ many : Nat, 1 + r1 = (many : Int) ∧ 1 ≤ many ∧ many ≤ 8 := ⟨(1 + r1).toNat, by omega, by omega, by omega⟩
  obtain ⟨tot, hT, t1, t2⟩ : ∃ tot : Nat, (many : Int) + r3 = (tot : Int) ∧ many ≤ tot ∧ tot ≤ many + 8 := ⟨many + r3.toNat, by omega, by omega, by omega⟩
  obtain ⟨o4, ns, e4, s4, hl4, hns⟩ := names o2 1000 tot (s2.less (by omega)) (by omega) (by omega) (by omega)
  obtain ⟨gs, e5, hl5, hgs⟩ := small_guards hsc (ns.take many) unit time hu ht (by rw [List.length_take]; omega)
  have gl : gs.length = many := by rw [hl5, List.length_take]; omega
  obtain ⟨ls, e6, hl6, hls⟩ := small_loads hsc (ns.drop many) gs (by omega) (by omega) unit time hu ht (by rw [List.length_drop]; omega)
  have ll : ls.length ≤ 8 := by rw [hl6, List.length_drop]; omega
  have hnt : NsOk (ns.take many) := ⟨hns.1.sublist (List.take_sublist _ _), fun l hl => hns.2 l (List.mem_of_mem_take hl)⟩
  obtain ⟨ds, hg, _⟩ := sgs_ok ht hnt hgs (by omega) gs.length (Nat.le_refl _)
  rw [List.take_length] at hg
  have gnm : gs.map Gd.nm = ns.take many := by rw [hgs.nm, hl5, List.take_length]
  have lnm : ls.map Ld.nm = ns.drop many := by rw [hls.nm, hl6, List.take_length]
  have nd : (gs.map Gd.nm ++ ls.map Ld.nm).Nodup := by rw [gnm, lnm, List.take_append_drop]; exact hns.1
  have lok : LsOk gs ls := by
    refine ⟨fun l hl => ?_, hls.pl, fun l hl => ?_⟩
    · have : l.nm ∈ ns.drop many := by rw [← lnm]; exact List.mem_map.mpr ⟨l, hl, rfl⟩
      exact hns.2 _ (List.mem_of_mem_drop this)
    · have := hls.sl l hl
      exact ⟨this.1, this.2.2.1, by have := this.2.2.2; omega⟩
  have hb : BOk ⟨gs, ls⟩ := ⟨⟨ds, hg⟩, lok, by show 0 < gs.length; omega, by show gs.length ≤ 16; omega, by show ls.length ≤ 24; omega, nd⟩
  have lr := law_rest true true ⟨gs, ls⟩ hb
  have lr : F__law_rest [.val (.tup [.lst (gs.map gD), .lst (ls.map lD)])] = some (mO (gs.map Gd.nm) (iV (rst ⟨gs, ls⟩)), [none]) := lr
  have td := mO_toD (gs.map Gd.nm) (iV (rst ⟨gs, ls⟩))
  have r0 := rst_nn (b := ⟨gs, ls⟩) (fun x hx => (hls.sl x hx).2.2.1)
  have r24 : ∀ g, rst ⟨gs, ls⟩ g ≤ 24 * unit := fun g => by
    have := rst_le (b := ⟨gs, ls⟩) (q := 3 * unit) (by omega) (fun x hx => (hls.sl x hx).2.2.2) g
    have h2 : 3 * unit * (ls.length : Int) ≤ 3 * unit * 8 := Int.mul_le_mul_of_nonneg_left (by omega) (by omega)
    have h3 : rst ⟨gs, ls⟩ g ≤ 3 * unit * (ls.length : Int) := this
    omega
  obtain ⟨r7, o7, e7, s7, p7, q7⟩ := take o3 8 800 (s3.less (by omega)) (by omega) (by decide) (by decide)
  have n1 := nO_toD ns
  have c1 := nsV_to ns many
  have c2 := nsV_from ns many
  have g1 := gsO_toD gs
  have l1 := lsO_toD ls
  have q : q1__law_small_board (E__law_small_board (some (.val x0)) (some (.val (.int unit))) (some (.val (.int time))) (some o7) (some (.val (.int (many : Int)))) (some (.val (nsV ns))) (some (.val (.lst (gs.map gD)))) (some (.val (.lst (ls.map lD)))) (some (.val (mD (gs.map Gd.nm) (iV (rst ⟨gs, ls⟩)))))) = .ok (vO ((gs.map fun g => liftG g (rst ⟨gs, ls⟩ g.nm)).map gD)) (E__law_small_board (some (.val x0)) (some (.val (.int unit))) (some (.val (.int time))) (some o7) (some (.val (.int (many : Int)))) (some (.val (nsV ns))) (some (.val (.lst (gs.map gD)))) (some (.val (.lst (ls.map lD)))) (some (.val (mD (gs.map Gd.nm) (iV (rst ⟨gs, ls⟩)))))) := by
    rw [show vO ((gs.map fun g => liftG g (rst ⟨gs, ls⟩ g.nm)).map gD) = .lst (gs.map fun g => O.val (gD (liftG g (rst ⟨gs, ls⟩ g.nm)))) from by unfold vO; rw [List.map_map, List.map_map]; rfl]
    refine comp_map gD _ (by simp) (by omega) (by decide) fun g hgm => ?_
    have e0 := gD_0 g
    have ix := ix_mD (v := iV (rst ⟨gs, ls⟩)) hg.nd (List.mem_map.mpr ⟨g, hgm, rfl⟩)
    have lf := lifted g (rst ⟨gs, ls⟩ g.nm) (hgs.sg g hgm).1.2.1
    simp [e0, ix, lf]
  have hlift : ∀ g ∈ gs, Cok (liftG g (rst ⟨gs, ls⟩ g.nm)).C ∧ numOk (liftG g (rst ⟨gs, ls⟩ g.nm)).dl ∧ numOk (liftG g (rst ⟨gs, ls⟩ g.nm)).wt := fun g hgm => by
    have := hg.rest g hgm
    refine ⟨lift_ok this.1 (r0 g.nm) fun p hp => ?_, this.2⟩
    have := ((hgs.sg g hgm).2.1 p hp).1
    have := r24 g.nm
    omega
  have hg2 := hg.map (fun g => liftG g (rst ⟨gs, ls⟩ g.nm)) (fun _ => rfl) (fun _ => rfl) hlift
  have gnm2 : (gs.map fun g => liftG g (rst ⟨gs, ls⟩ g.nm)).map Gd.nm = gs.map Gd.nm := by rw [List.map_map]; rfl
  by_cases h7 : 0 < r7
  · refine ⟨⟨gs.map fun g => liftG g (rst ⟨gs, ls⟩ g.nm), ls⟩, ?_, ⟨⟨ds, hg2⟩, ⟨lok.names, fun l hl => by rw [gnm2]; exact lok.pl l hl, lok.rest⟩, by show 0 < (gs.map _).length; simp; omega, by show (gs.map _).length ≤ 16; simp; omega, by show ls.length ≤ 24; omega, by show ((gs.map _).map Gd.nm ++ _).Nodup; rw [gnm2]; exact nd⟩, ⟨by show (gs.map _).length ≤ 8; simp; omega, ll, ?_, ?_, ?_⟩⟩
    · unfold F__law_small_board
      rw [runF_eq]
      generalize hX : bD ⟨gs.map fun g => liftG g (rst ⟨gs, ls⟩ g.nm), ls⟩ = X
      have hX : X = .tup [.tup ((gs.map fun g => liftG g (rst ⟨gs, ls⟩ g.nm)).map gD), .tup (ls.map lD)] := hX.symm
      subst hX
      generalize (gs.map fun g => liftG g (rst ⟨gs, ls⟩ g.nm)).map gD = A1 at *
      generalize mD (gs.map Gd.nm) (iV (rst ⟨gs, ls⟩)) = A2 at *
      generalize mO (gs.map Gd.nm) (iV (rst ⟨gs, ls⟩)) = A3 at *
      generalize gs.map gD = A4 at *
      generalize ls.map lD = A5 at *
      generalize nsV (ns.take many) = A6 at *
      generalize nsV (ns.drop many) = A7 at *
      generalize nsV ns = A8 at *
      generalize nO ns = A9 at *
      simp [b__law_small_board, e0, e1, hm, e2, e3, hT, e4, n1, c1, e5, g1, c2, e6, l1, lr, td, e7, h7, q]
      rfl
    · intro g hgm p hp
      obtain ⟨k, hk, rfl⟩ := List.mem_map.mp hgm
      obtain ⟨p', hp', rfl⟩ := List.mem_map.mp hp
      have := (hgs.sg k hk).2.1 p' hp'
      have := r24 k.nm
      dsimp only
      omega
    · intro g hgm
      obtain ⟨k, hk, rfl⟩ := List.mem_map.mp hgm
      exact ⟨(hgs.sg k hk).2.2.2.1, (hgs.sg k hk).2.2.2.2.2⟩
    · intro x hx
      exact ⟨(hls.sl x hx).2.2.1, (hls.sl x hx).2.2.2, (hls.sl x hx).2.1⟩
  · refine ⟨⟨gs, ls⟩, ?_, hb, ⟨by show gs.length ≤ 8; omega, ll, ?_, ?_, ?_⟩⟩
    · unfold F__law_small_board
      rw [runF_eq]
      generalize hX : bD ⟨gs, ls⟩ = X
      have hX : X = .tup [.tup (gs.map gD), .tup (ls.map lD)] := hX.symm
      subst hX
      generalize mO (gs.map Gd.nm) (iV (rst ⟨gs, ls⟩)) = A3 at *
      generalize gs.map gD = A4 at *
      generalize ls.map lD = A5 at *
      generalize nsV (ns.take many) = A6 at *
      generalize nsV (ns.drop many) = A7 at *
      generalize nsV ns = A8 at *
      generalize nO ns = A9 at *
      simp [b__law_small_board, e0, e1, hm, e2, e3, hT, e4, n1, c1, e5, g1, c2, e6, l1, lr, td, e7, h7]
      rfl
    · intro g hgm p hp
      have := (hgs.sg g hgm).2.1 p hp
      omega
    · intro g hgm
      exact ⟨(hgs.sg g hgm).2.2.2.1, (hgs.sg g hgm).2.2.2.2.2⟩
    · intro x hx
      exact ⟨(hls.sl x hx).2.2.1, (hls.sl x hx).2.2.2, (hls.sl x hx).2.1⟩

end Lw

namespace Lw
open PySem PySem.Spec L2 FB Wk
open PyProof.Rows hiding St
/-! rest, awake, loud -/
theorem gD_2 (g : Gd) : ixO (.val (gD g)) (.val (.int 2)) = some (.val (cv g.C)) := rfl
theorem gD_3 (g : Gd) : ixO (.val (gD g)) (.val (.int 3)) = some (.val (.int g.dl)) := rfl
theorem gD_4 (g : Gd) : ixO (.val (gD g)) (.val (.int 4)) = some (.val (.int g.wt)) := rfl
theorem pD_0 (p : Int × Int) : ixO (.val (pD p)) (.val (.int 0)) = some (.val (.int p.1)) := rfl
theorem pD_1 (p : Int × Int) : ixO (.val (pD p)) (.val (.int 1)) = some (.val (.int p.2)) := rfl
def hd0 : List (Int × Int) → Int × Int
  | [] => (0, 0)
  | p :: _ => p
def lstC (C : List (Int × Int)) : Int := (hd0 C).1
theorem cv_0 {C : List (Int × Int)} (h : C ≠ []) : ixO (.val (cv C)) (.val (.int 0)) = some (.val (pD (hd0 C))) := by
  cases C with
  | nil => exact absurd rfl h
  | cons p C =>
    show (atI ((p :: C).map pD) ((0 : Nat) : Int)).map O.val = _
    rw [atN]; rfl
theorem least {C : List (Int × Int)} (h : C ≠ []) : F_least_of [.val (cv C)] = some (.val (.int (lstC C)), [none]) := by
  have c0 := cv_0 h
  have p0 := pD_0 (hd0 C)
  unfold F_least_of
  rw [runF_eq]
  simp [b_least_of, c0, p0, lstC]
  rfl
/-- what the load of a name is -/
def laf (b : Bd) (n : List Nat) : Int := ((b.ls.find? fun x => decide (x.nm = n)).map Ld.la).getD 0
theorem laf_at {b : Bd} (h : BOk b) {x : Ld} (hx : x ∈ b.ls) : laf b x.nm = x.la := by
  unfold laf
  cases hf : b.ls.find? fun y => decide (y.nm = x.nm) with
  | none =>
    rw [List.find?_eq_none] at hf
    exact absurd (by simp) (hf x hx)
  | some y =>
    have h1 := List.mem_of_find?_eq_some hf
    have h2 := List.find?_some hf
    have := ld_eq h h1 hx (by simpa using h2)
    subst this; rfl
def ons (b : Bd) : List (List Nat) := (b.ls.filter fun x => x.on).map Ld.nm
theorem ons_in {b : Bd} : ∀ p ∈ ons b, p ∈ nms b := fun p hp => by
  obtain ⟨x, hx, rfl⟩ := List.mem_map.mp hp
  exact nms_ls (List.mem_filter.mp hx).1
theorem ons_nd {b : Bd} (h : BOk b) : (ons b).Nodup := (lsnd h).sublist ((List.filter_sublist (l := b.ls)).map Ld.nm)
theorem rst_drw {b : Bd} (h : BOk b) (g : List Nat) : drw b [] (ons b) (laf b) g = rst b g := by
  rw [drw_S1]
  unfold ons rst
  rw [S1_map]
  unfold S1
  rw [S1_filter]
  refine S1_same fun x hx => ?_
  rw [laf_at h hx]
  have : fedB (ovr b x.nm) [] = true := by unfold fedB; simp
  rw [this]
  unfold lav
  by_cases a : x.on = true <;> by_cases c : g ∈ ovr b x.nm <;> simp [a, c]
theorem rest (b : Bd) (h : BOk b) : F_rest [.val (bD b)] = some (mO (b.gs.map Gd.nm) (iV (rst b)), [none]) := by
  have b1 := bD_1 b
  have nd := lsnd h
  have l2 := h.l2
  obtain ⟨⟨ks, x2, x3, x4, x5, x6⟩, lp, done, hd, hk⟩ := forL_ex (a := aTup (aCons (aN 2) (aCons (aN 3) (aCons (aN 4) (aCons (aN 5) (aCons (aN 6) (aNil))))))) (b := b1_rest) lD (fun s : List (List Nat) × Option O × Option O × Option O × Option O × Option O => E_rest (some (.val (bD b))) (some (mO s.1 (iV (laf b)))) s.2.1 s.2.2.1 s.2.2.2.1 s.2.2.2.2.1 s.2.2.2.2.2) (fun xs s => ∃ done, done ++ xs = b.ls ∧ s.1 = (done.filter fun x => x.on).map Ld.nm) (xs := b.ls) ([], none, none, none, none, none) ⟨[], rfl, rfl⟩ (by
    rintro x xs ⟨ks, x2, x3, x4, x5, x6⟩ ⟨done, hd, hk⟩
    dsimp only at hk
    subst hk
    have hx : x ∈ b.ls := by rw [← hd]; simp
    have hn : x.nm ∉ (done.filter fun x => x.on).map Ld.nm := fun z => by
      rw [← hd, List.map_append, List.nodup_append] at nd
      obtain ⟨y, hy, e⟩ := List.mem_map.mp z
      exact nd.2.2 _ (List.mem_map.mpr ⟨y, (List.mem_filter.mp hy).1, e⟩) x.nm (by simp) rfl
    have hl : ((done.filter fun x => x.on).map Ld.nm).length < 1000000 := by
      have a1 := congrArg List.length hd
      have a2 := List.length_filter_le (fun x : Ld => x.on) done
      simp at a1 ⊢
      omega
    have st := set_new (v := iV (laf b)) hn hl (iV (laf b) x.nm)
    rw [updN_self] at st
    have ev : iV (laf b) x.nm = .int x.la := by show D.int (laf b x.nm) = _; rw [laf_at h hx]
    rw [ev] at st
    cases ho : x.on with
    | true =>
      refine ⟨((done.filter fun x => x.on).map Ld.nm ++ [x.nm], some (.val (sD x.nm)), some (.val (sD x.pl)), some (.val (cv x.cs)), some (.val (.int x.la)), some (.val (.bl x.on))), ?_, done ++ [x], by simp [hd], by simp [ho]⟩
      simp [-List.map_map, b1_rest, lD, ho, st]
    | false =>
      refine ⟨((done.filter fun x => x.on).map Ld.nm, some (.val (sD x.nm)), some (.val (sD x.pl)), some (.val (cv x.cs)), some (.val (.int x.la)), some (.val (.bl x.on))), ?_, done ++ [x], by simp [hd], by simp [ho]⟩
      simp [-List.map_map, b1_rest, lD, ho])
  dsimp only at lp hk
  rw [List.append_nil] at hd
  subst hk
  rw [hd] at lp
  have lp : forL (aTup (aCons (aN 2) (aCons (aN 3) (aCons (aN 4) (aCons (aN 5) (aCons (aN 6) (aNil))))))) b1_rest (b.ls.map lD) (E_rest (some (.val (bD b))) (some (mO [] (iV (laf b))))) = .ok .nx (E_rest (some (.val (bD b))) (some (mO (ons b) (iV (laf b)))) x2 x3 x4 x5 x6) := lp
  have dr := draws_run b h (t := .lst []) (S := []) (.inl rfl) (ons_nd h) ons_in (laf b)
  rw [show drw b [] (ons b) (laf b) = rst b from funext fun g => rst_drw h g] at dr
  have td := mO_toD (ons b) (iV (laf b))
  unfold F_rest
  rw [runF_eq]
  generalize mO (ons b) (iV (laf b)) = M1 at *
  generalize mD (ons b) (iV (laf b)) = M2 at *
  simp [b_rest, mO_nil (iV (laf b)), b1, lp, td, dr]
  rfl
/-- whether a guard is awake -/
def awB (f : List Nat → Int) (g : Gd) : Bool := decide (lstC g.C ≤ f g.nm)
theorem gC_ne {b : Bd} (h : BOk b) {g : Gd} (hg : g ∈ b.gs) : g.C ≠ [] := by
  obtain ⟨ds, hd⟩ := h.deep
  exact (hd.rest g hg).1.1
theorem awake (b : Bd) (h : BOk b) (f : List Nat → Int) : F_awake [.val (bD b), .val (mD (b.gs.map Gd.nm) (iV f))] = some (sO ((b.gs.filter (awB f)).map Gd.nm), [none, none]) := by
  have b0 := bD_0 b
  have g2 := h.g2
  have q : q1_awake (E_awake (some (.val (bD b))) (some (.val (mD (b.gs.map Gd.nm) (iV f))))) = .ok (sO ((b.gs.filter (awB f)).map Gd.nm)) (E_awake (some (.val (bD b))) (some (.val (mD (b.gs.map Gd.nm) (iV f))))) := by
    rw [show sO ((b.gs.filter (awB f)).map Gd.nm) = .lst ((b.gs.filter (awB f)).map fun g => O.val (sD g.nm)) from by unfold sO vO; rw [List.map_map, List.map_map]; rfl]
    refine comp_run gD (awB f) _ (by simp [b0]) (by omega) (by decide) fun g hg => ?_
    have ix := ix_mD (v := iV f) (gsnd h) (List.mem_map.mpr ⟨g, hg, rfl⟩)
    have le := least (gC_ne h hg)
    simp [gD, ix, le, awB]
  unfold F_awake
  rw [runF_eq]
  generalize sO ((b.gs.filter (awB f)).map Gd.nm) = S1 at *
  simp [b_awake, q]
  rfl
/-- the first guard that is awake at rest -/
noncomputable def loudO (b : Bd) : Option (List Nat) := ((b.gs.filter (awB (rst b))).map Gd.nm).head?
theorem loud (b : Bd) (h : BOk b) : F_loud [.val (bD b)] = some (.val (uD (loudO b)), [none]) := by
  have re := rest b h
  have td := mO_toD (b.gs.map Gd.nm) (iV (rst b))
  have aw := awake b h (rst b)
  have t2 := sO_toD ((b.gs.filter (awB (rst b))).map Gd.nm)
  unfold loudO
  generalize (b.gs.filter (awB (rst b))).map Gd.nm = L at *
  unfold F_loud
  rw [runF_eq]
  cases L with
  | nil =>
    simp [b_loud, re, td, aw, t2, forL]
    exact ⟨rfl, rfl⟩
  | cons l L =>
    simp [b_loud, re, td, aw, t2, forL_step, b1_loud]
    exact ⟨rfl, rfl⟩

end Lw

namespace Lw
open PySem PySem.Spec L2 FB Wk
open PyProof.Rows hiding St
theorem ask_quiet (b : Bd) (h : BOk b) (hq : loudO b = none) : F_ask_quiet [.val (bD b)] = some (.val .non, [none]) := by
  have lo := loud b h
  rw [hq] at lo
  have e : notNO (.val .non) (.val .non) = some (.val (.bl false)) := rfl
  have u0 : uD none = .non := rfl
  rw [u0] at lo
  unfold F_ask_quiet
  rw [runF_eq]
  simp [b_ask_quiet, lo, e]
  rfl
theorem law_loud (u v : Bool) (b : Bd) (h : BOk b) : F__law_loud [.val (bQ u v b)] = some (.val (uD (loudO b)), [none]) := by
  have b0 := bQ_0 u v b
  have re := law_rest u v b h
  have td := mO_toD (b.gs.map Gd.nm) (iV (rst b))
  have key : ∀ (gs : List Gd) (c : Option O), (∀ g ∈ gs, g ∈ b.gs) → (((gs.filter (awB (rst b))).map Gd.nm).head? = none ∧ ∃ c', forL (aN 2) b1__law_loud (gs.map gD) (E__law_loud (some (.val (bQ u v b))) (some (.val (mD (b.gs.map Gd.nm) (iV (rst b))))) c) = .ok .nx (E__law_loud (some (.val (bQ u v b))) (some (.val (mD (b.gs.map Gd.nm) (iV (rst b))))) c')) ∨ ∃ l ρ2, ((gs.filter (awB (rst b))).map Gd.nm).head? = some l ∧ forL (aN 2) b1__law_loud (gs.map gD) (E__law_loud (some (.val (bQ u v b))) (some (.val (mD (b.gs.map Gd.nm) (iV (rst b))))) c) = .ok (.ret (.val (sD l))) ρ2 := by
    intro gs
    induction gs with
    | nil => intro c _; exact .inl ⟨rfl, c, rfl⟩
    | cons g gs ih =>
      intro c hm
      have hg := hm g (List.mem_cons_self ..)
      have e0 := gD_0 g
      have e2 := gD_2 g
      have ix := ix_mD (v := iV (rst b)) (gsnd h) (List.mem_map.mpr ⟨g, hg, rfl⟩)
      have c0 := cv_0 (gC_ne h hg)
      have p0 := pD_0 (hd0 g.C)
      have st : fstep (aN 2) b1__law_loud (gD g) (E__law_loud (some (.val (bQ u v b))) (some (.val (mD (b.gs.map Gd.nm) (iV (rst b))))) c) = if awB (rst b) g = true then .ok (.ret (.val (sD g.nm))) (E__law_loud (some (.val (bQ u v b))) (some (.val (mD (b.gs.map Gd.nm) (iV (rst b))))) (some (.val (gD g)))) else .ok .nx (E__law_loud (some (.val (bQ u v b))) (some (.val (mD (b.gs.map Gd.nm) (iV (rst b))))) (some (.val (gD g)))) := by
        rw [show awB (rst b) g = decide ((hd0 g.C).1 ≤ rst b g.nm) from rfl]
        by_cases ha : (hd0 g.C).1 ≤ rst b g.nm <;> simp [b1__law_loud, e0, e2, ix, c0, p0, ha]
      rw [List.map_cons, forL_step, st]
      cases ha : awB (rst b) g with
      | true =>
        exact .inr ⟨g.nm, _, by rw [List.filter_cons, ha]; rfl, by rw [if_pos rfl]⟩
      | false =>
        rw [if_neg (by simp)]
        rw [List.filter_cons, ha]
        exact ih (some (.val (gD g))) fun y hy => hm y (List.mem_cons_of_mem _ hy)
  unfold F__law_loud
  rw [runF_eq]
  rcases key b.gs none (fun _ z => z) with ⟨q1, c', lp⟩ | ⟨l, ρ2, q1, lp⟩
  · rw [show loudO b = none from q1]
    simp [b__law_loud, b0, re, td, lp]
    exact ⟨rfl, rfl⟩
  · rw [show loudO b = some l from q1]
    simp [b__law_loud, b0, re, td, lp]
    exact ⟨rfl, rfl⟩
/-- whether a place is a load that is off -/
def offB (b : Bd) (p : List Nat) : Bool := b.ls.any fun x => decide (x.nm = p) && !x.on
theorem is_off (b : Bd) (h : BOk b) (p : List Nat) : F_is_off [.val (bD b), .val (sD p)] = some (.val (.bl (offB b p)), [none, none]) := by
  have b1 := bD_1 b
  have l2 := h.l2
  have q : q1_is_off (E_is_off (some (.val (bD b))) (some (.val (sD p)))) = .ok (.lst (b.ls.map fun x => O.val (.bl (decide (x.nm = p) && !x.on)))) (E_is_off (some (.val (bD b))) (some (.val (sD p)))) := by
    refine comp_map lD _ (by simp [b1]) (by omega) (by decide) fun x hx => ?_
    have e0 := lD_0 x
    have e4 := lD_4 x
    have eq := eq_name0 x.nm p
    by_cases a : x.nm = p
    · rw [decide_eq_true a] at eq ⊢
      simp [e0, e4, eq]
    · rw [decide_eq_false a] at eq ⊢
      simp [e0, e4, eq]
  have am := any_map (fun x : Ld => decide (x.nm = p) && !x.on) b.ls
  unfold F_is_off
  rw [runF_eq]
  generalize (b.ls.map fun x => O.val (.bl (decide (x.nm = p) && !x.on))) = L at *
  simp [b_is_off, q, am]
  exact ⟨rfl, rfl⟩

end Lw

namespace Lw
open PySem PySem.Spec L2 FB Wk
open PyProof.Rows hiding St
/-! turns at a draw -/
def metL (C : List (Int × Int)) (d : Int) : List (Int × Int) := C.filter fun p => decide (p.1 ≤ d)
def tna (C : List (Int × Int)) (d : Int) : Option Int := (metL C d).getLast?.map (·.2)
theorem metL_pre {C : List (Int × Int)} (h : C.Pairwise (fun p q => p.1 < q.1 ∧ q.2 < p.2)) (d : Int) : metL C d = C.take (metL C d).length := by
  induction C with
  | nil => rfl
  | cons p C ih =>
    rw [List.pairwise_cons] at h
    unfold metL at ih ⊢
    rw [List.filter_cons]
    by_cases hp : p.1 ≤ d
    · simp only [hp, decide_true, if_true, List.length_cons, List.take_succ_cons]
      congr 1
      exact ih h.2
    · simp only [hp, decide_false]
      have : C.filter (fun q => decide (q.1 ≤ d)) = [] := by
        rw [List.filter_eq_nil_iff]
        intro q hq
        have := (h.1 q hq).1
        simp; omega
      rw [this]; rfl
theorem metL_le (C : List (Int × Int)) (d : Int) : (metL C d).length ≤ C.length := List.length_filter_le _ _
theorem cv_at (C : List (Int × Int)) (k : Nat) (hk : k < C.length) : ixO (.val (cv C)) (.val (.int (k : Int))) = some (.val (pD C[k])) := by
  show (atI (C.map pD) (k : Int)).map O.val = _
  rw [atN, List.getElem?_map, List.getElem?_eq_getElem hk]; rfl
theorem lenO_ps (xs : List (Int × Int)) : lenO (.lst (xs.map fun p => O.val (pD p))) = some (.val (.int xs.length)) := by simp
theorem met_run {C : List (Int × Int)} (h : C.length ≤ 5) (d : Int) : F_met [.val (cv C), .val (.int d)] = some (.val (.int (metL C d).length), [none, none]) := by
  have q : q1_met (E_met (some (.val (cv C))) (some (.val (.int d)))) = .ok (.lst ((metL C d).map fun p => O.val (pD p))) (E_met (some (.val (cv C))) (some (.val (.int d)))) := by
    refine comp_run pD _ _ (by simp; rfl) (by omega) (by decide) fun p hp => ?_
    have e := pD_0 p
    simp [e]
  have ln := lenO_ps (metL C d)
  unfold F_met
  rw [runF_eq]
  generalize ((metL C d).map fun p => O.val (pD p)) = L at *
  simp [b_met, q, ln]
  rfl
theorem turns_at {C : List (Int × Int)} (h : Cok C) (d : Int) : F_turns_at [.val (cv C), .val (.int d)] = some (.val (oI (tna C d)), [none, none]) := by
  have m := met_run h.2.1 d
  have hp := metL_pre h.2.2.1 d
  have hl := metL_le C d
  unfold F_turns_at
  rw [runF_eq]
  cases hm : (metL C d).length with
  | zero =>
    have : metL C d = [] := List.length_eq_zero_iff.mp hm
    have t : tna C d = none := by unfold tna; rw [this]; rfl
    rw [hm] at m
    rw [t]
    have m : F_met [.val (cv C), .val (.int d)] = some (.val (.int 0), [none, none]) := m
    simp [b_turns_at, m]
    rfl
  | succ n =>
    rw [hm] at m hp
    have hn : n < C.length := by omega
    have e1 := cv_at C n hn
    have e2 := pD_1 C[n]
    have t : tna C d = some C[n].2 := by
      unfold tna
      rw [hp, List.getLast?_take]
      simp [List.getElem?_eq_getElem hn]
    rw [t]
    have m : F_met [.val (cv C), .val (.int d)] = some (.val (.int ((n : Int) + 1)), [none, none]) := by rw [m]; simp
    have c : (n : Int) + 1 ≠ 0 := by omega
    have c2 : (n : Int) + 1 - 1 = (n : Int) := by omega
    simp [b_turns_at, m, c, c2, e1, e2]
    rfl

end Lw

namespace Lw
open PySem PySem.Spec L2 FB Wk
open PyProof.Rows hiding St
/-! a way -/
def gOf (b : Bd) (n : List Nat) : Gd := (b.gs.find? fun g => decide (g.nm = n)).getD ⟨[], none, [], 0, 0⟩
theorem gOf_eq {b : Bd} (h : BOk b) {g : Gd} (hg : g ∈ b.gs) : gOf b g.nm = g := by
  unfold gOf
  cases hf : b.gs.find? fun k => decide (k.nm = g.nm) with
  | none =>
    rw [List.find?_eq_none] at hf
    exact absurd (by simp) (hf g hg)
  | some k =>
    exact gd_eq (gsnd h) (List.mem_of_find?_eq_some hf) hg (by simpa using List.find?_some hf)
theorem gOf_in {b : Bd} (h : BOk b) {n : List Nat} (hn : n ∈ b.gs.map Gd.nm) : gOf b n ∈ b.gs ∧ (gOf b n).nm = n := by
  obtain ⟨g, hg, rfl⟩ := List.mem_map.mp hn
  rw [gOf_eq h hg]
  exact ⟨hg, rfl⟩
noncomputable def wayL (b : Bd) (p : List Nat) : List (Gd × Int) := (ovr b p).map fun n => (gOf b n, rst b n)
def wfs : List Str := ["idle", "guards", "found"]
theorem wf0 : fidx wfs "idle" = some 0 := by decide +kernel
theorem wf1 : fidx wfs "guards" = some 1 := by decide +kernel
theorem wf2 : fidx wfs "found" = some 2 := by decide +kernel
def wG (W : List (Gd × Int)) : O := vO (W.map fun q => gD q.1)
def wF (W : List (Gd × Int)) : O := vO (W.map fun q => D.int q.2)
def wO (idle : Bool) (W : List (Gd × Int)) : O := .ins "Way" wfs [.val (.bl idle), wG W, wF W]
/-- right curves on the way -/
def WOk (W : List (Gd × Int)) : Prop := ∀ q ∈ W, Cok q.1.C
theorem wayL_ok {b : Bd} (h : BOk b) {p : List Nat} (hp : p ∈ nms b) : WOk (wayL b p) := fun q hq => by
  obtain ⟨n, hn, rfl⟩ := List.mem_map.mp hq
  obtain ⟨ds, hd⟩ := h.deep
  exact (hd.rest _ (gOf_in h (over_in (ovr_ok h hp).1 n hn)).1).1
/-- the turns of a guard on the way -/
def wT (W : List (Gd × Int)) (k : Nat) (w : Int) : Option Int := (W[k]?).bind fun q => tna q.1.C (q.2 + w)
/-- whether a guard is held on the way -/
def wH (W : List (Gd × Int)) (k : Nat) (w : Int) : Bool := decide (0 < k) && (wT W (k - 1) w).isSome
theorem notN_oI (a : Option Int) : notNO (.val (oI a)) (.val .non) = some (.val (.bl a.isSome)) := by cases a <;> rfl
theorem way_q1 (b : Bd) (h : BOk b) (x0 x2 x3 : Option O) : q1_Way___init__ (E_Way___init__ x0 (some (.val (bD b))) x2 x3) = .ok (.lst (b.gs.map fun g => O.val (.tup [sD g.nm, gD g]))) (E_Way___init__ x0 (some (.val (bD b))) x2 x3) := by
  have b0 := bD_0 b
  have g2 := h.g2
  refine comp_map gD _ (by simp [b0]) (by omega) (by decide) fun g hg => ?_
  have e := gD_0 g
  simp [e]
noncomputable def knD (b : Bd) : D := mD (b.gs.map Gd.nm) (fun n => gD (gOf b n))
theorem known {b : Bd} (h : BOk b) : dctOf (b.gs.map fun g => ((.inr (SL g.nm) : Key), gD g)) = knD b := by
  unfold knD
  rw [← dct_mD Gd.nm (fun n => gD (gOf b n)) (gsnd h)]
  congr 1
  exact List.map_congr_left fun g hg => by rw [gOf_eq h hg]
theorem toD_pairs (gs : List Gd) : (O.lst (gs.map fun g => O.val (.tup [sD g.nm, gD g]))).toD = .lst (gs.map fun x => D.tup [sD x.nm, gD x]) := by
  rw [e_toD_lst, show (gs.map fun g => O.val (.tup [sD g.nm, gD g])) = (gs.map fun x => D.tup [sD x.nm, gD x]).map O.val by rw [List.map_map]; rfl, toDs_vals]
theorem way_init (b : Bd) (h : BOk b) (hq : loudO b = none) {p : List Nat} (hp : p ∈ nms b) : F_Way___init__ [.ins "Way" [] [], .val (bD b), .val (sD p)] = some (.val .non, [some (wO (offB b p) (wayL b p)), none, none]) := by
  obtain ⟨o, h16⟩ := ovr_ok h hp
  have ov := over_run b h o h16
  have oin := over_in o
  have td := sO_toD (ovr b p)
  have aq := ask_quiet b h hq
  have q1 := way_q1 b h (some (.ins "Way" [] [])) (some (.val (sD p))) (some (.val (.lst ((ovr b p).map sD))))
  have t1 := toD_pairs b.gs
  have pr := prs_gen Gd.nm gD b.gs
  have kn := known h
  have re := rest b h
  have t2 := mO_toD (b.gs.map Gd.nm) (iV (rst b))
  have io := is_off b h p
  have f1 : fidx [] "idle" = none := rfl
  have f2 : fidx ["idle"] "guards" = none := by decide +kernel
  have f3 : fidx ["idle", "guards"] "found" = none := by decide +kernel
  have g1 := fun (ρ : FB.Env) u => e_sfN (ρ := ρ) 0 "Way" "idle" u [] [] (by decide) f1
  have g2 := fun (ρ : FB.Env) u os => e_sfN (ρ := ρ) 0 "Way" "guards" u ["idle"] os (by decide) f2
  have g3 := fun (ρ : FB.Env) u os => e_sfN (ρ := ρ) 0 "Way" "found" u ["idle", "guards"] os (by decide) f3
  simp only [List.nil_append] at g1
  have q2 : q2_Way___init__ (E_Way___init__ (some (.ins "Way" ["idle"] [.val (.bl (offB b p))])) (some (.val (bD b))) (some (.val (sD p))) (some (.val (.lst ((ovr b p).map sD)))) (some (.val (knD b))) (some (.val (mD (b.gs.map Gd.nm) (iV (rst b)))))) = .ok (wG (wayL b p)) (E_Way___init__ (some (.ins "Way" ["idle"] [.val (.bl (offB b p))])) (some (.val (bD b))) (some (.val (sD p))) (some (.val (.lst ((ovr b p).map sD)))) (some (.val (knD b))) (some (.val (mD (b.gs.map Gd.nm) (iV (rst b)))))) := by
    rw [show wG (wayL b p) = .lst ((ovr b p).map fun n => O.val (gD (gOf b n))) from by unfold wG wayL vO; rw [List.map_map, List.map_map]; rfl]
    refine comp_map sD _ (by simp) (by omega) (by decide) fun n hn => ?_
    have ix := ix_mD (v := fun n => gD (gOf b n)) (gsnd h) (oin n hn)
    simp [knD, ix]
  have q3 : q3_Way___init__ (E_Way___init__ (some (.ins "Way" ["idle", "guards"] [.val (.bl (offB b p)), wG (wayL b p)])) (some (.val (bD b))) (some (.val (sD p))) (some (.val (.lst ((ovr b p).map sD)))) (some (.val (knD b))) (some (.val (mD (b.gs.map Gd.nm) (iV (rst b)))))) = .ok (wF (wayL b p)) (E_Way___init__ (some (.ins "Way" ["idle", "guards"] [.val (.bl (offB b p)), wG (wayL b p)])) (some (.val (bD b))) (some (.val (sD p))) (some (.val (.lst ((ovr b p).map sD)))) (some (.val (knD b))) (some (.val (mD (b.gs.map Gd.nm) (iV (rst b)))))) := by
    rw [show wF (wayL b p) = .lst ((ovr b p).map fun n => O.val (.int (rst b n))) from by unfold wF wayL vO; rw [List.map_map, List.map_map]; rfl]
    refine comp_map sD _ (by simp) (by omega) (by decide) fun n hn => ?_
    have ix := ix_mD (v := iV (rst b)) (gsnd h) (oin n hn)
    simp [ix]
  unfold F_Way___init__
  rw [runF_eq]
  unfold wO
  generalize wG (wayL b p) = GG at *
  generalize wF (wayL b p) = FF at *
  generalize knD b = KN at *
  generalize mD (b.gs.map Gd.nm) (iV (rst b)) = M2 at *
  generalize mO (b.gs.map Gd.nm) (iV (rst b)) = M1 at *
  generalize (O.lst (b.gs.map fun g => O.val (.tup [sD g.nm, gD g]))) = PP at *
  generalize D.lst ((ovr b p).map sD) = OV at *
  simp [b_Way___init__, ov, td, aq, q1, t1, pr, kn, re, t2, io, g1, q2, g2, q3, g3]
  rfl

end Lw

namespace Lw
open PySem PySem.Spec L2 FB Wk
open PyProof.Rows hiding St
/-! a way that is shared -/
def gWD (W : List (Gd × Int)) : D := .lst (W.map fun q => gD q.1)
def fWD (W : List (Gd × Int)) : D := .lst (W.map fun q => D.int q.2)
def wD (i : Bool) (W : List (Gd × Int)) : D := .ins "Way" wfs [.bl i, gWD W, fWD W]
theorem wO_toD (i : Bool) (W : List (Gd × Int)) : (wO i W).toD = wD i W := by
  have e1 : (wG W).toD = gWD W := vO_toD _
  have e2 : (wF W).toD = fWD W := vO_toD _
  unfold wO wD
  show D.ins "Way" wfs [D.bl i, (wG W).toD, (wF W).toD] = _
  rw [e1, e2]
theorem wD_i (i : Bool) (W : List (Gd × Int)) : fldV "Way" "idle" (.val (wD i W)) = some (.val (.bl i)) := (e_fldV _ _ _ _ 0 wf0).trans rfl
theorem wD_g (i : Bool) (W : List (Gd × Int)) : fldV "Way" "guards" (.val (wD i W)) = some (.val (gWD W)) := (e_fldV _ _ _ _ 1 wf1).trans rfl
theorem wD_f (i : Bool) (W : List (Gd × Int)) : fldV "Way" "found" (.val (wD i W)) = some (.val (fWD W)) := (e_fldV _ _ _ _ 2 wf2).trans rfl
theorem gWD_at (W : List (Gd × Int)) (k : Nat) (hk : k < W.length) : ixO (.val (gWD W)) (.val (.int (k : Int))) = some (.val (gD W[k].1)) := by
  show (atI (W.map fun q => gD q.1) (k : Int)).map O.val = _
  rw [atN, List.getElem?_map, List.getElem?_eq_getElem hk]; rfl
theorem fWD_at (W : List (Gd × Int)) (k : Nat) (hk : k < W.length) : ixO (.val (fWD W)) (.val (.int (k : Int))) = some (.val (.int W[k].2)) := by
  show (atI (W.map fun q => D.int q.2) (k : Int)).map O.val = _
  rw [atN, List.getElem?_map, List.getElem?_eq_getElem hk]; rfl
theorem wD_m {ρ : FB.Env} (i : Bool) (W : List (Gd × Int)) (m : Str) (F : FSem) (as : List FB.Arg) (h : fidx wfs m = none) : mvB "Way" m F as ρ (wD i W) = mvC F (wD i W) as (evA as ρ) := e_mvB _ _ _ _ _ _ h
theorem fmT : fidx wfs "turns" = none := by decide +kernel
theorem fmH : fidx wfs "is_held" = none := by decide +kernel
theorem fmO : fidx wfs "opening" = none := by decide +kernel
theorem way_turns (i : Bool) {W : List (Gd × Int)} (h : WOk W) (k : Nat) (hk : k < W.length) (w : Int) : F_Way_turns [.val (wD i W), .val (.int (k : Int)), .val (.int w)] = some (.val (oI (wT W k w)), [none, none, none]) := by
  have g := wD_g i W
  have f := wD_f i W
  have g1 := gWD_at W k hk
  have f1 := fWD_at W k hk
  have c := gD_2 W[k].1
  have t := turns_at (h W[k] (List.getElem_mem hk)) (W[k].2 + w)
  have e : wT W k w = tna W[k].1.C (W[k].2 + w) := by unfold wT; rw [List.getElem?_eq_getElem hk]; rfl
  rw [← e] at t
  unfold F_Way_turns
  rw [runF_eq]
  generalize wD i W = WW at *
  generalize gWD W = GG at *
  generalize fWD W = FF at *
  simp [b_Way_turns, g, g1, c, f, f1, t]
  rfl
theorem way_make {ρ : FB.Env} (b : Bd) (h : BOk b) (hq : loudO b = none) {p : List Nat} (hp : p ∈ nms b) (m1 m2 : M O) (h1 : m1 ρ = .ok (.val (bD b)) ρ) (h2 : m2 ρ = .ok (.val (sD p)) ρ) : mMake "Way" F_Way___init__ [.v m1, .v m2] ρ = .ok (wO (offB b p) (wayL b p)) ρ := by
  have wi := way_init b h hq hp
  generalize wO (offB b p) (wayL b p) = WW at *
  simp [h1, h2, wi]
theorem wayL_len (b : Bd) (p : List Nat) : (wayL b p).length = (ovr b p).length := by unfold wayL; simp

end Lw

namespace Lw
open PySem PySem.Spec L2 FB Wk
open PyProof.Rows hiding St
/-! is_held of a shared way -/
theorem way_held (i : Bool) {W : List (Gd × Int)} (h : WOk W) (k : Nat) (hk : k < W.length) (w : Int) : F_Way_is_held [.val (wD i W), .val (.int (k : Int)), .val (.int w)] = some (.val (.bl (wH W k w)), [none, none, none]) := by
  have mT := fun (ρ : FB.Env) F as => wD_m (ρ := ρ) i W "turns" F as fmT
  unfold F_Way_is_held
  rw [runF_eq]
  cases k with
  | zero =>
    have e : wH W 0 w = false := rfl
    rw [e]
    generalize wD i W = WW at *
    simp [b_Way_is_held]
    rfl
  | succ k =>
    have t := way_turns i h k (by omega) w
    have e : wH W (k + 1) w = (wT W k w).isSome := by unfold wH; simp
    have n := notN_oI (wT W k w)
    have c : ((k + 1 : Nat) : Int) - 1 = (k : Int) := by omega
    have c2 : (0 : Int) < ((k + 1 : Nat) : Int) := by omega
    rw [e]
    generalize wD i W = WW at *
    generalize ((k + 1 : Nat) : Int) = kk at *
    generalize oI (wT W k w) = TT at *
    simp [b_Way_is_held, c2, mT, c, t, n]
    rfl

end Lw

namespace Lw
open PySem PySem.Spec L2 FB Wk
open PyProof.Rows hiding St
/-! the lows of a way -/
/-! what the lows are -/
/-- quiet: no step of the way is met at rest -/
def WQ (W : List (Gd × Int)) : Prop := ∀ q ∈ W, ∀ s ∈ q.1.C, q.2 < s.1
end Lw

namespace Lw
open PySem PySem.Spec L2 FB Wk
open PyProof.Rows hiding St
/-! lows of a shared way -/
end Lw

namespace Lw
open PySem PySem.Spec L2 FB Wk
open PyProof.Rows hiding St
/-! _law_path, _law_turns, _law_lack -/
def qW (q : Gd × Int) : D := .tup [gD q.1, .int q.2]
def pthD (W : List (Gd × Int)) : D := .lst (W.map qW)
theorem law_path (u v : Bool) (b : Bd) (h : BOk b) {p : List Nat} (hp : p ∈ nms b) : F__law_path [.val (bQ u v b), .val (sD p)] = some (if offB b p = true then .lst [] else vO ((wayL b p).map qW), [none, none]) := by
  have b0 := bQ_0 u v b
  have b1 := bQ_1 u v b
  have g2 := h.g2
  have ov := overs u v b h
  obtain ⟨o, h16⟩ := ovr_ok h hp
  have oin := over_in o
  have q1 : q1__law_path (E__law_path (some (.val (bQ u v b))) (some (.val (sD p)))) = .ok (.lst (b.gs.map fun g => O.val (.tup [sD g.nm, gD g]))) (E__law_path (some (.val (bQ u v b))) (some (.val (sD p)))) := by
    refine comp_map gD _ (by simp [b0]) (by omega) (by decide) fun g hg => ?_
    have e := gD_0 g
    simp [e]
  have t1 := toD_pairs b.gs
  have pr := prs_gen Gd.nm gD b.gs
  have kn := known h
  have re := law_rest u v b h
  have t2 := mO_toD (b.gs.map Gd.nm) (iV (rst b))
  have ix0 := ix_mO (v := ovV b) (nms_nd h) hp
  have iv : ovV b p = .lst ((ovr b p).map sD) := rfl
  rw [iv] at ix0
  have q2 : ∀ c : Option O, q2__law_path (E__law_path (some (.val (bQ u v b))) (some (.val (sD p))) (some (.val (knD b))) (some (.val (mD (b.gs.map Gd.nm) (iV (rst b))))) c) = .ok (vO ((wayL b p).map qW)) (E__law_path (some (.val (bQ u v b))) (some (.val (sD p))) (some (.val (knD b))) (some (.val (mD (b.gs.map Gd.nm) (iV (rst b))))) c) := by
    intro c
    rw [show vO ((wayL b p).map qW) = .lst ((ovr b p).map fun n => O.val (.tup [gD (gOf b n), .int (rst b n)])) from by unfold wayL vO; rw [List.map_map, List.map_map]; rfl]
    refine comp_map sD _ ?_ (by omega) (by decide) fun n hn => ?_
    · generalize mO (nms b) (ovV b) = MM at *
      simp [ov, ix0]
    · have ix1 := ix_mD (v := fun n => gD (gOf b n)) (gsnd h) (oin n hn)
      have ix2 := ix_mD (v := iV (rst b)) (gsnd h) (oin n hn)
      simp [knD, ix1, ix2]
  have key := forL_find (o := O.lst []) (a := aN 4) (b := b1__law_path) (fun c : Option O => E__law_path (some (.val (bQ u v b))) (some (.val (sD p))) (some (.val (knD b))) (some (.val (mD (b.gs.map Gd.nm) (iV (rst b))))) c) lD (fun x => !(decide (x.nm = p) && !x.on)) (xs := b.ls) none (by
    intro x hx c
    have e0 := lD_0 x
    have e4 := lD_4 x
    have eq := eq_name0 x.nm p
    refine ⟨_, rfl, ?_⟩
    cases a : decide (x.nm = p) with
    | false =>
      rw [a] at eq
      refine .inl ⟨rfl, some (.val (lD x)), ?_⟩
      simp [b1__law_path, e0, e4, eq]
    | true =>
      rw [a] at eq
      cases ho : x.on with
      | true =>
        rw [ho] at e4
        refine .inl ⟨rfl, some (.val (lD x)), ?_⟩
        simp [b1__law_path, e0, e4, eq]
      | false =>
        rw [ho] at e4
        refine .inr ⟨rfl, E__law_path (some (.val (bQ u v b))) (some (.val (sD p))) (some (.val (knD b))) (some (.val (mD (b.gs.map Gd.nm) (iV (rst b))))) (some (.val (lD x))), ?_⟩
        simp [b1__law_path, e0, e4, eq])
  have eoff : b.ls.all (fun x => !(decide (x.nm = p) && !x.on)) = !offB b p := by
    unfold offB
    rw [List.not_any_eq_all_not]
  rw [eoff] at key
  unfold F__law_path
  rw [runF_eq]
  generalize knD b = KN at *
  generalize mD (b.gs.map Gd.nm) (iV (rst b)) = M2 at *
  generalize mO (b.gs.map Gd.nm) (iV (rst b)) = M1 at *
  generalize (O.lst (b.gs.map fun g => O.val (.tup [sD g.nm, gD g]))) = PP at *
  generalize vO ((wayL b p).map qW) = VV at *
  rcases key with ⟨k1, c', lp⟩ | ⟨k1, ρ2, lp⟩
  · have k2 : offB b p = false := by simpa using k1
    rw [k2]
    simp [b__law_path, q1, t1, pr, kn, re, t2, b1, lp, q2]
    rfl
  · have k2 : offB b p = true := by simpa using k1
    rw [k2]
    simp [b__law_path, q1, t1, pr, kn, re, t2, b1, lp]
    rfl
theorem pth_at (W : List (Gd × Int)) (k : Nat) (hk : k < W.length) : ixO (.val (pthD W)) (.val (.int (k : Int))) = some (.val (qW W[k])) := by
  show (atI (W.map qW) (k : Int)).map O.val = _
  rw [atN, List.getElem?_map, List.getElem?_eq_getElem hk]; rfl

end Lw

namespace Lw
open PySem PySem.Spec L2 FB Wk
open PyProof.Rows hiding St
/-! the law's own lows -/
end Lw

namespace Lw
open PySem PySem.Spec L2 FB Wk
open PyProof.Rows hiding St
/-! which guards open, and when -/
abbrev Opn := Option (Int × List (List Nat))
def opS : Opn → List Nat × Int → Opn
  | none, q => some (q.2, [q.1])
  | some r, q => if q.2 < r.1 then some (q.2, [q.1]) else if q.2 = r.1 then some (r.1, q.1 :: r.2) else some r
def cnd (i : Bool) (W : List (Gd × Int)) (S : List (List Nat)) (w : Int) (k : Nat) : Option (List Nat × Int) := (W[k]?).bind fun q => if (decide (q.1.nm ∈ S) || (decide (w = 0) || i)) = true then none else
  (wT W k w).map fun t => (q.1.nm, if wH W k w = true then t + q.1.dl - 1 + q.1.wt else t + q.1.dl - 1)
def opT (i : Bool) (W : List (Gd × Int)) (S : List (List Nat)) (w : Int) (b : Opn) (k : Nat) : Opn := match cnd i W S w k with
  | none => b
  | some q => opS b q
def opW (i : Bool) (W : List (Gd × Int)) (S : List (List Nat)) (w : Int) : Opn := (List.range W.length).foldl (opT i W S w) none
def opB : Opn → D
  | none => .non
  | some r => .int r.1
def opN : Opn → List (List Nat)
  | none => []
  | some r => r.2
def opD : Opn → D
  | none => .non
  | some r => .tup [.int r.1, .tup (r.2.map sD)]
theorem opS_len (b : Opn) (q : List Nat × Int) : (opN (opS b q)).length ≤ (opN b).length + 1 := by
  cases b with
  | none => show 1 ≤ 0 + 1; omega
  | some r =>
    unfold opS
    by_cases h1 : q.2 < r.1
    · simp [h1, opN]
    · by_cases h2 : q.2 = r.1 <;> simp [h1, h2, opN]
theorem opT_len (i : Bool) (W : List (Gd × Int)) (S : List (List Nat)) (w : Int) (b : Opn) (k : Nat) : (opN (opT i W S w b k)).length ≤ (opN b).length + 1 := by
  unfold opT
  split
  · omega
  · exact opS_len _ _
theorem opn_len (i : Bool) (W : List (Gd × Int)) (S : List (List Nat)) (w : Int) : (opN (opW i W S w)).length ≤ W.length := by
  have : ∀ (ks : List Nat) (b : Opn), (opN (ks.foldl (opT i W S w) b)).length ≤ (opN b).length + ks.length := by
    intro ks
    induction ks with
    | nil => intro b; simp
    | cons k ks ih =>
      intro b
      have h1 := ih (opT i W S w b k)
      have h2 := opT_len i W S w b k
      rw [List.foldl_cons, List.length_cons]; omega
  have := this (List.range W.length) none
  unfold opW
  simpa [opN] using this

end Lw

namespace Lw
open PySem PySem.Spec L2 FB Wk
open PyProof.Rows hiding St
/-! the program's opening -/
def eGd (W : List (Gd × Int)) (k : Nat) : D := .tup [.int (k : Int), ((W[k]?).map fun q => gD q.1).getD .non]
theorem enum_way (W : List (Gd × Int)) : enumL (W.map fun q => gD q.1) = (List.range W.length).map (eGd W) := by
  apply List.ext_getElem?
  intro k
  unfold enumL
  rw [List.getElem?_mapIdx, List.getElem?_map, List.getElem?_map]
  by_cases hk : k < W.length
  · rw [List.getElem?_range hk]
    unfold eGd
    simp only [Option.map_some]
    rw [List.getElem?_eq_getElem hk]; rfl
  · have h1 : W[k]? = none := List.getElem?_eq_none (by omega)
    have h2 : (List.range W.length)[k]? = none := List.getElem?_eq_none (by simp; omega)
    rw [h1, h2]; rfl
theorem open_step (i : Bool) {W : List (Gd × Int)} (h : WOk W) (S : List (List Nat)) (w : Int) (k : Nat) (hk : k < W.length) (b : Opn) (hb : (opN b).length ≤ 1000) (c5 c6 c7 c8 : Option O) : ∃ e7 e8, fstep (aTup (aCons (aN 5) (aCons (aN 6) (aNil)))) b1_Way_opening (eGd W k) (E_Way_opening (some (.val (wD i W))) (some (.val (.int w))) (some (.val (.lst (S.map sD)))) (some (.val (opB b))) (some (.val (.lst ((opN b).map sD)))) c5 c6 c7 c8) =
    .ok .nx (E_Way_opening (some (.val (wD i W))) (some (.val (.int w))) (some (.val (.lst (S.map sD)))) (some (.val (opB (opT i W S w b k)))) (some (.val (.lst ((opN (opT i W S w b k)).map sD)))) (some (.val (.int (k : Int)))) (some (.val (gD W[k].1))) e7 e8) := by
  have mT := fun (ρ : FB.Env) F as => wD_m (ρ := ρ) i W "turns" F as fmT
  have mH := fun (ρ : FB.Env) F as => wD_m (ρ := ρ) i W "is_held" F as fmH
  have tu := way_turns i h k hk w
  have he := way_held i h k hk w
  have fi := wD_i i W
  have eg : eGd W k = .tup [.int (k : Int), gD W[k].1] := by unfold eGd; rw [List.getElem?_eq_getElem hk]; rfl
  have ec : cnd i W S w k = if (decide (W[k].1.nm ∈ S) || (decide (w = 0) || i)) = true then none else (wT W k w).map fun t => (W[k].1.nm, if wH W k w = true then t + W[k].1.dl - 1 + W[k].1.wt else t + W[k].1.dl - 1) := by
    unfold cnd; rw [List.getElem?_eq_getElem hk]; rfl
  generalize W[k] = q at *
  have g0 := gD_0 q.1
  have g3 := gD_3 q.1
  have g4 := gD_4 q.1
  have is := op_in (t := .lst (S.map sD)) (S := S) (.inl rfl) q.1.nm
  have nn : isNO (.val .non) (.val .non) = some (.val (.bl true)) := rfl
  have ni : ∀ x : Int, isNO (.val (.int x)) (.val .non) = some (.val (.bl false)) := fun _ => rfl
  have no : oI none = .non := rfl
  have so : ∀ m, oI (some m) = .int m := fun _ => rfl
  rw [eg]
  unfold opT
  rw [ec]
  generalize wD i W = WW at *
  generalize hSL : S.map sD = SL at *
  generalize wH W k w = hd at *
  cases et : wT W k w with
  | none =>
    rw [et, no] at tu
    have e1 : (if (decide (q.1.nm ∈ S) || (decide (w = 0) || i)) = true then none else (none : Option Int).map fun t => (q.1.nm, if hd = true then t + q.1.dl - 1 + q.1.wt else t + q.1.dl - 1)) = none := by split <;> rfl
    rw [e1]
    refine ⟨some (.val .non), c8, ?_⟩
    dsimp only
    generalize opB b = BB at *
    generalize (opN b).map sD = NN at *
    simp [b1_Way_opening, mT, tu, nn]
  | some t =>
    rw [et, so] at tu
    by_cases hS : q.1.nm ∈ S
    · rw [decide_eq_true hS] at is ⊢
      refine ⟨some (.val (.int t)), c8, ?_⟩
      simp only [Bool.true_or, if_true]
      generalize opB b = BB at *
      generalize (opN b).map sD = NN at *
      simp [b1_Way_opening, mT, tu, ni, g0, is]
    · rw [decide_eq_false hS] at is ⊢
      by_cases hw : w = 0
      · rw [decide_eq_true hw]
        refine ⟨some (.val (.int t)), c8, ?_⟩
        simp only [Bool.true_or, Bool.false_or, if_true]
        generalize opB b = BB at *
        generalize (opN b).map sD = NN at *
        subst hw
        simp [b1_Way_opening, mT, tu, ni, g0, is]
      · rw [decide_eq_false hw]
        cases i with
        | true =>
          refine ⟨some (.val (.int t)), c8, ?_⟩
          simp only [Bool.true_or, Bool.false_or, if_true]
          generalize opB b = BB at *
          generalize (opN b).map sD = NN at *
          simp [b1_Way_opening, mT, tu, ni, g0, is, hw, fi]
        | false =>
          refine ⟨some (.val (.int t)), some (.val (.int (if hd = true then t + q.1.dl - 1 + q.1.wt else t + q.1.dl - 1))), ?_⟩
          have ex : (if (false || (false || false)) = true then none else (some t).map fun t => (q.1.nm, if hd = true then t + q.1.dl - 1 + q.1.wt else t + q.1.dl - 1)) = some (q.1.nm, if hd = true then t + q.1.dl - 1 + q.1.wt else t + q.1.dl - 1) := rfl
          rw [ex]
          have key : ∀ tr : Int, (if hd = true then t + q.1.dl - 1 + q.1.wt else t + q.1.dl - 1) = tr → fstep (aTup (aCons (aN 5) (aCons (aN 6) (aNil)))) b1_Way_opening (.tup [.int (k : Int), gD q.1]) (E_Way_opening (some (.val WW)) (some (.val (.int w))) (some (.val (.lst SL))) (some (.val (opB b))) (some (.val (.lst ((opN b).map sD)))) c5 c6 c7 c8) =
              .ok .nx (E_Way_opening (some (.val WW)) (some (.val (.int w))) (some (.val (.lst SL))) (some (.val (opB (opS b (q.1.nm, tr))))) (some (.val (.lst ((opN (opS b (q.1.nm, tr))).map sD)))) (some (.val (.int (k : Int)))) (some (.val (gD q.1))) (some (.val (.int t))) (some (.val (.int tr)))) := by
            intro tr htr
            cases b with
            | none =>
              have a0 : addD (.lst [sD q.1.nm]) (.lst []) = some (.lst [sD q.1.nm]) := addD_lst _ _ (by simp)
              cases hd with
              | true =>
                have htr : t + q.1.dl - 1 + q.1.wt = tr := htr
                simp [b1_Way_opening, mT, mH, tu, ni, nn, g0, is, hw, fi, g3, he, g4, htr, a0, opB, opN, opS]
              | false =>
                have htr : t + q.1.dl - 1 = tr := htr
                simp [b1_Way_opening, mT, mH, tu, ni, nn, g0, is, hw, fi, g3, he, htr, a0, opB, opN, opS]
            | some r =>
              have a0 : addD (.lst [sD q.1.nm]) (.lst []) = some (.lst [sD q.1.nm]) := addD_lst _ _ (by simp)
              have a1 : addD (.lst [sD q.1.nm]) (.lst (r.2.map sD)) = some (.lst (sD q.1.nm :: r.2.map sD)) := addD_lst _ _ (by have : r.2.length ≤ 1000 := hb; simp; omega)
              have nr := ni r.1
              have b1 : opB (some r) = .int r.1 := rfl
              have n1 : opN (some r) = r.2 := rfl
              rw [b1, n1]
              by_cases h1 : tr < r.1
              · have s1 : opS (some r) (q.1.nm, tr) = some (tr, [q.1.nm]) := by unfold opS; simp [h1]
                rw [s1]
                generalize r.2.map sD = RL at *
                cases hd with
                | true =>
                  have htr : t + q.1.dl - 1 + q.1.wt = tr := htr
                  simp [b1_Way_opening, mT, mH, tu, ni, nn, g0, is, hw, fi, g3, he, g4, htr, a0, h1, opB, opN]
                | false =>
                  have htr : t + q.1.dl - 1 = tr := htr
                  simp [b1_Way_opening, mT, mH, tu, ni, nn, g0, is, hw, fi, g3, he, htr, a0, h1, opB, opN]
              · by_cases h2 : tr = r.1
                · have s1 : opS (some r) (q.1.nm, tr) = some (r.1, q.1.nm :: r.2) := by unfold opS; simp [h1, h2]
                  rw [s1]
                  have n2 : (opN (some (r.1, q.1.nm :: r.2))).map sD = sD q.1.nm :: r.2.map sD := rfl
                  have b2 : opB (some (r.1, q.1.nm :: r.2)) = .int r.1 := rfl
                  rw [n2, b2]
                  generalize r.2.map sD = RL at *
                  cases hd with
                  | true =>
                    have htr : t + q.1.dl - 1 + q.1.wt = tr := htr
                    simp [b1_Way_opening, mT, mH, tu, ni, nn, g0, is, hw, fi, g3, he, g4, htr, a1, h1, h2]
                  | false =>
                    have htr : t + q.1.dl - 1 = tr := htr
                    simp [b1_Way_opening, mT, mH, tu, ni, nn, g0, is, hw, fi, g3, he, htr, a1, h1, h2]
                · have s1 : opS (some r) (q.1.nm, tr) = some r := by unfold opS; simp [h1, h2]
                  rw [s1, b1, n1]
                  generalize r.2.map sD = RL at *
                  cases hd with
                  | true =>
                    have htr : t + q.1.dl - 1 + q.1.wt = tr := htr
                    simp [b1_Way_opening, mT, mH, tu, ni, nn, g0, is, hw, fi, g3, he, g4, htr, h1, h2]
                  | false =>
                    have htr : t + q.1.dl - 1 = tr := htr
                    simp [b1_Way_opening, mT, mH, tu, ni, nn, g0, is, hw, fi, g3, he, htr, h1, h2]
          exact key _ rfl
theorem open_loop (i : Bool) {W : List (Gd × Int)} (h : WOk W) (S : List (List Nat)) (w : Int) : ∀ (ks : List Nat), (∀ k ∈ ks, k < W.length) → ∀ (b : Opn) (c5 c6 c7 c8 : Option O), (opN b).length + ks.length ≤ 1000 → ∃ e5 e6 e7 e8, forL (aTup (aCons (aN 5) (aCons (aN 6) (aNil)))) b1_Way_opening (ks.map (eGd W)) (E_Way_opening (some (.val (wD i W))) (some (.val (.int w))) (some (.val (.lst (S.map sD)))) (some (.val (opB b))) (some (.val (.lst ((opN b).map sD)))) c5 c6 c7 c8) =
    .ok .nx (E_Way_opening (some (.val (wD i W))) (some (.val (.int w))) (some (.val (.lst (S.map sD)))) (some (.val (opB (ks.foldl (opT i W S w) b)))) (some (.val (.lst ((opN (ks.foldl (opT i W S w) b)).map sD)))) e5 e6 e7 e8)
  | [], _, b, c5, c6, c7, c8, _ => ⟨c5, c6, c7, c8, rfl⟩
  | k :: ks, hk, b, c5, c6, c7, c8, hl => by
    rw [List.length_cons] at hl
    have h1 := opT_len i W S w b k
    have hkk := hk k (List.mem_cons_self ..)
    obtain ⟨e7, e8, one⟩ := open_step i h S w k hkk b (by omega) c5 c6 c7 c8
    obtain ⟨f5, f6, f7, f8, ih⟩ := open_loop i h S w ks (fun z hz => hk z (List.mem_cons_of_mem _ hz)) (opT i W S w b k) (some (.val (.int (k : Int)))) (some (.val (gD W[k].1))) e7 e8 (by omega)
    exact ⟨f5, f6, f7, f8, by rw [List.map_cons, forL_step, one]; exact ih⟩
theorem way_opening (i : Bool) {W : List (Gd × Int)} (h : WOk W) (hl : W.length ≤ 16) (S : List (List Nat)) (w : Int) : F_Way_opening [.val (wD i W), .val (.int w), .val (.lst (S.map sD))] = some (.val (opD (opW i W S w)), [none, none, none]) := by
  obtain ⟨e5, e6, e7, e8, lp⟩ := open_loop i h S w (List.range W.length) (fun k hk => List.mem_range.mp hk) none none none none none (by simp [opN]; omega)
  have g := wD_g i W
  have en := enum_way W
  have lp : forL (aTup (aCons (aN 5) (aCons (aN 6) (aNil)))) b1_Way_opening ((List.range W.length).map (eGd W)) (E_Way_opening (some (.val (wD i W))) (some (.val (.int w))) (some (.val (.lst (S.map sD)))) (some (.val .non)) (some (.val (.lst [])))) = .ok .nx (E_Way_opening (some (.val (wD i W))) (some (.val (.int w))) (some (.val (.lst (S.map sD)))) (some (.val (opB (opW i W S w)))) (some (.val (.lst ((opN (opW i W S w)).map sD)))) e5 e6 e7 e8) := lp
  have ge : gWD W = .lst (W.map fun q => gD q.1) := rfl
  rw [ge] at g
  have nn : isNO (.val .non) (.val .non) = some (.val (.bl true)) := rfl
  have ni : ∀ x : Int, isNO (.val (.int x)) (.val .non) = some (.val (.bl false)) := fun _ => rfl
  unfold F_Way_opening
  rw [runF_eq]
  rw [← en] at lp
  generalize wD i W = WW at *
  generalize (W.map fun q => gD q.1) = GG at *
  generalize S.map sD = SL at *
  cases eo : opW i W S w with
  | none =>
    rw [eo] at lp
    have b1 : opB none = .non := rfl
    have n1 : (opN none).map sD = [] := rfl
    rw [b1, n1] at lp
    simp [b_Way_opening, g, lp, nn, opD]
    rfl
  | some r =>
    rw [eo] at lp
    have b1 : opB (some r) = .int r.1 := rfl
    have n1 : (opN (some r)).map sD = r.2.map sD := rfl
    rw [b1, n1] at lp
    generalize hR : r.2.map sD = RL at *
    simp [b_Way_opening, g, lp, ni, opD, hR]
    rfl

end Lw

namespace Lw
open PySem PySem.Spec L2 FB Wk
open PyProof.Rows hiding St
/-! values by names -/
theorem val_ex : ∀ {c : List (List Nat × Int)}, (c.map (·.1)).Nodup → ∃ f : List Nat → Int, ∀ q ∈ c, f q.1 = q.2
  | [], _ => ⟨fun _ => 0, fun q hq => by simp at hq⟩
  | x :: c, nd => by
    rw [List.map_cons, List.nodup_cons] at nd
    obtain ⟨f, hf⟩ := val_ex nd.2
    refine ⟨fun n => if n = x.1 then x.2 else f n, fun q hq => ?_⟩
    rcases List.mem_cons.mp hq with rfl | hq
    · simp
    · have : q.1 ≠ x.1 := fun e => nd.1 (List.mem_map.mpr ⟨q, hq, e⟩)
      simp [this, hf q hq]

end Lw

namespace Lw
open PySem PySem.Spec L2 FB Wk
open PyProof.Rows hiding St
/-! the law's own opening -/
theorem nin_of2 {a b : O} {v : Bool} (h : inO a b = some (.val (.bl v))) : ninO a b = some (.val (.bl !v)) := by
  unfold inO at h
  unfold ninO
  cases e : inD a.toD b.toD with
  | none => rw [e] at h; cases h
  | some w => rw [e] at h; cases h; rfl
theorem len_mO (ks : List (List Nat)) (v : List Nat → D) : lenKO (mO ks v) = some (.val (.int ks.length)) := by
  unfold lenKO
  rw [dctP_mO]
  show some (O.val (.int ((kD ks).length : Nat))) = _
  unfold kD
  rw [List.length_map]
def cds (i : Bool) (W : List (Gd × Int)) (S : List (List Nat)) (w : Int) (n : Nat) : List (List Nat × Int) := (List.range n).filterMap (cnd i W S w)
theorem cds_succ (i : Bool) (W : List (Gd × Int)) (S : List (List Nat)) (w : Int) (n : Nat) : cds i W S w (n + 1) = cds i W S w n ++ (match cnd i W S w n with | none => [] | some q => [q]) := by
  unfold cds
  rw [List.range_succ, List.filterMap_append]
  congr 1
  cases e : cnd i W S w n <;> simp [e]
theorem cnd_nm {i : Bool} {W : List (Gd × Int)} {S : List (List Nat)} {w : Int} {k : Nat} {q : List Nat × Int} (h : cnd i W S w k = some q) : ∃ g, W[k]? = some g ∧ q.1 = g.1.nm := by
  unfold cnd at h
  cases e : W[k]? with
  | none => rw [e] at h; cases h
  | some g =>
    rw [e] at h
    refine ⟨g, rfl, ?_⟩
    have h : (if (decide (g.1.nm ∈ S) || (decide (w = 0) || i)) = true then none else (wT W k w).map fun t => (g.1.nm, if wH W k w = true then t + g.1.dl - 1 + g.1.wt else t + g.1.dl - 1)) = some q := h
    split at h
    · cases h
    · cases e2 : wT W k w with
      | none => rw [e2] at h; cases h
      | some t => rw [e2] at h; cases h; rfl
theorem cds_sub (i : Bool) (W : List (Gd × Int)) (S : List (List Nat)) (w : Int) : ∀ n, ((cds i W S w n).map (·.1)).Sublist ((W.take n).map fun g => g.1.nm)
  | 0 => by simp [cds]
  | n + 1 => by
    have ih := cds_sub i W S w n
    rw [cds_succ, List.map_append, List.take_succ, List.map_append]
    refine ih.append ?_
    cases e : cnd i W S w n with
    | none => exact List.nil_sublist _
    | some q =>
      obtain ⟨g, hg, hq⟩ := cnd_nm e
      rw [hg]
      show [q.1].Sublist [g.1.nm]
      rw [hq]; exact List.Sublist.refl _
theorem minL_snoc : ∀ {ns : List Int} (x : Int), ns ≠ [] → minL (ns ++ [x]) = min (minL ns) x
  | [y], x, _ => by
    show min y (minL [x]) = min (minL [y]) x
    have e1 : minL [x] = x := by simp [minL]
    have e2 : minL [y] = y := by simp [minL]
    rw [e1, e2]
  | y :: z :: ns, x, _ => by
    have ih := minL_snoc (ns := z :: ns) x (by simp)
    have e1 : minL (y :: z :: ns ++ [x]) = min y (minL (z :: ns ++ [x])) := by
      show minL (y :: z :: (ns ++ [x])) = min y (minL (z :: (ns ++ [x])))
      conv => lhs; unfold minL
    have e2 : minL (y :: z :: ns) = min y (minL (z :: ns)) := by
      conv => lhs; unfold minL
    rw [e1, ih, e2]
    omega
def minC (c : List (List Nat × Int)) : Int := minL (c.map (·.2))
def spc (c : List (List Nat × Int)) : Opn := if c = [] then none else some (minC c, ((c.filter fun q => decide (q.2 = minC c)).map (·.1)).reverse)
theorem minC_le : ∀ {ns : List Int}, ∀ x ∈ ns, minL ns ≤ x
  | [], x, h => by simp at h
  | [y], x, h => by
    simp at h
    subst h
    simp [minL]
  | y :: z :: ns, x, h => by
    have ih := minC_le (ns := z :: ns)
    have e2 : minL (y :: z :: ns) = min y (minL (z :: ns)) := by conv => lhs; unfold minL
    rw [e2]
    rcases List.mem_cons.mp h with rfl | h
    · omega
    · have := ih x h; omega
theorem spc_snoc (c : List (List Nat × Int)) (q : List Nat × Int) : spc (c ++ [q]) = opS (spc c) q := by
  by_cases hc : c = []
  · subst hc
    unfold spc minC
    simp [opS, minL]
  · have hm : minC (c ++ [q]) = min (minC c) q.2 := by
      unfold minC
      rw [List.map_append]
      exact minL_snoc q.2 (by simpa using hc)
    have e1 : spc (c ++ [q]) = some (minC (c ++ [q]), (((c ++ [q]).filter fun z => decide (z.2 = minC (c ++ [q]))).map (·.1)).reverse) := by unfold spc; rw [if_neg (by simp)]
    have e2 : spc c = some (minC c, ((c.filter fun z => decide (z.2 = minC c)).map (·.1)).reverse) := by unfold spc; rw [if_neg hc]
    have le : ∀ z ∈ c, minC c ≤ z.2 := fun z hz => minC_le z.2 (List.mem_map.mpr ⟨z, hz, rfl⟩)
    rw [e1, e2, hm]
    unfold opS
    dsimp only
    by_cases h1 : q.2 < minC c
    · have em : min (minC c) q.2 = q.2 := by omega
      rw [em, if_pos h1]
      have : (c ++ [q]).filter (fun z => decide (z.2 = q.2)) = [q] := by
        rw [List.filter_append]
        have : c.filter (fun z => decide (z.2 = q.2)) = [] := by
          rw [List.filter_eq_nil_iff]
          intro z hz
          have := le z hz
          simp; omega
        rw [this]; simp
      rw [this]; rfl
    · rw [if_neg h1]
      have em : min (minC c) q.2 = minC c := by omega
      rw [em]
      by_cases h2 : q.2 = minC c
      · rw [if_pos h2, List.filter_append]
        have : [q].filter (fun z => decide (z.2 = minC c)) = [q] := by simp [h2]
        rw [this, List.map_append, List.reverse_append]; rfl
      · rw [if_neg h2, List.filter_append]
        have : [q].filter (fun z => decide (z.2 = minC c)) = [] := by simp [h2]
        rw [this, List.append_nil]
theorem opW_spc (i : Bool) (W : List (Gd × Int)) (S : List (List Nat)) (w : Int) : opW i W S w = spc (cds i W S w W.length) := by
  have : ∀ n, (List.range n).foldl (opT i W S w) none = spc (cds i W S w n) := by
    intro n
    induction n with
    | zero => rfl
    | succ n ih =>
      rw [List.range_succ, List.foldl_append, ih, cds_succ]
      show opT i W S w (spc (cds i W S w n)) n = _
      unfold opT
      cases e : cnd i W S w n with
      | none => simp
      | some q => exact (spc_snoc _ q).symm
  exact this _
/-- right names on the way -/
structure WNm (W : List (Gd × Int)) : Prop where
  nd : (W.map fun g => g.1.nm).Nodup
  ok : ∀ g ∈ W, NameOk g.1.nm
theorem wayL_nm {b : Bd} (h : BOk b) {p : List Nat} (hp : p ∈ nms b) : WNm (wayL b p) := by
  obtain ⟨o, _⟩ := ovr_ok h hp
  have oin := over_in o
  have e : (wayL b p).map (fun g => g.1.nm) = ovr b p := by
    unfold wayL
    rw [List.map_map]
    have : ∀ L : List (List Nat), (∀ n ∈ L, n ∈ b.gs.map Gd.nm) → L.map ((fun g : Gd × Int => g.1.nm) ∘ fun n => (gOf b n, rst b n)) = L := by
      intro L
      induction L with
      | nil => intro _; rfl
      | cons n L ih =>
        intro hL
        rw [List.map_cons, ih fun z hz => hL z (List.mem_cons_of_mem _ hz)]
        congr 1
        exact (gOf_in h (hL n (List.mem_cons_self ..))).2
    exact this _ oin
  refine ⟨by rw [e]; exact over_nodup h o, fun g hg => ?_⟩
  have : g.1.nm ∈ ovr b p := by rw [← e]; exact List.mem_map.mpr ⟨g, hg, rfl⟩
  exact nms_ok h _ (List.mem_append_left _ (oin _ this))

end Lw

namespace Lw
open PySem PySem.Spec L2 FB Wk
open PyProof.Rows hiding St
/-! the law's opening is the program's -/
theorem law_opening {W : List (Gd × Int)} (h : WOk W) (hn : WNm W) (hl : W.length ≤ 16) (S : List (List Nat)) (w : Int) (hw : 0 ≤ w) : F__law_opening [.val (pthD W), .val (.int w), .val (.lst (S.map sD))] = some (.val (opD (opW false W S w)), [none, none, none]) := by
  have sub := cds_sub false W S w W.length
  rw [List.take_length] at sub
  have ndC := sub.nodup hn.nd
  obtain ⟨f, hf⟩ := val_ex ndC
  obtain ⟨⟨n, x6, x7, x8⟩, lp, hx, hn2⟩ := forL_ex (a := aTup (aCons (aN 6) (aCons (aN 7) (aNil)))) (b := b1__law_opening) qW (fun s : Nat × Option O × Option O × Option O => E__law_opening (some (.val (pthD W))) (some (.val (.int w))) (some (.val (.lst (S.map sD)))) (some (mO ((cds false W S w s.1).map (·.1)) (iV f))) (some (.val (.bl (wH W s.1 w)))) none s.2.1 s.2.2.1 s.2.2.2) (fun xs s => xs = W.drop s.1 ∧ s.1 ≤ W.length) (xs := W) (0, none, none, none) ⟨rfl, Nat.zero_le _⟩ (by
    rintro q xs ⟨n, x6, x7, x8⟩ ⟨hx, hnl⟩
    dsimp only at hx hnl
    have hlt : n < W.length := by
      rcases Nat.lt_or_ge n W.length with z | z
      · exact z
      · rw [List.drop_eq_nil_of_le z] at hx; cases hx
    have hx2 := hx
    rw [List.drop_eq_getElem_cons hlt] at hx2
    injection hx2 with hq hxs
    have hgn : W[n]? = some q := by rw [List.getElem?_eq_getElem hlt, hq]
    have hC := (h q (List.mem_of_getElem? hgn)).2.1
    have g0 := gD_0 q.1
    have g2 := gD_2 q.1
    have g3 := gD_3 q.1
    have g4 := gD_4 q.1
    have eT : wT W n w = tna q.1.C (q.2 + w) := by unfold wT; rw [hgn]; rfl
    have ec : cnd false W S w n = if (decide (q.1.nm ∈ S) || (decide (w = 0) || false)) = true then none else (wT W n w).map fun t => (q.1.nm, if wH W n w = true then t + q.1.dl - 1 + q.1.wt else t + q.1.dl - 1) := by
      unfold cnd; rw [hgn]; rfl
    have cs := cds_succ false W S w n
    have eH : wH W (n + 1) w = (wT W n w).isSome := by unfold wH; simp
    have is := nin_of2 (op_in (t := .lst (S.map sD)) (S := S) (.inl rfl) q.1.nm)
    have cl : (cds false W S w n).length ≤ n := by unfold cds; exact Nat.le_trans (List.length_filterMap_le _ _) (by simp)
    have q1 : ∀ y8, q1__law_opening (E__law_opening (some (.val (pthD W))) (some (.val (.int w))) (some (.val (.lst (S.map sD)))) (some (mO ((cds false W S w n).map (·.1)) (iV f))) (some (.val (.bl (wH W n w)))) none (some (.val (gD q.1))) (some (.val (.int q.2))) y8) = .ok (.lst ((metL q.1.C (q.2 + w)).map fun p => O.val (.int p.2))) (E__law_opening (some (.val (pthD W))) (some (.val (.int w))) (some (.val (.lst (S.map sD)))) (some (mO ((cds false W S w n).map (·.1)) (iV f))) (some (.val (.bl (wH W n w)))) none (some (.val (gD q.1))) (some (.val (.int q.2))) y8) := by
      intro y8
      have it : (cv q.1.C).items? = some (q.1.C.map pD) := rfl
      generalize mO ((cds false W S w n).map (·.1)) (iV f) = MM at *
      refine comp_run pD _ _ (by simp [g2, it]) (by omega) (by decide) fun p hp => ?_
      have e0 := pD_0 p
      have e1 := pD_1 p
      simp [e0, e1]
    have td : (O.lst ((metL q.1.C (q.2 + w)).map fun p => O.val (.int p.2))).toD = .lst (((metL q.1.C (q.2 + w)).map (·.2)).map D.int) := by
      rw [e_toD_lst, show ((metL q.1.C (q.2 + w)).map fun p => O.val (.int p.2)) = (((metL q.1.C (q.2 + w)).map (·.2)).map D.int).map O.val by rw [List.map_map, List.map_map]; rfl, toDs_vals]
    have et : wT W n w = ((metL q.1.C (q.2 + w)).map (·.2)).getLast? := by rw [eT]; unfold tna; rw [List.getLast?_map]
    refine ⟨(n + 1, some (.val (gD q.1)), some (.val (.int q.2)), some (.val (.lst (((metL q.1.C (q.2 + w)).map (·.2)).map D.int)))), ?_, hxs, hlt⟩
    dsimp only
    rw [cs, eH]
    generalize (O.lst ((metL q.1.C (q.2 + w)).map fun p => O.val (.int p.2))) = PP at *
    generalize (metL q.1.C (q.2 + w)).map (·.2) = T at *
    by_cases hT : T = []
    · subst hT
      have et : wT W n w = none := et
      have e1 : cnd false W S w n = none := by rw [ec, et]; split <;> rfl
      rw [e1, et]
      dsimp only
      rw [List.append_nil]
      generalize mO ((cds false W S w n).map (·.1)) (iV f) = MM at *
      generalize pthD W = PW at *
      simp [qW, b1__law_opening, q1, td]
    · obtain ⟨t, ht⟩ : ∃ t, T.getLast? = some t := by
        cases e : T.getLast? with
        | none => rw [List.getLast?_eq_none_iff] at e; exact absurd e hT
        | some t => exact ⟨t, rfl⟩
      have al : ixO (.val (.lst (T.map D.int))) (.val (.int (-1))) = some (.val (.int t)) := by
        show (atI (T.map D.int) (-1)).map O.val = _
        rw [at_lastI hT]
        unfold top'
        rw [ht]; rfl
      have ln : (0 : Int) < (T.length : Int) := by
        have := List.length_pos_iff.mpr hT
        omega
      have lnn : 0 < T.length := List.length_pos_iff.mpr hT
      have lT : lenO (.val (.lst (T.map D.int))) = some (.val (.int (T.length : Int))) := by simp
      rw [ht] at et
      rw [et]
      by_cases hS : q.1.nm ∈ S
      · have e1 : cnd false W S w n = none := by rw [ec, decide_eq_true hS]; rfl
        rw [e1]
        dsimp only
        rw [List.append_nil]
        rw [decide_eq_true hS] at is
        generalize mO ((cds false W S w n).map (·.1)) (iV f) = MM at *
        generalize pthD W = PW at *
        generalize T.map D.int = TT at *
        generalize S.map sD = SS at *
        by_cases h0 : 0 < w <;> simp [qW, b1__law_opening, q1, td, lT, ln, lnn, h0, g0, is]
      · rw [decide_eq_false hS] at is
        by_cases h0 : 0 < w
        · have e1 : cnd false W S w n = some (q.1.nm, if wH W n w = true then t + q.1.dl - 1 + q.1.wt else t + q.1.dl - 1) := by
            rw [ec, decide_eq_false hS, decide_eq_false (show ¬ w = 0 by omega), et]; rfl
          have hin : (q.1.nm, if wH W n w = true then t + q.1.dl - 1 + q.1.wt else t + q.1.dl - 1) ∈ cds false W S w W.length := by
            unfold cds
            exact List.mem_filterMap.mpr ⟨n, List.mem_range.mpr hlt, e1⟩
          have fv := hf _ hin
          dsimp only at fv
          have hnew : q.1.nm ∉ (cds false W S w n).map (·.1) := by
            have s1 := cds_sub false W S w (n + 1)
            have nd1 := s1.nodup (hn.nd.sublist ((List.take_sublist (n + 1) W).map _))
            rw [cs, e1, List.map_append, List.nodup_append] at nd1
            exact fun z => nd1.2.2 _ z q.1.nm (by simp) rfl
          have st := set_new (v := iV f) hnew (by rw [List.length_map]; omega) (iV f q.1.nm)
          rw [updN_self] at st
          have ev : iV f q.1.nm = .int (if wH W n w = true then t + q.1.dl - 1 + q.1.wt else t + q.1.dl - 1) := by show D.int (f q.1.nm) = _; rw [fv]
          rw [ev] at st
          rw [e1]
          dsimp only
          rw [List.map_append]
          have m1 := fun i : Int => @e_mulr i (if wH W n w = true then 1 else 0) (by split <;> decide)
          have ea : t + q.1.dl + q.1.wt * (if wH W n w = true then 1 else 0) - 1 = if wH W n w = true then t + q.1.dl - 1 + q.1.wt else t + q.1.dl - 1 := by
            split <;> simp <;> omega
          have e2 : [(q.1.nm, if wH W n w = true then t + q.1.dl - 1 + q.1.wt else t + q.1.dl - 1)].map (·.1) = [q.1.nm] := rfl
          rw [e2]
          generalize mO ((cds false W S w n).map (·.1) ++ [q.1.nm]) (iV f) = M2 at *
          generalize mO ((cds false W S w n).map (·.1)) (iV f) = MM at *
          generalize pthD W = PW at *
          generalize T.map D.int = TT at *
          generalize S.map sD = SS at *
          generalize (if wH W n w = true then t + q.1.dl - 1 + q.1.wt else t + q.1.dl - 1) = vv at *
          generalize wH W n w = hd at *
          simp [qW, b1__law_opening, q1, td, lT, ln, lnn, h0, g0, is, al, g3, g4, m1, ea, st]
        · have w0 : w = 0 := by omega
          have e1 : cnd false W S w n = none := by rw [ec, decide_eq_true w0]; simp
          rw [e1]
          dsimp only
          rw [List.append_nil]
          generalize mO ((cds false W S w n).map (·.1)) (iV f) = MM at *
          generalize pthD W = PW at *
          generalize T.map D.int = TT at *
          generalize S.map sD = SS at *
          simp [qW, b1__law_opening, q1, td, lT, ln, lnn, h0])
  dsimp only at lp hx hn2
  have hnn : n = W.length := by
    have := congrArg List.length hx
    rw [List.length_drop] at this
    simp at this
    omega
  subst hnn
  have m0 : (O.dct [] [] : O) = mO ((cds false W S w 0).map (·.1)) (iV f) := rfl
  have it : (pthD W).items? = some (W.map qW) := rfl
  have lp : forL (aTup (aCons (aN 6) (aCons (aN 7) (aNil)))) b1__law_opening (W.map qW) (E__law_opening (some (.val (pthD W))) (some (.val (.int w))) (some (.val (.lst (S.map sD)))) (some (O.dct [] [])) (some (.val (.bl false)))) = .ok .nx (E__law_opening (some (.val (pthD W))) (some (.val (.int w))) (some (.val (.lst (S.map sD)))) (some (mO ((cds false W S w W.length).map (·.1)) (iV f))) (some (.val (.bl (wH W W.length w)))) none x6 x7 x8) := lp
  have lk := len_mO ((cds false W S w W.length).map (·.1)) (iV f)
  rw [opW_spc]
  unfold spc
  have hkn : ∀ l ∈ (cds false W S w W.length).map (·.1), NameOk l := fun l hl => by
    have := sub.subset hl
    obtain ⟨g, hg, rfl⟩ := List.mem_map.mp this
    exact hn.ok g hg
  have hkl : ((cds false W S w W.length).map (·.1)).length ≤ 16 := Nat.le_trans sub.length_le (by rw [List.length_map]; exact hl)
  unfold F__law_opening
  rw [runF_eq]
  by_cases hc : cds false W S w W.length = []
  · rw [if_pos hc]
    rw [hc] at lp lk
    have lk : lenKO (mO ([] : List (List Nat)) (iV f)) = some (.val (.int 0)) := lk
    have lp : forL (aTup (aCons (aN 6) (aCons (aN 7) (aNil)))) b1__law_opening (W.map qW) _ = .ok .nx (E__law_opening (some (.val (pthD W))) (some (.val (.int w))) (some (.val (.lst (S.map sD)))) (some (mO [] (iV f))) (some (.val (.bl (wH W W.length w)))) none x6 x7 x8) := lp
    generalize mO ([] : List (List Nat)) (iV f) = MM at *
    generalize pthD W = PW at *
    generalize W.map qW = WQ at *
    generalize S.map sD = SS at *
    simp [b__law_opening, it, lp, lk, opD]
    rfl
  · rw [if_neg hc]
    have hcl : ¬ (((cds false W S w W.length).map (·.1)).length : Int) = 0 := by
      have := List.length_pos_iff.mpr hc
      rw [List.length_map]; omega
    have ev : (cds false W S w W.length).map (·.2) = ((cds false W S w W.length).map (·.1)).map f := by
      rw [List.map_map]
      exact List.map_congr_left fun q hq => (hf q hq).symm
    have ef : ((cds false W S w W.length).filter fun q => decide (q.2 = minC (cds false W S w W.length))).map (·.1) = ((cds false W S w W.length).map (·.1)).filter fun n => decide (f n = minC (cds false W S w W.length)) := by
      have : ∀ c : List (List Nat × Int), (∀ q ∈ c, f q.1 = q.2) → ∀ m : Int, (c.filter fun q => decide (q.2 = m)).map (·.1) = (c.map (·.1)).filter fun n => decide (f n = m) := by
        intro c
        induction c with
        | nil => intro _ m; rfl
        | cons q c ih =>
          intro hq m
          have h1 := hq q (List.mem_cons_self ..)
          have h2 := ih (fun z hz => hq z (List.mem_cons_of_mem _ hz)) m
          by_cases e : q.2 = m
          · simp [List.filter_cons, h1, e, h2]
          · simp [List.filter_cons, h1, e, h2]
      exact this _ hf _
    have em : minC (cds false W S w W.length) = minL (((cds false W S w W.length).map (·.1)).map f) := by unfold minC; rw [ev]
    rw [ef]
    generalize hm : minC (cds false W S w W.length) = m at *
    have hkne : (cds false W S w W.length).map (·.1) ≠ [] := by simpa using hc
    generalize (cds false W S w W.length).map (·.1) = ks at *
    have ko := keysOf_mO (ρ := E__law_opening (some (.val (pthD W))) (some (.val (.int w))) (some (.val (.lst (S.map sD)))) (some (mO ks (iV f))) (some (.val (.bl (wH W W.length w)))) none x6 x7 x8) (i := 3) (ks := ks) (v := iV f) rfl hkn (by omega)
    have q2 : q2__law_opening (E__law_opening (some (.val (pthD W))) (some (.val (.int w))) (some (.val (.lst (S.map sD)))) (some (mO ks (iV f))) (some (.val (.bl (wH W W.length w)))) none x6 x7 x8) = .ok (.lst (ks.map fun n => O.val (.int (f n)))) (E__law_opening (some (.val (pthD W))) (some (.val (.int w))) (some (.val (.lst (S.map sD)))) (some (.val (mD ks (iV f)))) (some (.val (.bl (wH W W.length w)))) none x6 x7 x8) := by
      have := compK_run (i := 3) (own := own2 [("_law_name", 10)]) (a := aN 10) (t := mTrue) (e := mP (p2 ixF (pVar 3) (pVar 10))) sD (fun _ => true) (fun n => O.val (.int (f n))) ko (by decide) (fun n hnn => by
        have ix := ix_mD (v := iV f) (ndC) hnn
        simp [ix])
      rw [filter_tt] at this
      exact this
    have mn : minO (.lst (ks.map fun n => O.val (.int (f n)))) = some (.val (.int m)) := by
      have e1 : (O.lst (ks.map fun n => O.val (.int (f n)))).toD = .lst ((ks.map f).map D.int) := by
        rw [e_toD_lst, show (ks.map fun n => O.val (.int (f n))) = ((ks.map f).map D.int).map O.val by rw [List.map_map, List.map_map]; rfl, toDs_vals]
      have e2 := minO_ints (ks.map f) (by simpa using hkne)
      unfold minO at e2 ⊢
      rw [e1]
      rw [em]
      exact e2
    have lst := list_mD (iV f) hkn
    have rv : (ks.map sD).reverse = ks.reverse.map sD := (List.map_reverse ..).symm
    have q3 : q3__law_opening (E__law_opening (some (.val (pthD W))) (some (.val (.int w))) (some (.val (.lst (S.map sD)))) (some (.val (mD ks (iV f)))) (some (.val (.bl (wH W W.length w)))) (some (.val (.int m))) x6 x7 x8) = .ok (vO ((ks.filter fun n => decide (f n = m)).reverse.map sD)) (E__law_opening (some (.val (pthD W))) (some (.val (.int w))) (some (.val (.lst (S.map sD)))) (some (.val (mD ks (iV f)))) (some (.val (.bl (wH W W.length w)))) (some (.val (.int m))) x6 x7 x8) := by
      rw [show vO ((ks.filter fun n => decide (f n = m)).reverse.map sD) = .lst ((ks.reverse.filter fun n => decide (f n = m)).map fun n => O.val (sD n)) from by unfold vO; rw [List.map_map, List.filter_reverse]; rfl]
      refine comp_run sD (fun n => decide (f n = m)) _ ?_ (by rw [List.length_reverse]; omega) (by decide) fun n hnn => ?_
      · rw [← rv]
        generalize ks.map sD = KK at *
        simp [lst]
      · have ix := ix_mD (v := iV f) (ndC) (List.mem_reverse.mp hnn)
        by_cases e : f n = m <;> simp [ix, e]
    have tt : tupO (vO ((ks.filter fun n => decide (f n = m)).reverse.map sD)) = some (.val (.tup ((ks.filter fun n => decide (f n = m)).reverse.map sD))) := vO_tup _
    show endF _ _ _ = some (.val (.tup [.int m, .tup ((ks.filter fun n => decide (f n = m)).reverse.map sD)]), [none, none, none])
    generalize (ks.filter fun n => decide (f n = m)).reverse.map sD = RR at *
    generalize (O.lst (ks.map fun n => O.val (.int (f n)))) = Q2 at *
    generalize mO ks (iV f) = MM at *
    generalize mD ks (iV f) = MD at *
    generalize pthD W = PW at *
    generalize W.map qW = WQ at *
    generalize S.map sD = SS at *
    simp [b__law_opening, it, lp, lk, hkne, hcl, q2, mn, q3, tt]
    rfl

end Lw

namespace Lw
open PySem PySem.Spec L2 FB Wk
open PyProof.Rows hiding St
/-! the rows of a map -/
theorem okE_opD (n : Nat) (o : Opn) : D.okE (n + 2) (opD o) = true := by
  cases o with
  | none => exact okE_non _
  | some r =>
    show D.okE (n + 2) (.tup [.int r.1, .tup (r.2.map sD)]) = true
    rw [okE_tup]
    have : ((r.2.map sD).all (D.okE n)) = true := okE_names n r.2
    simp [this]
end Lw

namespace Lw
open PySem PySem.Spec L2 FB Wk
open PyProof.Rows hiding St
/-! the law's rows told apart -/
end Lw

namespace Lw
open PySem PySem.Spec L2 FB Wk
open PyProof.Rows hiding St
/-! what repr tells -/
structure RB (n : Nat) (d : D) : Prop where
  ls : d.pd.leavesShort 96 = true
  sh : d.pd.showable = true
  hd : d.pd.hasDict = false
  w : d.pd.weight ≤ n
theorem RB.more {n m : Nat} {d : D} (h : RB n d) (q : n ≤ m) : RB m d := ⟨h.ls, h.sh, h.hd, Nat.le_trans h.w q⟩
theorem rb_non (n : Nat) : RB n .non := ⟨rfl, rfl, rfl, Nat.zero_le _⟩
theorem rb_int {i : Int} (h0 : 0 ≤ i) (h1 : i < 1000000000000000000000000000000000000000000000000000000000000000000000000000000000000000000000) : RB 311 (.int i) := by
  have hn : i.natAbs < 1000000000000000000000000000000000000000000000000000000000000000000000000000000000000000000000 := by omega
  have lg : i.natAbs.log2 < 310 := by
    rcases Nat.eq_zero_or_pos i.natAbs with e | e
    · rw [e]; decide
    · rw [Nat.log2_lt (by omega)]
      exact Nat.lt_trans hn (by decide)
  refine ⟨?_, ?_, rfl, ?_⟩
  · show decide ((PyData.shown (.int i)).length ≤ 96) = true
    rw [decide_eq_true_eq]
    have e := int_text_length_le10 (a := i) (k := 93) (by decide) (Nat.lt_of_lt_of_eq hn (by decide))
    show (Str.ofString (toString i)).length ≤ 96
    rw [PySem.ofString_length]; exact Nat.le_trans e (by decide)
  · show decide (i.natAbs.log2 < 1920) = true
    rw [decide_eq_true_eq]; omega
  · show (if (i == 0) = true then 0 else i.natAbs.log2 + 1) ≤ 311
    split <;> omega
theorem rb_name {l : List Nat} (h : NameOk l) : RB 8 (sD l) := by
  have h8 := h.2.1
  refine ⟨?_, rfl, rfl, ?_⟩
  · show ((SL l).cps.toList.all fun c => decide (c < 16 ^ 8)) = true
    rw [List.all_eq_true]
    intro c hc
    have so := strOk_SL (fun c hc => (h.2.2 c hc))
    unfold PyData.strOk at so
    rw [← Array.all_toList, List.all_eq_true] at so
    have := so c hc
    simp at this ⊢
    omega
  · show (SL l).cps.size ≤ 8
    have : (SL l).cps.size = l.length := by unfold SL; simp
    omega
theorem rbs {n : Nat} : ∀ {ds : List D}, (∀ d ∈ ds, RB n d) → PyData.leavesShortAll 96 (D.pds ds) = true ∧ PyData.showableAll (D.pds ds) = true ∧ PyData.hasDictAll (D.pds ds) = false ∧ PyData.weightAll (D.pds ds) ≤ (n + 1) * ds.length
  | [], _ => ⟨rfl, rfl, rfl, Nat.zero_le _⟩
  | d :: ds, h => by
    obtain ⟨a1, a2, a3, a4⟩ := rbs (ds := ds) fun z hz => h z (List.mem_cons_of_mem _ hz)
    have hd := h d (List.mem_cons_self ..)
    refine ⟨?_, ?_, ?_, ?_⟩
    · show (d.pd.leavesShort 96 && PyData.leavesShortAll 96 (D.pds ds)) = true
      rw [hd.ls, a1]; rfl
    · show (d.pd.showable && PyData.showableAll (D.pds ds)) = true
      rw [hd.sh, a2]; rfl
    · show (d.pd.hasDict || PyData.hasDictAll (D.pds ds)) = false
      rw [hd.hd, a3]; rfl
    · show d.pd.weight + 1 + PyData.weightAll (D.pds ds) ≤ (n + 1) * (ds.length + 1)
      have := hd.w
      rw [Nat.mul_succ]
      omega
theorem rb_tup {n : Nat} {ds : List D} (h : ∀ d ∈ ds, RB n d) : RB ((n + 1) * ds.length) (.tup ds) := by
  obtain ⟨a1, a2, a3, a4⟩ := rbs h
  exact ⟨a1, a2, a3, a4⟩
theorem RB.ok {n : Nat} {d : D} (h : RB n d) (hE : d.okE 9 = true) (hn : n ≤ 170000) : repB d = true := by
  have sl := PyData.shown_le 96 (by decide) d.pd h.ls
  have hw := h.w
  have sz : sizeLine = 16777216 := by decide
  have : d.pd.shown.length ≤ sizeLine := by rw [sz]; omega
  unfold repB
  rw [hE, h.sh, h.hd, decide_eq_true this]; rfl
theorem rep_eq {n : Nat} {a : O} {d : D} (ha : a.toD = d) (h : RB n d) (hE : d.okE 9 = true) (hk : repK d = true) (hn : n ≤ 170000) : reprO a = some (.val (.str d.pd.shown)) := e_reprO ha hk (h.ok hE hn)
theorem rb_names {S : List (List Nat)} (h : ∀ l ∈ S, NameOk l) : (∀ d ∈ S.map sD, RB 8 d) := fun d hd => by
  obtain ⟨l, hl, rfl⟩ := List.mem_map.mp hd
  exact rb_name (h l hl)
def bigI : Int := 1000000000000000000000000000000000000000000000000000000000000000000000000000000000000000000000

end Lw

namespace Lw
open PySem PySem.Spec L2 FB Wk
open PyProof.Rows hiding St
/-! openings that repr tells -/
/-- an opening that repr tells -/
structure ORp (o : Opn) : Prop where
  t : ∀ r, o = some r → 0 ≤ r.1 ∧ r.1 < bigI
  n : ∀ r, o = some r → r.2.length ≤ 16 ∧ ∀ l ∈ r.2, NameOk l
theorem rb_op {o : Opn} (h : ORp o) : RB 624 (opD o) := by
  cases o with
  | none => exact rb_non _
  | some r =>
    have h1 := h.t r rfl
    have h2 := h.n r rfl
    have a1 := rb_int h1.1 h1.2
    have a2 := (rb_tup (rb_names h2.2)).more (m := 311) (by rw [List.length_map]; omega)
    refine (rb_tup (n := 311) (ds := [.int r.1, .tup (r.2.map sD)]) fun d hd => ?_).more (by simp)
    rcases List.mem_cons.mp hd with rfl | hd
    · exact a1
    · rw [List.mem_singleton.mp hd]; exact a2

end Lw

namespace Lw
open PySem PySem.Spec L2 FB Wk
open PyProof.Rows hiding St
/-! maps and openings told by the program, and by the law -/
def StT (st : D) (S : List (List Nat)) : Prop := (st = .non ∧ S = []) ∨ OpT st S
theorem stuck_list {st : D} {S : List (List Nat)} (h : StT st S) : ∃ o, F_stuck_list [.val st] = some (o, [none]) ∧ o.toD = .lst (S.map sD) := by
  rcases h with ⟨rfl, rfl⟩ | h
  · refine ⟨.lst [], ?_, rfl⟩
    have nn : isNO (.val .non) (.val .non) = some (.val (.bl true)) := rfl
    unfold F_stuck_list
    rw [runF_eq]
    simp [b_stuck_list, nn]
    rfl
  · rcases h with rfl | rfl
    · refine ⟨vO (S.map sD), ?_, vO_toD _⟩
      have nn : isNO (.val (.lst (S.map sD))) (.val .non) = some (.val (.bl false)) := rfl
      have vw : vO (S.map sD) = .lst ((S.map sD).map O.val) := rfl
      rw [vw]
      unfold F_stuck_list
      rw [runF_eq]
      generalize S.map sD = SS at *
      simp [b_stuck_list, nn]
      exact ⟨rfl, rfl⟩
    · refine ⟨vO (S.map sD), ?_, vO_toD _⟩
      have nn : isNO (.val (.tup (S.map sD))) (.val .non) = some (.val (.bl false)) := rfl
      have vw : vO (S.map sD) = .lst ((S.map sD).map O.val) := rfl
      rw [vw]
      unfold F_stuck_list
      rw [runF_eq]
      generalize S.map sD = SS at *
      simp [b_stuck_list, nn]
      exact ⟨rfl, rfl⟩

end Lw

namespace Lw
open PySem PySem.Spec L2 FB Wk
open PyProof.Rows hiding St
/-! the way as the law has it -/
/-- the way as the law has it -/
def pthW (b : Bool) (W : List (Gd × Int)) : List (Gd × Int) := if b = true then [] else W

end Lw

namespace Lw
open PySem PySem.Spec L2 FB Wk
open PyProof.Rows hiding St
/-! a place that is off -/
theorem opW_idle (W : List (Gd × Int)) (S : List (List Nat)) (w : Int) : opW true W S w = none := by
  have : ∀ k, cnd true W S w k = none := by
    intro k
    unfold cnd
    cases W[k]? with
    | none => rfl
    | some q =>
      show (if (decide (q.1.nm ∈ S) || (decide (w = 0) || true)) = true then none else _) = none
      rw [if_pos (by simp)]
  unfold opW
  have key : ∀ ks : List Nat, ks.foldl (opT true W S w) none = none := by
    intro ks
    induction ks with
    | nil => rfl
    | cons k ks ih =>
      rw [List.foldl_cons]
      have : opT true W S w none k = none := by unfold opT; rw [this]
      rw [this]; exact ih
  exact key _
theorem op_same (W : List (Gd × Int)) (i : Bool) (S : List (List Nat)) (w : Int) : opW false (pthW i W) S w = opW i W S w := by
  cases i with
  | false => rfl
  | true => rw [opW_idle]; rfl

end Lw

namespace Lw
open PySem PySem.Spec L2 FB Wk
open PyProof.Rows hiding St
end Lw

namespace Lw
open PySem PySem.Spec L2 FB Wk
open PyProof.Rows hiding St
/-! opening_of -/
theorem opening_of (b : Bd) (h : BOk b) (hq : loudO b = none) {p : List Nat} (hp : p ∈ nms b) (w : Int) {st : D} {S : List (List Nat)} (hs : StT st S) : F_opening_of [.val (bD b), .val (sD p), .val (.int w), .val st] = some (.val (opD (opW (offB b p) (wayL b p) S w)), [none, none, none, none]) := by
  obtain ⟨so, se, st2⟩ := stuck_list hs
  have hW := wayL_ok h hp
  have hl : (wayL b p).length ≤ 16 := by rw [wayL_len]; exact (ovr_ok h hp).2
  have wm := fun (ρ : FB.Env) (m1 m2 : M O) => way_make (ρ := ρ) b h hq hp m1 m2
  have wt := wO_toD (offB b p) (wayL b p)
  have op := way_opening (offB b p) hW hl S w
  have mO' := fun (ρ : FB.Env) F as => wD_m (ρ := ρ) (offB b p) (wayL b p) "opening" F as fmO
  unfold F_opening_of
  rw [runF_eq]
  generalize wO (offB b p) (wayL b p) = WO at *
  generalize wD (offB b p) (wayL b p) = WD at *
  generalize opD (opW (offB b p) (wayL b p) S w) = OO at *
  generalize S.map sD = SS at *
  generalize bD b = BB at *
  simp [-e_mMake, b_opening_of, wm, wt, mO', se, st2, op]
  rfl

end Lw

namespace Lw
open PySem PySem.Spec L2 FB Wk
open PyProof.Rows hiding St
/-! _law_sized, _law_most, _law_places -/
theorem pow50 : powD (.int 10) (.int 50) = some (.int 100000000000000000000000000000000000000000000000000) := by rw [e_pow (by decide) (by decide) (by decide)]; rfl
theorem pow40 : powD (.int 10) (.int 40) = some (.int 10000000000000000000000000000000000000000) := by rw [e_pow (by decide) (by decide) (by decide)]; rfl
theorem pow60' : powD (.int 10) (.int 60) = some (.int 1000000000000000000000000000000000000000000000000000000000000) := by rw [e_pow (by decide) (by decide) (by decide)]; rfl
theorem sized2 (ns : List Int) : ∃ b unit time, F__law_sized [.val (.scr ns)] = some (.val (.tup [bD b, .int unit]), [none]) ∧ BOk b ∧ Sml unit time b ∧ uOk unit ∧ uOk time ∧ unit ≤ 100000000000000000000000000000000000000000000000003 ∧ time ≤ 10000000000000000000000000000000000000000 := by
  obtain ⟨o1, e1, f1⟩ := feed (x := .val (.scr ns)) (.inl rfl) 18 (by decide)
  have e1 : F__law_feed [.val (.scr ns), .val (.int 18)] = some (o1, [none, none]) := e1
  obtain ⟨r2, o2, e2, f2, u2, v2⟩ := take o1 4 1000 (f1.less (by decide)) (by decide) (by decide) (by decide)
  obtain ⟨r3, o3, e3, f3, u3, v3⟩ := take o2 4 900 (f2.less (by decide)) (by decide) (by decide) (by decide)
  obtain ⟨unit, iu, hu, hu2⟩ : ∃ unit : Int, atI [O.val (.int 1), O.val (.int 1), O.val (.int 7), O.val (.int 100000000000000000000000000000000000000000000000003)] r2 = some (.val (.int unit)) ∧ uOk unit ∧ unit ≤ 100000000000000000000000000000000000000000000000003 := by
    have : r2 = 0 ∨ r2 = 1 ∨ r2 = 2 ∨ r2 = 3 := by omega
    rcases this with e | e | e | e <;> subst e
    · exact ⟨1, by simp, ⟨by decide, by decide⟩, by decide⟩
    · exact ⟨1, by simp, ⟨by decide, by decide⟩, by decide⟩
    · exact ⟨7, by simp, ⟨by decide, by decide⟩, by decide⟩
    · exact ⟨100000000000000000000000000000000000000000000000003, by rw [show (3 : Int) = ((3 : Nat) : Int) from rfl, atN]; rfl, ⟨by decide, by decide⟩, by decide⟩
  obtain ⟨time, it, ht, ht2⟩ : ∃ time : Int, atI [O.val (.int 1), O.val (.int 1), O.val (.int 5), O.val (.int 10000000000000000000000000000000000000000)] r3 = some (.val (.int time)) ∧ uOk time ∧ time ≤ 10000000000000000000000000000000000000000 := by
    have : r3 = 0 ∨ r3 = 1 ∨ r3 = 2 ∨ r3 = 3 := by omega
    rcases this with e | e | e | e <;> subst e
    · exact ⟨1, by simp, ⟨by decide, by decide⟩, by decide⟩
    · exact ⟨1, by simp, ⟨by decide, by decide⟩, by decide⟩
    · exact ⟨5, by simp, ⟨by decide, by decide⟩, by decide⟩
    · exact ⟨10000000000000000000000000000000000000000, by rw [show (3 : Int) = ((3 : Nat) : Int) from rfl, atN]; rfl, ⟨by decide, by decide⟩, by decide⟩
  obtain ⟨b, sb, h, sm⟩ := small_board (x0 := .scr ns) (.inl rfl) unit time hu ht
  refine ⟨b, unit, time, ?_, h, sm, hu, ht, hu2, ht2⟩
  have p5 := pow50
  have p4 := pow40
  generalize bD b = BB at *
  unfold F__law_sized
  rw [runF_eq]
  simp [b__law_sized, e1, p5, e2, iu, p4, e3, it, sb]
  rfl
theorem sized (ns : List Int) : ∃ b unit time, F__law_sized [.val (.scr ns)] = some (.val (.tup [bD b, .int unit]), [none]) ∧ BOk b ∧ Sml unit time b ∧ uOk unit ∧ uOk time := by
  obtain ⟨b, unit, time, e, h, sm, hu, ht, _, _⟩ := sized2 ns
  exact ⟨b, unit, time, e, h, sm, hu, ht⟩
theorem law_places (b : Bd) (h : BOk b) : F__law_places [.val (bD b)] = some (.val (nmV b), [none]) := by
  have b0 := bD_0 b
  have b1 := bD_1 b
  have g2 := h.g2
  have l2 := h.l2
  have q1 : q1__law_places (E__law_places (some (.val (bD b)))) = .ok (vO ((b.gs.map Gd.nm).map sD)) (E__law_places (some (.val (bD b)))) := by
    rw [show vO ((b.gs.map Gd.nm).map sD) = .lst (b.gs.map fun g => O.val (sD g.nm)) from by unfold vO; rw [List.map_map, List.map_map]; rfl]
    refine comp_map gD _ (by simp [b0]) (by omega) (by decide) fun g hg => ?_
    have e := gD_0 g
    simp [e]
  have q2 : q2__law_places (E__law_places (some (.val (bD b)))) = .ok (vO ((b.ls.map Ld.nm).map sD)) (E__law_places (some (.val (bD b)))) := by
    rw [show vO ((b.ls.map Ld.nm).map sD) = .lst (b.ls.map fun x => O.val (sD x.nm)) from by unfold vO; rw [List.map_map, List.map_map]; rfl]
    refine comp_map lD _ (by simp [b1]) (by omega) (by decide) fun x hx => ?_
    have e := lD_0 x
    simp [e]
  have ad : lift2 addD (vO ((b.gs.map Gd.nm).map sD)) (vO ((b.ls.map Ld.nm).map sD)) = some (.val (nmV b)) := by
    have s1 : (vO ((b.gs.map Gd.nm).map sD)).sh = some (.lst ((b.gs.map Gd.nm).map sD)) := vO_sh _
    have s2 : (vO ((b.ls.map Ld.nm).map sD)).sh = some (.lst ((b.ls.map Ld.nm).map sD)) := vO_sh _
    unfold lift2
    rw [s1, s2]
    show ((addD (.lst ((b.gs.map Gd.nm).map sD)) (.lst ((b.ls.map Ld.nm).map sD))).map O.val) = _
    rw [addD_lst _ _ (by simp; omega), ← List.map_append]; rfl
  unfold F__law_places
  rw [runF_eq]
  generalize vO ((b.gs.map Gd.nm).map sD) = V1 at *
  generalize vO ((b.ls.map Ld.nm).map sD) = V2 at *
  generalize bD b = BB at *
  simp [b__law_places, q1, q2, ad]
  rfl

end Lw

namespace Lw
open PySem PySem.Spec L2 FB Wk
open PyProof.Rows hiding St
/-! _law_most -/
/-- what is drawn at rest on a way is no less than 0 -/
def WNn (W : List (Gd × Int)) : Prop := ∀ q ∈ W, 0 ≤ q.2
theorem most_run {o : O} {W : List (Gd × Int)} (hW : WOk W) (hl : W.length ≤ 16) (h0 : WNn W) (k unit : Int) (ho : Fok (k + 10) o) (hk : 0 ≤ k) (hu : uOk unit) : ∃ o' m, F__law_most [o, .val (pthD W), .val (.int unit)] = some (.val (.int m), [some o', none, none]) ∧ Fok k o' ∧ 1 ≤ m ∧ m ≤ 1000000000000000000000000000000000000000000000000000000000002 := by
  obtain ⟨r1, o1, e1, f1, u1, v1⟩ := take o 8 (k + 9) (ho.less (by omega)) (by omega) (by decide) (by decide)
  have p6 := pow60'
  have lw : lenO (.val (pthD W)) = some (.val (.int (W.length : Int))) := by unfold pthD; simp
  by_cases c1 : r1 = 0
  · subst c1
    refine ⟨o1, 999999999999999999999999999999999999999999999999999999999999, ?_, f1.less (by omega), by decide, by decide⟩
    generalize pthD W = PW at *
    unfold F__law_most
    rw [runF_eq]
    simp [b__law_most, e1, p6]
    rfl
  · by_cases c2 : r1 < 3 ∨ W.length = 0
    · obtain ⟨r2, o2, e2, f2, u2, v2⟩ := take o1 60 (k + 8) (f1.less (by omega)) (by omega) (by decide) (by decide)
      have mu : mulD (.int r2) (.int unit) = some (.int (r2 * unit)) := e_mull unit (by omega)
      have b1 : 0 ≤ r2 * unit := Int.mul_nonneg u2 (by have := hu.1; omega)
      have b2 : r2 * unit ≤ 59 * unit := Int.mul_le_mul_of_nonneg_right (by omega) (by have := hu.1; omega)
      have hu2 := hu.2
      refine ⟨o2, 1 + r2 * unit, ?_, f2.less (by omega), by omega, by omega⟩
      generalize pthD W = PW at *
      unfold F__law_most
      rw [runF_eq]
      by_cases c3 : r1 < 3
      · simp [b__law_most, e1, c1, c3, e2, mu]
        rfl
      · have c4 : W.length = 0 := c2.resolve_left c3
        have lw : lenO (.val PW) = some (.val (.int 0)) := by rw [lw, c4]; rfl
        simp [b__law_most, e1, c1, c3, lw, e2, mu]
        rfl
    · have c3 : ¬ r1 < 3 := fun z => c2 (.inl z)
      have c4 : ¬ W.length = 0 := fun z => c2 (.inr z)
      have c5 : ¬ (W.length : Int) = 0 := by omega
      obtain ⟨r2, o2, e2, f2, u2, v2⟩ := take o1 (W.length : Int) (k + 8) (f1.less (by omega)) (by omega) (by omega) (log_big (by omega) (by omega))
      obtain ⟨j, rfl⟩ : ∃ j : Nat, r2 = (j : Int) := ⟨r2.toNat, by omega⟩
      have hj : j < W.length := by omega
      have at1 := pth_at W j hj
      have hm := List.getElem_mem hj
      generalize W[j] = q at *
      have hC := hW q hm
      have hq0 := h0 q hm
      have g2 := gD_2 q.1
      have lc : lenO (.val (cv q.1.C)) = some (.val (.int (q.1.C.length : Int))) := by unfold cv; simp
      have c0 : 0 < q.1.C.length := List.length_pos_iff.mpr hC.1
      have c5' := hC.2.1
      obtain ⟨r3, o3, e3, f3, u3, v3⟩ := take o2 (q.1.C.length : Int) (k + 7) (f2.less (by omega)) (by omega) (by omega) (log_big (by omega) (by omega))
      obtain ⟨l, rfl⟩ : ∃ l : Nat, r3 = (l : Int) := ⟨r3.toNat, by omega⟩
      have hlC : l < q.1.C.length := by omega
      have at2 := cv_at q.1.C l hlC
      have hs := hC.2.2.2 _ (List.getElem_mem hlC)
      generalize q.1.C[l] = s at *
      have s0 := pD_0 s
      obtain ⟨r4, o4, e4, f4, u4, v4⟩ := take o3 3 (k + 6) (f3.less (by omega)) (by omega) (by decide) (by decide)
      refine ⟨o4, max 1 (s.1 - q.2 - 1 + r4), ?_, f4.less (by omega), by omega, by omega⟩
      have qe : qW q = .tup [gD q.1, .int q.2] := rfl
      generalize pthD W = PW at *
      generalize cv q.1.C = CV at *
      unfold F__law_most
      rw [runF_eq]
      simp [b__law_most, e1, c1, c3, lw, c4, c5, e2, at1, qe, g2, lc, e3, at2, s0, e4]
      rfl
theorem wayL_nn {unit time : Int} {b : Bd} (sm : Sml unit time b) (p : List Nat) : WNn (wayL b p) := fun q hq => by
  obtain ⟨n, _, rfl⟩ := List.mem_map.mp hq
  exact rst_nn (fun x hx => (sm.l x hx).1) n

end Lw

namespace Lw
open PySem PySem.Spec L2 FB Wk
open PyProof.Rows hiding St
/-! some names are taken by the feed -/
end Lw

namespace Lw
open PySem PySem.Spec L2 FB Wk
open PyProof.Rows hiding St
/-! the bounds of a way's numbers -/
def WNum (W : List (Gd × Int)) : Prop := ∀ q ∈ W, numOk q.1.dl ∧ numOk q.1.wt
theorem wayL_num {b : Bd} (h : BOk b) {p : List Nat} (hp : p ∈ nms b) : WNum (wayL b p) := fun q hq => by
  obtain ⟨n, hn, rfl⟩ := List.mem_map.mp hq
  obtain ⟨ds, hd⟩ := h.deep
  exact (hd.rest _ (gOf_in h (over_in (ovr_ok h hp).1 n hn)).1).2
theorem tna_mem {C : List (Int × Int)} {d t : Int} (h : tna C d = some t) : ∃ p ∈ C, p.2 = t := by
  unfold tna at h
  cases e : (metL C d).getLast? with
  | none => rw [e] at h; cases h
  | some p =>
    rw [e] at h
    cases h
    have := List.mem_of_getLast? e
    exact ⟨p, (List.mem_filter.mp this).1, rfl⟩

end Lw

namespace Lw
open PySem PySem.Spec L2 FB Wk
open PyProof.Rows hiding St
/-! the bounds of a map's rows -/
def OPre (W : List (Gd × Int)) (o : Opn) : Prop := ∀ r, o = some r → 0 ≤ r.1 ∧ r.1 < bigI ∧ ∀ l ∈ r.2, NameOk l
theorem cnd_pre {i : Bool} {W : List (Gd × Int)} (h : WOk W) (hm : WNum W) (hn : WNm W) {S : List (List Nat)} {w : Int} {k : Nat} {q : List Nat × Int} (hc : cnd i W S w k = some q) : 0 ≤ q.2 ∧ q.2 < bigI ∧ NameOk q.1 := by
  unfold cnd at hc
  cases e : W[k]? with
  | none => rw [e] at hc; cases hc
  | some g =>
    rw [e] at hc
    have hg := List.mem_of_getElem? e
    have hc : (if (decide (g.1.nm ∈ S) || (decide (w = 0) || i)) = true then none else (wT W k w).map fun t => (g.1.nm, if wH W k w = true then t + g.1.dl - 1 + g.1.wt else t + g.1.dl - 1)) = some q := hc
    split at hc
    · cases hc
    · cases e2 : wT W k w with
      | none => rw [e2] at hc; cases hc
      | some t =>
        rw [e2] at hc
        cases hc
        have eT : wT W k w = tna g.1.C (g.2 + w) := by unfold wT; rw [e]; rfl
        rw [eT] at e2
        obtain ⟨p, hp, rfl⟩ := tna_mem e2
        have hs := (h g hg).2.2.2 p hp
        have h1 := (hm g hg).1
        have h2 := (hm g hg).2
        unfold numOk at h1 h2
        unfold bigI
        dsimp only
        refine ⟨?_, ?_, hn.ok g hg⟩
        · split <;> omega
        · split <;> omega
theorem opS_pre {W : List (Gd × Int)} {b : Opn} {q : List Nat × Int} (hb : OPre W b) (hq : 0 ≤ q.2 ∧ q.2 < bigI ∧ NameOk q.1) : OPre W (opS b q) := by
  intro r hr
  cases b with
  | none =>
    cases hr
    exact ⟨hq.1, hq.2.1, fun l hl => by rw [List.mem_singleton.mp hl]; exact hq.2.2⟩
  | some z =>
    have hz := hb z rfl
    have hr : (if q.2 < z.1 then some (q.2, [q.1]) else if q.2 = z.1 then some (z.1, q.1 :: z.2) else some z) = some r := hr
    by_cases c1 : q.2 < z.1
    · rw [if_pos c1] at hr
      cases hr
      exact ⟨hq.1, hq.2.1, fun l hl => by rw [List.mem_singleton.mp hl]; exact hq.2.2⟩
    · rw [if_neg c1] at hr
      by_cases c2 : q.2 = z.1
      · rw [if_pos c2] at hr
        cases hr
        refine ⟨hz.1, hz.2.1, fun l hl => ?_⟩
        rcases List.mem_cons.mp hl with rfl | hl
        · exact hq.2.2
        · exact hz.2.2 l hl
      · rw [if_neg c2] at hr
        cases hr; exact hz
theorem opW_rep (i : Bool) {W : List (Gd × Int)} (h : WOk W) (hm : WNum W) (hn : WNm W) (hl : W.length ≤ 16) (S : List (List Nat)) (w : Int) : ORp (opW i W S w) := by
  have : ∀ (ks : List Nat) (b : Opn), OPre W b → OPre W (ks.foldl (opT i W S w) b) := by
    intro ks
    induction ks with
    | nil => intro b hb; exact hb
    | cons k ks ih =>
      intro b hb
      rw [List.foldl_cons]
      refine ih _ ?_
      unfold opT
      cases e : cnd i W S w k with
      | none => exact hb
      | some q => exact opS_pre hb (cnd_pre h hm hn e)
  have pre := this (List.range W.length) none (fun r hr => by cases hr)
  have len := opn_len i W S w
  unfold opW at len ⊢
  refine ⟨fun r hr => ⟨(pre r hr).1, (pre r hr).2.1⟩, fun r hr => ⟨?_, (pre r hr).2.2⟩⟩
  rw [hr] at len
  have : r.2.length ≤ W.length := len
  omega
end Lw

namespace Lw
open PySem PySem.Spec L2 FB Wk
open PyProof.Rows hiding St
end Lw

namespace Lw
open PySem PySem.Spec L2 FB Wk
open PyProof.Rows hiding St
/-! a board with other delays -/
def dlG (d : List Nat → Int) (g : Gd) : Gd := { g with dl := d g.nm }
def dlB (d : List Nat → Int) (b : Bd) : Bd := ⟨b.gs.map (dlG d), b.ls⟩
def dlQ (d : List Nat → Int) (q : Gd × Int) : Gd × Int := (dlG d q.1, q.2)
section
variable {d : List Nat → Int}
theorem dlB_nm (b : Bd) : (dlB d b).gs.map Gd.nm = b.gs.map Gd.nm := by
  show (b.gs.map (dlG d)).map Gd.nm = _
  rw [List.map_map]; rfl
theorem dlB_nms (b : Bd) : nms (dlB d b) = nms b := by
  unfold nms
  rw [dlB_nm]; rfl
theorem dlB_ok {b : Bd} (h : BOk b) (hd' : ∀ g ∈ b.gs, numOk (d g.nm)) : BOk (dlB d b) := by
  obtain ⟨ds, hd⟩ := h.deep
  have hg := hd.map (dlG d) (fun _ => rfl) (fun _ => rfl) (fun g hg => ⟨(hd.rest g hg).1, hd' g hg, (hd.rest g hg).2.2⟩)
  refine ⟨⟨ds, hg⟩, ⟨h.ls.names, fun l hl => by rw [dlB_nm]; exact h.ls.pl l hl, h.ls.rest⟩, ?_, ?_, h.l2, ?_⟩
  · show 0 < (b.gs.map _).length
    rw [List.length_map]; exact h.g1
  · show (b.gs.map _).length ≤ 16
    rw [List.length_map]; exact h.g2
  · show ((dlB d b).gs.map Gd.nm ++ b.ls.map Ld.nm).Nodup
    rw [dlB_nm]; exact h.nd
theorem ch_dl {gs : List Gd} {n : Option (List Nat)} {L : List (List Nat)} (c : Ch gs n L) : Ch (gs.map (dlG d)) n L := by
  induction c with
  | nil => exact .nil
  | cons hg _ ih => exact Ch.cons (g := dlG d _) (List.mem_map.mpr ⟨_, hg, rfl⟩) ih
theorem ovr_dl {b : Bd} (h : BOk b) (h' : BOk (dlB d b)) {p : List Nat} (hp : p ∈ nms b) : ovr (dlB d b) p = ovr b p := by
  refine ovr_eq h' (by rw [dlB_nms]; exact hp) ?_
  rcases (ovr_ok h hp).1 with ⟨h1, c⟩ | ⟨x, hx, e, c⟩
  · exact .inl ⟨by rw [dlB_nm]; exact h1, ch_dl c⟩
  · exact .inr ⟨x, hx, e, ch_dl c⟩
theorem gOf_dl {b : Bd} (h : BOk b) (h' : BOk (dlB d b)) {n : List Nat} (hn : n ∈ b.gs.map Gd.nm) : gOf (dlB d b) n = dlG d (gOf b n) := by
  have hg := gOf_in h hn
  have := gOf_eq h' (g := dlG d (gOf b n)) (List.mem_map.mpr ⟨_, hg.1, rfl⟩)
  rw [← this]
  show gOf _ n = gOf _ (gOf b n).nm
  rw [hg.2]
theorem rst_dl {b : Bd} (h : BOk b) (h' : BOk (dlB d b)) (n : List Nat) : rst (dlB d b) n = rst b n := by
  unfold rst
  refine S1_same (xs := b.ls) fun x hx => ?_
  have hm : x.nm ∈ nms b := List.mem_append_right _ (List.mem_map.mpr ⟨x, hx, rfl⟩)
  rw [ovr_dl h h' hm]
theorem way_dl {b : Bd} (h : BOk b) (h' : BOk (dlB d b)) {p : List Nat} (hp : p ∈ nms b) : wayL (dlB d b) p = (wayL b p).map (dlQ d) := by
  unfold wayL
  rw [ovr_dl h h' hp, List.map_map]
  refine List.map_congr_left fun n hn => ?_
  show (gOf (dlB d b) n, rst (dlB d b) n) = (dlG d (gOf b n), rst b n)
  rw [gOf_dl h h' (over_in (ovr_ok h hp).1 n hn), rst_dl h h']
theorem loud_dl {b : Bd} (h : BOk b) (h' : BOk (dlB d b)) (hq : loudO b = none) : loudO (dlB d b) = none := by
  unfold loudO at hq ⊢
  rw [List.head?_eq_none_iff, List.map_eq_nil_iff, List.filter_eq_nil_iff] at hq ⊢
  intro g' hg'
  obtain ⟨g, hg, rfl⟩ := List.mem_map.mp hg'
  have h1 := hq g hg
  unfold awB at h1 ⊢
  rw [rst_dl h h']
  exact h1
end

end Lw

namespace Lw
open PySem PySem.Spec L2 FB Wk
open PyProof.Rows hiding St
/-! a board shown, with its delays beside it -/
theorem BOk.gC {b : Bd} (h : BOk b) {g : Gd} (hg : g ∈ b.gs) : NameOk g.nm ∧ (∀ l, g.un = some l → NameOk l) ∧ g.C.length ≤ 5 ∧ (∀ p ∈ g.C, numOk p.1 ∧ numOk p.2) ∧ numOk g.dl ∧ numOk g.wt := by
  obtain ⟨ds, G⟩ := h.deep
  obtain ⟨c, d, w⟩ := G.rest g hg
  refine ⟨G.names g hg, fun l hl => ?_, c.2.1, fun p hp => by
    have q := c.2.2.2 p hp
    exact ⟨⟨by omega, by have := q.2.2.1; omega⟩, ⟨by omega, by have := q.2.2.2; omega⟩⟩, d, w⟩
  obtain ⟨i, hi⟩ := List.getElem?_of_mem hg
  rcases G.under i g hi with ⟨q, _⟩ | ⟨j, u, d, _, hj, q, _⟩
  · rw [q] at hl; cases hl
  · rw [q] at hl; cases hl
    exact G.names u (List.mem_of_getElem? hj)
theorem BOk.lC {b : Bd} (h : BOk b) {x : Ld} (hx : x ∈ b.ls) : NameOk x.nm ∧ NameOk x.pl ∧ x.cs.length ≤ 5 ∧ (∀ p ∈ x.cs, numOk p.1 ∧ numOk p.2) ∧ numOk x.la := by
  obtain ⟨ds, G⟩ := h.deep
  obtain ⟨c, l⟩ := h.ls.rest x hx
  refine ⟨h.ls.names x hx, ?_, by have := c.1; omega, fun p hp => (c.2 p hp).2, l⟩
  obtain ⟨g, hg, e⟩ := List.mem_map.mp (h.ls.pl x hx)
  rw [← e]; exact G.names g hg
structure RBs (n : Nat) (ds : List D) : Prop where
  ls : PyData.leavesShortAll 96 (D.pds ds) = true
  sh : PyData.showableAll (D.pds ds) = true
  hd : PyData.hasDictAll (D.pds ds) = false
  w : PyData.weightAll (D.pds ds) ≤ n
theorem rbs_nil : RBs 0 [] := ⟨rfl, rfl, rfl, Nat.le_refl 0⟩
theorem rbs_cons {n m : Nat} {d : D} {ds : List D} (h : RB n d) (hs : RBs m ds) : RBs (n + 1 + m) (d :: ds) := by
  refine ⟨?_, ?_, ?_, ?_⟩
  · show (d.pd.leavesShort 96 && PyData.leavesShortAll 96 (D.pds ds)) = true
    rw [h.ls, hs.ls]; rfl
  · show (d.pd.showable && PyData.showableAll (D.pds ds)) = true
    rw [h.sh, hs.sh]; rfl
  · show (d.pd.hasDict || PyData.hasDictAll (D.pds ds)) = false
    rw [h.hd, hs.hd]; rfl
  · show d.pd.weight + 1 + PyData.weightAll (D.pds ds) ≤ n + 1 + m
    have := h.w
    have := hs.w
    omega
theorem rb_tupS {n : Nat} {ds : List D} (h : RBs n ds) : RB n (.tup ds) := ⟨h.ls, h.sh, h.hd, h.w⟩
theorem rb_bl (b : Bool) : RB 1 (.bl b) := by cases b <;> exact ⟨rfl, rfl, rfl, by decide⟩
theorem rb_num {i : Int} (h : numOk i) : RB 311 (.int i) := rb_int h.1 (by have := h.2; omega)
theorem rb_cv {cs : List (Int × Int)} (hl : cs.length ≤ 5) (hc : ∀ p ∈ cs, numOk p.1 ∧ numOk p.2) : RB 3125 (cv cs) := by
  have e := rb_tup (n := 624) (ds := cs.map pD) fun d hd => by
    obtain ⟨p, hp, rfl⟩ := List.mem_map.mp hd
    exact (rb_tupS (rbs_cons (rb_num (hc p hp).1) (rbs_cons (rb_num (hc p hp).2) rbs_nil)))
  exact e.more (by rw [List.length_map]; omega)
theorem rb_gD {b : Bd} (h : BOk b) {g : Gd} (hg : g ∈ b.gs) : RB 3800 (gD g) := by
  obtain ⟨a1, a2, a3, a4, a5, a6⟩ := h.gC hg
  have u : RB 8 (uD g.un) := by
    cases e : g.un with
    | none => exact rb_non 8
    | some l => exact rb_name (a2 l e)
  exact (rb_tupS (rbs_cons (rb_name a1) (rbs_cons u (rbs_cons (rb_cv a3 a4) (rbs_cons (rb_num a5) (rbs_cons (rb_num a6) rbs_nil)))))).more (by omega)
theorem rb_lD {b : Bd} (h : BOk b) {x : Ld} (hx : x ∈ b.ls) : RB 3800 (lD x) := by
  obtain ⟨a1, a2, a3, a4, a5⟩ := h.lC hx
  exact (rb_tupS (rbs_cons (rb_name a1) (rbs_cons (rb_name a2) (rbs_cons (rb_cv a3 a4) (rbs_cons (rb_num a5) (rbs_cons (rb_bl x.on) rbs_nil)))))).more (by omega)
theorem rb_bD {b : Bd} (h : BOk b) : RB 152100 (bD b) := by
  have g2 := h.g2
  have l2 := h.l2
  have e1 := rb_tup (n := 3800) (ds := b.gs.map gD) fun d hd => by
    obtain ⟨g, hg, rfl⟩ := List.mem_map.mp hd
    exact rb_gD h hg
  have e2 := rb_tup (n := 3800) (ds := b.ls.map lD) fun d hd => by
    obtain ⟨g, hg, rfl⟩ := List.mem_map.mp hd
    exact rb_lD h hg
  rw [List.length_map] at e1 e2
  exact (rb_tupS (rbs_cons e1 (rbs_cons e2 rbs_nil))).more (by omega)
theorem okE_cv15 (n : Nat) (cs : List (Int × Int)) : D.okE (n + 3) (cv cs) = true := by
  show D.okE (n + 2 + 1) (.tup (cs.map pD)) = true
  rw [okE_tup, List.all_eq_true]
  intro d hd
  obtain ⟨p, _, rfl⟩ := List.mem_map.mp hd
  rfl
theorem okE_bD15 (b : Bd) : D.okE 9 (bD b) = true := by
  show D.okE (8 + 1) (.tup [.tup (b.gs.map gD), .tup (b.ls.map lD)]) = true
  rw [okE_tup, List.all_cons, List.all_cons, List.all_nil, Bool.and_true, Bool.and_eq_true]
  refine ⟨?_, ?_⟩
  · show D.okE (7 + 1) (.tup (b.gs.map gD)) = true
    rw [okE_tup, List.all_eq_true]
    intro d hd
    obtain ⟨g, _, rfl⟩ := List.mem_map.mp hd
    show D.okE (6 + 1) (.tup [sD g.nm, uD g.un, cv g.C, .int g.dl, .int g.wt]) = true
    rw [okE_tup]
    have e := okE_cv15 3 g.C
    have u : D.okE 6 (uD g.un) = true := by cases g.un <;> rfl
    simp only [List.all_cons, List.all_nil, e, u]
    try rfl
  · show D.okE (7 + 1) (.tup (b.ls.map lD)) = true
    rw [okE_tup, List.all_eq_true]
    intro d hd
    obtain ⟨g, _, rfl⟩ := List.mem_map.mp hd
    show D.okE (6 + 1) (.tup [sD g.nm, sD g.pl, cv g.cs, .int g.la, .bl g.on]) = true
    rw [okE_tup]
    have e := okE_cv15 3 g.cs
    simp only [List.all_cons, List.all_nil, e]
    try rfl

theorem pq_pd : ∀ (n : Nat) (d : D), d.okE n = true → D.okN n d = true → d.pq = d.pd := by
  intro n
  induction n with
  | zero => intro d h1 h2; cases d <;> first | rfl | cases h1 | cases h2
  | succ n ih =>
    intro d h1 h2
    cases d with
    | tup ds =>
      have h1 : ds.all (D.okE n) = true := h1
      have h2 : ds.all (D.okN n) = true := h2
      show PyData.tuple (D.pqs ds) = PyData.tuple (D.pds ds)
      rw [pqs_map, pds_map]
      congr 1
      exact List.map_congr_left fun d hd => ih d ((List.all_eq_true.mp h1) d hd) ((List.all_eq_true.mp h2) d hd)
    | non => rfl
    | bl _ => rfl
    | int _ => rfl
    | str _ => rfl
    | lst _ => cases h2
    | dct _ _ => cases h1
    | ins _ _ _ => cases h1
    | scr _ => cases h1
    | fn _ => cases h1
theorem okN_cv (n : Nat) (cs : List (Int × Int)) : D.okN (n + 3) (cv cs) = true := by
  show (cs.map pD).all (D.okN (n + 2)) = true
  rw [List.all_eq_true]
  intro d hd
  obtain ⟨p, _, rfl⟩ := List.mem_map.mp hd
  rfl
theorem okN_bD (n : Nat) (b : Bd) : D.okN (n + 6) (bD b) = true := by
  show ([.tup (b.gs.map gD), .tup (b.ls.map lD)] : List D).all (D.okN (n + 5)) = true
  rw [List.all_cons, List.all_cons, List.all_nil, Bool.and_true, Bool.and_eq_true]
  refine ⟨?_, ?_⟩
  · show (b.gs.map gD).all (D.okN (n + 4)) = true
    rw [List.all_eq_true]
    intro d hd
    obtain ⟨g, _, rfl⟩ := List.mem_map.mp hd
    show ([sD g.nm, uD g.un, cv g.C, .int g.dl, .int g.wt] : List D).all (D.okN (n + 3)) = true
    have e := okN_cv n g.C
    have u : D.okN (n + 3) (uD g.un) = true := by cases g.un <;> rfl
    have a : D.okN (n + 3) (sD g.nm) = true := rfl
    have c : ∀ i : Int, D.okN (n + 3) (.int i) = true := fun _ => rfl
    simp only [List.all_cons, List.all_nil, e, u, a, c, Bool.and_self]
  · show (b.ls.map lD).all (D.okN (n + 4)) = true
    rw [List.all_eq_true]
    intro d hd
    obtain ⟨g, _, rfl⟩ := List.mem_map.mp hd
    show ([sD g.nm, sD g.pl, cv g.cs, .int g.la, .bl g.on] : List D).all (D.okN (n + 3)) = true
    have e := okN_cv n g.cs
    have a : ∀ l, D.okN (n + 3) (sD l) = true := fun _ => rfl
    have c : ∀ i : Int, D.okN (n + 3) (.int i) = true := fun _ => rfl
    have w : ∀ i : Bool, D.okN (n + 3) (.bl i) = true := fun _ => rfl
    simp only [List.all_cons, List.all_nil, e, a, c, w, Bool.and_self]
def kv51 (f : List Nat → Int) (l : List Nat) : PyData × PyData := (.str (SL l), .int (f l))
theorem zip51 (f : List Nat → Int) : ∀ ks : List (List Nat), ((kD ks).map keyPd).zip (D.pqs (ks.map (iV f))) = ks.map (kv51 f)
  | [] => rfl
  | k :: ks => by
    show (keyPd (.inr (SL k)), D.pq (iV f k)) :: ((kD ks).map keyPd).zip (D.pqs (ks.map (iV f))) = _
    rw [zip51 f ks]; rfl
theorem kvs51 {f : List Nat → Int} : ∀ {ks : List (List Nat)}, (∀ l ∈ ks, NameOk l ∧ 0 ≤ f l ∧ f l < 1000000000000000000000000000000000000000000000000000000000000000000000000000000000000000000000) → PyData.showableKv (ks.map (kv51 f)) = true ∧ PyData.leavesShortKv 96 (ks.map (kv51 f)) = true ∧ PyData.weightKv (ks.map (kv51 f)) ≤ 321 * ks.length
  | [], _ => ⟨rfl, rfl, Nat.zero_le _⟩
  | k :: ks, h => by
    obtain ⟨a1, a2, a3⟩ := kvs51 (ks := ks) fun l hl => h l (List.mem_cons_of_mem _ hl)
    have hk := h k (List.mem_cons_self ..)
    have rn := rb_name hk.1
    have ri := rb_int hk.2.1 hk.2.2
    refine ⟨?_, ?_, ?_⟩
    · show (PyData.showable (.str (SL k)) && PyData.showable (.int (f k)) && PyData.showableKv (ks.map (kv51 f))) = true
      have e1 : PyData.showable (.str (SL k)) = true := rn.sh
      have e2 : PyData.showable (.int (f k)) = true := ri.sh
      rw [e1, e2, a1]; rfl
    · show (PyData.leavesShort 96 (.str (SL k)) && PyData.leavesShort 96 (.int (f k)) && PyData.leavesShortKv 96 (ks.map (kv51 f))) = true
      have e1 : PyData.leavesShort 96 (.str (SL k)) = true := rn.ls
      have e2 : PyData.leavesShort 96 (.int (f k)) = true := ri.ls
      rw [e1, e2, a2]; rfl
    · show PyData.weight (.str (SL k)) + PyData.weight (.int (f k)) + 2 + PyData.weightKv (ks.map (kv51 f)) ≤ 321 * (ks.length + 1)
      have e1 : PyData.weight (.str (SL k)) ≤ 8 := rn.w
      have e2 : PyData.weight (.int (f k)) ≤ 311 := ri.w
      omega
theorem repQ51 {b : Bd} (h : BOk b) {ks : List (List Nat)} {f : List Nat → Int} (hl : ks.length ≤ 16) (hk : ∀ l ∈ ks, NameOk l ∧ 0 ≤ f l ∧ f l < 1000000000000000000000000000000000000000000000000000000000000000000000000000000000000000000000) : repQ (.tup [bD b, mD ks (iV f)]) = true := by
  have rb := rb_bD h
  have kv := kvs51 hk
  have e1 : (bD b).pq = (bD b).pd := pq_pd 9 _ (okE_bD15 b) (okN_bD 3 b)
  have e2 : (mD ks (iV f)).pq = .dict (ks.map (kv51 f)) := by
    show PyData.dict (((kD ks).map keyPd).zip (D.pqs (ks.map (iV f)))) = _
    rw [zip51]
  have ep : (D.tup [bD b, mD ks (iV f)]).pq = .tuple [(bD b).pd, .dict (ks.map (kv51 f))] := by
    show PyData.tuple [(bD b).pq, (mD ks (iV f)).pq] = _
    rw [e1, e2]
  have on : D.okN 9 (.tup [bD b, mD ks (iV f)]) = true := by
    show ([bD b, mD ks (iV f)] : List D).all (D.okN 8) = true
    have o2 : D.okN 8 (mD ks (iV f)) = true := by
      show ((kD ks).all keyOk && ((ks.map (iV f)).all (D.okN 7) && decide ((kD ks).length = (ks.map (iV f)).length))) = true
      rw [Bool.and_eq_true, Bool.and_eq_true, decide_eq_true_eq]
      refine ⟨?_, ?_, by unfold kD; simp⟩
      · rw [List.all_eq_true]
        intro k hm
        obtain ⟨l, hl, rfl⟩ := List.mem_map.mp hm
        exact strOk_SL (fun c hc => (hk l hl).1.2.2 c hc)
      · rw [List.all_eq_true]
        intro d hd
        obtain ⟨l, _, rfl⟩ := List.mem_map.mp hd
        rfl
    have o1 := okN_bD 2 b
    simp only [List.all_cons, List.all_nil, o1, o2, Bool.and_self]
  have ls : PyData.leavesShort 96 (.tuple [(bD b).pd, .dict (ks.map (kv51 f))]) = true := by
    show (PyData.leavesShort 96 (bD b).pd && (PyData.leavesShortKv 96 (ks.map (kv51 f)) && true)) = true
    rw [rb.ls, kv.2.1]; rfl
  have sh : PyData.showable (.tuple [(bD b).pd, .dict (ks.map (kv51 f))]) = true := by
    show (PyData.showable (bD b).pd && (PyData.showableKv (ks.map (kv51 f)) && true)) = true
    rw [rb.sh, kv.1]; rfl
  have wt : PyData.weight (.tuple [(bD b).pd, .dict (ks.map (kv51 f))]) ≤ 160000 := by
    show (bD b).pd.weight + 1 + (PyData.weightKv (ks.map (kv51 f)) + 1 + 0) ≤ 160000
    have := rb.w
    have := kv.2.2
    omega
  have sl := PyData.shown_le 96 (by decide) _ ls
  have sz : sizeLine = 16777216 := by decide
  show (D.okN 9 (.tup [bD b, mD ks (iV f)]) && ((D.tup [bD b, mD ks (iV f)]).pq.showable && decide ((D.tup [bD b, mD ks (iV f)]).pq.shown.length ≤ sizeLine))) = true
  rw [on, ep, sh, decide_eq_true (by rw [sz]; omega)]
  rfl

end Lw

namespace Lw
open PySem PySem.Spec L2 FB Wk
open PyProof.Rows hiding St
/-! the law -/
noncomputable def t51_1 : M Fl := mAsg (aTup (aCons (aN 11) (aCons (aN 12) (aNil)))) (mCall F__law_sized [.v (mP (pVar 0))])
noncomputable def t51_2 : M Fl := mSetO 1 (mCall F__law_feed [.v (mP (pVar 0)), .v (mP (pC (.int 19)))])
noncomputable def t51_3 : M Fl := mSetO 2 (mDict0)
noncomputable def t51_4 : M Fl := mFor (mI (mP (p1 revA (p2 ixO (pVar 11) (pC (.int 0)))))) (aN 3) b1_law
noncomputable def t51_5 : M Fl := mSetP 4 (mBor 2 (mP (p1 reprQ (pTup (pCons (pVar 11) (pCons (pVar 2) (pNil)))))))
noncomputable def t51_6 : M Fl := mSetP 5 (mTup (mCons (m1 tupO (q1_law)) (mCons (mP (p2 ixO (pVar 11) (pC (.int 1)))) (mNil))))
noncomputable def t51_7 : M Fl := mSetP 6 (mCall F_with_delays [.v (mP (pVar 11)), .io 2])
noncomputable def t51_8 : M Fl := mIf (mOr (mB (mP (p2 (neO) (p1 reprO (pVar 6)) (p1 reprO (pVar 5))))) (mB (m2 (neO) (mBor 2 (mP (p1 reprQ (pTup (pCons (pVar 11) (pCons (pVar 2) (pNil))))))) (mP (pVar 4))))) (mRet (mP (pC (.bl false)))) (mSkip)
noncomputable def t51_9 : M Fl := mEx (mClearD 2)
noncomputable def t51_10 : M Fl := mIf (mOr (mB (mP (p2 (neO) (p1 reprO (pVar 6)) (p1 reprO (pVar 5))))) (mB (m2 (notNO) (mCall F__law_loud [.v (mP (pVar 11))]) (mP (pC .non))))) (mRet (mP (p2 (eqO) (p1 reprO (pVar 6)) (p1 reprO (pVar 5))))) (mSkip)
noncomputable def t51_11 : M Fl := mSetP 7 (mCall F__law_places [.v (mP (pVar 11))])
noncomputable def t51_12 : M Fl := mSetP 8 (m2 ixO (mP (pVar 7)) (mCall F__law_take [.io 1, .v (mP (p1 lenO (pVar 7)))]))
noncomputable def t51_13 : M Fl := mSetP 9 (mCall F__law_path [.v (mP (pVar 5)), .v (mP (pVar 8))])
noncomputable def t51_14 : M Fl := mSetP 10 (mCall F__law_most [.io 1, .v (mP (pVar 9)), .v (mP (pVar 12))])
noncomputable def t51_15 : M Fl := mRet (m2 (eqO) (m1 reprO (mCall (dflN F_opening_of) [.v (mP (pVar 6)), .v (mP (pVar 8)), .v (mP (pVar 10))])) (m1 reprO (mCall F__law_opening [.v (mP (pVar 9)), .v (mP (pVar 10)), .v (mFz (mLst (mNil)))])))
theorem t51_eq : b_law = mSeq t51_1 (mSeq t51_2 (mSeq t51_3 (mSeq t51_4 (mSeq t51_5 (mSeq t51_6 (mSeq t51_7 (mSeq t51_8 (mSeq t51_9 (mSeq t51_10 (mSeq t51_11 (mSeq t51_12 (mSeq t51_13 (mSeq t51_14 (t51_15)))))))))))))) := rfl
noncomputable abbrev V51 (x0 : Option O) (o : O) (dl x3 x4 x5 x6 x7 x8 x9 x10 : Option O) (b : Bd) (unit : Int) : FB.Env := E_law x0 (some o) dl x3 x4 x5 x6 x7 x8 x9 x10 (some (.val (bD b))) (some (.val (.int unit)))
def up51 (f : List Nat → Int) (n : List Nat) (v : Int) : List Nat → Int := fun m => if m = n then v else f m
theorem updN51 (f : List Nat → Int) (n : List Nat) (v : Int) : updN (iV f) n (.int v) = iV (up51 f n v) := by
  funext m
  unfold updN iV up51
  by_cases e : m = n <;> simp [e]
theorem eqs51 (s : Str) : eqO (.val (.str s)) (.val (.str s)) = some (.val (.bl true)) := by rw [e_eqO (by simp) (by simp)]; simp
theorem nes51 (s : Str) : neO (.val (.str s)) (.val (.str s)) = some (.val (.bl false)) := by rw [e_neO (by simp) (by simp)]; simp
theorem row51 {unit : Int} (hu : uOk unit) (x0 : Option O) {o : O} {k : Int} (hk : 0 ≤ k) (ho : Fok (k + 2) o) (b : Bd) (g : Gd) {ks : List (List Nat)} (hn : g.nm ∉ ks) (hl : ks.length < 1000) (f : List Nat → Int) (x3 x4 x5 x6 x7 x8 x9 x10 : Option O) :
    ∃ o' v, fstep (aN 3) b1_law (gD g) (V51 x0 o (some (mO ks (iV f))) x3 x4 x5 x6 x7 x8 x9 x10 b unit) = .ok .nx (V51 x0 o' (some (mO (ks ++ [g.nm]) (iV (up51 f g.nm v)))) (some (.val (gD g))) x4 x5 x6 x7 x8 x9 x10 b unit) ∧ Fok k o' ∧ 0 ≤ v ∧ v < 900000000000000000000000000000000000000000000000000000000000000000000000000000000000000063 := by
  obtain ⟨r1, o1, e1, f1, u1, v1⟩ := take o 9 (k + 1) (ho.less (by omega)) (by omega) (by decide) (by decide)
  obtain ⟨r2, o2, e2, f2, u2, v2⟩ := take o1 4 k f1 hk (by decide) (by decide)
  have p60 : powD (.int 10) (.int 60) = some (.int 1000000000000000000000000000000000000000000000000000000000000) := by rw [e_pow (by decide) (by decide) (by decide)]; rfl
  have p29 : powD (.int 10) (.int 29) = some (.int 100000000000000000000000000000) := by rw [e_pow (by decide) (by decide) (by decide)]; rfl
  have m89 : mulD (.int 1000000000000000000000000000000000000000000000000000000000000) (.int 100000000000000000000000000000) = some (.int 100000000000000000000000000000000000000000000000000000000000000000000000000000000000000000) := by
    rw [e_mul (by decide +kernel)]; rfl
  obtain ⟨u, iu, u0, u9⟩ : ∃ u : Int, ixO (.lst [.val (.int 1), .val (.int 1), .val (.int unit), .val (.int 100000000000000000000000000000000000000000000000000000000000000000000000000000000000000007)]) (.val (.int r2)) = some (.val (.int u)) ∧ 0 ≤ u ∧ u ≤ 100000000000000000000000000000000000000000000000000000000000000000000000000000000000000007 := by
    have h1 := hu.1
    have h2 := hu.2
    have : r2 = 0 ∨ r2 = 1 ∨ r2 = 2 ∨ r2 = 3 := by omega
    rcases this with rfl | rfl | rfl | rfl
    · exact ⟨1, rfl, by decide, by decide⟩
    · exact ⟨1, rfl, by decide, by decide⟩
    · exact ⟨unit, rfl, by omega, by omega⟩
    · exact ⟨_, rfl, by decide, Int.le_refl _⟩
  have mu : mulD (.int r1) (.int u) = some (.int (r1 * u)) := e_mull u (by omega)
  have vb : 0 ≤ r1 * u ∧ r1 * u < 900000000000000000000000000000000000000000000000000000000000000000000000000000000000000063 := by
    have : r1 = 0 ∨ r1 = 1 ∨ r1 = 2 ∨ r1 = 3 ∨ r1 = 4 ∨ r1 = 5 ∨ r1 = 6 ∨ r1 = 7 ∨ r1 = 8 := by omega
    rcases this with rfl | rfl | rfl | rfl | rfl | rfl | rfl | rfl | rfl <;> omega
  have e0 := gD_0 g
  have sn := set_new (v := iV f) hn (by omega) (.int (r1 * u))
  rw [updN51] at sn
  refine ⟨o2, r1 * u, ?_, f2, vb⟩
  unfold V51
  generalize r1 * u = ru at *
  generalize mO (ks ++ [g.nm]) (iV (up51 f g.nm ru)) = M2 at *
  generalize mO ks (iV f) = M1 at *
  generalize gD g = GG at *
  generalize bD b = BB at *
  simp [b1_law, e0, e1, p60, p29, m89, e2, iu, mu, sn]
theorem dly51 {unit : Int} (hu : uOk unit) (x0 : Option O) (b : Bd) (x4 x5 x6 x7 x8 x9 x10 : Option O) {k : Int} (hk : 0 ≤ k) {L : List Gd} (nd : (L.map Gd.nm).Nodup) (hL : L.length < 1000) : ∀ (xs done : List Gd), done ++ xs = L → ∀ (o : O) (f : List Nat → Int), Fok (k + 2 * (xs.length : Int)) o → (∀ n, 0 ≤ f n ∧ f n < 900000000000000000000000000000000000000000000000000000000000000000000000000000000000000063) → ∀ x3, ∃ o' f' z3, forL (aN 3) b1_law (xs.map gD) (V51 x0 o (some (mO (done.map Gd.nm) (iV f))) x3 x4 x5 x6 x7 x8 x9 x10 b unit) = .ok .nx (V51 x0 o' (some (mO (L.map Gd.nm) (iV f'))) z3 x4 x5 x6 x7 x8 x9 x10 b unit) ∧ Fok k o' ∧ ∀ n, 0 ≤ f' n ∧ f' n < 900000000000000000000000000000000000000000000000000000000000000000000000000000000000000063
  | [], done, hd, o, f, ho, hf, x3 => by
    rw [List.append_nil] at hd
    subst hd
    exact ⟨o, f, x3, rfl, ho.less (by simp), hf⟩
  | x :: xs, done, hd, o, f, ho, hf, x3 => by
    have hnd : x.nm ∉ done.map Gd.nm := fun z => by
      rw [← hd, List.map_append, List.nodup_append] at nd
      exact nd.2.2 _ z x.nm (by simp) rfl
    have dl := congrArg List.length hd
    rw [List.length_append] at dl
    obtain ⟨o1, v, e, f1, v0, v1⟩ := row51 hu x0 (k := k + 2 * (xs.length : Int)) (by omega) (ho.less (by rw [List.length_cons]; push_cast; omega)) b x hnd (by rw [List.length_map]; omega) f x3 x4 x5 x6 x7 x8 x9 x10
    obtain ⟨o', f', z3, ih, fo, hf'⟩ := dly51 hu x0 b x4 x5 x6 x7 x8 x9 x10 hk nd hL xs (done ++ [x]) (by rw [List.append_assoc]; exact hd) o1 (up51 f x.nm v) f1 (fun n => by
      unfold up51
      split
      · exact ⟨v0, v1⟩
      · exact hf n) (some (.val (gD x)))
    rw [List.map_append] at ih
    refine ⟨o', f', z3, ?_, fo, hf'⟩
    rw [List.map_cons, forL_step, e]
    exact ih
theorem due51 (b : Bd) (h : BOk b) {ks : List (List Nat)} (nk : ks.Nodup) (hk : ∀ g ∈ b.gs, g.nm ∈ ks) (f : List Nat → Int) (x0 x1 x3 x4 x5 x6 x7 x8 x9 x10 x12 : Option O) : q1_law (E_law x0 x1 (some (mO ks (iV f))) x3 x4 x5 x6 x7 x8 x9 x10 (some (.val (bD b))) x12) = .ok (vO ((b.gs.map (dlG f)).map gD)) (E_law x0 x1 (some (mO ks (iV f))) x3 x4 x5 x6 x7 x8 x9 x10 (some (.val (bD b))) x12) := by
  have b0 := bD_0 b
  have g2 := h.g2
  rw [show vO ((b.gs.map (dlG f)).map gD) = .lst (b.gs.map fun g => O.val (gD (dlG f g))) from by unfold vO; rw [List.map_map, List.map_map]; rfl]
  refine comp_map gD _ (by
    generalize mO ks (iV f) = MM at *
    simp [b0]) (by omega) (by decide) fun g hg => ?_
  have e0 := gD_0 g
  have ix := ix_mO (v := iV f) nk (hk g hg)
  have s1 : slO (.val (gD g)) none (some 3) = some (.val (.tup [sD g.nm, uD g.un, cv g.C])) := rfl
  have s2 : slO (.val (gD g)) (some 4) none = some (.val (.tup [.int g.wt])) := rfl
  have a1 : ∀ x : D, addD (.tup [sD g.nm, uD g.un, cv g.C]) (.tup [x]) = some (.tup [sD g.nm, uD g.un, cv g.C, x]) := fun x => addD_tup _ _ (by simp)
  have a2 : ∀ x : D, addD (.tup [sD g.nm, uD g.un, cv g.C, x]) (.tup [.int g.wt]) = some (.tup [sD g.nm, uD g.un, cv g.C, x, .int g.wt]) := fun x => addD_tup _ _ (by simp)
  have eg : gD (dlG f g) = .tup [sD g.nm, uD g.un, cv g.C, .int (f g.nm), .int g.wt] := rfl
  have iv : iV f g.nm = .int (f g.nm) := rfl
  rw [iv] at ix
  rw [eg]
  generalize gD g = GG at *
  generalize mO ks (iV f) = MM at *
  generalize cv g.C = CC at *
  generalize uD g.un = UU at *
  generalize bD b = BB at *
  simp [e0, ix, s1, s2, a1, a2]
theorem with51 (b : Bd) (h : BOk b) {ks : List (List Nat)} (nk : ks.Nodup) (hk : ∀ g ∈ b.gs, g.nm ∈ ks) (f : List Nat → Int) : F_with_delays [.val (bD b), mO ks (iV f)] = some (.val (bD (dlB f b)), [none, some (mO ks (iV f))]) := by
  have b0 := bD_0 b
  have b1 := bD_1 b
  have g2 := h.g2
  have q : q1_with_delays (E_with_delays (some (.val (bD b))) (some (mO ks (iV f)))) = .ok (vO ((b.gs.map (dlG f)).map gD)) (E_with_delays (some (.val (bD b))) (some (mO ks (iV f)))) := by
    rw [show vO ((b.gs.map (dlG f)).map gD) = .lst (b.gs.map fun g => O.val (gD (dlG f g))) from by unfold vO; rw [List.map_map, List.map_map]; rfl]
    refine comp_map gD _ (by
      generalize mO ks (iV f) = MM at *
      simp [b0]) (by omega) (by decide) fun g hg => ?_
    have ix := ix_mO (v := iV f) nk (hk g hg)
    have eg : gD (dlG f g) = .tup [sD g.nm, uD g.un, cv g.C, .int (f g.nm), .int g.wt] := rfl
    have eg2 : gD g = .tup [sD g.nm, uD g.un, cv g.C, .int g.dl, .int g.wt] := rfl
    have iv : iV f g.nm = .int (f g.nm) := rfl
    rw [iv] at ix
    rw [eg, eg2]
    generalize mO ks (iV f) = MM at *
    generalize cv g.C = CC at *
    generalize uD g.un = UU at *
    generalize sD g.nm = NN at *
    generalize bD b = BB at *
    simp [ix]
  have td : (vO ((b.gs.map (dlG f)).map gD)).toD = .lst ((b.gs.map (dlG f)).map gD) := vO_toD _
  have tt : tupO (.val (.lst ((b.gs.map (dlG f)).map gD))) = some (.val (.tup ((b.gs.map (dlG f)).map gD))) := rfl
  have hX : bD (dlB f b) = .tup [.tup ((b.gs.map (dlG f)).map gD), .tup (b.ls.map lD)] := rfl
  rw [hX]
  unfold F_with_delays
  rw [runF_eq]
  generalize vO ((b.gs.map (dlG f)).map gD) = V1 at *
  generalize (b.gs.map (dlG f)).map gD = L1 at *
  generalize b.ls.map lD = L2 at *
  generalize mO ks (iV f) = MM at *
  generalize bD b = BB at *
  simp [b_with_delays, q, td, tt, b1]
  first | rfl | exact ⟨rfl, rfl⟩
theorem bor51 {b : Bd} {ks : List (List Nat)} {f : List Nat → Int} (rq : repQ (.tup [bD b, mD ks (iV f)]) = true) (x0 : Option O) (o : O) (x3 x4 x5 x6 x7 x8 x9 x10 : Option O) (unit : Int) : mBor 2 (mP (p1 reprQ (pTup (pCons (pVar 11) (pCons (pVar 2) (pNil)))))) (V51 x0 o (some (mO ks (iV f))) x3 x4 x5 x6 x7 x8 x9 x10 b unit) = .ok (.val (.str (D.tup [bD b, mD ks (iV f)]).pq.shown)) (V51 x0 o (some (mO ks (iV f))) x3 x4 x5 x6 x7 x8 x9 x10 b unit) := by
  have er := e_reprQ (a := .val (.tup [bD b, mD ks (iV f)])) (d := .tup [bD b, mD ks (iV f)]) rfl rq
  have pt : pTup (pCons (pVar 11) (pCons (pVar 2) (pNil))) ((outE (V51 x0 o (some (mO ks (iV f))) x3 x4 x5 x6 x7 x8 x9 x10 b unit)).set 2 (some (.val (mD ks (iV f))))) = some (.val (.tup [bD b, mD ks (iV f)])) := by rfl
  refine e_mBor (ks := kD ks) (ds := ks.map (iV f)) (ρ2 := (outE (V51 x0 o (some (mO ks (iV f))) x3 x4 x5 x6 x7 x8 x9 x10 b unit)).set 2 (some (.val (mD ks (iV f))))) rfl ?_ rfl
  show mP (p1 reprQ (pTup (pCons (pVar 11) (pCons (pVar 2) (pNil))))) ((outE (V51 x0 o (some (mO ks (iV f))) x3 x4 x5 x6 x7 x8 x9 x10 b unit)).set 2 (some (.val (mD ks (iV f))))) = _
  generalize ((outE (V51 x0 o (some (mO ks (iV f))) x3 x4 x5 x6 x7 x8 x9 x10 b unit)).set 2 (some (.val (mD ks (iV f))))) = ρ' at *
  have pe : p1 reprQ (pTup (pCons (pVar 11) (pCons (pVar 2) (pNil)))) ρ' = some (.val (.str (D.tup [bD b, mD ks (iV f)]).pq.shown)) := by
    rw [e_p1, pt]; exact er
  rw [e_mP, pe]; rfl
theorem law_true (ns : List Int) (hl : ns.length ≤ 63) : ∃ r, F_law [.val (.scr ns)] = some (.val (.bl true), r) := by
  obtain ⟨b, unit, time, es, h, sm, hu, ht⟩ := sized ns
  obtain ⟨x0, hx0⟩ : ∃ x0, x0 = (some (.val (.scr ns)) : Option O) := ⟨_, rfl⟩
  obtain ⟨o1, e1, f1⟩ := feed (x := .val (.scr ns)) (.inl rfl) 19 (by decide)
  have e1 : F__law_feed [.val (.scr ns), .val (.int 19)] = some (o1, [none, none]) := e1
  have b0 := bD_0 b
  have b1 := bD_1 b
  have g2 := h.g2
  have g1 : t51_1 (E_law x0) = .ok .nx (E_law x0 none none none none none none none none none none (some (.val (bD b))) (some (.val (.int unit)))) := by
    rw [hx0]
    generalize bD b = BB at *
    simp [t51_1, es]
  have g2' : t51_2 (E_law x0 none none none none none none none none none none (some (.val (bD b))) (some (.val (.int unit)))) = .ok .nx (V51 x0 o1 none none none none none none none none none b unit) := by
    rw [hx0]
    unfold V51
    generalize bD b = BB at *
    simp [t51_2, e1]
  have g3 : t51_3 (V51 x0 o1 none none none none none none none none none b unit) = .ok .nx (V51 x0 o1 (some (mO (([] : List Gd).map Gd.nm) (iV fun _ => 0))) none none none none none none none none b unit) := by
    rfl
  have rl : b.gs.reverse.length ≤ 16 := by rw [List.length_reverse]; exact g2
  have ndr : (b.gs.reverse.map Gd.nm).Nodup := by
    rw [List.map_reverse]
    exact (List.reverse_perm (b.gs.map Gd.nm)).nodup_iff.mpr (gsnd h)
  obtain ⟨o2, f, z3, lp, f2, fb⟩ := dly51 hu x0 b none none none none none none none (k := 5000) (by decide) ndr (by omega) b.gs.reverse [] rfl o1 (fun _ => 0) (f1.less (by omega)) (fun _ => ⟨Int.le_refl 0, by decide⟩) none
  have rv : revA (.val (.tup (b.gs.map gD))) = some (.val (.tup (b.gs.reverse.map gD))) := by rw [List.map_reverse]; rfl
  have it : D.items? (.tup (b.gs.reverse.map gD)) = some (b.gs.reverse.map gD) := rfl
  have g4 : t51_4 (V51 x0 o1 (some (mO (([] : List Gd).map Gd.nm) (iV fun _ => 0))) none none none none none none none none b unit) = .ok .nx (V51 x0 o2 (some (mO (b.gs.reverse.map Gd.nm) (iV f))) z3 none none none none none none none b unit) := by
    unfold V51 at lp ⊢
    generalize mO (b.gs.reverse.map Gd.nm) (iV f) = M2 at *
    generalize mO (([] : List Gd).map Gd.nm) (iV fun _ => 0) = M1 at *
    generalize b.gs.reverse.map gD = RG at *
    generalize b.gs.map gD = GG at *
    generalize bD b = BB at *
    simp [t51_4, b0, rv, it, lp]
  generalize hks : b.gs.reverse.map Gd.nm = ks at *
  have km : ∀ g ∈ b.gs, g.nm ∈ ks := fun g hg => by
    rw [← hks, List.map_reverse]
    exact List.mem_reverse.mpr (List.mem_map.mpr ⟨g, hg, rfl⟩)
  have kl : ks.length ≤ 16 := by rw [← hks, List.length_map]; exact rl
  have kn : ∀ l ∈ ks, NameOk l ∧ 0 ≤ f l ∧ f l < 1000000000000000000000000000000000000000000000000000000000000000000000000000000000000000000000 := fun l hl => by
    have a := fb l
    refine ⟨?_, a.1, by omega⟩
    rw [← hks, List.map_reverse] at hl
    obtain ⟨g, hg, rfl⟩ := List.mem_map.mp (List.mem_reverse.mp hl)
    exact (h.gC hg).1
  have rq := repQ51 h kl kn
  obtain ⟨S, hS⟩ : ∃ S, (D.tup [bD b, mD ks (iV f)]).pq.shown = S := ⟨_, rfl⟩
  have br := fun x3 x4 x5 x6 x7 x8 x9 x10 => bor51 rq x0 o2 x3 x4 x5 x6 x7 x8 x9 x10 unit
  rw [hS] at br
  have g5 : t51_5 (V51 x0 o2 (some (mO ks (iV f))) z3 none none none none none none none b unit) = .ok .nx (V51 x0 o2 (some (mO ks (iV f))) z3 (some (.val (.str S))) none none none none none none b unit) := by
    have br := br z3 none none none none none none none
    have e : t51_5 = mSetP 4 (mBor 2 (mP (p1 reprQ (pTup (pCons (pVar 11) (pCons (pVar 2) (pNil))))))) := rfl
    rw [e]
    generalize mBor 2 (mP (p1 reprQ (pTup (pCons (pVar 11) (pCons (pVar 2) (pNil)))))) = MB at *
    simp [br]
  have du := fun x3 x4 x5 x6 x7 x8 x9 x10 => due51 b h ndr km f x0 (some o2) x3 x4 x5 x6 x7 x8 x9 x10 (some (.val (.int unit)))
  have tt : tupO (vO ((b.gs.map (dlG f)).map gD)) = some (.val (.tup ((b.gs.map (dlG f)).map gD))) := vO_tup _
  have g6 : t51_6 (V51 x0 o2 (some (mO ks (iV f))) z3 (some (.val (.str S))) none none none none none none b unit) = .ok .nx (V51 x0 o2 (some (mO ks (iV f))) z3 (some (.val (.str S))) (some (.val (bD (dlB f b)))) none none none none none b unit) := by
    have du := du z3 (some (.val (.str S))) none none none none none none
    have hX : bD (dlB f b) = .tup [.tup ((b.gs.map (dlG f)).map gD), .tup (b.ls.map lD)] := rfl
    rw [hX]
    unfold V51
    generalize vO ((b.gs.map (dlG f)).map gD) = V1 at *
    generalize (b.gs.map (dlG f)).map gD = L1 at *
    generalize b.ls.map lD = L2 at *
    generalize mO ks (iV f) = MM at *
    generalize bD b = BB at *
    simp [t51_6, du, tt, b1]
  have wd := with51 b h ndr km f
  have g7 : t51_7 (V51 x0 o2 (some (mO ks (iV f))) z3 (some (.val (.str S))) (some (.val (bD (dlB f b)))) none none none none none b unit) = .ok .nx (V51 x0 o2 (some (mO ks (iV f))) z3 (some (.val (.str S))) (some (.val (bD (dlB f b)))) (some (.val (bD (dlB f b)))) none none none none b unit) := by
    unfold V51
    generalize bD (dlB f b) = B2 at *
    generalize mO ks (iV f) = MM at *
    generalize bD b = BB at *
    simp [t51_7, wd]
  have h' : BOk (dlB f b) := dlB_ok h fun g hg => ⟨(fb g.nm).1, by have := (fb g.nm).2; omega⟩
  have rb := rep_eq (a := .val (bD (dlB f b))) (d := bD (dlB f b)) rfl (rb_bD h') (okE_bD15 _) rfl (by decide)
  obtain ⟨s1, hs1⟩ : ∃ s1, (bD (dlB f b)).pd.shown = s1 := ⟨_, rfl⟩
  rw [hs1] at rb
  have n1 := nes51 s1
  have n2 := nes51 S
  have q1 := eqs51 s1
  have g8 : t51_8 (V51 x0 o2 (some (mO ks (iV f))) z3 (some (.val (.str S))) (some (.val (bD (dlB f b)))) (some (.val (bD (dlB f b)))) none none none none b unit) = .ok .nx (V51 x0 o2 (some (mO ks (iV f))) z3 (some (.val (.str S))) (some (.val (bD (dlB f b)))) (some (.val (bD (dlB f b)))) none none none none b unit) := by
    have br := br z3 (some (.val (.str S))) (some (.val (bD (dlB f b)))) (some (.val (bD (dlB f b)))) none none none none
    have e : t51_8 = mIf (mOr (mB (mP (p2 (neO) (p1 reprO (pVar 6)) (p1 reprO (pVar 5))))) (mB (m2 (neO) (mBor 2 (mP (p1 reprQ (pTup (pCons (pVar 11) (pCons (pVar 2) (pNil))))))) (mP (pVar 4))))) (mRet (mP (pC (.bl false)))) (mSkip) := rfl
    rw [e]
    unfold V51 at br ⊢
    generalize mBor 2 (mP (p1 reprQ (pTup (pCons (pVar 11) (pCons (pVar 2) (pNil)))))) = MB at *
    generalize bD (dlB f b) = B2 at *
    generalize mO ks (iV f) = MM at *
    generalize bD b = BB at *
    simp [rb, n1, br, n2]
  have g9 : t51_9 (V51 x0 o2 (some (mO ks (iV f))) z3 (some (.val (.str S))) (some (.val (bD (dlB f b)))) (some (.val (bD (dlB f b)))) none none none none b unit) = .ok .nx (V51 x0 o2 (some (.dct [] [])) z3 (some (.val (.str S))) (some (.val (bD (dlB f b)))) (some (.val (bD (dlB f b)))) none none none none b unit) := by
    rfl
  have lo := law_loud false false b h
  rw [bQ_ff] at lo
  have nt := isnt_un (loudO b)
  have run1 : ∀ rest : M Fl, mSeq t51_1 (mSeq t51_2 (mSeq t51_3 (mSeq t51_4 (mSeq t51_5 (mSeq t51_6 (mSeq t51_7 (mSeq t51_8 (mSeq t51_9 rest)))))))) (E_law x0) = rest (V51 x0 o2 (some (.dct [] [])) z3 (some (.val (.str S))) (some (.val (bD (dlB f b)))) (some (.val (bD (dlB f b)))) none none none none b unit) := fun rest => by
    rw [e_mSeq, g1]
    simp only [e_sqK, e_mSeq, g2', g3, g4, g5, g6, g7, g8, g9]
  have body : ∃ ρ, b_law (E_law x0) = .ok (.ret (.val (.bl true))) ρ := by
    rw [t51_eq, run1]
    by_cases hq : loudO b = none
    · rw [decide_eq_true hq] at nt
      have g10 : t51_10 (V51 x0 o2 (some (.dct [] [])) z3 (some (.val (.str S))) (some (.val (bD (dlB f b)))) (some (.val (bD (dlB f b)))) none none none none b unit) = .ok .nx (V51 x0 o2 (some (.dct [] [])) z3 (some (.val (.str S))) (some (.val (bD (dlB f b)))) (some (.val (bD (dlB f b)))) none none none none b unit) := by
        unfold V51
        generalize bD (dlB f b) = B2 at *
        generalize uD (loudO b) = UU at *
        generalize bD b = BB at *
        simp [t51_10, rb, n1, lo, nt]
      have lp0 := law_places b h
      have g11 : t51_11 (V51 x0 o2 (some (.dct [] [])) z3 (some (.val (.str S))) (some (.val (bD (dlB f b)))) (some (.val (bD (dlB f b)))) none none none none b unit) = .ok .nx (V51 x0 o2 (some (.dct [] [])) z3 (some (.val (.str S))) (some (.val (bD (dlB f b)))) (some (.val (bD (dlB f b)))) (some (.val (nmV b))) none none none b unit) := by
        unfold V51
        generalize bD (dlB f b) = B2 at *
        generalize nmV b = NV at *
        generalize bD b = BB at *
        simp [t51_11, lp0]
      obtain ⟨m1, m2⟩ := nm_len b h
      obtain ⟨r3, o3, e3, f3, u3, v3⟩ := take o2 ((nms b).length : Int) 4000 (f2.less (by decide)) (by decide) (by omega) (log_big (by omega) (by omega))
      obtain ⟨j, rfl⟩ : ∃ j : Nat, r3 = (j : Int) := ⟨r3.toNat, by omega⟩
      obtain ⟨p, hp, i3⟩ := nmV_ix b j (by omega)
      have lnm : lenO (.val (nmV b)) = some (.val (.int ((nms b).length : Int))) := by unfold nmV; simp
      have g12 : t51_12 (V51 x0 o2 (some (.dct [] [])) z3 (some (.val (.str S))) (some (.val (bD (dlB f b)))) (some (.val (bD (dlB f b)))) (some (.val (nmV b))) none none none b unit) = .ok .nx (V51 x0 o3 (some (.dct [] [])) z3 (some (.val (.str S))) (some (.val (bD (dlB f b)))) (some (.val (bD (dlB f b)))) (some (.val (nmV b))) (some (.val (sD p))) none none b unit) := by
        unfold V51
        generalize bD (dlB f b) = B2 at *
        generalize nmV b = NV at *
        generalize bD b = BB at *
        generalize ((nms b).length : Int) = nn at *
        simp [t51_12, lnm, e3, i3]
      -- the path, on the board with these delays
      have hp' : p ∈ nms (dlB f b) := by rw [dlB_nms]; exact hp
      have hq' := loud_dl h h' hq
      have pa := law_path false false (dlB f b) h' hp'
      rw [bQ_ff] at pa
      have hW := wayL_ok h' hp'
      have hWl : (wayL (dlB f b) p).length ≤ 16 := by rw [wayL_len]; exact (ovr_ok h' hp').2
      have hWn := wayL_nm h' hp'
      have hWm := wayL_num h' hp'
      have hW0 : WNn (wayL (dlB f b) p) := fun q hq => by
        rw [way_dl h h' hp] at hq
        obtain ⟨q0, hq0, rfl⟩ := List.mem_map.mp hq
        exact wayL_nn sm p q0 hq0
      obtain ⟨po, pe, pt⟩ : ∃ po, F__law_path [.val (bD (dlB f b)), .val (sD p)] = some (po, [none, none]) ∧ po.toD = pthD (pthW (offB (dlB f b) p) (wayL (dlB f b) p)) := by
        refine ⟨_, pa, ?_⟩
        cases offB (dlB f b) p with
        | true => rfl
        | false => exact vO_toD _
      have hV : WOk (pthW (offB (dlB f b) p) (wayL (dlB f b) p)) ∧ (pthW (offB (dlB f b) p) (wayL (dlB f b) p)).length ≤ 16 ∧ WNm (pthW (offB (dlB f b) p) (wayL (dlB f b) p)) ∧ WNn (pthW (offB (dlB f b) p) (wayL (dlB f b) p)) := by
        cases offB (dlB f b) p with
        | true => exact ⟨fun q hq => by simp [pthW] at hq, by simp [pthW], ⟨by simp [pthW], fun q hq => by simp [pthW] at hq⟩, fun q hq => by simp [pthW] at hq⟩
        | false => exact ⟨hW, hWl, hWn, hW0⟩
      obtain ⟨hV1, hV2, hV3, hV4⟩ := hV
      have g13 : t51_13 (V51 x0 o3 (some (.dct [] [])) z3 (some (.val (.str S))) (some (.val (bD (dlB f b)))) (some (.val (bD (dlB f b)))) (some (.val (nmV b))) (some (.val (sD p))) none none b unit) = .ok .nx (V51 x0 o3 (some (.dct [] [])) z3 (some (.val (.str S))) (some (.val (bD (dlB f b)))) (some (.val (bD (dlB f b)))) (some (.val (nmV b))) (some (.val (sD p))) (some (.val (pthD (pthW (offB (dlB f b) p) (wayL (dlB f b) p))))) none b unit) := by
        unfold V51
        generalize pthD (pthW (offB (dlB f b) p) (wayL (dlB f b) p)) = PW at *
        generalize bD (dlB f b) = B2 at *
        generalize nmV b = NV at *
        generalize bD b = BB at *
        simp [t51_13, pe, pt]
      obtain ⟨o4, most, e4, f4, mL1, mL2⟩ := most_run hV1 hV2 hV4 900 unit (f3.less (by decide)) (by decide) hu
      have g14 : t51_14 (V51 x0 o3 (some (.dct [] [])) z3 (some (.val (.str S))) (some (.val (bD (dlB f b)))) (some (.val (bD (dlB f b)))) (some (.val (nmV b))) (some (.val (sD p))) (some (.val (pthD (pthW (offB (dlB f b) p) (wayL (dlB f b) p))))) none b unit) = .ok .nx (V51 x0 o4 (some (.dct [] [])) z3 (some (.val (.str S))) (some (.val (bD (dlB f b)))) (some (.val (bD (dlB f b)))) (some (.val (nmV b))) (some (.val (sD p))) (some (.val (pthD (pthW (offB (dlB f b) p) (wayL (dlB f b) p))))) (some (.val (.int most))) b unit) := by
        unfold V51
        generalize pthD (pthW (offB (dlB f b) p) (wayL (dlB f b) p)) = PW at *
        generalize bD (dlB f b) = B2 at *
        generalize nmV b = NV at *
        generalize bD b = BB at *
        simp [t51_14, e4]
      have op := opening_of (dlB f b) h' hq' hp' most (st := .non) (S := []) (.inl ⟨rfl, rfl⟩)
      have lo2 := law_opening hV1 hV3 hV2 [] most (by omega)
      rw [op_same] at lo2
      have lo2 : F__law_opening [.val (pthD (pthW (offB (dlB f b) p) (wayL (dlB f b) p))), .val (.int most), .val (.lst [])] = some (.val (opD (opW (offB (dlB f b) p) (wayL (dlB f b) p) [] most)), [none, none, none]) := lo2
      have ro := rep_eq (a := .val (opD (opW (offB (dlB f b) p) (wayL (dlB f b) p) [] most))) (d := opD (opW (offB (dlB f b) p) (wayL (dlB f b) p) [] most)) rfl (rb_op (opW_rep (offB (dlB f b) p) hW hWm hWn hWl [] most)) (okE_opD 7 _) (by cases opW (offB (dlB f b) p) (wayL (dlB f b) p) [] most <;> rfl) (by decide)
      obtain ⟨s2, hs2⟩ : ∃ s2, (opD (opW (offB (dlB f b) p) (wayL (dlB f b) p) [] most)).pd.shown = s2 := ⟨_, rfl⟩
      rw [hs2] at ro
      have q2 := eqs51 s2
      have g15 : t51_15 (V51 x0 o4 (some (.dct [] [])) z3 (some (.val (.str S))) (some (.val (bD (dlB f b)))) (some (.val (bD (dlB f b)))) (some (.val (nmV b))) (some (.val (sD p))) (some (.val (pthD (pthW (offB (dlB f b) p) (wayL (dlB f b) p))))) (some (.val (.int most))) b unit) = .ok (.ret (.val (.bl true))) (V51 x0 o4 (some (.dct [] [])) z3 (some (.val (.str S))) (some (.val (bD (dlB f b)))) (some (.val (bD (dlB f b)))) (some (.val (nmV b))) (some (.val (sD p))) (some (.val (pthD (pthW (offB (dlB f b) p) (wayL (dlB f b) p))))) (some (.val (.int most))) b unit) := by
        unfold V51
        generalize opD (opW (offB (dlB f b) p) (wayL (dlB f b) p) [] most) = OP at *
        generalize pthD (pthW (offB (dlB f b) p) (wayL (dlB f b) p)) = PW at *
        generalize bD (dlB f b) = B2 at *
        generalize nmV b = NV at *
        generalize bD b = BB at *
        simp [t51_15, op, lo2, ro, q2]
      refine ⟨V51 x0 o4 (some (.dct [] [])) z3 (some (.val (.str S))) (some (.val (bD (dlB f b)))) (some (.val (bD (dlB f b)))) (some (.val (nmV b))) (some (.val (sD p))) (some (.val (pthD (pthW (offB (dlB f b) p) (wayL (dlB f b) p))))) (some (.val (.int most))) b unit, ?_⟩
      simp only [e_sqK, e_mSeq, g10, g11, g12, g13, g14, g15]
    · rw [decide_eq_false hq] at nt
      refine ⟨V51 x0 o2 (some (.dct [] [])) z3 (some (.val (.str S))) (some (.val (bD (dlB f b)))) (some (.val (bD (dlB f b)))) none none none none b unit, ?_⟩
      have g10 : t51_10 (V51 x0 o2 (some (.dct [] [])) z3 (some (.val (.str S))) (some (.val (bD (dlB f b)))) (some (.val (bD (dlB f b)))) none none none none b unit) = .ok (.ret (.val (.bl true))) (V51 x0 o2 (some (.dct [] [])) z3 (some (.val (.str S))) (some (.val (bD (dlB f b)))) (some (.val (bD (dlB f b)))) none none none none b unit) := by
        unfold V51
        generalize bD (dlB f b) = B2 at *
        generalize uD (loudO b) = UU at *
        generalize bD b = BB at *
        simp [t51_10, rb, n1, lo, nt, q1]
      rw [e_mSeq, g10]
      rfl
  obtain ⟨ρ, body⟩ := body
  refine ⟨[none], ?_⟩
  unfold F_law
  rw [runF_eq]
  rw [hx0] at body
  have body : b_law (E_law (some (.val (.scr ns)))) = .ok (.ret (.val (.bl true))) ρ := body
  simp [body]
  try first | rfl | exact ⟨rfl, rfl⟩

end Lw

open PySem PySem.W PySem.Calls PyProof.Rows in
set_option maxRecDepth 100000 in
set_option maxHeartbeats 0 in
theorem PySem.Challenge.cw_fuseboard_k51_boards_with_delays_holds : PySem.Challenge.rw_fuseboard_k51_boards_with_delays.Holds := by
  w_on; o_law
  refine HandSHeadRun.head_any (r := OpenLaw.row PySem.Challenge.rw_fuseboard_k51_boards_with_delays) (q := view (OpenLaw.row PySem.Challenge.rw_fuseboard_k51_boards_with_delays).prog [45]) (H := Wk.hk) (ob := Wk.ob) (M := 12000) (loose := Wk.loose) (d := HandSHeadRun.topDef (OpenLaw.row PySem.Challenge.rw_fuseboard_k51_boards_with_delays).prog 45) (kwd := []) Wk.ob_eq
    (by kernel_rfl) (fun s => by kernel_rfl) Wk.run (by kernel_rfl) (by kernel_rfl) (by kernel_rfl) (by rfl) (by first | assumption | decide +kernel) (by decide +kernel) ⟨rfl, rfl, rfl, rfl, rfl, by decide +kernel⟩ ?hw ?hc
  case hw => w_witness2
  case hc =>
    refine FB.walk_at (l := PySem.Challenge.rw_fuseboard_k51_boards_with_delays) (n := 63) (x := "_law_script") rfl (by decide) (by kernel_rfl) ?F
    intro w mg fa h Y G hmg0
    obtain ⟨K, KX, c⟩ := Y
    have hmg : mg ("law" : PySem.Str) = some (.ref fa) := by
      have e : (HandSHeadRun.topDef (OpenLaw.row PySem.Challenge.rw_fuseboard_k51_boards_with_delays).prog 45).name = ("law" : PySem.Str) := by kernel_rfl
      rw [← e]
      exact hmg0
    obtain ⟨fd, hb, hF⟩ := Wk.facts (P := (PySem.Challenge.rw_fuseboard_k51_boards_with_delays).prog) (w := w) KX G hmg c
    exact ⟨K, fd, _, KX, hb, fun H a ns hl hS => FB.law_end (Lw.law_true ns hl) hS, hF⟩
#print axioms PySem.Challenge.cw_fuseboard_k51_boards_with_delays_holds


