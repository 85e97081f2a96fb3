import PyProof.Rows.All
import Wide.All
import OpenK.AllK
import Wide.FinOn
import HandS.ForMost
import HandS.Wide
import HandS.TupAny
import HandS.Deep
import HandS.IsInst
import HandS.SortInts
import HandS.Sort
import KE.KSortedM
import HandS.Zip
import HandS.Rev
import HandS.Codes
import KE.KStateDown
import HandS.Head0
import HandS.Head1
import HandS.Head2
import HandS.HeadEnd
import HandS.HeadHook1
import HandS.HeadHook2
import HandS.Dict
import HandS.Text
import HandS.NoneIn
import HandS.ExcOwn
import HandS.ExcIs
import HandS.ExcField
import HandS.TryMany
import PyProof.EqKinds
import HandS.Iter
import HandS.TupMul
import PyProof.EnumMake
import PyProof.Draws
import HandS.ExcInit
import HandS.ClsMeth
import HandS.TupLe
import HandS.Style
import HandS.DictComp
import KE.DataMinMax
import PyProof.ReprRoads
import PyProof.ReprText
import PyProof.ReprLen
import PyProof.CallFns
import HandS.TryOnly
import HandS.Defaults
import KE.KEqNest
import HandS.Finally
import KE.KExcIs
import HandS.CallSlots
import HandS.FStr
import HandS.SortKw
import KE.SortData
import PyProof.ReprDict
import PySem.Challenge.RW_fuseboard_k13_bent_boards
set_option Elab.async false
set_option linter.all false
set_option maxRecDepth 100000
set_option maxHeartbeats 0
namespace FB
open PySem PySem.Spec L2
open PyProof.Rows hiding St

inductive D where
  | non
  | bl (b : Bool)
  | int (i : Int)
  | str (s : Str)
  | tup (ds : List D)
  | lst (ds : List D)
  | dct (ks : List Key) (ds : List D)
  | ins (c : Str) (ns : List Str) (ds : List D)
  /-- the script: a list of ints that is read alone -/
  | scr (ns : List Int)
  /-- a def of the file -/
  | fn (x : Str)
  deriving Inhabited

inductive O where
  | val (d : D)
  | lst (os : List O)
  | dct (ks : List Key) (os : List O)
  | ins (c : Str) (ns : List Str) (os : List O)
  deriving Inhabited

mutual
def O.toD : O → D
  | .val d => d
  | .lst os => .lst (O.toDs os)
  | .dct ks os => .dct ks (O.toDs os)
  | .ins c ns os => .ins c ns (O.toDs os)
def O.toDs : List O → List D
  | [] => []
  | o :: os => o.toD :: O.toDs os
end
mutual
inductive Vw (K : PySem.W.Frag) (mg : Str → Option Value) (G : Hp) : V → D → Prop
  | non : Vw K mg G .non .non
  | bl (b : Bool) : Vw K mg G (.bl b) (.bl b)
  | int (i : Int) : Vw K mg G (.int i) (.int i)
  | str (s : Str) : PyData.strOk s = true → Vw K mg G (.str s) (.str s)
  | tup {a : Addr} {xs : List V} {ds : List D} : SqT K G a xs → Vws K mg G xs ds → Vw K mg G (.ref a) (.tup ds)
  | lst {a : Addr} {xs : List V} {ds : List D} : Rd G a (.lst xs) → Vws K mg G xs ds → Vw K mg G (.ref a) (.lst ds)
  | scr {a : Addr} {ns : List Int} : SqL K G a (ns.map V.int) → Vw K mg G (.ref a) (.scr ns)
  | fn {a : Addr} {x : Str} : mg x = some (.ref a) → Vw K mg G (.ref a) (.fn x)
  | dct {a : Addr} {kvs : List (Key × V)} {ks : List Key} {ds : List D} : Rd G a (.dK kvs) → kvs.map (·.1) = ks ∧ ks.Nodup → Vws K mg G (kvs.map (·.2)) ds → Vw K mg G (.ref a) (.dct ks ds)
  | ins {a C dx : Addr} {fs : List (Str × V)} {c : Str} {ns : List Str} {ds : List D} : G a = some (.ins C dx fs) → mg c = some (.ref C) → fs.map (·.1) = ns → Vws K mg G (fs.map (·.2)) ds → Vw K mg G (.ref a) (.ins c ns ds)
inductive Vws (K : PySem.W.Frag) (mg : Str → Option Value) (G : Hp) : List V → List D → Prop
  | nil : Vws K mg G [] []
  | cons {v : V} {vs : List V} {d : D} {ds : List D} : Vw K mg G v d → Vws K mg G vs ds → Vws K mg G (v :: vs) (d :: ds)
end

section
variable {K : PySem.W.Frag} {mg : Str → Option Value}
mutual
inductive VO (K : PySem.W.Frag) (mg : Str → Option Value) (G H : Hp) : V → O → List Addr → Prop
  | val {v : V} {d : D} : Vw K mg G v d → VO K mg G H v (.val d) []
  | lst {p : Addr} {vs : List V} {os : List O} {as : List Addr} : H p = some (.lst vs) → VOs K mg G H vs os as → VO K mg G H (.ref p) (.lst os) (p :: as)
  | dct {p : Addr} {kvs : List (Key × V)} {ks : List Key} {os : List O} {as : List Addr} : H p = some (.dK kvs) → kvs.map (·.1) = ks ∧ ks.Nodup → VOs K mg G H (kvs.map (·.2)) os as → VO K mg G H (.ref p) (.dct ks os) (p :: as)
  | ins {p C dx : Addr} {fs : List (Str × V)} {c : Str} {ns : List Str} {os : List O} {as : List Addr} : H p = some (.ins C dx fs) → mg c = some (.ref C) → fs.map (·.1) = ns → VOs K mg G H (fs.map (·.2)) os as → VO K mg G H (.ref p) (.ins c ns os) (p :: as)
inductive VOs (K : PySem.W.Frag) (mg : Str → Option Value) (G H : Hp) : List V → List O → List Addr → Prop
  | nil : VOs K mg G H [] [] []
  | cons {v : V} {vs : List V} {o : O} {os : List O} {as bs : List Addr} : VO K mg G H v o as → VOs K mg G H vs os bs → VOs K mg G H (v :: vs) (o :: os) (as ++ bs)
end
inductive Item where
  | ov (v : V) (o : O)
  | raw (p : Addr) (h : HO)
  /-- a shared thing that is locked -/
  | pin (p : Addr) (od : Obj) (u : HO)
  /-- an item that knows nothing of what stands at d -/
  | but (d : Addr) (x : Item)
def ers (d : Addr) (G : Hp) : Hp := fun a => if a = d then none else G a
def hide (H : Hp) (A : List Addr) : Hp := fun a => if a ∈ A then none else H a
inductive IOk (K : PySem.W.Frag) (mg : Str → Option Value) : Hp → Hp → Item → List Addr → Prop
  | ov {G H : Hp} {v : V} {o : O} {as : List Addr} : VO K mg G H v o as → IOk K mg G H (.ov v o) as
  | raw {G H : Hp} {p : Addr} {h : HO} : H p = some h → IOk K mg G H (.raw p h) [p]
  | pin {G H : Hp} {p : Addr} {od : Obj} {u : HO} : G p = some (.frz od u) → IOk K mg G H (.pin p od u) []
  | but {G H : Hp} {d : Addr} {x : Item} {as : List Addr} : IOk K mg (ers d G) H x as → IOk K mg G H (.but d x) as
inductive IsOk (K : PySem.W.Frag) (mg : Str → Option Value) (G H : Hp) : List Item → List Addr → Prop
  | nil : IsOk K mg G H [] []
  | cons {x : Item} {L : List Item} {as bs : List Addr} : IOk K mg G H x as → IsOk K mg G H L bs → IsOk K mg G H (x :: L) (as ++ bs)
/-- the heap holds the items apart; B: what is borrowed from them, for the time being -/
def Rep (K : PySem.W.Frag) (mg : Str → Option Value) (H : Hp) (L : List Item) (B : List (V × O)) : Prop :=
  ∃ A : List Addr, A.Nodup ∧ IsOk K mg (hide H A) H L A ∧ ∀ b ∈ B, ∃ as, VO K mg (hide H A) H b.1 b.2 as ∧ ∀ a ∈ as, a ∈ A
def zipI (vs : List V) (os : List O) : List Item := List.zipWith Item.ov vs os
end
end FB

namespace FB
open PySem PySem.Spec L2
open PyProof.Rows hiding St

abbrev Env := List (Option O)
structure Exn where
  c : Str
  ns : List Str
  ds : List D
inductive Res (α : Type) where
  | ok (a : α) (ρ : Env)
  | exc (x : Exn) (ρ : Env)
  | no
abbrev M (α : Type) := Env → Res α
def pairs : St → Env → List Item
  | some v :: σ, some o :: ρ => .ov v o :: pairs σ ρ
  | _ :: σ, _ :: ρ => pairs σ ρ
  | _, _ => []
structure Cov (σ : St) (ρ : Env) : Prop where
  len : σ.length = ρ.length
  ex : ∀ (i : Nat) (o : O), ρ[i]? = some (some o) → ∃ v, σ[i]? = some (some v)
section
end
section
end

section
end

section
end
end FB

namespace FB
open PySem PySem.Spec L2
open PyProof.Rows hiding St

mutual
def D.pd : D → PyData
  | .non => .none
  | .bl b => .bool b
  | .int i => .int i
  | .str s => .str s
  | .tup ds => .tuple (D.pds ds)
  | .lst ds => .list (D.pds ds)
  | .dct _ _ => .dict []
  | .ins _ _ _ => .dict []
  | .scr _ => .dict []
  | .fn _ => .dict []
def D.pds : List D → List PyData
  | [] => []
  | d :: ds => d.pd :: D.pds ds
end
/-- no dict, no object, at most so deep -/
def D.okE : Nat → D → Bool
  | _, .non => true
  | _, .bl _ => true
  | _, .int _ => true
  | _, .str _ => true
  | 0, .tup _ => false
  | 0, .lst _ => false
  | n + 1, .tup ds => ds.all (D.okE n)
  | n + 1, .lst ds => ds.all (D.okE n)
  | _, .dct _ _ => false
  | _, .ins _ _ _ => false
  | _, .scr _ => false
  | _, .fn _ => false
section
end
def D.eqv (a b : D) : Bool := PyData.eqv a.pd b.pd

section
end
section
end

section
end
end FB

namespace FB
open PySem PySem.Spec L2
open PyProof.Rows hiding St

section
def eqO (a b : O) : Option O := if (a.toD.okE 9 && b.toD.okE 9) = true then some (.val (.bl (a.toD.eqv b.toD))) else none
end
end FB

namespace FB
open PySem PySem.Spec L2
open PyProof.Rows hiding St

section
end

section
inductive Arg where
  | v (m : M O)
  | io (i : Nat)
end
end FB

namespace FB
open PySem PySem.Spec L2
open PyProof.Rows hiding St

section
variable {X : Cx} {K : PySem.W.Frag} {mg : Str → Option Value}
/-- an own class under its name, with the attributes that its instances may have -/
structure CO (K : PySem.W.Frag) (mg : Str → Option Value) (c : Str) (C : Addr) (fs : List Str) : Prop where
  mgc : mg c = some (.ref C)
  cl : Cls K C
  no : ∀ f ∈ fs, NoAttr K C f
end
end FB

namespace FB
open PySem PySem.Spec L2
open PyProof.Rows hiding St

section
/-- the items of an exception that is held -/
def ExI (x : Exn) (d : Option Addr) (I : List Item) : Prop := (x.ds = [] ∧ d = none ∧ I = []) ∨ ∃ dd vs, x.ds ≠ [] ∧ d = some dd ∧ vs.length = x.ds.length ∧ x.ns.length = x.ds.length ∧ I = .raw dd (.xd (x.ns.zip vs)) :: zipI vs (x.ds.map O.val)
end

section
variable {P : Program} {w : World} {K : PySem.W.Frag} {mg : Str → Option Value} {base : Heap}
/-- a def that may be called by its name -/
structure CalX (P : Program) (w : World) (K : PySem.W.Frag) (mg : Str → Option Value) (base : Heap) (k : Nat) (x : Str) (sp : Sp) : Prop where
  ex : ∃ (f : Addr) (fd : FuncData) (ps : List Str), FnOk P w K mg base (L2.CX P w) k f fd ps sp ∧ mg x = some (.ref f) ∧ PySem.W.keepIn K (.ref f) = true ∧ Binds K fd ps []
end
section
end
end FB

namespace FB
open PySem PySem.Spec L2
open PyProof.Rows hiding St

def subB (x y : Str) : Bool := decide (x = y) || decide (y = ("BoardError" : Str))
structure ExAll (K : PySem.W.Frag) (mg : Str → Option Value) (es : List Str) : Prop where
  gl : ∀ x ∈ es, mg x = some (.ref (He.ga K x))
  cc : ∀ x ∈ es, ExcC K (He.ga K x)
  kt : ∀ x ∈ es, ∀ y ∈ es, PySem.W.kitOne K (.ref (He.ga K x)) (.ref (He.ga K y)) = some (subB x y)
  em : ∀ x ∈ es, ∀ y ∈ es, PySem.W.exmOne K (.ref (He.ga K x)) (.ref (He.ga K y)) = some (subB x y)
  kv : ∀ x ∈ es, PySem.W.kitOne K (.ref (He.ga K x)) (.type "ValueError") = some true
def excCB (K : PySem.W.Frag) (D : Addr) : Bool := decide (PySem.W.findIn K (.ref D) "__getattribute__" = some (some (.builtin "BaseException.__getattribute__"))) && (decide (PySem.W.findIn K (.ref D) "__getattr__" = some none) && (decide (PySem.W.subIn K (.ref D) (.type "BaseException") = some true) && (PySem.W.hasDictIn K D && (decide (PySem.W.findIn K (.ref D) "__class__" = some (some (.builtin "object.__class__"))) &&
  (decide (PySem.W.specialIn K (.builtin "object.__class__") "__get__" = some (some (.builtin "getset_descriptor.__get__"))) && (decide (PySem.W.takesIn K (.builtin "object.__class__") = some true) && decide (PySem.W.mroIn K D (.type "object") = some true)))))))
def exAllB (es : List Str) (K : PySem.W.Frag) : Bool := es.all fun x => He.eqO (PySem.W.nsIn K mainGlobals x) (some (some (.ref (He.ga K x)))) && (excCB K (He.ga K x) && (decide (PySem.W.kitOne K (.ref (He.ga K x)) (.type "ValueError") = some true) &&
  es.all fun y => decide (PySem.W.kitOne K (.ref (He.ga K x)) (.ref (He.ga K y)) = some (subB x y)) && decide (PySem.W.exmOne K (.ref (He.ga K x)) (.ref (He.ga K y)) = some (subB x y))))
def xfB2 (es cs : List Str) (f : Str) (K : PySem.W.Frag) : Bool := cs.all fun c => decide (c ∈ es) && decide (PySem.W.findIn K (.ref (He.ga K c)) f = some none)
def obsP (px : List (PySem.W.Frag → Bool)) (fa : List He.Fa) (fn : List He.DefD) (K : PySem.W.Frag) : He.AlD := (((He.obsD fa fn K).1 && px.all fun p => p K), (He.obsD fa fn K).2)
def SaysP (px : List (PySem.W.Frag → Bool)) (fa : List He.Fa) (fn : List He.DefD) (K : PySem.W.Frag) : Prop := obsP px fa fn K = He.valD fn
section
variable {X : Cx} {K : PySem.W.Frag} {mg : Str → Option Value} {P : List Nat} {W : WX}
variable {a : Addr} {i : Nat} {I : List Item}
variable {x : Exn} {cls : Value} {d : Option Addr} {oe : Obj} {pn : List (Addr × Obj)} {es : List Str}
/-- what a suite knows of the exception -/
structure Held (X : Cx) (es : List Str) (x : Exn) (I : List Item) (cls : Value) (d : Option Addr) (oe : Obj) : Prop where
  cl : X.mg x.c = some cls
  it : ExI x d I
  z : Zc cls d oe
  f : ∃ vs, oe.data = .fields vs
end

section
end

section
end
end FB

namespace FB
open PySem PySem.Spec L2
open PyProof.Rows hiding St

/-- what is looked at of such a class -/
def oexB (K : PySem.W.Frag) (C : Addr) : Bool := (match K.lookup C with
  | some ⟨.type "type", _, .cls cd, sl⟩ => (match cd.mro, sl.toList with
    | .ref C' :: bm, [_, _, _, _, some (.builtin n), _] => C' == C && n == "ValueError.__new__" && cd.hasDict && !cd.hasDel && PySem.HandSPX.refsVE bm
    | _, _ => false)
  | _ => false) && (decide (PySem.W.findIn K (.ref C) "__setattr__" = some (some (.builtin "object.__setattr__"))) && (decide (PySem.W.subIn K (.ref C) (.type "BaseException") = some true) && (decide (PySem.W.typeIn K (.ref C) = some (.type "type")) && PySem.W.keepIn K (.ref C))))
/-- the base whose __init__ is called -/
structure BaseC (K : PySem.W.Frag) (mg : Str → Option Value) (B : Str) : Prop where
  mg : mg B = some (.ref (He.ga K B))
  rd : PySem.W.readsIn K (He.ga K B) (.type "type") = true
  ga : PySem.W.specialIn K (.ref (He.ga K B)) "__getattribute__" = some (some (.builtin "type.__getattribute__"))
  at_ : PySem.W.findCls K (.ref (He.ga K B)) (.type "type") "__init__" = some (.val (.builtin "ValueError.__init__"))
def baseB (B : Str) (K : PySem.W.Frag) : Bool := He.eqO (PySem.W.nsIn K mainGlobals B) (some (some (.ref (He.ga K B)))) && (PySem.W.readsIn K (He.ga K B) (.type "type") && (decide (PySem.W.specialIn K (.ref (He.ga K B)) "__getattribute__" = some (some (.builtin "type.__getattribute__"))) &&
  (match PySem.W.findCls K (.ref (He.ga K B)) (.type "type") "__init__" with
    | some (.val (.builtin n)) => n == "ValueError.__init__"
    | _ => false)))
/-- .. and the class's own __init__ -/
def ownInitB (c : Str) (fs : List Str) (K : PySem.W.Frag) : Bool := oexB K (He.ga K c) && (He.eqO (PySem.W.nsIn K mainGlobals c) (some (some (.ref (He.ga K c)))) && (He.eqO (PySem.W.findIn K (.ref (He.ga K c)) "__init__") (some (some (.ref (He.ma K (He.ga K c) "__init__")))) &&
  (decide (PySem.W.typeIn K (.ref (He.ma K (He.ga K c) "__init__")) = some (.type "function")) && fs.all fun f => decide (PySem.W.findIn K (.ref (He.ga K c)) f = some none))))
structure OwnInit (K : PySem.W.Frag) (mg : Str → Option Value) (c : Str) (fs : List Str) : Prop where
  mg : mg c = some (.ref (He.ga K c))
  ox : OexC K (He.ga K c)
  ic : PySem.W.findIn K (.ref (He.ga K c)) "__init__" = some (some (.ref (He.ma K (He.ga K c) "__init__")))
  ti : PySem.W.typeIn K (.ref (He.ma K (He.ga K c) "__init__")) = some (.type "function")
  no : ∀ f ∈ fs, PySem.W.findIn K (.ref (He.ga K c)) f = some none
def obsSG (px : List (PySem.W.Frag → Bool)) (n : Nat) (fa : List He.Fa) (fn : List He.DefD) (g : Addr → Option Obj) : He.AlD := obsP px fa fn (He.frG g (He.asD g n ++ [cStatics]))
def hookS (px : List (PySem.W.Frag → Bool)) (n : Nat) (fa : List He.Fa) (fn : List He.DefD) : PySem.W.Hook where
  α := He.AlD
  obs := fun s => obsSG px n fa fn s.heap.get?
  val := fun _ => He.valD fn
  says := fun _ h => ∃ K : PySem.W.Frag, K.In h ∧ SaysP px fa fn K
  of := fun _ _ e => ⟨_, He.frG_in, e⟩
  keeps := fun _ _ _ ⟨K, hK, c⟩ k => ⟨K, PySem.W.Frag.In.keeps hK k, c⟩
section
/-- what an own __init__ of these fields does -/
def spI (C : Addr) (fs : List Str) : Sp := fun vs H Q _ => ∃ a ws, vs = .ref a :: ws ∧ ws.length = fs.length ∧ H a = some (exo a C none) ∧
  ∀ d H2, H d = none → d ≠ a → H2 a = some (exo a C (some d)) → H2 d = some (exd d (fs.zip ws).reverse) → (∀ b, b ≠ a → b ≠ d → H2 b = H b) → Q .non H2
end
section
variable {P : Program} {w : World} {K : PySem.W.Frag} {mg : Str → Option Value} {base : Heap}
/-- an own error with fields that may be raised -/
structure MkX (P : Program) (w : World) (K : PySem.W.Frag) (mg : Str → Option Value) (base : Heap) (c : Str) (fs : List Str) : Prop where
  ow : OwnInit K mg c fs
  ex : ∃ (fd : FuncData) (ps : List Str), FnOk P w K mg base C8.CX0 1 (He.ma K (He.ga K c) "__init__") fd ps (spI (He.ga K c) fs) ∧ Binds K fd ps []
end
section
end
section
end
end FB

namespace FB
open PySem PySem.Spec L2
open PyProof.Rows hiding St
section
/-- the dict at d stands, locked or not -/
structure LkS (d : Addr) (kvs : List (Key × V)) (G G' : Hp) : Prop where
  ne : ∀ a, a ≠ d → G' a = G a
  rd : Rd G d (.dK kvs)
  rd' : Rd G' d (.dK kvs)
end
end FB

namespace FB
open PySem PySem.Spec L2
open PyProof.Rows hiding St
inductive All2 {α β : Type} (P : α → β → Prop) : List α → List β → Prop
  | nil : All2 P [] []
  | cons {x : α} {y : β} {xs : List α} {ys : List β} : P x y → All2 P xs ys → All2 P (x :: xs) (y :: ys)
end FB

namespace FB
open PySem PySem.Spec L2
open PyProof.Rows hiding St
def Okc (x : Str) : Prop := ∀ c ∈ x.cps.toList, c < 1114112
section
end
end FB

namespace FB
open PySem PySem.Spec L2
open PyProof.Rows hiding St
section
variable {P : Program} {w : World} {K : PySem.W.Frag} {mg : Str → Option Value} {base : Heap}
/-- a class that may be made, its __init__ may raise -/
structure MakX (P : Program) (w : World) (K : PySem.W.Frag) (mg : Str → Option Value) (base : Heap) (k : Nat) (x : Str) (C : Addr) (sp : Sp) : Prop where
  ex : ∃ (f : Addr) (fd : FuncData) (ps : List Str), Mk K C f ∧ FnOk P w K mg base (L2.CX P w) k f fd ps sp ∧ mg x = some (.ref C) ∧ Binds K fd ps []
/-- .. a def with defaults -/
structure CalXN (P : Program) (w : World) (K : PySem.W.Frag) (mg : Str → Option Value) (base : Heap) (k : Nat) (x : Str) (sp : Sp) (dvs : List V) : Prop where
  ex : ∃ (f : Addr) (fd : FuncData) (ps : List Str) (ds : List Value), FnOk P w K mg base (L2.CX P w) k f fd ps sp ∧ mg x = some (.ref f) ∧ PySem.W.keepIn K (.ref f) = true ∧ Binds K fd ps ds ∧ Vals dvs ds
end
section
end
end FB

namespace FB
open PySem PySem.Spec L2
open PyProof.Rows hiding St
section
variable {P : Program} {w : World} {K : PySem.W.Frag} {mg : Str → Option Value} {base : Heap}
/-- a method that may raise -/
structure MetX (P : Program) (w : World) (K : PySem.W.Frag) (mg : Str → Option Value) (base : Heap) (k : Nat) (C : Addr) (m : Str) (sp : Sp) : Prop where
  ex : ∃ (f : Addr) (fd : FuncData) (ps : List Str), Cls K C ∧ Meth K C m f ∧ FnOk P w K mg base (L2.CX P w) k f fd ps sp ∧ Binds K fd ps []
end
section
end
end FB
namespace FB
open PySem PySem.Spec L2
open PyProof.Rows hiding St
section
end
end FB

namespace FB
open PySem PySem.Spec L2
open PyProof.Rows hiding St
section
variable {X : Cx} {K : PySem.W.Frag} {mg : Str → Option Value}
/-- a step down an own tree -/
inductive Stp where
  | fld (c f : Str)
  | key (k : Key)
inductive PathV (mg : Str → Option Value) (H : Hp) : V → List Stp → V → Prop
  | nil {v : V} : PathV mg H v [] v
  | fld {p C dx : Addr} {fs : List (Str × V)} {c f : Str} {u w : V} {ps : List Stp} : mg c = some (.ref C) → H p = some (.ins C dx fs) → fs.lookup f = some u → PathV mg H u ps w → PathV mg H (.ref p) (.fld c f :: ps) w
  | key {p : Addr} {kvs : List (Key × V)} {k : Key} {u w : V} {ps : List Stp} : H p = some (.dK kvs) → valV kvs k = some u → PathV mg H u ps w → PathV mg H (.ref p) (.key k :: ps) w
end
section
end
end FB

namespace FB
open PySem PySem.Spec L2
open PyProof.Rows hiding St
section
variable {X : Cx} {K : PySem.W.Frag} {mg : Str → Option Value}
def tKvs (K : PySem.W.Frag) (mg : Str → Option Value) (ks : List Str) (m : M (List O)) : L2.St → Hp → (List (V × V) → Hp → Prop) → Prop := fun σ H Q => ∃ ρ T os ρ', Cov σ ρ ∧ Rep K mg H (pairs σ ρ ++ T) [] ∧ m ρ = .ok os ρ' ∧ os.length = ks.length ∧ ∀ vs H', Cov σ ρ' → vs.length = os.length → Rep K mg H' (zipI vs os ++ (pairs σ ρ' ++ T)) [] → Q ((ks.map V.str).zip vs) H'
structure SDs (X : Cx) (pos : Pos) (keys : List (Option Expr)) (values : List Expr) (ks : List Str) (m : M (List O)) : Prop where
  tr : ∃ trs, PPs X pos keys values trs ∧ ∀ (σ : L2.St) (H : Hp) (Q : List (V × V) → Hp → Prop), tKvs X.K X.mg ks m σ H Q → tPairs trs σ H Q
  all : keys.all (·.isSome) = true
  len : keys.length = values.length
end
end FB

namespace FB
open PySem PySem.Spec L2
open PyProof.Rows hiding St
section
variable {P : Program} {w : World} {K : PySem.W.Frag} {mg : Str → Option Value} {base : Heap}
/-- what a def does where no text is being made -/
structure FnG (P : Program) (w : World) (K : PySem.W.Frag) (mg : Str → Option Value) (base : Heap) (k : Nat) (f : Addr) (fd : FuncData) (ps : List Str) (sp : Sp) : Prop where
  len : ∀ vs H Q E, sp vs H Q E → vs.length = ps.length
  run : ∀ (A : Around) (outer : List PySem.Env) (s : Shared) (H : Hp) (args : Args) (us : List Value) (vs : List V) (Q : VK) (E : XK), Room k A → A.guards = some [] → Env0 P w K mg base A outer s H → BindsTo s fd args (ps.zip us) → Vals vs us → sp vs H Q E →
    codeAny (model P w) A (.call (.ref f) args) (CR C8.CX0 outer P w H s Q E) s
structure CalG (P : Program) (w : World) (K : PySem.W.Frag) (mg : Str → Option Value) (base : Heap) (k : Nat) (x : Str) (sp : Sp) : Prop where
  ex : ∃ (f : Addr) (fd : FuncData) (ps : List Str), FnG P w K mg base k f fd ps sp ∧ mg x = some (.ref f) ∧ PySem.W.keepIn K (.ref f) = true ∧ Binds K fd ps []
end
section
end
end FB

namespace FB
open PySem PySem.Spec L2
open PyProof.Rows hiding St
section
/-- what is read of a value -/
structure RdN (h : Heap) (u : Value) (d : PyData) (n : Nat) (as : List Addr) : Prop where
  rd : Reads h u d as
  sm : sysModules ∉ as
  dp : d.depth ≤ n
  ok : Okc d.shown
structure RdNs (h : Heap) (us : List Value) (ds : List PyData) (n : Nat) (as : List Addr) : Prop where
  rd : ReadsAll h us ds as
  sm : sysModules ∉ as
  dp : PyData.depthAll ds ≤ n
  ok : ∀ d ∈ ds, Okc d.shown
end
end FB

namespace FB
open PySem PySem.Spec L2
open PyProof.Rows hiding St
section
end
section
/-- what is known of a tuple's object -/
structure TupA (P : Program) (w : World) (h : Heap) (a : Addr) (ps : List PyData) (n : Nat) (as bs : List Addr) (o : Obj) (its : Array Value) (m : Nat) : Prop where
  ho : h.get? a = some o
  hd : o.data = .seq its m
  rd : ReadsAll h its.toList ps as
  dp : PyData.depthAll ps ≤ n + 1
  okc : ∀ p ∈ ps, Okc p.shown
  na : a ∉ bs
  am : ReadAtMost h (PyData.depthAll ps) bs
  k : ReprAllK P w bs h (PyData.depthAll ps) its.toList (PyData.shownAll ps)
end
end FB

namespace Wk
open PySem PySem.Spec L2 FB
open PyProof.Rows hiding St
def top (i : Nat) : Stmt := PySem.Challenge.pw_fuseboard_k13_bent_boards.main.body.getD i (.Pass ⟨0, 0, 0, 0⟩)
abbrev es : List Str := ["BoardError", "NoBoard", "NoText", "NoPlace", "NoDeed"]
structure Fr (K : PySem.W.Frag) (mg : Str → Option Value) : Prop where
  n_ : True
  ex : ExAll K mg es
  xf_number : ∀ c ∈ (["NoBoard"] : List Str), c ∈ es ∧ PySem.W.findIn K (.ref (He.ga K c)) "number" = some none
  xf_word : ∀ c ∈ (["NoBoard"] : List Str), c ∈ es ∧ PySem.W.findIn K (.ref (He.ga K c)) "word" = some none
  n_ValueError : mg "ValueError" = none
  n_all : mg "all" = none
  n_bool : mg "bool" = none
  n_dict : mg "dict" = none
  n_enumerate : mg "enumerate" = none
  n_int : mg "int" = none
  n_isinstance : mg "isinstance" = none
  n_len : mg "len" = none
  n_list : mg "list" = none
  n_range : mg "range" = none
  n_repr : mg "repr" = none
  n_str : mg "str" = none
  n_tuple : mg "tuple" = none
  n_zip : mg "zip" = none
  k_MOST : ∃ u, mg "MOST" = some u ∧ RelV (.int 1000000000000000000000000000000000000000000000000000000000000) u
  k_MOST_DEEP : ∃ u, mg "MOST_DEEP" = some u ∧ RelV (.int 8) u
  k_MOST_GUARDS : ∃ u, mg "MOST_GUARDS" = some u ∧ RelV (.int 16) u
  k_MOST_LETTERS : ∃ u, mg "MOST_LETTERS" = some u ∧ RelV (.int 8) u
  k_MOST_LOADS : ∃ u, mg "MOST_LOADS" = some u ∧ RelV (.int 24) u
  k_MOST_STEPS : ∃ u, mg "MOST_STEPS" = some u ∧ RelV (.int 5) u
  k_MOST_STRETCHES : ∃ u, mg "MOST_STRETCHES" = some u ∧ RelV (.int 4) u
  k_LETTERS : ∃ u, mg "LETTERS" = some u ∧ RelV (.str "abcdefghijklmnopqrstuvwxyz") u
abbrev s__law_cell_at : Stmt := top 29
abbrev s__law_feed : Stmt := top 30
abbrev s__law_take : Stmt := top 31
abbrev s__law_names : Stmt := top 34
abbrev s__law_begin : Stmt := top 32
abbrev s__law_number : Stmt := top 33
abbrev s__law_steps : Stmt := top 35
abbrev s__law_guards : Stmt := top 36
abbrev s__law_loads : Stmt := top 37
abbrev s__law_board : Stmt := top 38
abbrev s_is_whole : Stmt := top 3
abbrev s_is_number : Stmt := top 4
abbrev s_is_pair : Stmt := top 5
abbrev s_is_curve : Stmt := top 6
abbrev s_is_name : Stmt := top 20
abbrev s_is_guard : Stmt := top 22
abbrev s_chain : Stmt := top 24
abbrev s_guard_fits : Stmt := top 25
abbrev s_is_course : Stmt := top 21
abbrev s_is_load : Stmt := top 23
abbrev s_load_fits : Stmt := top 26
abbrev s_looked : Stmt := top 27
abbrev s__law_is_number : Stmt := top 39
abbrev s__law_is_name : Stmt := top 40
abbrev s__law_are_pairs : Stmt := top 41
abbrev s__law_is_curve : Stmt := top 42
abbrev s__law_row_right : Stmt := top 43
abbrev s__law_due : Stmt := top 44
abbrev s__law_right : Stmt := top 45
abbrev s__law_odd : Stmt := top 46
abbrev s__law_bent : Stmt := top 47
abbrev s__law_topped : Stmt := top 48
abbrev s_law : Stmt := top 49
abbrev s_NoBoard___init__ : Stmt := (C8.clsBody (top 9)).getD 0 (.Pass ⟨0, 0, 0, 0⟩)
section
end
def d__law_cell_at : He.DefD := ⟨("_law_cell_at", none), "_law_cell_at", "_law_cell_at", C8.fnArgs s__law_cell_at, C8.fnBody s__law_cell_at, C8.fnScope s__law_cell_at, [], []⟩
def d__law_feed : He.DefD := ⟨("_law_feed", none), "_law_feed", "_law_feed", C8.fnArgs s__law_feed, C8.fnBody s__law_feed, C8.fnScope s__law_feed, [], []⟩
def d__law_take : He.DefD := ⟨("_law_take", none), "_law_take", "_law_take", C8.fnArgs s__law_take, C8.fnBody s__law_take, C8.fnScope s__law_take, [], []⟩
def d__law_names : He.DefD := ⟨("_law_names", none), "_law_names", "_law_names", C8.fnArgs s__law_names, C8.fnBody s__law_names, C8.fnScope s__law_names, [], []⟩
def d__law_begin : He.DefD := ⟨("_law_begin", none), "_law_begin", "_law_begin", C8.fnArgs s__law_begin, C8.fnBody s__law_begin, C8.fnScope s__law_begin, [], []⟩
def d__law_number : He.DefD := ⟨("_law_number", none), "_law_number", "_law_number", C8.fnArgs s__law_number, C8.fnBody s__law_number, C8.fnScope s__law_number, [], []⟩
def d__law_steps : He.DefD := ⟨("_law_steps", none), "_law_steps", "_law_steps", C8.fnArgs s__law_steps, C8.fnBody s__law_steps, C8.fnScope s__law_steps, [], []⟩
def d__law_guards : He.DefD := ⟨("_law_guards", none), "_law_guards", "_law_guards", C8.fnArgs s__law_guards, C8.fnBody s__law_guards, C8.fnScope s__law_guards, [], []⟩
def d__law_loads : He.DefD := ⟨("_law_loads", none), "_law_loads", "_law_loads", C8.fnArgs s__law_loads, C8.fnBody s__law_loads, C8.fnScope s__law_loads, [], []⟩
def d__law_board : He.DefD := ⟨("_law_board", none), "_law_board", "_law_board", C8.fnArgs s__law_board, C8.fnBody s__law_board, C8.fnScope s__law_board, [], []⟩
def d_is_whole : He.DefD := ⟨("is_whole", none), "is_whole", "is_whole", C8.fnArgs s_is_whole, C8.fnBody s_is_whole, C8.fnScope s_is_whole, [], []⟩
def d_is_number : He.DefD := ⟨("is_number", none), "is_number", "is_number", C8.fnArgs s_is_number, C8.fnBody s_is_number, C8.fnScope s_is_number, [], []⟩
def d_is_pair : He.DefD := ⟨("is_pair", none), "is_pair", "is_pair", C8.fnArgs s_is_pair, C8.fnBody s_is_pair, C8.fnScope s_is_pair, [], []⟩
def d_is_curve : He.DefD := ⟨("is_curve", none), "is_curve", "is_curve", C8.fnArgs s_is_curve, C8.fnBody s_is_curve, C8.fnScope s_is_curve, [], []⟩
def d_is_name : He.DefD := ⟨("is_name", none), "is_name", "is_name", C8.fnArgs s_is_name, C8.fnBody s_is_name, C8.fnScope s_is_name, [], []⟩
def d_is_guard : He.DefD := ⟨("is_guard", none), "is_guard", "is_guard", C8.fnArgs s_is_guard, C8.fnBody s_is_guard, C8.fnScope s_is_guard, [], []⟩
def d_chain : He.DefD := ⟨("chain", none), "chain", "chain", C8.fnArgs s_chain, C8.fnBody s_chain, C8.fnScope s_chain, [], []⟩
def d_guard_fits : He.DefD := ⟨("guard_fits", none), "guard_fits", "guard_fits", C8.fnArgs s_guard_fits, C8.fnBody s_guard_fits, C8.fnScope s_guard_fits, [], []⟩
def d_is_course : He.DefD := ⟨("is_course", none), "is_course", "is_course", C8.fnArgs s_is_course, C8.fnBody s_is_course, C8.fnScope s_is_course, [], []⟩
def d_is_load : He.DefD := ⟨("is_load", none), "is_load", "is_load", C8.fnArgs s_is_load, C8.fnBody s_is_load, C8.fnScope s_is_load, [], []⟩
def d_load_fits : He.DefD := ⟨("load_fits", none), "load_fits", "load_fits", C8.fnArgs s_load_fits, C8.fnBody s_load_fits, C8.fnScope s_load_fits, [], []⟩
def d_looked : He.DefD := ⟨("looked", none), "looked", "looked", C8.fnArgs s_looked, C8.fnBody s_looked, C8.fnScope s_looked, [], []⟩
def d__law_is_number : He.DefD := ⟨("_law_is_number", none), "_law_is_number", "_law_is_number", C8.fnArgs s__law_is_number, C8.fnBody s__law_is_number, C8.fnScope s__law_is_number, [], []⟩
def d__law_is_name : He.DefD := ⟨("_law_is_name", none), "_law_is_name", "_law_is_name", C8.fnArgs s__law_is_name, C8.fnBody s__law_is_name, C8.fnScope s__law_is_name, [], []⟩
def d__law_are_pairs : He.DefD := ⟨("_law_are_pairs", none), "_law_are_pairs", "_law_are_pairs", C8.fnArgs s__law_are_pairs, C8.fnBody s__law_are_pairs, C8.fnScope s__law_are_pairs, [], []⟩
def d__law_is_curve : He.DefD := ⟨("_law_is_curve", none), "_law_is_curve", "_law_is_curve", C8.fnArgs s__law_is_curve, C8.fnBody s__law_is_curve, C8.fnScope s__law_is_curve, [], []⟩
def d__law_row_right : He.DefD := ⟨("_law_row_right", none), "_law_row_right", "_law_row_right", C8.fnArgs s__law_row_right, C8.fnBody s__law_row_right, C8.fnScope s__law_row_right, [], []⟩
def d__law_due : He.DefD := ⟨("_law_due", none), "_law_due", "_law_due", C8.fnArgs s__law_due, C8.fnBody s__law_due, C8.fnScope s__law_due, [], []⟩
def d__law_right : He.DefD := ⟨("_law_right", none), "_law_right", "_law_right", C8.fnArgs s__law_right, C8.fnBody s__law_right, C8.fnScope s__law_right, [], []⟩
def d__law_odd : He.DefD := ⟨("_law_odd", none), "_law_odd", "_law_odd", C8.fnArgs s__law_odd, C8.fnBody s__law_odd, C8.fnScope s__law_odd, [], []⟩
def d__law_bent : He.DefD := ⟨("_law_bent", none), "_law_bent", "_law_bent", C8.fnArgs s__law_bent, C8.fnBody s__law_bent, C8.fnScope s__law_bent, [], []⟩
def d__law_topped : He.DefD := ⟨("_law_topped", none), "_law_topped", "_law_topped", C8.fnArgs s__law_topped, C8.fnBody s__law_topped, C8.fnScope s__law_topped, [], []⟩
def d_law : He.DefD := ⟨("law", none), "law", "law", C8.fnArgs s_law, C8.fnBody s_law, C8.fnScope s_law, [], []⟩
def d_NoBoard___init__ : He.DefD := ⟨("NoBoard", some "__init__"), "__init__", "NoBoard.__init__", C8.fnArgs s_NoBoard___init__, C8.fnBody s_NoBoard___init__, C8.fnScope s_NoBoard___init__, [], []⟩
def fn : List He.DefD := [d__law_cell_at, d__law_feed, d__law_take, d__law_names, d__law_begin, d__law_number, d__law_steps, d__law_guards, d__law_loads, d__law_board, d_is_whole, d_is_number, d_is_pair, d_is_curve, d_is_name, d_is_guard, d_chain, d_guard_fits, d_is_course, d_is_load, d_load_fits, d_looked, d__law_is_number, d__law_is_name, d__law_are_pairs, d__law_is_curve, d__law_row_right, d__law_due, d__law_right, d__law_odd, d__law_bent, d__law_topped, d_law, d_NoBoard___init__]
def fa : List He.Fa := [.glo "_law_cell_at", .glo "_law_feed", .glo "_law_take", .glo "_law_names", .glo "_law_begin", .glo "_law_number", .glo "_law_steps", .glo "_law_guards", .glo "_law_loads", .glo "_law_board", .glo "is_whole", .glo "is_number", .glo "is_pair", .glo "is_curve", .glo "is_name", .glo "is_guard", .glo "chain", .glo "guard_fits", .glo "is_course", .glo "is_load", .glo "load_fits", .glo "looked", .glo "_law_is_number", .glo "_law_is_name", .glo "_law_are_pairs", .glo "_law_is_curve", .glo "_law_row_right", .glo "_law_due", .glo "_law_right", .glo "_law_odd", .glo "_law_bent", .glo "_law_topped", .glo "law", .free "ValueError", .free "all", .free "bool", .free "dict", .free "enumerate", .free "int", .free "isinstance", .free "len", .free "list", .free "range", .free "repr", .free "str", .free "tuple", .free "zip", .int "MOST" 1000000000000000000000000000000000000000000000000000000000000, .int "MOST_DEEP" 8, .int "MOST_GUARDS" 16, .int "MOST_LETTERS" 8, .int "MOST_LOADS" 24, .int "MOST_STEPS" 5, .int "MOST_STRETCHES" 4, .str "LETTERS" "abcdefghijklmnopqrstuvwxyz"]
abbrev R : PySem.W.OpenRow := PySem.W.OpenLaw.row PySem.Challenge.rw_fuseboard_k13_bent_boards
def px : List (PySem.W.Frag → Bool) := [exAllB es, xfB2 es ["NoBoard"] "number", xfB2 es ["NoBoard"] "word", ownInitB "NoBoard" ["word", "number"], baseB "BoardError"]
def hk : PySem.W.Hook := hookS px 6 fa fn
def ob (s : PySem.W.SharedT) : He.AlD := obsSG px 6 fa fn (HandSHeadRun.getT s)
def loose : List PySem.Str := ([("__name__" : PySem.Str), ("MOST" : PySem.Str), ("MOST_STEPS" : PySem.Str), ("is_whole" : PySem.Str), ("is_number" : PySem.Str), ("is_pair" : PySem.Str), ("is_curve" : PySem.Str), ("BoardError" : PySem.Str), ("NoBoard" : PySem.Str), ("NoText" : PySem.Str), ("NoPlace" : PySem.Str), ("NoDeed" : PySem.Str), ("LETTERS" : PySem.Str), ("MOST_LETTERS" : PySem.Str), ("MOST_GUARDS" : PySem.Str), ("MOST_LOADS" : PySem.Str), ("MOST_DEEP" : PySem.Str), ("MOST_STRETCHES" : PySem.Str), ("is_name" : PySem.Str), ("is_course" : PySem.Str), ("is_guard" : PySem.Str), ("is_load" : PySem.Str), ("chain" : PySem.Str), ("guard_fits" : PySem.Str), ("load_fits" : PySem.Str), ("looked" : PySem.Str), ("_law_cell_at" : PySem.Str), ("_law_feed" : PySem.Str), ("_law_take" : PySem.Str), ("_law_begin" : PySem.Str), ("_law_number" : PySem.Str), ("_law_names" : PySem.Str), ("_law_steps" : PySem.Str), ("_law_guards" : PySem.Str), ("_law_loads" : PySem.Str), ("_law_board" : PySem.Str), ("_law_is_number" : PySem.Str), ("_law_is_name" : PySem.Str), ("_law_are_pairs" : PySem.Str), ("_law_is_curve" : PySem.Str)] : List PySem.Str) ++ ([("LETTERS" : PySem.Str), ("MOST_LETTERS" : PySem.Str), ("MOST_GUARDS" : PySem.Str), ("MOST_LOADS" : PySem.Str), ("MOST_DEEP" : PySem.Str), ("MOST_STRETCHES" : PySem.Str), ("is_name" : PySem.Str), ("is_course" : PySem.Str), ("is_guard" : PySem.Str), ("is_load" : PySem.Str), ("chain" : PySem.Str), ("guard_fits" : PySem.Str), ("load_fits" : PySem.Str), ("looked" : PySem.Str), ("_law_cell_at" : PySem.Str), ("_law_feed" : PySem.Str), ("_law_take" : PySem.Str), ("_law_begin" : PySem.Str), ("_law_number" : PySem.Str), ("_law_names" : PySem.Str), ("_law_steps" : PySem.Str), ("_law_guards" : PySem.Str), ("_law_loads" : PySem.Str), ("_law_board" : PySem.Str), ("_law_is_number" : PySem.Str), ("_law_is_name" : PySem.Str), ("_law_are_pairs" : PySem.Str), ("_law_is_curve" : PySem.Str), ("_law_row_right" : PySem.Str), ("_law_due" : PySem.Str), ("_law_right" : PySem.Str), ("_law_odd" : PySem.Str), ("_law_bent" : PySem.Str), ("_law_topped" : PySem.Str)] : List PySem.Str) ++ ([("load_fits" : PySem.Str), ("looked" : PySem.Str), ("_law_cell_at" : PySem.Str), ("_law_feed" : PySem.Str), ("_law_take" : PySem.Str), ("_law_begin" : PySem.Str), ("_law_number" : PySem.Str), ("_law_names" : PySem.Str), ("_law_steps" : PySem.Str), ("_law_guards" : PySem.Str), ("_law_loads" : PySem.Str), ("_law_board" : PySem.Str), ("_law_is_number" : PySem.Str), ("_law_is_name" : PySem.Str), ("_law_are_pairs" : PySem.Str), ("_law_is_curve" : PySem.Str), ("_law_row_right" : PySem.Str), ("_law_due" : PySem.Str), ("_law_right" : PySem.Str), ("_law_odd" : PySem.Str), ("_law_bent" : PySem.Str), ("_law_topped" : PySem.Str)] : List PySem.Str) ++ ([("_law_is_number" : PySem.Str), ("_law_is_name" : PySem.Str), ("_law_are_pairs" : PySem.Str), ("_law_is_curve" : PySem.Str), ("_law_row_right" : PySem.Str), ("_law_due" : PySem.Str), ("_law_right" : PySem.Str), ("_law_odd" : PySem.Str), ("_law_bent" : PySem.Str), ("_law_topped" : PySem.Str)] : List PySem.Str)
theorem run (w : World) : HandSHeadRun.RunEq R (PySem.W.view R.prog [49]) hk ob 12000 loose w := by
  intro os
  kernel_rfl
end Wk

/-! Data trees (D: shared, never changed; O: owned, may be changed) and what it means that a heap holds them. -/
namespace FB
open PySem PySem.Spec L2
open PyProof.Rows hiding St

theorem toDs_map : ∀ os : List O, O.toDs os = os.map O.toD
  | [] => rfl
  | o :: os => by show o.toD :: O.toDs os = _; rw [toDs_map os]; rfl
theorem toDs_vals : ∀ ds : List D, O.toDs (ds.map O.val) = ds
  | [] => rfl
  | d :: ds => by show d :: O.toDs (ds.map O.val) = _; rw [toDs_vals ds]

/-! ### what a heap shows -/

theorem sameNew {H : Hp} {p : Addr} {o : HO} (h : H p = none) : Same H (upd H p o) := fun a u e => by rw [upd_ne (ne_of_none e h)]; exact e
theorem Same.rd {H H' : Hp} {a : Addr} {u : HO} (e : Same H H') (h : Rd H a u) : Rd H' a u := by
  rcases h with h | ⟨o, h⟩
  · exact .inl (e _ _ h)
  · exact .inr ⟨o, e _ _ h⟩
theorem Same.seqT {K : PySem.W.Frag} {H H' : Hp} {a : Addr} {xs : List V} (e : Same H H') (h : SqT K H a xs) : SqT K H' a xs := by
  rcases h with h | h
  · exact .inl (FB.Same.rd e h)
  · exact .inr h

section
variable {K : PySem.W.Frag} {mg : Str → Option Value}
mutual
theorem Vw.mono {G G' : Hp} (e : Same G G') : ∀ {v : V} {d : D}, Vw K mg G v d → Vw K mg G' v d
  | _, _, .non => .non
  | _, _, .bl b => .bl b
  | _, _, .int i => .int i
  | _, _, .str s h => .str s h
  | _, _, .tup h hs => .tup (FB.Same.seqT e h) (Vws.mono e hs)
  | _, _, .lst h hs => .lst (FB.Same.rd e h) (Vws.mono e hs)
  | _, _, .scr h => .scr (Same.seq e h)
  | _, _, .fn h => .fn h
  | _, _, .dct h hk hs => .dct (FB.Same.rd e h) hk (Vws.mono e hs)
  | _, _, .ins h hm hn hs => .ins (e _ _ h) hm hn (Vws.mono e hs)
theorem Vws.mono {G G' : Hp} (e : Same G G') : ∀ {vs : List V} {ds : List D}, Vws K mg G vs ds → Vws K mg G' vs ds
  | _, _, .nil => .nil
  | _, _, .cons h t => .cons (Vw.mono e h) (Vws.mono e t)
end
theorem Vws.length {G : Hp} : ∀ {vs : List V} {ds : List D}, Vws K mg G vs ds → vs.length = ds.length
  | _, _, .nil => rfl
  | _, _, .cons _ t => by simp [Vws.length t]
theorem Vws.get {G : Hp} : ∀ {vs : List V} {ds : List D} {i : Nat} {d : D}, Vws K mg G vs ds → ds[i]? = some d → ∃ v, vs[i]? = some v ∧ Vw K mg G v d
  | _, _, _, _, .nil, e => by simp at e
  | _, _, 0, _, .cons h _, e => by simp at e; subst e; exact ⟨_, rfl, h⟩
  | _, _, i + 1, _, .cons _ t, e => by
    obtain ⟨v, h1, h2⟩ := Vws.get (i := i) t (by simpa using e)
    exact ⟨v, by simpa using h1, h2⟩
theorem Vws.append {G : Hp} : ∀ {vs ws : List V} {ds es : List D}, Vws K mg G vs ds → Vws K mg G ws es → Vws K mg G (vs ++ ws) (ds ++ es)
  | _, _, _, _, .nil, h => h
  | _, _, _, _, .cons h t, q => .cons h (Vws.append t q)
theorem Vws.take {G : Hp} : ∀ {vs : List V} {ds : List D} (n : Nat), Vws K mg G vs ds → Vws K mg G (vs.take n) (ds.take n)
  | _, _, 0, _ => by simp; exact .nil
  | _, _, _ + 1, .nil => .nil
  | _, _, n + 1, .cons h t => .cons h (Vws.take n t)
theorem Vws.drop {G : Hp} : ∀ {vs : List V} {ds : List D} (n : Nat), Vws K mg G vs ds → Vws K mg G (vs.drop n) (ds.drop n)
  | _, _, 0, h => h
  | _, _, _ + 1, .nil => .nil
  | _, _, n + 1, .cons _ t => Vws.drop n t
theorem Vws.reverse {G : Hp} : ∀ {vs : List V} {ds : List D}, Vws K mg G vs ds → Vws K mg G vs.reverse ds.reverse
  | _, _, .nil => .nil
  | _, _, .cons h t => by
    rw [List.reverse_cons, List.reverse_cons]
    exact Vws.append (Vws.reverse t) (.cons h .nil)
theorem Vws.set {G : Hp} {x : V} {e : D} (h : Vw K mg G x e) : ∀ {vs : List V} {ds : List D} (n : Nat), Vws K mg G vs ds → Vws K mg G (vs.set n x) (ds.set n e)
  | _, _, _, .nil => .nil
  | _, _, 0, .cons _ t => .cons h t
  | _, _, n + 1, .cons q t => .cons q (Vws.set h n t)
theorem Vws.ints {G : Hp} : ∀ ns : List Int, Vws K mg G (ns.map V.int) (ns.map D.int)
  | [] => .nil
  | n :: ns => .cons (.int n) (Vws.ints ns)

/-! ### owned trees -/
mutual
theorem VO.mono {G G' H H' : Hp} (e : Same G G') : ∀ {v : V} {o : O} {as : List Addr}, VO K mg G H v o as → (∀ a ∈ as, H' a = H a) → VO K mg G' H' v o as
  | _, _, _, .val h, _ => .val (h.mono e)
  | _, _, _, .lst h hs, q => .lst ((q _ (by simp)).trans h) (VOs.mono e hs fun a ha => q a (by simp [ha]))
  | _, _, _, .dct h hk hs, q => .dct ((q _ (by simp)).trans h) hk (VOs.mono e hs fun a ha => q a (by simp [ha]))
  | _, _, _, .ins h hm hn hs, q => .ins ((q _ (by simp)).trans h) hm hn (VOs.mono e hs fun a ha => q a (by simp [ha]))
theorem VOs.mono {G G' H H' : Hp} (e : Same G G') : ∀ {vs : List V} {os : List O} {as : List Addr}, VOs K mg G H vs os as → (∀ a ∈ as, H' a = H a) → VOs K mg G' H' vs os as
  | _, _, _, .nil, _ => .nil
  | _, _, _, .cons h t, q => .cons (VO.mono e h fun a ha => q a (by simp [ha])) (VOs.mono e t fun a ha => q a (by simp [ha]))
end
mutual
theorem VO.frz {G G' H : Hp} (e : Same G G') : ∀ {v : V} {o : O} {as : List Addr}, VO K mg G H v o as → (∀ a ∈ as, G' a = H a) → Vw K mg G' v o.toD
  | _, _, _, .val h, _ => h.mono e
  | _, _, _, .lst h hs, q => .lst (.inl ((q _ (by simp)).trans h)) (VOs.frz e hs fun a ha => q a (by simp [ha]))
  | _, _, _, .dct h hk hs, q => .dct (.inl ((q _ (by simp)).trans h)) hk (VOs.frz e hs fun a ha => q a (by simp [ha]))
  | _, _, _, .ins h hm hn hs, q => .ins ((q _ (by simp)).trans h) hm hn (VOs.frz e hs fun a ha => q a (by simp [ha]))
theorem VOs.frz {G G' H : Hp} (e : Same G G') : ∀ {vs : List V} {os : List O} {as : List Addr}, VOs K mg G H vs os as → (∀ a ∈ as, G' a = H a) → Vws K mg G' vs (O.toDs os)
  | _, _, _, .nil, _ => .nil
  | _, _, _, .cons h t, q => .cons (VO.frz e h fun a ha => q a (by simp [ha])) (VOs.frz e t fun a ha => q a (by simp [ha]))
end
mutual
theorem VO.dom {G H : Hp} : ∀ {v : V} {o : O} {as : List Addr}, VO K mg G H v o as → ∀ a ∈ as, ∃ u, H a = some u
  | _, _, _, .val _, a, ha => by simp at ha
  | _, _, _, .lst h hs, a, ha => by
    rcases List.mem_cons.mp ha with e | ha
    · exact ⟨_, e ▸ h⟩
    · exact VOs.dom hs a ha
  | _, _, _, .dct h hk hs, a, ha => by
    rcases List.mem_cons.mp ha with e | ha
    · exact ⟨_, e ▸ h⟩
    · exact VOs.dom hs a ha
  | _, _, _, .ins h hm hn hs, a, ha => by
    rcases List.mem_cons.mp ha with e | ha
    · exact ⟨_, e ▸ h⟩
    · exact VOs.dom hs a ha
theorem VOs.dom {G H : Hp} : ∀ {vs : List V} {os : List O} {as : List Addr}, VOs K mg G H vs os as → ∀ a ∈ as, ∃ u, H a = some u
  | _, _, _, .nil, a, ha => by simp at ha
  | _, _, _, .cons h t, a, ha => by
    rcases List.mem_append.mp ha with ha | ha
    · exact VO.dom h a ha
    · exact VOs.dom t a ha
end
theorem VOs.length {G H : Hp} : ∀ {vs : List V} {os : List O} {as : List Addr}, VOs K mg G H vs os as → vs.length = os.length
  | _, _, _, .nil => rfl
  | _, _, _, .cons _ t => by simp [VOs.length t]
theorem VOs.get {G H : Hp} : ∀ {vs : List V} {os : List O} {as : List Addr} {i : Nat} {o : O}, VOs K mg G H vs os as → os[i]? = some o → ∃ v bs, vs[i]? = some v ∧ VO K mg G H v o bs
  | _, _, _, _, _, .nil, e => by simp at e
  | _, _, _, 0, _, .cons h _, e => by simp at e; subst e; exact ⟨_, _, rfl, h⟩
  | _, _, _, i + 1, _, .cons _ t, e => by
    obtain ⟨v, bs, h1, h2⟩ := VOs.get (i := i) t (by simpa using e)
    exact ⟨v, bs, by simpa using h1, h2⟩
theorem VOs.vals {G H : Hp} : ∀ {vs : List V} {ds : List D}, Vws K mg G vs ds → VOs K mg G H vs (ds.map O.val) []
  | _, _, .nil => .nil
  | _, _, .cons h t => .cons (as := []) (.val h) (VOs.vals t)
theorem VOs.of_vals {G H : Hp} : ∀ {vs : List V} {ds : List D} {as : List Addr}, VOs K mg G H vs (ds.map O.val) as → Vws K mg G vs ds ∧ as = []
  | _, [], _, .nil => ⟨.nil, rfl⟩
  | _, d :: ds, _, .cons (.val h) t => by
    obtain ⟨q, e⟩ := VOs.of_vals (ds := ds) t
    subst e
    exact ⟨.cons h q, rfl⟩

/-! ### items, and a heap that holds them apart -/
theorem ers_ne {d a : Addr} {G : Hp} (h : a ≠ d) : ers d G a = G a := if_neg h
theorem ers_some {d a : Addr} {G : Hp} {o : HO} (h : ers d G a = some o) : a ≠ d ∧ G a = some o := by
  by_cases e : a = d
  · unfold ers at h; rw [if_pos e] at h; cases h
  · exact ⟨e, by rw [ers_ne e] at h; exact h⟩
theorem ers_same {d : Addr} {G G' : Hp} (h : Same G G') : Same (ers d G) (ers d G') := fun a o e => by
  obtain ⟨h1, h2⟩ := ers_some e
  rw [ers_ne h1]; exact h _ _ h2
theorem hide_in {H : Hp} {A : List Addr} {a : Addr} (h : a ∈ A) : hide H A a = none := if_pos h
theorem hide_out {H : Hp} {A : List Addr} {a : Addr} (h : a ∉ A) : hide H A a = H a := if_neg h
theorem hide_some {H : Hp} {A : List Addr} {a : Addr} {o : HO} (h : hide H A a = some o) : a ∉ A ∧ H a = some o := by
  by_cases ha : a ∈ A
  · rw [hide_in ha] at h; cases h
  · exact ⟨ha, by rw [hide_out ha] at h; exact h⟩
theorem hide_same {H H' : Hp} {A A' : List Addr} (h : ∀ a o, a ∉ A → H a = some o → a ∉ A' ∧ H' a = some o) : Same (hide H A) (hide H' A') := fun a o e => by
  obtain ⟨h1, h2⟩ := hide_some e
  obtain ⟨h3, h4⟩ := h a o h1 h2
  rw [hide_out h3]; exact h4
theorem hide_sub {H : Hp} {A : List Addr} : Same (hide H A) H := fun a o e => (hide_some e).2
theorem hide_congr {H : Hp} {A B : List Addr} (h : ∀ a, a ∈ A ↔ a ∈ B) : hide H A = hide H B := by
  funext a
  unfold hide
  by_cases ha : a ∈ A
  · rw [if_pos ha, if_pos ((h a).mp ha)]
  · rw [if_neg ha, if_neg fun z => ha ((h a).mpr z)]

theorem IOk.mono {G G' H H' : Hp} (e : Same G G') {x : Item} {as : List Addr} (h : IOk K mg G H x as) (q : ∀ a ∈ as, H' a = H a) : IOk K mg G' H' x as := by
  induction h generalizing G' H' with
  | ov h => exact .ov (h.mono e q)
  | raw h => exact .raw ((q _ (by simp)).trans h)
  | pin h => exact .pin (e _ _ h)
  | but h ih => exact .but (ih (ers_same e) q)
theorem IsOk.mono {G G' H H' : Hp} (e : Same G G') : ∀ {L : List Item} {as : List Addr}, IsOk K mg G H L as → (∀ a ∈ as, H' a = H a) → IsOk K mg G' H' L as
  | _, _, .nil, _ => .nil
  | _, _, .cons h t, q => .cons (h.mono e fun a ha => q a (by simp [ha])) (IsOk.mono e t fun a ha => q a (by simp [ha]))
theorem IOk.dom {G H : Hp} {x : Item} {as : List Addr} (h : IOk K mg G H x as) : ∀ a ∈ as, ∃ u, H a = some u := by
  induction h with
  | ov h => exact h.dom
  | raw h => intro a ha; simp at ha; subst ha; exact ⟨_, h⟩
  | pin h => intro a ha; simp at ha
  | but h ih => exact ih
theorem IsOk.dom {G H : Hp} : ∀ {L : List Item} {as : List Addr}, IsOk K mg G H L as → ∀ a ∈ as, ∃ u, H a = some u
  | _, _, .nil, a, ha => by simp at ha
  | _, _, .cons h t, a, ha => by
    rcases List.mem_append.mp ha with ha | ha
    · exact h.dom a ha
    · exact IsOk.dom t a ha
theorem IsOk.append {G H : Hp} : ∀ {L M : List Item} {as bs : List Addr}, IsOk K mg G H L as → IsOk K mg G H M bs → IsOk K mg G H (L ++ M) (as ++ bs)
  | _, _, _, _, .nil, h => h
  | _, _, _, _, .cons (as := as) (bs := cs) h t, q => by
    rw [List.append_assoc]
    exact .cons h (IsOk.append t q)
theorem IsOk.split {G H : Hp} : ∀ {L M : List Item} {as : List Addr}, IsOk K mg G H (L ++ M) as → ∃ bs cs, as = bs ++ cs ∧ IsOk K mg G H L bs ∧ IsOk K mg G H M cs
  | [], M, as, h => ⟨[], as, rfl, .nil, h⟩
  | x :: L, M, _, .cons (as := as) h t => by
    obtain ⟨bs, cs, e, h1, h2⟩ := IsOk.split (L := L) t
    subst e
    exact ⟨as ++ bs, cs, (List.append_assoc _ _ _).symm, .cons h h1, h2⟩
theorem IsOk.perm {G H : Hp} {L L' : List Item} (p : L.Perm L') : ∀ {as : List Addr}, IsOk K mg G H L as → ∃ bs, as.Perm bs ∧ IsOk K mg G H L' bs := by
  induction p with
  | nil => intro as h; exact ⟨as, .refl _, h⟩
  | cons x _ ih =>
    intro as h
    cases h with
    | cons h t =>
      obtain ⟨bs, q, t'⟩ := ih t
      exact ⟨_, q.append_left _, .cons h t'⟩
  | swap x y L =>
    intro as h
    cases h with
    | cons h t =>
      cases t with
      | cons h2 t =>
        rename_i a1 a2 a3
        refine ⟨a2 ++ (a1 ++ a3), ?_, .cons h2 (.cons h t)⟩
        rw [← List.append_assoc, ← List.append_assoc]
        exact List.perm_append_comm.append_right _
  | trans _ _ ih1 ih2 =>
    intro as h
    obtain ⟨bs, q, h1⟩ := ih1 h
    obtain ⟨cs, q2, h2⟩ := ih2 h1
    exact ⟨cs, q.trans q2, h2⟩

variable {H H' : Hp} {L L' M : List Item} {B B' : List (V × O)}
theorem Rep.perm (h : Rep K mg H L B) (p : L.Perm L') : Rep K mg H L' B := by
  obtain ⟨A, nd, ok, hb⟩ := h
  obtain ⟨A', q, ok'⟩ := ok.perm p
  have e : hide H A = hide H A' := hide_congr fun a => q.mem_iff
  rw [e] at ok'
  refine ⟨A', q.nodup nd, ok', fun b hb' => ?_⟩
  obtain ⟨as, h1, h2⟩ := hb b hb'
  rw [e] at h1
  exact ⟨as, h1, fun a ha => q.mem_iff.mp (h2 a ha)⟩
theorem Rep.grow (h : Rep K mg H L B) (s : Same H H') : Rep K mg H' L B := by
  obtain ⟨A, nd, ok, hb⟩ := h
  have e : Same (hide H A) (hide H' A) := hide_same fun a o ha q => ⟨ha, s a o q⟩
  have ha : ∀ a ∈ A, H' a = H a := fun a ha => by
    obtain ⟨u, q⟩ := ok.dom a ha
    rw [q, s a u q]
  refine ⟨A, nd, ok.mono e ha, fun b hb' => ?_⟩
  obtain ⟨as, h1, h2⟩ := hb b hb'
  exact ⟨as, h1.mono e fun a q => ha a (h2 a q), h2⟩
theorem Rep.bsub (h : Rep K mg H L B) (s : ∀ b ∈ B', b ∈ B) : Rep K mg H L B' := by
  obtain ⟨A, nd, ok, hb⟩ := h
  exact ⟨A, nd, ok, fun b hb' => hb b (s b hb')⟩
theorem Rep.nob (h : Rep K mg H L B) : Rep K mg H L [] := h.bsub fun _ z => by simp at z
theorem Rep.bdrop {b : V × O} (h : Rep K mg H L (b :: B)) : Rep K mg H L B := h.bsub fun _ z => List.mem_cons_of_mem _ z
theorem Rep.drop {x : Item} (h : Rep K mg H (x :: L) []) : Rep K mg H L [] := by
  obtain ⟨A, nd, ok, hb⟩ := h
  cases ok with
  | cons h t =>
    rename_i as bs
    have e : Same (hide H (as ++ bs)) (hide H bs) := hide_same fun a o ha q => ⟨fun z => ha (by simp [z]), q⟩
    exact ⟨bs, (List.nodup_append.mp nd).2.1, t.mono e fun _ _ => rfl, fun _ z => by simp at z⟩
theorem Rep.frz {v : V} {o : O} (h : Rep K mg H (.ov v o :: L) []) : Rep K mg H (.ov v (.val o.toD) :: L) [] := by
  obtain ⟨A, nd, ok, hb⟩ := h
  cases ok with
  | cons h t =>
    rename_i as bs
    cases h with
    | ov h =>
      have e : Same (hide H (as ++ bs)) (hide H bs) := hide_same fun a o ha q => ⟨fun z => ha (by simp [z]), q⟩
      have dj := (List.nodup_append.mp nd).2.2
      refine ⟨bs, (List.nodup_append.mp nd).2.1, ?_, fun _ z => by simp at z⟩
      refine .cons (as := []) (.ov (.val (h.frz e fun a ha => ?_))) (t.mono e fun _ _ => rfl)
      exact hide_out fun z => dj a ha a z rfl
theorem Rep.lend {v : V} {o : O} (h : Rep K mg H (.ov v o :: L) B) : Rep K mg H (.ov v o :: L) ((v, o) :: B) := by
  obtain ⟨A, nd, ok, hb⟩ := h
  refine ⟨A, nd, ok, fun b q => ?_⟩
  rcases List.mem_cons.mp q with e | q
  · subst e
    cases ok with
    | cons h t =>
      cases h with
      | ov h => exact ⟨_, h, fun a ha => by simp [ha]⟩
  · exact hb b q
theorem Rep.keep {v : V} {d : D} (h : Rep K mg H L ((v, .val d) :: B)) : Rep K mg H (.ov v (.val d) :: L) B := by
  obtain ⟨A, nd, ok, hb⟩ := h
  obtain ⟨as, h1, _⟩ := hb _ (List.mem_cons_self ..)
  cases h1 with
  | val h1 => exact ⟨A, nd, .cons (as := []) (.ov (.val h1)) ok, fun b q => hb b (by simp [q])⟩
theorem Rep.scal {v : V} {d : D} (h : Rep K mg H L B) (hv : ∀ G, Vw K mg G v d) : Rep K mg H (.ov v (.val d) :: L) B := by
  obtain ⟨A, nd, ok, hb⟩ := h
  exact ⟨A, nd, .cons (as := []) (.ov (.val (hv _))) ok, hb⟩
theorem Rep.scalB {v : V} {d : D} (h : Rep K mg H L B) (hv : ∀ G, Vw K mg G v d) : Rep K mg H L ((v, .val d) :: B) := by
  obtain ⟨A, nd, ok, hb⟩ := h
  refine ⟨A, nd, ok, fun b q => ?_⟩
  rcases List.mem_cons.mp q with e | q
  · subst e; exact ⟨[], .val (hv _), by simp⟩
  · exact hb b q
theorem Rep.rawAt {p : Addr} {o : HO} (h : Rep K mg H (.raw p o :: L) B) : H p = some o := by
  obtain ⟨A, nd, ok, hb⟩ := h
  cases ok with
  | cons h t =>
    cases h with
    | raw h => exact h
theorem Rep.write {p : Addr} {o o' : HO} (h : Rep K mg H (.raw p o :: L) B) : Rep K mg (upd H p o') (.raw p o' :: L) [] := by
  obtain ⟨A, nd, ok, hb⟩ := h
  cases ok with
  | cons h t =>
    rename_i as bs
    cases h with
    | raw h =>
      have hp : p ∉ bs := (List.nodup_cons.mp nd).1
      have e : Same (hide H (p :: bs)) (hide (upd H p o') (p :: bs)) := hide_same fun a u ha q => ⟨ha, by rw [upd_ne fun z => ha (by simp [z])]; exact q⟩
      refine ⟨p :: bs, nd, .cons (as := [p]) (.raw upd_same) (t.mono e fun a ha => ?_), fun _ z => by simp at z⟩
      exact upd_ne fun z => hp (z ▸ ha)
theorem Rep.new {p : Addr} {o : HO} (h : Rep K mg H L B) (hp : H p = none) : Rep K mg (upd H p o) (.raw p o :: L) B := by
  obtain ⟨A, nd, ok, hb⟩ := h
  have hA : p ∉ A := fun z => by
    obtain ⟨u, q⟩ := ok.dom p z
    rw [hp] at q; cases q
  have e : Same (hide H A) (hide (upd H p o) (p :: A)) := hide_same fun a u ha q => by
    have : a ≠ p := fun z => by rw [z, hp] at q; cases q
    exact ⟨by simp [this, ha], by rw [upd_ne this]; exact q⟩
  have hu : ∀ a ∈ A, upd H p o a = H a := fun a ha => upd_ne fun z => hA (z ▸ ha)
  refine ⟨p :: A, List.nodup_cons.mpr ⟨hA, nd⟩, .cons (as := [p]) (.raw upd_same) (ok.mono e hu), fun b q => ?_⟩
  obtain ⟨as, h1, h2⟩ := hb b q
  exact ⟨as, h1.mono e fun a ha => hu a (h2 a ha), fun a ha => by simp [h2 a ha]⟩

/-! ### opening and closing -/
theorem IsOk.zip {G : Hp} : ∀ {vs : List V} {os : List O} {as : List Addr}, VOs K mg G H vs os as → IsOk K mg G H (zipI vs os) as
  | _, _, _, .nil => .nil
  | _, _, _, .cons h t => .cons (.ov h) (IsOk.zip t)
theorem IsOk.unzip {G : Hp} : ∀ {vs : List V} {os : List O} {as : List Addr}, vs.length = os.length → IsOk K mg G H (zipI vs os) as → VOs K mg G H vs os as
  | [], [], _, _, .nil => .nil
  | [], _ :: _, _, e, _ => by simp at e
  | _ :: _, [], _, e, _ => by simp at e
  | v :: vs, o :: os, _, e, .cons (.ov h) t => .cons h (IsOk.unzip (by simpa using e) t)
theorem Rep.openL {v : V} {os : List O} (h : Rep K mg H (.ov v (.lst os) :: L) B) : ∃ p vs, v = .ref p ∧ vs.length = os.length ∧ Rep K mg H (.raw p (.lst vs) :: (zipI vs os ++ L)) B := by
  obtain ⟨A, nd, ok, hb⟩ := h
  cases ok with
  | cons h t =>
    cases h with
    | ov h =>
      cases h with
      | lst h hs => exact ⟨_, _, rfl, hs.length, _, nd, .cons (as := [_]) (.raw h) (IsOk.append (IsOk.zip hs) t), hb⟩
theorem Rep.closeL {p : Addr} {vs : List V} {os : List O} (h : Rep K mg H (.raw p (.lst vs) :: (zipI vs os ++ L)) B) (e : vs.length = os.length) : Rep K mg H (.ov (.ref p) (.lst os) :: L) B := by
  obtain ⟨A, nd, ok, hb⟩ := h
  cases ok with
  | cons h t =>
    cases h with
    | raw h =>
      obtain ⟨bs, cs, e2, t1, t2⟩ := t.split
      subst e2
      exact ⟨_, nd, .cons (as := _ :: bs) (.ov (.lst h (IsOk.unzip e t1))) t2, hb⟩
theorem Rep.openD {v : V} {ks : List Key} {os : List O} (h : Rep K mg H (.ov v (.dct ks os) :: L) B) : ∃ p kvs, v = .ref p ∧ kvs.length = os.length ∧ (kvs.map (·.1) = ks ∧ ks.Nodup) ∧ Rep K mg H (.raw p (.dK kvs) :: (zipI (kvs.map (·.2)) os ++ L)) B := by
  obtain ⟨A, nd, ok, hb⟩ := h
  cases ok with
  | cons h t =>
    cases h with
    | ov h =>
      cases h with
      | dct h hk hs => exact ⟨_, _, rfl, by have := hs.length; simpa using this, hk, _, nd, .cons (as := [_]) (.raw h) (IsOk.append (IsOk.zip hs) t), hb⟩
theorem Rep.closeD {p : Addr} {kvs : List (Key × V)} {ks : List Key} {os : List O} (h : Rep K mg H (.raw p (.dK kvs) :: (zipI (kvs.map (·.2)) os ++ L)) B) (e : kvs.length = os.length) (hk : kvs.map (·.1) = ks ∧ ks.Nodup) : Rep K mg H (.ov (.ref p) (.dct ks os) :: L) B := by
  obtain ⟨A, nd, ok, hb⟩ := h
  cases ok with
  | cons h t =>
    cases h with
    | raw h =>
      obtain ⟨bs, cs, e2, t1, t2⟩ := t.split
      subst e2
      exact ⟨_, nd, .cons (as := _ :: bs) (.ov (.dct h hk (IsOk.unzip (by simpa using e) t1))) t2, hb⟩
/-- a tuple of shared things is shared -/
theorem Rep.closeT {p : Addr} {vs : List V} {ds : List D} (h : Rep K mg H (.raw p (.tup vs) :: (zipI vs (ds.map O.val) ++ L)) []) (e : vs.length = ds.length) : Rep K mg H (.ov (.ref p) (.val (.tup ds)) :: L) [] := by
  obtain ⟨A, nd, ok, hb⟩ := h
  cases ok with
  | cons h t =>
    cases h with
    | raw h =>
      obtain ⟨bs, cs, e2, t1, t2⟩ := t.split
      subst e2
      obtain ⟨q, e3⟩ := VOs.of_vals (IsOk.unzip (by simpa using e) t1)
      subst e3
      have s : Same (hide H ([p] ++ ([] ++ cs))) (hide H cs) := hide_same fun a o ha q => ⟨fun z => ha (by simp [z]), q⟩
      have hp : p ∉ cs := (List.nodup_cons.mp nd).1
      refine ⟨cs, (List.nodup_cons.mp nd).2, .cons (as := []) (.ov (.val (.tup (SqT.of ?_) (q.mono s)))) (t2.mono s fun _ _ => rfl), fun _ z => by simp at z⟩
      rw [hide_out hp]; exact h
/-- the whole heap shows what is borrowed -/
theorem Rep.view {b : V × O} (h : Rep K mg H L B) (q : b ∈ B) : Vw K mg H b.1 b.2.toD := by
  obtain ⟨A, nd, ok, hb⟩ := h
  obtain ⟨as, h1, h2⟩ := hb b q
  exact h1.frz hide_sub fun _ _ => rfl
end
end FB

/-! The environment, the meaning of expressions and statements over it, the judgements. -/
namespace FB
open PySem PySem.Spec L2
open PyProof.Rows hiding St

def Res.bind {α β : Type} (r : Res α) (f : α → Env → Res β) : Res β :=
  match r with
  | .ok a ρ => f a ρ
  | .exc x ρ => .exc x ρ
  | .no => .no
@[simp] theorem Res.bind_ok {α β : Type} (a : α) (ρ : Env) (f : α → Env → Res β) : (Res.ok a ρ).bind f = f a ρ := rfl
@[simp] theorem Res.bind_no {α β : Type} (f : α → Env → Res β) : (Res.no : Res α).bind f = .no := rfl
theorem Res.bind_eq {α β : Type} {r : Res α} {f : α → Env → Res β} {b : β} {ρ' : Env} (h : r.bind f = .ok b ρ') : ∃ a ρ, r = .ok a ρ ∧ f a ρ = .ok b ρ' := by
  cases r with
  | ok a ρ => exact ⟨a, ρ, rfl, h⟩
  | exc x ρ => cases h
  | no => cases h
abbrev Pf := Env → Option O
inductive Fl where
  | nx | ret (o : O) | brk | ct

theorem pairs_ss (v : V) (o : O) (σ : St) (ρ : Env) : pairs (some v :: σ) (some o :: ρ) = .ov v o :: pairs σ ρ := rfl
theorem pairs_sn (v : Option V) (σ : St) (ρ : Env) : pairs (v :: σ) (none :: ρ) = pairs σ ρ := by cases v <;> rfl
theorem pairs_ns (o : Option O) (σ : St) (ρ : Env) : pairs (none :: σ) (o :: ρ) = pairs σ ρ := by cases o <;> rfl
theorem pairs_nil (ρ : Env) : pairs [] ρ = [] := by cases ρ <;> rfl
theorem pairs_nil' (σ : St) : pairs σ [] = [] := by cases σ with
  | nil => rfl
  | cons v σ => cases v <;> rfl
theorem pairs_take : ∀ {σ : St} {ρ : Env} {i : Nat} {v : V} {o : O}, σ[i]? = some (some v) → ρ[i]? = some (some o) → (pairs σ ρ).Perm (.ov v o :: pairs σ (ρ.set i none))
  | [], _, _, _, _, h, _ => by simp at h
  | _ :: _, [], _, _, _, _, h => by simp at h
  | w :: σ, u :: ρ, 0, v, o, h1, h2 => by
    simp at h1 h2
    subst h1 h2
    rw [List.set_cons_zero, pairs_ss, pairs_sn]
  | w :: σ, u :: ρ, i + 1, v, o, h1, h2 => by
    have ih := pairs_take (σ := σ) (ρ := ρ) (i := i) (v := v) (o := o) (by simpa using h1) (by simpa using h2)
    rw [List.set_cons_succ]
    cases w with
    | none => rw [pairs_ns, pairs_ns]; exact ih
    | some w =>
      cases u with
      | none => rw [pairs_sn, pairs_sn]; exact ih
      | some u =>
        rw [pairs_ss, pairs_ss]
        exact (ih.cons _).trans (.swap _ _ _)
theorem pairs_setn : ∀ {σ : St} {ρ : Env} {i : Nat} {v : Option V}, ρ[i]? = some none → pairs (σ.set i v) ρ = pairs σ ρ
  | [], ρ, i, v, _ => by simp [pairs_nil]
  | w :: σ, [], i, v, h => by simp at h
  | w :: σ, u :: ρ, 0, v, h => by
    simp at h
    subst h
    rw [List.set_cons_zero, pairs_sn, pairs_sn]
  | w :: σ, u :: ρ, i + 1, v, h => by
    have ih := pairs_setn (σ := σ) (ρ := ρ) (i := i) (v := v) (by simpa using h)
    rw [List.set_cons_succ]
    cases w with
    | none => rw [pairs_ns, pairs_ns, ih]
    | some w =>
      cases u with
      | none => rw [pairs_sn, pairs_sn, ih]
      | some u => rw [pairs_ss, pairs_ss, ih]
theorem pairs_put {σ : St} {ρ : Env} {i : Nat} {v : V} {o : O} (h1 : i < σ.length) (h2 : i < ρ.length) : (.ov v o :: pairs σ (ρ.set i none) : List Item).Perm (pairs (σ.set i (some v)) (ρ.set i (some o))) := by
  have e1 : (σ.set i (some v))[i]? = some (some v) := by simp [h1]
  have e2 : (ρ.set i (some o))[i]? = some (some o) := by simp [h2]
  have := pairs_take e1 e2
  rw [List.set_set] at this
  have e3 : pairs (σ.set i (some v)) (ρ.set i none) = pairs σ (ρ.set i none) := pairs_setn (by simp [h2])
  rw [e3] at this
  exact this.symm
/-- the value stands, what is known of it is another thing -/
theorem pairs_back {σ : St} {ρ : Env} {i : Nat} {v : V} {o : O} (h1 : σ[i]? = some (some v)) (h2 : i < ρ.length) : (.ov v o :: pairs σ (ρ.set i none) : List Item).Perm (pairs σ (ρ.set i (some o))) := by
  have e2 : (ρ.set i (some o))[i]? = some (some o) := by simp [h2]
  have := pairs_take h1 e2
  rw [List.set_set] at this
  exact this.symm

theorem Cov.set {σ : St} {ρ : Env} (c : Cov σ ρ) (i : Nat) (v : V) (o : O) : Cov (σ.set i (some v)) (ρ.set i (some o)) := by
  refine ⟨by simp [c.len], fun j q h => ?_⟩
  by_cases e : i = j
  · subst e
    have hj : i < ρ.length := by
      have := (List.getElem?_eq_some_iff.mp h).1
      simpa using this
    exact ⟨v, by simp [c.len, hj]⟩
  · rw [List.getElem?_set_ne e] at h ⊢
    exact c.ex j q h
theorem Cov.setn {σ : St} {ρ : Env} (c : Cov σ ρ) (i : Nat) : Cov σ (ρ.set i none) := by
  refine ⟨by simp [c.len], fun j q h => ?_⟩
  by_cases e : i = j
  · subst e
    have hj : i < ρ.length := by
      have := (List.getElem?_eq_some_iff.mp h).1
      simpa using this
    simp [hj] at h
  · rw [List.getElem?_set_ne e] at h
    exact c.ex j q h
theorem Cov.put {σ : St} {ρ : Env} {i : Nat} {v : V} (c : Cov σ ρ) (hv : σ[i]? = some (some v)) (o : O) : Cov σ (ρ.set i (some o)) := by
  refine ⟨by simp [c.len], fun j q h => ?_⟩
  by_cases e : i = j
  · subst e; exact ⟨v, hv⟩
  · rw [List.getElem?_set_ne e] at h
    exact c.ex j q h

/-! ### the judgements -/
section
variable (K : PySem.W.Frag) (mg : Str → Option Value)
/-- a reading that changes nothing: its value is lent -/
def tP (f : Pf) : TE := fun σ H Q => ∃ ρ T B o, Cov σ ρ ∧ Rep K mg H (pairs σ ρ ++ T) B ∧ f ρ = some o ∧ ∀ v H', Same H H' → Rep K mg H' (pairs σ ρ ++ T) ((v, o) :: B) → Q v H'
/-- an expression that may change what the environment owns -/
def tM (m : M O) : TE := fun σ H Q => ∃ ρ T o ρ', Cov σ ρ ∧ Rep K mg H (pairs σ ρ ++ T) [] ∧ m ρ = .ok o ρ' ∧ ∀ v H', Cov σ ρ' → Rep K mg H' (.ov v o :: (pairs σ ρ' ++ T)) [] → Q v H'
def tMT (m : M Bool) : TT := fun σ H Q => ∃ ρ T b ρ', Cov σ ρ ∧ Rep K mg H (pairs σ ρ ++ T) [] ∧ m ρ = .ok b ρ' ∧ ∀ H', Cov σ ρ' → Rep K mg H' (pairs σ ρ' ++ T) [] → Q b H'
/-- the slots P stand -/
def Fix (P : List Nat) (σ σ' : St) : Prop := σ'.length = σ.length ∧ ∀ i ∈ P, σ'[i]? = σ[i]?
def tS (P : List Nat) (m : M Fl) : TS := fun D σ H => ∃ ρ T, Cov σ ρ ∧ Rep K mg H (pairs σ ρ ++ T) [] ∧
  match m ρ with
  | .ok .nx ρ' => ∀ σ' H', Fix P σ σ' → Cov σ' ρ' → Rep K mg H' (pairs σ' ρ' ++ T) [] → D.nx σ' H'
  | .ok .brk ρ' => ∀ σ' H', Fix P σ σ' → Cov σ' ρ' → Rep K mg H' (pairs σ' ρ' ++ T) [] → D.bk σ' H'
  | .ok .ct ρ' => ∀ σ' H', Fix P σ σ' → Cov σ' ρ' → Rep K mg H' (pairs σ' ρ' ++ T) [] → D.ct σ' H'
  | .ok (.ret o) ρ' => ∀ v σ' H', Fix P σ σ' → Cov σ' ρ' → Rep K mg H' (.ov v o :: (pairs σ' ρ' ++ T)) [] → D.rt v H'
  | .exc _ _ => False
  | .no => False
end
theorem Fix.refl (P : List Nat) (σ : St) : Fix P σ σ := ⟨rfl, fun _ _ => rfl⟩
theorem Fix.trans {P : List Nat} {a b c : St} (h : Fix P a b) (q : Fix P b c) : Fix P a c := ⟨q.1.trans h.1, fun i hi => (q.2 i hi).trans (h.2 i hi)⟩
theorem Fix.set {P : List Nat} {σ : St} {i : Nat} {v : Option V} (h : i ∉ P) : Fix P σ (σ.set i v) := ⟨by simp, fun j hj => List.getElem?_set_ne fun e : i = j => h (by rw [e]; exact hj)⟩
theorem PE.imp {X : Cx} {e : Expr} {t t' : TE} (h : PE X e t) (q : ∀ σ H Q, t' σ H Q → t σ H Q) : PE X e t' := ⟨fun pins s σ H Q I w => h.run pins s σ H Q I (q σ H Q w)⟩
theorem PT.imp {X : Cx} {e : Expr} {t t' : TT} (h : PT X e t) (q : ∀ σ H Q, t' σ H Q → t σ H Q) : PT X e t' := ⟨fun pins s σ H Q I w => h.run pins s σ H Q I (q σ H Q w)⟩
theorem PS.imp {X : Cx} {e : Stmt} {t t' : TS} (h : PS X e t) (q : ∀ D σ H, t' D σ H → t D σ H) : PS X e t' := ⟨fun pins s σ H D I w => h.run pins s σ H D I (q D σ H w)⟩
theorem PSs.imp {X : Cx} {e : List Stmt} {t t' : TS} (h : PSs X e t) (q : ∀ D σ H, t' D σ H → t D σ H) : PSs X e t' := ⟨fun pins s σ H D I w => h.run pins s σ H D I (q D σ H w)⟩

def SP (X : Cx) (e : Expr) (f : Pf) : Prop := PE X e (tP X.K X.mg f)
def SE (X : Cx) (e : Expr) (m : M O) : Prop := PE X e (tM X.K X.mg m)
def SET (X : Cx) (e : Expr) (m : M Bool) : Prop := PT X e (tMT X.K X.mg m)
def SS (X : Cx) (P : List Nat) (st : Stmt) (m : M Fl) : Prop := PS X st (tS X.K X.mg P m)
def SSs (X : Cx) (P : List Nat) (st : List Stmt) (m : M Fl) : Prop := PSs X st (tS X.K X.mg P m)
/-- what every body stands in -/
structure CxOk (X : Cx) : Prop where
  calm : X.calm = true
  units : X.A.units + 65 < cLine
  nd : X.N.Nodup

/-! ### what is read of an owned tree whose parts are shared -/
def vals? : List O → Option (List D)
  | [] => some []
  | .val d :: os => (vals? os).map (d :: ·)
  | _ :: _ => none
theorem vals?_map : ∀ ds : List D, vals? (ds.map O.val) = some ds
  | [] => rfl
  | d :: ds => by show (vals? (ds.map O.val)).map _ = _; rw [vals?_map ds]; rfl
theorem vals?_eq : ∀ {os : List O} {ds : List D}, vals? os = some ds → os = ds.map O.val
  | [], ds, h => by cases h; rfl
  | .val d :: os, ds, h => by
    have h : (vals? os).map (d :: ·) = some ds := h
    cases e : vals? os with
    | none => rw [e] at h; cases h
    | some es =>
      rw [e] at h
      cases h
      rw [vals?_eq e]; rfl
  | .lst _ :: _, _, h => by cases h
  | .dct _ _ :: _, _, h => by cases h
  | .ins _ _ _ :: _, _, h => by cases h
def O.sh : O → Option D
  | .val d => some d
  | .lst os => (vals? os).map .lst
  | .dct ks os => (vals? os).map (.dct ks)
  | .ins c ns os => (vals? os).map (.ins c ns)
@[simp] theorem O.sh_val (d : D) : (O.val d).sh = some d := rfl
@[simp] theorem O.sh_lst (ds : List D) : (O.lst (ds.map O.val)).sh = some (.lst ds) := by show (vals? _).map _ = _; rw [vals?_map]; rfl
@[simp] theorem O.sh_dct (ks : List Key) (ds : List D) : (O.dct ks (ds.map O.val)).sh = some (.dct ks ds) := by show (vals? _).map _ = _; rw [vals?_map]; rfl
section
variable {K : PySem.W.Frag} {mg : Str → Option Value} {H : Hp} {L : List Item} {B : List (V × O)}
/-- what is lent and has shared parts alone: shown by the heap, its parts shared -/
theorem Rep.sh {x : V} {o : O} {d : D} (h : Rep K mg H L B) (hx : (x, o) ∈ B) (e : o.sh = some d) : Vw K mg H x d := by
  have q := h.view hx
  cases o with
  | val d' => cases e; exact q
  | lst os =>
    have e : (vals? os).map D.lst = some d := e
    cases e1 : vals? os with
    | none => rw [e1] at e; cases e
    | some ds =>
      rw [e1] at e; cases e
      have q : Vw K mg H x (.lst (O.toDs os)) := q
      rw [vals?_eq e1, toDs_vals] at q
      exact q
  | dct ks os =>
    have e : (vals? os).map (D.dct ks) = some d := e
    cases e1 : vals? os with
    | none => rw [e1] at e; cases e
    | some ds =>
      rw [e1] at e; cases e
      have q : Vw K mg H x (.dct ks (O.toDs os)) := q
      rw [vals?_eq e1, toDs_vals] at q
      exact q
  | ins c ns os =>
    have e : (vals? os).map (D.ins c ns) = some d := e
    cases e1 : vals? os with
    | none => rw [e1] at e; cases e
    | some ds =>
      rw [e1] at e; cases e
      have q : Vw K mg H x (.ins c ns (O.toDs os)) := q
      rw [vals?_eq e1, toDs_vals] at q
      exact q
/-- the parts of a lent list (tuple) of shared parts are shared -/
theorem Rep.items {ds : List D} {vs : List V} (h : ∃ A : List Addr, A.Nodup ∧ IsOk K mg (hide H A) H L A ∧ (∀ b ∈ B, ∃ as, VO K mg (hide H A) H b.1 b.2 as ∧ ∀ a ∈ as, a ∈ A) ∧ Vws K mg (hide H A) vs ds) : Rep K mg H (zipI vs (ds.map O.val) ++ L) B := by
  obtain ⟨A, nd, ok, hb, hv⟩ := h
  exact ⟨A, nd, IsOk.append (as := []) (IsOk.zip (VOs.vals hv)) ok, hb⟩
theorem rd_hide {A : List Addr} {a : Addr} {u : HO} (h : Rd (hide H A) a u) : Rd H a u := FB.Same.rd hide_sub h
theorem sqT_hide {A : List Addr} {a : Addr} {xs : List V} (h : SqT K (hide H A) a xs) : SqT K H a xs := FB.Same.seqT hide_sub h
theorem Rep.shL {x : V} {o : O} {ds : List D} (h : Rep K mg H L B) (hx : (x, o) ∈ B) (e : o.sh = some (.lst ds)) :
    ∃ p vs, x = .ref p ∧ Rd H p (.lst vs) ∧ vs.length = ds.length ∧ Rep K mg H (zipI vs (ds.map O.val) ++ L) B := by
  obtain ⟨A, nd, ok, hb⟩ := h
  obtain ⟨as, q, ha⟩ := hb _ hx
  cases q with
  | val q =>
    cases e
    cases q with
    | lst q qs => exact ⟨_, _, rfl, rd_hide q, qs.length, Rep.items ⟨A, nd, ok, hb, qs⟩⟩
  | lst q qs =>
    rename_i p vs os as'
    have e : (vals? os).map D.lst = some (.lst ds) := e
    cases e1 : vals? os with
    | none => rw [e1] at e; cases e
    | some es =>
      rw [e1] at e; cases e
      rw [vals?_eq e1] at qs
      obtain ⟨qs, _⟩ := VOs.of_vals qs
      exact ⟨_, _, rfl, .inl q, qs.length, Rep.items ⟨A, nd, ok, hb, qs⟩⟩
  | dct q hk qs =>
    rename_i kvs ks os as'
    have e : (vals? os).map (D.dct ks) = some (.lst ds) := e
    cases e1 : vals? os with
    | none => rw [e1] at e; cases e
    | some es => rw [e1] at e; cases e
  | ins q hm hn qs =>
    rename_i c ns os as'
    have e : (vals? os).map (D.ins c ns) = some (.lst ds) := e
    cases e1 : vals? os with
    | none => rw [e1] at e; cases e
    | some es => rw [e1] at e; cases e
theorem sh_val_of {o : O} {d : D} (e : o.sh = some d) (h1 : ∀ ds, d ≠ .lst ds) (h2 : ∀ ks ds, d ≠ .dct ks ds) (h3 : ∀ c ns ds, d ≠ .ins c ns ds) : o = .val d := by
  cases o with
  | val d' => cases e; rfl
  | lst os =>
    have e : (vals? os).map D.lst = some d := e
    cases e1 : vals? os with
    | none => rw [e1] at e; cases e
    | some es => rw [e1] at e; cases e; exact absurd rfl (h1 _)
  | dct ks os =>
    have e : (vals? os).map (D.dct ks) = some d := e
    cases e1 : vals? os with
    | none => rw [e1] at e; cases e
    | some es => rw [e1] at e; cases e; exact absurd rfl (h2 _ _)
  | ins c ns os =>
    have e : (vals? os).map (D.ins c ns) = some d := e
    cases e1 : vals? os with
    | none => rw [e1] at e; cases e
    | some es => rw [e1] at e; cases e; exact absurd rfl (h3 _ _ _)
theorem Rep.shT {x : V} {o : O} {ds : List D} (h : Rep K mg H L B) (hx : (x, o) ∈ B) (e : o.sh = some (.tup ds)) :
    ∃ p vs, x = .ref p ∧ SqT K H p vs ∧ vs.length = ds.length ∧ Rep K mg H (zipI vs (ds.map O.val) ++ L) B := by
  have e' := sh_val_of e (fun _ => by intro z; cases z) (fun _ _ => by intro z; cases z) (fun _ _ _ => by intro z; cases z)
  subst e'
  obtain ⟨A, nd, ok, hb⟩ := h
  obtain ⟨as, q, ha⟩ := hb _ hx
  cases q with
  | val q =>
    cases q with
    | tup q qs => exact ⟨_, _, rfl, sqT_hide q, qs.length, Rep.items ⟨A, nd, ok, hb, qs⟩⟩
theorem Rep.shInt {x : V} {o : O} {i : Int} (h : Rep K mg H L B) (hx : (x, o) ∈ B) (e : o.sh = some (.int i)) : x = .int i := by
  have q := h.sh hx e
  cases q; rfl
theorem Rep.shBl {x : V} {o : O} {b : Bool} (h : Rep K mg H L B) (hx : (x, o) ∈ B) (e : o.sh = some (.bl b)) : x = .bl b := by
  have q := h.sh hx e
  cases q; rfl
theorem Rep.shStr {x : V} {o : O} {s : Str} (h : Rep K mg H L B) (hx : (x, o) ∈ B) (e : o.sh = some (.str s)) : x = .str s := by
  have q := h.sh hx e
  cases q; rfl
theorem Rep.shNon {x : V} {o : O} (h : Rep K mg H L B) (hx : (x, o) ∈ B) (e : o.sh = some .non) : x = .non := by
  have q := h.sh hx e
  cases q; rfl
/-- a shared item goes (what is lent stands) -/
theorem Rep.dropV {v : V} {d : D} (h : Rep K mg H (.ov v (.val d) :: L) B) : Rep K mg H L B := by
  obtain ⟨A, nd, ok, hb⟩ := h
  cases ok with
  | cons h t =>
    cases h with
    | ov h =>
      cases h with
      | val h => exact ⟨_, nd, t, hb⟩
theorem Rep.dropVs : ∀ {vs : List V} {ds : List D}, Rep K mg H (zipI vs (ds.map O.val) ++ L) B → Rep K mg H L B
  | [], _, h => h
  | _ :: _, [], h => h
  | v :: vs, d :: ds, h => Rep.dropVs (vs := vs) (ds := ds) (Rep.dropV h)
/-- a new list of shared things, shared from now on -/
theorem Rep.newL {vs : List V} {ds : List D} {p : Addr} (h : Rep K mg H (zipI vs (ds.map O.val) ++ L) []) (e : vs.length = ds.length) (hp : H p = none) : Rep K mg (upd H p (.lst vs)) (.ov (.ref p) (.lst (ds.map O.val)) :: L) [] :=
  Rep.closeL (h.new hp) (by simpa using e)
theorem Rep.newT {vs : List V} {ds : List D} {p : Addr} (h : Rep K mg H (zipI vs (ds.map O.val) ++ L) []) (e : vs.length = ds.length) (hp : H p = none) : Rep K mg (upd H p (.tup vs)) (.ov (.ref p) (.val (.tup ds)) :: L) [] :=
  Rep.closeT (h.new hp) e
end

/-! ### names, constants -/
section
variable {X : Cx}
def pVar (i : Nat) : Pf := fun ρ => (ρ[i]?).join
theorem sp_var (i : Nat) {x : Str} {pos : Pos} (hN : X.N[i]? = some x := by rfl) (hv : Vis X.env.scope x := by first | exact Or.inl rfl | exact Or.inr (Or.inl rfl) | exact Or.inr (Or.inr rfl)) (hd : (x == ("__debug__" : Str)) = false := by decide)
    (hcd : (x == ("__classdict__" : Str)) = false := by decide) : SP X (.Name x pos) (pVar i) := by
  refine PE.imp (pv i hN hv hd hcd) fun σ H Q h => ?_
  obtain ⟨ρ, T, B, o, c, R, e, k⟩ := h
  have e1 : ρ[i]? = some (some o) := by
    unfold pVar at e
    cases q : ρ[i]? with
    | none => rw [q] at e; cases e
    | some u => rw [q] at e; cases u <;> cases e; rfl
  obtain ⟨v, hv⟩ := c.ex i o e1
  refine ⟨v, hv, k v H (Same.refl _) ?_⟩
  have p := (pairs_take hv e1).append_right T
  exact (R.perm p).lend.perm p.symm
/-- what is shared may be kept -/
def mP (f : Pf) : M O := fun ρ => match f ρ with
  | some (.val d) => .ok (.val d) ρ
  | _ => .no
theorem se_p {e : Expr} {f : Pf} (h : SP X e f) : SE X e (mP f) := by
  refine PE.imp h fun σ H Q q => ?_
  obtain ⟨ρ, T, o, ρ', c, R, e, k⟩ := q
  unfold mP at e
  cases z : f ρ with
  | none => rw [z] at e; cases e
  | some u =>
    rw [z] at e
    cases u with
    | val d =>
      cases e
      exact ⟨ρ, T, [], .val d, c, R, z, fun v H' _ R' => k v H' c R'.keep⟩
    | lst _ => cases e
    | dct _ _ => cases e
    | ins _ _ _ => cases e
/-- a name is read for the last time -/
def mMove (i : Nat) : M O := fun ρ => match ρ[i]? with
  | some (some o) => .ok o (ρ.set i none)
  | _ => .no
theorem se_move (i : Nat) {x : Str} {pos : Pos} (hN : X.N[i]? = some x := by rfl) (hv : Vis X.env.scope x := by first | exact Or.inl rfl | exact Or.inr (Or.inl rfl) | exact Or.inr (Or.inr rfl)) (hd : (x == ("__debug__" : Str)) = false := by decide)
    (hcd : (x == ("__classdict__" : Str)) = false := by decide) : SE X (.Name x pos) (mMove i) := by
  refine PE.imp (pv i hN hv hd hcd) fun σ H Q h => ?_
  obtain ⟨ρ, T, o, ρ', c, R, e, k⟩ := h
  unfold mMove at e
  split at e
  · rename_i o' e1
    cases e
    obtain ⟨v, hv⟩ := c.ex i _ e1
    exact ⟨v, hv, k v H (c.setn i) (R.perm ((pairs_take hv e1).append_right T))⟩
  · cases e
/-- a name's tree is shared from now on -/
def mFrz (i : Nat) : M O := fun ρ => match ρ[i]? with
  | some (some o) => .ok (.val o.toD) (ρ.set i (some (.val o.toD)))
  | _ => .no
theorem se_frz (i : Nat) {x : Str} {pos : Pos} (hN : X.N[i]? = some x := by rfl) (hv : Vis X.env.scope x := by first | exact Or.inl rfl | exact Or.inr (Or.inl rfl) | exact Or.inr (Or.inr rfl)) (hd : (x == ("__debug__" : Str)) = false := by decide)
    (hcd : (x == ("__classdict__" : Str)) = false := by decide) : SE X (.Name x pos) (mFrz i) := by
  refine PE.imp (pv i hN hv hd hcd) fun σ H Q h => ?_
  obtain ⟨ρ, T, o, ρ', c, R, e, k⟩ := h
  unfold mFrz at e
  split at e
  · rename_i o' e1
    cases e
    obtain ⟨v, hv⟩ := c.ex i _ e1
    have hl : i < ρ.length := (List.getElem?_eq_some_iff.mp e1).1
    have R1 := (R.perm ((pairs_take hv e1).append_right T)).frz
    have R2 : Rep X.K X.mg H (.ov v (.val o'.toD) :: (.ov v (.val o'.toD) :: pairs σ (ρ.set i none) ++ T)) [] := R1.lend.keep
    exact ⟨v, hv, k v H (c.put hv _) (R2.perm (((pairs_back hv hl).append_right T).cons _))⟩
  · cases e
def pC (d : D) : Pf := fun _ => some (.val d)
theorem sp_c {e : Expr} {v : V} {d : D} (h : PE X e (tC v)) (hv : ∀ G, Vw X.K X.mg G v d) : SP X e (pC d) := by
  refine PE.imp h fun σ H Q q => ?_
  obtain ⟨ρ, T, B, o, c, R, e, k⟩ := q
  cases e
  exact k v H (Same.refl _) (R.scalB hv)
theorem sp_int {i j pos} : SP X (.Constant (.int i) j pos) (pC (.int i)) := sp_c pe_int fun _ => .int i
theorem sp_bl {b j pos} : SP X (.Constant (.bool b) j pos) (pC (.bl b)) := sp_c pe_bl fun _ => .bl b
theorem sp_non {j pos} : SP X (.Constant .none j pos) (pC .non) := sp_c pe_non fun _ => .non
theorem sp_str {x j pos} (h : PyData.strOk x = true := by decide +kernel) : SP X (.Constant (.str x) j pos) (pC (.str x)) := sp_c pe_str fun _ => .str x h
end

/-! ### operations on values -/
def OpV (K : PySem.W.Frag) (mg : Str → Option Value) (r : R2) (f : O → O → Option O) : Prop :=
  ∀ (H : Hp) (L : List Item) (B : List (V × O)) (x y : V) (ox oy o : O) (Q : VK), Rep K mg H L B → (x, ox) ∈ B → (y, oy) ∈ B → f ox oy = some o → (∀ v H', Same H H' → Rep K mg H' L ((v, o) :: B) → Q v H') → r x y H Q
def UnV (K : PySem.W.Frag) (mg : Str → Option Value) (r : V → Hp → VK → Prop) (f : O → Option O) : Prop :=
  ∀ (H : Hp) (L : List Item) (B : List (V × O)) (x : V) (ox o : O) (Q : VK), Rep K mg H L B → (x, ox) ∈ B → f ox = some o → (∀ v H', Same H H' → Rep K mg H' L ((v, o) :: B) → Q v H') → r x H Q
def p2 (op : O → O → Option O) (f g : Pf) : Pf := fun ρ => (f ρ).bind fun a => (g ρ).bind fun b => op a b
def p1 (op : O → Option O) (f : Pf) : Pf := fun ρ => (f ρ).bind op
def okV (o : Option O) (ρ : Env) : Res O := match o with
  | some (.val d) => .ok (.val d) ρ
  | _ => .no
theorem okV_eq {o : Option O} {ρ ρ' : Env} {u : O} (h : okV o ρ = .ok u ρ') : ∃ d, o = some (.val d) ∧ u = .val d ∧ ρ' = ρ := by
  unfold okV at h
  split at h
  · cases h; exact ⟨_, rfl, rfl, rfl⟩
  · cases h
def m2 (op : O → O → Option O) (m n : M O) : M O := fun ρ => (m ρ).bind fun a ρ1 => (n ρ1).bind fun b ρ2 => okV (op a b) ρ2
def m1 (op : O → Option O) (m : M O) : M O := fun ρ => (m ρ).bind fun a ρ1 => okV (op a) ρ1
section
variable {X : Cx} {K : PySem.W.Frag} {mg : Str → Option Value}
theorem tOp_p {r : R2} {op : O → O → Option O} {f g : Pf} (h : OpV K mg r op) (σ : St) (H : Hp) (Q : VK) (q : tP K mg (p2 op f g) σ H Q) : tOp r (tP K mg f) (tP K mg g) σ H Q := by
  obtain ⟨ρ, T, B, o, c, R, e, k⟩ := q
  unfold p2 at e
  cases e1 : f ρ with
  | none => rw [e1] at e; cases e
  | some a =>
    cases e2 : g ρ with
    | none => rw [e1, e2] at e; cases e
    | some b =>
      rw [e1, e2] at e
      refine ⟨ρ, T, B, a, c, R, e1, fun x H1 s1 R1 => ⟨ρ, T, _, b, c, R1, e2, fun y H2 s2 R2 => ?_⟩⟩
      refine h H2 _ _ x y a b o Q R2 (by simp) (by simp) e fun v H3 s3 R3 => k v H3 (s1.trans (s2.trans s3)) (R3.bsub fun z hz => ?_)
      rcases List.mem_cons.mp hz with hz | hz
      · simp [hz]
      · simp [hz]
theorem tOp_m {r : R2} {op : O → O → Option O} {m n : M O} (h : OpV K mg r op) (σ : St) (H : Hp) (Q : VK) (q : tM K mg (m2 op m n) σ H Q) : tOp r (tM K mg m) (tM K mg n) σ H Q := by
  obtain ⟨ρ, T, o, ρ', c, R, e, k⟩ := q
  obtain ⟨a, ρ1, e1, e⟩ := Res.bind_eq e
  obtain ⟨b, ρ2, e2, e⟩ := Res.bind_eq e
  obtain ⟨d, e3, e4, e5⟩ := okV_eq e
  subst e4
  subst e5
  refine ⟨ρ, T, a, ρ1, c, R, e1, fun x H1 c1 R1 => ⟨ρ1, .ov x a :: T, b, ρ', c1, R1.perm List.perm_middle.symm, e2, fun y H2 c2 R2 => ?_⟩⟩
  -- y, the environment, x, T
  have R3 : Rep K mg H2 (.ov x a :: .ov y b :: (pairs σ ρ' ++ T)) [] := R2.perm ((List.perm_middle.cons _).trans (.swap _ _ _))
  have R4 := R3.lend.perm (.swap _ _ _) |>.lend
  refine h H2 _ _ x y a b _ Q R4 (by simp) (by simp) e3 fun v H3 _ R5 => k v H3 c2 ?_
  have R6 := R5.keep.nob
  exact ((R6.perm (.swap _ _ _)).drop.perm (.swap _ _ _)).drop
theorem tUn_p {r : V → Hp → VK → Prop} {op : O → Option O} {f : Pf} (h : UnV K mg r op) (σ : St) (H : Hp) (Q : VK) (q : tP K mg (p1 op f) σ H Q) : tUn r (tP K mg f) σ H Q := by
  obtain ⟨ρ, T, B, o, c, R, e, k⟩ := q
  unfold p1 at e
  cases e1 : f ρ with
  | none => rw [e1] at e; cases e
  | some a =>
    rw [e1] at e
    refine ⟨ρ, T, B, a, c, R, e1, fun x H1 s1 R1 => ?_⟩
    refine h H1 _ _ x a o Q R1 (by simp) e fun v H3 s3 R3 => k v H3 (s1.trans s3) (R3.bsub fun z hz => ?_)
    rcases List.mem_cons.mp hz with hz | hz
    · simp [hz]
    · simp [hz]
theorem tUn_m {r : V → Hp → VK → Prop} {op : O → Option O} {m : M O} (h : UnV K mg r op) (σ : St) (H : Hp) (Q : VK) (q : tM K mg (m1 op m) σ H Q) : tUn r (tM K mg m) σ H Q := by
  obtain ⟨ρ, T, o, ρ', c, R, e, k⟩ := q
  obtain ⟨a, ρ1, e1, e⟩ := Res.bind_eq e
  obtain ⟨d, e3, e4, e5⟩ := okV_eq e
  subst e4 e5
  refine ⟨ρ, T, a, ρ', c, R, e1, fun x H1 c1 R1 => ?_⟩
  refine h H1 _ _ x a _ Q R1.lend (by simp) e3 fun v H3 _ R5 => k v H3 c1 ?_
  exact (R5.keep.nob.perm (.swap _ _ _)).drop
theorem OpV.or {r r' : R2} {f g : O → O → Option O} (h : OpV K mg r f) (h' : OpV K mg r' g) : OpV K mg (fun x y H Q => r x y H Q ∨ r' x y H Q) (fun a b => (f a b).or (g a b)) := by
  intro H L B x y ox oy o Q R hx hy e k
  have e : (f ox oy).or (g ox oy) = some o := e
  cases e1 : f ox oy with
  | some u =>
    rw [e1] at e
    cases e
    exact .inl (h H L B x y ox oy _ Q R hx hy e1 k)
  | none =>
    rw [e1] at e
    exact .inr (h' H L B x y ox oy _ Q R hx hy e k)

/-! the shapes -/
variable {a b : Expr} {pos : Pos} {f g : Pf} {m n : M O} {r : R2} {op : O → O → Option O}
theorem sp_bin {o : Operator} (ho : OpR X (binaryOp o) r) (h : OpV X.K X.mg r op) (ha : SP X a f) (hb : SP X b g) : SP X (.BinOp a o b pos) (p2 op f g) := PE.imp (pe_op ho ha hb) (tOp_p h)
theorem se_bin {o : Operator} (ho : OpR X (binaryOp o) r) (h : OpV X.K X.mg r op) (ha : SE X a m) (hb : SE X b n) : SE X (.BinOp a o b pos) (m2 op m n) := PE.imp (pe_op ho ha hb) (tOp_m h)
theorem sp_cmp {o : CmpOp} (ho : OpR X (compareOp o) r) (h : OpV X.K X.mg r op) (ha : SP X a f) (hb : SP X b g) (hm : behindInMarks o b = false) : SP X (.Compare a [o] [b] pos) (p2 op f g) := PE.imp (pe_cmpR ho ha hb hm) (tOp_p h)
theorem se_cmp {o : CmpOp} (ho : OpR X (compareOp o) r) (h : OpV X.K X.mg r op) (ha : SE X a m) (hb : SE X b n) (hm : behindInMarks o b = false) : SE X (.Compare a [o] [b] pos) (m2 op m n) := PE.imp (pe_cmpR ho ha hb hm) (tOp_m h)
theorem sp_ix (ho : IxR X r) (h : OpV X.K X.mg r op) (ha : SP X a f) (hb : SP X b g) (hs : PlainIx b := by exact fun _ _ => rfl) : SP X (.Subscript a b pos) (p2 op f g) := PE.imp (pe_ix ho ha hb hs) (tOp_p h)
theorem se_ix (ho : IxR X r) (h : OpV X.K X.mg r op) (ha : SE X a m) (hb : SE X b n) (hs : PlainIx b := by exact fun _ _ => rfl) : SE X (.Subscript a b pos) (m2 op m n) := PE.imp (pe_ix ho ha hb hs) (tOp_m h)
theorem sp_un {o : UnaryOp} {r : V → Hp → VK → Prop} {op : O → Option O} (ho : UnR X (unaryOp o) r) (h : UnV X.K X.mg r op) (ha : SP X a f) : SP X (.UnaryOp o a pos) (p1 op f) := PE.imp (pe_un ho ha) (tUn_p h)
end
end FB

/-! Operations by values: arithmetic, comparisons, membership, subscripts. -/
namespace FB
open PySem PySem.Spec L2
open PyProof.Rows hiding St

/-! ### data as the library's data -/
theorem all_pds {ds : List D} {n : Nat} (h : ∀ d ∈ ds, d.pd.canLay0 = true ∧ d.pd.depth ≤ n) : PyData.canLayAll0 (D.pds ds) = true ∧ PyData.depthAll (D.pds ds) ≤ n := by
  induction ds with
  | nil => exact ⟨rfl, Nat.zero_le _⟩
  | cons d ds ih =>
    obtain ⟨h1, h2⟩ := h d (by simp)
    obtain ⟨h3, h4⟩ := ih fun e he => h e (by simp [he])
    refine ⟨?_, ?_⟩
    · show (d.pd.canLay0 && PyData.canLayAll0 (D.pds ds)) = true
      rw [h1, h3]; rfl
    · show max d.pd.depth (PyData.depthAll (D.pds ds)) ≤ n
      omega
section
variable {K : PySem.W.Frag} {mg : Str → Option Value} {G : Hp}
mutual
theorem Vw.lay : ∀ {v : V} {d : D} (n : Nat), Vw K mg G v d → d.okE n = true → d.pd.canLay0 = true ∧ d.pd.depth ≤ n
  | _, _, n, .non, _ => ⟨rfl, Nat.zero_le _⟩
  | _, _, n, .bl b, _ => ⟨rfl, Nat.zero_le _⟩
  | _, _, n, .int i, _ => ⟨rfl, Nat.zero_le _⟩
  | _, _, n, .str s h, _ => ⟨h, Nat.zero_le _⟩
  | _, _, 0, .tup _ _, e => by cases e
  | _, _, n + 1, .tup _ hs, e => by
    obtain ⟨a, b⟩ := all_pds (Vws.lay n hs e)
    exact ⟨a, Nat.succ_le_succ b⟩
  | _, _, 0, .lst _ _, e => by cases e
  | _, _, n + 1, .lst _ hs, e => by
    obtain ⟨a, b⟩ := all_pds (Vws.lay n hs e)
    exact ⟨a, Nat.succ_le_succ b⟩
  | _, _, n, .dct _ _ _, e => by cases n <;> cases e
  | _, _, n, .ins _ _ _ _, e => by cases n <;> cases e
  | _, _, n, .scr _, e => by cases n <;> cases e
  | _, _, n, .fn _, e => by cases n <;> cases e
theorem Vws.lay : ∀ {vs : List V} {ds : List D} (n : Nat), Vws K mg G vs ds → ds.all (D.okE n) = true → ∀ d ∈ ds, d.pd.canLay0 = true ∧ d.pd.depth ≤ n
  | _, _, n, .nil, _ => fun d hd => by simp at hd
  | _, _, n, .cons h t, e => fun d hd => by
    rw [List.all_cons, Bool.and_eq_true] at e
    rcases List.mem_cons.mp hd with q | hd
    · rw [q]; exact Vw.lay n h e.1
    · exact Vws.lay n t e.2 d hd
end
theorem Vw.shaped {v : V} {d : D} (h : Vw K mg G v d) (e : d.okE 9 = true) : SeqAt.shaped d.pd = true := by
  obtain ⟨a, b⟩ := h.lay 9 e
  unfold SeqAt.shaped
  rw [a, decide_eq_true (by omega : d.pd.depth ≤ 64)]
  rfl
mutual
theorem Vw.dp : ∀ {v : V} {d : D} (n : Nat), Vw K mg G v d → d.okE n = true → Dp K G v d.pd
  | _, _, n, .non, _ => .non
  | _, _, n, .bl b, _ => .bl b
  | _, _, n, .int i, _ => .int i
  | _, _, n, .str s h, _ => .str s
  | _, _, 0, .tup _ _, e => by cases e
  | _, _, n + 1, .tup h hs, e => .tup h (Vws.dp n hs e)
  | _, _, 0, .lst _ _, e => by cases e
  | _, _, n + 1, .lst h hs, e => .lst (.inl h) (Vws.dp n hs e)
  | _, _, n, .dct _ _ _, e => by cases n <;> cases e
  | _, _, n, .ins _ _ _ _, e => by cases n <;> cases e
  | _, _, n, .scr _, e => by cases n <;> cases e
  | _, _, n, .fn _, e => by cases n <;> cases e
theorem Vws.dp : ∀ {vs : List V} {ds : List D} (n : Nat), Vws K mg G vs ds → ds.all (D.okE n) = true → DpAll K G vs (D.pds ds)
  | _, _, n, .nil, _ => .nil
  | _, _, n, .cons h t, e => by
    rw [List.all_cons, Bool.and_eq_true] at e
    exact .cons (Vw.dp n h e.1) (Vws.dp n t e.2)
end
end
/-! ### arithmetic -/
def lift2 (f : D → D → Option D) : O → O → Option O := fun a b => (a.sh).bind fun x => (b.sh).bind fun y => (f x y).map O.val
theorem lift2_eq {f : D → D → Option D} {a b o : O} (h : lift2 f a b = some o) : ∃ x y d, a.sh = some x ∧ b.sh = some y ∧ f x y = some d ∧ o = .val d := by
  unfold lift2 at h
  cases e1 : a.sh with
  | none => rw [e1] at h; cases h
  | some x =>
    cases e2 : b.sh with
    | none => rw [e1, e2] at h; cases h
    | some y =>
      rw [e1, e2] at h
      have h : (f x y).map O.val = some o := h
      cases e3 : f x y with
      | none => rw [e3] at h; cases h
      | some d => rw [e3] at h; cases h; exact ⟨x, y, d, rfl, rfl, e3, rfl⟩
def addD : D → D → Option D
  | .int i, .int j => some (.int (i + j))
  | .str s, .str t => if s.length + t.length ≤ 1000000 then some (.str (s ++ t)) else none
  | .lst xs, .lst ys => if xs.length + ys.length ≤ 1000000 then some (.lst (xs ++ ys)) else none
  | .tup xs, .tup ys => if xs.length + ys.length ≤ 1000000 then some (.tup (xs ++ ys)) else none
  | _, _ => none
def subD : D → D → Option D
  | .int i, .int j => some (.int (i - j))
  | _, _ => none
def mulOk (i j : Int) : Bool := decide (i.natAbs < 2 ^ 64) || decide (j.natAbs < 2 ^ 64) || decide (i.natAbs.log2 + j.natAbs.log2 < 1000000)
def repS (s : Str) (k : Nat) : Str := ⟨(List.replicate k s.cps.toList).flatten.toArray⟩
def mulD : D → D → Option D
  | .int i, .int j => if mulOk i j then some (.int (i * j)) else none
  | .lst xs, .int k => if k < 1000000 ∧ -1000000 < k ∧ xs.length * k.toNat ≤ 1000000 then some (.lst (List.replicate k.toNat xs).flatten) else none
  | .str s, .int k => if k < 1000000 ∧ -1000000 < k ∧ s.length * k.toNat ≤ 1000000 then some (.str (repS s k.toNat)) else none
  | _, _ => none
def fdivD : D → D → Option D
  | .int i, .int j => if 0 < j ∧ j.natAbs.log2 < 9000 then some (.int (i / j)) else none
  | _, _ => none
def modD : D → D → Option D
  | .int i, .int j => if 0 < j then some (.int (i % j)) else none
  | _, _ => none
def powD : D → D → Option D
  | .int i, .int j => if 0 ≤ j ∧ j ≤ 1000000 ∧ i.natAbs < 2 ^ 64 then some (.int (i ^ j.toNat)) else none
  | _, _ => none
def ltD : D → D → Option D
  | .int i, .int j => some (.bl (decide (i < j)))
  | _, _ => none
def leD : D → D → Option D
  | .int i, .int j => some (.bl (decide (i ≤ j)))
  | _, _ => none
def gtD : D → D → Option D
  | .int i, .int j => some (.bl (decide (j < i)))
  | _, _ => none
def geD : D → D → Option D
  | .int i, .int j => some (.bl (decide (j ≤ i)))
  | _, _ => none
theorem line6 {n : Nat} (h : n ≤ 1000000) : n ≤ sizeLine := by rw [sizeLine_eq]; omega
theorem strOk_append {s t : Str} (hs : PyData.strOk s = true) (ht : PyData.strOk t = true) : PyData.strOk (s ++ t) = true := by
  show ((s.cps ++ t.cps).all _) = true
  rw [Array.all_append, Bool.and_eq_true]
  exact ⟨hs, ht⟩
section
variable {K : PySem.W.Frag} {mg : Str → Option Value} {H : Hp} {L : List Item} {B : List (V × O)}
theorem Rep.strOk {x : V} {o : O} {s : Str} (h : Rep K mg H L B) (hx : (x, o) ∈ B) (e : o.sh = some (.str s)) : PyData.strOk s = true := by
  have q := h.sh hx e
  cases q with
  | str _ h => exact h
theorem Rep.bdup {b : V × O} (h : Rep K mg H L B) (hb : b ∈ B) : Rep K mg H L (b :: B) := h.bsub fun z hz => by
  rcases List.mem_cons.mp hz with e | hz
  · rw [e]; exact hb
  · exact hz
/-- a new list lent -/
theorem Rep.lentL {vs : List V} {ds : List D} {p : Addr} (h : Rep K mg H (zipI vs (ds.map O.val) ++ L) B) (e : vs.length = ds.length) (hp : H p = none) : Rep K mg (upd H p (.lst vs)) L ((.ref p, .val (.lst ds)) :: B) := by
  obtain ⟨A, nd, ok, hb⟩ := h
  obtain ⟨bs, cs, e2, t1, t2⟩ := ok.split
  subst e2
  obtain ⟨q, e3⟩ := VOs.of_vals (IsOk.unzip (by simpa using e) t1)
  subst e3
  have hA : p ∉ cs := fun z => by
    obtain ⟨u, q⟩ := t2.dom p z
    rw [hp] at q; cases q
  have s : Same (hide H ([] ++ cs)) (hide (upd H p (.lst vs)) cs) := hide_same fun a u ha q => ⟨ha, by rw [upd_ne (ne_of_none q hp)]; exact q⟩
  have hu : ∀ a ∈ cs, upd H p (.lst vs) a = H a := fun a ha => upd_ne fun z => hA (z ▸ ha)
  refine ⟨cs, nd, t2.mono s hu, fun b hb' => ?_⟩
  rcases List.mem_cons.mp hb' with e4 | hb'
  · subst e4
    exact ⟨[], .val (.lst (.inl (by rw [hide_out hA]; exact upd_same)) (q.mono s)), by simp⟩
  · obtain ⟨as, h1, h2⟩ := hb b hb'
    exact ⟨as, h1.mono s fun a ha => hu a (h2 a ha), h2⟩
theorem Rep.lentT {vs : List V} {ds : List D} {p : Addr} (h : Rep K mg H (zipI vs (ds.map O.val) ++ L) B) (e : vs.length = ds.length) (hp : H p = none) : Rep K mg (upd H p (.tup vs)) L ((.ref p, .val (.tup ds)) :: B) := by
  obtain ⟨A, nd, ok, hb⟩ := h
  obtain ⟨bs, cs, e2, t1, t2⟩ := ok.split
  subst e2
  obtain ⟨q, e3⟩ := VOs.of_vals (IsOk.unzip (by simpa using e) t1)
  subst e3
  have hA : p ∉ cs := fun z => by
    obtain ⟨u, q⟩ := t2.dom p z
    rw [hp] at q; cases q
  have s : Same (hide H ([] ++ cs)) (hide (upd H p (.tup vs)) cs) := hide_same fun a u ha q => ⟨ha, by rw [upd_ne (ne_of_none q hp)]; exact q⟩
  have hu : ∀ a ∈ cs, upd H p (.tup vs) a = H a := fun a ha => upd_ne fun z => hA (z ▸ ha)
  refine ⟨cs, nd, t2.mono s hu, fun b hb' => ?_⟩
  rcases List.mem_cons.mp hb' with e4 | hb'
  · subst e4
    exact ⟨[], .val (.tup (.inl (.inl (by rw [hide_out hA]; exact upd_same))) (q.mono s)), by simp⟩
  · obtain ⟨as, h1, h2⟩ := hb b hb'
    exact ⟨as, h1.mono s fun a ha => hu a (h2 a ha), h2⟩
end
/-! ### the rules over what may be read -/
section
variable {X : Cx}
theorem Inv.rdL {pins : List (Addr × Obj)} {σ : St} {H : Hp} {s : Shared} {l : Addr} {xs : List V} (I : Inv X pins σ H s) (h : Rd H l (.lst xs)) : xs.length ≤ sizeLine ∧ ∃ (its : List Value) (n : Nat), Vals xs its ∧ xs.length = its.length ∧ s.heap.get? l = some { cls := .type "list", data := .seq its.toArray n } := by
  obtain ⟨z, its, n, r, e⟩ := h.ok I.hok
  exact ⟨z, its, n, r, r.length, e⟩
def rCatR : R2 := fun x y H Q => ∃ l b xs zs, x = .ref l ∧ y = .ref b ∧ Rd H l (.lst xs) ∧ Rd H b (.lst zs) ∧ xs.length + zs.length ≤ sizeLine ∧ ∀ p, H p = none → Q (.ref p) (upd H p (.lst (xs ++ zs)))
theorem op_catR : OpR X (binaryOp .Add) rCatR := by
  intro pins s σ H x y v u Q I rx ry h
  obtain ⟨l, b, xs, zs, rfl, rfl, hH, hB, hz, q⟩ := h
  cases rx
  cases ry
  obtain ⟨z, its, n, r, hl, e⟩ := Inv.rdL I hH
  obtain ⟨z2, its2, n2, r2, hl2, e2⟩ := Inv.rdL I hB
  refine PySem.P.add_list e e2 ?_ (by rw [List.size_toArray, List.size_toArray]; omega)
  have ea : its.toArray ++ its2.toArray = (its ++ its2).toArray := by simp
  rw [ea]
  exact ⟨.ref _, _, I.lnew (t' := s.toks) (r.append r2) (by rw [List.length_append]; omega), rfl, q _ I.fresh⟩
def rRepR : R2 := fun x y H Q => ∃ l k xs, x = .ref l ∧ y = .int k ∧ Rd H l (.lst xs) ∧ -(2 ^ 63) ≤ k ∧ k < 2 ^ 63 ∧ xs.length * k.toNat ≤ sizeLine ∧
  ∀ p, H p = none → Q (.ref p) (upd H p (.lst (List.replicate k.toNat xs).flatten))
theorem op_repR : OpR X (binaryOp .Mult) rRepR := by
  intro pins s σ H x y v u Q I rx ry h
  obtain ⟨l, k, xs, rfl, rfl, hH, h1, h2, hz, q⟩ := h
  cases rx
  obtain ⟨t, rfl⟩ := ry
  obtain ⟨z, its, n, r, hl, e⟩ := Inv.rdL I hH
  have hlen : its.toArray.size * k.toNat ≤ sizeLine := by rw [List.size_toArray, ← hl]; exact hz
  have hcap : ¬ its.toArray.size * k.toNat > (2 ^ 63 - 1) / 8 := by
    have : (sizeLine : Nat) ≤ (2 ^ 63 - 1) / 8 := by decide
    omega
  have hfit : ¬ (!Builtin.List.listFitsIndex k) = true := by
    rw [fitsIndex_both h1 h2]
    exact Bool.false_ne_true
  have hlong : ¬ Builtin.List.listTooLong (its.toArray.size * k.toNat) = true := by
    rw [notLongL hlen]
    exact Bool.false_ne_true
  have hnew : List.foldl (fun x1 x2 => x1 ++ x2) #[] (List.replicate (if its.toArray.isEmpty = true then 0 else k.toNat) its.toArray) = (List.replicate k.toNat its).flatten.toArray := by
    have f0 : ∀ m : Nat, List.foldl (fun x1 x2 => x1 ++ x2) #[] (List.replicate m its.toArray) = (List.replicate m its).flatten.toArray := fun m => by
      have := foldl_rep its m []
      rw [List.nil_append] at this
      exact this
    rw [f0]
    cases its with
    | nil => simp
    | cons a r' => rw [if_neg (by simp)]
  refine wpAny_binaryOp_repeat_ref (T := "list") (U := "int") (by decide) ⟨_, e, rfl⟩ (fun s' => typeIs_int s' k t) noFill_list_mul F.fills_int_mul F.slot_int_rmul repeat_list F.slot_int_index.lookup
    (call_meets F.slot_int_rmul (typeIs_int s k t) F.entry_int_rmul (F.args_int_rmul_2 _ _) (int___rmul___int_list k t l its.toArray n)
      ⟨e, rfl, ⟨_, e, rfl⟩, call_meets F.slot_list_mul ⟨_, e, rfl⟩ F.entry_list_mul (F.args_list_mul_2 _ _) (AutoListH.list___mul___list_int_3 l its.toArray n k t hfit hcap hlong) ⟨e, ?_⟩⟩)
  rw [hnew]
  exact ⟨.ref _, _, I.lnew (t' := s.toks) (r.rep k.toNat) (by rw [PyProof.Rows.lm_len_rep_flat, Nat.mul_comm]; exact hz), rfl, q _ I.fresh⟩
end

theorem Rep.nth {K : PySem.W.Frag} {mg : Str → Option Value} {H : Hp} {L : List Item} {B : List (V × O)} {vs : List V} {ds : List D} {i : Nat} {v : V} {d : D} (h : Rep K mg H (zipI vs (ds.map O.val) ++ L) B) (h1 : vs[i]? = some v) (h2 : ds[i]? = some d) : Rep K mg H L ((v, .val d) :: B) := by
  obtain ⟨A, nd, ok, hb⟩ := h
  obtain ⟨bs, cs, e2, t1, t2⟩ := ok.split
  have hv : ∀ {vs : List V} {ds : List D} {as : List Addr} {i : Nat} {v : V} {d : D}, IsOk K mg (hide H A) H (zipI vs (ds.map O.val)) as → vs[i]? = some v → ds[i]? = some d → Vw K mg (hide H A) v d := by
    intro vs
    induction vs with
    | nil => intro ds as i v d _ h1 _; simp at h1
    | cons w vs ih =>
      intro ds as i v d t h1 h2
      cases ds with
      | nil => simp at h2
      | cons e ds =>
        cases t with
        | cons t r =>
          cases i with
          | zero =>
            simp at h1 h2
            subst h1 h2
            cases t with
            | ov t => cases t with
              | val t => exact t
          | succ i => exact ih r (by simpa using h1) (by simpa using h2)
  have q := hv t1 h1 h2
  have e0 : ∀ {vs : List V} {ds : List D} {as : List Addr}, IsOk K mg (hide H A) H (zipI vs (ds.map O.val)) as → as = [] := by
    intro vs
    induction vs with
    | nil => intro ds as t; cases ds <;> cases t <;> rfl
    | cons w vs ih =>
      intro ds as t
      cases ds with
      | nil => cases t; rfl
      | cons e ds =>
        cases t with
        | cons t r =>
          have := ih r
          subst this
          cases t with
          | ov t => cases t with
            | val t => rfl
  have e3 := e0 t1
  subst e3
  rw [List.nil_append] at e2
  subst e2
  refine ⟨A, nd, t2, fun b hb' => ?_⟩
  rcases List.mem_cons.mp hb' with e4 | hb'
  · subst e4; exact ⟨[], .val q, by simp⟩
  · exact hb b hb'

section
variable {X : Cx} {K : PySem.W.Frag} {mg : Str → Option Value}
/-- ints in, a shown scalar out -/
theorem opv_int0 {g : Int → Int → V} {f : D → D → Option D} (hf : ∀ x y d, f x y = some d → ∃ i j, x = .int i ∧ y = .int j ∧ ∀ G, Vw K mg G (g i j) d) : OpV K mg (rI0 g) (lift2 f) := by
  intro H L B x y ox oy o Q R hx hy e k
  obtain ⟨a, b, d, e1, e2, e3, rfl⟩ := lift2_eq e
  obtain ⟨i, j, rfl, rfl, hv⟩ := hf a b d e3
  exact ⟨i, j, R.shInt hx e1, R.shInt hy e2, k _ _ (Same.refl _) (R.scalB hv)⟩
theorem opv_int {C : Int → Int → Prop} {g : Int → Int → V} {f : D → D → Option D} (hf : ∀ x y d, f x y = some d → ∃ i j, x = .int i ∧ y = .int j ∧ C i j ∧ ∀ G, Vw K mg G (g i j) d) : OpV K mg (rI C g) (lift2 f) := by
  intro H L B x y ox oy o Q R hx hy e k
  obtain ⟨a, b, d, e1, e2, e3, rfl⟩ := lift2_eq e
  obtain ⟨i, j, rfl, rfl, hc, hv⟩ := hf a b d e3
  exact ⟨i, j, R.shInt hx e1, R.shInt hy e2, hc, k _ _ (Same.refl _) (R.scalB hv)⟩
def rAddF (K : PySem.W.Frag) : R2 := fun x y H Q => rI0 (fun i j => .int (i + j)) x y H Q ∨ ((∃ i j, x = .str i ∧ y = .str j ∧ i.length + j.length ≤ sizeLine ∧ Q (.str (i ++ j)) H) ∨ (rCatR x y H Q ∨ rCatA K x y H Q))
theorem op_addF : OpR X (binaryOp .Add) (rAddF X.K) := op_add.or (op_add_str.or (op_catR.or op_catA))
theorem opv_add : OpV K mg (rAddF K) (lift2 addD) := by
  intro H L B x y ox oy o Q R hx hy e k
  obtain ⟨a, b, d, e1, e2, e3, rfl⟩ := lift2_eq e
  unfold addD at e3
  split at e3
  · cases e3
    exact .inl ⟨_, _, R.shInt hx e1, R.shInt hy e2, k _ _ (Same.refl _) (R.scalB fun _ => .int _)⟩
  · split at e3
    · cases e3
      rename_i h
      refine .inr (.inl ⟨_, _, R.shStr hx e1, R.shStr hy e2, line6 h, k _ _ (Same.refl _) (R.scalB fun _ => .str _ (strOk_append (R.strOk hx e1) (R.strOk hy e2)))⟩)
    · cases e3
  · split at e3
    · cases e3
      rename_i xs ys h
      obtain ⟨p, vs, rfl, hp, lp, R1⟩ := R.shL hx e1
      obtain ⟨q, ws, rfl, hq, lq, R2⟩ := R1.shL hy e2
      refine .inr (.inr (.inl ⟨p, q, vs, ws, rfl, rfl, hp, hq, line6 (by omega), fun r hr => k _ _ (sameNew hr) ?_⟩))
      refine Rep.lentL (vs := vs ++ ws) (ds := xs ++ ys) ?_ (by simp [lp, lq]) hr
      have ez : zipI (vs ++ ws) ((xs ++ ys).map O.val) = zipI vs (xs.map O.val) ++ zipI ws (ys.map O.val) := by
        unfold zipI
        rw [List.map_append, List.zipWith_append (by simpa using lp)]
      rw [ez, List.append_assoc]
      exact R2.perm (by rw [← List.append_assoc, ← List.append_assoc]; exact List.perm_append_comm.append_right L)
    · cases e3
  · split at e3
    · cases e3
      rename_i xs ys h
      obtain ⟨p, vs, rfl, hp, lp, R1⟩ := R.shT hx e1
      obtain ⟨q, ws, rfl, hq, lq, R2⟩ := R1.shT hy e2
      have ea := sh_val_of e1 (fun _ => by intro z; cases z) (fun _ _ => by intro z; cases z) (fun _ _ _ => by intro z; cases z)
      have eb := sh_val_of e2 (fun _ => by intro z; cases z) (fun _ _ => by intro z; cases z) (fun _ _ _ => by intro z; cases z)
      subst ea eb
      refine .inr (.inr (.inr ⟨p, q, vs, ws, rfl, rfl, hp, hq, line6 (by omega), fun e => k _ _ (Same.refl _) ?_, fun _ e => k _ _ (Same.refl _) ?_, fun _ _ r hr => k _ _ (sameNew hr) ?_⟩))
      · have : xs = [] := List.eq_nil_of_length_eq_zero (by rw [← lp, e]; rfl)
        subst this
        exact R.bdup hy
      · have : ys = [] := List.eq_nil_of_length_eq_zero (by rw [← lq, e]; rfl)
        subst this
        rw [List.append_nil]
        exact R.bdup hx
      · refine Rep.lentT (vs := vs ++ ws) (ds := xs ++ ys) ?_ (by simp [lp, lq]) hr
        have ez : zipI (vs ++ ws) ((xs ++ ys).map O.val) = zipI vs (xs.map O.val) ++ zipI ws (ys.map O.val) := by
          unfold zipI
          rw [List.map_append, List.zipWith_append (by simpa using lp)]
        rw [ez, List.append_assoc]
        exact R2.perm (by rw [← List.append_assoc, ← List.append_assoc]; exact List.perm_append_comm.append_right L)
    · cases e3
  · cases e3
theorem opv_sub : OpV K mg (rI0 fun i j => .int (i - j)) (lift2 subD) := opv_int0 fun x y d e => by
  unfold subD at e
  split at e
  · cases e; exact ⟨_, _, rfl, rfl, fun _ => .int _⟩
  · cases e
theorem opv_lt : OpV K mg (rI0 fun i j => .bl (decide (i < j))) (lift2 ltD) := opv_int0 fun x y d e => by
  unfold ltD at e
  split at e
  · cases e; exact ⟨_, _, rfl, rfl, fun _ => .bl _⟩
  · cases e
theorem opv_le : OpV K mg (rI0 fun i j => .bl (decide (i ≤ j))) (lift2 leD) := opv_int0 fun x y d e => by
  unfold leD at e
  split at e
  · cases e; exact ⟨_, _, rfl, rfl, fun _ => .bl _⟩
  · cases e
theorem opv_gt : OpV K mg (rI0 fun i j => .bl (decide (j < i))) (lift2 gtD) := opv_int0 fun x y d e => by
  unfold gtD at e
  split at e
  · cases e; exact ⟨_, _, rfl, rfl, fun _ => .bl _⟩
  · cases e
theorem opv_ge : OpV K mg (rI0 fun i j => .bl (decide (j ≤ i))) (lift2 geD) := opv_int0 fun x y d e => by
  unfold geD at e
  split at e
  · cases e; exact ⟨_, _, rfl, rfl, fun _ => .bl _⟩
  · cases e
theorem opv_fdiv : OpV K mg (rI CDivW fun i j => .int (i / j)) (lift2 fdivD) := opv_int fun x y d e => by
  unfold fdivD at e
  split at e
  · split at e
    · rename_i h
      cases e; exact ⟨_, _, rfl, rfl, h, fun _ => .int _⟩
    · cases e
  · cases e
theorem opv_mod : OpV K mg (rI (fun _ j => 0 < j) fun i j => .int (i % j)) (lift2 modD) := opv_int fun x y d e => by
  unfold modD at e
  split at e
  · split at e
    · rename_i h
      cases e; exact ⟨_, _, rfl, rfl, h, fun _ => .int _⟩
    · cases e
  · cases e
theorem opv_pow : OpV K mg (rI CPow fun i j => .int (i ^ j.toNat)) (lift2 powD) := opv_int fun x y d e => by
  unfold powD at e
  split at e
  · split at e
    · rename_i h
      cases e; exact ⟨_, _, rfl, rfl, h, fun _ => .int _⟩
    · cases e
  · cases e
theorem foldl_repN (its : List Nat) : ∀ (k : Nat) (acc : List Nat), List.foldl (fun x1 x2 => x1 ++ x2) acc.toArray (List.replicate k its.toArray) = (acc ++ (List.replicate k its).flatten).toArray
  | 0, acc => by simp
  | k + 1, acc => by
    have e : acc.toArray ++ its.toArray = (acc ++ its).toArray := by simp
    rw [List.replicate_succ, List.foldl_cons, e, foldl_repN its k, List.replicate_succ, List.flatten_cons, List.append_assoc]
/-- a text again and again -/
def rRepS : R2 := fun x y H Q => ∃ s k, x = .str s ∧ y = .int k ∧ k < 1000000 ∧ -1000000 < k ∧ s.length * k.toNat ≤ 1000000 ∧ Q (.str (repS s k.toNat)) H
theorem op_repS : OpR X (binaryOp .Mult) rRepS := by
  intro pins s σ H x y v u Q I rx ry h
  obtain ⟨z, k, rfl, rfl, h1, h2, h3, q⟩ := h
  obtain ⟨t, rfl⟩ := rx
  obtain ⟨t', rfl⟩ := ry
  have hl : z.cps.toList.length = z.length := by simp [Str.length]
  refine P.mul_str ?_ ?_ ?_ ?_
  · have l63 : (2 : Int) ^ 63 = 9223372036854775808 := by decide
    rw [l63]
    have d1 : ¬ k < -9223372036854775808 := by omega
    have d2 : ¬ k ≥ 9223372036854775808 := by omega
    rw [decide_eq_false d1, decide_eq_false d2]; rfl
  · intro a1 _ a3
    have hk : 1 ≤ k := by omega
    have h4 : (z.length : Int) * k ≤ 1000000 := by
      have : (z.length : Int) * (k.toNat : Int) ≤ 1000000 := by rw [← Int.natCast_mul]; exact Int.ofNat_le.mpr h3
      rwa [show ((k.toNat : Nat) : Int) = k by omega] at this
    have l63 : (2 : Int) ^ 63 = 9223372036854775808 := by decide
    have h6 : (z.length : Int) ≤ (9223372036854775808 - 1) / k := Int.le_ediv_of_mul_le (by omega) (Int.le_trans h4 (by decide))
    rw [l63] at a3
    exact absurd a3 (Int.not_lt.mpr h6)
  · intro _ _
    unfold Builtin.Str.tooLong
    have : ¬ z.length * k.toNat > sizeLine := by rw [sizeLine_eq]; omega
    exact decide_eq_false this
  · by_cases a1 : k < 1
    · rw [if_pos a1]
      have e : repS z k.toNat = Str.empty := by unfold repS; rw [show k.toNat = 0 by omega]; rfl
      rw [e] at q
      exact ⟨by decide, .str Str.empty, H, I.tok _, ⟨_, rfl⟩, q⟩
    · rw [if_neg a1]
      by_cases a2 : (k == 1 || z.length == 0) = true
      · rw [if_pos a2]
        have e : repS z k.toNat = z := by
          unfold repS
          rw [Bool.or_eq_true, beq_iff_eq, beq_iff_eq] at a2
          rcases a2 with a2 | a2
          · rw [show k.toNat = 1 by omega]; simp
          · have : z.cps.toList = [] := by rw [← hl] at a2; exact List.eq_nil_of_length_eq_zero a2
            rw [this]
            have z0 : z = ⟨#[]⟩ := by
              cases z with
              | mk a =>
                have : a = #[] := by apply Array.toList_inj.mp; exact this
                rw [this]
            rw [z0]
            have : ∀ m : Nat, (List.replicate m ([] : List Nat)).flatten = [] := fun m => by simp
            rw [this]
        rw [e] at q
        exact ⟨.str z, H, I, ⟨_, rfl⟩, q⟩
      · rw [if_neg a2]
        have e : (⟨(List.replicate k.toNat z.cps).foldl (· ++ ·) #[]⟩ : Str) = repS z k.toNat := by
          unfold repS
          have := foldl_repN z.cps.toList k.toNat []
          rw [List.nil_append] at this
          rw [← this]
        rw [e]
        refine ⟨?_, .str (repS z k.toNat), H, I.tok _, ⟨_, rfl⟩, q⟩
        have : (repS z k.toNat).length ≤ 1000000 := by
          show (repS z k.toNat).cps.size ≤ _
          unfold repS
          simp
          rw [show z.cps.size = z.length from rfl, Nat.mul_comm]; exact h3
        first
          | (rw [sizeLine_eq]; omega)
          | (have := this; show _ ≤ sizeLine; rw [sizeLine_eq]; omega)
theorem repS_ok {s : Str} (h : PyData.strOk s = true) (k : Nat) : PyData.strOk (repS s k) = true := by
  have q : ∀ c ∈ s.cps.toList, decide (c < 0x110000) = true := by
    have h : s.cps.all (· < 0x110000) = true := h
    rw [← Array.all_toList, List.all_eq_true] at h
    exact h
  show (repS s k).cps.all (· < 0x110000) = true
  rw [← Array.all_toList, List.all_eq_true]
  intro c hc
  have hc : c ∈ (List.replicate k s.cps.toList).flatten := hc
  obtain ⟨l, hl, hm⟩ := List.mem_flatten.mp hc
  rw [(List.mem_replicate.mp hl).2] at hm
  exact q c hm
def rMulF (K : PySem.W.Frag) : R2 := fun x y H Q => rI CMul (fun i j => .int (i * j)) x y H Q ∨ (rI CMulW (fun i j => .int (i * j)) x y H Q ∨ (rRepR x y H Q ∨ rRepS x y H Q))
theorem op_mulF : OpR X (binaryOp .Mult) (rMulF X.K) := op_mul.or (op_mulW.or (op_repR.or op_repS))
theorem zip_rep (vs : List V) (xs : List D) (lp : vs.length = xs.length) : ∀ n : Nat, zipI (List.replicate n vs).flatten ((List.replicate n xs).flatten.map O.val) = (List.replicate n (zipI vs (xs.map O.val))).flatten
  | 0 => rfl
  | n + 1 => by
    rw [List.replicate_succ, List.replicate_succ, List.replicate_succ, List.flatten_cons, List.flatten_cons, List.flatten_cons, ← zip_rep vs xs lp n]
    unfold zipI
    rw [List.map_append, List.zipWith_append (by simpa using lp)]
theorem len_rep {α β : Type} (vs : List α) (xs : List β) (lp : vs.length = xs.length) : ∀ n : Nat, (List.replicate n vs).flatten.length = (List.replicate n xs).flatten.length
  | 0 => rfl
  | n + 1 => by rw [List.replicate_succ, List.replicate_succ, List.flatten_cons, List.flatten_cons, List.length_append, List.length_append, lp, len_rep vs xs lp n]
/-- shared items again and again -/
theorem Rep.again {H : Hp} {L : List Item} {B : List (V × O)} {vs : List V} {xs : List D} (R : Rep K mg H (zipI vs (xs.map O.val) ++ L) B) : ∀ n : Nat, Rep K mg H ((List.replicate n (zipI vs (xs.map O.val))).flatten ++ L) B
  | 0 => R.dropVs
  | n + 1 => by
    have ih := Rep.again R n
    obtain ⟨A, nd, ok, hb⟩ := R
    obtain ⟨A', nd', ok', hb'⟩ := ih
    obtain ⟨bs, cs, e2, t1, t2⟩ := ok.split
    have e0 : ∀ {vs : List V} {ds : List D} {as : List Addr}, IsOk K mg (hide H A) H (zipI vs (ds.map O.val)) as → as = [] := by
      intro vs
      induction vs with
      | nil => intro ds as t; cases ds <;> cases t <;> rfl
      | cons w vs ih =>
        intro ds as t
        cases ds with
        | nil => cases t; rfl
        | cons e ds =>
          cases t with
          | cons t r =>
            have := ih r
            subst this
            cases t with
            | ov t => cases t with
              | val t => rfl
    have e3 := e0 t1
    subst e3
    rw [List.nil_append] at e2
    subst e2
    refine ⟨A, nd, ?_, hb⟩
    rw [List.replicate_succ, List.flatten_cons, List.append_assoc]
    refine IsOk.append (as := []) t1 ?_
    clear hb' ok' nd' ok hb
    induction n with
    | zero => exact t2
    | succ n ih =>
      rw [List.replicate_succ, List.flatten_cons, List.append_assoc]
      exact IsOk.append (as := []) t1 ih
theorem opv_mul : OpV K mg (rMulF K) (lift2 mulD) := by
  intro H L B x y ox oy o Q R hx hy e k
  obtain ⟨a, b, d, e1, e2, e3, rfl⟩ := lift2_eq e
  unfold mulD at e3
  split at e3
  · split at e3
    · rename_i i j h
      cases e3
      have q := k _ H (Same.refl _) (R.scalB (v := .int (i * j)) (d := .int (i * j)) fun _ => .int _)
      unfold mulOk at h
      simp only [Bool.or_eq_true, decide_eq_true_eq] at h
      rcases h with (h | h) | h
      · exact .inl ⟨i, j, R.shInt hx e1, R.shInt hy e2, .inl (by omega), q⟩
      · exact .inl ⟨i, j, R.shInt hx e1, R.shInt hy e2, .inr (by omega), q⟩
      · exact .inr (.inl ⟨i, j, R.shInt hx e1, R.shInt hy e2, h, q⟩)
    · cases e3
  · split at e3
    · rename_i xs j h
      cases e3
      obtain ⟨p, vs, rfl, hp, lp, R1⟩ := R.shL hx e1
      obtain ⟨h1, h2, h3⟩ := h
      refine .inr (.inr (.inl ⟨p, j, vs, rfl, R.shInt hy e2, hp, by omega, by omega, line6 (by rw [lp]; exact h3), fun r hr => k _ _ (sameNew hr) ?_⟩))
      refine Rep.lentL ?_ (len_rep _ _ lp _) hr
      rw [zip_rep _ _ lp]
      exact Rep.again R1 _
    · cases e3
  · split at e3
    · rename_i s j h
      cases e3
      obtain ⟨h1, h2, h3⟩ := h
      exact .inr (.inr (.inr ⟨s, j, R.shStr hx e1, R.shInt hy e2, h1, h2, h3, k _ _ (Same.refl _) (R.scalB fun _ => .str _ (repS_ok (R.strOk hx e1) _))⟩))
    · cases e3
  · cases e3
end
end FB

/-! Comparisons, membership, subscripts, slices, built-ins. -/
namespace FB
open PySem PySem.Spec L2
open PyProof.Rows hiding St

section
variable {X : Cx} {K : PySem.W.Frag} {mg : Str → Option Value}
/-! ### == and != -/
def neO (a b : O) : Option O := if (a.toD.okE 9 && b.toD.okE 9) = true then some (.val (.bl (!a.toD.eqv b.toD))) else none
theorem opv_eq : OpV K mg (rEqD K) eqO := by
  intro H L B x y ox oy o Q R hx hy e k
  unfold eqO at e
  split at e
  · rename_i h
    cases e
    rw [Bool.and_eq_true] at h
    have v1 : Vw K mg H x ox.toD := R.view hx
    have v2 : Vw K mg H y oy.toD := R.view hy
    exact ⟨_, _, v1.dp 9 h.1, v2.dp 9 h.2, v1.shaped h.1, v2.shaped h.2, k _ _ (Same.refl _) (R.scalB fun _ => .bl _)⟩
  · cases e
theorem opv_ne : OpV K mg (rNeD K) neO := by
  intro H L B x y ox oy o Q R hx hy e k
  unfold neO at e
  split at e
  · rename_i h
    cases e
    rw [Bool.and_eq_true] at h
    have v1 : Vw K mg H x ox.toD := R.view hx
    have v2 : Vw K mg H y oy.toD := R.view hy
    exact ⟨_, _, v1.dp 9 h.1, v2.dp 9 h.2, v1.shaped h.1, v2.shaped h.2, k _ _ (Same.refl _) (R.scalB fun _ => .bl _)⟩
  · cases e
/-! ### is None -/
def O.isNon : O → Bool
  | .val .non => true
  | _ => false
def isNO (a b : O) : Option O := match b with
  | .val .non => some (.val (.bl a.isNon))
  | _ => none
def notNO (a b : O) : Option O := match b with
  | .val .non => some (.val (.bl (!a.isNon)))
  | _ => none
theorem isNon_iff {G H : Hp} {v : V} {o : O} {as : List Addr} (h : VO K mg G H v o as) : decide (v = .non) = o.isNon := by
  cases h with
  | val h => cases h <;> rfl
  | lst _ _ => rfl
  | dct _ _ _ => rfl
  | ins _ _ _ _ => rfl
theorem Rep.isNon {H : Hp} {L : List Item} {B : List (V × O)} {x : V} {o : O} (R : Rep K mg H L B) (hx : (x, o) ∈ B) : decide (x = .non) = o.isNon := by
  obtain ⟨A, nd, ok, hb⟩ := R
  obtain ⟨as, h1, _⟩ := hb _ hx
  exact isNon_iff h1
theorem opv_isN : OpV K mg (fun x y H Q => y = .non ∧ Q (.bl (decide (x = .non))) H) isNO := by
  intro H L B x y ox oy o Q R hx hy e k
  unfold isNO at e
  split at e
  · cases e
    rw [R.isNon hx]
    exact ⟨R.shNon hy rfl, k _ _ (Same.refl _) (R.scalB fun _ => .bl _)⟩
  · cases e
theorem opv_notN : OpV K mg (fun x y H Q => y = .non ∧ Q (.bl (!decide (x = .non))) H) notNO := by
  intro H L B x y ox oy o Q R hx hy e k
  unfold notNO at e
  split at e
  · cases e
    rw [R.isNon hx]
    exact ⟨R.shNon hy rfl, k _ _ (Same.refl _) (R.scalB fun _ => .bl _)⟩
  · cases e
/-! ### in, not in -/
def D.flat : D → Bool
  | .non => true
  | .bl _ => true
  | .int _ => true
  | .str _ => true
  | _ => false
theorem Vw.flat {G : Hp} {v : V} {d : D} (h : Vw K mg G v d) (e : d.flat = true) : flatV v = true := by
  cases h <;> first | rfl | cases e
theorem Vw.eqV {G : Hp} {v w : V} {d e : D} (h : Vw K mg G v d) (q : Vw K mg G w e) (f : d.flat = true) (g : e.flat = true) : L2.eqV v w = d.eqv e := by
  cases h <;> first | (cases f; done) | (cases q <;> first | rfl | (cases g; done))
theorem Vws.flat {G : Hp} : ∀ {vs : List V} {ds : List D}, Vws K mg G vs ds → ds.all D.flat = true → vs.all flatV = true
  | _, _, .nil, _ => rfl
  | _, _, .cons h t, e => by
    rw [List.all_cons, Bool.and_eq_true] at e
    rw [List.all_cons, h.flat e.1, Vws.flat t e.2]; rfl
theorem Vws.anyV {G : Hp} {x : V} {d : D} (hx : Vw K mg G x d) (fx : d.flat = true) : ∀ {vs : List V} {ds : List D}, Vws K mg G vs ds → ds.all D.flat = true → inV x vs = ds.any fun e => e.eqv d
  | _, _, .nil, _ => rfl
  | _, _, .cons h t, e => by
    rw [List.all_cons, Bool.and_eq_true] at e
    unfold inV
    rw [List.any_cons, List.any_cons, h.eqV hx e.1 fx]
    exact congrArg _ (Vws.anyV hx fx t e.2)
theorem any_pds (d : D) : ∀ ds : List D, ((D.pds ds).any fun z => PyData.eqv z d.pd) = ds.any fun e => e.eqv d
  | [] => rfl
  | e :: ds => by
    show (PyData.eqv e.pd d.pd || (D.pds ds).any _) = _
    rw [any_pds d ds]; rfl
def sign? (s : Str) : Option Nat := match s.cps.toList with
  | [c] => some c
  | _ => none
theorem sign?_eq {s : Str} {c : Nat} (h : sign? s = some c) : s = ⟨#[c]⟩ := by
  unfold sign? at h
  split at h
  · rename_i d e
    cases h
    cases s with
    | mk a =>
      have e : a.toList = [c] := e
      have : a = #[c] := by
        apply Array.toList_inj.mp
        rw [e]
      rw [this]
  · cases h
def inD (x l : D) : Option Bool := match l with
  | .str z => match x with
    | .str s => (sign? s).map fun c => decide (c ∈ z.cps.toList)
    | _ => none
  | .lst ds => if x.flat = true ∧ ds.all D.flat = true then some (ds.any fun e => e.eqv x) else if x.okE 9 = true ∧ ds.all (D.okE 8) = true then some (ds.any fun e => e.eqv x) else none
  | .tup ds => if x.flat = true ∧ ds.all D.flat = true then some (ds.any fun e => e.eqv x) else none
  | _ => none
def inO (a b : O) : Option O := (inD a.toD b.toD).map fun b => .val (.bl b)
def ninO (a b : O) : Option O := (inD a.toD b.toD).map fun b => .val (.bl !b)
def rInF (K : PySem.W.Frag) : R2 := fun x y H Q => rIn K false x y H Q ∨ (rInD K x y H Q ∨ ∃ (c : Nat) (z : Str), x = .str ⟨#[c]⟩ ∧ y = .str z ∧ Q (.bl (decide (c ∈ z.cps.toList))) H)
def rNinF (K : PySem.W.Frag) : R2 := fun x y H Q => rIn K true x y H Q ∨ (rNotInD K x y H Q ∨ ∃ (c : Nat) (z : Str), x = .str ⟨#[c]⟩ ∧ y = .str z ∧ Q (.bl (!decide (c ∈ z.cps.toList))) H)
theorem op_inF (ok : CxOk X) : OpR X (compareOp .In) (rInF X.K) := op_in_seq.or ((op_inD ok.units).or op_in_sign)
theorem op_ninF (ok : CxOk X) : OpR X (compareOp .NotIn) (rNinF X.K) := op_notIn_seq.or ((op_notInD ok.units).or op_notIn_sign)
theorem in_core {H : Hp} {x y : V} {d e : D} {b : Bool} (v1 : Vw K mg H x d) (v2 : Vw K mg H y e) (h : inD d e = some b) :
    (∃ p xs, y = .ref p ∧ (SqL K H p xs ∨ SqT K H p xs) ∧ flatV x = true ∧ xs.all flatV = true ∧ inV x xs = b) ∨
    (∃ d' ds, Dp K H x d' ∧ Dp K H y (.list ds) ∧ SeqAt.shaped d' = true ∧ SeqAt.shaped (.list ds) = true ∧ (ds.any fun z => PyData.eqv z d') = b) ∨
    ∃ (c : Nat) (z : Str), x = .str ⟨#[c]⟩ ∧ y = .str z ∧ decide (c ∈ z.cps.toList) = b := by
  unfold inD at h
  split at h
  · split at h
    · rename_i s
      cases e : sign? s with
      | none => rw [e] at h; cases h
      | some c =>
        rw [e] at h
        cases h
        have := sign?_eq e
        subst this
        cases v1; cases v2
        exact .inr (.inr ⟨_, _, rfl, rfl, rfl⟩)
    · cases h
  · rename_i ds
    split at h
    · rename_i q
      cases h
      cases v2 with
      | lst h2 hs =>
        exact .inl ⟨_, _, rfl, .inl (.inl h2), v1.flat q.1, hs.flat q.2, Vws.anyV v1 q.1 hs q.2⟩
    · split at h
      · rename_i q
        cases h
        have e2 : (D.lst ds).okE 9 = true := q.2
        refine .inr (.inl ⟨_, _, v1.dp 9 q.1, v2.dp 9 e2, v1.shaped q.1, v2.shaped e2, any_pds _ _⟩)
      · cases h
  · split at h
    · rename_i q
      cases h
      cases v2 with
      | tup h2 hs => exact .inl ⟨_, _, rfl, .inr h2, v1.flat q.1, hs.flat q.2, Vws.anyV v1 q.1 hs q.2⟩
    · cases h
  · cases h
theorem opv_in : OpV K mg (rInF K) inO := by
  intro H L B x y ox oy o Q R hx hy e k
  unfold inO at e
  cases h : inD ox.toD oy.toD with
  | none => rw [h] at e; cases e
  | some b =>
    rw [h] at e; cases e
    have q := k _ H (Same.refl _) (R.scalB (v := .bl b) (d := .bl b) fun _ => .bl b)
    rcases in_core (R.view hx) (R.view hy) h with ⟨p, xs, rfl, h1, h2, h3, h4⟩ | ⟨d', ds, h1, h2, h3, h4, h5⟩ | ⟨c, z, rfl, rfl, h1⟩
    · exact .inl ⟨p, xs, rfl, h1, h2, h3, by rw [if_neg Bool.false_ne_true, h4]; exact q⟩
    · exact .inr (.inl ⟨d', ds, h1, h2, h3, h4, by rw [h5]; exact q⟩)
    · exact .inr (.inr ⟨c, z, rfl, rfl, by rw [h1]; exact q⟩)
theorem opv_nin : OpV K mg (rNinF K) ninO := by
  intro H L B x y ox oy o Q R hx hy e k
  unfold ninO at e
  cases h : inD ox.toD oy.toD with
  | none => rw [h] at e; cases e
  | some b =>
    rw [h] at e; cases e
    have q := k _ H (Same.refl _) (R.scalB (v := .bl !b) (d := .bl !b) fun _ => .bl _)
    rcases in_core (R.view hx) (R.view hy) h with ⟨p, xs, rfl, h1, h2, h3, h4⟩ | ⟨d', ds, h1, h2, h3, h4, h5⟩ | ⟨c, z, rfl, rfl, h1⟩
    · exact .inl ⟨p, xs, rfl, h1, h2, h3, by rw [if_pos rfl, h4]; exact q⟩
    · exact .inr (.inl ⟨d', ds, h1, h2, h3, h4, by rw [h5]; exact q⟩)
    · exact .inr (.inr ⟨c, z, rfl, rfl, by rw [h1]; exact q⟩)
/-! ### x[i] -/
def ixO (a b : O) : Option O := match b with
  | .val (.int i) => match a with
    | .lst os => atI os i
    | .val (.lst ds) => (atI ds i).map O.val
    | .val (.tup ds) => (atI ds i).map O.val
    | .val (.scr ns) => (atI ns i).map fun n => .val (.int n)
    | .val (.str z) => if z.length ≤ 1000000 then (atI z.cps.toList i).map fun c => .val (.str ⟨#[c]⟩) else none
    | _ => none
  | _ => none
theorem atI_len {α β : Type} {xs : List α} {ys : List β} {i : Int} {y : β} (e : xs.length = ys.length) (h : atI ys i = some y) : ∃ (j : Nat) (x : α), ys[j]? = some y ∧ xs[j]? = some x ∧ atI xs i = some x := by
  unfold atI at h ⊢
  rw [← e] at h
  cases q : ixN xs.length i with
  | none => rw [q] at h; cases h
  | some j =>
    rw [q] at h
    have h : ys[j]? = some y := h
    have hj : j < ys.length := (List.getElem?_eq_some_iff.mp h).1
    exact ⟨j, xs[j]'(by omega), h, by simp, by simp⟩
theorem strOk_at {z : Str} {i : Int} {c : Nat} (h : PyData.strOk z = true) (e : atI z.cps.toList i = some c) : PyData.strOk ⟨#[c]⟩ = true := by
  obtain ⟨j, _, hj, _⟩ := atI_get e
  have hm : c ∈ z.cps.toList := by
    obtain ⟨j', _, h2, _⟩ := atI_get e
    exact List.mem_of_getElem? h2
  have q : ∀ c ∈ z.cps.toList, decide (c < 0x110000) = true := by
    have h : z.cps.all (· < 0x110000) = true := h
    rw [← Array.all_toList, List.all_eq_true] at h
    exact h
  show (#[c].all _) = true
  simp [of_decide_eq_true (q c hm)]
theorem opv_ix : OpV K mg (rIx K) ixO := by
  intro H L B x y ox oy o Q R hx hy e k
  unfold ixO at e
  split at e
  · rename_i i
    have ey : y = .int i := R.shInt hy rfl
    split at e
    · rename_i os
      obtain ⟨A, nd, ok, hb⟩ := id R
      obtain ⟨as, h1, h2⟩ := hb _ hx
      cases h1 with
      | lst h1 hs =>
        obtain ⟨j, v, e1, e2, e3⟩ := atI_len hs.length e
        refine .inl ⟨_, _, i, v, rfl, ey, SqL.of h1, e3, k v H (Same.refl _) ⟨A, nd, ok, fun b q => ?_⟩⟩
        rcases List.mem_cons.mp q with q | q
        · subst q
          have sub : ∀ {vs : List V} {os : List O} {as : List Addr} {j : Nat} {v : V} {o : O}, VOs K mg (hide H A) H vs os as → os[j]? = some o → vs[j]? = some v → ∃ bs, VO K mg (hide H A) H v o bs ∧ ∀ a ∈ bs, a ∈ as := by
            intro vs
            induction vs with
            | nil => intro os as j v o t h1 h2; simp at h2
            | cons w vs ih =>
              intro os as j v o t h1 h2
              cases t with
              | cons t r =>
                cases j with
                | zero =>
                  simp at h1 h2
                  subst h1 h2
                  exact ⟨_, t, fun a ha => by simp [ha]⟩
                | succ j =>
                  obtain ⟨bs, q1, q2⟩ := ih r (by simpa using h1) (by simpa using h2)
                  exact ⟨bs, q1, fun a ha => by simp [q2 a ha]⟩
          obtain ⟨bs, q1, q2⟩ := sub hs e1 e2
          exact ⟨bs, q1, fun a ha => h2 a (by simp [q2 a ha])⟩
        · exact hb b q
    · rename_i ds
      cases e1 : atI ds i with
      | none => rw [e1] at e; cases e
      | some d =>
        rw [e1] at e; cases e
        obtain ⟨p, vs, rfl, hp, lp, R1⟩ := R.shL hx rfl
        obtain ⟨j, v, e1, e2, e3⟩ := atI_len lp e1
        exact .inl ⟨p, vs, i, v, rfl, ey, .inl hp, e3, k v H (Same.refl _) (R1.nth e2 e1)⟩
    · rename_i ds
      cases e1 : atI ds i with
      | none => rw [e1] at e; cases e
      | some d =>
        rw [e1] at e; cases e
        obtain ⟨p, vs, rfl, hp, lp, R1⟩ := R.shT hx rfl
        obtain ⟨j, v, e1, e2, e3⟩ := atI_len lp e1
        exact .inr (.inl ⟨p, vs, i, v, rfl, ey, hp, e3, k v H (Same.refl _) (R1.nth e2 e1)⟩)
    · rename_i ns
      cases e1 : atI ns i with
      | none => rw [e1] at e; cases e
      | some n =>
        rw [e1] at e; cases e
        have q : Vw K mg H x (.scr ns) := R.view hx
        cases q with
        | scr h =>
          have e4 : (ns.map V.int).length = ns.length := by simp
          obtain ⟨j, v, e1, e2, e3⟩ := atI_len e4 e1
          rw [List.getElem?_map, e1] at e2
          cases e2
          exact .inl ⟨_, _, i, _, rfl, ey, h, e3, k _ H (Same.refl _) (R.scalB fun _ => .int n)⟩
    · rename_i z
      split at e
      · rename_i hz
        cases e1 : atI z.cps.toList i with
        | none => rw [e1] at e; cases e
        | some c =>
          rw [e1] at e; cases e
          refine .inr (.inr ⟨z, i, c, R.shStr hx rfl, ey, line6 hz, e1, k _ H (Same.refl _) (R.scalB fun _ => .str _ (strOk_at (R.strOk hx rfl) e1))⟩)
      · cases e
    · cases e
  · cases e
/-! ### len -/
def lenO (a : O) : Option O := match a with
  | .lst os => some (.val (.int os.length))
  | .val (.lst ds) => some (.val (.int ds.length))
  | .val (.tup ds) => some (.val (.int ds.length))
  | .val (.scr ns) => some (.val (.int ns.length))
  | .val (.str z) => if z.length ≤ 1000000 then some (.val (.int z.length)) else none
  | .val (.dct _ _) => none
  | .dct ks _ => some (.val (.int ks.length))
  | _ => none
def rLenF (K : PySem.W.Frag) : List V → Hp → VK → Prop := fun xs H Q => (∃ x n, xs = [x] ∧ LenV K x H n ∧ Q (.int n) H) ∨ (∃ a kvs, xs = [V.ref a] ∧ H a = some (.dK kvs) ∧ Q (.int kvs.length) H)
theorem Rep.ownL {H : Hp} {L : List Item} {B : List (V × O)} {x : V} {os : List O} (R : Rep K mg H L B) (hx : (x, .lst os) ∈ B) : ∃ p vs, x = .ref p ∧ H p = some (.lst vs) ∧ vs.length = os.length := by
  obtain ⟨A, nd, ok, hb⟩ := R
  obtain ⟨as, h1, h2⟩ := hb _ hx
  cases h1 with
  | lst h1 hs => exact ⟨_, _, rfl, h1, hs.length⟩
theorem Rep.ownD {H : Hp} {L : List Item} {B : List (V × O)} {x : V} {ks : List Key} {os : List O} (R : Rep K mg H L B) (hx : (x, .dct ks os) ∈ B) : ∃ p kvs, x = .ref p ∧ H p = some (.dK kvs) ∧ (kvs.map (·.1) = ks ∧ ks.Nodup) ∧ kvs.length = os.length := by
  obtain ⟨A, nd, ok, hb⟩ := R
  obtain ⟨as, h1, h2⟩ := hb _ hx
  cases h1 with
  | dct h1 hk hs => exact ⟨_, _, rfl, h1, hk, by have := hs.length; simpa using this⟩
theorem unv_len : UnV K mg (fun x H Q => rLenF K [x] H Q) lenO := by
  intro H L B x ox o Q R hx e k
  unfold lenO at e
  split at e
  · cases e
    obtain ⟨p, vs, rfl, hp, lp⟩ := R.ownL hx
    exact .inl ⟨_, vs.length, rfl, .inl ⟨vs, SqL.of hp, rfl⟩, by rw [lp]; exact k _ _ (Same.refl _) (R.scalB fun _ => .int _)⟩
  · cases e
    obtain ⟨p, vs, rfl, hp, lp, _⟩ := R.shL hx rfl
    exact .inl ⟨_, vs.length, rfl, .inl ⟨vs, .inl hp, rfl⟩, by rw [lp]; exact k _ _ (Same.refl _) (R.scalB fun _ => .int _)⟩
  · cases e
    obtain ⟨p, vs, rfl, hp, lp, _⟩ := R.shT hx rfl
    exact .inl ⟨_, vs.length, rfl, .inr ⟨vs, hp, rfl⟩, by rw [lp]; exact k _ _ (Same.refl _) (R.scalB fun _ => .int _)⟩
  · cases e
    rename_i ns
    have q : Vw K mg H x (.scr ns) := R.view hx
    cases q with
    | scr h => exact .inl ⟨_, ns.length, rfl, .inl ⟨_, h, by simp⟩, k _ _ (Same.refl _) (R.scalB fun _ => .int _)⟩
  · split at e
    · rename_i z hz
      cases e
      rw [R.shStr hx rfl]
      exact .inl ⟨_, z.length, rfl, ⟨line6 hz, rfl⟩, k _ _ (Same.refl _) (R.scalB fun _ => .int _)⟩
    · cases e
  · cases e
  · cases e
    obtain ⟨p, kvs, rfl, hp, hk, lp⟩ := R.ownD hx
    refine .inr ⟨p, kvs, rfl, hp, ?_⟩
    have : kvs.length = (List.map (·.1) kvs).length := by simp
    rw [this, hk.1]
    exact k _ _ (Same.refl _) (R.scalB fun _ => .int _)
  · cases e
end
end FB

/-! Slices, built-ins by name, tests, displays. -/
namespace FB
open PySem PySem.Spec L2
open PyProof.Rows hiding St

section
variable {X : Cx} {K : PySem.W.Frag} {mg : Str → Option Value}
/-! ### slices -/
def cutL {α : Type} (xs : List α) (lo hi : Option Int) : List α := (xs.drop (HT.sIx xs.length 0 lo)).take (HT.sIx xs.length xs.length hi - HT.sIx xs.length 0 lo)
theorem cutL_map {α β : Type} (f : α → β) (xs : List α) (lo hi : Option Int) : cutL (xs.map f) lo hi = (cutL xs lo hi).map f := by
  unfold cutL
  rw [List.length_map, List.map_take, List.map_drop]
def slO (a : O) (lo hi : Option Int) : Option O := match a.sh with
  | some (.lst ds) => some (.val (.lst (cutL ds lo hi)))
  | some (.tup ds) => some (.val (.tup (cutL ds lo hi)))
  | some (.scr ns) => some (.val (.lst ((cutL ns lo hi).map D.int)))
  | some (.str z) => if z.length ≤ 1000000 then some (.val (.str (cutS z lo hi))) else none
  | _ => none
def rSlF (K : PySem.W.Frag) : V → Option Int → Option Int → Hp → VK → Prop := fun x lo hi H Q => rSlL K x lo hi H Q ∨ (rSlA K x lo hi H Q ∨ rSlS x lo hi H Q)
theorem sl_F : SlR X (rSlF X.K) := sl_list.or (sl_tupA.or sl_str)
theorem zip_cut (vs : List V) (ds : List D) (e : vs.length = ds.length) (lo hi : Option Int) : zipI (cutL vs lo hi) ((cutL ds lo hi).map O.val) = cutL (zipI vs (ds.map O.val)) lo hi := by
  have hz : (zipI vs (ds.map O.val)).length = ds.length := by unfold zipI; simp [e]
  unfold cutL
  rw [hz, e]
  unfold zipI
  rw [List.map_take, List.map_drop, List.drop_zipWith, List.take_zipWith]
theorem len_cut {α β : Type} (vs : List α) (ds : List β) (e : vs.length = ds.length) (lo hi : Option Int) : (cutL vs lo hi).length = (cutL ds lo hi).length := by
  unfold cutL
  simp [e]
theorem vals_nil {G H : Hp} : ∀ {vs : List V} {ds : List D} {as : List Addr}, IsOk K mg G H (zipI vs (ds.map O.val)) as → as = [] := by
  intro vs
  induction vs with
  | nil => intro ds as t; cases ds <;> cases t <;> rfl
  | cons w vs ih =>
    intro ds as t
    cases ds with
    | nil => cases t; rfl
    | cons e ds =>
      cases t with
      | cons t r =>
        have := ih r
        subst this
        cases t with
        | ov t => cases t with
          | val t => rfl
theorem vals_sub {G H : Hp} {M N : List Item} (h : IsOk K mg G H N []) (s : M.Sublist N) : IsOk K mg G H M [] := by
  induction s with
  | slnil => exact .nil
  | cons a s ih =>
    generalize e : ([] : List Addr) = as at h
    cases h with
    | cons h t =>
      rename_i as bs
      have e := List.append_eq_nil_iff.mp e.symm
      obtain ⟨e1, e2⟩ := e
      subst e1 e2
      exact ih t
  | cons_cons a s ih =>
    generalize e : ([] : List Addr) = as at h
    cases h with
    | cons h t =>
      rename_i as bs
      have e := List.append_eq_nil_iff.mp e.symm
      obtain ⟨e1, e2⟩ := e
      subst e1 e2
      exact .cons (as := []) h (ih t)
/-- some of the shared items -/
theorem Rep.someOf {H : Hp} {L : List Item} {B : List (V × O)} {vs : List V} {ds : List D} {M : List Item} (R : Rep K mg H (zipI vs (ds.map O.val) ++ L) B) (s : M.Sublist (zipI vs (ds.map O.val))) : Rep K mg H (M ++ L) B := by
  obtain ⟨A, nd, ok, hb⟩ := R
  obtain ⟨bs, cs, e2, t1, t2⟩ := ok.split
  subst e2
  have e3 := vals_nil t1
  subst e3
  exact ⟨_, nd, IsOk.append (as := []) (vals_sub t1 s) t2, hb⟩
theorem strOk_cut {z : Str} (h : PyData.strOk z = true) (lo hi : Option Int) : PyData.strOk (cutS z lo hi) = true := by
  have h : z.cps.all (· < 0x110000) = true := h
  rw [← Array.all_toList, List.all_eq_true] at h
  show (Array.all _ _) = true
  rw [← Array.all_toList, List.all_eq_true]
  intro c hc
  exact h c (List.mem_of_mem_drop (List.mem_of_mem_take (by simpa [cutS] using hc)))
theorem slv {H : Hp} {L : List Item} {B : List (V × O)} {x : V} {ox o : O} {lo hi : Option Int} {Q : VK} (R : Rep K mg H L B) (hx : (x, ox) ∈ B) (e : slO ox lo hi = some o) (k : ∀ v H', Same H H' → Rep K mg H' L ((v, o) :: B) → Q v H') : rSlF K x lo hi H Q := by
  unfold slO at e
  split at e
  · rename_i ds e1
    cases e
    obtain ⟨p, vs, rfl, hp, lp, R1⟩ := R.shL hx e1
    refine .inl ⟨p, vs, rfl, .inl hp, fun q hq => k _ _ (sameNew hq) ?_⟩
    refine Rep.lentL (vs := cutL vs lo hi) (ds := cutL ds lo hi) (R1.someOf ?_) (len_cut _ _ lp lo hi) hq
    rw [zip_cut _ _ lp]
    exact (List.take_sublist _ _).trans (List.drop_sublist _ _)
  · rename_i ds e1
    cases e
    obtain ⟨p, vs, rfl, hp, lp, R1⟩ := R.shT hx e1
    refine .inr (.inl ⟨p, vs, rfl, hp, fun hw => k _ _ (Same.refl _) ?_, fun hw q hq => k _ _ (sameNew hq) ?_⟩)
    · have : cutL ds lo hi = ds := by
        unfold cutL
        rw [← lp, hw.1, hw.2, List.drop_zero, Nat.sub_zero, lp, List.take_length]
      rw [this]
      have ea := sh_val_of e1 (fun _ => by intro z; cases z) (fun _ _ => by intro z; cases z) (fun _ _ _ => by intro z; cases z)
      subst ea
      exact R.bdup hx
    · refine Rep.lentT (vs := cutL vs lo hi) (ds := cutL ds lo hi) (R1.someOf ?_) (len_cut _ _ lp lo hi) hq
      rw [zip_cut _ _ lp]
      exact (List.take_sublist _ _).trans (List.drop_sublist _ _)
  · rename_i ns e1
    cases e
    have q : Vw K mg H x (.scr ns) := R.sh hx e1
    cases q with
    | scr h =>
      refine .inl ⟨_, _, rfl, h, fun q hq => k _ _ (sameNew hq) ?_⟩
      have e2 : cutV (ns.map V.int) lo hi = (cutL ns lo hi).map V.int := cutL_map _ _ _ _
      rw [e2]
      refine Rep.lentL ?_ (by simp) hq
      have : ∀ (ms : List Int), Rep K mg H (zipI (ms.map V.int) ((ms.map D.int).map O.val) ++ L) B := by
        intro ms
        induction ms with
        | nil => exact R
        | cons m ms ih => exact ih.scal fun _ => .int m
      exact this _
  · split at e
    · rename_i z e1 hz
      cases e
      exact .inr (.inr ⟨z, R.shStr hx e1, line6 hz, k _ _ (Same.refl _) (R.scalB fun _ => .str _ (strOk_cut (R.strOk hx e1) lo hi))⟩)
    · cases e
  · cases e
/-- a slice's bound -/
def tPO (K : PySem.W.Frag) (mg : Str → Option Value) (f : Env → Option (Option Int)) : TO := fun σ H Q => ∃ ρ T B i, Cov σ ρ ∧ Rep K mg H (pairs σ ρ ++ T) B ∧ f ρ = some i ∧ ∀ H', Same H H' → Rep K mg H' (pairs σ ρ ++ T) B → Q i H'
theorem PO.imp {X : Cx} {e : Option Expr} {t t' : TO} (h : PO X e t) (q : ∀ σ H Q, t' σ H Q → t σ H Q) : PO X e t' := ⟨fun pins s σ H Q I w => h.run pins s σ H Q I (q σ H Q w)⟩
def SPO (X : Cx) (e : Option Expr) (f : Env → Option (Option Int)) : Prop := PO X e (tPO X.K X.mg f)
def pNone : Env → Option (Option Int) := fun _ => some none
def pInt (f : Pf) : Env → Option (Option Int) := fun ρ => match f ρ with
  | some (.val (.int i)) => some (some i)
  | _ => none
theorem spo_none : SPO X none pNone := PO.imp po_none fun σ H Q h => by
  obtain ⟨ρ, T, B, i, c, R, e, k⟩ := h
  cases e
  exact k H (Same.refl _) R
theorem spo_some {e : Expr} {f : Pf} (h : SP X e f) : SPO X (some e) (pInt f) := PO.imp (po_some h) fun σ H Q q => by
  obtain ⟨ρ, T, B, i, c, R, e, k⟩ := q
  unfold pInt at e
  split at e
  · rename_i j e1
    cases e
    refine ⟨ρ, T, B, _, c, R, e1, fun v H' s' R' => ⟨j, R'.shInt (List.mem_cons_self ..) rfl, k H' s' R'.bdrop⟩⟩
  · cases e
def pSl (f : Pf) (lo hi : Env → Option (Option Int)) : Pf := fun ρ => (f ρ).bind fun a => (lo ρ).bind fun l => (hi ρ).bind fun h => slO a l h
theorem sp_sl {e : Expr} {lo hi : Option Expr} {f : Pf} {fl fh : Env → Option (Option Int)} {p2 pos} (h : SP X e f) (hl : SPO X lo fl) (hh : SPO X hi fh) : SP X (.Subscript e (.Slice lo hi none p2) pos) (pSl f fl fh) :=
  PE.imp (pe_slice sl_F h hl hh) fun σ H Q q => by
    obtain ⟨ρ, T, B, o, c, R, e, k⟩ := q
    unfold pSl at e
    cases e1 : f ρ with
    | none => rw [e1] at e; cases e
    | some a =>
      rw [e1] at e
      have e : (fl ρ).bind (fun l => (fh ρ).bind fun h => slO a l h) = some o := e
      cases e2 : fl ρ with
      | none => rw [e2] at e; cases e
      | some l =>
        rw [e2] at e
        have e : (fh ρ).bind (fun h => slO a l h) = some o := e
        cases e3 : fh ρ with
        | none => rw [e3] at e; cases e
        | some u =>
          rw [e3] at e
          have e : slO a l u = some o := e
          exact ⟨ρ, T, B, a, c, R, e1, fun v H1 s1 R1 => ⟨ρ, T, _, l, c, R1, e2, fun H2 s2 R2 => ⟨ρ, T, _, u, c, R2, e3, fun H3 s3 R3 =>
            slv R3 (List.mem_cons_self ..) e fun w H4 s4 R4 => k w H4 (s1.trans (s2.trans (s3.trans s4))) (R4.bsub fun z hz => by
              rcases List.mem_cons.mp hz with hz | hz
              · simp [hz]
              · simp [hz])⟩⟩⟩
/-! ### built-ins of one and two arguments -/
theorem sp_b1 {id : String} {x : Str} {a : Expr} {p pos : Pos} {f : Pf} {r : List V → Hp → VK → Prop} {op : O → Option O} (hc : CallR X (.builtin id) r) (h : UnV X.K X.mg (fun x H Q => r [x] H Q) op) (hg : Gl X x) (hm : X.mg x = none) (hv : bootBuiltins x = some (.builtin id)) (ha : SP X a f)
    (hn : x ≠ "__name__" := by decide) (hdb : (x == ("__debug__" : Str)) = false := by decide) (hst : starEach (a :: []) X.env = (false, eval a X.env) :: starEach [] X.env := by rfl) (hpl : (backTo pos (starEach [] X.env)).any (·.1) = false := by rfl) :
    SP X (.Call (.Name x p) [a] [] pos) (p1 op f) := PE.imp (pe_callB hc hg hm hv (pa_cons ha pa_nil hst) hn hdb hst hpl) (tUn_p h)
theorem se_b1 {id : String} {x : Str} {a : Expr} {p pos : Pos} {m : M O} {r : List V → Hp → VK → Prop} {op : O → Option O} (hc : CallR X (.builtin id) r) (h : UnV X.K X.mg (fun x H Q => r [x] H Q) op) (hg : Gl X x) (hm : X.mg x = none) (hv : bootBuiltins x = some (.builtin id)) (ha : SE X a m)
    (hn : x ≠ "__name__" := by decide) (hdb : (x == ("__debug__" : Str)) = false := by decide) (hst : starEach (a :: []) X.env = (false, eval a X.env) :: starEach [] X.env := by rfl) (hpl : (backTo pos (starEach [] X.env)).any (·.1) = false := by rfl) :
    SE X (.Call (.Name x p) [a] [] pos) (m1 op m) := PE.imp (pe_callB hc hg hm hv (pa_cons ha pa_nil hst) hn hdb hst hpl) (tUn_m h)
theorem sp_t1 {T : String} {x : Str} {a : Expr} {p pos : Pos} {f : Pf} {r : List V → Hp → VK → Prop} {op : O → Option O} (hc : CallR X (.type T) r) (h : UnV X.K X.mg (fun x H Q => r [x] H Q) op) (hg : Gl X x) (hm : X.mg x = none) (hv : bootBuiltins x = some (.type T)) (ha : SP X a f)
    (hn : x ≠ "__name__" := by decide) (hdb : (x == ("__debug__" : Str)) = false := by decide) (hst : starEach (a :: []) X.env = (false, eval a X.env) :: starEach [] X.env := by rfl) (hpl : (backTo pos (starEach [] X.env)).any (·.1) = false := by rfl) :
    SP X (.Call (.Name x p) [a] [] pos) (p1 op f) := PE.imp (pe_callTy hc hg hm hv (pa_cons ha pa_nil hst) hn hdb hst hpl) (tUn_p h)
theorem se_t1 {T : String} {x : Str} {a : Expr} {p pos : Pos} {m : M O} {r : List V → Hp → VK → Prop} {op : O → Option O} (hc : CallR X (.type T) r) (h : UnV X.K X.mg (fun x H Q => r [x] H Q) op) (hg : Gl X x) (hm : X.mg x = none) (hv : bootBuiltins x = some (.type T)) (ha : SE X a m)
    (hn : x ≠ "__name__" := by decide) (hdb : (x == ("__debug__" : Str)) = false := by decide) (hst : starEach (a :: []) X.env = (false, eval a X.env) :: starEach [] X.env := by rfl) (hpl : (backTo pos (starEach [] X.env)).any (·.1) = false := by rfl) :
    SE X (.Call (.Name x p) [a] [] pos) (m1 op m) := PE.imp (pe_callTy hc hg hm hv (pa_cons ha pa_nil hst) hn hdb hst hpl) (tUn_m h)
theorem call_lenF : CallR X (.builtin "len") (rLenF X.K) := call_len.or call_lenD

/-! isinstance of a built-in class -/
def D.ty : D → Option String
  | .non => some "NoneType"
  | .bl _ => some "bool"
  | .int _ => some "int"
  | .str _ => some "str"
  | .tup _ => some "tuple"
  | .lst _ => some "list"
  | .scr _ => some "list"
  | .fn _ => none
  | .dct _ _ => some "dict"
  | .ins _ _ _ => none
def subTy (t T : String) : Bool := t == T || (t == "bool" && T == "int")
def isiO (T : String) (a : O) : Option O := (a.toD.ty).map fun t => .val (.bl (subTy t T))
theorem kitT : ∀ t ∈ ["NoneType", "bool", "int", "str", "tuple", "list", "dict"], ∀ T ∈ ["bool", "int", "str", "tuple", "list", "dict"], kitB t T = some (subTy t T) := by decide +kernel
theorem Vw.tyx {H : Hp} {v : V} {d : D} {t : String} (h : Vw K mg H v d) (e : d.ty = some t) : TyX K H v (.type t) ∧ t ∈ ["NoneType", "bool", "int", "str", "tuple", "list", "dict"] := by
  cases h with
  | non => cases e; exact ⟨.base .non, by simp⟩
  | bl b => cases e; exact ⟨.base (.bl b), by simp⟩
  | int i => cases e; exact ⟨.base (.int i), by simp⟩
  | str s _ => cases e; exact ⟨.base (.str s), by simp⟩
  | tup h _ =>
    cases e
    refine ⟨?_, by simp⟩
    rcases h with (h | ⟨o, h⟩) | ⟨o, its, n, h, hc, _⟩
    · exact .base (.tup h)
    · exact .fTuple h
    · exact .kTuple h hc
  | lst h _ =>
    cases e
    refine ⟨?_, by simp⟩
    rcases h with h | ⟨o, h⟩
    · exact .base (.lst h)
    · exact .base (.frz h)
  | scr h =>
    cases e
    refine ⟨?_, by simp⟩
    rcases h with (h | ⟨o, h⟩) | ⟨o, its, n, h, hc, _⟩
    · exact .base (.lst h)
    · exact .base (.frz h)
    · exact .kList h hc
  | dct h _ _ =>
    cases e
    refine ⟨?_, by simp⟩
    rcases h with h | ⟨o, h⟩
    · exact .base (.dK h)
    · exact .fDict h
  | ins _ _ _ _ => cases e
  | fn _ => cases e
theorem unv_isi {T : String} (hT : T ∈ ["bool", "int", "str", "tuple", "list", "dict"]) : UnV K mg (fun x H Q => rIsi K [x, .ty T] H Q) (isiO T) := by
  intro H L B x ox o Q R hx e k
  unfold isiO at e
  cases e1 : ox.toD.ty with
  | none => rw [e1] at e; cases e
  | some t =>
    rw [e1] at e; cases e
    obtain ⟨h1, h2⟩ := (R.view hx).tyx e1
    exact ⟨x, .ty T, .type t, .type T, subTy t T, rfl, .ty T, h1, kit_ty (kitT t h2 T hT), k _ _ (Same.refl _) (R.scalB fun _ => .bl _)⟩
end
end FB

/-! Built-ins over lists; tests; displays. -/
namespace FB
open PySem PySem.Spec L2
open PyProof.Rows hiding St

section
variable {X : Cx} {K : PySem.W.Frag} {mg : Str → Option Value}
def bls? : List D → Option (List Bool)
  | [] => some []
  | .bl b :: ds => (bls? ds).map (b :: ·)
  | _ :: _ => none
theorem bls?_eq : ∀ {ds : List D} {bs : List Bool}, bls? ds = some bs → ds = bs.map D.bl
  | [], ns, h => by cases h; rfl
  | .bl i :: ds, ns, h => by
    have h : (bls? ds).map (i :: ·) = some ns := h
    cases e : bls? ds with
    | none => rw [e] at h; cases h
    | some ms => rw [e] at h; cases h; rw [bls?_eq e]; rfl
  | .non :: _, _, h => by cases h
  | .int _ :: _, _, h => by cases h
  | .str _ :: _, _, h => by cases h
  | .tup _ :: _, _, h => by cases h
  | .lst _ :: _, _, h => by cases h
  | .dct _ _ :: _, _, h => by cases h
  | .ins _ _ _ :: _, _, h => by cases h
  | .scr _ :: _, _, h => by cases h
  | .fn _ :: _, _, h => by cases h
theorem Vws.bl_eq {G : Hp} : ∀ {vs : List V} {ns : List Bool}, Vws K mg G vs (ns.map D.bl) → vs = ns.map V.bl
  | _, [], .nil => rfl
  | _, n :: ns, .cons (.bl _) t => by rw [Vws.bl_eq t]; rfl
def D.lbls? : D → Option (List Bool)
  | .lst ds => bls? ds
  | _ => none
theorem Vw.lbls {H : Hp} {v : V} {d : D} {ns : List Bool} (h : Vw K mg H v d) (e : d.lbls? = some ns) : ∃ a, v = .ref a ∧ SqL K H a (ns.map V.bl) := by
  cases h with
  | lst h hs =>
    have := bls?_eq (show bls? _ = some ns from e)
    subst this
    rw [hs.bl_eq] at h
    exact ⟨_, rfl, .inl h⟩
  | _ => cases e
def anyO (a : O) : Option O := (a.toD.lbls?).map fun bs => .val (.bl (bs.any id))
def allO (a : O) : Option O := (a.toD.lbls?).map fun bs => .val (.bl (bs.all id))
theorem unv_all : UnV K mg (fun x H Q => rAll K [x] H Q) allO := by
  intro H L B x ox o Q R hx e k
  unfold allO at e
  cases e1 : ox.toD.lbls? with
  | none => rw [e1] at e; cases e
  | some bs =>
    rw [e1] at e; cases e
    obtain ⟨a, rfl, h⟩ := (R.view hx).lbls e1
    exact ⟨a, bs, rfl, h, k _ _ (Same.refl _) (R.scalB fun _ => .bl _)⟩
def intO (a : O) : Option O := match a with
  | .val (.int i) => some (.val (.int i))
  | .val (.bl b) => some (.val (.int (if b then 1 else 0)))
  | _ => none
theorem unv_int : UnV K mg (fun x H Q => (∃ i, [x] = [.int i] ∧ Q (.int i) H) ∨ ∃ k, [x] = [.bl k] ∧ Q (.int (if k then 1 else 0)) H) intO := by
  intro H L B x ox o Q R hx e k
  unfold intO at e
  split at e
  · cases e
    exact .inl ⟨_, by rw [R.shInt hx rfl], k _ _ (Same.refl _) (R.scalB fun _ => .int _)⟩
  · cases e
    exact .inr ⟨_, by rw [R.shBl hx rfl], k _ _ (Same.refl _) (R.scalB fun _ => .int _)⟩
  · cases e
def negO (a : O) : Option O := match a with
  | .val (.int i) => some (.val (.int (-i)))
  | _ => none
theorem unv_neg : UnV K mg (rU fun i => .int (-i)) negO := by
  intro H L B x ox o Q R hx e k
  unfold negO at e
  split at e
  · cases e
    exact ⟨_, R.shInt hx rfl, k _ _ (Same.refl _) (R.scalB fun _ => .int _)⟩
  · cases e
/-- list(xs): of a list or tuple -/
def listO (a : O) : Option O := match a.sh with
  | some (.lst ds) => some (.val (.lst ds))
  | some (.tup ds) => some (.val (.lst ds))
  | some (.scr ns) => some (.val (.lst (ns.map D.int)))
  | _ => none
theorem Rep.ints {H : Hp} {L : List Item} {B : List (V × O)} (R : Rep K mg H L B) (ms : List Int) : Rep K mg H (zipI (ms.map V.int) ((ms.map D.int).map O.val) ++ L) B := by
  induction ms with
  | nil => exact R
  | cons m ms ih => exact ih.scal fun _ => .int m
theorem unv_list : UnV K mg (fun x H Q => ∃ p ys, [x] = [.ref p] ∧ (SqL K H p ys ∨ SqT K H p ys) ∧ ∀ l, H l = none → Q (.ref l) (upd H l (.lst ys))) listO := by
  intro H L B x ox o Q R hx e k
  unfold listO at e
  split at e
  · rename_i ds e1
    cases e
    obtain ⟨p, vs, rfl, hp, lp, R1⟩ := R.shL hx e1
    exact ⟨p, vs, rfl, .inl (.inl hp), fun q hq => k _ _ (sameNew hq) (R1.lentL lp hq)⟩
  · rename_i ds e1
    cases e
    obtain ⟨p, vs, rfl, hp, lp, R1⟩ := R.shT hx e1
    exact ⟨p, vs, rfl, .inr hp, fun q hq => k _ _ (sameNew hq) (R1.lentL lp hq)⟩
  · rename_i ns e1
    cases e
    have q : Vw K mg H x (.scr ns) := R.sh hx e1
    cases q with
    | scr h => exact ⟨_, _, rfl, .inl h, fun q hq => k _ _ (sameNew hq) ((R.ints ns).lentL (by simp) hq)⟩
  · cases e
def tupO (a : O) : Option O := match a.sh with
  | some (.lst ds) => some (.val (.tup ds))
  | some (.tup ds) => some (.val (.tup ds))
  | _ => none
theorem unv_tup : UnV K mg (fun x H Q => ∃ p ys, [x] = [.ref p] ∧ ((SqL K H p ys ∧ ∀ l, H l = none → Q (.ref l) (upd H l (.tup ys))) ∨ (SqT K H p ys ∧ Q (.ref p) H))) tupO := by
  intro H L B x ox o Q R hx e k
  unfold tupO at e
  split at e
  · rename_i ds e1
    cases e
    obtain ⟨p, vs, rfl, hp, lp, R1⟩ := R.shL hx e1
    exact ⟨p, vs, rfl, .inl ⟨.inl hp, fun q hq => k _ _ (sameNew hq) (R1.lentT lp hq)⟩⟩
  · rename_i ds e1
    cases e
    have ea := sh_val_of e1 (fun _ => by intro z; cases z) (fun _ _ => by intro z; cases z) (fun _ _ _ => by intro z; cases z)
    subst ea
    obtain ⟨p, vs, rfl, hp, lp, R1⟩ := R.shT hx rfl
    exact ⟨p, vs, rfl, .inr ⟨hp, k _ _ (Same.refl _) (R.bdup hx)⟩⟩
  · cases e
/-! ### tests -/
def mB (m : M O) : M Bool := fun ρ => (m ρ).bind fun o ρ' => match o with
  | .val (.bl b) => .ok b ρ'
  | _ => .no
theorem set_of {e : Expr} {t : TE} {m : M O} (h : PT X e (tB t)) (q : ∀ σ H Q, tM X.K X.mg m σ H Q → t σ H Q) : SET X e (mB m) := PT.imp h fun σ H Q w => by
  obtain ⟨ρ, T, b, ρ', c, R, e, k⟩ := w
  obtain ⟨o, ρ1, e1, e⟩ := Res.bind_eq e
  split at e
  · rename_i d
    cases e
    exact q σ H _ ⟨ρ, T, _, _, c, R, e1, fun v H' c' R' => ⟨b, R'.lend.shBl (List.mem_cons_self ..) rfl, k H' c' R'.drop⟩⟩
  · cases e
theorem set_val {e : Expr} {m : M O} (h : SE X e m) (he : ∀ whole, isTrue e X.env whole = (do let v ← whole; standAt e.pos; holding [v] (truthy v)) := by intro _; rfl) : SET X e (mB m) := set_of (pt_val h he) fun _ _ _ q => q
theorem set_cmp {o : CmpOp} {a b : Expr} {pos : Pos} {m n : M O} {r : R2} {op : O → O → Option O} (ho : OpR X (compareOp o) r) (h : OpV X.K X.mg r op) (ha : SE X a m) (hb : SE X b n) (hm : behindInMarks o b = false) : SET X (.Compare a [o] [b] pos) (mB (m2 op m n)) := set_of (pt_cmpR ho ha hb hm) (tOp_m h)
theorem tP_m {f : Pf} {t : TE} (q : ∀ σ H Q, tP K mg f σ H Q → t σ H Q) (σ : L2.St) (H : Hp) (Q : VK) (w : tM K mg (mP f) σ H Q) : t σ H Q := by
  obtain ⟨ρ, T, o, ρ', c, R, e, k⟩ := w
  unfold mP at e
  cases z : f ρ with
  | none => rw [z] at e; cases e
  | some u =>
    rw [z] at e
    cases u with
    | val d =>
      cases e
      exact q σ H Q ⟨ρ, T, [], .val d, c, R, z, fun v H' _ R' => k v H' c R'.keep⟩
    | lst _ => cases e
    | dct _ _ => cases e
    | ins _ _ _ => cases e
theorem set_cmpP {o : CmpOp} {a b : Expr} {pos : Pos} {f g : Pf} {r : R2} {op : O → O → Option O} (ho : OpR X (compareOp o) r) (h : OpV X.K X.mg r op) (ha : SP X a f) (hb : SP X b g) (hm : behindInMarks o b = false) : SET X (.Compare a [o] [b] pos) (mB (mP (p2 op f g))) := set_of (pt_cmpR ho ha hb hm) (tP_m (tOp_p h))
def mAnd (a b : M Bool) : M Bool := fun ρ => (a ρ).bind fun c ρ1 => if c = true then b ρ1 else .ok false ρ1
def mOr (a b : M Bool) : M Bool := fun ρ => (a ρ).bind fun c ρ1 => if c = true then .ok true ρ1 else b ρ1
def mNot (a : M Bool) : M Bool := fun ρ => (a ρ).bind fun c ρ1 => .ok (!c) ρ1
def SEW (X : Cx) (e : Expr) (m : M Bool) : Prop := PW X e (tMT X.K X.mg m)
theorem PW.imp {e : Expr} {t t' : TT} (h : PW X e t) (q : ∀ σ H Q, t' σ H Q → t σ H Q) : PW X e t' := ⟨fun wh pins s σ H Q I w => h.run wh pins s σ H Q I (q σ H Q w)⟩
theorem sew_t {e : Expr} {m : M Bool} (h : SEW X e m) : SET X e m := PW.pt h
theorem sew_and1 {a : Expr} {pos : Pos} {m : M Bool} (h : SET X a m) : SEW X (.BoolOp .And [a] pos) m := pw_and1 h
theorem sew_or1 {a : Expr} {pos : Pos} {m : M Bool} (h : SET X a m) : SEW X (.BoolOp .Or [a] pos) m := pw_or1 h
theorem sew_and {a b : Expr} {rest : List Expr} {pos : Pos} {m n : M Bool} (ha : SET X a m) (hb : SEW X (.BoolOp .And (b :: rest) pos) n) : SEW X (.BoolOp .And (a :: b :: rest) pos) (mAnd m n) :=
  PW.imp (pw_and ha hb) fun σ H Q w => by
    obtain ⟨ρ, T, b, ρ', c, R, e, k⟩ := w
    obtain ⟨u, ρ1, e1, e⟩ := Res.bind_eq e
    refine ⟨ρ, T, u, ρ1, c, R, e1, fun H' c' R' => ?_⟩
    cases u with
    | true =>
      rw [if_pos rfl] at e ⊢
      exact ⟨ρ1, T, b, ρ', c', R', e, k⟩
    | false =>
      rw [if_neg Bool.false_ne_true] at e ⊢
      cases e
      exact k H' c' R'
theorem sew_or {a b : Expr} {rest : List Expr} {pos : Pos} {m n : M Bool} (ha : SET X a m) (hb : SEW X (.BoolOp .Or (b :: rest) pos) n) : SEW X (.BoolOp .Or (a :: b :: rest) pos) (mOr m n) :=
  PW.imp (pw_or ha hb) fun σ H Q w => by
    obtain ⟨ρ, T, b, ρ', c, R, e, k⟩ := w
    obtain ⟨u, ρ1, e1, e⟩ := Res.bind_eq e
    refine ⟨ρ, T, u, ρ1, c, R, e1, fun H' c' R' => ?_⟩
    cases u with
    | true =>
      rw [if_pos rfl] at e ⊢
      cases e
      exact k H' c' R'
    | false =>
      rw [if_neg Bool.false_ne_true] at e ⊢
      exact ⟨ρ1, T, b, ρ', c', R', e, k⟩
theorem set_not {a : Expr} {pos : Pos} {m : M Bool} (h : SET X a m) : SET X (.UnaryOp .Not a pos) (mNot m) := PT.imp (pt_not h) fun σ H Q w => by
  obtain ⟨ρ, T, b, ρ', c, R, e, k⟩ := w
  obtain ⟨u, ρ1, e1, e⟩ := Res.bind_eq e
  cases e
  exact ⟨ρ, T, u, _, c, R, e1, k⟩
def mAndV (a : M O) (b : M O) : M O := fun ρ => (a ρ).bind fun o ρ1 => match o with
  | .val (.bl true) => b ρ1
  | .val (.bl false) => .ok (.val (.bl false)) ρ1
  | _ => .no
def mOrV (a : M O) (b : M O) : M O := fun ρ => (a ρ).bind fun o ρ1 => match o with
  | .val (.bl true) => .ok (.val (.bl true)) ρ1
  | .val (.bl false) => b ρ1
  | _ => .no
def mNotV (a : M O) : M O := fun ρ => (a ρ).bind fun o ρ1 => match o with
  | .val (.bl b) => .ok (.val (.bl (!b))) ρ1
  | _ => .no
theorem se_one {op : BoolOp} {a : Expr} {pos : Pos} {m : M O} (h : SE X a m) : SE X (.BoolOp op [a] pos) m := pe_one h
theorem se_and {a b : Expr} {rest : List Expr} {pos : Pos} {m n : M O} (ha : SE X a m) (hb : SE X (.BoolOp .And (b :: rest) pos) n) : SE X (.BoolOp .And (a :: b :: rest) pos) (mAndV m n) :=
  PE.imp (pe_and ha hb) fun σ H Q w => by
    obtain ⟨ρ, T, o, ρ', c, R, e, k⟩ := w
    obtain ⟨u, ρ1, e1, e⟩ := Res.bind_eq e
    refine ⟨ρ, T, u, ρ1, c, R, e1, fun v H' c' R' => ?_⟩
    split at e
    · refine ⟨true, R'.lend.shBl (List.mem_cons_self ..) rfl, ?_⟩
      rw [if_pos rfl]
      exact ⟨ρ1, T, o, ρ', c', R'.drop, e, k⟩
    · cases e
      have ev := R'.lend.shBl (List.mem_cons_self ..) rfl
      refine ⟨false, ev, ?_⟩
      rw [if_neg Bool.false_ne_true]
      exact k _ H' c' (ev ▸ R')
    · cases e
theorem se_or {a b : Expr} {rest : List Expr} {pos : Pos} {m n : M O} (ha : SE X a m) (hb : SE X (.BoolOp .Or (b :: rest) pos) n) : SE X (.BoolOp .Or (a :: b :: rest) pos) (mOrV m n) :=
  PE.imp (pe_or ha hb) fun σ H Q w => by
    obtain ⟨ρ, T, o, ρ', c, R, e, k⟩ := w
    obtain ⟨u, ρ1, e1, e⟩ := Res.bind_eq e
    refine ⟨ρ, T, u, ρ1, c, R, e1, fun v H' c' R' => ?_⟩
    split at e
    · cases e
      have ev := R'.lend.shBl (List.mem_cons_self ..) rfl
      refine ⟨true, ev, ?_⟩
      rw [if_pos rfl]
      exact k _ H' c' (ev ▸ R')
    · refine ⟨false, R'.lend.shBl (List.mem_cons_self ..) rfl, ?_⟩
      rw [if_neg Bool.false_ne_true]
      exact ⟨ρ1, T, o, ρ', c', R'.drop, e, k⟩
    · cases e
theorem se_not {a : Expr} {pos : Pos} {m : M O} (h : SE X a m) : SE X (.UnaryOp .Not a pos) (mNotV m) := PE.imp (pe_not h) fun σ H Q w => by
  obtain ⟨ρ, T, o, ρ', c, R, e, k⟩ := w
  obtain ⟨u, ρ1, e1, e⟩ := Res.bind_eq e
  split at e
  · rename_i b
    cases e
    refine ⟨ρ, T, _, _, c, R, e1, fun v H' c' R' => ⟨b, R'.lend.shBl (List.mem_cons_self ..) rfl, k _ H' c' (R'.drop.scal fun _ => .bl _)⟩⟩
  · cases e
/-- a op b op' c -/
def mChain (op op' : O → O → Option O) (m n l : M O) : M O := fun ρ => (m ρ).bind fun a ρ1 => (n ρ1).bind fun b ρ2 => match op a b with
  | some (.val (.bl true)) => (l ρ2).bind fun c ρ3 => okV (op' b c) ρ3
  | some (.val (.bl false)) => .ok (.val (.bl false)) ρ2
  | _ => .no
theorem tChain_m {r r' : R2} {op op' : O → O → Option O} {m n l : M O} (h : OpV K mg r op) (h' : OpV K mg r' op') (σ : L2.St) (H : Hp) (Q : VK) (w : tM K mg (mChain op op' m n l) σ H Q) : tChain r r' (tM K mg m) (tM K mg n) (tM K mg l) σ H Q := by
  obtain ⟨ρ, T, o, ρ', c, R, e, k⟩ := w
  obtain ⟨a, ρ1, e1, e⟩ := Res.bind_eq e
  obtain ⟨b, ρ2, e2, e⟩ := Res.bind_eq e
  refine ⟨ρ, T, a, ρ1, c, R, e1, fun x H1 c1 R1 => ⟨ρ1, .ov x a :: T, b, ρ2, c1, R1.perm List.perm_middle.symm, e2, fun y H2 c2 R2 => ?_⟩⟩
  -- x, y, the environment, T
  have R3 : Rep K mg H2 (.ov x a :: .ov y b :: (pairs σ ρ2 ++ T)) [] := R2.perm ((List.perm_middle.cons _).trans (.swap _ _ _))
  have R4 := R3.lend.perm (.swap _ _ _) |>.lend
  split at e
  · rename_i e3
    refine h H2 _ _ x y a b _ _ R4 (by simp) (by simp) e3 fun v H3 _ R5 => ⟨true, R5.shBl (List.mem_cons_self ..) rfl, ?_⟩
    rw [if_pos rfl]
    obtain ⟨d, ρ3, e4, e⟩ := Res.bind_eq e
    obtain ⟨d', e5, e6, e7⟩ := okV_eq e
    subst e6
    subst e7
    have R6 := R5.nob
    -- y first, x
    refine ⟨ρ2, .ov y b :: .ov x a :: T, d, ρ', c2, R6.perm ?_, e4, fun z H4 c4 R7 => ?_⟩
    · exact (List.perm_middle.symm.cons _).trans (List.perm_middle.symm)
    · -- z, env, y, x, T
      have p1 : (.ov z d :: (pairs σ ρ' ++ .ov y b :: .ov x a :: T)).Perm (.ov y b :: .ov z d :: .ov x a :: (pairs σ ρ' ++ T)) :=
        ((List.perm_middle.trans (List.perm_middle.cons _)).cons _).trans (.swap _ _ _)
      have R8 := (R7.perm p1).lend.perm (.swap _ _ _) |>.lend
      refine h' H4 _ _ y z b d _ Q R8 (by simp) (by simp) e5 fun v H5 _ R9 => k v H5 c4 ?_
      have R10 := R9.keep.nob
      -- v, z, y, x, env, T
      have R11 := (R10.perm (.swap _ _ _)).drop
      have R12 := (R11.perm (.swap _ _ _)).drop
      exact (R12.perm (.swap _ _ _)).drop
  · rename_i e3
    cases e
    refine h H2 _ _ x y a b _ _ R4 (by simp) (by simp) e3 fun v H3 _ R5 => ⟨false, R5.shBl (List.mem_cons_self ..) rfl, ?_⟩
    rw [if_neg Bool.false_ne_true]
    have R6 := R5.nob
    exact k _ H3 c2 ((R6.drop.drop).scal fun _ => .bl _)
  · cases e
theorem set_chain {o o' : CmpOp} {a b c : Expr} {pos : Pos} {m n l : M O} {r r' : R2} {op op' : O → O → Option O} (ho : OpR X (compareOp o) r) (ho' : OpR X (compareOp o') r') (h : OpV X.K X.mg r op) (h' : OpV X.K X.mg r' op') (ha : SE X a m) (hb : SE X b n) (hc : SE X c l)
    (hm : lastMarks [o, o'] [b, c] = false := by with_unfolding_all rfl) : SET X (.Compare a [o, o'] [b, c] pos) (mB (mChain op op' m n l)) := set_of (pt_chain ho ho' ha hb hc hm) (tChain_m h h')
theorem se_chain {o o' : CmpOp} {a b c : Expr} {pos : Pos} {m n l : M O} {r r' : R2} {op op' : O → O → Option O} (ho : OpR X (compareOp o) r) (ho' : OpR X (compareOp o') r') (h : OpV X.K X.mg r op) (h' : OpV X.K X.mg r' op') (ha : SE X a m) (hb : SE X b n) (hc : SE X c l)
    (hm : lastMarks [o, o'] [b, c] = false := by with_unfolding_all rfl) : SE X (.Compare a [o, o'] [b, c] pos) (mChain op op' m n l) := PE.imp (pe_chain ho ho' ha hb hc hm) (tChain_m h h')

/-! ### displays -/
def tMs (K : PySem.W.Frag) (mg : Str → Option Value) (m : M (List O)) : TA := fun σ H Q => ∃ ρ T os ρ', Cov σ ρ ∧ Rep K mg H (pairs σ ρ ++ T) [] ∧ m ρ = .ok os ρ' ∧ ∀ vs H', Cov σ ρ' → vs.length = os.length → Rep K mg H' (zipI vs os ++ (pairs σ ρ' ++ T)) [] → Q vs H'
theorem PA.imp {es : List Expr} {t t' : TA} (h : PA X es t) (q : ∀ σ H Q, t' σ H Q → t σ H Q) : PA X es t' := ⟨fun pos pins s σ H Q I w => h.run pos pins s σ H Q I (q σ H Q w)⟩
def SEs (X : Cx) (es : List Expr) (m : M (List O)) : Prop := PA X es (tMs X.K X.mg m)
def mNil : M (List O) := fun ρ => .ok [] ρ
def mCons (m : M O) (ms : M (List O)) : M (List O) := fun ρ => (m ρ).bind fun o ρ1 => (ms ρ1).bind fun os ρ2 => .ok (o :: os) ρ2
theorem ses_nil : SEs X [] mNil := PA.imp pa_nil fun σ H Q w => by
  obtain ⟨ρ, T, os, ρ', c, R, e, k⟩ := w
  cases e
  exact k [] H c rfl R
theorem ses_cons {e : Expr} {es : List Expr} {m : M O} {ms : M (List O)} (h : SE X e m) (hs : SEs X es ms) (hst : starEach (e :: es) X.env = (false, eval e X.env) :: starEach es X.env := by rfl) : SEs X (e :: es) (mCons m ms) :=
  PA.imp (pa_cons h hs hst) fun σ H Q w => by
    obtain ⟨ρ, T, os, ρ', c, R, e, k⟩ := w
    obtain ⟨o, ρ1, e1, e⟩ := Res.bind_eq e
    obtain ⟨os', ρ2, e2, e⟩ := Res.bind_eq e
    cases e
    refine ⟨ρ, T, o, ρ1, c, R, e1, fun v H1 c1 R1 => ⟨ρ1, .ov v o :: T, os', ρ', c1, R1.perm List.perm_middle.symm, e2, fun vs H2 c2 hl R2 => k (v :: vs) H2 c2 (by simp [hl]) (R2.perm ?_)⟩⟩
    show (zipI vs os' ++ (pairs σ ρ' ++ .ov v o :: T)).Perm (.ov v o :: (zipI vs os' ++ (pairs σ ρ' ++ T)))
    exact ((List.perm_middle (a := Item.ov v o)).append_left _).trans List.perm_middle
def mLst (ms : M (List O)) : M O := fun ρ => (ms ρ).bind fun os ρ' => if os.length ≤ 1000000 then .ok (.lst os) ρ' else .no
def mTup (ms : M (List O)) : M O := fun ρ => (ms ρ).bind fun os ρ' => if os.length ≤ 1000000 then .ok (.val (.tup (O.toDs os))) ρ' else .no
theorem Rep.frzs : ∀ {vs : List V} {os : List O} {H : Hp} {L : List Item}, Rep K mg H (zipI vs os ++ L) [] → Rep K mg H (zipI vs ((O.toDs os).map O.val) ++ L) []
  | [], os, H, L, R => by cases os <;> exact R
  | v :: vs, [], H, L, R => R
  | v :: vs, o :: os, H, L, R => by
    have R1 : Rep K mg H (.ov v (.val o.toD) :: (zipI vs os ++ L)) [] := Rep.frz R
    have R2 : Rep K mg H (zipI vs os ++ (.ov v (.val o.toD) :: L)) [] := R1.perm List.perm_middle.symm
    exact (Rep.frzs R2).perm List.perm_middle
theorem toDs_len (os : List O) : (O.toDs os).length = os.length := by rw [toDs_map]; simp
theorem se_lst {es : List Expr} {pos : Pos} {ms : M (List O)} (h : SEs X es ms) : SE X (.List es pos) (mLst ms) := PE.imp (pe_lst h) fun σ H Q w => by
  obtain ⟨ρ, T, o, ρ', c, R, e, k⟩ := w
  obtain ⟨os, ρ1, e1, e⟩ := Res.bind_eq e
  split at e
  · rename_i hl
    cases e
    refine ⟨ρ, T, os, _, c, R, e1, fun vs H' c' hv R' => ⟨line6 (by omega), fun p hp => k _ _ c' (Rep.closeL (R'.new hp) hv)⟩⟩
  · cases e
theorem se_tup {es : List Expr} {x1 : Nat} {pos : Pos} {ms : M (List O)} (h : SEs X es ms) : SE X (.Tuple es x1 pos) (mTup ms) := PE.imp (pe_tup h) fun σ H Q w => by
  obtain ⟨ρ, T, o, ρ', c, R, e, k⟩ := w
  obtain ⟨os, ρ1, e1, e⟩ := Res.bind_eq e
  split at e
  · rename_i hl
    cases e
    refine ⟨ρ, T, os, _, c, R, e1, fun vs H' c' hv R' => ⟨line6 (by omega), fun p hp => k _ _ c' ?_⟩⟩
    exact Rep.newT (Rep.frzs R') (by rw [toDs_len]; exact hv) hp
  · cases e
end
end FB

/-! Statements: names stored, blocks, if, while, for, return. -/
namespace FB
open PySem PySem.Spec L2
open PyProof.Rows hiding St

section
variable {X : Cx} {K : PySem.W.Frag} {mg : Str → Option Value} {P : List Nat}
/-- what is wanted behind a statement that ends so -/
def Post (K : PySem.W.Frag) (mg : Str → Option Value) (P : List Nat) (T : List Item) (D : Ends) (σ : L2.St) : Res Fl → Prop
  | .ok .nx ρ' => ∀ σ' H', Fix P σ σ' → Cov σ' ρ' → Rep K mg H' (pairs σ' ρ' ++ T) [] → D.nx σ' H'
  | .ok .brk ρ' => ∀ σ' H', Fix P σ σ' → Cov σ' ρ' → Rep K mg H' (pairs σ' ρ' ++ T) [] → D.bk σ' H'
  | .ok .ct ρ' => ∀ σ' H', Fix P σ σ' → Cov σ' ρ' → Rep K mg H' (pairs σ' ρ' ++ T) [] → D.ct σ' H'
  | .ok (.ret o) ρ' => ∀ v σ' H', Fix P σ σ' → Cov σ' ρ' → Rep K mg H' (.ov v o :: (pairs σ' ρ' ++ T)) [] → D.rt v H'
  | .exc _ _ => False
  | .no => False
theorem tS_iff {m : M Fl} {D : Ends} {σ : L2.St} {H : Hp} : tS K mg P m D σ H ↔ ∃ ρ T, Cov σ ρ ∧ Rep K mg H (pairs σ ρ ++ T) [] ∧ Post K mg P T D σ (m ρ) := by
  unfold tS
  constructor
  · rintro ⟨ρ, T, c, R, h⟩
    refine ⟨ρ, T, c, R, ?_⟩
    cases e : m ρ with
    | ok f ρ' => rw [e] at h; cases f <;> exact h
    | exc x ρ' => rw [e] at h; exact h
    | no => rw [e] at h; exact h
  · rintro ⟨ρ, T, c, R, h⟩
    refine ⟨ρ, T, c, R, ?_⟩
    cases e : m ρ with
    | ok f ρ' => rw [e] at h; cases f <;> exact h
    | exc x ρ' => rw [e] at h; exact h
    | no => rw [e] at h; exact h
theorem Post.fix {T : List Item} {D : Ends} {σ σ1 : L2.St} (f : Fix P σ σ1) {r : Res Fl} (h : Post K mg P T D σ r) : Post K mg P T D σ1 r := by
  cases r with
  | ok fl ρ' =>
    cases fl with
    | nx => exact fun σ' H' g => h σ' H' (f.trans g)
    | brk => exact fun σ' H' g => h σ' H' (f.trans g)
    | ct => exact fun σ' H' g => h σ' H' (f.trans g)
    | ret o => exact fun v σ' H' g => h v σ' H' (f.trans g)
  | exc x ρ' => exact h
  | no => exact h
/-- .. the same ends but the next one -/
theorem Post.nx {T : List Item} {D D' : Ends} {σ : L2.St} {r : Res Fl} {g : Env → Res Fl} (h : Post K mg P T D σ (r.bind fun f ρ1 => match f with | .nx => g ρ1 | f => .ok f ρ1)) (e1 : D'.rt = D.rt) (e2 : D'.bk = D.bk) (e3 : D'.ct = D.ct)
    (q : ∀ ρ1 σ' H', Fix P σ σ' → Cov σ' ρ1 → Rep K mg H' (pairs σ' ρ1 ++ T) [] → Post K mg P T D σ (g ρ1) → D'.nx σ' H') : Post K mg P T D' σ r := by
  cases r with
  | ok fl ρ' =>
    cases fl with
    | nx => exact fun σ' H' f c R => q ρ' σ' H' f c R h
    | brk => exact fun σ' H' f c R => by rw [e2]; exact h σ' H' f c R
    | ct => exact fun σ' H' f c R => by rw [e3]; exact h σ' H' f c R
    | ret o => exact fun v σ' H' f c R => by rw [e1]; exact h v σ' H' f c R
  | exc x ρ' => exact h
  | no => exact h
def mSkip : M Fl := fun ρ => .ok .nx ρ
def mSeq (a b : M Fl) : M Fl := fun ρ => (a ρ).bind fun f ρ1 => match f with
  | .nx => b ρ1
  | f => .ok f ρ1
theorem sss_nil : SSs X P [] mSkip := PSs.imp pss_nil fun D σ H w => by
  obtain ⟨ρ, T, c, R, h⟩ := tS_iff.mp w
  exact h σ H (Fix.refl _ _) c R
theorem sss_one {st : Stmt} {m : M Fl} (h : SS X P st m) : SSs X P [st] m := pss_one h
theorem sss_cons {st : Stmt} {rest : List Stmt} {a b : M Fl} (h1 : SS X P st a) (h2 : SSs X P rest b) : SSs X P (st :: rest) (mSeq a b) := PSs.imp (pss_cons h1 h2) fun D σ H w => by
  obtain ⟨ρ, T, c, R, h⟩ := tS_iff.mp w
  refine tS_iff.mpr ⟨ρ, T, c, R, Post.nx (D := D) h rfl rfl rfl fun ρ1 σ' H' f c' R' h' => ?_⟩
  exact tS_iff.mpr ⟨ρ1, T, c', R', h'.fix f⟩
def mEx (m : M O) : M Fl := fun ρ => (m ρ).bind fun _ ρ1 => .ok .nx ρ1
def mRet (m : M O) : M Fl := fun ρ => (m ρ).bind fun o ρ1 => .ok (.ret o) ρ1
theorem ss_expr {e : Expr} {pos : Pos} {m : M O} (h : SE X e m) (hs : swapsWith e none pos.line X.env = pure false := by rfl) : SS X P (.Expr e pos) (mEx m) := PS.imp (ps_expr h hs) fun D σ H w => by
  obtain ⟨ρ, T, c, R, h⟩ := tS_iff.mp w
  unfold mEx at h
  cases e1 : m ρ with
  | ok o ρ1 =>
    rw [e1] at h
    exact ⟨ρ, T, o, ρ1, c, R, e1, fun v H' c' R' => h σ H' (Fix.refl _ _) c' R'.drop⟩
  | exc x ρ1 => rw [e1] at h; exact h.elim
  | no => rw [e1] at h; exact h.elim
theorem ss_ret {e : Expr} {pos : Pos} {m : M O} (h : SE X e m) : SS X P (.Return (some e) pos) (mRet m) := PS.imp (ps_ret h) fun D σ H w => by
  obtain ⟨ρ, T, c, R, h⟩ := tS_iff.mp w
  unfold mRet at h
  cases e1 : m ρ with
  | ok o ρ1 =>
    rw [e1] at h
    exact ⟨ρ, T, o, ρ1, c, R, e1, fun v H' c' R' => h v σ H' (Fix.refl _ _) c' R'⟩
  | exc x ρ1 => rw [e1] at h; exact h.elim
  | no => rw [e1] at h; exact h.elim
def mIf (t : M Bool) (a b : M Fl) : M Fl := fun ρ => (t ρ).bind fun c ρ1 => if c = true then a ρ1 else b ρ1
theorem ss_if {c : Expr} {a b : List Stmt} {pos : Pos} {t : M Bool} {m n : M Fl} (hc : SET X c t) (ha : SSs X P a m) (hb : SSs X P b n) : SS X P (.If c a b pos) (mIf t m n) := PS.imp (ps_if hc ha hb) fun D σ H w => by
  obtain ⟨ρ, T, cv, R, h⟩ := tS_iff.mp w
  unfold mIf at h
  cases e1 : t ρ with
  | ok u ρ1 =>
    rw [e1] at h
    refine ⟨ρ, T, u, ρ1, cv, R, e1, fun H' c' R' => ?_⟩
    cases u with
    | true => rw [if_pos rfl]; exact tS_iff.mpr ⟨ρ1, T, c', R', h⟩
    | false => rw [if_neg Bool.false_ne_true]; exact tS_iff.mpr ⟨ρ1, T, c', R', h⟩
  | exc x ρ1 => rw [e1] at h; exact h.elim
  | no => rw [e1] at h; exact h.elim

/-! ### names stored -/
theorem pairs_none {σ : L2.St} {ρ : Env} {i : Nat} (h : ∀ o, ρ[i]? ≠ some (some o)) : pairs σ (ρ.set i none) = pairs σ ρ := by
  by_cases hi : i < ρ.length
  · have e : ρ[i]? = some none := by
      cases q : ρ[i]? with
      | none => rw [List.getElem?_eq_none_iff] at q; omega
      | some u => cases u with
        | none => rfl
        | some o => exact absurd q (h o)
    have : ρ.set i none = ρ := by
      apply List.ext_getElem?
      intro j
      by_cases hj : i = j
      · subst hj; rw [e]; simp [hi]
      · rw [List.getElem?_set_ne hj]
    rw [this]
  · rw [List.set_eq_of_length_le (by omega)]
theorem Rep.slotDrop {H : Hp} {σ : L2.St} {ρ : Env} {M T : List Item} (c : Cov σ ρ) (i : Nat) (h : Rep K mg H (M ++ (pairs σ ρ ++ T)) []) : Rep K mg H (M ++ (pairs σ (ρ.set i none) ++ T)) [] := by
  by_cases q : ∃ o, ρ[i]? = some (some o)
  · obtain ⟨o, e⟩ := q
    obtain ⟨v, hv⟩ := c.ex i o e
    have p : (M ++ (pairs σ ρ ++ T)).Perm (.ov v o :: (M ++ (pairs σ (ρ.set i none) ++ T))) :=
      (((pairs_take hv e).append_right T).append_left M).trans List.perm_middle
    exact (h.perm p).drop
  · rw [pairs_none fun o e => q ⟨o, e⟩]; exact h
theorem Rep.store {H : Hp} {σ : L2.St} {ρ : Env} {T : List Item} {i : Nat} {v : V} {o : O} (c : Cov σ ρ) (h : Rep K mg H (.ov v o :: (pairs σ ρ ++ T)) []) : Rep K mg H (pairs (σ.set i (some v)) (ρ.set i (some o)) ++ T) [] := by
  by_cases hi : i < ρ.length
  · have h1 := Rep.slotDrop (M := [.ov v o]) c i h
    exact h1.perm ((pairs_put (by rw [c.len]; exact hi) hi).append_right T)
  · rw [List.set_eq_of_length_le (by rw [c.len]; omega), List.set_eq_of_length_le (by omega)]
    exact h.drop
def mSetO (i : Nat) (m : M O) : M Fl := fun ρ => (m ρ).bind fun o ρ1 => .ok .nx (ρ1.set i (some o))
def mSetP (i : Nat) (m : M O) : M Fl := fun ρ => (m ρ).bind fun o ρ1 => .ok .nx (ρ1.set i (some (.val o.toD)))
theorem ss_setO (i : Nat) {x : Str} {e : Expr} {pos pos' : Pos} {m : M O} (ok : CxOk X) (hi : X.N[i]? = some x) (hx : Loc X.env.scope x) (h : SE X e m) (hP : i ∉ P := by decide) (hs : swapsWith e (some (.Name x pos')) pos.line X.env = pure false := by rfl) (hf : X.fn x = true ∨ X.env.scope.names.lookup x = some .local := by first | exact .inl rfl | exact .inr rfl | assumption) :
    SS X P (.Assign [.Name x pos'] e pos) (mSetO i m) := PS.imp (ps_set ok.nd hi hx h hs hf) fun D σ H w => by
  obtain ⟨ρ, T, c, R, h⟩ := tS_iff.mp w
  unfold mSetO at h
  cases e1 : m ρ with
  | ok o ρ1 =>
    rw [e1] at h
    exact ⟨ρ, T, o, ρ1, c, R, e1, fun v H' c' R' => h _ H' (Fix.set hP) (c'.set i v o) (Rep.store c' R')⟩
  | exc x ρ1 => rw [e1] at h; exact h.elim
  | no => rw [e1] at h; exact h.elim
theorem ss_setP (i : Nat) {x : Str} {e : Expr} {pos pos' : Pos} {m : M O} (ok : CxOk X) (hi : X.N[i]? = some x) (hx : Loc X.env.scope x) (h : SE X e m) (hP : i ∉ P := by decide) (hs : swapsWith e (some (.Name x pos')) pos.line X.env = pure false := by rfl) (hf : X.fn x = true ∨ X.env.scope.names.lookup x = some .local := by first | exact .inl rfl | exact .inr rfl | assumption) :
    SS X P (.Assign [.Name x pos'] e pos) (mSetP i m) := PS.imp (ps_set ok.nd hi hx h hs hf) fun D σ H w => by
  obtain ⟨ρ, T, c, R, h⟩ := tS_iff.mp w
  unfold mSetP at h
  cases e1 : m ρ with
  | ok o ρ1 =>
    rw [e1] at h
    exact ⟨ρ, T, o, ρ1, c, R, e1, fun v H' c' R' => h _ H' (Fix.set hP) (c'.set i v _) (Rep.store c' R'.frz)⟩
  | exc x ρ1 => rw [e1] at h; exact h.elim
  | no => rw [e1] at h; exact h.elim

/-! ### targets -/
structure RlOk (Rl : L2.St → L2.St → Prop) : Prop where
  refl : ∀ σ, Rl σ σ
  trans : ∀ {a b c}, Rl a b → Rl b c → Rl a c
def RlSet (Rl : L2.St → L2.St → Prop) (i : Nat) : Prop := ∀ (σ : L2.St) (v : Option V), Rl σ (σ.set i v)
theorem fixOk (P : List Nat) : RlOk (Fix P) := ⟨Fix.refl P, Fix.trans⟩
theorem fixSet {P : List Nat} {i : Nat} (h : i ∉ P := by decide) : RlSet (Fix P) i := fun _ _ => Fix.set h
def Wip (own : List Nat) (σ σ' : L2.St) : Prop := wipe σ' own = wipe σ own
theorem wipe_set : ∀ {own : List Nat} {σ : L2.St} {i : Nat} {v : Option V}, i ∈ own → wipe (σ.set i v) own = wipe σ own
  | [], _, _, _, h => by simp at h
  | w :: ws, σ, i, v, h => by
    unfold wipe
    by_cases e : i ∈ ws
    · rw [wipe_set e]
    · have : i = w := by rcases List.mem_cons.mp h with q | q; exact q; exact absurd q e
      subst this
      have out : ∀ {ws : List Nat} {σ : L2.St}, i ∉ ws → wipe (σ.set i v) ws = (wipe σ ws).set i v := by
        intro ws
        induction ws with
        | nil => intro σ _; rfl
        | cons u us ih =>
          intro σ hm
          unfold wipe
          rw [ih (fun z => hm (List.mem_cons_of_mem _ z))]
          exact List.set_comm _ _ (fun z => hm (by rw [z]; exact List.mem_cons_self ..))
      rw [out e, List.set_set]
theorem wipSet {own : List Nat} {i : Nat} (h : i ∈ own := by decide) : RlSet (Wip own) i := fun _ _ => wipe_set h
variable {Rl : L2.St → L2.St → Prop}
def tG (K : PySem.W.Frag) (mg : Str → Option Value) (Rl : L2.St → L2.St → Prop) (a : D → Env → Option Env) : TG := fun v σ H Q => ∃ ρ T d ρ', Cov σ ρ ∧ Rep K mg H (.ov v (.val d) :: (pairs σ ρ ++ T)) [] ∧ a d ρ = some ρ' ∧ ∀ σ', Rl σ σ' → Cov σ' ρ' → Rep K mg H (pairs σ' ρ' ++ T) [] → Q σ' H
def tGs (K : PySem.W.Frag) (mg : Str → Option Value) (Rl : L2.St → L2.St → Prop) (a : List D → Env → Option Env) : TGs := fun vs σ H Q => ∃ ρ T ds ρ', Cov σ ρ ∧ vs.length = ds.length ∧ Rep K mg H (zipI vs (ds.map O.val) ++ (pairs σ ρ ++ T)) [] ∧ a ds ρ = some ρ' ∧ ∀ σ', Rl σ σ' → Cov σ' ρ' → Rep K mg H (pairs σ' ρ' ++ T) [] → Q σ' H
theorem PG.imp {e : Expr} {t t' : TG} (h : PG X e t) (q : ∀ v σ H Q, t' v σ H Q → t v σ H Q) : PG X e t' := ⟨fun pins s σ H v u Q I r w => h.run pins s σ H v u Q I r (q v σ H Q w)⟩
theorem PGs.imp {e : List Expr} {t t' : TGs} (h : PGs X e t) (q : ∀ v σ H Q, t' v σ H Q → t v σ H Q) : PGs X e t' := ⟨fun pins s σ H v u Q I r w => h.run pins s σ H v u Q I r (q v σ H Q w)⟩
def SG (X : Cx) (Rl : L2.St → L2.St → Prop) (e : Expr) (a : D → Env → Option Env) : Prop := PG X e (tG X.K X.mg Rl a)
def SGs (X : Cx) (Rl : L2.St → L2.St → Prop) (e : List Expr) (a : List D → Env → Option Env) : Prop := PGs X e (tGs X.K X.mg Rl a)
def aN (i : Nat) : D → Env → Option Env := fun d ρ => some (ρ.set i (some (.val d)))
def aNil : List D → Env → Option Env := fun ds ρ => match ds with
  | [] => some ρ
  | _ => none
def aCons (a : D → Env → Option Env) (as : List D → Env → Option Env) : List D → Env → Option Env := fun ds ρ => match ds with
  | d :: ds => (a d ρ).bind fun ρ1 => as ds ρ1
  | _ => none
def aTup (as : List D → Env → Option Env) : D → Env → Option Env := fun d ρ => match d with
  | .tup ds => as ds ρ
  | _ => none
theorem sg_n (i : Nat) {x : Str} {pos : Pos} (ok : CxOk X) (hi : X.N[i]? = some x) (hx : Loc X.env.scope x) (hP : RlSet Rl i) (hf : X.fn x = true ∨ X.env.scope.names.lookup x = some .local := by first | exact .inl rfl | exact .inr rfl | assumption) : SG X Rl (.Name x pos) (aN i) :=
  PG.imp (pg_name ok.nd hi hx hf) fun v σ H Q w => by
    obtain ⟨ρ, T, d, ρ', c, R, e, k⟩ := w
    cases e
    exact k _ (hP σ _) (c.set i v _) (Rep.store c R)
theorem sgs_nil (hr : RlOk Rl) : SGs X Rl [] aNil := PGs.imp pgs_nil fun vs σ H Q w => by
  obtain ⟨ρ, T, ds, ρ', c, hl, R, e, k⟩ := w
  cases ds with
  | nil =>
    cases e
    have : vs = [] := List.eq_nil_of_length_eq_zero hl
    subst this
    exact ⟨rfl, k σ (hr.refl _) c R⟩
  | cons d ds => cases e
theorem sgs_cons (hr : RlOk Rl) {e : Expr} {es : List Expr} {a : D → Env → Option Env} {as : List D → Env → Option Env} (h1 : SG X Rl e a) (h2 : SGs X Rl es as) (hs : (assignEach (e :: es) X.env).map (·.2) = assign e X.env :: (assignEach es X.env).map (·.2) := by rfl) : SGs X Rl (e :: es) (aCons a as) :=
  PGs.imp (pgs_cons h1 h2 hs) fun vs σ H Q w => by
    obtain ⟨ρ, T, ds, ρ', c, hl, R, e, k⟩ := w
    cases ds with
    | nil => cases e
    | cons d ds =>
      cases vs with
      | nil => simp at hl
      | cons v vs =>
        have e : (a d ρ).bind (fun ρ1 => as ds ρ1) = some ρ' := e
        cases e1 : a d ρ with
        | none => rw [e1] at e; cases e
        | some ρ1 =>
          rw [e1] at e
          refine ⟨v, vs, rfl, ρ, zipI vs (ds.map O.val) ++ T, d, ρ1, c, R.perm ?_, e1, fun σ1 f1 c1 R1 => ?_⟩
          · refine List.Perm.cons _ ?_
            show (zipI vs (ds.map O.val) ++ (pairs σ ρ ++ T)).Perm _
            rw [← List.append_assoc, ← List.append_assoc]
            exact List.perm_append_comm.append_right T
          · refine ⟨ρ1, T, ds, ρ', c1, by simpa using hl, R1.perm ?_, e, fun σ' f' c' R' => k σ' (hr.trans f1 f') c' R'⟩
            rw [← List.append_assoc, ← List.append_assoc]
            exact List.perm_append_comm.append_right T
theorem sg_tup {es : List Expr} {x1 : Nat} {pos : Pos} {as : List D → Env → Option Env} {n : Nat} (ok : CxOk X) (h : SGs X Rl es as) (hn : (assignEach es X.env).length = n := by rfl) (hst : (assignEach es X.env).findIdx? (·.1) = none := by rfl) (hl : ∀ ds ρ ρ', as ds ρ = some ρ' → ds.length = n) : SG X Rl (.Tuple es x1 pos) (aTup as) :=
  PG.imp (pg_tup ok.calm h hn hst) fun v σ H Q w => by
    obtain ⟨ρ, T, d, ρ', c, R, e, k⟩ := w
    unfold aTup at e
    split at e
    · rename_i ds
      obtain ⟨p, vs, rfl, hp, lp, R1⟩ := R.lend.shT (List.mem_cons_self ..) rfl
      refine ⟨p, vs, rfl, hp, by rw [lp]; exact hl _ _ _ e, ρ, T, ds, ρ', c, lp, ?_, e, k⟩
      exact (R1.nob.perm List.perm_middle).drop
    · cases e
theorem aNil_len : ∀ ds ρ ρ', aNil ds ρ = some ρ' → ds.length = 0 := fun ds ρ ρ' e => by
  cases ds with
  | nil => rfl
  | cons => cases e
theorem aCons_len {a : D → Env → Option Env} {as : List D → Env → Option Env} {n : Nat} (h : ∀ ds ρ ρ', as ds ρ = some ρ' → ds.length = n) : ∀ ds ρ ρ', aCons a as ds ρ = some ρ' → ds.length = n + 1 := fun ds ρ ρ' e => by
  cases ds with
  | nil => cases e
  | cons d ds =>
    have e : (a d ρ).bind (fun ρ1 => as ds ρ1) = some ρ' := e
    cases e1 : a d ρ with
    | none => rw [e1] at e; cases e
    | some ρ1 => rw [e1] at e; simp [h ds ρ1 ρ' e]
/-- a, b = .. -/
def mAsg (a : D → Env → Option Env) (m : M O) : M Fl := fun ρ => (m ρ).bind fun o ρ1 => match a o.toD ρ1 with
  | some ρ2 => .ok .nx ρ2
  | none => .no
theorem ss_asg {tg e : Expr} {pos : Pos} {m : M O} {a : D → Env → Option Env} (h : SE X e m) (hg : SG X (Fix P) tg a) (hs : swapsWithSole [tg] e pos.line X.env = pure false := by rfl) (hw : swappedStores [tg] e X.env = pure none := by rfl) (h1 : (assignEach [tg] X.env).map (·.2) = [assign tg X.env] := by rfl) : SS X P (.Assign [tg] e pos) (mAsg a m) :=
  PS.imp (ps_asg h hg hs hw h1) fun D σ H w => by
    obtain ⟨ρ, T, c, R, h⟩ := tS_iff.mp w
    unfold mAsg at h
    cases e1 : m ρ with
    | ok o ρ1 =>
      rw [e1] at h
      have h : Post X.K X.mg P T D σ (match a o.toD ρ1 with | some ρ2 => .ok .nx ρ2 | none => .no) := h
      cases e2 : a o.toD ρ1 with
      | none => rw [e2] at h; exact h.elim
      | some ρ2 =>
        rw [e2] at h
        exact ⟨ρ, T, o, ρ1, c, R, e1, fun v H' c' R' => ⟨ρ1, T, _, ρ2, c', R'.frz, e2, fun σ' f' c2 R2 => h σ' H' f' c2 R2⟩⟩
    | exc x ρ1 => rw [e1] at h; exact h.elim
    | no => rw [e1] at h; exact h.elim

/-! ### while -/
def whileN (t : M Bool) (b : M Fl) : Nat → M Fl
  | 0 => fun _ => .no
  | n + 1 => fun ρ => (t ρ).bind fun c ρ1 => if c = true then (b ρ1).bind fun f ρ2 => match f with
      | .nx => whileN t b n ρ2
      | .ct => whileN t b n ρ2
      | .brk => .ok .nx ρ2
      | .ret o => .ok (.ret o) ρ2
    else .ok .nx ρ1
def mWhile (fuel : Env → Nat) (t : M Bool) (b : M Fl) : M Fl := fun ρ => whileN t b (fuel ρ) ρ
theorem ss_while {c : Expr} {body : List Stmt} {pos : Pos} {t : M Bool} {b : M Fl} (fuel : Env → Nat) (hp : PassesOwn (model X.prog X.w) X.A X.env X.xe) (hc : SET X c t) (hb : SSs X P body b) : SS X P (.While c body [] pos) (mWhile fuel t b) :=
  PS.imp (ps_while hp hc hb) fun D σ H w => by
    obtain ⟨ρ, T, cv, R, h⟩ := tS_iff.mp w
    refine ⟨fun n σ' H' => ∃ ρ', Fix P σ σ' ∧ Cov σ' ρ' ∧ Rep X.K X.mg H' (pairs σ' ρ' ++ T) [] ∧ Post X.K X.mg P T D σ (whileN t b n ρ'), ⟨fuel ρ, ρ, Fix.refl _ _, cv, R, h⟩, ?_⟩
    rintro n σ1 H1 ⟨ρ1, f1, c1, R1, h1⟩
    cases n with
    | zero => exact h1.elim
    | succ n =>
      have h1 : Post X.K X.mg P T D σ ((t ρ1).bind fun c ρ1 => if c = true then (b ρ1).bind fun f ρ2 => match f with
        | .nx => whileN t b n ρ2
        | .ct => whileN t b n ρ2
        | .brk => .ok .nx ρ2
        | .ret o => .ok (.ret o) ρ2
        else .ok .nx ρ1) := h1
      cases e1 : t ρ1 with
      | exc x ρ2 => rw [e1] at h1; exact h1.elim
      | no => rw [e1] at h1; exact h1.elim
      | ok u ρ2 =>
        rw [e1] at h1
        refine ⟨ρ1, T, u, ρ2, c1, R1, e1, fun H2 c2 R2 => ?_⟩
        cases u with
        | false =>
          rw [if_neg Bool.false_ne_true]
          exact h1 σ1 H2 f1 c2 R2
        | true =>
          rw [if_pos rfl]
          have h1 : Post X.K X.mg P T D σ ((b ρ2).bind fun f ρ2 => match f with
            | .nx => whileN t b n ρ2
            | .ct => whileN t b n ρ2
            | .brk => .ok .nx ρ2
            | .ret o => .ok (.ret o) ρ2) := h1
          refine ⟨fun σ' H' => ∃ ρ', Fix P σ σ' ∧ Cov σ' ρ' ∧ Rep X.K X.mg H' (pairs σ' ρ' ++ T) [] ∧ Post X.K X.mg P T D σ (whileN t b n ρ'), fun σ' H' q => ⟨n, Nat.lt_succ_self n, q⟩, ?_⟩
          refine tS_iff.mpr ⟨ρ2, T, c2, R2, ?_⟩
          cases e2 : b ρ2 with
          | exc x ρ3 => rw [e2] at h1; exact h1.elim
          | no => rw [e2] at h1; exact h1.elim
          | ok fl ρ3 =>
            rw [e2] at h1
            cases fl with
            | nx => exact fun σ' H' f' c' R' => ⟨ρ3, f1.trans f', c', R', h1⟩
            | ct => exact fun σ' H' f' c' R' => ⟨ρ3, f1.trans f', c', R', h1⟩
            | brk => exact fun σ' H' f' c' R' => h1 σ' H' (f1.trans f') c' R'
            | ret o => exact fun v σ' H' f' c' R' => h1 v σ' H' (f1.trans f') c' R'

/-! ### for -/
/-- an iterator that yields these, while the kept items stand -/
def Its (K : PySem.W.Frag) (mg : Str → Option Value) (J : It) (ks : List Item) (ds : List D) : Prop :=
  ∀ (L : List Item) (H : Hp), Rep K mg H (ks ++ L) [] → (∀ (i : Nat) (d : D), ds[i]? = some d → J.go i H ∧ ∀ x H', J.yld i H x H' → Same H H' ∧ Rep K mg H' (.ov x (.val d) :: (ks ++ L)) []) ∧ J.stop ds.length H
def tI (K : PySem.W.Frag) (mg : Str → Option Value) (m : M (List D)) : TI := fun σ H R => ∃ ρ T ds ρ', Cov σ ρ ∧ Rep K mg H (pairs σ ρ ++ T) [] ∧ m ρ = .ok ds ρ' ∧ ∀ J ks H', Cov σ ρ' → Its K mg J ks ds → Rep K mg H' (ks ++ (pairs σ ρ' ++ T)) [] → R J H'
theorem PI.imp {tg it : Expr} {t t' : TI} (h : PI X tg it t) (q : ∀ σ H R, t' σ H R → t σ H R) : PI X tg it t' := ⟨fun pins s σ H R I w => h.run pins s σ H R I (q σ H R w)⟩
def SI (X : Cx) (tg it : Expr) (m : M (List D)) : Prop := PI X tg it (tI X.K X.mg m)
def forL (a : D → Env → Option Env) (b : M Fl) : List D → M Fl
  | [] => fun ρ => .ok .nx ρ
  | d :: ds => fun ρ => match a d ρ with
    | none => .no
    | some ρ1 => (b ρ1).bind fun f ρ2 => match f with
      | .nx => forL a b ds ρ2
      | .ct => forL a b ds ρ2
      | .brk => .ok .nx ρ2
      | .ret o => .ok (.ret o) ρ2
def mFor (m : M (List D)) (a : D → Env → Option Env) (b : M Fl) : M Fl := fun ρ => (m ρ).bind fun ds ρ1 => forL a b ds ρ1
theorem drop_cons {α : Type} {ds : List α} {i : Nat} (h : i < ds.length) : ds.drop i = ds[i] :: ds.drop (i + 1) := List.drop_eq_getElem_cons h
theorem Rep.drops : ∀ {H : Hp} {M L : List Item}, Rep K mg H (M ++ L) [] → Rep K mg H L []
  | _, [], _, h => h
  | _, _ :: _, _, h => Rep.drops (Rep.drop h)
theorem rot (A B C : List Item) : (A ++ (B ++ C)).Perm (B ++ (A ++ C)) := by
  rw [← List.append_assoc, ← List.append_assoc]
  exact List.perm_append_comm.append_right _
theorem Post.more {ks T : List Item} {D : Ends} {σ : L2.St} {r : Res Fl} (h : Post K mg P T D σ r) : Post K mg P (ks ++ T) D σ r := by
  cases r with
  | ok fl ρ' =>
    cases fl with
    | nx => exact fun σ' H' f c R => h σ' H' f c (R.perm (rot _ _ _)).drops
    | brk => exact fun σ' H' f c R => h σ' H' f c (R.perm (rot _ _ _)).drops
    | ct => exact fun σ' H' f c R => h σ' H' f c (R.perm (rot _ _ _)).drops
    | ret o => exact fun v σ' H' f c R => h v σ' H' f c (R.perm (((rot _ _ _).cons _).trans List.perm_middle.symm)).drops
  | exc x ρ' => exact h
  | no => exact h
/-- the turns of a loop over these -/
theorem for_core {J : It} {ks T : List Item} {ds : List D} {a : D → Env → Option Env} {b : M Fl} {D : Ends} {σ : L2.St} {H : Hp} {ρ : Env} (c : Cov σ ρ) (hJ : Its K mg J ks ds) (R : Rep K mg H (ks ++ (pairs σ ρ ++ T)) []) (h : Post K mg P (ks ++ T) D σ (forL a b ds ρ)) :
    ∃ W : Nat → Nat → L2.St → Hp → Prop, (∃ m, W 0 m σ H) ∧ ∀ i m σ H, W i m σ H →
      (J.stop i H ∧ D.nx σ H) ∨ (J.go i H ∧ ∃ N : L2.St → Hp → Prop, (∀ σ' H', N σ' H' → ∃ m', m' < m ∧ W (i + 1) m' σ' H') ∧ ∀ x H', J.yld i H x H' → tG K mg (Fix P) a x σ H' fun σ2 H2 => tS K mg P b { D with nx := N, ct := N, bk := D.nx } σ2 H2) := by
  let W : Nat → L2.St → Hp → Prop := fun i σ' H' => ∃ ρ', i ≤ ds.length ∧ Fix P σ σ' ∧ Cov σ' ρ' ∧ Rep K mg H' (ks ++ (pairs σ' ρ' ++ T)) [] ∧ Post K mg P (ks ++ T) D σ (forL a b (ds.drop i) ρ')
  refine ⟨fun i n σ' H' => n = ds.length - i ∧ W i σ' H', ⟨ds.length, by simp, ρ, Nat.zero_le _, Fix.refl _ _, c, R, h⟩, ?_⟩
  rintro i n σ1 H1 ⟨rfl, ρ2, hi, f1, c1, R1, h1⟩
  by_cases hlt : i < ds.length
  · have hd : ds[i]? = some ds[i] := by simp [hlt]
    obtain ⟨hgo, hy⟩ := (hJ _ H1 R1).1 i _ hd
    refine .inr ⟨hgo, fun σ' H' => W (i + 1) σ' H', fun σ' H' q => ⟨ds.length - (i + 1), by omega, rfl, q⟩, fun x H2 y => ?_⟩
    obtain ⟨_, R2⟩ := hy x H2 y
    rw [drop_cons hlt] at h1
    have h1 : Post K mg P (ks ++ T) D σ (match a ds[i] ρ2 with
      | none => .no
      | some ρ1 => (b ρ1).bind fun f ρ2 => match f with
        | .nx => forL a b (ds.drop (i + 1)) ρ2
        | .ct => forL a b (ds.drop (i + 1)) ρ2
        | .brk => .ok .nx ρ2
        | .ret o => .ok (.ret o) ρ2) := h1
    cases e2 : a ds[i] ρ2 with
    | none => rw [e2] at h1; exact h1.elim
    | some ρ3 =>
      rw [e2] at h1
      refine ⟨ρ2, ks ++ T, ds[i], ρ3, c1, R2.perm ((rot _ _ _).cons _), e2, fun σ3 f3 c3 R3 => ?_⟩
      refine tS_iff.mpr ⟨ρ3, ks ++ T, c3, R3, ?_⟩
      have back : ∀ {H' : Hp} {σ' : L2.St} {ρ' : Env}, Rep K mg H' (pairs σ' ρ' ++ (ks ++ T)) [] → Rep K mg H' (ks ++ (pairs σ' ρ' ++ T)) [] := fun R => R.perm (rot _ _ _)
      have h1 : Post K mg P (ks ++ T) D σ ((b ρ3).bind fun f ρ2 => match f with
        | .nx => forL a b (ds.drop (i + 1)) ρ2
        | .ct => forL a b (ds.drop (i + 1)) ρ2
        | .brk => .ok .nx ρ2
        | .ret o => .ok (.ret o) ρ2) := h1
      cases e3 : b ρ3 with
      | exc x ρ4 => rw [e3] at h1; exact h1.elim
      | no => rw [e3] at h1; exact h1.elim
      | ok fl ρ4 =>
        rw [e3] at h1
        cases fl with
        | nx => exact fun σ' H' f' c' R' => ⟨ρ4, hlt, f1.trans (f3.trans f'), c', back R', h1⟩
        | ct => exact fun σ' H' f' c' R' => ⟨ρ4, hlt, f1.trans (f3.trans f'), c', back R', h1⟩
        | brk => exact fun σ' H' f' c' R' => h1 σ' H' (f1.trans (f3.trans f')) c' R'
        | ret o => exact fun v σ' H' f' c' R' => h1 v σ' H' (f1.trans (f3.trans f')) c' R'
  · have e : i = ds.length := by omega
    subst e
    refine .inl ⟨(hJ _ H1 R1).2, ?_⟩
    rw [List.drop_length] at h1
    exact h1 σ1 H1 f1 c1 (R1.perm (rot _ _ _))
theorem ss_for {tg iter : Expr} {body : List Stmt} {pos : Pos} {m : M (List D)} {a : D → Env → Option Env} {b : M Fl} (ok : CxOk X) (hp : PassesOwn (model X.prog X.w) X.A X.env X.xe) (hi : SI X tg iter m) (hg : SG X (Fix P) tg a) (hb : SSs X P body b)
    (hs : ∀ x, foldedSetIterable iter X.env x = pure x := by intro _; rfl) : SS X P (.For tg iter body [] pos) (mFor m a b) :=
  PS.imp (ps_for hp ok.calm hi hg hb hs) fun D σ H w => by
    obtain ⟨ρ, T, cv, R, h⟩ := tS_iff.mp w
    unfold mFor at h
    cases e1 : m ρ with
    | exc x ρ1 => rw [e1] at h; exact h.elim
    | no => rw [e1] at h; exact h.elim
    | ok ds ρ1 =>
      rw [e1] at h
      exact ⟨ρ, T, ds, ρ1, cv, R, e1, fun J ks H' c' hJ R' => for_core c' hJ R' (Post.more h)⟩
end
end FB

/-! What a for or a comprehension walks. -/
namespace FB
open PySem PySem.Spec L2
open PyProof.Rows hiding St

section
variable {X : Cx} {K : PySem.W.Frag} {mg : Str → Option Value}
theorem its_list {a : Addr} {ds : List D} : Its K mg (Itl K a) [.ov (.ref a) (.val (.lst ds))] ds := by
  intro L H R
  obtain ⟨p, vs, e, hp, lp, R1⟩ := (Rep.lend R).shL (List.mem_cons_self ..) rfl
  cases e
  refine ⟨fun i d hd => ?_, ⟨vs, .inl hp, by omega⟩⟩
  have hi : i < ds.length := (List.getElem?_eq_some_iff.mp hd).1
  have hv : vs[i]? = some (vs[i]'(by omega)) := by simp
  refine ⟨⟨vs, _, .inl hp, hv⟩, fun x H' y => ?_⟩
  obtain ⟨e, y⟩ := y
  subst e
  have := y vs (.inl hp)
  exact ⟨Same.refl _, (R1.nth this hd).keep.nob⟩
theorem its_tup {a : Addr} {ds : List D} : Its K mg (Itt K a) [.ov (.ref a) (.val (.tup ds))] ds := by
  intro L H R
  obtain ⟨p, vs, e, hp, lp, R1⟩ := (Rep.lend R).shT (List.mem_cons_self ..) rfl
  cases e
  refine ⟨fun i d hd => ?_, ⟨vs, hp, by omega⟩⟩
  have hi : i < ds.length := (List.getElem?_eq_some_iff.mp hd).1
  have hv : vs[i]? = some (vs[i]'(by omega)) := by simp
  refine ⟨⟨vs, _, hp, hv⟩, fun x H' y => ?_⟩
  obtain ⟨e, y⟩ := y
  subst e
  have := y vs hp
  exact ⟨Same.refl _, (R1.nth this hd).keep.nob⟩
theorem its_scr {a : Addr} {ns : List Int} : Its K mg (Itl K a) [.ov (.ref a) (.val (.scr ns))] (ns.map D.int) := by
  intro L H R
  have q : Vw K mg H (.ref a) (.scr ns) := (Rep.lend R).view (List.mem_cons_self ..)
  cases q with
  | scr h =>
    refine ⟨fun i d hd => ?_, ⟨_, h, by simp⟩⟩
    rw [List.getElem?_map] at hd
    cases e : ns[i]? with
    | none => rw [e] at hd; cases hd
    | some n =>
      rw [e] at hd; cases hd
      have hv : (ns.map V.int)[i]? = some (.int n) := by rw [List.getElem?_map, e]; rfl
      refine ⟨⟨_, _, h, hv⟩, fun x H' y => ?_⟩
      obtain ⟨e1, y⟩ := y
      subst e1
      have := y _ h
      rw [hv] at this
      cases this
      exact ⟨Same.refl _, R.scal fun _ => .int n⟩
def rangeL (lo : Int) (n : Nat) : List D := (List.range n).map fun (i : Nat) => D.int (lo + (i : Int))
theorem its_range {lo : Int} {n : Nat} : Its K mg (Itr lo n) [] (rangeL lo n) := by
  intro L H R
  refine ⟨fun i d hd => ?_, by unfold rangeL; simp [Itr]⟩
  have hi : i < n := by
    have := (List.getElem?_eq_some_iff.mp hd).1
    simpa [rangeL] using this
  have e : d = .int (lo + i) := by
    unfold rangeL at hd
    rw [List.getElem?_map, List.getElem?_range hi] at hd
    cases hd; rfl
  subst e
  refine ⟨hi, fun x H' y => ?_⟩
  obtain ⟨e1, e2⟩ := y
  subst e1 e2
  exact ⟨Same.refl _, R.scal fun _ => .int _⟩
def signs (z : Str) : List D := z.cps.toList.map fun c => D.str ⟨#[c]⟩
theorem its_str {z : Str} (hz : PyData.strOk z = true) : Its K mg (L2.Its z) [] (signs z) := by
  intro L H R
  refine ⟨fun i d hd => ?_, by unfold signs; simp [L2.Its]⟩
  have hi : i < z.cps.size := by
    have := (List.getElem?_eq_some_iff.mp hd).1
    simpa [signs] using this
  refine ⟨hi, fun x H' y => ?_⟩
  obtain ⟨e1, c, hc, e2⟩ := y
  subst e1 e2
  have e : d = .str ⟨#[c]⟩ := by
    unfold signs at hd
    rw [List.getElem?_map] at hd
    have : z.cps.toList[i]? = some c := by simpa using hc
    rw [this] at hd
    cases hd; rfl
  subst e
  have hm : c ∈ z.cps.toList := List.mem_of_getElem? (by simpa using hc)
  have q : z.cps.all (· < 0x110000) = true := hz
  rw [← Array.all_toList, List.all_eq_true] at q
  have hk : PyData.strOk ⟨#[c]⟩ = true := by
    show (#[c].all _) = true
    simp [of_decide_eq_true (q c hm)]
  exact ⟨Same.refl _, R.scal fun _ => .str _ hk⟩
def enumL (ds : List D) : List D := ds.mapIdx fun i d => .tup [.int (i : Nat), d]
theorem enumL_get {ds : List D} {i : Nat} {d : D} (h : (enumL ds)[i]? = some d) : ∃ e, ds[i]? = some e ∧ d = .tup [.int (i : Nat), e] := by
  unfold enumL at h
  rw [List.getElem?_mapIdx] at h
  cases e : ds[i]? with
  | none => rw [e] at h; cases h
  | some x => rw [e] at h; cases h; exact ⟨x, rfl, rfl⟩
theorem its_enum {a : Addr} {ds : List D} : Its K mg (Ite K a) [.ov (.ref a) (.val (.lst ds))] (enumL ds) := by
  intro L H R
  obtain ⟨p, vs, e, hp, lp, R1⟩ := (Rep.lend R).shL (List.mem_cons_self ..) rfl
  cases e
  have hl : (enumL ds).length = ds.length := by unfold enumL; simp
  refine ⟨fun i d hd => ?_, ⟨vs, .inl hp, by rw [hl]; omega⟩⟩
  obtain ⟨e, he, rfl⟩ := enumL_get hd
  have hi : i < ds.length := (List.getElem?_eq_some_iff.mp he).1
  have hv : vs[i]? = some (vs[i]'(by omega)) := by simp
  refine ⟨⟨vs, _, .inl hp, hv⟩, fun x H' y => ?_⟩
  obtain ⟨T, u, rfl, hT, rfl, y⟩ := y
  have hu := y vs (.inl hp)
  refine ⟨sameNew hT, ?_⟩
  have R2 := (R1.nth hu he).keep.nob
  have R3 : Rep K mg H (zipI [.int (i : Nat), u] ([D.int (i : Nat), e].map O.val) ++ (.ov (.ref a) (.val (.lst ds)) :: L)) [] := R2.scal fun _ => .int _
  exact Rep.newT R3 rfl hT
def zipL (xs ys : List D) : List D := List.zipWith (fun x y => .tup [x, y]) xs ys
theorem zipL_get {xs ys : List D} {i : Nat} {d : D} (h : (zipL xs ys)[i]? = some d) : ∃ x y, xs[i]? = some x ∧ ys[i]? = some y ∧ d = .tup [x, y] := by
  unfold zipL at h
  rw [List.getElem?_zipWith] at h
  cases e1 : xs[i]? with
  | none => rw [e1] at h; cases h
  | some x =>
    cases e2 : ys[i]? with
    | none => rw [e1, e2] at h; cases h
    | some y => rw [e1, e2] at h; cases h; exact ⟨x, y, rfl, rfl, rfl⟩
/-- .. with one more item ahead -/
theorem Rep.nth' {H : Hp} {L : List Item} {B : List (V × O)} {vs : List V} {ds : List D} {i : Nat} {v : V} {d : D} {z : Item} (h : Rep K mg H (zipI vs (ds.map O.val) ++ z :: L) B) (h1 : vs[i]? = some v) (h2 : ds[i]? = some d) : Rep K mg H (.ov v (.val d) :: z :: L) [] := (h.nth h1 h2).keep.nob
/-! ### the rules -/
theorem PI.or {tg it : Expr} {t t' : TI} (h : PI X tg it t) (h' : PI X tg it t') : PI X tg it (fun σ H R => t σ H R ∨ t' σ H R) := ⟨fun pins s σ H R I w => w.elim (h.run pins s σ H R I) (h'.run pins s σ H R I)⟩
def D.items? : D → Option (List D)
  | .lst ds => some ds
  | .tup ds => some ds
  | .scr ns => some (ns.map D.int)
  | .str z => some (signs z)
  | _ => none
def mI (m : M O) : M (List D) := fun ρ => (m ρ).bind fun o ρ1 => match o.toD.items? with
  | some ds => .ok ds ρ1
  | none => .no
theorem si_val {tg e : Expr} {m : M O} (h : SE X e m) : SI X tg e (mI m) := PI.imp (FB.PI.or (pi_list h) (FB.PI.or (pi_tup h) (pi_str h))) fun σ H R w => by
  obtain ⟨ρ, T, ds, ρ', c, Rp, e, k⟩ := w
  obtain ⟨o, ρ1, e1, e⟩ := Res.bind_eq e
  split at e
  · rename_i ds' e2
    cases e
    cases hd : o.toD with
    | lst es =>
      rw [hd] at e2; cases e2
      refine .inl ⟨ρ, T, o, _, c, Rp, e1, fun v H' c' R' => ?_⟩
      have R2 := R'.frz
      rw [hd] at R2
      obtain ⟨p, vs, rfl, hp, lp, _⟩ := R2.lend.shL (List.mem_cons_self ..) rfl
      exact ⟨p, rfl, ⟨vs, .inl hp⟩, k _ _ _ c' its_list R2⟩
    | tup es =>
      rw [hd] at e2; cases e2
      refine .inr (.inl ⟨ρ, T, o, _, c, Rp, e1, fun v H' c' R' => ?_⟩)
      have R2 := R'.frz
      rw [hd] at R2
      obtain ⟨p, vs, rfl, hp, lp, _⟩ := R2.lend.shT (List.mem_cons_self ..) rfl
      exact ⟨p, rfl, ⟨vs, hp⟩, k _ _ _ c' its_tup R2⟩
    | scr ns =>
      rw [hd] at e2; cases e2
      refine .inl ⟨ρ, T, o, _, c, Rp, e1, fun v H' c' R' => ?_⟩
      have R2 := R'.frz
      rw [hd] at R2
      have q : Vw X.K X.mg H' v (.scr ns) := R2.lend.view (List.mem_cons_self ..)
      cases q with
      | scr hq => exact ⟨_, rfl, ⟨_, hq⟩, k _ _ _ c' its_scr R2⟩
    | str z =>
      rw [hd] at e2; cases e2
      refine .inr (.inr ⟨ρ, T, o, _, c, Rp, e1, fun v H' c' R' => ?_⟩)
      have R2 := R'.frz
      rw [hd] at R2
      exact ⟨z, R2.lend.shStr (List.mem_cons_self ..) rfl, k _ [] _ c' (its_str (R2.lend.strOk (List.mem_cons_self ..) rfl)) R2.drop⟩
    | non => rw [hd] at e2; cases e2
    | bl _ => rw [hd] at e2; cases e2
    | int _ => rw [hd] at e2; cases e2
    | dct _ _ => rw [hd] at e2; cases e2
    | ins _ _ _ => rw [hd] at e2; cases e2
    | fn _ => rw [hd] at e2; cases e2
  · cases e
theorem line62 : (2 : Int) ^ 62 = 4611686018427387904 := by decide
def small (i : Int) : Bool := decide (-1000000000000 < i) && decide (i < 1000000000000)
theorem small_eq {i : Int} (h : small i = true) : -(2 ^ 62) ≤ i ∧ i < 2 ^ 62 := by
  unfold small at h
  simp only [Bool.and_eq_true, decide_eq_true_eq] at h
  rw [line62]; omega
def mR1 (m : M O) : M (List D) := fun ρ => (m ρ).bind fun o ρ1 => match o with
  | .val (.int j) => if small j = true then .ok (rangeL 0 j.toNat) ρ1 else .no
  | _ => .no
theorem si_range1 {tg a : Expr} {p pos : Pos} {m : M O} (hg : Gl X "range") (hm : X.mg "range" = none) (ha : SE X a m) (hs : starEach (a :: []) X.env = (false, eval a X.env) :: starEach [] X.env := by rfl) : SI X tg (.Call (.Name "range" p) [a] [] pos) (mR1 m) :=
  PI.imp (pi_range1 hg hm (pa_cons ha pa_nil hs) hs) fun σ H R w => by
    obtain ⟨ρ, T, ds, ρ', c, Rp, e, k⟩ := w
    obtain ⟨o, ρ1, e1, e⟩ := Res.bind_eq e
    split at e
    · rename_i j
      split at e
      · rename_i hj
        cases e
        obtain ⟨h1, h2⟩ := small_eq hj
        exact ⟨ρ, T, _, _, c, Rp, e1, fun v H' c' R' => ⟨j, by rw [R'.lend.shInt (List.mem_cons_self ..) rfl], h1, h2, k _ [] _ c' its_range R'.drop⟩⟩
      · cases e
    · cases e
end
end FB

/-! Comprehensions; defs and their calls. -/
namespace FB
open PySem PySem.Spec L2
open PyProof.Rows hiding St

section
variable {X : Cx} {K : PySem.W.Frag} {mg : Str → Option Value}
/-! ### comprehensions -/
abbrev own2 (own : List (Str × Nat)) : List Nat := own.map (·.2)
def wipeE (ρ : Env) : List Nat → Env
  | [] => ρ
  | v :: vs => (wipeE ρ vs).set v none
/-- the own names as they stood ahead -/
def backE (ρ2 ρ1 : Env) : List Nat → Env
  | [] => ρ2
  | v :: vs => match (wipeE ρ1 vs)[v]? with
    | some (some o) => (backE ρ2 ρ1 vs).set v (some o)
    | _ => backE ρ2 ρ1 vs
theorem wipeE_len (ρ : Env) : ∀ own : List Nat, (wipeE ρ own).length = ρ.length
  | [] => rfl
  | v :: vs => by unfold wipeE; rw [List.length_set, wipeE_len ρ vs]
theorem Cov.wipe {σ : L2.St} {ρ : Env} (c : Cov σ ρ) : ∀ own : List Nat, Cov (wipe σ own) (wipeE ρ own)
  | [] => c
  | v :: vs => by
    have ih := Cov.wipe c vs
    unfold L2.wipe wipeE
    refine ⟨by simp [ih.len], fun i o h => ?_⟩
    by_cases e : v = i
    · subst e
      have : v < (wipeE ρ vs).length := by
        have := (List.getElem?_eq_some_iff.mp h).1
        simpa using this
      simp [this] at h
    · rw [List.getElem?_set_ne e] at h ⊢
      exact ih.ex i o h
theorem wipeE_cons (ρ : Env) (v : Nat) (vs : List Nat) : wipeE ρ (v :: vs) = (wipeE ρ vs).set v none := rfl
theorem wipeE_none {ρ : Env} : ∀ {own : List Nat} {v : Nat} {o : O}, v ∈ own → (wipeE ρ own)[v]? ≠ some (some o)
  | [], _, _, h => by simp at h
  | w :: ws, v, o, h => by
    rw [wipeE_cons]
    by_cases e : w = v
    · subst e
      intro z
      have : w < (wipeE ρ ws).length := by
        have := (List.getElem?_eq_some_iff.mp z).1
        simpa using this
      simp [this] at z
    · rw [List.getElem?_set_ne e]
      have : v ∈ ws := by rcases List.mem_cons.mp h with q | q; exact absurd q.symm e; exact q
      exact wipeE_none this
theorem wipe_out {σ : L2.St} {i : Nat} : ∀ {vs : List Nat}, i ∉ vs → (wipe σ vs)[i]? = σ[i]?
  | [], _ => rfl
  | v :: vs, h => by
    unfold wipe
    rw [List.getElem?_set_ne (fun z => h (by rw [z]; exact List.mem_cons_self ..))]
    exact wipe_out fun z => h (List.mem_cons_of_mem _ z)
theorem pairs_congr : ∀ {σ σ' : L2.St} {ρ : Env}, σ.length = σ'.length → (∀ (i : Nat) (o : O), ρ[i]? = some (some o) → σ[i]? = σ'[i]?) → pairs σ ρ = pairs σ' ρ
  | [], [], _, _, _ => rfl
  | [], _ :: _, _, hl, _ => by simp at hl
  | _ :: _, [], _, hl, _ => by simp at hl
  | a :: σ, a' :: σ', [], _, _ => by rw [pairs_nil', pairs_nil']
  | a :: σ, a' :: σ', b :: ρ, hl, h => by
    have t := pairs_congr (σ := σ) (σ' := σ') (ρ := ρ) (by simpa using hl) (fun i o e => by simpa using h (i + 1) o (by simpa using e))
    cases b with
    | none => rw [pairs_sn, pairs_sn, t]
    | some b =>
      have e := h 0 b (by simp)
      simp at e
      subst e
      cases a with
      | none => rw [pairs_ns, pairs_ns, t]
      | some a => rw [pairs_ss, pairs_ss, t]
theorem pairs_wipe {σ : L2.St} {ρ : Env} (own : List Nat) : pairs (wipe σ own) (wipeE ρ own) = pairs σ (wipeE ρ own) :=
  pairs_congr (wipe_length _ _) fun i o e => wipe_out fun z => wipeE_none z e
theorem pairs_wipe2 {σ : L2.St} {ρ : Env} {own : List Nat} (h : ∀ v ∈ own, ∀ o, ρ[v]? ≠ some (some o)) : pairs (wipe σ own) ρ = pairs σ ρ :=
  pairs_congr (wipe_length _ _) fun i o e => wipe_out fun z => h i z o e
/-- the own slots' things stand aside -/
theorem aside {σ : L2.St} {ρ : Env} (c : Cov σ ρ) : ∀ own : List Nat, own.Nodup → ∃ R : List Item, (pairs σ ρ).Perm (R ++ pairs σ (wipeE ρ own)) ∧
    ∀ ρ2 : Env, Cov σ ρ2 → (∀ v ∈ own, ∀ o, ρ2[v]? ≠ some (some o)) → Cov σ (backE ρ2 ρ own) ∧ (R ++ pairs σ ρ2).Perm (pairs σ (backE ρ2 ρ own))
  | [], _ => ⟨[], .refl _, fun ρ2 c2 _ => ⟨c2, .refl _⟩⟩
  | v :: vs, nd => by
    obtain ⟨hv, nd'⟩ := List.nodup_cons.mp nd
    obtain ⟨R, p, back⟩ := aside c vs nd'
    have cw := Cov.wipe c vs
    by_cases q : ∃ o, (wipeE ρ vs)[v]? = some (some o)
    · obtain ⟨o, e⟩ := q
      obtain ⟨w, hw0⟩ := cw.ex v o e
      have hw : σ[v]? = some (some w) := (wipe_some hw0).1
      refine ⟨.ov w o :: R, ?_, fun ρ2 c2 hn => ?_⟩
      · refine p.trans ?_
        rw [wipeE_cons]
        exact ((pairs_take hw e).append_left R).trans List.perm_middle
      · obtain ⟨c3, p3⟩ := back ρ2 c2 fun u hu => hn u (List.mem_cons_of_mem _ hu)
        have e2 : backE ρ2 ρ (v :: vs) = (backE ρ2 ρ vs).set v (some o) := by
          show (match (wipeE ρ vs)[v]? with | some (some o) => (backE ρ2 ρ vs).set v (some o) | _ => backE ρ2 ρ vs) = _
          rw [e]
        rw [e2]
        have hl : v < ρ.length := by
          have := (List.getElem?_eq_some_iff.mp e).1
          rwa [wipeE_len] at this
        have hl3 : v < (backE ρ2 ρ vs).length := by rw [← c3.len, c.len]; exact hl
        have hnone : ∀ u, (backE ρ2 ρ vs)[v]? ≠ some (some u) := by
          have out : ∀ {vs : List Nat}, v ∉ vs → ∀ u, (backE ρ2 ρ vs)[v]? ≠ some (some u) := by
            intro vs
            induction vs with
            | nil => intro _ u; exact hn v (List.mem_cons_self ..) u
            | cons a as ih =>
              intro hm u
              unfold backE
              have h1 : v ≠ a := fun z => hm (by rw [z]; exact List.mem_cons_self ..)
              have h2 := ih (fun z => hm (List.mem_cons_of_mem _ z)) u
              split
              · rw [List.getElem?_set_ne (Ne.symm h1)]; exact h2
              · exact h2
          exact out hv
        refine ⟨c3.put hw _, ?_⟩
        refine (p3.cons (.ov w o)).trans ?_
        have e3 : pairs σ ((backE ρ2 ρ vs).set v none) = pairs σ (backE ρ2 ρ vs) := pairs_none hnone
        have := pairs_back (σ := σ) (ρ := backE ρ2 ρ vs) (o := o) hw hl3
        rw [e3] at this
        exact this
    · refine ⟨R, ?_, fun ρ2 c2 hn => ?_⟩
      · rw [wipeE_cons, pairs_none fun o e => q ⟨o, e⟩]
        exact p
      · obtain ⟨c3, p3⟩ := back ρ2 c2 fun u hu => hn u (List.mem_cons_of_mem _ hu)
        have e2 : backE ρ2 ρ (v :: vs) = backE ρ2 ρ vs := by
          show (match (wipeE ρ vs)[v]? with | some (some o) => (backE ρ2 ρ vs).set v (some o) | _ => backE ρ2 ρ vs) = _
          split
          · rename_i o e; exact absurd ⟨o, e⟩ q
          · rfl
        rw [e2]
        exact ⟨c3, p3⟩
theorem wipe_wipe (σ : L2.St) (own : List Nat) : wipe (wipe σ own) own = wipe σ own := by
  apply List.ext_getElem?
  intro i
  by_cases h : i ∈ own
  · have n : ∀ (τ : L2.St), (wipe τ own)[i]? = if i < τ.length then some none else none := fun τ => by
      split
      · rename_i hi
        cases q : (wipe τ own)[i]? with
        | none => rw [List.getElem?_eq_none_iff, wipe_length] at q; omega
        | some u =>
          cases u with
          | none => rfl
          | some x => exact absurd h (wipe_some q).2
      · rename_i hi
        rw [List.getElem?_eq_none_iff, wipe_length]; omega
    rw [n, n, wipe_length]
  · rw [wipe_out h]
theorem wipeE_id {ρ : Env} : ∀ {own : List Nat}, (∀ v ∈ own, ∀ o, ρ[v]? ≠ some (some o)) → wipeE ρ own = ρ
  | [], _ => rfl
  | v :: vs, h => by
    rw [wipeE_cons, wipeE_id fun u hu => h u (List.mem_cons_of_mem _ hu)]
    apply List.ext_getElem?
    intro i
    by_cases e : v = i
    · subst e
      by_cases hv : v < ρ.length
      · rw [List.getElem?_set_self hv]
        cases q : ρ[v]? with
        | none => rw [List.getElem?_eq_none_iff] at q; omega
        | some u => cases u with
          | none => rfl
          | some o => exact absurd q (h v (List.mem_cons_self ..) o)
      · rw [List.getElem?_eq_none_iff.mpr (by simpa using hv), List.getElem?_eq_none_iff.mpr (by omega)]
    · rw [List.getElem?_set_ne e]
def compL (own : List Nat) (a : D → Env → Option Env) (t : M Bool) (e : M O) : List D → M (List O)
  | [] => fun ρ => .ok [] ρ
  | d :: ds => fun ρ => match a d ρ with
    | none => .no
    | some ρ1 => (t ρ1).bind fun b ρ2 => if b = true then (e ρ2).bind fun o ρ3 => (compL own a t e ds (wipeE ρ3 own)).bind fun os ρ4 => .ok (o :: os) ρ4 else compL own a t e ds (wipeE ρ2 own)
def mComp (it : M (List D)) (own : List Nat) (a : D → Env → Option Env) (t : M Bool) (e : M O) : M O := fun ρ => (it ρ).bind fun ds ρ1 => if ds.length ≤ 1000000 then (compL own a t e ds (wipeE ρ1 own)).bind fun os ρ2 => .ok (.lst os) (backE (wipeE ρ2 own) ρ1 own) else .no
def mTrue : M Bool := fun ρ => .ok true ρ
def SETs (X : Cx) (ifs : List Expr) (m : M Bool) : Prop := PTs X ifs (tMT X.K X.mg m)
theorem sets_nil : SETs X [] mTrue := ⟨fun pins s σ H Q I w => by
  obtain ⟨ρ, T, b, ρ', c, R, e, k⟩ := w
  cases e
  exact pts_nil.run pins s σ H Q I (k H c R)⟩
theorem sets_one {c : Expr} {m : M Bool} (h : SET X c m) : SETs X [c] m := pts_one h
theorem compL_len {own : List Nat} {a : D → Env → Option Env} {t : M Bool} {e : M O} : ∀ {ds : List D} {ρ ρ' : Env} {os : List O}, compL own a t e ds ρ = .ok os ρ' → os.length ≤ ds.length
  | [], ρ, ρ', os, h => by cases h; simp
  | d :: ds, ρ, ρ', os, h => by
    unfold compL at h
    cases e1 : a d ρ with
    | none => rw [e1] at h; cases h
    | some ρ1 =>
      rw [e1] at h
      obtain ⟨b, ρ2, e2, h⟩ := Res.bind_eq h
      split at h
      · obtain ⟨o, ρ3, e3, h⟩ := Res.bind_eq h
        obtain ⟨os', ρ4, e4, h⟩ := Res.bind_eq h
        cases h
        have := compL_len e4
        simp; omega
      · have := compL_len h
        simp; omega
theorem comp_core0 {own : List Nat} {g : TG} {tt : TT} {te : TE} {a : D → Env → Option Env} {t : M Bool} {e : M O} {J : It} {ks T : List Item} {ds : List D} {ρ1 ρ2 : Env} {fin : List O} {σ : L2.St} {H1 : Hp} {Q : VK} {D : Addr} (nd : own.Nodup)
    (hg : ∀ v σ H Q, tG K mg (Wip own) a v σ H Q → g v σ H Q) (ht : ∀ σ H Q, tMT K mg t σ H Q → tt σ H Q) (he : ∀ σ H Q, tM K mg e σ H Q → te σ H Q) (hlen : ds.length ≤ 1000000) (c1 : Cov σ ρ1) (hJ : Its K mg J ks ds)
    (R1 : Rep K mg H1 (ks ++ (pairs σ ρ1 ++ T)) []) (e2 : compL own a t e ds (wipeE ρ1 own) = .ok fin ρ2) (hD : H1 D = none)
    (k : ∀ H', Cov σ (backE (wipeE ρ2 own) ρ1 own) → Rep K mg H' (.ov (.ref D) (.lst fin) :: (ks ++ (pairs σ (backE (wipeE ρ2 own) ρ1 own) ++ T))) [] → Q (.ref D) H') :
    ∃ W : Nat → Nat → Hp → Prop, (∃ m, W 0 m (upd H1 D (.lst []))) ∧ ∀ i m H, W i m H →
      (J.stop i H ∧ Q (.ref D) H) ∨ (J.go i H ∧ ∃ Nx : Hp → Prop, (∀ H', Nx H' → ∃ m', m' < m ∧ W (i + 1) m' H') ∧ ∀ x H', J.yld i H x H' → g x (wipe σ own) H' fun σ2 H2 => wipe σ2 own = wipe σ own ∧ tt σ2 H2 fun b H3 =>
        if b = true then te σ2 H3 fun y H4 => ∃ acc, H4 D = some (.lst acc) ∧ acc.length < sizeLine ∧ Nx (upd H4 D (.lst (acc ++ [y]))) else Nx H3) := by
  obtain ⟨R, p, back⟩ := aside c1 own nd
  have cw := Cov.wipe c1 own
  let W : Nat → Hp → Prop := fun i H' => ∃ ρ' acc os os', i ≤ ds.length ∧ Cov (wipe σ own) ρ' ∧ (∀ v ∈ own, ∀ o, ρ'[v]? ≠ some (some o)) ∧ acc.length = os.length ∧ fin = os ++ os' ∧
    Rep K mg H' (.raw D (.lst acc) :: (zipI acc os ++ (ks ++ (pairs (wipe σ own) ρ' ++ (R ++ T))))) [] ∧ compL own a t e (ds.drop i) ρ' = .ok os' ρ2
  refine ⟨fun i n H' => n = ds.length - i ∧ W i H', ⟨ds.length, by simp, wipeE ρ1 own, [], [], fin, Nat.zero_le _, cw, fun v hv o => wipeE_none hv, rfl, rfl, ?_, e2⟩, ?_⟩
  · rw [pairs_wipe]
    refine (R1.perm ?_).new hD
    show (ks ++ (pairs σ ρ1 ++ T)).Perm (ks ++ (pairs σ (wipeE ρ1 own) ++ (R ++ T)))
    refine List.Perm.append_left _ ?_
    rw [← List.append_assoc]
    exact (p.trans List.perm_append_comm).append_right T
  · rintro i n H2 ⟨rfl, ρ3, acc, os, os', hi', c3, hn3, hl, hf, R3, e3⟩
    have p3 : ∀ (Z : List Item) (M : List Item), (.raw D (.lst acc) :: (zipI acc os ++ (ks ++ M)) : List Item).Perm (ks ++ (.raw D (.lst acc) :: (zipI acc os ++ M))) := fun _ M => by
      refine List.Perm.trans (List.Perm.cons _ ?_) List.perm_middle.symm
      rw [← List.append_assoc, ← List.append_assoc]
      exact List.perm_append_comm.append_right _
    by_cases hlt : i < ds.length
    · have hd : ds[i]? = some ds[i] := by simp [hlt]
      obtain ⟨hgo, hy⟩ := (hJ _ H2 (R3.perm (p3 [] _))).1 i _ hd
      refine .inr ⟨hgo, fun H' => W (i + 1) H', fun H' q => ⟨ds.length - (i + 1), by omega, rfl, q⟩, fun x H3 y => ?_⟩
      obtain ⟨_, R4⟩ := hy x H3 y
      rw [drop_cons hlt] at e3
      unfold compL at e3
      cases e4 : a ds[i] ρ3 with
      | none => rw [e4] at e3; cases e3
      | some ρ4 =>
        rw [e4] at e3
        obtain ⟨b, ρ5, e5, e3⟩ := Res.bind_eq e3
        -- the frame of the turn
        have F : List Item := ks ++ (.raw D (.lst acc) :: (zipI acc os ++ (R ++ T)))
        have pF : ∀ (M : List Item), (ks ++ (.raw D (.lst acc) :: (zipI acc os ++ (M ++ (R ++ T)))) : List Item).Perm (M ++ (ks ++ (.raw D (.lst acc) :: (zipI acc os ++ (R ++ T))))) := fun M => by
          have q1 : (zipI acc os ++ (M ++ (R ++ T))).Perm (M ++ (zipI acc os ++ (R ++ T))) := rot _ _ _
          have q2 : (.raw D (.lst acc) :: (zipI acc os ++ (M ++ (R ++ T))) : List Item).Perm (M ++ (.raw D (.lst acc) :: (zipI acc os ++ (R ++ T)))) := (q1.cons _).trans List.perm_middle.symm
          exact (q2.append_left ks).trans (rot _ _ _)
        refine hg x (wipe σ own) H3 _ ⟨ρ3, _, ds[i], ρ4, c3, R4.perm ((pF _).cons _), e4, fun σ4 f4 c4 R5 => ?_⟩
        have fw : wipe σ4 own = wipe σ own := by
          have q : wipe σ4 own = wipe (wipe σ own) own := f4
          rw [q]
          exact wipe_wipe σ own
        refine ⟨fw, ht σ4 H3 _ ⟨ρ4, _, b, ρ5, c4, R5, e5, fun H5 c5 R6 => ?_⟩⟩
        have next : ∀ {H' : Hp} {ρ' : Env} {acc' : List V} {os2 : List O} {os3 : List O}, Cov σ4 ρ' → acc'.length = os2.length → fin = os2 ++ os3 → Rep K mg H' (pairs σ4 ρ' ++ (ks ++ (.raw D (.lst acc') :: (zipI acc' os2 ++ (R ++ T))))) [] → compL own a t e (ds.drop (i + 1)) (wipeE ρ' own) = .ok os3 ρ2 → W (i + 1) H' := by
          intro H' ρ' acc' os2 os3 cv hl' hf' R' e'
          refine ⟨wipeE ρ' own, acc', os2, os3, hlt, by rw [← fw]; exact Cov.wipe cv own, fun v hv o => wipeE_none hv, hl', hf', ?_, e'⟩
          obtain ⟨Rx, px, _⟩ := aside cv own nd
          have R7 : Rep K mg H' (Rx ++ (pairs σ4 (wipeE ρ' own) ++ (ks ++ (.raw D (.lst acc') :: (zipI acc' os2 ++ (R ++ T)))))) [] := R'.perm ((px.append_right _).trans (by rw [List.append_assoc]))
          have R8 := R7.drops
          have e8 : pairs σ4 (wipeE ρ' own) = pairs (wipe σ own) (wipeE ρ' own) := by rw [← fw, pairs_wipe]
          rw [e8] at R8
          refine R8.perm ?_
          have q0 : (ks ++ (.raw D (.lst acc') :: (zipI acc' os2 ++ (R ++ T))) : List Item).Perm (.raw D (.lst acc') :: (zipI acc' os2 ++ (ks ++ (R ++ T)))) := by
            exact List.perm_middle.trans (List.Perm.cons _ (rot _ _ _))
          refine (q0.append_left _).trans ?_
          refine List.perm_middle.trans (List.Perm.cons _ ?_)
          exact (rot _ _ _).trans (List.Perm.append_left _ (rot _ _ _))
        cases b with
        | true =>
          rw [if_pos rfl] at e3
          refine iteT ?_
          obtain ⟨o, ρ6, e6, e3⟩ := Res.bind_eq e3
          obtain ⟨os'', ρ7, e7, e3⟩ := Res.bind_eq e3
          cases e3
          refine he σ4 H5 _ ⟨ρ5, _, o, ρ6, c5, R6, e6, fun y H6 c6 R7 => ?_⟩
          have pD : (.ov y o :: (pairs σ4 ρ6 ++ (ks ++ (.raw D (.lst acc) :: (zipI acc os ++ (R ++ T))))) : List Item).Perm (.raw D (.lst acc) :: (.ov y o :: (pairs σ4 ρ6 ++ (ks ++ (zipI acc os ++ (R ++ T)))))) := by
            refine List.Perm.trans (List.Perm.cons _ ?_) (.swap _ _ _)
            exact (List.Perm.append_left _ List.perm_middle).trans List.perm_middle
          have R8 := R7.perm pD
          have hlen3 : acc.length < 1000000 := by
            have q := compL_len e2
            rw [hf, List.length_append, List.length_cons] at q
            omega
          refine ⟨acc, R8.rawAt, by rw [sizeLine_eq]; omega, ?_⟩
          have R9 := R8.write (o' := .lst (acc ++ [y]))
          refine next (acc' := acc ++ [y]) (os2 := os ++ [o]) (os3 := os'') c6 (by simp [hl]) (by rw [hf, List.append_assoc]; rfl) (R9.perm ?_) e7
          have ez : zipI (acc ++ [y]) (os ++ [o]) = zipI acc os ++ [.ov y o] := by
            unfold zipI
            rw [List.zipWith_append hl]; rfl
          rw [ez]
          refine List.Perm.trans ?_ (List.Perm.append_left _ (List.Perm.append_left _ (List.Perm.cons _ (List.Perm.append_right _ List.perm_append_comm))))
          show (.raw D (.lst (acc ++ [y])) :: .ov y o :: (pairs σ4 ρ6 ++ (ks ++ (zipI acc os ++ (R ++ T)))) : List Item).Perm (pairs σ4 ρ6 ++ (ks ++ (.raw D (.lst (acc ++ [y])) :: .ov y o :: (zipI acc os ++ (R ++ T)))))
          have q : ∀ (A B C : List Item) (u w : Item), (u :: w :: (A ++ (B ++ C))).Perm (A ++ (B ++ (u :: w :: C))) := fun A B C u w => by
            refine List.Perm.trans ?_ (List.Perm.append_left _ (List.perm_middle.symm))
            refine List.Perm.trans ?_ List.perm_middle.symm
            refine List.Perm.cons _ ?_
            refine List.Perm.trans ?_ (List.Perm.append_left _ (List.perm_middle.symm))
            exact List.perm_middle.symm
          exact q _ _ _ _ _
        | false =>
          rw [if_neg Bool.false_ne_true] at e3
          refine iteF ?_
          exact next c5 hl hf R6 e3
    · have ei : i = ds.length := by omega
      subst ei
      rw [List.drop_length] at e3
      cases e3
      rw [List.append_nil] at hf
      subst hf
      refine .inl ⟨(hJ _ H2 (R3.perm (p3 [] _))).2, ?_⟩
      have e4 : wipeE ρ2 own = ρ2 := wipeE_id hn3
      have c4 : Cov σ ρ2 := ⟨by rw [← c3.len, wipe_length], fun i o h => by
        obtain ⟨v, hv⟩ := c3.ex i o h
        exact ⟨v, (wipe_some hv).1⟩⟩
      obtain ⟨c5, p5⟩ := back ρ2 c4 hn3
      rw [e4] at k
      refine k H2 c5 ?_
      rw [pairs_wipe2 hn3] at R3
      have R4 := Rep.closeL R3 hl
      refine R4.perm (List.Perm.cons _ (List.Perm.append_left _ ?_))
      rw [← List.append_assoc]
      exact (List.perm_append_comm.trans p5).append_right T
theorem comp_core {tg iter elt : Expr} {own : List Nat} {wi : TI} {g : TG} {tt : TT} {te : TE} {it : M (List D)} {a : D → Env → Option Env} {t : M Bool} {e : M O} (nd : own.Nodup)
    (hi : ∀ σ H R, tI K mg it σ H R → wi σ H R) (hg : ∀ v σ H Q, tG K mg (Wip own) a v σ H Q → g v σ H Q) (ht : ∀ σ H Q, tMT K mg t σ H Q → tt σ H Q) (he : ∀ σ H Q, tM K mg e σ H Q → te σ H Q)
    (σ : L2.St) (H : Hp) (Q : VK) (w : tM K mg (mComp it own a t e) σ H Q) : tLc wi g tt te own σ H Q := by
  obtain ⟨ρ, T, o, ρ', c, Rp, e0, k⟩ := w
  obtain ⟨ds, ρ1, e1, e0⟩ := Res.bind_eq e0
  split at e0
  · rename_i hlen
    obtain ⟨fin, ρ2, e2, e0⟩ := Res.bind_eq e0
    cases e0
    refine hi σ H _ ⟨ρ, T, ds, ρ1, c, Rp, e1, fun J ks H1 c1 hJ R1 D hD => ?_⟩
    exact comp_core0 nd hg ht he hlen c1 hJ R1 e2 hD fun H' c' R' => k _ H' c' ((R'.perm List.perm_middle.symm).drops)
  · cases e0
theorem se_comp {tg iter elt : Expr} {ifs : List Expr} {scope : Scope} {own : List (Str × Nat)} {pos : Pos} {it : M (List D)} {a : D → Env → Option Env} {t : M Bool} {e : M O} (ok : CxOk X) (hi : SI X tg iter it) (bo : BlkOk X.N X.env.scope scope own)
    (hg : ∀ (s : Shared) (H : Hp) (C : Addr) (cl : List (Str × Addr)) (fp : List Addr), SG (X.blk s H scope (compEnvC scope cl C X.env) fp) (Wip (own2 own)) tg a) (ht : ∀ (s : Shared) (H : Hp) (C : Addr) (cl : List (Str × Addr)) (fp : List Addr), SETs (X.blk s H scope (compEnvC scope cl C X.env) fp) ifs t)
    (he : ∀ (s : Shared) (H : Hp) (C : Addr) (cl : List (Str × Addr)) (fp : List Addr), SE (X.blk s H scope (compEnvC scope cl C X.env) fp) elt e) (nd : (own2 own).Nodup := by decide) (hs : ∀ x, foldedSetIterable iter X.env x = pure x := by intro _; rfl) :
    SE X (.ListComp elt [⟨tg, iter, ifs, 0⟩] scope pos) (mComp it (own2 own) a t e) := PE.imp (pe_lc (wi := tI X.K X.mg it) (g := tG X.K X.mg (Wip (own2 own)) a) (tt := tMT X.K X.mg t) (te := tM X.K X.mg e) ok.calm ok.nd hi bo hg ht he hs) (comp_core (tg := tg) (iter := iter) (elt := elt) nd (fun _ _ _ w => w) (fun _ _ _ _ w => w) (fun _ _ _ w => w) (fun _ _ _ w => w))

/-- name = [..], on one line, the name a local of the def's -/
theorem ss_setLcO (i : Nat) {P : List Nat} {y : Str} {py : Pos} {tg iter elt : Expr} {ifs : List Expr} {scope : Scope} {own : List (Str × Nat)} {pos spos : Pos} {it : M (List D)} {a : D → Env → Option Env} {t : M Bool} {e : M O} (ok : CxOk X) (hy : X.N[i]? = some y) (hyl : X.env.scope.names.lookup y = some .local)
    (hsw : swapsWith (.ListComp elt [⟨tg, iter, ifs, 0⟩] scope pos) (some (.Name y py)) spos.line X.env = pure true) (hi : SI X tg iter it) (bo : BlkOk X.N X.env.scope scope own)
    (hg : ∀ (s : Shared) (H : Hp) (C : Addr) (cl : List (Str × Addr)) (fp : List Addr), SG (X.blk s H scope (compEnvC scope cl C X.env) fp) (Wip (own2 own)) tg a) (ht : ∀ (s : Shared) (H : Hp) (C : Addr) (cl : List (Str × Addr)) (fp : List Addr), SETs (X.blk s H scope (compEnvC scope cl C X.env) fp) ifs t)
    (he : ∀ (s : Shared) (H : Hp) (C : Addr) (cl : List (Str × Addr)) (fp : List Addr), SE (X.blk s H scope (compEnvC scope cl C X.env) fp) elt e) (hP : i ∉ P := by decide) (nd : (own2 own).Nodup := by decide) (hs : ∀ x, foldedSetIterable iter X.env x = pure x := by intro _; rfl) :
    SS X P (.Assign [.Name y py] (.ListComp elt [⟨tg, iter, ifs, 0⟩] scope pos) spos) (mSetO i (mComp it (own2 own) a t e)) :=
  PS.imp (ps_setLc (wi := tI X.K X.mg it) (g := tG X.K X.mg (Wip (own2 own)) a) (tt := tMT X.K X.mg t) (te := tM X.K X.mg e) ok.calm ok.nd hy hyl hsw hi bo hg ht he hs) fun D σ H w => by
    obtain ⟨ρ, T, c, R, h⟩ := tS_iff.mp w
    unfold mSetO at h
    cases e1 : mComp it (own2 own) a t e ρ with
    | ok o ρ1 =>
      rw [e1] at h
      exact comp_core (tg := tg) (iter := iter) (elt := elt) nd (fun _ _ _ w => w) (fun _ _ _ _ w => w) (fun _ _ _ w => w) (fun _ _ _ w => w) σ H _ ⟨ρ, T, o, ρ1, c, R, e1, fun v H' c' R' => h _ H' (Fix.set hP) (c'.set i v o) (Rep.store c' R')⟩
    | exc x ρ1 => rw [e1] at h; exact h.elim
    | no => rw [e1] at h; exact h.elim
theorem ss_setLcP (i : Nat) {P : List Nat} {y : Str} {py : Pos} {tg iter elt : Expr} {ifs : List Expr} {scope : Scope} {own : List (Str × Nat)} {pos spos : Pos} {it : M (List D)} {a : D → Env → Option Env} {t : M Bool} {e : M O} (ok : CxOk X) (hy : X.N[i]? = some y) (hyl : X.env.scope.names.lookup y = some .local)
    (hsw : swapsWith (.ListComp elt [⟨tg, iter, ifs, 0⟩] scope pos) (some (.Name y py)) spos.line X.env = pure true) (hi : SI X tg iter it) (bo : BlkOk X.N X.env.scope scope own)
    (hg : ∀ (s : Shared) (H : Hp) (C : Addr) (cl : List (Str × Addr)) (fp : List Addr), SG (X.blk s H scope (compEnvC scope cl C X.env) fp) (Wip (own2 own)) tg a) (ht : ∀ (s : Shared) (H : Hp) (C : Addr) (cl : List (Str × Addr)) (fp : List Addr), SETs (X.blk s H scope (compEnvC scope cl C X.env) fp) ifs t)
    (he : ∀ (s : Shared) (H : Hp) (C : Addr) (cl : List (Str × Addr)) (fp : List Addr), SE (X.blk s H scope (compEnvC scope cl C X.env) fp) elt e) (hP : i ∉ P := by decide) (nd : (own2 own).Nodup := by decide) (hs : ∀ x, foldedSetIterable iter X.env x = pure x := by intro _; rfl) :
    SS X P (.Assign [.Name y py] (.ListComp elt [⟨tg, iter, ifs, 0⟩] scope pos) spos) (mSetP i (mComp it (own2 own) a t e)) :=
  PS.imp (ps_setLc (wi := tI X.K X.mg it) (g := tG X.K X.mg (Wip (own2 own)) a) (tt := tMT X.K X.mg t) (te := tM X.K X.mg e) ok.calm ok.nd hy hyl hsw hi bo hg ht he hs) fun D σ H w => by
    obtain ⟨ρ, T, c, R, h⟩ := tS_iff.mp w
    unfold mSetP at h
    cases e1 : mComp it (own2 own) a t e ρ with
    | ok o ρ1 =>
      rw [e1] at h
      exact comp_core (tg := tg) (iter := iter) (elt := elt) nd (fun _ _ _ w => w) (fun _ _ _ _ w => w) (fun _ _ _ w => w) (fun _ _ _ w => w) σ H _ ⟨ρ, T, o, ρ1, c, R, e1, fun v H' c' R' => h _ H' (Fix.set hP) (c'.set i v _) (Rep.store c' R'.frz)⟩
    | exc x ρ1 => rw [e1] at h; exact h.elim
    | no => rw [e1] at h; exact h.elim

/-! ### defs, calls -/
abbrev FSem := List O → Option (O × Env)
def maskE (n : Nat) (P : List Nat) (ρ : Env) : Env := (List.range n).map fun i => if P.contains i = true then (ρ[i]?).join else none
def runF (n N : Nat) (P : List Nat) (b : M Fl) : FSem := fun os => match b (os.map some ++ List.replicate (N - os.length) none) with
  | .ok .nx ρ' => some (.val .non, maskE n P ρ')
  | .ok (.ret o) ρ' => some (o, maskE n P ρ')
  | _ => none
/-- a def of n parameters means F -/
def spF (K : PySem.W.Frag) (mg : Str → Option Value) (n : Nat) (F : FSem) : Sp := fun vs H Q _ => ∃ os T o ρ', vs.length = n ∧ os.length = n ∧ Rep K mg H (zipI vs os ++ T) [] ∧ F os = some (o, ρ') ∧ ∀ v H', Rep K mg H' (.ov v o :: (pairs (vs.map some) ρ' ++ T)) [] → Q v H'
theorem pairs_start : ∀ (vs : List V) (os : List O) (m : Nat), vs.length = os.length → pairs (vs.map some ++ List.replicate m none) (os.map some ++ List.replicate m none) = zipI vs os
  | [], [], m, _ => by
    induction m with
    | zero => rfl
    | succ m ih => rw [List.map_nil, List.map_nil, List.nil_append, List.nil_append, List.replicate_succ, List.replicate_succ, pairs_ns]; exact ih
  | [], _ :: _, _, h => by simp at h
  | _ :: _, [], _, h => by simp at h
  | v :: vs, o :: os, m, h => by
    show pairs (some v :: (vs.map some ++ List.replicate m none)) (some o :: (os.map some ++ List.replicate m none)) = .ov v o :: zipI vs os
    rw [pairs_ss, pairs_start vs os m (by simpa using h)]
theorem cov_start (vs : List V) (os : List O) (m : Nat) (h : vs.length = os.length) : Cov (vs.map some ++ List.replicate m none) (os.map some ++ List.replicate m none) := by
  refine ⟨by simp [h], fun i o e => ?_⟩
  by_cases hi : i < os.length
  · refine ⟨vs[i]'(by omega), ?_⟩
    rw [List.getElem?_append_left (by simp; omega), List.getElem?_map]
    simp [show i < vs.length by omega]
  · rw [List.getElem?_append_right (by simp; omega), List.getElem?_replicate] at e
    split at e <;> cases e
/-- some items of the environment, those kept -/
theorem pairs_mask {H : Hp} {T M : List Item} : ∀ {σ : L2.St} {ρ ρ' : Env}, ρ'.length ≤ ρ.length → (∀ (i : Nat) (o : O), ρ'[i]? = some (some o) → ρ[i]? = some (some o)) → Rep K mg H (M ++ (pairs σ ρ ++ T)) [] → Rep K mg H (M ++ (pairs σ ρ' ++ T)) []
  | [], ρ, ρ', hl, h, R => by
    rw [pairs_nil] at R ⊢; exact R
  | s :: σ, ρ, [], hl, h, R => by
    rw [pairs_nil']
    exact (R.perm (rot _ _ _)).drops
  | s :: σ, [], b :: ρ', hl, h, R => by simp at hl
  | s :: σ, a :: ρ, b :: ρ', hl, h, R => by
    have h' : ∀ (i : Nat) (o : O), ρ'[i]? = some (some o) → ρ[i]? = some (some o) := fun i o e => by simpa using h (i + 1) o (by simpa using e)
    have hl' : ρ'.length ≤ ρ.length := by simpa using hl
    cases s with
    | none =>
      rw [pairs_ns] at R ⊢
      exact pairs_mask hl' h' R
    | some v =>
      cases b with
      | none =>
        rw [pairs_sn]
        cases a with
        | none => rw [pairs_sn] at R; exact pairs_mask hl' h' R
        | some o =>
          rw [pairs_ss] at R
          exact pairs_mask hl' h' ((R.perm (List.perm_middle)).drop)
      | some o =>
        have e := h 0 o (by simp)
        simp at e
        subst e
        rw [pairs_ss] at R ⊢
        have R1 : Rep K mg H ((M ++ [.ov v o]) ++ (pairs σ ρ ++ T)) [] := R.perm (by rw [List.append_assoc]; exact List.Perm.refl _)
        exact (pairs_mask hl' h' R1).perm (by rw [List.append_assoc]; exact List.Perm.refl _)
theorem maskE_len (n : Nat) (P : List Nat) (ρ : Env) : (maskE n P ρ).length = n := by unfold maskE; simp
theorem maskE_get {n : Nat} {P : List Nat} {ρ : Env} {i : Nat} {o : O} (h : (maskE n P ρ)[i]? = some (some o)) : i ∈ P ∧ i < n ∧ ρ[i]? = some (some o) := by
  unfold maskE at h
  rw [List.getElem?_map] at h
  by_cases hi : i < n
  · rw [List.getElem?_range hi] at h
    simp only [Option.map_some] at h
    split at h
    · rename_i hP
      refine ⟨by simpa using hP, hi, ?_⟩
      cases q : ρ[i]? with
      | none => rw [q] at h; simp at h
      | some u => rw [q] at h; simp at h; rw [h]
    · simp at h
  · rw [List.getElem?_eq_none_iff.mpr (by simpa using hi)] at h; simp at h
theorem fn_post {H' : Hp} {T M : List Item} {N n : Nat} {P : List Nat} {vs : List V} {σ' : L2.St} {ρ' : Env} (hvn : vs.length = n) (hN : n ≤ N) (hf : Fix P (vs.map some ++ List.replicate (N - n) none) σ') (c : Cov σ' ρ') (hl : σ'.length = N) (R : Rep K mg H' (M ++ (pairs σ' ρ' ++ T)) []) : Rep K mg H' (M ++ (pairs (vs.map some) (maskE n P ρ') ++ T)) [] := by
  have e1 : pairs (vs.map some) (maskE n P ρ') = pairs σ' (maskE n P ρ') := by
    have q1 : pairs (vs.map some) (maskE n P ρ') = pairs (σ'.take n) (maskE n P ρ') := pairs_congr (by simp [hvn, hl]; omega) fun i o e => by
      obtain ⟨hp, hi, _⟩ := maskE_get e
      rw [List.getElem?_take_of_lt hi, hf.2 i hp, List.getElem?_append_left (by simp; omega)]
    have q2 : ∀ {σ : L2.St} {ρ : Env} {n : Nat}, ρ.length = n → pairs (σ.take n) ρ = pairs σ ρ := by
      intro σ
      induction σ with
      | nil => intro ρ n _; simp
      | cons a σ ih =>
        intro ρ n hr
        cases ρ with
        | nil => rw [pairs_nil', pairs_nil']
        | cons b ρ =>
          cases n with
          | zero => simp at hr
          | succ n =>
            rw [List.take_succ_cons]
            have t := ih (ρ := ρ) (n := n) (by simpa using hr)
            cases a with
            | none => rw [pairs_ns, pairs_ns, t]
            | some a =>
              cases b with
              | none => rw [pairs_sn, pairs_sn, t]
              | some b => rw [pairs_ss, pairs_ss, t]
    rw [q1, q2 (maskE_len _ _ _)]
  rw [e1]
  exact pairs_mask (by rw [maskE_len, ← c.len, hl]; exact hN) (fun i o e => (maskE_get e).2.2) R
end
section
variable {P : Program} {w : World} {K : PySem.W.Frag} {mg : Str → Option Value} {base : Heap}
theorem sp_len {n : Nat} {F : FSem} : ∀ vs H Q E, spF K mg n F vs H Q E → vs.length = n := fun vs H Q E h => by
  obtain ⟨os, T, o, ρ', h1, _⟩ := h
  exact h1
theorem body_sem {X : Cx} {N n : Nat} {Pr : List Nat} {st : List Stmt} {b : M Fl} {Ns : List Str} (hNs : Ns.length = N) (hn : n ≤ N) (hb : SSs X Pr st b) {vs : List V} {H : Hp} {Q : VK} {E : XK} (hsp : spF X.K X.mg n (runF n N Pr b) vs H Q E) : ∃ t, PSs X st t ∧ t { nx := fun _ H' => Q .non H', rt := Q } (L2.start Ns vs) H := by
  obtain ⟨os, T, o, ρ', h1, h2, R, e, k⟩ := hsp
  refine ⟨_, hb, tS_iff.mpr ⟨os.map some ++ List.replicate (N - os.length) none, T, ?_, ?_, ?_⟩⟩
  · have : L2.start Ns vs = vs.map some ++ List.replicate (N - os.length) none := by unfold L2.start; rw [hNs, h1, h2]
    rw [this]; exact cov_start vs os _ (by omega)
  · have : L2.start Ns vs = vs.map some ++ List.replicate (N - os.length) none := by unfold L2.start; rw [hNs, h1, h2]
    rw [this, pairs_start vs os _ (by omega)]; exact R
  · unfold runF at e
    have es : L2.start Ns vs = vs.map some ++ List.replicate (N - n) none := by unfold L2.start; rw [hNs, h1]
    cases e1 : b (os.map some ++ List.replicate (N - os.length) none) with
    | exc x ρ1 => rw [e1] at e; cases e
    | no => rw [e1] at e; cases e
    | ok fl ρ1 =>
      rw [e1] at e
      cases fl with
      | brk => cases e
      | ct => cases e
      | nx =>
        cases e
        intro σ' H' f c R'
        rw [es] at f
        have hl : σ'.length = N := by rw [f.1]; simp [h1]; omega
        refine k .non H' (fn_post (M := [.ov .non (.val .non)]) h1 hn f c hl ?_)
        exact R'.scal fun _ => .non
      | ret o =>
        cases e
        intro v σ' H' f c R'
        rw [es] at f
        have hl : σ'.length = N := by rw [f.1]; simp [h1]; omega
        exact k v H' (fn_post (M := [.ov v o]) h1 hn f c hl R')
end
end FB

/-! Calls of defs by name; lists and dicts changed at a name. -/
namespace FB
open PySem PySem.Spec L2
open PyProof.Rows hiding St

section
variable {P : Program} {w : World} {K : PySem.W.Frag} {mg : Str → Option Value} {base : Heap}
theorem bodyOk {N ps : List Str} {qual : Str} {st : Stmt} {f : Addr} {cdv : Value} {A : Around} {outer : List PySem.Env} {s : Shared} {H : Hp} {E : XK} {k : Nat} (S : FnScope N ps (C8.fnScope st)) (hr : Room k (A.deeper (envOfC qual (C8.fnScope st) s.heap.objs.size f cdv))) :
    CxOk (cxOf C8.CX0 P w K mg base N qual (C8.fnScope st) f cdv A outer s H E).nox :=
  ⟨rfl, by show (A.deeper (envOfC qual (C8.fnScope st) s.heap.objs.size f cdv)).units + 65 < cLine; have := hr.un; omega, S.nd⟩
theorem CxOk.blk {X : Cx} (ok : CxOk X) {s : Shared} {H : Hp} {sc : Scope} {e : PySem.Env} {fp : List Addr} : CxOk (X.blk s H sc e fp) := ⟨ok.calm, ok.units, ok.nd⟩
theorem cal_sem {x : Str} {st : Stmt} {f : Addr} {fd : FuncData} {N ps : List Str} {k n m : Nat} {Pr : List Nat} {b : M Fl} (F : C8.Def K mg x st f fd) (bi : Binds K fd ps []) (S : FnScope N ps (C8.fnScope st)) (hn : ps.length = n := by rfl) (hm : N.length = m := by rfl) (hnm : n ≤ m := by decide)
    (hb : ∀ (cdv : Value) (A : Around) (outer : List PySem.Env) (s : Shared) (H : Hp) (E : XK), Room k (A.deeper (envOfC x (C8.fnScope st) s.heap.objs.size f cdv)) → SSs (cxOf C8.CX0 P w K mg base N x (C8.fnScope st) f cdv A outer s H E).nox Pr (C8.fnBody st) b) :
    C8.Cal P w K mg base (k + 1) x (spF K mg n (runF n m Pr b)) [] :=
  C8.cal0 F bi .nil S (fun vs H Q E h => by rw [hn]; exact sp_len vs H Q E h) fun cdv A outer s H vs Q E hr h => body_sem (X := (cxOf C8.CX0 P w K mg base N x (C8.fnScope st) f cdv A outer s H E).nox) (E := E) hm hnm (hb cdv A outer s H E hr) h
end

section
variable {X : Cx} {K : PySem.W.Frag} {mg : Str → Option Value}
/-! ### arguments -/
def evA : List Arg → M (List (Option O))
  | [] => fun ρ => .ok [] ρ
  | .v m :: as => fun ρ => (m ρ).bind fun o ρ1 => (evA as ρ1).bind fun os ρ2 => .ok (some o :: os) ρ2
  | .io i :: as => fun ρ => match ρ[i]? with
    | some (some _) => (evA as ρ).bind fun os ρ2 => .ok (none :: os) ρ2
    | _ => .no
def IoOk : List Arg → L2.St → List V → Prop
  | [], _, [] => True
  | .v _ :: as, σ, _ :: vs => IoOk as σ vs
  | .io i :: as, σ, v :: vs => σ[i]? = some (some v) ∧ IoOk as σ vs
  | _, _, _ => False
def takeA : List Arg → List (Option O) → Env → Option (List O × Env)
  | [], [], ρ => some ([], ρ)
  | .v _ :: as, some o :: os, ρ => (takeA as os ρ).map fun r => (o :: r.1, r.2)
  | .io i :: as, none :: os, ρ => match ρ[i]? with
    | some (some o) => (takeA as os (ρ.set i none)).map fun r => (o :: r.1, r.2)
    | _ => none
  | _, _, _ => none
def giveA : List Arg → Env → Env → Env
  | .v _ :: as, _ :: ρc, ρ => giveA as ρc ρ
  | .io i :: as, some o :: ρc, ρ => giveA as ρc (ρ.set i (some o))
  | .io _ :: as, none :: ρc, ρ => giveA as ρc ρ
  | _, _, ρ => ρ
def tAs (K : PySem.W.Frag) (mg : Str → Option Value) (as : List Arg) : TA := fun σ H Q => ∃ ρ T os ρ', Cov σ ρ ∧ Rep K mg H (pairs σ ρ ++ T) [] ∧ evA as ρ = .ok os ρ' ∧
  ∀ vs H', Cov σ ρ' → vs.length = os.length → IoOk as σ vs → Rep K mg H' (pairs (vs.map some) os ++ (pairs σ ρ' ++ T)) [] → Q vs H'
def SAs (X : Cx) (es : List Expr) (as : List Arg) : Prop := PA X es (tAs X.K X.mg as)
theorem sas_nil : SAs X [] [] := PA.imp pa_nil fun σ H Q w => by
  obtain ⟨ρ, T, os, ρ', c, R, e, k⟩ := w
  cases e
  exact k [] H c rfl True.intro R
theorem sas_v {e : Expr} {es : List Expr} {m : M O} {as : List Arg} (h : SE X e m) (hs : SAs X es as) (hst : starEach (e :: es) X.env = (false, eval e X.env) :: starEach es X.env := by rfl) : SAs X (e :: es) (.v m :: as) :=
  PA.imp (pa_cons h hs hst) fun σ H Q w => by
    obtain ⟨ρ, T, os, ρ', c, R, e, k⟩ := w
    obtain ⟨o, ρ1, e1, e⟩ := Res.bind_eq e
    obtain ⟨os', ρ2, e2, e⟩ := Res.bind_eq e
    cases e
    refine ⟨ρ, T, o, ρ1, c, R, e1, fun v H1 c1 R1 => ⟨ρ1, .ov v o :: T, os', ρ', c1, R1.perm List.perm_middle.symm, e2, fun vs H2 c2 hl io R2 => k (v :: vs) H2 c2 (by simp [hl]) io (R2.perm ?_)⟩⟩
    show (pairs (vs.map some) os' ++ (pairs σ ρ' ++ .ov v o :: T)).Perm (.ov v o :: (pairs (vs.map some) os' ++ (pairs σ ρ' ++ T)))
    exact ((List.perm_middle (a := Item.ov v o)).append_left _).trans List.perm_middle
theorem sas_io (i : Nat) {x : Str} {pos : Pos} {es : List Expr} {as : List Arg} (hs : SAs X es as) (hN : X.N[i]? = some x := by rfl) (hv : Vis X.env.scope x := by first | exact Or.inl rfl | exact Or.inr (Or.inl rfl) | exact Or.inr (Or.inr rfl)) (hd : (x == ("__debug__" : Str)) = false := by decide)
    (hcd : (x == ("__classdict__" : Str)) = false := by decide) (hst : starEach (.Name x pos :: es) X.env = (false, eval (.Name x pos) X.env) :: starEach es X.env := by rfl) : SAs X (.Name x pos :: es) (.io i :: as) :=
  PA.imp (pa_cons (pv i hN hv hd hcd) hs hst) fun σ H Q w => by
    obtain ⟨ρ, T, os, ρ', c, R, e, k⟩ := w
    unfold evA at e
    split at e
    · rename_i o e1
      obtain ⟨v, hv⟩ := c.ex i o e1
      obtain ⟨os', ρ2, e2, e⟩ := Res.bind_eq e
      cases e
      exact ⟨v, hv, ρ, T, os', ρ', c, R, e2, fun vs H2 c2 hl io R2 => k (v :: vs) H2 c2 (by simp [hl]) ⟨hv, io⟩ (by
        show Rep X.K X.mg H2 (pairs (some v :: vs.map some) (none :: os') ++ (pairs σ ρ' ++ T)) []
        rw [pairs_sn]; exact R2)⟩
    · cases e
theorem take_ok {H : Hp} {T : List Item} {σ : L2.St} : ∀ {as : List Arg} {os : List (Option O)} {vs : List V} {ρ ρ' : Env} {os' : List O}, Cov σ ρ → IoOk as σ vs → takeA as os ρ = some (os', ρ') → Rep K mg H (pairs (vs.map some) os ++ (pairs σ ρ ++ T)) [] →
    Cov σ ρ' ∧ vs.length = os'.length ∧ Rep K mg H (zipI vs os' ++ (pairs σ ρ' ++ T)) []
  | [], [], [], ρ, ρ', os', c, io, e, R => by cases e; exact ⟨c, rfl, R⟩
  | [], [], _ :: _, _, _, _, _, io, _, _ => io.elim
  | [], _ :: _, _, _, _, _, _, _, e, _ => by cases e
  | .v _ :: _, [], _, _, _, _, _, _, e, _ => by cases e
  | .v _ :: _, none :: _, _, _, _, _, _, _, e, _ => by cases e
  | .v _ :: _, some _ :: _, [], _, _, _, _, io, _, _ => io.elim
  | .v _ :: as, some o :: os, v :: vs, ρ, ρ', os', c, io, e, R => by
    have e : (takeA as os ρ).map (fun r => (o :: r.1, r.2)) = some (os', ρ') := e
    cases e1 : takeA as os ρ with
    | none => rw [e1] at e; cases e
    | some r =>
      rw [e1] at e
      cases e
      have R1 : Rep K mg H (.ov v o :: (pairs (vs.map some) os ++ (pairs σ ρ ++ T))) [] := R
      have R2 : Rep K mg H (pairs (vs.map some) os ++ (pairs σ ρ ++ (.ov v o :: T))) [] := R1.perm (by
        refine List.Perm.trans ?_ (List.Perm.append_left _ List.perm_middle.symm)
        exact List.perm_middle.symm)
      obtain ⟨c', hl, R3⟩ := take_ok (as := as) c io e1 R2
      refine ⟨c', by simp [hl], R3.perm ?_⟩
      show (zipI vs r.1 ++ (pairs σ r.2 ++ .ov v o :: T)).Perm (.ov v o :: (zipI vs r.1 ++ (pairs σ r.2 ++ T)))
      exact (List.Perm.append_left _ List.perm_middle).trans List.perm_middle
  | .io _ :: _, [], _, _, _, _, _, _, e, _ => by cases e
  | .io _ :: _, some _ :: _, _, _, _, _, _, _, e, _ => by cases e
  | .io _ :: _, none :: _, [], _, _, _, _, io, _, _ => io.elim
  | .io i :: as, none :: os, v :: vs, ρ, ρ', os', c, io, e, R => by
    unfold takeA at e
    split at e
    · rename_i o e0
      cases e1 : takeA as os (ρ.set i none) with
      | none => rw [e1] at e; cases e
      | some r =>
        rw [e1] at e
        cases e
        have R1 : Rep K mg H (pairs (vs.map some) os ++ (pairs σ ρ ++ T)) [] := by
          have R : Rep K mg H (pairs (some v :: vs.map some) (none :: os) ++ (pairs σ ρ ++ T)) [] := R
          rw [pairs_sn] at R; exact R
        have p : (pairs σ ρ ++ T).Perm (pairs σ (ρ.set i none) ++ (.ov v o :: T)) :=
          ((pairs_take io.1 e0).append_right T).trans List.perm_middle.symm
        obtain ⟨c', hl, R3⟩ := take_ok (c.setn i) io.2 e1 (R1.perm (p.append_left _))
        refine ⟨c', by simp [hl], R3.perm ?_⟩
        show (zipI vs r.1 ++ (pairs σ r.2 ++ .ov v o :: T)).Perm (.ov v o :: (zipI vs r.1 ++ (pairs σ r.2 ++ T)))
        exact (List.Perm.append_left _ List.perm_middle).trans List.perm_middle
    · cases e
theorem give_ok {H : Hp} {T M : List Item} {σ : L2.St} : ∀ {as : List Arg} {vs : List V} {ρc ρ : Env}, Cov σ ρ → IoOk as σ vs → Rep K mg H (M ++ (pairs (vs.map some) ρc ++ (pairs σ ρ ++ T))) [] →
    Cov σ (giveA as ρc ρ) ∧ Rep K mg H (M ++ (pairs σ (giveA as ρc ρ) ++ T)) []
  | [], vs, ρc, ρ, c, io, R => by
    refine ⟨c, ?_⟩
    exact ((R.perm (rot _ _ _)).drops)
  | .v _ :: as, [], ρc, ρ, c, io, R => io.elim
  | .io _ :: as, [], ρc, ρ, c, io, R => io.elim
  | .v _ :: as, v :: vs, [], ρ, c, io, R => by
    refine ⟨c, ?_⟩
    rw [pairs_nil'] at R
    exact R
  | .io _ :: as, v :: vs, [], ρ, c, io, R => by
    refine ⟨c, ?_⟩
    rw [pairs_nil'] at R
    exact R
  | .v _ :: as, v :: vs, u :: ρc, ρ, c, io, R => by
    have R : Rep K mg H (M ++ (pairs (some v :: vs.map some) (u :: ρc) ++ (pairs σ ρ ++ T))) [] := R
    refine give_ok (as := as) c io ?_
    cases u with
    | none => rw [pairs_sn] at R; exact R
    | some o =>
      rw [pairs_ss] at R
      exact (R.perm List.perm_middle).drop
  | .io i :: as, v :: vs, none :: ρc, ρ, c, io, R => by
    have R : Rep K mg H (M ++ (pairs (some v :: vs.map some) (none :: ρc) ++ (pairs σ ρ ++ T))) [] := R
    rw [pairs_sn] at R
    exact give_ok (as := as) c io.2 R
  | .io i :: as, v :: vs, some o :: ρc, ρ, c, io, R => by
    have R : Rep K mg H (M ++ (pairs (some v :: vs.map some) (some o :: ρc) ++ (pairs σ ρ ++ T))) [] := R
    rw [pairs_ss] at R
    refine give_ok (as := as) (c.put io.1 o) io.2 ?_
    by_cases hi : i < ρ.length
    · have R1 : Rep K mg H ((.ov v o :: (M ++ pairs (vs.map some) ρc)) ++ (pairs σ ρ ++ T)) [] := R.perm (by
        refine List.perm_middle.trans ?_
        show (.ov v o :: (M ++ (pairs (vs.map some) ρc ++ (pairs σ ρ ++ T)))).Perm _
        rw [← List.append_assoc]; exact List.Perm.refl _)
      have R2 := Rep.slotDrop c i R1
      refine R2.perm ?_
      have p := (pairs_back (o := o) io.1 hi).append_right T
      have q1 : ((.ov v o :: (M ++ pairs (vs.map some) ρc)) ++ (pairs σ (ρ.set i none) ++ T)).Perm ((M ++ pairs (vs.map some) ρc) ++ ((.ov v o :: pairs σ (ρ.set i none)) ++ T)) := List.perm_middle.symm
      refine q1.trans ?_
      rw [List.append_assoc]
      exact List.Perm.append_left _ (List.Perm.append_left _ p)
    · rw [List.set_eq_of_length_le (by omega)]
      exact (R.perm List.perm_middle).drop
def mCall (F : FSem) (as : List Arg) : M O := fun ρ => (evA as ρ).bind fun os ρ1 => match takeA as os ρ1 with
  | none => .no
  | some r => match F r.1 with
    | none => .no
    | some q => .ok q.1 (giveA as q.2 r.2)
theorem call_core {n : Nat} {F : FSem} {as : List Arg} {Ex : XK} (σ : L2.St) (H : Hp) (Q : VK) (w : tM K mg (mCall F as) σ H Q) : tCall (spF K mg n F) [] Ex (tAs K mg as) σ H Q ∨ as.length ≠ n := by
  by_cases hn : as.length = n
  · left
    obtain ⟨ρ, T, o, ρ', c, R, e, k⟩ := w
    obtain ⟨os, ρ1, e1, e⟩ := Res.bind_eq e
    split at e
    · cases e
    · rename_i r e2
      split at e
      · cases e
      · rename_i q e3
        cases e
        refine ⟨ρ, T, os, ρ1, c, R, e1, fun vs H1 c1 hl io R1 => ?_⟩
        obtain ⟨c2, hl2, R2⟩ := take_ok c1 io e2 R1
        have lenA : ∀ {as : List Arg} {vs : List V}, IoOk as σ vs → vs.length = as.length := by
          intro as
          induction as with
          | nil => intro vs io; cases vs with
            | nil => rfl
            | cons => exact io.elim
          | cons a as ih => intro vs io; cases vs with
            | nil => cases a <;> exact io.elim
            | cons v vs => cases a with
              | v _ => simp [ih (vs := vs) io]
              | io _ => simp [ih (vs := vs) io.2]
        have hv : vs.length = n := by rw [lenA io, hn]
        rw [List.append_nil]
        refine ⟨r.1, pairs σ r.2 ++ T, q.1, q.2, hv, by omega, R2, e3, fun v H2 R3 => ?_⟩
        obtain ⟨c3, R4⟩ := give_ok (M := [.ov v q.1]) c2 io R3
        exact k v H2 c3 R4
  · right; exact hn
theorem se_call {n k j : Nat} {F : FSem} {x : Str} {p pos : Pos} {e : Expr} {es : List Expr} {as : List Arg} (cl : C8.Cal X.prog X.w X.K X.mg X.base k x (spF X.K X.mg n F) []) (hr : Room j X.A) (hk : k ≤ j) (hg : Gl X x) (ha : SAs X (e :: es) as) (hn : as.length = n := by rfl)
    (hdb : (x == ("__debug__" : Str)) = false := by decide) (he : starEach (e :: es) X.env = (false, eval e X.env) :: starEach es X.env := by rfl) (hpl : (backTo pos (starEach es X.env)).any (·.1) = false := by rfl) :
    SE X (.Call (.Name x p) (e :: es) [] pos) (mCall F as) := PE.imp (C8.pe_c cl hr hk hg ha hdb he hpl) fun σ H Q w => (call_core σ H Q w).resolve_right fun h => h hn

/-! ### lists changed at a name -/
def mAppend (i : Nat) (m : M O) : M O := fun ρ => match ρ[i]? with
  | some (some (.lst _)) => (m ρ).bind fun o ρ1 => match ρ1[i]? with
    | some (some (.lst os)) => if os.length < 1000000 then .ok (.val .non) (ρ1.set i (some (.lst (os ++ [o])))) else .no
    | _ => .no
  | _ => .no
theorem Rep.slot {H : Hp} {T M : List Item} {σ : L2.St} {ρ : Env} {i : Nat} {v : V} {o : O} (hv : σ[i]? = some (some v)) (e : ρ[i]? = some (some o)) (R : Rep K mg H (M ++ (pairs σ ρ ++ T)) []) : Rep K mg H (.ov v o :: (M ++ (pairs σ (ρ.set i none) ++ T))) [] :=
  R.perm ((((pairs_take hv e).append_right T).append_left M).trans List.perm_middle)
theorem Rep.unslot {H : Hp} {T M : List Item} {σ : L2.St} {ρ : Env} {i : Nat} {v : V} {o o' : O} (hv : σ[i]? = some (some v)) (e : ρ[i]? = some (some o)) (R : Rep K mg H (.ov v o' :: (M ++ (pairs σ (ρ.set i none) ++ T))) []) : Rep K mg H (M ++ (pairs σ (ρ.set i (some o')) ++ T)) [] := by
  have hi : i < ρ.length := (List.getElem?_eq_some_iff.mp e).1
  refine R.perm (List.perm_middle.symm.trans (List.Perm.append_left _ ?_))
  exact (pairs_back (o := o') hv hi).append_right T
theorem se_append (i : Nat) {x : Str} {p apos cpos : Pos} {e : Expr} {m : M O} (h : SE X e m) (hN : X.N[i]? = some x := by rfl) (hv : Vis X.env.scope x := by first | exact Or.inl rfl | exact Or.inr (Or.inl rfl) | exact Or.inr (Or.inr rfl)) (hd : (x == ("__debug__" : Str)) = false := by decide)
    (hcd : (x == ("__classdict__" : Str)) = false := by decide) (hst : starEach (e :: []) X.env = (false, eval e X.env) :: starEach [] X.env := by rfl)
    (hbase : attributeBase (.Name x p) "append" X.env (eval (.Name x p) X.env) = eval (.Name x p) X.env := by rfl)
    (hfew : ((backTo cpos (starEach (e :: []) X.env)).all (fun x => !x.1) && (backToKw cpos (keywordEach [] X.env)).all (fun x => x.1.isSome)
      && decide ((e :: []).length + ([] : List Keyword).length + (if ([] : List Keyword).isEmpty then 0 else 1) < 30)) = true := by rfl)
    (hline : (apos.endLine == cpos.line) = true := by rfl) (hplain : (backTo cpos (starEach [] X.env)).any (·.1) = false := by rfl) :
    SE X (.Call (.Attribute (.Name x p) "append" apos) [e] [] cpos) (mAppend i m) :=
  PE.imp (pe_bm PySem.F.plainAttrs_list PySem.F.slot_list_append PySem.F.type_list_append mt_append (pv i hN hv hd hcd) (pa_cons h pa_nil hst) hbase hfew hline hst hplain) fun σ H Q w => by
    obtain ⟨ρ, T, o, ρ', c, R, e0, k⟩ := w
    unfold mAppend at e0
    split at e0
    · rename_i os0 e1
      obtain ⟨v, hv⟩ := c.ex i _ e1
      have R0 : Rep X.K X.mg H ([] ++ (pairs σ ρ ++ T)) [] := R
      obtain ⟨q, vs, ev, hl, R1⟩ := (Rep.slot hv e1 R0).openL
      subst ev
      have hq := R1.rawAt
      obtain ⟨u, ρ1, e2, e0⟩ := Res.bind_eq e0
      split at e0
      · rename_i os e3
        split at e0
        · rename_i hlt
          cases e0
          refine ⟨_, hv, .inl ⟨rfl, _, SqL.of hq⟩, ρ, T, u, ρ1, c, R, e2, fun y H1 c1 R2 => ?_⟩
          have R3 := Rep.slot (M := [.ov y u]) hv e3 R2
          obtain ⟨q', ws, ev, hl2, R4⟩ := R3.openL
          cases ev
          refine ⟨q, ws, y, rfl, rfl, R4.rawAt, by rw [sizeLine_eq]; omega, ?_⟩
          have R5 := R4.write (o' := .lst (ws ++ [y]))
          have ez : zipI (ws ++ [y]) (os ++ [u]) = zipI ws os ++ [.ov y u] := by
            unfold zipI
            rw [List.zipWith_append hl2]; rfl
          have R6 : Rep X.K X.mg (upd H1 q (.lst (ws ++ [y]))) (.ov (.ref q) (.lst (os ++ [u])) :: (pairs σ (ρ1.set i none) ++ T)) [] := by
            refine Rep.closeL (vs := ws ++ [y]) ?_ (by simp [hl2])
            rw [ez, List.append_assoc]
            exact R5
          have R7 : Rep X.K X.mg _ ([] ++ (pairs σ (ρ1.set i (some (.lst (os ++ [u])))) ++ T)) [] := Rep.unslot hv e3 R6
          exact k .non _ (c1.put hv _) (R7.scal fun _ => .non)
        · cases e0
      · cases e0
    · cases e0

/-! ### x[k] = e, a list or a dict at a name -/
def keyO : O → Option Key
  | .val (.int i) => some (.inl i)
  | .val (.str s) => some (.inr s)
  | _ => none
def idxK (ks : List Key) (k : Key) : Option Nat := ks.findIdx? fun k' => decide (k' = k)
def putL {α : Type} (ks : List Key) (os : List α) (k : Key) (o : α) : List Key × List α := match idxK ks k with
  | some j => (ks, os.set j o)
  | none => (ks ++ [k], os ++ [o])
def setItO (a b u : O) : Option O := match a with
  | .lst os => match b with
    | .val (.int i) => (ixN os.length i).map fun j => .lst (os.set j u)
    | _ => none
  | .dct ks os => (keyO b).bind fun k => if ks.length < 1000000 then some (.dct (putL ks os k u).1 (putL ks os k u).2) else none
  | _ => none
theorem idxK_valV : ∀ (kvs : List (Key × V)) (k : Key), valV kvs k = (idxK (kvs.map (·.1)) k).bind fun j => (kvs.map (·.2))[j]?
  | [], k => rfl
  | (k', v) :: r, k => by
    have ih := idxK_valV r k
    by_cases e : k' = k
    · rw [valV_pos (p := (k', v)) e]
      unfold idxK
      rw [List.map_cons, List.findIdx?_cons, if_pos (decide_eq_true e)]
      rfl
    · rw [valV_neg (p := (k', v)) e, ih]
      unfold idxK
      rw [List.map_cons, List.findIdx?_cons, if_neg (by simpa using e), List.map_cons]
      cases q : List.findIdx? (fun k' => decide (k' = k)) (List.map (fun x => x.1) r) with
      | none => rfl
      | some j => simp
theorem putK_eq : ∀ (kvs : List (Key × V)) (k : Key) (v : V), (kvs.map (·.1)).Nodup → (putK kvs k v).map (·.1) = (putL (kvs.map (·.1)) (kvs.map (·.2)) k v).1 ∧ (putK kvs k v).map (·.2) = (putL (kvs.map (·.1)) (kvs.map (·.2)) k v).2 := by
  intro kvs k v nd
  have hany : (kvs.any fun kv => decide (kv.1 = k)) = (idxK (kvs.map (·.1)) k).isSome := by
    unfold idxK
    rw [List.findIdx?_isSome, List.any_map]
    rfl
  unfold putK putL
  rw [hany]
  cases q : idxK (kvs.map (·.1)) k with
  | none =>
    rw [if_neg (by simp)]
    simp
  | some j =>
    rw [if_pos (show (Option.some j).isSome = true from rfl)]
    refine ⟨by
      rw [List.map_map]
      refine List.map_congr_left fun a _ => ?_
      show (if a.1 = k then (a.1, v) else a).1 = a.1
      split <;> rfl, ?_⟩
    -- just the j-th is another one
    have key : ∀ (kvs : List (Key × V)) (j : Nat), (kvs.map (·.1)).Nodup → idxK (kvs.map (·.1)) k = some j → (kvs.map fun kv => if kv.1 = k then (kv.1, v) else kv).map (·.2) = (kvs.map (·.2)).set j v := by
      intro kvs
      induction kvs with
      | nil => intro j _ h; cases h
      | cons a r ih =>
        intro j nd h
        rw [List.map_cons, List.nodup_cons] at nd
        unfold idxK at h
        rw [List.map_cons, List.findIdx?_cons] at h
        by_cases e : a.1 = k
        · rw [if_pos (decide_eq_true e)] at h
          cases h
          rw [List.map_cons, if_pos e, List.map_cons, List.map_cons, List.set_cons_zero]
          congr 1
          rw [List.map_map]
          refine List.map_congr_left fun b hb => ?_
          show (if b.1 = k then (b.1, v) else b).2 = b.2
          rw [if_neg]
          intro z
          exact nd.1 (by rw [e, ← z]; exact List.mem_map_of_mem hb)
        · rw [if_neg (by simpa using e)] at h
          cases q : List.findIdx? (fun k' => decide (k' = k)) (List.map (fun x => x.1) r) with
          | none => rw [q] at h; cases h
          | some i =>
            rw [q] at h
            cases h
            rw [List.map_cons, if_neg e, List.map_cons, List.map_cons, List.set_cons_succ]
            congr 1
            exact ih i nd.2 q
    exact key kvs j nd q
def rSetF : TSet := fun o i v H Q => rSetL o i v H Q ∨ ∃ a H4, o = .ref a ∧ DPut H a i v H4 ∧ Q H4
theorem set_F (ok : CxOk X) : PSet X rSetF := by
  intro pins s σ H o i v ov iv u Q I ro ri rv h
  rcases h with h | ⟨a, H4, e, g, q⟩
  · exact set_list pins s σ H o i v ov iv u Q I ro ri rv h
  · subst e
    obtain rfl : ov = Value.ref a := ro
    exact d_setItem (by have := ok.units; omega) I g ri rv fun s4 I4 => ⟨H4, I4, q⟩
theorem keyO_V {H : Hp} {L : List Item} {B : List (V × O)} {y : V} {oy : O} {k : Key} (R : Rep K mg H L B) (hy : (y, oy) ∈ B) (e : keyO oy = some k) : y = kV k := by
  unfold keyO at e
  split at e
  · cases e; exact R.shInt hy rfl
  · cases e; exact R.shStr hy rfl
  · cases e
theorem nodup_put {ks : List Key} {k : Key} {os : List O} {o : O} (nd : ks.Nodup) : (putL ks os k o).1.Nodup := by
  unfold putL
  cases q : idxK ks k with
  | some j => exact nd
  | none =>
    have : k ∉ ks := fun z => by
      have h : (ks.findIdx? fun k' => decide (k' = k)) = none := q
      rw [List.findIdx?_eq_none_iff] at h
      have := h k z
      simp at this
    exact List.nodup_append.mpr ⟨nd, by simp, fun a ha b hb e => this (by simp at hb; rw [← hb, ← e]; exact ha)⟩
theorem zip_set : ∀ {vs : List V} {os : List O} {j : Nat} {v : V} {u : O}, vs.length = os.length → j < os.length → ∃ A C w, zipI vs os = A ++ w :: C ∧ zipI (vs.set j v) (os.set j u) = A ++ .ov v u :: C
  | [], [], j, v, u, _, h => by simp at h
  | [], _ :: _, _, _, _, h, _ => by simp at h
  | _ :: _, [], _, _, _, h, _ => by simp at h
  | a :: vs, b :: os, 0, v, u, _, _ => ⟨[], zipI vs os, .ov a b, rfl, rfl⟩
  | a :: vs, b :: os, j + 1, v, u, hl, hj => by
    obtain ⟨A, C, w, e1, e2⟩ := zip_set (vs := vs) (os := os) (j := j) (v := v) (u := u) (by simpa using hl) (by simpa using hj)
    exact ⟨.ov a b :: A, C, w, by show .ov a b :: zipI vs os = _; rw [e1]; rfl, by show .ov a b :: zipI (vs.set j v) (os.set j u) = _; rw [e2]; rfl⟩
theorem perm_set (A C L : List Item) (h w y n : Item) : (h :: ((A ++ w :: C) ++ y :: n :: L)).Perm (w :: y :: (h :: ((A ++ n :: C) ++ L))) := by
  have h1 : ((A ++ w :: C) ++ y :: n :: L).Perm (w :: y :: ((A ++ n :: C) ++ L)) := by
    rw [List.append_assoc]
    refine List.perm_middle.trans (List.Perm.cons _ ?_)
    show (A ++ (C ++ y :: n :: L)).Perm _
    rw [← List.append_assoc]
    refine List.perm_middle.trans (List.Perm.cons _ ?_)
    refine List.perm_middle.trans ?_
    rw [List.append_assoc, List.append_assoc]
    exact List.perm_middle.symm
  refine (List.Perm.cons _ h1).trans ?_
  exact (List.Perm.swap _ _ _).trans (List.Perm.cons _ (List.Perm.swap _ _ _))
/-- a part of an owned list or dict is stored -/
theorem setIt_core {H : Hp} {L : List Item} {x y v : V} {a b u o' : O} {Q : Hp → Prop} (R : Rep K mg H (.ov x a :: .ov y b :: .ov v u :: L) []) (e : setItO a b u = some o') (k : ∀ H', Rep K mg H' (.ov x o' :: L) [] → Q H') : rSetF x y v H Q := by
  have Rb : Rep K mg H (.ov x a :: .ov y b :: .ov v u :: L) [(y, b)] := ((R.perm (.swap _ _ _)).lend).perm (.swap _ _ _)
  generalize hY : Item.ov y b = Y at R
  unfold setItO at e
  split at e
  · rename_i os
    split at e
    · rename_i i
      cases ej : ixN os.length i with
      | none => rw [ej] at e; cases e
      | some j =>
        rw [ej] at e; cases e
        have ey := Rb.shInt (List.mem_cons_self ..) rfl
        obtain ⟨p, vs, rfl, hl, R1⟩ := R.openL
        have hj : j < os.length := (ixN_seq ej).2.1
        refine .inl ⟨p, vs, i, j, rfl, ey, R1.rawAt, by rw [hl]; exact ej, k _ ?_⟩
        have R2 := R1.write (o' := .lst (vs.set j v))
        refine Rep.closeL (vs := vs.set j v) ?_ (by simp [hl])
        obtain ⟨A, C, w, z1, z2⟩ := zip_set (v := v) (u := u) hl hj
        rw [z1] at R2
        rw [z2]
        exact (R2.perm (perm_set _ _ _ _ _ _ _)).drop.drop
    · cases e
  · rename_i ks os
    cases ek : keyO b with
    | none => rw [ek] at e; cases e
    | some key =>
      rw [ek] at e
      have e : (if ks.length < 1000000 then some (O.dct (putL ks os key u).1 (putL ks os key u).2) else none) = some o' := e
      split at e
      · rename_i hlt
        cases e
        have ey := keyO_V Rb (List.mem_cons_self ..) ek
        obtain ⟨p, kvs, rfl, hl, hk, R1⟩ := R.openD
        obtain ⟨hk, nd⟩ := hk
        have hlen : kvs.length < sizeLine := by rw [sizeLine_eq]; have : kvs.length = ks.length := by rw [← hk]; simp
                                                omega
        have g : DPut H p y v (upd H p (.dK (putK kvs key v))) := by rw [ey]; exact DPut.k R1.rawAt hlen
        refine .inr ⟨p, _, rfl, g, k _ ?_⟩
        have R2 := R1.write (o' := .dK (putK kvs key v))
        obtain ⟨f1, f2⟩ := putK_eq kvs key v (by rw [hk]; exact nd)
        have hlo : (kvs.map (·.2)).length = os.length := by simpa using hl
        refine Rep.closeD (kvs := putK kvs key v) (ks := (putL ks os key u).1) (os := (putL ks os key u).2) ?_ ?_ ⟨?_, nodup_put nd⟩
        · rw [f2]
          unfold putL
          rw [hk]
          cases q : idxK ks key with
          | none =>
            show Rep K mg _ (.raw p (.dK (putK kvs key v)) :: (zipI (kvs.map (·.2) ++ [v]) (os ++ [u]) ++ L)) []
            have ez : zipI (kvs.map (·.2) ++ [v]) (os ++ [u]) = zipI (kvs.map (·.2)) os ++ [.ov v u] := by
              unfold zipI
              rw [List.zipWith_append hlo]; rfl
            rw [ez, List.append_assoc]
            have p1 : (.raw p (.dK (putK kvs key v)) :: (zipI (kvs.map (·.2)) os ++ Y :: .ov v u :: L) : List Item).Perm (Y :: (.raw p (.dK (putK kvs key v)) :: (zipI (kvs.map (·.2)) os ++ .ov v u :: L))) :=
              (List.Perm.cons _ List.perm_middle).trans (.swap _ _ _)
            exact (R2.perm p1).drop
          | some j =>
            show Rep K mg _ (.raw p (.dK (putK kvs key v)) :: (zipI ((kvs.map (·.2)).set j v) (os.set j u) ++ L)) []
            have hj : j < os.length := by
              have h : (ks.findIdx? fun k' => decide (k' = key)) = some j := q
              rw [List.findIdx?_eq_some_iff_getElem] at h
              obtain ⟨h, _⟩ := h
              have : kvs.length = ks.length := by rw [← hk]; simp
              omega
            obtain ⟨A, C, w, z1, z2⟩ := zip_set (v := v) (u := u) hlo hj
            rw [z1] at R2
            rw [z2]
            exact (R2.perm (perm_set _ _ _ _ _ _ _)).drop.drop
        · have h1 : (putK kvs key v).length = (putL (kvs.map (·.1)) (kvs.map (·.2)) key v).2.length := by rw [← f2]; simp
          rw [h1, hk]
          unfold putL
          cases q : idxK ks key with
          | none => simp [hl]
          | some j => simp [hl]
        · rw [f1, hk]
          unfold putL
          cases q : idxK ks key <;> rfl
      · cases e
  · cases e
/-- name[k] = e -/
def mSetIt (i : Nat) (n m : M O) : M Fl := fun ρ => (m ρ).bind fun u ρ1 => match ρ1[i]? with
  | some (some _) => (n ρ1).bind fun b ρ2 => match ρ2[i]? with
    | some (some a) => match setItO a b u with
      | some o => .ok .nx (ρ2.set i (some o))
      | none => .no
    | _ => .no
  | _ => .no
theorem ss_setIt (i : Nat) {P : List Nat} {x : Str} {p tpos pos : Pos} {ix e : Expr} {n m : M O} (ok : CxOk X) (hn : SE X ix n) (h : SE X e m) (hN : X.N[i]? = some x := by rfl) (hv : Vis X.env.scope x := by first | exact Or.inl rfl | exact Or.inr (Or.inl rfl) | exact Or.inr (Or.inr rfl)) (hd : (x == ("__debug__" : Str)) = false := by decide)
    (hcd : (x == ("__classdict__" : Str)) = false := by decide)
    (ha : ∀ v, assign (.Subscript (.Name x p) ix tpos) X.env v = (do
      let ov ← holding [v] (eval (.Name x p) X.env)
      let iv ← holding [v, ov] (eval ix X.env)
      standAt tpos
      holding [v, ov, iv] (setItem ov iv v)
      release [v, ov, iv] []) := by intro _; rfl)
    (hs : swapsWithSole [.Subscript (.Name x p) ix tpos] e pos.line X.env = pure false := by rfl) (hw : swappedStores [.Subscript (.Name x p) ix tpos] e X.env = pure none := by rfl)
    (h1 : (assignEach [.Subscript (.Name x p) ix tpos] X.env).map (·.2) = [assign (.Subscript (.Name x p) ix tpos) X.env] := by rfl) :
    SS X P (.Assign [.Subscript (.Name x p) ix tpos] e pos) (mSetIt i n m) :=
  PS.imp (ps_asg h (pg_sub (pv i hN hv hd hcd) hn (set_F ok) ha) hs hw h1) fun D σ H w => by
    obtain ⟨ρ, T, c, R, h⟩ := tS_iff.mp w
    unfold mSetIt at h
    cases e1 : m ρ with
    | exc z ρ1 => rw [e1] at h; exact h.elim
    | no => rw [e1] at h; exact h.elim
    | ok u ρ1 =>
      rw [e1] at h
      have h : Post X.K X.mg P T D σ (match ρ1[i]? with
        | some (some _) => (n ρ1).bind fun b ρ2 => match ρ2[i]? with
          | some (some a) => match setItO a b u with
            | some o => .ok .nx (ρ2.set i (some o))
            | none => .no
          | _ => .no
        | _ => .no) := h
      refine ⟨ρ, T, u, ρ1, c, R, e1, fun v H1 c1 R1 => ?_⟩
      split at h
      · rename_i a0 e2
        obtain ⟨vx, hvx⟩ := c1.ex i _ e2
        refine ⟨vx, hvx, ρ1, .ov v u :: T, ?_⟩
        cases e3 : n ρ1 with
        | exc z ρ2 => rw [e3] at h; exact h.elim
        | no => rw [e3] at h; exact h.elim
        | ok b ρ2 =>
          rw [e3] at h
          refine ⟨b, ρ2, c1, R1.perm List.perm_middle.symm, rfl, fun y H2 c2 R2 => ?_⟩
          have h : Post X.K X.mg P T D σ (match ρ2[i]? with
            | some (some a) => match setItO a b u with
              | some o => .ok .nx (ρ2.set i (some o))
              | none => .no
            | _ => .no) := h
          split at h
          · rename_i a e4
            split at h
            · rename_i o' e5
              have R3 : Rep X.K X.mg H2 ([.ov y b] ++ (pairs σ ρ2 ++ (.ov v u :: T))) [] := R2
              have R4 := Rep.slot hvx e4 R3
              have R5 : Rep X.K X.mg H2 (.ov vx a :: .ov y b :: .ov v u :: (pairs σ (ρ2.set i none) ++ T)) [] := R4.perm ((List.Perm.cons _ (List.Perm.cons _ List.perm_middle)))
              refine setIt_core R5 e5 fun H3 R6 => h σ H3 (Fix.refl _ _) (c2.put hvx _) ?_
              exact Rep.unslot (M := []) hvx e4 R6
            · exact h.elim
          · exact h.elim
      · exact h.elim
end
end FB

/-! Displays among readings; the law's own def; the end. -/
namespace FB
open PySem PySem.Spec L2
open PyProof.Rows hiding St

section
variable {X : Cx} {K : PySem.W.Frag} {mg : Str → Option Value}
def tPs (K : PySem.W.Frag) (mg : Str → Option Value) (f : Env → Option (List D)) : TA := fun σ H Q => ∃ ρ T B ds, Cov σ ρ ∧ Rep K mg H (pairs σ ρ ++ T) B ∧ f ρ = some ds ∧ ∀ vs H', Same H H' → vs.length = ds.length → Rep K mg H' (zipI vs (ds.map O.val) ++ (pairs σ ρ ++ T)) B → Q vs H'
def SPs (X : Cx) (es : List Expr) (f : Env → Option (List D)) : Prop := PA X es (tPs X.K X.mg f)
def pNil : Env → Option (List D) := fun _ => some []
def pCons (f : Pf) (g : Env → Option (List D)) : Env → Option (List D) := fun ρ => match f ρ with
  | some (.val d) => (g ρ).map (d :: ·)
  | _ => none
theorem sps_nil : SPs X [] pNil := PA.imp pa_nil fun σ H Q w => by
  obtain ⟨ρ, T, B, ds, c, R, e, k⟩ := w
  cases e
  exact k [] H (Same.refl _) rfl R
theorem sps_cons {e : Expr} {es : List Expr} {f : Pf} {g : Env → Option (List D)} (h : SP X e f) (hs : SPs X es g) (hst : starEach (e :: es) X.env = (false, eval e X.env) :: starEach es X.env := by rfl) : SPs X (e :: es) (pCons f g) :=
  PA.imp (pa_cons h hs hst) fun σ H Q w => by
    obtain ⟨ρ, T, B, ds, c, R, e, k⟩ := w
    unfold pCons at e
    split at e
    · rename_i d e1
      cases e2 : g ρ with
      | none => rw [e2] at e; cases e
      | some ds' =>
        rw [e2] at e
        cases e
        refine ⟨ρ, T, B, .val d, c, R, e1, fun v H1 s1 R1 => ⟨ρ, .ov v (.val d) :: T, B, ds', c, R1.keep.perm List.perm_middle.symm, e2, fun vs H2 s2 hl R2 => k (v :: vs) H2 (s1.trans s2) (by simp [hl]) (R2.perm ?_)⟩⟩
        show (zipI vs (ds'.map O.val) ++ (pairs σ ρ ++ .ov v (.val d) :: T)).Perm (.ov v (.val d) :: (zipI vs (ds'.map O.val) ++ (pairs σ ρ ++ T)))
        exact ((List.perm_middle (a := Item.ov v (.val d))).append_left _).trans List.perm_middle
    · cases e
def pLst (g : Env → Option (List D)) : Pf := fun ρ => (g ρ).bind fun ds => if ds.length ≤ 1000000 then some (.val (.lst ds)) else none
def pTup (g : Env → Option (List D)) : Pf := fun ρ => (g ρ).bind fun ds => if ds.length ≤ 1000000 then some (.val (.tup ds)) else none
theorem sp_lst {es : List Expr} {pos : Pos} {g : Env → Option (List D)} (h : SPs X es g) : SP X (.List es pos) (pLst g) := PE.imp (pe_lst h) fun σ H Q w => by
  obtain ⟨ρ, T, B, o, c, R, e, k⟩ := w
  unfold pLst at e
  cases e1 : g ρ with
  | none => rw [e1] at e; cases e
  | some ds =>
    rw [e1] at e
    have e : (if ds.length ≤ 1000000 then some (O.val (.lst ds)) else none) = some o := e
    split at e
    · rename_i hl
      cases e
      exact ⟨ρ, T, B, ds, c, R, e1, fun vs H' s' hv R' => ⟨line6 (by omega), fun p hp => k _ _ (s'.trans (sameNew hp)) (R'.lentL hv hp)⟩⟩
    · cases e
theorem sp_tup {es : List Expr} {x1 : Nat} {pos : Pos} {g : Env → Option (List D)} (h : SPs X es g) : SP X (.Tuple es x1 pos) (pTup g) := PE.imp (pe_tup h) fun σ H Q w => by
  obtain ⟨ρ, T, B, o, c, R, e, k⟩ := w
  unfold pTup at e
  cases e1 : g ρ with
  | none => rw [e1] at e; cases e
  | some ds =>
    rw [e1] at e
    have e : (if ds.length ≤ 1000000 then some (O.val (.tup ds)) else none) = some o := e
    split at e
    · rename_i hl
      cases e
      exact ⟨ρ, T, B, ds, c, R, e1, fun vs H' s' hv R' => ⟨line6 (by omega), fun p hp => k _ _ (s'.trans (sameNew hp)) (R'.lentT hv hp)⟩⟩
    · cases e
end

section
variable {P : Program} {w : World} {K : PySem.W.Frag} {mg : Str → Option Value} {base : Heap}
theorem law_end {F : FSem} {H : Hp} {a : Addr} {ns : List Int} (h : ∃ r, F [.val (.scr ns)] = some (.val (.bl true), r)) (hS : SqL K H a (ns.map V.int)) : spF K mg 1 F [.ref a] H (fun v _ => v = .bl true) fun _ _ _ => False := by
  obtain ⟨r, e⟩ := h
  refine ⟨[.val (.scr ns)], [], _, r, rfl, rfl, ?_, e, fun v H' R => ?_⟩
  · refine ⟨[], List.nodup_nil, ?_, fun _ h => by simp at h⟩
    exact IsOk.append (as := []) (IsOk.zip (VOs.vals (Vws.cons (Vw.scr hS) Vws.nil))) IsOk.nil
  · have q := R.lend.view (List.mem_cons_self ..)
    cases q
    rfl
end
end FB

/-! From the head's facts to the walk. -/
namespace FB
open PySem PySem.Spec L2
open PyProof.Rows hiding St
@[irreducible] def fuel : Nat := 1000000
theorem fuel_eq : fuel = 1000000 := by unfold fuel; rfl
theorem fun_of {K : PySem.W.Frag} {x qual : Str} {st : Stmt} {f : Addr} {fd : FuncData} (D : FunD K x qual (C8.fnArgs st) (C8.fnBody st) (C8.fnScope st) [] [] f fd) : C8.Fun K x qual st f fd := by
  obtain ⟨oc, od, dV, kV, doc, pm, an, cdv, ct, osl, e, lk, hc, _, _⟩ := D.ex
  exact ⟨oc, od, dV, kV, doc, pm, an, cdv, ct, osl, e, lk, hc⟩
end FB
namespace FB
open PySem PySem.Spec L2
theorem CxOk.u64 {X : Cx} (ok : CxOk X) : X.A.units + 64 < cLine := by have := ok.units; omega
end FB

/-! What the combinators compute: rules for simp, rules for loops. -/
namespace FB
open PySem PySem.Spec L2
open PyProof.Rows hiding St

variable {ρ : Env}
-- readings
@[simp] theorem e_pVar (i : Nat) : pVar i ρ = (ρ[i]?).join := (rfl)
@[simp] theorem e_pC (d : D) : pC d ρ = some (.val d) := (rfl)
def p2K (op : O → O → Option O) : Option O → Option O → Option O
  | some a, some b => op a b
  | _, _ => none
@[simp] theorem e_p2 (op : O → O → Option O) (f g : Pf) : p2 op f g ρ = p2K op (f ρ) (g ρ) := by
  unfold p2 p2K; cases f ρ <;> cases g ρ <;> rfl
@[simp] theorem e_p2K (op : O → O → Option O) (a b : O) : p2K op (some a) (some b) = op a b := (rfl)
def p1K (op : O → Option O) : Option O → Option O
  | some a => op a
  | none => none
@[simp] theorem e_p1 (op : O → Option O) (f : Pf) : p1 op f ρ = p1K op (f ρ) := by
  unfold p1 p1K; cases f ρ <;> rfl
@[simp] theorem e_p1K (op : O → Option O) (a : O) : p1K op (some a) = op a := (rfl)
@[simp] theorem e_mP (f : Pf) : mP f ρ = okV (f ρ) ρ := by unfold mP okV; rfl
@[simp] theorem e_okV (d : D) : okV (some (.val d)) ρ = .ok (.val d) ρ := (rfl)
@[simp] theorem e_pNil : pNil ρ = some [] := (rfl)
def pcK : Option O → Option (List D) → Option (List D)
  | some (.val d), some ds => some (d :: ds)
  | _, _ => none
@[simp] theorem e_pCons (f : Pf) (g : Env → Option (List D)) : pCons f g ρ = pcK (f ρ) (g ρ) := by
  unfold pCons pcK
  cases f ρ with
  | none => rfl
  | some o => cases o <;> cases g ρ <;> rfl
@[simp] theorem e_pcK (d : D) (ds : List D) : pcK (some (.val d)) (some ds) = some (d :: ds) := (rfl)
def plK (k : List D → D) : Option (List D) → Option O
  | some ds => if ds.length ≤ 1000000 then some (.val (k ds)) else none
  | none => none
@[simp] theorem e_pLst (g : Env → Option (List D)) : pLst g ρ = plK .lst (g ρ) := by unfold pLst plK; cases g ρ <;> rfl
@[simp] theorem e_pTup (g : Env → Option (List D)) : pTup g ρ = plK .tup (g ρ) := by unfold pTup plK; cases g ρ <;> rfl
@[simp] theorem e_plK (k : List D → D) (ds : List D) (h : ds.length ≤ 1000000) : plK k (some ds) = some (.val (k ds)) := by unfold plK; simp [h]
def pslK : Option O → Option (Option Int) → Option (Option Int) → Option O
  | some a, some l, some h => slO a l h
  | _, _, _ => none
@[simp] theorem e_pSl (f : Pf) (lo hi : Env → Option (Option Int)) : pSl f lo hi ρ = pslK (f ρ) (lo ρ) (hi ρ) := by
  unfold pSl pslK; cases f ρ <;> cases lo ρ <;> cases hi ρ <;> rfl
@[simp] theorem e_pslK (a : O) (l h : Option Int) : pslK (some a) (some l) (some h) = slO a l h := (rfl)
@[simp] theorem e_pNone : pNone ρ = some none := (rfl)
def piK : Option O → Option (Option Int)
  | some (.val (.int i)) => some (some i)
  | _ => none
@[simp] theorem e_pInt (f : Pf) : pInt f ρ = piK (f ρ) := by unfold pInt piK; rfl
@[simp] theorem e_piK (i : Int) : piK (some (.val (.int i))) = some (some i) := (rfl)
-- expressions
def mvK (i : Nat) (ρ : Env) : Option (Option O) → Res O
  | some (some o) => .ok o (ρ.set i none)
  | _ => .no
@[simp] theorem e_mMove (i : Nat) : mMove i ρ = mvK i ρ (ρ[i]?) := (rfl)
@[simp] theorem e_mvK (i : Nat) (o : O) : mvK i ρ (some (some o)) = .ok o (ρ.set i none) := (rfl)
def frK (i : Nat) (ρ : Env) : Option (Option O) → Res O
  | some (some o) => .ok (.val o.toD) (ρ.set i (some (.val o.toD)))
  | _ => .no
@[simp] theorem e_mFrz (i : Nat) : mFrz i ρ = frK i ρ (ρ[i]?) := (rfl)
@[simp] theorem e_frK (i : Nat) (o : O) : frK i ρ (some (some o)) = .ok (.val o.toD) (ρ.set i (some (.val o.toD))) := (rfl)
def m2B (op : O → O → Option O) (a : O) : Res O → Res O
  | .ok b ρ2 => okV (op a b) ρ2
  | .exc x ρ => .exc x ρ
  | .no => .no
def m2A (op : O → O → Option O) (n : M O) : Res O → Res O
  | .ok a ρ1 => m2B op a (n ρ1)
  | .exc x ρ => .exc x ρ
  | .no => .no
@[simp] theorem e_m2 (op : O → O → Option O) (m n : M O) : m2 op m n ρ = m2A op n (m ρ) := by
  unfold m2 m2A
  cases m ρ with
  | ok a ρ1 => show (n ρ1).bind _ = m2B op a (n ρ1); unfold m2B; cases n ρ1 <;> rfl
  | exc _ _ => rfl
  | no => rfl
@[simp] theorem e_m2A (op : O → O → Option O) (n : M O) (a : O) : m2A op n (.ok a ρ) = m2B op a (n ρ) := (rfl)
@[simp] theorem e_m2B (op : O → O → Option O) (a b : O) : m2B op a (.ok b ρ) = okV (op a b) ρ := (rfl)
def m1K (op : O → Option O) : Res O → Res O
  | .ok a ρ1 => okV (op a) ρ1
  | .exc x ρ => .exc x ρ
  | .no => .no
@[simp] theorem e_m1 (op : O → Option O) (m : M O) : m1 op m ρ = m1K op (m ρ) := by unfold m1 m1K; cases m ρ <;> rfl
@[simp] theorem e_m1K (op : O → Option O) (a : O) : m1K op (.ok a ρ) = okV (op a) ρ := (rfl)
def mBK : Res O → Res Bool
  | .ok (.val (.bl b)) ρ => .ok b ρ
  | .ok _ _ => .no
  | .exc x ρ => .exc x ρ
  | .no => .no
@[simp] theorem e_mB (m : M O) : mB m ρ = mBK (m ρ) := by
  unfold mB mBK
  cases m ρ with
  | ok o ρ1 =>
    cases o with
    | val d => cases d <;> rfl
    | lst _ => rfl
    | dct _ _ => rfl
    | ins _ _ _ => rfl
  | exc _ _ => rfl
  | no => rfl
@[simp] theorem e_mBK (b : Bool) : mBK (.ok (.val (.bl b)) ρ) = .ok b ρ := (rfl)
def andK (b : M Bool) : Res Bool → Res Bool
  | .ok c ρ => if c = true then b ρ else .ok false ρ
  | .exc x ρ => .exc x ρ
  | .no => .no
@[simp] theorem e_mAnd (a b : M Bool) : mAnd a b ρ = andK b (a ρ) := by unfold mAnd andK; cases a ρ <;> rfl
@[simp] theorem e_andK (b : M Bool) (c : Bool) : andK b (.ok c ρ) = if c = true then b ρ else .ok false ρ := (rfl)
def orK (b : M Bool) : Res Bool → Res Bool
  | .ok c ρ => if c = true then .ok true ρ else b ρ
  | .exc x ρ => .exc x ρ
  | .no => .no
@[simp] theorem e_mOr (a b : M Bool) : mOr a b ρ = orK b (a ρ) := by unfold mOr orK; cases a ρ <;> rfl
@[simp] theorem e_orK (b : M Bool) (c : Bool) : orK b (.ok c ρ) = if c = true then .ok true ρ else b ρ := (rfl)
def notK : Res Bool → Res Bool
  | .ok c ρ => .ok (!c) ρ
  | .exc x ρ => .exc x ρ
  | .no => .no
@[simp] theorem e_mNot (a : M Bool) : mNot a ρ = notK (a ρ) := by unfold mNot notK; cases a ρ <;> rfl
@[simp] theorem e_notK (c : Bool) : notK (.ok c ρ) = .ok (!c) ρ := (rfl)
def andVK (b : M O) : Res O → Res O
  | .ok (.val (.bl c)) ρ => if c = true then b ρ else .ok (.val (.bl false)) ρ
  | .ok _ _ => .no
  | .exc x ρ => .exc x ρ
  | .no => .no
@[simp] theorem e_mAndV (a b : M O) : mAndV a b ρ = andVK b (a ρ) := by
  unfold mAndV andVK
  cases a ρ with
  | ok o ρ1 =>
    cases o with
    | val d =>
      cases d with
      | bl c => cases c <;> rfl
      | _ => rfl
    | lst _ => rfl
    | dct _ _ => rfl
    | ins _ _ _ => rfl
  | exc _ _ => rfl
  | no => rfl
@[simp] theorem e_andVK (b : M O) (c : Bool) : andVK b (.ok (.val (.bl c)) ρ) = if c = true then b ρ else .ok (.val (.bl false)) ρ := (rfl)
def orVK (b : M O) : Res O → Res O
  | .ok (.val (.bl c)) ρ => if c = true then .ok (.val (.bl true)) ρ else b ρ
  | .ok _ _ => .no
  | .exc x ρ => .exc x ρ
  | .no => .no
@[simp] theorem e_mOrV (a b : M O) : mOrV a b ρ = orVK b (a ρ) := by
  unfold mOrV orVK
  cases a ρ with
  | ok o ρ1 =>
    cases o with
    | val d =>
      cases d with
      | bl c => cases c <;> rfl
      | _ => rfl
    | lst _ => rfl
    | dct _ _ => rfl
    | ins _ _ _ => rfl
  | exc _ _ => rfl
  | no => rfl
@[simp] theorem e_orVK (b : M O) (c : Bool) : orVK b (.ok (.val (.bl c)) ρ) = if c = true then .ok (.val (.bl true)) ρ else b ρ := (rfl)
def notVK : Res O → Res O
  | .ok (.val (.bl c)) ρ => .ok (.val (.bl (!c))) ρ
  | .ok _ _ => .no
  | .exc x ρ => .exc x ρ
  | .no => .no
@[simp] theorem e_mNotV (a : M O) : mNotV a ρ = notVK (a ρ) := by
  unfold mNotV notVK
  cases a ρ with
  | ok o ρ1 =>
    cases o with
    | val d => cases d <;> rfl
    | lst _ => rfl
    | dct _ _ => rfl
    | ins _ _ _ => rfl
  | exc _ _ => rfl
  | no => rfl
@[simp] theorem e_notVK (c : Bool) : notVK (.ok (.val (.bl c)) ρ) = .ok (.val (.bl (!c))) ρ := (rfl)
def ifK {α : Type} (a b : M α) : Res Bool → Res α
  | .ok c ρ => if c = true then a ρ else b ρ
  | .exc x ρ => .exc x ρ
  | .no => .no
@[simp] theorem e_mIf (t : M Bool) (a b : M Fl) : mIf t a b ρ = ifK a b (t ρ) := by unfold mIf ifK; cases t ρ <;> rfl
@[simp] theorem e_ifK {α : Type} (a b : M α) (c : Bool) : ifK a b (.ok c ρ) = if c = true then a ρ else b ρ := (rfl)
@[simp] theorem e_mNil : mNil ρ = .ok [] ρ := (rfl)
def csB (o : O) : Res (List O) → Res (List O)
  | .ok os ρ => .ok (o :: os) ρ
  | .exc x ρ => .exc x ρ
  | .no => .no
def csA (ms : M (List O)) : Res O → Res (List O)
  | .ok o ρ => csB o (ms ρ)
  | .exc x ρ => .exc x ρ
  | .no => .no
@[simp] theorem e_mCons (m : M O) (ms : M (List O)) : mCons m ms ρ = csA ms (m ρ) := by
  unfold mCons csA
  cases m ρ with
  | ok a ρ1 => show (ms ρ1).bind _ = csB a (ms ρ1); unfold csB; cases ms ρ1 <;> rfl
  | exc _ _ => rfl
  | no => rfl
@[simp] theorem e_csA (ms : M (List O)) (o : O) : csA ms (.ok o ρ) = csB o (ms ρ) := (rfl)
@[simp] theorem e_csB (o : O) (os : List O) : csB o (.ok os ρ) = .ok (o :: os) ρ := (rfl)
def lsK (k : List O → O) : Res (List O) → Res O
  | .ok os ρ => if os.length ≤ 1000000 then .ok (k os) ρ else .no
  | .exc x ρ => .exc x ρ
  | .no => .no
@[simp] theorem e_mLst (ms : M (List O)) : mLst ms ρ = lsK .lst (ms ρ) := by unfold mLst lsK; cases ms ρ <;> rfl
@[simp] theorem e_mTup (ms : M (List O)) : mTup ms ρ = lsK (fun os => .val (.tup (O.toDs os))) (ms ρ) := by unfold mTup lsK; cases ms ρ <;> rfl
@[simp] theorem e_lsK (k : List O → O) (os : List O) (h : os.length ≤ 1000000) : lsK k (.ok os ρ) = .ok (k os) ρ := by unfold lsK; simp [h]
-- statements
@[simp] theorem e_mSkip : mSkip ρ = .ok .nx ρ := (rfl)
def sqK (b : M Fl) : Res Fl → Res Fl
  | .ok .nx ρ => b ρ
  | .ok f ρ => .ok f ρ
  | .exc x ρ => .exc x ρ
  | .no => .no
@[simp] theorem e_mSeq (a b : M Fl) : mSeq a b ρ = sqK b (a ρ) := by
  unfold mSeq sqK
  cases a ρ with
  | ok f ρ1 => cases f <;> rfl
  | exc _ _ => rfl
  | no => rfl
@[simp] theorem e_sqK (b : M Fl) : sqK b (.ok .nx ρ) = b ρ := (rfl)
@[simp] theorem e_sqKr (b : M Fl) (o : O) : sqK b (.ok (.ret o) ρ) = .ok (.ret o) ρ := (rfl)
@[simp] theorem e_sqKb (b : M Fl) : sqK b (.ok .brk ρ) = .ok .brk ρ := (rfl)
@[simp] theorem e_sqKc (b : M Fl) : sqK b (.ok .ct ρ) = .ok .ct ρ := (rfl)
def exK : Res O → Res Fl
  | .ok _ ρ => .ok .nx ρ
  | .exc x ρ => .exc x ρ
  | .no => .no
@[simp] theorem e_mEx (m : M O) : mEx m ρ = exK (m ρ) := by unfold mEx exK; cases m ρ <;> rfl
@[simp] theorem e_exK (o : O) : exK (.ok o ρ) = .ok .nx ρ := (rfl)
def rtK : Res O → Res Fl
  | .ok o ρ => .ok (.ret o) ρ
  | .exc x ρ => .exc x ρ
  | .no => .no
@[simp] theorem e_mRet (m : M O) : mRet m ρ = rtK (m ρ) := by unfold mRet rtK; cases m ρ <;> rfl
@[simp] theorem e_rtK (o : O) : rtK (.ok o ρ) = .ok (.ret o) ρ := (rfl)
def soK (i : Nat) : Res O → Res Fl
  | .ok o ρ => .ok .nx (ρ.set i (some o))
  | .exc x ρ => .exc x ρ
  | .no => .no
@[simp] theorem e_mSetO (i : Nat) (m : M O) : mSetO i m ρ = soK i (m ρ) := by unfold mSetO soK; cases m ρ <;> rfl
@[simp] theorem e_soK (i : Nat) (o : O) : soK i (.ok o ρ) = .ok .nx (ρ.set i (some o)) := (rfl)
def spK (i : Nat) : Res O → Res Fl
  | .ok o ρ => .ok .nx (ρ.set i (some (.val o.toD)))
  | .exc x ρ => .exc x ρ
  | .no => .no
@[simp] theorem e_mSetP (i : Nat) (m : M O) : mSetP i m ρ = spK i (m ρ) := by unfold mSetP spK; cases m ρ <;> rfl
@[simp] theorem e_spK (i : Nat) (o : O) : spK i (.ok o ρ) = .ok .nx (ρ.set i (some (.val o.toD))) := (rfl)
def asA (a : D → Env → Option Env) : Res O → Res Fl
  | .ok o ρ => match a o.toD ρ with
    | some ρ2 => .ok .nx ρ2
    | none => .no
  | .exc x ρ => .exc x ρ
  | .no => .no
def asB : Option Env → Res Fl
  | some ρ => .ok .nx ρ
  | none => .no
@[simp] theorem e_mAsg (a : D → Env → Option Env) (m : M O) : mAsg a m ρ = asA a (m ρ) := by unfold mAsg asA; cases m ρ <;> rfl
@[simp] theorem e_asA (a : D → Env → Option Env) (o : O) : asA a (.ok o ρ) = asB (a o.toD ρ) := by
  show (match a o.toD ρ with | some ρ2 => Res.ok Fl.nx ρ2 | none => .no) = _
  unfold asB; cases a o.toD ρ <;> rfl
@[simp] theorem e_asB : asB (some ρ) = .ok .nx ρ := (rfl)
@[simp] theorem e_aN (i : Nat) (d : D) : aN i d ρ = some (ρ.set i (some (.val d))) := (rfl)
@[simp] theorem e_aNil : aNil [] ρ = some ρ := (rfl)
def acK (as : List D → Env → Option Env) (ds : List D) : Option Env → Option Env
  | some ρ => as ds ρ
  | none => none
@[simp] theorem e_aCons (a : D → Env → Option Env) (as : List D → Env → Option Env) (d : D) (ds : List D) : aCons a as (d :: ds) ρ = acK as ds (a d ρ) := by
  show (a d ρ).bind (fun ρ1 => as ds ρ1) = _
  unfold acK; cases a d ρ <;> rfl
@[simp] theorem e_acK (as : List D → Env → Option Env) (ds : List D) : acK as ds (some ρ) = as ds ρ := (rfl)
@[simp] theorem e_aTup (as : List D → Env → Option Env) (ds : List D) : aTup as (.tup ds) ρ = as ds ρ := (rfl)
@[simp] theorem e_mWhile (fu : Env → Nat) (t : M Bool) (b : M Fl) : mWhile fu t b ρ = whileN t b (fu ρ) ρ := (rfl)
def foK (a : D → Env → Option Env) (b : M Fl) : Res (List D) → Res Fl
  | .ok ds ρ => forL a b ds ρ
  | .exc x ρ => .exc x ρ
  | .no => .no
@[simp] theorem e_mFor (m : M (List D)) (a : D → Env → Option Env) (b : M Fl) : mFor m a b ρ = foK a b (m ρ) := by unfold mFor foK; cases m ρ <;> rfl
@[simp] theorem e_foK (a : D → Env → Option Env) (b : M Fl) (ds : List D) : foK a b (.ok ds ρ) = forL a b ds ρ := (rfl)
def siC (i : Nat) (u b : O) (ρ : Env) : Option (Option O) → Res Fl
  | some (some a) => match setItO a b u with
    | some o => .ok .nx (ρ.set i (some o))
    | none => .no
  | _ => .no
def siB (i : Nat) (u : O) : Res O → Res Fl
  | .ok b ρ2 => siC i u b ρ2 (ρ2[i]?)
  | .exc x ρ => .exc x ρ
  | .no => .no
def siA' (i : Nat) (n : M O) (u : O) (ρ : Env) : Option (Option O) → Res Fl
  | some (some _) => siB i u (n ρ)
  | _ => .no
def siA (i : Nat) (n : M O) : Res O → Res Fl
  | .ok u ρ1 => siA' i n u ρ1 (ρ1[i]?)
  | .exc x ρ => .exc x ρ
  | .no => .no
@[simp] theorem e_mSetIt (i : Nat) (n m : M O) : mSetIt i n m ρ = siA i n (m ρ) := by
  unfold mSetIt siA
  cases m ρ with
  | ok u ρ1 =>
    show (match ρ1[i]? with | some (some _) => _ | _ => Res.no) = siA' i n u ρ1 (ρ1[i]?)
    unfold siA'
    cases ρ1[i]? with
    | none => rfl
    | some q =>
      cases q with
      | none => rfl
      | some _ =>
        unfold siB
        cases n ρ1 <;> rfl
  | exc _ _ => rfl
  | no => rfl
@[simp] theorem e_siA (i : Nat) (n : M O) (u : O) : siA i n (.ok u ρ) = siA' i n u ρ (ρ[i]?) := (rfl)
@[simp] theorem e_siA' (i : Nat) (n : M O) (u o : O) : siA' i n u ρ (some (some o)) = siB i u (n ρ) := (rfl)
@[simp] theorem e_siB (i : Nat) (u b : O) : siB i u (.ok b ρ) = siC i u b ρ (ρ[i]?) := (rfl)
def siD (i : Nat) (ρ : Env) : Option O → Res Fl
  | some o => .ok .nx (ρ.set i (some o))
  | none => .no
@[simp] theorem e_siC (i : Nat) (u b a : O) : siC i u b ρ (some (some a)) = siD i ρ (setItO a b u) := by
  show (match setItO a b u with | some o => Res.ok Fl.nx (ρ.set i (some o)) | none => .no) = _
  unfold siD; cases setItO a b u <;> rfl
@[simp] theorem e_siD (i : Nat) (o : O) : siD i ρ (some o) = .ok .nx (ρ.set i (some o)) := (rfl)
def apC (i : Nat) (o : O) (ρ : Env) : Option (Option O) → Res O
  | some (some (.lst os)) => if os.length < 1000000 then .ok (.val .non) (ρ.set i (some (.lst (os ++ [o])))) else .no
  | _ => .no
def apB (i : Nat) : Res O → Res O
  | .ok o ρ => apC i o ρ (ρ[i]?)
  | .exc x ρ => .exc x ρ
  | .no => .no
def apA (i : Nat) (m : M O) (ρ : Env) : Option (Option O) → Res O
  | some (some (.lst _)) => apB i (m ρ)
  | _ => .no
@[simp] theorem e_mAppend (i : Nat) (m : M O) : mAppend i m ρ = apA i m ρ (ρ[i]?) := by
  unfold mAppend apA
  cases ρ[i]? with
  | none => rfl
  | some q =>
    cases q with
    | none => rfl
    | some o =>
      cases o with
      | lst os =>
        unfold apB
        cases m ρ <;> rfl
      | _ => rfl
@[simp] theorem e_apA (i : Nat) (m : M O) (os : List O) : apA i m ρ (some (some (.lst os))) = apB i (m ρ) := (rfl)
@[simp] theorem e_apB (i : Nat) (o : O) : apB i (.ok o ρ) = apC i o ρ (ρ[i]?) := (rfl)
@[simp] theorem e_apC (i : Nat) (o : O) (os : List O) (h : os.length < 1000000) : apC i o ρ (some (some (.lst os))) = .ok (.val .non) (ρ.set i (some (.lst (os ++ [o])))) := by unfold apC; simp [h]
def caC (as : List Arg) (ρ : Env) : Option (O × Env) → Res O
  | some q => .ok q.1 (giveA as q.2 ρ)
  | none => .no
def caB (F : FSem) (as : List Arg) : Option (List O × Env) → Res O
  | some r => caC as r.2 (F r.1)
  | none => .no
def caA (F : FSem) (as : List Arg) : Res (List (Option O)) → Res O
  | .ok os ρ => caB F as (takeA as os ρ)
  | .exc x ρ => .exc x ρ
  | .no => .no
@[simp] theorem e_mCall (F : FSem) (as : List Arg) : mCall F as ρ = caA F as (evA as ρ) := by
  unfold mCall caA
  cases evA as ρ with
  | ok os ρ1 =>
    show (match takeA as os ρ1 with | none => Res.no | some r => match F r.1 with | none => .no | some q => .ok q.1 (giveA as q.2 r.2)) = caB F as (takeA as os ρ1)
    unfold caB
    cases takeA as os ρ1 with
    | none => rfl
    | some r =>
      show (match F r.1 with | none => Res.no | some q => .ok q.1 (giveA as q.2 r.2)) = caC as r.2 (F r.1)
      unfold caC
      cases F r.1 <;> rfl
  | exc _ _ => rfl
  | no => rfl
@[simp] theorem e_caA (F : FSem) (as : List Arg) (os : List (Option O)) : caA F as (.ok os ρ) = caB F as (takeA as os ρ) := (rfl)
@[simp] theorem e_caB (F : FSem) (as : List Arg) (os : List O) : caB F as (some (os, ρ)) = caC as ρ (F os) := (rfl)
@[simp] theorem e_caC (as : List Arg) (o : O) (ρc : Env) : caC as ρ (some (o, ρc)) = .ok o (giveA as ρc ρ) := (rfl)
@[simp] theorem e_evA0 : evA [] ρ = .ok [] ρ := (rfl)
def evB (o : O) : Res (List (Option O)) → Res (List (Option O))
  | .ok os ρ => .ok (some o :: os) ρ
  | .exc x ρ => .exc x ρ
  | .no => .no
def evC (as : List Arg) : Res O → Res (List (Option O))
  | .ok o ρ => evB o (evA as ρ)
  | .exc x ρ => .exc x ρ
  | .no => .no
@[simp] theorem e_evAv (m : M O) (as : List Arg) : evA (.v m :: as) ρ = evC as (m ρ) := by
  show (m ρ).bind (fun o ρ1 => (evA as ρ1).bind fun os ρ2 => .ok (some o :: os) ρ2) = _
  unfold evC
  cases m ρ with
  | ok o ρ1 => show (evA as ρ1).bind _ = evB o (evA as ρ1); unfold evB; cases evA as ρ1 <;> rfl
  | exc _ _ => rfl
  | no => rfl
@[simp] theorem e_evC (as : List Arg) (o : O) : evC as (.ok o ρ) = evB o (evA as ρ) := (rfl)
@[simp] theorem e_evB (os : List (Option O)) (o : O) : evB o (.ok os ρ) = .ok (some o :: os) ρ := (rfl)
def evD : Res (List (Option O)) → Res (List (Option O))
  | .ok os ρ => .ok (none :: os) ρ
  | .exc x ρ => .exc x ρ
  | .no => .no
def evE (as : List Arg) (ρ : Env) : Option (Option O) → Res (List (Option O))
  | some (some _) => evD (evA as ρ)
  | _ => .no
@[simp] theorem e_evAi (i : Nat) (as : List Arg) : evA (.io i :: as) ρ = evE as ρ (ρ[i]?) := by
  show (match ρ[i]? with | some (some _) => (evA as ρ).bind fun os ρ2 => .ok (none :: os) ρ2 | _ => .no) = _
  unfold evE
  cases ρ[i]? with
  | none => rfl
  | some q =>
    cases q with
    | none => rfl
    | some o => show (evA as ρ).bind _ = evD (evA as ρ); unfold evD; cases evA as ρ <;> rfl
@[simp] theorem e_evE (as : List Arg) (o : O) : evE as ρ (some (some o)) = evD (evA as ρ) := (rfl)
@[simp] theorem e_evD (os : List (Option O)) : evD (.ok os ρ) = .ok (none :: os) ρ := (rfl)
@[simp] theorem e_tk0 : takeA [] [] ρ = some ([], ρ) := (rfl)
def tkK (o : O) : Option (List O × Env) → Option (List O × Env)
  | some r => some (o :: r.1, r.2)
  | none => none
@[simp] theorem e_tkv (m : M O) (as : List Arg) (o : O) (os : List (Option O)) : takeA (.v m :: as) (some o :: os) ρ = tkK o (takeA as os ρ) := by
  show (takeA as os ρ).map (fun r : List O × Env => (o :: r.1, r.2)) = tkK o (takeA as os ρ)
  unfold tkK; cases takeA as os ρ <;> rfl
@[simp] theorem e_tkK (o : O) (os : List O) : tkK o (some (os, ρ)) = some (o :: os, ρ) := (rfl)
def tkI (i : Nat) (as : List Arg) (os : List (Option O)) (ρ : Env) : Option (Option O) → Option (List O × Env)
  | some (some o) => tkK o (takeA as os (ρ.set i none))
  | _ => none
@[simp] theorem e_tki (i : Nat) (as : List Arg) (os : List (Option O)) : takeA (.io i :: as) (none :: os) ρ = tkI i as os ρ (ρ[i]?) := by
  show (match ρ[i]? with
    | some (some o) => (takeA as os (ρ.set i none)).map fun r : List O × Env => (o :: r.1, r.2)
    | _ => none) = tkI i as os ρ (ρ[i]?)
  unfold tkI
  cases ρ[i]? with
  | none => rfl
  | some q =>
    cases q with
    | none => rfl
    | some o =>
      show (takeA as os (ρ.set i none)).map (fun r => (o :: r.1, r.2)) = tkK o (takeA as os (ρ.set i none))
      unfold tkK
      cases takeA as os (ρ.set i none) <;> rfl
@[simp] theorem e_tkI (i : Nat) (as : List Arg) (os : List (Option O)) (o : O) : tkI i as os ρ (some (some o)) = tkK o (takeA as os (ρ.set i none)) := (rfl)
@[simp] theorem e_gv0 (ρc : Env) : giveA [] ρc ρ = ρ := by cases ρc <;> rfl
@[simp] theorem e_gvv (m : M O) (as : List Arg) (u : Option O) (ρc : Env) : giveA (.v m :: as) (u :: ρc) ρ = giveA as ρc ρ := (rfl)
@[simp] theorem e_gvi (i : Nat) (as : List Arg) (o : O) (ρc : Env) : giveA (.io i :: as) (some o :: ρc) ρ = giveA as ρc (ρ.set i (some o)) := (rfl)
@[simp] theorem e_gvn (i : Nat) (as : List Arg) (ρc : Env) : giveA (.io i :: as) (none :: ρc) ρ = giveA as ρc ρ := (rfl)
-- iterables
def itB (ρ : Env) : Option (List D) → Res (List D)
  | some ds => .ok ds ρ
  | none => .no
def itA : Res O → Res (List D)
  | .ok o ρ => itB ρ o.toD.items?
  | .exc x ρ => .exc x ρ
  | .no => .no
@[simp] theorem e_mI (m : M O) : mI m ρ = itA (m ρ) := by
  unfold mI itA
  cases m ρ with
  | ok o ρ1 =>
    show (match o.toD.items? with | some ds => Res.ok ds ρ1 | none => .no) = itB ρ1 o.toD.items?
    unfold itB; cases o.toD.items? <;> rfl
  | exc _ _ => rfl
  | no => rfl
@[simp] theorem e_itA (o : O) : itA (.ok o ρ) = itB ρ o.toD.items? := (rfl)
@[simp] theorem e_itB (ds : List D) : itB ρ (some ds) = .ok ds ρ := (rfl)
@[simp] theorem e_mTrue : mTrue ρ = .ok true ρ := (rfl)
def r1K : Res O → Res (List D)
  | .ok (.val (.int j)) ρ => if small j = true then .ok (rangeL 0 j.toNat) ρ else .no
  | .ok _ _ => .no
  | .exc x ρ => .exc x ρ
  | .no => .no
@[simp] theorem e_mR1 (m : M O) : mR1 m ρ = r1K (m ρ) := by
  unfold r1K mR1
  cases m ρ with
  | ok o ρ1 =>
    cases o with
    | val d => cases d <;> rfl
    | lst _ => rfl
    | dct _ _ => rfl
    | ins _ _ _ => rfl
  | exc _ _ => rfl
  | no => rfl
@[simp] theorem e_r1K (j : Int) (h : small j = true) : r1K (.ok (.val (.int j)) ρ) = .ok (rangeL 0 j.toNat) ρ := by unfold r1K; simp [h]
-- values
@[simp] theorem e_lift2 (f : D → D → Option D) (x y : D) : lift2 f (.val x) (.val y) = (f x y).map O.val := (rfl)
@[simp] theorem e_add (i j : Int) : addD (.int i) (.int j) = some (.int (i + j)) := (rfl)
@[simp] theorem e_sub (i j : Int) : subD (.int i) (.int j) = some (.int (i - j)) := (rfl)
@[simp] theorem e_lt (i j : Int) : ltD (.int i) (.int j) = some (.bl (decide (i < j))) := (rfl)
@[simp] theorem e_le (i j : Int) : leD (.int i) (.int j) = some (.bl (decide (i ≤ j))) := (rfl)
@[simp] theorem e_gt (i j : Int) : gtD (.int i) (.int j) = some (.bl (decide (j < i))) := (rfl)
@[simp] theorem e_ge (i j : Int) : geD (.int i) (.int j) = some (.bl (decide (j ≤ i))) := (rfl)
theorem e_mod {i j : Int} (h : 0 < j) : modD (.int i) (.int j) = some (.int (i % j)) := by unfold modD; simp [h]
theorem e_fdiv {i j : Int} (h : 0 < j) (h2 : j.natAbs.log2 < 9000) : fdivD (.int i) (.int j) = some (.int (i / j)) := by unfold fdivD; simp [h, h2]
theorem e_pow {i j : Int} (h : 0 ≤ j) (h2 : j ≤ 1000000) (h3 : i.natAbs < 2 ^ 64) : powD (.int i) (.int j) = some (.int (i ^ j.toNat)) := by unfold powD; simp [h, h2, h3]
@[simp] theorem e_toD_val (d : D) : (O.val d).toD = d := (rfl)
@[simp] theorem e_toD_lst (os : List O) : (O.lst os).toD = .lst (O.toDs os) := (rfl)
@[simp] theorem e_toDs0 : O.toDs [] = [] := (rfl)
@[simp] theorem e_toDs1 (o : O) (os : List O) : O.toDs (o :: os) = o.toD :: O.toDs os := (rfl)
@[simp] theorem e_toDsv (ds : List D) : O.toDs (ds.map O.val) = ds := toDs_vals ds
@[simp] theorem e_negO (i : Int) : negO (.val (.int i)) = some (.val (.int (-i))) := (rfl)
@[simp] theorem e_items_l (ds : List D) : (D.lst ds).items? = some ds := (rfl)
@[simp] theorem e_items_t (ds : List D) : (D.tup ds).items? = some ds := (rfl)
@[simp] theorem e_items_s (ns : List Int) : (D.scr ns).items? = some (ns.map D.int) := (rfl)

def endF (n : Nat) (P : List Nat) : Res Fl → Option (O × Env)
  | .ok .nx ρ' => some (.val .non, maskE n P ρ')
  | .ok (.ret o) ρ' => some (o, maskE n P ρ')
  | _ => none
theorem runF_eq (n N : Nat) (P : List Nat) (b : M Fl) (os : List O) : runF n N P b os = endF n P (b (os.map some ++ List.replicate (N - os.length) none)) := by
  unfold runF endF
  rfl
@[simp] theorem e_endR (n : Nat) (P : List Nat) (o : O) : endF n P (.ok (.ret o) ρ) = some (o, maskE n P ρ) := (rfl)
@[simp] theorem e_endN (n : Nat) (P : List Nat) : endF n P (.ok .nx ρ) = some (.val .non, maskE n P ρ) := (rfl)

/-! ### loops -/
theorem forL_inv {a : D → Env → Option Env} {b : M Fl} {ds : List D} (I : Nat → Env → Prop) {ρ : Env} (h0 : I 0 ρ) (hs : ∀ i d ρ, ds[i]? = some d → I i ρ → ∃ ρ1 ρ2, a d ρ = some ρ1 ∧ (b ρ1 = .ok .nx ρ2 ∨ b ρ1 = .ok .ct ρ2) ∧ I (i + 1) ρ2) :
    ∃ ρ', forL a b ds ρ = .ok .nx ρ' ∧ I ds.length ρ' := by
  induction ds generalizing I ρ with
  | nil => exact ⟨ρ, rfl, h0⟩
  | cons d ds ih =>
    obtain ⟨ρ1, ρ2, e1, e2, h1⟩ := hs 0 d ρ rfl h0
    obtain ⟨ρ', e3, h3⟩ := ih (fun i => I (i + 1)) h1 fun i d ρ h => hs (i + 1) d ρ (by simpa using h)
    refine ⟨ρ', ?_, by simpa using h3⟩
    unfold forL
    rw [e1]
    rcases e2 with e2 | e2 <;> simp only [e2, Res.bind_ok] <;> exact e3
end FB

/-! Plain facts of data: equality, slices, places. -/
namespace FB
open PySem PySem.Spec L2
open PyProof.Rows hiding St

@[simp] theorem eqv_int (i j : Int) : D.eqv (.int i) (.int j) = decide (i = j) := by
  unfold D.eqv D.pd; simp only [PyData.eqv]; first | rfl | (simp; done) | (by_cases h : i = j <;> simp [h])
def eqvs (xs ys : List D) : Bool := PyData.eqvAll (D.pds xs) (D.pds ys)
@[simp] theorem eqv_lst (xs ys : List D) : D.eqv (.lst xs) (.lst ys) = eqvs xs ys := by unfold D.eqv D.pd eqvs; simp only [PyData.eqv]
@[simp] theorem eqv_tup (xs ys : List D) : D.eqv (.tup xs) (.tup ys) = eqvs xs ys := by unfold D.eqv D.pd eqvs; simp only [PyData.eqv]
@[simp] theorem eqvs_nn : eqvs [] [] = true := by unfold eqvs D.pds; simp only [PyData.eqvAll]
@[simp] theorem eqvs_nc (y : D) (ys : List D) : eqvs [] (y :: ys) = false := by unfold eqvs D.pds; simp only [PyData.eqvAll]
@[simp] theorem eqvs_cn (y : D) (ys : List D) : eqvs (y :: ys) [] = false := by unfold eqvs D.pds; simp only [PyData.eqvAll]
@[simp] theorem eqvs_cc (x y : D) (xs ys : List D) : eqvs (x :: xs) (y :: ys) = (D.eqv x y && eqvs xs ys) := by
  show PyData.eqvAll (x.pd :: D.pds xs) (y.pd :: D.pds ys) = _
  simp only [PyData.eqvAll]; rfl
@[simp] theorem eqvs_n (xs : List D) : eqvs xs [] = xs.isEmpty := by cases xs <;> simp
@[simp] theorem okE_int (n : Nat) (i : Int) : D.okE n (.int i) = true := by unfold D.okE; first | rfl | (cases n <;> rfl)
@[simp] theorem okE_bl (n : Nat) (i : Bool) : D.okE n (.bl i) = true := by unfold D.okE; first | rfl | (cases n <;> rfl)
@[simp] theorem okE_non (n : Nat) : D.okE n .non = true := by unfold D.okE; first | rfl | (cases n <;> rfl)
@[simp] theorem okE_str (n : Nat) (s : Str) : D.okE n (.str s) = true := by unfold D.okE; first | rfl | (cases n <;> rfl)
@[simp] theorem okE_lst (n : Nat) (xs : List D) : D.okE (n + 1) (.lst xs) = xs.all (D.okE n) := by rw [D.okE]
@[simp] theorem okE_tup (n : Nat) (xs : List D) : D.okE (n + 1) (.tup xs) = xs.all (D.okE n) := by rw [D.okE]
theorem e_eqO {a b : O} (ha : a.toD.okE 9 = true) (hb : b.toD.okE 9 = true) : eqO a b = some (.val (.bl (a.toD.eqv b.toD))) := by unfold eqO; simp [ha, hb]
theorem e_neO {a b : O} (ha : a.toD.okE 9 = true) (hb : b.toD.okE 9 = true) : neO a b = some (.val (.bl (!a.toD.eqv b.toD))) := by unfold neO; simp [ha, hb]
@[simp] theorem eqO_int (i j : Int) : eqO (.val (.int i)) (.val (.int j)) = some (.val (.bl (decide (i = j)))) := by rw [e_eqO (by simp) (by simp)]; simp
@[simp] theorem neO_int (i j : Int) : neO (.val (.int i)) (.val (.int j)) = some (.val (.bl (!decide (i = j)))) := by rw [e_neO (by simp) (by simp)]; simp
theorem cut_to {α : Type} (xs : List α) (n : Nat) : cutL xs none (some (n : Int)) = xs.take n := by
  unfold cutL
  rw [HT.sIx_none, HT.sIx_nat]
  simp [List.take_eq_take_iff]
theorem cut_from {α : Type} (xs : List α) (n : Nat) : cutL xs (some (n : Int)) none = xs.drop n := by
  unfold cutL
  rw [HT.sIx_none, HT.sIx_nat]
  rw [List.take_of_length_le (by simp)]
  by_cases h : n ≤ xs.length
  · rw [Nat.min_eq_left h]
  · rw [Nat.min_eq_right (by omega), List.drop_length, List.drop_of_length_le (by omega)]
@[simp] theorem slO_val_lst (ds : List D) (lo hi : Option Int) : slO (.val (.lst ds)) lo hi = some (.val (.lst (cutL ds lo hi))) := (rfl)
@[simp] theorem slO_val_tup (ds : List D) (lo hi : Option Int) : slO (.val (.tup ds)) lo hi = some (.val (.tup (cutL ds lo hi))) := (rfl)
@[simp] theorem slO_val_scr (ns : List Int) (lo hi : Option Int) : slO (.val (.scr ns)) lo hi = some (.val (.lst ((cutL ns lo hi).map D.int))) := (rfl)
@[simp] theorem listO_lst (ds : List D) : listO (.val (.lst ds)) = some (.val (.lst ds)) := by first | rfl | (unfold listO; simp)
@[simp] theorem ixO_lst (os : List O) (i : Int) : ixO (.lst os) (.val (.int i)) = atI os i := (rfl)
@[simp] theorem ixO_vlst (ds : List D) (i : Int) : ixO (.val (.lst ds)) (.val (.int i)) = (atI ds i).map O.val := (rfl)
@[simp] theorem ixO_vtup (ds : List D) (i : Int) : ixO (.val (.tup ds)) (.val (.int i)) = (atI ds i).map O.val := (rfl)
@[simp] theorem atI_0 {α : Type} (x : α) (xs : List α) : atI (x :: xs) 0 = some x := by unfold atI ixN; simp
theorem atN {α : Type} (xs : List α) (i : Nat) : atI xs (i : Int) = xs[i]? := by
  unfold atI ixN
  by_cases h : i < xs.length
  · simp [h]
  · simp [h]
@[simp] theorem atI_1 {α : Type} (x y : α) (xs : List α) : atI (x :: y :: xs) 1 = some y := by rw [show (1 : Int) = ((1 : Nat) : Int) from rfl, atN]; rfl
@[simp] theorem atI_2 {α : Type} (x y z : α) (xs : List α) : atI (x :: y :: z :: xs) 2 = some z := by rw [show (2 : Int) = ((2 : Nat) : Int) from rfl, atN]; rfl
theorem atI_last {α : Type} (xs : List α) (x : α) : atI (xs ++ [x]) (-1) = some x := by
  unfold atI ixN
  rw [if_neg (by omega), if_pos (by simp; omega)]
  have e : ((-1 : Int) + ((xs ++ [x]).length : Nat)).toNat = xs.length := by simp; omega
  show (xs ++ [x])[((-1 : Int) + ((xs ++ [x]).length : Nat)).toNat]? = some x
  rw [e]
  simp
@[simp] theorem setItO_lst (os : List O) (i : Nat) (u : O) (h : i < os.length) : setItO (.lst os) (.val (.int (i : Int))) u = some (.lst (os.set i u)) := by
  unfold setItO ixN
  simp [h]
@[simp] theorem setItO_0 (a : O) (os : List O) (u : O) : setItO (.lst (a :: os)) (.val (.int 0)) u = some (.lst (u :: os)) := setItO_lst (a :: os) 0 u (by simp)
@[simp] theorem setItO_1 (a b : O) (os : List O) (u : O) : setItO (.lst (a :: b :: os)) (.val (.int 1)) u = some (.lst (a :: u :: os)) := setItO_lst (a :: b :: os) 1 u (by simp)
@[simp] theorem setItO_2 (a b c : O) (os : List O) (u : O) : setItO (.lst (a :: b :: c :: os)) (.val (.int 2)) u = some (.lst (a :: b :: u :: os)) := setItO_lst (a :: b :: c :: os) 2 u (by simp)
def coK2 (own : List Nat) (ρ1 : Env) : Res (List O) → Res O
  | .ok os ρ2 => .ok (.lst os) (backE (wipeE ρ2 own) ρ1 own)
  | .exc x ρ => .exc x ρ
  | .no => .no
def coK (own : List Nat) (a : D → Env → Option Env) (t : M Bool) (e : M O) : Res (List D) → Res O
  | .ok ds ρ1 => if ds.length ≤ 1000000 then coK2 own ρ1 (compL own a t e ds (wipeE ρ1 own)) else .no
  | .exc x ρ => .exc x ρ
  | .no => .no
variable {ρ : Env}
@[simp] theorem e_mComp (it : M (List D)) (own : List Nat) (a : D → Env → Option Env) (t : M Bool) (e : M O) : mComp it own a t e ρ = coK own a t e (it ρ) := by
  unfold mComp coK
  cases it ρ with
  | ok ds ρ1 =>
    show (if ds.length ≤ 1000000 then (compL own a t e ds (wipeE ρ1 own)).bind _ else Res.no) = if ds.length ≤ 1000000 then coK2 own ρ1 (compL own a t e ds (wipeE ρ1 own)) else Res.no
    unfold coK2
    cases compL own a t e ds (wipeE ρ1 own) <;> rfl
  | exc _ _ => rfl
  | no => rfl
@[simp] theorem e_coK (own : List Nat) (a : D → Env → Option Env) (t : M Bool) (e : M O) (ds : List D) (h : ds.length ≤ 1000000) : coK own a t e (.ok ds ρ) = coK2 own ρ (compL own a t e ds (wipeE ρ own)) := by unfold coK; simp [h]
@[simp] theorem e_coK2 (own : List Nat) (os : List O) (ρ1 : Env) : coK2 own ρ1 (.ok os ρ) = .ok (.lst os) (backE (wipeE ρ own) ρ1 own) := (rfl)
@[simp] theorem e_wipe0 : wipeE ρ [] = ρ := (rfl)
@[simp] theorem e_wipe1 (v : Nat) (vs : List Nat) : wipeE ρ (v :: vs) = (wipeE ρ vs).set v none := (rfl)
def bkK (v : Nat) (ρ : Env) : Option (Option O) → Env
  | some (some o) => ρ.set v (some o)
  | _ => ρ
@[simp] theorem e_back0 (ρ2 : Env) : backE ρ2 ρ [] = ρ2 := (rfl)
@[simp] theorem e_back1 (ρ2 : Env) (v : Nat) (vs : List Nat) : backE ρ2 ρ (v :: vs) = bkK v (backE ρ2 ρ vs) ((wipeE ρ vs)[v]?) := by
  show (match (wipeE ρ vs)[v]? with | some (some o) => (backE ρ2 ρ vs).set v (some o) | _ => backE ρ2 ρ vs) = _
  unfold bkK; rfl
@[simp] theorem e_bkKs (v : Nat) (o : O) : bkK v ρ (some (some o)) = ρ.set v (some o) := (rfl)
@[simp] theorem e_bkKn (v : Nat) : bkK v ρ (some none) = ρ := (rfl)
@[simp] theorem e_bkKx (v : Nat) : bkK v ρ none = ρ := (rfl)
theorem bkK_eta (v : Nat) (c : Option O) (ρ : Env) (h : ρ[v]? = some none) : bkK v ρ (some c) = ρ.set v c := by
  cases c with
  | some o => rfl
  | none =>
    show ρ = _
    apply List.ext_getElem?
    intro j
    by_cases hj : v = j
    · subst hj
      have hl : v < ρ.length := (List.getElem?_eq_some_iff.mp h).1
      rw [h]; simp [hl]
    · rw [List.getElem?_set_ne hj]
theorem compL_of {α : Type} {own : List Nat} {a : D → Env → Option Env} {t : M Bool} {e : M O} (f : α → D) (c : α → Bool) (g : α → O) : ∀ {xs : List α},
    (∀ x ∈ xs, ∃ ρ1 ρ2, a (f x) ρ = some ρ1 ∧ t ρ1 = .ok (c x) ρ2 ∧ (c x = false → wipeE ρ2 own = ρ) ∧ (c x = true → ∃ ρ3, e ρ2 = .ok (g x) ρ3 ∧ wipeE ρ3 own = ρ)) → compL own a t e (xs.map f) ρ = .ok ((xs.filter c).map g) ρ
  | [], _ => rfl
  | d :: ds, h => by
    obtain ⟨ρ1, ρ2, e1, e2, h1, h2⟩ := h d (List.mem_cons_self ..)
    have ih := compL_of (own := own) (a := a) (t := t) (e := e) f c g (xs := ds) fun d hd => h d (List.mem_cons_of_mem _ hd)
    rw [List.map_cons]
    unfold compL
    rw [e1]
    simp only [e2, Res.bind_ok]
    cases hc : c d with
    | true =>
      obtain ⟨ρ3, e3, h3⟩ := h2 hc
      simp [e3, h3, ih, hc]
    | false => simp [h1 hc, ih, hc]
theorem compL_all {α : Type} {own : List Nat} {a : D → Env → Option Env} {t : M Bool} {e : M O} (f : α → D) (g : α → O) {xs : List α}
    (h : ∀ x ∈ xs, ∃ ρ1 ρ2 ρ3, a (f x) ρ = some ρ1 ∧ t ρ1 = .ok true ρ2 ∧ e ρ2 = .ok (g x) ρ3 ∧ wipeE ρ3 own = ρ) : compL own a t e (xs.map f) ρ = .ok (xs.map g) ρ := by
  have q := compL_of (own := own) (a := a) (t := t) (e := e) (ρ := ρ) f (fun _ => true) g (xs := xs) fun x hx => by
    obtain ⟨ρ1, ρ2, ρ3, e1, e2, e3, e4⟩ := h x hx
    refine ⟨ρ1, ρ2, e1, e2, ?_, fun _ => ⟨ρ3, e3, e4⟩⟩
    intro z
    exact absurd z (by simp)
  rw [q, List.filter_eq_self.mpr fun _ _ => rfl]
@[simp] theorem lenO_lst (os : List O) : lenO (.lst os) = some (.val (.int os.length)) := by first | rfl | (unfold lenO; simp)
@[simp] theorem lenO_vlst (os : List D) : lenO (.val (.lst os)) = some (.val (.int os.length)) := by first | rfl | (unfold lenO; simp)
@[simp] theorem lenO_vtup (os : List D) : lenO (.val (.tup os)) = some (.val (.int os.length)) := by first | rfl | (unfold lenO; simp)
@[simp] theorem lenO_scr (os : List Int) : lenO (.val (.scr os)) = some (.val (.int os.length)) := by first | rfl | (unfold lenO; simp)
@[simp] theorem addD_lst (xs ys : List D) (h : xs.length + ys.length ≤ 1000000) : addD (.lst xs) (.lst ys) = some (.lst (xs ++ ys)) := by unfold addD; simp [h]
@[simp] theorem lift2_lst (f : D → D → Option D) (xs : List D) (y : D) : lift2 f (.lst (xs.map O.val)) (.val y) = (f (.lst xs) y).map O.val := by unfold lift2; simp
@[simp] theorem tupO_lst (ds : List D) : tupO (.lst (ds.map O.val)) = some (.val (.tup ds)) := by unfold tupO; simp
@[simp] theorem tupO_vlst (ds : List D) : tupO (.val (.lst ds)) = some (.val (.tup ds)) := by unfold tupO; simp
theorem small_nat {n : Nat} (h : n ≤ 1000000) : small (n : Int) = true := by unfold small; simp; omega
@[simp] theorem isi_int_int (i : Int) : isiO "int" (.val (.int i)) = some (.val (.bl true)) := by rfl
@[simp] theorem isi_int_bool (i : Int) : isiO "bool" (.val (.int i)) = some (.val (.bl false)) := by rfl
@[simp] theorem isNO_int (i : Int) : isNO (.val (.int i)) (.val .non) = some (.val (.bl false)) := by rfl
@[simp] theorem isNO_non : isNO (.val .non) (.val .non) = some (.val (.bl true)) := by rfl
/-- an owned list of shared things -/
def vO (ds : List D) : O := .lst (ds.map O.val)
@[simp] theorem vO_sh (ds : List D) : (vO ds).sh = some (.lst ds) := O.sh_lst ds
@[simp] theorem vO_toD (ds : List D) : (vO ds).toD = .lst ds := by show D.lst (O.toDs _) = _; rw [toDs_vals]
@[simp] theorem vO_apA (i : Nat) (m : M O) (ds : List D) : apA i m ρ (some (some (vO ds))) = apB i (m ρ) := (rfl)
@[simp] theorem vO_apC (i : Nat) (d : D) (ds : List D) (h : ds.length < 1000000) : apC i (.val d) ρ (some (some (vO ds))) = .ok (.val .non) (ρ.set i (some (vO (ds ++ [d])))) := by
  unfold vO; rw [e_apC _ _ _ (by simpa using h)]; simp
@[simp] theorem vO_len (ds : List D) : lenO (vO ds) = some (.val (.int ds.length)) := by unfold vO; simp
@[simp] theorem vO_ix (ds : List D) (i : Int) : ixO (vO ds) (.val (.int i)) = (atI ds i).map O.val := by
  unfold vO; rw [ixO_lst]; unfold atI; simp; rfl
@[simp] theorem vO_lift2 (f : D → D → Option D) (ds : List D) (y : D) : lift2 f (vO ds) (.val y) = (f (.lst ds) y).map O.val := lift2_lst f ds y
@[simp] theorem vO_sl (ds : List D) (lo hi : Option Int) : slO (vO ds) lo hi = some (.val (.lst (cutL ds lo hi))) := by unfold slO; simp
@[simp] theorem vO_tup (ds : List D) : tupO (vO ds) = some (.val (.tup ds)) := tupO_lst ds
@[simp] theorem vO_list (ds : List D) : listO (vO ds) = some (.val (.lst ds)) := by unfold listO; simp
theorem vO_set (ds : List D) (i : Nat) (d : D) (h : i < ds.length) : setItO (vO ds) (.val (.int (i : Int))) (.val d) = some (vO (ds.set i d)) := by
  unfold vO; rw [setItO_lst _ _ _ (by simpa using h)]; simp
end FB

/-! Constants of the module; a new dict. -/
namespace FB
open PySem PySem.Spec L2
open PyProof.Rows hiding St

section
variable {X : Cx} {K : PySem.W.Frag} {mg : Str → Option Value}
theorem sp_gc {x : Str} {pos : Pos} {i : Int} (hg : Gl X x) (h : ∃ u, X.mg x = some u ∧ RelV (.int i) u) (hd : (x == ("__debug__" : Str)) = false := by decide) : SP X (.Name x pos) (pC (.int i)) := sp_c (C8.pe_gc hg h hd) fun _ => .int i
def mDict0 : M O := fun ρ => .ok (.dct [] []) ρ
theorem se_dict0 {pos : Pos} : SE X (.Dict [] [] pos) mDict0 := PE.imp pe_dnewK fun σ H Q w => by
  obtain ⟨ρ, T, o, ρ', c, R, e, k⟩ := w
  cases e
  intro p hp
  exact k _ _ c (Rep.closeD (kvs := []) (R.new hp) rfl ⟨rfl, List.nodup_nil⟩)
/-! a new list of its own, by list(..) -/
def UnW (K : PySem.W.Frag) (mg : Str → Option Value) (r : V → Hp → VK → Prop) (f : O → Option (List D)) : Prop :=
  ∀ (H : Hp) (L : List Item) (B : List (V × O)) (x : V) (ox : O) (ds : List D) (Q : VK), Rep K mg H L B → (x, ox) ∈ B → f ox = some ds → (∀ v H', Rep K mg H' (.ov v (.lst (ds.map O.val)) :: L) [] → Q v H') → r x H Q
def listW (a : O) : Option (List D) := match a.sh with
  | some (.lst ds) => some ds
  | some (.tup ds) => some ds
  | some (.scr ns) => some (ns.map D.int)
  | _ => none
theorem unw_list : UnW K mg (fun x H Q => ∃ p ys, [x] = [.ref p] ∧ (SqL K H p ys ∨ SqT K H p ys) ∧ ∀ l, H l = none → Q (.ref l) (upd H l (.lst ys))) listW := by
  intro H L B x ox ds Q R hx e k
  unfold listW at e
  split at e
  · rename_i ds e1
    cases e
    obtain ⟨p, vs, rfl, hp, lp, R1⟩ := R.shL hx e1
    exact ⟨p, vs, rfl, .inl (.inl hp), fun q hq => k _ _ (R1.nob.newL lp hq)⟩
  · rename_i ds e1
    cases e
    obtain ⟨p, vs, rfl, hp, lp, R1⟩ := R.shT hx e1
    exact ⟨p, vs, rfl, .inr hp, fun q hq => k _ _ (R1.nob.newL lp hq)⟩
  · rename_i ns e1
    cases e
    have q : Vw K mg H x (.scr ns) := R.sh hx e1
    cases q with
    | scr h => exact ⟨_, _, rfl, .inl h, fun q hq => k _ _ ((R.ints ns).nob.newL (by simp) hq)⟩
  · cases e
def mW (op : O → Option (List D)) (f : Pf) : M O := fun ρ => match (f ρ).bind op with
  | some ds => .ok (.lst (ds.map O.val)) ρ
  | none => .no
theorem tUn_w {r : V → Hp → VK → Prop} {op : O → Option (List D)} {f : Pf} (h : UnW K mg r op) (σ : L2.St) (H : Hp) (Q : VK) (q : tM K mg (mW op f) σ H Q) : tUn r (tP K mg f) σ H Q := by
  obtain ⟨ρ, T, o, ρ', c, R, e, k⟩ := q
  unfold mW at e
  cases e1 : f ρ with
  | none => rw [e1] at e; cases e
  | some a =>
    rw [e1] at e
    have e : (match op a with | some ds => Res.ok (O.lst (ds.map O.val)) ρ | none => .no) = .ok o ρ' := e
    cases e2 : op a with
    | none => rw [e2] at e; cases e
    | some ds =>
      rw [e2] at e
      cases e
      exact ⟨ρ, T, [], a, c, R, e1, fun x H1 s1 R1 => h H1 _ _ x a ds Q R1 (List.mem_cons_self ..) e2 fun v H' R' => k v H' c R'⟩
theorem se_tw {T : String} {x : Str} {a : Expr} {p pos : Pos} {f : Pf} {r : List V → Hp → VK → Prop} {op : O → Option (List D)} (hc : CallR X (.type T) r) (h : UnW X.K X.mg (fun x H Q => r [x] H Q) op) (hg : Gl X x) (hm : X.mg x = none) (hv : bootBuiltins x = some (.type T)) (ha : SP X a f)
    (hn : x ≠ "__name__" := by decide) (hdb : (x == ("__debug__" : Str)) = false := by decide) (hst : starEach (a :: []) X.env = (false, eval a X.env) :: starEach [] X.env := by rfl) (hpl : (backTo pos (starEach [] X.env)).any (·.1) = false := by rfl) :
    SE X (.Call (.Name x p) [a] [] pos) (mW op f) := PE.imp (pe_callTy hc hg hm hv (pa_cons ha pa_nil hst) hn hdb hst hpl) (tUn_w h)
@[simp] theorem e_mDict0 {ρ : Env} : mDict0 ρ = .ok (.dct [] []) ρ := (rfl)
theorem int_gl {h : Heap} {x : Str} {i : Int} (X : K.In h) (G : h.Ns mainGlobals mg) (c : (He.Fa.int x i).ok K = true) : ∃ u, mg x = some u ∧ RelV (.int i) u := by
  obtain ⟨t, e⟩ := He.int_ok X G c
  exact ⟨_, e, t, rfl⟩
end
end FB
namespace FB
open PySem PySem.Spec L2
variable {ρ : Env}
def chC (op' : O → O → Option O) (l : M O) (b : O) (ρ : Env) : Option O → Res O
  | some (.val (.bl c)) => if c = true then m2B op' b (l ρ) else .ok (.val (.bl false)) ρ
  | _ => .no
def chB (op op' : O → O → Option O) (l : M O) (a : O) : Res O → Res O
  | .ok b ρ => chC op' l b ρ (op a b)
  | .exc x ρ => .exc x ρ
  | .no => .no
def chA (op op' : O → O → Option O) (n l : M O) : Res O → Res O
  | .ok a ρ => chB op op' l a (n ρ)
  | .exc x ρ => .exc x ρ
  | .no => .no
@[simp] theorem e_mChain (op op' : O → O → Option O) (m n l : M O) : mChain op op' m n l ρ = chA op op' n l (m ρ) := by
  unfold mChain chA
  cases m ρ with
  | ok a ρ1 =>
    show (n ρ1).bind _ = chB op op' l a (n ρ1)
    unfold chB
    cases n ρ1 with
    | ok b ρ2 =>
      unfold chC
      simp only [Res.bind_ok]
      cases op a b with
      | none => rfl
      | some o =>
        cases o with
        | val d =>
          cases d with
          | bl c =>
            cases c with
            | true =>
              show (l ρ2).bind _ = m2B op' b (l ρ2)
              unfold m2B
              cases l ρ2 <;> rfl
            | false => rfl
          | _ => rfl
        | _ => rfl
    | exc _ _ => rfl
    | no => rfl
  | exc _ _ => rfl
  | no => rfl
@[simp] theorem e_chA (op op' : O → O → Option O) (n l : M O) (a : O) : chA op op' n l (.ok a ρ) = chB op op' l a (n ρ) := (rfl)
@[simp] theorem e_chB (op op' : O → O → Option O) (l : M O) (a b : O) : chB op op' l a (.ok b ρ) = chC op' l b ρ (op a b) := (rfl)
@[simp] theorem e_chC (op' : O → O → Option O) (l : M O) (b : O) (c : Bool) : chC op' l b ρ (some (.val (.bl c))) = if c = true then m2B op' b (l ρ) else .ok (.val (.bl false)) ρ := (rfl)
@[simp] theorem intO_bl (b : Bool) : intO (.val (.bl b)) = some (.val (.int (if b = true then 1 else 0))) := by cases b <;> rfl
@[simp] theorem intO_int (i : Int) : intO (.val (.int i)) = some (.val (.int i)) := (rfl)
@[simp] theorem eqv_bl (a b : Bool) : D.eqv (.bl a) (.bl b) = (a == b) := by cases a <;> cases b <;> (unfold D.eqv D.pd; simp [PyData.eqv])
@[simp] theorem eqO_bl (a b : Bool) : eqO (.val (.bl a)) (.val (.bl b)) = some (.val (.bl (a == b))) := by rw [e_eqO (by simp) (by simp)]; simp
@[simp] theorem isi_bool_non  : isiO "bool" (.val .non) = some (.val (.bl false)) := by rfl
@[simp] theorem isi_bool_bl (x : Bool) : isiO "bool" (.val (.bl x)) = some (.val (.bl true)) := by rfl
@[simp] theorem isi_bool_str (x : Str) : isiO "bool" (.val (.str x)) = some (.val (.bl false)) := by rfl
@[simp] theorem isi_bool_tup (x : List D) : isiO "bool" (.val (.tup x)) = some (.val (.bl false)) := by rfl
@[simp] theorem isi_bool_lst (x : List D) : isiO "bool" (.val (.lst x)) = some (.val (.bl false)) := by rfl
@[simp] theorem isi_bool_dct (k : List Key) (x : List D) : isiO "bool" (.val (.dct k x)) = some (.val (.bl false)) := by rfl
@[simp] theorem isi_int_non  : isiO "int" (.val .non) = some (.val (.bl false)) := by rfl
@[simp] theorem isi_int_bl (x : Bool) : isiO "int" (.val (.bl x)) = some (.val (.bl true)) := by rfl
@[simp] theorem isi_int_str (x : Str) : isiO "int" (.val (.str x)) = some (.val (.bl false)) := by rfl
@[simp] theorem isi_int_tup (x : List D) : isiO "int" (.val (.tup x)) = some (.val (.bl false)) := by rfl
@[simp] theorem isi_int_lst (x : List D) : isiO "int" (.val (.lst x)) = some (.val (.bl false)) := by rfl
@[simp] theorem isi_int_dct (k : List Key) (x : List D) : isiO "int" (.val (.dct k x)) = some (.val (.bl false)) := by rfl
@[simp] theorem isi_str_non  : isiO "str" (.val .non) = some (.val (.bl false)) := by rfl
@[simp] theorem isi_str_bl (x : Bool) : isiO "str" (.val (.bl x)) = some (.val (.bl false)) := by rfl
@[simp] theorem isi_str_int (x : Int) : isiO "str" (.val (.int x)) = some (.val (.bl false)) := by rfl
@[simp] theorem isi_str_str (x : Str) : isiO "str" (.val (.str x)) = some (.val (.bl true)) := by rfl
@[simp] theorem isi_str_tup (x : List D) : isiO "str" (.val (.tup x)) = some (.val (.bl false)) := by rfl
@[simp] theorem isi_str_lst (x : List D) : isiO "str" (.val (.lst x)) = some (.val (.bl false)) := by rfl
@[simp] theorem isi_str_dct (k : List Key) (x : List D) : isiO "str" (.val (.dct k x)) = some (.val (.bl false)) := by rfl
@[simp] theorem isi_tuple_non  : isiO "tuple" (.val .non) = some (.val (.bl false)) := by rfl
@[simp] theorem isi_tuple_bl (x : Bool) : isiO "tuple" (.val (.bl x)) = some (.val (.bl false)) := by rfl
@[simp] theorem isi_tuple_int (x : Int) : isiO "tuple" (.val (.int x)) = some (.val (.bl false)) := by rfl
@[simp] theorem isi_tuple_str (x : Str) : isiO "tuple" (.val (.str x)) = some (.val (.bl false)) := by rfl
@[simp] theorem isi_tuple_tup (x : List D) : isiO "tuple" (.val (.tup x)) = some (.val (.bl true)) := by rfl
@[simp] theorem isi_tuple_lst (x : List D) : isiO "tuple" (.val (.lst x)) = some (.val (.bl false)) := by rfl
@[simp] theorem isi_tuple_dct (k : List Key) (x : List D) : isiO "tuple" (.val (.dct k x)) = some (.val (.bl false)) := by rfl
@[simp] theorem isi_list_non  : isiO "list" (.val .non) = some (.val (.bl false)) := by rfl
@[simp] theorem isi_list_bl (x : Bool) : isiO "list" (.val (.bl x)) = some (.val (.bl false)) := by rfl
@[simp] theorem isi_list_int (x : Int) : isiO "list" (.val (.int x)) = some (.val (.bl false)) := by rfl
@[simp] theorem isi_list_str (x : Str) : isiO "list" (.val (.str x)) = some (.val (.bl false)) := by rfl
@[simp] theorem isi_list_tup (x : List D) : isiO "list" (.val (.tup x)) = some (.val (.bl false)) := by rfl
@[simp] theorem isi_list_lst (x : List D) : isiO "list" (.val (.lst x)) = some (.val (.bl true)) := by rfl
@[simp] theorem isi_list_dct (k : List Key) (x : List D) : isiO "list" (.val (.dct k x)) = some (.val (.bl false)) := by rfl
@[simp] theorem isi_dict_non  : isiO "dict" (.val .non) = some (.val (.bl false)) := by rfl
@[simp] theorem isi_dict_bl (x : Bool) : isiO "dict" (.val (.bl x)) = some (.val (.bl false)) := by rfl
@[simp] theorem isi_dict_int (x : Int) : isiO "dict" (.val (.int x)) = some (.val (.bl false)) := by rfl
@[simp] theorem isi_dict_str (x : Str) : isiO "dict" (.val (.str x)) = some (.val (.bl false)) := by rfl
@[simp] theorem isi_dict_tup (x : List D) : isiO "dict" (.val (.tup x)) = some (.val (.bl false)) := by rfl
@[simp] theorem isi_dict_lst (x : List D) : isiO "dict" (.val (.lst x)) = some (.val (.bl false)) := by rfl
@[simp] theorem isi_dict_dct (k : List Key) (x : List D) : isiO "dict" (.val (.dct k x)) = some (.val (.bl true)) := by rfl
theorem forL_find {α γ : Type} {a : D → Env → Option Env} {b : M Fl} {o : O} (E : γ → Env) (f : α → D) (p : α → Bool) : ∀ {xs : List α} (c : γ),
    (∀ x ∈ xs, ∀ c, ∃ ρ1, a (f x) (E c) = some ρ1 ∧ ((p x = true ∧ ∃ c', b ρ1 = .ok .nx (E c')) ∨ (p x = false ∧ ∃ ρ2, b ρ1 = .ok (.ret o) ρ2))) →
    (xs.all p = true ∧ ∃ c', forL a b (xs.map f) (E c) = .ok .nx (E c')) ∨ (xs.all p = false ∧ ∃ ρ2, forL a b (xs.map f) (E c) = .ok (.ret o) ρ2)
  | [], c, _ => .inl ⟨rfl, c, rfl⟩
  | x :: xs, c, h => by
    obtain ⟨ρ1, e1, q⟩ := h x (List.mem_cons_self ..) c
    rw [List.map_cons]
    unfold forL
    rw [e1]
    rcases q with ⟨hp, c', e2⟩ | ⟨hp, ρ2, e2⟩
    · simp only [e2, Res.bind_ok, List.all_cons, hp, Bool.true_and]
      exact forL_find E f p c' fun y hy => h y (List.mem_cons_of_mem _ hy)
    · simp only [e2, Res.bind_ok, List.all_cons, hp, Bool.false_and]
      exact .inr ⟨trivial, ρ2, rfl⟩
def wK (op : O → Option (List D)) (ρ : Env) : Option O → Res O
  | some a => match op a with
    | some ds => .ok (vO ds) ρ
    | none => .no
  | none => .no
def wK2 (ρ : Env) : Option (List D) → Res O
  | some ds => .ok (vO ds) ρ
  | none => .no
@[simp] theorem e_mW (op : O → Option (List D)) (f : Pf) : mW op f ρ = wK op ρ (f ρ) := by
  unfold mW wK
  cases f ρ with
  | none => rfl
  | some a => rfl
@[simp] theorem e_wK (op : O → Option (List D)) (a : O) : wK op ρ (some a) = wK2 ρ (op a) := (rfl)
@[simp] theorem e_wK2 (ds : List D) : wK2 ρ (some ds) = .ok (vO ds) ρ := (rfl)
@[simp] theorem listW_lst (ds : List D) : listW (.val (.lst ds)) = some ds := (rfl)
@[simp] theorem listW_tup (ds : List D) : listW (.val (.tup ds)) = some ds := (rfl)
@[simp] theorem listW_scr (ns : List Int) : listW (.val (.scr ns)) = some (ns.map D.int) := (rfl)
@[simp] theorem listW_vO (ds : List D) : listW (vO ds) = some ds := by unfold listW; simp
end FB

/-! Objects: attributes read and stored, methods, making. -/
namespace FB
open PySem PySem.Spec L2
open PyProof.Rows hiding St

section
variable {X : Cx} {K : PySem.W.Frag} {mg : Str → Option Value}
theorem CO.eq {c : Str} {C C' : Addr} {fs : List Str} (co : CO K mg c C fs) (h : mg c = some (.ref C')) : C' = C := by
  have := co.mgc.symm.trans h
  injection this with this
  injection this with this
  exact this.symm
def fidx : List Str → Str → Option Nat
  | [], _ => none
  | g :: gs, f => if g = f then some 0 else (fidx gs f).map (· + 1)
theorem fidx_look : ∀ {fs : List (Str × V)} {f : Str} {j : Nat}, fidx (fs.map (·.1)) f = some j → ∃ v, fs.lookup f = some v ∧ (fs.map (·.2))[j]? = some v
  | [], f, j, h => by cases h
  | (g, v) :: fs, f, j, h => by
    have h : (if g = f then some 0 else (fidx (fs.map (·.1)) f).map (· + 1)) = some j := h
    by_cases e : g = f
    · rw [if_pos e] at h
      cases h
      subst e
      exact ⟨v, by simp [List.lookup], rfl⟩
    · rw [if_neg e] at h
      cases q : fidx (fs.map (·.1)) f with
      | none => rw [q] at h; cases h
      | some i =>
        rw [q] at h
        cases h
        obtain ⟨w, h1, h2⟩ := fidx_look q
        refine ⟨w, ?_, by simpa using h2⟩
        have : (f == g) = false := beq_eq_false_iff_ne.mpr (Ne.symm e)
        simp [List.lookup, this, h1]
theorem VOs.sub {G H : Hp} : ∀ {vs : List V} {os : List O} {as : List Addr} {j : Nat} {v : V} {o : O}, VOs K mg G H vs os as → os[j]? = some o → vs[j]? = some v → ∃ bs, VO K mg G H v o bs ∧ ∀ a ∈ bs, a ∈ as
  | [], os, as, j, v, o, t, h1, h2 => by simp at h2
  | w :: vs, os, as, j, v, o, t, h1, h2 => by
    cases t with
    | cons t r =>
      cases j with
      | zero =>
        simp at h1 h2
        subst h1 h2
        exact ⟨_, t, fun a ha => by simp [ha]⟩
      | succ j =>
        obtain ⟨bs, q1, q2⟩ := VOs.sub r (by simpa using h1) (by simpa using h2)
        exact ⟨bs, q1, fun a ha => by simp [q2 a ha]⟩
/-! stored -/
end
end FB

/-! Methods called, objects made. -/
namespace FB
open PySem PySem.Spec L2
open PyProof.Rows hiding St

section
variable {P : Program} {w : World} {K : PySem.W.Frag} {mg : Str → Option Value} {base : Heap}
end

section
variable {X : Cx} {K : PySem.W.Frag} {mg : Str → Option Value}
/-! o.m(..), o a name -/
/-! C(..) -/
end
end FB

/-! self.f[k] = e; self.f[k] += e. -/
namespace FB
open PySem PySem.Spec L2
open PyProof.Rows hiding St

section
variable {X : Cx} {K : PySem.W.Frag} {mg : Str → Option Value}
end
end FB

/-! Rules for simp: objects. -/
namespace FB
open PySem PySem.Spec L2
open PyProof.Rows hiding St
variable {ρ : Env}
end FB

/-! A loop over an own list that stands meanwhile; isinstance as a reading. -/
namespace FB
open PySem PySem.Spec L2
open PyProof.Rows hiding St

section
variable {X : Cx} {K : PySem.W.Frag} {mg : Str → Option Value}
theorem sp_isi (T : String) {x : Str} {a : Expr} {p q pos : Pos} {f : Pf} (hg : Gl X "isinstance") (hm : X.mg "isinstance" = none) (hgT : Gl X x) (hmT : X.mg x = none) (hvT : bootBuiltins x = some (.type T)) (ha : SP X a f) (hT : T ∈ ["bool", "int", "str", "tuple", "list", "dict"] := by decide)
    (hn : x ≠ "__name__" := by decide) (hdb : (x == ("__debug__" : Str)) = false := by decide) (hst : starEach (a :: [.Name x q]) X.env = (false, eval a X.env) :: starEach [.Name x q] X.env := by rfl) (hst2 : starEach (.Name x q :: []) X.env = (false, eval (.Name x q) X.env) :: starEach [] X.env := by rfl) (hpl : (backTo pos (starEach [.Name x q] X.env)).any (·.1) = false := by rfl) :
    SP X (.Call (.Name "isinstance" p) [a, .Name x q] [] pos) (p1 (isiO T) f) :=
  PE.imp (pe_callB call_isi hg hm boot_isinstance (pa_cons ha (pa_cons (pe_bltn (v := .ty T) hgT hmT hvT rfl hn hdb) pa_nil hst2) hst) (by decide) (by decide) hst hpl) (tUn_p (unv_isi hT))
theorem Fix.less {i : Nat} {P : List Nat} {σ σ' : L2.St} (h : Fix (i :: P) σ σ') : Fix P σ σ' := ⟨h.1, fun j hj => h.2 j (List.mem_cons_of_mem _ hj)⟩
/-- an argument is shared from now on -/
def mFz (m : M O) : M O := fun ρ => (m ρ).bind fun o ρ1 => .ok (.val o.toD) ρ1
theorem se_fz {e : Expr} {m : M O} (h : SE X e m) : SE X e (mFz m) := PE.imp h fun σ H Q w => by
  obtain ⟨ρ, T, o, ρ', c, R, e, k⟩ := w
  obtain ⟨a, ρ1, e1, e⟩ := Res.bind_eq e
  cases e
  exact ⟨ρ, T, a, _, c, R, e1, fun v H' c' R' => k v H' c' R'.frz⟩
end
def fzK : Res O → Res O
  | .ok o ρ => .ok (.val o.toD) ρ
  | .exc x ρ => .exc x ρ
  | .no => .no
@[simp] theorem e_mFz {ρ : Env} (m : M O) : mFz m ρ = fzK (m ρ) := by unfold mFz fzK; cases m ρ <;> rfl
@[simp] theorem e_fzK {ρ : Env} (o : O) : fzK (.ok o ρ) = .ok (.val o.toD) ρ := (rfl)
end FB

/-! zip of any two of lists and tuples. -/
namespace MZ
open PySem PySem.Sem
/-- u: a list, else a tuple -/
def CSeq (u : Bool) (h : Heap) (l : Addr) (xs : Array Value) : Prop := if u = true then h.IsList l xs else h.IsTuple l xs
def CIt (u : Bool) (h : Heap) (it l : Addr) (k : Nat) : Prop := if u = true then h.IsListIter it l k else h.IsTupleIter it l k
theorem CSeq.ext {u : Bool} {h h' : Heap} {l b : Addr} {xs : Array Value} (x : CSeq u h l xs) (q : Heap.ExtBut b h h') (n : l ≠ b) : CSeq u h' l xs := by
  cases u with
  | true => exact Heap.IsList.extBut (show h.IsList l xs from x) q n
  | false => exact Heap.IsTuple.extBut (show h.IsTuple l xs from x) q n
theorem CIt.ext {u : Bool} {h h' : Heap} {it l b : Addr} {k : Nat} (x : CIt u h it l k) (q : Heap.ExtBut b h h') (n : it ≠ b) : CIt u h' it l k := by
  cases u with
  | true => exact Heap.IsListIter.extBut (show h.IsListIter it l k from x) q n
  | false => exact Heap.IsTupleIter.extBut (show h.IsTupleIter it l k from x) q n
theorem CIt.move {u : Bool} {h h' : Heap} {it l : Addr} {k : Nat} (x : CIt u h it l k) (q : ∀ o, h.get? it = some o → h'.get? it = some o) : CIt u h' it l k := by
  cases u with
  | true => exact Heap.IsListIter.at (show h.IsListIter it l k from x) q
  | false => exact Heap.IsTupleIter.at (show h.IsTupleIter it l k from x) q
theorem CIt.some {u : Bool} {h : Heap} {it l : Addr} {k : Nat} (x : CIt u h it l k) : ∃ o, h.get? it = some o ∧ ∀ v, o.data ≠ .cell v := by
  cases u with
  | true =>
    obtain ⟨o, e, _, d⟩ := show h.IsListIter it l k from x
    exact ⟨o, e, fun v q => by rw [d] at q; cases q⟩
  | false =>
    obtain ⟨o, e, _, d⟩ := show h.IsTupleIter it l k from x
    exact ⟨o, e, fun v q => by rw [d] at q; cases q⟩
section
variable {prog : Program} {w : World} {A : Around} {E : Value → Shared → Prop} {s : Shared}
theorem nx_item {u : Bool} {it l : Addr} {k : Nat} {xs : Array Value} {x : Value} {Q : Value → Shared → Prop} (ci : CIt u s.heap it l k) (cs : CSeq u s.heap l xs) (hx : xs[k]? = some x)
    (hQ : ∀ h', CIt u h' it l (k + 1) → Heap.SameBut it s.heap h' → Q x { s with heap := h' }) : wpAny (model prog w) A (Builtin.SmallTypes.nextOf (.ref it)) Q E s := by
  cases u with
  | true => exact wpAny_nextOf_list_item ci cs hx hQ
  | false => exact RZ.nextOf_tuple_item ci cs hx hQ
theorem nx_end {u : Bool} {it l : Addr} {k : Nat} {xs : Array Value} {Q : Value → Shared → Prop} (hh : A.handled = none) (ci : CIt u s.heap it l k) (cs : CSeq u s.heap l xs) (hx : xs[k]? = none)
    (hE : ∀ h' e, Heap.ExtBut it s.heap h' → (∃ o, h'.get? e = some o ∧ o.cls = .type "StopIteration") → E (.ref e) { s with heap := h' }) : wpAny (model prog w) A (Builtin.SmallTypes.nextOf (.ref it)) Q E s := by
  cases u with
  | true => exact wpAny_nextOf_list_end hh ci cs hx hE
  | false => exact RZ.nextOf_tuple_end hh ci cs hx hE
/-- all but the four stand -/
def Stay (z TO i j : Addr) (h h' : Heap) : Prop := ∀ c o, c ≠ z → c ≠ TO → c ≠ i → c ≠ j → h.get? c = some o → h'.get? c = some o
variable {u1 u2 : Bool} {z TI TO i j l m : Addr} {k n : Nat} {xs ys : Array Value} {x y a b : Value}
theorem step_item {Q : Value → Shared → Prop} (D : ZipApart z TI TO i j l m) (Z : IsZip s.heap z TI TO .none) (PI : IsPair s.heap TI (.ref i) (.ref j)) (PO : IsPair s.heap TO a b)
    (c1 : CIt u1 s.heap i l k) (c2 : CIt u2 s.heap j m n) (q1 : CSeq u1 s.heap l xs) (q2 : CSeq u2 s.heap m ys) (hx : xs[k]? = some x) (hy : ys[n]? = some y)
    (fin : ∀ h', IsZip h' z TI TO (rawInt s.heap.objs.size) → IsPair h' TO x y → CIt u1 h' i l (k + 1) → CIt u2 h' j m (n + 1) → IsPair h' s.heap.objs.size x y → h'.objs.size = s.heap.objs.size + 1 →
      Stay z TO i j s.heap h' → Q (.ref s.heap.objs.size) { s with heap := h' }) :
    wpAny (model prog w) A (Builtin.«zip.__next__» ⟨[.ref z], []⟩) (fun r s' => ∃ v, r = .done (.ret v) ∧ Q v s') E s := by
  show wpAny _ _ (field (.ref z) 2 >>= _) _ _ _
  refine wpAny_bind (wpAny_field Z rfl (x := .bool false) rfl ?_)
  show wpAny _ _ (field (.ref z) 3 >>= _) _ _ _
  refine wpAny_bind (wpAny_field Z rfl (x := .ref TI) rfl ?_)
  refine wpAny_bind (wpAny_seqItems PI rfl ?_)
  show wpAny _ _ (Builtin.SmallTypes.ownedTupleIsFree (.ref z) >>= _) _ _ _
  refine wpAny_bind ?_
  unfold Builtin.SmallTypes.ownedTupleIsFree
  refine wpAny_bind (wpAny_field Z rfl (x := .none) rfl (wpAny_pure ?_))
  simp only [if_true]
  refine wpAny_bind (wpAny_rule ?_)
  refine wpAny_bind (wpAny_field Z rfl (x := .ref TO) rfl ?_)
  refine wpAny_bind (wpAny_setField_rec Z (by simp) fun ha Za sa => ?_)
  have Za : IsZip ha z TI TO .ellipsis := Za
  refine wpAny_bind ?_
  simp only [List.zipIdx_cons, List.zipIdx_nil, List.forIn_cons, List.forIn_nil]
  refine wpAny_bind (wpAny_bind (wpAny_onRaise ?_))
  show wpAny _ _ (Builtin.SmallTypes.nextOf (.ref i) >>= _) _ _ _
  refine wpAny_bind (nx_item (c1.ext sa.extBut D.i1z) (q1.ext sa.extBut D.l1z) hx fun hb c1b sb => wpAny_pure ?_)
  have POb : IsPair hb TO a b := sb.extBut _ _ D.TOi1 (sa.extBut _ _ D.TOz PO)
  refine wpAny_bind (wpAny_seqItems POb rfl ?_)
  refine wpAny_bind (wpAny_updateSeq_pair POb fun hc POc sc => ?_)
  have POc : IsPair hc TO x b := POc
  refine wpAny_bind (wpAny_letGo (wpAny_pure ?_))
  refine wpAny_bind (wpAny_bind (wpAny_onRaise ?_))
  show wpAny _ _ (Builtin.SmallTypes.nextOf (.ref j) >>= _) _ _ _
  have c2c : CIt u2 hc j m n := ((c2.ext sa.extBut D.i2z).ext sb.extBut D.i12.symm).ext sc.extBut D.TOi2.symm
  have q2c : CSeq u2 hc m ys := ((q2.ext sa.extBut D.l2z).ext sb.extBut D.l2i1).ext sc.extBut D.l2TO
  refine wpAny_bind (nx_item c2c q2c hy fun hd c2d sd => wpAny_pure ?_)
  have POd : IsPair hd TO x b := sd.extBut _ _ D.TOi2 POc
  refine wpAny_bind (wpAny_seqItems POd rfl ?_)
  refine wpAny_bind (wpAny_updateSeq_pair POd fun he POe se => ?_)
  have POe : IsPair he TO x y := POe
  refine wpAny_bind (wpAny_letGo (wpAny_pure (wpAny_pure ?_)))
  refine wpAny_bind (wpAny_seqItems POe rfl ?_)
  refine wpAny_bind (wpAny_newTuple ?_)
  have sz : he.objs.size = s.heap.objs.size := by rw [se.1, sd.1, sc.1, sb.1, sa.1]
  have Ze : IsZip he z TI TO .ellipsis := se.extBut _ _ D.TOz.symm (sd.extBut _ _ D.i2z.symm (sc.extBut _ _ D.TOz.symm (sb.extBut _ _ D.i1z.symm Za)))
  have ke : Stay z TO i j s.heap he := fun c o d1 d2 d3 d4 e => se.extBut _ _ d2 (sd.extBut _ _ d4 (sc.extBut _ _ d2 (sb.extBut _ _ d3 (sa.extBut _ _ d1 e))))
  have c1e : CIt u1 he i l (k + 1) := ((c1b.ext sc.extBut D.TOi1.symm).ext sd.extBut D.i12).ext se.extBut D.TOi1.symm
  have c2e : CIt u2 he j m (n + 1) := c2d.ext se.extBut D.TOi2.symm
  have zlt : z < he.objs.size := Heap.lt_size Ze
  show wpAny _ _ (Builtin.SmallTypes.ownedTupleHandOut (.ref z) (.ref he.objs.size) >>= _) _ _ _
  refine wpAny_bind ?_
  unfold Builtin.SmallTypes.ownedTupleHandOut
  have Zf : IsZip (he.push { cls := .type "tuple", data := .seq #[x, y] }) z TI TO .ellipsis := Heap.get?_push_of_some _ Ze
  refine wpAny_bind (wpAny_setField_rec Zf (by simp) fun hg Zg sg => ?_)
  have Zg : IsZip hg z TI TO (rawInt he.objs.size) := Zg
  refine wpAny_setField_rec Zg (by simp) fun hk Zk sk => ?_
  have Zk : IsZip hk z TI TO (rawInt he.objs.size) := Zk
  have up : ∀ c o, c ≠ z → he.get? c = some o → hk.get? c = some o := fun c o d e => sk.extBut _ _ d (sg.extBut _ _ d (Heap.get?_push_of_some _ e))
  have Pk : IsPair hk he.objs.size x y := sk.extBut _ _ (Nat.ne_of_gt zlt) (sg.extBut _ _ (Nat.ne_of_gt zlt) (Heap.get?_push_size _ rfl))
  have sk2 : hk.objs.size = he.objs.size + 1 := by rw [sk.1, sg.1, Heap.size_push]
  rw [sz] at Zk Pk sk2
  refine wpAny_pure ⟨_, rfl, ?_⟩
  show Q (.ref he.objs.size) _
  rw [sz]
  exact fin hk Zk (up _ _ D.TOz POe) (c1e.move fun o e => up _ o D.i1z e) (c2e.move fun o e => up _ o D.i2z e) Pk sk2 fun c o d1 d2 d3 d4 e => up c o d1 (ke c o d1 d2 d3 d4 e)
theorem step_end {Q : Fin → Shared → Prop} (hh : A.handled = none) (D : ZipApart z TI TO i j l m) (Z : IsZip s.heap z TI TO .none) (PI : IsPair s.heap TI (.ref i) (.ref j)) (PO : IsPair s.heap TO a b)
    (c1 : CIt u1 s.heap i l k) (c2 : CIt u2 s.heap j m n) (q1 : CSeq u1 s.heap l xs) (q2 : CSeq u2 s.heap m ys) (hend : xs[k]? = none ∨ ys[n]? = none)
    (fin : ∀ h' e, Stay z TO i j s.heap h' → (∃ o, h'.get? e = some o ∧ o.cls = .type "StopIteration") → E (.ref e) { s with heap := h' }) : wpAny (model prog w) A (Builtin.«zip.__next__» ⟨[.ref z], []⟩) Q E s := by
  show wpAny _ _ (field (.ref z) 2 >>= _) _ _ _
  refine wpAny_bind (wpAny_field Z rfl (x := .bool false) rfl ?_)
  show wpAny _ _ (field (.ref z) 3 >>= _) _ _ _
  refine wpAny_bind (wpAny_field Z rfl (x := .ref TI) rfl ?_)
  refine wpAny_bind (wpAny_seqItems PI rfl ?_)
  show wpAny _ _ (Builtin.SmallTypes.ownedTupleIsFree (.ref z) >>= _) _ _ _
  refine wpAny_bind ?_
  unfold Builtin.SmallTypes.ownedTupleIsFree
  refine wpAny_bind (wpAny_field Z rfl (x := .none) rfl (wpAny_pure ?_))
  simp only [if_true]
  refine wpAny_bind (wpAny_rule ?_)
  refine wpAny_bind (wpAny_field Z rfl (x := .ref TO) rfl ?_)
  refine wpAny_bind (wpAny_setField_rec Z (by simp) fun ha Za sa => ?_)
  have Za : IsZip ha z TI TO .ellipsis := Za
  refine wpAny_bind ?_
  simp only [List.zipIdx_cons, List.zipIdx_nil, List.forIn_cons, List.forIn_nil]
  refine wpAny_bind (wpAny_bind (wpAny_onRaise ?_))
  show wpAny _ _ (Builtin.SmallTypes.nextOf (.ref i) >>= _) _ _ _
  cases hx : xs[k]? with
  | none =>
    refine wpAny_bind (nx_end hh (c1.ext sa.extBut D.i1z) (q1.ext sa.extBut D.l1z) hx fun hb e sb st => ?_)
    obtain ⟨oe, g, ce⟩ := st
    have Zb : IsZip hb z TI TO .ellipsis := sb _ _ D.i1z.symm Za
    have nz : e ≠ z := fun t => by subst t; rw [Zb] at g; cases g; simp at ce
    refine wpAny_setField_rec Zb (by simp) fun hc _ sc => fin hc e (fun c o d1 _ d3 _ t => sc.extBut _ _ d1 (sb _ _ d3 (sa.extBut _ _ d1 t))) ⟨oe, sc.extBut _ _ nz g, ce⟩
  | some x =>
    have hy : ys[n]? = none := by
      rcases hend with t | t
      · rw [hx] at t; cases t
      · exact t
    refine wpAny_bind (nx_item (c1.ext sa.extBut D.i1z) (q1.ext sa.extBut D.l1z) hx fun hb c1b sb => wpAny_pure ?_)
    have POb : IsPair hb TO a b := sb.extBut _ _ D.TOi1 (sa.extBut _ _ D.TOz PO)
    refine wpAny_bind (wpAny_seqItems POb rfl ?_)
    refine wpAny_bind (wpAny_updateSeq_pair POb fun hc POc sc => ?_)
    refine wpAny_bind (wpAny_letGo (wpAny_pure ?_))
    refine wpAny_bind (wpAny_bind (wpAny_onRaise ?_))
    show wpAny _ _ (Builtin.SmallTypes.nextOf (.ref j) >>= _) _ _ _
    have c2c : CIt u2 hc j m n := ((c2.ext sa.extBut D.i2z).ext sb.extBut D.i12.symm).ext sc.extBut D.TOi2.symm
    have q2c : CSeq u2 hc m ys := ((q2.ext sa.extBut D.l2z).ext sb.extBut D.l2i1).ext sc.extBut D.l2TO
    refine wpAny_bind (nx_end hh c2c q2c hy fun hd e sd st => ?_)
    obtain ⟨oe, g, ce⟩ := st
    have Zd : IsZip hd z TI TO .ellipsis := sd _ _ D.i2z.symm (sc.extBut _ _ D.TOz.symm (sb.extBut _ _ D.i1z.symm Za))
    have nz : e ≠ z := fun t => by subst t; rw [Zd] at g; cases g; simp at ce
    refine wpAny_setField_rec Zd (by simp) fun he _ se => fin he e (fun c o d1 d2 d3 d4 t => se.extBut _ _ d1 (sd _ _ d4 (sc.extBut _ _ d2 (sb.extBut _ _ d3 (sa.extBut _ _ d1 t))))) ⟨oe, se.extBut _ _ nz g, ce⟩
theorem py_item {Q : Option Value → Shared → Prop} (D : ZipApart z TI TO i j l m) (Z : IsZip s.heap z TI TO .none) (PI : IsPair s.heap TI (.ref i) (.ref j)) (PO : IsPair s.heap TO a b)
    (c1 : CIt u1 s.heap i l k) (c2 : CIt u2 s.heap j m n) (q1 : CSeq u1 s.heap l xs) (q2 : CSeq u2 s.heap m ys) (hx : xs[k]? = some x) (hy : ys[n]? = some y)
    (fin : ∀ h', IsZip h' z TI TO (rawInt s.heap.objs.size) → IsPair h' TO x y → CIt u1 h' i l (k + 1) → CIt u2 h' j m (n + 1) → IsPair h' s.heap.objs.size x y → h'.objs.size = s.heap.objs.size + 1 →
      Stay z TO i j s.heap h' → Q (some (.ref s.heap.objs.size)) { s with heap := h' }) : wpAny (model prog w) A (pyNext (.ref z)) Q E s := by
  have ty : s.TypeIs (.ref z) "zip" := ⟨_, Z, rfl⟩
  unfold pyNext
  refine wpAny_bind (wpAny_attempt (wpAny_callSpecial?_slot (name := Str.ofString "__next__") ty F.slot_zip_next (wpAny_call_entry F.slot_zip_next ty F.entry_zip_next ?_ (F.args_zip_next_1 _))))
  exact step_item D Z PI PO c1 c2 q1 q2 hx hy fun h' t1 t2 t3 t4 t5 t6 t7 => wpAny_pure (fin h' t1 t2 t3 t4 t5 t6 t7)
theorem py_end {Q : Option Value → Shared → Prop} (hh : A.handled = none) (D : ZipApart z TI TO i j l m) (Z : IsZip s.heap z TI TO .none) (PI : IsPair s.heap TI (.ref i) (.ref j)) (PO : IsPair s.heap TO a b)
    (c1 : CIt u1 s.heap i l k) (c2 : CIt u2 s.heap j m n) (q1 : CSeq u1 s.heap l xs) (q2 : CSeq u2 s.heap m ys) (hend : xs[k]? = none ∨ ys[n]? = none)
    (fin : ∀ h', Stay z TO i j s.heap h' → Q none { s with heap := h' }) : wpAny (model prog w) A (pyNext (.ref z)) Q E s := by
  have ty : s.TypeIs (.ref z) "zip" := ⟨_, Z, rfl⟩
  unfold pyNext
  refine wpAny_bind (wpAny_attempt (wpAny_callSpecial?_slot (name := Str.ofString "__next__") ty F.slot_zip_next (wpAny_call_entry F.slot_zip_next ty F.entry_zip_next ?_ (F.args_zip_next_1 _))))
  refine step_end hh D Z PI PO c1 c2 q1 q2 hend fun h' e st he => ?_
  obtain ⟨o, g, ce⟩ := he
  refine wpAny_bind (wpAny_isInstance (T := "StopIteration") (b := true) ⟨o, g, ce⟩ isSubtype_stop ?_)
  exact wpAny_pure (fin _ st)
end
/-! ### it is made -/
def itObj (u : Bool) (l : Addr) : Obj := { cls := .type (if u = true then "list_iterator" else "tuple_iterator"), data := .fields #[.ref l, .int 0 0] }
abbrev m1 (u1 : Bool) (h : Heap) (l : Addr) : Heap := h.push (itObj u1 l)
abbrev m2 (u1 u2 : Bool) (h : Heap) (l m : Addr) : Heap := (m1 u1 h l).push (itObj u2 m)
abbrev m3 (u1 u2 : Bool) (h : Heap) (l m : Addr) : Heap := (m2 u1 u2 h l m).push { cls := .type "tuple", data := .seq #[.ref h.objs.size, .ref (m1 u1 h l).objs.size] }
abbrev m4 (u1 u2 : Bool) (h : Heap) (l m : Addr) : Heap := (m3 u1 u2 h l m).push { cls := .type "tuple", data := .seq #[.none, .none] }
abbrev m5 (u1 u2 : Bool) (h : Heap) (l m : Addr) : Heap := (m4 u1 u2 h l m).push { cls := .type "zip", data := .fields #[.none, .bool false, .bool false, .ref (m2 u1 u2 h l m).objs.size, .ref (m3 u1 u2 h l m).objs.size] }
theorem CSeq.push {u : Bool} {h : Heap} {l : Addr} {xs : Array Value} (q : CSeq u h l xs) (o : Obj) : CSeq u (h.push o) l xs := by
  cases u with
  | true => exact Heap.IsList.push (show h.IsList l xs from q) o
  | false => exact Heap.IsTuple.push (show h.IsTuple l xs from q) o
set_option maxHeartbeats 1000000 in
theorem meets_lt (l m : Addr) (xs ys : Array Value) :
    Meets (Builtin.«zip.__new__» ⟨[.type "zip", .ref l, .ref m], []⟩) (fun _ R s => s.heap.IsList l xs ∧ s.heap.IsTuple m ys ∧ R (.ok (.ret (.ref (m4 true false s.heap l m).objs.size))) { s with heap := m5 true false s.heap l m }) :=
  .of_wp fun prog w A R s t => by
    obtain ⟨hp, g, d, tk, os⟩ := s
    obtain ⟨q1, q2, t⟩ := t
    have hsub := sub_zip
    have L1 : Heap.IsList (Shared.heap ⟨hp, g, d, tk, os⟩) l xs := q1
    have L2 : Heap.IsTuple (Shared.heap ⟨hp.push { cls := .type "list_iterator", data := .fields #[.ref l, .int 0 0] }, g, d, tk, os⟩) m ys := Heap.IsTuple.push q2 _
    wp_walk using wpAny_pyIter_list L1, wpAny_pyIter_tuple L2
    exact ⟨_, rfl, t⟩
set_option maxHeartbeats 1000000 in
theorem meets_tl (l m : Addr) (xs ys : Array Value) :
    Meets (Builtin.«zip.__new__» ⟨[.type "zip", .ref l, .ref m], []⟩) (fun _ R s => s.heap.IsTuple l xs ∧ s.heap.IsList m ys ∧ R (.ok (.ret (.ref (m4 false true s.heap l m).objs.size))) { s with heap := m5 false true s.heap l m }) :=
  .of_wp fun prog w A R s t => by
    obtain ⟨hp, g, d, tk, os⟩ := s
    obtain ⟨q1, q2, t⟩ := t
    have hsub := sub_zip
    have L1 : Heap.IsTuple (Shared.heap ⟨hp, g, d, tk, os⟩) l xs := q1
    have L2 : Heap.IsList (Shared.heap ⟨hp.push { cls := .type "tuple_iterator", data := .fields #[.ref l, .int 0 0] }, g, d, tk, os⟩) m ys := Heap.IsList.push q2 _
    wp_walk using wpAny_pyIter_tuple L1, wpAny_pyIter_list L2
    exact ⟨_, rfl, t⟩
theorem meets_mix (u1 u2 : Bool) (l m : Addr) (xs ys : Array Value) :
    Meets (Builtin.«zip.__new__» ⟨[.type "zip", .ref l, .ref m], []⟩) (fun _ R s => CSeq u1 s.heap l xs ∧ CSeq u2 s.heap m ys ∧ R (.ok (.ret (.ref (m4 u1 u2 s.heap l m).objs.size))) { s with heap := m5 u1 u2 s.heap l m }) := by
  cases u1 <;> cases u2
  · exact RZ.meets_zipT_new l m xs ys
  · exact meets_tl l m xs ys
  · exact meets_lt l m xs ys
  · exact meets_zip_new l m xs ys
theorem cit_obj {u : Bool} {h : Heap} {it l : Addr} (e : h.get? it = some (itObj u l)) : CIt u h it l 0 := by
  cases u with
  | true => exact ⟨_, e, rfl, rfl⟩
  | false => exact ⟨_, e, rfl, rfl⟩
theorem call_mix {prog : Program} {w : World} {A : Around} {E : Value → Shared → Prop} {s : Shared} {u1 u2 : Bool} {l m : Addr} {xs ys : Array Value} {Q : Value → Shared → Prop} (q1 : CSeq u1 s.heap l xs) (q2 : CSeq u2 s.heap m ys)
    (fin : ∀ h', IsZip h' (s.heap.objs.size + 4) (s.heap.objs.size + 2) (s.heap.objs.size + 3) .none → IsPair h' (s.heap.objs.size + 2) (.ref s.heap.objs.size) (.ref (s.heap.objs.size + 1)) →
      IsPair h' (s.heap.objs.size + 3) .none .none → CIt u1 h' s.heap.objs.size l 0 → CIt u2 h' (s.heap.objs.size + 1) m 0 → (∀ c o, s.heap.get? c = some o → h'.get? c = some o) → Q (.ref (s.heap.objs.size + 4)) { s with heap := h' }) :
    wpAny (model prog w) A (call (.type "zip") [.ref l, .ref m]) Q E s := by
  refine callType_new F.called_zip (by decide) (F.typeCall_zip_2 _ _) (F.newCall_zip_2 _ _) (fun o => F.args_object_init_3 o _ _) F.entry_zip_new (meets_mix u1 u2 l m xs ys) ⟨q1, q2, ?_⟩
  have n1 : (m1 u1 s.heap l).objs.size = s.heap.objs.size + 1 := Heap.size_push ..
  have n2 : (m2 u1 u2 s.heap l m).objs.size = s.heap.objs.size + 2 := by rw [Heap.size_push, n1]
  have n3 : (m3 u1 u2 s.heap l m).objs.size = s.heap.objs.size + 3 := by rw [Heap.size_push, n2]
  have n4 : (m4 u1 u2 s.heap l m).objs.size = s.heap.objs.size + 4 := by rw [Heap.size_push, n3]
  have e5 : (m5 u1 u2 s.heap l m).get? (m4 u1 u2 s.heap l m).objs.size = some _ := Heap.get?_push_size _ rfl
  have e4 : (m5 u1 u2 s.heap l m).get? (m3 u1 u2 s.heap l m).objs.size = some _ := Heap.get?_push_of_some _ (Heap.get?_push_size _ rfl)
  have up3 : ∀ {c o}, (m3 u1 u2 s.heap l m).get? c = some o → (m5 u1 u2 s.heap l m).get? c = some o := fun e => Heap.get?_push_of_some _ (Heap.get?_push_of_some _ e)
  have up1 : ∀ {c o}, (m1 u1 s.heap l).get? c = some o → (m5 u1 u2 s.heap l m).get? c = some o := fun e => up3 (Heap.get?_push_of_some _ (Heap.get?_push_of_some _ e))
  have e3 : (m5 u1 u2 s.heap l m).get? (m2 u1 u2 s.heap l m).objs.size = some _ := up3 (Heap.get?_push_size _ rfl)
  have e2 : (m5 u1 u2 s.heap l m).get? (m1 u1 s.heap l).objs.size = some (itObj u2 m) := up3 (Heap.get?_push_of_some _ (Heap.get?_push_size _ (by cases u2 <;> rfl)))
  have e1 : (m5 u1 u2 s.heap l m).get? s.heap.objs.size = some (itObj u1 l) := up1 (Heap.get?_push_size _ (by cases u1 <;> rfl))
  show _ ∧ _
  rw [n2, n3, n4] at e5
  rw [n1, n2] at e3
  rw [n3] at e4
  rw [n1] at e2
  rw [n4]
  exact ⟨⟨_, e5, rfl⟩, fin _ e5 e3 e4 (cit_obj e1) (cit_obj e2) fun c o t => up1 (Heap.get?_push_of_some _ t)⟩
end MZ
namespace MZ
open PySem PySem.Spec L2
open PyProof.Rows hiding St
def SqC (K : PySem.W.Frag) (u : Bool) (H : Hp) (a : Addr) (xs : List V) : Prop := if u = true then SqL K H a xs else SqT K H a xs
theorem SqC.its {X : Cx} {pins : List (Addr × Obj)} {σ : L2.St} {H : Hp} {s : Shared} {u : Bool} {a : Addr} {xs : List V} (I : Inv X pins σ H s) (q : SqC X.K u H a xs) : ∃ its : List Value, Vals xs its ∧ CSeq u s.heap a its.toArray ∧ a < s.heap.objs.size := by
  cases u with
  | true =>
    obtain ⟨its, r, p, _⟩ := I.list (show SqL X.K H a xs from q)
    exact ⟨its, r, p.isList, p.lt⟩
  | false =>
    obtain ⟨its, r, p, _⟩ := I.tuple (show SqT X.K H a xs from q)
    obtain ⟨o, e, _⟩ := id p
    exact ⟨its, r, show s.heap.IsTuple a its.toArray from p, Heap.lt_size e⟩
theorem SqC.inj {X : Cx} {pins : List (Addr × Obj)} {σ : L2.St} {H : Hp} {s : Shared} {u : Bool} {a : Addr} {xs ys : List V} (I : Inv X pins σ H s) (q : SqC X.K u H a xs) (q' : SqC X.K u H a ys) : xs = ys := by
  cases u with
  | true => exact I.list_inj q q'
  | false => exact I.tuple_inj q q'
/-- pairs of the things at a and b -/
def ItM (K : PySem.W.Frag) (u1 u2 : Bool) (a b : Addr) : It :=
  ⟨fun i H => ∃ (xs ys : List V) (x y : V), SqC K u1 H a xs ∧ SqC K u2 H b ys ∧ xs[i]? = some x ∧ ys[i]? = some y,
    fun i H v H' => ∃ T x y, v = .ref T ∧ H T = none ∧ H' = upd H T (.tup [x, y]) ∧ (∀ xs, SqC K u1 H a xs → xs[i]? = some x) ∧ ∀ ys, SqC K u2 H b ys → ys[i]? = some y,
    fun i H => ∃ xs ys : List V, SqC K u1 H a xs ∧ SqC K u2 H b ys ∧ (xs.length ≤ i ∨ ys.length ≤ i)⟩
def St5 (u1 u2 : Bool) (z TI TO i j a b : Addr) (k : Nat) (h : Heap) : Prop := IsZip h z TI TO .none ∧ IsPair h TI (.ref i) (.ref j) ∧ (∃ x y, IsPair h TO x y) ∧ CIt u1 h i a k ∧ CIt u2 h j b k
theorem mem5 {c z TI TO i j : Addr} (h : c ∈ [z, TI, TO, i, j]) : c = z ∨ c = TI ∨ c = TO ∨ c = i ∨ c = j := by simpa using h
theorem turn_mix {P : Program} {w : World} {K : PySem.W.Frag} {es : List Expr} {kk : Nat} {tp : Pos} {u1 u2 : Bool} {a b z TI TO i j : Addr} (D : ZipApart z TI TO i j a b) : Turn P w K (.Tuple es kk tp) (ItM K u1 u2 a b) [z, TI, TO, i, j] z (St5 u1 u2 z TI TO i j a b) where
  mem := by simp
  obj := fun k h t c hc => by
    obtain ⟨Z, PI, ⟨x, y, PO⟩, c1, c2⟩ := t
    rcases mem5 hc with e | e | e | e | e
    · exact e ▸ ⟨_, Z, fun v q => nomatch q⟩
    · exact e ▸ ⟨_, PI, fun v q => nomatch q⟩
    · exact e ▸ ⟨_, PO, fun v q => nomatch q⟩
    · exact e ▸ c1.some
    · exact e ▸ c2.some
  keep := fun k h h' t q => by
    obtain ⟨Z, PI, ⟨x, y, PO⟩, c1, c2⟩ := t
    exact ⟨q z (by simp) _ Z, q TI (by simp) _ PI, ⟨x, y, q TO (by simp) _ PO⟩, c1.move fun o e => q i (by simp) o e, c2.move fun o e => q j (by simp) o e⟩
  item := by
    intro X hP hw hK hc k pins s σ H E I hf t hg
    subst hP hw hK
    obtain ⟨Z, PI, ⟨x0, y0, PO⟩, c1, c2⟩ := t
    obtain ⟨xs, ys, x, y, sx, sy, hx, hy⟩ := hg
    obtain ⟨its, rx, p1, _⟩ := sx.its I
    obtain ⟨its2, ry, p2, _⟩ := sy.its I
    obtain ⟨v, hv, rv⟩ := rx.get hx
    obtain ⟨v2, hv2, rv2⟩ := ry.get hy
    have zl : z < s.heap.objs.size := Heap.lt_size Z
    refine py_item D Z PI PO c1 c2 p1 p2 (x := v) (y := v2) (by simpa using hv) (by simpa using hv2) fun h' Z' PO' c1' c2' PT _ stay => ?_
    refine ⟨_, rfl, wpAny_letOwnedTupleGo_zip (s := { s with heap := h' }) Z' fun hb Zb sb => ?_⟩
    have PTb : hb.get? s.heap.objs.size = some { cls := .type "tuple", data := .seq #[v, v2] } := (sb.2 _ (Nat.ne_of_gt zl)).trans PT
    have new : ObjOk X.prog X.w (upd H s.heap.objs.size (.tup [x, y])) hb s.heap.objs.size (.tup [x, y]) := ⟨by show 2 ≤ sizeLine; decide, [v, v2], .cons rv (.cons rv2 .nil), ⟨_, PTb, rfl, _, rfl⟩⟩
    have keepH : ∀ c o, c ∉ [z, TI, TO, i, j] → s.heap.get? c = some o → hb.get? c = some o := fun c o nc e =>
      (sb.2 c (fun q => nc (by simp [q]))).trans (stay c o (fun q => nc (by simp [q])) (fun q => nc (by simp [q])) (fun q => nc (by simp [q])) (fun q => nc (by simp [q])) e)
    have J : Inv X pins σ (upd H s.heap.objs.size (.tup [x, y])) { s with heap := hb } := I.turnedNew (t' := s.toks) keepH hf (Nat.le_refl _) new
    have hTI : TI < s.heap.objs.size := Heap.lt_size PI
    have hTO : TO < s.heap.objs.size := Heap.lt_size PO
    obtain ⟨o1, g1, _⟩ := c1.some
    obtain ⟨o2, g2, _⟩ := c2.some
    have all : ∀ c ∈ [z, TI, TO, i, j], c < s.heap.objs.size := fun c hcm => by
      rcases mem5 hcm with e | e | e | e | e
      · exact e ▸ zl
      · exact e ▸ hTI
      · exact e ▸ hTO
      · exact e ▸ Heap.lt_size g1
      · exact e ▸ Heap.lt_size g2
    refine ⟨.ref s.heap.objs.size, _, J, rfl, ⟨_, x, y, rfl, I.hok.fresh (Nat.le_refl _), rfl, fun ws hl => ?_, fun ws hl => ?_⟩, ⟨Zb, ?_, ⟨v, v2, ?_⟩, ?_, ?_⟩, fun c hcm => ?_⟩
    · rw [hl.inj I sx]; exact hx
    · rw [hl.inj I sy]; exact hy
    · exact (sb.2 _ D.TIz).trans (stay _ _ D.TIz D.TITO D.TIi1 D.TIi2 PI)
    · exact (sb.2 _ D.TOz).trans PO'
    · exact c1'.move fun o e => (sb.2 _ D.i1z).trans e
    · exact c2'.move fun o e => (sb.2 _ D.i2z).trans e
    · rw [upd_ne (Nat.ne_of_lt (all c hcm))]
      exact (hf c hcm).1
  done := by
    intro X hP hw hK hc k pins s σ H E I hf t hg
    subst hP hw hK
    obtain ⟨Z, PI, ⟨x0, y0, PO⟩, c1, c2⟩ := t
    obtain ⟨xs, ys, sx, sy, hend⟩ := hg
    obtain ⟨its, rx, p1, _⟩ := sx.its I
    obtain ⟨its2, ry, p2, _⟩ := sy.its I
    have n1 := rx.length
    have n2 := ry.length
    have he : its.toArray[k]? = none ∨ its2.toArray[k]? = none := by
      rcases hend with q | q
      · left; simp; omega
      · right; simp; omega
    refine py_end (I.ok.hd hc) D Z PI PO c1 c2 p1 p2 he fun h' stay => ⟨rfl, I.turnedL (t' := s.toks) (ch := [z, TI, TO, i, j]) (fun c o nc e => ?_) hf⟩
    exact stay c o (fun q => nc (by simp [q])) (fun q => nc (by simp [q])) (fun q => nc (by simp [q])) (fun q => nc (by simp [q])) e
  self := fun A k s Q E t h => wpAny_pyIter_zip t.1 h
def iMix (K : PySem.W.Frag) (ta : TA) : TI := fun σ H R => ta σ H fun vs H1 => ∃ a b xs ys u1 u2, vs = [.ref a, .ref b] ∧ SqC K u1 H1 a xs ∧ SqC K u2 H1 b ys ∧ R (ItM K u1 u2 a b) H1
theorem pi_mix {X : Cx} {e e2 : Expr} {ta : TA} {p pos tp : Pos} {es : List Expr} {kk : Nat} (hg : Gl X "zip") (hm : X.mg "zip" = none) (ha : PA X [e, e2] ta)
    (hs : starEach [e, e2] X.env = (false, eval e X.env) :: starEach [e2] X.env := by rfl) (hpl : (backTo pos (starEach [e2] X.env)).any (·.1) = false := by rfl) : PI X (.Tuple es kk tp) (.Call (.Name "zip" p) [e, e2] [] pos) (iMix X.K ta) := by
  refine ⟨fun pins s σ H R I t => Call_ (ld_blt I hg hm PyProof.Rows.boot_zip (PyProof.Rows.callWith_type1 (thn (ha.run pos pins s σ H _ I t) fun us s1 ⟨vs, H1, J, r1, q⟩ => ?_) hs hpl))⟩
  obtain ⟨a, b, xs, ys, u1, u2, ex, sx, sy, q⟩ := q
  subst ex
  cases r1 with
  | cons r rr =>
    cases rr with
    | cons r' rr =>
      cases rr
      cases r
      cases r'
      obtain ⟨its, rx, p1, l1⟩ := sx.its J
      obtain ⟨its2, ry, p2, l2⟩ := sy.its J
      refine call_mix p1 p2 fun h' Z PI PO c1 c2 up => wpAny_pyIter_zip Z ?_
      have J2 : Inv X pins σ H1 { s1 with heap := h' } := J.kept (t' := s1.toks) up
      refine ⟨s1.heap.objs.size + 4, [s1.heap.objs.size + 4, s1.heap.objs.size + 2, s1.heap.objs.size + 3, s1.heap.objs.size, s1.heap.objs.size + 1], _, _, H1, rfl, J2, turn_mix (u1 := u1) (u2 := u2) (PySem.W.ktu_apart s1.heap.objs.size a b l1 l2), ⟨Z, PI, ⟨_, _, PO⟩, c1, c2⟩, fun c hcm => ?_, q⟩
      have le : s1.heap.objs.size ≤ c := by
        rcases mem5 hcm with e | e | e | e | e
        · rw [e]; exact Nat.le_add_right _ _
        · rw [e]; exact Nat.le_add_right _ _
        · rw [e]; exact Nat.le_add_right _ _
        · rw [e]; exact Nat.le_refl _
        · rw [e]; exact Nat.le_add_right _ _
      exact J.fpOk le (J.hok.fresh le)
end MZ
namespace FB
open PySem PySem.Spec L2
open PyProof.Rows hiding St
section
variable {X : Cx} {K : PySem.W.Frag} {mg : Str → Option Value}
/-- a list or a tuple of shared things -/
def qD (u : Bool) (ds : List D) : D := if u = true then .lst ds else .tup ds
theorem Rep.shC {H : Hp} {L : List Item} {B : List (V × O)} {x : V} {u : Bool} {ds : List D} (h : Rep K mg H L B) (hx : (x, .val (qD u ds)) ∈ B) : ∃ p vs, x = .ref p ∧ MZ.SqC K u H p vs ∧ vs.length = ds.length ∧ Rep K mg H (zipI vs (ds.map O.val) ++ L) B := by
  cases u with
  | true =>
    obtain ⟨p, vs, e, hp, l, R⟩ := h.shL hx rfl
    exact ⟨p, vs, e, .inl hp, l, R⟩
  | false =>
    obtain ⟨p, vs, e, hp, l, R⟩ := h.shT hx rfl
    exact ⟨p, vs, e, hp, l, R⟩
theorem its_mix {u1 u2 : Bool} {a b : Addr} {xs ys : List D} : Its K mg (MZ.ItM K u1 u2 a b) [.ov (.ref a) (.val (qD u1 xs)), .ov (.ref b) (.val (qD u2 ys))] (zipL xs ys) := by
  intro L H R
  have R0 : Rep K mg H ([.ov (.ref a) (.val (qD u1 xs)), .ov (.ref b) (.val (qD u2 ys))] ++ L) [(.ref b, .val (qD u2 ys)), (.ref a, .val (qD u1 xs))] := ((Rep.lend R).perm (.swap _ _ _)).lend.perm (.swap _ _ _)
  obtain ⟨p, vs, e, hp, lp, R1⟩ := R0.shC (x := .ref a) (u := u1) (ds := xs) (by simp)
  cases e
  obtain ⟨p, ws, e, hq, lq, R2⟩ := R1.shC (x := .ref b) (u := u2) (ds := ys) (by simp)
  cases e
  have hl : (zipL xs ys).length = min xs.length ys.length := by unfold zipL; simp
  refine ⟨fun i d hd => ?_, ⟨vs, ws, hp, hq, by rw [hl]; omega⟩⟩
  obtain ⟨x, y, hx, hy, rfl⟩ := zipL_get hd
  have hi : i < xs.length := (List.getElem?_eq_some_iff.mp hx).1
  have hj : i < ys.length := (List.getElem?_eq_some_iff.mp hy).1
  have hv : vs[i]? = some (vs[i]'(by omega)) := by simp
  have hw : ws[i]? = some (ws[i]'(by omega)) := by simp
  refine ⟨⟨vs, ws, _, _, hp, hq, hv, hw⟩, fun z H' q => ?_⟩
  obtain ⟨T, v, v', rfl, hT, rfl, q1, q2⟩ := q
  refine ⟨sameNew hT, ?_⟩
  have R7 : Rep K mg H (zipI [v, v'] ([x, y].map O.val) ++ ([.ov (.ref a) (.val (qD u1 xs)), .ov (.ref b) (.val (qD u2 ys))] ++ L)) [] :=
    ((R2.nth (q2 ws hq) hy).keep.perm (List.perm_middle.symm)).nth' (q1 vs hp) hx
  exact Rep.newT R7 rfl hT
def D.seqB? : D → Option (Bool × List D)
  | .lst ds => some (true, ds)
  | .tup ds => some (false, ds)
  | _ => none
theorem seqB_eq {d : D} {u : Bool} {ds : List D} (h : d.seqB? = some (u, ds)) : d = qD u ds := by
  cases d with
  | lst es => cases h; rfl
  | tup es => cases h; rfl
  | _ => cases h
def zipX (a b : O) (ρ : Env) : Res (List D) := match a.toD.seqB?, b.toD.seqB? with
  | some (_, xs), some (_, ys) => .ok (zipL xs ys) ρ
  | _, _ => .no
def mZipM (m n : M O) : M (List D) := fun ρ => (m ρ).bind fun a ρ1 => (n ρ1).bind fun b ρ2 => zipX a b ρ2
theorem si_zipM {a b : Expr} {p pos tp : Pos} {es : List Expr} {kk : Nat} {m n : M O} (hg : Gl X "zip") (hm : X.mg "zip" = none) (ha : SE X a m) (hb : SE X b n) (hs : starEach (a :: [b]) X.env = (false, eval a X.env) :: starEach [b] X.env := by rfl) (hs2 : starEach (b :: []) X.env = (false, eval b X.env) :: starEach [] X.env := by rfl)
    (hpl : (backTo pos (starEach [b] X.env)).any (·.1) = false := by rfl) : SI X (.Tuple es kk tp) (.Call (.Name "zip" p) [a, b] [] pos) (mZipM m n) :=
  PI.imp (MZ.pi_mix hg hm (pa_cons ha (pa_cons hb pa_nil hs2) hs) hs hpl) fun σ H R w => by
    obtain ⟨ρ, T, ds, ρ', c, Rp, e, k⟩ := w
    obtain ⟨o, ρ1, e1, w1⟩ := Res.bind_eq e
    clear e
    obtain ⟨v, ρ2, e2, e⟩ := Res.bind_eq w1
    clear w1
    refine ⟨ρ, T, _, _, c, Rp, e1, fun v H1 c1 R1 => ⟨ρ1, .ov v _ :: T, _, _, c1, R1.perm List.perm_middle.symm, e2, fun v2 H2 c2 R2 => ?_⟩⟩
    have R3 := (R2.frz.perm ((List.perm_middle.cons _).trans (.swap _ _ _))).frz
    unfold zipX at e
    split at e
    · rename_i u1 xs u2 ys h1 h2
      cases e
      rw [seqB_eq h1, seqB_eq h2] at R3
      obtain ⟨p, vs, rfl, hp, lp, _⟩ := R3.lend.shC (List.mem_cons_self ..)
      obtain ⟨q, ws, rfl, hq, lq, _⟩ := (R3.perm (.swap _ _ _)).lend.shC (List.mem_cons_self ..)
      exact ⟨p, q, vs, ws, u1, u2, rfl, hp, hq, k _ _ _ c2 its_mix R3⟩
    · cases e
end
def zX2 (a : O) : Res O → Res (List D)
  | .ok b ρ2 => zipX a b ρ2
  | .exc x ρ => .exc x ρ
  | .no => .no
def zX1 (n : M O) : Res O → Res (List D)
  | .ok a ρ1 => zX2 a (n ρ1)
  | .exc x ρ => .exc x ρ
  | .no => .no
@[simp] theorem e_mZipM (m n : M O) (ρ : Env) : mZipM m n ρ = zX1 n (m ρ) := by
  unfold mZipM zX1
  cases m ρ with
  | ok a ρ1 =>
    show (n ρ1).bind _ = zX2 a (n ρ1)
    cases n ρ1 <;> rfl
  | exc _ _ => rfl
  | no => rfl
@[simp] theorem e_zX1 (n : M O) (a : O) (ρ : Env) : zX1 n (.ok a ρ) = zX2 a (n ρ) := (rfl)
@[simp] theorem e_zX2 (a b : O) (ρ : Env) : zX2 a (.ok b ρ) = zipX a b ρ := (rfl)
@[simp] theorem e_zipX_ll (xs ys : List D) (ρ : Env) : zipX (.val (.lst xs)) (.val (.lst ys)) ρ = .ok (zipL xs ys) ρ := (rfl)
@[simp] theorem e_zipX_lt (xs ys : List D) (ρ : Env) : zipX (.val (.lst xs)) (.val (.tup ys)) ρ = .ok (zipL xs ys) ρ := (rfl)
@[simp] theorem e_zipX_tl (xs ys : List D) (ρ : Env) : zipX (.val (.tup xs)) (.val (.lst ys)) ρ = .ok (zipL xs ys) ρ := (rfl)
@[simp] theorem e_zipX_tt (xs ys : List D) (ρ : Env) : zipX (.val (.tup xs)) (.val (.tup ys)) ρ = .ok (zipL xs ys) ρ := (rfl)
end FB

/-! Loops and comprehensions over what an own object lends meanwhile. -/
namespace FB
open PySem PySem.Spec L2
open PyProof.Rows hiding St
section
variable {X : Cx} {K : PySem.W.Frag} {mg : Str → Option Value}
/-! zip of two attributes -/
end
end FB

/-! More rules for simp; loops that end at the first. -/
namespace FB
open PySem PySem.Spec L2
open PyProof.Rows hiding St
variable {ρ : Env}
@[simp] theorem neO_bl (a b : Bool) : neO (.val (.bl a)) (.val (.bl b)) = some (.val (.bl (!(a == b)))) := by rw [e_neO (by simp) (by simp)]; simp
theorem rangeL_len (lo : Int) (n : Nat) : (rangeL lo n).length = n := by unfold rangeL; simp
theorem rangeL_get {lo : Int} {n k : Nat} {d : D} (h : (rangeL lo n)[k]? = some d) : k < n ∧ d = .int (lo + k) := by
  have hk : k < n := by
    have := (List.getElem?_eq_some_iff.mp h).1
    rwa [rangeL_len] at this
  unfold rangeL at h
  rw [List.getElem?_map, List.getElem?_range hk] at h
  exact ⟨hk, (Option.some.inj h).symm⟩
theorem bls_map {α : Type} (p : α → Bool) : ∀ xs : List α, bls? (xs.map fun z => D.bl (p z)) = some (xs.map p)
  | [] => rfl
  | x :: xs => by
    show (bls? (xs.map fun z => D.bl (p z))).map (p x :: ·) = _
    rw [bls_map p xs]; rfl
theorem toD_bls {α : Type} (p : α → Bool) (xs : List α) : (O.lst (xs.map fun z => O.val (.bl (p z)))).toD = .lst (xs.map fun z => D.bl (p z)) := by
  show D.lst (O.toDs _) = _
  rw [toDs_map, List.map_map]; rfl
theorem any_map {α : Type} (p : α → Bool) (xs : List α) : anyO (.lst (xs.map fun z => O.val (.bl (p z)))) = some (.val (.bl (xs.any p))) := by
  unfold anyO
  rw [toD_bls]
  show ((bls? (xs.map fun z => D.bl (p z))).map fun bs => O.val (.bl (bs.any id))) = _
  rw [bls_map]
  simp [List.any_map]
theorem all_map {α : Type} (p : α → Bool) (xs : List α) : allO (.lst (xs.map fun z => O.val (.bl (p z)))) = some (.val (.bl (xs.all p))) := by
  unfold allO
  rw [toD_bls]
  show ((bls? (xs.map fun z => D.bl (p z))).map fun bs => O.val (.bl (bs.all id))) = _
  rw [bls_map]
  simp [List.all_map]
theorem atI_some {α : Type} {xs : List α} {r : Int} (h0 : 0 ≤ r) (h : r < xs.length) : ∃ x ∈ xs, atI xs r = some x := by
  have e : r = (r.toNat : Int) := by omega
  have hr : r.toNat < xs.length := by omega
  rw [e, atN, List.getElem?_eq_getElem hr]
  exact ⟨_, List.getElem_mem hr, rfl⟩
end FB

/-! Dicts read; texts joined; lists turned round. -/
namespace FB
open PySem PySem.Spec L2
open PyProof.Rows hiding St
section
variable {X : Cx} {K : PySem.W.Frag} {mg : Str → Option Value}
def dctP : O → Option (List Key × List O)
  | .dct ks os => some (ks, os)
  | .val (.dct ks ds) => some (ks, ds.map O.val)
  | _ => none
theorem Rep.dctV {H : Hp} {L : List Item} {B : List (V × O)} {x : V} {a : O} {ks : List Key} {os : List O} (R : Rep K mg H L B) (hx : (x, a) ∈ B) (e : dctP a = some (ks, os)) :
    ∃ p kvs, x = .ref p ∧ Rd H p (.dK kvs) ∧ kvs.map (·.1) = ks ∧ ks.Nodup ∧ kvs.length = os.length ∧ ∀ (j : Nat) (v : V) (o : O), (kvs.map (·.2))[j]? = some v → os[j]? = some o → Rep K mg H L ((v, o) :: B) := by
  obtain ⟨A, nd, ok, hb⟩ := id R
  obtain ⟨as, h1, h2⟩ := hb _ hx
  cases h1 with
  | val h1 =>
    cases h1 with
    | dct h3 h4 h5 =>
      cases e
      rename_i p kvs ds
      refine ⟨p, kvs, rfl, rd_hide h3, h4.1, h4.2, ?_, fun j v o q1 q2 => ⟨A, nd, ok, fun b q => ?_⟩⟩
      · have := h5.length
        simpa using this
      · rcases List.mem_cons.mp q with q | q
        · subst q
          rw [List.getElem?_map] at q2
          cases q3 : ds[j]? with
          | none => rw [q3] at q2; cases q2
          | some d =>
            rw [q3] at q2
            cases q2
            obtain ⟨v', g1, g2⟩ := h5.get q3
            rw [q1] at g1
            cases g1
            exact ⟨[], .val g2, by simp⟩
        · exact hb b q
    | _ => cases e
  | lst _ _ => cases e
  | ins _ _ _ _ => cases e
  | dct h3 h4 h5 =>
    cases e
    rename_i p kvs as'
    refine ⟨p, kvs, rfl, .inl h3, h4.1, h4.2, ?_, fun j v o q1 q2 => ⟨A, nd, ok, fun b q => ?_⟩⟩
    · have := h5.length
      simpa using this
    · rcases List.mem_cons.mp q with q | q
      · subst q
        obtain ⟨bs, g1, g2⟩ := VOs.sub h5 q2 q1
        exact ⟨bs, g1, fun a ha => h2 a (by simp [g2 a ha])⟩
      · exact hb b q
theorem keyV {H : Hp} {L : List Item} {B : List (V × O)} {y : V} {b : O} {k : Key} (R : Rep K mg H L B) (hy : (y, b) ∈ B) (e : keyO b = some k) : y = kV k := by
  unfold keyO at e
  split at e
  · cases e; exact R.shInt hy rfl
  · cases e; exact R.shStr hy rfl
  · cases e
/-! ### d[k] -/
def dgO (a b : O) : Option O := (dctP a).bind fun p => (keyO b).bind fun k => (idxK p.1 k).bind fun j => p.2[j]?
def rDg : R2 := fun x y H Q => ∃ a v, x = .ref a ∧ DGet H a y (some v) ∧ Q v H
theorem ix_dct (ok : CxOk X) : IxR X rDg := by
  intro value slice pins s σ H x y v u Q I rx ry h hs
  obtain ⟨a, w, rfl, g, q⟩ := h
  obtain rfl : v = Value.ref a := rx
  exact tail_any (dict_typeIs I g) PySem.F.slot_dict_getitem.lookup (d_getItem (by have := ok.units; show X.A.units + 1 < cLine; omega) I g ry fun w' s' I' rw' => ⟨w, H, I', rw', q⟩) hs
theorem dget {H : Hp} {L : List Item} {B : List (V × O)} {x y : V} {a b : O} {ks : List Key} {os : List O} {k : Key} (R : Rep K mg H L B) (hx : (x, a) ∈ B) (hy : (y, b) ∈ B) (e : dctP a = some (ks, os)) (ek : keyO b = some k) :
    ∃ p r, x = .ref p ∧ DGet H p y r ∧ ((idxK ks k).bind fun j => os[j]?).isSome = r.isSome ∧ ∀ o, ((idxK ks k).bind fun j => os[j]?) = some o → ∃ v, r = some v ∧ Rep K mg H L ((v, o) :: B) := by
  obtain ⟨p, kvs, rfl, h1, h2, h3, h4, h5⟩ := R.dctV hx e
  have ey := keyV R hy ek
  subst ey
  refine ⟨p, valV kvs k, rfl, .inl ⟨kvs, k, h1, rfl, rfl⟩, ?_, fun o ho => ?_⟩
  · rw [idxK_valV, h2]
    cases ej : idxK ks k with
    | none => rfl
    | some j =>
      show (os[j]?).isSome = ((kvs.map (·.2))[j]?).isSome
      by_cases hj : j < os.length
      · rw [List.getElem?_eq_getElem hj, List.getElem?_eq_getElem (show j < (kvs.map (·.2)).length by simp; omega)]; rfl
      · have n1 : os[j]? = none := List.getElem?_eq_none (by omega)
        have n2 : (kvs.map (·.2))[j]? = none := List.getElem?_eq_none (by simp; omega)
        rw [n1, n2]; rfl
  · rw [idxK_valV, h2]
    cases ej : idxK ks k with
    | none => rw [ej] at ho; cases ho
    | some j =>
      rw [ej] at ho
      have ho : os[j]? = some o := ho
      have hj : j < os.length := (List.getElem?_eq_some_iff.mp ho).1
      have hl : j < (kvs.map (·.2)).length := by simp; omega
      have hv : (kvs.map (·.2))[j]? = some ((kvs.map (·.2))[j]'hl) := List.getElem?_eq_getElem hl
      exact ⟨_, hv, h5 j _ o hv ho⟩
theorem opv_dg : OpV K mg rDg dgO := by
  intro H L B x y ox oy o Q R hx hy e k
  unfold dgO at e
  cases e1 : dctP ox with
  | none => rw [e1] at e; cases e
  | some p =>
    cases e2 : keyO oy with
    | none => rw [e1, e2] at e; cases e
    | some kk =>
      rw [e1, e2] at e
      obtain ⟨p', r, rfl, g, _, g2⟩ := dget (ks := p.1) (os := p.2) R hx hy e1 e2
      obtain ⟨v, rfl, R2⟩ := g2 o e
      exact ⟨p', v, rfl, g, k v H (Same.refl _) R2⟩
/-- a list, a tuple, a text, or a dict -/
def ixF (a b : O) : Option O := if (dctP a).isSome = true then dgO a b else ixO a b
def rIxF (K : PySem.W.Frag) : R2 := fun x y H Q => rIx K x y H Q ∨ rDg x y H Q
theorem ix_F (ok : CxOk X) : IxR X (rIxF X.K) := ix_seq.or (ix_dct ok)
theorem opv_ixF : OpV K mg (rIxF K) ixF := by
  intro H L B x y ox oy o Q R hx hy e k
  unfold ixF at e
  split at e
  · exact .inr (opv_dg H L B x y ox oy o Q R hx hy e k)
  · exact .inl (opv_ix H L B x y ox oy o Q R hx hy e k)
/-! ### k in d -/
def keyN : O → Option (Option Key)
  | .val .non => some none
  | b => (keyO b).map some
def hasK (ks : List Key) : Option Key → Bool
  | none => false
  | some k => (idxK ks k).isSome
def dinO (a b : O) : Option O := (dctP b).bind fun p => (keyN a).map fun k => .val (.bl (hasK p.1 k))
def dninO (a b : O) : Option O := (dctP b).bind fun p => (keyN a).map fun k => .val (.bl (!hasK p.1 k))
def rDin (n : Bool) : R2 := fun y x H Q => (∃ a o, x = .ref a ∧ DGet H a y o ∧ Q (.bl (o.isSome != n)) H) ∨ ∃ a kvs, x = .ref a ∧ y = .non ∧ Rd H a (.dK kvs) ∧ Q (.bl (false != n)) H
theorem op_din (ok : CxOk X) : OpR X (compareOp .In) (rDin false) := by
  intro pins s σ H y x v u Q I ry rx h
  have hu : X.A.units + 1 < cLine := by have := ok.units; omega
  rcases h with ⟨a, o, rfl, g, q⟩ | ⟨a, kvs, rfl, rfl, g, q⟩
  · obtain rfl : u = Value.ref a := rx
    exact d_in hu I g ry fun s3 I3 => ⟨.bl o.isSome, H, I3, rfl, by simpa using q⟩
  · obtain rfl : u = Value.ref a := rx
    obtain rfl : v = Value.none := ry
    exact d_inNone I g fun s3 I3 => ⟨.bl false, H, I3, rfl, q⟩
theorem op_dnin (ok : CxOk X) : OpR X (compareOp .NotIn) (rDin true) := by
  intro pins s σ H y x v u Q I ry rx h
  have hu : X.A.units + 1 < cLine := by have := ok.units; omega
  rcases h with ⟨a, o, rfl, g, q⟩ | ⟨a, kvs, rfl, rfl, g, q⟩
  · obtain rfl : u = Value.ref a := rx
    exact d_notIn hu I g ry fun s3 I3 => ⟨.bl (!o.isSome), H, I3, rfl, by simpa using q⟩
  · obtain rfl : u = Value.ref a := rx
    obtain rfl : v = Value.none := ry
    exact d_notInNone I g fun s3 I3 => ⟨.bl true, H, I3, rfl, q⟩
theorem din_core {n : Bool} {H : Hp} {L : List Item} {B : List (V × O)} {y x : V} {oy ox : O} {Q : VK} {p : List Key × List O} {kk : Option Key} (R : Rep K mg H L B) (hy : (y, oy) ∈ B) (hx : (x, ox) ∈ B) (e1 : dctP ox = some p) (e2 : keyN oy = some kk) (k : Q (.bl (hasK p.1 kk != n)) H) : rDin n y x H Q := by
  unfold keyN at e2
  split at e2
  · cases e2
    obtain ⟨a, kvs, rfl, g, _⟩ := R.dctV (ks := p.1) (os := p.2) hx e1
    exact .inr ⟨a, kvs, rfl, R.shNon hy rfl, g, k⟩
  · cases e3 : keyO oy with
    | none => rw [e3] at e2; cases e2
    | some key =>
      rw [e3] at e2
      cases e2
      obtain ⟨a, r, rfl, g, g1, _⟩ := dget (ks := p.1) (os := p.2) R hx hy e1 e3
      obtain ⟨_, kvs, _, _, f2, _, f4, _⟩ := R.dctV (ks := p.1) (os := p.2) hx e1
      have : hasK p.1 (some key) = r.isSome := by
        rw [← g1]
        show (idxK p.1 key).isSome = _
        cases ej : idxK p.1 key with
        | none => rfl
        | some j =>
          have hj : j < p.1.length := by
            unfold idxK at ej
            exact (List.findIdx?_eq_some_iff_getElem.mp ej).1
          have : j < p.2.length := by
            have h9 := congrArg List.length f2
            simp at h9
            omega
          show true = (p.2[j]?).isSome
          rw [List.getElem?_eq_getElem this]; rfl
      rw [this] at k
      exact .inl ⟨a, r, rfl, g, k⟩
theorem opv_din : OpV K mg (rDin false) dinO := by
  intro H L B y x oy ox o Q R hy hx e k
  unfold dinO at e
  cases e1 : dctP ox with
  | none => rw [e1] at e; cases e
  | some p =>
    cases e2 : keyN oy with
    | none => rw [e1, e2] at e; cases e
    | some kk =>
      rw [e1, e2] at e
      cases e
      have := k _ H (Same.refl _) (R.scalB (v := .bl (hasK p.1 kk)) (d := .bl (hasK p.1 kk)) fun _ => .bl _)
      exact din_core R hy hx e1 e2 (by simpa using this)
theorem opv_dnin : OpV K mg (rDin true) dninO := by
  intro H L B y x oy ox o Q R hy hx e k
  unfold dninO at e
  cases e1 : dctP ox with
  | none => rw [e1] at e; cases e
  | some p =>
    cases e2 : keyN oy with
    | none => rw [e1, e2] at e; cases e
    | some kk =>
      rw [e1, e2] at e
      cases e
      have := k _ H (Same.refl _) (R.scalB (v := .bl (!hasK p.1 kk)) (d := .bl (!hasK p.1 kk)) fun _ => .bl _)
      exact din_core R hy hx e1 e2 (by simpa using this)
def inF (a b : O) : Option O := if (dctP b).isSome = true then dinO a b else inO a b
def ninF (a b : O) : Option O := if (dctP b).isSome = true then dninO a b else ninO a b
def rInG (K : PySem.W.Frag) : R2 := fun x y H Q => rInF K x y H Q ∨ rDin false x y H Q
def rNinG (K : PySem.W.Frag) : R2 := fun x y H Q => rNinF K x y H Q ∨ rDin true x y H Q
theorem op_inG (ok : CxOk X) : OpR X (compareOp .In) (rInG X.K) := (op_inF ok).or (op_din ok)
theorem op_ninG (ok : CxOk X) : OpR X (compareOp .NotIn) (rNinG X.K) := (op_ninF ok).or (op_dnin ok)
theorem opv_inG : OpV K mg (rInG K) inF := by
  intro H L B x y ox oy o Q R hx hy e k
  unfold inF at e
  split at e
  · exact .inr (opv_din H L B x y ox oy o Q R hx hy e k)
  · exact .inl (opv_in H L B x y ox oy o Q R hx hy e k)
theorem opv_ninG : OpV K mg (rNinG K) ninF := by
  intro H L B x y ox oy o Q R hx hy e k
  unfold ninF at e
  split at e
  · exact .inr (opv_dnin H L B x y ox oy o Q R hx hy e k)
  · exact .inl (opv_nin H L B x y ox oy o Q R hx hy e k)
/-! ### d.get(k, x) -/
def getK (p : List Key × List O) (c : O) : Option Key → O
  | none => c
  | some k => ((idxK p.1 k).bind fun j => p.2[j]?).getD c
def getO (a b c : O) : Option O := (dctP a).bind fun p => (keyN b).map (getK p c)
theorem d_getNone {pins : List (Addr × Obj)} {σ : L2.St} {H : Hp} {s : Shared} {a : Addr} {kvs : List (Key × V)} {A : Around} {E : Value → Shared → Prop} {r : Value} {Q : Value → Shared → Prop} (I : Inv X pins σ H s) (e : Rd H a (.dK kvs)) (h : ∀ s', Inv X pins σ H s' → Q r s') :
    wpAny (model X.prog X.w) A (call (.builtin "dict.get") [.ref a, .none, r]) Q E s := by
  obtain ⟨_, hd, vs, _, dd⟩ := dk_rd I.hok e
  obtain ⟨f, hm, hf⟩ := none_map dd
  refine call_meetsIn PySem.F.slot_dict_get dd.typeIs PySem.F.entry_dict_get (PySem.F.args_dict_get_3 _ _ _) (meets_dict_get_default (noneKind X.prog X.w) a (show (noneKind X.prog X.w).is none .none = true from rfl) hd r) ⟨f, hm, ?_⟩
  rw [hf]
  exact h _ (I.tok _)
def tGetN (td ty tx : TE) : TE := fun σ H Q => td σ H fun x H1 => ∃ a, x = .ref a ∧ IsD H1 a ∧ ty σ H1 fun y H2 => tx σ H2 fun z H3 => (∃ o, DGet H3 a y o ∧ Q (o.getD z) H3) ∨ (∃ kvs, y = .non ∧ Rd H3 a (.dK kvs) ∧ Q z H3)
theorem pe_getN {o e f : Expr} {apos cpos : Pos} {td ty tx : TE} (hu : X.A.units + 1 < cLine) (ho : PE X o td) (he : PE X e ty) (hf : PE X f tx) (m : M2 X o "get" apos e f cpos) : PE X (.Call (.Attribute o "get" apos) [e, f] [] cpos) (tGetN td ty tx) := by
  refine ⟨fun pins s σ H Q I h => ?_⟩
  refine wpAny_Call_method m.base m.few m.line PySem.F.plainAttrs_dict PySem.F.slot_dict_get PySem.F.type_dict_get (thn (ho.run pins s σ H _ I h) fun u s1 ⟨x, H1, I1, rx, a, ex, d, q1⟩ => ?_)
  subst ex
  obtain rfl : u = Value.ref a := rx
  obtain ⟨t1, t2, _⟩ := isD_at I1 d
  refine ⟨t1, t2, ?_⟩
  rw [m.trees]
  refine Calls.callWith_builtin rfl (Calls.evalArgs_plain (Calls.spliced_cons (thn (he.run pins s1 σ H1 _ I1 q1) fun iv s2 ⟨y, H2, I2, ry, q2⟩ => Calls.spliced_cons (thn (hf.run pins s2 σ H2 _ I2 q2) fun fv s3 ⟨z, H3, I3, rz, q3⟩ => Calls.spliced_nil ?_))))
  rcases q3 with ⟨ov, g, q3⟩ | ⟨kvs, ey, g, q3⟩
  · exact d_get2 hu I3 g ry rz fun w' s4 I4 rw' => ⟨_, H3, I4, rw', q3⟩
  · subst ey
    obtain rfl : iv = Value.none := ry
    exact d_getNone I3 g fun s4 I4 => ⟨z, H3, I4, rz, q3⟩
def p3 (op : O → O → O → Option O) (f g h : Pf) : Pf := fun ρ => (f ρ).bind fun a => (g ρ).bind fun b => (h ρ).bind fun c => op a b c
theorem sp_get {o e d : Expr} {apos cpos : Pos} {f g h : Pf} (ok : CxOk X) (ho : SP X o f) (he : SP X e g) (hd : SP X d h) (m : M2 X o "get" apos e d cpos := by exact ⟨rfl, rfl, rfl, rfl⟩) : SP X (.Call (.Attribute o "get" apos) [e, d] [] cpos) (p3 getO f g h) :=
  PE.imp (pe_getN (by have := ok.units; omega) ho he hd m) fun σ H Q q => by
    obtain ⟨ρ, T, B, r, cv, R, e, k⟩ := q
    unfold p3 at e
    cases e1 : f ρ with
    | none => rw [e1] at e; cases e
    | some a =>
      cases e2 : g ρ with
      | none => rw [e1, e2] at e; cases e
      | some b =>
        cases e3 : h ρ with
        | none => rw [e1, e2, e3] at e; cases e
        | some c =>
          rw [e1, e2, e3] at e
          have e : getO a b c = some r := e
          unfold getO at e
          cases e4 : dctP a with
          | none => rw [e4] at e; cases e
          | some p =>
            cases e5 : keyN b with
            | none => rw [e4, e5] at e; cases e
            | some kk =>
              rw [e4, e5] at e
              have e : getK p c kk = r := Option.some.inj e
              refine ⟨ρ, T, B, a, cv, R, e1, fun x H1 s1 R1 => ?_⟩
              obtain ⟨pa, kvs, rfl, g1, _⟩ := R1.dctV (ks := p.1) (os := p.2) (List.mem_cons_self ..) e4
              refine ⟨pa, rfl, .inl ⟨kvs, g1⟩, ρ, T, _, b, cv, R1, e2, fun y H2 s2 R2 => ⟨ρ, T, _, c, cv, R2, e3, fun z H3 s3 R3 => ?_⟩⟩
              have drop : ∀ {v : V}, Rep X.K X.mg H3 (pairs σ ρ ++ T) ((v, r) :: (z, c) :: (y, b) :: (.ref pa, a) :: B) → Rep X.K X.mg H3 (pairs σ ρ ++ T) ((v, r) :: B) := fun R => R.bsub fun w hw => by
                rcases List.mem_cons.mp hw with hw | hw
                · simp [hw]
                · simp [hw]
              unfold keyN at e5
              split at e5
              · cases e5
                have e : c = r := e
                subst e
                obtain ⟨pa', kvs', ex, g2, _⟩ := R3.dctV (x := .ref pa) (a := a) (ks := p.1) (os := p.2) (by simp) e4
                cases ex
                refine .inr ⟨kvs', R3.shNon (o := .val .non) (by simp) rfl, g2, k z H3 (s1.trans (s2.trans s3)) (R3.bsub fun w hw => ?_)⟩
                rcases List.mem_cons.mp hw with hw | hw
                · simp [hw]
                · simp [hw]
              · cases e6 : keyO b with
                | none => rw [e6] at e5; cases e5
                | some key =>
                  rw [e6] at e5
                  cases e5
                  obtain ⟨pa', rr, ex, g2, g3, g4⟩ := dget (x := .ref pa) (y := y) (ks := p.1) (os := p.2) R3 (by simp) (by simp) e4 e6
                  cases ex
                  have e : ((idxK p.1 key).bind fun j => p.2[j]?).getD c = r := e
                  refine .inl ⟨rr, g2, ?_⟩
                  cases e7 : ((idxK p.1 key).bind fun j => p.2[j]?) with
                  | none =>
                    rw [e7] at e g3
                    have e : c = r := e
                    subst e
                    cases rr with
                    | some _ => cases g3
                    | none =>
                      refine k z H3 (s1.trans (s2.trans s3)) (R3.bsub fun w hw => ?_)
                      rcases List.mem_cons.mp hw with hw | hw
                      · simp [hw]
                      · simp [hw]
                  | some o =>
                    rw [e7] at e
                    have e : o = r := e
                    subst e
                    obtain ⟨v, rfl, R4⟩ := g4 o e7
                    exact k v H3 (s1.trans (s2.trans s3)) (drop R4)
end
end FB

/-! join, reverse, dict(pairs), name[k] += e; rules. -/
namespace FB
open PySem PySem.Spec L2 TL
open PyProof.Rows hiding St
section
variable {X : Cx} {K : PySem.W.Frag} {mg : Str → Option Value}
/-! ### join -/
def strs? : List D → Option (List Str)
  | [] => some []
  | .str s :: ds => (strs? ds).map (s :: ·)
  | _ :: _ => none
theorem strs_eq : ∀ {ds : List D} {ys : List Str}, strs? ds = some ys → ds = ys.map D.str
  | [], _, h => by cases h; rfl
  | .str s :: ds, ys, h => by
    have h : (strs? ds).map (s :: ·) = some ys := h
    cases e : strs? ds with
    | none => rw [e] at h; cases h
    | some zs => rw [e] at h; cases h; rw [strs_eq e]; rfl
  | .non :: _, _, h => by cases h
  | .bl _ :: _, _, h => by cases h
  | .int _ :: _, _, h => by cases h
  | .tup _ :: _, _, h => by cases h
  | .lst _ :: _, _, h => by cases h
  | .dct _ _ :: _, _, h => by cases h
  | .ins _ _ _ :: _, _, h => by cases h
  | .scr _ :: _, _, h => by cases h
  | .fn _ :: _, _, h => by cases h
theorem Vws.strs {H : Hp} : ∀ {vs : List V} {ys : List Str}, Vws K mg H vs (ys.map D.str) → vs = ys.map V.str ∧ ∀ y ∈ ys, PyData.strOk y = true
  | _, [], .nil => ⟨rfl, by simp⟩
  | _, y :: ys, .cons h t => by
    obtain ⟨e, o⟩ := Vws.strs t
    cases h with
    | str _ hy =>
      refine ⟨by rw [e]; rfl, fun z hz => ?_⟩
      rcases List.mem_cons.mp hz with q | q
      · rw [q]; exact hy
      · exact o z q
theorem strOk_iff {s : Str} : PyData.strOk s = true ↔ ∀ c ∈ s.cps.toList, decide (c < 0x110000) = true := by
  show s.cps.all (· < 0x110000) = true ↔ _
  rw [← Array.all_toList, List.all_eq_true]
theorem joinL_mem {S : List Nat} {c : Nat} : ∀ {ps : List (List Nat)}, c ∈ joinL S ps → c ∈ S ∨ ∃ p ∈ ps, c ∈ p
  | [], h => by cases h
  | [p], h => .inr ⟨p, by simp, h⟩
  | p :: q :: r, h => by
    have h : c ∈ p ++ (S ++ joinL S (q :: r)) := h
    rcases List.mem_append.mp h with h | h
    · exact .inr ⟨p, by simp, h⟩
    · rcases List.mem_append.mp h with h | h
      · exact .inl h
      · rcases joinL_mem h with h | ⟨p', h1, h2⟩
        · exact .inl h
        · exact .inr ⟨p', List.mem_cons_of_mem _ h1, h2⟩
theorem join_ok {a : Str} {ys : List Str} (ha : PyData.strOk a = true) (h : ∀ y ∈ ys, PyData.strOk y = true) : PyData.strOk (Txt.join a ys) = true := by
  rw [join_eq, strOk_iff]
  intro c hc
  have hc : c ∈ joinL (tl a) (ys.map tl) := by rw [← tl_join]; exact hc
  rcases joinL_mem hc with q | ⟨p, hp, q⟩
  · exact strOk_iff.mp ha c q
  · obtain ⟨y, hy, rfl⟩ := List.mem_map.mp hp
    exact strOk_iff.mp (h y hy) c q
def joinD (a : Str) (d : D) : Option D := match d with
  | .lst ds => (strs? ds).bind fun ys => if (ys.map (·.length)).sum + ys.length * a.length ≤ 1000000 then some (.str (Txt.join a ys)) else none
  | _ => none
def mJoin (a : Str) (m : M O) : M O := fun ρ => (m ρ).bind fun o ρ1 => match joinD a o.toD with
  | some d => .ok (.val d) ρ1
  | none => .no
theorem se_join {a : Str} {j : Nat} {p apos pos : Pos} {e : Expr} {m : M O} (h : SE X e m) (ha : PyData.strOk a = true := by decide +kernel) (hs : starEach [e] X.env = [(false, eval e X.env)] := by rfl) (hbase : attributeBase (.Constant (.str a) j p) "join" X.env (eval (.Constant (.str a) j p) X.env) = eval (.Constant (.str a) j p) X.env := by rfl)
    (hline : (apos.endLine == pos.line) = true := by rfl) : SE X (.Call (.Attribute (.Constant (.str a) j p) "join" apos) [e] [] pos) (mJoin a m) :=
  PE.imp (pe_join pe_str h hs hbase hline) fun σ H Q w => by
    obtain ⟨ρ, T, o, ρ', c, R, e0, k⟩ := w
    obtain ⟨u, ρ1, e1, e0⟩ := Res.bind_eq e0
    refine ⟨⟨a, rfl⟩, ρ, T, u, ρ1, c, R, e1, fun y H1 c1 R1 => ?_⟩
    unfold joinD at e0
    have R2 := R1.frz
    cases hd : u.toD with
    | lst ds =>
      rw [hd] at e0 R2
      have e0 : (match (strs? ds).bind fun ys => if (ys.map (·.length)).sum + ys.length * a.length ≤ 1000000 then some (D.str (Txt.join a ys)) else none with | some d => Res.ok (O.val d) ρ1 | none => .no) = .ok o ρ' := e0
      cases es : strs? ds with
      | none => rw [es] at e0; cases e0
      | some ys =>
        rw [es] at e0
        have e0 : (match (if (ys.map (·.length)).sum + ys.length * a.length ≤ 1000000 then some (D.str (Txt.join a ys)) else none) with | some d => Res.ok (O.val d) ρ1 | none => .no) = .ok o ρ' := e0
        by_cases hl : (ys.map (·.length)).sum + ys.length * a.length ≤ 1000000
        · rw [if_pos hl] at e0
          cases e0
          have ed := strs_eq es
          subst ed
          have q : Vw X.K X.mg H1 y (.lst (ys.map D.str)) := R2.lend.sh (List.mem_cons_self ..) rfl
          cases q with
          | lst q1 q2 =>
            obtain ⟨ev, ok⟩ := q2.strs
            subst ev
            exact ⟨a, _, ys, rfl, rfl, .inl (.inl q1), by omega, k _ H1 c1 ((R2.drop).scal fun _ => .str _ (join_ok ha ok))⟩
        · rw [if_neg hl] at e0; cases e0
    | _ => rw [hd] at e0; cases e0
/-! ### reverse -/
/-! ### dict(pairs) -/
def mergeL {α : Type} (acc : List Key × List α) (kvs : List (Key × α)) : List Key × List α := kvs.foldl (fun a kv => putL a.1 a.2 kv.1 kv.2) acc
def pr? : D → Option (Key × D)
  | .tup [k, d] => (keyO (.val k)).map fun k => (k, d)
  | _ => none
def prs? : List D → Option (List (Key × D))
  | [] => some []
  | d :: ds => (pr? d).bind fun p => (prs? ds).map (p :: ·)
theorem key_vw {G : Hp} {v : V} {d : D} {k : Key} (h : Vw K mg G v d) (e : keyO (.val d) = some k) : v = kV k := by
  cases h with
  | int i => cases e; rfl
  | str s _ => cases e; rfl
  | _ => cases e
theorem prs_views {G : Hp} : ∀ {vs : List V} {ds : List D} {kvs : List (Key × D)}, Vws K mg G vs ds → prs? ds = some kvs → ∃ (ps : List Addr) (ws : List (Key × V)), vs = ps.map V.ref ∧ Paired (fun p kv => SqT K G p [kV kv.1, kv.2]) ps ws ∧ ws.map (·.1) = kvs.map (·.1) ∧ Vws K mg G (ws.map (·.2)) (kvs.map (·.2))
  | _, _, _, .nil, h => by cases h; exact ⟨[], [], rfl, .nil, rfl, .nil⟩
  | v :: vs, d :: ds, kvs, .cons h t, e => by
    have e : (pr? d).bind (fun p => (prs? ds).map (p :: ·)) = some kvs := e
    cases e1 : pr? d with
    | none => rw [e1] at e; cases e
    | some p =>
      cases e2 : prs? ds with
      | none => rw [e1, e2] at e; cases e
      | some ps =>
        rw [e1, e2] at e
        cases e
        obtain ⟨as, ws, h1, h2, h3, h4⟩ := prs_views t e2
        unfold pr? at e1
        split at e1
        · rename_i k0 d0
          cases e5 : keyO (.val k0) with
          | none => rw [e5] at e1; cases e1
          | some kk =>
            rw [e5] at e1
            cases e1
            cases h with
            | tup h6 h7 =>
              rename_i a xs
              cases h7 with
              | cons h8 h9 =>
                cases h9 with
                | cons h10 h11 =>
                  cases h11
                  have ek := key_vw h8 e5
                  subst ek
                  rename_i v2
                  exact ⟨a :: as, (kk, v2) :: ws, by rw [h1]; rfl, .cons h6 h2, by simp [h3], .cons h10 h4⟩
        · cases e1
theorem Vws.putL {G : Hp} {ks : List Key} {vs : List V} {ds : List D} {k : Key} {v : V} {d : D} (h : Vws K mg G vs ds) (h1 : Vw K mg G v d) : Vws K mg G (putL ks vs k v).2 (putL ks ds k d).2 := by
  unfold FB.putL
  cases idxK ks k with
  | none => exact h.append (.cons h1 .nil)
  | some j => exact h.set h1 j
theorem putL_ks {α β : Type} (ks : List Key) (os : List α) (us : List β) (k : Key) (o : α) (u : β) : (putL ks os k o).1 = (putL ks us k u).1 := by
  unfold putL
  cases idxK ks k <;> rfl
theorem merge_views {G : Hp} : ∀ {ws : List (Key × V)} {kvs : List (Key × D)} {acc : List (Key × V)} {ks : List Key} {ds : List D}, ws.map (·.1) = kvs.map (·.1) → Vws K mg G (ws.map (·.2)) (kvs.map (·.2)) → acc.map (·.1) = ks → ks.Nodup → Vws K mg G (acc.map (·.2)) ds →
    (mergeK acc ws).map (·.1) = (mergeL (ks, ds) kvs).1 ∧ (mergeL (ks, ds) kvs).1.Nodup ∧ Vws K mg G ((mergeK acc ws).map (·.2)) (mergeL (ks, ds) kvs).2
  | [], [], acc, ks, ds, _, _, h1, h2, h3 => ⟨h1, h2, h3⟩
  | [], _ :: _, _, _, _, h, _, _, _, _ => by simp at h
  | _ :: _, [], _, _, _, h, _, _, _, _ => by simp at h
  | w :: ws, p :: kvs, acc, ks, ds, h, hv, h1, h2, h3 => by
    have hk : w.1 = p.1 := by simpa using congrArg List.head? h
    have ht : ws.map (·.1) = kvs.map (·.1) := by simpa using congrArg List.tail h
    cases hv with
    | cons hv1 hv2 =>
      obtain ⟨q1, q2⟩ := putK_eq acc w.1 w.2 (by rw [h1]; exact h2)
      rw [h1] at q1 q2
      have hn : (putL ks ds p.1 p.2).1.Nodup := by
        have := nodup_put (os := ds.map O.val) (k := p.1) (o := O.val p.2) h2
        rwa [putL_ks ks (ds.map O.val) ds p.1 (O.val p.2) p.2] at this
      have r := merge_views (acc := putK acc w.1 w.2) (ks := (putL ks ds p.1 p.2).1) (ds := (putL ks ds p.1 p.2).2) ht hv2 (by rw [q1, hk]; exact putL_ks ..) hn (by rw [q2, hk]; exact Vws.putL h3 hv1)
      exact r
def dctOf (kvs : List (Key × D)) : D := .dct (mergeL ([], []) kvs).1 (mergeL ([], []) kvs).2
def dpK2 (ρ : Env) : Option (List (Key × D)) → Res O
  | some kvs => .ok (.val (dctOf kvs)) ρ
  | none => .no
def dpK1 (ρ : Env) : D → Res O
  | .lst ds => dpK2 ρ (prs? ds)
  | _ => .no
def mDictP (m : M O) : M O := fun ρ => (m ρ).bind fun o ρ1 => dpK1 ρ1 o.toD
theorem se_dictP {a : Expr} {p pos : Pos} {m : M O} (ok : CxOk X) (hg : Gl X "dict") (hm : X.mg "dict" = none) (hv : bootBuiltins "dict" = some (.type "dict")) (ha : SE X a m)
    (hst : starEach (a :: []) X.env = (false, eval a X.env) :: starEach [] X.env := by rfl) (hpl : (backTo pos (starEach [] X.env)).any (·.1) = false := by rfl) : SE X (.Call (.Name "dict" p) [a] [] pos) (mDictP m) :=
  PE.imp (pe_callTy (call_dictP ok.calm) hg hm hv (pa_cons ha pa_nil hst) (by decide) (by decide) hst hpl) fun σ H Q w => by
    obtain ⟨ρ, T, o, ρ', c, R, e0, k⟩ := w
    obtain ⟨u, ρ1, e1, e0⟩ := Res.bind_eq e0
    refine ⟨ρ, T, u, ρ1, c, R, e1, fun y H1 c1 R1 => ?_⟩
    have R2 := R1.frz
    cases hd : u.toD with
    | lst ds =>
      rw [hd] at e0 R2
      have e0 : dpK2 ρ1 (prs? ds) = .ok o ρ' := e0
      cases ep : prs? ds with
      | none => rw [ep] at e0; cases e0
      | some kvs =>
        rw [ep] at e0
        cases e0
        obtain ⟨A, nd, okk, _⟩ := id R2
        cases okk with
        | cons h t =>
          rename_i a9 b9
          cases h with
          | ov h =>
            cases h with
            | val h =>
              cases h with
              | lst q1 q2 =>
                rename_i pa vs
                obtain ⟨ps, ws, ev, h2, h3, h4⟩ := prs_views q2 ep
                subst ev
                have pm : Paired (fun p kv => SqT X.K H1 p [kV kv.1, kv.2]) ps ws := by
                  clear h3 h4 q1 q2 ep nd t R2 R1
                  induction h2 with
                  | nil => exact .nil
                  | cons h _ ih => exact .cons (sqT_hide h) ih
                obtain ⟨m1, m2, m3⟩ := merge_views (acc := []) (ks := []) (ds := []) h3 h4 rfl List.nodup_nil .nil
                refine ⟨pa, ps, ws, rfl, .inl (rd_hide q1), pm, fun q hq => k _ _ c1 ?_⟩
                have R3 := (Rep.drop R2).grow (sameNew (o := .dK (mergeK [] ws)) hq)
                have hnew : q ∉ a9 := fun z => by
                  obtain ⟨u, g⟩ := t.dom q z
                  rw [hq] at g; cases g
                obtain ⟨A', nd', ok', _⟩ := (Rep.drop R2)
                have e : Same (hide H1 ([] ++ a9)) (hide (upd H1 q (.dK (mergeK [] ws))) a9) := hide_same fun a o ha g => ⟨by simpa using ha, by rw [upd_ne (ne_of_none g hq)]; exact g⟩
                refine ⟨a9, (List.nodup_append.mp nd).2.1, .cons (as := []) (.ov (.val (.dct (kvs := mergeK [] ws) (.inl ?_) ⟨m1, m2⟩ (m3.mono e)))) (t.mono e fun a ha => upd_ne fun z => hnew (z ▸ ha)), fun _ z => by simp at z⟩
                rw [hide_out hnew]; exact upd_same
    | _ => rw [hd] at e0; cases e0
/-! ### name[k] += e, ints -/
end
/-! ### rules -/
variable {ρ : Env}
def p3K (op : O → O → O → Option O) : Option O → Option O → Option O → Option O
  | some a, some b, some c => op a b c
  | _, _, _ => none
@[simp] theorem e_p3 (op : O → O → O → Option O) (f g h : Pf) : p3 op f g h ρ = p3K op (f ρ) (g ρ) (h ρ) := by
  unfold p3 p3K
  cases f ρ <;> cases g ρ <;> cases h ρ <;> rfl
@[simp] theorem e_p3K (op : O → O → O → Option O) (a b c : O) : p3K op (some a) (some b) (some c) = op a b c := (rfl)
@[simp] theorem ixF_dct (ks : List Key) (os : List O) (b : O) : ixF (.dct ks os) b = dgO (.dct ks os) b := (rfl)
@[simp] theorem ixF_vdct (ks : List Key) (ds : List D) (b : O) : ixF (.val (.dct ks ds)) b = dgO (.val (.dct ks ds)) b := (rfl)
@[simp] theorem ixF_lst (os : List O) (b : O) : ixF (.lst os) b = ixO (.lst os) b := (rfl)
@[simp] theorem ixF_vlst (ds : List D) (b : O) : ixF (.val (.lst ds)) b = ixO (.val (.lst ds)) b := (rfl)
@[simp] theorem ixF_vtup (ds : List D) (b : O) : ixF (.val (.tup ds)) b = ixO (.val (.tup ds)) b := (rfl)
@[simp] theorem ixF_vstr (s : Str) (b : O) : ixF (.val (.str s)) b = ixO (.val (.str s)) b := (rfl)
@[simp] theorem ixF_vscr (s : List Int) (b : O) : ixF (.val (.scr s)) b = ixO (.val (.scr s)) b := (rfl)
@[simp] theorem inF_dct (a : O) (ks : List Key) (os : List O) : inF a (.dct ks os) = dinO a (.dct ks os) := (rfl)
@[simp] theorem inF_vdct (a : O) (ks : List Key) (ds : List D) : inF a (.val (.dct ks ds)) = dinO a (.val (.dct ks ds)) := (rfl)
@[simp] theorem inF_vlst (a : O) (ds : List D) : inF a (.val (.lst ds)) = inO a (.val (.lst ds)) := (rfl)
@[simp] theorem inF_vtup (a : O) (ds : List D) : inF a (.val (.tup ds)) = inO a (.val (.tup ds)) := (rfl)
@[simp] theorem inF_vstr (a : O) (s : Str) : inF a (.val (.str s)) = inO a (.val (.str s)) := (rfl)
@[simp] theorem inF_lst (a : O) (os : List O) : inF a (.lst os) = inO a (.lst os) := (rfl)
@[simp] theorem ninF_dct (a : O) (ks : List Key) (os : List O) : ninF a (.dct ks os) = dninO a (.dct ks os) := (rfl)
@[simp] theorem ninF_vdct (a : O) (ks : List Key) (ds : List D) : ninF a (.val (.dct ks ds)) = dninO a (.val (.dct ks ds)) := (rfl)
@[simp] theorem ninF_vlst (a : O) (ds : List D) : ninF a (.val (.lst ds)) = ninO a (.val (.lst ds)) := (rfl)
@[simp] theorem ninF_vtup (a : O) (ds : List D) : ninF a (.val (.tup ds)) = ninO a (.val (.tup ds)) := (rfl)
@[simp] theorem ninF_vstr (a : O) (s : Str) : ninF a (.val (.str s)) = ninO a (.val (.str s)) := (rfl)
@[simp] theorem ninF_lst (a : O) (os : List O) : ninF a (.lst os) = ninO a (.lst os) := (rfl)
def jnK (a : Str) : Res O → Res O
  | .ok o ρ1 => (match joinD a o.toD with
    | some d => .ok (.val d) ρ1
    | none => .no)
  | .exc x ρ => .exc x ρ
  | .no => .no
def jnK2 (ρ : Env) : Option D → Res O
  | some d => .ok (.val d) ρ
  | none => .no
@[simp] theorem e_mJoin (a : Str) (m : M O) : mJoin a m ρ = jnK a (m ρ) := by unfold mJoin jnK; cases m ρ <;> rfl
@[simp] theorem e_jnK (a : Str) (o : O) : jnK a (.ok o ρ) = jnK2 ρ (joinD a o.toD) := by
  show (match joinD a o.toD with | some d => Res.ok (O.val d) ρ | none => .no) = _
  unfold jnK2
  cases joinD a o.toD <;> rfl
@[simp] theorem e_jnK2 (d : D) : jnK2 ρ (some d) = .ok (.val d) ρ := (rfl)
theorem strs_map : ∀ ys : List Str, strs? (ys.map D.str) = some ys
  | [] => rfl
  | y :: ys => by
    show (strs? (ys.map D.str)).map (y :: ·) = _
    rw [strs_map ys]; rfl
theorem joinD_strs (a : Str) (ys : List Str) (h : (ys.map (·.length)).sum + ys.length * a.length ≤ 1000000) : joinD a (.lst (ys.map D.str)) = some (.str (Txt.join a ys)) := by
  show ((strs? (ys.map D.str)).bind fun ys => if (ys.map (·.length)).sum + ys.length * a.length ≤ 1000000 then some (D.str (Txt.join a ys)) else none) = _
  rw [strs_map]
  show (if (ys.map (·.length)).sum + ys.length * a.length ≤ 1000000 then some (D.str (Txt.join a ys)) else none) = _
  rw [if_pos h]
def dpK : Res O → Res O
  | .ok o ρ => dpK1 ρ o.toD
  | .exc x ρ => .exc x ρ
  | .no => .no
@[simp] theorem e_mDictP (m : M O) : mDictP m ρ = dpK (m ρ) := by unfold mDictP dpK; cases m ρ <;> rfl
@[simp] theorem e_dpK (o : O) : dpK (.ok o ρ) = dpK1 ρ o.toD := (rfl)
@[simp] theorem e_dpK1 (ds : List D) : dpK1 ρ (.lst ds) = dpK2 ρ (prs? ds) := (rfl)
@[simp] theorem e_dpK2 (kvs : List (Key × D)) : dpK2 ρ (some kvs) = .ok (.val (dctOf kvs)) ρ := (rfl)
end FB

/-! Loops and comprehensions over what own names lend meanwhile. -/
namespace FB
open PySem PySem.Spec L2
open PyProof.Rows hiding St
section
variable {X : Cx} {K : PySem.W.Frag} {mg : Str → Option Value}
/-- slots Z stand; their things are aside (wi) and come back (re) -/
def tIG (K : PySem.W.Frag) (mg : Str → Option Value) (Z : List Nat) (f : Env → Option (List D)) (wi : Env → Env) (re : Env → Env → Env) : TI := fun σ H R => ∃ ρ T ds, Cov σ ρ ∧ Rep K mg H (pairs σ ρ ++ T) [] ∧ f ρ = some ds ∧
  ∀ J ks, Its K mg J ks ds → Cov σ (wi ρ) → Rep K mg H (ks ++ (pairs σ (wi ρ) ++ T)) [] → (∀ σ' ρ' H' M, Fix Z σ σ' → Cov σ' ρ' → Rep K mg H' (M ++ (pairs σ' ρ' ++ (ks ++ T))) [] → Cov σ' (re ρ ρ') ∧ Rep K mg H' (M ++ (pairs σ' (re ρ ρ') ++ T)) []) → R J H
def SIG (X : Cx) (tg it : Expr) (Z : List Nat) (f : Env → Option (List D)) (wi : Env → Env) (re : Env → Env → Env) : Prop := PI X tg it (tIG X.K X.mg Z f wi re)
def mCompG (f : Env → Option (List D)) (wi : Env → Env) (re : Env → Env → Env) (own : List Nat) (a : D → Env → Option Env) (t : M Bool) (e : M O) : M O := fun ρ => match f ρ with
  | some ds => if ds.length ≤ 1000000 then (compL own a t e ds (wipeE (wi ρ) own)).bind fun os ρ2 => .ok (.lst os) (re ρ (backE (wipeE ρ2 own) (wi ρ) own)) else .no
  | none => .no
theorem compG_core {Z : List Nat} {own : List Nat} {f : Env → Option (List D)} {wi : Env → Env} {re : Env → Env → Env} {a : D → Env → Option Env} {t : M Bool} {e : M O} (nd : own.Nodup) (σ : L2.St) (H : Hp) (Q : VK) (w : tM K mg (mCompG f wi re own a t e) σ H Q) : tLc (tIG K mg Z f wi re) (tG K mg (Wip own) a) (tMT K mg t) (tM K mg e) own σ H Q := by
  obtain ⟨ρ, T, o', ρ', cv, R, h, k⟩ := w
  unfold mCompG at h
  split at h
  · rename_i ds e1
    split at h
    · rename_i hl
      obtain ⟨fin, ρ2, e2, h⟩ := Res.bind_eq h
      cases h
      refine ⟨ρ, T, ds, cv, R, e1, fun J ks hJ c' R' rr D hD => ?_⟩
      refine comp_core0 nd (fun _ _ _ _ w => w) (fun _ _ _ w => w) (fun _ _ _ w => w) hl c' hJ R' e2 hD fun H' c2 R2 => ?_
      obtain ⟨c3, R3⟩ := rr σ _ H' [.ov (.ref D) (.lst fin)] (Fix.refl _ _) c2 (R2.perm (List.Perm.cons _ (rot _ _ _)))
      exact k _ H' c3 R3
    · cases h
  · cases h
theorem se_compG {Z : List Nat} {tg iter elt : Expr} {ifs : List Expr} {scope : Scope} {own : List (Str × Nat)} {pos : Pos} {f : Env → Option (List D)} {wi : Env → Env} {re : Env → Env → Env} {a : D → Env → Option Env} {t : M Bool} {e : M O} (ok : CxOk X) (hi : SIG X tg iter Z f wi re) (bo : BlkOk X.N X.env.scope scope own)
    (hg : ∀ (s : Shared) (H : Hp) (C : Addr) (cl : List (Str × Addr)) (fp : List Addr), SG (X.blk s H scope (compEnvC scope cl C X.env) fp) (Wip (own2 own)) tg a) (ht : ∀ (s : Shared) (H : Hp) (C : Addr) (cl : List (Str × Addr)) (fp : List Addr), SETs (X.blk s H scope (compEnvC scope cl C X.env) fp) ifs t)
    (he : ∀ (s : Shared) (H : Hp) (C : Addr) (cl : List (Str × Addr)) (fp : List Addr), SE (X.blk s H scope (compEnvC scope cl C X.env) fp) elt e) (nd : (own2 own).Nodup := by decide) (hs : ∀ x, foldedSetIterable iter X.env x = pure x := by intro _; rfl) :
    SE X (.ListComp elt [⟨tg, iter, ifs, 0⟩] scope pos) (mCompG f wi re (own2 own) a t e) :=
  PE.imp (pe_lc (wi := tIG X.K X.mg Z f wi re) (g := tG X.K X.mg (Wip (own2 own)) a) (tt := tMT X.K X.mg t) (te := tM X.K X.mg e) ok.calm ok.nd hi bo hg ht he hs) (compG_core nd)
theorem ss_setLcGP (i : Nat) {Z P : List Nat} {y : Str} {py : Pos} {tg iter elt : Expr} {ifs : List Expr} {scope : Scope} {own : List (Str × Nat)} {pos spos : Pos} {f : Env → Option (List D)} {wi : Env → Env} {re : Env → Env → Env} {a : D → Env → Option Env} {t : M Bool} {e : M O} (ok : CxOk X) (hy : X.N[i]? = some y) (hyl : X.env.scope.names.lookup y = some .local)
    (hsw : swapsWith (.ListComp elt [⟨tg, iter, ifs, 0⟩] scope pos) (some (.Name y py)) spos.line X.env = pure true) (hi : SIG X tg iter Z f wi re) (bo : BlkOk X.N X.env.scope scope own)
    (hg : ∀ (s : Shared) (H : Hp) (C : Addr) (cl : List (Str × Addr)) (fp : List Addr), SG (X.blk s H scope (compEnvC scope cl C X.env) fp) (Wip (own2 own)) tg a) (ht : ∀ (s : Shared) (H : Hp) (C : Addr) (cl : List (Str × Addr)) (fp : List Addr), SETs (X.blk s H scope (compEnvC scope cl C X.env) fp) ifs t)
    (he : ∀ (s : Shared) (H : Hp) (C : Addr) (cl : List (Str × Addr)) (fp : List Addr), SE (X.blk s H scope (compEnvC scope cl C X.env) fp) elt e) (hP : i ∉ P := by decide) (nd : (own2 own).Nodup := by decide) (hs : ∀ x, foldedSetIterable iter X.env x = pure x := by intro _; rfl) :
    SS X P (.Assign [.Name y py] (.ListComp elt [⟨tg, iter, ifs, 0⟩] scope pos) spos) (mSetP i (mCompG f wi re (own2 own) a t e)) :=
  PS.imp (ps_setLc (wi := tIG X.K X.mg Z f wi re) (g := tG X.K X.mg (Wip (own2 own)) a) (tt := tMT X.K X.mg t) (te := tM X.K X.mg e) ok.calm ok.nd hy hyl hsw hi bo hg ht he hs) fun D σ H w => by
    obtain ⟨ρ, T, c, R, h⟩ := tS_iff.mp w
    unfold mSetP at h
    cases e1 : mCompG f wi re (own2 own) a t e ρ with
    | ok o ρ1 =>
      rw [e1] at h
      exact compG_core nd σ H _ ⟨ρ, T, o, ρ1, c, R, e1, fun v H' c' R' => h _ H' (Fix.set hP) (c'.set i v _) (Rep.store c' R'.frz)⟩
    | exc x ρ1 => rw [e1] at h; exact h.elim
    | no => rw [e1] at h; exact h.elim
/-! zip of two own names -/
/-! one own name -/
def lstN (i : Nat) (ρ : Env) : Option (List D) := match ρ[i]? with
  | some (some a) => (match a.sh with
    | some (.lst xs) => some xs
    | _ => none)
  | _ => none
def wiN (i : Nat) (ρ : Env) : Env := ρ.set i none
def reN (i : Nat) (ρ ρ' : Env) : Env := match ρ[i]? with
  | some (some a) => ρ'.set i (some a)
  | _ => ρ'
theorem its_listS {a : Addr} {o : O} {ds : List D} (e : o.sh = some (.lst ds)) : Its K mg (Itl K a) [.ov (.ref a) o] ds := by
  intro L H R
  obtain ⟨p, vs, e1, hp, lp, R1⟩ := (Rep.lend R).shL (List.mem_cons_self ..) e
  cases e1
  refine ⟨fun i d hd => ?_, ⟨vs, .inl hp, by omega⟩⟩
  have hi : i < ds.length := (List.getElem?_eq_some_iff.mp hd).1
  have hv : vs[i]? = some (vs[i]'(by omega)) := by simp
  refine ⟨⟨vs, _, .inl hp, hv⟩, fun x H' y => ?_⟩
  obtain ⟨e2, y⟩ := y
  subst e2
  exact ⟨Same.refl _, (R1.nob.nth (y vs (.inl hp)) hd).keep⟩
theorem si_lstN (i : Nat) {tg : Expr} {x : Str} {p : Pos} (hN : X.N[i]? = some x := by rfl) (hv : Vis X.env.scope x := by first | exact Or.inl rfl | exact Or.inr (Or.inl rfl) | exact Or.inr (Or.inr rfl)) (hd : (x == ("__debug__" : Str)) = false := by decide) (hcd : (x == ("__classdict__" : Str)) = false := by decide) :
    SIG X tg (.Name x p) [i] (lstN i) (wiN i) (reN i) :=
  PI.imp (pi_list (pv i hN hv hd hcd)) fun σ H R w => by
    obtain ⟨ρ, T, ds, cv, Rp, e1, k⟩ := w
    unfold lstN at e1
    split at e1
    · rename_i a ea
      split at e1
      · rename_i xs sa
        cases e1
        obtain ⟨v, hv⟩ := cv.ex i a ea
        have R1 : Rep X.K X.mg H ([.ov v a] ++ (pairs σ (wiN i ρ) ++ T)) [] := Rp.perm ((pairs_take hv ea).append_right T)
        obtain ⟨pa, vs, ev1, hp1, _, _⟩ := (Rep.lend R1).shL (x := v) (o := a) (by simp) sa
        subst ev1
        have hi : i < ρ.length := (List.getElem?_eq_some_iff.mp ea).1
        refine ⟨_, hv, pa, rfl, ⟨vs, .inl hp1⟩, k _ [.ov (.ref pa) a] (its_listS sa) (cv.setn i) R1 fun σ' ρ' H' M f c' R' => ?_⟩
        have er : reN i ρ ρ' = ρ'.set i (some a) := by unfold reN; rw [ea]
        rw [er]
        have hv' : σ'[i]? = some (some (.ref pa)) := (f.2 i (by simp)).trans hv
        have hl' : ρ'.length = ρ.length := by rw [← c'.len, f.1, cv.len]
        refine ⟨c'.put hv' a, ?_⟩
        have S1 := Rep.slotDrop (M := M) (T := [.ov (.ref pa) a] ++ T) c' i R'
        have q2 : (M ++ (pairs σ' (ρ'.set i none) ++ ([.ov (.ref pa) a] ++ T)) : List Item).Perm (.ov (.ref pa) a :: (M ++ (pairs σ' (ρ'.set i none) ++ T))) := (List.Perm.append_left _ List.perm_middle).trans List.perm_middle
        exact (S1.perm q2).perm (List.perm_middle.symm.trans (List.Perm.append_left _ ((pairs_back hv' (by omega)).append_right _)))
      · cases e1
    · cases e1
end
theorem lstN_of {i : Nat} {ρ : Env} {a : O} {xs : List D} (ha : ρ[i]? = some (some a)) (sa : a.sh = some (.lst xs)) : lstN i ρ = some xs := by
  unfold lstN
  rw [ha]
  show (match a.sh with
    | some (.lst xs) => some xs
    | _ => none) = _
  rw [sa]
theorem e_mCompG {f : Env → Option (List D)} {wi : Env → Env} {re : Env → Env → Env} {own : List Nat} {a : D → Env → Option Env} {t : M Bool} {e : M O} {ρ ρ2 : Env} {ds : List D} {os : List O} (hf : f ρ = some ds) (hl : ds.length ≤ 1000000) (hc : compL own a t e ds (wipeE (wi ρ) own) = .ok os ρ2) :
    mCompG f wi re own a t e ρ = .ok (.lst os) (re ρ (backE (wipeE ρ2 own) (wi ρ) own)) := by
  unfold mCompG
  rw [hf]
  show (if ds.length ≤ 1000000 then (compL own a t e ds (wipeE (wi ρ) own)).bind fun os ρ2 => Res.ok (O.lst os) (re ρ (backE (wipeE ρ2 own) (wi ρ) own)) else .no) = _
  rw [if_pos hl, hc]; rfl
/-- a comprehension whose turns change the environment -/
theorem compL_inv {own : List Nat} {a : D → Env → Option Env} {e : M O} (I : Nat → Env → Prop) (P : Nat → O → Prop) : ∀ {ds : List D} {ρ : Env}, I 0 ρ →
    (∀ k d ρ, ds[k]? = some d → I k ρ → ∃ ρ1 o ρ2, a d ρ = some ρ1 ∧ e ρ1 = .ok o ρ2 ∧ P k o ∧ I (k + 1) (wipeE ρ2 own)) →
    ∃ os ρ', compL own a mTrue e ds ρ = .ok os ρ' ∧ os.length = ds.length ∧ (∀ k o, os[k]? = some o → P k o) ∧ I ds.length ρ' := by
  intro ds
  induction ds generalizing I P with
  | nil => intro ρ h0 _; exact ⟨[], ρ, rfl, rfl, fun k o h => by simp at h, h0⟩
  | cons d ds ih =>
    intro ρ h0 h
    obtain ⟨ρ1, o, ρ2, e1, e2, p, i1⟩ := h 0 d ρ rfl h0
    obtain ⟨os, ρ', e3, hl, hp, i2⟩ := ih (fun k => I (k + 1)) (fun k => P (k + 1)) i1 fun k d ρ hd hI => h (k + 1) d ρ (by simpa using hd) hI
    refine ⟨o :: os, ρ', ?_, by simp [hl], fun k o' ho => ?_, by simpa using i2⟩
    · unfold compL
      rw [e1]
      show (mTrue ρ1).bind _ = _
      rw [show mTrue ρ1 = .ok true ρ1 from rfl, Res.bind_ok, if_pos rfl, e2, Res.bind_ok, e3, Res.bind_ok]
    · cases k with
      | zero => simp at ho; subst ho; exact p
      | succ k => exact hp k o' (by simpa using ho)
end FB

/-! Texts of letters. -/
namespace FB
open PySem PySem.Spec L2 TL
open PyProof.Rows hiding St
@[simp] theorem eqv_str (a b : Str) : D.eqv (.str a) (.str b) = decide (a = b) := by
  unfold D.eqv D.pd
  simp only [PyData.eqv]
  by_cases h : a = b
  · subst h; simp
  · simp [h]
@[simp] theorem eqO_str (a b : Str) : eqO (.val (.str a)) (.val (.str b)) = some (.val (.bl (decide (a = b)))) := by rw [e_eqO (by simp) (by simp)]; simp
@[simp] theorem neO_str (a b : Str) : neO (.val (.str a)) (.val (.str b)) = some (.val (.bl (!decide (a = b)))) := by rw [e_neO (by simp) (by simp)]; simp
@[simp] theorem flat_str (a : Str) : D.flat (.str a) = true := (rfl)
@[simp] theorem flat_int (a : Int) : D.flat (.int a) = true := (rfl)
@[simp] theorem flat_non : D.flat .non = true := (rfl)
theorem Str_ext {a b : Str} (h : a.cps.toList = b.cps.toList) : a = b := by
  cases a; cases b
  congr
  exact Array.toList_inj.mp h
theorem inD_strs (x : Str) (ys : List Str) : inD (.str x) (.lst (ys.map D.str)) = some (ys.any fun y => decide (y = x)) := by
  have h : D.flat (.str x) = true ∧ (ys.map D.str).all D.flat = true := ⟨rfl, by simp⟩
  show (if D.flat (.str x) = true ∧ (ys.map D.str).all D.flat = true then some ((ys.map D.str).any fun e => e.eqv (.str x)) else _) = _
  rw [if_pos h, List.any_map]
  refine congrArg some (congrArg (fun p => ys.any p) ?_)
  funext y
  exact eqv_str y x
/-- a text of letters, by their places -/
def SL (l : List Nat) : Str := ⟨(l.map (97 + ·)).toArray⟩
theorem SL_tl (l : List Nat) : (SL l).cps.toList = l.map (97 + ·) := rfl
theorem SL_len (l : List Nat) : (SL l).length = l.length := by
  show (SL l).cps.size = _
  unfold SL; simp
theorem SL_inj {l m : List Nat} (h : SL l = SL m) : l = m := by
  have : (SL l).cps.toList = (SL m).cps.toList := by rw [h]
  rw [SL_tl, SL_tl] at this
  exact (List.map_inj_right (fun a b h => by omega)).mp this
theorem SL_app (l m : List Nat) : SL l ++ SL m = SL (l ++ m) := by
  apply Str_ext
  have := tl_append (SL l) (SL m)
  rw [show (SL l ++ SL m).cps.toList = tl (SL l ++ SL m) from rfl, this, SL_tl]
  show (SL l).cps.toList ++ (SL m).cps.toList = _
  rw [SL_tl, SL_tl, List.map_append]
theorem SL_rep (l : List Nat) (n : Nat) : repS (SL l) n = SL (List.replicate n l).flatten := by
  apply Str_ext
  show (List.replicate n (SL l).cps.toList).flatten = _
  rw [SL_tl, SL_tl]
  induction n with
  | zero => rfl
  | succ n ih => rw [List.replicate_succ, List.replicate_succ, List.flatten_cons, List.flatten_cons, List.map_append, ih]
theorem joinL0 : ∀ ps : List (List Nat), joinL [] ps = ps.flatten
  | [] => rfl
  | [p] => by show p = _; simp
  | p :: q :: r => by
    show p ++ ([] ++ joinL [] (q :: r)) = _
    rw [joinL0 (q :: r), List.nil_append]; simp
theorem join_SL (ls : List (List Nat)) : Txt.join "" (ls.map SL) = SL ls.flatten := by
  apply Str_ext
  rw [join_eq, show (Str.join "" (ls.map SL)).cps.toList = tl (Str.join "" (ls.map SL)) from rfl, tl_join]
  rw [show tl ("" : Str) = [] from rfl, joinL0, SL_tl]
  induction ls with
  | nil => rfl
  | cons l ls ih => rw [List.map_cons, List.map_cons, List.flatten_cons, List.flatten_cons, List.map_append, ih]; rfl
theorem joinD_SL (ls : List (List Nat)) (h : (ls.map List.length).sum ≤ 1000000) : joinD "" (.lst ((ls.map SL).map D.str)) = some (.str (SL ls.flatten)) := by
  rw [joinD_strs _ _ ?_, join_SL]
  have e1 : (("" : Str)).length = 0 := rfl
  rw [e1, Nat.mul_zero, Nat.add_zero, List.map_map]
  rw [show (fun x : Str => x.length) ∘ SL = List.length from by funext l; exact SL_len l]
  exact h
theorem letters_tl : (("abcdefghijklmnopqrstuvwxyz" : Str)).cps.toList = (List.range 26).map (97 + ·) := by decide +kernel
theorem letter_at (i : Nat) (h : i < 26) : ixO (.val (.str "abcdefghijklmnopqrstuvwxyz")) (.val (.int (i : Int))) = some (.val (.str (SL [i]))) := by
  have hl : (("abcdefghijklmnopqrstuvwxyz" : Str)).length ≤ 1000000 := by decide +kernel
  show (if (("abcdefghijklmnopqrstuvwxyz" : Str)).length ≤ 1000000 then (atI (("abcdefghijklmnopqrstuvwxyz" : Str)).cps.toList (i : Int)).map fun c => O.val (.str ⟨#[c]⟩) else none) = _
  rw [if_pos hl, letters_tl, atN, List.getElem?_map, List.getElem?_range h]; rfl
theorem mulD_SL (l : List Nat) (n : Nat) (h1 : n < 1000000) (h : l.length * n ≤ 1000000) : mulD (.str (SL l)) (.int (n : Int)) = some (.str (SL (List.replicate n l).flatten)) := by
  show (if (n : Int) < 1000000 ∧ -1000000 < (n : Int) ∧ (SL l).length * (n : Int).toNat ≤ 1000000 then some (D.str (repS (SL l) (n : Int).toNat)) else none) = _
  rw [if_pos ⟨by omega, by omega, by rw [SL_len]; simpa using h⟩, Int.toNat_natCast, SL_rep]
theorem addD_SL (l m : List Nat) (h : l.length + m.length ≤ 1000000) : addD (.str (SL l)) (.str (SL m)) = some (.str (SL (l ++ m))) := by
  show (if (SL l).length + (SL m).length ≤ 1000000 then some (D.str (SL l ++ SL m)) else none) = _
  rw [SL_len, SL_len, if_pos h, SL_app]
/-- all items alike in kind -/
theorem list_of {α : Type} (f : α → O) (P : α → Prop) : ∀ {os : List O}, (∀ (k : Nat) (o : O), os[k]? = some o → ∃ b, P b ∧ o = f b) → ∃ bs : List α, os = bs.map f ∧ ∀ b ∈ bs, P b
  | [], _ => ⟨[], rfl, by simp⟩
  | o :: os, h => by
    obtain ⟨b, hb, e⟩ := h 0 o rfl
    obtain ⟨bs, e2, hp⟩ := list_of f P (os := os) fun k o' ho => h (k + 1) o' (by simpa using ho)
    refine ⟨b :: bs, by rw [e, e2]; rfl, fun c hc => ?_⟩
    rcases List.mem_cons.mp hc with q | q
    · rw [q]; exact hb
    · exact hp c q
/-- a right name -/
def NameOk (l : List Nat) : Prop := 1 ≤ l.length ∧ l.length ≤ 8 ∧ ∀ c ∈ l, c < 26
end FB

/-! Exceptions: statements and calls that may raise. -/
namespace FB
open PySem PySem.Spec L2
open PyProof.Rows hiding St

def Res.nr {α : Type} : Res α → Res α
  | .ok a ρ => .ok a ρ
  | _ => .no
@[simp] theorem Res.nr_ok {α : Type} (a : α) (ρ : Env) : (Res.ok a ρ).nr = .ok a ρ := rfl
@[simp] theorem Res.nr_no {α : Type} : (Res.no : Res α).nr = .no := rfl
@[simp] theorem Res.nr_exc {α : Type} (x : Exn) (ρ : Env) : (Res.exc x ρ : Res α).nr = .no := rfl
@[simp] theorem Res.bind_exc {α β : Type} (x : Exn) (ρ : Env) (f : α → Env → Res β) : (Res.exc x ρ : Res α).bind f = .exc x ρ := rfl
/-- raises nothing -/
def nx {α : Type} (m : M α) : M α := fun ρ => (m ρ).nr
@[simp] theorem nx_ap {α : Type} (m : M α) (ρ : Env) : nx m ρ = (m ρ).nr := (rfl)

section
variable {X : Cx} {K : PySem.W.Frag} {mg : Str → Option Value} {P : List Nat} {W : WX}
theorem ExI.nd {x : Exn} {d : Option Addr} {I : List Item} (h : ExI x d I) (e : x.ds = []) : d = none := by
  rcases h with h | ⟨_, _, h, _⟩
  · exact h.2.1
  · exact absurd e h
def ExP (K : PySem.W.Frag) (mg : Str → Option Value) (P : List Nat) (T : List Item) (W : WX) (σ : L2.St) (x : Exn) (ρ' : Env) : Prop :=
  ∀ cls d I σ' H', Fix P σ σ' → Cov σ' ρ' → mg x.c = some cls → ExI x d I → Rep K mg H' (I ++ (pairs σ' ρ' ++ T)) [] → W cls d σ' H'
def PostX (K : PySem.W.Frag) (mg : Str → Option Value) (P : List Nat) (T : List Item) (W : WX) (D : Ends) (σ : L2.St) : Res Fl → Prop
  | .exc x ρ' => ExP K mg P T W σ x ρ'
  | .ok f ρ' => Post K mg P T D σ (.ok f ρ')
  | .no => False
def tSX (K : PySem.W.Frag) (mg : Str → Option Value) (P : List Nat) (W : WX) (m : M Fl) : TS := fun D σ H => ∃ ρ T, Cov σ ρ ∧ Rep K mg H (pairs σ ρ ++ T) [] ∧ PostX K mg P T W D σ (m ρ)
def SSX (X : Cx) (P : List Nat) (W : WX) (st : Stmt) (m : M Fl) : Prop := PS X st (tSX X.K X.mg P W m)
def SSsX (X : Cx) (P : List Nat) (W : WX) (st : List Stmt) (m : M Fl) : Prop := PSs X st (tSX X.K X.mg P W m)
theorem postX_nr {T : List Item} {D : Ends} {σ : L2.St} {r : Res Fl} (h : PostX K mg P T W D σ r.nr) : Post K mg P T D σ r := by
  cases r with
  | ok f ρ' => exact h
  | exc x ρ' => exact h.elim
  | no => exact h.elim
theorem ssX_of {st : Stmt} {m : M Fl} (h : SS X P st m) : SSX X P W st (nx m) := PS.imp h fun D σ H w => by
  obtain ⟨ρ, T, c, R, q⟩ := w
  exact tS_iff.mpr ⟨ρ, T, c, R, postX_nr q⟩
/-- where no exception is wished for -/
theorem ss_ofX {st : Stmt} {m : M Fl} (h : SSX X P (fun _ _ _ _ => False) st m) : SS X P st (nx m) := PS.imp h fun D σ H w => by
  obtain ⟨ρ, T, c, R, q⟩ := tS_iff.mp w
  refine ⟨ρ, T, c, R, ?_⟩
  have q : Post X.K X.mg P T D σ (m ρ).nr := q
  cases e : m ρ with
  | ok f ρ' => rw [e] at q; exact q
  | exc x ρ' => rw [e] at q; exact q.elim
  | no => rw [e] at q; exact q.elim
theorem PostX.fix {T : List Item} {D : Ends} {σ σ1 : L2.St} (f : Fix P σ σ1) {r : Res Fl} (h : PostX K mg P T W D σ r) : PostX K mg P T W D σ1 r := by
  cases r with
  | ok fl ρ' => exact Post.fix (r := .ok fl ρ') f h
  | exc x ρ' => exact fun cls d I σ' H' g => h cls d I σ' H' (f.trans g)
  | no => exact h
theorem PostX.nx {T : List Item} {D D' : Ends} {σ : L2.St} {r : Res Fl} {g : Env → Res Fl} (h : PostX K mg P T W D σ (r.bind fun f ρ1 => match f with | .nx => g ρ1 | f => .ok f ρ1)) (e1 : D'.rt = D.rt) (e2 : D'.bk = D.bk) (e3 : D'.ct = D.ct)
    (q : ∀ ρ1 σ' H', Fix P σ σ' → Cov σ' ρ1 → Rep K mg H' (pairs σ' ρ1 ++ T) [] → PostX K mg P T W D σ (g ρ1) → D'.nx σ' H') : PostX K mg P T W D' σ r := by
  cases r with
  | ok fl ρ' =>
    cases fl with
    | nx => exact fun σ' H' f c R => q ρ' σ' H' f c R h
    | brk =>
      have h : Post K mg P T D σ (.ok .brk ρ') := h
      exact fun σ' H' f c R => by rw [e2]; exact h σ' H' f c R
    | ct =>
      have h : Post K mg P T D σ (.ok .ct ρ') := h
      exact fun σ' H' f c R => by rw [e3]; exact h σ' H' f c R
    | ret o =>
      have h : Post K mg P T D σ (.ok (.ret o) ρ') := h
      exact fun v σ' H' f c R => by rw [e1]; exact h v σ' H' f c R
  | exc x ρ' => exact h
  | no => exact h
theorem sssX_nil : SSsX X P W [] mSkip := PSs.imp pss_nil fun D σ H w => by
  obtain ⟨ρ, T, c, R, h⟩ := w
  have h : Post X.K X.mg P T D σ (.ok .nx ρ) := h
  exact h σ H (Fix.refl _ _) c R
theorem sssX_one {st : Stmt} {m : M Fl} (h : SSX X P W st m) : SSsX X P W [st] m := pss_one h
theorem sssX_cons {st : Stmt} {rest : List Stmt} {a b : M Fl} (h1 : SSX X P W st a) (h2 : SSsX X P W rest b) : SSsX X P W (st :: rest) (mSeq a b) := PSs.imp (pss_cons h1 h2) fun D σ H w => by
  obtain ⟨ρ, T, c, R, h⟩ := w
  refine ⟨ρ, T, c, R, PostX.nx (D := D) h rfl rfl rfl fun ρ1 σ' H' f c' R' h' => ?_⟩
  exact ⟨ρ1, T, c', R', h'.fix f⟩
theorem ssX_if {c : Expr} {a b : List Stmt} {pos : Pos} {t : M Bool} {m n : M Fl} (hc : SET X c t) (ha : SSsX X P W a m) (hb : SSsX X P W b n) : SSX X P W (.If c a b pos) (mIf (nx t) m n) := PS.imp (ps_if hc ha hb) fun D σ H w => by
  obtain ⟨ρ, T, cv, R, h⟩ := w
  have h : PostX X.K X.mg P T W D σ ((t ρ).nr.bind fun c ρ1 => if c = true then m ρ1 else n ρ1) := h
  cases e1 : t ρ with
  | ok u ρ1 =>
    rw [e1] at h
    refine ⟨ρ, T, u, ρ1, cv, R, e1, fun H' c' R' => ?_⟩
    cases u with
    | true => rw [if_pos rfl]; exact ⟨ρ1, T, c', R', h⟩
    | false => rw [if_neg Bool.false_ne_true]; exact ⟨ρ1, T, c', R', h⟩
  | exc x ρ1 => rw [e1] at h; exact h.elim
  | no => rw [e1] at h; exact h.elim
theorem PostX.more {ks T : List Item} {D : Ends} {σ : L2.St} {r : Res Fl} (h : PostX K mg P T W D σ r) : PostX K mg P (ks ++ T) W D σ r := by
  cases r with
  | ok fl ρ' => exact Post.more (r := .ok fl ρ') h
  | exc x ρ' =>
    intro cls d I σ' H' f c hm hI R
    refine h cls d I σ' H' f c hm hI ?_
    have R1 : Rep K mg H' (ks ++ (I ++ (pairs σ' ρ' ++ T))) [] := R.perm (((List.Perm.append_left I (rot _ _ _))).trans (rot _ _ _))
    exact R1.drops
  | no => exact h
/-- the turns of a loop whose body may raise -/
theorem for_coreX {J : It} {ks T : List Item} {ds : List D} {a : D → Env → Option Env} {b : M Fl} {D : Ends} {σ : L2.St} {H : Hp} {ρ : Env} (c : Cov σ ρ) (hJ : Its K mg J ks ds) (R : Rep K mg H (ks ++ (pairs σ ρ ++ T)) []) (h : PostX K mg P (ks ++ T) W D σ (forL a b ds ρ)) :
    ∃ V : Nat → Nat → L2.St → Hp → Prop, (∃ m, V 0 m σ H) ∧ ∀ i m σ H, V i m σ H →
      (J.stop i H ∧ D.nx σ H) ∨ (J.go i H ∧ ∃ N : L2.St → Hp → Prop, (∀ σ' H', N σ' H' → ∃ m', m' < m ∧ V (i + 1) m' σ' H') ∧ ∀ x H', J.yld i H x H' → tG K mg (Fix P) a x σ H' fun σ2 H2 => tSX K mg P W b { D with nx := N, ct := N, bk := D.nx } σ2 H2) := by
  let V : Nat → L2.St → Hp → Prop := fun i σ' H' => ∃ ρ', i ≤ ds.length ∧ Fix P σ σ' ∧ Cov σ' ρ' ∧ Rep K mg H' (ks ++ (pairs σ' ρ' ++ T)) [] ∧ PostX K mg P (ks ++ T) W D σ (forL a b (ds.drop i) ρ')
  refine ⟨fun i n σ' H' => n = ds.length - i ∧ V i σ' H', ⟨ds.length, by simp, ρ, Nat.zero_le _, Fix.refl _ _, c, R, h⟩, ?_⟩
  rintro i n σ1 H1 ⟨rfl, ρ2, hi, f1, c1, R1, h1⟩
  by_cases hlt : i < ds.length
  · have hd : ds[i]? = some ds[i] := by simp [hlt]
    obtain ⟨hgo, hy⟩ := (hJ _ H1 R1).1 i _ hd
    refine .inr ⟨hgo, fun σ' H' => V (i + 1) σ' H', fun σ' H' q => ⟨ds.length - (i + 1), by omega, rfl, q⟩, fun x H2 y => ?_⟩
    obtain ⟨_, R2⟩ := hy x H2 y
    rw [drop_cons hlt] at h1
    have h1 : PostX K mg P (ks ++ T) W D σ (match a ds[i] ρ2 with
      | none => .no
      | some ρ1 => (b ρ1).bind fun f ρ2 => match f with
        | .nx => forL a b (ds.drop (i + 1)) ρ2
        | .ct => forL a b (ds.drop (i + 1)) ρ2
        | .brk => .ok .nx ρ2
        | .ret o => .ok (.ret o) ρ2) := h1
    cases e2 : a ds[i] ρ2 with
    | none => rw [e2] at h1; exact h1.elim
    | some ρ3 =>
      rw [e2] at h1
      refine ⟨ρ2, ks ++ T, ds[i], ρ3, c1, R2.perm ((rot _ _ _).cons _), e2, fun σ3 f3 c3 R3 => ?_⟩
      refine ⟨ρ3, ks ++ T, c3, R3, ?_⟩
      have back : ∀ {H' : Hp} {σ' : L2.St} {ρ' : Env}, Rep K mg H' (pairs σ' ρ' ++ (ks ++ T)) [] → Rep K mg H' (ks ++ (pairs σ' ρ' ++ T)) [] := fun R => R.perm (rot _ _ _)
      have h1 : PostX K mg P (ks ++ T) W D σ ((b ρ3).bind fun f ρ2 => match f with
        | .nx => forL a b (ds.drop (i + 1)) ρ2
        | .ct => forL a b (ds.drop (i + 1)) ρ2
        | .brk => .ok .nx ρ2
        | .ret o => .ok (.ret o) ρ2) := h1
      cases e3 : b ρ3 with
      | exc x ρ4 =>
        rw [e3] at h1
        exact fun cls d I σ' H' f' => h1 cls d I σ' H' (f1.trans (f3.trans f'))
      | no => rw [e3] at h1; exact h1.elim
      | ok fl ρ4 =>
        rw [e3] at h1
        cases fl with
        | nx => exact fun σ' H' f' c' R' => ⟨ρ4, hlt, f1.trans (f3.trans f'), c', back R', h1⟩
        | ct => exact fun σ' H' f' c' R' => ⟨ρ4, hlt, f1.trans (f3.trans f'), c', back R', h1⟩
        | brk =>
          have h1 : Post K mg P (ks ++ T) D σ (.ok .nx ρ4) := h1
          exact fun σ' H' f' c' R' => h1 σ' H' (f1.trans (f3.trans f')) c' R'
        | ret o =>
          have h1 : Post K mg P (ks ++ T) D σ (.ok (.ret o) ρ4) := h1
          exact fun v σ' H' f' c' R' => h1 v σ' H' (f1.trans (f3.trans f')) c' R'
  · have e : i = ds.length := by omega
    subst e
    refine .inl ⟨(hJ _ H1 R1).2, ?_⟩
    rw [List.drop_length] at h1
    have h1 : Post K mg P (ks ++ T) D σ (.ok .nx ρ2) := h1
    exact h1 σ1 H1 f1 c1 (R1.perm (rot _ _ _))
theorem ssX_for {tg iter : Expr} {body : List Stmt} {pos : Pos} {m : M (List D)} {a : D → Env → Option Env} {b : M Fl} (ok : CxOk X) (hp : PassesOwn (model X.prog X.w) X.A X.env X.xe) (hi : SI X tg iter m) (hg : SG X (Fix P) tg a) (hb : SSsX X P W body b)
    (hs : ∀ x, foldedSetIterable iter X.env x = pure x := by intro _; rfl) : SSX X P W (.For tg iter body [] pos) (mFor (nx m) a b) :=
  PS.imp (ps_for hp ok.calm hi hg hb hs) fun D σ H w => by
    obtain ⟨ρ, T, cv, R, h⟩ := w
    have h : PostX X.K X.mg P T W D σ ((m ρ).nr.bind fun ds ρ1 => forL a b ds ρ1) := h
    cases e1 : m ρ with
    | exc x ρ1 => rw [e1] at h; exact h.elim
    | no => rw [e1] at h; exact h.elim
    | ok ds ρ1 =>
      rw [e1] at h
      exact ⟨ρ, T, ds, ρ1, cv, R, e1, fun J ks H' c' hJ R' => for_coreX c' hJ R' (PostX.more h)⟩

/-! ### raise -/
/-! ### expressions that may raise -/
def PostM (K : PySem.W.Frag) (mg : Str → Option Value) (T : List Item) (W : WX) (σ : L2.St) (Q : VK) : Res O → Prop
  | .ok o ρ' => ∀ v H', Cov σ ρ' → Rep K mg H' (.ov v o :: (pairs σ ρ' ++ T)) [] → Q v H'
  | .exc x ρ' => ∀ cls d I H', Cov σ ρ' → mg x.c = some cls → ExI x d I → Rep K mg H' (I ++ (pairs σ ρ' ++ T)) [] → W cls d σ H'
  | .no => False
def tMX (K : PySem.W.Frag) (mg : Str → Option Value) (W : WX) (m : M O) : TE := fun σ H Q => ∃ ρ T, Cov σ ρ ∧ Rep K mg H (pairs σ ρ ++ T) [] ∧ PostM K mg T W σ Q (m ρ)
def SEX (X : Cx) (W : WX) (e : Expr) (m : M O) : Prop := PE X e (tMX X.K X.mg W m)
theorem ssX_setP (i : Nat) {x : Str} {e : Expr} {pos pos' : Pos} {m : M O} (ok : CxOk X) (hi : X.N[i]? = some x) (hx : Loc X.env.scope x) (h : SEX X W e m) (hP : i ∉ P := by decide) (hs : swapsWith e (some (.Name x pos')) pos.line X.env = pure false := by rfl) (hf : X.fn x = true ∨ X.env.scope.names.lookup x = some .local := by first | exact .inl rfl | exact .inr rfl | assumption) :
    SSX X P W (.Assign [.Name x pos'] e pos) (mSetP i m) := PS.imp (ps_set ok.nd hi hx h hs hf) fun D σ H w => by
  obtain ⟨ρ, T, c, R, h⟩ := w
  refine ⟨ρ, T, c, R, ?_⟩
  unfold mSetP at h
  cases e1 : m ρ with
  | ok o ρ1 =>
    rw [e1] at h
    have h : Post X.K X.mg P T D σ (.ok .nx (ρ1.set i (some (.val o.toD)))) := h
    exact fun v H' c' R' => h _ H' (Fix.set hP) (c'.set i v _) (Rep.store c' R'.frz)
  | exc x ρ1 =>
    rw [e1] at h
    exact fun cls d I H' c' hm hI R' => h cls d I σ H' (Fix.refl _ _) c' hm hI R'
  | no => rw [e1] at h; exact h.elim
end

/-! ### defs that may raise -/
abbrev FSemX := List O → Res O
def runX (n N : Nat) (P : List Nat) (b : M Fl) : FSemX := fun os => match b (os.map some ++ List.replicate (N - os.length) none) with
  | .ok .nx ρ' => .ok (.val .non) (maskE n P ρ')
  | .ok (.ret o) ρ' => .ok o (maskE n P ρ')
  | .exc x ρ' => .exc x (maskE n P ρ')
  | _ => .no
def PostC (K : PySem.W.Frag) (mg : Str → Option Value) (T : List Item) (vs : List V) (Q : VK) (E : XK) : Res O → Prop
  | .ok o ρ' => ∀ v H', Rep K mg H' (.ov v o :: (pairs (vs.map some) ρ' ++ T)) [] → Q v H'
  | .exc x ρ' => ∀ cls d I H', mg x.c = some cls → ExI x d I → Rep K mg H' (I ++ (pairs (vs.map some) ρ' ++ T)) [] → E cls d H'
  | .no => False
/-- a def of n parameters means F -/
def spX (K : PySem.W.Frag) (mg : Str → Option Value) (n : Nat) (F : FSemX) : Sp := fun vs H Q E => ∃ os T, vs.length = n ∧ os.length = n ∧ Rep K mg H (zipI vs os ++ T) [] ∧ PostC K mg T vs Q E (F os)
section
variable {P : Program} {w : World} {K : PySem.W.Frag} {mg : Str → Option Value} {base : Heap}
theorem spX_len {n : Nat} {F : FSemX} : ∀ vs H Q E, spX K mg n F vs H Q E → vs.length = n := fun vs H Q E h => by
  obtain ⟨os, T, h1, _⟩ := h
  exact h1
theorem body_semX {X : Cx} {N n : Nat} {Pr : List Nat} {st : List Stmt} {b : M Fl} {Ns : List Str} {E : XK} (hNs : Ns.length = N) (hn : n ≤ N) (hb : SSsX X Pr (fun cls d _ H => E cls d H) st b) {vs : List V} {H : Hp} {Q : VK} (hsp : spX X.K X.mg n (runX n N Pr b) vs H Q E) : ∃ t, PSs X st t ∧ t { nx := fun _ H' => Q .non H', rt := Q } (L2.start Ns vs) H := by
  obtain ⟨os, T, h1, h2, R, e⟩ := hsp
  have es' : L2.start Ns vs = vs.map some ++ List.replicate (N - os.length) none := by unfold L2.start; rw [hNs, h1, h2]
  refine ⟨_, hb, os.map some ++ List.replicate (N - os.length) none, T, ?_, ?_, ?_⟩
  · rw [es']; exact cov_start vs os _ (by omega)
  · rw [es', pairs_start vs os _ (by omega)]; exact R
  · unfold runX at e
    have es : L2.start Ns vs = vs.map some ++ List.replicate (N - n) none := by unfold L2.start; rw [hNs, h1]
    cases e1 : b (os.map some ++ List.replicate (N - os.length) none) with
    | exc x ρ1 =>
      rw [e1] at e
      intro cls d I σ' H' f c hm hI R'
      rw [es] at f
      have hl : σ'.length = N := by rw [f.1]; simp [h1]; omega
      exact e cls d I H' hm hI (fn_post (M := I) h1 hn f c hl R')
    | no => rw [e1] at e; exact e.elim
    | ok fl ρ1 =>
      rw [e1] at e
      cases fl with
      | brk => exact e.elim
      | ct => exact e.elim
      | nx =>
        intro σ' H' f c R'
        rw [es] at f
        have hl : σ'.length = N := by rw [f.1]; simp [h1]; omega
        refine e .non H' (fn_post (M := [.ov .non (.val .non)]) h1 hn f c hl ?_)
        exact R'.scal fun _ => .non
      | ret o =>
        intro v σ' H' f c R'
        rw [es] at f
        have hl : σ'.length = N := by rw [f.1]; simp [h1]; omega
        exact e v H' (fn_post (M := [.ov v o]) h1 hn f c hl R')
theorem cal_semX {x : Str} {st : Stmt} {f : Addr} {fd : FuncData} {N ps : List Str} {k n m : Nat} {Pr : List Nat} {b : M Fl} (F : C8.Def K mg x st f fd) (bi : Binds K fd ps []) (S : FnScope N ps (C8.fnScope st)) (hn : ps.length = n := by rfl) (hm : N.length = m := by rfl) (hnm : n ≤ m := by decide)
    (hb : ∀ (cdv : Value) (A : Around) (outer : List PySem.Env) (s : Shared) (H : Hp) (E : XK), Room k (A.deeper (envOfC x (C8.fnScope st) s.heap.objs.size f cdv)) →
      Takes (cxOf (L2.CX P w) P w K mg base N x (C8.fnScope st) f cdv A outer s H E) (fun cls d _ H => E cls d H) → PassesOwn (model P w) (A.deeper (envOfC x (C8.fnScope st) s.heap.objs.size f cdv)) (envOfC x (C8.fnScope st) s.heap.objs.size f cdv) (cxOf (L2.CX P w) P w K mg base N x (C8.fnScope st) f cdv A outer s H E).xe →
      SSsX (cxOf (L2.CX P w) P w K mg base N x (C8.fnScope st) f cdv A outer s H E) Pr (fun cls d _ H => E cls d H) (C8.fnBody st) b) :
    CalX P w K mg base (k + 1) x (spX K mg n (runX n m Pr b)) := by
  obtain ⟨oc, od, dV, kV, doc, pm, an, cdv, ct, osl, e, lk, hcd⟩ := F.fn.ex
  refine ⟨f, fd, ps, ?_, F.mgf, F.kp, bi⟩
  subst e
  refine fn_of lk hcd S (fun vs H Q E h => by rw [hn]; exact spX_len vs H Q E h) fun A outer s H vs Q E hr h => ?_
  refine body_semX (X := cxOf (L2.CX P w) P w K mg base N x (C8.fnScope st) f cdv A outer s H E) (E := E) hm hnm (hb cdv A outer s H E hr ?_ ?_) h
  · exact takes_of (X := cxOf (L2.CX P w) P w K mg base N x (C8.fnScope st) f cdv A outer s H E) rfl rfl rfl rfl
  · exact passes_of (X := cxOf (L2.CX P w) P w K mg base N x (C8.fnScope st) f cdv A outer s H E) rfl
theorem bodyOkX {N ps : List Str} {qual : Str} {st : Stmt} {f : Addr} {cdv : Value} {A : Around} {outer : List PySem.Env} {s : Shared} {H : Hp} {E : XK} {k : Nat} (S : FnScope N ps (C8.fnScope st)) (hr : Room k (A.deeper (envOfC qual (C8.fnScope st) s.heap.objs.size f cdv))) :
    CxOk (cxOf (L2.CX P w) P w K mg base N qual (C8.fnScope st) f cdv A outer s H E) :=
  ⟨rfl, by show (A.deeper (envOfC qual (C8.fnScope st) s.heap.objs.size f cdv)).units + 65 < cLine; have := hr.un; omega, S.nd⟩
end
section
variable {X : Cx} {W : WX}
def mCallX (F : FSemX) (as : List Arg) : M O := fun ρ => (evA as ρ).nr.bind fun os ρ1 => match takeA as os ρ1 with
  | none => .no
  | some r => match F r.1 with
    | .ok o ρ' => .ok o (giveA as ρ' r.2)
    | .exc x ρ' => .exc x (giveA as ρ' r.2)
    | .no => .no
theorem ioOk_len {σ : L2.St} : ∀ {as : List Arg} {vs : List V}, IoOk as σ vs → vs.length = as.length := by
  intro as
  induction as with
  | nil => intro vs io; cases vs with
    | nil => rfl
    | cons => exact io.elim
  | cons a as ih => intro vs io; cases vs with
    | nil => cases a <;> exact io.elim
    | cons v vs => cases a with
      | v _ => simp [ih (vs := vs) io]
      | io _ => simp [ih (vs := vs) io.2]
theorem seX_call {n k j : Nat} {F : FSemX} {x : Str} {p pos : Pos} {e : Expr} {es : List Expr} {as : List Arg} (cl : CalX X.prog X.w X.K X.mg X.base k x (spX X.K X.mg n F)) (tk : Takes X W) (hr : Room j X.A) (hk : k ≤ j) (hg : Gl X x) (ha : SAs X (e :: es) as) (hn : as.length = n := by rfl)
    (hdb : (x == ("__debug__" : Str)) = false := by decide) (he : starEach (e :: es) X.env = (false, eval e X.env) :: starEach es X.env := by rfl) (hpl : (backTo pos (starEach es X.env)).any (·.1) = false := by rfl) :
    SEX X W (.Call (.Name x p) (e :: es) [] pos) (mCallX F as) := by
  obtain ⟨f, fd, ps, hF, hm, kp, bi⟩ := cl.ex
  refine PE.imp (pe_callS hF (hr.mono hk) hg hm kp bi (passAt tk) ha hdb he hpl) fun σ H Q w => ?_
  obtain ⟨ρ, T, c, R, h⟩ := w
  unfold mCallX at h
  cases e1 : evA as ρ with
  | exc x ρ1 => rw [e1] at h; exact h.elim
  | no => rw [e1] at h; exact h.elim
  | ok os ρ1 =>
    rw [e1] at h
    have h : PostM X.K X.mg T W σ Q (match takeA as os ρ1 with
      | none => .no
      | some r => match F r.1 with
        | .ok o ρ' => .ok o (giveA as ρ' r.2)
        | .exc x ρ' => .exc x (giveA as ρ' r.2)
        | .no => .no) := h
    cases e2 : takeA as os ρ1 with
    | none => rw [e2] at h; exact h.elim
    | some r =>
      rw [e2] at h
      refine ⟨ρ, T, os, ρ1, c, R, e1, fun vs H1 c1 hl io R1 => ?_⟩
      obtain ⟨c2, hl2, R2⟩ := take_ok c1 io e2 R1
      have hv : vs.length = n := by rw [ioOk_len io, hn]
      refine ⟨r.1, pairs σ r.2 ++ T, hv, by omega, R2, ?_⟩
      cases e3 : F r.1 with
      | no => simp only [e3] at h; exact h.elim
      | ok o ρ' =>
        simp only [e3] at h
        intro v H2 R3
        obtain ⟨c3, R4⟩ := give_ok (M := [.ov v o]) c2 io R3
        exact h v H2 c3 R4
      | exc x ρ' =>
        simp only [e3] at h
        intro cls d I H2 hm2 hI R3
        obtain ⟨c3, R4⟩ := give_ok (M := I) c2 io R3
        exact h cls d I H2 c3 hm2 hI R4
end
end FB

/-! Exceptions caught: suites, try; what the head says of the classes. -/
namespace FB
open PySem PySem.Spec L2
open PyProof.Rows hiding St

/-! ### the classes -/
def subX (es : List Str) (x y : Str) : Option Bool := if x ∈ es ∧ y ∈ es then some (subB x y) else none
theorem excCB_ok {K : PySem.W.Frag} {D : Addr} (h : excCB K D = true) : ExcC K D := by
  unfold excCB at h
  simp only [Bool.and_eq_true, decide_eq_true_eq] at h
  obtain ⟨h1, h2, h3, h4, h5, h6, h7, h8⟩ := h
  exact ⟨h1, h2, h3, h4, h5, h6, h7, h8⟩
theorem exAll_ok {K : PySem.W.Frag} {h : Heap} {mg : Str → Option Value} {es : List Str} (X : K.In h) (G : h.Ns mainGlobals mg) (c : exAllB es K = true) : ExAll K mg es := by
  have c := List.all_eq_true.mp c
  have q : ∀ x ∈ es, (He.eqO (PySem.W.nsIn K mainGlobals x) (some (some (.ref (He.ga K x)))) = true) ∧ excCB K (He.ga K x) = true ∧ PySem.W.kitOne K (.ref (He.ga K x)) (.type "ValueError") = some true ∧
      ∀ y ∈ es, PySem.W.kitOne K (.ref (He.ga K x)) (.ref (He.ga K y)) = some (subB x y) ∧ PySem.W.exmOne K (.ref (He.ga K x)) (.ref (He.ga K y)) = some (subB x y) := fun x hx => by
    have z := c x hx
    simp only [Bool.and_eq_true, decide_eq_true_eq, List.all_eq_true] at z
    exact z
  exact ⟨fun x hx => PySem.W.mg_of X G (He.eqO_ok (q x hx).1), fun x hx => excCB_ok (q x hx).2.1, fun x hx y hy => ((q x hx).2.2.2 y hy).1, fun x hx y hy => ((q x hx).2.2.2 y hy).2, fun x hx => (q x hx).2.2.1⟩
theorem xfB_ok2 {K : PySem.W.Frag} {es cs : List Str} {f : Str} (h : xfB2 es cs f K = true) : ∀ c ∈ cs, c ∈ es ∧ PySem.W.findIn K (.ref (He.ga K c)) f = some none := fun c hc => by
  have q := List.all_eq_true.mp h c hc
  rw [Bool.and_eq_true, decide_eq_true_eq, decide_eq_true_eq] at q
  exact q
/-! the head's hook, with wishes of one's own -/
theorem SaysP.says {px : List (PySem.W.Frag → Bool)} {fa : List He.Fa} {fn : List He.DefD} {K : PySem.W.Frag} (c : SaysP px fa fn K) : He.SaysD fa fn K ∧ ∀ p ∈ px, p K = true := by
  have c1 : ((He.obsD fa fn K).1 && px.all fun p => p K) = true := congrArg (fun z : He.AlD => z.1) c
  have c2 : (He.obsD fa fn K).2 = fn.map He.DefD.val := congrArg (fun z : He.AlD => z.2) c
  obtain ⟨h1, h2⟩ := Bool.and_eq_true_iff.mp c1
  exact ⟨Prod.ext h1 c2, fun p hp => List.all_eq_true.mp h2 p hp⟩

section
variable {X : Cx} {K : PySem.W.Frag} {mg : Str → Option Value} {P : List Nat} {W : WX}
/-! ### frames of what is known of a slot and the rest -/
def FrE (a : Addr) (i : Nat) (I : List Item) (σ : L2.St) (T : List Item) : Prop := σ[i]? = some (some (.ref a)) ∧ ∃ T0, T.Perm (I ++ T0)
theorem FrE.more {a : Addr} {i : Nat} {I T : List Item} {σ : L2.St} {z : Item} (h : FrE a i I σ T) : FrE a i I σ (z :: T) := by
  obtain ⟨h1, T0, h2⟩ := h
  exact ⟨h1, z :: T0, (h2.cons z).trans List.perm_middle.symm⟩
theorem FrE.fix {a : Addr} {i : Nat} {I T : List Item} {σ σ' : L2.St} (f : Fix (i :: P) σ σ') (h : FrE a i I σ T) : FrE a i I σ' T := ⟨(f.2 i (List.mem_cons_self ..)).trans h.1, h.2⟩
variable {a : Addr} {i : Nat} {I : List Item}
def tMF (K : PySem.W.Frag) (mg : Str → Option Value) (a : Addr) (i : Nat) (I : List Item) (m : M O) : TE := fun σ H Q => ∃ ρ T o ρ', Cov σ ρ ∧ FrE a i I σ T ∧ Rep K mg H (pairs σ ρ ++ T) [] ∧ m ρ = .ok o ρ' ∧ ∀ v H', Cov σ ρ' → Rep K mg H' (.ov v o :: (pairs σ ρ' ++ T)) [] → Q v H'
def SEF (X : Cx) (a : Addr) (i : Nat) (I : List Item) (e : Expr) (m : M O) : Prop := PE X e (tMF X.K X.mg a i I m)
theorem sef_one {op : BoolOp} {e : Expr} {pos : Pos} {m : M O} (h : SEF X a i I e m) : SEF X a i I (.BoolOp op [e] pos) m := pe_one h
theorem sef_and {x b : Expr} {rest : List Expr} {pos : Pos} {m n : M O} (ha : SEF X a i I x m) (hb : SEF X a i I (.BoolOp .And (b :: rest) pos) n) : SEF X a i I (.BoolOp .And (x :: b :: rest) pos) (mAndV m n) :=
  PE.imp (pe_and ha hb) fun σ H Q w => by
    obtain ⟨ρ, T, o, ρ', c, f, R, e, k⟩ := w
    obtain ⟨u, ρ1, e1, e⟩ := Res.bind_eq e
    refine ⟨ρ, T, u, ρ1, c, f, R, e1, fun v H' c' R' => ?_⟩
    split at e
    · refine ⟨true, R'.lend.shBl (List.mem_cons_self ..) rfl, ?_⟩
      rw [if_pos rfl]
      exact ⟨ρ1, T, o, ρ', c', f, R'.drop, e, k⟩
    · cases e
      have ev := R'.lend.shBl (List.mem_cons_self ..) rfl
      refine ⟨false, ev, ?_⟩
      rw [if_neg Bool.false_ne_true]
      exact k _ H' c' (ev ▸ R')
    · cases e
theorem sef_not {x : Expr} {pos : Pos} {m : M O} (h : SEF X a i I x m) : SEF X a i I (.UnaryOp .Not x pos) (mNotV m) := PE.imp (pe_not h) fun σ H Q w => by
  obtain ⟨ρ, T, o, ρ', c, f, R, e, k⟩ := w
  obtain ⟨u, ρ1, e1, e⟩ := Res.bind_eq e
  split at e
  · rename_i b
    cases e
    refine ⟨ρ, T, _, _, c, f, R, e1, fun v H' c' R' => ⟨b, R'.lend.shBl (List.mem_cons_self ..) rfl, k _ H' c' (R'.drop.scal fun _ => .bl _)⟩⟩
  · cases e
def tMsF (K : PySem.W.Frag) (mg : Str → Option Value) (a : Addr) (i : Nat) (I : List Item) (m : M (List O)) : TA := fun σ H Q => ∃ ρ T os ρ', Cov σ ρ ∧ FrE a i I σ T ∧ Rep K mg H (pairs σ ρ ++ T) [] ∧ m ρ = .ok os ρ' ∧ ∀ vs H', Cov σ ρ' → vs.length = os.length → Rep K mg H' (zipI vs os ++ (pairs σ ρ' ++ T)) [] → Q vs H'
def SEsF (X : Cx) (a : Addr) (i : Nat) (I : List Item) (es : List Expr) (m : M (List O)) : Prop := PA X es (tMsF X.K X.mg a i I m)
theorem sesf_nil : SEsF X a i I [] mNil := PA.imp pa_nil fun σ H Q w => by
  obtain ⟨ρ, T, os, ρ', c, f, R, e, k⟩ := w
  cases e
  exact k [] H c rfl R
theorem sesf_cons {e : Expr} {es : List Expr} {m : M O} {ms : M (List O)} (h : SEF X a i I e m) (hs : SEsF X a i I es ms) (hst : starEach (e :: es) X.env = (false, eval e X.env) :: starEach es X.env := by rfl) : SEsF X a i I (e :: es) (mCons m ms) :=
  PA.imp (pa_cons h hs hst) fun σ H Q w => by
    obtain ⟨ρ, T, os, ρ', c, f, R, e, k⟩ := w
    obtain ⟨o, ρ1, e1, e⟩ := Res.bind_eq e
    obtain ⟨os', ρ2, e2, e⟩ := Res.bind_eq e
    cases e
    refine ⟨ρ, T, o, ρ1, c, f, R, e1, fun v H1 c1 R1 => ⟨ρ1, .ov v o :: T, os', ρ', c1, f.more, R1.perm List.perm_middle.symm, e2, fun vs H2 c2 hl R2 => k (v :: vs) H2 c2 (by simp [hl]) (R2.perm ?_)⟩⟩
    show (zipI vs os' ++ (pairs σ ρ' ++ .ov v o :: T)).Perm (.ov v o :: (zipI vs os' ++ (pairs σ ρ' ++ T)))
    exact ((List.perm_middle (a := Item.ov v o)).append_left _).trans List.perm_middle
theorem sef_tup {es : List Expr} {x1 : Nat} {pos : Pos} {ms : M (List O)} (h : SEsF X a i I es ms) : SEF X a i I (.Tuple es x1 pos) (mTup ms) := PE.imp (pe_tup h) fun σ H Q w => by
  obtain ⟨ρ, T, o, ρ', c, f, R, e, k⟩ := w
  obtain ⟨os, ρ1, e1, e⟩ := Res.bind_eq e
  split at e
  · rename_i hl
    cases e
    refine ⟨ρ, T, os, _, c, f, R, e1, fun vs H' c' hv R' => ⟨line6 (by omega), fun p hp => k _ _ c' ?_⟩⟩
    exact Rep.newT (ds := O.toDs os) R'.frzs (by rw [toDs_len]; exact hv) hp
  · cases e
/-! ### isinstance of what the suite holds -/
theorem kitAny_of {t : Value} {f : Str → Bool} : ∀ {ys : List Str}, (∀ y ∈ ys, PySem.W.kitOne K t (.ref (He.ga K y)) = some (f y)) → PySem.W.kitAny K t (ys.map fun y => .ref (He.ga K y)) = some (ys.any f)
  | [], _ => rfl
  | y :: ys, h => by
    have ih := kitAny_of (ys := ys) fun z hz => h z (List.mem_cons_of_mem _ hz)
    have h1 := h y (List.mem_cons_self ..)
    rw [List.map_cons, List.any_cons]
    unfold PySem.W.kitAny
    rw [h1]
    cases q : f y with
    | true => simp
    | false => simp [ih]
def rIsET (K : PySem.W.Frag) (D a : Addr) : List V → Hp → VK → Prop := fun xs H Q => ∃ (tp : Addr) (cs : List V) (us : List Value) (b : Bool), xs = [.ref a, .ref tp] ∧ H tp = some (.tup cs) ∧ Paired ClsV cs us ∧ PySem.W.kitAny K (.ref D) us = some b ∧ Q (.bl b) H
theorem call_isET {X : Cx} {a D : Addr} {oe : Obj} {pn : List (Addr × Obj)} (C : ExcC X.K D) (hz : Zc (.ref D) none oe) (hf : ∃ vs, oe.data = .fields vs) : CallR (X.suite a ((a, oe) :: pn)) (.builtin "isinstance") (rIsET X.K D a) := by
  intro pins s σ H xs us Q I r h
  obtain ⟨tp, cs, ws, b, rfl, hT, k, e, q⟩ := h
  obtain ⟨u1, u2, rfl, r1, r2⟩ := vals2 r
  cases (show u2 = Value.ref tp from r2)
  cases (show u1 = Value.ref a from r1)
  obtain ⟨hget, _⟩ := I.pin (a, oe) (List.mem_append.mpr (.inl List.mem_cons_self))
  obtain ⟨vs, hv⟩ := hf
  have J : PySem.W.InstAt s.heap a oe D none := by
    obtain ⟨oc, od, oda, osl⟩ := oe
    obtain ⟨h1, h2⟩ := hz
    dsimp only at h1 h2 hv
    subst h1 h2 hv
    exact ⟨hget, rfl, rfl, trivial⟩
  obtain ⟨_, its, rv, o, h1, h2, n, h3⟩ := (show ObjOk X.prog X.w H s.heap tp (.tup cs) from I.hok tp _ hT)
  have e3 := ClsV.all k rv
  subst e3
  obtain ⟨oc, od, dt, sl⟩ := o
  simp only at h2 h3
  subst h2 h3
  exact PySem.W.kia_tup (PySem.W.handS_kitx_exc C.hg C.hk C.hs C.hd C.ha C.hn C.ht C.hm) I.kIn J h1 e (fun z => nomatch z) fun tk => ⟨.bl b, H, I.tok tk, rfl, q⟩
theorem pe_false {e : Expr} {t : TE} (h : ∀ σ H Q, ¬ t σ H Q) : PE X e t := ⟨fun _ _ σ H Q _ w => absurd w (h σ H Q)⟩
def mIs (es : List Str) (y : Str) (x : Exn) : M O := fun ρ => if x.ds = [] ∧ x.c ∈ es then .ok (.val (.bl (subB x.c y))) ρ else .no
def mIsT (es : List Str) (ys : List Str) (x : Exn) : M O := fun ρ => if x.ds = [] ∧ x.c ∈ es then .ok (.val (.bl (ys.any (subB x.c)))) ρ else .no
def mIsV (es : List Str) (x : Exn) : M O := fun ρ => if x.ds = [] ∧ x.c ∈ es then .ok (.val (.bl true)) ρ else .no
variable {x : Exn} {cls : Value} {d : Option Addr} {oe : Obj} {pn : List (Addr × Obj)} {es : List Str}
theorem Held.eqc (h : Held X es x I cls d oe) (E : ExAll X.K X.mg es) (hx : x.c ∈ es) : cls = .ref (He.ga X.K x.c) := by
  have e1 := E.gl x.c hx
  rw [h.cl] at e1
  injection e1
theorem sef_is {n y : Str} {p q r pos : Pos} (E : ExAll X.K X.mg es) (h : Held X es x I cls d oe) (hN : X.N[i]? = some n) (hv : Vis X.env.scope n) (hg : Gl X "isinstance") (hm : X.mg "isinstance" = none) (hgy : Gl X y) (hy : y ∈ es := by decide)
    (hd : (n == ("__debug__" : Str)) = false := by decide) (hcd : (n == ("__classdict__" : Str)) = false := by decide) (hdy : (y == ("__debug__" : Str)) = false := by decide)
    (he : starEach (.Name n q :: [.Name y r]) X.env = (false, eval (.Name n q) X.env) :: starEach [.Name y r] X.env := by rfl) (hpl : (backTo pos (starEach [.Name y r] X.env)).any (·.1) = false := by rfl) :
    SEF (X.suite a ((a, oe) :: pn)) a i I (.Call (.Name "isinstance" p) [.Name n q, .Name y r] [] pos) (mIs es y x) := by
  by_cases hx : x.ds = [] ∧ x.c ∈ es
  · have hx0 := hx
    obtain ⟨hx1, hx⟩ := hx
    have e1 := h.eqc E hx
    have hz := h.z
    rw [e1, h.it.nd hx1] at hz
    have ha : PA (X.suite a ((a, oe) :: pn)) [.Name n q, .Name y r] (tCons (tVar i) (tCons (tC (.ref (He.ga X.K y))) tNil)) := pa_cons (pe_var hN hv hd hcd) (pa_cons (pe_glob (v := .ref (He.ga X.K y)) (u := .ref (He.ga X.K y)) hgy (E.gl y hy) rfl hdy) pa_nil) he
    refine PE.imp (pe_callB (call_isE (E.cc x.c hx) hz h.f) hg hm (by rfl) ha (he := he) (hpl := hpl)) fun σ H Q w => ?_
    obtain ⟨ρ, T, o, ρ', c, f, R, e, k⟩ := w
    unfold mIs at e
    rw [if_pos hx0] at e
    cases e
    refine ⟨.ref a, f.1, ?_⟩
    exact ⟨.ref (He.ga X.K y), .ref (He.ga X.K y), subB x.c y, rfl, fun u r => r, E.kt x.c hx y hy, k _ H c (R.scal fun _ => .bl _)⟩
  · refine pe_false fun σ H Q w => ?_
    obtain ⟨ρ, T, o, ρ', c, f, R, e, k⟩ := w
    unfold mIs at e
    rw [if_neg hx] at e
    cases e
/-- isinstance(e, ValueError) -/
theorem sef_isV {n : Str} {p q r pos : Pos} (E : ExAll X.K X.mg es) (h : Held X es x I cls d oe) (hN : X.N[i]? = some n) (hv : Vis X.env.scope n) (hg : Gl X "isinstance") (hm : X.mg "isinstance" = none) (hgy : Gl X "ValueError") (hmy : X.mg "ValueError" = none)
    (hd : (n == ("__debug__" : Str)) = false := by decide) (hcd : (n == ("__classdict__" : Str)) = false := by decide)
    (he : starEach (.Name n q :: [.Name "ValueError" r]) X.env = (false, eval (.Name n q) X.env) :: starEach [.Name "ValueError" r] X.env := by rfl) (hpl : (backTo pos (starEach [.Name "ValueError" r] X.env)).any (·.1) = false := by rfl) :
    SEF (X.suite a ((a, oe) :: pn)) a i I (.Call (.Name "isinstance" p) [.Name n q, .Name "ValueError" r] [] pos) (mIsV es x) := by
  by_cases hx : x.ds = [] ∧ x.c ∈ es
  · have hx0 := hx
    obtain ⟨hx1, hx⟩ := hx
    have e1 := h.eqc E hx
    have hz := h.z
    rw [e1, h.it.nd hx1] at hz
    have ha : PA (X.suite a ((a, oe) :: pn)) [.Name n q, .Name "ValueError" r] (tCons (tVar i) (tCons (tC (.ty "ValueError")) tNil)) := pa_cons (pe_var hN hv hd hcd) (pa_cons (pe_bltn (v := .ty "ValueError") (u := .type "ValueError") hgy hmy PyProof.Rows.Boot.«ValueError» rfl) pa_nil) he
    refine PE.imp (pe_callB (call_isE (E.cc x.c hx) hz h.f) hg hm (by rfl) ha (he := he) (hpl := hpl)) fun σ H Q w => ?_
    obtain ⟨ρ, T, o, ρ', c, f, R, e, k⟩ := w
    unfold mIsV at e
    rw [if_pos hx0] at e
    cases e
    refine ⟨.ref a, f.1, ?_⟩
    exact ⟨.ty "ValueError", .type "ValueError", true, rfl, fun u r => r, E.kv x.c hx, k _ H c (R.scal fun _ => .bl _)⟩
  · refine pe_false fun σ H Q w => ?_
    obtain ⟨ρ, T, o, ρ', c, f, R, e, k⟩ := w
    unfold mIsV at e
    rw [if_neg hx] at e
    cases e
/-- a tuple of classes -/
structure SCls (X : Cx) (es : List Str) (xs : List Expr) (ys : List Str) : Prop where
  pa : PA X xs (fun _ H Q => Q (ys.map fun y => V.ref (He.ga X.K y)) H)
  mem : ∀ y ∈ ys, y ∈ es
theorem scls_nil : SCls X es [] [] := ⟨PA.imp pa_nil fun _ _ _ w => w, fun _ h => by simp at h⟩
theorem scls_cons {y : Str} {r : Pos} {xs : List Expr} {ys : List Str} (E : ExAll X.K X.mg es) (hg : Gl X y) (h : SCls X es xs ys) (hy : y ∈ es := by decide) (hdy : (y == ("__debug__" : Str)) = false := by decide) (he : starEach (.Name y r :: xs) X.env = (false, eval (.Name y r) X.env) :: starEach xs X.env := by rfl) : SCls X es (.Name y r :: xs) (y :: ys) :=
  ⟨PA.imp (pa_cons (pe_glob (v := .ref (He.ga X.K y)) (u := .ref (He.ga X.K y)) hg (E.gl y hy) rfl hdy) h.pa he) fun _ _ _ w => w, fun z hz => by
    rcases List.mem_cons.mp hz with q | q
    · rw [q]; exact hy
    · exact h.mem z q⟩
theorem clsV_all : ∀ (ys : List Str), Paired ClsV (ys.map fun y => V.ref (He.ga K y)) (ys.map fun y => Value.ref (He.ga K y))
  | [] => .nil
  | y :: ys => .cons (.own _) (clsV_all ys)
theorem sef_isT {n : Str} {ys : List Str} {xs : List Expr} {tk : Nat} {p q tp pos : Pos} (E : ExAll X.K X.mg es) (h : Held X es x I cls d oe) (hN : X.N[i]? = some n) (hv : Vis X.env.scope n) (hg : Gl X "isinstance") (hm : X.mg "isinstance" = none) (hys : SCls (X.suite a ((a, oe) :: pn)) es xs ys) (hlen : ys.length ≤ 100 := by decide)
    (hd : (n == ("__debug__" : Str)) = false := by decide) (hcd : (n == ("__classdict__" : Str)) = false := by decide)
    (he : starEach (.Name n q :: [.Tuple xs tk tp]) X.env = (false, eval (.Name n q) X.env) :: starEach [.Tuple xs tk tp] X.env := by rfl) (he2 : starEach (.Tuple xs tk tp :: []) X.env = (false, eval (.Tuple xs tk tp) X.env) :: starEach [] X.env := by rfl) (hpl : (backTo pos (starEach [.Tuple xs tk tp] X.env)).any (·.1) = false := by rfl) :
    SEF (X.suite a ((a, oe) :: pn)) a i I (.Call (.Name "isinstance" p) [.Name n q, .Tuple xs tk tp] [] pos) (mIsT es ys x) := by
  by_cases hx : x.ds = [] ∧ x.c ∈ es
  · have hx0 := hx
    obtain ⟨hx1, hx⟩ := hx
    have e1 := h.eqc E hx
    have hz := h.z
    rw [e1, h.it.nd hx1] at hz
    have ha := pa_cons (X := X.suite a ((a, oe) :: pn)) (pe_var (pos := q) hN hv hd hcd) (pa_cons (pe_tup (x1 := tk) (pos := tp) hys.pa) pa_nil he2) he
    refine PE.imp (pe_callB (call_isET (E.cc x.c hx) hz h.f) hg hm (by rfl) ha (he := he) (hpl := hpl)) fun σ H Q w => ?_
    obtain ⟨ρ, T, o, ρ', c, f, R, e, k⟩ := w
    unfold mIsT at e
    rw [if_pos hx0] at e
    cases e
    refine ⟨.ref a, f.1, line6 (by simp; omega), fun t ht => ?_⟩
    refine ⟨t, _, _, ys.any (subB x.c), rfl, upd_same, clsV_all ys, kitAny_of fun y hy => E.kt x.c hx y (hys.mem y hy), k _ _ c ?_⟩
    exact (R.grow (sameNew ht)).scal fun _ => .bl _
  · refine pe_false fun σ H Q w => ?_
    obtain ⟨ρ, T, o, ρ', c, f, R, e, k⟩ := w
    unfold mIsT at e
    rw [if_neg hx] at e
    cases e
/-! ### e.f -/
def mXf (cs : List Str) (f : Str) (x : Exn) : M O := fun ρ => if x.c ∈ cs ∧ x.ns.length = x.ds.length then match fidx x.ns f with
  | some j => match x.ds[j]? with
    | some d => .ok (.val d) ρ
    | none => .no
  | none => .no
  else .no
theorem sef_fld {n f : Str} {q pos : Pos} {cs : List Str} (E : ExAll X.K X.mg es) (h : Held X es x I cls d oe) (hcs : ∀ c ∈ cs, c ∈ es ∧ PySem.W.findIn X.K (.ref (He.ga X.K c)) f = some none) (hN : X.N[i]? = some n) (hv : Vis X.env.scope n)
    (hd : (n == ("__debug__" : Str)) = false := by decide) (hcd : (n == ("__classdict__" : Str)) = false := by decide) (hb : attributeBase (.Name n q) f X.env (eval (.Name n q) X.env) = eval (.Name n q) X.env := by rfl) :
    SEF (X.suite a ((a, oe) :: pn)) a i I (.Attribute (.Name n q) f pos) (mXf cs f x) := by
  by_cases hx : x.c ∈ cs
  · have hes := (hcs x.c hx).1
    have e1 := h.eqc E hes
    have C := E.cc x.c hes
    have XF : XfC X.K (He.ga X.K x.c) := ⟨C.hg, C.hk, C.hs, C.hd⟩
    refine PE.imp (pe_xf XF (hcs x.c hx).2 h.z h.f (pe_var (pos := q) hN hv hd hcd) hb) fun σ H Q w => ?_
    obtain ⟨ρ, T, o, ρ', c, fr, R, e, k⟩ := w
    unfold mXf at e
    split at e
    · rename_i hc
      split at e
      · rename_i j ej
        split at e
        · rename_i dj edj
          cases e
          obtain ⟨fr1, T0, fr2⟩ := fr
          refine ⟨.ref a, fr1, rfl, e1, ?_⟩
          rcases h.it with ⟨z, _⟩ | ⟨dd, vs, hne, ed, hl, hl2, eI⟩
          · rw [z] at edj; cases edj
          · subst eI
            have R1 : Rep X.K X.mg H (.raw dd (.xd (x.ns.zip vs)) :: (zipI vs (x.ds.map O.val) ++ (T0 ++ pairs σ ρ))) [] := R.perm (by
              refine List.perm_append_comm.trans ?_
              refine (fr2.append_right _).trans ?_
              simp only [List.cons_append, List.append_assoc]
              exact List.Perm.refl _)
            have hm : (x.ns.zip vs).map (·.1) = x.ns := by
              rw [List.map_fst_zip]; omega
            have hm2 : (x.ns.zip vs).map (·.2) = vs := by
              rw [List.map_snd_zip]; omega
            obtain ⟨v, l1, l2⟩ := fidx_look (fs := x.ns.zip vs) (f := f) (j := j) (by rw [hm]; exact ej)
            rw [hm2] at l2
            refine ⟨dd, x.ns.zip vs, v, ed, R1.rawAt, l1, ?_⟩
            have R2 : Rep X.K X.mg H (zipI vs (x.ds.map O.val) ++ (T0 ++ pairs σ ρ)) [] := R1.drop
            have hmem : Item.ov v (.val dj) ∈ zipI vs (x.ds.map O.val) := by
              refine List.mem_of_getElem? (i := j) ?_
              unfold zipI
              rw [List.getElem?_zipWith, l2, List.getElem?_map, edj]
              rfl
            obtain ⟨A, B, eAB⟩ := List.append_of_mem hmem
            have p1 : (pairs σ ρ ++ T).Perm (.ov v (.val dj) :: ((A ++ B) ++ (.raw dd (.xd (x.ns.zip vs)) :: (T0 ++ pairs σ ρ)))) := by
              refine List.perm_append_comm.trans ?_
              refine (fr2.append_right _).trans ?_
              rw [eAB]
              simp only [List.cons_append, List.append_assoc]
              refine List.Perm.trans (List.Perm.cons _ List.perm_middle) ?_
              refine (List.Perm.swap _ _ _).trans (List.Perm.cons _ ?_)
              rw [← List.append_assoc A B, ← List.append_assoc A B]
              exact List.perm_middle.symm
            have R4 := (R.perm p1).lend.keep.nob
            exact k v H c (R4.perm (List.Perm.cons _ p1.symm))
        · cases e
      · cases e
    · cases e
  · refine pe_false fun σ H Q w => ?_
    obtain ⟨ρ, T, o, ρ', c, fr, R, e, k⟩ := w
    unfold mXf at e
    rw [if_neg (fun z => hx z.1)] at e
    cases e
end

/-! ### statements of a suite -/
section
variable {X : Cx} {K : PySem.W.Frag} {mg : Str → Option Value} {P : List Nat} {W : WX} {a : Addr} {i : Nat} {I : List Item}
def tSF (K : PySem.W.Frag) (mg : Str → Option Value) (P : List Nat) (a : Addr) (i : Nat) (I : List Item) (m : M Fl) : TS := fun D σ H => ∃ ρ T, Cov σ ρ ∧ FrE a i I σ T ∧ Rep K mg H (pairs σ ρ ++ T) [] ∧ Post K mg (i :: P) T D σ (m ρ)
def SSF (X : Cx) (P : List Nat) (a : Addr) (i : Nat) (I : List Item) (st : Stmt) (m : M Fl) : Prop := PS X st (tSF X.K X.mg P a i I m)
def SSsF (X : Cx) (P : List Nat) (a : Addr) (i : Nat) (I : List Item) (st : List Stmt) (m : M Fl) : Prop := PSs X st (tSF X.K X.mg P a i I m)
theorem ssF_setP (j : Nat) {y : Str} {e : Expr} {pos pos' : Pos} {m : M O} (nd : X.N.Nodup) (hi : X.N[j]? = some y) (hx : Loc X.env.scope y) (h : SEF X a i I e m) (hP : j ∉ (i :: P) := by decide) (hs : swapsWith e (some (.Name y pos')) pos.line X.env = pure false := by rfl) (hf : X.fn y = true ∨ X.env.scope.names.lookup y = some .local := by first | exact .inl rfl | exact .inr rfl | assumption) :
    SSF X P a i I (.Assign [.Name y pos'] e pos) (mSetP j m) := PS.imp (ps_set nd hi hx h hs hf) fun D σ H w => by
  obtain ⟨ρ, T, c, f, R, h⟩ := w
  unfold mSetP at h
  cases e1 : m ρ with
  | ok o ρ1 =>
    rw [e1] at h
    exact ⟨ρ, T, o, ρ1, c, f, R, e1, fun v H' c' R' => h _ H' (Fix.set hP) (c'.set j v _) (Rep.store c' R'.frz)⟩
  | exc x ρ1 => rw [e1] at h; exact h.elim
  | no => rw [e1] at h; exact h.elim
theorem sssF_one {st : Stmt} {m : M Fl} (h : SSF X P a i I st m) : SSsF X P a i I [st] m := pss_one h
theorem sssF_cons {st : Stmt} {rest : List Stmt} {b c : M Fl} (h1 : SSF X P a i I st b) (h2 : SSsF X P a i I rest c) : SSsF X P a i I (st :: rest) (mSeq b c) := PSs.imp (pss_cons h1 h2) fun D σ H w => by
  obtain ⟨ρ, T, cv, f, R, h⟩ := w
  refine ⟨ρ, T, cv, f, R, Post.nx (D := D) h rfl rfl rfl fun ρ1 σ' H' f1 c' R' h' => ?_⟩
  exact ⟨ρ1, T, c', f.fix f1, R', h'.fix f1⟩
end

/-! ### try -/
section
variable {X : Cx} {P : List Nat} {W : WX}
theorem CxOk.tr {X : Cx} (ok : CxOk X) {pn : List (Addr × Obj)} {xe : Value → Shared → Prop} : CxOk (X.tr pn xe) := ⟨ok.calm, ok.units, ok.nd⟩
theorem Cov.clear {σ : L2.St} {ρ : Env} (c : Cov σ ρ) (i : Nat) : Cov (σ.set i none) (ρ.set i none) := by
  refine ⟨by simp [c.len], fun j q h => ?_⟩
  by_cases e : i = j
  · subst e
    have hj : i < ρ.length := by
      have := (List.getElem?_eq_some_iff.mp h).1
      simpa using this
    simp [hj] at h
  · rw [List.getElem?_set_ne e] at h ⊢
    exact c.ex j q h
theorem pairs_clear {σ : L2.St} {ρ : Env} {i : Nat} {v : Option V} (hi : i < ρ.length) : pairs (σ.set i v) (ρ.set i none) = pairs σ (ρ.set i none) := pairs_setn (by simp [hi])
/-- try: b, except y as n: s; slot i is n's -/
def mTry (es : List Str) (y : Str) (i : Nat) (b : M Fl) (s : Exn → M Fl) : M Fl := fun ρ => match b ρ with
  | .exc x ρ1 => match subX es x.c y with
    | some true => if i < ρ1.length then (match s x (ρ1.set i none) with
      | .ok f ρ2 => if i < ρ2.length then .ok f (ρ2.set i none) else .no
      | _ => .no) else .no
    | some false => .exc x ρ1
    | none => .no
  | .ok f ρ1 => .ok f ρ1
  | .no => .no
theorem Rep.unheld {K : PySem.W.Frag} {mg : Str → Option Value} {H : Hp} {σ : L2.St} {ρ : Env} {I T M : List Item} {i : Nat} (c : Cov σ ρ) (hi : i < ρ.length) (h : Rep K mg H (M ++ (pairs σ ρ ++ (I ++ T))) []) : Rep K mg H (M ++ (pairs (σ.set i none) (ρ.set i none) ++ T)) [] := by
  rw [pairs_clear hi]
  have h1 := Rep.slotDrop (M := M) c i h
  have h2 : Rep K mg H (I ++ (M ++ (pairs σ (ρ.set i none) ++ T))) [] := h1.perm ((List.Perm.append_left M (rot _ _ _)).trans (rot _ _ _))
  exact h2.drops
theorem ssX_try {n y : Str} {i : Nat} {body suite : List Stmt} {b₀ : Stmt} {np pos pos' : Pos} {b : M Fl} {s : Exn → M Fl} {es : List Str} (ok : CxOk X) (E : ExAll X.K X.mg es) (hs : X.stack = X.env :: X.outer) (hf : X.env.frame = some X.env.locals) (hi : X.N[i]? = some n) (hln : X.env.kindOf n = some .local) (hg : Gl X y) (tk : Takes X W)
    (hb : ∀ (W : WX) (pn : List (Addr × Obj)) (xe : Value → Shared → Prop), Takes (X.tr pn xe) W → PassesOwn (model X.prog X.w) X.A X.env xe → SSsX (X.tr pn xe) P W body b)
    (hsu : ∀ (a : Addr) (oe : Obj) (cls : Value) (d : Option Addr) (pn : List (Addr × Obj)) (x : Exn) (I : List Item), Held X es x I cls d oe → SSsF (X.suite a ((a, oe) :: pn)) P a i I (b₀ :: suite) (s x))
    (hy : y ∈ es := by decide) (hP : i ∉ P := by decide) (hdy : (y == ("__debug__" : Str)) = false := by decide) :
    SSX X P W (.Try body [.ExceptHandler (some (.Name y np)) (some n) (b₀ :: suite) pos'] [] [] pos) (mTry es y i b s) := by
  have T0 := ps_try_as (X := X) (n := n) (x := y) (c := .ref (He.ga X.K y)) (i := i) (body := body) (b₀ := b₀) (suite := suite) (np := np) (pos := pos) (pos' := pos') (tb := fun W => tSX X.K X.mg P W b)
    (ts := fun a cls d D σ H => ∃ x I, X.mg x.c = some cls ∧ ExI x d I ∧ tSF X.K X.mg P a i I (s x) D σ H) (Wout := W) hs hf ok.nd hi hln ⟨hg, hdy, .inl (E.gl y hy)⟩ tk hb fun a oe cls d pn hz hfl => by
      refine ⟨fun pins s1 σ H D J w => ?_⟩
      obtain ⟨x, I, h1, h2, w⟩ := w
      exact (hsu a oe cls d pn x I ⟨h1, h2, hz, hfl⟩).run pins s1 σ H D J w
  refine PS.imp T0 fun D σ H w => ?_
  obtain ⟨ρ, T, c, R, h⟩ := w
  refine ⟨ρ, T, c, R, ?_⟩
  unfold mTry at h
  cases e1 : b ρ with
  | no => rw [e1] at h; exact h.elim
  | ok f ρ1 => rw [e1] at h; exact h
  | exc x ρ1 =>
    rw [e1] at h
    intro cls d I σ' H' f' c' hm hI R'
    have h : PostX X.K X.mg P T W D σ (match subX es x.c y with
      | some true => if i < ρ1.length then (match s x (ρ1.set i none) with
        | .ok f ρ2 => if i < ρ2.length then .ok f (ρ2.set i none) else .no
        | _ => .no) else .no
      | some false => .exc x ρ1
      | none => .no) := h
    have sub : ∀ bb, subX es x.c y = some bb → PySem.W.exmOne X.K cls (.ref (He.ga X.K y)) = some bb := fun bb e => by
      unfold subX at e
      split at e
      · rename_i hx
        cases e
        have e2 := E.gl x.c hx.1
        rw [hm] at e2
        injection e2 with e2
        rw [e2]
        exact E.em x.c hx.1 y hx.2
      · cases e
    cases e2 : subX es x.c y with
    | none => rw [e2] at h; exact h.elim
    | some bb =>
      rw [e2] at h
      refine ⟨bb, sub bb e2, fun hbb a ha => ?_, fun hbb => ?_⟩
      · subst hbb
        have h : PostX X.K X.mg P T W D σ (if i < ρ1.length then (match s x (ρ1.set i none) with
          | .ok f ρ2 => if i < ρ2.length then .ok f (ρ2.set i none) else .no
          | _ => .no) else .no) := h
        split at h
        · rename_i hil
          have hi' : i < σ'.length := by rw [c'.len]; exact hil
          refine ⟨x, I, hm, hI, ρ1.set i none, I ++ T, ?_, ⟨by simp [hi'], T, List.Perm.refl _⟩, ?_, ?_⟩
          · exact ⟨by simp [c'.len], fun j q hj => by
              by_cases e : i = j
              · subst e; simp [hil] at hj
              · rw [List.getElem?_set_ne e] at hj ⊢
                exact c'.ex j q hj⟩
          · have R2 := Rep.slotDrop (M := I) c' i R'
            rw [pairs_clear hil]
            exact R2.perm (rot _ _ _)
          · cases e3 : s x (ρ1.set i none) with
            | no => rw [e3] at h; exact h.elim
            | exc x2 ρ2 => rw [e3] at h; exact h.elim
            | ok fl ρ2 =>
              rw [e3] at h
              have h : PostX X.K X.mg P T W D σ (if i < ρ2.length then .ok fl (ρ2.set i none) else .no) := h
              split at h
              · rename_i hil2
                have fx : ∀ {σ2 : L2.St}, Fix (i :: P) (σ'.set i (some (.ref a))) σ2 → Fix P σ (σ2.set i none) := fun {σ2} g => by
                  refine ⟨by rw [List.length_set, g.1, List.length_set, f'.1], fun j hj => ?_⟩
                  have hne : i ≠ j := fun e => hP (by rw [e]; exact hj)
                  rw [List.getElem?_set_ne hne, g.2 j (List.mem_cons_of_mem _ hj), List.getElem?_set_ne hne, f'.2 j hj]
                have h : Post X.K X.mg P T D σ (.ok fl (ρ2.set i none)) := h
                cases fl with
                | nx => exact fun σ2 H2 g c2 R2 => h _ H2 (fx g) (c2.clear i) (Rep.unheld (M := []) c2 hil2 R2)
                | brk => exact fun σ2 H2 g c2 R2 => h _ H2 (fx g) (c2.clear i) (Rep.unheld (M := []) c2 hil2 R2)
                | ct => exact fun σ2 H2 g c2 R2 => h _ H2 (fx g) (c2.clear i) (Rep.unheld (M := []) c2 hil2 R2)
                | ret o => exact fun v σ2 H2 g c2 R2 => h v _ H2 (fx g) (c2.clear i) (Rep.unheld (M := [.ov v o]) c2 hil2 R2)
              · exact h.elim
        · exact h.elim
      · subst hbb
        have h : ExP X.K X.mg P T W σ x ρ1 := h
        exact h cls d I σ' H' f' c' hm hI R'
theorem takes_no : Takes X (fun _ _ _ _ => False) := takes_none5
end
end FB

/-! A dict against a text: never equal. -/
namespace FB
open PySem PySem.Spec L2 PySem.Calls
open PyProof.Rows hiding St
section
variable {A : Around} {s : Shared}
end
section
variable {X : Cx} {K : PySem.W.Frag} {mg : Str → Option Value}
/-! x in l -/
/-! ### .upper() -/
/-! ### {k: v} -/
end
end FB

/-! simp rules for what may raise. -/
namespace FB
open PySem PySem.Spec L2
open PyProof.Rows hiding St
variable {ρ : Env}
@[simp] theorem e_sqKx (b : M Fl) (x : Exn) : sqK b (.exc x ρ) = .exc x ρ := (rfl)
@[simp] theorem e_exKx (x : Exn) : exK (.exc x ρ) = .exc x ρ := (rfl)
@[simp] theorem e_rtKx (x : Exn) : rtK (.exc x ρ) = .exc x ρ := (rfl)
@[simp] theorem e_soKx (i : Nat) (x : Exn) : soK i (.exc x ρ) = .exc x ρ := (rfl)
def endX (n : Nat) (P : List Nat) : Res Fl → Res O
  | .ok .nx ρ' => .ok (.val .non) (maskE n P ρ')
  | .ok (.ret o) ρ' => .ok o (maskE n P ρ')
  | .exc x ρ' => .exc x (maskE n P ρ')
  | _ => .no
theorem runX_eq (n N : Nat) (P : List Nat) (b : M Fl) (os : List O) : runX n N P b os = endX n P (b (os.map some ++ List.replicate (N - os.length) none)) := by
  unfold runX endX
  rfl
@[simp] theorem e_endXR (n : Nat) (P : List Nat) (o : O) : endX n P (.ok (.ret o) ρ) = .ok o (maskE n P ρ) := (rfl)
@[simp] theorem e_endXN (n : Nat) (P : List Nat) : endX n P (.ok .nx ρ) = .ok (.val .non) (maskE n P ρ) := (rfl)
@[simp] theorem e_endXX (n : Nat) (P : List Nat) (x : Exn) : endX n P (.exc x ρ) = .exc x (maskE n P ρ) := (rfl)
def cxC (as : List Arg) (ρ : Env) : Res O → Res O
  | .ok o ρ' => .ok o (giveA as ρ' ρ)
  | .exc x ρ' => .exc x (giveA as ρ' ρ)
  | .no => .no
def cxB (F : FSemX) (as : List Arg) : Option (List O × Env) → Res O
  | some r => cxC as r.2 (F r.1)
  | none => .no
def cxA (F : FSemX) (as : List Arg) : Res (List (Option O)) → Res O
  | .ok os ρ => cxB F as (takeA as os ρ)
  | _ => .no
@[simp] theorem e_mCallX (F : FSemX) (as : List Arg) : mCallX F as ρ = cxA F as (evA as ρ) := by
  unfold mCallX cxA
  cases evA as ρ with
  | ok os ρ1 =>
    show (match takeA as os ρ1 with | none => Res.no | some r => match F r.1 with | .ok o ρ' => .ok o (giveA as ρ' r.2) | .exc x ρ' => .exc x (giveA as ρ' r.2) | .no => .no) = cxB F as (takeA as os ρ1)
    unfold cxB
    cases takeA as os ρ1 with
    | none => rfl
    | some r =>
      show (match F r.1 with | .ok o ρ' => Res.ok o (giveA as ρ' r.2) | .exc x ρ' => .exc x (giveA as ρ' r.2) | .no => .no) = cxC as r.2 (F r.1)
      unfold cxC
      cases F r.1 <;> rfl
  | exc _ _ => rfl
  | no => rfl
@[simp] theorem e_cxA (F : FSemX) (as : List Arg) (os : List (Option O)) : cxA F as (.ok os ρ) = cxB F as (takeA as os ρ) := (rfl)
@[simp] theorem e_cxB (F : FSemX) (as : List Arg) (os : List O) : cxB F as (some (os, ρ)) = cxC as ρ (F os) := (rfl)
@[simp] theorem e_cxC (as : List Arg) (o : O) (ρc : Env) : cxC as ρ (.ok o ρc) = .ok o (giveA as ρc ρ) := (rfl)
@[simp] theorem e_cxCx (as : List Arg) (x : Exn) (ρc : Env) : cxC as ρ (.exc x ρc) = .exc x (giveA as ρc ρ) := (rfl)
def tyC (i : Nat) : Res Fl → Res Fl
  | .ok f ρ2 => if i < ρ2.length then .ok f (ρ2.set i none) else .no
  | _ => .no
def tyB (i : Nat) (s : Exn → M Fl) (x : Exn) (ρ1 : Env) : Option Bool → Res Fl
  | some true => if i < ρ1.length then tyC i (s x (ρ1.set i none)) else .no
  | some false => .exc x ρ1
  | none => .no
def tyK (es : List Str) (y : Str) (i : Nat) (s : Exn → M Fl) : Res Fl → Res Fl
  | .exc x ρ1 => tyB i s x ρ1 (subX es x.c y)
  | .ok f ρ1 => .ok f ρ1
  | .no => .no
@[simp] theorem e_mTry (es : List Str) (y : Str) (i : Nat) (b : M Fl) (s : Exn → M Fl) : mTry es y i b s ρ = tyK es y i s (b ρ) := by
  unfold mTry tyK
  cases b ρ with
  | ok _ _ => rfl
  | no => rfl
  | exc x ρ1 =>
    show (match subX es x.c y with
      | some true => if i < ρ1.length then (match s x (ρ1.set i none) with
        | .ok f ρ2 => if i < ρ2.length then .ok f (ρ2.set i none) else .no
        | _ => .no) else .no
      | some false => Res.exc x ρ1
      | none => .no) = tyB i s x ρ1 (subX es x.c y)
    unfold tyB
    cases subX es x.c y with
    | none => rfl
    | some bb =>
      cases bb with
      | false => rfl
      | true =>
        show (if i < ρ1.length then (match s x (ρ1.set i none) with
          | .ok f ρ2 => if i < ρ2.length then Res.ok f (ρ2.set i none) else .no
          | _ => .no) else .no) = _
        unfold tyC
        cases s x (ρ1.set i none) <;> rfl
@[simp] theorem e_tyKx (es : List Str) (y : Str) (i : Nat) (s : Exn → M Fl) (x : Exn) : tyK es y i s (.exc x ρ) = tyB i s x ρ (subX es x.c y) := (rfl)
@[simp] theorem e_tyKo (es : List Str) (y : Str) (i : Nat) (s : Exn → M Fl) (f : Fl) : tyK es y i s (.ok f ρ) = .ok f ρ := (rfl)
@[simp] theorem e_tyB (i : Nat) (s : Exn → M Fl) (x : Exn) (h : i < ρ.length) : tyB i s x ρ (some true) = tyC i (s x (ρ.set i none)) := by unfold tyB; rw [if_pos h]
@[simp] theorem e_tyBf (i : Nat) (s : Exn → M Fl) (x : Exn) : tyB i s x ρ (some false) = .exc x ρ := (rfl)
@[simp] theorem e_tyC (i : Nat) (f : Fl) (h : i < ρ.length) : tyC i (.ok f ρ) = .ok f (ρ.set i none) := if_pos h
@[simp] theorem toD_dct (ks : List Key) (os : List O) : (O.dct ks os).toD = .dct ks (O.toDs os) := (rfl)
/-! texts, dicts -/
end FB

/-! enumerate of a tuple; a tuple times a number; texts of the module. -/
namespace ET
open PySem PySem.Sem
open AutoSeq1 (wpAny_loadPart')
theorem meets_new (l : Addr) (items : Array Value) (n : Nat) (dct : Option Addr) (sl : Array (Option Value)) :
    Meets (Builtin.«enumerate.__new__» ⟨[.type "enumerate", .ref l], []⟩) (fun _ R s => s.heap.get? l = some { cls := .type "tuple", dict := dct, data := .seq items n, slots := sl } ∧
      R (.ok (.ret (.ref (s.heap.push { cls := .type "tuple_iterator", data := .fields #[.ref l, .int 0 0] }).objs.size)))
        { s with heap := (s.heap.push { cls := .type "tuple_iterator", data := .fields #[.ref l, .int 0 0] }).push { cls := .type "enumerate", data := .fields #[.none, .bool false, .ref s.heap.objs.size, rawInt 0, .none, .none] } }) :=
  .of_wp fun prog w A R s h => by
    obtain ⟨hp, g, d, tk, os⟩ := s; obtain ⟨hl, h⟩ := h
    have hsub := sub_enumerate
    have hL : Heap.IsTuple (Shared.heap ⟨hp, g, d, tk, os⟩) l items := ⟨_, hl, rfl, n, rfl⟩
    wp_walk using wpAny_loadPart' hl
    refine wpAny_stack_any fun st => wpAny_pure ?_
    split
    · rename_i c _ _ _ _ _
      cases (c == Value.type "enumerate")
      · wp_walk using wpAny_loadPart' hl, wpAny_pyIter_tuple hL
        exact ⟨_, rfl, h⟩
      · wp_walk using wpAny_loadPart' hl, wpAny_pyIter_tuple hL
        exact ⟨_, rfl, h⟩
    · wp_walk using wpAny_loadPart' hl, wpAny_pyIter_tuple hL
      exact ⟨_, rfl, h⟩
section
variable {prog : Program} {w : World} {A : Around} {E : Value → Shared → Prop} {s : Shared}
theorem call_tuple {l : Addr} {items : Array Value} {Q : Value → Shared → Prop} (hL : s.heap.IsTuple l items)
    (h : ∀ h', IsEnum h' (s.heap.objs.size + 1) s.heap.objs.size 0 .none → h'.IsTupleIter s.heap.objs.size l 0 → (∀ b o, s.heap.get? b = some o → h'.get? b = some o) → Q (.ref (s.heap.objs.size + 1)) { s with heap := h' }) :
    wpAny (model prog w) A (call (.type "enumerate") [.ref l]) Q E s := by
  obtain ⟨⟨c, dct, dt, sl⟩, hl, hc, n, hd⟩ := hL
  replace hc : c = .type "tuple" := hc
  replace hd : dt = .seq items n := hd
  subst hc hd
  refine callType_new PySem.F.called_enumerate (by decide) (PySem.F.typeCall_enumerate_1 _) (PySem.F.newCall_enumerate_1 _) (fun obj => PySem.F.args_object_init_2 obj _) PySem.F.entry_enumerate_new
    (meets_new l items n dct sl) ⟨hl, ?_⟩
  have hz : (s.heap.push { cls := .type "tuple_iterator", data := .fields #[.ref l, .int 0 0] }).objs.size = s.heap.objs.size + 1 := Heap.size_push ..
  show _ ∧ _
  rw [hz]
  have he : IsEnum ((s.heap.push { cls := .type "tuple_iterator", data := .fields #[.ref l, .int 0 0] }).push
      { cls := .type "enumerate", data := .fields #[.none, .bool false, .ref s.heap.objs.size, rawInt 0, .none, .none] }) (s.heap.objs.size + 1) s.heap.objs.size 0 .none := by
    have := Heap.get?_push_size (s.heap.push { cls := .type "tuple_iterator", data := .fields #[.ref l, .int 0 0] })
      (o := { cls := .type "enumerate", data := .fields #[.none, .bool false, .ref s.heap.objs.size, rawInt 0, .none, .none] }) rfl
    rw [hz] at this; exact this
  exact ⟨⟨_, he, rfl⟩, h _ he ⟨_, Heap.get?_push_of_some _ (Heap.get?_push_size _ rfl), rfl, rfl⟩ fun b o x => Heap.get?_push_of_some _ (Heap.get?_push_of_some _ x)⟩
theorem drawsT (hh : A.handled = none) (it l : Addr) (hne : l ≠ it) (items : Array Value) :
    Draws prog w A it [it, l] items.size (fun i v => items[i]? = some v) (fun i h => h.IsTupleIter it l i ∧ h.IsTuple l items) where
  live := fun _ _ st => let ⟨o, ho, _⟩ := st.1; ⟨o, ho⟩
  frame := fun _ _ _ st hk => ⟨st.1.at fun o e => hk it (by simp) o e, st.2.at fun o e => hk l (by simp) o e⟩
  item := fun i s Q E hi st hQ => by
    refine RZ.nextOf_tuple_item st.1 st.2 (x := items[i]) (by simp [hi]) fun h' hit' hs' => ?_
    exact hQ _ h' s.toks (by simp [hi]) ⟨hit', st.2.extBut hs'.extBut hne⟩ hs'
  done := fun s Q E st hE => RZ.nextOf_tuple_end hh st.1 st.2 (by simp) hE
end
end ET
namespace FB
open PySem PySem.Spec L2
open PyProof.Rows hiding St
/-- the tuple at a as it stands, each item in a new pair -/
def ItU (K : PySem.W.Frag) (a : Addr) : It :=
  ⟨fun i H => ∃ (xs : List V) (x : V), SqT K H a xs ∧ xs[i]? = some x, fun i H v H' => ∃ T x, v = .ref T ∧ H T = none ∧ H' = upd H T (.tup [.int (i : Nat), x]) ∧ ∀ xs, SqT K H a xs → xs[i]? = some x, fun i H => ∃ xs : List V, SqT K H a xs ∧ xs.length ≤ i⟩
theorem turn_enumU {P : Program} {w : World} {K : PySem.W.Frag} {elts : List Expr} {kk : Nat} {tpos : Pos} (a e it : Addr) :
    Turn P w K (.Tuple elts kk tpos) (ItU K a) [e, it] e (fun i h => (∃ old, IsEnum h e it ((i : Nat) : Int) old) ∧ h.IsTupleIter it a i ∧ e ≠ it ∧ a ≠ it ∧ a ≠ e) where
  mem := by simp
  obj := fun i h st b hb => by
    obtain ⟨⟨old, he⟩, ⟨o, ho, hc, hd⟩, _⟩ := st
    have e' : b = e ∨ b = it := by simpa using hb
    rcases e' with z | z
    · rw [z]; exact ⟨_, he, fun v q => nomatch q⟩
    · rw [z]; exact ⟨o, ho, fun v q => by rw [hd] at q; cases q⟩
  keep := fun i h h' st k => let ⟨⟨old, he⟩, hi, hne⟩ := st; ⟨⟨old, k e (by simp) _ he⟩, hi.at fun o q => k it (by simp) o q, hne⟩
  item := by
    intro X hP hw hK hc i pins s σ H E I hf st hg
    subst hP hw hK
    obtain ⟨⟨old, he⟩, hit, hne, hai, hae⟩ := st
    obtain ⟨xs, x, hq, hx⟩ := hg
    obtain ⟨its, rv, p, hz⟩ := I.tuple hq
    obtain ⟨u, hu, ru⟩ := rv.get hx
    have hel : e < s.heap.objs.size := Heap.lt_size he
    have hil : it < s.heap.objs.size := by obtain ⟨_, q, _⟩ := hit; exact Heap.lt_size q
    have hi : i < its.toArray.size := by
      have := (List.getElem?_eq_some_iff.mp hu).1
      simpa using this
    refine wpAny_pyNext_enum_itemD (ET.drawsT (A := X.A.in1) (show X.A.in1.handled = none from I.ok.hd hc) it a hai its.toArray) he ⟨hit, p⟩ hi hne (by simp [hne]; exact fun z => hae z.symm) fun x' h' tk hx' ho st' hT hsz hk => ?_
    have ex : x' = u := by
      have h1 : its[i]? = some x' := by simpa using hx'
      rw [hu] at h1
      cases h1; rfl
    subst ex
    obtain ⟨hit', _⟩ := st'
    refine ⟨_, rfl, wpAny_letOwnedTupleGo_enum (s := { s with heap := h', toks := tk + 1 }) ho fun h'' he' sb => ?_⟩
    have hT2 : h''.get? s.heap.objs.size = some { cls := .type "tuple", data := .seq #[.int i tk, x'] } := (sb.2 _ (Nat.ne_of_gt hel)).trans hT
    have new : ObjOk X.prog X.w (upd H s.heap.objs.size (.tup [.int (i : Nat), x])) h'' s.heap.objs.size (.tup [.int (i : Nat), x]) :=
      ⟨by show 2 ≤ sizeLine; decide, [.int i tk, x'], .cons ⟨_, rfl⟩ (.cons ru .nil), ⟨_, hT2, rfl, _, rfl⟩⟩
    have I1 : Inv X pins σ (upd H s.heap.objs.size (.tup [.int (i : Nat), x])) { s with heap := h'', toks := tk + 1 } :=
      I.turnedNew (ch := [e, it]) (fun b ob hb q => (sb.2 b (fun z => hb (by simp [z]))).trans (hk b ob (fun z => hb (by simp [z])) (fun z => hb (by simp [z])) q)) hf (Nat.le_refl _) new
    refine ⟨.ref s.heap.objs.size, _, I1, rfl, ⟨_, x, rfl, I.hok.fresh (Nat.le_refl _), rfl, fun ys hy => by rw [I.tuple_inj hy hq]; exact hx⟩, ⟨⟨x', ?_⟩, hit'.at fun o q => (sb.2 it (Ne.symm hne)).trans q, hne, hai, hae⟩, fun b hb => ?_⟩
    · have e1 : ((i + 1 : Nat) : Int) = (i : Int) + 1 := by omega
      rw [e1]; exact he'
    · have hb' : b < s.heap.objs.size := by
        have e' : b = e ∨ b = it := by simpa using hb
        rcases e' with z | z
        · rw [z]; exact hel
        · rw [z]; exact hil
      rw [upd_ne (Nat.ne_of_lt hb')]
      exact (hf b hb).1
  done := by
    intro X hP hw hK hc i pins s σ H E I hf st hg
    subst hP hw hK
    obtain ⟨⟨old, he⟩, hit, hne, hai, hae⟩ := st
    obtain ⟨xs, hq, hx⟩ := hg
    obtain ⟨its, rv, p, hz⟩ := I.tuple hq
    obtain ⟨f0, f1, f2, f3, f4, f5⟩ := hf it (by simp)
    have hl := rv.length
    have hT : s.TypeIs (.ref e) "enumerate" := ⟨_, he, rfl⟩
    unfold pyNext
    refine wpAny_bind (wpAny_attempt (wpAny_callSpecial?_slot (name := Str.ofString "__next__") hT PySem.F.slot_enumerate_next
      (wpAny_call_entry PySem.F.slot_enumerate_next hT PySem.F.entry_enumerate_next ?_ (PySem.F.args_enumerate_next_1 _))))
    show wpAny _ _ (field (.ref e) 2 >>= _) _ _ _
    refine wpAny_bind (wpAny_field he rfl (x := .ref it) rfl ?_)
    refine wpAny_bind (RZ.nextOf_tuple_end (show X.A.in1.handled = none from I.ok.hd hc) hit p (by simp; omega) fun h' x he' hx' => ?_)
    obtain ⟨o, ho, hc2⟩ := hx'
    refine wpAny_bind (wpAny_isInstance (T := "StopIteration") (b := true) ⟨o, ho, hc2⟩ isSubtype_stop ?_)
    exact wpAny_pure ⟨rfl, I.turned (t' := s.toks) (fun b o hb q => he' b o hb q) f0 f1 f3 f4 f5⟩
  self := fun A i s Q E st h => let ⟨⟨_, he⟩, _⟩ := st; wpAny_pyIter_enum he h
def iEnumU (K : PySem.W.Frag) (ta : TA) : TI := fun σ H R => ta σ H fun vs H1 => ∃ a xs, vs = [.ref a] ∧ SqT K H1 a xs ∧ R (ItU K a) H1
theorem pi_enumU {X : Cx} {e : Expr} {ta : TA} {p pos tpos : Pos} {elts : List Expr} {kk : Nat} (hg : Gl X "enumerate") (hm : X.mg "enumerate" = none) (ha : PA X [e] ta) (hs : starEach [e] X.env = [(false, eval e X.env)] := by rfl) :
    PI X (.Tuple elts kk tpos) (.Call (.Name "enumerate" p) [e] [] pos) (iEnumU X.K ta) := by
  refine ⟨fun pins s σ H R I h => ?_⟩
  refine Call_ (ld_blt I hg hm boot_enumerate (PyProof.Rows.callWith_type1 (thn (ha.run pos pins s σ H _ I h) fun us s1 ⟨vs, H1, I1, r1, q1⟩ => ?_) hs rfl))
  obtain ⟨a, xs, ex, hq, q⟩ := q1
  subst ex
  cases r1 with
  | cons r rr =>
    cases rr
    cases r
    obtain ⟨its, rv, p', hz⟩ := I1.tuple hq
    have hal : a < s1.heap.objs.size := by obtain ⟨_, q, _⟩ := p'; exact Heap.lt_size q
    refine ET.call_tuple p' fun h' he hit hk => wpAny_pyIter_enum he ?_
    have I2 : Inv X pins σ H1 { s1 with heap := h' } := I1.kept (t' := s1.toks) hk
    refine ⟨s1.heap.objs.size + 1, [s1.heap.objs.size + 1, s1.heap.objs.size], _, _, H1, rfl, I2, turn_enumU a (s1.heap.objs.size + 1) s1.heap.objs.size, ⟨⟨.none, he⟩, hit, Nat.succ_ne_self _, Nat.ne_of_lt hal, Nat.ne_of_lt (Nat.lt_succ_of_lt hal)⟩, fun b hb => ?_, q⟩
    have e' : b = s1.heap.objs.size + 1 ∨ b = s1.heap.objs.size := by simpa using hb
    have hle : s1.heap.objs.size ≤ b := by
      rcases e' with z | z
      · rw [z]; exact Nat.le_add_right _ _
      · rw [z]; exact Nat.le_refl _
    exact I1.fpOk hle (I1.hok.fresh hle)
section
variable {X : Cx} {K : PySem.W.Frag} {mg : Str → Option Value}
theorem its_enumU {a : Addr} {ds : List D} : Its K mg (ItU K a) [.ov (.ref a) (.val (.tup ds))] (enumL ds) := by
  intro L H R
  obtain ⟨p, vs, e, hp, lp, R1⟩ := (Rep.lend R).shT (List.mem_cons_self ..) rfl
  cases e
  have hl : (enumL ds).length = ds.length := by unfold enumL; simp
  refine ⟨fun i d hd => ?_, ⟨vs, hp, by rw [hl]; omega⟩⟩
  obtain ⟨e, he, rfl⟩ := enumL_get hd
  have hi : i < ds.length := (List.getElem?_eq_some_iff.mp he).1
  have hv : vs[i]? = some (vs[i]'(by omega)) := by simp
  refine ⟨⟨vs, _, hp, hv⟩, fun x H' y => ?_⟩
  obtain ⟨T, u, rfl, hT, rfl, y⟩ := y
  have hu := y vs hp
  refine ⟨sameNew hT, ?_⟩
  have R2 := (R1.nth hu he).keep.nob
  have R3 : Rep K mg H (zipI [.int (i : Nat), u] ([D.int (i : Nat), e].map O.val) ++ (.ov (.ref a) (.val (.tup ds)) :: L)) [] := R2.scal fun _ => .int _
  exact Rep.newT R3 rfl hT
/-- enumerate of a list or of a tuple -/
def enE (ρ : Env) : D → Res (List D)
  | .lst ds => .ok (enumL ds) ρ
  | .tup ds => .ok (enumL ds) ρ
  | _ => .no
def enL : Res O → Res (List D)
  | .ok o ρ => enE ρ o.toD
  | .exc x ρ => .exc x ρ
  | .no => .no
def mEnumU (m : M O) : M (List D) := fun ρ => enL (m ρ)
theorem si_enumU {a : Expr} {elts : List Expr} {kk : Nat} {tpos : Pos} {p pos : Pos} {m : M O} (hg : Gl X "enumerate") (hm : X.mg "enumerate" = none) (ha : SE X a m) (hs : starEach (a :: []) X.env = (false, eval a X.env) :: starEach [] X.env := by rfl) : SI X (.Tuple elts kk tpos) (.Call (.Name "enumerate" p) [a] [] pos) (mEnumU m) :=
  PI.imp (FB.PI.or (pi_enum hg hm (pa_cons ha pa_nil hs) hs) (pi_enumU hg hm (pa_cons ha pa_nil hs) hs)) fun σ H R w => by
    obtain ⟨ρ, T, ds, ρ', c, Rp, e, k⟩ := w
    unfold mEnumU at e
    cases e1 : m ρ with
    | exc x ρ1 => rw [e1] at e; cases e
    | no => rw [e1] at e; cases e
    | ok o ρ1 =>
      rw [e1] at e
      have e : enE ρ1 o.toD = .ok ds ρ' := e
      unfold enE at e
      split at e
      · rename_i es hd
        cases e
        refine .inl ⟨ρ, T, o, _, c, Rp, e1, fun v H' c' R' => ?_⟩
        have R2 := R'.frz
        rw [hd] at R2
        obtain ⟨p, vs, rfl, hp, lp, _⟩ := R2.lend.shL (List.mem_cons_self ..) rfl
        exact ⟨p, vs, rfl, .inl hp, k _ _ _ c' its_enum R2⟩
      · rename_i es hd
        cases e
        refine .inr ⟨ρ, T, o, _, c, Rp, e1, fun v H' c' R' => ?_⟩
        have R2 := R'.frz
        rw [hd] at R2
        obtain ⟨p, vs, rfl, hp, lp, _⟩ := R2.lend.shT (List.mem_cons_self ..) rfl
        exact ⟨p, vs, rfl, hp, k _ _ _ c' its_enumU R2⟩
      · cases e
@[simp] theorem e_mEnumU {ρ : Env} (m : M O) : mEnumU m ρ = enL (m ρ) := (rfl)
@[simp] theorem e_enL {ρ : Env} (d : D) : enL (.ok (.val d) ρ) = enE ρ d := (rfl)
@[simp] theorem e_enEl {ρ : Env} (ds : List D) : enE ρ (.lst ds) = .ok (enumL ds) ρ := (rfl)
@[simp] theorem e_enEt {ρ : Env} (ds : List D) : enE ρ (.tup ds) = .ok (enumL ds) ρ := (rfl)
/-! a text of the module -/
theorem sp_gs {x : Str} {pos : Pos} {z : Str} (hg : Gl X x) (h : ∃ u, X.mg x = some u ∧ RelV (.str z) u) (hz : PyData.strOk z = true := by decide +kernel) (hd : (x == ("__debug__" : Str)) = false := by decide) : SP X (.Name x pos) (pC (.str z)) := sp_c (C8.pe_gc hg h hd) fun _ => .str z hz
theorem str_gl {h : Heap} {x z : Str} (Y : K.In h) (G : h.Ns mainGlobals mg) (c : (He.Fa.str x z).ok K = true) : ∃ u, mg x = some u ∧ RelV (.str z) u := by
  obtain ⟨t, e⟩ := He.str_ok Y G c
  exact ⟨_, e, t, rfl⟩
end
end FB

/-! Own errors with fields, made and raised. -/
namespace FB
open PySem PySem.Spec L2
open PyProof.Rows hiding St

theorem oexB_ok {K : PySem.W.Frag} {C : Addr} (h : oexB K C = true) : OexC K C := by
  unfold oexB at h
  rw [Bool.and_eq_true, Bool.and_eq_true, Bool.and_eq_true, Bool.and_eq_true, decide_eq_true_eq, decide_eq_true_eq, decide_eq_true_eq] at h
  obtain ⟨q, h1, h2, h3, h4⟩ := h
  refine ⟨?_, h1, h2, h3, h4⟩
  split at q
  · rename_i dd cd sl ho
    split at q
    · rename_i C' bm k0 k1 k2 k3 n k5 hm hs
      simp only [Bool.and_eq_true, beq_iff_eq, Bool.not_eq_true'] at q
      obtain ⟨⟨⟨⟨rfl, rfl⟩, hdd⟩, hdel⟩, hv⟩ := q
      obtain ⟨nm, bs, mro, ns, qn, hd, sn, sub, ab, col, del⟩ := cd
      dsimp only at hm hdd hdel
      subst hm hdd hdel
      have hsl : sl = #[k0, k1, k2, k3, some (.builtin "ValueError.__new__"), k5] := by
        obtain ⟨l⟩ := sl
        simp only at hs
        rw [hs]
      subst hsl
      exact ⟨nm, qn, ns, bs, bm, sn, sub, ab, col, dd, k0, k1, k2, k3, k5, ho, hv⟩
    · cases q
  · cases q
theorem baseB_ok {K : PySem.W.Frag} {h : Heap} {mg : Str → Option Value} {B : Str} (X : K.In h) (G : h.Ns mainGlobals mg) (c : baseB B K = true) : BaseC K mg B := by
  unfold baseB at c
  rw [Bool.and_eq_true, Bool.and_eq_true, Bool.and_eq_true, decide_eq_true_eq] at c
  obtain ⟨h1, h2, h3, h4⟩ := c
  refine ⟨PySem.W.mg_of X G (He.eqO_ok h1), h2, h3, ?_⟩
  split at h4
  · rename_i n e
    rw [e, beq_iff_eq.mp h4]
  · cases h4
theorem ownInit_ok {K : PySem.W.Frag} {h : Heap} {mg : Str → Option Value} {c : Str} {fs : List Str} (X : K.In h) (G : h.Ns mainGlobals mg) (q : ownInitB c fs K = true) : OwnInit K mg c fs := by
  unfold ownInitB at q
  rw [Bool.and_eq_true, Bool.and_eq_true, Bool.and_eq_true, Bool.and_eq_true, decide_eq_true_eq] at q
  obtain ⟨h1, h2, h3, h4, h5⟩ := q
  exact ⟨PySem.W.mg_of X G (He.eqO_ok h2), oexB_ok h1, He.eqO_ok h3, h4, fun f hf => of_decide_eq_true (List.all_eq_true.mp h5 f hf)⟩
/-! a hook whose part of the heap holds the statics as well -/
theorem obsSG_eq {px : List (PySem.W.Frag → Bool)} {n : Nat} {fa : List He.Fa} {fn : List He.DefD} {g : Addr → Option Obj} {s : Shared} (h : ∀ a, g a = s.heap.get? a) : obsSG px n fa fn g = (hookS px n fa fn).obs s := by
  have e : g = s.heap.get? := funext h
  rw [e] <;> rfl

section
variable {X : Cx} {K : PySem.W.Frag} {mg : Str → Option Value}
theorem pe_beinit {pl : Sem Bool} {B : Str} {e : Expr} {es : List Expr} {ta : TA} {p1 p2 pos : Pos} (b : BaseC X.K X.mg B) (hg : Gl X B) (ha : PA X (e :: es) ta)
    (hc : eval (.Call (.Attribute (.Name B p1) "__init__" p2) (e :: es) [] pos) X.env = (do
      let ov ← eval (.Name B p1) X.env
      standAt p2.atName
      let (f, first) ← holding [ov] (getMethod ov "__init__" pl)
      callWith pos f first (backTo pos (starEach (e :: es) X.env)) (backToKw pos (keywordEach [] X.env))) := by rfl)
    (hdb : (B == ("__debug__" : Str)) = false := by decide)
    (he : starEach (e :: es) X.env = (false, eval e X.env) :: starEach es X.env := by rfl) (hpl : (backTo pos (starEach es X.env)).any (·.1) = false := by rfl) :
    PE X (.Call (.Attribute (.Name B p1) "__init__" p2) (e :: es) [] pos) (tVeI X.K ta) := by
  refine ⟨fun pins s σ H Q I h => ?_⟩
  refine PySem.W.methodCall_KW (pl := pl) (ld_glob I hg b.mg ?_ hdb) hc
  refine PySem.W.method_cls I.kIn b.ga (PySem.W.cls_value I.kIn b.rd b.at_ rfl ?_)
  show wpAny _ _ (callWith pos (Value.builtin "ValueError.__init__") [] (backTo pos (starEach (e :: es) X.env)) []) _ _ _
  refine PyProof.Rows.callWith_method1 (thn (ha.run pos pins _ σ H _ (I.tok _) h) fun us s1 ⟨vs, H1, I1, r1, a, C, ws, ev, hl, T, ea, q⟩ => ?_) he hpl
  subst ev
  cases r1 with
  | @cons _ u0 _ ur ra rw' =>
    obtain rfl : u0 = Value.ref a := ra
    have hlen : ur.length ≤ sizeLine := by
      rw [← Paired.length rw', sizeLine_eq]
      omega
    exact oinit_ok T I1 ea hlen fun s' J => ⟨.non, H1, J, rfl, q⟩
theorem spI_len {C : Addr} {fs : List Str} : ∀ vs H Q E, spI C fs vs H Q E → vs.length = fs.length + 1 := fun vs H Q E h => by
  obtain ⟨a, ws, rfl, h, _⟩ := h
  simp [h]
theorem init2 {e1 e2 : Stmt} {f g : Str} {C : Addr} {N : List Str} {q1 : Stmt} {t1 : TE} (h1 : PS X q1 (tDrop (tVeI X.K (tCons (tVar 0) (tCons t1 tNil))))) (ht : ∀ σ H Q, (∀ z, Q z H) → t1 σ H Q) (hs : PS X e1 (tOst X.K f (tVar 0) (tVar 1))) (hs2 : PS X e2 (tOst X.K g (tVar 0) (tVar 2))) (T : OexC X.K C) (no : PySem.W.findIn X.K (.ref C) f = some none) (no2 : PySem.W.findIn X.K (.ref C) g = some none)
    {vs : List V} {H : Hp} {Q : VK} {E : XK} (h : spI C [f, g] vs H Q E) : ∃ t, PSs X [q1, e1, e2] t ∧ t { nx := fun _ H' => Q .non H', rt := Q } (L2.start N vs) H := by
  refine ⟨_, pss_cons h1 (pss_cons hs (pss_one hs2)), ?_⟩
  obtain ⟨a, ws, rfl, hl, ha, k⟩ := h
  match ws, hl with
  | [y, z], _ =>
    have s0 : (L2.start N [V.ref a, y, z])[0]? = some (some (V.ref a)) := rfl
    have s1 : (L2.start N [V.ref a, y, z])[1]? = some (some y) := rfl
    have s2 : (L2.start N [V.ref a, y, z])[2]? = some (some z) := rfl
    refine ⟨.ref a, s0, ht _ _ _ fun z' => ?_⟩
    refine ⟨a, C, [z'], rfl, by show 1 ≤ 1000; decide, T, ha, ?_⟩
    refine ⟨y, s1, .ref a, s0, a, C, rfl, T, no, .inl ⟨ha, fun dx h1 h2 => ?_⟩⟩
    have d1 : upd (upd H dx (exd dx [(f, y)])) a (exo a C (some dx)) dx = some (exd dx [(f, y)]) := by rw [upd_ne h2, upd_same]
    refine ⟨z, s2, .ref a, s0, a, C, rfl, T, no2, .inr ⟨dx, [(f, y)], upd_same, d1, by show 1 ≤ 900; decide, ?_⟩⟩
    exact k dx _ h1 h2 (by rw [upd_ne (Ne.symm h2), upd_same]) upd_same fun b hb hd => by rw [upd_ne hd, upd_ne hb, upd_ne hd]
end
section
variable {P : Program} {w : World} {K : PySem.W.Frag} {mg : Str → Option Value} {base : Heap}
theorem mkX_of {c qual : Str} {fs : List Str} {st : Stmt} {fd : FuncData} {N ps : List Str} (ow : OwnInit K mg c fs) (F : C8.Fun K "__init__" qual st (He.ma K (He.ga K c) "__init__") fd) (bi : Binds K fd ps []) (S : FnScope N ps (C8.fnScope st)) (hn : ps.length = fs.length + 1 := by rfl)
    (hb : ∀ (cdv : Value) (A : Around) (outer : List PySem.Env) (s : Shared) (H : Hp) (vs : List V) (Q : VK) (E : XK), spI (He.ga K c) fs vs H Q E →
      ∃ t, PSs (cxOf C8.CX0 P w K mg base N qual (C8.fnScope st) (He.ma K (He.ga K c) "__init__") cdv A outer s H E).nox (C8.fnBody st) t ∧ t { nx := fun _ H' => Q .non H', rt := Q } (L2.start N vs) H) : MkX P w K mg base c fs :=
  ⟨ow, fd, ps, C8.fn0 (k := 0) F S (fun vs H Q E h => by rw [hn]; exact spI_len vs H Q E h) fun cdv A outer s H vs Q E _ h => hb cdv A outer s H vs Q E h, bi⟩
end
section
variable {X : Cx} {P : List Nat} {W : WX}
/-- raise C(e, ..) -/
def rfK (c : Str) (fs : List Str) : Res (List O) → Res Fl
  | .ok os ρ => if os.length = fs.length ∧ 0 < fs.length ∧ os.length ≤ 1000 then .exc ⟨c, fs.reverse, (O.toDs os).reverse⟩ ρ else .no
  | _ => .no
def mRaiseF (c : Str) (fs : List Str) (m : M (List O)) : M Fl := fun ρ => rfK c fs (m ρ)
theorem ssX_raiseF {c : Str} {fs : List Str} {e : Expr} {es : List Expr} {m : M (List O)} {p pos pos' : Pos} {j : Nat} (ok : CxOk X) (tk : Takes X W) (mk : MkX X.prog X.w X.K X.mg X.base c fs) (hr : Room j X.A) (hk : 2 ≤ j) (hg : Gl X c) (ha : SEs X (e :: es) m)
    (hdb : (c == ("__debug__" : Str)) = false := by decide) (he : starEach (e :: es) X.env = (false, eval e X.env) :: starEach es X.env := by rfl) (hpl : (backTo pos (starEach es X.env)).any (·.1) = false := by rfl) :
    SSX X P W (.Raise (some (.Call (.Name c p) (e :: es) [] pos)) none pos') (mRaiseF c fs m) := by
  obtain ⟨fd, ps, F, bi⟩ := mk.ex
  have pm := pmk_oex (X := X) (p := p) (pos := pos) (dvs := []) (ds := []) mk.ow.ox mk.ow.ic mk.ow.ti F (hr.mono hk) bi .nil C8.pass0 hg mk.ow.mg ha hdb he hpl
  refine PS.imp (ps_raise ok.calm tk pm) fun D σ H w => ?_
  obtain ⟨ρ, T, cv, R, h⟩ := w
  unfold mRaiseF at h
  cases e1 : m ρ with
  | exc x ρ1 => rw [e1] at h; exact h.elim
  | no => rw [e1] at h; exact h.elim
  | ok os ρ1 =>
    rw [e1] at h
    have h : PostX X.K X.mg P T W D σ (if os.length = fs.length ∧ 0 < fs.length ∧ os.length ≤ 1000 then .exc ⟨c, fs.reverse, (O.toDs os).reverse⟩ ρ1 else .no) := h
    split at h
    · rename_i hl
      obtain ⟨hl1, hl2, hl3⟩ := hl
      have h : ExP X.K X.mg P T W σ ⟨c, fs.reverse, (O.toDs os).reverse⟩ ρ1 := h
      refine ⟨ρ, T, os, ρ1, cv, R, e1, fun vs H1 c1 hv R1 => ⟨by omega, fun a ha1 => ?_⟩⟩
      refine ⟨a, vs ++ [], rfl, by simp; omega, upd_same, fun d H2 hd1 hda h1 h2 h3 => ⟨rfl, d, _, h1, h2, ?_, ?_⟩⟩
      · rw [upd_ne hda] at hd1
        exact hd1
      · have hd : H1 d = none := by rw [upd_ne hda] at hd1; exact hd1
        have eH : upd (del H2 a) d (.xd (fs.zip (vs ++ [])).reverse) = upd H1 d (.xd (fs.zip (vs ++ [])).reverse) := by
          funext b
          by_cases hb : b = d
          · rw [hb, upd_same, upd_same]
          · rw [upd_ne hb, upd_ne hb]
            by_cases hba : b = a
            · rw [hba, del_same, ha1]
            · rw [del_ne hba, h3 b hba hb, upd_ne hba]
        rw [eH]
        have td : (O.toDs os).length = os.length := toDs_len os
        have R2 := (R1.frzs).new (o := .xd (fs.zip (vs ++ [])).reverse) hd
        rw [List.append_nil] at R2 ⊢
        have ez : (fs.zip vs).reverse = fs.reverse.zip vs.reverse := by
          rw [List.zip_eq_zipWith, List.zip_eq_zipWith, List.reverse_zipWith]
          omega
        refine h (.ref (He.ga X.K c)) (some d) (.raw d (.xd (fs.zip vs).reverse) :: zipI vs.reverse ((O.toDs os).reverse.map O.val)) σ _ (Fix.refl _ _) c1 mk.ow.mg (.inr ⟨d, vs.reverse, ?_, rfl, by simp; omega, by simp; omega, by rw [ez]⟩) (R2.perm ?_)
        · intro z
          have z' : (O.toDs os).reverse = [] := z
          have q := congrArg List.length z'
          rw [List.length_reverse, td, List.length_nil] at q
          omega
        · refine List.Perm.cons _ (List.Perm.append_right _ ?_)
          have : zipI vs.reverse ((O.toDs os).reverse.map O.val) = (zipI vs ((O.toDs os).map O.val)).reverse := by
            unfold zipI
            rw [List.map_reverse, List.reverse_zipWith]
            simp; omega
          rw [this]
          exact (List.reverse_perm _).symm
    · exact h.elim
@[simp] theorem e_mRaiseF {ρ : Env} (c : Str) (fs : List Str) (m : M (List O)) : mRaiseF c fs m ρ = rfK c fs (m ρ) := (rfl)
theorem e_rfK {ρ : Env} (c : Str) (fs : List Str) (os : List O) (h : os.length = fs.length ∧ 0 < fs.length ∧ os.length ≤ 1000) : rfK c fs (.ok os ρ) = .exc ⟨c, fs.reverse, (O.toDs os).reverse⟩ ρ := if_pos h
end
section
variable {X : Cx} {K : PySem.W.Frag} {mg : Str → Option Value}
/-! a tuple times a number -/
end
end FB

/-! is True. -/
namespace FB
open PySem PySem.Spec L2
open PyProof.Rows hiding St
section
variable {X : Cx} {K : PySem.W.Frag} {mg : Str → Option Value}
end
end FB

/-! Raising calls inside expressions: under not, a built-in, as what a comprehension goes over; d.get(k, x) of a dict just made. -/
namespace FB
open PySem PySem.Spec L2
open PyProof.Rows hiding St

section
variable {X : Cx} {W : WX}
/-- behind a thing that may raise, a plain step -/
theorem tMX_then {K : PySem.W.Frag} {mg : Str → Option Value} {m : M O} {f : O → Env → Res O} {σ : L2.St} {H : Hp} {Q Q' : VK} (w : tMX K mg W (fun ρ => (m ρ).bind f) σ H Q)
    (q : ∀ o ρ1 T, PostM K mg T W σ Q (f o ρ1) → ∀ v H', Cov σ ρ1 → Rep K mg H' (.ov v o :: (pairs σ ρ1 ++ T)) [] → Q' v H') : tMX K mg W m σ H Q' := by
  obtain ⟨ρ, T, c, R, h⟩ := w
  refine ⟨ρ, T, c, R, ?_⟩
  have h : PostM K mg T W σ Q ((m ρ).bind f) := h
  cases e1 : m ρ with
  | ok o ρ1 =>
    rw [e1] at h
    exact fun v H' c' R' => q o ρ1 T h v H' c' R'
  | exc x ρ1 => rw [e1] at h; exact h
  | no => rw [e1] at h; exact h
/-! d.get(k, x), d a dict just made -/
end
variable {ρ : Env}
@[simp] theorem e_m1Kx (op : O → Option O) (x : Exn) : m1K op (.exc x ρ) = .exc x ρ := (rfl)
@[simp] theorem e_notVKx (x : Exn) : notVK (.exc x ρ) = .exc x ρ := (rfl)
@[simp] theorem e_itAx (x : Exn) : itA (.exc x ρ) = .exc x ρ := (rfl)
end FB

/-! Dicts walked: they are locked meanwhile. -/
namespace FB
open PySem PySem.Spec L2
open PyProof.Rows hiding St
section
variable {X : Cx} {K : PySem.W.Frag} {mg : Str → Option Value}
theorem rd_uniq {G : Hp} {d : Addr} {kvs : List (Key × V)} {u : HO} (h : Rd G d (.dK kvs)) (h2 : Rd G d u) (hu : ∀ o w, u ≠ .frz o w) : u = .dK kvs := by
  rcases h with h | ⟨o, h⟩ <;> rcases h2 with h2 | ⟨o2, h2⟩
  · rw [h] at h2; cases h2; rfl
  · rw [h] at h2; cases h2
  · rw [h] at h2; cases h2; exact absurd rfl (hu _ _)
  · rw [h] at h2; cases h2; rfl
theorem LkS.rdn {d : Addr} {kvs : List (Key × V)} {G G' : Hp} (l : LkS d kvs G G') {a : Addr} {u : HO} (h : Rd G a u) (hu : ∀ o w, u ≠ .frz o w) : Rd G' a u := by
  by_cases e : a = d
  · subst e
    rw [rd_uniq l.rd h hu]; exact l.rd'
  · rcases h with h | ⟨o, h⟩
    · exact .inl ((l.ne a e).trans h)
    · exact .inr ⟨o, (l.ne a e).trans h⟩
theorem LkS.seqT {d : Addr} {kvs : List (Key × V)} {G G' : Hp} (l : LkS d kvs G G') {a : Addr} {xs : List V} (h : SqT K G a xs) : SqT K G' a xs := by
  rcases h with h | h
  · exact .inl (l.rdn h fun _ _ z => by cases z)
  · exact .inr h
theorem LkS.seqL {d : Addr} {kvs : List (Key × V)} {G G' : Hp} (l : LkS d kvs G G') {a : Addr} {xs : List V} (h : SqL K G a xs) : SqL K G' a xs := by
  rcases h with h | h
  · exact .inl (l.rdn h fun _ _ z => by cases z)
  · exact .inr h
mutual
theorem Vw.lk {G G' : Hp} {d : Addr} {kvs : List (Key × V)} (l : LkS d kvs G G') : ∀ {v : V} {x : D}, Vw K mg G v x → Vw K mg G' v x
  | _, _, .non => .non
  | _, _, .bl b => .bl b
  | _, _, .int i => .int i
  | _, _, .str s h => .str s h
  | _, _, .tup h hs => .tup (l.seqT h) (Vws.lk l hs)
  | _, _, .lst h hs => .lst (l.rdn h fun _ _ z => by cases z) (Vws.lk l hs)
  | _, _, .scr h => .scr (l.seqL h)
  | _, _, .fn h => .fn h
  | _, _, .dct h hk hs => .dct (l.rdn h fun _ _ z => by cases z) hk (Vws.lk l hs)
  | _, _, .ins (a := a) h hm hn hs => by
    have e : a ≠ d := fun e => by
      subst e
      rcases l.rd with z | ⟨o, z⟩ <;> rw [h] at z <;> cases z
    exact .ins ((l.ne a e).trans h) hm hn (Vws.lk l hs)
theorem Vws.lk {G G' : Hp} {d : Addr} {kvs : List (Key × V)} (l : LkS d kvs G G') : ∀ {vs : List V} {ds : List D}, Vws K mg G vs ds → Vws K mg G' vs ds
  | _, _, .nil => .nil
  | _, _, .cons h t => .cons (Vw.lk l h) (Vws.lk l t)
end
mutual
theorem VO.lk {G G' H H' : Hp} {d : Addr} {kvs : List (Key × V)} (l : LkS d kvs G G') : ∀ {v : V} {o : O} {as : List Addr}, VO K mg G H v o as → (∀ a ∈ as, H' a = H a) → VO K mg G' H' v o as
  | _, _, _, .val h, _ => .val (h.lk l)
  | _, _, _, .lst h hs, q => .lst ((q _ (by simp)).trans h) (VOs.lk l hs fun a ha => q a (by simp [ha]))
  | _, _, _, .dct h hk hs, q => .dct ((q _ (by simp)).trans h) hk (VOs.lk l hs fun a ha => q a (by simp [ha]))
  | _, _, _, .ins h hm hn hs, q => .ins ((q _ (by simp)).trans h) hm hn (VOs.lk l hs fun a ha => q a (by simp [ha]))
theorem VOs.lk {G G' H H' : Hp} {d : Addr} {kvs : List (Key × V)} (l : LkS d kvs G G') : ∀ {vs : List V} {os : List O} {as : List Addr}, VOs K mg G H vs os as → (∀ a ∈ as, H' a = H a) → VOs K mg G' H' vs os as
  | _, _, _, .nil, _ => .nil
  | _, _, _, .cons h t, q => .cons (VO.lk l h fun a ha => q a (by simp [ha])) (VOs.lk l t fun a ha => q a (by simp [ha]))
end
/-- the item locks another one -/
def NoPin (d : Addr) : Item → Prop
  | .pin p _ _ => p ≠ d
  | .but _ x => NoPin d x
  | _ => True
theorem LkS.ers {d2 d : Addr} {kvs : List (Key × V)} {G G' : Hp} (l : LkS d kvs G G') (h : d ≠ d2) : LkS d kvs (ers d2 G) (ers d2 G') := by
  refine ⟨fun a ha => ?_, ?_, ?_⟩
  · unfold FB.ers
    split
    · rfl
    · exact l.ne a ha
  · rcases l.rd with q | ⟨o, q⟩
    · exact .inl (by rw [ers_ne h]; exact q)
    · exact .inr ⟨o, by rw [ers_ne h]; exact q⟩
  · rcases l.rd' with q | ⟨o, q⟩
    · exact .inl (by rw [ers_ne h]; exact q)
    · exact .inr ⟨o, by rw [ers_ne h]; exact q⟩
theorem IOk.lk {G G' H H' : Hp} {d : Addr} {kvs : List (Key × V)} (l : LkS d kvs G G') {x : Item} {as : List Addr} (h : IOk K mg G H x as) (n : NoPin d x) (q : ∀ a ∈ as, H' a = H a) : IOk K mg G' H' x as := by
  induction h generalizing G' H' with
  | ov h => exact .ov (h.lk l q)
  | raw h => exact .raw ((q _ (by simp)).trans h)
  | pin h => exact .pin ((l.ne _ n).trans h)
  | @but G H d2 x as h ih =>
    by_cases e : d = d2
    · subst e
      have e2 : ers d G' = ers d G := by
        funext a
        unfold ers
        split
        · rfl
        · rename_i ha; exact l.ne a ha
      refine .but ?_
      rw [e2]
      exact h.mono (Same.refl _) q
    · exact .but (ih (l.ers e) n q)
theorem IsOk.lk {G G' H H' : Hp} {d : Addr} {kvs : List (Key × V)} (l : LkS d kvs G G') : ∀ {L : List Item} {as : List Addr}, IsOk K mg G H L as → (∀ x ∈ L, NoPin d x) → (∀ a ∈ as, H' a = H a) → IsOk K mg G' H' L as
  | _, _, .nil, _, _ => .nil
  | _, _, .cons h t, n, q => by
    refine .cons ?_ (IsOk.lk l t (fun x hx => n x (List.mem_cons_of_mem _ hx)) fun a ha => q a (by simp [ha]))
    exact h.lk l (n _ (List.mem_cons_self ..)) fun a ha => q a (by simp [ha])
variable {H : Hp} {L : List Item}
theorem NoPin.pairs {d : Addr} : ∀ {σ : L2.St} {ρ : Env}, ∀ x ∈ pairs σ ρ, NoPin d x := by
  intro σ
  induction σ with
  | nil => intro ρ x hx; rw [pairs_nil] at hx; simp at hx
  | cons v σ ih =>
    intro ρ x hx
    cases ρ with
    | nil => rw [pairs_nil'] at hx; simp at hx
    | cons o ρ =>
      cases v with
      | none => rw [pairs_ns] at hx; exact ih x hx
      | some v =>
        cases o with
        | none => rw [pairs_sn] at hx; exact ih x hx
        | some o =>
          rw [pairs_ss] at hx
          rcases List.mem_cons.mp hx with e | hx
          · subst e; trivial
          · exact ih x hx
def keyD : Key → D
  | .inl i => .int i
  | .inr s => .str s
def keyOk : Key → Bool
  | .inl _ => true
  | .inr s => PyData.strOk s
theorem key_vwD {G : Hp} {k : Key} (h : keyOk k = true) : Vw K mg G (kV k) (keyD k) := by
  cases k with
  | inl i => exact .int i
  | inr s => exact .str s h
/-! comprehensions -/
end
end FB

/-! Lists turned round, dicts copied, counted, compared, their keys. -/
namespace FB
open PySem PySem.Spec L2
open PyProof.Rows hiding St
section
variable {X : Cx} {K : PySem.W.Frag} {mg : Str → Option Value}
/-! ### xs[::-1] -/
/-! ### list(d), len(d) -/
theorem Rep.keys {H : Hp} {L : List Item} {B : List (V × O)} (R : Rep K mg H L B) : ∀ {ks : List Key}, ks.all keyOk = true → Rep K mg H (zipI (ks.map kV) ((ks.map keyD).map O.val) ++ L) B
  | [], _ => R
  | k :: ks, h => by
    rw [List.all_cons, Bool.and_eq_true] at h
    exact Rep.scal (Rep.keys R h.2) fun G => key_vwD h.1
/-! ### dict(d) -/
theorem Rep.shD {H : Hp} {L : List Item} {B : List (V × O)} {x : V} {o : O} {ks : List Key} {ds : List D} (h : Rep K mg H L B) (hx : (x, o) ∈ B) (e : o.sh = some (.dct ks ds)) :
    ∃ p kvs, x = .ref p ∧ Rd H p (.dK kvs) ∧ (kvs.map (·.1) = ks ∧ ks.Nodup) ∧ (kvs.map (·.2)).length = ds.length ∧ Rep K mg H (zipI (kvs.map (·.2)) (ds.map O.val) ++ L) B := by
  obtain ⟨A, nd, ok, hb⟩ := h
  obtain ⟨as, q, ha⟩ := hb _ hx
  cases q with
  | val q =>
    cases e
    cases q with
    | dct q hk qs => exact ⟨_, _, rfl, rd_hide q, hk, qs.length, Rep.items ⟨A, nd, ok, hb, qs⟩⟩
  | dct q hk qs =>
    rename_i p kvs ks os as'
    have e : (vals? os).map (D.dct ks) = some _ := e
    cases e1 : vals? os with
    | none => rw [e1] at e; cases e
    | some es =>
      rw [e1] at e; cases e
      rw [vals?_eq e1] at qs
      obtain ⟨qs, _⟩ := VOs.of_vals qs
      exact ⟨_, _, rfl, .inl q, hk, qs.length, Rep.items ⟨A, nd, ok, hb, qs⟩⟩
  | lst q qs =>
    rename_i p vs os as'
    have e : (vals? os).map D.lst = some _ := e
    cases e1 : vals? os with
    | none => rw [e1] at e; cases e
    | some es => rw [e1] at e; cases e
  | ins q hm hn qs =>
    rename_i c ns os as'
    have e : (vals? os).map (D.ins c ns) = some _ := e
    cases e1 : vals? os with
    | none => rw [e1] at e; cases e
    | some es => rw [e1] at e; cases e
def dctSh (a : O) : Option (List Key × List D) := match a.sh with
  | some (.dct ks ds) => some (ks, ds)
  | _ => none
theorem dctSh_eq {a : O} {ks : List Key} {ds : List D} (h : dctSh a = some (ks, ds)) : a.sh = some (.dct ks ds) := by
  unfold dctSh at h
  split at h
  · rename_i e; cases h; exact e
  · cases h
/-- a dict of one's own: dict(d) -/
def mDictC (f : Pf) : M O := fun ρ => match (f ρ).bind dctSh with
  | some p => .ok (.dct p.1 (p.2.map O.val)) ρ
  | none => .no
theorem se_dictC {x : Str} {a : Expr} {p pos : Pos} {f : Pf} (hg : Gl X x) (hm : X.mg x = none) (hv : bootBuiltins x = some (.type "dict")) (ha : SP X a f)
    (hn : x ≠ "__name__" := by decide) (hdb : (x == ("__debug__" : Str)) = false := by decide) (hst : starEach (a :: []) X.env = (false, eval a X.env) :: starEach [] X.env := by rfl) (hpl : (backTo pos (starEach [] X.env)).any (·.1) = false := by rfl) :
    SE X (.Call (.Name x p) [a] [] pos) (mDictC f) := PE.imp (pe_callTy (call_dictD (X := X)) hg hm hv (pa_cons ha pa_nil hst) hn hdb hst hpl) fun σ H Q q => by
  obtain ⟨ρ, T, o, ρ', c, R, e, k⟩ := q
  unfold mDictC at e
  cases e1 : f ρ with
  | none => rw [e1] at e; cases e
  | some a =>
    rw [e1] at e
    have e : (match dctSh a with | some p => Res.ok (O.dct p.1 (p.2.map O.val)) ρ | none => .no) = .ok o ρ' := e
    cases e2 : dctSh a with
    | none => rw [e2] at e; cases e
    | some q =>
      rw [e2] at e
      cases e
      refine ⟨ρ, T, [], a, c, R, e1, fun v H1 s1 R1 => ?_⟩
      obtain ⟨b, kvs, rfl, h1, h2, h3, R2⟩ := R1.shD (List.mem_cons_self ..) (dctSh_eq e2)
      refine ⟨b, kvs, rfl, h1, fun q hq => k _ _ c ?_⟩
      exact Rep.closeD ((R2.nob).new hq) (by simpa using h3) h2
/-! ### d == e -/
variable {ρ : Env}
def dcK (ρ : Env) : Option (List Key × List D) → Res O
  | some p => .ok (.dct p.1 (p.2.map O.val)) ρ
  | none => .no
def dcA (ρ : Env) : Option O → Res O
  | some o => dcK ρ (dctSh o)
  | none => .no
@[simp] theorem e_mDictC (f : Pf) : mDictC f ρ = dcA ρ (f ρ) := by
  unfold mDictC dcA
  cases f ρ with
  | none => rfl
  | some o =>
    show (match dctSh o with | some p => _ | none => _) = dcK ρ (dctSh o)
    cases dctSh o <;> rfl
@[simp] theorem e_dcA (o : O) : dcA ρ (some o) = dcK ρ (dctSh o) := (rfl)
@[simp] theorem e_dcK (ks : List Key) (ds : List D) : dcK ρ (some (ks, ds)) = .ok (.dct ks (ds.map O.val)) ρ := (rfl)
@[simp] theorem dctSh_val (ks : List Key) (ds : List D) : dctSh (.val (.dct ks ds)) = some (ks, ds) := (rfl)
end
end FB

/-! Comprehensions and loops whose turns simp computes. -/
namespace FB
open PySem PySem.Spec L2
open PyProof.Rows hiding St
variable {ρ : Env}
/-- a turn of a comprehension -/
def cstep (own : List Nat) (a : D → Env → Option Env) (t : M Bool) (e : M O) (d : D) (ρ : Env) : Res (Option O) := match a d ρ with
  | none => .no
  | some ρ1 => (t ρ1).bind fun b ρ2 => if b = true then (e ρ2).bind fun o ρ3 => .ok (some o) (wipeE ρ3 own) else .ok none (wipeE ρ2 own)
def csE (own : List Nat) : Res O → Res (Option O)
  | .ok o ρ => .ok (some o) (wipeE ρ own)
  | .exc x ρ => .exc x ρ
  | .no => .no
def csT (own : List Nat) (e : M O) : Res Bool → Res (Option O)
  | .ok b ρ => if b = true then csE own (e ρ) else .ok none (wipeE ρ own)
  | .exc x ρ => .exc x ρ
  | .no => .no
def csS (own : List Nat) (t : M Bool) (e : M O) : Option Env → Res (Option O)
  | some ρ => csT own e (t ρ)
  | none => .no
@[simp] theorem e_cstep (own : List Nat) (a : D → Env → Option Env) (t : M Bool) (e : M O) (d : D) : cstep own a t e d ρ = csS own t e (a d ρ) := by
  unfold cstep csS
  cases a d ρ with
  | none => rfl
  | some ρ1 =>
    show (t ρ1).bind _ = csT own e (t ρ1)
    unfold csT
    cases t ρ1 with
    | ok b ρ2 =>
      show (if b = true then (e ρ2).bind _ else _) = if b = true then csE own (e ρ2) else _
      unfold csE
      cases e ρ2 <;> rfl
    | exc x ρ2 => rfl
    | no => rfl
@[simp] theorem e_csS (own : List Nat) (t : M Bool) (e : M O) : csS own t e (some ρ) = csT own e (t ρ) := (rfl)
@[simp] theorem e_csT (own : List Nat) (e : M O) (b : Bool) : csT own e (.ok b ρ) = if b = true then csE own (e ρ) else .ok none (wipeE ρ own) := (rfl)
@[simp] theorem e_csE (own : List Nat) (o : O) : csE own (.ok o ρ) = .ok (some o) (wipeE ρ own) := (rfl)
theorem compL_step {own : List Nat} {a : D → Env → Option Env} {t : M Bool} {e : M O} (d : D) (ds : List D) : compL own a t e (d :: ds) ρ = (cstep own a t e d ρ).bind fun o ρ1 => match o with
    | some o => (compL own a t e ds ρ1).bind fun os ρ2 => .ok (o :: os) ρ2
    | none => compL own a t e ds ρ1 := by
  show (match a d ρ with | none => Res.no | some ρ1 => (t ρ1).bind fun b ρ2 => if b = true then (e ρ2).bind fun o ρ3 => (compL own a t e ds (wipeE ρ3 own)).bind fun os ρ4 => .ok (o :: os) ρ4 else compL own a t e ds (wipeE ρ2 own)) = _
  unfold cstep
  cases a d ρ with
  | none => rfl
  | some ρ1 =>
    show (t ρ1).bind _ = ((t ρ1).bind _).bind _
    cases t ρ1 with
    | ok b ρ2 =>
      cases b with
      | true =>
        show (e ρ2).bind _ = ((e ρ2).bind _).bind _
        cases e ρ2 <;> rfl
      | false => rfl
    | exc x ρ2 => rfl
    | no => rfl
theorem compL_fn {α : Type} {own : List Nat} {a : D → Env → Option Env} {t : M Bool} {e : M O} (f : α → D) (c : α → Bool) (g : α → O) : ∀ {xs : List α},
    (∀ x ∈ xs, cstep own a t e (f x) ρ = if c x = true then .ok (some (g x)) ρ else .ok none ρ) → compL own a t e (xs.map f) ρ = .ok ((xs.filter c).map g) ρ
  | [], _ => rfl
  | x :: xs, h => by
    have ih := compL_fn (own := own) (a := a) (t := t) (e := e) f c g (xs := xs) fun d hd => h d (List.mem_cons_of_mem _ hd)
    rw [List.map_cons, compL_step, h x (List.mem_cons_self ..)]
    cases hc : c x with
    | true => simp [ih, hc]
    | false => simp [ih, hc]
theorem wipeE_get (ρ : Env) : ∀ (own : List Nat) (j : Nat), (wipeE ρ own)[j]? = if j ∈ own ∧ j < ρ.length then some none else ρ[j]?
  | [], j => by simp
  | v :: vs, j => by
    rw [e_wipe1, List.getElem?_set, wipeE_get ρ vs j, wipeE_len]
    by_cases e : v = j
    · subst e
      by_cases hl : v < ρ.length
      · simp [hl]
      · simp [hl]
    · simp [e, show ¬ j = v from fun z => e z.symm]
theorem backE_get (ρ2 ρ1 : Env) (hl : ρ2.length = ρ1.length) : ∀ (own : List Nat), own.Nodup → ∀ j, (backE ρ2 ρ1 own)[j]? = if j ∈ own ∧ (ρ1[j]?).join.isSome = true then ρ1[j]? else ρ2[j]?
  | [], _, j => by
    show ρ2[j]? = _
    simp
  | v :: vs, nd, j => by
    rw [List.nodup_cons] at nd
    have ih := backE_get ρ2 ρ1 hl vs nd.2
    rw [e_back1]
    have hv : (wipeE ρ1 vs)[v]? = ρ1[v]? := by rw [wipeE_get]; simp [nd.1]
    rw [hv]
    by_cases e : v = j
    · subst e
      cases h1 : ρ1[v]? with
      | none =>
        rw [e_bkKx, ih]
        simp [nd.1, h1]
      | some o =>
        cases o with
        | none =>
          rw [e_bkKn, ih]
          simp [nd.1, h1]
        | some o =>
          rw [e_bkKs, List.getElem?_set_self]
          · simp [h1]
          · have e3 : v < ρ1.length := (List.getElem?_eq_some_iff.mp h1).1
            have e4 := ih v
            rw [if_neg (fun z => nd.1 z.1)] at e4
            have : (backE ρ2 ρ1 vs)[v]? = some (ρ2[v]'(by omega)) := by rw [e4, List.getElem?_eq_getElem]
            exact (List.getElem?_eq_some_iff.mp this).1
    · have hb : ∀ q : Option (Option O), (bkK v (backE ρ2 ρ1 vs) q)[j]? = (backE ρ2 ρ1 vs)[j]? := by
        intro q
        cases q with
        | none => rfl
        | some o =>
          cases o with
          | none => rfl
          | some o => rw [e_bkKs, List.getElem?_set_ne e]
      rw [hb, ih]
      simp [show ¬ j = v from fun z => e z.symm]
theorem back_wipe (ρ : Env) {own : List Nat} (nd : own.Nodup) : backE (wipeE (wipeE ρ own) own) ρ own = ρ := by
  apply List.ext_getElem?
  intro j
  rw [backE_get _ _ (by rw [wipeE_len, wipeE_len]) own nd, wipeE_get, wipeE_len, wipeE_get]
  by_cases h1 : j ∈ own
  · cases h2 : ρ[j]? with
    | none =>
      have : ¬ j < ρ.length := by
        intro z
        rw [List.getElem?_eq_getElem z] at h2; cases h2
      simp [h1, this]
    | some o =>
      have : j < ρ.length := (List.getElem?_eq_some_iff.mp h2).1
      cases o <;> simp [h1, this]
  · simp [h1]
/-- a comprehension whose turns only read -/
theorem comp_run {α : Type} {it : M (List D)} {own : List Nat} {a : D → Env → Option Env} {t : M Bool} {e : M O} {ρ ρ1 : Env} (f : α → D) (c : α → Bool) (g : α → O) {xs : List α} (hi : it ρ = .ok (xs.map f) ρ1) (hl : xs.length ≤ 1000000) (nd : own.Nodup)
    (h : ∀ x ∈ xs, cstep own a t e (f x) (wipeE ρ1 own) = if c x = true then .ok (some (g x)) (wipeE ρ1 own) else .ok none (wipeE ρ1 own)) : mComp it own a t e ρ = .ok (.lst ((xs.filter c).map g)) ρ1 := by
  rw [e_mComp, hi, e_coK _ _ _ _ _ (by simpa using hl), compL_fn f c g h, e_coK2, back_wipe ρ1 nd]
theorem filter_tt {α : Type} (xs : List α) : xs.filter (fun _ => true) = xs := by
  induction xs with
  | nil => rfl
  | cons x xs ih => simp
theorem comp_map {α : Type} {it : M (List D)} {own : List Nat} {a : D → Env → Option Env} {t : M Bool} {e : M O} {ρ ρ1 : Env} (f : α → D) (g : α → O) {xs : List α} (hi : it ρ = .ok (xs.map f) ρ1) (hl : xs.length ≤ 1000000) (nd : own.Nodup)
    (h : ∀ x ∈ xs, cstep own a t e (f x) (wipeE ρ1 own) = .ok (some (g x)) (wipeE ρ1 own)) : mComp it own a t e ρ = .ok (.lst (xs.map g)) ρ1 := by
  rw [comp_run f (fun _ => true) g hi hl nd (by simpa using h), filter_tt]
/-! ### loops -/
def flK : Res Fl → Res Fl
  | .ok .ct ρ => .ok .nx ρ
  | r => r
def flA (b : M Fl) : Option Env → Res Fl
  | some ρ => flK (b ρ)
  | none => .no
/-- a turn of a loop -/
def fstep (a : D → Env → Option Env) (b : M Fl) (d : D) (ρ : Env) : Res Fl := flA b (a d ρ)
@[simp] theorem e_fstep (a : D → Env → Option Env) (b : M Fl) (d : D) : fstep a b d ρ = flA b (a d ρ) := (rfl)
@[simp] theorem e_flA (b : M Fl) : flA b (some ρ) = flK (b ρ) := (rfl)
@[simp] theorem e_flKn : flK (.ok .nx ρ) = .ok .nx ρ := (rfl)
@[simp] theorem e_flKc : flK (.ok .ct ρ) = .ok .nx ρ := (rfl)
@[simp] theorem e_flKb : flK (.ok .brk ρ) = .ok .brk ρ := (rfl)
@[simp] theorem e_flKr (o : O) : flK (.ok (.ret o) ρ) = .ok (.ret o) ρ := (rfl)
@[simp] theorem e_flKx (x : Exn) : flK (.exc x ρ) = .exc x ρ := (rfl)
@[simp] theorem flK_ite (c : Prop) [Decidable c] (r s : Res Fl) : flK (if c then r else s) = if c then flK r else flK s := by split <;> rfl
theorem forL_step (a : D → Env → Option Env) (b : M Fl) (d : D) (ds : List D) : forL a b (d :: ds) ρ = (match fstep a b d ρ with
    | .ok .nx ρ1 => forL a b ds ρ1
    | .ok .ct ρ1 => forL a b ds ρ1
    | .ok .brk ρ1 => .ok .nx ρ1
    | .ok (.ret o) ρ1 => .ok (.ret o) ρ1
    | .exc x ρ1 => .exc x ρ1
    | .no => .no : Res Fl) := by
  unfold fstep
  show (match a d ρ with | none => Res.no | some ρ1 => _) = _
  cases a d ρ with
  | none => rfl
  | some ρ1 =>
    show (b ρ1).bind _ = _
    unfold flA
    dsimp only
    cases b ρ1 with
    | ok f ρ2 => cases f <;> rfl
    | exc x ρ2 => rfl
    | no => rfl
/-! ### dicts -/
end FB

/-! max of a list of pairs of ints. -/
namespace FB
open PySem PySem.Spec L2
open PyProof.Rows hiding St
section
variable {X : Cx} {K : PySem.W.Frag} {mg : Str → Option Value}
end
end FB

/-! repr of a thing made of texts, ints, truths, None, in lists and tuples. -/
namespace FB
open PySem PySem.Spec L2
open PyProof.Rows hiding St
theorem okc_iff (x : Str) : PyData.strOk x = true ↔ Okc x := by
  unfold PyData.strOk Okc
  rw [← Array.all_toList, List.all_eq_true]
  simp
theorem Okc.app {a b : Str} (ha : Okc a) (hb : Okc b) : Okc (a ++ b) := by
  intro c hc
  have e : (a ++ b).cps = a.cps ++ b.cps := rfl
  rw [e, Array.toList_append, List.mem_append] at hc
  exact hc.elim (ha c) (hb c)
theorem Okc.lit (s : String) : Okc (Str.ofString s) := by
  intro c hc
  rw [Str.ofString_eq_toList] at hc
  have hc : c ∈ s.toList.map Char.toNat := hc
  obtain ⟨d, _, rfl⟩ := List.mem_map.mp hc
  have := d.valid
  show d.val.toNat < 1114112
  rcases this with h | ⟨_, h⟩
  · have : d.val.toNat < 55296 := h
    omega
  · exact h
theorem Okc.join {sep : Str} (hs : Okc sep) : ∀ {ts : List Str}, (∀ t ∈ ts, Okc t) → Okc (Str.join sep ts)
  | [], _ => fun c hc => by
    have hc : c ∈ (#[] : Array Nat).toList := hc
    simp at hc
  | [t], h => h t (by simp)
  | t :: u :: ts, h => by
    show Okc (t ++ sep ++ Str.join sep (u :: ts))
    exact ((h t (by simp)).app hs).app (Okc.join hs fun z hz => h z (List.mem_cons_of_mem _ hz))
theorem digits_ok (c : Nat) : ∀ d ∈ (Nat.toDigits 16 c).map Char.toNat, d < 1114112 := by
  intro d hd
  obtain ⟨e, _, rfl⟩ := List.mem_map.mp hd
  have := e.valid
  show e.val.toNat < 1114112
  rcases this with h | ⟨_, h⟩
  · have : e.val.toNat < 55296 := h
    omega
  · exact h
theorem reprChar_ok {q c : Nat} (hq : q < 1114112) (hc : c < 1114112) : ∀ d ∈ Builtin.Str.reprChar q c, d < 1114112 := by
  have hx : ∀ n, ∀ d ∈ List.replicate (n - ((Nat.toDigits 16 c).map Char.toNat).length) 48 ++ (Nat.toDigits 16 c).map Char.toNat, d < 1114112 := by
    intro n d hd
    rcases List.mem_append.mp hd with h | h
    · have := (List.mem_replicate.mp h).2; omega
    · exact digits_ok c d h
  intro d hd
  unfold Builtin.Str.reprChar at hd
  dsimp only at hd
  split at hd
  · simp at hd; omega
  · split at hd
    · simp at hd; omega
    · split at hd
      · simp at hd; omega
      · split at hd
        · simp at hd; omega
        · split at hd
          · simp at hd; omega
          · split at hd
            · rcases List.mem_append.mp hd with h | h
              · simp at h; omega
              · exact hx 2 d h
            · split at hd
              · rcases List.mem_append.mp hd with h | h
                · simp at h; omega
                · exact hx 4 d h
              · rcases List.mem_append.mp hd with h | h
                · simp at h; omega
                · exact hx 8 d h
theorem Okc.repr {x : Str} (h : Okc x) : Okc (reprText x) := by
  have hq : reprQuote x < 1114112 := by unfold reprQuote; split <;> omega
  have key : ∀ (l : List Nat) (acc : Array Nat), (∀ c ∈ l, c < 1114112) → (∀ c ∈ acc.toList, c < 1114112) → ∀ c ∈ (l.foldl (fun out c => out ++ (Builtin.Str.reprChar (reprQuote x) c).toArray) acc).toList, c < 1114112 := by
    intro l
    induction l with
    | nil => intro acc _ h2; exact h2
    | cons a l ih =>
      intro acc h1 h2
      rw [List.foldl_cons]
      refine ih _ (fun c hc => h1 c (List.mem_cons_of_mem _ hc)) fun c hc => ?_
      rw [Array.toList_append, List.mem_append] at hc
      exact hc.elim (h2 c) fun z => reprChar_ok hq (h1 a (List.mem_cons_self ..)) c (by simpa using z)
  intro c hc
  unfold reprText at hc
  rw [Array.toList_push, List.mem_append] at hc
  rcases hc with hc | hc
  · rw [← Array.foldl_toList] at hc
    exact key _ _ h (fun d hd => by simp at hd; omega) c hc
  · simp at hc; omega
section
variable {X : Cx} {K : PySem.W.Frag} {mg : Str → Option Value}
end
end FB

/-! The law's own def, looked at where the law is asked alone: there no text is being made. -/
namespace FB
open PySem PySem.Spec L2
open PyProof.Rows hiding St
section
variable {P : Program} {w : World} {K : PySem.W.Frag} {mg : Str → Option Value} {base : Heap}
/-- what a def does when the law is asked -/
def AtTop (P : Program) (w : World) (K : PySem.W.Frag) (mg : Str → Option Value) (base : Heap) (g : Addr) (fd : FuncData) (x : Str) (sp : Sp) : Prop :=
  ∀ (s : Shared) (G : Hp) (u : Value) (v : V) (Q : VK) (E : XK), Env0 P w K mg base callerA [] s G → BindsTo s fd ⟨[u], []⟩ [(x, u)] → RelV v u → sp [v] G Q E →
    codeAny (model P w) callerA (.call (.ref g) ⟨[u], []⟩) (CR C8.CX0 [] P w G s Q E) s
theorem at_top {z : Str} {st : Stmt} {g : Addr} {fd : FuncData} {N : List Str} {x : Str} {k m : Nat} {Pr : List Nat} {b : M Fl} (F : C8.Fun K z z st g fd) (S : FnScope N [x] (C8.fnScope st)) (hm : N.length = m) (h1 : 1 ≤ m) (hr : Room (k + 1) callerA)
    (hb : ∀ (cdv : Value) (s : Shared) (G : Hp) (E : XK), Room k (callerA.deeper (envOfC z (C8.fnScope st) s.heap.objs.size g cdv)) → (callerA.deeper (envOfC z (C8.fnScope st) s.heap.objs.size g cdv)).guards = some [] → SSs (cxOf C8.CX0 P w K mg base N z (C8.fnScope st) g cdv callerA [] s G E).nox Pr (C8.fnBody st) b) :
    AtTop P w K mg base g fd x (spF K mg 1 (runF 1 m Pr b)) := by
  intro s G u v Q E e0 hb1 hv hsp
  obtain ⟨c1, c2, c3, c4, c5, c6, c7, cdv, c8, c9, rfl, look, hcode⟩ := F.ex
  have KI : K.In s.heap := e0.mod.kin.keeps (fun a o q => (e0.bs a o q).1)
  have nl : s.heap.NoLimit := e0.mod.nolimit.keeps (fun a o q => (e0.bs a o q).1)
  have loc : ∀ y ∈ [(x, u)], (C8.fnScope st).names.lookup y.1 = some .local ∨ ((C8.fnScope st).names.lookup y.1 = some .cell ∧ ((cellsFrom (s.heap.objs.size + 1) (C8.fnScope st).names []).lookup y.1).isSome = true) := by
    intro y hy
    rw [List.mem_singleton.mp hy]
    exact (S.par x (by simp)).elim .inl fun q => .inr ⟨q, PySem.W.cellsFrom_some _ _ _ (.inl q)⟩
  apply codeAny_call_function hr.depth (KI g _ look) rfl S.co S.gen rfl (PySem.W.codeRec_of KI hcode)
  refine hb1 _ _ _ _ (wpAny_newFunctionEnv_cells S.kind loc fun env he t it => ?_)
  subst he
  refine ⟨nl.keeps it.toInCall.keep, codeAny_func ?_⟩
  have sem := hb cdv s G E (hr.deeper _) rfl
  obtain ⟨t0, ht, hq⟩ := body_sem (X := (cxOf C8.CX0 P w K mg base N z (C8.fnScope st) g cdv callerA [] s G E).nox) (E := E) hm h1 sem hsp
  have J0 := inv_start (CX := C8.CX0) (E := E) S hr.hd e0 (us := [u]) (vs := [v]) rfl (.cons hv .nil) it
  refine wpAny_mono (ht.nox.run [] t (L2.start N [v]) G _ J0 hq) (fun fl t' h => ?_) fun _ _ h => h
  cases fl with
  | ret y => obtain ⟨y', σ1, G1, J, r, q⟩ := h; exact ⟨y', G1, J.os, J.bare, J.base, J.hok, r, q⟩
  | next => obtain ⟨σ1, G1, J, q⟩ := h; exact ⟨V.non, G1, J.os, J.bare, J.base, J.hok, rfl, q⟩
  | brk => obtain ⟨_, _, _, q⟩ := h; exact q.elim
  | cont => obtain ⟨_, _, _, q⟩ := h; exact q.elim

/-- the script's list, shown: locked, or one of the module's own -/
def scrH (K : PySem.W.Frag) (a : Addr) (ob : Obj) (ns : List Int) : Hp := fun c => if K.lookup a = none ∧ c = a then some (.frz ob (.lst (ns.map V.int))) else none
theorem scrH_some {a c : Addr} {ob : Obj} {ns : List Int} {u : HO} (h : scrH K a ob ns c = some u) : K.lookup a = none ∧ c = a ∧ u = .frz ob (.lst (ns.map V.int)) := by
  unfold scrH at h
  split at h
  · rename_i z; cases h; exact ⟨z.1, z.2, rfl⟩
  · cases h
theorem at_law {mb : Str → Option Value} {k : Nat} {fa a : Addr} {fd : FuncData} {x : Str} {sp : Sp} {s : Shared} {vs : List Value} {ns : List Int}
    (KI : K.In s.heap) (n1 : s.heap.Ns mainGlobals mg) (n2 : s.heap.Ns builtinsNs mb) (n3 : ∀ y : Str, y ≠ "__name__" → mb y = bootBuiltins y) (nl : s.heap.NoLimit) (ng : s.gens = #[])
    (ga : s.heap.get? a = some { cls := .type "list", data := .seq vs.toArray }) (hi : IntsAre vs ns) (hz : ns.length ≤ sizeLine)
    (F : ∀ base : Heap, K.In base → base.Ns mainGlobals mg → AtTop P w K mg base fa fd x sp) (hb : ∀ (t : Shared) (u : Value), BindsTo t fd ⟨[u], []⟩ [(x, u)])
    (hsp : ∀ G : Hp, SqL K G a (ns.map V.int) → sp [.ref a] G (fun v _ => v = .bl true) fun _ _ _ => False) :
    codeAny (model P w) callerA (.call (.ref fa) ⟨[.ref a], []⟩) (fun r t => r = .ok (.ret (.bool true)) ∧ OldK s.heap t.heap ∧ t.os = s.os ∧ AllBare t.gens) s := by
  have rv := vals_ints hi
  have hlen : (ns.map V.int).length = vs.length := by rw [List.length_map]; exact hi.length.symm
  let ob : Obj := { cls := .type "list", data := .seq vs.toArray }
  let G := scrH K a ob ns
  have okG : HOk P w G s.heap := fun c u z => by
    obtain ⟨_, rfl, rfl⟩ := scrH_some z
    exact ⟨ga, by rw [List.length_map]; exact hz, vs, _, rv, ga⟩
  have gsq : SqL K G a (ns.map V.int) := by
    cases e : K.lookup a with
    | none => exact .inl (.inr ⟨ob, if_pos ⟨e, rfl⟩⟩)
    | some o =>
      have q := KI a o e
      rw [ga] at q
      cases q
      exact .inr ⟨_, vs.toArray, _, e, rfl, rfl, rfl, by rw [List.size_toArray, ← hlen, List.length_map]; exact hz, by simpa using rv⟩
  have away : ∀ {c : Addr} {o : Obj}, s.heap.get? c = some o → (∀ ys n, o.data ≠ .seq ys n) → G c = none := fun {c o} e d => by
    cases q : G c with
    | none => rfl
    | some u =>
      obtain ⟨_, rfl, _⟩ := scrH_some q
      rw [ga] at e
      cases e
      exact absurd rfl (d _ _)
  have keepNs : ∀ {c : Addr} {m : Str → Option Value}, s.heap.Ns c m → (hidT s.heap G).Ns c m := fun {c m} ⟨o, es, ep, e, d, r⟩ =>
    ⟨o, es, ep, hidT_get e (away e fun ys n z => by rw [d] at z; cases z), d, r⟩
  have KB : K.In (hidT s.heap G) := fun c o e => by
    refine hidT_get (KI c o e) ?_
    cases q : G c with
    | none => rfl
    | some u =>
      obtain ⟨h1, rfl, _⟩ := scrH_some q
      rw [h1] at e; cases e
  obtain ⟨mc, l1, l2⟩ := nl
  have e0 : Env0 P w K mg (hidT s.heap G) callerA [] s G :=
    ⟨rfl, ⟨KB, keepNs n1, ⟨mb, keepNs n2, n3⟩, mc, keepNs l1, l2⟩, fun c o e => of_hidT e, Nat.le_of_eq (hidT_size _ _), trivial, fun c hc => absurd (show c ∈ ([] : List Addr) from hc) (by simp), okG, .of_eq ng⟩
  refine codeAny_mono (F _ KB (keepNs n1) s G (.ref a) (.ref a) _ _ e0 (hb s _) rfl (hsp G gsq)) fun r t h => ?_
  match r, h with
  | .error _, h => exact False.elim h
  | .ok .next, h => exact False.elim h
  | .ok .brk, h => exact False.elim h
  | .ok .cont, h => exact False.elim h
  | .ok (.ret u), h =>
    obtain ⟨v, G', o1, o2, un, okG', r1, rfl⟩ := h
    have r1 : u = Value.bool true := r1
    subst r1
    refine ⟨rfl, OldK.of_keep fun c o e => ?_, o1, o2⟩
    cases q : G c with
    | none => exact un.keep c o e q (by simp [frs]) (by simp)
    | some y =>
      obtain ⟨_, rfl, rfl⟩ := scrH_some q
      have q2 := (okG' c _ (un.frzs c ob _ q)).1
      rw [ga] at e
      cases e
      exact q2
theorem walk_at {l : PySem.W.OpenLaw} {n : Nat} {q : Program} {loose : List Str} {XP : (Str → Option Value) → Heap → Prop} {YP : World → Heap → Prop} {d : DefRec} {x : Str} (hn : l.most = some n) (hz : n ≤ sizeLine) (hd : d.params.defaults = [])
    (F : ∀ (w : World) (mg : Str → Option Value) (fa : Addr) (h : Heap), YP w h → h.Ns mainGlobals mg → mg d.name = some (.ref fa) → ∃ (K : PySem.W.Frag) (fd : FuncData) (sp : Sp), K.In h ∧ (∀ (t : Shared) (u : Value), BindsTo t fd ⟨[u], []⟩ [(x, u)]) ∧
      (∀ (G : Hp) (a : Addr) (ns : List Int), ns.length ≤ n → SqL K G a (ns.map V.int) → sp [.ref a] G (fun v _ => v = .bl true) fun _ _ _ => False) ∧ ∀ base : Heap, K.In base → base.Ns mainGlobals mg → AtTop l.prog w K mg base fa fd x sp) :
    PySem.W.WalkO q loose XP YP l.row.toRowW d [] (fun f vs => PySem.call f vs) := by
  refine Att.attach_call hn hd ?_
  intro w s0 s mg mb fa o pm cd doc a vs ns G Y _ _ _ hm ga hi hl hg
  obtain ⟨K, fd, sp, KI, hb, hsp, hF⟩ := F w mg fa s.heap Y G.T.g hm
  exact at_law (k := 0) KI G.T.g G.T.b G.T.builtins G.T.nolimit hg ga hi (Nat.le_trans hl hz) hF hb fun H hS => hsp H a ns hl hS
end
end FB

/-! name.clear() of an own list. -/
namespace FB
open PySem PySem.Spec L2
open PyProof.Rows hiding St
section
variable {X : Cx} {K : PySem.W.Frag} {mg : Str → Option Value}
end
end FB

/-! try: ..; except Y: .. -/
namespace FB
open PySem PySem.Spec L2
open PyProof.Rows hiding St
section
variable {X : Cx} {K : PySem.W.Frag} {mg : Str → Option Value} {P : List Nat} {W : WX}
end
end FB

/-! Defs whose last parameter may be left out (None); objects that are shared. -/
namespace FB
open PySem PySem.Spec L2
open PyProof.Rows hiding St
section
variable {P : Program} {w : World} {K : PySem.W.Frag} {mg : Str → Option Value} {base : Heap}
end
section
variable {X : Cx} {K : PySem.W.Frag} {mg : Str → Option Value}
/-! ### objects that are shared -/
variable {ρ : Env}
end
end FB

/-! A dict one of whose keys may be None: it stands beside the environment (slot j holds its address; what it holds is told by a list of pairs). -/
namespace FB
open PySem PySem.Spec L2
open PyProof.Rows hiding St
abbrev NK := List (Option Key × V)
def nkφ (Pg : Program) (w : World) (a : Addr) (q : NK) : Heap → Prop := fun h => q.length ≤ sizeLine ∧ (a == sysModules) = false ∧ ∃ vs, KV q vs ∧ h.DictOf (noneKind Pg w) a vs
def dN (Pg : Program) (w : World) (a : Addr) (q : NK) : HO := .ext (nkφ Pg w a q)
/-! ### the three things that are done with it -/
section
variable {X : Cx}
end
/-! ### expressions beside it -/
section
variable {X : Cx} {K : PySem.W.Frag} {mg : Str → Option Value} {j : Nat}
end
/-! ### statements beside it -/
abbrev NM := NK → Env → Option (Fl × NK × Env)
def PostN (K : PySem.W.Frag) (mg : Str → Option Value) (Pg : Program) (w : World) (P : List Nat) (j : Nat) (p : Addr) (T : List Item) (D : Ends) (σ : L2.St) : Option (Fl × NK × Env) → Prop
  | some (.nx, q, ρ') => ∀ σ' H', Fix (j :: P) σ σ' → Cov σ' ρ' → ρ'[j]? = some none → Rep K mg H' (pairs σ' ρ' ++ (.raw p (dN Pg w p q) :: T)) [] → D.nx σ' H'
  | some (.ret o, q, ρ') => ∀ v σ' H', Fix (j :: P) σ σ' → Cov σ' ρ' → Rep K mg H' (.ov v o :: (pairs σ' ρ' ++ (.raw p (dN Pg w p q) :: T))) [] → D.rt v H'
  | _ => False
section
variable {X : Cx} {K : PySem.W.Frag} {mg : Str → Option Value} {P : List Nat} {j : Nat} {Pg : Program} {w : World}
theorem PostN.fix {p : Addr} {T : List Item} {D : Ends} {σ σ1 : L2.St} {r : Option (Fl × NK × Env)} (f : Fix (j :: P) σ σ1) (h : PostN K mg Pg w P j p T D σ r) : PostN K mg Pg w P j p T D σ1 r := by
  unfold PostN at h ⊢
  split at h
  · exact fun σ' H' f' => h σ' H' (f.trans f')
  · exact fun v σ' H' f' => h v σ' H' (f.trans f')
  · exact h.elim
theorem PostN.more {ks T : List Item} {D : Ends} {σ : L2.St} {p : Addr} {r : Option (Fl × NK × Env)} (h : PostN K mg Pg w P j p T D σ r) : PostN K mg Pg w P j p (ks ++ T) D σ r := by
  unfold PostN at h ⊢
  split at h
  · exact fun σ' H' f c hj R => h σ' H' f c hj (R.perm ((List.Perm.append_left _ (List.perm_middle (l₁ := ks)).symm).trans (rot _ _ _))).drops
  · exact fun v σ' H' f c R => h v σ' H' f c (R.perm ((((List.Perm.append_left _ (List.perm_middle (l₁ := ks)).symm).trans (rot _ _ _)).cons _).trans List.perm_middle.symm)).drops
  · exact h.elim
/-! ### rules for simp -/
variable {ρ : Env} {q : NK}
end
end FB

/-! t[::-1] of a tuple. -/
namespace TR
open PySem PySem.Spec PyProof.Rows HT
section
variable {prog : Program} {w : World} {A : Around} {E : Value → Shared → Prop} {s : Shared}
end
end TR
namespace FB
open PySem PySem.Spec L2
open PyProof.Rows hiding St
section
variable {X : Cx} {K : PySem.W.Frag} {mg : Str → Option Value}
end
end FB

/-! A def that returns a tuple in which own things lie; its call, taken apart into names. -/
namespace FB
open PySem PySem.Spec L2
open PyProof.Rows hiding St
section
variable {X : Cx} {K : PySem.W.Frag} {mg : Str → Option Value} {P : List Nat}
/-! names, each told its thing -/
/-! rules -/
end
end FB

/-! A comprehension over an own dict whose element is a reading: the dict stays own. -/
namespace FB
open PySem PySem.Spec L2
open PyProof.Rows hiding St
section
variable {X : Cx} {K : PySem.W.Frag} {mg : Str → Option Value}
end
end FB

/-! An own flat dict shown as shared while one expression runs: it is own again behind it. -/
namespace FB
open PySem PySem.Spec L2
open PyProof.Rows hiding St
section
variable {X : Cx} {K : PySem.W.Frag} {mg : Str → Option Value}
mutual
/-- no dict within -/
def D.nd : D → Bool
  | .non => true
  | .bl _ => true
  | .int _ => true
  | .str _ => true
  | .tup ds => D.nds ds
  | .lst ds => D.nds ds
  | .scr _ => true
  | .fn _ => true
  | .dct _ _ => false
  | .ins _ _ ds => D.nds ds
def D.nds : List D → Bool
  | [] => true
  | d :: ds => d.nd && D.nds ds
end
mutual
def O.nd : O → Bool
  | .val d => d.nd
  | .lst os => O.nds os
  | .dct _ os => O.nds os
  | .ins _ _ os => O.nds os
def O.nds : List O → Bool
  | [] => true
  | o :: os => o.nd && O.nds os
end
theorem rd_ers {G : Hp} {d a : Addr} {u : HO} {od : Obj} {kvs : List (Key × V)} (hd : G d = some (.frz od (.dK kvs))) (h : Rd G a u) (h1 : u ≠ .dK kvs) (h2 : ∀ o w, u ≠ .frz o w) : Rd (ers d G) a u := by
  have e : a ≠ d := fun e => by
    subst e
    rcases h with h | ⟨o, h⟩
    · rw [hd] at h; cases h; exact h2 _ _ rfl
    · rw [hd] at h; cases h; exact h1 rfl
  rcases h with h | ⟨o, h⟩
  · exact .inl ((ers_ne e).trans h)
  · exact .inr ⟨o, (ers_ne e).trans h⟩
mutual
theorem Vw.ers {G : Hp} {d : Addr} {od : Obj} {kvs : List (Key × V)} (hd : G d = some (.frz od (.dK kvs))) : ∀ {v : V} {x : D}, Vw K mg G v x → x.nd = true → Vw K mg (ers d G) v x
  | _, _, .non, _ => .non
  | _, _, .bl b, _ => .bl b
  | _, _, .int i, _ => .int i
  | _, _, .str s h, _ => .str s h
  | _, _, .tup h hs, n => by
    refine .tup ?_ (Vws.ers hd hs n)
    rcases h with h | h
    · exact .inl (rd_ers hd h (fun z => by cases z) (fun _ _ z => by cases z))
    · exact .inr h
  | _, _, .lst h hs, n => .lst (rd_ers hd h (fun z => by cases z) (fun _ _ z => by cases z)) (Vws.ers hd hs n)
  | _, _, .fn h, _ => .fn h
  | _, _, .scr h, _ => by
    refine .scr ?_
    rcases h with h | h
    · exact .inl (rd_ers hd h (fun z => by cases z) (fun _ _ z => by cases z))
    · exact .inr h
  | _, _, .dct _ _ _, n => by cases n
  | _, _, .ins (a := a) h hm hn hs, n => by
    have e : a ≠ d := fun e => by subst e; rw [hd] at h; cases h
    exact .ins ((ers_ne e).trans h) hm hn (Vws.ers hd hs n)
theorem Vws.ers {G : Hp} {d : Addr} {od : Obj} {kvs : List (Key × V)} (hd : G d = some (.frz od (.dK kvs))) : ∀ {vs : List V} {ds : List D}, Vws K mg G vs ds → D.nds ds = true → Vws K mg (ers d G) vs ds
  | _, _, .nil, _ => .nil
  | _, _, .cons (d := x) (ds := xs) h t, n => by
    have n : (x.nd && D.nds xs) = true := n
    rw [Bool.and_eq_true] at n
    exact .cons (Vw.ers hd h n.1) (Vws.ers hd t n.2)
end
mutual
theorem VO.ers {G H : Hp} {d : Addr} {od : Obj} {kvs : List (Key × V)} (hd : G d = some (.frz od (.dK kvs))) : ∀ {v : V} {x : O} {as : List Addr}, VO K mg G H v x as → x.nd = true → VO K mg (ers d G) H v x as
  | _, _, _, .val h, n => .val (h.ers hd n)
  | _, _, _, .lst h hs, n => .lst h (VOs.ers hd hs n)
  | _, _, _, .dct h hk hs, n => .dct h hk (VOs.ers hd hs n)
  | _, _, _, .ins h hm hn hs, n => .ins h hm hn (VOs.ers hd hs n)
theorem VOs.ers {G H : Hp} {d : Addr} {od : Obj} {kvs : List (Key × V)} (hd : G d = some (.frz od (.dK kvs))) : ∀ {vs : List V} {xs : List O} {as : List Addr}, VOs K mg G H vs xs as → O.nds xs = true → VOs K mg (ers d G) H vs xs as
  | _, _, _, .nil, _ => .nil
  | _, _, _, .cons (o := x) (os := xs) h t, n => by
    have n : (x.nd && O.nds xs) = true := n
    rw [Bool.and_eq_true] at n
    exact .cons (VO.ers hd h n.1) (VOs.ers hd t n.2)
end
theorem IsOk.but {G H : Hp} {d : Addr} : ∀ {L : List Item} {as : List Addr}, IsOk K mg (ers d G) H L as → IsOk K mg G H (L.map (.but d)) as
  | _, _, .nil => .nil
  | _, _, .cons h t => .cons (.but h) (IsOk.but t)
end
end FB

/-! != between tuples that hold dicts, where both are alike. -/
namespace FB
open PySem PySem.Spec L2
open PyProof.Rows hiding St
/-! two tuples alike: != is False -/
section
open PySem.SeqAt
open AutoSeq1 (wpAny_loadPart')
open MeetsSeq MeetsSeq2 MeetsSeq3 SeqRoads2
variable {prog : Program} {w : World}
end
section
variable {X : Cx} {K : PySem.W.Frag} {mg : Str → Option Value}
end
end FB

/-! Defs handed in as arguments: a name of a def as a value, a call of a local name that holds one of two raising defs. -/
namespace FB
open PySem PySem.Spec L2
open PyProof.Rows hiding St
section
variable {X : Cx} {W : WX}
/-! name.clear() of an own dict -/
end
end FB

/-! isinstance of a caught error that has fields. -/
namespace FB
open PySem PySem.Spec L2
open PyProof.Rows hiding St
section
variable {X : Cx} {a D dd : Addr} {oe : Obj} {pn : List (Addr × Obj)}
theorem excC_cl {K : PySem.W.Frag} (C : ExcC K D) : (PySem.W.clsIn K D).isSome = true := by
  obtain ⟨cd, hc, _⟩ := PySem.W.any_some C.hd
  rw [hc]; rfl
theorem inst_d {σ : L2.St} {H : Hp} {s : Shared} {pins : List (Addr × Obj)} (I : Inv (X.suite a ((a, oe) :: pn)) pins σ H s) (hz : Zc (.ref D) (some dd) oe) (hf : ∃ vs, oe.data = .fields vs) {fs : List (Str × V)} (hd : H dd = some (.xd fs)) : ∃ od, PySem.W.InstAt s.heap a oe D (some od) := by
  obtain ⟨hget, _⟩ := I.pin (a, oe) (List.mem_append.mpr (.inl List.mem_cons_self))
  obtain ⟨vs, hv⟩ := hf
  obtain ⟨mA, ⟨o, es, ep, ho, _⟩, _⟩ := (show ObjOk _ _ H s.heap dd (.xd fs) from I.hok dd _ hd)
  refine ⟨o, ?_⟩
  obtain ⟨oc, od, oda, osl⟩ := oe
  obtain ⟨h1, h2⟩ := hz
  dsimp only at h1 h2 hv
  subst h1 h2 hv
  exact ⟨hget, rfl, rfl, ho⟩
theorem call_isEd (C : ExcC X.K D) (hz : Zc (.ref D) (some dd) oe) (hf : ∃ vs, oe.data = .fields vs) : CallR (X.suite a ((a, oe) :: pn)) (.builtin "isinstance") (fun xs H Q => (∃ fs, H dd = some (.xd fs)) ∧ rIsE X.K D a xs H Q) := by
  intro pins s σ H xs us Q I r h
  obtain ⟨⟨fs, hd⟩, c, cv, b, rfl, hcv, e, q⟩ := h
  obtain ⟨u1, u2, rfl, r1, r2⟩ := vals2 r
  cases (show u1 = Value.ref a from r1)
  have ec := hcv _ r2
  subst ec
  obtain ⟨od, J⟩ := inst_d I hz hf hd
  exact PySem.W.kia_one (PySem.W.kitx_exc (excC_cl C) C.hg C.hk C.hs C.ha C.hn C.ht C.hm) I.kIn J e (fun z => nomatch z) fun tk => ⟨.bl b, H, I.tok tk, rfl, q⟩
theorem call_isETd (C : ExcC X.K D) (hz : Zc (.ref D) (some dd) oe) (hf : ∃ vs, oe.data = .fields vs) : CallR (X.suite a ((a, oe) :: pn)) (.builtin "isinstance") (fun xs H Q => (∃ fs, H dd = some (.xd fs)) ∧ rIsET X.K D a xs H Q) := by
  intro pins s σ H xs us Q I r h
  obtain ⟨⟨fs, hd⟩, tp, cs, ws, b, rfl, hT, k, e, q⟩ := h
  obtain ⟨u1, u2, rfl, r1, r2⟩ := vals2 r
  cases (show u2 = Value.ref tp from r2)
  cases (show u1 = Value.ref a from r1)
  obtain ⟨od0, J⟩ := inst_d I hz hf hd
  obtain ⟨_, its, rv, o, h1, h2, n, h3⟩ := (show ObjOk X.prog X.w H s.heap tp (.tup cs) from I.hok tp _ hT)
  have e3 := ClsV.all k rv
  subst e3
  obtain ⟨oc, od, dt, sl⟩ := o
  simp only at h2 h3
  subst h2 h3
  exact PySem.W.kia_tup (PySem.W.kitx_exc (excC_cl C) C.hg C.hk C.hs C.ha C.hn C.ht C.hm) I.kIn J h1 e (fun z => nomatch z) fun tk => ⟨.bl b, H, I.tok tk, rfl, q⟩
end
section
variable {X : Cx} {a : Addr} {i : Nat} {I : List Item} {x : Exn} {cls : Value} {d : Option Addr} {oe : Obj} {pn : List (Addr × Obj)} {es : List Str}
def mIsD (es : List Str) (y : Str) (x : Exn) : M O := fun ρ => if x.c ∈ es then .ok (.val (.bl (subB x.c y))) ρ else .no
def mIsTD (es : List Str) (ys : List Str) (x : Exn) : M O := fun ρ => if x.c ∈ es then .ok (.val (.bl (ys.any (subB x.c)))) ρ else .no
def mIsVD (es : List Str) (x : Exn) : M O := fun ρ => if x.c ∈ es then .ok (.val (.bl true)) ρ else .no
/-- the fields' dict stands -/
theorem FrE.xd {K : PySem.W.Frag} {mg : Str → Option Value} {dd : Addr} {vs : List V} {fs : List (Str × V)} {ds : List D} {σ : L2.St} {ρ : Env} {T : List Item} {H : Hp} (f : FrE a i (.raw dd (.xd fs) :: zipI vs (ds.map O.val)) σ T) (R : Rep K mg H (pairs σ ρ ++ T) []) : H dd = some (.xd fs) := by
  obtain ⟨_, T0, p⟩ := f
  have q : (pairs σ ρ ++ T).Perm (.raw dd (.xd fs) :: ((zipI vs (ds.map O.val) ++ T0) ++ pairs σ ρ)) := by
    refine List.perm_append_comm.trans ?_
    exact p.append_right _
  exact (R.perm q).rawAt
theorem sef_isD {n y : Str} {p q r pos : Pos} (E : ExAll X.K X.mg es) (h : Held X es x I cls d oe) (hN : X.N[i]? = some n) (hv : Vis X.env.scope n) (hg : Gl X "isinstance") (hm : X.mg "isinstance" = none) (hgy : Gl X y) (hy : y ∈ es := by decide)
    (hd : (n == ("__debug__" : Str)) = false := by decide) (hcd : (n == ("__classdict__" : Str)) = false := by decide) (hdy : (y == ("__debug__" : Str)) = false := by decide)
    (he : starEach (.Name n q :: [.Name y r]) X.env = (false, eval (.Name n q) X.env) :: starEach [.Name y r] X.env := by rfl) (hpl : (backTo pos (starEach [.Name y r] X.env)).any (·.1) = false := by rfl) :
    SEF (X.suite a ((a, oe) :: pn)) a i I (.Call (.Name "isinstance" p) [.Name n q, .Name y r] [] pos) (mIsD es y x) := by
  by_cases hx1 : x.ds = []
  · have e0 : mIsD es y x = mIs es y x := by
      funext ρ
      unfold mIsD mIs
      simp [hx1]
    rw [e0]
    exact sef_is E h hN hv hg hm hgy hy hd hcd hdy he hpl
  · by_cases hx : x.c ∈ es
    · have e1 := h.eqc E hx
      have hz := h.z
      rcases h.it with ⟨z, _⟩ | ⟨dd, vs, hne, ed, hl, hl2, eI⟩
      · exact absurd z hx1
      · subst eI ed
        rw [e1] at hz
        have ha : PA (X.suite a ((a, oe) :: pn)) [.Name n q, .Name y r] (tCons (tVar i) (tCons (tC (.ref (He.ga X.K y))) tNil)) := pa_cons (pe_var hN hv hd hcd) (pa_cons (pe_glob (v := .ref (He.ga X.K y)) (u := .ref (He.ga X.K y)) hgy (E.gl y hy) rfl hdy) pa_nil) he
        refine PE.imp (pe_callB (call_isEd (E.cc x.c hx) hz h.f) hg hm (by rfl) ha (he := he) (hpl := hpl)) fun σ H Q w => ?_
        obtain ⟨ρ, T, o, ρ', c, f, R, e, k⟩ := w
        have hxd := f.xd R
        unfold mIsD at e
        rw [if_pos hx] at e
        cases e
        refine ⟨.ref a, f.1, ?_⟩
        exact ⟨⟨_, hxd⟩, .ref (He.ga X.K y), .ref (He.ga X.K y), subB x.c y, rfl, fun u r => r, E.kt x.c hx y hy, k _ H c (R.scal fun _ => .bl _)⟩
    · refine pe_false fun σ H Q w => ?_
      obtain ⟨ρ, T, o, ρ', c, f, R, e, k⟩ := w
      unfold mIsD at e
      rw [if_neg hx] at e
      cases e
theorem sef_isVD {n : Str} {p q r pos : Pos} (E : ExAll X.K X.mg es) (h : Held X es x I cls d oe) (hN : X.N[i]? = some n) (hv : Vis X.env.scope n) (hg : Gl X "isinstance") (hm : X.mg "isinstance" = none) (hgy : Gl X "ValueError") (hmy : X.mg "ValueError" = none)
    (hd : (n == ("__debug__" : Str)) = false := by decide) (hcd : (n == ("__classdict__" : Str)) = false := by decide)
    (he : starEach (.Name n q :: [.Name "ValueError" r]) X.env = (false, eval (.Name n q) X.env) :: starEach [.Name "ValueError" r] X.env := by rfl) (hpl : (backTo pos (starEach [.Name "ValueError" r] X.env)).any (·.1) = false := by rfl) :
    SEF (X.suite a ((a, oe) :: pn)) a i I (.Call (.Name "isinstance" p) [.Name n q, .Name "ValueError" r] [] pos) (mIsVD es x) := by
  by_cases hx1 : x.ds = []
  · have e0 : mIsVD es x = mIsV es x := by
      funext ρ
      unfold mIsVD mIsV
      simp [hx1]
    rw [e0]
    exact sef_isV E h hN hv hg hm hgy hmy hd hcd he hpl
  · by_cases hx : x.c ∈ es
    · have e1 := h.eqc E hx
      have hz := h.z
      rcases h.it with ⟨z, _⟩ | ⟨dd, vs, hne, ed, hl, hl2, eI⟩
      · exact absurd z hx1
      · subst eI ed
        rw [e1] at hz
        have ha : PA (X.suite a ((a, oe) :: pn)) [.Name n q, .Name "ValueError" r] (tCons (tVar i) (tCons (tC (.ty "ValueError")) tNil)) := pa_cons (pe_var hN hv hd hcd) (pa_cons (pe_bltn (v := .ty "ValueError") (u := .type "ValueError") hgy hmy PyProof.Rows.Boot.«ValueError» rfl) pa_nil) he
        refine PE.imp (pe_callB (call_isEd (E.cc x.c hx) hz h.f) hg hm (by rfl) ha (he := he) (hpl := hpl)) fun σ H Q w => ?_
        obtain ⟨ρ, T, o, ρ', c, f, R, e, k⟩ := w
        have hxd := f.xd R
        unfold mIsVD at e
        rw [if_pos hx] at e
        cases e
        refine ⟨.ref a, f.1, ?_⟩
        exact ⟨⟨_, hxd⟩, .ty "ValueError", .type "ValueError", true, rfl, fun u r => r, E.kv x.c hx, k _ H c (R.scal fun _ => .bl _)⟩
    · refine pe_false fun σ H Q w => ?_
      obtain ⟨ρ, T, o, ρ', c, f, R, e, k⟩ := w
      unfold mIsVD at e
      rw [if_neg hx] at e
      cases e
theorem sef_isTD {n : Str} {ys : List Str} {xs : List Expr} {tk : Nat} {p q tp pos : Pos} (E : ExAll X.K X.mg es) (h : Held X es x I cls d oe) (hN : X.N[i]? = some n) (hv : Vis X.env.scope n) (hg : Gl X "isinstance") (hm : X.mg "isinstance" = none) (hys : SCls (X.suite a ((a, oe) :: pn)) es xs ys) (hlen : ys.length ≤ 100 := by decide)
    (hd : (n == ("__debug__" : Str)) = false := by decide) (hcd : (n == ("__classdict__" : Str)) = false := by decide)
    (he : starEach (.Name n q :: [.Tuple xs tk tp]) X.env = (false, eval (.Name n q) X.env) :: starEach [.Tuple xs tk tp] X.env := by rfl) (he2 : starEach (.Tuple xs tk tp :: []) X.env = (false, eval (.Tuple xs tk tp) X.env) :: starEach [] X.env := by rfl) (hpl : (backTo pos (starEach [.Tuple xs tk tp] X.env)).any (·.1) = false := by rfl) :
    SEF (X.suite a ((a, oe) :: pn)) a i I (.Call (.Name "isinstance" p) [.Name n q, .Tuple xs tk tp] [] pos) (mIsTD es ys x) := by
  by_cases hx1 : x.ds = []
  · have e0 : mIsTD es ys x = mIsT es ys x := by
      funext ρ
      unfold mIsTD mIsT
      simp [hx1]
    rw [e0]
    exact sef_isT E h hN hv hg hm hys hlen hd hcd he he2 hpl
  · by_cases hx : x.c ∈ es
    · have e1 := h.eqc E hx
      have hz := h.z
      rcases h.it with ⟨z, _⟩ | ⟨dd, vs, hne, ed, hl, hl2, eI⟩
      · exact absurd z hx1
      · subst eI ed
        rw [e1] at hz
        have ha := pa_cons (X := X.suite a ((a, oe) :: pn)) (pe_var (pos := q) hN hv hd hcd) (pa_cons (pe_tup (x1 := tk) (pos := tp) hys.pa) pa_nil he2) he
        refine PE.imp (pe_callB (call_isETd (E.cc x.c hx) hz h.f) hg hm (by rfl) ha (he := he) (hpl := hpl)) fun σ H Q w => ?_
        obtain ⟨ρ, T, o, ρ', c, f, R, e, k⟩ := w
        have hxd := f.xd R
        unfold mIsTD at e
        rw [if_pos hx] at e
        cases e
        refine ⟨.ref a, f.1, line6 (by simp; omega), fun t ht => ?_⟩
        refine ⟨⟨_, (upd_ne (ne_of_none hxd ht)).trans hxd⟩, t, _, _, ys.any (subB x.c), rfl, upd_same, clsV_all ys, kitAny_of fun y hy => E.kt x.c hx y (hys.mem y hy), k _ _ c ?_⟩
        exact (R.grow (sameNew ht)).scal fun _ => .bl _
    · refine pe_false fun σ H Q w => ?_
      obtain ⟨ρ, T, o, ρ', c, f, R, e, k⟩ := w
      unfold mIsTD at e
      rw [if_neg hx] at e
      cases e
@[simp] theorem e_mIsD {ρ : Env} (es : List Str) (y : Str) (x : Exn) : mIsD es y x ρ = if x.c ∈ es then .ok (.val (.bl (subB x.c y))) ρ else .no := (rfl)
@[simp] theorem e_mIsTD {ρ : Env} (es : List Str) (ys : List Str) (x : Exn) : mIsTD es ys x ρ = if x.c ∈ es then .ok (.val (.bl (ys.any (subB x.c)))) ρ else .no := (rfl)
@[simp] theorem e_mIsVD {ρ : Env} (es : List Str) (x : Exn) : mIsVD es x ρ = if x.c ∈ es then .ok (.val (.bl true)) ρ else .no := (rfl)
end
end FB

/-! Making an object where __init__ may raise; a raising def with its last parameter left out. -/
namespace FB
open PySem PySem.Spec L2
open PyProof.Rows hiding St
section
variable {P : Program} {w : World} {K : PySem.W.Frag} {mg : Str → Option Value} {base : Heap}
end
section
variable {X : Cx} {W : WX}
variable {ρ : Env}
end
end FB

/-! sorted(..) of texts, also of a dict of texts; a method of a thing just made. -/
namespace FB
open PySem PySem.Spec L2
open PyProof.Rows hiding St
/-! texts in order -/
section
variable {X : Cx} {K : PySem.W.Frag} {mg : Str → Option Value}
theorem Rep.strs {H : Hp} {L : List Item} {B : List (V × O)} (R : Rep K mg H L B) : ∀ {ms : List Str}, (∀ m ∈ ms, PyData.strOk m = true) → Rep K mg H (zipI (ms.map V.str) ((ms.map D.str).map O.val) ++ L) B
  | [], _ => R
  | m :: ms, h => (Rep.strs R fun z hz => h z (List.mem_cons_of_mem _ hz)).scal fun _ => .str m (h m (List.mem_cons_self ..))
/-! e.m(..) of an own thing that no name holds -/
variable {ρ : Env}
end
end FB

/-! Dicts compared whose values are tuples, lists, scalars. -/
namespace FB
open PySem PySem.Spec L2
open PyProof.Rows hiding St

section
variable {X : Cx} {K : PySem.W.Frag} {mg : Str → Option Value}
end
end FB
/-! a new list of one's own: a + b -/
namespace FB
open PySem PySem.Spec L2
open PyProof.Rows hiding St
section
variable {X : Cx} {K : PySem.W.Frag} {mg : Str → Option Value}
variable {ρ : Env}
end
end FB
/-! an own thing compared with what is made behind it -/
namespace FB
open PySem PySem.Spec L2
open PyProof.Rows hiding St
section
variable {X : Cx} {K : PySem.W.Frag} {mg : Str → Option Value}
variable {ρ : Env}
end
end FB

/-! Methods that may raise. -/
namespace FB
open PySem PySem.Spec L2
open PyProof.Rows hiding St
section
variable {P : Program} {w : World} {K : PySem.W.Frag} {mg : Str → Option Value} {base : Heap}
end
section
variable {X : Cx} {W : WX}
variable {ρ : Env}
end
end FB
/-! name.f = e, e may raise -/
namespace FB
open PySem PySem.Spec L2
open PyProof.Rows hiding St
section
variable {X : Cx} {W : WX}
end
end FB

/-! Places within an own tree: name.f, name.f[k]; a method called there. -/
namespace FB
open PySem PySem.Spec L2
open PyProof.Rows hiding St
section
variable {X : Cx} {K : PySem.W.Frag} {mg : Str → Option Value}
theorem PathV.same {H H' : Hp} (s : Same H H') : ∀ {ps : List Stp} {v w : V}, PathV mg H v ps w → PathV mg H' v ps w
  | [], _, _, .nil => .nil
  | .fld _ _ :: ps, _, _, .fld m1 h1 l1 t1 => .fld m1 (s _ _ h1) l1 (t1.same s)
  | .key _ :: ps, _, _, .key h1 l1 t1 => .key (s _ _ h1) l1 (t1.same s)
/-! pure arguments -/
end
section
variable {X : Cx}
end
end FB

/-! append at a place: name.f.append(e), name.f[k].append(e); e is pure. -/
namespace FB
open PySem PySem.Spec L2
open PyProof.Rows hiding St
section
variable {X : Cx} {K : PySem.W.Frag} {mg : Str → Option Value}
end
section
variable {X : Cx}
variable {ρ : Env}
/-! as rules -/
end
end FB

/-! C(..) where __init__ has a last parameter that is None unless given. -/
namespace FB
open PySem PySem.Spec L2
open PyProof.Rows hiding St
section
variable {P : Program} {w : World} {K : PySem.W.Frag} {mg : Str → Option Value} {base : Heap}
end
section
variable {X : Cx}
end
end FB

/-! name.f[k] += e, f a dict; name.f += e: ints. -/
namespace FB
open PySem PySem.Spec L2
open PyProof.Rows hiding St
section
variable {X : Cx} {K : PySem.W.Frag} {mg : Str → Option Value}
end
end FB

/-! E.append(e), E a list just made. -/
namespace FB
open PySem PySem.Spec L2
open PyProof.Rows hiding St
section
variable {X : Cx}
variable {ρ : Env}
end
end FB

/-! A name for a list at a place, looked at and changed:
rows = name.f[k]; if TEST: rows[I] = E else: rows.append(E') -- where TEST, E, E' may read name.now, an int. -/
namespace FB
open PySem PySem.Spec L2
open PyProof.Rows hiding St
section
variable {X : Cx} {K : PySem.W.Frag} {mg : Str → Option Value}
variable {i : Nat} {F : Str}
end
end FB

/-! A tuple times 0, 1 or more. -/
namespace FB
open PySem PySem.Spec L2
open PyProof.Rows hiding St
section
variable {X : Cx}
end
section
variable {X : Cx} {K : PySem.W.Frag} {mg : Str → Option Value}
end
end FB

/-! Tests and ifs in a suite behind except. -/
namespace FB
open PySem PySem.Spec L2
open PyProof.Rows hiding St
section
variable {X : Cx} {P : List Nat} {a : Addr} {i : Nat} {I : List Item}
end
end FB

/-! == between tuples, and between lists, that hold dicts, where both are alike. -/
namespace FB
open PySem PySem.Spec L2
open PyProof.Rows hiding St
section
variable {X : Cx} {K : PySem.W.Frag} {mg : Str → Option Value}
end
end FB

/-! Displays of dicts with several text keys. -/
namespace FB
open PySem PySem.Spec L2
open PyProof.Rows hiding St
section
variable {X : Cx} {K : PySem.W.Frag} {mg : Str → Option Value}
end
end FB

/-! Places under text keys of an own dict: name["k"][e] = v, name["k"].append(e); an own name moved late into a display. -/
namespace FB
open PySem PySem.Spec L2
open PyProof.Rows hiding St
section
variable {X : Cx}
end
end FB

/-! What stands at a text key of an own dict, shown and shared from then on. -/
namespace FB
open PySem PySem.Spec L2
open PyProof.Rows hiding St
section
variable {X : Cx}
end
end FB

/-! Rules for simp: displays of dicts, places under text keys. -/
namespace FB
open PySem PySem.Spec L2
open PyProof.Rows hiding St
variable {ρ : Env}
end FB

/-! name.extend(e), e a tuple, name an own list. -/
namespace FB
open PySem PySem.Spec L2
open PyProof.Rows hiding St
section
variable {X : Cx}
end
section
variable {ρ : Env}
end
end FB

/-! for k in name.f: own[k] = name.f[k].m(): a dict of own things is walked (locked meanwhile), and what each tells is stored. -/
namespace FB
open PySem PySem.Spec L2
open PyProof.Rows hiding St
section
variable {X : Cx}
end
end FB

/-! repr of a truth. -/
namespace FB
open PySem PySem.Spec L2
open PyProof.Rows hiding St
section
variable {X : Cx} {K : PySem.W.Frag} {mg : Str → Option Value}
end
end FB

/-! str(n), n a whole number. -/
namespace FB
open PySem PySem.Spec L2
open PyProof.Rows hiding St
section
variable {K : PySem.W.Frag} {mg : Str → Option Value}
end
end FB

/-! f-strings of texts and whole numbers. -/
namespace FB
open PySem PySem.Spec L2
open PyProof.Rows hiding St
section
variable {X : Cx} {K : PySem.W.Frag} {mg : Str → Option Value}
end
section
variable {ρ : Env}
end
end FB

/-! A dict display of two texts that are reckoned. -/
namespace FB
open PySem PySem.Spec L2
open PyProof.Rows hiding St
section
variable {X : Cx} {K : PySem.W.Frag} {mg : Str → Option Value}
end
section
variable {ρ : Env}
end
end FB

/-! A name for a list at a place under a text key and a key, looked at and changed:
rows = name["k"][e]; if TEST: rows[I] = E else: rows.append(E') -- all readings. -/
namespace FB
open PySem PySem.Spec L2
open PyProof.Rows hiding St
section
variable {X : Cx} {K : PySem.W.Frag} {mg : Str → Option Value}
end
end FB

/-! Defs that are called where no text is being made (repr in a called def); text.split(sep). -/
namespace FB
open PySem PySem.Spec L2
open PyProof.Rows hiding St
section
variable {P : Program} {w : World} {K : PySem.W.Frag} {mg : Str → Option Value} {base : Heap}
theorem fnG_of {x qual : Str} {st : Stmt} {f : Addr} {fd : FuncData} {N ps : List Str} {k : Nat} {sp : Sp} (F : C8.Fun K x qual st f fd) (S : FnScope N ps (C8.fnScope st)) (len : ∀ vs H Q E, sp vs H Q E → vs.length = ps.length)
    (hbody : ∀ (cdv : Value) (A : Around) (outer : List PySem.Env) (s : Shared) (H : Hp) (vs : List V) (Q : VK) (E : XK), Room k (A.deeper (envOfC qual (C8.fnScope st) s.heap.objs.size f cdv)) → (A.deeper (envOfC qual (C8.fnScope st) s.heap.objs.size f cdv)).guards = some [] → sp vs H Q E →
      ∃ t, PSs (cxOf C8.CX0 P w K mg base N qual (C8.fnScope st) f cdv A outer s H E).nox (C8.fnBody st) t ∧ t { nx := fun _ H' => Q .non H', rt := Q } (L2.start N vs) H) : FnG P w K mg base (k + 1) f fd ps sp := by
  obtain ⟨oc, od, dV, kV, doc, pm, an, cdv, ct, osl, rfl, lk, hcd⟩ := F.ex
  refine ⟨len, fun A outer s H args us vs Q E hr hg e0 hb r hsp => ?_⟩
  have hl := len _ _ _ _ hsp
  have KX : K.In s.heap := e0.mod.kin.keeps fun b o e => (e0.bs b o e).1
  have lim : s.heap.NoLimit := e0.mod.nolimit.keeps fun b o e => (e0.bs b o e).1
  have hkind : ∀ y ∈ ps.zip us, (C8.fnScope st).names.lookup y.1 = some .local ∨ ((C8.fnScope st).names.lookup y.1 = some .cell ∧ ((cellsFrom (s.heap.objs.size + 1) (C8.fnScope st).names []).lookup y.1).isSome = true) := fun ⟨n, v⟩ hy => by
    rcases S.par n (List.of_mem_zip hy).1 with q | q
    · exact .inl q
    · exact .inr ⟨q, PySem.W.cellsFrom_some _ _ _ (.inl q)⟩
  refine codeAny_call_function hr.depth (KX _ _ lk) rfl S.co S.gen rfl (PySem.W.codeRec_of KX hcd) (hb _ _ _ _ ?_)
  refine wpAny_newFunctionEnv_cells S.kind hkind fun env he s1 x => ?_
  subst he
  refine ⟨lim.keeps x.toInCall.keep, codeAny_func ?_⟩
  obtain ⟨t, ht, hq⟩ := hbody cdv A outer s H vs Q E (hr.deeper _) hg hsp
  have I : Inv (cxOf C8.CX0 P w K mg base N qual (C8.fnScope st) f cdv A outer s H E) [] (L2.start N vs) H s1 := inv_start S hr.hd e0 hl r x
  refine wpAny_mono (ht.nox.run [] s1 (L2.start N vs) H _ I hq) (fun fl s' hs => ?_) fun e s' hs => hs
  have fin : ∀ {σ' : L2.St} {H' : Hp} {v : V} {u : Value}, Inv (cxOf C8.CX0 P w K mg base N qual (C8.fnScope st) f cdv A outer s H E) [] σ' H' s' → RelV v u → Q v H' → CE outer P w H s Q u s' :=
    fun {σ' H' v u} J rv q => ⟨v, H', J.os, J.bare, J.base, J.hok, rv, q⟩
  cases fl with
  | ret u =>
    obtain ⟨v, σ', H', J, rv, q⟩ := hs
    exact fin J rv q
  | next =>
    obtain ⟨σ', H', J, q⟩ := hs
    exact fin (v := V.non) (u := Value.none) J rfl q
  | brk =>
    obtain ⟨_, _, _, q⟩ := hs
    exact False.elim q
  | cont =>
    obtain ⟨_, _, _, q⟩ := hs
    exact False.elim q
theorem cal_semG {x : Str} {st : Stmt} {f : Addr} {fd : FuncData} {N ps : List Str} {k n m : Nat} {Pr : List Nat} {b : M Fl} (F : C8.Def K mg x st f fd) (bi : Binds K fd ps []) (S : FnScope N ps (C8.fnScope st)) (hn : ps.length = n := by rfl) (hm : N.length = m := by rfl) (hnm : n ≤ m := by decide)
    (hb : ∀ (cdv : Value) (A : Around) (outer : List PySem.Env) (s : Shared) (H : Hp) (E : XK), Room k (A.deeper (envOfC x (C8.fnScope st) s.heap.objs.size f cdv)) → (A.deeper (envOfC x (C8.fnScope st) s.heap.objs.size f cdv)).guards = some [] → SSs (cxOf C8.CX0 P w K mg base N x (C8.fnScope st) f cdv A outer s H E).nox Pr (C8.fnBody st) b) :
    CalG P w K mg base (k + 1) x (spF K mg n (runF n m Pr b)) :=
  ⟨f, fd, ps, fnG_of F.fn S (fun vs H Q E h => by rw [hn]; exact sp_len vs H Q E h) fun cdv A outer s H vs Q E hr hg h => body_sem (X := (cxOf C8.CX0 P w K mg base N x (C8.fnScope st) f cdv A outer s H E).nox) (E := E) hm hnm (hb cdv A outer s H E hr hg) h, F.mgf, F.kp, bi⟩
end
section
variable {X : Cx} {K : PySem.W.Frag} {mg : Str → Option Value}
theorem pe_cG {k j : Nat} {x : Str} {sp : Sp} {p pos : Pos} {e : Expr} {es : List Expr} {t : TA} (c : CalG X.prog X.w X.K X.mg X.base k x sp) (hgd : X.A.guards = some []) (hr : Room j X.A) (hk : k ≤ j) (hg : Gl X x) (ha : PA X (e :: es) t)
    (hdb : (x == ("__debug__" : Str)) = false := by decide) (he : starEach (e :: es) X.env = (false, eval e X.env) :: starEach es X.env := by rfl) (hpl : (backTo pos (starEach es X.env)).any (·.1) = false := by rfl) :
    PE X (.Call (.Name x p) (e :: es) [] pos) (tCall sp [] C8.E0 t) := by
  obtain ⟨f, fd, ps, F, hm, kp, b⟩ := c.ex
  refine ⟨fun pins s σ H Q I h => ?_⟩
  refine wpAny_Call_Name_kw (ld_glob I hg hm ?_ hdb)
  refine PySem.W.callWith_K (h₀ := X.base) I.ok.mod.kin kp (thn (ha.run pos pins s σ H _ I h) fun us s1 ⟨vs, H1, I1, r, q⟩ => ⟨I1.kIn, ?_⟩) he hpl
  have r2 : Vals (vs ++ []) (us ++ []) := r.append .nil
  have hl : (us ++ []).length = ps.length := by rw [← r2.length]; exact F.len _ _ _ _ q
  refine wpAny_call (codeAny_mono (F.run X.A X.stack s1 H1 ⟨us, []⟩ (us ++ []) (vs ++ []) Q C8.E0 (hr.mono hk) hgd I1.env0 (b s1 us I1.kIn hl) r2 q) fun r' s' hq => ?_)
  cases r' with
  | error e => exact (C8.pass0 (X := X) : Passes C8.CX0 X C8.E0) pins σ H1 s1 e s' I1 hq
  | ok fl =>
    cases fl with
    | ret u => exact I1.after hq
    | next => exact False.elim hq
    | brk => exact False.elim hq
    | cont => exact False.elim hq
theorem se_callG {n k j : Nat} {F : FSem} {x : Str} {p pos : Pos} {e : Expr} {es : List Expr} {as : List Arg} (hgd : X.A.guards = some []) (cl : CalG X.prog X.w X.K X.mg X.base k x (spF X.K X.mg n F)) (hr : Room j X.A) (hk : k ≤ j) (hg : Gl X x) (ha : SAs X (e :: es) as) (hn : as.length = n := by rfl)
    (hdb : (x == ("__debug__" : Str)) = false := by decide) (he : starEach (e :: es) X.env = (false, eval e X.env) :: starEach es X.env := by rfl) (hpl : (backTo pos (starEach es X.env)).any (·.1) = false := by rfl) :
    SE X (.Call (.Name x p) (e :: es) [] pos) (mCall F as) := PE.imp (pe_cG cl hgd hr hk hg ha hdb he hpl) fun σ H Q w => (call_core σ H Q w).resolve_right fun h => h hn
end
end FB

/-! int(text). -/
namespace FB
open PySem PySem.Spec L2
open PyProof.Rows hiding St
section
variable {K : PySem.W.Frag} {mg : Str → Option Value}
end
end FB

/-! min(a list of whole numbers, default=None). -/
namespace PySem
section
variable {prog : Program} {w : World} {A : Around} {R : Result → Shared → Prop} {I : Addr} {fp wr : List Addr} {n : Nat} {P : Nat → Value → Prop} {St : Nat → Heap → Prop}
end
section
variable {prog : Program} {w : World} {A : Around} {E : Value → Shared → Prop} {s : Shared} {l : Addr} {xs : Array (Int × Tok)}
end
end PySem
namespace FB
open PySem PySem.Spec L2
open PyProof.Rows hiding St
section
variable {X : Cx} {K : PySem.W.Frag} {mg : Str → Option Value}
end
end FB

/-! name[k].append(e): a list that stands in an own list. -/
namespace FB
open PySem PySem.Spec L2
open PyProof.Rows hiding St
section
variable {X : Cx} {K : PySem.W.Frag} {mg : Str → Option Value}
end
section
variable {ρ : Env}
end
end FB

/-! [.. for t in name[k]]: a list that stands in an own list, lent to a comprehension. -/
namespace FB
open PySem PySem.Spec L2
open PyProof.Rows hiding St
section
variable {X : Cx} {K : PySem.W.Frag} {mg : Str → Option Value}
end
end FB

/-! sorted(a list of tuples that are alike). -/
namespace FB
open PySem PySem.Spec L2
open PyProof.Rows hiding St
section
variable {X : Cx} {K : PySem.W.Frag} {mg : Str → Option Value}
end
end FB

/-! max(a list of whole numbers, default=a number). -/
namespace PySem
section
variable {prog : Program} {w : World} {A : Around} {R : Result → Shared → Prop} {I : Addr} {fp wr : List Addr} {n : Nat} {P : Nat → Value → Prop} {St : Nat → Heap → Prop}
end
section
variable {prog : Program} {w : World} {A : Around} {E : Value → Shared → Prop} {s : Shared} {l : Addr} {xs : Array (Int × Tok)}
end
end PySem
namespace FB
open PySem PySem.Spec L2
open PyProof.Rows hiding St
section
variable {X : Cx} {K : PySem.W.Frag} {mg : Str → Option Value}
end
end FB

/-! a list of texts .index(text). -/
namespace FB
open PySem PySem.Spec L2
open PyProof.Rows hiding St
section
variable {X : Cx} {K : PySem.W.Frag} {mg : Str → Option Value}
end
end FB

/-! name[k].clear() of an own list in an own list; C(e, name[k]): an own list in an own list handed to an `__init__` that gives it back. -/
namespace FB
open PySem PySem.Spec L2
open PyProof.Rows hiding St
section
variable {X : Cx} {K : PySem.W.Frag} {mg : Str → Option Value}
end
section
variable {ρ : Env}
end
end FB

/-! name[e].append(v), name["k"][e].append(v) of own dicts of own lists; name.update(d), d just made, keys apart. -/
namespace FB
open PySem PySem.Spec L2
open PyProof.Rows hiding St
section
variable {X : Cx} {K : PySem.W.Frag} {mg : Str → Option Value}
/-! d.update(e), keys apart -/
theorem KV.app {kvs more : List (Key × V)} {vs rs : List (Key × Value)} (r : KV kvs vs) (q : KV more rs) : KV (kvs ++ more) (vs ++ rs) := by
  induction r with
  | nil => exact q
  | cons h _ ih => exact .cons h ih
end
section
variable {ρ : Env}
end
end FB

/-! a comparison of what is made with what is only read (an own thing stays own). -/
namespace FB
open PySem PySem.Spec L2
open PyProof.Rows hiding St
section
variable {X : Cx} {K : PySem.W.Frag} {mg : Str → Option Value}
end
section
variable {ρ : Env}
end
end FB

/-! dict([(k, own) for ..]): a dict made of pairs in which own things lie. -/
namespace FB
open PySem PySem.Spec L2
open PyProof.Rows hiding St
section
variable {X : Cx} {K : PySem.W.Frag} {mg : Str → Option Value}
abbrev Blk := Addr × List V × List O
def blk (zs : List Blk) : List Item := zs.flatMap fun z => .raw z.1 (.tup z.2.1) :: zipI z.2.1 z.2.2
end
section
variable {ρ : Env}
end
end FB

/-! repr of a thing of tuples and dicts (no lists). -/
namespace FB
open PySem PySem.Spec L2
open PyProof.Rows hiding St
def keyPd : Key → PyData
  | .inl i => .int i
  | .inr s => .str s
mutual
def D.pq : D → PyData
  | .non => .none
  | .bl b => .bool b
  | .int i => .int i
  | .str s => .str s
  | .tup ds => .tuple (D.pqs ds)
  | .lst ds => .list (D.pqs ds)
  | .dct ks ds => .dict ((ks.map keyPd).zip (D.pqs ds))
  | .ins _ _ _ => .none
  | .scr _ => .none
  | .fn _ => .none
def D.pqs : List D → List PyData
  | [] => []
  | d :: ds => d.pq :: D.pqs ds
end
section
variable {X : Cx} {K : PySem.W.Frag} {mg : Str → Option Value}
theorem okc_key {k : Key} (h : keyOk k = true) : Okc (keyPd k).shown := by
  cases k with
  | inl i => exact Okc.lit (toString i)
  | inr s =>
    show Okc (PyData.str s).shown
    rw [PyData.shown_str]
    exact ((okc_iff s).mp h).repr
theorem okc_kv : ∀ {kvs : List (PyData × PyData)}, (∀ q ∈ kvs, Okc q.1.shown ∧ Okc q.2.shown) → ∀ t ∈ PyData.shownKv kvs, Okc t
  | [], _, t, ht => by simp [PyData.shownKv] at ht
  | (k, v) :: r, h, t, ht => by
    have e : PyData.shownKv ((k, v) :: r) = (k.shown ++ ": " ++ v.shown) :: PyData.shownKv r := by simp only [PyData.shownKv]
    rw [e] at ht
    rcases List.mem_cons.mp ht with rfl | ht
    · have := h (k, v) (List.mem_cons_self ..)
      exact (this.1.app (Okc.lit _)).app this.2
    · exact okc_kv (fun q hq => h q (List.mem_cons_of_mem _ hq)) t ht
theorem okc_dict {kvs : List (PyData × PyData)} (h : ∀ q ∈ kvs, Okc q.1.shown ∧ Okc q.2.shown) : Okc (PyData.dict kvs).shown := by
  have e : (PyData.dict kvs).shown = dictText (PyData.shownKv kvs) := by simp only [PyData.shown]
  rw [e]
  unfold dictText
  exact ((Okc.lit _).app ((Okc.lit _).join (okc_kv h))).app (Okc.lit _)
theorem okc_tup {ds : List PyData} (h : ∀ t ∈ PyData.shownAll ds, Okc t) : Okc (PyData.tuple ds).shown := by
  rw [PyData.shown_tuple]
  exact ((Okc.lit _).app ((Okc.lit _).join h)).app (Okc.lit _)
theorem shownAll_map : ∀ ds : List PyData, PyData.shownAll ds = ds.map PyData.shown
  | [] => by simp [PyData.shownAll]
  | d :: ds => by rw [PyData.shownAll_cons, shownAll_map ds]; rfl
end
end FB

/-! repr of any thing of tuples, lists and {}; `f(x) is True` where f may raise. -/
namespace FB
open PySem PySem.Spec L2
open PyProof.Rows hiding St
section
variable {X : Cx} {W : WX}
def isB1 (b : Bool) (o : O) : Option O := match o with
  | .val (.bl k) => some (.val (.bl (decide (k = b))))
  | _ => none
theorem seX_isB {a : Expr} {b : Bool} {j p pos} {m : M O} (h : SEX X W a m) : SEX X W (.Compare a [.Is] [.Constant (.bool b) j p] pos) (m1 (isB1 b) m) := PE.imp (pe_cmpR op_is_bl h pe_bl rfl) fun σ H Q w => tMX_then w fun o ρ1 T q v H' c' R' => by
  cases ho : o with
  | val d =>
    cases d with
    | bl k =>
      subst ho
      have q : PostM X.K X.mg T W σ Q (.ok (.val (.bl (decide (k = b)))) ρ1) := q
      have hv := R'.lend.shBl (List.mem_cons_self ..) rfl
      exact ⟨k, b, hv, rfl, q _ H' c' (R'.drop.scal fun _ => .bl _)⟩
    | _ => subst ho; exact q.elim
  | _ => subst ho; exact q.elim
end
/-- tuples, lists and {}, at most so deep; leaves that repr tells -/
def D.okA : Nat → D → Bool
  | _, .non => true
  | _, .bl _ => true
  | _, .int i => decide (i.natAbs.log2 < 1920)
  | _, .str x => decide ((reprText x).length ≤ sizeLine)
  | _, .dct ks ds => ks.isEmpty && ds.isEmpty
  | 0, .tup _ => false
  | 0, .lst _ => false
  | n + 1, .tup ds => ds.all (D.okA n)
  | n + 1, .lst ds => ds.all (D.okA n)
  | _, .ins _ _ _ => false
  | _, .scr _ => false
  | _, .fn _ => false
def RA (P : Program) (w : World) (h : Heap) (u : Value) (p : PyData) (n : Nat) : Prop :=
  ∃ as bs, Reads h u p as ∧ p.depth ≤ n + 1 ∧ Okc p.shown ∧ ReadAtMost h p.depth bs ∧ ReprK P w bs h p.depth u p.shown
def RAs (P : Program) (w : World) (h : Heap) (us : List Value) (ps : List PyData) (n : Nat) : Prop :=
  ∃ as bs, ReadsAll h us ps as ∧ PyData.depthAll ps ≤ n + 1 ∧ (∀ p ∈ ps, Okc p.shown) ∧ ReadAtMost h (PyData.depthAll ps) bs ∧ ReprAllK P w bs h (PyData.depthAll ps) us (PyData.shownAll ps)
theorem RAs.nil {P : Program} {w : World} {h : Heap} {n : Nat} : RAs P w h [] [] n :=
  ⟨[], [], .nil, Nat.zero_le _, by simp, (fun _ z => nomatch z), .nil⟩
theorem RAs.cons {P : Program} {w : World} {h : Heap} {n : Nat} {u : Value} {us : List Value} {p : PyData} {ps : List PyData} (a : RA P w h u p n) (b : RAs P w h us ps n) : RAs P w h (u :: us) (p :: ps) n := by
  obtain ⟨as1, bs1, r1, d1, o1, m1, k1⟩ := a
  obtain ⟨as2, bs2, r2, d2, o2, m2, k2⟩ := b
  have dd : PyData.depthAll (p :: ps) = max p.depth (PyData.depthAll ps) := by simp only [PyData.depthAll]
  have le1 : p.depth ≤ PyData.depthAll (p :: ps) := by omega
  have le2 : PyData.depthAll ps ≤ PyData.depthAll (p :: ps) := by omega
  refine ⟨as1 ++ as2, bs1 ++ bs2, .cons r1 r2, by omega, ?_, (m1.mono le1).append (m2.mono le2), ?_⟩
  · intro q hq
    rcases List.mem_cons.mp hq with rfl | hq
    · exact o1
    · exact o2 q hq
  · rw [PyData.shownAll_cons]
    exact .cons ((k1.more fun z hz => List.mem_append_left _ hz).level_le le1) (ReprAllK.more_le (fun z hz => List.mem_append_right _ hz) le2 k2)
section
variable {X : Cx} {K : PySem.W.Frag} {mg : Str → Option Value}
theorem shown_okA {ps : List PyData} (h : ∀ p ∈ ps, Okc p.shown) : ∀ t ∈ PyData.shownAll ps, Okc t := fun t ht => by
  rw [shownAll_map] at ht
  obtain ⟨q, hq, rfl⟩ := List.mem_map.mp ht
  exact h q hq
theorem tupA {pins : List (Addr × Obj)} {σ : L2.St} {H : Hp} {s : Shared} {n : Nat} (I : Inv X pins σ H s) {a : Addr} {xs : List V} {ps : List PyData} (hs : SqT X.K H a xs)
    (all : ∀ us, Vals xs us → RAs X.prog X.w s.heap us ps n) : ∃ as bs o its m, o.cls = .type "tuple" ∧ TupA X.prog X.w s.heap a ps n as bs o its m := by
  obtain ⟨its, rv, ⟨o, ho, hc, m, hd⟩, _⟩ := I.tuple hs
  obtain ⟨as, bs, r, d, oc, am, k⟩ := all its rv
  refine ⟨as, bs, o, _, m, hc, ho, hd, r, d, oc, ?_, am, k⟩
  exact not_mem_of_deeper (.tuple ho hc hd r) (by simp only [PyData.depth]; omega) am
theorem lstA {pins : List (Addr × Obj)} {σ : L2.St} {H : Hp} {s : Shared} {n : Nat} (I : Inv X pins σ H s) {a : Addr} {xs : List V} {ps : List PyData} (hs : Rd H a (.lst xs))
    (all : ∀ us, Vals xs us → RAs X.prog X.w s.heap us ps n) : ∃ as bs o its m, o.cls = .type "list" ∧ TupA X.prog X.w s.heap a ps n as bs o its m := by
  obtain ⟨_, its, m, rv, _, ho⟩ := Inv.rdL I hs
  obtain ⟨as, bs, r, d, oc, am, k⟩ := all its rv
  refine ⟨as, bs, _, its.toArray, m, rfl, ho, rfl, r, d, oc, ?_, am, k⟩
  exact not_mem_of_deeper (.list ho rfl rfl r) (by simp only [PyData.depth]; omega) am
theorem dctA {pins : List (Addr × Obj)} {σ : L2.St} {H : Hp} {s : Shared} (I : Inv X pins σ H s) {a : Addr} {kvs : List (Key × V)} (hr : Rd H a (.dK kvs)) (he : kvs = []) : ∃ o m, s.heap.get? a = some o ∧ o.cls = .type "dict" ∧ o.data = .dict #[] m ∧ (a == sysModules) = false := by
  obtain ⟨_, hm, vs, rel, o, es, ep, ho, hx, hd, _, hp, _⟩ := dk_rd I.hok hr
  subst he
  cases rel
  obtain ⟨es⟩ := es
  have hp : Pairs (mixKind X.prog X.w) es [] := hp
  cases hp
  exact ⟨o, ep, ho, hx.1, hd, hm⟩
theorem dict0_shown : (PyData.dict []).shown = dictText [] := by simp only [PyData.shown, PyData.shownKv]
theorem readsA {pins : List (Addr × Obj)} {σ : L2.St} {H : Hp} {s : Shared} (I : Inv X pins σ H s) : ∀ (n : Nat) {v : V} {d : D} {u : Value}, Vw X.K X.mg H v d → D.okA n d = true → RelV v u → RA X.prog X.w s.heap u d.pq n := by
  have non : ∀ n, RA X.prog X.w s.heap .none D.non.pq n := fun n => ⟨[], [], .none, Nat.zero_le _, Okc.lit "None", (fun _ h => nomatch h), by simp only [D.pq, PyData.shown]; exact .of_is ReprIs.none _ _ _⟩
  have bl : ∀ n b, RA X.prog X.w s.heap (.bool b) (D.bl b).pq n := fun n b => ⟨[], [], .bool b, Nat.zero_le _, by cases b <;> exact Okc.lit _, (fun _ h => nomatch h), by simp only [D.pq, PyData.shown]; exact .of_is (ReprIs.bool b) _ _ _⟩
  have int : ∀ n i t, i.natAbs.log2 < 1920 → RA X.prog X.w s.heap (.int i t) (D.int i).pq n := fun n i t hi => ⟨[], [], .int i t, Nat.zero_le _, Okc.lit (toString i), (fun _ h => nomatch h), by simp only [D.pq, PyData.shown]; exact .of_is (ReprIs.int t hi) _ _ _⟩
  have str : ∀ n x t, PyData.strOk x = true → (reprText x).length ≤ sizeLine → RA X.prog X.w s.heap (.str x t) (D.str x).pq n := fun n x t hx hz => ⟨[], [], .str x t, Nat.zero_le _, okc_key (k := .inr x) hx, (fun _ h => nomatch h), by simp only [D.pq, PyData.shown]; exact .of_is (ReprIs.str x t hz) _ _ _⟩
  have dct : ∀ n a (kvs : List (Key × V)), Rd H a (.dK kvs) → kvs = [] → RA X.prog X.w s.heap (.ref a) (PyData.dict []) n := fun n a kvs hr he => by
    obtain ⟨o, m, ho, hc, hd, hm⟩ := dctA I hr he
    have r : Reads s.heap (.ref a) (.dict []) (a :: [] ++ []) := .dict ho hc hd .nil .nil
    refine ⟨_, [a], r, by simp only [PyData.depth, PyData.depthKv]; omega, ?_, ?_, ?_⟩
    · exact okc_dict fun q hq => by simp at hq
    · exact fun b hb => by
        rcases List.mem_singleton.mp hb with rfl
        exact ⟨_, _, r, Nat.le_refl _⟩
    · rw [dict0_shown]
      have e : PyData.depth (.dict []) = 0 + 1 := by simp only [PyData.depth, PyData.depthKv]
      rw [e]
      exact ReprK.dict ho hc hd hm (by simp) .nil
  intro n
  induction n with
  | zero =>
    intro v d u h e r
    cases h with
    | non => cases r; exact non _
    | bl b => cases r; exact bl _ b
    | int i => obtain ⟨t, rfl⟩ := r; exact int _ i t (by simpa [D.okA] using e)
    | str x hx => obtain ⟨t, rfl⟩ := r; exact str _ x t hx (by simpa [D.okA] using e)
    | @dct a kvs ks ds hr hk ha =>
      cases r
      have e : (ks.isEmpty && ds.isEmpty) = true := e
      rw [Bool.and_eq_true, List.isEmpty_iff, List.isEmpty_iff] at e
      obtain ⟨rfl, rfl⟩ := e
      exact dct _ a kvs hr (List.map_eq_nil_iff.mp hk.1)
    | _ => cases e
  | succ n ih =>
    have all : ∀ {vs : List V} {ds : List D}, Vws X.K X.mg H vs ds → (∀ d ∈ ds, D.okA n d = true) → ∀ us, Vals vs us → RAs X.prog X.w s.heap us (D.pqs ds) n := by
      intro vs
      induction vs with
      | nil =>
        intro ds h _ us r
        cases h
        cases r
        exact RAs.nil
      | cons v vs ihv =>
        intro ds h e us r
        cases h with
        | cons h1 h2 =>
          cases r with
          | cons r1 r2 => exact RAs.cons (ih h1 (e _ (List.mem_cons_self ..)) r1) (ihv h2 (fun z hz => e z (List.mem_cons_of_mem _ hz)) _ r2)
    intro v d u h e r
    cases h with
    | non => cases r; exact non _
    | bl b => cases r; exact bl _ b
    | int i => obtain ⟨t, rfl⟩ := r; exact int _ i t (by simpa [D.okA] using e)
    | str x hx => obtain ⟨t, rfl⟩ := r; exact str _ x t hx (by simpa [D.okA] using e)
    | @dct a kvs ks ds hr hk ha =>
      cases r
      have e : (ks.isEmpty && ds.isEmpty) = true := e
      rw [Bool.and_eq_true, List.isEmpty_iff, List.isEmpty_iff] at e
      obtain ⟨rfl, rfl⟩ := e
      exact dct _ a kvs hr (List.map_eq_nil_iff.mp hk.1)
    | @tup a xs ds hs ha =>
      cases r
      have e : ds.all (D.okA n) = true := e
      obtain ⟨as, bs, o, its, m, hc, T⟩ := tupA I hs (all ha fun z hz => (List.all_eq_true.mp e) z hz)
      have rr : Reads s.heap (.ref a) (.tuple (D.pqs ds)) as := .tuple T.ho hc T.hd T.rd
      have dd : PyData.depth (.tuple (D.pqs ds)) = PyData.depthAll (D.pqs ds) + 1 := by simp only [PyData.depth]
      have sh : PyData.shown (.tuple (D.pqs ds)) = tupleText (PyData.shownAll (D.pqs ds)) := by simp only [PyData.shown]
      have key : RA X.prog X.w s.heap (.ref a) (.tuple (D.pqs ds)) (n + 1) := by
        refine ⟨as, a :: bs, rr, ?_, okc_tup (shown_okA T.okc), ReadAtMost.cons rr (by omega) T.am, ?_⟩
        · have := T.dp; omega
        · rw [dd, sh]
          exact ReprK.tuple T.ho hc T.hd T.na T.k
      exact key
    | @lst a xs ds hs ha =>
      cases r
      have e : ds.all (D.okA n) = true := e
      obtain ⟨as, bs, o, ⟨its⟩, m, hc, T⟩ := lstA I hs (all ha fun z hz => (List.all_eq_true.mp e) z hz)
      have rr : Reads s.heap (.ref a) (.list (D.pqs ds)) (a :: as) := .list T.ho hc T.hd T.rd
      have dd : PyData.depth (.list (D.pqs ds)) = PyData.depthAll (D.pqs ds) + 1 := by simp only [PyData.depth]
      have sh : PyData.shown (.list (D.pqs ds)) = listText (PyData.shownAll (D.pqs ds)) := by simp only [PyData.shown]
      have key : RA X.prog X.w s.heap (.ref a) (.list (D.pqs ds)) (n + 1) := by
        refine ⟨a :: as, a :: bs, rr, ?_, ?_, ReadAtMost.cons rr (by omega) T.am, ?_⟩
        · have := T.dp; omega
        · rw [PyData.shown_list]
          exact ((Okc.lit _).app ((Okc.lit _).join (shown_okA T.okc))).app (Okc.lit _)
        · rw [dd, sh]
          have k := T.k
          have hd := T.hd
          cases its with
          | nil =>
            have l := k.length_eq
            have e0 : PyData.shownAll (D.pqs ds) = [] := List.length_eq_zero_iff.mp (by simpa using l)
            rw [e0, listText_nil]
            exact ReprK.listEmpty T.ho hc hd
          | cons x l => exact ReprK.list T.ho hc hd T.na (by simpa using k.length_eq) (fun i y e => ReprAllK.item k i y (by simpa using e))
      exact key
    | _ => cases e
/-- what repr tells of any thing -/
def repA (d : D) : Bool := d.okA 150 && decide (d.pq.shown.length ≤ sizeLine)
def reprA (a : O) : Option O := if repA a.toD = true then some (.val (.str a.toD.pq.shown)) else none
def rReprA (K : PySem.W.Frag) (mg : Str → Option Value) (vs : List V) (H : Hp) (Q : VK) : Prop := ∃ (v : V) (d : D), vs = [v] ∧ Vw K mg H v d ∧ repA d = true ∧ (Okc d.pq.shown → Q (.str d.pq.shown) H)
theorem cr_reprA (hu : X.A.units + 200 < cLine) (hg : X.A.guards = some []) : CallR X (.builtin "repr") (rReprA X.K X.mg) := by
  intro pins s σ H vs us Q I r h
  obtain ⟨v, d, rfl, hv, hq, q⟩ := h
  obtain ⟨u, rfl, rv⟩ : ∃ u, us = [u] ∧ RelV v u := by
    cases r with
    | cons a b => cases b; exact ⟨_, rfl, a⟩
  have hq : (d.okA 150 && decide (d.pq.shown.length ≤ sizeLine)) = true := hq
  rw [Bool.and_eq_true, decide_eq_true_eq] at hq
  obtain ⟨hq, hz⟩ := hq
  obtain ⟨_, _, _, _, okc, _⟩ := readsA I 150 hv hq rv
  have q := q okc
  have fin : ∀ (h' : Heap) (t : Tok) (tk : Nat), (∀ b o, s.heap.get? b = some o → h'.get? b = some o) → ∃ v' H', Inv X pins σ H' { s with heap := h', toks := tk } ∧ RelV v' (.str d.pq.shown t) ∧ Q v' H' := fun h' t tk hk =>
    ⟨.str _, H, Inv.kept (t' := tk) I hk, ⟨_, rfl⟩, q⟩
  have all : ∀ {vs : List V} {ds : List D}, Vws X.K X.mg H vs ds → (∀ d ∈ ds, D.okA 149 d = true) → ∀ us, Vals vs us → RAs X.prog X.w s.heap us (D.pqs ds) 149 := by
    intro vs
    induction vs with
    | nil =>
      intro ds h _ us r
      cases h
      cases r
      exact RAs.nil
    | cons v vs ihv =>
      intro ds h e us r
      cases h with
      | cons h1 h2 =>
        cases r with
        | cons r1 r2 => exact RAs.cons (readsA I 149 h1 (e _ (List.mem_cons_self ..)) r1) (ihv h2 (fun z hz => e z (List.mem_cons_of_mem _ hz)) _ r2)
  cases hv with
  | non => cases rv; exact P.repr_of_none (by have f := fin s.heap s.toks (s.toks + 1) fun _ _ e => e; simp only [D.pq, PyData.shown] at f; exact f)
  | bl b => cases rv; exact P.repr_of_bool (by have f := fin s.heap s.toks (s.toks + 1) fun _ _ e => e; simp only [D.pq, PyData.shown] at f; exact f)
  | int i => obtain ⟨t, rfl⟩ := rv; exact P.repr_of_int (by simpa [D.okA] using hq) (by have f := fin s.heap s.toks (s.toks + 1) fun _ _ e => e; simp only [D.pq, PyData.shown] at f; exact f)
  | str x hx => obtain ⟨t, rfl⟩ := rv; exact P.repr_of_str (by have f := fin s.heap s.toks (s.toks + 1) fun _ _ e => e; simp only [D.pq, PyData.shown] at f; exact f) (by simpa [D.okA] using hq)
  | @dct a kvs ks ds hr hk ha =>
    cases rv
    have e : (ks.isEmpty && ds.isEmpty) = true := hq
    rw [Bool.and_eq_true, List.isEmpty_iff, List.isEmpty_iff] at e
    obtain ⟨rfl, rfl⟩ := e
    obtain ⟨o, m, ho, hc, hd, hm⟩ := dctA I hr (List.map_eq_nil_iff.mp hk.1)
    have sh : (D.dct [] []).pq.shown = dictText [] := dict0_shown
    rw [sh] at fin hz
    exact call_repr_slot (by omega) ⟨o, ho, hc⟩ F.slot_dict_repr (call_dict_reprK (as := []) (d := 0) ho hc hd hm (by simp) .nil hg (fun b _ => Clear.nil b) (by show X.A.units + 1 + (0 + 1) < cLine; omega) (fun _ _ e => e) (fun h' t tk hk => ⟨_, _, rfl, fin h' t tk hk⟩) hz)
  | @tup a xs ds hs ha =>
    cases rv
    have e : ds.all (D.okA 149) = true := hq
    obtain ⟨as, bs, o, its, m, hc, T⟩ := tupA I hs (all ha fun z hz => (List.all_eq_true.mp e) z hz)
    have dp := T.dp
    have sh : (D.tup ds).pq.shown = tupleText (PyData.shownAll (D.pqs ds)) := by show (PyData.tuple (D.pqs ds)).shown = _; simp only [PyData.shown]
    rw [sh] at fin hz
    exact call_repr_slot (by omega) ⟨o, T.ho, hc⟩ F.slot_tuple_repr (call_tuple_reprK T.ho hc T.hd T.na T.k hg (fun b _ => Clear.nil b) (by show X.A.units + 1 + (_ + 1) < cLine; omega) (fun _ _ e => e) (fun h' t tk hk => ⟨_, _, rfl, fin h' t tk hk⟩) hz)
  | @lst a xs ds hs ha =>
    cases rv
    have e : ds.all (D.okA 149) = true := hq
    obtain ⟨as, bs, o, ⟨its⟩, m, hc, T⟩ := lstA I hs (all ha fun z hz => (List.all_eq_true.mp e) z hz)
    have dp := T.dp
    have sh : (D.lst ds).pq.shown = listText (PyData.shownAll (D.pqs ds)) := by show (PyData.list (D.pqs ds)).shown = _; simp only [PyData.shown]
    rw [sh] at fin hz
    have k := T.k
    have hd := T.hd
    refine call_repr_slot (by omega) ⟨o, T.ho, hc⟩ F.slot_list_repr.toG ?_
    cases its with
    | nil =>
      have l := k.length_eq
      have e0 : PyData.shownAll (D.pqs ds) = [] := List.length_eq_zero_iff.mp (by simpa using l)
      rw [e0, listText_nil] at fin
      exact call_list_repr_empty ⟨o, T.ho, hc⟩ T.ho hd ⟨_, _, rfl, fin s.heap s.toks (s.toks + 1) fun _ _ e => e⟩
    | cons x l => exact call_list_reprK T.ho hc hd T.na (by simpa using k.length_eq) (fun i y e => ReprAllK.item k i y (by simpa using e)) hg (fun b _ => Clear.nil b) (by show X.A.units + 1 + (_ + 1) < cLine; omega) (fun _ _ e => e) (fun h' t tk hk => ⟨_, _, rfl, fin h' t tk hk⟩) hz
  | _ => cases hq
theorem u200 {k : Nat} {A : Around} (r : Room k A) : A.units + 200 < cLine := by have := r.un; omega
theorem unv_reprA : UnV K mg (fun x H Q => rReprA K mg [x] H Q) reprA := by
  intro H L B x ox o Q R hx e k
  unfold reprA at e
  split at e
  · rename_i h
    cases e
    have vw := R.view hx
    exact ⟨x, _, rfl, vw, h, fun okc => k _ _ (Same.refl _) (R.scalB fun G => .str _ ((okc_iff _).mpr okc))⟩
  · cases e
theorem e_reprA {a : O} {d : D} (ha : a.toD = d) (h : repA d = true) : reprA a = some (.val (.str d.pq.shown)) := by
  subst ha
  unfold reprA
  rw [if_pos h]
end
end FB

/-! text <= text. -/
namespace FB
open PySem PySem.Spec L2
open PyProof.Rows hiding St
section
variable {X : Cx} {K : PySem.W.Frag} {mg : Str → Option Value}
def leSO (a b : O) : Option O := match a.toD, b.toD with
  | .str x, .str y => some (.val (.bl (!decide (y.cps.toList < x.cps.toList))))
  | _, _ => none
theorem opv_leS : OpV K mg (fun x y H Q => ∃ i j, x = .str i ∧ y = .str j ∧ Q (.bl (!decide (j.cps.toList < i.cps.toList))) H) leSO := by
  intro H L B x y ox oy o Q R hx hy e k
  unfold leSO at e
  split at e
  · rename_i u v e1 e2
    cases e
    have vx := R.view hx
    have vy := R.view hy
    dsimp only at vx vy
    rw [e1] at vx
    rw [e2] at vy
    cases vx
    cases vy
    exact ⟨u, v, rfl, rfl, k _ _ (Same.refl _) (R.scalB fun _ => .bl _)⟩
  · cases e
end
end FB

namespace Wk
open PySem PySem.Spec L2 FB
open PyProof.Rows hiding St
noncomputable def b__law_cell_at : M Fl := mSeq (mIf (mB (mP (p2 (lift2 ltD) (pVar 1) (p1 lenO (pVar 0))))) (mRet (mP (p2 ixO (pVar 0) (pVar 1)))) (mSkip)) (mRet (mP (pC (.int 0))))
abbrev E__law_cell_at (v_script v_k : Option O := none) : FB.Env := [v_script, v_k]
noncomputable def F__law_cell_at : FSem := runF 2 2 [] b__law_cell_at
theorem sc__law_cell_at : FnScope ["_law_script", "_law_k"] ["_law_script", "_law_k"] (C8.fnScope s__law_cell_at) := C8.fnScope_by (by decide +kernel)
noncomputable def b__law_feed : M Fl := mSeq (mSetP 2 (mCall F__law_cell_at [.v (mP (pVar 0)), .v (mP (pVar 1))])) (mRet (mLst (mCons (mP (pVar 2)) (mCons (mP (pVar 2)) (mCons (mP (p2 (lift2 mulD) (pC (.int 100)) (pVar 1))) (mNil))))))
abbrev E__law_feed (v_script v_k v_cell : Option O := none) : FB.Env := [v_script, v_k, v_cell]
noncomputable def F__law_feed : FSem := runF 2 3 [] b__law_feed
theorem sc__law_feed : FnScope ["_law_script", "_law_k", "_law_cell"] ["_law_script", "_law_k"] (C8.fnScope s__law_feed) := C8.fnScope_by (by decide +kernel)
noncomputable def b__law_take : M Fl := mSeq (mSetIt 0 (mP (pC (.int 2))) (mP (p2 (lift2 addD) (p2 ixO (pVar 0) (pC (.int 2))) (pC (.int 1))))) (mSeq (mIf (mAnd (mB (mP (p2 (lift2 geD) (p2 ixO (pVar 0) (pC (.int 0))) (p2 (lift2 powD) (pC (.int 10)) (pC (.int 18)))))) (mB (mP (p2 (lift2 gtD) (p2 ixO (pVar 0) (pC (.int 1))) (pC (.int 0)))))) (mSeq (mSetP 3 (mP (p2 (lift2 modD) (p2 ixO (pVar 0) (pC (.int 1))) (pVar 1)))) (mSeq (mSetIt 0 (mP (pC (.int 1))) (mP (p2 (lift2 fdivD) (p2 ixO (pVar 0) (pC (.int 1))) (pVar 1)))) (mRet (mP (pVar 3))))) (mSkip)) (mSeq (mSetP 2 (mP (p2 (lift2 addD) (p2 (lift2 mulD) (p2 (lift2 modD) (p2 ixO (pVar 0) (pC (.int 0))) (pC (.int 2147483629))) (pC (.int 48271))) (p2 (lift2 mulD) (pC (.int 7919)) (p2 ixO (pVar 0) (pC (.int 2))))))) (mSeq (mSetP 2 (mP (p2 (lift2 modD) (p2 (lift2 addD) (p2 (lift2 addD) (pVar 2) (p2 (lift2 mulD) (p2 (lift2 mulD) (p2 ixO (pVar 0) (pC (.int 2))) (p2 ixO (pVar 0) (pC (.int 2)))) (pC (.int 69621)))) (pC (.int 11))) (pC (.int 2147483647))))) (mRet (mP (p2 (lift2 modD) (p2 (lift2 fdivD) (p2 (lift2 modD) (p2 (lift2 mulD) (pVar 2) (p2 (lift2 addD) (p2 (lift2 modD) (pVar 2) (pC (.int 65521))) (pC (.int 3)))) (pC (.int 2147483629))) (pC (.int 5))) (pVar 1)))))))
abbrev E__law_take (v_feed_here v_many v_number_here v_digit : Option O := none) : FB.Env := [v_feed_here, v_many, v_number_here, v_digit]
noncomputable def F__law_take : FSem := runF 2 4 [0] b__law_take
theorem sc__law_take : FnScope ["_law_feed_here", "_law_many", "_law_number_here", "_law_digit"] ["_law_feed_here", "_law_many"] (C8.fnScope s__law_take) := C8.fnScope_by (by decide +kernel)
noncomputable def q1__law_names : M O := mComp (mR1 (mP (pVar 1))) (own2 [("_law_k", 11)]) (aN 11) (mTrue) (mP (p2 (lift2 mulD) (p2 ixO (pVar 2) (p2 (lift2 modD) (p2 (lift2 addD) (pVar 3) (pVar 11)) (pC (.int 26)))) (p2 (lift2 addD) (pC (.int 1)) (p2 (lift2 fdivD) (pVar 11) (pC (.int 26))))))
noncomputable def q2__law_names : M O := mComp (mR1 (mP (pVar 6))) (own2 [("_law_k", 11)]) (aN 11) (mTrue) (mCall F__law_take [.io 0, .v (mP (pC (.int 26)))])
noncomputable def q3__law_names : M O := mCompG (lstN 12) (wiN 12) (reN 12) (own2 [("_law_one", 13)]) (aN 13) (mTrue) (mP (p2 ixO (pVar 2) (pVar 13)))
noncomputable def b1__law_names : M Fl := mSeq (mSetO 12 (mW listW (pVar 7))) (mSeq (mSetIt 12 (mP (pVar 8)) (mP (p2 (lift2 modD) (p2 (lift2 addD) (p2 ixO (pVar 7) (pVar 8)) (pVar 11)) (pC (.int 26))))) (mSeq (mSetIt 12 (mP (pVar 9)) (mP (p2 (lift2 modD) (p2 (lift2 addD) (p2 ixO (pVar 7) (pVar 9)) (p2 (lift2 fdivD) (pVar 11) (pC (.int 26)))) (pC (.int 26))))) (mEx (mAppend 5 (m2 (lift2 addD) (mJoin "" (q3__law_names)) (mP (p2 (lift2 mulD) (p2 ixO (pVar 2) (pVar 3)) (p2 (lift2 mulD) (pVar 10) (p2 (lift2 modD) (pVar 11) (pC (.int 2)))))))))))
noncomputable def b__law_names : M Fl := mSeq (mSetP 2 (mP (pC (.str "abcdefghijklmnopqrstuvwxyz")))) (mSeq (mSetP 3 (mCall F__law_take [.io 0, .v (mP (pC (.int 26)))])) (mSeq (mIf (mB (m2 (eqO) (mCall F__law_take [.io 0, .v (mP (pC (.int 5)))]) (mP (pC (.int 0))))) (mSetO 5 (q1__law_names)) (mSeq (mSetP 6 (m2 (lift2 addD) (mP (pC (.int 2))) (mCall F__law_take [.io 0, .v (mP (pC (.int 7)))]))) (mSeq (mSetP 7 (q2__law_names)) (mSeq (mSetP 8 (mCall F__law_take [.io 0, .v (mP (pVar 6))])) (mSeq (mSetP 9 (m2 (lift2 modD) (m2 (lift2 addD) (mP (p2 (lift2 addD) (pVar 8) (pC (.int 1)))) (mCall F__law_take [.io 0, .v (mP (p2 (lift2 subD) (pVar 6) (pC (.int 1))))])) (mP (pVar 6)))) (mSeq (mSetP 10 (m2 (lift2 mulD) (mCall F__law_take [.io 0, .v (mP (pC (.int 2)))]) (mP (p1 intO (p2 (lift2 ltD) (pVar 6) (pC (.int 8))))))) (mSeq (mSetO 5 (mLst (mNil))) (mFor (mR1 (mP (pVar 1))) (aN 11) b1__law_names)))))))) (mSeq (mSetP 4 (m2 ixO (mLst (mCons (mP (pC (.str "guard"))) (mCons (mP (pC (.str "load"))) (mCons (mP (pC (.str "on"))) (mCons (mP (pC (.str "off"))) (mCons (mP (pC (.str "board"))) (mCons (mP (pC (.str "map"))) (mCons (mP (pC (.str "least"))) (mCons (mP (pC (.str ""))) (mCons (mP (pC (.str ""))) (mCons (mP (pC (.str ""))) (mCons (mP (pC (.str ""))) (mNil))))))))))))) (mCall F__law_take [.io 0, .v (mP (pC (.int 11)))]))) (mSeq (mIf (mAnd (mB (mP (p2 (neO) (pVar 4) (pC (.str ""))))) (mB (mP (p2 (ninO) (pVar 4) (pVar 5))))) (mSetIt 5 (mCall F__law_take [.io 0, .v (mP (pVar 1))]) (mP (pVar 4))) (mSkip)) (mRet (mMove 5))))))
abbrev E__law_names (v_feed_here v_many v_letters v_first v_word v_names_here v_size v_base v_at v_other v_longer v_k v_some v_one : Option O := none) : FB.Env := [v_feed_here, v_many, v_letters, v_first, v_word, v_names_here, v_size, v_base, v_at, v_other, v_longer, v_k, v_some, v_one]
noncomputable def F__law_names : FSem := runF 2 14 [0] b__law_names
theorem sc__law_names : FnScope ["_law_feed_here", "_law_many", "_law_letters", "_law_first", "_law_word", "_law_names_here", "_law_size", "_law_base", "_law_at", "_law_other", "_law_longer", "_law_k", "_law_some", "_law_one"] ["_law_feed_here", "_law_many"] (C8.fnScope s__law_names) := C8.fnScope_by (by decide +kernel)
noncomputable def b__law_begin : M Fl := mSeq (mSetP 1 (mCall F__law_take [.io 0, .v (mP (pC (.int 4)))])) (mSeq (mIf (mB (mP (p2 (lift2 ltD) (pVar 1) (pC (.int 2))))) (mRet (m2 (lift2 addD) (mP (pC (.int 1))) (m2 (lift2 mulD) (mP (pVar 1)) (mCall F__law_take [.io 0, .v (mP (pC (.int 4)))])))) (mSkip)) (mSeq (mIf (mB (mP (p2 (eqO) (pVar 1) (pC (.int 2))))) (mRet (m2 (lift2 addD) (mP (pC (.int 1))) (mCall F__law_take [.io 0, .v (mP (p2 (lift2 powD) (pC (.int 10)) (pC (.int 6))))]))) (mSkip)) (mRet (m2 (lift2 addD) (m2 (lift2 mulD) (m2 (lift2 addD) (mP (pC (.int 1))) (mCall F__law_take [.io 0, .v (mP (p2 (lift2 powD) (pC (.int 10)) (pC (.int 9))))])) (mP (p2 (lift2 powD) (pC (.int 10)) (pC (.int 49))))) (mCall F__law_take [.io 0, .v (mP (p2 (lift2 powD) (pC (.int 10)) (pC (.int 40))))])))))
abbrev E__law_begin (v_feed_here v_way : Option O := none) : FB.Env := [v_feed_here, v_way]
noncomputable def F__law_begin : FSem := runF 1 2 [0] b__law_begin
theorem sc__law_begin : FnScope ["_law_feed_here", "_law_way"] ["_law_feed_here"] (C8.fnScope s__law_begin) := C8.fnScope_by (by decide +kernel)
noncomputable def b__law_number : M Fl := mSeq (mSetP 1 (mCall F__law_take [.io 0, .v (mP (pC (.int 5)))])) (mSeq (mIf (mB (mP (p2 (lift2 ltD) (pVar 1) (pC (.int 2))))) (mRet (mCall F__law_take [.io 0, .v (mP (pC (.int 4)))])) (mSkip)) (mSeq (mIf (mB (mP (p2 (lift2 ltD) (pVar 1) (pC (.int 4))))) (mRet (mCall F__law_begin [.io 0])) (mSkip)) (mRet (m2 (lift2 subD) (mP (p2 (lift2 subD) (p2 (lift2 powD) (pC (.int 10)) (pC (.int 60))) (pC (.int 1)))) (mCall F__law_take [.io 0, .v (mP (pC (.int 3)))])))))
abbrev E__law_number (v_feed_here v_way : Option O := none) : FB.Env := [v_feed_here, v_way]
noncomputable def F__law_number : FSem := runF 1 2 [0] b__law_number
theorem sc__law_number : FnScope ["_law_feed_here", "_law_way"] ["_law_feed_here"] (C8.fnScope s__law_number) := C8.fnScope_by (by decide +kernel)
noncomputable def b1__law_steps : M Fl := mSeq (mEx (mAppend 2 (m2 (lift2 addD) (mP (p2 ixO (pVar 2) (p1 negO (pC (.int 1))))) (mCall F__law_begin [.io 0])))) (mEx (mAppend 3 (m2 (lift2 addD) (mP (p2 ixO (pVar 3) (p1 negO (pC (.int 1))))) (mCall F__law_begin [.io 0]))))
noncomputable def q1__law_steps : M O := mComp (mI (mFrz 2)) (own2 [("_law_one", 5)]) (aN 5) (mTrue) (mP (p2 (lift2 addD) (p2 (lift2 subD) (p2 (lift2 subD) (p2 (lift2 powD) (pC (.int 10)) (pC (.int 60))) (pC (.int 1))) (p2 ixO (pVar 2) (p1 negO (pC (.int 1))))) (pVar 5)))
noncomputable def q2__law_steps : M O := mComp (mI (mFrz 3)) (own2 [("_law_one", 5)]) (aN 5) (mTrue) (mP (p2 (lift2 addD) (p2 (lift2 subD) (p2 (lift2 subD) (p2 (lift2 powD) (pC (.int 10)) (pC (.int 60))) (pC (.int 1))) (p2 ixO (pVar 3) (p1 negO (pC (.int 1))))) (pVar 5)))
noncomputable def q3__law_steps : M O := mComp (mR1 (mP (pVar 1))) (own2 [("_law_k", 4)]) (aN 4) (mTrue) (mP (pTup (pCons (p2 ixO (pVar 2) (pVar 4)) (pCons (p2 ixO (pVar 3) (p2 (lift2 subD) (p2 (lift2 subD) (pVar 1) (pC (.int 1))) (pVar 4))) (pNil)))))
noncomputable def b__law_steps : M Fl := mSeq (mSetP 1 (m2 (lift2 addD) (mP (pC (.int 1))) (mCall F__law_take [.io 0, .v (mP (pC (.int 5)))]))) (mSeq (mSetO 2 (mLst (mCons (mCall F__law_begin [.io 0]) (mNil)))) (mSeq (mSetO 3 (mLst (mCons (mCall F__law_begin [.io 0]) (mNil)))) (mSeq (mFor (mR1 (mP (p2 (lift2 subD) (pVar 1) (pC (.int 1))))) (aN 4) b1__law_steps) (mSeq (mIf (mB (m2 (eqO) (mCall F__law_take [.io 0, .v (mP (pC (.int 4)))]) (mP (pC (.int 0))))) (mSetO 2 (q1__law_steps)) (mSkip)) (mSeq (mIf (mB (m2 (eqO) (mCall F__law_take [.io 0, .v (mP (pC (.int 4)))]) (mP (pC (.int 0))))) (mSetO 3 (q2__law_steps)) (mSkip)) (mRet (m1 tupO (q3__law_steps))))))))
abbrev E__law_steps (v_feed_here v_many v_some v_times v_k v_one : Option O := none) : FB.Env := [v_feed_here, v_many, v_some, v_times, v_k, v_one]
noncomputable def F__law_steps : FSem := runF 1 6 [0] b__law_steps
theorem sc__law_steps : FnScope ["_law_feed_here", "_law_many", "_law_some", "_law_times", "_law_k", "_law_one"] ["_law_feed_here"] (C8.fnScope s__law_steps) := C8.fnScope_by (by decide +kernel)
noncomputable def q1__law_guards : M O := mCompG (lstN 3) (wiN 3) (reN 3) (own2 [("_law_guard", 10)]) (aN 10) (mB (mP (p2 (lift2 ltD) (p2 ixF (pVar 4) (p2 ixO (pVar 10) (pC (.int 0)))) (pC (.int 8))))) (mP (p2 ixO (pVar 10) (pC (.int 0))))
noncomputable def b1__law_guards : M Fl := mSeq (mSetO 6 (mCall F__law_feed [.v (mP (pVar 0)), .v (mP (p2 (lift2 addD) (pC (.int 2)) (pVar 5)))])) (mSeq (mSetP 7 (q1__law_guards)) (mSeq (mSetP 8 (mCall F__law_take [.io 6, .v (mP (pC (.int 4)))])) (mSeq (mSetP 9 (mP (pC .non))) (mSeq (mIf (mAnd (mB (mP (p2 (lift2 gtD) (pVar 8) (pC (.int 0))))) (mB (mP (p2 (lift2 gtD) (p1 lenO (pVar 7)) (pC (.int 0)))))) (mSetP 9 (m2 ixO (mLst (mCons (mP (p2 ixO (pVar 7) (p1 negO (pC (.int 1))))) (mCons (mP (p2 ixO (pVar 7) (p1 negO (pC (.int 1))))) (mCons (m2 ixO (mP (pVar 7)) (mCall F__law_take [.io 6, .v (mP (p1 lenO (pVar 7)))])) (mNil))))) (mP (p2 (lift2 subD) (pVar 8) (pC (.int 1)))))) (mSkip)) (mSeq (mSetIt 4 (mP (p2 ixO (pVar 1) (pVar 5))) (mP (p2 (lift2 addD) (pC (.int 1)) (p3 getO (pVar 4) (pVar 9) (pC (.int 0)))))) (mEx (mAppend 3 (mTup (mCons (mP (p2 ixO (pVar 1) (pVar 5))) (mCons (mP (pVar 9)) (mCons (mCall F__law_steps [.io 6]) (mCons (mCall F__law_number [.io 6]) (mCons (mCall F__law_number [.io 6]) (mNil))))))))))))))
noncomputable def b__law_guards : M Fl := mSeq (mSetO 3 (mLst (mNil))) (mSeq (mSetO 4 (mDict0)) (mSeq (mFor (mR1 (mP (pVar 2))) (aN 5) b1__law_guards) (mRet (mMove 3))))
abbrev E__law_guards (v_script v_names_here v_many v_guards_here v_depths v_k v_feed_here v_some v_way v_under v_guard : Option O := none) : FB.Env := [v_script, v_names_here, v_many, v_guards_here, v_depths, v_k, v_feed_here, v_some, v_way, v_under, v_guard]
noncomputable def F__law_guards : FSem := runF 3 11 [] b__law_guards
theorem sc__law_guards : FnScope ["_law_script", "_law_names_here", "_law_many", "_law_guards_here", "_law_depths", "_law_k", "_law_feed_here", "_law_some", "_law_way", "_law_under", "_law_guard"] ["_law_script", "_law_names_here", "_law_many"] (C8.fnScope s__law_guards) := C8.fnScope_by (by decide +kernel)
noncomputable def q1__law_loads : M O := mComp (mR1 (mCall F__law_take [.io 5, .v (mP (pC (.int 5)))])) (own2 [("_law_j", 8)]) (aN 8) (mTrue) (mTup (mCons (mCall F__law_begin [.io 5]) (mCons (mCall F__law_number [.io 5]) (mNil))))
noncomputable def b1__law_loads : M Fl := mSeq (mSetO 5 (mCall F__law_feed [.v (mP (pVar 0)), .v (mP (p2 (lift2 addD) (pC (.int 18)) (pVar 4)))])) (mSeq (mSetP 6 (m2 ixO (m2 ixO (mP (pVar 2)) (mCall F__law_take [.io 5, .v (mP (p1 lenO (pVar 2)))])) (mP (pC (.int 0))))) (mSeq (mSetP 7 (m1 tupO (q1__law_loads))) (mEx (mAppend 3 (mTup (mCons (mP (p2 ixO (pVar 1) (pVar 4))) (mCons (mP (pVar 6)) (mCons (mP (pVar 7)) (mCons (mCall F__law_number [.io 5]) (mCons (m2 (eqO) (mCall F__law_take [.io 5, .v (mP (pC (.int 2)))]) (mP (pC (.int 1)))) (mNil)))))))))))
noncomputable def b__law_loads : M Fl := mSeq (mSetO 3 (mLst (mNil))) (mSeq (mFor (mR1 (mP (p1 lenO (pVar 1)))) (aN 4) b1__law_loads) (mRet (mMove 3)))
abbrev E__law_loads (v_script v_names_here v_guards_here v_loads_here v_k v_feed_here v_at v_course v_j : Option O := none) : FB.Env := [v_script, v_names_here, v_guards_here, v_loads_here, v_k, v_feed_here, v_at, v_course, v_j]
noncomputable def F__law_loads : FSem := runF 3 9 [] b__law_loads
theorem sc__law_loads : FnScope ["_law_script", "_law_names_here", "_law_guards_here", "_law_loads_here", "_law_k", "_law_feed_here", "_law_at", "_law_course", "_law_j"] ["_law_script", "_law_names_here", "_law_guards_here"] (C8.fnScope s__law_loads) := C8.fnScope_by (by decide +kernel)
noncomputable def b__law_board : M Fl := mSeq (mSetO 1 (mCall F__law_feed [.v (mP (pVar 0)), .v (mP (pC (.int 0)))])) (mSeq (mSetP 2 (m2 (lift2 addD) (mP (pC (.int 1))) (mCall F__law_take [.io 1, .v (mFz (m2 ixO (mLst (mCons (mP (pC (.int 4))) (mCons (mP (pC (.int 16))) (mNil)))) (mCall F__law_take [.io 1, .v (mP (pC (.int 2)))])))]))) (mSeq (mSetP 3 (mCall F__law_names [.v (mCall F__law_feed [.v (mP (pVar 0)), .v (mP (pC (.int 1)))]), .v (mFz (m2 (lift2 addD) (mP (pVar 2)) (mCall F__law_take [.io 1, .v (mFz (m2 ixO (mLst (mCons (mP (pC (.int 6))) (mCons (mP (pC (.int 25))) (mNil)))) (mCall F__law_take [.io 1, .v (mP (pC (.int 2)))])))])))])) (mSeq (mSetP 4 (mCall F__law_guards [.v (mP (pVar 0)), .v (mP (pVar 3)), .v (mP (pVar 2))])) (mRet (mTup (mCons (mP (p1 tupO (pVar 4))) (mCons (m1 tupO (mCall F__law_loads [.v (mP (pVar 0)), .v (mP (pSl (pVar 3) (pInt (pVar 2)) pNone)), .v (mP (pVar 4))])) (mNil))))))))
abbrev E__law_board (v_script v_feed_here v_many v_names_here v_guards_here : Option O := none) : FB.Env := [v_script, v_feed_here, v_many, v_names_here, v_guards_here]
noncomputable def F__law_board : FSem := runF 1 5 [] b__law_board
theorem sc__law_board : FnScope ["_law_script", "_law_feed_here", "_law_many", "_law_names_here", "_law_guards_here"] ["_law_script"] (C8.fnScope s__law_board) := C8.fnScope_by (by decide +kernel)
noncomputable def b_is_whole : M Fl := mRet (mAndV (mP (p1 (isiO "int") (pVar 0))) (mNotV (mP (p1 (isiO "bool") (pVar 0)))))
abbrev E_is_whole (v_thing : Option O := none) : FB.Env := [v_thing]
noncomputable def F_is_whole : FSem := runF 1 1 [] b_is_whole
theorem sc_is_whole : FnScope ["thing"] ["thing"] (C8.fnScope s_is_whole) := C8.fnScope_by (by decide +kernel)
noncomputable def b_is_number : M Fl := mRet (mAndV (mCall F_is_whole [.v (mP (pVar 0))]) (mChain (lift2 leD) (lift2 ltD) (mP (pC (.int 0))) (mP (pVar 0)) (mP (pC (.int 1000000000000000000000000000000000000000000000000000000000000)))))
abbrev E_is_number (v_thing : Option O := none) : FB.Env := [v_thing]
noncomputable def F_is_number : FSem := runF 1 1 [] b_is_number
theorem sc_is_number : FnScope ["thing"] ["thing"] (C8.fnScope s_is_number) := C8.fnScope_by (by decide +kernel)
noncomputable def b_is_pair : M Fl := mRet (mAndV (mP (p1 (isiO "tuple") (pVar 0))) (mAndV (mP (p2 (eqO) (p1 lenO (pVar 0)) (pC (.int 2)))) (mAndV (mCall F_is_number [.v (mP (p2 ixO (pVar 0) (pC (.int 0))))]) (mCall F_is_number [.v (mP (p2 ixO (pVar 0) (pC (.int 1))))]))))
abbrev E_is_pair (v_thing : Option O := none) : FB.Env := [v_thing]
noncomputable def F_is_pair : FSem := runF 1 1 [] b_is_pair
theorem sc_is_pair : FnScope ["thing"] ["thing"] (C8.fnScope s_is_pair) := C8.fnScope_by (by decide +kernel)
noncomputable def b1_is_curve : M Fl := mIf (mOr (mNot (mB (mCall F_is_pair [.v (mP (pVar 1))]))) (mOr (mB (mP (p2 (lift2 ltD) (p2 ixO (pVar 1) (pC (.int 0))) (pC (.int 1))))) (mB (mP (p2 (lift2 ltD) (p2 ixO (pVar 1) (pC (.int 1))) (pC (.int 1))))))) (mRet (mP (pC (.bl false)))) (mSkip)
noncomputable def b2_is_curve : M Fl := mIf (mOr (mB (mP (p2 (lift2 leD) (p2 ixO (pVar 1) (pC (.int 0))) (p2 ixO (pVar 2) (pC (.int 0)))))) (mB (mP (p2 (lift2 geD) (p2 ixO (pVar 1) (pC (.int 1))) (p2 ixO (pVar 2) (pC (.int 1))))))) (mRet (mP (pC (.bl false)))) (mSkip)
noncomputable def b_is_curve : M Fl := mSeq (mIf (mOr (mNot (mB (mP (p1 (isiO "tuple") (pVar 0))))) (mNot (mB (mChain (lift2 leD) (lift2 leD) (mP (pC (.int 1))) (mP (p1 lenO (pVar 0))) (mP (pC (.int 5))))))) (mRet (mP (pC (.bl false)))) (mSkip)) (mSeq (mFor (mI (mP (pVar 0))) (aN 1) b1_is_curve) (mSeq (mFor (mZipM (mP (pVar 0)) (mP (pSl (pVar 0) (pInt (pC (.int 1))) pNone))) (aTup (aCons (aN 2) (aCons (aN 1) (aNil)))) b2_is_curve) (mRet (mP (pC (.bl true))))))
abbrev E_is_curve (v_thing v_step v_ahead : Option O := none) : FB.Env := [v_thing, v_step, v_ahead]
noncomputable def F_is_curve : FSem := runF 1 3 [] b_is_curve
theorem sc_is_curve : FnScope ["thing", "step", "ahead"] ["thing"] (C8.fnScope s_is_curve) := C8.fnScope_by (by decide +kernel)
noncomputable def q1_is_name : M O := mComp (mI (mP (pVar 0))) (own2 [("sign", 1)]) (aN 1) (mTrue) (mP (p2 (inO) (pVar 1) (pC (.str "abcdefghijklmnopqrstuvwxyz"))))
noncomputable def b_is_name : M Fl := mSeq (mIf (mOr (mNot (mB (mP (p1 (isiO "str") (pVar 0))))) (mNot (mB (mChain (lift2 leD) (lift2 leD) (mP (pC (.int 1))) (mP (p1 lenO (pVar 0))) (mP (pC (.int 8))))))) (mRet (mP (pC (.bl false)))) (mSkip)) (mRet (m1 allO (q1_is_name)))
abbrev E_is_name (v_thing v_sign : Option O := none) : FB.Env := [v_thing, v_sign]
noncomputable def F_is_name : FSem := runF 1 2 [] b_is_name
theorem sc_is_name : FnScope ["thing", "sign"] ["thing"] (C8.fnScope s_is_name) := C8.fnScope_by (by decide +kernel)
noncomputable def b_is_guard : M Fl := mSeq (mIf (mOr (mNot (mB (mP (p1 (isiO "tuple") (pVar 0))))) (mOr (mB (mP (p2 (neO) (p1 lenO (pVar 0)) (pC (.int 5))))) (mNot (mB (mCall F_is_name [.v (mP (p2 ixO (pVar 0) (pC (.int 0))))]))))) (mRet (mP (pC (.bl false)))) (mSkip)) (mSeq (mIf (mAnd (mB (mP (p2 (notNO) (p2 ixO (pVar 0) (pC (.int 1))) (pC .non)))) (mNot (mB (mCall F_is_name [.v (mP (p2 ixO (pVar 0) (pC (.int 1))))])))) (mRet (mP (pC (.bl false)))) (mSkip)) (mRet (mAndV (mCall F_is_curve [.v (mP (p2 ixO (pVar 0) (pC (.int 2))))]) (mAndV (mCall F_is_number [.v (mP (p2 ixO (pVar 0) (pC (.int 3))))]) (mCall F_is_number [.v (mP (p2 ixO (pVar 0) (pC (.int 4))))])))))
abbrev E_is_guard (v_thing : Option O := none) : FB.Env := [v_thing]
noncomputable def F_is_guard : FSem := runF 1 1 [] b_is_guard
theorem sc_is_guard : FnScope ["thing"] ["thing"] (C8.fnScope s_is_guard) := C8.fnScope_by (by decide +kernel)
noncomputable def q1_chain : M O := mComp (mI (mP (pVar 0))) (own2 [("guard", 4)]) (aN 4) (mTrue) (mP (pTup (pCons (p2 ixO (pVar 4) (pC (.int 0))) (pCons (p2 ixO (pVar 4) (pC (.int 1))) (pNil)))))
noncomputable def t1_chain : M Bool := mB (mP (p2 (notNO) (pVar 1) (pC .non)))
noncomputable def b1_chain : M Fl := mSeq (mEx (mAppend 3 (mP (pVar 1)))) (mSetP 1 (mP (p2 ixF (pVar 2) (pVar 1))))
noncomputable def b_chain : M Fl := mSeq (mSetP 2 (mDictP (q1_chain))) (mSeq (mSetO 3 (mLst (mNil))) (mSeq (mWhile (fun _ => fuel) t1_chain b1_chain) (mRet (mMove 3))))
abbrev E_chain (v_guards v_name v_unders v_found v_guard : Option O := none) : FB.Env := [v_guards, v_name, v_unders, v_found, v_guard]
noncomputable def F_chain : FSem := runF 2 5 [] b_chain
theorem sc_chain : FnScope ["guards", "name", "unders", "found", "guard"] ["guards", "name"] (C8.fnScope s_chain) := C8.fnScope_by (by decide +kernel)
noncomputable def q1_guard_fits : M O := mComp (mI (mP (pVar 0))) (own2 [("guard", 3)]) (aN 3) (mTrue) (mP (p2 ixO (pVar 3) (pC (.int 0))))
noncomputable def b_guard_fits : M Fl := mSeq (mSetP 2 (q1_guard_fits)) (mSeq (mIf (mOr (mB (mP (p2 (eqO) (p1 lenO (pVar 0)) (pC (.int 16))))) (mOr (mNot (mB (mCall F_is_guard [.v (mP (pVar 1))]))) (mB (mP (p2 (inO) (p2 ixO (pVar 1) (pC (.int 0))) (pVar 2)))))) (mRet (mP (pC (.bl false)))) (mSkip)) (mRet (mOrV (mP (p2 (isNO) (p2 ixO (pVar 1) (pC (.int 1))) (pC .non))) (mAndV (mP (p2 (inO) (p2 ixO (pVar 1) (pC (.int 1))) (pVar 2))) (m2 (lift2 ltD) (m1 lenO (mCall F_chain [.v (mP (pVar 0)), .v (mP (p2 ixO (pVar 1) (pC (.int 1))))])) (mP (pC (.int 8))))))))
abbrev E_guard_fits (v_guards v_thing v_names v_guard : Option O := none) : FB.Env := [v_guards, v_thing, v_names, v_guard]
noncomputable def F_guard_fits : FSem := runF 2 4 [] b_guard_fits
theorem sc_guard_fits : FnScope ["guards", "thing", "names", "guard"] ["guards", "thing"] (C8.fnScope s_guard_fits) := C8.fnScope_by (by decide +kernel)
noncomputable def q1_is_course : M O := mComp (mI (mP (pVar 0))) (own2 [("stretch", 1)]) (aN 1) (mTrue) (mAndV (mCall F_is_pair [.v (mP (pVar 1))]) (mP (p2 (lift2 gtD) (p2 ixO (pVar 1) (pC (.int 0))) (pC (.int 0)))))
noncomputable def b_is_course : M Fl := mSeq (mIf (mOr (mNot (mB (mP (p1 (isiO "tuple") (pVar 0))))) (mB (mP (p2 (lift2 gtD) (p1 lenO (pVar 0)) (pC (.int 4)))))) (mRet (mP (pC (.bl false)))) (mSkip)) (mRet (m1 allO (q1_is_course)))
abbrev E_is_course (v_thing v_stretch : Option O := none) : FB.Env := [v_thing, v_stretch]
noncomputable def F_is_course : FSem := runF 1 2 [] b_is_course
theorem sc_is_course : FnScope ["thing", "stretch"] ["thing"] (C8.fnScope s_is_course) := C8.fnScope_by (by decide +kernel)
noncomputable def b_is_load : M Fl := mSeq (mIf (mOr (mNot (mB (mP (p1 (isiO "tuple") (pVar 0))))) (mOr (mB (mP (p2 (neO) (p1 lenO (pVar 0)) (pC (.int 5))))) (mOr (mNot (mB (mCall F_is_name [.v (mP (p2 ixO (pVar 0) (pC (.int 0))))]))) (mNot (mB (mCall F_is_name [.v (mP (p2 ixO (pVar 0) (pC (.int 1))))])))))) (mRet (mP (pC (.bl false)))) (mSkip)) (mRet (mAndV (mCall F_is_course [.v (mP (p2 ixO (pVar 0) (pC (.int 2))))]) (mAndV (mCall F_is_number [.v (mP (p2 ixO (pVar 0) (pC (.int 3))))]) (mP (p1 (isiO "bool") (p2 ixO (pVar 0) (pC (.int 4))))))))
abbrev E_is_load (v_thing : Option O := none) : FB.Env := [v_thing]
noncomputable def F_is_load : FSem := runF 1 1 [] b_is_load
theorem sc_is_load : FnScope ["thing"] ["thing"] (C8.fnScope s_is_load) := C8.fnScope_by (by decide +kernel)
noncomputable def q1_load_fits : M O := mComp (mI (mP (pVar 0))) (own2 [("guard", 4)]) (aN 4) (mTrue) (mP (p2 ixO (pVar 4) (pC (.int 0))))
noncomputable def q2_load_fits : M O := mComp (mI (mP (pVar 1))) (own2 [("load", 5)]) (aN 5) (mTrue) (mP (p2 ixO (pVar 5) (pC (.int 0))))
noncomputable def b_load_fits : M Fl := mSeq (mSetP 3 (q1_load_fits)) (mSeq (mIf (mOr (mB (mP (p2 (eqO) (p1 lenO (pVar 1)) (pC (.int 24))))) (mOr (mNot (mB (mCall F_is_load [.v (mP (pVar 2))]))) (mB (mP (p2 (ninO) (p2 ixO (pVar 2) (pC (.int 1))) (pVar 3)))))) (mRet (mP (pC (.bl false)))) (mSkip)) (mRet (mAndV (mP (p2 (ninO) (p2 ixO (pVar 2) (pC (.int 0))) (pVar 3))) (m2 (ninO) (mP (p2 ixO (pVar 2) (pC (.int 0)))) (q2_load_fits)))))
abbrev E_load_fits (v_guards v_loads v_thing v_names v_guard v_load : Option O := none) : FB.Env := [v_guards, v_loads, v_thing, v_names, v_guard, v_load]
noncomputable def F_load_fits : FSem := runF 3 6 [] b_load_fits
theorem sc_load_fits : FnScope ["guards", "loads", "thing", "names", "guard", "load"] ["guards", "loads", "thing"] (C8.fnScope s_load_fits) := C8.fnScope_by (by decide +kernel)
noncomputable def q1_looked : M O := mComp (mI (mP (pVar 0))) (own2 [("part", 6)]) (aN 6) (mTrue) (mP (p1 (isiO "tuple") (pVar 6)))
noncomputable def b1_looked : M Fl := mIf (nx (mNot (mB (mCall F_guard_fits [.v (mP (pSl (pVar 1) pNone (pInt (pVar 3)))), .v (mP (pVar 4))])))) (mRaiseF "NoBoard" ["word", "number"] (mCons (mP (pC (.str "guard"))) (mCons (mP (pVar 3)) (mNil)))) (mSkip)
noncomputable def b2_looked : M Fl := mIf (nx (mNot (mB (mCall F_load_fits [.v (mP (pVar 1)), .v (mP (pSl (pVar 2) pNone (pInt (pVar 3)))), .v (mP (pVar 5))])))) (mRaiseF "NoBoard" ["word", "number"] (mCons (mP (pC (.str "load"))) (mCons (mP (pVar 3)) (mNil)))) (mSkip)
noncomputable def b_looked : M Fl := mSeq (mIf (nx (mOr (mNot (mB (mP (p1 (isiO "tuple") (pVar 0))))) (mOr (mB (mP (p2 (neO) (p1 lenO (pVar 0)) (pC (.int 2))))) (mNot (mB (m1 allO (q1_looked))))))) (mRaiseF "NoBoard" ["word", "number"] (mCons (mP (pC (.str "board"))) (mCons (mP (pC (.int 0))) (mNil)))) (mSkip)) (mSeq (nx (mAsg (aTup (aCons (aN 1) (aCons (aN 2) (aNil)))) (mP (pVar 0)))) (mSeq (mIf (nx (mOr (mNot (mB (mChain (lift2 leD) (lift2 leD) (mP (pC (.int 1))) (mP (p1 lenO (pVar 1))) (mP (pC (.int 16)))))) (mB (mP (p2 (lift2 gtD) (p1 lenO (pVar 2)) (pC (.int 24))))))) (mRaiseF "NoBoard" ["word", "number"] (mCons (mP (pC (.str "board"))) (mCons (mP (pC (.int 0))) (mNil)))) (mSkip)) (mSeq (mFor (nx (mEnumU (mP (pVar 1)))) (aTup (aCons (aN 3) (aCons (aN 4) (aNil)))) b1_looked) (mSeq (mFor (nx (mEnumU (mP (pVar 2)))) (aTup (aCons (aN 3) (aCons (aN 5) (aNil)))) b2_looked) (nx (mRet (mP (pC (.bl true)))))))))
abbrev E_looked (v_thing v_guards v_loads v_number v_guard v_load v_part : Option O := none) : FB.Env := [v_thing, v_guards, v_loads, v_number, v_guard, v_load, v_part]
noncomputable def F_looked : FSemX := runX 1 7 [] b_looked
theorem sc_looked : FnScope ["thing", "guards", "loads", "number", "guard", "load", "part"] ["thing"] (C8.fnScope s_looked) := C8.fnScope_by (by decide +kernel)
noncomputable def b__law_is_number : M Fl := mRet (mAndV (mP (p1 (isiO "int") (pVar 0))) (mAndV (mNotV (mP (p1 (isiO "bool") (pVar 0)))) (mChain (lift2 leD) (lift2 ltD) (mP (pVar 1)) (mP (pVar 0)) (mP (p2 (lift2 powD) (pC (.int 10)) (pC (.int 60)))))))
abbrev E__law_is_number (v_thing v_low : Option O := none) : FB.Env := [v_thing, v_low]
noncomputable def F__law_is_number : FSem := runF 2 2 [] b__law_is_number
theorem sc__law_is_number : FnScope ["_law_thing", "_law_low"] ["_law_thing", "_law_low"] (C8.fnScope s__law_is_number) := C8.fnScope_by (by decide +kernel)
noncomputable def q1__law_is_name : M O := mComp (mI (mP (pVar 0))) (own2 [("_law_sign", 1)]) (aN 1) (mTrue) (mChain (leSO) (leSO) (mP (pC (.str "a"))) (mP (pVar 1)) (mP (pC (.str "z"))))
noncomputable def b__law_is_name : M Fl := mRet (mAndV (mP (p1 (isiO "str") (pVar 0))) (mAndV (mChain (lift2 leD) (lift2 leD) (mP (pC (.int 1))) (mP (p1 lenO (pVar 0))) (mP (pC (.int 8)))) (m1 allO (q1__law_is_name))))
abbrev E__law_is_name (v_thing v_sign : Option O := none) : FB.Env := [v_thing, v_sign]
noncomputable def F__law_is_name : FSem := runF 1 2 [] b__law_is_name
theorem sc__law_is_name : FnScope ["_law_thing", "_law_sign"] ["_law_thing"] (C8.fnScope s__law_is_name) := C8.fnScope_by (by decide +kernel)
noncomputable def b1__law_are_pairs : M Fl := mSeq (mIf (mOr (mNot (mB (mP (p1 (isiO "tuple") (pVar 3))))) (mB (mP (p2 (neO) (p1 lenO (pVar 3)) (pC (.int 2)))))) (mRet (mP (pC (.bl false)))) (mSkip)) (mIf (mOr (mNot (mB (mCall F__law_is_number [.v (mP (p2 ixO (pVar 3) (pC (.int 0)))), .v (mP (pC (.int 1)))]))) (mNot (mB (mCall F__law_is_number [.v (mP (p2 ixO (pVar 3) (pC (.int 1)))), .v (mP (pVar 2))])))) (mRet (mP (pC (.bl false)))) (mSkip))
noncomputable def b__law_are_pairs : M Fl := mSeq (mIf (mOr (mNot (mB (mP (p1 (isiO "tuple") (pVar 0))))) (mB (mP (p2 (lift2 gtD) (p1 lenO (pVar 0)) (pVar 1))))) (mRet (mP (pC (.bl false)))) (mSkip)) (mSeq (mFor (mI (mP (pVar 0))) (aN 3) b1__law_are_pairs) (mRet (mP (pC (.bl true)))))
abbrev E__law_are_pairs (v_thing v_most v_low v_pair : Option O := none) : FB.Env := [v_thing, v_most, v_low, v_pair]
noncomputable def F__law_are_pairs : FSem := runF 3 4 [] b__law_are_pairs
theorem sc__law_are_pairs : FnScope ["_law_thing", "_law_most", "_law_low", "_law_pair"] ["_law_thing", "_law_most", "_law_low"] (C8.fnScope s__law_are_pairs) := C8.fnScope_by (by decide +kernel)
noncomputable def q1__law_is_curve : M O := mComp (mR1 (mP (p2 (lift2 subD) (p1 lenO (pVar 0)) (pC (.int 1))))) (own2 [("_law_k", 1)]) (aN 1) (mTrue) (mAndV (mP (p2 (lift2 ltD) (p2 ixO (p2 ixO (pVar 0) (pVar 1)) (pC (.int 0))) (p2 ixO (p2 ixO (pVar 0) (p2 (lift2 addD) (pVar 1) (pC (.int 1)))) (pC (.int 0))))) (mP (p2 (lift2 gtD) (p2 ixO (p2 ixO (pVar 0) (pVar 1)) (pC (.int 1))) (p2 ixO (p2 ixO (pVar 0) (p2 (lift2 addD) (pVar 1) (pC (.int 1)))) (pC (.int 1))))))
noncomputable def b__law_is_curve : M Fl := mSeq (mIf (mOr (mNot (mB (mCall F__law_are_pairs [.v (mP (pVar 0)), .v (mP (pC (.int 5))), .v (mP (pC (.int 1)))]))) (mB (mP (p2 (eqO) (p1 lenO (pVar 0)) (pC (.int 0)))))) (mRet (mP (pC (.bl false)))) (mSkip)) (mRet (m1 allO (q1__law_is_curve)))
abbrev E__law_is_curve (v_thing v_k : Option O := none) : FB.Env := [v_thing, v_k]
noncomputable def F__law_is_curve : FSem := runF 1 2 [] b__law_is_curve
theorem sc__law_is_curve : FnScope ["_law_thing", "_law_k"] ["_law_thing"] (C8.fnScope s__law_is_curve) := C8.fnScope_by (by decide +kernel)
noncomputable def b__law_row_right : M Fl := mSeq (mIf (mOr (mNot (mB (mP (p1 (isiO "tuple") (pVar 0))))) (mOr (mB (mP (p2 (neO) (p1 lenO (pVar 0)) (pC (.int 5))))) (mNot (mB (mCall F__law_is_name [.v (mP (p2 ixO (pVar 0) (pC (.int 0))))]))))) (mRet (mP (pC (.bl false)))) (mSkip)) (mSeq (mIf (mB (mP (p2 (eqO) (pVar 1) (pC (.str "guard"))))) (mSeq (mSetP 2 (mOrV (mP (p2 (isNO) (p2 ixO (pVar 0) (pC (.int 1))) (pC .non))) (mCall F__law_is_name [.v (mP (p2 ixO (pVar 0) (pC (.int 1))))]))) (mRet (mAndV (mP (pVar 2)) (mAndV (mCall F__law_is_curve [.v (mP (p2 ixO (pVar 0) (pC (.int 2))))]) (mAndV (mCall F__law_is_number [.v (mP (p2 ixO (pVar 0) (pC (.int 3)))), .v (mP (pC (.int 0)))]) (mCall F__law_is_number [.v (mP (p2 ixO (pVar 0) (pC (.int 4)))), .v (mP (pC (.int 0)))])))))) (mSkip)) (mSeq (mIf (mOr (mNot (mB (mCall F__law_is_name [.v (mP (p2 ixO (pVar 0) (pC (.int 1))))]))) (mNot (mB (mCall F__law_are_pairs [.v (mP (p2 ixO (pVar 0) (pC (.int 2)))), .v (mP (pC (.int 4))), .v (mP (pC (.int 0)))])))) (mRet (mP (pC (.bl false)))) (mSkip)) (mRet (mAndV (mCall F__law_is_number [.v (mP (p2 ixO (pVar 0) (pC (.int 3)))), .v (mP (pC (.int 0)))]) (mP (p1 (isiO "bool") (p2 ixO (pVar 0) (pC (.int 4)))))))))
abbrev E__law_row_right (v_thing v_word v_under : Option O := none) : FB.Env := [v_thing, v_word, v_under]
noncomputable def F__law_row_right : FSem := runF 2 3 [] b__law_row_right
theorem sc__law_row_right : FnScope ["_law_thing", "_law_word", "_law_under"] ["_law_thing", "_law_word"] (C8.fnScope s__law_row_right) := C8.fnScope_by (by decide +kernel)
noncomputable def b1__law_due : M Fl := mSeq (mIf (mOr (mNot (mB (mCall F__law_row_right [.v (mP (pVar 4)), .v (mP (pC (.str "guard")))]))) (mB (mP (p2 (inF) (p2 ixO (pVar 4) (pC (.int 0))) (pVar 1))))) (mRet (mP (pTup (pCons (pC (.str "guard")) (pCons (pVar 3) (pNil)))))) (mSkip)) (mSeq (mIf (mAnd (mB (mP (p2 (notNO) (p2 ixO (pVar 4) (pC (.int 1))) (pC .non)))) (mB (mP (p2 (lift2 gtD) (p3 getO (pVar 1) (p2 ixO (pVar 4) (pC (.int 1))) (pC (.int 8))) (pC (.int 7)))))) (mRet (mP (pTup (pCons (pC (.str "guard")) (pCons (pVar 3) (pNil)))))) (mSkip)) (mSetIt 1 (mP (p2 ixO (pVar 4) (pC (.int 0)))) (mP (p2 (lift2 addD) (pC (.int 1)) (p3 getO (pVar 1) (p2 ixO (pVar 4) (pC (.int 1))) (pC (.int 0)))))))
noncomputable def b2__law_due : M Fl := mSeq (mIf (mOr (mNot (mB (mCall F__law_row_right [.v (mP (pVar 5)), .v (mP (pC (.str "load")))]))) (mOr (mB (mP (p2 (inF) (p2 ixO (pVar 5) (pC (.int 0))) (pVar 2)))) (mB (mP (p2 (ninF) (p2 ixO (pVar 5) (pC (.int 1))) (pVar 1)))))) (mRet (mP (pTup (pCons (pC (.str "load")) (pCons (pVar 3) (pNil)))))) (mSkip)) (mSetIt 2 (mP (p2 ixO (pVar 5) (pC (.int 0)))) (mP (pC (.int 1))))
noncomputable def b__law_due : M Fl := mSeq (mIf (mOr (mNot (mB (mP (p1 (isiO "tuple") (pVar 0))))) (mOr (mB (mP (p2 (neO) (p1 lenO (pVar 0)) (pC (.int 2))))) (mNot (mB (mP (p1 (isiO "tuple") (p2 ixO (pVar 0) (pC (.int 0))))))))) (mRet (mP (pTup (pCons (pC (.str "board")) (pCons (pC (.int 0)) (pNil)))))) (mSkip)) (mSeq (mIf (mOr (mNot (mB (mP (p1 (isiO "tuple") (p2 ixO (pVar 0) (pC (.int 1))))))) (mOr (mNot (mB (mChain (lift2 leD) (lift2 leD) (mP (pC (.int 1))) (mP (p1 lenO (p2 ixO (pVar 0) (pC (.int 0))))) (mP (pC (.int 16)))))) (mB (mP (p2 (lift2 gtD) (p1 lenO (p2 ixO (pVar 0) (pC (.int 1)))) (pC (.int 24))))))) (mRet (mP (pTup (pCons (pC (.str "board")) (pCons (pC (.int 0)) (pNil)))))) (mSkip)) (mSeq (mSetO 1 (mDict0)) (mSeq (mFor (mEnumU (mP (p2 ixO (pVar 0) (pC (.int 0))))) (aTup (aCons (aN 3) (aCons (aN 4) (aNil)))) b1__law_due) (mSeq (mSetO 2 (mDictC (pVar 1))) (mSeq (mFor (mEnumU (mP (p2 ixO (pVar 0) (pC (.int 1))))) (aTup (aCons (aN 3) (aCons (aN 5) (aNil)))) b2__law_due) (mRet (mP (pC .non))))))))
abbrev E__law_due (v_thing v_deep v_seen v_number_here v_guard v_load : Option O := none) : FB.Env := [v_thing, v_deep, v_seen, v_number_here, v_guard, v_load]
noncomputable def F__law_due : FSem := runF 1 6 [] b__law_due
theorem sc__law_due : FnScope ["_law_thing", "_law_deep", "_law_seen", "_law_number_here", "_law_guard", "_law_load"] ["_law_thing"] (C8.fnScope s__law_due) := C8.fnScope_by (by decide +kernel)
noncomputable def u1__law_right : Exn → M Fl := fun x => mSeq (mSetP 4 (mAndV (mIsD es "NoBoard" x) (mAndV (mIsVD es x) (mNotV (mIsTD es ["NoText", "NoPlace", "NoDeed"] x))))) (mSetP 3 (mTup (mCons (mXf ["NoBoard"] "word" x) (mCons (mXf ["NoBoard"] "number" x) (mNil)))))
noncomputable def b1__law_right : M Fl := mSetP 4 (m1 (isB1 true) (mCallX F_looked [.v (mP (pVar 0))]))
noncomputable def b__law_right : M Fl := mSeq (mSetP 1 (mCall F__law_due [.v (mP (pVar 0))])) (mSeq (mSetP 2 (mP (p1 reprA (pVar 0)))) (mSeq (mSetP 3 (mP (pC .non))) (mSeq (mSetP 4 (mP (pC (.bl true)))) (mSeq (nx (mTry es "BoardError" 5 b1__law_right u1__law_right)) (mRet (mAndV (mP (pVar 4)) (mAndV (mP (p2 (eqO) (p1 reprA (pVar 3)) (p1 reprA (pVar 1)))) (mP (p2 (eqO) (p1 reprA (pVar 0)) (pVar 2))))))))))
abbrev E__law_right (v_thing v_due_here v_kept v_found v_own v_e : Option O := none) : FB.Env := [v_thing, v_due_here, v_kept, v_found, v_own, v_e]
noncomputable def F__law_right : FSem := runF 1 6 [] b__law_right
theorem sc__law_right : FnScope ["_law_thing", "_law_due_here", "_law_kept", "_law_found", "_law_own", "e"] ["_law_thing"] (C8.fnScope s__law_right) := C8.fnScope_by (by decide +kernel)
noncomputable def b__law_odd : M Fl := mSeq (mSetP 2 (mLst (mCons (mP (pC .non)) (mCons (mP (pC (.bl true))) (mCons (mP (pC (.bl false))) (mCons (mP (pC (.int 0))) (mCons (mP (pC (.int 1))) (mCons (mP (p1 negO (pC (.int 1)))) (mCons (mP (p2 (lift2 powD) (pC (.int 10)) (pC (.int 60)))) (mCons (mP (p2 (lift2 subD) (p2 (lift2 powD) (pC (.int 10)) (pC (.int 60))) (pC (.int 1)))) (mCons (mP (pC (.str ""))) (mCons (mP (pC (.str "a"))) (mCons (mP (pC (.str "A"))) (mCons (mP (pC (.str "abcdefghi"))) (mCons (mP (pC (.str "b\n"))) (mCons (mP (pTup (pNil))) (mCons (mLst (mNil)) (mCons (mDict0) (mNil))))))))))))))))))) (mSeq (mSetP 2 (mP (p2 (lift2 addD) (pVar 2) (pLst (pCons (pTup (pCons (pTup (pCons (pC (.int 1)) (pCons (pC (.int 1)) (pNil)))) (pNil))) (pCons (pTup (pCons (pTup (pCons (pC (.int 0)) (pCons (pC (.int 1)) (pNil)))) (pNil))) (pCons (pTup (pCons (pTup (pCons (pC (.int 1)) (pCons (pC (.int 0)) (pNil)))) (pNil))) (pCons (pTup (pCons (pTup (pCons (pC (.int 1)) (pCons (pC (.int 0)) (pCons (pC (.int 0)) (pNil))))) (pNil))) (pCons (pLst (pCons (pTup (pCons (pC (.int 1)) (pCons (pC (.int 1)) (pNil)))) (pNil))) (pCons (pTup (pCons (pTup (pCons (pC (.int 1)) (pCons (pC (.int 1)) (pNil)))) (pCons (pTup (pCons (pC (.int 1)) (pCons (pC (.int 1)) (pNil)))) (pNil)))) (pCons (pTup (pCons (pTup (pCons (pC (.int 1)) (pCons (pC (.int 2)) (pNil)))) (pCons (pTup (pCons (pC (.int 2)) (pCons (pC (.int 2)) (pNil)))) (pNil)))) (pNil)))))))))))) (mSeq (mSetP 2 (mP (p2 (lift2 addD) (pVar 2) (pLst (pCons (pTup (pCons (pTup (pCons (pC (.int 2)) (pCons (pC (.int 2)) (pNil)))) (pCons (pTup (pCons (pC (.int 1)) (pCons (pC (.int 1)) (pNil)))) (pNil)))) (pNil)))))) (mSeq (mSetP 2 (mP (p2 (lift2 addD) (pVar 2) (pLst (pCons (pTup (pCons (pTup (pCons (pC (.int 1)) (pCons (pC (.int 9)) (pNil)))) (pCons (pTup (pCons (pC (.int 2)) (pCons (pC (.int 8)) (pNil)))) (pCons (pTup (pCons (pC (.int 3)) (pCons (pC (.int 7)) (pNil)))) (pCons (pTup (pCons (pC (.int 4)) (pCons (pC (.int 6)) (pNil)))) (pCons (pTup (pCons (pC (.int 5)) (pCons (pC (.int 5)) (pNil)))) (pCons (pTup (pCons (pC (.int 6)) (pCons (pC (.int 4)) (pNil)))) (pNil)))))))) (pCons (pTup (pCons (pTup (pCons (pC (.int 1)) (pCons (pC (.bl true)) (pNil)))) (pNil))) (pCons (pTup (pCons (pTup (pCons (pC (.int 1)) (pCons (pC (.int 1)) (pNil)))) (pCons (pC (.int 2)) (pNil)))) (pCons (pTup (pCons (pLst (pCons (pC (.int 1)) (pCons (pC (.int 1)) (pNil)))) (pNil))) (pCons (pVar 1) (pNil)))))))))) (mRet (m2 ixO (mP (pVar 2)) (mCall F__law_take [.io 0, .v (mP (pC (.int 29)))]))))))
abbrev E__law_odd (v_feed_here v_one v_some : Option O := none) : FB.Env := [v_feed_here, v_one, v_some]
noncomputable def F__law_odd : FSem := runF 2 3 [0] b__law_odd
theorem sc__law_odd : FnScope ["_law_feed_here", "_law_one", "_law_some"] ["_law_feed_here", "_law_one"] (C8.fnScope s__law_odd) := C8.fnScope_by (by decide +kernel)
noncomputable def b__law_bent : M Fl := mSeq (mSetP 3 (m2 ixO (mP (pVar 2)) (mCall F__law_take [.io 0, .v (mP (p1 lenO (pVar 2)))]))) (mSeq (mIf (mB (mP (p2 (eqO) (p1 lenO (pVar 1)) (pC (.int 0))))) (mRet (mLst (mCons (mP (pTup (pCons (pVar 3) (pCons (p2 ixO (pVar 2) (pC (.int 0))) (pCons (pTup (pNil)) (pCons (pC (.int 0)) (pCons (pC (.bl true)) (pNil)))))))) (mNil)))) (mSkip)) (mSeq (mSetP 4 (mCall F__law_take [.io 0, .v (mP (p1 lenO (pVar 1)))])) (mSeq (mSetP 5 (mP (p2 ixO (pVar 1) (pVar 4)))) (mSeq (mSetP 6 (mCall F__law_take [.io 0, .v (mP (pC (.int 8)))])) (mSeq (mIf (mOr (mNot (mB (mP (p1 (isiO "tuple") (pVar 5))))) (mB (mP (p2 (neO) (p1 lenO (pVar 5)) (pC (.int 5)))))) (mRet (mP (p2 (lift2 addD) (pSl (pVar 1) pNone (pInt (pVar 4))) (pSl (pVar 1) (pInt (p2 (lift2 addD) (pVar 4) (pC (.int 1)))) pNone)))) (mSkip)) (mSeq (mIf (mB (mP (p2 (lift2 ltD) (pVar 6) (pC (.int 3))))) (mSeq (mSetP 7 (mCall F__law_take [.io 0, .v (mP (pC (.int 5)))])) (mSetP 5 (m2 (lift2 addD) (m2 (lift2 addD) (mP (pSl (pVar 5) pNone (pInt (pVar 7)))) (mTup (mCons (mCall F__law_odd [.io 0, .v (mP (p2 ixO (pVar 5) (pVar 7)))]) (mNil)))) (mP (pSl (pVar 5) (pInt (p2 (lift2 addD) (pVar 7) (pC (.int 1)))) pNone))))) (mSkip)) (mSeq (mIf (mB (mP (p2 (eqO) (pVar 6) (pC (.int 3))))) (mSetP 5 (mP (p2 (lift2 addD) (pTup (pCons (pVar 3) (pNil))) (pSl (pVar 5) (pInt (pC (.int 1))) pNone)))) (mSkip)) (mSeq (mIf (mB (mP (p2 (eqO) (pVar 6) (pC (.int 4))))) (mSetP 5 (mP (p2 (lift2 addD) (p2 (lift2 addD) (pSl (pVar 5) pNone (pInt (pC (.int 1)))) (pTup (pCons (pVar 3) (pNil)))) (pSl (pVar 5) (pInt (pC (.int 2))) pNone)))) (mSkip)) (mSeq (mIf (mB (mP (p2 (eqO) (pVar 6) (pC (.int 5))))) (mSetP 5 (m2 ixO (mLst (mCons (mP (p1 listO (pVar 5))) (mCons (mP (pSl (pVar 5) pNone (pInt (p1 negO (pC (.int 1)))))) (mCons (mP (p2 (lift2 addD) (pVar 5) (pTup (pCons (pC (.int 0)) (pNil))))) (mCons (mP (pVar 3)) (mCons (mP (pTup (pCons (pVar 5) (pNil)))) (mNil))))))) (mCall F__law_take [.io 0, .v (mP (pC (.int 5)))]))) (mSkip)) (mSeq (mIf (mB (mP (p2 (eqO) (pVar 6) (pC (.int 6))))) (mRet (m2 (lift2 addD) (m2 (lift2 addD) (mP (pSl (pVar 1) pNone (pInt (pVar 4)))) (m2 (lift2 mulD) (mLst (mCons (mP (pVar 5)) (mNil))) (m2 (lift2 subD) (m2 ixO (mLst (mCons (mP (pC (.int 16))) (mCons (mP (pC (.int 17))) (mCons (mP (pC (.int 24))) (mCons (mP (pC (.int 25))) (mNil)))))) (mCall F__law_take [.io 0, .v (mP (pC (.int 4)))])) (mP (p1 lenO (pVar 1)))))) (mP (pSl (pVar 1) (pInt (pVar 4)) pNone)))) (mSkip)) (mSeq (mIf (mB (mP (p2 (eqO) (pVar 6) (pC (.int 7))))) (mRet (mP (p2 (lift2 addD) (p2 (lift2 addD) (pSl (pVar 1) pNone (pInt (pVar 4))) (pLst (pCons (pVar 5) (pNil)))) (pSl (pVar 1) (pInt (pVar 4)) pNone)))) (mSkip)) (mRet (mP (p2 (lift2 addD) (p2 (lift2 addD) (pSl (pVar 1) pNone (pInt (pVar 4))) (pLst (pCons (pVar 5) (pNil)))) (pSl (pVar 1) (pInt (p2 (lift2 addD) (pVar 4) (pC (.int 1)))) pNone)))))))))))))))
abbrev E__law_bent (v_feed_here v_rows v_names_here v_name v_at v_row v_way v_spot : Option O := none) : FB.Env := [v_feed_here, v_rows, v_names_here, v_name, v_at, v_row, v_way, v_spot]
noncomputable def F__law_bent : FSem := runF 3 8 [0] b__law_bent
theorem sc__law_bent : FnScope ["_law_feed_here", "_law_rows", "_law_names_here", "_law_name", "_law_at", "_law_row", "_law_way", "_law_spot"] ["_law_feed_here", "_law_rows", "_law_names_here"] (C8.fnScope s__law_bent) := C8.fnScope_by (by decide +kernel)
noncomputable def b__law_topped : M Fl := mSeq (mSetP 3 (mP (p2 (lift2 addD) (p2 (lift2 mulD) (pLst (pCons (pTup (pCons (pVar 1) (pCons (pVar 2) (pNil)))) (pNil))) (pC (.int 18))) (pLst (pCons (pLst (pCons (pVar 1) (pCons (pVar 2) (pNil)))) (pCons (pTup (pCons (pVar 1) (pNil))) (pCons (pTup (pCons (pVar 1) (pCons (pVar 2) (pCons (pTup (pNil)) (pNil))))) (pCons (pTup (pCons (p1 listO (pVar 1)) (pCons (pVar 2) (pNil)))) (pNil))))))))) (mSeq (mSetP 3 (m2 (lift2 addD) (mP (pVar 3)) (mFz (mLst (mCons (mP (pTup (pCons (pVar 1) (pCons (p1 listO (pVar 2)) (pNil))))) (mCons (mP (pTup (pCons (pTup (pNil)) (pCons (pVar 2) (pNil))))) (mCons (mP (pC .non)) (mCons (mP (pC (.str "board"))) (mCons (mP (pTup (pCons (pVar 2) (pCons (pVar 1) (pNil))))) (mCons (mDict0) (mCons (mP (pC (.int 5))) (mCons (mP (pC (.bl true))) (mNil))))))))))))) (mRet (m2 ixO (mP (pVar 3)) (mCall F__law_take [.io 0, .v (mP (pC (.int 30)))]))))
abbrev E__law_topped (v_feed_here v_guards_here v_loads_here v_some : Option O := none) : FB.Env := [v_feed_here, v_guards_here, v_loads_here, v_some]
noncomputable def F__law_topped : FSem := runF 3 4 [0] b__law_topped
theorem sc__law_topped : FnScope ["_law_feed_here", "_law_guards_here", "_law_loads_here", "_law_some"] ["_law_feed_here", "_law_guards_here", "_law_loads_here"] (C8.fnScope s__law_topped) := C8.fnScope_by (by decide +kernel)
noncomputable def q1_law : M O := mComp (mI (mP (p2 ixO (pVar 1) (pC (.int 0))))) (own2 [("_law_guard", 8)]) (aN 8) (mTrue) (mP (p2 ixO (pVar 8) (pC (.int 0))))
noncomputable def q2_law : M O := mComp (mI (mP (p2 ixO (pVar 1) (pC (.int 1))))) (own2 [("_law_load", 9)]) (aN 9) (mTrue) (mP (p2 ixO (pVar 9) (pC (.int 0))))
noncomputable def b1_law : M Fl := mIf (mB (m2 (eqO) (mCall F__law_take [.io 5, .v (mP (pC (.int 2)))]) (mP (pC (.int 0))))) (mSetP 3 (mCall F__law_bent [.io 5, .v (mP (pVar 3)), .v (mP (pVar 2))])) (mSetP 4 (mCall F__law_bent [.io 5, .v (mP (pVar 4)), .v (mP (pVar 2))]))
noncomputable def b_law : M Fl := mSeq (mSetP 1 (mCall F__law_board [.v (mP (pVar 0))])) (mSeq (mSetP 2 (m2 (lift2 addD) (q1_law) (q2_law))) (mSeq (mSetP 3 (mP (p1 listO (p2 ixO (pVar 1) (pC (.int 0)))))) (mSeq (mSetP 4 (mP (p1 listO (p2 ixO (pVar 1) (pC (.int 1)))))) (mSeq (mSetO 5 (mCall F__law_feed [.v (mP (pVar 0)), .v (mP (pC (.int 42)))])) (mSeq (mFor (mR1 (m2 (lift2 addD) (mP (pC (.int 1))) (mCall F__law_take [.io 5, .v (mP (pC (.int 2)))]))) (aN 6) b1_law) (mSeq (mSetP 7 (mCall F__law_topped [.io 5, .v (mP (p1 tupO (pVar 3))), .v (mP (p1 tupO (pVar 4)))])) (mRet (mAndV (mCall F__law_right [.v (mP (pVar 7))]) (mCall F__law_right [.v (mP (pVar 7))])))))))))
abbrev E_law (v_script v_board_here v_names_here v_guards_here v_loads_here v_feed_here v_k v_thing v_guard v_load : Option O := none) : FB.Env := [v_script, v_board_here, v_names_here, v_guards_here, v_loads_here, v_feed_here, v_k, v_thing, v_guard, v_load]
noncomputable def F_law : FSem := runF 1 10 [] b_law
theorem sc_law : FnScope ["_law_script", "_law_board_here", "_law_names_here", "_law_guards_here", "_law_loads_here", "_law_feed_here", "_law_k", "_law_thing", "_law_guard", "_law_load"] ["_law_script"] (C8.fnScope s_law) := C8.fnScope_by (by decide +kernel)
theorem sc_NoBoard___init__ : FnScope ["self", "word", "number"] ["self", "word", "number"] (C8.fnScope s_NoBoard___init__) := C8.fnScope_by (by decide +kernel)
section
variable {P : Program} {w : World} {K : PySem.W.Frag} {mg : Str → Option Value} {base : Heap}
theorem x_NoBoard {fd : FuncData} (ow : OwnInit K mg "NoBoard" ["word", "number"]) (bs : BaseC K mg "BoardError") (F : C8.Fun K "__init__" "NoBoard.__init__" s_NoBoard___init__ (He.ma K (He.ga K "NoBoard") "__init__") fd) (bi : Binds K fd ["self", "word", "number"] []) : MkX P w K mg base "NoBoard" ["word", "number"] :=
  mkX_of ow F bi sc_NoBoard___init__ rfl fun cdv A outer s H vs Q E h =>
    init2 (X := (cxOf C8.CX0 P w K mg base ["self", "word", "number"] "NoBoard.__init__" (C8.fnScope s_NoBoard___init__) (He.ma K (He.ga K "NoBoard") "__init__") cdv A outer s H E).nox) (ps_expr (pe_beinit bs rfl (pa_cons (pe_var (i := 0) rfl (Or.inl rfl)) (pa_cons pe_str pa_nil)))) (fun _ _ _ q => q _) (ps_ost (pe_var (i := 0) rfl (Or.inl rfl)) (pe_var (i := 1) rfl (Or.inl rfl))) (ps_ost (pe_var (i := 0) rfl (Or.inl rfl)) (pe_var (i := 2) rfl (Or.inl rfl))) ow.ox (ow.no "word" (by simp)) (ow.no "number" (by simp)) h
theorem c__law_cell_at {f : Addr} {fd : FuncData} (F : C8.Def K mg "_law_cell_at" s__law_cell_at f fd) (bi : Binds K fd ["_law_script", "_law_k"] []) (Z : Fr K mg)   : C8.Cal P w K mg base 1 "_law_cell_at" (spF K mg 2 F__law_cell_at) [] :=
  cal_sem F bi sc__law_cell_at rfl rfl (by decide) fun cdv A outer s H E hr => by
    have ok := bodyOk (P := P) (w := w) (K := K) (mg := mg) (base := base) (qual := "_law_cell_at") (cdv := cdv) (A := A) (outer := outer) (s := s) (H := H) (E := E) sc__law_cell_at hr
    exact (sss_cons (ss_if (set_cmpP op_lt opv_lt (sp_var 1) (sp_b1 call_lenF unv_len rfl Z.n_len (by rfl) (sp_var 0)) rfl) (sss_one (ss_ret (se_p (sp_ix ix_seq opv_ix (sp_var 0) (sp_var 1))))) sss_nil) (sss_one (ss_ret (se_p sp_int))))
theorem c__law_feed {f : Addr} {fd : FuncData} (F : C8.Def K mg "_law_feed" s__law_feed f fd) (bi : Binds K fd ["_law_script", "_law_k"] []) (Z : Fr K mg)  (c__law_cell_at : C8.Cal P w K mg base 1 "_law_cell_at" (spF K mg 2 F__law_cell_at) []) : C8.Cal P w K mg base 2 "_law_feed" (spF K mg 2 F__law_feed) [] :=
  cal_sem F bi sc__law_feed rfl rfl (by decide) fun cdv A outer s H E hr => by
    have ok := bodyOk (P := P) (w := w) (K := K) (mg := mg) (base := base) (qual := "_law_feed") (cdv := cdv) (A := A) (outer := outer) (s := s) (H := H) (E := E) sc__law_feed hr
    exact (sss_cons (ss_setP 2 ok rfl (by first | exact Or.inl rfl | exact Or.inr rfl) (se_call c__law_cell_at hr (by decide) rfl (sas_v (se_p (sp_var 0)) (sas_v (se_p (sp_var 1)) sas_nil)))) (sss_one (ss_ret (se_lst (ses_cons (se_p (sp_var 2)) (ses_cons (se_p (sp_var 2)) (ses_cons (se_p (sp_bin op_mulF opv_mul sp_int (sp_var 1))) ses_nil)))))))
theorem c__law_take {f : Addr} {fd : FuncData} (F : C8.Def K mg "_law_take" s__law_take f fd) (bi : Binds K fd ["_law_feed_here", "_law_many"] []) (Z : Fr K mg)   : C8.Cal P w K mg base 1 "_law_take" (spF K mg 2 F__law_take) [] :=
  cal_sem F bi sc__law_take rfl rfl (by decide) fun cdv A outer s H E hr => by
    have ok := bodyOk (P := P) (w := w) (K := K) (mg := mg) (base := base) (qual := "_law_take") (cdv := cdv) (A := A) (outer := outer) (s := s) (H := H) (E := E) sc__law_take hr
    exact (sss_cons (ss_setIt 0 ok (se_p sp_int) (se_p (sp_bin op_addF opv_add (sp_ix ix_seq opv_ix (sp_var 0) sp_int) sp_int))) (sss_cons (ss_if (sew_t (sew_and (set_cmpP op_ge opv_ge (sp_ix ix_seq opv_ix (sp_var 0) sp_int) (sp_bin op_pow opv_pow sp_int sp_int) rfl) (sew_and1 (set_cmpP op_gt opv_gt (sp_ix ix_seq opv_ix (sp_var 0) sp_int) sp_int rfl)))) (sss_cons (ss_setP 3 ok rfl (by first | exact Or.inl rfl | exact Or.inr rfl) (se_p (sp_bin op_mod opv_mod (sp_ix ix_seq opv_ix (sp_var 0) sp_int) (sp_var 1)))) (sss_cons (ss_setIt 0 ok (se_p sp_int) (se_p (sp_bin op_fdivW opv_fdiv (sp_ix ix_seq opv_ix (sp_var 0) sp_int) (sp_var 1)))) (sss_one (ss_ret (se_p (sp_var 3)))))) sss_nil) (sss_cons (ss_setP 2 ok rfl (by first | exact Or.inl rfl | exact Or.inr rfl) (se_p (sp_bin op_addF opv_add (sp_bin op_mulF opv_mul (sp_bin op_mod opv_mod (sp_ix ix_seq opv_ix (sp_var 0) sp_int) sp_int) sp_int) (sp_bin op_mulF opv_mul sp_int (sp_ix ix_seq opv_ix (sp_var 0) sp_int))))) (sss_cons (ss_setP 2 ok rfl (by first | exact Or.inl rfl | exact Or.inr rfl) (se_p (sp_bin op_mod opv_mod (sp_bin op_addF opv_add (sp_bin op_addF opv_add (sp_var 2) (sp_bin op_mulF opv_mul (sp_bin op_mulF opv_mul (sp_ix ix_seq opv_ix (sp_var 0) sp_int) (sp_ix ix_seq opv_ix (sp_var 0) sp_int)) sp_int)) sp_int) sp_int))) (sss_one (ss_ret (se_p (sp_bin op_mod opv_mod (sp_bin op_fdivW opv_fdiv (sp_bin op_mod opv_mod (sp_bin op_mulF opv_mul (sp_var 2) (sp_bin op_addF opv_add (sp_bin op_mod opv_mod (sp_var 2) sp_int) sp_int)) sp_int) sp_int) (sp_var 1)))))))))
theorem c__law_names {f : Addr} {fd : FuncData} (F : C8.Def K mg "_law_names" s__law_names f fd) (bi : Binds K fd ["_law_feed_here", "_law_many"] []) (Z : Fr K mg)  (c__law_take : C8.Cal P w K mg base 1 "_law_take" (spF K mg 2 F__law_take) []) : C8.Cal P w K mg base 2 "_law_names" (spF K mg 2 F__law_names) [] :=
  cal_sem F bi sc__law_names rfl rfl (by decide) fun cdv A outer s H E hr => by
    have ok := bodyOk (P := P) (w := w) (K := K) (mg := mg) (base := base) (qual := "_law_names") (cdv := cdv) (A := A) (outer := outer) (s := s) (H := H) (E := E) sc__law_names hr
    exact (sss_cons (ss_setP 2 ok rfl (by first | exact Or.inl rfl | exact Or.inr rfl) (se_p sp_str)) (sss_cons (ss_setP 3 ok rfl (by first | exact Or.inl rfl | exact Or.inr rfl) (se_call c__law_take hr (by decide) rfl (sas_io 0 (sas_v (se_p sp_int) sas_nil)))) (sss_cons (ss_if (set_cmp (op_eqD ok.u64) opv_eq (se_call c__law_take hr (by decide) rfl (sas_io 0 (sas_v (se_p sp_int) sas_nil))) (se_p sp_int) rfl) (sss_one (ss_setLcO 5 ok rfl rfl (sw_true rfl rfl rfl rfl) (si_range1 rfl Z.n_range (se_p (sp_var 1))) (blkOk_by (by first | rfl | decide +kernel)) (own := [("_law_k", 11)]) (fun _ _ _ _ _ => (sg_n 11 ok.blk rfl (by first | exact Or.inl rfl | exact Or.inr rfl) wipSet)) (fun _ _ _ _ _ => sets_nil) (fun _ _ _ _ _ => (se_p (sp_bin op_mulF opv_mul (sp_ix ix_seq opv_ix (sp_var 2) (sp_bin op_mod opv_mod (sp_bin op_addF opv_add (sp_var 3) (sp_var 11)) sp_int)) (sp_bin op_addF opv_add sp_int (sp_bin op_fdivW opv_fdiv (sp_var 11) sp_int))))))) (sss_cons (ss_setP 6 ok rfl (by first | exact Or.inl rfl | exact Or.inr rfl) (se_bin op_addF opv_add (se_p sp_int) (se_call c__law_take hr (by decide) rfl (sas_io 0 (sas_v (se_p sp_int) sas_nil))))) (sss_cons (ss_setLcP 7 ok rfl rfl (sw_true rfl rfl rfl rfl) (si_range1 rfl Z.n_range (se_p (sp_var 6))) (blkOk_by (by first | rfl | decide +kernel)) (own := [("_law_k", 11)]) (fun _ _ _ _ _ => (sg_n 11 ok.blk rfl (by first | exact Or.inl rfl | exact Or.inr rfl) wipSet)) (fun _ _ _ _ _ => sets_nil) (fun _ _ _ _ _ => (se_call c__law_take hr (by decide) rfl (sas_io 0 (sas_v (se_p sp_int) sas_nil))))) (sss_cons (ss_setP 8 ok rfl (by first | exact Or.inl rfl | exact Or.inr rfl) (se_call c__law_take hr (by decide) rfl (sas_io 0 (sas_v (se_p (sp_var 6)) sas_nil)))) (sss_cons (ss_setP 9 ok rfl (by first | exact Or.inl rfl | exact Or.inr rfl) (se_bin op_mod opv_mod (se_bin op_addF opv_add (se_p (sp_bin op_addF opv_add (sp_var 8) sp_int)) (se_call c__law_take hr (by decide) rfl (sas_io 0 (sas_v (se_p (sp_bin op_sub opv_sub (sp_var 6) sp_int)) sas_nil)))) (se_p (sp_var 6)))) (sss_cons (ss_setP 10 ok rfl (by first | exact Or.inl rfl | exact Or.inr rfl) (se_bin op_mulF opv_mul (se_call c__law_take hr (by decide) rfl (sas_io 0 (sas_v (se_p sp_int) sas_nil))) (se_p (sp_t1 call_int1 unv_int rfl Z.n_int (by rfl) (sp_cmp op_lt opv_lt (sp_var 6) sp_int rfl))))) (sss_cons (ss_setO 5 ok rfl (by first | exact Or.inl rfl | exact Or.inr rfl) (se_lst ses_nil)) (sss_one (ss_for ok .never (si_range1 rfl Z.n_range (se_p (sp_var 1))) (sg_n 11 ok rfl (by first | exact Or.inl rfl | exact Or.inr rfl) fixSet) (sss_cons (ss_setO 12 ok rfl (by first | exact Or.inl rfl | exact Or.inr rfl) (se_tw call_list_of unw_list rfl Z.n_list (by rfl) (sp_var 7))) (sss_cons (ss_setIt 12 ok (se_p (sp_var 8)) (se_p (sp_bin op_mod opv_mod (sp_bin op_addF opv_add (sp_ix ix_seq opv_ix (sp_var 7) (sp_var 8)) (sp_var 11)) sp_int))) (sss_cons (ss_setIt 12 ok (se_p (sp_var 9)) (se_p (sp_bin op_mod opv_mod (sp_bin op_addF opv_add (sp_ix ix_seq opv_ix (sp_var 7) (sp_var 9)) (sp_bin op_fdivW opv_fdiv (sp_var 11) sp_int)) sp_int))) (sss_one (ss_expr (se_append 5 (se_bin op_addF opv_add (se_join (se_compG ok (si_lstN 12) (blkOk_by (by first | rfl | decide +kernel)) (own := [("_law_one", 13)]) (fun _ _ _ _ _ => (sg_n 13 ok.blk rfl (by first | exact Or.inl rfl | exact Or.inr rfl) wipSet)) (fun _ _ _ _ _ => sets_nil) (fun _ _ _ _ _ => (se_p (sp_ix ix_seq opv_ix (sp_var 2) (sp_var 13)))))) (se_p (sp_bin op_mulF opv_mul (sp_ix ix_seq opv_ix (sp_var 2) (sp_var 3)) (sp_bin op_mulF opv_mul (sp_var 10) (sp_bin op_mod opv_mod (sp_var 11) sp_int)))))))))))))))))))) (sss_cons (ss_setP 4 ok rfl (by first | exact Or.inl rfl | exact Or.inr rfl) (se_ix ix_seq opv_ix (se_lst (ses_cons (se_p sp_str) (ses_cons (se_p sp_str) (ses_cons (se_p sp_str) (ses_cons (se_p sp_str) (ses_cons (se_p sp_str) (ses_cons (se_p sp_str) (ses_cons (se_p sp_str) (ses_cons (se_p sp_str) (ses_cons (se_p sp_str) (ses_cons (se_p sp_str) (ses_cons (se_p sp_str) ses_nil)))))))))))) (se_call c__law_take hr (by decide) rfl (sas_io 0 (sas_v (se_p sp_int) sas_nil))))) (sss_cons (ss_if (sew_t (sew_and (set_cmpP (op_neD ok.u64) opv_ne (sp_var 4) sp_str rfl) (sew_and1 (set_cmpP (op_ninF ok) opv_nin (sp_var 4) (sp_var 5) rfl)))) (sss_one (ss_setIt 5 ok (se_call c__law_take hr (by decide) rfl (sas_io 0 (sas_v (se_p (sp_var 1)) sas_nil))) (se_p (sp_var 4)))) sss_nil) (sss_one (ss_ret (se_move 5))))))))
theorem c__law_begin {f : Addr} {fd : FuncData} (F : C8.Def K mg "_law_begin" s__law_begin f fd) (bi : Binds K fd ["_law_feed_here"] []) (Z : Fr K mg)  (c__law_take : C8.Cal P w K mg base 1 "_law_take" (spF K mg 2 F__law_take) []) : C8.Cal P w K mg base 2 "_law_begin" (spF K mg 1 F__law_begin) [] :=
  cal_sem F bi sc__law_begin rfl rfl (by decide) fun cdv A outer s H E hr => by
    have ok := bodyOk (P := P) (w := w) (K := K) (mg := mg) (base := base) (qual := "_law_begin") (cdv := cdv) (A := A) (outer := outer) (s := s) (H := H) (E := E) sc__law_begin hr
    exact (sss_cons (ss_setP 1 ok rfl (by first | exact Or.inl rfl | exact Or.inr rfl) (se_call c__law_take hr (by decide) rfl (sas_io 0 (sas_v (se_p sp_int) sas_nil)))) (sss_cons (ss_if (set_cmpP op_lt opv_lt (sp_var 1) sp_int rfl) (sss_one (ss_ret (se_bin op_addF opv_add (se_p sp_int) (se_bin op_mulF opv_mul (se_p (sp_var 1)) (se_call c__law_take hr (by decide) rfl (sas_io 0 (sas_v (se_p sp_int) sas_nil))))))) sss_nil) (sss_cons (ss_if (set_cmpP (op_eqD ok.u64) opv_eq (sp_var 1) sp_int rfl) (sss_one (ss_ret (se_bin op_addF opv_add (se_p sp_int) (se_call c__law_take hr (by decide) rfl (sas_io 0 (sas_v (se_p (sp_bin op_pow opv_pow sp_int sp_int)) sas_nil)))))) sss_nil) (sss_one (ss_ret (se_bin op_addF opv_add (se_bin op_mulF opv_mul (se_bin op_addF opv_add (se_p sp_int) (se_call c__law_take hr (by decide) rfl (sas_io 0 (sas_v (se_p (sp_bin op_pow opv_pow sp_int sp_int)) sas_nil)))) (se_p (sp_bin op_pow opv_pow sp_int sp_int))) (se_call c__law_take hr (by decide) rfl (sas_io 0 (sas_v (se_p (sp_bin op_pow opv_pow sp_int sp_int)) sas_nil)))))))))
theorem c__law_number {f : Addr} {fd : FuncData} (F : C8.Def K mg "_law_number" s__law_number f fd) (bi : Binds K fd ["_law_feed_here"] []) (Z : Fr K mg)  (c__law_take : C8.Cal P w K mg base 1 "_law_take" (spF K mg 2 F__law_take) []) (c__law_begin : C8.Cal P w K mg base 2 "_law_begin" (spF K mg 1 F__law_begin) []) : C8.Cal P w K mg base 3 "_law_number" (spF K mg 1 F__law_number) [] :=
  cal_sem F bi sc__law_number rfl rfl (by decide) fun cdv A outer s H E hr => by
    have ok := bodyOk (P := P) (w := w) (K := K) (mg := mg) (base := base) (qual := "_law_number") (cdv := cdv) (A := A) (outer := outer) (s := s) (H := H) (E := E) sc__law_number hr
    exact (sss_cons (ss_setP 1 ok rfl (by first | exact Or.inl rfl | exact Or.inr rfl) (se_call c__law_take hr (by decide) rfl (sas_io 0 (sas_v (se_p sp_int) sas_nil)))) (sss_cons (ss_if (set_cmpP op_lt opv_lt (sp_var 1) sp_int rfl) (sss_one (ss_ret (se_call c__law_take hr (by decide) rfl (sas_io 0 (sas_v (se_p sp_int) sas_nil))))) sss_nil) (sss_cons (ss_if (set_cmpP op_lt opv_lt (sp_var 1) sp_int rfl) (sss_one (ss_ret (se_call c__law_begin hr (by decide) rfl (sas_io 0 sas_nil)))) sss_nil) (sss_one (ss_ret (se_bin op_sub opv_sub (se_p (sp_bin op_sub opv_sub (sp_bin op_pow opv_pow sp_int sp_int) sp_int)) (se_call c__law_take hr (by decide) rfl (sas_io 0 (sas_v (se_p sp_int) sas_nil)))))))))
theorem c__law_steps {f : Addr} {fd : FuncData} (F : C8.Def K mg "_law_steps" s__law_steps f fd) (bi : Binds K fd ["_law_feed_here"] []) (Z : Fr K mg)  (c__law_take : C8.Cal P w K mg base 1 "_law_take" (spF K mg 2 F__law_take) []) (c__law_begin : C8.Cal P w K mg base 2 "_law_begin" (spF K mg 1 F__law_begin) []) : C8.Cal P w K mg base 3 "_law_steps" (spF K mg 1 F__law_steps) [] :=
  cal_sem F bi sc__law_steps rfl rfl (by decide) fun cdv A outer s H E hr => by
    have ok := bodyOk (P := P) (w := w) (K := K) (mg := mg) (base := base) (qual := "_law_steps") (cdv := cdv) (A := A) (outer := outer) (s := s) (H := H) (E := E) sc__law_steps hr
    exact (sss_cons (ss_setP 1 ok rfl (by first | exact Or.inl rfl | exact Or.inr rfl) (se_bin op_addF opv_add (se_p sp_int) (se_call c__law_take hr (by decide) rfl (sas_io 0 (sas_v (se_p sp_int) sas_nil))))) (sss_cons (ss_setO 2 ok rfl (by first | exact Or.inl rfl | exact Or.inr rfl) (se_lst (ses_cons (se_call c__law_begin hr (by decide) rfl (sas_io 0 sas_nil)) ses_nil))) (sss_cons (ss_setO 3 ok rfl (by first | exact Or.inl rfl | exact Or.inr rfl) (se_lst (ses_cons (se_call c__law_begin hr (by decide) rfl (sas_io 0 sas_nil)) ses_nil))) (sss_cons (ss_for ok .never (si_range1 rfl Z.n_range (se_p (sp_bin op_sub opv_sub (sp_var 1) sp_int))) (sg_n 4 ok rfl (by first | exact Or.inl rfl | exact Or.inr rfl) fixSet) (sss_cons (ss_expr (se_append 2 (se_bin op_addF opv_add (se_p (sp_ix ix_seq opv_ix (sp_var 2) (sp_un un_neg unv_neg sp_int))) (se_call c__law_begin hr (by decide) rfl (sas_io 0 sas_nil))))) (sss_one (ss_expr (se_append 3 (se_bin op_addF opv_add (se_p (sp_ix ix_seq opv_ix (sp_var 3) (sp_un un_neg unv_neg sp_int))) (se_call c__law_begin hr (by decide) rfl (sas_io 0 sas_nil)))))))) (sss_cons (ss_if (set_cmp (op_eqD ok.u64) opv_eq (se_call c__law_take hr (by decide) rfl (sas_io 0 (sas_v (se_p sp_int) sas_nil))) (se_p sp_int) rfl) (sss_one (ss_setO 2 ok rfl (by first | exact Or.inl rfl | exact Or.inr rfl) (se_comp ok (si_val (se_frz 2)) (blkOk_by (by first | rfl | decide +kernel)) (own := [("_law_one", 5)]) (fun _ _ _ _ _ => (sg_n 5 ok.blk rfl (by first | exact Or.inl rfl | exact Or.inr rfl) wipSet)) (fun _ _ _ _ _ => sets_nil) (fun _ _ _ _ _ => (se_p (sp_bin op_addF opv_add (sp_bin op_sub opv_sub (sp_bin op_sub opv_sub (sp_bin op_pow opv_pow sp_int sp_int) sp_int) (sp_ix ix_seq opv_ix (sp_var 2) (sp_un un_neg unv_neg sp_int))) (sp_var 5))))))) sss_nil) (sss_cons (ss_if (set_cmp (op_eqD ok.u64) opv_eq (se_call c__law_take hr (by decide) rfl (sas_io 0 (sas_v (se_p sp_int) sas_nil))) (se_p sp_int) rfl) (sss_one (ss_setO 3 ok rfl (by first | exact Or.inl rfl | exact Or.inr rfl) (se_comp ok (si_val (se_frz 3)) (blkOk_by (by first | rfl | decide +kernel)) (own := [("_law_one", 5)]) (fun _ _ _ _ _ => (sg_n 5 ok.blk rfl (by first | exact Or.inl rfl | exact Or.inr rfl) wipSet)) (fun _ _ _ _ _ => sets_nil) (fun _ _ _ _ _ => (se_p (sp_bin op_addF opv_add (sp_bin op_sub opv_sub (sp_bin op_sub opv_sub (sp_bin op_pow opv_pow sp_int sp_int) sp_int) (sp_ix ix_seq opv_ix (sp_var 3) (sp_un un_neg unv_neg sp_int))) (sp_var 5))))))) sss_nil) (sss_one (ss_ret (se_t1 call_tuple_of unv_tup rfl Z.n_tuple (by rfl) (se_comp ok (si_range1 rfl Z.n_range (se_p (sp_var 1))) (blkOk_by (by first | rfl | decide +kernel)) (own := [("_law_k", 4)]) (fun _ _ _ _ _ => (sg_n 4 ok.blk rfl (by first | exact Or.inl rfl | exact Or.inr rfl) wipSet)) (fun _ _ _ _ _ => sets_nil) (fun _ _ _ _ _ => (se_p (sp_tup (sps_cons (sp_ix ix_seq opv_ix (sp_var 2) (sp_var 4)) (sps_cons (sp_ix ix_seq opv_ix (sp_var 3) (sp_bin op_sub opv_sub (sp_bin op_sub opv_sub (sp_var 1) sp_int) (sp_var 4))) sps_nil)))))))))))))))
theorem c__law_guards {f : Addr} {fd : FuncData} (F : C8.Def K mg "_law_guards" s__law_guards f fd) (bi : Binds K fd ["_law_script", "_law_names_here", "_law_many"] []) (Z : Fr K mg)  (c__law_feed : C8.Cal P w K mg base 2 "_law_feed" (spF K mg 2 F__law_feed) []) (c__law_take : C8.Cal P w K mg base 1 "_law_take" (spF K mg 2 F__law_take) []) (c__law_number : C8.Cal P w K mg base 3 "_law_number" (spF K mg 1 F__law_number) []) (c__law_steps : C8.Cal P w K mg base 3 "_law_steps" (spF K mg 1 F__law_steps) []) : C8.Cal P w K mg base 4 "_law_guards" (spF K mg 3 F__law_guards) [] :=
  cal_sem F bi sc__law_guards rfl rfl (by decide) fun cdv A outer s H E hr => by
    have ok := bodyOk (P := P) (w := w) (K := K) (mg := mg) (base := base) (qual := "_law_guards") (cdv := cdv) (A := A) (outer := outer) (s := s) (H := H) (E := E) sc__law_guards hr
    exact (sss_cons (ss_setO 3 ok rfl (by first | exact Or.inl rfl | exact Or.inr rfl) (se_lst ses_nil)) (sss_cons (ss_setO 4 ok rfl (by first | exact Or.inl rfl | exact Or.inr rfl) se_dict0) (sss_cons (ss_for ok .never (si_range1 rfl Z.n_range (se_p (sp_var 2))) (sg_n 5 ok rfl (by first | exact Or.inl rfl | exact Or.inr rfl) fixSet) (sss_cons (ss_setO 6 ok rfl (by first | exact Or.inl rfl | exact Or.inr rfl) (se_call c__law_feed hr (by decide) rfl (sas_v (se_p (sp_var 0)) (sas_v (se_p (sp_bin op_addF opv_add sp_int (sp_var 5))) sas_nil)))) (sss_cons (ss_setLcGP 7 ok rfl rfl (sw_true rfl rfl rfl rfl) (si_lstN 3) (blkOk_by (by first | rfl | decide +kernel)) (own := [("_law_guard", 10)]) (fun _ _ _ _ _ => (sg_n 10 ok.blk rfl (by first | exact Or.inl rfl | exact Or.inr rfl) wipSet)) (fun _ _ _ _ _ => (sets_one (set_cmpP op_lt opv_lt (sp_ix (ix_F ok.blk) opv_ixF (sp_var 4) (sp_ix ix_seq opv_ix (sp_var 10) sp_int)) sp_int rfl))) (fun _ _ _ _ _ => (se_p (sp_ix ix_seq opv_ix (sp_var 10) sp_int)))) (sss_cons (ss_setP 8 ok rfl (by first | exact Or.inl rfl | exact Or.inr rfl) (se_call c__law_take hr (by decide) rfl (sas_io 6 (sas_v (se_p sp_int) sas_nil)))) (sss_cons (ss_setP 9 ok rfl (by first | exact Or.inl rfl | exact Or.inr rfl) (se_p sp_non)) (sss_cons (ss_if (sew_t (sew_and (set_cmpP op_gt opv_gt (sp_var 8) sp_int rfl) (sew_and1 (set_cmpP op_gt opv_gt (sp_b1 call_lenF unv_len rfl Z.n_len (by rfl) (sp_var 7)) sp_int rfl)))) (sss_one (ss_setP 9 ok rfl (by first | exact Or.inl rfl | exact Or.inr rfl) (se_ix ix_seq opv_ix (se_lst (ses_cons (se_p (sp_ix ix_seq opv_ix (sp_var 7) (sp_un un_neg unv_neg sp_int))) (ses_cons (se_p (sp_ix ix_seq opv_ix (sp_var 7) (sp_un un_neg unv_neg sp_int))) (ses_cons (se_ix ix_seq opv_ix (se_p (sp_var 7)) (se_call c__law_take hr (by decide) rfl (sas_io 6 (sas_v (se_p (sp_b1 call_lenF unv_len rfl Z.n_len (by rfl) (sp_var 7))) sas_nil)))) ses_nil)))) (se_p (sp_bin op_sub opv_sub (sp_var 8) sp_int))))) sss_nil) (sss_cons (ss_setIt 4 ok (se_p (sp_ix ix_seq opv_ix (sp_var 1) (sp_var 5))) (se_p (sp_bin op_addF opv_add sp_int (sp_get ok (sp_var 4) (sp_var 9) sp_int)))) (sss_one (ss_expr (se_append 3 (se_tup (ses_cons (se_p (sp_ix ix_seq opv_ix (sp_var 1) (sp_var 5))) (ses_cons (se_p (sp_var 9)) (ses_cons (se_call c__law_steps hr (by decide) rfl (sas_io 6 sas_nil)) (ses_cons (se_call c__law_number hr (by decide) rfl (sas_io 6 sas_nil)) (ses_cons (se_call c__law_number hr (by decide) rfl (sas_io 6 sas_nil)) ses_nil)))))))))))))))) (sss_one (ss_ret (se_move 3))))))
theorem c__law_loads {f : Addr} {fd : FuncData} (F : C8.Def K mg "_law_loads" s__law_loads f fd) (bi : Binds K fd ["_law_script", "_law_names_here", "_law_guards_here"] []) (Z : Fr K mg)  (c__law_feed : C8.Cal P w K mg base 2 "_law_feed" (spF K mg 2 F__law_feed) []) (c__law_take : C8.Cal P w K mg base 1 "_law_take" (spF K mg 2 F__law_take) []) (c__law_begin : C8.Cal P w K mg base 2 "_law_begin" (spF K mg 1 F__law_begin) []) (c__law_number : C8.Cal P w K mg base 3 "_law_number" (spF K mg 1 F__law_number) []) : C8.Cal P w K mg base 4 "_law_loads" (spF K mg 3 F__law_loads) [] :=
  cal_sem F bi sc__law_loads rfl rfl (by decide) fun cdv A outer s H E hr => by
    have ok := bodyOk (P := P) (w := w) (K := K) (mg := mg) (base := base) (qual := "_law_loads") (cdv := cdv) (A := A) (outer := outer) (s := s) (H := H) (E := E) sc__law_loads hr
    exact (sss_cons (ss_setO 3 ok rfl (by first | exact Or.inl rfl | exact Or.inr rfl) (se_lst ses_nil)) (sss_cons (ss_for ok .never (si_range1 rfl Z.n_range (se_p (sp_b1 call_lenF unv_len rfl Z.n_len (by rfl) (sp_var 1)))) (sg_n 4 ok rfl (by first | exact Or.inl rfl | exact Or.inr rfl) fixSet) (sss_cons (ss_setO 5 ok rfl (by first | exact Or.inl rfl | exact Or.inr rfl) (se_call c__law_feed hr (by decide) rfl (sas_v (se_p (sp_var 0)) (sas_v (se_p (sp_bin op_addF opv_add sp_int (sp_var 4))) sas_nil)))) (sss_cons (ss_setP 6 ok rfl (by first | exact Or.inl rfl | exact Or.inr rfl) (se_ix ix_seq opv_ix (se_ix ix_seq opv_ix (se_p (sp_var 2)) (se_call c__law_take hr (by decide) rfl (sas_io 5 (sas_v (se_p (sp_b1 call_lenF unv_len rfl Z.n_len (by rfl) (sp_var 2))) sas_nil)))) (se_p sp_int))) (sss_cons (ss_setP 7 ok rfl (by first | exact Or.inl rfl | exact Or.inr rfl) (se_t1 call_tuple_of unv_tup rfl Z.n_tuple (by rfl) (se_comp ok (si_range1 rfl Z.n_range (se_call c__law_take hr (by decide) rfl (sas_io 5 (sas_v (se_p sp_int) sas_nil)))) (blkOk_by (by first | rfl | decide +kernel)) (own := [("_law_j", 8)]) (fun _ _ _ _ _ => (sg_n 8 ok.blk rfl (by first | exact Or.inl rfl | exact Or.inr rfl) wipSet)) (fun _ _ _ _ _ => sets_nil) (fun _ _ _ _ _ => (se_tup (ses_cons (se_call c__law_begin hr (by decide) rfl (sas_io 5 sas_nil)) (ses_cons (se_call c__law_number hr (by decide) rfl (sas_io 5 sas_nil)) ses_nil))))))) (sss_one (ss_expr (se_append 3 (se_tup (ses_cons (se_p (sp_ix ix_seq opv_ix (sp_var 1) (sp_var 4))) (ses_cons (se_p (sp_var 6)) (ses_cons (se_p (sp_var 7)) (ses_cons (se_call c__law_number hr (by decide) rfl (sas_io 5 sas_nil)) (ses_cons (se_cmp (op_eqD ok.u64) opv_eq (se_call c__law_take hr (by decide) rfl (sas_io 5 (sas_v (se_p sp_int) sas_nil))) (se_p sp_int) rfl) ses_nil))))))))))))) (sss_one (ss_ret (se_move 3)))))
theorem c__law_board {f : Addr} {fd : FuncData} (F : C8.Def K mg "_law_board" s__law_board f fd) (bi : Binds K fd ["_law_script"] []) (Z : Fr K mg)  (c__law_feed : C8.Cal P w K mg base 2 "_law_feed" (spF K mg 2 F__law_feed) []) (c__law_take : C8.Cal P w K mg base 1 "_law_take" (spF K mg 2 F__law_take) []) (c__law_names : C8.Cal P w K mg base 2 "_law_names" (spF K mg 2 F__law_names) []) (c__law_guards : C8.Cal P w K mg base 4 "_law_guards" (spF K mg 3 F__law_guards) []) (c__law_loads : C8.Cal P w K mg base 4 "_law_loads" (spF K mg 3 F__law_loads) []) : C8.Cal P w K mg base 5 "_law_board" (spF K mg 1 F__law_board) [] :=
  cal_sem F bi sc__law_board rfl rfl (by decide) fun cdv A outer s H E hr => by
    have ok := bodyOk (P := P) (w := w) (K := K) (mg := mg) (base := base) (qual := "_law_board") (cdv := cdv) (A := A) (outer := outer) (s := s) (H := H) (E := E) sc__law_board hr
    exact (sss_cons (ss_setO 1 ok rfl (by first | exact Or.inl rfl | exact Or.inr rfl) (se_call c__law_feed hr (by decide) rfl (sas_v (se_p (sp_var 0)) (sas_v (se_p sp_int) sas_nil)))) (sss_cons (ss_setP 2 ok rfl (by first | exact Or.inl rfl | exact Or.inr rfl) (se_bin op_addF opv_add (se_p sp_int) (se_call c__law_take hr (by decide) rfl (sas_io 1 (sas_v (se_fz (se_ix ix_seq opv_ix (se_lst (ses_cons (se_p sp_int) (ses_cons (se_p sp_int) ses_nil))) (se_call c__law_take hr (by decide) rfl (sas_io 1 (sas_v (se_p sp_int) sas_nil))))) sas_nil))))) (sss_cons (ss_setP 3 ok rfl (by first | exact Or.inl rfl | exact Or.inr rfl) (se_call c__law_names hr (by decide) rfl (sas_v (se_call c__law_feed hr (by decide) rfl (sas_v (se_p (sp_var 0)) (sas_v (se_p sp_int) sas_nil))) (sas_v (se_fz (se_bin op_addF opv_add (se_p (sp_var 2)) (se_call c__law_take hr (by decide) rfl (sas_io 1 (sas_v (se_fz (se_ix ix_seq opv_ix (se_lst (ses_cons (se_p sp_int) (ses_cons (se_p sp_int) ses_nil))) (se_call c__law_take hr (by decide) rfl (sas_io 1 (sas_v (se_p sp_int) sas_nil))))) sas_nil))))) sas_nil)))) (sss_cons (ss_setP 4 ok rfl (by first | exact Or.inl rfl | exact Or.inr rfl) (se_call c__law_guards hr (by decide) rfl (sas_v (se_p (sp_var 0)) (sas_v (se_p (sp_var 3)) (sas_v (se_p (sp_var 2)) sas_nil))))) (sss_one (ss_ret (se_tup (ses_cons (se_p (sp_t1 call_tuple_of unv_tup rfl Z.n_tuple (by rfl) (sp_var 4))) (ses_cons (se_t1 call_tuple_of unv_tup rfl Z.n_tuple (by rfl) (se_call c__law_loads hr (by decide) rfl (sas_v (se_p (sp_var 0)) (sas_v (se_p (sp_sl (sp_var 3) (spo_some (sp_var 2)) spo_none)) (sas_v (se_p (sp_var 4)) sas_nil))))) ses_nil)))))))))
theorem c_is_whole {f : Addr} {fd : FuncData} (F : C8.Def K mg "is_whole" s_is_whole f fd) (bi : Binds K fd ["thing"] []) (Z : Fr K mg)   : C8.Cal P w K mg base 1 "is_whole" (spF K mg 1 F_is_whole) [] :=
  cal_sem F bi sc_is_whole rfl rfl (by decide) fun cdv A outer s H E hr => by
    have ok := bodyOk (P := P) (w := w) (K := K) (mg := mg) (base := base) (qual := "is_whole") (cdv := cdv) (A := A) (outer := outer) (s := s) (H := H) (E := E) sc_is_whole hr
    exact (sss_one (ss_ret (se_and (se_p (sp_isi "int" rfl Z.n_isinstance rfl Z.n_int (by rfl) (sp_var 0))) (se_one (se_not (se_p (sp_isi "bool" rfl Z.n_isinstance rfl Z.n_bool (by rfl) (sp_var 0))))))))
theorem c_is_number {f : Addr} {fd : FuncData} (F : C8.Def K mg "is_number" s_is_number f fd) (bi : Binds K fd ["thing"] []) (Z : Fr K mg)  (c_is_whole : C8.Cal P w K mg base 1 "is_whole" (spF K mg 1 F_is_whole) []) : C8.Cal P w K mg base 2 "is_number" (spF K mg 1 F_is_number) [] :=
  cal_sem F bi sc_is_number rfl rfl (by decide) fun cdv A outer s H E hr => by
    have ok := bodyOk (P := P) (w := w) (K := K) (mg := mg) (base := base) (qual := "is_number") (cdv := cdv) (A := A) (outer := outer) (s := s) (H := H) (E := E) sc_is_number hr
    exact (sss_one (ss_ret (se_and (se_call c_is_whole hr (by decide) rfl (sas_v (se_p (sp_var 0)) sas_nil)) (se_one (se_chain op_le op_lt opv_le opv_lt (se_p sp_int) (se_p (sp_var 0)) (se_p (sp_gc rfl Z.k_MOST)))))))
theorem c_is_pair {f : Addr} {fd : FuncData} (F : C8.Def K mg "is_pair" s_is_pair f fd) (bi : Binds K fd ["thing"] []) (Z : Fr K mg)  (c_is_number : C8.Cal P w K mg base 2 "is_number" (spF K mg 1 F_is_number) []) : C8.Cal P w K mg base 3 "is_pair" (spF K mg 1 F_is_pair) [] :=
  cal_sem F bi sc_is_pair rfl rfl (by decide) fun cdv A outer s H E hr => by
    have ok := bodyOk (P := P) (w := w) (K := K) (mg := mg) (base := base) (qual := "is_pair") (cdv := cdv) (A := A) (outer := outer) (s := s) (H := H) (E := E) sc_is_pair hr
    exact (sss_one (ss_ret (se_and (se_p (sp_isi "tuple" rfl Z.n_isinstance rfl Z.n_tuple (by rfl) (sp_var 0))) (se_and (se_p (sp_cmp (op_eqD ok.u64) opv_eq (sp_b1 call_lenF unv_len rfl Z.n_len (by rfl) (sp_var 0)) sp_int rfl)) (se_and (se_call c_is_number hr (by decide) rfl (sas_v (se_p (sp_ix ix_seq opv_ix (sp_var 0) sp_int)) sas_nil)) (se_one (se_call c_is_number hr (by decide) rfl (sas_v (se_p (sp_ix ix_seq opv_ix (sp_var 0) sp_int)) sas_nil))))))))
theorem c_is_curve {f : Addr} {fd : FuncData} (F : C8.Def K mg "is_curve" s_is_curve f fd) (bi : Binds K fd ["thing"] []) (Z : Fr K mg)  (c_is_pair : C8.Cal P w K mg base 3 "is_pair" (spF K mg 1 F_is_pair) []) : C8.Cal P w K mg base 4 "is_curve" (spF K mg 1 F_is_curve) [] :=
  cal_sem F bi sc_is_curve rfl rfl (by decide) fun cdv A outer s H E hr => by
    have ok := bodyOk (P := P) (w := w) (K := K) (mg := mg) (base := base) (qual := "is_curve") (cdv := cdv) (A := A) (outer := outer) (s := s) (H := H) (E := E) sc_is_curve hr
    exact (sss_cons (ss_if (sew_t (sew_or (set_not (set_val (se_p (sp_isi "tuple" rfl Z.n_isinstance rfl Z.n_tuple (by rfl) (sp_var 0))))) (sew_or1 (set_not (set_chain op_le op_le opv_le opv_le (se_p sp_int) (se_p (sp_b1 call_lenF unv_len rfl Z.n_len (by rfl) (sp_var 0))) (se_p (sp_gc rfl Z.k_MOST_STEPS))))))) (sss_one (ss_ret (se_p sp_bl))) sss_nil) (sss_cons (ss_for ok .never (si_val (se_p (sp_var 0))) (sg_n 1 ok rfl (by first | exact Or.inl rfl | exact Or.inr rfl) fixSet) (sss_one (ss_if (sew_t (sew_or (set_not (set_val (se_call c_is_pair hr (by decide) rfl (sas_v (se_p (sp_var 1)) sas_nil)))) (sew_or (set_cmpP op_lt opv_lt (sp_ix ix_seq opv_ix (sp_var 1) sp_int) sp_int rfl) (sew_or1 (set_cmpP op_lt opv_lt (sp_ix ix_seq opv_ix (sp_var 1) sp_int) sp_int rfl))))) (sss_one (ss_ret (se_p sp_bl))) sss_nil))) (sss_cons (ss_for ok .never (si_zipM rfl Z.n_zip (se_p (sp_var 0)) (se_p (sp_sl (sp_var 0) (spo_some sp_int) spo_none))) (sg_tup ok (sgs_cons (fixOk _) (sg_n 2 ok rfl (by first | exact Or.inl rfl | exact Or.inr rfl) fixSet) (sgs_cons (fixOk _) (sg_n 1 ok rfl (by first | exact Or.inl rfl | exact Or.inr rfl) fixSet) (sgs_nil (fixOk _)))) (hl := (aCons_len (aCons_len aNil_len)))) (sss_one (ss_if (sew_t (sew_or (set_cmpP op_le opv_le (sp_ix ix_seq opv_ix (sp_var 1) sp_int) (sp_ix ix_seq opv_ix (sp_var 2) sp_int) rfl) (sew_or1 (set_cmpP op_ge opv_ge (sp_ix ix_seq opv_ix (sp_var 1) sp_int) (sp_ix ix_seq opv_ix (sp_var 2) sp_int) rfl)))) (sss_one (ss_ret (se_p sp_bl))) sss_nil))) (sss_one (ss_ret (se_p sp_bl))))))
theorem c_is_name {f : Addr} {fd : FuncData} (F : C8.Def K mg "is_name" s_is_name f fd) (bi : Binds K fd ["thing"] []) (Z : Fr K mg)   : C8.Cal P w K mg base 1 "is_name" (spF K mg 1 F_is_name) [] :=
  cal_sem F bi sc_is_name rfl rfl (by decide) fun cdv A outer s H E hr => by
    have ok := bodyOk (P := P) (w := w) (K := K) (mg := mg) (base := base) (qual := "is_name") (cdv := cdv) (A := A) (outer := outer) (s := s) (H := H) (E := E) sc_is_name hr
    exact (sss_cons (ss_if (sew_t (sew_or (set_not (set_val (se_p (sp_isi "str" rfl Z.n_isinstance rfl Z.n_str (by rfl) (sp_var 0))))) (sew_or1 (set_not (set_chain op_le op_le opv_le opv_le (se_p sp_int) (se_p (sp_b1 call_lenF unv_len rfl Z.n_len (by rfl) (sp_var 0))) (se_p (sp_gc rfl Z.k_MOST_LETTERS))))))) (sss_one (ss_ret (se_p sp_bl))) sss_nil) (sss_one (ss_ret (se_b1 (cr_all ok.calm) unv_all rfl Z.n_all (by rfl) (se_comp ok (si_val (se_p (sp_var 0))) (blkOk_by (by first | rfl | decide +kernel)) (own := [("sign", 1)]) (fun _ _ _ _ _ => (sg_n 1 ok.blk rfl (by first | exact Or.inl rfl | exact Or.inr rfl) wipSet)) (fun _ _ _ _ _ => sets_nil) (fun _ _ _ _ _ => (se_p (sp_cmp (op_inF ok.blk) opv_in (sp_var 1) (sp_gs rfl Z.k_LETTERS) rfl))))))))
theorem c_is_guard {f : Addr} {fd : FuncData} (F : C8.Def K mg "is_guard" s_is_guard f fd) (bi : Binds K fd ["thing"] []) (Z : Fr K mg)  (c_is_number : C8.Cal P w K mg base 2 "is_number" (spF K mg 1 F_is_number) []) (c_is_curve : C8.Cal P w K mg base 4 "is_curve" (spF K mg 1 F_is_curve) []) (c_is_name : C8.Cal P w K mg base 1 "is_name" (spF K mg 1 F_is_name) []) : C8.Cal P w K mg base 5 "is_guard" (spF K mg 1 F_is_guard) [] :=
  cal_sem F bi sc_is_guard rfl rfl (by decide) fun cdv A outer s H E hr => by
    have ok := bodyOk (P := P) (w := w) (K := K) (mg := mg) (base := base) (qual := "is_guard") (cdv := cdv) (A := A) (outer := outer) (s := s) (H := H) (E := E) sc_is_guard hr
    exact (sss_cons (ss_if (sew_t (sew_or (set_not (set_val (se_p (sp_isi "tuple" rfl Z.n_isinstance rfl Z.n_tuple (by rfl) (sp_var 0))))) (sew_or (set_cmpP (op_neD ok.u64) opv_ne (sp_b1 call_lenF unv_len rfl Z.n_len (by rfl) (sp_var 0)) sp_int rfl) (sew_or1 (set_not (set_val (se_call c_is_name hr (by decide) rfl (sas_v (se_p (sp_ix ix_seq opv_ix (sp_var 0) sp_int)) sas_nil)))))))) (sss_one (ss_ret (se_p sp_bl))) sss_nil) (sss_cons (ss_if (sew_t (sew_and (set_cmpP op_notN opv_notN (sp_ix ix_seq opv_ix (sp_var 0) sp_int) sp_non rfl) (sew_and1 (set_not (set_val (se_call c_is_name hr (by decide) rfl (sas_v (se_p (sp_ix ix_seq opv_ix (sp_var 0) sp_int)) sas_nil))))))) (sss_one (ss_ret (se_p sp_bl))) sss_nil) (sss_one (ss_ret (se_and (se_call c_is_curve hr (by decide) rfl (sas_v (se_p (sp_ix ix_seq opv_ix (sp_var 0) sp_int)) sas_nil)) (se_and (se_call c_is_number hr (by decide) rfl (sas_v (se_p (sp_ix ix_seq opv_ix (sp_var 0) sp_int)) sas_nil)) (se_one (se_call c_is_number hr (by decide) rfl (sas_v (se_p (sp_ix ix_seq opv_ix (sp_var 0) sp_int)) sas_nil)))))))))
theorem c_chain {f : Addr} {fd : FuncData} (F : C8.Def K mg "chain" s_chain f fd) (bi : Binds K fd ["guards", "name"] []) (Z : Fr K mg)   : C8.Cal P w K mg base 1 "chain" (spF K mg 2 F_chain) [] :=
  cal_sem F bi sc_chain rfl rfl (by decide) fun cdv A outer s H E hr => by
    have ok := bodyOk (P := P) (w := w) (K := K) (mg := mg) (base := base) (qual := "chain") (cdv := cdv) (A := A) (outer := outer) (s := s) (H := H) (E := E) sc_chain hr
    exact (sss_cons (ss_setP 2 ok rfl (by first | exact Or.inl rfl | exact Or.inr rfl) (se_dictP ok rfl Z.n_dict (by rfl) (se_comp ok (si_val (se_p (sp_var 0))) (blkOk_by (by first | rfl | decide +kernel)) (own := [("guard", 4)]) (fun _ _ _ _ _ => (sg_n 4 ok.blk rfl (by first | exact Or.inl rfl | exact Or.inr rfl) wipSet)) (fun _ _ _ _ _ => sets_nil) (fun _ _ _ _ _ => (se_p (sp_tup (sps_cons (sp_ix ix_seq opv_ix (sp_var 4) sp_int) (sps_cons (sp_ix ix_seq opv_ix (sp_var 4) sp_int) sps_nil)))))))) (sss_cons (ss_setO 3 ok rfl (by first | exact Or.inl rfl | exact Or.inr rfl) (se_lst ses_nil)) (sss_cons (ss_while (fun _ => fuel) .never (set_cmpP op_notN opv_notN (sp_var 1) sp_non rfl) (sss_cons (ss_expr (se_append 3 (se_p (sp_var 1)))) (sss_one (ss_setP 1 ok rfl (by first | exact Or.inl rfl | exact Or.inr rfl) (se_p (sp_ix (ix_F ok) opv_ixF (sp_var 2) (sp_var 1))))))) (sss_one (ss_ret (se_move 3))))))
theorem c_guard_fits {f : Addr} {fd : FuncData} (F : C8.Def K mg "guard_fits" s_guard_fits f fd) (bi : Binds K fd ["guards", "thing"] []) (Z : Fr K mg)  (c_is_guard : C8.Cal P w K mg base 5 "is_guard" (spF K mg 1 F_is_guard) []) (c_chain : C8.Cal P w K mg base 1 "chain" (spF K mg 2 F_chain) []) : C8.Cal P w K mg base 6 "guard_fits" (spF K mg 2 F_guard_fits) [] :=
  cal_sem F bi sc_guard_fits rfl rfl (by decide) fun cdv A outer s H E hr => by
    have ok := bodyOk (P := P) (w := w) (K := K) (mg := mg) (base := base) (qual := "guard_fits") (cdv := cdv) (A := A) (outer := outer) (s := s) (H := H) (E := E) sc_guard_fits hr
    exact (sss_cons (ss_setLcP 2 ok rfl rfl (sw_true rfl rfl rfl rfl) (si_val (se_p (sp_var 0))) (blkOk_by (by first | rfl | decide +kernel)) (own := [("guard", 3)]) (fun _ _ _ _ _ => (sg_n 3 ok.blk rfl (by first | exact Or.inl rfl | exact Or.inr rfl) wipSet)) (fun _ _ _ _ _ => sets_nil) (fun _ _ _ _ _ => (se_p (sp_ix ix_seq opv_ix (sp_var 3) sp_int)))) (sss_cons (ss_if (sew_t (sew_or (set_cmpP (op_eqD ok.u64) opv_eq (sp_b1 call_lenF unv_len rfl Z.n_len (by rfl) (sp_var 0)) (sp_gc rfl Z.k_MOST_GUARDS) rfl) (sew_or (set_not (set_val (se_call c_is_guard hr (by decide) rfl (sas_v (se_p (sp_var 1)) sas_nil)))) (sew_or1 (set_cmpP (op_inF ok) opv_in (sp_ix ix_seq opv_ix (sp_var 1) sp_int) (sp_var 2) rfl))))) (sss_one (ss_ret (se_p sp_bl))) sss_nil) (sss_one (ss_ret (se_or (se_p (sp_cmp op_isN opv_isN (sp_ix ix_seq opv_ix (sp_var 1) sp_int) sp_non rfl)) (se_one (se_and (se_p (sp_cmp (op_inF ok) opv_in (sp_ix ix_seq opv_ix (sp_var 1) sp_int) (sp_var 2) rfl)) (se_one (se_cmp op_lt opv_lt (se_b1 call_lenF unv_len rfl Z.n_len (by rfl) (se_call c_chain hr (by decide) rfl (sas_v (se_p (sp_var 0)) (sas_v (se_p (sp_ix ix_seq opv_ix (sp_var 1) sp_int)) sas_nil)))) (se_p (sp_gc rfl Z.k_MOST_DEEP)) rfl)))))))))
theorem c_is_course {f : Addr} {fd : FuncData} (F : C8.Def K mg "is_course" s_is_course f fd) (bi : Binds K fd ["thing"] []) (Z : Fr K mg)  (c_is_pair : C8.Cal P w K mg base 3 "is_pair" (spF K mg 1 F_is_pair) []) : C8.Cal P w K mg base 4 "is_course" (spF K mg 1 F_is_course) [] :=
  cal_sem F bi sc_is_course rfl rfl (by decide) fun cdv A outer s H E hr => by
    have ok := bodyOk (P := P) (w := w) (K := K) (mg := mg) (base := base) (qual := "is_course") (cdv := cdv) (A := A) (outer := outer) (s := s) (H := H) (E := E) sc_is_course hr
    exact (sss_cons (ss_if (sew_t (sew_or (set_not (set_val (se_p (sp_isi "tuple" rfl Z.n_isinstance rfl Z.n_tuple (by rfl) (sp_var 0))))) (sew_or1 (set_cmpP op_gt opv_gt (sp_b1 call_lenF unv_len rfl Z.n_len (by rfl) (sp_var 0)) (sp_gc rfl Z.k_MOST_STRETCHES) rfl)))) (sss_one (ss_ret (se_p sp_bl))) sss_nil) (sss_one (ss_ret (se_b1 (cr_all ok.calm) unv_all rfl Z.n_all (by rfl) (se_comp ok (si_val (se_p (sp_var 0))) (blkOk_by (by first | rfl | decide +kernel)) (own := [("stretch", 1)]) (fun _ _ _ _ _ => (sg_n 1 ok.blk rfl (by first | exact Or.inl rfl | exact Or.inr rfl) wipSet)) (fun _ _ _ _ _ => sets_nil) (fun _ _ _ _ _ => (se_and (se_call c_is_pair hr (by decide) rfl (sas_v (se_p (sp_var 1)) sas_nil)) (se_one (se_p (sp_cmp op_gt opv_gt (sp_ix ix_seq opv_ix (sp_var 1) sp_int) sp_int rfl))))))))))
theorem c_is_load {f : Addr} {fd : FuncData} (F : C8.Def K mg "is_load" s_is_load f fd) (bi : Binds K fd ["thing"] []) (Z : Fr K mg)  (c_is_number : C8.Cal P w K mg base 2 "is_number" (spF K mg 1 F_is_number) []) (c_is_name : C8.Cal P w K mg base 1 "is_name" (spF K mg 1 F_is_name) []) (c_is_course : C8.Cal P w K mg base 4 "is_course" (spF K mg 1 F_is_course) []) : C8.Cal P w K mg base 5 "is_load" (spF K mg 1 F_is_load) [] :=
  cal_sem F bi sc_is_load rfl rfl (by decide) fun cdv A outer s H E hr => by
    have ok := bodyOk (P := P) (w := w) (K := K) (mg := mg) (base := base) (qual := "is_load") (cdv := cdv) (A := A) (outer := outer) (s := s) (H := H) (E := E) sc_is_load hr
    exact (sss_cons (ss_if (sew_t (sew_or (set_not (set_val (se_p (sp_isi "tuple" rfl Z.n_isinstance rfl Z.n_tuple (by rfl) (sp_var 0))))) (sew_or (set_cmpP (op_neD ok.u64) opv_ne (sp_b1 call_lenF unv_len rfl Z.n_len (by rfl) (sp_var 0)) sp_int rfl) (sew_or (set_not (set_val (se_call c_is_name hr (by decide) rfl (sas_v (se_p (sp_ix ix_seq opv_ix (sp_var 0) sp_int)) sas_nil)))) (sew_or1 (set_not (set_val (se_call c_is_name hr (by decide) rfl (sas_v (se_p (sp_ix ix_seq opv_ix (sp_var 0) sp_int)) sas_nil))))))))) (sss_one (ss_ret (se_p sp_bl))) sss_nil) (sss_one (ss_ret (se_and (se_call c_is_course hr (by decide) rfl (sas_v (se_p (sp_ix ix_seq opv_ix (sp_var 0) sp_int)) sas_nil)) (se_and (se_call c_is_number hr (by decide) rfl (sas_v (se_p (sp_ix ix_seq opv_ix (sp_var 0) sp_int)) sas_nil)) (se_one (se_p (sp_isi "bool" rfl Z.n_isinstance rfl Z.n_bool (by rfl) (sp_ix ix_seq opv_ix (sp_var 0) sp_int)))))))))
theorem c_load_fits {f : Addr} {fd : FuncData} (F : C8.Def K mg "load_fits" s_load_fits f fd) (bi : Binds K fd ["guards", "loads", "thing"] []) (Z : Fr K mg)  (c_is_load : C8.Cal P w K mg base 5 "is_load" (spF K mg 1 F_is_load) []) : C8.Cal P w K mg base 6 "load_fits" (spF K mg 3 F_load_fits) [] :=
  cal_sem F bi sc_load_fits rfl rfl (by decide) fun cdv A outer s H E hr => by
    have ok := bodyOk (P := P) (w := w) (K := K) (mg := mg) (base := base) (qual := "load_fits") (cdv := cdv) (A := A) (outer := outer) (s := s) (H := H) (E := E) sc_load_fits hr
    exact (sss_cons (ss_setLcP 3 ok rfl rfl (sw_true rfl rfl rfl rfl) (si_val (se_p (sp_var 0))) (blkOk_by (by first | rfl | decide +kernel)) (own := [("guard", 4)]) (fun _ _ _ _ _ => (sg_n 4 ok.blk rfl (by first | exact Or.inl rfl | exact Or.inr rfl) wipSet)) (fun _ _ _ _ _ => sets_nil) (fun _ _ _ _ _ => (se_p (sp_ix ix_seq opv_ix (sp_var 4) sp_int)))) (sss_cons (ss_if (sew_t (sew_or (set_cmpP (op_eqD ok.u64) opv_eq (sp_b1 call_lenF unv_len rfl Z.n_len (by rfl) (sp_var 1)) (sp_gc rfl Z.k_MOST_LOADS) rfl) (sew_or (set_not (set_val (se_call c_is_load hr (by decide) rfl (sas_v (se_p (sp_var 2)) sas_nil)))) (sew_or1 (set_cmpP (op_ninF ok) opv_nin (sp_ix ix_seq opv_ix (sp_var 2) sp_int) (sp_var 3) rfl))))) (sss_one (ss_ret (se_p sp_bl))) sss_nil) (sss_one (ss_ret (se_and (se_p (sp_cmp (op_ninF ok) opv_nin (sp_ix ix_seq opv_ix (sp_var 2) sp_int) (sp_var 3) rfl)) (se_one (se_cmp (op_ninF ok) opv_nin (se_p (sp_ix ix_seq opv_ix (sp_var 2) sp_int)) (se_comp ok (si_val (se_p (sp_var 1))) (blkOk_by (by first | rfl | decide +kernel)) (own := [("load", 5)]) (fun _ _ _ _ _ => (sg_n 5 ok.blk rfl (by first | exact Or.inl rfl | exact Or.inr rfl) wipSet)) (fun _ _ _ _ _ => sets_nil) (fun _ _ _ _ _ => (se_p (sp_ix ix_seq opv_ix (sp_var 5) sp_int)))) rfl)))))))
theorem c_looked {f : Addr} {fd : FuncData} (F : C8.Def K mg "looked" s_looked f fd) (bi : Binds K fd ["thing"] []) (Z : Fr K mg)  (c_guard_fits : C8.Cal P w K mg base 6 "guard_fits" (spF K mg 2 F_guard_fits) []) (c_load_fits : C8.Cal P w K mg base 6 "load_fits" (spF K mg 3 F_load_fits) []) (x_NoBoard : MkX P w K mg base "NoBoard" ["word", "number"]) : CalX P w K mg base 9 "looked" (spX K mg 1 F_looked) :=
  cal_semX F bi sc_looked rfl rfl (by decide) fun cdv A outer s H E hr tk hp => by
    have ok := bodyOkX (P := P) (w := w) (K := K) (mg := mg) (base := base) (qual := "looked") (cdv := cdv) (A := A) (outer := outer) (s := s) (H := H) (E := E) sc_looked hr
    exact (sssX_cons (ssX_if (sew_t (sew_or (set_not (set_val (se_p (sp_isi "tuple" rfl Z.n_isinstance rfl Z.n_tuple (by rfl) (sp_var 0))))) (sew_or (set_cmpP (op_neD ok.u64) opv_ne (sp_b1 call_lenF unv_len rfl Z.n_len (by rfl) (sp_var 0)) sp_int rfl) (sew_or1 (set_not (set_val (se_b1 (cr_all ok.calm) unv_all rfl Z.n_all (by rfl) (se_comp ok (si_val (se_p (sp_var 0))) (blkOk_by (by first | rfl | decide +kernel)) (own := [("part", 6)]) (fun _ _ _ _ _ => (sg_n 6 ok.blk rfl (by first | exact Or.inl rfl | exact Or.inr rfl) wipSet)) (fun _ _ _ _ _ => sets_nil) (fun _ _ _ _ _ => (se_p (sp_isi "tuple" rfl Z.n_isinstance rfl Z.n_tuple (by rfl) (sp_var 6)))))))))))) (sssX_one (ssX_raiseF ok tk x_NoBoard hr (by decide) rfl (ses_cons (se_p sp_str) (ses_cons (se_p sp_int) ses_nil)))) sssX_nil) (sssX_cons (ssX_of (ss_asg (se_p (sp_var 0)) (sg_tup ok (sgs_cons (fixOk _) (sg_n 1 ok rfl (by first | exact Or.inl rfl | exact Or.inr rfl) fixSet) (sgs_cons (fixOk _) (sg_n 2 ok rfl (by first | exact Or.inl rfl | exact Or.inr rfl) fixSet) (sgs_nil (fixOk _)))) (hl := (aCons_len (aCons_len aNil_len)))))) (sssX_cons (ssX_if (sew_t (sew_or (set_not (set_chain op_le op_le opv_le opv_le (se_p sp_int) (se_p (sp_b1 call_lenF unv_len rfl Z.n_len (by rfl) (sp_var 1))) (se_p (sp_gc rfl Z.k_MOST_GUARDS)))) (sew_or1 (set_cmpP op_gt opv_gt (sp_b1 call_lenF unv_len rfl Z.n_len (by rfl) (sp_var 2)) (sp_gc rfl Z.k_MOST_LOADS) rfl)))) (sssX_one (ssX_raiseF ok tk x_NoBoard hr (by decide) rfl (ses_cons (se_p sp_str) (ses_cons (se_p sp_int) ses_nil)))) sssX_nil) (sssX_cons (ssX_for ok hp (si_enumU rfl Z.n_enumerate (se_p (sp_var 1))) (sg_tup ok (sgs_cons (fixOk _) (sg_n 3 ok rfl (by first | exact Or.inl rfl | exact Or.inr rfl) fixSet) (sgs_cons (fixOk _) (sg_n 4 ok rfl (by first | exact Or.inl rfl | exact Or.inr rfl) fixSet) (sgs_nil (fixOk _)))) (hl := (aCons_len (aCons_len aNil_len)))) (sssX_one (ssX_if (set_not (set_val (se_call c_guard_fits hr (by decide) rfl (sas_v (se_p (sp_sl (sp_var 1) spo_none (spo_some (sp_var 3)))) (sas_v (se_p (sp_var 4)) sas_nil))))) (sssX_one (ssX_raiseF ok tk x_NoBoard hr (by decide) rfl (ses_cons (se_p sp_str) (ses_cons (se_p (sp_var 3)) ses_nil)))) sssX_nil))) (sssX_cons (ssX_for ok hp (si_enumU rfl Z.n_enumerate (se_p (sp_var 2))) (sg_tup ok (sgs_cons (fixOk _) (sg_n 3 ok rfl (by first | exact Or.inl rfl | exact Or.inr rfl) fixSet) (sgs_cons (fixOk _) (sg_n 5 ok rfl (by first | exact Or.inl rfl | exact Or.inr rfl) fixSet) (sgs_nil (fixOk _)))) (hl := (aCons_len (aCons_len aNil_len)))) (sssX_one (ssX_if (set_not (set_val (se_call c_load_fits hr (by decide) rfl (sas_v (se_p (sp_var 1)) (sas_v (se_p (sp_sl (sp_var 2) spo_none (spo_some (sp_var 3)))) (sas_v (se_p (sp_var 5)) sas_nil)))))) (sssX_one (ssX_raiseF ok tk x_NoBoard hr (by decide) rfl (ses_cons (se_p sp_str) (ses_cons (se_p (sp_var 3)) ses_nil)))) sssX_nil))) (sssX_one (ssX_of (ss_ret (se_p sp_bl)))))))))
theorem c__law_is_number {f : Addr} {fd : FuncData} (F : C8.Def K mg "_law_is_number" s__law_is_number f fd) (bi : Binds K fd ["_law_thing", "_law_low"] []) (Z : Fr K mg)   : C8.Cal P w K mg base 1 "_law_is_number" (spF K mg 2 F__law_is_number) [] :=
  cal_sem F bi sc__law_is_number rfl rfl (by decide) fun cdv A outer s H E hr => by
    have ok := bodyOk (P := P) (w := w) (K := K) (mg := mg) (base := base) (qual := "_law_is_number") (cdv := cdv) (A := A) (outer := outer) (s := s) (H := H) (E := E) sc__law_is_number hr
    exact (sss_one (ss_ret (se_and (se_p (sp_isi "int" rfl Z.n_isinstance rfl Z.n_int (by rfl) (sp_var 0))) (se_and (se_not (se_p (sp_isi "bool" rfl Z.n_isinstance rfl Z.n_bool (by rfl) (sp_var 0)))) (se_one (se_chain op_le op_lt opv_le opv_lt (se_p (sp_var 1)) (se_p (sp_var 0)) (se_p (sp_bin op_pow opv_pow sp_int sp_int))))))))
theorem c__law_is_name {f : Addr} {fd : FuncData} (F : C8.Def K mg "_law_is_name" s__law_is_name f fd) (bi : Binds K fd ["_law_thing"] []) (Z : Fr K mg)   : C8.Cal P w K mg base 1 "_law_is_name" (spF K mg 1 F__law_is_name) [] :=
  cal_sem F bi sc__law_is_name rfl rfl (by decide) fun cdv A outer s H E hr => by
    have ok := bodyOk (P := P) (w := w) (K := K) (mg := mg) (base := base) (qual := "_law_is_name") (cdv := cdv) (A := A) (outer := outer) (s := s) (H := H) (E := E) sc__law_is_name hr
    exact (sss_one (ss_ret (se_and (se_p (sp_isi "str" rfl Z.n_isinstance rfl Z.n_str (by rfl) (sp_var 0))) (se_and (se_chain op_le op_le opv_le opv_le (se_p sp_int) (se_p (sp_b1 call_lenF unv_len rfl Z.n_len (by rfl) (sp_var 0))) (se_p sp_int)) (se_one (se_b1 (cr_all ok.calm) unv_all rfl Z.n_all (by rfl) (se_comp ok (si_val (se_p (sp_var 0))) (blkOk_by (by first | rfl | decide +kernel)) (own := [("_law_sign", 1)]) (fun _ _ _ _ _ => (sg_n 1 ok.blk rfl (by first | exact Or.inl rfl | exact Or.inr rfl) wipSet)) (fun _ _ _ _ _ => sets_nil) (fun _ _ _ _ _ => (se_chain op_le_str op_le_str opv_leS opv_leS (se_p sp_str) (se_p (sp_var 1)) (se_p sp_str))))))))))
theorem c__law_are_pairs {f : Addr} {fd : FuncData} (F : C8.Def K mg "_law_are_pairs" s__law_are_pairs f fd) (bi : Binds K fd ["_law_thing", "_law_most", "_law_low"] []) (Z : Fr K mg)  (c__law_is_number : C8.Cal P w K mg base 1 "_law_is_number" (spF K mg 2 F__law_is_number) []) : C8.Cal P w K mg base 2 "_law_are_pairs" (spF K mg 3 F__law_are_pairs) [] :=
  cal_sem F bi sc__law_are_pairs rfl rfl (by decide) fun cdv A outer s H E hr => by
    have ok := bodyOk (P := P) (w := w) (K := K) (mg := mg) (base := base) (qual := "_law_are_pairs") (cdv := cdv) (A := A) (outer := outer) (s := s) (H := H) (E := E) sc__law_are_pairs hr
    exact (sss_cons (ss_if (sew_t (sew_or (set_not (set_val (se_p (sp_isi "tuple" rfl Z.n_isinstance rfl Z.n_tuple (by rfl) (sp_var 0))))) (sew_or1 (set_cmpP op_gt opv_gt (sp_b1 call_lenF unv_len rfl Z.n_len (by rfl) (sp_var 0)) (sp_var 1) rfl)))) (sss_one (ss_ret (se_p sp_bl))) sss_nil) (sss_cons (ss_for ok .never (si_val (se_p (sp_var 0))) (sg_n 3 ok rfl (by first | exact Or.inl rfl | exact Or.inr rfl) fixSet) (sss_cons (ss_if (sew_t (sew_or (set_not (set_val (se_p (sp_isi "tuple" rfl Z.n_isinstance rfl Z.n_tuple (by rfl) (sp_var 3))))) (sew_or1 (set_cmpP (op_neD ok.u64) opv_ne (sp_b1 call_lenF unv_len rfl Z.n_len (by rfl) (sp_var 3)) sp_int rfl)))) (sss_one (ss_ret (se_p sp_bl))) sss_nil) (sss_one (ss_if (sew_t (sew_or (set_not (set_val (se_call c__law_is_number hr (by decide) rfl (sas_v (se_p (sp_ix ix_seq opv_ix (sp_var 3) sp_int)) (sas_v (se_p sp_int) sas_nil))))) (sew_or1 (set_not (set_val (se_call c__law_is_number hr (by decide) rfl (sas_v (se_p (sp_ix ix_seq opv_ix (sp_var 3) sp_int)) (sas_v (se_p (sp_var 2)) sas_nil)))))))) (sss_one (ss_ret (se_p sp_bl))) sss_nil)))) (sss_one (ss_ret (se_p sp_bl)))))
theorem c__law_is_curve {f : Addr} {fd : FuncData} (F : C8.Def K mg "_law_is_curve" s__law_is_curve f fd) (bi : Binds K fd ["_law_thing"] []) (Z : Fr K mg)  (c__law_are_pairs : C8.Cal P w K mg base 2 "_law_are_pairs" (spF K mg 3 F__law_are_pairs) []) : C8.Cal P w K mg base 3 "_law_is_curve" (spF K mg 1 F__law_is_curve) [] :=
  cal_sem F bi sc__law_is_curve rfl rfl (by decide) fun cdv A outer s H E hr => by
    have ok := bodyOk (P := P) (w := w) (K := K) (mg := mg) (base := base) (qual := "_law_is_curve") (cdv := cdv) (A := A) (outer := outer) (s := s) (H := H) (E := E) sc__law_is_curve hr
    exact (sss_cons (ss_if (sew_t (sew_or (set_not (set_val (se_call c__law_are_pairs hr (by decide) rfl (sas_v (se_p (sp_var 0)) (sas_v (se_p sp_int) (sas_v (se_p sp_int) sas_nil)))))) (sew_or1 (set_cmpP (op_eqD ok.u64) opv_eq (sp_b1 call_lenF unv_len rfl Z.n_len (by rfl) (sp_var 0)) sp_int rfl)))) (sss_one (ss_ret (se_p sp_bl))) sss_nil) (sss_one (ss_ret (se_b1 (cr_all ok.calm) unv_all rfl Z.n_all (by rfl) (se_comp ok (si_range1 rfl Z.n_range (se_p (sp_bin op_sub opv_sub (sp_b1 call_lenF unv_len rfl Z.n_len (by rfl) (sp_var 0)) sp_int))) (blkOk_by (by first | rfl | decide +kernel)) (own := [("_law_k", 1)]) (fun _ _ _ _ _ => (sg_n 1 ok.blk rfl (by first | exact Or.inl rfl | exact Or.inr rfl) wipSet)) (fun _ _ _ _ _ => sets_nil) (fun _ _ _ _ _ => (se_and (se_p (sp_cmp op_lt opv_lt (sp_ix ix_seq opv_ix (sp_ix ix_seq opv_ix (sp_var 0) (sp_var 1)) sp_int) (sp_ix ix_seq opv_ix (sp_ix ix_seq opv_ix (sp_var 0) (sp_bin op_addF opv_add (sp_var 1) sp_int)) sp_int) rfl)) (se_one (se_p (sp_cmp op_gt opv_gt (sp_ix ix_seq opv_ix (sp_ix ix_seq opv_ix (sp_var 0) (sp_var 1)) sp_int) (sp_ix ix_seq opv_ix (sp_ix ix_seq opv_ix (sp_var 0) (sp_bin op_addF opv_add (sp_var 1) sp_int)) sp_int) rfl))))))))))
theorem c__law_row_right {f : Addr} {fd : FuncData} (F : C8.Def K mg "_law_row_right" s__law_row_right f fd) (bi : Binds K fd ["_law_thing", "_law_word"] []) (Z : Fr K mg)  (c__law_is_number : C8.Cal P w K mg base 1 "_law_is_number" (spF K mg 2 F__law_is_number) []) (c__law_is_name : C8.Cal P w K mg base 1 "_law_is_name" (spF K mg 1 F__law_is_name) []) (c__law_are_pairs : C8.Cal P w K mg base 2 "_law_are_pairs" (spF K mg 3 F__law_are_pairs) []) (c__law_is_curve : C8.Cal P w K mg base 3 "_law_is_curve" (spF K mg 1 F__law_is_curve) []) : C8.Cal P w K mg base 4 "_law_row_right" (spF K mg 2 F__law_row_right) [] :=
  cal_sem F bi sc__law_row_right rfl rfl (by decide) fun cdv A outer s H E hr => by
    have ok := bodyOk (P := P) (w := w) (K := K) (mg := mg) (base := base) (qual := "_law_row_right") (cdv := cdv) (A := A) (outer := outer) (s := s) (H := H) (E := E) sc__law_row_right hr
    exact (sss_cons (ss_if (sew_t (sew_or (set_not (set_val (se_p (sp_isi "tuple" rfl Z.n_isinstance rfl Z.n_tuple (by rfl) (sp_var 0))))) (sew_or (set_cmpP (op_neD ok.u64) opv_ne (sp_b1 call_lenF unv_len rfl Z.n_len (by rfl) (sp_var 0)) sp_int rfl) (sew_or1 (set_not (set_val (se_call c__law_is_name hr (by decide) rfl (sas_v (se_p (sp_ix ix_seq opv_ix (sp_var 0) sp_int)) sas_nil)))))))) (sss_one (ss_ret (se_p sp_bl))) sss_nil) (sss_cons (ss_if (set_cmpP (op_eqD ok.u64) opv_eq (sp_var 1) sp_str rfl) (sss_cons (ss_setP 2 ok rfl (by first | exact Or.inl rfl | exact Or.inr rfl) (se_or (se_p (sp_cmp op_isN opv_isN (sp_ix ix_seq opv_ix (sp_var 0) sp_int) sp_non rfl)) (se_one (se_call c__law_is_name hr (by decide) rfl (sas_v (se_p (sp_ix ix_seq opv_ix (sp_var 0) sp_int)) sas_nil))))) (sss_one (ss_ret (se_and (se_p (sp_var 2)) (se_and (se_call c__law_is_curve hr (by decide) rfl (sas_v (se_p (sp_ix ix_seq opv_ix (sp_var 0) sp_int)) sas_nil)) (se_and (se_call c__law_is_number hr (by decide) rfl (sas_v (se_p (sp_ix ix_seq opv_ix (sp_var 0) sp_int)) (sas_v (se_p sp_int) sas_nil))) (se_one (se_call c__law_is_number hr (by decide) rfl (sas_v (se_p (sp_ix ix_seq opv_ix (sp_var 0) sp_int)) (sas_v (se_p sp_int) sas_nil)))))))))) sss_nil) (sss_cons (ss_if (sew_t (sew_or (set_not (set_val (se_call c__law_is_name hr (by decide) rfl (sas_v (se_p (sp_ix ix_seq opv_ix (sp_var 0) sp_int)) sas_nil)))) (sew_or1 (set_not (set_val (se_call c__law_are_pairs hr (by decide) rfl (sas_v (se_p (sp_ix ix_seq opv_ix (sp_var 0) sp_int)) (sas_v (se_p sp_int) (sas_v (se_p sp_int) sas_nil))))))))) (sss_one (ss_ret (se_p sp_bl))) sss_nil) (sss_one (ss_ret (se_and (se_call c__law_is_number hr (by decide) rfl (sas_v (se_p (sp_ix ix_seq opv_ix (sp_var 0) sp_int)) (sas_v (se_p sp_int) sas_nil))) (se_one (se_p (sp_isi "bool" rfl Z.n_isinstance rfl Z.n_bool (by rfl) (sp_ix ix_seq opv_ix (sp_var 0) sp_int))))))))))
theorem c__law_due {f : Addr} {fd : FuncData} (F : C8.Def K mg "_law_due" s__law_due f fd) (bi : Binds K fd ["_law_thing"] []) (Z : Fr K mg)  (c__law_row_right : C8.Cal P w K mg base 4 "_law_row_right" (spF K mg 2 F__law_row_right) []) : C8.Cal P w K mg base 5 "_law_due" (spF K mg 1 F__law_due) [] :=
  cal_sem F bi sc__law_due rfl rfl (by decide) fun cdv A outer s H E hr => by
    have ok := bodyOk (P := P) (w := w) (K := K) (mg := mg) (base := base) (qual := "_law_due") (cdv := cdv) (A := A) (outer := outer) (s := s) (H := H) (E := E) sc__law_due hr
    exact (sss_cons (ss_if (sew_t (sew_or (set_not (set_val (se_p (sp_isi "tuple" rfl Z.n_isinstance rfl Z.n_tuple (by rfl) (sp_var 0))))) (sew_or (set_cmpP (op_neD ok.u64) opv_ne (sp_b1 call_lenF unv_len rfl Z.n_len (by rfl) (sp_var 0)) sp_int rfl) (sew_or1 (set_not (set_val (se_p (sp_isi "tuple" rfl Z.n_isinstance rfl Z.n_tuple (by rfl) (sp_ix ix_seq opv_ix (sp_var 0) sp_int))))))))) (sss_one (ss_ret (se_p (sp_tup (sps_cons sp_str (sps_cons sp_int sps_nil)))))) sss_nil) (sss_cons (ss_if (sew_t (sew_or (set_not (set_val (se_p (sp_isi "tuple" rfl Z.n_isinstance rfl Z.n_tuple (by rfl) (sp_ix ix_seq opv_ix (sp_var 0) sp_int))))) (sew_or (set_not (set_chain op_le op_le opv_le opv_le (se_p sp_int) (se_p (sp_b1 call_lenF unv_len rfl Z.n_len (by rfl) (sp_ix ix_seq opv_ix (sp_var 0) sp_int))) (se_p sp_int))) (sew_or1 (set_cmpP op_gt opv_gt (sp_b1 call_lenF unv_len rfl Z.n_len (by rfl) (sp_ix ix_seq opv_ix (sp_var 0) sp_int)) sp_int rfl))))) (sss_one (ss_ret (se_p (sp_tup (sps_cons sp_str (sps_cons sp_int sps_nil)))))) sss_nil) (sss_cons (ss_setO 1 ok rfl (by first | exact Or.inl rfl | exact Or.inr rfl) se_dict0) (sss_cons (ss_for ok .never (si_enumU rfl Z.n_enumerate (se_p (sp_ix ix_seq opv_ix (sp_var 0) sp_int))) (sg_tup ok (sgs_cons (fixOk _) (sg_n 3 ok rfl (by first | exact Or.inl rfl | exact Or.inr rfl) fixSet) (sgs_cons (fixOk _) (sg_n 4 ok rfl (by first | exact Or.inl rfl | exact Or.inr rfl) fixSet) (sgs_nil (fixOk _)))) (hl := (aCons_len (aCons_len aNil_len)))) (sss_cons (ss_if (sew_t (sew_or (set_not (set_val (se_call c__law_row_right hr (by decide) rfl (sas_v (se_p (sp_var 4)) (sas_v (se_p sp_str) sas_nil))))) (sew_or1 (set_cmpP (op_inG ok) opv_inG (sp_ix ix_seq opv_ix (sp_var 4) sp_int) (sp_var 1) rfl)))) (sss_one (ss_ret (se_p (sp_tup (sps_cons sp_str (sps_cons (sp_var 3) sps_nil)))))) sss_nil) (sss_cons (ss_if (sew_t (sew_and (set_cmpP op_notN opv_notN (sp_ix ix_seq opv_ix (sp_var 4) sp_int) sp_non rfl) (sew_and1 (set_cmpP op_gt opv_gt (sp_get ok (sp_var 1) (sp_ix ix_seq opv_ix (sp_var 4) sp_int) sp_int) sp_int rfl)))) (sss_one (ss_ret (se_p (sp_tup (sps_cons sp_str (sps_cons (sp_var 3) sps_nil)))))) sss_nil) (sss_one (ss_setIt 1 ok (se_p (sp_ix ix_seq opv_ix (sp_var 4) sp_int)) (se_p (sp_bin op_addF opv_add sp_int (sp_get ok (sp_var 1) (sp_ix ix_seq opv_ix (sp_var 4) sp_int) sp_int)))))))) (sss_cons (ss_setO 2 ok rfl (by first | exact Or.inl rfl | exact Or.inr rfl) (se_dictC rfl Z.n_dict (by rfl) (sp_var 1))) (sss_cons (ss_for ok .never (si_enumU rfl Z.n_enumerate (se_p (sp_ix ix_seq opv_ix (sp_var 0) sp_int))) (sg_tup ok (sgs_cons (fixOk _) (sg_n 3 ok rfl (by first | exact Or.inl rfl | exact Or.inr rfl) fixSet) (sgs_cons (fixOk _) (sg_n 5 ok rfl (by first | exact Or.inl rfl | exact Or.inr rfl) fixSet) (sgs_nil (fixOk _)))) (hl := (aCons_len (aCons_len aNil_len)))) (sss_cons (ss_if (sew_t (sew_or (set_not (set_val (se_call c__law_row_right hr (by decide) rfl (sas_v (se_p (sp_var 5)) (sas_v (se_p sp_str) sas_nil))))) (sew_or (set_cmpP (op_inG ok) opv_inG (sp_ix ix_seq opv_ix (sp_var 5) sp_int) (sp_var 2) rfl) (sew_or1 (set_cmpP (op_ninG ok) opv_ninG (sp_ix ix_seq opv_ix (sp_var 5) sp_int) (sp_var 1) rfl))))) (sss_one (ss_ret (se_p (sp_tup (sps_cons sp_str (sps_cons (sp_var 3) sps_nil)))))) sss_nil) (sss_one (ss_setIt 2 ok (se_p (sp_ix ix_seq opv_ix (sp_var 5) sp_int)) (se_p sp_int))))) (sss_one (ss_ret (se_p sp_non)))))))))
theorem c__law_right {f : Addr} {fd : FuncData} (F : C8.Def K mg "_law_right" s__law_right f fd) (bi : Binds K fd ["_law_thing"] []) (Z : Fr K mg)  (c_looked : CalX P w K mg base 9 "looked" (spX K mg 1 F_looked)) (c__law_due : C8.Cal P w K mg base 5 "_law_due" (spF K mg 1 F__law_due) []) : CalG P w K mg base 10 "_law_right" (spF K mg 1 F__law_right) :=
  cal_semG F bi sc__law_right rfl rfl (by decide) fun cdv A outer s H E hr hgd => by
    have ok := bodyOk (P := P) (w := w) (K := K) (mg := mg) (base := base) (qual := "_law_right") (cdv := cdv) (A := A) (outer := outer) (s := s) (H := H) (E := E) sc__law_right hr
    exact (sss_cons (ss_setP 1 ok rfl (by first | exact Or.inl rfl | exact Or.inr rfl) (se_call c__law_due hr (by decide) rfl (sas_v (se_p (sp_var 0)) sas_nil))) (sss_cons (ss_setP 2 ok rfl (by first | exact Or.inl rfl | exact Or.inr rfl) (se_p (sp_b1 (cr_reprA (u200 hr) hgd) unv_reprA rfl Z.n_repr (by rfl) (sp_var 0)))) (sss_cons (ss_setP 3 ok rfl (by first | exact Or.inl rfl | exact Or.inr rfl) (se_p sp_non)) (sss_cons (ss_setP 4 ok rfl (by first | exact Or.inl rfl | exact Or.inr rfl) (se_p sp_bl)) (sss_cons (ss_ofX (ssX_try ok Z.ex rfl rfl (i := 5) rfl rfl rfl takes_no (fun W pn xe tk hp => by have ok := ok.tr (pn := pn) (xe := xe); exact (sssX_one (ssX_setP 4 ok rfl (by first | exact Or.inl rfl | exact Or.inr rfl) (seX_isB (seX_call c_looked tk hr (by decide) rfl (sas_v (se_p (sp_var 0)) sas_nil)))))) (fun a oe cls d pn x I h => (sssF_cons (ssF_setP 4 ok.nd rfl (by first | exact Or.inl rfl | exact Or.inr rfl) (sef_and (sef_isD Z.ex h rfl (by first | exact Or.inl rfl | exact Or.inr (Or.inl rfl) | exact Or.inr (Or.inr rfl)) rfl Z.n_isinstance rfl (hy := by decide +kernel)) (sef_and (sef_isVD Z.ex h rfl (by first | exact Or.inl rfl | exact Or.inr (Or.inl rfl) | exact Or.inr (Or.inr rfl)) rfl Z.n_isinstance rfl Z.n_ValueError) (sef_one (sef_not (sef_isTD Z.ex h rfl (by first | exact Or.inl rfl | exact Or.inr (Or.inl rfl) | exact Or.inr (Or.inr rfl)) rfl Z.n_isinstance (scls_cons Z.ex rfl (scls_cons Z.ex rfl (scls_cons Z.ex rfl scls_nil (hy := by decide +kernel)) (hy := by decide +kernel)) (hy := by decide +kernel)))))))) (sssF_one (ssF_setP 3 ok.nd rfl (by first | exact Or.inl rfl | exact Or.inr rfl) (sef_tup (sesf_cons (sef_fld Z.ex h Z.xf_word rfl (by first | exact Or.inl rfl | exact Or.inr (Or.inl rfl) | exact Or.inr (Or.inr rfl))) (sesf_cons (sef_fld Z.ex h Z.xf_number rfl (by first | exact Or.inl rfl | exact Or.inr (Or.inl rfl) | exact Or.inr (Or.inr rfl))) sesf_nil))))))) (hy := by decide +kernel))) (sss_one (ss_ret (se_and (se_p (sp_var 4)) (se_and (se_p (sp_cmp (op_eqD ok.u64) opv_eq (sp_b1 (cr_reprA (u200 hr) hgd) unv_reprA rfl Z.n_repr (by rfl) (sp_var 3)) (sp_b1 (cr_reprA (u200 hr) hgd) unv_reprA rfl Z.n_repr (by rfl) (sp_var 1)) rfl)) (se_one (se_p (sp_cmp (op_eqD ok.u64) opv_eq (sp_b1 (cr_reprA (u200 hr) hgd) unv_reprA rfl Z.n_repr (by rfl) (sp_var 0)) (sp_var 2) rfl))))))))))))
theorem c__law_odd {f : Addr} {fd : FuncData} (F : C8.Def K mg "_law_odd" s__law_odd f fd) (bi : Binds K fd ["_law_feed_here", "_law_one"] []) (Z : Fr K mg)  (c__law_take : C8.Cal P w K mg base 1 "_law_take" (spF K mg 2 F__law_take) []) : C8.Cal P w K mg base 2 "_law_odd" (spF K mg 2 F__law_odd) [] :=
  cal_sem F bi sc__law_odd rfl rfl (by decide) fun cdv A outer s H E hr => by
    have ok := bodyOk (P := P) (w := w) (K := K) (mg := mg) (base := base) (qual := "_law_odd") (cdv := cdv) (A := A) (outer := outer) (s := s) (H := H) (E := E) sc__law_odd hr
    exact (sss_cons (ss_setP 2 ok rfl (by first | exact Or.inl rfl | exact Or.inr rfl) (se_lst (ses_cons (se_p sp_non) (ses_cons (se_p sp_bl) (ses_cons (se_p sp_bl) (ses_cons (se_p sp_int) (ses_cons (se_p sp_int) (ses_cons (se_p (sp_un un_neg unv_neg sp_int)) (ses_cons (se_p (sp_bin op_pow opv_pow sp_int sp_int)) (ses_cons (se_p (sp_bin op_sub opv_sub (sp_bin op_pow opv_pow sp_int sp_int) sp_int)) (ses_cons (se_p sp_str) (ses_cons (se_p sp_str) (ses_cons (se_p sp_str) (ses_cons (se_p sp_str) (ses_cons (se_p sp_str) (ses_cons (se_p (sp_tup sps_nil)) (ses_cons (se_lst ses_nil) (ses_cons se_dict0 ses_nil)))))))))))))))))) (sss_cons (ss_setP 2 ok rfl (by first | exact Or.inl rfl | exact Or.inr rfl) (se_p (sp_bin op_addF opv_add (sp_var 2) (sp_lst (sps_cons (sp_tup (sps_cons (sp_tup (sps_cons sp_int (sps_cons sp_int sps_nil))) sps_nil)) (sps_cons (sp_tup (sps_cons (sp_tup (sps_cons sp_int (sps_cons sp_int sps_nil))) sps_nil)) (sps_cons (sp_tup (sps_cons (sp_tup (sps_cons sp_int (sps_cons sp_int sps_nil))) sps_nil)) (sps_cons (sp_tup (sps_cons (sp_tup (sps_cons sp_int (sps_cons sp_int (sps_cons sp_int sps_nil)))) sps_nil)) (sps_cons (sp_lst (sps_cons (sp_tup (sps_cons sp_int (sps_cons sp_int sps_nil))) sps_nil)) (sps_cons (sp_tup (sps_cons (sp_tup (sps_cons sp_int (sps_cons sp_int sps_nil))) (sps_cons (sp_tup (sps_cons sp_int (sps_cons sp_int sps_nil))) sps_nil))) (sps_cons (sp_tup (sps_cons (sp_tup (sps_cons sp_int (sps_cons sp_int sps_nil))) (sps_cons (sp_tup (sps_cons sp_int (sps_cons sp_int sps_nil))) sps_nil))) sps_nil))))))))))) (sss_cons (ss_setP 2 ok rfl (by first | exact Or.inl rfl | exact Or.inr rfl) (se_p (sp_bin op_addF opv_add (sp_var 2) (sp_lst (sps_cons (sp_tup (sps_cons (sp_tup (sps_cons sp_int (sps_cons sp_int sps_nil))) (sps_cons (sp_tup (sps_cons sp_int (sps_cons sp_int sps_nil))) sps_nil))) sps_nil))))) (sss_cons (ss_setP 2 ok rfl (by first | exact Or.inl rfl | exact Or.inr rfl) (se_p (sp_bin op_addF opv_add (sp_var 2) (sp_lst (sps_cons (sp_tup (sps_cons (sp_tup (sps_cons sp_int (sps_cons sp_int sps_nil))) (sps_cons (sp_tup (sps_cons sp_int (sps_cons sp_int sps_nil))) (sps_cons (sp_tup (sps_cons sp_int (sps_cons sp_int sps_nil))) (sps_cons (sp_tup (sps_cons sp_int (sps_cons sp_int sps_nil))) (sps_cons (sp_tup (sps_cons sp_int (sps_cons sp_int sps_nil))) (sps_cons (sp_tup (sps_cons sp_int (sps_cons sp_int sps_nil))) sps_nil))))))) (sps_cons (sp_tup (sps_cons (sp_tup (sps_cons sp_int (sps_cons sp_bl sps_nil))) sps_nil)) (sps_cons (sp_tup (sps_cons (sp_tup (sps_cons sp_int (sps_cons sp_int sps_nil))) (sps_cons sp_int sps_nil))) (sps_cons (sp_tup (sps_cons (sp_lst (sps_cons sp_int (sps_cons sp_int sps_nil))) sps_nil)) (sps_cons (sp_var 1) sps_nil))))))))) (sss_one (ss_ret (se_ix ix_seq opv_ix (se_p (sp_var 2)) (se_call c__law_take hr (by decide) rfl (sas_io 0 (sas_v (se_p sp_int) sas_nil))))))))))
theorem c__law_bent {f : Addr} {fd : FuncData} (F : C8.Def K mg "_law_bent" s__law_bent f fd) (bi : Binds K fd ["_law_feed_here", "_law_rows", "_law_names_here"] []) (Z : Fr K mg)  (c__law_take : C8.Cal P w K mg base 1 "_law_take" (spF K mg 2 F__law_take) []) (c__law_odd : C8.Cal P w K mg base 2 "_law_odd" (spF K mg 2 F__law_odd) []) : C8.Cal P w K mg base 3 "_law_bent" (spF K mg 3 F__law_bent) [] :=
  cal_sem F bi sc__law_bent rfl rfl (by decide) fun cdv A outer s H E hr => by
    have ok := bodyOk (P := P) (w := w) (K := K) (mg := mg) (base := base) (qual := "_law_bent") (cdv := cdv) (A := A) (outer := outer) (s := s) (H := H) (E := E) sc__law_bent hr
    exact (sss_cons (ss_setP 3 ok rfl (by first | exact Or.inl rfl | exact Or.inr rfl) (se_ix ix_seq opv_ix (se_p (sp_var 2)) (se_call c__law_take hr (by decide) rfl (sas_io 0 (sas_v (se_p (sp_b1 call_lenF unv_len rfl Z.n_len (by rfl) (sp_var 2))) sas_nil))))) (sss_cons (ss_if (set_cmpP (op_eqD ok.u64) opv_eq (sp_b1 call_lenF unv_len rfl Z.n_len (by rfl) (sp_var 1)) sp_int rfl) (sss_one (ss_ret (se_lst (ses_cons (se_p (sp_tup (sps_cons (sp_var 3) (sps_cons (sp_ix ix_seq opv_ix (sp_var 2) sp_int) (sps_cons (sp_tup sps_nil) (sps_cons sp_int (sps_cons sp_bl sps_nil))))))) ses_nil)))) sss_nil) (sss_cons (ss_setP 4 ok rfl (by first | exact Or.inl rfl | exact Or.inr rfl) (se_call c__law_take hr (by decide) rfl (sas_io 0 (sas_v (se_p (sp_b1 call_lenF unv_len rfl Z.n_len (by rfl) (sp_var 1))) sas_nil)))) (sss_cons (ss_setP 5 ok rfl (by first | exact Or.inl rfl | exact Or.inr rfl) (se_p (sp_ix ix_seq opv_ix (sp_var 1) (sp_var 4)))) (sss_cons (ss_setP 6 ok rfl (by first | exact Or.inl rfl | exact Or.inr rfl) (se_call c__law_take hr (by decide) rfl (sas_io 0 (sas_v (se_p sp_int) sas_nil)))) (sss_cons (ss_if (sew_t (sew_or (set_not (set_val (se_p (sp_isi "tuple" rfl Z.n_isinstance rfl Z.n_tuple (by rfl) (sp_var 5))))) (sew_or1 (set_cmpP (op_neD ok.u64) opv_ne (sp_b1 call_lenF unv_len rfl Z.n_len (by rfl) (sp_var 5)) sp_int rfl)))) (sss_one (ss_ret (se_p (sp_bin op_addF opv_add (sp_sl (sp_var 1) spo_none (spo_some (sp_var 4))) (sp_sl (sp_var 1) (spo_some (sp_bin op_addF opv_add (sp_var 4) sp_int)) spo_none))))) sss_nil) (sss_cons (ss_if (set_cmpP op_lt opv_lt (sp_var 6) sp_int rfl) (sss_cons (ss_setP 7 ok rfl (by first | exact Or.inl rfl | exact Or.inr rfl) (se_call c__law_take hr (by decide) rfl (sas_io 0 (sas_v (se_p sp_int) sas_nil)))) (sss_one (ss_setP 5 ok rfl (by first | exact Or.inl rfl | exact Or.inr rfl) (se_bin op_addF opv_add (se_bin op_addF opv_add (se_p (sp_sl (sp_var 5) spo_none (spo_some (sp_var 7)))) (se_tup (ses_cons (se_call c__law_odd hr (by decide) rfl (sas_io 0 (sas_v (se_p (sp_ix ix_seq opv_ix (sp_var 5) (sp_var 7))) sas_nil))) ses_nil))) (se_p (sp_sl (sp_var 5) (spo_some (sp_bin op_addF opv_add (sp_var 7) sp_int)) spo_none)))))) sss_nil) (sss_cons (ss_if (set_cmpP (op_eqD ok.u64) opv_eq (sp_var 6) sp_int rfl) (sss_one (ss_setP 5 ok rfl (by first | exact Or.inl rfl | exact Or.inr rfl) (se_p (sp_bin op_addF opv_add (sp_tup (sps_cons (sp_var 3) sps_nil)) (sp_sl (sp_var 5) (spo_some sp_int) spo_none))))) sss_nil) (sss_cons (ss_if (set_cmpP (op_eqD ok.u64) opv_eq (sp_var 6) sp_int rfl) (sss_one (ss_setP 5 ok rfl (by first | exact Or.inl rfl | exact Or.inr rfl) (se_p (sp_bin op_addF opv_add (sp_bin op_addF opv_add (sp_sl (sp_var 5) spo_none (spo_some sp_int)) (sp_tup (sps_cons (sp_var 3) sps_nil))) (sp_sl (sp_var 5) (spo_some sp_int) spo_none))))) sss_nil) (sss_cons (ss_if (set_cmpP (op_eqD ok.u64) opv_eq (sp_var 6) sp_int rfl) (sss_one (ss_setP 5 ok rfl (by first | exact Or.inl rfl | exact Or.inr rfl) (se_ix ix_seq opv_ix (se_lst (ses_cons (se_p (sp_t1 call_list_of unv_list rfl Z.n_list (by rfl) (sp_var 5))) (ses_cons (se_p (sp_sl (sp_var 5) spo_none (spo_some (sp_un un_neg unv_neg sp_int)))) (ses_cons (se_p (sp_bin op_addF opv_add (sp_var 5) (sp_tup (sps_cons sp_int sps_nil)))) (ses_cons (se_p (sp_var 3)) (ses_cons (se_p (sp_tup (sps_cons (sp_var 5) sps_nil))) ses_nil)))))) (se_call c__law_take hr (by decide) rfl (sas_io 0 (sas_v (se_p sp_int) sas_nil)))))) sss_nil) (sss_cons (ss_if (set_cmpP (op_eqD ok.u64) opv_eq (sp_var 6) sp_int rfl) (sss_one (ss_ret (se_bin op_addF opv_add (se_bin op_addF opv_add (se_p (sp_sl (sp_var 1) spo_none (spo_some (sp_var 4)))) (se_bin op_mulF opv_mul (se_lst (ses_cons (se_p (sp_var 5)) ses_nil)) (se_bin op_sub opv_sub (se_ix ix_seq opv_ix (se_lst (ses_cons (se_p sp_int) (ses_cons (se_p sp_int) (ses_cons (se_p sp_int) (ses_cons (se_p sp_int) ses_nil))))) (se_call c__law_take hr (by decide) rfl (sas_io 0 (sas_v (se_p sp_int) sas_nil)))) (se_p (sp_b1 call_lenF unv_len rfl Z.n_len (by rfl) (sp_var 1)))))) (se_p (sp_sl (sp_var 1) (spo_some (sp_var 4)) spo_none))))) sss_nil) (sss_cons (ss_if (set_cmpP (op_eqD ok.u64) opv_eq (sp_var 6) sp_int rfl) (sss_one (ss_ret (se_p (sp_bin op_addF opv_add (sp_bin op_addF opv_add (sp_sl (sp_var 1) spo_none (spo_some (sp_var 4))) (sp_lst (sps_cons (sp_var 5) sps_nil))) (sp_sl (sp_var 1) (spo_some (sp_var 4)) spo_none))))) sss_nil) (sss_one (ss_ret (se_p (sp_bin op_addF opv_add (sp_bin op_addF opv_add (sp_sl (sp_var 1) spo_none (spo_some (sp_var 4))) (sp_lst (sps_cons (sp_var 5) sps_nil))) (sp_sl (sp_var 1) (spo_some (sp_bin op_addF opv_add (sp_var 4) sp_int)) spo_none)))))))))))))))))
theorem c__law_topped {f : Addr} {fd : FuncData} (F : C8.Def K mg "_law_topped" s__law_topped f fd) (bi : Binds K fd ["_law_feed_here", "_law_guards_here", "_law_loads_here"] []) (Z : Fr K mg)  (c__law_take : C8.Cal P w K mg base 1 "_law_take" (spF K mg 2 F__law_take) []) : C8.Cal P w K mg base 2 "_law_topped" (spF K mg 3 F__law_topped) [] :=
  cal_sem F bi sc__law_topped rfl rfl (by decide) fun cdv A outer s H E hr => by
    have ok := bodyOk (P := P) (w := w) (K := K) (mg := mg) (base := base) (qual := "_law_topped") (cdv := cdv) (A := A) (outer := outer) (s := s) (H := H) (E := E) sc__law_topped hr
    exact (sss_cons (ss_setP 3 ok rfl (by first | exact Or.inl rfl | exact Or.inr rfl) (se_p (sp_bin op_addF opv_add (sp_bin op_mulF opv_mul (sp_lst (sps_cons (sp_tup (sps_cons (sp_var 1) (sps_cons (sp_var 2) sps_nil))) sps_nil)) sp_int) (sp_lst (sps_cons (sp_lst (sps_cons (sp_var 1) (sps_cons (sp_var 2) sps_nil))) (sps_cons (sp_tup (sps_cons (sp_var 1) sps_nil)) (sps_cons (sp_tup (sps_cons (sp_var 1) (sps_cons (sp_var 2) (sps_cons (sp_tup sps_nil) sps_nil)))) (sps_cons (sp_tup (sps_cons (sp_t1 call_list_of unv_list rfl Z.n_list (by rfl) (sp_var 1)) (sps_cons (sp_var 2) sps_nil))) sps_nil)))))))) (sss_cons (ss_setP 3 ok rfl (by first | exact Or.inl rfl | exact Or.inr rfl) (se_bin op_addF opv_add (se_p (sp_var 3)) (se_fz (se_lst (ses_cons (se_p (sp_tup (sps_cons (sp_var 1) (sps_cons (sp_t1 call_list_of unv_list rfl Z.n_list (by rfl) (sp_var 2)) sps_nil)))) (ses_cons (se_p (sp_tup (sps_cons (sp_tup sps_nil) (sps_cons (sp_var 2) sps_nil)))) (ses_cons (se_p sp_non) (ses_cons (se_p sp_str) (ses_cons (se_p (sp_tup (sps_cons (sp_var 2) (sps_cons (sp_var 1) sps_nil)))) (ses_cons se_dict0 (ses_cons (se_p sp_int) (ses_cons (se_p sp_bl) ses_nil)))))))))))) (sss_one (ss_ret (se_ix ix_seq opv_ix (se_p (sp_var 3)) (se_call c__law_take hr (by decide) rfl (sas_io 0 (sas_v (se_p sp_int) sas_nil))))))))
theorem c_law {f : Addr} {fd : FuncData} (F : C8.Fun K "law" "law" s_law f fd) (Z : Fr K mg)  (c__law_feed : C8.Cal P w K mg base 2 "_law_feed" (spF K mg 2 F__law_feed) []) (c__law_take : C8.Cal P w K mg base 1 "_law_take" (spF K mg 2 F__law_take) []) (c__law_board : C8.Cal P w K mg base 5 "_law_board" (spF K mg 1 F__law_board) []) (c__law_right : CalG P w K mg base 10 "_law_right" (spF K mg 1 F__law_right)) (c__law_bent : C8.Cal P w K mg base 3 "_law_bent" (spF K mg 3 F__law_bent) []) (c__law_topped : C8.Cal P w K mg base 2 "_law_topped" (spF K mg 3 F__law_topped) []) : AtTop P w K mg base f fd "_law_script" (spF K mg 1 F_law) :=
  at_top (k := 10) F sc_law rfl (by decide) ⟨rfl, by decide, by decide⟩ fun cdv s H E hr hgd => by
    have ok := bodyOk (P := P) (w := w) (K := K) (mg := mg) (base := base) (qual := "law") (cdv := cdv) (A := callerA) (outer := []) (s := s) (H := H) (E := E) sc_law hr
    exact (sss_cons (ss_setP 1 ok rfl (by first | exact Or.inl rfl | exact Or.inr rfl) (se_call c__law_board hr (by decide) rfl (sas_v (se_p (sp_var 0)) sas_nil))) (sss_cons (ss_setP 2 ok rfl (by first | exact Or.inl rfl | exact Or.inr rfl) (se_bin op_addF opv_add (se_comp ok (si_val (se_p (sp_ix ix_seq opv_ix (sp_var 1) sp_int))) (blkOk_by (by first | rfl | decide +kernel)) (own := [("_law_guard", 8)]) (fun _ _ _ _ _ => (sg_n 8 ok.blk rfl (by first | exact Or.inl rfl | exact Or.inr rfl) wipSet)) (fun _ _ _ _ _ => sets_nil) (fun _ _ _ _ _ => (se_p (sp_ix ix_seq opv_ix (sp_var 8) sp_int)))) (se_comp ok (si_val (se_p (sp_ix ix_seq opv_ix (sp_var 1) sp_int))) (blkOk_by (by first | rfl | decide +kernel)) (own := [("_law_load", 9)]) (fun _ _ _ _ _ => (sg_n 9 ok.blk rfl (by first | exact Or.inl rfl | exact Or.inr rfl) wipSet)) (fun _ _ _ _ _ => sets_nil) (fun _ _ _ _ _ => (se_p (sp_ix ix_seq opv_ix (sp_var 9) sp_int)))))) (sss_cons (ss_setP 3 ok rfl (by first | exact Or.inl rfl | exact Or.inr rfl) (se_p (sp_t1 call_list_of unv_list rfl Z.n_list (by rfl) (sp_ix ix_seq opv_ix (sp_var 1) sp_int)))) (sss_cons (ss_setP 4 ok rfl (by first | exact Or.inl rfl | exact Or.inr rfl) (se_p (sp_t1 call_list_of unv_list rfl Z.n_list (by rfl) (sp_ix ix_seq opv_ix (sp_var 1) sp_int)))) (sss_cons (ss_setO 5 ok rfl (by first | exact Or.inl rfl | exact Or.inr rfl) (se_call c__law_feed hr (by decide) rfl (sas_v (se_p (sp_var 0)) (sas_v (se_p sp_int) sas_nil)))) (sss_cons (ss_for ok .never (si_range1 rfl Z.n_range (se_bin op_addF opv_add (se_p sp_int) (se_call c__law_take hr (by decide) rfl (sas_io 5 (sas_v (se_p sp_int) sas_nil))))) (sg_n 6 ok rfl (by first | exact Or.inl rfl | exact Or.inr rfl) fixSet) (sss_one (ss_if (set_cmp (op_eqD ok.u64) opv_eq (se_call c__law_take hr (by decide) rfl (sas_io 5 (sas_v (se_p sp_int) sas_nil))) (se_p sp_int) rfl) (sss_one (ss_setP 3 ok rfl (by first | exact Or.inl rfl | exact Or.inr rfl) (se_call c__law_bent hr (by decide) rfl (sas_io 5 (sas_v (se_p (sp_var 3)) (sas_v (se_p (sp_var 2)) sas_nil)))))) (sss_one (ss_setP 4 ok rfl (by first | exact Or.inl rfl | exact Or.inr rfl) (se_call c__law_bent hr (by decide) rfl (sas_io 5 (sas_v (se_p (sp_var 4)) (sas_v (se_p (sp_var 2)) sas_nil))))))))) (sss_cons (ss_setP 7 ok rfl (by first | exact Or.inl rfl | exact Or.inr rfl) (se_call c__law_topped hr (by decide) rfl (sas_io 5 (sas_v (se_p (sp_t1 call_tuple_of unv_tup rfl Z.n_tuple (by rfl) (sp_var 3))) (sas_v (se_p (sp_t1 call_tuple_of unv_tup rfl Z.n_tuple (by rfl) (sp_var 4))) sas_nil))))) (sss_one (ss_ret (se_and (se_callG hgd c__law_right hr (by decide) rfl (sas_v (se_p (sp_var 7)) sas_nil)) (se_one (se_callG hgd c__law_right hr (by decide) rfl (sas_v (se_p (sp_var 7)) sas_nil)))))))))))))
end
theorem ob_eq (s : PySem.W.SharedT) : ob s = hk.obs s.abs := obsSG_eq (HandSHeadRun.getT_eq s)
theorem facts {P : Program} {w : World} {K : PySem.W.Frag} {h : Heap} {mg : Str → Option Value} {f : Addr} (X : K.In h) (G : h.Ns mainGlobals mg) (hfa : mg ("law" : Str) = some (.ref f)) (c : SaysP px fa fn K) :
    ∃ fd : FuncData, (∀ (s : Shared) (v : Value), BindsTo s fd ⟨[v], []⟩ [("_law_script", v)]) ∧ ∀ base : Heap, K.In base → base.Ns mainGlobals mg → AtTop P w K mg base f fd "_law_script" (spF K mg 1 F_law) := by
  obtain ⟨c, cpx⟩ := c.says
  have Z : Fr K mg := ⟨trivial, exAll_ok X G (cpx (exAllB es) (List.mem_cons_self ..)), xfB_ok2 (cpx (xfB2 es ["NoBoard"] "number") (by simp [px])), xfB_ok2 (cpx (xfB2 es ["NoBoard"] "word") (by simp [px])), He.free_ok X G (c.fact 33 (f := .free "ValueError") rfl), He.free_ok X G (c.fact 34 (f := .free "all") rfl), He.free_ok X G (c.fact 35 (f := .free "bool") rfl), He.free_ok X G (c.fact 36 (f := .free "dict") rfl), He.free_ok X G (c.fact 37 (f := .free "enumerate") rfl), He.free_ok X G (c.fact 38 (f := .free "int") rfl), He.free_ok X G (c.fact 39 (f := .free "isinstance") rfl), He.free_ok X G (c.fact 40 (f := .free "len") rfl), He.free_ok X G (c.fact 41 (f := .free "list") rfl), He.free_ok X G (c.fact 42 (f := .free "range") rfl), He.free_ok X G (c.fact 43 (f := .free "repr") rfl), He.free_ok X G (c.fact 44 (f := .free "str") rfl), He.free_ok X G (c.fact 45 (f := .free "tuple") rfl), He.free_ok X G (c.fact 46 (f := .free "zip") rfl), int_gl X G (c.fact 47 (f := .int "MOST" 1000000000000000000000000000000000000000000000000000000000000) rfl), int_gl X G (c.fact 48 (f := .int "MOST_DEEP" 8) rfl), int_gl X G (c.fact 49 (f := .int "MOST_GUARDS" 16) rfl), int_gl X G (c.fact 50 (f := .int "MOST_LETTERS" 8) rfl), int_gl X G (c.fact 51 (f := .int "MOST_LOADS" 24) rfl), int_gl X G (c.fact 52 (f := .int "MOST_STEPS" 5) rfl), int_gl X G (c.fact 53 (f := .int "MOST_STRETCHES" 4) rfl), str_gl X G (c.fact 54 (f := .str "LETTERS" "abcdefghijklmnopqrstuvwxyz") rfl)⟩
  obtain ⟨fd__law_cell_at, D__law_cell_at⟩ := c.def_ 0 (d := d__law_cell_at) rfl
  have bi__law_cell_at := FunD.bindsN (ps := ["_law_script", "_law_k"]) D__law_cell_at fun _ _ _ _ _ _ us hl => match us, hl with | [_, _], _ => rfl
  have g__law_cell_at := He.glo_ok X G (c.fact 0 (f := .glo "_law_cell_at") rfl)
  obtain ⟨fd__law_feed, D__law_feed⟩ := c.def_ 1 (d := d__law_feed) rfl
  have bi__law_feed := FunD.bindsN (ps := ["_law_script", "_law_k"]) D__law_feed fun _ _ _ _ _ _ us hl => match us, hl with | [_, _], _ => rfl
  have g__law_feed := He.glo_ok X G (c.fact 1 (f := .glo "_law_feed") rfl)
  obtain ⟨fd__law_take, D__law_take⟩ := c.def_ 2 (d := d__law_take) rfl
  have bi__law_take := FunD.bindsN (ps := ["_law_feed_here", "_law_many"]) D__law_take fun _ _ _ _ _ _ us hl => match us, hl with | [_, _], _ => rfl
  have g__law_take := He.glo_ok X G (c.fact 2 (f := .glo "_law_take") rfl)
  obtain ⟨fd__law_names, D__law_names⟩ := c.def_ 3 (d := d__law_names) rfl
  have bi__law_names := FunD.bindsN (ps := ["_law_feed_here", "_law_many"]) D__law_names fun _ _ _ _ _ _ us hl => match us, hl with | [_, _], _ => rfl
  have g__law_names := He.glo_ok X G (c.fact 3 (f := .glo "_law_names") rfl)
  obtain ⟨fd__law_begin, D__law_begin⟩ := c.def_ 4 (d := d__law_begin) rfl
  have bi__law_begin := FunD.bindsN (ps := ["_law_feed_here"]) D__law_begin fun _ _ _ _ _ _ us hl => match us, hl with | [_], _ => rfl
  have g__law_begin := He.glo_ok X G (c.fact 4 (f := .glo "_law_begin") rfl)
  obtain ⟨fd__law_number, D__law_number⟩ := c.def_ 5 (d := d__law_number) rfl
  have bi__law_number := FunD.bindsN (ps := ["_law_feed_here"]) D__law_number fun _ _ _ _ _ _ us hl => match us, hl with | [_], _ => rfl
  have g__law_number := He.glo_ok X G (c.fact 5 (f := .glo "_law_number") rfl)
  obtain ⟨fd__law_steps, D__law_steps⟩ := c.def_ 6 (d := d__law_steps) rfl
  have bi__law_steps := FunD.bindsN (ps := ["_law_feed_here"]) D__law_steps fun _ _ _ _ _ _ us hl => match us, hl with | [_], _ => rfl
  have g__law_steps := He.glo_ok X G (c.fact 6 (f := .glo "_law_steps") rfl)
  obtain ⟨fd__law_guards, D__law_guards⟩ := c.def_ 7 (d := d__law_guards) rfl
  have bi__law_guards := FunD.bindsN (ps := ["_law_script", "_law_names_here", "_law_many"]) D__law_guards fun _ _ _ _ _ _ us hl => match us, hl with | [_, _, _], _ => rfl
  have g__law_guards := He.glo_ok X G (c.fact 7 (f := .glo "_law_guards") rfl)
  obtain ⟨fd__law_loads, D__law_loads⟩ := c.def_ 8 (d := d__law_loads) rfl
  have bi__law_loads := FunD.bindsN (ps := ["_law_script", "_law_names_here", "_law_guards_here"]) D__law_loads fun _ _ _ _ _ _ us hl => match us, hl with | [_, _, _], _ => rfl
  have g__law_loads := He.glo_ok X G (c.fact 8 (f := .glo "_law_loads") rfl)
  obtain ⟨fd__law_board, D__law_board⟩ := c.def_ 9 (d := d__law_board) rfl
  have bi__law_board := FunD.bindsN (ps := ["_law_script"]) D__law_board fun _ _ _ _ _ _ us hl => match us, hl with | [_], _ => rfl
  have g__law_board := He.glo_ok X G (c.fact 9 (f := .glo "_law_board") rfl)
  obtain ⟨fd_is_whole, D_is_whole⟩ := c.def_ 10 (d := d_is_whole) rfl
  have bi_is_whole := FunD.bindsN (ps := ["thing"]) D_is_whole fun _ _ _ _ _ _ us hl => match us, hl with | [_], _ => rfl
  have g_is_whole := He.glo_ok X G (c.fact 10 (f := .glo "is_whole") rfl)
  obtain ⟨fd_is_number, D_is_number⟩ := c.def_ 11 (d := d_is_number) rfl
  have bi_is_number := FunD.bindsN (ps := ["thing"]) D_is_number fun _ _ _ _ _ _ us hl => match us, hl with | [_], _ => rfl
  have g_is_number := He.glo_ok X G (c.fact 11 (f := .glo "is_number") rfl)
  obtain ⟨fd_is_pair, D_is_pair⟩ := c.def_ 12 (d := d_is_pair) rfl
  have bi_is_pair := FunD.bindsN (ps := ["thing"]) D_is_pair fun _ _ _ _ _ _ us hl => match us, hl with | [_], _ => rfl
  have g_is_pair := He.glo_ok X G (c.fact 12 (f := .glo "is_pair") rfl)
  obtain ⟨fd_is_curve, D_is_curve⟩ := c.def_ 13 (d := d_is_curve) rfl
  have bi_is_curve := FunD.bindsN (ps := ["thing"]) D_is_curve fun _ _ _ _ _ _ us hl => match us, hl with | [_], _ => rfl
  have g_is_curve := He.glo_ok X G (c.fact 13 (f := .glo "is_curve") rfl)
  obtain ⟨fd_is_name, D_is_name⟩ := c.def_ 14 (d := d_is_name) rfl
  have bi_is_name := FunD.bindsN (ps := ["thing"]) D_is_name fun _ _ _ _ _ _ us hl => match us, hl with | [_], _ => rfl
  have g_is_name := He.glo_ok X G (c.fact 14 (f := .glo "is_name") rfl)
  obtain ⟨fd_is_guard, D_is_guard⟩ := c.def_ 15 (d := d_is_guard) rfl
  have bi_is_guard := FunD.bindsN (ps := ["thing"]) D_is_guard fun _ _ _ _ _ _ us hl => match us, hl with | [_], _ => rfl
  have g_is_guard := He.glo_ok X G (c.fact 15 (f := .glo "is_guard") rfl)
  obtain ⟨fd_chain, D_chain⟩ := c.def_ 16 (d := d_chain) rfl
  have bi_chain := FunD.bindsN (ps := ["guards", "name"]) D_chain fun _ _ _ _ _ _ us hl => match us, hl with | [_, _], _ => rfl
  have g_chain := He.glo_ok X G (c.fact 16 (f := .glo "chain") rfl)
  obtain ⟨fd_guard_fits, D_guard_fits⟩ := c.def_ 17 (d := d_guard_fits) rfl
  have bi_guard_fits := FunD.bindsN (ps := ["guards", "thing"]) D_guard_fits fun _ _ _ _ _ _ us hl => match us, hl with | [_, _], _ => rfl
  have g_guard_fits := He.glo_ok X G (c.fact 17 (f := .glo "guard_fits") rfl)
  obtain ⟨fd_is_course, D_is_course⟩ := c.def_ 18 (d := d_is_course) rfl
  have bi_is_course := FunD.bindsN (ps := ["thing"]) D_is_course fun _ _ _ _ _ _ us hl => match us, hl with | [_], _ => rfl
  have g_is_course := He.glo_ok X G (c.fact 18 (f := .glo "is_course") rfl)
  obtain ⟨fd_is_load, D_is_load⟩ := c.def_ 19 (d := d_is_load) rfl
  have bi_is_load := FunD.bindsN (ps := ["thing"]) D_is_load fun _ _ _ _ _ _ us hl => match us, hl with | [_], _ => rfl
  have g_is_load := He.glo_ok X G (c.fact 19 (f := .glo "is_load") rfl)
  obtain ⟨fd_load_fits, D_load_fits⟩ := c.def_ 20 (d := d_load_fits) rfl
  have bi_load_fits := FunD.bindsN (ps := ["guards", "loads", "thing"]) D_load_fits fun _ _ _ _ _ _ us hl => match us, hl with | [_, _, _], _ => rfl
  have g_load_fits := He.glo_ok X G (c.fact 20 (f := .glo "load_fits") rfl)
  obtain ⟨fd_looked, D_looked⟩ := c.def_ 21 (d := d_looked) rfl
  have bi_looked := FunD.bindsN (ps := ["thing"]) D_looked fun _ _ _ _ _ _ us hl => match us, hl with | [_], _ => rfl
  have g_looked := He.glo_ok X G (c.fact 21 (f := .glo "looked") rfl)
  obtain ⟨fd__law_is_number, D__law_is_number⟩ := c.def_ 22 (d := d__law_is_number) rfl
  have bi__law_is_number := FunD.bindsN (ps := ["_law_thing", "_law_low"]) D__law_is_number fun _ _ _ _ _ _ us hl => match us, hl with | [_, _], _ => rfl
  have g__law_is_number := He.glo_ok X G (c.fact 22 (f := .glo "_law_is_number") rfl)
  obtain ⟨fd__law_is_name, D__law_is_name⟩ := c.def_ 23 (d := d__law_is_name) rfl
  have bi__law_is_name := FunD.bindsN (ps := ["_law_thing"]) D__law_is_name fun _ _ _ _ _ _ us hl => match us, hl with | [_], _ => rfl
  have g__law_is_name := He.glo_ok X G (c.fact 23 (f := .glo "_law_is_name") rfl)
  obtain ⟨fd__law_are_pairs, D__law_are_pairs⟩ := c.def_ 24 (d := d__law_are_pairs) rfl
  have bi__law_are_pairs := FunD.bindsN (ps := ["_law_thing", "_law_most", "_law_low"]) D__law_are_pairs fun _ _ _ _ _ _ us hl => match us, hl with | [_, _, _], _ => rfl
  have g__law_are_pairs := He.glo_ok X G (c.fact 24 (f := .glo "_law_are_pairs") rfl)
  obtain ⟨fd__law_is_curve, D__law_is_curve⟩ := c.def_ 25 (d := d__law_is_curve) rfl
  have bi__law_is_curve := FunD.bindsN (ps := ["_law_thing"]) D__law_is_curve fun _ _ _ _ _ _ us hl => match us, hl with | [_], _ => rfl
  have g__law_is_curve := He.glo_ok X G (c.fact 25 (f := .glo "_law_is_curve") rfl)
  obtain ⟨fd__law_row_right, D__law_row_right⟩ := c.def_ 26 (d := d__law_row_right) rfl
  have bi__law_row_right := FunD.bindsN (ps := ["_law_thing", "_law_word"]) D__law_row_right fun _ _ _ _ _ _ us hl => match us, hl with | [_, _], _ => rfl
  have g__law_row_right := He.glo_ok X G (c.fact 26 (f := .glo "_law_row_right") rfl)
  obtain ⟨fd__law_due, D__law_due⟩ := c.def_ 27 (d := d__law_due) rfl
  have bi__law_due := FunD.bindsN (ps := ["_law_thing"]) D__law_due fun _ _ _ _ _ _ us hl => match us, hl with | [_], _ => rfl
  have g__law_due := He.glo_ok X G (c.fact 27 (f := .glo "_law_due") rfl)
  obtain ⟨fd__law_right, D__law_right⟩ := c.def_ 28 (d := d__law_right) rfl
  have bi__law_right := FunD.bindsN (ps := ["_law_thing"]) D__law_right fun _ _ _ _ _ _ us hl => match us, hl with | [_], _ => rfl
  have g__law_right := He.glo_ok X G (c.fact 28 (f := .glo "_law_right") rfl)
  obtain ⟨fd__law_odd, D__law_odd⟩ := c.def_ 29 (d := d__law_odd) rfl
  have bi__law_odd := FunD.bindsN (ps := ["_law_feed_here", "_law_one"]) D__law_odd fun _ _ _ _ _ _ us hl => match us, hl with | [_, _], _ => rfl
  have g__law_odd := He.glo_ok X G (c.fact 29 (f := .glo "_law_odd") rfl)
  obtain ⟨fd__law_bent, D__law_bent⟩ := c.def_ 30 (d := d__law_bent) rfl
  have bi__law_bent := FunD.bindsN (ps := ["_law_feed_here", "_law_rows", "_law_names_here"]) D__law_bent fun _ _ _ _ _ _ us hl => match us, hl with | [_, _, _], _ => rfl
  have g__law_bent := He.glo_ok X G (c.fact 30 (f := .glo "_law_bent") rfl)
  obtain ⟨fd__law_topped, D__law_topped⟩ := c.def_ 31 (d := d__law_topped) rfl
  have bi__law_topped := FunD.bindsN (ps := ["_law_feed_here", "_law_guards_here", "_law_loads_here"]) D__law_topped fun _ _ _ _ _ _ us hl => match us, hl with | [_, _, _], _ => rfl
  have g__law_topped := He.glo_ok X G (c.fact 31 (f := .glo "_law_topped") rfl)
  obtain ⟨fd_law, D_law⟩ := c.def_ 32 (d := d_law) rfl
  obtain ⟨fd_NoBoard___init__, D_NoBoard___init__⟩ := c.def_ 33 (d := d_NoBoard___init__) rfl
  have bi_NoBoard___init__ := FunD.bindsN (ps := ["self", "word", "number"]) D_NoBoard___init__ fun _ _ _ _ _ _ us hl => match us, hl with | [_, _, _], _ => rfl
  have ow_NoBoard := ownInit_ok X G (cpx (ownInitB "NoBoard" ["word", "number"]) (by simp [px]))
  have bs := baseB_ok X G (cpx (baseB "BoardError") (by simp [px]))
  have e := hfa.symm.trans (He.glo_ok X G (c.fact 32 (f := .glo "law") rfl))
  cases e
  have b := FunD.bindsA (ps := ["_law_script"]) D_law fun _ _ _ _ _ _ us hl => match us, hl with | [_], _ => rfl
  refine ⟨fd_law, fun s v => b s [v] rfl, fun base _ _ => ?_⟩
  have x_NoBoard := x_NoBoard (P := P) (w := w) (base := base) ow_NoBoard bs (fun_of D_NoBoard___init__) bi_NoBoard___init__
  have k__law_cell_at := c__law_cell_at (P := P) (w := w) (base := base) ⟨fun_of D__law_cell_at, g__law_cell_at, D__law_cell_at.kp⟩ bi__law_cell_at Z  
  have k__law_feed := c__law_feed (P := P) (w := w) (base := base) ⟨fun_of D__law_feed, g__law_feed, D__law_feed.kp⟩ bi__law_feed Z  k__law_cell_at
  have k__law_take := c__law_take (P := P) (w := w) (base := base) ⟨fun_of D__law_take, g__law_take, D__law_take.kp⟩ bi__law_take Z  
  have k__law_names := c__law_names (P := P) (w := w) (base := base) ⟨fun_of D__law_names, g__law_names, D__law_names.kp⟩ bi__law_names Z  k__law_take
  have k__law_begin := c__law_begin (P := P) (w := w) (base := base) ⟨fun_of D__law_begin, g__law_begin, D__law_begin.kp⟩ bi__law_begin Z  k__law_take
  have k__law_number := c__law_number (P := P) (w := w) (base := base) ⟨fun_of D__law_number, g__law_number, D__law_number.kp⟩ bi__law_number Z  k__law_take k__law_begin
  have k__law_steps := c__law_steps (P := P) (w := w) (base := base) ⟨fun_of D__law_steps, g__law_steps, D__law_steps.kp⟩ bi__law_steps Z  k__law_take k__law_begin
  have k__law_guards := c__law_guards (P := P) (w := w) (base := base) ⟨fun_of D__law_guards, g__law_guards, D__law_guards.kp⟩ bi__law_guards Z  k__law_feed k__law_take k__law_number k__law_steps
  have k__law_loads := c__law_loads (P := P) (w := w) (base := base) ⟨fun_of D__law_loads, g__law_loads, D__law_loads.kp⟩ bi__law_loads Z  k__law_feed k__law_take k__law_begin k__law_number
  have k__law_board := c__law_board (P := P) (w := w) (base := base) ⟨fun_of D__law_board, g__law_board, D__law_board.kp⟩ bi__law_board Z  k__law_feed k__law_take k__law_names k__law_guards k__law_loads
  have k_is_whole := c_is_whole (P := P) (w := w) (base := base) ⟨fun_of D_is_whole, g_is_whole, D_is_whole.kp⟩ bi_is_whole Z  
  have k_is_number := c_is_number (P := P) (w := w) (base := base) ⟨fun_of D_is_number, g_is_number, D_is_number.kp⟩ bi_is_number Z  k_is_whole
  have k_is_pair := c_is_pair (P := P) (w := w) (base := base) ⟨fun_of D_is_pair, g_is_pair, D_is_pair.kp⟩ bi_is_pair Z  k_is_number
  have k_is_curve := c_is_curve (P := P) (w := w) (base := base) ⟨fun_of D_is_curve, g_is_curve, D_is_curve.kp⟩ bi_is_curve Z  k_is_pair
  have k_is_name := c_is_name (P := P) (w := w) (base := base) ⟨fun_of D_is_name, g_is_name, D_is_name.kp⟩ bi_is_name Z  
  have k_is_guard := c_is_guard (P := P) (w := w) (base := base) ⟨fun_of D_is_guard, g_is_guard, D_is_guard.kp⟩ bi_is_guard Z  k_is_number k_is_curve k_is_name
  have k_chain := c_chain (P := P) (w := w) (base := base) ⟨fun_of D_chain, g_chain, D_chain.kp⟩ bi_chain Z  
  have k_guard_fits := c_guard_fits (P := P) (w := w) (base := base) ⟨fun_of D_guard_fits, g_guard_fits, D_guard_fits.kp⟩ bi_guard_fits Z  k_is_guard k_chain
  have k_is_course := c_is_course (P := P) (w := w) (base := base) ⟨fun_of D_is_course, g_is_course, D_is_course.kp⟩ bi_is_course Z  k_is_pair
  have k_is_load := c_is_load (P := P) (w := w) (base := base) ⟨fun_of D_is_load, g_is_load, D_is_load.kp⟩ bi_is_load Z  k_is_number k_is_name k_is_course
  have k_load_fits := c_load_fits (P := P) (w := w) (base := base) ⟨fun_of D_load_fits, g_load_fits, D_load_fits.kp⟩ bi_load_fits Z  k_is_load
  have k_looked := c_looked (P := P) (w := w) (base := base) ⟨fun_of D_looked, g_looked, D_looked.kp⟩ bi_looked Z  k_guard_fits k_load_fits x_NoBoard
  have k__law_is_number := c__law_is_number (P := P) (w := w) (base := base) ⟨fun_of D__law_is_number, g__law_is_number, D__law_is_number.kp⟩ bi__law_is_number Z  
  have k__law_is_name := c__law_is_name (P := P) (w := w) (base := base) ⟨fun_of D__law_is_name, g__law_is_name, D__law_is_name.kp⟩ bi__law_is_name Z  
  have k__law_are_pairs := c__law_are_pairs (P := P) (w := w) (base := base) ⟨fun_of D__law_are_pairs, g__law_are_pairs, D__law_are_pairs.kp⟩ bi__law_are_pairs Z  k__law_is_number
  have k__law_is_curve := c__law_is_curve (P := P) (w := w) (base := base) ⟨fun_of D__law_is_curve, g__law_is_curve, D__law_is_curve.kp⟩ bi__law_is_curve Z  k__law_are_pairs
  have k__law_row_right := c__law_row_right (P := P) (w := w) (base := base) ⟨fun_of D__law_row_right, g__law_row_right, D__law_row_right.kp⟩ bi__law_row_right Z  k__law_is_number k__law_is_name k__law_are_pairs k__law_is_curve
  have k__law_due := c__law_due (P := P) (w := w) (base := base) ⟨fun_of D__law_due, g__law_due, D__law_due.kp⟩ bi__law_due Z  k__law_row_right
  have k__law_right := c__law_right (P := P) (w := w) (base := base) ⟨fun_of D__law_right, g__law_right, D__law_right.kp⟩ bi__law_right Z  k_looked k__law_due
  have k__law_odd := c__law_odd (P := P) (w := w) (base := base) ⟨fun_of D__law_odd, g__law_odd, D__law_odd.kp⟩ bi__law_odd Z  k__law_take
  have k__law_bent := c__law_bent (P := P) (w := w) (base := base) ⟨fun_of D__law_bent, g__law_bent, D__law_bent.kp⟩ bi__law_bent Z  k__law_take k__law_odd
  have k__law_topped := c__law_topped (P := P) (w := w) (base := base) ⟨fun_of D__law_topped, g__law_topped, D__law_topped.kp⟩ bi__law_topped Z  k__law_take
  exact c_law (fun_of D_law) Z  k__law_feed k__law_take k__law_board k__law_right k__law_bent k__law_topped
end Wk

namespace Lw
open PySem PySem.Spec L2 FB Wk
open PyProof.Rows hiding St
def fd (c r n : Int) : O := .lst [.val (.int c), .val (.int r), .val (.int n)]
/-- a feed, so many takings left -/
def Fok (k : Int) (o : O) : Prop := ∃ c r n, o = fd c r n ∧ 0 ≤ n ∧ n + k ≤ 1000000000
theorem Fok.less {k l : Int} {o : O} (h : Fok k o) (q : l ≤ k) : Fok l o := by
  obtain ⟨c, r, n, e, h1, h2⟩ := h
  exact ⟨c, r, n, e, h1, by omega⟩
/-- a script: as it came, or cut -/
def Sc (x : O) (ns : List Int) : Prop := x = .val (.scr ns) ∨ x = .val (.lst (ns.map D.int))
theorem cell_at {x : O} {ns : List Int} (h : Sc x ns) (i : Nat) : ∃ c, F__law_cell_at [x, .val (.int i)] = some (.val (.int c), [none, none]) := by
  unfold F__law_cell_at
  rw [runF_eq]
  by_cases hi : i < ns.length
  · have e0 : atI ns (i : Int) = some ns[i] := by rw [atN, List.getElem?_eq_getElem hi]
    have e1 : ixO (.val (.scr ns)) (.val (.int (i : Int))) = some (.val (.int ns[i])) := by
      show ((atI ns (i : Int)).map fun n => O.val (.int n)) = _
      rw [e0]; rfl
    have e2 : atI (ns.map D.int) (i : Int) = some (.int ns[i]) := by rw [atN, List.getElem?_map, List.getElem?_eq_getElem hi]; rfl
    refine ⟨ns[i], ?_⟩
    rcases h with h | h <;> subst h <;> simp [b__law_cell_at, hi, e1, e2] <;> rfl
  · refine ⟨0, ?_⟩
    rcases h with h | h <;> subst h <;> simp [b__law_cell_at, hi] <;> rfl
theorem feed {x : O} {ns : List Int} (h : Sc x ns) (i : Nat) (hi : i ≤ 1000) : ∃ o, F__law_feed [x, .val (.int i)] = some (o, [none, none]) ∧ Fok 900000000 o := by
  obtain ⟨c, e⟩ := cell_at h i
  have mu : mulD (.int 100) (.int (i : Int)) = some (.int (100 * (i : Int))) := by unfold mulD mulOk; simp
  refine ⟨fd c c (100 * i), ?_, c, c, 100 * i, rfl, by omega, by omega⟩
  unfold F__law_feed
  rw [runF_eq]
  rcases h with h | h <;> subst h <;> simp [b__law_feed, e, mu, fd] <;> rfl
theorem mulD_l (i j : Int) (h : i.natAbs < 18446744073709551616) : mulD (.int i) (.int j) = some (.int (i * j)) := by
  unfold mulD mulOk; simp [h]
theorem mulD_r (i j : Int) (h : j.natAbs < 18446744073709551616) : mulD (.int i) (.int j) = some (.int (i * j)) := by
  unfold mulD mulOk; simp [h]
theorem take (o : O) (m k : Int) (h : Fok (k + 1) o) (hk : 0 ≤ k) (h0 : 0 < m) (hl : m.natAbs.log2 < 9000) : ∃ r o', F__law_take [o, .val (.int m)] = some (.val (.int r), [some o', none]) ∧ Fok k o' ∧ 0 ≤ r ∧ r < m := by
  obtain ⟨c, r, n, rfl, n0, n1⟩ := h
  unfold F__law_take
  rw [runF_eq]
  have l5 : Nat.log2 5 < 9000 := by decide
  by_cases hc : 1000000000000000000 ≤ c ∧ 0 < r
  · obtain ⟨h1, h2⟩ := hc
    refine ⟨r % m, fd c (r / m) (n + 1), ?_, ⟨_, _, _, rfl, by omega, by omega⟩, Int.emod_nonneg _ (by omega), Int.emod_lt_of_pos _ h0⟩
    simp [b__law_take, fd, e_pow, h1, h2, e_mod, e_fdiv, h0, hl]
    rfl
  · have nn : mulD (.int (n + 1)) (.int (n + 1)) = some (.int ((n + 1) * (n + 1))) := mulD_l _ _ (by omega)
    have na : mulD (.int 7919) (.int (n + 1)) = some (.int (7919 * (n + 1))) := mulD_l _ _ (by decide)
    have nb : ∀ x : Int, mulD (.int x) (.int 69621) = some (.int (x * 69621)) := fun x => mulD_r _ _ (by decide)
    have nc : ∀ x : Int, mulD (.int x) (.int 48271) = some (.int (x * 48271)) := fun x => mulD_r _ _ (by decide)
    have nd : ∀ x y : Int, mulD (.int x) (.int (y % 65521 + 3)) = some (.int (x * (y % 65521 + 3))) := fun x y => mulD_r _ _ (by omega)
    have hb : ¬ (1000000000000000000 ≤ c ∧ 0 < r) := hc
    refine ⟨(let v := (c % 2147483629 * 48271 + 7919 * (n + 1) + (n + 1) * (n + 1) * 69621 + 11) % 2147483647; v * (v % 65521 + 3) % 2147483629 / 5 % m), fd c r (n + 1), ?_, ⟨_, _, _, rfl, by omega, by omega⟩, Int.emod_nonneg _ (by omega), Int.emod_lt_of_pos _ h0⟩
    by_cases h1 : 1000000000000000000 ≤ c
    · have h2 : ¬ 0 < r := fun z => hb ⟨h1, z⟩
      simp [b__law_take, fd, e_pow, h1, h2, e_mod, e_fdiv, nn, na, nb, nc, nd, h0, hl, l5]
      rfl
    · simp [b__law_take, fd, e_pow, h1, e_mod, e_fdiv, nn, na, nb, nc, nd, h0, hl, l5]
      rfl
theorem log_big {x : Int} (h0 : 0 ≤ x) (h : x ≤ 10000000000000000000000000000000000000000000000000000000000000) : x.natAbs.log2 < 9000 := by
  have h2 : x.natAbs ≤ 10000000000000000000000000000000000000000000000000000000000000 := by omega
  have h3 : x.natAbs.log2 ≤ Nat.log2 10000000000000000000000000000000000000000000000000000000000000 := by
    rcases Nat.eq_zero_or_pos x.natAbs with e | e
    · rw [e]; simp
    · rw [Nat.le_log2 (by decide)]
      exact Nat.le_trans (Nat.log2_self_le (by omega)) h2
  exact Nat.lt_of_le_of_lt h3 (by decide)
theorem begin_ (o : O) (k : Int) (h : Fok (k + 3) o) (hk : 0 ≤ k) : ∃ v o', F__law_begin [o] = some (.val (.int v), [some o']) ∧ Fok k o' ∧ 1 ≤ v ∧ v ≤ 20000000000000000000000000000000000000000000000000000000000 := by
  obtain ⟨w, o1, e1, s1, p1, q1⟩ := take o 4 (k + 2) (h.less (by omega)) (by omega) (by decide) (by decide)
  unfold F__law_begin
  rw [runF_eq]
  by_cases h1 : w < 2
  · obtain ⟨r, o2, e2, s2, p2, q2⟩ := take o1 4 (k + 1) (s1.less (by omega)) (by omega) (by decide) (by decide)
    have mu : mulD (.int w) (.int r) = some (.int (w * r)) := mulD_l _ _ (by omega)
    have hw : w = 0 ∨ w = 1 := by omega
    refine ⟨1 + w * r, o2, ?_, s2.less (by omega), ?_, ?_⟩
    · simp [b__law_begin, e1, e2, h1, mu]; rfl
    · rcases hw with e | e <;> subst e <;> omega
    · rcases hw with e | e <;> subst e <;> omega
  · by_cases h2 : w = 2
    · obtain ⟨r, o2, e2, s2, p2, q2⟩ := take o1 1000000 (k + 1) (s1.less (by omega)) (by omega) (by decide) (by decide)
      refine ⟨1 + r, o2, ?_, s2.less (by omega), by omega, by omega⟩
      simp [b__law_begin, e1, e2, h1, h2, e_pow]; rfl
    · obtain ⟨r, o2, e2, s2, p2, q2⟩ := take o1 1000000000 (k + 1) (s1.less (by omega)) (by omega) (by decide) (by decide)
      obtain ⟨r', o3, e3, s3, p3, q3⟩ := take o2 10000000000000000000000000000000000000000 k s2 (by omega) (by decide) (log_big (by decide) (by decide))
      have mu : ∀ x : Int, mulD (.int (1 + r)) (.int x) = some (.int ((1 + r) * x)) := fun x => mulD_l _ _ (by omega)
      refine ⟨(1 + r) * 10000000000000000000000000000000000000000000000000 + r', o3, ?_, s3, by omega, by omega⟩
      simp [b__law_begin, e1, e2, e3, h1, h2, e_pow, mu]; rfl
theorem number (o : O) (k : Int) (h : Fok (k + 4) o) (hk : 0 ≤ k) : ∃ v o', F__law_number [o] = some (.val (.int v), [some o']) ∧ Fok k o' ∧ 0 ≤ v ∧ v < 1000000000000000000000000000000000000000000000000000000000000 := by
  obtain ⟨w, o1, e1, s1, p1, q1⟩ := take o 5 (k + 3) (h.less (by omega)) (by omega) (by decide) (by decide)
  unfold F__law_number
  rw [runF_eq]
  by_cases h1 : w < 2
  · obtain ⟨r, o2, e2, s2, p2, q2⟩ := take o1 4 (k + 2) (s1.less (by omega)) (by omega) (by decide) (by decide)
    refine ⟨r, o2, ?_, s2.less (by omega), by omega, by omega⟩
    simp [b__law_number, e1, e2, h1]; rfl
  · by_cases h2 : w < 4
    · obtain ⟨r, o2, e2, s2, p2, q2⟩ := begin_ o1 k s1 hk
      refine ⟨r, o2, ?_, s2, by omega, by omega⟩
      simp [b__law_number, e1, e2, h1, h2]; rfl
    · obtain ⟨r, o2, e2, s2, p2, q2⟩ := take o1 3 (k + 2) (s1.less (by omega)) (by omega) (by decide) (by decide)
      refine ⟨1000000000000000000000000000000000000000000000000000000000000 - 1 - r, o2, ?_, s2.less (by omega), by omega, by omega⟩
      simp [b__law_number, e1, e2, h1, h2, e_pow]; rfl

end Lw

namespace Lw
open PySem PySem.Spec L2 FB Wk
open PyProof.Rows hiding St
def lO (ls : List Int) : O := vO (ls.map D.int)
@[simp] theorem lO_toD (ns : List Int) : (lO ns).toD = .lst (ns.map D.int) := vO_toD _
theorem lO_ix (ls : List Int) (i : Int) : ixO (lO ls) (.val (.int i)) = (atI (ls.map D.int) i).map O.val := vO_ix _ _
def top' (ls : List Int) : Int := ls.getLast?.getD 0
theorem top'_app (ls : List Int) (v : Int) : top' (ls ++ [v]) = v := by unfold top'; simp
theorem at_last {ls : List Int} (h : ls ≠ []) : atI (ls.map D.int) (-1) = some (.int (top' ls)) := by
  obtain ⟨l, v, rfl⟩ : ∃ l v, ls = l ++ [v] := ⟨ls.dropLast, ls.getLast h, (List.dropLast_concat_getLast h).symm⟩
  rw [top'_app, List.map_append, List.map_cons, List.map_nil, FB.atI_last]
/-- rising, above 0 -/
def Up (ls : List Int) : Prop := ls ≠ [] ∧ ls.Pairwise (· < ·) ∧ (∀ x ∈ ls, 1 ≤ x ∧ x ≤ top' ls) ∧ top' ls < 1000000000000000000000000000000000000000000000000000000000000
def UpN (ls : List Int) : Prop := Up ls ∧ top' ls ≤ 20000000000000000000000000000000000000000000000000000000000 * ls.length
theorem UpN.one {v : Int} (h : 1 ≤ v) (h2 : v ≤ 20000000000000000000000000000000000000000000000000000000000) : UpN [v] := by
  refine ⟨⟨by simp, by simp, ?_, ?_⟩, ?_⟩
  · intro x hx; simp at hx; subst hx; exact ⟨h, by simp [top']⟩
  · simp [top']; omega
  · simp [top']; omega
theorem UpN.app {ls : List Int} {v : Int} (h : UpN ls) (hl : ls.length < 5) (h1 : 1 ≤ v) (h2 : v ≤ 20000000000000000000000000000000000000000000000000000000000) : UpN (ls ++ [top' ls + v]) := by
  obtain ⟨⟨a1, a2, a3, a4⟩, a5⟩ := h
  refine ⟨⟨by simp, List.pairwise_append.mpr ⟨a2, by simp, fun x hx y hy => ?_⟩, fun x hx => ?_, ?_⟩, ?_⟩
  · have := (a3 x hx).2
    simp at hy
    omega
  · rw [top'_app]
    rcases List.mem_append.mp hx with hx | hx
    · have := a3 x hx
      omega
    · simp at hx
      have h3 : 1 ≤ top' ls := by
        obtain ⟨l, w, rfl⟩ : ∃ l v, ls = l ++ [v] := ⟨ls.dropLast, ls.getLast a1, (List.dropLast_concat_getLast a1).symm⟩
        rw [top'_app]
        exact (a3 w (by simp)).1
      omega
  · rw [top'_app]; omega
  · rw [top'_app, List.length_append, List.length_singleton]; omega
theorem Up.shift {ls : List Int} (h : Up ls) : Up (ls.map fun x => 1000000000000000000000000000000000000000000000000000000000000 - 1 - top' ls + x) := by
  obtain ⟨a1, a2, a3, a4⟩ := h
  have et : top' (ls.map fun x => 1000000000000000000000000000000000000000000000000000000000000 - 1 - top' ls + x) = 1000000000000000000000000000000000000000000000000000000000000 - 1 := by
    obtain ⟨l, w, e⟩ : ∃ l v, ls = l ++ [v] := ⟨ls.dropLast, ls.getLast a1, (List.dropLast_concat_getLast a1).symm⟩
    rw [e, List.map_append, List.map_cons, List.map_nil, top'_app, top'_app]; omega
  refine ⟨by simpa using a1, ?_, ?_, by rw [et]; omega⟩
  · rw [List.pairwise_map]
    exact a2.imp fun h => by omega
  · intro x hx
    obtain ⟨y, hy, rfl⟩ := List.mem_map.mp hx
    have := a3 y hy
    rw [et]; omega
theorem lO_ap (j : Nat) (ls : List Int) (v : Int) (h : ls.length < 1000) (ρ : FB.Env) : apC j (.val (.int v)) ρ (some (some (lO ls))) = .ok (.val .non) (ρ.set j (some (lO (ls ++ [v])))) := by
  unfold lO
  rw [vO_apC _ _ _ (by simp; omega)]; simp
theorem lO_apA (j : Nat) (ls : List Int) (ρ : FB.Env) (mm : M O) : apA j mm ρ (some (some (lO ls))) = apB j (mm ρ) := rfl
theorem steps_b (o : O) (k : Int) (m : Option O) (ls ts : List Int) (kk x : Option O) (h : Fok (k + 6) o) (hk : 0 ≤ k) (h1 : UpN ls) (h2 : UpN ts) (hl : ls.length < 5) (ht : ts.length < 5) : ∃ o' v w, b1__law_steps [some o, m, some (lO ls), some (lO ts), kk, x] = .ok .nx [some o', m, some (lO (ls ++ [top' ls + v])), some (lO (ts ++ [top' ts + w])), kk, x] ∧ Fok k o' ∧ UpN (ls ++ [top' ls + v]) ∧ UpN (ts ++ [top' ts + w]) := by
  obtain ⟨v, o1, e1, s1, p1, q1⟩ := begin_ o (k + 3) (h.less (by omega)) (by omega)
  obtain ⟨w, o2, e2, s2, p2, q2⟩ := begin_ o1 k s1 hk
  refine ⟨o2, v, w, ?_, s2, h1.app hl p1 q1, h2.app ht p2 q2⟩
  have a1 := at_last h1.1.1
  have a2 := at_last h2.1.1
  have i1 := lO_ix ls (-1)
  have i2 := lO_ix ts (-1)
  rw [a1] at i1
  rw [a2] at i2
  have A1 := fun ρ mm => lO_apA 2 ls ρ mm
  have A2 := fun ρ mm => lO_apA 3 ts ρ mm
  have C1 := fun v ρ => lO_ap 2 ls v (by omega) ρ
  have C2 := fun v ρ => lO_ap 3 ts v (by omega) ρ
  generalize lO ls = L1 at *
  generalize lO ts = L2 at *
  simp [b1__law_steps, e1, e2, i1, i2, A1, A2, C1, C2]
theorem shift_q1 (o m L3 kk x : Option O) (ls : List Int) (h : ls ≠ []) (hl : ls.length ≤ 5) : q1__law_steps [o, m, some (lO ls), L3, kk, x] = .ok (lO (ls.map fun x => 1000000000000000000000000000000000000000000000000000000000000 - 1 - top' ls + x)) [o, m, some (.val (.lst (ls.map D.int))), L3, kk, x] := by
  have a1 := at_last h
  have hc := compL_all (ρ := [o, m, some (.val (.lst (ls.map D.int))), L3, kk, none]) (own := [5]) (a := aN 5) (t := mTrue) (e := mP (p2 (lift2 addD) (p2 (lift2 subD) (p2 (lift2 subD) (p2 (lift2 powD) (pC (.int 10)) (pC (.int 60))) (pC (.int 1))) (p2 ixO (pVar 2) (p1 negO (pC (.int 1))))) (pVar 5)))
    D.int (fun x => O.val (.int (1000000000000000000000000000000000000000000000000000000000000 - 1 - top' ls + x))) (xs := ls) (by
    intro p hp
    exact ⟨[o, m, some (.val (.lst (ls.map D.int))), L3, kk, some (.val (.int p))], [o, m, some (.val (.lst (ls.map D.int))), L3, kk, some (.val (.int p))], [o, m, some (.val (.lst (ls.map D.int))), L3, kk, some (.val (.int p))], by simp, by simp, by simp [e_pow, a1], by simp⟩)
  simp [q1__law_steps, show ls.length ≤ 1000000 by omega]
  rw [hc]
  simp [vO, lO, bkK_eta]
theorem shift_q2 (o m L3 kk x : Option O) (ls : List Int) (h : ls ≠ []) (hl : ls.length ≤ 5) : q2__law_steps [o, m, L3, some (lO ls), kk, x] = .ok (lO (ls.map fun x => 1000000000000000000000000000000000000000000000000000000000000 - 1 - top' ls + x)) [o, m, L3, some (.val (.lst (ls.map D.int))), kk, x] := by
  have a1 := at_last h
  have hc := compL_all (ρ := [o, m, L3, some (.val (.lst (ls.map D.int))), kk, none]) (own := [5]) (a := aN 5) (t := mTrue) (e := mP (p2 (lift2 addD) (p2 (lift2 subD) (p2 (lift2 subD) (p2 (lift2 powD) (pC (.int 10)) (pC (.int 60))) (pC (.int 1))) (p2 ixO (pVar 3) (p1 negO (pC (.int 1))))) (pVar 5)))
    D.int (fun x => O.val (.int (1000000000000000000000000000000000000000000000000000000000000 - 1 - top' ls + x))) (xs := ls) (by
    intro p hp
    exact ⟨[o, m, L3, some (.val (.lst (ls.map D.int))), kk, some (.val (.int p))], [o, m, L3, some (.val (.lst (ls.map D.int))), kk, some (.val (.int p))], [o, m, L3, some (.val (.lst (ls.map D.int))), kk, some (.val (.int p))], by simp, by simp, by simp [e_pow, a1], by simp⟩)
  simp [q2__law_steps, show ls.length ≤ 1000000 by omega]
  rw [hc]
  simp [vO, lO, bkK_eta]
def pD (p : Int × Int) : D := .tup [.int p.1, .int p.2]
def cv (C : List (Int × Int)) : D := .tup (C.map pD)
/-- a right curve -/
def Cok (C : List (Int × Int)) : Prop := C ≠ [] ∧ C.length ≤ 5 ∧ C.Pairwise (fun p q => p.1 < q.1 ∧ q.2 < p.2) ∧ ∀ p ∈ C, 1 ≤ p.1 ∧ 1 ≤ p.2 ∧ p.1 < 1000000000000000000000000000000000000000000000000000000000000 ∧ p.2 < 1000000000000000000000000000000000000000000000000000000000000
theorem pair_q (o k x : Option O) (n : Nat) (ls ts : List Int) (hn : n ≤ 5) (hls : ls.length = n) (hts : ts.length = n) :
    q3__law_steps [o, some (.val (.int n)), some (lO ls), some (lO ts), k, x] = .ok (vO ((List.range n).map fun i => pD (ls.getD i 0, ts.getD (n - 1 - i) 0))) [o, some (.val (.int n)), some (lO ls), some (lO ts), k, x] := by
  have hk : ∀ k, k < n → atI (ls.map D.int) (k : Int) = some (.int (ls.getD k 0)) := fun k hk => by
    rw [atN, List.getElem?_map, List.getElem?_eq_getElem (by omega)]
    simp [List.getD_eq_getElem?_getD, List.getElem?_eq_getElem (show k < ls.length by omega)]
  have hk2 : ∀ k, k < n → atI (ts.map D.int) ((n : Int) - 1 - (k : Int)) = some (.int (ts.getD (n - 1 - k) 0)) := fun k hk => by
    rw [show (n : Int) - 1 - (k : Int) = ((n - 1 - k : Nat) : Int) by omega, atN, List.getElem?_map, List.getElem?_eq_getElem (by omega)]
    simp [List.getD_eq_getElem?_getD, List.getElem?_eq_getElem (show n - 1 - k < ts.length by omega)]
  have sn := small_nat (n := n) (by omega)
  have hlen := rangeL_len 0 n
  have hc := compL_all (ρ := [o, some (.val (.int n)), some (lO ls), some (lO ts), none, x]) (own := [4]) (a := aN 4) (t := mTrue) (e := mP (pTup (pCons (p2 ixO (pVar 2) (pVar 4)) (pCons (p2 ixO (pVar 3) (p2 (lift2 subD) (p2 (lift2 subD) (pVar 1) (pC (.int 1))) (pVar 4))) (pNil)))))
    (fun i : Nat => D.int (0 + (i : Int))) (fun i => O.val (pD (ls.getD i 0, ts.getD (n - 1 - i) 0))) (xs := List.range n) (by
      intro i hi
      have hi : i < n := by simpa using hi
      refine ⟨[o, some (.val (.int n)), some (lO ls), some (lO ts), some (.val (.int i)), x], [o, some (.val (.int n)), some (lO ls), some (lO ts), some (.val (.int i)), x], [o, some (.val (.int n)), some (lO ls), some (lO ts), some (.val (.int i)), x], ?_, ?_, ?_, ?_⟩
      · simp
      · simp
      · simp [lO, hk i hi, hk2 i hi, pD]
      · simp)
  simp [q3__law_steps, sn, hlen, show n ≤ 1000000 by omega]
  unfold rangeL
  rw [hc]
  simp [vO, bkK_eta]
theorem getD_lt {ls : List Int} (h : ls.Pairwise (· < ·)) {i j : Nat} (hij : i < j) (hj : j < ls.length) : ls.getD i 0 < ls.getD j 0 := by
  have q := (List.pairwise_iff_getElem.mp h) i j (by omega) hj hij
  simpa [List.getD_eq_getElem?_getD, List.getElem?_eq_getElem hj, List.getElem?_eq_getElem (show i < ls.length by omega)] using q
theorem Up.at {ls : List Int} (h : Up ls) {k : Nat} (hk : k < ls.length) : 1 ≤ ls.getD k 0 ∧ ls.getD k 0 < 1000000000000000000000000000000000000000000000000000000000000 := by
  rw [List.getD_eq_getElem?_getD, List.getElem?_eq_getElem hk]
  have := h.2.2.1 _ (List.getElem_mem hk)
  have := h.2.2.2
  exact ⟨by show 1 ≤ ls[k]; omega, by show ls[k] < _; omega⟩
theorem steps (o : O) (k : Int) (h : Fok (k + 40) o) (hk : 0 ≤ k) : ∃ C o', F__law_steps [o] = some (.val (cv C), [some o']) ∧ Fok k o' ∧ Cok C := by
  obtain ⟨r, o1, e1, s1, p1, q1⟩ := take o 5 (k + 39) (h.less (by omega)) (by omega) (by decide) (by decide)
  obtain ⟨v, o2, e2, s2, p2, q2⟩ := begin_ o1 (k + 36) (s1.less (by omega)) (by omega)
  obtain ⟨w, o3, e3, s3, p3, q3⟩ := begin_ o2 (k + 33) (s2.less (by omega)) (by omega)
  obtain ⟨n, hn⟩ : ∃ n : Nat, r = (n : Int) := ⟨r.toNat, by omega⟩
  subst hn
  obtain ⟨ρ', f1, o4, ls, ts, x4, rfl, s4, hls, hts, u1, u2⟩ := forL_inv (a := aN 4) (b := b1__law_steps) (ds := rangeL 0 n) (fun i ρ => ∃ o ls ts x4, ρ = [some o, some (.val (.int (1 + (n : Int)))), some (lO ls), some (lO ts), x4, none] ∧ Fok (k + 33 - 6 * i) o ∧ ls.length = i + 1 ∧ ts.length = i + 1 ∧ UpN ls ∧ UpN ts) (ρ := [some o3, some (.val (.int (1 + (n : Int)))), some (lO [v]), some (lO [w]), none, none])
    ⟨o3, [v], [w], none, rfl, s3.less (by omega), rfl, rfl, UpN.one p2 q2, UpN.one p3 q3⟩ (by
      rintro i d ρ hd ⟨o, ls, ts, x4, rfl, so, hls, hts, u1, u2⟩
      obtain ⟨hi, rfl⟩ := rangeL_get hd
      obtain ⟨o', v', w', eb, s', u1', u2'⟩ := steps_b o (k + 33 - 6 * ((i + 1 : Nat) : Int)) (some (.val (.int (1 + (n : Int))))) ls ts (some (.val (.int (0 + (i : Int))))) none (so.less (by push_cast; omega)) (by push_cast; omega) u1 u2 (by omega) (by omega)
      exact ⟨[some o, some (.val (.int (1 + (n : Int)))), some (lO ls), some (lO ts), some (.val (.int (0 + (i : Int)))), none], _, by simp, .inl eb, o', _, _, _, rfl, s', by simp [hls], by simp [hts], u1', u2'⟩)
  rw [rangeL_len] at hls hts s4
  have e5 : ((n + 1 : Nat) : Int) = 1 + (n : Int) := by omega
  obtain ⟨r5, o5, e5', s5, p5, q5⟩ := take o4 4 (k + 2) (s4.less (by omega)) (by omega) (by decide) (by decide)
  obtain ⟨r6, o6, e6, s6, p6, q6⟩ := take o5 4 (k + 1) (s5.less (by omega)) (by omega) (by decide) (by decide)
  have sn := small_nat (n := n) (by omega)
  have main : ∀ ls' ts' : List Int, ls'.length = n + 1 → ts'.length = n + 1 → Up ls' → Up ts' → Cok ((List.range (n + 1)).map fun i => (ls'.getD i 0, ts'.getD (n + 1 - 1 - i) 0)) := by
    intro ls' ts' h1 h2 h3 h4
    refine ⟨?_, by simp; omega, ?_, ?_⟩
    · intro z
      have := congrArg List.length z
      simp at this
    · rw [List.pairwise_map]
      refine List.Pairwise.imp_of_mem ?_ (List.pairwise_lt_range (n := n + 1))
      intro i j hi hj hij
      have hi : i < n + 1 := by simpa using hi
      have hj : j < n + 1 := by simpa using hj
      exact ⟨getD_lt h3.2.1 hij (by omega), getD_lt h4.2.1 (by omega) (by omega)⟩
    · intro p hp
      obtain ⟨i, hi, rfl⟩ := List.mem_map.mp hp
      have hi : i < n + 1 := by simpa using hi
      have t1 := h3.at (k := i) (by omega)
      have t2 := h4.at (k := n + 1 - 1 - i) (by omega)
      exact ⟨t1.1, t2.1, t1.2, t2.2⟩
  have f1 : forL (aN 4) b1__law_steps (rangeL 0 n) [some o3, some (.val (.int (1 + (n : Int)))), some (O.lst [.val (.int v)]), some (O.lst [.val (.int w)]), none, none] = _ := f1
  have hp := fun ls' ts' h1 h2 => pair_q (some o6) x4 none (n + 1) ls' ts' (by omega) h1 h2
  rw [e5] at hp
  have sub1 : (1 : Int) + (n : Int) - 1 = n := by omega
  unfold F__law_steps
  rw [runF_eq]
  have S1 := fun (L3 : Option O) => shift_q1 (some o5) (some (.val (.int (1 + (n : Int))))) L3 x4 none ls u1.1.1 (by omega)
  have S2 := fun (L3 : Option O) => shift_q2 (some o6) (some (.val (.int (1 + (n : Int))))) L3 x4 none ts u2.1.1 (by omega)
  have fin : ∀ C : List (Int × Int), tupO (vO (C.map pD)) = some (.val (cv C)) := fun C => by simp [cv, tupO]
  by_cases h5 : r5 = 0
  · subst h5
    by_cases h6 : r6 = 0
    · subst h6
      refine ⟨_, o6, ?_, s6.less (by omega), main (ls.map fun x => 1000000000000000000000000000000000000000000000000000000000000 - 1 - top' ls + x) (ts.map fun x => 1000000000000000000000000000000000000000000000000000000000000 - 1 - top' ts + x) (by simpa using hls) (by simpa using hts) u1.1.shift u2.1.shift⟩
      have P := hp (ls.map fun x => 1000000000000000000000000000000000000000000000000000000000000 - 1 - top' ls + x) (ts.map fun x => 1000000000000000000000000000000000000000000000000000000000000 - 1 - top' ts + x) (by simpa using hls) (by simpa using hts)
      generalize (ls.map fun x => 1000000000000000000000000000000000000000000000000000000000000 - 1 - top' ls + x) = A1 at *
      generalize (ts.map fun x => 1000000000000000000000000000000000000000000000000000000000000 - 1 - top' ts + x) = A2 at *
      simp [b__law_steps, e1, e2, e3, sub1, sn, f1, e5', e6, S1, S2, P]
      refine ⟨?_, rfl⟩
      unfold cv
      rw [List.map_map]; rfl
    · skip
      refine ⟨_, o6, ?_, s6.less (by omega), main (ls.map fun x => 1000000000000000000000000000000000000000000000000000000000000 - 1 - top' ls + x) ts (by simpa using hls) hts u1.1.shift u2.1⟩
      have P := hp (ls.map fun x => 1000000000000000000000000000000000000000000000000000000000000 - 1 - top' ls + x) ts (by simpa using hls) hts
      generalize (ls.map fun x => 1000000000000000000000000000000000000000000000000000000000000 - 1 - top' ls + x) = A1 at *
      simp [b__law_steps, e1, e2, e3, sub1, sn, f1, e5', e6, S1, S2, P, h6]
      refine ⟨?_, rfl⟩
      unfold cv
      rw [List.map_map]; rfl
  · by_cases h6 : r6 = 0
    · subst h6
      refine ⟨_, o6, ?_, s6.less (by omega), main ls (ts.map fun x => 1000000000000000000000000000000000000000000000000000000000000 - 1 - top' ts + x) hls (by simpa using hts) u1.1 u2.1.shift⟩
      have P := hp ls (ts.map fun x => 1000000000000000000000000000000000000000000000000000000000000 - 1 - top' ts + x) hls (by simpa using hts)
      generalize (ts.map fun x => 1000000000000000000000000000000000000000000000000000000000000 - 1 - top' ts + x) = A2 at *
      simp [b__law_steps, e1, e2, e3, sub1, sn, f1, e5', e6, S1, S2, P, h5]
      refine ⟨?_, rfl⟩
      unfold cv
      rw [List.map_map]; rfl
    · skip
      refine ⟨_, o6, ?_, s6.less (by omega), main ls ts hls hts u1.1 u2.1⟩
      have P := hp ls ts hls hts
      simp [b__law_steps, e1, e2, e3, sub1, sn, f1, e5', e6, S1, S2, P, h5, h6]
      refine ⟨?_, rfl⟩
      unfold cv
      rw [List.map_map]; rfl

end Lw

namespace Lw
open PySem PySem.Spec L2 FB Wk
open PyProof.Rows hiding St
def nO (ns : List (List Nat)) : O := vO (ns.map fun l => D.str (SL l))
def lN (bs : List Nat) : O := vO (bs.map fun b : Nat => D.int (b : Int))
theorem lN_set (bs : List Nat) (i v : Nat) (h : i < bs.length) : setItO (lN bs) (.val (.int (i : Int))) (.val (.int (v : Int))) = some (lN (bs.set i v)) := by
  unfold lN
  rw [vO_set _ _ _ (by simpa using h)]; simp
theorem lV_ix (bs : List Nat) (i : Nat) (h : i < bs.length) : ixO (.val (.lst (bs.map fun b : Nat => D.int (b : Int)))) (.val (.int (i : Int))) = some (.val (.int (bs.getD i 0 : Nat))) := by
  show ((atI (bs.map fun b : Nat => D.int (b : Int)) (i : Int)).map O.val) = _
  rw [atN, List.getElem?_map, List.getElem?_eq_getElem h]
  simp [List.getD_eq_getElem?_getD, List.getElem?_eq_getElem h]
theorem rep1 (n c : Nat) : (List.replicate n [c]).flatten = List.replicate n c := by simp
def nmA (f k : Nat) : List Nat := List.replicate (1 + k / 26) ((f + k) % 26)
theorem nmA_ok (f k : Nat) (h : k < 40) : NameOk (nmA f k) := by
  refine ⟨by unfold nmA; simp, by unfold nmA; simp; omega, fun c hc => ?_⟩
  unfold nmA at hc
  rw [(List.mem_replicate.mp hc).2]; omega
theorem nmA_inj {f i j : Nat} (hi : i < 40) (hj : j < 40) (h : nmA f i = nmA f j) : i = j := by
  have h1 : (nmA f i).length = (nmA f j).length := by rw [h]
  unfold nmA at h1 h
  simp at h1
  have h2 : (List.replicate (1 + i / 26) ((f + i) % 26)).head? = (List.replicate (1 + j / 26) ((f + j) % 26)).head? := by rw [h]
  rw [List.head?_replicate, List.head?_replicate, if_neg (by omega), if_neg (by omega)] at h2
  simp at h2
  omega
theorem nodup_range {α : Type} (g : Nat → α) (n : Nat) (h : ∀ i j, i < n → j < n → g i = g j → i = j) : ((List.range n).map g).Nodup := by
  unfold List.Nodup
  rw [List.pairwise_map]
  refine List.Pairwise.imp_of_mem ?_ (List.pairwise_lt_range (n := n))
  intro i j hi hj hij e
  have := h i j (by simpa using hi) (by simpa using hj) e
  omega
theorem names_q1 (a0 a4 a5 a6 a7 a8 a9 aa x ac ad : Option O) (f m : Nat) (hf : f < 26) (hm : m ≤ 40) : q1__law_names [a0, some (.val (.int (m : Int))), some (.val (.str "abcdefghijklmnopqrstuvwxyz")), some (.val (.int (f : Int))), a4, a5, a6, a7, a8, a9, aa, x, ac, ad] =
    .ok (nO ((List.range m).map (nmA f))) [a0, some (.val (.int (m : Int))), some (.val (.str "abcdefghijklmnopqrstuvwxyz")), some (.val (.int (f : Int))), a4, a5, a6, a7, a8, a9, aa, x, ac, ad] := by
  have sn := small_nat (n := m) (by omega)
  have l26 : Nat.log2 26 < 9000 := by decide
  have hc := compL_all (ρ := [a0, some (.val (.int (m : Int))), some (.val (.str "abcdefghijklmnopqrstuvwxyz")), some (.val (.int (f : Int))), a4, a5, a6, a7, a8, a9, aa, none, ac, ad]) (own := [11]) (a := aN 11) (t := mTrue) (e := mP (p2 (lift2 mulD) (p2 ixO (pVar 2) (p2 (lift2 modD) (p2 (lift2 addD) (pVar 3) (pVar 11)) (pC (.int 26)))) (p2 (lift2 addD) (pC (.int 1)) (p2 (lift2 fdivD) (pVar 11) (pC (.int 26))))))
    (fun i : Nat => D.int (0 + (i : Int))) (fun i => O.val (.str (SL (nmA f i)))) (xs := List.range m) (by
    intro i hi
    have hi : i < m := by simpa using hi
    have e1 : ((f : Int) + (i : Int)) % 26 = (((f + i) % 26 : Nat) : Int) := by omega
    have e2 : (1 : Int) + (i : Int) / 26 = ((1 + i / 26 : Nat) : Int) := by omega
    have e3 := letter_at ((f + i) % 26) (by omega)
    have e4 := mulD_SL [(f + i) % 26] (1 + i / 26) (by omega) (by simp; omega)
    rw [rep1] at e4
    refine ⟨[a0, some (.val (.int (m : Int))), some (.val (.str "abcdefghijklmnopqrstuvwxyz")), some (.val (.int (f : Int))), a4, a5, a6, a7, a8, a9, aa, some (.val (.int (i : Int))), ac, ad], [a0, some (.val (.int (m : Int))), some (.val (.str "abcdefghijklmnopqrstuvwxyz")), some (.val (.int (f : Int))), a4, a5, a6, a7, a8, a9, aa, some (.val (.int (i : Int))), ac, ad], [a0, some (.val (.int (m : Int))), some (.val (.str "abcdefghijklmnopqrstuvwxyz")), some (.val (.int (f : Int))), a4, a5, a6, a7, a8, a9, aa, some (.val (.int (i : Int))), ac, ad], by simp, by simp, ?_, by simp⟩
    have e6 := @e_mod ((f : Int) + (i : Int)) 26 (by decide)
    have e7 := @e_fdiv (i : Int) 26 (by decide) (by decide)
    rw [← e1] at e3
    rw [← e2] at e4
    simp [e6, e7, e3, e4, nmA])
  simp [q1__law_names, sn, rangeL_len, show m ≤ 1000000 by omega]
  unfold rangeL
  rw [hc]
  simp [vO, nO, bkK_eta]

end Lw

namespace Lw
open PySem PySem.Spec L2 FB Wk
open PyProof.Rows hiding St
theorem names_q2 (o : O) (k : Int) (n : Nat) (a1 a2 a3 a4 a5 a7 a8 a9 aa x ac ad : Option O) (h : Fok (k + 8) o) (hk : 0 ≤ k) (hn : n ≤ 8) : ∃ o' bs, q2__law_names [some o, a1, a2, a3, a4, a5, some (.val (.int (n : Int))), a7, a8, a9, aa, x, ac, ad] =
    .ok (lN bs) [some o', a1, a2, a3, a4, a5, some (.val (.int (n : Int))), a7, a8, a9, aa, x, ac, ad] ∧ Fok k o' ∧ bs.length = n ∧ ∀ b ∈ bs, b < 26 := by
  have sn := small_nat (n := n) (by omega)
  obtain ⟨os, ρ', hc, hl, hp, o', e, s'⟩ := compL_inv (own := [11]) (a := aN 11) (e := mCall F__law_take [.io 0, .v (mP (pC (.int 26)))]) (ds := rangeL 0 n) (ρ := [some o, a1, a2, a3, a4, a5, some (.val (.int (n : Int))), a7, a8, a9, aa, none, ac, ad])
    (fun i ρ => ∃ o, ρ = [some o, a1, a2, a3, a4, a5, some (.val (.int (n : Int))), a7, a8, a9, aa, none, ac, ad] ∧ Fok (k + 8 - i) o) (fun _ o => ∃ b : Nat, b < 26 ∧ o = .val (.int (b : Int))) ⟨o, rfl, h.less (by omega)⟩ (by
      rintro i d ρ hd ⟨o, rfl, so⟩
      obtain ⟨hi, rfl⟩ := rangeL_get hd
      obtain ⟨r, o', e, s', p, q⟩ := take o 26 (k + 8 - ((i + 1 : Nat) : Int)) (so.less (by push_cast; omega)) (by push_cast; omega) (by decide) (by decide)
      exact ⟨[some o, a1, a2, a3, a4, a5, some (.val (.int (n : Int))), a7, a8, a9, aa, some (.val (.int (0 + (i : Int)))), ac, ad], .val (.int r), [some o', a1, a2, a3, a4, a5, some (.val (.int (n : Int))), a7, a8, a9, aa, some (.val (.int (0 + (i : Int)))), ac, ad], by simp, by simp [e], ⟨r.toNat, by omega, by rw [show ((r.toNat : Nat) : Int) = r by omega]⟩, o', by simp, s'⟩)
  subst e
  rw [rangeL_len] at hl s'
  obtain ⟨bs, e2, hb⟩ := list_of (fun b : Nat => O.val (.int (b : Int))) (fun b => b < 26) hp
  subst e2
  refine ⟨o', bs, ?_, s'.less (by omega), by simpa using hl, hb⟩
  have hc : compL [11] (aN 11) mTrue (mCall F__law_take [.io 0, .v (mP (pC (.int 26)))]) (rangeL 0 n) [some o, a1, a2, a3, a4, a5, some (.val (.int (n : Int))), a7, a8, a9, aa, none, ac, ad] = _ := hc
  simp [q2__law_names, sn, rangeL_len, show n ≤ 1000000 by omega]
  rw [hc]
  simp [lN, vO, bkK_eta]
/-- the k-th name of one base -/
def nmB (bs : List Nat) (a b l f k : Nat) : List Nat := (bs.set a ((bs.getD a 0 + k) % 26)).set b ((bs.getD b 0 + k / 26) % 26) ++ List.replicate (l * (k % 2)) f
theorem nmB_ok {bs : List Nat} {a b l f : Nat} (k : Nat) (h0 : 2 ≤ bs.length) (h8 : bs.length + l ≤ 8) (hl : l ≤ 1) (hb : ∀ b ∈ bs, b < 26) (hf : f < 26) : NameOk (nmB bs a b l f k) := by
  have hk : k % 2 ≤ 1 := by omega
  have hlk : l * (k % 2) ≤ l := by
    have := Nat.mul_le_mul_left l hk
    omega
  refine ⟨by unfold nmB; simp; omega, by unfold nmB; simp; omega, fun c hc => ?_⟩
  unfold nmB at hc
  rcases List.mem_append.mp hc with hc | hc
  · rcases List.mem_or_eq_of_mem_set hc with hc | hc
    · rcases List.mem_or_eq_of_mem_set hc with hc | hc
      · exact hb c hc
      · omega
    · omega
  · rw [(List.mem_replicate.mp hc).2]; exact hf
theorem nmB_inj {bs : List Nat} {a b l f i j : Nat} (ha : a < bs.length) (hb : b < bs.length) (hab : a ≠ b) (hi : i < 40) (hj : j < 40) (h : nmB bs a b l f i = nmB bs a b l f j) : i = j := by
  unfold nmB at h
  have h1 := congrArg (fun z => z[a]?) h
  have h2 := congrArg (fun z => z[b]?) h
  rw [List.getElem?_append_left (by simp; exact ha), List.getElem?_append_left (by simp; exact ha), List.getElem?_set_ne hab.symm, List.getElem?_set_ne hab.symm, List.getElem?_set_self ha, List.getElem?_set_self ha] at h1
  rw [List.getElem?_append_left (by simp; exact hb), List.getElem?_append_left (by simp; exact hb), List.getElem?_set_self (by simpa using hb), List.getElem?_set_self (by simpa using hb)] at h2
  have h1 := Option.some.inj h1
  have h2 := Option.some.inj h2
  omega
theorem nO_ap (ns : List (List Nat)) (l : List Nat) (h : ns.length < 1000) (ρ : FB.Env) : apC 5 (.val (.str (SL l))) ρ (some (some (nO ns))) = .ok (.val .non) (ρ.set 5 (some (nO (ns ++ [l])))) := by
  unfold nO
  rw [vO_apC _ _ _ (by simp; omega)]; simp
theorem lN_sh (bs : List Nat) : (lN bs).sh = some (.lst (bs.map fun b : Nat => D.int (b : Int))) := vO_sh _
theorem names_q3 (a0 a1 a3 a4 a5 a6 a7 a8 a9 aa ab x : Option O) (bs : List Nat) (hb : ∀ b ∈ bs, b < 26) (hl : bs.length ≤ 8) : q3__law_names [a0, a1, some (.val (.str "abcdefghijklmnopqrstuvwxyz")), a3, a4, a5, a6, a7, a8, a9, aa, ab, some (lN bs), x] =
    .ok (nO (bs.map fun b => [b])) [a0, a1, some (.val (.str "abcdefghijklmnopqrstuvwxyz")), a3, a4, a5, a6, a7, a8, a9, aa, ab, some (lN bs), x] := by
  have hc := compL_all (ρ := [a0, a1, some (.val (.str "abcdefghijklmnopqrstuvwxyz")), a3, a4, a5, a6, a7, a8, a9, aa, ab, none, none]) (own := [13]) (a := aN 13) (t := mTrue) (e := mP (p2 ixO (pVar 2) (pVar 13)))
    (fun b : Nat => D.int (b : Int)) (fun b => O.val (.str (SL [b]))) (xs := bs) (by
    intro b h
    have e3 := letter_at b (hb b h)
    exact ⟨[a0, a1, some (.val (.str "abcdefghijklmnopqrstuvwxyz")), a3, a4, a5, a6, a7, a8, a9, aa, ab, none, some (.val (.int (b : Int)))], [a0, a1, some (.val (.str "abcdefghijklmnopqrstuvwxyz")), a3, a4, a5, a6, a7, a8, a9, aa, ab, none, some (.val (.int (b : Int)))], [a0, a1, some (.val (.str "abcdefghijklmnopqrstuvwxyz")), a3, a4, a5, a6, a7, a8, a9, aa, ab, none, some (.val (.int (b : Int)))], by simp, by simp, by simp [e3], by simp⟩)
  have e1 : lstN 12 [a0, a1, some (.val (.str "abcdefghijklmnopqrstuvwxyz")), a3, a4, a5, a6, a7, a8, a9, aa, ab, some (lN bs), x] = some (bs.map fun b : Nat => D.int (b : Int)) := lstN_of rfl (lN_sh bs)
  have q := e_mCompG (f := lstN 12) (wi := wiN 12) (re := reN 12) (own := own2 [("_law_one", 13)]) (a := aN 13) (t := mTrue) (e := mP (p2 ixO (pVar 2) (pVar 13))) e1 (by simp; omega) hc
  refine q.trans ?_
  have e2 : bs.map (fun b => O.val (.str (SL [b]))) = ((bs.map fun b => [b]).map fun l => D.str (SL l)).map O.val := by rw [List.map_map, List.map_map]; rfl
  rw [e2]
  cases x <;> rfl
theorem names_b (a0 a1 a4 x12 x13 : Option O) (bs : List Nat) (a b l f k : Nat) (ns : List (List Nat)) (n : Nat) (hn : bs.length = n) (h2 : 2 ≤ n) (h8 : n + l ≤ 8) (hl : l ≤ 1) (hb : ∀ b ∈ bs, b < 26) (hf : f < 26) (ha : a < n) (hbb : b < n) (hab : a ≠ b) (hk : k < 40) (hns : ns.length < 100) :
    ∃ y12 y13, b1__law_names [a0, a1, some (.val (.str "abcdefghijklmnopqrstuvwxyz")), some (.val (.int (f : Int))), a4, some (nO ns), some (.val (.int (n : Int))), some (.val (.lst (bs.map fun b : Nat => D.int (b : Int)))), some (.val (.int (a : Int))), some (.val (.int (b : Int))), some (.val (.int (l : Int))), some (.val (.int (k : Int))), x12, x13] =
      .ok .nx [a0, a1, some (.val (.str "abcdefghijklmnopqrstuvwxyz")), some (.val (.int (f : Int))), a4, some (nO (ns ++ [nmB bs a b l f k])), some (.val (.int (n : Int))), some (.val (.lst (bs.map fun b : Nat => D.int (b : Int)))), some (.val (.int (a : Int))), some (.val (.int (b : Int))), some (.val (.int (l : Int))), some (.val (.int (k : Int))), y12, y13] := by
  subst hn
  have lw : listW (.val (.lst (bs.map fun b : Nat => D.int (b : Int)))) = some (bs.map fun b : Nat => D.int (b : Int)) := rfl
  have i1 := lV_ix bs a ha
  have i2 := lV_ix bs b hbb
  have e1 : (((bs.getD a 0 : Nat) : Int) + (k : Int)) % 26 = (((bs.getD a 0 + k) % 26 : Nat) : Int) := by omega
  have e2 : (((bs.getD b 0 : Nat) : Int) + (k : Int) / 26) % 26 = (((bs.getD b 0 + k / 26) % 26 : Nat) : Int) := by omega
  have m1 := @e_mod (((bs.getD a 0 : Nat) : Int) + (k : Int)) 26 (by decide)
  have m2 := @e_mod (((bs.getD b 0 : Nat) : Int) + (k : Int) / 26) 26 (by decide)
  have m3 := @e_fdiv (k : Int) 26 (by decide) (by decide)
  have m4 := @e_mod (k : Int) 2 (by decide)
  have S1 := lN_set bs a ((bs.getD a 0 + k) % 26) ha
  have S2 := lN_set (bs.set a ((bs.getD a 0 + k) % 26)) b ((bs.getD b 0 + k / 26) % 26) (by simpa using hbb)
  rw [← e1] at S1
  rw [← e2] at S2
  have hb2 : ∀ c ∈ (bs.set a ((bs.getD a 0 + k) % 26)).set b ((bs.getD b 0 + k / 26) % 26), c < 26 := fun c hc => by
    rcases List.mem_or_eq_of_mem_set hc with hc | hc
    · rcases List.mem_or_eq_of_mem_set hc with hc | hc
      · exact hb c hc
      · omega
    · omega
  have hl2 : ((bs.set a ((bs.getD a 0 + k) % 26)).set b ((bs.getD b 0 + k / 26) % 26)).length = bs.length := by simp
  have Q := fun a0 a1 a3 a4 a5 a6 a7 a8 a9 aa ab x => names_q3 a0 a1 a3 a4 a5 a6 a7 a8 a9 aa ab x ((bs.set a ((bs.getD a 0 + k) % 26)).set b ((bs.getD b 0 + k / 26) % 26)) hb2 (by rw [hl2]; omega)
  have ap : ∀ (ρ : FB.Env) (mm : M O), apA 5 mm ρ (some (some (nO ns))) = apB 5 (mm ρ) := fun ρ mm => rfl
  have ac := fun l ρ => nO_ap ns l (by omega) ρ
  have eb : nmB bs a b l f k = (bs.set a ((bs.getD a 0 + k) % 26)).set b ((bs.getD b 0 + k / 26) % 26) ++ List.replicate (l * (k % 2)) f := rfl
  rw [eb]
  generalize (bs.set a ((bs.getD a 0 + k) % 26)).set b ((bs.getD b 0 + k / 26) % 26) = B2 at *
  have jt : (nO (B2.map fun b => [b])).toD = .lst (((B2.map fun b => [b]).map SL).map D.str) := by
    unfold nO; rw [vO_toD, List.map_map, List.map_map, List.map_map]; rfl
  have jn := joinD_SL (B2.map fun b => [b]) (by
    rw [List.map_map]
    have : ((fun l : List Nat => l.length) ∘ fun b : Nat => [b]) = fun _ => 1 := rfl
    rw [show (List.length ∘ fun b : Nat => [b]) = fun _ => 1 from rfl]
    have one : ∀ L : List Nat, (L.map fun _ => 1).sum = L.length := fun L => by
      induction L with
      | nil => rfl
      | cons x L ih => rw [List.map_cons, List.sum_cons, ih, List.length_cons]; omega
    rw [one]; omega)
  have fl : (B2.map fun b => [b]).flatten = B2 := by
    clear jn jt Q S2 hl2 hb2 eb
    induction B2 with
    | nil => rfl
    | cons b B ih => simpa using ih
  rw [fl] at jn
  rw [← jt] at jn
  have hk2 : k % 2 ≤ 1 := by omega
  have hlk : l * (k % 2) ≤ 1 := by
    have := Nat.mul_le_mul hl hk2
    omega
  have e3 := letter_at f hf
  have mu : mulD (.int (l : Int)) (.int ((k : Int) % 2)) = some (.int ((l * (k % 2) : Nat) : Int)) := by
    rw [mulD_l _ _ (by omega), show ((l * (k % 2) : Nat) : Int) = (l : Int) * ((k : Int) % 2) by push_cast; rfl]
  have mr := mulD_SL [f] (l * (k % 2)) (by omega) (by simp; omega)
  rw [rep1] at mr
  have ad := addD_SL B2 (List.replicate (l * (k % 2)) f) (by simp; omega)
  have lNe : (vO (bs.map fun b : Nat => D.int (b : Int))) = lN bs := rfl
  generalize ((l * (k % 2) : Nat) : Int) = LK at *
  generalize nO (B2.map fun b => [b]) = JJ at *
  generalize bs.getD a 0 = va at *
  generalize bs.getD b 0 = vb at *
  refine ⟨some (lN B2), x13, ?_⟩
  simp [b1__law_names, lw, lNe, i1, i2, m1, m2, m3, m4, S1, S2, Q, ap, ac, jn, e3, mu, mr, ad]

end Lw

namespace Lw
open PySem PySem.Spec L2 FB Wk
open PyProof.Rows hiding St
theorem nodup_set {α : Type} {l : α} : ∀ {ns : List α} {i : Nat}, ns.Nodup → l ∉ ns → (ns.set i l).Nodup
  | [], _, _, _ => by simp
  | x :: ns, 0, h, hn => by
    rw [List.set_cons_zero, List.nodup_cons]
    exact ⟨fun z => hn (List.mem_cons_of_mem _ z), (List.nodup_cons.mp h).2⟩
  | x :: ns, i + 1, h, hn => by
    rw [List.set_cons_succ, List.nodup_cons]
    refine ⟨fun z => ?_, nodup_set (List.nodup_cons.mp h).2 fun z => hn (List.mem_cons_of_mem _ z)⟩
    rcases List.mem_or_eq_of_mem_set z with q | q
    · exact (List.nodup_cons.mp h).1 q
    · exact hn (by rw [q]; exact List.mem_cons_self ..)
theorem word_at (r : Int) (h0 : 0 ≤ r) (h : r < 11) : ∃ l, atI [O.val (.str "guard"), O.val (.str "load"), O.val (.str "on"), O.val (.str "off"), O.val (.str "board"), O.val (.str "map"), O.val (.str "least"), O.val (.str ""), O.val (.str ""), O.val (.str ""), O.val (.str "")] r = some (.val (.str (SL l))) ∧ (l = [] ∨ NameOk l) := by
  have e1 : ("guard" : Str) = SL [6, 20, 0, 17, 3] := by decide +kernel
  have e2 : ("load" : Str) = SL [11, 14, 0, 3] := by decide +kernel
  have e3 : ("on" : Str) = SL [14, 13] := by decide +kernel
  have e4 : ("off" : Str) = SL [14, 5, 5] := by decide +kernel
  have e5 : ("board" : Str) = SL [1, 14, 0, 17, 3] := by decide +kernel
  have e6 : ("map" : Str) = SL [12, 0, 15] := by decide +kernel
  have e7 : ("least" : Str) = SL [11, 4, 0, 18, 19] := by decide +kernel
  have e8 : ("" : Str) = SL [] := by decide +kernel
  rw [e1, e2, e3, e4, e5, e6, e7, e8]
  have : r = 0 ∨ r = 1 ∨ r = 2 ∨ r = 3 ∨ r = 4 ∨ r = 5 ∨ r = 6 ∨ r = 7 ∨ r = 8 ∨ r = 9 ∨ r = 10 := by omega
  rcases this with e | e | e | e | e | e | e | e | e | e | e <;> subst e
  · exact ⟨[6, 20, 0, 17, 3], (atN _ 0).trans rfl, .inr ⟨by decide, by decide, by decide⟩⟩
  · exact ⟨[11, 14, 0, 3], (atN _ 1).trans rfl, .inr ⟨by decide, by decide, by decide⟩⟩
  · exact ⟨[14, 13], (atN _ 2).trans rfl, .inr ⟨by decide, by decide, by decide⟩⟩
  · exact ⟨[14, 5, 5], (atN _ 3).trans rfl, .inr ⟨by decide, by decide, by decide⟩⟩
  · exact ⟨[1, 14, 0, 17, 3], (atN _ 4).trans rfl, .inr ⟨by decide, by decide, by decide⟩⟩
  · exact ⟨[12, 0, 15], (atN _ 5).trans rfl, .inr ⟨by decide, by decide, by decide⟩⟩
  · exact ⟨[11, 4, 0, 18, 19], (atN _ 6).trans rfl, .inr ⟨by decide, by decide, by decide⟩⟩
  · exact ⟨[], (atN _ 7).trans rfl, .inl rfl⟩
  · exact ⟨[], (atN _ 8).trans rfl, .inl rfl⟩
  · exact ⟨[], (atN _ 9).trans rfl, .inl rfl⟩
  · exact ⟨[], (atN _ 10).trans rfl, .inl rfl⟩
theorem nO_nin (l : List Nat) (ns : List (List Nat)) : ninO (.val (.str (SL l))) (nO ns) = some (.val (.bl (!decide (l ∈ ns)))) := by
  have e : (nO ns).toD = .lst ((ns.map SL).map D.str) := by unfold nO; rw [vO_toD, List.map_map]; rfl
  unfold ninO
  rw [e]
  show ((inD (.str (SL l)) (.lst ((ns.map SL).map D.str))).map fun b => O.val (.bl !b)) = _
  rw [inD_strs, List.any_map]
  refine congrArg (fun b => some (O.val (.bl (!b)))) ?_
  rw [Bool.eq_iff_iff, List.any_eq_true]
  constructor
  · rintro ⟨y, hy, q⟩
    have q : SL y = SL l := by simpa using q
    rw [← SL_inj q]; simpa using hy
  · intro h
    exact ⟨l, by simpa using h, by simp⟩
theorem nO_set (ns : List (List Nat)) (r : Int) (l : List Nat) (h0 : 0 ≤ r) (h : r < ns.length) : setItO (nO ns) (.val (.int r)) (.val (.str (SL l))) = some (nO (ns.set r.toNat l)) := by
  obtain ⟨n, rfl⟩ : ∃ n : Nat, r = (n : Int) := ⟨r.toNat, by omega⟩
  unfold nO
  rw [vO_set _ _ _ (by simp; omega)]; simp
/-- right names, all unlike -/
def NsOk (ns : List (List Nat)) : Prop := ns.Nodup ∧ ∀ l ∈ ns, NameOk l
theorem NsOk.set {ns : List (List Nat)} {i : Nat} {l : List Nat} (h : NsOk ns) (hl : NameOk l) (hn : l ∉ ns) : NsOk (ns.set i l) := by
  refine ⟨nodup_set h.1 hn, fun m hm => ?_⟩
  rcases List.mem_or_eq_of_mem_set hm with q | q
  · exact h.2 m q
  · rw [q]; exact hl
theorem other_ne (n a t : Nat) (hn : 2 ≤ n) (ha : a < n) (ht : t < n - 1) : ∃ b : Nat, ((a : Int) + 1 + (t : Int)) % (n : Int) = (b : Int) ∧ b < n ∧ a ≠ b := by
  refine ⟨(a + 1 + t) % n, by push_cast; rfl, Nat.mod_lt _ (by omega), ?_⟩
  by_cases h : a + 1 + t < n
  · rw [Nat.mod_eq_of_lt h]; omega
  · rw [Nat.mod_eq_sub_mod (by omega), Nat.mod_eq_of_lt (by omega)]; omega
theorem names_if (o : O) (k : Int) (m f : Nat) (h : Fok (k + 14) o) (hk : 0 ≤ k) (h1 : 1 ≤ m) (h40 : m ≤ 40) (hf : f < 26) : ∃ o' ns y6 y7 y8 y9 ya yb yc yd, (mIf (mB (m2 (eqO) (mCall F__law_take [.io 0, .v (mP (pC (.int 5)))]) (mP (pC (.int 0))))) (mSetO 5 (q1__law_names)) (mSeq (mSetP 6 (m2 (lift2 addD) (mP (pC (.int 2))) (mCall F__law_take [.io 0, .v (mP (pC (.int 7)))]))) (mSeq (mSetP 7 (q2__law_names)) (mSeq (mSetP 8 (mCall F__law_take [.io 0, .v (mP (pVar 6))])) (mSeq (mSetP 9 (m2 (lift2 modD) (m2 (lift2 addD) (mP (p2 (lift2 addD) (pVar 8) (pC (.int 1)))) (mCall F__law_take [.io 0, .v (mP (p2 (lift2 subD) (pVar 6) (pC (.int 1))))])) (mP (pVar 6)))) (mSeq (mSetP 10 (m2 (lift2 mulD) (mCall F__law_take [.io 0, .v (mP (pC (.int 2)))]) (mP (p1 intO (p2 (lift2 ltD) (pVar 6) (pC (.int 8))))))) (mSeq (mSetO 5 (mLst (mNil))) (mFor (mR1 (mP (pVar 1))) (aN 11) b1__law_names)))))))) [some o, some (.val (.int (m : Int))), some (.val (.str "abcdefghijklmnopqrstuvwxyz")), some (.val (.int (f : Int))), none, none, none, none, none, none, none, none, none, none] =
    .ok .nx [some o', some (.val (.int (m : Int))), some (.val (.str "abcdefghijklmnopqrstuvwxyz")), some (.val (.int (f : Int))), none, some (nO ns), y6, y7, y8, y9, ya, yb, yc, yd] ∧ Fok k o' ∧ ns.length = m ∧ NsOk ns := by
  obtain ⟨r1, o1, e1, s1, p1, q1⟩ := take o 5 (k + 13) (h.less (by omega)) (by omega) (by decide) (by decide)
  by_cases h5 : r1 = 0
  · subst h5
    have Q := fun a0 a4 a5 a6 a7 a8 a9 aa x ac ad => names_q1 a0 a4 a5 a6 a7 a8 a9 aa x ac ad f m hf h40
    refine ⟨o1, (List.range m).map (nmA f), none, none, none, none, none, none, none, none, ?_, s1.less (by omega), by simp, nodup_range _ _ fun i j hi hj e => nmA_inj (by omega) (by omega) e, fun l hl => ?_⟩
    · simp [e1, Q]
    · obtain ⟨i, hi, rfl⟩ := List.mem_map.mp hl
      exact nmA_ok f i (by have : i < m := by simpa using hi
                           omega)
  · obtain ⟨r2, o2, e2, s2, p2, q2⟩ := take o1 7 (k + 12) (s1.less (by omega)) (by omega) (by decide) (by decide)
    obtain ⟨n, hn⟩ : ∃ n : Nat, 2 + r2 = (n : Int) := ⟨(2 + r2).toNat, by omega⟩
    obtain ⟨o3, bs, e3, s3, hbs, hb⟩ := names_q2 o2 (k + 4) n (some (.val (.int (m : Int)))) (some (.val (.str "abcdefghijklmnopqrstuvwxyz"))) (some (.val (.int (f : Int)))) none none none none none none none none none (s2.less (by omega)) (by omega) (by omega)
    obtain ⟨r4, o4, e4, s4, p4, q4⟩ := take o3 (n : Int) (k + 3) (s3.less (by omega)) (by omega) (by omega) (log_big (by omega) (by omega))
    obtain ⟨a, ha⟩ : ∃ a : Nat, r4 = (a : Int) := ⟨r4.toNat, by omega⟩
    subst ha
    obtain ⟨r5, o5, e5, s5, p5, q5⟩ := take o4 ((n : Int) - 1) (k + 2) (s4.less (by omega)) (by omega) (by omega) (log_big (by omega) (by omega))
    obtain ⟨t, ht⟩ : ∃ a : Nat, r5 = (a : Int) := ⟨r5.toNat, by omega⟩
    subst ht
    obtain ⟨b, eb, hb1, hab⟩ := other_ne n a t (by omega) (by omega) (by omega)
    obtain ⟨r6, o6, e6, s6, p6, q6⟩ := take o5 2 (k + 1) (s5.less (by omega)) (by omega) (by decide) (by decide)
    obtain ⟨l, el, hl1, hl2⟩ : ∃ l : Nat, mulD (.int r6) (.int (if (n : Int) < 8 then 1 else 0)) = some (.int (l : Int)) ∧ l ≤ 1 ∧ n + l ≤ 8 := by
      by_cases h8 : (n : Int) < 8
      · refine ⟨r6.toNat, ?_, by omega, by omega⟩
        rw [if_pos h8, mulD_r _ _ (by decide), Int.mul_one, show ((r6.toNat : Nat) : Int) = r6 by omega]
      · refine ⟨0, ?_, by omega, by omega⟩
        rw [if_neg h8, mulD_r _ _ (by decide), Int.mul_zero]; rfl
    have md : modD (.int ((a : Int) + 1 + (t : Int))) (.int (n : Int)) = some (.int (b : Int)) := by rw [e_mod (by omega), eb]
    obtain ⟨ρ', f1, yb, yc, yd, rfl⟩ := forL_inv (a := aN 11) (b := b1__law_names) (ds := rangeL 0 m) (fun i ρ => ∃ yb yc yd, ρ = [some o6, some (.val (.int (m : Int))), some (.val (.str "abcdefghijklmnopqrstuvwxyz")), some (.val (.int (f : Int))), none, some (nO ((List.range i).map (nmB bs a b l f))), some (.val (.int (n : Int))), some (.val (.lst (bs.map fun b : Nat => D.int (b : Int)))), some (.val (.int (a : Int))), some (.val (.int (b : Int))), some (.val (.int (l : Int))), yb, yc, yd])
      (ρ := [some o6, some (.val (.int (m : Int))), some (.val (.str "abcdefghijklmnopqrstuvwxyz")), some (.val (.int (f : Int))), none, some (O.lst []), some (.val (.int (n : Int))), some (.val (.lst (bs.map fun b : Nat => D.int (b : Int)))), some (.val (.int (a : Int))), some (.val (.int (b : Int))), some (.val (.int (l : Int))), none, none, none]) ⟨none, none, none, rfl⟩ (by
        rintro i d ρ hd ⟨yb, yc, yd, rfl⟩
        obtain ⟨hi, rfl⟩ := rangeL_get hd
        rw [show (0 : Int) + (i : Int) = (i : Int) by omega]
        obtain ⟨y12, y13, eb2⟩ := names_b (some o6) (some (.val (.int (m : Int)))) none yc yd bs a b l f i ((List.range i).map (nmB bs a b l f)) n hbs (by omega) hl2 hl1 hb hf (by omega) hb1 hab (by omega) (by simp; omega)
        refine ⟨[some o6, some (.val (.int (m : Int))), some (.val (.str "abcdefghijklmnopqrstuvwxyz")), some (.val (.int (f : Int))), none, some (nO ((List.range i).map (nmB bs a b l f))), some (.val (.int (n : Int))), some (.val (.lst (bs.map fun b : Nat => D.int (b : Int)))), some (.val (.int (a : Int))), some (.val (.int (b : Int))), some (.val (.int (l : Int))), some (.val (.int (i : Int))), yc, yd], _, by simp, .inl eb2, some (.val (.int (i : Int))), y12, y13, ?_⟩
        rw [List.range_succ, List.map_append]; rfl)
    rw [rangeL_len] at f1
    have bt : (lN bs).toD = .lst (bs.map fun b : Nat => D.int (b : Int)) := vO_toD _
    have sn := small_nat (n := m) (by omega)
    refine ⟨o6, (List.range m).map (nmB bs a b l f), some (.val (.int (n : Int))), some (.val (.lst (bs.map fun b : Nat => D.int (b : Int)))), some (.val (.int (a : Int))), some (.val (.int (b : Int))), some (.val (.int (l : Int))), yb, yc, yd, ?_, s6.less (by omega), by simp, nodup_range _ _ fun i j hi hj e => nmB_inj (by omega) (by omega) hab (by omega) (by omega) e, fun x hx => ?_⟩
    rotate_left
    · obtain ⟨i, hi, rfl⟩ := List.mem_map.mp hx
      exact nmB_ok i (by omega) (by omega) hl1 hb hf
    · generalize nO ((List.range m).map (nmB bs a b l f)) = NN at *
      simp [e1, e2, h5, hn, e3, bt, e4, e5, md, e6, el, sn, f1]

end Lw

namespace Lw
open PySem PySem.Spec L2 FB Wk
open PyProof.Rows hiding St
noncomputable def nmIf : M Fl := mIf (mB (m2 (eqO) (mCall F__law_take [.io 0, .v (mP (pC (.int 5)))]) (mP (pC (.int 0))))) (mSetO 5 (q1__law_names)) (mSeq (mSetP 6 (m2 (lift2 addD) (mP (pC (.int 2))) (mCall F__law_take [.io 0, .v (mP (pC (.int 7)))]))) (mSeq (mSetP 7 (q2__law_names)) (mSeq (mSetP 8 (mCall F__law_take [.io 0, .v (mP (pVar 6))])) (mSeq (mSetP 9 (m2 (lift2 modD) (m2 (lift2 addD) (mP (p2 (lift2 addD) (pVar 8) (pC (.int 1)))) (mCall F__law_take [.io 0, .v (mP (p2 (lift2 subD) (pVar 6) (pC (.int 1))))])) (mP (pVar 6)))) (mSeq (mSetP 10 (m2 (lift2 mulD) (mCall F__law_take [.io 0, .v (mP (pC (.int 2)))]) (mP (p1 intO (p2 (lift2 ltD) (pVar 6) (pC (.int 8))))))) (mSeq (mSetO 5 (mLst (mNil))) (mFor (mR1 (mP (pVar 1))) (aN 11) b1__law_names)))))))
theorem nmIf_eq : b__law_names = mSeq (mSetP 2 (mP (pC (.str "abcdefghijklmnopqrstuvwxyz")))) (mSeq (mSetP 3 (mCall F__law_take [.io 0, .v (mP (pC (.int 26)))])) (mSeq nmIf (mSeq (mSetP 4 (m2 ixO (mLst (mCons (mP (pC (.str "guard"))) (mCons (mP (pC (.str "load"))) (mCons (mP (pC (.str "on"))) (mCons (mP (pC (.str "off"))) (mCons (mP (pC (.str "board"))) (mCons (mP (pC (.str "map"))) (mCons (mP (pC (.str "least"))) (mCons (mP (pC (.str ""))) (mCons (mP (pC (.str ""))) (mCons (mP (pC (.str ""))) (mCons (mP (pC (.str ""))) (mNil))))))))))))) (mCall F__law_take [.io 0, .v (mP (pC (.int 11)))]))) (mSeq (mIf (mAnd (mB (mP (p2 (neO) (pVar 4) (pC (.str ""))))) (mB (mP (p2 (ninO) (pVar 4) (pVar 5))))) (mSetIt 5 (mCall F__law_take [.io 0, .v (mP (pVar 1))]) (mP (pVar 4))) (mSkip)) (mRet (mMove 5)))))) := rfl
theorem names (o : O) (k : Int) (m : Nat) (h : Fok (k + 17) o) (hk : 0 ≤ k) (h1 : 1 ≤ m) (h40 : m ≤ 40) : ∃ o' ns, F__law_names [o, .val (.int (m : Int))] = some (nO ns, [some o', none]) ∧ Fok k o' ∧ ns.length = m ∧ NsOk ns := by
  obtain ⟨r1, o1, e1, s1, p1, q1⟩ := take o 26 (k + 16) (h.less (by omega)) (by omega) (by decide) (by decide)
  obtain ⟨f, hf⟩ : ∃ f : Nat, r1 = (f : Int) := ⟨r1.toNat, by omega⟩
  subst hf
  obtain ⟨o2, ns, y6, y7, y8, y9, ya, yb, yc, yd, e2, s2, hl, hns⟩ := names_if o1 (k + 2) m f (s1.less (by omega)) (by omega) h1 h40 (by omega)
  have e2 : nmIf _ = _ := e2
  obtain ⟨r3, o3, e3, s3, p3, q3⟩ := take o2 11 (k + 1) (s2.less (by omega)) (by omega) (by decide) (by decide)
  obtain ⟨l, el, hl2⟩ := word_at r3 p3 q3
  have e8 : ("" : Str) = SL [] := by decide +kernel
  have enin := nO_nin l ns
  have een : decide (SL l = SL []) = decide (l = []) := by
    by_cases q : l = []
    · subst q; simp
    · have : ¬ SL l = SL [] := fun z => q (SL_inj z)
      simp [q, this]
  have e9 : neO (.val (.str (SL l))) (.val (.str "")) = some (.val (.bl (!decide (l = [])))) := by rw [e8, neO_str, een]
  unfold F__law_names
  rw [runF_eq]
  by_cases c1 : l = []
  · refine ⟨o3, ns, ?_, s3.less (by omega), hl, hns⟩
    generalize nO ns = N1 at *
    simp [nmIf_eq, e1, e2, e3, el, e9, c1]
    rfl
  · by_cases c2 : l ∈ ns
    · refine ⟨o3, ns, ?_, s3.less (by omega), hl, hns⟩
      generalize nO ns = N1 at *
      simp [nmIf_eq, e1, e2, e3, el, e9, c1, c2, enin]
      rfl
    · obtain ⟨r4, o4, e4, s4, p4, q4⟩ := take o3 (m : Int) k s3 hk (by omega) (log_big (by omega) (by omega))
      have st := nO_set ns r4 l p4 (by rw [hl]; exact q4)
      refine ⟨o4, ns.set r4.toNat l, ?_, s4, by simpa using hl, hns.set (hl2.resolve_left c1) c2⟩
      generalize nO ns = N1 at *
      generalize nO (ns.set r4.toNat l) = N2 at *
      simp [nmIf_eq, e1, e2, e3, el, e9, c1, c2, enin, e4, st]
      rfl

end Lw

namespace Lw
open PySem PySem.Spec L2 FB Wk
open PyProof.Rows hiding St
structure Gd where
  nm : List Nat
  un : Option (List Nat)
  C : List (Int × Int)
  dl : Int
  wt : Int
def sD (l : List Nat) : D := .str (SL l)
def uD : Option (List Nat) → D
  | none => .non
  | some l => sD l
def gD (g : Gd) : D := .tup [sD g.nm, uD g.un, cv g.C, .int g.dl, .int g.wt]
def numOk (n : Int) : Prop := 0 ≤ n ∧ n < 1000000000000000000000000000000000000000000000000000000000000
def kD (ms : List (List Nat)) : List Key := ms.map fun l => .inr (SL l)
def dO (ms : List (List Nat)) (ds : List Nat) : O := .dct (kD ms) (ds.map fun d : Nat => .val (.int (d : Int)))
theorem idx_none {l : List Nat} : ∀ {ms : List (List Nat)}, l ∉ ms → idxK (kD ms) (.inr (SL l)) = none
  | [], _ => rfl
  | m :: ms, h => by
    have ih := idx_none (l := l) (ms := ms) fun z => h (List.mem_cons_of_mem _ z)
    unfold idxK kD at ih ⊢
    rw [List.map_cons, List.findIdx?_cons, ih]
    have : ¬ (Sum.inr (SL m) : Key) = Sum.inr (SL l) := fun z => h (by rw [← SL_inj (Sum.inr.inj z)]; exact List.mem_cons_self ..)
    rw [if_neg (by simpa using this)]; rfl
theorem idx_some {l : List Nat} : ∀ {ms : List (List Nat)} {i : Nat}, ms.Nodup → ms[i]? = some l → idxK (kD ms) (.inr (SL l)) = some i
  | [], _, _, h => by simp at h
  | m :: ms, 0, nd, h => by
    simp at h
    subst h
    unfold idxK kD
    rw [List.map_cons, List.findIdx?_cons, if_pos (by simp)]
  | m :: ms, i + 1, nd, h => by
    have h : ms[i]? = some l := by simpa using h
    have ih := idx_some (List.nodup_cons.mp nd).2 h
    unfold idxK kD at ih ⊢
    rw [List.map_cons, List.findIdx?_cons, ih]
    have : ¬ (Sum.inr (SL m) : Key) = Sum.inr (SL l) := fun z => (List.nodup_cons.mp nd).1 (by rw [SL_inj (Sum.inr.inj z)]; exact List.mem_of_getElem? h)
    rw [if_neg (by simpa using this)]; rfl
theorem dO_get {ms : List (List Nat)} {ds : List Nat} {i d : Nat} {l : List Nat} (nd : ms.Nodup) (h1 : ms[i]? = some l) (h2 : ds[i]? = some d) : ixF (dO ms ds) (.val (sD l)) = some (.val (.int (d : Int))) := by
  show (idxK (kD ms) (.inr (SL l))).bind (fun j => (ds.map fun d : Nat => O.val (.int (d : Int)))[j]?) = _
  rw [idx_some nd h1]
  show (ds.map fun d : Nat => O.val (.int (d : Int)))[i]? = _
  rw [List.getElem?_map, h2]; rfl
theorem dO_get2 {ms : List (List Nat)} {ds : List Nat} {i d : Nat} {l : List Nat} (nd : ms.Nodup) (h1 : ms[i]? = some l) (h2 : ds[i]? = some d) : getO (dO ms ds) (.val (sD l)) (.val (.int 0)) = some (.val (.int (d : Int))) := by
  show some (((idxK (kD ms) (.inr (SL l))).bind fun j => (ds.map fun d : Nat => O.val (.int (d : Int)))[j]?).getD (.val (.int 0))) = _
  rw [idx_some nd h1]
  show some (((ds.map fun d : Nat => O.val (.int (d : Int)))[i]?).getD (.val (.int 0))) = _
  rw [List.getElem?_map, h2]; rfl
theorem dO_put {ms : List (List Nat)} {ds : List Nat} {v : Nat} {l : List Nat} (h : l ∉ ms) (hl : ms.length < 1000) : setItO (dO ms ds) (.val (sD l)) (.val (.int (v : Int))) = some (dO (ms ++ [l]) (ds ++ [v])) := by
  show (if (kD ms).length < 1000000 then some (O.dct (putL (kD ms) (ds.map fun d : Nat => O.val (.int (d : Int))) (.inr (SL l)) (.val (.int (v : Int)))).1 (putL (kD ms) (ds.map fun d : Nat => O.val (.int (d : Int))) (.inr (SL l)) (.val (.int (v : Int)))).2) else none) = _
  rw [if_pos (by unfold kD; simp; omega)]
  unfold putL
  rw [idx_none h]
  unfold dO kD
  simp
/-- the guards so far; ds: how deep each is -/
structure GsOk (gs : List Gd) (ds : List Nat) : Prop where
  len : ds.length = gs.length
  nd : (gs.map Gd.nm).Nodup
  names : ∀ g ∈ gs, NameOk g.nm
  rest : ∀ g ∈ gs, Cok g.C ∧ numOk g.dl ∧ numOk g.wt
  under : ∀ (i : Nat) (g : Gd), gs[i]? = some g → (g.un = none ∧ ds[i]? = some 1) ∨ ∃ (j : Nat) (u : Gd) (d : Nat), j < i ∧ gs[j]? = some u ∧ g.un = some u.nm ∧ ds[j]? = some d ∧ d < 8 ∧ ds[i]? = some (d + 1)
theorem GsOk.nil : GsOk [] [] := ⟨rfl, by simp, by simp, by simp, fun i g h => by simp at h⟩
theorem get_snoc {α : Type} {l : List α} {x y : α} {i : Nat} (h : (l ++ [x])[i]? = some y) : (i < l.length ∧ l[i]? = some y) ∨ (i = l.length ∧ y = x) := by
  by_cases hi : i < l.length
  · rw [List.getElem?_append_left hi] at h
    exact .inl ⟨hi, h⟩
  · rw [List.getElem?_append_right (by omega)] at h
    have h9 := (List.getElem?_eq_some_iff.mp h).1
    simp at h9
    have : i = l.length := by omega
    subst this
    simp at h
    exact .inr ⟨rfl, h.symm⟩
theorem GsOk.snoc {gs : List Gd} {ds : List Nat} {g : Gd} {v : Nat} (h : GsOk gs ds) (hn : g.nm ∉ gs.map Gd.nm) (hk : NameOk g.nm) (hr : Cok g.C ∧ numOk g.dl ∧ numOk g.wt) (hu : (g.un = none ∧ v = 1) ∨ ∃ (j : Nat) (u : Gd) (d : Nat), j < gs.length ∧ gs[j]? = some u ∧ g.un = some u.nm ∧ ds[j]? = some d ∧ d < 8 ∧ v = d + 1) : GsOk (gs ++ [g]) (ds ++ [v]) := by
  obtain ⟨h1, h2, h3, h4, h5⟩ := h
  refine ⟨by simp [h1], ?_, ?_, ?_, fun i g' hi => ?_⟩
  · rw [List.map_append, List.nodup_append]
    exact ⟨h2, by simp, fun a ha b hb e => hn (by simp at hb; rw [← hb, ← e]; exact ha)⟩
  · intro x hx
    rcases List.mem_append.mp hx with q | q
    · exact h3 x q
    · simp at q; rw [q]; exact hk
  · intro x hx
    rcases List.mem_append.mp hx with q | q
    · exact h4 x q
    · simp at q; rw [q]; exact hr
  · rcases get_snoc hi with ⟨q, e⟩ | ⟨q, e⟩
    · rcases h5 i g' e with ⟨a, b⟩ | ⟨j, u, d, b1, b2, b3, b4, b5, b6⟩
      · exact .inl ⟨a, by rw [List.getElem?_append_left (by omega)]; exact b⟩
      · refine .inr ⟨j, u, d, b1, ?_, b3, ?_, b5, ?_⟩
        · rw [List.getElem?_append_left (by omega)]; exact b2
        · rw [List.getElem?_append_left (by omega)]; exact b4
        · rw [List.getElem?_append_left (by omega)]; exact b6
    · subst e
      rw [q]
      have ev : (ds ++ [v])[gs.length]? = some v := by rw [← h1]; simp
      rcases hu with ⟨a, b⟩ | ⟨j, u, d, b1, b2, b3, b4, b5, b6⟩
      · exact .inl ⟨a, by rw [ev, b]⟩
      · refine .inr ⟨j, u, d, b1, ?_, b3, ?_, b5, by rw [ev, b6]⟩
        · rw [List.getElem?_append_left (by omega)]; exact b2
        · rw [List.getElem?_append_left (by omega)]; exact b4
def gsO (gs : List Gd) : O := vO (gs.map gD)
theorem gsO_sh (gs : List Gd) : (gsO gs).sh = some (.lst (gs.map gD)) := vO_sh _
theorem gD_0 (g : Gd) : ixO (.val (gD g)) (.val (.int 0)) = some (.val (sD g.nm)) := by unfold gD; simp
def shal (ds : List Nat) (i : Nat) : Bool := decide (ds.getD i 0 < 8)
theorem guards_q (a0 a1 a2 a5 a6 a7 a8 a9 x : Option O) (gs : List Gd) (ds : List Nat) (h : GsOk gs ds) (hl : gs.length ≤ 100) : q1__law_guards [a0, a1, a2, some (gsO gs), some (dO (gs.map Gd.nm) ds), a5, a6, a7, a8, a9, x] =
    .ok (vO (((List.range gs.length).filter (shal ds)).map fun i => sD ((gs.map Gd.nm).getD i []))) [a0, a1, a2, some (gsO gs), some (dO (gs.map Gd.nm) ds), a5, a6, a7, a8, a9, x] := by
  have hg : gs.map gD = (List.range gs.length).map fun i => gD (gs.getD i ⟨[], none, [], 0, 0⟩) := by
    apply List.ext_getElem?
    intro i
    rw [List.getElem?_map, List.getElem?_map]
    by_cases hi : i < gs.length
    · rw [List.getElem?_range hi, List.getElem?_eq_getElem hi]
      simp [List.getD_eq_getElem?_getD, List.getElem?_eq_getElem hi]
    · rw [List.getElem?_eq_none (by omega), List.getElem?_eq_none (show (List.range gs.length).length ≤ i by simp; omega)]; rfl
  have hc := compL_of (ρ := [a0, a1, a2, none, some (dO (gs.map Gd.nm) ds), a5, a6, a7, a8, a9, none]) (own := [10]) (a := aN 10) (t := mB (mP (p2 (lift2 ltD) (p2 ixF (pVar 4) (p2 ixO (pVar 10) (pC (.int 0)))) (pC (.int 8))))) (e := mP (p2 ixO (pVar 10) (pC (.int 0))))
    (fun i => gD (gs.getD i ⟨[], none, [], 0, 0⟩)) (shal ds) (fun i => O.val (sD ((gs.map Gd.nm).getD i []))) (xs := List.range gs.length) (by
    intro i hi
    have hi : i < gs.length := by simpa using hi
    have e1 : (gs.map Gd.nm)[i]? = some (gs.getD i ⟨[], none, [], 0, 0⟩).nm := by
      rw [List.getElem?_map, List.getElem?_eq_getElem hi]
      simp [List.getD_eq_getElem?_getD, List.getElem?_eq_getElem hi]
    have e2 : ds[i]? = some (ds.getD i 0) := by
      rw [List.getD_eq_getElem?_getD, List.getElem?_eq_getElem (by rw [h.len]; exact hi)]; rfl
    have e3 := dO_get h.nd e1 e2
    have e4 : (gs.map Gd.nm).getD i [] = (gs.getD i ⟨[], none, [], 0, 0⟩).nm := by rw [List.getD_eq_getElem?_getD, e1]; rfl
    rw [e4]
    generalize gs.getD i ⟨[], none, [], 0, 0⟩ = g at *
    have g0 := gD_0 g
    have sh : shal ds i = decide (ds.getD i 0 < 8) := rfl
    rw [sh]
    generalize ds.getD i 0 = dd at *
    refine ⟨[a0, a1, a2, none, some (dO (gs.map Gd.nm) ds), a5, a6, a7, a8, a9, some (.val (gD g))], [a0, a1, a2, none, some (dO (gs.map Gd.nm) ds), a5, a6, a7, a8, a9, some (.val (gD g))], by simp, ?_, fun _ => by simp, fun _ => ⟨[a0, a1, a2, none, some (dO (gs.map Gd.nm) ds), a5, a6, a7, a8, a9, some (.val (gD g))], by simp [g0], by simp⟩⟩
    simp [g0, e3]
    omega)
  have e1 : lstN 3 [a0, a1, a2, some (gsO gs), some (dO (gs.map Gd.nm) ds), a5, a6, a7, a8, a9, x] = some (gs.map gD) := lstN_of rfl (gsO_sh gs)
  rw [hg] at e1
  have q := e_mCompG (f := lstN 3) (wi := wiN 3) (re := reN 3) (own := own2 [("_law_guard", 10)]) (a := aN 10) (t := mB (mP (p2 (lift2 ltD) (p2 ixF (pVar 4) (p2 ixO (pVar 10) (pC (.int 0)))) (pC (.int 8))))) (e := mP (p2 ixO (pVar 10) (pC (.int 0)))) e1 (by simp; omega) hc
  refine q.trans ?_
  have e2 : ((List.range gs.length).filter (shal ds)).map (fun i => O.val (sD ((gs.map Gd.nm).getD i []))) = (((List.range gs.length).filter (shal ds)).map fun i => sD ((gs.map Gd.nm).getD i [])).map O.val := by rw [List.map_map]; rfl
  rw [e2]
  cases x <;> rfl

end Lw

namespace Lw
open PySem PySem.Spec L2 FB Wk
open PyProof.Rows hiding St
def nsV (ns : List (List Nat)) : D := .lst (ns.map sD)
theorem nsV_ix (ns : List (List Nat)) (i : Nat) (l : List Nat) (h : ns[i]? = some l) : ixO (.val (nsV ns)) (.val (.int (i : Int))) = some (.val (sD l)) := by
  show (atI (ns.map sD) (i : Int)).map O.val = _
  rw [atN, List.getElem?_map, h]; rfl
theorem dO_get0 {ms : List (List Nat)} {ds : List Nat} : getO (dO ms ds) (.val .non) (.val (.int 0)) = some (.val (.int 0)) := rfl
theorem gs_apA (gs : List Gd) (ρ : FB.Env) (mm : M O) : apA 3 mm ρ (some (some (gsO gs))) = apB 3 (mm ρ) := rfl
theorem gs_ap (gs : List Gd) (g : Gd) (h : gs.length < 100) (ρ : FB.Env) : apC 3 (.val (.tup [sD g.nm, uD g.un, cv g.C, .int g.dl, .int g.wt])) ρ (some (some (gsO gs))) = .ok (.val .non) (ρ.set 3 (some (gsO (gs ++ [g])))) := by
  unfold gsO
  rw [vO_apC _ _ _ (by simp; omega)]; simp [gD]
theorem guard_b (xs : D) (sc : List Int) (hs : Sc (.val xs) sc) (ns : List (List Nat)) (m : Int) (gs : List Gd) (ds : List Nat) (a6 a7 a8 a9 aa : Option O) (hns : NsOk ns) (h : GsOk gs ds) (hm : gs.map Gd.nm = ns.take gs.length) (hk : gs.length < ns.length) (hl : ns.length ≤ 40) :
    ∃ g d y6 y7 y8 y9, b1__law_guards [some (.val xs), some (.val (nsV ns)), some (.val (.int m)), some (gsO gs), some (dO (gs.map Gd.nm) ds), some (.val (.int (gs.length : Int))), a6, a7, a8, a9, aa] =
      .ok .nx [some (.val xs), some (.val (nsV ns)), some (.val (.int m)), some (gsO (gs ++ [g])), some (dO ((gs ++ [g]).map Gd.nm) (ds ++ [d])), some (.val (.int (gs.length : Int))), y6, y7, y8, y9, aa] ∧ GsOk (gs ++ [g]) (ds ++ [d]) ∧ (gs ++ [g]).map Gd.nm = ns.take (gs.length + 1) := by
  obtain ⟨o0, e0, s0⟩ := feed hs (2 + gs.length) (by omega)
  rw [show ((2 + gs.length : Nat) : Int) = 2 + (gs.length : Int) by omega] at e0
  obtain ⟨l, hlk⟩ : ∃ l, ns[gs.length]? = some l := ⟨_, List.getElem?_eq_getElem hk⟩
  have hnew : l ∉ gs.map Gd.nm := fun z => by
    rw [hm] at z
    have e := hns.1
    rw [← List.take_append_drop gs.length ns, List.nodup_append] at e
    refine e.2.2 l z l ?_ rfl
    rw [List.drop_eq_getElem_cons hk]
    rw [List.getElem?_eq_getElem hk] at hlk
    rw [Option.some.inj hlk]
    exact List.mem_cons_self ..
  have hmap : ∀ g : Gd, g.nm = l → (gs ++ [g]).map Gd.nm = ns.take (gs.length + 1) := fun g e => by
    rw [List.map_append, hm, List.take_succ, hlk, List.map_cons, e]; rfl
  have hok := hns.2 l (List.mem_of_getElem? hlk)
  have nix := nsV_ix ns gs.length l hlk
  obtain ⟨w, o1, e1, s1, p1, q1⟩ := take o0 4 (800000000 : Int) (s0.less (by omega)) (by omega) (by decide) (by decide)
  have Q := fun a0 a1 a2 a5 a6 a7 a8 a9 x => guards_q a0 a1 a2 a5 a6 a7 a8 a9 x gs ds h (by omega)
  generalize hsel : (List.range gs.length).filter (shal ds) = sel at Q
  have hselm : ∀ i ∈ sel, i < gs.length ∧ ds.getD i 0 < 8 := fun i hi => by
    rw [← hsel, List.mem_filter] at hi
    exact ⟨by simpa using hi.1, by simpa [shal] using hi.2⟩
  have Vt : (vO (sel.map fun i => sD ((gs.map Gd.nm).getD i []))).toD = .lst (sel.map fun i => sD ((gs.map Gd.nm).getD i [])) := vO_toD _
  have ap := gs_apA gs
  have ac := fun (u : Option (List Nat)) (C : List (Int × Int)) (x y : Int) => gs_ap gs ⟨l, u, C, x, y⟩ (by omega)
  by_cases hw : 0 < w ∧ 0 < sel.length
  · obtain ⟨hw1, hw2⟩ := hw
    obtain ⟨r, o2, e2, s2, p2, q2⟩ := take o1 (sel.length : Int) (700000000 : Int) (s1.less (by omega)) (by omega) (by omega) (log_big (by omega) (by
      have : sel.length ≤ gs.length := by rw [← hsel]; exact Nat.le_trans (List.length_filter_le _ _) (by simp)
      omega))
    have atx : ∀ r : Int, (0 ≤ r ∧ r < sel.length ∨ r = -1) → ∃ i ∈ sel, atI (sel.map fun i => sD ((gs.map Gd.nm).getD i [])) r = some (sD ((gs.map Gd.nm).getD i [])) := fun r hr => by
      rcases hr with ⟨h0, h1⟩ | e
      · obtain ⟨n, rfl⟩ : ∃ n : Nat, r = (n : Int) := ⟨r.toNat, by omega⟩
        have hn : n < sel.length := by omega
        exact ⟨sel[n], List.getElem_mem hn, by rw [atN, List.getElem?_map, List.getElem?_eq_getElem hn]; rfl⟩
      · subst e
        obtain ⟨a, b, e⟩ : ∃ a b, sel = a ++ [b] := by
          have : sel ≠ [] := by intro z; rw [z] at hw2; simp at hw2
          exact ⟨sel.dropLast, sel.getLast this, (List.dropLast_concat_getLast this).symm⟩
        exact ⟨b, by rw [e]; simp, by rw [e, List.map_append, List.map_cons, List.map_nil, FB.atI_last]⟩
    obtain ⟨i1, hi1, ei1⟩ := atx (-1) (.inr rfl)
    obtain ⟨i2, hi2, ei2⟩ := atx r (.inl ⟨p2, q2⟩)
    obtain ⟨xx, hxx, exx⟩ := atI_some (xs := [O.val (sD ((gs.map Gd.nm).getD i1 [])), O.val (sD ((gs.map Gd.nm).getD i1 [])), O.val (sD ((gs.map Gd.nm).getD i2 []))]) (r := w - 1) (by omega) (by simp; omega)
    obtain ⟨j, hj, rfl⟩ : ∃ j ∈ sel, xx = O.val (sD ((gs.map Gd.nm).getD j [])) := by
      simp at hxx
      rcases hxx with e | e
      · exact ⟨i1, hi1, by rw [e]; simp⟩
      · exact ⟨i2, hi2, by rw [e]; simp⟩
    obtain ⟨hj1, hj2⟩ := hselm j hj
    obtain ⟨u, hu⟩ : ∃ u, gs[j]? = some u := ⟨_, List.getElem?_eq_getElem hj1⟩
    have euN : (gs.map Gd.nm)[j]? = some u.nm := by rw [List.getElem?_map, hu]; rfl
    have eu : (gs.map Gd.nm).getD j [] = u.nm := by rw [List.getD_eq_getElem?_getD, euN]; rfl
    have ed : ds[j]? = some (ds.getD j 0) := by rw [List.getD_eq_getElem?_getD, List.getElem?_eq_getElem (by rw [h.len]; exact hj1)]; rfl
    have g2 := dO_get2 h.nd euN ed
    have pt := dO_put (ds := ds) (v := ds.getD j 0 + 1) hnew (by rw [List.length_map]; omega)
    rw [show ((ds.getD j 0 + 1 : Nat) : Int) = 1 + ((ds.getD j 0 : Nat) : Int) by omega] at pt
    obtain ⟨C, o3, e3, s3, kC⟩ := steps o2 (600000000 : Int) (s2.less (by omega)) (by omega)
    obtain ⟨x, o4, e4, s4, x1, x2⟩ := number o3 (500000000 : Int) (s3.less (by omega)) (by omega)
    obtain ⟨y, o5, e5, s5, y1, y2⟩ := number o4 (400000000 : Int) (s4.less (by omega)) (by omega)
    refine ⟨⟨l, some u.nm, C, x, y⟩, ds.getD j 0 + 1, some o5, some (.val (.lst (sel.map fun i => sD ((gs.map Gd.nm).getD i [])))), some (.val (.int w)), some (.val (sD u.nm)), ?_, h.snoc hnew hok ⟨kC, ⟨x1, x2⟩, ⟨y1, y2⟩⟩ (.inr ⟨j, u, ds.getD j 0, hj1, hu, rfl, ed, hj2, rfl⟩), hmap _ rfl⟩
    have ac : ∀ ρ : FB.Env, apC 3 (.val (.tup [sD l, sD u.nm, cv C, .int x, .int y])) ρ (some (some (gsO gs))) = .ok (.val .non) (ρ.set 3 (some (gsO (gs ++ [⟨l, some u.nm, C, x, y⟩])))) := ac (some u.nm) C x y
    have lenV : lenO (.val (.lst (sel.map fun i => sD ((gs.map Gd.nm).getD i [])))) = some (.val (.int sel.length)) := by simp
    rw [show (gs ++ [(⟨l, some u.nm, C, x, y⟩ : Gd)]).map Gd.nm = gs.map Gd.nm ++ [l] by simp]
    rw [eu] at exx
    have ud : uD (some u.nm) = sD u.nm := rfl
    generalize dO (gs.map Gd.nm ++ [l]) (ds ++ [ds.getD j 0 + 1]) = DD2 at *
    generalize dO (gs.map Gd.nm) ds = DD1 at *
    generalize gsO (gs ++ [⟨l, some u.nm, C, x, y⟩]) = GG2 at *
    generalize gsO gs = GG1 at *
    generalize ds.getD j 0 = dd at *
    generalize (sel.map fun i => sD ((gs.map Gd.nm).getD i [])) = SS at *
    generalize sD ((gs.map Gd.nm).getD i1 []) = I1 at *
    generalize sD ((gs.map Gd.nm).getD i2 []) = I2 at *
    generalize vO SS = VS at *
    simp [b1__law_guards, e0, Q, Vt, e1, hw1, hw2, lenV, ei1, ei2, e2, exx, g2, nix, pt, e3, e4, e5, ap, ac]
  · have hw' : ¬ 0 < w ∨ sel.length = 0 := by
      by_cases h1 : 0 < w
      · exact .inr (by have : ¬ 0 < sel.length := fun z => hw ⟨h1, z⟩
                       omega)
      · exact .inl h1
    have pt := dO_put (ds := ds) (v := 1) hnew (by rw [List.length_map]; omega)
    have g0 := dO_get0 (ms := gs.map Gd.nm) (ds := ds)
    obtain ⟨C, o3, e3, s3, kC⟩ := steps o1 (600000000 : Int) (s1.less (by omega)) (by omega)
    obtain ⟨x, o4, e4, s4, x1, x2⟩ := number o3 (500000000 : Int) (s3.less (by omega)) (by omega)
    obtain ⟨y, o5, e5, s5, y1, y2⟩ := number o4 (400000000 : Int) (s4.less (by omega)) (by omega)
    refine ⟨⟨l, none, C, x, y⟩, 1, some o5, some (.val (.lst (sel.map fun i => sD ((gs.map Gd.nm).getD i [])))), some (.val (.int w)), some (.val .non), ?_, h.snoc hnew hok ⟨kC, ⟨x1, x2⟩, ⟨y1, y2⟩⟩ (.inl ⟨rfl, rfl⟩), hmap _ rfl⟩
    have ac : ∀ ρ : FB.Env, apC 3 (.val (.tup [sD l, .non, cv C, .int x, .int y])) ρ (some (some (gsO gs))) = .ok (.val .non) (ρ.set 3 (some (gsO (gs ++ [⟨l, none, C, x, y⟩])))) := ac none C x y
    have lenV : lenO (.val (.lst (sel.map fun i => sD ((gs.map Gd.nm).getD i [])))) = some (.val (.int sel.length)) := by simp
    rw [show (gs ++ [(⟨l, none, C, x, y⟩ : Gd)]).map Gd.nm = gs.map Gd.nm ++ [l] by simp]
    generalize dO (gs.map Gd.nm ++ [l]) (ds ++ [1]) = DD2 at *
    generalize dO (gs.map Gd.nm) ds = DD1 at *
    generalize gsO (gs ++ [⟨l, none, C, x, y⟩]) = GG2 at *
    generalize gsO gs = GG1 at *
    generalize (sel.map fun i => sD ((gs.map Gd.nm).getD i [])) = SS at *
    generalize vO SS = VS at *
    have pt : setItO DD1 (.val (sD l)) (.val (.int 1)) = some DD2 := pt
    rcases hw' with hw' | hw'
    · simp [b1__law_guards, e0, Q, Vt, e1, hw', lenV, g0, nix, pt, e3, e4, e5, ap, ac]
    · by_cases h1 : 0 < w
      · rw [hw'] at lenV
        have lenV : lenO (.val (.lst SS)) = some (.val (.int 0)) := lenV
        simp [b1__law_guards, e0, Q, Vt, e1, h1, lenV, g0, nix, pt, e3, e4, e5, ap, ac]
      · simp [b1__law_guards, e0, Q, Vt, e1, h1, lenV, g0, nix, pt, e3, e4, e5, ap, ac]
theorem guards (xs : D) (sc : List Int) (hs : Sc (.val xs) sc) (ns : List (List Nat)) (m : Nat) (hns : NsOk ns) (hm : m ≤ ns.length) (hl : ns.length ≤ 40) :
    ∃ gs ds, F__law_guards [.val xs, .val (nsV ns), .val (.int (m : Int))] = some (gsO gs, [none, none, none]) ∧ GsOk gs ds ∧ gs.map Gd.nm = ns.take m ∧ gs.length = m := by
  obtain ⟨ρ', f1, gs, ds, y5, y6, y7, y8, y9, rfl, h1, h2, h3⟩ := forL_inv (a := aN 5) (b := b1__law_guards) (ds := rangeL 0 m) (fun i ρ => ∃ gs ds y5 y6 y7 y8 y9, ρ = [some (.val xs), some (.val (nsV ns)), some (.val (.int (m : Int))), some (gsO gs), some (dO (gs.map Gd.nm) ds), y5, y6, y7, y8, y9, none] ∧ GsOk gs ds ∧ gs.map Gd.nm = ns.take i ∧ gs.length = i)
    (ρ := [some (.val xs), some (.val (nsV ns)), some (.val (.int (m : Int))), some (O.lst []), some (O.dct [] []), none, none, none, none, none, none]) ⟨[], [], none, none, none, none, none, rfl, GsOk.nil, by simp, rfl⟩ (by
      rintro i d ρ hd ⟨gs, ds, y5, y6, y7, y8, y9, rfl, h1, h2, h3⟩
      obtain ⟨hi, rfl⟩ := rangeL_get hd
      subst h3
      obtain ⟨g, d, z6, z7, z8, z9, eb, g1, g2⟩ := guard_b xs sc hs ns (m : Int) gs ds y6 y7 y8 y9 none hns h1 h2 (by omega) hl
      rw [show (0 : Int) + (gs.length : Int) = (gs.length : Int) by omega]
      exact ⟨[some (.val xs), some (.val (nsV ns)), some (.val (.int (m : Int))), some (gsO gs), some (dO (gs.map Gd.nm) ds), some (.val (.int (gs.length : Int))), y6, y7, y8, y9, none], _, by simp, .inl eb, gs ++ [g], ds ++ [d], _, z6, z7, z8, z9, rfl, g1, g2, by simp⟩)
  rw [rangeL_len] at h2 h3
  have sn := small_nat (n := m) (by omega)
  refine ⟨gs, ds, ?_, h1, h2, h3⟩
  generalize dO (gs.map Gd.nm) ds = DD at *
  generalize gsO gs = GG at *
  unfold F__law_guards
  rw [runF_eq]
  simp [b__law_guards, sn, f1]
  rfl

end Lw

namespace Lw
open PySem PySem.Spec L2 FB Wk
open PyProof.Rows hiding St
structure Ld where
  nm : List Nat
  pl : List Nat
  cs : List (Int × Int)
  la : Int
  on : Bool
def lD (l : Ld) : D := .tup [sD l.nm, sD l.pl, cv l.cs, .int l.la, .bl l.on]
def csOk (cs : List (Int × Int)) : Prop := cs.length ≤ 4 ∧ ∀ p ∈ cs, 1 ≤ p.1 ∧ numOk p.1 ∧ numOk p.2
theorem course_q (o : O) (k : Int) (a0 a1 a2 a3 a4 a6 a7 x : Option O) (h : Fok (k + 40) o) (hk : 0 ≤ k) : ∃ o' cs, q1__law_loads [a0, a1, a2, a3, a4, some o, a6, a7, x] = .ok (vO (cs.map pD)) [a0, a1, a2, a3, a4, some o', a6, a7, x] ∧ Fok k o' ∧ csOk cs := by
  obtain ⟨r, o1, e1, s1, p1, q1⟩ := take o 5 (k + 39) (h.less (by omega)) (by omega) (by decide) (by decide)
  obtain ⟨n, hn⟩ : ∃ n : Nat, r = (n : Int) := ⟨r.toNat, by omega⟩
  subst hn
  have sn := small_nat (n := n) (by omega)
  obtain ⟨os, ρ', hc, hl, hp, o', e, s'⟩ := compL_inv (own := [8]) (a := aN 8) (e := mTup (mCons (mCall F__law_begin [.io 5]) (mCons (mCall F__law_number [.io 5]) (mNil)))) (ds := rangeL 0 n) (ρ := [a0, a1, a2, a3, a4, some o1, a6, a7, none])
    (fun i ρ => ∃ o, ρ = [a0, a1, a2, a3, a4, some o, a6, a7, none] ∧ Fok (k + 39 - 7 * i) o) (fun _ o => ∃ p : Int × Int, (1 ≤ p.1 ∧ numOk p.1 ∧ numOk p.2) ∧ o = .val (pD p)) ⟨o1, rfl, s1.less (by omega)⟩ (by
      rintro i d ρ hd ⟨o, rfl, so⟩
      obtain ⟨hi, rfl⟩ := rangeL_get hd
      obtain ⟨v, o2, e2, s2, v1, v2⟩ := begin_ o (k + 39 - 7 * ((i + 1 : Nat) : Int) + 4) (so.less (by push_cast; omega)) (by push_cast; omega)
      obtain ⟨w, o3, e3, s3, w1, w2⟩ := number o2 (k + 39 - 7 * ((i + 1 : Nat) : Int)) (s2.less (by omega)) (by push_cast; omega)
      exact ⟨[a0, a1, a2, a3, a4, some o, a6, a7, some (.val (.int (0 + (i : Int))))], .val (pD (v, w)), [a0, a1, a2, a3, a4, some o3, a6, a7, some (.val (.int (0 + (i : Int))))], by simp, by simp [e2, e3, pD], ⟨(v, w), ⟨v1, ⟨by show 0 ≤ v; omega, by show v < _; omega⟩, ⟨w1, w2⟩⟩, rfl⟩, o3, by simp, s3⟩)
  subst e
  rw [rangeL_len] at hl s'
  obtain ⟨cs, e2, hb⟩ := list_of (fun p : Int × Int => O.val (pD p)) (fun p => 1 ≤ p.1 ∧ numOk p.1 ∧ numOk p.2) hp
  subst e2
  refine ⟨o', cs, ?_, s'.less (by omega), by simp at hl; omega, hb⟩
  have e3 : vO (cs.map pD) = .lst (cs.map fun p => O.val (pD p)) := by unfold vO; rw [List.map_map]; rfl
  rw [e3]
  simp [q1__law_loads, e1, sn, rangeL_len, show n ≤ 1000000 by omega]
  rw [hc]
  simp [bkK_eta]
def lsO (ls : List Ld) : O := vO (ls.map lD)
theorem ls_apA (ls : List Ld) (ρ : FB.Env) (mm : M O) : apA 3 mm ρ (some (some (lsO ls))) = apB 3 (mm ρ) := rfl
theorem ls_ap (ls : List Ld) (l : Ld) (h : ls.length < 100) (ρ : FB.Env) : apC 3 (.val (.tup [sD l.nm, sD l.pl, cv l.cs, .int l.la, .bl l.on])) ρ (some (some (lsO ls))) = .ok (.val .non) (ρ.set 3 (some (lsO (ls ++ [l])))) := by
  unfold lsO
  rw [vO_apC _ _ _ (by simp; omega)]; simp [lD]
structure LsOk (gs : List Gd) (ls : List Ld) : Prop where
  names : ∀ l ∈ ls, NameOk l.nm
  pl : ∀ l ∈ ls, l.pl ∈ gs.map Gd.nm
  rest : ∀ l ∈ ls, csOk l.cs ∧ numOk l.la
def gsV (gs : List Gd) : D := .lst (gs.map gD)
theorem load_b (xs : D) (sc : List Int) (hs : Sc (.val xs) sc) (ns : List (List Nat)) (gs : List Gd) (ls : List Ld) (a5 a6 a7 a8 : Option O) (hns : NsOk ns) (hg : 0 < gs.length) (hg2 : gs.length ≤ 40) (h : LsOk gs ls) (hm : ls.map Ld.nm = ns.take ls.length) (hk : ls.length < ns.length) (hl : ns.length ≤ 40) :
    ∃ l y5 y6 y7, b1__law_loads [some (.val xs), some (.val (nsV ns)), some (.val (gsV gs)), some (lsO ls), some (.val (.int (ls.length : Int))), a5, a6, a7, a8] =
      .ok .nx [some (.val xs), some (.val (nsV ns)), some (.val (gsV gs)), some (lsO (ls ++ [l])), some (.val (.int (ls.length : Int))), y5, y6, y7, a8] ∧ LsOk gs (ls ++ [l]) ∧ (ls ++ [l]).map Ld.nm = ns.take (ls.length + 1) := by
  obtain ⟨o0, e0, s0⟩ := feed hs (18 + ls.length) (by omega)
  rw [show ((18 + ls.length : Nat) : Int) = 18 + (ls.length : Int) by omega] at e0
  obtain ⟨l, hlk⟩ : ∃ l, ns[ls.length]? = some l := ⟨_, List.getElem?_eq_getElem hk⟩
  have nix := nsV_ix ns ls.length l hlk
  have hok := hns.2 l (List.mem_of_getElem? hlk)
  obtain ⟨w, o1, e1, s1, p1, q1⟩ := take o0 (gs.length : Int) (800000000 : Int) (s0.less (by omega)) (by omega) (by omega) (log_big (by omega) (by omega))
  obtain ⟨j, hj⟩ : ∃ n : Nat, w = (n : Int) := ⟨w.toNat, by omega⟩
  subst hj
  obtain ⟨g, hgj⟩ : ∃ g, gs[j]? = some g := ⟨_, List.getElem?_eq_getElem (by omega)⟩
  have gix : ixO (.val (gsV gs)) (.val (.int (j : Int))) = some (.val (gD g)) := by
    show (atI (gs.map gD) (j : Int)).map O.val = _
    rw [atN, List.getElem?_map, hgj]; rfl
  have g0 := gD_0 g
  have gl : lenO (.val (gsV gs)) = some (.val (.int (gs.length : Int))) := by unfold gsV; simp
  obtain ⟨o2, cs, e2, s2, kcs⟩ := course_q o1 (700000000 : Int) (some (.val xs)) (some (.val (nsV ns))) (some (.val (gsV gs))) (some (lsO ls)) (some (.val (.int (ls.length : Int)))) (some (.val (sD g.nm))) a7 a8 (s1.less (by omega)) (by omega)
  have tup : tupO (vO (cs.map pD)) = some (.val (cv cs)) := by simp [cv, tupO]
  obtain ⟨x, o3, e3, s3, x1, x2⟩ := number o2 (600000000 : Int) (s2.less (by omega)) (by omega)
  obtain ⟨b, o4, e4, s4, b1, b2⟩ := take o3 2 (500000000 : Int) (s3.less (by omega)) (by omega) (by decide) (by decide)
  refine ⟨⟨l, g.nm, cs, x, decide (b = 1)⟩, some o4, some (.val (sD g.nm)), some (.val (cv cs)), ?_, ?_, ?_⟩
  · have ap := ls_apA ls
    have ac : ∀ ρ : FB.Env, apC 3 (.val (.tup [sD l, sD g.nm, cv cs, .int x, .bl (decide (b = 1))])) ρ (some (some (lsO ls))) = .ok (.val .non) (ρ.set 3 (some (lsO (ls ++ [⟨l, g.nm, cs, x, decide (b = 1)⟩])))) := ls_ap ls ⟨l, g.nm, cs, x, decide (b = 1)⟩ (by omega)
    generalize lsO (ls ++ [⟨l, g.nm, cs, x, decide (b = 1)⟩]) = L2 at *
    generalize lsO ls = L1 at *
    simp [b1__law_loads, e0, gl, e1, gix, g0, e2, tup, nix, e3, e4, ap, ac]
  · obtain ⟨h1, h2, h3⟩ := h
    refine ⟨fun y hy => ?_, fun y hy => ?_, fun y hy => ?_⟩
    · rcases List.mem_append.mp hy with q | q
      · exact h1 y q
      · simp at q; rw [q]; exact hok
    · rcases List.mem_append.mp hy with q | q
      · exact h2 y q
      · simp at q; rw [q]; exact List.mem_map.mpr ⟨g, List.mem_of_getElem? hgj, rfl⟩
    · rcases List.mem_append.mp hy with q | q
      · exact h3 y q
      · simp at q; rw [q]; exact ⟨kcs, x1, x2⟩
  · rw [List.map_append, hm, List.take_succ, hlk]; rfl
theorem loads (xs : D) (sc : List Int) (hs : Sc (.val xs) sc) (ns : List (List Nat)) (gs : List Gd) (hns : NsOk ns) (hg : 0 < gs.length) (hg2 : gs.length ≤ 40) (hl : ns.length ≤ 40) :
    ∃ ls, F__law_loads [.val xs, .val (nsV ns), .val (gsV gs)] = some (lsO ls, [none, none, none]) ∧ LsOk gs ls ∧ ls.map Ld.nm = ns := by
  obtain ⟨ρ', f1, ls, y4, y5, y6, y7, rfl, h1, h2, h3⟩ := forL_inv (a := aN 4) (b := b1__law_loads) (ds := rangeL 0 ns.length) (fun i ρ => ∃ ls y4 y5 y6 y7, ρ = [some (.val xs), some (.val (nsV ns)), some (.val (gsV gs)), some (lsO ls), y4, y5, y6, y7, none] ∧ LsOk gs ls ∧ ls.map Ld.nm = ns.take i ∧ ls.length = i)
    (ρ := [some (.val xs), some (.val (nsV ns)), some (.val (gsV gs)), some (O.lst []), none, none, none, none, none]) ⟨[], none, none, none, none, rfl, ⟨by simp, by simp, by simp⟩, by simp, rfl⟩ (by
      rintro i d ρ hd ⟨ls, y4, y5, y6, y7, rfl, h1, h2, h3⟩
      obtain ⟨hi, rfl⟩ := rangeL_get hd
      subst h3
      obtain ⟨l, z5, z6, z7, eb, g1, g2⟩ := load_b xs sc hs ns gs ls y5 y6 y7 none hns hg hg2 h1 h2 hi hl
      rw [show (0 : Int) + (ls.length : Int) = (ls.length : Int) by omega]
      exact ⟨[some (.val xs), some (.val (nsV ns)), some (.val (gsV gs)), some (lsO ls), some (.val (.int (ls.length : Int))), y5, y6, y7, none], _, by simp, .inl eb, ls ++ [l], _, z5, z6, z7, rfl, g1, g2, by simp⟩)
  rw [rangeL_len] at h2 h3
  have sn := small_nat (n := ns.length) (by omega)
  have nl : lenO (.val (nsV ns)) = some (.val (.int (ns.length : Int))) := by unfold nsV; simp
  refine ⟨ls, ?_, h1, by rw [h2, List.take_length]⟩
  generalize lsO ls = LL at *
  unfold F__law_loads
  rw [runF_eq]
  simp [b__law_loads, sn, nl, f1]
  rfl
/-- a right board -/
structure Bd where
  gs : List Gd
  ls : List Ld
def bD (b : Bd) : D := .tup [.tup (b.gs.map gD), .tup (b.ls.map lD)]
structure BOk (b : Bd) : Prop where
  deep : ∃ ds, GsOk b.gs ds
  ls : LsOk b.gs b.ls
  g1 : 0 < b.gs.length
  g2 : b.gs.length ≤ 16
  l2 : b.ls.length ≤ 24
  nd : (b.gs.map Gd.nm ++ b.ls.map Ld.nm).Nodup
theorem board (xs : D) (sc : List Int) (hs : Sc (.val xs) sc) : ∃ b, F__law_board [.val xs] = some (.val (bD b), [none]) ∧ BOk b := by
  obtain ⟨o0, e0, s0⟩ := feed hs 0 (by omega)
  have e0 : F__law_feed [.val xs, .val (.int 0)] = some (o0, [none, none]) := e0
  obtain ⟨r1, o1, e1, s1, p1, q1⟩ := take o0 2 (800000000 : Int) (s0.less (by omega)) (by omega) (by decide) (by decide)
  obtain ⟨f1, ef1, f10, f11⟩ : ∃ f : Int, atI [O.val (.int 4), O.val (.int 16)] r1 = some (.val (.int f)) ∧ 0 < f ∧ f ≤ 16 := by
    have : r1 = 0 ∨ r1 = 1 := by omega
    rcases this with e | e <;> subst e
    · exact ⟨4, by simp, by decide, by decide⟩
    · exact ⟨16, by simp, by decide, by decide⟩
  obtain ⟨r2, o2, e2, s2, p2, q2⟩ := take o1 f1 (700000000 : Int) (s1.less (by omega)) (by omega) f10 (log_big (by omega) (by omega))
  obtain ⟨m, hm⟩ : ∃ m : Nat, 1 + r2 = (m : Int) := ⟨(1 + r2).toNat, by omega⟩
  obtain ⟨oA, eA, sA⟩ := feed hs 1 (by omega)
  have eA : F__law_feed [.val xs, .val (.int 1)] = some (oA, [none, none]) := eA
  obtain ⟨r3, o3, e3, s3, p3, q3⟩ := take o2 2 (600000000 : Int) (s2.less (by omega)) (by omega) (by decide) (by decide)
  obtain ⟨f2, ef2, f20, f21⟩ : ∃ f : Int, atI [O.val (.int 6), O.val (.int 25)] r3 = some (.val (.int f)) ∧ 0 < f ∧ f ≤ 25 := by
    have : r3 = 0 ∨ r3 = 1 := by omega
    rcases this with e | e <;> subst e
    · exact ⟨6, by simp, by decide, by decide⟩
    · exact ⟨25, by simp, by decide, by decide⟩
  obtain ⟨r4, o4, e4, s4, p4, q4⟩ := take o3 f2 (500000000 : Int) (s3.less (by omega)) (by omega) f20 (log_big (by omega) (by omega))
  obtain ⟨nn, hnn⟩ : ∃ n : Nat, (m : Int) + r4 = (n : Int) := ⟨((m : Int) + r4).toNat, by omega⟩
  obtain ⟨oB, ns, e5, s5, hnl, hns⟩ := names oA (100000000 : Int) nn (sA.less (by omega)) (by omega) (by omega) (by omega)
  obtain ⟨gs, ds, e6, hgs, hgm, hgl⟩ := guards xs sc hs ns m hns (by omega) (by omega)
  have hns2 : NsOk (ns.drop m) := ⟨hns.1.sublist (List.drop_sublist _ _), fun l hl => hns.2 l (List.mem_of_mem_drop hl)⟩
  obtain ⟨ls, e7, hls, hlm⟩ := loads xs sc hs (ns.drop m) gs hns2 (by omega) (by omega) (by simp; omega)
  refine ⟨⟨gs, ls⟩, ?_, ⟨⟨ds, hgs⟩, hls, by show 0 < gs.length; omega, by show gs.length ≤ 16; omega, ?_, ?_⟩⟩
  · have nt : (nO ns).toD = nsV ns := by unfold nO nsV; rw [vO_toD]; rfl
    have gt : (gsO gs).toD = gsV gs := by unfold gsO gsV; rw [vO_toD]
    have cut : slO (.val (nsV ns)) (some (m : Int)) none = some (.val (nsV (ns.drop m))) := by
      unfold nsV
      rw [slO_val_lst, cut_from, List.map_drop]
    have t1 : tupO (.val (gsV gs)) = some (.val (.tup (gs.map gD))) := rfl
    have t2 : tupO (lsO ls) = some (.val (.tup (ls.map lD))) := by unfold lsO; simp [tupO]
    have ev : evA [.v (mCall F__law_feed [.v (mP (pVar 0)), .v (mP (pC (.int 1)))])] = evA [.v (mCall F__law_feed [.v (mP (pVar 0)), .v (mP (pC (.int 1)))])] := rfl
    generalize nO ns = NO at *
    generalize gsO gs = GO at *
    generalize lsO ls = LO at *
    unfold F__law_board
    rw [runF_eq]
    simp [b__law_board, e0, e1, ef1, e2, hm, eA, e3, ef2, e4, hnn, e5, nt, e6, gt, cut, e7, t1, t2, bD]
    rfl
  · show ls.length ≤ 24
    have := congrArg List.length hlm
    simp at this
    omega
  · show (gs.map Gd.nm ++ ls.map Ld.nm).Nodup
    rw [hgm, hlm, List.take_append_drop]
    exact hns.1

end Lw

namespace Lw
open PySem PySem.Spec L2 FB Wk
open PyProof.Rows hiding St
def sO (L : List (List Nat)) : O := vO (L.map sD)
theorem sO_sh (L : List (List Nat)) : (sO L).sh = some (.lst (L.map sD)) := vO_sh _
theorem sO_toD (L : List (List Nat)) : (sO L).toD = .lst (L.map sD) := by unfold sO; rw [vO_toD]
theorem sO_apA (j : Nat) (L : List (List Nat)) (ρ : FB.Env) (mm : M O) : apA j mm ρ (some (some (sO L))) = apB j (mm ρ) := rfl
theorem sO_ap (j : Nat) (L : List (List Nat)) (l : List Nat) (h : L.length < 100) (ρ : FB.Env) : apC j (.val (sD l)) ρ (some (some (sO L))) = .ok (.val .non) (ρ.set j (some (sO (L ++ [l])))) := by
  unfold sO
  rw [vO_apC _ _ _ (by simp; omega)]; simp
theorem lD_0 (g : Ld) : ixO (.val (lD g)) (.val (.int 0)) = some (.val (sD g.nm)) := by unfold lD; simp
theorem lD_1 (y : Ld) : ixO (.val (lD y)) (.val (.int 1)) = some (.val (sD y.pl)) := by unfold lD; simp
theorem gD_1 (g : Gd) : ixO (.val (gD g)) (.val (.int 1)) = some (.val (uD g.un)) := by unfold gD; simp
theorem bD_0 (b : Bd) : ixO (.val (bD b)) (.val (.int 0)) = some (.val (.tup (b.gs.map gD))) := by unfold bD; simp
theorem bD_1 (b : Bd) : ixO (.val (bD b)) (.val (.int 1)) = some (.val (.tup (b.ls.map lD))) := by unfold bD; simp
/-! ### the dict of what each is under -/
def pK (gs : List Gd) : List Key := kD (gs.map Gd.nm)
def pV (gs : List Gd) : List O := gs.map fun g => O.val (uD g.un)
def prD (gs : List Gd) : D := .dct (pK gs) (gs.map fun g => uD g.un)
theorem prD_p (gs : List Gd) : dctP (.val (prD gs)) = some (pK gs, pV gs) := by
  show some (pK gs, (gs.map fun g => uD g.un).map O.val) = _
  rw [List.map_map]; rfl
theorem get_un {gs : List Gd} {g : Gd} {a : O} (hp : dctP a = some (pK gs, pV gs)) (nd : (gs.map Gd.nm).Nodup) (hg : g ∈ gs) : ixF a (.val (sD g.nm)) = some (.val (uD g.un)) := by
  obtain ⟨i, hi⟩ := List.getElem?_of_mem hg
  have e : ixF a (.val (sD g.nm)) = (idxK (pK gs) (.inr (SL g.nm))).bind fun j => (pV gs)[j]? := by
    have : dgO a (.val (sD g.nm)) = (idxK (pK gs) (.inr (SL g.nm))).bind fun j => (pV gs)[j]? := by
      unfold dgO; rw [hp]; rfl
    rw [← this]
    cases a with
    | val d => cases d <;> first | rfl | cases hp
    | dct _ _ => rfl
    | _ => cases hp
  rw [e]
  unfold pK pV
  rw [idx_some (i := i) nd (by rw [List.getElem?_map, hi]; rfl)]
  show (gs.map _)[i]? = _
  rw [List.getElem?_map, hi]; rfl
theorem prs_gs : ∀ (gs : List Gd), prs? (gs.map fun g => D.tup [sD g.nm, uD g.un]) = some (gs.map fun g => ((.inr (SL g.nm) : Key), uD g.un))
  | [] => rfl
  | g :: gs => by
    have ih := prs_gs gs
    rw [List.map_cons]
    show (some ((.inr (SL g.nm) : Key), uD g.un)).bind (fun p => (prs? (gs.map fun g => D.tup [sD g.nm, uD g.un])).map (p :: ·)) = _
    rw [ih]; rfl
theorem merge_nd {α : Type} : ∀ (kvs : List (Key × α)) (ks : List Key) (os : List α), (ks ++ kvs.map (·.1)).Nodup → mergeL (ks, os) kvs = (ks ++ kvs.map (·.1), os ++ kvs.map (·.2))
  | [], ks, os, _ => by simp [mergeL]
  | kv :: kvs, ks, os, nd => by
    have hk : kv.1 ∉ ks := fun z => by
      have := (List.nodup_append.mp nd).2.2 kv.1 z kv.1 (by simp)
      exact this rfl
    have hi : idxK ks kv.1 = none := by
      unfold idxK
      rw [List.findIdx?_eq_none_iff]
      intro x hx
      simp
      intro e
      exact hk (e ▸ hx)
    have e : mergeL (ks, os) (kv :: kvs) = mergeL (ks ++ [kv.1], os ++ [kv.2]) kvs := by
      show mergeL (putL ks os kv.1 kv.2) kvs = _
      unfold putL
      rw [hi]
    rw [e, merge_nd kvs _ _ (by simpa using nd)]
    simp
theorem inr_nd {gs : List Gd} (nd : (gs.map Gd.nm).Nodup) : (gs.map fun g => (.inr (SL g.nm) : Key)).Nodup := by
  have : (gs.map fun g => (.inr (SL g.nm) : Key)) = (gs.map Gd.nm).map fun l => (.inr (SL l) : Key) := by rw [List.map_map]; rfl
  rw [this]
  refine List.Pairwise.map _ (fun a b h z => h ?_) nd
  exact SL_inj (Sum.inr.inj z)
theorem dct_gs {gs : List Gd} (nd : (gs.map Gd.nm).Nodup) : dctOf (gs.map fun g => ((.inr (SL g.nm) : Key), uD g.un)) = prD gs := by
  unfold dctOf prD pK kD
  rw [merge_nd _ _ _ (by rw [List.nil_append, List.map_map]; exact inr_nd nd)]
  simp [List.map_map]
/-! ### upwards -/
inductive Ch (gs : List Gd) : Option (List Nat) → List (List Nat) → Prop
  | nil : Ch gs none []
  | cons {g : Gd} {L : List (List Nat)} : g ∈ gs → Ch gs g.un L → Ch gs (some g.nm) (g.nm :: L)
theorem ch_ex {gs : List Gd} {ds : List Nat} (h : GsOk gs ds) : ∀ (i : Nat) (g : Gd), gs[i]? = some g → ∃ L, Ch gs (some g.nm) L ∧ L.length ≤ i + 1 := by
  intro i
  induction i using Nat.strongRecOn with
  | ind i ih =>
    intro g hg
    have hm := List.mem_of_getElem? hg
    rcases h.under i g hg with ⟨hu, _⟩ | ⟨j, u, d, hj, hu, hn, _⟩
    · refine ⟨[g.nm], .cons hm ?_, by simp⟩
      rw [hu]; exact .nil
    · obtain ⟨L, hL, hl⟩ := ih j hj u hu
      refine ⟨g.nm :: L, .cons hm ?_, by simp; omega⟩
      rw [hn]; exact hL
theorem ch_mem {gs : List Gd} {ds : List Nat} (h : GsOk gs ds) {g : Gd} (hg : g ∈ gs) (hl : gs.length ≤ 16) : ∃ L, Ch gs (some g.nm) L ∧ L.length ≤ 16 := by
  obtain ⟨i, hi⟩ := List.getElem?_of_mem hg
  obtain ⟨L, h1, h2⟩ := ch_ex h i g hi
  have := (List.getElem?_eq_some_iff.mp hi).1
  exact ⟨L, h1, by omega⟩
theorem uD_ne (l : List Nat) : notNO (.val (sD l)) (.val .non) = some (.val (.bl true)) := rfl
theorem up_chain {gs : List Gd} (nd : (gs.map Gd.nm).Nodup) (x0 : Option O) {u : Option (List Nat)} {L : List (List Nat)} (c : Ch gs u L) : ∀ (F : List (List Nat)) (n : Nat), F.length + L.length < 100 → L.length < n →
    whileN t1_chain b1_chain n [x0, some (.val (uD u)), some (.val (prD gs)), some (sO F), none] = .ok .nx [x0, some (.val .non), some (.val (prD gs)), some (sO (F ++ L)), none] := by
  induction c with
  | nil =>
    intro F n h1 h2
    cases n with
    | zero => simp at h2
    | succ n =>
      unfold whileN
      have e : notNO (.val (uD none)) (.val .non) = some (.val (.bl false)) := rfl
      simp [t1_chain, e]
      rfl
  | @cons g L hg hc ih =>
    intro F n h1 h2
    cases n with
    | zero => simp at h2
    | succ n =>
      have e := uD_ne g.nm
      have ap := sO_apA 3 F
      have ac := sO_ap 3 F g.nm (by simp at h1; omega)
      have ix := get_un (prD_p gs) nd hg
      have ih := ih (F ++ [g.nm]) n (by simp at h1 ⊢; omega) (by simp at h2; omega)
      rw [List.append_assoc] at ih
      rw [show F ++ ([g.nm] ++ L) = F ++ g.nm :: L by simp] at ih
      have ht : t1_chain [x0, some (.val (uD (some g.nm))), some (.val (prD gs)), some (sO F), none] = .ok true [x0, some (.val (uD (some g.nm))), some (.val (prD gs)), some (sO F), none] := by
        have e : notNO (.val (uD (some g.nm))) (.val .non) = some (.val (.bl true)) := rfl
        simp [t1_chain, e]
      have hb : b1_chain [x0, some (.val (uD (some g.nm))), some (.val (prD gs)), some (sO F), none] = .ok .nx [x0, some (.val (uD g.un)), some (.val (prD gs)), some (sO (F ++ [g.nm])), none] := by
        show b1_chain [x0, some (.val (sD g.nm)), some (.val (prD gs)), some (sO F), none] = _
        generalize prD gs = PD at *
        generalize sO (F ++ [g.nm]) = S2 at *
        generalize sO F = S1 at *
        simp [b1_chain, ap, ac, ix]
      unfold whileN
      rw [ht]
      simp [hb, ih]
theorem chain {gs : List Gd} (nd : (gs.map Gd.nm).Nodup) (hl : gs.length ≤ 100) {l : List Nat} {L : List (List Nat)} (c : Ch gs (some l) L) (h16 : L.length ≤ 16) : F_chain [.val (.tup (gs.map gD)), .val (sD l)] = some (sO L, [none, none]) := by
  have hc := compL_all (ρ := [some (.val (.tup (gs.map gD))), some (.val (sD l)), none, none, none]) (own := [4]) (a := aN 4) (t := mTrue) (e := mP (pTup (pCons (p2 ixO (pVar 4) (pC (.int 0))) (pCons (p2 ixO (pVar 4) (pC (.int 1))) pNil)))) gD (fun g => O.val (.tup [sD g.nm, uD g.un])) (xs := gs) (by
    intro g hg
    have g0 := gD_0 g
    have g1 := gD_1 g
    exact ⟨[some (.val (.tup (gs.map gD))), some (.val (sD l)), none, none, some (.val (gD g))], [some (.val (.tup (gs.map gD))), some (.val (sD l)), none, none, some (.val (gD g))], [some (.val (.tup (gs.map gD))), some (.val (sD l)), none, none, some (.val (gD g))], by simp, by simp, by simp [g0, g1], by simp⟩)
  have q : q1_chain [some (.val (.tup (gs.map gD))), some (.val (sD l)), none, none, none] = .ok (vO (gs.map fun g => D.tup [sD g.nm, uD g.un])) [some (.val (.tup (gs.map gD))), some (.val (sD l)), none, none, none] := by
    simp [q1_chain, show gs.length ≤ 1000000 by omega]
    rw [hc]
    simp [vO, bkK_eta]
  have w := up_chain nd (some (.val (.tup (gs.map gD)))) c [] fuel (by simp; omega) (by rw [fuel_eq]; omega)
  rw [List.nil_append] at w
  have pg := prs_gs gs
  have dg := dct_gs nd
  have vt := vO_toD (gs.map fun g => D.tup [sD g.nm, uD g.un])
  generalize vO (gs.map fun g => D.tup [sD g.nm, uD g.un]) = VV at *
  have w' : whileN t1_chain b1_chain fuel [some (.val (.tup (gs.map gD))), some (.val (sD l)), some (.val (prD gs)), some (O.lst []), none] = .ok .nx [some (.val (.tup (gs.map gD))), some (.val .non), some (.val (prD gs)), some (sO L), none] := w
  generalize sO L = S at *
  unfold F_chain
  rw [runF_eq]
  simp [b_chain, q, vt, pg, dg, mWhile, w']
  rfl

end Lw

namespace Lw
open PySem PySem.Spec L2 FB Wk
open PyProof.Rows hiding St
theorem map_sD (L : List (List Nat)) : L.map sD = (L.map SL).map D.str := by rw [List.map_map]; rfl
theorem SL_eq (l m : List Nat) : decide (SL l = SL m) = decide (l = m) := by
  by_cases h : l = m
  · subst h; simp
  · rw [decide_eq_false h, decide_eq_false fun z => h (SL_inj z)]
end Lw

namespace Lw
open PySem PySem.Spec L2 FB Wk
open PyProof.Rows hiding St
/-! what the program takes for numbers, pairs, curves, courses: of any thing -/
def wholeB : D → Bool
  | .int _ => true
  | _ => false
def numB : D → Bool
  | .int i => decide (0 ≤ i) && decide (i < 1000000000000000000000000000000000000000000000000000000000000)
  | _ => false
/-- a thing whose kind can be asked, and whose parts' kinds -/
def tyB (d : D) : Bool := d.ty.isSome
theorem is_whole (d : D) (h : tyB d = true) : F_is_whole [.val d] = some (.val (.bl (wholeB d)), [none]) := by
  unfold F_is_whole
  rw [runF_eq]
  cases d with
  | fn x => cases h
  | ins c ns ds => cases h
  | scr ns =>
    have e1 : isiO "int" (.val (.scr ns)) = some (.val (.bl false)) := rfl
    simp [b_is_whole, e1]
    first | rfl | exact ⟨rfl, rfl⟩
  | _ =>
    simp [b_is_whole]
    first | rfl | exact ⟨rfl, rfl⟩
theorem is_number (d : D) (h : tyB d = true) : F_is_number [.val d] = some (.val (.bl (numB d)), [none]) := by
  have w := is_whole d h
  unfold F_is_number
  rw [runF_eq]
  cases d with
  | int i =>
    have w : F_is_whole [.val (.int i)] = some (.val (.bl true), [none]) := w
    show _ = some (O.val (.bl (decide (0 ≤ i) && decide (i < 1000000000000000000000000000000000000000000000000000000000000))), _)
    by_cases h0 : 0 ≤ i
    · simp [b_is_number, w, h0]
      first | rfl | exact ⟨rfl, rfl⟩
    · simp [b_is_number, w, h0]
      first | rfl | exact ⟨rfl, rfl⟩
  | fn x => cases h
  | ins c ns ds => cases h
  | _ =>
    have w : F_is_whole [_] = some (.val (.bl false), [none]) := w
    simp [b_is_number, w]
    first | rfl | exact ⟨rfl, rfl⟩
theorem numB_int {d : D} (h : numB d = true) : ∃ i : Int, d = .int i ∧ 0 ≤ i ∧ i < 1000000000000000000000000000000000000000000000000000000000000 := by
  cases d with
  | int i =>
    have h : (decide (0 ≤ i) && decide (i < 1000000000000000000000000000000000000000000000000000000000000)) = true := h
    rw [Bool.and_eq_true, decide_eq_true_eq, decide_eq_true_eq] at h
    exact ⟨i, rfl, h.1, h.2⟩
  | _ => cases h
def pairB : D → Bool
  | .tup [a, b] => numB a && numB b
  | _ => false
/-- parts whose kinds can be asked, where it is a tuple -/
def tyP : D → Bool
  | .tup ds => ds.all tyB
  | d => tyB d
theorem is_pair (d : D) (h : tyP d = true) : F_is_pair [.val d] = some (.val (.bl (pairB d)), [none]) := by
  unfold F_is_pair
  rw [runF_eq]
  cases d with
  | tup ds =>
    have i1 : isiO "tuple" (.val (.tup ds)) = some (.val (.bl true)) := rfl
    have h : ds.all tyB = true := h
    match ds, h with
    | [], _ => simp [b_is_pair, i1]; first | rfl | exact ⟨rfl, rfl⟩
    | [a], _ => simp [b_is_pair, i1]; first | rfl | exact ⟨rfl, rfl⟩
    | [a, b], h =>
      simp only [List.all_cons, List.all_nil, Bool.and_true, Bool.and_eq_true] at h
      have n1 := is_number a h.1
      have n2 := is_number b h.2
      have e0 : ixO (.val (.tup [a, b])) (.val (.int 0)) = some (.val a) := by simp
      have e1 : ixO (.val (.tup [a, b])) (.val (.int 1)) = some (.val b) := by simp
      have ln : lenO (.val (.tup [a, b])) = some (.val (.int 2)) := by simp
      show _ = some (O.val (.bl (numB a && numB b)), _)
      generalize D.tup [a, b] = T at *
      cases ha : numB a with
      | true =>
        rw [ha] at n1
        simp [b_is_pair, i1, ln, e0, e1, n1, n2]
        first | rfl | exact ⟨rfl, rfl⟩
      | false =>
        rw [ha] at n1
        simp [b_is_pair, i1, ln, e0, e1, n1]
        first | rfl | exact ⟨rfl, rfl⟩
    | a :: b :: c :: r, _ =>
      have ln : lenO (.val (.tup (a :: b :: c :: r))) = some (.val (.int ((r.length : Int) + 3))) := by simp; omega
      have ne : ¬ ((r.length : Int) + 3 = 2) := by omega
      have pf : pairB (.tup (a :: b :: c :: r)) = false := rfl
      rw [pf]
      generalize D.tup (a :: b :: c :: r) = T at *
      simp [b_is_pair, i1, ln, ne]
      first | rfl | exact ⟨rfl, rfl⟩
  | fn x => cases h
  | ins c ns ds => cases h
  | scr ns =>
    have e1 : isiO "tuple" (.val (.scr ns)) = some (.val (.bl false)) := rfl
    simp [b_is_pair, e1]
    first | rfl | exact ⟨rfl, rfl⟩
  | _ =>
    simp [b_is_pair]
    first | rfl | exact ⟨rfl, rfl⟩
theorem pairB_pD {d : D} (h : pairB d = true) : ∃ p : Int × Int, d = pD p ∧ numOk p.1 ∧ numOk p.2 := by
  unfold pairB at h
  split at h
  · rename_i a b
    rw [Bool.and_eq_true] at h
    obtain ⟨i, rfl, i1, i2⟩ := numB_int h.1
    obtain ⟨j, rfl, j1, j2⟩ := numB_int h.2
    exact ⟨(i, j), rfl, ⟨i1, i2⟩, ⟨j1, j2⟩⟩
  · cases h
/-! courses -/
def strB (d : D) : Bool := pairB d && (match d with
  | .tup (.int i :: _) => decide (0 < i)
  | _ => false)
def courseB : D → Bool
  | .tup ds => decide (ds.length ≤ 4) && ds.all strB
  | _ => false
/-- parts whose parts' kinds can be asked -/
def tyPP : D → Bool
  | .tup ds => ds.all tyP
  | d => tyB d
theorem is_course (d : D) (h : tyPP d = true) (hl : ∀ ds, d = .tup ds → ds.length ≤ 1000000) : F_is_course [.val d] = some (.val (.bl (courseB d)), [none]) := by
  unfold F_is_course
  rw [runF_eq]
  cases d with
  | tup ds =>
    have i1 : isiO "tuple" (.val (.tup ds)) = some (.val (.bl true)) := rfl
    have h : ds.all tyP = true := h
    have hl := hl ds rfl
    have ln : lenO (.val (.tup ds)) = some (.val (.int (ds.length : Int))) := by simp
    by_cases h4 : ds.length ≤ 4
    · have gt : ¬ ((4 : Int) < (ds.length : Int)) := by omega
      have q : q1_is_course (E_is_course (some (.val (.tup ds)))) = .ok (.lst (ds.map fun d => O.val (.bl (strB d)))) (E_is_course (some (.val (.tup ds)))) := by
        have := comp_map (it := mI (mP (pVar 0))) (own := own2 [("stretch", 1)]) (a := aN 1) (t := mTrue) (e := mAndV (mCall F_is_pair [.v (mP (pVar 1))]) (mP (p2 (lift2 gtD) (p2 ixO (pVar 1) (pC (.int 0))) (pC (.int 0))))) (ρ := E_is_course (some (.val (.tup ds)))) (ρ1 := E_is_course (some (.val (.tup ds)))) (id : D → D) (fun d => O.val (.bl (strB d))) (xs := ds) (by simp) hl (by decide) (fun d hd => by
          have pr := is_pair d (List.all_eq_true.mp h d hd)
          cases hp : pairB d with
          | false =>
            rw [hp] at pr
            have sb : strB d = false := by unfold strB; rw [hp]; rfl
            rw [sb]
            simp [pr]
          | true =>
            rw [hp] at pr
            obtain ⟨p, rfl, p1, p2⟩ := pairB_pD hp
            have sb : strB (pD p) = decide (0 < p.1) := by unfold strB; rw [hp]; rfl
            have e0 : ixO (.val (pD p)) (.val (.int 0)) = some (.val (.int p.1)) := rfl
            rw [sb]
            generalize pD p = PP at *
            simp [pr, e0])
        exact this
      have al := all_map strB ds
      have cb : courseB (.tup ds) = ds.all strB := by show (decide (ds.length ≤ 4) && ds.all strB) = _; rw [decide_eq_true h4]; rfl
      rw [cb]
      generalize (O.lst (ds.map fun d => O.val (.bl (strB d)))) = LL at *
      generalize D.tup ds = T at *
      simp [b_is_course, i1, ln, gt, q, al]
      first | rfl | exact ⟨rfl, rfl⟩
    · have gt : ((4 : Int) < (ds.length : Int)) := by omega
      have cb : courseB (.tup ds) = false := by show (decide (ds.length ≤ 4) && ds.all strB) = _; rw [decide_eq_false h4]; rfl
      rw [cb]
      generalize D.tup ds = T at *
      simp [b_is_course, i1, ln, gt]
      first | rfl | exact ⟨rfl, rfl⟩
  | fn x => cases h
  | ins c ns ds => cases h
  | scr ns =>
    have e1 : isiO "tuple" (.val (.scr ns)) = some (.val (.bl false)) := rfl
    simp [b_is_course, e1]
    first | rfl | exact ⟨rfl, rfl⟩
  | _ =>
    simp [b_is_course]
    first | rfl | exact ⟨rfl, rfl⟩
/-! curves -/
def stepB (d : D) : Bool := pairB d && (match d with
  | .tup [.int i, .int j] => decide (1 ≤ i) && decide (1 ≤ j)
  | _ => false)
/-- each step is greater and its turns are fewer than the one's ahead -/
def risC : List (Int × Int) → Bool
  | p :: q :: C => (decide (p.1 < q.1) && decide (q.2 < p.2)) && risC (q :: C)
  | _ => true
def stpI : D → Int × Int
  | .tup [.int i, .int j] => (i, j)
  | _ => (0, 0)
def curveB : D → Bool
  | .tup ds => (decide (1 ≤ ds.length) && decide (ds.length ≤ 5)) && (ds.all stepB && risC (ds.map stpI))
  | _ => false
theorem step_pD {d : D} (h : stepB d = true) : ∃ p : Int × Int, d = pD p ∧ numOk p.1 ∧ numOk p.2 ∧ 1 ≤ p.1 ∧ 1 ≤ p.2 := by
  unfold stepB at h
  rw [Bool.and_eq_true] at h
  obtain ⟨p, rfl, h1, h2⟩ := pairB_pD h.1
  have h3 : (decide (1 ≤ p.1) && decide (1 ≤ p.2)) = true := h.2
  rw [Bool.and_eq_true, decide_eq_true_eq, decide_eq_true_eq] at h3
  exact ⟨p, rfl, h1, h2, h3.1, h3.2⟩
theorem steps_map : ∀ {ds : List D}, ds.all stepB = true → ∃ C : List (Int × Int), ds = C.map pD ∧ ds.map stpI = C ∧ ∀ p ∈ C, 1 ≤ p.1 ∧ 1 ≤ p.2 ∧ numOk p.1 ∧ numOk p.2
  | [], _ => ⟨[], rfl, rfl, by simp⟩
  | d :: ds, h => by
    rw [List.all_cons, Bool.and_eq_true] at h
    obtain ⟨p, rfl, h1, h2, h3, h4⟩ := step_pD h.1
    obtain ⟨C, rfl, e, hC⟩ := steps_map h.2
    refine ⟨p :: C, rfl, by rw [List.map_cons, e]; rfl, fun q hq => ?_⟩
    rcases List.mem_cons.mp hq with rfl | hq
    · exact ⟨h3, h4, h1, h2⟩
    · exact hC q hq
theorem zip_tail : ∀ (C : List (Int × Int)), zipL (C.map pD) ((C.map pD).drop 1) = (C.zip (C.drop 1)).map fun q => D.tup [pD q.1, pD q.2] := by
  have key : ∀ (xs ys : List (Int × Int)), zipL (xs.map pD) (ys.map pD) = (xs.zip ys).map fun q => D.tup [pD q.1, pD q.2] := by
    intro xs
    induction xs with
    | nil => intro ys; rfl
    | cons x xs ih =>
      intro ys
      cases ys with
      | nil => rfl
      | cons y ys =>
        show D.tup [pD x, pD y] :: zipL (xs.map pD) (ys.map pD) = _
        rw [ih]; rfl
  intro C
  rw [← List.map_drop]
  exact key C (C.drop 1)
def upP (q : (Int × Int) × (Int × Int)) : Bool := decide (q.1.1 < q.2.1) && decide (q.2.2 < q.1.2)
theorem ris_zip : ∀ C : List (Int × Int), (C.zip (C.drop 1)).all upP = risC C
  | [] => rfl
  | [p] => rfl
  | p :: q :: C => by
    have ih := ris_zip (q :: C)
    show (upP (p, q) && ((q :: C).zip C).all upP) = _
    have ih : ((q :: C).zip C).all upP = risC (q :: C) := ih
    rw [ih]; rfl
theorem is_curve (d : D) (h : tyPP d = true) (hl : ∀ ds, d = .tup ds → ds.length ≤ 1000000) : F_is_curve [.val d] = some (.val (.bl (curveB d)), [none]) := by
  unfold F_is_curve
  rw [runF_eq]
  cases d with
  | tup ds =>
    have i1 : isiO "tuple" (.val (.tup ds)) = some (.val (.bl true)) := rfl
    have h : ds.all tyP = true := h
    have hl := hl ds rfl
    have ln : lenO (.val (.tup ds)) = some (.val (.int (ds.length : Int))) := by simp
    by_cases h5 : 1 ≤ ds.length ∧ ds.length ≤ 5
    · have l1 : (1 : Int) ≤ (ds.length : Int) := by omega
      have l5 : (ds.length : Int) ≤ 5 := by omega
      have cb : curveB (.tup ds) = (ds.all stepB && risC (ds.map stpI)) := by
        show ((decide (1 ≤ ds.length) && decide (ds.length ≤ 5)) && _) = _
        rw [decide_eq_true h5.1, decide_eq_true h5.2]; rfl
      have k1 := forL_find (o := O.val (.bl false)) (a := aN 1) (b := b1_is_curve) (fun c : Option O => E_is_curve (some (.val (.tup ds))) c) (id : D → D) stepB (xs := ds) none (by
        intro d hd c
        have pr := is_pair d (List.all_eq_true.mp h d hd)
        refine ⟨_, rfl, ?_⟩
        cases hp : pairB d with
        | false =>
          rw [hp] at pr
          have sb : stepB d = false := by unfold stepB; rw [hp]; rfl
          rw [sb]
          refine .inr ⟨rfl, E_is_curve (some (.val (.tup ds))) (some (.val d)), ?_⟩
          generalize D.tup ds = T at *
          simp [b1_is_curve, pr]
        | true =>
          rw [hp] at pr
          obtain ⟨p, rfl, p1, p2⟩ := pairB_pD hp
          have sb : stepB (pD p) = (decide (1 ≤ p.1) && decide (1 ≤ p.2)) := by unfold stepB; rw [hp]; rfl
          have e0 : ixO (.val (pD p)) (.val (.int 0)) = some (.val (.int p.1)) := rfl
          have e1 : ixO (.val (pD p)) (.val (.int 1)) = some (.val (.int p.2)) := rfl
          rw [sb]
          show _ ∨ _
          simp only [id]
          generalize D.tup ds = T at *
          by_cases a1 : 1 ≤ p.1
          · have a1' : ¬ p.1 < 1 := by omega
            by_cases a2 : 1 ≤ p.2
            · have a2' : ¬ p.2 < 1 := by omega
              refine .inl ⟨by rw [decide_eq_true a1, decide_eq_true a2]; rfl, some (.val (pD p)), ?_⟩
              generalize pD p = PP at *
              simp [b1_is_curve, pr, e0, e1, a1', a2']
            · have a2' : p.2 < 1 := by omega
              refine .inr ⟨by rw [decide_eq_true a1, decide_eq_false a2]; rfl, E_is_curve (some (.val T)) (some (.val (pD p))), ?_⟩
              generalize pD p = PP at *
              simp [b1_is_curve, pr, e0, e1, a1', a2']
          · have a1' : p.1 < 1 := by omega
            refine .inr ⟨by rw [decide_eq_false a1]; rfl, E_is_curve (some (.val T)) (some (.val (pD p))), ?_⟩
            generalize pD p = PP at *
            simp [b1_is_curve, pr, e0, a1'])
      rw [List.map_id] at k1
      rw [cb]
      rcases k1 with ⟨q1, c1, lp1⟩ | ⟨q1, ρ2, lp1⟩
      · rw [q1, Bool.true_and]
        obtain ⟨C, rfl, eC, hC⟩ := steps_map q1
        rw [eC]
        have zt := zip_tail C
        have sl : slO (.val (.tup (C.map pD))) (some 1) none = some (.val (.tup ((C.map pD).drop 1))) := by
          show some (O.val (.tup (cutL (C.map pD) (some ((1 : Nat) : Int)) none))) = _
          rw [cut_from]
        have k2 := forL_find (o := O.val (.bl false)) (a := aTup (aCons (aN 2) (aCons (aN 1) (aNil)))) (b := b2_is_curve) (fun c : Option O × Option O => E_is_curve (some (.val (.tup (C.map pD)))) c.1 c.2) (fun q : (Int × Int) × (Int × Int) => D.tup [pD q.1, pD q.2]) upP (xs := C.zip (C.drop 1)) (c1, none) (by
          rintro ⟨p, q⟩ hq ⟨c2, c3⟩
          have e0 : ixO (.val (pD p)) (.val (.int 0)) = some (.val (.int p.1)) := rfl
          have e1 : ixO (.val (pD p)) (.val (.int 1)) = some (.val (.int p.2)) := rfl
          have f0 : ixO (.val (pD q)) (.val (.int 0)) = some (.val (.int q.1)) := rfl
          have f1 : ixO (.val (pD q)) (.val (.int 1)) = some (.val (.int q.2)) := rfl
          refine ⟨E_is_curve (some (.val (.tup (C.map pD)))) (some (.val (pD q))) (some (.val (pD p))), by generalize D.tup (C.map pD) = T at *; simp, ?_⟩
          show (upP (p, q) = true ∧ _) ∨ (upP (p, q) = false ∧ _)
          have ue : upP (p, q) = (decide (p.1 < q.1) && decide (q.2 < p.2)) := rfl
          rw [ue]
          by_cases a1 : p.1 < q.1
          · have a1' : ¬ q.1 ≤ p.1 := by omega
            by_cases a2 : q.2 < p.2
            · have a2' : ¬ p.2 ≤ q.2 := by omega
              refine .inl ⟨by rw [decide_eq_true a1, decide_eq_true a2]; rfl, (some (.val (pD q)), some (.val (pD p))), ?_⟩
              generalize D.tup (C.map pD) = T at *
              generalize pD p = PP at *
              generalize pD q = QQ at *
              simp [b2_is_curve, e0, e1, f0, f1, a1', a2']
            · have a2' : p.2 ≤ q.2 := by omega
              refine .inr ⟨by rw [decide_eq_true a1, decide_eq_false a2]; rfl, E_is_curve (some (.val (.tup (C.map pD)))) (some (.val (pD q))) (some (.val (pD p))), ?_⟩
              generalize D.tup (C.map pD) = T at *
              generalize pD p = PP at *
              generalize pD q = QQ at *
              simp [b2_is_curve, e0, e1, f0, f1, a1', a2']
          · have a1' : q.1 ≤ p.1 := by omega
            refine .inr ⟨by rw [decide_eq_false a1]; rfl, E_is_curve (some (.val (.tup (C.map pD)))) (some (.val (pD q))) (some (.val (pD p))), ?_⟩
            generalize D.tup (C.map pD) = T at *
            generalize pD p = PP at *
            generalize pD q = QQ at *
            simp [b2_is_curve, e0, f0, a1'])
        rw [ris_zip, ← zt] at k2
        dsimp only at k2
        have zx : ∀ ρ : FB.Env, zipX (.val (.tup (C.map pD))) (.val (.tup ((C.map pD).drop 1))) ρ = .ok (zipL (C.map pD) ((C.map pD).drop 1)) ρ := fun ρ => by simp
        generalize zipL (C.map pD) ((C.map pD).drop 1) = ZZ at *
        generalize (C.map pD).drop 1 = TT at *
        have it : D.items? (.tup (C.map pD)) = some (C.map pD) := rfl
        generalize C.map pD = CD at *
        rcases k2 with ⟨q2, ⟨c4, c5⟩, lp2⟩ | ⟨q2, ρ3, lp2⟩
        · rw [q2]
          dsimp only at lp2
          simp [b_is_curve, i1, ln, l1, l5, it, lp1, sl, zx, lp2]
          first | rfl | exact ⟨rfl, rfl⟩
        · rw [q2]
          simp [b_is_curve, i1, ln, l1, l5, it, lp1, sl, zx, lp2]
          first | rfl | exact ⟨rfl, rfl⟩
      · rw [q1, Bool.false_and]
        have it : D.items? (.tup ds) = some ds := rfl
        generalize D.tup ds = T at *
        simp [b_is_curve, i1, ln, l1, l5, it, lp1]
        first | rfl | exact ⟨rfl, rfl⟩
    · have cb : curveB (.tup ds) = false := by
        show ((decide (1 ≤ ds.length) && decide (ds.length ≤ 5)) && _) = _
        by_cases a : 1 ≤ ds.length
        · have : ¬ ds.length ≤ 5 := fun z => h5 ⟨a, z⟩
          rw [decide_eq_true a, decide_eq_false this]; rfl
        · rw [decide_eq_false a]; rfl
      rw [cb]
      by_cases l1 : (1 : Int) ≤ (ds.length : Int)
      · have l5 : ¬ (ds.length : Int) ≤ 5 := by omega
        generalize D.tup ds = T at *
        simp [b_is_curve, i1, ln, l1, l5]
        first | rfl | exact ⟨rfl, rfl⟩
      · generalize D.tup ds = T at *
        simp [b_is_curve, i1, ln, l1]
        first | rfl | exact ⟨rfl, rfl⟩
  | fn x => cases h
  | ins c ns ds => cases h
  | scr ns =>
    have e1 : isiO "tuple" (.val (.scr ns)) = some (.val (.bl false)) := rfl
    simp [b_is_curve, e1]
    first | rfl | exact ⟨rfl, rfl⟩
  | _ =>
    simp [b_is_curve]
    first | rfl | exact ⟨rfl, rfl⟩
theorem ris_pw : ∀ {C : List (Int × Int)}, risC C = true → C.Pairwise (fun p q => p.1 < q.1 ∧ q.2 < p.2)
  | [], _ => List.Pairwise.nil
  | [p], _ => List.pairwise_singleton _ _
  | p :: q :: C, h => by
    have h : ((decide (p.1 < q.1) && decide (q.2 < p.2)) && risC (q :: C)) = true := h
    rw [Bool.and_eq_true, Bool.and_eq_true, decide_eq_true_eq, decide_eq_true_eq] at h
    have ih := ris_pw h.2
    rw [List.pairwise_cons]
    refine ⟨fun z hz => ?_, ih⟩
    rcases List.mem_cons.mp hz with rfl | hz
    · exact h.1
    · have := (List.pairwise_cons.mp ih).1 z hz
      exact ⟨by have := h.1.1; omega, by have := h.1.2; omega⟩
end Lw

namespace Lw
open PySem PySem.Spec L2 FB Wk
open PyProof.Rows hiding St
/-! what the program takes for names, guards, loads (of right ones) -/
theorem ch_len {gs : List Gd} {ds : List Nat} (h : GsOk gs ds) : ∀ (i : Nat) (g : Gd), gs[i]? = some g → ∃ L, Ch gs (some g.nm) L ∧ ds[i]? = some L.length := by
  intro i
  induction i using Nat.strongRecOn with
  | ind i ih =>
    intro g hg
    have hm := List.mem_of_getElem? hg
    rcases h.under i g hg with ⟨hu, hd⟩ | ⟨j, u, d, hj, hu, hn, hdj, _, hd⟩
    · refine ⟨[g.nm], .cons hm ?_, hd⟩
      rw [hu]; exact .nil
    · obtain ⟨L, hL, hl⟩ := ih j hj u hu
      rw [hdj] at hl
      cases hl
      refine ⟨g.nm :: L, .cons hm ?_, by rw [hd]; rfl⟩
      rw [hn]; exact hL
theorem GsOk.take {gs : List Gd} {ds : List Nat} (h : GsOk gs ds) (n : Nat) : GsOk (gs.take n) (ds.take n) := by
  refine ⟨by simp [h.len], h.nd.sublist ((List.take_sublist _ _).map _), fun g hg => h.names g (List.mem_of_mem_take hg), fun g hg => h.rest g (List.mem_of_mem_take hg), fun i g hg => ?_⟩
  rw [List.getElem?_take] at hg
  split at hg
  · rename_i hi
    have td : ∀ k, k < n → (ds.take n)[k]? = ds[k]? := fun k hk => by rw [List.getElem?_take, if_pos hk]
    have tg : ∀ k, k < n → (gs.take n)[k]? = gs[k]? := fun k hk => by rw [List.getElem?_take, if_pos hk]
    rcases h.under i g hg with ⟨hu, hd⟩ | ⟨j, u, d, hj, hu, hn, hdj, h8, hd⟩
    · exact .inl ⟨hu, by rw [td i hi]; exact hd⟩
    · exact .inr ⟨j, u, d, hj, by rw [tg j (by omega)]; exact hu, hn, by rw [td j (by omega)]; exact hdj, h8, by rw [td i hi]; exact hd⟩
  · cases hg
theorem whole (n : Int) : F_is_whole [.val (.int n)] = some (.val (.bl true), [none]) := by
  unfold F_is_whole
  rw [runF_eq]
  simp [b_is_whole]
  rfl
theorem inD_names (l : List Nat) (L : List (List Nat)) (o : O) (ho : o.toD = .lst (L.map sD)) : inD (sD l) o.toD = some (decide (l ∈ L)) := by
  rw [ho, map_sD]
  show inD (.str (SL l)) (.lst ((L.map SL).map D.str)) = _
  rw [inD_strs]
  congr 1
  rw [List.any_map]
  clear ho
  induction L with
  | nil => simp
  | cons m L ih =>
    rw [List.any_cons, ih]
    show (decide (SL m = SL l) || _) = _
    rw [SL_eq]
    by_cases h : m = l
    · subst h; simp
    · simp [h, show ¬ l = m from fun z => h z.symm]
theorem in_names12 (l : List Nat) (L : List (List Nat)) (o : O) (ho : o.toD = .lst (L.map sD)) : inO (.val (sD l)) o = some (.val (.bl (decide (l ∈ L)))) ∧ ninO (.val (sD l)) o = some (.val (.bl (!decide (l ∈ L)))) := by
  have e := inD_names l L o ho
  constructor
  · show (inD (sD l) o.toD).map _ = _
    rw [e]; rfl
  · show (inD (sD l) o.toD).map _ = _
    rw [e]; rfl

end Lw

namespace Lw
open PySem PySem.Spec L2 FB Wk
open PyProof.Rows hiding St
/-! things of any kind: how long repr's text is -/
mutual
def D.wz : D → Nat
  | .non => 4
  | .bl _ => 5
  | .int _ => 64
  | .str s => 10 * s.length + 8
  | .tup ds => D.wzs ds + 3
  | .lst ds => D.wzs ds + 3
  | .dct _ _ => 2
  | _ => 0
def D.wzs : List D → Nat
  | [] => 0
  | d :: ds => D.wz d + 2 + D.wzs ds
end
theorem wzs_mem {d : D} : ∀ {ds : List D}, d ∈ ds → D.wz d + 2 ≤ D.wzs ds
  | e :: ds, h => by
    have q : D.wzs (e :: ds) = D.wz e + 2 + D.wzs ds := rfl
    rcases List.mem_cons.mp h with rfl | h
    · omega
    · have := wzs_mem h
      omega
theorem wzs_len : ∀ (ds : List D), 2 * ds.length ≤ D.wzs ds
  | [] => Nat.le_refl 0
  | e :: ds => by
    have q : D.wzs (e :: ds) = D.wz e + 2 + D.wzs ds := rfl
    have := wzs_len ds
    rw [List.length_cons]; omega
theorem wzs_app : ∀ (xs ys : List D), D.wzs (xs ++ ys) = D.wzs xs + D.wzs ys
  | [], ys => by show D.wzs ys = 0 + D.wzs ys; omega
  | x :: xs, ys => by
    have q : D.wzs (x :: xs) = D.wz x + 2 + D.wzs xs := rfl
    have r : D.wzs (x :: xs ++ ys) = D.wz x + 2 + D.wzs (xs ++ ys) := rfl
    rw [r, q, wzs_app xs ys]; omega
/-- leaves are small, at most so deep -/
def D.fit : Nat → D → Bool
  | _, .non => true
  | _, .bl _ => true
  | _, .int i => decide (i.natAbs < 100000000000000000000000000000000000000000000000000000000000000)
  | _, .str s => s.cps.toList.all fun c => decide (c < 16 ^ 8)
  | _, .dct ks ds => ks.isEmpty && ds.isEmpty
  | 0, .tup _ => false
  | 0, .lst _ => false
  | n + 1, .tup ds => ds.all (D.fit n)
  | n + 1, .lst ds => ds.all (D.fit n)
  | _, .ins _ _ _ => false
  | _, .scr _ => false
  | _, .fn _ => false
theorem fit_str {n : Nat} {s : Str} (h : D.fit n (.str s) = true) : (s.cps.toList.all fun c => decide (c < 16 ^ 8)) = true := by cases n <;> exact h
theorem fit_int {n : Nat} {i : Int} (h : D.fit n (.int i) = true) : i.natAbs < 100000000000000000000000000000000000000000000000000000000000000 := by
  cases n <;> exact decide_eq_true_eq.mp h
theorem fit_dct {n : Nat} {ks : List Key} {ds : List D} (h : D.fit n (.dct ks ds) = true) : ks = [] ∧ ds = [] := by
  have h : (ks.isEmpty && ds.isEmpty) = true := by cases n <;> exact h
  rw [Bool.and_eq_true, List.isEmpty_iff, List.isEmpty_iff] at h
  exact h
theorem fit_up : ∀ {n : Nat} {d : D}, D.fit n d = true → D.fit (n + 1) d = true := by
  intro n
  induction n with
  | zero => intro d h; cases d <;> first | exact h | cases h
  | succ n ih =>
    intro d h
    cases d with
    | tup ds =>
      have h : ds.all (D.fit n) = true := h
      show ds.all (D.fit (n + 1)) = true
      rw [List.all_eq_true] at h ⊢
      exact fun d hd => ih (h d hd)
    | lst ds =>
      have h : ds.all (D.fit n) = true := h
      show ds.all (D.fit (n + 1)) = true
      rw [List.all_eq_true] at h ⊢
      exact fun d hd => ih (h d hd)
    | _ => first | exact h | cases h
theorem fit_le {n m : Nat} {d : D} (h : D.fit n d = true) (q : n ≤ m) : D.fit m d = true := by
  induction q with
  | refl => exact h
  | step _ ih => exact fit_up ih
theorem str_shown_le {n : Nat} {s : Str} (h : D.fit n (.str s) = true) : (reprText s).length ≤ 10 * s.length + 8 := by
  have h := fit_str h
  have e := PyData.shown_le 8 (by decide) (.str s) h
  rw [PyData.shown_str] at e
  exact e
theorem int_shown_le {n : Nat} {i : Int} (h : D.fit n (.int i) = true) : (PyData.shown (.int i)).length ≤ 64 := by
  have h := fit_int h
  have e := int_text_length_le10 (a := i) (k := 62) (by decide) (Nat.lt_of_lt_of_eq h (by decide))
  show (Str.ofString (toString i)).length ≤ 64
  rw [PySem.ofString_length]; exact Nat.le_trans e (by decide)
theorem int_log {i : Int} {n : Nat} (h : D.fit n (.int i) = true) : i.natAbs.log2 < 1920 := by
  have h := fit_int h
  rcases Nat.eq_zero_or_pos i.natAbs with e | e
  · rw [e]; decide
  · rw [Nat.log2_lt (by omega)]
    exact Nat.lt_trans h (by decide)
theorem shownAll_sum (f : D → Nat) : ∀ (ds : List D), (∀ d ∈ ds, (D.pq d).shown.length ≤ D.wz d) → ((PyData.shownAll (D.pqs ds)).map (·.length)).sum + 2 * (PyData.shownAll (D.pqs ds)).length ≤ D.wzs ds
  | [], _ => by show ((PyData.shownAll []).map _).sum + _ ≤ 0; simp [PyData.shownAll, D.pqs]
  | d :: ds, h => by
    have ih := shownAll_sum f ds fun z hz => h z (List.mem_cons_of_mem _ hz)
    have hd := h d (List.mem_cons_self ..)
    have q : D.wzs (d :: ds) = D.wz d + 2 + D.wzs ds := rfl
    have e : D.pqs (d :: ds) = D.pq d :: D.pqs ds := rfl
    rw [e, PyData.shownAll_cons, List.map_cons, List.sum_cons, List.length_cons, q]
    omega
theorem shown_wz : ∀ (n : Nat) (d : D), D.fit n d = true → (D.pq d).shown.length ≤ D.wz d := by
  have non : (D.pq .non).shown.length ≤ D.wz .non := by show (PyData.shown .none).length ≤ 4; decide
  have bl : ∀ b, (D.pq (.bl b)).shown.length ≤ D.wz (.bl b) := fun b => by cases b <;> (show (PyData.shown (.bool _)).length ≤ 5; decide)
  have dct : ∀ n ks ds, D.fit n (.dct ks ds) = true → (D.pq (.dct ks ds)).shown.length ≤ D.wz (.dct ks ds) := fun n ks ds h => by
    obtain ⟨rfl, rfl⟩ := fit_dct h
    show (PyData.dict []).shown.length ≤ 2
    rw [dict0_shown]; decide
  have str : ∀ n s, D.fit n (.str s) = true → (D.pq (.str s)).shown.length ≤ D.wz (.str s) := fun n s h => by
    show (PyData.shown (.str s)).length ≤ 10 * s.length + 8
    rw [PyData.shown_str]; exact str_shown_le h
  intro n
  induction n with
  | zero =>
    intro d h
    cases d with
    | non => exact non
    | bl b => exact bl b
    | int i => exact int_shown_le h
    | str s => exact str _ s h
    | dct ks ds => exact dct _ ks ds h
    | _ => cases h
  | succ n ih =>
    intro d h
    cases d with
    | non => exact non
    | bl b => exact bl b
    | int i => exact int_shown_le h
    | str s => exact str _ s h
    | dct ks ds => exact dct _ ks ds h
    | tup ds =>
      have h : ds.all (D.fit n) = true := h
      have sm := shownAll_sum (fun _ => 0) ds fun d hd => ih d ((List.all_eq_true.mp h) d hd)
      have tl := tupleText_len_le (PyData.shownAll (D.pqs ds))
      have e : (D.pq (.tup ds)).shown = tupleText (PyData.shownAll (D.pqs ds)) := by show (PyData.tuple (D.pqs ds)).shown = _; simp only [PyData.shown]
      rw [e]
      show _ ≤ D.wzs ds + 3
      omega
    | lst ds =>
      have h : ds.all (D.fit n) = true := h
      have sm := shownAll_sum (fun _ => 0) ds fun d hd => ih d ((List.all_eq_true.mp h) d hd)
      have tl := listText_len_le (PyData.shownAll (D.pqs ds))
      have e : (D.pq (.lst ds)).shown = listText (PyData.shownAll (D.pqs ds)) := by show (PyData.list (D.pqs ds)).shown = _; simp only [PyData.shown]
      rw [e]
      show _ ≤ D.wzs ds + 3
      omega
    | _ => cases h
theorem fit_okA : ∀ (n : Nat) (d : D), D.fit n d = true → D.wz d ≤ 1000000 → d.okA n = true := by
  have sz : sizeLine = 16777216 := by decide
  have int : ∀ n i, D.fit n (.int i) = true → D.okA n (.int i) = true := fun n i h => by
    have := int_log h
    cases n <;> exact decide_eq_true this
  have str : ∀ n s, D.fit n (.str s) = true → D.wz (.str s) ≤ 1000000 → D.okA n (.str s) = true := fun n s h w => by
    have e := str_shown_le h
    have w : 10 * s.length + 8 ≤ 1000000 := w
    have : (reprText s).length ≤ sizeLine := by rw [sz]; omega
    cases n <;> exact decide_eq_true this
  have dct : ∀ n ks ds, D.fit n (.dct ks ds) = true → D.okA n (.dct ks ds) = true := fun n ks ds h => by
    obtain ⟨rfl, rfl⟩ := fit_dct h
    cases n <;> rfl
  intro n
  induction n with
  | zero =>
    intro d h w
    cases d with
    | non => rfl
    | bl b => rfl
    | int i => exact int _ i h
    | str s => exact str _ s h w
    | dct ks ds => exact dct _ ks ds h
    | _ => cases h
  | succ n ih =>
    intro d h w
    cases d with
    | non => rfl
    | bl b => rfl
    | int i => exact int _ i h
    | str s => exact str _ s h w
    | dct ks ds => exact dct _ ks ds h
    | tup ds =>
      have h : ds.all (D.fit n) = true := h
      have w : D.wzs ds + 3 ≤ 1000000 := w
      show ds.all (D.okA n) = true
      rw [List.all_eq_true] at h ⊢
      exact fun d hd => ih d (h d hd) (by have := wzs_mem hd; omega)
    | lst ds =>
      have h : ds.all (D.fit n) = true := h
      have w : D.wzs ds + 3 ≤ 1000000 := w
      show ds.all (D.okA n) = true
      rw [List.all_eq_true] at h ⊢
      exact fun d hd => ih d (h d hd) (by have := wzs_mem hd; omega)
    | _ => cases h
/-- a thing of the law -/
structure Th (n : Nat) (d : D) : Prop where
  fit : D.fit n d = true
  sz : D.wz d ≤ 1000000
theorem okA_up : ∀ {n : Nat} {d : D}, D.okA n d = true → D.okA (n + 1) d = true := by
  intro n
  induction n with
  | zero => intro d h; cases d <;> first | exact h | cases h
  | succ n ih =>
    intro d h
    cases d with
    | tup ds =>
      have h : ds.all (D.okA n) = true := h
      show ds.all (D.okA (n + 1)) = true
      rw [List.all_eq_true] at h ⊢
      exact fun d hd => ih (h d hd)
    | lst ds =>
      have h : ds.all (D.okA n) = true := h
      show ds.all (D.okA (n + 1)) = true
      rw [List.all_eq_true] at h ⊢
      exact fun d hd => ih (h d hd)
    | _ => first | exact h | cases h
theorem okA_le {n m : Nat} {d : D} (h : D.okA n d = true) (q : n ≤ m) : D.okA m d = true := by
  induction q with
  | refl => exact h
  | step _ ih => exact okA_up ih
theorem Th.rep {n : Nat} {d : D} (h : Th n d) (hn : n ≤ 150) : repA d = true := by
  have sz : sizeLine = 16777216 := by decide
  have e := shown_wz n d h.fit
  have w := h.sz
  unfold repA
  rw [okA_le (fit_okA n d h.fit w) hn, decide_eq_true (show _ ≤ sizeLine by rw [sz]; omega)]; rfl
theorem Th.rep_eq {n : Nat} {a : O} {d : D} (ha : a.toD = d) (h : Th n d) (hn : n ≤ 150) : reprA a = some (.val (.str d.pq.shown)) := e_reprA ha (h.rep hn)
theorem Th.more {n m : Nat} {d : D} (h : Th n d) (q : n ≤ m) : Th m d := ⟨fit_le h.fit q, h.sz⟩
theorem Th.tup {n : Nat} {ds : List D} (h : Th n (.tup ds)) : ∀ d ∈ ds, Th n d := by
  have w : D.wzs ds + 3 ≤ 1000000 := h.sz
  have f := h.fit
  cases n with
  | zero => cases f
  | succ n =>
    have f : ds.all (D.fit n) = true := f
    exact fun d hd => ⟨fit_up ((List.all_eq_true.mp f) d hd), by have := wzs_mem hd; omega⟩
theorem Th.len {n : Nat} {ds : List D} (h : Th n (.tup ds)) : ds.length ≤ 1000000 := by
  have w : D.wzs ds + 3 ≤ 1000000 := h.sz
  have := wzs_len ds
  omega
theorem Th.slen {n : Nat} {s : Str} (h : Th n (.str s)) : s.length ≤ 1000000 := by
  have w : 10 * s.length + 8 ≤ 1000000 := h.sz
  omega
theorem Th.ty {n : Nat} {d : D} (h : Th n d) : tyB d = true := by
  have f := h.fit
  cases d with
  | ins c ns ds => cases n <;> cases f
  | fn x => cases n <;> cases f
  | _ => rfl
theorem Th.tyP {n : Nat} {d : D} (h : Th n d) : tyP d = true := by
  cases d with
  | tup ds =>
    show ds.all tyB = true
    rw [List.all_eq_true]
    exact fun d hd => (h.tup d hd).ty
  | _ => exact h.ty
theorem Th.tyPP {n : Nat} {d : D} (h : Th n d) : tyPP d = true := by
  cases d with
  | tup ds =>
    show ds.all Lw.tyP = true
    rw [List.all_eq_true]
    exact fun d hd => (h.tup d hd).tyP
  | _ => exact h.ty

end Lw

namespace Lw
open PySem PySem.Spec L2 FB Wk
open PyProof.Rows hiding St
/-! names, numbers, pairs, curves: what the law takes any thing for -/
def sgB (c : Nat) : Bool := decide (97 ≤ c) && decide (c ≤ 122)
def one1 (c : Nat) : D := .str ⟨#[c]⟩
def nameB : D → Bool
  | .str s => (decide (1 ≤ s.length) && decide (s.length ≤ 8)) && s.cps.toList.all sgB
  | _ => false
theorem mem_letters (c : Nat) : decide (c ∈ (("abcdefghijklmnopqrstuvwxyz" : Str)).cps.toList) = sgB c := by
  rw [letters_tl]
  unfold sgB
  rw [← Bool.decide_and]
  apply decide_eq_decide.mpr
  rw [List.mem_map]
  constructor
  · rintro ⟨k, hk, rfl⟩
    have := List.mem_range.mp hk
    omega
  · rintro ⟨h1, h2⟩
    exact ⟨c - 97, List.mem_range.mpr (by omega), by omega⟩
theorem in_letters (c : Nat) : inO (.val (one1 c)) (.val (.str "abcdefghijklmnopqrstuvwxyz")) = some (.val (.bl (sgB c))) := by
  rw [← mem_letters]; rfl
theorem lt1 (a b : Nat) : decide ([a] < [b]) = decide (a < b) := by
  apply decide_eq_decide.mpr
  constructor
  · intro h
    cases h with
    | rel h => exact h
    | cons h => cases h
  · exact fun h => List.Lex.rel h
theorem le_a (c : Nat) : leSO (.val (.str "a")) (.val (one1 c)) = some (.val (.bl (decide (97 ≤ c)))) := by
  show some (O.val (.bl (!decide ([c] < [97])))) = _
  rw [lt1]
  by_cases h : c < 97
  · rw [decide_eq_true h, decide_eq_false (by omega)]; rfl
  · rw [decide_eq_false h, decide_eq_true (by omega)]; rfl
theorem le_z (c : Nat) : leSO (.val (one1 c)) (.val (.str "z")) = some (.val (.bl (decide (c ≤ 122)))) := by
  show some (O.val (.bl (!decide ([122] < [c])))) = _
  rw [lt1]
  by_cases h : 122 < c
  · rw [decide_eq_true h, decide_eq_false (by omega)]; rfl
  · rw [decide_eq_false h, decide_eq_true (by omega)]; rfl
theorem str_items (s : Str) : D.items? (.str s) = some (s.cps.toList.map one1) := rfl
theorem str_len {s : Str} (h : s.length ≤ 1000000) : lenO (.val (.str s)) = some (.val (.int (s.length : Int))) := by
  show (if s.length ≤ 1000000 then some (O.val (.int (s.length : Int))) else none) = _
  rw [if_pos h]
theorem cps_len (s : Str) : s.cps.toList.length = s.length := by rw [Array.length_toList]; rfl
theorem is_name (d : D) (h : tyB d = true) (hl : ∀ s, d = .str s → s.length ≤ 1000000) : F_is_name [.val d] = some (.val (.bl (nameB d)), [none]) := by
  unfold F_is_name
  rw [runF_eq]
  cases d with
  | str s =>
    have hl := hl s rfl
    have ln := str_len hl
    have e1 : isiO "str" (.val (.str s)) = some (.val (.bl true)) := isi_str_str _
    by_cases h8 : 1 ≤ s.length ∧ s.length ≤ 8
    · have l1 : (1 : Int) ≤ (s.length : Int) := by omega
      have l8 : (s.length : Int) ≤ 8 := by omega
      have nb : nameB (.str s) = s.cps.toList.all sgB := by
        show ((decide (1 ≤ s.length) && decide (s.length ≤ 8)) && _) = _
        rw [decide_eq_true h8.1, decide_eq_true h8.2]; rfl
      have it := str_items s
      have q : q1_is_name (E_is_name (some (.val (.str s)))) = .ok (.lst (s.cps.toList.map fun c => O.val (.bl (sgB c)))) (E_is_name (some (.val (.str s)))) := by
        refine comp_map one1 (fun c => O.val (.bl (sgB c))) (by simp [it]) (by rw [cps_len]; exact hl) (by decide) (fun c _ => ?_)
        have e := in_letters c
        generalize one1 c = C at *
        simp [e]
      have am := all_map sgB s.cps.toList
      rw [nb]
      generalize (O.lst (s.cps.toList.map fun c => O.val (.bl (sgB c)))) = LL at *
      generalize D.str s = T at *
      simp [b_is_name, e1, ln, l1, l8, q, am]
      first | rfl | exact ⟨rfl, rfl⟩
    · have nb : nameB (.str s) = false := by
        show ((decide (1 ≤ s.length) && decide (s.length ≤ 8)) && _) = _
        by_cases a : 1 ≤ s.length
        · rw [decide_eq_true a, decide_eq_false fun z => h8 ⟨a, z⟩]; rfl
        · rw [decide_eq_false a]; rfl
      rw [nb]
      generalize D.str s = T at *
      by_cases l1 : (1 : Int) ≤ (s.length : Int)
      · have l8 : ¬ (s.length : Int) ≤ 8 := by omega
        simp [b_is_name, e1, ln, l1, l8]
        first | rfl | exact ⟨rfl, rfl⟩
      · simp [b_is_name, e1, ln, l1]
        first | rfl | exact ⟨rfl, rfl⟩
  | fn x => cases h
  | ins c ns ds => cases h
  | scr ns =>
    have e1 : isiO "str" (.val (.scr ns)) = some (.val (.bl false)) := rfl
    simp [b_is_name, e1]
    first | rfl | exact ⟨rfl, rfl⟩
  | _ =>
    simp [b_is_name]
    first | rfl | exact ⟨rfl, rfl⟩
theorem law_name (d : D) (h : tyB d = true) (hl : ∀ s, d = .str s → s.length ≤ 1000000) : F__law_is_name [.val d] = some (.val (.bl (nameB d)), [none]) := by
  unfold F__law_is_name
  rw [runF_eq]
  cases d with
  | str s =>
    have hl := hl s rfl
    have ln := str_len hl
    have e1 : isiO "str" (.val (.str s)) = some (.val (.bl true)) := isi_str_str _
    by_cases h8 : 1 ≤ s.length ∧ s.length ≤ 8
    · have l1 : (1 : Int) ≤ (s.length : Int) := by omega
      have l8 : (s.length : Int) ≤ 8 := by omega
      have nb : nameB (.str s) = s.cps.toList.all sgB := by
        show ((decide (1 ≤ s.length) && decide (s.length ≤ 8)) && _) = _
        rw [decide_eq_true h8.1, decide_eq_true h8.2]; rfl
      have it := str_items s
      have q : q1__law_is_name (E__law_is_name (some (.val (.str s)))) = .ok (.lst (s.cps.toList.map fun c => O.val (.bl (sgB c)))) (E__law_is_name (some (.val (.str s)))) := by
        refine comp_map one1 (fun c => O.val (.bl (sgB c))) (by simp [it]) (by rw [cps_len]; exact hl) (by decide) (fun c _ => ?_)
        have ea := le_a c
        have ez := le_z c
        have sg : sgB c = (decide (97 ≤ c) && decide (c ≤ 122)) := rfl
        rw [sg]
        generalize one1 c = C at *
        by_cases a1 : 97 ≤ c
        · simp [ea, ez, a1]
        · simp [ea, a1]
      have am := all_map sgB s.cps.toList
      rw [nb]
      generalize (O.lst (s.cps.toList.map fun c => O.val (.bl (sgB c)))) = LL at *
      generalize D.str s = T at *
      simp [b__law_is_name, e1, ln, l1, l8, q, am]
      first | rfl | exact ⟨rfl, rfl⟩
    · have nb : nameB (.str s) = false := by
        show ((decide (1 ≤ s.length) && decide (s.length ≤ 8)) && _) = _
        by_cases a : 1 ≤ s.length
        · rw [decide_eq_true a, decide_eq_false fun z => h8 ⟨a, z⟩]; rfl
        · rw [decide_eq_false a]; rfl
      rw [nb]
      generalize D.str s = T at *
      by_cases l1 : (1 : Int) ≤ (s.length : Int)
      · have l8 : ¬ (s.length : Int) ≤ 8 := by omega
        simp [b__law_is_name, e1, ln, l1, l8]
        first | rfl | exact ⟨rfl, rfl⟩
      · simp [b__law_is_name, e1, ln, l1]
        first | rfl | exact ⟨rfl, rfl⟩
  | fn x => cases h
  | ins c ns ds => cases h
  | scr ns =>
    have e1 : isiO "str" (.val (.scr ns)) = some (.val (.bl false)) := rfl
    simp [b__law_is_name, e1]
    first | rfl | exact ⟨rfl, rfl⟩
  | _ =>
    simp [b__law_is_name]
    first | rfl | exact ⟨rfl, rfl⟩
def unS (s : Str) : List Nat := s.cps.toList.map (· - 97)
theorem nameB_sD {d : D} (h : nameB d = true) : ∃ s, d = .str s ∧ NameOk (unS s) ∧ d = sD (unS s) := by
  cases d with
  | str s =>
    have h : ((decide (1 ≤ s.length) && decide (s.length ≤ 8)) && s.cps.toList.all sgB) = true := h
    rw [Bool.and_eq_true, Bool.and_eq_true, decide_eq_true_eq, decide_eq_true_eq, List.all_eq_true] at h
    obtain ⟨⟨h1, h8⟩, ha⟩ := h
    have hc : ∀ c ∈ s.cps.toList, 97 ≤ c ∧ c ≤ 122 := fun c hc => by
      have := ha c hc
      unfold sgB at this
      rw [Bool.and_eq_true, decide_eq_true_eq, decide_eq_true_eq] at this
      exact this
    have len : (unS s).length = s.length := by unfold unS; rw [List.length_map, cps_len]
    refine ⟨s, rfl, ⟨by rw [len]; exact h1, by rw [len]; exact h8, fun c hm => ?_⟩, ?_⟩
    · obtain ⟨x, hx, rfl⟩ := List.mem_map.mp hm
      have := hc x hx
      omega
    · show D.str s = D.str (SL (unS s))
      congr 1
      have e : (SL (unS s)).cps.toList = s.cps.toList := by
        rw [FB.SL_tl]
        unfold unS
        rw [List.map_map]
        conv => rhs; rw [← List.map_id s.cps.toList]
        apply List.map_congr_left
        intro c hm
        have := hc c hm
        show 97 + (c - 97) = c
        omega
      obtain ⟨a⟩ := s
      have e2 : (SL (unS ⟨a⟩)).cps = a := Array.ext' e
      show (⟨a⟩ : Str) = ⟨(SL (unS ⟨a⟩)).cps⟩
      rw [e2]
  | _ => cases h
/-! numbers and pairs by the law -/
def numLB (low : Int) : D → Bool
  | .int i => decide (low ≤ i) && decide (i < 1000000000000000000000000000000000000000000000000000000000000)
  | _ => false
theorem numL0 (d : D) : numLB 0 d = numB d := by cases d <;> rfl
theorem law_num (d : D) (low : Int) (h : tyB d = true) : F__law_is_number [.val d, .val (.int low)] = some (.val (.bl (numLB low d)), [none, none]) := by
  unfold F__law_is_number
  rw [runF_eq]
  have l1 : Nat.log2 10 < 9000 := by decide
  cases d with
  | int i =>
    show _ = some (O.val (.bl (decide (low ≤ i) && decide (i < 1000000000000000000000000000000000000000000000000000000000000))), _)
    by_cases h0 : low ≤ i
    · simp [b__law_is_number, h0, e_pow]
      first | rfl | exact ⟨rfl, rfl⟩
    · simp [b__law_is_number, h0]
      first | rfl | exact ⟨rfl, rfl⟩
  | fn x => cases h
  | ins c ns ds => cases h
  | scr ns =>
    have e1 : isiO "int" (.val (.scr ns)) = some (.val (.bl false)) := rfl
    simp [b__law_is_number, e1]
    first | rfl | exact ⟨rfl, rfl⟩
  | _ =>
    simp [b__law_is_number]
    first | rfl | exact ⟨rfl, rfl⟩
def pairLB (low : Int) : D → Bool
  | .tup [a, b] => numLB 1 a && numLB low b
  | _ => false
def pairsB (m : Nat) (low : Int) : D → Bool
  | .tup ds => decide (ds.length ≤ m) && ds.all (pairLB low)
  | _ => false

end Lw

namespace Lw
open PySem PySem.Spec L2 FB Wk
open PyProof.Rows hiding St
theorem law_pairs (d : D) (m : Nat) (low : Int) (h : tyPP d = true) (hl : ∀ ds, d = .tup ds → ds.length ≤ 1000000) : F__law_are_pairs [.val d, .val (.int m), .val (.int low)] = some (.val (.bl (pairsB m low d)), [none, none, none]) := by
  unfold F__law_are_pairs
  rw [runF_eq]
  cases d with
  | tup ds =>
    have i1 : isiO "tuple" (.val (.tup ds)) = some (.val (.bl true)) := rfl
    have h : ds.all tyP = true := h
    have hl := hl ds rfl
    have ln : lenO (.val (.tup ds)) = some (.val (.int (ds.length : Int))) := by simp [hl]
    have it : D.items? (.tup ds) = some ds := rfl
    by_cases hm : ds.length ≤ m
    · have gt : ¬ ((m : Int) < (ds.length : Int)) := by omega
      have pb : pairsB m low (.tup ds) = ds.all (pairLB low) := by
        show (decide (ds.length ≤ m) && _) = _
        rw [decide_eq_true hm]; rfl
      have k1 := forL_find (o := O.val (.bl false)) (a := aN 3) (b := b1__law_are_pairs) (fun c : Option O => E__law_are_pairs (some (.val (.tup ds))) (some (.val (.int m))) (some (.val (.int low))) c) (id : D → D) (pairLB low) (xs := ds) none (by
        intro d hd c
        have ht := List.all_eq_true.mp h d hd
        refine ⟨_, rfl, ?_⟩
        show _ ∨ _
        simp only [id]
        generalize D.tup ds = T at *
        have no : ∀ (e1 : isiO "tuple" (.val d) = some (.val (.bl false))), pairLB low d = false → (pairLB low d = true ∧ ∃ c', b1__law_are_pairs [some (.val T), some (.val (.int m)), some (.val (.int low)), some (.val d)] = .ok .nx (E__law_are_pairs (some (.val T)) (some (.val (.int m))) (some (.val (.int low))) c')) ∨ (pairLB low d = false ∧ ∃ ρ2, b1__law_are_pairs [some (.val T), some (.val (.int m)), some (.val (.int low)), some (.val d)] = .ok (.ret (.val (.bl false))) ρ2) := by
          intro e1 e2
          refine .inr ⟨e2, [some (.val T), some (.val (.int m)), some (.val (.int low)), some (.val d)], ?_⟩
          simp [b1__law_are_pairs, e1]
        cases d with
        | tup es =>
          clear no
          have j1 : isiO "tuple" (.val (.tup es)) = some (.val (.bl true)) := rfl
          have ht : es.all tyB = true := ht
          match es, ht with
          | [], _ =>
            refine .inr ⟨rfl, [some (.val T), some (.val (.int m)), some (.val (.int low)), some (.val (.tup []))], ?_⟩
            simp [b1__law_are_pairs, j1]
          | [a], _ =>
            refine .inr ⟨rfl, [some (.val T), some (.val (.int m)), some (.val (.int low)), some (.val (.tup [a]))], ?_⟩
            simp [b1__law_are_pairs, j1]
          | [a, b], ht =>
            simp only [List.all_cons, List.all_nil, Bool.and_true, Bool.and_eq_true] at ht
            have n1 := law_num a 1 ht.1
            have n2 := law_num b low ht.2
            have e0 : ixO (.val (.tup [a, b])) (.val (.int 0)) = some (.val a) := by simp
            have e1 : ixO (.val (.tup [a, b])) (.val (.int 1)) = some (.val b) := by simp
            have l2 : lenO (.val (.tup [a, b])) = some (.val (.int 2)) := by simp
            have pb : pairLB low (.tup [a, b]) = (numLB 1 a && numLB low b) := rfl
            rw [pb]
            generalize D.tup [a, b] = TT at *
            cases ha : numLB 1 a with
            | false =>
              rw [ha] at n1
              refine .inr ⟨rfl, [some (.val T), some (.val (.int m)), some (.val (.int low)), some (.val TT)], ?_⟩
              simp [b1__law_are_pairs, j1, l2, e0, n1]
            | true =>
              rw [ha] at n1
              cases hb : numLB low b with
              | false =>
                rw [hb] at n2
                refine .inr ⟨rfl, [some (.val T), some (.val (.int m)), some (.val (.int low)), some (.val TT)], ?_⟩
                simp [b1__law_are_pairs, j1, l2, e0, e1, n1, n2]
              | true =>
                rw [hb] at n2
                refine .inl ⟨rfl, some (.val TT), ?_⟩
                simp [b1__law_are_pairs, j1, l2, e0, e1, n1, n2]
          | a :: b :: c :: r, _ =>
            have ln : lenO (.val (.tup (a :: b :: c :: r))) = some (.val (.int (((a :: b :: c :: r).length : Nat) : Int))) := rfl
            have ne : ¬ ((((a :: b :: c :: r).length : Nat) : Int) = 2) := by simp; omega
            have pf : pairLB low (.tup (a :: b :: c :: r)) = false := rfl
            refine .inr ⟨pf, [some (.val T), some (.val (.int m)), some (.val (.int low)), some (.val (.tup (a :: b :: c :: r)))], ?_⟩
            generalize (((a :: b :: c :: r).length : Nat) : Int) = NN at *
            generalize D.tup (a :: b :: c :: r) = TT at *
            simp [b1__law_are_pairs, j1, ln, ne]
        | fn x => cases ht
        | ins c ns ds => cases ht
        | scr ns => exact no rfl rfl
        | _ => exact no rfl rfl)
      rw [List.map_id] at k1
      rw [pb]
      generalize D.tup ds = T at *
      rcases k1 with ⟨q1, c1, lp1⟩ | ⟨q1, ρ2, lp1⟩
      · rw [q1]
        simp [b__law_are_pairs, i1, ln, gt, it, lp1]
        first | rfl | exact ⟨rfl, rfl⟩
      · rw [q1]
        simp [b__law_are_pairs, i1, ln, gt, it, lp1]
        first | rfl | exact ⟨rfl, rfl⟩
    · have gt : ((m : Int) < (ds.length : Int)) := by omega
      have pb : pairsB m low (.tup ds) = false := by
        show (decide (ds.length ≤ m) && _) = _
        rw [decide_eq_false hm]; rfl
      rw [pb]
      generalize D.tup ds = T at *
      simp [b__law_are_pairs, i1, ln, gt]
      first | rfl | exact ⟨rfl, rfl⟩
  | fn x => cases h
  | ins c ns ds => cases h
  | scr ns =>
    have e1 : isiO "tuple" (.val (.scr ns)) = some (.val (.bl false)) := rfl
    simp [b__law_are_pairs, e1]
    first | rfl | exact ⟨rfl, rfl⟩
  | _ =>
    simp [b__law_are_pairs]
    first | rfl | exact ⟨rfl, rfl⟩
/-! a curve by the law -/
def upAt (C : List (Int × Int)) (k : Nat) : Bool := decide ((C.getD k (0, 0)).1 < (C.getD (k + 1) (0, 0)).1) && decide ((C.getD (k + 1) (0, 0)).2 < (C.getD k (0, 0)).2)
theorem ris_at : ∀ C : List (Int × Int), ((List.range (C.length - 1)).all fun k => upAt C k) = risC C
  | [] => rfl
  | [p] => rfl
  | p :: q :: C => by
    have ih := ris_at (q :: C)
    have e : (p :: q :: C).length - 1 = ((q :: C).length - 1) + 1 := by simp
    rw [e, List.range_succ_eq_map, List.all_cons, List.all_map]
    have a0 : upAt (p :: q :: C) 0 = (decide (p.1 < q.1) && decide (q.2 < p.2)) := rfl
    have a1 : ((fun k => upAt (p :: q :: C) k) ∘ Nat.succ) = fun k => upAt (q :: C) k := by
      funext k; rfl
    rw [a0, a1, ih]; rfl
theorem pairL1_step (d : D) : pairLB 1 d = stepB d := by
  unfold stepB
  cases d with
  | tup es =>
    match es with
    | [] => rfl
    | [a] => rfl
    | [a, b] =>
      show (numLB 1 a && numLB 1 b) = ((numB a && numB b) && _)
      cases a with
      | int i =>
        cases b with
        | int j =>
          show ((decide (1 ≤ i) && decide (i < _)) && (decide (1 ≤ j) && decide (j < _))) = (((decide (0 ≤ i) && decide (i < _)) && (decide (0 ≤ j) && decide (j < _))) && (decide (1 ≤ i) && decide (1 ≤ j)))
          by_cases i1 : 1 ≤ i
          · by_cases j1 : 1 ≤ j
            · rw [decide_eq_true i1, decide_eq_true j1, decide_eq_true (show 0 ≤ i by omega), decide_eq_true (show 0 ≤ j by omega)]
              simp
            · rw [decide_eq_false j1]; simp
          · rw [decide_eq_false i1]; simp
        | _ => show (_ && false) = _; simp [numB]
      | _ => show (false && _) = _; simp [numB]
    | a :: b :: c :: r => rfl
  | _ => rfl
theorem law_curve (d : D) (h : tyPP d = true) (hl : ∀ ds, d = .tup ds → ds.length ≤ 1000000) : F__law_is_curve [.val d] = some (.val (.bl (curveB d)), [none]) := by
  have pr := law_pairs d 5 1 h hl
  unfold F__law_is_curve
  rw [runF_eq]
  have pr : F__law_are_pairs [.val d, .val (.int 5), .val (.int 1)] = some (.val (.bl (pairsB 5 1 d)), [none, none, none]) := pr
  cases hp : pairsB 5 1 d with
  | false =>
    rw [hp] at pr
    have cb : curveB d = false := by
      cases d with
      | tup ds =>
        have hp : (decide (ds.length ≤ 5) && ds.all (pairLB 1)) = false := hp
        rw [show pairLB 1 = stepB from funext pairL1_step] at hp
        show ((decide (1 ≤ ds.length) && decide (ds.length ≤ 5)) && (ds.all stepB && _)) = false
        rw [Bool.and_assoc, ← Bool.and_assoc (decide (ds.length ≤ 5)), hp]; simp
      | _ => rfl
    rw [cb]
    simp [b__law_is_curve, pr]
    first | rfl | exact ⟨rfl, rfl⟩
  | true =>
    rw [hp] at pr
    cases d with
    | tup ds =>
      have hp : (decide (ds.length ≤ 5) && ds.all (pairLB 1)) = true := hp
      rw [show pairLB 1 = stepB from funext pairL1_step, Bool.and_eq_true, decide_eq_true_eq] at hp
      obtain ⟨h5, hs⟩ := hp
      obtain ⟨C, rfl, eC, hC⟩ := steps_map hs
      have ln : lenO (.val (.tup (C.map pD))) = some (.val (.int (C.length : Int))) := by
        show some (O.val (.int ((C.map pD).length : Int))) = _
        rw [List.length_map]
      rw [List.length_map] at h5
      have cb : curveB (.tup (C.map pD)) = (decide (1 ≤ C.length) && risC C) := by
        show ((decide (1 ≤ (C.map pD).length) && decide ((C.map pD).length ≤ 5)) && ((C.map pD).all stepB && risC ((C.map pD).map stpI))) = _
        rw [hs, eC, List.length_map, decide_eq_true h5]; simp
      rw [cb]
      by_cases h0 : C.length = 0
      · have z : ((C.length : Nat) : Int) = 0 := by omega
        rw [z] at ln
        rw [decide_eq_false (by omega)]
        generalize D.tup (C.map pD) = T at *
        simp [b__law_is_curve, pr, ln]
        first | rfl | exact ⟨rfl, rfl⟩
      · have z : ¬ ((C.length : Nat) : Int) = 0 := by omega
        rw [decide_eq_true (show 1 ≤ C.length by omega), Bool.true_and]
        have am := all_map (fun k => upAt C k) (List.range (C.length - 1))
        rw [ris_at] at am
        have ixk : ∀ k, k < C.length → ixO (.val (.tup (C.map pD))) (.val (.int (k : Int))) = some (.val (pD (C.getD k (0, 0)))) := fun k hk => by
          have : atI (C.map pD) (k : Int) = some (pD (C.getD k (0, 0))) := by
            rw [atN, List.getElem?_map, List.getElem?_eq_getElem hk]
            simp [List.getD_eq_getElem?_getD, List.getElem?_eq_getElem hk]
          show (atI (C.map pD) (k : Int)).map O.val = _
          rw [this]; rfl
        have q : q1__law_is_curve (E__law_is_curve (some (.val (.tup (C.map pD))))) = .ok (.lst ((List.range (C.length - 1)).map fun k => O.val (.bl (upAt C k)))) (E__law_is_curve (some (.val (.tup (C.map pD))))) := by
          refine comp_map (fun i : Nat => D.int (i : Int)) (fun k => O.val (.bl (upAt C k))) ?_ (by rw [List.length_range]; omega) (by decide) (fun k hk => ?_)
          · have sub : (C.length : Int) - 1 = ((C.length - 1 : Nat) : Int) := by omega
            have sn := small_nat (n := C.length - 1) (by omega)
            have rg : rangeL 0 (C.length - 1) = (List.range (C.length - 1)).map fun i : Nat => D.int (i : Int) := by
              unfold rangeL
              simp
            generalize D.tup (C.map pD) = T at *
            simp [ln, sub, rg, sn]
          · have hk := List.mem_range.mp hk
            have i0 := ixk k (by omega)
            have i1 := ixk (k + 1) (by omega)
            have c1 : ((k + 1 : Nat) : Int) = (k : Int) + 1 := by omega
            rw [c1] at i1
            have ue : upAt C k = (decide ((C.getD k (0, 0)).1 < (C.getD (k + 1) (0, 0)).1) && decide ((C.getD (k + 1) (0, 0)).2 < (C.getD k (0, 0)).2)) := rfl
            rw [ue]
            generalize C.getD k (0, 0) = p at *
            generalize C.getD (k + 1) (0, 0) = p' at *
            have e0 : ixO (.val (pD p)) (.val (.int 0)) = some (.val (.int p.1)) := rfl
            have e1 : ixO (.val (pD p)) (.val (.int 1)) = some (.val (.int p.2)) := rfl
            have f0 : ixO (.val (pD p')) (.val (.int 0)) = some (.val (.int p'.1)) := rfl
            have f1 : ixO (.val (pD p')) (.val (.int 1)) = some (.val (.int p'.2)) := rfl
            generalize D.tup (C.map pD) = T at *
            generalize pD p = PP at *
            generalize pD p' = QQ at *
            by_cases a1 : p.1 < p'.1
            · simp [i0, i1, e0, e1, f0, f1, a1]
            · simp [i0, i1, e0, f0, a1]
        generalize (O.lst ((List.range (C.length - 1)).map fun k => O.val (.bl (upAt C k)))) = LL at *
        generalize D.tup (C.map pD) = T at *
        have nC : ¬ C = [] := fun z => h0 (by rw [z]; rfl)
        simp [b__law_is_curve, pr, ln, nC, q, am]
        first | rfl | exact ⟨rfl, rfl⟩
    | _ => cases hp
/-! a course by the law -/
theorem pairL0_str (d : D) : pairLB 0 d = strB d := by
  unfold strB
  cases d with
  | tup es =>
    match es with
    | [] => rfl
    | [a] => rfl
    | [a, b] =>
      show (numLB 1 a && numLB 0 b) = ((numB a && numB b) && _)
      rw [numL0]
      cases a with
      | int i =>
        show ((decide (1 ≤ i) && decide (i < _)) && numB b) = (((decide (0 ≤ i) && decide (i < _)) && numB b) && decide (0 < i))
        by_cases i1 : 1 ≤ i
        · rw [decide_eq_true i1, decide_eq_true (show 0 ≤ i by omega), decide_eq_true (show 0 < i by omega)]; simp
        · rw [decide_eq_false i1, decide_eq_false (show ¬ 0 < i by omega)]; simp
      | _ => show (false && _) = _; simp [numB]
    | a :: b :: c :: r => simp [pairLB, pairB]
  | _ => rfl
theorem law_course (d : D) (h : tyPP d = true) (hl : ∀ ds, d = .tup ds → ds.length ≤ 1000000) : F__law_are_pairs [.val d, .val (.int 4), .val (.int 0)] = some (.val (.bl (courseB d)), [none, none, none]) := by
  have pr := law_pairs d 4 0 h hl
  have e : pairsB 4 0 d = courseB d := by
    cases d with
    | tup ds =>
      show (decide (ds.length ≤ 4) && ds.all (pairLB 0)) = _
      rw [show pairLB 0 = strB from funext pairL0_str]; rfl
    | _ => rfl
  rw [e] at pr
  exact pr

end Lw

namespace Lw
open PySem PySem.Spec L2 FB Wk
open PyProof.Rows hiding St
/-! guards and loads by themselves: of any thing -/
def undB (u : D) : Bool := match u with
  | .non => true
  | d => nameB d
def blB : D → Bool
  | .bl _ => true
  | _ => false
def guardB : D → Bool
  | .tup [a, u, c, x, y] => nameB a && (undB u && (curveB c && (numB x && numB y)))
  | _ => false
def loadB : D → Bool
  | .tup [a, u, c, x, y] => nameB a && (nameB u && (courseB c && (numB x && blB y)))
  | _ => false
theorem five {ds : List D} (h : ds.length = 5) : ∃ a u c x y, ds = [a, u, c, x, y] := by
  match ds, h with
  | [a, u, c, x, y], _ => exact ⟨a, u, c, x, y, rfl⟩
theorem not5 {ds : List D} (h : ¬ ds.length = 5) : guardB (.tup ds) = false ∧ loadB (.tup ds) = false := by
  match ds, h with
  | [], _ => exact ⟨rfl, rfl⟩
  | [a], _ => exact ⟨rfl, rfl⟩
  | [a, b], _ => exact ⟨rfl, rfl⟩
  | [a, b, c], _ => exact ⟨rfl, rfl⟩
  | [a, b, c, d], _ => exact ⟨rfl, rfl⟩
  | [a, b, c, d, e], h => exact absurd rfl h
  | a :: b :: c :: d :: e :: f :: r, _ => exact ⟨rfl, rfl⟩
theorem tup5 (a u c x y : D) : lenO (.val (.tup [a, u, c, x, y])) = some (.val (.int 5)) ∧ ixO (.val (.tup [a, u, c, x, y])) (.val (.int 0)) = some (.val a) ∧ ixO (.val (.tup [a, u, c, x, y])) (.val (.int 1)) = some (.val u) ∧ ixO (.val (.tup [a, u, c, x, y])) (.val (.int 2)) = some (.val c) ∧ ixO (.val (.tup [a, u, c, x, y])) (.val (.int 3)) = some (.val x) ∧ ixO (.val (.tup [a, u, c, x, y])) (.val (.int 4)) = some (.val y) := by
  refine ⟨?_, ?_, ?_, ?_, ?_, ?_⟩ <;> (try simp) <;> rfl
theorem Th.sl {n : Nat} {d : D} (h : Th n d) : ∀ s, d = .str s → s.length ≤ 1000000 := by
  rintro s rfl; exact h.slen
theorem Th.tl {n : Nat} {d : D} (h : Th n d) : ∀ ds, d = .tup ds → ds.length ≤ 1000000 := by
  rintro s rfl; exact h.len
theorem is_guard {n : Nat} {d : D} (h : Th n d) : F_is_guard [.val d] = some (.val (.bl (guardB d)), [none]) := by
  unfold F_is_guard
  rw [runF_eq]
  have hty := h.ty
  cases d with
  | tup ds =>
    have i1 : isiO "tuple" (.val (.tup ds)) = some (.val (.bl true)) := rfl
    by_cases h5 : ds.length = 5
    · obtain ⟨a, u, c, x, y, rfl⟩ := five h5
      obtain ⟨ln, t0, t1, t2, t3, t4⟩ := tup5 a u c x y
      have ha := h.tup a (by simp)
      have hu := h.tup u (by simp)
      have hc := h.tup c (by simp)
      have hx := h.tup x (by simp)
      have hy := h.tup y (by simp)
      have e0 := is_name a ha.ty ha.sl
      have e1 := is_name u hu.ty hu.sl
      have e2 := is_curve c hc.tyPP hc.tl
      have e3 := is_number x hx.ty
      have e4 := is_number y hy.ty
      have gb : guardB (.tup [a, u, c, x, y]) = (nameB a && (undB u && (curveB c && (numB x && numB y)))) := rfl
      rw [gb]
      clear h hty h5
      generalize D.tup [a, u, c, x, y] = T at *
      cases q0 : nameB a with
      | false =>
        rw [q0] at e0
        simp [b_is_guard, i1, ln, t0, e0]
        first | rfl | exact ⟨rfl, rfl⟩
      | true =>
        rw [q0] at e0
        by_cases hu0 : u = .non
        · subst hu0
          have nn : notNO (.val .non) (.val .non) = some (.val (.bl false)) := rfl
          cases q2 : curveB c <;> rw [q2] at e2 <;> cases q3 : numB x <;> rw [q3] at e3 <;> (simp [b_is_guard, i1, ln, t0, t1, t2, t3, t4, e0, e2, e3, e4, nn, undB]; first | rfl | exact ⟨rfl, rfl⟩)
        · have nn : notNO (.val u) (.val .non) = some (.val (.bl true)) := by cases u <;> first | rfl | exact absurd rfl hu0
          have ub : undB u = nameB u := by cases u <;> first | rfl | exact absurd rfl hu0
          rw [ub]
          cases q1 : nameB u <;> rw [q1] at e1
          · simp [b_is_guard, i1, ln, t0, t1, e0, e1, nn]
            first | rfl | exact ⟨rfl, rfl⟩
          · cases q2 : curveB c <;> rw [q2] at e2 <;> cases q3 : numB x <;> rw [q3] at e3 <;> (simp [b_is_guard, i1, ln, t0, t1, t2, t3, t4, e0, e1, e2, e3, e4, nn]; first | rfl | exact ⟨rfl, rfl⟩)
    · obtain ⟨gb, _⟩ := not5 h5
      rw [gb]
      have ln : lenO (.val (.tup ds)) = some (.val (.int (ds.length : Int))) := rfl
      have ne : ¬ ((ds.length : Int) = 5) := by omega
      generalize (ds.length : Int) = NN at *
      generalize D.tup ds = T at *
      simp [b_is_guard, i1, ln, ne]
      first | rfl | exact ⟨rfl, rfl⟩
  | fn x => cases hty
  | ins c ns ds => cases hty
  | scr ns =>
    have e1 : isiO "tuple" (.val (.scr ns)) = some (.val (.bl false)) := rfl
    simp [b_is_guard, e1]
    first | rfl | exact ⟨rfl, rfl⟩
  | _ =>
    simp [b_is_guard]
    first | rfl | exact ⟨rfl, rfl⟩
theorem is_load {n : Nat} {d : D} (h : Th n d) : F_is_load [.val d] = some (.val (.bl (loadB d)), [none]) := by
  unfold F_is_load
  rw [runF_eq]
  have hty := h.ty
  cases d with
  | tup ds =>
    have i1 : isiO "tuple" (.val (.tup ds)) = some (.val (.bl true)) := rfl
    by_cases h5 : ds.length = 5
    · obtain ⟨a, u, c, x, y, rfl⟩ := five h5
      obtain ⟨ln, t0, t1, t2, t3, t4⟩ := tup5 a u c x y
      have ha := h.tup a (by simp)
      have hu := h.tup u (by simp)
      have hc := h.tup c (by simp)
      have hx := h.tup x (by simp)
      have hy := h.tup y (by simp)
      have e0 := is_name a ha.ty ha.sl
      have e1 := is_name u hu.ty hu.sl
      have e2 := is_course c hc.tyPP hc.tl
      have e3 := is_number x hx.ty
      have e4 : isiO "bool" (.val y) = some (.val (.bl (blB y))) := by
        have := hy.ty
        cases y <;> first | rfl | cases this
      have gb : loadB (.tup [a, u, c, x, y]) = (nameB a && (nameB u && (courseB c && (numB x && blB y)))) := rfl
      rw [gb]
      clear h hty h5
      generalize D.tup [a, u, c, x, y] = T at *
      cases q0 : nameB a <;> rw [q0] at e0
      · simp [b_is_load, i1, ln, t0, e0]
        first | rfl | exact ⟨rfl, rfl⟩
      · cases q1 : nameB u <;> rw [q1] at e1
        · simp [b_is_load, i1, ln, t0, t1, e0, e1]
          first | rfl | exact ⟨rfl, rfl⟩
        · cases q2 : courseB c <;> rw [q2] at e2 <;> cases q3 : numB x <;> rw [q3] at e3 <;> (simp [b_is_load, i1, ln, t0, t1, t2, t3, t4, e0, e1, e2, e3, e4]; first | rfl | exact ⟨rfl, rfl⟩)
    · obtain ⟨_, gb⟩ := not5 h5
      rw [gb]
      have ln : lenO (.val (.tup ds)) = some (.val (.int (ds.length : Int))) := rfl
      have ne : ¬ ((ds.length : Int) = 5) := by omega
      generalize (ds.length : Int) = NN at *
      generalize D.tup ds = T at *
      simp [b_is_load, i1, ln, ne]
      first | rfl | exact ⟨rfl, rfl⟩
  | fn x => cases hty
  | ins c ns ds => cases hty
  | scr ns =>
    have e1 : isiO "tuple" (.val (.scr ns)) = some (.val (.bl false)) := rfl
    simp [b_is_load, e1]
    first | rfl | exact ⟨rfl, rfl⟩
  | _ =>
    simp [b_is_load]
    first | rfl | exact ⟨rfl, rfl⟩
theorem eq_gg : eqO (.val (.str "guard")) (.val (.str "guard")) = some (.val (.bl true)) := by
  rw [e_eqO (by simp) (by simp)]; simp
theorem row_guard {n : Nat} {d : D} (h : Th n d) : F__law_row_right [.val d, .val (.str "guard")] = some (.val (.bl (guardB d)), [none, none]) := by
  unfold F__law_row_right
  rw [runF_eq]
  have hty := h.ty
  have gg := eq_gg
  cases d with
  | tup ds =>
    have i1 : isiO "tuple" (.val (.tup ds)) = some (.val (.bl true)) := rfl
    by_cases h5 : ds.length = 5
    · obtain ⟨a, u, c, x, y, rfl⟩ := five h5
      obtain ⟨ln, t0, t1, t2, t3, t4⟩ := tup5 a u c x y
      have ha := h.tup a (by simp)
      have hu := h.tup u (by simp)
      have hc := h.tup c (by simp)
      have hx := h.tup x (by simp)
      have hy := h.tup y (by simp)
      have e0 := law_name a ha.ty ha.sl
      have e1 := law_name u hu.ty hu.sl
      have e2 := law_curve c hc.tyPP hc.tl
      have e3 := law_num x 0 hx.ty
      have e4 := law_num y 0 hy.ty
      rw [numL0] at e3 e4
      have gb : guardB (.tup [a, u, c, x, y]) = (nameB a && (undB u && (curveB c && (numB x && numB y)))) := rfl
      rw [gb]
      clear h hty h5
      generalize D.tup [a, u, c, x, y] = T at *
      cases q0 : nameB a <;> rw [q0] at e0
      · simp [b__law_row_right, i1, ln, t0, e0]
        first | rfl | exact ⟨rfl, rfl⟩
      · by_cases hu0 : u = .non
        · subst hu0
          have nn : isNO (.val .non) (.val .non) = some (.val (.bl true)) := rfl
          cases q2 : curveB c <;> rw [q2] at e2 <;> cases q3 : numB x <;> rw [q3] at e3 <;> (simp [b__law_row_right, i1, ln, gg, t0, t1, t2, t3, t4, e0, e2, e3, e4, nn, undB]; first | rfl | exact ⟨rfl, rfl⟩)
        · have nn : isNO (.val u) (.val .non) = some (.val (.bl false)) := by cases u <;> first | rfl | exact absurd rfl hu0
          have ub : undB u = nameB u := by cases u <;> first | rfl | exact absurd rfl hu0
          rw [ub]
          cases q1 : nameB u <;> rw [q1] at e1
          · simp [b__law_row_right, i1, ln, gg, t0, t1, e0, e1, nn]
            first | rfl | exact ⟨rfl, rfl⟩
          · cases q2 : curveB c <;> rw [q2] at e2 <;> cases q3 : numB x <;> rw [q3] at e3 <;> (simp [b__law_row_right, i1, ln, gg, t0, t1, t2, t3, t4, e0, e1, e2, e3, e4, nn]; first | rfl | exact ⟨rfl, rfl⟩)
    · obtain ⟨gb, _⟩ := not5 h5
      rw [gb]
      have ln : lenO (.val (.tup ds)) = some (.val (.int (ds.length : Int))) := rfl
      have ne : ¬ ((ds.length : Int) = 5) := by omega
      generalize (ds.length : Int) = NN at *
      generalize D.tup ds = T at *
      simp [b__law_row_right, i1, ln, ne]
      first | rfl | exact ⟨rfl, rfl⟩
  | fn x => cases hty
  | ins c ns ds => cases hty
  | scr ns =>
    have e1 : isiO "tuple" (.val (.scr ns)) = some (.val (.bl false)) := rfl
    simp [b__law_row_right, e1]
    first | rfl | exact ⟨rfl, rfl⟩
  | _ =>
    simp [b__law_row_right]
    first | rfl | exact ⟨rfl, rfl⟩
theorem row_load {n : Nat} {d : D} (h : Th n d) : F__law_row_right [.val d, .val (.str "load")] = some (.val (.bl (loadB d)), [none, none]) := by
  unfold F__law_row_right
  rw [runF_eq]
  have hty := h.ty
  have gg : ¬ (("load" : Str) = ("guard" : Str)) := by decide +kernel
  cases d with
  | tup ds =>
    have i1 : isiO "tuple" (.val (.tup ds)) = some (.val (.bl true)) := rfl
    by_cases h5 : ds.length = 5
    · obtain ⟨a, u, c, x, y, rfl⟩ := five h5
      obtain ⟨ln, t0, t1, t2, t3, t4⟩ := tup5 a u c x y
      have ha := h.tup a (by simp)
      have hu := h.tup u (by simp)
      have hc := h.tup c (by simp)
      have hx := h.tup x (by simp)
      have hy := h.tup y (by simp)
      have e0 := law_name a ha.ty ha.sl
      have e1 := law_name u hu.ty hu.sl
      have e2 := law_course c hc.tyPP hc.tl
      have e3 := law_num x 0 hx.ty
      rw [numL0] at e3
      have e4 : isiO "bool" (.val y) = some (.val (.bl (blB y))) := by
        have := hy.ty
        cases y <;> first | rfl | cases this
      have gb : loadB (.tup [a, u, c, x, y]) = (nameB a && (nameB u && (courseB c && (numB x && blB y)))) := rfl
      rw [gb]
      clear h hty h5
      generalize D.tup [a, u, c, x, y] = T at *
      cases q0 : nameB a <;> rw [q0] at e0
      · simp [b__law_row_right, i1, ln, t0, e0]
        first | rfl | exact ⟨rfl, rfl⟩
      · cases q1 : nameB u <;> rw [q1] at e1
        · simp [b__law_row_right, i1, ln, gg, t0, t1, e0, e1]
          first | rfl | exact ⟨rfl, rfl⟩
        · cases q2 : courseB c <;> rw [q2] at e2 <;> cases q3 : numB x <;> rw [q3] at e3 <;> (simp [b__law_row_right, i1, ln, gg, t0, t1, t2, t3, t4, e0, e1, e2, e3, e4]; first | rfl | exact ⟨rfl, rfl⟩)
    · obtain ⟨_, gb⟩ := not5 h5
      rw [gb]
      have ln : lenO (.val (.tup ds)) = some (.val (.int (ds.length : Int))) := rfl
      have ne : ¬ ((ds.length : Int) = 5) := by omega
      generalize (ds.length : Int) = NN at *
      generalize D.tup ds = T at *
      simp [b__law_row_right, i1, ln, ne]
      first | rfl | exact ⟨rfl, rfl⟩
  | fn x => cases hty
  | ins c ns ds => cases hty
  | scr ns =>
    have e1 : isiO "tuple" (.val (.scr ns)) = some (.val (.bl false)) := rfl
    simp [b__law_row_right, e1]
    first | rfl | exact ⟨rfl, rfl⟩
  | _ =>
    simp [b__law_row_right]
    first | rfl | exact ⟨rfl, rfl⟩
/-! what a right one is -/
structure GOk (g : Gd) : Prop where
  nm : NameOk g.nm
  un : ∀ l, g.un = some l → NameOk l
  C : Cok g.C
  dl : numOk g.dl
  wt : numOk g.wt
structure LOk (l : Ld) : Prop where
  nm : NameOk l.nm
  pl : NameOk l.pl
  cs : csOk l.cs
  la : numOk l.la
def unU : D → Option (List Nat)
  | .str s => some (unS s)
  | _ => none
def gP : D → Gd
  | .tup [.str a, u, .tup c, .int x, .int y] => ⟨unS a, unU u, c.map stpI, x, y⟩
  | _ => ⟨[], none, [], 0, 0⟩
def lP : D → Ld
  | .tup [.str a, .str u, .tup c, .int x, .bl y] => ⟨unS a, unS u, c.map stpI, x, y⟩
  | _ => ⟨[], [], [], 0, true⟩
theorem und_g {u : D} (h : undB u = true) : (∀ l, unU u = some l → NameOk l) ∧ u = uD (unU u) := by
  by_cases hu : u = .non
  · subst hu
    exact ⟨fun l z => (by cases z), rfl⟩
  · have ub : undB u = nameB u := by cases u <;> first | rfl | exact absurd rfl hu
    rw [ub] at h
    obtain ⟨s, rfl, h1, h2⟩ := nameB_sD h
    refine ⟨fun l z => ?_, h2⟩
    have z : some (unS s) = some l := z
    cases z
    exact h1
theorem curve_g {c : D} (h : curveB c = true) : ∃ ds, c = .tup ds ∧ Cok (ds.map stpI) ∧ c = cv (ds.map stpI) := by
  cases c with
  | tup ds =>
    have h : ((decide (1 ≤ ds.length) && decide (ds.length ≤ 5)) && (ds.all stepB && risC (ds.map stpI))) = true := h
    rw [Bool.and_eq_true, Bool.and_eq_true, Bool.and_eq_true, decide_eq_true_eq, decide_eq_true_eq] at h
    obtain ⟨⟨h1, h5⟩, hs, hr⟩ := h
    obtain ⟨C, rfl, eC, hC⟩ := steps_map hs
    rw [eC] at hr
    rw [List.length_map] at h1 h5
    refine ⟨_, rfl, ?_, ?_⟩
    · rw [eC]
      refine ⟨fun z => by rw [z] at h1; simp at h1, h5, ris_pw hr, fun p hp => ?_⟩
      obtain ⟨a1, a2, a3, a4⟩ := hC p hp
      exact ⟨a1, a2, a3.2, a4.2⟩
    · rw [eC]; rfl
  | _ => cases h
theorem strs_map : ∀ {ds : List D}, ds.all strB = true → ∃ C : List (Int × Int), ds = C.map pD ∧ ds.map stpI = C ∧ ∀ p ∈ C, 1 ≤ p.1 ∧ numOk p.1 ∧ numOk p.2
  | [], _ => ⟨[], rfl, rfl, by simp⟩
  | d :: ds, h => by
    rw [List.all_cons, Bool.and_eq_true] at h
    obtain ⟨C, rfl, e, hC⟩ := strs_map h.2
    have h1 := h.1
    unfold strB at h1
    rw [Bool.and_eq_true] at h1
    obtain ⟨p, rfl, p1, p2⟩ := pairB_pD h1.1
    have h3 : decide (0 < p.1) = true := h1.2
    rw [decide_eq_true_eq] at h3
    refine ⟨p :: C, rfl, by rw [List.map_cons, e]; rfl, fun q hq => ?_⟩
    rcases List.mem_cons.mp hq with rfl | hq
    · exact ⟨by omega, p1, p2⟩
    · exact hC q hq
theorem course_g {c : D} (h : courseB c = true) : ∃ ds, c = .tup ds ∧ csOk (ds.map stpI) ∧ c = cv (ds.map stpI) := by
  cases c with
  | tup ds =>
    have h : (decide (ds.length ≤ 4) && ds.all strB) = true := h
    rw [Bool.and_eq_true, decide_eq_true_eq] at h
    obtain ⟨C, rfl, eC, hC⟩ := strs_map h.2
    have h4 := h.1
    rw [List.length_map] at h4
    refine ⟨_, rfl, ?_, ?_⟩
    · rw [eC]; exact ⟨h4, hC⟩
    · rw [eC]; rfl
  | _ => cases h
theorem guardB_g {d : D} (h : guardB d = true) : GOk (gP d) ∧ d = gD (gP d) := by
  unfold guardB at h
  split at h
  · rename_i a u c x y
    rw [Bool.and_eq_true, Bool.and_eq_true, Bool.and_eq_true, Bool.and_eq_true] at h
    obtain ⟨h0, h1, h2, h3, h4⟩ := h
    obtain ⟨s, rfl, a1, a2⟩ := nameB_sD h0
    obtain ⟨u1, u2⟩ := und_g h1
    obtain ⟨cs, rfl, c1, c2⟩ := curve_g h2
    obtain ⟨i, rfl, i1, i2⟩ := numB_int h3
    obtain ⟨j, rfl, j1, j2⟩ := numB_int h4
    refine ⟨⟨a1, u1, c1, ⟨i1, i2⟩, ⟨j1, j2⟩⟩, ?_⟩
    show D.tup [.str s, u, .tup cs, .int i, .int j] = D.tup [sD (unS s), uD (unU u), cv (cs.map stpI), .int i, .int j]
    rw [← a2, ← u2, ← c2]
  · cases h
theorem loadB_l {d : D} (h : loadB d = true) : LOk (lP d) ∧ d = lD (lP d) := by
  unfold loadB at h
  split at h
  · rename_i a u c x y
    rw [Bool.and_eq_true, Bool.and_eq_true, Bool.and_eq_true, Bool.and_eq_true] at h
    obtain ⟨h0, h1, h2, h3, h4⟩ := h
    obtain ⟨s, rfl, a1, a2⟩ := nameB_sD h0
    obtain ⟨t, rfl, u1, u2⟩ := nameB_sD h1
    obtain ⟨cs, rfl, c1, c2⟩ := course_g h2
    obtain ⟨i, rfl, i1, i2⟩ := numB_int h3
    cases y with
    | bl b =>
      refine ⟨⟨a1, u1, c1, ⟨i1, i2⟩⟩, ?_⟩
      show D.tup [.str s, .str t, .tup cs, .int i, .bl b] = D.tup [sD (unS s), sD (unS t), cv (cs.map stpI), .int i, .bl b]
      rw [← a2, ← u2, ← c2]
    | _ => cases h4
  · cases h

end Lw

namespace Lw
open PySem PySem.Spec L2 FB Wk
open PyProof.Rows hiding St
/-! what fits behind right guards and loads -/
theorem gd_eq4 {gs : List Gd} (nd : (gs.map Gd.nm).Nodup) {g g' : Gd} (h : g ∈ gs) (h' : g' ∈ gs) (e : g.nm = g'.nm) : g = g' := by
  obtain ⟨i, hi⟩ := List.getElem?_of_mem h
  obtain ⟨j, hj⟩ := List.getElem?_of_mem h'
  have i1 := (List.getElem?_eq_some_iff.mp hi).1
  have : i = j := by
    have a1 : (gs.map Gd.nm)[i]? = some g.nm := by rw [List.getElem?_map, hi]; rfl
    have a2 : (gs.map Gd.nm)[j]? = some g.nm := by rw [List.getElem?_map, hj, e]; rfl
    exact (List.getElem?_inj (by simpa using i1) nd).mp (a1.trans a2.symm)
  subst this
  rw [hi] at hj
  cases hj; rfl
theorem ch_det {gs : List Gd} (nd : (gs.map Gd.nm).Nodup) {u : Option (List Nat)} {L : List (List Nat)} (c : Ch gs u L) : ∀ {L' : List (List Nat)}, Ch gs u L' → L = L' := by
  induction c with
  | nil => intro L' c'; cases c'; rfl
  | cons hg _ ih =>
    intro L' c'
    generalize eu : some _ = u at c'
    cases c' with
    | nil => cases eu
    | cons hg' c2 =>
      have := gd_eq4 nd hg hg' (Option.some.inj eu)
      subst this
      rw [ih c2]
def dep (ms : List (List Nat)) (ds : List Nat) (l : List Nat) : Option Nat := (idxK (kD ms) (.inr (SL l))).bind fun j => ds[j]?
theorem idx_mem {ms : List (List Nat)} {l : List Nat} : (idxK (kD ms) (.inr (SL l))).isSome = decide (l ∈ ms) := by
  unfold idxK kD
  rw [List.findIdx?_map, List.findIdx?_isSome]
  by_cases h : l ∈ ms
  · rw [decide_eq_true h, List.any_eq_true]
    exact ⟨l, h, by simp⟩
  · rw [decide_eq_false h, Bool.eq_false_iff]
    intro z
    obtain ⟨x, hx, e⟩ := List.any_eq_true.mp z
    have e : (Sum.inr (SL x) : Key) = Sum.inr (SL l) := by simpa using e
    exact h (SL_inj (Sum.inr.inj e) ▸ hx)
theorem in_dO (ms : List (List Nat)) (ds : List Nat) (l : List Nat) : inF (.val (sD l)) (dO ms ds) = some (.val (.bl (decide (l ∈ ms)))) := by
  rw [← idx_mem]; rfl
theorem nin_dO (ms : List (List Nat)) (ds : List Nat) (l : List Nat) : ninF (.val (sD l)) (dO ms ds) = some (.val (.bl (!decide (l ∈ ms)))) := by
  rw [← idx_mem]; rfl
theorem get_dO (ms : List (List Nat)) (ds : List Nat) (l : List Nat) (c : Nat) : getO (dO ms ds) (.val (sD l)) (.val (.int (c : Int))) = some (.val (.int (((dep ms ds l).getD c : Nat) : Int))) := by
  show some (((idxK (kD ms) (.inr (SL l))).bind fun j => (ds.map fun d : Nat => O.val (.int (d : Int)))[j]?).getD (.val (.int (c : Int)))) = _
  unfold dep
  cases idxK (kD ms) (.inr (SL l)) with
  | none => rfl
  | some j =>
    show some (((ds.map fun d : Nat => O.val (.int (d : Int)))[j]?).getD _) = some (.val (.int (((ds[j]?).getD c : Nat) : Int)))
    rw [List.getElem?_map]
    cases ds[j]? <;> rfl
theorem get_dO0 (ms : List (List Nat)) (ds : List Nat) (c : Int) : getO (dO ms ds) (.val .non) (.val (.int c)) = some (.val (.int c)) := rfl
def nmsG (gs : List Gd) : List (List Nat) := gs.map Gd.nm
def fitG (gs : List Gd) (ds : List Nat) (g : Gd) : Bool := !decide (g.nm ∈ nmsG gs) && (match g.un with
  | none => true
  | some l => decide ((dep (nmsG gs) ds l).getD 8 < 8))
def nwd (gs : List Gd) (ds : List Nat) (g : Gd) : Nat := 1 + (match g.un with
  | none => 0
  | some l => (dep (nmsG gs) ds l).getD 0)
def fitB (gs : List Gd) (ds : List Nat) (d : D) : Bool := guardB d && fitG gs ds (gP d)
theorem dep_mem {gs : List Gd} {ds : List Nat} (h : GsOk gs ds) {l : List Nat} (hl : l ∈ nmsG gs) : ∃ (j : Nat) (u : Gd) (k : Nat), gs[j]? = some u ∧ u.nm = l ∧ ds[j]? = some k ∧ dep (nmsG gs) ds l = some k := by
  obtain ⟨j, hj⟩ := List.getElem?_of_mem hl
  unfold nmsG at hj
  rw [List.getElem?_map] at hj
  cases hg : gs[j]? with
  | none => rw [hg] at hj; cases hj
  | some u =>
    rw [hg] at hj
    have hj : some u.nm = some l := hj
    have lt := (List.getElem?_eq_some_iff.mp hg).1
    have lt2 : j < ds.length := by rw [h.len]; exact lt
    have e : ds[j]? = some ds[j] := List.getElem?_eq_getElem lt2
    refine ⟨j, u, _, hg, Option.some.inj hj, e, ?_⟩
    unfold dep nmsG
    rw [idx_some h.nd (show (gs.map Gd.nm)[j]? = some l by rw [List.getElem?_map, hg]; exact hj)]
    exact e
theorem dep_out {ms : List (List Nat)} {ds : List Nat} {l : List Nat} (hl : l ∉ ms) : dep ms ds l = none := by
  unfold dep; rw [idx_none hl]; rfl
theorem fit_snoc {gs : List Gd} {ds : List Nat} {g : Gd} (h : GsOk gs ds) (G : GOk g) (f : fitG gs ds g = true) : GsOk (gs ++ [g]) (ds ++ [nwd gs ds g]) := by
  unfold fitG at f
  rw [Bool.and_eq_true, Bool.not_eq_true', decide_eq_false_iff_not] at f
  obtain ⟨f1, f2⟩ := f
  refine h.snoc f1 G.nm ⟨G.C, G.dl, G.wt⟩ ?_
  unfold nwd
  cases hu : g.un with
  | none => exact .inl ⟨rfl, rfl⟩
  | some l =>
    rw [hu] at f2
    have f2 : (dep (nmsG gs) ds l).getD 8 < 8 := decide_eq_true_eq.mp f2
    by_cases hl : l ∈ nmsG gs
    · obtain ⟨j, u, k, e1, e2, e3, e4⟩ := dep_mem h hl
      rw [e4] at f2
      refine .inr ⟨j, u, k, (List.getElem?_eq_some_iff.mp e1).1, e1, by rw [e2], e3, f2, ?_⟩
      show 1 + (dep (nmsG gs) ds l).getD 0 = _
      rw [e4]
      show 1 + k = k + 1
      omega
    · rw [dep_out hl] at f2
      exact absurd f2 (by decide)
theorem gf_q {gs : List Gd} (hl : gs.length < 100) (d : D) : q1_guard_fits (E_guard_fits (some (.val (.tup (gs.map gD)))) (some (.val d))) = .ok (sO (nmsG gs)) (E_guard_fits (some (.val (.tup (gs.map gD)))) (some (.val d))) := by
  have it : D.items? (.tup (gs.map gD)) = some (gs.map gD) := rfl
  rw [show sO (nmsG gs) = .lst (gs.map fun g => O.val (sD g.nm)) from by unfold sO vO nmsG; rw [List.map_map, List.map_map]; rfl]
  refine comp_map gD (fun g => O.val (sD g.nm)) (by generalize gs.map gD = GG at *; simp [it]) (by omega) (by decide) (fun x _ => ?_)
  have x0 := gD_0 x
  generalize gD x = GX at *
  generalize D.tup (gs.map gD) = T at *
  simp [x0]
theorem fits_any {n : Nat} {gs : List Gd} {ds : List Nat} (h : GsOk gs ds) (hl : gs.length < 16) {d : D} (hd : Th n d) : F_guard_fits [.val (.tup (gs.map gD)), .val d] = some (.val (.bl (fitB gs ds d)), [none, none]) := by
  have q := gf_q (gs := gs) (by omega) d
  have ok := is_guard hd
  have td := sO_toD (nmsG gs)
  have ln : lenO (.val (.tup (gs.map gD))) = some (.val (.int (gs.length : Int))) := by
    show some (O.val (.int ((gs.map gD).length : Int))) = _
    rw [List.length_map]
  have ne : eqO (.val (.int (gs.length : Int))) (.val (.int 16)) = some (.val (.bl false)) := by
    simp; omega
  unfold F_guard_fits
  rw [runF_eq]
  cases hb : guardB d with
  | false =>
    have fb : fitB gs ds d = false := by unfold fitB; rw [hb]; rfl
    rw [fb]
    rw [hb] at ok
    generalize sO (nmsG gs) = SO at *
    generalize D.tup (gs.map gD) = TG at *
    simp [b_guard_fits, q, ln, ne, ok]
    first | rfl | exact ⟨rfl, rfl⟩
  | true =>
    have fb : fitB gs ds d = fitG gs ds (gP d) := by unfold fitB; rw [hb]; rfl
    rw [fb]
    rw [hb] at ok
    obtain ⟨G, e⟩ := guardB_g hb
    generalize gP d = g at *
    subst e
    have g0 := gD_0 g
    have g1 := gD_1 g
    obtain ⟨i1, _⟩ := in_names12 g.nm (nmsG gs) (.val (.lst ((nmsG gs).map sD))) rfl
    by_cases hno : g.nm ∈ nmsG gs
    · rw [decide_eq_true hno] at i1
      have ff : fitG gs ds g = false := by unfold fitG; rw [decide_eq_true hno]; rfl
      rw [ff]
      generalize D.lst ((nmsG gs).map sD) = NV at *
      generalize sO (nmsG gs) = SO at *
      generalize D.tup (gs.map gD) = TG at *
      generalize gD g = GG at *
      simp [b_guard_fits, q, td, ln, ne, ok, g0, i1]
      first | rfl | exact ⟨rfl, rfl⟩
    · rw [decide_eq_false hno] at i1
      have ff : fitG gs ds g = (match g.un with | none => true | some l => decide ((dep (nmsG gs) ds l).getD 8 < 8)) := by unfold fitG; rw [decide_eq_false hno]; rfl
      rw [ff]
      cases hu : g.un with
      | none =>
        rw [hu] at g1
        have g1 : ixO (.val (gD g)) (.val (.int 1)) = some (.val .non) := g1
        have nn : isNO (.val .non) (.val .non) = some (.val (.bl true)) := rfl
        generalize D.lst ((nmsG gs).map sD) = NV at *
        generalize sO (nmsG gs) = SO at *
        generalize D.tup (gs.map gD) = TG at *
        generalize gD g = GG at *
        simp [b_guard_fits, q, td, ln, ne, ok, g0, g1, i1, nn]
        first | rfl | exact ⟨rfl, rfl⟩
      | some l =>
        rw [hu] at g1
        have g1 : ixO (.val (gD g)) (.val (.int 1)) = some (.val (sD l)) := g1
        have nn : isNO (.val (sD l)) (.val .non) = some (.val (.bl false)) := rfl
        obtain ⟨i2, _⟩ := in_names12 l (nmsG gs) (.val (.lst ((nmsG gs).map sD))) rfl
        show _ = some (O.val (.bl (decide ((dep (nmsG gs) ds l).getD 8 < 8))), _)
        by_cases hm : l ∈ nmsG gs
        · rw [decide_eq_true hm] at i2
          obtain ⟨j, u, k, e1, e2, e3, e4⟩ := dep_mem h hm
          obtain ⟨L, c, hL⟩ := ch_len h j u e1
          rw [e2] at c
          rw [e3] at hL
          have hk : k = L.length := Option.some.inj hL
          have jl := (List.getElem?_eq_some_iff.mp e1).1
          obtain ⟨L2, c2, l16⟩ := ch_mem h (List.mem_of_getElem? e1) (by omega)
          rw [e2] at c2
          have same := ch_det h.nd c c2
          have ch := chain h.nd (by omega) c (by rw [same]; exact l16)
          have lc : lenO (sO L) = some (.val (.int (L.length : Int))) := by unfold sO; simp
          rw [e4]
          have dd : decide ((some k).getD 8 < 8) = decide ((L.length : Int) < 8) := by
            apply decide_eq_decide.mpr
            show k < 8 ↔ _
            omega
          rw [dd]
          generalize D.lst ((nmsG gs).map sD) = NV at *
          generalize sO (nmsG gs) = SO at *
          generalize sO L = SL' at *
          generalize D.tup (gs.map gD) = TG at *
          generalize gD g = GG at *
          simp [b_guard_fits, q, td, ln, ne, ok, g0, g1, i1, i2, nn, ch, lc]
          first | rfl | exact ⟨rfl, rfl⟩
        · rw [decide_eq_false hm] at i2
          rw [dep_out hm]
          generalize D.lst ((nmsG gs).map sD) = NV at *
          generalize sO (nmsG gs) = SO at *
          generalize D.tup (gs.map gD) = TG at *
          generalize gD g = GG at *
          simp [b_guard_fits, q, td, ln, ne, ok, g0, g1, i1, i2, nn]
          first | rfl | exact ⟨rfl, rfl⟩
/-! loads -/
def fitL (gs : List Gd) (ls : List Ld) (x : Ld) : Bool := decide (x.pl ∈ nmsG gs) && (!decide (x.nm ∈ nmsG gs) && !decide (x.nm ∈ ls.map Ld.nm))
def fitLB (gs : List Gd) (ls : List Ld) (d : D) : Bool := loadB d && fitL gs ls (lP d)
theorem lf_q1 {gs : List Gd} (hl : gs.length < 100) (x y : Option O) : q1_load_fits (E_load_fits (some (.val (.tup (gs.map gD)))) x y) = .ok (sO (nmsG gs)) (E_load_fits (some (.val (.tup (gs.map gD)))) x y) := by
  have it : D.items? (.tup (gs.map gD)) = some (gs.map gD) := rfl
  rw [show sO (nmsG gs) = .lst (gs.map fun g => O.val (sD g.nm)) from by unfold sO vO nmsG; rw [List.map_map, List.map_map]; rfl]
  refine comp_map gD (fun g => O.val (sD g.nm)) (by generalize gs.map gD = GG at *; simp [it]) (by omega) (by decide) (fun x _ => ?_)
  have x0 := gD_0 x
  generalize gD x = GX at *
  generalize D.tup (gs.map gD) = T at *
  simp [x0]
theorem lf_q2 {ls : List Ld} (hl : ls.length < 100) (x y z : Option O) : q2_load_fits (E_load_fits x (some (.val (.tup (ls.map lD)))) y z) = .ok (sO (ls.map Ld.nm)) (E_load_fits x (some (.val (.tup (ls.map lD)))) y z) := by
  have it : D.items? (.tup (ls.map lD)) = some (ls.map lD) := rfl
  rw [show sO (ls.map Ld.nm) = .lst (ls.map fun g => O.val (sD g.nm)) from by unfold sO vO; rw [List.map_map, List.map_map]; rfl]
  refine comp_map lD (fun g => O.val (sD g.nm)) (by generalize ls.map lD = GG at *; simp [it]) (by omega) (by decide) (fun x _ => ?_)
  have x0 := lD_0 x
  generalize lD x = GX at *
  generalize D.tup (ls.map lD) = T at *
  simp [x0]
theorem lfits_any {n : Nat} {gs : List Gd} {ls : List Ld} (hg : gs.length ≤ 16) (hl : ls.length < 24) {d : D} (hd : Th n d) : F_load_fits [.val (.tup (gs.map gD)), .val (.tup (ls.map lD)), .val d] = some (.val (.bl (fitLB gs ls d)), [none, none, none]) := by
  have q1 := lf_q1 (gs := gs) (by omega) (some (.val (.tup (ls.map lD)))) (some (.val d))
  have q2 := fun W => lf_q2 (ls := ls) (by omega) (some (.val (.tup (gs.map gD)))) (some (.val d)) W
  have ok := is_load hd
  have td := sO_toD (nmsG gs)
  have ln : lenO (.val (.tup (ls.map lD))) = some (.val (.int (ls.length : Int))) := by
    show some (O.val (.int ((ls.map lD).length : Int))) = _
    rw [List.length_map]
  have ne : eqO (.val (.int (ls.length : Int))) (.val (.int 24)) = some (.val (.bl false)) := by
    simp; omega
  unfold F_load_fits
  rw [runF_eq]
  cases hb : loadB d with
  | false =>
    have fb : fitLB gs ls d = false := by unfold fitLB; rw [hb]; rfl
    rw [fb]
    rw [hb] at ok
    generalize sO (nmsG gs) = SO at *
    generalize D.tup (gs.map gD) = TG at *
    generalize D.tup (ls.map lD) = TL at *
    simp [b_load_fits, q1, ln, ne, ok]
    first | rfl | exact ⟨rfl, rfl⟩
  | true =>
    have fb : fitLB gs ls d = fitL gs ls (lP d) := by unfold fitLB; rw [hb]; rfl
    rw [fb]
    rw [hb] at ok
    obtain ⟨G, e⟩ := loadB_l hb
    generalize lP d = x at *
    subst e
    have g0 := lD_0 x
    have g1 := lD_1 x
    obtain ⟨_, i1⟩ := in_names12 x.pl (nmsG gs) (.val (.lst ((nmsG gs).map sD))) rfl
    obtain ⟨_, i2⟩ := in_names12 x.nm (nmsG gs) (.val (.lst ((nmsG gs).map sD))) rfl
    obtain ⟨_, i3⟩ := in_names12 x.nm (ls.map Ld.nm) (sO (ls.map Ld.nm)) (sO_toD _)
    have ff : fitL gs ls x = (decide (x.pl ∈ nmsG gs) && (!decide (x.nm ∈ nmsG gs) && !decide (x.nm ∈ ls.map Ld.nm))) := rfl
    rw [ff]
    generalize D.lst ((nmsG gs).map sD) = NV at *
    generalize sO (nmsG gs) = SO at *
    generalize sO (ls.map Ld.nm) = S1 at *
    generalize D.tup (gs.map gD) = TG at *
    generalize D.tup (ls.map lD) = TL at *
    generalize lD x = GG at *
    generalize decide (x.pl ∈ nmsG gs) = c1 at *
    generalize decide (x.nm ∈ nmsG gs) = c2 at *
    generalize decide (x.nm ∈ ls.map Ld.nm) = c3 at *
    cases c1 <;> cases c2 <;> (simp [b_load_fits, q1, td, ln, ne, ok, g0, g1, i1, i2, i3, q2]; first | rfl | exact ⟨rfl, rfl⟩)

end Lw

namespace Lw
open PySem PySem.Spec L2 FB Wk
open PyProof.Rows hiding St
/-! what is first wrong: looked and the law's own look alike -/
def enF : Nat → List D → List D
  | _, [] => []
  | k, d :: ds => .tup [.int (k : Int), d] :: enF (k + 1) ds
theorem enF_map : ∀ (ds : List D) (k : Nat), (ds.mapIdx fun i d => D.tup [.int ((k + i : Nat) : Int), d]) = enF k ds
  | [], k => rfl
  | d :: ds, k => by
    rw [List.mapIdx_cons]
    have ih := enF_map ds (k + 1)
    show D.tup [.int ((k + 0 : Nat) : Int), d] :: _ = D.tup [.int (k : Int), d] :: enF (k + 1) ds
    rw [← ih]
    congr 1
    · congr 1
      funext i e
      have : k + (i + 1) = k + 1 + i := by omega
      rw [this]
theorem enumL_enF (ds : List D) : enumL ds = enF 0 ds := by
  rw [← enF_map ds 0]
  unfold enumL
  congr 1
  funext i d
  rw [Nat.zero_add]
def scanG : List Gd → List Nat → List D → Nat ⊕ (List Gd × List Nat)
  | gs, ds, [] => .inr (gs, ds)
  | gs, ds, d :: xs => if fitB gs ds d = true then scanG (gs ++ [gP d]) (ds ++ [nwd gs ds (gP d)]) xs else .inl gs.length
def scanL (gs : List Gd) : List Ld → List D → Option Nat
  | _, [] => none
  | ls, d :: xs => if fitLB gs ls d = true then scanL gs (ls ++ [lP d]) xs else some ls.length
def nbX (w : Str) (i : Nat) : Exn := ⟨"NoBoard", ["number", "word"], [.int (i : Int), .str w]⟩
theorem rfK_nb (w : Str) (i : Nat) (ρ : FB.Env) : rfK "NoBoard" ["word", "number"] (.ok [.val (.str w), .val (.int (i : Int))] ρ) = .exc (nbX w i) ρ := e_rfK _ _ _ (by simp)
theorem fitB_g {gs : List Gd} {ds : List Nat} {d : D} (h : fitB gs ds d = true) : GOk (gP d) ∧ d = gD (gP d) ∧ fitG gs ds (gP d) = true := by
  unfold fitB at h
  rw [Bool.and_eq_true] at h
  exact ⟨(guardB_g h.1).1, (guardB_g h.1).2, h.2⟩
theorem cut_gs {gs : List Gd} {xs : List D} (d : D) : slO (.val (.tup (gs.map gD ++ d :: xs))) none (some (gs.length : Int)) = some (.val (.tup (gs.map gD))) := by
  rw [slO_val_tup, cut_to, List.take_left' (by rw [List.length_map])]
theorem cut_ls {ls : List Ld} {xs : List D} (d : D) : slO (.val (.tup (ls.map lD ++ d :: xs))) none (some (ls.length : Int)) = some (.val (.tup (ls.map lD))) := by
  rw [slO_val_tup, cut_to, List.take_left' (by rw [List.length_map])]
theorem look_g1 {n : Nat} {gs : List Gd} {ds : List Nat} (h : GsOk gs ds) (hl : gs.length < 16) {d : D} (hd : Th n d) (xs : List D) (th TL x3 x4 : Option O) : fstep (aTup (aCons (aN 3) (aCons (aN 4) (aNil)))) b1_looked (.tup [.int (gs.length : Int), d]) (E_looked th (some (.val (.tup (gs.map gD ++ d :: xs)))) TL x3 x4) =
    if fitB gs ds d = true then .ok .nx (E_looked th (some (.val (.tup (gs.map gD ++ d :: xs)))) TL (some (.val (.int (gs.length : Int)))) (some (.val d))) else .exc (nbX "guard" gs.length) (E_looked th (some (.val (.tup (gs.map gD ++ d :: xs)))) TL (some (.val (.int (gs.length : Int)))) (some (.val d))) := by
  have f := fits_any h hl hd
  have c := cut_gs (gs := gs) (xs := xs) d
  have r := rfK_nb "guard" gs.length
  generalize D.tup (gs.map gD ++ d :: xs) = T at *
  generalize D.tup (gs.map gD) = TG at *
  cases e : fitB gs ds d <;> rw [e] at f
  · simp [b1_looked, c, f, r]
  · simp [b1_looked, c, f]
theorem ap_map {α : Type} (f : α → D) (gs : List α) (g : α) (d : D) (xs : List D) (ed : d = f g) : gs.map f ++ d :: xs = (gs ++ [g]).map f ++ xs := by
  subst ed
  rw [List.map_append, List.append_assoc]; rfl
theorem look_gs {n : Nat} (th TL : Option O) : ∀ (xs : List D) {gs : List Gd} {ds : List Nat} (x3 x4 : Option O), GsOk gs ds → gs.length + xs.length ≤ 16 → (∀ d ∈ xs, Th n d) →
    match scanG gs ds xs with
    | .inr (gs', ds') => GsOk gs' ds' ∧ gs.map gD ++ xs = gs'.map gD ∧ gs'.length ≤ 16 ∧ ∃ y3 y4, forL (aTup (aCons (aN 3) (aCons (aN 4) (aNil)))) b1_looked (enF gs.length xs) (E_looked th (some (.val (.tup (gs.map gD ++ xs)))) TL x3 x4) = .ok .nx (E_looked th (some (.val (.tup (gs.map gD ++ xs)))) TL y3 y4)
    | .inl i => ∃ ρ, forL (aTup (aCons (aN 3) (aCons (aN 4) (aNil)))) b1_looked (enF gs.length xs) (E_looked th (some (.val (.tup (gs.map gD ++ xs)))) TL x3 x4) = .exc (nbX "guard" i) ρ := by
  intro xs
  induction xs with
  | nil =>
    intro gs ds x3 x4 h hl _
    exact ⟨h, by rw [List.append_nil], by simpa using hl, x3, x4, rfl⟩
  | cons d xs ih =>
    intro gs ds x3 x4 h hl ht
    have st := look_g1 h (by simp at hl; omega) (ht d (by simp)) xs th TL x3 x4
    have fl : forL (aTup (aCons (aN 3) (aCons (aN 4) (aNil)))) b1_looked (enF gs.length (d :: xs)) (E_looked th (some (.val (.tup (gs.map gD ++ d :: xs)))) TL x3 x4) = _ := forL_step _ _ _ _
    rw [st] at fl
    rw [fl]
    cases e : fitB gs ds d with
    | false =>
      have sc : scanG gs ds (d :: xs) = .inl gs.length := by show (if fitB gs ds d = true then _ else _) = _; rw [e]; rfl
      rw [sc]
      exact ⟨_, rfl⟩
    | true =>
      have sc : scanG gs ds (d :: xs) = scanG (gs ++ [gP d]) (ds ++ [nwd gs ds (gP d)]) xs := by show (if fitB gs ds d = true then _ else _) = _; rw [e]; rfl
      rw [sc]
      obtain ⟨G, ed, f⟩ := fitB_g e
      have ap : gs.map gD ++ d :: xs = (gs ++ [gP d]).map gD ++ xs := ap_map gD gs (gP d) d xs ed
      have i2 := ih (some (.val (.int (gs.length : Int)))) (some (.val d)) (fit_snoc h G f) (by simp at hl ⊢; omega) (fun z hz => ht z (by simp [hz]))
      rw [← ap] at i2
      have ln : (gs ++ [gP d]).length = gs.length + 1 := by simp
      rw [ln] at i2
      exact i2
theorem look_l1 {n : Nat} {gs : List Gd} {ls : List Ld} (hg : gs.length ≤ 16) (hl : ls.length < 24) {d : D} (hd : Th n d) (xs : List D) (th x3 x4 x5 : Option O) : fstep (aTup (aCons (aN 3) (aCons (aN 5) (aNil)))) b2_looked (.tup [.int (ls.length : Int), d]) (E_looked th (some (.val (.tup (gs.map gD)))) (some (.val (.tup (ls.map lD ++ d :: xs)))) x3 x4 x5) =
    if fitLB gs ls d = true then .ok .nx (E_looked th (some (.val (.tup (gs.map gD)))) (some (.val (.tup (ls.map lD ++ d :: xs)))) (some (.val (.int (ls.length : Int)))) x4 (some (.val d))) else .exc (nbX "load" ls.length) (E_looked th (some (.val (.tup (gs.map gD)))) (some (.val (.tup (ls.map lD ++ d :: xs)))) (some (.val (.int (ls.length : Int)))) x4 (some (.val d))) := by
  have f := lfits_any hg hl hd
  have c := cut_ls (ls := ls) (xs := xs) d
  have r := rfK_nb "load" ls.length
  generalize D.tup (ls.map lD ++ d :: xs) = T at *
  generalize D.tup (ls.map lD) = TL at *
  generalize D.tup (gs.map gD) = TG at *
  cases e : fitLB gs ls d <;> rw [e] at f
  · simp [b2_looked, c, f, r]
  · simp [b2_looked, c, f]
theorem fitLB_l {gs : List Gd} {ls : List Ld} {d : D} (h : fitLB gs ls d = true) : LOk (lP d) ∧ d = lD (lP d) ∧ fitL gs ls (lP d) = true := by
  unfold fitLB at h
  rw [Bool.and_eq_true] at h
  exact ⟨(loadB_l h.1).1, (loadB_l h.1).2, h.2⟩
theorem look_ls {n : Nat} {gs : List Gd} (hg : gs.length ≤ 16) (th x4 : Option O) : ∀ (xs : List D) {ls : List Ld} (x3 x5 : Option O), ls.length + xs.length ≤ 24 → (∀ d ∈ xs, Th n d) →
    match scanL gs ls xs with
    | none => ∃ y3 y5, forL (aTup (aCons (aN 3) (aCons (aN 5) (aNil)))) b2_looked (enF ls.length xs) (E_looked th (some (.val (.tup (gs.map gD)))) (some (.val (.tup (ls.map lD ++ xs)))) x3 x4 x5) = .ok .nx (E_looked th (some (.val (.tup (gs.map gD)))) (some (.val (.tup (ls.map lD ++ xs)))) y3 x4 y5)
    | some i => ∃ ρ, forL (aTup (aCons (aN 3) (aCons (aN 5) (aNil)))) b2_looked (enF ls.length xs) (E_looked th (some (.val (.tup (gs.map gD)))) (some (.val (.tup (ls.map lD ++ xs)))) x3 x4 x5) = .exc (nbX "load" i) ρ := by
  intro xs
  induction xs with
  | nil => intro ls x3 x5 _ _; exact ⟨x3, x5, rfl⟩
  | cons d xs ih =>
    intro ls x3 x5 hl ht
    have st := look_l1 (gs := gs) (ls := ls) hg (by simp at hl; omega) (ht d (by simp)) xs th x3 x4 x5
    have fl : forL (aTup (aCons (aN 3) (aCons (aN 5) (aNil)))) b2_looked (enF ls.length (d :: xs)) (E_looked th (some (.val (.tup (gs.map gD)))) (some (.val (.tup (ls.map lD ++ d :: xs)))) x3 x4 x5) = _ := forL_step _ _ _ _
    rw [st] at fl
    rw [fl]
    cases e : fitLB gs ls d with
    | false =>
      have sc : scanL gs ls (d :: xs) = some ls.length := by show (if fitLB gs ls d = true then _ else _) = _; rw [e]; rfl
      rw [sc]
      exact ⟨_, rfl⟩
    | true =>
      have sc : scanL gs ls (d :: xs) = scanL gs (ls ++ [lP d]) xs := by show (if fitLB gs ls d = true then _ else _) = _; rw [e]; rfl
      rw [sc]
      obtain ⟨_, ed, f⟩ := fitLB_l e
      have ap : ls.map lD ++ d :: xs = (ls ++ [lP d]).map lD ++ xs := ap_map lD ls (lP d) d xs ed
      have i2 := ih (ls := ls ++ [lP d]) (some (.val (.int (ls.length : Int)))) (some (.val d)) (by simp at hl ⊢; omega) (fun z hz => ht z (by simp [hz]))
      rw [← ap] at i2
      have ln : (ls ++ [lP d]).length = ls.length + 1 := by simp
      rw [ln] at i2
      exact i2
/-! the law's own look -/
theorem due_g1 {n : Nat} {gs : List Gd} {ds : List Nat} (h : GsOk gs ds) (hl : gs.length < 16) {d : D} (hd : Th n d) (th x3 x4 : Option O) : fstep (aTup (aCons (aN 3) (aCons (aN 4) (aNil)))) b1__law_due (.tup [.int (gs.length : Int), d]) (E__law_due th (some (dO (nmsG gs) ds)) none x3 x4) =
    if fitB gs ds d = true then .ok .nx (E__law_due th (some (dO (nmsG (gs ++ [gP d])) (ds ++ [nwd gs ds (gP d)]))) none (some (.val (.int (gs.length : Int)))) (some (.val d))) else .ok (.ret (.val (.tup [.str "guard", .int (gs.length : Int)]))) (E__law_due th (some (dO (nmsG gs) ds)) none (some (.val (.int (gs.length : Int)))) (some (.val d))) := by
  have ok := row_guard hd
  cases hb : guardB d with
  | false =>
    have fb : fitB gs ds d = false := by unfold fitB; rw [hb]; rfl
    rw [fb]
    rw [hb] at ok
    generalize dO (nmsG gs) ds = DD at *
    simp [b1__law_due, ok]
  | true =>
    have fb : fitB gs ds d = fitG gs ds (gP d) := by unfold fitB; rw [hb]; rfl
    rw [fb]
    rw [hb] at ok
    obtain ⟨G, e⟩ := guardB_g hb
    generalize gP d = g at *
    subst e
    have g0 := gD_0 g
    have g1 := gD_1 g
    have i1 := in_dO (nmsG gs) ds g.nm
    by_cases hno : g.nm ∈ nmsG gs
    · rw [decide_eq_true hno] at i1
      have ff : fitG gs ds g = false := by unfold fitG; rw [decide_eq_true hno]; rfl
      rw [ff]
      generalize dO (nmsG gs) ds = DD at *
      generalize gD g = GG at *
      simp [b1__law_due, ok, g0, i1]
    · rw [decide_eq_false hno] at i1
      have nl : (nmsG gs).length < 1000 := by unfold nmsG; rw [List.length_map]; omega
      have pu := fun v : Nat => dO_put (ds := ds) (v := v) hno nl
      have an : nmsG (gs ++ [g]) = nmsG gs ++ [g.nm] := by unfold nmsG; rw [List.map_append]; rfl
      rw [an]
      cases hu : g.un with
      | none =>
        rw [hu] at g1
        have g1 : ixO (.val (gD g)) (.val (.int 1)) = some (.val .non) := g1
        have nn : notNO (.val .non) (.val .non) = some (.val (.bl false)) := rfl
        have ff : fitG gs ds g = true := by unfold fitG; rw [decide_eq_false hno, hu]; rfl
        have nw : nwd gs ds g = 1 := by simp [nwd, hu]
        have p1 := pu 1
        have p1 : setItO (dO (nmsG gs) ds) (.val (sD g.nm)) (.val (.int 1)) = some (dO (nmsG gs ++ [g.nm]) (ds ++ [1])) := p1
        have ge := get_dO0 (nmsG gs) ds 0
        rw [ff, nw]
        have do1 : dO (nmsG gs) ds = .dct (kD (nmsG gs)) (ds.map fun d : Nat => O.val (.int (d : Int))) := rfl
        generalize dO (nmsG gs ++ [g.nm]) (ds ++ [1]) = D2 at *
        generalize gD g = GG at *
        generalize dO (nmsG gs) ds = DD at *
        simp [b1__law_due, ok, g0, g1, i1, nn, ge, p1]
      | some l =>
        rw [hu] at g1
        have g1 : ixO (.val (gD g)) (.val (.int 1)) = some (.val (sD l)) := g1
        have nn : notNO (.val (sD l)) (.val .non) = some (.val (.bl true)) := rfl
        have ff : fitG gs ds g = decide ((dep (nmsG gs) ds l).getD 8 < 8) := by unfold fitG; rw [decide_eq_false hno, hu]; rfl
        have nw : nwd gs ds g = 1 + (dep (nmsG gs) ds l).getD 0 := by unfold nwd; rw [hu]
        have ge := get_dO (nmsG gs) ds l 0
        have g8 := get_dO (nmsG gs) ds l 8
        have g8 : getO (dO (nmsG gs) ds) (.val (sD l)) (.val (.int 8)) = _ := g8
        have ge : getO (dO (nmsG gs) ds) (.val (sD l)) (.val (.int 0)) = _ := ge
        have p1 := pu (1 + (dep (nmsG gs) ds l).getD 0)
        have cst : ((1 + (dep (nmsG gs) ds l).getD 0 : Nat) : Int) = 1 + (((dep (nmsG gs) ds l).getD 0 : Nat) : Int) := by omega
        rw [cst] at p1
        rw [ff, nw]
        generalize dO (nmsG gs ++ [g.nm]) (ds ++ [1 + (dep (nmsG gs) ds l).getD 0]) = D2 at *
        generalize (dep (nmsG gs) ds l).getD 0 = m0 at *
        generalize (dep (nmsG gs) ds l).getD 8 = m8 at *
        generalize gD g = GG at *
        generalize dO (nmsG gs) ds = DD at *
        by_cases h8 : m8 < 8
        · have h8' : ¬ (7 : Int) < (m8 : Int) := by omega
          simp [b1__law_due, ok, g0, g1, i1, nn, ge, g8, p1, h8, h8']
        · have h8' : (7 : Int) < (m8 : Int) := by omega
          simp [b1__law_due, ok, g0, g1, i1, nn, g8, h8, h8']

end Lw

namespace Lw
open PySem PySem.Spec L2 FB Wk
open PyProof.Rows hiding St
theorem due_gs {n : Nat} (th : Option O) : ∀ (xs : List D) {gs : List Gd} {ds : List Nat} (x3 x4 : Option O), GsOk gs ds → gs.length + xs.length ≤ 16 → (∀ d ∈ xs, Th n d) →
    match scanG gs ds xs with
    | .inr (gs', ds') => ∃ y3 y4, forL (aTup (aCons (aN 3) (aCons (aN 4) (aNil)))) b1__law_due (enF gs.length xs) (E__law_due th (some (dO (nmsG gs) ds)) none x3 x4) = .ok .nx (E__law_due th (some (dO (nmsG gs') ds')) none y3 y4)
    | .inl i => ∃ ρ, forL (aTup (aCons (aN 3) (aCons (aN 4) (aNil)))) b1__law_due (enF gs.length xs) (E__law_due th (some (dO (nmsG gs) ds)) none x3 x4) = .ok (.ret (.val (.tup [.str "guard", .int (i : Int)]))) ρ := by
  intro xs
  induction xs with
  | nil => intro gs ds x3 x4 h hl _; exact ⟨x3, x4, rfl⟩
  | cons d xs ih =>
    intro gs ds x3 x4 h hl ht
    have st := due_g1 h (by simp at hl; omega) (ht d (by simp)) th x3 x4
    have fl : forL (aTup (aCons (aN 3) (aCons (aN 4) (aNil)))) b1__law_due (enF gs.length (d :: xs)) (E__law_due th (some (dO (nmsG gs) ds)) none x3 x4) = _ := forL_step _ _ _ _
    rw [st] at fl
    rw [fl]
    cases e : fitB gs ds d with
    | false =>
      have sc : scanG gs ds (d :: xs) = .inl gs.length := by show (if fitB gs ds d = true then _ else _) = _; rw [e]; rfl
      rw [sc]
      exact ⟨_, rfl⟩
    | true =>
      have sc : scanG gs ds (d :: xs) = scanG (gs ++ [gP d]) (ds ++ [nwd gs ds (gP d)]) xs := by show (if fitB gs ds d = true then _ else _) = _; rw [e]; rfl
      rw [sc]
      obtain ⟨G, ed, f⟩ := fitB_g e
      have i2 := ih (some (.val (.int (gs.length : Int)))) (some (.val d)) (fit_snoc h G f) (by simp at hl ⊢; omega) (fun z hz => ht z (by simp [hz]))
      have ln : (gs ++ [gP d]).length = gs.length + 1 := by simp
      rw [ln] at i2
      exact i2
/-- what the law has seen: the guards, then the loads so far -/
def seenO (gs : List Gd) (ds : List Nat) (ls : List Ld) : O := dO (nmsG gs ++ ls.map Ld.nm) (ds ++ ls.map fun _ => 1)
theorem due_l1 {n : Nat} {gs : List Gd} {ds : List Nat} {ls : List Ld} (hg : gs.length ≤ 16) (hl : ls.length < 24) {d : D} (hd : Th n d) (th x3 x4 x5 : Option O) : fstep (aTup (aCons (aN 3) (aCons (aN 5) (aNil)))) b2__law_due (.tup [.int (ls.length : Int), d]) (E__law_due th (some (dO (nmsG gs) ds)) (some (seenO gs ds ls)) x3 x4 x5) =
    if fitLB gs ls d = true then .ok .nx (E__law_due th (some (dO (nmsG gs) ds)) (some (seenO gs ds (ls ++ [lP d]))) (some (.val (.int (ls.length : Int)))) x4 (some (.val d))) else .ok (.ret (.val (.tup [.str "load", .int (ls.length : Int)]))) (E__law_due th (some (dO (nmsG gs) ds)) (some (seenO gs ds ls)) (some (.val (.int (ls.length : Int)))) x4 (some (.val d))) := by
  have ok := row_load hd
  cases hb : loadB d with
  | false =>
    have fb : fitLB gs ls d = false := by unfold fitLB; rw [hb]; rfl
    rw [fb]
    rw [hb] at ok
    generalize dO (nmsG gs) ds = DD at *
    generalize seenO gs ds ls = SS' at *
    simp [b2__law_due, ok]
  | true =>
    have fb : fitLB gs ls d = fitL gs ls (lP d) := by unfold fitLB; rw [hb]; rfl
    rw [fb]
    rw [hb] at ok
    obtain ⟨G, e⟩ := loadB_l hb
    generalize lP d = x at *
    subst e
    have g0 := lD_0 x
    have g1 := lD_1 x
    have i1 : inF (.val (sD x.nm)) (seenO gs ds ls) = _ := in_dO (nmsG gs ++ ls.map Ld.nm) (ds ++ ls.map fun _ => 1) x.nm
    have i2 := nin_dO (nmsG gs) ds x.pl
    have nl : (nmsG gs ++ ls.map Ld.nm).length < 1000 := by unfold nmsG; rw [List.length_append, List.length_map, List.length_map]; omega
    have mm : decide (x.nm ∈ nmsG gs ++ ls.map Ld.nm) = (decide (x.nm ∈ nmsG gs) || decide (x.nm ∈ ls.map Ld.nm)) := by
      rw [← Bool.decide_or]
      exact decide_eq_decide.mpr List.mem_append
    have ff : fitL gs ls x = (decide (x.pl ∈ nmsG gs) && !decide (x.nm ∈ nmsG gs ++ ls.map Ld.nm)) := by
      rw [mm, Bool.not_or]; rfl
    rw [ff]
    by_cases hno : x.nm ∈ nmsG gs ++ ls.map Ld.nm
    · rw [decide_eq_true hno] at i1
      rw [decide_eq_true hno, Bool.not_true, Bool.and_false]
      generalize dO (nmsG gs) ds = DD at *
      generalize seenO gs ds ls = SS' at *
      generalize lD x = GG at *
      simp [b2__law_due, ok, g0, i1]
    · rw [decide_eq_false hno] at i1
      rw [decide_eq_false hno, Bool.not_false, Bool.and_true]
      have pu := dO_put (ds := ds ++ ls.map fun _ => 1) (v := 1) hno nl
      have so : seenO gs ds (ls ++ [x]) = dO (nmsG gs ++ ls.map Ld.nm ++ [x.nm]) (ds ++ (ls.map fun _ => 1) ++ [1]) := by
        unfold seenO
        rw [List.map_append, List.map_append, List.append_assoc, List.append_assoc]; rfl
      have pu : setItO (seenO gs ds ls) (.val (sD x.nm)) (.val (.int 1)) = some (seenO gs ds (ls ++ [x])) := by rw [so]; exact pu
      generalize decide (x.pl ∈ nmsG gs) = c at *
      generalize dO (nmsG gs) ds = DD at *
      generalize seenO gs ds (ls ++ [x]) = S2 at *
      generalize seenO gs ds ls = SS' at *
      generalize lD x = GG at *
      cases c
      · simp [b2__law_due, ok, g0, g1, i1, i2]
      · simp [b2__law_due, ok, g0, g1, i1, i2, pu]
theorem due_ls {n : Nat} {gs : List Gd} {ds : List Nat} (hg : gs.length ≤ 16) (th x4 : Option O) : ∀ (xs : List D) {ls : List Ld} (x3 x5 : Option O), ls.length + xs.length ≤ 24 → (∀ d ∈ xs, Th n d) →
    match scanL gs ls xs with
    | none => ∃ y2 y3 y5, forL (aTup (aCons (aN 3) (aCons (aN 5) (aNil)))) b2__law_due (enF ls.length xs) (E__law_due th (some (dO (nmsG gs) ds)) (some (seenO gs ds ls)) x3 x4 x5) = .ok .nx (E__law_due th (some (dO (nmsG gs) ds)) y2 y3 x4 y5)
    | some i => ∃ ρ, forL (aTup (aCons (aN 3) (aCons (aN 5) (aNil)))) b2__law_due (enF ls.length xs) (E__law_due th (some (dO (nmsG gs) ds)) (some (seenO gs ds ls)) x3 x4 x5) = .ok (.ret (.val (.tup [.str "load", .int (i : Int)]))) ρ := by
  intro xs
  induction xs with
  | nil => intro ls x3 x5 _ _; exact ⟨_, x3, x5, rfl⟩
  | cons d xs ih =>
    intro ls x3 x5 hl ht
    have st := due_l1 (gs := gs) (ds := ds) (ls := ls) hg (by simp at hl; omega) (ht d (by simp)) th x3 x4 x5
    have fl : forL (aTup (aCons (aN 3) (aCons (aN 5) (aNil)))) b2__law_due (enF ls.length (d :: xs)) (E__law_due th (some (dO (nmsG gs) ds)) (some (seenO gs ds ls)) x3 x4 x5) = _ := forL_step _ _ _ _
    rw [st] at fl
    rw [fl]
    cases e : fitLB gs ls d with
    | false =>
      have sc : scanL gs ls (d :: xs) = some ls.length := by show (if fitLB gs ls d = true then _ else _) = _; rw [e]; rfl
      rw [sc]
      exact ⟨_, rfl⟩
    | true =>
      have sc : scanL gs ls (d :: xs) = scanL gs (ls ++ [lP d]) xs := by show (if fitLB gs ls d = true then _ else _) = _; rw [e]; rfl
      rw [sc]
      have i2 := ih (ls := ls ++ [lP d]) (some (.val (.int (ls.length : Int)))) (some (.val d)) (by simp at hl ⊢; omega) (fun z hz => ht z (by simp [hz]))
      have ln : (ls ++ [lP d]).length = ls.length + 1 := by simp
      rw [ln] at i2
      exact i2
/-! the whole -/
def wrongS (xs ys : List D) : Option (Str × Nat) := match scanG [] [] xs with
  | .inl i => some ("guard", i)
  | .inr (gs, _) => (scanL gs [] ys).map fun i => ("load", i)
def dueS : D → Option (Str × Nat)
  | .tup [.tup xs, .tup ys] => if (1 ≤ xs.length ∧ xs.length ≤ 16) ∧ ys.length ≤ 24 then wrongS xs ys else some ("board", 0)
  | _ => some ("board", 0)
def dueD : Option (Str × Nat) → D
  | none => .non
  | some (w, i) => .tup [.str w, .int (i : Int)]
def lookR (q : Option (Str × Nat)) : Res O := match q with
  | none => .ok (.val (.bl true)) [none]
  | some (w, i) => .exc (nbX w i) [none]
theorem dictC_dO (ms : List (List Nat)) (ds : List Nat) (ρ : FB.Env) : dcA ρ (some (dO ms ds)) = .ok (dO ms ds) ρ := by
  have e : dctSh (dO ms ds) = some (kD ms, ds.map fun d : Nat => D.int (d : Int)) := by
    have q : (ds.map fun d : Nat => O.val (.int (d : Int))) = (ds.map fun d : Nat => D.int (d : Int)).map O.val := by rw [List.map_map]; rfl
    have s : (dO ms ds).sh = some (.dct (kD ms) (ds.map fun d : Nat => D.int (d : Int))) := by
      show (vals? (ds.map fun d : Nat => O.val (.int (d : Int)))).map (D.dct (kD ms)) = _
      rw [q, vals?_map]; rfl
    unfold dctSh
    rw [s]
  rw [e_dcA, e, e_dcK]
  unfold dO
  rw [List.map_map]; rfl

end Lw

namespace Lw
open PySem PySem.Spec L2 FB Wk
open PyProof.Rows hiding St
/-! looked, and the law's own look, of any thing -/
def isT : D → Bool
  | .tup _ => true
  | _ => false
theorem isi_t (d : D) (h : tyB d = true) : isiO "tuple" (.val d) = some (.val (.bl (isT d))) := by
  cases d <;> first | rfl | cases h
theorem isT_of {d : D} (h : isT d = true) : ∃ xs, d = .tup xs := by
  cases d with
  | tup xs => exact ⟨xs, rfl⟩
  | _ => cases h
theorem two {ds : List D} (h : ds.length = 2) : ∃ p q, ds = [p, q] := by
  match ds, h with
  | [p, q], _ => exact ⟨p, q, rfl⟩
theorem due_not {d : D} (h : ∀ xs ys, d ≠ .tup [.tup xs, .tup ys]) : dueS d = some (("board" : Str), 0) := by
  unfold dueS
  split
  · rename_i xs ys
    exact absurd rfl (h xs ys)
  · rfl
theorem due_len {ds : List D} (h : ¬ ds.length = 2) : dueS (.tup ds) = some (("board" : Str), 0) := due_not fun xs ys z => by
  cases z; exact h rfl
theorem due_pq {p q : D} (h : isT p = false ∨ isT q = false) : dueS (.tup [p, q]) = some (("board" : Str), 0) := due_not fun xs ys z => by
  cases z
  rcases h with h | h <;> cases h
theorem due_pl {xs ys : List D} (h : ¬ ((1 ≤ xs.length ∧ xs.length ≤ 16) ∧ ys.length ≤ 24)) : dueS (.tup [.tup xs, .tup ys]) = some (("board" : Str), 0) := if_neg h
theorem due_pk {xs ys : List D} (h : (1 ≤ xs.length ∧ xs.length ≤ 16) ∧ ys.length ≤ 24) : dueS (.tup [.tup xs, .tup ys]) = wrongS xs ys := if_pos h
theorem lk_rows {n : Nat} {xs ys : List D} (th : Option O) (hx : xs.length ≤ 16) (hy : ys.length ≤ 24) (tx : ∀ d ∈ xs, Th n d) (ty : ∀ d ∈ ys, Th n d) :
    (wrongS xs ys = none ∧ ∃ y3 y4 y5 y6, forL (aTup (aCons (aN 3) (aCons (aN 4) (aNil)))) b1_looked (enumL xs) (E_looked th (some (.val (.tup xs))) (some (.val (.tup ys)))) = .ok .nx (E_looked th (some (.val (.tup xs))) (some (.val (.tup ys))) y3 y4) ∧ forL (aTup (aCons (aN 3) (aCons (aN 5) (aNil)))) b2_looked (enumL ys) (E_looked th (some (.val (.tup xs))) (some (.val (.tup ys))) y3 y4) = .ok .nx (E_looked th (some (.val (.tup xs))) (some (.val (.tup ys))) y5 y4 y6)) ∨
    (∃ i, wrongS xs ys = some (("guard" : Str), i) ∧ ∃ ρ, forL (aTup (aCons (aN 3) (aCons (aN 4) (aNil)))) b1_looked (enumL xs) (E_looked th (some (.val (.tup xs))) (some (.val (.tup ys)))) = .exc (nbX "guard" i) ρ) ∨
    (∃ i, wrongS xs ys = some (("load" : Str), i) ∧ ∃ y3 y4 ρ, forL (aTup (aCons (aN 3) (aCons (aN 4) (aNil)))) b1_looked (enumL xs) (E_looked th (some (.val (.tup xs))) (some (.val (.tup ys)))) = .ok .nx (E_looked th (some (.val (.tup xs))) (some (.val (.tup ys))) y3 y4) ∧ forL (aTup (aCons (aN 3) (aCons (aN 5) (aNil)))) b2_looked (enumL ys) (E_looked th (some (.val (.tup xs))) (some (.val (.tup ys))) y3 y4) = .exc (nbX "load" i) ρ) := by
  rw [enumL_enF, enumL_enF]
  have lg := look_gs (n := n) th (some (.val (.tup ys))) xs (gs := []) (ds := []) none none GsOk.nil (by simpa using hx) tx
  unfold wrongS
  cases hs : scanG [] [] xs with
  | inl i =>
    rw [hs] at lg
    obtain ⟨ρ, lg⟩ := lg
    exact .inr (.inl ⟨i, rfl, ρ, lg⟩)
  | inr p =>
    obtain ⟨gs, ds⟩ := p
    rw [hs] at lg
    obtain ⟨ok, ex, l16, y3, y4, lg⟩ := lg
    have ex : xs = gs.map gD := ex
    have lg : forL (aTup (aCons (aN 3) (aCons (aN 4) (aNil)))) b1_looked (enF 0 xs) (E_looked th (some (.val (.tup xs))) (some (.val (.tup ys)))) = .ok .nx (E_looked th (some (.val (.tup xs))) (some (.val (.tup ys))) y3 y4) := lg
    have ll := look_ls (n := n) (gs := gs) l16 th y4 ys (ls := []) y3 none (by simpa using hy) ty
    rw [← ex] at ll
    show (Option.map _ (scanL gs [] ys) = none ∧ _) ∨ (∃ i, Option.map _ (scanL gs [] ys) = _ ∧ _) ∨ (∃ i, Option.map _ (scanL gs [] ys) = _ ∧ _)
    cases hl : scanL gs [] ys with
    | none =>
      rw [hl] at ll
      obtain ⟨y5, y6, ll⟩ := ll
      exact .inl ⟨rfl, y3, y4, y5, y6, lg, ll⟩
    | some i =>
      rw [hl] at ll
      obtain ⟨ρ, ll⟩ := ll
      exact .inr (.inr ⟨i, rfl, y3, y4, ρ, lg, ll⟩)
theorem looked_any {n : Nat} {d : D} (hd : Th n d) : F_looked [.val d] = lookR (dueS d) := by
  have r0 : ∀ ρ : FB.Env, rfK "NoBoard" ["word", "number"] (.ok [.val (.str "board"), .val (.int 0)] ρ) = .exc (nbX "board" 0) ρ := fun ρ => rfK_nb "board" 0 ρ
  have hty := hd.ty
  have tT := isi_t d hty
  unfold F_looked
  rw [runX_eq]
  cases hT : isT d with
  | false =>
    rw [hT] at tT
    rw [due_not fun xs ys z => by rw [z] at hT; cases hT]
    generalize d = T at *
    simp [b_looked, tT, r0]
    rfl
  | true =>
    rw [hT] at tT
    obtain ⟨ds, rfl⟩ := isT_of hT
    by_cases h2 : ds.length = 2
    · obtain ⟨p, q, rfl⟩ := two h2
      have hp := hd.tup p (by simp)
      have hq := hd.tup q (by simp)
      have tp := isi_t p hp.ty
      have tq := isi_t q hq.ty
      have ln : lenO (.val (.tup [p, q])) = some (.val (.int 2)) := by simp
      have it : (D.tup [p, q]).items? = some [p, q] := rfl
      have asg : ∀ ρ : FB.Env, aTup (aCons (aN 1) (aCons (aN 2) aNil)) (.tup [p, q]) ρ = some ((ρ.set 1 (some (.val p))).set 2 (some (.val q))) := fun ρ => by simp
      have qq : q1_looked [some (.val (.tup [p, q])), none, none, none, none, none, none] = .ok (.lst [.val (.bl (isT p)), .val (.bl (isT q))]) [some (.val (.tup [p, q])), none, none, none, none, none, none] := by
        generalize D.tup [p, q] = T at *
        simp [q1_looked, it, compL, tp, tq]
      have al : allO (.lst [.val (.bl (isT p)), .val (.bl (isT q))]) = some (.val (.bl (isT p && isT q))) := by
        cases isT p <;> cases isT q <;> rfl
      cases hpq : (isT p && isT q) with
      | false =>
        rw [hpq] at al
        rw [due_pq (by revert hpq; cases isT p <;> cases isT q <;> simp)]
        generalize O.lst [.val (.bl (isT p)), .val (.bl (isT q))] = LL at *
        generalize D.tup [p, q] = T at *
        simp [b_looked, tT, ln, qq, al, r0]
        rfl
      | true =>
        rw [hpq] at al
        rw [Bool.and_eq_true] at hpq
        obtain ⟨xs, rfl⟩ := isT_of hpq.1
        obtain ⟨ys, rfl⟩ := isT_of hpq.2
        have lx : lenO (.val (.tup xs)) = some (.val (.int (xs.length : Int))) := rfl
        have ly : lenO (.val (.tup ys)) = some (.val (.int (ys.length : Int))) := rfl
        have en1 : ∀ ρ, enE ρ (.tup xs) = .ok (enumL xs) ρ := fun ρ => rfl
        have en2 : ∀ ρ, enE ρ (.tup ys) = .ok (enumL ys) ρ := fun ρ => rfl
        by_cases hb : (1 ≤ xs.length ∧ xs.length ≤ 16) ∧ ys.length ≤ 24
        · rw [due_pk hb]
          have rows := lk_rows (n := n) (xs := xs) (ys := ys) (some (.val (.tup [.tup xs, .tup ys]))) hb.1.2 hb.2 (fun z hz => hp.tup z hz) (fun z hz => hq.tup z hz)
          have b1 : (1 : Int) ≤ (xs.length : Int) := by omega
          have b2 : (xs.length : Int) ≤ 16 := by omega
          have b3 : ¬ (24 : Int) < (ys.length : Int) := by omega
          generalize wrongS xs ys = W at *
          generalize (xs.length : Int) = nx1 at *
          generalize (ys.length : Int) = nx2 at *
          generalize enumL xs = EG at *
          generalize enumL ys = EL at *
          generalize O.lst [.val (.bl (isT (.tup xs))), .val (.bl (isT (.tup ys)))] = LL at *
          generalize D.tup [.tup xs, .tup ys] = T at *
          generalize D.tup xs = TG at *
          generalize D.tup ys = TL at *
          rcases rows with ⟨hw, y3, y4, y5, y6, f1, f2⟩ | ⟨i, hw, ρ, f1⟩ | ⟨i, hw, y3, y4, ρ, f1, f2⟩
          · subst hw
            simp [b_looked, tT, ln, qq, al, asg, lx, ly, b1, b2, b3, en1, f1, en2, f2]
            rfl
          · subst hw
            simp [b_looked, tT, ln, qq, al, asg, lx, ly, b1, b2, b3, en1, f1]
            rfl
          · subst hw
            simp [b_looked, tT, ln, qq, al, asg, lx, ly, b1, b2, b3, en1, f1, en2, f2]
            rfl
        · rw [due_pl hb]
          have b : ¬ ((1 : Int) ≤ (xs.length : Int)) ∨ ((1 : Int) ≤ (xs.length : Int) ∧ ¬ ((xs.length : Int) ≤ 16)) ∨ ((1 : Int) ≤ (xs.length : Int) ∧ (xs.length : Int) ≤ 16 ∧ (24 : Int) < (ys.length : Int)) := by omega
          generalize (xs.length : Int) = nx1 at *
          generalize (ys.length : Int) = nx2 at *
          generalize O.lst [.val (.bl (isT (.tup xs))), .val (.bl (isT (.tup ys)))] = LL at *
          generalize D.tup [.tup xs, .tup ys] = T at *
          generalize D.tup xs = TG at *
          generalize D.tup ys = TL at *
          rcases b with b1 | ⟨b1, b2⟩ | ⟨b1, b2, b3⟩
          · simp [b_looked, tT, ln, qq, al, asg, lx, ly, b1, r0]
            rfl
          · simp [b_looked, tT, ln, qq, al, asg, lx, ly, b1, b2, r0]
            rfl
          · simp [b_looked, tT, ln, qq, al, asg, lx, ly, b1, b2, b3, r0]
            rfl
    · rw [due_len h2]
      have ln : lenO (.val (.tup ds)) = some (.val (.int (ds.length : Int))) := rfl
      have ne : ¬ ((ds.length : Int) = 2) := by omega
      generalize (ds.length : Int) = NN at *
      generalize D.tup ds = T at *
      simp [b_looked, tT, ln, ne, r0]
      rfl
theorem du_rows {n : Nat} {xs ys : List D} (th : Option O) (hx : xs.length ≤ 16) (hy : ys.length ≤ 24) (tx : ∀ d ∈ xs, Th n d) (ty : ∀ d ∈ ys, Th n d) :
    (wrongS xs ys = none ∧ ∃ D1 D2 y2 y3 y4 y5 y6, forL (aTup (aCons (aN 3) (aCons (aN 4) (aNil)))) b1__law_due (enumL xs) (E__law_due th (some (.dct [] []))) = .ok .nx (E__law_due th (some D1) none y3 y4) ∧ (∀ ρ, dcA ρ (some D1) = .ok D2 ρ) ∧ forL (aTup (aCons (aN 3) (aCons (aN 5) (aNil)))) b2__law_due (enumL ys) (E__law_due th (some D1) (some D2) y3 y4) = .ok .nx (E__law_due th (some D1) y2 y5 y4 y6)) ∨
    (∃ i, wrongS xs ys = some (("guard" : Str), i) ∧ ∃ ρ, forL (aTup (aCons (aN 3) (aCons (aN 4) (aNil)))) b1__law_due (enumL xs) (E__law_due th (some (.dct [] []))) = .ok (.ret (.val (.tup [.str "guard", .int (i : Int)]))) ρ) ∨
    (∃ i, wrongS xs ys = some (("load" : Str), i) ∧ ∃ D1 D2 y3 y4 ρ, forL (aTup (aCons (aN 3) (aCons (aN 4) (aNil)))) b1__law_due (enumL xs) (E__law_due th (some (.dct [] []))) = .ok .nx (E__law_due th (some D1) none y3 y4) ∧ (∀ ρ, dcA ρ (some D1) = .ok D2 ρ) ∧ forL (aTup (aCons (aN 3) (aCons (aN 5) (aNil)))) b2__law_due (enumL ys) (E__law_due th (some D1) (some D2) y3 y4) = .ok (.ret (.val (.tup [.str "load", .int (i : Int)]))) ρ) := by
  rw [enumL_enF, enumL_enF]
  have lg := due_gs (n := n) th xs (gs := []) (ds := []) none none GsOk.nil (by simpa using hx) tx
  have lg0 := look_gs (n := n) th none xs (gs := []) (ds := []) none none GsOk.nil (by simpa using hx) tx
  unfold wrongS
  cases hs : scanG [] [] xs with
  | inl i =>
    rw [hs] at lg
    obtain ⟨ρ, lg⟩ := lg
    exact .inr (.inl ⟨i, rfl, ρ, lg⟩)
  | inr p =>
    obtain ⟨gs, ds⟩ := p
    rw [hs] at lg lg0
    obtain ⟨ok, ex, l16, _⟩ := lg0
    obtain ⟨y3, y4, lg⟩ := lg
    have lg : forL (aTup (aCons (aN 3) (aCons (aN 4) (aNil)))) b1__law_due (enF 0 xs) (E__law_due th (some (.dct [] []))) = .ok .nx (E__law_due th (some (dO (nmsG gs) ds)) none y3 y4) := lg
    have sn : seenO gs ds [] = dO (nmsG gs) ds := by unfold seenO; rw [List.map_nil, List.append_nil, List.map_nil, List.append_nil]
    have ll := due_ls (n := n) (gs := gs) (ds := ds) l16 th y4 ys (ls := []) y3 none (by simpa using hy) ty
    rw [sn] at ll
    have dc := dictC_dO (nmsG gs) ds
    show (Option.map _ (scanL gs [] ys) = none ∧ _) ∨ (∃ i, Option.map _ (scanL gs [] ys) = _ ∧ _) ∨ (∃ i, Option.map _ (scanL gs [] ys) = _ ∧ _)
    cases hl : scanL gs [] ys with
    | none =>
      rw [hl] at ll
      obtain ⟨y2, y5, y6, ll⟩ := ll
      exact .inl ⟨rfl, _, _, y2, y3, y4, y5, y6, lg, dc, ll⟩
    | some i =>
      rw [hl] at ll
      obtain ⟨ρ, ll⟩ := ll
      exact .inr (.inr ⟨i, rfl, _, _, y3, y4, ρ, lg, dc, ll⟩)
theorem due_any {n : Nat} {d : D} (hd : Th n d) : F__law_due [.val d] = some (.val (dueD (dueS d)), [none]) := by
  have hty := hd.ty
  have tT := isi_t d hty
  have db : dueD (some (("board" : Str), 0)) = .tup [.str "board", .int 0] := rfl
  unfold F__law_due
  rw [runF_eq]
  cases hT : isT d with
  | false =>
    rw [hT] at tT
    rw [due_not fun xs ys z => by rw [z] at hT; cases hT]
    generalize d = T at *
    simp [b__law_due, tT, db]
    first | rfl | exact ⟨rfl, rfl⟩
  | true =>
    rw [hT] at tT
    obtain ⟨ds, rfl⟩ := isT_of hT
    by_cases h2 : ds.length = 2
    · obtain ⟨p, q, rfl⟩ := two h2
      have hp := hd.tup p (by simp)
      have hq := hd.tup q (by simp)
      have tp := isi_t p hp.ty
      have tq := isi_t q hq.ty
      have ln : lenO (.val (.tup [p, q])) = some (.val (.int 2)) := by simp
      have i0 : ixO (.val (.tup [p, q])) (.val (.int 0)) = some (.val p) := by simp
      have i1 : ixO (.val (.tup [p, q])) (.val (.int 1)) = some (.val q) := by simp
      cases hp0 : isT p with
      | false =>
        rw [hp0] at tp
        rw [due_pq (.inl hp0)]
        generalize D.tup [p, q] = T at *
        simp [b__law_due, tT, ln, i0, tp, db]
        first | rfl | exact ⟨rfl, rfl⟩
      | true =>
        rw [hp0] at tp
        cases hq0 : isT q with
        | false =>
          rw [hq0] at tq
          rw [due_pq (.inr hq0)]
          generalize D.tup [p, q] = T at *
          simp [b__law_due, tT, ln, i0, i1, tp, tq, db]
          first | rfl | exact ⟨rfl, rfl⟩
        | true =>
          rw [hq0] at tq
          obtain ⟨xs, rfl⟩ := isT_of hp0
          obtain ⟨ys, rfl⟩ := isT_of hq0
          have lx : lenO (.val (.tup xs)) = some (.val (.int (xs.length : Int))) := rfl
          have ly : lenO (.val (.tup ys)) = some (.val (.int (ys.length : Int))) := rfl
          have en1 : ∀ ρ, enE ρ (.tup xs) = .ok (enumL xs) ρ := fun ρ => rfl
          have en2 : ∀ ρ, enE ρ (.tup ys) = .ok (enumL ys) ρ := fun ρ => rfl
          by_cases hb : (1 ≤ xs.length ∧ xs.length ≤ 16) ∧ ys.length ≤ 24
          · rw [due_pk hb]
            have rows := du_rows (n := n) (xs := xs) (ys := ys) (some (.val (.tup [.tup xs, .tup ys]))) hb.1.2 hb.2 (fun z hz => hp.tup z hz) (fun z hz => hq.tup z hz)
            have b1 : (1 : Int) ≤ (xs.length : Int) := by omega
            have b2 : (xs.length : Int) ≤ 16 := by omega
            have b3 : ¬ (24 : Int) < (ys.length : Int) := by omega
            generalize wrongS xs ys = W at *
            generalize (xs.length : Int) = nx1 at *
            generalize (ys.length : Int) = nx2 at *
            generalize enumL xs = EG at *
            generalize enumL ys = EL at *
            generalize D.tup [.tup xs, .tup ys] = T at *
            generalize D.tup xs = TG at *
            generalize D.tup ys = TL at *
            rcases rows with ⟨hw, D1, D2, y2, y3, y4, y5, y6, f1, dc, f2⟩ | ⟨i, hw, ρ, f1⟩ | ⟨i, hw, D1, D2, y3, y4, ρ, f1, dc, f2⟩
            · subst hw
              simp [-e_dcA, b__law_due, tT, ln, i0, i1, tp, tq, lx, ly, b1, b2, b3, en1, f1, dc, en2, f2]
              first | rfl | exact ⟨rfl, rfl⟩
            · subst hw
              simp [-e_dcA, b__law_due, tT, ln, i0, i1, tp, tq, lx, ly, b1, b2, b3, en1, f1]
              first | rfl | exact ⟨rfl, rfl⟩
            · subst hw
              simp [-e_dcA, b__law_due, tT, ln, i0, i1, tp, tq, lx, ly, b1, b2, b3, en1, f1, dc, en2, f2]
              first | rfl | exact ⟨rfl, rfl⟩
          · rw [due_pl hb]
            have b : ¬ ((1 : Int) ≤ (xs.length : Int)) ∨ ((1 : Int) ≤ (xs.length : Int) ∧ ¬ ((xs.length : Int) ≤ 16)) ∨ ((1 : Int) ≤ (xs.length : Int) ∧ (xs.length : Int) ≤ 16 ∧ (24 : Int) < (ys.length : Int)) := by omega
            generalize (xs.length : Int) = nx1 at *
            generalize (ys.length : Int) = nx2 at *
            generalize D.tup [.tup xs, .tup ys] = T at *
            generalize D.tup xs = TG at *
            generalize D.tup ys = TL at *
            rcases b with b1 | ⟨b1, b2⟩ | ⟨b1, b2, b3⟩
            · simp [b__law_due, tT, ln, i0, i1, tp, tq, lx, ly, b1, db]
              first | rfl | exact ⟨rfl, rfl⟩
            · simp [b__law_due, tT, ln, i0, i1, tp, tq, lx, ly, b1, b2, db]
              first | rfl | exact ⟨rfl, rfl⟩
            · simp [b__law_due, tT, ln, i0, i1, tp, tq, lx, ly, b1, b2, b3, db]
              first | rfl | exact ⟨rfl, rfl⟩
    · rw [due_len h2]
      have ln : lenO (.val (.tup ds)) = some (.val (.int (ds.length : Int))) := rfl
      have ne : ¬ ((ds.length : Int) = 2) := by omega
      generalize (ds.length : Int) = NN at *
      generalize D.tup ds = T at *
      simp [b__law_due, tT, ln, ne, db]
      first | rfl | exact ⟨rfl, rfl⟩

end Lw

namespace Lw
open PySem PySem.Spec L2 FB Wk
open PyProof.Rows hiding St
/-! the law's judge of any thing -/
theorem scanG_lt : ∀ (xs : List D) (gs : List Gd) (ds : List Nat) (i : Nat), scanG gs ds xs = .inl i → i ≤ gs.length + xs.length
  | [], gs, ds, i, h => by cases h
  | d :: xs, gs, ds, i, h => by
    unfold scanG at h
    split at h
    · have := scanG_lt xs _ _ i h
      simp at this ⊢; omega
    · cases h; simp
theorem scanL_lt : ∀ (xs : List D) (gs : List Gd) (ls : List Ld) (i : Nat), scanL gs ls xs = some i → i ≤ ls.length + xs.length
  | [], gs, ls, i, h => by cases h
  | d :: xs, gs, ls, i, h => by
    unfold scanL at h
    split at h
    · have := scanL_lt xs _ _ i h
      simp at this ⊢; omega
    · cases h; simp
theorem dueS_ok {d : D} {w : Str} {i : Nat} (h : dueS d = some (w, i)) : i ≤ 24 ∧ (w = "board" ∨ w = "guard" ∨ w = "load") := by
  unfold dueS at h
  split at h
  · rename_i xs ys
    split at h
    · rename_i hb
      unfold wrongS at h
      split at h
      · rename_i j hs
        cases h
        have := scanG_lt _ _ _ _ hs
        simp at this
        exact ⟨by omega, .inr (.inl rfl)⟩
      · rename_i gs ds hs
        cases hl : scanL gs [] ys with
        | none => rw [hl] at h; cases h
        | some j =>
          rw [hl] at h
          cases h
          have := scanL_lt _ _ _ _ hl
          simp at this
          exact ⟨by omega, .inr (.inr rfl)⟩
    · cases h; exact ⟨by omega, .inl rfl⟩
  · cases h; exact ⟨by omega, .inl rfl⟩
theorem dueD_th {d : D} : Th 1 (dueD (dueS d)) := by
  cases h : dueS d with
  | none => exact ⟨rfl, by decide⟩
  | some q =>
    obtain ⟨w, i⟩ := q
    obtain ⟨hi, hw⟩ := dueS_ok h
    have fi : D.fit 0 (.int (i : Int)) = true := by
      show decide _ = true
      rw [decide_eq_true_eq, Int.natAbs_natCast]
      omega
    rcases hw with rfl | rfl | rfl
    · exact ⟨by show (D.fit 0 (.str "board") && (D.fit 0 (.int (i : Int)) && true)) = true; rw [fi]; rfl, by show 10 * _ + 8 + 2 + (64 + 2 + 0) + 3 ≤ 1000000; decide⟩
    · exact ⟨by show (D.fit 0 (.str "guard") && (D.fit 0 (.int (i : Int)) && true)) = true; rw [fi]; rfl, by show 10 * _ + 8 + 2 + (64 + 2 + 0) + 3 ≤ 1000000; decide⟩
    · exact ⟨by show (D.fit 0 (.str "load") && (D.fit 0 (.int (i : Int)) && true)) = true; rw [fi]; rfl, by show 10 * _ + 8 + 2 + (64 + 2 + 0) + 3 ≤ 1000000; decide⟩
theorem right_any {n : Nat} {d : D} (hd : Th n d) (hn : n ≤ 150) : F__law_right [.val d] = some (.val (.bl true), [none]) := by
  have e1 := due_any hd
  have e2 := looked_any hd
  have r1 : reprA (.val d) = some (.val (.str d.pq.shown)) := hd.rep_eq (a := .val d) rfl hn
  have r0 : reprA (.val (dueD (dueS d))) = some (.val (.str (dueD (dueS d)).pq.shown)) := (dueD_th (d := d)).rep_eq (a := .val (dueD (dueS d))) rfl (by decide)
  have ib : isB1 true (.val (.bl true)) = some (.val (.bl true)) := rfl
  have er : ∀ s : Str, eqO (.val (.str s)) (.val (.str s)) = some (.val (.bl true)) := fun s => by rw [eqO_str]; simp
  have s1 : subX es "NoBoard" "BoardError" = some true := by decide +kernel
  unfold F__law_right
  rw [runF_eq]
  cases q : dueS d with
  | none =>
    rw [q] at e1 e2 r0
    have e2 : F_looked [.val d] = .ok (.val (.bl true)) [none] := e2
    have e1 : F__law_due [.val d] = some (.val .non, [none]) := e1
    have r2 : reprA (.val .non) = some (.val (.str (dueD none).pq.shown)) := r0
    generalize d.pq.shown = SH at *
    generalize (dueD none).pq.shown = SH2 at *
    generalize d = T at *
    simp [-eqO_str, b__law_right, b1__law_right, e1, e2, ib, r1, r2, er]
    first | rfl | exact ⟨rfl, rfl⟩
  | some p =>
    obtain ⟨w, i⟩ := p
    rw [q] at e1 e2 r0
    have e2 : F_looked [.val d] = .exc (nbX w i) [none] := e2
    have e1 : F__law_due [.val d] = some (.val (.tup [.str w, .int (i : Int)]), [none]) := e1
    have r2 : reprA (.val (.tup [.str w, .int (i : Int)])) = some (.val (.str (dueD (some (w, i))).pq.shown)) := r0
    have sx : ∀ (x : Exn) (ρ : FB.Env), spK 4 (.exc x ρ) = .exc x ρ := fun _ _ => rfl
    have s2 : subX es (nbX w i).c "BoardError" = some true := s1
    have a1 : ∀ ρ : FB.Env, mIsD es "NoBoard" (nbX w i) ρ = .ok (.val (.bl true)) ρ := fun ρ => by
      rw [e_mIsD, if_pos (show (nbX w i).c ∈ es by show ("NoBoard" : Str) ∈ es; decide +kernel)]
      have : subB (nbX w i).c "NoBoard" = true := by show subB "NoBoard" "NoBoard" = true; decide +kernel
      rw [this]
    have a2 : ∀ ρ : FB.Env, mIsVD es (nbX w i) ρ = .ok (.val (.bl true)) ρ := fun ρ => by
      rw [e_mIsVD, if_pos (show (nbX w i).c ∈ es by show ("NoBoard" : Str) ∈ es; decide +kernel)]
    have a3 : ∀ ρ : FB.Env, mIsTD es ["NoText", "NoPlace", "NoDeed"] (nbX w i) ρ = .ok (.val (.bl false)) ρ := fun ρ => by
      rw [e_mIsTD, if_pos (show (nbX w i).c ∈ es by show ("NoBoard" : Str) ∈ es; decide +kernel)]
      have : (["NoText", "NoPlace", "NoDeed"] : List Str).any (subB (nbX w i).c) = false := by show (["NoText", "NoPlace", "NoDeed"] : List Str).any (subB "NoBoard") = false; decide +kernel
      rw [this]
    have f1 : ∀ ρ, mXf ["NoBoard"] "word" (nbX w i) ρ = .ok (.val (.str w)) ρ := fun ρ => by
      unfold mXf
      rw [if_pos ⟨by show ("NoBoard" : Str) ∈ (["NoBoard"] : List Str); decide +kernel, rfl⟩, show fidx (nbX w i).ns "word" = some 1 by show fidx ["number", "word"] "word" = some 1; decide +kernel]
      rfl
    have f2 : ∀ ρ, mXf ["NoBoard"] "number" (nbX w i) ρ = .ok (.val (.int (i : Int))) ρ := fun ρ => by
      unfold mXf
      rw [if_pos ⟨by show ("NoBoard" : Str) ∈ (["NoBoard"] : List Str); decide +kernel, rfl⟩, show fidx (nbX w i).ns "number" = some 0 by show fidx ["number", "word"] "number" = some 0; decide +kernel]
      rfl
    generalize nbX w i = XX at *
    generalize (dueD (some (w, i))).pq.shown = SH2 at *
    generalize d.pq.shown = SH at *
    generalize (i : Int) = ii at *
    generalize d = T at *
    simp [-eqO_str, -e_mIsD, -e_mIsVD, -e_mIsTD, b__law_right, b1__law_right, u1__law_right, e1, e2, s2, a1, a2, a3, f1, f2, ib, sx, r1, r2, er]
    first | rfl | exact ⟨rfl, rfl⟩

end Lw

namespace Lw
open PySem PySem.Spec L2 FB Wk
open PyProof.Rows hiding St
/-! bent boards: rows and things of any kind -/
theorem BOk.gC {b : Bd} (h : BOk b) {g : Gd} (hg : g ∈ b.gs) : NameOk g.nm ∧ (∀ l, g.un = some l → NameOk l) ∧ g.C.length ≤ 5 ∧ (∀ p ∈ g.C, numOk p.1 ∧ numOk p.2) ∧ numOk g.dl ∧ numOk g.wt := by
  obtain ⟨ds, G⟩ := h.deep
  obtain ⟨c, d, w⟩ := G.rest g hg
  refine ⟨G.names g hg, fun l hl => ?_, c.2.1, fun p hp => by
    have q := c.2.2.2 p hp
    exact ⟨⟨by omega, q.2.2.1⟩, ⟨by omega, q.2.2.2⟩⟩, d, w⟩
  obtain ⟨i, hi⟩ := List.getElem?_of_mem hg
  rcases G.under i g hi with ⟨q, _⟩ | ⟨j, u, d, _, hj, q, _⟩
  · rw [q] at hl; cases hl
  · rw [q] at hl; cases hl
    exact G.names u (List.mem_of_getElem? hj)
theorem BOk.lC {b : Bd} (h : BOk b) {x : Ld} (hx : x ∈ b.ls) : NameOk x.nm ∧ NameOk x.pl ∧ x.cs.length ≤ 5 ∧ (∀ p ∈ x.cs, numOk p.1 ∧ numOk p.2) ∧ numOk x.la := by
  obtain ⟨ds, G⟩ := h.deep
  obtain ⟨c, l⟩ := h.ls.rest x hx
  refine ⟨h.ls.names x hx, ?_, by have := c.1; omega, fun p hp => (c.2 p hp).2, l⟩
  obtain ⟨g, hg, e⟩ := List.mem_map.mp (h.ls.pl x hx)
  rw [← e]; exact G.names g hg
/-! how great a right row is -/
theorem sD_fit {l : List Nat} (h : NameOk l) (n : Nat) : D.fit n (sD l) = true ∧ D.wz (sD l) ≤ 88 := by
  constructor
  · have key : ((SL l).cps.toList.all fun c => decide (c < 16 ^ 8)) = true := by
      rw [FB.SL_tl, List.all_map, List.all_eq_true]
      intro c hc
      have := h.2.2 c hc
      exact decide_eq_true_eq.mpr (Nat.lt_of_lt_of_le (show 97 + c < 200 by omega) (by decide))
    cases n <;> exact key
  · show 10 * (SL l).length + 8 ≤ 88
    rw [SL_len]
    have := h.2.1
    omega
theorem int_fit {i : Int} (h : numOk i) (n : Nat) : D.fit n (.int i) = true := by
  have h1 := h.1
  have h2 := h.2
  have : decide (i.natAbs < 100000000000000000000000000000000000000000000000000000000000000) = true := decide_eq_true_eq.mpr (by omega)
  cases n <;> exact this
theorem cv_fit {C : List (Int × Int)} (h : ∀ p ∈ C, numOk p.1 ∧ numOk p.2) : D.fit 2 (cv C) = true ∧ D.wz (cv C) = 137 * C.length + 3 := by
  constructor
  · show (C.map pD).all (D.fit 1) = true
    rw [List.all_map, List.all_eq_true]
    intro p hp
    obtain ⟨a, b⟩ := h p hp
    show ([D.int p.1, D.int p.2].all (D.fit 0)) = true
    simp only [List.all_cons, List.all_nil, int_fit a, int_fit b, Bool.and_self]
  · have key : ∀ C : List (Int × Int), D.wzs (C.map pD) = 137 * C.length := by
      intro C
      induction C with
      | nil => rfl
      | cons p C ih =>
        show D.wz (pD p) + 2 + D.wzs (C.map pD) = _
        rw [ih, List.length_cons]
        show (64 + 2 + (64 + 2 + 0) + 3) + 2 + _ = _
        omega
    show D.wzs (C.map pD) + 3 = _
    rw [key]
theorem gD_fit {b : Bd} (h : BOk b) {g : Gd} (hg : g ∈ b.gs) : D.fit 3 (gD g) = true ∧ D.wz (gD g) ≤ 1100 := by
  obtain ⟨a1, a2, a3, a4, a5, a6⟩ := h.gC hg
  obtain ⟨c1, c2⟩ := cv_fit a4
  have u : D.fit 2 (uD g.un) = true ∧ D.wz (uD g.un) ≤ 88 := by
    cases e : g.un with
    | none => exact ⟨rfl, by decide⟩
    | some l => exact sD_fit (a2 l e) 2
  have n1 := sD_fit a1 2
  constructor
  · show [sD g.nm, uD g.un, cv g.C, .int g.dl, .int g.wt].all (D.fit 2) = true
    simp only [List.all_cons, List.all_nil, n1.1, u.1, c1, int_fit a5, int_fit a6, Bool.and_self]
  · show (D.wz (sD g.nm) + 2 + (D.wz (uD g.un) + 2 + (D.wz (cv g.C) + 2 + (64 + 2 + (64 + 2 + 0))))) + 3 ≤ 1100
    have := n1.2
    have := u.2
    omega
theorem lD_fit {b : Bd} (h : BOk b) {x : Ld} (hx : x ∈ b.ls) : D.fit 3 (lD x) = true ∧ D.wz (lD x) ≤ 1100 := by
  obtain ⟨a1, a2, a3, a4, a5⟩ := h.lC hx
  obtain ⟨c1, c2⟩ := cv_fit a4
  have n1 := sD_fit a1 2
  have n2 := sD_fit a2 2
  constructor
  · show [sD x.nm, sD x.pl, cv x.cs, .int x.la, .bl x.on].all (D.fit 2) = true
    simp only [List.all_cons, List.all_nil, n1.1, n2.1, c1, int_fit a5, Bool.and_self]
    rfl
  · show (D.wz (sD x.nm) + 2 + (D.wz (sD x.pl) + 2 + (D.wz (cv x.cs) + 2 + (64 + 2 + (5 + 2 + 0))))) + 3 ≤ 1100
    have := n1.2
    have := n2.2
    omega
structure Ro (n W L : Nat) (rs : List D) : Prop where
  fit : ∀ r ∈ rs, D.fit n r = true
  sz : ∀ r ∈ rs, D.wz r ≤ W
  len : rs.length ≤ L
theorem Ro.more {n m W V L M : Nat} {rs : List D} (h : Ro n W L rs) (a : n ≤ m) (b : W ≤ V) (c : L ≤ M) : Ro m V M rs := ⟨fun r hr => fit_le (h.fit r hr) a, fun r hr => Nat.le_trans (h.sz r hr) b, Nat.le_trans h.len c⟩
theorem Ro.app {n W L M N : Nat} {xs ys : List D} (h : Ro n W L xs) (k : Ro n W M ys) (hl : xs.length + ys.length ≤ N) : Ro n W N (xs ++ ys) :=
  ⟨fun r hr => (List.mem_append.mp hr).elim (h.fit r) (k.fit r), fun r hr => (List.mem_append.mp hr).elim (h.sz r) (k.sz r), by rw [List.length_append]; exact hl⟩
theorem Ro.one {n W : Nat} {d : D} (h : D.fit n d = true) (w : D.wz d ≤ W) : Ro n W 1 [d] := ⟨fun r hr => by rw [List.mem_singleton.mp hr]; exact h, fun r hr => by rw [List.mem_singleton.mp hr]; exact w, by simp⟩
theorem Ro.sub {n W L M : Nat} {xs ys : List D} (h : Ro n W L ys) (s : ∀ x ∈ xs, x ∈ ys) (hl : xs.length ≤ M) : Ro n W M xs := ⟨fun r hr => h.fit r (s r hr), fun r hr => h.sz r (s r hr), hl⟩
/-! a thing of the menu -/
def odC : List D := [.non, .bl true, .bl false, .int 0, .int 1, .int (-1), .int 1000000000000000000000000000000000000000000000000000000000000, .int 999999999999999999999999999999999999999999999999999999999999, .str "", .str "a", .str "A", .str "abcdefghi", .str "b\n", .tup [], .lst [], .dct [] [],
  .tup [.tup [.int 1, .int 1]], .tup [.tup [.int 0, .int 1]], .tup [.tup [.int 1, .int 0]], .tup [.tup [.int 1, .int 0, .int 0]], .lst [.tup [.int 1, .int 1]], .tup [.tup [.int 1, .int 1], .tup [.int 1, .int 1]], .tup [.tup [.int 1, .int 2], .tup [.int 2, .int 2]],
  .tup [.tup [.int 2, .int 2], .tup [.int 1, .int 1]],
  .tup [.tup [.int 1, .int 9], .tup [.int 2, .int 8], .tup [.int 3, .int 7], .tup [.int 4, .int 6], .tup [.int 5, .int 5], .tup [.int 6, .int 4]], .tup [.tup [.int 1, .bl true]], .tup [.tup [.int 1, .int 1], .int 2], .tup [.lst [.int 1, .int 1]]]
theorem odC_fit : ∀ d ∈ odC, D.fit 4 d = true ∧ D.wz d ≤ 1000 := by
  have : (odC.all fun d => D.fit 4 d && decide (D.wz d ≤ 1000)) = true := by decide +kernel
  intro d hd
  have := List.all_eq_true.mp this d hd
  rw [Bool.and_eq_true, decide_eq_true_eq] at this
  exact this
theorem odd_ok {n : Nat} (o : O) (k : Int) (h : Fok (k + 1) o) (hk : 0 ≤ k) (hn : 4 ≤ n) {d : D} (hd : D.fit n d = true) : ∃ v o', F__law_odd [o, .val d] = some (.val v, [some o', none]) ∧ Fok k o' ∧ D.fit n v = true ∧ D.wz v ≤ D.wz d + 1000 := by
  obtain ⟨r, o', e, f, p, q⟩ := take o 29 k h hk (by decide) (by decide)
  obtain ⟨v, hv, hx⟩ := atI_some (xs := odC ++ [d]) p (by rw [List.length_append]; exact q)
  have ix : ixO (.val (.lst (odC ++ [d]))) (.val (.int r)) = some (.val v) := by
    show (atI (odC ++ [d]) r).map O.val = _
    rw [hx]; rfl
  refine ⟨v, o', ?_, f, ?_, ?_⟩
  · unfold odC at hx
    simp only [List.cons_append, List.nil_append] at hx
    unfold F__law_odd
    rw [runF_eq]
    simp [b__law_odd, e_pow, e, hx]
    first | rfl | exact ⟨rfl, rfl⟩
  · rcases List.mem_append.mp hv with q | q
    · exact fit_le (odC_fit v q).1 hn
    · rw [List.mem_singleton.mp q]; exact hd
  · rcases List.mem_append.mp hv with q | q
    · have := (odC_fit v q).2; omega
    · rw [List.mem_singleton.mp q]; omega
/-! places in lists -/
theorem split_at {α : Type} {xs : List α} {r : Int} (h0 : 0 ≤ r) (h : r < (xs.length : Int)) : ∃ A z B, xs = A ++ z :: B ∧ r = (A.length : Int) := by
  have hr : r.toNat < xs.length := by omega
  refine ⟨xs.take r.toNat, xs[r.toNat], xs.drop (r.toNat + 1), ?_, ?_⟩
  · rw [← List.drop_eq_getElem_cons hr, List.take_append_drop]
  · rw [List.length_take]; omega
theorem cut_A {α : Type} (A B : List α) (z : α) : cutL (A ++ z :: B) none (some (A.length : Int)) = A := by rw [cut_to, List.take_left' rfl]
theorem cut_zB {α : Type} (A B : List α) (z : α) : cutL (A ++ z :: B) (some (A.length : Int)) none = z :: B := by rw [cut_from, List.drop_left' rfl]
theorem cut_B {α : Type} (A B : List α) (z : α) : cutL (A ++ z :: B) (some ((A.length : Int) + 1)) none = B := by
  rw [show (A.length : Int) + 1 = ((A.length + 1 : Nat) : Int) by omega, cut_from, List.drop_append, List.drop_of_length_le (by omega)]
  simp
theorem at_z {α : Type} (A B : List α) (z : α) : atI (A ++ z :: B) (A.length : Int) = some z := by rw [atN]; simp
theorem wzs_cons (d : D) (ds : List D) : D.wzs (d :: ds) = D.wz d + 2 + D.wzs ds := rfl
theorem fit_tl {n : Nat} {ds : List D} (h : ∀ d ∈ ds, D.fit n d = true) : D.fit (n + 1) (.tup ds) = true ∧ D.fit (n + 1) (.lst ds) = true := by
  have : ds.all (D.fit n) = true := List.all_eq_true.mpr h
  exact ⟨this, this⟩
theorem tup_fit {n : Nat} {ds : List D} (h : D.fit n (.tup ds) = true) : ∀ d ∈ ds, D.fit n d = true := by
  cases n with
  | zero => cases h
  | succ n =>
    have f : ds.all (D.fit n) = true := h
    exact fun d hd => fit_up ((List.all_eq_true.mp f) d hd)
theorem cut_m1 {α : Type} (xs : List α) : cutL xs none (some (-1)) = xs.take (xs.length - 1) := by
  unfold cutL
  have : HT.sIx xs.length xs.length (some (-1)) = xs.length - 1 := by
    unfold HT.sIx
    show (if (-1 : Int) < 0 then _ else _) = _
    rw [if_pos (by omega)]
    omega
  rw [this, HT.sIx_none]; rfl
theorem wzs_take (ds : List D) (k : Nat) : D.wzs (ds.take k) ≤ D.wzs ds := by
  have := wzs_app (ds.take k) (ds.drop k)
  rw [List.take_append_drop] at this
  omega
theorem fit_ty {n : Nat} {d : D} (f : D.fit n d = true) : tyB d = true := by
  cases d with
  | ins c ns ds => cases n <;> cases f
  | fn x => cases n <;> cases f
  | _ => rfl

end Lw

namespace Lw
open PySem PySem.Spec L2 FB Wk
open PyProof.Rows hiding St
/-! a board's rows, bent -/
theorem bent_ok {n W L : Nat} (o : O) (k : Int) (h : Fok (k + 10) o) (hk : 0 ≤ k) (hn : 4 ≤ n) (hW : 1000 ≤ W) {rs : List D} (R : Ro n W L rs) (hL : L ≤ 100) {ns : List (List Nat)} (hN : ∀ l ∈ ns, NameOk l) (h0 : 0 < ns.length) (h1 : ns.length ≤ 1000) : ∃ rs' r o', F__law_bent [o, .val (.lst rs), .val (nsV ns)] = some (r, [some o', none, none]) ∧ r.toD = .lst rs' ∧ Fok k o' ∧ Ro (n + 1) (W + 1100) (L + 26) rs' := by
  obtain ⟨r0, o1, t0, f1, p0, q0⟩ := take o (ns.length : Int) (k + 9) (h.less (by omega)) (by omega) (by omega) (log_big (by omega) (by omega))
  obtain ⟨l, hl, hx⟩ := atI_some (xs := ns) p0 q0
  have hln := hN l hl
  have ixn : ixO (.val (nsV ns)) (.val (.int r0)) = some (.val (sD l)) := by
    have e : r0 = (r0.toNat : Int) := by omega
    rw [e, atN] at hx
    show (atI (ns.map sD) r0).map O.val = _
    rw [e, atN, List.getElem?_map, hx]; rfl
  have lnn : lenO (.val (nsV ns)) = some (.val (.int (ns.length : Int))) := by
    show some (O.val (.int ((ns.map sD).length : Int))) = _
    rw [List.length_map]
  obtain ⟨l0, hl0, ix0⟩ : ∃ l0 ∈ ns, ixO (.val (nsV ns)) (.val (.int 0)) = some (.val (sD l0)) := by
    cases ns with
    | nil => simp at h0
    | cons x xs => exact ⟨x, by simp, by show (atI ((x :: xs).map sD) 0).map O.val = _; rw [List.map_cons, atI_0]; rfl⟩
  have hl0 := hN l0 hl0
  have lnr : lenO (.val (.lst rs)) = some (.val (.int (rs.length : Int))) := rfl
  have hlen := R.len
  have ad : ∀ (xs ys : List D), xs.length ≤ 1000 → ys.length ≤ 1000 → addD (.lst xs) (.lst ys) = some (.lst (xs ++ ys)) := fun xs ys a b => addD_lst xs ys (by omega)
  have adt : ∀ (xs ys : List D), xs.length ≤ 1000 → ys.length ≤ 1000 → addD (.tup xs) (.tup ys) = some (.tup (xs ++ ys)) := fun xs ys a b => if_pos (by omega)
  have z0 : D.fit n (.int 0) = true := fit_le (show D.fit 0 (.int 0) = true from rfl) (by omega)
  unfold F__law_bent
  rw [runF_eq]
  by_cases e0 : rs.length = 0
  · refine ⟨[.tup [sD l, sD l0, .tup [], .int 0, .bl true]], .lst [.val (.tup [sD l, sD l0, .tup [], .int 0, .bl true])], o1, ?_, rfl, f1.less (by omega), (Ro.one (n := n + 1) (W := W + 1100) (fit_tl fun d hd => ?_).1 ?_).more (Nat.le_refl _) (Nat.le_refl _) (by omega)⟩
    · have lnr : lenO (.val (.lst rs)) = some (.val (.int 0)) := by rw [lnr, e0]; rfl
      clear hx R ad adt hl
      generalize D.lst rs = RS at *
      generalize nsV ns = NS at *
      generalize sD l = NM at *
      generalize sD l0 = N0 at *
      generalize (ns.length : Int) = nl at *
      simp [b__law_bent, lnn, t0, ixn, lnr, ix0]
      first | rfl | exact ⟨rfl, rfl⟩
    · simp only [List.mem_cons, List.not_mem_nil, or_false] at hd
      rcases hd with rfl | rfl | rfl | rfl | rfl
      · exact (sD_fit hln n).1
      · exact (sD_fit hl0 n).1
      · exact fit_le (show D.fit 1 (.tup []) = true from rfl) (by omega)
      · exact z0
      · exact fit_le (show D.fit 0 (.bl true) = true from rfl) (by omega)
    · have := (sD_fit hln n).2
      have := (sD_fit hl0 n).2
      show D.wz (sD l) + 2 + (D.wz (sD l0) + 2 + (0 + 3 + 2 + (64 + 2 + (5 + 2 + 0)))) + 3 ≤ W + 1100
      omega
  · obtain ⟨r1, o2, t1, f2, p1, q1⟩ := take o1 (rs.length : Int) (k + 8) (f1.less (by omega)) (by omega) (by omega) (log_big (by omega) (by omega))
    obtain ⟨A, row, B, rfl, hr⟩ := split_at p1 q1
    obtain ⟨r2, o3, t2, f3, p2, q2⟩ := take o2 8 (k + 7) (f2.less (by omega)) (by omega) (by decide) (by decide)
    have ne0 : ¬ (((A ++ row :: B).length : Int) = 0) := by omega
    have s1 : slO (.val (.lst (A ++ row :: B))) none (some r1) = some (.val (.lst A)) := by rw [slO_val_lst, hr, cut_A]
    have s2 : slO (.val (.lst (A ++ row :: B))) (some (r1 + 1)) none = some (.val (.lst B)) := by rw [slO_val_lst, hr, cut_B]
    have s3 : slO (.val (.lst (A ++ row :: B))) (some r1) none = some (.val (.lst (row :: B))) := by rw [slO_val_lst, hr, cut_zB]
    have ir : ixO (.val (.lst (A ++ row :: B))) (.val (.int r1)) = some (.val row) := by
      show (atI (A ++ row :: B) r1).map O.val = _
      rw [hr, at_z]; rfl
    have lAB : A.length + (B.length + 1) ≤ L := by simpa using hlen
    have rf : D.fit n row = true := R.fit row (by simp)
    have rz : D.wz row ≤ W := R.sz row (by simp)
    have RA : Ro (n + 1) (W + 1100) A.length A := (R.sub (xs := A) (M := A.length) (fun x hx => by simp [hx]) (Nat.le_refl _)).more (by omega) (by omega) (Nat.le_refl _)
    have RB : Ro (n + 1) (W + 1100) B.length B := (R.sub (xs := B) (M := B.length) (fun x hx => by simp [hx]) (Nat.le_refl _)).more (by omega) (by omega) (Nat.le_refl _)
    have RzB : Ro (n + 1) (W + 1100) (B.length + 1) (row :: B) := (R.sub (xs := row :: B) (M := B.length + 1) (fun x hx => by rcases List.mem_cons.mp hx with rfl | hx <;> simp [*]) (by simp)).more (by omega) (by omega) (Nat.le_refl _)
    have aAB := ad A B (by omega) (by omega)
    have tT := isi_t row (fit_ty rf)
    have no : ∀ (q : (isT row = false ∨ (isT row = true ∧ ∃ m : Int, lenO (.val row) = some (.val (.int m)) ∧ ¬ m = 5))), ∃ rs' r o', endF 3 [0] (b__law_bent ([o, .val (.lst (A ++ row :: B)), .val (nsV ns)].map some ++ List.replicate (8 - [o, .val (.lst (A ++ row :: B)), .val (nsV ns)].length) none)) = some (r, [some o', none, none]) ∧ r.toD = .lst rs' ∧ Fok k o' ∧ Ro (n + 1) (W + 1100) (L + 26) rs' := fun q => by
      refine ⟨A ++ B, .val (.lst (A ++ B)), o3, ?_, rfl, f3.less (by omega), RA.app RB (by omega)⟩
      clear hx R ad adt hl
      generalize D.lst (A ++ row :: B) = RS at *
      generalize D.lst (A ++ B) = XAB at *
      generalize D.lst A = XA at *
      generalize D.lst B = XB at *
      generalize nsV ns = NS at *
      generalize (((A ++ row :: B).length : Nat) : Int) = rl at *
      generalize (ns.length : Int) = nl at *
      rcases q with q | ⟨q, m, q1, q2⟩
      · rw [q] at tT
        simp [b__law_bent, lnn, t0, ixn, lnr, ne0, t1, ir, t2, tT, s1, s2, aAB]
        first | rfl | exact ⟨rfl, rfl⟩
      · rw [q] at tT
        simp [b__law_bent, lnn, t0, ixn, lnr, ne0, t1, ir, t2, tT, q1, q2, s1, s2, aAB]
        first | rfl | exact ⟨rfl, rfl⟩
    cases hT : isT row with
    | false => exact no (.inl hT)
    | true =>
      rw [hT] at tT
      obtain ⟨ds, rfl⟩ := isT_of hT
      by_cases h5 : ds.length = 5
      · clear no
        have ln5 : lenO (.val (.tup ds)) = some (.val (.int 5)) := by
          show some (O.val (.int (ds.length : Int))) = _
          rw [h5]; rfl
        have df := tup_fit rf
        have dz : D.wzs ds + 3 ≤ W := rz
        have fin : ∀ {row' : D}, D.fit (n + 1) row' = true → D.wz row' ≤ W + 1100 → Ro (n + 1) (W + 1100) (L + 26) (A ++ [row'] ++ B) := fun {row'} a b => (RA.app (Ro.one a b) (Nat.le_refl _)).app RB (by simp; omega)
        have fa : ∀ row' : D, addD (.lst A) (.lst [row']) = some (.lst (A ++ [row'])) ∧ addD (.lst (A ++ [row'])) (.lst B) = some (.lst (A ++ [row'] ++ B)) := fun row' => ⟨ad A [row'] (by omega) (by simp), ad (A ++ [row']) B (by simp; omega) (by omega)⟩
        have lnr : lenO (.val (.lst (A ++ .tup ds :: B))) = some (.val (.int (((A ++ .tup ds :: B).length : Nat) : Int))) := rfl
        rcases (show r2 < 3 ∨ r2 = 3 ∨ r2 = 4 ∨ r2 = 5 ∨ r2 = 6 ∨ r2 = 7 by omega) with w | w | w | w | w | w
        · -- one thing is another
          obtain ⟨r3, o4, t3, f4, p3, q3⟩ := take o3 5 (k + 6) (f3.less (by omega)) (by omega) (by decide) (by decide)
          obtain ⟨A2, z, B2, rfl, hz⟩ := split_at (xs := ds) p3 (by rw [h5]; exact q3)
          obtain ⟨v, o5, tv, f5, vf, vz⟩ := odd_ok o4 (k + 5) (f4.less (by omega)) (by omega) hn (df z (by simp))
          have g1 : slO (.val (.tup (A2 ++ z :: B2))) none (some r3) = some (.val (.tup A2)) := by rw [slO_val_tup, hz, cut_A]
          have g2 : slO (.val (.tup (A2 ++ z :: B2))) (some (r3 + 1)) none = some (.val (.tup B2)) := by rw [slO_val_tup, hz, cut_B]
          have gi : ixO (.val (.tup (A2 ++ z :: B2))) (.val (.int r3)) = some (.val z) := by
            show (atI (A2 ++ z :: B2) r3).map O.val = _
            rw [hz, at_z]; rfl
          have l5 : A2.length + (B2.length + 1) = 5 := by simpa using h5
          have a1 := adt A2 [v] (by omega) (by simp)
          have a2 := adt (A2 ++ [v]) B2 (by simp; omega) (by omega)
          obtain ⟨b1, b2⟩ := fa (.tup (A2 ++ [v] ++ B2))
          refine ⟨A ++ [.tup (A2 ++ [v] ++ B2)] ++ B, .val (.lst (A ++ [.tup (A2 ++ [v] ++ B2)] ++ B)), o5, ?_, rfl, f5.less (by omega), fin (fit_tl fun d hd => ?_).1 ?_⟩
          · have n3 : ¬ (r2 = 3) := by omega
            have n4 : ¬ (r2 = 4) := by omega
            have n5 : ¬ (r2 = 5) := by omega
            have n6 : ¬ (r2 = 6) := by omega
            have n7 : ¬ (r2 = 7) := by omega
            clear hx R ad adt hl fin fa df rf
            generalize D.lst (A ++ .tup (A2 ++ z :: B2) :: B) = RS at *
            generalize (((A ++ .tup (A2 ++ z :: B2) :: B).length : Nat) : Int) = rl at *
            generalize D.tup (A2 ++ z :: B2) = T at *
            generalize D.lst (A ++ [.tup (A2 ++ [v] ++ B2)] ++ B) = X1 at *
            generalize D.lst (A ++ [.tup (A2 ++ [v] ++ B2)]) = X2 at *
            generalize D.tup (A2 ++ [v] ++ B2) = X3 at *
            generalize D.tup (A2 ++ [v]) = X4 at *
            generalize D.tup A2 = X5 at *
            generalize D.tup B2 = X6 at *
            generalize D.lst A = XA at *
            generalize D.lst B = XB at *
            generalize nsV ns = NS at *
            generalize (ns.length : Int) = nl at *
            simp [b__law_bent, lnn, t0, ixn, lnr, ne0, t1, ir, t2, tT, ln5, w, n3, n4, n5, n6, n7, t3, g1, g2, gi, tv, a1, a2, s1, s2, b1, b2]
            first | rfl | exact ⟨rfl, rfl⟩
          · rcases List.mem_append.mp hd with q | q
            · rcases List.mem_append.mp q with q | q
              · exact df d (by simp [q])
              · rw [List.mem_singleton.mp q]; exact vf
            · exact df d (by simp [q])
          · show D.wzs (A2 ++ [v] ++ B2) + 3 ≤ W + 1100
            rw [wzs_app, wzs_app] at *
            rw [wzs_cons] at dz
            have : D.wzs [v] = D.wz v + 2 := rfl
            omega
        · -- another's name
          subst w
          have g1 : slO (.val (.tup ds)) (some 1) none = some (.val (.tup (ds.drop 1))) := by rw [slO_val_tup, show (1 : Int) = ((1 : Nat) : Int) from rfl, cut_from]
          have a1 := adt [sD l] (ds.drop 1) (by simp) (by simp; omega)
          obtain ⟨b1, b2⟩ := fa (.tup ([sD l] ++ ds.drop 1))
          refine ⟨A ++ [.tup ([sD l] ++ ds.drop 1)] ++ B, .val (.lst (A ++ [.tup ([sD l] ++ ds.drop 1)] ++ B)), o3, ?_, rfl, f3.less (by omega), fin (fit_tl fun d hd => ?_).1 ?_⟩
          · clear hx R ad adt hl fin fa df rf
            generalize D.lst (A ++ .tup ds :: B) = RS at *
            generalize (((A ++ .tup ds :: B).length : Nat) : Int) = rl at *
            generalize D.lst (A ++ [.tup ([sD l] ++ ds.drop 1)] ++ B) = X1 at *
            generalize D.lst (A ++ [.tup ([sD l] ++ ds.drop 1)]) = X2 at *
            generalize D.tup ([sD l] ++ ds.drop 1) = X3 at *
            generalize D.tup (ds.drop 1) = X4 at *
            generalize D.tup ds = T at *
            generalize D.lst A = XA at *
            generalize D.lst B = XB at *
            generalize nsV ns = NS at *
            generalize sD l = NM at *
            generalize (ns.length : Int) = nl at *
            simp [b__law_bent, lnn, t0, ixn, lnr, ne0, t1, ir, t2, tT, ln5, g1, a1, s1, s2, b1, b2]
            first | rfl | exact ⟨rfl, rfl⟩
          · rcases List.mem_append.mp hd with q | q
            · rw [List.mem_singleton.mp q]; exact (sD_fit hln n).1
            · exact df d (List.mem_of_mem_drop q)
          · have e1 := wzs_app (ds.take 1) (ds.drop 1)
            rw [List.take_append_drop] at e1
            have e2 := (sD_fit hln n).2
            show D.wz (sD l) + 2 + D.wzs (ds.drop 1) + 3 ≤ W + 1100
            omega
        · -- another's name as under
          subst w
          have g1 : slO (.val (.tup ds)) none (some 1) = some (.val (.tup (ds.take 1))) := by rw [slO_val_tup, show (1 : Int) = ((1 : Nat) : Int) from rfl, cut_to]
          have g2 : slO (.val (.tup ds)) (some 2) none = some (.val (.tup (ds.drop 2))) := by rw [slO_val_tup, show (2 : Int) = ((2 : Nat) : Int) from rfl, cut_from]
          have a1 := adt (ds.take 1) [sD l] (by simp; omega) (by simp)
          have a2 := adt (ds.take 1 ++ [sD l]) (ds.drop 2) (by simp; omega) (by simp; omega)
          obtain ⟨b1, b2⟩ := fa (.tup (ds.take 1 ++ [sD l] ++ ds.drop 2))
          refine ⟨A ++ [.tup (ds.take 1 ++ [sD l] ++ ds.drop 2)] ++ B, .val (.lst (A ++ [.tup (ds.take 1 ++ [sD l] ++ ds.drop 2)] ++ B)), o3, ?_, rfl, f3.less (by omega), fin (fit_tl fun d hd => ?_).1 ?_⟩
          · clear hx R ad adt hl fin fa df rf
            generalize D.lst (A ++ .tup ds :: B) = RS at *
            generalize (((A ++ .tup ds :: B).length : Nat) : Int) = rl at *
            generalize D.lst (A ++ [.tup (ds.take 1 ++ [sD l] ++ ds.drop 2)] ++ B) = X1 at *
            generalize D.lst (A ++ [.tup (ds.take 1 ++ [sD l] ++ ds.drop 2)]) = X2 at *
            generalize D.tup (ds.take 1 ++ [sD l] ++ ds.drop 2) = X3 at *
            generalize D.tup (ds.take 1 ++ [sD l]) = X4 at *
            generalize D.tup (ds.take 1) = X5 at *
            generalize D.tup (ds.drop 2) = X6 at *
            generalize D.tup ds = T at *
            generalize D.lst A = XA at *
            generalize D.lst B = XB at *
            generalize nsV ns = NS at *
            generalize sD l = NM at *
            generalize (ns.length : Int) = nl at *
            simp [b__law_bent, lnn, t0, ixn, lnr, ne0, t1, ir, t2, tT, ln5, g1, g2, a1, a2, s1, s2, b1, b2]
            first | rfl | exact ⟨rfl, rfl⟩
          · rcases List.mem_append.mp hd with q | q
            · rcases List.mem_append.mp q with q | q
              · exact df d (List.mem_of_mem_take q)
              · rw [List.mem_singleton.mp q]; exact (sD_fit hln n).1
            · exact df d (List.mem_of_mem_drop q)
          · have e1 := wzs_app (ds.take 2) (ds.drop 2)
            rw [List.take_append_drop] at e1
            have e3 := wzs_take (ds.take 2) 1
            rw [List.take_take, show min 1 2 = 1 by decide] at e3
            have e2 := (sD_fit hln n).2
            show D.wzs (ds.take 1 ++ [sD l] ++ ds.drop 2) + 3 ≤ W + 1100
            rw [wzs_app, wzs_app]
            have : D.wzs [sD l] = D.wz (sD l) + 2 := rfl
            omega
        · -- another form
          subst w
          obtain ⟨r3, o4, t3, f4, p3, q3⟩ := take o3 5 (k + 6) (f3.less (by omega)) (by omega) (by decide) (by decide)
          have g1 : listO (.val (.tup ds)) = some (.val (.lst ds)) := rfl
          have g2 : slO (.val (.tup ds)) none (some (-1)) = some (.val (.tup (ds.take (ds.length - 1)))) := by rw [slO_val_tup, cut_m1]
          have g3 := adt ds [.int 0] (by omega) (by simp)
          obtain ⟨row', hrow, e5⟩ := atI_some (xs := [D.lst ds, .tup (ds.take (ds.length - 1)), .tup (ds ++ [.int 0]), sD l, .tup [.tup ds]]) (r := r3) p3 q3
          have e5 : atI [O.val (.lst ds), .val (.tup (ds.take (ds.length - 1))), .val (.tup (ds ++ [.int 0])), .val (sD l), .val (.tup [.tup ds])] r3 = some (.val row') := by
            have e : r3 = (r3.toNat : Int) := by omega
            rw [e, atN] at e5 ⊢
            have := congrArg (Option.map O.val) e5
            rw [← List.getElem?_map] at this
            exact this
          obtain ⟨b1, b2⟩ := fa row'
          refine ⟨A ++ [row'] ++ B, .val (.lst (A ++ [row'] ++ B)), o4, ?_, rfl, f4.less (by omega), fin ?_ ?_⟩
          · clear hx R ad adt hl fin fa df rf hrow
            generalize D.lst (A ++ .tup ds :: B) = RS at *
            generalize (((A ++ .tup ds :: B).length : Nat) : Int) = rl at *
            generalize D.lst (A ++ [row'] ++ B) = X1 at *
            generalize D.lst (A ++ [row']) = X2 at *
            generalize D.tup (ds.take (ds.length - 1)) = X4 at *
            generalize D.tup (ds ++ [.int 0]) = X5 at *
            generalize D.lst ds = X6 at *
            generalize D.tup ds = T at *
            generalize D.lst A = XA at *
            generalize D.lst B = XB at *
            generalize nsV ns = NS at *
            generalize sD l = NM at *
            generalize (ns.length : Int) = nl at *
            simp [b__law_bent, lnn, t0, ixn, lnr, ne0, t1, ir, t2, tT, ln5, g1, g2, g3, t3, e5, s1, s2, b1, b2]
            first | rfl | exact ⟨rfl, rfl⟩
          · simp only [List.mem_cons, List.not_mem_nil, or_false] at hrow
            rcases hrow with rfl | rfl | rfl | rfl | rfl
            · exact (fit_tl df).2
            · exact (fit_tl fun d hd => df d (List.mem_of_mem_take hd)).1
            · exact (fit_tl fun d hd => (List.mem_append.mp hd).elim (df d) fun q => by rw [List.mem_singleton.mp q]; exact z0).1
            · exact (sD_fit hln (n + 1)).1
            · exact (fit_tl fun d hd => by rw [List.mem_singleton.mp hd]; exact rf).1
          · have e1 := wzs_take ds (ds.length - 1)
            have e2 := (sD_fit hln n).2
            simp only [List.mem_cons, List.not_mem_nil, or_false] at hrow
            rcases hrow with rfl | rfl | rfl | rfl | rfl
            · show D.wzs ds + 3 ≤ _; omega
            · show D.wzs (ds.take (ds.length - 1)) + 3 ≤ _; omega
            · show D.wzs (ds ++ [.int 0]) + 3 ≤ _
              rw [wzs_app, show D.wzs [.int 0] = 66 from rfl]; omega
            · omega
            · show D.wzs ds + 3 + 2 + 0 + 3 ≤ _; omega
        · -- so often
          subst w
          obtain ⟨r3, o4, t3, f4, p3, q3⟩ := take o3 4 (k + 6) (f3.less (by omega)) (by omega) (by decide) (by decide)
          obtain ⟨f, e5, f16, f25⟩ : ∃ f : Int, atI [O.val (.int 16), .val (.int 17), .val (.int 24), .val (.int 25)] r3 = some (.val (.int f)) ∧ 16 ≤ f ∧ f ≤ 25 := by
            obtain ⟨x, hx, e⟩ := atI_some (xs := [O.val (.int 16), .val (.int 17), .val (.int 24), .val (.int 25)]) (r := r3) p3 q3
            simp only [List.mem_cons, List.not_mem_nil, or_false] at hx
            rcases hx with rfl | rfl | rfl | rfl
            · exact ⟨16, e, by decide, by decide⟩
            · exact ⟨17, e, by decide, by decide⟩
            · exact ⟨24, e, by decide, by decide⟩
            · exact ⟨25, e, by decide, by decide⟩
          have hq : ∃ q : Int, q = f - ((A ++ .tup ds :: B).length : Int) ∧ q ≤ 25 ∧ -200 ≤ q := ⟨_, rfl, by omega, by omega⟩
          obtain ⟨q, eq, q25, q200⟩ := hq
          have mu : mulD (.lst [.tup ds]) (.int q) = some (.lst (List.replicate q.toNat (.tup ds))) := by
            have : (List.replicate q.toNat [D.tup ds]).flatten = List.replicate q.toNat (.tup ds) := by simp
            rw [← this]
            exact if_pos ⟨by omega, by omega, by simp; omega⟩
          have mu : lift2 mulD (.lst [.val (.tup ds)]) (.val (.int q)) = some (.val (.lst (List.replicate q.toNat (.tup ds)))) := by
            show (mulD (.lst [.tup ds]) (.int q)).map O.val = _
            rw [mu]; rfl
          have a1 := ad A (List.replicate q.toNat (.tup ds)) (by omega) (by simp; omega)
          have a2 := ad (A ++ List.replicate q.toNat (.tup ds)) (.tup ds :: B) (by simp; omega) (by simp; omega)
          have RR : Ro (n + 1) (W + 1100) 25 (List.replicate q.toNat (.tup ds)) := ⟨fun r hr => by rw [List.eq_of_mem_replicate hr]; exact fit_up rf, fun r hr => by rw [List.eq_of_mem_replicate hr]; omega, by simp; omega⟩
          refine ⟨A ++ List.replicate q.toNat (.tup ds) ++ .tup ds :: B, .val (.lst (A ++ List.replicate q.toNat (.tup ds) ++ .tup ds :: B)), o4, ?_, rfl, f4.less (by omega), (RA.app RR (M := 25) (N := A.length + 25) (by simp; omega)).app RzB (by simp; omega)⟩
          clear hx R ad adt hl fin fa df rf RR
          generalize D.lst (A ++ List.replicate q.toNat (.tup ds) ++ .tup ds :: B) = X1 at *
          generalize D.lst (A ++ List.replicate q.toNat (.tup ds)) = X2 at *
          generalize D.lst (List.replicate q.toNat (.tup ds)) = X3 at *
          generalize D.lst (A ++ .tup ds :: B) = RS at *
          generalize (((A ++ .tup ds :: B).length : Nat) : Int) = rl at *
          generalize D.lst (.tup ds :: B) = X4 at *
          generalize D.tup ds = T at *
          generalize D.lst A = XA at *
          generalize D.lst B = XB at *
          generalize nsV ns = NS at *
          generalize (ns.length : Int) = nl at *
          subst eq
          simp [b__law_bent, lnn, t0, ixn, lnr, ne0, t1, ir, t2, tT, ln5, t3, e5, mu, s1, s3, a1, a2]
          first | rfl | exact ⟨rfl, rfl⟩
        · -- twice there
          subst w
          obtain ⟨b1, _⟩ := fa (.tup ds)
          have a2 := ad (A ++ [.tup ds]) (.tup ds :: B) (by simp; omega) (by simp; omega)
          refine ⟨A ++ [.tup ds] ++ .tup ds :: B, .val (.lst (A ++ [.tup ds] ++ .tup ds :: B)), o3, ?_, rfl, f3.less (by omega), (RA.app (Ro.one (fit_up rf) (by omega)) (Nat.le_refl _)).app RzB (by simp; omega)⟩
          clear hx R ad adt hl fin fa df rf
          generalize D.lst (A ++ [.tup ds] ++ .tup ds :: B) = X1 at *
          generalize D.lst (A ++ [.tup ds]) = X2 at *
          generalize D.lst (A ++ .tup ds :: B) = RS at *
          generalize (((A ++ .tup ds :: B).length : Nat) : Int) = rl at *
          generalize D.lst (.tup ds :: B) = X4 at *
          generalize D.tup ds = T at *
          generalize D.lst A = XA at *
          generalize D.lst B = XB at *
          generalize nsV ns = NS at *
          generalize (ns.length : Int) = nl at *
          simp [b__law_bent, lnn, t0, ixn, lnr, ne0, t1, ir, t2, tT, ln5, s1, s3, b1, a2]
          first | rfl | exact ⟨rfl, rfl⟩
      · exact no (.inr ⟨hT, (ds.length : Int), rfl, by omega⟩)

end Lw

namespace Lw
open PySem PySem.Spec L2 FB Wk
open PyProof.Rows hiding St
/-! a bent board, topped; the law -/
theorem Ro.tot {n W L : Nat} : ∀ {rs : List D}, Ro n W L rs → D.wzs rs ≤ rs.length * (W + 2)
  | [], _ => Nat.zero_le _
  | d :: rs, h => by
    have ih := Ro.tot (rs := rs) (h.sub (M := L) (fun x hx => by simp [hx]) (by have := h.len; simp at this; omega))
    have hd := h.sz d (by simp)
    rw [wzs_cons, List.length_cons, Nat.add_mul]
    omega
def tp18 (gs ls : List D) : List D := List.replicate 18 (.tup [.tup gs, .tup ls])
def tp22 (gs ls : List D) : List D := tp18 gs ls ++ [.lst [.tup gs, .tup ls], .tup [.tup gs], .tup [.tup gs, .tup ls, .tup []], .tup [.lst gs, .tup ls]]
def tp30 (gs ls : List D) : List D := tp22 gs ls ++ [.tup [.tup gs, .lst ls], .tup [.tup [], .tup ls], .non, .str "board", .tup [.tup ls, .tup gs], .dct [] [], .int 5, .bl true]
theorem topped_ok {n W L : Nat} (o : O) (k : Int) (h : Fok (k + 1) o) (hk : 0 ≤ k) {gs ls : List D} (hg : Ro n W L gs) (hl : Ro n W L ls) (hn : 1 ≤ n) (hL : L ≤ 100) (hW : W ≤ 3998) : ∃ v o', F__law_topped [o, .val (.tup gs), .val (.tup ls)] = some (.val v, [some o', none, none]) ∧ Fok k o' ∧ Th (n + 2) v := by
  obtain ⟨r, o', t, f, p, q⟩ := take o 30 k h hk (by decide) (by decide)
  have lg : listO (.val (.tup gs)) = some (.val (.lst gs)) := rfl
  have ll : listO (.val (.tup ls)) = some (.val (.lst ls)) := rfl
  have mu : mulD (.lst [.tup [.tup gs, .tup ls]]) (.int 18) = some (.lst (tp18 gs ls)) := rfl
  have a1 : addD (.lst (tp18 gs ls)) (.lst [.lst [.tup gs, .tup ls], .tup [.tup gs], .tup [.tup gs, .tup ls, .tup []], .tup [.lst gs, .tup ls]]) = some (.lst (tp22 gs ls)) := addD_lst _ _ (by simp [tp18])
  have a2 : addD (.lst (tp22 gs ls)) (.lst [.tup [.tup gs, .lst ls], .tup [.tup [], .tup ls], .non, .str "board", .tup [.tup ls, .tup gs], .dct [] [], .int 5, .bl true]) = some (.lst (tp30 gs ls)) := addD_lst _ _ (by simp [tp22, tp18])
  obtain ⟨v, hv, hx⟩ := atI_some (xs := tp30 gs ls) p (by show r < 30; exact q)
  have ix : ixO (.val (.lst (tp30 gs ls))) (.val (.int r)) = some (.val v) := by
    show (atI _ r).map O.val = _
    rw [hx]; rfl
  refine ⟨v, o', ?_, f, ?_⟩
  · unfold F__law_topped
    rw [runF_eq]
    clear hx hv hg hl
    generalize D.lst (tp30 gs ls) = M3 at *
    generalize D.lst (tp22 gs ls) = M2 at *
    generalize D.lst (tp18 gs ls) = M1 at *
    generalize D.lst gs = GL at *
    generalize D.lst ls = LL at *
    generalize D.tup gs = GT at *
    generalize D.tup ls = LT at *
    simp [b__law_topped, lg, ll, mu, a1, a2, t, ix]
    first | rfl | exact ⟨rfl, rfl⟩
  · have tg := hg.tot
    have tl := hl.tot
    have lg := hg.len
    have ll := hl.len
    have sg : D.wzs gs ≤ 400000 := Nat.le_trans tg (Nat.le_trans (Nat.mul_le_mul (show gs.length ≤ 100 by omega) (show W + 2 ≤ 4000 by omega)) (by decide))
    have sl : D.wzs ls ≤ 400000 := Nat.le_trans tl (Nat.le_trans (Nat.mul_le_mul (show ls.length ≤ 100 by omega) (show W + 2 ≤ 4000 by omega)) (by decide))
    have fg := fit_tl hg.fit
    have fl := fit_tl hl.fit
    have two : ∀ {a b : D}, D.fit (n + 1) a = true → D.fit (n + 1) b = true → D.fit (n + 2) (.tup [a, b]) = true ∧ D.fit (n + 2) (.lst [a, b]) = true := fun {a b} ha hb => fit_tl fun d hd => by
      rcases List.mem_cons.mp hd with rfl | hd
      · exact ha
      · rw [List.mem_singleton.mp hd]; exact hb
    have e0 : D.fit (n + 1) (.tup []) = true := rfl
    rcases List.mem_append.mp hv with hv | hv
    · rcases List.mem_append.mp hv with hv | hv
      · rw [List.eq_of_mem_replicate hv]
        exact ⟨(two fg.1 fl.1).1, by show (D.wzs gs + 3) + 2 + ((D.wzs ls + 3) + 2 + 0) + 3 ≤ _; omega⟩
      · simp only [List.mem_cons, List.not_mem_nil, or_false] at hv
        rcases hv with rfl | rfl | rfl | rfl
        · exact ⟨(two fg.1 fl.1).2, by show (D.wzs gs + 3) + 2 + ((D.wzs ls + 3) + 2 + 0) + 3 ≤ _; omega⟩
        · exact ⟨(fit_tl (n := n + 1) fun d hd => by rw [List.mem_singleton.mp hd]; exact fg.1).1, by show (D.wzs gs + 3) + 2 + 0 + 3 ≤ _; omega⟩
        · exact ⟨(fit_tl (n := n + 1) fun d hd => by
            simp only [List.mem_cons, List.not_mem_nil, or_false] at hd
            rcases hd with rfl | rfl | rfl
            · exact fg.1
            · exact fl.1
            · exact e0).1, by show (D.wzs gs + 3) + 2 + ((D.wzs ls + 3) + 2 + ((0 + 3) + 2 + 0)) + 3 ≤ _; omega⟩
        · exact ⟨(two fg.2 fl.1).1, by show (D.wzs gs + 3) + 2 + ((D.wzs ls + 3) + 2 + 0) + 3 ≤ _; omega⟩
    · simp only [List.mem_cons, List.not_mem_nil, or_false] at hv
      rcases hv with rfl | rfl | rfl | rfl | rfl | rfl | rfl | rfl
      · exact ⟨(two fg.1 fl.2).1, by show (D.wzs gs + 3) + 2 + ((D.wzs ls + 3) + 2 + 0) + 3 ≤ _; omega⟩
      · exact ⟨(two e0 fl.1).1, by show (0 + 3) + 2 + ((D.wzs ls + 3) + 2 + 0) + 3 ≤ _; omega⟩
      · exact ⟨rfl, by decide⟩
      · exact ⟨fit_le (show D.fit 0 (.str "board") = true from rfl) (by omega), by decide⟩
      · exact ⟨(two fl.1 fg.1).1, by show (D.wzs ls + 3) + 2 + ((D.wzs gs + 3) + 2 + 0) + 3 ≤ _; omega⟩
      · exact ⟨rfl, by decide⟩
      · exact ⟨fit_le (show D.fit 0 (.int 5) = true from rfl) (by omega), by decide⟩
      · exact ⟨rfl, by decide⟩
theorem turn13 {n W L : Nat} (x0 x1 x6 : Option O) (i : Int) (o : O) (k : Int) (h : Fok (k + 11) o) (hk : 0 ≤ k) (hn : 4 ≤ n) (hW : 1000 ≤ W) {gs ls : List D} (hg : Ro n W L gs) (hl : Ro n W L ls) (hL : L ≤ 100) {ns : List (List Nat)} (hN : ∀ l ∈ ns, NameOk l) (h0 : 0 < ns.length) (h1 : ns.length ≤ 1000) : ∃ gs' ls' o', fstep (aN 6) b1_law (.int i) (E_law x0 x1 (some (.val (nsV ns))) (some (.val (.lst gs))) (some (.val (.lst ls))) (some o) x6) = .ok .nx (E_law x0 x1 (some (.val (nsV ns))) (some (.val (.lst gs'))) (some (.val (.lst ls'))) (some o') (some (.val (.int i)))) ∧ Fok k o' ∧ Ro (n + 1) (W + 1100) (L + 26) gs' ∧ Ro (n + 1) (W + 1100) (L + 26) ls' := by
  obtain ⟨r, o1, t, f, p, q⟩ := take o 2 (k + 10) (h.less (by omega)) (by omega) (by decide) (by decide)
  by_cases e : r = 0
  · obtain ⟨gs', r', o2, eb, er, f2, R⟩ := bent_ok o1 k f hk hn hW hg hL hN h0 h1
    refine ⟨gs', ls, o2, ?_, f2, R, hl.more (by omega) (by omega) (by omega)⟩
    generalize nsV ns = NS at *
    generalize D.lst gs = G0 at *
    generalize D.lst gs' = G1 at *
    generalize D.lst ls = L0 at *
    simp [b1_law, t, e, eb, er]
  · obtain ⟨ls', r', o2, eb, er, f2, R⟩ := bent_ok o1 k f hk hn hW hl hL hN h0 h1
    refine ⟨gs, ls', o2, ?_, f2, hg.more (by omega) (by omega) (by omega), R⟩
    generalize nsV ns = NS at *
    generalize D.lst gs = G0 at *
    generalize D.lst ls' = L1 at *
    generalize D.lst ls = L0 at *
    simp [b1_law, t, e, eb, er]
theorem law_q1 {b : Bd} (h : BOk b) (x0 : Option O) : q1_law (E_law x0 (some (.val (bD b)))) = .ok (sO (b.gs.map Gd.nm)) (E_law x0 (some (.val (bD b)))) := by
  have it : D.items? (.tup (b.gs.map gD)) = some (b.gs.map gD) := rfl
  have b0 := bD_0 b
  have g2 := h.g2
  rw [show sO (b.gs.map Gd.nm) = .lst (b.gs.map fun g => O.val (sD g.nm)) from by unfold sO vO; rw [List.map_map, List.map_map]; rfl]
  refine comp_map gD (fun g => O.val (sD g.nm)) (by generalize bD b = BB at *; generalize D.tup (b.gs.map gD) = T at *; simp [b0, it]) (by omega) (by decide) (fun x _ => ?_)
  have x0 := gD_0 x
  generalize gD x = GX at *
  generalize bD b = BB at *
  simp [x0]
theorem law_q2 {b : Bd} (h : BOk b) (x0 : Option O) : q2_law (E_law x0 (some (.val (bD b)))) = .ok (sO (b.ls.map Ld.nm)) (E_law x0 (some (.val (bD b)))) := by
  have it : D.items? (.tup (b.ls.map lD)) = some (b.ls.map lD) := rfl
  have b0 := bD_1 b
  have g2 := h.l2
  rw [show sO (b.ls.map Ld.nm) = .lst (b.ls.map fun g => O.val (sD g.nm)) from by unfold sO vO; rw [List.map_map, List.map_map]; rfl]
  refine comp_map lD (fun g => O.val (sD g.nm)) (by generalize bD b = BB at *; generalize D.tup (b.ls.map lD) = T at *; simp [b0, it]) (by omega) (by decide) (fun x _ => ?_)
  have x0 := lD_0 x
  generalize lD x = GX at *
  generalize bD b = BB at *
  simp [x0]
theorem law_true (ns : List Int) (hl : ns.length ≤ 63) : ∃ r, F_law [.val (.scr ns)] = some (.val (.bl true), r) := by
  obtain ⟨b, eb, h⟩ := board (.scr ns) ns (.inl rfl)
  obtain ⟨o0, ef, f0⟩ := feed (x := .val (.scr ns)) (ns := ns) (.inl rfl) 42 (by omega)
  have ef : F__law_feed [.val (.scr ns), .val (.int 42)] = some (o0, [none, none]) := ef
  obtain ⟨r1, o1, t1, f1, p1, q1⟩ := take o0 2 (1000 : Int) (f0.less (by omega)) (by omega) (by decide) (by decide)
  have g1 := h.g1
  have g2 := h.g2
  have l2 := h.l2
  have b0 := bD_0 b
  have b1 := bD_1 b
  have k1 := law_q1 h (some (.val (.scr ns)))
  have k2 := law_q2 h (some (.val (.scr ns)))
  have a12 : lift2 addD (sO (b.gs.map Gd.nm)) (sO (b.ls.map Ld.nm)) = some (.val (nsV (b.gs.map Gd.nm ++ b.ls.map Ld.nm))) := by
    unfold lift2
    rw [sO_sh, sO_sh]
    show (addD _ _).map O.val = _
    rw [addD_lst _ _ (by simp; omega), ← List.map_append]; rfl
  have hN : ∀ l ∈ b.gs.map Gd.nm ++ b.ls.map Ld.nm, NameOk l := fun l hm => by
    rcases List.mem_append.mp hm with q | q
    · obtain ⟨g, hg, rfl⟩ := List.mem_map.mp q
      exact (h.gC hg).1
    · obtain ⟨x, hx, rfl⟩ := List.mem_map.mp q
      exact (h.lC hx).1
  have R0 : Ro 4 1100 25 (b.gs.map gD) := ⟨fun r hr => by
    obtain ⟨g, hg, rfl⟩ := List.mem_map.mp hr
    exact fit_up (gD_fit h hg).1, fun r hr => by
    obtain ⟨g, hg, rfl⟩ := List.mem_map.mp hr
    exact (gD_fit h hg).2, by rw [List.length_map]; omega⟩
  have R1 : Ro 4 1100 25 (b.ls.map lD) := ⟨fun r hr => by
    obtain ⟨g, hg, rfl⟩ := List.mem_map.mp hr
    exact fit_up (lD_fit h hg).1, fun r hr => by
    obtain ⟨g, hg, rfl⟩ := List.mem_map.mp hr
    exact (lD_fit h hg).2, by rw [List.length_map]; omega⟩
  have hn0 : 0 < (b.gs.map Gd.nm ++ b.ls.map Ld.nm).length := by simp; omega
  have hn1 : (b.gs.map Gd.nm ++ b.ls.map Ld.nm).length ≤ 1000 := by simp; omega
  have lg : listO (.val (.tup (b.gs.map gD))) = some (.val (.lst (b.gs.map gD))) := rfl
  have ll : listO (.val (.tup (b.ls.map lD))) = some (.val (.lst (b.ls.map lD))) := rfl
  obtain ⟨gs1, ls1, o2, st1, f2, G1, L1⟩ := turn13 (some (.val (.scr ns))) (some (.val (bD b))) none 0 o1 500 (f1.less (by omega)) (by omega) (by omega) (by omega) R0 R1 (by omega) hN hn0 hn1
  obtain ⟨gs2, ls2, o3, st2, f3, G2, L2⟩ := turn13 (some (.val (.scr ns))) (some (.val (bD b))) (some (.val (.int 0))) 1 o2 100 (f2.less (by omega)) (by omega) (by omega) (by omega) G1 L1 (by omega) hN hn0 hn1
  have lp : ∃ gs' ls' o' y6, forL (aN 6) b1_law (rangeL 0 (1 + r1).toNat) (E_law (some (.val (.scr ns))) (some (.val (bD b))) (some (.val (nsV (b.gs.map Gd.nm ++ b.ls.map Ld.nm)))) (some (.val (.lst (b.gs.map gD)))) (some (.val (.lst (b.ls.map lD)))) (some o1)) = .ok .nx (E_law (some (.val (.scr ns))) (some (.val (bD b))) (some (.val (nsV (b.gs.map Gd.nm ++ b.ls.map Ld.nm)))) (some (.val (.lst gs'))) (some (.val (.lst ls'))) (some o') y6) ∧ Fok 100 o' ∧ Ro 6 3300 77 gs' ∧ Ro 6 3300 77 ls' := by
    rcases (show r1 = 0 ∨ r1 = 1 by omega) with e | e
    · subst e
      refine ⟨gs1, ls1, o2, some (.val (.int 0)), ?_, f2.less (by omega), G1.more (by omega) (by omega) (by omega), L1.more (by omega) (by omega) (by omega)⟩
      rw [show rangeL 0 (1 + (0 : Int)).toNat = [.int 0] from rfl, forL_step, st1]
      rfl
    · subst e
      refine ⟨gs2, ls2, o3, some (.val (.int 1)), ?_, f3, G2, L2⟩
      rw [show rangeL 0 (1 + (1 : Int)).toNat = [.int 0, .int 1] from rfl, forL_step, st1]
      show forL (aN 6) b1_law [.int 1] _ = _
      rw [forL_step, st2]
      rfl
  obtain ⟨gs', ls', o4, y6, lp, f4, G4, L4⟩ := lp
  have sm : small (1 + r1) = true := by
    have := small_nat (n := (1 + r1).toNat) (by omega)
    rw [show (((1 + r1).toNat : Nat) : Int) = 1 + r1 by omega] at this
    exact this
  have rk : ∀ ρ : FB.Env, r1K (.ok (.val (.int (1 + r1))) ρ) = .ok (rangeL 0 (1 + r1).toNat) ρ := fun ρ => if_pos sm
  obtain ⟨v, o5, tp, _, hv⟩ := topped_ok o4 50 (f4.less (by omega)) (by omega) G4 L4 (by omega) (by omega) (by omega)
  have rt := right_any hv (by omega)
  have tg : tupO (.val (.lst gs')) = some (.val (.tup gs')) := by simp
  have tl : tupO (.val (.lst ls')) = some (.val (.tup ls')) := by simp
  refine ⟨[none], ?_⟩
  unfold F_law
  rw [runF_eq]
  clear st1 st2 G1 L1 G2 L2 G4 L4 R0 R1 hN hn0 hn1
  generalize nsV (b.gs.map Gd.nm ++ b.ls.map Ld.nm) = NS at *
  generalize sO (b.gs.map Gd.nm) = S1 at *
  generalize sO (b.ls.map Ld.nm) = S2 at *
  generalize D.lst (b.gs.map gD) = GL at *
  generalize D.lst (b.ls.map lD) = LL at *
  generalize D.tup (b.gs.map gD) = GT at *
  generalize D.tup (b.ls.map lD) = LT at *
  generalize D.lst gs' = GL' at *
  generalize D.lst ls' = LL' at *
  generalize D.tup gs' = GT' at *
  generalize D.tup ls' = LT' at *
  generalize rangeL 0 (1 + r1).toNat = RG at *
  generalize bD b = BB at *
  simp [b_law, eb, k1, k2, a12, b0, b1, lg, ll, ef, t1, rk, lp, tg, tl, tp, rt]
  try first | rfl | exact ⟨rfl, rfl⟩

end Lw

open PySem PySem.W PySem.Calls PyProof.Rows in
set_option maxRecDepth 100000 in
set_option maxHeartbeats 0 in
theorem PySem.Challenge.cw_fuseboard_k13_bent_boards_holds : PySem.Challenge.rw_fuseboard_k13_bent_boards.Holds := by
  w_on; o_law
  refine HandSHeadRun.head_any (r := OpenLaw.row PySem.Challenge.rw_fuseboard_k13_bent_boards) (q := view (OpenLaw.row PySem.Challenge.rw_fuseboard_k13_bent_boards).prog [49]) (H := Wk.hk) (ob := Wk.ob) (M := 12000) (loose := Wk.loose) (d := HandSHeadRun.topDef (OpenLaw.row PySem.Challenge.rw_fuseboard_k13_bent_boards).prog 49) (kwd := []) Wk.ob_eq
    (by kernel_rfl) (fun s => by kernel_rfl) Wk.run (by kernel_rfl) (by kernel_rfl) (by kernel_rfl) (by rfl) (by first | assumption | decide +kernel) (by decide +kernel) ⟨rfl, rfl, rfl, rfl, rfl, by decide +kernel⟩ ?hw ?hc
  case hw => w_witness2
  case hc =>
    refine FB.walk_at (l := PySem.Challenge.rw_fuseboard_k13_bent_boards) (n := 63) (x := "_law_script") rfl (by decide) (by kernel_rfl) ?F
    intro w mg fa h Y G hmg0
    obtain ⟨K, KX, c⟩ := Y
    have hmg : mg ("law" : PySem.Str) = some (.ref fa) := by
      have e : (HandSHeadRun.topDef (OpenLaw.row PySem.Challenge.rw_fuseboard_k13_bent_boards).prog 49).name = ("law" : PySem.Str) := by kernel_rfl
      rw [← e]
      exact hmg0
    obtain ⟨fd, hb, hF⟩ := Wk.facts (P := (PySem.Challenge.rw_fuseboard_k13_bent_boards).prog) (w := w) KX G hmg c
    exact ⟨K, fd, _, KX, hb, fun H a ns hl hS => FB.law_end (Lw.law_true ns hl) hS, hF⟩
#print axioms PySem.Challenge.cw_fuseboard_k13_bent_boards_holds


